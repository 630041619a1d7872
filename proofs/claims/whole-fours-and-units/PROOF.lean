import PyProof.Rows.All
import HandS.HeadHook1
import HandS.HeadHook2
import HandS.HeadNt
import HandS.Head0
import HandS.Head1
import HandS.Head2
import HandS.Head3
import HandS.HeadEnd
import PySem.Challenge.RW_signfours_k81_whole_fours_and_units
import Wide.All
import OpenK.AllK
import Wide.FinOn
import HandS.ForMost
import HandS.Wide
import HandS.Flow
import HandS.Slots
import HandS.SlotsOwn
import HandS.Codes
import HandS.Evl
import HandS.Walk
import HandS.Style
import HandS.TupAny
import HandS.Zip
import HandS.IsInst
import HandS.Star
import HandS.TupSets
import KE.DataAny
import KE.DataMinMax
import KE.SortData
import KE.KMathG
import HandS.Gcd
import HandS.Conv
import HandS.SortInts
import HandS.NoneIn
import HandS.Defaults
import HandS.More
import HandS.WideMore
import PyProof.AssignAttr
import OpenK.KMeth
import KE.KOpsOwn
import PyProof.InstNe
import KE.GoesMore
import KE.GoesZip
import KE.GoesEnum
import HandS.GenOver
import HandS.GenList
import HandS.GenYield
import HandS.GenCall
import HandS.Dict
import PyProof.DictUpdate
import PyProof.Rows.RuleB_pow
set_option Elab.async false
set_option linter.all false
set_option maxRecDepth 100000
set_option maxHeartbeats 0
set_option exponentiation.threshold 4000
/-! The text, the facts of the written part, the head's looks -/
namespace TL
open PySem PySem.Spec PyProof.Rows L2

/-- a sort, as a text names it -/
inductive Tg where
  | ty (n : String) | cl (c : Nat)
  deriving DecidableEq
def tgV (cl : Nat → Addr) : Tg → Value
  | .ty n => .type n
  | .cl c => .ref (cl c)
def topS (i : Nat) : Stmt := PySem.Challenge.pw_signfours_k81_whole_fours_and_units.main.body.getD i (.Pass ⟨0, 0, 0, 0⟩)
def clN : Nat → Str
  | 0 => "Terms"
  | 1 => "Ratio"
  | 2 => "Algebra"
  | 3 => "Parts"
  | 4 => "Four"
  | 5 => "Made"
  | 6 => "Lattice"
  | 7 => "Weights"
  | _ => ""
def clK (K : PySem.W.Frag) (c : Nat) : Addr := He.ga K (clN c)
/-- the getter of a property -/
def pgA (K : PySem.W.Frag) (c : Nat) (f : Str) : Addr := match PySem.W.recIn K (He.ma K (clK K c) f) "property" with
  | some (.ref g :: _) => g
  | _ => 0
abbrev s_is_whole_ratios : Stmt := topS 16
abbrev q_is_whole_ratios : Str := "is_whole"
abbrev a_is_whole_ratios (K : PySem.W.Frag) : Addr := He.ga K "is_whole_ratios"
def d_is_whole_ratios : He5.DefA := ⟨a_is_whole_ratios, "is_whole", q_is_whole_ratios, defArgs s_is_whole_ratios, defBody s_is_whole_ratios, defScope s_is_whole_ratios, [], []⟩
abbrev s_is_integer : Stmt := topS 18
abbrev q_is_integer : Str := "is_integer"
abbrev a_is_integer (K : PySem.W.Frag) : Addr := He.ga K "is_integer"
def d_is_integer : He5.DefA := ⟨a_is_integer, "is_integer", q_is_integer, defArgs s_is_integer, defBody s_is_integer, defScope s_is_integer, [], []⟩
abbrev s_common_of : Stmt := topS 20
abbrev q_common_of : Str := "common_of"
abbrev a_common_of (K : PySem.W.Frag) : Addr := He.ga K "common_of"
def d_common_of : He5.DefA := ⟨a_common_of, "common_of", q_common_of, defArgs s_common_of, defBody s_common_of, defScope s_common_of, [], []⟩
abbrev s_Terms___init__ : Stmt := inClass (topS 22) 1
abbrev q_Terms___init__ : Str := "Terms.__init__"
abbrev a_Terms___init__ (K : PySem.W.Frag) : Addr := He.ma K (clK K 0) "__init__"
def d_Terms___init__ : He5.DefA := ⟨a_Terms___init__, "__init__", q_Terms___init__, defArgs s_Terms___init__, defBody s_Terms___init__, defScope s_Terms___init__, [], []⟩
abbrev s_Ratio___init__ : Stmt := inClass (topS 23) 1
abbrev q_Ratio___init__ : Str := "Ratio.__init__"
abbrev a_Ratio___init__ (K : PySem.W.Frag) : Addr := He.ma K (clK K 1) "__init__"
def d_Ratio___init__ : He5.DefA := ⟨a_Ratio___init__, "__init__", q_Ratio___init__, defArgs s_Ratio___init__, defBody s_Ratio___init__, defScope s_Ratio___init__, [.int 1], []⟩
abbrev s_ratio_of : Stmt := topS 25
abbrev q_ratio_of : Str := "ratio_of"
abbrev a_ratio_of (K : PySem.W.Frag) : Addr := He.ga K "ratio_of"
def d_ratio_of : He5.DefA := ⟨a_ratio_of, "ratio_of", q_ratio_of, defArgs s_ratio_of, defBody s_ratio_of, defScope s_ratio_of, [], []⟩
abbrev s_Ratio___eq__ : Stmt := inClass (topS 23) 12
abbrev q_Ratio___eq__ : Str := "Ratio.__eq__"
abbrev a_Ratio___eq__ (K : PySem.W.Frag) : Addr := He.ma K (clK K 1) "__eq__"
def d_Ratio___eq__ : He5.DefA := ⟨a_Ratio___eq__, "__eq__", q_Ratio___eq__, defArgs s_Ratio___eq__, defBody s_Ratio___eq__, defScope s_Ratio___eq__, [], []⟩
abbrev s_is_number : Stmt := topS 31
abbrev q_is_number : Str := "is_number"
abbrev a_is_number (K : PySem.W.Frag) : Addr := He.ga K "is_number"
def d_is_number : He5.DefA := ⟨a_is_number, "is_number", q_is_number, defArgs s_is_number, defBody s_is_number, defScope s_is_number, [], []⟩
abbrev s_require_number : Stmt := topS 32
abbrev q_require_number : Str := "require_number"
abbrev a_require_number (K : PySem.W.Frag) : Addr := He.ga K "require_number"
def d_require_number : He5.DefA := ⟨a_require_number, "require_number", q_require_number, defArgs s_require_number, defBody s_require_number, defScope s_require_number, [], []⟩
abbrev s_parted_by : Stmt := topS 36
abbrev q_parted_by : Str := "parted_by"
abbrev a_parted_by (K : PySem.W.Frag) : Addr := He.ga K "parted_by"
def d_parted_by : He5.DefA := ⟨a_parted_by, "parted_by", q_parted_by, defArgs s_parted_by, defBody s_parted_by, defScope s_parted_by, [], []⟩
abbrev s_raw_product : Stmt := topS 38
abbrev q_raw_product : Str := "raw_product"
abbrev a_raw_product (K : PySem.W.Frag) : Addr := He.ga K "raw_product"
def d_raw_product : He5.DefA := ⟨a_raw_product, "raw_product", q_raw_product, defArgs s_raw_product, defBody s_raw_product, defScope s_raw_product, [], []⟩
abbrev s_raw_mate : Stmt := topS 39
abbrev q_raw_mate : Str := "raw_mate"
abbrev a_raw_mate (K : PySem.W.Frag) : Addr := He.ga K "raw_mate"
def d_raw_mate : He5.DefA := ⟨a_raw_mate, "raw_mate", q_raw_mate, defArgs s_raw_mate, defBody s_raw_mate, defScope s_raw_mate, [], []⟩
abbrev s_raw_norm : Stmt := topS 40
abbrev q_raw_norm : Str := "raw_norm"
abbrev a_raw_norm (K : PySem.W.Frag) : Addr := He.ga K "raw_norm"
def d_raw_norm : He5.DefA := ⟨a_raw_norm, "raw_norm", q_raw_norm, defArgs s_raw_norm, defBody s_raw_norm, defScope s_raw_norm, [], []⟩
abbrev s_sign_by_two : Stmt := topS 43
abbrev q_sign_by_two : Str := "sign_by_two"
abbrev a_sign_by_two (K : PySem.W.Frag) : Addr := He.ga K "sign_by_two"
def d_sign_by_two : He5.DefA := ⟨a_sign_by_two, "sign_by_two", q_sign_by_two, defArgs s_sign_by_two, defBody s_sign_by_two, defScope s_sign_by_two, [], []⟩
abbrev s_sign_by_prime : Stmt := topS 44
abbrev q_sign_by_prime : Str := "sign_by_prime"
abbrev a_sign_by_prime (K : PySem.W.Frag) : Addr := He.ga K "sign_by_prime"
def d_sign_by_prime : He5.DefA := ⟨a_sign_by_prime, "sign_by_prime", q_sign_by_prime, defArgs s_sign_by_prime, defBody s_sign_by_prime, defScope s_sign_by_prime, [], []⟩
abbrev s_sign_of : Stmt := topS 45
abbrev q_sign_of : Str := "sign_of"
abbrev a_sign_of (K : PySem.W.Frag) : Addr := He.ga K "sign_of"
def d_sign_of : He5.DefA := ⟨a_sign_of, "sign_of", q_sign_of, defArgs s_sign_of, defBody s_sign_of, defScope s_sign_of, [], []⟩
abbrev s_factors_of : Stmt := topS 33
abbrev q_factors_of : Str := "factors_of"
abbrev a_factors_of (K : PySem.W.Frag) : Addr := He.ga K "factors_of"
def d_factors_of : He5.DefA := ⟨a_factors_of, "factors_of", q_factors_of, defArgs s_factors_of, defBody s_factors_of, defScope s_factors_of, [], []⟩
abbrev s_places_of : Stmt := topS 46
abbrev q_places_of : Str := "places_of"
abbrev a_places_of (K : PySem.W.Frag) : Addr := He.ga K "places_of"
def d_places_of : He5.DefA := ⟨a_places_of, "places_of", q_places_of, defArgs s_places_of, defBody s_places_of, defScope s_places_of, [], []⟩
abbrev s_lowest : Stmt := topS 53
abbrev q_lowest : Str := "lowest"
abbrev a_lowest (K : PySem.W.Frag) : Addr := He.ga K "lowest"
def d_lowest : He5.DefA := ⟨a_lowest, "lowest", q_lowest, defArgs s_lowest, defBody s_lowest, defScope s_lowest, [], []⟩
abbrev s_Algebra___init__ : Stmt := inClass (topS 56) 1
abbrev q_Algebra___init__ : Str := "Algebra.__init__"
abbrev a_Algebra___init__ (K : PySem.W.Frag) : Addr := He.ma K (clK K 2) "__init__"
def d_Algebra___init__ : He5.DefA := ⟨a_Algebra___init__, "__init__", q_Algebra___init__, defArgs s_Algebra___init__, defBody s_Algebra___init__, defScope s_Algebra___init__, [], []⟩
abbrev s_Algebra_is_definite : Stmt := inClass (topS 56) 7
abbrev q_Algebra_is_definite : Str := "Algebra.is_definite"
abbrev a_Algebra_is_definite (K : PySem.W.Frag) : Addr := pgA K 2 "is_definite"
def d_Algebra_is_definite : He5.DefA := ⟨a_Algebra_is_definite, "is_definite", q_Algebra_is_definite, defArgs s_Algebra_is_definite, defBody s_Algebra_is_definite, defScope s_Algebra_is_definite, [], []⟩
abbrev s_Algebra___eq__ : Stmt := inClass (topS 56) 9
abbrev q_Algebra___eq__ : Str := "Algebra.__eq__"
abbrev a_Algebra___eq__ (K : PySem.W.Frag) : Addr := He.ma K (clK K 2) "__eq__"
def d_Algebra___eq__ : He5.DefA := ⟨a_Algebra___eq__, "__eq__", q_Algebra___eq__, defArgs s_Algebra___eq__, defBody s_Algebra___eq__, defScope s_Algebra___eq__, [], []⟩
abbrev s_Parts___init__ : Stmt := inClass (topS 57) 1
abbrev q_Parts___init__ : Str := "Parts.__init__"
abbrev a_Parts___init__ (K : PySem.W.Frag) : Addr := He.ma K (clK K 3) "__init__"
def d_Parts___init__ : He5.DefA := ⟨a_Parts___init__, "__init__", q_Parts___init__, defArgs s_Parts___init__, defBody s_Parts___init__, defScope s_Parts___init__, [], []⟩
abbrev s_parts_told : Stmt := topS 58
abbrev q_parts_told : Str := "parts_told"
abbrev a_parts_told (K : PySem.W.Frag) : Addr := He.ga K "parts_told"
def d_parts_told : He5.DefA := ⟨a_parts_told, "parts_told", q_parts_told, defArgs s_parts_told, defBody s_parts_told, defScope s_parts_told, [], []⟩
abbrev s_require_algebra : Stmt := topS 61
abbrev q_require_algebra : Str := "require_algebra"
abbrev a_require_algebra (K : PySem.W.Frag) : Addr := He.ga K "require_algebra"
def d_require_algebra : He5.DefA := ⟨a_require_algebra, "require_algebra", q_require_algebra, defArgs s_require_algebra, defBody s_require_algebra, defScope s_require_algebra, [], []⟩
abbrev s_Four___init__ : Stmt := inClass (topS 59) 1
abbrev q_Four___init__ : Str := "Four.__init__"
abbrev a_Four___init__ (K : PySem.W.Frag) : Addr := He.ma K (clK K 4) "__init__"
def d_Four___init__ : He5.DefA := ⟨a_Four___init__, "__init__", q_Four___init__, defArgs s_Four___init__, defBody s_Four___init__, defScope s_Four___init__, [.int 1], []⟩
abbrev s_four_made : Stmt := topS 60
abbrev q_four_made : Str := "four_made"
abbrev a_four_made (K : PySem.W.Frag) : Addr := He.ga K "four_made"
def d_four_made : He5.DefA := ⟨a_four_made, "four_made", q_four_made, defArgs s_four_made, defBody s_four_made, defScope s_four_made, [.int 1], []⟩
abbrev s_Four_algebra : Stmt := inClass (topS 59) 2
abbrev q_Four_algebra : Str := "Four.algebra"
abbrev a_Four_algebra (K : PySem.W.Frag) : Addr := pgA K 4 "algebra"
def d_Four_algebra : He5.DefA := ⟨a_Four_algebra, "algebra", q_Four_algebra, defArgs s_Four_algebra, defBody s_Four_algebra, defScope s_Four_algebra, [], []⟩
abbrev s_Four_entries : Stmt := inClass (topS 59) 3
abbrev q_Four_entries : Str := "Four.entries"
abbrev a_Four_entries (K : PySem.W.Frag) : Addr := pgA K 4 "entries"
def d_Four_entries : He5.DefA := ⟨a_Four_entries, "entries", q_Four_entries, defArgs s_Four_entries, defBody s_Four_entries, defScope s_Four_entries, [], []⟩
abbrev s_Four_bottom : Stmt := inClass (topS 59) 4
abbrev q_Four_bottom : Str := "Four.bottom"
abbrev a_Four_bottom (K : PySem.W.Frag) : Addr := pgA K 4 "bottom"
def d_Four_bottom : He5.DefA := ⟨a_Four_bottom, "bottom", q_Four_bottom, defArgs s_Four_bottom, defBody s_Four_bottom, defScope s_Four_bottom, [], []⟩
abbrev s_Four_norm : Stmt := inClass (topS 59) 6
abbrev q_Four_norm : Str := "Four.norm"
abbrev a_Four_norm (K : PySem.W.Frag) : Addr := pgA K 4 "norm"
def d_Four_norm : He5.DefA := ⟨a_Four_norm, "norm", q_Four_norm, defArgs s_Four_norm, defBody s_Four_norm, defScope s_Four_norm, [], []⟩
abbrev s_Four_mate : Stmt := inClass (topS 59) 8
abbrev q_Four_mate : Str := "Four.mate"
abbrev a_Four_mate (K : PySem.W.Frag) : Addr := He.ma K (clK K 4) "mate"
def d_Four_mate : He5.DefA := ⟨a_Four_mate, "mate", q_Four_mate, defArgs s_Four_mate, defBody s_Four_mate, defScope s_Four_mate, [], []⟩
abbrev s_Four_inverse : Stmt := inClass (topS 59) 9
abbrev q_Four_inverse : Str := "Four.inverse"
abbrev a_Four_inverse (K : PySem.W.Frag) : Addr := He.ma K (clK K 4) "inverse"
def d_Four_inverse : He5.DefA := ⟨a_Four_inverse, "inverse", q_Four_inverse, defArgs s_Four_inverse, defBody s_Four_inverse, defScope s_Four_inverse, [], []⟩
abbrev s_require_same_algebra : Stmt := topS 64
abbrev q_require_same_algebra : Str := "require_same_algebra"
abbrev a_require_same_algebra (K : PySem.W.Frag) : Addr := He.ga K "require_same_algebra"
def d_require_same_algebra : He5.DefA := ⟨a_require_same_algebra, "require_same_algebra", q_require_same_algebra, defArgs s_require_same_algebra, defBody s_require_same_algebra, defScope s_require_same_algebra, [], []⟩
abbrev s_Four___add__ : Stmt := inClass (topS 59) 12
abbrev q_Four___add__ : Str := "Four.__add__"
abbrev a_Four___add__ (K : PySem.W.Frag) : Addr := He.ma K (clK K 4) "__add__"
def d_Four___add__ : He5.DefA := ⟨a_Four___add__, "__add__", q_Four___add__, defArgs s_Four___add__, defBody s_Four___add__, defScope s_Four___add__, [], []⟩
abbrev s_Four___neg__ : Stmt := inClass (topS 59) 15
abbrev q_Four___neg__ : Str := "Four.__neg__"
abbrev a_Four___neg__ (K : PySem.W.Frag) : Addr := He.ma K (clK K 4) "__neg__"
def d_Four___neg__ : He5.DefA := ⟨a_Four___neg__, "__neg__", q_Four___neg__, defArgs s_Four___neg__, defBody s_Four___neg__, defScope s_Four___neg__, [], []⟩
abbrev s_Four___sub__ : Stmt := inClass (topS 59) 13
abbrev q_Four___sub__ : Str := "Four.__sub__"
abbrev a_Four___sub__ (K : PySem.W.Frag) : Addr := He.ma K (clK K 4) "__sub__"
def d_Four___sub__ : He5.DefA := ⟨a_Four___sub__, "__sub__", q_Four___sub__, defArgs s_Four___sub__, defBody s_Four___sub__, defScope s_Four___sub__, [], []⟩
abbrev s_Four___mul__ : Stmt := inClass (topS 59) 14
abbrev q_Four___mul__ : Str := "Four.__mul__"
abbrev a_Four___mul__ (K : PySem.W.Frag) : Addr := He.ma K (clK K 4) "__mul__"
def d_Four___mul__ : He5.DefA := ⟨a_Four___mul__, "__mul__", q_Four___mul__, defArgs s_Four___mul__, defBody s_Four___mul__, defScope s_Four___mul__, [], []⟩
abbrev s_Four___eq__ : Stmt := inClass (topS 59) 16
abbrev q_Four___eq__ : Str := "Four.__eq__"
abbrev a_Four___eq__ (K : PySem.W.Frag) : Addr := He.ma K (clK K 4) "__eq__"
def d_Four___eq__ : He5.DefA := ⟨a_Four___eq__, "__eq__", q_Four___eq__, defArgs s_Four___eq__, defBody s_Four___eq__, defScope s_Four___eq__, [], []⟩
abbrev s_is_four_of : Stmt := topS 62
abbrev q_is_four_of : Str := "is_four_of"
abbrev a_is_four_of (K : PySem.W.Frag) : Addr := He.ga K "is_four_of"
def d_is_four_of : He5.DefA := ⟨a_is_four_of, "is_four_of", q_is_four_of, defArgs s_is_four_of, defBody s_is_four_of, defScope s_is_four_of, [], []⟩
abbrev s_require_definite : Stmt := topS 63
abbrev q_require_definite : Str := "require_definite"
abbrev a_require_definite (K : PySem.W.Frag) : Addr := He.ga K "require_definite"
def d_require_definite : He5.DefA := ⟨a_require_definite, "require_definite", q_require_definite, defArgs s_require_definite, defBody s_require_definite, defScope s_require_definite, [], []⟩
abbrev s_row_less : Stmt := topS 67
abbrev q_row_less : Str := "row_less"
abbrev a_row_less (K : PySem.W.Frag) : Addr := He.ga K "row_less"
def d_row_less : He5.DefA := ⟨a_row_less, "row_less", q_row_less, defArgs s_row_less, defBody s_row_less, defScope s_row_less, [], []⟩
abbrev s_led_rows : Stmt := topS 68
abbrev q_led_rows : Str := "led_rows"
abbrev a_led_rows (K : PySem.W.Frag) : Addr := He.ga K "led_rows"
def d_led_rows : He5.DefA := ⟨a_led_rows, "led_rows", q_led_rows, defArgs s_led_rows, defBody s_led_rows, defScope s_led_rows, [], []⟩
abbrev s_plain_rows : Stmt := topS 69
abbrev q_plain_rows : Str := "plain_rows"
abbrev a_plain_rows (K : PySem.W.Frag) : Addr := He.ga K "plain_rows"
def d_plain_rows : He5.DefA := ⟨a_plain_rows, "plain_rows", q_plain_rows, defArgs s_plain_rows, defBody s_plain_rows, defScope s_plain_rows, [], []⟩
abbrev s_are_rows_with : Stmt := topS 70
abbrev q_are_rows_with : Str := "are_rows_with"
abbrev a_are_rows_with (K : PySem.W.Frag) : Addr := He.ga K "are_rows_with"
def d_are_rows_with : He5.DefA := ⟨a_are_rows_with, "are_rows_with", q_are_rows_with, defArgs s_are_rows_with, defBody s_are_rows_with, defScope s_are_rows_with, [], []⟩
abbrev s_lowered : Stmt := topS 71
abbrev q_lowered : Str := "lowered"
abbrev a_lowered (K : PySem.W.Frag) : Addr := He.ga K "lowered"
def d_lowered : He5.DefA := ⟨a_lowered, "lowered", q_lowered, defArgs s_lowered, defBody s_lowered, defScope s_lowered, [], []⟩
abbrev s_minor : Stmt := topS 72
abbrev q_minor : Str := "minor"
abbrev a_minor (K : PySem.W.Frag) : Addr := He.ga K "minor"
def d_minor : He5.DefA := ⟨a_minor, "minor", q_minor, defArgs s_minor, defBody s_minor, defScope s_minor, [], []⟩
abbrev s_cofactors : Stmt := topS 73
abbrev q_cofactors : Str := "cofactors"
abbrev a_cofactors (K : PySem.W.Frag) : Addr := He.ga K "cofactors"
def d_cofactors : He5.DefA := ⟨a_cofactors, "cofactors", q_cofactors, defArgs s_cofactors, defBody s_cofactors, defScope s_cofactors, [], []⟩
abbrev s_determinant : Stmt := topS 74
abbrev q_determinant : Str := "determinant"
abbrev a_determinant (K : PySem.W.Frag) : Addr := He.ga K "determinant"
def d_determinant : He5.DefA := ⟨a_determinant, "determinant", q_determinant, defArgs s_determinant, defBody s_determinant, defScope s_determinant, [], []⟩
abbrev s_Made___init__ : Stmt := inClass (topS 80) 1
abbrev q_Made___init__ : Str := "Made.__init__"
abbrev a_Made___init__ (K : PySem.W.Frag) : Addr := He.ma K (clK K 5) "__init__"
def d_Made___init__ : He5.DefA := ⟨a_Made___init__, "__init__", q_Made___init__, defArgs s_Made___init__, defBody s_Made___init__, defScope s_Made___init__, [], []⟩
abbrev s_told_by : Stmt := topS 82
abbrev q_told_by : Str := "told_by"
abbrev a_told_by (K : PySem.W.Frag) : Addr := He.ga K "told_by"
def d_told_by : He5.DefA := ⟨a_told_by, "told_by", q_told_by, defArgs s_told_by, defBody s_told_by, defScope s_told_by, [], []⟩
abbrev s_Lattice___init__ : Stmt := inClass (topS 83) 1
abbrev q_Lattice___init__ : Str := "Lattice.__init__"
abbrev a_Lattice___init__ (K : PySem.W.Frag) : Addr := He.ma K (clK K 6) "__init__"
def d_Lattice___init__ : He5.DefA := ⟨a_Lattice___init__, "__init__", q_Lattice___init__, defArgs s_Lattice___init__, defBody s_Lattice___init__, defScope s_Lattice___init__, [], []⟩
abbrev s_Lattice_algebra : Stmt := inClass (topS 83) 2
abbrev q_Lattice_algebra : Str := "Lattice.algebra"
abbrev a_Lattice_algebra (K : PySem.W.Frag) : Addr := pgA K 6 "algebra"
def d_Lattice_algebra : He5.DefA := ⟨a_Lattice_algebra, "algebra", q_Lattice_algebra, defArgs s_Lattice_algebra, defBody s_Lattice_algebra, defScope s_Lattice_algebra, [], []⟩
abbrev s_product_raw : Stmt := topS 87
abbrev q_product_raw : Str := "product_raw"
abbrev a_product_raw (K : PySem.W.Frag) : Addr := He.ga K "product_raw"
def d_product_raw : He5.DefA := ⟨a_product_raw, "product_raw", q_product_raw, defArgs s_product_raw, defBody s_product_raw, defScope s_product_raw, [], []⟩
abbrev s_has_raw : Stmt := topS 88
abbrev q_has_raw : Str := "has_raw"
abbrev a_has_raw (K : PySem.W.Frag) : Addr := He.ga K "has_raw"
def d_has_raw : He5.DefA := ⟨a_has_raw, "has_raw", q_has_raw, defArgs s_has_raw, defBody s_has_raw, defScope s_has_raw, [], []⟩
abbrev s_Lattice___contains__ : Stmt := inClass (topS 83) 18
abbrev q_Lattice___contains__ : Str := "Lattice.__contains__"
abbrev a_Lattice___contains__ (K : PySem.W.Frag) : Addr := He.ma K (clK K 6) "__contains__"
def d_Lattice___contains__ : He5.DefA := ⟨a_Lattice___contains__, "__contains__", q_Lattice___contains__, defArgs s_Lattice___contains__, defBody s_Lattice___contains__, defScope s_Lattice___contains__, [], []⟩
abbrev s_lattice_with : Stmt := topS 84
abbrev q_lattice_with : Str := "lattice_with"
abbrev a_lattice_with (K : PySem.W.Frag) : Addr := He.ga K "lattice_with"
def d_lattice_with : He5.DefA := ⟨a_lattice_with, "lattice_with", q_lattice_with, defArgs s_lattice_with, defBody s_lattice_with, defScope s_lattice_with, [], []⟩
abbrev s_norm_top : Stmt := topS 91
abbrev q_norm_top : Str := "norm_top"
abbrev a_norm_top (K : PySem.W.Frag) : Addr := He.ga K "norm_top"
def d_norm_top : He5.DefA := ⟨a_norm_top, "norm_top", q_norm_top, defArgs s_norm_top, defBody s_norm_top, defScope s_norm_top, [], []⟩
abbrev s_is_whole_hurwitz : Stmt := topS 93
abbrev q_is_whole_hurwitz : Str := "is_whole"
abbrev a_is_whole_hurwitz (K : PySem.W.Frag) : Addr := He.ga K "is_whole_hurwitz"
def d_is_whole_hurwitz : He5.DefA := ⟨a_is_whole_hurwitz, "is_whole", q_is_whole_hurwitz, defArgs s_is_whole_hurwitz, defBody s_is_whole_hurwitz, defScope s_is_whole_hurwitz, [], []⟩
abbrev s_whole_lattice : Stmt := topS 95
abbrev q_whole_lattice : Str := "whole_lattice"
abbrev a_whole_lattice (K : PySem.W.Frag) : Addr := He.ga K "whole_lattice"
def d_whole_lattice : He5.DefA := ⟨a_whole_lattice, "whole_lattice", q_whole_lattice, defArgs s_whole_lattice, defBody s_whole_lattice, defScope s_whole_lattice, [], []⟩
abbrev s_found_outside : Stmt := topS 100
abbrev q_found_outside : Str := "found_outside"
abbrev a_found_outside (K : PySem.W.Frag) : Addr := He.ga K "found_outside"
def d_found_outside : He5.DefA := ⟨a_found_outside, "found_outside", q_found_outside, defArgs s_found_outside, defBody s_found_outside, defScope s_found_outside, [], []⟩
abbrev s_is_order : Stmt := topS 101
abbrev q_is_order : Str := "is_order"
abbrev a_is_order (K : PySem.W.Frag) : Addr := He.ga K "is_order"
def d_is_order : He5.DefA := ⟨a_is_order, "is_order", q_is_order, defArgs s_is_order, defBody s_is_order, defScope s_is_order, [], []⟩
abbrev s_require_order : Stmt := topS 102
abbrev q_require_order : Str := "require_order"
abbrev a_require_order (K : PySem.W.Frag) : Addr := He.ga K "require_order"
def d_require_order : He5.DefA := ⟨a_require_order, "require_order", q_require_order, defArgs s_require_order, defBody s_require_order, defScope s_require_order, [], []⟩
abbrev s_trace_table : Stmt := topS 103
abbrev q_trace_table : Str := "trace_table"
abbrev a_trace_table (K : PySem.W.Frag) : Addr := He.ga K "trace_table"
def d_trace_table : He5.DefA := ⟨a_trace_table, "trace_table", q_trace_table, defArgs s_trace_table, defBody s_trace_table, defScope s_trace_table, [], []⟩
abbrev s_discriminant_of : Stmt := topS 104
abbrev q_discriminant_of : Str := "discriminant_of"
abbrev a_discriminant_of (K : PySem.W.Frag) : Addr := He.ga K "discriminant_of"
def d_discriminant_of : He5.DefA := ⟨a_discriminant_of, "discriminant_of", q_discriminant_of, defArgs s_discriminant_of, defBody s_discriminant_of, defScope s_discriminant_of, [], []⟩
abbrev s_order_discriminant : Stmt := topS 105
abbrev q_order_discriminant : Str := "order_discriminant"
abbrev a_order_discriminant (K : PySem.W.Frag) : Addr := He.ga K "order_discriminant"
def d_order_discriminant : He5.DefA := ⟨a_order_discriminant, "order_discriminant", q_order_discriminant, defArgs s_order_discriminant, defBody s_order_discriminant, defScope s_order_discriminant, [], []⟩
abbrev s_is_greatest_order : Stmt := topS 106
abbrev q_is_greatest_order : Str := "is_greatest_order"
abbrev a_is_greatest_order (K : PySem.W.Frag) : Addr := He.ga K "is_greatest_order"
def d_is_greatest_order : He5.DefA := ⟨a_is_greatest_order, "is_greatest_order", q_is_greatest_order, defArgs s_is_greatest_order, defBody s_is_greatest_order, defScope s_is_greatest_order, [], []⟩
abbrev s_is_greatest : Stmt := topS 107
abbrev q_is_greatest : Str := "is_greatest"
abbrev a_is_greatest (K : PySem.W.Frag) : Addr := He.ga K "is_greatest"
def d_is_greatest : He5.DefA := ⟨a_is_greatest, "is_greatest", q_is_greatest, defArgs s_is_greatest, defBody s_is_greatest, defScope s_is_greatest, [], []⟩
abbrev s_twice_inner : Stmt := topS 110
abbrev q_twice_inner : Str := "twice_inner"
abbrev a_twice_inner (K : PySem.W.Frag) : Addr := He.ga K "twice_inner"
def d_twice_inner : He5.DefA := ⟨a_twice_inner, "twice_inner", q_twice_inner, defArgs s_twice_inner, defBody s_twice_inner, defScope s_twice_inner, [], []⟩
abbrev s_shortened_by_pairs : Stmt := topS 111
abbrev q_shortened_by_pairs : Str := "shortened_by_pairs"
abbrev a_shortened_by_pairs (K : PySem.W.Frag) : Addr := He.ga K "shortened_by_pairs"
def d_shortened_by_pairs : He5.DefA := ⟨a_shortened_by_pairs, "shortened_by_pairs", q_shortened_by_pairs, defArgs s_shortened_by_pairs, defBody s_shortened_by_pairs, defScope s_shortened_by_pairs, [], []⟩
abbrev s_small_mixes : Stmt := topS 112
abbrev q_small_mixes : Str := "small_mixes"
abbrev a_small_mixes (K : PySem.W.Frag) : Addr := He.ga K "small_mixes"
def d_small_mixes : He5.DefA := ⟨a_small_mixes, "small_mixes", q_small_mixes, defArgs s_small_mixes, defBody s_small_mixes, defScope s_small_mixes, [], []⟩
abbrev s_shorter_row : Stmt := topS 113
abbrev q_shorter_row : Str := "shorter_row"
abbrev a_shorter_row (K : PySem.W.Frag) : Addr := He.ga K "shorter_row"
def d_shorter_row : He5.DefA := ⟨a_shorter_row, "shorter_row", q_shorter_row, defArgs s_shorter_row, defBody s_shorter_row, defScope s_shorter_row, [], []⟩
abbrev s_shortened : Stmt := topS 114
abbrev q_shortened : Str := "shortened"
abbrev a_shortened (K : PySem.W.Frag) : Addr := He.ga K "shortened"
def d_shortened : He5.DefA := ⟨a_shortened, "shortened", q_shortened, defArgs s_shortened, defBody s_shortened, defScope s_shortened, [], []⟩
abbrev s_Weights___init__ : Stmt := inClass (topS 115) 1
abbrev q_Weights___init__ : Str := "Weights.__init__"
abbrev a_Weights___init__ (K : PySem.W.Frag) : Addr := He.ma K (clK K 7) "__init__"
def d_Weights___init__ : He5.DefA := ⟨a_Weights___init__, "__init__", q_Weights___init__, defArgs s_Weights___init__, defBody s_Weights___init__, defScope s_Weights___init__, [], []⟩
abbrev s_Weights_most_at : Stmt := inClass (topS 115) 2
abbrev q_Weights_most_at : Str := "Weights.most_at"
abbrev a_Weights_most_at (K : PySem.W.Frag) : Addr := He.ma K (clK K 7) "most_at"
def d_Weights_most_at : He5.DefA := ⟨a_Weights_most_at, "most_at", q_Weights_most_at, defArgs s_Weights_most_at, defBody s_Weights_most_at, defScope s_Weights_most_at, [], []⟩
abbrev s_Weights_starts : Stmt := inClass (topS 115) 3
abbrev q_Weights_starts : Str := "Weights.starts"
abbrev a_Weights_starts (K : PySem.W.Frag) : Addr := He.ma K (clK K 7) "starts"
def d_Weights_starts : He5.DefA := ⟨a_Weights_starts, "starts", q_Weights_starts, defArgs s_Weights_starts, defBody s_Weights_starts, defScope s_Weights_starts, [], []⟩
abbrev s_Weights_sums_with : Stmt := inClass (topS 115) 4
abbrev q_Weights_sums_with : Str := "Weights.sums_with"
abbrev a_Weights_sums_with (K : PySem.W.Frag) : Addr := He.ma K (clK K 7) "sums_with"
def d_Weights_sums_with : He5.DefA := ⟨a_Weights_sums_with, "sums_with", q_Weights_sums_with, defArgs s_Weights_sums_with, defBody s_Weights_sums_with, defScope s_Weights_sums_with, [], []⟩
abbrev s_raw_fours : Stmt := topS 116
abbrev q_raw_fours : Str := "raw_fours"
abbrev a_raw_fours (K : PySem.W.Frag) : Addr := He.ga K "raw_fours"
def d_raw_fours : He5.DefA := ⟨a_raw_fours, "raw_fours", q_raw_fours, defArgs s_raw_fours, defBody s_raw_fours, defScope s_raw_fours, [], []⟩
abbrev s_fours_found : Stmt := topS 117
abbrev q_fours_found : Str := "fours_found"
abbrev a_fours_found (K : PySem.W.Frag) : Addr := He.ga K "fours_found"
def d_fours_found : He5.DefA := ⟨a_fours_found, "fours_found", q_fours_found, defArgs s_fours_found, defBody s_fours_found, defScope s_fours_found, [], []⟩
abbrev s_units : Stmt := topS 118
abbrev q_units : Str := "units"
abbrev a_units (K : PySem.W.Frag) : Addr := He.ga K "units"
def d_units : He5.DefA := ⟨a_units, "units", q_units, defArgs s_units, defBody s_units, defScope s_units, [], []⟩
abbrev s__law_pot : Stmt := topS 120
abbrev q__law_pot : Str := "_law_pot"
abbrev a__law_pot (K : PySem.W.Frag) : Addr := He.ga K "_law_pot"
def d__law_pot : He5.DefA := ⟨a__law_pot, "_law_pot", q__law_pot, defArgs s__law_pot, defBody s__law_pot, defScope s__law_pot, [], []⟩
abbrev s__law_dip : Stmt := topS 121
abbrev q__law_dip : Str := "_law_dip"
abbrev a__law_dip (K : PySem.W.Frag) : Addr := He.ga K "_law_dip"
def d__law_dip : He5.DefA := ⟨a__law_dip, "_law_dip", q__law_dip, defArgs s__law_dip, defBody s__law_dip, defScope s__law_dip, [], []⟩
abbrev s__law_pick : Stmt := topS 122
abbrev q__law_pick : Str := "_law_pick"
abbrev a__law_pick (K : PySem.W.Frag) : Addr := He.ga K "_law_pick"
def d__law_pick : He5.DefA := ⟨a__law_pick, "_law_pick", q__law_pick, defArgs s__law_pick, defBody s__law_pick, defScope s__law_pick, [], []⟩
abbrev s__law_times : Stmt := topS 123
abbrev q__law_times : Str := "_law_times"
abbrev a__law_times (K : PySem.W.Frag) : Addr := He.ga K "_law_times"
def d__law_times : He5.DefA := ⟨a__law_times, "_law_times", q__law_times, defArgs s__law_times, defBody s__law_times, defScope s__law_times, [], []⟩
abbrev s__law_norm : Stmt := topS 124
abbrev q__law_norm : Str := "_law_norm"
abbrev a__law_norm (K : PySem.W.Frag) : Addr := He.ga K "_law_norm"
def d__law_norm : He5.DefA := ⟨a__law_norm, "_law_norm", q__law_norm, defArgs s__law_norm, defBody s__law_norm, defScope s__law_norm, [], []⟩
abbrev s__law_four : Stmt := topS 126
abbrev q__law_four : Str := "_law_four"
abbrev a__law_four (K : PySem.W.Frag) : Addr := He.ga K "_law_four"
def d__law_four : He5.DefA := ⟨a__law_four, "_law_four", q__law_four, defArgs s__law_four, defBody s__law_four, defScope s__law_four, [], []⟩
abbrev s__law_twice : Stmt := topS 127
abbrev q__law_twice : Str := "_law_twice"
abbrev a__law_twice (K : PySem.W.Frag) : Addr := He.ga K "_law_twice"
def d__law_twice : He5.DefA := ⟨a__law_twice, "_law_twice", q__law_twice, defArgs s__law_twice, defBody s__law_twice, defScope s__law_twice, [], []⟩
abbrev s__law_whole : Stmt := topS 128
abbrev q__law_whole : Str := "_law_whole"
abbrev a__law_whole (K : PySem.W.Frag) : Addr := He.ga K "_law_whole"
def d__law_whole : He5.DefA := ⟨a__law_whole, "_law_whole", q__law_whole, defArgs s__law_whole, defBody s__law_whole, defScope s__law_whole, [], []⟩
abbrev s__law_units : Stmt := topS 129
abbrev q__law_units : Str := "_law_units"
abbrev a__law_units (K : PySem.W.Frag) : Addr := He.ga K "_law_units"
def d__law_units : He5.DefA := ⟨a__law_units, "_law_units", q__law_units, defArgs s__law_units, defBody s__law_units, defScope s__law_units, [], []⟩
abbrev s__law_is_whole : Stmt := topS 130
abbrev q__law_is_whole : Str := "_law_is_whole"
abbrev a__law_is_whole (K : PySem.W.Frag) : Addr := He.ga K "_law_is_whole"
def d__law_is_whole : He5.DefA := ⟨a__law_is_whole, "_law_is_whole", q__law_is_whole, defArgs s__law_is_whole, defBody s__law_is_whole, defScope s__law_is_whole, [], []⟩
abbrev s__law_near_right : Stmt := topS 131
abbrev q__law_near_right : Str := "_law_near_right"
abbrev a__law_near_right (K : PySem.W.Frag) : Addr := He.ga K "_law_near_right"
def d__law_near_right : He5.DefA := ⟨a__law_near_right, "_law_near_right", q__law_near_right, defArgs s__law_near_right, defBody s__law_near_right, defScope s__law_near_right, [], []⟩
abbrev s__law_right : Stmt := topS 132
abbrev q__law_right : Str := "_law_right"
abbrev a__law_right (K : PySem.W.Frag) : Addr := He.ga K "_law_right"
def d__law_right : He5.DefA := ⟨a__law_right, "_law_right", q__law_right, defArgs s__law_right, defBody s__law_right, defScope s__law_right, [], []⟩
abbrev s_law : Stmt := topS 133
abbrev q_law : Str := "law"
abbrev a_law (K : PySem.W.Frag) : Addr := He.ga K "law"
def d_law : He5.DefA := ⟨a_law, "law", q_law, defArgs s_law, defBody s_law, defScope s_law, [], []⟩
def fnL : List He5.DefA := [d_is_whole_ratios, d_is_integer, d_common_of, d_Terms___init__, d_Ratio___init__, d_ratio_of, d_Ratio___eq__, d_is_number, d_require_number, d_parted_by, d_raw_product, d_raw_mate, d_raw_norm, d_sign_by_two, d_sign_by_prime, d_sign_of, d_factors_of, d_places_of, d_lowest, d_Algebra___init__, d_Algebra_is_definite, d_Algebra___eq__, d_Parts___init__, d_parts_told, d_require_algebra, d_Four___init__, d_four_made, d_Four_algebra, d_Four_entries, d_Four_bottom, d_Four_norm, d_Four_mate, d_Four_inverse, d_require_same_algebra, d_Four___add__, d_Four___neg__, d_Four___sub__, d_Four___mul__, d_Four___eq__, d_is_four_of] ++ ([d_require_definite, d_row_less, d_led_rows, d_plain_rows, d_are_rows_with, d_lowered, d_minor, d_cofactors, d_determinant, d_Made___init__, d_told_by, d_Lattice___init__, d_Lattice_algebra, d_product_raw, d_has_raw, d_Lattice___contains__, d_lattice_with, d_norm_top, d_is_whole_hurwitz, d_whole_lattice, d_found_outside, d_is_order, d_require_order, d_trace_table, d_discriminant_of, d_order_discriminant, d_is_greatest_order, d_is_greatest, d_twice_inner, d_shortened_by_pairs, d_small_mixes, d_shorter_row, d_shortened, d_Weights___init__, d_Weights_most_at] ++ [d_Weights_starts, d_Weights_sums_with, d_raw_fours, d_fours_found, d_units, d__law_pot, d__law_dip, d__law_pick, d__law_times, d__law_norm, d__law_four, d__law_twice, d__law_whole, d__law_units, d__law_is_whole, d__law_near_right, d__law_right, d_law])

inductive Fx where
  | gl (x : Str) | fr (x : Str) | it (x : Str) (i : Int) | bq | tp (x : Str) (vs : List Int) | cls (c : Nat) | slot (c : Nat) (f : Str) (i : Nat)
  | meth (c : Nat) (m : Str) | mk (c : Nat) | prop (c : Nat) (f : Str) | ne (c : Nat) | first (c : Nat) | kit (k t : Tg) (b : Bool) | nf (c : Nat) (t : Tg)
def eqV (a : Option Value) (b : Value) : Bool := decide (a = some b)
def Fx.ok (K : PySem.W.Frag) : Fx → Bool
  | .gl x => He.eqO (PySem.W.nsIn K mainGlobals x) (some (some (.ref (He.ga K x))))
  | .fr x => He.eqO (PySem.W.nsIn K mainGlobals x) (some none)
  | .it x i => (He.Fa.int x i).ok K
  | .bq => He.eqO (PySem.W.nsIn K mainGlobals "isqrt") (some (some (.builtin "math.isqrt")))
  | .tp x vs => He.tupB K x (vs.map He.Dv.int)
  | .cls c => (PySem.W.plainGet K (clK K c) Str.empty && (PySem.W.isClsIn K (clK K c) && (PySem.W.plainOver K (clK K c) && He.eqO (PySem.W.findIn K (.ref (clK K c)) "__setattr__") (some (some (.builtin "object.__setattr__")))))) &&
      (He.eqO (PySem.W.findIn K (.ref (clK K c)) "__class__") (some (some (.builtin "object.__class__"))) && (He.eqO (PySem.W.specialIn K (.builtin "object.__class__") "__get__") (some (some (.builtin "getset_descriptor.__get__"))) &&
        (decide (PySem.W.takesIn K (.builtin "object.__class__") = some true) && decide (PySem.W.mroIn K (clK K c) (.type "object") = some true))))
  | .slot c f i => He.eqO (PySem.W.findIn K (.ref (clK K c)) f) (some (some (.ref (He.ma K (clK K c) f)))) && (He.eqO (PySem.W.specialIn K (.ref (He.ma K (clK K c) f)) "__get__") (some (some (.builtin "member_descriptor.__get__"))) &&
      (decide (PySem.W.takesIn K (.ref (He.ma K (clK K c) f)) = some true) && (eqV (PySem.W.typeIn K (.ref (He.ma K (clK K c) f))) (.type "member_descriptor") && (decide (PySem.W.slotIn K (He.ma K (clK K c) f) (clK K c) = some i) && decide (i < 1000)))))
  | .meth c m => He.eqO (PySem.W.findIn K (.ref (clK K c)) m) (some (some (.ref (He.ma K (clK K c) m)))) && (PySem.W.isFn K (.ref (He.ma K (clK K c) m)) && PySem.W.keepIn K (.ref (He.ma K (clK K c) m)))
  | .mk c => PySem.W.makesIn K (clK K c) && (He.eqO (PySem.W.findIn K (.ref (clK K c)) "__init__") (some (some (.ref (He.ma K (clK K c) "__init__")))) && (PySem.W.isFn K (.ref (He.ma K (clK K c) "__init__")) && PySem.W.keepIn K (.ref (clK K c))))
  | .prop c f => He.eqO (PySem.W.findIn K (.ref (clK K c)) f) (some (some (.ref (He.ma K (clK K c) f)))) && (He.eqO (PySem.W.specialIn K (.ref (He.ma K (clK K c) f)) "__get__") (some (some (.builtin "property.__get__"))) &&
      (decide (PySem.W.takesIn K (.ref (He.ma K (clK K c) f)) = some true) && (match PySem.W.recIn K (He.ma K (clK K c) f) "property" with
        | some (.ref _ :: _) => true
        | _ => false)))
  | .ne c => He.eqO (PySem.W.findIn K (.ref (clK K c)) "__ne__") (some (some (.builtin "object.__ne__"))) && decide (PySem.W.subIn K (.ref (clK K c)) (.type "object") = some true)
  | .first c => PySem.W.selfFirst K (clK K c)
  | .kit k t b => decide (PySem.W.kitOne K (tgV (clK K) t) (tgV (clK K) k) = some b)
  | .nf c t => PySem.W.notFirst K (clK K c) (tgV (clK K) t)
def fx0 : List Fx := [.gl "is_whole_ratios", .gl "is_integer", .gl "common_of", .gl "ratio_of", .gl "is_number", .gl "require_number", .gl "parted_by", .gl "raw_product", .gl "raw_mate", .gl "raw_norm", .gl "sign_by_two", .gl "sign_by_prime", .gl "sign_of", .gl "factors_of", .gl "places_of", .gl "lowest", .gl "parts_told", .gl "require_algebra", .gl "four_made", .gl "require_same_algebra", .gl "is_four_of", .gl "require_definite", .gl "row_less", .gl "led_rows", .gl "plain_rows", .gl "are_rows_with", .gl "lowered", .gl "minor", .gl "cofactors", .gl "determinant"]
def fx1 : List Fx := [.gl "told_by", .gl "product_raw", .gl "has_raw", .gl "lattice_with", .gl "norm_top", .gl "is_whole_hurwitz", .gl "whole_lattice", .gl "found_outside", .gl "is_order", .gl "require_order", .gl "trace_table", .gl "discriminant_of", .gl "order_discriminant", .gl "is_greatest_order", .gl "is_greatest", .gl "twice_inner", .gl "shortened_by_pairs", .gl "small_mixes", .gl "shorter_row", .gl "shortened", .gl "raw_fours", .gl "fours_found", .gl "units", .gl "_law_pot", .gl "_law_dip", .gl "_law_pick", .gl "_law_times", .gl "_law_norm", .gl "_law_four", .gl "_law_twice"]
def fx2 : List Fx := [.gl "_law_whole", .gl "_law_units", .gl "_law_is_whole", .gl "_law_near_right", .gl "_law_right", .gl "law", .gl "Terms", .gl "Ratio", .gl "Algebra", .gl "Parts", .gl "Four", .gl "Made", .gl "Lattice", .gl "Weights", .gl "SPOTS", .gl "STEPS", .gl "ONE_RAW", .fr "abs", .fr "len", .fr "sum", .fr "all", .fr "any", .fr "divmod", .fr "isinstance", .fr "max", .fr "min", .fr "sorted", .fr "int", .fr "bool", .fr "list"]
def fx3 : List Fx := [.fr "tuple", .fr "range", .fr "zip", .fr "enumerate", .it "BEYOND" (10 ^ 60), .it "MAX_NUMBER" (10 ^ 9), .it "REAL" 0, .it "MANY_ENTRIES" 4, .bq, .tp "SPOTS" [0, 1, 2, 3], .tp "STEPS" [-1, 0, 1], .tp "ONE_RAW" [1, 0, 0, 0], .cls 0, .cls 1, .cls 2, .cls 3, .cls 4, .cls 5, .cls 6, .cls 7, .mk 0, .mk 1, .mk 2, .mk 3, .mk 4, .mk 5, .mk 6, .mk 7, .slot 0 "own_bottom" 0, .slot 1 "own_bottom" 0]
def fx4 : List Fx := [.slot 3 "own_bottom" 0, .slot 4 "own_bottom" 1, .slot 5 "own_bottom" 0, .slot 6 "own_bottom" 1, .slot 0 "own_top" 1, .slot 1 "own_top" 1, .slot 2 "own_a" 0, .slot 2 "own_b" 1, .slot 2 "own_discriminant" 2, .slot 2 "own_places" 3, .slot 3 "own_entries" 1, .slot 4 "own_entries" 2, .slot 4 "own_algebra" 0, .slot 6 "own_algebra" 0, .slot 5 "own_rows" 1, .slot 6 "own_rows" 2, .slot 7 "own_rows" 1, .slot 7 "own_bounds" 0, .slot 7 "own_table" 2, .slot 7 "own_whole" 3, .meth 1 "__eq__", .meth 2 "__eq__", .meth 4 "mate", .meth 4 "inverse", .meth 4 "__add__", .meth 4 "__neg__", .meth 4 "__sub__", .meth 4 "__mul__", .meth 4 "__eq__", .meth 6 "__contains__"]
def fx5 : List Fx := [.meth 7 "most_at", .meth 7 "starts", .meth 7 "sums_with", .prop 2 "is_definite", .prop 4 "algebra", .prop 4 "entries", .prop 4 "bottom", .prop 4 "norm", .prop 6 "algebra", .ne 1, .ne 2, .ne 4, .first 4]
def fxL : List Fx := fx0 ++ (fx1 ++ (fx2 ++ (fx3 ++ (fx4 ++ (fx5)))))
def isiL : List ((Tg × Tg) × Bool) := [((.ty "int", .ty "int"), true), ((.ty "int", .ty "bool"), true), ((.ty "int", .cl 1), false), ((.ty "bool", .ty "int"), false), ((.ty "bool", .ty "bool"), true), ((.cl 0, .cl 0), true), ((.cl 1, .cl 1), true), ((.cl 2, .cl 2), true), ((.cl 3, .cl 3), true), ((.cl 3, .ty "tuple"), false), ((.ty "tuple", .ty "tuple"), true), ((.cl 4, .cl 4), true), ((.cl 4, .cl 6), false), ((.cl 4, .ty "tuple"), false), ((.cl 4, .ty "list"), false), ((.cl 4, .ty "NoneType"), false), ((.cl 4, .ty "int"), false), ((.cl 4, .ty "str"), false), ((.cl 4, .ty "bool"), false), ((.cl 5, .cl 5), true), ((.cl 6, .cl 6), true)]
def isiT (k t : Tg) : Option Bool := isiL.lookup (k, t)
def nfL : List (Nat × Tg) := [(1, .ty "int"), (1, .cl 1), (2, .cl 2), (4, .cl 4)]
def nfT (c : Nat) (t : Tg) : Bool := nfL.contains (c, t)
/-- all of it -/
def okK (K : PySem.W.Frag) : Bool := (fxL.all fun f => f.ok K) && ((isiL.all fun e => (Fx.kit e.1.1 e.1.2 e.2).ok K) && (nfL.all fun e => (Fx.nf e.1 e.2).ok K))
abbrev Rw : PySem.W.OpenRow := PySem.W.OpenLaw.row PySem.Challenge.rw_signfours_k81_whole_fours_and_units
def names0 : List PySem.Str := ["_wall", "FourError", "InvalidRatio", "InvalidAlgebra", "InvalidFour", "InvalidLattice", "InvalidOrder", "InvalidOperation", "ParseError", "InvalidNumber", "Refused", "BEYOND", "FIGURES", "is_whole", "is_whole_ratios", "is_integer", "require_integer", "common_of", "are_figures", "Terms", "Ratio", "sign_of_integer", "ratio_of", "ratio_text", "is_ratio_or_integer", "told_ratio", "MAX_NUMBER", "is_number", "require_number", "factors_of"]
def names1 : List PySem.Str := ["power_rest", "residue_sign_of", "parted_by", "raw_product", "raw_mate", "raw_norm", "REAL", "sign_by_two", "sign_by_prime", "sign_of", "places_of", "MAX_POWER", "MANY_ENTRIES", "LETTERS", "NORM", "DEFINITE", "lowest", "text_of", "text_over", "Algebra", "Parts", "parts_told", "Four", "four_made", "require_algebra", "is_four_of", "require_definite", "require_same_algebra", "SPOTS", "row_less"]
def names2 : List PySem.Str := ["led_rows", "plain_rows", "are_rows_with", "lowered", "minor", "cofactors", "determinant", "diagonal_product", "rows_across", "LEAST_FOURS", "MOST_FOURS", "Made", "rows_of_fours", "told_by", "Lattice", "lattice_with", "require_like", "require_factor", "product_raw", "has_raw", "lattice_sum", "across", "norm_top", "is_whole_hurwitz", "whole_lattice", "ONE", "PRODUCT", "ONE_RAW", "found_outside", "is_order"]
def names3 : List PySem.Str := ["require_order", "trace_table", "discriminant_of", "order_discriminant", "is_greatest_order", "is_greatest", "STEPS", "twice_inner", "shortened_by_pairs", "small_mixes", "shorter_row", "shortened", "Weights", "raw_fours", "fours_found", "units", "_law_pot", "_law_dip", "_law_pick", "_law_times", "_law_norm", "_law_mate", "_law_four", "_law_twice", "_law_whole", "_law_units", "_law_is_whole", "_law_near_right", "_law_right"]
def names : List PySem.Str := names0 ++ names1 ++ names2 ++ names3
def forceN {β : Type} : Nat → (Nat → β) → β
  | 0, k => k 0
  | n + 1, k => k (n + 1)
theorem forceN_eq {β : Type} : ∀ (n : Nat) (k : Nat → β), forceN n k = k n
  | 0, _ => rfl
  | _ + 1, _ => rfl
/-- the new ones among rs; seen: the bits of those that are known -/
def newOf {β : Type} : List Addr → Nat → List Addr → (Nat → List Addr → β) → β
  | [], seen, acc, k => k seen acc
  | r :: rs, seen, acc, k => forceN r fun q => match Nat.testBit seen q with
    | true => newOf rs seen acc k
    | false => forceN (seen ||| (1 <<< q)) fun sn => newOf rs sn (q :: acc) k
/-- the objects at fr, then what they name -/
def layer {β : Type} (g : Addr → Option Obj) : List Addr → Nat → List Addr → PySem.W.Frag → (Nat → List Addr → PySem.W.Frag → β) → β
  | [], seen, nx, K, k => k seen nx K
  | a :: fr, seen, nx, K, k => match g a with
    | some ⟨c, d, e, f⟩ => newOf (He.refsD ⟨c, d, e, f⟩) seen nx fun sn nx2 => layer g fr sn nx2 ((a, ⟨c, d, e, f⟩) :: K) k
    | none => layer g fr seen nx K k
def reachT {β : Type} (g : Addr → Option Obj) : Nat → List Addr → Nat → PySem.W.Frag → (PySem.W.Frag → β) → β
  | 0, _, _, K, k => k K
  | n + 1, fr, seen, K, k => layer g fr seen [] K fun sn nx K2 => reachT g n nx sn K2 k
def revK {β : Type} : PySem.W.Frag → PySem.W.Frag → (PySem.W.Frag → β) → β
  | [], acc, k => k acc
  | p :: r, acc, k => revK r (p :: acc) k
def ktop {β : Type} (g : Addr → Option Obj) (n : Nat) (k : PySem.W.Frag → β) : β := reachT g n [mainGlobals, cStatics] ((1 <<< mainGlobals) ||| (1 <<< cStatics)) [] fun K => revK K [] k
def obsT (K : PySem.W.Frag) : He.AlD := (okK K && fnL.all fun d => d.ok K, fnL.map fun d => He5.fnA K (d.at_ K))
def valT : He.AlD := (true, fnL.map He5.DefA.val)
theorem newOf_id {β : Type} : ∀ (rs : List Addr) (seen : Nat) (acc : List Addr) (k : Nat → List Addr → β), newOf rs seen acc k = k (newOf rs seen acc fun a _ => a) (newOf rs seen acc fun _ b => b)
  | [], _, _, _ => rfl
  | r :: rs, seen, acc, k => by
    unfold newOf
    simp only [forceN_eq]
    split
    · exact newOf_id rs seen acc k
    · exact newOf_id rs _ _ k
/-- what K holds stands at g -/
def InG (g : Addr → Option Obj) (K : PySem.W.Frag) : Prop := ∀ p ∈ K, g p.1 = some p.2
theorem newOf_ex (rs : List Addr) (seen : Nat) (acc : List Addr) : ∃ a b, ∀ (β : Type) (k : Nat → List Addr → β), newOf rs seen acc k = k a b := ⟨_, _, fun _ k => newOf_id rs seen acc k⟩
theorem layer_ex {g : Addr → Option Obj} : ∀ (fr : List Addr) (seen : Nat) (nx : List Addr) (K : PySem.W.Frag), InG g K → ∃ a b K', InG g K' ∧ ∀ (β : Type) (k : Nat → List Addr → PySem.W.Frag → β), layer g fr seen nx K k = k a b K'
  | [], seen, nx, K, h => ⟨_, _, K, h, fun _ _ => rfl⟩
  | a :: fr, seen, nx, K, h => by
    cases hg : g a with
    | none =>
      obtain ⟨x, y, K', h', e⟩ := layer_ex fr seen nx K h
      exact ⟨x, y, K', h', fun β k => by unfold layer; rw [hg]; exact e β k⟩
    | some o =>
      obtain ⟨c, d, e, f⟩ := o
      obtain ⟨x, y, e1⟩ := newOf_ex (He.refsD ⟨c, d, e, f⟩) seen nx
      obtain ⟨x2, y2, K', h', e2⟩ := layer_ex (g := g) fr x y ((a, ⟨c, d, e, f⟩) :: K) fun p hp => by
        rcases List.mem_cons.mp hp with rfl | hp
        · exact hg
        · exact h p hp
      exact ⟨x2, y2, K', h', fun β k => by unfold layer; rw [hg]; exact (e1 β _).trans (e2 β k)⟩
theorem reachT_ex {g : Addr → Option Obj} : ∀ (n : Nat) (fr : List Addr) (seen : Nat) (K : PySem.W.Frag), InG g K → ∃ K', InG g K' ∧ ∀ (β : Type) (k : PySem.W.Frag → β), reachT g n fr seen K k = k K'
  | 0, fr, seen, K, h => ⟨K, h, fun _ _ => rfl⟩
  | n + 1, fr, seen, K, h => by
    obtain ⟨x, y, K', h', e⟩ := layer_ex fr seen [] K h
    obtain ⟨K2, h2, e2⟩ := reachT_ex n y x K' h'
    exact ⟨K2, h2, fun β k => by unfold reachT; exact (e β _).trans (e2 β k)⟩
theorem revK_ex {g : Addr → Option Obj} : ∀ (K acc : PySem.W.Frag), InG g K → InG g acc → ∃ K', InG g K' ∧ ∀ (β : Type) (k : PySem.W.Frag → β), revK K acc k = k K'
  | [], acc, _, h => ⟨acc, h, fun _ _ => rfl⟩
  | p :: r, acc, h0, h => by
    obtain ⟨K', h', e⟩ := revK_ex (g := g) r (p :: acc) (fun q hq => h0 q (List.mem_cons_of_mem _ hq)) fun q hq => by
      rcases List.mem_cons.mp hq with rfl | hq
      · exact h0 _ (List.mem_cons_self ..)
      · exact h q hq
    exact ⟨K', h', fun β k => by unfold revK; exact e β k⟩
theorem ktop_ex {g : Addr → Option Obj} (n : Nat) : ∃ K, InG g K ∧ ∀ (β : Type) (k : PySem.W.Frag → β), ktop g n k = k K := by
  obtain ⟨K, h, e⟩ := reachT_ex (g := g) n [mainGlobals, cStatics] ((1 <<< mainGlobals) ||| (1 <<< cStatics)) [] fun p hp => by cases hp
  obtain ⟨K2, h2, e2⟩ := revK_ex K [] h fun p hp => by cases hp
  exact ⟨K2, h2, fun β k => by unfold ktop; exact (e β _).trans (e2 β k)⟩
theorem mem_lookup : ∀ {K : PySem.W.Frag} {a : Addr} {o : Obj}, K.lookup a = some o → (a, o) ∈ K
  | [], a, o, h => by cases h
  | (b, u) :: r, a, o, h => by
    rw [List.lookup_cons] at h
    split at h
    · rename_i e
      cases h
      have e2 : a = b := by simpa using e
      subst e2
      exact List.mem_cons_self ..
    · exact List.mem_cons_of_mem _ (mem_lookup h)
theorem InG.to {h : Heap} {K : PySem.W.Frag} (z : InG h.get? K) : K.In h := fun a o e => z (a, o) (mem_lookup e)
def hookT : PySem.W.Hook where
  α := He.AlD
  obs := fun s => ktop s.heap.get? 6 obsT
  val := fun _ => valT
  says := fun _ h => ∃ K : PySem.W.Frag, K.In h ∧ obsT K = valT
  of := fun _ s e => by
    obtain ⟨K, hK, ek⟩ := ktop_ex (g := s.heap.get?) 6
    exact ⟨K, hK.to, (ek _ obsT).symm.trans e⟩
  keeps := fun _ _ _ ⟨K, hK, c⟩ k => ⟨K, PySem.W.Frag.In.keeps hK k, c⟩
def obT (s : PySem.W.SharedT) : He.AlD := ktop (HandSHeadRun.getT s) 6 obsT
theorem obT_eq (s : PySem.W.SharedT) : obT s = hookT.obs s.abs := by
  have e : HandSHeadRun.getT s = s.abs.heap.get? := funext fun a => HandSHeadRun.getT_eq s a
  show ktop (HandSHeadRun.getT s) 6 obsT = ktop s.abs.heap.get? 6 obsT
  rw [e]
def okA (K : PySem.W.Frag) : Bool := (fx0.all fun f => f.ok K) && (fx1.all fun f => f.ok K) && (fx2.all fun f => f.ok K)
def okB (K : PySem.W.Frag) : Bool := (fx3.all fun f => f.ok K) && (fx4.all fun f => f.ok K)
def okC (K : PySem.W.Frag) : Bool := (fx5.all fun f => f.ok K) && ((isiL.all fun e => (Fx.kit e.1.1 e.1.2 e.2).ok K) && (nfL.all fun e => (Fx.nf e.1 e.2).ok K))
theorem okK_of {K : PySem.W.Frag} (a : okA K = true) (b : okB K = true) (c : okC K = true) : okK K = true := by
  unfold okA at a
  unfold okB at b
  unfold okC at c
  unfold okK fxL
  simp only [Bool.and_eq_true, List.all_append] at a b c ⊢
  obtain ⟨⟨a0, a1⟩, a2⟩ := a
  obtain ⟨a3, b4⟩ := b
  obtain ⟨b5, b6, b7⟩ := c
  exact ⟨⟨a0, a1, a2, a3, b4, b5⟩, b6, b7⟩
/-- some of the defs, looked at -/
def obD (L : List He5.DefA) (K : PySem.W.Frag) : He.AlD := (L.all fun d => d.ok K, L.map fun d => He5.fnA K (d.at_ K))
def vaD (L : List He5.DefA) : He.AlD := (true, L.map He5.DefA.val)
theorem obD_join {K : PySem.W.Frag} {L : List He5.DefA} (n : Nat) (a : obD (L.take n) K = vaD (L.take n)) (b : obD (L.drop n) K = vaD (L.drop n)) : obD L K = vaD L := by
  have a1 : ((L.take n).all fun d => d.ok K) = true := congrArg (fun z : He.AlD => z.1) a
  have b1 : ((L.drop n).all fun d => d.ok K) = true := congrArg (fun z : He.AlD => z.1) b
  have a2 : ((L.take n).map fun d => He5.fnA K (d.at_ K)) = (L.take n).map He5.DefA.val := congrArg (fun z : He.AlD => z.2) a
  have b2 : ((L.drop n).map fun d => He5.fnA K (d.at_ K)) = (L.drop n).map He5.DefA.val := congrArg (fun z : He.AlD => z.2) b
  have c1 : (L.all fun d => d.ok K) = true := by
    rw [← List.take_append_drop n L, List.all_append, a1, b1]
    rfl
  have c2 : (L.map fun d => He5.fnA K (d.at_ K)) = L.map He5.DefA.val := by
    rw [← List.take_append_drop n L, List.map_append, List.map_append, a2, b2]
  unfold obD vaD
  rw [c1, c2]
/-- a fact ahead of it -/
def obX (f : PySem.W.Frag → Bool) (L : List He5.DefA) (K : PySem.W.Frag) : He.AlD := (f K && L.all fun d => d.ok K, L.map fun d => He5.fnA K (d.at_ K))
theorem obX_two {f : PySem.W.Frag → Bool} {L : List He5.DefA} {K : PySem.W.Frag} (e : obX f L K = vaD L) : f K = true ∧ obD L K = vaD L := by
  obtain ⟨a, b⟩ := Bool.and_eq_true_iff.mp (congrArg (fun z : He.AlD => z.1) e : (f K && L.all fun d => d.ok K) = true)
  have c : (L.map fun d => He5.fnA K (d.at_ K)) = L.map He5.DefA.val := congrArg (fun z : He.AlD => z.2) e
  refine ⟨a, ?_⟩
  unfold obD vaD
  rw [b, c]
abbrev fnR : List He5.DefA := (fnL.drop 10).drop 8
theorem map_both {α : Type} {o : Option α} {f g : α → Bool} (h : o.map (fun x => f x && g x) = some true) : o.map (fun x => f x) = some true ∧ o.map (fun x => g x) = some true := by
  cases o with
  | none => cases h
  | some x =>
    obtain ⟨a, b⟩ := Bool.and_eq_true_iff.mp (Option.some.inj h)
    exact ⟨congrArg some a, congrArg some b⟩
theorem looks_two {p : Program} {ms : List Str} {o : Option (Shared × PySem.W.SharedT)} (e : ∀ (h : Heap) (s : Shared), HandSHeadRun.looksF p h s = (PySem.W.staticsOk ms h s.heap && PySem.W.namesBound p s.heap && PySem.W.gensDone s && PySem.W.laidKept h s.heap))
    (a : o.map (fun x => PySem.W.namesBound p x.2.abs.heap) = some true)
    (b : o.map (fun x => PySem.W.staticsOk ms x.1.heap x.2.abs.heap && PySem.W.gensDone x.2.abs && PySem.W.laidKept x.1.heap x.2.abs.heap) = some true) : o.map (fun x => HandSHeadRun.looksF p x.1.heap x.2.abs) = some true := by
  cases o with
  | none => cases a
  | some x =>
    have a := Option.some.inj a
    have b := Option.some.inj b
    obtain ⟨b1, b2⟩ := Bool.and_eq_true_iff.mp b
    obtain ⟨b3, b4⟩ := Bool.and_eq_true_iff.mp b1
    show some (HandSHeadRun.looksF p x.1.heap x.2.abs) = _
    rw [e, show PySem.W.namesBound p x.2.abs.heap = true from a, b2, b3, b4]
    rfl
/-- the looks, joined -/
theorem looks_join {α : Type} {v : α} {u : PySem.W.SharedT → α} {o : Option (Shared × PySem.W.SharedT)} {l : Shared × PySem.W.SharedT → Bool}
    (r0 : o.map (fun x => l x) = some true)
    (r1 : o.map (fun x => u x.2) = some v)
    (r2 : o.map (fun x => ktop (HandSHeadRun.getT x.2) 6 fun K => okC K) = some true)
    (r3 : o.map (fun x => ktop (HandSHeadRun.getT x.2) 6 fun K => obX okA (fnL.take 10) K) = some (vaD (fnL.take 10)))
    (r4 : o.map (fun x => ktop (HandSHeadRun.getT x.2) 6 fun K => obX okB ((fnL.drop 10).take 8) K) = some (vaD ((fnL.drop 10).take 8)))
    (r5 : o.map (fun x => ktop (HandSHeadRun.getT x.2) 6 fun K => obD (fnR.take 36) K) = some (vaD (fnR.take 36)))
    (r6 : o.map (fun x => ktop (HandSHeadRun.getT x.2) 6 fun K => obD (fnR.drop 36) K) = some (vaD (fnR.drop 36))) :
    o.map (fun x => (l x, u x.2, obT x.2)) = some (true, v, valT) := by
  cases o with
  | none => cases r0
  | some x =>
    obtain ⟨K, _, e⟩ := ktop_ex (g := HandSHeadRun.getT x.2) 6
    have r0 := Option.some.inj r0
    have r1 := Option.some.inj r1
    have r2 := (e _ _).symm.trans (Option.some.inj r2)
    have r3 := (e _ _).symm.trans (Option.some.inj r3)
    have r4 := (e _ _).symm.trans (Option.some.inj r4)
    have r5 := (e _ _).symm.trans (Option.some.inj r5)
    have r6 := (e _ _).symm.trans (Option.some.inj r6)
    obtain ⟨ra, r3⟩ := obX_two r3
    obtain ⟨rb, r4⟩ := obX_two r4
    have r7 : obD fnL K = vaD fnL := obD_join 10 r3 (obD_join 8 r4 (obD_join 36 r5 r6))
    have r8 : (fnL.all fun d => d.ok K) = true := congrArg (fun z : He.AlD => z.1) r7
    have r9 : (fnL.map fun d => He5.fnA K (d.at_ K)) = fnL.map He5.DefA.val := congrArg (fun z : He.AlD => z.2) r7
    have r10 : obT x.2 = valT := by
      unfold obT
      rw [e]
      unfold obsT valT
      rw [okK_of ra rb r2, r8, r9]
      rfl
    show some (l x, u x.2, obT x.2) = _
    rw [show l x = true from r0, show u x.2 = v from r1, r10]
abbrev qv : Program := PySem.W.view Rw.prog [0, 133]
end TL

/-! The head's run: one look -/
namespace TL
open PySem PySem.Spec PyProof.Rows L2
open HandSHeadRun PySem.W in
theorem runA (w : World) : (wholeF (fun p => stepQ (denQ tabQ) p w) fenceQ 20000 Rw.prog).map (fun x => namesBound Rw.prog x.2.abs.heap) = some true := by
  kernel_rfl
end TL

/-! The head's run: one look -/
namespace TL
open PySem PySem.Spec PyProof.Rows L2
open HandSHeadRun PySem.W in
theorem runB (w : World) : (wholeF (fun p => stepQ (denQ tabQ) p w) fenceQ 20000 Rw.prog).map (fun x => (staticsOk (importedModules Rw.prog.main.body) x.1.heap x.2.abs.heap && gensDone x.2.abs && laidKept x.1.heap x.2.abs.heap) && ktop (HandSHeadRun.getT x.2) 6 fun K => okC K) = some true := by
  kernel_rfl
end TL

/-! The head's run: one look -/
namespace TL
open PySem PySem.Spec PyProof.Rows L2
open HandSHeadRun PySem.W in
theorem runC (w : World) : (wholeF (fun p => stepQ (denQ tabQ) p w) fenceQ 20000 Rw.prog).map (fun x => seenQ qv names (importedModules Rw.prog.main.body) (fun s => xlAt qv [] s && recOk Rw.toRowW.records s) x.2.abs) = some (openGood qv names) := by
  kernel_rfl
end TL

/-! The head's run: one look -/
namespace TL
open PySem PySem.Spec PyProof.Rows L2
open HandSHeadRun PySem.W in
theorem runD (w : World) : (wholeF (fun p => stepQ (denQ tabQ) p w) fenceQ 20000 Rw.prog).map (fun x => ktop (HandSHeadRun.getT x.2) 6 fun K => obX okA (fnL.take 10) K) = some (vaD (fnL.take 10)) := by
  kernel_rfl
end TL

/-! The head's run: one look -/
namespace TL
open PySem PySem.Spec PyProof.Rows L2
open HandSHeadRun PySem.W in
theorem runE (w : World) : (wholeF (fun p => stepQ (denQ tabQ) p w) fenceQ 20000 Rw.prog).map (fun x => ktop (HandSHeadRun.getT x.2) 6 fun K => obX okB ((fnL.drop 10).take 8) K) = some (vaD ((fnL.drop 10).take 8)) := by
  kernel_rfl
end TL

/-! The head's run: one look -/
namespace TL
open PySem PySem.Spec PyProof.Rows L2
open HandSHeadRun PySem.W in
theorem runF (w : World) : (wholeF (fun p => stepQ (denQ tabQ) p w) fenceQ 20000 Rw.prog).map (fun x => ktop (HandSHeadRun.getT x.2) 6 fun K => obD (fnR.take 36) K) = some (vaD (fnR.take 36)) := by
  kernel_rfl
end TL

/-! The head's run: one look -/
namespace TL
open PySem PySem.Spec PyProof.Rows L2
open HandSHeadRun PySem.W in
theorem runG (w : World) : (wholeF (fun p => stepQ (denQ tabQ) p w) fenceQ 20000 Rw.prog).map (fun x => ktop (HandSHeadRun.getT x.2) 6 fun K => obD (fnR.drop 36) K) = some (vaD (fnR.drop 36)) := by
  kernel_rfl
end TL

/-! The head's looks, joined -/
namespace TL
open PySem PySem.Spec PyProof.Rows L2
theorem run_all (w : World) : HandSHeadRun.RunEqI Rw qv hookT obT 20000 names w := by
  have two := map_both (o := HandSHeadRun.wholeF (fun p => HandSHeadRun.stepQ (HandSHeadRun.denQ HandSHeadRun.tabQ) p w) HandSHeadRun.fenceQ 20000 Rw.prog) (f := fun x => PySem.W.staticsOk (importedModules Rw.prog.main.body) x.1.heap x.2.abs.heap && PySem.W.gensDone x.2.abs && PySem.W.laidKept x.1.heap x.2.abs.heap) (g := fun x => ktop (HandSHeadRun.getT x.2) 6 fun K => okC K) (runB w)
  exact looks_join (o := HandSHeadRun.wholeF (fun p => HandSHeadRun.stepQ (HandSHeadRun.denQ HandSHeadRun.tabQ) p w) HandSHeadRun.fenceQ 20000 Rw.prog) (l := fun x => HandSHeadRun.looksF Rw.prog x.1.heap x.2.abs)
    (u := fun s => HandSHeadRun.seenQ qv names (importedModules Rw.prog.main.body) (fun s => PySem.W.xlAt qv [] s && PySem.W.recOk Rw.toRowW.records s) s.abs) (v := PySem.W.openGood qv names)
    (looks_two (p := Rw.prog) (ms := importedModules Rw.prog.main.body) (o := HandSHeadRun.wholeF (fun p => HandSHeadRun.stepQ (HandSHeadRun.denQ HandSHeadRun.tabQ) p w) HandSHeadRun.fenceQ 20000 Rw.prog) (fun _ _ => rfl) (runA w) two.1) (runC w) two.2 (runD w) (runE w) (runF w) (runG w)
end TL

/-! Trees over the hand layer: values as trees, what stands for them in the abstract heap, states of slots, readings by evaluators -/
namespace TL
open PySem PySem.Spec PyProof.Rows L2 Evl SlX

/-- a value as a tree; obj c ds: an instance with slots of the class numbered c -/
inductive D where
  | non | bl (b : Bool) | int (i : Int) | str (x : Str) | ty (n : String)
  | tup (ds : List D) | lst (ds : List D) | obj (c : Nat) (ds : List D) | cls (c : Nat)
  /-- any value -/
  | any

theorem slt_mono {G G' : Hp} {a C dx : Addr} {vs : List (Option V)} (e : Ex G G') (h : Slt G a C dx vs) : Slt G' a C dx vs := by
  rcases h with ⟨h, z⟩ | ⟨h1, h2⟩
  · exact .inl ⟨e _ _ h, z⟩
  · exact .inr ⟨e _ _ h1, e _ _ h2⟩

mutual
/-- the value v is the tree d in the heap G -/
inductive HD (K : PySem.W.Frag) (cl : Nat → Addr) (G : Hp) : V → D → Prop
  | non : HD K cl G .non .non
  | bl (b : Bool) : HD K cl G (.bl b) (.bl b)
  | int (i : Int) : HD K cl G (.int i) (.int i)
  | str (x : Str) : HD K cl G (.str x) (.str x)
  | ty (n : String) : HD K cl G (.ty n) (.ty n)
  | cls (c : Nat) : HD K cl G (.ref (cl c)) (.cls c)
  | any (v : V) : HD K cl G v .any
  | tup {a : Addr} {vs : List V} {ds : List D} : SqT K G a vs → HDs K cl G vs ds → HD K cl G (.ref a) (.tup ds)
  | lst {a : Addr} {vs : List V} {ds : List D} : G a = some (.lst vs) → HDs K cl G vs ds → HD K cl G (.ref a) (.lst ds)
  | obj {a dx : Addr} {vs : List V} {ds : List D} (c : Nat) : Slt G a (cl c) dx (vs.map some) → HDs K cl G vs ds → HD K cl G (.ref a) (.obj c ds)
inductive HDs (K : PySem.W.Frag) (cl : Nat → Addr) (G : Hp) : List V → List D → Prop
  | nil : HDs K cl G [] []
  | cons {v : V} {d : D} {vs : List V} {ds : List D} : HD K cl G v d → HDs K cl G vs ds → HDs K cl G (v :: vs) (d :: ds)
end

section
variable {K : PySem.W.Frag} {cl : Nat → Addr} {G G' : Hp}
mutual
theorem HD.mono (e : Ex G G') : ∀ {v : V} {d : D}, HD K cl G v d → HD K cl G' v d
  | _, _, .non => .non
  | _, _, .bl b => .bl b
  | _, _, .int i => .int i
  | _, _, .str x => .str x
  | _, _, .ty n => .ty n
  | _, _, .cls c => .cls c
  | _, _, .any v => .any v
  | _, _, .tup h r => .tup (ex_t e h) (HDs.mono e r)
  | _, _, .lst h r => .lst (e _ _ h) (HDs.mono e r)
  | _, _, .obj c h r => .obj c (slt_mono e h) (HDs.mono e r)
theorem HDs.mono (e : Ex G G') : ∀ {vs : List V} {ds : List D}, HDs K cl G vs ds → HDs K cl G' vs ds
  | _, _, .nil => .nil
  | _, _, .cons h r => .cons (HD.mono e h) (HDs.mono e r)
end
theorem HDs.length : ∀ {vs : List V} {ds : List D}, HDs K cl G vs ds → vs.length = ds.length
  | _, _, .nil => rfl
  | _, _, .cons _ r => congrArg Nat.succ (HDs.length r)
theorem HDs.get : ∀ {vs : List V} {ds : List D} {i : Nat} {d : D}, HDs K cl G vs ds → ds[i]? = some d → ∃ v, vs[i]? = some v ∧ HD K cl G v d
  | _, _, _, _, .nil, e => by simp at e
  | _, _, 0, _, .cons r _, e => by simp at e; subst e; exact ⟨_, rfl, r⟩
  | _, _, i + 1, d, .cons _ t, e => by
    obtain ⟨u, h1, h2⟩ := HDs.get (i := i) (d := d) t (by simpa using e)
    exact ⟨u, by simpa using h1, h2⟩
theorem HDs.get' : ∀ {vs : List V} {ds : List D} {i : Nat} {v : V}, HDs K cl G vs ds → vs[i]? = some v → ∃ d, ds[i]? = some d ∧ HD K cl G v d
  | _, _, _, _, .nil, e => by simp at e
  | _, _, 0, _, .cons r _, e => by simp at e; subst e; exact ⟨_, rfl, r⟩
  | _, _, i + 1, d, .cons _ t, e => by
    obtain ⟨u, h1, h2⟩ := HDs.get' (i := i) (v := d) t (by simpa using e)
    exact ⟨u, by simpa using h1, h2⟩
theorem HDs.append : ∀ {vs ws : List V} {ds es : List D}, HDs K cl G vs ds → HDs K cl G ws es → HDs K cl G (vs ++ ws) (ds ++ es)
  | _, _, _, _, .nil, s => s
  | _, _, _, _, .cons r t, s => .cons r (HDs.append t s)
theorem HDs.take : ∀ {vs : List V} {ds : List D} (n : Nat), HDs K cl G vs ds → HDs K cl G (vs.take n) (ds.take n)
  | _, _, 0, _ => .nil
  | _, _, _ + 1, .nil => .nil
  | _, _, n + 1, .cons r t => .cons r (HDs.take n t)
theorem HDs.drop : ∀ {vs : List V} {ds : List D} (n : Nat), HDs K cl G vs ds → HDs K cl G (vs.drop n) (ds.drop n)
  | _, _, 0, r => r
  | _, _, _ + 1, .nil => .nil
  | _, _, n + 1, .cons _ t => HDs.drop n t
end

/-- the heap without what is private -/
def hide (O : Addr → Bool) (H : Hp) : Hp := fun a => if O a = true then none else H a
/-- what is private is there -/
def Ow (O : Addr → Bool) (H : Hp) : Prop := ∀ a, O a = true → H a ≠ none
section
variable {O O' : Addr → Bool} {H H' : Hp} {p : Addr} {o : HO}
theorem hide_at (h : O p = false) : hide O H p = H p := by unfold hide; rw [h]; rfl
theorem hide_on (h : O p = true) : hide O H p = none := by unfold hide; rw [h]; rfl
theorem hide_le : Ex (hide O H) H := fun a u e => by
  cases h : O a with
  | true => rw [hide_on h] at e; cases e
  | false => rw [hide_at h] at e; exact e
theorem hide_ex (e : Ex H H') : Ex (hide O H) (hide O H') := fun a u q => by
  cases h : O a with
  | true => rw [hide_on h] at q; cases q
  | false => rw [hide_at h] at q ⊢; exact e a u q
theorem hide_sub (h : ∀ a, O a = true → O' a = true) : Ex (hide O' H) (hide O H) := fun a u q => by
  cases h1 : O' a with
  | true => rw [hide_on h1] at q; cases q
  | false =>
    rw [hide_at h1] at q
    have h2 : O a = false := by
      cases h2 : O a with
      | true => rw [h a h2] at h1; cases h1
      | false => rfl
    rw [hide_at h2]; exact q
theorem hide_upd (h : O p = true) : hide O (upd H p o) = hide O H := by
  funext a
  cases h1 : O a with
  | true => rw [hide_on h1, hide_on h1]
  | false =>
    rw [hide_at h1, hide_at h1]
    exact upd_ne fun z => by rw [z, h] at h1; cases h1
theorem Ow.new (w : Ow O H) (h : H p = none) : O p = false := by
  cases h1 : O p with
  | true => exact absurd h (w p h1)
  | false => rfl
theorem Ow.ex (w : Ow O H) (e : Ex H H') : Ow O H' := fun a h z => by
  cases q : H a with
  | none => exact w a h q
  | some u => rw [e a u q] at z; cases z
end

/-! ### states -/
/-- what the running def alone has: a list that it fills, or the instance that it is the __init__ of -/
inductive PM where
  | no | lst (k : Nat) (ds : List D) | ob (k : Nat) (c : Nat) (ds : List (Option D))
structure Sta where
  sl : List (Option D)
  pm : PM
def PM.free (i : Nat) : PM → Bool
  | .no => true
  | .lst k _ => k != i
  | .ob k _ _ => k != i
def ODs (K : PySem.W.Frag) (cl : Nat → Addr) (G : Hp) (vs : List (Option V)) (ds : List (Option D)) : Prop :=
  vs.length = ds.length ∧ ∀ (i : Nat) (d : D), ds[i]? = some (some d) → ∃ v, vs[i]? = some (some v) ∧ HD K cl G v d
/-- how the def was entered: the heap without what it may change, what its callers hide, the instance that it is the __init__ of -/
structure Fr where
  B : Hp
  O0 : Addr → Bool
  a : Addr
  dx : Addr
def RelP (K : PySem.W.Frag) (cl : Nat → Addr) (F : Fr) (O : Addr → Bool) (σ : L2.St) (H : Hp) : PM → Prop
  | .no => ∀ a, O a = true → F.O0 a = true
  | .lst k ds => ∃ (a : Addr) (vs : List V), σ[k]? = some (some (.ref a)) ∧ F.B a = none ∧ F.O0 a = false ∧ O a = true ∧ H a = some (.lst vs) ∧ HDs K cl (hide O H) vs ds ∧ ∀ b, O b = true → F.O0 b = true ∨ b = a
  | .ob k c ds => ∃ (vs : List (Option V)), σ[k]? = some (some (.ref F.a)) ∧ (F.B F.a = none ∧ F.B F.dx = none) ∧ (F.O0 F.a = false ∧ F.O0 F.dx = false) ∧ (O F.a = true ∧ O F.dx = true) ∧ F.dx ≠ F.a ∧ Slt H F.a (cl c) F.dx vs ∧ ODs K cl (hide O H) vs ds ∧ ∀ b, O b = true → F.O0 b = true ∨ b = F.a ∨ b = F.dx
/-- the slots and the heap are the state -/
structure Rel (K : PySem.W.Frag) (cl : Nat → Addr) (F : Fr) (O : Addr → Bool) (σ : L2.St) (H : Hp) (τ : Sta) : Prop where
  ex : Ex F.B H
  ow : Ow O H
  sub : ∀ a, F.O0 a = true → O a = true
  sl : ∀ (i : Nat) (d : D), τ.sl[i]? = some (some d) → ∃ v, σ[i]? = some (some v) ∧ HD K cl (hide O H) v d
  len : τ.sl.length = σ.length
  pm : RelP K cl F O σ H τ.pm

section
variable {K : PySem.W.Frag} {cl : Nat → Addr} {F : Fr} {O : Addr → Bool} {σ : L2.St} {H H' : Hp} {τ : Sta}
theorem RelP.mono {pm : PM} (r : RelP K cl F O σ H pm) (e : Ex H H') : RelP K cl F O σ H' pm := by
  cases pm with
  | no => exact r
  | lst k ds =>
    obtain ⟨a, vs, h1, h2, h3, h4, h5, h6, h7⟩ := r
    exact ⟨a, vs, h1, h2, h3, h4, e _ _ h5, h6.mono (hide_ex e), h7⟩
  | ob k c ds =>
    obtain ⟨vs, h1, h2, h3, h4, h5, h6, h7, h8⟩ := r
    exact ⟨vs, h1, h2, h3, h4, h5, slt_mono e h6, ⟨h7.1, fun i d q => let ⟨v, a, b⟩ := h7.2 i d q; ⟨v, a, b.mono (hide_ex e)⟩⟩, h8⟩
theorem Rel.mono (r : Rel K cl F O σ H τ) (e : Ex H H') : Rel K cl F O σ H' τ :=
  ⟨r.ex.trans e, r.ow.ex e, r.sub, fun i d q => let ⟨v, a, b⟩ := r.sl i d q; ⟨v, a, b.mono (hide_ex e)⟩, r.len, r.pm.mono e⟩
end

/-! ### evaluators -/
abbrev EE := Nat → Sta → Option D
abbrev EB := Nat → Sta → Option Bool
abbrev EA := Nat → Sta → Option (List D)
inductive Out where
  | nx (τ : Sta) | rt (d : D) | bk (τ : Sta) | ct (τ : Sta)
abbrev ES := Nat → Sta → Option Out
section
variable (K : PySem.W.Frag) (cl : Nat → Addr)
/-- an expression's reading by its evaluator -/
def tE (ee : EE) : TE := fun σ H Q => ∃ F O n τ d, Rel K cl F O σ H τ ∧ ee n τ = some d ∧ ∀ H' v, Ex H H' → HD K cl (hide O H') v d → Q v H'
def tT (ee : EB) : TT := fun σ H Q => ∃ F O n τ b, Rel K cl F O σ H τ ∧ ee n τ = some b ∧ ∀ H', Ex H H' → Q b H'
def tA (ee : EA) : TA := fun σ H Q => ∃ F O n τ ds, Rel K cl F O σ H τ ∧ ee n τ = some ds ∧ ∀ H' vs, Ex H H' → HDs K cl (hide O H') vs ds → Q vs H'
def Post (F : Fr) (O : Addr → Bool) (H : Hp) (E : Ends) : Out → Prop
  | .nx τ' => ∀ O' σ' H', Ex (hide O H) (hide O' H') → Rel K cl F O' σ' H' τ' → E.nx σ' H'
  | .bk τ' => ∀ O' σ' H', Ex (hide O H) (hide O' H') → Rel K cl F O' σ' H' τ' → E.bk σ' H'
  | .ct τ' => ∀ O' σ' H', Ex (hide O H) (hide O' H') → Rel K cl F O' σ' H' τ' → E.ct σ' H'
  | .rt d => ∀ H' v, Ex F.B H' → HD K cl (hide F.O0 H') v d → E.rt v H'
def tS (es : ES) : TS := fun E σ H => ∃ F O n τ r, Rel K cl F O σ H τ ∧ es n τ = some r ∧ Post K cl F O H E r
end
abbrev DE (cl : Nat → Addr) (X : Cx) (e : Expr) (ee : EE) : Prop := PE X e (tE X.K cl ee)
abbrev DT (cl : Nat → Addr) (X : Cx) (e : Expr) (ee : EB) : Prop := PT X e (tT X.K cl ee)
abbrev DA (cl : Nat → Addr) (X : Cx) (es : List Expr) (ee : EA) : Prop := PA X es (tA X.K cl ee)
abbrev DS (cl : Nat → Addr) (X : Cx) (s : Stmt) (es : ES) : Prop := PS X s (tS X.K cl es)
abbrev DSs (cl : Nat → Addr) (X : Cx) (s : List Stmt) (es : ES) : Prop := PSs X s (tS X.K cl es)

theorem pe_imp {X : Cx} {e : Expr} {t t' : TE} (h : PE X e t) (k : ∀ σ H Q, t' σ H Q → t σ H Q) : PE X e t' := ⟨fun pins s σ H Q I q => h.run pins s σ H Q I (k σ H Q q)⟩
theorem pt_imp {X : Cx} {e : Expr} {t t' : TT} (h : PT X e t) (k : ∀ σ H Q, t' σ H Q → t σ H Q) : PT X e t' := ⟨fun pins s σ H Q I q => h.run pins s σ H Q I (k σ H Q q)⟩
theorem pw_imp {X : Cx} {e : Expr} {t t' : TT} (h : PW X e t) (k : ∀ σ H Q, t' σ H Q → t σ H Q) : PW X e t' := ⟨fun wh pins s σ H Q I q => h.run wh pins s σ H Q I (k σ H Q q)⟩
theorem pa_imp {X : Cx} {es : List Expr} {t t' : TA} (h : PA X es t) (k : ∀ σ H Q, t' σ H Q → t σ H Q) : PA X es t' := ⟨fun pos pins s σ H Q I q => h.run pos pins s σ H Q I (k σ H Q q)⟩
theorem ps_imp {X : Cx} {e : Stmt} {t t' : TS} (h : PS X e t) (k : ∀ E σ H, t' E σ H → t E σ H) : PS X e t' := ⟨fun pins s σ H E I q => h.run pins s σ H E I (k E σ H q)⟩
theorem pss_imp {X : Cx} {e : List Stmt} {t t' : TS} (h : PSs X e t) (k : ∀ E σ H, t' E σ H → t E σ H) : PSs X e t' := ⟨fun pins s σ H E I q => h.run pins s σ H E I (k E σ H q)⟩

/-! ### names and constants -/
def eVar (i : Nat) : EE := fun _ τ => match τ.sl[i]? with
  | some (some d) => some d
  | _ => none
def eC (d : D) : EE := fun _ _ => some d
section
variable {cl : Nat → Addr} {X : Cx}
theorem eVar_some {i n : Nat} {τ : Sta} {d : D} (h : eVar i n τ = some d) : τ.sl[i]? = some (some d) := by
  unfold eVar at h
  split at h
  · rename_i e; rw [e]; simpa using h
  · cases h
theorem dv (i : Nat) {x : Str} {pos : Pos} (hN : X.N[i]? = some x := by rfl) (hv : Vis X.env.scope x := by first | exact Or.inl rfl | exact Or.inr (Or.inl rfl) | exact Or.inr (Or.inr rfl)) (hd : (x == ("__debug__" : Str)) = false := by decide)
    (hcd : (x == ("__classdict__" : Str)) = false := by decide) : DE cl X (.Name x pos) (eVar i) := pe_imp (pv i hN hv hd hcd) fun σ H Q ⟨F, O, n, τ, d, r, he, q⟩ => by
  obtain ⟨v, hv, h⟩ := r.sl i d (eVar_some he)
  exact ⟨v, hv, q H v (Ex.refl H) h⟩
theorem d_c {e : Expr} {v : V} {d : D} (h : PE X e (tC v)) (hd : ∀ G, HD X.K cl G v d) : DE cl X e (eC d) := pe_imp h fun σ H Q ⟨F, O, n, τ, d', r, he, q⟩ => by
  cases he
  exact q H v (Ex.refl H) (hd _)
theorem d_int {i : Int} {j pos} : DE cl X (.Constant (.int i) j pos) (eC (.int i)) := d_c pe_int fun _ => .int i
theorem d_bl {b : Bool} {j pos} : DE cl X (.Constant (.bool b) j pos) (eC (.bl b)) := d_c pe_bl fun _ => .bl b
theorem d_non {j pos} : DE cl X (.Constant .none j pos) (eC .non) := d_c pe_non fun _ => .non
theorem d_str {x : Str} {j pos} : DE cl X (.Constant (.str x) j pos) (eC (.str x)) := d_c pe_str fun _ => .str x
/-- a module's name: its value is the tree d -/
def GlD (cl : Nat → Addr) (K : PySem.W.Frag) (mg : Str → Option Value) (x : Str) (d : D) : Prop := ∃ u v, mg x = some u ∧ RelV v u ∧ ∀ G, HD K cl G v d
theorem d_gl {x : Str} {d : D} {pos : Pos} (h : GlD cl X.K X.mg x d) (hg : Gl X x := by rfl) (hd : (x == ("__debug__" : Str)) = false := by decide) : DE cl X (.Name x pos) (eC d) := by
  obtain ⟨u, v, hm, r, hG⟩ := h
  exact d_c (pe_glob hg hm r hd) hG

/-! ### operators -/
def eBin (f : D → D → Option D) (ea eb : EE) : EE := fun n τ => match ea n τ with
  | some x => match eb n τ with
    | some y => f x y
    | none => none
  | none => none
def eUn (f : D → Option D) (ea : EE) : EE := fun n τ => match ea n τ with
  | some x => f x
  | none => none
theorem eBin_some {f : D → D → Option D} {ea eb : EE} {n : Nat} {τ : Sta} {d : D} (h : eBin f ea eb n τ = some d) : ∃ x y, ea n τ = some x ∧ eb n τ = some y ∧ f x y = some d := by
  unfold eBin at h
  split at h
  · rename_i x ex
    split at h
    · rename_i y ey
      exact ⟨x, y, ex, ey, h⟩
    · cases h
  · cases h
theorem eUn_some {f : D → Option D} {ea : EE} {n : Nat} {τ : Sta} {d : D} (h : eUn f ea n τ = some d) : ∃ x, ea n τ = some x ∧ f x = some d := by
  unfold eUn at h
  split at h
  · rename_i x ex
    exact ⟨x, ex, h⟩
  · cases h
/-- a rule on values serves the function f on trees -/
def FD2 (K : PySem.W.Frag) (cl : Nat → Addr) (r : R2) (f : D → D → Option D) : Prop := ∀ (O : Addr → Bool) (H : Hp) (x y : V) (a b d : D) (Q : VK), Ow O H → HD K cl (hide O H) x a → HD K cl (hide O H) y b → f a b = some d →
  (∀ H' v, Ex H H' → HD K cl (hide O H') v d → Q v H') → r x y H Q
def FD1 (K : PySem.W.Frag) (cl : Nat → Addr) (r : V → Hp → VK → Prop) (f : D → Option D) : Prop := ∀ (O : Addr → Bool) (H : Hp) (x : V) (a d : D) (Q : VK), Ow O H → HD K cl (hide O H) x a → f a = some d →
  (∀ H' v, Ex H H' → HD K cl (hide O H') v d → Q v H') → r x H Q
/-- the readings of two operands, then r -/
theorem sound2 {K : PySem.W.Frag} {r : R2} {f : D → D → Option D} {ea eb : EE} (hf : FD2 K cl r f) {σ : L2.St} {H : Hp} {Q : VK} (h : tE K cl (eBin f ea eb) σ H Q) : tOp r (tE K cl ea) (tE K cl eb) σ H Q := by
  obtain ⟨F, O, n, τ, d, rl, he, q⟩ := h
  obtain ⟨a, b, h1, h2, h3⟩ := eBin_some he
  exact ⟨F, O, n, τ, a, rl, h1, fun H1 x e1 hx => ⟨F, O, n, τ, b, rl.mono e1, h2, fun H2 y e2 hy =>
    hf O H2 x y a b d Q ((rl.ow.ex e1).ex e2) (hx.mono (hide_ex e2)) hy h3 fun H' v e' hv => q H' v ((e1.trans e2).trans e') hv⟩⟩
theorem sound1 {K : PySem.W.Frag} {r : V → Hp → VK → Prop} {f : D → Option D} {ea : EE} (hf : FD1 K cl r f) {σ : L2.St} {H : Hp} {Q : VK} (h : tE K cl (eUn f ea) σ H Q) : tUn r (tE K cl ea) σ H Q := by
  obtain ⟨F, O, n, τ, d, rl, he, q⟩ := h
  obtain ⟨a, h1, h3⟩ := eUn_some he
  exact ⟨F, O, n, τ, a, rl, h1, fun H1 x e1 hx => hf O H1 x a d Q (rl.ow.ex e1) hx h3 fun H' v e' hv => q H' v (e1.trans e') hv⟩
variable {a b : Expr} {ea eb : EE} {pos : Pos}
theorem d_op {op : Operator} {r : R2} {f : D → D → Option D} (ho : OpR X (binaryOp op) r) (hf : FD2 X.K cl r f) (ha : DE cl X a ea) (hb : DE cl X b eb) : DE cl X (.BinOp a op b pos) (eBin f ea eb) :=
  pe_imp (pe_op ho ha hb) fun _ _ _ => sound2 hf
theorem d_un {op : UnaryOp} {r : V → Hp → VK → Prop} {f : D → Option D} (ho : UnR X (unaryOp op) r) (hf : FD1 X.K cl r f) (ha : DE cl X a ea) : DE cl X (.UnaryOp op a pos) (eUn f ea) :=
  pe_imp (pe_un ho ha) fun _ _ _ => sound1 hf
theorem d_cmp {op : CmpOp} {r : R2} {f : D → D → Option D} (ho : OpR X (compareOp op) r) (hf : FD2 X.K cl r f) (ha : DE cl X a ea) (hb : DE cl X b eb) (hm : behindInMarks op b = false := by first | exact nomark _ | rfl) : DE cl X (.Compare a [op] [b] pos) (eBin f ea eb) :=
  pe_imp (pe_cmpR ho ha hb hm) fun _ _ _ => sound2 hf
end
end TL

/-! Trees: operators, tests, displays, subscripts, slots -/
namespace TL
open PySem PySem.Spec PyProof.Rows L2 Evl SlX

/-! ### ints -/
def fI (g : Int → Int → D) : D → D → Option D
  | .int i, .int j => some (g i j)
  | _, _ => none
def fIC (C : Int → Int → Bool) (g : Int → Int → D) : D → D → Option D
  | .int i, .int j => if C i j = true then some (g i j) else none
  | _, _ => none
section
variable {K : PySem.W.Frag} {cl : Nat → Addr}
theorem fI_some {g : Int → Int → D} {a b d : D} (h : fI g a b = some d) : ∃ i j, a = .int i ∧ b = .int j ∧ d = g i j := by
  unfold fI at h
  split at h
  · exact ⟨_, _, rfl, rfl, (Option.some.inj h).symm⟩
  · cases h
theorem fIC_some {C : Int → Int → Bool} {g : Int → Int → D} {a b d : D} (h : fIC C g a b = some d) : ∃ i j, a = .int i ∧ b = .int j ∧ C i j = true ∧ d = g i j := by
  unfold fIC at h
  split at h
  · split at h
    · rename_i c
      exact ⟨_, _, rfl, rfl, c, (Option.some.inj h).symm⟩
    · cases h
  · cases h
theorem hd_int {G : Hp} {v : V} {i : Int} (h : HD K cl G v (.int i)) : v = .int i := by cases h; rfl
theorem hd_bl {G : Hp} {v : V} {i : Bool} (h : HD K cl G v (.bl i)) : v = .bl i := by cases h; rfl
theorem fd_I0 {g : Int → Int → V} {gd : Int → Int → D} (h : ∀ i j G, HD K cl G (g i j) (gd i j)) : FD2 K cl (rI0 g) (fI gd) := fun O H x y a b d Q ow hx hy hf q => by
  obtain ⟨i, j, rfl, rfl, rfl⟩ := fI_some hf
  exact ⟨i, j, hd_int hx, hd_int hy, q H _ (Ex.refl H) (h i j _)⟩
theorem fd_IC {C : Int → Int → Prop} {c : Int → Int → Bool} {g : Int → Int → V} {gd : Int → Int → D} (h : ∀ i j G, HD K cl G (g i j) (gd i j)) (hc : ∀ i j, c i j = true → C i j) : FD2 K cl (rI C g) (fIC c gd) := fun O H x y a b d Q ow hx hy hf q => by
  obtain ⟨i, j, rfl, rfl, cc, rfl⟩ := fIC_some hf
  exact ⟨i, j, hd_int hx, hd_int hy, hc i j cc, q H _ (Ex.refl H) (h i j _)⟩
theorem fd_or {r r' : R2} {f : D → D → Option D} {f' : D → D → Option D} (h : FD2 K cl r f) (h' : FD2 K cl r' f') : FD2 K cl (fun x y H Q => r x y H Q ∨ r' x y H Q) (fun a b => match f a b with | some d => some d | none => f' a b) := fun O H x y a b d Q ow hx hy hf q => by
  dsimp only at hf
  split at hf
  · rename_i d' e
    cases hf
    exact .inl (h O H x y a b _ Q ow hx hy e q)
  · exact .inr (h' O H x y a b d Q ow hx hy hf q)
end
section
variable {cl : Nat → Addr} {X : Cx} {a b : Expr} {ea eb : EE} {pos : Pos}
def fAddI : D → D → Option D := fI fun i j => .int (i + j)
def fSub : D → D → Option D := fI fun i j => .int (i - j)
def fMul : D → D → Option D := fIC (fun i j => decide (i.natAbs.log2 + j.natAbs.log2 < 1000000)) fun i j => .int (i * j)
def fDivP : D → D → Option D := fIC (fun i j => decide (0 < j) && decide (j.natAbs.log2 < 9000)) fun i j => .int (i / j)
def fDivN : D → D → Option D := fIC (fun i j => decide (j ≠ 0) && decide (j.natAbs < 1073741824)) fun i j => .int (i.fdiv j)
def fDiv (a b : D) : Option D := match fDivP a b with
  | some d => some d
  | none => fDivN a b
def fModP : D → D → Option D := fIC (fun i j => decide (0 < j)) fun i j => .int (i % j)
def fModN : D → D → Option D := fIC (fun i j => decide (j ≠ 0)) fun i j => .int (i.fmod j)
def fMod (a b : D) : Option D := match fModP a b with
  | some d => some d
  | none => fModN a b
def fLt : D → D → Option D := fI fun i j => .bl (decide (i < j))
def fLe : D → D → Option D := fI fun i j => .bl (decide (i ≤ j))
def fGt : D → D → Option D := fI fun i j => .bl (decide (j < i))
def fGe : D → D → Option D := fI fun i j => .bl (decide (j ≤ i))
def fNeg : D → Option D
  | .int i => some (.int (-i))
  | _ => none
/-- list + list -/
def fCat : D → D → Option D
  | .lst xs, .lst ys => if xs.length + ys.length ≤ 100000 then some (.lst (xs ++ ys)) else none
  | _, _ => none
def fAdd (a b : D) : Option D := match fAddI a b with
  | some d => some d
  | none => fCat a b
theorem fd_cat {K : PySem.W.Frag} : FD2 K cl rCat fCat := fun O H x y a b d Q ow hx hy hf q => by
  unfold fCat at hf
  split at hf
  · rename_i xs ys
    split at hf
    · rename_i hl
      cases hf
      cases hx with
      | lst h1 r1 =>
        cases hy with
        | lst h2 r2 =>
          rename_i l vs m ws
          refine ⟨l, m, vs, ws, rfl, rfl, hide_le _ _ h1, hide_le _ _ h2, sz_of (by rw [r1.length, r2.length]; exact hl), fun p hp => ?_⟩
          have hO := ow.new hp
          refine q _ _ (Ex.new hp) (.lst (by rw [hide_at hO]; exact upd_same) ?_)
          exact (r1.append r2).mono (hide_ex (Ex.new hp))
    · cases hf
  · cases hf
theorem d_add (ha : DE cl X a ea) (hb : DE cl X b eb) : DE cl X (.BinOp a .Add b pos) (eBin fAdd ea eb) := d_op (op_add.or op_cat) (fd_or (fd_I0 fun _ _ _ => .int _) fd_cat) ha hb
theorem d_sub (ha : DE cl X a ea) (hb : DE cl X b eb) : DE cl X (.BinOp a .Sub b pos) (eBin fSub ea eb) := d_op op_sub (fd_I0 fun _ _ _ => .int _) ha hb
theorem d_mul (ha : DE cl X a ea) (hb : DE cl X b eb) : DE cl X (.BinOp a .Mult b pos) (eBin fMul ea eb) := d_op op_mulW (fd_IC (fun _ _ _ => .int _) fun i j h => (show i.natAbs.log2 + j.natAbs.log2 < 1000000 from of_decide_eq_true h)) ha hb
theorem d_fdiv (ha : DE cl X a ea) (hb : DE cl X b eb) : DE cl X (.BinOp a .FloorDiv b pos) (eBin fDiv ea eb) := d_op (op_fdivW.or op_fdivN) (fd_or
    (fd_IC (fun _ _ _ => .int _) fun _ _ h => by rw [Bool.and_eq_true] at h; exact ⟨of_decide_eq_true h.1, of_decide_eq_true h.2⟩)
    (fd_IC (fun _ _ _ => .int _) fun _ _ h => by rw [Bool.and_eq_true] at h; exact ⟨of_decide_eq_true h.1, of_decide_eq_true h.2⟩)) ha hb
theorem d_mod (ha : DE cl X a ea) (hb : DE cl X b eb) : DE cl X (.BinOp a .Mod b pos) (eBin fMod ea eb) := d_op (op_mod.or op_modN) (fd_or
    (fd_IC (fun _ _ _ => .int _) fun _ _ h => of_decide_eq_true h) (fd_IC (fun _ _ _ => .int _) fun _ _ h => of_decide_eq_true h)) ha hb
theorem d_neg (ha : DE cl X a ea) : DE cl X (.UnaryOp .USub a pos) (eUn fNeg ea) := d_un un_neg (fun O H x a d Q ow hx hf q => by
  unfold fNeg at hf
  split at hf
  · cases hf
    exact ⟨_, hd_int hx, q H _ (Ex.refl H) (.int _)⟩
  · cases hf) ha
theorem d_lt (ha : DE cl X a ea) (hb : DE cl X b eb) : DE cl X (.Compare a [.Lt] [b] pos) (eBin fLt ea eb) := d_cmp op_lt (fd_I0 fun _ _ _ => .bl _) ha hb
theorem d_le (ha : DE cl X a ea) (hb : DE cl X b eb) : DE cl X (.Compare a [.LtE] [b] pos) (eBin fLe ea eb) := d_cmp op_le (fd_I0 fun _ _ _ => .bl _) ha hb
theorem d_gt (ha : DE cl X a ea) (hb : DE cl X b eb) : DE cl X (.Compare a [.Gt] [b] pos) (eBin fGt ea eb) := d_cmp op_gt (fd_I0 fun _ _ _ => .bl _) ha hb
theorem d_ge (ha : DE cl X a ea) (hb : DE cl X b eb) : DE cl X (.Compare a [.GtE] [b] pos) (eBin fGe ea eb) := d_cmp op_ge (fd_I0 fun _ _ _ => .bl _) ha hb
/-- a < b < c of ints, from the left -/
def eChain (f f' : D → D → Option D) (ea eb ec : EE) : EE := fun n τ => match ea n τ with
  | some x => match eb n τ with
    | some y => match f x y with
      | some (.bl true) => match ec n τ with
        | some z => f' y z
        | none => none
      | some (.bl false) => some (.bl false)
      | _ => none
    | none => none
  | none => none
end

/-! ### == of data -/
mutual
def toP : D → Option PyData
  | .non => some .none
  | .bl b => some (.bool b)
  | .int i => some (.int i)
  | .str x => some (.str x)
  | .lst ds => (toPs ds).map .list
  | .tup ds => (toPs ds).map .tuple
  | .ty _ => none
  | .obj _ _ => none
  | .cls _ => none
  | .any => none
def toPs : List D → Option (List PyData)
  | [] => some []
  | d :: ds => match toP d with
    | some p => (toPs ds).map (p :: ·)
    | none => none
end
section
variable {K : PySem.W.Frag} {cl : Nat → Addr} {G : Hp}
mutual
theorem dp_of : ∀ {v : V} {d : D} {p : PyData}, HD K cl G v d → toP d = some p → Dp K G v p
  | _, _, _, .non, e => by rw [toP] at e; cases e; exact .non
  | _, _, _, .bl b, e => by rw [toP] at e; cases e; exact .bl b
  | _, _, _, .int i, e => by rw [toP] at e; cases e; exact .int i
  | _, _, _, .str x, e => by rw [toP] at e; cases e; exact .str x
  | _, _, _, .lst h r, e => by
    rw [toP] at e
    obtain ⟨ps, e1, rfl⟩ := Option.map_eq_some_iff.mp e
    exact .lst (SqL.of h) (dps_of r e1)
  | _, _, _, .tup h r, e => by
    rw [toP] at e
    obtain ⟨ps, e1, rfl⟩ := Option.map_eq_some_iff.mp e
    exact .tup h (dps_of r e1)
  | _, _, _, .ty _, e => by rw [toP] at e; cases e
  | _, _, _, .obj _ _ _, e => by rw [toP] at e; cases e
  | _, _, _, .cls _, e => by rw [toP] at e; cases e
  | _, _, _, .any _, e => by rw [toP] at e; cases e
theorem dps_of : ∀ {vs : List V} {ds : List D} {ps : List PyData}, HDs K cl G vs ds → toPs ds = some ps → DpAll K G vs ps
  | _, _, _, .nil, e => by rw [toPs] at e; cases e; exact .nil
  | _, _, _, .cons h r, e => by
    rw [toPs] at e
    split at e
    · rename_i p ep
      obtain ⟨qs, e1, rfl⟩ := Option.map_eq_some_iff.mp e
      exact .cons (dp_of h ep) (dps_of r e1)
    · cases e
end
def fEqB (a b : D) : Option Bool := match toP a, toP b with
  | some p, some q => if (SeqAt.shaped p && SeqAt.shaped q) = true then some (PyData.eqv p q) else none
  | _, _ => none
def fEq (a b : D) : Option D := (fEqB a b).map .bl
def fNe (a b : D) : Option D := (fEqB a b).map fun k => .bl (!k)
theorem fEqB_some {a b : D} {k : Bool} (h : fEqB a b = some k) : ∃ p q, toP a = some p ∧ toP b = some q ∧ SeqAt.shaped p = true ∧ SeqAt.shaped q = true ∧ k = PyData.eqv p q := by
  unfold fEqB at h
  split at h
  · rename_i p q h1 h2
    split at h
    · rename_i hs
      rw [Bool.and_eq_true] at hs
      exact ⟨p, q, h1, h2, hs.1, hs.2, (Option.some.inj h).symm⟩
    · cases h
  · cases h
theorem dp_ex {H H' : Hp} (e : Ex H H') {v : V} {p : PyData} : Dp K H v p → Dp K H' v p := by
  intro h
  exact (show ∀ q v, Dp K H v q → Dp K H' v q from by
    intro q
    exact (show (∀ q v, Dp K H v q → Dp K H' v q) from fun q v h => by
      refine Dp.rec (motive_1 := fun v p _ => Dp K H' v p) (motive_2 := fun vs ps _ => DpAll K H' vs ps) .non (fun b => .bl b) (fun i => .int i) (fun x => .str x) (fun hs _ ih => .lst (ex_l e hs) ih) (fun hs _ ih => .tup (ex_t e hs) ih) .nil (fun _ _ a b => .cons a b) h) q) p v h
theorem fd_eq : FD2 K cl (rEqD K) fEq := fun O H x y a b d Q ow hx hy hf q => by
  obtain ⟨k, h1, rfl⟩ := Option.map_eq_some_iff.mp hf
  obtain ⟨p, q', e1, e2, s1, s2, rfl⟩ := fEqB_some h1
  exact ⟨p, q', dp_ex hide_le (dp_of hx e1), dp_ex hide_le (dp_of hy e2), s1, s2, q H _ (Ex.refl H) (.bl _)⟩
theorem fd_ne : FD2 K cl (rNeD K) fNe := fun O H x y a b d Q ow hx hy hf q => by
  obtain ⟨k, h1, rfl⟩ := Option.map_eq_some_iff.mp hf
  obtain ⟨p, q', e1, e2, s1, s2, rfl⟩ := fEqB_some h1
  exact ⟨p, q', dp_ex hide_le (dp_of hx e1), dp_ex hide_le (dp_of hy e2), s1, s2, q H _ (Ex.refl H) (.bl _)⟩
end
section
variable {cl : Nat → Addr} {X : Cx} {a b c : Expr} {ea eb ec : EE} {pos : Pos}
theorem d_eq {j : Nat} (hr : Room j X.A) (ha : DE cl X a ea) (hb : DE cl X b eb) : DE cl X (.Compare a [.Eq] [b] pos) (eBin fEq ea eb) := d_cmp (op_eqD hr.units) fd_eq ha hb
theorem d_ne {j : Nat} (hr : Room j X.A) (ha : DE cl X a ea) (hb : DE cl X b eb) : DE cl X (.Compare a [.NotEq] [b] pos) (eBin fNe ea eb) := d_cmp (op_neD hr.units) fd_ne ha hb
/-- is None, is not None -/
def isN : D → Option Bool
  | .non => some true
  | .any => none
  | _ => some false
def fIsN (x y : D) : Option D := match isN y with
  | some true => (match isN x with
    | some b => some (.bl b)
    | none => none)
  | _ => none
def fNotN (x y : D) : Option D := match isN y with
  | some true => (match isN x with
    | some b => some (.bl (!b))
    | none => none)
  | _ => none
theorem hd_non {K : PySem.W.Frag} {G : Hp} {v : V} {d : D} {b : Bool} (h : HD K cl G v d) (e : isN d = some b) : decide (v = .non) = b := by
  cases h <;> cases e <;> rfl
theorem d_isN (ha : DE cl X a ea) (hb : DE cl X b eb) : DE cl X (.Compare a [.Is] [b] pos) (eBin fIsN ea eb) := d_cmp op_isN (fun O H x y u v d Q ow hx hy hf q => by
  unfold fIsN at hf
  split at hf
  · rename_i hv
    split at hf
    · rename_i k hk
      cases hf
      exact ⟨of_decide_eq_true (hd_non hy hv), q H _ (Ex.refl H) (by rw [hd_non hx hk]; exact .bl _)⟩
    · cases hf
  · cases hf) ha hb
theorem d_notN (ha : DE cl X a ea) (hb : DE cl X b eb) : DE cl X (.Compare a [.IsNot] [b] pos) (eBin fNotN ea eb) := d_cmp op_notN (fun O H x y u v d Q ow hx hy hf q => by
  unfold fNotN at hf
  split at hf
  · rename_i hv
    split at hf
    · rename_i k hk
      cases hf
      exact ⟨of_decide_eq_true (hd_non hy hv), q H _ (Ex.refl H) (by rw [hd_non hx hk]; exact .bl _)⟩
    · cases hf
  · cases hf) ha hb

/-! ### chains, tests -/
theorem chain_sound {K : PySem.W.Frag} {r r' : R2} {f f' : D → D → Option D} (hf : FD2 K cl r f) (hf' : FD2 K cl r' f') {σ : L2.St} {H : Hp} {Q : VK} (h : tE K cl (eChain f f' ea eb ec) σ H Q) :
    tE K cl ea σ H fun x H1 => tE K cl eb σ H1 fun y H2 => r x y H2 fun z H3 => ∃ k, z = .bl k ∧ if k = true then tE K cl ec σ H3 fun u H4 => r' y u H4 Q else Q (.bl false) H3 := by
  obtain ⟨F, O, n, τ, d, rl, he, q⟩ := h
  unfold eChain at he
  split at he
  · rename_i x ex
    split at he
    · rename_i y ey
      refine ⟨F, O, n, τ, x, rl, ex, fun H1 vx e1 hx => ⟨F, O, n, τ, y, rl.mono e1, ey, fun H2 vy e2 hy => ?_⟩⟩
      have ow2 := (rl.ow.ex e1).ex e2
      split at he
      · rename_i ez
        refine hf O H2 vx vy x y _ _ ow2 (hx.mono (hide_ex e2)) hy ez fun H3 vz e3 hz => ⟨true, hd_bl hz, ?_⟩
        rw [if_pos rfl]
        split at he
        · rename_i z ec'
          refine ⟨F, O, n, τ, z, rl.mono ((e1.trans e2).trans e3), ec', fun H4 vu e4 hu => ?_⟩
          exact hf' O H4 vy vu y z d Q ((ow2.ex e3).ex e4) (hy.mono (hide_ex (e3.trans e4))) hu he fun H' v e' hv => q H' v (((e1.trans e2).trans (e3.trans e4)).trans e') hv
        · cases he
      · rename_i ez
        cases he
        refine hf O H2 vx vy x y _ _ ow2 (hx.mono (hide_ex e2)) hy ez fun H3 vz e3 hz => ⟨false, hd_bl hz, ?_⟩
        rw [if_neg Bool.false_ne_true]
        exact q H3 _ ((e1.trans e2).trans e3) (.bl false)
      · cases he
    · cases he
  · cases he
end
end TL

/-! Trees: tests, displays, subscripts, fields, calls -/
namespace TL
open PySem PySem.Spec PyProof.Rows L2 Evl SlX StX

/-! ### tests -/
def bOf (ee : EE) : EB := fun n τ => match ee n τ with
  | some (.bl b) => some b
  | _ => none
def bAnd (t u : EB) : EB := fun n τ => match t n τ with
  | some true => u n τ
  | r => r
def bOr (t u : EB) : EB := fun n τ => match t n τ with
  | some false => u n τ
  | r => r
def bNot (t : EB) : EB := fun n τ => (t n τ).map not
abbrev DW (cl : Nat → Addr) (X : Cx) (e : Expr) (ee : EB) : Prop := PW X e (tT X.K cl ee)
section
variable {cl : Nat → Addr} {X : Cx} {a b c : Expr} {ea eb ec : EE} {ta tb : EB} {rest : List Expr} {pos : Pos} {K : PySem.W.Frag} {σ : L2.St} {H : Hp}
theorem bOf_some {ee : EE} {n : Nat} {τ : Sta} {b : Bool} (h : bOf ee n τ = some b) : ee n τ = some (.bl b) := by
  unfold bOf at h
  split at h
  · rename_i e; cases h; exact e
  · cases h
theorem tT_of {Q : Bool → Hp → Prop} {ee : EE} (h : tT K cl (bOf ee) σ H Q) : tE K cl ee σ H fun x H1 => ∃ k, x = .bl k ∧ Q k H1 := by
  obtain ⟨F, O, n, τ, b, rl, he, q⟩ := h
  exact ⟨F, O, n, τ, .bl b, rl, bOf_some he, fun H' v e hv => ⟨b, hd_bl hv, q H' e⟩⟩
/-- a test that is a plain value -/
theorem dt_val (h : DE cl X a ea) (he : ∀ whole, isTrue a X.env whole = (do let v ← whole; standAt a.pos; holding [v] (truthy v)) := by intro _; rfl) : DT cl X a (bOf ea) :=
  pt_imp (pt_val h he) fun _ _ _ => tT_of
theorem dt_cmp {op : CmpOp} {r : R2} {f : D → D → Option D} (ho : OpR X (compareOp op) r) (hf : FD2 X.K cl r f) (ha : DE cl X a ea) (hb : DE cl X b eb) (hm : behindInMarks op b = false := by first | exact nomark _ | rfl) : DT cl X (.Compare a [op] [b] pos) (bOf (eBin f ea eb)) :=
  pt_imp (pt_cmpR ho ha hb hm) fun _ _ _ h => sound2 hf (tT_of h)
theorem d_chain {op op' : CmpOp} {r r' : R2} {f f' : D → D → Option D} (ho : OpR X (compareOp op) r) (ho' : OpR X (compareOp op') r') (hf : FD2 X.K cl r f) (hf' : FD2 X.K cl r' f') (ha : DE cl X a ea) (hb : DE cl X b eb) (hc : DE cl X c ec)
    (hm : lastMarks [op, op'] [b, c] = false := by with_unfolding_all rfl) : DE cl X (.Compare a [op, op'] [b, c] pos) (eChain f f' ea eb ec) := pe_imp (pe_chain ho ho' ha hb hc hm) fun _ _ _ h => chain_sound hf hf' h
theorem dt_chain {op op' : CmpOp} {r r' : R2} {f f' : D → D → Option D} (ho : OpR X (compareOp op) r) (ho' : OpR X (compareOp op') r') (hf : FD2 X.K cl r f) (hf' : FD2 X.K cl r' f') (ha : DE cl X a ea) (hb : DE cl X b eb) (hc : DE cl X c ec)
    (hm : lastMarks [op, op'] [b, c] = false := by with_unfolding_all rfl) : DT cl X (.Compare a [op, op'] [b, c] pos) (bOf (eChain f f' ea eb ec)) := pt_imp (pt_chain ho ho' ha hb hc hm) fun _ _ _ h => chain_sound hf hf' (tT_of h)
theorem dw_and1 (h : DT cl X a ta) : DW cl X (.BoolOp .And [a] pos) ta := pw_and1 h
theorem dw_or1 (h : DT cl X a ta) : DW cl X (.BoolOp .Or [a] pos) ta := pw_or1 h
theorem dw_and (h : DT cl X a ta) (k : DW cl X (.BoolOp .And (b :: rest) pos) tb) : DW cl X (.BoolOp .And (a :: b :: rest) pos) (bAnd ta tb) := pw_imp (pw_and h k) fun σ H Q ⟨F, O, n, τ, d, rl, he, q⟩ => by
  unfold bAnd at he
  split at he
  · rename_i e1
    refine ⟨F, O, n, τ, true, rl, e1, fun H1 e => ?_⟩
    refine iteT ?_
    exact ⟨F, O, n, τ, d, rl.mono e, he, fun H' e' => q H' (e.trans e')⟩
  · refine ⟨F, O, n, τ, d, rl, he, fun H1 e => ?_⟩
    cases d with
    | true => rename_i h1; exact absurd he h1
    | false =>
      refine iteF ?_
      exact q H1 e
theorem dw_or (h : DT cl X a ta) (k : DW cl X (.BoolOp .Or (b :: rest) pos) tb) : DW cl X (.BoolOp .Or (a :: b :: rest) pos) (bOr ta tb) := pw_imp (pw_or h k) fun σ H Q ⟨F, O, n, τ, d, rl, he, q⟩ => by
  unfold bOr at he
  split at he
  · rename_i e1
    refine ⟨F, O, n, τ, false, rl, e1, fun H1 e => ?_⟩
    refine iteF ?_
    exact ⟨F, O, n, τ, d, rl.mono e, he, fun H' e' => q H' (e.trans e')⟩
  · refine ⟨F, O, n, τ, d, rl, he, fun H1 e => ?_⟩
    cases d with
    | false => rename_i h1; exact absurd he h1
    | true =>
      refine iteT ?_
      exact q H1 e
theorem dt_w (h : DW cl X a ta) : DT cl X a ta := h.pt
theorem dt_not (h : DT cl X a ta) : DT cl X (.UnaryOp .Not a pos) (bNot ta) := pt_imp (pt_not h) fun σ H Q ⟨F, O, n, τ, d, rl, he, q⟩ => by
  obtain ⟨k, h1, rfl⟩ := Option.map_eq_some_iff.mp he
  exact ⟨F, O, n, τ, k, rl, h1, q⟩

/-! ### and, or, not as values of bools; a if t else b -/
def eAnd (ea eb : EE) : EE := fun n τ => match ea n τ with
  | some (.bl true) => eb n τ
  | some (.bl false) => some (.bl false)
  | _ => none
def eOr (ea eb : EE) : EE := fun n τ => match ea n τ with
  | some (.bl false) => eb n τ
  | some (.bl true) => some (.bl true)
  | _ => none
def fNot : D → Option D
  | .bl b => some (.bl (!b))
  | _ => none
def eIf (t : EB) (ea eb : EE) : EE := fun n τ => match t n τ with
  | some true => ea n τ
  | some false => eb n τ
  | none => none
theorem d_one {op} (h : DE cl X a ea) : DE cl X (.BoolOp op [a] pos) ea := pe_one h
theorem d_and (ha : DE cl X a ea) (hb : DE cl X (.BoolOp .And (b :: rest) pos) eb) : DE cl X (.BoolOp .And (a :: b :: rest) pos) (eAnd ea eb) := pe_imp (pe_and ha hb) fun σ H Q ⟨F, O, n, τ, d, rl, he, q⟩ => by
  unfold eAnd at he
  split at he
  · rename_i e1
    refine ⟨F, O, n, τ, .bl true, rl, e1, fun H1 x e hx => ⟨true, hd_bl hx, ?_⟩⟩
    refine iteT ?_
    exact ⟨F, O, n, τ, d, rl.mono e, he, fun H' v e' => q H' v (e.trans e')⟩
  · rename_i e1
    cases he
    refine ⟨F, O, n, τ, .bl false, rl, e1, fun H1 x e hx => ⟨false, hd_bl hx, ?_⟩⟩
    refine iteF ?_
    exact q H1 _ e (.bl false)
  · cases he
theorem d_or (ha : DE cl X a ea) (hb : DE cl X (.BoolOp .Or (b :: rest) pos) eb) : DE cl X (.BoolOp .Or (a :: b :: rest) pos) (eOr ea eb) := pe_imp (pe_or ha hb) fun σ H Q ⟨F, O, n, τ, d, rl, he, q⟩ => by
  unfold eOr at he
  split at he
  · rename_i e1
    refine ⟨F, O, n, τ, .bl false, rl, e1, fun H1 x e hx => ⟨false, hd_bl hx, ?_⟩⟩
    refine iteF ?_
    exact ⟨F, O, n, τ, d, rl.mono e, he, fun H' v e' => q H' v (e.trans e')⟩
  · rename_i e1
    cases he
    refine ⟨F, O, n, τ, .bl true, rl, e1, fun H1 x e hx => ⟨true, hd_bl hx, ?_⟩⟩
    refine iteT ?_
    exact q H1 _ e (.bl true)
  · cases he
theorem d_not (ha : DE cl X a ea) : DE cl X (.UnaryOp .Not a pos) (eUn fNot ea) := pe_imp (pe_not ha) fun σ H Q h => sound1 (r := fun x H Q => ∃ c, x = .bl c ∧ Q (.bl (!c)) H) (fun O H x a d Q ow hx hf q => by
  unfold fNot at hf
  split at hf
  · cases hf
    exact ⟨_, hd_bl hx, q H _ (Ex.refl H) (.bl _)⟩
  · cases hf) h
theorem d_if (ht : DT cl X c ta) (ha : DE cl X a ea) (hb : DE cl X b eb) : DE cl X (.IfExp c a b pos) (eIf ta ea eb) := pe_imp (pe_ifExp ht ha hb) fun σ H Q ⟨F, O, n, τ, d, rl, he, q⟩ => by
  unfold eIf at he
  split at he
  · rename_i e1
    refine ⟨F, O, n, τ, true, rl, e1, fun H1 e => ?_⟩
    refine iteT ?_
    exact ⟨F, O, n, τ, d, rl.mono e, he, fun H' v e' => q H' v (e.trans e')⟩
  · rename_i e1
    refine ⟨F, O, n, τ, false, rl, e1, fun H1 e => ?_⟩
    refine iteF ?_
    exact ⟨F, O, n, τ, d, rl.mono e, he, fun H' v e' => q H' v (e.trans e')⟩
  · cases he
end

/-! ### arguments, displays -/
def aNil : EA := fun _ _ => some []
def aCons (ee : EE) (ar : EA) : EA := fun n τ => match ee n τ with
  | some d => match ar n τ with
    | some ds => some (d :: ds)
    | none => none
  | none => none
/-- *e, .. -/
def aStar (ee : EE) (ar : EA) : EA := fun n τ => match ee n τ with
  | some (.tup es) => match ar n τ with
    | some ds => some (es ++ ds)
    | none => none
  | some (.lst es) => match ar n τ with
    | some ds => some (es ++ ds)
    | none => none
  | _ => none
def eTup (ea : EA) : EE := fun n τ => match ea n τ with
  | some ds => if ds.length ≤ 100000 then some (.tup ds) else none
  | none => none
def eLst (ea : EA) : EE := fun n τ => match ea n τ with
  | some ds => if ds.length ≤ 100000 then some (.lst ds) else none
  | none => none
section
variable {cl : Nat → Addr} {X : Cx} {e : Expr} {es : List Expr} {ee : EE} {ar : EA} {pos : Pos} {K : PySem.W.Frag} {σ : L2.St} {H : Hp}
theorem da_nil : DA cl X [] aNil := pa_imp pa_nil fun σ H Q ⟨F, O, n, τ, d, rl, he, q⟩ => by
  cases he
  exact q H [] (Ex.refl H) .nil
theorem da_cons (he : DE cl X e ee) (hr : DA cl X es ar) (hs : starEach (e :: es) X.env = (false, eval e X.env) :: starEach es X.env := by rfl) : DA cl X (e :: es) (aCons ee ar) := pa_imp (pa_cons he hr hs) fun σ H Q ⟨F, O, n, τ, d, rl, h, q⟩ => by
  unfold aCons at h
  split at h
  · rename_i x ex
    split at h
    · rename_i ds eds
      cases h
      exact ⟨F, O, n, τ, x, rl, ex, fun H1 v e1 hv => ⟨F, O, n, τ, ds, rl.mono e1, eds, fun H2 vs e2 hvs => q H2 (v :: vs) (e1.trans e2) (.cons (hv.mono (hide_ex e2)) hvs)⟩⟩
    · cases h
  · cases h
theorem da_star {p : Pos} (he : DE cl X e ee) (hr : DA cl X es ar) (hs : starEach (.Starred e p :: es) X.env = (true, eval e X.env) :: starEach es X.env := by rfl) : DA cl X (.Starred e p :: es) (aStar ee ar) := pa_imp (pa_star he hr hs) fun σ H Q ⟨F, O, n, τ, d, rl, h, q⟩ => by
  unfold aStar at h
  split at h
  · rename_i xs ex
    split at h
    · rename_i ds eds
      cases h
      refine ⟨F, O, n, τ, _, rl, ex, fun H1 v e1 hv => ?_⟩
      cases hv with
      | tup hs' hr' => exact ⟨_, _, rfl, .inl (ex_t hide_le hs'), F, O, n, τ, ds, rl.mono e1, eds, fun H2 vs e2 hvs => q H2 _ (e1.trans e2) ((hr'.mono (hide_ex e2)).append hvs)⟩
    · cases h
  · rename_i xs ex
    split at h
    · rename_i ds eds
      cases h
      refine ⟨F, O, n, τ, _, rl, ex, fun H1 v e1 hv => ?_⟩
      cases hv with
      | lst hs' hr' => exact ⟨_, _, rfl, .inr (SqL.of (hide_le _ _ hs')), F, O, n, τ, ds, rl.mono e1, eds, fun H2 vs e2 hvs => q H2 _ (e1.trans e2) ((hr'.mono (hide_ex e2)).append hvs)⟩
    · cases h
  · cases h
/-- a new tuple, a new list -/
theorem new_tup {O : Addr → Bool} {vs : List V} {ds : List D} {Q : VK} (ow : Ow O H) (r : HDs K cl (hide O H) vs ds) (q : ∀ H' v, Ex H H' → HD K cl (hide O H') v (.tup ds) → Q v H') : ∀ p, H p = none → Q (.ref p) (upd H p (.tup vs)) := fun p hp =>
  q _ _ (Ex.new hp) (.tup (SqT.of (by rw [hide_at (ow.new hp)]; exact upd_same)) (r.mono (hide_ex (Ex.new hp))))
theorem new_lst {O : Addr → Bool} {vs : List V} {ds : List D} {Q : VK} (ow : Ow O H) (r : HDs K cl (hide O H) vs ds) (q : ∀ H' v, Ex H H' → HD K cl (hide O H') v (.lst ds) → Q v H') : ∀ p, H p = none → Q (.ref p) (upd H p (.lst vs)) := fun p hp =>
  q _ _ (Ex.new hp) (.lst (by rw [hide_at (ow.new hp)]; exact upd_same) (r.mono (hide_ex (Ex.new hp))))
theorem d_tup {x1} (ha : DA cl X es ar) : DE cl X (.Tuple es x1 pos) (eTup ar) := pe_imp (pe_tup ha) fun σ H Q ⟨F, O, n, τ, d, rl, h, q⟩ => by
  unfold eTup at h
  split at h
  · rename_i ds eds
    split at h
    · rename_i hl
      cases h
      exact ⟨F, O, n, τ, ds, rl, eds, fun H1 vs e1 hvs => ⟨sz_of (by rw [hvs.length]; exact hl), new_tup (rl.ow.ex e1) hvs fun H' v e' => q H' v (e1.trans e')⟩⟩
    · cases h
  · cases h
theorem d_lst (ha : DA cl X es ar) : DE cl X (.List es pos) (eLst ar) := pe_imp (pe_lst ha) fun σ H Q ⟨F, O, n, τ, d, rl, h, q⟩ => by
  unfold eLst at h
  split at h
  · rename_i ds eds
    split at h
    · rename_i hl
      cases h
      exact ⟨F, O, n, τ, ds, rl, eds, fun H1 vs e1 hvs => ⟨sz_of (by rw [hvs.length]; exact hl), new_lst (rl.ow.ex e1) hvs fun H' v e' => q H' v (e1.trans e')⟩⟩
    · cases h
  · cases h
end

/-! ### subscripts -/
def fIx : D → D → Option D
  | .lst ds, .int i => atI ds i
  | .tup ds, .int i => atI ds i
  | _, _ => none
theorem HDs.atI {K : PySem.W.Frag} {cl : Nat → Addr} {G : Hp} {vs : List V} {ds : List D} {i : Int} {d : D} (r : HDs K cl G vs ds) (h : L2.atI ds i = some d) : ∃ v, L2.atI vs i = some v ∧ HD K cl G v d := by
  unfold L2.atI at h ⊢
  rw [r.length]
  cases e : ixN ds.length i with
  | none => rw [e] at h; cases h
  | some j =>
    rw [e] at h
    exact r.get h
section
variable {cl : Nat → Addr} {X : Cx} {a b : Expr} {ea eb : EE} {pos : Pos}
theorem fd_ix {K : PySem.W.Frag} : FD2 K cl (fun x y H Q => rIxL K x y H Q ∨ rIxT K x y H Q) fIx := fun O H x y u v d Q ow hx hy hf q => by
  unfold fIx at hf
  split at hf
  · cases hx with
    | lst h1 r1 =>
      obtain ⟨w, h2, h3⟩ := r1.atI hf
      exact .inl ⟨_, _, _, w, rfl, hd_int hy, SqL.of (hide_le _ _ h1), h2, q H w (Ex.refl H) h3⟩
  · cases hx with
    | tup h1 r1 =>
      obtain ⟨w, h2, h3⟩ := r1.atI hf
      exact .inr ⟨_, _, _, w, rfl, hd_int hy, ex_t hide_le h1, h2, q H w (Ex.refl H) h3⟩
  · cases hf
theorem d_ix (ha : DE cl X a ea) (hb : DE cl X b eb) (hs : PlainIx b := by exact fun _ _ => rfl) : DE cl X (.Subscript a b pos) (eBin fIx ea eb) := pe_imp (pe_ix (IxR.or ix_list ix_tup) ha hb hs) fun _ _ _ => sound2 fd_ix
/-- slices -/
abbrev EO := Nat → Sta → Option (Option Int)
def oNone : EO := fun _ _ => some none
def oSome (ee : EE) : EO := fun n τ => match ee n τ with
  | some (.int i) => some (some i)
  | _ => none
def tO (K : PySem.W.Frag) (cl : Nat → Addr) (eo : EO) : TO := fun σ H Q => ∃ F O n τ o, Rel K cl F O σ H τ ∧ eo n τ = some o ∧ ∀ H', Ex H H' → Q o H'
abbrev DO (cl : Nat → Addr) (X : Cx) (e : Option Expr) (eo : EO) : Prop := PO X e (tO X.K cl eo)
theorem po_imp {e : Option Expr} {t t' : TO} (h : PO X e t) (k : ∀ σ H Q, t' σ H Q → t σ H Q) : PO X e t' := ⟨fun pins s σ H Q I q => h.run pins s σ H Q I (k σ H Q q)⟩
theorem do_none : DO cl X none oNone := po_imp po_none fun σ H Q ⟨F, O, n, τ, o, rl, h, q⟩ => by
  cases h
  exact q H (Ex.refl H)
theorem do_some (ha : DE cl X a ea) : DO cl X (some a) (oSome ea) := po_imp (po_some ha) fun σ H Q ⟨F, O, n, τ, o, rl, h, q⟩ => by
  unfold oSome at h
  split at h
  · rename_i i e
    cases h
    exact ⟨F, O, n, τ, _, rl, e, fun H1 v e1 hv => ⟨i, hd_int hv, q H1 e1⟩⟩
  · cases h
def cutD (ds : List D) (lo hi : Option Int) : List D := (ds.drop (HT.sIx ds.length 0 lo)).take (HT.sIx ds.length ds.length hi - HT.sIx ds.length 0 lo)
def eSl (ee : EE) (lo hi : EO) : EE := fun n τ => match ee n τ with
  | some (.tup ds) => match lo n τ with
    | some l => match hi n τ with
      | some u => some (.tup (cutD ds l u))
      | none => none
    | none => none
  | some (.lst ds) => match lo n τ with
    | some l => match hi n τ with
      | some u => some (.lst (cutD ds l u))
      | none => none
    | none => none
  | _ => none
theorem HDs.cut {K : PySem.W.Frag} {G : Hp} {vs : List V} {ds : List D} (r : HDs K cl G vs ds) (lo hi : Option Int) : HDs K cl G (cutV vs lo hi) (cutD ds lo hi) := by
  unfold cutV cutD
  rw [r.length]
  exact (r.drop _).take _
theorem d_slice {lo hi : Option Expr} {l u : EO} {p2 : Pos} (ha : DE cl X a ea) (hl : DO cl X lo l) (hu : DO cl X hi u) : DE cl X (.Subscript a (.Slice lo hi none p2) pos) (eSl ea l u) := pe_imp (pe_slice (SlR.or sl_list sl_tupA) ha hl hu) fun σ H Q ⟨F, O, n, τ, d, rl, h, q⟩ => by
  unfold eSl at h
  split at h
  · rename_i ds e1
    split at h
    · rename_i lv e2
      split at h
      · rename_i uv e3
        cases h
        refine ⟨F, O, n, τ, _, rl, e1, fun H1 v x1 hv => ⟨F, O, n, τ, lv, rl.mono x1, e2, fun H2 x2 => ⟨F, O, n, τ, uv, (rl.mono x1).mono x2, e3, fun H3 x3 => .inr ?_⟩⟩⟩
        cases hv with
        | tup hs hr =>
          have hs3 : SqT X.K (hide O H3) _ _ := ex_t (hide_ex (x2.trans x3)) hs
          have hr3 := hr.mono (hide_ex (x2.trans x3))
          refine ⟨_, _, rfl, ex_t hide_le hs3, fun hw => ?_, fun _ => ?_⟩
          · refine q H3 _ (x1.trans (x2.trans x3)) (.tup hs3 ?_)
            have : cutD ds lv uv = ds := by
              unfold cutD
              rw [hr.length] at hw
              rw [hw.1, hw.2]
              simp
            rw [this]
            exact hr3
          · exact new_tup (((rl.ow.ex x1).ex x2).ex x3) (hr3.cut lv uv) fun H' v e' => q H' v ((x1.trans (x2.trans x3)).trans e')
      · cases h
    · cases h
  · rename_i ds e1
    split at h
    · rename_i lv e2
      split at h
      · rename_i uv e3
        cases h
        refine ⟨F, O, n, τ, _, rl, e1, fun H1 v x1 hv => ⟨F, O, n, τ, lv, rl.mono x1, e2, fun H2 x2 => ⟨F, O, n, τ, uv, (rl.mono x1).mono x2, e3, fun H3 x3 => .inl ?_⟩⟩⟩
        cases hv with
        | lst hs hr =>
          have hr3 := hr.mono (hide_ex (x2.trans x3))
          refine ⟨_, _, rfl, SqL.of ((x2.trans x3) _ _ (hide_le _ _ hs)), ?_⟩
          exact new_lst (((rl.ow.ex x1).ex x2).ex x3) (hr3.cut lv uv) fun H' v e' => q H' v ((x1.trans (x2.trans x3)).trans e')
      · cases h
    · cases h
  · cases h
end
end TL

/-! Trees: fields, calls, instances -/
namespace TL
open PySem PySem.Spec PyProof.Rows L2 Evl SlX StX C8

/-! ### promises -/
/-- a def whose mirror is m -/
def spD (K : PySem.W.Frag) (cl : Nat → Addr) (m : Nat → List D → Option D) : Sp := fun vs H Q _ => ∃ (O : Addr → Bool) (n : Nat) (ds : List D) (d : D), Ow O H ∧ HDs K cl (hide O H) vs ds ∧ m n ds = some d ∧ ∀ H' v, Ex H H' → HD K cl (hide O H') v d → Q v H'
/-- an __init__ of the class numbered c -/
def spI (K : PySem.W.Frag) (cl : Nat → Addr) (c : Nat) (m : Nat → List D → Option (List D)) : Sp := fun vs H Q _ => ∃ (O : Addr → Bool) (n : Nat) (a dx : Addr) (ws : List V) (ds fs : List D), vs = .ref a :: ws ∧ H a = some (.ins (cl c) dx []) ∧ H dx = some (.own a) ∧ dx ≠ a ∧ Ow O H ∧ (O a = true ∧ O dx = true) ∧
  HDs K cl (hide O H) ws ds ∧ m n ds = some fs ∧ ∀ H' us, (∀ b o, b ≠ a → b ≠ dx → H b = some o → H' b = some o) → Slt H' a (cl c) dx (us.map some) → HDs K cl (hide O H') us fs → Q .non H'

/-! ### fields of instances -/
structure FldF (K : PySem.W.Frag) (cl : Nat → Addr) (f : Str) (lk : Nat → Option Nat) : Prop where
  ok : ∀ c i, lk c = some i → SCls K (cl c) ∧ ∃ p, Slot1 K (cl c) f p i
def fFld (lk : Nat → Option Nat) : D → Option D
  | .obj c ds => match lk c with
    | some i => ds[i]?
    | none => none
  | _ => none
/-- self.f while self is made -/
def eSelf (k : Nat) (lk : Nat → Option Nat) : EE := fun _ τ => match τ.pm with
  | .ob j c ds => if j = k then (match lk c with
    | some i => (match ds[i]? with
      | some (some d) => some d
      | _ => none)
    | none => none) else none
  | _ => none
section
variable {cl : Nat → Addr} {X : Cx} {e : Expr} {ee : EE} {f : Str} {lk : Nat → Option Nat} {pos : Pos}
theorem d_fld (F : FldF X.K cl f lk) (he : DE cl X e ee) (hb : attributeBase e f X.env (eval e X.env) = eval e X.env := by rfl) : DE cl X (.Attribute e f pos) (eUn (fFld lk) ee) := pe_imp (pe_sl he hb) fun σ H Q ⟨G, O, n, τ, d, rl, h, q⟩ => by
  obtain ⟨x, h1, h2⟩ := eUn_some h
  refine ⟨G, O, n, τ, x, rl, h1, fun H1 v e1 hv => ?_⟩
  unfold fFld at h2
  split at h2
  · rename_i c ds
    split at h2
    · rename_i i hl
      cases hv with
      | obj _ hs hr =>
        rename_i a dx vs
        obtain ⟨k1, p, k2⟩ := F.ok c i hl
        obtain ⟨u, hu, hd⟩ := hr.get h2
        exact ⟨a, cl c, dx, p, vs.map some, i, u, rfl, slt_mono hide_le hs, k1, k2, by rw [List.getElem?_map, hu] <;> rfl, q H1 u e1 hd⟩
    · cases h2
  · cases h2
theorem d_self {k : Nat} {x : Str} {p : Pos} (F : FldF X.K cl f lk) (he : PE X (.Name x p) (tVar k)) (hb : attributeBase (.Name x p) f X.env (eval (.Name x p) X.env) = eval (.Name x p) X.env := by rfl) : DE cl X (.Attribute (.Name x p) f pos) (eSelf k lk) := pe_imp (pe_sl he hb) fun σ H Q ⟨G, O, n, τ, d, rl, h, q⟩ => by
  unfold eSelf at h
  split at h
  · rename_i j c ds epm
    split at h
    · rename_i ej
      subst ej
      split at h
      · rename_i i hl
        split at h
        · rename_i d' hd
          cases h
          have z := rl.pm
          rw [epm] at z
          obtain ⟨vs, h1, h2, h3, h4, h5, h6, h7, h8⟩ := z
          obtain ⟨k1, p, k2⟩ := F.ok c i hl
          obtain ⟨u, hu, hd'⟩ := h7.2 i _ hd
          exact ⟨_, h1, G.a, cl c, G.dx, p, vs, i, u, rfl, h6, k1, k2, hu, q H u (Ex.refl H) hd'⟩
        · cases h
      · cases h
    · cases h
  · cases h
end

/-! ### calls of own defs -/
def eCall (m : Nat → List D → Option D) (dds : List D) (ea : EA) : EE := fun n τ => match ea n τ with
  | some ds => m n (ds ++ dds)
  | none => none
structure CalD (P : Program) (w : World) (K : PySem.W.Frag) (cl : Nat → Addr) (mg : Str → Option Value) (base : Heap) (k : Nat) (x : Str) (m : Nat → List D → Option D) (dds : List D) : Prop where
  ex : ∃ dvs, Cal P w K mg base k x (spD K cl m) dvs ∧ ∀ G, HDs K cl G dvs dds
structure MakD (P : Program) (w : World) (K : PySem.W.Frag) (cl : Nat → Addr) (mg : Str → Option Value) (base : Heap) (k : Nat) (x : Str) (c : Nat) (m : Nat → List D → Option (List D)) (dds : List D) : Prop where
  ex : ∃ dvs, Mak P w K mg base k x (cl c) (spI K cl c m) dvs ∧ ∀ G, HDs K cl G dvs dds
/-- a method of the class numbered c (the receiver first) -/
structure MetD (P : Program) (w : World) (K : PySem.W.Frag) (cl : Nat → Addr) (mg : Str → Option Value) (base : Heap) (k : Nat) (c : Nat) (x : Str) (m : Nat → List D → Option D) : Prop where
  ex : ∃ g, SCls K (cl c) ∧ Meth K (cl c) x g ∧ FnR P w K mg base L2.CX0 k g (spD K cl m)
/-- a property of the class numbered c -/
structure ProD (P : Program) (w : World) (K : PySem.W.Frag) (cl : Nat → Addr) (mg : Str → Option Value) (base : Heap) (k : Nat) (c : Nat) (f : Str) (m : Nat → List D → Option D) : Prop where
  ex : ∃ p g rest, SCls K (cl c) ∧ PySem.W.findIn K (.ref (cl c)) f = some (some (.ref p)) ∧ PySem.W.specialIn K (.ref p) "__get__" = some (some (.builtin "property.__get__")) ∧ PySem.W.takesIn K (.ref p) = some true ∧ PySem.W.recIn K p "property" = some (.ref g :: rest) ∧
    FnR P w K mg base L2.CX0 k g (spD K cl m)
section
variable {cl : Nat → Addr} {X : Cx} {x f : Str} {e : Expr} {es : List Expr} {ee : EE} {ar : EA} {m : Nat → List D → Option D} {dds : List D} {p pos apos : Pos} {k j c : Nat} {K : PySem.W.Frag} {σ : L2.St} {H : Hp}
theorem call_sound {dvs : List V} (hd : ∀ G, HDs K cl G dvs dds) {Q : VK} (h : tE K cl (eCall m dds ar) σ H Q) : tCall (spD K cl m) dvs L2.E0 (tA K cl ar) σ H Q := by
  obtain ⟨F, O, n, τ, d, rl, h, q⟩ := h
  unfold eCall at h
  split at h
  · rename_i ds eds
    exact ⟨F, O, n, τ, ds, rl, eds, fun H1 vs e1 hvs => ⟨O, n, ds ++ dds, d, rl.ow.ex e1, hvs.append (hd _), h, fun H' v e' hv => q H' v (e1.trans e') hv⟩⟩
  · cases h
theorem d_call (h : CalD X.prog X.w X.K cl X.mg X.base k x m dds) (hr : Room j X.A) (ha : DA cl X (e :: es) ar) (hk : k ≤ j := by decide) (hg : Gl X x := by rfl)
    (hdb : (x == ("__debug__" : Str)) = false := by decide) (he : starEach (e :: es) X.env = (false, eval e X.env) :: starEach es X.env := by rfl) (hpl : (backTo pos (starEach es X.env)).any (·.1) = false := by rfl) :
    DE cl X (.Call (.Name x p) (e :: es) [] pos) (eCall m dds ar) := by
  obtain ⟨dvs, c, hd⟩ := h.ex
  exact pe_imp (pe_c c hr hk hg ha hdb he hpl) fun _ _ _ => call_sound hd
theorem d_call0 (h : CalD X.prog X.w X.K cl X.mg X.base k x m dds) (hr : Room j X.A) (hk : k ≤ j := by decide) (hg : Gl X x := by rfl) (hdb : (x == ("__debug__" : Str)) = false := by decide) :
    DE cl X (.Call (.Name x p) [] [] pos) (eCall m dds aNil) := by
  obtain ⟨dvs, c, hd⟩ := h.ex
  obtain ⟨f, fd, ps, ds, F, hm, kp, b, d⟩ := c.ex
  exact pe_imp (pe_call0 F (hr.mono hk) hg hm kp b d L2.pass0 hdb) fun σ H Q ⟨F, O, n, τ, d, rl, h, q⟩ => ⟨O, n, dds, d, rl.ow, hd _, h, q⟩
/-- C(..) -/
def eMake (c : Nat) (m : Nat → List D → Option (List D)) (dds : List D) (ea : EA) : EE := fun n τ => match ea n τ with
  | some ds => match m n (ds ++ dds) with
    | some fs => some (.obj c fs)
    | none => none
  | none => none
theorem make_sound {mi : Nat → List D → Option (List D)} {dvs : List V} (hd : ∀ G, HDs K cl G dvs dds) {Q : VK} (h : tE K cl (eMake c mi dds ar) σ H Q) : tMake (cl c) (spI K cl c mi) dvs L2.E0 (tA K cl ar) σ H Q := by
  obtain ⟨F, O, n, τ, d, rl, h, q⟩ := h
  unfold eMake at h
  split at h
  · rename_i ds eds
    split at h
    · rename_i fs efs
      cases h
      refine ⟨F, O, n, τ, ds, rl, eds, fun H1 vs e1 hvs x dx nx nd ne => ?_⟩
      have ow1 := rl.ow.ex e1
      have ox := ow1.new nx
      have od := ow1.new nd
      let O' : Addr → Bool := fun b => O b || (b == x || b == dx)
      have o'x : O' x = true := by simp [O']
      have o'd : O' dx = true := by simp [O']
      have sub : ∀ b, O b = true → O' b = true := fun b hb => by simp [O', hb]
      have hx2 : upd (upd H1 dx (.own x)) x (.ins (cl c) dx []) dx = some (.own x) := by rw [upd_ne ne, upd_same]
      refine ⟨O', n, x, dx, vs ++ dvs, ds ++ dds, fs, rfl, upd_same, hx2, ne, fun b hb => ?_, ⟨o'x, o'd⟩, ?_, efs, fun H' us keep hs hu => ⟨rfl, ?_⟩⟩
      · by_cases h1 : b = x
        · rw [h1, upd_same]; exact fun z => nomatch z
        · rw [upd_ne h1]
          by_cases h2 : b = dx
          · rw [h2, upd_same]; exact fun z => nomatch z
          · rw [upd_ne h2]
            have : O b = true := by simpa [O', h1, h2] using hb
            exact ow1 b this
      · refine (hvs.append (hd _)).mono fun b o hb => ?_
        have h1 : b ≠ x := fun z => by rw [z, hide_at ox, nx] at hb; cases hb
        have h2 : b ≠ dx := fun z => by rw [z, hide_at od, nd] at hb; cases hb
        cases h3 : O b with
        | true => rw [hide_on h3] at hb; cases hb
        | false =>
          rw [hide_at h3] at hb
          have h4 : O' b = false := by simp [O', h1, h2, h3]
          rw [hide_at h4, upd_ne h1, upd_ne h2]
          exact hb
      · have ex1 : Ex H1 H' := fun b o hb => keep b o (ne_of_none hb nx) (ne_of_none hb nd) (by rw [upd_ne (ne_of_none hb nx), upd_ne (ne_of_none hb nd)]; exact hb)
        refine q H' _ (e1.trans ex1) (.obj (dx := dx) (vs := us) c ?_ (hu.mono (hide_sub sub)))
        rcases hs with ⟨h1, h2⟩ | ⟨h1, h2⟩
        · exact .inl ⟨by rw [hide_at ox]; exact h1, h2⟩
        · exact .inr ⟨by rw [hide_at ox]; exact h1, by rw [hide_at od]; exact h2⟩
    · cases h
  · cases h
theorem d_make {mi : Nat → List D → Option (List D)} (h : MakD X.prog X.w X.K cl X.mg X.base k x c mi dds) (hr : Room j X.A) (ha : DA cl X (e :: es) ar) (hk : k + 1 ≤ j := by decide) (hg : Gl X x := by rfl)
    (hdb : (x == ("__debug__" : Str)) = false := by decide) (he : starEach (e :: es) X.env = (false, eval e X.env) :: starEach es X.env := by rfl) (hpl : (backTo pos (starEach es X.env)).any (·.1) = false := by rfl) :
    DE cl X (.Call (.Name x p) (e :: es) [] pos) (eMake c mi dds ar) := by
  obtain ⟨dvs, c, hd⟩ := h.ex
  exact pe_imp (pe_mk c hr hk hg ha hdb he hpl) fun _ _ _ => make_sound hd
/-- o.m(..) -/
def eMeth (c : Nat) (m : Nat → List D → Option D) (eo : EE) (ea : EA) : EE := fun n τ => match eo n τ with
  | some (.obj c' ds) => if c' = c then (match ea n τ with
    | some as => m n (.obj c' ds :: as)
    | none => none) else none
  | _ => none
theorem meth_sound {Q : VK} (h : tE K cl (eMeth c m ee ar) σ H Q) : tMethSl (cl c) (spD K cl m) L2.E0 (tE K cl ee) (tA K cl ar) σ H Q := by
  obtain ⟨F, O, n, τ, d, rl, h, q⟩ := h
  unfold eMeth at h
  split at h
  · rename_i c' ds e1
    split at h
    · rename_i ec
      subst ec
      split at h
      · rename_i as e2
        refine ⟨F, O, n, τ, _, rl, e1, fun H1 v x1 hv => ?_⟩
        have hv' := hv
        cases hv with
        | obj _ hs hr =>
          exact ⟨_, _, _, rfl, slt_mono hide_le hs, F, O, n, τ, as, rl.mono x1, e2, fun H2 vs x2 hvs => ⟨O, n, _, d, (rl.ow.ex x1).ex x2, .cons (hv'.mono (hide_ex x2)) hvs, h, fun H' v e' hv => q H' v ((x1.trans x2).trans e') hv⟩⟩
      · cases h
    · cases h
  · cases h
theorem d_meth {o : Expr} {pl : Sem Bool} (hM : MetD X.prog X.w X.K cl X.mg X.base k c x m) (hr : Room j X.A) (ho : DE cl X o ee) (ha : DA cl X (e :: es) ar) (hk : k ≤ j := by decide)
    (hst : starEach (e :: es) X.env = (false, eval e X.env) :: starEach es X.env := by rfl) (hpl : (backTo pos (starEach es X.env)).any (·.1) = false := by rfl)
    (ht : eval (.Call (.Attribute o x apos) (e :: es) [] pos) X.env = (do
      let ov ← eval o X.env
      standAt apos.atName
      let (f, first) ← holding [ov] (getMethod ov x pl)
      callWith pos f first (backTo pos (starEach (e :: es) X.env)) (backToKw pos (keywordEach [] X.env))) := by rfl) :
    DE cl X (.Call (.Attribute o x apos) (e :: es) [] pos) (eMeth c m ee ar) := by
  obtain ⟨g, h1, h2, h3⟩ := hM.ex
  exact pe_imp (pe_methSl (pl := pl) ho h1 h2 h3 (hr.mono hk) L2.pass0 ha hst hpl ht) fun _ _ _ h => meth_sound h
theorem d_meth0 {o : Expr} {pl : Sem Bool} (hM : MetD X.prog X.w X.K cl X.mg X.base k c x m) (hr : Room j X.A) (ho : DE cl X o ee) (hk : k ≤ j := by decide)
    (ht : eval (.Call (.Attribute o x apos) [] [] pos) X.env = (do
      let ov ← eval o X.env
      standAt apos.atName
      let (f, first) ← holding [ov] (getMethod ov x pl)
      callWith pos f first (backTo pos (starEach [] X.env)) (backToKw pos (keywordEach [] X.env))) := by rfl) :
    DE cl X (.Call (.Attribute o x apos) [] [] pos) (eMeth c m ee aNil) := by
  obtain ⟨g, h1, h2, h3⟩ := hM.ex
  refine pe_imp (pe_methSl0 (pl := pl) ho h1 h2 h3 (hr.mono hk) L2.pass0 ht) fun σ H Q ⟨F, O, n, τ, d, rl, h, q⟩ => ?_
  unfold eMeth at h
  split at h
  · rename_i c' ds e1
    split at h
    · rename_i ec
      subst ec
      refine ⟨F, O, n, τ, _, rl, e1, fun H1 v x1 hv => ?_⟩
      have hv' := hv
      cases hv with
      | obj _ hs hr => exact ⟨_, _, _, rfl, slt_mono hide_le hs, O, n, _, d, rl.ow.ex x1, .cons hv' .nil, h, fun H' v e' hv => q H' v (x1.trans e') hv⟩
    · cases h
  · cases h
/-- o.f, a property -/
def eProp (c : Nat) (m : Nat → List D → Option D) (eo : EE) : EE := fun n τ => match eo n τ with
  | some (.obj c' ds) => if c' = c then m n [.obj c' ds] else none
  | _ => none
theorem d_prop (hM : ProD X.prog X.w X.K cl X.mg X.base k c f m) (hr : Room j X.A) (he : DE cl X e ee) (hk : k + 1 ≤ j := by decide) (hb : attributeBase e f X.env (eval e X.env) = eval e X.env := by rfl) : DE cl X (.Attribute e f pos) (eProp c m ee) := by
  obtain ⟨p, g, rest, h1, h2, h3, h4, h5, h6⟩ := hM.ex
  refine pe_imp (pe_propSl he h1 h2 h3 h4 ⟨rest, h5⟩ h6 (hr.mono hk) (E := L2.E0) (fun _ _ _ _ z => z) hb) fun σ H Q ⟨F, O, n, τ, d, rl, h, q⟩ => ?_
  unfold eProp at h
  split at h
  · rename_i c' ds e1
    split at h
    · rename_i ec
      subst ec
      refine ⟨F, O, n, τ, _, rl, e1, fun H1 v x1 hv => ?_⟩
      have hv' := hv
      cases hv with
      | obj _ hs hr => exact ⟨_, _, _, rfl, slt_mono hide_le hs, O, n, _, d, rl.ow.ex x1, .cons hv' .nil, h, fun H' v e' hv => q H' v (x1.trans e') hv⟩
    · cases h
  · cases h
end
end TL

/-! Trees: calls of built-ins -/
namespace TL
open PySem PySem.Spec PyProof.Rows L2 Evl SlX StX

def FDC (K : PySem.W.Frag) (cl : Nat → Addr) (r : List V → Hp → VK → Prop) (f : List D → Option D) : Prop := ∀ (O : Addr → Bool) (H : Hp) (vs : List V) (ds : List D) (d : D) (Q : VK), Ow O H → HDs K cl (hide O H) vs ds → f ds = some d →
  (∀ H' v, Ex H H' → HD K cl (hide O H') v d → Q v H') → r vs H Q
def eB (f : List D → Option D) (ea : EA) : EE := fun n τ => match ea n τ with
  | some ds => f ds
  | none => none
section
variable {cl : Nat → Addr} {X : Cx} {x : Str} {e : Expr} {es : List Expr} {ar : EA} {p pos : Pos} {K : PySem.W.Frag} {σ : L2.St} {H : Hp} {r : List V → Hp → VK → Prop} {f : List D → Option D}
theorem b_sound (hf : FDC K cl r f) {Q : VK} (h : tE K cl (eB f ar) σ H Q) : tCB r (tA K cl ar) σ H Q := by
  obtain ⟨F, O, n, τ, d, rl, h, q⟩ := h
  unfold eB at h
  split at h
  · rename_i ds eds
    exact ⟨F, O, n, τ, ds, rl, eds, fun H1 vs e1 hvs => hf O H1 vs ds d Q (rl.ow.ex e1) hvs h fun H' v e' hv => q H' v (e1.trans e') hv⟩
  · cases h
theorem d_cb {id : String} (hc : CallR X (.builtin id) r) (hf : FDC X.K cl r f) (hm : X.mg x = none) (ha : DA cl X (e :: es) ar) (hg : Gl X x := by rfl) (hv : bootBuiltins x = some (.builtin id) := by decide +kernel) (hn : x ≠ "__name__" := by decide) (hdb : (x == ("__debug__" : Str)) = false := by decide)
    (he : starEach (e :: es) X.env = (false, eval e X.env) :: starEach es X.env := by rfl) (hpl : (backTo pos (starEach es X.env)).any (·.1) = false := by rfl) : DE cl X (.Call (.Name x p) (e :: es) [] pos) (eB f ar) :=
  pe_imp (pe_callB hc hg hm hv ha hn hdb he hpl) fun _ _ _ => b_sound hf
theorem d_ct {T : String} (hc : CallR X (.type T) r) (hf : FDC X.K cl r f) (hm : X.mg x = none) (ha : DA cl X (e :: es) ar) (hg : Gl X x := by rfl) (hv : bootBuiltins x = some (.type T) := by decide +kernel) (hn : x ≠ "__name__" := by decide) (hdb : (x == ("__debug__" : Str)) = false := by decide)
    (he : starEach (e :: es) X.env = (false, eval e X.env) :: starEach es X.env := by rfl) (hpl : (backTo pos (starEach es X.env)).any (·.1) = false := by rfl) : DE cl X (.Call (.Name x p) (e :: es) [] pos) (eB f ar) :=
  pe_imp (pe_callTy hc hg hm hv ha hn hdb he hpl) fun _ _ _ => b_sound hf
theorem d_cf {id : String} (hc : CallR X (.builtin id) r) (hf : FDC X.K cl r f) (hm : X.mg x = some (.builtin id)) (ha : DA cl X (e :: es) ar) (hg : Gl X x := by rfl) (hdb : (x == ("__debug__" : Str)) = false := by decide)
    (he : starEach (e :: es) X.env = (false, eval e X.env) :: starEach es X.env := by rfl) (hpl : (backTo pos (starEach es X.env)).any (·.1) = false := by rfl) : DE cl X (.Call (.Name x p) (e :: es) [] pos) (eB f ar) :=
  pe_imp (pe_callBfun hc hg hm ha hdb he hpl) fun _ _ _ => b_sound hf
end

/-! ### the functions on trees -/
def fAbs : List D → Option D
  | [.int i] => some (.int (if i < 0 then -i else i))
  | _ => none
def fMax2 : List D → Option D
  | [.int i, .int j] => some (.int (if j > i then j else i))
  | _ => none
def fMin2 : List D → Option D
  | [.int i, .int j] => some (.int (if j < i then j else i))
  | _ => none
def fInt1 : List D → Option D
  | [.int i] => some (.int i)
  | [.bl k] => some (.int (if k then 1 else 0))
  | _ => none
def fLen : List D → Option D
  | [.lst ds] => some (.int ds.length)
  | [.tup ds] => some (.int ds.length)
  | _ => none
def fList : List D → Option D
  | [.lst ds] => some (.lst ds)
  | [.tup ds] => some (.lst ds)
  | _ => none
def fTuple : List D → Option D
  | [.lst ds] => some (.tup ds)
  | [.tup ds] => some (.tup ds)
  | _ => none
/-- all are ints -/
def intsD : List D → Option (List Int)
  | [] => some []
  | .int i :: r => match intsD r with
    | some is => some (i :: is)
    | none => none
  | _ => none
def blsD : List D → Option (List Bool)
  | [] => some []
  | .bl i :: r => match blsD r with
    | some is => some (i :: is)
    | none => none
  | _ => none
/-- all are tuples of ints -/
def tupsD : List D → Option (List (List Int))
  | [] => some []
  | .tup ds :: r => match intsD ds with
    | some is => match tupsD r with
      | some l => some (is :: l)
      | none => none
    | none => none
  | _ => none
def sumI : List Int → Int
  | [] => 0
  | i :: r => i + sumI r
def fSum : List D → Option D
  | [.lst ds] => match intsD ds with
    | some is => some (.int (sumI is))
    | none => none
  | _ => none
def anyB : List Bool → Bool
  | [] => false
  | b :: r => b || anyB r
def allB : List Bool → Bool
  | [] => true
  | b :: r => b && allB r
def anyI : List Int → Bool
  | [] => false
  | b :: r => (b != 0) || anyI r
def fAll : List D → Option D
  | [.lst ds] => match blsD ds with
    | some is => some (.bl (allB is))
    | none => none
  | _ => none
def fAny : List D → Option D
  | [.lst ds] => match blsD ds with
    | some is => some (.bl (anyB is))
    | none => none
  | _ => none
def fAnyI : List D → Option D
  | [.lst ds] => match intsD ds with
    | some is => some (.bl (anyI is))
    | none => none
  | _ => none
def fIsqrt : List D → Option D
  | [.int i] => if 0 ≤ i ∧ i < 18446744073709551616 then some (.int ((Float64.isqrt i.toNat : Nat) : Int)) else none
  | _ => none
/-- tuples of ints, in order -/
def lexLe : List Int → List Int → Bool
  | [], _ => true
  | _ :: _, [] => false
  | a :: r, b :: s => if a = b then lexLe r s else decide (a < b)
def insL (a : List Int) : List (List Int) → List (List Int)
  | [] => [a]
  | b :: r => if lexLe a b = true then a :: b :: r else b :: insL a r
def sortL : List (List Int) → List (List Int)
  | [] => []
  | a :: r => insL a (sortL r)
def tupI (is : List Int) : D := .tup (is.map .int)
def fSorted : List D → Option D
  | [.lst ds] => match tupsD ds with
    | some ls => if (ds.length ≤ 1000 ∧ ls.all (fun l => !l.isEmpty) = true) then some (.lst ((sortL ls).map tupI)) else none
    | none => none
  | _ => none
def minL (x : List Int) : List (List Int) → List Int
  | [] => x
  | y :: r => minL (if lexLe x y = true then x else y) r
def fMin : List D → Option D
  | [.lst ds] => match tupsD ds with
    | some (x :: r) => some (tupI (minL x r))
    | _ => none
  | _ => none

section
variable {K : PySem.W.Frag} {cl : Nat → Addr} {G : Hp}
theorem hds_1 {vs : List V} {d : D} (h : HDs K cl G vs [d]) : ∃ v, vs = [v] ∧ HD K cl G v d := by
  cases h with
  | cons h r => cases r; exact ⟨_, rfl, h⟩
theorem hds_2 {vs : List V} {d e : D} (h : HDs K cl G vs [d, e]) : ∃ v w, vs = [v, w] ∧ HD K cl G v d ∧ HD K cl G w e := by
  cases h with
  | cons h r =>
    obtain ⟨w, e, k⟩ := hds_1 r
    exact ⟨_, w, by rw [e], h, k⟩
theorem ints_of : ∀ {vs : List V} {ds : List D} {is : List Int}, HDs K cl G vs ds → intsD ds = some is → vs = is.map V.int ∧ ds = is.map D.int
  | _, [], _, .nil, e => by rw [intsD] at e; cases e; exact ⟨rfl, rfl⟩
  | _, .int i :: r, _, .cons h t, e => by
    rw [intsD] at e
    split at e
    · rename_i js ej
      cases e
      obtain ⟨h1, h2⟩ := ints_of t ej
      rw [hd_int h, h1, h2]
      exact ⟨rfl, rfl⟩
    · cases e
  | _, .non :: _, _, .cons h t, e => by rw [intsD] at e <;> (first | cases e | (intro _ _ z; cases z))
  | _, .bl _ :: _, _, .cons h t, e => by rw [intsD] at e <;> (first | cases e | (intro _ _ z; cases z))
  | _, .str _ :: _, _, .cons h t, e => by rw [intsD] at e <;> (first | cases e | (intro _ _ z; cases z))
  | _, .ty _ :: _, _, .cons h t, e => by rw [intsD] at e <;> (first | cases e | (intro _ _ z; cases z))
  | _, .tup _ :: _, _, .cons h t, e => by rw [intsD] at e <;> (first | cases e | (intro _ _ z; cases z))
  | _, .lst _ :: _, _, .cons h t, e => by rw [intsD] at e <;> (first | cases e | (intro _ _ z; cases z))
  | _, .obj _ _ :: _, _, .cons h t, e => by rw [intsD] at e <;> (first | cases e | (intro _ _ z; cases z))
  | _, .cls _ :: _, _, .cons h t, e => by rw [intsD] at e <;> (first | cases e | (intro _ _ z; cases z))
  | _, .any :: _, _, .cons h t, e => by rw [intsD] at e <;> (first | cases e | (intro _ _ z; cases z))
theorem bls_of : ∀ {vs : List V} {ds : List D} {is : List Bool}, HDs K cl G vs ds → blsD ds = some is → vs = is.map V.bl ∧ ds = is.map D.bl
  | _, [], _, .nil, e => by rw [blsD] at e; cases e; exact ⟨rfl, rfl⟩
  | _, .bl i :: r, _, .cons h t, e => by
    rw [blsD] at e
    split at e
    · rename_i js ej
      cases e
      obtain ⟨h1, h2⟩ := bls_of t ej
      rw [hd_bl h, h1, h2]
      exact ⟨rfl, rfl⟩
    · cases e
  | _, .non :: _, _, .cons h t, e => by rw [blsD] at e <;> (first | cases e | (intro _ _ z; cases z))
  | _, .int _ :: _, _, .cons h t, e => by rw [blsD] at e <;> (first | cases e | (intro _ _ z; cases z))
  | _, .str _ :: _, _, .cons h t, e => by rw [blsD] at e <;> (first | cases e | (intro _ _ z; cases z))
  | _, .ty _ :: _, _, .cons h t, e => by rw [blsD] at e <;> (first | cases e | (intro _ _ z; cases z))
  | _, .tup _ :: _, _, .cons h t, e => by rw [blsD] at e <;> (first | cases e | (intro _ _ z; cases z))
  | _, .lst _ :: _, _, .cons h t, e => by rw [blsD] at e <;> (first | cases e | (intro _ _ z; cases z))
  | _, .obj _ _ :: _, _, .cons h t, e => by rw [blsD] at e <;> (first | cases e | (intro _ _ z; cases z))
  | _, .cls _ :: _, _, .cons h t, e => by rw [blsD] at e <;> (first | cases e | (intro _ _ z; cases z))
  | _, .any :: _, _, .cons h t, e => by rw [blsD] at e <;> (first | cases e | (intro _ _ z; cases z))
theorem sumI_eq : ∀ is : List Int, sumI is = is.sum
  | [] => rfl
  | i :: r => by rw [sumI, List.sum_cons, sumI_eq r]
theorem anyB_eq : ∀ is : List Bool, anyB is = is.any id
  | [] => rfl
  | i :: r => by rw [anyB, List.any_cons, anyB_eq r]; rfl
theorem allB_eq : ∀ is : List Bool, allB is = is.all id
  | [] => rfl
  | i :: r => by rw [allB, List.all_cons, allB_eq r]; rfl
theorem fc_abs : FDC K cl (fun xs H Q => ∃ i, xs = [.int i] ∧ Q (.int (if i < 0 then -i else i)) H) fAbs := fun O H vs ds d Q ow hv hf q => by
  unfold fAbs at hf
  split at hf
  · cases hf
    obtain ⟨v, rfl, h⟩ := hds_1 hv
    exact ⟨_, by rw [hd_int h], q H _ (Ex.refl H) (.int _)⟩
  · cases hf
theorem fc_max2 : FDC K cl (fun xs H Q => ∃ i j, xs = [.int i, .int j] ∧ Q (.int (if j > i then j else i)) H) fMax2 := fun O H vs ds d Q ow hv hf q => by
  unfold fMax2 at hf
  split at hf
  · cases hf
    obtain ⟨v, w, rfl, h, k⟩ := hds_2 hv
    exact ⟨_, _, by rw [hd_int h, hd_int k], q H _ (Ex.refl H) (.int _)⟩
  · cases hf
theorem fc_min2 : FDC K cl (fun xs H Q => ∃ i j, xs = [.int i, .int j] ∧ Q (.int (if j < i then j else i)) H) fMin2 := fun O H vs ds d Q ow hv hf q => by
  unfold fMin2 at hf
  split at hf
  · cases hf
    obtain ⟨v, w, rfl, h, k⟩ := hds_2 hv
    exact ⟨_, _, by rw [hd_int h, hd_int k], q H _ (Ex.refl H) (.int _)⟩
  · cases hf
theorem fc_int1 : FDC K cl (fun xs H Q => (∃ i, xs = [.int i] ∧ Q (.int i) H) ∨ ∃ k, xs = [.bl k] ∧ Q (.int (if k then 1 else 0)) H) fInt1 := fun O H vs ds d Q ow hv hf q => by
  unfold fInt1 at hf
  split at hf
  · cases hf
    obtain ⟨v, rfl, h⟩ := hds_1 hv
    exact .inl ⟨_, by rw [hd_int h], q H _ (Ex.refl H) (.int _)⟩
  · cases hf
    obtain ⟨v, rfl, h⟩ := hds_1 hv
    exact .inr ⟨_, by rw [hd_bl h], q H _ (Ex.refl H) (.int _)⟩
  · cases hf
theorem seq_lst {O : Addr → Bool} {H : Hp} {v : V} {ds : List D} (h : HD K cl (hide O H) v (.lst ds)) : ∃ a vs, v = .ref a ∧ SqL K H a vs ∧ hide O H a = some (.lst vs) ∧ HDs K cl (hide O H) vs ds := by
  cases h with
  | lst h r => exact ⟨_, _, rfl, SqL.of (hide_le _ _ h), h, r⟩
theorem seq_tup {O : Addr → Bool} {H : Hp} {v : V} {ds : List D} (h : HD K cl (hide O H) v (.tup ds)) : ∃ a vs, v = .ref a ∧ SqT K H a vs ∧ SqT K (hide O H) a vs ∧ HDs K cl (hide O H) vs ds := by
  cases h with
  | tup h r => exact ⟨_, _, rfl, ex_t hide_le h, h, r⟩
theorem fc_len : FDC K cl (fun xs H Q => ∃ p ys, xs = [.ref p] ∧ (SqL K H p ys ∨ SqT K H p ys) ∧ Q (.int ys.length) H) fLen := fun O H vs ds d Q ow hv hf q => by
  unfold fLen at hf
  split at hf
  · cases hf
    obtain ⟨v, rfl, h⟩ := hds_1 hv
    obtain ⟨a, ws, rfl, h1, _, h2⟩ := seq_lst h
    exact ⟨a, ws, rfl, .inl h1, q H _ (Ex.refl H) (by rw [h2.length]; exact .int _)⟩
  · cases hf
    obtain ⟨v, rfl, h⟩ := hds_1 hv
    obtain ⟨a, ws, rfl, h1, _, h2⟩ := seq_tup h
    exact ⟨a, ws, rfl, .inr h1, q H _ (Ex.refl H) (by rw [h2.length]; exact .int _)⟩
  · cases hf
theorem fc_list : FDC K cl (fun xs H Q => ∃ p ys, xs = [.ref p] ∧ (SqL K H p ys ∨ SqT K H p ys) ∧ ∀ l, H l = none → Q (.ref l) (upd H l (.lst ys))) fList := fun O H vs ds d Q ow hv hf q => by
  unfold fList at hf
  split at hf
  · cases hf
    obtain ⟨v, rfl, h⟩ := hds_1 hv
    obtain ⟨a, ws, rfl, h1, _, h2⟩ := seq_lst h
    exact ⟨a, ws, rfl, .inl h1, new_lst ow h2 q⟩
  · cases hf
    obtain ⟨v, rfl, h⟩ := hds_1 hv
    obtain ⟨a, ws, rfl, h1, _, h2⟩ := seq_tup h
    exact ⟨a, ws, rfl, .inr h1, new_lst ow h2 q⟩
  · cases hf
theorem fc_tuple : FDC K cl (fun xs H Q => ∃ p ys, xs = [.ref p] ∧ ((SqL K H p ys ∧ ∀ l, H l = none → Q (.ref l) (upd H l (.tup ys))) ∨ (SqT K H p ys ∧ Q (.ref p) H))) fTuple := fun O H vs ds d Q ow hv hf q => by
  unfold fTuple at hf
  split at hf
  · cases hf
    obtain ⟨v, rfl, h⟩ := hds_1 hv
    obtain ⟨a, ws, rfl, h1, _, h2⟩ := seq_lst h
    exact ⟨a, ws, rfl, .inl ⟨h1, new_tup ow h2 q⟩⟩
  · cases hf
    obtain ⟨v, rfl, h⟩ := hds_1 hv
    obtain ⟨a, ws, rfl, h1, h3, h2⟩ := seq_tup h
    exact ⟨a, ws, rfl, .inr ⟨h1, q H _ (Ex.refl H) (.tup h3 h2)⟩⟩
  · cases hf
theorem fc_sum : FDC K cl (rSum K) fSum := fun O H vs ds d Q ow hv hf q => by
  unfold fSum at hf
  split at hf
  · split at hf
    · rename_i is ei
      cases hf
      obtain ⟨v, rfl, h⟩ := hds_1 hv
      obtain ⟨a, ws, rfl, h1, _, h2⟩ := seq_lst h
      obtain ⟨e1, _⟩ := ints_of h2 ei
      subst e1
      exact ⟨a, is, rfl, h1, q H _ (Ex.refl H) (by rw [sumI_eq]; exact .int _)⟩
    · cases hf
  · cases hf
theorem fc_any : FDC K cl (rAny K) fAny := fun O H vs ds d Q ow hv hf q => by
  unfold fAny at hf
  split at hf
  · split at hf
    · rename_i is ei
      cases hf
      obtain ⟨v, rfl, h⟩ := hds_1 hv
      obtain ⟨a, ws, rfl, h1, _, h2⟩ := seq_lst h
      obtain ⟨e1, _⟩ := bls_of h2 ei
      subst e1
      exact ⟨a, is, rfl, h1, q H _ (Ex.refl H) (by rw [anyB_eq]; exact .bl _)⟩
    · cases hf
  · cases hf
theorem fc_all : FDC K cl (rAll K) fAll := fun O H vs ds d Q ow hv hf q => by
  unfold fAll at hf
  split at hf
  · split at hf
    · rename_i is ei
      cases hf
      obtain ⟨v, rfl, h⟩ := hds_1 hv
      obtain ⟨a, ws, rfl, h1, _, h2⟩ := seq_lst h
      obtain ⟨e1, _⟩ := bls_of h2 ei
      subst e1
      exact ⟨a, is, rfl, h1, q H _ (Ex.refl H) (by rw [allB_eq]; exact .bl _)⟩
    · cases hf
  · cases hf
end
/-! ### any of ints -/
def rAnyI (K : PySem.W.Frag) : List V → Hp → VK → Prop := fun vs H Q => ∃ (a : Addr) (is : List Int), vs = [V.ref a] ∧ SqL K H a (is.map V.int) ∧ Q (.bl (anyI is)) H
theorem readsAll_ints {h : Heap} : ∀ {is : List Int} {us : List Value}, Vals (is.map V.int) us → ∃ as, ReadsAll h us (is.map PyData.int) as
  | [], _, r => by
    rw [List.map_nil] at r
    cases r
    exact ⟨_, ReadsAll.nil⟩
  | i :: is, _, r => by
    rw [List.map_cons] at r
    cases r with
    | cons r t =>
      obtain ⟨tk, rfl⟩ := r
      obtain ⟨as, q⟩ := readsAll_ints (h := h) t
      exact ⟨_, ReadsAll.cons (Reads.int i tk) q⟩
theorem anyI_eq : ∀ is : List Int, (is.map PyData.int).any PyData.truthy = anyI is
  | [] => rfl
  | i :: is => by
    rw [List.map_cons, List.any_cons, anyI_eq is]
    rfl
theorem plain_ints : ∀ is : List Int, PyData.plainAll (is.map PyData.int) = true
  | [] => by simp [PyData.plainAll]
  | i :: is => by
    rw [List.map_cons, PyData.plainAll, plain_ints is]
    rfl
theorem cr_anyI {X : Cx} (hc : X.calm = true) : CallR X (.builtin "any") (rAnyI X.K) := by
  intro pins s σ H vs us Q I r h
  obtain ⟨a, is, rfl, hs, q⟩ := h
  obtain ⟨its, rv, hl, _⟩ := I.list hs
  rw [Vals.ref1 r]
  obtain ⟨as, hr⟩ := readsAll_ints (h := s.heap) rv
  refine PySem.W.any_list_data (I.ok.hd hc) hl.isList (by simpa using hr) (plain_ints is) (fun x hx => ?_) fun h' tk hk => ⟨.bl _, H, I.kept hk, rfl, by rw [anyI_eq]; exact q⟩
  obtain ⟨i, _, rfl⟩ := List.mem_map.mp hx
  trivial
theorem fc_anyI {K : PySem.W.Frag} {cl : Nat → Addr} : FDC K cl (rAnyI K) fAnyI := fun O H vs ds d Q ow hv hf q => by
  unfold fAnyI at hf
  split at hf
  · split at hf
    · rename_i is ei
      cases hf
      obtain ⟨v, rfl, h⟩ := hds_1 hv
      obtain ⟨a, ws, rfl, h1, _, h2⟩ := seq_lst h
      obtain ⟨e1, _⟩ := ints_of h2 ei
      subst e1
      exact ⟨a, is, rfl, h1, q H _ (Ex.refl H) (.bl _)⟩
    · cases hf
  · cases hf
/-! ### math.isqrt -/
def rIsqrt : List V → Hp → VK → Prop := fun vs H Q => ∃ i : Int, vs = [.int i] ∧ 0 ≤ i ∧ i < 2 ^ 64 ∧ Q (.int ((Float64.isqrt i.toNat : Nat) : Int)) H
theorem cr_isqrt {X : Cx} : CallR X (.builtin "math.isqrt") rIsqrt := by
  intro pins s σ H vs us Q I r h
  obtain ⟨i, rfl, h0, h1, q⟩ := h
  obtain ⟨u, rfl, t, rfl⟩ := vals1 r
  exact PySem.W.mg_isqrt h0 h1 ⟨.int _, H, I.tok _, ⟨_, rfl⟩, q⟩
theorem fc_isqrt {K : PySem.W.Frag} {cl : Nat → Addr} : FDC K cl rIsqrt fIsqrt := fun O H vs ds d Q ow hv hf q => by
  unfold fIsqrt at hf
  split at hf
  · split at hf
    · rename_i hi
      cases hf
      obtain ⟨v, rfl, h⟩ := hds_1 hv
      exact ⟨_, by rw [hd_int h], hi.1, hi.2, q H _ (Ex.refl H) (.int _)⟩
    · cases hf
  · cases hf
end TL

/-! Trees: sorted and min of tuples of ints -/
namespace TL
open PySem PySem.Spec PyProof.Rows L2 Evl SlX StX

/-! ### the order -/
theorem lexLe_eq : ∀ a b : List Int, lexLe a b = decide (a ≤ b)
  | [], b => by simp [lexLe]
  | a :: r, [] => by simp [lexLe]
  | a :: r, b :: s => by
    rw [lexLe]
    by_cases h : a = b
    · subst h
      rw [if_pos rfl, lexLe_eq r s]
      simp [List.cons_le_cons_iff]
    · rw [if_neg h]
      simp [List.cons_le_cons_iff, h]
theorem lex_trans (a b c : List Int) (h1 : lexLe a b = true) (h2 : lexLe b c = true) : lexLe a c = true := by
  rw [lexLe_eq, decide_eq_true_eq] at *
  exact List.le_trans h1 h2
theorem lex_total (a b : List Int) : (lexLe a b || lexLe b a) = true := by
  rw [lexLe_eq, lexLe_eq, Bool.or_eq_true, decide_eq_true_eq, decide_eq_true_eq]
  exact List.le_total a b
theorem lex_anti (a b : List Int) (h1 : lexLe a b = true) (h2 : lexLe b a = true) : a = b := by
  rw [lexLe_eq, decide_eq_true_eq] at *
  exact List.le_antisymm h1 h2
theorem insL_perm (a : List Int) : ∀ l, (insL a l).Perm (a :: l)
  | [] => List.Perm.refl _
  | b :: r => by
    rw [insL]
    split
    · exact List.Perm.refl _
    · exact (List.Perm.cons b (insL_perm a r)).trans (List.Perm.swap a b r)
theorem sortL_perm : ∀ l, (sortL l).Perm l
  | [] => List.Perm.refl _
  | a :: r => (insL_perm a (sortL r)).trans (List.Perm.cons a (sortL_perm r))
theorem insL_pw (a : List Int) : ∀ l, l.Pairwise (fun x y => lexLe x y = true) → (insL a l).Pairwise (fun x y => lexLe x y = true)
  | [], _ => List.pairwise_singleton _ _
  | b :: r, h => by
    rw [insL]
    obtain ⟨h1, h2⟩ := List.pairwise_cons.mp h
    split
    · rename_i hab
      refine List.pairwise_cons.mpr ⟨fun c hc => ?_, h⟩
      rcases List.mem_cons.mp hc with rfl | hc
      · exact hab
      · exact lex_trans _ _ _ hab (h1 c hc)
    · rename_i hab
      refine List.pairwise_cons.mpr ⟨fun c hc => ?_, insL_pw a r h2⟩
      rcases List.mem_cons.mp ((insL_perm a r).mem_iff.mp hc) with rfl | hc
      · have := lex_total c b
        rw [Bool.or_eq_true] at this
        exact this.resolve_left hab
      · exact h1 c hc
theorem sortL_pw : ∀ l, (sortL l).Pairwise (fun x y => lexLe x y = true)
  | [] => List.Pairwise.nil
  | a :: r => insL_pw a _ (sortL_pw r)
theorem pw_uniq : ∀ (a b : List (List Int)), a.Perm b → a.Pairwise (fun x y => lexLe x y = true) → b.Pairwise (fun x y => lexLe x y = true) → a = b
  | [], _, h, _, _ => List.Perm.nil_eq h
  | x :: r, [], h, _, _ => absurd h.length_eq (by simp)
  | x :: r, y :: t, h, ha, hb => by
    have hx : x ∈ y :: t := h.subset List.mem_cons_self
    have hy : y ∈ x :: r := h.symm.subset List.mem_cons_self
    have refl : ∀ z, lexLe z z = true := fun z => by
      have := lex_total z z
      rwa [Bool.or_self] at this
    have h1 : lexLe x y = true := by
      cases List.mem_cons.mp hy with
      | inl e => rw [e]; exact refl _
      | inr m => exact (List.pairwise_cons.mp ha).1 y m
    have h2 : lexLe y x = true := by
      cases List.mem_cons.mp hx with
      | inl e => rw [e]; exact refl _
      | inr m => exact (List.pairwise_cons.mp hb).1 x m
    have e := lex_anti x y h1 h2
    subst e
    rw [pw_uniq r t h.cons_inv (List.pairwise_cons.mp ha).2 (List.pairwise_cons.mp hb).2]
theorem mergeSort_eq (l : List (List Int)) : l.mergeSort lexLe = sortL l :=
  pw_uniq _ _ ((List.mergeSort_perm l _).trans (sortL_perm l).symm) (List.pairwise_mergeSort (fun a b c => lex_trans a b c) lex_total l) (sortL_pw l)

/-! ### trees that are tuples of ints -/
section
variable {K : PySem.W.Frag} {cl : Nat → Addr} {G : Hp}
/-- v is a tuple of the ints is -/
def HT (K : PySem.W.Frag) (G : Hp) (v : V) (is : List Int) : Prop := ∃ a, v = .ref a ∧ SqT K G a (is.map V.int)
inductive HTs (K : PySem.W.Frag) (G : Hp) : List V → List (List Int) → Prop
  | nil : HTs K G [] []
  | cons {v : V} {is : List Int} {vs : List V} {l : List (List Int)} : HT K G v is → HTs K G vs l → HTs K G (v :: vs) (is :: l)
theorem hds_ints : ∀ is : List Int, HDs K cl G (is.map V.int) (is.map D.int)
  | [] => .nil
  | i :: r => .cons (.int i) (hds_ints r)
theorem HT.hd {v : V} {is : List Int} (h : HT K G v is) : HD K cl G v (tupI is) := by
  obtain ⟨a, rfl, h⟩ := h
  exact .tup h (hds_ints is)
theorem tups_of : ∀ {vs : List V} {ds : List D} {l : List (List Int)}, HDs K cl G vs ds → tupsD ds = some l → HTs K G vs l ∧ ds = l.map tupI
  | _, [], _, .nil, e => by rw [tupsD] at e; cases e; exact ⟨.nil, rfl⟩
  | _, .tup es :: r, _, .cons h t, e => by
    rw [tupsD] at e
    split at e
    · rename_i is ei
      split at e
      · rename_i l el
        cases e
        obtain ⟨h1, h2⟩ := tups_of t el
        cases h with
        | tup hs hr =>
          obtain ⟨e1, e2⟩ := ints_of hr ei
          subst e1
          rw [h2, e2]
          exact ⟨.cons ⟨_, rfl, hs⟩ h1, rfl⟩
      · cases e
    · cases e
  | _, .non :: _, _, .cons h t, e => by rw [tupsD] at e <;> (first | cases e | (intro _ _ z; cases z))
  | _, .bl _ :: _, _, .cons h t, e => by rw [tupsD] at e <;> (first | cases e | (intro _ _ z; cases z))
  | _, .int _ :: _, _, .cons h t, e => by rw [tupsD] at e <;> (first | cases e | (intro _ _ z; cases z))
  | _, .str _ :: _, _, .cons h t, e => by rw [tupsD] at e <;> (first | cases e | (intro _ _ z; cases z))
  | _, .ty _ :: _, _, .cons h t, e => by rw [tupsD] at e <;> (first | cases e | (intro _ _ z; cases z))
  | _, .lst _ :: _, _, .cons h t, e => by rw [tupsD] at e <;> (first | cases e | (intro _ _ z; cases z))
  | _, .obj _ _ :: _, _, .cons h t, e => by rw [tupsD] at e <;> (first | cases e | (intro _ _ z; cases z))
  | _, .cls _ :: _, _, .cons h t, e => by rw [tupsD] at e <;> (first | cases e | (intro _ _ z; cases z))
  | _, .any :: _, _, .cons h t, e => by rw [tupsD] at e <;> (first | cases e | (intro _ _ z; cases z))
theorem HTs.length : ∀ {vs : List V} {l : List (List Int)}, HTs K G vs l → vs.length = l.length
  | _, _, .nil => rfl
  | _, _, .cons _ r => congrArg Nat.succ (HTs.length r)
theorem HTs.mono {G' : Hp} (e : Ex G G') : ∀ {vs : List V} {l : List (List Int)}, HTs K G vs l → HTs K G' vs l
  | _, _, .nil => .nil
  | _, _, .cons ⟨a, h1, h2⟩ r => .cons ⟨a, h1, ex_t e h2⟩ (HTs.mono e r)
/-- the pairs -/
def zipP : List V → List (List Int) → List (V × List Int)
  | v :: vs, l :: ls => (v, l) :: zipP vs ls
  | _, _ => []
theorem zipP_mem : ∀ {vs : List V} {l : List (List Int)}, HTs K G vs l → ∀ b ∈ zipP vs l, HT K G b.1 b.2
  | _, _, .nil, b, hb => by cases hb
  | _, _, .cons h r, b, hb => by
    rcases List.mem_cons.mp hb with e | hb
    · subst e; exact h
    · exact zipP_mem r b hb
theorem zipP_snd : ∀ {vs : List V} {l : List (List Int)}, HTs K G vs l → (zipP vs l).map (·.2) = l
  | _, _, .nil => rfl
  | _, _, .cons h r => by
    show _ :: (zipP _ _).map (·.2) = _
    rw [zipP_snd r]
theorem zipP_len : ∀ {vs : List V} {l : List (List Int)}, HTs K G vs l → (zipP vs l).length = vs.length
  | _, _, .nil => rfl
  | _, _, .cons h r => by
    show (zipP _ _).length + 1 = _
    rw [zipP_len r]; rfl
theorem hts_of_mem {bs : List (V × List Int)} (h : ∀ b ∈ bs, HT K G b.1 b.2) : HDs K cl G (bs.map (·.1)) ((bs.map (·.2)).map tupI) := by
  induction bs with
  | nil => exact .nil
  | cons b r ih => exact .cons (h b List.mem_cons_self).hd (ih fun c hc => h c (List.mem_cons_of_mem _ hc))
end
/-- the items as values -/
theorem each_vals {bs : List (V × List Int)} : ∀ {us : List Value}, PySem.W.EachIs (fun u (b : V × List Int) => RelV b.1 u) us bs → Vals (bs.map (·.1)) us := by
  intro us h
  induction h with
  | nil => exact .nil
  | cons r _ ih => exact .cons r ih
theorem vals_each {K : PySem.W.Frag} {G : Hp} : ∀ {vs : List V} {l : List (List Int)} {us : List Value}, HTs K G vs l → Vals vs us → PySem.W.EachIs (fun u (b : V × List Int) => RelV b.1 u) us (zipP vs l)
  | _, _, _, .nil, .nil => .nil
  | _, _, _, .cons _ r, .cons q t => .cons q (vals_each r t)
abbrev encT : V × List Int → PyData := fun b => .tuple (b.2.map PyData.int)
section
variable {X : Cx} {pins : List (Addr × Obj)} {σ : L2.St} {H : Hp} {s : Shared}
theorem reads_tup (I : Inv X pins σ H s) {v : V} {is : List Int} {u : Value} (h : HT X.K H v is) (r : RelV v u) : ∃ as, Reads s.heap u (.tuple (is.map PyData.int)) as := by
  obtain ⟨a, rfl, h⟩ := h
  cases r
  obtain ⟨its, rv, ⟨o, ho, hc, n, hd⟩, _⟩ := I.tuple h
  obtain ⟨as, q⟩ := readsAll_ints (h := s.heap) rv
  exact ⟨_, Reads.tuple ho hc hd (by simpa using q)⟩
theorem each_reads (I : Inv X pins σ H s) : ∀ {vs : List V} {l : List (List Int)} {us : List Value}, HTs X.K H vs l → Vals vs us → PySem.W.EachIs (fun u b => ∃ as, Reads s.heap u (encT b) as) us (zipP vs l)
  | _, _, _, .nil, .nil => .nil
  | _, _, _, .cons h r, .cons q t => .cons (reads_tup I h q) (each_reads I r t)
theorem alike_tups (a b : List Int) : PySem.W.alike (.tuple (a.map PyData.int)) (.tuple (b.map PyData.int)) = true := by
  simp only [PySem.W.alike]
  exact PySem.W.alike_ints a b
theorem dataLe_tups : PySem.W.dataLe false encT = fun p q => lexLe p.2 q.2 := by
  funext p q
  show (!PySem.W.dataLt (.tuple (q.2.map .int)) (.tuple (p.2.map .int))) = _
  rw [PySem.W.dataLt_tuple]
  show (!PySem.W.rowLt (q.2.map .int) (p.2.map .int)) = _
  rw [PySem.W.dataLt_ints, lexLe_eq]
  by_cases h : q.2 < p.2
  · have h' : ¬ p.2 ≤ q.2 := fun r => List.not_lt.mpr r h
    simp [h, h']
  · have h' : p.2 ≤ q.2 := List.not_lt.mp h
    simp [h, h']
def rSortT (K : PySem.W.Frag) : List V → Hp → VK → Prop := fun vs H Q => ∃ (a : Addr) (ws : List V) (l : List (List Int)), vs = [V.ref a] ∧ SqL K H a ws ∧ HTs K H ws l ∧ l.length ≤ 1000 ∧ l.all (fun l => !l.isEmpty) = true ∧
  ∀ (ys : List (V × List Int)) (p : Addr), H p = none → (∀ b ∈ ys, b ∈ zipP ws l) → ys.map (·.2) = sortL l → Q (.ref p) (upd H p (.lst (ys.map (·.1))))
theorem cr_sortTI (hu : X.A.units + 64 < cLine) : CallR X (.builtin "sorted") (rSortT X.K) := by
  intro pins s σ H vs us Q I r h
  obtain ⟨a, ws, l, rfl, hs, hT, hlen, hne, q⟩ := h
  obtain ⟨its, rv, hl, hz⟩ := I.list hs
  rw [Vals.ref1 r]
  have hmem : ∀ b ∈ zipP ws l, b.2 ∈ l := fun b hb => by
    have := List.mem_map_of_mem (f := (·.2)) hb
    rw [zipP_snd hT] at this
    exact this
  refine PySem.W.sorted_data (bs := zipP ws l) (enc := encT) (R := fun u b => RelV b.1 u) hl.isList (vals_each hT rv) (each_reads I hT rv) (PySem.W.AllAlike.of fun b b' => alike_tups _ _) (.inl fun d hd => ?_) (by rw [zipP_len hT]; exact hz) (fun b hb => ?_) fun out ho he => ?_
  · obtain ⟨b, hb, rfl⟩ := List.mem_map.mp hd
    have h1 := List.all_eq_true.mp hne _ (hmem b hb)
    cases e : b.2 with
    | nil => rw [e] at h1; cases h1
    | cons x r => exact ⟨.int x, r.map .int, by show PyData.tuple (b.2.map .int) = _; rw [e]; rfl⟩
  · have : (encT b).depth ≤ 1 := by
      show (PyData.tuple (b.2.map .int)).depth ≤ 1
      rw [PyData.depth, PySem.W.depth_ints] <;> omega
    omega
  · rw [dataLe_tups] at he
    have hp := (List.mergeSort_perm (zipP ws l) (fun p q => lexLe p.2 q.2))
    have hmap : ((zipP ws l).mergeSort (fun p q => lexLe p.2 q.2)).map (·.2) = sortL l := by
      rw [List.map_mergeSort (s := lexLe) (fun _ _ _ _ => rfl), zipP_snd hT, mergeSort_eq]
    have hv := each_vals he
    obtain ⟨ep, he'⟩ := PyProof.Rows.sortedAll_at s.heap its out.toArray
    have hlo : ((zipP ws l).mergeSort (fun p q => lexLe p.2 q.2)).length ≤ sizeLine := by
      rw [hp.length_eq, zipP_len hT]; exact hz
    refine ⟨.ref _, upd H (s.heap.objs.size + 1) (.lst (((zipP ws l).mergeSort (fun p q => lexLe p.2 q.2)).map (·.1))), I.laid (t' := s.toks) (fun _ _ => PyProof.Rows.sortedAll_old) (Nat.le_succ _)
      ⟨by rw [List.length_map]; exact hlo, out, ep, hv, by simpa using he'⟩, rfl, q _ _ (I.hok.fresh (Nat.le_succ _)) (fun b hb => hp.mem_iff.mp hb) hmap⟩
/-! ### min -/
def rMinT (K : PySem.W.Frag) : List V → Hp → VK → Prop := fun vs H Q => ∃ (a : Addr) (ws : List V) (x : List Int) (l : List (List Int)), vs = [V.ref a] ∧ SqL K H a ws ∧ HTs K H ws (x :: l) ∧
  ∀ b, b ∈ zipP ws (x :: l) → b.2 = minL x l → Q b.1 H
theorem minD_tups : ∀ (x : List Int) (l : List (List Int)), PySem.W.minD (.tuple (x.map .int)) (l.map fun is => .tuple (is.map .int)) = .tuple ((minL x l).map .int)
  | x, [] => rfl
  | x, y :: r => by
    unfold PySem.W.minD
    rw [List.map_cons, List.foldl_cons, minL]
    have e : PySem.W.dataLt (.tuple (y.map PyData.int)) (.tuple (x.map PyData.int)) = !lexLe x y := by
      rw [PySem.W.dataLt_tuple]
      show PySem.W.rowLt (y.map .int) (x.map .int) = _
      rw [PySem.W.dataLt_ints, lexLe_eq]
      by_cases h : y < x
      · have h' : ¬ x ≤ y := fun r => List.not_lt.mpr r h
        simp [h, h']
      · have h' : x ≤ y := List.not_lt.mp h
        simp [h, h']
    rw [e]
    cases hb : lexLe x y with
    | true => exact minD_tups x r
    | false => exact minD_tups y r
theorem ints_inj : ∀ {a b : List Int}, a.map PyData.int = b.map PyData.int → a = b
  | [], [], _ => rfl
  | [], _ :: _, h => by cases h
  | _ :: _, [], h => by cases h
  | x :: a, y :: b, h => by
    rw [List.map_cons, List.map_cons] at h
    injection h with h1 h2
    injection h1 with h1
    rw [h1, ints_inj h2]
theorem readsAll_tups (I : Inv X pins σ H s) : ∀ {vs : List V} {l : List (List Int)} {us : List Value}, HTs X.K H vs l → Vals vs us → ∃ as, ReadsAll s.heap us (l.map fun is => PyData.tuple (is.map .int)) as
  | _, _, _, .nil, .nil => ⟨_, ReadsAll.nil⟩
  | _, _, _, .cons h r, .cons q t => by
    obtain ⟨as, h1⟩ := reads_tup I h q
    obtain ⟨bs, h2⟩ := readsAll_tups I r t
    exact ⟨_, ReadsAll.cons h1 h2⟩
theorem hts_at : ∀ {K : PySem.W.Frag} {G : Hp} {vs : List V} {l : List (List Int)} {i : Nat} {v : V}, HTs K G vs l → vs[i]? = some v → ∃ is, HT K G v is ∧ (v, is) ∈ zipP vs l
  | _, _, _, _, _, _, .nil, e => by simp at e
  | _, _, _, _, 0, _, .cons h _, e => by simp at e; subst e; exact ⟨_, h, List.mem_cons_self⟩
  | _, _, _, _, i + 1, v, .cons _ t, e => by
    obtain ⟨is, h1, h2⟩ := hts_at (i := i) (v := v) t (by simpa using e)
    exact ⟨is, h1, List.mem_cons_of_mem _ h2⟩
theorem depthAll_tups : ∀ l : List (List Int), PyData.depthAll (l.map fun is => PyData.tuple (is.map .int)) ≤ 1
  | [] => by simp [PyData.depthAll]
  | x :: l => by
    rw [List.map_cons, PyData.depthAll, PyData.depth, PySem.W.depth_ints]
    have := depthAll_tups l
    exact Nat.max_le.mpr ⟨by omega, this⟩
theorem cr_minT (hc : X.calm = true) (hu : X.A.units + 64 < cLine) : CallR X (.builtin "min") (rMinT X.K) := by
  intro pins s σ H vs us Q I r h
  obtain ⟨a, ws, x, l, rfl, hs, hT, q⟩ := h
  obtain ⟨its, rv, hl, hz⟩ := I.list hs
  rw [Vals.ref1 r]
  obtain ⟨as, hr⟩ := readsAll_tups I hT rv
  have gen : ∀ d ∈ PyData.tuple (x.map PyData.int) :: l.map (fun is => PyData.tuple (is.map PyData.int)), ∃ is : List Int, d = .tuple (is.map PyData.int) := fun d hd => by
    rcases List.mem_cons.mp hd with e | hd
    · exact ⟨x, e⟩
    · obtain ⟨is, _, e⟩ := List.mem_map.mp hd
      exact ⟨is, e.symm⟩
  have hdep : PyData.depthAll (PyData.tuple (x.map PyData.int) :: l.map (fun is => PyData.tuple (is.map PyData.int))) ≤ 1 := depthAll_tups (x :: l)
  refine PySem.W.min_list_data (I.ok.hd hc) hl.isList (x := .tuple (x.map PyData.int)) (xs := l.map fun is => PyData.tuple (is.map PyData.int)) (by simpa using hr) ⟨fun d hd d' hd' => ?_, fun d hd => ?_⟩ (by omega) fun i v h' tk bs hv hrd hk => ?_
  · obtain ⟨i1, rfl⟩ := gen d hd
    obtain ⟨i2, rfl⟩ := gen d' hd'
    exact alike_tups _ _
  · obtain ⟨i1, rfl⟩ := gen d hd
    exact fun z => nomatch z
  · have hv' : its[i]? = some v := by simpa using hv
    have hw : ∃ w, ws[i]? = some w ∧ RelV w v := by
      cases e : ws[i]? with
      | none => rw [rv.none_of e] at hv'; cases hv'
      | some w =>
        obtain ⟨u, h1, h2⟩ := rv.get e
        rw [hv'] at h1
        cases h1
        exact ⟨w, rfl, h2⟩
    obtain ⟨w, hw1, hw2⟩ := hw
    obtain ⟨is, hTw, hzp⟩ := hts_at hT hw1
    have I' : Inv X pins σ H { s with heap := h', toks := tk } := I.kept hk
    obtain ⟨cs, hr2⟩ := reads_tup I' hTw hw2
    rw [minD_tups] at hrd
    have e := PySem.W.alike_unique _ _ _ _ _ (alike_tups is (minL x l)) hr2 hrd
    injection e with e
    exact ⟨w, H, I', hw2, q (w, is) hzp (ints_inj e)⟩
end
section
variable {K : PySem.W.Frag} {cl : Nat → Addr}
theorem fc_sorted : FDC K cl (rSortT K) fSorted := fun O H vs ds d Q ow hv hf q => by
  unfold fSorted at hf
  split at hf
  · split at hf
    · rename_i ls el
      split at hf
      · rename_i hc
        cases hf
        obtain ⟨v, rfl, h⟩ := hds_1 hv
        obtain ⟨a, ws, rfl, h1, _, h2⟩ := seq_lst h
        obtain ⟨h3, h4⟩ := tups_of h2 el
        refine ⟨a, ws, ls, rfl, h1, h3.mono hide_le, by rw [← h3.length, h2.length]; exact hc.1, hc.2, fun ys p hp hy he => ?_⟩
        have h5 : HDs K cl (hide O H) (ys.map (·.1)) ((sortL ls).map tupI) := by
          rw [← he]
          exact hts_of_mem fun b hb => zipP_mem h3 b (hy b hb)
        exact new_lst ow h5 q p hp
      · cases hf
    · cases hf
  · cases hf
theorem fc_min : FDC K cl (rMinT K) fMin := fun O H vs ds d Q ow hv hf q => by
  unfold fMin at hf
  split at hf
  · split at hf
    · rename_i x r el
      cases hf
      obtain ⟨v, rfl, h⟩ := hds_1 hv
      obtain ⟨a, ws, rfl, h1, _, h2⟩ := seq_lst h
      obtain ⟨h3, h4⟩ := tups_of h2 el
      exact ⟨a, ws, x, r, rfl, h1, h3.mono hide_le, fun b hb e => q H _ (Ex.refl H) (by rw [← e]; exact (zipP_mem h3 b hb).hd)⟩
    · cases hf
  · cases hf
end
end TL

/-! Trees: targets, statements, loops -/
namespace TL
open PySem PySem.Spec PyProof.Rows L2 Evl SlX StX C8

section
variable {K : PySem.W.Frag} {cl : Nat → Addr} {F : Fr} {O O2 : Addr → Bool} {σ : L2.St} {H H2 : Hp} {τ : Sta} {E : Ends} {r : Out}
theorem Post.trans (p : Post K cl F O H E r) (e : Ex (hide O H) (hide O2 H2)) : Post K cl F O2 H2 E r := by
  cases r with
  | nx τ => exact fun O' σ' H' x rl => p O' σ' H' (e.trans x) rl
  | bk τ => exact fun O' σ' H' x rl => p O' σ' H' (e.trans x) rl
  | ct τ => exact fun O' σ' H' x rl => p O' σ' H' (e.trans x) rl
  | rt d => exact p
theorem RelP.set {pm : PM} (r : RelP K cl F O σ H pm) {i : Nat} {x : Option V} (hf : pm.free i = true) : RelP K cl F O (σ.set i x) H pm := by
  cases pm with
  | no => exact r
  | lst k ds =>
    obtain ⟨a, vs, h1, h⟩ := r
    have hk : i ≠ k := fun z => by subst z; simp [PM.free] at hf
    exact ⟨a, vs, by rw [List.getElem?_set_ne hk]; exact h1, h⟩
  | ob k c ds =>
    obtain ⟨vs, h1, h⟩ := r
    have hk : i ≠ k := fun z => by subst z; simp [PM.free] at hf
    exact ⟨vs, by rw [List.getElem?_set_ne hk]; exact h1, h⟩
theorem Rel.set (r : Rel K cl F O σ H τ) {i : Nat} {v : V} {d : D} (hf : τ.pm.free i = true) (h : HD K cl (hide O H) v d) : Rel K cl F O (σ.set i (some v)) H { τ with sl := τ.sl.set i (some d) } := by
  refine ⟨r.ex, r.ow, r.sub, fun j d' e => ?_, by simp [r.len], r.pm.set hf⟩
  have e' : (τ.sl.set i (some d))[j]? = some (some d') := e
  by_cases hj : i = j
  · subst hj
    have hl : i < τ.sl.length := by
      by_cases h' : i < τ.sl.length
      · exact h'
      · rw [List.getElem?_eq_none (by simp; omega)] at e'; cases e'
    rw [List.getElem?_set_self hl] at e'
    cases e'
    exact ⟨v, List.getElem?_set_self (by rw [← r.len]; exact hl), h⟩
  · rw [List.getElem?_set_ne hj] at e'
    rw [List.getElem?_set_ne hj]
    exact r.sl j d' e'
end

/-! ### targets -/
abbrev ETg := D → Sta → Option Sta
abbrev ETgs := List D → Sta → Option Sta
section
variable (K : PySem.W.Frag) (cl : Nat → Addr)
def tG (et : ETg) : TG := fun v σ H Q => ∃ F O τ d τ', Rel K cl F O σ H τ ∧ HD K cl (hide O H) v d ∧ et d τ = some τ' ∧ ∀ O' σ' H', Ex (hide O H) (hide O' H') → Rel K cl F O' σ' H' τ' → Q σ' H'
def tGs (et : ETgs) : TGs := fun vs σ H Q => ∃ F O τ ds τ', Rel K cl F O σ H τ ∧ HDs K cl (hide O H) vs ds ∧ et ds τ = some τ' ∧ ∀ O' σ' H', Ex (hide O H) (hide O' H') → Rel K cl F O' σ' H' τ' → Q σ' H'
end
abbrev DG (cl : Nat → Addr) (X : Cx) (e : Expr) (et : ETg) : Prop := PG X e (tG X.K cl et)
abbrev DGs (cl : Nat → Addr) (X : Cx) (es : List Expr) (et : ETgs) : Prop := PGs X es (tGs X.K cl et)
def etName (i : Nat) : ETg := fun d τ => if τ.pm.free i = true then some { τ with sl := τ.sl.set i (some d) } else none
def etNil : ETgs := fun ds τ => match ds with
  | [] => some τ
  | _ => none
def etCons (et : ETg) (ets : ETgs) : ETgs := fun ds τ => match ds with
  | d :: r => (match et d τ with
    | some τ' => ets r τ'
    | none => none)
  | [] => none
def etTup (n : Nat) (ets : ETgs) : ETg := fun d τ => match d with
  | .tup ds => if ds.length = n then ets ds τ else none
  | .lst ds => if ds.length = n then ets ds τ else none
  | _ => none
section
variable {cl : Nat → Addr} {X : Cx} {e : Expr} {es : List Expr} {et : ETg} {ets : ETgs} {pos : Pos}
theorem pg_imp {t t' : TG} (h : PG X e t) (k : ∀ v σ H Q, t' v σ H Q → t v σ H Q) : PG X e t' := ⟨fun pins s σ H v u Q I r q => h.run pins s σ H v u Q I r (k v σ H Q q)⟩
theorem pgs_imp {t t' : TGs} (h : PGs X es t) (k : ∀ v σ H Q, t' v σ H Q → t v σ H Q) : PGs X es t' := ⟨fun pins s σ H v u Q I r q => h.run pins s σ H v u Q I r (k v σ H Q q)⟩
theorem pg_or {t t' : TG} (h : PG X e t) (h' : PG X e t') : PG X e (fun v σ H Q => t v σ H Q ∨ t' v σ H Q) := ⟨fun pins s σ H v u Q I r q => by
  rcases q with q | q
  · exact h.run pins s σ H v u Q I r q
  · exact h'.run pins s σ H v u Q I r q⟩
theorem dg_name (i : Nat) {x : Str} (hN : X.N.Nodup) (hi : X.N[i]? = some x := by rfl) (hx : Loc X.env.scope x := by first | exact .inl rfl | exact .inr rfl) (hf : X.fn x = true ∨ X.env.scope.names.lookup x = some .local := by first | exact .inl rfl | exact .inr rfl | assumption) : DG cl X (.Name x pos) (etName i) :=
  pg_imp (pg_name hN hi hx hf) fun v σ H Q ⟨F, O, τ, d, τ', rl, hv, he, q⟩ => by
  unfold etName at he
  split at he
  · rename_i hfr
    cases he
    exact q O _ H (Ex.refl _) (rl.set hfr hv)
  · cases he
theorem dgs_nil : DGs cl X [] etNil := pgs_imp pgs_nil fun v σ H Q ⟨F, O, τ, d, τ', rl, hv, he, q⟩ => by
  unfold etNil at he
  split at he
  · cases he
    cases hv
    exact ⟨rfl, q O σ H (Ex.refl _) rl⟩
  · cases he
theorem dgs_cons (h1 : DG cl X e et) (h2 : DGs cl X es ets) (hs : (assignEach (e :: es) X.env).map (·.2) = assign e X.env :: (assignEach es X.env).map (·.2) := by rfl) : DGs cl X (e :: es) (etCons et ets) := pgs_imp (pgs_cons h1 h2 hs) fun v σ H Q ⟨F, O, τ, d, τ', rl, hv, he, q⟩ => by
  unfold etCons at he
  split at he
  · split at he
    · rename_i τ1 e1
      cases hv with
      | cons hx hr =>
        exact ⟨_, _, rfl, F, O, τ, _, τ1, rl, hx, e1, fun O' σ' H' x rl' => ⟨F, O', τ1, _, τ', rl', hr.mono x, he, fun O2 σ2 H2 x2 rl2 => q O2 σ2 H2 (x.trans x2) rl2⟩⟩
    · cases he
  · cases he
theorem dg_tup {k n : Nat} (hc : X.calm = true) (h : DGs cl X es ets) (hn : (assignEach es X.env).length = n := by rfl) (hst : (assignEach es X.env).findIdx? (·.1) = none := by rfl) : DG cl X (.Tuple es k pos) (etTup n ets) :=
  pg_imp (pg_or (pg_tup hc h hn hst) (pg_unl hc h hn hst)) fun v σ H Q ⟨F, O, τ, d, τ', rl, hv, he, q⟩ => by
  unfold etTup at he
  split at he
  · split at he
    · rename_i hl
      cases hv with
      | tup hs hr => exact .inl ⟨_, _, rfl, ex_t hide_le hs, by rw [hr.length]; exact hl, F, O, τ, _, τ', rl, hr, he, q⟩
    · cases he
  · split at he
    · rename_i hl
      cases hv with
      | lst hs hr => exact .inr ⟨_, _, rfl, SqL.of (hide_le _ _ hs), by rw [hr.length]; exact hl, F, O, τ, _, τ', rl, hr, he, q⟩
    · cases he
  · cases he
end

/-! ### statements -/
def sAsg (ee : EE) (et : ETg) : ES := fun n τ => match ee n τ with
  | some d => (match et d τ with
    | some τ' => some (.nx τ')
    | none => none)
  | none => none
def sPar (i j : Nat) (ea : EA) : ES := fun n τ => match ea n τ with
  | some [x, y] => if τ.pm.free i = true ∧ τ.pm.free j = true then some (.nx { τ with sl := (τ.sl.set i (some x)).set j (some y) }) else none
  | _ => none
def sPar3 (i j l : Nat) (ea : EA) : ES := fun n τ => match ea n τ with
  | some [x, y, z] => if τ.pm.free i = true ∧ τ.pm.free j = true ∧ τ.pm.free l = true then some (.nx { τ with sl := ((τ.sl.set i (some x)).set j (some y)).set l (some z) }) else none
  | _ => none
def sAug (i : Nat) (f : D → D → Option D) (ee : EE) : ES := fun n τ => match eVar i n τ with
  | some x => (match ee n τ with
    | some y => (match f x y with
      | some z => if τ.pm.free i = true then some (.nx { τ with sl := τ.sl.set i (some z) }) else none
      | none => none)
    | none => none)
  | none => none
def sExpr (ee : EE) : ES := fun n τ => match ee n τ with
  | some _ => some (.nx τ)
  | none => none
def sRet (ee : EE) : ES := fun n τ => match ee n τ with
  | some d => some (.rt d)
  | none => none
def sRetP (k : Nat) : ES := fun _ τ => match τ.pm with
  | .lst j ds => if j = k then some (.rt (.lst ds)) else none
  | _ => none
def sIf (t : EB) (a b : ES) : ES := fun n τ => match t n τ with
  | some true => a n τ
  | some false => b n τ
  | none => none
def sNx : ES := fun _ τ => some (.nx τ)
def sNever : ES := fun _ _ => none
def sSeq (a b : ES) : ES := fun n τ => match a n τ with
  | some (.nx τ') => b n τ'
  | r => r
section
variable {cl : Nat → Addr} {X : Cx} {e tg : Expr} {s : Stmt} {ss sr : List Stmt} {ee : EE} {ea : EA} {et : ETg} {es es' : ES} {c : Expr} {t : EB} {pos : Pos}
theorem ds_asg (he : DE cl X e ee) (hg : DG cl X tg et) (hs : swapsWithSole [tg] e pos.line X.env = pure false := by rfl) (hw : swappedStores [tg] e X.env = pure none := by rfl)
    (h1 : (assignEach [tg] X.env).map (·.2) = [assign tg X.env] := by rfl) : DS cl X (.Assign [tg] e pos) (sAsg ee et) := ps_imp (ps_asg he hg hs hw h1) fun E σ H ⟨F, O, n, τ, r, rl, h, q⟩ => by
  unfold sAsg at h
  split at h
  · rename_i d e1
    split at h
    · rename_i τ' e2
      cases h
      exact ⟨F, O, n, τ, d, rl, e1, fun H1 v x hv => ⟨F, O, τ, d, τ', rl.mono x, hv, e2, fun O' σ' H' x' rl' => q O' σ' H' ((hide_ex x).trans x') rl'⟩⟩
    · cases h
  · cases h
theorem ds_par {i j : Nat} {x y : Str} {a b : Expr} {px py pt : Pos} {kt k2 pt2} (hc : X.calm = true) (hN : X.N.Nodup) (hi : X.N[i]? = some x) (hj : X.N[j]? = some y) (hij : i ≠ j)
    (hx : X.env.scope.names.lookup x = some .local) (hy : X.env.scope.names.lookup y = some .local) (ha : DA cl X [a, b] ea)
    (hw : swappedStores [.Tuple [.Name x px, .Name y py] kt pt] (.Tuple [a, b] k2 pt2) X.env = pure (some [x, y]))
    (hs : swapsWithSole [.Tuple [.Name x px, .Name y py] kt pt] (.Tuple [a, b] k2 pt2) pos.line X.env = pure false := by rfl) :
    DS cl X (.Assign [.Tuple [.Name x px, .Name y py] kt pt] (.Tuple [a, b] k2 pt2) pos) (sPar i j ea) := ps_imp (ps_par hc hN hi hj hij hx hy ha hw hs) fun E σ H ⟨F, O, n, τ, r, rl, h, q⟩ => by
  unfold sPar at h
  split at h
  · rename_i x y e1
    split at h
    · rename_i hf
      cases h
      refine ⟨F, O, n, τ, _, rl, e1, fun H1 vs z hv => ?_⟩
      obtain ⟨v, w, rfl, h1, h2⟩ := hds_2 hv
      exact ⟨v, w, rfl, q O _ H1 (hide_ex z) (((rl.mono z).set hf.1 h1).set hf.2 h2)⟩
    · cases h
  · cases h
theorem ds_par3 {i j l : Nat} (h : PS X s (tPar3 i j l (tA X.K cl ea))) : DS cl X s (sPar3 i j l ea) := ps_imp h fun E σ H ⟨F, O, n, τ, r, rl, h, q⟩ => by
  unfold sPar3 at h
  split at h
  · rename_i x y z e1
    split at h
    · rename_i hf
      cases h
      refine ⟨F, O, n, τ, _, rl, e1, fun H1 vs z hv => ?_⟩
      cases hv with
      | cons h1 hr =>
        obtain ⟨v, w, rfl, h2, h3⟩ := hds_2 hr
        exact ⟨_, v, w, rfl, q O _ H1 (hide_ex z) ((((rl.mono z).set hf.1 h1).set hf.2.1 h2).set hf.2.2 h3)⟩
    · cases h
  · cases h
theorem pip_or {op : Operator} {t t' : TIp} (h : PIp X op t) (h' : PIp X op t') : PIp X op (fun x y H Q => t x y H Q ∨ t' x y H Q) := by
  intro pins s σ H x y v u Q I rx ry q
  rcases q with q | q
  · exact h pins s σ H x y v u Q I rx ry q
  · exact h' pins s σ H x y v u Q I rx ry q
theorem ds_aug {i : Nat} {x : Str} {op : Operator} {ti : TIp} {f : D → D → Option D} {pos' : Pos} (hN : X.N.Nodup) (ho : PIp X op ti) (hf : FD2 X.K cl ti f) (he : DE cl X e ee) (hi : X.N[i]? = some x := by rfl) (hx : Loc X.env.scope x := by first | exact .inl rfl | exact .inr rfl)
    (hfn : X.fn x = true ∨ X.env.scope.names.lookup x = some .local := by first | exact .inl rfl | exact .inr rfl | assumption) : DS cl X (.AugAssign (.Name x pos') op e pos) (sAug i f ee) := ps_imp (ps_aug hN hi hx he ho hfn) fun E σ H ⟨F, O, n, τ, r, rl, h, q⟩ => by
  unfold sAug at h
  split at h
  · rename_i a e1
    split at h
    · rename_i b e2
      split at h
      · rename_i z e3
        split at h
        · rename_i hfr
          cases h
          obtain ⟨v, h1, h2⟩ := rl.sl i a (eVar_some e1)
          refine ⟨v, h1, F, O, n, τ, b, rl, e2, fun H1 y x hy => ?_⟩
          exact hf O H1 v y a b z _ (rl.ow.ex x) (h2.mono (hide_ex x)) hy e3 fun H2 u x2 hu => q O _ H2 (hide_ex (x.trans x2)) ((rl.mono (x.trans x2)).set hfr hu)
        · cases h
      · cases h
    · cases h
  · cases h
theorem ds_expr (he : DE cl X e ee) (hs : swapsWith e none pos.line X.env = pure false := by rfl) : DS cl X (.Expr e pos) (sExpr ee) := ps_imp (ps_expr he hs) fun E σ H ⟨F, O, n, τ, r, rl, h, q⟩ => by
  unfold sExpr at h
  split at h
  · rename_i d e1
    cases h
    exact ⟨F, O, n, τ, d, rl, e1, fun H1 v x hv => q O σ H1 (hide_ex x) (rl.mono x)⟩
  · cases h
theorem ds_ret (he : DE cl X e ee) : DS cl X (.Return (some e) pos) (sRet ee) := ps_imp (ps_ret he) fun E σ H ⟨F, O, n, τ, r, rl, h, q⟩ => by
  unfold sRet at h
  split at h
  · rename_i d e1
    cases h
    exact ⟨F, O, n, τ, d, rl, e1, fun H1 v x hv => q H1 v (rl.ex.trans x) (hv.mono (hide_sub rl.sub))⟩
  · cases h
/-- return of the list that is filled here -/
theorem ds_retP {k : Nat} {x : Str} {p : Pos} (he : PE X (.Name x p) (tVar k)) : DS cl X (.Return (some (.Name x p)) pos) (sRetP k) := ps_imp (ps_ret he) fun E σ H ⟨F, O, n, τ, r, rl, h, q⟩ => by
  unfold sRetP at h
  split at h
  · rename_i j ds epm
    split at h
    · rename_i ej
      subst ej
      cases h
      have z := rl.pm
      rw [epm] at z
      obtain ⟨a, vs, h1, h2, h3, h4, h5, h6, h7⟩ := z
      exact ⟨_, h1, q H _ rl.ex (.lst (by rw [hide_at h3]; exact h5) (h6.mono (hide_sub rl.sub)))⟩
    · cases h
  · cases h
theorem ds_if {a b : List Stmt} (hc : DT cl X c t) (ha : DSs cl X a es) (hb : DSs cl X b es') : DS cl X (.If c a b pos) (sIf t es es') := ps_imp (ps_if hc ha hb) fun E σ H ⟨F, O, n, τ, r, rl, h, q⟩ => by
  unfold sIf at h
  split at h
  · rename_i e1
    refine ⟨F, O, n, τ, true, rl, e1, fun H1 x => ?_⟩
    refine iteT ?_
    exact ⟨F, O, n, τ, r, rl.mono x, h, q.trans (hide_ex x)⟩
  · rename_i e1
    refine ⟨F, O, n, τ, false, rl, e1, fun H1 x => ?_⟩
    refine iteF ?_
    exact ⟨F, O, n, τ, r, rl.mono x, h, q.trans (hide_ex x)⟩
  · cases h
theorem ds_never : DS cl X s sNever := ps_imp ps_never fun E σ H ⟨F, O, n, τ, r, rl, h, q⟩ => by cases h
theorem dss_never : DSs cl X ss sNever := pss_imp pss_never fun E σ H ⟨F, O, n, τ, r, rl, h, q⟩ => by cases h
theorem ds_pass : DS cl X (.Pass pos) sNx := ps_imp ps_pass fun E σ H ⟨F, O, n, τ, r, rl, h, q⟩ => by
  cases h
  exact q O σ H (Ex.refl _) rl
theorem dss_nil : DSs cl X [] sNx := pss_imp pss_nil fun E σ H ⟨F, O, n, τ, r, rl, h, q⟩ => by
  cases h
  exact q O σ H (Ex.refl _) rl
theorem dss_one (h : DS cl X s es) : DSs cl X [s] es := pss_one h
theorem dss_cons (h : DS cl X s es) (k : DSs cl X ss es') : DSs cl X (s :: ss) (sSeq es es') := pss_imp (pss_cons h k) fun E σ H ⟨F, O, n, τ, r, rl, h, q⟩ => by
  unfold sSeq at h
  split at h
  · rename_i τ' e1
    exact ⟨F, O, n, τ, _, rl, e1, fun O' σ' H' x rl' => ⟨F, O', n, τ', r, rl', h, q.trans x⟩⟩
  · rename_i hx
    refine ⟨F, O, n, τ, r, rl, h, ?_⟩
    cases r with
    | nx τ' => exact absurd h (hx τ')
    | bk τ' => exact q
    | ct τ' => exact q
    | rt d => exact q
end

/-! ### what a for walks -/
/-- the items are ds, in whatever comes of the heap H1 -/
def YD (K : PySem.W.Frag) (cl : Nat → Addr) (J : It) (O1 : Addr → Bool) (H1 : Hp) (ds : List D) : Prop := ∀ (O : Addr → Bool) (H : Hp), Ow O H → Ex (hide O1 H1) (hide O H) →
  (∀ i, i < ds.length → J.go i H) ∧ J.stop ds.length H ∧ ∀ i d x H', ds[i]? = some d → J.yld i H x H' → Ex H H' ∧ HD K cl (hide O H') x d
def tI (K : PySem.W.Frag) (cl : Nat → Addr) (ei : EA) : TI := fun σ H R => ∃ F O n τ ds, Rel K cl F O σ H τ ∧ ei n τ = some ds ∧ ∀ J H1, Ex H H1 → YD K cl J O H1 ds → R J H1
abbrev DI (cl : Nat → Addr) (X : Cx) (tg e : Expr) (ei : EA) : Prop := PI X tg e (tI X.K cl ei)
def eItems (ee : EE) : EA := fun n τ => match ee n τ with
  | some (.lst ds) => some ds
  | some (.tup ds) => some ds
  | _ => none
def rangeD (lo : Int) : Nat → List D
  | 0 => []
  | n + 1 => .int lo :: rangeD (lo + 1) n
def eRange1 (ea : EA) : EA := fun n τ => match ea n τ with
  | some [.int j] => if -(2 ^ 62) ≤ j ∧ j < 2 ^ 62 then some (rangeD 0 j.toNat) else none
  | _ => none
def eRange2 (ea : EA) : EA := fun n τ => match ea n τ with
  | some [.int i, .int j] => if -(2 ^ 62) ≤ i ∧ i < 2 ^ 62 ∧ -(2 ^ 62) ≤ j ∧ j < 2 ^ 62 then some (rangeD i (j - i).toNat) else none
  | _ => none
def enumD (i : Nat) : List D → List D
  | [] => []
  | d :: ds => .tup [.int i, d] :: enumD (i + 1) ds
def zipD : List D → List D → List D
  | d :: ds, e :: es => .tup [d, e] :: zipD ds es
  | _, _ => []
theorem rangeD_len : ∀ (n : Nat) (lo : Int), (rangeD lo n).length = n
  | 0, _ => rfl
  | n + 1, lo => congrArg Nat.succ (rangeD_len n (lo + 1))
theorem rangeD_get : ∀ (n : Nat) (lo : Int) (i : Nat) (d : D), (rangeD lo n)[i]? = some d → d = .int (lo + i)
  | 0, _, _, _, h => by simp [rangeD] at h
  | n + 1, lo, 0, d, h => by simp [rangeD] at h; subst h; simp
  | n + 1, lo, i + 1, d, h => by
    have := rangeD_get n (lo + 1) i d (by simpa [rangeD] using h)
    rw [this]
    congr 1
    push_cast
    omega
theorem enumD_len : ∀ (ds : List D) (i : Nat), (enumD i ds).length = ds.length
  | [], _ => rfl
  | _ :: ds, i => congrArg Nat.succ (enumD_len ds (i + 1))
theorem enumD_get : ∀ (ds : List D) (k i : Nat) (d : D), (enumD k ds)[i]? = some d → ∃ e, ds[i]? = some e ∧ d = .tup [.int ((k + i : Nat) : Int), e]
  | [], _, _, _, h => by simp [enumD] at h
  | e :: ds, k, 0, d, h => by simp [enumD] at h; subst h; exact ⟨e, rfl, rfl⟩
  | e :: ds, k, i + 1, d, h => by
    obtain ⟨f, h1, h2⟩ := enumD_get ds (k + 1) i d (by simpa [enumD] using h)
    exact ⟨f, by simpa using h1, by rw [h2, show k + 1 + i = k + (i + 1) from by omega]⟩
theorem zipD_len : ∀ ds es : List D, (zipD ds es).length = min ds.length es.length
  | [], _ => by simp [zipD]
  | _ :: _, [] => by simp [zipD]
  | d :: ds, e :: es => by
    show (zipD ds es).length + 1 = min (ds.length + 1) (es.length + 1)
    rw [zipD_len ds es]
    omega
theorem zipD_get : ∀ (ds es : List D) (i : Nat) (d : D), (zipD ds es)[i]? = some d → ∃ x y, ds[i]? = some x ∧ es[i]? = some y ∧ d = .tup [x, y]
  | [], _, _, _, h => by simp [zipD] at h
  | _ :: _, [], _, _, h => by simp [zipD] at h
  | x :: ds, y :: es, 0, d, h => by simp [zipD] at h; subst h; exact ⟨x, y, rfl, rfl, rfl⟩
  | x :: ds, y :: es, i + 1, d, h => by
    obtain ⟨a, b, h1, h2, h3⟩ := zipD_get ds es i d (by simpa [zipD] using h)
    exact ⟨a, b, by simpa using h1, by simpa using h2, h3⟩
section
variable {cl : Nat → Addr} {X : Cx} {tg e : Expr} {ee : EE} {ea : EA}
theorem pi_imp {w w' : TI} (h : PI X tg e w) (k : ∀ σ H R, w' σ H R → w σ H R) : PI X tg e w' := ⟨fun pins s σ H R I q => h.run pins s σ H R I (k σ H R q)⟩
theorem pi_or {w w' : TI} (h : PI X tg e w) (h' : PI X tg e w') : PI X tg e (fun σ H R => w σ H R ∨ w' σ H R) := ⟨fun pins s σ H R I q => by
  rcases q with q | q
  · exact h.run pins s σ H R I q
  · exact h'.run pins s σ H R I q⟩
theorem yd_list {K : PySem.W.Frag} {a : Addr} {O1 : Addr → Bool} {H1 : Hp} {vs : List V} {ds : List D} (hs : hide O1 H1 a = some (.lst vs)) (hr : HDs K cl (hide O1 H1) vs ds) : YD K cl (Itl K a) O1 H1 ds := fun O H ow x => by
  have hq : SqL K H a vs := SqL.of (hide_le _ _ (x _ _ hs))
  refine ⟨fun i hi => ?_, ⟨vs, hq, by rw [hr.length]; exact Nat.le_refl _⟩, fun i d y H' hd hy => ?_⟩
  · have hi' : i < vs.length := by rw [hr.length]; exact hi
    exact ⟨vs, vs[i], hq, List.getElem?_eq_getElem hi'⟩
  · obtain ⟨rfl, hy⟩ := hy
    obtain ⟨v, h1, h2⟩ := hr.get hd
    have := (hy vs hq).symm.trans h1
    cases this
    exact ⟨Ex.refl _, h2.mono x⟩
theorem yd_tup {K : PySem.W.Frag} {a : Addr} {O1 : Addr → Bool} {H1 : Hp} {vs : List V} {ds : List D} (hs : SqT K (hide O1 H1) a vs) (hr : HDs K cl (hide O1 H1) vs ds) : YD K cl (Itt K a) O1 H1 ds := fun O H ow x => by
  have hq : SqT K H a vs := ex_t hide_le (ex_t x hs)
  refine ⟨fun i hi => ?_, ⟨vs, hq, by rw [hr.length]; exact Nat.le_refl _⟩, fun i d y H' hd hy => ?_⟩
  · have hi' : i < vs.length := by rw [hr.length]; exact hi
    exact ⟨vs, vs[i], hq, List.getElem?_eq_getElem hi'⟩
  · obtain ⟨rfl, hy⟩ := hy
    obtain ⟨v, h1, h2⟩ := hr.get hd
    have := (hy vs hq).symm.trans h1
    cases this
    exact ⟨Ex.refl _, h2.mono x⟩
theorem di_seq (he : DE cl X e ee) : DI cl X tg e (eItems ee) := pi_imp (pi_or (pi_list he) (pi_tup he)) fun σ H R ⟨F, O, n, τ, ds, rl, h, q⟩ => by
  unfold eItems at h
  split at h
  · rename_i ds' e1
    cases h
    refine .inl ⟨F, O, n, τ, _, rl, e1, fun H1 v x hv => ?_⟩
    cases hv with
    | lst hs hr => exact ⟨_, rfl, ⟨_, SqL.of (hide_le _ _ hs)⟩, q _ H1 x (yd_list hs hr)⟩
  · rename_i ds' e1
    cases h
    refine .inr ⟨F, O, n, τ, _, rl, e1, fun H1 v x hv => ?_⟩
    cases hv with
    | tup hs hr => exact ⟨_, rfl, ⟨_, ex_t hide_le hs⟩, q _ H1 x (yd_tup hs hr)⟩
  · cases h
theorem yd_range {K : PySem.W.Frag} {lo : Int} {n : Nat} {O1 : Addr → Bool} {H1 : Hp} : YD K cl (Itr lo n) O1 H1 (rangeD lo n) := fun O H ow x => by
  refine ⟨fun i hi => by rw [rangeD_len] at hi; exact hi, by rw [rangeD_len]; exact Nat.le_refl _, fun i d y H' hd hy => ?_⟩
  obtain ⟨rfl, rfl⟩ := hy
  rw [rangeD_get n lo i d hd]
  exact ⟨Ex.refl _, .int _⟩
theorem di_range1 {a : Expr} {p pos : Pos} (hm : X.mg "range" = none) (ha : DA cl X [a] ea) (hg : Gl X "range" := by rfl) (hs : starEach [a] X.env = [(false, eval a X.env)] := by rfl) : DI cl X tg (.Call (.Name "range" p) [a] [] pos) (eRange1 ea) :=
  pi_imp (pi_range1 hg hm ha hs) fun σ H R ⟨F, O, n, τ, ds, rl, h, q⟩ => by
  unfold eRange1 at h
  split at h
  · rename_i j e1
    split at h
    · rename_i hj
      cases h
      refine ⟨F, O, n, τ, _, rl, e1, fun H1 vs x hv => ?_⟩
      obtain ⟨v, rfl, hw⟩ := hds_1 hv
      exact ⟨j, by rw [hd_int hw], hj.1, hj.2, q _ H1 x yd_range⟩
    · cases h
  · cases h
theorem di_range2 {a b : Expr} {p pos : Pos} (hm : X.mg "range" = none) (ha : DA cl X [a, b] ea) (hg : Gl X "range" := by rfl) (hs : starEach [a, b] X.env = [(false, eval a X.env), (false, eval b X.env)] := by rfl) (hs2 : starEach [b] X.env = [(false, eval b X.env)] := by rfl) :
    DI cl X tg (.Call (.Name "range" p) [a, b] [] pos) (eRange2 ea) :=
  pi_imp (pi_range2 hg hm ha hs hs2) fun σ H R ⟨F, O, n, τ, ds, rl, h, q⟩ => by
  unfold eRange2 at h
  split at h
  · rename_i i j e1
    split at h
    · rename_i hj
      cases h
      refine ⟨F, O, n, τ, _, rl, e1, fun H1 vs x hv => ?_⟩
      obtain ⟨v, w, rfl, hu, hw⟩ := hds_2 hv
      exact ⟨i, j, by rw [hd_int hu, hd_int hw], hj, q _ H1 x yd_range⟩
    · cases h
  · cases h
end

/-! ### for, while -/
def forE (et : ETg) (body : ES) (n : Nat) : List D → Sta → Option Out
  | [], τ => some (.nx τ)
  | d :: ds, τ => match et d τ with
    | some τ1 => (match body n τ1 with
      | some (.nx τ2) => forE et body n ds τ2
      | some (.ct τ2) => forE et body n ds τ2
      | some (.bk τ2) => some (.nx τ2)
      | some (.rt d) => some (.rt d)
      | none => none)
    | none => none
def sFor (ei : EA) (et : ETg) (body : ES) : ES := fun n τ => match ei n τ with
  | some ds => forE et body n ds τ
  | none => none
def whileE (t : EB) (body : ES) (n : Nat) : Nat → Sta → Option Out
  | 0, _ => none
  | k + 1, τ => match t n τ with
    | some true => (match body n τ with
      | some (.nx τ2) => whileE t body n k τ2
      | some (.ct τ2) => whileE t body n k τ2
      | some (.bk τ2) => some (.nx τ2)
      | some (.rt d) => some (.rt d)
      | none => none)
    | some false => some (.nx τ)
    | none => none
def sWhile (t : EB) (body : ES) : ES := fun n τ => whileE t body n n τ
section
variable {cl : Nat → Addr} {X : Cx} {tg e c : Expr} {b : List Stmt} {et : ETg} {ei : EA} {t : EB} {es : ES} {pos : Pos}
theorem forE_post {K : PySem.W.Frag} {F : Fr} {E : Ends} {n : Nat} {et : ETg} {es : ES} {d : D} {ds : List D} {τ : Sta} {r : Out} (h : forE et es n (d :: ds) τ = some r) :
    ∃ τ1 r1, et d τ = some τ1 ∧ es n τ1 = some r1 ∧ ∀ (O : Addr → Bool) (H : Hp) (N : L2.St → Hp → Prop), Post K cl F O H E r →
      (∀ (τ2 : Sta) (O' : Addr → Bool) (σ' : L2.St) (H' : Hp), forE et es n ds τ2 = some r → Ex (hide O H) (hide O' H') → Rel K cl F O' σ' H' τ2 → N σ' H') → Post K cl F O H { E with nx := N, ct := N, bk := E.nx } r1 := by
  rw [forE] at h
  split at h
  · rename_i τ1 e1
    split at h
    · rename_i τ2 e2
      exact ⟨τ1, _, e1, e2, fun O H N p hN O' σ' H' x rl => hN τ2 O' σ' H' h x rl⟩
    · rename_i τ2 e2
      exact ⟨τ1, _, e1, e2, fun O H N p hN O' σ' H' x rl => hN τ2 O' σ' H' h x rl⟩
    · rename_i τ2 e2
      cases h
      exact ⟨τ1, _, e1, e2, fun O H N p hN => p⟩
    · rename_i d' e2
      cases h
      exact ⟨τ1, _, e1, e2, fun O H N p hN => p⟩
    · cases h
  · cases h
theorem ds_for (hp : PassesOwn (model X.prog X.w) X.A X.env X.xe) (hc : X.calm = true) (hi : DI cl X tg e ei) (hg : DG cl X tg et) (hb : DSs cl X b es)
    (hs : ∀ x, foldedSetIterable e X.env x = pure x := by intro _; rfl) : DS cl X (.For tg e b [] pos) (sFor ei et es) := ps_imp (ps_for hp hc hi hg hb hs) fun E σ H ⟨F, O, n, τ, r, rl, h, q⟩ => by
  unfold sFor at h
  split at h
  · rename_i ds e1
    refine ⟨F, O, n, τ, ds, rl, e1, fun J H1 x yd => ?_⟩
    refine ⟨fun i m σ H => m = ds.length - i ∧ i ≤ ds.length ∧ ∃ O' τ', Rel X.K cl F O' σ H τ' ∧ Ex (hide O H1) (hide O' H) ∧ forE et es n (ds.drop i) τ' = some r ∧ Post X.K cl F O' H E r,
      ⟨_, rfl, Nat.zero_le _, O, τ, rl.mono x, Ex.refl _, h, q.trans (hide_ex x)⟩, ?_⟩
    rintro i m σ2 H2 ⟨rfl, hi, O2, τ2, rl2, x2, h2, q2⟩
    obtain ⟨y1, y2, y3⟩ := yd O2 H2 rl2.ow x2
    by_cases hlt : i < ds.length
    · rw [List.drop_eq_getElem_cons hlt] at h2
      obtain ⟨τ3, r3, e3, e4, hP⟩ := forE_post (cl := cl) (K := X.K) (F := F) (E := E) h2
      refine .inr ⟨y1 i hlt, fun σ' H' => ∃ O' τ', Rel X.K cl F O' σ' H' τ' ∧ Ex (hide O H1) (hide O' H') ∧ forE et es n (ds.drop (i + 1)) τ' = some r ∧ Post X.K cl F O' H' E r,
        fun σ' H' ⟨O', τ', a1, a2, a3, a4⟩ => ⟨ds.length - (i + 1), by omega, rfl, hlt, O', τ', a1, a2, a3, a4⟩, fun y H' hy => ?_⟩
      obtain ⟨x3, hd⟩ := y3 i _ y H' (List.getElem?_eq_getElem hlt) hy
      refine ⟨F, O2, τ2, _, τ3, rl2.mono x3, hd, e3, fun O4 σ4 H4 x4 rl4 => ?_⟩
      have x24 := (hide_ex x3).trans x4
      refine ⟨F, O4, n, τ3, r3, rl4, e4, hP O4 H4 _ (q2.trans x24) fun τ5 O5 σ5 H5 h5 x5 rl5 => ?_⟩
      exact ⟨O5, τ5, rl5, x2.trans (x24.trans x5), h5, q2.trans (x24.trans x5)⟩
    · have e : i = ds.length := by omega
      subst e
      rw [List.drop_length] at h2
      cases h2
      exact .inl ⟨y2, q2 O2 σ2 H2 (Ex.refl _) rl2⟩
  · cases h
theorem ds_while (hp : PassesOwn (model X.prog X.w) X.A X.env X.xe) (hc : DT cl X c t) (hb : DSs cl X b es) : DS cl X (.While c b [] pos) (sWhile t es) := ps_imp (ps_while hp hc hb) fun E σ H ⟨F, O, n, τ, r, rl, h, q⟩ => by
  unfold sWhile at h
  refine ⟨fun m σ H => ∃ O' τ', Rel X.K cl F O' σ H τ' ∧ whileE t es n m τ' = some r ∧ Post X.K cl F O' H E r, ⟨n, O, τ, rl, h, q⟩, ?_⟩
  rintro m σ2 H2 ⟨O2, τ2, rl2, h2, q2⟩
  cases m with
  | zero => cases h2
  | succ m =>
    rw [whileE] at h2
    split at h2
    · rename_i e1
      refine ⟨F, O2, n, τ2, true, rl2, e1, fun H3 x3 => ?_⟩
      refine iteT ?_
      refine ⟨fun σ' H' => ∃ O' τ', Rel X.K cl F O' σ' H' τ' ∧ whileE t es n m τ' = some r ∧ Post X.K cl F O' H' E r, fun σ' H' w => ⟨m, Nat.lt_succ_self m, w⟩, ?_⟩
      split at h2
      · rename_i τ4 e2
        exact ⟨F, O2, n, τ2, _, rl2.mono x3, e2, fun O' σ' H' x rl' => ⟨O', τ4, rl', h2, (q2.trans (hide_ex x3)).trans x⟩⟩
      · rename_i τ4 e2
        exact ⟨F, O2, n, τ2, _, rl2.mono x3, e2, fun O' σ' H' x rl' => ⟨O', τ4, rl', h2, (q2.trans (hide_ex x3)).trans x⟩⟩
      · rename_i τ4 e2
        cases h2
        exact ⟨F, O2, n, τ2, _, rl2.mono x3, e2, q2.trans (hide_ex x3)⟩
      · rename_i d e2
        cases h2
        exact ⟨F, O2, n, τ2, _, rl2.mono x3, e2, q2⟩
      · cases h2
    · rename_i e1
      cases h2
      refine ⟨F, O2, n, τ2, false, rl2, e1, fun H3 x3 => ?_⟩
      refine iteF ?_
      exact q2 O2 σ2 H3 (hide_ex x3) (rl2.mono x3)
    · cases h2
end
end TL

/-! Trees: list comprehensions of one clause -/
namespace TL
open PySem PySem.Spec PyProof.Rows L2 Evl SlX StX C8

/-! ### slots forgotten -/
def wipeD (sl : List (Option D)) : List Nat → List (Option D)
  | [] => sl
  | v :: vs => (wipeD sl vs).set v none
theorem wipeD_len (sl : List (Option D)) : ∀ vs : List Nat, (wipeD sl vs).length = sl.length
  | [] => rfl
  | v :: vs => by
    unfold wipeD
    rw [List.length_set, wipeD_len sl vs]
theorem wipeD_some {sl : List (Option D)} {i : Nat} {x : D} : ∀ {vs : List Nat}, (wipeD sl vs)[i]? = some (some x) → sl[i]? = some (some x) ∧ i ∉ vs
  | [], h => ⟨h, by simp⟩
  | v :: vs, h => by
    unfold wipeD at h
    by_cases e : v = i
    · subst e
      by_cases hl : v < (wipeD sl vs).length
      · rw [List.getElem?_set_self hl] at h; cases h
      · rw [List.getElem?_eq_none (by simp; omega)] at h; cases h
    · rw [List.getElem?_set_ne e] at h
      obtain ⟨h1, h2⟩ := wipeD_some h
      exact ⟨h1, by simp [h2, Ne.symm e]⟩
theorem wipe_other {σ : L2.St} {i : Nat} : ∀ {vs : List Nat}, i ∉ vs → (wipe σ vs)[i]? = σ[i]?
  | [], _ => rfl
  | v :: vs, h => by
    have h' : i ≠ v ∧ i ∉ vs := by simpa using h
    unfold wipe
    rw [List.getElem?_set_ne (Ne.symm h'.1)]
    exact wipe_other h'.2
theorem wipe_set {σ : L2.St} {i : Nat} {x : Option V} : ∀ {vs : List Nat}, i ∈ vs → wipe (σ.set i x) vs = wipe σ vs := by
  intro vs
  induction vs with
  | nil => intro h; cases h
  | cons v vs ih =>
    intro h
    have key : ∀ ws : List Nat, wipe (σ.set i x) ws = (wipe σ ws).set i (if i ∈ ws then none else x) := by
      intro ws
      induction ws with
      | nil =>
        show σ.set i x = _
        simp [wipe]
      | cons u us ih2 =>
        unfold wipe
        rw [ih2]
        by_cases e : u = i
        · subst e
          simp
        · rw [List.set_comm _ _ (Ne.symm e)]
          by_cases hm : i ∈ us
          · rw [if_pos hm, if_pos (List.mem_cons_of_mem _ hm)]
          · rw [if_neg hm, if_neg (by simp [hm, Ne.symm e])]
    have nn : ∀ ws : List Nat, i ∈ ws → (wipe σ ws).set i none = wipe σ ws := by
      intro ws hm
      apply List.ext_getElem?
      intro j
      by_cases e : i = j
      · subst e
        by_cases hl : i < (wipe σ ws).length
        · rw [List.getElem?_set_self hl]
          cases q : (wipe σ ws)[i]? with
          | none => rw [List.getElem?_eq_none_iff] at q; omega
          | some o =>
            cases o with
            | none => rfl
            | some y => exact absurd hm (wipe_some q).2
        · rw [List.getElem?_eq_none (by simp; omega), List.getElem?_eq_none (by omega)]
      · rw [List.getElem?_set_ne e]
    rw [key (v :: vs), if_pos h, nn (v :: vs) h]

theorem wipe_sub {σ : L2.St} {vs : List Nat} : ∀ us : List Nat, (∀ i ∈ us, i ∈ vs) → wipe (wipe σ us) vs = wipe σ vs
  | [], _ => rfl
  | u :: us, h => (wipe_set (σ := wipe σ us) (x := none) (h u List.mem_cons_self)).trans (wipe_sub us fun i hi => h i (List.mem_cons_of_mem _ hi))

/-! ### the block's state -/
section
variable {K : PySem.W.Frag} {cl : Nat → Addr} {F : Fr} {O O2 : Addr → Bool} {σ : L2.St} {H H2 : Hp} {τ : Sta} {B : Hp}
theorem Rel.block (r : Rel K cl F O σ H τ) (vs : List Nat) (ow : Ow O2 H2) (e1 : Ex B H2) (e : Ex (hide O H) (hide O2 H2)) : Rel K cl ⟨B, O2, 0, 0⟩ O2 (wipe σ vs) H2 ⟨wipeD τ.sl vs, .no⟩ := by
  refine ⟨e1, ow, fun _ h => h, fun i d h => ?_, by rw [wipe_length]; show (wipeD τ.sl vs).length = _; rw [wipeD_len]; exact r.len, fun _ h => h⟩
  obtain ⟨h1, h2⟩ := wipeD_some (show (wipeD τ.sl vs)[i]? = _ from h)
  obtain ⟨v, a, b⟩ := r.sl i d h1
  exact ⟨v, by rw [wipe_other h2]; exact a, b.mono e⟩
end

/-! ### targets of comprehensions -/
def GOk (K : PySem.W.Frag) (cl : Nat → Addr) (g : TG) (et : ETg) (vs : List Nat) : Prop := ∀ (F : Fr) (O : Addr → Bool) (σ : L2.St) (H : Hp) (τ τ' : Sta) (v : V) (d : D) (Q : L2.St → Hp → Prop), Rel K cl F O σ H τ → HD K cl (hide O H) v d → et d τ = some τ' →
  (∀ σ', Rel K cl F O σ' H τ' → wipe σ' vs = wipe σ vs → Q σ' H) → g v σ H Q
def GsOk (K : PySem.W.Frag) (cl : Nat → Addr) (g : TGs) (et : ETgs) (vs : List Nat) : Prop := ∀ (F : Fr) (O : Addr → Bool) (σ : L2.St) (H : Hp) (τ τ' : Sta) (v : List V) (d : List D) (Q : L2.St → Hp → Prop), Rel K cl F O σ H τ → HDs K cl (hide O H) v d → et d τ = some τ' →
  (∀ σ', Rel K cl F O σ' H τ' → wipe σ' vs = wipe σ vs → Q σ' H) → g v σ H Q
section
variable {K : PySem.W.Frag} {cl : Nat → Addr} {vs : List Nat} {g : TG} {gs : TGs} {et : ETg} {ets : ETgs}
theorem gok_name {i : Nat} (h : i ∈ vs := by decide) : GOk K cl (gName i) (etName i) vs := fun F O σ H τ τ' v d Q rl hv he q => by
  unfold etName at he
  split at he
  · rename_i hf
    cases he
    exact q _ (rl.set hf hv) (wipe_set h)
  · cases he
theorem gsok_nil : GsOk K cl gNil etNil vs := fun F O σ H τ τ' v d Q rl hv he q => by
  unfold etNil at he
  split at he
  · cases he
    cases hv
    exact ⟨rfl, q σ rl rfl⟩
  · cases he
theorem gsok_cons (h1 : GOk K cl g et vs) (h2 : GsOk K cl gs ets vs) : GsOk K cl (gCons g gs) (etCons et ets) vs := fun F O σ H τ τ' v d Q rl hv he q => by
  unfold etCons at he
  split at he
  · split at he
    · rename_i τ1 e1
      cases hv with
      | cons hx hr =>
        exact ⟨_, _, rfl, h1 F O σ H τ τ1 _ _ _ rl hx e1 fun σ1 rl1 w1 => h2 F O σ1 H τ1 τ' _ _ _ rl1 hr he fun σ2 rl2 w2 => q σ2 rl2 (w2.trans w1)⟩
    · cases he
  · cases he
/-- a tuple's items -/
def etTupT (n : Nat) (ets : ETgs) : ETg := fun d τ => match d with
  | .tup ds => if ds.length = n then ets ds τ else none
  | _ => none
theorem gok_tup {n : Nat} (h : GsOk K cl gs ets vs) : GOk K cl (gTup K n gs) (etTupT n ets) vs := fun F O σ H τ τ' v d Q rl hv he q => by
  unfold etTupT at he
  split at he
  · split at he
    · rename_i hl
      cases hv with
      | tup hs hr => exact ⟨_, _, rfl, ex_t hide_le hs, by rw [hr.length]; exact hl, h F O σ H τ τ' _ _ Q rl hr he q⟩
    · cases he
  · cases he
end

/-! ### tests of comprehensions -/
def bYes : EB := fun _ _ => some true
theorem pts_imp {X : Cx} {ifs : List Expr} {t t' : TT} (h : PTs X ifs t) (k : ∀ σ H Q, t' σ H Q → t σ H Q) : PTs X ifs t' := ⟨fun pins s σ H Q I q => h.run pins s σ H Q I (k σ H Q q)⟩
theorem dts_nil {cl : Nat → Addr} {X : Cx} : PTs X [] (tT X.K cl bYes) := pts_imp pts_nil fun σ H Q ⟨F, O, n, τ, b, rl, h, q⟩ => by
  cases h
  exact q H (Ex.refl H)
theorem dts_one {cl : Nat → Addr} {X : Cx} {c : Expr} {t : EB} (h : DT cl X c t) : PTs X [c] (tT X.K cl t) := pts_one h

/-! ### the comprehension -/
def lcE (et : ETg) (tt : EB) (ee : EE) (n : Nat) (τ0 : Sta) : List D → Option (List D)
  | [] => some []
  | d :: ds => match et d τ0 with
    | some τ1 => (match tt n τ1 with
      | some true => (match ee n τ1 with
        | some y => (match lcE et tt ee n τ0 ds with
          | some ys => some (y :: ys)
          | none => none)
        | none => none)
      | some false => lcE et tt ee n τ0 ds
      | none => none)
    | none => none
def eLc (ei : EA) (et : ETg) (tt : EB) (ee : EE) (vs : List Nat) : EE := fun n τ => match ei n τ with
  | some ds => (match lcE et tt ee n ⟨wipeD τ.sl vs, .no⟩ ds with
    | some ys => if ys.length ≤ 100000 then some (.lst ys) else none
    | none => none)
  | none => none
section
variable {cl : Nat → Addr} {K : PySem.W.Frag} {σ : L2.St} {H : Hp} {g : TG} {et : ETg} {tt : EB} {ee : EE} {ei : EA} {vs : List Nat}
theorem lc_sound {Q : VK} (hg : GOk K cl g et vs) (h : tE K cl (eLc ei et tt ee vs) σ H Q) : tLc (tI K cl ei) g (tT K cl tt) (tE K cl ee) vs σ H Q := by
  obtain ⟨F, O, n, τ, d, rl, h, q⟩ := h
  unfold eLc at h
  split at h
  · rename_i ds e1
    split at h
    · rename_i ys e2
      split at h
      · rename_i hlen
        cases h
        refine ⟨F, O, n, τ, ds, rl, e1, fun J H1 x yd A hA => ?_⟩
        have rl1 := rl.mono x
        have oA : O A = false := rl1.ow.new hA
        let O' : Addr → Bool := fun b => O b || b == A
        have o'A : O' A = true := by simp [O']
        have sub : ∀ b, O b = true → O' b = true := fun b hb => by simp [O', hb]
        have ow' : ∀ {H' : Hp} {acc : List V}, Ex H1 H' → H' A = some (.lst acc) → Ow O' H' := fun {H' acc} e eA b hb => by
          by_cases hbA : b = A
          · rw [hbA, eA]; exact fun z => nomatch z
          · have : O b = true := by simpa [O', hbA] using hb
            exact (rl1.ow.ex e) b this
        have exO : ∀ {H' : Hp}, Ex H1 H' → Ex (hide O H1) (hide O' H') := fun {H'} e b u hb => by
          cases hO : O b with
          | true => rw [hide_on hO] at hb; cases hb
          | false =>
            rw [hide_at hO] at hb
            have hbA : b ≠ A := ne_of_none hb hA
            have : O' b = false := by simp [O', hO, hbA]
            rw [hide_at this]
            exact e _ _ hb
        refine ⟨fun i m H' => m = ds.length - i ∧ i ≤ ds.length ∧ ∃ acc ys0 rest, Ex H1 H' ∧ H' A = some (.lst acc) ∧ HDs K cl (hide O' H') acc ys0 ∧ lcE et tt ee n ⟨wipeD τ.sl vs, .no⟩ (ds.drop i) = some rest ∧ ys0 ++ rest = ys,
          ⟨_, rfl, Nat.zero_le _, [], [], ys, Ex.new hA, upd_same, .nil, e2, rfl⟩, ?_⟩
        rintro i m H2 ⟨rfl, hi, acc, ys0, rest, x2, eA, hacc, h2, hys⟩
        have ow2 := ow' x2 eA
        obtain ⟨y1, y2, y3⟩ := yd O' H2 ow2 (exO x2)
        by_cases hlt : i < ds.length
        · rw [List.drop_eq_getElem_cons hlt] at h2
          refine .inr ⟨y1 i hlt, fun H' => ∃ acc ys0 rest, Ex H1 H' ∧ H' A = some (.lst acc) ∧ HDs K cl (hide O' H') acc ys0 ∧ lcE et tt ee n ⟨wipeD τ.sl vs, .no⟩ (ds.drop (i + 1)) = some rest ∧ ys0 ++ rest = ys,
            fun H' w => ⟨ds.length - (i + 1), by omega, rfl, hlt, w⟩, fun y H' hy => ?_⟩
          obtain ⟨x3, hd⟩ := y3 i _ y H' (List.getElem?_eq_getElem hlt) hy
          have rb : Rel K cl ⟨H1, O', 0, 0⟩ O' (wipe σ vs) H' ⟨wipeD τ.sl vs, .no⟩ := rl1.block vs (ow2.ex x3) (x2.trans x3) (exO (x2.trans x3))
          rw [lcE] at h2
          split at h2
          · rename_i τ1 e3
            refine hg _ O' _ H' _ τ1 y _ _ rb hd e3 fun σ1 rl3 w3 => ⟨w3.trans (wipe_sub vs fun _ z => z), ?_⟩
            split at h2
            · rename_i e4
              refine ⟨_, O', n, τ1, true, rl3, e4, fun H3 x4 => ?_⟩
              refine iteT ?_
              split at h2
              · rename_i z e5
                split at h2
                · rename_i zs e6
                  cases h2
                  refine ⟨_, O', n, τ1, z, rl3.mono x4, e5, fun H4 v x5 hv => ?_⟩
                  have x24 : Ex H2 H4 := x3.trans (x4.trans x5)
                  have eA4 : H4 A = some (.lst acc) := x24 _ _ eA
                  have hl0 : ys0.length + (z :: zs).length = ys.length := by rw [← hys, List.length_append]
                  refine ⟨acc, eA4, ?_, acc ++ [v], ys0 ++ [z], zs, ?_, upd_same, ?_, e6, by rw [← hys]; simp⟩
                  · rw [hacc.length]
                    have h1 : ys0.length + 1 ≤ 100000 := by
                      have := hl0
                      simp at this
                      omega
                    exact sz_of h1
                  · exact (x2.trans x24).mut hA
                  · have hm : hide O' (upd H4 A (.lst (acc ++ [v]))) = hide O' H4 := hide_upd o'A
                    rw [hm]
                    exact (hacc.mono (hide_ex x24)).append (.cons hv .nil)
                · cases h2
              · cases h2
            · rename_i e4
              refine ⟨_, O', n, τ1, false, rl3, e4, fun H3 x4 => ?_⟩
              refine iteF ?_
              have x23 : Ex H2 H3 := x3.trans x4
              exact ⟨acc, ys0, rest, x2.trans x23, x23 _ _ eA, hacc.mono (hide_ex x23), h2, hys⟩
            · cases h2
          · cases h2
        · have e : i = ds.length := by omega
          subst e
          rw [List.drop_length] at h2
          cases h2
          refine .inl ⟨y2, q H2 _ (x.trans x2) (.lst (by rw [hide_at oA]; exact eA) ?_)⟩
          rw [← hys, List.append_nil]
          exact hacc.mono (hide_sub sub)
      · cases h
    · cases h
  · cases h
end
section
variable {cl : Nat → Addr} {X : Cx} {elt tg iter : Expr} {ifs : List Expr} {scope : Scope} {own : List (Str × Nat)} {pos : Pos} {g : TG} {et : ETg} {tt : EB} {ee : EE} {ei : EA}
theorem d_lc (hc : X.calm = true) (hN : X.N.Nodup) (hi : DI cl X tg iter ei) (ok : BlkOk X.N X.env.scope scope own) (hgo : GOk X.K cl g et (own.map (·.2)))
    (hg : ∀ (s : Shared) (H : Hp) (C : Addr) (cl' : List (Str × Addr)) (fp : List Addr), PG (X.blk s H scope (compEnvC scope cl' C X.env) fp) tg g)
    (ht : ∀ (s : Shared) (H : Hp) (C : Addr) (cl' : List (Str × Addr)) (fp : List Addr), PTs (X.blk s H scope (compEnvC scope cl' C X.env) fp) ifs (tT X.K cl tt))
    (he : ∀ (s : Shared) (H : Hp) (C : Addr) (cl' : List (Str × Addr)) (fp : List Addr), DE cl (X.blk s H scope (compEnvC scope cl' C X.env) fp) elt ee) (hs : ∀ x, foldedSetIterable iter X.env x = pure x := by intro _; rfl) :
    DE cl X (.ListComp elt [⟨tg, iter, ifs, 0⟩] scope pos) (eLc ei et tt ee (own.map (·.2))) := pe_imp (pe_lc hc hN hi ok hg ht he hs) fun _ _ _ => lc_sound hgo
/-- y = [..] -/
theorem ds_setLc {i : Nat} {y : Str} {py spos : Pos} (hc : X.calm = true) (hN : X.N.Nodup) (hy : X.N[i]? = some y) (hyl : X.env.scope.names.lookup y = some .local)
    (hsw : swapsWith (.ListComp elt [⟨tg, iter, ifs, 0⟩] scope pos) (some (.Name y py)) spos.line X.env = pure true) (hi : DI cl X tg iter ei) (ok : BlkOk X.N X.env.scope scope own) (hgo : GOk X.K cl g et (own.map (·.2)))
    (hg : ∀ (s : Shared) (H : Hp) (C : Addr) (cl' : List (Str × Addr)) (fp : List Addr), PG (X.blk s H scope (compEnvC scope cl' C X.env) fp) tg g)
    (ht : ∀ (s : Shared) (H : Hp) (C : Addr) (cl' : List (Str × Addr)) (fp : List Addr), PTs (X.blk s H scope (compEnvC scope cl' C X.env) fp) ifs (tT X.K cl tt))
    (he : ∀ (s : Shared) (H : Hp) (C : Addr) (cl' : List (Str × Addr)) (fp : List Addr), DE cl (X.blk s H scope (compEnvC scope cl' C X.env) fp) elt ee) (hs : ∀ x, foldedSetIterable iter X.env x = pure x := by intro _; rfl) :
    DS cl X (.Assign [.Name y py] (.ListComp elt [⟨tg, iter, ifs, 0⟩] scope pos) spos) (sAsg (eLc ei et tt ee (own.map (·.2))) (etName i)) := ps_imp (ps_setLc hc hN hy hyl hsw hi ok hg ht he hs) fun E σ H ⟨F, O, n, τ, r, rl, h, q⟩ => by
  unfold sAsg at h
  split at h
  · rename_i d e1
    split at h
    · rename_i τ' e2
      cases h
      refine lc_sound hgo ⟨F, O, n, τ, d, rl, e1, fun H1 v x hv => ?_⟩
      unfold etName at e2
      split at e2
      · rename_i hf
        cases e2
        exact q O _ H1 (hide_ex x) ((rl.mono x).set hf hv)
      · cases e2
    · cases h
  · cases h
end
end TL

/-! Trees: defs, instances made, private lists -/
namespace TL
open PySem PySem.Spec PyProof.Rows L2 Evl SlX StX C8

/-! ### a def by its tree -/
def pad (p N : Nat) (ds : List D) : List (Option D) := ds.map some ++ List.replicate (N - p) none
def outD : Option Out → Option D
  | some (.rt d) => some d
  | some (.nx _) => some .non
  | _ => none
def mir (N p : Nat) (es : ES) : Nat → List D → Option D := fun n ds => if ds.length = p then outD (es n ⟨pad p N ds, .no⟩) else none
def allSome : List (Option D) → Option (List D)
  | [] => some []
  | some d :: r => match allSome r with
    | some l => some (d :: l)
    | none => none
  | none :: _ => none
def outI (c : Nat) : Option Out → Option (List D)
  | some (.nx ⟨_, .ob _ c' fs⟩) => if c' = c then allSome fs else none
  | _ => none
/-- an __init__: p parameters, self first -/
def mirI (N p c : Nat) (es : ES) : Nat → List D → Option (List D) := fun n ds => if ds.length + 1 = p then outI c (es n ⟨none :: pad p N ds, .ob 0 c []⟩) else none
theorem mir_len {N p n : Nat} {es : ES} {ds : List D} {d : D} (h : mir N p es n ds = some d) : ds.length = p := by
  unfold mir at h
  split at h
  · assumption
  · cases h
theorem mirI_len {N p c n : Nat} {es : ES} {ds : List D} {d : List D} (h : mirI N p c es n ds = some d) : ds.length + 1 = p := by
  unfold mirI at h
  split at h
  · assumption
  · cases h
section
variable {K : PySem.W.Frag} {cl : Nat → Addr} {G : Hp}
theorem HDs.at_ {vs : List V} {ds : List D} {k : Nat} (r : HDs K cl G vs ds) {i : Nat} {d : D} (h : (ds.map some ++ List.replicate k (none : Option D))[i]? = some (some d)) (k2 : Nat) :
    ∃ v, (vs.map some ++ List.replicate k2 (none : Option V))[i]? = some (some v) ∧ HD K cl G v d := by
  by_cases hi : i < ds.length
  · rw [List.getElem?_append_left (by simpa using hi), List.getElem?_map] at h
    have h' : ds[i]? = some d := by
      cases q : ds[i]? with
      | none => rw [q] at h; cases h
      | some x => rw [q] at h; simpa using h
    obtain ⟨v, h1, h2⟩ := r.get h'
    exact ⟨v, by rw [List.getElem?_append_left (by rw [List.length_map, r.length]; exact hi), List.getElem?_map, h1]; rfl, h2⟩
  · rw [List.getElem?_append_right (by simp; omega), List.getElem?_replicate] at h
    split at h <;> cases h
theorem body_sound {N : List Str} {p : Nat} {es : ES} {vs : List V} {H : Hp} {Q : VK} {E : XK} (hp : p ≤ N.length) (h : spD K cl (mir N.length p es) vs H Q E) : tS K cl es { nx := fun _ H' => Q .non H', rt := Q } (start N vs) H := by
  obtain ⟨O, n, ds, d, ow, hv, hm, q⟩ := h
  have hl := mir_len hm
  have hl2 : vs.length = p := by rw [hv.length]; exact hl
  unfold mir at hm
  rw [if_pos hl] at hm
  have rl : Rel K cl ⟨H, O, 0, 0⟩ O (start N vs) H ⟨pad p N.length ds, .no⟩ := by
    refine ⟨Ex.refl H, ow, fun _ z => z, fun i d' e => ?_, ?_, fun _ z => z⟩
    · exact hv.at_ e _
    · show (pad p N.length ds).length = (start N vs).length
      simp [pad, L2.start, hl, hl2]
  cases hr : es n ⟨pad p N.length ds, .no⟩ with
  | none => rw [hr] at hm; cases hm
  | some r =>
    rw [hr] at hm
    refine ⟨_, O, n, _, r, rl, hr, ?_⟩
    cases r with
    | nx τ' => cases hm; exact fun O' σ' H' x rl' => q H' .non rl'.ex .non
    | rt d' => cases hm; exact fun H' v x hd => q H' v x hd
    | bk τ' => cases hm
    | ct τ' => cases hm
theorem allSome_get : ∀ {fs : List (Option D)} {ds : List D}, allSome fs = some ds → fs = ds.map some
  | [], _, h => by cases h; rfl
  | some d :: r, ds, h => by
    rw [allSome] at h
    split at h
    · rename_i l e
      cases h
      rw [allSome_get e]
      rfl
    · cases h
  | none :: _, _, h => by cases h
theorem ods_all {vs : List (Option V)} {ds : List D} (h : ODs K cl G vs (ds.map some)) : ∃ us, vs = us.map some ∧ HDs K cl G us ds := by
  induction ds generalizing vs with
  | nil =>
    obtain ⟨hl, _⟩ := h
    cases vs with
    | nil => exact ⟨[], rfl, .nil⟩
    | cons _ _ => simp at hl
  | cons d ds ih =>
    obtain ⟨hl, hg⟩ := h
    cases vs with
    | nil => simp at hl
    | cons v vs =>
      obtain ⟨u, h1, h2⟩ := hg 0 d rfl
      obtain ⟨us, h3, h4⟩ := ih (vs := vs) ⟨by simpa using hl, fun i d' e => by
        obtain ⟨v', h1, h2⟩ := hg (i + 1) d' (by simpa using e)
        exact ⟨v', by simpa using h1, h2⟩⟩
      have : v = some u := by simpa using h1
      exact ⟨u :: us, by rw [this, h3]; rfl, .cons h2 h4⟩
theorem init_sound {N : List Str} {p c : Nat} {es : ES} {vs : List V} {H : Hp} {Q : VK} {E : XK} (hp : p ≤ N.length) (h : spI K cl c (mirI N.length p c es) vs H Q E) : tS K cl es { nx := fun _ H' => Q .non H', rt := Q } (start N vs) H := by
  obtain ⟨O, n, a, dx, ws, ds, fs, rfl, hHa, hHd, ne, ow, ⟨oa, od⟩, hv, hm, q⟩ := h
  have hl := mirI_len hm
  have hl2 : ws.length + 1 = p := by rw [hv.length]; exact hl
  unfold mirI at hm
  rw [if_pos hl] at hm
  let Hn : Hp := fun b => if b = a ∨ b = dx then none else H b
  let O0 : Addr → Bool := fun b => O b && !(b == a || b == dx)
  have hn1 : Hn a = none := if_pos (.inl rfl)
  have hn2 : Hn dx = none := if_pos (.inr rfl)
  have rl : Rel K cl ⟨Hn, O0, a, dx⟩ O (start N (.ref a :: ws)) H ⟨none :: pad p N.length ds, .ob 0 c []⟩ := by
    refine ⟨fun b o e => ?_, ow, fun b z => ?_, fun i d' e => ?_, ?_, [], rfl, ⟨hn1, hn2⟩, ⟨by simp [O0], by simp [O0]⟩, ⟨oa, od⟩, ne, .inl ⟨hHa, rfl⟩, ⟨rfl, fun i d e => by simp at e⟩, fun b z => ?_⟩
    · by_cases hb : b = a ∨ b = dx
      · have : Hn b = none := if_pos hb
        rw [show (⟨Hn, O0, a, dx⟩ : Fr).B b = Hn b from rfl, this] at e; cases e
      · have : Hn b = H b := if_neg hb
        rw [← this]; exact e
    · have : (O b && !(b == a || b == dx)) = true := z
      rw [Bool.and_eq_true] at this
      exact this.1
    · cases i with
      | zero => simp at e
      | succ i =>
        obtain ⟨v, h1, h2⟩ := hv.at_ (i := i) (d := d') (k := N.length - p) (by simpa [pad] using e) (N.length - (ws.length + 1))
        exact ⟨v, by simpa [L2.start] using h1, h2⟩
    · show (none :: pad p N.length ds).length = (start N (.ref a :: ws)).length
      simp [pad, L2.start]
      omega
    · by_cases hb : b = a ∨ b = dx
      · exact .inr hb
      · refine .inl ?_
        have h1 : b ≠ a := fun z => hb (.inl z)
        have h2 : b ≠ dx := fun z => hb (.inr z)
        simp [O0, z, h1, h2]
  cases hr : es n ⟨none :: pad p N.length ds, .ob 0 c []⟩ with
  | none => rw [hr] at hm; cases hm
  | some r =>
    rw [hr] at hm
    refine ⟨_, O, n, _, r, rl, hr, ?_⟩
    cases r with
    | nx τ' =>
      obtain ⟨sl, pm⟩ := τ'
      cases pm with
      | no => cases hm
      | lst _ _ => cases hm
      | ob k c' fs' =>
        have hm' : (if c' = c then allSome fs' else none) = some fs := hm
        split at hm'
        · rename_i ec
          subst ec
          have hfs := allSome_get hm'
          subst hfs
          intro O' σ' H' x rl'
          obtain ⟨vs', h1, h2, h3, h4, h5, h6, h7, h8⟩ := rl'.pm
          obtain ⟨us, rfl, h9⟩ := ods_all h7
          refine q H' us (fun b o hb1 hb2 hb => rl'.ex b o ?_) h6 (h9.mono (hide_sub fun b hb => ?_))
          · show Hn b = some o
            rw [← hb]
            exact if_neg fun z => z.elim hb1 hb2
          · by_cases hb1 : b = a
            · rw [hb1]; exact h4.1
            · by_cases hb2 : b = dx
              · rw [hb2]; exact h4.2
              · exact rl'.sub b (by show (O b && !(b == a || b == dx)) = true; simp [hb, hb1, hb2])
        · cases hm'
    | rt d' => cases hm
    | bk τ' => cases hm
    | ct τ' => cases hm
end
section
variable {P : Program} {w : World} {K : PySem.W.Frag} {cl : Nat → Addr} {mg : Str → Option Value} {base : Heap} {x qual : Str} {params : Arguments} {body : List Stmt} {scope : Scope} {dvs : List V} {kws : List (Str × V)} {f : Addr} {fd : FuncData} {N ps : List Str} {k : Nat} {es : ES}
/-- a def keeps its mirror -/
theorem fn_tree (F : FunD K x qual params body scope dvs kws f fd) (S : FnScope N ps scope) (hp : ps.length ≤ N.length := by decide)
    (hb : ∀ (cdv : Value) (A : Around) (outer : List Env) (s : Shared) (H : Hp) (E : XK), Room k (A.deeper (envOfC qual scope s.heap.objs.size f cdv)) → DSs cl (cxOf L2.CX0 P w K mg base N qual scope f cdv A outer s H E).nox body es) :
    FnOk P w K mg base L2.CX0 (k + 1) f fd ps (spD K cl (mir N.length ps.length es)) :=
  F.ok S (fun vs H Q E ⟨O, n, ds, d, ow, hv, hm, q⟩ => by rw [hv.length]; exact mir_len hm) fun cdv A outer s H vs Q E hr h => ⟨_, PSs.nox (hb cdv A outer s H E hr), body_sound hp h⟩
/-- an __init__ keeps its mirror -/
theorem in_tree {c : Nat} (F : FunD K x qual params body scope dvs kws f fd) (S : FnScope N ps scope) (hp : ps.length ≤ N.length := by decide)
    (hb : ∀ (cdv : Value) (A : Around) (outer : List Env) (s : Shared) (H : Hp) (E : XK), Room k (A.deeper (envOfC qual scope s.heap.objs.size f cdv)) → DSs cl (cxOf L2.CX0 P w K mg base N qual scope f cdv A outer s H E).nox body es) :
    FnOk P w K mg base L2.CX0 (k + 1) f fd ps (spI K cl c (mirI N.length ps.length c es)) :=
  F.ok S (fun vs H Q E ⟨O, n, a, dx, ws, ds, fs, e, hHa, hHd, ne, ow, oo, hv, hm, q⟩ => by rw [e, List.length_cons, hv.length]; exact mirI_len hm) fun cdv A outer s H vs Q E hr h => ⟨_, PSs.nox (hb cdv A outer s H E hr), init_sound hp h⟩
end

/-! ### self.f = e -/
def putD (i : Nat) (d : D) (fs : List (Option D)) : List (Option D) := (fs ++ List.replicate (i + 1 - fs.length) none).set i (some d)
theorem putD_get (i : Nat) (d : D) (fs : List (Option D)) : (putD i d fs)[i]? = some (some d) := by
  unfold putD
  rw [List.getElem?_set_self]
  simp
  omega
theorem putD_ne {i j : Nat} {d x : D} {fs : List (Option D)} (h : j ≠ i) (e : (putD i d fs)[j]? = some (some x)) : fs[j]? = some (some x) := by
  unfold putD at e
  rw [List.getElem?_set_ne (Ne.symm h)] at e
  by_cases hl : j < fs.length
  · rw [List.getElem?_append_left hl] at e; exact e
  · rw [List.getElem?_append_right (by omega), List.getElem?_replicate] at e
    split at e <;> cases e
def etSelf (k : Nat) (lk : Nat → Option Nat) : ETg := fun d τ => match τ.pm with
  | .ob j c fs => if j = k then (match lk c with
    | some i => some { τ with pm := .ob j c (putD i d fs) }
    | none => none) else none
  | _ => none
section
variable {K : PySem.W.Frag} {cl : Nat → Addr} {F : Fr} {O : Addr → Bool} {σ : L2.St} {H : Hp} {τ : Sta}
theorem ODs.put {G : Hp} {vs : List (Option V)} {fs : List (Option D)} {v : V} {d : D} (i : Nat) (r : ODs K cl G vs fs) (h : HD K cl G v d) : ODs K cl G (SlX.putS i v vs) (putD i d fs) := by
  refine ⟨by simp [SlX.putS, putD, r.1], fun j d' e => ?_⟩
  by_cases hj : j = i
  · subst hj
    rw [putD_get] at e
    cases e
    exact ⟨v, SlX.putS_get j v vs, h⟩
  · obtain ⟨u, h1, h2⟩ := r.2 j d' (putD_ne hj e)
    exact ⟨u, (SlX.putS_ne hj).mpr h1, h2⟩
/-- behind a store to the instance that is made -/
theorem Rel.self {sl : List (Option D)} {k c i : Nat} {fs : List (Option D)} {v : V} {d : D} (r : Rel K cl F O σ H ⟨sl, .ob k c fs⟩) (h : HD K cl (hide O H) v d) :
    ∃ vs, σ[k]? = some (some (.ref F.a)) ∧ Slt H F.a (cl c) F.dx vs ∧ ODs K cl (hide O H) vs fs ∧ Ex (hide O H) (hide O (slH H F.a (cl c) F.dx (SlX.putS i v vs))) ∧ Rel K cl F O σ (slH H F.a (cl c) F.dx (SlX.putS i v vs)) ⟨sl, .ob k c (putD i d fs)⟩ := by
  obtain ⟨vs, h1, h2, h3, h4, h5, h6, h7, h8⟩ := r.pm
  have eh : hide O (slH H F.a (cl c) F.dx (SlX.putS i v vs)) = hide O H := by
    unfold slH
    rw [hide_upd h4.1, hide_upd h4.2]
  refine ⟨vs, h1, h6, h7, by rw [eh]; exact Ex.refl _, ⟨?_, fun b hb => ?_, r.sub, fun j d' e => ?_, r.len, _, h1, h2, h3, h4, h5, slH_slt h5, ?_, h8⟩⟩
  · exact (r.ex.mut h2.2).mut h2.1
  · by_cases hb1 : b = F.a
    · rw [hb1]; unfold slH; rw [upd_same]; exact fun z => nomatch z
    · by_cases hb2 : b = F.dx
      · rw [hb2]; unfold slH; rw [upd_ne h5, upd_same]; exact fun z => nomatch z
      · rw [slH_ne hb1 hb2]; exact r.ow b hb
  · rw [eh]; exact r.sl j d' e
  · rw [eh]; exact h7.put i h
end
section
variable {cl : Nat → Addr} {X : Cx} {o e : Expr} {f x : Str} {pos pos' p : Pos} {ta : TE} {lk : Nat → Option Nat} {k : Nat}
def gSl (K : PySem.W.Frag) (ta : TE) (f : Str) : TG := fun v σ H Q => ta σ H fun x H1 => ∃ a C dx p vs i, x = .ref a ∧ Slt H1 a C dx vs ∧ SCls K C ∧ Slot1 K C f p i ∧ Q σ (slH H1 a C dx (SlX.putS i v vs))
theorem pg_sl (ha : PE X o ta) : PG X (.Attribute o f pos) (gSl X.K ta f) := by
  refine ⟨fun pins s σ H v u Q I r h => ?_⟩
  rw [PySem.assign_Attribute]
  refine wpAny_bind (wpAny_holding (thn (ha.run pins s σ H _ I h) fun ov s2 ⟨x, H2, I2, rx, a, C, dx, p, vs, i, ex, hsl, c, t, q2⟩ => ?_))
  subst ex
  obtain rfl : ov = Value.ref a := rx
  refine wpAny_bind (wpAny_standAt (wpAny_bind (wpAny_holding ?_)))
  exact SlX.setslot_ok I2 hsl c t r fun s3 I3 => wpAny_release ⟨σ, _, I3, q2⟩
theorem dg_self (F : FldF X.K cl f lk) (he : PE X (.Name x p) (tVar k)) : DG cl X (.Attribute (.Name x p) f pos) (etSelf k lk) := pg_imp (pg_sl he) fun v σ H Q ⟨G, O, τ, d, τ', rl, hv, h, q⟩ => by
  obtain ⟨sl, pm⟩ := τ
  unfold etSelf at h
  dsimp only at h
  split at h
  · rename_i j c fs
    split at h
    · rename_i ej
      subst ej
      split at h
      · rename_i i hl
        cases h
        obtain ⟨k1, pd, k2⟩ := F.ok c i hl
        obtain ⟨vs, h1, h2, h3, h4, h5⟩ := rl.self (i := i) hv
        exact ⟨_, h1, G.a, cl c, G.dx, pd, vs, i, rfl, h2, k1, k2, q O σ _ h4 h5⟩
      · cases h
    · cases h
  · cases h
/-- self.f = e -/
theorem ds_self {ee : EE} (F : FldF X.K cl f lk) (he : PE X (.Name x p) (tVar k)) (hv : DE cl X e ee) (hs : swapsWith e (some (.Attribute (.Name x p) f pos')) pos.line X.env = pure false := by rfl) :
    DS cl X (.Assign [.Attribute (.Name x p) f pos'] e pos) (sAsg ee (etSelf k lk)) := ps_imp (SlX.ps_sl he hv hs) fun E σ H ⟨G, O, n, τ, r, rl, h, q⟩ => by
  obtain ⟨sl, pm⟩ := τ
  unfold sAsg at h
  split at h
  · rename_i d e1
    split at h
    · rename_i τ' e2
      cases h
      unfold etSelf at e2
      dsimp only at e2
      split at e2
      · rename_i j c fs
        split at e2
        · rename_i ej
          subst ej
          split at e2
          · rename_i i hl
            cases e2
            refine ⟨G, O, n, _, d, rl, e1, fun H1 v x hd => ?_⟩
            obtain ⟨k1, pd, k2⟩ := F.ok c i hl
            obtain ⟨vs, h1, h2, h3, h4, h5⟩ := (rl.mono x).self (i := i) hd
            exact ⟨_, h1, G.a, cl c, G.dx, pd, vs, i, rfl, h2, k1, k2, q O σ _ ((hide_ex x).trans h4) h5⟩
          · cases e2
        · cases e2
      · cases e2
    · cases h
  · cases h
/-- self.f op= e -/
def sSelfAug (k : Nat) (lk : Nat → Option Nat) (g : D → D → Option D) (ee : EE) : ES := fun n τ => match eSelf k lk n τ with
  | some a => (match ee n τ with
    | some b => (match g a b with
      | some d => (match etSelf k lk d τ with
        | some τ' => some (.nx τ')
        | none => none)
      | none => none)
    | none => none)
  | none => none
def sSlAug (K : PySem.W.Frag) (ta tv : TE) (f : Str) (r : R2) : TS := fun D σ H => ta σ H fun x H1 => ∃ a C dx p vs i v, x = .ref a ∧ Slt H1 a C dx vs ∧ SCls K C ∧ Slot1 K C f p i ∧ vs[i]? = some (some v) ∧
  tv σ H1 fun y H2 => r v y H2 fun z H3 => ∃ C' dx' p' vs' i', Slt H3 a C' dx' vs' ∧ SCls K C' ∧ Slot1 K C' f p' i' ∧ D.nx σ (slH H3 a C' dx' (SlX.putS i' z vs'))
theorem ps_slAug {op : Operator} {r : R2} {tv : TE} (ha : PE X o ta) (hv : PE X e tv) (ho : OpR X (inplaceOp op) r) : PS X (.AugAssign (.Attribute o f pos') op e pos) (sSlAug X.K ta tv f r) := by
  refine ⟨fun pins s σ H D I h => ?_⟩
  refine wpAny_AugAssign_AttributeAny (thn (ha.run pins s σ H _ I h) fun ov s1 ⟨x, H1, I1, rx, a, C, dx, p, vs, i, v, ex, hsl, c, t, l, q⟩ => ?_)
  subst ex
  obtain rfl : ov = Value.ref a := rx
  refine SlX.getslot_ok I1 hsl c t l fun u s2 I2 ru => thn (hv.run pins s2 σ H1 _ I2 q) fun w3 s3 ⟨y, H2, I3, ry, q3⟩ => thn (ho pins s3 σ H2 v y u w3 _ I3 ru ry q3) fun w4 s4 ⟨z, H3, I4, rz, C', dx', p', vs', i', hs', c', t', q4⟩ => ?_
  exact SlX.setslot_ok I4 hs' c' t' rz fun s5 I5 => ⟨σ, _, I5, q4⟩
theorem ds_selfAug {ee : EE} {op : Operator} {r : R2} {g : D → D → Option D} (F : FldF X.K cl f lk) (he : PE X (.Name x p) (tVar k)) (hv : DE cl X e ee) (ho : OpR X (inplaceOp op) r) (hf : FD2 X.K cl r g) :
    DS cl X (.AugAssign (.Attribute (.Name x p) f pos') op e pos) (sSelfAug k lk g ee) := ps_imp (ps_slAug he hv ho) fun E σ H ⟨G, O, n, τ, r, rl, h, q⟩ => by
  obtain ⟨sl, pm⟩ := τ
  unfold sSelfAug at h
  split at h
  · rename_i a ea
    split at h
    · rename_i b eb
      split at h
      · rename_i d ed
        split at h
        · rename_i τ' e2
          cases h
          unfold etSelf at e2
          dsimp only at e2
          split at e2
          · rename_i j c fs
            split at e2
            · rename_i ej
              subst ej
              split at e2
              · rename_i i hl
                cases e2
                unfold eSelf at ea
                dsimp only at ea
                rw [if_pos rfl, hl] at ea
                dsimp only at ea
                split at ea
                · rename_i d' hd'
                  cases ea
                  obtain ⟨k1, pd, k2⟩ := F.ok c i hl
                  obtain ⟨vs, h1, h2, h3, h4, h5, h6, h7, h8⟩ := rl.pm
                  obtain ⟨u, hu, hdu⟩ := h7.2 i _ hd'
                  refine ⟨_, h1, G.a, cl c, G.dx, pd, vs, i, u, rfl, h6, k1, k2, hu, G, O, n, _, b, rl, eb, fun H2 y x2 hy => ?_⟩
                  refine hf O H2 u y _ b d _ (rl.ow.ex x2) (hdu.mono (hide_ex x2)) hy ed fun H3 z x3 hz => ?_
                  obtain ⟨vs', h1', h2', h3', h4', h5'⟩ := ((rl.mono x2).mono x3).self (i := i) hz
                  exact ⟨cl c, G.dx, pd, vs', i, h2', k1, k2, q O σ _ ((hide_ex (x2.trans x3)).trans h4') h5'⟩
                · cases ea
              · cases e2
            · cases e2
          · cases e2
        · cases h
      · cases h
    · cases h
  · cases h
end

/-! ### a list that the def fills -/
section
variable {K : PySem.W.Frag} {cl : Nat → Addr} {F : Fr} {O : Addr → Bool} {σ : L2.St} {H : Hp} {sl : List (Option D)}
def hideA (O : Addr → Bool) (p : Addr) : Addr → Bool := fun b => O b || b == p
theorem Rel.newL (r : Rel K cl F O σ H ⟨sl, .no⟩) {p : Addr} {k : Nat} (np : H p = none) (hk : k < sl.length) : Ex (hide O H) (hide (hideA O p) (upd H p (.lst []))) ∧ Rel K cl F (hideA O p) (σ.set k (some (.ref p))) (upd H p (.lst [])) ⟨sl.set k none, .lst k []⟩ := by
  have op : O p = false := r.ow.new np
  have o'p : hideA O p p = true := by simp [hideA]
  have ex1 : Ex (hide O H) (hide (hideA O p) (upd H p (.lst []))) := fun b u hb => by
    cases hO : O b with
    | true => rw [hide_on hO] at hb; cases hb
    | false =>
      rw [hide_at hO] at hb
      have hne : b ≠ p := ne_of_none hb np
      have : hideA O p b = false := by simp [hideA, hO, hne]
      rw [hide_at this, upd_ne hne]
      exact hb
  have bp : F.B p = none := by
    cases q : F.B p with
    | none => rfl
    | some u => rw [r.ex p u q] at np; cases np
  have o0p : F.O0 p = false := by
    cases q : F.O0 p with
    | false => rfl
    | true => rw [r.sub p q] at op; cases op
  refine ⟨ex1, r.ex.mut bp, fun b hb => ?_, fun b hb => by simp [hideA, r.sub b hb], fun i d e => ?_, by simpa using r.len, p, [], ?_, bp, o0p, o'p, upd_same, .nil, fun b hb => ?_⟩
  · by_cases hne : b = p
    · rw [hne, upd_same]; exact fun z => nomatch z
    · rw [upd_ne hne]
      exact r.ow b (by simpa [hideA, hne] using hb)
  · have e' : (sl.set k none)[i]? = some (some d) := e
    by_cases hi : k = i
    · subst hi
      rw [List.getElem?_set_self hk] at e'
      cases e'
    · rw [List.getElem?_set_ne hi] at e'
      rw [List.getElem?_set_ne hi]
      obtain ⟨v, h1, h2⟩ := r.sl i d e'
      exact ⟨v, h1, h2.mono ex1⟩
  · have hl : k < σ.length := by rw [← r.len]; exact hk
    exact List.getElem?_set_self hl
  · by_cases hne : b = p
    · exact .inr hne
    · exact .inl (r.pm b (by simpa [hideA, hne] using hb))
/-- the list changes -/
theorem Rel.putL {k : Nat} {ds ds' : List D} {a : Addr} {vs' : List V} (r : Rel K cl F O σ H ⟨sl, .lst k ds⟩) (h1 : σ[k]? = some (some (.ref a))) (h2 : F.B a = none) (h3 : F.O0 a = false) (h4 : O a = true) (h7 : ∀ b, O b = true → F.O0 b = true ∨ b = a)
    (hr : HDs K cl (hide O H) vs' ds') : Ex (hide O H) (hide O (upd H a (.lst vs'))) ∧ Rel K cl F O σ (upd H a (.lst vs')) ⟨sl, .lst k ds'⟩ := by
  have eh : hide O (upd H a (.lst vs')) = hide O H := hide_upd h4
  refine ⟨by rw [eh]; exact Ex.refl _, r.ex.mut h2, fun b hb => ?_, r.sub, fun i d e => by rw [eh]; exact r.sl i d e, r.len, a, vs', h1, h2, h3, h4, upd_same, by rw [eh]; exact hr, h7⟩
  by_cases hne : b = a
  · rw [hne, upd_same]; exact fun z => nomatch z
  · rw [upd_ne hne]; exact r.ow b hb
end
def sNew (k : Nat) : ES := fun _ τ => match τ.pm with
  | .no => if k < τ.sl.length then some (.nx ⟨τ.sl.set k none, .lst k []⟩) else none
  | _ => none
/-- a, k = e, [] -/
def sParNew (i k : Nat) (ee : EE) : ES := fun n τ => match ee n τ with
  | some d => (match τ.pm with
    | .no => if k < τ.sl.length ∧ i ≠ k then some (.nx ⟨(τ.sl.set k none).set i (some d), .lst k []⟩) else none
    | _ => none)
  | none => none
def sApp (k : Nat) (ee : EE) : ES := fun n τ => match ee n τ with
  | some d => (match τ.pm with
    | .lst j ds => if j = k ∧ ds.length + 1 ≤ 100000 then some (.nx ⟨τ.sl, .lst k (ds ++ [d])⟩) else none
    | _ => none)
  | none => none
def sExt (k : Nat) (ee : EE) : ES := fun n τ => match ee n τ with
  | some (.lst es) => (match τ.pm with
    | .lst j ds => if j = k ∧ ds.length + es.length ≤ 100000 then some (.nx ⟨τ.sl, .lst k (ds ++ es)⟩) else none
    | _ => none)
  | _ => none
section
variable {cl : Nat → Addr} {X : Cx} {x : Str} {e : Expr} {ee : EE} {k : Nat} {pos p p2 apos cpos : Pos}
theorem ds_new (hN : X.N.Nodup) (hi : X.N[k]? = some x := by rfl) (hx : Loc X.env.scope x := by first | exact .inl rfl | exact .inr rfl) (hs : swapsWith (.List [] p2) (some (.Name x p)) pos.line X.env = pure false := by rfl) (hf : X.fn x = true ∨ X.env.scope.names.lookup x = some .local := by first | exact .inl rfl | exact .inr rfl | assumption) :
    DS cl X (.Assign [.Name x p] (.List [] p2) pos) (sNew k) := ps_imp (ps_set hN hi hx (pe_lst pa_nil) hs hf) fun E σ H ⟨F, O, n, τ, r, rl, h, q⟩ => by
  obtain ⟨sl, pm⟩ := τ
  unfold sNew at h
  dsimp only at h
  split at h
  · split at h
    · rename_i hk
      cases h
      refine ⟨Nat.zero_le _, fun a na => ?_⟩
      obtain ⟨e1, r1⟩ := rl.newL na hk
      exact q _ _ _ e1 r1
    · cases h
  · cases h
theorem ds_app (he : PE X (.Name x p) (tVar k)) (ha : DE cl X e ee) (hbase : attributeBase (.Name x p) "append" X.env (eval (.Name x p) X.env) = eval (.Name x p) X.env := by rfl)
    (hfew : ((backTo cpos (starEach [e] X.env)).all (fun x => !x.1) && (backToKw cpos (keywordEach [] X.env)).all (fun x => x.1.isSome)
      && decide ([e].length + ([] : List Keyword).length + (if ([] : List Keyword).isEmpty then 0 else 1) < 30)) = true := by rfl)
    (hline : (apos.endLine == cpos.line) = true := by rfl) (hst : starEach [e] X.env = (false, eval e X.env) :: starEach [] X.env := by rfl) (hplain : (backTo cpos (starEach [] X.env)).any (·.1) = false := by rfl)
    (hs : swapsWith (.Call (.Attribute (.Name x p) "append" apos) [e] [] cpos) none pos.line X.env = pure false := by rfl) :
    DS cl X (.Expr (.Call (.Attribute (.Name x p) "append" apos) [e] [] cpos) pos) (sApp k ee) :=
  ps_imp (ps_expr (pe_bm PySem.F.plainAttrs_list PySem.F.slot_list_append PySem.F.type_list_append mt_append he (pa_cons ha pa_nil hst) hbase hfew hline hst hplain) hs) fun E σ H ⟨F, O, n, τ, r, rl, h, q⟩ => by
  obtain ⟨sl, pm⟩ := τ
  unfold sApp at h
  split at h
  · rename_i d e1
    dsimp only at h
    split at h
    · rename_i j ds
      split at h
      · rename_i hc
        obtain ⟨ej, hlen⟩ := hc
        subst ej
        cases h
        have z := rl.pm
        obtain ⟨a, vs, h1, h2, h3, h4, h5, h6, h7⟩ := z
        refine ⟨_, h1, .inl ⟨rfl, _, SqL.of h5⟩, F, O, n, _, d, rl, e1, fun H1 v x1 hv => ?_⟩
        have rl1 := rl.mono x1
        obtain ⟨e2, r2⟩ := rl1.putL h1 h2 h3 h4 h7 ((h6.mono (hide_ex x1)).append (.cons hv .nil))
        exact ⟨a, vs, v, rfl, rfl, x1 _ _ h5, by rw [h6.length]; exact sz_of hlen, q O σ _ ((hide_ex x1).trans e2) r2⟩
      · cases h
    · cases h
  · cases h
theorem ds_ext (he : PE X (.Name x p) (tVar k)) (ha : DE cl X e ee) (hbase : attributeBase (.Name x p) "extend" X.env (eval (.Name x p) X.env) = eval (.Name x p) X.env := by rfl)
    (hfew : ((backTo cpos (starEach [e] X.env)).all (fun x => !x.1) && (backToKw cpos (keywordEach [] X.env)).all (fun x => x.1.isSome)
      && decide ([e].length + ([] : List Keyword).length + (if ([] : List Keyword).isEmpty then 0 else 1) < 30)) = true := by rfl)
    (hline : (apos.endLine == cpos.line) = true := by rfl) (hst : starEach [e] X.env = (false, eval e X.env) :: starEach [] X.env := by rfl) (hplain : (backTo cpos (starEach [] X.env)).any (·.1) = false := by rfl)
    (hs : swapsWith (.Call (.Attribute (.Name x p) "extend" apos) [e] [] cpos) none pos.line X.env = pure false := by rfl) :
    DS cl X (.Expr (.Call (.Attribute (.Name x p) "extend" apos) [e] [] cpos) pos) (sExt k ee) :=
  ps_imp (ps_expr (pe_bm PySem.F.plainAttrs_list PySem.F.slot_list_extend PySem.F.type_list_extend mt_extend he (pa_cons ha pa_nil hst) hbase hfew hline hst hplain) hs) fun E σ H ⟨F, O, n, τ, r, rl, h, q⟩ => by
  obtain ⟨sl, pm⟩ := τ
  unfold sExt at h
  split at h
  · rename_i es e1
    dsimp only at h
    split at h
    · rename_i j ds
      split at h
      · rename_i hc
        obtain ⟨ej, hlen⟩ := hc
        subst ej
        cases h
        have z := rl.pm
        obtain ⟨a, vs, h1, h2, h3, h4, h5, h6, h7⟩ := z
        refine ⟨_, h1, .inl ⟨rfl, _, SqL.of h5⟩, F, O, n, _, _, rl, e1, fun H1 v x1 hv => ?_⟩
        cases hv with
        | lst hb hr =>
          rename_i b ws
          have rl1 := rl.mono x1
          obtain ⟨e2, r2⟩ := rl1.putL h1 h2 h3 h4 h7 ((h6.mono (hide_ex x1)).append hr)
          exact ⟨a, b, vs, ws, rfl, rfl, x1 _ _ h5, hide_le _ _ hb, by rw [h6.length, hr.length]; exact sz_of hlen, q O σ _ ((hide_ex x1).trans e2) r2⟩
      · cases h
    · cases h
  · cases h
end
end TL

/-! Trees: isinstance, divmod, the walrus, zip, enumerate, own operators -/
namespace TL
open PySem PySem.Spec PyProof.Rows L2 Evl SlX StX C8

/-! ### isinstance -/
def tgD : D → Option Tg
  | .non => some (.ty "NoneType")
  | .bl _ => some (.ty "bool")
  | .int _ => some (.ty "int")
  | .str _ => some (.ty "str")
  | .tup _ => some (.ty "tuple")
  | .lst _ => some (.ty "list")
  | .obj c _ => some (.cl c)
  | .ty _ => none
  | .cls _ => none
  | .any => none
structure IsiF (K : PySem.W.Frag) (cl : Nat → Addr) (tb : Tg → Tg → Option Bool) : Prop where
  ok : ∀ k t b, tb k t = some b → PySem.W.kitOne K (tgV cl t) (tgV cl k) = some b
  own : ∀ k c b, tb k (.cl c) = some b → SCls K (cl c) ∧ SIsi K (cl c)
def fIsi (tb : Tg → Tg → Option Bool) : List D → Option D
  | [x, .ty n] => (match tgD x with
    | some t => (match tb (.ty n) t with
      | some b => some (.bl b)
      | none => none)
    | none => none)
  | [x, .cls c] => (match tgD x with
    | some t => (match tb (.cl c) t with
      | some b => some (.bl b)
      | none => none)
    | none => none)
  | _ => none
theorem cr_or {X : Cx} {f : Value} {r r' : List V → Hp → VK → Prop} (h : CallR X f r) (h' : CallR X f r') : CallR X f (fun vs H Q => r vs H Q ∨ r' vs H Q) := by
  intro pins s σ H xs us Q I r q
  rcases q with q | q
  · exact h pins s σ H xs us Q I r q
  · exact h' pins s σ H xs us Q I r q
def rIsiO (K : PySem.W.Frag) : List V → Hp → VK → Prop := fun xs H Q => ∃ (a C dx : Addr) (vs : List (Option V)) (c : V) (u : Value) (b : Bool), xs = [V.ref a, c] ∧ ClsV c u ∧ Slt H a C dx vs ∧ SCls K C ∧ SIsi K C ∧ PySem.W.kitOne K (.ref C) u = some b ∧ Q (.bl b) H
theorem cr_isiO {X : Cx} : CallR X (.builtin "isinstance") (rIsiO X.K) := by
  intro pins s σ H xs us Q I r h
  obtain ⟨a, C, dx, vs, c, u, b, rfl, hc, h1, h2, h3, h4, q⟩ := h
  refine call_isiSl u pins s σ H _ us Q I r ⟨a, C, dx, vs, c, b, rfl, ?_, fun w rw_ => hc.eq rw_, h1, h2, h3, h4, q⟩
  cases hc with
  | ty n => rfl
  | own C => rfl
section
variable {K : PySem.W.Frag} {cl : Nat → Addr} {O : Addr → Bool} {H : Hp}
theorem tyx_seqT {a : Addr} {vs : List V} (h : SqT K H a vs) : TyX K H (.ref a) (.type "tuple") := by
  rcases h with (h | ⟨o, h⟩) | ⟨o, its, n, h1, h2, _⟩
  · exact .base (.tup h)
  · exact .fTuple h
  · exact .kTuple h1 h2
/-- what is no instance of an own class -/
theorem tyx_of {v : V} {d : D} {n : String} (h : HD K cl (hide O H) v d) (e : tgD d = some (.ty n)) : TyX K H v (.type n) := by
  cases h with
  | non => cases e; exact .base .non
  | bl b => cases e; exact .base (.bl b)
  | int i => cases e; exact .base (.int i)
  | str x => cases e; exact .base (.str x)
  | tup hs hr => cases e; exact tyx_seqT (ex_t hide_le hs)
  | lst hs hr => cases e; exact .base (.lst (hide_le _ _ hs))
  | obj c hs hr => cases e
  | ty n => cases e
  | cls c => cases e
  | any v => cases e
theorem fc_isi {tb : Tg → Tg → Option Bool} (T : IsiF K cl tb) : FDC K cl (fun vs H Q => rIsi K vs H Q ∨ rIsiO K vs H Q) (fIsi tb) := fun O H vs ds d Q ow hv hf q => by
  have fin : ∀ (x : D) (k : Tg) (v c : V) (b : Bool) (t : Tg), HD K cl (hide O H) v x → ClsV c (tgV cl k) → tgD x = some t → tb k t = some b → Q (.bl b) H → rIsi K [v, c] H Q ∨ rIsiO K [v, c] H Q := fun x k v c b t hx hc ht hb hq => by
    cases t with
    | ty n => exact .inl ⟨v, c, _, _, b, rfl, hc, tyx_of hx ht, T.ok _ _ _ hb, hq⟩
    | cl j =>
      obtain ⟨h1, h2⟩ := T.own _ _ _ hb
      cases hx with
      | obj c' hs hr => cases ht; exact .inr ⟨_, _, _, _, c, _, b, rfl, hc, slt_mono hide_le hs, h1, h2, T.ok _ _ _ hb, hq⟩
      | non => cases ht
      | bl b => cases ht
      | int i => cases ht
      | str x => cases ht
      | tup hs hr => cases ht
      | lst hs hr => cases ht
      | ty n => cases ht
      | cls c => cases ht
      | any v => cases ht
  unfold fIsi at hf
  split at hf
  · split at hf
    · split at hf
      · rename_i t ht _ b hb
        cases hf
        obtain ⟨v, w, rfl, h1, h2⟩ := hds_2 hv
        cases h2
        exact fin _ _ v _ b t h1 (.ty _) ht hb (q H _ (Ex.refl H) (.bl b))
      · cases hf
    · cases hf
  · split at hf
    · split at hf
      · rename_i t ht _ b hb
        cases hf
        obtain ⟨v, w, rfl, h1, h2⟩ := hds_2 hv
        cases h2
        exact fin _ _ v _ b t h1 (.own _) ht hb (q H _ (Ex.refl H) (.bl b))
      · cases hf
    · cases hf
  · cases hf
end
theorem cr_isi {X : Cx} : CallR X (.builtin "isinstance") (fun vs H Q => rIsi X.K vs H Q ∨ rIsiO X.K vs H Q) := cr_or call_isi cr_isiO
theorem d_bty {cl : Nat → Addr} {X : Cx} {x : Str} {n : String} {pos : Pos} (hm : X.mg x = none) (hg : Gl X x := by rfl) (hv : bootBuiltins x = some (.type n) := by decide +kernel) (hn : x ≠ "__name__" := by decide) (hd : (x == ("__debug__" : Str)) = false := by decide) : DE cl X (.Name x pos) (eC (.ty n)) :=
  d_c (pe_bltn (v := .ty n) hg hm hv rfl hn hd) fun _ => .ty n

/-! ### divmod -/
def fDivmod : List D → Option D
  | [.int i, .int j] => if 0 < j ∧ j < 1073741824 then some (.tup [.int (i / j), .int (i % j)]) else none
  | _ => none
theorem fc_divmod {K : PySem.W.Frag} {cl : Nat → Addr} : FDC K cl (fun xs H Q => ∃ i j, xs = [.int i, .int j] ∧ CDiv i j ∧ ∀ p, H p = none → Q (.ref p) (upd H p (.tup [.int (i / j), .int (i % j)]))) fDivmod := fun O H vs ds d Q ow hv hf q => by
  unfold fDivmod at hf
  split at hf
  · split at hf
    · rename_i hc
      cases hf
      obtain ⟨v, w, rfl, h1, h2⟩ := hds_2 hv
      exact ⟨_, _, by rw [hd_int h1, hd_int h2], hc, new_tup ow (.cons (.int _) (.cons (.int _) .nil)) q⟩
    · cases hf
  · cases hf

/-! ### while (x := e) is not None -/
def whileN (i : Nat) (ee : EE) (body : ES) (n : Nat) : Nat → Sta → Option Out
  | 0, _ => none
  | k + 1, τ => match ee n τ with
    | some d => (match isN d with
      | some b => if τ.pm.free i = true then (match b with
        | true => some (.nx { τ with sl := τ.sl.set i (some d) })
        | false => (match body n { τ with sl := τ.sl.set i (some d) } with
          | some (.nx τ2) => whileN i ee body n k τ2
          | some (.ct τ2) => whileN i ee body n k τ2
          | some (.bk τ2) => some (.nx τ2)
          | some (.rt d) => some (.rt d)
          | none => none)) else none
      | none => none)
    | none => none
def sWhileN (i : Nat) (ee : EE) (body : ES) : ES := fun n τ => whileN i ee body n n τ
section
variable {cl : Nat → Addr} {X : Cx} {x : Str} {e : Expr} {b : List Stmt} {ee : EE} {es : ES} {i : Nat} {p p2 p3 p4 pos : Pos} {j : Nat}
theorem ds_whileN (hp : PassesOwn (model X.prog X.w) X.A X.env X.xe) (hN : X.N.Nodup) (he : DE cl X e ee) (hb : DSs cl X b es) (hi : X.N[i]? = some x := by rfl) (hx : Loc X.env.scope x := by first | exact .inl rfl | exact .inr rfl)
    (hf : X.fn x = true ∨ X.env.scope.names.lookup x = some .local := by first | exact .inl rfl | exact .inr rfl | assumption) :
    DS cl X (.While (.Compare (.NamedExpr (.Name x p) e p2) [.IsNot] [.Constant .none j p3] p4) b [] pos) (sWhileN i ee es) :=
  ps_imp (ps_whileW hp (ptw_cmp op_notN (pew_named hN hi hx (pew_of he) hf) pe_non (nomark _)) hb pss_nil) fun E σ H ⟨F, O, n, τ, r, rl, h, q⟩ => by
  unfold sWhileN at h
  refine ⟨fun m σ H => ∃ O' τ', Rel X.K cl F O' σ H τ' ∧ whileN i ee es n m τ' = some r ∧ Post X.K cl F O' H E r, ⟨n, O, τ, rl, h, q⟩, ?_⟩
  rintro m σ2 H2 ⟨O2, τ2, rl2, h2, q2⟩
  cases m with
  | zero => cases h2
  | succ m =>
    rw [whileN] at h2
    split at h2
    · rename_i d e1
      split at h2
      · rename_i bb e2
        split at h2
        · rename_i hfr
          refine ⟨F, O2, n, τ2, d, rl2, e1, fun H3 v x3 hv => ?_⟩
          have rl3 := (rl2.mono x3).set hfr hv
          refine ⟨rfl, _, rfl, ?_⟩
          have hdec := hd_non hv e2
          rw [hdec]
          cases bb with
          | true =>
            refine iteF ?_
            cases h2
            exact q2 O2 _ H3 (hide_ex x3) rl3
          | false =>
            refine iteT ?_
            refine ⟨fun σ' H' => ∃ O' τ', Rel X.K cl F O' σ' H' τ' ∧ whileN i ee es n m τ' = some r ∧ Post X.K cl F O' H' E r, fun σ' H' w => ⟨m, Nat.lt_succ_self m, w⟩, ?_⟩
            dsimp only at h2
            split at h2
            · rename_i τ4 e4
              exact ⟨F, O2, n, _, _, rl3, e4, fun O' σ' H' x rl' => ⟨O', τ4, rl', h2, (q2.trans (hide_ex x3)).trans x⟩⟩
            · rename_i τ4 e4
              exact ⟨F, O2, n, _, _, rl3, e4, fun O' σ' H' x rl' => ⟨O', τ4, rl', h2, (q2.trans (hide_ex x3)).trans x⟩⟩
            · rename_i τ4 e4
              cases h2
              exact ⟨F, O2, n, _, _, rl3, e4, q2.trans (hide_ex x3)⟩
            · rename_i d4 e4
              cases h2
              exact ⟨F, O2, n, _, _, rl3, e4, q2⟩
            · cases h2
        · cases h2
      · cases h2
    · cases h2
end

/-! ### a, k = e, [] -/
section
variable {cl : Nat → Addr} {X : Cx} {x y : Str} {e : Expr} {ee : EE} {i k : Nat} {p1 p2 p3 p4 p5 pos : Pos} {kt k2 : Nat}
theorem ds_parNew (hc : X.calm = true) (hN : X.N.Nodup) (he : DE cl X e ee) (hi : X.N[i]? = some x := by rfl) (hk : X.N[k]? = some y := by rfl) (hx : Loc X.env.scope x := by first | exact .inl rfl | exact .inr rfl) (hy : Loc X.env.scope y := by first | exact .inl rfl | exact .inr rfl)
    (hf : X.fn x = true ∨ X.env.scope.names.lookup x = some .local := by first | exact .inl rfl | exact .inr rfl | assumption) (hf2 : X.fn y = true ∨ X.env.scope.names.lookup y = some .local := by first | exact .inl rfl | exact .inr rfl | assumption)
    (hst : starEach [e, .List [] p3] X.env = (false, eval e X.env) :: starEach [.List [] p3] X.env := by rfl)
    (hs : swapsWithSole [.Tuple [.Name x p1, .Name y p2] kt p4] (.Tuple [e, .List [] p3] k2 p5) pos.line X.env = pure false := by rfl) (hw : swappedStores [.Tuple [.Name x p1, .Name y p2] kt p4] (.Tuple [e, .List [] p3] k2 p5) X.env = pure none := by rfl)
    (h1 : (assignEach [.Tuple [.Name x p1, .Name y p2] kt p4] X.env).map (·.2) = [assign (.Tuple [.Name x p1, .Name y p2] kt p4) X.env] := by rfl) :
    DS cl X (.Assign [.Tuple [.Name x p1, .Name y p2] kt p4] (.Tuple [e, .List [] p3] k2 p5) pos) (sParNew i k ee) :=
  ps_imp (ps_asg (pe_tup (pa_cons he (pa_cons (pe_lst pa_nil) pa_nil) hst)) (pg_tup hc (pgs_cons (pg_name hN hi hx hf) (pgs_cons (pg_name hN hk hy hf2) pgs_nil))) hs hw h1) fun E σ H ⟨F, O, n, τ, r, rl, h, q⟩ => by
  obtain ⟨sl, pm⟩ := τ
  unfold sParNew at h
  split at h
  · rename_i d e1
    dsimp only at h
    split at h
    · split at h
      · rename_i hc
        obtain ⟨hk, hik⟩ := hc
        cases h
        refine ⟨F, O, n, _, d, rl, e1, fun H1 v x1 hv => ⟨Nat.zero_le _, fun a na => ?_⟩⟩
        have rl1 := rl.mono x1
        obtain ⟨e2, r2⟩ := rl1.newL na hk
        refine ⟨sz_of (by show 2 ≤ 100000; decide), fun t nt => ?_⟩
        have e3 : Ex (upd H1 a (.lst [])) (upd (upd H1 a (.lst [])) t (.tup [v, .ref a])) := Ex.new nt
        have r3 := r2.mono e3
        refine ⟨t, _, rfl, .inl (.inl upd_same), rfl, v, _, rfl, .ref a, [], rfl, rfl, ?_⟩
        have hv3 := (hv.mono e2).mono (hide_ex e3)
        have r4 := r3.set (i := i) (d := d) (v := v) (by simp [PM.free]; exact fun z => hik z.symm) hv3
        have es : (σ.set i (some v)).set k (some (.ref a)) = (σ.set k (some (.ref a))).set i (some v) := List.set_comm _ _ hik
        show E.nx ((σ.set i (some v)).set k (some (.ref a))) _
        rw [es]
        exact q _ _ _ (((hide_ex x1).trans e2).trans (hide_ex e3)) r4
      · cases h
    · cases h
  · cases h
end

/-! ### own operators -/
section
variable {X : Cx} {C g : Addr} {k : Nat} {sp : Sp}
def rBinO (K : PySem.W.Frag) (C : Addr) (sp : Sp) : R2 := fun x y H Q => ∃ a dx vs b dy ws, x = .ref a ∧ y = .ref b ∧ Slt H a C dx vs ∧ Slt H b C dy ws ∧ sp [x, y] H Q L2.E0
theorem op_binO {op : Operator} (hc : PySem.W.selfFirst X.K C = true) (hs : PySem.W.findIn X.K (.ref C) (PySem.dunder op.info.2) = some (some (.ref g))) (hf : PySem.W.isFn X.K (.ref g) = true) (F : FnR X.prog X.w X.K X.mg X.base L2.CX0 k g sp)
    (hr : Room k X.A) : OpR X (binaryOp op) (rBinO X.K C sp) := by
  intro pins s σ H x y v u Q I rx ry h
  obtain ⟨a, dx, vs, b, dy, ws, rfl, rfl, ha, hb, q⟩ := h
  cases (show v = Value.ref a from rx)
  cases (show u = Value.ref b from ry)
  obtain ⟨sl, od, _, J, _⟩ := slt_inst I ha
  obtain ⟨sl', od', _, J', _⟩ := slt_inst I hb
  obtain ⟨m, hF⟩ := I.fr
  refine PySem.W.binop_K (op := op) hF I.ok.mod.kin J J'.type hc hs hf ?_
  refine wpAny_mono (wpAny_call (run_fnR (us := [.ref a, .ref b]) (vs := [.ref a, .ref b]) F hr L2.pass0 I (.cons rfl (.cons rfl .nil)) q)) (fun w s' z => ?_) fun _ _ x => x
  obtain ⟨z', H', I', rz, qz⟩ := z
  exact cmpback rz ⟨z', H', I', rz, qz⟩
def rNegO (K : PySem.W.Frag) (C : Addr) (sp : Sp) : V → Hp → VK → Prop := fun x H Q => ∃ a dx vs, x = .ref a ∧ Slt H a C dx vs ∧ sp [x] H Q L2.E0
theorem un_negO (hs : PySem.W.findIn X.K (.ref C) "__neg__" = some (some (.ref g))) (hf : PySem.W.isFn X.K (.ref g) = true) (F : FnR X.prog X.w X.K X.mg X.base L2.CX0 k g sp) (hr : Room k X.A) : UnR X (unaryOp .USub) (rNegO X.K C sp) := by
  intro pins s σ H x v Q I rx h
  obtain ⟨a, dx, vs, rfl, ha, q⟩ := h
  cases (show v = Value.ref a from rx)
  obtain ⟨sl, od, _, J, _⟩ := slt_inst I ha
  obtain ⟨m, hF⟩ := I.fr
  exact PySem.W.ksp_neg hF I.ok.mod.kin J hs hf (wpAny_call (run_fnR (us := [.ref a]) (vs := [.ref a]) F hr L2.pass0 I (.cons rfl .nil) q))
/-- x in o, o of an own class whose __contains__ gives a bool -/
def rInO (K : PySem.W.Frag) (C : Addr) (sp : Sp) (g : Bool → Bool) : R2 := fun y x H Q => ∃ a dx vs, x = .ref a ∧ Slt H a C dx vs ∧ sp [x, y] H (fun z H' => ∃ b, z = .bl b ∧ Q (.bl (g b)) H') L2.E0
theorem op_inO (hs : PySem.W.findIn X.K (.ref C) "__contains__" = some (some (.ref g))) (hf : PySem.W.isFn X.K (.ref g) = true) (F : FnR X.prog X.w X.K X.mg X.base L2.CX0 k g sp) (hr : Room k X.A) : OpR X (compareOp .In) (rInO X.K C sp id) := by
  intro pins s σ H y x u v Q I ry rx h
  obtain ⟨a, dx, vs, rfl, ha, q⟩ := h
  cases (show v = Value.ref a from rx)
  obtain ⟨sl, od, _, J, _⟩ := slt_inst I ha
  obtain ⟨m, hF⟩ := I.fr
  refine PySem.W.in_K hF I.ok.mod.kin J hs hf (wpAny_mono (wpAny_call (run_fnR (us := [.ref a, u]) (vs := [.ref a, y]) F hr L2.pass0 I (.cons rfl (.cons ry .nil)) q)) (fun w s' z => ?_) fun _ _ x => x)
  obtain ⟨z', H', I', rz, b, rfl, qz⟩ := z
  cases (show w = Value.bool b from rz)
  exact wpAny_truthy_bool ⟨.bl b, H', I', rfl, qz⟩
theorem op_notInO (hs : PySem.W.findIn X.K (.ref C) "__contains__" = some (some (.ref g))) (hf : PySem.W.isFn X.K (.ref g) = true) (F : FnR X.prog X.w X.K X.mg X.base L2.CX0 k g sp) (hr : Room k X.A) : OpR X (compareOp .NotIn) (rInO X.K C sp not) := by
  intro pins s σ H y x u v Q I ry rx h
  obtain ⟨a, dx, vs, rfl, ha, q⟩ := h
  cases (show v = Value.ref a from rx)
  obtain ⟨sl, od, _, J, _⟩ := slt_inst I ha
  obtain ⟨m, hF⟩ := I.fr
  refine PySem.W.notIn_K hF I.ok.mod.kin J hs hf (wpAny_mono (wpAny_call (run_fnR (us := [.ref a, u]) (vs := [.ref a, y]) F hr L2.pass0 I (.cons rfl (.cons ry .nil)) q)) (fun w s' z => ?_) fun _ _ x => x)
  obtain ⟨z', H', I', rz, b, rfl, qz⟩ := z
  cases (show w = Value.bool b from rz)
  exact wpAny_truthy_bool ⟨.bl (!b), H', I', rfl, qz⟩
end
end TL

/-! Trees: == and != by an own __eq__; rules that hand the fuel on; zip and enumerate; short words -/
namespace TL
open PySem PySem.Spec PyProof.Rows L2 Evl SlX StX C8

/-! ### != by an own __eq__, at the library's level -/
section
variable {prog : Program} {w : World} {A : Around} {E : Value → Shared → Prop} {s : Shared} {K : PySem.W.Frag} {x C L f : Addr} {h₀ : Heap} {m : Str → Option Value} {ox : Obj} {od : Option Obj} {name : Str} {b tb : Value}
theorem bound_blt {M : Model} {id : String} {args : List Value} {Q : Option Value → Shared → Prop} (X : K.In s.heap) (I : PySem.W.InstAt s.heap x ox C od) (hs : PySem.W.findIn K (.ref C) name = some (some (.builtin id))) (hb : ∀ self, bindSpecial (.builtin id) self = pure (.builtin id, [self]))
    (h : wpAny M A (call (.builtin id) (.ref x :: args)) (fun v => Q (some v)) E s) : wpAny M A (callSpecialIfBound? (.ref x) name args) Q E s := by
  simp only [callSpecialIfBound?, bindSpecialIfBound?, hb]
  refine wpAny_holding (wpAny_bind (wpAny_bind (wpAny_bind (I.type.here ((PySem.W.looks_findIn X hs).here ?_)))))
  simp only [hb]
  refine wpAny_bind (wpAny_askSetting (wpAny_ite ?_))
  have fin : wpAny M A (call (.builtin id) ([Value.ref x] ++ args) >>= fun v => pure (some v)) Q E s := wpAny_bind (wpAny_mono h (fun v s' h' => wpAny_pure h') fun _ _ h' => h')
  split
  · exact wpAny_bind (wpAny_pure (wpAny_pure fin))
  · exact wpAny_tryCatch (wpAny_bind (wpAny_pure (wpAny_pure fin)))
theorem ne_check {M : Model} {Q : Unit → Shared → Prop} (X : K.In s.heap) (I : PySem.W.InstAt s.heap x ox C od) (hsub : PySem.W.subIn K (.ref C) (.type "object") = some true) (q : Q () s) :
    wpAny M A (checkBuiltinCall "object.__ne__" ⟨[.ref x, b], []⟩) Q E s := by
  simp only [checkBuiltinCall, PySem.F.cmpKind_ne, PySem.F.cmpSplit_ne]
  refine wpAny_bind ?_
  unfold isInstance
  refine wpAny_bind (I.type.here ?_)
  refine (PySem.W.looks_subIn X hsub).here ?_
  cases hsig : Manifest.signature? "object.__ne__" with
  | none => exact wpAny_pure q
  | some sig =>
    have ha := PySem.F.cmpArgs_ne (.ref x) b
    simp only [argsOk, hsig] at ha
    have h2 : Bind.checkArgs "object.__ne__" sig ⟨[.ref x, b], []⟩ = pure () := ha
    show wpAny M A (Bind.checkArgs "object.__ne__" sig ⟨[.ref x, b], []⟩) Q E _
    rw [h2]
    exact wpAny_pure q
theorem ne_body (hu : A.units < cLine) (X : K.In s.heap) (I : PySem.W.InstAt s.heap x ox C od) (hs : PySem.W.findIn K (.ref C) "__eq__" = some (some (.ref f))) (hf : PySem.W.isFn K (.ref f) = true) {Q : Fin → Shared → Prop}
    (h : wpAny (model prog w) A (call (.ref f) [.ref x, b]) (fun v s' => ∃ c, v = .bool c ∧ Q (.done (.ret (.bool (!c)))) s') E s) : wpAny (model prog w) A (Builtin.«object.__ne__» ⟨[.ref x, b], []⟩) Q E s := by
  unfold Builtin.«object.__ne__»
  repeat (first
    | with_reducible refine wpAny_cRoomFor hu ?_
    | (refine wpAny_bind (m := callSpecialIfBound? (.ref x) (Str.ofString "__eq__") [b])
        (PySem.W.ifBound_K X I hs hf (wpAny_mono h (fun r s' hr => by
          obtain ⟨c, rfl, hq⟩ := hr
          repeat (first | exact hq | exact wpAny_pure hq | exact wpAny_truthy_bool hq | (refine wpAny_bind (m := truthy (.bool _)) (wpAny_truthy_bool ?_)) | wp_step)) fun _ _ e => e)))
    | wp_step)
theorem ne_own {Q : Value → Shared → Prop} (hu : A.units + 1 < cLine) (F : PyProof.Rows.Fr h₀ L s.heap m) (X₀ : K.In h₀) (I : PySem.W.InstAt s.heap x ox C od) (hb : PySem.W.Looks (model prog w) s.heap (typeOf b) tb) (hn : PySem.W.notFirst K C tb = true)
    (hne : PySem.W.findIn K (.ref C) "__ne__" = some (some (.builtin "object.__ne__"))) (hsub : PySem.W.subIn K (.ref C) (.type "object") = some true) (hs : PySem.W.findIn K (.ref C) "__eq__" = some (some (.ref f))) (hf : PySem.W.isFn K (.ref f) = true)
    (h : wpAny (model prog w) A.in1 (call (.ref f) [.ref x, b]) (fun v s' => ∃ c, v = .bool c ∧ Q (.bool (!c)) s') E s) : wpAny (model prog w) A (richCompare .NotEq (.ref x) b) Q E s := by
  have X := X₀.keeps F.keep
  have one : wpAny (model prog w) A (tryCompare (.ref x) "__ne__" b) (fun r s' => ∃ v, r = some v ∧ Q v s') E s := by
    unfold tryCompare
    refine wpAny_bind (bound_blt X I hne PySem.F.cmp_object.ne.bind (wpAny_call (codeAny_call_builtin PySem.F.cmp_object.ne.plain PySem.F.cmpEntry_ne (ne_check X I hsub
      (ne_body (A := A.in1) hu X I hs hf (wpAny_mono h (fun v s' hv => ?_) fun _ _ e => e))))))
    obtain ⟨c, rfl, hq⟩ := hv
    exact ⟨c, rfl, wpAny_pure ⟨_, rfl, hq⟩⟩
  unfold richCompare
  simp only [oneThing_ref]
  refine wpAny_holding (wpAny_bind (wpAny_cRoomFor (Nat.lt_of_succ_lt hu) ?_))
  rw [cmpInfo_NotEq]
  refine wpAny_bind (I.type.here (wpAny_bind (hb.here ?_)))
  split
  · rename_i q
    have e : PySem.W.subIn K tb (.ref C) = some false := by
      rcases Bool.or_eq_true_iff.mp hn with e | e
      · rw [beq_iff_eq.mp e] at q; simp at q
      · exact beq_iff_eq.mp e
    refine wpAny_bind ((PySem.W.looks_subIn X e).here ?_)
    simp only [Bool.false_eq_true, if_false]
    refine wpAny_bind (wpAny_mono one (fun r s' z => ?_) fun _ _ e => e)
    obtain ⟨v, rfl, hq⟩ := z
    exact wpAny_pure hq
  · refine wpAny_bind (wpAny_pure ?_)
    simp only [Bool.false_eq_true, if_false]
    refine wpAny_bind (wpAny_mono one (fun r s' z => ?_) fun _ _ e => e)
    obtain ⟨v, rfl, hq⟩ := z
    exact wpAny_pure hq
end

/-! ### own == and != over the layer -/
section
variable {X : Cx} {C g : Addr} {k : Nat} {sp : Sp}
def TyB (H : Hp) (y : V) (tb : Value) : Prop := (∃ i, y = .int i ∧ tb = .type "int") ∨ ∃ b C' dy ws, y = .ref b ∧ Slt H b C' dy ws ∧ tb = .ref C'
theorem tyB_looks {pins : List (Addr × Obj)} {σ : L2.St} {H : Hp} {s : Shared} {y : V} {u tb : Value} (I : Inv X pins σ H s) (h : TyB H y tb) (r : RelV y u) : PySem.W.Looks (model X.prog X.w) s.heap (typeOf u) tb := by
  rcases h with ⟨i, rfl, rfl⟩ | ⟨b, C', dy, ws, rfl, hb, rfl⟩
  · obtain ⟨t, rfl⟩ := (show ∃ t, u = Value.int i t from r)
    exact PySem.W.Looks.of_pure rfl
  · cases (show u = Value.ref b from r)
    obtain ⟨sl', od', _, J', _⟩ := slt_inst I hb
    exact J'.type
def rEqO (K : PySem.W.Frag) (C : Addr) (sp : Sp) : R2 := fun x y H Q => ∃ a dx vs tb, x = .ref a ∧ Slt H a C dx vs ∧ TyB H y tb ∧ PySem.W.notFirst K C tb = true ∧ sp [x, y] H Q L2.E0
def rNeO (K : PySem.W.Frag) (C : Addr) (sp : Sp) : R2 := fun x y H Q => ∃ a dx vs tb, x = .ref a ∧ Slt H a C dx vs ∧ TyB H y tb ∧ PySem.W.notFirst K C tb = true ∧ sp [x, y] H (fun z H' => ∃ b, z = .bl b ∧ Q (.bl (!b)) H') L2.E0
theorem op_eqO (hs : PySem.W.findIn X.K (.ref C) "__eq__" = some (some (.ref g))) (hf : PySem.W.isFn X.K (.ref g) = true) (F : FnR X.prog X.w X.K X.mg X.base L2.CX0 k g sp) (hr : Room k X.A) : OpR X (compareOp .Eq) (rEqO X.K C sp) := by
  intro pins s σ H x y v u Q I rx ry h
  obtain ⟨a, dx, vs, tb, rfl, ha, ht, hn, q⟩ := h
  cases (show v = Value.ref a from rx)
  obtain ⟨sl, od, _, J, _⟩ := slt_inst I ha
  obtain ⟨m, hF⟩ := I.fr
  show wpAny _ _ (richCompare .Eq (.ref a) u) _ _ _
  refine PySem.W.cmp_K (op := .Eq) (tb := tb) hr.units0 hF I.ok.mod.kin J (tyB_looks I ht ry) hn hs hf ?_
  refine wpAny_mono (wpAny_call (run_fnR (us := [.ref a, u]) (vs := [.ref a, y]) F hr L2.pass0 I (.cons rfl (.cons ry .nil)) q)) (fun w s' z => ?_) fun _ _ x => x
  obtain ⟨z', H', I', rz, qz⟩ := z
  exact cmpback rz ⟨z', H', I', rz, qz⟩
theorem op_neO (hs : PySem.W.findIn X.K (.ref C) "__eq__" = some (some (.ref g))) (hne : PySem.W.findIn X.K (.ref C) "__ne__" = some (some (.builtin "object.__ne__"))) (hsub : PySem.W.subIn X.K (.ref C) (.type "object") = some true) (hf : PySem.W.isFn X.K (.ref g) = true)
    (F : FnR X.prog X.w X.K X.mg X.base L2.CX0 k g sp) (hr : Room (k + 1) X.A) : OpR X (compareOp .NotEq) (rNeO X.K C sp) := by
  intro pins s σ H x y v u Q I rx ry h
  obtain ⟨a, dx, vs, tb, rfl, ha, ht, hn, q⟩ := h
  cases (show v = Value.ref a from rx)
  obtain ⟨sl, od, _, J, _⟩ := slt_inst I ha
  obtain ⟨m, hF⟩ := I.fr
  show wpAny _ _ (richCompare .NotEq (.ref a) u) _ _ _
  refine ne_own (tb := tb) (by have := hr.un; omega) hF I.ok.mod.kin J (tyB_looks I ht ry) hn hne hsub hs hf ?_
  refine wpAny_mono (wpAny_call (run_at (us := [.ref a, u]) (ws := [.ref a, y]) F hr.in1 I.env0.in1 L2.pass0 I (.cons rfl (.cons ry .nil)) q)) (fun w s' z => ?_) fun _ _ x => x
  obtain ⟨z', H', I', rz, b, rfl, qz⟩ := z
  cases (show w = Value.bool b from rz)
  exact ⟨b, rfl, .bl (!b), H', I', rfl, qz⟩
end

/-! ### the fuel handed on -/
def eBinN (f : Nat → D → D → Option D) (ea eb : EE) : EE := fun n τ => eBin (f n) ea eb n τ
def eUnN (f : Nat → D → Option D) (ea : EE) : EE := fun n τ => eUn (f n) ea n τ
section
variable {cl : Nat → Addr} {X : Cx} {a b : Expr} {ea eb : EE} {pos : Pos}
theorem d_opN {op : Operator} {r : R2} {f : Nat → D → D → Option D} (ho : OpR X (binaryOp op) r) (hf : ∀ n, FD2 X.K cl r (f n)) (ha : DE cl X a ea) (hb : DE cl X b eb) : DE cl X (.BinOp a op b pos) (eBinN f ea eb) :=
  pe_imp (pe_op ho ha hb) fun _ _ _ ⟨F, O, n, τ, d, rl, he, q⟩ => sound2 (hf n) ⟨F, O, n, τ, d, rl, he, q⟩
theorem d_unN {op : UnaryOp} {r : V → Hp → VK → Prop} {f : Nat → D → Option D} (ho : UnR X (unaryOp op) r) (hf : ∀ n, FD1 X.K cl r (f n)) (ha : DE cl X a ea) : DE cl X (.UnaryOp op a pos) (eUnN f ea) :=
  pe_imp (pe_un ho ha) fun _ _ _ ⟨F, O, n, τ, d, rl, he, q⟩ => sound1 (hf n) ⟨F, O, n, τ, d, rl, he, q⟩
theorem d_cmpN {op : CmpOp} {r : R2} {f : Nat → D → D → Option D} (ho : OpR X (compareOp op) r) (hf : ∀ n, FD2 X.K cl r (f n)) (ha : DE cl X a ea) (hb : DE cl X b eb) (hm : behindInMarks op b = false := by first | exact nomark _ | rfl) : DE cl X (.Compare a [op] [b] pos) (eBinN f ea eb) :=
  pe_imp (pe_cmpR ho ha hb hm) fun _ _ _ ⟨F, O, n, τ, d, rl, he, q⟩ => sound2 (hf n) ⟨F, O, n, τ, d, rl, he, q⟩
theorem dt_cmpN {op : CmpOp} {r : R2} {f : Nat → D → D → Option D} (ho : OpR X (compareOp op) r) (hf : ∀ n, FD2 X.K cl r (f n)) (ha : DE cl X a ea) (hb : DE cl X b eb) (hm : behindInMarks op b = false := by first | exact nomark _ | rfl) : DT cl X (.Compare a [op] [b] pos) (bOf (eBinN f ea eb)) :=
  pt_imp (pt_cmpR ho ha hb hm) fun σ H Q h => by
  obtain ⟨F, O, n, τ, d, rl, he, q⟩ := tT_of h
  exact sound2 (hf n) ⟨F, O, n, τ, d, rl, he, q⟩
end

/-! ### own operators by mirrors -/
def fOwn2 (c : Nat) (m : Nat → List D → Option D) (n : Nat) (a b : D) : Option D := match a, b with
  | .obj c1 ds, .obj c2 es => if c1 = c ∧ c2 = c then m n [.obj c1 ds, .obj c2 es] else none
  | _, _ => none
def fOwn1 (c : Nat) (m : Nat → List D → Option D) (n : Nat) (a : D) : Option D := match a with
  | .obj c1 ds => if c1 = c then m n [.obj c1 ds] else none
  | _ => none
def fInO (c : Nat) (m : Nat → List D → Option D) (g : Bool → Bool) (n : Nat) (y x : D) : Option D := match x with
  | .obj c1 ds => if c1 = c then (match m n [.obj c1 ds, y] with
    | some (.bl b) => some (.bl (g b))
    | _ => none) else none
  | _ => none
def okT (tb : Nat → Tg → Bool) (c : Nat) (b : D) : Bool := match tgD b with
  | some t => tb c t
  | none => false
/-- these right operands of an own == come behind -/
structure NfF (K : PySem.W.Frag) (cl : Nat → Addr) (tb : Nat → Tg → Bool) : Prop where
  ok : ∀ c t, tb c t = true → PySem.W.notFirst K (cl c) (tgV cl t) = true ∧ ((∃ j, t = .cl j) ∨ t = .ty "int")
def fEqO (c : Nat) (tb : Nat → Tg → Bool) (m : Nat → List D → Option D) (n : Nat) (a b : D) : Option D := match a with
  | .obj c1 ds => if c1 = c ∧ okT tb c b = true then m n [.obj c1 ds, b] else none
  | _ => none
def fNeO (c : Nat) (tb : Nat → Tg → Bool) (m : Nat → List D → Option D) (n : Nat) (a b : D) : Option D := match a with
  | .obj c1 ds => if c1 = c ∧ okT tb c b = true then (match m n [.obj c1 ds, b] with
    | some (.bl k) => some (.bl (!k))
    | _ => none) else none
  | _ => none
section
variable {K : PySem.W.Frag} {cl : Nat → Addr} {c : Nat} {m : Nat → List D → Option D}
theorem fd_binO (n : Nat) : FD2 K cl (rBinO K (cl c) (spD K cl m)) (fOwn2 c m n) := fun O H x y a b d Q ow hx hy hf q => by
  unfold fOwn2 at hf
  split at hf
  · split at hf
    · rename_i hc
      obtain ⟨h1, h2⟩ := hc
      subst h1
      subst h2
      have hx' := hx
      have hy' := hy
      cases hx with
      | obj _ hs hr =>
        cases hy with
        | obj _ hs' hr' => exact ⟨_, _, _, _, _, _, rfl, rfl, slt_mono hide_le hs, slt_mono hide_le hs', O, n, _, d, ow, .cons hx' (.cons hy' .nil), hf, q⟩
    · cases hf
  · cases hf
theorem fd_negO (n : Nat) : FD1 K cl (rNegO K (cl c) (spD K cl m)) (fOwn1 c m n) := fun O H x a d Q ow hx hf q => by
  unfold fOwn1 at hf
  split at hf
  · split at hf
    · rename_i hc
      subst hc
      have hx' := hx
      cases hx with
      | obj _ hs hr => exact ⟨_, _, _, rfl, slt_mono hide_le hs, O, n, _, d, ow, .cons hx' .nil, hf, q⟩
    · cases hf
  · cases hf
theorem fd_inO {g : Bool → Bool} (n : Nat) : FD2 K cl (rInO K (cl c) (spD K cl m) g) (fInO c m g n) := fun O H y x b a d Q ow hy hx hf q => by
  unfold fInO at hf
  split at hf
  · split at hf
    · rename_i hc
      subst hc
      split at hf
      · rename_i k hk
        cases hf
        have hx' := hx
        cases hx with
        | obj _ hs hr => exact ⟨_, _, _, rfl, slt_mono hide_le hs, O, n, _, _, ow, .cons hx' (.cons hy .nil), hk, fun H' v e hv => ⟨k, hd_bl hv, q H' _ e (.bl _)⟩⟩
      · cases hf
    · cases hf
  · cases hf
theorem tyB_of {tb : Nat → Tg → Bool} (T : NfF K cl tb) {O : Addr → Bool} {H : Hp} {y : V} {b : D} (hy : HD K cl (hide O H) y b) (h : okT tb c b = true) : ∃ t, TyB H y t ∧ PySem.W.notFirst K (cl c) t = true := by
  unfold okT at h
  split at h
  · rename_i t ht
    obtain ⟨h1, h2⟩ := T.ok c t h
    refine ⟨_, ?_, h1⟩
    rcases h2 with ⟨j, rfl⟩ | rfl
    · cases hy with
      | obj c' hs hr => cases ht; exact .inr ⟨_, _, _, _, rfl, slt_mono hide_le hs, rfl⟩
      | non => cases ht
      | bl b => cases ht
      | int i => cases ht
      | str x => cases ht
      | tup hs hr => cases ht
      | lst hs hr => cases ht
      | ty n => cases ht
      | cls c => cases ht
      | any v => cases ht
    · cases hy with
      | int i => exact .inl ⟨i, rfl, rfl⟩
      | obj c' hs hr => cases ht
      | non => simp [tgD] at ht
      | bl b => simp [tgD] at ht
      | str x => simp [tgD] at ht
      | tup hs hr => simp [tgD] at ht
      | lst hs hr => simp [tgD] at ht
      | ty n => cases ht
      | cls c => cases ht
      | any v => cases ht
  · cases h
theorem fd_eqO {tb : Nat → Tg → Bool} (T : NfF K cl tb) (n : Nat) : FD2 K cl (rEqO K (cl c) (spD K cl m)) (fEqO c tb m n) := fun O H x y a b d Q ow hx hy hf q => by
  unfold fEqO at hf
  split at hf
  · split at hf
    · rename_i hc
      obtain ⟨h1, h2⟩ := hc
      subst h1
      obtain ⟨t, h3, h4⟩ := tyB_of T hy h2
      have hx' := hx
      cases hx with
      | obj _ hs hr => exact ⟨_, _, _, t, rfl, slt_mono hide_le hs, h3, h4, O, n, _, d, ow, .cons hx' (.cons hy .nil), hf, q⟩
    · cases hf
  · cases hf
theorem fd_neO {tb : Nat → Tg → Bool} (T : NfF K cl tb) (n : Nat) : FD2 K cl (rNeO K (cl c) (spD K cl m)) (fNeO c tb m n) := fun O H x y a b d Q ow hx hy hf q => by
  unfold fNeO at hf
  split at hf
  · split at hf
    · rename_i hc
      obtain ⟨h1, h2⟩ := hc
      subst h1
      split at hf
      · rename_i k hk
        cases hf
        obtain ⟨t, h3, h4⟩ := tyB_of T hy h2
        have hx' := hx
        cases hx with
        | obj _ hs hr => exact ⟨_, _, _, t, rfl, slt_mono hide_le hs, h3, h4, O, n, _, _, ow, .cons hx' (.cons hy .nil), hk, fun H' v e hv => ⟨k, hd_bl hv, q H' _ e (.bl _)⟩⟩
      · cases hf
    · cases hf
  · cases hf
end

/-! ### short words -/
theorem gname (i : Nat) {X : Cx} {x : Str} {pos : Pos} (hN : X.N.Nodup) (hi : X.N[i]? = some x := by rfl) (hx : Loc X.env.scope x := by first | exact .inl rfl | exact .inr rfl) (hf : X.fn x = true ∨ X.env.scope.names.lookup x = some .local := by first | exact .inl rfl | exact .inr rfl | assumption) : PG X (.Name x pos) (gName i) := pg_name hN hi hx hf
section
variable {cl : Nat → Addr} {X : Cx} {a b : Expr} {ea eb : EE} {pos : Pos}
theorem dt_isN (ha : DE cl X a ea) (hb : DE cl X b eb) : DT cl X (.Compare a [.Is] [b] pos) (bOf (eBin fIsN ea eb)) := dt_cmp op_isN (fun O H x y u v d Q ow hx hy hf q => by
  unfold fIsN at hf
  split at hf
  · rename_i hv
    split at hf
    · rename_i k hk
      cases hf
      exact ⟨of_decide_eq_true (hd_non hy hv), q H _ (Ex.refl H) (by rw [hd_non hx hk]; exact .bl _)⟩
    · cases hf
  · cases hf) ha hb
theorem dt_notN (ha : DE cl X a ea) (hb : DE cl X b eb) : DT cl X (.Compare a [.IsNot] [b] pos) (bOf (eBin fNotN ea eb)) := dt_cmp op_notN (fun O H x y u v d Q ow hx hy hf q => by
  unfold fNotN at hf
  split at hf
  · rename_i hv
    split at hf
    · rename_i k hk
      cases hf
      exact ⟨of_decide_eq_true (hd_non hy hv), q H _ (Ex.refl H) (by rw [hd_non hx hk]; exact .bl _)⟩
    · cases hf
  · cases hf) ha hb
theorem fd_mulW {K : PySem.W.Frag} : FD2 K cl (rI CMulW fun i j => .int (i * j)) fMul := fd_IC (fun _ _ _ => .int _) fun i j h => (show i.natAbs.log2 + j.natAbs.log2 < 1000000 from of_decide_eq_true h)
theorem iop_mulW : OpR X (inplaceOp .Mult) (rI CMulW fun i j => .int (i * j)) := opI fun i j _ _ _ _ _ hc q => imul_int q hc.ok
end
end TL

/-! Trees: short rules for own operators; promises of defs by their mirrors -/
namespace TL
open PySem PySem.Spec PyProof.Rows L2 Evl SlX StX C8

/-! ### own operators, a method's promise at hand -/
structure NeF (K : PySem.W.Frag) (C : Addr) : Prop where
  ne : PySem.W.findIn K (.ref C) "__ne__" = some (some (.builtin "object.__ne__"))
  sub : PySem.W.subIn K (.ref C) (.type "object") = some true
section
variable {cl : Nat → Addr} {X : Cx} {a b : Expr} {ea eb : EE} {pos : Pos} {k j c : Nat} {m : Nat → List D → Option D} {tb : Nat → Tg → Bool}
theorem d_addO (M : MetD X.prog X.w X.K cl X.mg X.base k c "__add__" m) (hc : PySem.W.selfFirst X.K (cl c) = true) (hr : Room j X.A) (ha : DE cl X a ea) (hb : DE cl X b eb) (hk : k ≤ j := by decide) : DE cl X (.BinOp a .Add b pos) (eBinN (fOwn2 c m) ea eb) := by
  obtain ⟨g, h1, h2, h3⟩ := M.ex
  exact d_opN (op_binO hc h2.at_ h2.fn h3 (hr.mono hk)) fd_binO ha hb
theorem d_subO (M : MetD X.prog X.w X.K cl X.mg X.base k c "__sub__" m) (hc : PySem.W.selfFirst X.K (cl c) = true) (hr : Room j X.A) (ha : DE cl X a ea) (hb : DE cl X b eb) (hk : k ≤ j := by decide) : DE cl X (.BinOp a .Sub b pos) (eBinN (fOwn2 c m) ea eb) := by
  obtain ⟨g, h1, h2, h3⟩ := M.ex
  exact d_opN (op_binO hc h2.at_ h2.fn h3 (hr.mono hk)) fd_binO ha hb
theorem d_mulO (M : MetD X.prog X.w X.K cl X.mg X.base k c "__mul__" m) (hc : PySem.W.selfFirst X.K (cl c) = true) (hr : Room j X.A) (ha : DE cl X a ea) (hb : DE cl X b eb) (hk : k ≤ j := by decide) : DE cl X (.BinOp a .Mult b pos) (eBinN (fOwn2 c m) ea eb) := by
  obtain ⟨g, h1, h2, h3⟩ := M.ex
  exact d_opN (op_binO hc h2.at_ h2.fn h3 (hr.mono hk)) fd_binO ha hb
theorem d_negO (M : MetD X.prog X.w X.K cl X.mg X.base k c "__neg__" m) (hr : Room j X.A) (ha : DE cl X a ea) (hk : k ≤ j := by decide) : DE cl X (.UnaryOp .USub a pos) (eUnN (fOwn1 c m) ea) := by
  obtain ⟨g, h1, h2, h3⟩ := M.ex
  exact d_unN (un_negO h2.at_ h2.fn h3 (hr.mono hk)) fd_negO ha
theorem d_eqO (T : NfF X.K cl tb) (M : MetD X.prog X.w X.K cl X.mg X.base k c "__eq__" m) (hr : Room j X.A) (ha : DE cl X a ea) (hb : DE cl X b eb) (hk : k ≤ j := by decide) : DE cl X (.Compare a [.Eq] [b] pos) (eBinN (fEqO c tb m) ea eb) := by
  obtain ⟨g, h1, h2, h3⟩ := M.ex
  exact d_cmpN (op_eqO h2.at_ h2.fn h3 (hr.mono hk)) (fd_eqO T) ha hb
theorem d_neO (T : NfF X.K cl tb) (N : NeF X.K (cl c)) (M : MetD X.prog X.w X.K cl X.mg X.base k c "__eq__" m) (hr : Room j X.A) (ha : DE cl X a ea) (hb : DE cl X b eb) (hk : k + 1 ≤ j := by decide) : DE cl X (.Compare a [.NotEq] [b] pos) (eBinN (fNeO c tb m) ea eb) := by
  obtain ⟨g, h1, h2, h3⟩ := M.ex
  exact d_cmpN (op_neO h2.at_ N.ne N.sub h2.fn h3 (hr.mono hk)) (fd_neO T) ha hb
theorem dt_neO (T : NfF X.K cl tb) (N : NeF X.K (cl c)) (M : MetD X.prog X.w X.K cl X.mg X.base k c "__eq__" m) (hr : Room j X.A) (ha : DE cl X a ea) (hb : DE cl X b eb) (hk : k + 1 ≤ j := by decide) : DT cl X (.Compare a [.NotEq] [b] pos) (bOf (eBinN (fNeO c tb m) ea eb)) := by
  obtain ⟨g, h1, h2, h3⟩ := M.ex
  exact dt_cmpN (op_neO h2.at_ N.ne N.sub h2.fn h3 (hr.mono hk)) (fd_neO T) ha hb
theorem d_inO (M : MetD X.prog X.w X.K cl X.mg X.base k c "__contains__" m) (hr : Room j X.A) (ha : DE cl X a ea) (hb : DE cl X b eb) (hk : k ≤ j := by decide) (hm : behindInMarks .In b = false := by rfl) : DE cl X (.Compare a [.In] [b] pos) (eBinN (fInO c m id) ea eb) := by
  obtain ⟨g, h1, h2, h3⟩ := M.ex
  exact d_cmpN (op_inO h2.at_ h2.fn h3 (hr.mono hk)) fd_inO ha hb hm
theorem dt_notInO (M : MetD X.prog X.w X.K cl X.mg X.base k c "__contains__" m) (hr : Room j X.A) (ha : DE cl X a ea) (hb : DE cl X b eb) (hk : k ≤ j := by decide) (hm : behindInMarks .NotIn b = false := by rfl) : DT cl X (.Compare a [.NotIn] [b] pos) (bOf (eBinN (fInO c m not) ea eb)) := by
  obtain ⟨g, h1, h2, h3⟩ := M.ex
  exact dt_cmpN (op_notInO h2.at_ h2.fn h3 (hr.mono hk)) fd_inO ha hb hm
end

/-! ### promises -/
section
variable {P : Program} {w : World} {K : PySem.W.Frag} {cl : Nat → Addr} {mg : Str → Option Value} {base : Heap} {x : Str} {k c : Nat} {f p : Addr} {fd : FuncData} {ps : List Str} {m : Nat → List D → Option D} {mi : Nat → List D → Option (List D)}
theorem calD (F : FnOk P w K mg base L2.CX0 k f fd ps (spD K cl m)) (hm : mg x = some (.ref f)) (kp : PySem.W.keepIn K (.ref f) = true) (b : Binds K fd ps []) : CalD P w K cl mg base k x m [] := ⟨[], ⟨f, fd, ps, [], F, hm, kp, b, .nil⟩, fun _ => .nil⟩
theorem calD1 {ds : List Value} {dvs : List V} {dds : List D} (F : FnOk P w K mg base L2.CX0 k f fd ps (spD K cl m)) (hm : mg x = some (.ref f)) (kp : PySem.W.keepIn K (.ref f) = true) (b : Vals dvs ds ∧ Binds K fd ps ds) (hd : ∀ G, HDs K cl G dvs dds) : CalD P w K cl mg base k x m dds := ⟨dvs, ⟨f, fd, ps, ds, F, hm, kp, b.2, b.1⟩, hd⟩
theorem makD (M : Mk K (cl c) f) (F : FnOk P w K mg base L2.CX0 k f fd ps (spI K cl c mi)) (hm : mg x = some (.ref (cl c))) (b : Binds K fd ps []) : MakD P w K cl mg base k x c mi [] := ⟨[], ⟨f, fd, ps, [], M, F, hm, b, .nil⟩, fun _ => .nil⟩
theorem makD1 {ds : List Value} {dvs : List V} {dds : List D} (M : Mk K (cl c) f) (F : FnOk P w K mg base L2.CX0 k f fd ps (spI K cl c mi)) (hm : mg x = some (.ref (cl c))) (b : Vals dvs ds ∧ Binds K fd ps ds) (hd : ∀ G, HDs K cl G dvs dds) : MakD P w K cl mg base k x c mi dds := ⟨dvs, ⟨f, fd, ps, ds, M, F, hm, b.2, b.1⟩, hd⟩
theorem fnR_of {sp : Sp} (F : FnOk P w K mg base L2.CX0 k f fd ps sp) (b : Binds K fd ps []) : FnR P w K mg base L2.CX0 k f sp := (FnOk.raw F b .nil).imp fun vs H Q E h => by rw [List.append_nil]; exact h
theorem metD (s : SCls K (cl c)) (M : Meth K (cl c) x f) (F : FnOk P w K mg base L2.CX0 k f fd ps (spD K cl m)) (b : Binds K fd ps []) : MetD P w K cl mg base k c x m := ⟨f, s, M, fnR_of F b⟩
theorem proD {rest : List Value} (s : SCls K (cl c)) (h1 : PySem.W.findIn K (.ref (cl c)) x = some (some (.ref p))) (h2 : PySem.W.specialIn K (.ref p) "__get__" = some (some (.builtin "property.__get__"))) (h3 : PySem.W.takesIn K (.ref p) = some true)
    (h4 : PySem.W.recIn K p "property" = some (.ref f :: rest)) (F : FnOk P w K mg base L2.CX0 k f fd ps (spD K cl m)) (b : Binds K fd ps []) : ProD P w K cl mg base k c x m := ⟨p, f, rest, s, h1, h2, h3, h4, fnR_of F b⟩
end
end TL

/-! Trees: zip of lists and tuples in any mixture, enumerate of either -/
namespace TL
open PySem PySem.Spec PyProof.Rows L2 Evl SlX StX C8

/-! ### lists and tuples by one word -/
def SQ (k : Bool) (K : PySem.W.Frag) (H : Hp) (a : Addr) (xs : List V) : Prop := match k with
  | true => SqL K H a xs
  | false => SqT K H a xs
def II (k : Bool) (h : Heap) (it l : Addr) (i : Nat) : Prop := match k with
  | true => h.IsListIter it l i
  | false => h.IsTupleIter it l i
def IQ (k : Bool) (h : Heap) (l : Addr) (its : Array Value) : Prop := match k with
  | true => h.IsList l its
  | false => h.IsTuple l its
def iObj (k : Bool) (l : Addr) : Obj := match k with
  | true => { cls := .type "list_iterator", data := .fields #[.ref l, .int 0 0] }
  | false => { cls := .type "tuple_iterator", data := .fields #[.ref l, .int 0 0] }
theorem iq_of {k : Bool} {X : Cx} {pins : List (Addr × Obj)} {σ : L2.St} {H : Hp} {s : Shared} {a : Addr} {xs : List V} (I : Inv X pins σ H s) (h : SQ k X.K H a xs) : ∃ its : List Value, Vals xs its ∧ IQ k s.heap a its.toArray ∧ a < s.heap.objs.size := by
  cases k with
  | true =>
    obtain ⟨its, r, p, _⟩ := I.list h
    exact ⟨its, r, p.isList, p.lt⟩
  | false =>
    obtain ⟨its, r, p, _⟩ := I.tuple h
    obtain ⟨o, ho, _⟩ := id p
    exact ⟨its, r, p, Heap.lt_size ho⟩
theorem draws_k {prog : Program} {w : World} {A : Around} (hh : A.handled = none) (k : Bool) (it l : Addr) (hne : l ≠ it) (its : Array Value) :
    Draws prog w A it [it, l] its.size (fun i v => its[i]? = some v) (fun i h => II k h it l i ∧ IQ k h l its) := by
  cases k with
  | true => exact Draws.list hh it l hne its
  | false => exact Draws.tuple hh it l hne its
theorem begins_k (k : Bool) (l : Addr) (its : Array Value) : Begins (.ref l) (iObj k l) fun h => IQ k h l its := by
  cases k with
  | true => exact begins_list l its
  | false => exact begins_tuple l its
theorem ii_0 {k : Bool} {h : Heap} {it l : Addr} (e : h.get? it = some (iObj k l)) : II k h it l 0 := by
  cases k with
  | true => exact ⟨_, e, rfl, rfl⟩
  | false => exact ⟨_, e, rfl, rfl⟩
theorem ii_at {k : Bool} {h h' : Heap} {it l : Addr} {i : Nat} (x : II k h it l i) (q : ∀ o, h.get? it = some o → h'.get? it = some o) : II k h' it l i := by
  cases k with
  | true => exact Heap.IsListIter.at x q
  | false => exact Heap.IsTupleIter.at x q
theorem ii_obj {k : Bool} {h : Heap} {it l : Addr} {i : Nat} (x : II k h it l i) : ∃ o, h.get? it = some o ∧ ∀ v, o.data ≠ .cell v := by
  cases k with
  | true =>
    obtain ⟨o, e, _, d⟩ := (show h.IsListIter it l i from x)
    exact ⟨o, e, fun v z => by rw [d] at z; cases z⟩
  | false =>
    obtain ⟨o, e, _, d⟩ := (show h.IsTupleIter it l i from x)
    exact ⟨o, e, fun v z => by rw [d] at z; cases z⟩

/-! ### zip -/
def ItM (K : PySem.W.Frag) (k1 k2 : Bool) (a b : Addr) (xs ys : List V) : It :=
  ⟨fun i H => SQ k1 K H a xs ∧ SQ k2 K H b ys ∧ i < xs.length ∧ i < ys.length,
    fun i H v H' => ∃ T x y, v = .ref T ∧ H T = none ∧ H' = upd H T (.tup [x, y]) ∧ xs[i]? = some x ∧ ys[i]? = some y,
    fun i H => SQ k1 K H a xs ∧ SQ k2 K H b ys ∧ i = min xs.length ys.length⟩
def tnM (k1 k2 : Bool) (a b N : Addr) (i : Nat) (h : Heap) : Prop := IsZip h (N + 4) (N + 2) (N + 3) .none ∧ IsTupOf2 h (N + 2) (.ref N) (.ref (N + 1)) ∧ (∃ x y, IsTupOf2 h (N + 3) x y) ∧ II k1 h N a i ∧ II k2 h (N + 1) b i
abbrev fpM (N : Addr) : List Addr := [N + 4, N + 2, N + 3, N, N + 1]
theorem fpM_cases {N c : Addr} (h : c ∈ fpM N) : c = N + 4 ∨ c = N + 2 ∨ c = N + 3 ∨ c = N ∨ c = N + 1 := by simpa [fpM] using h
theorem fpM_lt {N m c : Nat} (h : N + 4 < m) (hc : c ∈ fpM N) : c < m := by
  rcases fpM_cases hc with e | e | e | e | e <;> (have e' : (c : Nat) = _ := e; omega)
theorem fpM_ge {N c : Nat} (hc : c ∈ fpM N) : N ≤ c := by
  rcases fpM_cases hc with e | e | e | e | e <;> (have e' : (c : Nat) = _ := e; omega)
theorem na (N : Nat) (i j : Nat) (h : i ≠ j := by decide) : N + i ≠ N + j := by omega
theorem na0 (N : Nat) (j : Nat) (h : 0 ≠ j := by decide) : N ≠ N + j := by omega
theorem lt1 {a N : Nat} (h : a < N) (j : Nat) : a ≠ N + j := by omega
theorem turn_zipM {P : Program} {w : World} {K : PySem.W.Frag} {elts : List Expr} {kk : Nat} {tpos : Pos} {k1 k2 : Bool} {a b N : Nat} {xs ys : List V} (ha : a < N) (hb : b < N) :
    Turn P w K (.Tuple elts kk tpos) (ItM K k1 k2 a b xs ys) (fpM N) (N + 4) (tnM k1 k2 a b N) where
  mem := by simp
  obj := fun i h ⟨t1, t2, ⟨u, v, t3⟩, t4, t5⟩ c hc => by
    rcases fpM_cases hc with e | e | e | e | e
    · subst e; exact ⟨_, t1, fun v z => nomatch z⟩
    · subst e; exact ⟨_, t2, fun v z => nomatch z⟩
    · subst e; exact ⟨_, t3, fun v z => nomatch z⟩
    · subst e; exact ii_obj t4
    · subst e; exact ii_obj t5
  keep := fun i h h' ⟨t1, t2, ⟨u, v, t3⟩, t4, t5⟩ k => ⟨k _ (by simp) _ t1, k _ (by simp) _ t2, ⟨u, v, k _ (by simp) _ t3⟩, ii_at t4 fun o q => k _ (by simp) o q, ii_at t5 fun o q => k _ (by simp) o q⟩
  item := by
    intro X eP ew eK hcalm i pins s σ H E I hf st hg
    subst eP ew eK
    obtain ⟨t1, t2, ⟨u0, v0, t3⟩, t4, t5⟩ := st
    obtain ⟨g1, g2, g3, g4⟩ := hg
    obtain ⟨its1, r1, q1, l1⟩ := iq_of I g1
    obtain ⟨its2, r2, q2, l2⟩ := iq_of I g2
    have hx := List.getElem?_eq_getElem g3
    have hy := List.getElem?_eq_getElem g4
    obtain ⟨u1, hu1, ru1⟩ := r1.get hx
    obtain ⟨u2, hu2, ru2⟩ := r2.get hy
    have hh : X.A.in1.handled = none := I.ok.hd hcalm
    have top : N + 4 < s.heap.objs.size := Heap.lt_size t1
    refine wpAny_pyNext_zipD2_item (zip_sep2 (N := N) (fp1 := [a]) (fp2 := [b]) (by simpa using ha) (by simpa using hb)) (draws_k hh k1 N a (Nat.ne_of_lt ha) its1.toArray) (draws_k hh k2 (N + 1) b (lt1 hb 1) its2.toArray) t1 t2 t3 ⟨t4, q1⟩ ⟨t5, q2⟩
      (by rw [List.size_toArray, ← r1.length]; exact g3) (by rw [List.size_toArray, ← r2.length]; exact g4) fun w1 w2 hp tk e1 e2 z1 z2 z3 z4 z5 z6 z7 => ?_
    have e1' : its1[i]? = some w1 := by simpa using e1
    have e2' : its2[i]? = some w2 := by simpa using e2
    rw [hu1] at e1'
    rw [hu2] at e2'
    cases e1'
    cases e2'
    refine ⟨_, rfl, wpAny_letOwnedTupleGo_zip (s := { s with heap := hp, toks := tk }) z1 fun hq y1 sb => ?_⟩
    have old : ∀ c ob, c ∉ fpM N → s.heap.get? c = some ob → hq.get? c = some ob := fun c ob hc q => by
      have n1 : c ≠ N + 4 := fun z => hc (by simp [z])
      have n2 : c ≠ N + 3 := fun z => hc (by simp [z])
      have n3 : c ≠ N := fun z => hc (by simp [z])
      have n4 : c ≠ N + 1 := fun z => hc (by simp [z])
      exact (sb.2 c n1).trans (z7 c ob n1 n2 n3 n4 q)
    have pr : hq.get? s.heap.objs.size = some { cls := .type "tuple", data := .seq #[u1, u2] } := (sb.2 _ (Nat.ne_of_gt top)).trans z5
    have fresh : ObjOk X.prog X.w (upd H s.heap.objs.size (.tup [xs[i], ys[i]])) hq s.heap.objs.size (.tup [xs[i], ys[i]]) :=
      ⟨sz_of (by show 2 ≤ 100000; decide), [u1, u2], .cons ru1 (.cons ru2 .nil), _, pr, rfl, _, rfl⟩
    have J : Inv X pins σ (upd H s.heap.objs.size (.tup [xs[i], ys[i]])) { s with heap := hq, toks := tk } := I.turnedNew (t' := tk) (ch := fpM N) old hf (Nat.le_refl _) fresh
    refine ⟨.ref s.heap.objs.size, _, J, rfl, ⟨_, _, _, rfl, I.hok.fresh (Nat.le_refl _), rfl, hx, hy⟩, ⟨y1, ?_, ⟨u1, u2, ?_⟩, ?_, ?_⟩, fun c hc => ?_⟩
    · exact (sb.2 _ (na N 2 4)).trans (z7 _ _ (na N 2 4) (na N 2 3) (na0 N 2).symm (na N 2 1) t2)
    · exact (sb.2 _ (na N 3 4)).trans z2
    · exact ii_at z3.1 fun o q => (sb.2 _ (na0 N 4)).trans q
    · exact ii_at z4.1 fun o q => (sb.2 _ (na N 1 4)).trans q
    · rw [upd_ne (Nat.ne_of_lt (fpM_lt top hc))]
      exact (hf c hc).1
  done := by
    intro X eP ew eK hcalm i pins s σ H E I hf st hg
    subst eP ew eK
    obtain ⟨t1, t2, ⟨u0, v0, t3⟩, t4, t5⟩ := st
    obtain ⟨g1, g2, g3⟩ := hg
    obtain ⟨its1, r1, q1, l1⟩ := iq_of I g1
    obtain ⟨its2, r2, q2, l2⟩ := iq_of I g2
    have hh : X.A.in1.handled = none := I.ok.hd hcalm
    have n1 := r1.length
    have n2 := r2.length
    refine wpAny_pyNext_zipD2_end (i := i) (zip_sep2 (N := N) (fp1 := [a]) (fp2 := [b]) (by simpa using ha) (by simpa using hb)) (draws_k hh k1 N a (Nat.ne_of_lt ha) its1.toArray) (draws_k hh k2 (N + 1) b (lt1 hb 1) its2.toArray) t1 t2 t3 ⟨t4, q1⟩ ⟨t5, q2⟩
      (by rw [List.size_toArray]; omega) (by rw [List.size_toArray]; omega) (by rw [List.size_toArray, List.size_toArray]; omega) fun hp tk z => ⟨rfl, I.turnedL (t' := tk) (ch := fpM N) (fun c ob hc q => ?_) hf⟩
    exact z c ob (fun z => hc (by simp [z])) (fun z => hc (by simp [z])) (fun z => hc (by simp [z])) (fun z => hc (by simp [z])) q
  self := fun A i s Q E st h => wpAny_pyIter_zip st.1 h
def iZipM (K : PySem.W.Frag) (ta : TA) : TI := fun σ H R => ta σ H fun vs H1 => ∃ k1 k2 a b xs ys, vs = [.ref a, .ref b] ∧ SQ k1 K H1 a xs ∧ SQ k2 K H1 b ys ∧ R (ItM K k1 k2 a b xs ys) H1
theorem fresh_fp {X : Cx} {pins : List (Addr × Obj)} {σ : L2.St} {H : Hp} {s : Shared} (I : Inv X pins σ H s) {c : Addr} (h : s.heap.objs.size ≤ c) : FpOk X pins H c := I.fpOk h (I.hok.fresh h)
theorem pi_zipM {X : Cx} {e e2 : Expr} {ta : TA} {p pos tpos : Pos} {elts : List Expr} {kk : Nat} (hg : Gl X "zip") (hm : X.mg "zip" = none) (ha : PA X [e, e2] ta)
    (hs : starEach [e, e2] X.env = (false, eval e X.env) :: starEach [e2] X.env := by rfl) (hpl : (backTo pos (starEach [e2] X.env)).any (·.1) = false := by rfl) :
    PI X (.Tuple elts kk tpos) (.Call (.Name "zip" p) [e, e2] [] pos) (iZipM X.K ta) := ⟨fun pins s σ H R I h => by
  refine Call_ (ld_blt I hg hm PyProof.Rows.boot_zip (PyProof.Rows.callWith_type1 (thn (ha.run pos pins s σ H _ I h) fun us s1 ⟨vs, H1, I1, r1, k1, k2, a, b, xs, ys, ev, g1, g2, q⟩ => ?_) hs hpl))
  subst ev
  obtain ⟨u1, u2, rfl, ru1, ru2⟩ := vals2 r1
  cases (show u1 = Value.ref a from ru1)
  cases (show u2 = Value.ref b from ru2)
  obtain ⟨its1, r1, q1, l1⟩ := iq_of I1 g1
  obtain ⟨its2, r2, q2, l2⟩ := iq_of I1 g2
  refine zip_begins2 (begins_k k1 a its1.toArray) (begins_k k2 b its2.toArray) q1 q2 fun hp z1 z2 z3 z4 z5 z6 z7 => wpAny_pyIter_zip z1 ?_
  have J : Inv X pins σ H1 { s1 with heap := hp } := I1.kept (t' := s1.toks) z7
  refine ⟨s1.heap.objs.size + 4, fpM s1.heap.objs.size, _, _, H1, rfl, J, turn_zipM l1 l2, ⟨z1, z2, ⟨_, _, z3⟩, ii_0 z4, ii_0 z5⟩, fun c hc => fresh_fp I1 (fpM_ge hc), q⟩⟩

/-! ### enumerate -/
theorem meets_enum1 {v : Value} {o : Obj} {Hh : Heap → Prop} (B : Begins v o Hh) :
    Meets (Builtin.«enumerate.__new__» ⟨[.type "enumerate", v], []⟩) (fun _ R s => Hh s.heap ∧
      R (.ok (.ret (.ref (s.heap.push o).objs.size))) { s with heap := (s.heap.push o).push { cls := .type "enumerate", data := .fields #[.none, .bool false, .ref s.heap.objs.size, rawInt 0, .none, .none] } }) :=
  .of_wp fun prog w A R s hx => by
    obtain ⟨hp, gs, dr, tk, os⟩ := s
    obtain ⟨h1, hx⟩ := hx
    have sb := sub_enumerate
    have st : ∀ {A' : Around} {E : Value → Shared → Prop} {Q : Value → Shared → Prop}, Q (.ref hp.objs.size) ⟨hp.push o, gs, dr, tk, os⟩ → wpAny (model prog w) A' (pyIter v) Q E ⟨hp, gs, dr, tk, os⟩ :=
      fun q => B.iter prog w _ _ ⟨hp, gs, dr, tk, os⟩ _ h1 q
    wp_walk using st
    refine wpAny_stack_any fun sk => wpAny_pure ?_
    split
    · rename_i c _ _ _ _ _
      cases (c == Value.type "enumerate") <;> (wp_walk using st; exact ⟨_, rfl, hx⟩)
    · wp_walk using st
      exact ⟨_, rfl, hx⟩
theorem args_oi2 (a b : Value) : argsOk "object.__init__" ⟨[a, b], []⟩ := by
  unfold argsOk
  kernel_rfl
theorem tcall_enum1 (a : Value) : checkTypeCall "enumerate" ⟨[a], []⟩ = pure () := by kernel_rfl
theorem ncall_enum1 (a : Value) : checkBuiltinCall "enumerate.__new__" ⟨[.type "enumerate", a], []⟩ = pure () := by kernel_rfl
theorem enum_begins1 {prog : Program} {w : World} {A : Around} {E : Value → Shared → Prop} {s : Shared} {v : Value} {o : Obj} {Hh : Heap → Prop} {Q : Value → Shared → Prop} (B : Begins v o Hh) (h1 : Hh s.heap)
    (h : ∀ h', IsEnum h' (s.heap.objs.size + 1) s.heap.objs.size 0 .none → h'.get? s.heap.objs.size = some o → (∀ b u, s.heap.get? b = some u → h'.get? b = some u) → Q (.ref (s.heap.objs.size + 1)) { s with heap := h' }) :
    wpAny (model prog w) A (call (.type "enumerate") [v]) Q E s := by
  refine callType_new PySem.F.called_enumerate (by decide) (tcall_enum1 _) (ncall_enum1 _) (fun obj => args_oi2 obj _) PySem.F.entry_enumerate_new (meets_enum1 B) ⟨h1, ?_⟩
  have sz : (s.heap.push o).objs.size = s.heap.objs.size + 1 := Heap.size_push ..
  show _ ∧ _
  rw [sz]
  have e1 : IsEnum ((s.heap.push o).push { cls := .type "enumerate", data := .fields #[.none, .bool false, .ref s.heap.objs.size, rawInt 0, .none, .none] }) (s.heap.objs.size + 1) s.heap.objs.size 0 .none := by
    have q := Heap.get?_push_size (s.heap.push o) (o := { cls := .type "enumerate", data := .fields #[.none, .bool false, .ref s.heap.objs.size, rawInt 0, .none, .none] }) rfl
    rw [sz] at q
    exact q
  exact ⟨⟨_, e1, rfl⟩, h _ e1 (Heap.get?_push_of_some _ (Heap.get?_push_size _ B.free)) fun b u x => Heap.get?_push_of_some _ (Heap.get?_push_of_some _ x)⟩
def ItN (K : PySem.W.Frag) (k : Bool) (a : Addr) (xs : List V) : It :=
  ⟨fun i H => SQ k K H a xs ∧ i < xs.length,
    fun i H v H' => ∃ T x, v = .ref T ∧ H T = none ∧ H' = upd H T (.tup [.int (i : Nat), x]) ∧ xs[i]? = some x,
    fun i H => SQ k K H a xs ∧ i = xs.length⟩
def tnN (k : Bool) (a N : Addr) (i : Nat) (h : Heap) : Prop := (∃ old, IsEnum h (N + 1) N ((i : Nat) : Int) old) ∧ II k h N a i
theorem turn_enumN {P : Program} {w : World} {K : PySem.W.Frag} {elts : List Expr} {kk : Nat} {tpos : Pos} {k : Bool} {a N : Nat} {xs : List V} (ha : a < N) :
    Turn P w K (.Tuple elts kk tpos) (ItN K k a xs) [N + 1, N] (N + 1) (tnN k a N) where
  mem := by simp
  obj := fun i h ⟨⟨old, t1⟩, t2⟩ c hc => by
    have hc' : c = N + 1 ∨ c = N := by simpa using hc
    rcases hc' with e | e
    · subst e; exact ⟨_, t1, fun v z => nomatch z⟩
    · subst e; exact ii_obj t2
  keep := fun i h h' ⟨⟨old, t1⟩, t2⟩ q => ⟨⟨old, q _ (by simp) _ t1⟩, ii_at t2 fun o z => q _ (by simp) o z⟩
  item := by
    intro X eP ew eK hcalm i pins s σ H E I hf st hg
    subst eP ew eK
    obtain ⟨⟨old, t1⟩, t2⟩ := st
    obtain ⟨g1, g2⟩ := hg
    obtain ⟨its, r, q1, l1⟩ := iq_of I g1
    have hx := List.getElem?_eq_getElem g2
    obtain ⟨u, hu, ru⟩ := r.get hx
    have hh : X.A.in1.handled = none := I.ok.hd hcalm
    have top : N + 1 < s.heap.objs.size := Heap.lt_size t1
    have apart : N + 1 ∉ [N, a] := fun z => by
      have z' : N + 1 = N ∨ N + 1 = a := by simpa using z
      omega
    refine wpAny_pyNext_enum_itemD (draws_k hh k N a (Nat.ne_of_lt ha) its.toArray) t1 ⟨t2, q1⟩ (by rw [List.size_toArray, ← r.length]; exact g2) (na0 N 1).symm apart fun w1 hp tk e1 z1 z2 z3 z4 z5 => ?_
    have e1' : its[i]? = some w1 := by simpa using e1
    rw [hu] at e1'
    cases e1'
    refine ⟨_, rfl, wpAny_letOwnedTupleGo_enum (s := { s with heap := hp, toks := tk + 1 }) z1 fun hq y1 sb => ?_⟩
    have old' : ∀ c ob, c ∉ [N + 1, N] → s.heap.get? c = some ob → hq.get? c = some ob := fun c ob hc q => by
      have n1 : c ≠ N + 1 := fun z => hc (by simp [z])
      have n3 : c ≠ N := fun z => hc (by simp [z])
      exact (sb.2 c n1).trans (z5 c ob n1 n3 q)
    have pr : hq.get? s.heap.objs.size = some { cls := .type "tuple", data := .seq #[.int i tk, u] } := (sb.2 _ (Nat.ne_of_gt top)).trans z3
    have fresh : ObjOk X.prog X.w (upd H s.heap.objs.size (.tup [.int (i : Nat), xs[i]])) hq s.heap.objs.size (.tup [.int (i : Nat), xs[i]]) :=
      ⟨sz_of (by show 2 ≤ 100000; decide), [.int i tk, u], .cons ⟨_, rfl⟩ (.cons ru .nil), _, pr, rfl, _, rfl⟩
    have J : Inv X pins σ (upd H s.heap.objs.size (.tup [.int (i : Nat), xs[i]])) { s with heap := hq, toks := tk + 1 } := I.turnedNew (t' := tk + 1) (ch := [N + 1, N]) old' hf (Nat.le_refl _) fresh
    refine ⟨.ref s.heap.objs.size, _, J, rfl, ⟨_, _, rfl, I.hok.fresh (Nat.le_refl _), rfl, hx⟩, ⟨⟨_, y1⟩, ?_⟩, fun c hc => ?_⟩
    · exact ii_at z2.1 fun o q => (sb.2 _ (na0 N 1)).trans q
    · have hc' : c = N + 1 ∨ c = N := by simpa using hc
      have lt : c < s.heap.objs.size := by
        rcases hc' with e | e
        · rw [e]; exact top
        · rw [e]; exact Nat.lt_of_succ_lt top
      rw [upd_ne (Nat.ne_of_lt lt)]
      exact (hf c hc).1
  done := by
    intro X eP ew eK hcalm i pins s σ H E I hf st hg
    subst eP ew eK
    obtain ⟨⟨old, t1⟩, t2⟩ := st
    obtain ⟨g1, g2⟩ := hg
    obtain ⟨its, r, q1, l1⟩ := iq_of I g1
    have hh : X.A.in1.handled = none := I.ok.hd hcalm
    have n1 := r.length
    have ei : i = its.toArray.size := by rw [List.size_toArray]; omega
    subst ei
    obtain ⟨f0, f1, f2, f3, f4, f5⟩ := hf N (by simp)
    exact wpAny_pyNext_enum_endD (draws_k hh k N a (Nat.ne_of_lt ha) its.toArray) t1 ⟨t2, q1⟩ fun hp eb => ⟨rfl, I.turned (t' := s.toks) (fun b o hb q => eb b o hb q) f0 f1 f3 f4 f5⟩
  self := fun A i s Q E st h => let ⟨⟨_, he⟩, _⟩ := st; wpAny_pyIter_enum he h
def iEnumN (K : PySem.W.Frag) (ta : TA) : TI := fun σ H R => ta σ H fun vs H1 => ∃ k a xs, vs = [.ref a] ∧ SQ k K H1 a xs ∧ R (ItN K k a xs) H1
theorem pi_enumN {X : Cx} {e : Expr} {ta : TA} {p pos tpos : Pos} {elts : List Expr} {kk : Nat} (hg : Gl X "enumerate") (hm : X.mg "enumerate" = none) (ha : PA X [e] ta) (hs : starEach [e] X.env = [(false, eval e X.env)] := by rfl) :
    PI X (.Tuple elts kk tpos) (.Call (.Name "enumerate" p) [e] [] pos) (iEnumN X.K ta) := ⟨fun pins s σ H R I h => by
  refine Call_ (ld_blt I hg hm boot_enumerate (PyProof.Rows.callWith_type1 (thn (ha.run pos pins s σ H _ I h) fun us s1 ⟨vs, H1, I1, r1, k, a, xs, ev, g1, q⟩ => ?_) hs rfl))
  subst ev
  obtain ⟨u1, rfl, ru1⟩ := vals1 r1
  cases (show u1 = Value.ref a from ru1)
  obtain ⟨its, r, q1, l1⟩ := iq_of I1 g1
  refine enum_begins1 (begins_k k a its.toArray) q1 fun hp z1 z2 z3 => wpAny_pyIter_enum z1 ?_
  have J : Inv X pins σ H1 { s1 with heap := hp } := I1.kept (t' := s1.toks) z3
  refine ⟨s1.heap.objs.size + 1, [s1.heap.objs.size + 1, s1.heap.objs.size], _, _, H1, rfl, J, turn_enumN l1, ⟨⟨.none, z1⟩, ii_0 z2⟩, fun c hc => fresh_fp I1 ?_, q⟩
  have hc' : c = s1.heap.objs.size + 1 ∨ c = s1.heap.objs.size := by simpa using hc
  rcases hc' with e | e
  · rw [e]; exact Nat.le_succ _
  · rw [e]; exact Nat.le_refl _⟩

/-! ### over trees -/
def seqD : D → Option (List D)
  | .lst ds => some ds
  | .tup ds => some ds
  | _ => none
def eZip (ea : EA) : EA := fun n τ => match ea n τ with
  | some [x, y] => (match seqD x with
    | some ds => (match seqD y with
      | some es => some (zipD ds es)
      | none => none)
    | none => none)
  | _ => none
def eEnum (ea : EA) : EA := fun n τ => match ea n τ with
  | some [x] => (match seqD x with
    | some ds => some (enumD 0 ds)
    | none => none)
  | _ => none
section
variable {K : PySem.W.Frag} {cl : Nat → Addr} {O1 : Addr → Bool} {H1 : Hp}
theorem seq_of {v : V} {d : D} {ds : List D} (h : HD K cl (hide O1 H1) v d) (e : seqD d = some ds) : ∃ k a vs, v = .ref a ∧ SQ k K (hide O1 H1) a vs ∧ HDs K cl (hide O1 H1) vs ds := by
  unfold seqD at e
  split at e
  · cases e
    cases h with
    | lst hs hr => exact ⟨true, _, _, rfl, SqL.of hs, hr⟩
  · cases e
    cases h with
    | tup hs hr => exact ⟨false, _, _, rfl, hs, hr⟩
  · cases e
theorem sq_ex {k : Bool} {G G' : Hp} {a : Addr} {xs : List V} (e : Ex G G') (h : SQ k K G a xs) : SQ k K G' a xs := by
  cases k with
  | true => exact ex_l e h
  | false => exact ex_t e h
theorem pair_hd {O : Addr → Bool} {H H' : Hp} {T : Addr} {x y : V} {d e : D} (ow : Ow O H) (hT : H T = none) (hH : H' = upd H T (.tup [x, y])) (hx : HD K cl (hide O H) x d) (hy : HD K cl (hide O H) y e) : Ex H H' ∧ HD K cl (hide O H') (.ref T) (.tup [d, e]) := by
  subst hH
  have oT := ow.new hT
  have ex := Ex.new (o := .tup [x, y]) hT
  exact ⟨ex, .tup (SqT.of (by rw [hide_at oT]; exact upd_same)) (.cons (hx.mono (hide_ex ex)) (.cons (hy.mono (hide_ex ex)) .nil))⟩
theorem yd_zip {k1 k2 : Bool} {a b : Addr} {xs ys : List V} {ds es : List D} (h1 : SQ k1 K (hide O1 H1) a xs) (h2 : SQ k2 K (hide O1 H1) b ys) (r1 : HDs K cl (hide O1 H1) xs ds) (r2 : HDs K cl (hide O1 H1) ys es) : YD K cl (ItM K k1 k2 a b xs ys) O1 H1 (zipD ds es) := fun O H ow x => by
  have q1 : SQ k1 K H a xs := sq_ex hide_le (sq_ex x h1)
  have q2 : SQ k2 K H b ys := sq_ex hide_le (sq_ex x h2)
  have l1 := r1.length
  have l2 := r2.length
  refine ⟨fun i hi => ?_, ⟨q1, q2, by rw [zipD_len, l1, l2]⟩, fun i d v H' hd hy => ?_⟩
  · rw [zipD_len] at hi
    exact ⟨q1, q2, by omega, by omega⟩
  · obtain ⟨T, u1, u2, rfl, hT, hH, e1, e2⟩ := hy
    obtain ⟨d1, d2, e3, e4, rfl⟩ := zipD_get _ _ _ _ hd
    obtain ⟨v1, f1, g1⟩ := r1.get e3
    obtain ⟨v2, f2, g2⟩ := r2.get e4
    rw [e1] at f1
    rw [e2] at f2
    cases f1
    cases f2
    exact pair_hd ow hT hH (g1.mono x) (g2.mono x)
theorem yd_enum {k : Bool} {a : Addr} {xs : List V} {ds : List D} (h1 : SQ k K (hide O1 H1) a xs) (r1 : HDs K cl (hide O1 H1) xs ds) : YD K cl (ItN K k a xs) O1 H1 (enumD 0 ds) := fun O H ow x => by
  have q1 : SQ k K H a xs := sq_ex hide_le (sq_ex x h1)
  have l1 := r1.length
  refine ⟨fun i hi => ?_, ⟨q1, by rw [enumD_len, l1]⟩, fun i d v H' hd hy => ?_⟩
  · rw [enumD_len] at hi
    exact ⟨q1, by omega⟩
  · obtain ⟨T, u1, rfl, hT, hH, e1⟩ := hy
    obtain ⟨d1, e3, rfl⟩ := enumD_get _ _ _ _ hd
    obtain ⟨v1, f1, g1⟩ := r1.get e3
    rw [e1] at f1
    cases f1
    rw [Nat.zero_add]
    exact pair_hd ow hT hH (.int _) (g1.mono x)
end
section
variable {cl : Nat → Addr} {X : Cx} {e e2 : Expr} {ea : EA} {p pos tpos : Pos} {elts : List Expr} {kk : Nat}
theorem di_zip (hm : X.mg "zip" = none) (ha : DA cl X [e, e2] ea) (hg : Gl X "zip" := by rfl) (hs : starEach [e, e2] X.env = (false, eval e X.env) :: starEach [e2] X.env := by rfl) (hpl : (backTo pos (starEach [e2] X.env)).any (·.1) = false := by rfl) :
    DI cl X (.Tuple elts kk tpos) (.Call (.Name "zip" p) [e, e2] [] pos) (eZip ea) := pi_imp (pi_zipM hg hm ha hs hpl) fun σ H R ⟨F, O, n, τ, ds, rl, h, q⟩ => by
  unfold eZip at h
  split at h
  · rename_i x y e1
    split at h
    · rename_i l1 h1
      split at h
      · rename_i l2 h2
        cases h
        refine ⟨F, O, n, τ, _, rl, e1, fun H1 vs z hv => ?_⟩
        obtain ⟨v, w, rfl, g1, g2⟩ := hds_2 hv
        obtain ⟨k1, a, xs, rfl, s1, r1⟩ := seq_of g1 h1
        obtain ⟨k2, b, ys, rfl, s2, r2⟩ := seq_of g2 h2
        exact ⟨k1, k2, a, b, xs, ys, rfl, sq_ex hide_le s1, sq_ex hide_le s2, q _ H1 z (yd_zip s1 s2 r1 r2)⟩
      · cases h
    · cases h
  · cases h
theorem di_enum (hm : X.mg "enumerate" = none) (ha : DA cl X [e] ea) (hg : Gl X "enumerate" := by rfl) (hs : starEach [e] X.env = [(false, eval e X.env)] := by rfl) :
    DI cl X (.Tuple elts kk tpos) (.Call (.Name "enumerate" p) [e] [] pos) (eEnum ea) := pi_imp (pi_enumN hg hm ha hs) fun σ H R ⟨F, O, n, τ, ds, rl, h, q⟩ => by
  unfold eEnum at h
  split at h
  · rename_i x e1
    split at h
    · rename_i l1 h1
      cases h
      refine ⟨F, O, n, τ, _, rl, e1, fun H1 vs z hv => ?_⟩
      obtain ⟨v, rfl, g1⟩ := hds_1 hv
      obtain ⟨k1, a, xs, rfl, s1, r1⟩ := seq_of g1 h1
      exact ⟨k1, a, xs, rfl, sq_ex hide_le s1, q _ H1 z (yd_enum s1 r1)⟩
    · cases h
  · cases h
end
end TL

/-! Trees: the text, the facts of the written part -/
namespace TL
open PySem PySem.Spec PyProof.Rows L2 Evl SlX StX C8

def l_own_bottom : Nat → Option Nat
  | 0 => some 0
  | 1 => some 0
  | 3 => some 0
  | 4 => some 1
  | 5 => some 0
  | 6 => some 1
  | _ => none
def l_own_top : Nat → Option Nat
  | 0 => some 1
  | 1 => some 1
  | _ => none
def l_own_a : Nat → Option Nat
  | 2 => some 0
  | _ => none
def l_own_b : Nat → Option Nat
  | 2 => some 1
  | _ => none
def l_own_discriminant : Nat → Option Nat
  | 2 => some 2
  | _ => none
def l_own_places : Nat → Option Nat
  | 2 => some 3
  | _ => none
def l_own_entries : Nat → Option Nat
  | 3 => some 1
  | 4 => some 2
  | _ => none
def l_own_algebra : Nat → Option Nat
  | 4 => some 0
  | 6 => some 0
  | _ => none
def l_own_rows : Nat → Option Nat
  | 5 => some 1
  | 6 => some 2
  | 7 => some 1
  | _ => none
def l_own_bounds : Nat → Option Nat
  | 7 => some 0
  | _ => none
def l_own_table : Nat → Option Nat
  | 7 => some 2
  | _ => none
def l_own_whole : Nat → Option Nat
  | 7 => some 3
  | _ => none
def k_BEYOND : D := .int (10 ^ 60)
def k_MAX_NUMBER : D := .int (10 ^ 9)
def k_REAL : D := .int 0
def k_MANY_ENTRIES : D := .int 4
def k_SPOTS : D := .tup [.int 0, .int 1, .int 2, .int 3]
def k_ONE_RAW : D := .tup [.int 1, .int 0, .int 0, .int 0]
def k_STEPS : D := .tup [.int (-1), .int 0, .int 1]
structure Tx (K : PySem.W.Frag) (mg : Str → Option Value) : Prop where
  ok : okK K = true
  fn : ∀ d ∈ fnL, ∃ fd, L2.FunD K d.name d.qual d.params d.body d.scope (d.dvs K) (d.kws K) (d.at_ K) fd
  mgs : ∀ x u, PySem.W.nsIn K mainGlobals x = some (some u) → mg x = some u
  mgn : ∀ x, PySem.W.nsIn K mainGlobals x = some none → mg x = none
theorem mem_lookupT : ∀ {l : List ((Tg × Tg) × Bool)} {p : Tg × Tg} {b : Bool}, l.lookup p = some b → (p, b) ∈ l
  | [], _, _, h => by cases h
  | (q, c) :: r, p, b, h => by
    rw [List.lookup_cons] at h
    by_cases e : p = q
    · subst e
      simp at h
      subst h
      exact List.mem_cons_self
    · rw [show (p == q) = false from beq_false_of_ne e] at h
      exact List.mem_cons_of_mem _ (mem_lookupT h)
namespace Tx
variable {K : PySem.W.Frag} {mg : Str → Option Value} (T : Tx K mg)
include T
theorem fx (i : Nat) {f : Fx} (h : fxL[i]? = some f := by rfl) : f.ok K = true := by
  have h1 := (Bool.and_eq_true_iff.mp T.ok).1
  exact List.all_eq_true.mp h1 f (List.mem_of_getElem? h)
theorem glo {x : Str} (h : (Fx.gl x).ok K = true) : mg x = some (.ref (He.ga K x)) := T.mgs _ _ (He.eqO_ok h)
theorem fre {x : Str} (h : (Fx.fr x).ok K = true) : mg x = none := T.mgn _ (He.eqO_ok h)
theorem int_ {x : Str} {i : Int} (h : (Fx.it x i).ok K = true) : GlD (clK K) K mg x (.int i) := by
  have h' : (He.Fa.int x i).ok K = true := h
  have : ∃ u, PySem.W.nsIn K mainGlobals x = some (some u) ∧ RelV (.int i) u := by
    unfold He.Fa.ok at h'
    dsimp only at h'
    split at h'
    · rename_i j t e
      exact ⟨_, e, t, by rw [of_decide_eq_true h']⟩
    · cases h'
  obtain ⟨u, h1, h2⟩ := this
  exact ⟨u, _, T.mgs _ _ h1, h2, fun _ => .int i⟩
theorem tup_ {x : Str} {vs : List Int} (h : (Fx.tp x vs).ok K = true) (hg : mg x = some (.ref (He.ga K x))) : GlD (clK K) K mg x (.tup (vs.map .int)) :=
  ⟨_, .ref (He.ga K x), hg, rfl, fun G => .tup (He.tupB_ok h G) (by rw [List.map_map]; exact hds_ints vs)⟩
theorem cls_ {c : Nat} (hg : mg (clN c) = some (.ref (He.ga K (clN c)))) : GlD (clK K) K mg (clN c) (.cls c) := ⟨_, .ref (clK K c), hg, rfl, fun G => .cls c⟩
theorem scls {c : Nat} (h : (Fx.cls c).ok K = true) : SCls K (clK K c) ∧ SIsi K (clK K c) := by
  obtain ⟨h1, h2⟩ := He.ba h
  obtain ⟨a1, h1⟩ := He.ba h1
  obtain ⟨a2, h1⟩ := He.ba h1
  obtain ⟨a3, a4⟩ := He.ba h1
  obtain ⟨b1, h2⟩ := He.ba h2
  obtain ⟨b2, h2⟩ := He.ba h2
  obtain ⟨b3, b4⟩ := He.ba h2
  exact ⟨⟨a1, a2, a3, He.eqO_ok a4⟩, ⟨He.eqO_ok b1, He.eqO_ok b2, of_decide_eq_true b3, of_decide_eq_true b4⟩⟩
theorem slot_ {c i : Nat} {f : Str} (h : (Fx.slot c f i).ok K = true) : Slot1 K (clK K c) f (He.ma K (clK K c) f) i := by
  obtain ⟨h1, h⟩ := He.ba h
  obtain ⟨h2, h⟩ := He.ba h
  obtain ⟨h3, h⟩ := He.ba h
  obtain ⟨h4, h⟩ := He.ba h
  obtain ⟨h5, h6⟩ := He.ba h
  exact ⟨He.eqO_ok h1, He.eqO_ok h2, of_decide_eq_true h3, of_decide_eq_true h4, of_decide_eq_true h5, of_decide_eq_true h6⟩
theorem meth_ {c : Nat} {m : Str} (h : (Fx.meth c m).ok K = true) : Meth K (clK K c) m (He.ma K (clK K c) m) := by
  obtain ⟨h1, h⟩ := He.ba h
  obtain ⟨h2, h3⟩ := He.ba h
  exact ⟨He.eqO_ok h1, h2, h3⟩
theorem mk_ {c : Nat} (h : (Fx.mk c).ok K = true) : Mk K (clK K c) (He.ma K (clK K c) "__init__") := by
  obtain ⟨h1, h⟩ := He.ba h
  obtain ⟨h2, h⟩ := He.ba h
  obtain ⟨h3, h4⟩ := He.ba h
  exact ⟨h1, He.eqO_ok h2, h3, h4⟩
theorem prop_ {c : Nat} {f : Str} (h : (Fx.prop c f).ok K = true) : ∃ p rest, PySem.W.findIn K (.ref (clK K c)) f = some (some (.ref p)) ∧ PySem.W.specialIn K (.ref p) "__get__" = some (some (.builtin "property.__get__")) ∧ PySem.W.takesIn K (.ref p) = some true ∧ PySem.W.recIn K p "property" = some (.ref (pgA K c f) :: rest) := by
  obtain ⟨h1, h⟩ := He.ba h
  obtain ⟨h2, h⟩ := He.ba h
  obtain ⟨h3, h4⟩ := He.ba h
  split at h4
  · rename_i g rest e
    refine ⟨_, rest, He.eqO_ok h1, He.eqO_ok h2, of_decide_eq_true h3, ?_⟩
    have : pgA K c f = g := by
      unfold pgA
      rw [e]
    rw [this]
    exact e
  · cases h4
theorem ne_ {c : Nat} (h : (Fx.ne c).ok K = true) : NeF K (clK K c) := by
  obtain ⟨h1, h2⟩ := He.ba h
  exact ⟨He.eqO_ok h1, of_decide_eq_true h2⟩
theorem bqs : mg "isqrt" = some (.builtin "math.isqrt") := T.mgs _ _ (He.eqO_ok (T.fx (f := .bq) 98))
theorem gl_is_whole_ratios : mg "is_whole_ratios" = some (.ref (He.ga K "is_whole_ratios")) := T.glo (T.fx 0)
theorem gl_is_integer : mg "is_integer" = some (.ref (He.ga K "is_integer")) := T.glo (T.fx 1)
theorem gl_common_of : mg "common_of" = some (.ref (He.ga K "common_of")) := T.glo (T.fx 2)
theorem gl_ratio_of : mg "ratio_of" = some (.ref (He.ga K "ratio_of")) := T.glo (T.fx 3)
theorem gl_is_number : mg "is_number" = some (.ref (He.ga K "is_number")) := T.glo (T.fx 4)
theorem gl_require_number : mg "require_number" = some (.ref (He.ga K "require_number")) := T.glo (T.fx 5)
theorem gl_parted_by : mg "parted_by" = some (.ref (He.ga K "parted_by")) := T.glo (T.fx 6)
theorem gl_raw_product : mg "raw_product" = some (.ref (He.ga K "raw_product")) := T.glo (T.fx 7)
theorem gl_raw_mate : mg "raw_mate" = some (.ref (He.ga K "raw_mate")) := T.glo (T.fx 8)
theorem gl_raw_norm : mg "raw_norm" = some (.ref (He.ga K "raw_norm")) := T.glo (T.fx 9)
theorem gl_sign_by_two : mg "sign_by_two" = some (.ref (He.ga K "sign_by_two")) := T.glo (T.fx 10)
theorem gl_sign_by_prime : mg "sign_by_prime" = some (.ref (He.ga K "sign_by_prime")) := T.glo (T.fx 11)
theorem gl_sign_of : mg "sign_of" = some (.ref (He.ga K "sign_of")) := T.glo (T.fx 12)
theorem gl_factors_of : mg "factors_of" = some (.ref (He.ga K "factors_of")) := T.glo (T.fx 13)
theorem gl_places_of : mg "places_of" = some (.ref (He.ga K "places_of")) := T.glo (T.fx 14)
theorem gl_lowest : mg "lowest" = some (.ref (He.ga K "lowest")) := T.glo (T.fx 15)
theorem gl_parts_told : mg "parts_told" = some (.ref (He.ga K "parts_told")) := T.glo (T.fx 16)
theorem gl_require_algebra : mg "require_algebra" = some (.ref (He.ga K "require_algebra")) := T.glo (T.fx 17)
theorem gl_four_made : mg "four_made" = some (.ref (He.ga K "four_made")) := T.glo (T.fx 18)
theorem gl_require_same_algebra : mg "require_same_algebra" = some (.ref (He.ga K "require_same_algebra")) := T.glo (T.fx 19)
theorem gl_is_four_of : mg "is_four_of" = some (.ref (He.ga K "is_four_of")) := T.glo (T.fx 20)
theorem gl_require_definite : mg "require_definite" = some (.ref (He.ga K "require_definite")) := T.glo (T.fx 21)
theorem gl_row_less : mg "row_less" = some (.ref (He.ga K "row_less")) := T.glo (T.fx 22)
theorem gl_led_rows : mg "led_rows" = some (.ref (He.ga K "led_rows")) := T.glo (T.fx 23)
theorem gl_plain_rows : mg "plain_rows" = some (.ref (He.ga K "plain_rows")) := T.glo (T.fx 24)
theorem gl_are_rows_with : mg "are_rows_with" = some (.ref (He.ga K "are_rows_with")) := T.glo (T.fx 25)
theorem gl_lowered : mg "lowered" = some (.ref (He.ga K "lowered")) := T.glo (T.fx 26)
theorem gl_minor : mg "minor" = some (.ref (He.ga K "minor")) := T.glo (T.fx 27)
theorem gl_cofactors : mg "cofactors" = some (.ref (He.ga K "cofactors")) := T.glo (T.fx 28)
theorem gl_determinant : mg "determinant" = some (.ref (He.ga K "determinant")) := T.glo (T.fx 29)
theorem gl_told_by : mg "told_by" = some (.ref (He.ga K "told_by")) := T.glo (T.fx 30)
theorem gl_product_raw : mg "product_raw" = some (.ref (He.ga K "product_raw")) := T.glo (T.fx 31)
theorem gl_has_raw : mg "has_raw" = some (.ref (He.ga K "has_raw")) := T.glo (T.fx 32)
theorem gl_lattice_with : mg "lattice_with" = some (.ref (He.ga K "lattice_with")) := T.glo (T.fx 33)
theorem gl_norm_top : mg "norm_top" = some (.ref (He.ga K "norm_top")) := T.glo (T.fx 34)
theorem gl_is_whole_hurwitz : mg "is_whole_hurwitz" = some (.ref (He.ga K "is_whole_hurwitz")) := T.glo (T.fx 35)
theorem gl_whole_lattice : mg "whole_lattice" = some (.ref (He.ga K "whole_lattice")) := T.glo (T.fx 36)
theorem gl_found_outside : mg "found_outside" = some (.ref (He.ga K "found_outside")) := T.glo (T.fx 37)
theorem gl_is_order : mg "is_order" = some (.ref (He.ga K "is_order")) := T.glo (T.fx 38)
theorem gl_require_order : mg "require_order" = some (.ref (He.ga K "require_order")) := T.glo (T.fx 39)
theorem gl_trace_table : mg "trace_table" = some (.ref (He.ga K "trace_table")) := T.glo (T.fx 40)
theorem gl_discriminant_of : mg "discriminant_of" = some (.ref (He.ga K "discriminant_of")) := T.glo (T.fx 41)
theorem gl_order_discriminant : mg "order_discriminant" = some (.ref (He.ga K "order_discriminant")) := T.glo (T.fx 42)
theorem gl_is_greatest_order : mg "is_greatest_order" = some (.ref (He.ga K "is_greatest_order")) := T.glo (T.fx 43)
theorem gl_is_greatest : mg "is_greatest" = some (.ref (He.ga K "is_greatest")) := T.glo (T.fx 44)
theorem gl_twice_inner : mg "twice_inner" = some (.ref (He.ga K "twice_inner")) := T.glo (T.fx 45)
theorem gl_shortened_by_pairs : mg "shortened_by_pairs" = some (.ref (He.ga K "shortened_by_pairs")) := T.glo (T.fx 46)
theorem gl_small_mixes : mg "small_mixes" = some (.ref (He.ga K "small_mixes")) := T.glo (T.fx 47)
theorem gl_shorter_row : mg "shorter_row" = some (.ref (He.ga K "shorter_row")) := T.glo (T.fx 48)
theorem gl_shortened : mg "shortened" = some (.ref (He.ga K "shortened")) := T.glo (T.fx 49)
theorem gl_raw_fours : mg "raw_fours" = some (.ref (He.ga K "raw_fours")) := T.glo (T.fx 50)
theorem gl_fours_found : mg "fours_found" = some (.ref (He.ga K "fours_found")) := T.glo (T.fx 51)
theorem gl_units : mg "units" = some (.ref (He.ga K "units")) := T.glo (T.fx 52)
theorem gl__law_pot : mg "_law_pot" = some (.ref (He.ga K "_law_pot")) := T.glo (T.fx 53)
theorem gl__law_dip : mg "_law_dip" = some (.ref (He.ga K "_law_dip")) := T.glo (T.fx 54)
theorem gl__law_pick : mg "_law_pick" = some (.ref (He.ga K "_law_pick")) := T.glo (T.fx 55)
theorem gl__law_times : mg "_law_times" = some (.ref (He.ga K "_law_times")) := T.glo (T.fx 56)
theorem gl__law_norm : mg "_law_norm" = some (.ref (He.ga K "_law_norm")) := T.glo (T.fx 57)
theorem gl__law_four : mg "_law_four" = some (.ref (He.ga K "_law_four")) := T.glo (T.fx 58)
theorem gl__law_twice : mg "_law_twice" = some (.ref (He.ga K "_law_twice")) := T.glo (T.fx 59)
theorem gl__law_whole : mg "_law_whole" = some (.ref (He.ga K "_law_whole")) := T.glo (T.fx 60)
theorem gl__law_units : mg "_law_units" = some (.ref (He.ga K "_law_units")) := T.glo (T.fx 61)
theorem gl__law_is_whole : mg "_law_is_whole" = some (.ref (He.ga K "_law_is_whole")) := T.glo (T.fx 62)
theorem gl__law_near_right : mg "_law_near_right" = some (.ref (He.ga K "_law_near_right")) := T.glo (T.fx 63)
theorem gl__law_right : mg "_law_right" = some (.ref (He.ga K "_law_right")) := T.glo (T.fx 64)
theorem gl_law : mg "law" = some (.ref (He.ga K "law")) := T.glo (T.fx 65)
theorem gl_Terms : mg "Terms" = some (.ref (He.ga K "Terms")) := T.glo (T.fx 66)
theorem gl_Ratio : mg "Ratio" = some (.ref (He.ga K "Ratio")) := T.glo (T.fx 67)
theorem gl_Algebra : mg "Algebra" = some (.ref (He.ga K "Algebra")) := T.glo (T.fx 68)
theorem gl_Parts : mg "Parts" = some (.ref (He.ga K "Parts")) := T.glo (T.fx 69)
theorem gl_Four : mg "Four" = some (.ref (He.ga K "Four")) := T.glo (T.fx 70)
theorem gl_Made : mg "Made" = some (.ref (He.ga K "Made")) := T.glo (T.fx 71)
theorem gl_Lattice : mg "Lattice" = some (.ref (He.ga K "Lattice")) := T.glo (T.fx 72)
theorem gl_Weights : mg "Weights" = some (.ref (He.ga K "Weights")) := T.glo (T.fx 73)
theorem gl_SPOTS : mg "SPOTS" = some (.ref (He.ga K "SPOTS")) := T.glo (T.fx 74)
theorem gl_STEPS : mg "STEPS" = some (.ref (He.ga K "STEPS")) := T.glo (T.fx 75)
theorem gl_ONE_RAW : mg "ONE_RAW" = some (.ref (He.ga K "ONE_RAW")) := T.glo (T.fx 76)
theorem b_abs : mg "abs" = none := T.fre (T.fx 77)
theorem b_len : mg "len" = none := T.fre (T.fx 78)
theorem b_sum : mg "sum" = none := T.fre (T.fx 79)
theorem b_all : mg "all" = none := T.fre (T.fx 80)
theorem b_any : mg "any" = none := T.fre (T.fx 81)
theorem b_divmod : mg "divmod" = none := T.fre (T.fx 82)
theorem b_isinstance : mg "isinstance" = none := T.fre (T.fx 83)
theorem b_max : mg "max" = none := T.fre (T.fx 84)
theorem b_min : mg "min" = none := T.fre (T.fx 85)
theorem b_sorted : mg "sorted" = none := T.fre (T.fx 86)
theorem b_int : mg "int" = none := T.fre (T.fx 87)
theorem b_bool : mg "bool" = none := T.fre (T.fx 88)
theorem b_list : mg "list" = none := T.fre (T.fx 89)
theorem b_tuple : mg "tuple" = none := T.fre (T.fx 90)
theorem b_range : mg "range" = none := T.fre (T.fx 91)
theorem b_zip : mg "zip" = none := T.fre (T.fx 92)
theorem b_enumerate : mg "enumerate" = none := T.fre (T.fx 93)
theorem b_isqrt : mg "isqrt" = some (.builtin "math.isqrt") := T.bqs
theorem k_BEYOND : GlD (clK K) K mg "BEYOND" k_BEYOND := T.int_ (T.fx 94)
theorem k_MAX_NUMBER : GlD (clK K) K mg "MAX_NUMBER" k_MAX_NUMBER := T.int_ (T.fx 95)
theorem k_REAL : GlD (clK K) K mg "REAL" k_REAL := T.int_ (T.fx 96)
theorem k_MANY_ENTRIES : GlD (clK K) K mg "MANY_ENTRIES" k_MANY_ENTRIES := T.int_ (T.fx 97)
theorem k_SPOTS : GlD (clK K) K mg "SPOTS" k_SPOTS := T.tup_ (vs := [0, 1, 2, 3]) (T.fx 99) T.gl_SPOTS
theorem k_STEPS : GlD (clK K) K mg "STEPS" k_STEPS := T.tup_ (vs := [-1, 0, 1]) (T.fx 100) T.gl_STEPS
theorem k_ONE_RAW : GlD (clK K) K mg "ONE_RAW" k_ONE_RAW := T.tup_ (vs := [1, 0, 0, 0]) (T.fx 101) T.gl_ONE_RAW
theorem k_Terms : GlD (clK K) K mg "Terms" (.cls 0) := T.cls_ (c := 0) T.gl_Terms
theorem cls_0 : SCls K (clK K 0) := (T.scls (T.fx 102)).1
theorem isi_0 : SIsi K (clK K 0) := (T.scls (T.fx 102)).2
theorem mk_0 : Mk K (clK K 0) (He.ma K (clK K 0) "__init__") := T.mk_ (T.fx 110)
theorem k_Ratio : GlD (clK K) K mg "Ratio" (.cls 1) := T.cls_ (c := 1) T.gl_Ratio
theorem cls_1 : SCls K (clK K 1) := (T.scls (T.fx 103)).1
theorem isi_1 : SIsi K (clK K 1) := (T.scls (T.fx 103)).2
theorem mk_1 : Mk K (clK K 1) (He.ma K (clK K 1) "__init__") := T.mk_ (T.fx 111)
theorem k_Algebra : GlD (clK K) K mg "Algebra" (.cls 2) := T.cls_ (c := 2) T.gl_Algebra
theorem cls_2 : SCls K (clK K 2) := (T.scls (T.fx 104)).1
theorem isi_2 : SIsi K (clK K 2) := (T.scls (T.fx 104)).2
theorem mk_2 : Mk K (clK K 2) (He.ma K (clK K 2) "__init__") := T.mk_ (T.fx 112)
theorem k_Parts : GlD (clK K) K mg "Parts" (.cls 3) := T.cls_ (c := 3) T.gl_Parts
theorem cls_3 : SCls K (clK K 3) := (T.scls (T.fx 105)).1
theorem isi_3 : SIsi K (clK K 3) := (T.scls (T.fx 105)).2
theorem mk_3 : Mk K (clK K 3) (He.ma K (clK K 3) "__init__") := T.mk_ (T.fx 113)
theorem k_Four : GlD (clK K) K mg "Four" (.cls 4) := T.cls_ (c := 4) T.gl_Four
theorem cls_4 : SCls K (clK K 4) := (T.scls (T.fx 106)).1
theorem isi_4 : SIsi K (clK K 4) := (T.scls (T.fx 106)).2
theorem mk_4 : Mk K (clK K 4) (He.ma K (clK K 4) "__init__") := T.mk_ (T.fx 114)
theorem k_Made : GlD (clK K) K mg "Made" (.cls 5) := T.cls_ (c := 5) T.gl_Made
theorem cls_5 : SCls K (clK K 5) := (T.scls (T.fx 107)).1
theorem isi_5 : SIsi K (clK K 5) := (T.scls (T.fx 107)).2
theorem mk_5 : Mk K (clK K 5) (He.ma K (clK K 5) "__init__") := T.mk_ (T.fx 115)
theorem k_Lattice : GlD (clK K) K mg "Lattice" (.cls 6) := T.cls_ (c := 6) T.gl_Lattice
theorem cls_6 : SCls K (clK K 6) := (T.scls (T.fx 108)).1
theorem isi_6 : SIsi K (clK K 6) := (T.scls (T.fx 108)).2
theorem mk_6 : Mk K (clK K 6) (He.ma K (clK K 6) "__init__") := T.mk_ (T.fx 116)
theorem k_Weights : GlD (clK K) K mg "Weights" (.cls 7) := T.cls_ (c := 7) T.gl_Weights
theorem cls_7 : SCls K (clK K 7) := (T.scls (T.fx 109)).1
theorem isi_7 : SIsi K (clK K 7) := (T.scls (T.fx 109)).2
theorem mk_7 : Mk K (clK K 7) (He.ma K (clK K 7) "__init__") := T.mk_ (T.fx 117)
theorem s_own_bottom : FldF K (clK K) "own_bottom" l_own_bottom := ⟨fun c i h => by
  unfold l_own_bottom at h
  split at h
  · cases h; exact ⟨T.cls_0, _, T.slot_ (T.fx 118)⟩
  · cases h; exact ⟨T.cls_1, _, T.slot_ (T.fx 119)⟩
  · cases h; exact ⟨T.cls_3, _, T.slot_ (T.fx 120)⟩
  · cases h; exact ⟨T.cls_4, _, T.slot_ (T.fx 121)⟩
  · cases h; exact ⟨T.cls_5, _, T.slot_ (T.fx 122)⟩
  · cases h; exact ⟨T.cls_6, _, T.slot_ (T.fx 123)⟩
  · cases h⟩
theorem s_own_top : FldF K (clK K) "own_top" l_own_top := ⟨fun c i h => by
  unfold l_own_top at h
  split at h
  · cases h; exact ⟨T.cls_0, _, T.slot_ (T.fx 124)⟩
  · cases h; exact ⟨T.cls_1, _, T.slot_ (T.fx 125)⟩
  · cases h⟩
theorem s_own_a : FldF K (clK K) "own_a" l_own_a := ⟨fun c i h => by
  unfold l_own_a at h
  split at h
  · cases h; exact ⟨T.cls_2, _, T.slot_ (T.fx 126)⟩
  · cases h⟩
theorem s_own_b : FldF K (clK K) "own_b" l_own_b := ⟨fun c i h => by
  unfold l_own_b at h
  split at h
  · cases h; exact ⟨T.cls_2, _, T.slot_ (T.fx 127)⟩
  · cases h⟩
theorem s_own_discriminant : FldF K (clK K) "own_discriminant" l_own_discriminant := ⟨fun c i h => by
  unfold l_own_discriminant at h
  split at h
  · cases h; exact ⟨T.cls_2, _, T.slot_ (T.fx 128)⟩
  · cases h⟩
theorem s_own_places : FldF K (clK K) "own_places" l_own_places := ⟨fun c i h => by
  unfold l_own_places at h
  split at h
  · cases h; exact ⟨T.cls_2, _, T.slot_ (T.fx 129)⟩
  · cases h⟩
theorem s_own_entries : FldF K (clK K) "own_entries" l_own_entries := ⟨fun c i h => by
  unfold l_own_entries at h
  split at h
  · cases h; exact ⟨T.cls_3, _, T.slot_ (T.fx 130)⟩
  · cases h; exact ⟨T.cls_4, _, T.slot_ (T.fx 131)⟩
  · cases h⟩
theorem s_own_algebra : FldF K (clK K) "own_algebra" l_own_algebra := ⟨fun c i h => by
  unfold l_own_algebra at h
  split at h
  · cases h; exact ⟨T.cls_4, _, T.slot_ (T.fx 132)⟩
  · cases h; exact ⟨T.cls_6, _, T.slot_ (T.fx 133)⟩
  · cases h⟩
theorem s_own_rows : FldF K (clK K) "own_rows" l_own_rows := ⟨fun c i h => by
  unfold l_own_rows at h
  split at h
  · cases h; exact ⟨T.cls_5, _, T.slot_ (T.fx 134)⟩
  · cases h; exact ⟨T.cls_6, _, T.slot_ (T.fx 135)⟩
  · cases h; exact ⟨T.cls_7, _, T.slot_ (T.fx 136)⟩
  · cases h⟩
theorem s_own_bounds : FldF K (clK K) "own_bounds" l_own_bounds := ⟨fun c i h => by
  unfold l_own_bounds at h
  split at h
  · cases h; exact ⟨T.cls_7, _, T.slot_ (T.fx 137)⟩
  · cases h⟩
theorem s_own_table : FldF K (clK K) "own_table" l_own_table := ⟨fun c i h => by
  unfold l_own_table at h
  split at h
  · cases h; exact ⟨T.cls_7, _, T.slot_ (T.fx 138)⟩
  · cases h⟩
theorem s_own_whole : FldF K (clK K) "own_whole" l_own_whole := ⟨fun c i h => by
  unfold l_own_whole at h
  split at h
  · cases h; exact ⟨T.cls_7, _, T.slot_ (T.fx 139)⟩
  · cases h⟩
theorem me_Ratio___eq__ : Meth K (clK K 1) "__eq__" (a_Ratio___eq__ K) := T.meth_ (T.fx 140)
theorem me_Algebra___eq__ : Meth K (clK K 2) "__eq__" (a_Algebra___eq__ K) := T.meth_ (T.fx 141)
theorem me_Four_mate : Meth K (clK K 4) "mate" (a_Four_mate K) := T.meth_ (T.fx 142)
theorem me_Four_inverse : Meth K (clK K 4) "inverse" (a_Four_inverse K) := T.meth_ (T.fx 143)
theorem me_Four___add__ : Meth K (clK K 4) "__add__" (a_Four___add__ K) := T.meth_ (T.fx 144)
theorem me_Four___neg__ : Meth K (clK K 4) "__neg__" (a_Four___neg__ K) := T.meth_ (T.fx 145)
theorem me_Four___sub__ : Meth K (clK K 4) "__sub__" (a_Four___sub__ K) := T.meth_ (T.fx 146)
theorem me_Four___mul__ : Meth K (clK K 4) "__mul__" (a_Four___mul__ K) := T.meth_ (T.fx 147)
theorem me_Four___eq__ : Meth K (clK K 4) "__eq__" (a_Four___eq__ K) := T.meth_ (T.fx 148)
theorem me_Lattice___contains__ : Meth K (clK K 6) "__contains__" (a_Lattice___contains__ K) := T.meth_ (T.fx 149)
theorem me_Weights_most_at : Meth K (clK K 7) "most_at" (a_Weights_most_at K) := T.meth_ (T.fx 150)
theorem me_Weights_starts : Meth K (clK K 7) "starts" (a_Weights_starts K) := T.meth_ (T.fx 151)
theorem me_Weights_sums_with : Meth K (clK K 7) "sums_with" (a_Weights_sums_with K) := T.meth_ (T.fx 152)
theorem prop_Algebra_is_definite : ∃ p rest, PySem.W.findIn K (.ref (clK K 2)) "is_definite" = some (some (.ref p)) ∧ PySem.W.specialIn K (.ref p) "__get__" = some (some (.builtin "property.__get__")) ∧ PySem.W.takesIn K (.ref p) = some true ∧ PySem.W.recIn K p "property" = some (.ref (a_Algebra_is_definite K) :: rest) := T.prop_ (T.fx 153)
theorem prop_Four_algebra : ∃ p rest, PySem.W.findIn K (.ref (clK K 4)) "algebra" = some (some (.ref p)) ∧ PySem.W.specialIn K (.ref p) "__get__" = some (some (.builtin "property.__get__")) ∧ PySem.W.takesIn K (.ref p) = some true ∧ PySem.W.recIn K p "property" = some (.ref (a_Four_algebra K) :: rest) := T.prop_ (T.fx 154)
theorem prop_Four_entries : ∃ p rest, PySem.W.findIn K (.ref (clK K 4)) "entries" = some (some (.ref p)) ∧ PySem.W.specialIn K (.ref p) "__get__" = some (some (.builtin "property.__get__")) ∧ PySem.W.takesIn K (.ref p) = some true ∧ PySem.W.recIn K p "property" = some (.ref (a_Four_entries K) :: rest) := T.prop_ (T.fx 155)
theorem prop_Four_bottom : ∃ p rest, PySem.W.findIn K (.ref (clK K 4)) "bottom" = some (some (.ref p)) ∧ PySem.W.specialIn K (.ref p) "__get__" = some (some (.builtin "property.__get__")) ∧ PySem.W.takesIn K (.ref p) = some true ∧ PySem.W.recIn K p "property" = some (.ref (a_Four_bottom K) :: rest) := T.prop_ (T.fx 156)
theorem prop_Four_norm : ∃ p rest, PySem.W.findIn K (.ref (clK K 4)) "norm" = some (some (.ref p)) ∧ PySem.W.specialIn K (.ref p) "__get__" = some (some (.builtin "property.__get__")) ∧ PySem.W.takesIn K (.ref p) = some true ∧ PySem.W.recIn K p "property" = some (.ref (a_Four_norm K) :: rest) := T.prop_ (T.fx 157)
theorem prop_Lattice_algebra : ∃ p rest, PySem.W.findIn K (.ref (clK K 6)) "algebra" = some (some (.ref p)) ∧ PySem.W.specialIn K (.ref p) "__get__" = some (some (.builtin "property.__get__")) ∧ PySem.W.takesIn K (.ref p) = some true ∧ PySem.W.recIn K p "property" = some (.ref (a_Lattice_algebra K) :: rest) := T.prop_ (T.fx 158)
theorem ne_1 : NeF K (clK K 1) := T.ne_ (T.fx 159)
theorem ne_2 : NeF K (clK K 2) := T.ne_ (T.fx 160)
theorem ne_4 : NeF K (clK K 4) := T.ne_ (T.fx 161)
theorem first_4 : PySem.W.selfFirst K (clK K 4) = true := T.fx (f := .first 4) 162
theorem isi : IsiF K (clK K) isiT := by
  have h1 := (Bool.and_eq_true_iff.mp (Bool.and_eq_true_iff.mp T.ok).2).1
  refine ⟨fun k t b h => ?_, fun k c b h => ?_⟩
  · exact of_decide_eq_true (List.all_eq_true.mp h1 _ (mem_lookupT h))
  · have hm := mem_lookupT h
    unfold isiL at hm
    simp only [List.mem_cons, Prod.mk.injEq, Tg.cl.injEq, reduceCtorEq, false_and, and_false, false_or, or_false, List.not_mem_nil] at hm
    have : c = 0 ∨ c = 1 ∨ c = 2 ∨ c = 3 ∨ c = 4 ∨ c = 5 ∨ c = 6 := by omega
    rcases this with rfl | rfl | rfl | rfl | rfl | rfl | rfl
    · exact ⟨T.cls_0, T.isi_0⟩
    · exact ⟨T.cls_1, T.isi_1⟩
    · exact ⟨T.cls_2, T.isi_2⟩
    · exact ⟨T.cls_3, T.isi_3⟩
    · exact ⟨T.cls_4, T.isi_4⟩
    · exact ⟨T.cls_5, T.isi_5⟩
    · exact ⟨T.cls_6, T.isi_6⟩
theorem nf : NfF K (clK K) nfT := by
  have h1 := (Bool.and_eq_true_iff.mp (Bool.and_eq_true_iff.mp T.ok).2).2
  refine ⟨fun c t h => ?_⟩
  have hm : (c, t) ∈ nfL := by simpa [nfT] using h
  refine ⟨List.all_eq_true.mp h1 _ hm, ?_⟩
  unfold nfL at hm
  simp only [List.mem_cons, Prod.mk.injEq, List.not_mem_nil, or_false] at hm
  rcases hm with ⟨_, rfl⟩ | ⟨_, rfl⟩ | ⟨_, rfl⟩ | ⟨_, rfl⟩
  · exact .inr rfl
  · exact .inl ⟨1, rfl⟩
  · exact .inl ⟨2, rfl⟩
  · exact .inl ⟨4, rfl⟩
theorem fn_is_whole_ratios : ∃ fd, L2.FunD K "is_whole" q_is_whole_ratios (defArgs s_is_whole_ratios) (defBody s_is_whole_ratios) (defScope s_is_whole_ratios) [] [] (a_is_whole_ratios K) fd := T.fn d_is_whole_ratios (List.mem_of_getElem? (i := 0) rfl)
theorem fn_is_integer : ∃ fd, L2.FunD K "is_integer" q_is_integer (defArgs s_is_integer) (defBody s_is_integer) (defScope s_is_integer) [] [] (a_is_integer K) fd := T.fn d_is_integer (List.mem_of_getElem? (i := 1) rfl)
theorem fn_common_of : ∃ fd, L2.FunD K "common_of" q_common_of (defArgs s_common_of) (defBody s_common_of) (defScope s_common_of) [] [] (a_common_of K) fd := T.fn d_common_of (List.mem_of_getElem? (i := 2) rfl)
theorem fn_Terms___init__ : ∃ fd, L2.FunD K "__init__" q_Terms___init__ (defArgs s_Terms___init__) (defBody s_Terms___init__) (defScope s_Terms___init__) [] [] (a_Terms___init__ K) fd := T.fn d_Terms___init__ (List.mem_of_getElem? (i := 3) rfl)
theorem fn_Ratio___init__ : ∃ fd, L2.FunD K "__init__" q_Ratio___init__ (defArgs s_Ratio___init__) (defBody s_Ratio___init__) (defScope s_Ratio___init__) [.int 1] [] (a_Ratio___init__ K) fd := T.fn d_Ratio___init__ (List.mem_of_getElem? (i := 4) rfl)
theorem fn_ratio_of : ∃ fd, L2.FunD K "ratio_of" q_ratio_of (defArgs s_ratio_of) (defBody s_ratio_of) (defScope s_ratio_of) [] [] (a_ratio_of K) fd := T.fn d_ratio_of (List.mem_of_getElem? (i := 5) rfl)
theorem fn_Ratio___eq__ : ∃ fd, L2.FunD K "__eq__" q_Ratio___eq__ (defArgs s_Ratio___eq__) (defBody s_Ratio___eq__) (defScope s_Ratio___eq__) [] [] (a_Ratio___eq__ K) fd := T.fn d_Ratio___eq__ (List.mem_of_getElem? (i := 6) rfl)
theorem fn_is_number : ∃ fd, L2.FunD K "is_number" q_is_number (defArgs s_is_number) (defBody s_is_number) (defScope s_is_number) [] [] (a_is_number K) fd := T.fn d_is_number (List.mem_of_getElem? (i := 7) rfl)
theorem fn_require_number : ∃ fd, L2.FunD K "require_number" q_require_number (defArgs s_require_number) (defBody s_require_number) (defScope s_require_number) [] [] (a_require_number K) fd := T.fn d_require_number (List.mem_of_getElem? (i := 8) rfl)
theorem fn_parted_by : ∃ fd, L2.FunD K "parted_by" q_parted_by (defArgs s_parted_by) (defBody s_parted_by) (defScope s_parted_by) [] [] (a_parted_by K) fd := T.fn d_parted_by (List.mem_of_getElem? (i := 9) rfl)
theorem fn_raw_product : ∃ fd, L2.FunD K "raw_product" q_raw_product (defArgs s_raw_product) (defBody s_raw_product) (defScope s_raw_product) [] [] (a_raw_product K) fd := T.fn d_raw_product (List.mem_of_getElem? (i := 10) rfl)
theorem fn_raw_mate : ∃ fd, L2.FunD K "raw_mate" q_raw_mate (defArgs s_raw_mate) (defBody s_raw_mate) (defScope s_raw_mate) [] [] (a_raw_mate K) fd := T.fn d_raw_mate (List.mem_of_getElem? (i := 11) rfl)
theorem fn_raw_norm : ∃ fd, L2.FunD K "raw_norm" q_raw_norm (defArgs s_raw_norm) (defBody s_raw_norm) (defScope s_raw_norm) [] [] (a_raw_norm K) fd := T.fn d_raw_norm (List.mem_of_getElem? (i := 12) rfl)
theorem fn_sign_by_two : ∃ fd, L2.FunD K "sign_by_two" q_sign_by_two (defArgs s_sign_by_two) (defBody s_sign_by_two) (defScope s_sign_by_two) [] [] (a_sign_by_two K) fd := T.fn d_sign_by_two (List.mem_of_getElem? (i := 13) rfl)
theorem fn_sign_by_prime : ∃ fd, L2.FunD K "sign_by_prime" q_sign_by_prime (defArgs s_sign_by_prime) (defBody s_sign_by_prime) (defScope s_sign_by_prime) [] [] (a_sign_by_prime K) fd := T.fn d_sign_by_prime (List.mem_of_getElem? (i := 14) rfl)
theorem fn_sign_of : ∃ fd, L2.FunD K "sign_of" q_sign_of (defArgs s_sign_of) (defBody s_sign_of) (defScope s_sign_of) [] [] (a_sign_of K) fd := T.fn d_sign_of (List.mem_of_getElem? (i := 15) rfl)
theorem fn_factors_of : ∃ fd, L2.FunD K "factors_of" q_factors_of (defArgs s_factors_of) (defBody s_factors_of) (defScope s_factors_of) [] [] (a_factors_of K) fd := T.fn d_factors_of (List.mem_of_getElem? (i := 16) rfl)
theorem fn_places_of : ∃ fd, L2.FunD K "places_of" q_places_of (defArgs s_places_of) (defBody s_places_of) (defScope s_places_of) [] [] (a_places_of K) fd := T.fn d_places_of (List.mem_of_getElem? (i := 17) rfl)
theorem fn_lowest : ∃ fd, L2.FunD K "lowest" q_lowest (defArgs s_lowest) (defBody s_lowest) (defScope s_lowest) [] [] (a_lowest K) fd := T.fn d_lowest (List.mem_of_getElem? (i := 18) rfl)
theorem fn_Algebra___init__ : ∃ fd, L2.FunD K "__init__" q_Algebra___init__ (defArgs s_Algebra___init__) (defBody s_Algebra___init__) (defScope s_Algebra___init__) [] [] (a_Algebra___init__ K) fd := T.fn d_Algebra___init__ (List.mem_of_getElem? (i := 19) rfl)
theorem fn_Algebra_is_definite : ∃ fd, L2.FunD K "is_definite" q_Algebra_is_definite (defArgs s_Algebra_is_definite) (defBody s_Algebra_is_definite) (defScope s_Algebra_is_definite) [] [] (a_Algebra_is_definite K) fd := T.fn d_Algebra_is_definite (List.mem_of_getElem? (i := 20) rfl)
theorem fn_Algebra___eq__ : ∃ fd, L2.FunD K "__eq__" q_Algebra___eq__ (defArgs s_Algebra___eq__) (defBody s_Algebra___eq__) (defScope s_Algebra___eq__) [] [] (a_Algebra___eq__ K) fd := T.fn d_Algebra___eq__ (List.mem_of_getElem? (i := 21) rfl)
theorem fn_Parts___init__ : ∃ fd, L2.FunD K "__init__" q_Parts___init__ (defArgs s_Parts___init__) (defBody s_Parts___init__) (defScope s_Parts___init__) [] [] (a_Parts___init__ K) fd := T.fn d_Parts___init__ (List.mem_of_getElem? (i := 22) rfl)
theorem fn_parts_told : ∃ fd, L2.FunD K "parts_told" q_parts_told (defArgs s_parts_told) (defBody s_parts_told) (defScope s_parts_told) [] [] (a_parts_told K) fd := T.fn d_parts_told (List.mem_of_getElem? (i := 23) rfl)
theorem fn_require_algebra : ∃ fd, L2.FunD K "require_algebra" q_require_algebra (defArgs s_require_algebra) (defBody s_require_algebra) (defScope s_require_algebra) [] [] (a_require_algebra K) fd := T.fn d_require_algebra (List.mem_of_getElem? (i := 24) rfl)
theorem fn_Four___init__ : ∃ fd, L2.FunD K "__init__" q_Four___init__ (defArgs s_Four___init__) (defBody s_Four___init__) (defScope s_Four___init__) [.int 1] [] (a_Four___init__ K) fd := T.fn d_Four___init__ (List.mem_of_getElem? (i := 25) rfl)
theorem fn_four_made : ∃ fd, L2.FunD K "four_made" q_four_made (defArgs s_four_made) (defBody s_four_made) (defScope s_four_made) [.int 1] [] (a_four_made K) fd := T.fn d_four_made (List.mem_of_getElem? (i := 26) rfl)
theorem fn_Four_algebra : ∃ fd, L2.FunD K "algebra" q_Four_algebra (defArgs s_Four_algebra) (defBody s_Four_algebra) (defScope s_Four_algebra) [] [] (a_Four_algebra K) fd := T.fn d_Four_algebra (List.mem_of_getElem? (i := 27) rfl)
theorem fn_Four_entries : ∃ fd, L2.FunD K "entries" q_Four_entries (defArgs s_Four_entries) (defBody s_Four_entries) (defScope s_Four_entries) [] [] (a_Four_entries K) fd := T.fn d_Four_entries (List.mem_of_getElem? (i := 28) rfl)
theorem fn_Four_bottom : ∃ fd, L2.FunD K "bottom" q_Four_bottom (defArgs s_Four_bottom) (defBody s_Four_bottom) (defScope s_Four_bottom) [] [] (a_Four_bottom K) fd := T.fn d_Four_bottom (List.mem_of_getElem? (i := 29) rfl)
theorem fn_Four_norm : ∃ fd, L2.FunD K "norm" q_Four_norm (defArgs s_Four_norm) (defBody s_Four_norm) (defScope s_Four_norm) [] [] (a_Four_norm K) fd := T.fn d_Four_norm (List.mem_of_getElem? (i := 30) rfl)
theorem fn_Four_mate : ∃ fd, L2.FunD K "mate" q_Four_mate (defArgs s_Four_mate) (defBody s_Four_mate) (defScope s_Four_mate) [] [] (a_Four_mate K) fd := T.fn d_Four_mate (List.mem_of_getElem? (i := 31) rfl)
theorem fn_Four_inverse : ∃ fd, L2.FunD K "inverse" q_Four_inverse (defArgs s_Four_inverse) (defBody s_Four_inverse) (defScope s_Four_inverse) [] [] (a_Four_inverse K) fd := T.fn d_Four_inverse (List.mem_of_getElem? (i := 32) rfl)
theorem fn_require_same_algebra : ∃ fd, L2.FunD K "require_same_algebra" q_require_same_algebra (defArgs s_require_same_algebra) (defBody s_require_same_algebra) (defScope s_require_same_algebra) [] [] (a_require_same_algebra K) fd := T.fn d_require_same_algebra (List.mem_of_getElem? (i := 33) rfl)
theorem fn_Four___add__ : ∃ fd, L2.FunD K "__add__" q_Four___add__ (defArgs s_Four___add__) (defBody s_Four___add__) (defScope s_Four___add__) [] [] (a_Four___add__ K) fd := T.fn d_Four___add__ (List.mem_of_getElem? (i := 34) rfl)
theorem fn_Four___neg__ : ∃ fd, L2.FunD K "__neg__" q_Four___neg__ (defArgs s_Four___neg__) (defBody s_Four___neg__) (defScope s_Four___neg__) [] [] (a_Four___neg__ K) fd := T.fn d_Four___neg__ (List.mem_of_getElem? (i := 35) rfl)
theorem fn_Four___sub__ : ∃ fd, L2.FunD K "__sub__" q_Four___sub__ (defArgs s_Four___sub__) (defBody s_Four___sub__) (defScope s_Four___sub__) [] [] (a_Four___sub__ K) fd := T.fn d_Four___sub__ (List.mem_of_getElem? (i := 36) rfl)
theorem fn_Four___mul__ : ∃ fd, L2.FunD K "__mul__" q_Four___mul__ (defArgs s_Four___mul__) (defBody s_Four___mul__) (defScope s_Four___mul__) [] [] (a_Four___mul__ K) fd := T.fn d_Four___mul__ (List.mem_of_getElem? (i := 37) rfl)
theorem fn_Four___eq__ : ∃ fd, L2.FunD K "__eq__" q_Four___eq__ (defArgs s_Four___eq__) (defBody s_Four___eq__) (defScope s_Four___eq__) [] [] (a_Four___eq__ K) fd := T.fn d_Four___eq__ (List.mem_of_getElem? (i := 38) rfl)
theorem fn_is_four_of : ∃ fd, L2.FunD K "is_four_of" q_is_four_of (defArgs s_is_four_of) (defBody s_is_four_of) (defScope s_is_four_of) [] [] (a_is_four_of K) fd := T.fn d_is_four_of (List.mem_of_getElem? (i := 39) rfl)
theorem fn_require_definite : ∃ fd, L2.FunD K "require_definite" q_require_definite (defArgs s_require_definite) (defBody s_require_definite) (defScope s_require_definite) [] [] (a_require_definite K) fd := T.fn d_require_definite (List.mem_of_getElem? (i := 40) rfl)
theorem fn_row_less : ∃ fd, L2.FunD K "row_less" q_row_less (defArgs s_row_less) (defBody s_row_less) (defScope s_row_less) [] [] (a_row_less K) fd := T.fn d_row_less (List.mem_of_getElem? (i := 41) rfl)
theorem fn_led_rows : ∃ fd, L2.FunD K "led_rows" q_led_rows (defArgs s_led_rows) (defBody s_led_rows) (defScope s_led_rows) [] [] (a_led_rows K) fd := T.fn d_led_rows (List.mem_of_getElem? (i := 42) rfl)
theorem fn_plain_rows : ∃ fd, L2.FunD K "plain_rows" q_plain_rows (defArgs s_plain_rows) (defBody s_plain_rows) (defScope s_plain_rows) [] [] (a_plain_rows K) fd := T.fn d_plain_rows (List.mem_of_getElem? (i := 43) rfl)
theorem fn_are_rows_with : ∃ fd, L2.FunD K "are_rows_with" q_are_rows_with (defArgs s_are_rows_with) (defBody s_are_rows_with) (defScope s_are_rows_with) [] [] (a_are_rows_with K) fd := T.fn d_are_rows_with (List.mem_of_getElem? (i := 44) rfl)
theorem fn_lowered : ∃ fd, L2.FunD K "lowered" q_lowered (defArgs s_lowered) (defBody s_lowered) (defScope s_lowered) [] [] (a_lowered K) fd := T.fn d_lowered (List.mem_of_getElem? (i := 45) rfl)
theorem fn_minor : ∃ fd, L2.FunD K "minor" q_minor (defArgs s_minor) (defBody s_minor) (defScope s_minor) [] [] (a_minor K) fd := T.fn d_minor (List.mem_of_getElem? (i := 46) rfl)
theorem fn_cofactors : ∃ fd, L2.FunD K "cofactors" q_cofactors (defArgs s_cofactors) (defBody s_cofactors) (defScope s_cofactors) [] [] (a_cofactors K) fd := T.fn d_cofactors (List.mem_of_getElem? (i := 47) rfl)
theorem fn_determinant : ∃ fd, L2.FunD K "determinant" q_determinant (defArgs s_determinant) (defBody s_determinant) (defScope s_determinant) [] [] (a_determinant K) fd := T.fn d_determinant (List.mem_of_getElem? (i := 48) rfl)
theorem fn_Made___init__ : ∃ fd, L2.FunD K "__init__" q_Made___init__ (defArgs s_Made___init__) (defBody s_Made___init__) (defScope s_Made___init__) [] [] (a_Made___init__ K) fd := T.fn d_Made___init__ (List.mem_of_getElem? (i := 49) rfl)
theorem fn_told_by : ∃ fd, L2.FunD K "told_by" q_told_by (defArgs s_told_by) (defBody s_told_by) (defScope s_told_by) [] [] (a_told_by K) fd := T.fn d_told_by (List.mem_of_getElem? (i := 50) rfl)
theorem fn_Lattice___init__ : ∃ fd, L2.FunD K "__init__" q_Lattice___init__ (defArgs s_Lattice___init__) (defBody s_Lattice___init__) (defScope s_Lattice___init__) [] [] (a_Lattice___init__ K) fd := T.fn d_Lattice___init__ (List.mem_of_getElem? (i := 51) rfl)
theorem fn_Lattice_algebra : ∃ fd, L2.FunD K "algebra" q_Lattice_algebra (defArgs s_Lattice_algebra) (defBody s_Lattice_algebra) (defScope s_Lattice_algebra) [] [] (a_Lattice_algebra K) fd := T.fn d_Lattice_algebra (List.mem_of_getElem? (i := 52) rfl)
theorem fn_product_raw : ∃ fd, L2.FunD K "product_raw" q_product_raw (defArgs s_product_raw) (defBody s_product_raw) (defScope s_product_raw) [] [] (a_product_raw K) fd := T.fn d_product_raw (List.mem_of_getElem? (i := 53) rfl)
theorem fn_has_raw : ∃ fd, L2.FunD K "has_raw" q_has_raw (defArgs s_has_raw) (defBody s_has_raw) (defScope s_has_raw) [] [] (a_has_raw K) fd := T.fn d_has_raw (List.mem_of_getElem? (i := 54) rfl)
theorem fn_Lattice___contains__ : ∃ fd, L2.FunD K "__contains__" q_Lattice___contains__ (defArgs s_Lattice___contains__) (defBody s_Lattice___contains__) (defScope s_Lattice___contains__) [] [] (a_Lattice___contains__ K) fd := T.fn d_Lattice___contains__ (List.mem_of_getElem? (i := 55) rfl)
theorem fn_lattice_with : ∃ fd, L2.FunD K "lattice_with" q_lattice_with (defArgs s_lattice_with) (defBody s_lattice_with) (defScope s_lattice_with) [] [] (a_lattice_with K) fd := T.fn d_lattice_with (List.mem_of_getElem? (i := 56) rfl)
theorem fn_norm_top : ∃ fd, L2.FunD K "norm_top" q_norm_top (defArgs s_norm_top) (defBody s_norm_top) (defScope s_norm_top) [] [] (a_norm_top K) fd := T.fn d_norm_top (List.mem_of_getElem? (i := 57) rfl)
theorem fn_is_whole_hurwitz : ∃ fd, L2.FunD K "is_whole" q_is_whole_hurwitz (defArgs s_is_whole_hurwitz) (defBody s_is_whole_hurwitz) (defScope s_is_whole_hurwitz) [] [] (a_is_whole_hurwitz K) fd := T.fn d_is_whole_hurwitz (List.mem_of_getElem? (i := 58) rfl)
theorem fn_whole_lattice : ∃ fd, L2.FunD K "whole_lattice" q_whole_lattice (defArgs s_whole_lattice) (defBody s_whole_lattice) (defScope s_whole_lattice) [] [] (a_whole_lattice K) fd := T.fn d_whole_lattice (List.mem_of_getElem? (i := 59) rfl)
theorem fn_found_outside : ∃ fd, L2.FunD K "found_outside" q_found_outside (defArgs s_found_outside) (defBody s_found_outside) (defScope s_found_outside) [] [] (a_found_outside K) fd := T.fn d_found_outside (List.mem_of_getElem? (i := 60) rfl)
theorem fn_is_order : ∃ fd, L2.FunD K "is_order" q_is_order (defArgs s_is_order) (defBody s_is_order) (defScope s_is_order) [] [] (a_is_order K) fd := T.fn d_is_order (List.mem_of_getElem? (i := 61) rfl)
theorem fn_require_order : ∃ fd, L2.FunD K "require_order" q_require_order (defArgs s_require_order) (defBody s_require_order) (defScope s_require_order) [] [] (a_require_order K) fd := T.fn d_require_order (List.mem_of_getElem? (i := 62) rfl)
theorem fn_trace_table : ∃ fd, L2.FunD K "trace_table" q_trace_table (defArgs s_trace_table) (defBody s_trace_table) (defScope s_trace_table) [] [] (a_trace_table K) fd := T.fn d_trace_table (List.mem_of_getElem? (i := 63) rfl)
theorem fn_discriminant_of : ∃ fd, L2.FunD K "discriminant_of" q_discriminant_of (defArgs s_discriminant_of) (defBody s_discriminant_of) (defScope s_discriminant_of) [] [] (a_discriminant_of K) fd := T.fn d_discriminant_of (List.mem_of_getElem? (i := 64) rfl)
theorem fn_order_discriminant : ∃ fd, L2.FunD K "order_discriminant" q_order_discriminant (defArgs s_order_discriminant) (defBody s_order_discriminant) (defScope s_order_discriminant) [] [] (a_order_discriminant K) fd := T.fn d_order_discriminant (List.mem_of_getElem? (i := 65) rfl)
theorem fn_is_greatest_order : ∃ fd, L2.FunD K "is_greatest_order" q_is_greatest_order (defArgs s_is_greatest_order) (defBody s_is_greatest_order) (defScope s_is_greatest_order) [] [] (a_is_greatest_order K) fd := T.fn d_is_greatest_order (List.mem_of_getElem? (i := 66) rfl)
theorem fn_is_greatest : ∃ fd, L2.FunD K "is_greatest" q_is_greatest (defArgs s_is_greatest) (defBody s_is_greatest) (defScope s_is_greatest) [] [] (a_is_greatest K) fd := T.fn d_is_greatest (List.mem_of_getElem? (i := 67) rfl)
theorem fn_twice_inner : ∃ fd, L2.FunD K "twice_inner" q_twice_inner (defArgs s_twice_inner) (defBody s_twice_inner) (defScope s_twice_inner) [] [] (a_twice_inner K) fd := T.fn d_twice_inner (List.mem_of_getElem? (i := 68) rfl)
theorem fn_shortened_by_pairs : ∃ fd, L2.FunD K "shortened_by_pairs" q_shortened_by_pairs (defArgs s_shortened_by_pairs) (defBody s_shortened_by_pairs) (defScope s_shortened_by_pairs) [] [] (a_shortened_by_pairs K) fd := T.fn d_shortened_by_pairs (List.mem_of_getElem? (i := 69) rfl)
theorem fn_small_mixes : ∃ fd, L2.FunD K "small_mixes" q_small_mixes (defArgs s_small_mixes) (defBody s_small_mixes) (defScope s_small_mixes) [] [] (a_small_mixes K) fd := T.fn d_small_mixes (List.mem_of_getElem? (i := 70) rfl)
theorem fn_shorter_row : ∃ fd, L2.FunD K "shorter_row" q_shorter_row (defArgs s_shorter_row) (defBody s_shorter_row) (defScope s_shorter_row) [] [] (a_shorter_row K) fd := T.fn d_shorter_row (List.mem_of_getElem? (i := 71) rfl)
theorem fn_shortened : ∃ fd, L2.FunD K "shortened" q_shortened (defArgs s_shortened) (defBody s_shortened) (defScope s_shortened) [] [] (a_shortened K) fd := T.fn d_shortened (List.mem_of_getElem? (i := 72) rfl)
theorem fn_Weights___init__ : ∃ fd, L2.FunD K "__init__" q_Weights___init__ (defArgs s_Weights___init__) (defBody s_Weights___init__) (defScope s_Weights___init__) [] [] (a_Weights___init__ K) fd := T.fn d_Weights___init__ (List.mem_of_getElem? (i := 73) rfl)
theorem fn_Weights_most_at : ∃ fd, L2.FunD K "most_at" q_Weights_most_at (defArgs s_Weights_most_at) (defBody s_Weights_most_at) (defScope s_Weights_most_at) [] [] (a_Weights_most_at K) fd := T.fn d_Weights_most_at (List.mem_of_getElem? (i := 74) rfl)
theorem fn_Weights_starts : ∃ fd, L2.FunD K "starts" q_Weights_starts (defArgs s_Weights_starts) (defBody s_Weights_starts) (defScope s_Weights_starts) [] [] (a_Weights_starts K) fd := T.fn d_Weights_starts (List.mem_of_getElem? (i := 75) rfl)
theorem fn_Weights_sums_with : ∃ fd, L2.FunD K "sums_with" q_Weights_sums_with (defArgs s_Weights_sums_with) (defBody s_Weights_sums_with) (defScope s_Weights_sums_with) [] [] (a_Weights_sums_with K) fd := T.fn d_Weights_sums_with (List.mem_of_getElem? (i := 76) rfl)
theorem fn_raw_fours : ∃ fd, L2.FunD K "raw_fours" q_raw_fours (defArgs s_raw_fours) (defBody s_raw_fours) (defScope s_raw_fours) [] [] (a_raw_fours K) fd := T.fn d_raw_fours (List.mem_of_getElem? (i := 77) rfl)
theorem fn_fours_found : ∃ fd, L2.FunD K "fours_found" q_fours_found (defArgs s_fours_found) (defBody s_fours_found) (defScope s_fours_found) [] [] (a_fours_found K) fd := T.fn d_fours_found (List.mem_of_getElem? (i := 78) rfl)
theorem fn_units : ∃ fd, L2.FunD K "units" q_units (defArgs s_units) (defBody s_units) (defScope s_units) [] [] (a_units K) fd := T.fn d_units (List.mem_of_getElem? (i := 79) rfl)
theorem fn__law_pot : ∃ fd, L2.FunD K "_law_pot" q__law_pot (defArgs s__law_pot) (defBody s__law_pot) (defScope s__law_pot) [] [] (a__law_pot K) fd := T.fn d__law_pot (List.mem_of_getElem? (i := 80) rfl)
theorem fn__law_dip : ∃ fd, L2.FunD K "_law_dip" q__law_dip (defArgs s__law_dip) (defBody s__law_dip) (defScope s__law_dip) [] [] (a__law_dip K) fd := T.fn d__law_dip (List.mem_of_getElem? (i := 81) rfl)
theorem fn__law_pick : ∃ fd, L2.FunD K "_law_pick" q__law_pick (defArgs s__law_pick) (defBody s__law_pick) (defScope s__law_pick) [] [] (a__law_pick K) fd := T.fn d__law_pick (List.mem_of_getElem? (i := 82) rfl)
theorem fn__law_times : ∃ fd, L2.FunD K "_law_times" q__law_times (defArgs s__law_times) (defBody s__law_times) (defScope s__law_times) [] [] (a__law_times K) fd := T.fn d__law_times (List.mem_of_getElem? (i := 83) rfl)
theorem fn__law_norm : ∃ fd, L2.FunD K "_law_norm" q__law_norm (defArgs s__law_norm) (defBody s__law_norm) (defScope s__law_norm) [] [] (a__law_norm K) fd := T.fn d__law_norm (List.mem_of_getElem? (i := 84) rfl)
theorem fn__law_four : ∃ fd, L2.FunD K "_law_four" q__law_four (defArgs s__law_four) (defBody s__law_four) (defScope s__law_four) [] [] (a__law_four K) fd := T.fn d__law_four (List.mem_of_getElem? (i := 85) rfl)
theorem fn__law_twice : ∃ fd, L2.FunD K "_law_twice" q__law_twice (defArgs s__law_twice) (defBody s__law_twice) (defScope s__law_twice) [] [] (a__law_twice K) fd := T.fn d__law_twice (List.mem_of_getElem? (i := 86) rfl)
theorem fn__law_whole : ∃ fd, L2.FunD K "_law_whole" q__law_whole (defArgs s__law_whole) (defBody s__law_whole) (defScope s__law_whole) [] [] (a__law_whole K) fd := T.fn d__law_whole (List.mem_of_getElem? (i := 87) rfl)
theorem fn__law_units : ∃ fd, L2.FunD K "_law_units" q__law_units (defArgs s__law_units) (defBody s__law_units) (defScope s__law_units) [] [] (a__law_units K) fd := T.fn d__law_units (List.mem_of_getElem? (i := 88) rfl)
theorem fn__law_is_whole : ∃ fd, L2.FunD K "_law_is_whole" q__law_is_whole (defArgs s__law_is_whole) (defBody s__law_is_whole) (defScope s__law_is_whole) [] [] (a__law_is_whole K) fd := T.fn d__law_is_whole (List.mem_of_getElem? (i := 89) rfl)
theorem fn__law_near_right : ∃ fd, L2.FunD K "_law_near_right" q__law_near_right (defArgs s__law_near_right) (defBody s__law_near_right) (defScope s__law_near_right) [] [] (a__law_near_right K) fd := T.fn d__law_near_right (List.mem_of_getElem? (i := 90) rfl)
theorem fn__law_right : ∃ fd, L2.FunD K "_law_right" q__law_right (defArgs s__law_right) (defBody s__law_right) (defScope s__law_right) [] [] (a__law_right K) fd := T.fn d__law_right (List.mem_of_getElem? (i := 91) rfl)
theorem fn_law : ∃ fd, L2.FunD K "law" q_law (defArgs s_law) (defBody s_law) (defScope s_law) [] [] (a_law K) fd := T.fn d_law (List.mem_of_getElem? (i := 92) rfl)
end Tx
end TL

namespace TL
open PySem PySem.Spec PyProof.Rows L2 Evl SlX StX C8
section
variable {P : Program} {w : World} {K : PySem.W.Frag} {mg : Str → Option Value} {base : Heap}
abbrev N_is_whole_ratios : List Str := ["value"]
abbrev P_is_whole_ratios : List Str := ["value"]
theorem sc_is_whole_ratios : FnScope N_is_whole_ratios P_is_whole_ratios (defScope s_is_whole_ratios) := ⟨rfl, rfl, rfl, by decide +kernel, rfl, by decide +kernel, by decide +kernel⟩
def e_is_whole_ratios : ES := (sRet (eAnd (eB (fIsi isiT) (aCons (eVar 0) (aCons (eC (.ty "int")) aNil))) (eUn fNot (eB (fIsi isiT) (aCons (eVar 0) (aCons (eC (.ty "bool")) aNil))))))
def m_is_whole_ratios : Nat → List D → Option D := mir N_is_whole_ratios.length P_is_whole_ratios.length e_is_whole_ratios
theorem o_is_whole_ratios (T : Tx K mg) : ∃ fd, FnOk P w K mg base L2.CX0 1 (a_is_whole_ratios K) fd P_is_whole_ratios (spD K (clK K) m_is_whole_ratios) ∧ L2.FunD K "is_whole" q_is_whole_ratios (defArgs s_is_whole_ratios) (defBody s_is_whole_ratios) (defScope s_is_whole_ratios) [] [] (a_is_whole_ratios K) fd := by
  obtain ⟨fd, F⟩ := T.fn_is_whole_ratios
  refine ⟨fd, fn_tree F sc_is_whole_ratios (by decide) fun cdv A outer s H E hr => ?_, F⟩
  exact (dss_one (ds_ret (d_and (d_cb cr_isi (fc_isi T.isi) T.b_isinstance (da_cons (dv 0) (da_cons (d_bty T.b_int) da_nil))) (d_one (d_not (d_cb cr_isi (fc_isi T.isi) T.b_isinstance (da_cons (dv 0) (da_cons (d_bty T.b_bool) da_nil))))))))
theorem c_is_whole_ratios (T : Tx K mg) : CalD P w K (clK K) mg base 1 "is_whole_ratios" m_is_whole_ratios [] := by
  obtain ⟨fd, G, F⟩ := o_is_whole_ratios (P := P) (w := w) (base := base) T
  exact calD G T.gl_is_whole_ratios F.kp (FunD.bindsN F (fun _ _ _ _ _ _ us hl => match us, hl with | [_], _ => rfl))
abbrev N_is_integer : List Str := ["value"]
abbrev P_is_integer : List Str := ["value"]
theorem sc_is_integer : FnScope N_is_integer P_is_integer (defScope s_is_integer) := ⟨rfl, rfl, rfl, by decide +kernel, rfl, by decide +kernel, by decide +kernel⟩
def e_is_integer : ES := (sRet (eAnd (eCall m_is_whole_ratios [] (aCons (eVar 0) aNil)) (eChain fLt fLt (eUn fNeg (eC k_BEYOND)) (eVar 0) (eC k_BEYOND))))
def m_is_integer : Nat → List D → Option D := mir N_is_integer.length P_is_integer.length e_is_integer
theorem o_is_integer (T : Tx K mg) : ∃ fd, FnOk P w K mg base L2.CX0 2 (a_is_integer K) fd P_is_integer (spD K (clK K) m_is_integer) ∧ L2.FunD K "is_integer" q_is_integer (defArgs s_is_integer) (defBody s_is_integer) (defScope s_is_integer) [] [] (a_is_integer K) fd := by
  obtain ⟨fd, F⟩ := T.fn_is_integer
  refine ⟨fd, fn_tree F sc_is_integer (by decide) fun cdv A outer s H E hr => ?_, F⟩
  exact (dss_one (ds_ret (d_and (d_call (c_is_whole_ratios T) hr (da_cons (dv 0) da_nil)) (d_one (d_chain op_lt op_lt (fd_I0 fun _ _ _ => .bl _) (fd_I0 fun _ _ _ => .bl _) (d_neg (d_gl T.k_BEYOND)) (dv 0) (d_gl T.k_BEYOND))))))
theorem c_is_integer (T : Tx K mg) : CalD P w K (clK K) mg base 2 "is_integer" m_is_integer [] := by
  obtain ⟨fd, G, F⟩ := o_is_integer (P := P) (w := w) (base := base) T
  exact calD G T.gl_is_integer F.kp (FunD.bindsN F (fun _ _ _ _ _ _ us hl => match us, hl with | [_], _ => rfl))
abbrev N_common_of : List Str := ["one", "other"]
abbrev P_common_of : List Str := ["one", "other"]
theorem sc_common_of : FnScope N_common_of P_common_of (defScope s_common_of) := ⟨rfl, rfl, rfl, by decide +kernel, rfl, by decide +kernel, by decide +kernel⟩
def e_common_of : ES := (sSeq (sPar 0 1 (aCons (eB fAbs (aCons (eVar 0) aNil)) (aCons (eB fAbs (aCons (eVar 1) aNil)) aNil))) (sSeq (sWhile (bOf (eBin fNe (eVar 1) (eC (.int 0)))) (sPar 0 1 (aCons (eVar 1) (aCons (eBin fMod (eVar 0) (eVar 1)) aNil)))) (sRet (eVar 0))))
def m_common_of : Nat → List D → Option D := mir N_common_of.length P_common_of.length e_common_of
theorem o_common_of (T : Tx K mg) : ∃ fd, FnOk P w K mg base L2.CX0 1 (a_common_of K) fd P_common_of (spD K (clK K) m_common_of) ∧ L2.FunD K "common_of" q_common_of (defArgs s_common_of) (defBody s_common_of) (defScope s_common_of) [] [] (a_common_of K) fd := by
  obtain ⟨fd, F⟩ := T.fn_common_of
  refine ⟨fd, fn_tree F sc_common_of (by decide) fun cdv A outer s H E hr => ?_, F⟩
  exact (dss_cons (ds_par (i := 0) (j := 1) rfl sc_common_of.nd rfl rfl (by decide) rfl rfl (da_cons (d_cb call_abs fc_abs T.b_abs (da_cons (dv 0) da_nil)) (da_cons (d_cb call_abs fc_abs T.b_abs (da_cons (dv 1) da_nil)) da_nil)) (by rfl)) (dss_cons (ds_while PassesOwn.never (dt_cmp (op_neD hr.units) fd_ne (dv 1) d_int) (dss_one (ds_par (i := 0) (j := 1) rfl sc_common_of.nd rfl rfl (by decide) rfl rfl (da_cons (dv 1) (da_cons (d_mod (dv 0) (dv 1)) da_nil)) (by rfl)))) (dss_one (ds_ret (dv 0)))))
theorem c_common_of (T : Tx K mg) : CalD P w K (clK K) mg base 1 "common_of" m_common_of [] := by
  obtain ⟨fd, G, F⟩ := o_common_of (P := P) (w := w) (base := base) T
  exact calD G T.gl_common_of F.kp (FunD.bindsN F (fun _ _ _ _ _ _ us hl => match us, hl with | [_, _], _ => rfl))
abbrev N_Terms___init__ : List Str := ["self", "top", "bottom"]
abbrev P_Terms___init__ : List Str := ["self", "top", "bottom"]
theorem sc_Terms___init__ : FnScope N_Terms___init__ P_Terms___init__ (defScope s_Terms___init__) := ⟨rfl, rfl, rfl, by decide +kernel, rfl, by decide +kernel, by decide +kernel⟩
def e_Terms___init__ : ES := (sSeq (sAsg (eVar 1) (etSelf 0 l_own_top)) (sAsg (eVar 2) (etSelf 0 l_own_bottom)))
def m_Terms : Nat → List D → Option (List D) := mirI N_Terms___init__.length P_Terms___init__.length 0 e_Terms___init__
theorem o_Terms___init__ (T : Tx K mg) : ∃ fd, FnOk P w K mg base L2.CX0 1 (a_Terms___init__ K) fd P_Terms___init__ (spI K (clK K) 0 m_Terms) ∧ L2.FunD K "__init__" q_Terms___init__ (defArgs s_Terms___init__) (defBody s_Terms___init__) (defScope s_Terms___init__) [] [] (a_Terms___init__ K) fd := by
  obtain ⟨fd, F⟩ := T.fn_Terms___init__
  refine ⟨fd, in_tree (c := 0) F sc_Terms___init__ (by decide) fun cdv A outer s H E hr => ?_, F⟩
  exact (dss_cons (ds_self T.s_own_top (pv 0) (dv 1)) (dss_one (ds_self T.s_own_bottom (pv 0) (dv 2))))
theorem k_Terms (T : Tx K mg) : MakD P w K (clK K) mg base 1 "Terms" 0 m_Terms [] := by
  obtain ⟨fd, G, F⟩ := o_Terms___init__ (P := P) (w := w) (base := base) T
  exact makD T.mk_0 G T.gl_Terms (FunD.bindsN F (fun _ _ _ _ _ _ us hl => match us, hl with | [_, _, _], _ => rfl))
abbrev N_Ratio___init__ : List Str := ["self", "top", "bottom", "shared", "less"]
abbrev P_Ratio___init__ : List Str := ["self", "top", "bottom"]
theorem sc_Ratio___init__ : FnScope N_Ratio___init__ P_Ratio___init__ (defScope s_Ratio___init__) := ⟨rfl, rfl, rfl, by decide +kernel, rfl, by decide +kernel, by decide +kernel⟩
def e_Ratio___init__ : ES := (sSeq (sIf (bOf (eB (fIsi isiT) (aCons (eVar 1) (aCons (eC (.cls 0)) aNil)))) (sPar 1 2 (aCons (eUn (fFld l_own_top) (eVar 1)) (aCons (eUn (fFld l_own_bottom) (eVar 1)) aNil))) (sSeq sNever (sSeq sNever (sIf (bOf (eBin fEq (eVar 2) (eC (.int 0)))) sNever sNx)))) (sSeq (sAsg (eCall m_common_of [] (aCons (eVar 1) (aCons (eVar 2) aNil))) (etName 3)) (sSeq (sAsg (eIf (bOf (eBin fGt (eVar 2) (eC (.int 0)))) (eVar 3) (eUn fNeg (eVar 3))) (etName 4)) (sSeq (sAsg (eBin fDiv (eVar 1) (eVar 4)) (etSelf 0 l_own_top)) (sAsg (eBin fDiv (eVar 2) (eVar 4)) (etSelf 0 l_own_bottom))))))
def m_Ratio : Nat → List D → Option (List D) := mirI N_Ratio___init__.length P_Ratio___init__.length 1 e_Ratio___init__
theorem o_Ratio___init__ (T : Tx K mg) : ∃ fd, FnOk P w K mg base L2.CX0 2 (a_Ratio___init__ K) fd P_Ratio___init__ (spI K (clK K) 1 m_Ratio) ∧ L2.FunD K "__init__" q_Ratio___init__ (defArgs s_Ratio___init__) (defBody s_Ratio___init__) (defScope s_Ratio___init__) [.int 1] [] (a_Ratio___init__ K) fd := by
  obtain ⟨fd, F⟩ := T.fn_Ratio___init__
  refine ⟨fd, in_tree (c := 1) F sc_Ratio___init__ (by decide) fun cdv A outer s H E hr => ?_, F⟩
  exact (dss_cons (ds_if (dt_val (d_cb cr_isi (fc_isi T.isi) T.b_isinstance (da_cons (dv 1) (da_cons (d_gl T.k_Terms) da_nil)))) (dss_one (ds_par (i := 1) (j := 2) rfl sc_Ratio___init__.nd rfl rfl (by decide) rfl rfl (da_cons (d_fld T.s_own_top (dv 1)) (da_cons (d_fld T.s_own_bottom (dv 1)) da_nil)) (by rfl))) (dss_cons ds_never (dss_cons ds_never (dss_one (ds_if (dt_cmp (op_eqD hr.units) fd_eq (dv 2) d_int) (dss_one ds_never) dss_nil))))) (dss_cons (ds_asg (d_call (c_common_of T) hr (da_cons (dv 1) (da_cons (dv 2) da_nil))) (dg_name 3 sc_Ratio___init__.nd)) (dss_cons (ds_asg (d_if (dt_cmp op_gt (fd_I0 fun _ _ _ => .bl _) (dv 2) d_int) (dv 3) (d_neg (dv 3))) (dg_name 4 sc_Ratio___init__.nd)) (dss_cons (ds_self T.s_own_top (pv 0) (d_fdiv (dv 1) (dv 4))) (dss_one (ds_self T.s_own_bottom (pv 0) (d_fdiv (dv 2) (dv 4))))))))
theorem k_Ratio (T : Tx K mg) : MakD P w K (clK K) mg base 2 "Ratio" 1 m_Ratio [] := by
  obtain ⟨fd, G, F⟩ := o_Ratio___init__ (P := P) (w := w) (base := base) T
  obtain ⟨ds, b⟩ := (F.binds1 (ps := P_Ratio___init__) 3 1 (by simp) rfl fun _ _ _ _ _ _ _ us its h1 h2 => match us, its, h1, h2 with | [_, _, _], [_], _, _ => ⟨_, rfl, rfl⟩)
  exact makD1 T.mk_1 G T.gl_Ratio b fun _ => .nil
theorem k_Ratio_d (T : Tx K mg) : MakD P w K (clK K) mg base 2 "Ratio" 1 m_Ratio [.int 1] := by
  obtain ⟨fd, G, F⟩ := o_Ratio___init__ (P := P) (w := w) (base := base) T
  obtain ⟨ds, b⟩ := (F.binds1 (ps := P_Ratio___init__) 2 0 (by simp) rfl fun _ _ _ _ _ _ _ us its h1 h2 => match us, its, h1, h2 with | [_, _], [_], _, _ => ⟨_, rfl, rfl⟩)
  exact makD1 T.mk_1 G T.gl_Ratio b fun _ => .cons (.int 1) .nil
abbrev N_ratio_of : List Str := ["top", "bottom"]
abbrev P_ratio_of : List Str := ["top", "bottom"]
theorem sc_ratio_of : FnScope N_ratio_of P_ratio_of (defScope s_ratio_of) := ⟨rfl, rfl, rfl, by decide +kernel, rfl, by decide +kernel, by decide +kernel⟩
def e_ratio_of : ES := (sRet (eMake 1 m_Ratio [] (aCons (eMake 0 m_Terms [] (aCons (eVar 0) (aCons (eVar 1) aNil))) (aCons (eC (.int 1)) aNil))))
def m_ratio_of : Nat → List D → Option D := mir N_ratio_of.length P_ratio_of.length e_ratio_of
theorem o_ratio_of (T : Tx K mg) : ∃ fd, FnOk P w K mg base L2.CX0 4 (a_ratio_of K) fd P_ratio_of (spD K (clK K) m_ratio_of) ∧ L2.FunD K "ratio_of" q_ratio_of (defArgs s_ratio_of) (defBody s_ratio_of) (defScope s_ratio_of) [] [] (a_ratio_of K) fd := by
  obtain ⟨fd, F⟩ := T.fn_ratio_of
  refine ⟨fd, fn_tree F sc_ratio_of (by decide) fun cdv A outer s H E hr => ?_, F⟩
  exact (dss_one (ds_ret (d_make (k_Ratio T) hr (da_cons (d_make (k_Terms T) hr (da_cons (dv 0) (da_cons (dv 1) da_nil))) (da_cons d_int da_nil)))))
theorem c_ratio_of (T : Tx K mg) : CalD P w K (clK K) mg base 4 "ratio_of" m_ratio_of [] := by
  obtain ⟨fd, G, F⟩ := o_ratio_of (P := P) (w := w) (base := base) T
  exact calD G T.gl_ratio_of F.kp (FunD.bindsN F (fun _ _ _ _ _ _ us hl => match us, hl with | [_, _], _ => rfl))
abbrev N_Ratio___eq__ : List Str := ["self", "other"]
abbrev P_Ratio___eq__ : List Str := ["self", "other"]
theorem sc_Ratio___eq__ : FnScope N_Ratio___eq__ P_Ratio___eq__ (defScope s_Ratio___eq__) := ⟨rfl, rfl, rfl, by decide +kernel, rfl, by decide +kernel, by decide +kernel⟩
def e_Ratio___eq__ : ES := (sSeq (sIf (bOf (eCall m_is_whole_ratios [] (aCons (eVar 1) aNil))) (sRet (eAnd (eBin fEq (eUn (fFld l_own_bottom) (eVar 0)) (eC (.int 1))) (eBin fEq (eUn (fFld l_own_top) (eVar 0)) (eVar 1)))) sNx) (sRet (eAnd (eB (fIsi isiT) (aCons (eVar 1) (aCons (eC (.cls 1)) aNil))) (eAnd (eBin fEq (eUn (fFld l_own_top) (eVar 0)) (eUn (fFld l_own_top) (eVar 1))) (eBin fEq (eUn (fFld l_own_bottom) (eVar 0)) (eUn (fFld l_own_bottom) (eVar 1)))))))
def m_Ratio___eq__ : Nat → List D → Option D := mir N_Ratio___eq__.length P_Ratio___eq__.length e_Ratio___eq__
theorem o_Ratio___eq__ (T : Tx K mg) : ∃ fd, FnOk P w K mg base L2.CX0 2 (a_Ratio___eq__ K) fd P_Ratio___eq__ (spD K (clK K) m_Ratio___eq__) ∧ L2.FunD K "__eq__" q_Ratio___eq__ (defArgs s_Ratio___eq__) (defBody s_Ratio___eq__) (defScope s_Ratio___eq__) [] [] (a_Ratio___eq__ K) fd := by
  obtain ⟨fd, F⟩ := T.fn_Ratio___eq__
  refine ⟨fd, fn_tree F sc_Ratio___eq__ (by decide) fun cdv A outer s H E hr => ?_, F⟩
  exact (dss_cons (ds_if (dt_val (d_call (c_is_whole_ratios T) hr (da_cons (dv 1) da_nil))) (dss_one (ds_ret (d_and (d_eq hr (d_fld T.s_own_bottom (dv 0)) d_int) (d_one (d_eq hr (d_fld T.s_own_top (dv 0)) (dv 1)))))) dss_nil) (dss_one (ds_ret (d_and (d_cb cr_isi (fc_isi T.isi) T.b_isinstance (da_cons (dv 1) (da_cons (d_gl T.k_Ratio) da_nil))) (d_and (d_eq hr (d_fld T.s_own_top (dv 0)) (d_fld T.s_own_top (dv 1))) (d_one (d_eq hr (d_fld T.s_own_bottom (dv 0)) (d_fld T.s_own_bottom (dv 1)))))))))
theorem t_Ratio___eq__ (T : Tx K mg) : MetD P w K (clK K) mg base 2 1 "__eq__" m_Ratio___eq__ := by
  obtain ⟨fd, G, F⟩ := o_Ratio___eq__ (P := P) (w := w) (base := base) T
  exact metD T.cls_1 T.me_Ratio___eq__ G (FunD.bindsN F (fun _ _ _ _ _ _ us hl => match us, hl with | [_, _], _ => rfl))
end
end TL

namespace TL
open PySem PySem.Spec PyProof.Rows L2 Evl SlX StX C8
section
variable {P : Program} {w : World} {K : PySem.W.Frag} {mg : Str → Option Value} {base : Heap}
abbrev N_is_number : List Str := ["value"]
abbrev P_is_number : List Str := ["value"]
theorem sc_is_number : FnScope N_is_number P_is_number (defScope s_is_number) := ⟨rfl, rfl, rfl, by decide +kernel, rfl, by decide +kernel, by decide +kernel⟩
def e_is_number : ES := (sRet (eAnd (eCall m_is_whole_ratios [] (aCons (eVar 0) aNil)) (eAnd (eBin fNe (eVar 0) (eC (.int 0))) (eChain fLe fLe (eUn fNeg (eC k_MAX_NUMBER)) (eVar 0) (eC k_MAX_NUMBER)))))
def m_is_number : Nat → List D → Option D := mir N_is_number.length P_is_number.length e_is_number
theorem o_is_number (T : Tx K mg) : ∃ fd, FnOk P w K mg base L2.CX0 2 (a_is_number K) fd P_is_number (spD K (clK K) m_is_number) ∧ L2.FunD K "is_number" q_is_number (defArgs s_is_number) (defBody s_is_number) (defScope s_is_number) [] [] (a_is_number K) fd := by
  obtain ⟨fd, F⟩ := T.fn_is_number
  refine ⟨fd, fn_tree F sc_is_number (by decide) fun cdv A outer s H E hr => ?_, F⟩
  exact (dss_one (ds_ret (d_and (d_call (c_is_whole_ratios T) hr (da_cons (dv 0) da_nil)) (d_and (d_ne hr (dv 0) d_int) (d_one (d_chain op_le op_le (fd_I0 fun _ _ _ => .bl _) (fd_I0 fun _ _ _ => .bl _) (d_neg (d_gl T.k_MAX_NUMBER)) (dv 0) (d_gl T.k_MAX_NUMBER)))))))
theorem c_is_number (T : Tx K mg) : CalD P w K (clK K) mg base 2 "is_number" m_is_number [] := by
  obtain ⟨fd, G, F⟩ := o_is_number (P := P) (w := w) (base := base) T
  exact calD G T.gl_is_number F.kp (FunD.bindsN F (fun _ _ _ _ _ _ us hl => match us, hl with | [_], _ => rfl))
abbrev N_require_number : List Str := ["value"]
abbrev P_require_number : List Str := ["value"]
theorem sc_require_number : FnScope N_require_number P_require_number (defScope s_require_number) := ⟨rfl, rfl, rfl, by decide +kernel, rfl, by decide +kernel, by decide +kernel⟩
def e_require_number : ES := (sIf (bNot (bOf (eCall m_is_number [] (aCons (eVar 0) aNil)))) sNever sNx)
def m_require_number : Nat → List D → Option D := mir N_require_number.length P_require_number.length e_require_number
theorem o_require_number (T : Tx K mg) : ∃ fd, FnOk P w K mg base L2.CX0 3 (a_require_number K) fd P_require_number (spD K (clK K) m_require_number) ∧ L2.FunD K "require_number" q_require_number (defArgs s_require_number) (defBody s_require_number) (defScope s_require_number) [] [] (a_require_number K) fd := by
  obtain ⟨fd, F⟩ := T.fn_require_number
  refine ⟨fd, fn_tree F sc_require_number (by decide) fun cdv A outer s H E hr => ?_, F⟩
  exact (dss_one (ds_if (dt_not (dt_val (d_call (c_is_number T) hr (da_cons (dv 0) da_nil)))) (dss_one ds_never) dss_nil))
theorem c_require_number (T : Tx K mg) : CalD P w K (clK K) mg base 3 "require_number" m_require_number [] := by
  obtain ⟨fd, G, F⟩ := o_require_number (P := P) (w := w) (base := base) T
  exact calD G T.gl_require_number F.kp (FunD.bindsN F (fun _ _ _ _ _ _ us hl => match us, hl with | [_], _ => rfl))
abbrev N_parted_by : List Str := ["number", "prime", "many", "left"]
abbrev P_parted_by : List Str := ["number", "prime"]
theorem sc_parted_by : FnScope N_parted_by P_parted_by (defScope s_parted_by) := ⟨rfl, rfl, rfl, by decide +kernel, rfl, by decide +kernel, by decide +kernel⟩
def e_parted_by : ES := (sSeq (sPar 2 3 (aCons (eC (.int 0)) (aCons (eVar 0) aNil))) (sSeq (sWhile (bOf (eBin fEq (eBin fMod (eVar 3) (eVar 1)) (eC (.int 0)))) (sPar 2 3 (aCons (eBin fAdd (eVar 2) (eC (.int 1))) (aCons (eBin fDiv (eVar 3) (eVar 1)) aNil)))) (sRet (eTup (aCons (eVar 2) (aCons (eVar 3) aNil))))))
def m_parted_by : Nat → List D → Option D := mir N_parted_by.length P_parted_by.length e_parted_by
theorem o_parted_by (T : Tx K mg) : ∃ fd, FnOk P w K mg base L2.CX0 1 (a_parted_by K) fd P_parted_by (spD K (clK K) m_parted_by) ∧ L2.FunD K "parted_by" q_parted_by (defArgs s_parted_by) (defBody s_parted_by) (defScope s_parted_by) [] [] (a_parted_by K) fd := by
  obtain ⟨fd, F⟩ := T.fn_parted_by
  refine ⟨fd, fn_tree F sc_parted_by (by decide) fun cdv A outer s H E hr => ?_, F⟩
  exact (dss_cons (ds_par (i := 2) (j := 3) rfl sc_parted_by.nd rfl rfl (by decide) rfl rfl (da_cons d_int (da_cons (dv 0) da_nil)) (by rfl)) (dss_cons (ds_while PassesOwn.never (dt_cmp (op_eqD hr.units) fd_eq (d_mod (dv 3) (dv 1)) d_int) (dss_one (ds_par (i := 2) (j := 3) rfl sc_parted_by.nd rfl rfl (by decide) rfl rfl (da_cons (d_add (dv 2) d_int) (da_cons (d_fdiv (dv 3) (dv 1)) da_nil)) (by rfl)))) (dss_one (ds_ret (d_tup (da_cons (dv 2) (da_cons (dv 3) da_nil)))))))
theorem c_parted_by (T : Tx K mg) : CalD P w K (clK K) mg base 1 "parted_by" m_parted_by [] := by
  obtain ⟨fd, G, F⟩ := o_parted_by (P := P) (w := w) (base := base) T
  exact calD G T.gl_parted_by F.kp (FunD.bindsN F (fun _ _ _ _ _ _ us hl => match us, hl with | [_, _], _ => rfl))
abbrev N_raw_product : List Str := ["a", "b", "one", "other", "w", "x", "y", "z", "s", "t", "u", "v", "first", "second"]
abbrev P_raw_product : List Str := ["a", "b", "one", "other"]
theorem sc_raw_product : FnScope N_raw_product P_raw_product (defScope s_raw_product) := ⟨rfl, rfl, rfl, by decide +kernel, rfl, by decide +kernel, by decide +kernel⟩
def e_raw_product : ES := (sSeq (sAsg (eVar 2) (etTup 4 (etCons (etName 4) (etCons (etName 5) (etCons (etName 6) (etCons (etName 7) etNil)))))) (sSeq (sAsg (eVar 3) (etTup 4 (etCons (etName 8) (etCons (etName 9) (etCons (etName 10) (etCons (etName 11) etNil)))))) (sSeq (sAsg (eBin fAdd (eBin fAdd (eBin fMul (eVar 4) (eVar 8)) (eBin fMul (eBin fMul (eVar 0) (eVar 5)) (eVar 9))) (eBin fMul (eVar 1) (eBin fSub (eBin fMul (eVar 6) (eVar 10)) (eBin fMul (eBin fMul (eVar 0) (eVar 7)) (eVar 11))))) (etName 12)) (sSeq (sAsg (eBin fAdd (eBin fAdd (eBin fMul (eVar 4) (eVar 9)) (eBin fMul (eVar 5) (eVar 8))) (eBin fMul (eVar 1) (eBin fSub (eBin fMul (eVar 7) (eVar 10)) (eBin fMul (eVar 6) (eVar 11))))) (etName 13)) (sRet (eTup (aCons (eVar 12) (aCons (eVar 13) (aCons (eBin fAdd (eBin fAdd (eBin fMul (eVar 4) (eVar 10)) (eBin fMul (eVar 6) (eVar 8))) (eBin fMul (eVar 0) (eBin fSub (eBin fMul (eVar 5) (eVar 11)) (eBin fMul (eVar 7) (eVar 9))))) (aCons (eBin fSub (eBin fAdd (eBin fAdd (eBin fMul (eVar 4) (eVar 11)) (eBin fMul (eVar 7) (eVar 8))) (eBin fMul (eVar 5) (eVar 10))) (eBin fMul (eVar 6) (eVar 9))) aNil))))))))))
def m_raw_product : Nat → List D → Option D := mir N_raw_product.length P_raw_product.length e_raw_product
theorem o_raw_product (T : Tx K mg) : ∃ fd, FnOk P w K mg base L2.CX0 1 (a_raw_product K) fd P_raw_product (spD K (clK K) m_raw_product) ∧ L2.FunD K "raw_product" q_raw_product (defArgs s_raw_product) (defBody s_raw_product) (defScope s_raw_product) [] [] (a_raw_product K) fd := by
  obtain ⟨fd, F⟩ := T.fn_raw_product
  refine ⟨fd, fn_tree F sc_raw_product (by decide) fun cdv A outer s H E hr => ?_, F⟩
  exact (dss_cons (ds_asg (dv 2) (dg_tup rfl (dgs_cons (dg_name 4 sc_raw_product.nd) (dgs_cons (dg_name 5 sc_raw_product.nd) (dgs_cons (dg_name 6 sc_raw_product.nd) (dgs_cons (dg_name 7 sc_raw_product.nd) dgs_nil)))))) (dss_cons (ds_asg (dv 3) (dg_tup rfl (dgs_cons (dg_name 8 sc_raw_product.nd) (dgs_cons (dg_name 9 sc_raw_product.nd) (dgs_cons (dg_name 10 sc_raw_product.nd) (dgs_cons (dg_name 11 sc_raw_product.nd) dgs_nil)))))) (dss_cons (ds_asg (d_add (d_add (d_mul (dv 4) (dv 8)) (d_mul (d_mul (dv 0) (dv 5)) (dv 9))) (d_mul (dv 1) (d_sub (d_mul (dv 6) (dv 10)) (d_mul (d_mul (dv 0) (dv 7)) (dv 11))))) (dg_name 12 sc_raw_product.nd)) (dss_cons (ds_asg (d_add (d_add (d_mul (dv 4) (dv 9)) (d_mul (dv 5) (dv 8))) (d_mul (dv 1) (d_sub (d_mul (dv 7) (dv 10)) (d_mul (dv 6) (dv 11))))) (dg_name 13 sc_raw_product.nd)) (dss_one (ds_ret (d_tup (da_cons (dv 12) (da_cons (dv 13) (da_cons (d_add (d_add (d_mul (dv 4) (dv 10)) (d_mul (dv 6) (dv 8))) (d_mul (dv 0) (d_sub (d_mul (dv 5) (dv 11)) (d_mul (dv 7) (dv 9))))) (da_cons (d_sub (d_add (d_add (d_mul (dv 4) (dv 11)) (d_mul (dv 7) (dv 8))) (d_mul (dv 5) (dv 10))) (d_mul (dv 6) (dv 9))) da_nil)))))))))))
theorem c_raw_product (T : Tx K mg) : CalD P w K (clK K) mg base 1 "raw_product" m_raw_product [] := by
  obtain ⟨fd, G, F⟩ := o_raw_product (P := P) (w := w) (base := base) T
  exact calD G T.gl_raw_product F.kp (FunD.bindsN F (fun _ _ _ _ _ _ us hl => match us, hl with | [_, _, _, _], _ => rfl))
abbrev N_raw_mate : List Str := ["one"]
abbrev P_raw_mate : List Str := ["one"]
theorem sc_raw_mate : FnScope N_raw_mate P_raw_mate (defScope s_raw_mate) := ⟨rfl, rfl, rfl, by decide +kernel, rfl, by decide +kernel, by decide +kernel⟩
def e_raw_mate : ES := (sRet (eTup (aCons (eBin fIx (eVar 0) (eC (.int 0))) (aCons (eUn fNeg (eBin fIx (eVar 0) (eC (.int 1)))) (aCons (eUn fNeg (eBin fIx (eVar 0) (eC (.int 2)))) (aCons (eUn fNeg (eBin fIx (eVar 0) (eC (.int 3)))) aNil))))))
def m_raw_mate : Nat → List D → Option D := mir N_raw_mate.length P_raw_mate.length e_raw_mate
theorem o_raw_mate (T : Tx K mg) : ∃ fd, FnOk P w K mg base L2.CX0 1 (a_raw_mate K) fd P_raw_mate (spD K (clK K) m_raw_mate) ∧ L2.FunD K "raw_mate" q_raw_mate (defArgs s_raw_mate) (defBody s_raw_mate) (defScope s_raw_mate) [] [] (a_raw_mate K) fd := by
  obtain ⟨fd, F⟩ := T.fn_raw_mate
  refine ⟨fd, fn_tree F sc_raw_mate (by decide) fun cdv A outer s H E hr => ?_, F⟩
  exact (dss_one (ds_ret (d_tup (da_cons (d_ix (dv 0) d_int) (da_cons (d_neg (d_ix (dv 0) d_int)) (da_cons (d_neg (d_ix (dv 0) d_int)) (da_cons (d_neg (d_ix (dv 0) d_int)) da_nil)))))))
theorem c_raw_mate (T : Tx K mg) : CalD P w K (clK K) mg base 1 "raw_mate" m_raw_mate [] := by
  obtain ⟨fd, G, F⟩ := o_raw_mate (P := P) (w := w) (base := base) T
  exact calD G T.gl_raw_mate F.kp (FunD.bindsN F (fun _ _ _ _ _ _ us hl => match us, hl with | [_], _ => rfl))
abbrev N_raw_norm : List Str := ["a", "b", "one", "w", "x", "y", "z"]
abbrev P_raw_norm : List Str := ["a", "b", "one"]
theorem sc_raw_norm : FnScope N_raw_norm P_raw_norm (defScope s_raw_norm) := ⟨rfl, rfl, rfl, by decide +kernel, rfl, by decide +kernel, by decide +kernel⟩
def e_raw_norm : ES := (sSeq (sAsg (eVar 2) (etTup 4 (etCons (etName 3) (etCons (etName 4) (etCons (etName 5) (etCons (etName 6) etNil)))))) (sRet (eBin fSub (eBin fSub (eBin fMul (eVar 3) (eVar 3)) (eBin fMul (eBin fMul (eVar 0) (eVar 4)) (eVar 4))) (eBin fMul (eVar 1) (eBin fSub (eBin fMul (eVar 5) (eVar 5)) (eBin fMul (eBin fMul (eVar 0) (eVar 6)) (eVar 6)))))))
def m_raw_norm : Nat → List D → Option D := mir N_raw_norm.length P_raw_norm.length e_raw_norm
theorem o_raw_norm (T : Tx K mg) : ∃ fd, FnOk P w K mg base L2.CX0 1 (a_raw_norm K) fd P_raw_norm (spD K (clK K) m_raw_norm) ∧ L2.FunD K "raw_norm" q_raw_norm (defArgs s_raw_norm) (defBody s_raw_norm) (defScope s_raw_norm) [] [] (a_raw_norm K) fd := by
  obtain ⟨fd, F⟩ := T.fn_raw_norm
  refine ⟨fd, fn_tree F sc_raw_norm (by decide) fun cdv A outer s H E hr => ?_, F⟩
  exact (dss_cons (ds_asg (dv 2) (dg_tup rfl (dgs_cons (dg_name 3 sc_raw_norm.nd) (dgs_cons (dg_name 4 sc_raw_norm.nd) (dgs_cons (dg_name 5 sc_raw_norm.nd) (dgs_cons (dg_name 6 sc_raw_norm.nd) dgs_nil)))))) (dss_one (ds_ret (d_sub (d_sub (d_mul (dv 3) (dv 3)) (d_mul (d_mul (dv 0) (dv 4)) (dv 4))) (d_mul (dv 1) (d_sub (d_mul (dv 5) (dv 5)) (d_mul (d_mul (dv 0) (dv 6)) (dv 6))))))))
theorem c_raw_norm (T : Tx K mg) : CalD P w K (clK K) mg base 1 "raw_norm" m_raw_norm [] := by
  obtain ⟨fd, G, F⟩ := o_raw_norm (P := P) (w := w) (base := base) T
  exact calD G T.gl_raw_norm F.kp (FunD.bindsN F (fun _ _ _ _ _ _ us hl => match us, hl with | [_, _, _], _ => rfl))
abbrev N_sign_by_two : List Str := ["left", "right", "many_left", "many_right", "both", "found"]
abbrev P_sign_by_two : List Str := ["left", "right", "many_left", "many_right"]
theorem sc_sign_by_two : FnScope N_sign_by_two P_sign_by_two (defScope s_sign_by_two) := ⟨rfl, rfl, rfl, by decide +kernel, rfl, by decide +kernel, by decide +kernel⟩
def e_sign_by_two : ES := (sSeq (sAsg (eBin fMul (eBin fDiv (eBin fSub (eVar 0) (eC (.int 1))) (eC (.int 2))) (eBin fDiv (eBin fSub (eVar 1) (eC (.int 1))) (eC (.int 2)))) (etName 4)) (sSeq (sAsg (eBin fAdd (eBin fAdd (eVar 4) (eBin fMul (eVar 2) (eBin fDiv (eBin fSub (eBin fMul (eVar 1) (eVar 1)) (eC (.int 1))) (eC (.int 8))))) (eBin fMul (eVar 3) (eBin fDiv (eBin fSub (eBin fMul (eVar 0) (eVar 0)) (eC (.int 1))) (eC (.int 8))))) (etName 5)) (sRet (eIf (bOf (eBin fEq (eBin fMod (eVar 5) (eC (.int 2))) (eC (.int 0)))) (eC (.int 1)) (eUn fNeg (eC (.int 1)))))))
def m_sign_by_two : Nat → List D → Option D := mir N_sign_by_two.length P_sign_by_two.length e_sign_by_two
theorem o_sign_by_two (T : Tx K mg) : ∃ fd, FnOk P w K mg base L2.CX0 1 (a_sign_by_two K) fd P_sign_by_two (spD K (clK K) m_sign_by_two) ∧ L2.FunD K "sign_by_two" q_sign_by_two (defArgs s_sign_by_two) (defBody s_sign_by_two) (defScope s_sign_by_two) [] [] (a_sign_by_two K) fd := by
  obtain ⟨fd, F⟩ := T.fn_sign_by_two
  refine ⟨fd, fn_tree F sc_sign_by_two (by decide) fun cdv A outer s H E hr => ?_, F⟩
  exact (dss_cons (ds_asg (d_mul (d_fdiv (d_sub (dv 0) d_int) d_int) (d_fdiv (d_sub (dv 1) d_int) d_int)) (dg_name 4 sc_sign_by_two.nd)) (dss_cons (ds_asg (d_add (d_add (dv 4) (d_mul (dv 2) (d_fdiv (d_sub (d_mul (dv 1) (dv 1)) d_int) d_int))) (d_mul (dv 3) (d_fdiv (d_sub (d_mul (dv 0) (dv 0)) d_int) d_int))) (dg_name 5 sc_sign_by_two.nd)) (dss_one (ds_ret (d_if (dt_cmp (op_eqD hr.units) fd_eq (d_mod (dv 5) d_int) d_int) d_int (d_neg d_int))))))
theorem c_sign_by_two (T : Tx K mg) : CalD P w K (clK K) mg base 1 "sign_by_two" m_sign_by_two [] := by
  obtain ⟨fd, G, F⟩ := o_sign_by_two (P := P) (w := w) (base := base) T
  exact calD G T.gl_sign_by_two F.kp (FunD.bindsN F (fun _ _ _ _ _ _ us hl => match us, hl with | [_, _, _, _], _ => rfl))
abbrev N_sign_by_prime : List Str := ["a", "b", "prime", "many_left", "left", "many_right", "right", "found"]
abbrev P_sign_by_prime : List Str := ["a", "b", "prime"]
theorem sc_sign_by_prime : FnScope N_sign_by_prime P_sign_by_prime (defScope s_sign_by_prime) := ⟨rfl, rfl, rfl, by decide +kernel, rfl, by decide +kernel, by decide +kernel⟩
def e_sign_by_prime : ES := (sSeq (sAsg (eCall m_parted_by [] (aCons (eVar 0) (aCons (eVar 2) aNil))) (etTup 2 (etCons (etName 3) (etCons (etName 4) etNil)))) (sSeq (sAsg (eCall m_parted_by [] (aCons (eVar 1) (aCons (eVar 2) aNil))) (etTup 2 (etCons (etName 5) (etCons (etName 6) etNil)))) (sSeq (sIf (bOf (eBin fEq (eVar 2) (eC (.int 2)))) (sRet (eCall m_sign_by_two [] (aCons (eVar 4) (aCons (eVar 6) (aCons (eVar 3) (aCons (eVar 5) aNil)))))) sNx) (sSeq sNever (sSeq sNever sNever)))))
def m_sign_by_prime : Nat → List D → Option D := mir N_sign_by_prime.length P_sign_by_prime.length e_sign_by_prime
theorem o_sign_by_prime (T : Tx K mg) : ∃ fd, FnOk P w K mg base L2.CX0 2 (a_sign_by_prime K) fd P_sign_by_prime (spD K (clK K) m_sign_by_prime) ∧ L2.FunD K "sign_by_prime" q_sign_by_prime (defArgs s_sign_by_prime) (defBody s_sign_by_prime) (defScope s_sign_by_prime) [] [] (a_sign_by_prime K) fd := by
  obtain ⟨fd, F⟩ := T.fn_sign_by_prime
  refine ⟨fd, fn_tree F sc_sign_by_prime (by decide) fun cdv A outer s H E hr => ?_, F⟩
  exact (dss_cons (ds_asg (d_call (c_parted_by T) hr (da_cons (dv 0) (da_cons (dv 2) da_nil))) (dg_tup rfl (dgs_cons (dg_name 3 sc_sign_by_prime.nd) (dgs_cons (dg_name 4 sc_sign_by_prime.nd) dgs_nil)))) (dss_cons (ds_asg (d_call (c_parted_by T) hr (da_cons (dv 1) (da_cons (dv 2) da_nil))) (dg_tup rfl (dgs_cons (dg_name 5 sc_sign_by_prime.nd) (dgs_cons (dg_name 6 sc_sign_by_prime.nd) dgs_nil)))) (dss_cons (ds_if (dt_cmp (op_eqD hr.units) fd_eq (dv 2) d_int) (dss_one (ds_ret (d_call (c_sign_by_two T) hr (da_cons (dv 4) (da_cons (dv 6) (da_cons (dv 3) (da_cons (dv 5) da_nil))))))) dss_nil) (dss_cons ds_never (dss_cons ds_never (dss_one ds_never))))))
theorem c_sign_by_prime (T : Tx K mg) : CalD P w K (clK K) mg base 2 "sign_by_prime" m_sign_by_prime [] := by
  obtain ⟨fd, G, F⟩ := o_sign_by_prime (P := P) (w := w) (base := base) T
  exact calD G T.gl_sign_by_prime F.kp (FunD.bindsN F (fun _ _ _ _ _ _ us hl => match us, hl with | [_, _, _], _ => rfl))
abbrev N_sign_of : List Str := ["a", "b", "place"]
abbrev P_sign_of : List Str := ["a", "b", "place"]
theorem sc_sign_of : FnScope N_sign_of P_sign_of (defScope s_sign_of) := ⟨rfl, rfl, rfl, by decide +kernel, rfl, by decide +kernel, by decide +kernel⟩
def e_sign_of : ES := (sSeq (sIf (bOf (eBin fEq (eVar 2) (eC k_REAL))) (sRet (eIf (bAnd (bOf (eBin fLt (eVar 0) (eC (.int 0)))) (bOf (eBin fLt (eVar 1) (eC (.int 0))))) (eUn fNeg (eC (.int 1))) (eC (.int 1)))) sNx) (sRet (eCall m_sign_by_prime [] (aCons (eVar 0) (aCons (eVar 1) (aCons (eVar 2) aNil))))))
def m_sign_of : Nat → List D → Option D := mir N_sign_of.length P_sign_of.length e_sign_of
theorem o_sign_of (T : Tx K mg) : ∃ fd, FnOk P w K mg base L2.CX0 3 (a_sign_of K) fd P_sign_of (spD K (clK K) m_sign_of) ∧ L2.FunD K "sign_of" q_sign_of (defArgs s_sign_of) (defBody s_sign_of) (defScope s_sign_of) [] [] (a_sign_of K) fd := by
  obtain ⟨fd, F⟩ := T.fn_sign_of
  refine ⟨fd, fn_tree F sc_sign_of (by decide) fun cdv A outer s H E hr => ?_, F⟩
  exact (dss_cons (ds_if (dt_cmp (op_eqD hr.units) fd_eq (dv 2) (d_gl T.k_REAL)) (dss_one (ds_ret (d_if (dt_w (dw_and (dt_cmp op_lt (fd_I0 fun _ _ _ => .bl _) (dv 0) d_int) (dw_and1 (dt_cmp op_lt (fd_I0 fun _ _ _ => .bl _) (dv 1) d_int)))) (d_neg d_int) d_int))) dss_nil) (dss_one (ds_ret (d_call (c_sign_by_prime T) hr (da_cons (dv 0) (da_cons (dv 1) (da_cons (dv 2) da_nil)))))))
theorem c_sign_of (T : Tx K mg) : CalD P w K (clK K) mg base 3 "sign_of" m_sign_of [] := by
  obtain ⟨fd, G, F⟩ := o_sign_of (P := P) (w := w) (base := base) T
  exact calD G T.gl_sign_of F.kp (FunD.bindsN F (fun _ _ _ _ _ _ us hl => match us, hl with | [_, _, _], _ => rfl))
abbrev N_lowest : List Str := ["entries", "bottom", "common", "entry", "share"]
abbrev P_lowest : List Str := ["entries", "bottom"]
theorem sc_lowest : FnScope N_lowest P_lowest (defScope s_lowest) := ⟨rfl, rfl, rfl, by decide +kernel, rfl, by decide +kernel, by decide +kernel⟩
def e_lowest : ES := (sSeq (sAsg (eB fAbs (aCons (eVar 1) aNil)) (etName 2)) (sSeq (sFor (eItems (eVar 0)) (etName 3) (sAsg (eCall m_common_of [] (aCons (eVar 2) (aCons (eB fAbs (aCons (eVar 3) aNil)) aNil))) (etName 2))) (sSeq (sAsg (eIf (bOf (eBin fGt (eVar 1) (eC (.int 0)))) (eVar 2) (eUn fNeg (eVar 2))) (etName 4)) (sRet (eTup (aCons (eB fTuple (aCons (eLc (eItems (eVar 0)) (etName 3) bYes (eBin fDiv (eVar 3) (eVar 4)) [3]) aNil)) (aCons (eBin fDiv (eVar 1) (eVar 4)) aNil)))))))
def m_lowest : Nat → List D → Option D := mir N_lowest.length P_lowest.length e_lowest
theorem o_lowest (T : Tx K mg) : ∃ fd, FnOk P w K mg base L2.CX0 2 (a_lowest K) fd P_lowest (spD K (clK K) m_lowest) ∧ L2.FunD K "lowest" q_lowest (defArgs s_lowest) (defBody s_lowest) (defScope s_lowest) [] [] (a_lowest K) fd := by
  obtain ⟨fd, F⟩ := T.fn_lowest
  refine ⟨fd, fn_tree F sc_lowest (by decide) fun cdv A outer s H E hr => ?_, F⟩
  exact (dss_cons (ds_asg (d_cb call_abs fc_abs T.b_abs (da_cons (dv 1) da_nil)) (dg_name 2 sc_lowest.nd)) (dss_cons (ds_for PassesOwn.never rfl (di_seq (dv 0)) (dg_name 3 sc_lowest.nd) (dss_one (ds_asg (d_call (c_common_of T) hr (da_cons (dv 2) (da_cons (d_cb call_abs fc_abs T.b_abs (da_cons (dv 3) da_nil)) da_nil))) (dg_name 2 sc_lowest.nd)))) (dss_cons (ds_asg (d_if (dt_cmp op_gt (fd_I0 fun _ _ _ => .bl _) (dv 1) d_int) (dv 2) (d_neg (dv 2))) (dg_name 4 sc_lowest.nd)) (dss_one (ds_ret (d_tup (da_cons (d_ct call_tuple_of fc_tuple T.b_tuple (da_cons (d_lc (own := [("entry", 3)]) rfl sc_lowest.nd (di_seq (dv 0)) (blkOk_by rfl) gok_name (fun _ _ _ _ _ => (gname 3 sc_lowest.nd)) (fun _ _ _ _ _ => dts_nil) (fun _ _ _ _ _ => (d_fdiv (dv 3) (dv 4)))) da_nil)) (da_cons (d_fdiv (dv 1) (dv 4)) da_nil))))))))
theorem c_lowest (T : Tx K mg) : CalD P w K (clK K) mg base 2 "lowest" m_lowest [] := by
  obtain ⟨fd, G, F⟩ := o_lowest (P := P) (w := w) (base := base) T
  exact calD G T.gl_lowest F.kp (FunD.bindsN F (fun _ _ _ _ _ _ us hl => match us, hl with | [_, _], _ => rfl))
abbrev N_Algebra_is_definite : List Str := ["self"]
abbrev P_Algebra_is_definite : List Str := ["self"]
theorem sc_Algebra_is_definite : FnScope N_Algebra_is_definite P_Algebra_is_definite (defScope s_Algebra_is_definite) := ⟨rfl, rfl, rfl, by decide +kernel, rfl, by decide +kernel, by decide +kernel⟩
def e_Algebra_is_definite : ES := (sRet (eBin fEq (eSl (eUn (fFld l_own_places) (eVar 0)) oNone (oSome (eC (.int 1)))) (eTup (aCons (eC (.int 0)) aNil))))
def m_Algebra_is_definite : Nat → List D → Option D := mir N_Algebra_is_definite.length P_Algebra_is_definite.length e_Algebra_is_definite
theorem o_Algebra_is_definite (T : Tx K mg) : ∃ fd, FnOk P w K mg base L2.CX0 1 (a_Algebra_is_definite K) fd P_Algebra_is_definite (spD K (clK K) m_Algebra_is_definite) ∧ L2.FunD K "is_definite" q_Algebra_is_definite (defArgs s_Algebra_is_definite) (defBody s_Algebra_is_definite) (defScope s_Algebra_is_definite) [] [] (a_Algebra_is_definite K) fd := by
  obtain ⟨fd, F⟩ := T.fn_Algebra_is_definite
  refine ⟨fd, fn_tree F sc_Algebra_is_definite (by decide) fun cdv A outer s H E hr => ?_, F⟩
  exact (dss_one (ds_ret (d_eq hr (d_slice (d_fld T.s_own_places (dv 0)) do_none (do_some d_int)) (d_tup (da_cons d_int da_nil)))))
theorem p_Algebra_is_definite (T : Tx K mg) : ProD P w K (clK K) mg base 1 2 "is_definite" m_Algebra_is_definite := by
  obtain ⟨fd, G, F⟩ := o_Algebra_is_definite (P := P) (w := w) (base := base) T
  obtain ⟨p, rest, h1, h2, h3, h4⟩ := T.prop_Algebra_is_definite
  exact proD T.cls_2 h1 h2 h3 h4 G (FunD.bindsN F (fun _ _ _ _ _ _ us hl => match us, hl with | [_], _ => rfl))
abbrev N_Algebra___eq__ : List Str := ["self", "other"]
abbrev P_Algebra___eq__ : List Str := ["self", "other"]
theorem sc_Algebra___eq__ : FnScope N_Algebra___eq__ P_Algebra___eq__ (defScope s_Algebra___eq__) := ⟨rfl, rfl, rfl, by decide +kernel, rfl, by decide +kernel, by decide +kernel⟩
def e_Algebra___eq__ : ES := (sRet (eAnd (eB (fIsi isiT) (aCons (eVar 1) (aCons (eC (.cls 2)) aNil))) (eAnd (eBin fEq (eUn (fFld l_own_a) (eVar 0)) (eUn (fFld l_own_a) (eVar 1))) (eBin fEq (eUn (fFld l_own_b) (eVar 0)) (eUn (fFld l_own_b) (eVar 1))))))
def m_Algebra___eq__ : Nat → List D → Option D := mir N_Algebra___eq__.length P_Algebra___eq__.length e_Algebra___eq__
theorem o_Algebra___eq__ (T : Tx K mg) : ∃ fd, FnOk P w K mg base L2.CX0 1 (a_Algebra___eq__ K) fd P_Algebra___eq__ (spD K (clK K) m_Algebra___eq__) ∧ L2.FunD K "__eq__" q_Algebra___eq__ (defArgs s_Algebra___eq__) (defBody s_Algebra___eq__) (defScope s_Algebra___eq__) [] [] (a_Algebra___eq__ K) fd := by
  obtain ⟨fd, F⟩ := T.fn_Algebra___eq__
  refine ⟨fd, fn_tree F sc_Algebra___eq__ (by decide) fun cdv A outer s H E hr => ?_, F⟩
  exact (dss_one (ds_ret (d_and (d_cb cr_isi (fc_isi T.isi) T.b_isinstance (da_cons (dv 1) (da_cons (d_gl T.k_Algebra) da_nil))) (d_and (d_eq hr (d_fld T.s_own_a (dv 0)) (d_fld T.s_own_a (dv 1))) (d_one (d_eq hr (d_fld T.s_own_b (dv 0)) (d_fld T.s_own_b (dv 1))))))))
theorem t_Algebra___eq__ (T : Tx K mg) : MetD P w K (clK K) mg base 1 2 "__eq__" m_Algebra___eq__ := by
  obtain ⟨fd, G, F⟩ := o_Algebra___eq__ (P := P) (w := w) (base := base) T
  exact metD T.cls_2 T.me_Algebra___eq__ G (FunD.bindsN F (fun _ _ _ _ _ _ us hl => match us, hl with | [_, _], _ => rfl))
abbrev N_Parts___init__ : List Str := ["self", "entries", "bottom"]
abbrev P_Parts___init__ : List Str := ["self", "entries", "bottom"]
theorem sc_Parts___init__ : FnScope N_Parts___init__ P_Parts___init__ (defScope s_Parts___init__) := ⟨rfl, rfl, rfl, by decide +kernel, rfl, by decide +kernel, by decide +kernel⟩
def e_Parts___init__ : ES := (sAsg (eCall m_lowest [] (aCons (eVar 1) (aCons (eVar 2) aNil))) (etTup 2 (etCons (etSelf 0 l_own_entries) (etCons (etSelf 0 l_own_bottom) etNil))))
def m_Parts : Nat → List D → Option (List D) := mirI N_Parts___init__.length P_Parts___init__.length 3 e_Parts___init__
theorem o_Parts___init__ (T : Tx K mg) : ∃ fd, FnOk P w K mg base L2.CX0 3 (a_Parts___init__ K) fd P_Parts___init__ (spI K (clK K) 3 m_Parts) ∧ L2.FunD K "__init__" q_Parts___init__ (defArgs s_Parts___init__) (defBody s_Parts___init__) (defScope s_Parts___init__) [] [] (a_Parts___init__ K) fd := by
  obtain ⟨fd, F⟩ := T.fn_Parts___init__
  refine ⟨fd, in_tree (c := 3) F sc_Parts___init__ (by decide) fun cdv A outer s H E hr => ?_, F⟩
  exact (dss_one (ds_asg (d_call (c_lowest T) hr (da_cons (dv 1) (da_cons (dv 2) da_nil))) (dg_tup rfl (dgs_cons (dg_self T.s_own_entries (pv 0)) (dgs_cons (dg_self T.s_own_bottom (pv 0)) dgs_nil)))))
theorem k_Parts (T : Tx K mg) : MakD P w K (clK K) mg base 3 "Parts" 3 m_Parts [] := by
  obtain ⟨fd, G, F⟩ := o_Parts___init__ (P := P) (w := w) (base := base) T
  exact makD T.mk_3 G T.gl_Parts (FunD.bindsN F (fun _ _ _ _ _ _ us hl => match us, hl with | [_, _, _], _ => rfl))
abbrev N_parts_told : List Str := ["entries", "bottom", "one"]
abbrev P_parts_told : List Str := ["entries", "bottom"]
theorem sc_parts_told : FnScope N_parts_told P_parts_told (defScope s_parts_told) := ⟨rfl, rfl, rfl, by decide +kernel, rfl, by decide +kernel, by decide +kernel⟩
def e_parts_told : ES := (sSeq (sIf (bOf (eB (fIsi isiT) (aCons (eVar 0) (aCons (eC (.cls 3)) aNil)))) (sRet (eVar 0)) sNx) (sSeq (sIf (bOr (bNot (bOf (eB (fIsi isiT) (aCons (eVar 0) (aCons (eC (.ty "tuple")) aNil))))) (bOr (bOf (eBin fNe (eB fLen (aCons (eVar 0) aNil)) (eC k_MANY_ENTRIES))) (bNot (bOf (eB fAll (aCons (eLc (eItems (eVar 0)) (etName 2) bYes (eCall m_is_integer [] (aCons (eVar 2) aNil)) [2]) aNil)))))) sNever sNx) (sSeq (sIf (bOr (bNot (bOf (eCall m_is_integer [] (aCons (eVar 1) aNil)))) (bOf (eBin fEq (eVar 1) (eC (.int 0))))) sNever sNx) (sRet (eMake 3 m_Parts [] (aCons (eVar 0) (aCons (eVar 1) aNil)))))))
def m_parts_told : Nat → List D → Option D := mir N_parts_told.length P_parts_told.length e_parts_told
theorem o_parts_told (T : Tx K mg) : ∃ fd, FnOk P w K mg base L2.CX0 5 (a_parts_told K) fd P_parts_told (spD K (clK K) m_parts_told) ∧ L2.FunD K "parts_told" q_parts_told (defArgs s_parts_told) (defBody s_parts_told) (defScope s_parts_told) [] [] (a_parts_told K) fd := by
  obtain ⟨fd, F⟩ := T.fn_parts_told
  refine ⟨fd, fn_tree F sc_parts_told (by decide) fun cdv A outer s H E hr => ?_, F⟩
  exact (dss_cons (ds_if (dt_val (d_cb cr_isi (fc_isi T.isi) T.b_isinstance (da_cons (dv 0) (da_cons (d_gl T.k_Parts) da_nil)))) (dss_one (ds_ret (dv 0))) dss_nil) (dss_cons (ds_if (dt_w (dw_or (dt_not (dt_val (d_cb cr_isi (fc_isi T.isi) T.b_isinstance (da_cons (dv 0) (da_cons (d_bty T.b_tuple) da_nil))))) (dw_or (dt_cmp (op_neD hr.units) fd_ne (d_cb call_len_seq fc_len T.b_len (da_cons (dv 0) da_nil)) (d_gl T.k_MANY_ENTRIES)) (dw_or1 (dt_not (dt_val (d_cb (cr_all rfl) fc_all T.b_all (da_cons (d_lc (own := [("one", 2)]) rfl sc_parts_told.nd (di_seq (dv 0)) (blkOk_by rfl) gok_name (fun _ _ _ _ _ => (gname 2 sc_parts_told.nd)) (fun _ _ _ _ _ => dts_nil) (fun _ _ _ _ _ => (d_call (c_is_integer T) hr (da_cons (dv 2) da_nil)))) da_nil)))))))) (dss_one ds_never) dss_nil) (dss_cons (ds_if (dt_w (dw_or (dt_not (dt_val (d_call (c_is_integer T) hr (da_cons (dv 1) da_nil)))) (dw_or1 (dt_cmp (op_eqD hr.units) fd_eq (dv 1) d_int)))) (dss_one ds_never) dss_nil) (dss_one (ds_ret (d_make (k_Parts T) hr (da_cons (dv 0) (da_cons (dv 1) da_nil))))))))
theorem c_parts_told (T : Tx K mg) : CalD P w K (clK K) mg base 5 "parts_told" m_parts_told [] := by
  obtain ⟨fd, G, F⟩ := o_parts_told (P := P) (w := w) (base := base) T
  exact calD G T.gl_parts_told F.kp (FunD.bindsN F (fun _ _ _ _ _ _ us hl => match us, hl with | [_, _], _ => rfl))
abbrev N_require_algebra : List Str := ["value"]
abbrev P_require_algebra : List Str := ["value"]
theorem sc_require_algebra : FnScope N_require_algebra P_require_algebra (defScope s_require_algebra) := ⟨rfl, rfl, rfl, by decide +kernel, rfl, by decide +kernel, by decide +kernel⟩
def e_require_algebra : ES := (sIf (bNot (bOf (eB (fIsi isiT) (aCons (eVar 0) (aCons (eC (.cls 2)) aNil))))) sNever sNx)
def m_require_algebra : Nat → List D → Option D := mir N_require_algebra.length P_require_algebra.length e_require_algebra
theorem o_require_algebra (T : Tx K mg) : ∃ fd, FnOk P w K mg base L2.CX0 1 (a_require_algebra K) fd P_require_algebra (spD K (clK K) m_require_algebra) ∧ L2.FunD K "require_algebra" q_require_algebra (defArgs s_require_algebra) (defBody s_require_algebra) (defScope s_require_algebra) [] [] (a_require_algebra K) fd := by
  obtain ⟨fd, F⟩ := T.fn_require_algebra
  refine ⟨fd, fn_tree F sc_require_algebra (by decide) fun cdv A outer s H E hr => ?_, F⟩
  exact (dss_one (ds_if (dt_not (dt_val (d_cb cr_isi (fc_isi T.isi) T.b_isinstance (da_cons (dv 0) (da_cons (d_gl T.k_Algebra) da_nil))))) (dss_one ds_never) dss_nil))
theorem c_require_algebra (T : Tx K mg) : CalD P w K (clK K) mg base 1 "require_algebra" m_require_algebra [] := by
  obtain ⟨fd, G, F⟩ := o_require_algebra (P := P) (w := w) (base := base) T
  exact calD G T.gl_require_algebra F.kp (FunD.bindsN F (fun _ _ _ _ _ _ us hl => match us, hl with | [_], _ => rfl))
end
end TL

namespace TL
open PySem PySem.Spec PyProof.Rows L2 Evl SlX StX C8
section
variable {P : Program} {w : World} {K : PySem.W.Frag} {mg : Str → Option Value} {base : Heap}
abbrev N_Four___init__ : List Str := ["self", "algebra", "entries", "bottom", "parts"]
abbrev P_Four___init__ : List Str := ["self", "algebra", "entries", "bottom"]
theorem sc_Four___init__ : FnScope N_Four___init__ P_Four___init__ (defScope s_Four___init__) := ⟨rfl, rfl, rfl, by decide +kernel, rfl, by decide +kernel, by decide +kernel⟩
def e_Four___init__ : ES := (sSeq (sExpr (eCall m_require_algebra [] (aCons (eVar 1) aNil))) (sSeq (sAsg (eCall m_parts_told [] (aCons (eVar 2) (aCons (eVar 3) aNil))) (etName 4)) (sSeq (sAsg (eVar 1) (etSelf 0 l_own_algebra)) (sSeq (sAsg (eUn (fFld l_own_bottom) (eVar 4)) (etSelf 0 l_own_bottom)) (sAsg (eUn (fFld l_own_entries) (eVar 4)) (etSelf 0 l_own_entries))))))
def m_Four : Nat → List D → Option (List D) := mirI N_Four___init__.length P_Four___init__.length 4 e_Four___init__
theorem o_Four___init__ (T : Tx K mg) : ∃ fd, FnOk P w K mg base L2.CX0 6 (a_Four___init__ K) fd P_Four___init__ (spI K (clK K) 4 m_Four) ∧ L2.FunD K "__init__" q_Four___init__ (defArgs s_Four___init__) (defBody s_Four___init__) (defScope s_Four___init__) [.int 1] [] (a_Four___init__ K) fd := by
  obtain ⟨fd, F⟩ := T.fn_Four___init__
  refine ⟨fd, in_tree (c := 4) F sc_Four___init__ (by decide) fun cdv A outer s H E hr => ?_, F⟩
  exact (dss_cons (ds_expr (d_call (c_require_algebra T) hr (da_cons (dv 1) da_nil))) (dss_cons (ds_asg (d_call (c_parts_told T) hr (da_cons (dv 2) (da_cons (dv 3) da_nil))) (dg_name 4 sc_Four___init__.nd)) (dss_cons (ds_self T.s_own_algebra (pv 0) (dv 1)) (dss_cons (ds_self T.s_own_bottom (pv 0) (d_fld T.s_own_bottom (dv 4))) (dss_one (ds_self T.s_own_entries (pv 0) (d_fld T.s_own_entries (dv 4))))))))
theorem k_Four (T : Tx K mg) : MakD P w K (clK K) mg base 6 "Four" 4 m_Four [] := by
  obtain ⟨fd, G, F⟩ := o_Four___init__ (P := P) (w := w) (base := base) T
  obtain ⟨ds, b⟩ := (F.binds1 (ps := P_Four___init__) 4 1 (by simp) rfl fun _ _ _ _ _ _ _ us its h1 h2 => match us, its, h1, h2 with | [_, _, _, _], [_], _, _ => ⟨_, rfl, rfl⟩)
  exact makD1 T.mk_4 G T.gl_Four b fun _ => .nil
theorem k_Four_d (T : Tx K mg) : MakD P w K (clK K) mg base 6 "Four" 4 m_Four [.int 1] := by
  obtain ⟨fd, G, F⟩ := o_Four___init__ (P := P) (w := w) (base := base) T
  obtain ⟨ds, b⟩ := (F.binds1 (ps := P_Four___init__) 3 0 (by simp) rfl fun _ _ _ _ _ _ _ us its h1 h2 => match us, its, h1, h2 with | [_, _, _], [_], _, _ => ⟨_, rfl, rfl⟩)
  exact makD1 T.mk_4 G T.gl_Four b fun _ => .cons (.int 1) .nil
abbrev N_four_made : List Str := ["algebra", "entries", "bottom"]
abbrev P_four_made : List Str := ["algebra", "entries", "bottom"]
theorem sc_four_made : FnScope N_four_made P_four_made (defScope s_four_made) := ⟨rfl, rfl, rfl, by decide +kernel, rfl, by decide +kernel, by decide +kernel⟩
def e_four_made : ES := (sRet (eMake 4 m_Four [.int 1] (aCons (eVar 0) (aCons (eMake 3 m_Parts [] (aCons (eVar 1) (aCons (eVar 2) aNil))) aNil))))
def m_four_made : Nat → List D → Option D := mir N_four_made.length P_four_made.length e_four_made
theorem o_four_made (T : Tx K mg) : ∃ fd, FnOk P w K mg base L2.CX0 8 (a_four_made K) fd P_four_made (spD K (clK K) m_four_made) ∧ L2.FunD K "four_made" q_four_made (defArgs s_four_made) (defBody s_four_made) (defScope s_four_made) [.int 1] [] (a_four_made K) fd := by
  obtain ⟨fd, F⟩ := T.fn_four_made
  refine ⟨fd, fn_tree F sc_four_made (by decide) fun cdv A outer s H E hr => ?_, F⟩
  exact (dss_one (ds_ret (d_make (k_Four_d T) hr (da_cons (dv 0) (da_cons (d_make (k_Parts T) hr (da_cons (dv 1) (da_cons (dv 2) da_nil))) da_nil)))))
theorem c_four_made (T : Tx K mg) : CalD P w K (clK K) mg base 8 "four_made" m_four_made [] := by
  obtain ⟨fd, G, F⟩ := o_four_made (P := P) (w := w) (base := base) T
  obtain ⟨ds, b⟩ := (F.binds1 (ps := P_four_made) 3 1 (by simp) rfl fun _ _ _ _ _ _ _ us its h1 h2 => match us, its, h1, h2 with | [_, _, _], [_], _, _ => ⟨_, rfl, rfl⟩)
  exact calD1 G T.gl_four_made F.kp b fun _ => .nil
abbrev N_Four_algebra : List Str := ["self"]
abbrev P_Four_algebra : List Str := ["self"]
theorem sc_Four_algebra : FnScope N_Four_algebra P_Four_algebra (defScope s_Four_algebra) := ⟨rfl, rfl, rfl, by decide +kernel, rfl, by decide +kernel, by decide +kernel⟩
def e_Four_algebra : ES := (sRet (eUn (fFld l_own_algebra) (eVar 0)))
def m_Four_algebra : Nat → List D → Option D := mir N_Four_algebra.length P_Four_algebra.length e_Four_algebra
theorem o_Four_algebra (T : Tx K mg) : ∃ fd, FnOk P w K mg base L2.CX0 1 (a_Four_algebra K) fd P_Four_algebra (spD K (clK K) m_Four_algebra) ∧ L2.FunD K "algebra" q_Four_algebra (defArgs s_Four_algebra) (defBody s_Four_algebra) (defScope s_Four_algebra) [] [] (a_Four_algebra K) fd := by
  obtain ⟨fd, F⟩ := T.fn_Four_algebra
  refine ⟨fd, fn_tree F sc_Four_algebra (by decide) fun cdv A outer s H E hr => ?_, F⟩
  exact (dss_one (ds_ret (d_fld T.s_own_algebra (dv 0))))
theorem p_Four_algebra (T : Tx K mg) : ProD P w K (clK K) mg base 1 4 "algebra" m_Four_algebra := by
  obtain ⟨fd, G, F⟩ := o_Four_algebra (P := P) (w := w) (base := base) T
  obtain ⟨p, rest, h1, h2, h3, h4⟩ := T.prop_Four_algebra
  exact proD T.cls_4 h1 h2 h3 h4 G (FunD.bindsN F (fun _ _ _ _ _ _ us hl => match us, hl with | [_], _ => rfl))
abbrev N_Four_entries : List Str := ["self"]
abbrev P_Four_entries : List Str := ["self"]
theorem sc_Four_entries : FnScope N_Four_entries P_Four_entries (defScope s_Four_entries) := ⟨rfl, rfl, rfl, by decide +kernel, rfl, by decide +kernel, by decide +kernel⟩
def e_Four_entries : ES := (sRet (eUn (fFld l_own_entries) (eVar 0)))
def m_Four_entries : Nat → List D → Option D := mir N_Four_entries.length P_Four_entries.length e_Four_entries
theorem o_Four_entries (T : Tx K mg) : ∃ fd, FnOk P w K mg base L2.CX0 1 (a_Four_entries K) fd P_Four_entries (spD K (clK K) m_Four_entries) ∧ L2.FunD K "entries" q_Four_entries (defArgs s_Four_entries) (defBody s_Four_entries) (defScope s_Four_entries) [] [] (a_Four_entries K) fd := by
  obtain ⟨fd, F⟩ := T.fn_Four_entries
  refine ⟨fd, fn_tree F sc_Four_entries (by decide) fun cdv A outer s H E hr => ?_, F⟩
  exact (dss_one (ds_ret (d_fld T.s_own_entries (dv 0))))
theorem p_Four_entries (T : Tx K mg) : ProD P w K (clK K) mg base 1 4 "entries" m_Four_entries := by
  obtain ⟨fd, G, F⟩ := o_Four_entries (P := P) (w := w) (base := base) T
  obtain ⟨p, rest, h1, h2, h3, h4⟩ := T.prop_Four_entries
  exact proD T.cls_4 h1 h2 h3 h4 G (FunD.bindsN F (fun _ _ _ _ _ _ us hl => match us, hl with | [_], _ => rfl))
abbrev N_Four_bottom : List Str := ["self"]
abbrev P_Four_bottom : List Str := ["self"]
theorem sc_Four_bottom : FnScope N_Four_bottom P_Four_bottom (defScope s_Four_bottom) := ⟨rfl, rfl, rfl, by decide +kernel, rfl, by decide +kernel, by decide +kernel⟩
def e_Four_bottom : ES := (sRet (eUn (fFld l_own_bottom) (eVar 0)))
def m_Four_bottom : Nat → List D → Option D := mir N_Four_bottom.length P_Four_bottom.length e_Four_bottom
theorem o_Four_bottom (T : Tx K mg) : ∃ fd, FnOk P w K mg base L2.CX0 1 (a_Four_bottom K) fd P_Four_bottom (spD K (clK K) m_Four_bottom) ∧ L2.FunD K "bottom" q_Four_bottom (defArgs s_Four_bottom) (defBody s_Four_bottom) (defScope s_Four_bottom) [] [] (a_Four_bottom K) fd := by
  obtain ⟨fd, F⟩ := T.fn_Four_bottom
  refine ⟨fd, fn_tree F sc_Four_bottom (by decide) fun cdv A outer s H E hr => ?_, F⟩
  exact (dss_one (ds_ret (d_fld T.s_own_bottom (dv 0))))
theorem p_Four_bottom (T : Tx K mg) : ProD P w K (clK K) mg base 1 4 "bottom" m_Four_bottom := by
  obtain ⟨fd, G, F⟩ := o_Four_bottom (P := P) (w := w) (base := base) T
  obtain ⟨p, rest, h1, h2, h3, h4⟩ := T.prop_Four_bottom
  exact proD T.cls_4 h1 h2 h3 h4 G (FunD.bindsN F (fun _ _ _ _ _ _ us hl => match us, hl with | [_], _ => rfl))
abbrev N_Four_norm : List Str := ["self", "size"]
abbrev P_Four_norm : List Str := ["self"]
theorem sc_Four_norm : FnScope N_Four_norm P_Four_norm (defScope s_Four_norm) := ⟨rfl, rfl, rfl, by decide +kernel, rfl, by decide +kernel, by decide +kernel⟩
def e_Four_norm : ES := (sSeq (sAsg (eCall m_raw_norm [] (aCons (eUn (fFld l_own_a) (eUn (fFld l_own_algebra) (eVar 0))) (aCons (eUn (fFld l_own_b) (eUn (fFld l_own_algebra) (eVar 0))) (aCons (eUn (fFld l_own_entries) (eVar 0)) aNil)))) (etName 1)) (sRet (eCall m_ratio_of [] (aCons (eVar 1) (aCons (eBin fMul (eUn (fFld l_own_bottom) (eVar 0)) (eUn (fFld l_own_bottom) (eVar 0))) aNil)))))
def m_Four_norm : Nat → List D → Option D := mir N_Four_norm.length P_Four_norm.length e_Four_norm
theorem o_Four_norm (T : Tx K mg) : ∃ fd, FnOk P w K mg base L2.CX0 5 (a_Four_norm K) fd P_Four_norm (spD K (clK K) m_Four_norm) ∧ L2.FunD K "norm" q_Four_norm (defArgs s_Four_norm) (defBody s_Four_norm) (defScope s_Four_norm) [] [] (a_Four_norm K) fd := by
  obtain ⟨fd, F⟩ := T.fn_Four_norm
  refine ⟨fd, fn_tree F sc_Four_norm (by decide) fun cdv A outer s H E hr => ?_, F⟩
  exact (dss_cons (ds_asg (d_call (c_raw_norm T) hr (da_cons (d_fld T.s_own_a (d_fld T.s_own_algebra (dv 0))) (da_cons (d_fld T.s_own_b (d_fld T.s_own_algebra (dv 0))) (da_cons (d_fld T.s_own_entries (dv 0)) da_nil)))) (dg_name 1 sc_Four_norm.nd)) (dss_one (ds_ret (d_call (c_ratio_of T) hr (da_cons (dv 1) (da_cons (d_mul (d_fld T.s_own_bottom (dv 0)) (d_fld T.s_own_bottom (dv 0))) da_nil))))))
theorem p_Four_norm (T : Tx K mg) : ProD P w K (clK K) mg base 5 4 "norm" m_Four_norm := by
  obtain ⟨fd, G, F⟩ := o_Four_norm (P := P) (w := w) (base := base) T
  obtain ⟨p, rest, h1, h2, h3, h4⟩ := T.prop_Four_norm
  exact proD T.cls_4 h1 h2 h3 h4 G (FunD.bindsN F (fun _ _ _ _ _ _ us hl => match us, hl with | [_], _ => rfl))
abbrev N_Four_mate : List Str := ["self"]
abbrev P_Four_mate : List Str := ["self"]
theorem sc_Four_mate : FnScope N_Four_mate P_Four_mate (defScope s_Four_mate) := ⟨rfl, rfl, rfl, by decide +kernel, rfl, by decide +kernel, by decide +kernel⟩
def e_Four_mate : ES := (sRet (eCall m_four_made [] (aCons (eUn (fFld l_own_algebra) (eVar 0)) (aCons (eCall m_raw_mate [] (aCons (eUn (fFld l_own_entries) (eVar 0)) aNil)) (aCons (eUn (fFld l_own_bottom) (eVar 0)) aNil)))))
def m_Four_mate : Nat → List D → Option D := mir N_Four_mate.length P_Four_mate.length e_Four_mate
theorem o_Four_mate (T : Tx K mg) : ∃ fd, FnOk P w K mg base L2.CX0 9 (a_Four_mate K) fd P_Four_mate (spD K (clK K) m_Four_mate) ∧ L2.FunD K "mate" q_Four_mate (defArgs s_Four_mate) (defBody s_Four_mate) (defScope s_Four_mate) [] [] (a_Four_mate K) fd := by
  obtain ⟨fd, F⟩ := T.fn_Four_mate
  refine ⟨fd, fn_tree F sc_Four_mate (by decide) fun cdv A outer s H E hr => ?_, F⟩
  exact (dss_one (ds_ret (d_call (c_four_made T) hr (da_cons (d_fld T.s_own_algebra (dv 0)) (da_cons (d_call (c_raw_mate T) hr (da_cons (d_fld T.s_own_entries (dv 0)) da_nil)) (da_cons (d_fld T.s_own_bottom (dv 0)) da_nil))))))
theorem t_Four_mate (T : Tx K mg) : MetD P w K (clK K) mg base 9 4 "mate" m_Four_mate := by
  obtain ⟨fd, G, F⟩ := o_Four_mate (P := P) (w := w) (base := base) T
  exact metD T.cls_4 T.me_Four_mate G (FunD.bindsN F (fun _ _ _ _ _ _ us hl => match us, hl with | [_], _ => rfl))
abbrev N_Four_inverse : List Str := ["self", "size", "entries", "entry"]
abbrev P_Four_inverse : List Str := ["self"]
theorem sc_Four_inverse : FnScope N_Four_inverse P_Four_inverse (defScope s_Four_inverse) := ⟨rfl, rfl, rfl, by decide +kernel, rfl, by decide +kernel, by decide +kernel⟩
def e_Four_inverse : ES := (sSeq (sAsg (eCall m_raw_norm [] (aCons (eUn (fFld l_own_a) (eUn (fFld l_own_algebra) (eVar 0))) (aCons (eUn (fFld l_own_b) (eUn (fFld l_own_algebra) (eVar 0))) (aCons (eUn (fFld l_own_entries) (eVar 0)) aNil)))) (etName 1)) (sSeq (sIf (bOf (eBin fEq (eVar 1) (eC (.int 0)))) sNever sNx) (sSeq (sAsg (eB fTuple (aCons (eLc (eItems (eCall m_raw_mate [] (aCons (eUn (fFld l_own_entries) (eVar 0)) aNil))) (etName 3) bYes (eBin fMul (eUn (fFld l_own_bottom) (eVar 0)) (eVar 3)) [3]) aNil)) (etName 2)) (sRet (eCall m_four_made [] (aCons (eUn (fFld l_own_algebra) (eVar 0)) (aCons (eVar 2) (aCons (eVar 1) aNil))))))))
def m_Four_inverse : Nat → List D → Option D := mir N_Four_inverse.length P_Four_inverse.length e_Four_inverse
theorem o_Four_inverse (T : Tx K mg) : ∃ fd, FnOk P w K mg base L2.CX0 9 (a_Four_inverse K) fd P_Four_inverse (spD K (clK K) m_Four_inverse) ∧ L2.FunD K "inverse" q_Four_inverse (defArgs s_Four_inverse) (defBody s_Four_inverse) (defScope s_Four_inverse) [] [] (a_Four_inverse K) fd := by
  obtain ⟨fd, F⟩ := T.fn_Four_inverse
  refine ⟨fd, fn_tree F sc_Four_inverse (by decide) fun cdv A outer s H E hr => ?_, F⟩
  exact (dss_cons (ds_asg (d_call (c_raw_norm T) hr (da_cons (d_fld T.s_own_a (d_fld T.s_own_algebra (dv 0))) (da_cons (d_fld T.s_own_b (d_fld T.s_own_algebra (dv 0))) (da_cons (d_fld T.s_own_entries (dv 0)) da_nil)))) (dg_name 1 sc_Four_inverse.nd)) (dss_cons (ds_if (dt_cmp (op_eqD hr.units) fd_eq (dv 1) d_int) (dss_one ds_never) dss_nil) (dss_cons (ds_asg (d_ct call_tuple_of fc_tuple T.b_tuple (da_cons (d_lc (own := [("entry", 3)]) rfl sc_Four_inverse.nd (di_seq (d_call (c_raw_mate T) hr (da_cons (d_fld T.s_own_entries (dv 0)) da_nil))) (blkOk_by rfl) gok_name (fun _ _ _ _ _ => (gname 3 sc_Four_inverse.nd)) (fun _ _ _ _ _ => dts_nil) (fun _ _ _ _ _ => (d_mul (d_fld T.s_own_bottom (dv 0)) (dv 3)))) da_nil)) (dg_name 2 sc_Four_inverse.nd)) (dss_one (ds_ret (d_call (c_four_made T) hr (da_cons (d_fld T.s_own_algebra (dv 0)) (da_cons (dv 2) (da_cons (dv 1) da_nil)))))))))
theorem t_Four_inverse (T : Tx K mg) : MetD P w K (clK K) mg base 9 4 "inverse" m_Four_inverse := by
  obtain ⟨fd, G, F⟩ := o_Four_inverse (P := P) (w := w) (base := base) T
  exact metD T.cls_4 T.me_Four_inverse G (FunD.bindsN F (fun _ _ _ _ _ _ us hl => match us, hl with | [_], _ => rfl))
abbrev N_require_same_algebra : List Str := ["one", "other"]
abbrev P_require_same_algebra : List Str := ["one", "other"]
theorem sc_require_same_algebra : FnScope N_require_same_algebra P_require_same_algebra (defScope s_require_same_algebra) := ⟨rfl, rfl, rfl, by decide +kernel, rfl, by decide +kernel, by decide +kernel⟩
def e_require_same_algebra : ES := (sIf (bOf (eBinN (fNeO 2 nfT m_Algebra___eq__) (eUn (fFld l_own_algebra) (eVar 0)) (eUn (fFld l_own_algebra) (eVar 1)))) sNever sNx)
def m_require_same_algebra : Nat → List D → Option D := mir N_require_same_algebra.length P_require_same_algebra.length e_require_same_algebra
theorem o_require_same_algebra (T : Tx K mg) : ∃ fd, FnOk P w K mg base L2.CX0 3 (a_require_same_algebra K) fd P_require_same_algebra (spD K (clK K) m_require_same_algebra) ∧ L2.FunD K "require_same_algebra" q_require_same_algebra (defArgs s_require_same_algebra) (defBody s_require_same_algebra) (defScope s_require_same_algebra) [] [] (a_require_same_algebra K) fd := by
  obtain ⟨fd, F⟩ := T.fn_require_same_algebra
  refine ⟨fd, fn_tree F sc_require_same_algebra (by decide) fun cdv A outer s H E hr => ?_, F⟩
  exact (dss_one (ds_if (dt_neO T.nf T.ne_2 (t_Algebra___eq__ T) hr (d_fld T.s_own_algebra (dv 0)) (d_fld T.s_own_algebra (dv 1))) (dss_one ds_never) dss_nil))
theorem c_require_same_algebra (T : Tx K mg) : CalD P w K (clK K) mg base 3 "require_same_algebra" m_require_same_algebra [] := by
  obtain ⟨fd, G, F⟩ := o_require_same_algebra (P := P) (w := w) (base := base) T
  exact calD G T.gl_require_same_algebra F.kp (FunD.bindsN F (fun _ _ _ _ _ _ us hl => match us, hl with | [_, _], _ => rfl))
abbrev N_Four___add__ : List Str := ["self", "other", "low", "high", "entries", "one", "more"]
abbrev P_Four___add__ : List Str := ["self", "other"]
theorem sc_Four___add__ : FnScope N_Four___add__ P_Four___add__ (defScope s_Four___add__) := ⟨rfl, rfl, rfl, by decide +kernel, rfl, by decide +kernel, by decide +kernel⟩
def e_Four___add__ : ES := (sSeq (sIf (bNot (bOf (eB (fIsi isiT) (aCons (eVar 1) (aCons (eC (.cls 4)) aNil))))) sNever sNx) (sSeq (sExpr (eCall m_require_same_algebra [] (aCons (eVar 0) (aCons (eVar 1) aNil)))) (sSeq (sAsg (eTup (aCons (eUn (fFld l_own_bottom) (eVar 0)) (aCons (eUn (fFld l_own_bottom) (eVar 1)) aNil))) (etTup 2 (etCons (etName 2) (etCons (etName 3) etNil)))) (sSeq (sAsg (eB fTuple (aCons (eLc (eZip (aCons (eUn (fFld l_own_entries) (eVar 0)) (aCons (eUn (fFld l_own_entries) (eVar 1)) aNil))) (etTupT 2 (etCons (etName 5) (etCons (etName 6) etNil))) bYes (eBin fAdd (eBin fMul (eVar 5) (eVar 3)) (eBin fMul (eVar 6) (eVar 2))) [5, 6]) aNil)) (etName 4)) (sRet (eCall m_four_made [] (aCons (eUn (fFld l_own_algebra) (eVar 0)) (aCons (eVar 4) (aCons (eBin fMul (eVar 2) (eVar 3)) aNil)))))))))
def m_Four___add__ : Nat → List D → Option D := mir N_Four___add__.length P_Four___add__.length e_Four___add__
theorem o_Four___add__ (T : Tx K mg) : ∃ fd, FnOk P w K mg base L2.CX0 9 (a_Four___add__ K) fd P_Four___add__ (spD K (clK K) m_Four___add__) ∧ L2.FunD K "__add__" q_Four___add__ (defArgs s_Four___add__) (defBody s_Four___add__) (defScope s_Four___add__) [] [] (a_Four___add__ K) fd := by
  obtain ⟨fd, F⟩ := T.fn_Four___add__
  refine ⟨fd, fn_tree F sc_Four___add__ (by decide) fun cdv A outer s H E hr => ?_, F⟩
  exact (dss_cons (ds_if (dt_not (dt_val (d_cb cr_isi (fc_isi T.isi) T.b_isinstance (da_cons (dv 1) (da_cons (d_gl T.k_Four) da_nil))))) (dss_one ds_never) dss_nil) (dss_cons (ds_expr (d_call (c_require_same_algebra T) hr (da_cons (dv 0) (da_cons (dv 1) da_nil)))) (dss_cons (ds_asg (d_tup (da_cons (d_fld T.s_own_bottom (dv 0)) (da_cons (d_fld T.s_own_bottom (dv 1)) da_nil))) (dg_tup rfl (dgs_cons (dg_name 2 sc_Four___add__.nd) (dgs_cons (dg_name 3 sc_Four___add__.nd) dgs_nil)))) (dss_cons (ds_asg (d_ct call_tuple_of fc_tuple T.b_tuple (da_cons (d_lc (own := [("one", 5), ("more", 6)]) rfl sc_Four___add__.nd (di_zip T.b_zip (da_cons (d_fld T.s_own_entries (dv 0)) (da_cons (d_fld T.s_own_entries (dv 1)) da_nil))) (blkOk_by rfl) (gok_tup (gsok_cons gok_name (gsok_cons gok_name gsok_nil))) (fun _ _ _ _ _ => (pg_tup rfl (pgs_cons (gname 5 sc_Four___add__.nd) (pgs_cons (gname 6 sc_Four___add__.nd) pgs_nil)))) (fun _ _ _ _ _ => dts_nil) (fun _ _ _ _ _ => (d_add (d_mul (dv 5) (dv 3)) (d_mul (dv 6) (dv 2))))) da_nil)) (dg_name 4 sc_Four___add__.nd)) (dss_one (ds_ret (d_call (c_four_made T) hr (da_cons (d_fld T.s_own_algebra (dv 0)) (da_cons (dv 4) (da_cons (d_mul (dv 2) (dv 3)) da_nil))))))))))
theorem t_Four___add__ (T : Tx K mg) : MetD P w K (clK K) mg base 9 4 "__add__" m_Four___add__ := by
  obtain ⟨fd, G, F⟩ := o_Four___add__ (P := P) (w := w) (base := base) T
  exact metD T.cls_4 T.me_Four___add__ G (FunD.bindsN F (fun _ _ _ _ _ _ us hl => match us, hl with | [_, _], _ => rfl))
abbrev N_Four___neg__ : List Str := ["self", "entry"]
abbrev P_Four___neg__ : List Str := ["self"]
theorem sc_Four___neg__ : FnScope N_Four___neg__ P_Four___neg__ (defScope s_Four___neg__) := ⟨rfl, rfl, rfl, by decide +kernel, rfl, by decide +kernel, by decide +kernel⟩
def e_Four___neg__ : ES := (sRet (eCall m_four_made [] (aCons (eUn (fFld l_own_algebra) (eVar 0)) (aCons (eB fTuple (aCons (eLc (eItems (eUn (fFld l_own_entries) (eVar 0))) (etName 1) bYes (eUn fNeg (eVar 1)) [1]) aNil)) (aCons (eUn (fFld l_own_bottom) (eVar 0)) aNil)))))
def m_Four___neg__ : Nat → List D → Option D := mir N_Four___neg__.length P_Four___neg__.length e_Four___neg__
theorem o_Four___neg__ (T : Tx K mg) : ∃ fd, FnOk P w K mg base L2.CX0 9 (a_Four___neg__ K) fd P_Four___neg__ (spD K (clK K) m_Four___neg__) ∧ L2.FunD K "__neg__" q_Four___neg__ (defArgs s_Four___neg__) (defBody s_Four___neg__) (defScope s_Four___neg__) [] [] (a_Four___neg__ K) fd := by
  obtain ⟨fd, F⟩ := T.fn_Four___neg__
  refine ⟨fd, fn_tree F sc_Four___neg__ (by decide) fun cdv A outer s H E hr => ?_, F⟩
  exact (dss_one (ds_ret (d_call (c_four_made T) hr (da_cons (d_fld T.s_own_algebra (dv 0)) (da_cons (d_ct call_tuple_of fc_tuple T.b_tuple (da_cons (d_lc (own := [("entry", 1)]) rfl sc_Four___neg__.nd (di_seq (d_fld T.s_own_entries (dv 0))) (blkOk_by rfl) gok_name (fun _ _ _ _ _ => (gname 1 sc_Four___neg__.nd)) (fun _ _ _ _ _ => dts_nil) (fun _ _ _ _ _ => (d_neg (dv 1)))) da_nil)) (da_cons (d_fld T.s_own_bottom (dv 0)) da_nil))))))
theorem t_Four___neg__ (T : Tx K mg) : MetD P w K (clK K) mg base 9 4 "__neg__" m_Four___neg__ := by
  obtain ⟨fd, G, F⟩ := o_Four___neg__ (P := P) (w := w) (base := base) T
  exact metD T.cls_4 T.me_Four___neg__ G (FunD.bindsN F (fun _ _ _ _ _ _ us hl => match us, hl with | [_], _ => rfl))
abbrev N_Four___sub__ : List Str := ["self", "other"]
abbrev P_Four___sub__ : List Str := ["self", "other"]
theorem sc_Four___sub__ : FnScope N_Four___sub__ P_Four___sub__ (defScope s_Four___sub__) := ⟨rfl, rfl, rfl, by decide +kernel, rfl, by decide +kernel, by decide +kernel⟩
def e_Four___sub__ : ES := (sSeq (sIf (bNot (bOf (eB (fIsi isiT) (aCons (eVar 1) (aCons (eC (.cls 4)) aNil))))) sNever sNx) (sSeq (sExpr (eCall m_require_same_algebra [] (aCons (eVar 0) (aCons (eVar 1) aNil)))) (sRet (eBinN (fOwn2 4 m_Four___add__) (eVar 0) (eUnN (fOwn1 4 m_Four___neg__) (eVar 1))))))
def m_Four___sub__ : Nat → List D → Option D := mir N_Four___sub__.length P_Four___sub__.length e_Four___sub__
theorem o_Four___sub__ (T : Tx K mg) : ∃ fd, FnOk P w K mg base L2.CX0 10 (a_Four___sub__ K) fd P_Four___sub__ (spD K (clK K) m_Four___sub__) ∧ L2.FunD K "__sub__" q_Four___sub__ (defArgs s_Four___sub__) (defBody s_Four___sub__) (defScope s_Four___sub__) [] [] (a_Four___sub__ K) fd := by
  obtain ⟨fd, F⟩ := T.fn_Four___sub__
  refine ⟨fd, fn_tree F sc_Four___sub__ (by decide) fun cdv A outer s H E hr => ?_, F⟩
  exact (dss_cons (ds_if (dt_not (dt_val (d_cb cr_isi (fc_isi T.isi) T.b_isinstance (da_cons (dv 1) (da_cons (d_gl T.k_Four) da_nil))))) (dss_one ds_never) dss_nil) (dss_cons (ds_expr (d_call (c_require_same_algebra T) hr (da_cons (dv 0) (da_cons (dv 1) da_nil)))) (dss_one (ds_ret (d_addO (t_Four___add__ T) T.first_4 hr (dv 0) (d_negO (t_Four___neg__ T) hr (dv 1)))))))
theorem t_Four___sub__ (T : Tx K mg) : MetD P w K (clK K) mg base 10 4 "__sub__" m_Four___sub__ := by
  obtain ⟨fd, G, F⟩ := o_Four___sub__ (P := P) (w := w) (base := base) T
  exact metD T.cls_4 T.me_Four___sub__ G (FunD.bindsN F (fun _ _ _ _ _ _ us hl => match us, hl with | [_, _], _ => rfl))
abbrev N_Four___mul__ : List Str := ["self", "other", "algebra", "entries"]
abbrev P_Four___mul__ : List Str := ["self", "other"]
theorem sc_Four___mul__ : FnScope N_Four___mul__ P_Four___mul__ (defScope s_Four___mul__) := ⟨rfl, rfl, rfl, by decide +kernel, rfl, by decide +kernel, by decide +kernel⟩
def e_Four___mul__ : ES := (sSeq (sIf (bNot (bOf (eB (fIsi isiT) (aCons (eVar 1) (aCons (eC (.cls 4)) aNil))))) sNever sNx) (sSeq (sExpr (eCall m_require_same_algebra [] (aCons (eVar 0) (aCons (eVar 1) aNil)))) (sSeq (sAsg (eUn (fFld l_own_algebra) (eVar 0)) (etName 2)) (sSeq (sAsg (eCall m_raw_product [] (aCons (eUn (fFld l_own_a) (eVar 2)) (aCons (eUn (fFld l_own_b) (eVar 2)) (aCons (eUn (fFld l_own_entries) (eVar 0)) (aCons (eUn (fFld l_own_entries) (eVar 1)) aNil))))) (etName 3)) (sRet (eCall m_four_made [] (aCons (eVar 2) (aCons (eVar 3) (aCons (eBin fMul (eUn (fFld l_own_bottom) (eVar 0)) (eUn (fFld l_own_bottom) (eVar 1))) aNil)))))))))
def m_Four___mul__ : Nat → List D → Option D := mir N_Four___mul__.length P_Four___mul__.length e_Four___mul__
theorem o_Four___mul__ (T : Tx K mg) : ∃ fd, FnOk P w K mg base L2.CX0 9 (a_Four___mul__ K) fd P_Four___mul__ (spD K (clK K) m_Four___mul__) ∧ L2.FunD K "__mul__" q_Four___mul__ (defArgs s_Four___mul__) (defBody s_Four___mul__) (defScope s_Four___mul__) [] [] (a_Four___mul__ K) fd := by
  obtain ⟨fd, F⟩ := T.fn_Four___mul__
  refine ⟨fd, fn_tree F sc_Four___mul__ (by decide) fun cdv A outer s H E hr => ?_, F⟩
  exact (dss_cons (ds_if (dt_not (dt_val (d_cb cr_isi (fc_isi T.isi) T.b_isinstance (da_cons (dv 1) (da_cons (d_gl T.k_Four) da_nil))))) (dss_one ds_never) dss_nil) (dss_cons (ds_expr (d_call (c_require_same_algebra T) hr (da_cons (dv 0) (da_cons (dv 1) da_nil)))) (dss_cons (ds_asg (d_fld T.s_own_algebra (dv 0)) (dg_name 2 sc_Four___mul__.nd)) (dss_cons (ds_asg (d_call (c_raw_product T) hr (da_cons (d_fld T.s_own_a (dv 2)) (da_cons (d_fld T.s_own_b (dv 2)) (da_cons (d_fld T.s_own_entries (dv 0)) (da_cons (d_fld T.s_own_entries (dv 1)) da_nil))))) (dg_name 3 sc_Four___mul__.nd)) (dss_one (ds_ret (d_call (c_four_made T) hr (da_cons (dv 2) (da_cons (dv 3) (da_cons (d_mul (d_fld T.s_own_bottom (dv 0)) (d_fld T.s_own_bottom (dv 1))) da_nil))))))))))
theorem t_Four___mul__ (T : Tx K mg) : MetD P w K (clK K) mg base 9 4 "__mul__" m_Four___mul__ := by
  obtain ⟨fd, G, F⟩ := o_Four___mul__ (P := P) (w := w) (base := base) T
  exact metD T.cls_4 T.me_Four___mul__ G (FunD.bindsN F (fun _ _ _ _ _ _ us hl => match us, hl with | [_, _], _ => rfl))
abbrev N_Four___eq__ : List Str := ["self", "other"]
abbrev P_Four___eq__ : List Str := ["self", "other"]
theorem sc_Four___eq__ : FnScope N_Four___eq__ P_Four___eq__ (defScope s_Four___eq__) := ⟨rfl, rfl, rfl, by decide +kernel, rfl, by decide +kernel, by decide +kernel⟩
def e_Four___eq__ : ES := (sSeq (sIf (bOr (bNot (bOf (eB (fIsi isiT) (aCons (eVar 1) (aCons (eC (.cls 4)) aNil))))) (bOf (eBinN (fNeO 2 nfT m_Algebra___eq__) (eUn (fFld l_own_algebra) (eVar 0)) (eUn (fFld l_own_algebra) (eVar 1))))) (sRet (eC (.bl false))) sNx) (sRet (eAnd (eBin fEq (eUn (fFld l_own_bottom) (eVar 0)) (eUn (fFld l_own_bottom) (eVar 1))) (eBin fEq (eUn (fFld l_own_entries) (eVar 0)) (eUn (fFld l_own_entries) (eVar 1))))))
def m_Four___eq__ : Nat → List D → Option D := mir N_Four___eq__.length P_Four___eq__.length e_Four___eq__
theorem o_Four___eq__ (T : Tx K mg) : ∃ fd, FnOk P w K mg base L2.CX0 3 (a_Four___eq__ K) fd P_Four___eq__ (spD K (clK K) m_Four___eq__) ∧ L2.FunD K "__eq__" q_Four___eq__ (defArgs s_Four___eq__) (defBody s_Four___eq__) (defScope s_Four___eq__) [] [] (a_Four___eq__ K) fd := by
  obtain ⟨fd, F⟩ := T.fn_Four___eq__
  refine ⟨fd, fn_tree F sc_Four___eq__ (by decide) fun cdv A outer s H E hr => ?_, F⟩
  exact (dss_cons (ds_if (dt_w (dw_or (dt_not (dt_val (d_cb cr_isi (fc_isi T.isi) T.b_isinstance (da_cons (dv 1) (da_cons (d_gl T.k_Four) da_nil))))) (dw_or1 (dt_neO T.nf T.ne_2 (t_Algebra___eq__ T) hr (d_fld T.s_own_algebra (dv 0)) (d_fld T.s_own_algebra (dv 1)))))) (dss_one (ds_ret d_bl)) dss_nil) (dss_one (ds_ret (d_and (d_eq hr (d_fld T.s_own_bottom (dv 0)) (d_fld T.s_own_bottom (dv 1))) (d_one (d_eq hr (d_fld T.s_own_entries (dv 0)) (d_fld T.s_own_entries (dv 1))))))))
theorem t_Four___eq__ (T : Tx K mg) : MetD P w K (clK K) mg base 3 4 "__eq__" m_Four___eq__ := by
  obtain ⟨fd, G, F⟩ := o_Four___eq__ (P := P) (w := w) (base := base) T
  exact metD T.cls_4 T.me_Four___eq__ G (FunD.bindsN F (fun _ _ _ _ _ _ us hl => match us, hl with | [_, _], _ => rfl))
abbrev N_is_four_of : List Str := ["algebra", "value"]
abbrev P_is_four_of : List Str := ["algebra", "value"]
theorem sc_is_four_of : FnScope N_is_four_of P_is_four_of (defScope s_is_four_of) := ⟨rfl, rfl, rfl, by decide +kernel, rfl, by decide +kernel, by decide +kernel⟩
def e_is_four_of : ES := (sRet (eAnd (eB (fIsi isiT) (aCons (eVar 1) (aCons (eC (.cls 4)) aNil))) (eBinN (fEqO 2 nfT m_Algebra___eq__) (eUn (fFld l_own_algebra) (eVar 1)) (eVar 0))))
def m_is_four_of : Nat → List D → Option D := mir N_is_four_of.length P_is_four_of.length e_is_four_of
theorem o_is_four_of (T : Tx K mg) : ∃ fd, FnOk P w K mg base L2.CX0 2 (a_is_four_of K) fd P_is_four_of (spD K (clK K) m_is_four_of) ∧ L2.FunD K "is_four_of" q_is_four_of (defArgs s_is_four_of) (defBody s_is_four_of) (defScope s_is_four_of) [] [] (a_is_four_of K) fd := by
  obtain ⟨fd, F⟩ := T.fn_is_four_of
  refine ⟨fd, fn_tree F sc_is_four_of (by decide) fun cdv A outer s H E hr => ?_, F⟩
  exact (dss_one (ds_ret (d_and (d_cb cr_isi (fc_isi T.isi) T.b_isinstance (da_cons (dv 1) (da_cons (d_gl T.k_Four) da_nil))) (d_one (d_eqO T.nf (t_Algebra___eq__ T) hr (d_fld T.s_own_algebra (dv 1)) (dv 0))))))
theorem c_is_four_of (T : Tx K mg) : CalD P w K (clK K) mg base 2 "is_four_of" m_is_four_of [] := by
  obtain ⟨fd, G, F⟩ := o_is_four_of (P := P) (w := w) (base := base) T
  exact calD G T.gl_is_four_of F.kp (FunD.bindsN F (fun _ _ _ _ _ _ us hl => match us, hl with | [_, _], _ => rfl))
abbrev N_require_definite : List Str := ["algebra"]
abbrev P_require_definite : List Str := ["algebra"]
theorem sc_require_definite : FnScope N_require_definite P_require_definite (defScope s_require_definite) := ⟨rfl, rfl, rfl, by decide +kernel, rfl, by decide +kernel, by decide +kernel⟩
def e_require_definite : ES := (sIf (bNot (bOf (eProp 2 m_Algebra_is_definite (eVar 0)))) sNever sNx)
def m_require_definite : Nat → List D → Option D := mir N_require_definite.length P_require_definite.length e_require_definite
theorem o_require_definite (T : Tx K mg) : ∃ fd, FnOk P w K mg base L2.CX0 3 (a_require_definite K) fd P_require_definite (spD K (clK K) m_require_definite) ∧ L2.FunD K "require_definite" q_require_definite (defArgs s_require_definite) (defBody s_require_definite) (defScope s_require_definite) [] [] (a_require_definite K) fd := by
  obtain ⟨fd, F⟩ := T.fn_require_definite
  refine ⟨fd, fn_tree F sc_require_definite (by decide) fun cdv A outer s H E hr => ?_, F⟩
  exact (dss_one (ds_if (dt_not (dt_val (d_prop (p_Algebra_is_definite T) hr (dv 0)))) (dss_one ds_never) dss_nil))
theorem c_require_definite (T : Tx K mg) : CalD P w K (clK K) mg base 3 "require_definite" m_require_definite [] := by
  obtain ⟨fd, G, F⟩ := o_require_definite (P := P) (w := w) (base := base) T
  exact calD G T.gl_require_definite F.kp (FunD.bindsN F (fun _ _ _ _ _ _ us hl => match us, hl with | [_], _ => rfl))
end
end TL

namespace TL
open PySem PySem.Spec PyProof.Rows L2 Evl SlX StX C8
section
variable {P : Program} {w : World} {K : PySem.W.Frag} {mg : Str → Option Value} {base : Heap}
abbrev N_row_less : List Str := ["row", "many", "other", "entry", "more"]
abbrev P_row_less : List Str := ["row", "many", "other"]
theorem sc_row_less : FnScope N_row_less P_row_less (defScope s_row_less) := ⟨rfl, rfl, rfl, by decide +kernel, rfl, by decide +kernel, by decide +kernel⟩
def e_row_less : ES := (sRet (eLc (eZip (aCons (eVar 0) (aCons (eVar 2) aNil))) (etTupT 2 (etCons (etName 3) (etCons (etName 4) etNil))) bYes (eBin fSub (eVar 3) (eBin fMul (eVar 1) (eVar 4))) [3, 4]))
def m_row_less : Nat → List D → Option D := mir N_row_less.length P_row_less.length e_row_less
theorem o_row_less (T : Tx K mg) : ∃ fd, FnOk P w K mg base L2.CX0 1 (a_row_less K) fd P_row_less (spD K (clK K) m_row_less) ∧ L2.FunD K "row_less" q_row_less (defArgs s_row_less) (defBody s_row_less) (defScope s_row_less) [] [] (a_row_less K) fd := by
  obtain ⟨fd, F⟩ := T.fn_row_less
  refine ⟨fd, fn_tree F sc_row_less (by decide) fun cdv A outer s H E hr => ?_, F⟩
  exact (dss_one (ds_ret (d_lc (own := [("entry", 3), ("more", 4)]) rfl sc_row_less.nd (di_zip T.b_zip (da_cons (dv 0) (da_cons (dv 2) da_nil))) (blkOk_by rfl) (gok_tup (gsok_cons gok_name (gsok_cons gok_name gsok_nil))) (fun _ _ _ _ _ => (pg_tup rfl (pgs_cons (gname 3 sc_row_less.nd) (pgs_cons (gname 4 sc_row_less.nd) pgs_nil)))) (fun _ _ _ _ _ => dts_nil) (fun _ _ _ _ _ => (d_sub (dv 3) (d_mul (dv 1) (dv 4)))))))
theorem c_row_less (T : Tx K mg) : CalD P w K (clK K) mg base 1 "row_less" m_row_less [] := by
  obtain ⟨fd, G, F⟩ := o_row_less (P := P) (w := w) (base := base) T
  exact calD G T.gl_row_less F.kp (FunD.bindsN F (fun _ _ _ _ _ _ us hl => match us, hl with | [_, _, _], _ => rfl))
abbrev N_led_rows : List Str := ["rows", "at", "left", "done", "place", "least", "later", "lead", "row", "spot", "entry"]
abbrev P_led_rows : List Str := ["rows", "at"]
theorem sc_led_rows : FnScope N_led_rows P_led_rows (defScope s_led_rows) := ⟨rfl, rfl, rfl, by decide +kernel, rfl, by decide +kernel, by decide +kernel⟩
def e_led_rows : ES := (sSeq (sAsg (eLc (eItems (eVar 0)) (etName 8) (bOf (eBin fNe (eBin fIx (eVar 8) (eVar 1)) (eC (.int 0)))) (eVar 8) [8]) (etName 2)) (sSeq (sAsg (eLc (eItems (eVar 0)) (etName 8) (bOf (eBin fEq (eBin fIx (eVar 8) (eVar 1)) (eC (.int 0)))) (eVar 8) [8]) (etName 3)) (sSeq (sIf (bOf (eBin fEq (eVar 2) (eLst aNil))) (sRet (eC .non)) sNx) (sSeq (sWhile (bOf (eBin fGt (eB fLen (aCons (eVar 2) aNil)) (eC (.int 1)))) (sSeq (sAsg (eBin fIx (eB fMin (aCons (eLc (eEnum (aCons (eVar 2) aNil)) (etTupT 2 (etCons (etName 9) (etCons (etName 8) etNil))) bYes (eTup (aCons (eB fAbs (aCons (eBin fIx (eVar 8) (eVar 1)) aNil)) (aCons (eVar 9) aNil))) [9, 8]) aNil)) (eC (.int 1))) (etName 4)) (sSeq (sAsg (eBin fIx (eVar 2) (eVar 4)) (etName 5)) (sSeq (sAsg (eLc (eEnum (aCons (eVar 2) aNil)) (etTupT 2 (etCons (etName 9) (etCons (etName 8) etNil))) (bOf (eBin fNe (eVar 9) (eVar 4))) (eCall m_row_less [] (aCons (eVar 8) (aCons (eBin fDiv (eBin fIx (eVar 8) (eVar 1)) (eBin fIx (eVar 5) (eVar 1))) (aCons (eVar 5) aNil)))) [9, 8]) (etName 6)) (sSeq (sAsg (eBin fAdd (eVar 3) (eLc (eItems (eVar 6)) (etName 8) (bOf (eBin fEq (eBin fIx (eVar 8) (eVar 1)) (eC (.int 0)))) (eVar 8) [8])) (etName 3)) (sAsg (eBin fAdd (eLst (aCons (eVar 5) aNil)) (eLc (eItems (eVar 6)) (etName 8) (bOf (eBin fNe (eBin fIx (eVar 8) (eVar 1)) (eC (.int 0)))) (eVar 8) [8])) (etName 2))))))) (sSeq (sAsg (eIf (bOf (eBin fGt (eBin fIx (eBin fIx (eVar 2) (eC (.int 0))) (eVar 1)) (eC (.int 0)))) (eBin fIx (eVar 2) (eC (.int 0))) (eLc (eItems (eBin fIx (eVar 2) (eC (.int 0)))) (etName 10) bYes (eUn fNeg (eVar 10)) [10])) (etName 7)) (sRet (eTup (aCons (eVar 7) (aCons (eLc (eItems (eVar 3)) (etName 8) (bOf (eB fAnyI (aCons (eVar 8) aNil))) (eVar 8) [8]) aNil)))))))))
def m_led_rows : Nat → List D → Option D := mir N_led_rows.length P_led_rows.length e_led_rows
theorem o_led_rows (T : Tx K mg) : ∃ fd, FnOk P w K mg base L2.CX0 2 (a_led_rows K) fd P_led_rows (spD K (clK K) m_led_rows) ∧ L2.FunD K "led_rows" q_led_rows (defArgs s_led_rows) (defBody s_led_rows) (defScope s_led_rows) [] [] (a_led_rows K) fd := by
  obtain ⟨fd, F⟩ := T.fn_led_rows
  refine ⟨fd, fn_tree F sc_led_rows (by decide) fun cdv A outer s H E hr => ?_, F⟩
  exact (dss_cons (ds_setLc (own := [("row", 8)]) (i := 2) rfl sc_led_rows.nd rfl rfl (sw_true rfl rfl rfl (by decide +kernel)) (di_seq (dv 0)) (blkOk_by rfl) gok_name (fun _ _ _ _ _ => (gname 8 sc_led_rows.nd)) (fun _ _ _ _ _ => (dts_one (dt_cmp (op_neD hr.units) fd_ne (d_ix (dv 8) (dv 1)) d_int))) (fun _ _ _ _ _ => (dv 8))) (dss_cons (ds_setLc (own := [("row", 8)]) (i := 3) rfl sc_led_rows.nd rfl rfl (sw_true rfl rfl rfl (by decide +kernel)) (di_seq (dv 0)) (blkOk_by rfl) gok_name (fun _ _ _ _ _ => (gname 8 sc_led_rows.nd)) (fun _ _ _ _ _ => (dts_one (dt_cmp (op_eqD hr.units) fd_eq (d_ix (dv 8) (dv 1)) d_int))) (fun _ _ _ _ _ => (dv 8))) (dss_cons (ds_if (dt_cmp (op_eqD hr.units) fd_eq (dv 2) (d_lst da_nil)) (dss_one (ds_ret d_non)) dss_nil) (dss_cons (ds_while PassesOwn.never (dt_cmp op_gt (fd_I0 fun _ _ _ => .bl _) (d_cb call_len_seq fc_len T.b_len (da_cons (dv 2) da_nil)) d_int) (dss_cons (ds_asg (d_ix (d_cb (cr_minT rfl hr.units) fc_min T.b_min (da_cons (d_lc (own := [("spot", 9), ("row", 8)]) rfl sc_led_rows.nd (di_enum T.b_enumerate (da_cons (dv 2) da_nil)) (blkOk_by rfl) (gok_tup (gsok_cons gok_name (gsok_cons gok_name gsok_nil))) (fun _ _ _ _ _ => (pg_tup rfl (pgs_cons (gname 9 sc_led_rows.nd) (pgs_cons (gname 8 sc_led_rows.nd) pgs_nil)))) (fun _ _ _ _ _ => dts_nil) (fun _ _ _ _ _ => (d_tup (da_cons (d_cb call_abs fc_abs T.b_abs (da_cons (d_ix (dv 8) (dv 1)) da_nil)) (da_cons (dv 9) da_nil))))) da_nil)) d_int) (dg_name 4 sc_led_rows.nd)) (dss_cons (ds_asg (d_ix (dv 2) (dv 4)) (dg_name 5 sc_led_rows.nd)) (dss_cons (ds_setLc (own := [("spot", 9), ("row", 8)]) (i := 6) rfl sc_led_rows.nd rfl rfl (sw_true rfl rfl rfl (by decide +kernel)) (di_enum T.b_enumerate (da_cons (dv 2) da_nil)) (blkOk_by rfl) (gok_tup (gsok_cons gok_name (gsok_cons gok_name gsok_nil))) (fun _ _ _ _ _ => (pg_tup rfl (pgs_cons (gname 9 sc_led_rows.nd) (pgs_cons (gname 8 sc_led_rows.nd) pgs_nil)))) (fun _ _ _ _ _ => (dts_one (dt_cmp (op_neD hr.units) fd_ne (dv 9) (dv 4)))) (fun _ _ _ _ _ => (d_call (c_row_less T) hr (da_cons (dv 8) (da_cons (d_fdiv (d_ix (dv 8) (dv 1)) (d_ix (dv 5) (dv 1))) (da_cons (dv 5) da_nil)))))) (dss_cons (ds_asg (d_add (dv 3) (d_lc (own := [("row", 8)]) rfl sc_led_rows.nd (di_seq (dv 6)) (blkOk_by rfl) gok_name (fun _ _ _ _ _ => (gname 8 sc_led_rows.nd)) (fun _ _ _ _ _ => (dts_one (dt_cmp (op_eqD hr.units) fd_eq (d_ix (dv 8) (dv 1)) d_int))) (fun _ _ _ _ _ => (dv 8)))) (dg_name 3 sc_led_rows.nd)) (dss_one (ds_asg (d_add (d_lst (da_cons (dv 5) da_nil)) (d_lc (own := [("row", 8)]) rfl sc_led_rows.nd (di_seq (dv 6)) (blkOk_by rfl) gok_name (fun _ _ _ _ _ => (gname 8 sc_led_rows.nd)) (fun _ _ _ _ _ => (dts_one (dt_cmp (op_neD hr.units) fd_ne (d_ix (dv 8) (dv 1)) d_int))) (fun _ _ _ _ _ => (dv 8)))) (dg_name 2 sc_led_rows.nd)))))))) (dss_cons (ds_asg (d_if (dt_cmp op_gt (fd_I0 fun _ _ _ => .bl _) (d_ix (d_ix (dv 2) d_int) (dv 1)) d_int) (d_ix (dv 2) d_int) (d_lc (own := [("entry", 10)]) rfl sc_led_rows.nd (di_seq (d_ix (dv 2) d_int)) (blkOk_by rfl) gok_name (fun _ _ _ _ _ => (gname 10 sc_led_rows.nd)) (fun _ _ _ _ _ => dts_nil) (fun _ _ _ _ _ => (d_neg (dv 10))))) (dg_name 7 sc_led_rows.nd)) (dss_one (ds_ret (d_tup (da_cons (dv 7) (da_cons (d_lc (own := [("row", 8)]) rfl sc_led_rows.nd (di_seq (dv 3)) (blkOk_by rfl) gok_name (fun _ _ _ _ _ => (gname 8 sc_led_rows.nd)) (fun _ _ _ _ _ => (dts_one (dt_val (d_cb (cr_anyI rfl) fc_anyI T.b_any (da_cons (dv 8) da_nil))))) (fun _ _ _ _ _ => (dv 8))) da_nil))))))))))
theorem c_led_rows (T : Tx K mg) : CalD P w K (clK K) mg base 2 "led_rows" m_led_rows [] := by
  obtain ⟨fd, G, F⟩ := o_led_rows (P := P) (w := w) (base := base) T
  exact calD G T.gl_led_rows F.kp (FunD.bindsN F (fun _ _ _ _ _ _ us hl => match us, hl with | [_, _], _ => rfl))
abbrev N_plain_rows : List Str := ["rows", "left", "found", "at", "told", "lead", "row"]
abbrev P_plain_rows : List Str := ["rows"]
theorem sc_plain_rows : FnScope N_plain_rows P_plain_rows (defScope s_plain_rows) := ⟨rfl, rfl, rfl, by decide +kernel, rfl, by decide +kernel, by decide +kernel⟩
def e_plain_rows : ES := (sSeq (sAsg (eLc (eItems (eVar 0)) (etName 6) bYes (eB fList (aCons (eVar 6) aNil)) [6]) (etName 1)) (sSeq (sAsg (eLst aNil) (etName 2)) (sSeq (sFor (eItems (eC k_SPOTS)) (etName 3) (sSeq (sAsg (eCall m_led_rows [] (aCons (eVar 1) (aCons (eVar 3) aNil))) (etName 4)) (sSeq (sIf (bOf (eBin fIsN (eVar 4) (eC .non))) (sRet (eC .non)) sNx) (sSeq (sAsg (eVar 4) (etTup 2 (etCons (etName 5) (etCons (etName 1) etNil)))) (sAsg (eBin fAdd (eLc (eItems (eVar 2)) (etName 6) bYes (eCall m_row_less [] (aCons (eVar 6) (aCons (eBin fDiv (eBin fIx (eVar 6) (eVar 3)) (eBin fIx (eVar 5) (eVar 3))) (aCons (eVar 5) aNil)))) [6]) (eLst (aCons (eVar 5) aNil))) (etName 2)))))) (sRet (eB fTuple (aCons (eLc (eItems (eVar 2)) (etName 6) bYes (eB fTuple (aCons (eVar 6) aNil)) [6]) aNil))))))
def m_plain_rows : Nat → List D → Option D := mir N_plain_rows.length P_plain_rows.length e_plain_rows
theorem o_plain_rows (T : Tx K mg) : ∃ fd, FnOk P w K mg base L2.CX0 3 (a_plain_rows K) fd P_plain_rows (spD K (clK K) m_plain_rows) ∧ L2.FunD K "plain_rows" q_plain_rows (defArgs s_plain_rows) (defBody s_plain_rows) (defScope s_plain_rows) [] [] (a_plain_rows K) fd := by
  obtain ⟨fd, F⟩ := T.fn_plain_rows
  refine ⟨fd, fn_tree F sc_plain_rows (by decide) fun cdv A outer s H E hr => ?_, F⟩
  exact (dss_cons (ds_setLc (own := [("row", 6)]) (i := 1) rfl sc_plain_rows.nd rfl rfl (sw_true rfl rfl rfl (by decide +kernel)) (di_seq (dv 0)) (blkOk_by rfl) gok_name (fun _ _ _ _ _ => (gname 6 sc_plain_rows.nd)) (fun _ _ _ _ _ => dts_nil) (fun _ _ _ _ _ => (d_ct call_list_of fc_list T.b_list (da_cons (dv 6) da_nil)))) (dss_cons (ds_asg (d_lst da_nil) (dg_name 2 sc_plain_rows.nd)) (dss_cons (ds_for PassesOwn.never rfl (di_seq (d_gl T.k_SPOTS)) (dg_name 3 sc_plain_rows.nd) (dss_cons (ds_asg (d_call (c_led_rows T) hr (da_cons (dv 1) (da_cons (dv 3) da_nil))) (dg_name 4 sc_plain_rows.nd)) (dss_cons (ds_if (dt_isN (dv 4) d_non) (dss_one (ds_ret d_non)) dss_nil) (dss_cons (ds_asg (dv 4) (dg_tup rfl (dgs_cons (dg_name 5 sc_plain_rows.nd) (dgs_cons (dg_name 1 sc_plain_rows.nd) dgs_nil)))) (dss_one (ds_asg (d_add (d_lc (own := [("row", 6)]) rfl sc_plain_rows.nd (di_seq (dv 2)) (blkOk_by rfl) gok_name (fun _ _ _ _ _ => (gname 6 sc_plain_rows.nd)) (fun _ _ _ _ _ => dts_nil) (fun _ _ _ _ _ => (d_call (c_row_less T) hr (da_cons (dv 6) (da_cons (d_fdiv (d_ix (dv 6) (dv 3)) (d_ix (dv 5) (dv 3))) (da_cons (dv 5) da_nil)))))) (d_lst (da_cons (dv 5) da_nil))) (dg_name 2 sc_plain_rows.nd))))))) (dss_one (ds_ret (d_ct call_tuple_of fc_tuple T.b_tuple (da_cons (d_lc (own := [("row", 6)]) rfl sc_plain_rows.nd (di_seq (dv 2)) (blkOk_by rfl) gok_name (fun _ _ _ _ _ => (gname 6 sc_plain_rows.nd)) (fun _ _ _ _ _ => dts_nil) (fun _ _ _ _ _ => (d_ct call_tuple_of fc_tuple T.b_tuple (da_cons (dv 6) da_nil)))) da_nil)))))))
theorem c_plain_rows (T : Tx K mg) : CalD P w K (clK K) mg base 3 "plain_rows" m_plain_rows [] := by
  obtain ⟨fd, G, F⟩ := o_plain_rows (P := P) (w := w) (base := base) T
  exact calD G T.gl_plain_rows F.kp (FunD.bindsN F (fun _ _ _ _ _ _ us hl => match us, hl with | [_], _ => rfl))
abbrev N_are_rows_with : List Str := ["rows", "entries", "left", "at", "many", "rest"]
abbrev P_are_rows_with : List Str := ["rows", "entries"]
theorem sc_are_rows_with : FnScope N_are_rows_with P_are_rows_with (defScope s_are_rows_with) := ⟨rfl, rfl, rfl, by decide +kernel, rfl, by decide +kernel, by decide +kernel⟩
def e_are_rows_with : ES := (sSeq (sAsg (eB fList (aCons (eVar 1) aNil)) (etName 2)) (sSeq (sFor (eItems (eC k_SPOTS)) (etName 3) (sSeq (sAsg (eB fDivmod (aCons (eBin fIx (eVar 2) (eVar 3)) (aCons (eBin fIx (eBin fIx (eVar 0) (eVar 3)) (eVar 3)) aNil))) (etTup 2 (etCons (etName 4) (etCons (etName 5) etNil)))) (sSeq (sIf (bOf (eBin fNe (eVar 5) (eC (.int 0)))) (sRet (eC (.bl false))) sNx) (sAsg (eCall m_row_less [] (aCons (eVar 2) (aCons (eVar 4) (aCons (eBin fIx (eVar 0) (eVar 3)) aNil)))) (etName 2))))) (sRet (eC (.bl true)))))
def m_are_rows_with : Nat → List D → Option D := mir N_are_rows_with.length P_are_rows_with.length e_are_rows_with
theorem o_are_rows_with (T : Tx K mg) : ∃ fd, FnOk P w K mg base L2.CX0 2 (a_are_rows_with K) fd P_are_rows_with (spD K (clK K) m_are_rows_with) ∧ L2.FunD K "are_rows_with" q_are_rows_with (defArgs s_are_rows_with) (defBody s_are_rows_with) (defScope s_are_rows_with) [] [] (a_are_rows_with K) fd := by
  obtain ⟨fd, F⟩ := T.fn_are_rows_with
  refine ⟨fd, fn_tree F sc_are_rows_with (by decide) fun cdv A outer s H E hr => ?_, F⟩
  exact (dss_cons (ds_asg (d_ct call_list_of fc_list T.b_list (da_cons (dv 1) da_nil)) (dg_name 2 sc_are_rows_with.nd)) (dss_cons (ds_for PassesOwn.never rfl (di_seq (d_gl T.k_SPOTS)) (dg_name 3 sc_are_rows_with.nd) (dss_cons (ds_asg (d_cb call_divmod fc_divmod T.b_divmod (da_cons (d_ix (dv 2) (dv 3)) (da_cons (d_ix (d_ix (dv 0) (dv 3)) (dv 3)) da_nil))) (dg_tup rfl (dgs_cons (dg_name 4 sc_are_rows_with.nd) (dgs_cons (dg_name 5 sc_are_rows_with.nd) dgs_nil)))) (dss_cons (ds_if (dt_cmp (op_neD hr.units) fd_ne (dv 5) d_int) (dss_one (ds_ret d_bl)) dss_nil) (dss_one (ds_asg (d_call (c_row_less T) hr (da_cons (dv 2) (da_cons (dv 4) (da_cons (d_ix (dv 0) (dv 3)) da_nil)))) (dg_name 2 sc_are_rows_with.nd)))))) (dss_one (ds_ret d_bl))))
theorem c_are_rows_with (T : Tx K mg) : CalD P w K (clK K) mg base 2 "are_rows_with" m_are_rows_with [] := by
  obtain ⟨fd, G, F⟩ := o_are_rows_with (P := P) (w := w) (base := base) T
  exact calD G T.gl_are_rows_with F.kp (FunD.bindsN F (fun _ _ _ _ _ _ us hl => match us, hl with | [_, _], _ => rfl))
abbrev N_lowered : List Str := ["rows", "bottom", "share", "row", "entry"]
abbrev P_lowered : List Str := ["rows", "bottom"]
theorem sc_lowered : FnScope N_lowered P_lowered (defScope s_lowered) := ⟨rfl, rfl, rfl, by decide +kernel, rfl, by decide +kernel, by decide +kernel⟩
def e_lowered : ES := (sSeq (sAsg (eVar 1) (etName 2)) (sSeq (sFor (eItems (eVar 0)) (etName 3) (sFor (eItems (eVar 3)) (etName 4) (sAsg (eCall m_common_of [] (aCons (eVar 2) (aCons (eVar 4) aNil))) (etName 2)))) (sRet (eTup (aCons (eB fTuple (aCons (eLc (eItems (eVar 0)) (etName 3) bYes (eB fTuple (aCons (eLc (eItems (eVar 3)) (etName 4) bYes (eBin fDiv (eVar 4) (eVar 2)) [4]) aNil)) [3]) aNil)) (aCons (eBin fDiv (eVar 1) (eVar 2)) aNil))))))
def m_lowered : Nat → List D → Option D := mir N_lowered.length P_lowered.length e_lowered
theorem o_lowered (T : Tx K mg) : ∃ fd, FnOk P w K mg base L2.CX0 2 (a_lowered K) fd P_lowered (spD K (clK K) m_lowered) ∧ L2.FunD K "lowered" q_lowered (defArgs s_lowered) (defBody s_lowered) (defScope s_lowered) [] [] (a_lowered K) fd := by
  obtain ⟨fd, F⟩ := T.fn_lowered
  refine ⟨fd, fn_tree F sc_lowered (by decide) fun cdv A outer s H E hr => ?_, F⟩
  exact (dss_cons (ds_asg (dv 1) (dg_name 2 sc_lowered.nd)) (dss_cons (ds_for PassesOwn.never rfl (di_seq (dv 0)) (dg_name 3 sc_lowered.nd) (dss_one (ds_for PassesOwn.never rfl (di_seq (dv 3)) (dg_name 4 sc_lowered.nd) (dss_one (ds_asg (d_call (c_common_of T) hr (da_cons (dv 2) (da_cons (dv 4) da_nil))) (dg_name 2 sc_lowered.nd)))))) (dss_one (ds_ret (d_tup (da_cons (d_ct call_tuple_of fc_tuple T.b_tuple (da_cons (d_lc (own := [("row", 3)]) rfl sc_lowered.nd (di_seq (dv 0)) (blkOk_by rfl) gok_name (fun _ _ _ _ _ => (gname 3 sc_lowered.nd)) (fun _ _ _ _ _ => dts_nil) (fun _ _ _ _ _ => (d_ct call_tuple_of fc_tuple T.b_tuple (da_cons (d_lc (own := [("entry", 4)]) rfl sc_lowered.nd (di_seq (dv 3)) (blkOk_by rfl) gok_name (fun _ _ _ _ _ => (gname 4 sc_lowered.nd)) (fun _ _ _ _ _ => dts_nil) (fun _ _ _ _ _ => (d_fdiv (dv 4) (dv 2)))) da_nil)))) da_nil)) (da_cons (d_fdiv (dv 1) (dv 2)) da_nil)))))))
theorem c_lowered (T : Tx K mg) : CalD P w K (clK K) mg base 2 "lowered" m_lowered [] := by
  obtain ⟨fd, G, F⟩ := o_lowered (P := P) (w := w) (base := base) T
  exact calD G T.gl_lowered F.kp (FunD.bindsN F (fun _ _ _ _ _ _ us hl => match us, hl with | [_, _], _ => rfl))
abbrev N_minor : List Str := ["table", "at", "to", "rows", "one", "two", "three", "first", "second", "place", "row", "spot", "entry"]
abbrev P_minor : List Str := ["table", "at", "to"]
theorem sc_minor : FnScope N_minor P_minor (defScope s_minor) := ⟨rfl, rfl, rfl, by decide +kernel, rfl, by decide +kernel, by decide +kernel⟩
def e_minor : ES := (sSeq (sAsg (eLc (eEnum (aCons (eVar 0) aNil)) (etTupT 2 (etCons (etName 9) (etCons (etName 10) etNil))) (bOf (eBin fNe (eVar 9) (eVar 1))) (eLc (eEnum (aCons (eVar 10) aNil)) (etTupT 2 (etCons (etName 11) (etCons (etName 12) etNil))) (bOf (eBin fNe (eVar 11) (eVar 2))) (eVar 12) [11, 12]) [9, 10]) (etName 3)) (sSeq (sAsg (eVar 3) (etTup 3 (etCons (etName 4) (etCons (etName 5) (etCons (etName 6) etNil))))) (sSeq (sAsg (eBin fMul (eBin fIx (eVar 4) (eC (.int 0))) (eBin fSub (eBin fMul (eBin fIx (eVar 5) (eC (.int 1))) (eBin fIx (eVar 6) (eC (.int 2)))) (eBin fMul (eBin fIx (eVar 5) (eC (.int 2))) (eBin fIx (eVar 6) (eC (.int 1)))))) (etName 7)) (sSeq (sAsg (eBin fMul (eBin fIx (eVar 4) (eC (.int 1))) (eBin fSub (eBin fMul (eBin fIx (eVar 5) (eC (.int 0))) (eBin fIx (eVar 6) (eC (.int 2)))) (eBin fMul (eBin fIx (eVar 5) (eC (.int 2))) (eBin fIx (eVar 6) (eC (.int 0)))))) (etName 8)) (sRet (eBin fAdd (eBin fSub (eVar 7) (eVar 8)) (eBin fMul (eBin fIx (eVar 4) (eC (.int 2))) (eBin fSub (eBin fMul (eBin fIx (eVar 5) (eC (.int 0))) (eBin fIx (eVar 6) (eC (.int 1)))) (eBin fMul (eBin fIx (eVar 5) (eC (.int 1))) (eBin fIx (eVar 6) (eC (.int 0))))))))))))
def m_minor : Nat → List D → Option D := mir N_minor.length P_minor.length e_minor
theorem o_minor (T : Tx K mg) : ∃ fd, FnOk P w K mg base L2.CX0 1 (a_minor K) fd P_minor (spD K (clK K) m_minor) ∧ L2.FunD K "minor" q_minor (defArgs s_minor) (defBody s_minor) (defScope s_minor) [] [] (a_minor K) fd := by
  obtain ⟨fd, F⟩ := T.fn_minor
  refine ⟨fd, fn_tree F sc_minor (by decide) fun cdv A outer s H E hr => ?_, F⟩
  exact (dss_cons (ds_setLc (own := [("place", 9), ("row", 10)]) (i := 3) rfl sc_minor.nd rfl rfl (sw_true rfl rfl rfl (by decide +kernel)) (di_enum T.b_enumerate (da_cons (dv 0) da_nil)) (blkOk_by rfl) (gok_tup (gsok_cons gok_name (gsok_cons gok_name gsok_nil))) (fun _ _ _ _ _ => (pg_tup rfl (pgs_cons (gname 9 sc_minor.nd) (pgs_cons (gname 10 sc_minor.nd) pgs_nil)))) (fun _ _ _ _ _ => (dts_one (dt_cmp (op_neD hr.units) fd_ne (dv 9) (dv 1)))) (fun _ _ _ _ _ => (d_lc (own := [("spot", 11), ("entry", 12)]) rfl sc_minor.nd (di_enum T.b_enumerate (da_cons (dv 10) da_nil)) (blkOk_by rfl) (gok_tup (gsok_cons gok_name (gsok_cons gok_name gsok_nil))) (fun _ _ _ _ _ => (pg_tup rfl (pgs_cons (gname 11 sc_minor.nd) (pgs_cons (gname 12 sc_minor.nd) pgs_nil)))) (fun _ _ _ _ _ => (dts_one (dt_cmp (op_neD hr.units) fd_ne (dv 11) (dv 2)))) (fun _ _ _ _ _ => (dv 12))))) (dss_cons (ds_asg (dv 3) (dg_tup rfl (dgs_cons (dg_name 4 sc_minor.nd) (dgs_cons (dg_name 5 sc_minor.nd) (dgs_cons (dg_name 6 sc_minor.nd) dgs_nil))))) (dss_cons (ds_asg (d_mul (d_ix (dv 4) d_int) (d_sub (d_mul (d_ix (dv 5) d_int) (d_ix (dv 6) d_int)) (d_mul (d_ix (dv 5) d_int) (d_ix (dv 6) d_int)))) (dg_name 7 sc_minor.nd)) (dss_cons (ds_asg (d_mul (d_ix (dv 4) d_int) (d_sub (d_mul (d_ix (dv 5) d_int) (d_ix (dv 6) d_int)) (d_mul (d_ix (dv 5) d_int) (d_ix (dv 6) d_int)))) (dg_name 8 sc_minor.nd)) (dss_one (ds_ret (d_add (d_sub (dv 7) (dv 8)) (d_mul (d_ix (dv 4) d_int) (d_sub (d_mul (d_ix (dv 5) d_int) (d_ix (dv 6) d_int)) (d_mul (d_ix (dv 5) d_int) (d_ix (dv 6) d_int)))))))))))
theorem c_minor (T : Tx K mg) : CalD P w K (clK K) mg base 1 "minor" m_minor [] := by
  obtain ⟨fd, G, F⟩ := o_minor (P := P) (w := w) (base := base) T
  exact calD G T.gl_minor F.kp (FunD.bindsN F (fun _ _ _ _ _ _ us hl => match us, hl with | [_, _, _], _ => rfl))
abbrev N_cofactors : List Str := ["table", "at", "to"]
abbrev P_cofactors : List Str := ["table"]
theorem sc_cofactors : FnScope N_cofactors P_cofactors (defScope s_cofactors) := ⟨rfl, rfl, rfl, by decide +kernel, rfl, by decide +kernel, by decide +kernel⟩
def e_cofactors : ES := (sRet (eLc (eItems (eC k_SPOTS)) (etName 1) bYes (eLc (eItems (eC k_SPOTS)) (etName 2) bYes (eBin fMul (eCall m_minor [] (aCons (eVar 0) (aCons (eVar 1) (aCons (eVar 2) aNil)))) (eIf (bOf (eBin fEq (eBin fMod (eBin fAdd (eVar 1) (eVar 2)) (eC (.int 2))) (eC (.int 0)))) (eC (.int 1)) (eUn fNeg (eC (.int 1))))) [2]) [1]))
def m_cofactors : Nat → List D → Option D := mir N_cofactors.length P_cofactors.length e_cofactors
theorem o_cofactors (T : Tx K mg) : ∃ fd, FnOk P w K mg base L2.CX0 2 (a_cofactors K) fd P_cofactors (spD K (clK K) m_cofactors) ∧ L2.FunD K "cofactors" q_cofactors (defArgs s_cofactors) (defBody s_cofactors) (defScope s_cofactors) [] [] (a_cofactors K) fd := by
  obtain ⟨fd, F⟩ := T.fn_cofactors
  refine ⟨fd, fn_tree F sc_cofactors (by decide) fun cdv A outer s H E hr => ?_, F⟩
  exact (dss_one (ds_ret (d_lc (own := [("at", 1)]) rfl sc_cofactors.nd (di_seq (d_gl T.k_SPOTS)) (blkOk_by rfl) gok_name (fun _ _ _ _ _ => (gname 1 sc_cofactors.nd)) (fun _ _ _ _ _ => dts_nil) (fun _ _ _ _ _ => (d_lc (own := [("to", 2)]) rfl sc_cofactors.nd (di_seq (d_gl T.k_SPOTS)) (blkOk_by rfl) gok_name (fun _ _ _ _ _ => (gname 2 sc_cofactors.nd)) (fun _ _ _ _ _ => dts_nil) (fun _ _ _ _ _ => (d_mul (d_call (c_minor T) hr (da_cons (dv 0) (da_cons (dv 1) (da_cons (dv 2) da_nil)))) (d_if (dt_cmp (op_eqD hr.units) fd_eq (d_mod (d_add (dv 1) (dv 2)) d_int) d_int) d_int (d_neg d_int)))))))))
theorem c_cofactors (T : Tx K mg) : CalD P w K (clK K) mg base 2 "cofactors" m_cofactors [] := by
  obtain ⟨fd, G, F⟩ := o_cofactors (P := P) (w := w) (base := base) T
  exact calD G T.gl_cofactors F.kp (FunD.bindsN F (fun _ _ _ _ _ _ us hl => match us, hl with | [_], _ => rfl))
abbrev N_determinant : List Str := ["table", "to"]
abbrev P_determinant : List Str := ["table"]
theorem sc_determinant : FnScope N_determinant P_determinant (defScope s_determinant) := ⟨rfl, rfl, rfl, by decide +kernel, rfl, by decide +kernel, by decide +kernel⟩
def e_determinant : ES := (sRet (eB fSum (aCons (eLc (eItems (eC k_SPOTS)) (etName 1) bYes (eBin fMul (eBin fMul (eBin fIx (eBin fIx (eVar 0) (eC (.int 0))) (eVar 1)) (eCall m_minor [] (aCons (eVar 0) (aCons (eC (.int 0)) (aCons (eVar 1) aNil))))) (eIf (bOf (eBin fEq (eBin fMod (eVar 1) (eC (.int 2))) (eC (.int 0)))) (eC (.int 1)) (eUn fNeg (eC (.int 1))))) [1]) aNil)))
def m_determinant : Nat → List D → Option D := mir N_determinant.length P_determinant.length e_determinant
theorem o_determinant (T : Tx K mg) : ∃ fd, FnOk P w K mg base L2.CX0 2 (a_determinant K) fd P_determinant (spD K (clK K) m_determinant) ∧ L2.FunD K "determinant" q_determinant (defArgs s_determinant) (defBody s_determinant) (defScope s_determinant) [] [] (a_determinant K) fd := by
  obtain ⟨fd, F⟩ := T.fn_determinant
  refine ⟨fd, fn_tree F sc_determinant (by decide) fun cdv A outer s H E hr => ?_, F⟩
  exact (dss_one (ds_ret (d_cb (cr_sum rfl) fc_sum T.b_sum (da_cons (d_lc (own := [("to", 1)]) rfl sc_determinant.nd (di_seq (d_gl T.k_SPOTS)) (blkOk_by rfl) gok_name (fun _ _ _ _ _ => (gname 1 sc_determinant.nd)) (fun _ _ _ _ _ => dts_nil) (fun _ _ _ _ _ => (d_mul (d_mul (d_ix (d_ix (dv 0) d_int) (dv 1)) (d_call (c_minor T) hr (da_cons (dv 0) (da_cons d_int (da_cons (dv 1) da_nil))))) (d_if (dt_cmp (op_eqD hr.units) fd_eq (d_mod (dv 1) d_int) d_int) d_int (d_neg d_int))))) da_nil))))
theorem c_determinant (T : Tx K mg) : CalD P w K (clK K) mg base 2 "determinant" m_determinant [] := by
  obtain ⟨fd, G, F⟩ := o_determinant (P := P) (w := w) (base := base) T
  exact calD G T.gl_determinant F.kp (FunD.bindsN F (fun _ _ _ _ _ _ us hl => match us, hl with | [_], _ => rfl))
abbrev N_Made___init__ : List Str := ["self", "rows", "bottom"]
abbrev P_Made___init__ : List Str := ["self", "rows", "bottom"]
theorem sc_Made___init__ : FnScope N_Made___init__ P_Made___init__ (defScope s_Made___init__) := ⟨rfl, rfl, rfl, by decide +kernel, rfl, by decide +kernel, by decide +kernel⟩
def e_Made___init__ : ES := (sAsg (eCall m_lowered [] (aCons (eVar 1) (aCons (eVar 2) aNil))) (etTup 2 (etCons (etSelf 0 l_own_rows) (etCons (etSelf 0 l_own_bottom) etNil))))
def m_Made : Nat → List D → Option (List D) := mirI N_Made___init__.length P_Made___init__.length 5 e_Made___init__
theorem o_Made___init__ (T : Tx K mg) : ∃ fd, FnOk P w K mg base L2.CX0 3 (a_Made___init__ K) fd P_Made___init__ (spI K (clK K) 5 m_Made) ∧ L2.FunD K "__init__" q_Made___init__ (defArgs s_Made___init__) (defBody s_Made___init__) (defScope s_Made___init__) [] [] (a_Made___init__ K) fd := by
  obtain ⟨fd, F⟩ := T.fn_Made___init__
  refine ⟨fd, in_tree (c := 5) F sc_Made___init__ (by decide) fun cdv A outer s H E hr => ?_, F⟩
  exact (dss_one (ds_asg (d_call (c_lowered T) hr (da_cons (dv 1) (da_cons (dv 2) da_nil))) (dg_tup rfl (dgs_cons (dg_self T.s_own_rows (pv 0)) (dgs_cons (dg_self T.s_own_bottom (pv 0)) dgs_nil)))))
theorem k_Made (T : Tx K mg) : MakD P w K (clK K) mg base 3 "Made" 5 m_Made [] := by
  obtain ⟨fd, G, F⟩ := o_Made___init__ (P := P) (w := w) (base := base) T
  exact makD T.mk_5 G T.gl_Made (FunD.bindsN F (fun _ _ _ _ _ _ us hl => match us, hl with | [_, _, _], _ => rfl))
end
end TL

namespace TL
open PySem PySem.Spec PyProof.Rows L2 Evl SlX StX C8
section
variable {P : Program} {w : World} {K : PySem.W.Frag} {mg : Str → Option Value} {base : Heap}
abbrev N_told_by : List Str := ["algebra", "fours", "rows", "bottom", "plain", "four"]
abbrev P_told_by : List Str := ["algebra", "fours"]
theorem sc_told_by : FnScope N_told_by P_told_by (defScope s_told_by) := ⟨rfl, rfl, rfl, by decide +kernel, rfl, by decide +kernel, by decide +kernel⟩
def e_told_by : ES := (sSeq (sIf (bOf (eB (fIsi isiT) (aCons (eVar 1) (aCons (eC (.cls 5)) aNil)))) (sRet (eVar 1)) sNx) (sSeq sNever (sSeq sNever (sSeq sNever (sSeq sNever (sSeq sNever sNever))))))
def m_told_by : Nat → List D → Option D := mir N_told_by.length P_told_by.length e_told_by
theorem o_told_by (T : Tx K mg) : ∃ fd, FnOk P w K mg base L2.CX0 1 (a_told_by K) fd P_told_by (spD K (clK K) m_told_by) ∧ L2.FunD K "told_by" q_told_by (defArgs s_told_by) (defBody s_told_by) (defScope s_told_by) [] [] (a_told_by K) fd := by
  obtain ⟨fd, F⟩ := T.fn_told_by
  refine ⟨fd, fn_tree F sc_told_by (by decide) fun cdv A outer s H E hr => ?_, F⟩
  exact (dss_cons (ds_if (dt_val (d_cb cr_isi (fc_isi T.isi) T.b_isinstance (da_cons (dv 1) (da_cons (d_gl T.k_Made) da_nil)))) (dss_one (ds_ret (dv 1))) dss_nil) (dss_cons ds_never (dss_cons ds_never (dss_cons ds_never (dss_cons ds_never (dss_cons ds_never (dss_one ds_never)))))))
theorem c_told_by (T : Tx K mg) : CalD P w K (clK K) mg base 1 "told_by" m_told_by [] := by
  obtain ⟨fd, G, F⟩ := o_told_by (P := P) (w := w) (base := base) T
  exact calD G T.gl_told_by F.kp (FunD.bindsN F (fun _ _ _ _ _ _ us hl => match us, hl with | [_, _], _ => rfl))
abbrev N_Lattice___init__ : List Str := ["self", "algebra", "fours", "made"]
abbrev P_Lattice___init__ : List Str := ["self", "algebra", "fours"]
theorem sc_Lattice___init__ : FnScope N_Lattice___init__ P_Lattice___init__ (defScope s_Lattice___init__) := ⟨rfl, rfl, rfl, by decide +kernel, rfl, by decide +kernel, by decide +kernel⟩
def e_Lattice___init__ : ES := (sSeq (sExpr (eCall m_require_algebra [] (aCons (eVar 1) aNil))) (sSeq (sAsg (eCall m_told_by [] (aCons (eVar 1) (aCons (eVar 2) aNil))) (etName 3)) (sSeq (sAsg (eVar 1) (etSelf 0 l_own_algebra)) (sSeq (sAsg (eUn (fFld l_own_bottom) (eVar 3)) (etSelf 0 l_own_bottom)) (sAsg (eUn (fFld l_own_rows) (eVar 3)) (etSelf 0 l_own_rows))))))
def m_Lattice : Nat → List D → Option (List D) := mirI N_Lattice___init__.length P_Lattice___init__.length 6 e_Lattice___init__
theorem o_Lattice___init__ (T : Tx K mg) : ∃ fd, FnOk P w K mg base L2.CX0 2 (a_Lattice___init__ K) fd P_Lattice___init__ (spI K (clK K) 6 m_Lattice) ∧ L2.FunD K "__init__" q_Lattice___init__ (defArgs s_Lattice___init__) (defBody s_Lattice___init__) (defScope s_Lattice___init__) [] [] (a_Lattice___init__ K) fd := by
  obtain ⟨fd, F⟩ := T.fn_Lattice___init__
  refine ⟨fd, in_tree (c := 6) F sc_Lattice___init__ (by decide) fun cdv A outer s H E hr => ?_, F⟩
  exact (dss_cons (ds_expr (d_call (c_require_algebra T) hr (da_cons (dv 1) da_nil))) (dss_cons (ds_asg (d_call (c_told_by T) hr (da_cons (dv 1) (da_cons (dv 2) da_nil))) (dg_name 3 sc_Lattice___init__.nd)) (dss_cons (ds_self T.s_own_algebra (pv 0) (dv 1)) (dss_cons (ds_self T.s_own_bottom (pv 0) (d_fld T.s_own_bottom (dv 3))) (dss_one (ds_self T.s_own_rows (pv 0) (d_fld T.s_own_rows (dv 3))))))))
theorem k_Lattice (T : Tx K mg) : MakD P w K (clK K) mg base 2 "Lattice" 6 m_Lattice [] := by
  obtain ⟨fd, G, F⟩ := o_Lattice___init__ (P := P) (w := w) (base := base) T
  exact makD T.mk_6 G T.gl_Lattice (FunD.bindsN F (fun _ _ _ _ _ _ us hl => match us, hl with | [_, _, _], _ => rfl))
abbrev N_Lattice_algebra : List Str := ["self"]
abbrev P_Lattice_algebra : List Str := ["self"]
theorem sc_Lattice_algebra : FnScope N_Lattice_algebra P_Lattice_algebra (defScope s_Lattice_algebra) := ⟨rfl, rfl, rfl, by decide +kernel, rfl, by decide +kernel, by decide +kernel⟩
def e_Lattice_algebra : ES := (sRet (eUn (fFld l_own_algebra) (eVar 0)))
def m_Lattice_algebra : Nat → List D → Option D := mir N_Lattice_algebra.length P_Lattice_algebra.length e_Lattice_algebra
theorem o_Lattice_algebra (T : Tx K mg) : ∃ fd, FnOk P w K mg base L2.CX0 1 (a_Lattice_algebra K) fd P_Lattice_algebra (spD K (clK K) m_Lattice_algebra) ∧ L2.FunD K "algebra" q_Lattice_algebra (defArgs s_Lattice_algebra) (defBody s_Lattice_algebra) (defScope s_Lattice_algebra) [] [] (a_Lattice_algebra K) fd := by
  obtain ⟨fd, F⟩ := T.fn_Lattice_algebra
  refine ⟨fd, fn_tree F sc_Lattice_algebra (by decide) fun cdv A outer s H E hr => ?_, F⟩
  exact (dss_one (ds_ret (d_fld T.s_own_algebra (dv 0))))
theorem p_Lattice_algebra (T : Tx K mg) : ProD P w K (clK K) mg base 1 6 "algebra" m_Lattice_algebra := by
  obtain ⟨fd, G, F⟩ := o_Lattice_algebra (P := P) (w := w) (base := base) T
  obtain ⟨p, rest, h1, h2, h3, h4⟩ := T.prop_Lattice_algebra
  exact proD T.cls_6 h1 h2 h3 h4 G (FunD.bindsN F (fun _ _ _ _ _ _ us hl => match us, hl with | [_], _ => rfl))
abbrev N_product_raw : List Str := ["lattice", "one", "other"]
abbrev P_product_raw : List Str := ["lattice", "one", "other"]
theorem sc_product_raw : FnScope N_product_raw P_product_raw (defScope s_product_raw) := ⟨rfl, rfl, rfl, by decide +kernel, rfl, by decide +kernel, by decide +kernel⟩
def e_product_raw : ES := (sRet (eCall m_raw_product [] (aCons (eUn (fFld l_own_a) (eUn (fFld l_own_algebra) (eVar 0))) (aCons (eUn (fFld l_own_b) (eUn (fFld l_own_algebra) (eVar 0))) (aCons (eVar 1) (aCons (eVar 2) aNil))))))
def m_product_raw : Nat → List D → Option D := mir N_product_raw.length P_product_raw.length e_product_raw
theorem o_product_raw (T : Tx K mg) : ∃ fd, FnOk P w K mg base L2.CX0 2 (a_product_raw K) fd P_product_raw (spD K (clK K) m_product_raw) ∧ L2.FunD K "product_raw" q_product_raw (defArgs s_product_raw) (defBody s_product_raw) (defScope s_product_raw) [] [] (a_product_raw K) fd := by
  obtain ⟨fd, F⟩ := T.fn_product_raw
  refine ⟨fd, fn_tree F sc_product_raw (by decide) fun cdv A outer s H E hr => ?_, F⟩
  exact (dss_one (ds_ret (d_call (c_raw_product T) hr (da_cons (d_fld T.s_own_a (d_fld T.s_own_algebra (dv 0))) (da_cons (d_fld T.s_own_b (d_fld T.s_own_algebra (dv 0))) (da_cons (dv 1) (da_cons (dv 2) da_nil)))))))
theorem c_product_raw (T : Tx K mg) : CalD P w K (clK K) mg base 2 "product_raw" m_product_raw [] := by
  obtain ⟨fd, G, F⟩ := o_product_raw (P := P) (w := w) (base := base) T
  exact calD G T.gl_product_raw F.kp (FunD.bindsN F (fun _ _ _ _ _ _ us hl => match us, hl with | [_, _, _], _ => rfl))
abbrev N_has_raw : List Str := ["lattice", "entries", "bottom", "scaled", "entry"]
abbrev P_has_raw : List Str := ["lattice", "entries", "bottom"]
theorem sc_has_raw : FnScope N_has_raw P_has_raw (defScope s_has_raw) := ⟨rfl, rfl, rfl, by decide +kernel, rfl, by decide +kernel, by decide +kernel⟩
def e_has_raw : ES := (sSeq (sAsg (eLc (eItems (eVar 1)) (etName 4) bYes (eBin fMul (eVar 4) (eUn (fFld l_own_bottom) (eVar 0))) [4]) (etName 3)) (sSeq (sIf (bOf (eB fAny (aCons (eLc (eItems (eVar 3)) (etName 4) bYes (eBin fNe (eBin fMod (eVar 4) (eVar 2)) (eC (.int 0))) [4]) aNil))) (sRet (eC (.bl false))) sNx) (sRet (eCall m_are_rows_with [] (aCons (eUn (fFld l_own_rows) (eVar 0)) (aCons (eLc (eItems (eVar 3)) (etName 4) bYes (eBin fDiv (eVar 4) (eVar 2)) [4]) aNil))))))
def m_has_raw : Nat → List D → Option D := mir N_has_raw.length P_has_raw.length e_has_raw
theorem o_has_raw (T : Tx K mg) : ∃ fd, FnOk P w K mg base L2.CX0 3 (a_has_raw K) fd P_has_raw (spD K (clK K) m_has_raw) ∧ L2.FunD K "has_raw" q_has_raw (defArgs s_has_raw) (defBody s_has_raw) (defScope s_has_raw) [] [] (a_has_raw K) fd := by
  obtain ⟨fd, F⟩ := T.fn_has_raw
  refine ⟨fd, fn_tree F sc_has_raw (by decide) fun cdv A outer s H E hr => ?_, F⟩
  exact (dss_cons (ds_setLc (own := [("entry", 4)]) (i := 3) rfl sc_has_raw.nd rfl rfl (sw_true rfl rfl rfl (by decide +kernel)) (di_seq (dv 1)) (blkOk_by rfl) gok_name (fun _ _ _ _ _ => (gname 4 sc_has_raw.nd)) (fun _ _ _ _ _ => dts_nil) (fun _ _ _ _ _ => (d_mul (dv 4) (d_fld T.s_own_bottom (dv 0))))) (dss_cons (ds_if (dt_val (d_cb (cr_any rfl) fc_any T.b_any (da_cons (d_lc (own := [("entry", 4)]) rfl sc_has_raw.nd (di_seq (dv 3)) (blkOk_by rfl) gok_name (fun _ _ _ _ _ => (gname 4 sc_has_raw.nd)) (fun _ _ _ _ _ => dts_nil) (fun _ _ _ _ _ => (d_ne hr (d_mod (dv 4) (dv 2)) d_int))) da_nil))) (dss_one (ds_ret d_bl)) dss_nil) (dss_one (ds_ret (d_call (c_are_rows_with T) hr (da_cons (d_fld T.s_own_rows (dv 0)) (da_cons (d_lc (own := [("entry", 4)]) rfl sc_has_raw.nd (di_seq (dv 3)) (blkOk_by rfl) gok_name (fun _ _ _ _ _ => (gname 4 sc_has_raw.nd)) (fun _ _ _ _ _ => dts_nil) (fun _ _ _ _ _ => (d_fdiv (dv 4) (dv 2)))) da_nil)))))))
theorem c_has_raw (T : Tx K mg) : CalD P w K (clK K) mg base 3 "has_raw" m_has_raw [] := by
  obtain ⟨fd, G, F⟩ := o_has_raw (P := P) (w := w) (base := base) T
  exact calD G T.gl_has_raw F.kp (FunD.bindsN F (fun _ _ _ _ _ _ us hl => match us, hl with | [_, _, _], _ => rfl))
abbrev N_Lattice___contains__ : List Str := ["self", "value"]
abbrev P_Lattice___contains__ : List Str := ["self", "value"]
theorem sc_Lattice___contains__ : FnScope N_Lattice___contains__ P_Lattice___contains__ (defScope s_Lattice___contains__) := ⟨rfl, rfl, rfl, by decide +kernel, rfl, by decide +kernel, by decide +kernel⟩
def e_Lattice___contains__ : ES := (sRet (eAnd (eCall m_is_four_of [] (aCons (eUn (fFld l_own_algebra) (eVar 0)) (aCons (eVar 1) aNil))) (eCall m_has_raw [] (aCons (eVar 0) (aCons (eUn (fFld l_own_entries) (eVar 1)) (aCons (eUn (fFld l_own_bottom) (eVar 1)) aNil))))))
def m_Lattice___contains__ : Nat → List D → Option D := mir N_Lattice___contains__.length P_Lattice___contains__.length e_Lattice___contains__
theorem o_Lattice___contains__ (T : Tx K mg) : ∃ fd, FnOk P w K mg base L2.CX0 4 (a_Lattice___contains__ K) fd P_Lattice___contains__ (spD K (clK K) m_Lattice___contains__) ∧ L2.FunD K "__contains__" q_Lattice___contains__ (defArgs s_Lattice___contains__) (defBody s_Lattice___contains__) (defScope s_Lattice___contains__) [] [] (a_Lattice___contains__ K) fd := by
  obtain ⟨fd, F⟩ := T.fn_Lattice___contains__
  refine ⟨fd, fn_tree F sc_Lattice___contains__ (by decide) fun cdv A outer s H E hr => ?_, F⟩
  exact (dss_one (ds_ret (d_and (d_call (c_is_four_of T) hr (da_cons (d_fld T.s_own_algebra (dv 0)) (da_cons (dv 1) da_nil))) (d_one (d_call (c_has_raw T) hr (da_cons (dv 0) (da_cons (d_fld T.s_own_entries (dv 1)) (da_cons (d_fld T.s_own_bottom (dv 1)) da_nil))))))))
theorem t_Lattice___contains__ (T : Tx K mg) : MetD P w K (clK K) mg base 4 6 "__contains__" m_Lattice___contains__ := by
  obtain ⟨fd, G, F⟩ := o_Lattice___contains__ (P := P) (w := w) (base := base) T
  exact metD T.cls_6 T.me_Lattice___contains__ G (FunD.bindsN F (fun _ _ _ _ _ _ us hl => match us, hl with | [_, _], _ => rfl))
abbrev N_lattice_with : List Str := ["algebra", "rows", "bottom"]
abbrev P_lattice_with : List Str := ["algebra", "rows", "bottom"]
theorem sc_lattice_with : FnScope N_lattice_with P_lattice_with (defScope s_lattice_with) := ⟨rfl, rfl, rfl, by decide +kernel, rfl, by decide +kernel, by decide +kernel⟩
def e_lattice_with : ES := (sRet (eMake 6 m_Lattice [] (aCons (eVar 0) (aCons (eMake 5 m_Made [] (aCons (eCall m_plain_rows [] (aCons (eVar 1) aNil)) (aCons (eVar 2) aNil))) aNil))))
def m_lattice_with : Nat → List D → Option D := mir N_lattice_with.length P_lattice_with.length e_lattice_with
theorem o_lattice_with (T : Tx K mg) : ∃ fd, FnOk P w K mg base L2.CX0 5 (a_lattice_with K) fd P_lattice_with (spD K (clK K) m_lattice_with) ∧ L2.FunD K "lattice_with" q_lattice_with (defArgs s_lattice_with) (defBody s_lattice_with) (defScope s_lattice_with) [] [] (a_lattice_with K) fd := by
  obtain ⟨fd, F⟩ := T.fn_lattice_with
  refine ⟨fd, fn_tree F sc_lattice_with (by decide) fun cdv A outer s H E hr => ?_, F⟩
  exact (dss_one (ds_ret (d_make (k_Lattice T) hr (da_cons (dv 0) (da_cons (d_make (k_Made T) hr (da_cons (d_call (c_plain_rows T) hr (da_cons (dv 1) da_nil)) (da_cons (dv 2) da_nil))) da_nil)))))
theorem c_lattice_with (T : Tx K mg) : CalD P w K (clK K) mg base 5 "lattice_with" m_lattice_with [] := by
  obtain ⟨fd, G, F⟩ := o_lattice_with (P := P) (w := w) (base := base) T
  exact calD G T.gl_lattice_with F.kp (FunD.bindsN F (fun _ _ _ _ _ _ us hl => match us, hl with | [_, _, _], _ => rfl))
abbrev N_norm_top : List Str := ["lattice", "a", "b", "found", "at", "row", "other"]
abbrev P_norm_top : List Str := ["lattice"]
theorem sc_norm_top : FnScope N_norm_top P_norm_top (defScope s_norm_top) := ⟨rfl, rfl, rfl, by decide +kernel, rfl, by decide +kernel, by decide +kernel⟩
def e_norm_top : ES := (sSeq (sPar3 1 2 3 (aCons (eUn (fFld l_own_a) (eUn (fFld l_own_algebra) (eVar 0))) (aCons (eUn (fFld l_own_b) (eUn (fFld l_own_algebra) (eVar 0))) (aCons (eC (.int 0)) aNil)))) (sSeq (sFor (eEnum (aCons (eUn (fFld l_own_rows) (eVar 0)) aNil)) (etTup 2 (etCons (etName 4) (etCons (etName 5) etNil))) (sSeq (sAsg (eCall m_common_of [] (aCons (eVar 3) (aCons (eCall m_raw_norm [] (aCons (eVar 1) (aCons (eVar 2) (aCons (eVar 5) aNil)))) aNil))) (etName 3)) (sFor (eItems (eSl (eUn (fFld l_own_rows) (eVar 0)) (oSome (eBin fAdd (eVar 4) (eC (.int 1)))) oNone)) (etName 6) (sAsg (eCall m_common_of [] (aCons (eVar 3) (aCons (eBin fMul (eC (.int 2)) (eBin fIx (eCall m_raw_product [] (aCons (eVar 1) (aCons (eVar 2) (aCons (eVar 5) (aCons (eCall m_raw_mate [] (aCons (eVar 6) aNil)) aNil))))) (eC (.int 0)))) aNil))) (etName 3))))) (sRet (eVar 3))))
def m_norm_top : Nat → List D → Option D := mir N_norm_top.length P_norm_top.length e_norm_top
theorem o_norm_top (T : Tx K mg) : ∃ fd, FnOk P w K mg base L2.CX0 2 (a_norm_top K) fd P_norm_top (spD K (clK K) m_norm_top) ∧ L2.FunD K "norm_top" q_norm_top (defArgs s_norm_top) (defBody s_norm_top) (defScope s_norm_top) [] [] (a_norm_top K) fd := by
  obtain ⟨fd, F⟩ := T.fn_norm_top
  refine ⟨fd, fn_tree F sc_norm_top (by decide) fun cdv A outer s H E hr => ?_, F⟩
  exact (dss_cons (ds_par3 (i := 1) (j := 2) (l := 3) (ps_par3 rfl sc_norm_top.nd rfl rfl rfl (by decide) (by decide) (by decide) rfl rfl rfl (da_cons (d_fld T.s_own_a (d_fld T.s_own_algebra (dv 0))) (da_cons (d_fld T.s_own_b (d_fld T.s_own_algebra (dv 0))) (da_cons d_int da_nil))) (by rfl))) (dss_cons (ds_for PassesOwn.never rfl (di_enum T.b_enumerate (da_cons (d_fld T.s_own_rows (dv 0)) da_nil)) (dg_tup rfl (dgs_cons (dg_name 4 sc_norm_top.nd) (dgs_cons (dg_name 5 sc_norm_top.nd) dgs_nil))) (dss_cons (ds_asg (d_call (c_common_of T) hr (da_cons (dv 3) (da_cons (d_call (c_raw_norm T) hr (da_cons (dv 1) (da_cons (dv 2) (da_cons (dv 5) da_nil)))) da_nil))) (dg_name 3 sc_norm_top.nd)) (dss_one (ds_for PassesOwn.never rfl (di_seq (d_slice (d_fld T.s_own_rows (dv 0)) (do_some (d_add (dv 4) d_int)) do_none)) (dg_name 6 sc_norm_top.nd) (dss_one (ds_asg (d_call (c_common_of T) hr (da_cons (dv 3) (da_cons (d_mul d_int (d_ix (d_call (c_raw_product T) hr (da_cons (dv 1) (da_cons (dv 2) (da_cons (dv 5) (da_cons (d_call (c_raw_mate T) hr (da_cons (dv 6) da_nil)) da_nil))))) d_int)) da_nil))) (dg_name 3 sc_norm_top.nd))))))) (dss_one (ds_ret (dv 3)))))
theorem c_norm_top (T : Tx K mg) : CalD P w K (clK K) mg base 2 "norm_top" m_norm_top [] := by
  obtain ⟨fd, G, F⟩ := o_norm_top (P := P) (w := w) (base := base) T
  exact calD G T.gl_norm_top F.kp (FunD.bindsN F (fun _ _ _ _ _ _ us hl => match us, hl with | [_], _ => rfl))
abbrev N_is_whole_hurwitz : List Str := ["value", "entry"]
abbrev P_is_whole_hurwitz : List Str := ["value"]
theorem sc_is_whole_hurwitz : FnScope N_is_whole_hurwitz P_is_whole_hurwitz (defScope s_is_whole_hurwitz) := ⟨rfl, rfl, rfl, by decide +kernel, rfl, by decide +kernel, by decide +kernel⟩
def e_is_whole_hurwitz : ES := (sSeq (sIf (bOr (bNot (bOf (eB (fIsi isiT) (aCons (eVar 0) (aCons (eC (.cls 4)) aNil))))) (bOf (eBin fNe (eTup (aCons (eUn (fFld l_own_a) (eUn (fFld l_own_algebra) (eVar 0))) (aCons (eUn (fFld l_own_b) (eUn (fFld l_own_algebra) (eVar 0))) aNil))) (eTup (aCons (eUn fNeg (eC (.int 1))) (aCons (eUn fNeg (eC (.int 1))) aNil)))))) (sRet (eC (.bl false))) sNx) (sRet (eOr (eBin fEq (eUn (fFld l_own_bottom) (eVar 0)) (eC (.int 1))) (eAnd (eBin fEq (eUn (fFld l_own_bottom) (eVar 0)) (eC (.int 2))) (eB fAll (aCons (eLc (eItems (eUn (fFld l_own_entries) (eVar 0))) (etName 1) bYes (eBin fEq (eBin fMod (eVar 1) (eC (.int 2))) (eC (.int 1))) [1]) aNil))))))
def m_is_whole_hurwitz : Nat → List D → Option D := mir N_is_whole_hurwitz.length P_is_whole_hurwitz.length e_is_whole_hurwitz
theorem o_is_whole_hurwitz (T : Tx K mg) : ∃ fd, FnOk P w K mg base L2.CX0 1 (a_is_whole_hurwitz K) fd P_is_whole_hurwitz (spD K (clK K) m_is_whole_hurwitz) ∧ L2.FunD K "is_whole" q_is_whole_hurwitz (defArgs s_is_whole_hurwitz) (defBody s_is_whole_hurwitz) (defScope s_is_whole_hurwitz) [] [] (a_is_whole_hurwitz K) fd := by
  obtain ⟨fd, F⟩ := T.fn_is_whole_hurwitz
  refine ⟨fd, fn_tree F sc_is_whole_hurwitz (by decide) fun cdv A outer s H E hr => ?_, F⟩
  exact (dss_cons (ds_if (dt_w (dw_or (dt_not (dt_val (d_cb cr_isi (fc_isi T.isi) T.b_isinstance (da_cons (dv 0) (da_cons (d_gl T.k_Four) da_nil))))) (dw_or1 (dt_cmp (op_neD hr.units) fd_ne (d_tup (da_cons (d_fld T.s_own_a (d_fld T.s_own_algebra (dv 0))) (da_cons (d_fld T.s_own_b (d_fld T.s_own_algebra (dv 0))) da_nil))) (d_tup (da_cons (d_neg d_int) (da_cons (d_neg d_int) da_nil))))))) (dss_one (ds_ret d_bl)) dss_nil) (dss_one (ds_ret (d_or (d_eq hr (d_fld T.s_own_bottom (dv 0)) d_int) (d_one (d_and (d_eq hr (d_fld T.s_own_bottom (dv 0)) d_int) (d_one (d_cb (cr_all rfl) fc_all T.b_all (da_cons (d_lc (own := [("entry", 1)]) rfl sc_is_whole_hurwitz.nd (di_seq (d_fld T.s_own_entries (dv 0))) (blkOk_by rfl) gok_name (fun _ _ _ _ _ => (gname 1 sc_is_whole_hurwitz.nd)) (fun _ _ _ _ _ => dts_nil) (fun _ _ _ _ _ => (d_eq hr (d_mod (dv 1) d_int) d_int))) da_nil)))))))))
theorem c_is_whole_hurwitz (T : Tx K mg) : CalD P w K (clK K) mg base 1 "is_whole_hurwitz" m_is_whole_hurwitz [] := by
  obtain ⟨fd, G, F⟩ := o_is_whole_hurwitz (P := P) (w := w) (base := base) T
  exact calD G T.gl_is_whole_hurwitz F.kp (FunD.bindsN F (fun _ _ _ _ _ _ us hl => match us, hl with | [_], _ => rfl))
abbrev N_found_outside : List Str := ["lattice", "algebra", "bottom", "row", "other"]
abbrev P_found_outside : List Str := ["lattice"]
theorem sc_found_outside : FnScope N_found_outside P_found_outside (defScope s_found_outside) := ⟨rfl, rfl, rfl, by decide +kernel, rfl, by decide +kernel, by decide +kernel⟩
def e_found_outside : ES := (sSeq (sIf (bNot (bOf (eCall m_has_raw [] (aCons (eVar 0) (aCons (eC k_ONE_RAW) (aCons (eC (.int 1)) aNil)))))) sNever sNx) (sSeq (sPar 1 2 (aCons (eUn (fFld l_own_algebra) (eVar 0)) (aCons (eUn (fFld l_own_bottom) (eVar 0)) aNil))) (sSeq (sFor (eItems (eUn (fFld l_own_rows) (eVar 0))) (etName 3) (sFor (eItems (eUn (fFld l_own_rows) (eVar 0))) (etName 4) (sIf (bNot (bOf (eCall m_has_raw [] (aCons (eVar 0) (aCons (eCall m_product_raw [] (aCons (eVar 0) (aCons (eVar 3) (aCons (eVar 4) aNil)))) (aCons (eBin fMul (eVar 2) (eVar 2)) aNil)))))) sNever sNx))) (sRet (eC .non)))))
def m_found_outside : Nat → List D → Option D := mir N_found_outside.length P_found_outside.length e_found_outside
theorem o_found_outside (T : Tx K mg) : ∃ fd, FnOk P w K mg base L2.CX0 4 (a_found_outside K) fd P_found_outside (spD K (clK K) m_found_outside) ∧ L2.FunD K "found_outside" q_found_outside (defArgs s_found_outside) (defBody s_found_outside) (defScope s_found_outside) [] [] (a_found_outside K) fd := by
  obtain ⟨fd, F⟩ := T.fn_found_outside
  refine ⟨fd, fn_tree F sc_found_outside (by decide) fun cdv A outer s H E hr => ?_, F⟩
  exact (dss_cons (ds_if (dt_not (dt_val (d_call (c_has_raw T) hr (da_cons (dv 0) (da_cons (d_gl T.k_ONE_RAW) (da_cons d_int da_nil)))))) (dss_one ds_never) dss_nil) (dss_cons (ds_par (i := 1) (j := 2) rfl sc_found_outside.nd rfl rfl (by decide) rfl rfl (da_cons (d_fld T.s_own_algebra (dv 0)) (da_cons (d_fld T.s_own_bottom (dv 0)) da_nil)) (by rfl)) (dss_cons (ds_for PassesOwn.never rfl (di_seq (d_fld T.s_own_rows (dv 0))) (dg_name 3 sc_found_outside.nd) (dss_one (ds_for PassesOwn.never rfl (di_seq (d_fld T.s_own_rows (dv 0))) (dg_name 4 sc_found_outside.nd) (dss_one (ds_if (dt_not (dt_val (d_call (c_has_raw T) hr (da_cons (dv 0) (da_cons (d_call (c_product_raw T) hr (da_cons (dv 0) (da_cons (dv 3) (da_cons (dv 4) da_nil)))) (da_cons (d_mul (dv 2) (dv 2)) da_nil)))))) (dss_one ds_never) dss_nil))))) (dss_one (ds_ret d_non)))))
theorem c_found_outside (T : Tx K mg) : CalD P w K (clK K) mg base 4 "found_outside" m_found_outside [] := by
  obtain ⟨fd, G, F⟩ := o_found_outside (P := P) (w := w) (base := base) T
  exact calD G T.gl_found_outside F.kp (FunD.bindsN F (fun _ _ _ _ _ _ us hl => match us, hl with | [_], _ => rfl))
abbrev N_is_order : List Str := ["value"]
abbrev P_is_order : List Str := ["value"]
theorem sc_is_order : FnScope N_is_order P_is_order (defScope s_is_order) := ⟨rfl, rfl, rfl, by decide +kernel, rfl, by decide +kernel, by decide +kernel⟩
def e_is_order : ES := (sRet (eAnd (eB (fIsi isiT) (aCons (eVar 0) (aCons (eC (.cls 6)) aNil))) (eBin fIsN (eCall m_found_outside [] (aCons (eVar 0) aNil)) (eC .non))))
def m_is_order : Nat → List D → Option D := mir N_is_order.length P_is_order.length e_is_order
theorem o_is_order (T : Tx K mg) : ∃ fd, FnOk P w K mg base L2.CX0 5 (a_is_order K) fd P_is_order (spD K (clK K) m_is_order) ∧ L2.FunD K "is_order" q_is_order (defArgs s_is_order) (defBody s_is_order) (defScope s_is_order) [] [] (a_is_order K) fd := by
  obtain ⟨fd, F⟩ := T.fn_is_order
  refine ⟨fd, fn_tree F sc_is_order (by decide) fun cdv A outer s H E hr => ?_, F⟩
  exact (dss_one (ds_ret (d_and (d_cb cr_isi (fc_isi T.isi) T.b_isinstance (da_cons (dv 0) (da_cons (d_gl T.k_Lattice) da_nil))) (d_one (d_isN (d_call (c_found_outside T) hr (da_cons (dv 0) da_nil)) d_non)))))
theorem c_is_order (T : Tx K mg) : CalD P w K (clK K) mg base 5 "is_order" m_is_order [] := by
  obtain ⟨fd, G, F⟩ := o_is_order (P := P) (w := w) (base := base) T
  exact calD G T.gl_is_order F.kp (FunD.bindsN F (fun _ _ _ _ _ _ us hl => match us, hl with | [_], _ => rfl))
abbrev N_require_order : List Str := ["value"]
abbrev P_require_order : List Str := ["value"]
theorem sc_require_order : FnScope N_require_order P_require_order (defScope s_require_order) := ⟨rfl, rfl, rfl, by decide +kernel, rfl, by decide +kernel, by decide +kernel⟩
def e_require_order : ES := (sIf (bNot (bOf (eCall m_is_order [] (aCons (eVar 0) aNil)))) sNever sNx)
def m_require_order : Nat → List D → Option D := mir N_require_order.length P_require_order.length e_require_order
theorem o_require_order (T : Tx K mg) : ∃ fd, FnOk P w K mg base L2.CX0 6 (a_require_order K) fd P_require_order (spD K (clK K) m_require_order) ∧ L2.FunD K "require_order" q_require_order (defArgs s_require_order) (defBody s_require_order) (defScope s_require_order) [] [] (a_require_order K) fd := by
  obtain ⟨fd, F⟩ := T.fn_require_order
  refine ⟨fd, fn_tree F sc_require_order (by decide) fun cdv A outer s H E hr => ?_, F⟩
  exact (dss_one (ds_if (dt_not (dt_val (d_call (c_is_order T) hr (da_cons (dv 0) da_nil)))) (dss_one ds_never) dss_nil))
theorem c_require_order (T : Tx K mg) : CalD P w K (clK K) mg base 6 "require_order" m_require_order [] := by
  obtain ⟨fd, G, F⟩ := o_require_order (P := P) (w := w) (base := base) T
  exact calD G T.gl_require_order F.kp (FunD.bindsN F (fun _ _ _ _ _ _ us hl => match us, hl with | [_], _ => rfl))
abbrev N_trace_table : List Str := ["order", "a", "b", "size", "rows", "row", "other"]
abbrev P_trace_table : List Str := ["order"]
theorem sc_trace_table : FnScope N_trace_table P_trace_table (defScope s_trace_table) := ⟨rfl, rfl, rfl, by decide +kernel, rfl, by decide +kernel, by decide +kernel⟩
def e_trace_table : ES := (sSeq (sAsg (eTup (aCons (eUn (fFld l_own_a) (eUn (fFld l_own_algebra) (eVar 0))) (aCons (eUn (fFld l_own_b) (eUn (fFld l_own_algebra) (eVar 0))) (aCons (eBin fMul (eUn (fFld l_own_bottom) (eVar 0)) (eUn (fFld l_own_bottom) (eVar 0))) aNil)))) (etTup 3 (etCons (etName 1) (etCons (etName 2) (etCons (etName 3) etNil))))) (sSeq (sAsg (eUn (fFld l_own_rows) (eVar 0)) (etName 4)) (sRet (eLc (eItems (eVar 4)) (etName 5) bYes (eLc (eItems (eVar 4)) (etName 6) bYes (eBin fDiv (eBin fMul (eC (.int 2)) (eBin fIx (eCall m_raw_product [] (aCons (eVar 1) (aCons (eVar 2) (aCons (eVar 5) (aCons (eVar 6) aNil))))) (eC (.int 0)))) (eVar 3)) [6]) [5]))))
def m_trace_table : Nat → List D → Option D := mir N_trace_table.length P_trace_table.length e_trace_table
theorem o_trace_table (T : Tx K mg) : ∃ fd, FnOk P w K mg base L2.CX0 2 (a_trace_table K) fd P_trace_table (spD K (clK K) m_trace_table) ∧ L2.FunD K "trace_table" q_trace_table (defArgs s_trace_table) (defBody s_trace_table) (defScope s_trace_table) [] [] (a_trace_table K) fd := by
  obtain ⟨fd, F⟩ := T.fn_trace_table
  refine ⟨fd, fn_tree F sc_trace_table (by decide) fun cdv A outer s H E hr => ?_, F⟩
  exact (dss_cons (ds_asg (d_tup (da_cons (d_fld T.s_own_a (d_fld T.s_own_algebra (dv 0))) (da_cons (d_fld T.s_own_b (d_fld T.s_own_algebra (dv 0))) (da_cons (d_mul (d_fld T.s_own_bottom (dv 0)) (d_fld T.s_own_bottom (dv 0))) da_nil)))) (dg_tup rfl (dgs_cons (dg_name 1 sc_trace_table.nd) (dgs_cons (dg_name 2 sc_trace_table.nd) (dgs_cons (dg_name 3 sc_trace_table.nd) dgs_nil))))) (dss_cons (ds_asg (d_fld T.s_own_rows (dv 0)) (dg_name 4 sc_trace_table.nd)) (dss_one (ds_ret (d_lc (own := [("row", 5)]) rfl sc_trace_table.nd (di_seq (dv 4)) (blkOk_by rfl) gok_name (fun _ _ _ _ _ => (gname 5 sc_trace_table.nd)) (fun _ _ _ _ _ => dts_nil) (fun _ _ _ _ _ => (d_lc (own := [("other", 6)]) rfl sc_trace_table.nd (di_seq (dv 4)) (blkOk_by rfl) gok_name (fun _ _ _ _ _ => (gname 6 sc_trace_table.nd)) (fun _ _ _ _ _ => dts_nil) (fun _ _ _ _ _ => (d_fdiv (d_mul d_int (d_ix (d_call (c_raw_product T) hr (da_cons (dv 1) (da_cons (dv 2) (da_cons (dv 5) (da_cons (dv 6) da_nil))))) d_int)) (dv 3))))))))))
theorem c_trace_table (T : Tx K mg) : CalD P w K (clK K) mg base 2 "trace_table" m_trace_table [] := by
  obtain ⟨fd, G, F⟩ := o_trace_table (P := P) (w := w) (base := base) T
  exact calD G T.gl_trace_table F.kp (FunD.bindsN F (fun _ _ _ _ _ _ us hl => match us, hl with | [_], _ => rfl))
abbrev N_discriminant_of : List Str := ["order"]
abbrev P_discriminant_of : List Str := ["order"]
theorem sc_discriminant_of : FnScope N_discriminant_of P_discriminant_of (defScope s_discriminant_of) := ⟨rfl, rfl, rfl, by decide +kernel, rfl, by decide +kernel, by decide +kernel⟩
def e_discriminant_of : ES := (sRet (eB fIsqrt (aCons (eUn fNeg (eCall m_determinant [] (aCons (eCall m_trace_table [] (aCons (eVar 0) aNil)) aNil))) aNil)))
def m_discriminant_of : Nat → List D → Option D := mir N_discriminant_of.length P_discriminant_of.length e_discriminant_of
theorem o_discriminant_of (T : Tx K mg) : ∃ fd, FnOk P w K mg base L2.CX0 3 (a_discriminant_of K) fd P_discriminant_of (spD K (clK K) m_discriminant_of) ∧ L2.FunD K "discriminant_of" q_discriminant_of (defArgs s_discriminant_of) (defBody s_discriminant_of) (defScope s_discriminant_of) [] [] (a_discriminant_of K) fd := by
  obtain ⟨fd, F⟩ := T.fn_discriminant_of
  refine ⟨fd, fn_tree F sc_discriminant_of (by decide) fun cdv A outer s H E hr => ?_, F⟩
  exact (dss_one (ds_ret (d_cf cr_isqrt fc_isqrt T.b_isqrt (da_cons (d_neg (d_call (c_determinant T) hr (da_cons (d_call (c_trace_table T) hr (da_cons (dv 0) da_nil)) da_nil))) da_nil))))
theorem c_discriminant_of (T : Tx K mg) : CalD P w K (clK K) mg base 3 "discriminant_of" m_discriminant_of [] := by
  obtain ⟨fd, G, F⟩ := o_discriminant_of (P := P) (w := w) (base := base) T
  exact calD G T.gl_discriminant_of F.kp (FunD.bindsN F (fun _ _ _ _ _ _ us hl => match us, hl with | [_], _ => rfl))
abbrev N_order_discriminant : List Str := ["order"]
abbrev P_order_discriminant : List Str := ["order"]
theorem sc_order_discriminant : FnScope N_order_discriminant P_order_discriminant (defScope s_order_discriminant) := ⟨rfl, rfl, rfl, by decide +kernel, rfl, by decide +kernel, by decide +kernel⟩
def e_order_discriminant : ES := (sSeq (sExpr (eCall m_require_order [] (aCons (eVar 0) aNil))) (sRet (eCall m_discriminant_of [] (aCons (eVar 0) aNil))))
def m_order_discriminant : Nat → List D → Option D := mir N_order_discriminant.length P_order_discriminant.length e_order_discriminant
theorem o_order_discriminant (T : Tx K mg) : ∃ fd, FnOk P w K mg base L2.CX0 7 (a_order_discriminant K) fd P_order_discriminant (spD K (clK K) m_order_discriminant) ∧ L2.FunD K "order_discriminant" q_order_discriminant (defArgs s_order_discriminant) (defBody s_order_discriminant) (defScope s_order_discriminant) [] [] (a_order_discriminant K) fd := by
  obtain ⟨fd, F⟩ := T.fn_order_discriminant
  refine ⟨fd, fn_tree F sc_order_discriminant (by decide) fun cdv A outer s H E hr => ?_, F⟩
  exact (dss_cons (ds_expr (d_call (c_require_order T) hr (da_cons (dv 0) da_nil))) (dss_one (ds_ret (d_call (c_discriminant_of T) hr (da_cons (dv 0) da_nil)))))
theorem c_order_discriminant (T : Tx K mg) : CalD P w K (clK K) mg base 7 "order_discriminant" m_order_discriminant [] := by
  obtain ⟨fd, G, F⟩ := o_order_discriminant (P := P) (w := w) (base := base) T
  exact calD G T.gl_order_discriminant F.kp (FunD.bindsN F (fun _ _ _ _ _ _ us hl => match us, hl with | [_], _ => rfl))
abbrev N_is_greatest_order : List Str := ["order"]
abbrev P_is_greatest_order : List Str := ["order"]
theorem sc_is_greatest_order : FnScope N_is_greatest_order P_is_greatest_order (defScope s_is_greatest_order) := ⟨rfl, rfl, rfl, by decide +kernel, rfl, by decide +kernel, by decide +kernel⟩
def e_is_greatest_order : ES := (sRet (eBin fEq (eCall m_discriminant_of [] (aCons (eVar 0) aNil)) (eUn (fFld l_own_discriminant) (eUn (fFld l_own_algebra) (eVar 0)))))
def m_is_greatest_order : Nat → List D → Option D := mir N_is_greatest_order.length P_is_greatest_order.length e_is_greatest_order
theorem o_is_greatest_order (T : Tx K mg) : ∃ fd, FnOk P w K mg base L2.CX0 4 (a_is_greatest_order K) fd P_is_greatest_order (spD K (clK K) m_is_greatest_order) ∧ L2.FunD K "is_greatest_order" q_is_greatest_order (defArgs s_is_greatest_order) (defBody s_is_greatest_order) (defScope s_is_greatest_order) [] [] (a_is_greatest_order K) fd := by
  obtain ⟨fd, F⟩ := T.fn_is_greatest_order
  refine ⟨fd, fn_tree F sc_is_greatest_order (by decide) fun cdv A outer s H E hr => ?_, F⟩
  exact (dss_one (ds_ret (d_eq hr (d_call (c_discriminant_of T) hr (da_cons (dv 0) da_nil)) (d_fld T.s_own_discriminant (d_fld T.s_own_algebra (dv 0))))))
theorem c_is_greatest_order (T : Tx K mg) : CalD P w K (clK K) mg base 4 "is_greatest_order" m_is_greatest_order [] := by
  obtain ⟨fd, G, F⟩ := o_is_greatest_order (P := P) (w := w) (base := base) T
  exact calD G T.gl_is_greatest_order F.kp (FunD.bindsN F (fun _ _ _ _ _ _ us hl => match us, hl with | [_], _ => rfl))
abbrev N_is_greatest : List Str := ["order"]
abbrev P_is_greatest : List Str := ["order"]
theorem sc_is_greatest : FnScope N_is_greatest P_is_greatest (defScope s_is_greatest) := ⟨rfl, rfl, rfl, by decide +kernel, rfl, by decide +kernel, by decide +kernel⟩
def e_is_greatest : ES := (sSeq (sExpr (eCall m_require_order [] (aCons (eVar 0) aNil))) (sRet (eCall m_is_greatest_order [] (aCons (eVar 0) aNil))))
def m_is_greatest : Nat → List D → Option D := mir N_is_greatest.length P_is_greatest.length e_is_greatest
theorem o_is_greatest (T : Tx K mg) : ∃ fd, FnOk P w K mg base L2.CX0 7 (a_is_greatest K) fd P_is_greatest (spD K (clK K) m_is_greatest) ∧ L2.FunD K "is_greatest" q_is_greatest (defArgs s_is_greatest) (defBody s_is_greatest) (defScope s_is_greatest) [] [] (a_is_greatest K) fd := by
  obtain ⟨fd, F⟩ := T.fn_is_greatest
  refine ⟨fd, fn_tree F sc_is_greatest (by decide) fun cdv A outer s H E hr => ?_, F⟩
  exact (dss_cons (ds_expr (d_call (c_require_order T) hr (da_cons (dv 0) da_nil))) (dss_one (ds_ret (d_call (c_is_greatest_order T) hr (da_cons (dv 0) da_nil)))))
theorem c_is_greatest (T : Tx K mg) : CalD P w K (clK K) mg base 7 "is_greatest" m_is_greatest [] := by
  obtain ⟨fd, G, F⟩ := o_is_greatest (P := P) (w := w) (base := base) T
  exact calD G T.gl_is_greatest F.kp (FunD.bindsN F (fun _ _ _ _ _ _ us hl => match us, hl with | [_], _ => rfl))
abbrev N_twice_inner : List Str := ["lattice", "one", "other", "algebra"]
abbrev P_twice_inner : List Str := ["lattice", "one", "other"]
theorem sc_twice_inner : FnScope N_twice_inner P_twice_inner (defScope s_twice_inner) := ⟨rfl, rfl, rfl, by decide +kernel, rfl, by decide +kernel, by decide +kernel⟩
def e_twice_inner : ES := (sSeq (sAsg (eUn (fFld l_own_algebra) (eVar 0)) (etName 3)) (sRet (eBin fMul (eC (.int 2)) (eBin fIx (eCall m_raw_product [] (aCons (eUn (fFld l_own_a) (eVar 3)) (aCons (eUn (fFld l_own_b) (eVar 3)) (aCons (eVar 1) (aCons (eCall m_raw_mate [] (aCons (eVar 2) aNil)) aNil))))) (eC (.int 0))))))
def m_twice_inner : Nat → List D → Option D := mir N_twice_inner.length P_twice_inner.length e_twice_inner
theorem o_twice_inner (T : Tx K mg) : ∃ fd, FnOk P w K mg base L2.CX0 2 (a_twice_inner K) fd P_twice_inner (spD K (clK K) m_twice_inner) ∧ L2.FunD K "twice_inner" q_twice_inner (defArgs s_twice_inner) (defBody s_twice_inner) (defScope s_twice_inner) [] [] (a_twice_inner K) fd := by
  obtain ⟨fd, F⟩ := T.fn_twice_inner
  refine ⟨fd, fn_tree F sc_twice_inner (by decide) fun cdv A outer s H E hr => ?_, F⟩
  exact (dss_cons (ds_asg (d_fld T.s_own_algebra (dv 0)) (dg_name 3 sc_twice_inner.nd)) (dss_one (ds_ret (d_mul d_int (d_ix (d_call (c_raw_product T) hr (da_cons (d_fld T.s_own_a (dv 3)) (da_cons (d_fld T.s_own_b (dv 3)) (da_cons (dv 1) (da_cons (d_call (c_raw_mate T) hr (da_cons (dv 2) da_nil)) da_nil))))) d_int)))))
theorem c_twice_inner (T : Tx K mg) : CalD P w K (clK K) mg base 2 "twice_inner" m_twice_inner [] := by
  obtain ⟨fd, G, F⟩ := o_twice_inner (P := P) (w := w) (base := base) T
  exact calD G T.gl_twice_inner F.kp (FunD.bindsN F (fun _ _ _ _ _ _ us hl => match us, hl with | [_, _, _], _ => rfl))
end
end TL

namespace TL
open PySem PySem.Spec PyProof.Rows L2 Evl SlX StX C8
section
variable {P : Program} {w : World} {K : PySem.W.Frag} {mg : Str → Option Value} {base : Heap}
abbrev N_shortened_by_pairs : List Str := ["lattice", "some", "algebra", "rows", "is_done", "at", "to", "size", "many", "later"]
abbrev P_shortened_by_pairs : List Str := ["lattice", "some"]
theorem sc_shortened_by_pairs : FnScope N_shortened_by_pairs P_shortened_by_pairs (defScope s_shortened_by_pairs) := ⟨rfl, rfl, rfl, by decide +kernel, rfl, by decide +kernel, by decide +kernel⟩
def e_shortened_by_pairs : ES := (sSeq (sPar3 2 3 4 (aCons (eUn (fFld l_own_algebra) (eVar 0)) (aCons (eB fList (aCons (eVar 1) aNil)) (aCons (eC (.bl false)) aNil)))) (sSeq (sWhile (bNot (bOf (eVar 4))) (sSeq (sAsg (eC (.bl true)) (etName 4)) (sFor (eItems (eC k_SPOTS)) (etName 5) (sFor (eItems (eC k_SPOTS)) (etName 6) (sSeq (sAsg (eBin fMul (eC (.int 2)) (eCall m_raw_norm [] (aCons (eUn (fFld l_own_a) (eVar 2)) (aCons (eUn (fFld l_own_b) (eVar 2)) (aCons (eBin fIx (eVar 3) (eVar 6)) aNil))))) (etName 7)) (sSeq (sAsg (eIf (bOf (eBin fNe (eVar 5) (eVar 6))) (eBin fDiv (eBin fAdd (eBin fMul (eC (.int 2)) (eCall m_twice_inner [] (aCons (eVar 0) (aCons (eBin fIx (eVar 3) (eVar 5)) (aCons (eBin fIx (eVar 3) (eVar 6)) aNil))))) (eVar 7)) (eBin fMul (eC (.int 2)) (eVar 7))) (eC (.int 0))) (etName 8)) (sSeq (sAsg (eCall m_row_less [] (aCons (eBin fIx (eVar 3) (eVar 5)) (aCons (eVar 8) (aCons (eBin fIx (eVar 3) (eVar 6)) aNil)))) (etName 9)) (sIf (bOf (eBin fLt (eCall m_raw_norm [] (aCons (eUn (fFld l_own_a) (eVar 2)) (aCons (eUn (fFld l_own_b) (eVar 2)) (aCons (eVar 9) aNil)))) (eCall m_raw_norm [] (aCons (eUn (fFld l_own_a) (eVar 2)) (aCons (eUn (fFld l_own_b) (eVar 2)) (aCons (eBin fIx (eVar 3) (eVar 5)) aNil)))))) sNever sNx)))))))) (sRet (eVar 3))))
def m_shortened_by_pairs : Nat → List D → Option D := mir N_shortened_by_pairs.length P_shortened_by_pairs.length e_shortened_by_pairs
theorem o_shortened_by_pairs (T : Tx K mg) : ∃ fd, FnOk P w K mg base L2.CX0 3 (a_shortened_by_pairs K) fd P_shortened_by_pairs (spD K (clK K) m_shortened_by_pairs) ∧ L2.FunD K "shortened_by_pairs" q_shortened_by_pairs (defArgs s_shortened_by_pairs) (defBody s_shortened_by_pairs) (defScope s_shortened_by_pairs) [] [] (a_shortened_by_pairs K) fd := by
  obtain ⟨fd, F⟩ := T.fn_shortened_by_pairs
  refine ⟨fd, fn_tree F sc_shortened_by_pairs (by decide) fun cdv A outer s H E hr => ?_, F⟩
  exact (dss_cons (ds_par3 (i := 2) (j := 3) (l := 4) (ps_par3 rfl sc_shortened_by_pairs.nd rfl rfl rfl (by decide) (by decide) (by decide) rfl rfl rfl (da_cons (d_fld T.s_own_algebra (dv 0)) (da_cons (d_ct call_list_of fc_list T.b_list (da_cons (dv 1) da_nil)) (da_cons d_bl da_nil))) (by rfl))) (dss_cons (ds_while PassesOwn.never (dt_not (dt_val (dv 4))) (dss_cons (ds_asg d_bl (dg_name 4 sc_shortened_by_pairs.nd)) (dss_one (ds_for PassesOwn.never rfl (di_seq (d_gl T.k_SPOTS)) (dg_name 5 sc_shortened_by_pairs.nd) (dss_one (ds_for PassesOwn.never rfl (di_seq (d_gl T.k_SPOTS)) (dg_name 6 sc_shortened_by_pairs.nd) (dss_cons (ds_asg (d_mul d_int (d_call (c_raw_norm T) hr (da_cons (d_fld T.s_own_a (dv 2)) (da_cons (d_fld T.s_own_b (dv 2)) (da_cons (d_ix (dv 3) (dv 6)) da_nil))))) (dg_name 7 sc_shortened_by_pairs.nd)) (dss_cons (ds_asg (d_if (dt_cmp (op_neD hr.units) fd_ne (dv 5) (dv 6)) (d_fdiv (d_add (d_mul d_int (d_call (c_twice_inner T) hr (da_cons (dv 0) (da_cons (d_ix (dv 3) (dv 5)) (da_cons (d_ix (dv 3) (dv 6)) da_nil))))) (dv 7)) (d_mul d_int (dv 7))) d_int) (dg_name 8 sc_shortened_by_pairs.nd)) (dss_cons (ds_asg (d_call (c_row_less T) hr (da_cons (d_ix (dv 3) (dv 5)) (da_cons (dv 8) (da_cons (d_ix (dv 3) (dv 6)) da_nil)))) (dg_name 9 sc_shortened_by_pairs.nd)) (dss_one (ds_if (dt_cmp op_lt (fd_I0 fun _ _ _ => .bl _) (d_call (c_raw_norm T) hr (da_cons (d_fld T.s_own_a (dv 2)) (da_cons (d_fld T.s_own_b (dv 2)) (da_cons (dv 9) da_nil)))) (d_call (c_raw_norm T) hr (da_cons (d_fld T.s_own_a (dv 2)) (da_cons (d_fld T.s_own_b (dv 2)) (da_cons (d_ix (dv 3) (dv 5)) da_nil))))) (dss_one ds_never) dss_nil))))))))))) (dss_one (ds_ret (dv 3)))))
theorem c_shortened_by_pairs (T : Tx K mg) : CalD P w K (clK K) mg base 3 "shortened_by_pairs" m_shortened_by_pairs [] := by
  obtain ⟨fd, G, F⟩ := o_shortened_by_pairs (P := P) (w := w) (base := base) T
  exact calD G T.gl_shortened_by_pairs F.kp (FunD.bindsN F (fun _ _ _ _ _ _ us hl => match us, hl with | [_, _], _ => rfl))
abbrev N_Weights_most_at : List Str := ["self", "spot", "most"]
abbrev P_Weights_most_at : List Str := ["self", "spot", "most"]
theorem sc_Weights_most_at : FnScope N_Weights_most_at P_Weights_most_at (defScope s_Weights_most_at) := ⟨rfl, rfl, rfl, by decide +kernel, rfl, by decide +kernel, by decide +kernel⟩
def e_Weights_most_at : ES := (sRet (eB fIsqrt (aCons (eBin fDiv (eBin fMul (eBin fMul (eC (.int 2)) (eVar 2)) (eBin fIx (eUn (fFld l_own_bounds) (eVar 0)) (eVar 1))) (eUn (fFld l_own_whole) (eVar 0))) aNil)))
def m_Weights_most_at : Nat → List D → Option D := mir N_Weights_most_at.length P_Weights_most_at.length e_Weights_most_at
theorem o_Weights_most_at (T : Tx K mg) : ∃ fd, FnOk P w K mg base L2.CX0 1 (a_Weights_most_at K) fd P_Weights_most_at (spD K (clK K) m_Weights_most_at) ∧ L2.FunD K "most_at" q_Weights_most_at (defArgs s_Weights_most_at) (defBody s_Weights_most_at) (defScope s_Weights_most_at) [] [] (a_Weights_most_at K) fd := by
  obtain ⟨fd, F⟩ := T.fn_Weights_most_at
  refine ⟨fd, fn_tree F sc_Weights_most_at (by decide) fun cdv A outer s H E hr => ?_, F⟩
  exact (dss_one (ds_ret (d_cf cr_isqrt fc_isqrt T.b_isqrt (da_cons (d_fdiv (d_mul (d_mul d_int (dv 2)) (d_ix (d_fld T.s_own_bounds (dv 0)) (dv 1))) (d_fld T.s_own_whole (dv 0))) da_nil))))
theorem t_Weights_most_at (T : Tx K mg) : MetD P w K (clK K) mg base 1 7 "most_at" m_Weights_most_at := by
  obtain ⟨fd, G, F⟩ := o_Weights_most_at (P := P) (w := w) (base := base) T
  exact metD T.cls_7 T.me_Weights_most_at G (FunD.bindsN F (fun _ _ _ _ _ _ us hl => match us, hl with | [_, _, _], _ => rfl))
abbrev N__law_times : List Str := ["_law_one", "_law_other", "_law_w", "_law_x", "_law_y", "_law_z", "_law_s", "_law_t", "_law_u", "_law_v", "_law_first", "_law_second", "_law_third", "_law_fourth"]
abbrev P__law_times : List Str := ["_law_one", "_law_other"]
theorem sc__law_times : FnScope N__law_times P__law_times (defScope s__law_times) := ⟨rfl, rfl, rfl, by decide +kernel, rfl, by decide +kernel, by decide +kernel⟩
def e__law_times : ES := (sSeq (sAsg (eVar 0) (etTup 4 (etCons (etName 2) (etCons (etName 3) (etCons (etName 4) (etCons (etName 5) etNil)))))) (sSeq (sAsg (eVar 1) (etTup 4 (etCons (etName 6) (etCons (etName 7) (etCons (etName 8) (etCons (etName 9) etNil)))))) (sSeq (sAsg (eBin fSub (eBin fSub (eBin fSub (eBin fMul (eVar 2) (eVar 6)) (eBin fMul (eVar 3) (eVar 7))) (eBin fMul (eVar 4) (eVar 8))) (eBin fMul (eVar 5) (eVar 9))) (etName 10)) (sSeq (sAsg (eBin fSub (eBin fAdd (eBin fAdd (eBin fMul (eVar 2) (eVar 7)) (eBin fMul (eVar 3) (eVar 6))) (eBin fMul (eVar 4) (eVar 9))) (eBin fMul (eVar 5) (eVar 8))) (etName 11)) (sSeq (sAsg (eBin fAdd (eBin fAdd (eBin fSub (eBin fMul (eVar 2) (eVar 8)) (eBin fMul (eVar 3) (eVar 9))) (eBin fMul (eVar 4) (eVar 6))) (eBin fMul (eVar 5) (eVar 7))) (etName 12)) (sSeq (sAsg (eBin fAdd (eBin fSub (eBin fAdd (eBin fMul (eVar 2) (eVar 9)) (eBin fMul (eVar 3) (eVar 8))) (eBin fMul (eVar 4) (eVar 7))) (eBin fMul (eVar 5) (eVar 6))) (etName 13)) (sRet (eTup (aCons (eBin fDiv (eVar 10) (eC (.int 2))) (aCons (eBin fDiv (eVar 11) (eC (.int 2))) (aCons (eBin fDiv (eVar 12) (eC (.int 2))) (aCons (eBin fDiv (eVar 13) (eC (.int 2))) aNil))))))))))))
def m__law_times : Nat → List D → Option D := mir N__law_times.length P__law_times.length e__law_times
theorem o__law_times (T : Tx K mg) : ∃ fd, FnOk P w K mg base L2.CX0 1 (a__law_times K) fd P__law_times (spD K (clK K) m__law_times) ∧ L2.FunD K "_law_times" q__law_times (defArgs s__law_times) (defBody s__law_times) (defScope s__law_times) [] [] (a__law_times K) fd := by
  obtain ⟨fd, F⟩ := T.fn__law_times
  refine ⟨fd, fn_tree F sc__law_times (by decide) fun cdv A outer s H E hr => ?_, F⟩
  exact (dss_cons (ds_asg (dv 0) (dg_tup rfl (dgs_cons (dg_name 2 sc__law_times.nd) (dgs_cons (dg_name 3 sc__law_times.nd) (dgs_cons (dg_name 4 sc__law_times.nd) (dgs_cons (dg_name 5 sc__law_times.nd) dgs_nil)))))) (dss_cons (ds_asg (dv 1) (dg_tup rfl (dgs_cons (dg_name 6 sc__law_times.nd) (dgs_cons (dg_name 7 sc__law_times.nd) (dgs_cons (dg_name 8 sc__law_times.nd) (dgs_cons (dg_name 9 sc__law_times.nd) dgs_nil)))))) (dss_cons (ds_asg (d_sub (d_sub (d_sub (d_mul (dv 2) (dv 6)) (d_mul (dv 3) (dv 7))) (d_mul (dv 4) (dv 8))) (d_mul (dv 5) (dv 9))) (dg_name 10 sc__law_times.nd)) (dss_cons (ds_asg (d_sub (d_add (d_add (d_mul (dv 2) (dv 7)) (d_mul (dv 3) (dv 6))) (d_mul (dv 4) (dv 9))) (d_mul (dv 5) (dv 8))) (dg_name 11 sc__law_times.nd)) (dss_cons (ds_asg (d_add (d_add (d_sub (d_mul (dv 2) (dv 8)) (d_mul (dv 3) (dv 9))) (d_mul (dv 4) (dv 6))) (d_mul (dv 5) (dv 7))) (dg_name 12 sc__law_times.nd)) (dss_cons (ds_asg (d_add (d_sub (d_add (d_mul (dv 2) (dv 9)) (d_mul (dv 3) (dv 8))) (d_mul (dv 4) (dv 7))) (d_mul (dv 5) (dv 6))) (dg_name 13 sc__law_times.nd)) (dss_one (ds_ret (d_tup (da_cons (d_fdiv (dv 10) d_int) (da_cons (d_fdiv (dv 11) d_int) (da_cons (d_fdiv (dv 12) d_int) (da_cons (d_fdiv (dv 13) d_int) da_nil)))))))))))))
theorem c__law_times (T : Tx K mg) : CalD P w K (clK K) mg base 1 "_law_times" m__law_times [] := by
  obtain ⟨fd, G, F⟩ := o__law_times (P := P) (w := w) (base := base) T
  exact calD G T.gl__law_times F.kp (FunD.bindsN F (fun _ _ _ _ _ _ us hl => match us, hl with | [_, _], _ => rfl))
abbrev N__law_norm : List Str := ["_law_one"]
abbrev P__law_norm : List Str := ["_law_one"]
theorem sc__law_norm : FnScope N__law_norm P__law_norm (defScope s__law_norm) := ⟨rfl, rfl, rfl, by decide +kernel, rfl, by decide +kernel, by decide +kernel⟩
def e__law_norm : ES := (sRet (eBin fDiv (eBin fAdd (eBin fAdd (eBin fAdd (eBin fMul (eBin fIx (eVar 0) (eC (.int 0))) (eBin fIx (eVar 0) (eC (.int 0)))) (eBin fMul (eBin fIx (eVar 0) (eC (.int 1))) (eBin fIx (eVar 0) (eC (.int 1))))) (eBin fMul (eBin fIx (eVar 0) (eC (.int 2))) (eBin fIx (eVar 0) (eC (.int 2))))) (eBin fMul (eBin fIx (eVar 0) (eC (.int 3))) (eBin fIx (eVar 0) (eC (.int 3))))) (eC (.int 4))))
def m__law_norm : Nat → List D → Option D := mir N__law_norm.length P__law_norm.length e__law_norm
theorem o__law_norm (T : Tx K mg) : ∃ fd, FnOk P w K mg base L2.CX0 1 (a__law_norm K) fd P__law_norm (spD K (clK K) m__law_norm) ∧ L2.FunD K "_law_norm" q__law_norm (defArgs s__law_norm) (defBody s__law_norm) (defScope s__law_norm) [] [] (a__law_norm K) fd := by
  obtain ⟨fd, F⟩ := T.fn__law_norm
  refine ⟨fd, fn_tree F sc__law_norm (by decide) fun cdv A outer s H E hr => ?_, F⟩
  exact (dss_one (ds_ret (d_fdiv (d_add (d_add (d_add (d_mul (d_ix (dv 0) d_int) (d_ix (dv 0) d_int)) (d_mul (d_ix (dv 0) d_int) (d_ix (dv 0) d_int))) (d_mul (d_ix (dv 0) d_int) (d_ix (dv 0) d_int))) (d_mul (d_ix (dv 0) d_int) (d_ix (dv 0) d_int))) d_int)))
theorem c__law_norm (T : Tx K mg) : CalD P w K (clK K) mg base 1 "_law_norm" m__law_norm [] := by
  obtain ⟨fd, G, F⟩ := o__law_norm (P := P) (w := w) (base := base) T
  exact calD G T.gl__law_norm F.kp (FunD.bindsN F (fun _ _ _ _ _ _ us hl => match us, hl with | [_], _ => rfl))
abbrev N__law_twice : List Str := ["_law_four_here", "_law_entry"]
abbrev P__law_twice : List Str := ["_law_four_here"]
theorem sc__law_twice : FnScope N__law_twice P__law_twice (defScope s__law_twice) := ⟨rfl, rfl, rfl, by decide +kernel, rfl, by decide +kernel, by decide +kernel⟩
def e__law_twice : ES := (sRet (eB fTuple (aCons (eLc (eItems (eProp 4 m_Four_entries (eVar 0))) (etName 1) bYes (eBin fDiv (eBin fMul (eC (.int 2)) (eVar 1)) (eProp 4 m_Four_bottom (eVar 0))) [1]) aNil)))
def m__law_twice : Nat → List D → Option D := mir N__law_twice.length P__law_twice.length e__law_twice
theorem o__law_twice (T : Tx K mg) : ∃ fd, FnOk P w K mg base L2.CX0 3 (a__law_twice K) fd P__law_twice (spD K (clK K) m__law_twice) ∧ L2.FunD K "_law_twice" q__law_twice (defArgs s__law_twice) (defBody s__law_twice) (defScope s__law_twice) [] [] (a__law_twice K) fd := by
  obtain ⟨fd, F⟩ := T.fn__law_twice
  refine ⟨fd, fn_tree F sc__law_twice (by decide) fun cdv A outer s H E hr => ?_, F⟩
  exact (dss_one (ds_ret (d_ct call_tuple_of fc_tuple T.b_tuple (da_cons (d_lc (own := [("_law_entry", 1)]) rfl sc__law_twice.nd (di_seq (d_prop (p_Four_entries T) hr (dv 0))) (blkOk_by rfl) gok_name (fun _ _ _ _ _ => (gname 1 sc__law_twice.nd)) (fun _ _ _ _ _ => dts_nil) (fun _ _ _ _ _ => (d_fdiv (d_mul d_int (dv 1)) (d_prop (p_Four_bottom T) hr (dv 0))))) da_nil))))
theorem c__law_twice (T : Tx K mg) : CalD P w K (clK K) mg base 3 "_law_twice" m__law_twice [] := by
  obtain ⟨fd, G, F⟩ := o__law_twice (P := P) (w := w) (base := base) T
  exact calD G T.gl__law_twice F.kp (FunD.bindsN F (fun _ _ _ _ _ _ us hl => match us, hl with | [_], _ => rfl))
abbrev N__law_units : List Str := ["_law_found", "_law_at", "_law_sign", "_law_number", "_law_spot", "_law_place"]
abbrev P__law_units : List Str := []
theorem sc__law_units : FnScope N__law_units P__law_units (defScope s__law_units) := ⟨rfl, rfl, rfl, by decide +kernel, rfl, by decide +kernel, by decide +kernel⟩
def e__law_units : ES := (sSeq (sNew 0) (sSeq (sFor (eRange1 (aCons (eC (.int 4)) aNil)) (etName 1) (sFor (eItems (eTup (aCons (eUn fNeg (eC (.int 2))) (aCons (eC (.int 2)) aNil)))) (etName 2) (sApp 0 (eB fTuple (aCons (eLc (eRange1 (aCons (eC (.int 4)) aNil)) (etName 4) bYes (eIf (bOf (eBin fEq (eVar 4) (eVar 1))) (eVar 2) (eC (.int 0))) [4]) aNil))))) (sSeq (sFor (eRange1 (aCons (eC (.int 16)) aNil)) (etName 3) (sApp 0 (eB fTuple (aCons (eLc (eItems (eTup (aCons (eC (.int 1)) (aCons (eC (.int 2)) (aCons (eC (.int 4)) (aCons (eC (.int 8)) aNil)))))) (etName 5) bYes (eBin fSub (eC (.int 1)) (eBin fMul (eC (.int 2)) (eBin fMod (eBin fDiv (eVar 3) (eVar 5)) (eC (.int 2))))) [5]) aNil)))) (sRetP 0))))
def m__law_units : Nat → List D → Option D := mir N__law_units.length P__law_units.length e__law_units
theorem o__law_units (T : Tx K mg) : ∃ fd, FnOk P w K mg base L2.CX0 1 (a__law_units K) fd P__law_units (spD K (clK K) m__law_units) ∧ L2.FunD K "_law_units" q__law_units (defArgs s__law_units) (defBody s__law_units) (defScope s__law_units) [] [] (a__law_units K) fd := by
  obtain ⟨fd, F⟩ := T.fn__law_units
  refine ⟨fd, fn_tree F sc__law_units (by decide) fun cdv A outer s H E hr => ?_, F⟩
  exact (dss_cons (ds_new (k := 0) sc__law_units.nd) (dss_cons (ds_for PassesOwn.never rfl (di_range1 T.b_range (da_cons d_int da_nil)) (dg_name 1 sc__law_units.nd) (dss_one (ds_for PassesOwn.never rfl (di_seq (d_tup (da_cons (d_neg d_int) (da_cons d_int da_nil)))) (dg_name 2 sc__law_units.nd) (dss_one (ds_app (pv 0) (d_ct call_tuple_of fc_tuple T.b_tuple (da_cons (d_lc (own := [("_law_spot", 4)]) rfl sc__law_units.nd (di_range1 T.b_range (da_cons d_int da_nil)) (blkOk_by rfl) gok_name (fun _ _ _ _ _ => (gname 4 sc__law_units.nd)) (fun _ _ _ _ _ => dts_nil) (fun _ _ _ _ _ => (d_if (dt_cmp (op_eqD hr.units) fd_eq (dv 4) (dv 1)) (dv 2) d_int))) da_nil))))))) (dss_cons (ds_for PassesOwn.never rfl (di_range1 T.b_range (da_cons d_int da_nil)) (dg_name 3 sc__law_units.nd) (dss_one (ds_app (pv 0) (d_ct call_tuple_of fc_tuple T.b_tuple (da_cons (d_lc (own := [("_law_place", 5)]) rfl sc__law_units.nd (di_seq (d_tup (da_cons d_int (da_cons d_int (da_cons d_int (da_cons d_int da_nil)))))) (blkOk_by rfl) gok_name (fun _ _ _ _ _ => (gname 5 sc__law_units.nd)) (fun _ _ _ _ _ => dts_nil) (fun _ _ _ _ _ => (d_sub d_int (d_mul d_int (d_mod (d_fdiv (dv 3) (dv 5)) d_int))))) da_nil))))) (dss_one (ds_retP (pv 0))))))
theorem c__law_units (T : Tx K mg) : CalD P w K (clK K) mg base 1 "_law_units" m__law_units [] := by
  obtain ⟨fd, G, F⟩ := o__law_units (P := P) (w := w) (base := base) T
  exact calD G T.gl__law_units F.kp (FunD.bindsN F (fun _ _ _ _ _ _ us hl => match us, hl with | [], _ => rfl))
end
end TL

/-! Generators that sleep: what runs for every table of generators leaves those that sleep as they are -/
namespace TL
open PySem PySem.Spec PyProof.Rows L2 Evl SlX StX C8
open Sem (wp)

/-- nobody wakes this -/
def stuckK : Resume → Sem PySem.Fin := fun _ => .unsupported ""
def isSusp : GenState → Bool
  | .suspended .. => true
  | _ => false
def lull : GenState → GenState
  | .suspended _ l c p fs cl => .suspended stuckK l c p fs cl
  | x => x
theorem lull_seen (x : GenState) : (lull x).seen = x.seen := by cases x <;> rfl
theorem lull_bare (x : GenState) : (lull x).bare = x.bare := by cases x <;> rfl
theorem lull_other {x : GenState} (h : isSusp x = false) : lull x = x := by cases x <;> first | rfl | cases h
/-- no mark of a generator among the frames -/
def clean : GenState → Prop
  | .suspended _ _ _ _ fs _ => splitAtGen fs = none
  | _ => True
/-- b: the table where some sleep for good; S: those -/
structure Lull (S : Nat → Bool) (a b : Array GenState) : Prop where
  sz : b.size = a.size
  off : ∀ i, S i = false → b[i]? = a[i]? ∧ ∀ x, a[i]? = some x → clean x
  on : ∀ i, S i = true → ∃ x, a[i]? = some x ∧ isSusp x = true ∧ b[i]? = some (lull x)
theorem Lull.seen {S : Nat → Bool} {a b : Array GenState} (L : Lull S a b) {g : Nat} {st : GenState} (h : b[g]? = some st) : ∃ st', a[g]? = some st' ∧ st'.seen = st.seen := by
  cases e : S g with
  | false => exact ⟨st, by rw [← (L.off g e).1]; exact h, rfl⟩
  | true =>
    obtain ⟨x, h1, _, h3⟩ := L.on g e
    rw [h] at h3
    cases h3
    exact ⟨x, h1, (lull_seen x).symm⟩
theorem Lull.push {S : Nat → Bool} {a b : Array GenState} (L : Lull S a b) {x : GenState} (hx : clean x) : Lull S (a.push x) (b.push x) := by
  refine ⟨by simp [L.sz], fun i hi => ?_, fun i hi => ?_⟩
  · by_cases h : i < a.size
    · rw [Array.getElem?_push_lt (by rw [L.sz]; exact h), Array.getElem?_push_lt h]
      have z := L.off i hi
      rw [Array.getElem?_eq_getElem (by rw [L.sz]; exact h), Array.getElem?_eq_getElem h] at z
      exact z
    · by_cases h2 : i = a.size
      · subst h2
        rw [Array.getElem?_push_size, ← L.sz, Array.getElem?_push_size]
        exact ⟨rfl, fun y hy => by cases hy; exact hx⟩
      · rw [Array.getElem?_eq_none (by simp [L.sz]; omega), Array.getElem?_eq_none (by simp; omega)]
        exact ⟨rfl, fun y hy => by cases hy⟩
  · obtain ⟨y, h1, h2, h3⟩ := L.on i hi
    have hl : i < a.size := (Array.getElem?_eq_some_iff.mp h1).1
    refine ⟨y, ?_, h2, ?_⟩
    · rw [Array.getElem?_push_lt hl, ← Array.getElem?_eq_getElem hl]; exact h1
    · rw [Array.getElem?_push_lt (by rw [L.sz]; exact hl), ← Array.getElem?_eq_getElem (by rw [L.sz]; exact hl)]; exact h3
theorem Lull.set {S : Nat → Bool} {a b : Array GenState} (L : Lull S a b) {g : Nat} {x : GenState} (hg : S g = false) (hx : clean x) : Lull S (a.setIfInBounds g x) (b.setIfInBounds g x) := by
  refine ⟨by simp [L.sz], fun i hi => ?_, fun i hi => ?_⟩
  · by_cases h : g = i
    · subst h
      by_cases hl : g < a.size
      · simp [hl, L.sz, hx]
      · rw [Array.getElem?_eq_none (by simp [L.sz]; omega), Array.getElem?_eq_none (by simp; omega)]
        exact ⟨rfl, fun y hy => by cases hy⟩
    · rw [Array.getElem?_setIfInBounds_ne h, Array.getElem?_setIfInBounds_ne h]
      exact L.off i hi
  · have h : g ≠ i := fun z => by rw [z, hi] at hg; cases hg
    rw [Array.getElem?_setIfInBounds_ne h, Array.getElem?_setIfInBounds_ne h]
    exact L.on i hi
def suspAt (a : Array GenState) (i : Nat) : Bool := match a[i]? with
  | some x => isSusp x
  | none => false
theorem suspAt_of {a : Array GenState} {i : Nat} {x : GenState} (e : a[i]? = some x) : suspAt a i = isSusp x := by unfold suspAt; rw [e]
theorem Lull.all (a : Array GenState) : ∃ S, Lull S a (a.map lull) ∧ ∀ i x, a[i]? = some x → isSusp x = true → S i = true := by
  refine ⟨suspAt a, ⟨by simp, fun i hi => ?_, fun i hi => ?_⟩, fun i x e h => by rw [suspAt_of e]; exact h⟩
  · rw [Array.getElem?_map]
    cases e : a[i]? with
    | none => exact ⟨rfl, fun x hx => by cases hx⟩
    | some x =>
      rw [suspAt_of e] at hi
      exact ⟨by rw [Option.map_some, lull_other hi], fun y hy => by cases hy; cases x <;> first | trivial | cases hi⟩
  · cases e : a[i]? with
    | none => unfold suspAt at hi; rw [e] at hi; cases hi
    | some x =>
      rw [suspAt_of e] at hi
      exact ⟨x, rfl, hi, by rw [Array.getElem?_map, e]; rfl⟩
/-- two states, the one with those that sleep for good -/
structure LullS (S : Nat → Bool) (s t : Shared) : Prop where
  heap : t.heap = s.heap
  drawn : t.drawn = s.drawn
  toks : t.toks = s.toks
  os : t.os = s.os
  gens : Lull S s.gens t.gens
theorem LullS.mk' {S : Nat → Bool} {s t : Shared} (L : LullS S s t) : ∃ G, Lull S G t.gens ∧ s = { t with gens := G } := ⟨s.gens, L.gens, by
  obtain ⟨h1, h2, h3, h4, _⟩ := L
  cases s
  cases t
  simp only at h1 h2 h3 h4
  subst h1 h2 h3 h4
  rfl⟩
/-- what sleeps has not changed -/
def SameOn (S : Nat → Bool) (G G' : Array GenState) : Prop := ∀ i, S i = true → G'[i]? = G[i]?
theorem SameOn.refl {S : Nat → Bool} {G : Array GenState} : SameOn S G G := fun _ _ => rfl
theorem SameOn.trans {S : Nat → Bool} {G G' G2 : Array GenState} (a : SameOn S G G') (b : SameOn S G' G2) : SameOn S G G2 := fun i h => (b i h).trans (a i h)
theorem SameOn.set {S : Nat → Bool} {G : Array GenState} {g : Nat} {x : GenState} (h : S g = false) : SameOn S G (G.setIfInBounds g x) := fun i hi => Array.getElem?_setIfInBounds_ne fun z => by rw [z, hi] at h; cases h
theorem Lull.sameOn_push {S : Nat → Bool} {a b : Array GenState} (L : Lull S a b) {x : GenState} : SameOn S a (a.push x) := fun i hi => by
  obtain ⟨y, h1, _, _⟩ := L.on i hi
  have hl : i < a.size := (Array.getElem?_eq_some_iff.mp h1).1
  rw [Array.getElem?_push_lt hl, ← Array.getElem?_eq_getElem hl]
theorem Lull.plain {S : Nat → Bool} {a b : Array GenState} (L : Lull S a b) {g : Nat} {x : GenState} (h : b[g]? = some x) (hx : isSusp x = false) : S g = false ∧ a[g]? = some x := by
  cases z : S g with
  | false => exact ⟨rfl, by rw [← (L.off g z).1]; exact h⟩
  | true =>
    obtain ⟨y, _, q2, q3⟩ := L.on g z
    rw [h] at q3
    have q4 : x = lull y := Option.some.inj q3
    subst q4
    cases y <;> first | (exact Bool.noConfusion (show true = false from hx)) | cases q2
def cleanE : End → Prop
  | .ret _ => True
  | .susp _ _ _ _ _ _ fs => splitAtGen fs = none
theorem cleanE_gen {e : End} (h : cleanE e) : clean e.genState := by cases e <;> first | trivial | exact h
theorem split_append : ∀ {a b : List Frame}, splitAtGen a = none → splitAtGen b = none → splitAtGen (a ++ b) = none
  | [], _, _, h => h
  | .ret k h g l c p kp :: r, b, h1, h2 => by
    have h1' : (splitAtGen r).map (fun (pre, x, rest) => (Frame.ret k h g l c p kp :: pre, x, rest)) = none := h1
    have h3 : splitAtGen r = none := by
      cases e : splitAtGen r with
      | none => rfl
      | some y => rw [e] at h1'; cases h1'
    show (splitAtGen (r ++ b)).map _ = none
    rw [split_append h3 h2]
    rfl
  | .gen .. :: _, _, h1, _ => by cases h1
theorem split_tail {F : Frame} {fs : List Frame} (h : splitAtGen (F :: fs) = none) : splitAtGen fs = none := by
  cases F with
  | ret k h0 g l c p kp =>
    have h1' : (splitAtGen fs).map (fun (pre, x, rest) => (Frame.ret k h0 g l c p kp :: pre, x, rest)) = none := h
    cases e : splitAtGen fs with
    | none => rfl
    | some y => rw [e] at h1'; cases h1'
  | gen g k l c p => cases h
theorem runs_unsup {M : Model} {Γ : PySem.Ctx} {p : Pos} {t : Sem PySem.Fin} {fs : List Frame} {s s' : Shared} {e : End} (h : Runs M Γ p t fs s e s') : ∀ w, t ≠ .unsupported w := by
  induction h with
  | segRet _ _ ih _ => exact ih
  | segGen _ _ ih _ => exact ih
  | segSuspOut _ _ ih => exact ih
  | segSuspGen _ _ _ _ ih _ => exact ih
  | _ => intro w z; cases z
theorem runs_lull {M : Model} {S : Nat → Bool} {Γ : PySem.Ctx} {p : Pos} {t : Sem PySem.Fin} {fs : List Frame} {s s' : Shared} {e : End} (h : Runs M Γ p t fs s e s') :
    splitAtGen fs = none → ∀ G, Lull S G s.gens → ∃ G', Lull S G' s'.gens ∧ SameOn S G G' ∧ cleanE e ∧ Runs M Γ p t fs { s with gens := G } e { s' with gens := G' } := by
  induction h with
  | done => exact fun _ G L => ⟨G, L, .refl, trivial, .done⟩
  | raise => exact fun _ G L => ⟨G, L, .refl, trivial, .raise⟩
  | again hq _ ih => exact fun hf G L => let ⟨G', a, b, c, d⟩ := ih hf G L; ⟨G', a, b, c, .again hq d⟩
  | rule _ ih => exact fun hf G L => let ⟨G', a, b, c, d⟩ := ih hf G L; ⟨G', a, b, c, .rule d⟩
  | «at» _ ih => exact fun hf G L => let ⟨G', a, b, c, d⟩ := ih hf G L; ⟨G', a, b, c, .at d⟩
  | load ho _ ih => exact fun hf G L => let ⟨G', a, b, c, d⟩ := ih hf G L; ⟨G', a, b, c, .load ho d⟩
  | update ho _ ih => exact fun hf G L => let ⟨G', a, b, c, d⟩ := ih hf G L; ⟨G', a, b, c, .update ho d⟩
  | loadIfAlive _ ih => exact fun hf G L => let ⟨G', a, b, c, d⟩ := ih hf G L; ⟨G', a, b, c, .loadIfAlive d⟩
  | point _ ih => exact fun hf G L => let ⟨G', a, b, c, d⟩ := ih hf G L; ⟨G', a, b, c, .point d⟩
  | alloc _ ih => exact fun hf G L => let ⟨G', a, b, c, d⟩ := ih hf G L; ⟨G', a, b, c, .alloc d⟩
  | fresh _ ih => exact fun hf G L => let ⟨G', a, b, c, d⟩ := ih hf G L; ⟨G', a, b, c, .fresh d⟩
  | ask _ ih => exact fun hf G L => let ⟨G', a, b, c, d⟩ := ih hf G L; ⟨G', a, b, c, .ask d⟩
  | choose hn _ ih => exact fun hf G L => let ⟨G', a, b, c, d⟩ := ih hf G L; ⟨G', a, b, c, .choose hn d⟩
  | os _ ih => exact fun hf G L => let ⟨G', a, b, c, d⟩ := ih hf G L; ⟨G', a, b, c, .os d⟩
  | handled _ ih => exact fun hf G L => let ⟨G', a, b, c, d⟩ := ih hf G L; ⟨G', a, b, c, .handled d⟩
  | genState hg _ ih =>
    intro hf G L
    obtain ⟨G', a, b, c, d⟩ := ih hf G L
    obtain ⟨st', h1, h2⟩ := L.seen hg
    exact ⟨G', a, b, c, .genState (st := st') h1 (by rw [h2]; exact d)⟩
  | stack _ ih => exact fun hf G L => let ⟨G', a, b, c, d⟩ := ih hf G L; ⟨G', a, b, c, .stack d⟩
  | thread _ ih => exact fun hf G L => let ⟨G', a, b, c, d⟩ := ih hf G L; ⟨G', a, b, c, .thread d⟩
  | newGen _ ih =>
    intro hf G L
    obtain ⟨G', a, b, hc, d⟩ := ih hf _ (L.push (x := .fresh _) trivial)
    refine ⟨G', a, L.sameOn_push.trans b, hc, .newGen ?_⟩
    rw [show ∀ s : Shared, ({ s with gens := G } : Shared).gens.size = G.size from fun _ => rfl, L.sz.symm]
    exact d
  | call _ _ ih1 ih2 =>
    intro hf G L
    obtain ⟨G1, a1, b1, _, d1⟩ := ih1 rfl G L
    obtain ⟨G2, a2, b2, c2, d2⟩ := ih2 rfl G1 a1
    exact ⟨G2, a2, b1.trans b2, c2, .call d1 d2⟩
  | callSusp _ ih =>
    intro hf G L
    obtain ⟨G1, a1, b1, c1, d1⟩ := ih rfl G L
    exact ⟨G1, a1, b1, split_append c1 rfl, .callSusp d1⟩
  | yield => exact fun _ G L => ⟨G, L, .refl, rfl, .yield⟩
  | resumeFresh hg h1 hq h2 ih1 ih2 =>
    intro hf G L
    obtain ⟨hS, hG⟩ := L.plain hg rfl
    obtain ⟨G1, a1, b1, c1, d1⟩ := ih1 rfl _ (L.set (x := .running) hS trivial)
    obtain ⟨G2, a2, b2, c2, d2⟩ := ih2 rfl _ (a1.set hS (cleanE_gen c1))
    exact ⟨G2, a2, ((SameOn.set hS).trans b1).trans ((SameOn.set hS).trans b2), c2, .resumeFresh hG d1 hq d2⟩
  | @resumeSuspended Γ p g r l k s k₀ l₀ c₀ p₀ fs cl e₁ s₁ e s' hg h1 hq h2 ih1 ih2 =>
    intro hf G L
    have hS : S g = false := by
      cases z : S g with
      | false => rfl
      | true =>
        obtain ⟨x, q1, q2, q3⟩ := L.on g z
        rw [hg] at q3
        cases x with
        | suspended k l c p fs cl =>
          cases q3
          exact absurd rfl (runs_unsup h1 "")
        | _ => cases q2
    have hG : G[g]? = some (.suspended k₀ l₀ c₀ p₀ fs cl) := by rw [← hg]; exact (L.off g hS).1.symm
    have hcl : splitAtGen fs = none := (L.off g hS).2 _ hG
    obtain ⟨G1, a1, b1, c1, d1⟩ := ih1 hcl (G.setIfInBounds g .running) (L.set hS trivial)
    obtain ⟨G2, a2, b2, c2, d2⟩ := ih2 rfl (G1.setIfInBounds g e₁.genState) (a1.set hS (cleanE_gen c1))
    exact ⟨G2, a2, ((SameOn.set hS).trans b1).trans ((SameOn.set hS).trans b2), c2, .resumeSuspended hG d1 hq d2⟩
  | resumeJustStarted hg hv h1 ih =>
    intro hf G L
    obtain ⟨hS, hG⟩ := L.plain hg rfl
    obtain ⟨G1, a1, b1, c1, d1⟩ := ih rfl G L
    exact ⟨G1, a1, b1, c1, .resumeJustStarted hG hv d1⟩
  | resumeThrowFresh hg h1 ih =>
    intro hf G L
    obtain ⟨hS, hG⟩ := L.plain hg rfl
    obtain ⟨G1, a1, b1, c1, d1⟩ := ih rfl _ (L.set (x := .finished) hS trivial)
    exact ⟨G1, a1, (SameOn.set hS).trans b1, c1, .resumeThrowFresh hG d1⟩
  | resumeRunning hg h1 ih =>
    intro hf G L
    obtain ⟨hS, hG⟩ := L.plain hg rfl
    obtain ⟨G1, a1, b1, c1, d1⟩ := ih rfl G L
    exact ⟨G1, a1, b1, c1, .resumeRunning hG d1⟩
  | resumeFinished hg h1 ih =>
    intro hf G L
    obtain ⟨hS, hG⟩ := L.plain hg rfl
    obtain ⟨G1, a1, b1, c1, d1⟩ := ih rfl G L
    exact ⟨G1, a1, b1, c1, .resumeFinished hG d1⟩
  | segRet _ _ ih1 ih2 =>
    intro hf G L
    obtain ⟨G1, a1, b1, _, d1⟩ := ih1 rfl G L
    obtain ⟨G2, a2, b2, c2, d2⟩ := ih2 (split_tail hf) G1 a1
    exact ⟨G2, a2, b1.trans b2, c2, .segRet d1 d2⟩
  | segGen _ _ _ _ => exact fun hf => by cases hf
  | segSuspOut hs _ ih =>
    intro hf G L
    obtain ⟨G1, a1, b1, c1, d1⟩ := ih rfl G L
    exact ⟨G1, a1, b1, split_append c1 hf, .segSuspOut hs d1⟩
  | segSuspGen hs _ _ _ _ _ => exact fun hf => by rw [hs] at hf; cases hf
theorem wp_lull {α : Type} {M : Model} {S : Nat → Bool} {Γ : PySem.Ctx} (t : Sem α) : ∀ (Q : α → Pos → Shared → Prop) (E : Value → Pos → Shared → Prop) (p : Pos) (s : Shared) (G : Array GenState), Lull S G s.gens → wp M Γ t Q E p s →
    wp M Γ t (fun a p' s' => ∃ u, Q a p' u ∧ Lull S s'.gens u.gens ∧ SameOn S G s'.gens ∧ s' = { u with gens := s'.gens }) (fun a p' s' => ∃ u, E a p' u ∧ Lull S s'.gens u.gens ∧ SameOn S G s'.gens ∧ s' = { u with gens := s'.gens }) p { s with gens := G } := by
  induction t with
  | pure a => exact fun Q E p s G L h => ⟨s, h, L, .refl, rfl⟩
  | raise e => exact fun Q E p s G L h => ⟨s, h, L, .refl, rfl⟩
  | unsupported _ => intro Q E p s G L h; exact h
  | finish _ => intro Q E p s G L h; exact h
  | rule _ k ih => exact fun Q E p s G L h => ih () Q E p s G L h
  | «at» p' k ih => exact fun Q E p s G L h => ih () Q E p' s G L h
  | load a _ k ih => intro Q E p s G L h; obtain ⟨o, ho, h⟩ := h; exact ⟨o, ho, ih o Q E p s G L h⟩
  | update a _ f k ih => intro Q E p s G L h; exact ⟨h.1, ih () Q E p { s with heap := s.heap.update a f } G L h.2⟩
  | loadIfAlive a k ih => exact fun Q E p s G L h => ih _ Q E p s G L h
  | point _ k ih => exact fun Q E p s G L h => ih () Q E p s G L h
  | register _ _ => intro Q E p s G L h; exact h
  | alloc o k ih => exact fun Q E p s G L h => ih _ Q E p { s with heap := s.heap.push o } G L h
  | fresh k ih => exact fun Q E p s G L h => ih _ Q E p { s with toks := s.toks + 1 } G L h
  | ask k ih => exact fun Q E p s G L h => ih _ Q E p s G L h
  | choose src m k ih => intro Q E p s G L h; exact ⟨h.1, ih _ Q E p { s with drawn := s.drawn.bump src } G L h.2⟩
  | os q _ k ih => exact fun Q E p s G L h => ih _ Q E p { s with os := (Os.step s.os q).1 } G L h
  | call c hd _ _ k ih =>
    intro Q E p s G L h
    obtain ⟨r, s', hr, h⟩ := h
    obtain ⟨G1, a1, b1, _, d1⟩ := runs_lull hr rfl G L
    refine ⟨r, _, d1, ?_⟩
    exact Sem.wp_mono _ _ _ (fun a p' s2 ⟨u, q1, q2, q3, q4⟩ => ⟨u, q1, q2, b1.trans q3, q4⟩) (fun a p' s2 ⟨u, q1, q2, q3, q4⟩ => ⟨u, q1, q2, b1.trans q3, q4⟩) _ _ (ih r Q E p s' G1 a1 h)
  | handled own k ih => exact fun Q E p s G L h => ih _ Q E p s G L h
  | genState g k ih =>
    intro Q E p s G L h
    obtain ⟨st, hs, h⟩ := h
    obtain ⟨st', h1, h2⟩ := L.seen hs
    exact ⟨st', h1, by rw [h2]; exact ih st.seen Q E p s G L h⟩
  | newGen c k ih =>
    intro Q E p s G L h
    have h1 := ih _ Q E p { s with gens := s.gens.push (.fresh c) } (G.push (.fresh c)) (L.push trivial) h
    have : G.size = s.gens.size := L.sz.symm
    show wp M Γ (k G.size) _ _ p _
    rw [this]
    exact Sem.wp_mono _ _ _ (fun a p' s2 ⟨u, q1, q2, q3, q4⟩ => ⟨u, q1, q2, L.sameOn_push.trans q3, q4⟩) (fun a p' s2 ⟨u, q1, q2, q3, q4⟩ => ⟨u, q1, q2, L.sameOn_push.trans q3, q4⟩) _ _ h1
  | resume g r _ k ih =>
    intro Q E p s G L h
    obtain ⟨res, s', hw, h⟩ := h
    have key : ∃ G1, Lull S G1 s'.gens ∧ SameOn S G G1 ∧ Wakes M Γ p g r { s with gens := G } res { s' with gens := G1 } := by
      have hS : S g = false := by
        cases z : S g with
        | false => rfl
        | true =>
          obtain ⟨x, q1, q2, q3⟩ := L.on g z
          unfold Wakes at hw
          rw [q3] at hw
          cases x with
          | suspended k l c p fs cl =>
            obtain ⟨e₁, s₁, hr, _⟩ := hw
            exact absurd rfl (runs_unsup hr "")
          | _ => cases q2
      have hgg : G[g]? = s.gens[g]? := (L.off g hS).1.symm
      unfold Wakes at hw ⊢
      rw [show ({ s with gens := G } : Shared).gens[g]? = s.gens[g]? from hgg]
      split at hw
      · exact hw.elim
      · split at hw
        · obtain ⟨e₁, s₁, hr, hq, h3, h4⟩ := hw
          obtain ⟨G1, a1, b1, c1, d1⟩ := runs_lull hr rfl (G.setIfInBounds g .running) (L.set (x := .running) hS trivial)
          subst h4
          exact ⟨G1.setIfInBounds g e₁.genState, a1.set hS (cleanE_gen c1), ((SameOn.set hS).trans b1).trans (SameOn.set hS), e₁, _, d1, hq, h3, rfl⟩
        · obtain ⟨h3, h4⟩ := hw
          subst h4
          exact ⟨G, L, .refl, h3, rfl⟩
        · obtain ⟨h3, h4⟩ := hw
          subst h4
          exact ⟨G.setIfInBounds g .finished, L.set hS trivial, .set hS, h3, rfl⟩
      · rename_i k₀ l₀ c₀ p₀ fs cl hsus
        obtain ⟨e₁, s₁, hr, hq, h3, h4⟩ := hw
        have hcl : splitAtGen fs = none := (L.off g hS).2 _ (hgg.trans hsus)
        obtain ⟨G1, a1, b1, c1, d1⟩ := runs_lull hr hcl (G.setIfInBounds g .running) (L.set (x := .running) hS trivial)
        subst h4
        exact ⟨G1.setIfInBounds g e₁.genState, a1.set hS (cleanE_gen c1), ((SameOn.set hS).trans b1).trans (SameOn.set hS), e₁, _, d1, hq, h3, rfl⟩
      · obtain ⟨h3, h4⟩ := hw
        subst h4
        exact ⟨G, L, .refl, h3, rfl⟩
      · obtain ⟨h3, h4⟩ := hw
        subst h4
        exact ⟨G, L, .refl, h3, rfl⟩
    obtain ⟨G1, a1, b1, d1⟩ := key
    refine ⟨res, _, d1, ?_⟩
    exact Sem.wp_mono _ _ _ (fun a p' s2 ⟨u, q1, q2, q3, q4⟩ => ⟨u, q1, q2, b1.trans q3, q4⟩) (fun a p' s2 ⟨u, q1, q2, q3, q4⟩ => ⟨u, q1, q2, b1.trans q3, q4⟩) _ _ (ih res Q E p s' G1 a1 h)
  | yield _ _ _ _ => intro Q E p s G L h; exact h
  | stack k ih => exact fun Q E p s G L h => ih _ Q E p s G L h
  | fork _ _ => intro Q E p s G L h; exact h
  | thread k ih => exact fun Q E p s G L h => ih _ Q E p s G L h
  | await _ _ _ _ _ => intro Q E p s G L h; exact h
/-- the state with all that sleep lulled -/
def lulled (s : Shared) : Shared := { s with gens := s.gens.map lull }
/-- what runs whatever the table of generators is keeps those that sleep -/
theorem wpAny_lull {α : Type} {M : Model} {A : Around} {t : Sem α} {Q Q' : α → Shared → Prop} {E E' : Value → Shared → Prop} {s : Shared} (h : wpAny M A t Q E (lulled s))
    (hQ : ∀ (a : α) (u s' : Shared), Q a u → s' = { u with gens := s'.gens } → (AllBare u.gens → AllBare s'.gens) → (∀ (i : Nat) (x : GenState), s.gens[i]? = some x → isSusp x = true → s'.gens[i]? = some x) → Q' a s')
    (hE : ∀ (a : Value) (u s' : Shared), E a u → s' = { u with gens := s'.gens } → (AllBare u.gens → AllBare s'.gens) → (∀ (i : Nat) (x : GenState), s.gens[i]? = some x → isSusp x = true → s'.gens[i]? = some x) → E' a s') : wpAny M A t Q' E' s := by
  obtain ⟨S, L, hS⟩ := Lull.all s.gens
  have bare : ∀ {u s' : Shared}, Lull S s'.gens u.gens → AllBare u.gens → AllBare s'.gens := fun {u s'} L hb x hx => by
    obtain ⟨i, hi, e⟩ := Array.mem_iff_getElem.mp hx
    have hx' : s'.gens[i]? = some x := by rw [Array.getElem?_eq_getElem hi, e]
    cases z : S i with
    | false => exact hb x (Array.mem_of_getElem? ((L.off i z).1.trans hx'))
    | true =>
      obtain ⟨y, h1, _, h3⟩ := L.on i z
      rw [hx'] at h1
      cases h1
      rw [← lull_bare]
      exact hb _ (Array.mem_of_getElem? h3)
  intro Γ p hΓ
  have h1 := wp_lull (S := S) t _ _ p (lulled s) s.gens L (h Γ p hΓ)
  refine Sem.wp_mono _ _ _ (fun a p' s' ⟨u, q1, q2, q3, q4⟩ => hQ a u s' q1 q4 (bare q2) fun i x e z => ?_) (fun a p' s' ⟨u, q1, q2, q3, q4⟩ => hE a u s' q1 q4 (bare q2) fun i x e z => ?_) _ _ h1
  · rw [q3 i (hS i x e z)]; exact e
  · rw [q3 i (hS i x e z)]; exact e
end TL

/-! Objects that nobody tracks stand still for a while -/
namespace TL
open PySem PySem.Spec PyProof.Rows L2 Evl SlX StX C8

/-- untracked objects from L on -/
def wild (L : Nat) (h : Heap) (H : Hp) : Addr → Bool := fun b => decide (L ≤ b) && ((h.get? b).isSome && (H b).isNone)
theorem wild_iff {L : Nat} {h : Heap} {H : Hp} {b : Addr} : wild L h H b = true ↔ L ≤ b ∧ (∃ o, h.get? b = some o) ∧ H b = none := by
  unfold wild
  rw [Bool.and_eq_true, Bool.and_eq_true, decide_eq_true_eq, Option.isSome_iff_exists, Option.isNone_iff_eq_none]
theorem wild_at {L : Nat} {h : Heap} {H : Hp} {b : Addr} {u : HO} (e : H b = some u) : wild L h H b = false := by
  cases q : wild L h H b with
  | false => rfl
  | true => rw [(wild_iff.mp q).2.2] at e; cases e
theorem wild_lt {L : Nat} {h : Heap} {H : Hp} {b : Addr} (e : b < L) : wild L h H b = false := by
  cases q : wild L h H b with
  | false => rfl
  | true => exact absurd (wild_iff.mp q).1 (Nat.not_le.mpr e)
def still (R : Addr → Bool) (h : Heap) (H : Hp) : Hp := fun b => if R b = true then (h.get? b).map fun o => .frz o (.own 0) else H b
def thaw (R : Addr → Bool) (H : Hp) : Hp := fun b => if R b = true then none else H b
theorem still_on {R : Addr → Bool} {h : Heap} {H : Hp} {b : Addr} {o : Obj} (e : R b = true) (eo : h.get? b = some o) : still R h H b = some (.frz o (.own 0)) := by
  unfold still
  rw [if_pos e, eo]
  rfl
theorem still_off {R : Addr → Bool} {h : Heap} {H : Hp} {b : Addr} (e : R b = false) : still R h H b = H b := by
  unfold still
  rw [if_neg (by rw [e]; exact Bool.false_ne_true)]
theorem thaw_on {R : Addr → Bool} {H : Hp} {b : Addr} (e : R b = true) : thaw R H b = none := by
  unfold thaw
  rw [if_pos e]
theorem thaw_off {R : Addr → Bool} {H : Hp} {b : Addr} (e : R b = false) : thaw R H b = H b := by
  unfold thaw
  rw [if_neg (by rw [e]; exact Bool.false_ne_true)]
theorem still_ex {L : Nat} {h : Heap} {H : Hp} : Ex H (still (wild L h H) h H) := fun b u e => by
  rw [still_off (wild_at e)]
  exact e

section
variable {X : Cx} {pins : List (Addr × Obj)} {σ : L2.St} {H H' : Hp} {s s' : Shared} {L : Nat} {R : Addr → Bool}
/-- all that an Inv has under L -/
structure Under (X : Cx) (pins : List (Addr × Obj)) (L : Nat) : Prop where
  sz : X.s_0.heap.objs.size ≤ L
  loc : X.env.locals < L
  cell : ∀ x c, X.env.cells.lookup x = some c → c < L
  pin : ∀ p ∈ X.pn ++ pins, p.1 < L
theorem inv_under (I : Inv X pins σ H s) (h : s.heap.objs.size ≤ L) : Under X pins L where
  sz := Nat.le_trans I.sz h
  loc := Nat.lt_of_lt_of_le I.lt h
  cell := fun x c e => by
    obtain ⟨v, q⟩ := I.cell x c e
    exact Nat.lt_of_lt_of_le q.lt h
  pin := fun p hp => Nat.lt_of_lt_of_le (Heap.lt_size (I.pin p hp).1) h
theorem inv_still (I : Inv X pins σ H s) (U : Under X pins L) : Inv X pins σ (still (wild L s.heap H) s.heap H) s := by
  refine ⟨I.ok, I.os, I.bare, ⟨I.base.keep, I.base.slot, fun b o e n hx => ?_, I.base.there, fun b xs e => still_ex _ _ (I.base.tups b xs e), fun b o u e => still_ex _ _ (I.base.frzs b o u e), fun b ps e => ?_⟩, I.loc, I.cell, ?_, fun x c e => ?_, fun p hp => ?_, fun a o e => ?_, I.len⟩
  · rw [still_off (wild_lt (Nat.lt_of_lt_of_le (Heap.lt_size e) U.sz))]
    exact I.base.free b o e n hx
  · obtain ⟨more, q⟩ := I.base.tbls b ps e
    exact ⟨more, still_ex _ _ q⟩
  · rw [still_off (wild_lt U.loc)]; exact I.free
  · rw [still_off (wild_lt (U.cell x c e))]; exact I.freeC x c e
  · obtain ⟨h1, h2, h3⟩ := I.pin p hp
    exact ⟨h1, by rw [still_off (wild_lt (U.pin p hp))]; exact h2, h3⟩
  · cases q : wild L s.heap H a with
    | true =>
      obtain ⟨_, ⟨ob, eo⟩, _⟩ := wild_iff.mp q
      rw [still_on q eo] at e
      cases e
      exact ⟨eo, ob, eo⟩
    | false =>
      rw [still_off q] at e
      exact (I.hok a o e).stay (fun _ _ _ z => z) (fun d z => still_ex _ _ z) fun d xs z => still_ex _ _ z
/-- forgotten again -/
theorem inv_thaw (I : Inv X pins σ H s) (hR : ∀ b, R b = true → ∃ o, H b = some (.frz o (.own 0))) (h0 : ∀ b, R b = true → ∀ o u, X.H_0 b ≠ some (.frz o u)) : Inv X pins σ (thaw R H) s := by
  have off : ∀ {b : Addr} {u : HO}, H b = some u → (∀ o, u ≠ .frz o (.own 0)) → R b = false := fun {b u} e n => by
    cases q : R b with
    | false => rfl
    | true => obtain ⟨o, eo⟩ := hR b q; rw [e] at eo; exact absurd (Option.some.inj eo) (n o)
  have nn : ∀ {b : Addr}, H b = none → thaw R H b = none := fun {b} e => by
    cases q : R b with
    | false => rw [thaw_off q]; exact e
    | true => exact thaw_on q
  refine ⟨I.ok, I.os, I.bare, ⟨I.base.keep, I.base.slot, fun b o e n hx => nn (I.base.free b o e n hx), I.base.there, fun b xs e => ?_, fun b o u e => ?_, fun b ps e => ?_⟩, I.loc, I.cell, nn I.free, fun x c e => nn (I.freeC x c e), fun p hp => ?_, fun a o e => ?_, I.len⟩
  · have z := I.base.tups b xs e
    rw [thaw_off (off z fun _ q => by cases q)]; exact z
  · have z := I.base.frzs b o u e
    have : R b = false := by
      cases q : R b with
      | false => rfl
      | true => exact absurd e (h0 b q o u)
    rw [thaw_off this]; exact z
  · obtain ⟨more, z⟩ := I.base.tbls b ps e
    exact ⟨more, by rw [thaw_off (off z fun _ q => by cases q)]; exact z⟩
  · obtain ⟨h1, h2, h3⟩ := I.pin p hp
    exact ⟨h1, nn h2, h3⟩
  · cases q : R a with
    | true => rw [thaw_on q] at e; cases e
    | false =>
      rw [thaw_off q] at e
      exact (I.hok a o e).stay (fun _ _ _ z => z) (fun d z => by rw [thaw_off (off z fun _ q => by cases q)]; exact z) fun d xs z => by rw [thaw_off (off z fun _ q => by cases q)]; exact z
/-- the table of generators is another -/
theorem inv_gens (I : Inv X pins σ H s) (e : s' = { s with gens := s'.gens }) (hb : AllBare s'.gens) : Inv X pins σ H s' :=
  I.call' (ch := []) (by rw [e]) (by rw [e]; exact Un.refl) (by rw [e]; exact I.hok) hb fun b z => nomatch z
end

/-! ### trees -/
def isStill : HO → Bool
  | .frz _ (.own _) => true
  | _ => false
section
variable {K : PySem.W.Frag} {cl : Nat → Addr} {G G' : Hp}
/-- all but what stands still -/
def ExS (G G' : Hp) : Prop := ∀ b u, G b = some u → isStill u = false → G' b = some u
theorem sqt_s (e : ExS G G') {a : Addr} {vs : List V} (h : SqT K G a vs) : SqT K G' a vs := by
  rcases h with (h | ⟨o, h⟩) | h
  · exact .inl (.inl (e _ _ h rfl))
  · exact .inl (.inr ⟨o, e _ _ h rfl⟩)
  · exact .inr h
theorem slt_s (e : ExS G G') {a C dx : Addr} {vs : List (Option V)} (h : Slt G a C dx vs) : Slt G' a C dx vs := by
  rcases h with ⟨h, z⟩ | ⟨h1, h2⟩
  · exact .inl ⟨e _ _ h rfl, z⟩
  · exact .inr ⟨e _ _ h1 rfl, e _ _ h2 rfl⟩
mutual
theorem HD.s (e : ExS G G') : ∀ {v : V} {d : D}, HD K cl G v d → HD K cl G' v d
  | _, _, .non => .non
  | _, _, .bl b => .bl b
  | _, _, .int i => .int i
  | _, _, .str x => .str x
  | _, _, .ty n => .ty n
  | _, _, .cls c => .cls c
  | _, _, .any v => .any v
  | _, _, .tup h r => .tup (sqt_s e h) (HDs.s e r)
  | _, _, .lst h r => .lst (e _ _ h rfl) (HDs.s e r)
  | _, _, .obj c h r => .obj c (slt_s e h) (HDs.s e r)
theorem HDs.s (e : ExS G G') : ∀ {vs : List V} {ds : List D}, HDs K cl G vs ds → HDs K cl G' vs ds
  | _, _, .nil => .nil
  | _, _, .cons h r => .cons (HD.s e h) (HDs.s e r)
end
theorem thaw_exs {R : Addr → Bool} {H : Hp} (hR : ∀ b, R b = true → ∃ o, H b = some (.frz o (.own 0))) : ExS H (thaw R H) := fun b u e n => by
  cases q : R b with
  | false => rw [thaw_off q]; exact e
  | true => obtain ⟨o, eo⟩ := hR b q; rw [e] at eo; cases eo; cases n
theorem hide_exs {O : Addr → Bool} {H H' : Hp} (e : ExS H H') : ExS (hide O H) (hide O H') := fun b u q n => by
  cases h : O b with
  | true => rw [hide_on h] at q; cases q
  | false => rw [hide_at h] at q ⊢; exact e b u q n
variable {F : Fr} {O O' : Addr → Bool} {σ : L2.St} {H H' : Hp} {τ : Sta} {R : Addr → Bool}
theorem relP_thaw (hR : ∀ b, R b = true → ∃ o, H b = some (.frz o (.own 0))) {pm : PM} (r : RelP K cl F O σ H pm) : RelP K cl F O σ (thaw R H) pm := by
  have e := thaw_exs hR
  cases pm with
  | no => exact r
  | lst k ds =>
    obtain ⟨a, vs, h1, h2, h3, h4, h5, h6, h7⟩ := r
    exact ⟨a, vs, h1, h2, h3, h4, e _ _ h5 rfl, h6.s (hide_exs e), h7⟩
  | ob k c ds =>
    obtain ⟨vs, h1, h2, h3, h4, h5, h6, h7, h8⟩ := r
    exact ⟨vs, h1, h2, h3, h4, h5, slt_s e h6, ⟨h7.1, fun i d q => let ⟨v, a, b⟩ := h7.2 i d q; ⟨v, a, b.s (hide_exs e)⟩⟩, h8⟩
theorem rel_thaw (hR : ∀ b, R b = true → ∃ o, H b = some (.frz o (.own 0))) (hB : ∀ b, R b = true → F.B b = none) (hO : ∀ b, R b = true → O b = false) (r : Rel K cl F O σ H τ) : Rel K cl F O σ (thaw R H) τ := by
  have e := thaw_exs hR
  refine ⟨fun b u q => ?_, fun b hb => ?_, r.sub, fun i d q => let ⟨v, a, b⟩ := r.sl i d q; ⟨v, a, b.s (hide_exs e)⟩, r.len, relP_thaw hR r.pm⟩
  · have : R b = false := by
      cases z : R b with
      | false => rfl
      | true => rw [hB b z] at q; cases q
    rw [thaw_off this]; exact r.ex b u q
  · have : R b = false := by
      cases z : R b with
      | false => rfl
      | true => rw [hO b z] at hb; cases hb
    rw [thaw_off this]; exact r.ow b hb
end
end TL

/-! Trees: a generator's body, woken by a for of another def; one abstract heap for both -/
namespace TL
open PySem PySem.Spec PyProof.Rows L2 Evl SlX StX C8 GenW

/-- what stays through a generator's life: the def that walks it, its own frame, what it hands out, what the other is about -/
structure GL where
  X : Cx
  pins : List (Addr × Obj)
  cl : Nat → Addr
  N : List Str
  qual : Str
  scope : Scope
  f : Addr
  cd : Value
  L : Addr
  a : Addr
  g : Nat
  go : Obj
  all : List D
  C : Nat → (Addr → Bool) → L2.St → Hp → Prop
/-- when it was woken last -/
structure Gh where
  s : Shared
  H : Hp
  O : Addr → Bool
  σ : L2.St
def cutS (L : Nat) (s : Shared) : Shared := { s with heap := { s.heap with objs := s.heap.objs.extract 0 L } }
theorem get_of_objs {h h' : Heap} {b : Nat} (q : h.objs[b]? = h'.objs[b]?) : h.get? b = h'.get? b := by
  unfold Heap.get?
  rw [q]
theorem cut_lt {L : Nat} {s : Shared} {b : Nat} (h : b < L) : (cutS L s).heap.get? b = s.heap.get? b := by
  refine get_of_objs (h := (cutS L s).heap) ?_
  show (s.heap.objs.extract 0 L)[b]? = s.heap.objs[b]?
  rw [Array.getElem?_extract]
  by_cases hb : b < s.heap.objs.size
  · rw [if_pos (by omega)]; simp
  · rw [if_neg (by omega), Array.getElem?_eq_none (by omega)]
theorem cut_size {L : Nat} {s : Shared} (h : L ≤ s.heap.objs.size) : (cutS L s).heap.objs.size = L := by
  show (s.heap.objs.extract 0 L).size = L
  rw [Array.size_extract]
  omega
theorem cut_le {L : Nat} {s : Shared} : (cutS L s).heap.objs.size ≤ L := by
  show (s.heap.objs.extract 0 L).size ≤ L
  rw [Array.size_extract]
  omega
theorem cut_some {L : Nat} {s : Shared} {b : Addr} {o : Obj} (h : (cutS L s).heap.get? b = some o) : b < L ∧ s.heap.get? b = some o := by
  have h1 : b < L := Nat.lt_of_lt_of_le (Heap.lt_size h) cut_le
  exact ⟨h1, by rw [← cut_lt h1]; exact h⟩
theorem funs_cut {L : Nat} {s : Shared} {base : Heap} : ∀ {l : List Env}, s.heap.FunFrames base l → (∀ b ∈ frs l, b < L) → (cutS L s).heap.FunFrames base l
  | [], _, _ => trivial
  | env :: r, h, hb => by
    obtain ⟨hk, ⟨A, o, hf, hn, ho, hd⟩, hr⟩ := h
    refine ⟨hk, ⟨A, o, hf, hn, ?_, hd⟩, funs_cut hr fun b z => hb b ?_⟩
    · rw [cut_lt (hb A (by unfold frs; rw [List.filterMap_cons, hf]; exact List.mem_cons_self))]
      exact ho
    · unfold frs
      rw [List.filterMap_cons, hf]
      exact List.mem_cons_of_mem _ z

namespace GL
abbrev env (G : GL) : Env := envOfC G.qual G.scope G.L G.f G.cd
def cx (G : GL) (ω : Gh) : Cx where
  prog := G.X.prog
  w := G.X.w
  K := G.X.K
  mg := G.X.mg
  base := G.X.base
  A := G.X.A.in1.deeper (envOfC G.qual G.scope G.L G.f G.cd)
  N := G.N
  s_0 := cutS G.L ω.s
  H_0 := ω.H
  env := envOfC G.qual G.scope G.L G.f G.cd
  outer := G.X.stack
  stack := envOfC G.qual G.scope G.L G.f G.cd :: G.X.stack
  ex := []
  calm := true
  fn := fun _ => true
  pn := [(G.a, G.go)]
  xe := fun _ _ => False
structure Ok (G : GL) : Prop where
  kind : G.scope.kind = .function
  inj : ∀ x y c, G.env.cells.lookup x = some c → G.env.cells.lookup y = some c → x = y
  has : ∀ x, (G.env.kindOf x = some .cell ∨ G.env.kindOf x = some .free) → ∃ c, G.env.cells.lookup x = some c
  cab : ∀ x c, G.env.cells.lookup x = some c → G.L ≤ c
  hd : G.X.A.handled = none
  un : Under G.X G.pins G.L
  out : ∀ b ∈ frs G.X.stack, b < G.L
  gen : ∀ h : Heap, h.get? G.a = some G.go → h.IsGen G.a G.g
  mono : ∀ i O σ H H', G.C i O σ H → Ex H H' → G.C i O σ H'
/-- it sleeps -/
structure Lies (G : GL) (ip : List (Addr × Obj)) (σ : L2.St) (H : Hp) (s : Shared) : Prop where
  loc : ∃ m, s.heap.Ns G.L m ∧ ∀ (i : Nat) (x : Str) (v : V), G.N[i]? = some x → σ[i]? = some (some v) → Vis G.scope x → ∃ u, RelV v u ∧ Look G.env s.heap m x u
  cell : ∀ x c, G.env.cells.lookup x = some c → (∃ v, s.heap.IsCell c v) ∧ H c = none
  free : H G.L = none
  pin : ∀ p ∈ [(G.a, G.go)] ++ ip, G.L ≤ p.1 ∧ s.heap.get? p.1 = some p.2 ∧ H p.1 = none ∧ p.1 ≠ G.L ∧ p.1 ∉ frs G.X.stack ∧ ∀ v, p.2.data ≠ .cell v
  len : σ.length = G.N.length
/-- untracked objects from L on stay -/
def Link (G : GL) (H H2 : Hp) (s s2 : Shared) : Prop := ∀ b o, G.L ≤ b → H b = none → s.heap.get? b = some o → s2.heap.get? b = some o ∧ H2 b = none
section
variable {G : GL} {ip : List (Addr × Obj)} {σ σ2 : L2.St} {H H2 : Hp} {O2 : Addr → Bool} {s s2 : Shared} {ω : Gh}
theorem lies (I : Inv (G.cx ω) ip σ H s) (hp : ∀ p ∈ [(G.a, G.go)] ++ ip, G.L ≤ p.1) : G.Lies ip σ H s :=
  ⟨I.loc, fun x c e => ⟨I.cell x c e, I.freeC x c e⟩, I.free, fun p h => ⟨hp p h, I.pin p h⟩, I.len⟩
theorem Lies.size (z : G.Lies ip σ H s) (l : G.Link H H2 s s2) : G.L ≤ s2.heap.objs.size := by
  obtain ⟨m, ⟨o, es, ep, ho, r⟩, _⟩ := z.loc
  exact Nat.le_of_lt (Heap.lt_size (l G.L o (Nat.le_refl _) z.free ho).1)
theorem wake (ok : G.Ok) (z : G.Lies ip σ H s) (I : Inv G.X G.pins σ2 H2 s2) (l : G.Link H H2 s s2) : Inv (G.cx ⟨s2, H2, O2, σ2⟩) ip σ H2 s2 := by
  have hsz := z.size l
  have hs0 : (cutS G.L s2).heap.objs.size = G.L := cut_size hsz
  have isc : ∀ {x : Str} {c : Addr} {v : Option Value}, G.env.cells.lookup x = some c → s.heap.IsCell c v → s2.heap.IsCell c v := fun {x c v} e q => by
    obtain ⟨o, ho, hd⟩ := q
    exact ⟨o, (l c o (ok.cab x c e) (z.cell x c e).2 ho).1, hd⟩
  refine ⟨⟨I.ok.mod, ok.kind, rfl, rfl, cut_le, ok.inj, ok.has, fun x c _ e => Nat.le_trans cut_le (ok.cab x c e), fun _ => ok.hd, Around.frames_deeper I.ok.frames, .inr ⟨rfl, rfl⟩, (fun b h => nomatch h), fun b o e => ?_, ?_, (fun b o e h => nomatch h), (fun b h => nomatch h), funs_cut I.stack ok.out, I.stkFree⟩,
    rfl, I.bare, ⟨fun b o e _ _ _ => (cut_some e).2, fun b o e _ _ _ => ⟨o.slots, (cut_some e).2⟩, fun _ _ _ e _ => e, fun b o e _ => ⟨o, (cut_some e).2⟩, fun _ _ e => e, fun _ _ _ e => e, fun b ps e => ⟨#[], by rw [Array.append_empty]; exact e⟩⟩, ?_, fun x c e => ?_, ?_, fun x c e => ?_, fun p hp => ?_, I.hok, z.len⟩
  · have h1 := I.bs b o e
    have h2 : b < G.L := Nat.lt_of_lt_of_le (Heap.lt_size e) (Nat.le_trans I.ok.bsz ok.un.sz)
    exact ⟨(cut_lt h2).trans h1.1, h1.2⟩
  · show G.X.base.objs.size ≤ (cutS G.L s2).heap.objs.size
    rw [hs0]
    exact Nat.le_trans I.ok.bsz ok.un.sz
  · obtain ⟨m, hn, hl⟩ := z.loc
    refine ⟨m, ?_, fun i x v e1 e2 e3 => ?_⟩
    · obtain ⟨o, es, ep, ho, r⟩ := hn
      exact ⟨o, es, ep, (l G.L o (Nat.le_refl _) z.free ho).1, r⟩
    · obtain ⟨u, r, q⟩ := hl i x v e1 e2 e3
      refine ⟨u, r, ?_⟩
      rcases q with q | ⟨k, c, e, q⟩
      · exact .inl q
      · exact .inr ⟨k, c, e, isc e q⟩
  · obtain ⟨v, q⟩ := (z.cell x c e).1
    exact ⟨v, isc e q⟩
  · obtain ⟨m, ⟨o, es, ep, ho, r⟩, _⟩ := z.loc
    exact (l G.L o (Nat.le_refl _) z.free ho).2
  · obtain ⟨v, o, ho, _⟩ := (z.cell x c e).1
    exact (l c o (ok.cab x c e) (z.cell x c e).2 ho).2
  · obtain ⟨h1, h2, h3, h4, h5, h6⟩ := z.pin p hp
    obtain ⟨k1, k2⟩ := l p.1 p.2 h1 h3 h2
    exact ⟨k1, k2, h4, h5, h6⟩
theorem ok_there {P : Program} {w : World} {h : Heap} {b : Addr} : ∀ {u : HO}, ObjOk P w H h b u → ∃ o, h.get? b = some o
  | .lst _, ⟨_, _, _, _, e⟩ => ⟨_, e⟩
  | .tup _, ⟨_, _, _, ⟨o, e, _⟩⟩ => ⟨o, e⟩
  | .dK _, ⟨_, _, _, _, o, _, _, e, _⟩ => ⟨o, e⟩
  | .dT _, ⟨_, _, _, _, o, _, _, e, _⟩ => ⟨o, e⟩
  | .set _ _, ⟨o, _, _, _, e, _⟩ => ⟨o, e⟩
  | .ins _ _ _, ⟨_, _, _, e, _⟩ => ⟨_, e⟩
  | .own _, e => e
  | .xd _, ⟨_, ⟨o, _, _, e, _⟩, _⟩ => ⟨o, e⟩
  | .rng _ _, ⟨_, _, _, e⟩ => ⟨_, e⟩
  | .frz _ _, ⟨e, _⟩ => ⟨_, e⟩
  | .tbl ps, e => ⟨{ cls := .none, data := .fields ps }, e⟩
  | .met f y, e => ⟨PySem.W.methodObj (.ref f) (.ref y), e⟩
  | .ext _, ⟨_, e, _⟩ => e
/-- the other def's state while this runs -/
theorem other (ok : G.Ok) (I : Inv G.X G.pins ω.σ ω.H ω.s) (J : Inv (G.cx ω) ip σ H s) (e : Ex ω.H H) : Inv G.X G.pins ω.σ H s := by
  have hmem : ∀ b, b ∈ ((List.range ω.s.heap.objs.size).filter fun b => decide (G.L ≤ b) && (ω.H b).isNone) ↔ b < ω.s.heap.objs.size ∧ G.L ≤ b ∧ ω.H b = none := fun b => by
    rw [List.mem_filter, List.mem_range, Bool.and_eq_true, decide_eq_true_eq, Option.isNone_iff_eq_none]
  have low : ∀ {b : Addr} {o : Obj}, ω.s.heap.get? b = some o → ω.H b = none → b ∉ ((List.range ω.s.heap.objs.size).filter fun b => decide (G.L ≤ b) && (ω.H b).isNone) → b < G.L := fun {b o} q n h => by
    by_cases hl : b < G.L
    · exact hl
    · exact absurd ((hmem b).mpr ⟨Heap.lt_size q, Nat.not_lt.mp hl, n⟩) h
  refine I.call' (ch := (List.range ω.s.heap.objs.size).filter fun b => decide (G.L ≤ b) && (ω.H b).isNone) J.os ⟨fun b o q n hb hc => ?_, fun b o q n hb hc => ?_, fun b o q n hc => ?_, fun b o q hc => ?_, fun b xs q => e _ _ q, fun b o u q => e _ _ q, fun b ps q => ⟨#[], by rw [Array.append_empty]; exact e _ _ q⟩⟩ J.hok J.bare fun b hb => ?_
  · exact J.base.keep b o ((cut_lt (low q n hc)).trans q) n hb fun z => nomatch z
  · exact J.base.slot b o ((cut_lt (low q n hc)).trans q) n hb fun z => nomatch z
  · exact J.base.free b o ((cut_lt (low q n hc)).trans q) n fun z => nomatch z
  · cases n : ω.H b with
    | none => exact J.base.there b o ((cut_lt (low q n hc)).trans q) fun z => nomatch z
    | some u => exact ok_there (J.hok b u (e _ _ n))
  · obtain ⟨_, h2, _⟩ := (hmem b).mp hb
    exact ⟨.inr (Nat.le_trans ok.un.sz h2), Nat.ne_of_gt (Nat.lt_of_lt_of_le ok.un.loc h2), fun x c q => Nat.ne_of_lt (Nat.lt_of_lt_of_le (ok.un.cell x c q) h2), fun p hp => Nat.ne_of_lt (Nat.lt_of_lt_of_le (ok.un.pin p hp) h2)⟩
end

/-! ### the protocol -/
def Yp (G : GL) : Protocol := fun n _ v s kap => ∃ (i : Nat) (H : Hp) (O : Addr → Bool) (σc : L2.St) (x : V) (d : D), n + 1 + i = G.all.length ∧ Inv G.X G.pins σc H s ∧ Ow O H ∧ G.C i O σc H ∧ RelV x v ∧ G.all[i]? = some d ∧ HD G.X.K G.cl (hide O H) x d ∧ s.heap.IsGen G.a G.g ∧ (H G.a = none ∧ G.L ≤ G.a) ∧
  ∀ (s2 : Shared) (H2 : Hp) (O2 : Addr → Bool) (σ2 : L2.St), Inv G.X G.pins σ2 H2 s2 → Ow O2 H2 → G.C (i + 1) O2 σ2 H2 → Ex (hide O H) (hide O2 H2) → G.Link H H2 s s2 → kap (.send .none) s2
def Fe (G : GL) : Nat → Shared → Shared → Prop := fun _ _ s => ∃ (H : Hp) (O : Addr → Bool) (σc : L2.St), Inv G.X G.pins σc H s ∧ Ow O H ∧ G.C G.all.length O σc H
def Re (G : GL) : GenEnd := fun n s₀ r s => ((r = .ok (.ret .none) ∨ r = .ok .next) ∧ G.Fe n s₀ s) ∨ ∃ e, r = .error e ∧ False
/-- running -/
structure Iv (G : GL) (ip : List (Addr × Obj)) (i : Nat) (ω : Gh) (σ : L2.St) (H : Hp) (O : Addr → Bool) (τ : Sta) (s : Shared) : Prop where
  con : Inv G.X G.pins ω.σ ω.H ω.s
  c : G.C i ω.O ω.σ ω.H
  sz : G.L ≤ ω.s.heap.objs.size
  inv : Inv (G.cx ω) ip σ H s
  rel : Rel G.X.K G.cl ⟨ω.H, ω.O, 0, 0⟩ O σ H τ
  pm : τ.pm = .no
/-- where the code stands -/
structure At (G : GL) (A : Around) (c : Code) (fs : List Frame) (gd : Bool → Bool) : Prop where
  over : A.over c fs = G.X.A.in1.deeper G.env
  split : splitAtGen fs = none
  guard : fs.any Frame.guarded = false
  gd : gd false = false
end GL
abbrev ESG := Nat → Sta → Option (List D × Sta)
/-- a statement of a generator hands out what its evaluator says -/
structure GDS (G : GL) (st : Stmt) (eg : ESG) : Prop where
  run : ∀ (A : Around) (c : Code) (fs : List Frame) (K : Flow → Sem PySem.Fin) (J : Value → Sem PySem.Fin) (gd : Bool → Bool) (lv : List Value → List Value) (ip : List (Addr × Obj)) (n i m : Nat) (ω : Gh) (σ : L2.St) (H : Hp) (O : Addr → Bool) (τ τ' : Sta) (s₀ s : Shared) (ys : List D),
    G.At A c fs gd → (∀ p ∈ [(G.a, G.go)] ++ ip, G.L ≤ p.1) → n + i = G.all.length → eg m τ = some (ys, τ') → (∃ tl, G.all.drop i = ys ++ tl) → G.Iv ip i ω σ H O τ s →
    (∀ n' ω' σ' H' O' s₀' s', n' + (i + ys.length) = G.all.length → Ex (hide O H) (hide O' H') → G.Iv ip (i + ys.length) ω' σ' H' O' τ' s' → Seg (model G.X.prog G.X.w) A G.Re G.Yp n' s₀' c (K .next) fs s') →
    Seg (model G.X.prog G.X.w) A G.Re G.Yp n s₀ c ((exec st G.env).wrap K J gd lv) fs s
structure GDSs (G : GL) (st : List Stmt) (eg : ESG) : Prop where
  run : ∀ (A : Around) (c : Code) (fs : List Frame) (K : Flow → Sem PySem.Fin) (J : Value → Sem PySem.Fin) (gd : Bool → Bool) (lv : List Value → List Value) (ip : List (Addr × Obj)) (n i m : Nat) (ω : Gh) (σ : L2.St) (H : Hp) (O : Addr → Bool) (τ τ' : Sta) (s₀ s : Shared) (ys : List D),
    G.At A c fs gd → (∀ p ∈ [(G.a, G.go)] ++ ip, G.L ≤ p.1) → n + i = G.all.length → eg m τ = some (ys, τ') → (∃ tl, G.all.drop i = ys ++ tl) → G.Iv ip i ω σ H O τ s →
    (∀ n' ω' σ' H' O' s₀' s', n' + (i + ys.length) = G.all.length → Ex (hide O H) (hide O' H') → G.Iv ip (i + ys.length) ω' σ' H' O' τ' s' → Seg (model G.X.prog G.X.w) A G.Re G.Yp n' s₀' c (K .next) fs s') →
    Seg (model G.X.prog G.X.w) A G.Re G.Yp n s₀ c ((execs st G.env).wrap K J gd lv) fs s
def isNo : PM → Bool
  | .no => true
  | _ => false
theorem isNo_of {p : PM} (h : isNo p = true) : p = .no := by cases p <;> first | rfl | cases h
/-- hands out nothing -/
def gPlain (es : ES) : ESG := fun m τ => match es m τ with
  | some (.nx τ') => if isNo τ'.pm = true then some ([], τ') else none
  | _ => none
def gNil : ESG := fun _ τ => some ([], τ)
def gSeq (a b : ESG) : ESG := fun m τ => match a m τ with
  | some (ys, τ1) => (match b m τ1 with
    | some (zs, τ2) => some (ys ++ zs, τ2)
    | none => none)
  | none => none
def gYield (ee : EE) : ESG := fun m τ => match ee m τ with
  | some d => some ([d], τ)
  | none => none
def gForE (et : ETg) (eg : ESG) (m : Nat) : List D → Sta → Option (List D × Sta)
  | [], τ => some ([], τ)
  | d :: ds, τ => match et d τ with
    | some τ1 => if isNo τ1.pm = true then (match eg m τ1 with
      | some (ys, τ2) => (match gForE et eg m ds τ2 with
        | some (zs, τ3) => some (ys ++ zs, τ3)
        | none => none)
      | none => none) else none
    | none => none
def gFor (ei : EA) (et : ETg) (eg : ESG) : ESG := fun m τ => match ei m τ with
  | some ds => gForE et eg m ds τ
  | none => none
section
variable {G : GL} {st : Stmt} {sts : List Stmt} {es : ES} {eg eg' : ESG}
theorem gds_plain (h : ∀ ω, DS G.cl (G.cx ω) st es) : GDS G st (gPlain es) := by
  refine ⟨fun A c fs K J gd lv ip n i m ω σ H O τ τ' s₀ s ys at_ hip hn he htl I k => ?_⟩
  unfold gPlain at he
  split at he
  · rename_i τ1 e1
    split at he
    · rename_i hno
      cases he
      refine seg_wrap ?_
      rw [at_.over]
      refine wpAny_mono ((h ω).run ip s σ H { nx := fun σ' H' => ∃ O', Ex (hide O H) (hide O' H') ∧ Rel G.X.K G.cl ⟨ω.H, ω.O, 0, 0⟩ O' σ' H' τ', rt := fun _ _ => False } I.inv ⟨⟨ω.H, ω.O, 0, 0⟩, O, m, τ, _, I.rel, e1, fun O' σ' H' x rl => ⟨O', x, rl⟩⟩) (fun f s' hs => ?_) fun x s' hx => hx.elim
      cases f with
      | next =>
        obtain ⟨σ', H', I', O', x, rl⟩ := hs
        exact k n ω σ' H' O' s₀ s' hn x ⟨I.con, I.c, I.sz, I', rl, isNo_of hno⟩
      | brk => obtain ⟨_, _, _, q⟩ := hs; exact False.elim q
      | cont => obtain ⟨_, _, _, q⟩ := hs; exact False.elim q
      | ret u => obtain ⟨_, _, _, _, _, q⟩ := hs; exact False.elim q
    · cases he
  · cases he
theorem gdss_nil : GDSs G [] gNil := by
  refine ⟨fun A c fs K J gd lv ip n i m ω σ H O τ τ' s₀ s ys at_ hip hn he htl I k => ?_⟩
  cases he
  exact seg_execs_nil (k n ω σ H O s₀ s hn (Ex.refl _) I)
theorem gdss_cons (a : GDS G st eg) (b : GDSs G sts eg') : GDSs G (st :: sts) (gSeq eg eg') := by
  refine ⟨fun A c fs K J gd lv ip n i m ω σ H O τ τ' s₀ s ys at_ hip hn he htl I k => ?_⟩
  unfold gSeq at he
  split at he
  · rename_i ys1 τ1 e1
    split at he
    · rename_i ys2 τ2 e2
      cases he
      obtain ⟨tl, htl⟩ := htl
      have hd : G.all.drop (i + ys1.length) = ys2 ++ tl := by
        rw [← List.drop_drop, htl, List.append_assoc, List.drop_left]
      refine seg_execs_cons (a.run A c fs _ J gd lv ip n i m ω σ H O τ τ1 s₀ s ys1 at_ hip hn e1 ⟨ys2 ++ tl, by rw [htl, List.append_assoc]⟩ I fun n' ω' σ' H' O' s₀' s' hn' x I' => ?_)
      refine b.run A c fs K J gd lv ip n' _ m ω' σ' H' O' τ1 _ s₀' s' ys2 at_ hip hn' e2 ⟨tl, hd⟩ I' fun n2 ω2 σ2 H2 O2 s2₀ s2 hn2 x2 I2 => ?_
      have el : i + ys1.length + ys2.length = i + (ys1 ++ ys2).length := by rw [List.length_append]; omega
      rw [el] at hn2 I2
      exact k n2 ω2 σ2 H2 O2 s2₀ s2 hn2 (x.trans x2) I2
    · cases he
  · cases he
theorem gds_yield {e : Expr} {yp pos : Pos} {ee : EE} (ok : G.Ok) (he : ∀ ω, DE G.cl (G.cx ω) e ee) (hco : G.scope.isCoroutine = false := by rfl) (hi : interactive G.env = false := by rfl) : GDS G (.Expr (.Yield (some e) yp) pos) (gYield ee) := by
  refine ⟨fun A c fs K J gd lv ip n i m ω σ H O τ τ' s₀ s ys at_ hip hn hev htl I k => ?_⟩
  unfold gYield at hev
  split at hev
  · rename_i d e1
    cases hev
    obtain ⟨tl, htl⟩ := htl
    have hlt : i < G.all.length := by
      rcases Nat.lt_or_ge i G.all.length with h | h
      · exact h
      · rw [List.drop_of_length_le h] at htl; cases htl
    have hat : G.all[i]? = some d := by
      have : (G.all.drop i)[0]? = some d := by rw [htl]; rfl
      rw [List.getElem?_drop] at this
      exact this
    obtain ⟨n, rfl⟩ : ∃ q, n = q + 1 := ⟨n - 1, by omega⟩
    refine seg_Expr_Yield at_.split at_.gd at_.guard ?_ hco hi
    rw [at_.over]
    refine wpAny_mono ((he ω).run ip s σ H (fun x H1 => Ex H H1 ∧ HD G.X.K G.cl (hide O H1) x d) I.inv ⟨_, O, m, τ, d, I.rel, e1, fun H1 x z hv => ⟨z, hv⟩⟩) (fun v s' hv => ?_) fun x s' hx => hx.elim
    obtain ⟨x, H1, I1, rv, z, hd⟩ := hv
    have rl1 := I.rel.mono z
    have hO : O = ω.O := by
      funext b
      have q := rl1.pm
      rw [I.pm] at q
      cases h1 : O b with
      | true => exact (q b h1).symm
      | false =>
        cases h2 : ω.O b with
        | false => rfl
        | true =>
          have := rl1.sub b h2
          rw [h1] at this
          cases this
    subst hO
    have J1 := GL.other ok I.con I1 rl1.ex
    have z1 := GL.lies I1 hip
    intro kap hk
    refine ⟨i, H1, ω.O, ω.σ, x, d, by omega, J1, rl1.ow, ok.mono _ _ _ _ _ I.c rl1.ex, rv, hat, hd, ok.gen _ (z1.pin _ (List.mem_append_left _ (List.mem_singleton.mpr rfl))).2.1, ⟨(z1.pin _ (List.mem_append_left _ (List.mem_singleton.mpr rfl))).2.2.1, (z1.pin _ (List.mem_append_left _ (List.mem_singleton.mpr rfl))).1⟩, fun s2 H2 O2 σ2 I2 ow2 c2 x2 l2 => hk .none s2 ?_⟩
    refine k n ⟨s2, H2, O2, σ2⟩ σ H2 O2 s2 s2 (by simp; omega) ((hide_ex z).trans x2) ⟨I2, c2, z1.size l2, GL.wake ok z1 I2 l2, ⟨Ex.refl _, ow2, fun _ h => h, fun j d' q => ?_, rl1.len, ?_⟩, I.pm⟩
    · obtain ⟨v', a1, a2⟩ := rl1.sl j d' q
      exact ⟨v', a1, a2.mono x2⟩
    · rw [I.pm]; exact fun b h => h
  · cases hev
end
end TL

/-! Trees: a for in a generator's body -/
namespace TL
open PySem PySem.Spec PyProof.Rows L2 Evl SlX StX C8 GenW

section
variable {G : GL} {eg : ESG} {tg e : Expr} {b : List Stmt} {ei : EA} {et : ETg} {pos : Pos}
theorem at_loop {A : Around} {c c' : Code} {fs : List Frame} {gd : Bool → Bool} {kk : Result → Sem PySem.Fin} {l : List Value} {p : Pos} (z : G.At A c fs gd) (hw : c'.weight = 0) (hu : c'.cUnits = 0) :
    G.At A c' (.ret kk none (gd false) l c p [] :: fs) id where
  over := (over_loop hw hu).trans z.over
  split := by
    show (splitAtGen fs).map _ = none
    rw [z.split]
    rfl
  guard := by
    show (gd false || fs.any Frame.guarded) = false
    rw [z.gd, z.guard]
    rfl
  gd := rfl
theorem gds_for (ok : G.Ok) (hi : ∀ ω, DI G.cl (G.cx ω) tg e ei) (hg : ∀ ω, DG G.cl (G.cx ω) tg et) (hb : GDSs G b eg) (hs : ∀ x, foldedSetIterable e G.env x = pure x := by intro _; rfl) : GDS G (.For tg e b [] pos) (gFor ei et eg) := by
  refine ⟨fun A c fs K J gd lv ip n i m ω σ H O τ τ' s₀ s ys at_ hip hn he htl I k => ?_⟩
  unfold gFor at he
  split at he
  · rename_i ds e1
    rw [exec_For]
    refine seg_bind_wrap (wpAny_standAt ?_)
    refine seg_bind_wrap ?_
    rw [at_.over]
    refine wpAny_mono ((hi ω).run ip s σ H (fun J H1 => Ex H H1 ∧ YD G.X.K G.cl J O H1 ds) I.inv ⟨_, O, m, τ, ds, I.rel, e1, fun J H1 x yd => ⟨x, yd⟩⟩) (fun v s1 h1 => ?_) fun x s' hx => hx.elim
    refine seg_bind_wrap (wpAny_of_eq (hs v) ?_)
    refine seg_bind_wrap (wpAny_standAt ?_)
    refine seg_bind_wrap (wpAny_holding ?_)
    rw [at_.over]
    refine wpAny_mono h1 (fun itv s2 h2 => ?_) fun x s' hx => hx.elim
    obtain ⟨it, fp, tn, J', H2, eit, I2, T, st2, f2, x2, yd⟩ := h2
    subst eit
    have fpL : ∀ a ∈ fp, G.L ≤ a := fun a ha => by
      rcases (f2 a ha).2.2.2.1 with z | z
      · exact nomatch z
      · have z' : (cutS G.L ω.s).heap.objs.size ≤ a := z
        rw [cut_size I.sz] at z'
        exact z'
    have stat : ∀ {ω' : Gh} {H' : Hp}, (∀ a ∈ fp, H' a = none) → ∀ a ∈ fp, FpOk (G.cx ω') ip H' a := fun {ω' H'} hn a ha =>
      ⟨hn a ha, (f2 a ha).2.1, (f2 a ha).2.2.1, .inr (Nat.le_trans cut_le (fpL a ha)), (f2 a ha).2.2.2.2.1, (f2 a ha).2.2.2.2.2⟩
    have loop : ∀ (kk : Result → Sem PySem.Fin) (l : List Value) (p : Pos), (∀ n s₀ s, Seg (model G.X.prog G.X.w) A G.Re G.Yp n s₀ c (K .next) fs s → Seg (model G.X.prog G.X.w) A G.Re G.Yp n s₀ c (kk (.ok .next)) fs s) →
        ∀ (r j n i : Nat) (ω : Gh) (σ : L2.St) (H : Hp) (O' : Addr → Bool) (τ : Sta) (s₀ s : Shared) (ys : List D), j + r = ds.length → n + i = G.all.length → gForE et eg m (ds.drop j) τ = some (ys, τ') → (∃ tl, G.all.drop i = ys ++ tl) →
          G.Iv ip i ω σ H O' τ s → Ex (hide O H2) (hide O' H) → tn j s.heap → (∀ a ∈ fp, H a = none) →
          (∀ n' ω' σ' H' O2 s₀' s', n' + (i + ys.length) = G.all.length → Ex (hide O' H) (hide O2 H') → G.Iv ip (i + ys.length) ω' σ' H' O2 τ' s' → Seg (model G.X.prog G.X.w) A G.Re G.Yp n' s₀' c (K .next) fs s') →
          Seg (model G.X.prog G.X.w) A G.Re G.Yp n s₀ (.forLoop tg (.ref it) b [] G.env) ((model G.X.prog G.X.w).den (.forLoop tg (.ref it) b [] G.env)) (.ret kk none (gd false) l c p [] :: fs) s := by
      intro kk l p hkk r
      have al := at_loop (kk := kk) (l := l) (p := p) (c' := .forLoop tg (.ref it) b [] G.env) at_ rfl rfl
      induction r with
      | zero =>
        intro j n i ω σ H O' τ s₀ s ys hj hn he htl I hx st fr k
        have ej : j = ds.length := by omega
        subst ej
        rw [List.drop_length] at he
        cases he
        show Seg _ A _ _ _ s₀ _ ((forTurn tg (.ref it) b [] G.env).onRaise (fun x => do noteFrame x G.env; theTreesLotGoes x)) _ s
        unfold forTurn
        rw [Sem.onRaise_eq_wrap]
        refine seg_bind_wrap (wpAny_standAt ?_)
        refine seg_bind_wrap ?_
        rw [al.over]
        refine wpAny_onRaise (wpAny_mono (T.done (G.cx ω) rfl rfl rfl rfl ds.length ip s σ H (fun _ _ => False) I.inv (stat fr) st (yd O' H I.rel.ow hx).2.1) (fun r s4 hr => ?_) fun _ _ h => h.elim)
        obtain ⟨hr, I4⟩ := hr
        subst hr
        refine seg_again rfl ?_
        exact seg_leaf (.ok .next) (hkk n s₀ s4 (k n ω σ H O' s₀ s4 hn (Ex.refl _) ⟨I.con, I.c, I.sz, I4, I.rel, I.pm⟩))
      | succ r ih =>
        intro j n i ω σ H O' τ s₀ s ys hj hn he htl I hx st fr k
        have hlt : j < ds.length := by omega
        rw [List.drop_eq_getElem_cons hlt, gForE] at he
        split at he
        · rename_i τ1 e2
          split at he
          · rename_i hno
            split at he
            · rename_i ys1 τ2 e3
              split at he
              · rename_i ys2 τ3 e4
                cases he
                obtain ⟨y1, y2, y3⟩ := yd O' H I.rel.ow hx
                show Seg _ A _ _ _ s₀ _ ((forTurn tg (.ref it) b [] G.env).onRaise (fun x => do noteFrame x G.env; theTreesLotGoes x)) _ s
                unfold forTurn
                rw [Sem.onRaise_eq_wrap]
                refine seg_bind_wrap (wpAny_standAt ?_)
                refine seg_bind_wrap ?_
                rw [al.over]
                refine wpAny_onRaise (wpAny_mono (T.item (G.cx ω) rfl rfl rfl rfl j ip s σ H (fun _ _ => False) I.inv (stat fr) st (y1 j hlt)) (fun r s4 hr => ?_) fun _ _ h => h.elim)
                obtain ⟨u, hr, h4⟩ := hr
                subst hr
                refine seg_bind_wrap ?_
                rw [al.over]
                refine wpAny_mono h4 (fun _ s5 h5 => ?_) fun _ _ h => h.elim
                obtain ⟨x, H5, I5, r5, yl, st5, fr5⟩ := h5
                obtain ⟨x5, hd5⟩ := y3 j _ x H5 (List.getElem?_eq_getElem hlt) yl
                have I5' := I5.pinned (stat (ω' := ω) fr5) (T.obj _ _ st5)
                refine seg_bind_wrap ?_
                rw [al.over]
                refine wpAny_mono ((hg ω).run _ s5 σ H5 x u (fun σ' H' => ∃ O2, Ex (hide O' H5) (hide O2 H') ∧ Rel G.X.K G.cl ⟨ω.H, ω.O, 0, 0⟩ O2 σ' H' τ1) I5' r5 ⟨_, O', τ, _, τ1, I.rel.mono x5, hd5, e2, fun O2 σ2 H2 x rl => ⟨O2, x, rl⟩⟩) (fun _ s6 h6 => ?_) fun _ _ h => h.elim
                obtain ⟨σ6, H6, I6, O6, x6, rl6⟩ := h6
                rw [Sem.bind_eq_wrap', Sem.wrap_wrap]
                obtain ⟨tl, htl⟩ := htl
                refine hb.run A _ _ _ _ _ _ (ip ++ pinsAt fp s5.heap) n i m ω σ6 H6 O6 τ1 τ2 s₀ s6 ys1 al (fun q hq => ?_) hn e3 ⟨ys2 ++ tl, by rw [htl, List.append_assoc]⟩ ⟨I.con, I.c, I.sz, I6, rl6, isNo_of hno⟩ fun n' ω' σ' H' O2 s₀' s' hn' xx I' => ?_
                · rcases List.mem_append.mp hq with hq | hq
                  · exact hip q (List.mem_append_left _ hq)
                  · rcases List.mem_append.mp hq with hq | hq
                    · exact hip q (List.mem_append_right _ hq)
                    · exact fpL _ (of_pinsAt hq).1
                have pinq : ∀ a ∈ fp, ∀ o, s5.heap.get? a = some o → s'.heap.get? a = some o ∧ H' a = none := fun a ha o eo =>
                  let z := I'.inv.pin (a, o) (List.mem_append_right _ (List.mem_append_right _ (mem_pinsAt ha eo)))
                  ⟨z.1, z.2.1⟩
                have hd : G.all.drop (i + ys1.length) = ys2 ++ tl := by
                  rw [← List.drop_drop, htl, List.append_assoc, List.drop_left]
                have x2' := ((hide_ex x5).trans x6).trans xx
                refine seg_again rfl (ih (j + 1) n' (i + ys1.length) ω' σ' H' O2 τ2 s₀' s' ys2 (by omega) hn' e4 ⟨tl, hd⟩ ⟨I'.con, I'.c, I'.sz, I'.inv.unpinned, I'.rel, I'.pm⟩ (hx.trans x2')
                  (T.keep _ _ _ st5 fun a ha o eo => (pinq a ha o eo).1) (fun a ha => ?_) fun n2 ω2 σ2 H2 O3 s2₀ s2 hn2 x3 I2 => ?_)
                · obtain ⟨o, eo, _⟩ := T.obj _ _ st5 a ha
                  exact (pinq a ha o eo).2
                · have el : i + ys1.length + ys2.length = i + (ys1 ++ ys2).length := by rw [List.length_append]; omega
                  rw [el] at hn2 I2
                  exact k n2 ω2 σ2 H2 O3 s2₀ s2 hn2 (x2'.trans x3) I2
              · cases he
            · cases he
          · cases he
        · cases he
    refine seg_call fun p => ?_
    exact loop _ _ p (fun _ _ _ h => h) ds.length 0 n i ω σ H2 O τ s₀ s2 ys (by omega) hn (by rw [List.drop_zero]; exact he) htl ⟨I.con, I.c, I.sz, I2, I.rel.mono x2, I.pm⟩ (Ex.refl _) st2 (fun a ha => (f2 a ha).1) fun n' ω' σ' H' O' s₀' s' hn' x I' => k n' ω' σ' H' O' s₀' s' hn' ((hide_ex x2).trans x) I'
  · cases he
end
end TL

/-! Trees: a for over a generator that a method makes -/
namespace TL
open PySem PySem.Spec PyProof.Rows L2 Evl SlX StX C8 GenW
open Sem (wp)

/-- what is left to go -/
def goesOn (M : Model) (A : Around) (R : GenEnd) (Y : Protocol) : Nat → GenState → Resume → Shared → Prop
  | 0, _, _, _ => False
  | m + 1, now, r, s => now.Goes M A R Y m r s
section
variable {M : Model}
/-- woken, it comes to sleep again or ends -/
theorem resume_s {A : Around} {R : GenEnd} {Y : Protocol} {num : Nat} {Ex' : Value → Shared → Prop} {st : Shared} {gi : Nat} {was : GenState} {rs : Resume} {lv : List Value} {α : Type} {kon : GenResult → Sem α} {post : α → Shared → Prop}
    (at_ : st.gens[gi]? = some was) (go : was.Goes M A R Y num rs (st.setGen gi .running))
    (ends : ∀ x u, R num (st.setGen gi .running) x u → wpAny M A (kon (End.ret x).result) post Ex' (u.setGen gi .finished))
    (yields : ∀ v u now, isSusp now = true → now.bare = true → Y (num - 1) (st.setGen gi .running) v u (goesOn M A R Y num now) → wpAny M A (kon (.yielded v)) post Ex' (u.setGen gi now)) :
    wpAny M A (.resume gi rs lv kon) post Ex' st := by
  intro Γ p hΓ
  rw [Sem.wp_resume]
  have hB : ∀ c, (Γ.wake c p).Woken A := fun c => hΓ.wake c p
  have last : ∀ e1 u, SegEnd R Y num (Seg.next M A R Y num) (st.setGen gi .running) e1 u → e1.quiet = true ∧ wp M Γ (kon e1.result) (fun a _ s' => post a s') (fun e _ s' => Ex' e s') p (u.setGen gi e1.genState) := by
    intro e1 u he
    cases e1 with
    | ret x => exact ⟨rfl, ends x u he Γ p hΓ⟩
    | susp v gd l k c q fs =>
      refine ⟨he.1, yields v u _ rfl (End.bare_of_quiet he.1) ?_ Γ p hΓ⟩
      cases num with
      | zero => exact he.2
      | succ m => exact he.2
  cases was with
  | fresh c =>
    obtain ⟨er, hs⟩ := go
    subst er
    obtain ⟨e1, u, hr, he⟩ := seg_iff.mp hs (Γ.wake c p) p rfl (hB c)
    obtain ⟨hq, hw⟩ := last e1 u he
    exact ⟨_, _, by unfold Wakes; rw [at_]; exact ⟨e1, u, hr, hq, rfl, rfl⟩, hw⟩
  | suspended k l c q fs cl =>
    obtain ⟨e1, u, hr, he⟩ := seg_iff.mp go (Γ.wake c p) q rfl (hB c)
    obtain ⟨hq, hw⟩ := last e1 u he
    exact ⟨_, _, by unfold Wakes; rw [at_]; exact ⟨e1, u, hr, hq, rfl, rfl⟩, hw⟩
  | running => exact False.elim go
  | finished => exact False.elim go
end
section
variable {P : Program} {w : World} {A : Around} {Ex' : Value → Shared → Prop} {st : Shared}
theorem next_s {ad : Addr} {gi num : Nat} {was : GenState} {F : Nat → Shared → Shared → Prop} {Y : Protocol} {post : Option Value → Shared → Prop} (hh : A.handled = none) (hl : st.heap.NoLimit) (room : A.depth < recursionLimit) (hg : st.heap.IsGen ad gi) (at_ : st.gens[gi]? = some was)
    (go : was.Goes (model P w) A.in1 (fun n s₀ r u => ((r = .ok (.ret .none) ∨ r = .ok .next) ∧ F n s₀ u) ∨ ∃ e, r = .error e ∧ False) Y num (.send .none) (st.setGen gi .running))
    (yields : ∀ v u now, isSusp now = true → now.bare = true → Y (num - 1) (st.setGen gi .running) v u (goesOn (model P w) A.in1 (fun n s₀ r u => ((r = .ok (.ret .none) ∨ r = .ok .next) ∧ F n s₀ u) ∨ ∃ e, r = .error e ∧ False) Y num now) → post (some v) (u.setGen gi now))
    (ends : ∀ u, F num (st.setGen gi .running) u → ∀ h', (∀ b o, u.heap.get? b = some o → h'.get? b = some o) → post none { u.setGen gi .finished with heap := h' }) :
    wpAny (model P w) A (pyNext (.ref ad)) post Ex' st := by
  unfold pyNext
  refine wpAny_bind (wpAny_attempt (wpAny_callSpecial?_slot (name := Str.ofString "__next__") hg.typeIs slot_gen_next (wpAny_call_entry slot_gen_next hg.typeIs entry_gen_next ?_ (args_gen_next _))))
  show wpAny _ A.in1 (Builtin.Generator.genWake (.ref ad) (.send .none)) _ _ st
  unfold Builtin.Generator.genWake
  refine wpAny_bind (wpAny_holding (wpAny_genNumber hg (wpAny_bind (wpAny_genState at_ ?_))))
  cases was with
  | running => exact False.elim go
  | finished => exact False.elim go
  | _ =>
    refine wpAny_bind (wpAny_roomToWake hl room ?_)
    show wpAny _ A.in1 (.resume gi (.send .none) [] _) _ _ st
    refine resume_s at_ go (fun x u hx => ?_) (fun v u now hsu hb hv => ?_)
    · rcases hx with ⟨hr, hp⟩ | ⟨e, _, he⟩
      · have hres : End.result (.ret x) = .returned .none := by
          rcases hr with z | z <;> rw [z] <;> rfl
        first | rw [hres] | simp only [hres]
        show wpAny _ A.in1 (newExc (.type "StopIteration") [] >>= _) _ _ _
        refine wpAny_bind ?_
        simp only [newExc, newTuple]
        refine wpAny_bind (wpAny_newObj_type ?_ (by size_fits))
        refine wpAny_bind (m := firstArgMember _ _) (wpAny_of_eq (a := Value.none) (by first | rfl | (simp only [firstArgMember]; rfl)) ?_)
        refine wpAny_newObj_type ?_ (by size_fits)
        simp only [raiseNew]
        refine wpAny_bind (wpAny_bind (wpAny_handled ?_))
        first | rw [show A.in1.handled = none from hh] | rw [hh]
        refine wpAny_throw ?_
        refine wpAny_bind (wpAny_isInstance (T := "StopIteration") (b := true) ⟨_, Heap.get?_push_size _ rfl, rfl⟩ isSubtype_stop ?_)
        exact wpAny_pure (ends u hp _ fun b o hb => Heap.get?_push_of_some _ (Heap.get?_push_of_some _ hb))
      · exact he.elim
    · exact wpAny_pure ⟨v, rfl, wpAny_pure (yields v u now hsu hb hv)⟩
end
end TL

/-! Trees: a generator def called -/
namespace TL
open PySem PySem.Spec PyProof.Rows L2 Evl SlX StX C8 GenW

/-- what a generator def hands out in all -/
def mirG (N p : Nat) (eg : ESG) : Nat → List D → Option (List D) := fun n ds => if ds.length = p then (match eg n ⟨pad p N ds, .no⟩ with
  | some (ys, _) => some ys
  | none => none) else none
theorem mirG_some {N p n : Nat} {eg : ESG} {ds ys : List D} (h : mirG N p eg n ds = some ys) : ds.length = p ∧ ∃ τ', eg n ⟨pad p N ds, .no⟩ = some (ys, τ') := by
  unfold mirG at h
  split at h
  · rename_i hl
    split at h
    · rename_i zs τ' e
      cases h
      exact ⟨hl, τ', e⟩
    · cases h
  · cases h
namespace GL
/-- made, not begun -/
structure Made (G : GL) (H : Hp) (O : Addr → Bool) (s : Shared) : Prop where
  ok : G.Ok
  gen : s.heap.IsGen G.a G.g
  La : G.L ≤ G.a
  st : ∃ c, s.gens[G.g]? = some (.fresh c) ∧ ∀ (s2 : Shared) (H2 : Hp) (O2 : Addr → Bool) (σ2 : L2.St), Inv G.X G.pins σ2 H2 s2 → Ow O2 H2 → G.C 0 O2 σ2 H2 → Ex (hide O H) (hide O2 H2) → G.Link H H2 s s2 →
    Seg (model G.X.prog G.X.w) G.X.A.in1 G.Re G.Yp G.all.length s2 c ((model G.X.prog G.X.w).den c) [] s2
theorem Iv.own {G : GL} {ip : List (Addr × Obj)} {i : Nat} {ω : Gh} {σ : L2.St} {H : Hp} {O : Addr → Bool} {τ : Sta} {s : Shared} (I : G.Iv ip i ω σ H O τ s) : O = ω.O := by
  funext b
  have q := I.rel.pm
  rw [I.pm] at q
  cases h1 : O b with
  | true => exact (q b h1).symm
  | false =>
    cases h2 : ω.O b with
    | false => rfl
    | true =>
      have := I.rel.sub b h2
      rw [h1] at this
      cases this
end GL
/-- a generator def's promise to X -/
structure GenP (X : Cx) (cl : Nat → Addr) (f : Addr) (fd : FuncData) (ps : List Str) (gm : Nat → List D → Option (List D)) : Prop where
  len : ∀ n ds ys, gm n ds = some ys → ds.length = ps.length
  run : ∀ (pins : List (Addr × Obj)) (σ : L2.St) (C : Nat → (Addr → Bool) → L2.St → Hp → Prop) (s : Shared) (H : Hp) (O : Addr → Bool) (us : List Value) (vs : List V) (ds all : List D) (n : Nat) (args : Args), (∀ i O σ H H', C i O σ H → Ex H H' → C i O σ H') → Inv X pins σ H s → Ow O H →
    Vals vs us → HDs X.K cl (hide O H) vs ds → gm n ds = some all → BindsTo s fd args (ps.zip us) →
    codeAny (model X.prog X.w) X.A (.call (.ref f) args) (fun r s' => match r with
      | .ok (.ret u) => ∃ (N : List Str) (qual : Str) (scope : Scope) (f : Addr) (cd : Value) (L a : Addr) (g : Nat) (go : Obj), u = .ref a ∧ Inv X pins σ H s' ∧ GL.Made ⟨X, pins, cl, N, qual, scope, f, cd, L, a, g, go, all, C⟩ H O s'
      | _ => False) s
section
variable {X : Cx} {cl : Nat → Addr} {x qual : Str} {params : Arguments} {body : List Stmt} {scope : Scope} {f : Addr} {fd : FuncData} {N ps : List Str} {k : Nat} {eg : ESG}
theorem room_g {k : Nat} {A : Around} (r : Room (k + 1) A) (env : Env) : Room k (A.in1.deeper env) :=
  ⟨r.hd, by have := r.dp; show A.depth + 1 + 3 * k + 5 < _; omega, by have := r.un; show A.units + 1 + 3 + 16 * k + 200 < _; omega⟩
theorem genP (F : FunD X.K x qual params body scope [] [] f fd) (S : GScope N ps scope) (hr : Room (k + 1) X.A) (hp : ps.length ≤ N.length := by decide)
    (hb : ∀ pins cdv L a g go all C, Room k (X.A.in1.deeper (envOfC qual scope L f cdv)) → GL.Ok ⟨X, pins, cl, N, qual, scope, f, cdv, L, a, g, go, all, C⟩ → GDSs ⟨X, pins, cl, N, qual, scope, f, cdv, L, a, g, go, all, C⟩ body eg) :
    GenP X cl f fd ps (mirG N.length ps.length eg) := by
  obtain ⟨oc, od, dV, kV, doc, pm, an, cdv, ct, osl, rfl, lk, hcd, _, _⟩ := F.ex
  refine ⟨fun n ds ys h => (mirG_some h).1, fun pins σ C s H O us vs ds all n args mono I ow r hv hm hbi => ?_⟩
  obtain ⟨hl, τ', hev⟩ := mirG_some hm
  have hl2 : vs.length = ps.length := hv.length.trans hl
  have e0 := I.env0
  have KX : X.K.In s.heap := I.kIn
  have lim : s.heap.NoLimit := I.nolimit
  have hkind : ∀ y ∈ ps.zip us, scope.names.lookup y.1 = some .local ∨ (scope.names.lookup y.1 = some .cell ∧ ((cellsFrom (s.heap.objs.size + 1) scope.names []).lookup y.1).isSome = true) := fun ⟨m, v⟩ hy => by
    rcases S.par m (List.of_mem_zip hy).1 with q | q
    · exact .inl q
    · exact .inr ⟨q, PySem.W.cellsFrom_some _ _ _ (.inl q)⟩
  refine codeAny_call_generator hr.depth (KX _ _ lk) rfl S.co S.gen rfl (PySem.W.codeRec_of KX hcd) (hbi _ _ _ _ ?_)
  refine wpAny_newFunctionEnv_cells S.kind hkind fun env he s1 z => ?_
  subst he
  have lim1 : s1.heap.NoLimit := lim.keeps z.toInCall.keep
  refine ⟨lim1, ?_⟩
  have I1 := inv_startG (E := fun _ _ _ => False) S hr.hd e0 hl2 r z
  obtain ⟨h1, tk, es1, hk1⟩ := z.done
  have kp : ∀ b o, s.heap.get? b = some o → s1.heap.get? b = some o := z.toInCall.keep
  have lt1 : s.heap.objs.size < s1.heap.objs.size := z.toInCall.ns.lt
  have os1 : s1.os = s.os := by rw [es1]
  have gens1 : s1.gens = s.gens := by rw [es1]
  have main : ∀ (go : Obj) (nm qn : Value) (tk2 : Nat), go.cls = .type "generator" → go.data = .fields #[.int s1.gens.size 0, nm, qn] → go.slots = #[] → (∀ h : Heap, (h.push go).get? h.objs.size = some go) →
      ∃ (N' : List Str) (qual' : Str) (scope' : Scope) (f' : Addr) (cd' : Value) (L' a' : Addr) (g' : Nat) (go' : Obj), Value.ref s1.heap.objs.size = .ref a' ∧ Inv X pins σ H { s1 with gens := s1.gens.push (.fresh (.func body (envOfC qual scope s.heap.objs.size f cdv))), toks := tk2, heap := s1.heap.push go } ∧
        GL.Made ⟨X, pins, cl, N', qual', scope', f', cd', L', a', g', go', all, C⟩ H O { s1 with gens := s1.gens.push (.fresh (.func body (envOfC qual scope s.heap.objs.size f cdv))), toks := tk2, heap := s1.heap.push go } := by
    intro go nm qn tk2 hgc hgd hgs hgp
    have hpushed : (s1.heap.push go).get? s1.heap.objs.size = some go := hgp _
    have kp2 : ∀ b o, s1.heap.get? b = some o → (s1.heap.push go).get? b = some o := fun b o e => Heap.get?_push_of_some _ e
    have isg : ∀ h : Heap, h.get? s1.heap.objs.size = some go → h.IsGen s1.heap.objs.size s1.gens.size := fun h e => ⟨go, nm, qn, e, hgc, hgd, hgs⟩
    have ok : GL.Ok ⟨X, pins, cl, N, qual, scope, f, cdv, s.heap.objs.size, s1.heap.objs.size, s1.gens.size, go, all, C⟩ :=
      ⟨S.kind, I1.ok.inj, I1.ok.has, fun y c e => I1.ok.cab y c rfl e, hr.hd, inv_under I (Nat.le_refl _), fun b hb => by
        obtain ⟨_, o, ho, _⟩ := I.stack.mem hb
        exact Heap.lt_size ho, isg, mono⟩
    have lies : GL.Lies ⟨X, pins, cl, N, qual, scope, f, cdv, s.heap.objs.size, s1.heap.objs.size, s1.gens.size, go, all, C⟩ [] (start N vs) H { s1 with gens := s1.gens.push (.fresh (.func body (envOfC qual scope s.heap.objs.size f cdv))), toks := tk2, heap := s1.heap.push go } := by
      refine ⟨?_, fun y c e => ⟨?_, I1.freeC y c e⟩, I1.free, fun p hp => ?_, I1.len⟩
      · obtain ⟨m, hn, hl⟩ := I1.loc
        refine ⟨m, hn.push _, fun i y v e1 e2 e3 => ?_⟩
        obtain ⟨u, ru, q⟩ := hl i y v e1 e2 e3
        refine ⟨u, ru, ?_⟩
        rcases q with q | ⟨kd, c, e, o, ho, hd⟩
        · exact .inl q
        · exact .inr ⟨kd, c, e, o, kp2 _ _ ho, hd⟩
      · obtain ⟨v, o, ho, hd⟩ := I1.cell y c e
        exact ⟨v, o, kp2 _ _ ho, hd⟩
      · have ep : p = (s1.heap.objs.size, go) := by
          rcases List.mem_append.mp hp with q | q
          · exact List.mem_singleton.mp q
          · cases q
        subst ep
        exact ⟨Nat.le_of_lt lt1, hpushed, I1.hok.fresh (Nat.le_refl _), Nat.ne_of_gt lt1, I1.nofs (Nat.le_refl _), fun v q => by rw [hgd] at q; cases q⟩
    refine ⟨N, qual, scope, f, cdv, s.heap.objs.size, s1.heap.objs.size, s1.gens.size, go, rfl, ?_, ok, isg _ hpushed, Nat.le_of_lt lt1, _, Array.getElem?_push_size .., fun s2 H2 O2 σ2 I2 ow2 c2 x2 l2 => ?_⟩
    · exact I.call' (ch := []) os1 (Un.kept fun b o e => kp2 b o (kp b o e)) (I.hok.kept fun b o e => kp2 b o (kp b o e)) (AllBare.push (by rw [gens1]; exact I.bare) rfl) fun b q => nomatch q
    · have J := GL.wake (O2 := O2) ok lies I2 l2
      refine seg_func ?_
      refine (hb pins cdv _ _ _ go all C (room_g hr _) ok).run X.A.in1 _ [] _ _ id id [] all.length 0 n ⟨s2, H2, O2, σ2⟩ (start N vs) H2 O2 _ _ s2 s2 all ⟨over_func, rfl, rfl, rfl⟩ (fun p hp => (lies.pin p hp).1) (Nat.add_zero _) hev ⟨[], by simp⟩
        ⟨I2, c2, lies.size l2, J, ⟨Ex.refl _, ow2, fun _ h => h, fun i d e => ?_, ?_, fun _ h => h⟩, rfl⟩ fun n' ω' σ' H' O' s₀' s' hn' xx I' => ?_
      · obtain ⟨v, q1, q2⟩ := hv.at_ (i := i) (d := d) (k := N.length - ps.length) e (N.length - vs.length)
        exact ⟨v, q1, q2.mono x2⟩
      · show (pad ps.length N.length ds).length = (start N vs).length
        simp [pad, L2.start, hl, hl2]
      · have eO := I'.own
        subst eO
        refine seg_end (.ok (.ret .none)) (.inl ⟨.inl rfl, H', ω'.O, ω'.σ, GL.other ok I'.con I'.inv I'.rel.ex, I'.rel.ow, ?_⟩)
        have c' := mono _ _ _ _ _ I'.c I'.rel.ex
        rw [Nat.zero_add] at c'
        exact c'
  exact main { cls := .type "generator", data := .fields #[.int s1.gens.size 0, .str x s1.toks, .str qual (s1.toks + 1)] } _ _ (s1.toks + 1 + 1) rfl rfl rfl fun h => Heap.get?_push_size h rfl
end
end TL

/-! Trees: for over a generator that a method makes -/
namespace TL
open PySem PySem.Spec PyProof.Rows L2 Evl SlX StX C8 GenW

/-- the items of o.m(..), a generator -/
def eGen (c : Nat) (gm : Nat → List D → Option (List D)) (eo : EE) (ea : EA) : EA := fun n τ => match eo n τ with
  | some (.obj c' ds) => if c' = c then (match ea n τ with
    | some as => gm n (.obj c' ds :: as)
    | none => none) else none
  | _ => none
theorem eGen_some {c n : Nat} {gm : Nat → List D → Option (List D)} {eo : EE} {ea : EA} {τ : Sta} {all : List D} (h : eGen c gm eo ea n τ = some all) : ∃ ds as, eo n τ = some (.obj c ds) ∧ ea n τ = some as ∧ gm n (.obj c ds :: as) = some all := by
  unfold eGen at h
  split at h
  · rename_i c' ds e1
    split at h
    · rename_i ec
      subst ec
      split at h
      · rename_i as e2
        exact ⟨ds, as, e1, e2, h⟩
      · cases h
    · cases h
  · cases h
/-- the state of the walking def ahead of turn i -/
def atTurn (X : Cx) (cl : Nat → Addr) (F : Fr) (E : Ends) (et : ETg) (es : ES) (n : Nat) (all : List D) (r : Out) : Nat → (Addr → Bool) → L2.St → Hp → Prop := fun i O σ H => ∃ τ, Rel X.K cl F O σ H τ ∧ forE et es n (all.drop i) τ = some r ∧ Post X.K cl F O H E r
section
variable {cl : Nat → Addr} {X : Cx} {tg o e : Expr} {args : List Expr} {b : List Stmt} {eo : EE} {ea : EA} {et : ETg} {es : ES} {m : Str} {c k : Nat} {gf : Addr} {fd : FuncData} {ps : List Str} {gm : Nat → List D → Option (List D)} {apos cpos pos : Pos} {pl : Sem Bool}
theorem ds_forG (hx : ∀ e s, X.xe e s → False) (hS : SCls X.K (cl c)) (hM : Meth X.K (cl c) m gf) (hG : GenP X cl gf fd ps gm) (hbi : Binds X.K fd ps []) (hr : Room k X.A) (ho : DE cl X o eo) (ha : DA cl X (e :: args) ea) (hg : DG cl X tg et) (hb : DSs cl X b es)
    (hs : ∀ x, foldedSetIterable (.Call (.Attribute o m apos) (e :: args) [] cpos) X.env x = pure x := by intro _; rfl)
    (hst : starEach (e :: args) X.env = (false, eval e X.env) :: starEach args X.env := by rfl) (hpl : (backTo cpos (starEach args X.env)).any (·.1) = false := by rfl)
    (ht : eval (.Call (.Attribute o m apos) (e :: args) [] cpos) X.env = (do
      let ov ← eval o X.env
      standAt apos.atName
      let (f, first) ← holding [ov] (getMethod ov m pl)
      callWith cpos f first (backTo cpos (starEach (e :: args) X.env)) (backToKw cpos (keywordEach [] X.env))) := by rfl) :
    DS cl X (.For tg (.Call (.Attribute o m apos) (e :: args) [] cpos) b [] pos) (sFor (eGen c gm eo ea) et es) := by
  refine ⟨fun pins s σ H E I h => ?_⟩
  obtain ⟨F, O, n, τ, r, rl, h, q⟩ := h
  unfold sFor at h
  split at h
  · rename_i all e1
    obtain ⟨dso, as, eo1, ea1, eg1⟩ := eGen_some e1
    have mono : ∀ (i : Nat) (O : Addr → Bool) (σ : L2.St) (H H' : Hp), atTurn X cl F E et es n all r i O σ H → Ex H H' → atTurn X cl F E et es n all r i O σ H' := fun i O σ H H' ⟨τ, a1, a2, a3⟩ x => ⟨τ, a1.mono x, a2, a3.trans (hide_ex x)⟩
    refine wpAny_For ?_ hs
    refine PySem.W.methodCall_KW (pl := pl) (wpAny_mono (ho.run pins s σ H (fun v H1 => Ex H H1 ∧ HD X.K cl (hide O H1) v (.obj c dso)) I ⟨F, O, n, τ, _, rl, eo1, fun H1 v x hv => ⟨x, hv⟩⟩) (fun u s1 h1 => ?_) fun x s' hxx => (hx _ _ hxx).elim) ht
    obtain ⟨xv, H1, I1, rx, x1, hv⟩ := h1
    have hv' := hv
    cases hv with
    | obj _ hsl hrs =>
      rename_i a dx vs
      obtain rfl : u = Value.ref a := rx
      refine getmethsl_ok I1 (slt_mono hide_le hsl) hS hM ?_
      refine PySem.W.callWith_K (first := [.ref a]) (h₀ := X.base) I.ok.mod.kin hM.kp (wpAny_mono (ha.run cpos pins s1 σ H1 (fun ws H2 => Ex H1 H2 ∧ HDs X.K cl (hide O H2) ws as) I1 ⟨F, O, n, τ, as, rl.mono x1, ea1, fun H2 ws x hw => ⟨x, hw⟩⟩) (fun us s2 h2 => ?_) fun x s' hxx => (hx _ _ hxx).elim) hst hpl
      obtain ⟨ws, H2, I2, rws, x2, hws⟩ := h2
      have rl2 := (rl.mono x1).mono x2
      have hall : HDs X.K cl (hide O H2) (.ref a :: ws) (.obj c dso :: as) := .cons (hv'.mono (hide_ex x2)) hws
      have rv : Vals (.ref a :: ws) (.ref a :: us) := .cons rfl rws
      have hlen : (Value.ref a :: us).length = ps.length := by rw [← rv.length, hall.length]; exact hG.len _ _ _ eg1
      have hbind := hbi s2 (.ref a :: us) I2.kIn (by rw [List.append_nil]; exact hlen)
      rw [List.append_nil] at hbind
      refine ⟨I2.kIn, wpAny_call (codeAny_mono (hG.run pins σ (atTurn X cl F E et es n all r) s2 H2 O (.ref a :: us) (.ref a :: ws) (.obj c dso :: as) all n _ mono I2 rl2.ow rv hall eg1 hbind) fun rr s3 hq => ?_)⟩
      cases rr with
      | error e => exact False.elim hq
      | ok fl =>
        cases fl with
        | next => exact False.elim hq
        | brk => exact False.elim hq
        | cont => exact False.elim hq
        | ret u =>
          obtain ⟨N, qual, scope, f, cd, L, ga, g, go, rfl, I3, made⟩ := hq
          have hok := made.ok
          refine wpAny_pyIter_gen made.gen ?_
          -- the loop
          let G : GL := ⟨X, pins, cl, N, qual, scope, f, cd, L, ga, g, go, all, atTurn X cl F E et es n all r⟩
          have hLa : L ≤ ga := made.La
          refine codeAny_forLoop_any (fun k s => ∃ (H : Hp) (σ : L2.St) (gs : GenState), Inv X pins σ H s ∧ s.heap.IsGen ga g ∧ s.gens[g]? = some gs ∧ gs.Goes (model X.prog X.w) X.A.in1 G.Re G.Yp k (.send .none) (s.setGen g .running)) ?_ all.length ?_
          · rintro kk s ⟨H4, σ4, gs, I4, hgen, hgs, goes⟩
            have hgl : g < s.gens.size := (Array.getElem?_eq_some_iff.mp hgs).1
            refine wpAny_gsz (n := g + 1) hgl (next_s (F := G.Fe) hok.hd I4.nolimit hr.depth hgen hgs goes (fun v u now hsu hbare y => ?_) fun u hF h' hk => ?_)
            · intro hsz
              obtain ⟨i, H5, O5, σ5, x, d, hn, I5, ow5, ⟨τ5, rl5, hfor, q5⟩, rv5, hat, hd5, hgen5, ⟨ha0, _⟩, hkap⟩ := y
              have hsz1 : g < u.gens.size := by
                have z : (u.setGen g now).gens.size = u.gens.size := setGen_size _ _ _
                have hsz' : g + 1 ≤ (u.setGen g now).gens.size := hsz
                omega
              have hnow : (u.setGen g now).gens[g]? = some now := setGen_at hsz1
              have I6 : Inv X pins σ5 H5 (u.setGen g now) := inv_gens I5 rfl (allBare_setGen I5.bare hbare)
              obtain ⟨og, nm, qn, hog, hoc, hod, hos⟩ := id hgen5
              refine go_of (s := u.setGen g now) hog hoc hod rfl ?_
              -- lulled, still
              have lullI : ∀ {σ : L2.St} {H : Hp} {t : Shared}, Inv X pins σ H t → Inv X pins σ H (lulled t) := fun {σ H t} J => inv_gens J rfl fun y hy => by
                obtain ⟨z, hz, ez⟩ := Array.mem_map.mp (show y ∈ t.gens.map lull from hy)
                rw [← ez, lull_bare]
                exact J.bare z hz
              have S5 : Inv X pins σ5 (still (wild L u.heap H5) u.heap H5) (lulled (u.setGen g now)) := inv_still (s := lulled (u.setGen g now)) (L := L) (lullI I6) hok.un
              have hlt : i < all.length := by
                rcases Nat.lt_or_ge i all.length with z | z
                · exact z
                · rw [List.getElem?_eq_none z] at hat; cases hat
              have hdrop : all.drop i = d :: all.drop (i + 1) := by
                rw [List.drop_eq_getElem_cons hlt]
                rw [List.getElem?_eq_getElem hlt] at hat
                cases hat
                rfl
              rw [hdrop] at hfor
              obtain ⟨τ6, r6, et6, es6, hP⟩ := forE_post (cl := cl) (K := X.K) (F := F) (E := E) hfor
              have x5 : Ex H5 (still (wild L u.heap H5) u.heap H5) := still_ex
              refine wpAny_lull (wpAny_mono (hg.run pins _ σ5 _ x v (fun σ' H' => ∃ O', Ex (hide O5 (still (wild L u.heap H5) u.heap H5)) (hide O' H') ∧ Rel X.K cl F O' σ' H' τ6) S5 rv5 ⟨F, O5, τ5, d, τ6, rl5.mono x5, hd5.mono (hide_ex x5), et6, fun O' σ' H' x rl => ⟨O', x, rl⟩⟩) (fun _ _ z => z) fun _ _ z => z) (fun _ u7 s7 h7 es7 hb7 hk7 => ?_) fun _ _ _ z => (hx _ _ z).elim
              obtain ⟨σ7, H7, I7, O7, x7, rl7⟩ := h7
              have I7' : Inv X pins σ7 H7 s7 := inv_gens I7 es7 (hb7 I7.bare)
              have hnow7 : s7.gens[g]? = some now := hk7 g now hnow hsu
              refine wpAny_lull (wpAny_mono (hb.run pins _ σ7 H7 { E with
                  nx := fun σ' H' => ∃ O' τ', Ex (hide O7 H7) (hide O' H') ∧ Rel X.K cl F O' σ' H' τ' ∧ forE et es n (all.drop (i + 1)) τ' = some r, ct := fun σ' H' => ∃ O' τ', Ex (hide O7 H7) (hide O' H') ∧ Rel X.K cl F O' σ' H' τ' ∧ forE et es n (all.drop (i + 1)) τ' = some r, bk := E.nx } (lullI I7')
                ⟨F, O7, n, τ6, r6, rl7, es6, hP O7 H7 _ (q5.trans ((hide_ex x5).trans x7)) fun τ2 O' σ' H' hf xx rl' => ⟨O', τ2, xx, rl', hf⟩⟩) (fun _ _ z => z) fun _ _ z => z) (fun fl u8 s8 h8 es8 hb8 hk8 => ?_) fun _ _ _ z => (hx _ _ z).elim
              have again : ∀ {σ8 : L2.St} {H8 : Hp}, Inv X pins σ8 H8 u8 → (∃ O' τ', Ex (hide O7 H7) (hide O' H8) ∧ Rel X.K cl F O' σ8 H8 τ' ∧ forE et es n (all.drop (i + 1)) τ' = some r) →
                  ∃ m, m < kk ∧ ∃ (H : Hp) (σ : L2.St) (gs : GenState), Inv X pins σ H s8 ∧ s8.heap.IsGen ga g ∧ s8.gens[g]? = some gs ∧ gs.Goes (model X.prog X.w) X.A.in1 G.Re G.Yp m (.send .none) (s8.setGen g .running) := by
                rintro σ8 H8 I8 ⟨O8, τ8, x8, rl8, hf8⟩
                have I8' : Inv X pins σ8 H8 s8 := inv_gens I8 es8 (hb8 I8.bare)
                have hnow8 : s8.gens[g]? = some now := hk8 g now hnow7 hsu
                have x58 := x7.trans x8
                have onR : ∀ b, wild L u.heap H5 b = true → ∃ ob, u.heap.get? b = some ob ∧ hide O8 H8 b = some (.frz ob (.own 0)) := fun b hb => by
                  obtain ⟨_, ⟨ob, eo⟩, hn5⟩ := wild_iff.mp hb
                  have h5 : O5 b = false := ow5.new hn5
                  exact ⟨ob, eo, x58 b _ (by rw [hide_at h5]; exact still_on hb eo)⟩
                have hR : ∀ b, wild L u.heap H5 b = true → ∃ ob, H8 b = some (.frz ob (.own 0)) := fun b hb => by
                  obtain ⟨ob, _, q⟩ := onR b hb
                  exact ⟨ob, hide_le _ _ q⟩
                have hRO : ∀ b, wild L u.heap H5 b = true → O8 b = false := fun b hb => by
                  obtain ⟨ob, _, q⟩ := onR b hb
                  cases z : O8 b with
                  | false => rfl
                  | true => rw [hide_on z] at q; cases q
                have T8 : Inv X pins σ8 (thaw (wild L u.heap H5) H8) s8 := inv_thaw I8' hR fun b hb ob uo e0 => by
                  have z := I5.base.frzs b ob uo e0
                  rw [(wild_iff.mp hb).2.2] at z
                  cases z
                have rt8 : Rel X.K cl F O8 σ8 (thaw (wild L u.heap H5) H8) τ8 := rel_thaw hR (fun b hb => by
                  cases z : F.B b with
                  | none => rfl
                  | some w' =>
                    have := rl5.ex b w' z
                    rw [(wild_iff.mp hb).2.2] at this
                    cases this) hRO rl8
                have xT : Ex (hide O5 H5) (hide O8 (thaw (wild L u.heap H5) H8)) := fun b w' hbw => by
                  have h1 := x58 b w' (hide_ex x5 b w' hbw)
                  have h2 : wild L u.heap H5 b = false := wild_at (hide_le _ _ hbw)
                  cases z : O8 b with
                  | true => rw [hide_on z] at h1; cases h1
                  | false =>
                    rw [hide_at z] at h1 ⊢
                    rw [thaw_off h2]; exact h1
                have link : G.Link H5 (thaw (wild L u.heap H5) H8) u s8 := fun b ob hLb hn5 hob => by
                  have hb : wild L u.heap H5 b = true := wild_iff.mpr ⟨hLb, ⟨ob, hob⟩, hn5⟩
                  obtain ⟨ob', eo', q⟩ := onR b hb
                  rw [hob] at eo'
                  cases eo'
                  exact ⟨(I8'.hok b _ (hide_le _ _ q)).1, thaw_on hb⟩
                have go8 := hkap (s8.setGen g .running) (thaw (wild L u.heap H5) H8) O8 σ8 (inv_gens T8 rfl (allBare_setGen T8.bare rfl)) rt8.ow ⟨τ8, rt8, hf8, q5.trans xT⟩ xT link
                cases kk with
                | zero => exact False.elim go8
                | succ mm =>
                  refine ⟨mm, Nat.lt_succ_self mm, _, σ8, now, T8, ?_, hnow8, go8⟩
                  exact ⟨og, nm, qn, (link ga og hLa ha0 hog).1, hoc, hod, hos⟩
              cases fl with
              | next => obtain ⟨σ8, H8, I8, q8⟩ := h8; exact again I8 q8
              | cont => obtain ⟨σ8, H8, I8, q8⟩ := h8; exact again I8 q8
              | brk => obtain ⟨σ8, H8, I8, q8⟩ := h8; exact ⟨σ8, H8, inv_gens I8 es8 (hb8 I8.bare), q8⟩
              | ret v => obtain ⟨x8, σ8, H8, I8, r8, q8⟩ := h8; exact ⟨x8, σ8, H8, inv_gens I8 es8 (hb8 I8.bare), r8, q8⟩
            · intro _
              obtain ⟨H5, O5, σ5, I5, ow5, τ5, rl5, hfor, q5⟩ := hF
              have hfor' : forE et es n [] τ5 = some r := by rw [← hfor]; congr 1; exact (List.drop_length (l := all)).symm
              cases hfor'
              refine wpAny_execs_nil ⟨σ5, H5, ?_, q5 O5 σ5 H5 (Ex.refl _) rl5⟩
              exact inv_gens (I5.kept (h' := h') (t' := u.toks) hk) rfl (allBare_setGen (s := { u with heap := h' }) I5.bare rfl)
          · obtain ⟨c', hc', hst'⟩ := made.st
            refine ⟨H2, σ, .fresh c', I3, made.gen, hc', rfl, ?_⟩
            exact hst' (s3.setGen g .running) H2 O σ (inv_gens I3 rfl (allBare_setGen I3.bare rfl)) rl2.ow ⟨τ, rl2, by rw [List.drop_zero]; exact h, q.trans ((hide_ex x1).trans (hide_ex x2))⟩ (Ex.refl _) fun b ob _ hb hob => ⟨hob, hb⟩
  · cases h
/-- a generator method of the class numbered c -/
structure GenD (X : Cx) (cl : Nat → Addr) (c : Nat) (m : Str) (gm : Nat → List D → Option (List D)) : Prop where
  ex : ∃ gf fd ps, SCls X.K (cl c) ∧ Meth X.K (cl c) m gf ∧ GenP X cl gf fd ps gm ∧ Binds X.K fd ps []
theorem ds_forGD (hx : ∀ e s, X.xe e s → False) (hG : GenD X cl c m gm) (hr : Room k X.A) (ho : DE cl X o eo) (ha : DA cl X (e :: args) ea) (hg : DG cl X tg et) (hb : DSs cl X b es)
    (hs : ∀ x, foldedSetIterable (.Call (.Attribute o m apos) (e :: args) [] cpos) X.env x = pure x := by intro _; rfl)
    (hst : starEach (e :: args) X.env = (false, eval e X.env) :: starEach args X.env := by rfl) (hpl : (backTo cpos (starEach args X.env)).any (·.1) = false := by rfl)
    (ht : eval (.Call (.Attribute o m apos) (e :: args) [] cpos) X.env = (do
      let ov ← eval o X.env
      standAt apos.atName
      let (f, first) ← holding [ov] (getMethod ov m pl)
      callWith cpos f first (backTo cpos (starEach (e :: args) X.env)) (backToKw cpos (keywordEach [] X.env))) := by rfl) :
    DS cl X (.For tg (.Call (.Attribute o m apos) (e :: args) [] cpos) b [] pos) (sFor (eGen c gm eo ea) et es) := by
  obtain ⟨gf, fd, ps, h1, h2, h3, h4⟩ := hG.ex
  exact ds_forG (pl := pl) hx h1 h2 h3 h4 hr ho ha hg hb hs hst hpl ht
end
end TL

namespace TL
open PySem PySem.Spec PyProof.Rows L2 Evl SlX StX C8
section
variable {P : Program} {w : World} {K : PySem.W.Frag} {mg : Str → Option Value} {base : Heap}
abbrev N_Weights_starts : List Str := ["self", "most", "table", "ends", "x", "y", "side", "slope", "line", "z", "spot"]
abbrev P_Weights_starts : List Str := ["self", "most"]
theorem sc_Weights_starts : GScope N_Weights_starts P_Weights_starts (defScope s_Weights_starts) := ⟨rfl, rfl, rfl, by decide +kernel, rfl, by decide +kernel, by decide +kernel⟩
def e_Weights_starts : ESG := (gSeq (gPlain (sPar 2 3 (aCons (eUn (fFld l_own_table) (eVar 0)) (aCons (eLc (eItems (eC k_SPOTS)) (etName 10) bYes (eMeth 7 m_Weights_most_at (eVar 0) (aCons (eVar 10) (aCons (eVar 1) aNil))) [10]) aNil)))) (gSeq (gFor (eRange2 (aCons (eUn fNeg (eBin fIx (eVar 3) (eC (.int 0)))) (aCons (eBin fAdd (eBin fIx (eVar 3) (eC (.int 0))) (eC (.int 1))) aNil))) (etName 4) (gSeq (gFor (eRange2 (aCons (eUn fNeg (eBin fIx (eVar 3) (eC (.int 1)))) (aCons (eBin fAdd (eBin fIx (eVar 3) (eC (.int 1))) (eC (.int 1))) aNil))) (etName 5) (gSeq (gPlain (sAsg (eBin fAdd (eBin fAdd (eBin fMul (eBin fMul (eBin fDiv (eBin fIx (eBin fIx (eVar 2) (eC (.int 0))) (eC (.int 0))) (eC (.int 2))) (eVar 4)) (eVar 4)) (eBin fMul (eBin fMul (eBin fIx (eBin fIx (eVar 2) (eC (.int 0))) (eC (.int 1))) (eVar 4)) (eVar 5))) (eBin fMul (eBin fMul (eBin fDiv (eBin fIx (eBin fIx (eVar 2) (eC (.int 1))) (eC (.int 1))) (eC (.int 2))) (eVar 5)) (eVar 5))) (etName 6))) (gSeq (gPlain (sPar 7 8 (aCons (eBin fAdd (eBin fMul (eBin fIx (eBin fIx (eVar 2) (eC (.int 0))) (eC (.int 2))) (eVar 4)) (eBin fMul (eBin fIx (eBin fIx (eVar 2) (eC (.int 1))) (eC (.int 2))) (eVar 5))) (aCons (eBin fAdd (eBin fMul (eBin fIx (eBin fIx (eVar 2) (eC (.int 0))) (eC (.int 3))) (eVar 4)) (eBin fMul (eBin fIx (eBin fIx (eVar 2) (eC (.int 1))) (eC (.int 3))) (eVar 5))) aNil)))) (gSeq (gFor (eRange2 (aCons (eUn fNeg (eBin fIx (eVar 3) (eC (.int 2)))) (aCons (eBin fAdd (eBin fIx (eVar 3) (eC (.int 2))) (eC (.int 1))) aNil))) (etName 9) (gSeq (gYield (eTup (aCons (eTup (aCons (eVar 4) (aCons (eVar 5) (aCons (eVar 9) aNil)))) (aCons (eBin fAdd (eBin fAdd (eVar 6) (eBin fMul (eVar 7) (eVar 9))) (eBin fMul (eBin fMul (eBin fDiv (eBin fIx (eBin fIx (eVar 2) (eC (.int 2))) (eC (.int 2))) (eC (.int 2))) (eVar 9)) (eVar 9))) (aCons (eBin fAdd (eVar 8) (eBin fMul (eBin fIx (eBin fIx (eVar 2) (eC (.int 2))) (eC (.int 3))) (eVar 9))) aNil))))) gNil)) gNil)))) gNil)) gNil))
def m_Weights_starts : Nat → List D → Option (List D) := mirG N_Weights_starts.length P_Weights_starts.length e_Weights_starts
theorem t_Weights_starts {X : Cx} (T : Tx X.K X.mg) (hr : Room 2 X.A) : GenD X (clK X.K) 7 "starts" m_Weights_starts := by
  obtain ⟨fd, F⟩ := T.fn_Weights_starts
  refine ⟨_, fd, P_Weights_starts, T.cls_7, T.me_Weights_starts, genP F sc_Weights_starts hr (by decide) fun pins cdv L a g go all C hr ok => ?_, FunD.bindsN F (fun _ _ _ _ _ _ us hl => match us, hl with | [_, _], _ => rfl)⟩
  exact (gdss_cons (gds_plain (fun _ => (ds_par (i := 2) (j := 3) rfl sc_Weights_starts.nd rfl rfl (by decide) rfl rfl (da_cons (d_fld T.s_own_table (dv 0)) (da_cons (d_lc (own := [("spot", 10)]) rfl sc_Weights_starts.nd (di_seq (d_gl T.k_SPOTS)) (blkOk_by rfl) gok_name (fun _ _ _ _ _ => (gname 10 sc_Weights_starts.nd)) (fun _ _ _ _ _ => dts_nil) (fun _ _ _ _ _ => (d_meth (t_Weights_most_at T) hr (dv 0) (da_cons (dv 10) (da_cons (dv 1) da_nil))))) da_nil)) (by rfl)))) (gdss_cons (gds_for ok (fun _ => (di_range2 T.b_range (da_cons (d_neg (d_ix (dv 3) d_int)) (da_cons (d_add (d_ix (dv 3) d_int) d_int) da_nil)))) (fun _ => (dg_name 4 sc_Weights_starts.nd)) (gdss_cons (gds_for ok (fun _ => (di_range2 T.b_range (da_cons (d_neg (d_ix (dv 3) d_int)) (da_cons (d_add (d_ix (dv 3) d_int) d_int) da_nil)))) (fun _ => (dg_name 5 sc_Weights_starts.nd)) (gdss_cons (gds_plain (fun _ => (ds_asg (d_add (d_add (d_mul (d_mul (d_fdiv (d_ix (d_ix (dv 2) d_int) d_int) d_int) (dv 4)) (dv 4)) (d_mul (d_mul (d_ix (d_ix (dv 2) d_int) d_int) (dv 4)) (dv 5))) (d_mul (d_mul (d_fdiv (d_ix (d_ix (dv 2) d_int) d_int) d_int) (dv 5)) (dv 5))) (dg_name 6 sc_Weights_starts.nd)))) (gdss_cons (gds_plain (fun _ => (ds_par (i := 7) (j := 8) rfl sc_Weights_starts.nd rfl rfl (by decide) rfl rfl (da_cons (d_add (d_mul (d_ix (d_ix (dv 2) d_int) d_int) (dv 4)) (d_mul (d_ix (d_ix (dv 2) d_int) d_int) (dv 5))) (da_cons (d_add (d_mul (d_ix (d_ix (dv 2) d_int) d_int) (dv 4)) (d_mul (d_ix (d_ix (dv 2) d_int) d_int) (dv 5))) da_nil)) (by rfl)))) (gdss_cons (gds_for ok (fun _ => (di_range2 T.b_range (da_cons (d_neg (d_ix (dv 3) d_int)) (da_cons (d_add (d_ix (dv 3) d_int) d_int) da_nil)))) (fun _ => (dg_name 9 sc_Weights_starts.nd)) (gdss_cons (gds_yield ok (fun _ => (d_tup (da_cons (d_tup (da_cons (dv 4) (da_cons (dv 5) (da_cons (dv 9) da_nil)))) (da_cons (d_add (d_add (dv 6) (d_mul (dv 7) (dv 9))) (d_mul (d_mul (d_fdiv (d_ix (d_ix (dv 2) d_int) d_int) d_int) (dv 9)) (dv 9))) (da_cons (d_add (dv 8) (d_mul (d_ix (d_ix (dv 2) d_int) d_int) (dv 9))) da_nil)))))) gdss_nil)) gdss_nil)))) gdss_nil)) gdss_nil))
abbrev N_Weights_sums_with : List Str := ["self", "many", "lead", "found", "start", "side", "line", "part", "root", "tops", "top"]
abbrev P_Weights_sums_with : List Str := ["self", "many"]
theorem sc_Weights_sums_with : FnScope N_Weights_sums_with P_Weights_sums_with (defScope s_Weights_sums_with) := ⟨rfl, rfl, rfl, by decide +kernel, rfl, by decide +kernel, by decide +kernel⟩
def e_Weights_sums_with : ES := (sSeq (sParNew 2 3 (eBin fDiv (eBin fIx (eBin fIx (eUn (fFld l_own_table) (eVar 0)) (eC (.int 3))) (eC (.int 3))) (eC (.int 2)))) (sSeq (sFor (eGen 7 m_Weights_starts (eVar 0) (aCons (eVar 1) aNil)) (etTup 3 (etCons (etName 4) (etCons (etName 5) (etCons (etName 6) etNil)))) (sSeq (sAsg (eBin fSub (eBin fMul (eVar 6) (eVar 6)) (eBin fMul (eBin fMul (eC (.int 4)) (eVar 2)) (eBin fSub (eVar 5) (eVar 1)))) (etName 7)) (sSeq (sAsg (eB fIsqrt (aCons (eB fMax2 (aCons (eC (.int 0)) (aCons (eVar 7) aNil))) aNil)) (etName 8)) (sIf (bOf (eBin fEq (eBin fMul (eVar 8) (eVar 8)) (eVar 7))) (sSeq (sAsg (eIf (bOf (eBin fGt (eVar 8) (eC (.int 0)))) (eLst (aCons (eBin fSub (eUn fNeg (eVar 6)) (eVar 8)) (aCons (eBin fAdd (eUn fNeg (eVar 6)) (eVar 8)) aNil))) (eLst (aCons (eUn fNeg (eVar 6)) aNil))) (etName 9)) (sExt 3 (eLc (eItems (eVar 9)) (etName 10) (bOf (eBin fEq (eBin fMod (eVar 10) (eBin fMul (eC (.int 2)) (eVar 2))) (eC (.int 0)))) (eTup (aStar (eVar 4) (aCons (eBin fDiv (eVar 10) (eBin fMul (eC (.int 2)) (eVar 2))) aNil))) [10]))) sNx)))) (sRetP 3)))
def m_Weights_sums_with : Nat → List D → Option D := mir N_Weights_sums_with.length P_Weights_sums_with.length e_Weights_sums_with
theorem o_Weights_sums_with (T : Tx K mg) : ∃ fd, FnOk P w K mg base L2.CX0 3 (a_Weights_sums_with K) fd P_Weights_sums_with (spD K (clK K) m_Weights_sums_with) ∧ L2.FunD K "sums_with" q_Weights_sums_with (defArgs s_Weights_sums_with) (defBody s_Weights_sums_with) (defScope s_Weights_sums_with) [] [] (a_Weights_sums_with K) fd := by
  obtain ⟨fd, F⟩ := T.fn_Weights_sums_with
  refine ⟨fd, fn_tree F sc_Weights_sums_with (by decide) fun cdv A outer s H E hr => ?_, F⟩
  exact (dss_cons (ds_parNew (i := 2) (k := 3) rfl sc_Weights_sums_with.nd (d_fdiv (d_ix (d_ix (d_fld T.s_own_table (dv 0)) d_int) d_int) d_int)) (dss_cons (ds_forGD (fun _ _ h => h) (t_Weights_starts T (hr.mono (by decide))) hr (dv 0) (da_cons (dv 1) da_nil) (dg_tup rfl (dgs_cons (dg_name 4 sc_Weights_sums_with.nd) (dgs_cons (dg_name 5 sc_Weights_sums_with.nd) (dgs_cons (dg_name 6 sc_Weights_sums_with.nd) dgs_nil)))) (dss_cons (ds_asg (d_sub (d_mul (dv 6) (dv 6)) (d_mul (d_mul d_int (dv 2)) (d_sub (dv 5) (dv 1)))) (dg_name 7 sc_Weights_sums_with.nd)) (dss_cons (ds_asg (d_cf cr_isqrt fc_isqrt T.b_isqrt (da_cons (d_cb (call_max2 rfl) fc_max2 T.b_max (da_cons d_int (da_cons (dv 7) da_nil))) da_nil)) (dg_name 8 sc_Weights_sums_with.nd)) (dss_one (ds_if (dt_cmp (op_eqD hr.units) fd_eq (d_mul (dv 8) (dv 8)) (dv 7)) (dss_cons (ds_asg (d_if (dt_cmp op_gt (fd_I0 fun _ _ _ => .bl _) (dv 8) d_int) (d_lst (da_cons (d_sub (d_neg (dv 6)) (dv 8)) (da_cons (d_add (d_neg (dv 6)) (dv 8)) da_nil))) (d_lst (da_cons (d_neg (dv 6)) da_nil))) (dg_name 9 sc_Weights_sums_with.nd)) (dss_one (ds_ext (pv 3) (d_lc (own := [("top", 10)]) rfl sc_Weights_sums_with.nd (di_seq (dv 9)) (blkOk_by rfl) gok_name (fun _ _ _ _ _ => (gname 10 sc_Weights_sums_with.nd)) (fun _ _ _ _ _ => (dts_one (dt_cmp (op_eqD hr.units) fd_eq (d_mod (dv 10) (d_mul d_int (dv 2))) d_int))) (fun _ _ _ _ _ => (d_tup (da_star (dv 4) (da_cons (d_fdiv (dv 10) (d_mul d_int (dv 2))) da_nil)))))))) dss_nil))))) (dss_one (ds_retP (pv 3)))))
theorem t_Weights_sums_with (T : Tx K mg) : MetD P w K (clK K) mg base 3 7 "sums_with" m_Weights_sums_with := by
  obtain ⟨fd, G, F⟩ := o_Weights_sums_with (P := P) (w := w) (base := base) T
  exact metD T.cls_7 T.me_Weights_sums_with G (FunD.bindsN F (fun _ _ _ _ _ _ us hl => match us, hl with | [_, _], _ => rfl))
end
end TL

/-! Trees: a list comprehension with three clauses -/
namespace TL
open PySem PySem.Spec PyProof.Rows L2 Evl SlX StX C8 GenW

section
variable (elt t0 i0 t1 i1 t2 i2 : Expr) (scope : Scope) (pos : Pos)
abbrev lc3X : Expr := .ListComp elt [⟨t0, i0, [], 0⟩, ⟨t1, i1, [], 0⟩, ⟨t2, i2, [], 0⟩] scope pos
/-- the next clause's own loop, then the turn again -/
def restIn (e : Expr) (dep : Nat) (iter : Expr) (it acc : Value) (env : Env) : Sem PySem.Fin := do
  let x ← eval iter env
  standAt iter.pos
  let y ← foldedSetIterable iter env x
  let _ ← runOwn (.compStart e (dep + 1) (← holding [y] (pyIter y)) acc env) env
  again (.compLoop e dep it acc env)
def restOut (e elt : Expr) (dep : Nat) (it acc : Value) (env : Env) : Sem PySem.Fin := do
  (do let _ ← call (.builtin "list.append") [acc, ← eval elt env] : Sem Unit)
  again (.compLoop e dep it acc env)
def turnOf (tg : Expr) (p0 : Pos) (it : Value) (env : Env) (rest : Sem PySem.Fin) : Sem PySem.Fin := do
  standAt p0
  match ← pyNext it with
  | none => pure (.done .next)
  | some v =>
    letOwnedTupleGo tg it v
    assign tg env v
    rest
theorem turn3_0 (it acc : Value) (env : Env) : compTurn (lc3X elt t0 i0 t1 i1 t2 i2 scope pos) 0 it acc env = turnOf t0 i0.pos it env (restIn (lc3X elt t0 i0 t1 i1 t2 i2 scope pos) 0 i1 it acc env) := by rfl
theorem turn3_1 (it acc : Value) (env : Env) : compTurn (lc3X elt t0 i0 t1 i1 t2 i2 scope pos) 1 it acc env = turnOf t1 i1.pos it env (restIn (lc3X elt t0 i0 t1 i1 t2 i2 scope pos) 1 i2 it acc env) := by rfl
theorem turn3_2 (it acc : Value) (env : Env) : compTurn (lc3X elt t0 i0 t1 i1 t2 i2 scope pos) 2 it acc env = turnOf t2 i2.pos it env (restOut (lc3X elt t0 i0 t1 i1 t2 i2 scope pos) elt 2 it acc env) := by rfl
end
section
variable {prog : Program} {w : World} {A : Around} {R : Result → Shared → Prop} {s : Shared} {elt t0 i0 t1 i1 t2 i2 : Expr} {scope : Scope} {pos : Pos} {it acc : Value} {env : Env}
theorem begin3 {dep : Nat} (hd : dep = 0 ∨ dep = 1 ∨ dep = 2) (h0 : codeAny (model prog w) A (.compLoop (lc3X elt t0 i0 t1 i1 t2 i2 scope pos) dep it acc env) R s)
    (h : wpAny (model prog w) A (pyIter it) (fun it' s' => codeAny (model prog w) A (.compLoop (lc3X elt t0 i0 t1 i1 t2 i2 scope pos) dep it' acc env) R s') (notedBy (model prog w) A env fun x s' => R (.error x) s') s) :
    codeAny (model prog w) A (.compStart (lc3X elt t0 i0 t1 i1 t2 i2 scope pos) dep it acc env) R s := by
  refine codeAny_of_tree ?_
  show wpAny _ _ ((compStart (lc3X elt t0 i0 t1 i1 t2 i2 scope pos) dep it acc env).onRaise (fun x => do noteFrame x env; standAt theWindowsPlace)) _ _ s
  refine wpAny_notedAt ?_
  unfold compStart
  rcases hd with rfl | rfl | rfl <;>
  · show wpAny _ _ (ask >>= _) _ _ s
    refine wpAny_bind (wpAny_askSetting (wpAny_ite ?_))
    split
    · first
        | exact wpAny_bind (wpAny_pure (wpAny_pure (And.intro rfl h0)))
        | exact wpAny_pure (And.intro rfl h0)
    · refine wpAny_bind (wpAny_rule ?_)
      first
        | exact wpAny_bind (wpAny_standAt (wpAny_bind (wpAny_mono h (fun it' s' h' => wpAny_pure (And.intro rfl h')) fun _ _ x => x)))
        | (show wpAny _ _ (standAt _ >>= _) _ _ s; exact wpAny_bind (wpAny_standAt (wpAny_bind (wpAny_mono h (fun it' s' h' => wpAny_pure (And.intro rfl h')) fun _ _ x => x))))
end
/-- amid a comprehension's block: the list at A holds acc -/
def BSt (Y : Cx) (cl : Nat → Addr) (F : Fr) (O : Addr → Bool) (A : Addr) (pins : List (Addr × Obj)) (τ : Sta) (acc : List D) (G0 : Hp) (s : Shared) : Prop :=
  ∃ (σ : L2.St) (H : Hp) (vs : List V), Inv Y pins σ H s ∧ Rel Y.K cl F O σ H τ ∧ H A = some (.lst vs) ∧ HDs Y.K cl (hide O H) vs acc ∧ Ex (hide O G0) (hide O H)
section
variable {Y : Cx} {cl : Nat → Addr} {F : Fr} {O : Addr → Bool} {A : Addr} {et : ETg} {eg : ESG} {g : TG} {vs : List Nat} {e tg : Expr} {dep : Nat} {p0 : Pos} {it : Addr} {rest : Sem PySem.Fin} {fp : List Addr} {tn : Nat → Heap → Prop} {J : It}
/-- what a turn's rest does -/
def RestOk (Y : Cx) (cl : Nat → Addr) (F : Fr) (O : Addr → Bool) (A : Addr) (again : Code) (rest : Sem PySem.Fin) (eg : ESG) : Prop :=
  ∀ (pins : List (Addr × Obj)) (τ τ' : Sta) (acc ys : List D) (G0 : Hp) (s : Shared) (m : Nat), eg m τ = some (ys, τ') → acc.length + ys.length ≤ 100000 → BSt Y cl F O A pins τ acc G0 s →
    wpAny (model Y.prog Y.w) Y.A rest (fun fin s' => fin = .again again ∧ BSt Y cl F O A pins τ' (acc ++ ys) G0 s') (fun _ _ => False) s
theorem comp_loop (T : Turn Y.prog Y.w Y.K tg J fp it tn) (hc : Y.calm = true) (hx : ∀ e s, Y.xe e s → False) (hg : PG Y tg g) (hgo : GOk Y.K cl g et vs) (hun : Y.A.under (.compLoop e dep (.ref it) (.ref A) Y.env) = Y.A) (hden : (model Y.prog Y.w).den (.compLoop e dep (.ref it) (.ref A) Y.env) = (compTurn e dep (.ref it) (.ref A) Y.env).onRaise (fun x => do noteFrame x Y.env; theTreesLotGoes x)) (turn : compTurn e dep (.ref it) (.ref A) Y.env = turnOf tg p0 (.ref it) Y.env rest)
    (hrest : RestOk Y cl F O A (.compLoop e dep (.ref it) (.ref A) Y.env) rest eg) {pins : List (Addr × Obj)} (stat : ∀ {H' : Hp}, (∀ b ∈ fp, H' b = none) → ∀ b ∈ fp, FpOk Y pins H' b)
    {ds ys acc : List D} {H1 G0 : Hp} (yd : YD Y.K cl J O H1 ds) {m : Nat} {τ τ' : Sta} (he : gForE et eg m ds τ = some (ys, τ')) (hlen : acc.length + ys.length ≤ 100000) {σ : L2.St} {H : Hp} {us : List V} {s : Shared}
    (I : Inv Y pins σ H s) (rl : Rel Y.K cl F O σ H τ) (hA : H A = some (.lst us)) (hd : HDs Y.K cl (hide O H) us acc) (x0 : Ex (hide O G0) (hide O H)) (x1 : Ex (hide O H1) (hide O H)) (st : tn 0 s.heap) (fr : ∀ b ∈ fp, H b = none) :
    codeAny (model Y.prog Y.w) Y.A (.compLoop e dep (.ref it) (.ref A) Y.env) (fun r s' => match r with
      | .ok _ => BSt Y cl F O A pins τ' (acc ++ ys) G0 s'
      | .error _ => False) s := by
  refine codeAny_loop rfl (fun k s => ∃ (j : Nat) (σ : L2.St) (H : Hp) (us : List V) (acc' ys' : List D) (τ1 : Sta), k = ds.length - j ∧ j ≤ ds.length ∧ Inv Y pins σ H s ∧ Rel Y.K cl F O σ H τ1 ∧ H A = some (.lst us) ∧ HDs Y.K cl (hide O H) us acc' ∧ Ex (hide O G0) (hide O H) ∧ Ex (hide O H1) (hide O H) ∧
    tn j s.heap ∧ (∀ b ∈ fp, H b = none) ∧ gForE et eg m (ds.drop j) τ1 = some (ys', τ') ∧ acc' ++ ys' = acc ++ ys) ?_ ds.length ⟨0, σ, H, us, acc, ys, τ, rfl, Nat.zero_le _, I, rl, hA, hd, x0, x1, st, fr, by rw [List.drop_zero]; exact he, rfl⟩
  rintro k s ⟨j, σ, H, us, acc', ys', τ1, rfl, hj, I, rl, hA, hd, x0, x1, st, fr, he, eacc⟩
  rw [hun, hden]
  refine wpAny_noted ?_
  rw [turn]
  unfold turnOf
  obtain ⟨y1, y2, y3⟩ := yd O H rl.ow x1
  by_cases hlt : j < ds.length
  · rw [List.drop_eq_getElem_cons hlt, gForE] at he
    split at he
    · rename_i τ2 e2
      split at he
      · split at he
        · rename_i ys1 τ3 e3
          split at he
          · rename_i ys2 τ4 e4
            cases he
            refine wpAny_bind (wpAny_standAt (wpAny_bind (thnF (T.item Y rfl rfl rfl hc j pins s σ H (fun _ _ => False) I (stat fr) st (y1 j hlt)) fun r s1 hr => ?_)))
            obtain ⟨u, hr, h1⟩ := hr
            subst hr
            refine wpAny_bind (thnF (wpAny_mono h1 (fun _ _ z => z) fun _ _ z => z) fun _ s2 h2 => ?_)
            obtain ⟨x, H2, I2, r2, yl, st2, fr2⟩ := h2
            obtain ⟨x2, hd2⟩ := y3 j _ x H2 (List.getElem?_eq_getElem hlt) yl
            have I2' := I2.pinned (stat fr2) (T.obj _ _ st2)
            refine wpAny_bind (wpAny_mono (hg.run _ s2 σ H2 x u (fun σ' H' => H' = H2 ∧ Rel Y.K cl F O σ' H2 τ2) I2' r2 (hgo F O σ H2 τ1 τ2 x _ _ (rl.mono x2) hd2 e2 fun σ' rl' _ => ⟨rfl, rl'⟩)) (fun _ s3 h3 => ?_) fun e s z => (hx _ _ z).elim)
            obtain ⟨σ3, H3, I3, eH, rl3⟩ := h3
            subst eH
            have l1 : acc'.length + ys1.length ≤ 100000 := by
              have z := congrArg List.length eacc
              simp only [List.length_append] at z
              omega
            refine thnF (hrest _ τ2 τ3 acc' ys1 H3 s3 m e3 l1 ⟨σ3, H3, us, I3, rl3, x2 _ _ hA, hd.mono (hide_ex x2), Ex.refl _⟩) fun fin s4 h4 => ?_
            obtain ⟨ef, σ4, H4, us4, I4, rl4, hA4, hd4, x4⟩ := h4
            subst ef
            have pinq : ∀ a ∈ fp, ∀ o, s2.heap.get? a = some o → s4.heap.get? a = some o ∧ H4 a = none := fun a ha o eo =>
              let z := I4.pin (a, o) (List.mem_append_right _ (List.mem_append_right _ (mem_pinsAt ha eo)))
              ⟨z.1, z.2.1⟩
            have x24 := (hide_ex (O := O) x2).trans x4
            refine ⟨rfl, ds.length - (j + 1), by omega, j + 1, σ4, H4, us4, acc' ++ ys1, ys2, τ3, rfl, hlt, I4.unpinned, rl4, hA4, hd4, x0.trans x24, x1.trans x24, T.keep _ _ _ st2 fun a ha o eo => (pinq a ha o eo).1, fun a ha => ?_, e4, by rw [← eacc, List.append_assoc]⟩
            obtain ⟨o, eo, _⟩ := T.obj _ _ st2 a ha
            exact (pinq a ha o eo).2
          · cases he
        · cases he
      · cases he
    · cases he
  · have ej : j = ds.length := by omega
    subst ej
    rw [List.drop_length] at he
    cases he
    refine wpAny_bind (wpAny_standAt (wpAny_bind (thnF (T.done Y rfl rfl rfl hc ds.length pins s σ H (fun _ _ => False) I (stat fr) st y2) fun r s1 hr => ?_)))
    obtain ⟨hr, I1⟩ := hr
    subst hr
    refine wpAny_pure ⟨σ, H, us, I1, rl, hA, ?_, x0⟩
    rw [← eacc, List.append_nil]
    exact hd
theorem rest_out {elt : Expr} {ee : EE} {itv : Value} (hx : ∀ e s, Y.xe e s → False) (he : DE cl Y elt ee) (oA : O A = true) (bA : F.B A = none) (hpm : ∀ b, O b = true → F.O0 b = true) :
    RestOk Y cl F O A (.compLoop e dep itv (.ref A) Y.env) (restOut e elt dep itv (.ref A) Y.env) (gYield ee) := by
  intro pins τ τ' acc ys G0 s m hev hlen h
  obtain ⟨σ, H, us, I, rl, hA, hd, x0⟩ := h
  unfold gYield at hev
  split at hev
  · rename_i d e1
    cases hev
    unfold restOut
    refine wpAny_bind (wpAny_bind (wpAny_mono (he.run pins s σ H (fun v H1 => Ex H H1 ∧ HD Y.K cl (hide O H1) v d) I ⟨F, O, m, τ, d, rl, e1, fun H1 v x hv => ⟨x, hv⟩⟩) (fun u s1 h1 => ?_) fun e s z => (hx _ _ z).elim))
    obtain ⟨v, H1, I1, r1, x1, hv⟩ := h1
    have hA1 := x1 _ _ hA
    have rl1 := rl.mono x1
    have hl : us.length < sizeLine := by
      rw [hd.length]
      refine sz_of ?_
      simp at hlen
      omega
    refine wpAny_bind (app_ok I1 hA1 hl r1 fun s2 I2 => wpAny_pure (wpAny_pure ⟨rfl, σ, _, _, I2, ?_, upd_same, ?_, ?_⟩))
    · have hm : hide O (upd H1 A (.lst (us ++ [v]))) = hide O H1 := hide_upd oA
      refine ⟨rl1.ex.mut bA, fun b hb => ?_, rl1.sub, fun i d' q => by rw [hm]; exact rl1.sl i d' q, rl1.len, ?_⟩
      · by_cases hbA : b = A
        · rw [hbA, upd_same]; exact fun z => nomatch z
        · rw [upd_ne hbA]; exact rl1.ow b hb
      · have z := rl1.pm
        revert z
        cases τ.pm with
        | no => exact fun z => z
        | lst k ds =>
          rintro ⟨a, vs, q1, q2, q3, q4, _⟩
          rw [hpm a q4] at q3
          cases q3
        | ob k c ds =>
          rintro ⟨vs, q1, q2, q3, q4, _⟩
          rw [hpm _ q4.1] at q3
          cases q3.1
    · rw [hide_upd oA]
      exact (hd.mono (hide_ex x1)).append (.cons hv .nil)
    · rw [hide_upd oA]
      exact x0.trans (hide_ex x1)
  · cases hev
end
section
variable {Y : Cx} {cl : Nat → Addr} {F : Fr} {O : Addr → Bool} {A : Addr} {et : ETg} {eg : ESG} {g : TG} {vs : List Nat} {elt t0 i0 t1 i1 t2 i2 iter tg : Expr} {scope : Scope} {pos p0 : Pos} {ei : EA} {dep : Nat} {itv : Value}
theorem rest_in {rst : Addr → Sem PySem.Fin} (hd : dep = 0 ∨ dep = 1) (hc : Y.calm = true) (hx : ∀ e s, Y.xe e s → False) (hi : DI cl Y tg iter ei) (hg : PG Y tg g) (hgo : GOk Y.K cl g et vs) (hs : ∀ x, foldedSetIterable iter Y.env x = pure x)
    (turn : ∀ it : Addr, compTurn (lc3X elt t0 i0 t1 i1 t2 i2 scope pos) (dep + 1) (.ref it) (.ref A) Y.env = turnOf tg p0 (.ref it) Y.env (rst it))
    (hrest : ∀ it : Addr, RestOk Y cl F O A (.compLoop (lc3X elt t0 i0 t1 i1 t2 i2 scope pos) (dep + 1) (.ref it) (.ref A) Y.env) (rst it) eg) :
    RestOk Y cl F O A (.compLoop (lc3X elt t0 i0 t1 i1 t2 i2 scope pos) dep itv (.ref A) Y.env) (restIn (lc3X elt t0 i0 t1 i1 t2 i2 scope pos) dep iter itv (.ref A) Y.env) (gFor ei et eg) := by
  intro pins τ τ' acc ys G0 s m hev hlen h
  obtain ⟨σ, H, us, I, rl, hA, hds, x0⟩ := h
  unfold gFor at hev
  split at hev
  · rename_i ds e1
    unfold restIn
    refine wpAny_bind (wpAny_mono (hi.run pins s σ H (fun J H1 => Ex H H1 ∧ YD Y.K cl J O H1 ds) I ⟨F, O, m, τ, ds, rl, e1, fun J H1 x yd => ⟨x, yd⟩⟩) (fun v s1 h1 => ?_) fun e s z => (hx _ _ z).elim)
    refine wpAny_bind (wpAny_standAt (wpAny_bind (wpAny_of_eq (hs v) (wpAny_bind (wpAny_holding (wpAny_mono h1 (fun itv2 s2 h2 => ?_) fun e s z => (hx _ _ z).elim))))))
    obtain ⟨it, fp, tn, J, H2, eit, I2, T, st2, f2, x2, yd⟩ := h2
    subst eit
    refine wpAny_bind (wpAny_runOwn ?_)
    rw [Around.mark_none]
    have loop := comp_loop (e := lc3X elt t0 i0 t1 i1 t2 i2 scope pos) T hc hx hg hgo rfl rfl (turn it) (hrest it) (pins := pins) (fun {H'} hn b hb => ⟨hn b hb, (f2 b hb).2⟩) (G0 := G0) (acc := acc) yd hev hlen I2 (rl.mono x2) (x2 _ _ hA) (hds.mono (hide_ex x2)) (x0.trans (hide_ex x2)) (Ex.refl _) st2 fun b hb => (f2 b hb).1
    refine codeAny_mono (begin3 (by omega) loop (T.self Y.A 0 _ _ _ st2 loop)) fun r s' hr => ?_
    cases r with
    | ok f =>
      first
        | exact wpAny_pure ⟨rfl, hr⟩
        | exact wpAny_bind (wpAny_pure (wpAny_pure ⟨rfl, hr⟩))
    | error e => exact hr.elim
  · cases hev
end
def eLc3 (ei : EA) (et : ETg) (eg : ESG) (vs : List Nat) : EE := fun n τ => match ei n τ with
  | some ds => (match gForE et eg n ds ⟨wipeD τ.sl vs, .no⟩ with
    | some (ys, _) => if ys.length ≤ 100000 then some (.lst ys) else none
    | none => none)
  | none => none
section
variable {X : Cx} {cl : Nat → Addr} {et0 et1 et2 : ETg} {g0 g1 g2 : TG} {vs1 vs2 : List Nat} {elt t0 i0 t1 i1 t2 i2 : Expr} {scope : Scope} {own : List (Str × Nat)} {pos : Pos} {ei ei1 ei2 : EA} {ee : EE}
theorem d_lc3 (hc : X.calm = true) (hN : X.N.Nodup) (hi : DI cl X t0 i0 ei) (ok : BlkOk X.N X.env.scope scope own) (hgo0 : GOk X.K cl g0 et0 (own.map (·.2))) (hgo1 : GOk X.K cl g1 et1 vs1) (hgo2 : GOk X.K cl g2 et2 vs2)
    (hg0 : ∀ (s : Shared) (H : Hp) (C : Addr) (cl' : List (Str × Addr)) (fp : List Addr), PG (X.blk s H scope (compEnvC scope cl' C X.env) fp) t0 g0)
    (hi1 : ∀ (s : Shared) (H : Hp) (C : Addr) (cl' : List (Str × Addr)) (fp : List Addr), DI cl (X.blk s H scope (compEnvC scope cl' C X.env) fp) t1 i1 ei1)
    (hg1 : ∀ (s : Shared) (H : Hp) (C : Addr) (cl' : List (Str × Addr)) (fp : List Addr), PG (X.blk s H scope (compEnvC scope cl' C X.env) fp) t1 g1)
    (hi2 : ∀ (s : Shared) (H : Hp) (C : Addr) (cl' : List (Str × Addr)) (fp : List Addr), DI cl (X.blk s H scope (compEnvC scope cl' C X.env) fp) t2 i2 ei2)
    (hg2 : ∀ (s : Shared) (H : Hp) (C : Addr) (cl' : List (Str × Addr)) (fp : List Addr), PG (X.blk s H scope (compEnvC scope cl' C X.env) fp) t2 g2)
    (he : ∀ (s : Shared) (H : Hp) (C : Addr) (cl' : List (Str × Addr)) (fp : List Addr), DE cl (X.blk s H scope (compEnvC scope cl' C X.env) fp) elt ee)
    (hs0 : ∀ x, foldedSetIterable i0 X.env x = pure x := by intro _; rfl) (hs1 : ∀ env x, foldedSetIterable i1 env x = pure x := by intro _ _; rfl) (hs2 : ∀ env x, foldedSetIterable i2 env x = pure x := by intro _ _; rfl) :
    DE cl X (lc3X elt t0 i0 t1 i1 t2 i2 scope pos) (eLc3 ei et0 (gFor ei1 et1 (gFor ei2 et2 (gYield ee))) (own.map (·.2))) := by
  refine ⟨fun pins s σ H Q I h => ?_⟩
  obtain ⟨F, O, n, τ, d, rl, h, q⟩ := h
  unfold eLc3 at h
  split at h
  · rename_i ds e1
    split at h
    · rename_i ys τ' e2
      split at h
      · rename_i hlen
        cases h
        rw [eval_ListComp]
        have hfree : ∀ y ∈ scope.names, y.2 = .free → ∃ c, X.env.cells.lookup y.1 = some c := fun y hy e => (ok.free y hy e).elim (fun z => I.ok.has _ (.inl z)) fun z => I.ok.has _ (.inr z)
        refine wpAny_comprehension_free rfl hs0 (closure_ok hfree) ok.kind (fun y hy e => by rw [ok.uniq y hy, e])
          (thn (hi.run pins s σ H (fun J H1 => Ex H H1 ∧ YD X.K cl J O H1 ds) I ⟨F, O, n, τ, ds, rl, e1, fun J H1 x yd => ⟨x, yd⟩⟩) fun xv s1 hx => thn hx fun itv s2 h2 => ?_)
        obtain ⟨it, fp, tn, J, H2, eit, I2, T, st2, f2, x2, yd⟩ := h2
        subst eit
        refine wpAny_newObj_type (newEnv_comp ?_) (by show 0 ≤ sizeLine; decide)
        generalize hA : s2.heap.objs.size = A
        have nA : H2 A = none := I2.hok.fresh (Nat.le_of_eq hA)
        generalize es3 : ({ s2 with heap := s2.heap.push { cls := .type "list", data := .seq ([] : List Value).toArray } } : Shared) = s3
        have I3 : Inv X pins σ (upd H2 A (.lst [])) s3 := by
          rw [← es3]
          refine I2.laid (t' := s2.toks) (fun b o e => Heap.get?_push_of_some _ e) (Nat.le_of_eq hA) ⟨Nat.zero_le _, [], 0, .nil, ?_⟩
          rw [← hA]
          exact Heap.get?_push_size _ rfl
        have eh3 : s3.heap = s2.heap.push { cls := .type "list", data := .seq ([] : List Value).toArray } := by rw [← es3]
        have f3 : ∀ b ∈ fp, FpOk X pins (upd H2 A (.lst [])) b ∧ b < s3.heap.objs.size := fun b hb => by
          have hlt : b < s2.heap.objs.size := by
            obtain ⟨o, e, _⟩ := T.obj _ _ st2 b hb
            exact Heap.lt_size e
          refine ⟨⟨?_, (f2 b hb).2⟩, by rw [eh3, Heap.size_push]; exact Nat.lt_succ_of_lt hlt⟩
          rw [upd_ne (by rw [← hA]; exact Nat.ne_of_lt hlt)]
          exact (f2 b hb).1
        have st3 : tn 0 s3.heap := T.keep _ _ _ st2 fun b _ o e => by rw [eh3]; exact Heap.get?_push_of_some _ e
        have I4 := block_start I3 ok hN f3
        have k0 := hg0 s3 (upd H2 A (.lst [])) s3.heap.objs.size (cellsFrom (s3.heap.objs.size + 1) scope.names (cloFrom X.env.cells scope.names [])) fp
        have k1 := hg1 s3 (upd H2 A (.lst [])) s3.heap.objs.size (cellsFrom (s3.heap.objs.size + 1) scope.names (cloFrom X.env.cells scope.names [])) fp
        have k2 := hg2 s3 (upd H2 A (.lst [])) s3.heap.objs.size (cellsFrom (s3.heap.objs.size + 1) scope.names (cloFrom X.env.cells scope.names [])) fp
        have j1 := hi1 s3 (upd H2 A (.lst [])) s3.heap.objs.size (cellsFrom (s3.heap.objs.size + 1) scope.names (cloFrom X.env.cells scope.names [])) fp
        have j2 := hi2 s3 (upd H2 A (.lst [])) s3.heap.objs.size (cellsFrom (s3.heap.objs.size + 1) scope.names (cloFrom X.env.cells scope.names [])) fp
        have j3 := he s3 (upd H2 A (.lst [])) s3.heap.objs.size (cellsFrom (s3.heap.objs.size + 1) scope.names (cloFrom X.env.cells scope.names [])) fp
        show codeAny _ _ (.compStart (lc3X elt t0 i0 t1 i1 t2 i2 scope pos) 0 (.ref it) (.ref A) (compEnvC scope (cellsFrom (s3.heap.objs.size + 1) scope.names (cloFrom X.env.cells scope.names [])) s3.heap.objs.size X.env)) (compPost (model X.prog X.w) X.A X.xe none (EP X pins σ Q) (.ref A) s3.heap.objs.size) { s3 with heap := pushCells (s3.heap.push { cls := .type "dict", data := .dict #[] }) scope.names }
        generalize ece : compEnvC scope (cellsFrom (s3.heap.objs.size + 1) scope.names (cloFrom X.env.cells scope.names [])) s3.heap.objs.size X.env = ce at I4 k0 k1 k2 j1 j2 j3 ⊢
        have cL : ce.locals = s3.heap.objs.size := by subst ece; rfl
        have nfp : ∀ b ∈ fp, (upd H2 A (.lst [])) b = none := fun b hb => (f3 b hb).1.1
        have rl2 := rl.mono x2
        have oA : O A = false := rl2.ow.new nA
        generalize eO : (fun b => O b || b == A : Addr → Bool) = O'
        have o'A : O' A = true := by rw [← eO]; simp
        have sub : ∀ b, O b = true → O' b = true := fun b hb => by rw [← eO]; simp [hb]
        have back : ∀ b, O' b = true → O b = true ∨ b = A := fun b hb => by
          rw [← eO] at hb
          simpa using hb
        have x3 : Ex H2 (upd H2 A (.lst [])) := Ex.new nA
        have ow3 : Ow O' (upd H2 A (.lst [])) := fun b hb => by
          rcases back b hb with z | z
          · exact rl2.ow.ex x3 b z
          · rw [z, upd_same]; exact fun z => nomatch z
        have xo : Ex (hide O H2) (hide O' (upd H2 A (.lst []))) := fun b u hb => by
          cases z : O b with
          | true => rw [hide_on z] at hb; cases hb
          | false =>
            rw [hide_at z] at hb
            have hbA : b ≠ A := ne_of_none hb nA
            have z' : O' b = false := by
              cases y : O' b with
              | false => rfl
              | true => exact ((back b y).elim (fun t => by rw [z] at t; cases t) fun t => absurd t hbA)
            rw [hide_at z']
            exact x3 _ _ hb
        have rb : Rel X.K cl ⟨H2, O', 0, 0⟩ O' (wipe σ (own.map (·.2))) (upd H2 A (.lst [])) ⟨wipeD τ.sl (own.map (·.2)), .no⟩ := rl2.block _ ow3 x3 xo
        generalize eH3 : upd H2 A (.lst []) = H3 at I3 I4 k0 k1 k2 j1 j2 j3 nfp f3 x3 ow3 xo rb
        have a3 : H3 A = some (.lst []) := by rw [← eH3]; exact upd_same
        generalize es4 : ({ s3 with heap := pushCells (s3.heap.push { cls := .type "dict", data := .dict #[] }) scope.names } : Shared) = s4 at I4 ⊢
        have st4 : tn 0 s4.heap := T.keep _ _ _ st3 fun b _ o e => by rw [← es4]; exact pushCells_keeps _ _ _ _ (Heap.get?_push_of_some _ e)
        have stat : ∀ {H' : Hp}, (∀ b ∈ fp, H' b = none) → ∀ b ∈ fp, FpOk (X.blk s3 H3 scope ce fp) [] H' b := fun {H'} hn b hb =>
          ⟨hn b hb, (I4.ok.exf b hb).1, I4.ok.exfs b hb, .inl hb, fun x c e => (I4.ok.exf b hb).2 x c e, fun p hp => absurd (show p ∈ ([] : List (Addr × Obj)) ++ [] from hp) (by simp)⟩
        have nx : ∀ e s, (X.blk s3 H3 scope ce fp).xe e s → False := fun _ _ z => z
        have r2 := fun itv : Value => rest_out (itv := itv) (Y := X.blk s3 H3 scope ce fp) (cl := cl) (F := ⟨H2, O', 0, 0⟩) (O := O') (A := A) (dep := 2) (e := lc3X elt t0 i0 t1 i1 t2 i2 scope pos) nx j3 o'A nA fun _ z => z
        have r1 := fun itv : Value => rest_in (Y := X.blk s3 H3 scope ce fp) (cl := cl) (F := ⟨H2, O', 0, 0⟩) (O := O') (A := A) (dep := 1) (itv := itv) (elt := elt) (t0 := t0) (i0 := i0) (t1 := t1) (i1 := i1) (t2 := t2) (i2 := i2) (scope := scope) (pos := pos) (.inr rfl) hc nx j2 k2 hgo2 (fun x => hs2 _ x) (fun it => turn3_2 elt t0 i0 t1 i1 t2 i2 scope pos (.ref it) (.ref A) ce) fun it => r2 (.ref it)
        have r0 := fun itv : Value => rest_in (Y := X.blk s3 H3 scope ce fp) (cl := cl) (F := ⟨H2, O', 0, 0⟩) (O := O') (A := A) (dep := 0) (itv := itv) (elt := elt) (t0 := t0) (i0 := i0) (t1 := t1) (i1 := i1) (t2 := t2) (i2 := i2) (scope := scope) (pos := pos) (.inl rfl) hc nx j1 k1 hgo1 (fun x => hs1 _ x) (fun it => turn3_1 elt t0 i0 t1 i1 t2 i2 scope pos (.ref it) (.ref A) ce) fun it => r1 (.ref it)
        have loop := comp_loop (Y := X.blk s3 H3 scope ce fp) (cl := cl) (F := ⟨H2, O', 0, 0⟩) (O := O') (A := A) (e := lc3X elt t0 i0 t1 i1 t2 i2 scope pos) (dep := 0) T hc nx k0 hgo0 rfl rfl (turn3_0 elt t0 i0 t1 i1 t2 i2 scope pos (.ref it) (.ref A) ce) (r0 (.ref it)) (pins := []) stat (G0 := H3) (acc := [])
          (H1 := H3) (fun O2 H4 ow4 x4 => yd O2 H4 ow4 (xo.trans x4)) e2 (by simpa using hlen) I4 rb a3 .nil (Ex.refl _) (Ex.refl _) st4 nfp
        refine codeAny_mono (begin3 (.inl rfl) loop (T.self X.A 0 _ _ _ st4 loop)) fun r s6 hr => ?_
        cases r with
        | error e => exact hr.elim
        | ok f =>
          obtain ⟨σ6, H6, vs6, I6, rl6, a6, hd6, _⟩ := hr
          have I7 : Inv X pins σ H6 s6 := I3.call' (ch := fp) I6.os I6.base I6.hok I6.bare fun b hb => ⟨(f3 b hb).1.2.2.2.1, (f3 b hb).1.2.1, (f3 b hb).1.2.2.2.2.1, (f3 b hb).1.2.2.2.2.2⟩
          have nC : H6 s3.heap.objs.size = none := by
            have z : H6 ce.locals = none := I6.free
            rw [cL] at z
            exact z
          obtain ⟨mm, hn, _⟩ := I6.loc
          have hn : s6.heap.Ns ce.locals mm := hn
          rw [cL] at hn
          obtain ⟨c0, c1, c2, c3, c4, c5⟩ := I3.fpOk (Nat.le_refl _) nC
          refine ⟨mm, hn, fun h'' sb => ⟨.ref A, H6, I7.turned (t' := s6.toks) (fun b o hb e => (sb.2 b hb).trans e) c0 c1 c3 c4 c5, rfl, ?_⟩⟩
          refine q H6 _ (x2.trans rl6.ex) (.lst (by rw [hide_at oA]; exact a6) ?_)
          have z := hd6.mono (hide_sub (H := H6) sub)
          rwa [List.nil_append] at z
      · cases h
    · cases h
  · cases h
end
end TL

namespace TL
open PySem PySem.Spec PyProof.Rows L2 Evl SlX StX C8
section
variable {P : Program} {w : World} {K : PySem.W.Frag} {mg : Str → Option Value} {base : Heap}
abbrev N_small_mixes : List Str := ["x", "y", "z"]
abbrev P_small_mixes : List Str := []
theorem sc_small_mixes : FnScope N_small_mixes P_small_mixes (defScope s_small_mixes) := ⟨rfl, rfl, rfl, by decide +kernel, rfl, by decide +kernel, by decide +kernel⟩
def e_small_mixes : ES := (sRet (eLc3 (eItems (eC k_STEPS)) (etName 0) (gFor (eItems (eC k_STEPS)) (etName 1) (gFor (eItems (eC k_STEPS)) (etName 2) (gYield (eTup (aCons (eVar 0) (aCons (eVar 1) (aCons (eVar 2) aNil))))))) [0, 1, 2]))
def m_small_mixes : Nat → List D → Option D := mir N_small_mixes.length P_small_mixes.length e_small_mixes
theorem o_small_mixes (T : Tx K mg) : ∃ fd, FnOk P w K mg base L2.CX0 1 (a_small_mixes K) fd P_small_mixes (spD K (clK K) m_small_mixes) ∧ L2.FunD K "small_mixes" q_small_mixes (defArgs s_small_mixes) (defBody s_small_mixes) (defScope s_small_mixes) [] [] (a_small_mixes K) fd := by
  obtain ⟨fd, F⟩ := T.fn_small_mixes
  refine ⟨fd, fn_tree F sc_small_mixes (by decide) fun cdv A outer s H E hr => ?_, F⟩
  exact (dss_one (ds_ret (d_lc3 (own := [("x", 0), ("y", 1), ("z", 2)]) (vs1 := [1]) (vs2 := [2]) rfl sc_small_mixes.nd (di_seq (d_gl T.k_STEPS)) (blkOk_by rfl) gok_name gok_name gok_name (fun _ _ _ _ _ => (gname 0 sc_small_mixes.nd)) (fun _ _ _ _ _ => (di_seq (d_gl T.k_STEPS))) (fun _ _ _ _ _ => (gname 1 sc_small_mixes.nd)) (fun _ _ _ _ _ => (di_seq (d_gl T.k_STEPS))) (fun _ _ _ _ _ => (gname 2 sc_small_mixes.nd)) (fun _ _ _ _ _ => (d_tup (da_cons (dv 0) (da_cons (dv 1) (da_cons (dv 2) da_nil))))))))
theorem c_small_mixes (T : Tx K mg) : CalD P w K (clK K) mg base 1 "small_mixes" m_small_mixes [] := by
  obtain ⟨fd, G, F⟩ := o_small_mixes (P := P) (w := w) (base := base) T
  exact calD G T.gl_small_mixes F.kp (FunD.bindsN F (fun _ _ _ _ _ _ us hl => match us, hl with | [], _ => rfl))
abbrev N_shorter_row : List Str := ["lattice", "rows", "a", "b", "at", "others", "size", "mix", "later", "many", "row", "spot"]
abbrev P_shorter_row : List Str := ["lattice", "rows"]
theorem sc_shorter_row : FnScope N_shorter_row P_shorter_row (defScope s_shorter_row) := ⟨rfl, rfl, rfl, by decide +kernel, rfl, by decide +kernel, by decide +kernel⟩
def e_shorter_row : ES := (sSeq (sPar 2 3 (aCons (eUn (fFld l_own_a) (eUn (fFld l_own_algebra) (eVar 0))) (aCons (eUn (fFld l_own_b) (eUn (fFld l_own_algebra) (eVar 0))) aNil))) (sSeq (sFor (eItems (eC k_SPOTS)) (etName 4) (sSeq (sPar 5 6 (aCons (eLc (eItems (eC k_SPOTS)) (etName 11) (bOf (eBin fNe (eVar 11) (eVar 4))) (eBin fIx (eVar 1) (eVar 11)) [11]) (aCons (eCall m_raw_norm [] (aCons (eVar 2) (aCons (eVar 3) (aCons (eBin fIx (eVar 1) (eVar 4)) aNil)))) aNil))) (sFor (eItems (eCall m_small_mixes [] aNil)) (etName 7) (sSeq (sAsg (eBin fIx (eVar 1) (eVar 4)) (etName 8)) (sSeq (sFor (eZip (aCons (eVar 7) (aCons (eVar 5) aNil))) (etTup 2 (etCons (etName 9) (etCons (etName 10) etNil))) (sAsg (eCall m_row_less [] (aCons (eVar 8) (aCons (eVar 9) (aCons (eVar 10) aNil)))) (etName 8))) (sIf (bOf (eBin fLt (eCall m_raw_norm [] (aCons (eVar 2) (aCons (eVar 3) (aCons (eVar 8) aNil)))) (eVar 6))) (sRet (eTup (aCons (eVar 4) (aCons (eVar 8) aNil)))) sNx)))))) (sRet (eC .non))))
def m_shorter_row : Nat → List D → Option D := mir N_shorter_row.length P_shorter_row.length e_shorter_row
theorem o_shorter_row (T : Tx K mg) : ∃ fd, FnOk P w K mg base L2.CX0 2 (a_shorter_row K) fd P_shorter_row (spD K (clK K) m_shorter_row) ∧ L2.FunD K "shorter_row" q_shorter_row (defArgs s_shorter_row) (defBody s_shorter_row) (defScope s_shorter_row) [] [] (a_shorter_row K) fd := by
  obtain ⟨fd, F⟩ := T.fn_shorter_row
  refine ⟨fd, fn_tree F sc_shorter_row (by decide) fun cdv A outer s H E hr => ?_, F⟩
  exact (dss_cons (ds_par (i := 2) (j := 3) rfl sc_shorter_row.nd rfl rfl (by decide) rfl rfl (da_cons (d_fld T.s_own_a (d_fld T.s_own_algebra (dv 0))) (da_cons (d_fld T.s_own_b (d_fld T.s_own_algebra (dv 0))) da_nil)) (by rfl)) (dss_cons (ds_for PassesOwn.never rfl (di_seq (d_gl T.k_SPOTS)) (dg_name 4 sc_shorter_row.nd) (dss_cons (ds_par (i := 5) (j := 6) rfl sc_shorter_row.nd rfl rfl (by decide) rfl rfl (da_cons (d_lc (own := [("spot", 11)]) rfl sc_shorter_row.nd (di_seq (d_gl T.k_SPOTS)) (blkOk_by rfl) gok_name (fun _ _ _ _ _ => (gname 11 sc_shorter_row.nd)) (fun _ _ _ _ _ => (dts_one (dt_cmp (op_neD hr.units) fd_ne (dv 11) (dv 4)))) (fun _ _ _ _ _ => (d_ix (dv 1) (dv 11)))) (da_cons (d_call (c_raw_norm T) hr (da_cons (dv 2) (da_cons (dv 3) (da_cons (d_ix (dv 1) (dv 4)) da_nil)))) da_nil)) (by rfl)) (dss_one (ds_for PassesOwn.never rfl (di_seq (d_call0 (c_small_mixes T) hr)) (dg_name 7 sc_shorter_row.nd) (dss_cons (ds_asg (d_ix (dv 1) (dv 4)) (dg_name 8 sc_shorter_row.nd)) (dss_cons (ds_for PassesOwn.never rfl (di_zip T.b_zip (da_cons (dv 7) (da_cons (dv 5) da_nil))) (dg_tup rfl (dgs_cons (dg_name 9 sc_shorter_row.nd) (dgs_cons (dg_name 10 sc_shorter_row.nd) dgs_nil))) (dss_one (ds_asg (d_call (c_row_less T) hr (da_cons (dv 8) (da_cons (dv 9) (da_cons (dv 10) da_nil)))) (dg_name 8 sc_shorter_row.nd)))) (dss_one (ds_if (dt_cmp op_lt (fd_I0 fun _ _ _ => .bl _) (d_call (c_raw_norm T) hr (da_cons (dv 2) (da_cons (dv 3) (da_cons (dv 8) da_nil)))) (dv 6)) (dss_one (ds_ret (d_tup (da_cons (dv 4) (da_cons (dv 8) da_nil))))) dss_nil)))))))) (dss_one (ds_ret d_non))))
theorem c_shorter_row (T : Tx K mg) : CalD P w K (clK K) mg base 2 "shorter_row" m_shorter_row [] := by
  obtain ⟨fd, G, F⟩ := o_shorter_row (P := P) (w := w) (base := base) T
  exact calD G T.gl_shorter_row F.kp (FunD.bindsN F (fun _ _ _ _ _ _ us hl => match us, hl with | [_, _], _ => rfl))
abbrev N_shortened : List Str := ["lattice", "rows", "found", "row"]
abbrev P_shortened : List Str := ["lattice"]
theorem sc_shortened : FnScope N_shortened P_shortened (defScope s_shortened) := ⟨rfl, rfl, rfl, by decide +kernel, rfl, by decide +kernel, by decide +kernel⟩
def e_shortened : ES := (sSeq (sAsg (eCall m_shortened_by_pairs [] (aCons (eVar 0) (aCons (eLc (eItems (eUn (fFld l_own_rows) (eVar 0))) (etName 3) bYes (eB fList (aCons (eVar 3) aNil)) [3]) aNil))) (etName 1)) (sSeq (sWhileN 2 (eCall m_shorter_row [] (aCons (eVar 0) (aCons (eVar 1) aNil))) (sSeq sNever sNever)) (sRet (eVar 1))))
def m_shortened : Nat → List D → Option D := mir N_shortened.length P_shortened.length e_shortened
theorem o_shortened (T : Tx K mg) : ∃ fd, FnOk P w K mg base L2.CX0 4 (a_shortened K) fd P_shortened (spD K (clK K) m_shortened) ∧ L2.FunD K "shortened" q_shortened (defArgs s_shortened) (defBody s_shortened) (defScope s_shortened) [] [] (a_shortened K) fd := by
  obtain ⟨fd, F⟩ := T.fn_shortened
  refine ⟨fd, fn_tree F sc_shortened (by decide) fun cdv A outer s H E hr => ?_, F⟩
  exact (dss_cons (ds_asg (d_call (c_shortened_by_pairs T) hr (da_cons (dv 0) (da_cons (d_lc (own := [("row", 3)]) rfl sc_shortened.nd (di_seq (d_fld T.s_own_rows (dv 0))) (blkOk_by rfl) gok_name (fun _ _ _ _ _ => (gname 3 sc_shortened.nd)) (fun _ _ _ _ _ => dts_nil) (fun _ _ _ _ _ => (d_ct call_list_of fc_list T.b_list (da_cons (dv 3) da_nil)))) da_nil))) (dg_name 1 sc_shortened.nd)) (dss_cons (ds_whileN (i := 2) PassesOwn.never sc_shortened.nd (d_call (c_shorter_row T) hr (da_cons (dv 0) (da_cons (dv 1) da_nil))) (dss_cons ds_never (dss_one ds_never))) (dss_one (ds_ret (dv 1)))))
theorem c_shortened (T : Tx K mg) : CalD P w K (clK K) mg base 4 "shortened" m_shortened [] := by
  obtain ⟨fd, G, F⟩ := o_shortened (P := P) (w := w) (base := base) T
  exact calD G T.gl_shortened F.kp (FunD.bindsN F (fun _ _ _ _ _ _ us hl => match us, hl with | [_], _ => rfl))
abbrev N_Weights___init__ : List Str := ["self", "lattice", "size", "rows", "row", "other", "at"]
abbrev P_Weights___init__ : List Str := ["self", "lattice"]
theorem sc_Weights___init__ : FnScope N_Weights___init__ P_Weights___init__ (defScope s_Weights___init__) := ⟨rfl, rfl, rfl, by decide +kernel, rfl, by decide +kernel, by decide +kernel⟩
def e_Weights___init__ : ES := (sSeq (sAsg (eCall m_shortened [] (aCons (eVar 1) aNil)) (etSelf 0 l_own_rows)) (sSeq (sAsg (eCall m_norm_top [] (aCons (eVar 1) aNil)) (etName 2)) (sSeq (sAsg (eSelf 0 l_own_rows) (etName 3)) (sSeq (sAsg (eLc (eItems (eVar 3)) (etName 4) bYes (eLc (eItems (eVar 3)) (etName 5) bYes (eBin fDiv (eCall m_twice_inner [] (aCons (eVar 1) (aCons (eVar 4) (aCons (eVar 5) aNil)))) (eVar 2)) [5]) [4]) (etSelf 0 l_own_table)) (sSeq (sAsg (eCall m_determinant [] (aCons (eSelf 0 l_own_table) aNil)) (etSelf 0 l_own_whole)) (sAsg (eLc (eEnum (aCons (eCall m_cofactors [] (aCons (eSelf 0 l_own_table) aNil)) aNil)) (etTupT 2 (etCons (etName 6) (etCons (etName 3) etNil))) bYes (eBin fIx (eVar 3) (eVar 6)) [6, 3]) (etSelf 0 l_own_bounds)))))))
def m_Weights : Nat → List D → Option (List D) := mirI N_Weights___init__.length P_Weights___init__.length 7 e_Weights___init__
theorem o_Weights___init__ (T : Tx K mg) : ∃ fd, FnOk P w K mg base L2.CX0 5 (a_Weights___init__ K) fd P_Weights___init__ (spI K (clK K) 7 m_Weights) ∧ L2.FunD K "__init__" q_Weights___init__ (defArgs s_Weights___init__) (defBody s_Weights___init__) (defScope s_Weights___init__) [] [] (a_Weights___init__ K) fd := by
  obtain ⟨fd, F⟩ := T.fn_Weights___init__
  refine ⟨fd, in_tree (c := 7) F sc_Weights___init__ (by decide) fun cdv A outer s H E hr => ?_, F⟩
  exact (dss_cons (ds_self T.s_own_rows (pv 0) (d_call (c_shortened T) hr (da_cons (dv 1) da_nil))) (dss_cons (ds_asg (d_call (c_norm_top T) hr (da_cons (dv 1) da_nil)) (dg_name 2 sc_Weights___init__.nd)) (dss_cons (ds_asg (d_self T.s_own_rows (pv 0)) (dg_name 3 sc_Weights___init__.nd)) (dss_cons (ds_self T.s_own_table (pv 0) (d_lc (own := [("row", 4)]) rfl sc_Weights___init__.nd (di_seq (dv 3)) (blkOk_by rfl) gok_name (fun _ _ _ _ _ => (gname 4 sc_Weights___init__.nd)) (fun _ _ _ _ _ => dts_nil) (fun _ _ _ _ _ => (d_lc (own := [("other", 5)]) rfl sc_Weights___init__.nd (di_seq (dv 3)) (blkOk_by rfl) gok_name (fun _ _ _ _ _ => (gname 5 sc_Weights___init__.nd)) (fun _ _ _ _ _ => dts_nil) (fun _ _ _ _ _ => (d_fdiv (d_call (c_twice_inner T) hr (da_cons (dv 1) (da_cons (dv 4) (da_cons (dv 5) da_nil)))) (dv 2))))))) (dss_cons (ds_self T.s_own_whole (pv 0) (d_call (c_determinant T) hr (da_cons (d_self T.s_own_table (pv 0)) da_nil))) (dss_one (ds_self T.s_own_bounds (pv 0) (d_lc (own := [("at", 6), ("rows", 3)]) rfl sc_Weights___init__.nd (di_enum T.b_enumerate (da_cons (d_call (c_cofactors T) hr (da_cons (d_self T.s_own_table (pv 0)) da_nil)) da_nil)) (blkOk_by rfl) (gok_tup (gsok_cons gok_name (gsok_cons gok_name gsok_nil))) (fun _ _ _ _ _ => (pg_tup rfl (pgs_cons (gname 6 sc_Weights___init__.nd) (pgs_cons (gname 3 sc_Weights___init__.nd) pgs_nil)))) (fun _ _ _ _ _ => dts_nil) (fun _ _ _ _ _ => (d_ix (dv 3) (dv 6)))))))))))
theorem k_Weights (T : Tx K mg) : MakD P w K (clK K) mg base 5 "Weights" 7 m_Weights [] := by
  obtain ⟨fd, G, F⟩ := o_Weights___init__ (P := P) (w := w) (base := base) T
  exact makD T.mk_7 G T.gl_Weights (FunD.bindsN F (fun _ _ _ _ _ _ us hl => match us, hl with | [_, _], _ => rfl))
abbrev N_raw_fours : List Str := ["lattice", "many", "told", "parts", "at", "part", "row"]
abbrev P_raw_fours : List Str := ["lattice", "many"]
theorem sc_raw_fours : FnScope N_raw_fours P_raw_fours (defScope s_raw_fours) := ⟨rfl, rfl, rfl, by decide +kernel, rfl, by decide +kernel, by decide +kernel⟩
def e_raw_fours : ES := (sSeq (sAsg (eMake 7 m_Weights [] (aCons (eVar 0) aNil)) (etName 2)) (sRet (eLc (eItems (eMeth 7 m_Weights_sums_with (eVar 2) (aCons (eVar 1) aNil))) (etName 3) bYes (eB fTuple (aCons (eLc (eItems (eC k_SPOTS)) (etName 4) bYes (eB fSum (aCons (eLc (eZip (aCons (eVar 3) (aCons (eUn (fFld l_own_rows) (eVar 2)) aNil))) (etTupT 2 (etCons (etName 5) (etCons (etName 6) etNil))) bYes (eBin fMul (eVar 5) (eBin fIx (eVar 6) (eVar 4))) [5, 6]) aNil)) [4]) aNil)) [3])))
def m_raw_fours : Nat → List D → Option D := mir N_raw_fours.length P_raw_fours.length e_raw_fours
theorem o_raw_fours (T : Tx K mg) : ∃ fd, FnOk P w K mg base L2.CX0 7 (a_raw_fours K) fd P_raw_fours (spD K (clK K) m_raw_fours) ∧ L2.FunD K "raw_fours" q_raw_fours (defArgs s_raw_fours) (defBody s_raw_fours) (defScope s_raw_fours) [] [] (a_raw_fours K) fd := by
  obtain ⟨fd, F⟩ := T.fn_raw_fours
  refine ⟨fd, fn_tree F sc_raw_fours (by decide) fun cdv A outer s H E hr => ?_, F⟩
  exact (dss_cons (ds_asg (d_make (k_Weights T) hr (da_cons (dv 0) da_nil)) (dg_name 2 sc_raw_fours.nd)) (dss_one (ds_ret (d_lc (own := [("parts", 3)]) rfl sc_raw_fours.nd (di_seq (d_meth (t_Weights_sums_with T) hr (dv 2) (da_cons (dv 1) da_nil))) (blkOk_by rfl) gok_name (fun _ _ _ _ _ => (gname 3 sc_raw_fours.nd)) (fun _ _ _ _ _ => dts_nil) (fun _ _ _ _ _ => (d_ct call_tuple_of fc_tuple T.b_tuple (da_cons (d_lc (own := [("at", 4)]) rfl sc_raw_fours.nd (di_seq (d_gl T.k_SPOTS)) (blkOk_by rfl) gok_name (fun _ _ _ _ _ => (gname 4 sc_raw_fours.nd)) (fun _ _ _ _ _ => dts_nil) (fun _ _ _ _ _ => (d_cb (cr_sum rfl) fc_sum T.b_sum (da_cons (d_lc (own := [("part", 5), ("row", 6)]) rfl sc_raw_fours.nd (di_zip T.b_zip (da_cons (dv 3) (da_cons (d_fld T.s_own_rows (dv 2)) da_nil))) (blkOk_by rfl) (gok_tup (gsok_cons gok_name (gsok_cons gok_name gsok_nil))) (fun _ _ _ _ _ => (pg_tup rfl (pgs_cons (gname 5 sc_raw_fours.nd) (pgs_cons (gname 6 sc_raw_fours.nd) pgs_nil)))) (fun _ _ _ _ _ => dts_nil) (fun _ _ _ _ _ => (d_mul (dv 5) (d_ix (dv 6) (dv 4))))) da_nil)))) da_nil)))))))
theorem c_raw_fours (T : Tx K mg) : CalD P w K (clK K) mg base 7 "raw_fours" m_raw_fours [] := by
  obtain ⟨fd, G, F⟩ := o_raw_fours (P := P) (w := w) (base := base) T
  exact calD G T.gl_raw_fours F.kp (FunD.bindsN F (fun _ _ _ _ _ _ us hl => match us, hl with | [_, _], _ => rfl))
abbrev N_fours_found : List Str := ["lattice", "many", "row"]
abbrev P_fours_found : List Str := ["lattice", "many"]
theorem sc_fours_found : FnScope N_fours_found P_fours_found (defScope s_fours_found) := ⟨rfl, rfl, rfl, by decide +kernel, rfl, by decide +kernel, by decide +kernel⟩
def e_fours_found : ES := (sRet (eB fTuple (aCons (eLc (eItems (eB fSorted (aCons (eCall m_raw_fours [] (aCons (eVar 0) (aCons (eVar 1) aNil))) aNil))) (etName 2) bYes (eCall m_four_made [] (aCons (eUn (fFld l_own_algebra) (eVar 0)) (aCons (eVar 2) (aCons (eUn (fFld l_own_bottom) (eVar 0)) aNil)))) [2]) aNil)))
def m_fours_found : Nat → List D → Option D := mir N_fours_found.length P_fours_found.length e_fours_found
theorem o_fours_found (T : Tx K mg) : ∃ fd, FnOk P w K mg base L2.CX0 9 (a_fours_found K) fd P_fours_found (spD K (clK K) m_fours_found) ∧ L2.FunD K "fours_found" q_fours_found (defArgs s_fours_found) (defBody s_fours_found) (defScope s_fours_found) [] [] (a_fours_found K) fd := by
  obtain ⟨fd, F⟩ := T.fn_fours_found
  refine ⟨fd, fn_tree F sc_fours_found (by decide) fun cdv A outer s H E hr => ?_, F⟩
  exact (dss_one (ds_ret (d_ct call_tuple_of fc_tuple T.b_tuple (da_cons (d_lc (own := [("row", 2)]) rfl sc_fours_found.nd (di_seq (d_cb (cr_sortTI hr.units) fc_sorted T.b_sorted (da_cons (d_call (c_raw_fours T) hr (da_cons (dv 0) (da_cons (dv 1) da_nil))) da_nil))) (blkOk_by rfl) gok_name (fun _ _ _ _ _ => (gname 2 sc_fours_found.nd)) (fun _ _ _ _ _ => dts_nil) (fun _ _ _ _ _ => (d_call (c_four_made T) hr (da_cons (d_fld T.s_own_algebra (dv 0)) (da_cons (dv 2) (da_cons (d_fld T.s_own_bottom (dv 0)) da_nil)))))) da_nil))))
theorem c_fours_found (T : Tx K mg) : CalD P w K (clK K) mg base 9 "fours_found" m_fours_found [] := by
  obtain ⟨fd, G, F⟩ := o_fours_found (P := P) (w := w) (base := base) T
  exact calD G T.gl_fours_found F.kp (FunD.bindsN F (fun _ _ _ _ _ _ us hl => match us, hl with | [_, _], _ => rfl))
abbrev N_units : List Str := ["order"]
abbrev P_units : List Str := ["order"]
theorem sc_units : FnScope N_units P_units (defScope s_units) := ⟨rfl, rfl, rfl, by decide +kernel, rfl, by decide +kernel, by decide +kernel⟩
def e_units : ES := (sSeq (sExpr (eCall m_require_order [] (aCons (eVar 0) aNil))) (sSeq (sExpr (eCall m_require_definite [] (aCons (eProp 6 m_Lattice_algebra (eVar 0)) aNil))) (sRet (eCall m_fours_found [] (aCons (eVar 0) (aCons (eC (.int 1)) aNil))))))
def m_units : Nat → List D → Option D := mir N_units.length P_units.length e_units
theorem o_units (T : Tx K mg) : ∃ fd, FnOk P w K mg base L2.CX0 10 (a_units K) fd P_units (spD K (clK K) m_units) ∧ L2.FunD K "units" q_units (defArgs s_units) (defBody s_units) (defScope s_units) [] [] (a_units K) fd := by
  obtain ⟨fd, F⟩ := T.fn_units
  refine ⟨fd, fn_tree F sc_units (by decide) fun cdv A outer s H E hr => ?_, F⟩
  exact (dss_cons (ds_expr (d_call (c_require_order T) hr (da_cons (dv 0) da_nil))) (dss_cons (ds_expr (d_call (c_require_definite T) hr (da_cons (d_prop (p_Lattice_algebra T) hr (dv 0)) da_nil))) (dss_one (ds_ret (d_call (c_fours_found T) hr (da_cons (dv 0) (da_cons d_int da_nil)))))))
theorem c_units (T : Tx K mg) : CalD P w K (clK K) mg base 10 "units" m_units [] := by
  obtain ⟨fd, G, F⟩ := o_units (P := P) (w := w) (base := base) T
  exact calD G T.gl_units F.kp (FunD.bindsN F (fun _ _ _ _ _ _ us hl => match us, hl with | [_], _ => rfl))
end
end TL

/-! {k: v, l: w, **d, **e}: small dicts poured into another -/
namespace TL
open PySem PySem.Spec PyProof.Rows L2 Evl SlX StX C8

section
variable {prog : Program} {w : World} {K : Type} [DecidableEq K] {knd : KeyKind prog w K} {A : Around} {Er : Value → Shared → Prop} {s : Shared}
theorem put_pairs {d : Addr} {kvs : List (K × Value)} {k : K} {key v : Value} {post : Unit → Shared → Prop} (hkey : knd.is k key = true) (hm : s.heap.DictOf knd d kvs)
    (hQ : ∀ h', h'.DictOf knd d (stored kvs k v) → Heap.SameBut d s.heap h' → post () { s with heap := h' }) (hsz : kvs.length ≤ sizeLine := by size_fits) :
    wpAny (model prog w) A (dictPut d (knd.hash k) key v) post Er s := by
  obtain ⟨ob, en, ep, hob, hex, hdat, hks, hps, hnd⟩ := hm
  have hen : en.size ≤ sizeLine := by
    have e1 := hps.length
    have e2 : en.toList.length = en.size := by simp
    omega
  unfold dictPut
  refine wpAny_bind (wpAny_dictFind_of hkey hob hdat hks ?_)
  have hix : (en.findIdx? fun e => knd.is k e.key) = kvs.findIdx? fun kv => decide (kv.1 = k) := by
    rw [← hps.findIdx k]
    obtain ⟨l⟩ := en
    simp
  cases hi : en.findIdx? fun e => knd.is k e.key with
  | some i =>
    refine wpAny_updateDict hob hdat (hQ _ ⟨_, _, ep, Heap.get?_update_self _ hob (Obj.isFreed_of_dict (Obj.data_mapDict hdat _)), hex.mapDict _, Obj.data_mapDict hdat _, hks.modify _ _, ?_, ?_⟩ (Heap.SameBut.update ..))
    · rw [stored, if_pos (any_of_findIdx_some (hix ▸ hi))]
      have hl : (en.toList.findIdx? fun e => knd.is k e.key) = some i := by
        rw [← hi]
        obtain ⟨l⟩ := en
        simp
      have z := hps.modify hnd hl v
      obtain ⟨l⟩ := en
      simpa using z
    · rw [stored, if_pos (any_of_findIdx_some (hix ▸ hi)), keys_map_store]
      exact hnd
  | none =>
    have hnot : k ∉ kvs.map (·.1) := not_mem_of_findIdx_none (hix ▸ hi)
    have hany : ¬ (kvs.any fun kv => decide (kv.1 = k)) = true := by
      rw [List.any_eq_true]
      rintro ⟨kv, hkv, he⟩
      exact hnot (List.mem_map.mpr ⟨kv, hkv, of_decide_eq_true he⟩)
    refine wpAny_updateDictKeys (hz := hen) hob hdat (hQ _ ⟨_, _, ep + 1, Heap.get?_update_self _ hob (Obj.isFreed_of_dict (Obj.data_mapDictKeys hdat _)), hex.mapDictKeys _, Obj.data_mapDictKeys hdat _, hks.push hkey _, ?_, ?_⟩ (Heap.SameBut.update ..))
    · rw [stored, if_neg hany]
      have z := hps.append hkey (knd.hash k) v
      obtain ⟨l⟩ := en
      simpa using z
    · rw [stored, if_neg hany, List.map_append, List.nodup_append]
      refine ⟨hnd, by simp, ?_⟩
      intro a ha b hb
      simp only [List.map_cons, List.map_nil, List.mem_singleton] at hb
      subst hb
      exact fun e => hnot (e ▸ ha)
/-- a dict with one entry at most poured into one that is not empty -/
theorem merge_small {d o : Addr} {kvs more : List (K × Value)} {post : Unit → Shared → Prop} (hdo : d ≠ o) (hoS : (o == sysModules) = false) (hne : kvs ≠ []) (h1 : more.length ≤ 1) (hd : s.heap.DictOf knd d kvs) (ho : s.heap.DictOf knd o more)
    (hQ : ∀ h', h'.DictOf knd d (merged kvs more) → Heap.SameBut d s.heap h' → post () { s with heap := h' }) (hsz : kvs.length ≤ sizeLine) :
    wpAny (model prog w) A (mergeMapping d (.ref o) false) post Er s := by
  obtain ⟨od, ed, epd, hod, hcd, hdd, hkd, hpd, hnd⟩ := id hd
  obtain ⟨oo, eo, epo, hoo, hco, hdo', hko, hpo, hno⟩ := id ho
  have hned : ed.isEmpty = false := by
    cases h : ed.isEmpty with
    | false => rfl
    | true =>
      have h0 : ed = #[] := Array.isEmpty_iff.mp h
      have z := hpd.length
      rw [h0] at z
      exact absurd (List.length_eq_zero_iff.mp (by simpa using z.symm)) hne
  unfold mergeMapping
  refine wpAny_bind (wpAny_isInstance ho.typeIs isSubtype_dict_dict ?_)
  rw [if_pos rfl]
  refine wpAny_bind (wpAny_specialOf ho.typeIs F.slot_dict_iter.lookup (wpAny_bind (wpAny_pure ?_)))
  rw [show (some (Value.builtin "dict.__iter__") == some (Value.builtin "dict.__iter__")) = true from by decide]
  dsimp only
  rw [if_neg (by rw [hoS]; exact Bool.false_ne_true)]
  refine wpAny_bind (wpAny_dictEntries hod hdd ?_)
  simp only [hned, Bool.false_eq_true, if_false]
  refine wpAny_bind (wpAny_dictEntries hoo hdo' ?_)
  refine wpAny_bind (wpAny_dictEpoch hoo hdo' ?_)
  have hlen : more.length = eo.size := by rw [← hpo.length]; simp
  match more, hpo, hQ, hlen, h1 with
  | [], _, hQ, hlen, _ =>
    rw [← hlen]
    exact wpAny_bind (wpAny_pure (wpAny_pure (hQ s.heap hd (Heap.SameBut.refl _ _))))
  | [(k, v)], hpo, hQ, hlen, _ =>
    have hs1 : eo.size = 1 := hlen.symm
    have h0 : 0 < eo.size := by omega
    rw [hs1]
    obtain ⟨hkey, hval⟩ := hpo.get? (i := 0) (e := eo[0]) (by simp [h0]) rfl
    obtain ⟨k', hkey', hhash⟩ := hko eo[0] (Array.getElem_mem h0)
    obtain rfl : k' = k := knd.inj _ _ _ hkey' hkey
    show wpAny _ _ (forIn [0] PUnit.unit _ >>= _) _ _ _
    rw [List.forIn_cons]
    refine wpAny_bind (wpAny_bind (wpAny_bind (wpAny_dictEntries hoo hdo' ?_)))
    rw [Array.getElem?_eq_getElem h0]
    refine wpAny_bind (wpAny_holding ?_)
    rw [hhash]
    have hval' : eo[0].val = v := hval
    rw [hval']
    refine put_pairs (hsz := hsz) hkey hd fun h' hd' hs' => ?_
    have hoo' : h'.get? o = some oo := (hs'.2 o (Ne.symm hdo)).trans hoo
    refine wpAny_bind (wpAny_dictEpoch (s := { s with heap := h' }) hoo' hdo' ?_)
    rw [if_neg (by simp)]
    refine wpAny_pure ?_
    dsimp only
    rw [List.forIn_nil]
    exact wpAny_pure (wpAny_pure (hQ h' hd' hs'))
  | _ :: _ :: _, _, _, _, h1 => simp at h1
end
section
variable {prog : Program} {w : World} {K : Type} [DecidableEq K] {knd : KeyKind prog w K} {A : Around} {s : Shared} {env : Env}
theorem disp_star {k0 k1 v0 v1 e2 e3 : Expr} {pos : Pos} {post : Value → Shared → Prop}
    (h : wpAny (model prog w) A (evalPairs (pairTrees [some k0, some k1] [v0, v1] env pos)) (fun vs s1 => ∃ kvs, Carries knd vs kvs ∧ s1.heap.DictOf knd s.heap.objs.size [] ∧
      ∀ h', h'.DictOf knd s.heap.objs.size (merged [] kvs) → Heap.SameBut s.heap.objs.size s1.heap h' →
        wpAny (model prog w) A (eval e2 env) (fun m s2 => wpAny (model prog w) A (mergeMapping s.heap.objs.size m false) (fun _ s3 =>
          wpAny (model prog w) A (eval e3 env) (fun m2 s4 => wpAny (model prog w) A (mergeMapping s.heap.objs.size m2 false) (fun _ s5 => post (.ref s.heap.objs.size) s5) (fun _ _ => False) s4) (fun _ _ => False) s3) (fun _ _ => False) s2) (fun _ _ => False)
          { s1 with heap := h', toks := s1.toks + vs.length }) (fun _ _ => False) { s with heap := s.heap.push { cls := .type "dict", data := .dict #[] } }) :
    wpAny (model prog w) A (eval (.Dict [some k0, some k1, none, none] [v0, v1, e2, e3] pos) env) post (fun _ _ => False) s := by
  rw [arm_eval_Dict]
  refine wpAny_bind (wpAny_standAt ?_)
  show wpAny _ _ (dictDisplay [(some (eval k0 env), (do let x ← eval v0 env; standAt pos; pure x)), (some (eval k1 env), (do let x ← eval v1 env; standAt pos; pure x)), (none, (do let x ← eval e2 env; standAt pos; pure x)), (none, (do let x ← eval e3 env; standAt pos; pure x))]) _ _ _
  unfold dictDisplay
  dsimp only
  refine wpAny_bind ?_
  rw [List.forIn_cons]
  refine wpAny_bind ?_
  show wpAny _ _ (pure (ForInStep.yield ((none : Option Addr), [(eval k0 env, (do let x ← eval v0 env; standAt pos; pure x : Sem Value))]))) _ _ _
  refine wpAny_pure ?_
  dsimp only
  rw [List.forIn_cons]
  refine wpAny_bind ?_
  show wpAny _ _ (pure (ForInStep.yield ((none : Option Addr), pairTrees [some k0, some k1] [v0, v1] env pos))) _ _ _
  refine wpAny_pure ?_
  dsimp only
  rw [List.forIn_cons]
  refine wpAny_bind ?_
  dsimp only
  refine wpAny_bind ?_
  show wpAny _ _ (subDict (pairTrees [some k0, some k1] [v0, v1] env pos) >>= fun d => pure (some d)) _ _ _
  refine wpAny_bind (wpAny_subDict (knd := knd) (by show 2 ≤ 15; decide) (wpAny_mono h (fun vs s1 h1 => ?_) fun _ _ z => z.elim))
  obtain ⟨kvs, hc, hm, hq⟩ := h1
  refine ⟨kvs, hc, hm, fun h' a b => wpAny_pure ?_⟩
  dsimp only
  refine wpAny_bind (wpAny_pure (wpAny_bind (wpAny_holding (wpAny_bind (wpAny_mono (hq h' a b) (fun m s2 h2 => wpAny_bind (wpAny_standAt (wpAny_pure ?_))) fun _ _ z => z.elim)))))
  refine wpAny_bind (wpAny_onRaise (wpAny_tryCatch (wpAny_onRaise (wpAny_holding (wpAny_mono h2 (fun _ s3 h3 => ?_) fun _ _ z => z.elim)))))
  refine wpAny_pure ?_
  dsimp only
  rw [List.forIn_cons]
  refine wpAny_bind ?_
  dsimp only
  refine wpAny_bind (wpAny_pure ?_)
  dsimp only
  refine wpAny_bind (wpAny_pure (wpAny_bind (wpAny_holding (wpAny_bind (wpAny_mono h3 (fun m2 s4 h4 => wpAny_bind (wpAny_standAt (wpAny_pure ?_))) fun _ _ z => z.elim)))))
  refine wpAny_bind (wpAny_onRaise (wpAny_tryCatch (wpAny_onRaise (wpAny_holding (wpAny_mono h4 (fun _ s5 h5 => ?_) fun _ _ z => z.elim)))))
  refine wpAny_pure ?_
  dsimp only
  rw [List.forIn_nil]
  refine wpAny_pure ?_
  exact wpAny_bind (wpAny_pure (wpAny_pure h5))
end
end TL

/-! factors_of at -1 and -2, the list that places_of asks -/
namespace TL
open PySem PySem.Spec PyProof.Rows L2 Evl SlX StX C8

section
variable {X : Cx} {k0 k1 v0 v1 e2 e3 : Expr} {i j : Int} {u0 u1 : V} {te2 te3 : TE} {pos : Pos}
def tStar (i j : Int) (u0 u1 : V) (te2 te3 : TE) : TE := fun σ H Q => ∀ d, H d = none → te2 σ (upd H d (.dK (mergeK [] [(.inl i, u0), (.inl j, u1)]))) fun x H1 => ∃ a more, x = .ref a ∧ H1 a = some (.dK more) ∧ more.length ≤ 1 ∧ a ≠ d ∧ H1 d = some (.dK (mergeK [] [(.inl i, u0), (.inl j, u1)])) ∧
  te3 σ (upd H1 d (.dK (mergeK (mergeK [] [(.inl i, u0), (.inl j, u1)]) more))) fun y H2 => ∃ b more2, y = .ref b ∧ H2 b = some (.dK more2) ∧ more2.length ≤ 1 ∧ b ≠ d ∧ H2 d = some (.dK (mergeK (mergeK [] [(.inl i, u0), (.inl j, u1)]) more)) ∧
    Q (.ref d) (upd H2 d (.dK (mergeK (mergeK (mergeK [] [(.inl i, u0), (.inl j, u1)]) more) more2)))
theorem put_ne {kvs : List (Key × V)} {k : Key} {v : V} : putK kvs k v ≠ [] := by
  unfold putK
  split
  · rename_i h
    intro z
    have : kvs = [] := List.map_eq_nil_iff.mp z
    rw [this] at h
    simp at h
  · simp
theorem merge_ne {kvs more : List (Key × V)} (h : kvs ≠ []) : mergeK kvs more ≠ [] := by
  induction more generalizing kvs with
  | nil => exact h
  | cons p r ih => exact ih put_ne
theorem mk2_ne {k l : Key} {u v : V} : mergeK [] [(k, u), (l, v)] ≠ [] := fun z => put_ne (kvs := putK [] k u) (k := l) (v := v) z
theorem kv_ne {kvs : List (Key × V)} {vs : List (Key × Value)} (r : KV kvs vs) (h : kvs ≠ []) : vs ≠ [] := fun z => by
  have := r.length
  rw [z] at this
  exact h (List.length_eq_zero_iff.mp this)
theorem merge_in {pins : List (Addr × Obj)} {σ : L2.St} {H : Hp} {s : Shared} {d a : Addr} {kvs more : List (Key × V)} {post : Unit → Shared → Prop} {Er : Value → Shared → Prop} (I : Inv X pins σ H s) (hd : H d = some (.dK kvs)) (ha : H a = some (.dK more)) (hda : a ≠ d) (hne : kvs ≠ []) (h1 : more.length ≤ 1) (hz : kvs.length < sizeLine)
    (h : ∀ s', Inv X pins σ (upd H d (.dK (mergeK kvs more))) s' → post () s') : wpAny (model X.prog X.w) X.A (mergeMapping d (.ref a) false) post Er s := by
  obtain ⟨z1, lo1, vs1, r1, d1⟩ := dk_of I.hok hd
  obtain ⟨z2, lo2, vs2, r2, d2⟩ := dk_of I.hok ha
  refine merge_small (knd := mixKind X.prog X.w) (Ne.symm hda) lo2 (kv_ne r1 hne) (by rw [← r2.length]; exact h1) d1 d2 (fun h' dd hs => ?_) (by rw [← r1.length]; exact z1)
  have he : ∃ q, h'.get? d = some q := let ⟨q, _, _, hq, _⟩ := dd; ⟨q, hq⟩
  have hl : (mergeK kvs more).length ≤ sizeLine := by
    have := length_mergeK more kvs
    omega
  exact h _ (d_write (t' := s.toks) I (by rw [hd]; exact True.intro) hs he (dk_new hl lo1 (r2.merge r1) dd))
theorem pe_star (hx : ∀ e s, X.xe e s → False) (h0 : PE X k0 (tC (.int i))) (h1 : PE X k1 (tC (.int j))) (hv0 : PE X v0 (tC u0)) (hv1 : PE X v1 (tC u1)) (h2 : PE X e2 te2) (h3 : PE X e3 te3) :
    PE X (.Dict [some k0, some k1, none, none] [v0, v1, e2, e3] pos) (tStar i j u0 u1 te2 te3) := by
  refine ⟨fun pins s σ H Q I q => ?_⟩
  have hn := I.hok.fresh (Nat.le_refl s.heap.objs.size)
  have I1 := I.laid (a := s.heap.objs.size) (o := .dK []) (h' := s.heap.push { cls := .type "dict", data := .dict #[] }) (t' := s.toks) (fun _ _ q => Heap.get?_push_of_some _ q) (Nat.le_refl _) (dk_empty s.heap I.big)
  have q1 := q _ hn
  have small : ∀ (l m : List (Key × V)), l.length ≤ 1 → m.length ≤ 1 → (mergeK (mergeK [] [(Sum.inl i, u0), (Sum.inl j, u1)]) l).length < sizeLine := fun l m hl hm => by
    have a1 := length_mergeK l (mergeK [] [(Sum.inl i, u0), (Sum.inl j, u1)])
    have a2 := length_mergeK [(Sum.inl i, u0), (Sum.inl j, u1)] ([] : List (Key × V))
    rw [sizeLine_eq]
    simp at a2
    omega
  refine wpAny_mono (disp_star (knd := mixKind X.prog X.w) (wpAny_mono ((pps_cons (pos := pos) h0 hv0 (pps_cons h1 hv1 pps_nil)).run pins _ σ _ (fun ps H2 => ps = [(.int i, u0), (.int j, u1)] ∧ H2 = upd H s.heap.objs.size (.dK [])) I1 ⟨rfl, rfl⟩) (fun ws s2 h2' => ?_) fun e s z => hx e s z)) (fun _ _ z => z) fun _ _ z => z.elim
  obtain ⟨ps, H2, I2, rel, ep, eH⟩ := h2'
  subst ep eH
  obtain ⟨rs, c, rk⟩ := carries_of (P := X.prog) (w := X.w) (kvs := [(.inl i, u0), (.inl j, u1)]) rel
  obtain ⟨z, lo, vs0, r0, dd⟩ := dk_of I2.hok upd_same
  cases r0
  refine ⟨rs, c, dd, fun h' dd' hs => ?_⟩
  have he : ∃ q, h'.get? s.heap.objs.size = some q := let ⟨q, _, _, hq, _⟩ := dd'; ⟨q, hq⟩
  have I3 := d_write (t' := s2.toks + ws.length) I2 (by rw [upd_same]; exact True.intro) hs he (dk_new (Nat.le_of_lt (small [] [] (by simp) (by simp))) lo (rk.merge .nil) dd')
  rw [upd_upd] at I3
  refine wpAny_mono (h2.run pins _ σ _ _ I3 q1) (fun m s3 h3' => ?_) fun e s z => hx e s z
  obtain ⟨x, H4, I4, rx, a, more, ex, ha, hm, hne, hd4, q2⟩ := h3'
  subst ex
  obtain rfl : m = Value.ref a := rx
  refine merge_in I4 hd4 ha hne mk2_ne hm (small [] [] (by simp) (by simp)) fun s5 I5 => ?_
  refine wpAny_mono (h3.run pins _ σ _ _ I5 q2) (fun m2 s6 h6 => ?_) fun e s z => hx e s z
  obtain ⟨y, H6, I6, ry, b, more2, ey, hb, hm2, hne2, hd6, q3⟩ := h6
  subst ey
  obtain rfl : m2 = Value.ref b := ry
  exact merge_in I6 hd6 hb hne2 (merge_ne mk2_ne) hm2 (small more more2 hm hm2) fun s7 I7 => ⟨.ref s.heap.objs.size, _, I7, rfl, q3⟩
end
def nO : Addr → Bool := fun _ => false
theorem hide_no {H : Hp} : hide nO H = H := rfl
section
variable {K : PySem.W.Frag} {cl : Nat → Addr} {H : Hp}
/-- nothing is private, the first slots are known -/
theorem relV {vs : List V} {ds : List D} (h : HDs K cl H vs ds) (k : Nat) : Rel K cl ⟨H, nO, 0, 0⟩ nO (vs.map some ++ List.replicate k none) H ⟨ds.map some ++ List.replicate k none, .no⟩ :=
  ⟨Ex.refl _, fun a (z : false = true) => Bool.noConfusion z, fun _ z => z, fun i d e => h.at_ e k, by simp [h.length], fun _ z => z⟩
end
end TL

/-! factors_of at -1 and -2 -/
namespace TL
open PySem PySem.Spec PyProof.Rows L2 Evl SlX StX C8
theorem room1 {k : Nat} {A : Around} (r : Room k A) : A.units + 1 < cLine := by have := r.units; omega
inductive OVs (K : PySem.W.Frag) (cl : Nat → Addr) (G : Hp) : List (Option V) → List (Option D) → Prop
  | nil : OVs K cl G [] []
  | un {x : Option V} {σ : List (Option V)} {ds : List (Option D)} : OVs K cl G σ ds → OVs K cl G (x :: σ) (none :: ds)
  | so {v : V} {d : D} {σ : List (Option V)} {ds : List (Option D)} : HD K cl G v d → OVs K cl G σ ds → OVs K cl G (some v :: σ) (some d :: ds)
theorem OVs.len {K : PySem.W.Frag} {cl : Nat → Addr} {G : Hp} : ∀ {σ : List (Option V)} {ds : List (Option D)}, OVs K cl G σ ds → ds.length = σ.length
  | _, _, .nil => rfl
  | _, _, .un r => congrArg Nat.succ r.len
  | _, _, .so _ r => congrArg Nat.succ r.len
theorem OVs.get {K : PySem.W.Frag} {cl : Nat → Addr} {G : Hp} : ∀ {σ : List (Option V)} {ds : List (Option D)} {i : Nat} {d : D}, OVs K cl G σ ds → ds[i]? = some (some d) → ∃ v, σ[i]? = some (some v) ∧ HD K cl G v d
  | _, _, _, _, .nil, e => by simp at e
  | _, _, 0, _, .un _, e => by simp at e
  | _, _, 0, _, .so h _, e => by simp at e; subst e; exact ⟨_, rfl, h⟩
  | _, _, i + 1, _, .un r, e => by
    obtain ⟨v, a, b⟩ := OVs.get (i := i) r (by simpa using e)
    exact ⟨v, by simpa using a, b⟩
  | _, _, i + 1, _, .so _ r, e => by
    obtain ⟨v, a, b⟩ := OVs.get (i := i) r (by simpa using e)
    exact ⟨v, by simpa using a, b⟩
theorem OVs.rel {K : PySem.W.Frag} {cl : Nat → Addr} {H : Hp} {σ : L2.St} {ds : List (Option D)} (h : OVs K cl H σ ds) : Rel K cl ⟨H, nO, 0, 0⟩ nO σ H ⟨ds, .no⟩ :=
  ⟨Ex.refl _, fun a (z : false = true) => Bool.noConfusion z, fun _ z => z, fun i d e => h.get e, h.len, fun _ z => z⟩
section
variable {P : Program} {w : World} {K : PySem.W.Frag} {mg : Str → Option Value} {base : Heap}
/-- factors_of, at -1 and -2 -/
def spFac : Sp := fun vs H Q _ => ∃ (i : Int) (kvs : List (Key × V)), vs = [.int i] ∧ ((i = -1 ∧ kvs = []) ∨ (i = -2 ∧ kvs = [(.inl 2, .int 1)])) ∧ ∀ p H', Ex H H' → H p = none → H' p = some (.dK kvs) → Q (.ref p) H'
abbrev N_factors_of : List Str := ["number", "found", "left", "factor"]
abbrev P_factors_of : List Str := ["number"]
theorem sc_factors_of : FnScope N_factors_of P_factors_of (defScope s_factors_of) := ⟨rfl, rfl, rfl, by decide +kernel, rfl, by decide +kernel, by decide +kernel⟩
theorem o_factors_of (T : Tx K mg) : ∃ fd, FnOk P w K mg base L2.CX0 1 (a_factors_of K) fd P_factors_of spFac ∧ L2.FunD K "factors_of" q_factors_of (defArgs s_factors_of) (defBody s_factors_of) (defScope s_factors_of) [] [] (a_factors_of K) fd := by
  obtain ⟨fd, F⟩ := T.fn_factors_of
  refine ⟨fd, F.ok sc_factors_of (fun vs H Q E ⟨i, kvs, e, _⟩ => by rw [e]; rfl) fun cdv A outer s H vs Q E hr h => ⟨_, PSs.nox (pss_cons (ps_par (i := 1) (j := 2) rfl sc_factors_of.nd rfl rfl (by decide) rfl rfl (pa_cons pe_dnewK (pa_cons (d_cb (cl := clK K) call_abs fc_abs T.b_abs (da_cons (dv 0) da_nil)) pa_nil)) (by rfl))
    (pss_cons (ps_set (i := 3) sc_factors_of.nd rfl (.inl rfl) (d_int (cl := clK K)))
      (pss_cons (ps_while PassesOwn.never (dt_cmp (cl := clK K) op_le (fd_I0 fun _ _ _ => .bl _) (d_mul (dv 3) (dv 3)) (dv 2)) pss_never)
        (pss_cons (ps_if (dt_cmp (cl := clK K) op_gt (fd_I0 fun _ _ _ => .bl _) (dv 2) d_int) (pss_one (ps_dput (room1 hr) (pv 1) (pv 2) (pe_op op_add (pe_dget2 (room1 hr) (pv 1) (pv 2) pe_int ⟨rfl, rfl, rfl, rfl⟩) pe_int) (by rfl))) pss_nil)
          (pss_one (ps_ret (pv 1))))))), ?_⟩, F⟩
  obtain ⟨i, kvs, rfl, hk, q⟩ := h
  intro p np
  rcases hk with ⟨rfl, rfl⟩ | ⟨rfl, rfl⟩
  · refine ⟨_, nO, 5, _, .int 1, (OVs.so (.int (-1)) (.un (.un (.un .nil)))).rel, rfl, fun H1 v x1 hv => ?_⟩
    cases hv
    refine ⟨_, _, rfl, _, nO, 5, _, .int 2, (OVs.un (.un (.un (.un .nil)))).rel, rfl, fun H2 v x2 hv => ?_⟩
    cases hv
    refine ⟨fun m σ' H' => σ' = [some (.int (-1)), some (.ref p), some (.int 1), some (.int 2)] ∧ Ex H2 H', ⟨0, rfl, Ex.refl _⟩, ?_⟩
    rintro m σ' H' ⟨rfl, x3⟩
    refine ⟨_, nO, 5, _, false, (OVs.un (.un (.so (.int 1) (.so (.int 2) .nil)))).rel, rfl, fun H3 x4 => ?_⟩
    refine iteF ?_
    refine ⟨_, nO, 5, _, false, (OVs.un (.un (.so (.int 1) (.so (.int 2) .nil)))).rel, rfl, fun H4 x5 => ?_⟩
    refine iteF ?_
    have x15 : Ex (upd H p (.dK [])) H4 := x1.trans (x2.trans (x3.trans (x4.trans x5)))
    exact ⟨.ref p, rfl, q p H4 ((Ex.new np).trans x15) np (x15 _ _ upd_same)⟩
  · refine ⟨_, nO, 5, _, .int 2, (OVs.so (.int (-2)) (.un (.un (.un .nil)))).rel, rfl, fun H1 v x1 hv => ?_⟩
    cases hv
    refine ⟨_, _, rfl, _, nO, 5, _, .int 2, (OVs.un (.un (.un (.un .nil)))).rel, rfl, fun H2 v x2 hv => ?_⟩
    cases hv
    refine ⟨fun m σ' H' => σ' = [some (.int (-2)), some (.ref p), some (.int 2), some (.int 2)] ∧ Ex H2 H', ⟨0, rfl, Ex.refl _⟩, ?_⟩
    rintro m σ' H' ⟨rfl, x3⟩
    refine ⟨_, nO, 5, _, false, (OVs.un (.un (.so (.int 2) (.so (.int 2) .nil)))).rel, rfl, fun H3 x4 => ?_⟩
    refine iteF ?_
    refine ⟨_, nO, 5, _, true, (OVs.un (.un (.so (.int 2) (.so (.int 2) .nil)))).rel, rfl, fun H4 x5 => ?_⟩
    refine iteT ?_
    have x15 : Ex (upd H p (.dK [])) H4 := x1.trans (x2.trans (x3.trans (x4.trans x5)))
    have h4 : H4 p = some (.dK []) := x15 _ _ upd_same
    refine ⟨.ref p, rfl, p, rfl, .inl ⟨_, .inl h4⟩, .int 2, rfl, none, DGet.k (k := .inl 2) h4, 0, 1, rfl, rfl, ?_⟩
    refine ⟨.ref p, rfl, .int 2, rfl, p, _, rfl, DPut.k (k := .inl 2) h4 (by rw [sizeLine_eq]; decide), ?_⟩
    exact ⟨.ref p, rfl, q p _ (((Ex.new np).trans x15).mut np) np upd_same⟩
end
end TL

/-! the places that places_of asks -/
namespace TL
open PySem PySem.Spec PyProof.Rows L2 Evl SlX StX C8
section
variable {P : Program} {w : World} {K : PySem.W.Frag} {mg : Str → Option Value} {base : Heap}
theorem cal_factors_of (T : Tx K mg) : Cal P w K mg base 1 "factors_of" spFac [] := by
  obtain ⟨fd, G, F⟩ := o_factors_of (P := P) (w := w) (base := base) T
  exact ⟨_, fd, _, [], G, T.gl_factors_of, F.kp, FunD.bindsN F (fun _ _ _ _ _ _ us hl => match us, hl with | [_], _ => rfl), .nil⟩
end
def eNear : EE := fun _ τ => match τ.sl[0]?, τ.sl[1]? with
  | some (some (D.int a)), some (some (D.int b)) => if a = -1 ∧ (b = -1 ∨ b = -2) then some (.lst [.int 0, .int 2]) else none
  | _, _ => none
theorem sorted_02 {ys : List Int} (h : ys.Perm [0, 2]) (hs : ys.Pairwise (· ≤ ·)) : ys = [0, 2] := by
  have hl := h.length_eq
  match ys, hl with
  | [x, y], _ =>
    have hx : x ∈ [(0 : Int), 2] := h.mem_iff.mp (by simp)
    have hy : y ∈ [(0 : Int), 2] := h.mem_iff.mp (by simp)
    have hxy : x ≤ y := by simpa using hs
    simp at hx hy
    rcases hx with rfl | rfl <;> rcases hy with rfl | rfl
    · exact absurd h (by decide)
    · rfl
    · omega
    · exact absurd h (by decide)
theorem facs {b : Int} (h : b = -1 ∨ b = -2) : ∃ kvs : List (Key × V), ((b = -1 ∧ kvs = []) ∨ (b = -2 ∧ kvs = [(.inl 2, .int 1)])) ∧ kvs.length ≤ 1 ∧ (mergeK (mergeK (mergeK [] [(.inl 0, .bl true), (.inl 2, .bl true)]) []) kvs).map (·.1) = [(0 : Int), 2].map Sum.inl := by
  rcases h with rfl | rfl
  · exact ⟨[], .inl ⟨rfl, rfl⟩, by simp, rfl⟩
  · exact ⟨_, .inr ⟨rfl, rfl⟩, by simp, rfl⟩
section
variable {X : Cx}
theorem d_near {j : Nat} {p1 p2 p3 p4 p5 p6 p7 p8 p9 p10 p11 pos pos' : Pos} {j3 j4 j5} (T : Tx X.K X.mg) (hx : ∀ e s, X.xe e s → False) (hc : X.calm = true) (hr : Room j X.A) (hj : 1 ≤ j := by decide) (hN0 : X.N[0]? = some ("a" : Str) := by rfl) (hN1 : X.N[1]? = some ("b" : Str) := by rfl)
    (ha : Vis X.env.scope "a" := by first | exact Or.inl rfl | exact Or.inr (Or.inl rfl)) (hb : Vis X.env.scope "b" := by first | exact Or.inl rfl | exact Or.inr (Or.inl rfl)) (g1 : Gl X "sorted" := by rfl) (g2 : Gl X "REAL" := by rfl) (g3 : Gl X "factors_of" := by rfl)
    (s2 : (backTo pos' (starEach [] X.env)).any (·.1) = false := by rfl)
    (s3 : (backTo p8 (starEach [] X.env)).any (·.1) = false := by rfl) (s4 : (backTo p11 (starEach [] X.env)).any (·.1) = false := by rfl)
    (s5 : starEach [(.Name "a" p7 : Expr)] X.env = (false, eval (.Name "a" p7) X.env) :: starEach [] X.env := by rfl) (s6 : starEach [(.Name "b" p10 : Expr)] X.env = (false, eval (.Name "b" p10) X.env) :: starEach [] X.env := by rfl)
    (s7 : starEach [(.Dict [some (.Name "REAL" p2), some (.Constant (.int 2) j3 p3), none, none] [.Constant (.bool true) j4 p4, .Constant (.bool true) j5 p5, .Call (.Name "factors_of" p6) [.Name "a" p7] [] p8, .Call (.Name "factors_of" p9) [.Name "b" p10] [] p11] pos : Expr)] X.env =
      (false, eval (.Dict [some (.Name "REAL" p2), some (.Constant (.int 2) j3 p3), none, none] [.Constant (.bool true) j4 p4, .Constant (.bool true) j5 p5, .Call (.Name "factors_of" p6) [.Name "a" p7] [] p8, .Call (.Name "factors_of" p9) [.Name "b" p10] [] p11] pos) X.env) :: starEach [] X.env := by rfl) :
    DE (clK X.K) X (.Call (.Name "sorted" p1) [.Dict [some (.Name "REAL" p2), some (.Constant (.int 2) j3 p3), none, none] [.Constant (.bool true) j4 p4, .Constant (.bool true) j5 p5, .Call (.Name "factors_of" p6) [.Name "a" p7] [] p8, .Call (.Name "factors_of" p9) [.Name "b" p10] [] p11] pos] [] pos') eNear := by
  obtain ⟨u, v, hmg, ruv, hG⟩ := T.k_REAL
  have ev : v = .int 0 := by
    have z := hG fun _ => none
    cases z
    rfl
  subst ev
  refine pe_imp (pe_callB (call_sortedDI hc) g1 T.b_sorted (by decide +kernel) (pa_cons (pe_star hx (pe_glob g2 hmg ruv) pe_int pe_bl pe_bl (pe_c (cal_factors_of T) hr hj g3 (pa_cons (pe_var hN0 ha) pa_nil s5) (by decide) s5 s3) (pe_c (cal_factors_of T) hr hj g3 (pa_cons (pe_var hN1 hb) pa_nil s6) (by decide) s6 s4)) pa_nil s7) (by decide) (by decide) s7 s2) fun σ H Q ⟨F, O, n, τ, d, rl, h, q⟩ => ?_
  unfold eNear at h
  split at h
  · rename_i a b ea eb
    split at h
    · rename_i hab
      obtain ⟨rfl, hb2⟩ := hab
      cases h
      obtain ⟨va, hva, da⟩ := rl.sl 0 _ ea
      obtain ⟨vb, hvb, db⟩ := rl.sl 1 _ eb
      cases da
      cases db
      obtain ⟨kvs, hk1, hk2, hk3⟩ := facs hb2
      intro A nA
      refine ⟨.int (-1), hva, -1, [], rfl, .inl ⟨rfl, rfl⟩, fun p H1 x1 np hp => ?_⟩
      have hpA : p ≠ A := fun z => by rw [z, upd_same] at np; cases np
      have h1A := x1 _ _ (upd_same (H := H) (a := A))
      refine ⟨p, [], rfl, hp, by simp, hpA, h1A, .int b, hvb, b, kvs, rfl, hk1, fun p2 H2 x2 np2 hp2 => ?_⟩
      have hp2A : p2 ≠ A := fun z => by rw [z, upd_same] at np2; cases np2
      refine ⟨p2, kvs, rfl, hp2, hk2, hp2A, x2 _ _ upd_same, A, _, [0, 2], rfl, .inl upd_same, hk3, by decide, fun ys r hperm hs nr => ?_⟩
      rw [sorted_02 hperm hs]
      have xH1 : Ex H H1 := fun c o hc => x1 c o (by rw [upd_ne (ne_of_none hc nA)]; exact hc)
      have xH2 : Ex H H2 := fun c o hc => x2 c o (by rw [upd_ne (ne_of_none hc nA)]; exact xH1 c o hc)
      have hr0 : H r = none := by
        cases z : H r with
        | none => rfl
        | some o =>
          have z2 := (xH2.mut (o := .dK (mergeK (mergeK (mergeK [] [(.inl 0, .bl true), (.inl 2, .bl true)]) []) kvs)) nA) _ _ z
          rw [nr] at z2
          cases z2
      have oR : O r = false := rl.ow.new hr0
      refine q _ _ ((xH2.mut nA).mut hr0) (.lst (vs := [.int 0, .int 2]) (by rw [hide_at oR]; exact upd_same) (.cons (.int 0) (.cons (.int 2) .nil)))
    · cases h
  · cases h
end
end TL

namespace TL
open PySem PySem.Spec PyProof.Rows L2 Evl SlX StX C8
section
variable {P : Program} {w : World} {K : PySem.W.Frag} {mg : Str → Option Value} {base : Heap}
abbrev N_places_of : List Str := ["a", "b", "near", "place"]
abbrev P_places_of : List Str := ["a", "b"]
theorem sc_places_of : FnScope N_places_of P_places_of (defScope s_places_of) := ⟨rfl, rfl, rfl, by decide +kernel, rfl, by decide +kernel, by decide +kernel⟩
def e_places_of : ES := (sSeq (sAsg eNear (etName 2)) (sRet (eB fTuple (aCons (eLc (eItems (eVar 2)) (etName 3) (bOf (eBin fEq (eCall m_sign_of [] (aCons (eVar 0) (aCons (eVar 1) (aCons (eVar 3) aNil)))) (eUn fNeg (eC (.int 1))))) (eVar 3) [3]) aNil))))
def m_places_of : Nat → List D → Option D := mir N_places_of.length P_places_of.length e_places_of
theorem o_places_of (T : Tx K mg) : ∃ fd, FnOk P w K mg base L2.CX0 4 (a_places_of K) fd P_places_of (spD K (clK K) m_places_of) ∧ L2.FunD K "places_of" q_places_of (defArgs s_places_of) (defBody s_places_of) (defScope s_places_of) [] [] (a_places_of K) fd := by
  obtain ⟨fd, F⟩ := T.fn_places_of
  refine ⟨fd, fn_tree F sc_places_of (by decide) fun cdv A outer s H E hr => ?_, F⟩
  exact (dss_cons (ds_asg (d_near T (fun _ _ h => h) rfl hr) (dg_name 2 sc_places_of.nd)) (dss_one (ds_ret (d_ct call_tuple_of fc_tuple T.b_tuple (da_cons (d_lc (own := [("place", 3)]) rfl sc_places_of.nd (di_seq (dv 2)) (blkOk_by rfl) gok_name (fun _ _ _ _ _ => (gname 3 sc_places_of.nd)) (fun _ _ _ _ _ => (dts_one (dt_cmp (op_eqD hr.units) fd_eq (d_call (c_sign_of T) hr (da_cons (dv 0) (da_cons (dv 1) (da_cons (dv 3) da_nil)))) (d_neg d_int)))) (fun _ _ _ _ _ => (dv 3))) da_nil)))))
theorem c_places_of (T : Tx K mg) : CalD P w K (clK K) mg base 4 "places_of" m_places_of [] := by
  obtain ⟨fd, G, F⟩ := o_places_of (P := P) (w := w) (base := base) T
  exact calD G T.gl_places_of F.kp (FunD.bindsN F (fun _ _ _ _ _ _ us hl => match us, hl with | [_, _], _ => rfl))
abbrev N_Algebra___init__ : List Str := ["self", "a", "b", "place"]
abbrev P_Algebra___init__ : List Str := ["self", "a", "b"]
theorem sc_Algebra___init__ : FnScope N_Algebra___init__ P_Algebra___init__ (defScope s_Algebra___init__) := ⟨rfl, rfl, rfl, by decide +kernel, rfl, by decide +kernel, by decide +kernel⟩
def e_Algebra___init__ : ES := (sSeq (sExpr (eCall m_require_number [] (aCons (eVar 1) aNil))) (sSeq (sExpr (eCall m_require_number [] (aCons (eVar 2) aNil))) (sSeq (sAsg (eVar 1) (etSelf 0 l_own_a)) (sSeq (sAsg (eVar 2) (etSelf 0 l_own_b)) (sSeq (sAsg (eCall m_places_of [] (aCons (eVar 1) (aCons (eVar 2) aNil))) (etSelf 0 l_own_places)) (sSeq (sAsg (eC (.int 1)) (etSelf 0 l_own_discriminant)) (sFor (eItems (eSelf 0 l_own_places)) (etName 3) (sSelfAug 0 l_own_discriminant fMul (eB fMax2 (aCons (eC (.int 1)) (aCons (eVar 3) aNil)))))))))))
def m_Algebra : Nat → List D → Option (List D) := mirI N_Algebra___init__.length P_Algebra___init__.length 2 e_Algebra___init__
theorem o_Algebra___init__ (T : Tx K mg) : ∃ fd, FnOk P w K mg base L2.CX0 5 (a_Algebra___init__ K) fd P_Algebra___init__ (spI K (clK K) 2 m_Algebra) ∧ L2.FunD K "__init__" q_Algebra___init__ (defArgs s_Algebra___init__) (defBody s_Algebra___init__) (defScope s_Algebra___init__) [] [] (a_Algebra___init__ K) fd := by
  obtain ⟨fd, F⟩ := T.fn_Algebra___init__
  refine ⟨fd, in_tree (c := 2) F sc_Algebra___init__ (by decide) fun cdv A outer s H E hr => ?_, F⟩
  exact (dss_cons (ds_expr (d_call (c_require_number T) hr (da_cons (dv 1) da_nil))) (dss_cons (ds_expr (d_call (c_require_number T) hr (da_cons (dv 2) da_nil))) (dss_cons (ds_self T.s_own_a (pv 0) (dv 1)) (dss_cons (ds_self T.s_own_b (pv 0) (dv 2)) (dss_cons (ds_self T.s_own_places (pv 0) (d_call (c_places_of T) hr (da_cons (dv 1) (da_cons (dv 2) da_nil)))) (dss_cons (ds_self T.s_own_discriminant (pv 0) d_int) (dss_one (ds_for PassesOwn.never rfl (di_seq (d_self T.s_own_places (pv 0))) (dg_name 3 sc_Algebra___init__.nd) (dss_one (ds_selfAug T.s_own_discriminant (pv 0) (d_cb (call_max2 rfl) fc_max2 T.b_max (da_cons d_int (da_cons (dv 3) da_nil))) iop_mulW fd_mulW))))))))))
theorem k_Algebra (T : Tx K mg) : MakD P w K (clK K) mg base 5 "Algebra" 2 m_Algebra [] := by
  obtain ⟨fd, G, F⟩ := o_Algebra___init__ (P := P) (w := w) (base := base) T
  exact makD T.mk_2 G T.gl_Algebra (FunD.bindsN F (fun _ _ _ _ _ _ us hl => match us, hl with | [_, _, _], _ => rfl))
abbrev N_whole_lattice : List Str := []
abbrev P_whole_lattice : List Str := []
theorem sc_whole_lattice : FnScope N_whole_lattice P_whole_lattice (defScope s_whole_lattice) := ⟨rfl, rfl, rfl, by decide +kernel, rfl, by decide +kernel, by decide +kernel⟩
def e_whole_lattice : ES := (sRet (eCall m_lattice_with [] (aCons (eMake 2 m_Algebra [] (aCons (eUn fNeg (eC (.int 1))) (aCons (eUn fNeg (eC (.int 1))) aNil))) (aCons (eTup (aCons (eTup (aCons (eC (.int 1)) (aCons (eC (.int 1)) (aCons (eC (.int 1)) (aCons (eC (.int 1)) aNil))))) (aCons (eTup (aCons (eC (.int 0)) (aCons (eC (.int 2)) (aCons (eC (.int 0)) (aCons (eC (.int 0)) aNil))))) (aCons (eTup (aCons (eC (.int 0)) (aCons (eC (.int 0)) (aCons (eC (.int 2)) (aCons (eC (.int 0)) aNil))))) (aCons (eTup (aCons (eC (.int 0)) (aCons (eC (.int 0)) (aCons (eC (.int 0)) (aCons (eC (.int 2)) aNil))))) aNil))))) (aCons (eC (.int 2)) aNil)))))
def m_whole_lattice : Nat → List D → Option D := mir N_whole_lattice.length P_whole_lattice.length e_whole_lattice
theorem o_whole_lattice (T : Tx K mg) : ∃ fd, FnOk P w K mg base L2.CX0 7 (a_whole_lattice K) fd P_whole_lattice (spD K (clK K) m_whole_lattice) ∧ L2.FunD K "whole_lattice" q_whole_lattice (defArgs s_whole_lattice) (defBody s_whole_lattice) (defScope s_whole_lattice) [] [] (a_whole_lattice K) fd := by
  obtain ⟨fd, F⟩ := T.fn_whole_lattice
  refine ⟨fd, fn_tree F sc_whole_lattice (by decide) fun cdv A outer s H E hr => ?_, F⟩
  exact (dss_one (ds_ret (d_call (c_lattice_with T) hr (da_cons (d_make (k_Algebra T) hr (da_cons (d_neg d_int) (da_cons (d_neg d_int) da_nil))) (da_cons (d_tup (da_cons (d_tup (da_cons d_int (da_cons d_int (da_cons d_int (da_cons d_int da_nil))))) (da_cons (d_tup (da_cons d_int (da_cons d_int (da_cons d_int (da_cons d_int da_nil))))) (da_cons (d_tup (da_cons d_int (da_cons d_int (da_cons d_int (da_cons d_int da_nil))))) (da_cons (d_tup (da_cons d_int (da_cons d_int (da_cons d_int (da_cons d_int da_nil))))) da_nil))))) (da_cons d_int da_nil))))))
theorem c_whole_lattice (T : Tx K mg) : CalD P w K (clK K) mg base 7 "whole_lattice" m_whole_lattice [] := by
  obtain ⟨fd, G, F⟩ := o_whole_lattice (P := P) (w := w) (base := base) T
  exact calD G T.gl_whole_lattice F.kp (FunD.bindsN F (fun _ _ _ _ _ _ us hl => match us, hl with | [], _ => rfl))
abbrev N__law_four : List Str := ["_law_one"]
abbrev P__law_four : List Str := ["_law_one"]
theorem sc__law_four : FnScope N__law_four P__law_four (defScope s__law_four) := ⟨rfl, rfl, rfl, by decide +kernel, rfl, by decide +kernel, by decide +kernel⟩
def e__law_four : ES := (sRet (eMake 4 m_Four [] (aCons (eMake 2 m_Algebra [] (aCons (eUn fNeg (eC (.int 1))) (aCons (eUn fNeg (eC (.int 1))) aNil))) (aCons (eVar 0) (aCons (eC (.int 2)) aNil)))))
def m__law_four : Nat → List D → Option D := mir N__law_four.length P__law_four.length e__law_four
theorem o__law_four (T : Tx K mg) : ∃ fd, FnOk P w K mg base L2.CX0 8 (a__law_four K) fd P__law_four (spD K (clK K) m__law_four) ∧ L2.FunD K "_law_four" q__law_four (defArgs s__law_four) (defBody s__law_four) (defScope s__law_four) [] [] (a__law_four K) fd := by
  obtain ⟨fd, F⟩ := T.fn__law_four
  refine ⟨fd, fn_tree F sc__law_four (by decide) fun cdv A outer s H E hr => ?_, F⟩
  exact (dss_one (ds_ret (d_make (k_Four T) hr (da_cons (d_make (k_Algebra T) hr (da_cons (d_neg d_int) (da_cons (d_neg d_int) da_nil))) (da_cons (dv 0) (da_cons d_int da_nil))))))
theorem c__law_four (T : Tx K mg) : CalD P w K (clK K) mg base 8 "_law_four" m__law_four [] := by
  obtain ⟨fd, G, F⟩ := o__law_four (P := P) (w := w) (base := base) T
  exact calD G T.gl__law_four F.kp (FunD.bindsN F (fun _ _ _ _ _ _ us hl => match us, hl with | [_], _ => rfl))
abbrev N__law_is_whole : List Str := ["_law_value", "_law_entry"]
abbrev P__law_is_whole : List Str := ["_law_value"]
theorem sc__law_is_whole : FnScope N__law_is_whole P__law_is_whole (defScope s__law_is_whole) := ⟨rfl, rfl, rfl, by decide +kernel, rfl, by decide +kernel, by decide +kernel⟩
def e__law_is_whole : ES := (sSeq (sIf (bOr (bNot (bOf (eB (fIsi isiT) (aCons (eVar 0) (aCons (eC (.cls 4)) aNil))))) (bOr (bOf (eBinN (fNeO 2 nfT m_Algebra___eq__) (eProp 4 m_Four_algebra (eVar 0)) (eMake 2 m_Algebra [] (aCons (eUn fNeg (eC (.int 1))) (aCons (eUn fNeg (eC (.int 1))) aNil))))) (bOf (eBin fGt (eProp 4 m_Four_bottom (eVar 0)) (eC (.int 2)))))) (sRet (eC (.bl false))) sNx) (sRet (eOr (eBin fEq (eProp 4 m_Four_bottom (eVar 0)) (eC (.int 1))) (eBin fEq (eLc (eItems (eProp 4 m_Four_entries (eVar 0))) (etName 1) (bOf (eBin fEq (eBin fMod (eVar 1) (eC (.int 2))) (eC (.int 0)))) (eVar 1) [1]) (eLst aNil)))))
def m__law_is_whole : Nat → List D → Option D := mir N__law_is_whole.length P__law_is_whole.length e__law_is_whole
theorem o__law_is_whole (T : Tx K mg) : ∃ fd, FnOk P w K mg base L2.CX0 7 (a__law_is_whole K) fd P__law_is_whole (spD K (clK K) m__law_is_whole) ∧ L2.FunD K "_law_is_whole" q__law_is_whole (defArgs s__law_is_whole) (defBody s__law_is_whole) (defScope s__law_is_whole) [] [] (a__law_is_whole K) fd := by
  obtain ⟨fd, F⟩ := T.fn__law_is_whole
  refine ⟨fd, fn_tree F sc__law_is_whole (by decide) fun cdv A outer s H E hr => ?_, F⟩
  exact (dss_cons (ds_if (dt_w (dw_or (dt_not (dt_val (d_cb cr_isi (fc_isi T.isi) T.b_isinstance (da_cons (dv 0) (da_cons (d_gl T.k_Four) da_nil))))) (dw_or (dt_neO T.nf T.ne_2 (t_Algebra___eq__ T) hr (d_prop (p_Four_algebra T) hr (dv 0)) (d_make (k_Algebra T) hr (da_cons (d_neg d_int) (da_cons (d_neg d_int) da_nil)))) (dw_or1 (dt_cmp op_gt (fd_I0 fun _ _ _ => .bl _) (d_prop (p_Four_bottom T) hr (dv 0)) d_int))))) (dss_one (ds_ret d_bl)) dss_nil) (dss_one (ds_ret (d_or (d_eq hr (d_prop (p_Four_bottom T) hr (dv 0)) d_int) (d_one (d_eq hr (d_lc (own := [("_law_entry", 1)]) rfl sc__law_is_whole.nd (di_seq (d_prop (p_Four_entries T) hr (dv 0))) (blkOk_by rfl) gok_name (fun _ _ _ _ _ => (gname 1 sc__law_is_whole.nd)) (fun _ _ _ _ _ => (dts_one (dt_cmp (op_eqD hr.units) fd_eq (d_mod (dv 1) d_int) d_int))) (fun _ _ _ _ _ => (dv 1))) (d_lst da_nil)))))))
theorem c__law_is_whole (T : Tx K mg) : CalD P w K (clK K) mg base 7 "_law_is_whole" m__law_is_whole [] := by
  obtain ⟨fd, G, F⟩ := o__law_is_whole (P := P) (w := w) (base := base) T
  exact calD G T.gl__law_is_whole F.kp (FunD.bindsN F (fun _ _ _ _ _ _ us hl => match us, hl with | [_], _ => rfl))
abbrev N__law_near_right : List Str := ["_law_pot_here", "_law_one", "_law_four_here", "_law_lattice", "_law_bent", "_law_some", "_law_value", "_law_due"]
abbrev P__law_near_right : List Str := ["_law_pot_here", "_law_one"]
theorem sc__law_near_right : FnScope N__law_near_right P__law_near_right (defScope s__law_near_right) := ⟨rfl, rfl, rfl, by decide +kernel, rfl, by decide +kernel, by decide +kernel⟩
def e__law_near_right : ES := (sSeq (sPar 2 3 (aCons (eCall m__law_four [] (aCons (eVar 1) aNil)) (aCons (eCall m_whole_lattice [] aNil) aNil))) (sSeq (sAsg (eBin fAdd (eLst (aCons (eBin fAdd (eBin fIx (eVar 1) (eC (.int 0))) (eC (.int 1))) aNil)) (eB fList (aCons (eSl (eVar 1) (oSome (eC (.int 1))) oNone) aNil))) (etName 4)) (sSeq (sAsg (eLst (aCons (eVar 2) (aCons (eMake 4 m_Four [] (aCons (eMake 2 m_Algebra [] (aCons (eUn fNeg (eC (.int 1))) (aCons (eUn fNeg (eC (.int 1))) aNil))) (aCons (eB fTuple (aCons (eVar 4) aNil)) (aCons (eC (.int 2)) aNil)))) (aCons (eMake 4 m_Four [] (aCons (eMake 2 m_Algebra [] (aCons (eUn fNeg (eC (.int 1))) (aCons (eUn fNeg (eC (.int 1))) aNil))) (aCons (eVar 1) (aCons (eC (.int 3)) aNil)))) (aCons (eMake 4 m_Four [] (aCons (eMake 2 m_Algebra [] (aCons (eUn fNeg (eC (.int 1))) (aCons (eUn fNeg (eC (.int 2))) aNil))) (aCons (eVar 1) (aCons (eC (.int 2)) aNil)))) aNil))))) (etName 5)) (sSeq (sAsg (eBin fAdd (eVar 5) (eLst (aCons (eVar 1) (aCons (eB fList (aCons (eVar 1) aNil)) (aCons (eC .non) (aCons (eC (.int 1)) (aCons (eC (.str "1")) (aCons (eC (.bl true)) (aCons (eVar 3) (aCons (eTup (aCons (eVar 2) aNil)) (aCons (eMake 4 m_Four [] (aCons (eMake 2 m_Algebra [] (aCons (eUn fNeg (eC (.int 1))) (aCons (eUn fNeg (eC (.int 1))) aNil))) (aCons (eVar 1) (aCons (eC (.int 4)) aNil)))) (aCons (eMake 4 m_Four [.int 1] (aCons (eMake 2 m_Algebra [] (aCons (eUn fNeg (eC (.int 1))) (aCons (eUn fNeg (eC (.int 1))) aNil))) (aCons (eVar 1) aNil))) aNil)))))))))))) (etName 5)) (sSeq (sFor (eItems (eVar 5)) (etName 6) (sSeq (sAsg (eCall m__law_is_whole [] (aCons (eVar 6) aNil)) (etName 7)) (sIf (bOr (bOf (eBin fNe (eCall m_is_whole_hurwitz [] (aCons (eVar 6) aNil)) (eVar 7))) (bOf (eBin fNe (eBinN (fInO 6 m_Lattice___contains__ id) (eVar 6) (eVar 3)) (eVar 7)))) (sRet (eC (.bl false))) sNx))) (sRet (eC (.bl true))))))))
def m__law_near_right : Nat → List D → Option D := mir N__law_near_right.length P__law_near_right.length e__law_near_right
theorem o__law_near_right (T : Tx K mg) : ∃ fd, FnOk P w K mg base L2.CX0 9 (a__law_near_right K) fd P__law_near_right (spD K (clK K) m__law_near_right) ∧ L2.FunD K "_law_near_right" q__law_near_right (defArgs s__law_near_right) (defBody s__law_near_right) (defScope s__law_near_right) [] [] (a__law_near_right K) fd := by
  obtain ⟨fd, F⟩ := T.fn__law_near_right
  refine ⟨fd, fn_tree F sc__law_near_right (by decide) fun cdv A outer s H E hr => ?_, F⟩
  exact (dss_cons (ds_par (i := 2) (j := 3) rfl sc__law_near_right.nd rfl rfl (by decide) rfl rfl (da_cons (d_call (c__law_four T) hr (da_cons (dv 1) da_nil)) (da_cons (d_call0 (c_whole_lattice T) hr) da_nil)) (by rfl)) (dss_cons (ds_asg (d_add (d_lst (da_cons (d_add (d_ix (dv 1) d_int) d_int) da_nil)) (d_ct call_list_of fc_list T.b_list (da_cons (d_slice (dv 1) (do_some d_int) do_none) da_nil))) (dg_name 4 sc__law_near_right.nd)) (dss_cons (ds_asg (d_lst (da_cons (dv 2) (da_cons (d_make (k_Four T) hr (da_cons (d_make (k_Algebra T) hr (da_cons (d_neg d_int) (da_cons (d_neg d_int) da_nil))) (da_cons (d_ct call_tuple_of fc_tuple T.b_tuple (da_cons (dv 4) da_nil)) (da_cons d_int da_nil)))) (da_cons (d_make (k_Four T) hr (da_cons (d_make (k_Algebra T) hr (da_cons (d_neg d_int) (da_cons (d_neg d_int) da_nil))) (da_cons (dv 1) (da_cons d_int da_nil)))) (da_cons (d_make (k_Four T) hr (da_cons (d_make (k_Algebra T) hr (da_cons (d_neg d_int) (da_cons (d_neg d_int) da_nil))) (da_cons (dv 1) (da_cons d_int da_nil)))) da_nil))))) (dg_name 5 sc__law_near_right.nd)) (dss_cons (ds_asg (d_add (dv 5) (d_lst (da_cons (dv 1) (da_cons (d_ct call_list_of fc_list T.b_list (da_cons (dv 1) da_nil)) (da_cons d_non (da_cons d_int (da_cons d_str (da_cons d_bl (da_cons (dv 3) (da_cons (d_tup (da_cons (dv 2) da_nil)) (da_cons (d_make (k_Four T) hr (da_cons (d_make (k_Algebra T) hr (da_cons (d_neg d_int) (da_cons (d_neg d_int) da_nil))) (da_cons (dv 1) (da_cons d_int da_nil)))) (da_cons (d_make (k_Four_d T) hr (da_cons (d_make (k_Algebra T) hr (da_cons (d_neg d_int) (da_cons (d_neg d_int) da_nil))) (da_cons (dv 1) da_nil))) da_nil)))))))))))) (dg_name 5 sc__law_near_right.nd)) (dss_cons (ds_for PassesOwn.never rfl (di_seq (dv 5)) (dg_name 6 sc__law_near_right.nd) (dss_cons (ds_asg (d_call (c__law_is_whole T) hr (da_cons (dv 6) da_nil)) (dg_name 7 sc__law_near_right.nd)) (dss_one (ds_if (dt_w (dw_or (dt_cmp (op_neD hr.units) fd_ne (d_call (c_is_whole_hurwitz T) hr (da_cons (dv 6) da_nil)) (dv 7)) (dw_or1 (dt_cmp (op_neD hr.units) fd_ne (d_inO (t_Lattice___contains__ T) hr (dv 6) (dv 3)) (dv 7))))) (dss_one (ds_ret d_bl)) dss_nil)))) (dss_one (ds_ret d_bl)))))))
theorem c__law_near_right (T : Tx K mg) : CalD P w K (clK K) mg base 9 "_law_near_right" m__law_near_right [] := by
  obtain ⟨fd, G, F⟩ := o__law_near_right (P := P) (w := w) (base := base) T
  exact calD G T.gl__law_near_right F.kp (FunD.bindsN F (fun _ _ _ _ _ _ us hl => match us, hl with | [_, _], _ => rfl))
end
end TL

/-! The law's own pot: a list of three whole numbers that its helpers change -/
namespace TL
open PySem PySem.Spec PyProof.Rows L2 Evl SlX StX C8

theorem log_small {i : Int} {b : Nat} (h : i.natAbs < 2 ^ b) (h0 : 0 < b) : i.natAbs.log2 < b := PySem.Flt.log2_lt_of h0 h
theorem fMul_ok {i j : Int} (hi : i.natAbs < 2 ^ 3000) (hj : j.natAbs < 2 ^ 3000) : fMul (.int i) (.int j) = some (.int (i * j)) := by
  have h1 := log_small hi (by decide)
  have h2 := log_small hj (by decide)
  unfold fMul fIC
  have : decide (i.natAbs.log2 + j.natAbs.log2 < 1000000) = true := decide_eq_true (by omega)
  simp only [this, if_true]
theorem fMod_ok {i j : Int} (hj : 0 < j) : fMod (.int i) (.int j) = some (.int (i % j)) := by
  unfold fMod fModP fIC
  simp only [decide_eq_true hj, if_true]
theorem fDiv_ok {i j : Int} (hj : 0 < j) (h : j.natAbs < 2 ^ 3000) : fDiv (.int i) (.int j) = some (.int (i / j)) := by
  have h1 := log_small h (by decide)
  have h2 : decide (j.natAbs.log2 < 9000) = true := decide_eq_true (by omega)
  unfold fDiv fDivP fIC
  simp only [decide_eq_true hj, h2, Bool.and_self, if_true]
theorem eBin_eq {f : D → D → Option D} {ea eb : EE} {n : Nat} {τ : Sta} {x y d : D} (ha : ea n τ = some x) (hb : eb n τ = some y) (hf : f x y = some d) : eBin f ea eb n τ = some d := by
  unfold eBin
  rw [ha, hb]
  exact hf
theorem eUn_eq {f : D → Option D} {ea : EE} {n : Nat} {τ : Sta} {x d : D} (ha : ea n τ = some x) (hf : f x = some d) : eUn f ea n τ = some d := by
  unfold eUn
  rw [ha]
  exact hf
theorem aCons_eq {ea : EE} {ar : EA} {n : Nat} {τ : Sta} {x : D} {ds : List D} (ha : ea n τ = some x) (hr : ar n τ = some ds) : aCons ea ar n τ = some (x :: ds) := by
  unfold aCons
  rw [ha, hr]
theorem eB_eq {f : List D → Option D} {ar : EA} {n : Nat} {τ : Sta} {ds : List D} {d : D} (ha : ar n τ = some ds) (hf : f ds = some d) : eB f ar n τ = some d := by
  unfold eB
  rw [ha]
  exact hf
/-- the pot stands at a; at most n turns without its great number are done -/
def Pot (n : Int) (H : Hp) (a : Addr) : Prop := ∃ p0 p1 p2 : Int, H a = some (.lst [.int p0, .int p1, .int p2]) ∧ (0 ≤ p1 ∧ p1 < 2305843009213693951) ∧ (0 ≤ p2 ∧ p2 ≤ n)
/-- all but what stands at a -/
def PEx (a : Addr) (H H' : Hp) : Prop := ∀ b u, b ≠ a → H b = some u → H' b = some u
theorem PEx.of {a : Addr} {H H' : Hp} (e : Ex H H') : PEx a H H' := fun b u _ h => e b u h
theorem PEx.trans {a : Addr} {H H1 H2 : Hp} (e : PEx a H H1) (f : PEx a H1 H2) : PEx a H H2 := fun b u n h => f b u n (e b u n h)
theorem PEx.upd {a : Addr} {H : Hp} {o : HO} : PEx a H (upd H a o) := fun b u n h => by rw [upd_ne n]; exact h
def spDip : Sp := fun vs H Q _ => ∃ (a : Addr) (t n : Int), vs = [.ref a, .int t] ∧ (0 < t ∧ t < 2 ^ 200) ∧ n < 1000 ∧ Pot n H a ∧ ∀ (r : Int) H', 0 ≤ r → r < t → PEx a H H' → Pot (n + 1) H' a → Q (.int r) H'
section
variable {P : Program} {w : World} {K : PySem.W.Frag} {mg : Str → Option Value} {base : Heap}
abbrev N__law_dip : List Str := ["_law_pot_here", "_law_total", "_law_found", "_law_one", "_law_two"]
abbrev P__law_dip : List Str := ["_law_pot_here", "_law_total"]
theorem sc__law_dip : FnScope N__law_dip P__law_dip (defScope s__law_dip) := ⟨rfl, rfl, rfl, by decide +kernel, rfl, by decide +kernel, by decide +kernel⟩
theorem o__law_dip (T : Tx K mg) : ∃ fd, FnOk P w K mg base L2.CX0 1 (a__law_dip K) fd P__law_dip spDip ∧ L2.FunD K "_law_dip" q__law_dip (defArgs s__law_dip) (defBody s__law_dip) (defScope s__law_dip) [] [] (a__law_dip K) fd := by
  obtain ⟨fd, F⟩ := T.fn__law_dip
  refine ⟨fd, F.ok sc__law_dip (fun vs H Q E ⟨a, t, n, e, _⟩ => by rw [e]; rfl) fun cdv A outer s H vs Q E hr h => ⟨_, PSs.nox (pss_cons
    (ps_if (dt_cmp (cl := clK K) op_gt (fd_I0 fun _ _ _ => .bl _) (d_ix (dv 0) d_int) d_int) (pss_cons (ps_set (i := 2) sc__law_dip.nd rfl (.inl rfl) (d_mod (cl := clK K) (d_ct call_int1 fc_int1 T.b_int (da_cons (d_ix (dv 0) d_int) da_nil)) (dv 1)))
      (pss_cons (ps_asg (d_fdiv (cl := clK K) (d_ix (dv 0) d_int) (dv 1)) (pg_sub (pv 0) pe_int set_list)) (pss_one (ps_ret (pv 2))))) pss_nil)
    (pss_cons (ps_asg (d_add (cl := clK K) (d_ix (dv 0) d_int) d_int) (pg_sub (pv 0) pe_int set_list))
      (pss_cons (ps_set (i := 3) sc__law_dip.nd rfl (.inl rfl) (d_mod (cl := clK K) (d_ct call_int1 fc_int1 T.b_int (da_cons (d_add (d_ix (dv 0) d_int) (d_mul d_int (d_ix (dv 0) d_int))) da_nil)) d_int))
        (pss_cons (ps_set (i := 4) sc__law_dip.nd rfl (.inl rfl) (d_add (cl := clK K) (d_mul (d_mod (d_ct call_int1 fc_int1 T.b_int (da_cons (d_mul (dv 3) (dv 3)) da_nil)) d_int) (dv 3)) (d_mul d_int (d_ix (dv 0) d_int))))
          (pss_one (ps_ret (d_mod (cl := clK K) (d_ct call_int1 fc_int1 T.b_int (da_cons (d_fdiv (d_mod (d_ct call_int1 fc_int1 T.b_int (da_cons (dv 4) da_nil)) d_int) d_int) da_nil)) (dv 1)))))))), ?_⟩, F⟩
  obtain ⟨a, t, n, rfl, ⟨ht0, ht1⟩, hn, ⟨p0, p1, p2, hp, ⟨h1, h1'⟩, h2, h2'⟩, q⟩ := h
  have slt : ∀ {i : Int}, 0 ≤ i → i < 2 ^ 200 → i.natAbs < 2 ^ 3000 := fun {i} z1 z2 => by
    have e1 : (i.natAbs : Int) = i := Int.natAbs_of_nonneg z1
    have e2 : i.natAbs < 2 ^ 200 := by
      have : (i.natAbs : Int) < ((2 ^ 200 : Nat) : Int) := by rw [e1]; exact_mod_cast z2
      exact_mod_cast this
    exact Nat.lt_of_lt_of_le e2 (Nat.pow_le_pow_right (by decide) (by decide))
  have lst : ∀ {G : Hp} {x0 x1 x2 : Int}, G a = some (.lst [.int x0, .int x1, .int x2]) → HD K (clK K) G (.ref a) (.lst [.int x0, .int x1, .int x2]) := fun {G x0 x1 x2} e => .lst e (.cons (.int x0) (.cons (.int x1) (.cons (.int x2) .nil)))
  by_cases hp0 : 0 < p0
  · refine ⟨_, nO, 5, _, true, (OVs.so (lst hp) (.so (.int t) (.un (.un (.un .nil))))).rel, congrArg some (decide_eq_true hp0), fun H1 x1 => ?_⟩
    refine iteT ?_
    have hp1 := x1 _ _ hp
    refine ⟨_, nO, 5, _, .int (p0 % t), (OVs.so (lst hp1) (.so (.int t) (.un (.un (.un .nil))))).rel, fMod_ok ht0, fun H2 v x2 hv => ?_⟩
    cases hv
    have hp2 := x2 _ _ hp1
    refine ⟨_, nO, 5, _, .int (p0 / t), (OVs.so (lst hp2) (.so (.int t) (.un (.un (.un .nil))))).rel, fDiv_ok ht0 (slt (Int.le_of_lt ht0) ht1), fun H3 v x3 hv => ?_⟩
    cases hv
    refine ⟨.ref a, rfl, a, _, 0, 0, rfl, rfl, x3 _ _ hp2, rfl, ?_⟩
    refine ⟨.int (p0 % t), rfl, q _ _ (Int.emod_nonneg _ (Int.ne_of_gt ht0)) (Int.emod_lt_of_pos _ ht0) ((PEx.of (x1.trans (x2.trans x3))).trans .upd) ⟨p0 / t, p1, p2, upd_same, ⟨h1, h1'⟩, h2, by omega⟩⟩
  · refine ⟨_, nO, 5, _, false, (OVs.so (lst hp) (.so (.int t) (.un (.un (.un .nil))))).rel, congrArg some (decide_eq_false hp0), fun H1 x1 => ?_⟩
    refine iteF ?_
    have hp1 := x1 _ _ hp
    refine ⟨_, nO, 5, _, .int (p2 + 1), (OVs.so (lst hp1) (.so (.int t) (.un (.un (.un .nil))))).rel, rfl, fun H2 v x2 hv => ?_⟩
    cases hv
    refine ⟨.ref a, rfl, a, _, 2, 2, rfl, rfl, x2 _ _ hp1, rfl, ?_⟩
    have hp3 : upd H2 a (.lst ([.int p0, .int p1, .int p2].set 2 (.int (p2 + 1)))) a = some (.lst [.int p0, .int p1, .int (p2 + 1)]) := upd_same
    have m1 : fMul (.int 1000151) (.int (p2 + 1)) = some (.int (1000151 * (p2 + 1))) := fMul_ok (by rw [show ((1000151 : Int).natAbs) = 1000151 from rfl]; exact Nat.lt_of_lt_of_le (by decide : 1000151 < 2 ^ 200) (Nat.pow_le_pow_right (by decide) (by decide))) (slt (by omega) (by omega))
    have lt62 : (2305843009213693951 : Int) < 2 ^ 200 := by decide
    refine ⟨_, nO, 5, _, .int ((p1 + 1000151 * (p2 + 1)) % 2305843009213693951), (OVs.so (lst hp3) (.so (.int t) (.un (.un (.un .nil))))).rel, eBin_eq (eB_eq (aCons_eq (eBin_eq rfl (eBin_eq rfl rfl m1) rfl) rfl) rfl) rfl (fMod_ok (by decide)), fun H3 v x3 hv => ?_⟩
    cases hv
    generalize ho : (p1 + 1000151 * (p2 + 1)) % 2305843009213693951 = one
    have o1 : 0 ≤ one ∧ one < 2305843009213693951 := by rw [← ho]; exact ⟨Int.emod_nonneg _ (by decide), Int.emod_lt_of_pos _ (by decide)⟩
    have m2 : fMul (.int one) (.int one) = some (.int (one * one)) := fMul_ok (slt o1.1 (by omega)) (slt o1.1 (by omega))
    generalize hq : (one * one) % 2305843009213693907 = sq
    have o2 : 0 ≤ sq ∧ sq < 2305843009213693907 := by rw [← hq]; exact ⟨Int.emod_nonneg _ (by decide), Int.emod_lt_of_pos _ (by decide)⟩
    have m3 : fMul (.int sq) (.int one) = some (.int (sq * one)) := fMul_ok (slt o2.1 (by omega)) (slt o1.1 (by omega))
    have m4 : fMul (.int 9127) (.int (p2 + 1)) = some (.int (9127 * (p2 + 1))) := fMul_ok (slt (by decide) (by decide)) (slt (by omega) (by omega))
    have hp4 := x3 _ _ hp3
    refine ⟨_, nO, 5, _, .int (sq * one + 9127 * (p2 + 1)), (OVs.so (lst hp4) (.so (.int t) (.un (.so (.int one) (.un .nil))))).rel, eBin_eq (eBin_eq (eBin_eq (eB_eq (aCons_eq (eBin_eq rfl rfl m2) rfl) rfl) rfl (by rw [← hq]; exact fMod_ok (by decide))) rfl m3) (eBin_eq rfl rfl m4) rfl, fun H4 v x4 hv => ?_⟩
    cases hv
    refine ⟨_, nO, 5, _, .int ((sq * one + 9127 * (p2 + 1)) % 2305843009213693921 / 16384 % t), (OVs.un (.so (.int t) (.un (.un (.so (.int (sq * one + 9127 * (p2 + 1))) .nil))))).rel, eBin_eq (eB_eq (aCons_eq (eBin_eq (eBin_eq (eB_eq rfl rfl) rfl (fMod_ok (by decide))) rfl (fDiv_ok (by decide) (slt (by decide) (by decide)))) rfl) rfl) rfl (fMod_ok ht0), fun H5 v x5 hv => ?_⟩
    cases hv
    exact q _ _ (Int.emod_nonneg _ (Int.ne_of_gt ht0)) (Int.emod_lt_of_pos _ ht0) (((PEx.of (x1.trans x2)).trans .upd).trans (.of (x3.trans (x4.trans x5)))) ⟨p0, p1, p2 + 1, (x4.trans x5) _ _ hp4, ⟨h1, h1'⟩, by omega, by omega⟩
end
end TL

/-! The pot's other helpers -/
namespace TL
open PySem PySem.Spec PyProof.Rows L2 Evl SlX StX C8

theorem PEx.hide {a : Addr} {H H' : Hp} {O : Addr → Bool} (e : PEx a H H') (o : O a = true) : Ex (hide O H) (hide O H') := fun b u h => by
  cases z : O b with
  | true => rw [hide_on z] at h; cases h
  | false =>
    rw [hide_at z] at h ⊢
    exact e b u (fun y => by rw [y, o] at z; cases z) h
/-- with what is private, the slots as far as they are known -/
theorem OVs.relO {K : PySem.W.Frag} {cl : Nat → Addr} {O : Addr → Bool} {H : Hp} {σ : L2.St} {ds : List (Option D)} (h : OVs K cl (hide O H) σ ds) (ow : Ow O H) : Rel K cl ⟨H, O, 0, 0⟩ O σ H ⟨ds, .no⟩ :=
  ⟨Ex.refl _, ow, fun _ z => z, fun i d e => h.get e, h.len, fun _ z => z⟩
theorem Ow.pex {a : Addr} {H H' : Hp} {O : Addr → Bool} {n : Int} (w : Ow O H) (e : PEx a H H') (p : Pot n H' a) : Ow O H' := fun b hb z => by
  by_cases hba : b = a
  · subst hba
    obtain ⟨_, _, _, h, _⟩ := p
    rw [h] at z
    cases z
  · cases q : H b with
    | none => exact w b hb q
    | some u =>
      rw [e b u hba q] at z
      cases z
def spPick (K : PySem.W.Frag) (cl : Nat → Addr) : Sp := fun vs H Q _ => ∃ (O : Addr → Bool) (a : Addr) (v : V) (n : Int) (items : List D), vs = [.ref a, v] ∧ Ow O H ∧ O a = true ∧ HD K cl (hide O H) v (.lst items) ∧ (0 < items.length ∧ items.length < 1000) ∧ n < 1000 ∧ Pot n H a ∧
  ∀ (i : Nat) (d : D) H' u, items[i]? = some d → PEx a H H' → Pot (n + 1) H' a → HD K cl (hide O H') u d → Q u H'
/-- four numbers that are one's own halves twice -/
def Half (m : Int) (xs : List Int) : Prop := xs.length = 4 ∧ ∃ o : Int, (o = 0 ∨ o = 1) ∧ ∀ x ∈ xs, ∃ y : Int, x = 2 * y + o ∧ -m ≤ y ∧ y ≤ m
def spWhole (K : PySem.W.Frag) (cl : Nat → Addr) : Sp := fun vs H Q _ => ∃ (O : Addr → Bool) (a : Addr) (m n : Int), vs = [.ref a, .int m] ∧ Ow O H ∧ O a = true ∧ (0 < m ∧ m ≤ 10 ^ 25) ∧ n < 900 ∧ Pot n H a ∧
  ∀ (xs : List Int) H' u, Half m xs → PEx a H H' → Pot (n + 5) H' a → HD K cl (hide O H') u (.tup (xs.map .int)) → Q u H'
section
variable {P : Program} {w : World} {K : PySem.W.Frag} {mg : Str → Option Value} {base : Heap}
theorem cal__law_dip (T : Tx K mg) : Cal P w K mg base 1 "_law_dip" spDip [] := by
  obtain ⟨fd, G, F⟩ := o__law_dip (P := P) (w := w) (base := base) T
  exact ⟨_, fd, _, [], G, T.gl__law_dip, F.kp, FunD.bindsN F (fun _ _ _ _ _ _ us hl => match us, hl with | [_, _], _ => rfl), .nil⟩
abbrev N__law_pick : List Str := ["_law_pot_here", "_law_items"]
abbrev P__law_pick : List Str := ["_law_pot_here", "_law_items"]
theorem sc__law_pick : FnScope N__law_pick P__law_pick (defScope s__law_pick) := ⟨rfl, rfl, rfl, by decide +kernel, rfl, by decide +kernel, by decide +kernel⟩
theorem o__law_pick (T : Tx K mg) : ∃ fd, FnOk P w K mg base L2.CX0 2 (a__law_pick K) fd P__law_pick (spPick K (clK K)) ∧ L2.FunD K "_law_pick" q__law_pick (defArgs s__law_pick) (defBody s__law_pick) (defScope s__law_pick) [] [] (a__law_pick K) fd := by
  obtain ⟨fd, F⟩ := T.fn__law_pick
  refine ⟨fd, F.ok sc__law_pick (fun vs H Q E ⟨O, a, v, n, items, e, _⟩ => by rw [e]; rfl) fun cdv A outer s H vs Q E hr h => ⟨_, PSs.nox (pss_one (ps_ret (pe_ix (IxR.or ix_list ix_tup) (dv (cl := clK K) 1)
    (pe_c (cal__law_dip T) hr (by decide) rfl (pa_cons (pv 0) (pa_cons (d_cb (cl := clK K) call_len_seq fc_len T.b_len (da_cons (dv 1) da_nil)) pa_nil))) fun _ _ => rfl))), ?_⟩, F⟩
  obtain ⟨O, a, v, n, items, rfl, ow, oa, hv, ⟨hl0, hl1⟩, hn, hp, q⟩ := h
  have ha : ∀ {H' : Hp}, Ex H H' → Pot n H' a := fun {H'} x => by
    obtain ⟨p0, p1, p2, e, r⟩ := hp
    exact ⟨p0, p1, p2, x _ _ e, r⟩
  refine ⟨_, O, 5, _, .lst items, (OVs.relO (.un (.so hv .nil)) ow), rfl, fun H1 x x1 hx => ?_⟩
  have hv1 := hv.mono (hide_ex x1)
  refine ⟨.ref a, rfl, _, O, 5, _, .int items.length, (OVs.relO (.un (.so hv1 .nil)) (ow.ex x1)), rfl, fun H2 l x2 hl => ?_⟩
  cases hl
  refine ⟨a, items.length, n, rfl, ⟨by exact_mod_cast hl0, ?_⟩, hn, ha (x1.trans x2), fun r H3 r0 r1 x3 hp3 => ?_⟩
  · have : (items.length : Int) < 1000 := by exact_mod_cast hl1
    exact Int.lt_trans this (by decide)
  · obtain ⟨k, rfl⟩ : ∃ k : Nat, r = (k : Int) := ⟨r.toNat, (Int.toNat_of_nonneg r0).symm⟩
    have hk : k < items.length := by exact_mod_cast r1
    have x13 := (PEx.of (a := a) x2).trans x3
    have hx3 := hx.mono (x13.hide oa)
    refine fd_ix O H3 x (.int k) (.lst items) (.int k) items[k] Q ((ow.ex (x1.trans x2)).pex x3 hp3) hx3 (.int _) ?_ fun H4 u x4 hu => ?_
    · show atI items (k : Int) = some items[k]
      unfold L2.atI L2.ixN
      rw [if_pos (Int.natCast_nonneg k)]
      have : (k : Int) < (items.length : Int) := by exact_mod_cast hk
      simp [hk]
    · obtain ⟨p0, p1, p2, e, rr⟩ := hp3
      exact q k items[k] H4 u (by simp [hk]) (((PEx.of x1).trans x13).trans (.of x4)) ⟨p0, p1, p2, x4 _ _ e, rr⟩ hu
end
end TL

/-! Four numbers drawn -/
namespace TL
open PySem PySem.Spec PyProof.Rows L2 Evl SlX StX C8
section
variable {P : Program} {w : World} {K : PySem.W.Frag} {mg : Str → Option Value} {base : Heap}
abbrev N__law_whole : List Str := ["_law_pot_here", "_law_most", "_law_odd", "_law_turn"]
abbrev P__law_whole : List Str := ["_law_pot_here", "_law_most"]
theorem sc__law_whole : FnScope N__law_whole P__law_whole (defScope s__law_whole) := ⟨rfl, rfl, rfl, by decide +kernel, rfl, by decide +kernel, by decide +kernel⟩
theorem hds_intsV {G : Hp} {cl : Nat → Addr} : ∀ xs : List Int, HDs K cl G (xs.map V.int) (xs.map D.int)
  | [] => .nil
  | x :: r => .cons (.int x) (hds_intsV r)
theorem o__law_whole (T : Tx K mg) : ∃ fd, FnOk P w K mg base L2.CX0 2 (a__law_whole K) fd P__law_whole (spWhole K (clK K)) ∧ L2.FunD K "_law_whole" q__law_whole (defArgs s__law_whole) (defBody s__law_whole) (defScope s__law_whole) [] [] (a__law_whole K) fd := by
  obtain ⟨fd, F⟩ := T.fn__law_whole
  refine ⟨fd, F.ok sc__law_whole (fun vs H Q E ⟨O, a, m, n, e, _⟩ => by rw [e]; rfl) fun cdv A outer s H vs Q E hr h => ⟨_, PSs.nox (pss_cons
    (ps_set (i := 2) sc__law_whole.nd rfl (.inr rfl) (pe_c (cal__law_dip T) hr (by decide) rfl (pa_cons (pv 0) (pa_cons pe_int pa_nil))))
    (pss_one (ps_ret (pe_callTy call_tuple_of rfl T.b_tuple (by decide +kernel) (pa_cons (pe_lc (own := [("_law_turn", 3)]) rfl sc__law_whole.nd (pi_range1 rfl T.b_range (pa_cons pe_int pa_nil) rfl) (blkOk_by rfl) (fun _ _ _ _ _ => gname 3 sc__law_whole.nd) (fun _ _ _ _ _ => pts_nil)
      (fun _ _ _ _ _ => pe_op op_add (pe_op op_mulW pe_int (pe_op op_sub (pe_c (cal__law_dip T) hr (by decide) rfl (pa_cons (pv 0) (pa_cons (pe_op op_add (pe_op op_mulW pe_int (pv 1)) pe_int) pa_nil))) (pv 1))) (pv 2))) pa_nil))))), ?_⟩, F⟩
  obtain ⟨O, a, m, n, rfl, ow, oa, ⟨m0, m1⟩, hn, hp, q⟩ := h
  have m2 : m < 2 ^ 84 := Int.lt_of_le_of_lt m1 (by decide)
  refine ⟨.ref a, rfl, a, 2, n, rfl, ⟨by decide, by decide⟩, by omega, hp, fun o H1 o0 o1 x1 hp1 => ?_⟩
  refine ⟨4, rfl, by decide, by decide, fun A1 nA => ?_⟩
  have aA : A1 ≠ a := fun z => by
    obtain ⟨_, _, _, e, _⟩ := hp1
    rw [z, e] at nA
    cases nA
  have oA : O A1 = false := (ow.pex x1 hp1).new nA
  have cm : CMulW 2 m := by
    refine wide_mul (a := 3) (b := 84) (by decide) ?_ (by decide) (by decide) (by decide)
    have e1 : (m.natAbs : Int) = m := Int.natAbs_of_nonneg (Int.le_of_lt m0)
    have : (m.natAbs : Int) < ((2 ^ 84 : Nat) : Int) := by rw [e1]; exact_mod_cast m2
    exact_mod_cast this
  refine lc_range (n := 4) (fun i H2 => ∃ ys : List Int, ys.length = i ∧ (∀ x ∈ ys, ∃ y : Int, x = 2 * y + o ∧ -m ≤ y ∧ y ≤ m) ∧ H2 A1 = some (.lst (ys.map V.int)) ∧ Pot (n + 1 + i) H2 a ∧ PEx a H1 H2) ⟨[], rfl, (fun x z => nomatch z), upd_same, ?_, fun b u hb e => ?_⟩ ?_ ?_
  · obtain ⟨p0, p1, p2, e, r⟩ := hp1
    exact ⟨p0, p1, p2, by rw [upd_ne (Ne.symm aA)]; exact e, r.1, r.2.1, by have := r.2.2; simpa using this⟩
  · rw [upd_ne (ne_of_none e nA)]; exact e
  · rintro i H2 hi ⟨ys, hl, hy, hA, hp2, x2⟩
    refine ⟨rfl, ?_⟩
    unfold tYes
    refine iteT ?_
    refine ⟨.ref a, rfl, .int m, rfl, 2, m, rfl, rfl, cm, 2 * m, 1, rfl, rfl, a, 2 * m + 1, n + 1 + i, rfl, ⟨by omega, by omega⟩, by omega, hp2, fun r H3 r0 r1 x3 hp3 => ?_⟩
    refine ⟨.int m, rfl, r, m, rfl, rfl, ?_⟩
    refine ⟨2, r - m, rfl, rfl, ?_, .int o, rfl, 2 * (r - m), o, rfl, rfl, ?_⟩
    · refine wide_mul (a := 3) (b := 86) (by decide) ?_ (by decide) (by decide) (by decide)
      omega
    · refine ⟨_, x3 _ _ aA hA, ?_, ys ++ [2 * (r - m) + o], by simp [hl], fun x hx => ?_, ?_, ?_, ?_⟩
      · rw [List.length_map, hl, sizeLine_eq]; omega
      · rcases List.mem_append.mp hx with z | z
        · exact hy x z
        · rw [List.mem_singleton.mp z]
          exact ⟨r - m, rfl, by omega, by omega⟩
      · rw [upd_same, List.map_append]; rfl
      · obtain ⟨p0, p1, p2, e, rr⟩ := hp3
        exact ⟨p0, p1, p2, by rw [upd_ne (Ne.symm aA)]; exact e, rr.1, rr.2.1, by have := rr.2.2; push_cast; omega⟩
      · exact fun b u hb e => by
          rw [upd_ne (ne_of_none e nA)]
          exact x3 b u hb (x2 b u hb e)
  · rintro H2 ⟨ys, hl, hy, hA, hp2, x2⟩
    have ow2 : Ow O H2 := (ow.pex x1 hp1).pex x2 hp2
    refine fc_tuple (cl := clK K) O H2 [.ref A1] [.lst (ys.map .int)] (.tup (ys.map .int)) Q ow2 (.cons (.lst (by rw [hide_at oA]; exact hA) (hds_intsV ys)) .nil) rfl fun H3 u x3 hu => ?_
    have hp3 : Pot (n + 5) H3 a := by
      obtain ⟨p0, p1, p2, e, r⟩ := hp2
      exact ⟨p0, p1, p2, x3 _ _ e, r.1, r.2.1, by have := r.2.2; push_cast at this; omega⟩
    exact q ys H3 u ⟨hl, o, by omega, hy⟩ ((x1.trans x2).trans (.of x3)) hp3 hu
end
end TL

/-! A pot made of the script -/
namespace TL
open PySem PySem.Spec PyProof.Rows L2 Evl SlX StX C8

def CPowW (i j : Int) : Prop := 0 ≤ j ∧ (Builtin.Int.intBits i : Int) * j ≤ 2 ^ 27
theorem op_powW {X : Cx} : OpR X (binaryOp .Pow) (rI CPowW fun i j => .int (i ^ j.toNat)) := opI fun _ _ _ _ _ _ _ hc q => pow_int hc.1 hc.2 q
def fPow : D → D → Option D := fIC (fun i j => decide (0 ≤ j) && decide ((Builtin.Int.intBits i : Int) * j ≤ 2 ^ 27)) fun i j => .int (i ^ j.toNat)
theorem d_pow {cl : Nat → Addr} {X : Cx} {a b : Expr} {ea eb : EE} {pos : Pos} (ha : DE cl X a ea) (hb : DE cl X b eb) : DE cl X (.BinOp a .Pow b pos) (eBin fPow ea eb) := d_op op_powW (fd_IC (fun _ _ _ => .int _) fun _ _ h => by
  rw [Bool.and_eq_true] at h
  exact ⟨of_decide_eq_true h.1, of_decide_eq_true h.2⟩) ha hb
def spPot (K : PySem.W.Frag) : Sp := fun vs H Q _ => ∃ (a : Addr) (ns : List Int) (i : Int), vs = [.ref a, .int i] ∧ SqL K H a (ns.map V.int) ∧ (0 ≤ i ∧ i ≤ 3) ∧ ∀ p H', Ex H H' → H p = none → Pot 0 H' p → Q (.ref p) H'
section
variable {P : Program} {w : World} {K : PySem.W.Frag} {mg : Str → Option Value} {base : Heap}
abbrev N__law_pot : List Str := ["_law_script", "_law_at", "_law_cell", "_law_great", "_law_mixed"]
abbrev P__law_pot : List Str := ["_law_script", "_law_at"]
theorem sc__law_pot : FnScope N__law_pot P__law_pot (defScope s__law_pot) := ⟨rfl, rfl, rfl, by decide +kernel, rfl, by decide +kernel, by decide +kernel⟩
theorem pow1 : fPow (.int 10) (.int 59) = some (.int (10 ^ 59)) := rfl
theorem pow2 : fPow (.int (10 ^ 59)) (.int 8) = some (.int ((10 ^ 59) ^ 8)) := by
  unfold fPow fIC
  have h : (decide ((0 : Int) ≤ 8) && decide ((Builtin.Int.intBits (10 ^ 59) : Int) * 8 ≤ 2 ^ 27)) = true := by decide +kernel
  simp only [h, if_true]
  rfl
theorem pow3 : fPow (.int 10) (.int 17) = some (.int (10 ^ 17)) := rfl
theorem o__law_pot (T : Tx K mg) : ∃ fd, FnOk P w K mg base L2.CX0 1 (a__law_pot K) fd P__law_pot (spPot K) ∧ L2.FunD K "_law_pot" q__law_pot (defArgs s__law_pot) (defBody s__law_pot) (defScope s__law_pot) [] [] (a__law_pot K) fd := by
  obtain ⟨fd, F⟩ := T.fn__law_pot
  refine ⟨fd, F.ok sc__law_pot (fun vs H Q E ⟨a, ns, i, e, _⟩ => by rw [e]; rfl) fun cdv A outer s H vs Q E hr h => ⟨_, PSs.nox (pss_cons
    (ps_set (i := 2) sc__law_pot.nd rfl (.inl rfl) (pe_ifExp (pt_cmp (pc_lt (pv 1) (pe_callB call_len rfl T.b_len boot_len (pa_cons (pv 0) pa_nil)))) (pe_ix ix_seq (pv 0) (pv 1) fun _ _ => rfl) (pe_op op_add (pe_op op_mul pe_int (pv 1)) pe_int)))
    (pss_cons (ps_set (i := 3) sc__law_pot.nd rfl (.inl rfl) (d_mod (cl := clK K) (d_ct call_int1 fc_int1 T.b_int (da_cons (d_cb call_abs fc_abs T.b_abs (da_cons (dv 2) da_nil)) da_nil)) (d_pow (d_pow d_int d_int) d_int)))
      (pss_cons (ps_set (i := 4) sc__law_pot.nd rfl (.inl rfl) (d_add (cl := clK K) (d_add (d_add (d_mul (d_mod (d_ct call_int1 fc_int1 T.b_int (da_cons (dv 3) da_nil)) d_int) d_int) (d_mul d_int (dv 1))) (d_mul d_int (d_ct call_int1 fc_int1 T.b_int (da_cons (d_lt (dv 2) d_int) da_nil)))) d_int))
        (pss_one (ps_ret (pe_lst (pa_cons (d_cb (cl := clK K) (call_max2 rfl) fc_max2 T.b_max (da_cons d_int (da_cons (d_add (d_sub (dv 3) (d_pow d_int d_int)) d_int) da_nil))) (pa_cons (d_mod (cl := clK K) (d_ct call_int1 fc_int1 T.b_int (da_cons (dv 4) da_nil)) d_int) (pa_cons pe_int pa_nil))))))))), ?_⟩, F⟩
  obtain ⟨a, ns, i, rfl, hs, ⟨i0, i3⟩, q⟩ := h
  have slt : ∀ {i : Int}, 0 ≤ i → i < 2 ^ 2000 → i.natAbs < 2 ^ 3000 := fun {i} z1 z2 => by
    have e1 : (i.natAbs : Int) = i := Int.natAbs_of_nonneg z1
    have e2 : i.natAbs < 2 ^ 2000 := by
      have : (i.natAbs : Int) < ((2 ^ 2000 : Nat) : Int) := by rw [e1]; exact_mod_cast z2
      exact_mod_cast this
    exact Nat.lt_of_lt_of_le e2 (Nat.pow_le_pow_right (by decide) (by decide))
  have small : (10 : Int) ^ 30 < 2 ^ 2000 := by decide +kernel
  -- behind the first statement: any number
  have rest : ∀ c : Int, tSeq (tAsg (tE K (clK K) (eBin fMod (eB fInt1 (aCons (eB fAbs (aCons (eVar 2) aNil)) aNil)) (eBin fPow (eBin fPow (eC (.int 10)) (eC (.int 59))) (eC (.int 8))))) (gName 3))
      (tSeq (tAsg (tE K (clK K) (eBin fAdd (eBin fAdd (eBin fAdd (eBin fMul (eBin fMod (eB fInt1 (aCons (eVar 3) aNil)) (eC (.int 2305843009213693669))) (eC (.int 80021))) (eBin fMul (eC (.int 7001)) (eVar 1))) (eBin fMul (eC (.int 29)) (eB fInt1 (aCons (eBin fLt (eVar 2) (eC (.int 0))) aNil)))) (eC (.int 41)))) (gName 4))
        (tRet (tLst (tCons (tE K (clK K) (eB fMax2 (aCons (eC (.int 0)) (aCons (eBin fAdd (eBin fSub (eVar 3) (eBin fPow (eC (.int 10)) (eC (.int 17)))) (eC (.int 1))) aNil)))) (tCons (tE K (clK K) (eBin fMod (eB fInt1 (aCons (eVar 4) aNil)) (eC (.int 2305843009213693951)))) (tCons (tC (.int 0)) tNil))))))
      { nx := fun _ H' => Q .non H', rt := Q } [some (.ref a), some (.int i), some (.int c), none, none] H := fun c => by
    generalize hab : (if c < 0 then -c else c) = ab
    refine ⟨_, nO, 5, _, .int (ab % (10 ^ 59) ^ 8), (OVs.un (.so (.int i) (.so (.int c) (.un (.un .nil))))).rel, eBin_eq (eB_eq (aCons_eq (eB_eq rfl (show fAbs [.int c] = some (.int ab) by rw [← hab]; rfl)) rfl) rfl) (eBin_eq (eBin_eq rfl rfl pow1) rfl pow2) (fMod_ok (by decide +kernel)), fun H1 v x1 hv => ?_⟩
    cases hv
    generalize ab % (10 ^ 59) ^ 8 = gr
    generalize hgm : gr % 2305843009213693669 = gm
    have g1 : 0 ≤ gm ∧ gm < 2305843009213693669 := by rw [← hgm]; exact ⟨Int.emod_nonneg _ (by decide), Int.emod_lt_of_pos _ (by decide)⟩
    generalize hsg : (if decide (c < 0) = true then (1 : Int) else 0) = sg
    have g2 : 0 ≤ sg ∧ sg < 2 := by rw [← hsg]; split <;> decide
    have m1 : fMul (.int gm) (.int 80021) = some (.int (gm * 80021)) := fMul_ok (slt g1.1 (by omega)) (slt (by decide) (by omega))
    have m2 : fMul (.int 7001) (.int i) = some (.int (7001 * i)) := fMul_ok (slt (by decide) (by omega)) (slt i0 (by omega))
    have m3 : fMul (.int 29) (.int sg) = some (.int (29 * sg)) := fMul_ok (slt (by decide) (by omega)) (slt g2.1 (by omega))
    refine ⟨_, nO, 5, _, .int (gm * 80021 + 7001 * i + 29 * sg + 41), (OVs.un (.so (.int i) (.so (.int c) (.so (.int gr) (.un .nil))))).rel,
      eBin_eq (eBin_eq (eBin_eq (eBin_eq (eBin_eq (eB_eq rfl rfl) rfl (by rw [← hgm]; exact fMod_ok (by decide))) rfl m1) (eBin_eq rfl rfl m2) rfl) (eBin_eq rfl (eB_eq (aCons_eq (eBin_eq rfl rfl rfl) rfl) (show fInt1 [.bl (decide (c < 0))] = some (.int sg) by rw [← hsg]; rfl)) m3) rfl) rfl rfl, fun H2 v x2 hv => ?_⟩
    cases hv
    generalize gm * 80021 + 7001 * i + 29 * sg + 41 = mx
    refine ⟨_, nO, 5, _, _, (OVs.un (.un (.un (.so (.int gr) (.un .nil))))).rel, eB_eq (aCons_eq rfl (aCons_eq (eBin_eq (eBin_eq rfl (eBin_eq rfl rfl pow3) rfl) rfl rfl) rfl)) rfl, fun H3 v x3 hv => ?_⟩
    cases hv
    refine ⟨_, nO, 5, _, .int (mx % 2305843009213693951), (OVs.un (.un (.un (.un (.so (.int mx) .nil))))).rel, eBin_eq (eB_eq rfl rfl) rfl (fMod_ok (by decide)), fun H4 v x4 hv => ?_⟩
    cases hv
    refine ⟨by show 3 ≤ sizeLine; rw [sizeLine_eq]; decide, fun p np => ?_⟩
    have x14 : Ex H H4 := x1.trans (x2.trans (x3.trans x4))
    have np0 : H p = none := by
      cases z : H p with
      | none => rfl
      | some u => rw [x14 _ _ z] at np; cases np
    exact q p _ (x14.trans (Ex.new np)) np0 ⟨_, _, _, upd_same, ⟨Int.emod_nonneg _ (by decide), Int.emod_lt_of_pos _ (by decide)⟩, by decide, by decide⟩
  refine ⟨.int i, rfl, .ref a, rfl, .ref a, ns.length, rfl, .inl ⟨_, hs, (List.length_map ..).symm⟩, i, ns.length, rfl, rfl, ?_⟩
  by_cases hi : i < (ns.length : Int)
  · refine ⟨true, congrArg V.bl (decide_eq_true hi), ?_⟩
    refine iteT ?_
    obtain ⟨k, rfl⟩ : ∃ k : Nat, i = (k : Int) := ⟨i.toNat, (Int.toNat_of_nonneg i0).symm⟩
    have hk : k < ns.length := by exact_mod_cast hi
    refine ⟨.ref a, rfl, .int k, rfl, .inl ⟨a, _, k, .int ns[k], rfl, rfl, hs, ?_, rest ns[k]⟩⟩
    unfold L2.atI L2.ixN
    rw [if_pos (Int.natCast_nonneg k)]
    have : (k : Int) < ((ns.map V.int).length : Int) := by rw [List.length_map]; exact hi
    simp [hk]
  · refine ⟨false, congrArg V.bl (decide_eq_false hi), ?_⟩
    refine iteF ?_
    exact ⟨.int i, rfl, 59, i, rfl, rfl, .inl ⟨by decide, by decide⟩, 59 * i, 31, rfl, rfl, rest _⟩
end
end TL

/-! What is asked of each pot -/
namespace TL
open PySem PySem.Spec PyProof.Rows L2 Evl SlX StX C8

def eb4 : EB := (bOr (bOf (eBin fNe (eCall m__law_twice [] (aCons (eBinN (fOwn2 4 m_Four___mul__) (eVar 4) (eVar 5)) aNil)) (eCall m__law_times [] (aCons (eVar 2) (aCons (eVar 3) aNil))))) (bOf (eBinN (fNeO 1 nfT m_Ratio___eq__) (eProp 4 m_Four_norm (eVar 4)) (eCall m__law_norm [] (aCons (eVar 2) aNil)))))
def ea5 : EA := (aCons (eVar 4) (aCons (eBinN (fOwn2 4 m_Four___add__) (eVar 4) (eVar 5)) (aCons (eBinN (fOwn2 4 m_Four___sub__) (eVar 4) (eVar 5)) (aCons (eBinN (fOwn2 4 m_Four___mul__) (eVar 4) (eVar 5)) (aCons (eMeth 4 m_Four_mate (eVar 4) aNil) aNil)))))
def eb5 : EB := (bOr (bNot (bOf (eCall m_is_whole_hurwitz [] (aCons (eVar 6) aNil)))) (bOf (eBinN (fInO 6 m_Lattice___contains__ not) (eVar 6) (eCall m_whole_lattice [] aNil))))
def eb7 : EB := (bOr (bOf (eBinN (fNeO 4 nfT m_Four___eq__) (eMeth 4 m_Four_mate (eVar 7) aNil) (eMeth 4 m_Four_inverse (eVar 7) aNil))) (bOf (eBinN (fNeO 1 nfT m_Ratio___eq__) (eProp 4 m_Four_norm (eBinN (fOwn2 4 m_Four___mul__) (eVar 7) (eVar 4))) (eProp 4 m_Four_norm (eVar 4)))))
/-- the numbers' side of _law_right -/
structure RightMath : Prop where
  units : ∃ n us, m__law_units n [] = some (.lst us) ∧ 0 < us.length ∧ us.length < 1000
  ok : ∀ (n0 : Nat) (us : List D) (m : Int) (xs ys : List Int), m__law_units n0 [] = some (.lst us) → 0 < m → m ≤ 10 ^ 25 → Half m xs → Half m ys → ∃ (n : Nat) (fr mo : D) (t5 : List D),
    m__law_four n [.tup (xs.map .int)] = some fr ∧ m__law_four n [.tup (ys.map .int)] = some mo ∧
    eb4 n ⟨[none, none, some (.tup (xs.map .int)), some (.tup (ys.map .int)), some fr, some mo, none, none], .no⟩ = some false ∧
    ea5 n ⟨[none, none, none, none, some fr, some mo, none, none], .no⟩ = some t5 ∧ t5.length ≤ 100 ∧ (∀ d ∈ t5, eb5 n ⟨[none, none, none, none, none, none, some d, none], .no⟩ = some false) ∧
    (∀ (i : Nat) (u : D), us[i]? = some u → ∃ un, m__law_four n [u] = some un ∧ eb7 n ⟨[none, none, none, none, some fr, none, none, some un], .no⟩ = some false) ∧
    m__law_near_right n [.any, .tup (xs.map .int)] = some (.bl true)
theorem eCall_eq {m : Nat → List D → Option D} {dds ds : List D} {ar : EA} {n : Nat} {τ : Sta} {d : D} (ha : ar n τ = some ds) (hm : m n (ds ++ dds) = some d) : eCall m dds ar n τ = some d := by
  unfold eCall
  rw [ha]
  exact hm
theorem Pot.ex {a : Addr} {H H' : Hp} {n : Int} (h : Pot n H a) (e : Ex H H') : Pot n H' a := by
  obtain ⟨p0, p1, p2, h1, h2⟩ := h
  exact ⟨p0, p1, p2, e _ _ h1, h2⟩
def spRight (K : PySem.W.Frag) : Sp := fun vs H Q _ => ∃ (a : Addr), vs = [.ref a] ∧ Pot 0 H a ∧ ∀ H', PEx a H H' → Q (.bl true) H'
section
variable {P : Program} {w : World} {K : PySem.W.Frag} {mg : Str → Option Value} {base : Heap}
theorem cal__law_pick (T : Tx K mg) : Cal P w K mg base 2 "_law_pick" (spPick K (clK K)) [] := by
  obtain ⟨fd, G, F⟩ := o__law_pick (P := P) (w := w) (base := base) T
  exact ⟨_, fd, _, [], G, T.gl__law_pick, F.kp, FunD.bindsN F (fun _ _ _ _ _ _ us hl => match us, hl with | [_, _], _ => rfl), .nil⟩
theorem cal__law_whole (T : Tx K mg) : Cal P w K mg base 2 "_law_whole" (spWhole K (clK K)) [] := by
  obtain ⟨fd, G, F⟩ := o__law_whole (P := P) (w := w) (base := base) T
  exact ⟨_, fd, _, [], G, T.gl__law_whole, F.kp, FunD.bindsN F (fun _ _ _ _ _ _ us hl => match us, hl with | [_, _], _ => rfl), .nil⟩
theorem cal_of {k : Nat} {x : Str} {m : Nat → List D → Option D} {cl : Nat → Addr} (h : CalD P w K cl mg base k x m []) : Cal P w K mg base k x (spD K cl m) [] := by
  obtain ⟨dvs, c, hd⟩ := h.ex
  have z := hd fun _ => none
  cases z
  exact c
abbrev N__law_right : List Str := ["_law_pot_here", "_law_most", "_law_one", "_law_other", "_law_four_here", "_law_more", "_law_value", "_law_unit"]
abbrev P__law_right : List Str := ["_law_pot_here"]
theorem sc__law_right : FnScope N__law_right P__law_right (defScope s__law_right) := ⟨rfl, rfl, rfl, by decide +kernel, rfl, by decide +kernel, by decide +kernel⟩
theorem o__law_right (T : Tx K mg) (R : RightMath) : ∃ fd, FnOk P w K mg base L2.CX0 12 (a__law_right K) fd P__law_right (spRight K) ∧ L2.FunD K "_law_right" q__law_right (defArgs s__law_right) (defBody s__law_right) (defScope s__law_right) [] [] (a__law_right K) fd := by
  obtain ⟨fd, F⟩ := T.fn__law_right
  refine ⟨fd, F.ok sc__law_right (fun vs H Q E ⟨a, e, _⟩ => by rw [e]; rfl) fun cdv A outer s H vs Q E hr h => ⟨_, PSs.nox (pss_cons
    (ps_set (i := 1) sc__law_right.nd rfl (.inl rfl) (pe_c (cal__law_pick T) hr (by decide) rfl (pa_cons (pv 0) (pa_cons (show DE (clK K) _ _ (eLst (aCons (eC (.int 1)) (aCons (eC (.int 3)) (aCons (eC (.int 20)) (aCons (eBin fPow (eC (.int 10)) (eC (.int 9))) (aCons (eBin fPow (eC (.int 10)) (eC (.int 25))) aNil)))))) from (d_lst (da_cons d_int (da_cons d_int (da_cons d_int (da_cons (d_pow d_int d_int) (da_cons (d_pow d_int d_int) da_nil))))))) pa_nil))))
    (pss_cons (ps_par (i := 2) (j := 3) rfl sc__law_right.nd rfl rfl (by decide) rfl rfl (pa_cons (pe_c (cal__law_whole T) hr (by decide) rfl (pa_cons (pv 0) (pa_cons (pv 1) pa_nil))) (pa_cons (pe_c (cal__law_whole T) hr (by decide) rfl (pa_cons (pv 0) (pa_cons (pv 1) pa_nil))) pa_nil)) (by rfl))
    (pss_cons (ps_par (i := 4) (j := 5) rfl sc__law_right.nd rfl rfl (by decide) rfl rfl (pa_cons (d_call (c__law_four T) hr (da_cons (dv 2) da_nil)) (pa_cons (d_call (c__law_four T) hr (da_cons (dv 3) da_nil)) pa_nil)) (by rfl))
    (pss_cons (ps_if (show DT (clK K) _ _ eb4 from (dt_w (dw_or (dt_cmp (op_neD hr.units) fd_ne (d_call (c__law_twice T) hr (da_cons (d_mulO (t_Four___mul__ T) T.first_4 hr (dv 4) (dv 5)) da_nil)) (d_call (c__law_times T) hr (da_cons (dv 2) (da_cons (dv 3) da_nil)))) (dw_or1 (dt_neO T.nf T.ne_1 (t_Ratio___eq__ T) hr (d_prop (p_Four_norm T) hr (dv 4)) (d_call (c__law_norm T) hr (da_cons (dv 2) da_nil))))))) pss_never pss_nil)
    (pss_cons (ps_for PassesOwn.never rfl (pi_tup (show DE (clK K) _ _ (eTup ea5) from (d_tup (da_cons (dv 4) (da_cons (d_addO (t_Four___add__ T) T.first_4 hr (dv 4) (dv 5)) (da_cons (d_subO (t_Four___sub__ T) T.first_4 hr (dv 4) (dv 5)) (da_cons (d_mulO (t_Four___mul__ T) T.first_4 hr (dv 4) (dv 5)) (da_cons (d_meth0 (t_Four_mate T) hr (dv 4)) da_nil)))))))) (gname 6 sc__law_right.nd) (pss_one (ps_if (show DT (clK K) _ _ eb5 from (dt_w (dw_or (dt_not (dt_val (d_call (c_is_whole_hurwitz T) hr (da_cons (dv 6) da_nil)))) (dw_or1 (dt_notInO (t_Lattice___contains__ T) hr (dv 6) (d_call0 (c_whole_lattice T) hr)))))) pss_never pss_nil)))
    (pss_cons (ps_set (i := 7) sc__law_right.nd rfl (.inl rfl) (pe_c (cal_of (c__law_four T)) hr (by decide) rfl (pa_cons (pe_c (cal__law_pick T) hr (by decide) rfl (pa_cons (pv 0) (pa_cons (d_call0 (c__law_units T) hr) pa_nil))) pa_nil)))
    (pss_cons (ps_if (show DT (clK K) _ _ eb7 from (dt_w (dw_or (dt_neO T.nf T.ne_4 (t_Four___eq__ T) hr (d_meth0 (t_Four_mate T) hr (dv 7)) (d_meth0 (t_Four_inverse T) hr (dv 7))) (dw_or1 (dt_neO T.nf T.ne_1 (t_Ratio___eq__ T) hr (d_prop (p_Four_norm T) hr (d_mulO (t_Four___mul__ T) T.first_4 hr (dv 7) (dv 4))) (d_prop (p_Four_norm T) hr (dv 4))))))) pss_never pss_nil)
    (pss_one (ps_ret (show DE (clK K) _ _ (eCall m__law_near_right [] (aCons (eVar 0) (aCons (eVar 2) aNil))) from (d_call (c__law_near_right T) hr (da_cons (dv 0) (da_cons (dv 2) da_nil))))))))))))), ?_⟩, F⟩
  obtain ⟨a, rfl, hp, q⟩ := h
  obtain ⟨nu, us, hus, hu0, hu1⟩ := R.units
  generalize hO : (fun b => b == a : Addr → Bool) = O
  have oa : O a = true := by rw [← hO]; simp
  have ow : ∀ {G : Hp} {n : Int}, Pot n G a → Ow O G := fun {G n} h b hb z => by
    rw [← hO] at hb
    have eb : b = a := by simpa using hb
    subst eb
    obtain ⟨_, _, _, h1, _⟩ := h
    rw [h1] at z
    cases z
  refine ⟨.ref a, rfl, _, O, 5, _, .lst [.int 1, .int 3, .int 20, .int (10 ^ 9), .int (10 ^ 25)], (OVs.un (.un (.un (.un (.un (.un (.un (.un .nil)))))))).relO (ow hp), rfl, fun H1 v x1 hv => ?_⟩
  have hp1 := hp.ex x1
  refine ⟨O, a, v, 0, _, rfl, ow hp1, oa, hv, ⟨by decide, by decide⟩, by decide, hp1, fun i d H2 u hi x2 hp2 hu => ?_⟩
  obtain ⟨m, rfl, m0, m1⟩ : ∃ m : Int, d = .int m ∧ 0 < m ∧ m ≤ 10 ^ 25 := by
    match i, hi with
    | 0, h => exact ⟨1, by simpa using h.symm, by decide, by decide⟩
    | 1, h => exact ⟨3, by simpa using h.symm, by decide, by decide⟩
    | 2, h => exact ⟨20, by simpa using h.symm, by decide, by decide⟩
    | 3, h => exact ⟨10 ^ 9, by simpa using h.symm, by decide, by decide⟩
    | 4, h => exact ⟨10 ^ 25, by simpa using h.symm, by decide, by decide⟩
    | k + 5, h => simp at h
  cases hu
  refine ⟨.ref a, rfl, .int m, rfl, O, a, m, 0 + 1, rfl, ow hp2, oa, ⟨m0, m1⟩, by decide, hp2, fun xs H3 v2 hx x3 hp3 h2 => ?_⟩
  refine ⟨.ref a, rfl, .int m, rfl, O, a, m, 0 + 1 + 5, rfl, ow hp3, oa, ⟨m0, m1⟩, by decide, hp3, fun ys H4 v3 hy x4 hp4 h3 => ?_⟩
  have h2 := h2.mono (x4.hide oa)
  refine ⟨v2, v3, rfl, ?_⟩
  obtain ⟨n, fr, mo, t5, hfr, hmo, hb4, ha5, hl5, hb5, hun, hnear⟩ := R.ok nu us m xs ys hus m0 m1 hx hy
  refine ⟨_, O, n, _, fr, (OVs.un (.un (.so h2 (.so h3 (.un (.un (.un (.un .nil)))))))).relO (ow hp4), eCall_eq rfl hfr, fun H5 v4 x5 h4 => ?_⟩
  have hp5 := hp4.ex x5
  have h2 := h2.mono (hide_ex x5)
  have h3 := h3.mono (hide_ex x5)
  refine ⟨_, O, n, _, mo, (OVs.un (.un (.so h2 (.so h3 (.un (.un (.un (.un .nil)))))))).relO (ow hp5), eCall_eq rfl hmo, fun H6 v5 x6 h5 => ?_⟩
  have hp6 := hp5.ex x6
  have h2 := h2.mono (hide_ex x6)
  have h3 := h3.mono (hide_ex x6)
  have h4 := h4.mono (hide_ex x6)
  refine ⟨v4, v5, rfl, ?_⟩
  refine ⟨_, O, n, _, false, (OVs.un (.un (.so h2 (.so h3 (.so h4 (.so h5 (.un (.un .nil)))))))).relO (ow hp6), hb4, fun H7 x7 => ?_⟩
  refine iteF ?_
  have hp7 := hp6.ex x7
  have h2 := h2.mono (hide_ex x7)
  have h4 := h4.mono (hide_ex x7)
  have h5 := h5.mono (hide_ex x7)
  refine ⟨_, O, n, _, .tup t5, (OVs.un (.un (.un (.un (.so h4 (.so h5 (.un (.un .nil)))))))).relO (ow hp7), ?_, fun H8 v8 x8 h8 => ?_⟩
  · unfold eTup
    rw [ha5]
    exact if_pos (Nat.le_trans hl5 (by decide))
  have hp8 := hp7.ex x8
  have h2 := h2.mono (hide_ex x8)
  have h4 := h4.mono (hide_ex x8)
  cases h8 with
  | tup hs hr =>
    rename_i ta tv
    refine ⟨ta, rfl, ⟨tv, ex_t hide_le hs⟩, ?_⟩
    refine for_tup (xs := tv) (fun i σ' H' => (∃ z, σ' = [some (.ref a), some (.int m), some v2, some v3, some v4, some v5, z, none]) ∧ Ex H8 H') ⟨⟨none, rfl⟩, Ex.refl _⟩ (fun i σ' H' _ h => ex_t h.2 (ex_t hide_le hs)) (fun i x σ' H' hi h => ?_) fun σ' H' h => ?_
    · obtain ⟨⟨z, rfl⟩, x9⟩ := h
      obtain ⟨d, hd1, hd2⟩ := hr.get' hi
      refine ⟨_, O, n, _, false, (OVs.un (.un (.un (.un (.un (.un (.so (hd2.mono (hide_ex x9)) (.un .nil)))))))).relO (ow (hp8.ex x9)), hb5 d (List.mem_of_getElem? hd1), fun H10 x10 => ?_⟩
      refine iteF ?_
      exact ⟨⟨some x, rfl⟩, x9.trans x10⟩
    · obtain ⟨⟨z, rfl⟩, x9⟩ := h
      have hp9 := hp8.ex x9
      have h2 := h2.mono (hide_ex x9)
      have h4 := h4.mono (hide_ex x9)
      refine ⟨.ref a, rfl, _, O, nu, _, .lst us, (OVs.un (.un (.un (.un (.un (.un (.un (.un .nil)))))))).relO (ow hp9), eCall_eq rfl hus, fun H10 v10 x10 h10 => ?_⟩
      have hp10 := hp9.ex x10
      have h2 := h2.mono (hide_ex x10)
      have h4 := h4.mono (hide_ex x10)
      refine ⟨O, a, v10, 0 + 1 + 5 + 5, us, rfl, ow hp10, oa, h10, ⟨hu0, hu1⟩, by decide, hp10, fun i u H11 w11 hi x11 hp11 h11 => ?_⟩
      obtain ⟨un, hun1, hb7⟩ := hun i u hi
      have h2 := h2.mono (x11.hide oa)
      have h4 := h4.mono (x11.hide oa)
      refine ⟨O, n, [u], un, ow hp11, .cons h11 .nil, hun1, fun H12 v12 x12 h12 => ?_⟩
      have hp12 := hp11.ex x12
      have h2 := h2.mono (hide_ex x12)
      have h4 := h4.mono (hide_ex x12)
      refine ⟨_, O, n, _, false, (OVs.un (.un (.un (.un (.so h4 (.un (.un (.so h12 .nil)))))))).relO (ow hp12), hb7, fun H13 x13 => ?_⟩
      refine iteF ?_
      have hp13 := hp12.ex x13
      have h2 := h2.mono (hide_ex x13)
      refine ⟨_, O, n, _, .bl true, (OVs.so (.any _) (.un (.so h2 (.un (.un (.un (.un (.un .nil)))))))).relO (ow hp13), eCall_eq rfl hnear, fun H14 v x14 hv => ?_⟩
      cases hv
      refine q H14 ?_
      exact (PEx.of x1).trans (x2.trans (x3.trans (x4.trans ((PEx.of (x5.trans (x6.trans (x7.trans (x8.trans (x9.trans x10)))))).trans (x11.trans (PEx.of (x12.trans (x13.trans x14))))))))

end
end TL

/-! The law's own walk -/
namespace TL
open PySem PySem.Spec PyProof.Rows L2 Evl SlX StX C8

def lb3 : EB := (bOr (bNot (bOf (eCall m_is_order [] (aCons (eVar 2) aNil)))) (bOr (bNot (bOf (eCall m_is_greatest [] (aCons (eVar 2) aNil)))) (bOf (eBin fNe (eCall m_order_discriminant [] (aCons (eVar 2) aNil)) (eC (.int 2))))))
def le4 : EE := (eBin fEq (eB fSorted (aCons (eLc (eItems (eCall m_units [] (aCons (eVar 2) aNil))) (etName 3) bYes (eCall m__law_twice [] (aCons (eVar 3) aNil)) [3]) aNil)) (eB fSorted (aCons (eCall m__law_units [] aNil) aNil)))
/-- the closed side of the law -/
structure LawMath : Prop where
  ok : ∃ n wl, m_whole_lattice n [] = some wl ∧ lb3 n ⟨[none, none, some wl, none], .no⟩ = some false ∧ le4 n ⟨[none, none, some wl, none], .no⟩ = some (.bl true)
def spLaw (K : PySem.W.Frag) : Sp := fun vs H Q _ => ∃ (a : Addr) (ns : List Int), vs = [.ref a] ∧ SqL K H a (ns.map V.int) ∧ ∀ H', Q (.bl true) H'
section
variable {P : Program} {w : World} {K : PySem.W.Frag} {mg : Str → Option Value} {base : Heap}
theorem cal__law_pot (T : Tx K mg) : Cal P w K mg base 1 "_law_pot" (spPot K) [] := by
  obtain ⟨fd, G, F⟩ := o__law_pot (P := P) (w := w) (base := base) T
  exact ⟨_, fd, _, [], G, T.gl__law_pot, F.kp, FunD.bindsN F (fun _ _ _ _ _ _ us hl => match us, hl with | [_, _], _ => rfl), .nil⟩
theorem cal__law_right (T : Tx K mg) (R : RightMath) : Cal P w K mg base 12 "_law_right" (spRight K) [] := by
  obtain ⟨fd, G, F⟩ := o__law_right (P := P) (w := w) (base := base) T R
  exact ⟨_, fd, _, [], G, T.gl__law_right, F.kp, FunD.bindsN F (fun _ _ _ _ _ _ us hl => match us, hl with | [_], _ => rfl), .nil⟩
abbrev N_law : List Str := ["_law_script", "_law_spot", "_law_lattice", "_law_unit"]
abbrev P_law : List Str := ["_law_script"]
theorem sc_law : FnScope N_law P_law (defScope s_law) := ⟨rfl, rfl, rfl, by decide +kernel, rfl, by decide +kernel, by decide +kernel⟩
theorem o_law (T : Tx K mg) (R : RightMath) (M : LawMath) : ∃ fd, FnOk P w K mg base L2.CX0 13 (a_law K) fd P_law (spLaw K) ∧ L2.FunD K "law" q_law (defArgs s_law) (defBody s_law) (defScope s_law) [] [] (a_law K) fd := by
  obtain ⟨fd, F⟩ := T.fn_law
  refine ⟨fd, F.ok sc_law (fun vs H Q E ⟨a, ns, e, _⟩ => by rw [e]; rfl) fun cdv A outer s H vs Q E hr h => ⟨_, PSs.nox (pss_cons
    (ps_for PassesOwn.never rfl (pi_range1 rfl T.b_range (pa_cons (pe_callB (call_max2 rfl) rfl T.b_max (by decide +kernel) (pa_cons pe_int (pa_cons (pe_callB (call_min2 rfl) rfl T.b_min (by decide +kernel) (pa_cons pe_int (pa_cons (pe_callB call_len rfl T.b_len boot_len (pa_cons (pv 0) pa_nil)) pa_nil))) pa_nil))) pa_nil) rfl)
      (gname 1 sc_law.nd) (pss_one (ps_if (pt_not (pt_val (pe_c (cal__law_right T R) hr (by decide) rfl (pa_cons (pe_c (cal__law_pot T) hr (by decide) rfl (pa_cons (pv 0) (pa_cons (pv 1) pa_nil))) pa_nil)))) pss_never pss_nil)))
    (pss_cons (ps_set (i := 2) sc_law.nd rfl (.inl rfl) (d_call0 (cl := clK K) (c_whole_lattice T) hr))
    (pss_cons (ps_if (show DT (clK K) _ _ lb3 from (dt_w (dw_or (dt_not (dt_val (d_call (c_is_order T) hr (da_cons (dv 2) da_nil)))) (dw_or (dt_not (dt_val (d_call (c_is_greatest T) hr (da_cons (dv 2) da_nil)))) (dw_or1 (dt_cmp (op_neD hr.units) fd_ne (d_call (c_order_discriminant T) hr (da_cons (dv 2) da_nil)) d_int)))))) pss_never pss_nil)
    (pss_one (ps_ret (show DE (clK K) _ _ le4 from (d_eq hr (d_cb (cr_sortTI hr.units) fc_sorted T.b_sorted (da_cons (d_lc (own := [("_law_unit", 3)]) rfl sc_law.nd (di_seq (d_call (c_units T) hr (da_cons (dv 2) da_nil))) (blkOk_by rfl) gok_name (fun _ _ _ _ _ => (gname 3 sc_law.nd)) (fun _ _ _ _ _ => dts_nil) (fun _ _ _ _ _ => (d_call (c__law_twice T) hr (da_cons (dv 3) da_nil)))) da_nil)) (d_cb (cr_sortTI hr.units) fc_sorted T.b_sorted (da_cons (d_call0 (c__law_units T) hr) da_nil))))))))), ?_⟩, F⟩
  obtain ⟨a, ns, rfl, hs, q⟩ := h
  obtain ⟨n, wl, hw, hb, hv⟩ := M.ok
  refine ⟨.ref a, rfl, .ref a, ns.length, rfl, .inl ⟨_, hs, (List.length_map ..).symm⟩, 3, _, rfl, 1, _, rfl, ?_⟩
  generalize hk : (if (if (ns.length : Int) < 3 then (ns.length : Int) else 3) > 1 then (if (ns.length : Int) < 3 then (ns.length : Int) else 3) else 1) = k
  have hk3 : 1 ≤ k ∧ k ≤ 3 := by rw [← hk]; split <;> split <;> omega
  refine ⟨k, rfl, by omega, by omega, ?_⟩
  refine for_range (fun i σ' H' => (∃ z, σ' = [some (.ref a), z, none, none]) ∧ SqL K H' a (ns.map V.int)) ⟨⟨none, rfl⟩, hs⟩ (fun i σ' H' hi h => ?_) fun σ' H' h => ?_
  · obtain ⟨⟨z, rfl⟩, hs1⟩ := h
    refine ⟨.ref a, rfl, .int (0 + i), rfl, a, ns, 0 + i, rfl, hs1, ⟨by omega, by omega⟩, fun p H2 x2 np hp => ?_⟩
    refine ⟨p, rfl, hp, fun H3 x3 => ⟨true, rfl, ?_⟩⟩
    refine iteF ?_
    refine ⟨⟨_, rfl⟩, ?_⟩
    rcases hs1 with hs1 | hs1
    · refine .inl ?_
      rcases hs1 with e | ⟨o, e⟩
      · exact .inl (x3 a _ (ne_of_none e np) (x2 _ _ e))
      · exact .inr ⟨o, x3 a _ (ne_of_none e np) (x2 _ _ e)⟩
    · exact .inr hs1
  · obtain ⟨⟨z, rfl⟩, _⟩ := h
    refine ⟨_, nO, n, _, wl, (OVs.un (.un (.un (.un .nil)))).rel, eCall_eq rfl hw, fun H2 v x2 hl => ?_⟩
    refine ⟨_, nO, n, _, false, (OVs.un (.un (.so hl (.un .nil)))).rel, hb, fun H3 x3 => ?_⟩
    refine iteF ?_
    refine ⟨_, nO, n, _, .bl true, (OVs.un (.un (.so (hl.mono x3) (.un .nil)))).rel, hv, fun H4 u x4 hu => ?_⟩
    cases hu
    exact q H4
end
end TL

/-! The closed side of the law -/
namespace TL
mutual
def beqD : D → D → Bool
  | .non, .non => true
  | .bl a, .bl b => a == b
  | .int a, .int b => decide (a = b)
  | .tup a, .tup b => beqDs a b
  | .lst a, .lst b => beqDs a b
  | .obj c a, .obj d b => decide (c = d) && beqDs a b
  | _, _ => false
def beqDs : List D → List D → Bool
  | [], [] => true
  | a :: r, b :: s => beqD a b && beqDs r s
  | _, _ => false
end
mutual
theorem beqD_eq : ∀ {a b : D}, beqD a b = true → a = b
  | .non, .non, _ => rfl
  | .bl a, .bl b, h => by simp [beqD] at h; rw [h]
  | .int a, .int b, h => by simp [beqD] at h; rw [h]
  | .tup a, .tup b, h => by rw [beqDs_eq (a := a) (b := b) (by simpa [beqD] using h)]
  | .lst a, .lst b, h => by rw [beqDs_eq (a := a) (b := b) (by simpa [beqD] using h)]
  | .obj c a, .obj d b, h => by
    have z : decide (c = d) = true ∧ beqDs a b = true := by simpa [beqD] using h
    rw [of_decide_eq_true z.1, beqDs_eq z.2]
theorem beqDs_eq : ∀ {a b : List D}, beqDs a b = true → a = b
  | [], [], _ => rfl
  | a :: r, b :: s, h => by
    have z : beqD a b = true ∧ beqDs r s = true := by simpa [beqDs] using h
    rw [beqD_eq z.1, beqDs_eq z.2]
end
def isD (o : Option D) (d : D) : Bool := match o with
  | some x => beqD x d
  | none => false
theorem isD_eq {o : Option D} {d : D} (h : isD o d = true) : o = some d := by
  cases o with
  | none => cases h
  | some x => rw [beqD_eq (show beqD x d = true from h)]
def getD (o : Option D) : D := match o with
  | some d => d
  | none => .non
theorem getD_eq {o : Option D} (h : o.isSome = true) : o = some (getD o) := by
  cases o with
  | none => cases h
  | some d => rfl
def wl : D := getD (m_whole_lattice 300 [])
theorem wl_eq : m_whole_lattice 300 [] = some wl := getD_eq (by decide +kernel)
theorem lawMath : LawMath := ⟨300, wl, wl_eq, by decide +kernel, isD_eq (by decide +kernel)⟩
end TL

/-! The numbers' side: common divisors -/
namespace TL
open PySem PySem.Spec PyProof.Rows L2 Evl SlX StX C8

def tCo : EB := bOf (eBin fNe (eVar 1) (eC (.int 0)))
def bCo : ES := sPar 0 1 (aCons (eVar 1) (aCons (eBin fMod (eVar 0) (eVar 1)) aNil))
theorem fNe_int (i j : Int) : fNe (.int i) (.int j) = some (.bl (!decide (i = j))) := by
  show some _ = _
  rfl
theorem co_loop (n : Nat) : ∀ (b k : Nat) (a : Nat), b < k → whileE tCo bCo n k ⟨[some (.int a), some (.int b)], .no⟩ = some (.nx ⟨[some (.int (Nat.gcd b a)), some (.int 0)], .no⟩) := by
  intro b
  induction b using Nat.strongRecOn with
  | _ b ih =>
    intro k a hk
    obtain ⟨k, rfl⟩ : ∃ j, k = j + 1 := ⟨k - 1, by omega⟩
    have ht : tCo n ⟨[some (.int a), some (.int b)], .no⟩ = some (!decide ((b : Int) = 0)) := rfl
    by_cases hb : b = 0
    · subst hb
      unfold whileE
      rw [ht]
      simp
    · have hb0 : 0 < b := Nat.pos_of_ne_zero hb
      have hbody : bCo n ⟨[some (.int a), some (.int b)], .no⟩ = some (.nx ⟨[some (.int b), some (.int ((a % b : Nat) : Int))], .no⟩) := by
        have e : eBin fMod (eVar 0) (eVar 1) n ⟨[some (.int a), some (.int b)], .no⟩ = some (.int ((a : Int) % (b : Int))) := eBin_eq rfl rfl (fMod_ok (by omega))
        unfold bCo sPar
        rw [aCons_eq rfl (aCons_eq e rfl)]
        rfl
      unfold whileE
      rw [ht, hbody]
      have hd : (!decide ((b : Int) = 0)) = true := by simp; omega
      rw [hd]
      show whileE tCo bCo n k _ = _
      rw [ih (a % b) (Nat.mod_lt _ hb0) k b (by have := Nat.mod_lt a hb0; omega)]
      rw [← Nat.gcd_rec]
theorem fAbs_int (i : Int) : fAbs [.int i] = some (.int i.natAbs) := by
  show some (D.int (if i < 0 then -i else i)) = _
  congr 2
  split <;> omega
theorem co_of {n : Nat} {a b : Int} (h : b.natAbs + 2 ≤ n ∨ a.natAbs + 3 ≤ n) : m_common_of n [.int a, .int b] = some (.int (Int.gcd a b)) := by
  have hl : whileE tCo bCo n n ⟨[some (.int a.natAbs), some (.int b.natAbs)], .no⟩ = some (.nx ⟨[some (.int (Int.gcd a b)), some (.int 0)], .no⟩) := by
    rcases h with h | h
    · rw [co_loop n _ _ _ (by omega)]
      rw [Nat.gcd_comm]
      rfl
    · by_cases hs : b.natAbs < n
      · rw [co_loop n _ _ _ hs, Nat.gcd_comm]
        rfl
      · obtain ⟨k, rfl⟩ : ∃ j, n = j + 1 := ⟨n - 1, by omega⟩
        have hb : b.natAbs ≠ 0 := by omega
        have hb0 : 0 < b.natAbs := Nat.pos_of_ne_zero hb
        have ht : tCo (k + 1) ⟨[some (.int a.natAbs), some (.int b.natAbs)], .no⟩ = some (!decide ((b.natAbs : Int) = 0)) := rfl
        have hbody : bCo (k + 1) ⟨[some (.int a.natAbs), some (.int b.natAbs)], .no⟩ = some (.nx ⟨[some (.int b.natAbs), some (.int ((a.natAbs % b.natAbs : Nat) : Int))], .no⟩) := by
          have e : eBin fMod (eVar 0) (eVar 1) (k + 1) ⟨[some (.int a.natAbs), some (.int b.natAbs)], .no⟩ = some (.int ((a.natAbs : Int) % (b.natAbs : Int))) := eBin_eq rfl rfl (fMod_ok (by omega))
          unfold bCo sPar
          rw [aCons_eq rfl (aCons_eq e rfl)]
          rfl
        unfold whileE
        rw [ht, hbody]
        have hd : (!decide ((b.natAbs : Int) = 0)) = true := by simp; omega
        rw [hd]
        show whileE tCo bCo (k + 1) k _ = _
        have hm : a.natAbs % b.natAbs < k := Nat.lt_of_le_of_lt (Nat.mod_le _ _) (by omega)
        rw [co_loop (k + 1) _ _ _ hm, ← Nat.gcd_rec, Nat.gcd_comm]
        rfl
  show outD ((sSeq _ (sSeq (sWhile tCo bCo) (sRet (eVar 0)))) n ⟨_, .no⟩) = _
  unfold sSeq
  have h0 : sPar 0 1 (aCons (eB fAbs (aCons (eVar 0) aNil)) (aCons (eB fAbs (aCons (eVar 1) aNil)) aNil)) n ⟨pad P_common_of.length N_common_of.length [.int a, .int b], .no⟩ = some (.nx ⟨[some (.int a.natAbs), some (.int b.natAbs)], .no⟩) := by
    unfold sPar
    rw [aCons_eq (eB_eq (aCons_eq rfl rfl) (fAbs_int a)) (aCons_eq (eB_eq (aCons_eq rfl rfl) (fAbs_int b)) rfl)]
    rfl
  rw [h0]
  show outD (match sWhile tCo bCo n ⟨[some (.int a.natAbs), some (.int b.natAbs)], .no⟩ with | some (.nx τ') => sRet (eVar 0) n τ' | r => r) = _
  unfold sWhile
  rw [hl]
  rfl
end TL

/-! The numbers' side: fours -/
namespace TL
open PySem PySem.Spec PyProof.Rows L2 Evl SlX StX C8

def gc (c w x y z : Int) : Nat := Int.gcd (Int.gcd (Int.gcd (Int.gcd c w) x) y) z
theorem gcd_le_left {a b : Int} (h : 0 < a) : (Int.gcd a b : Int) ≤ a := by
  have h1 : (Int.gcd a b : Int) ∣ a := Int.gcd_dvd_left ..
  exact Int.le_of_dvd h h1
theorem gcd_pos_left {a b : Int} (h : 0 < a) : 0 < (Int.gcd a b : Int) := by
  have := Int.gcd_pos_of_ne_zero_left b (show a ≠ 0 by omega)
  omega
theorem co_abs {n : Nat} {a e : Int} (hn : 100 ≤ n) (h0 : 0 < a) (h : a ≤ 16) : m_common_of n [.int a, .int e.natAbs] = some (.int (Int.gcd a e)) := by
  rw [co_of (.inr (by omega))]
  all_goals rfl
theorem fDiv_sm {i j : Int} (hj : 0 < j) (h : j ≤ 16) : fDiv (.int i) (.int j) = some (.int (i / j)) := fDiv_ok hj (Nat.lt_of_lt_of_le (show j.natAbs < 2 ^ 5 by omega) (Nat.pow_le_pow_right (by decide) (by decide)))
theorem lowest_of {n : Nat} {w x y z c : Int} (hn : 100 ≤ n) (h0 : 0 < c) (h : c ≤ 16) : m_lowest n [.tup [.int w, .int x, .int y, .int z], .int c] = some (.tup [.tup [.int (w / gc c w x y z), .int (x / gc c w x y z), .int (y / gc c w x y z), .int (z / gc c w x y z)], .int (c / gc c w x y z)]) := by
  have p1 := gcd_pos_left (b := w) h0
  have l1 := gcd_le_left (b := w) h0
  have p2 := gcd_pos_left (b := x) p1
  have l2 := gcd_le_left (b := x) p1
  have p3 := gcd_pos_left (b := y) p2
  have l3 := gcd_le_left (b := y) p2
  have p4 := gcd_pos_left (b := z) p3
  have l4 := gcd_le_left (b := z) p3
  have hc : (c.natAbs : Int) = c := Int.natAbs_of_nonneg (by omega)
  have c1 := co_abs (n := n) (e := w) hn h0 h
  have c2 := co_abs (n := n) (e := x) hn p1 (by omega)
  have c3 := co_abs (n := n) (e := y) hn p2 (by omega)
  have c4 := co_abs (n := n) (e := z) hn p3 (by omega)
  have dv : ∀ i : Int, fDiv (.int i) (.int (gc c w x y z)) = some (.int (i / (gc c w x y z))) := fun i => fDiv_sm p4 (by show (Int.gcd _ z : Int) ≤ 16; omega)
  generalize hg : (gc c w x y z : Int) = g at dv ⊢
  have hg4 : (Int.gcd (Int.gcd (Int.gcd (Int.gcd c w) x) y) z : Int) = g := hg
  rw [hg4] at c4
  simp [m_lowest, mir, e_lowest, sSeq, sAsg, sFor, forE, eB, aCons, aNil, eVar, eC, eBin, eCall, etName, pad, eItems, fAbs_int, hc, c1, c2, c3, c4, bOf, fGt, fI, eIf, h0, eTup, eLc, lcE, wipeD, bYes, dv, fTuple, sRet, outD, PM.free]
def alF : List D := [.int (-1), .int (-1), .int 2, .tup [.int 0, .int 2]]
def al : D := .obj 2 alF
def eqDs (o : Option (List D)) (d : List D) : Bool := match o with
  | some x => beqDs x d
  | none => false
theorem eqDs_eq {o : Option (List D)} {d : List D} (h : eqDs o d = true) : o = some d := by
  cases o with
  | none => cases h
  | some x => rw [beqDs_eq (show beqDs x d = true from h)]
theorem alg_eq : m_Algebra 1000 [.int (-1), .int (-1)] = some alF := eqDs_eq (by decide +kernel)
/-- c, w .. z in lowest terms -/
def fq (c w x y z : Int) : List D := [al, .int (c / gc c w x y z), .tup [.int (w / gc c w x y z), .int (x / gc c w x y z), .int (y / gc c w x y z), .int (z / gc c w x y z)]]
def fo (c w x y z : Int) : D := .obj 4 (fq c w x y z)
theorem parts_of {n : Nat} {w x y z c : Int} (hn : 100 ≤ n) (h0 : 0 < c) (h : c ≤ 16) : m_Parts n [.tup [.int w, .int x, .int y, .int z], .int c] = some [.int (c / gc c w x y z), .tup [.int (w / gc c w x y z), .int (x / gc c w x y z), .int (y / gc c w x y z), .int (z / gc c w x y z)]] := by
  simp [m_Parts, mirI, e_Parts___init__, sAsg, eCall, aCons, aNil, eVar, pad, lowest_of hn h0 h, etTup, etCons, etNil, etSelf, PM.free, outI, allSome, putD, l_own_entries, l_own_bottom]
theorem isi_33 (ds : List D) : fIsi isiT [.obj 3 ds, .cls 3] = some (.bl true) := rfl
theorem isi_22 (ds : List D) : fIsi isiT [.obj 2 ds, .cls 2] = some (.bl true) := rfl
theorem isi_44 (ds : List D) : fIsi isiT [.obj 4 ds, .cls 4] = some (.bl true) := rfl
theorem isi_t3 (ds : List D) : fIsi isiT [.tup ds, .cls 3] = some (.bl false) := rfl
theorem isi_tt (ds : List D) : fIsi isiT [.tup ds, .ty "tuple"] = some (.bl true) := rfl
theorem isi_ii (i : Int) : fIsi isiT [.int i, .ty "int"] = some (.bl true) := rfl
theorem isi_ib (i : Int) : fIsi isiT [.int i, .ty "bool"] = some (.bl false) := rfl
theorem four_parts {n : Nat} {ds : List D} {b e : D} : m_Four n [.obj 2 ds, .obj 3 [b, e], .int 1] = some [.obj 2 ds, b, e] := by
  simp [m_Four, mirI, e_Four___init__, sSeq, sExpr, sAsg, eCall, aCons, aNil, eVar, pad, m_require_algebra, mir, e_require_algebra, sIf, bNot, bOf, eB, eC, isi_22, sNx, outD, m_parts_told, e_parts_told, isi_33, sRet, etName, PM.free, etSelf, eUn, fFld, l_own_entries, l_own_bottom, l_own_algebra, outI, allSome, putD]
theorem four_made_of {n : Nat} {w x y z c : Int} (hn : 100 ≤ n) (h0 : 0 < c) (h : c ≤ 16) : m_four_made n [al, .tup [.int w, .int x, .int y, .int z], .int c] = some (fo c w x y z) := by
  have p := parts_of (w := w) (x := x) (y := y) (z := z) hn h0 h
  unfold al
  simp [m_four_made, mir, e_four_made, sRet, eMake, aCons, aNil, eVar, pad, p, four_parts, outD, fo, fq, al]
/-- whole numbers below 10^59 -/
abbrev Sm (i : Int) : Prop := -(10 ^ 59) < i ∧ i < 10 ^ 59
def kB : Int := 10 ^ 60
theorem k_BEYOND_eq : k_BEYOND = .int kB := rfl
theorem fEq_int (i j : Int) : fEq (.int i) (.int j) = some (.bl (decide (i = j))) := rfl
theorem is_int_of {n : Nat} {i : Int} (h : Sm i) : m_is_integer n [.int i] = some (.bl true) := by
  have h1 : -kB < i := by unfold kB; omega
  have h2 : i < kB := by unfold kB; omega
  simp [mir, mirI, outD, outI, pad, sSeq, sAsg, sPar, sRet, sIf, sExpr, sNx, sFor, forE, etName, etTup, etTupT, etCons, etNil, etSelf, eVar, eC, eBin, eUn, eBinN, eUnN, aCons, aNil, eTup, eLst, eB, eCall, eMake, eProp, eMeth, bOf, bOr, bNot, bAnd, bYes, eAnd, eOr, eIf, eItems, eZip, seqD, zipD, eLc, lcE, wipeD, fI, fAddI, fSub, fAdd, fLt, fLe, fGt, fGe, fNeg, fNot, fFld, fLen, fList, fTuple, fAll, allB, fAny, anyB, blsD, fOwn2, fOwn1, fInO, fEqO, fNeO, PM.free, allSome, putD, fEq_int, fNe_int, isi_33, isi_22, isi_44, isi_t3, isi_tt, isi_ii, isi_ib, l_own_entries, l_own_bottom, l_own_algebra, l_own_a, l_own_b, k_MANY_ENTRIES, m_is_integer, e_is_integer, m_is_whole_ratios, e_is_whole_ratios, eChain, k_BEYOND_eq, h1, h2]
theorem four_of {n : Nat} {w x y z c : Int} (hn : 100 ≤ n) (h0 : 0 < c) (h : c ≤ 16) (hw : Sm w) (hx : Sm x) (hy : Sm y) (hz : Sm z) (ds : List D) : m_Four n [.obj 2 ds, .tup [.int w, .int x, .int y, .int z], .int c] = some (.obj 2 ds :: (fq c w x y z).tail) := by
  have p := parts_of (w := w) (x := x) (y := y) (z := z) hn h0 h
  have i1 := is_int_of (n := n) hw
  have i2 := is_int_of (n := n) hx
  have i3 := is_int_of (n := n) hy
  have i4 := is_int_of (n := n) hz
  have i5 := is_int_of (n := n) (i := c) ⟨by omega, by omega⟩
  have c0 : ¬ c = 0 := by omega
  simp [mir, mirI, outD, outI, pad, sSeq, sAsg, sPar, sRet, sIf, sExpr, sNx, sFor, forE, etName, etTup, etTupT, etCons, etNil, etSelf, eVar, eC, eBin, eUn, eBinN, eUnN, aCons, aNil, eTup, eLst, eB, eCall, eMake, eProp, eMeth, bOf, bOr, bNot, bAnd, bYes, eAnd, eOr, eIf, eItems, eZip, seqD, zipD, eLc, lcE, wipeD, fI, fAddI, fSub, fAdd, fLt, fLe, fGt, fGe, fNeg, fNot, fFld, fLen, fList, fTuple, fAll, allB, fAny, anyB, blsD, fOwn2, fOwn1, fInO, fEqO, fNeO, PM.free, allSome, putD, fEq_int, fNe_int, isi_33, isi_22, isi_44, isi_t3, isi_tt, isi_ii, isi_ib, l_own_entries, l_own_bottom, l_own_algebra, l_own_a, l_own_b, k_MANY_ENTRIES, m_Four, e_Four___init__, m_require_algebra, e_require_algebra, m_parts_told, e_parts_told, i1, i2, i3, i4, i5, c0, p, fq]
end TL

/-! The numbers' side: what the fours' own operators compute -/
namespace TL
open PySem PySem.Spec PyProof.Rows L2 Evl SlX StX C8

/-- below 2^k -/
abbrev Bk (k : Nat) (i : Int) : Prop := i.natAbs < 2 ^ k
theorem Bk.mul {j k : Nat} {a b : Int} (h : Bk j a) (h' : Bk k b) : Bk (j + k) (a * b) := by
  show (a * b).natAbs < 2 ^ (j + k)
  rw [Int.natAbs_mul, Nat.pow_add]
  exact Nat.mul_lt_mul'' h h'
theorem Bk.mono {j k : Nat} {a : Int} (h : Bk j a) (l : j ≤ k) : Bk k a := Nat.lt_of_lt_of_le h (Nat.pow_le_pow_right (by decide) l)
theorem Bk.add {k : Nat} {a b : Int} (h : Bk k a) (h' : Bk k b) : Bk (k + 1) (a + b) := by
  show (a + b).natAbs < 2 ^ (k + 1)
  rw [Nat.pow_succ]
  have h1 : a.natAbs < 2 ^ k := h
  have h2 : b.natAbs < 2 ^ k := h'
  omega
theorem Bk.sub {k : Nat} {a b : Int} (h : Bk k a) (h' : Bk k b) : Bk (k + 1) (a - b) := by
  show (a - b).natAbs < 2 ^ (k + 1)
  rw [Nat.pow_succ]
  have h1 : a.natAbs < 2 ^ k := h
  have h2 : b.natAbs < 2 ^ k := h'
  omega
theorem Bk.neg {k : Nat} {a : Int} (h : Bk k a) : Bk k (-a) := by
  show (-a).natAbs < 2 ^ k
  rw [Int.natAbs_neg]
  exact h
theorem fMul_k {j k : Nat} {a b : Int} (h : Bk j a) (h' : Bk k b) (hj : j ≤ 3000) (hk : k ≤ 3000) : fMul (.int a) (.int b) = some (.int (a * b)) := fMul_ok (h.mono hj) (h'.mono hk)
/-- below 2^300 -/
abbrev B3 (i : Int) : Prop := i.natAbs < 2 ^ 300
theorem mul3 {a b : Int} (h : B3 a) (h' : B3 b) : fMul (.int a) (.int b) = some (.int (a * b)) := fMul_k (j := 300) (k := 300) h h' (by decide) (by decide)
theorem mulN {a : Int} (h : Bk 2000 a) : fMul (.int (-1)) (.int a) = some (.int (-1 * a)) := fMul_k (j := 1) (k := 2000) (by decide) h (by decide) (by decide)
theorem mulC {a : Int} {c : Int} (hc : Bk 5 c) (h : Bk 2000 a) : fMul (.int c) (.int a) = some (.int (c * a)) := fMul_k (j := 5) (k := 2000) hc h (by decide) (by decide)
theorem raw_norm_of {n : Nat} {w x y z : Int} (hw : B3 w) (hx : B3 x) (hy : B3 y) (hz : B3 z) : m_raw_norm n [.int (-1), .int (-1), .tup [.int w, .int x, .int y, .int z]] = some (.int (w * w + x * x + y * y + z * z)) := by
  have e1 := mul3 hw hw
  have e2 := mul3 hy hy
  have e3 : fMul (.int (-1)) (.int x) = some (.int (-1 * x)) := mulN (Bk.mono (k := 2000) hx (by decide))
  have e4 : fMul (.int (-1)) (.int z) = some (.int (-1 * z)) := mulN (Bk.mono (k := 2000) hz (by decide))
  have bx : Bk 301 (-1 * x) := by
    have := Bk.mul (j := 1) (k := 300) (a := -1) (b := x) (by decide) hx
    exact this
  have bz : Bk 301 (-1 * z) := Bk.mul (j := 1) (k := 300) (a := -1) (b := z) (by decide) hz
  have e5 : fMul (.int (-1 * x)) (.int x) = some (.int (-1 * x * x)) := fMul_k bx hx (by decide) (by decide)
  have e6 : fMul (.int (-1 * z)) (.int z) = some (.int (-1 * z * z)) := fMul_k bz hz (by decide) (by decide)
  have b7 : Bk 602 (y * y - -1 * z * z) := Bk.sub ((Bk.mul hy hy).mono (by decide)) (Bk.mul bz hz)
  have e7 : fMul (.int (-1)) (.int (y * y - -1 * z * z)) = some (.int (-1 * (y * y - -1 * z * z))) := mulN (b7.mono (by decide))
  have e8 : w * w - -1 * x * x - -1 * (y * y - -1 * z * z) = w * w + x * x + y * y + z * z := by grind
  simp only [mir, mirI, outD, outI, pad, sSeq, sAsg, sPar, sRet, sIf, sExpr, sNx, sFor, forE, etName, etTup, etTupT, etCons, etNil, etSelf, eVar, eC, eBin, eUn, eBinN, eUnN, aCons, aNil, eTup, eLst, eB, eCall, eMake, eProp, eMeth, bOf, bOr, bNot, bAnd, bYes, eAnd, eOr, eIf, eItems, eZip, seqD, zipD, eLc, lcE, wipeD, fI, fAddI, fSub, fAdd, fLt, fLe, fGt, fGe, fNeg, fNot, fFld, fLen, fList, fTuple, fAll, allB, fAny, anyB, blsD, fOwn2, fOwn1, fInO, fEqO, fNeO, PM.free, allSome, putD, fEq_int, fNe_int, isi_33, isi_22, isi_44, isi_t3, isi_tt, isi_ii, isi_ib, l_own_entries, l_own_bottom, l_own_algebra, l_own_a, l_own_b, k_MANY_ENTRIES, m_raw_norm, e_raw_norm, e1, e2, e3, e4, e5, e6, e7, List.length_cons, List.length_nil, List.map_cons, List.map_nil, List.cons_append, List.nil_append, List.replicate, List.set_cons_zero, List.set_cons_succ, List.getElem?_cons_zero, List.getElem?_cons_succ, if_true]
  simp
  grind
def p1 (w x y z s t u v : Int) : Int := w * s - x * t - y * u - z * v
def p2 (w x y z s t u v : Int) : Int := w * t + x * s + y * v - z * u
def p3 (w x y z s t u v : Int) : Int := w * u - x * v + y * s + z * t
def p4 (w x y z s t u v : Int) : Int := w * v + x * u - y * t + z * s
theorem bN {k : Nat} {a : Int} (h : Bk k a) : Bk (k + 1) (-1 * a) := by
  have e : -1 * a = -a := by omega
  rw [e]
  exact h.neg.mono (by omega)
theorem raw_product_of {n : Nat} {w x y z s t u v : Int} (hw : B3 w) (hx : B3 x) (hy : B3 y) (hz : B3 z) (hs : B3 s) (ht : B3 t) (hu : B3 u) (hv : B3 v) :
    m_raw_product n [.int (-1), .int (-1), .tup [.int w, .int x, .int y, .int z], .tup [.int s, .int t, .int u, .int v]] = some (.tup [.int (p1 w x y z s t u v), .int (p2 w x y z s t u v), .int (p3 w x y z s t u v), .int (p4 w x y z s t u v)]) := by
  have m11 := mul3 hw hs
  have m12 := mul3 hw ht
  have m13 := mul3 hw hu
  have m14 := mul3 hw hv
  have m21 := mul3 hx hs
  have m23 := mul3 hx hu
  have m24 := mul3 hx hv
  have m31 := mul3 hy hs
  have m32 := mul3 hy ht
  have m33 := mul3 hy hu
  have m34 := mul3 hy hv
  have m41 := mul3 hz hs
  have m42 := mul3 hz ht
  have m43 := mul3 hz hu
  have nx : fMul (.int (-1)) (.int x) = some (.int (-1 * x)) := mulN (Bk.mono (k := 2000) hx (by decide))
  have nz : fMul (.int (-1)) (.int z) = some (.int (-1 * z)) := mulN (Bk.mono (k := 2000) hz (by decide))
  have nxt : fMul (.int (-1 * x)) (.int t) = some (.int (-1 * x * t)) := fMul_k (bN hx) ht (by decide) (by decide)
  have nzv : fMul (.int (-1 * z)) (.int v) = some (.int (-1 * z * v)) := fMul_k (bN hz) hv (by decide) (by decide)
  have q1 : fMul (.int (-1)) (.int (y * u - -1 * z * v)) = some (.int (-1 * (y * u - -1 * z * v))) := mulN ((Bk.sub ((Bk.mul hy hu).mono (by decide)) (Bk.mul (bN hz) hv)).mono (by decide))
  have q2 : fMul (.int (-1)) (.int (z * u - y * v)) = some (.int (-1 * (z * u - y * v))) := mulN ((Bk.sub (Bk.mul hz hu) (Bk.mul hy hv)).mono (by decide))
  have q3 : fMul (.int (-1)) (.int (x * v - z * t)) = some (.int (-1 * (x * v - z * t))) := mulN ((Bk.sub (Bk.mul hx hv) (Bk.mul hz ht)).mono (by decide))
  simp only [mir, mirI, outD, outI, pad, sSeq, sAsg, sPar, sRet, sIf, sExpr, sNx, sFor, forE, etName, etTup, etTupT, etCons, etNil, etSelf, eVar, eC, eBin, eUn, eBinN, eUnN, aCons, aNil, eTup, eLst, eB, eCall, eMake, eProp, eMeth, bOf, bOr, bNot, bAnd, bYes, eAnd, eOr, eIf, eItems, eZip, seqD, zipD, eLc, lcE, wipeD, fI, fAddI, fSub, fAdd, fLt, fLe, fGt, fGe, fNeg, fNot, fFld, fLen, fList, fTuple, fAll, allB, fAny, anyB, blsD, fOwn2, fOwn1, fInO, fEqO, fNeO, PM.free, allSome, putD, fEq_int, fNe_int, isi_33, isi_22, isi_44, isi_t3, isi_tt, isi_ii, isi_ib, l_own_entries, l_own_bottom, l_own_algebra, l_own_a, l_own_b, k_MANY_ENTRIES, m_raw_product, e_raw_product, m11, m12, m13, m14, m21, m23, m24, m31, m32, m33, m34, m41, m42, m43, nx, nz, nxt, nzv, q1, q2, q3, List.length_cons, List.length_nil, List.map_cons, List.map_nil, List.cons_append, List.nil_append, List.replicate, List.set_cons_zero, List.set_cons_succ, List.getElem?_cons_zero, List.getElem?_cons_succ, if_true]
  simp [p1, p2, p3, p4]
  grind
theorem law_times_of {n : Nat} {w x y z s t u v : Int} (hw : B3 w) (hx : B3 x) (hy : B3 y) (hz : B3 z) (hs : B3 s) (ht : B3 t) (hu : B3 u) (hv : B3 v) :
    m__law_times n [.tup [.int w, .int x, .int y, .int z], .tup [.int s, .int t, .int u, .int v]] = some (.tup [.int (p1 w x y z s t u v / 2), .int (p2 w x y z s t u v / 2), .int (p3 w x y z s t u v / 2), .int (p4 w x y z s t u v / 2)]) := by
  have m11 := mul3 hw hs
  have m12 := mul3 hw ht
  have m13 := mul3 hw hu
  have m14 := mul3 hw hv
  have m21 := mul3 hx hs
  have m22 := mul3 hx ht
  have m23 := mul3 hx hu
  have m24 := mul3 hx hv
  have m31 := mul3 hy hs
  have m32 := mul3 hy ht
  have m33 := mul3 hy hu
  have m34 := mul3 hy hv
  have m41 := mul3 hz hs
  have m42 := mul3 hz ht
  have m43 := mul3 hz hu
  have m44 := mul3 hz hv
  have d2 : ∀ i : Int, fDiv (.int i) (.int 2) = some (.int (i / 2)) := fun i => fDiv_sm (by decide) (by decide)
  simp only [mir, mirI, outD, outI, pad, sSeq, sAsg, sPar, sRet, sIf, sExpr, sNx, sFor, forE, etName, etTup, etTupT, etCons, etNil, etSelf, eVar, eC, eBin, eUn, eBinN, eUnN, aCons, aNil, eTup, eLst, eB, eCall, eMake, eProp, eMeth, bOf, bOr, bNot, bAnd, bYes, eAnd, eOr, eIf, eItems, eZip, seqD, zipD, eLc, lcE, wipeD, fI, fAddI, fSub, fAdd, fLt, fLe, fGt, fGe, fNeg, fNot, fFld, fLen, fList, fTuple, fAll, allB, fAny, anyB, blsD, fOwn2, fOwn1, fInO, fEqO, fNeO, PM.free, allSome, putD, fEq_int, fNe_int, isi_33, isi_22, isi_44, isi_t3, isi_tt, isi_ii, isi_ib, l_own_entries, l_own_bottom, l_own_algebra, l_own_a, l_own_b, k_MANY_ENTRIES, m__law_times, e__law_times, m11, m12, m13, m14, m21, m22, m23, m24, m31, m32, m33, m34, m41, m42, m43, m44, d2, List.length_cons, List.length_nil, List.map_cons, List.map_nil, List.cons_append, List.nil_append, List.replicate, List.set_cons_zero, List.set_cons_succ, List.getElem?_cons_zero, List.getElem?_cons_succ, if_true]
  simp [p1, p2, p3, p4]
theorem law_norm_of {n : Nat} {w x y z : Int} (hw : B3 w) (hx : B3 x) (hy : B3 y) (hz : B3 z) : m__law_norm n [.tup [.int w, .int x, .int y, .int z]] = some (.int ((w * w + x * x + y * y + z * z) / 4)) := by
  have m11 := mul3 hw hw
  have m22 := mul3 hx hx
  have m33 := mul3 hy hy
  have m44 := mul3 hz hz
  have d4 : ∀ i : Int, fDiv (.int i) (.int 4) = some (.int (i / 4)) := fun i => fDiv_sm (by decide) (by decide)
  have i0 : fIx (.tup [.int w, .int x, .int y, .int z]) (.int 0) = some (.int w) := rfl
  have i1 : fIx (.tup [.int w, .int x, .int y, .int z]) (.int 1) = some (.int x) := rfl
  have i2 : fIx (.tup [.int w, .int x, .int y, .int z]) (.int 2) = some (.int y) := rfl
  have i3 : fIx (.tup [.int w, .int x, .int y, .int z]) (.int 3) = some (.int z) := rfl
  simp [mir, mirI, outD, outI, pad, sSeq, sAsg, sPar, sRet, sIf, sExpr, sNx, sFor, forE, etName, etTup, etTupT, etCons, etNil, etSelf, eVar, eC, eBin, eUn, eBinN, eUnN, aCons, aNil, eTup, eLst, eB, eCall, eMake, eProp, eMeth, bOf, bOr, bNot, bAnd, bYes, eAnd, eOr, eIf, eItems, eZip, seqD, zipD, eLc, lcE, wipeD, fI, fAddI, fSub, fAdd, fLt, fLe, fGt, fGe, fNeg, fNot, fFld, fLen, fList, fTuple, fAll, allB, fAny, anyB, blsD, fOwn2, fOwn1, fInO, fEqO, fNeO, PM.free, allSome, putD, fEq_int, fNe_int, isi_33, isi_22, isi_44, isi_t3, isi_tt, isi_ii, isi_ib, l_own_entries, l_own_bottom, l_own_algebra, l_own_a, l_own_b, k_MANY_ENTRIES, m__law_norm, e__law_norm, i0, i1, i2, i3, m11, m22, m33, m44, d4]
end TL

/-! The numbers' side: fours and their operators -/
namespace TL
open PySem PySem.Spec PyProof.Rows L2 Evl SlX StX C8

theorem gc_mul (k : Nat) (c w x y z : Int) : gc (k * c) (k * w) (k * x) (k * y) (k * z) = k * gc c w x y z := by
  unfold gc
  have h : ∀ a b : Int, (Int.gcd (k * a) (k * b)) = k * Int.gcd a b := fun a b => by rw [Int.gcd_mul_left]; simp
  rw [h]
  have e : ∀ m : Nat, ((k * m : Nat) : Int) = (k : Int) * (m : Int) := fun m => Int.natCast_mul k m
  rw [e, h, e, h, e, h]
theorem gc_pos {c w x y z : Int} (h0 : 0 < c) : 0 < (gc c w x y z : Int) := gcd_pos_left (gcd_pos_left (gcd_pos_left (gcd_pos_left h0)))
theorem fo_mul {k : Nat} {c w x y z : Int} (hk : 0 < k) (h0 : 0 < c) : fo (k * c) (k * w) (k * x) (k * y) (k * z) = fo c w x y z := by
  unfold fo fq
  rw [gc_mul]
  have e : ∀ a : Int, (k : Int) * a / ((k * gc c w x y z : Nat) : Int) = a / (gc c w x y z : Int) := fun a => by
    rw [Int.natCast_mul]
    exact Int.mul_ediv_mul_of_pos _ _ (by omega)
  rw [e, e, e, e, e]
theorem fo_eq {c d w x y z s t u v : Int} (hc : 0 < c) (hd : 0 < d) (h1 : d * w = c * s) (h2 : d * x = c * t) (h3 : d * y = c * u) (h4 : d * z = c * v) : fo c w x y z = fo d s t u v := by
  have ed : (d.natAbs : Int) = d := Int.natAbs_of_nonneg (by omega)
  have ec : (c.natAbs : Int) = c := Int.natAbs_of_nonneg (by omega)
  have z1 := fo_mul (k := d.natAbs) (c := c) (w := w) (x := x) (y := y) (z := z) (by omega) hc
  have z2 := fo_mul (k := c.natAbs) (c := d) (w := s) (x := t) (y := u) (z := v) (by omega) hd
  rw [ed, h1, h2, h3, h4, Int.mul_comm d c] at z1
  rw [ec] at z2
  exact z1.symm.trans z2
/-- a four as it stands -/
def fr (b w x y z : Int) : D := .obj 4 [al, .int b, .tup [.int w, .int x, .int y, .int z]]
theorem alg_same (n : Nat) : m_Algebra___eq__ n [al, al] = some (.bl true) := by
  simp [mir, mirI, outD, outI, pad, sSeq, sAsg, sPar, sRet, sIf, sExpr, sNx, sFor, forE, etName, etTup, etTupT, etCons, etNil, etSelf, eVar, eC, eBin, eUn, eBinN, eUnN, aCons, aNil, eTup, eLst, eB, eCall, eMake, eProp, eMeth, bOf, bOr, bNot, bAnd, bYes, eAnd, eOr, eIf, eItems, eZip, seqD, zipD, eLc, lcE, wipeD, fI, fAddI, fSub, fAdd, fLt, fLe, fGt, fGe, fNeg, fNot, fFld, fLen, fList, fTuple, fAll, allB, fAny, anyB, blsD, fOwn2, fOwn1, fInO, fEqO, fNeO, PM.free, allSome, putD, fEq_int, fNe_int, isi_33, isi_22, isi_44, isi_t3, isi_tt, isi_ii, isi_ib, l_own_entries, l_own_bottom, l_own_algebra, l_own_a, l_own_b, k_MANY_ENTRIES, m_Algebra___eq__, e_Algebra___eq__, al, alF]
theorem nf_22 (ds : List D) : okT nfT 2 (.obj 2 ds) = true := rfl
theorem nf_44 (ds : List D) : okT nfT 4 (.obj 4 ds) = true := rfl
theorem nf_11 (ds : List D) : okT nfT 1 (.obj 1 ds) = true := rfl
theorem nf_1i (i : Int) : okT nfT 1 (.int i) = true := rfl
theorem ne_al (n : Nat) : fNeO 2 nfT m_Algebra___eq__ n al al = some (.bl false) := by
  show (if (2 = 2 ∧ okT nfT 2 al = true) then (match m_Algebra___eq__ n [al, al] with | some (.bl k) => some (D.bl (!k)) | _ => none) else none) = _
  rw [alg_same]
  rfl
theorem fld_al (b e : D) : fFld l_own_algebra (.obj 4 [al, b, e]) = some al := rfl
theorem fld_b (b e : D) : fFld l_own_bottom (.obj 4 [al, b, e]) = some b := rfl
theorem fld_e (b e : D) : fFld l_own_entries (.obj 4 [al, b, e]) = some e := rfl
theorem fld_aa : fFld l_own_a al = some (.int (-1)) := rfl
theorem fld_ab : fFld l_own_b al = some (.int (-1)) := rfl
theorem req_same {n : Nat} (b e b' e' : D) : m_require_same_algebra n [.obj 4 [al, b, e], .obj 4 [al, b', e']] = some .non := by
  simp only [m_require_same_algebra, mir, e_require_same_algebra, sIf, bOf, eBinN, eBin, eUn, eVar, pad, List.length_cons, List.length_nil, List.map_cons, List.map_nil, List.cons_append, List.nil_append, List.replicate, List.getElem?_cons_zero, List.getElem?_cons_succ, fld_al, ne_al, if_true, sNx, outD]
theorem mul_of {n : Nat} (hn : 100 ≤ n) {b c w x y z s t u v : Int} (hb : 0 < b) (hb' : b ≤ 4) (hc : 0 < c) (hc' : c ≤ 4) (hw : B3 w) (hx : B3 x) (hy : B3 y) (hz : B3 z) (hs : B3 s) (ht : B3 t) (hu : B3 u) (hv : B3 v) :
    fOwn2 4 m_Four___mul__ n (fr b w x y z) (fr c s t u v) = some (fo (b * c) (p1 w x y z s t u v) (p2 w x y z s t u v) (p3 w x y z s t u v) (p4 w x y z s t u v)) := by
  have e1 := raw_product_of (n := n) hw hx hy hz hs ht hu hv
  have e2 : fMul (.int b) (.int c) = some (.int (b * c)) := mulC (show b.natAbs < 2 ^ 5 by omega) (Bk.mono (j := 5) (show c.natAbs < 2 ^ 5 by omega) (by decide))
  have l1 : 0 < b * c := Int.mul_pos hb hc
  have l2 : b * c ≤ 16 := by
    have : b * c ≤ 4 * 4 := Int.mul_le_mul hb' hc' (by omega) (by omega)
    omega
  have e3 := four_made_of (n := n) (w := p1 w x y z s t u v) (x := p2 w x y z s t u v) (y := p3 w x y z s t u v) (z := p4 w x y z s t u v) hn l1 l2
  simp [fOwn2, fr, m_Four___mul__, e_Four___mul__, mir, sSeq, sIf, bNot, bOf, eB, aCons, aNil, eVar, eC, pad, isi_44, sNx, sExpr, eCall, req_same, sAsg, eUn, fld_al, fld_b, fld_e, fld_aa, fld_ab, etName, PM.free, e1, eBin, e2, e3, sRet, outD]
theorem add_of {n : Nat} (hn : 100 ≤ n) {b c w x y z s t u v : Int} (hb : 0 < b) (hb' : b ≤ 4) (hc : 0 < c) (hc' : c ≤ 4) (hw : B3 w) (hx : B3 x) (hy : B3 y) (hz : B3 z) (hs : B3 s) (ht : B3 t) (hu : B3 u) (hv : B3 v) :
    m_Four___add__ n [fr b w x y z, fr c s t u v] = some (fo (b * c) (w * c + s * b) (x * c + t * b) (y * c + u * b) (z * c + v * b)) := by
  have b5 : B3 b := Bk.mono (j := 5) (show b.natAbs < 2 ^ 5 by omega) (by decide)
  have c5 : B3 c := Bk.mono (j := 5) (show c.natAbs < 2 ^ 5 by omega) (by decide)
  have e2 := mul3 b5 c5
  have m1 := mul3 hw c5
  have m2 := mul3 hx c5
  have m3 := mul3 hy c5
  have m4 := mul3 hz c5
  have m5 := mul3 hs b5
  have m6 := mul3 ht b5
  have m7 := mul3 hu b5
  have m8 := mul3 hv b5
  have l1 : 0 < b * c := Int.mul_pos hb hc
  have l2 : b * c ≤ 16 := by
    have : b * c ≤ 4 * 4 := Int.mul_le_mul hb' hc' (by omega) (by omega)
    omega
  have e3 := four_made_of (n := n) (w := w * c + s * b) (x := x * c + t * b) (y := y * c + u * b) (z := z * c + v * b) hn l1 l2
  simp [fr, m_Four___add__, e_Four___add__, mir, sSeq, sIf, bNot, bOf, eB, aCons, aNil, eVar, eC, pad, isi_44, sNx, sExpr, eCall, req_same, sAsg, eUn, fld_al, fld_b, fld_e, etName, PM.free, eTup, etTup, etCons, etNil, eLc, eZip, seqD, zipD, lcE, wipeD, etTupT, bYes, eBin, fAdd, fAddI, fI, fTuple, m1, m2, m3, m4, m5, m6, m7, m8, e2, e3, sRet, outD]
theorem neg_of {n : Nat} (hn : 100 ≤ n) {b w x y z : Int} (hb : 0 < b) (hb' : b ≤ 4) : m_Four___neg__ n [fr b w x y z] = some (fo b (-w) (-x) (-y) (-z)) := by
  have e3 := four_made_of (n := n) (w := -w) (x := -x) (y := -y) (z := -z) hn hb (show b ≤ 16 by omega)
  simp [fr, m_Four___neg__, e_Four___neg__, mir, eB, aCons, aNil, eVar, eC, pad, eCall, eUn, fld_al, fld_b, fld_e, etName, PM.free, eLc, eItems, lcE, wipeD, bYes, fNeg, fTuple, e3, sRet, outD]
theorem mate_of {n : Nat} (hn : 100 ≤ n) {b w x y z : Int} (hb : 0 < b) (hb' : b ≤ 4) : m_Four_mate n [fr b w x y z] = some (fo b w (-x) (-y) (-z)) := by
  have e3 := four_made_of (n := n) (w := w) (x := -x) (y := -y) (z := -z) hn hb (show b ≤ 16 by omega)
  have i0 : fIx (.tup [.int w, .int x, .int y, .int z]) (.int 0) = some (.int w) := rfl
  have i1 : fIx (.tup [.int w, .int x, .int y, .int z]) (.int 1) = some (.int x) := rfl
  have i2 : fIx (.tup [.int w, .int x, .int y, .int z]) (.int 2) = some (.int y) := rfl
  have i3 : fIx (.tup [.int w, .int x, .int y, .int z]) (.int 3) = some (.int z) := rfl
  simp [fr, m_Four_mate, e_Four_mate, mir, aCons, aNil, eVar, eC, pad, eCall, eUn, fld_al, fld_b, fld_e, m_raw_mate, e_raw_mate, eBin, i0, i1, i2, i3, eTup, fNeg, e3, sRet, outD]
theorem ratio_of_of {n : Nat} (hn : 100 ≤ n) {t b : Int} (hb : 0 < b) (hb' : b ≤ 16) : m_ratio_of n [.int t, .int b] = some (.obj 1 [.int (b / Int.gcd t b), .int (t / Int.gcd t b)]) := by
  have g0 : 0 < (Int.gcd t b : Int) := by rw [Int.gcd_comm]; exact gcd_pos_left hb
  have g1 : (Int.gcd t b : Int) ≤ 16 := by
    have : (Int.gcd b t : Int) ≤ b := gcd_le_left hb
    rw [Int.gcd_comm] at this
    omega
  have e1 := co_of (n := n) (a := t) (b := b) (.inl (by omega))
  have e2 := fDiv_sm (i := t) g0 g1
  have e3 := fDiv_sm (i := b) g0 g1
  have i0 : fIsi isiT [.obj 0 [.int b, .int t], .cls 0] = some (.bl true) := rfl
  have f1 : fFld l_own_top (.obj 0 [.int b, .int t]) = some (.int t) := rfl
  have f2 : fFld l_own_bottom (.obj 0 [.int b, .int t]) = some (.int b) := rfl
  simp [m_ratio_of, e_ratio_of, mir, mirI, sRet, eMake, aCons, aNil, eVar, eC, pad, m_Terms, e_Terms___init__, sSeq, sAsg, etSelf, PM.free, l_own_top, l_own_bottom, putD, outI, allSome, m_Ratio, e_Ratio___init__, sIf, bOf, eB, i0, sPar, eUn, f1, f2, eCall, e1, etName, eIf, eBin, fGt, fI, hb, e2, e3, outD]
theorem norm_of {n : Nat} (hn : 100 ≤ n) {b w x y z : Int} (hb : 0 < b) (hb' : b ≤ 4) (hw : B3 w) (hx : B3 x) (hy : B3 y) (hz : B3 z) :
    m_Four_norm n [fr b w x y z] = some (.obj 1 [.int (b * b / Int.gcd (w * w + x * x + y * y + z * z) (b * b)), .int ((w * w + x * x + y * y + z * z) / Int.gcd (w * w + x * x + y * y + z * z) (b * b))]) := by
  have b5 : B3 b := Bk.mono (j := 5) (show b.natAbs < 2 ^ 5 by omega) (by decide)
  have e1 := raw_norm_of (n := n) hw hx hy hz
  have e2 := mul3 b5 b5
  have l1 : 0 < b * b := Int.mul_pos hb hb
  have l2 : b * b ≤ 16 := by
    have : b * b ≤ 4 * 4 := Int.mul_le_mul hb' hb' (by omega) (by omega)
    omega
  have e3 := ratio_of_of (n := n) (t := w * w + x * x + y * y + z * z) hn l1 l2
  simp [fr, m_Four_norm, e_Four_norm, mir, aCons, aNil, eVar, eC, pad, eCall, eUn, fld_al, fld_b, fld_e, fld_aa, fld_ab, sSeq, sAsg, etName, PM.free, e1, eBin, e2, e3, sRet, outD]
end TL

/-! The numbers' side: whole fours -/
namespace TL
open PySem PySem.Spec PyProof.Rows L2 Evl SlX StX C8

/-- all even or all odd -/
def Hz (w x y z : Int) : Prop := w % 2 = x % 2 ∧ x % 2 = y % 2 ∧ y % 2 = z % 2
theorem Hz.form {w x y z : Int} (h : Hz w x y z) : ∃ o a b c d : Int, (o = 0 ∨ o = 1) ∧ w = 2 * a + o ∧ x = 2 * b + o ∧ y = 2 * c + o ∧ z = 2 * d + o := by
  obtain ⟨h1, h2, h3⟩ := h
  exact ⟨w % 2, w / 2, x / 2, y / 2, z / 2, by omega, by omega, by omega, by omega, by omega⟩
theorem prod_hz {w x y z s t u v : Int} (h : Hz w x y z) (h' : Hz s t u v) : p1 w x y z s t u v % 2 = 0 ∧ p2 w x y z s t u v % 2 = 0 ∧ p3 w x y z s t u v % 2 = 0 ∧ p4 w x y z s t u v % 2 = 0 ∧
    Hz (p1 w x y z s t u v / 2) (p2 w x y z s t u v / 2) (p3 w x y z s t u v / 2) (p4 w x y z s t u v / 2) := by
  obtain ⟨o, a, b, c, d, ho, rfl, rfl, rfl, rfl⟩ := h.form
  obtain ⟨q, e, f, g, k, hq, rfl, rfl, rfl, rfl⟩ := h'.form
  have e1 : p1 (2 * a + o) (2 * b + o) (2 * c + o) (2 * d + o) (2 * e + q) (2 * f + q) (2 * g + q) (2 * k + q) = 4 * p1 a b c d e f g k + 2 * (q * (a - b - c - d)) + 2 * (o * (e - f - g - k)) - 2 * (o * q) := by unfold p1; grind
  have e2 : p2 (2 * a + o) (2 * b + o) (2 * c + o) (2 * d + o) (2 * e + q) (2 * f + q) (2 * g + q) (2 * k + q) = 4 * p2 a b c d e f g k + 2 * (q * (a + b + c - d)) + 2 * (o * (f + e + k - g)) + 2 * (o * q) := by unfold p2; grind
  have e3 : p3 (2 * a + o) (2 * b + o) (2 * c + o) (2 * d + o) (2 * e + q) (2 * f + q) (2 * g + q) (2 * k + q) = 4 * p3 a b c d e f g k + 2 * (q * (a - b + c + d)) + 2 * (o * (g - k + e + f)) + 2 * (o * q) := by unfold p3; grind
  have e4 : p4 (2 * a + o) (2 * b + o) (2 * c + o) (2 * d + o) (2 * e + q) (2 * f + q) (2 * g + q) (2 * k + q) = 4 * p4 a b c d e f g k + 2 * (q * (a + b - c + d)) + 2 * (o * (k + g - f + e)) + 2 * (o * q) := by unfold p4; grind
  rw [e1, e2, e3, e4]
  generalize p1 a b c d e f g k = P1
  generalize p2 a b c d e f g k = P2
  generalize p3 a b c d e f g k = P3
  generalize p4 a b c d e f g k = P4
  unfold Hz
  rcases ho with rfl | rfl <;> rcases hq with rfl | rfl <;> simp only [Int.zero_mul, Int.one_mul, Int.mul_zero, Int.mul_one] <;> omega
theorem gcd_one (x : Int) : Int.gcd 1 x = 1 := by
  show Nat.gcd 1 _ = 1
  exact Nat.gcd_one_left _
theorem gc_one (w x y z : Int) : gc 1 w x y z = 1 := by
  have h1 : ((1 : Nat) : Int) = 1 := rfl
  unfold gc
  rw [gcd_one, h1, gcd_one, h1, gcd_one, h1, gcd_one]
theorem gcd_two_odd {x : Int} (h : x % 2 = 1) : Int.gcd 2 x = 1 := by
  show Nat.gcd 2 x.natAbs = 1
  rw [Nat.gcd_rec]
  have : x.natAbs % 2 = 1 := by omega
  rw [this]
  exact Nat.gcd_one_left 2
theorem gc_two_odd {w x y z : Int} (h : w % 2 = 1) : gc 2 w x y z = 1 := by
  have h1 : ((1 : Nat) : Int) = 1 := rfl
  unfold gc
  rw [gcd_two_odd h, h1, gcd_one, h1, gcd_one, h1, gcd_one]
theorem fo_fr {c w x y z : Int} (h : gc c w x y z = 1) : fo c w x y z = fr c w x y z := by
  have h1 : ((1 : Nat) : Int) = 1 := rfl
  unfold fo fq fr
  rw [h, h1]
  simp only [Int.ediv_one]
/-- the whole four of half of w .. z -/
def hf (w x y z : Int) : D := fo 2 w x y z
theorem hf_form {w x y z : Int} (h : Hz w x y z) : ∃ b e f g k : Int, hf w x y z = fr b e f g k ∧ 2 * e = b * w ∧ 2 * f = b * x ∧ 2 * g = b * y ∧ 2 * k = b * z ∧ gc b e f g k = 1 ∧ (b = 1 ∨ (b = 2 ∧ w % 2 = 1 ∧ x % 2 = 1 ∧ y % 2 = 1 ∧ z % 2 = 1)) := by
  obtain ⟨h1, h2, h3⟩ := h
  by_cases h0 : w % 2 = 0
  · refine ⟨1, w / 2, x / 2, y / 2, z / 2, ?_, by omega, by omega, by omega, by omega, gc_one .., .inl rfl⟩
    rw [← fo_fr (gc_one ..)]
    exact fo_eq (by decide) (by decide) (by omega) (by omega) (by omega) (by omega)
  · have g1 : gc 2 w x y z = 1 := gc_two_odd (by omega)
    exact ⟨2, w, x, y, z, fo_fr g1, rfl, rfl, rfl, rfl, g1, .inr ⟨rfl, by omega, by omega, by omega, by omega⟩⟩
/-- below 2^100 -/
abbrev B1 (i : Int) : Prop := i.natAbs < 2 ^ 100
theorem b_form {b e w : Int} (hw : B1 w) (h : 2 * e = b * w) (hb : b = 1 ∨ b = 2) : B3 e := by
  have h1 : e.natAbs < 2 ^ 100 := by
    have h2 : w.natAbs < 2 ^ 100 := hw
    rcases hb with rfl | rfl <;> omega
  exact Bk.mono (k := 300) h1 (by decide)
section
variable {n : Nat} {w x y z s t u v : Int}
theorem mul_hf (hn : 100 ≤ n) (h : Hz w x y z) (h' : Hz s t u v) (hw : B1 w) (hx : B1 x) (hy : B1 y) (hz : B1 z) (hs : B1 s) (ht : B1 t) (hu : B1 u) (hv : B1 v) :
    fOwn2 4 m_Four___mul__ n (hf w x y z) (hf s t u v) = some (hf (p1 w x y z s t u v / 2) (p2 w x y z s t u v / 2) (p3 w x y z s t u v / 2) (p4 w x y z s t u v / 2)) := by
  obtain ⟨b, e, f, g, k, E, m1, m2, m3, m4, _, hb⟩ := hf_form h
  obtain ⟨b', e', f', g', k', E', m1', m2', m3', m4', _, hb'⟩ := hf_form h'
  have cb : b = 1 ∨ b = 2 := by omega
  have cb' : b' = 1 ∨ b' = 2 := by omega
  rw [E, E', mul_of hn (by omega) (by omega) (by omega) (by omega) (b_form hw m1 cb) (b_form hx m2 cb) (b_form hy m3 cb) (b_form hz m4 cb) (b_form hs m1' cb') (b_form ht m2' cb') (b_form hu m3' cb') (b_form hv m4' cb')]
  obtain ⟨q1, q2, q3, q4, _⟩ := prod_hz h h'
  have l0 : 0 < b * b' := Int.mul_pos (by omega) (by omega)
  have d1 : 4 * p1 e f g k e' f' g' k' = b * b' * p1 w x y z s t u v := by unfold p1; grind
  have d2 : 4 * p2 e f g k e' f' g' k' = b * b' * p2 w x y z s t u v := by unfold p2; grind
  have d3 : 4 * p3 e f g k e' f' g' k' = b * b' * p3 w x y z s t u v := by unfold p3; grind
  have d4 : 4 * p4 e f g k e' f' g' k' = b * b' * p4 w x y z s t u v := by unfold p4; grind
  unfold hf
  have hh : ∀ {P Q : Int}, 4 * P = b * b' * Q → Q % 2 = 0 → 2 * P = b * b' * (Q / 2) := fun {P Q} hP hQ => by
    have e0 : Q = 2 * (Q / 2) := by omega
    have e1 : b * b' * Q = 2 * (b * b' * (Q / 2)) := by
      calc b * b' * Q = b * b' * (2 * (Q / 2)) := by rw [← e0]
        _ = 2 * (b * b' * (Q / 2)) := by rw [Int.mul_left_comm]
    rw [e1] at hP
    omega
  exact congrArg some (fo_eq l0 (by decide) (hh d1 q1) (hh d2 q2) (hh d3 q3) (hh d4 q4))
theorem add_hf (hn : 100 ≤ n) (h : Hz w x y z) (h' : Hz s t u v) (hw : B1 w) (hx : B1 x) (hy : B1 y) (hz : B1 z) (hs : B1 s) (ht : B1 t) (hu : B1 u) (hv : B1 v) :
    m_Four___add__ n [hf w x y z, hf s t u v] = some (hf (w + s) (x + t) (y + u) (z + v)) := by
  obtain ⟨b, e, f, g, k, E, m1, m2, m3, m4, _, hb⟩ := hf_form h
  obtain ⟨b', e', f', g', k', E', m1', m2', m3', m4', _, hb'⟩ := hf_form h'
  have cb : b = 1 ∨ b = 2 := by omega
  have cb' : b' = 1 ∨ b' = 2 := by omega
  rw [E, E', add_of hn (by omega) (by omega) (by omega) (by omega) (b_form hw m1 cb) (b_form hx m2 cb) (b_form hy m3 cb) (b_form hz m4 cb) (b_form hs m1' cb') (b_form ht m2' cb') (b_form hu m3' cb') (b_form hv m4' cb')]
  have l0 : 0 < b * b' := Int.mul_pos (by omega) (by omega)
  unfold hf
  exact congrArg some (fo_eq l0 (by decide) (by grind) (by grind) (by grind) (by grind))
theorem neg_hf (hn : 100 ≤ n) (h : Hz w x y z) : m_Four___neg__ n [hf w x y z] = some (hf (-w) (-x) (-y) (-z)) := by
  obtain ⟨b, e, f, g, k, E, m1, m2, m3, m4, _, hb⟩ := hf_form h
  rw [E, neg_of hn (by omega) (by omega)]
  unfold hf
  exact congrArg some (fo_eq (by omega) (by decide) (by grind) (by grind) (by grind) (by grind))
theorem mate_hf (hn : 100 ≤ n) (h : Hz w x y z) : m_Four_mate n [hf w x y z] = some (hf w (-x) (-y) (-z)) := by
  obtain ⟨b, e, f, g, k, E, m1, m2, m3, m4, _, hb⟩ := hf_form h
  rw [E, mate_of hn (by omega) (by omega)]
  unfold hf
  exact congrArg some (fo_eq (by omega) (by decide) (by grind) (by grind) (by grind) (by grind))
theorem norm_hf (hn : 100 ≤ n) (h : Hz w x y z) (hw : B1 w) (hx : B1 x) (hy : B1 y) (hz : B1 z) : m_Four_norm n [hf w x y z] = some (.obj 1 [.int 1, .int ((w * w + x * x + y * y + z * z) / 4)]) := by
  obtain ⟨b, e, f, g, k, E, m1, m2, m3, m4, _, hb⟩ := hf_form h
  have cb : b = 1 ∨ b = 2 := by omega
  rw [E, norm_of hn (by omega) (by omega) (b_form hw m1 cb) (b_form hx m2 cb) (b_form hy m3 cb) (b_form hz m4 cb)]
  rcases hb with rfl | ⟨rfl, o1, o2, o3, o4⟩
  · have g1 : Int.gcd (e * e + f * f + g * g + k * k) (1 * 1) = 1 := by rw [Int.gcd_comm]; exact gcd_one _
    have e4 : w * w + x * x + y * y + z * z = 4 * (e * e + f * f + g * g + k * k) := by grind
    rw [g1, e4]
    have h1 : ((1 : Nat) : Int) = 1 := rfl
    rw [h1, Int.ediv_one, Int.ediv_one, Int.mul_ediv_cancel_left _ (by decide)]
    rfl
  · have ew : e = w := by omega
    have ex : f = x := by omega
    have ey : g = y := by omega
    have ez : k = z := by omega
    subst ew ex ey ez
    have e4 : e * e + f * f + g * g + k * k = 4 * ((e / 2) * (e / 2) + e / 2 + (f / 2) * (f / 2) + f / 2 + (g / 2) * (g / 2) + g / 2 + (k / 2) * (k / 2) + k / 2 + 1) := by
      have a1 : e = 2 * (e / 2) + 1 := by omega
      have a2 : f = 2 * (f / 2) + 1 := by omega
      have a3 : g = 2 * (g / 2) + 1 := by omega
      have a4 : k = 2 * (k / 2) + 1 := by omega
      grind
    rw [e4]
    generalize (e / 2) * (e / 2) + e / 2 + (f / 2) * (f / 2) + f / 2 + (g / 2) * (g / 2) + g / 2 + (k / 2) * (k / 2) + k / 2 + 1 = q
    have g4 : Int.gcd (4 * q) (2 * 2) = 4 := by
      have := Int.gcd_mul_left 4 q 1
      simpa using this
    rw [g4]
    rfl
theorem twice_hf (h : Hz w x y z) (hw : B1 w) (hx : B1 x) (hy : B1 y) (hz : B1 z) : m__law_twice n [hf w x y z] = some (.tup [.int w, .int x, .int y, .int z]) := by
  obtain ⟨b, e, f, g, k, E, m1, m2, m3, m4, _, hb⟩ := hf_form h
  have cb : b = 1 ∨ b = 2 := by omega
  have f1 := mulC (a := e) (c := 2) (by decide) (Bk.mono (b_form hw m1 cb) (by decide))
  have f2 := mulC (a := f) (c := 2) (by decide) (Bk.mono (b_form hx m2 cb) (by decide))
  have f3 := mulC (a := g) (c := 2) (by decide) (Bk.mono (b_form hy m3 cb) (by decide))
  have f4 := mulC (a := k) (c := 2) (by decide) (Bk.mono (b_form hz m4 cb) (by decide))
  have dv : ∀ i j : Int, 2 * i = b * j → fDiv (.int (2 * i)) (.int b) = some (.int j) := fun i j h => by
    rw [fDiv_sm (by omega) (by omega), h, Int.mul_ediv_cancel_left _ (by omega)]
  have d1 := dv e w m1
  have d2 := dv f x m2
  have d3 := dv g y m3
  have d4 := dv k z m4
  rw [E]
  have l1 : m_Four_entries n [fr b e f g k] = some (.tup [.int e, .int f, .int g, .int k]) := rfl
  have l2 : m_Four_bottom n [fr b e f g k] = some (.int b) := rfl
  unfold fr at l1 l2
  unfold fr
  simp [m__law_twice, e__law_twice, mir, sRet, eB, aCons, aNil, eLc, eItems, eProp, eVar, pad, l1, l2, lcE, etName, PM.free, wipeD, bYes, eBin, eC, f1, f2, f3, f4, d1, d2, d3, d4, fTuple, outD]
end
end TL

/-! The numbers' side: what is whole, what lies in the whole lattice -/
namespace TL
open PySem PySem.Spec PyProof.Rows L2 Evl SlX StX C8

def wlX : D := .obj 6 [al, .int 2, .tup [.tup [.int 1, .int 1, .int 1, .int 1], .tup [.int 0, .int 2, .int 0, .int 0], .tup [.int 0, .int 0, .int 2, .int 0], .tup [.int 0, .int 0, .int 0, .int 2]]]
theorem wlX_eq : m_whole_lattice 1000 [] = some wlX := isD_eq (by decide +kernel)
theorem row_less_of {n : Nat} {w x y z m s t u v : Int} (hm : B3 m) (hs : B3 s) (ht : B3 t) (hu : B3 u) (hv : B3 v) : m_row_less n [.lst [.int w, .int x, .int y, .int z], .int m, .tup [.int s, .int t, .int u, .int v]] = some (.lst [.int (w - m * s), .int (x - m * t), .int (y - m * u), .int (z - m * v)]) := by
  have m1 := mul3 hm hs
  have m2 := mul3 hm ht
  have m3 := mul3 hm hu
  have m4 := mul3 hm hv
  simp [mir, mirI, outD, outI, pad, sSeq, sAsg, sPar, sRet, sIf, sExpr, sNx, sFor, forE, etName, etTup, etTupT, etCons, etNil, etSelf, eVar, eC, eBin, eUn, eBinN, eUnN, aCons, aNil, eTup, eLst, eB, eCall, eMake, eProp, eMeth, bOf, bOr, bNot, bAnd, bYes, eAnd, eOr, eIf, eItems, eZip, seqD, zipD, eLc, lcE, wipeD, fI, fAddI, fSub, fAdd, fLt, fLe, fGt, fGe, fNeg, fNot, fFld, fLen, fList, fTuple, fAll, allB, fAny, anyB, blsD, fOwn2, fOwn1, fInO, fEqO, fNeO, PM.free, allSome, putD, fEq_int, fNe_int, isi_33, isi_22, isi_44, isi_t3, isi_tt, isi_ii, isi_ib, l_own_entries, l_own_bottom, l_own_algebra, l_own_a, l_own_b, k_MANY_ENTRIES, m_row_less, e_row_less, m1, m2, m3, m4]
def sE (w x : Int) : Bool := decide ((x - w) % 2 = 0)
theorem dm1 (i : Int) : fDivmod [.int i, .int 1] = some (.tup [.int i, .int 0]) := by
  show (if 0 < (1 : Int) ∧ (1 : Int) < 1073741824 then some (D.tup [.int (i / 1), .int (i % 1)]) else none) = _
  rw [if_pos (by decide), Int.ediv_one, Int.emod_one]
theorem dm2 (i : Int) : fDivmod [.int i, .int 2] = some (.tup [.int (i / 2), .int (i % 2)]) := by
  show (if 0 < (2 : Int) ∧ (2 : Int) < 1073741824 then some (D.tup [.int (i / 2), .int (i % 2)]) else none) = _
  rw [if_pos (by decide)]
def lsD : D := .tup [.tup [.int 1, .int 1, .int 1, .int 1], .tup [.int 0, .int 2, .int 0, .int 0], .tup [.int 0, .int 0, .int 2, .int 0], .tup [.int 0, .int 0, .int 0, .int 2]]
def bRow : ES := sSeq (sAsg (eB fDivmod (aCons (eBin fIx (eVar 2) (eVar 3)) (aCons (eBin fIx (eBin fIx (eVar 0) (eVar 3)) (eVar 3)) aNil))) (etTup 2 (etCons (etName 4) (etCons (etName 5) etNil)))) (sSeq (sIf (bOf (eBin fNe (eVar 5) (eC (.int 0)))) (sRet (eC (.bl false))) sNx) (sAsg (eCall m_row_less [] (aCons (eVar 2) (aCons (eVar 4) (aCons (eBin fIx (eVar 0) (eVar 3)) aNil)))) (etName 2)))
theorem row_step {n : Nat} {w x y z m r s t u v i c : Int} {l p : D} {q1 q2 q3 : Option D} (h1 : fIx (.lst [.int w, .int x, .int y, .int z]) (.int i) = some l) (h2 : fIx lsD (.int i) = some (.tup [.int s, .int t, .int u, .int v])) (h3 : fIx (.tup [.int s, .int t, .int u, .int v]) (.int i) = some p)
    (h4 : fDivmod [l, p] = some (.tup [.int m, .int r])) (hm : B3 m) (hs : B3 s) (ht : B3 t) (hu : B3 u) (hv : B3 v) :
    bRow n ⟨[some lsD, q1, some (.lst [.int w, .int x, .int y, .int z]), some (.int i), q2, q3], .no⟩ = (if r = 0 then some (.nx ⟨[some lsD, q1, some (.lst [.int (w - m * s), .int (x - m * t), .int (y - m * u), .int (z - m * v)]), some (.int i), some (.int m), some (.int r)], .no⟩) else some (.rt (.bl false))) := by
  have rl := row_less_of (n := n) (w := w) (x := x) (y := y) (z := z) hm hs ht hu hv
  by_cases h0 : r = 0
  · subst h0
    simp [bRow, sSeq, sAsg, eB, aCons, aNil, eBin, eVar, h1, h2, h3, h4, etTup, etCons, etNil, etName, PM.free, sIf, bOf, eC, fNe_int, sNx, eCall, rl]
  · simp [bRow, sSeq, sAsg, eB, aCons, aNil, eBin, eVar, h1, h2, h3, h4, etTup, etCons, etNil, etName, PM.free, sIf, bOf, eC, fNe_int, sNx, eCall, rl, h0, sRet]
theorem rows_with_of {n : Nat} {w x y z : Int} (hw : Bk 200 w) (hx : Bk 200 x) (hy : Bk 200 y) (hz : Bk 200 z) : m_are_rows_with n [lsD, .lst [.int w, .int x, .int y, .int z]] = some (.bl (sE w x && (sE w y && sE w z))) := by
  have b1 : B3 1 := by decide
  have b2 : B3 2 := by decide
  have b0 : B3 0 := by decide
  have c1 : B3 w := Bk.mono hw (by decide)
  have k1 : Bk 201 (x - w) := Bk.sub hx hw
  have k2 : Bk 201 (y - w) := Bk.sub hy hw
  have k3 : Bk 201 (z - w) := Bk.sub hz hw
  have hv2 : ∀ {i : Int}, Bk 201 i → B3 (i / 2) := fun {i} h => Bk.mono (j := 201) (k := 300) (show (i / 2).natAbs < 2 ^ 201 by have : i.natAbs < 2 ^ 201 := h; omega) (by decide)
  show outD (sSeq (sAsg (eB fList (aCons (eVar 1) aNil)) (etName 2)) (sSeq (sFor (eItems (eC k_SPOTS)) (etName 3) bRow) (sRet (eC (.bl true)))) n ⟨_, .no⟩) = _
  have s0 := fun q1 q2 q3 => row_step (n := n) (w := w) (x := x) (y := y) (z := z) (q1 := q1) (q2 := q2) (q3 := q3) (c := 0) (i := 0) (m := w) (r := 0) (s := 1) (t := 1) (u := 1) (v := 1) rfl rfl rfl (dm1 w) c1 b1 b1 b1 b1
  simp only [Int.mul_one, if_true] at s0
  have s1 := fun q1 q2 q3 => row_step (n := n) (w := w - w) (x := x - w) (y := y - w) (z := z - w) (q1 := q1) (q2 := q2) (q3 := q3) (c := 0) (i := 1) (m := (x - w) / 2) (r := (x - w) % 2) (s := 0) (t := 2) (u := 0) (v := 0) rfl rfl rfl (dm2 (x - w)) (hv2 k1) b0 b2 b0 b0
  simp only [Int.mul_zero, Int.sub_zero] at s1
  have s2 := fun q1 q2 q3 => row_step (n := n) (w := w - w) (x := x - w - (x - w) / 2 * 2) (y := y - w) (z := z - w) (q1 := q1) (q2 := q2) (q3 := q3) (c := 0) (i := 2) (m := (y - w) / 2) (r := (y - w) % 2) (s := 0) (t := 0) (u := 2) (v := 0) rfl rfl rfl (dm2 (y - w)) (hv2 k2) b0 b0 b2 b0
  simp only [Int.mul_zero, Int.sub_zero] at s2
  have s3 := fun q1 q2 q3 => row_step (n := n) (w := w - w) (x := x - w - (x - w) / 2 * 2) (y := y - w - (y - w) / 2 * 2) (z := z - w) (q1 := q1) (q2 := q2) (q3 := q3) (c := 0) (i := 3) (m := (z - w) / 2) (r := (z - w) % 2) (s := 0) (t := 0) (u := 0) (v := 2) rfl rfl rfl (dm2 (z - w)) (hv2 k3) b0 b0 b0 b2
  simp only [Int.mul_zero, Int.sub_zero] at s3
  have sp : k_SPOTS = .tup [.int 0, .int 1, .int 2, .int 3] := rfl
  have fin : ∀ k1 k2 k3 : Bool, decide ((x - w) % 2 = 0) = k1 → decide ((y - w) % 2 = 0) = k2 → decide ((z - w) % 2 = 0) = k3 → (sE w x && (sE w y && sE w z)) = (k1 && (k2 && k3)) := fun k1 k2 k3 e1 e2 e3 => by rw [← e1, ← e2, ← e3]; rfl
  by_cases h1 : (x - w) % 2 = 0
  · by_cases h2 : (y - w) % 2 = 0
    · by_cases h3 : (z - w) % 2 = 0
      · rw [fin true true true (decide_eq_true h1) (decide_eq_true h2) (decide_eq_true h3)]
        have t1 := fun q1 q2 q3 => (s1 q1 q2 q3).trans (if_pos h1)
        have t2 := fun q1 q2 q3 => (s2 q1 q2 q3).trans (if_pos h2)
        have t3 := fun q1 q2 q3 => (s3 q1 q2 q3).trans (if_pos h3)
        clear s1 s2 s3 fin k1 k2 k3
        generalize x - w - (x - w) / 2 * 2 = o3 at s0 t1 t2 t3
        generalize y - w - (y - w) / 2 * 2 = o4 at s0 t1 t2 t3
        generalize z - w - (z - w) / 2 * 2 = o5 at s0 t1 t2 t3
        generalize (x - w) / 2 = o6 at s0 t1 t2 t3
        generalize (y - w) / 2 = o7 at s0 t1 t2 t3
        generalize (z - w) / 2 = o8 at s0 t1 t2 t3
        generalize (x - w) % 2 = o9 at s0 t1 t2 t3
        generalize (y - w) % 2 = oa at s0 t1 t2 t3
        generalize (z - w) % 2 = ob at s0 t1 t2 t3
        generalize w - w = oc at s0 t1 t2 t3
        generalize x - w = od at s0 t1 t2 t3
        generalize y - w = oe at s0 t1 t2 t3
        generalize z - w = of at s0 t1 t2 t3
        simp [sSeq, sAsg, eB, aCons, aNil, eVar, pad, fList, etName, PM.free, sFor, eItems, eC, sp, forE, sRet, outD, s0, t1, t2, t3]
      · rw [fin true true false (decide_eq_true h1) (decide_eq_true h2) (decide_eq_false h3)]
        have t1 := fun q1 q2 q3 => (s1 q1 q2 q3).trans (if_pos h1)
        have t2 := fun q1 q2 q3 => (s2 q1 q2 q3).trans (if_pos h2)
        have t3 := fun q1 q2 q3 => (s3 q1 q2 q3).trans (if_neg h3)
        clear s1 s2 s3 fin k1 k2 k3
        generalize x - w - (x - w) / 2 * 2 = o3 at s0 t1 t2 t3
        generalize y - w - (y - w) / 2 * 2 = o4 at s0 t1 t2 t3
        generalize w - w = oc at s0 t1 t2 t3
        generalize x - w = od at s0 t1 t2 t3
        generalize y - w = oe at s0 t1 t2 t3
        generalize z - w = of at s0 t1 t2 t3
        simp [sSeq, sAsg, eB, aCons, aNil, eVar, pad, fList, etName, PM.free, sFor, eItems, eC, sp, forE, sRet, outD, s0, t1, t2, t3]
    · rw [fin true false _ (decide_eq_true h1) (decide_eq_false h2) rfl]
      have t1 := fun q1 q2 q3 => (s1 q1 q2 q3).trans (if_pos h1)
      have t2 := fun q1 q2 q3 => (s2 q1 q2 q3).trans (if_neg h2)
      clear s1 s2 s3 fin k1 k2 k3
      generalize x - w - (x - w) / 2 * 2 = o3 at s0 t1 t2
      generalize w - w = oc at s0 t1 t2
      generalize x - w = od at s0 t1 t2
      generalize y - w = oe at s0 t1 t2
      generalize z - w = of at s0 t1 t2
      simp [sSeq, sAsg, eB, aCons, aNil, eVar, pad, fList, etName, PM.free, sFor, eItems, eC, sp, forE, sRet, outD, s0, t1, t2]
  · rw [fin false _ _ (decide_eq_false h1) rfl rfl]
    have t1 := fun q1 q2 q3 => (s1 q1 q2 q3).trans (if_neg h1)
    clear s1 s2 s3 fin k1 k2 k3
    generalize w - w = oc at s0 t1
    generalize x - w = od at s0 t1
    generalize y - w = oe at s0 t1
    generalize z - w = of at s0 t1
    simp [sSeq, sAsg, eB, aCons, aNil, eVar, pad, fList, etName, PM.free, sFor, eItems, eC, sp, forE, sRet, outD, s0, t1]
end TL

/-! The numbers' side: whole, by three ways -/
namespace TL
open PySem PySem.Spec PyProof.Rows L2 Evl SlX StX C8

def hasR (c e f g k : Int) : Bool := !(!decide (e * 2 % c = 0) || (!decide (f * 2 % c = 0) || (!decide (g * 2 % c = 0) || !decide (k * 2 % c = 0)))) && (sE (e * 2 / c) (f * 2 / c) && (sE (e * 2 / c) (g * 2 / c) && sE (e * 2 / c) (k * 2 / c)))
theorem div_bk {i c : Int} (h : Bk 200 i) (hc : 0 < c) : Bk 200 (i / c) := by
  have h1 : (i / c).natAbs ≤ i.natAbs := by
    have := Int.natAbs_ediv_le_natAbs i c
    exact this
  exact Nat.lt_of_le_of_lt h1 h
section
variable {n : Nat} {c e f g k : Int}
theorem has_raw_of (hc : 0 < c) (hc' : c ≤ 4) (he : Bk 190 e) (hf : Bk 190 f) (hg : Bk 190 g) (hk : Bk 190 k) : m_has_raw n [wlX, .tup [.int e, .int f, .int g, .int k], .int c] = some (.bl (hasR c e f g k)) := by
  have b2 : B3 2 := by decide
  have m1 := mul3 (he.mono (show 190 ≤ 300 by decide)) b2
  have m2 := mul3 (hf.mono (show 190 ≤ 300 by decide)) b2
  have m3 := mul3 (hg.mono (show 190 ≤ 300 by decide)) b2
  have m4 := mul3 (hk.mono (show 190 ≤ 300 by decide)) b2
  have r1 := fMod_ok (i := e * 2) hc
  have r2 := fMod_ok (i := f * 2) hc
  have r3 := fMod_ok (i := g * 2) hc
  have r4 := fMod_ok (i := k * 2) hc
  have d1 := fDiv_sm (i := e * 2) hc (by omega)
  have d2 := fDiv_sm (i := f * 2) hc (by omega)
  have d3 := fDiv_sm (i := g * 2) hc (by omega)
  have d4 := fDiv_sm (i := k * 2) hc (by omega)
  have bb : ∀ {i : Int}, Bk 190 i → Bk 200 (i * 2) := fun h => (Bk.mul (k := 2) h (by decide)).mono (by decide)
  have rw1 := rows_with_of (n := n) (div_bk (bb he) hc) (div_bk (bb hf) hc) (div_bk (bb hg) hc) (div_bk (bb hk) hc)
  have fr1 : fFld l_own_bottom wlX = some (.int 2) := rfl
  have fr2 : fFld l_own_rows wlX = some lsD := rfl
  unfold hasR
  generalize (sE (e * 2 / c) (f * 2 / c) && (sE (e * 2 / c) (g * 2 / c) && sE (e * 2 / c) (k * 2 / c))) = sv at *
  generalize e * 2 / c = v1 at *
  generalize f * 2 / c = v2 at *
  generalize g * 2 / c = v3 at *
  generalize k * 2 / c = v4 at *
  generalize e * 2 % c = v5 at *
  generalize f * 2 % c = v6 at *
  generalize g * 2 % c = v7 at *
  generalize k * 2 % c = v8 at *
  generalize e * 2 = u1 at *
  generalize f * 2 = u2 at *
  generalize g * 2 = u3 at *
  generalize k * 2 = u4 at *
  have n5 := fNe_int v5 0
  have n6 := fNe_int v6 0
  have n7 := fNe_int v7 0
  have n8 := fNe_int v8 0
  generalize (!decide (v5 = 0)) = q5 at *
  generalize (!decide (v6 = 0)) = q6 at *
  generalize (!decide (v7 = 0)) = q7 at *
  generalize (!decide (v8 = 0)) = q8 at *
  have hA2 : fAny [.lst [.bl q5, .bl q6, .bl q7, .bl q8]] = some (.bl (q5 || (q6 || (q7 || q8)))) := by
    simp [fAny, blsD, anyB]
  generalize (q5 || (q6 || (q7 || q8))) = A at *
  cases A with
  | true => simp [m_has_raw, mir, e_has_raw, sSeq, sAsg, eLc, eItems, eVar, pad, lcE, etName, PM.free, wipeD, bYes, eBin, eUn, fr1, m1, m2, m3, m4, sIf, bOf, eB, aCons, aNil, eC, r1, r2, r3, r4, n5, n6, n7, n8, hA2, sRet, outD]
  | false => simp [m_has_raw, mir, e_has_raw, sSeq, sAsg, eLc, eItems, eVar, pad, lcE, etName, PM.free, wipeD, bYes, eBin, eUn, fr1, fr2, m1, m2, m3, m4, sIf, bOf, eB, aCons, aNil, eC, r1, r2, r3, r4, n5, n6, n7, n8, hA2, sRet, outD, sNx, eCall, d1, d2, d3, d4, rw1]
def odd1 (e : Int) : Bool := decide (e % 2 = 1)
def wh (c e f g k : Int) : Bool := decide (c = 1) || (decide (c = 2) && (odd1 e && (odd1 f && (odd1 g && odd1 k))))
theorem wh_hasR (hc : 0 < c) (hc' : c ≤ 4) (hg1 : gc c e f g k = 1) : hasR c e f g k = wh c e f g k := by
  have hcs : c = 1 ∨ c = 2 ∨ c = 3 ∨ c = 4 := by omega
  have dv : ∀ q : Int, 0 < q → q ∣ c → q ∣ e → q ∣ f → q ∣ g → q ∣ k → q = 1 := fun q q0 h0 h1 h2 h3 h4 => by
    have hd : q ∣ (gc c e f g k : Int) := Int.dvd_coe_gcd (Int.dvd_coe_gcd (Int.dvd_coe_gcd (Int.dvd_coe_gcd h0 h1) h2) h3) h4
    rw [hg1] at hd
    have := Int.le_of_dvd (by decide) hd
    omega
  unfold hasR wh sE odd1
  rcases hcs with rfl | rfl | rfl | rfl
  · have a1 : ∀ i : Int, decide (i % 1 = 0) = true := fun i => decide_eq_true (by omega)
    simp only [a1, Int.ediv_one]
    have a2 : ∀ i j : Int, decide ((i * 2 - j * 2) % 2 = 0) = true := fun i j => decide_eq_true (by omega)
    simp only [a2]
    rfl
  · have a1 : ∀ i : Int, decide (i * 2 % 2 = 0) = true := fun i => decide_eq_true (by omega)
    have a2 : ∀ i : Int, i * 2 / 2 = i := fun i => by omega
    simp only [a1, a2]
    have hn : ¬ (e % 2 = 0 ∧ f % 2 = 0 ∧ g % 2 = 0 ∧ k % 2 = 0) := fun ⟨h1, h2, h3, h4⟩ => by
      have := dv 2 (by decide) (Int.dvd_refl 2) (Int.dvd_of_emod_eq_zero h1) (Int.dvd_of_emod_eq_zero h2) (Int.dvd_of_emod_eq_zero h3) (Int.dvd_of_emod_eq_zero h4)
      omega
    rw [Bool.eq_iff_iff]
    simp only [Bool.and_eq_true, Bool.or_eq_true, decide_eq_true_eq, Bool.not_eq_true', Bool.not_true, Bool.or_false]
    simp
    omega
  · have hn : ¬ (e * 2 % 3 = 0 ∧ f * 2 % 3 = 0 ∧ g * 2 % 3 = 0 ∧ k * 2 % 3 = 0) := fun ⟨h1, h2, h3, h4⟩ => by
      have := dv 3 (by decide) (Int.dvd_refl 3) (by omega) (by omega) (by omega) (by omega)
      omega
    rw [Bool.eq_iff_iff]
    simp
    intro q1 q2 q3 q4
    omega
  · have hn : ¬ (e * 2 % 4 = 0 ∧ f * 2 % 4 = 0 ∧ g * 2 % 4 = 0 ∧ k * 2 % 4 = 0) := fun ⟨h1, h2, h3, h4⟩ => by
      have := dv 2 (by decide) (by decide) (by omega) (by omega) (by omega) (by omega)
      omega
    rw [Bool.eq_iff_iff]
    simp
    intro q1 q2 q3 q4
    omega
end
end TL

/-! The numbers' side: the three ways agree -/
namespace TL
open PySem PySem.Spec PyProof.Rows L2 Evl SlX StX C8

theorem eq_al (n : Nat) : fEqO 2 nfT m_Algebra___eq__ n al al = some (.bl true) := by
  show (if (2 = 2 ∧ okT nfT 2 al = true) then m_Algebra___eq__ n [al, al] else none) = _
  rw [alg_same]
  rfl
theorem four_of_al (n : Nat) (b e : D) : m_is_four_of n [al, .obj 4 [al, b, e]] = some (.bl true) := by
  simp [m_is_four_of, e_is_four_of, mir, sRet, eAnd, eB, aCons, aNil, eVar, pad, eC, isi_44, eBinN, eBin, eUn, fld_al, eq_al, outD]
/-- what is said of a value: whole or not, by all three -/
structure Nb (V : D) (k : Bool) : Prop where
  con : ∀ h : Bool → Bool, fInO 6 m_Lattice___contains__ h 1000 V wlX = some (.bl (h k))
  hur : m_is_whole_hurwitz 1000 [V] = some (.bl k)
  due : m__law_is_whole 1000 [V] = some (.bl k)
theorem con_of {V : D} {k : Bool} (h : m_Lattice___contains__ 1000 [wlX, V] = some (.bl k)) (g : Bool → Bool) : fInO 6 m_Lattice___contains__ g 1000 V wlX = some (.bl (g k)) := by
  show (if 6 = 6 then (match m_Lattice___contains__ 1000 [wlX, V] with | some (.bl b) => some (D.bl (g b)) | _ => none) else none) = _
  rw [h]
  rfl
theorem odd1_eq (e : Int) : odd1 e = !decide (e % 2 = 0) := by
  unfold odd1
  rcases Int.emod_two_eq e with h | h <;> rw [h] <;> rfl
theorem nb_fr {c e f g k : Int} (hc : 0 < c) (hc' : c ≤ 4) (hg1 : gc c e f g k = 1) (he : Bk 190 e) (hf : Bk 190 f) (hg : Bk 190 g) (hk : Bk 190 k) : Nb (fr c e f g k) (wh c e f g k) := by
  refine ⟨con_of ?_, ?_, ?_⟩
  · have h1 := has_raw_of (n := 1000) hc hc' he hf hg hk
    rw [wh_hasR hc hc' hg1] at h1
    have f1 : fFld l_own_algebra wlX = some al := rfl
    simp [m_Lattice___contains__, e_Lattice___contains__, mir, sRet, eAnd, eCall, aCons, aNil, eVar, pad, eUn, f1, fr, four_of_al, fld_b, fld_e, h1, outD]
  · have r : ∀ i : Int, fMod (.int i) (.int 2) = some (.int (i % 2)) := fun i => fMod_ok (by decide)
    have q1 : fNe (.tup [.int (-1), .int (-1)]) (.tup [.int (-1), .int (-1)]) = some (.bl false) := rfl
    have o1 : ∀ i : Int, fEq (.int (i % 2)) (.int 1) = some (.bl (odd1 i)) := fun i => fEq_int _ _
    have c1 := fEq_int c 1
    have c2 := fEq_int c 2
    unfold wh
    generalize decide (c = 1) = k1 at *
    generalize decide (c = 2) = k2 at *
    have fa : fAll [.lst [.bl (odd1 e), .bl (odd1 f), .bl (odd1 g), .bl (odd1 k)]] = some (.bl (odd1 e && (odd1 f && (odd1 g && odd1 k)))) := by simp [fAll, blsD, allB]
    cases k1 <;> cases k2 <;> simp [m_is_whole_hurwitz, e_is_whole_hurwitz, mir, sSeq, sIf, bOr, bNot, bOf, eB, aCons, aNil, eVar, pad, eC, fr, isi_44, eBin, eTup, eUn, fld_al, fld_aa, fld_ab, fNeg, q1, sNx, sRet, eOr, eAnd, fld_b, fld_e, c1, c2, eLc, eItems, lcE, etName, PM.free, wipeD, bYes, r, o1, fa, outD]
  · have r : ∀ i : Int, fMod (.int i) (.int 2) = some (.int (i % 2)) := fun i => fMod_ok (by decide)
    have l0 : m_Four_algebra 1000 [fr c e f g k] = some al := rfl
    have l1 : m_Four_entries 1000 [fr c e f g k] = some (.tup [.int e, .int f, .int g, .int k]) := rfl
    have l2 : m_Four_bottom 1000 [fr c e f g k] = some (.int c) := rfl
    have o0 : ∀ i : Int, fEq (.int (i % 2)) (.int 0) = some (.bl (!odd1 i)) := fun i => by rw [odd1_eq, Bool.not_not]; exact fEq_int _ _
    have c1 := fEq_int c 1
    have cg : fGt (.int c) (.int 2) = some (.bl (decide (2 < c))) := rfl
    have na := ne_al 1000
    have am : eMake 2 m_Algebra [] (aCons (eUn fNeg (eC (.int 1))) (aCons (eUn fNeg (eC (.int 1))) aNil)) 1000 ⟨[some (fr c e f g k), none], .no⟩ = some al := by
      show (match m_Algebra 1000 [.int (-1), .int (-1)] with | some fs => some (D.obj 2 fs) | none => none) = _
      rw [alg_eq]
      rfl
    unfold wh
    unfold fr at l0 l1 l2 am
    have z0 : fEq (.lst []) (.lst []) = some (.bl true) := rfl
    have z1 : ∀ (i : Int) (r : List Int), r.length ≤ 3 → fEq (.lst (.int i :: r.map .int)) (.lst []) = some (.bl false) := fun i r hr => by
      match r, hr with
      | [], _ => rfl
      | [_], _ => rfl
      | [_, _], _ => rfl
      | [_, _, _], _ => rfl
    have z11 := fun i => z1 i [] (by decide)
    have z12 := fun i j => z1 i [j] (by simp)
    have z13 := fun i j l => z1 i [j, l] (by simp)
    have z14 := fun i j l m => z1 i [j, l, m] (by simp)
    simp only [List.map_cons, List.map_nil] at z11 z12 z13 z14
    have hcs : c = 1 ∨ c = 2 ∨ c = 3 ∨ c = 4 := by omega
    have e1 := o0 e
    have e2 := o0 f
    have e3 := o0 g
    have e4 := o0 k
    clear o0
    generalize odd1 e = k1 at *
    generalize odd1 f = k2 at *
    generalize odd1 g = k3 at *
    generalize odd1 k = k4 at *
    rcases hcs with rfl | rfl | rfl | rfl <;> cases k1 <;> cases k2 <;> cases k3 <;> cases k4 <;>
      simp [m__law_is_whole, e__law_is_whole, mir, sSeq, sIf, bOr, bNot, bOf, eB, aCons, aNil, eVar, pad, eC, fr, isi_44, eBinN, eProp, l0, l1, l2, am, na, eBin, cg, sNx, sRet, eOr, c1, eLc, eItems, lcE, etName, PM.free, wipeD, r, e1, e2, e3, e4, eLst, z0, z11, z12, z13, z14, outD]
end TL

/-! The numbers' side: near values -/
namespace TL
open PySem PySem.Spec PyProof.Rows L2 Evl SlX StX C8

theorem gc_dvd (c w x y z : Int) : (gc c w x y z : Int) ∣ c ∧ (gc c w x y z : Int) ∣ w ∧ (gc c w x y z : Int) ∣ x ∧ (gc c w x y z : Int) ∣ y ∧ (gc c w x y z : Int) ∣ z := by
  have a4 : (gc c w x y z : Int) ∣ (Int.gcd (Int.gcd (Int.gcd c w) x) y : Int) := Int.gcd_dvd_left ..
  have b4 : (gc c w x y z : Int) ∣ z := Int.gcd_dvd_right ..
  have a3 : (Int.gcd (Int.gcd (Int.gcd c w) x) y : Int) ∣ (Int.gcd (Int.gcd c w) x : Int) := Int.gcd_dvd_left ..
  have b3 : (Int.gcd (Int.gcd (Int.gcd c w) x) y : Int) ∣ y := Int.gcd_dvd_right ..
  have a2 : (Int.gcd (Int.gcd c w) x : Int) ∣ (Int.gcd c w : Int) := Int.gcd_dvd_left ..
  have b2 : (Int.gcd (Int.gcd c w) x : Int) ∣ x := Int.gcd_dvd_right ..
  have a1 : (Int.gcd c w : Int) ∣ c := Int.gcd_dvd_left ..
  have b1 : (Int.gcd c w : Int) ∣ w := Int.gcd_dvd_right ..
  have t3 := Int.dvd_trans a4 a3
  have t2 := Int.dvd_trans t3 a2
  exact ⟨Int.dvd_trans t2 a1, Int.dvd_trans t2 b1, Int.dvd_trans t3 b2, Int.dvd_trans a4 b3, b4⟩
theorem nb_fo {c w x y z : Int} (hc : 0 < c) (hc' : c ≤ 4) (hw : Bk 190 w) (hx : Bk 190 x) (hy : Bk 190 y) (hz : Bk 190 z) : ∃ k, Nb (fo c w x y z) k := by
  have g0 : 0 < (gc c w x y z : Int) := gc_pos hc
  obtain ⟨d0, d1, d2, d3, d4⟩ := gc_dvd c w x y z
  have hh : ∀ i : Int, (gc c w x y z : Int) ∣ i → (gc c w x y z : Int) * (i / (gc c w x y z : Int)) = i := fun i h => Int.mul_ediv_cancel' h
  have g1 : gc (c / gc c w x y z) (w / gc c w x y z) (x / gc c w x y z) (y / gc c w x y z) (z / gc c w x y z) = 1 := by
    have m := gc_mul (gc c w x y z) (c / gc c w x y z) (w / gc c w x y z) (x / gc c w x y z) (y / gc c w x y z) (z / gc c w x y z)
    rw [hh c d0, hh w d1, hh x d2, hh y d3, hh z d4] at m
    have g0' : 0 < gc c w x y z := by omega
    exact (Nat.eq_of_mul_eq_mul_left g0' (by rw [← m, Nat.mul_one]))
  have bd : ∀ {i : Int}, Bk 190 i → Bk 190 (i / (gc c w x y z : Int)) := fun {i} h => Nat.lt_of_le_of_lt (Int.natAbs_ediv_le_natAbs i _) h
  have c0 : 0 < c / (gc c w x y z : Int) := by
    have := hh c d0
    rcases Int.lt_or_le 0 (c / (gc c w x y z : Int)) with h | h
    · exact h
    · have : (gc c w x y z : Int) * (c / (gc c w x y z : Int)) ≤ 0 := Int.mul_nonpos_of_nonneg_of_nonpos (by omega) h
      omega
  have c4 : c / (gc c w x y z : Int) ≤ 4 := Int.le_trans (Int.ediv_le_self _ (by omega)) hc'
  exact ⟨_, nb_fr c0 c4 g1 (bd hw) (bd hx) (bd hy) (bd hz)⟩
/-- no four at all -/
theorem nb_no {V : D} (h : fIsi isiT [V, .cls 4] = some (.bl false)) : Nb V false := by
  have f1 : fFld l_own_algebra wlX = some al := rfl
  refine ⟨con_of ?_, ?_, ?_⟩
  · simp [m_Lattice___contains__, e_Lattice___contains__, mir, sRet, eAnd, eCall, aCons, aNil, eVar, pad, eUn, f1, m_is_four_of, e_is_four_of, eB, eC, h, outD]
  · simp [m_is_whole_hurwitz, e_is_whole_hurwitz, mir, sSeq, sIf, bOr, bNot, bOf, eB, aCons, aNil, eVar, pad, eC, h, sRet, outD]
  · simp [m__law_is_whole, e__law_is_whole, mir, sSeq, sIf, bOr, bNot, bOf, eB, aCons, aNil, eVar, pad, eC, h, sRet, outD]
def al2F : List D := [.int (-1), .int (-2), .int 2, .tup [.int 0, .int 2]]
def al2 : D := .obj 2 al2F
theorem alg2_eq : m_Algebra 1000 [.int (-1), .int (-2)] = some al2F := eqDs_eq (by decide +kernel)
theorem alg_other (n : Nat) : m_Algebra___eq__ n [al2, al] = some (.bl false) := by
  have f1 : fFld l_own_a al2 = some (.int (-1)) := rfl
  have f2 : fFld l_own_b al2 = some (.int (-2)) := rfl
  have f3 : fIsi isiT [al, .cls 2] = some (.bl true) := rfl
  simp [m_Algebra___eq__, e_Algebra___eq__, mir, sRet, eAnd, eB, aCons, aNil, eVar, pad, eC, f3, eBin, eUn, f1, f2, fld_aa, fld_ab, fEq_int, outD]
theorem nb_2 (b e : D) : Nb (.obj 4 [al2, b, e]) false := by
  have f1 : fFld l_own_algebra wlX = some al := rfl
  have f2 : fFld l_own_algebra (.obj 4 [al2, b, e]) = some al2 := rfl
  have f3 : fFld l_own_a al2 = some (.int (-1)) := rfl
  have f4 : fFld l_own_b al2 = some (.int (-2)) := rfl
  have e1 : fEqO 2 nfT m_Algebra___eq__ 1000 al2 al = some (.bl false) := by
    show (if (2 = 2 ∧ okT nfT 2 al = true) then m_Algebra___eq__ 1000 [al2, al] else none) = _
    rw [alg_other]
    rfl
  have e2 : fNeO 2 nfT m_Algebra___eq__ 1000 al2 al = some (.bl true) := by
    show (if (2 = 2 ∧ okT nfT 2 al = true) then (match m_Algebra___eq__ 1000 [al2, al] with | some (.bl k) => some (D.bl (!k)) | _ => none) else none) = _
    rw [alg_other]
    rfl
  have q1 : fNe (.tup [.int (-1), .int (-2)]) (.tup [.int (-1), .int (-1)]) = some (.bl true) := rfl
  have l0 : m_Four_algebra 1000 [.obj 4 [al2, b, e]] = some al2 := rfl
  have am : eMake 2 m_Algebra [] (aCons (eUn fNeg (eC (.int 1))) (aCons (eUn fNeg (eC (.int 1))) aNil)) 1000 ⟨[some (.obj 4 [al2, b, e]), none], .no⟩ = some al := by
    show (match m_Algebra 1000 [.int (-1), .int (-1)] with | some fs => some (D.obj 2 fs) | none => none) = _
    rw [alg_eq]
    rfl
  refine ⟨con_of ?_, ?_, ?_⟩
  · simp [m_Lattice___contains__, e_Lattice___contains__, mir, sRet, eAnd, eCall, aCons, aNil, eVar, pad, eUn, f1, f2, m_is_four_of, e_is_four_of, eB, eC, isi_44, eBinN, eBin, e1, outD]
  · simp [m_is_whole_hurwitz, e_is_whole_hurwitz, mir, sSeq, sIf, bOr, bNot, bOf, eB, aCons, aNil, eVar, pad, eC, isi_44, eBin, eTup, eUn, f2, f3, f4, fNeg, q1, sRet, outD]
  · simp [m__law_is_whole, e__law_is_whole, mir, sSeq, sIf, bOr, bNot, bOf, eB, aCons, aNil, eVar, pad, eC, isi_44, eBinN, eProp, l0, am, e2, eBin, sRet, outD]
def bNear : ES := (sSeq (sAsg (eCall m__law_is_whole [] (aCons (eVar 6) aNil)) (etName 7)) (sIf (bOr (bOf (eBin fNe (eCall m_is_whole_hurwitz [] (aCons (eVar 6) aNil)) (eVar 7))) (bOf (eBin fNe (eBinN (fInO 6 m_Lattice___contains__ id) (eVar 6) (eVar 3)) (eVar 7)))) (sRet (eC (.bl false))) sNx))
theorem near_loop {a0 a1 a2 a4 a5 : Option D} : ∀ (ds : List D), (∀ d ∈ ds, ∃ k, Nb d k) → ∀ q6 q7 : Option D, ∃ r6 r7, forE (etName 6) bNear 1000 ds ⟨[a0, a1, a2, some wlX, a4, a5, q6, q7], .no⟩ = some (.nx ⟨[a0, a1, a2, some wlX, a4, a5, r6, r7], .no⟩)
  | [], _, q6, q7 => ⟨q6, q7, rfl⟩
  | d :: ds, h, q6, q7 => by
    obtain ⟨k, N⟩ := h d (List.mem_cons_self ..)
    obtain ⟨r6, r7, e⟩ := near_loop (a0 := a0) (a1 := a1) (a2 := a2) (a4 := a4) (a5 := a5) ds (fun d hd => h d (List.mem_cons_of_mem _ hd)) (some d) (some (.bl k))
    refine ⟨r6, r7, ?_⟩
    have n1 : fNe (.bl k) (.bl k) = some (.bl false) := by cases k <;> rfl
    have c1 := N.con id
    have b1 : bNear 1000 ⟨[a0, a1, a2, some wlX, a4, a5, some d, q7], .no⟩ = some (.nx ⟨[a0, a1, a2, some wlX, a4, a5, some d, some (.bl k)], .no⟩) := by
      simp [bNear, sSeq, sAsg, eCall, aCons, aNil, eVar, N.due, N.hur, c1, etName, PM.free, sIf, bOr, bOf, eBin, eBinN, n1, sNx]
    show (match (match bNear 1000 ⟨[a0, a1, a2, some wlX, a4, a5, some d, q7], .no⟩ with | some (.nx τ2) => forE (etName 6) bNear 1000 ds τ2 | some (.ct τ2) => forE (etName 6) bNear 1000 ds τ2 | some (.bk τ2) => some (.nx τ2) | some (.rt d) => some (.rt d) | none => none) with | x => x) = _
    rw [b1]
    exact e
end TL

/-! The numbers' side: the near values are told alike -/
namespace TL
open PySem PySem.Spec PyProof.Rows L2 Evl SlX StX C8

theorem mkA (τ : Sta) : eMake 2 m_Algebra [] (aCons (eUn fNeg (eC (.int 1))) (aCons (eUn fNeg (eC (.int 1))) aNil)) 1000 τ = some al := by
  show (match m_Algebra 1000 [.int (-1), .int (-1)] with | some fs => some (D.obj 2 fs) | none => none) = _
  rw [alg_eq]
  rfl
theorem mkA2 (τ : Sta) : eMake 2 m_Algebra [] (aCons (eUn fNeg (eC (.int 1))) (aCons (eUn fNeg (eC (.int 2))) aNil)) 1000 τ = some al2 := by
  show (match m_Algebra 1000 [.int (-1), .int (-2)] with | some fs => some (D.obj 2 fs) | none => none) = _
  rw [alg2_eq]
  rfl
theorem mkF (dds : List D) (ar : EA) (τ : Sta) : eMake 4 m_Four dds ar 1000 τ = (match ar 1000 τ with | some ds => (match m_Four 1000 (ds ++ dds) with | some fs => some (D.obj 4 fs) | none => none) | none => none) := rfl
theorem mk4 {c w x y z : Int} (h0 : 0 < c) (h : c ≤ 16) (hw : Sm w) (hx : Sm x) (hy : Sm y) (hz : Sm z) : m_Four 1000 [al, .tup [.int w, .int x, .int y, .int z], .int c] = some (fq c w x y z) := four_of (by decide) h0 h hw hx hy hz _
theorem law_four_of {w x y z : Int} (hw : Sm w) (hx : Sm x) (hy : Sm y) (hz : Sm z) : m__law_four 1000 [.tup [.int w, .int x, .int y, .int z]] = some (hf w x y z) := by
  have e1 := mk4 (c := 2) (by decide) (by decide) hw hx hy hz
  simp only [m__law_four, mir, e__law_four, sRet, mkF, aCons, mkA, aNil, eVar, eC, pad, List.length_cons, List.length_nil, List.map_cons, List.map_nil, List.cons_append, List.nil_append, List.append_nil, List.replicate, List.getElem?_cons_zero, if_true, e1, outD, hf, fo]
theorem near_right_of {w x y z : Int} (hw : Sm w) (hx : Sm x) (hy : Sm y) (hz : Sm z) (hw' : Sm (w + 1)) (bw : Bk 190 w) (bx : Bk 190 x) (by' : Bk 190 y) (bz : Bk 190 z) (bw' : Bk 190 (w + 1)) :
    m__law_near_right 1000 [.any, .tup [.int w, .int x, .int y, .int z]] = some (.bl true) := by
  have l4 := law_four_of hw hx hy hz
  have k2 := mk4 (c := 2) (by decide) (by decide) hw' hx hy hz
  have k3 := mk4 (c := 3) (by decide) (by decide) hw hx hy hz
  have k4 := mk4 (c := 4) (by decide) (by decide) hw hx hy hz
  have k1 := mk4 (c := 1) (by decide) (by decide) hw hx hy hz
  have k5 : m_Four 1000 [al2, .tup [.int w, .int x, .int y, .int z], .int 2] = some (al2 :: (fq 2 w x y z).tail) := four_of (by decide) (by decide) (by decide) hw hx hy hz _
  have i0 : fIx (.tup [.int w, .int x, .int y, .int z]) (.int 0) = some (.int w) := rfl
  obtain ⟨r6, r7, lp⟩ := near_loop (a0 := some .any) (a1 := some (.tup [.int w, .int x, .int y, .int z])) (a2 := some (hf w x y z)) (a4 := some (.lst [.int (w + 1), .int x, .int y, .int z]))
    (a5 := some (.lst [hf w x y z, fo 2 (w + 1) x y z, fo 3 w x y z, .obj 4 (al2 :: (fq 2 w x y z).tail), .tup [.int w, .int x, .int y, .int z], .lst [.int w, .int x, .int y, .int z], .non, .int 1, .str "1", .bl true, wlX, .tup [hf w x y z], fo 4 w x y z, fo 1 w x y z]))
    [hf w x y z, fo 2 (w + 1) x y z, fo 3 w x y z, .obj 4 (al2 :: (fq 2 w x y z).tail), .tup [.int w, .int x, .int y, .int z], .lst [.int w, .int x, .int y, .int z], .non, .int 1, .str "1", .bl true, wlX, .tup [hf w x y z], fo 4 w x y z, fo 1 w x y z] (by
      intro d hd
      simp only [List.mem_cons, List.not_mem_nil, or_false] at hd
      rcases hd with rfl | rfl | rfl | rfl | rfl | rfl | rfl | rfl | rfl | rfl | rfl | rfl | rfl | rfl
      · exact nb_fo (by decide) (by decide) bw bx by' bz
      · exact nb_fo (by decide) (by decide) bw' bx by' bz
      · exact nb_fo (by decide) (by decide) bw bx by' bz
      · exact ⟨_, nb_2 _ _⟩
      · exact ⟨_, nb_no rfl⟩
      · exact ⟨_, nb_no rfl⟩
      · exact ⟨_, nb_no rfl⟩
      · exact ⟨_, nb_no rfl⟩
      · exact ⟨_, nb_no rfl⟩
      · exact ⟨_, nb_no rfl⟩
      · exact ⟨_, nb_no rfl⟩
      · exact ⟨_, nb_no rfl⟩
      · exact nb_fo (by decide) (by decide) bw bx by' bz
      · exact nb_fo (by decide) (by decide) bw bx by' bz) none none
  have s1 : cutD [.int w, .int x, .int y, .int z] (some 1) none = [.int x, .int y, .int z] := rfl
  have e2 : fo 2 (w + 1) x y z = .obj 4 (fq 2 (w + 1) x y z) := rfl
  have e3 : fo 3 w x y z = .obj 4 (fq 3 w x y z) := rfl
  have e4 : fo 4 w x y z = .obj 4 (fq 4 w x y z) := rfl
  have e1 : fo 1 w x y z = .obj 4 (fq 1 w x y z) := rfl
  rw [e1, e2, e3, e4] at lp
  show outD (sSeq (sPar 2 3 _) (sSeq _ (sSeq _ (sSeq _ (sSeq (sFor (eItems (eVar 5)) (etName 6) bNear) (sRet (eC (.bl true))))))) 1000 ⟨_, .no⟩) = _
  generalize fq 2 w x y z = Q2 at *
  generalize fq 2 (w + 1) x y z = Q2' at *
  generalize fq 3 w x y z = Q3 at *
  generalize fq 4 w x y z = Q4 at *
  generalize fq 1 w x y z = Q1 at *
  generalize hf w x y z = Hf at *
  simp [sSeq, sPar, sAsg, eCall, aCons, aNil, eVar, pad, l4, wlX_eq, PM.free, etName, eBin, eLst, i0, eC, fAdd, fAddI, fI, fCat, eB, fList, eSl, oSome, oNone, s1, mkF, mkA, mkA2, fTuple, k2, k3, k4, k1, k5, eTup, sFor, eItems, lp, sRet, outD]
end TL

/-! The numbers' side: RightMath -/
namespace TL
open PySem PySem.Spec PyProof.Rows L2 Evl SlX StX C8

def τ7 (un : D) : Sta := ⟨[none, none, none, none, none, none, none, some un], .no⟩
def bInv : EB := bOf (eBinN (fNeO 4 nfT m_Four___eq__) (eMeth 4 m_Four_mate (eVar 7) aNil) (eMeth 4 m_Four_inverse (eVar 7) aNil))
def okU (u : D) : Bool := match u with
  | .tup [.int s, .int t, .int y, .int v] => decide (s % 2 = t % 2 ∧ t % 2 = y % 2 ∧ y % 2 = v % 2) && (decide (s * s + t * t + y * y + v * v = 4) && (decide (s.natAbs ≤ 2 ∧ t.natAbs ≤ 2 ∧ y.natAbs ≤ 2 ∧ v.natAbs ≤ 2) && (match bInv 1000 (τ7 (hf s t y v)) with | some false => true | _ => false)))
  | _ => false
def usL : List D := match m__law_units 1000 [] with
  | some (.lst us) => us
  | _ => []
theorem us_ok : usL.all okU = true := by decide +kernel
theorem us_eq : m__law_units 1000 [] = some (.lst usL) := by rfl
theorem us_any (n : Nat) : m__law_units n [] = m__law_units 1000 [] := by rfl
theorem Half.form4 {m : Int} {xs : List Int} (h : Half m xs) (hm : m ≤ 10 ^ 25) : ∃ w x y z : Int, xs = [w, x, y, z] ∧ Hz w x y z ∧ (w.natAbs < 2 ^ 90 ∧ x.natAbs < 2 ^ 90 ∧ y.natAbs < 2 ^ 90 ∧ z.natAbs < 2 ^ 90) := by
  obtain ⟨hl, o, ho, h⟩ := h
  match xs, hl, h with
  | [w, x, y, z], _, h =>
    obtain ⟨a, ha, a1, a2⟩ := h w (by simp)
    obtain ⟨b, hb, b1, b2⟩ := h x (by simp)
    obtain ⟨c, hc, c1, c2⟩ := h y (by simp)
    obtain ⟨d, hd, d1, d2⟩ := h z (by simp)
    exact ⟨w, x, y, z, rfl, ⟨by omega, by omega, by omega⟩, by omega, by omega, by omega, by omega⟩
/-- what a whole four passes -/
theorem eb5_hf {w x y z : Int} (h : Hz w x y z) (hw : Bk 185 w) (hx : Bk 185 x) (hy : Bk 185 y) (hz : Bk 185 z) : eb5 1000 ⟨[none, none, none, none, none, none, some (hf w x y z), none], .no⟩ = some false := by
  obtain ⟨b, e, f, g, k, E, m1, m2, m3, m4, g1, hb⟩ := hf_form h
  have bd : ∀ {i j : Int}, Bk 185 j → 2 * i = b * j → Bk 190 i := fun {i j} hj hi => by
    have h2 : j.natAbs < 2 ^ 185 := hj
    have h1 : i.natAbs < 2 ^ 185 := by rcases hb with rfl | ⟨rfl, _⟩ <;> omega
    exact Bk.mono (k := 190) h1 (by decide)
  have N := nb_fr (c := b) (by omega) (by omega) g1 (bd hw m1) (bd hx m2) (bd hy m3) (bd hz m4)
  have ht : wh b e f g k = true := by
    rcases hb with rfl | ⟨rfl, o1, o2, o3, o4⟩
    · rfl
    · have e1 : e % 2 = 1 := by omega
      have e2 : f % 2 = 1 := by omega
      have e3 : g % 2 = 1 := by omega
      have e4 : k % 2 = 1 := by omega
      simp [wh, odd1, e1, e2, e3, e4]
  rw [ht] at N
  have c1 := N.con not
  rw [E]
  simp [eb5, bOr, bNot, bOf, eCall, aCons, aNil, eVar, N.hur, eBinN, eBin, wlX_eq, c1]
end TL

/-! The numbers' side: RightMath -/
namespace TL
open PySem PySem.Spec PyProof.Rows L2 Evl SlX StX C8

theorem ne_tup4 (a b c d : Int) : fNe (.tup [.int a, .int b, .int c, .int d]) (.tup [.int a, .int b, .int c, .int d]) = some (.bl false) := by
  have h : fNe (.tup [.int a, .int b, .int c, .int d]) (.tup [.int a, .int b, .int c, .int d]) = some (.bl (!(PyData.eqv (.tuple [.int a, .int b, .int c, .int d]) (.tuple [.int a, .int b, .int c, .int d])))) := rfl
  rw [h]
  simp [PyData.eqv, PyData.eqvAll]
theorem ratio_int (a : Int) : fNeO 1 nfT m_Ratio___eq__ 1000 (.obj 1 [.int 1, .int a]) (.int a) = some (.bl false) := by
  have f1 : fFld l_own_bottom (.obj 1 [.int 1, .int a]) = some (.int 1) := rfl
  have f2 : fFld l_own_top (.obj 1 [.int 1, .int a]) = some (.int a) := rfl
  have h : m_Ratio___eq__ 1000 [.obj 1 [.int 1, .int a], .int a] = some (.bl true) := by
    simp [m_Ratio___eq__, e_Ratio___eq__, mir, sSeq, sIf, bOf, eCall, aCons, aNil, eVar, pad, m_is_whole_ratios, e_is_whole_ratios, sRet, eAnd, eB, eC, isi_ii, isi_ib, eUn, fNot, eBin, f1, f2, fEq_int, outD]
  show (if (1 = 1 ∧ okT nfT 1 (.int a) = true) then (match m_Ratio___eq__ 1000 [.obj 1 [.int 1, .int a], .int a] with | some (.bl k) => some (D.bl (!k)) | _ => none) else none) = _
  rw [h]
  rfl
theorem ratio_same (a : Int) : fNeO 1 nfT m_Ratio___eq__ 1000 (.obj 1 [.int 1, .int a]) (.obj 1 [.int 1, .int a]) = some (.bl false) := by
  have f1 : fFld l_own_bottom (.obj 1 [.int 1, .int a]) = some (.int 1) := rfl
  have f2 : fFld l_own_top (.obj 1 [.int 1, .int a]) = some (.int a) := rfl
  have i1 : fIsi isiT [.obj 1 [.int 1, .int a], .ty "int"] = some (.bl false) := rfl
  have i2 : fIsi isiT [.obj 1 [.int 1, .int a], .cls 1] = some (.bl true) := rfl
  have h : m_Ratio___eq__ 1000 [.obj 1 [.int 1, .int a], .obj 1 [.int 1, .int a]] = some (.bl true) := by
    simp [m_Ratio___eq__, e_Ratio___eq__, mir, sSeq, sIf, bOf, eCall, aCons, aNil, eVar, pad, m_is_whole_ratios, e_is_whole_ratios, sRet, eAnd, eB, eC, i1, i2, sNx, eUn, fNot, eBin, f1, f2, fEq_int, outD]
  show (if (1 = 1 ∧ okT nfT 1 (.obj 1 [.int 1, .int a]) = true) then (match m_Ratio___eq__ 1000 [.obj 1 [.int 1, .int a], .obj 1 [.int 1, .int a]] with | some (.bl k) => some (D.bl (!k)) | _ => none) else none) = _
  rw [h]
  rfl
end TL

/-! The numbers' side: RightMath -/
namespace TL
open PySem PySem.Spec PyProof.Rows L2 Evl SlX StX C8

section
variable {w x y z s t u v : Int}
theorem p_bk (hw : Bk 90 w) (hx : Bk 90 x) (hy : Bk 90 y) (hz : Bk 90 z) (hs : Bk 90 s) (ht : Bk 90 t) (hu : Bk 90 u) (hv : Bk 90 v) : Bk 185 (p1 w x y z s t u v / 2) ∧ Bk 185 (p2 w x y z s t u v / 2) ∧ Bk 185 (p3 w x y z s t u v / 2) ∧ Bk 185 (p4 w x y z s t u v / 2) := by
  have hh : ∀ {i : Int}, Bk 183 i → Bk 185 (i / 2) := fun {i} h => Nat.lt_of_le_of_lt (Int.natAbs_ediv_le_natAbs i 2) (h.mono (show 183 ≤ 185 by decide))
  refine ⟨hh ?_, hh ?_, hh ?_, hh ?_⟩
  · exact Bk.sub (Bk.sub (Bk.sub (Bk.mul hw hs) (Bk.mul hx ht)) ((Bk.mul hy hu).mono (by decide))) ((Bk.mul hz hv).mono (by decide))
  · exact Bk.sub (Bk.add (Bk.add (Bk.mul hw ht) (Bk.mul hx hs)) ((Bk.mul hy hv).mono (by decide))) ((Bk.mul hz hu).mono (by decide))
  · exact Bk.add (Bk.add (Bk.sub (Bk.mul hw hu) (Bk.mul hx hv)) ((Bk.mul hy hs).mono (by decide))) ((Bk.mul hz ht).mono (by decide))
  · exact Bk.add (Bk.sub (Bk.add (Bk.mul hw hv) (Bk.mul hx hu)) ((Bk.mul hy ht).mono (by decide))) ((Bk.mul hz hs).mono (by decide))
theorem b1_of {i : Int} (h : Bk 90 i) : B1 i := Bk.mono (k := 100) h (by decide)
theorem b3_of {i : Int} (h : Bk 90 i) : B3 i := Bk.mono (k := 300) h (by decide)
theorem twice_hf' {n : Nat} (h : Hz w x y z) (hw : Bk 185 w) (hx : Bk 185 x) (hy : Bk 185 y) (hz : Bk 185 z) : m__law_twice n [hf w x y z] = some (.tup [.int w, .int x, .int y, .int z]) := by
  obtain ⟨b, e, f, g, k, E, m1, m2, m3, m4, _, hb⟩ := hf_form h
  have bd : ∀ {i j : Int}, Bk 185 j → 2 * i = b * j → Bk 2000 i := fun {i j} hj hi => by
    have h2 : j.natAbs < 2 ^ 185 := hj
    have h1 : i.natAbs < 2 ^ 185 := by rcases hb with rfl | ⟨rfl, _⟩ <;> omega
    exact Bk.mono (j := 185) (k := 2000) h1 (by decide)
  have f1 := mulC (a := e) (c := 2) (by decide) (bd hw m1)
  have f2 := mulC (a := f) (c := 2) (by decide) (bd hx m2)
  have f3 := mulC (a := g) (c := 2) (by decide) (bd hy m3)
  have f4 := mulC (a := k) (c := 2) (by decide) (bd hz m4)
  have dv : ∀ i j : Int, 2 * i = b * j → fDiv (.int (2 * i)) (.int b) = some (.int j) := fun i j h => by
    rw [fDiv_sm (by omega) (by omega), h, Int.mul_ediv_cancel_left _ (by omega)]
  have d1 := dv e w m1
  have d2 := dv f x m2
  have d3 := dv g y m3
  have d4 := dv k z m4
  rw [E]
  have l1 : m_Four_entries n [fr b e f g k] = some (.tup [.int e, .int f, .int g, .int k]) := rfl
  have l2 : m_Four_bottom n [fr b e f g k] = some (.int b) := rfl
  unfold fr at l1 l2
  unfold fr
  simp [m__law_twice, e__law_twice, mir, sRet, eB, aCons, aNil, eLc, eItems, eProp, eVar, pad, l1, l2, lcE, etName, PM.free, wipeD, bYes, eBin, eC, f1, f2, f3, f4, d1, d2, d3, d4, fTuple, outD]
theorem prop_hf {i : Nat} {τ : Sta} {r : D} (hv : eVar i 1000 τ = some (hf w x y z)) (hn : m_Four_norm 1000 [hf w x y z] = some r) : eProp 4 m_Four_norm (eVar i) 1000 τ = some r := by
  unfold eProp
  rw [hv]
  exact hn
theorem eb4_hf (h : Hz w x y z) (h' : Hz s t u v) (hw : Bk 90 w) (hx : Bk 90 x) (hy : Bk 90 y) (hz : Bk 90 z) (hs : Bk 90 s) (ht : Bk 90 t) (hu : Bk 90 u) (hv : Bk 90 v) :
    eb4 1000 ⟨[none, none, some (.tup [.int w, .int x, .int y, .int z]), some (.tup [.int s, .int t, .int u, .int v]), some (hf w x y z), some (hf s t u v), none, none], .no⟩ = some false := by
  have m := mul_hf (n := 1000) (by decide) h h' (b1_of hw) (b1_of hx) (b1_of hy) (b1_of hz) (b1_of hs) (b1_of ht) (b1_of hu) (b1_of hv)
  obtain ⟨q1, q2, q3, q4, hq⟩ := prod_hz h h'
  obtain ⟨c1, c2, c3, c4⟩ := p_bk hw hx hy hz hs ht hu hv
  have tw := twice_hf' (n := 1000) hq c1 c2 c3 c4
  have lt := law_times_of (n := 1000) (b3_of hw) (b3_of hx) (b3_of hy) (b3_of hz) (b3_of hs) (b3_of ht) (b3_of hu) (b3_of hv)
  have nf := norm_hf (n := 1000) (by decide) h (b1_of hw) (b1_of hx) (b1_of hy) (b1_of hz)
  have ln := law_norm_of (n := 1000) (b3_of hw) (b3_of hx) (b3_of hy) (b3_of hz)
  have pr := prop_hf (i := 4) (τ := ⟨[none, none, some (.tup [.int w, .int x, .int y, .int z]), some (.tup [.int s, .int t, .int u, .int v]), some (hf w x y z), some (hf s t u v), none, none], .no⟩) rfl nf
  simp [eb4, bOr, bOf, eBin, eBinN, eCall, aCons, aNil, eVar, m, tw, lt, ne_tup4] at pr ⊢
  rw [pr]
  simp [ln, ratio_int]
end
end TL

/-! The numbers' side: RightMath -/
namespace TL
open PySem PySem.Spec PyProof.Rows L2 Evl SlX StX C8

section
variable {w x y z s t u v : Int}
theorem own2_hf {m : Nat → List D → Option D} : fOwn2 4 m 1000 (hf w x y z) (hf s t u v) = m 1000 [hf w x y z, hf s t u v] := rfl
theorem sub_hf (h : Hz w x y z) (h' : Hz s t u v) (hw : Bk 90 w) (hx : Bk 90 x) (hy : Bk 90 y) (hz : Bk 90 z) (hs : Bk 90 s) (ht : Bk 90 t) (hu : Bk 90 u) (hv : Bk 90 v) : m_Four___sub__ 1000 [hf w x y z, hf s t u v] = some (hf (w + -s) (x + -t) (y + -u) (z + -v)) := by
  have hn := neg_hf (n := 1000) (by decide) h'
  have h'' : Hz (-s) (-t) (-u) (-v) := by obtain ⟨a, b, c⟩ := h'; exact ⟨by omega, by omega, by omega⟩
  have ha := add_hf (n := 1000) (by decide) h h'' (b1_of hw) (b1_of hx) (b1_of hy) (b1_of hz) (b1_of hs.neg) (b1_of ht.neg) (b1_of hu.neg) (b1_of hv.neg)
  have o1 : fOwn1 4 m_Four___neg__ 1000 (hf s t u v) = some (hf (-s) (-t) (-u) (-v)) := hn
  have o2 : fOwn2 4 m_Four___add__ 1000 (hf w x y z) (hf (-s) (-t) (-u) (-v)) = some (hf (w + -s) (x + -t) (y + -u) (z + -v)) := ha
  have rq : m_require_same_algebra 1000 [hf w x y z, hf s t u v] = some .non := req_same _ _ _ _
  have i1 : fIsi isiT [hf s t u v, .cls 4] = some (.bl true) := rfl
  simp [m_Four___sub__, e_Four___sub__, mir, sSeq, sIf, bNot, bOf, eB, aCons, aNil, eVar, eC, pad, i1, sNx, sExpr, eCall, rq, sRet, eBinN, eBin, eUnN, eUn, o1, o2, outD]
theorem ea5_hf (h : Hz w x y z) (h' : Hz s t u v) (hw : Bk 90 w) (hx : Bk 90 x) (hy : Bk 90 y) (hz : Bk 90 z) (hs : Bk 90 s) (ht : Bk 90 t) (hu : Bk 90 u) (hv : Bk 90 v) : ea5 1000 ⟨[none, none, none, none, some (hf w x y z), some (hf s t u v), none, none], .no⟩ =
    some [hf w x y z, hf (w + s) (x + t) (y + u) (z + v), hf (w + -s) (x + -t) (y + -u) (z + -v), hf (p1 w x y z s t u v / 2) (p2 w x y z s t u v / 2) (p3 w x y z s t u v / 2) (p4 w x y z s t u v / 2), hf w (-x) (-y) (-z)] := by
  have m := mul_hf (n := 1000) (by decide) h h' (b1_of hw) (b1_of hx) (b1_of hy) (b1_of hz) (b1_of hs) (b1_of ht) (b1_of hu) (b1_of hv)
  have a : fOwn2 4 m_Four___add__ 1000 (hf w x y z) (hf s t u v) = _ := add_hf (n := 1000) (by decide) h h' (b1_of hw) (b1_of hx) (b1_of hy) (b1_of hz) (b1_of hs) (b1_of ht) (b1_of hu) (b1_of hv)
  have d : fOwn2 4 m_Four___sub__ 1000 (hf w x y z) (hf s t u v) = _ := sub_hf h h' hw hx hy hz hs ht hu hv
  have e : eMeth 4 m_Four_mate (eVar 4) aNil 1000 ⟨[none, none, none, none, some (hf w x y z), some (hf s t u v), none, none], .no⟩ = _ := mate_hf (n := 1000) (by decide) h
  simp [ea5, aCons, aNil, eVar, eBinN, eBin, m, a, d] at e ⊢
  rw [e]
end
end TL

/-! The numbers' side: RightMath, the end -/
namespace TL
open PySem PySem.Spec PyProof.Rows L2 Evl SlX StX C8

theorem p_bk2 {w x y z s t u v : Int} (hw : Bk 2 w) (hx : Bk 2 x) (hy : Bk 2 y) (hz : Bk 2 z) (hs : Bk 90 s) (ht : Bk 90 t) (hu : Bk 90 u) (hv : Bk 90 v) : B1 (p1 w x y z s t u v / 2) ∧ B1 (p2 w x y z s t u v / 2) ∧ B1 (p3 w x y z s t u v / 2) ∧ B1 (p4 w x y z s t u v / 2) := by
  have hh : ∀ {i : Int}, Bk 95 i → B1 (i / 2) := fun {i} h => Nat.lt_of_le_of_lt (Int.natAbs_ediv_le_natAbs i 2) (h.mono (show 95 ≤ 100 by decide))
  refine ⟨hh ?_, hh ?_, hh ?_, hh ?_⟩
  · exact Bk.sub (Bk.sub (Bk.sub (Bk.mul hw hs) (Bk.mul hx ht)) ((Bk.mul hy hu).mono (by decide))) ((Bk.mul hz hv).mono (by decide))
  · exact Bk.sub (Bk.add (Bk.add (Bk.mul hw ht) (Bk.mul hx hs)) ((Bk.mul hy hv).mono (by decide))) ((Bk.mul hz hu).mono (by decide))
  · exact Bk.add (Bk.add (Bk.sub (Bk.mul hw hu) (Bk.mul hx hv)) ((Bk.mul hy hs).mono (by decide))) ((Bk.mul hz ht).mono (by decide))
  · exact Bk.add (Bk.sub (Bk.add (Bk.mul hw hv) (Bk.mul hx hu)) ((Bk.mul hy ht).mono (by decide))) ((Bk.mul hz hs).mono (by decide))
theorem sq_prod (s t p v w x y z : Int) : p1 s t p v w x y z * p1 s t p v w x y z + p2 s t p v w x y z * p2 s t p v w x y z + p3 s t p v w x y z * p3 s t p v w x y z + p4 s t p v w x y z * p4 s t p v w x y z = (s * s + t * t + p * p + v * v) * (w * w + x * x + y * y + z * z) := by
  unfold p1 p2 p3 p4
  grind
theorem norm_prod {s t p v w x y z : Int} (h2 : s * s + t * t + p * p + v * v = 4) (a1 : p1 s t p v w x y z % 2 = 0) (a2 : p2 s t p v w x y z % 2 = 0) (a3 : p3 s t p v w x y z % 2 = 0) (a4 : p4 s t p v w x y z % 2 = 0) :
    p1 s t p v w x y z / 2 * (p1 s t p v w x y z / 2) + p2 s t p v w x y z / 2 * (p2 s t p v w x y z / 2) + p3 s t p v w x y z / 2 * (p3 s t p v w x y z / 2) + p4 s t p v w x y z / 2 * (p4 s t p v w x y z / 2) = w * w + x * x + y * y + z * z := by
  have e := sq_prod s t p v w x y z
  rw [h2] at e
  generalize p1 s t p v w x y z = P1 at *
  generalize p2 s t p v w x y z = P2 at *
  generalize p3 s t p v w x y z = P3 at *
  generalize p4 s t p v w x y z = P4 at *
  generalize w * w + x * x + y * y + z * z = N at *
  obtain ⟨q1, rfl⟩ : ∃ q, P1 = 2 * q := ⟨P1 / 2, by omega⟩
  obtain ⟨q2, rfl⟩ : ∃ q, P2 = 2 * q := ⟨P2 / 2, by omega⟩
  obtain ⟨q3, rfl⟩ : ∃ q, P3 = 2 * q := ⟨P3 / 2, by omega⟩
  obtain ⟨q4, rfl⟩ : ∃ q, P4 = 2 * q := ⟨P4 / 2, by omega⟩
  have hq : ∀ q : Int, 2 * q / 2 = q := fun q => by omega
  rw [hq, hq, hq, hq]
  have e2 : 4 * (q1 * q1 + q2 * q2 + q3 * q3 + q4 * q4) = 4 * N := by rw [← e]; grind
  omega
theorem prop_any {f : EE} {τ : Sta} {w x y z : Int} {r : D} (hv : f 1000 τ = some (hf w x y z)) (hn : m_Four_norm 1000 [hf w x y z] = some r) : eProp 4 m_Four_norm f 1000 τ = some r := by
  unfold eProp
  rw [hv]
  exact hn
theorem bof_bin {f : Nat → D → D → Option D} {e1 e2 : EE} {n : Nat} {τ : Sta} {a b : D} {c : Bool} (h1 : e1 n τ = some a) (h2 : e2 n τ = some b) (h3 : f n a b = some (.bl c)) : bOf (eBinN f e1 e2) n τ = some c := by
  unfold bOf eBinN eBin
  rw [h1, h2]
  simp only [h3]
theorem eb7_hf {w x y z : Int} {u : D} (hu : okU u = true) (h : Hz w x y z) (hw : Bk 90 w) (hx : Bk 90 x) (hy : Bk 90 y) (hz : Bk 90 z) : ∃ un, m__law_four 1000 [u] = some un ∧ eb7 1000 ⟨[none, none, none, none, some (hf w x y z), none, none, some un], .no⟩ = some false := by
  unfold okU at hu
  split at hu
  · rename_i s t p v
    rw [Bool.and_eq_true, Bool.and_eq_true, Bool.and_eq_true] at hu
    obtain ⟨h1, h2, h3, h4⟩ := hu
    have h1 := of_decide_eq_true h1
    have h2 := of_decide_eq_true h2
    obtain ⟨b1, b2, b3, b4⟩ := of_decide_eq_true h3
    refine ⟨_, law_four_of ⟨by omega, by omega⟩ ⟨by omega, by omega⟩ ⟨by omega, by omega⟩ ⟨by omega, by omega⟩, ?_⟩
    have hi : bInv 1000 (τ7 (hf s t p v)) = some false := by
      split at h4
      · assumption
      · cases h4
    have hi2 : bInv 1000 ⟨[none, none, none, none, some (hf w x y z), none, none, some (hf s t p v)], .no⟩ = some false := hi
    have hs : Bk 2 s := Nat.lt_of_le_of_lt b1 (by decide)
    have ht : Bk 2 t := Nat.lt_of_le_of_lt b2 (by decide)
    have hp : Bk 2 p := Nat.lt_of_le_of_lt b3 (by decide)
    have hv : Bk 2 v := Nat.lt_of_le_of_lt b4 (by decide)
    have g : ∀ {i : Int}, Bk 2 i → B1 i := fun {i} h => h.mono (show 2 ≤ 100 by decide)
    have m := mul_hf (n := 1000) (by decide) h1 h (g hs) (g ht) (g hp) (g hv) (b1_of hw) (b1_of hx) (b1_of hy) (b1_of hz)
    obtain ⟨q1, q2, q3, q4, hq⟩ := prod_hz h1 h
    obtain ⟨c1, c2, c3, c4⟩ := p_bk2 hs ht hp hv hw hx hy hz
    have nq := norm_hf (n := 1000) (by decide) hq c1 c2 c3 c4
    rw [norm_prod h2 q1 q2 q3 q4] at nq
    have nf := norm_hf (n := 1000) (by decide) h (b1_of hw) (b1_of hx) (b1_of hy) (b1_of hz)
    have r1 := prop_any (f := eBinN (fOwn2 4 m_Four___mul__) (eVar 7) (eVar 4)) (τ := ⟨[none, none, none, none, some (hf w x y z), none, none, some (hf s t p v)], .no⟩) m nq
    have r2 := prop_hf (i := 4) (τ := ⟨[none, none, none, none, some (hf w x y z), none, none, some (hf s t p v)], .no⟩) rfl nf
    have e2 : bOf (eBinN (fNeO 1 nfT m_Ratio___eq__) (eProp 4 m_Four_norm (eBinN (fOwn2 4 m_Four___mul__) (eVar 7) (eVar 4))) (eProp 4 m_Four_norm (eVar 4))) 1000 ⟨[none, none, none, none, some (hf w x y z), none, none, some (hf s t p v)], .no⟩ = some false := bof_bin r1 r2 (ratio_same _)
    show bOr bInv _ 1000 _ = _
    unfold bOr
    rw [hi2]
    exact e2
  · cases hu
theorem sm_of {i : Int} (h : Bk 90 i) : Sm i := by
  have h2 : i.natAbs < 2 ^ 90 := h
  exact ⟨by omega, by omega⟩
theorem sm1_of {i : Int} (h : Bk 90 i) : Sm (i + 1) := by
  have h2 : i.natAbs < 2 ^ 90 := h
  exact ⟨by omega, by omega⟩
theorem rightMath : RightMath := by
  refine ⟨⟨1000, usL, us_eq, by decide +kernel, by decide +kernel⟩, fun n0 us m xs ys hu h0 hm hx hy => ?_⟩
  have eu : us = usL := by
    rw [us_any, us_eq] at hu
    exact (D.lst.inj (Option.some.inj hu)).symm
  obtain ⟨w, x, y, z, rfl, h, bw, bx, by', bz⟩ := hx.form4 hm
  obtain ⟨s, t, u, v, rfl, h', bs, bt, bu, bv⟩ := hy.form4 hm
  have bw : Bk 90 w := bw
  have bx : Bk 90 x := bx
  have by' : Bk 90 y := by'
  have bz : Bk 90 z := bz
  have bs : Bk 90 s := bs
  have bt : Bk 90 t := bt
  have bu : Bk 90 u := bu
  have bv : Bk 90 v := bv
  have g : ∀ {i : Int}, Bk 90 i → Bk 185 i := fun {i} h => h.mono (by decide)
  have g9 : ∀ {i : Int}, Bk 90 i → Bk 190 i := fun {i} h => h.mono (by decide)
  have ga : ∀ {i j : Int}, Bk 90 i → Bk 90 j → Bk 185 (i + j) := fun {i j} hi hj => (Bk.add hi hj).mono (by decide)
  have g1 : Bk 190 (w + 1) := by
    have h2 : w.natAbs < 2 ^ 90 := bw
    have h3 : (w + 1).natAbs < 2 ^ 91 := by omega
    exact Bk.mono (k := 190) h3 (by decide)
  obtain ⟨_, _, _, _, hq⟩ := prod_hz h h'
  obtain ⟨c1, c2, c3, c4⟩ := p_bk bw bx by' bz bs bt bu bv
  have hn := And.intro h (And.intro h' trivial)
  obtain ⟨a1, a2, a3⟩ := h
  obtain ⟨d1, d2, d3⟩ := h'
  refine ⟨1000, hf w x y z, hf s t u v, _, law_four_of (sm_of bw) (sm_of bx) (sm_of by') (sm_of bz), law_four_of (sm_of bs) (sm_of bt) (sm_of bu) (sm_of bv), eb4_hf hn.1 hn.2.1 bw bx by' bz bs bt bu bv, ea5_hf hn.1 hn.2.1 bw bx by' bz bs bt bu bv, Nat.le_of_ble_eq_true rfl, ?_, ?_, near_right_of (sm_of bw) (sm_of bx) (sm_of by') (sm_of bz) (sm1_of bw) (g9 bw) (g9 bx) (g9 by') (g9 bz) g1⟩
  · intro d hd
    simp only [List.mem_cons, List.not_mem_nil, or_false] at hd
    rcases hd with rfl | rfl | rfl | rfl | rfl
    · exact eb5_hf hn.1 (g bw) (g bx) (g by') (g bz)
    · exact eb5_hf ⟨by omega, by omega, by omega⟩ (ga bw bs) (ga bx bt) (ga by' bu) (ga bz bv)
    · exact eb5_hf ⟨by omega, by omega, by omega⟩ (ga bw bs.neg) (ga bx bt.neg) (ga by' bu.neg) (ga bz bv.neg)
    · exact eb5_hf hq c1 c2 c3 c4
    · exact eb5_hf ⟨by omega, by omega, by omega⟩ (g bw) (g bx.neg) (g by'.neg) (g bz.neg)
  · intro i d hd
    rw [eu] at hd
    exact eb7_hf (List.all_eq_true.mp us_ok d (List.mem_of_getElem? hd)) hn.1 bw bx by' bz
end TL

/-! The end: the head's facts, the walk, the law -/
namespace TL
open PySem PySem.Spec PyProof.Rows L2
theorem tx_of {K : PySem.W.Frag} {h : Heap} {mg : Str → Option Value} (X : K.In h) (G : h.Ns mainGlobals mg) (c : obsT K = valT) : Tx K mg := by
  have c0 : (okK K && fnL.all fun d => d.ok K) = true := congrArg (fun z : He.AlD => z.1) c
  obtain ⟨c1, c2⟩ := Bool.and_eq_true_iff.mp c0
  have e : fnL.map (fun d => He5.fnA K (d.at_ K)) = fnL.map He5.DefA.val := congrArg (fun z : He.AlD => z.2) c
  exact ⟨c1, fun d hd => He5.DefA.funD (List.map_inj_left.mp e d hd) (List.all_eq_true.mp c2 d hd), fun x u q => PySem.W.mg_of X G q, fun x q => PySem.W.mg_none_of X G q⟩
theorem one_fd {K : PySem.W.Frag} {x y q r : Str} {A B : Arguments} {bo bo' : List Stmt} {S S' : Scope} {dv dv' : List L2.V} {kw kw' : List (Str × L2.V)} {f : Addr} {fd fd' : FuncData} (F : L2.FunD K x q A bo S dv kw f fd) (F' : L2.FunD K y r B bo' S' dv' kw' f fd') : fd' = fd := by
  obtain ⟨_, _, _, _, _, _, _, _, _, _, _, l, _⟩ := F.ex
  obtain ⟨_, _, _, _, _, _, _, _, _, _, _, l', _⟩ := F'.ex
  rw [l] at l'
  cases l'
  rfl
theorem law_facts {P : Program} {w : World} {K : PySem.W.Frag} {h : Heap} {mg : Str → Option Value} {fa : Addr} (X : K.In h) (G : h.Ns mainGlobals mg) (hfa : mg ("law" : Str) = some (.ref fa)) (c : obsT K = valT) :
    ∃ fd : FuncData, (∀ (s : Shared) (v : Value), BindsTo s fd ⟨[v], []⟩ [("_law_script", v)]) ∧ ∀ base : Heap, K.In base → base.Ns mainGlobals mg → FnOk P w K mg base L2.CX0 13 fa fd ["_law_script"] (spLaw K) := by
  have T : Tx K mg := tx_of X G c
  have e : fa = a_law K := by
    have z := hfa.symm.trans T.gl_law
    cases z
    rfl
  obtain ⟨fd, F⟩ := T.fn_law
  have b := FunD.bindsA (ps := ["_law_script"]) F fun _ _ _ _ _ _ us hl => match us, hl with | [_], _ => rfl
  refine ⟨fd, fun s v => b s [v] rfl, fun base _ _ => ?_⟩
  obtain ⟨fd', ok, F'⟩ := o_law (P := P) (w := w) (base := base) T rightMath lawMath
  have e2 := one_fd F F'
  subst e2
  rw [e]
  exact ok
end TL
open PySem PySem.W PySem.Calls PyProof.Rows
theorem PySem.Challenge.cw_signfours_k81_whole_fours_and_units_holds : PySem.Challenge.rw_signfours_k81_whole_fours_and_units.Holds := by
  w_on; o_law
  refine HandSHeadRun.head_imp (r := OpenLaw.row PySem.Challenge.rw_signfours_k81_whole_fours_and_units) (q := TL.qv) (H := TL.hookT) (ob := TL.obT) (M := 20000) (loose := TL.names) (d := HandSHeadRun.topDef (OpenLaw.row PySem.Challenge.rw_signfours_k81_whole_fours_and_units).prog 133) (kwd := []) TL.obT_eq
    TL.run_all (by kernel_rfl) (by kernel_rfl) (by kernel_rfl) (by rfl) (by first | assumption | decide +kernel) (by decide +kernel) ⟨rfl, rfl, rfl, rfl, rfl, by decide +kernel⟩ ?hw ?hc
  case hw => exact ⟨[.list []], by kernel_rfl, by kernel_rfl⟩
  case hc =>
    refine L2.walk_ofE (l := PySem.Challenge.rw_signfours_k81_whole_fours_and_units) (n := 63) (k := 13) (x := "_law_script") (CX := L2.CX0) rfl (by decide) (by kernel_rfl) ⟨rfl, by decide, by decide⟩ ?F (fun _ _ _ _ z => z)
    intro w mg fa h Y G hmg0
    obtain ⟨K, KX, c⟩ := Y
    have hmg : mg ("law" : PySem.Str) = some (.ref fa) := by
      have e : (HandSHeadRun.topDef (OpenLaw.row PySem.Challenge.rw_signfours_k81_whole_fours_and_units).prog 133).name = ("law" : PySem.Str) := by kernel_rfl
      rw [← e]
      exact hmg0
    obtain ⟨fd, hb, hF⟩ := TL.law_facts (P := (PySem.Challenge.rw_signfours_k81_whole_fours_and_units).prog) (w := w) KX G hmg c
    exact ⟨K, fd, TL.spLaw K, KX, hb, fun H a ns hl _ hS => ⟨a, ns, rfl, hS, fun _ => rfl⟩, hF⟩
