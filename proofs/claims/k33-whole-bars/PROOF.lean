import PyProof.Rows.All
import Wide.All
import OpenK.AllK
import Wide.FinOn
import KE.KStateDown
import Lean
import HandS.ForMost
import HandS.IsInst
import HandS.Walk
import HandS.Zip
import HandS.TupMul
import HandS.TupAny
import HandS.Conv
import HandS.OwnEq
import HandS.Deep
import HandS.DictComp
import HandS.DictTup
import HandS.Wide
import HandS.Head0
import HandS.Head1
import HandS.Head2
import HandS.HeadEnd
import HandS.HeadHook1
import HandS.HeadHook2
import HandS.TupSets
import KE.GoesMore
import KE.KDictSum
import KE.KDictPairs
import KE.DataFind
import KE.GoesZip
import PySem.Challenge.RW_mapwebs_k33_whole_bars_of_pictures_of_li
set_option Elab.async false
set_option linter.all false
set_option maxRecDepth 100000
set_option maxHeartbeats 4000000
namespace K33
open PySem PySem.Spec PyProof.Rows L2
abbrev ad (K : PySem.W.Frag) (x : Str) : Addr := He.ga K x
def top (i : Nat) : Stmt := PySem.Challenge.pw_mapwebs_k33_whole_bars_of_pictures_of_li.main.body.getD i (.Pass ⟨0, 0, 0, 0⟩)
abbrev s_law_purse : Stmt := top 72
abbrev s_law_part : Stmt := top 73
abbrev s_law_one : Stmt := top 74
abbrev s_RawWeb_init : Stmt := inClass (top 42) 0
abbrev s_line : Stmt := top 43
abbrev s_law_line : Stmt := top 82
abbrev s_law_pairs : Stmt := top 84
abbrev s_law_stretches : Stmt := top 83
abbrev s_is_line : Stmt := top 57
abbrev s_is_integer : Stmt := top 13
abbrev s_is_prime : Stmt := top 16
abbrev s_check_prime : Stmt := top 17
abbrev s_is_within : Stmt := top 14
abbrev s_is_number : Stmt := top 15
abbrev s_check_stretch : Stmt := top 59
abbrev s_Table_keep : Stmt := inClass (top 22) 1
abbrev s_RawTable_init : Stmt := inClass (top 23) 0
abbrev s_raw_plain : Stmt := top 28
abbrev s_raw_nought : Stmt := top 29
abbrev s_Picture_keep : Stmt := inClass (top 49) 1
abbrev s_RawPicture_init : Stmt := inClass (top 50) 0
abbrev s_raw_bar : Stmt := top 60
abbrev s_bar_of : Stmt := top 61
abbrev s_Web_eq : Stmt := inClass (top 41) 1
abbrev s_is_picture_of : Stmt := top 52
abbrev s_raw_corner : Stmt := top 30
abbrev s_raw_beside : Stmt := top 51
abbrev s_beside : Stmt := top 53
abbrev s_is_column : Stmt := top 21
abbrev s_Table_init : Stmt := inClass (top 22) 0
abbrev s_law_base : Stmt := top 80
abbrev s_is_fit_table : Stmt := top 48
abbrev s_inverse_of : Stmt := top 18
abbrev s_less : Stmt := top 31
abbrev s_cleared : Stmt := top 32
abbrev s_reduced_rows : Stmt := top 33
abbrev s_undone : Stmt := top 35
abbrev s_columns_of : Stmt := top 25
abbrev s_led_on : Stmt := top 24
abbrev s_columns_table : Stmt := top 26
abbrev s_raw_times : Stmt := top 27
abbrev s_raw_based : Stmt := top 54
abbrev s_based : Stmt := top 55
abbrev s_law_rebased : Stmt := top 81
abbrev s_check_line : Stmt := top 58
abbrev s_stretches : Stmt := top 67
abbrev s_starts_on : Stmt := top 62
abbrev s_unit_led : Stmt := top 63
abbrev s_lost_rows : Stmt := top 64
abbrev s_kernel : Stmt := top 34
abbrev s_meeting_rows : Stmt := top 65
abbrev s_raw_reach : Stmt := top 66
abbrev s_count_of : Stmt := top 68
abbrev s_raw_bars : Stmt := top 69
abbrev s_bars : Stmt := top 70
abbrev s_law_are_just : Stmt := top 87
abbrev s_law_rows : Stmt := top 78
abbrev s_are_sizes : Stmt := top 47
abbrev s_Picture_init : Stmt := inClass (top 49) 0
abbrev s_law_picture : Stmt := top 79
abbrev s_law_less : Stmt := top 76
abbrev s_law_spanned : Stmt := top 75
abbrev s_law_lost_columns : Stmt := top 77
abbrev s_law_reach : Stmt := top 85
abbrev s_law_bars : Stmt := top 86
abbrev s_law : Stmt := top 88
end K33
namespace K33H
open PySem PySem.Spec PyProof.Rows L2 K33
set_option maxHeartbeats 0
/-! the head -/
def d_law_purse : He.DefD := ⟨("_law_purse", none), "_law_purse", "_law_purse", defArgs s_law_purse, defBody s_law_purse, defScope s_law_purse, [], []⟩
def d_law_part : He.DefD := ⟨("_law_part", none), "_law_part", "_law_part", defArgs s_law_part, defBody s_law_part, defScope s_law_part, [], []⟩
def d_law_one : He.DefD := ⟨("_law_one", none), "_law_one", "_law_one", defArgs s_law_one, defBody s_law_one, defScope s_law_one, [], []⟩
def d_RawWeb_init : He.DefD := ⟨("RawWeb", some "__init__"), "__init__", "RawWeb.__init__", defArgs s_RawWeb_init, defBody s_RawWeb_init, defScope s_RawWeb_init, [], []⟩
def d_line : He.DefD := ⟨("line", none), "line", "line", defArgs s_line, defBody s_line, defScope s_line, [], []⟩
def d_law_line : He.DefD := ⟨("_law_line", none), "_law_line", "_law_line", defArgs s_law_line, defBody s_law_line, defScope s_law_line, [], []⟩
def d_law_pairs : He.DefD := ⟨("_law_pairs", none), "_law_pairs", "_law_pairs", defArgs s_law_pairs, defBody s_law_pairs, defScope s_law_pairs, [], []⟩
def d_law_stretches : He.DefD := ⟨("_law_stretches", none), "_law_stretches", "_law_stretches", defArgs s_law_stretches, defBody s_law_stretches, defScope s_law_stretches, [], []⟩
def d_is_line : He.DefD := ⟨("is_line", none), "is_line", "is_line", defArgs s_is_line, defBody s_is_line, defScope s_is_line, [], []⟩
def d_is_integer : He.DefD := ⟨("is_integer", none), "is_integer", "is_integer", defArgs s_is_integer, defBody s_is_integer, defScope s_is_integer, [], []⟩
def d_is_prime : He.DefD := ⟨("is_prime", none), "is_prime", "is_prime", defArgs s_is_prime, defBody s_is_prime, defScope s_is_prime, [], []⟩
def d_check_prime : He.DefD := ⟨("check_prime", none), "check_prime", "check_prime", defArgs s_check_prime, defBody s_check_prime, defScope s_check_prime, [], []⟩
def d_is_within : He.DefD := ⟨("is_within", none), "is_within", "is_within", defArgs s_is_within, defBody s_is_within, defScope s_is_within, [], []⟩
def d_is_number : He.DefD := ⟨("is_number", none), "is_number", "is_number", defArgs s_is_number, defBody s_is_number, defScope s_is_number, [], []⟩
def d_check_stretch : He.DefD := ⟨("check_stretch", none), "check_stretch", "check_stretch", defArgs s_check_stretch, defBody s_check_stretch, defScope s_check_stretch, [], []⟩
def d_Table_keep : He.DefD := ⟨("Table", some "keep"), "keep", "Table.keep", defArgs s_Table_keep, defBody s_Table_keep, defScope s_Table_keep, [], []⟩
def d_Table_keep_raw : He.DefD := ⟨("RawTable", some "keep"), "keep", "Table.keep", defArgs s_Table_keep, defBody s_Table_keep, defScope s_Table_keep, [], []⟩
def d_RawTable_init : He.DefD := ⟨("RawTable", some "__init__"), "__init__", "RawTable.__init__", defArgs s_RawTable_init, defBody s_RawTable_init, defScope s_RawTable_init, [], []⟩
def d_raw_plain : He.DefD := ⟨("raw_plain", none), "raw_plain", "raw_plain", defArgs s_raw_plain, defBody s_raw_plain, defScope s_raw_plain, [], []⟩
def d_raw_nought : He.DefD := ⟨("raw_nought", none), "raw_nought", "raw_nought", defArgs s_raw_nought, defBody s_raw_nought, defScope s_raw_nought, [], []⟩
def d_Picture_keep : He.DefD := ⟨("Picture", some "keep"), "keep", "Picture.keep", defArgs s_Picture_keep, defBody s_Picture_keep, defScope s_Picture_keep, [], []⟩
def d_Picture_keep_raw : He.DefD := ⟨("RawPicture", some "keep"), "keep", "Picture.keep", defArgs s_Picture_keep, defBody s_Picture_keep, defScope s_Picture_keep, [], []⟩
def d_RawPicture_init : He.DefD := ⟨("RawPicture", some "__init__"), "__init__", "RawPicture.__init__", defArgs s_RawPicture_init, defBody s_RawPicture_init, defScope s_RawPicture_init, [], []⟩
def d_raw_bar : He.DefD := ⟨("raw_bar", none), "raw_bar", "raw_bar", defArgs s_raw_bar, defBody s_raw_bar, defScope s_raw_bar, [], []⟩
def d_bar_of : He.DefD := ⟨("bar_of", none), "bar_of", "bar_of", defArgs s_bar_of, defBody s_bar_of, defScope s_bar_of, [], []⟩
def d_Web_eq : He.DefD := ⟨("RawWeb", some "__eq__"), "__eq__", "Web.__eq__", defArgs s_Web_eq, defBody s_Web_eq, defScope s_Web_eq, [], []⟩
def d_is_picture_of : He.DefD := ⟨("is_picture_of", none), "is_picture_of", "is_picture_of", defArgs s_is_picture_of, defBody s_is_picture_of, defScope s_is_picture_of, [], []⟩
def d_raw_corner : He.DefD := ⟨("raw_corner", none), "raw_corner", "raw_corner", defArgs s_raw_corner, defBody s_raw_corner, defScope s_raw_corner, [], []⟩
def d_raw_beside : He.DefD := ⟨("raw_beside", none), "raw_beside", "raw_beside", defArgs s_raw_beside, defBody s_raw_beside, defScope s_raw_beside, [], []⟩
def d_beside : He.DefD := ⟨("beside", none), "beside", "beside", defArgs s_beside, defBody s_beside, defScope s_beside, [], []⟩
def d_is_column : He.DefD := ⟨("is_column", none), "is_column", "is_column", defArgs s_is_column, defBody s_is_column, defScope s_is_column, [], []⟩
def d_Table_init : He.DefD := ⟨("Table", some "__init__"), "__init__", "Table.__init__", defArgs s_Table_init, defBody s_Table_init, defScope s_Table_init, [], []⟩
def d_law_base : He.DefD := ⟨("_law_base", none), "_law_base", "_law_base", defArgs s_law_base, defBody s_law_base, defScope s_law_base, [], []⟩
def d_is_fit_table : He.DefD := ⟨("is_fit_table", none), "is_fit_table", "is_fit_table", defArgs s_is_fit_table, defBody s_is_fit_table, defScope s_is_fit_table, [], []⟩
def d_inverse_of : He.DefD := ⟨("inverse_of", none), "inverse_of", "inverse_of", defArgs s_inverse_of, defBody s_inverse_of, defScope s_inverse_of, [], []⟩
def d_less : He.DefD := ⟨("less", none), "less", "less", defArgs s_less, defBody s_less, defScope s_less, [], []⟩
def d_cleared : He.DefD := ⟨("cleared", none), "cleared", "cleared", defArgs s_cleared, defBody s_cleared, defScope s_cleared, [], []⟩
def d_reduced_rows : He.DefD := ⟨("reduced_rows", none), "reduced_rows", "reduced_rows", defArgs s_reduced_rows, defBody s_reduced_rows, defScope s_reduced_rows, [], []⟩
def d_undone : He.DefD := ⟨("undone", none), "undone", "undone", defArgs s_undone, defBody s_undone, defScope s_undone, [], []⟩
def d_columns_of : He.DefD := ⟨("columns_of", none), "columns_of", "columns_of", defArgs s_columns_of, defBody s_columns_of, defScope s_columns_of, [], []⟩
def d_led_on : He.DefD := ⟨("led_on", none), "led_on", "led_on", defArgs s_led_on, defBody s_led_on, defScope s_led_on, [], []⟩
def d_columns_table : He.DefD := ⟨("columns_table", none), "columns_table", "columns_table", defArgs s_columns_table, defBody s_columns_table, defScope s_columns_table, [], []⟩
def d_raw_times : He.DefD := ⟨("raw_times", none), "raw_times", "raw_times", defArgs s_raw_times, defBody s_raw_times, defScope s_raw_times, [], []⟩
def d_raw_based : He.DefD := ⟨("raw_based", none), "raw_based", "raw_based", defArgs s_raw_based, defBody s_raw_based, defScope s_raw_based, [], []⟩
def d_based : He.DefD := ⟨("based", none), "based", "based", defArgs s_based, defBody s_based, defScope s_based, [], []⟩
def d_law_rebased : He.DefD := ⟨("_law_rebased", none), "_law_rebased", "_law_rebased", defArgs s_law_rebased, defBody s_law_rebased, defScope s_law_rebased, [], []⟩
def d_check_line : He.DefD := ⟨("check_line", none), "check_line", "check_line", defArgs s_check_line, defBody s_check_line, defScope s_check_line, [], []⟩
def d_stretches : He.DefD := ⟨("stretches", none), "stretches", "stretches", defArgs s_stretches, defBody s_stretches, defScope s_stretches, [], []⟩
def d_starts_on : He.DefD := ⟨("starts_on", none), "starts_on", "starts_on", defArgs s_starts_on, defBody s_starts_on, defScope s_starts_on, [], []⟩
def d_unit_led : He.DefD := ⟨("unit_led", none), "unit_led", "unit_led", defArgs s_unit_led, defBody s_unit_led, defScope s_unit_led, [], []⟩
def d_lost_rows : He.DefD := ⟨("lost_rows", none), "lost_rows", "lost_rows", defArgs s_lost_rows, defBody s_lost_rows, defScope s_lost_rows, [], []⟩
def d_kernel : He.DefD := ⟨("kernel", none), "kernel", "kernel", defArgs s_kernel, defBody s_kernel, defScope s_kernel, [], []⟩
def d_meeting_rows : He.DefD := ⟨("meeting_rows", none), "meeting_rows", "meeting_rows", defArgs s_meeting_rows, defBody s_meeting_rows, defScope s_meeting_rows, [], []⟩
def d_raw_reach : He.DefD := ⟨("raw_reach", none), "raw_reach", "raw_reach", defArgs s_raw_reach, defBody s_raw_reach, defScope s_raw_reach, [], []⟩
def d_count_of : He.DefD := ⟨("count_of", none), "count_of", "count_of", defArgs s_count_of, defBody s_count_of, defScope s_count_of, [], []⟩
def d_raw_bars : He.DefD := ⟨("raw_bars", none), "raw_bars", "raw_bars", defArgs s_raw_bars, defBody s_raw_bars, defScope s_raw_bars, [], []⟩
def d_bars : He.DefD := ⟨("bars", none), "bars", "bars", defArgs s_bars, defBody s_bars, defScope s_bars, [], []⟩
def d_law_are_just : He.DefD := ⟨("_law_are_just", none), "_law_are_just", "_law_are_just", defArgs s_law_are_just, defBody s_law_are_just, defScope s_law_are_just, [], []⟩
def d_law_rows : He.DefD := ⟨("_law_rows", none), "_law_rows", "_law_rows", defArgs s_law_rows, defBody s_law_rows, defScope s_law_rows, [], []⟩
def d_are_sizes : He.DefD := ⟨("are_sizes", none), "are_sizes", "are_sizes", defArgs s_are_sizes, defBody s_are_sizes, defScope s_are_sizes, [], []⟩
def d_Picture_init : He.DefD := ⟨("Picture", some "__init__"), "__init__", "Picture.__init__", defArgs s_Picture_init, defBody s_Picture_init, defScope s_Picture_init, [], []⟩
def d_law_picture : He.DefD := ⟨("_law_picture", none), "_law_picture", "_law_picture", defArgs s_law_picture, defBody s_law_picture, defScope s_law_picture, [], []⟩
def d_law_less : He.DefD := ⟨("_law_less", none), "_law_less", "_law_less", defArgs s_law_less, defBody s_law_less, defScope s_law_less, [], []⟩
def d_law_spanned : He.DefD := ⟨("_law_spanned", none), "_law_spanned", "_law_spanned", defArgs s_law_spanned, defBody s_law_spanned, defScope s_law_spanned, [], []⟩
def d_law_lost_columns : He.DefD := ⟨("_law_lost_columns", none), "_law_lost_columns", "_law_lost_columns", defArgs s_law_lost_columns, defBody s_law_lost_columns, defScope s_law_lost_columns, [], []⟩
def d_law_reach : He.DefD := ⟨("_law_reach", none), "_law_reach", "_law_reach", defArgs s_law_reach, defBody s_law_reach, defScope s_law_reach, [], []⟩
def d_law_bars : He.DefD := ⟨("_law_bars", none), "_law_bars", "_law_bars", defArgs s_law_bars, defBody s_law_bars, defScope s_law_bars, [], []⟩
def d_law : He.DefD := ⟨("law", none), "law", "law", defArgs s_law, defBody s_law, defScope s_law, [], []⟩
def fn0 : List He.DefD := [d_law_purse, d_law_part, d_law_one, d_RawWeb_init, d_line, d_law_line, d_law_pairs, d_law_stretches, d_is_line, d_is_integer, d_is_prime, d_check_prime, d_is_within, d_is_number, d_check_stretch, d_Table_keep, d_Table_keep_raw, d_RawTable_init, d_raw_plain, d_raw_nought, d_Picture_keep, d_Picture_keep_raw, d_RawPicture_init, d_raw_bar]
def fn1 : List He.DefD := [d_bar_of, d_Web_eq, d_is_picture_of, d_raw_corner, d_raw_beside, d_beside, d_is_column, d_Table_init, d_law_base, d_is_fit_table, d_inverse_of, d_less, d_cleared, d_reduced_rows, d_undone, d_columns_of, d_led_on, d_columns_table, d_raw_times, d_raw_based, d_based, d_law_rebased, d_check_line, d_stretches]
def fn2 : List He.DefD := [d_starts_on, d_unit_led, d_lost_rows, d_kernel, d_meeting_rows, d_raw_reach, d_count_of, d_raw_bars, d_bars, d_law_are_just, d_law_rows, d_are_sizes, d_Picture_init, d_law_picture, d_law_less, d_law_spanned, d_law_lost_columns, d_law_reach, d_law_bars, d_law]
def fns : List He.DefD := fn0 ++ fn1 ++ fn2
def fa0 : List He.Fa := [.glo "_law_purse", .glo "_law_part", .glo "_law_one", .glo "line", .glo "_law_line", .glo "_law_pairs", .glo "_law_stretches", .glo "is_line", .glo "is_integer", .glo "is_prime", .glo "check_prime", .glo "is_within", .glo "is_number", .glo "check_stretch", .glo "raw_plain", .glo "raw_nought", .glo "raw_bar", .glo "bar_of", .glo "is_picture_of", .glo "raw_corner", .glo "raw_beside", .glo "beside", .glo "is_column", .glo "_law_base", .glo "is_fit_table", .glo "inverse_of", .glo "less", .glo "cleared", .glo "reduced_rows", .glo "undone"]
def fa1 : List He.Fa := [.glo "columns_of", .glo "led_on", .glo "columns_table", .glo "raw_times", .glo "raw_based", .glo "based", .glo "_law_rebased", .glo "check_line", .glo "stretches", .glo "starts_on", .glo "unit_led", .glo "lost_rows", .glo "kernel", .glo "meeting_rows", .glo "raw_reach", .glo "count_of", .glo "raw_bars", .glo "bars", .glo "_law_are_just", .glo "_law_rows", .glo "are_sizes", .glo "_law_picture", .glo "_law_less", .glo "_law_spanned", .glo "_law_lost_columns", .glo "_law_reach", .glo "_law_bars", .glo "law", .glo "Table", .glo "RawTable"]
def fa2 : List He.Fa := [.glo "RawWeb", .glo "Picture", .glo "RawPicture", .glo "Web", .glo "PRIMES", .cls "Table", .mkr "Table", .cls "RawTable", .mkr "RawTable", .cls "RawWeb", .mkr "RawWeb", .cls "Picture", .mkr "Picture", .cls "RawPicture", .mkr "RawPicture", .noat "Table" "prime", .noat "Table" "wide", .noat "Table" "rows", .noat "Table" "high", .noat "RawTable" "prime", .noat "RawTable" "wide", .noat "RawTable" "rows", .noat "RawTable" "high", .noat "RawWeb" "many", .noat "RawWeb" "arrows", .noat "Picture" "web", .noat "Picture" "prime", .noat "Picture" "sizes", .noat "Picture" "tables", .noat "RawPicture" "web"]
def fa3 : List He.Fa := [.noat "RawPicture" "prime", .noat "RawPicture" "sizes", .noat "RawPicture" "tables", .meth "Table" "keep", .meth "RawTable" "keep", .meth "Picture" "keep", .meth "RawPicture" "keep", .meth "RawWeb" "__eq__", .free "abs", .free "all", .free "any", .free "bool", .free "dict", .free "enumerate", .free "int", .free "isinstance", .free "len", .free "list", .free "range", .free "sorted", .free "str", .free "sum", .free "tuple", .free "zip", .int "MOST" 12, .int "MOST_BESIDE" 12, .int "MOST_PLACES" 8, .int "MOST_SIZE" 6, .str "BACKWARD" "<", .str "FORWARD" ">"]
def fas : List He.Fa := fa0 ++ fa1 ++ fa2 ++ fa3
/-- what of a class its instances need -/
def insB (K : PySem.W.Frag) (x : Str) : Bool :=
  He.eqO (PySem.W.findIn K (.ref (ad K x)) "__class__") (some (some (.builtin "object.__class__"))) && (He.eqO (PySem.W.specialIn K (.builtin "object.__class__") "__get__") (some (some (.builtin "getset_descriptor.__get__"))) &&
    (decide (PySem.W.takesIn K (.builtin "object.__class__") = some true) && decide (PySem.W.mroIn K (ad K x) (.type "object") = some true)))
def kitB (K : PySem.W.Frag) (x y : Str) : Bool := decide (PySem.W.kitOne K (.ref (ad K x)) (.ref (ad K y)) = some true)
def prD : List He.Dv := [.int 2, .int 3, .int 5, .int 7, .int 11, .int 13]
def ownL (K : PySem.W.Frag) : List Bool := [insB K "Table", insB K "RawTable", insB K "RawWeb", insB K "Picture", insB K "RawPicture", kitB K "Table" "Table", kitB K "RawTable" "Table", kitB K "RawWeb" "Web", kitB K "Picture" "Picture", kitB K "RawPicture" "Picture", He.tupB K "PRIMES" prD]
def ownB (K : PySem.W.Frag) : Bool := (ownL K).all id
theorem ownB_at {K : PySem.W.Frag} (h : ownB K = true) (i : Nat) {b : Bool} (e : (ownL K)[i]? = some b) : b = true := List.all_eq_true.mp h b (List.mem_of_getElem? e)
abbrev AlX : Type := Bool × He.AlD
def obX (K : PySem.W.Frag) : AlX := (ownB K, He.obsD fas fns K)
def vaX : AlX := (true, He.valD fns)
/- the addresses that the facts look at (wip/addr.txt: what the module's names reach in five steps, behind the top) -/
def as0 : List Addr := [3, 6, 4, 24, 46, 67, 88, 100, 112, 124, 136, 148, 160, 163, 170, 177, 184, 191, 198, 205, 210, 241, 262, 269, 274, 279, 284, 289, 294, 299, 304, 309, 314, 319, 324, 346, 367, 374, 379, 386]
def as1 : List Addr := [417, 438, 445, 452, 457, 464, 471, 476, 483, 490, 495, 502, 509, 514, 521, 528, 533, 538, 545, 550, 555, 560, 567, 574, 579, 584, 589, 594, 599, 604, 609, 614, 619, 624, 629, 634, 639, 644, 0, 23]
def as2 : List Addr := [45, 66, 87, 99, 111, 123, 135, 147, 159, 169, 176, 183, 190, 197, 204, 209, 240, 261, 268, 273, 278, 283, 288, 293, 298, 303, 308, 313, 318, 323, 345, 366, 373, 378, 385, 416, 437, 444, 451, 456]
def as3 : List Addr := [463, 470, 475, 482, 489, 494, 501, 508, 513, 520, 527, 532, 537, 544, 549, 554, 559, 566, 573, 578, 583, 588, 593, 598, 603, 608, 613, 618, 623, 628, 633, 638, 643, 22, 25, 43, 44, 64, 65, 85]
def as4 : List Addr := [86, 98, 110, 122, 134, 146, 158, 164, 165, 166, 167, 168, 171, 172, 173, 174, 175, 178, 179, 180, 181, 182, 185, 186, 187, 188, 189, 192, 193, 194, 195, 196, 199, 200, 201, 202, 203, 206, 207, 208]
def as5 : List Addr := [224, 231, 238, 239, 242, 243, 259, 260, 265, 266, 267, 270, 271, 272, 275, 276, 277, 280, 281, 282, 285, 286, 287, 290, 291, 292, 295, 296, 297, 300, 301, 302, 305, 306, 307, 310, 311, 312, 315, 316]
def as6 : List Addr := [317, 320, 321, 322, 336, 343, 344, 347, 348, 364, 365, 370, 371, 372, 375, 376, 377, 380, 381, 382, 383, 384, 400, 407, 414, 415, 418, 419, 435, 436, 441, 442, 443, 446, 447, 448, 449, 450, 453, 454]
def as7 : List Addr := [455, 458, 459, 460, 461, 462, 465, 466, 467, 468, 469, 472, 473, 474, 477, 478, 479, 480, 481, 484, 485, 486, 487, 488, 491, 492, 493, 496, 497, 498, 499, 500, 503, 504, 505, 506, 507, 510, 511, 512]
def as8 : List Addr := [515, 516, 517, 518, 519, 522, 523, 524, 525, 526, 529, 530, 531, 534, 535, 536, 539, 540, 541, 542, 543, 546, 547, 548, 551, 552, 553, 556, 557, 558, 561, 562, 563, 564, 565, 568, 569, 570, 571, 572]
def as9 : List Addr := [575, 576, 577, 580, 581, 582, 585, 586, 587, 590, 591, 592, 595, 596, 597, 600, 601, 602, 605, 606, 607, 610, 611, 612, 615, 616, 617, 620, 621, 622, 625, 626, 627, 630, 631, 632, 635, 636, 637, 640]
def as10 : List Addr := [641, 642, 42, 31, 63, 52, 84, 73, 223, 230, 237, 258, 335, 342, 363, 399, 406, 413, 434, 37, 38, 39, 40, 41, 58, 59, 60, 61, 62, 79, 80, 81, 82, 83, 218, 219, 220, 221, 222, 225]
def as11 : List Addr := [226, 227, 228, 229, 232, 233, 234, 235, 236, 253, 254, 255, 256, 257, 332, 333, 334, 337, 338, 339, 340, 341, 358, 359, 360, 361, 362, 394, 395, 396, 397, 398, 401, 402, 403, 404, 405, 408, 409, 410]
def as12 : List Addr := [411, 412, 429, 430, 431, 432, 433]
def asL : List Addr := as0 ++ as1 ++ as2 ++ as3 ++ as4 ++ as5 ++ as6 ++ as7 ++ as8 ++ as9 ++ as10 ++ as11 ++ as12
def obXG (_ : Nat) (g : Addr → Option Obj) : AlX := obX (He.frG g asL)
def hkX (n : Nat) : PySem.W.Hook where
  α := AlX
  obs := fun st => obXG n st.heap.get?
  val := fun _ => vaX
  says := fun _ hp => ∃ K : PySem.W.Frag, K.In hp ∧ obX K = vaX
  of := fun _ _ eqn => ⟨_, He.frG_in, eqn⟩
  keeps := fun _ _ _ ⟨K, kin, cc⟩ kp => ⟨K, PySem.W.Frag.In.keeps kin kp, cc⟩
abbrev R : PySem.W.OpenRow := PySem.W.OpenLaw.row PySem.Challenge.rw_mapwebs_k33_whole_bars_of_pictures_of_li
abbrev hk : PySem.W.Hook := hkX 5
def ob (st : PySem.W.SharedT) : AlX := obXG 5 (HandSHeadRun.getT st)
theorem ob_eq (st : PySem.W.SharedT) : ob st = hk.obs st.abs := by
  have e : HandSHeadRun.getT st = st.abs.heap.get? := funext (HandSHeadRun.getT_eq st)
  show obXG 5 (HandSHeadRun.getT st) = obXG 5 st.abs.heap.get?
  rw [e]
/- parts -/
def nm0 : List PySem.Str := ["__name__", "WebError", "BadTable", "BadWeb", "BadPicture", "NoPrime", "NoPictures", "NoBases", "NoWord", "NoLine", "NoStretch", "PRIMES", "is_integer", "is_within", "is_number", "is_prime", "check_prime", "inverse_of", "MOST", "is_column", "Table", "RawTable", "led_on", "columns_of", "columns_table", "raw_times", "raw_plain", "raw_nought", "raw_corner", "less"]
def nm1 : List PySem.Str := ["cleared", "reduced_rows", "kernel", "undone", "MOST_PLACES", "MOST_ARROWS", "FORWARD", "BACKWARD", "Web", "RawWeb", "line", "MOST_SIZE", "MOST_BESIDE", "are_sizes", "is_fit_table", "Picture", "RawPicture", "raw_beside", "is_picture_of", "beside", "raw_based", "based", "is_line", "check_line", "check_stretch", "raw_bar", "bar_of", "starts_on", "unit_led", "lost_rows"]
def nm2 : List PySem.Str := ["meeting_rows", "raw_reach", "stretches", "count_of", "raw_bars", "bars", "_law_purse", "_law_part", "_law_one", "_law_spanned", "_law_less", "_law_lost_columns", "_law_rows", "_law_picture", "_law_base", "_law_rebased", "_law_line", "_law_stretches", "_law_pairs", "_law_reach", "_law_bars", "_law_are_just"]
def nms : List PySem.Str := nm0 ++ nm1 ++ nm2
theorem run (w : World) : HandSHeadRun.RunEq R (PySem.W.view R.prog [88]) hk ob 20000 nms w := by
  intro os
  kernel_rfl
end K33H
namespace K33
open PySem PySem.Spec PyProof.Rows L2
/-! ### the readings used, by short names -/
abbrev rAddI : R2 := rI0 fun i j => .int (i + j)
abbrev rSubI : R2 := rI0 fun i j => .int (i - j)
abbrev rMulI : R2 := rI CMul fun i j => .int (i * j)
abbrev rModI : R2 := rI (fun _ j => 0 < j) fun i j => .int (i % j)
abbrev rFdvI : R2 := rI CDiv fun i j => .int (i / j)
abbrev rPowI : R2 := rI CPow fun i j => .int (i ^ j.toNat)
abbrev rNegI : V → Hp → VK → Prop := rU fun i => .int (-i)
abbrev rLtI : R2 := rI0 fun i j => .bl (decide (i < j))
abbrev rLeI : R2 := rI0 fun i j => .bl (decide (i ≤ j))
abbrev rGtI : R2 := rI0 fun i j => .bl (decide (j < i))
abbrev rGeI : R2 := rI0 fun i j => .bl (decide (j ≤ i))
abbrev rAddS : R2 := fun x y H Q => ∃ i j, x = .str i ∧ y = .str j ∧ i.length + j.length ≤ sizeLine ∧ Q (.str (i ++ j)) H
abbrev rSign : R2 := fun x y H Q => ∃ (c : Nat) (z : Str), x = .str ⟨#[c]⟩ ∧ y = .str z ∧ Q (.bl (decide (c ∈ z.cps.toList))) H
abbrev rIsNo : R2 := fun x y H Q => y = .non ∧ Q (.bl (decide (x = .non))) H
abbrev rTupOf (K : PySem.W.Frag) : List V → Hp → VK → Prop := fun xs H Q => ∃ p ys, xs = [.ref p] ∧ ((SqL K H p ys ∧ ∀ l, H l = none → Q (.ref l) (upd H l (.tup ys))) ∨ (SqT K H p ys ∧ Q (.ref p) H))
abbrev rLstOf (K : PySem.W.Frag) : List V → Hp → VK → Prop := fun xs H Q => ∃ p ys, xs = [.ref p] ∧ (SqL K H p ys ∨ SqT K H p ys) ∧ ∀ l, H l = none → Q (.ref l) (upd H l (.lst ys))
abbrev rLenS (K : PySem.W.Frag) : List V → Hp → VK → Prop := fun xs H Q => ∃ p ys, xs = [.ref p] ∧ (SqL K H p ys ∨ SqT K H p ys) ∧ Q (.int ys.length) H
abbrev rLenZ : List V → Hp → VK → Prop := fun xs H Q => ∃ z, xs = [.str z] ∧ z.length ≤ sizeLine ∧ Q (.int z.length) H
abbrev rAbsI : List V → Hp → VK → Prop := fun xs H Q => ∃ i, xs = [.int i] ∧ Q (.int (if i < 0 then -i else i)) H
abbrev rIntOf : List V → Hp → VK → Prop := fun xs H Q => (∃ i, xs = [.int i] ∧ Q (.int i) H) ∨ ∃ k, xs = [.bl k] ∧ Q (.int (if k then 1 else 0)) H
abbrev rJoin (K : PySem.W.Frag) : V → List V → Hp → VK → Prop := fun x xs H Q => ∃ a p, ∃ ys : List Str, x = .str a ∧ xs = [.ref p] ∧ (SqL K H p (ys.map V.str) ∨ SqT K H p (ys.map V.str)) ∧
      (ys.map (·.length)).sum + ys.length * a.length ≤ 16777216 ∧ Q (.str (Txt.join a ys)) H
/-! ### what a caller leans on -/
/-- a def of the module, with its promise -/
structure Cal (P : Program) (w : World) (K : PySem.W.Frag) (mg : Str → Option Value) (base : Heap) (j : Nat) (x : Str) (ps : List Str) (sp : Sp) : Prop where
  ex : ∃ (f : Addr) (fd : FuncData), FnOk P w K mg base CX0 j f fd ps sp ∧ mg x = some (.ref f) ∧ PySem.W.keepIn K (.ref f) = true ∧ Binds K fd ps []
/-- a class of the module with its __init__ -/
structure Mak (P : Program) (w : World) (K : PySem.W.Frag) (mg : Str → Option Value) (base : Heap) (j : Nat) (x : Str) (ps : List Str) (C : Addr) (sp : Sp) : Prop where
  ex : ∃ (f : Addr) (fd : FuncData), FnOk P w K mg base CX0 j f fd ps sp ∧ mg x = some (.ref C) ∧ Mk K C f ∧ Binds K fd ps []
/-- a method of the class at C -/
structure Met (P : Program) (w : World) (K : PySem.W.Frag) (mg : Str → Option Value) (base : Heap) (j : Nat) (C : Addr) (m : Str) (ps : List Str) (sp : Sp) : Prop where
  ex : ∃ (f : Addr) (fd : FuncData), FnOk P w K mg base CX0 j f fd ps sp ∧ Cls K C ∧ Meth K C m f ∧ Binds K fd ps []
section
variable {X : Cx} {j k : Nat} {x : Str} {ps : List Str} {sp : Sp} {p pos : Pos} {e : Expr} {es : List Expr} {t : TA}
theorem pe_cal (G : Cal X.prog X.w X.K X.mg X.base j x ps sp) (hr : Room k X.A) (ha : PA X (e :: es) t) (hg : Gl X x := by rfl) (hjk : j ≤ k := by decide) (hdb : (x == ("__debug__" : Str)) = false := by decide)
    (he : starEach (e :: es) X.env = (false, eval e X.env) :: starEach es X.env := by rfl) (hpl : (backTo pos (starEach es X.env)).any (·.1) = false := by rfl) : PE X (.Call (.Name x p) (e :: es) [] pos) (tCall sp [] E0 t) := by
  obtain ⟨f, fd, F, hm, hk, hb⟩ := G.ex
  exact pe_call F (hr.mono hjk) hg hm hk hb .nil pass0 ha hdb he hpl
theorem pe_mak {C : Addr} (G : Mak X.prog X.w X.K X.mg X.base j x ps C sp) (hr : Room k X.A) (ha : PA X (e :: es) t) (hg : Gl X x := by rfl) (hjk : j + 1 ≤ k := by decide) (hdb : (x == ("__debug__" : Str)) = false := by decide)
    (he : starEach (e :: es) X.env = (false, eval e X.env) :: starEach es X.env := by rfl) (hpl : (backTo pos (starEach es X.env)).any (·.1) = false := by rfl) : PE X (.Call (.Name x p) (e :: es) [] pos) (tMake C sp [] E0 t) := by
  obtain ⟨f, fd, F, hm, M, hb⟩ := G.ex
  exact pe_make M F (hr.mono hjk) hg hm hb .nil pass0 ha hdb he hpl
theorem pe_met {C : Addr} {m : Str} {o : Expr} {ta : TE} {apos : Pos} {pl : Sem Bool} (G : Met X.prog X.w X.K X.mg X.base j C m ps sp) (hr : Room k X.A) (ho : PE X o ta) (ha : PA X (e :: es) t) (hjk : j ≤ k := by decide)
    (hst : starEach (e :: es) X.env = (false, eval e X.env) :: starEach es X.env := by rfl) (hpl : (backTo pos (starEach es X.env)).any (·.1) = false := by rfl)
    (ht : eval (.Call (.Attribute o m apos) (e :: es) [] pos) X.env = (do
      let ov ← eval o X.env
      standAt apos.atName
      let (f, first) ← holding [ov] (getMethod ov m pl)
      callWith pos f first (backTo pos (starEach (e :: es) X.env)) (backToKw pos (keywordEach [] X.env))) := by rfl) : PE X (.Call (.Attribute o m apos) (e :: es) [] pos) (tMeth C m sp [] E0 ta t) := by
  obtain ⟨f, fd, F, c, hm, hb⟩ := G.ex
  exact pe_meth ho c hm F (hr.mono hjk) hb .nil pass0 ha hst hpl ht
/-- constants of the module -/
theorem pe_gi {i : Int} (hm : ∃ t, X.mg x = some (.int i t)) (hg : Gl X x := by rfl) (hdb : (x == ("__debug__" : Str)) = false := by decide) : PE X (.Name x p) (tC (.int i)) := by
  obtain ⟨t, h⟩ := hm
  exact pe_glob hg h ⟨t, rfl⟩ hdb
theorem pe_gz {z : Str} (hm : ∃ t, X.mg x = some (.str z t)) (hg : Gl X x := by rfl) (hdb : (x == ("__debug__" : Str)) = false := by decide) : PE X (.Name x p) (tC (.str z)) := by
  obtain ⟨t, h⟩ := hm
  exact pe_glob hg h ⟨t, rfl⟩ hdb
theorem pe_ga {a : Addr} (hm : X.mg x = some (.ref a)) (hg : Gl X x := by rfl) (hdb : (x == ("__debug__" : Str)) = false := by decide) : PE X (.Name x p) (tC (.ref a)) := pe_glob hg hm rfl hdb
end
/-! ### further rules -/
def rRepA (K : PySem.W.Frag) : R2 := fun x y H Q => ∃ l k xs, x = .ref l ∧ y = .int k ∧ SqT K H l xs ∧ xs ≠ [] ∧ 0 ≤ k ∧ k ≤ 1000 ∧ xs.length ≤ 1000 ∧ ∀ p H', Same H H' → SqT K H' p (List.replicate k.toNat xs).flatten → Q (.ref p) H'
def rInT (K : PySem.W.Frag) : R2 := fun x y H Q => ∃ d es, Dp K H x d ∧ Dp K H y (.tuple es) ∧ SeqAt.shaped d = true ∧ SeqAt.shaped (.tuple es) = true ∧ Q (.bl (es.any fun z => PyData.eqv z d)) H
def rRemD (K : PySem.W.Frag) : V → List V → Hp → VK → Prop := fun x vs H Q => ∃ (l : Addr) (xs : List V) (y : V) (d : PyData) (ds : List PyData) (j : Nat) (z : PyData), x = V.ref l ∧ vs = [y] ∧ H l = some (.lst xs) ∧ DpAll K H xs ds ∧ Dp K H y d ∧ SeqAt.shaped (.list ds) = true ∧ SeqAt.shaped d = true ∧
  ds[j]? = some z ∧ PyData.eqv z d = true ∧ (∀ (m : Nat) z', m < j → ds[m]? = some z' → PyData.eqv z' d = false) ∧ Q .non (upd H l (.lst (xs.eraseIdx j)))
def rSortKT (K : PySem.W.Frag) : List V → Hp → VK → Prop := fun vs H Q => ∃ (d : Addr) (kvs : List (List Key × V)) (ks : List (Int × Int)) (B : Int), vs = [.ref d] ∧ H d = some (.dT kvs) ∧ kvs.length < 64 ∧ kvs.map (·.1) = ks.map (fun q => [Sum.inl q.1, Sum.inl q.2]) ∧
  (∀ q ∈ ks, 0 ≤ q.1 ∧ q.1 < B ∧ 0 ≤ q.2 ∧ q.2 < B) ∧ ∀ (ks' : List (Int × Int)) (bs : List Addr) (p : Addr) (H' : Hp), ks'.Perm ks → ks'.Pairwise (fun a b => a.1 < b.1 ∨ (a.1 = b.1 ∧ a.2 ≤ b.2)) → Same H H' → H p = none → H' p = some (.lst (bs.map V.ref)) →
  Paired (fun b q => H' b = some (.tup [.int q.1, .int q.2])) bs ks' → Q (.ref p) H'
def rDictPT (K : PySem.W.Frag) : List V → Hp → VK → Prop := fun vs H Q => ∃ (a : Addr) (ps : List Addr) (kvs : List (List Key × V)), vs = [.ref a] ∧ SqL K H a (ps.map V.ref) ∧ (kvs.map (·.1)).Nodup ∧ ps.length < sizeLine ∧
  Paired (fun p kv => ∃ b, H p = some (.tup [.ref b, kv.2]) ∧ H b = some (.tup (kv.1.map kV))) ps kvs ∧ ∀ p, H p = none → Q (.ref p) (upd H p (.dT kvs))
def tDcT (wi : TI) (g : TG) (tt : TT) (tk tv : TE) (vs : List Nat) : TE := fun σ H Q => wi σ H fun J H1 => ∀ D, H1 D = none → ∃ W : Nat → Nat → Hp → Prop, (∃ m, W 0 m (upd H1 D (.dT []))) ∧ ∀ i m H, W i m H →
  (J.stop i H ∧ Q (.ref D) H) ∨ (J.go i H ∧ ∃ Nx : Hp → Prop, (∀ H', Nx H' → ∃ m', m' < m ∧ W (i + 1) m' H') ∧ ∀ x H', J.yld i H x H' → g x (wipe σ vs) H' fun σ2 H2 => wipe σ2 vs = wipe σ vs ∧ tt σ2 H2 fun b H3 =>
    if b = true then tk σ2 H3 fun y H4 => tv σ2 H4 fun z H5 => ∃ kvs k b, y = .ref b ∧ H5 D = some (.dT kvs) ∧ H5 b = some (.tup (k.map kV)) ∧ kvs.length < sizeLine ∧ Nx (upd H5 D (.dT (putK kvs k z))) else Nx H3)
/-- the tuple at a as it stands at each turn, each item in a new pair -/
def IteT (K : PySem.W.Frag) (a : Addr) : It :=
  ⟨fun i H => ∃ (xs : List V) (x : V), SqT K H a xs ∧ xs[i]? = some x, fun i H v H' => ∃ T x, v = .ref T ∧ H T = none ∧ H' = upd H T (.tup [.int (i : Nat), x]) ∧ ∀ xs, SqT K H a xs → xs[i]? = some x, fun i H => ∃ xs : List V, SqT K H a xs ∧ xs.length = i⟩
def iEnumT (K : PySem.W.Frag) (ta : TA) : TI := fun σ H R => ta σ H fun vs H1 => ∃ a xs, vs = [.ref a] ∧ SqT K H1 a xs ∧ R (IteT K a) H1
/-- a text's signs, each in a new pair -/
def IteS (z : Str) : It :=
  ⟨fun i _ => i < z.cps.size, fun i H v H' => ∃ T c, v = .ref T ∧ H T = none ∧ H' = upd H T (.tup [.int (i : Nat), .str ⟨#[c]⟩]) ∧ z.cps[i]? = some c, fun i _ => z.cps.size = i⟩
def iEnumS (ta : TA) : TI := fun σ H R => ta σ H fun vs H1 => ∃ z, vs = [.str z] ∧ z.length ≤ sizeLine ∧ R (IteS z) H1
/-- a list and a tuple side by side -/
def ItzLT (K : PySem.W.Frag) (a b : Addr) (xs ys : List V) : It :=
  ⟨fun i H => SqL K H a xs ∧ SqT K H b ys ∧ ∃ x y, xs[i]? = some x ∧ ys[i]? = some y,
    fun i H v H' => ∃ T x y, v = .ref T ∧ H T = none ∧ H' = upd H T (.tup [x, y]) ∧ xs[i]? = some x ∧ ys[i]? = some y,
    fun i H => SqL K H a xs ∧ SqT K H b ys ∧ i ≤ xs.length ∧ i ≤ ys.length ∧ (i = xs.length ∨ i = ys.length)⟩
def iZipLT (K : PySem.W.Frag) (ta : TA) : TI := fun σ H R => ta σ H fun vs H1 => ∃ a b xs ys, vs = [.ref a, .ref b] ∧ SqL K H1 a xs ∧ SqT K H1 b ys ∧ R (ItzLT K a b xs ys) H1
/-- a list or a tuple, walked -/
def iSeq (K : PySem.W.Frag) (te : TE) : TI := fun σ H R => te σ H fun x H1 => ∃ a, x = .ref a ∧ (((∃ xs, SqL K H1 a xs) ∧ R (Itl K a) H1) ∨ ((∃ xs, SqT K H1 a xs) ∧ R (Itt K a) H1))
/-- o[lo:hi] = e, both a list -/
def sSlc (te to tl th : TE) : TS := fun D σ H => te σ H fun v H1 => to σ H1 fun x H2 => tl σ H2 fun l H3 => th σ H3 fun u H4 => ∃ (p b : Addr) (xs ys : List V) (i j : Nat), x = .ref p ∧ v = .ref b ∧ l = .int i ∧ u = .int j ∧ H4 p = some (.lst xs) ∧ H4 b = some (.lst ys) ∧ p ≠ b ∧
  i ≤ j ∧ j ≤ xs.length ∧ xs.length + ys.length ≤ 1000 ∧ D.nx σ (upd H4 p (.lst (xs.take i ++ ys ++ xs.drop j)))
section
variable {X : Cx}
theorem pi_seq {tg l : Expr} {tl : TE} (hl : PE X l tl) : PI X tg l (iSeq X.K tl) := by
  refine ⟨fun pins s σ H R I h => ?_⟩
  refine thn (hl.run pins s σ H _ I h) fun v s1 ⟨x, H1, I1, r1, q1⟩ => ?_
  obtain ⟨a, e, q1⟩ := q1
  subst e
  cases r1
  rcases q1 with ⟨⟨xs, hq⟩, q⟩ | ⟨⟨xs, hq⟩, q⟩
  · obtain ⟨its, rv, p, hz⟩ := I1.list hq
    refine wpAny_pyIter_list p.isList ?_
    refine ⟨s1.heap.objs.size, [s1.heap.objs.size], _, _, H1, rfl, I1.kept (t' := s1.toks) fun b o e => Heap.get?_push_of_some _ e, turn_list a _, ⟨_, Heap.get?_push_size _ rfl, rfl, rfl⟩, fun b hb => ?_, q⟩
    have e : b = s1.heap.objs.size := by simpa using hb
    subst e
    exact I1.fpOk (Nat.le_refl _) (I1.hok.fresh (Nat.le_refl _))
  · obtain ⟨its, rv, p, hz⟩ := I1.tuple hq
    refine wpAny_pyIter_tuple (show s1.heap.IsTuple a its.toArray from p) ?_
    refine ⟨s1.heap.objs.size, [s1.heap.objs.size], _, _, H1, rfl, I1.kept (t' := s1.toks) fun b o e => Heap.get?_push_of_some _ e, turn_tuple a _, ⟨_, Heap.get?_push_size _ rfl, rfl, rfl⟩, fun b hb => ?_, q⟩
    have e : b = s1.heap.objs.size := by simpa using hb
    subst e
    exact I1.fpOk (Nat.le_refl _) (I1.hok.fresh (Nat.le_refl _))
theorem op_inT (hu : X.A.units + 65 < cLine) : OpR X (compareOp .In) (rInT X.K) := by
  intro pins s σ H x y v u Q I rx ry h
  obtain ⟨d, ds, hd, he, sd, se, q⟩ := h
  obtain ⟨as, r1⟩ := Dp.reads I d x v hd rx
  obtain ⟨bs, r2⟩ := Dp.reads I (.tuple ds) y u he ry
  exact SeqAt.in_tuple_reads r2 r1 (SeqAt.canLay_of_shaped se) (SeqAt.canLay_of_shaped sd) (room_in_shaped sd hu) ⟨.bl _, H, I, rfl, q⟩
end
theorem tuple_mul1 (l : Addr) (items : Array Value) (n : Nat) (dd : Option Addr) (sl : Array (Option Value)) (u : Tok) :
    Meets (Builtin.«tuple.__mul__» ⟨[.ref l, .int 1 u], []⟩) (fun _ R s => s.heap.get? l = some { cls := .type "tuple", dict := dd, data := .seq items n, slots := sl } ∧ R (.ok (.ret (Value.ref l))) s) :=
  .of_wp fun prog w A R s h => by
    obtain ⟨hp, g, d, tk, os⟩ := s
    obtain ⟨hl, h⟩ := h
    have f1 := AutoSeq1.idx_int
    have c0 : (decide ((1 : Int) < -(2 ^ 63)) || decide ((1 : Int) ≥ 2 ^ 63)) = false := by decide
    have c1 : (items.isEmpty || (1 : Int) == 1) = true := by rw [show ((1 : Int) == 1) = true from rfl, Bool.or_true]
    wp_walk using wpAny_loadPart' hl
    repeat (first
      | (refine wpAny_ite_false (decide_eq_false (by rw [c0]; exact Bool.false_ne_true)) ?_; wp_walk using wpAny_loadPart' hl)
      | (refine wpAny_ite_true (decide_eq_true (by rw [c1])) ?_; wp_walk using wpAny_loadPart' hl))
    exact ⟨_, rfl, h⟩
theorem tuple_mul0 (l : Addr) (items : Array Value) (n : Nat) (dd : Option Addr) (sl : Array (Option Value)) (u : Tok) (hi : items.isEmpty = false) :
    Meets (Builtin.«tuple.__mul__» ⟨[.ref l, .int 0 u], []⟩) (fun _ R s => s.heap.get? l = some { cls := .type "tuple", dict := dd, data := .seq items n, slots := sl } ∧
      R (.ok (.ret (Value.ref s.heap.objs.size))) { s with heap := s.heap.push { cls := Value.type "tuple", data := Data.seq #[] }, toks := s.toks }) :=
  .of_wp fun prog w A R s h => by
    obtain ⟨hp, g, d, tk, os⟩ := s
    obtain ⟨hl, h⟩ := h
    have f1 := AutoSeq1.idx_int
    have c0 : (decide ((0 : Int) < -(2 ^ 63)) || decide ((0 : Int) ≥ 2 ^ 63)) = false := by decide
    have c1 : (items.isEmpty || (0 : Int) == 1) = false := by rw [hi]; rfl
    have c2 : (decide ((0 : Int) ≤ 0) || items.isEmpty) = true := by rw [show decide ((0 : Int) ≤ 0) = true from rfl, Bool.true_or]
    wp_walk using wpAny_loadPart' hl
    repeat (first
      | (refine wpAny_ite_false (decide_eq_false (by rw [c0]; exact Bool.false_ne_true)) ?_; wp_walk using wpAny_loadPart' hl)
      | (refine wpAny_ite_false (decide_eq_false (by rw [c1]; exact Bool.false_ne_true)) ?_; wp_walk using wpAny_loadPart' hl)
      | (refine wpAny_ite_true (decide_eq_true (by rw [c2])) ?_; wp_walk using wpAny_loadPart' hl))
    exact ⟨_, rfl, h⟩
section
variable {X : Cx}
theorem same_upd {H : Hp} {p : Addr} {o : HO} (h : H p = none) : Same H (upd H p o) := fun b u e => by rw [upd_ne (ne_of_none e h)]; exact e
theorem op_repA : OpR X (binaryOp .Mult) (rRepA X.K) := by
  intro pins s σ H x y v u Q I rx ry h
  obtain ⟨l, k, xs, rfl, rfl, hT, hne, h1, h2, hz, q⟩ := h
  by_cases k2 : 2 ≤ k
  · exact op_repT pins s σ H _ _ v u Q I rx ry ⟨l, k, xs, rfl, rfl, hT, hne, k2, h2, hz, fun p hp => q p _ (same_upd hp) (SqT.of upd_same)⟩
  cases rx
  obtain ⟨t, rfl⟩ := ry
  obtain ⟨its, r, ⟨⟨cls, dd, data, sl⟩, ho, hc, n, hd⟩, hs⟩ := I.tuple hT
  simp only at hc hd
  subst hc hd
  have hle : its.length = xs.length := r.length.symm
  have hn : its ≠ [] := fun e => hne (by
    rw [e] at hle
    exact List.eq_nil_of_length_eq_zero hle.symm)
  have hi : its.toArray.isEmpty = false := by
    cases its with
    | nil => exact absurd rfl hn
    | cons a b => rfl
  have hk : k = 0 ∨ k = 1 := by omega
  rcases hk with rfl | rfl
  · refine wpAny_binaryOp_repeat_ref (T := "tuple") (U := "int") (by decide) ⟨_, ho, rfl⟩ (fun s' => typeIs_int s' 0 t) noFill_tuple_mul F.fills_int_mul F.slot_int_rmul repeat_tuple F.slot_int_index.lookup
      (call_meets F.slot_int_rmul (typeIs_int s 0 t) F.entry_int_rmul (F.args_int_rmul_2 _ _) (int_rmul_tuple 0 t l its.toArray n dd sl)
        ⟨ho, rfl, ⟨_, ho, rfl⟩, call_meets F.slot_tuple_mul ⟨_, ho, rfl⟩ F.entry_tuple_mul (F.args_tuple_mul_2 _ _) (tuple_mul0 l its.toArray n dd sl t hi) ⟨ho, ?_⟩⟩)
    refine ⟨.ref s.heap.objs.size, _, I.laid (t' := s.toks) (o := .tup []) (fun b ob q => Heap.get?_push_of_some _ q) (Nat.le_refl _) ⟨Nat.zero_le _, [], .nil, IsTup.new _ _⟩, rfl, q _ _ (same_upd (I.hok.fresh (Nat.le_refl _))) (SqT.of upd_same)⟩
  · refine wpAny_binaryOp_repeat_ref (T := "tuple") (U := "int") (by decide) ⟨_, ho, rfl⟩ (fun s' => typeIs_int s' 1 t) noFill_tuple_mul F.fills_int_mul F.slot_int_rmul repeat_tuple F.slot_int_index.lookup
      (call_meets F.slot_int_rmul (typeIs_int s 1 t) F.entry_int_rmul (F.args_int_rmul_2 _ _) (int_rmul_tuple 1 t l its.toArray n dd sl)
        ⟨ho, rfl, ⟨_, ho, rfl⟩, call_meets F.slot_tuple_mul ⟨_, ho, rfl⟩ F.entry_tuple_mul (F.args_tuple_mul_2 _ _) (tuple_mul1 l its.toArray n dd sl t) ⟨ho, ?_⟩⟩)
    refine ⟨.ref l, H, I, rfl, q _ _ (fun b o e => e) ?_⟩
    rw [show (List.replicate (1 : Int).toNat xs).flatten = xs by show (List.replicate 1 xs).flatten = xs; simp]
    exact hT
end
section
variable {X : Cx}
/-- o[lo:hi] as a target -/
def gSlc (to tl th : TE) : TG := fun v σ H Q => to σ H fun x H2 => tl σ H2 fun l H3 => th σ H3 fun u H4 => ∃ (p b : Addr) (xs ys : List V) (i j : Nat), x = .ref p ∧ v = .ref b ∧ l = .int i ∧ u = .int j ∧ H4 p = some (.lst xs) ∧ H4 b = some (.lst ys) ∧ p ≠ b ∧
  i ≤ j ∧ j ≤ xs.length ∧ xs.length + ys.length ≤ 1000 ∧ Q σ (upd H4 p (.lst (xs.take i ++ ys ++ xs.drop j)))
theorem pg_slc {o lo hi : Expr} {to tl th : TE} {p2 p3 : Pos} (ho : PE X o to) (hl : PE X lo tl) (hh : PE X hi th)
    (ha : ∀ v, assign (.Subscript o (.Slice (some lo) (some hi) none p2) p3) X.env v = (do
      let ov ← holding [v] (eval o X.env)
      let iv ← holding [v, ov] (eval (.Slice (some lo) (some hi) none p2) X.env)
      standAt p3
      holding [v, ov, iv] (setItem ov iv v)
      release [iv, v, ov] []) := by intro _; rfl) : PG X (.Subscript o (.Slice (some lo) (some hi) none p2) p3) (gSlc to tl th) := by
  refine ⟨fun pins s σ H v u Q I r h => ?_⟩
  rw [ha]
  refine wpAny_bind (wpAny_holding (thn (ho.run pins s σ H _ I h) fun ov s1 ⟨x, H1, I1, r1, q1⟩ => ?_))
  refine wpAny_bind (wpAny_holding (wpAny_Slice ?_))
  rw [evalPart_some, evalPart_some]
  refine thn (hl.run pins s1 σ H1 _ I1 q1) fun vl s2 ⟨l, H2, I2, rl, q2⟩ => ?_
  refine thn (hh.run pins s2 σ H2 _ I2 q2) fun vu s3 ⟨w, H3, I3, ru, q3⟩ => ?_
  rw [evalPart_none]
  refine wpAny_pure ?_
  obtain ⟨p, b, xs, ys, i, j, rfl, rfl, rfl, rfl, h1, h2, hne, hij, hj, hz, q⟩ := q3
  cases r1
  cases r
  have I4 : Inv X pins σ H3 { s3 with heap := s3.heap.push { cls := .type "slice", data := .fields #[vl, vu, .none] } } := I3.kept (t' := s3.toks) fun b ob q => Heap.get?_push_of_some _ q
  refine wpAny_bind (wpAny_standAt (wpAny_bind (wpAny_holding ?_)))
  refine set_slice I4 h1 h2 hne (Heap.IsSliceOf.new ..) rl ru (by omega) (by omega) (by omega) (Nat.le_trans hz (by decide)) fun s' I5 => ?_
  rw [Int.toNat_natCast, Int.toNat_natCast] at I5
  exact wpAny_release ⟨σ, _, I5, q⟩
theorem ps_slc {e o lo hi : Expr} {te to tl th : TE} {p2 p3 pos : Pos} (he : PE X e te) (ho : PE X o to) (hl : PE X lo tl) (hh : PE X hi th)
    (hs : swapsWithSole [.Subscript o (.Slice (some lo) (some hi) none p2) p3] e pos.line X.env = pure false := by rfl) (hw : swappedStores [.Subscript o (.Slice (some lo) (some hi) none p2) p3] e X.env = pure none := by rfl)
    (h1 : (assignEach [.Subscript o (.Slice (some lo) (some hi) none p2) p3] X.env).map (·.2) = [assign (.Subscript o (.Slice (some lo) (some hi) none p2) p3) X.env] := by rfl)
    (ha : ∀ v, assign (.Subscript o (.Slice (some lo) (some hi) none p2) p3) X.env v = (do
      let ov ← holding [v] (eval o X.env)
      let iv ← holding [v, ov] (eval (.Slice (some lo) (some hi) none p2) X.env)
      standAt p3
      holding [v, ov, iv] (setItem ov iv v)
      release [iv, v, ov] []) := by intro _; rfl) : PS X (.Assign [.Subscript o (.Slice (some lo) (some hi) none p2) p3] e pos) (sSlc te to tl th) :=
  ps_asg (g := gSlc to tl th) he (pg_slc ho hl hh ha) hs hw h1
end
section
/-- enumerate of anything whose iterator is known -/
theorem enum_new1 {v : Value} {o : Obj} {Hx : Heap → Prop} (B : PySem.Begins v o Hx) :
    Meets (Builtin.«enumerate.__new__» ⟨[.type "enumerate", v], []⟩) (fun _ R s => Hx s.heap ∧
      R (.ok (.ret (.ref (s.heap.push o).objs.size))) { s with heap := (s.heap.push o).push { cls := .type "enumerate", data := .fields #[.none, .bool false, .ref s.heap.objs.size, rawInt 0, .none, .none] } }) :=
  .of_wp fun prog w A R s hx => by
    obtain ⟨hp, g, d, tk, os⟩ := s
    obtain ⟨h1, hx⟩ := hx
    have hsub := sub_enumerate
    have q1 : ∀ {A' : Around} {E Q : Value → Shared → Prop}, Q (.ref hp.objs.size) ⟨hp.push o, g, d, tk, os⟩ → wpAny (model prog w) A' (pyIter v) Q E ⟨hp, g, d, tk, os⟩ := fun q => B.iter prog w _ _ ⟨hp, g, d, tk, os⟩ _ h1 q
    wp_walk using q1
    refine wpAny_stack_any fun st => wpAny_pure ?_
    split
    · rename_i c _ _ _ _ _
      cases (c == Value.type "enumerate") <;> (wp_walk using q1; exact ⟨_, rfl, hx⟩)
    · wp_walk using q1
      exact ⟨_, rfl, hx⟩
variable {prog : Program} {w : World} {A : Around} {E : Value → Shared → Prop} {s : Shared}
theorem enum_call1 {v : Value} {o : Obj} {Hx : Heap → Prop} {Q : Value → Shared → Prop} (B : PySem.Begins v o Hx) (h1 : Hx s.heap)
    (h : ∀ h', IsEnum h' (s.heap.objs.size + 1) s.heap.objs.size 0 .none → h'.get? s.heap.objs.size = some o → (∀ b u, s.heap.get? b = some u → h'.get? b = some u) → Q (.ref (s.heap.objs.size + 1)) { s with heap := h' }) :
    wpAny (model prog w) A (call (.type "enumerate") [v]) Q E s := by
  refine callType_new F.called_enumerate (by decide) (F.typeCall_enumerate_1 _) (F.newCall_enumerate_1 _) (fun obj => F.args_object_init_2 obj _) F.entry_enumerate_new (enum_new1 B) ⟨h1, ?_⟩
  have hz : (s.heap.push o).objs.size = s.heap.objs.size + 1 := Heap.size_push ..
  show _ ∧ _
  rw [hz]
  have he := Heap.get?_push_size (s.heap.push o) (o := { cls := .type "enumerate", data := .fields #[.none, .bool false, .ref s.heap.objs.size, rawInt 0, .none, .none] }) rfl
  rw [hz] at he
  exact ⟨⟨_, he, rfl⟩, h _ he (Heap.get?_push_of_some _ (Heap.get?_push_size _ B.free)) fun b u x => Heap.get?_push_of_some _ (Heap.get?_push_of_some _ x)⟩
end
section
theorem apart_of {hp : Heap} {a b : Addr} {o1 o2 : Obj} (h1 : hp.get? a = some o1) (h2 : hp.get? b = some o2) (hc : o1.cls ≠ o2.cls) : a ≠ b := fun e => by
  subst e
  rw [h1] at h2
  cases h2
  exact hc rfl
theorem turn_enumT {Pg : Program} {w : World} {K : PySem.W.Frag} {elts : List Expr} {kk : Nat} {tpos : Pos} (a e it : Addr) :
    Turn Pg w K (.Tuple elts kk tpos) (IteT K a) [e, it] e (fun i h => (∃ old, IsEnum h e it ((i : Nat) : Int) old) ∧ h.IsTupleIter it a i ∧ e ≠ it) where
  mem := List.mem_cons_self ..
  obj := fun i h st b hb => by
    obtain ⟨⟨old, he⟩, ⟨ob, hob, _, hdt⟩, _⟩ := st
    rcases List.mem_cons.mp hb with rfl | hb
    · exact ⟨_, he, fun v z => nomatch z⟩
    · rw [List.mem_singleton.mp hb]
      exact ⟨ob, hob, fun v z => by rw [hdt] at z; cases z⟩
  keep := fun i h h' st k => ⟨⟨st.1.choose, k e (List.mem_cons_self ..) _ st.1.choose_spec⟩, st.2.1.at fun u z => k it (by simp) u z, st.2.2⟩
  item := by
    intro X hP hw hK hc i pins s σ H E I hf st hg
    subst hP hw hK
    obtain ⟨⟨old, he⟩, hit, hne⟩ := st
    obtain ⟨xs, x, hq, hx⟩ := hg
    obtain ⟨its, rv, pt, _⟩ := I.tuple hq
    obtain ⟨u, hu, ru⟩ := rv.get hx
    have pt0 := pt
    obtain ⟨ot, hot, hct, _⟩ := pt0
    have hit0 := hit
    obtain ⟨oi, hoi, hci, _⟩ := hit0
    have nea : e ≠ a := apart_of he hot (by rw [hct]; exact fun z => absurd (Value.type.inj z) (by decide))
    have nai : a ≠ it := apart_of hot hoi (by rw [hct, hci]; exact fun z => absurd (Value.type.inj z) (by decide))
    have lte : e < s.heap.objs.size := Heap.lt_size he
    have lti : it < s.heap.objs.size := Heap.lt_size hoi
    have hsz : i < its.toArray.size := by
      have := (List.getElem?_eq_some_iff.mp hu).1
      simpa using this
    refine wpAny_pyNext_enum_itemD (PySem.Draws.tuple (show X.A.in1.handled = none from I.ok.hd hc) it a nai its.toArray) he ⟨hit, pt⟩ hsz hne (by simp; exact ⟨hne, nea⟩) fun y h1 tk hy ho st1 hT _ hk => ?_
    have ey : y = u := by
      have hy : its.toArray[i]? = some y := hy
      rw [List.getElem?_toArray, hu] at hy
      exact (Option.some.inj hy).symm
    subst ey
    refine ⟨_, rfl, wpAny_letOwnedTupleGo_enum (s := { s with heap := h1, toks := tk + 1 }) ho fun h2 he2 sb => ?_⟩
    have hT2 := (sb.2 _ (Nat.ne_of_gt lte)).trans hT
    have I1 := I.turnedNew (t' := tk + 1) (h' := h2) (ch := [e, it]) (fun c ob hb z => (sb.2 c (fun v => hb (by simp [v]))).trans (hk c ob (fun v => hb (by simp [v])) (fun v => hb (by simp [v])) z)) hf (Nat.le_refl _)
      (show ObjOk X.prog X.w (upd H s.heap.objs.size (.tup [.int (i : Nat), x])) h2 s.heap.objs.size (.tup [.int (i : Nat), x]) from ⟨by show 2 ≤ sizeLine; decide, _, .cons ⟨_, rfl⟩ (.cons ru .nil), ⟨_, hT2, rfl, _, rfl⟩⟩)
    refine ⟨.ref s.heap.objs.size, _, I1, rfl, ⟨_, x, rfl, I.hok.fresh (Nat.le_refl _), rfl, fun zs hzs => by rw [I.tuple_inj hzs hq]; exact hx⟩, ⟨⟨y, ?_⟩, st1.1.at fun v z => (sb.2 it (Ne.symm hne)).trans z, hne⟩, fun c hcm => ?_⟩
    · rw [show ((i + 1 : Nat) : Int) = (i : Int) + 1 by omega]
      exact he2
    · have hlt : c < s.heap.objs.size := by
        rcases List.mem_cons.mp hcm with rfl | hcm
        · exact lte
        · rw [List.mem_singleton.mp hcm]
          exact lti
      rw [upd_ne (Nat.ne_of_lt hlt)]
      exact (hf c hcm).1
  done := by
    intro X hP hw hK hc i pins s σ H E I hf st hg
    subst hP hw hK
    obtain ⟨⟨old, he⟩, hit, hne⟩ := st
    obtain ⟨xs, hq, hx⟩ := hg
    obtain ⟨its, rv, pt, _⟩ := I.tuple hq
    have pt0 := pt
    obtain ⟨ot, hot, hct, _⟩ := pt0
    have hit0 := hit
    obtain ⟨oi, hoi, hci, _⟩ := hit0
    have nai : a ≠ it := apart_of hot hoi (by rw [hct, hci]; exact fun z => absurd (Value.type.inj z) (by decide))
    obtain ⟨f0, f1, f2, f3, f4, f5⟩ := hf it (by simp)
    have lv := rv.length
    have ei : its.toArray.size = i := by rw [List.size_toArray]; omega
    exact wpAny_pyNext_enum_endD (PySem.Draws.tuple (show X.A.in1.handled = none from I.ok.hd hc) it a nai its.toArray) he ⟨by rw [ei]; exact hit, pt⟩ fun h1 eb => ⟨rfl, I.turned (t' := s.toks) (fun b u hb z => eb b u hb z) f0 f1 f3 f4 f5⟩
  self := fun A i s Q E st h => by
    obtain ⟨⟨_, he⟩, _⟩ := st
    exact wpAny_pyIter_enum he h
theorem pi_enumT {X : Cx} {e : Expr} {ta : TA} {p pos tpos : Pos} {elts : List Expr} {kk : Nat} (hg : Gl X "enumerate") (hm : X.mg "enumerate" = none) (ha : PA X [e] ta) (hs : starEach [e] X.env = [(false, eval e X.env)] := by rfl) :
    PI X (.Tuple elts kk tpos) (.Call (.Name "enumerate" p) [e] [] pos) (iEnumT X.K ta) := by
  constructor
  intro pins s σ H R I h
  refine Call_ (ld_blt I hg hm boot_enumerate (PyProof.Rows.callWith_type1 (thn (ha.run pos pins s σ H _ I h) fun us s1 ⟨vs, H1, I1, r1, a, xs, ex, hq, q⟩ => ?_) hs rfl))
  subst ex
  obtain ⟨v1, rfl, r⟩ := r1.one
  cases r
  obtain ⟨its, rv, pt, _⟩ := I1.tuple hq
  refine enum_call1 (PySem.begins_tuple a its.toArray) pt fun h1 he hit hk => wpAny_pyIter_enum he ?_
  refine ⟨s1.heap.objs.size + 1, [s1.heap.objs.size + 1, s1.heap.objs.size], _, _, H1, rfl, I1.kept (t' := s1.toks) hk, turn_enumT a (s1.heap.objs.size + 1) s1.heap.objs.size, ⟨⟨.none, he⟩, ⟨_, hit, rfl, rfl⟩, Nat.succ_ne_self _⟩, fun b hb => ?_, q⟩
  have hle : s1.heap.objs.size ≤ b := by
    rcases List.mem_cons.mp hb with rfl | hb
    · exact Nat.le_add_right _ _
    · exact Nat.le_of_eq (List.mem_singleton.mp hb).symm
  exact I1.fpOk hle (I1.hok.fresh hle)
end
section
theorem turn_enumS {Pg : Program} {w : World} {K : PySem.W.Frag} {elts : List Expr} {kk : Nat} {tpos : Pos} (z : Str) (tz : Tok) (e it : Addr) :
    Turn Pg w K (.Tuple elts kk tpos) (IteS z) [e, it] e (fun i h => (∃ old, IsEnum h e it ((i : Nat) : Int) old) ∧ h.IsStrIter it (strIterType z) z tz i ∧ e ≠ it) where
  mem := List.mem_cons_self ..
  obj := fun i h st b hb => by
    obtain ⟨⟨old, he⟩, ⟨ob, hob, _, hdt⟩, _⟩ := st
    rcases List.mem_cons.mp hb with rfl | hb
    · exact ⟨_, he, fun v z => nomatch z⟩
    · rw [List.mem_singleton.mp hb]
      exact ⟨ob, hob, fun v z => by rw [hdt] at z; cases z⟩
  keep := fun i h h' st k => by
    obtain ⟨⟨old, he⟩, ⟨ob, hob, q1, q2⟩, ne⟩ := st
    exact ⟨⟨old, k e (List.mem_cons_self ..) _ he⟩, ⟨ob, k it (by simp) _ hob, q1, q2⟩, ne⟩
  item := by
    intro X hP hw hK hc i pins s σ H E I hf st hg
    subst hP hw hK
    obtain ⟨⟨old, he⟩, hit, hne⟩ := st
    have hit0 := hit
    obtain ⟨oi, hoi, hci, _⟩ := hit0
    have lte : e < s.heap.objs.size := Heap.lt_size he
    have lti : it < s.heap.objs.size := Heap.lt_size hoi
    refine wpAny_pyNext_enum_itemD (PySem.Draws.text (show X.A.in1.handled = none from I.ok.hd hc) it z tz) he hit hg hne (by simp; exact hne) fun y h1 tk hy ho st1 hT _ hk => ?_
    obtain ⟨c, tc, hcz, rfl⟩ := hy
    refine ⟨_, rfl, wpAny_letOwnedTupleGo_enum (s := { s with heap := h1, toks := tk + 1 }) ho fun h2 he2 sb => ?_⟩
    have hT2 := (sb.2 _ (Nat.ne_of_gt lte)).trans hT
    have I1 := I.turnedNew (t' := tk + 1) (h' := h2) (ch := [e, it]) (fun c ob hb z => (sb.2 c (fun v => hb (by simp [v]))).trans (hk c ob (fun v => hb (by simp [v])) (fun v => hb (by simp [v])) z)) hf (Nat.le_refl _)
      (show ObjOk X.prog X.w (upd H s.heap.objs.size (.tup [.int (i : Nat), .str ⟨#[c]⟩])) h2 s.heap.objs.size (.tup [.int (i : Nat), .str ⟨#[c]⟩]) from ⟨by show 2 ≤ sizeLine; decide, _, .cons ⟨_, rfl⟩ (.cons ⟨_, rfl⟩ .nil), ⟨_, hT2, rfl, _, rfl⟩⟩)
    refine ⟨.ref s.heap.objs.size, _, I1, rfl, ⟨_, c, rfl, I.hok.fresh (Nat.le_refl _), rfl, hcz⟩, ⟨⟨.str ⟨#[c]⟩ tc, ?_⟩, ?_, hne⟩, fun c hcm => ?_⟩
    · rw [show ((i + 1 : Nat) : Int) = (i : Int) + 1 by omega]
      exact he2
    · obtain ⟨ob, hob, q1, q2⟩ := st1
      exact ⟨ob, (sb.2 it (Ne.symm hne)).trans hob, q1, q2⟩
    · have hlt : c < s.heap.objs.size := by
        rcases List.mem_cons.mp hcm with rfl | hcm
        · exact lte
        · rw [List.mem_singleton.mp hcm]
          exact lti
      rw [upd_ne (Nat.ne_of_lt hlt)]
      exact (hf c hcm).1
  done := by
    intro X hP hw hK hc i pins s σ H E I hf st hg
    subst hP hw hK
    obtain ⟨⟨old, he⟩, hit, hne⟩ := st
    obtain ⟨f0, f1, f2, f3, f4, f5⟩ := hf it (by simp)
    have ei : z.cps.size = i := hg
    exact wpAny_pyNext_enum_endD (PySem.Draws.text (show X.A.in1.handled = none from I.ok.hd hc) it z tz) he (by rw [ei]; exact hit) fun h1 eb => ⟨rfl, I.turned (t' := s.toks) (fun b u hb z => eb b u hb z) f0 f1 f3 f4 f5⟩
  self := fun A i s Q E st h => by
    obtain ⟨⟨_, he⟩, _⟩ := st
    exact wpAny_pyIter_enum he h
theorem pi_enumS {X : Cx} {e : Expr} {ta : TA} {p pos tpos : Pos} {elts : List Expr} {kk : Nat} (hg : Gl X "enumerate") (hm : X.mg "enumerate" = none) (ha : PA X [e] ta) (hs : starEach [e] X.env = [(false, eval e X.env)] := by rfl) :
    PI X (.Tuple elts kk tpos) (.Call (.Name "enumerate" p) [e] [] pos) (iEnumS ta) := by
  constructor
  intro pins s σ H R I h
  refine Call_ (ld_blt I hg hm boot_enumerate (PyProof.Rows.callWith_type1 (thn (ha.run pos pins s σ H _ I h) fun us s1 ⟨vs, H1, I1, r1, z, ex, hl, q⟩ => ?_) hs rfl))
  subst ex
  obtain ⟨v1, rfl, r⟩ := r1.one
  obtain ⟨tz, rfl⟩ := r
  refine enum_call1 (PySem.begins_text z tz) trivial fun h1 he hit hk => wpAny_pyIter_enum he ?_
  refine ⟨s1.heap.objs.size + 1, [s1.heap.objs.size + 1, s1.heap.objs.size], _, _, H1, rfl, I1.kept (t' := s1.toks) hk, turn_enumS z tz (s1.heap.objs.size + 1) s1.heap.objs.size, ⟨⟨.none, he⟩, ⟨_, hit, rfl, rfl⟩, Nat.succ_ne_self _⟩, fun b hb => ?_, q⟩
  have hle : s1.heap.objs.size ≤ b := by
    rcases List.mem_cons.mp hb with rfl | hb
    · exact Nat.le_add_right _ _
    · exact Nat.le_of_eq (List.mem_singleton.mp hb).symm
  exact I1.fpOk hle (I1.hok.fresh hle)
/-! a list and a tuple side by side -/
theorem not_two {x u v : Nat} (h1 : x ≠ u) (h2 : x ≠ v) : x ∉ [u, v] := by simp [h1, h2]
theorem sep_new {n a b : Nat} (la : a < n) (lb : b < n) : PySem.ZipSep2 (n + 4) (n + 2) (n + 3) n (n + 1) [n, a] [n + 1, b] where
  TIz := (by omega : n + 2 ≠ n + 4)
  TOz := (by omega : n + 3 ≠ n + 4)
  TITO := (by omega : n + 2 ≠ n + 3)
  TIi1 := (by omega : n + 2 ≠ n)
  mem1 := List.mem_cons_self ..
  zf1 := not_two (by omega) (by omega)
  Tf1 := not_two (by omega) (by omega)
  TIi2 := (by omega : n + 2 ≠ n + 1)
  mem2 := List.mem_cons_self ..
  zf2 := not_two (by omega) (by omega)
  Tf2 := not_two (by omega) (by omega)
  sep1_2 := not_two (by omega) (by omega)
  sep2_1 := not_two (by omega) (by omega)
theorem turn_zipLT {Pg : Program} {w : World} {K : PySem.W.Frag} {elts : List Expr} {kk : Nat} {tpos : Pos} {a b z TI TO i1 i2 : Addr} {xs ys : List V} (S : PySem.ZipSep2 z TI TO i1 i2 [i1, a] [i2, b]) :
    Turn Pg w K (.Tuple elts kk tpos) (ItzLT K a b xs ys) [z, TI, TO, i1, i2] z (fun i h => IsZip h z TI TO .none ∧ PySem.IsTupOf2 h TI (.ref i1) (.ref i2) ∧ (∃ x y, PySem.IsTupOf2 h TO x y) ∧ h.IsListIter i1 a i ∧ h.IsTupleIter i2 b i) where
  mem := List.mem_cons_self ..
  obj := fun i h st c hcm => by
    obtain ⟨hz, hTI, ⟨x, y, hTO⟩, ⟨o1, g1, _, d1⟩, ⟨o2, g2, _, d2⟩⟩ := st
    simp only [List.mem_cons, List.not_mem_nil, or_false] at hcm
    rcases hcm with rfl | rfl | rfl | rfl | rfl
    · exact ⟨_, hz, fun v z => nomatch z⟩
    · exact ⟨_, hTI, fun v z => nomatch z⟩
    · exact ⟨_, hTO, fun v z => nomatch z⟩
    · exact ⟨o1, g1, fun v z => by rw [d1] at z; cases z⟩
    · exact ⟨o2, g2, fun v z => by rw [d2] at z; cases z⟩
  keep := fun i h h' st k => by
    obtain ⟨hz, hTI, ⟨x, y, hTO⟩, ⟨o1, g1, q1, d1⟩, ⟨o2, g2, q2, d2⟩⟩ := st
    exact ⟨k z (by simp) _ hz, k TI (by simp) _ hTI, ⟨x, y, k TO (by simp) _ hTO⟩, ⟨o1, k i1 (by simp) _ g1, q1, d1⟩, ⟨o2, k i2 (by simp) _ g2, q2, d2⟩⟩
  item := by
    intro X hP hw hK hc i pins s σ H E I hf st hg
    subst hP hw hK
    obtain ⟨hz, hTI, ⟨x0, y0, hTO⟩, h1, h2⟩ := st
    obtain ⟨hqx, hqy, x, y, hx, hy⟩ := hg
    obtain ⟨its, rv, pl, _⟩ := I.list hqx
    obtain ⟨its2, rv2, pt, _⟩ := I.tuple hqy
    obtain ⟨u, hu, ru⟩ := rv.get hx
    obtain ⟨u2, hu2, ru2⟩ := rv2.get hy
    have ltz : z < s.heap.objs.size := Heap.lt_size hz
    have l1 : i < its.toArray.size := by have := (List.getElem?_eq_some_iff.mp hu).1; simpa using this
    have l2 : i < its2.toArray.size := by have := (List.getElem?_eq_some_iff.mp hu2).1; simpa using this
    have ne1 : a ≠ i1 := by
      obtain ⟨o1, g1, c1, _⟩ := h1
      obtain ⟨ol, gl, cl, _⟩ := pl.isList
      exact apart_of gl g1 (by rw [cl, c1]; exact fun z => absurd (Value.type.inj z) (by decide))
    have ne2 : b ≠ i2 := by
      obtain ⟨o1, g1, c1, _⟩ := h2
      obtain ⟨ol, gl, cl, _⟩ := pt
      exact apart_of gl g1 (by rw [cl, c1]; exact fun z => absurd (Value.type.inj z) (by decide))
    have hd : X.A.in1.handled = none := I.ok.hd hc
    refine PySem.wpAny_pyNext_zipD2_item S (PySem.Draws.list hd i1 a ne1 its.toArray) (PySem.Draws.tuple hd i2 b ne2 its2.toArray) hz hTI hTO ⟨h1, pl.isList⟩ ⟨h2, pt⟩ l1 l2 fun y1 y2 h3 tk py1 py2 hz3 hTO3 s1 s2 hT3 hsz hk => ?_
    have e1 : y1 = u := by
      have py1 : its.toArray[i]? = some y1 := py1
      rw [List.getElem?_toArray, hu] at py1
      exact (Option.some.inj py1).symm
    have e2 : y2 = u2 := by
      have py2 : its2.toArray[i]? = some y2 := py2
      rw [List.getElem?_toArray, hu2] at py2
      exact (Option.some.inj py2).symm
    subst e1 e2
    refine ⟨_, rfl, wpAny_letOwnedTupleGo_zip (s := { s with heap := h3, toks := tk }) hz3 fun h4 hz4 sb => ?_⟩
    have hT4 := (sb.2 _ (Nat.ne_of_gt ltz)).trans hT3
    have I1 := I.turnedNew (t' := tk) (h' := h4) (ch := [z, TI, TO, i1, i2]) (fun c o hb q => (sb.2 c (fun v => hb (by simp [v]))).trans (hk c o (fun v => hb (by simp [v])) (fun v => hb (by simp [v])) (fun v => hb (by simp [v])) (fun v => hb (by simp [v])) q)) hf (Nat.le_refl _)
      (show ObjOk X.prog X.w (upd H s.heap.objs.size (.tup [x, y])) h4 s.heap.objs.size (.tup [x, y]) from ⟨by show 2 ≤ sizeLine; decide, _, .cons ru (.cons ru2 .nil), ⟨_, hT4, rfl, _, rfl⟩⟩)
    refine ⟨.ref s.heap.objs.size, _, I1, rfl, ⟨_, x, y, rfl, I.hok.fresh (Nat.le_refl _), rfl, hx, hy⟩, ⟨hz4, (sb.2 _ S.TIz).trans (hk _ _ S.TIz S.TITO S.TIi1 S.TIi2 hTI), ⟨y1, y2, (sb.2 _ S.TOz).trans hTO3⟩, s1.1.at fun o q => (sb.2 _ (Ne.symm S.zi1)).trans q, s2.1.at fun o q => (sb.2 _ (Ne.symm S.zi2)).trans q⟩, fun c hcm => ?_⟩
    obtain ⟨oc, hoc⟩ : ∃ oc, s.heap.get? c = some oc := by
      obtain ⟨o1, g1, _, _⟩ := h1
      obtain ⟨o2, g2, _, _⟩ := h2
      have hcm2 := hcm
      simp only [List.mem_cons, List.not_mem_nil, or_false] at hcm2
      rcases hcm2 with rfl | rfl | rfl | rfl | rfl
      · exact ⟨_, hz⟩
      · exact ⟨_, hTI⟩
      · exact ⟨_, hTO⟩
      · exact ⟨_, g1⟩
      · exact ⟨_, g2⟩
    rw [upd_ne (Nat.ne_of_lt (Heap.lt_size hoc))]
    exact (hf c hcm).1
  done := by
    intro X hP hw hK hc i pins s σ H E I hf st hg
    subst hP hw hK
    obtain ⟨hz, hTI, ⟨x0, y0, hTO⟩, h1, h2⟩ := st
    obtain ⟨hqx, hqy, i1le, i2le, iend⟩ := hg
    obtain ⟨its, rv, pl, _⟩ := I.list hqx
    obtain ⟨its2, rv2, pt, _⟩ := I.tuple hqy
    have lv1 := rv.length
    have lv2 := rv2.length
    have ne1 : a ≠ i1 := by
      obtain ⟨o1, g1, c1, _⟩ := h1
      obtain ⟨ol, gl, cl, _⟩ := pl.isList
      exact apart_of gl g1 (by rw [cl, c1]; exact fun z => absurd (Value.type.inj z) (by decide))
    have ne2 : b ≠ i2 := by
      obtain ⟨o1, g1, c1, _⟩ := h2
      obtain ⟨ol, gl, cl, _⟩ := pt
      exact apart_of gl g1 (by rw [cl, c1]; exact fun z => absurd (Value.type.inj z) (by decide))
    have hd : X.A.in1.handled = none := I.ok.hd hc
    refine PySem.wpAny_pyNext_zipD2_end S (PySem.Draws.list hd i1 a ne1 its.toArray) (PySem.Draws.tuple hd i2 b ne2 its2.toArray) hz hTI hTO ⟨h1, pl.isList⟩ ⟨h2, pt⟩ (by rw [List.size_toArray]; omega) (by rw [List.size_toArray]; omega) (by rw [List.size_toArray, List.size_toArray]; omega) fun h3 tk hk => ⟨rfl, I.turnedL (t' := tk) (ch := [z, TI, TO, i1, i2]) (fun c o hb q => hk c o (fun v => hb (by simp [v])) (fun v => hb (by simp [v])) (fun v => hb (by simp [v])) (fun v => hb (by simp [v])) q) hf⟩
  self := fun A i s Q E st h => wpAny_pyIter_zip st.1 h
theorem pi_zipLT {X : Cx} {e e2 : Expr} {ta : TA} {p pos tpos : Pos} {elts : List Expr} {kk : Nat} (hg : Gl X "zip") (hm : X.mg "zip" = none) (ha : PA X [e, e2] ta) (hs : starEach [e, e2] X.env = (false, eval e X.env) :: starEach [e2] X.env := by rfl)
    (hpl : (backTo pos (starEach [e2] X.env)).any (·.1) = false := by rfl) :
    PI X (.Tuple elts kk tpos) (.Call (.Name "zip" p) [e, e2] [] pos) (iZipLT X.K ta) := by
  constructor
  intro pins s σ H R I h
  refine Call_ (ld_blt I hg hm PyProof.Rows.boot_zip (PyProof.Rows.callWith_type1 (thn (ha.run pos pins s σ H _ I h) fun us s1 ⟨vs, H1, I1, r1, a, b, xs, ys, ex, hqx, hqy, q⟩ => ?_) hs hpl))
  subst ex
  obtain ⟨v1, v2, rfl, ra, rb⟩ := vals2 r1
  cases ra
  cases rb
  obtain ⟨its, rv, pl, _⟩ := I1.list hqx
  obtain ⟨its2, rv2, pt, _⟩ := I1.tuple hqy
  have la : a < s1.heap.objs.size := pl.lt
  have lb : b < s1.heap.objs.size := by obtain ⟨_, g, _⟩ := pt; exact Heap.lt_size g
  refine PySem.zip_begins2 (PySem.begins_list a its.toArray) (PySem.begins_tuple b its2.toArray) pl.isList pt fun h1 hz hTI hTO g1 g2 hsz hk => wpAny_pyIter_zip hz ?_
  refine ⟨s1.heap.objs.size + 4, [s1.heap.objs.size + 4, s1.heap.objs.size + 2, s1.heap.objs.size + 3, s1.heap.objs.size, s1.heap.objs.size + 1], _, _, H1, rfl, I1.kept (t' := s1.toks) hk, turn_zipLT (xs := xs) (ys := ys) ?_, ⟨hz, hTI, ⟨_, _, hTO⟩, ⟨_, g1, rfl, rfl⟩, ⟨_, g2, rfl, rfl⟩⟩, fun c hcm => ?_, q⟩
  · exact sep_new la lb
  · have hle : s1.heap.objs.size ≤ c := by
      simp only [List.mem_cons, List.not_mem_nil, or_false] at hcm
      rcases hcm with rfl | rfl | rfl | rfl | rfl
      · exact Nat.le_add_right _ 4
      · exact Nat.le_add_right _ 2
      · exact Nat.le_add_right _ 3
      · exact Nat.le_refl _
      · exact Nat.le_add_right _ 1
    exact I1.fpOk hle (I1.hok.fresh hle)
end
section
variable {X : Cx}
theorem mt_removeD (hu : X.A.units + 65 < cLine) : MtR X "list.remove" (rRemD X.K) := by
  intro pins s σ H x xs v us Q I rx rxs h
  obtain ⟨l, ys, y, d, ds, j, z, rfl, rfl, hH, hds, hy, sl, sd, hz, hzj, hno, q⟩ := h
  cases rx
  obtain ⟨u, rfl, ru⟩ := rxs.one
  obtain ⟨bs, r1⟩ := Dp.reads I d y u hy ru
  obtain ⟨hzl, its, n, r, hl, e⟩ := I.lstM hH
  obtain ⟨as, r4⟩ := Dp.readsAll I ds _ its hds r
  have lay : PyData.canLayAll0 ds = true := SeqAt.canLay_of_shaped sl
  have room : X.A.units + 1 + min (PyData.depthAll ds) d.depth < cLine := room_in_shaped sd hu
  have hn : its.length = ds.length := SeqAt.ReadsAll.length ds its as r4
  have hmap : its.map (SeqAt.readOf s.heap) = ds := SeqAt.readsAll_map ds its as lay r4
  have hvl := r.length
  have hjd : j < ds.length := (List.getElem?_eq_some_iff.mp hz).1
  have rd : ∀ (m : Nat) (hm : m < its.toArray.size) (w : PyData), ds[m]? = some w → SeqAt.readOf s.heap its.toArray[m] = w := fun m hm w hw => by
    have hm2 : m < its.length := by simpa using hm
    rw [← hmap, List.getElem?_map, List.getElem?_eq_getElem hm2] at hw
    simpa using Option.some.inj hw
  have hj : j < its.toArray.size := by simp; omega
  refine call_meets PySem.F.slot_list_remove ⟨_, e, rfl⟩ PySem.F.entry_list_remove (PySem.F.args_list_remove_2 _ _)
    (SeqAt.list_removeAt l its.toArray n none #[] u (fun w => PyData.eqv (SeqAt.readOf s.heap w) d) j hj (by rw [rd j hj z hz]; exact hzj) (fun m hm hmj => ?_) (by rw [List.size_toArray]; omega))
    ⟨e, SeqAt.items_eqAt (vs := its.toArray) (show ReadsAll s.heap its.toArray.toList ds as from r4) r1 lay (SeqAt.canLay_of_shaped sd) room, ?_⟩
  · have hmd : m < ds.length := by simp at hm; omega
    have hw : ds[m]? = some ds[m] := List.getElem?_eq_getElem hmd
    rw [rd m hm _ hw]
    exact hno m _ hmj hw
  · refine ⟨.non, _, I.lset (its' := its.eraseIdx j) (t' := s.toks) hH e ?_ (r.eraseIdx j) ?_, rfl, q⟩
    · show its.toArray.eraseIdxIfInBounds j = (its.eraseIdx j).toArray
      rw [List.eraseIdxIfInBounds_toArray]
    · exact Nat.le_trans (List.length_eraseIdx_le _ _) (by omega)
end
section
variable {X : Cx}
theorem d_dictSetT {X : Cx} {pins : List (Addr × Obj)} {σ : L2.St} {H : Hp} {s : Shared} {E : Value → Shared → Prop} {D kb : Addr} {kvs : List (List Key × V)} {k : List Key} {v : V} {r : Value} {Q : Unit → Shared → Prop} (hu : X.A.units + 1 < cLine) (I : L2.Inv X pins σ H s)
    (hD : H D = some (.dT kvs)) (hb : H kb = some (.tup (k.map kV))) (hz : kvs.length < sizeLine) (rv : RelV v r) (h : ∀ s', L2.Inv X pins σ (upd H D (.dT (putK kvs k v))) s' → Q () s') : wpAny (model X.prog X.w) X.A (dictSet D (.ref kb) r) Q E s := by
  obtain ⟨z, hd, xs, rel, dd⟩ := dt_of I.hok hD
  have hx : xs.length ≤ sizeLine := by rw [← Paired.length rel]; exact z
  have hl : (putK kvs k v).length ≤ sizeLine := by have := length_putK kvs k v; omega
  refine wpAny_dictSet_heap (hsz := hx) (show X.A.units < cLine by omega) (key_of I.hok hb) dd fun h1 dd1 hs => h _ ?_
  obtain ⟨o, es, ep, ho, g2, g3, g4, _, g5⟩ := dd1
  refine d_write I (by rw [hD]; exact True.intro) hs ⟨o, ho⟩ ⟨hl, hd, _, (rel.put k hb rv).keeps fun c ys ec => ?_, o, es, ep, ho, g2, g3, g4, g5⟩
  rw [upd_ne (ne_of ec hD (fun z => nomatch z))]
  exact ec
theorem dcT_core {pps : List (Addr × Obj)} {s : Shared} {σ : L2.St} {H : Hp} {Q : VK} {ka va ta src : Expr} {tsts : List Expr} {scp : Scope} {owx : List (Str × Nat)} {psn psq : Pos} {wi : TI} {g : TG} {tt : TT} {tk tv : TE} {usx : Option (Value → Sem Unit)} {Qz : Value → Shared → Prop}
    (hcm : X.calm = true) (hroom : X.A.units + 1 < cLine) (hnd : X.N.Nodup) (I : L2.Inv X pps σ H s) (hpi : PI X ta src wi) (bok : BlkOk X.N X.env.scope scp owx)
    (hgg : ∀ (s : Shared) (H : Hp) (Cc : Addr) (cll : List (Str × Addr)) (fq : List Addr), PG (X.blk s H scp (compEnvC scp cll Cc X.env) fq) ta g) (htt : ∀ (s : Shared) (H : Hp) (Cc : Addr) (cll : List (Str × Addr)) (fq : List Addr), PTs (X.blk s H scp (compEnvC scp cll Cc X.env) fq) tsts tt)
    (hkk : ∀ (s : Shared) (H : Hp) (Cc : Addr) (cll : List (Str × Addr)) (fq : List Addr), PE (X.blk s H scp (compEnvC scp cll Cc X.env) fq) ka tk)
    (hee : ∀ (s : Shared) (H : Hp) (Cc : Addr) (cll : List (Str × Addr)) (fq : List Addr), PE (X.blk s H scp (compEnvC scp cll Cc X.env) fq) va tv) (hfs : ∀ x, foldedSetIterable src X.env x = pure x)
    (h : tDcT wi g tt tk tv (owx.map (·.2)) σ H Q)
    (hfin : ∀ D Cc s' m H', L2.Inv X pps σ H' s' → Q (.ref D) H' → s'.heap.Ns Cc m → FpOk X pps H' Cc → compPost (model X.prog X.w) X.A X.xe usx Qz (.ref D) Cc (.ok .next) s') :
    wpAny (model X.prog X.w) X.A (comprehension (.DictComp ka va [⟨ta, src, tsts, 0⟩] scp psn) scp X.env psq newDict false (eval src X.env) usx) Qz X.xe s := by
  have hfre : ∀ y ∈ scp.names, y.2 = .free → ∃ c, X.env.cells.lookup y.1 = some c := fun y hy e => by
    rcases bok.free y hy e with k | k
    · exact I.ok.has _ (.inl k)
    · exact I.ok.has _ (.inr k)
  refine wpAny_comprehension_free (use := usx) rfl hfs (closure_ok hfre) bok.kind (fun y hy e => by rw [bok.uniq y hy, e])
    (thn (hpi.run pps s σ H _ I h) fun xv w1s hx => thn hx fun itv w2s h2 => ?_)
  obtain ⟨it, fq, tq, J, hp2, e, jv2, T, qa2, fr2, q⟩ := h2
  subst e
  refine wpAny_newObj_type (newEnv_comp ?_)
  generalize hDD : w2s.heap.objs.size = D
  have hDo : hp2 D = none := jv2.hok.fresh (Nat.le_of_eq hDD)
  obtain ⟨W, ⟨mz, wz⟩, trn⟩ := q D hDo
  -- the new list
  generalize hws3 : ({ w2s with heap := w2s.heap.push { cls := .type "dict", data := .dict #[] } } : Shared) = w3s
  have jv3 : L2.Inv X pps σ (upd hp2 D (.dT [])) w3s := by
    rw [← hws3]
    refine jv2.laid (t' := w2s.toks) (fun b o e => Heap.get?_push_of_some _ e) (Nat.le_of_eq hDD) ?_
    rw [← hDD]
    exact dt_empty w2s.heap jv2.big
  have hh3 : w3s.heap = w2s.heap.push { cls := .type "dict", data := .dict #[] } := by rw [← hws3]
  have szz : ∀ b ∈ fq, b < w2s.heap.objs.size := fun b hb => by
    obtain ⟨o, e, _⟩ := T.obj _ _ qa2 b hb
    exact Heap.lt_size e
  have fr3 : ∀ b ∈ fq, FpOk X pps (upd hp2 D (.dT [])) b ∧ b < w3s.heap.objs.size := fun b hb => by
    have hlt := szz b hb
    refine ⟨⟨?_, (fr2 b hb).2⟩, by rw [hh3, Heap.size_push]; exact Nat.lt_succ_of_lt hlt⟩
    rw [upd_ne (by rw [← hDD]; exact Nat.ne_of_lt hlt)]
    exact (fr2 b hb).1
  have qa3 : tq 0 w3s.heap := T.keep _ _ _ qa2 fun b _ o e => by rw [hh3]; exact Heap.get?_push_of_some _ e
  have jv4 := block_start jv3 bok hnd fr3
  have pgg := hgg w3s (upd hp2 D (.dT [])) w3s.heap.objs.size (cellsFrom (w3s.heap.objs.size + 1) scp.names (cloFrom X.env.cells scp.names [])) fq
  have ptt := htt w3s (upd hp2 D (.dT [])) w3s.heap.objs.size (cellsFrom (w3s.heap.objs.size + 1) scp.names (cloFrom X.env.cells scp.names [])) fq
  have pkk := hkk w3s (upd hp2 D (.dT [])) w3s.heap.objs.size (cellsFrom (w3s.heap.objs.size + 1) scp.names (cloFrom X.env.cells scp.names [])) fq
  have pee := hee w3s (upd hp2 D (.dT [])) w3s.heap.objs.size (cellsFrom (w3s.heap.objs.size + 1) scp.names (cloFrom X.env.cells scp.names [])) fq
  show codeAny _ _ (.compStart (.DictComp ka va [⟨ta, src, tsts, 0⟩] scp psn) 0 (.ref it) (.ref D) (compEnvC scp (cellsFrom (w3s.heap.objs.size + 1) scp.names (cloFrom X.env.cells scp.names [])) w3s.heap.objs.size X.env)) (compPost (model X.prog X.w) X.A X.xe usx Qz (.ref D) w3s.heap.objs.size) { w3s with heap := pushCells (w3s.heap.push { cls := .type "dict", data := .dict #[] }) scp.names }
  have nfq : ∀ b ∈ fq, (upd hp2 D (.dT [])) b = none := fun b hb => (fr3 b hb).1.1
  generalize hcee : compEnvC scp (cellsFrom (w3s.heap.objs.size + 1) scp.names (cloFrom X.env.cells scp.names [])) w3s.heap.objs.size X.env = cee at jv4 pgg ptt pkk pee ⊢
  have cel : cee.locals = w3s.heap.objs.size := by subst hcee; rfl
  generalize hhp3 : upd hp2 D (.dT []) = hp3 at jv3 jv4 pgg ptt pkk pee wz nfq fr3
  generalize hws4 : ({ w3s with heap := pushCells (w3s.heap.push { cls := .type "dict", data := .dict #[] }) scp.names } : Shared) = w4s at jv4 ⊢
  have qa4 : tq 0 w4s.heap := T.keep _ _ _ qa3 fun b _ o e => by rw [← hws4]; exact pushCells_keeps _ _ _ _ (Heap.get?_push_of_some _ e)
  have stt : ∀ {σ' : L2.St} {H' : Hp} {s' : Shared}, Inv (X.blk w3s hp3 scp cee fq) [] σ' H' s' → (∀ b ∈ fq, H' b = none) → ∀ b ∈ fq, FpOk (X.blk w3s hp3 scp cee fq) [] H' b := fun {σ' H' s'} I' hnn b hb =>
    ⟨hnn b hb, (I'.ok.exf b hb).1, I'.ok.exfs b hb, .inl hb, fun x c e => (I'.ok.exf b hb).2 x c e, fun p hp => absurd (show p ∈ ([] : List (Addr × Obj)) ++ [] from hp) (by simp)⟩
  have lop : codeAny (model X.prog X.w) X.A (.compLoop (.DictComp ka va [⟨ta, src, tsts, 0⟩] scp psn) 0 (.ref it) (.ref D) cee) (compPost (model X.prog X.w) X.A X.xe usx Qz (.ref D) w3s.heap.objs.size) w4s := by
    refine compLoop_anyD (fun n s' => ∃ i H', Inv (X.blk w3s hp3 scp cee fq) [] (wipe σ (owx.map (·.2))) H' s' ∧ tq i s'.heap ∧ (∀ b ∈ fq, H' b = none) ∧ W i n H') ?_ mz ⟨0, hp3, jv4, qa4, nfq, wz⟩
    rintro n w5s ⟨i, hp5, jv5, qa5, n5, w5⟩
    rcases trn i n hp5 w5 with ⟨stp0, qqq⟩ | ⟨gon, Ny, hNy, stp⟩
    · have tdn := T.done (X.blk w3s hp3 scp cee fq) rfl rfl rfl hcm i [] w5s _ hp5 (fun _ _ => False) jv5 (stt jv5 n5) qa5 stp0
      refine thnF tdn fun r w6s ⟨hrr, jv6⟩ => ?_
      subst hrr
      -- back in the def's context
      have jv7 : L2.Inv X pps σ hp5 w6s := jv3.call' (ch := fq) jv6.os jv6.base jv6.hok jv6.bare fun b hb => ⟨(fr3 b hb).1.2.2.2.1, (fr3 b hb).1.2.1, (fr3 b hb).1.2.2.2.2.1, (fr3 b hb).1.2.2.2.2.2⟩
      have nCC : hp5 w3s.heap.objs.size = none := by
        have z : hp5 cee.locals = none := jv6.free
        rw [cel] at z
        exact z
      obtain ⟨m, hnn, _⟩ := jv6.loc
      have hnn : w6s.heap.Ns cee.locals m := hnn
      rw [cel] at hnn
      exact hfin D w3s.heap.objs.size w6s m hp5 jv7 qqq hnn (jv3.fpOk (Nat.le_refl _) nCC)
    · have tit := T.item (X.blk w3s hp3 scp cee fq) rfl rfl rfl hcm i [] w5s _ hp5 (fun _ _ => False) jv5 (stt jv5 n5) qa5 gon
      refine thnF tit fun r w6s ⟨u, hrr, h6⟩ => ?_
      subst hrr
      refine thnF h6 fun _ w7s ⟨x, hp7, jv7, r7, y7, qa7, n7⟩ => ?_
      have I7' := jv7.pinned (stt jv7 n7) (T.obj _ _ qa7)
      refine thnF (pgg.run _ w7s _ hp7 x u _ I7' r7 (stp x hp7 y7)) fun _ w8s ⟨σ8, hp8, jv8, hw8, q8⟩ => ?_
      refine thnF (ptt.run _ w8s σ8 hp8 _ jv8 q8) fun b w9s ⟨hp9, jv9, q9⟩ => ?_
      -- the turn's end
      have fen : ∀ {s' : Shared} {H' : Hp}, Inv (X.blk w3s hp3 scp cee fq) ([] ++ pinsAt fq w7s.heap) σ8 H' s' → Ny H' → ∃ m, m < n ∧ ∃ i H', Inv (X.blk w3s hp3 scp cee fq) [] (wipe σ (owx.map (·.2))) H' s' ∧ tq i s'.heap ∧ (∀ b ∈ fq, H' b = none) ∧ W i m H' := fun {s' H'} I' nx => by
        obtain ⟨m', hm, w'⟩ := hNy H' nx
        have pnn : ∀ b ∈ fq, ∀ o, w7s.heap.get? b = some o → s'.heap.get? b = some o ∧ H' b = none := fun b hb o e =>
          let z := I'.pin (b, o) (List.mem_append_right _ (List.mem_append_right _ (mem_pinsAt hb e)))
          ⟨z.1, z.2.1⟩
        have hll : (wipe σ (owx.map (·.2))).length = σ8.length := by rw [← hw8, wipe_length]
        refine ⟨m', hm, i + 1, H', (I'.unpinned (pins := [])).weak hll (fun j v e => ?_), T.keep _ _ _ qa7 fun b hb o e => (pnn b hb o e).1, fun b hb => ?_, w'⟩
        · rw [← hw8] at e
          exact (wipe_some e).1
        · obtain ⟨o, e, _⟩ := T.obj _ _ qa7 b hb
          exact (pnn b hb o e).2
      cases b with
      | false =>
        simp only [Bool.false_eq_true, if_false] at q9 ⊢
        exact fen jv9 q9
      | true =>
        simp only [if_true] at q9 ⊢
        refine thnF (pkk.run _ w9s σ8 hp9 _ jv9 q9) fun z w10s ⟨yk, hp10, jv10, r10, q10⟩ => ?_
        refine thnF (pee.run _ w10s σ8 hp10 _ jv10 q10) fun z2 w11s ⟨yv, hp11, jv11, r11, kvs, k, kb, ek, hD11, hb11, hz11, nx⟩ => ?_
        subst ek
        cases (show z = Value.ref kb from r10)
        exact d_dictSetT (X := X.blk w3s hp3 scp cee fq) hroom jv11 hD11 hb11 hz11 r11 fun w12s jv12 => fen jv12 nx
  exact codeAny_compStart_dict lop (T.self X.A 0 _ _ _ qa4 lop)
/-- as a value -/
theorem pe_dcT {ka va ta src : Expr} {tsts : List Expr} {scp : Scope} {owx : List (Str × Nat)} {psn : Pos} {wi : TI} {g : TG} {tt : TT} {tk tv : TE} (hcm : X.calm = true) (hroom : X.A.units + 1 < cLine) (hnd : X.N.Nodup) (hpi : PI X ta src wi) (bok : BlkOk X.N X.env.scope scp owx)
    (hgg : ∀ (s : Shared) (H : Hp) (Cc : Addr) (cll : List (Str × Addr)) (fq : List Addr), PG (X.blk s H scp (compEnvC scp cll Cc X.env) fq) ta g) (htt : ∀ (s : Shared) (H : Hp) (Cc : Addr) (cll : List (Str × Addr)) (fq : List Addr), PTs (X.blk s H scp (compEnvC scp cll Cc X.env) fq) tsts tt)
    (hkk : ∀ (s : Shared) (H : Hp) (Cc : Addr) (cll : List (Str × Addr)) (fq : List Addr), PE (X.blk s H scp (compEnvC scp cll Cc X.env) fq) ka tk)
    (hee : ∀ (s : Shared) (H : Hp) (Cc : Addr) (cll : List (Str × Addr)) (fq : List Addr), PE (X.blk s H scp (compEnvC scp cll Cc X.env) fq) va tv) (hfs : ∀ x, foldedSetIterable src X.env x = pure x := by intro _; rfl) :
    PE X (.DictComp ka va [⟨ta, src, tsts, 0⟩] scp psn) (tDcT wi g tt tk tv (owx.map (·.2))) := by
  refine ⟨fun pps s σ H Q I h => ?_⟩
  rw [arm_eval_DictComp]
  refine dcT_core hcm hroom hnd I hpi bok hgg htt hkk hee hfs h fun D Cc s' m H' I' q hnn f => ⟨m, hnn, fun h'' sb => ?_⟩
  obtain ⟨f0, f1, fr2, fr3, f4, f5⟩ := f
  exact ⟨.ref D, H', I'.turned (t' := s'.toks) (fun b o hb e => (sb.2 b hb).trans e) f0 f1 fr3 f4 f5, rfl, q⟩
end
section
variable {X : Cx}
/-- the pair of ints at an address -/
def prOf (H : Hp) (b : Addr) : Int × Int := match H b with
  | some (.tup [.int i, .int j]) => (i, j)
  | _ => (0, 0)
def adOf : Value → Addr
  | .ref a => a
  | _ => 0
theorem cr_sortKT (hc : X.calm = true) (hu : X.A.units + 65 < cLine) : CallR X (.builtin "sorted") (rSortKT X.K) := by
  intro pins s σ H vs us Q I r h
  obtain ⟨d, kvs, ks, B, rfl, hd, h64, hks, hb, q⟩ := h
  obtain ⟨u, rfl, rx⟩ := r.one
  cases rx
  obtain ⟨z, hsys, kxs, pr, o, es, ep, ho, hx, hdt, hent, his⟩ := (show ObjOk X.prog X.w H s.heap d (.dT kvs) from I.hok d _ hd)
  have l1 : es.size = kxs.length := size_of_entries hent
  have l2 : kvs.length = kxs.length := Paired.length pr
  have l3 : kvs.length = ks.length := by
    have := congrArg List.length hks
    simpa using this
  have hbs : ∀ b ∈ kxs.map (fun x => x.2.1), ∃ c ∈ ks, H b = some (.tup [.int c.1, .int c.2]) := fun b hbm => by
    obtain ⟨j, hj, rfl⟩ := List.getElem_of_mem hbm
    have hj2 : j < kvs.length := by rw [List.length_map] at hj; omega
    have ik := isKeys_of pr
    unfold IsKeys at ik
    have hkv : kvs[j]? = some kvs[j] := List.getElem?_eq_getElem hj2
    have e1 : (kvs.map (·.1))[j]? = some kvs[j].1 := by rw [List.getElem?_map, hkv]; rfl
    rw [hks, List.getElem?_map] at e1
    cases e2 : ks[j]? with
    | none => rw [e2] at e1; cases e1
    | some c =>
      rw [e2] at e1
      have e3 : [Sum.inl c.1, Sum.inl c.2] = kvs[j].1 := Option.some.inj e1
      have e4 : ∀ {as : List (List Key × V)} {bs : List Addr} {j : Nat} {p : List Key × V} {b : Addr}, Paired (fun p b => H b = some (.tup (p.1.map kV))) as bs → as[j]? = some p → bs[j]? = some b → H b = some (.tup (p.1.map kV)) := by
        intro as bs j p b hp
        induction hp generalizing j with
        | nil => intro h; simp at h
        | cons h0 t ih =>
          cases j with
          | zero =>
            intro g1 g2
            simp at g1 g2
            subst g1 g2
            exact h0
          | succ j =>
            intro g1 g2
            exact ih (by simpa using g1) (by simpa using g2)
      have e5 := e4 ik hkv (List.getElem?_eq_getElem hj)
      rw [← e3] at e5
      exact ⟨c, List.mem_of_getElem? e2, e5⟩
  have hpr : (kxs.map (fun x => x.2.1)).map (prOf H) = ks := by
    have ik := isKeys_of pr
    unfold IsKeys at ik
    have e4 : ∀ {as : List (List Key × V)} {bs : List Addr}, Paired (fun p b => H b = some (.tup (p.1.map kV))) as bs → ∀ cs : List (Int × Int), as.map (·.1) = cs.map (fun q => [Sum.inl q.1, Sum.inl q.2]) → bs.map (prOf H) = cs := by
      intro as bs hp
      induction hp with
      | nil => intro cs g; cases cs with
        | nil => rfl
        | cons c cs => cases g
      | @cons p b as bs h0 t ih =>
        intro cs g
        cases cs with
        | nil => cases g
        | cons c cs =>
          rw [List.map_cons, List.map_cons] at g
          injection g with g1 g2
          rw [List.map_cons, ih cs g2]
          congr 1
          rw [g1] at h0
          unfold prOf
          rw [h0]
          rfl
    exact e4 ik ks hks
  refine PySem.Calls.call_function_entry PyProof.Rows.kind_sorted PyProof.Rows.plain_sorted PyProof.Rows.entry_sorted (PyProof.Rows.args_sorted1 _) ?_
  unfold Builtin.«sorted»
  refine wpAny_bind (m := checkCount "sorted" 1 1 _) (wpAny_pure ?_)
  refine wpAny_bind (PySem.W.kdu_collect (A := X.A.in1) (kdl_raw hsys hx hdt) (I.ok.hd hc) ho (by omega) fun h1 tk acc hk hacc => ?_)
  have ea : acc.toList = (kxs.map fun x => x.2.1).map Value.ref := by
    have hl : acc.toList.length = kxs.length := by rw [Array.length_toList, hacc.1]; exact l1
    refine List.ext_getElem? fun j => ?_
    rw [List.map_map, List.getElem?_map]
    cases hj : acc.toList[j]? with
    | none =>
      have := List.getElem?_eq_none_iff.mp hj
      rw [List.getElem?_eq_none (by omega)]
      rfl
    | some v =>
      obtain ⟨en, hen, hv⟩ := hacc.2 j v (by rw [← Array.getElem?_toList]; exact hj)
      have qe := entry_at hent j
      rw [hen] at qe
      cases hb2 : kxs[j]? with
      | none => rw [hb2] at qe; exact nomatch (show some en = none from qe)
      | some b =>
        rw [hb2] at qe
        rw [hv, (Option.some.inj qe : en = entryOfKey (tupleKind (mixKind X.prog X.w)) b)]
        rfl
  generalize kxs.map (fun x => x.2.1) = bs0 at hbs hpr ea
  have lb0 : bs0.length = ks.length := by rw [← hpr, List.length_map]
  have la : acc.toList.length = ks.length := by rw [ea, List.length_map]; exact lb0
  have I1 : L2.Inv X pins σ H { s with heap := h1, toks := tk } := I.kept hk
  refine wpAny_bind (wpAny_newList ?_ (by rw [la, ← l3, sizeLine_eq]; omega))
  have hoL : (h1.push (seqObj "list" acc.toList.toArray 0)).get? h1.objs.size = some (seqObj "list" acc.toList.toArray 0) := Heap.get?_push_size _ rfl
  show wpAny _ _ _ _ _ { s with heap := h1.push (seqObj "list" acc.toList.toArray 0), toks := tk }
  have I2 : L2.Inv X pins σ H { s with heap := h1.push (seqObj "list" acc.toList.toArray 0), toks := tk } := I1.kept (t' := tk) fun b ob e => Heap.get?_push_of_some _ e
  have tups : ∀ b ∈ bs0, TS.TupInts (h1.push (seqObj "list" acc.toList.toArray 0)) (.ref b) [(prOf H b).1, (prOf H b).2] := fun b hbm => by
    obtain ⟨c, hcm, hH⟩ := hbs b hbm
    have : prOf H b = c := by unfold prOf; rw [hH]
    rw [this]
    exact tupI_raw I2 (ns := [c.1, c.2]) (SqT.of hH)
  have bdd : ∀ b ∈ bs0, TS.Bd B [(prOf H b).1, (prOf H b).2] := fun b hbm => by
    obtain ⟨c, hcm, hH⟩ := hbs b hbm
    have e : prOf H b = c := by unfold prOf; rw [hH]
    have := hb c hcm
    rw [e]
    intro m hm
    simp only [List.mem_cons, List.not_mem_nil, or_false] at hm
    rcases hm with rfl | rfl
    · exact ⟨this.1, this.2.1⟩
    · exact ⟨this.2.2.1, this.2.2.2⟩
  refine wpAny_bind (wpAny_holding (TS.call_sort_tups (s := { s with heap := h1.push (seqObj "list" acc.toList.toArray 0), toks := tk }) (d := 2) (B := B) hoL (by omega) (by decide) (fun v hv => ?_) fun out p1 p2 => ?_))
  · rw [ea] at hv
    obtain ⟨b, hbm, rfl⟩ := List.mem_map.mp hv
    exact ⟨_, tups b hbm, rfl, bdd b hbm⟩
  · obtain ⟨e1, he1⟩ := PyProof.Rows.sortedHeap_at (out := out) hoL
    have hall : ∀ v ∈ out.toList, ∃ b ∈ bs0, v = Value.ref b := fun v hv => by
      have := p1.mem_iff.mp hv
      rw [ea] at this
      obtain ⟨b, hbm, rfl⟩ := List.mem_map.mp this
      exact ⟨b, hbm, rfl⟩
    have eo : out.toList = (out.toList.map adOf).map Value.ref := by
      rw [List.map_map]
      refine ((List.map_id out.toList).symm.trans (List.map_congr_left fun v hv => ?_))
      obtain ⟨b, _, rfl⟩ := hall v hv
      rfl
    have hin : ∀ b ∈ out.toList.map adOf, b ∈ bs0 := fun b hbm => by
      obtain ⟨v, hv, rfl⟩ := List.mem_map.mp hbm
      obtain ⟨b, hb2, rfl⟩ := hall v hv
      exact hb2
    have pb : (out.toList.map adOf).Perm bs0 := by
      have := p1.map adOf
      rw [ea, List.map_map] at this
      have e0 : bs0.map (adOf ∘ Value.ref) = bs0 := (List.map_congr_left fun b _ => rfl).trans (List.map_id bs0)
      rwa [e0] at this
    have lo : (out.toList.map adOf).length = ks.length := by rw [pb.length_eq]; exact lb0
    have pw : ((out.toList.map adOf).map (prOf H)).Pairwise (fun a b => a.1 < b.1 ∨ (a.1 = b.1 ∧ a.2 ≤ b.2)) := by
      rw [List.pairwise_map, List.pairwise_map]
      refine List.Pairwise.imp_of_mem (fun {u v} hu hv huv => ?_) p2
      obtain ⟨b1, g1, rfl⟩ := hall u hu
      obtain ⟨b2, g2, rfl⟩ := hall v hv
      rw [(tups b1 g1).ints, (tups b2 g2).ints] at huv
      exact code_lex (bdd b1 g1) (bdd b2 g2) huv
    generalize out.toList.map adOf = bs at eo hin pb lo pw
    have hH1 : ∀ b u, H b = some u → b ≠ h1.objs.size := fun b u e z => by
      subst z
      rw [I1.hok.fresh (Nat.le_refl _)] at e
      cases e
    have nP : H h1.objs.size = none := I1.hok.fresh (Nat.le_refl _)
    refine wpAny_pure ⟨_, rfl, .ref h1.objs.size, upd H h1.objs.size (.lst (bs.map V.ref)), I1.laid (t' := tk) (fun b u e => ?_) (Nat.le_refl _)
      (show ObjOk X.prog X.w _ _ _ (.lst (bs.map V.ref)) from ⟨by rw [List.length_map, lo, ← l3, sizeLine_eq]; omega, out.toList, e1, by rw [eo]; exact vals_refs _, by rw [Array.toArray_toList]; exact he1⟩), rfl, q (bs.map (prOf H)) bs _ _ (by rw [← hpr]; exact pb.map _) pw (same_upd nP) nP upd_same ?_⟩
    · have hlt : b < h1.objs.size := Heap.lt_size e
      rw [PyProof.Rows.sortedHeap_old (Nat.ne_of_lt hlt) (by rw [size_push']; exact Nat.lt_succ_of_lt hlt)]
      exact Heap.get?_push_of_some _ e
    · have fin : ∀ cs : List Addr, (∀ b ∈ cs, b ∈ bs0) → Paired (fun b (c : Int × Int) => upd H h1.objs.size (.lst (bs.map V.ref)) b = some (.tup [.int c.1, .int c.2])) cs (cs.map (prOf H)) := by
        intro cs hcs
        induction cs with
        | nil => exact .nil
        | cons b cs ih =>
          obtain ⟨c, _, hHb⟩ := hbs b (hcs b (by simp))
          have e : prOf H b = c := by unfold prOf; rw [hHb]
          refine .cons ?_ (ih fun b hb => hcs b (by simp [hb]))
          rw [upd_ne (hH1 b _ hHb), e]
          exact hHb
      exact fin bs hin
end
section
variable {X : Cx}
theorem pairsT_of {pins : List (Addr × Obj)} {σ : L2.St} {H : Hp} {s : Shared} (I : L2.Inv X pins σ H s) : ∀ {ps : List Addr} {kvs : List (List Key × V)}, Paired (fun p kv => ∃ b, H p = some (.tup [.ref b, kv.2]) ∧ H b = some (.tup (kv.1.map kV))) ps kvs →
    ∃ xs : List (List Key × Addr × Value), L2.KT H kvs xs ∧ xs.length = ps.length ∧
      ∀ (j : Nat) (x : List Key × Addr × Value), xs[j]? = some x → ∃ b, ps[j]? = some b ∧ IsTup s.heap b #[.ref x.2.1, x.2.2]
  | _, _, .nil => ⟨[], .nil, rfl, fun j q e => by simp at e⟩
  | _, _, .cons (a := p) (b := kv) ⟨b, hpb, hbk⟩ t => by
    obtain ⟨xs, r, hl, hp⟩ := pairsT_of I t
    obtain ⟨its, rv, ht, _⟩ := I.tuple (SqT.of (K := X.K) hpb)
    obtain ⟨u, y, ei, ru, ry⟩ := vals2 rv
    subst ei
    cases (show u = Value.ref b from ru)
    refine ⟨(kv.1, b, y) :: xs, .cons ⟨rfl, hbk, ry⟩ r, by rw [List.length_cons, List.length_cons, hl], fun j q e => ?_⟩
    cases j with
    | zero =>
      have e' : (kv.1, b, y) = q := Option.some.inj e
      subst e'
      exact ⟨p, rfl, ht⟩
    | succ j =>
      obtain ⟨c, e1, e2⟩ := hp j q (by simpa using e)
      exact ⟨c, by simpa using e1, e2⟩
theorem keysT_eq {H : Hp} : ∀ {kvs : List (List Key × V)} {xs : List (List Key × Addr × Value)}, L2.KT H kvs xs → kvs.map (·.1) = xs.map (·.1)
  | _, _, .nil => rfl
  | _, _, .cons h t => by rw [List.map_cons, List.map_cons, h.1, keysT_eq t]
theorem keysT_mem {H : Hp} : ∀ {kvs : List (List Key × V)} {xs : List (List Key × Addr × Value)}, L2.KT H kvs xs → ∀ x ∈ xs, H x.2.1 = some (.tup (x.1.map kV))
  | _, _, .nil => fun _ hx => nomatch hx
  | _, _, .cons h t => fun x hx => by
    rcases List.mem_cons.mp hx with rfl | hx
    · rw [← h.1]; exact h.2.1
    · exact keysT_mem t x hx
theorem allH_new : ∀ (ps acc : List (List Key × Addr × Value)), ((acc ++ ps).map (·.1)).Nodup → storedAllH acc ps = acc ++ ps
  | [], acc, _ => (List.append_nil acc).symm
  | p :: ps, acc, hn => by
    have hno : atKey acc p.1 = none := by
      cases e : atKey acc p.1 with
      | none => rfl
      | some q =>
        exfalso
        have hnm : p.1 ∉ acc.map (·.1) := by
          rw [List.map_append, List.map_cons] at hn
          intro hm
          exact (List.nodup_append.mp hn).2.2 _ hm _ List.mem_cons_self rfl
        refine hnm ?_
        unfold atKey at e
        obtain ⟨z, hz, _⟩ := Option.map_eq_some_iff.mp e
        have h1 := List.mem_of_find?_eq_some hz
        have h2 := List.find?_some hz
        simp at h2
        rw [← h2]
        exact List.mem_map_of_mem h1
    show storedAllH (storedH acc p.1 p.2.1 p.2.2) ps = _
    rw [storedH_new hno, allH_new ps _ (by rw [List.append_assoc]; exact hn), List.append_assoc]
    rfl
theorem call_dictPT (hc : X.calm = true) (hu : X.A.units + 65 < cLine) : CallR X (.type "dict") (rDictPT X.K) := by
  intro pins s σ H vs us Q I r h
  obtain ⟨a, ps, kvs, rfl, hq, hnd, hz, hp, q⟩ := h
  obtain ⟨u, rfl, rx⟩ := vals1 r
  cases rx
  obtain ⟨its, rv, pl, _⟩ := I.list hq
  have ei := refs_at rv
  subst ei
  obtain ⟨xs, rel, hl, hpr⟩ := pairsT_of I hp
  obtain ⟨o, n, ho, hcl, hd, hdat⟩ := pl
  have ek := keysT_eq rel
  have lpx : (xs.map fun x => (Value.ref x.2.1, x.2.2)).length = xs.length := List.length_map _
  have pi : PairItems s.heap (ps.map Value.ref).toArray (fun j => (ps[j]?).getD 0) (xs.map fun x => (Value.ref x.2.1, x.2.2)) := by
    refine ⟨by simp [hl], fun j k v e => ?_⟩
    rw [List.getElem?_map] at e
    obtain ⟨x, hx, ex⟩ := Option.map_eq_some_iff.mp e
    obtain ⟨b, hb, hT⟩ := hpr j x hx
    injection ex with ex1 ex2
    subst ex1 ex2
    refine ⟨by simp [hb], ?_⟩
    show PairAt s.heap ((ps[j]?).getD 0) _ _
    rw [hb]
    obtain ⟨ob, hob, hcb, m, hdb⟩ := hT
    exact .inl ⟨ob, hob, hcb, m, hdb⟩
  have keepk : ∀ h' : Heap, (∀ b o, s.heap.get? b = some o → h'.get? b = some o) → ∀ x ∈ xs, (tupleKind (mixKind X.prog X.w)).is h' x.1 x.2.1 := fun h' hk x hx =>
    key_of (I.kept (t' := 0) hk).hok (keysT_mem rel x hx)
  refine call_dict_pairsH (knd := tupleKind (mixKind X.prog X.w)) (ps := xs) (PairArg.list a _ _ _) (I.ok.hd hc) (show X.A.units + 2 < cLine by omega) ⟨⟨o, n, ho, hcl, hd, hdat⟩, pi⟩ ⟨lpx.symm, fun i k v e => ?_⟩
    (fun h' hk x hx => keepk h' (fun b o e => hk b o (Nat.ne_of_lt (Heap.lt_size e)) (fun z => nomatch z) e) x hx) (by rw [lpx, hl]; omega) fun h' tk hd' hk => ?_
  · have e2 : (xs.map fun x => (Value.ref x.2.1, x.2.2))[i]? = some (k, v) := e
    rw [List.getElem?_map] at e2
    obtain ⟨x, hx, ex⟩ := Option.map_eq_some_iff.mp e2
    injection ex with ex1 ex2
    subst ex1 ex2
    exact ⟨x.1, x.2.1, hx, rfl⟩
  · rw [allH_new xs [] (by rw [List.nil_append, ← ek]; exact hnd), List.nil_append] at hd'
    have nP : H s.heap.objs.size = none := I.hok.fresh (Nat.le_refl _)
    have hm : (s.heap.objs.size == sysModules) = false := beq_eq_false_iff_ne.mpr (Nat.ne_of_gt I.big)
    obtain ⟨oo, es, ep, g1, g2, g3, g4, _, g5⟩ := hd'
    refine ⟨.ref s.heap.objs.size, upd H s.heap.objs.size (.dT kvs), I.laid (t' := tk) (fun b o e => hk b o (fun z => nomatch z) e) (Nat.le_refl _)
      (show ObjOk X.prog X.w _ _ _ (.dT kvs) from ⟨by rw [Paired.length rel, hl]; omega, hm, xs, KT.keeps rel fun c ys ec => ?_, oo, es, ep, g1, g2, g3, g4, g5⟩), rfl, q _ nP⟩
    rw [upd_ne (fun z => by rw [z, nP] at ec; cases ec)]
    exact ec
end
theorem un65 {k : Nat} {A : Around} (hr : Room k A) : A.units + 65 < cLine := by
  have := hr.un
  omega
end K33
namespace K33
open PySem PySem.Spec PyProof.Rows L2
/-! ### the mirrors: what each def of the program computes, in plain Lean -/
/-- powers modulo -/
def powm (p w : Int) : Nat → Int
  | 0 => 1
  | n + 1 => powm p w n * w % p
def invOf (p w : Int) : Int := powm p w (p - 2).toNat
def dot (r c : List Int) : Int := (List.zipWith (fun a b => a * b) r c).sum
def ledOn (p : Int) (rows : List (List Int)) (c : List Int) : List Int := rows.map fun r => dot r c % p
/-- the columns of so many places -/
def colsOf (wide : Nat) (rows : List (List Int)) : List (List Int) := (List.range wide).map fun a => rows.map fun r => r.getD a 0
def timesR (p : Int) (one : List (List Int)) (wide : Nat) (other : List (List Int)) : List (List Int) := colsOf one.length ((colsOf wide other).map (ledOn p one))
def unitR (n h : Nat) : List Int := (List.range n).map fun a => if a = h then 1 else 0
def plainR (n : Nat) : List (List Int) := (List.range n).map (unitR n)
def nils (n : Nat) : List Int := List.replicate n 0
def noughtR (high wide : Nat) : List (List Int) := List.replicate high (nils wide)
def cornerR (w1 : Nat) (one : List (List Int)) (w2 : Nat) (other : List (List Int)) : List (List Int) := one.map (fun r => r ++ nils w2) ++ other.map (fun r => nils w1 ++ r)
def less (p : Int) (row : List Int) (n : Int) (other : List Int) : List Int := List.zipWith (fun a b => (a - n * b) % p) row other
def cleared (p : Int) (rows : List (List Int)) (place : Nat) (row : List Int) : List (List Int) := rows.map fun o => if o.getD place 0 ≠ 0 then less p o (o.getD place 0) row else o
/-- the reduction's state: what is left, what is found, the places -/
structure Rs where
  left : List (List Int)
  found : List (List Int)
  places : List Nat
/-- the first of some rows that is not 0 at a place -/
def firstAt (place : Nat) (rows : List (List Int)) : Option Nat := rows.findIdx? fun r => decide (r.getD place 0 ≠ 0)
def redStep (p : Int) (s : Rs) (place : Nat) : Rs :=
  match firstAt place s.left with
  | none => s
  | some k =>
    let row := (s.left.getD k []).map fun w => w * invOf p ((s.left.getD k []).getD place 0) % p
    ⟨cleared p (s.left.eraseIdx k) place row, cleared p s.found place row ++ [row], s.places ++ [place]⟩
def redTo (p : Int) (rows : List (List Int)) (n : Nat) : Rs := (List.range n).foldl (redStep p) ⟨rows, [], []⟩
def redRows (p : Int) (wide : Nat) (rows : List (List Int)) : List (List Int) := (redTo p rows wide).found
def redPlaces (p : Int) (wide : Nat) (rows : List (List Int)) : List Nat := (redTo p rows wide).places
/-- the column of a free place -/
def freeCol (p : Int) (wide : Nat) (rows : List (List Int)) (places : List Nat) (free : Nat) : List Int :=
  (List.zip rows places).foldl (fun c q => c.set q.2 (-(q.1.getD free 0) % p)) (unitR wide free)
def freeCols (p : Int) (wide : Nat) (rows : List (List Int)) (places : List Nat) : List (List Int) := ((List.range wide).filter fun f => !places.contains f).map (freeCol p wide rows places)
def kernelR (p : Int) (wide : Nat) (rows : List (List Int)) : List (List Int) := redRows p wide (freeCols p wide (redRows p wide rows) (redPlaces p wide rows))
def besideUnit (n : Nat) (rows : List (List Int)) : List (List Int) := List.zipWith (fun r u => r ++ u) rows (plainR n)
/-- undone: none, or the rows -/
def undoneR (p : Int) (n : Nat) (rows : List (List Int)) : Option (List (List Int)) :=
  if redPlaces p (2 * n) (besideUnit n rows) = List.range n then some ((redRows p (2 * n) (besideUnit n rows)).map fun r => r.drop n) else none
/-- a table: its width, its rows (the prime stands outside) -/
structure Tb where
  wide : Nat
  rows : List (List Int)
/-- a picture of a web of so many places with arrows -/
structure Pc where
  many : Nat
  arrows : List (Nat × Nat)
  sizes : List Nat
  tables : List Tb
def rawBar (many : Nat) (arrows : List (Nat × Nat)) (b e : Nat) : Pc :=
  let sizes := (List.range many).map fun q => if b ≤ q ∧ q ≤ e then 1 else 0
  ⟨many, arrows, sizes, arrows.map fun a => if sizes.getD a.1 0 + sizes.getD a.2 0 = 2 then ⟨1, plainR 1⟩ else ⟨sizes.getD a.1 0, noughtR (sizes.getD a.2 0) (sizes.getD a.1 0)⟩⟩
def tbCorner (one other : Tb) : Tb := ⟨one.wide + other.wide, cornerR one.wide one.rows other.wide other.rows⟩
def addPc (sz : List Nat × List Tb) (q : Pc) : List Nat × List Tb := (List.zipWith (fun a b => a + b) sz.1 q.sizes, List.zipWith tbCorner sz.2 q.tables)
def rawBeside (many : Nat) (arrows : List (Nat × Nat)) (ps : List Pc) : Pc :=
  let r := ps.foldl addPc (List.replicate many 0, arrows.map fun _ => ⟨0, noughtR 0 0⟩)
  ⟨many, arrows, r.1, r.2⟩
def rawBased (p : Int) (q : Pc) (ts : List Tb) : Pc :=
  ⟨q.many, q.arrows, q.sizes, List.zipWith (fun a t =>
    let u := (undoneR p (ts.getD a.1 ⟨0, []⟩).wide (ts.getD a.1 ⟨0, []⟩).rows).getD []
    ⟨(ts.getD a.1 ⟨0, []⟩).wide, timesR p (ts.getD a.2 ⟨0, []⟩).rows (ts.getD a.1 ⟨0, []⟩).wide (timesR p t.rows (ts.getD a.1 ⟨0, []⟩).wide u)⟩) q.arrows q.tables⟩
/-- where the columns of a stretch's places start -/
def startOf (q : Pc) (b place : Nat) : Nat := ((q.sizes.drop b).take (place - b)).sum
def widthOf (q : Pc) (b e : Nat) : Nat := startOf q b (e + 1)
def tabAt (q : Pc) (k : Nat) : Tb := q.tables.getD k ⟨0, []⟩
def arrAt (q : Pc) (k : Nat) : Nat × Nat := q.arrows.getD k (0, 0)
def szAt (q : Pc) (k : Nat) : Nat := q.sizes.getD k 0
def unitLed (p : Int) (q : Pc) (k at_ : Nat) : List Int := ledOn p (tabAt q k).rows (unitR (szAt q (arrAt q k).1) at_)
/-- a row with items put from a place on -/
def putAt (row : List Int) (i : Nat) (xs : List Int) : List Int := row.take i ++ xs ++ row.drop (i + xs.length)
def lostRow (p : Int) (q : Pc) (b e k at_ : Nat) : List Int :=
  putAt ((nils (widthOf q b e)).set (startOf q b (arrAt q k).1 + at_) 1) (startOf q b (arrAt q k).2) ((unitLed p q k at_).map fun w => -w % p)
def lostRows (p : Int) (q : Pc) (b e : Nat) : List (List Int) :=
  (List.range (e - b)).flatMap fun i => (List.range (szAt q (arrAt q (b + i)).1)).map (lostRow p q b e (b + i))
def meetRow (p : Int) (q : Pc) (b e k at_ : Nat) (row : List Int) : List Int :=
  (putAt (nils (widthOf q b e)) (startOf q b (arrAt q k).1) row).set (startOf q b (arrAt q k).2 + at_) (p - 1)
def askRows (p : Int) (q : Pc) (b e : Nat) : List (List Int) :=
  (List.range (e - b)).flatMap fun i => (tabAt q (b + i)).rows.mapIdx (fun at_ row => meetRow p q b e (b + i) at_ row)
def meetingRows (p : Int) (q : Pc) (b e : Nat) : List (List Int) := kernelR p (widthOf q b e) (askRows p q b e)
def keptRows (p : Int) (q : Pc) (b e : Nat) : List (List Int) := (meetingRows p q b e).map fun r => r.take (szAt q b) ++ nils (widthOf q b e - szAt q b)
def reachOf (p : Int) (q : Pc) (b e : Nat) : Int :=
  ((redRows p (widthOf q b e) (lostRows p q b e ++ keptRows p q b e)).length : Int) - ((redRows p (widthOf q b e) (lostRows p q b e)).length : Int)
def stretches (many : Nat) : List (Nat × Nat) := (List.range many).flatMap fun b => (List.range (many - b)).map fun i => (b, b + i)
/-- reaches, by stretches; 0 where there is none -/
def countOf (r : Nat → Nat → Int) (many b e : Nat) : Int :=
  r b e - (if 0 < b then r (b - 1) e else 0) - (if e + 1 < many then r b (e + 1) else 0) + (if 0 < b ∧ e + 1 < many then r (b - 1) (e + 1) else 0)
def barsOf (r : Nat → Nat → Int) (many : Nat) : List (Nat × Nat × Int) := ((stretches many).map fun s => (s.1, s.2, countOf r many s.1 s.2)).filter fun t => decide (0 < t.2.2)
/-! ### data in the heap -/
section
variable {K : PySem.W.Frag} {H H' H1 : Hp} {α β γ : Type}
theorem Same.upd {p : Addr} {o : HO} (h : H p = none) : Same H (upd H p o) := fun b u e => by rw [upd_ne (ne_of_none e h)]; exact e
theorem Same.mut {p : Addr} {o : HO} (e : Same H H') (h : H p = none) : Same H (L2.upd H' p o) := fun b u q => by rw [upd_ne (ne_of_none q h)]; exact e b u q
theorem Same.tup {a : Addr} {xs : List V} (e : Same H H') (h : SqT K H a xs) : SqT K H' a xs := by
  rcases h with (h | ⟨o, h⟩) | h
  · exact .inl (.inl (e _ _ h))
  · exact .inl (.inr ⟨o, e _ _ h⟩)
  · exact .inr h
/-- what never changes once it stands: all but lists and dicts -/
def stab : HO → Prop
  | .lst _ => False
  | .dK _ => False
  | .dT _ => False
  | _ => True
def Keep (H H' : Hp) : Prop := ∀ b o, stab o → H b = some o → H' b = some o
theorem Keep.of (e : Same H H') : Keep H H' := fun b o _ h => e b o h
theorem Keep.refl (H : Hp) : Keep H H := fun _ _ _ h => h
theorem Keep.trans {H2 : Hp} (a : Keep H H') (b : Keep H' H2) : Keep H H2 := fun c o s h => b c o s (a c o s h)
theorem Keep.put {p : Addr} {o u : HO} (e : Keep H H') (h : H' p = some u) (hs : ¬ stab u) : Keep H (L2.upd H' p o) := fun b v s q => by
  have q1 := e b v s q
  have hb : b ≠ p := fun z => by
    subst z
    rw [h] at q1
    cases q1
    exact hs s
  rw [upd_ne hb]
  exact q1
theorem Keep.putL {p : Addr} {o : HO} {xs : List V} (e : Keep H H') (h : H' p = some (.lst xs)) : Keep H (L2.upd H' p o) := Keep.put e h fun z => z
theorem Keep.new {p : Addr} {o : HO} (e : Keep H H') (h : H' p = none) : Keep H (L2.upd H' p o) := fun b v s q => by
  rw [upd_ne (ne_of_none (e b v s q) h)]
  exact e b v s q
theorem Keep.tup {a : Addr} {xs : List V} (e : Keep H H') (h : SqT K H a xs) : SqT K H' a xs := by
  rcases h with (h | ⟨o, h⟩) | h
  · exact .inl (.inl (e _ _ trivial h))
  · exact .inl (.inr ⟨o, e _ _ trivial h⟩)
  · exact .inr h
/-- what is said of a value that nothing changes -/
def Imm (ρ : Hp → V → α → Prop) : Prop := ∀ H H' v a, Keep H H' → ρ H v a → ρ H' v a
theorem Paired.keep {ρ : Hp → V → α → Prop} (m : Imm ρ) (e : Keep H H') : ∀ {xs : List V} {as : List α}, Paired (ρ H) xs as → Paired (ρ H') xs as
  | _, _, .nil => .nil
  | _, _, .cons r t => .cons (m _ _ _ _ e r) (Paired.keep m e t)
theorem Paired.len {R : β → α → Prop} : ∀ {xs : List β} {as : List α}, Paired R xs as → xs.length = as.length
  | _, _, .nil => rfl
  | _, _, .cons _ t => by rw [List.length_cons, List.length_cons, Paired.len t]
theorem Paired.at {R : β → α → Prop} : ∀ {xs : List β} {as : List α} {i : Nat} {x : β}, Paired R xs as → xs[i]? = some x → ∃ a, as[i]? = some a ∧ R x a
  | _, _, _, _, .nil, h => by simp at h
  | _, _, 0, _, .cons r _, h => by simp at h; subst h; exact ⟨_, rfl, r⟩
  | _, _, i + 1, _, .cons _ t, h => by simpa using Paired.at (i := i) t (by simpa using h)
theorem Paired.to {R : β → α → Prop} : ∀ {xs : List β} {as : List α} {i : Nat} {a : α}, Paired R xs as → as[i]? = some a → ∃ x, xs[i]? = some x ∧ R x a
  | _, _, _, _, .nil, h => by simp at h
  | _, _, 0, _, .cons r _, h => by simp at h; subst h; exact ⟨_, rfl, r⟩
  | _, _, i + 1, _, .cons _ t, h => by simpa using Paired.to (i := i) t (by simpa using h)
theorem Paired.of_at {R : β → α → Prop} : ∀ {xs : List β} {as : List α}, xs.length = as.length → (∀ (i : Nat) x a, xs[i]? = some x → as[i]? = some a → R x a) → Paired R xs as
  | [], [], _, _ => .nil
  | [], _ :: _, h, _ => by simp at h
  | _ :: _, [], h, _ => by simp at h
  | x :: xs, a :: as, h, k => .cons (k 0 x a rfl rfl) (Paired.of_at (by simpa using h) fun i x a h1 h2 => k (i + 1) x a (by simpa using h1) (by simpa using h2))
theorem Paired.app {R : β → α → Prop} : ∀ {xs ys : List β} {as bs : List α}, Paired R xs as → Paired R ys bs → Paired R (xs ++ ys) (as ++ bs)
  | _, _, _, _, .nil, h => h
  | _, _, _, _, .cons r t, h => .cons r (Paired.app t h)
theorem Paired.take' {R : β → α → Prop} : ∀ {xs : List β} {as : List α} (n : Nat), Paired R xs as → Paired R (xs.take n) (as.take n)
  | _, _, 0, _ => .nil
  | _, _, _ + 1, .nil => .nil
  | _, _, n + 1, .cons r t => .cons r (Paired.take' n t)
theorem Paired.drop' {R : β → α → Prop} : ∀ {xs : List β} {as : List α} (n : Nat), Paired R xs as → Paired R (xs.drop n) (as.drop n)
  | _, _, 0, h => h
  | _, _, _ + 1, .nil => .nil
  | _, _, n + 1, .cons _ t => Paired.drop' n t
theorem Paired.erase {R : β → α → Prop} : ∀ {xs : List β} {as : List α} (n : Nat), Paired R xs as → Paired R (xs.eraseIdx n) (as.eraseIdx n)
  | _, _, _, .nil => .nil
  | _, _, 0, .cons _ t => t
  | _, _, n + 1, .cons r t => .cons r (Paired.erase n t)
theorem Paired.imp {R R' : β → α → Prop} (f : ∀ x a, R x a → R' x a) : ∀ {xs : List β} {as : List α}, Paired R xs as → Paired R' xs as
  | _, _, .nil => .nil
  | _, _, .cons r t => .cons (f _ _ r) (Paired.imp f t)
theorem Paired.rep {R : β → α → Prop} {x : β} {a : α} (h : R x a) : ∀ n : Nat, Paired R (List.replicate n x) (List.replicate n a)
  | 0 => .nil
  | n + 1 => .cons h (Paired.rep h n)
/-- an int, a natural number, a truth value, a tuple of such -/
def rhI (_ : Hp) (v : V) (a : Int) : Prop := v = .int a
def rhN (_ : Hp) (v : V) (a : Nat) : Prop := v = .int a
def rhB (_ : Hp) (v : V) (a : Bool) : Prop := v = .bl a
def rhT (K : PySem.W.Frag) (r : Hp → V → α → Prop) (H : Hp) (v : V) (as : List α) : Prop := ∃ a xs, v = .ref a ∧ SqT K H a xs ∧ Paired (r H) xs as
abbrev rhRow (K : PySem.W.Frag) : Hp → V → List Int → Prop := rhT K rhI
abbrev rhMat (K : PySem.W.Frag) : Hp → V → List (List Int) → Prop := rhT K (rhRow K)
theorem immI : Imm rhI := fun _ _ _ _ _ h => h
theorem immN : Imm rhN := fun _ _ _ _ _ h => h
theorem immB : Imm rhB := fun _ _ _ _ _ h => h
theorem immT {r : Hp → V → α → Prop} (m : Imm r) : Imm (rhT K r) := fun _ _ _ _ e ⟨a, xs, h1, h2, h3⟩ => ⟨a, xs, h1, Keep.tup e h2, Paired.keep m e h3⟩
theorem immRow : Imm (rhRow K) := immT immI
theorem immMat : Imm (rhMat K) := immT immRow
theorem ints_of : ∀ {xs : List V} {as : List Int}, Paired (rhI H) xs as → xs = as.map V.int
  | _, _, .nil => rfl
  | _, _, .cons r t => by rw [List.map_cons, ← ints_of t]; rw [show _ = V.int _ from r]
theorem of_ints : ∀ as : List Int, Paired (rhI H) (as.map V.int) as
  | [] => .nil
  | _ :: as => .cons rfl (of_ints as)
theorem nats_of : ∀ {xs : List V} {as : List Nat}, Paired (rhN H) xs as → xs = (as.map fun n : Nat => (n : Int)).map V.int
  | _, _, .nil => rfl
  | _, _, .cons r t => by rw [List.map_cons, List.map_cons, ← nats_of t]; rw [show _ = V.int _ from r]
theorem of_nats : ∀ as : List Nat, Paired (rhN H) (as.map fun n : Nat => V.int (n : Int)) as
  | [] => .nil
  | _ :: as => .cons rfl (of_nats as)
theorem bls_of : ∀ {xs : List V} {as : List Bool}, Paired (rhB H) xs as → xs = as.map V.bl
  | _, _, .nil => rfl
  | _, _, .cons r t => by rw [List.map_cons, ← bls_of t]; rw [show _ = V.bl _ from r]
theorem rhRow.ex {v : V} {r : List Int} (h : rhRow K H v r) : ∃ a, v = .ref a ∧ SqT K H a (r.map V.int) := by
  obtain ⟨a, xs, h1, h2, h3⟩ := h
  exact ⟨a, h1, by rw [← ints_of h3]; exact h2⟩
theorem rhRow.mk {a : Addr} {r : List Int} (h : SqT K H a (r.map V.int)) : rhRow K H (.ref a) r := ⟨a, _, rfl, h, of_ints r⟩
theorem row_at {r : List Int} {i : Nat} (h : i < r.length) : (r.map V.int)[i]? = some (.int (r.getD i 0)) := by
  rw [List.getElem?_map, List.getElem?_eq_getElem h, List.getD_eq_getElem?_getD, List.getElem?_eq_getElem h]
  rfl
/-- what a def hands back that changes nothing -/
def Ret (r : Hp → V → α → Prop) (H : Hp) (Q : VK) (a : α) : Prop := ∀ v H', Same H H' → r H' v a → Q v H'

/-! ### comprehensions -/
section
variable {J : It} {n : Nat} {G : Hp → Prop} {Y : Nat → Hp → V → Hp → Prop} {g : TG} {tt : TT} {te : TE} {vs : List Nat} {σ : L2.St} {D : Addr} {Qd : Hp → Prop} {r : Hp → V → α → Prop}
theorem fm_get (as : List α) : ∀ n, n ≤ as.length → (List.range n).filterMap (fun i => as[i]?) = as.take n
  | 0, _ => by simp
  | n + 1, h => by
    rw [List.range_succ, List.filterMap_append, fm_get as n (by omega), List.take_add_one]
    rw [List.filterMap_cons, List.getElem?_eq_getElem (by omega)]
    rfl
/-- tests and items, a turn after another: f i tells which item (none: left out) -/
theorem lc_opt (w : Walk J n G Y) (f : Nat → Option α) (hz : n ≤ 100000) (im : Imm r) (hD : H1 D = none) (hG : ∀ H, Same H1 H → G H)
    (hs : ∀ (i : Nat) x H H' (KY : VK) (KN : Hp → Prop), i < n → Same H1 H → Y i H x H' → (∀ a y H4, f i = some a → Same H H4 → r H4 y a → KY y H4) → (f i = none → ∀ H4, Same H H4 → KN H4) →
      g x (wipe σ vs) H' fun σ2 H2 => wipe σ2 vs = wipe σ vs ∧ tt σ2 H2 fun b H3 => if b = true then te σ2 H3 KY else KN H3)
    (hd : ∀ H' ys, Same H1 H' → H' D = some (.lst ys) → Paired (r H') ys ((List.range n).filterMap f) → Qd H') :
    ∃ W : Nat → Nat → Hp → Prop, (∃ m, W 0 m (upd H1 D (.lst []))) ∧ ∀ i m H, W i m H →
      (J.stop i H ∧ Qd H) ∨ (J.go i H ∧ ∃ Nx : Hp → Prop, (∀ H', Nx H' → ∃ m', m' < m ∧ W (i + 1) m' H') ∧ ∀ x H', J.yld i H x H' → g x (wipe σ vs) H' fun σ2 H2 => wipe σ2 vs = wipe σ vs ∧ tt σ2 H2 fun b H3 =>
        if b = true then te σ2 H3 fun y H4 => ∃ acc, H4 D = some (.lst acc) ∧ acc.length < sizeLine ∧ Nx (upd H4 D (.lst (acc ++ [y]))) else Nx H3) := by
  refine lc_it w (fun i H => i ≤ n ∧ Same H1 H ∧ ∃ ys, H D = some (.lst ys) ∧ Paired (r H) ys ((List.range i).filterMap f)) ⟨Nat.zero_le _, Same.upd hD, [], upd_same, .nil⟩ (fun i H _ p => hG H p.2.1) (fun i x H H' hi p y => ?_) (fun H p => ?_)
  · obtain ⟨_, e, ys, h1, h2⟩ := p
    have hl : ys.length ≤ i := by
      have q := Paired.len h2
      have q2 := List.length_filterMap_le f (List.range i)
      rw [List.length_range] at q2
      omega
    refine hs i x H H' _ _ hi e y (fun a z H4 fa e4 ra => ⟨ys, e4 _ _ h1, Nat.lt_of_lt_of_le (by omega : ys.length < 100000) (by decide), hi, fun b o q => ?_, _, upd_same, ?_⟩) (fun fn H4 e4 => ⟨hi, fun b o q => e4 _ _ (e _ _ q), ys, e4 _ _ h1, ?_⟩)
    · rw [upd_ne (ne_of_none q hD)]
      exact e4 _ _ (e _ _ q)
    · have k4 : Keep H4 (upd H4 D (.lst (ys ++ [z]))) := Keep.putL (Keep.refl _) (e4 _ _ h1)
      rw [List.range_succ, List.filterMap_append]
      refine Paired.app (Paired.keep im ((Keep.of e4).trans k4) h2) ?_
      rw [List.filterMap_cons, fa]
      exact .cons (im _ _ _ _ k4 ra) .nil
    · rw [List.range_succ, List.filterMap_append, List.filterMap_cons, fn]
      rw [show List.filterMap f [] = [] from rfl, List.append_nil]
      exact Paired.keep im (Keep.of e4) h2
  · obtain ⟨_, e, ys, h1, h2⟩ := p
    exact hd H ys e h1 h2
/-- no test -/
theorem lc_all (w : Walk J n G Y) (as : List α) (hn : as.length = n) (hz : n ≤ 100000) (im : Imm r) (hD : H1 D = none) (hG : ∀ H, Same H1 H → G H)
    (hs : ∀ (i : Nat) x a H H' (Q : VK), as[i]? = some a → Same H1 H → Y i H x H' → (∀ y H4, Same H H4 → r H4 y a → Q y H4) → g x (wipe σ vs) H' fun σ2 H2 => wipe σ2 vs = wipe σ vs ∧ te σ2 H2 Q)
    (hd : ∀ H' ys, Same H1 H' → H' D = some (.lst ys) → Paired (r H') ys as → Qd H') :
    ∃ W : Nat → Nat → Hp → Prop, (∃ m, W 0 m (upd H1 D (.lst []))) ∧ ∀ i m H, W i m H →
      (J.stop i H ∧ Qd H) ∨ (J.go i H ∧ ∃ Nx : Hp → Prop, (∀ H', Nx H' → ∃ m', m' < m ∧ W (i + 1) m' H') ∧ ∀ x H', J.yld i H x H' → g x (wipe σ vs) H' fun σ2 H2 => wipe σ2 vs = wipe σ vs ∧ tYes σ2 H2 fun b H3 =>
        if b = true then te σ2 H3 fun y H4 => ∃ acc, H4 D = some (.lst acc) ∧ acc.length < sizeLine ∧ Nx (upd H4 D (.lst (acc ++ [y]))) else Nx H3) := by
  refine lc_opt w (fun i => as[i]?) hz im hD hG (fun i x H H' KY KN hi e y ky _ => ?_) (fun H' ys e h1 h2 => ?_)
  · have hi' : i < as.length := by omega
    exact hs i x as[i] H H' KY (by simp [hi']) e y fun z H4 e4 ra => ky as[i] z H4 (by simp [hi']) e4 ra
  · rw [fm_get as n (by omega), ← hn, List.take_length] at h2
    exact hd H' ys e h1 h2
/-- a new pair met by (a, b) -/
theorem g_pair {i j : Nat} {σ : L2.St} {T : Addr} {x y : V} {Q : L2.St → Hp → Prop} {H : Hp} (h : H T = some (.tup [x, y])) (q : Q ((σ.set i (some x)).set j (some y)) H) :
    gTup K 2 (gCons (gName i) (gCons (gName j) gNil)) (.ref T) σ H Q := ⟨T, _, rfl, SqT.of h, rfl, _, _, rfl, _, _, rfl, rfl, q⟩
end
end
section
variable {K : PySem.W.Frag} {a b : Addr} {xs ys : List V}
/-- a new pair of the items at i -/
def YPr (xs ys : List V) : Nat → Hp → V → Hp → Prop := fun i H v H' => ∃ t x y, v = .ref t ∧ H t = none ∧ H' = upd H t (.tup [x, y]) ∧ xs[i]? = some x ∧ ys[i]? = some y
/-- a new pair of i and the item at i -/
def YEn (ys : List V) : Nat → Hp → V → Hp → Prop := fun i H v H' => ∃ t y, v = .ref t ∧ H t = none ∧ H' = upd H t (.tup [.int (i : Nat), y]) ∧ ys[i]? = some y
theorem wk_zipT {n : Nat} (h1 : n = xs.length) (h2 : n = ys.length) : Walk (RZ.ItzT K a b) n (fun H => SqT K H a xs ∧ SqT K H b ys) (YPr xs ys) :=
  ⟨fun i _ hi q => ⟨xs, ys, xs[i]'(by omega), ys[i]'(by omega), q.1, q.2, by simp [show i < xs.length by omega], by simp [show i < ys.length by omega]⟩, fun _ q => ⟨xs, ys, q.1, q.2, by omega⟩,
    fun i H v H' _ q ⟨t, x, z, e1, e2, e3, e4, e5⟩ => ⟨t, x, z, e1, e2, e3, e4 xs q.1, e5 ys q.2⟩⟩
theorem wk_zipL {n : Nat} (h1 : n = xs.length) (h2 : n = ys.length) : Walk (Itz K a b) n (fun H => SqL K H a xs ∧ SqL K H b ys) (YPr xs ys) :=
  ⟨fun i _ hi q => ⟨xs, ys, xs[i]'(by omega), ys[i]'(by omega), q.1, q.2, by simp [show i < xs.length by omega], by simp [show i < ys.length by omega]⟩, fun _ q => ⟨xs, ys, q.1, q.2, by omega⟩,
    fun i H v H' _ q ⟨t, x, z, e1, e2, e3, e4, e5⟩ => ⟨t, x, z, e1, e2, e3, e4 xs q.1, e5 ys q.2⟩⟩
theorem wk_zipLT {n : Nat} (h1 : n = xs.length) (h2 : n = ys.length) : Walk (ItzLT K a b xs ys) n (fun H => SqL K H a xs ∧ SqT K H b ys) (YPr xs ys) :=
  ⟨fun i _ hi q => ⟨q.1, q.2, xs[i]'(by omega), ys[i]'(by omega), by simp [show i < xs.length by omega], by simp [show i < ys.length by omega]⟩, fun _ q => ⟨q.1, q.2, by omega, by omega, .inl h1⟩,
    fun i H v H' _ q ⟨t, x, z, e1, e2, e3, e4, e5⟩ => ⟨t, x, z, e1, e2, e3, e4, e5⟩⟩
theorem wk_enumT : Walk (IteT K a) xs.length (fun H => SqT K H a xs) (YEn xs) :=
  ⟨fun i _ hi q => ⟨xs, xs[i], q, by simp [hi]⟩, fun _ q => ⟨xs, q, rfl⟩, fun i H v H' _ q ⟨t, x, e1, e2, e3, e4⟩ => ⟨t, x, e1, e2, e3, e4 xs q⟩⟩
theorem wk_enumS {z : Str} : Walk (IteS z) z.cps.size (fun _ => True) (YEn (z.cps.toList.map fun c => .str ⟨#[c]⟩)) :=
  ⟨fun i _ hi _ => hi, fun _ _ => rfl, fun i H v H' _ _ ⟨t, c, e1, e2, e3, e4⟩ => ⟨t, .str ⟨#[c]⟩, e1, e2, e3, by simp [e4]⟩⟩
end
/-! ### what the top leaves -/
/-- where a name of the module stands -/
structure Txt (K : PySem.W.Frag) (mg : Str → Option Value) : Prop where
  b_abs : mg "abs" = none
  b_all : mg "all" = none
  b_any : mg "any" = none
  b_bool : mg "bool" = none
  b_dict : mg "dict" = none
  b_enumerate : mg "enumerate" = none
  b_int : mg "int" = none
  b_isinstance : mg "isinstance" = none
  b_len : mg "len" = none
  b_list : mg "list" = none
  b_range : mg "range" = none
  b_sorted : mg "sorted" = none
  b_str : mg "str" = none
  b_sum : mg "sum" = none
  b_tuple : mg "tuple" = none
  b_zip : mg "zip" = none
  c_MOST : ∃ t, mg "MOST" = some (.int 12 t)
  c_MOST_BESIDE : ∃ t, mg "MOST_BESIDE" = some (.int 12 t)
  c_MOST_PLACES : ∃ t, mg "MOST_PLACES" = some (.int 8 t)
  c_MOST_SIZE : ∃ t, mg "MOST_SIZE" = some (.int 6 t)
  c_BACKWARD : ∃ t, mg "BACKWARD" = some (.str "<" t)
  c_FORWARD : ∃ t, mg "FORWARD" = some (.str ">" t)
  g_Picture : mg "Picture" = some (.ref (ad K "Picture"))
  g_Table : mg "Table" = some (.ref (ad K "Table"))
  g_Web : mg "Web" = some (.ref (ad K "Web"))
  g_PRIMES : mg "PRIMES" = some (.ref (ad K "PRIMES"))
/-! _law_purse (level 1); slots 0:_law_script 1:_law_cell -/
def t_law_purse (K : PySem.W.Frag) : TS :=
  (tRet (tLst (tCons (tLc (iList K (tSl (rSlL K) (tVar 0) tNoPart (tPart (tC (.int 70))))) (gName 1) tYes (tCB rAbsI (tCons (tCB rIntOf (tCons (tVar 1) tNil)) tNil)) [1]) (tCons (tC (.int 0)) (tCons (tC (.int 0)) (tCons (tOp rAddI (tC (.int 4099)) (tOp rMulI (tC (.int 31)) (tCB (rLenS K) (tCons (tSl (rSlL K) (tVar 0) tNoPart (tPart (tC (.int 70)))) tNil)))) (tCons (tC (.int 0)) tNil)))))))
abbrev n_law_purse : List Str := ["_law_script", "_law_cell"]
abbrev p_law_purse : List Str := ["_law_script"]
/-! _law_part (level 1); slots 0:_law_purse_here 1:_law_many 2:_law_cell 3:_law_told 4:_law_made -/
def t_law_part (K : PySem.W.Frag) : TS :=
  (tSeq (tIfS (tAnd (tTest (tOp rLtI (tOp (rIxL K) (tVar 0) (tC (.int 2))) (tC (.int 1)))) (tTest (tOp rLtI (tOp (rIxL K) (tVar 0) (tC (.int 1))) (tCB (rLenS K) (tCons (tOp (rIxL K) (tVar 0) (tC (.int 0))) tNil))))) (tSeq (tAsg (tOp (rIxL K) (tOp (rIxL K) (tVar 0) (tC (.int 0))) (tOp (rIxL K) (tVar 0) (tC (.int 1)))) (gName 2))
  (tSeq (tAsg (tOp rAddI (tOp (rIxL K) (tVar 0) (tC (.int 1))) (tC (.int 1))) (gSub (tVar 0) (tC (.int 1)) rSetL))
  (tSeq (tAsg (tOp rModI (tCB rIntOf (tCons (tOp rAddI (tOp rAddI (tOp rMulI (tOp (rIxL K) (tVar 0) (tC (.int 3))) (tC (.int 48271))) (tVar 2)) (tC (.int 9))) tNil)) (tC (.int 2147483399))) (gSub (tVar 0) (tC (.int 3)) rSetL))
  (tAsg (tIf (tTest (tOp rGeI (tVar 2) (tOp rPowI (tC (.int 10)) (tC (.int 13))))) (tVar 2) (tC (.int 0))) (gSub (tVar 0) (tC (.int 2)) rSetL))))) tNext)
  (tSeq (tIfS (tTest (tOp rGtI (tOp (rIxL K) (tVar 0) (tC (.int 2))) (tC (.int 0)))) (tSeq (tAsg (tOp rModI (tCB rIntOf (tCons (tOp (rIxL K) (tVar 0) (tC (.int 2))) tNil)) (tVar 1)) (gName 3))
  (tSeq (tAsg (tOp rFdvI (tOp (rIxL K) (tVar 0) (tC (.int 2))) (tVar 1)) (gSub (tVar 0) (tC (.int 2)) rSetL))
  (tRet (tVar 3)))) tNext)
  (tSeq (tAsg (tOp rAddI (tOp (rIxL K) (tVar 0) (tC (.int 4))) (tC (.int 1))) (gSub (tVar 0) (tC (.int 4)) rSetL))
  (tSeq (tAsg (tOp rModI (tCB rIntOf (tCons (tOp rMulI (tOp rAddI (tOp (rIxL K) (tVar 0) (tC (.int 3))) (tOp rMulI (tC (.int 62089911)) (tOp (rIxL K) (tVar 0) (tC (.int 4))))) (tC (.int 69621))) tNil)) (tC (.int 2147483563))) (gName 4))
  (tSeq (tAsg (tOp rModI (tCB rIntOf (tCons (tOp rMulI (tVar 4) (tOp rAddI (tOp rFdvI (tVar 4) (tC (.int 1499))) (tC (.int 40014)))) tNil)) (tC (.int 2147483647))) (gName 4))
  (tSeq (tAsg (tOp rModI (tCB rIntOf (tCons (tOp rMulI (tVar 4) (tOp rAddI (tOp rFdvI (tVar 4) (tC (.int 2777))) (tC (.int 39373)))) tNil)) (tC (.int 2147483629))) (gName 4))
  (tRet (tOp rModI (tCB rIntOf (tCons (tOp rFdvI (tVar 4) (tC (.int 64))) tNil)) (tVar 1)))))))))
abbrev n_law_part : List Str := ["_law_purse_here", "_law_many", "_law_cell", "_law_told", "_law_made"]
abbrev p_law_part : List Str := ["_law_purse_here", "_law_many"]
/-! _law_one (level 2); slots 0:_law_purse_here 1:_law_some -/
def t_law_one (K : PySem.W.Frag) (sp_law_part : Sp) : TS :=
  (tRet (tOp (rIxL K) (tVar 1) (tCall sp_law_part [] E0 (tCons (tVar 0) (tCons (tCB (rLenS K) (tCons (tVar 1) tNil)) tNil)))))
abbrev n_law_one : List Str := ["_law_purse_here", "_law_some"]
abbrev p_law_one : List Str := ["_law_purse_here", "_law_some"]
/-! RawWeb.__init__ (level 1); slots 0:self 1:many 2:arrows -/
def t_RawWeb_init (K : PySem.W.Frag) : TS :=
  (tSeq (sFld K (tVar 0) (tVar 1) "many")
  (sFld K (tVar 0) (tVar 2) "arrows"))
abbrev n_RawWeb_init : List Str := ["self", "many", "arrows"]
abbrev p_RawWeb_init : List Str := ["self", "many", "arrows"]
/-! line (level 3); slots 0:word 1:arrows 2:at 3:sign -/
def t_line (K : PySem.W.Frag) (sp_RawWeb_init : Sp) : TS :=
  (tSeq (tIfS (tOr (tNot (tB (tCB (rIsi K) (tCons (tVar 0) (tCons (tC (.ty "str")) tNil))))) (tTest (tOp rGtI (tCB rLenZ (tCons (tVar 0) tNil)) (tOp rSubI (tC (.int 8)) (tC (.int 1)))))) tNever tNext)
  (tSeq (tIfS (tNot (tB (tCB (rAll K) (tCons (tLc (iStr (tVar 0)) (gName 3) tYes (tOp rSign (tVar 3) (tOp rAddS (tC (.str ">")) (tC (.str "<")))) [3]) tNil)))) tNever tNext)
  (tSeq (tAsg (tLc (iEnumS (tCons (tVar 0) tNil)) (gTup K 2 (gCons (gName 2) (gCons (gName 3) gNil))) tYes (tIf (tTest (tOp rEq (tVar 3) (tC (.str ">")))) (tTup (tCons (tVar 2) (tCons (tOp rAddI (tVar 2) (tC (.int 1))) tNil))) (tTup (tCons (tOp rAddI (tVar 2) (tC (.int 1))) (tCons (tVar 2) tNil)))) [2, 3]) (gName 1))
  (tRet (tMake (ad K "RawWeb") sp_RawWeb_init [] E0 (tCons (tOp rAddI (tCB rLenZ (tCons (tVar 0) tNil)) (tC (.int 1))) (tCons (tCB (rTupOf K) (tCons (tVar 1) tNil)) tNil)))))))
abbrev n_line : List Str := ["word", "arrows", "at", "sign"]
abbrev p_line : List Str := ["word"]
/-! _law_line (level 4); slots 0:_law_purse_here 1:_law_most 2:_law_word 3:_law_sign -/
def t_law_line (K : PySem.W.Frag) (sp_law_part : Sp) (sp_law_one : Sp) (sp_line : Sp) : TS :=
  (tSeq (tAsg (tBM K "str" (rJoin K) (tC (.str "")) (tCons (tLc (iRng1 (tCons (tCall sp_law_part [] E0 (tCons (tVar 0) (tCons (tOp rAddI (tVar 1) (tC (.int 1))) tNil))) tNil)) (gName 3) tYes (tCall sp_law_one [] E0 (tCons (tVar 0) (tCons (tLst (tCons (tC (.str "<")) (tCons (tC (.str ">")) tNil))) tNil))) [3]) tNil)) (gName 2))
  (tRet (tTup (tCons (tVar 2) (tCons (tCall sp_line [] E0 (tCons (tVar 2) tNil)) tNil)))))
abbrev n_law_line : List Str := ["_law_purse_here", "_law_most", "_law_word", "_law_sign"]
abbrev p_law_line : List Str := ["_law_purse_here", "_law_most"]
/-! _law_pairs (level 1); slots 0:_law_many 1:_law_found 2:_law_begin 3:_law_end -/
def t_law_pairs (K : PySem.W.Frag) : TS :=
  (tSeq (tAsg (tLst tNil) (gName 1))
  (tSeq (tFor (iRng1 (tCons (tVar 0) tNil)) (gName 2) (tDrop (tBM K "list" rExtend (tVar 1) (tCons (tLc (iRng1 (tCons (tVar 0) tNil)) (gName 3) tYes (tTup (tCons (tVar 2) (tCons (tVar 3) tNil))) [3]) tNil))))
  (tRet (tVar 1))))
abbrev n_law_pairs : List Str := ["_law_many", "_law_found", "_law_begin", "_law_end"]
abbrev p_law_pairs : List Str := ["_law_many"]
/-! _law_stretches (level 2); slots 0:_law_many 1:_law_begin 2:_law_end -/
def t_law_stretches (K : PySem.W.Frag) (sp_law_pairs : Sp) : TS :=
  (tRet (tLc (iList K (tCall sp_law_pairs [] E0 (tCons (tVar 0) tNil))) (gTup K 2 (gCons (gName 1) (gCons (gName 2) gNil))) (tTest (tOp rLeI (tVar 1) (tVar 2))) (tTup (tCons (tVar 1) (tCons (tVar 2) tNil))) [1, 2]))
abbrev n_law_stretches : List Str := ["_law_many", "_law_begin", "_law_end"]
abbrev p_law_stretches : List Str := ["_law_many"]
/-! is_line (level 1); slots 0:web 1:at 2:arrow -/
def t_is_line (K : PySem.W.Frag) : TS :=
  (tSeq (tIfS (tTest (tOp rNe (tCB (rLenS K) (tCons (tFld K (tVar 0) "arrows") tNil)) (tOp rSubI (tFld K (tVar 0) "many") (tC (.int 1))))) (tRet (tC (.bl false))) tNext)
  (tRet (tCB (rAll K) (tCons (tLc (iEnumT K (tCons (tFld K (tVar 0) "arrows") tNil)) (gTup K 2 (gCons (gName 1) (gCons (gName 2) gNil))) tYes (tOp (rInT K) (tVar 2) (tTup (tCons (tTup (tCons (tVar 1) (tCons (tOp rAddI (tVar 1) (tC (.int 1))) tNil))) (tCons (tTup (tCons (tOp rAddI (tVar 1) (tC (.int 1))) (tCons (tVar 1) tNil))) tNil)))) [1, 2]) tNil))))
abbrev n_is_line : List Str := ["web", "at", "arrow"]
abbrev p_is_line : List Str := ["web"]
/-! is_integer (level 1); slots 0:thing -/
def t_is_integer (K : PySem.W.Frag) : TS :=
  (tRet (tAndV (tCB (rIsi K) (tCons (tVar 0) (tCons (tC (.ty "int")) tNil))) (tNotV (tCB (rIsi K) (tCons (tVar 0) (tCons (tC (.ty "bool")) tNil))))))
abbrev n_is_integer : List Str := ["thing"]
abbrev p_is_integer : List Str := ["thing"]
/-! is_prime (level 2); slots 0:thing -/
def t_is_prime (K : PySem.W.Frag) (sp_is_integer : Sp) : TS :=
  (tRet (tAndV (tCall sp_is_integer [] E0 (tCons (tVar 0) tNil)) (tOp (rIn K false) (tVar 0) (tC (.ref (ad K "PRIMES"))))))
abbrev n_is_prime : List Str := ["thing"]
abbrev p_is_prime : List Str := ["thing"]
/-! check_prime (level 3); slots 0:thing -/
def t_check_prime (K : PySem.W.Frag) (sp_is_prime : Sp) : TS :=
  (tIfS (tNot (tB (tCall sp_is_prime [] E0 (tCons (tVar 0) tNil)))) tNever tNext)
abbrev n_check_prime : List Str := ["thing"]
abbrev p_check_prime : List Str := ["thing"]
/-! is_within (level 2); slots 0:thing 1:least 2:most -/
def t_is_within (K : PySem.W.Frag) (sp_is_integer : Sp) : TS :=
  (tRet (tAndV (tCall sp_is_integer [] E0 (tCons (tVar 0) tNil)) (tChain rLeI rLeI (tVar 1) (tVar 0) (tVar 2))))
abbrev n_is_within : List Str := ["thing", "least", "most"]
abbrev p_is_within : List Str := ["thing", "least", "most"]
/-! is_number (level 3); slots 0:thing 1:most -/
def t_is_number (K : PySem.W.Frag) (sp_is_within : Sp) : TS :=
  (tRet (tCall sp_is_within [] E0 (tCons (tVar 0) (tCons (tC (.int 0)) (tCons (tVar 1) tNil)))))
abbrev n_is_number : List Str := ["thing", "most"]
abbrev p_is_number : List Str := ["thing", "most"]
/-! check_stretch (level 4); slots 0:web 1:begin 2:end -/
def t_check_stretch (K : PySem.W.Frag) (sp_is_number : Sp) : TS :=
  (tIfS (tOr (tNot (tB (tCall sp_is_number [] E0 (tCons (tVar 1) (tCons (tOp rSubI (tFld K (tVar 0) "many") (tC (.int 1))) tNil))))) (tOr (tNot (tB (tCall sp_is_number [] E0 (tCons (tVar 2) (tCons (tOp rSubI (tFld K (tVar 0) "many") (tC (.int 1))) tNil))))) (tTest (tOp rGtI (tVar 1) (tVar 2))))) tNever tNext)
abbrev n_check_stretch : List Str := ["web", "begin", "end"]
abbrev p_check_stretch : List Str := ["web", "begin", "end"]
/-! Table.keep (level 1); slots 0:self 1:prime 2:wide 3:rows -/
def t_Table_keep (K : PySem.W.Frag) : TS :=
  (tSeq (sFld K (tVar 0) (tVar 1) "prime")
  (tSeq (sFld K (tVar 0) (tVar 2) "wide")
  (tSeq (sFld K (tVar 0) (tVar 3) "rows")
  (sFld K (tVar 0) (tCB (rLenS K) (tCons (tVar 3) tNil)) "high"))))
abbrev n_Table_keep : List Str := ["self", "prime", "wide", "rows"]
abbrev p_Table_keep : List Str := ["self", "prime", "wide", "rows"]
/-! RawTable.__init__ (level 2); slots 0:self 1:prime 2:wide 3:rows -/
def t_RawTable_init (K : PySem.W.Frag) (sp_RawTable_keep : Sp) : TS :=
  (tDrop (tMeth (ad K "RawTable") "keep" sp_RawTable_keep [] E0 (tVar 0) (tCons (tVar 1) (tCons (tVar 2) (tCons (tVar 3) tNil)))))
abbrev n_RawTable_init : List Str := ["self", "prime", "wide", "rows"]
abbrev p_RawTable_init : List Str := ["self", "prime", "wide", "rows"]
/-! raw_plain (level 4); slots 0:prime 1:size 2:here 3:at -/
def t_raw_plain (K : PySem.W.Frag) (sp_RawTable_init : Sp) : TS :=
  (tRet (tMake (ad K "RawTable") sp_RawTable_init [] E0 (tCons (tVar 0) (tCons (tVar 1) (tCons (tCB (rTupOf K) (tCons (tLc (iRng1 (tCons (tVar 1) tNil)) (gName 2) tYes (tCB (rTupOf K) (tCons (tLc (iRng1 (tCons (tVar 1) tNil)) (gName 3) tYes (tCB rIntOf (tCons (tOp rEq (tVar 3) (tVar 2)) tNil)) [3]) tNil)) [2]) tNil)) tNil)))))
abbrev n_raw_plain : List Str := ["prime", "size", "here", "at"]
abbrev p_raw_plain : List Str := ["prime", "size"]
/-! raw_nought (level 4); slots 0:prime 1:high 2:wide 3:row -/
def t_raw_nought (K : PySem.W.Frag) (sp_RawTable_init : Sp) : TS :=
  (tRet (tMake (ad K "RawTable") sp_RawTable_init [] E0 (tCons (tVar 0) (tCons (tVar 2) (tCons (tCB (rTupOf K) (tCons (tLc (iRng1 (tCons (tVar 1) tNil)) (gName 3) tYes (tOp (rRepA K) (tTup (tCons (tC (.int 0)) tNil)) (tVar 2)) [3]) tNil)) tNil)))))
abbrev n_raw_nought : List Str := ["prime", "high", "wide", "row"]
abbrev p_raw_nought : List Str := ["prime", "high", "wide"]
/-! Picture.keep (level 1); slots 0:self 1:web 2:prime 3:sizes 4:tables -/
def t_Picture_keep (K : PySem.W.Frag) : TS :=
  (tSeq (sFld K (tVar 0) (tVar 1) "web")
  (tSeq (sFld K (tVar 0) (tVar 2) "prime")
  (tSeq (sFld K (tVar 0) (tVar 3) "sizes")
  (sFld K (tVar 0) (tVar 4) "tables"))))
abbrev n_Picture_keep : List Str := ["self", "web", "prime", "sizes", "tables"]
abbrev p_Picture_keep : List Str := ["self", "web", "prime", "sizes", "tables"]
/-! RawPicture.__init__ (level 2); slots 0:self 1:web 2:prime 3:sizes 4:tables -/
def t_RawPicture_init (K : PySem.W.Frag) (sp_RawPicture_keep : Sp) : TS :=
  (tDrop (tMeth (ad K "RawPicture") "keep" sp_RawPicture_keep [] E0 (tVar 0) (tCons (tVar 1) (tCons (tVar 2) (tCons (tVar 3) (tCons (tVar 4) tNil))))))
abbrev n_RawPicture_init : List Str := ["self", "web", "prime", "sizes", "tables"]
abbrev p_RawPicture_init : List Str := ["self", "web", "prime", "sizes", "tables"]
/-! raw_bar (level 5); slots 0:web 1:prime 2:begin 3:end 4:sizes 5:tables 6:one 7:other 8:both 9:place -/
def t_raw_bar (K : PySem.W.Frag) (sp_raw_plain : Sp) (sp_raw_nought : Sp) (sp_RawPicture_init : Sp) : TS :=
  (tSeq (tAsg (tCB (rTupOf K) (tCons (tLc (iRng1 (tCons (tFld K (tVar 0) "many") tNil)) (gName 9) tYes (tCB rIntOf (tCons (tChain rLeI rLeI (tVar 2) (tVar 9) (tVar 3)) tNil)) [9]) tNil)) (gName 4))
  (tSeq (tAsg (tLst tNil) (gName 5))
  (tSeq (tFor (iTup K (tFld K (tVar 0) "arrows")) (gTup K 2 (gCons (gName 6) (gCons (gName 7) gNil))) (tSeq (tAsg (tOp rEq (tOp rAddI (tOp (rIxT K) (tVar 4) (tVar 6)) (tOp (rIxT K) (tVar 4) (tVar 7))) (tC (.int 2))) (gName 8))
  (tDrop (tBM K "list" rAppend (tVar 5) (tCons (tIf (tB (tVar 8)) (tCall sp_raw_plain [] E0 (tCons (tVar 1) (tCons (tC (.int 1)) tNil))) (tCall sp_raw_nought [] E0 (tCons (tVar 1) (tCons (tOp (rIxT K) (tVar 4) (tVar 7)) (tCons (tOp (rIxT K) (tVar 4) (tVar 6)) tNil))))) tNil)))))
  (tRet (tMake (ad K "RawPicture") sp_RawPicture_init [] E0 (tCons (tVar 0) (tCons (tVar 1) (tCons (tVar 4) (tCons (tCB (rTupOf K) (tCons (tVar 5) tNil)) tNil)))))))))
abbrev n_raw_bar : List Str := ["web", "prime", "begin", "end", "sizes", "tables", "one", "other", "both", "place"]
abbrev p_raw_bar : List Str := ["web", "prime", "begin", "end"]
/-! bar_of (level 6); slots 0:web 1:prime 2:begin 3:end -/
def t_bar_of (K : PySem.W.Frag) (sp_is_line : Sp) (sp_check_prime : Sp) (sp_check_stretch : Sp) (sp_raw_bar : Sp) : TS :=
  (tSeq (tIfS (tNot (tB (tCall sp_is_line [] E0 (tCons (tVar 0) tNil)))) tNever tNext)
  (tSeq (tDrop (tCall sp_check_prime [] E0 (tCons (tVar 1) tNil)))
  (tSeq (tDrop (tCall sp_check_stretch [] E0 (tCons (tVar 0) (tCons (tVar 2) (tCons (tVar 3) tNil)))))
  (tRet (tCall sp_raw_bar [] E0 (tCons (tVar 0) (tCons (tVar 1) (tCons (tVar 2) (tCons (tVar 3) tNil)))))))))
abbrev n_bar_of : List Str := ["web", "prime", "begin", "end"]
abbrev p_bar_of : List Str := ["web", "prime", "begin", "end"]
/-! Web.__eq__ (level 1); slots 0:self 1:other -/
def t_Web_eq (K : PySem.W.Frag) : TS :=
  (tRet (tAndV (tCB (rIsi K) (tCons (tVar 1) (tCons (tC (.ref (ad K "Web"))) tNil))) (tOp (rEqD K) (tTup (tCons (tFld K (tVar 0) "many") (tCons (tFld K (tVar 0) "arrows") tNil))) (tTup (tCons (tFld K (tVar 1) "many") (tCons (tFld K (tVar 1) "arrows") tNil))))))
abbrev n_Web_eq : List Str := ["self", "other"]
abbrev p_Web_eq : List Str := ["self", "other"]
/-! is_picture_of (level 3); slots 0:web 1:prime 2:thing -/
def t_is_picture_of (K : PySem.W.Frag) (D_web : Eqv) : TS :=
  (tRet (tAndV (tCB (rIsi K) (tCons (tVar 2) (tCons (tC (.ref (ad K "Picture"))) tNil))) (tAndV (tOp (rEqG D_web) (tFld K (tVar 2) "web") (tVar 0)) (tOp rEq (tFld K (tVar 2) "prime") (tVar 1)))))
abbrev n_is_picture_of : List Str := ["web", "prime", "thing"]
abbrev p_is_picture_of : List Str := ["web", "prime", "thing"]
/-! raw_corner (level 4); slots 0:one 1:other 2:rows 3:row -/
def t_raw_corner (K : PySem.W.Frag) (sp_RawTable_init : Sp) : TS :=
  (tSeq (tAsg (tOp rCat (tLc (iTup K (tFld K (tVar 0) "rows")) (gName 3) tYes (tOp (rCatA K) (tVar 3) (tOp (rRepA K) (tTup (tCons (tC (.int 0)) tNil)) (tFld K (tVar 1) "wide"))) [3]) (tLc (iTup K (tFld K (tVar 1) "rows")) (gName 3) tYes (tOp (rCatA K) (tOp (rRepA K) (tTup (tCons (tC (.int 0)) tNil)) (tFld K (tVar 0) "wide")) (tVar 3)) [3])) (gName 2))
  (tRet (tMake (ad K "RawTable") sp_RawTable_init [] E0 (tCons (tFld K (tVar 0) "prime") (tCons (tOp rAddI (tFld K (tVar 0) "wide") (tFld K (tVar 1) "wide")) (tCons (tCB (rTupOf K) (tCons (tVar 2) tNil)) tNil))))))
abbrev n_raw_corner : List Str := ["one", "other", "rows", "row"]
abbrev p_raw_corner : List Str := ["one", "other"]
/-! raw_beside (level 5); slots 0:web 1:prime 2:pictures 3:sizes 4:tables 5:picture 6:arrow 7:one 8:two -/
def t_raw_beside (K : PySem.W.Frag) (sp_raw_nought : Sp) (sp_raw_corner : Sp) (sp_RawPicture_init : Sp) : TS :=
  (tSeq (tAsg (tOp rRep (tLst (tCons (tC (.int 0)) tNil)) (tFld K (tVar 0) "many")) (gName 3))
  (tSeq (tAsg (tLc (iTup K (tFld K (tVar 0) "arrows")) (gName 6) tYes (tCall sp_raw_nought [] E0 (tCons (tVar 1) (tCons (tC (.int 0)) (tCons (tC (.int 0)) tNil)))) [6]) (gName 4))
  (tSeq (tFor (iList K (tVar 2)) (gName 5) (tSeq (tAsg (tLc (iZipLT K (tCons (tVar 3) (tCons (tFld K (tVar 5) "sizes") tNil))) (gTup K 2 (gCons (gName 7) (gCons (gName 8) gNil))) tYes (tOp rAddI (tVar 7) (tVar 8)) [7, 8]) (gName 3))
  (tAsg (tLc (iZipLT K (tCons (tVar 4) (tCons (tFld K (tVar 5) "tables") tNil))) (gTup K 2 (gCons (gName 7) (gCons (gName 8) gNil))) tYes (tCall sp_raw_corner [] E0 (tCons (tVar 7) (tCons (tVar 8) tNil))) [7, 8]) (gName 4))))
  (tRet (tMake (ad K "RawPicture") sp_RawPicture_init [] E0 (tCons (tVar 0) (tCons (tVar 1) (tCons (tCB (rTupOf K) (tCons (tVar 3) tNil)) (tCons (tCB (rTupOf K) (tCons (tVar 4) tNil)) tNil)))))))))
abbrev n_raw_beside : List Str := ["web", "prime", "pictures", "sizes", "tables", "picture", "arrow", "one", "two"]
abbrev p_raw_beside : List Str := ["web", "prime", "pictures"]
/-! beside (level 6); slots 0:web 1:prime 2:pictures 3:thing -/
def t_beside (K : PySem.W.Frag) (sp_check_prime : Sp) (sp_is_picture_of : Sp) (sp_raw_beside : Sp) : TS :=
  (tSeq (tDrop (tCall sp_check_prime [] E0 (tCons (tVar 1) tNil)))
  (tSeq (tIfS (tOr (tNot (tB (tCB (rIsiT K) (tCons (tVar 2) (tCons (tTup (tCons (tC (.ty "list")) (tCons (tC (.ty "tuple")) tNil))) tNil))))) (tTest (tOp rGtI (tCB (rLenS K) (tCons (tVar 2) tNil)) (tC (.int 12))))) tNever tNext)
  (tSeq (tIfS (tNot (tB (tCB (rAll K) (tCons (tLc (iList K (tVar 2)) (gName 3) tYes (tCall sp_is_picture_of [] E0 (tCons (tVar 0) (tCons (tVar 1) (tCons (tVar 3) tNil)))) [3]) tNil)))) tNever tNext)
  (tRet (tCall sp_raw_beside [] E0 (tCons (tVar 0) (tCons (tVar 1) (tCons (tVar 2) tNil))))))))
abbrev n_beside : List Str := ["web", "prime", "pictures", "thing"]
abbrev p_beside : List Str := ["web", "prime", "pictures"]
/-! is_column (level 4); slots 0:prime 1:size 2:thing 3:worth -/
def t_is_column (K : PySem.W.Frag) (sp_is_number : Sp) : TS :=
  (tRet (tAndV (tCB (rIsi K) (tCons (tVar 2) (tCons (tC (.ty "tuple")) tNil))) (tAndV (tOp rEq (tCB (rLenS K) (tCons (tVar 2) tNil)) (tVar 1)) (tCB (rAll K) (tCons (tLc (iTup K (tVar 2)) (gName 3) tYes (tCall sp_is_number [] E0 (tCons (tVar 3) (tCons (tOp rSubI (tVar 0) (tC (.int 1))) tNil))) [3]) tNil)))))
abbrev n_is_column : List Str := ["prime", "size", "thing", "worth"]
abbrev p_is_column : List Str := ["prime", "size", "thing"]
/-! Table.__init__ (level 5); slots 0:self 1:prime 2:wide 3:rows 4:index 5:row -/
def t_Table_init (K : PySem.W.Frag) (sp_is_prime : Sp) (sp_is_number : Sp) (sp_is_column : Sp) (sp_Table_keep : Sp) : TS :=
  (tSeq (tIfS (tNot (tB (tCall sp_is_prime [] E0 (tCons (tVar 1) tNil)))) tNever tNext)
  (tSeq (tIfS (tNot (tB (tCall sp_is_number [] E0 (tCons (tVar 2) (tCons (tC (.int 12)) tNil))))) tNever tNext)
  (tSeq (tIfS (tOr (tNot (tB (tCB (rIsi K) (tCons (tVar 3) (tCons (tC (.ty "tuple")) tNil))))) (tTest (tOp rGtI (tCB (rLenS K) (tCons (tVar 3) tNil)) (tC (.int 12))))) tNever tNext)
  (tSeq (tFor (iEnumT K (tCons (tVar 3) tNil)) (gTup K 2 (gCons (gName 4) (gCons (gName 5) gNil))) (tIfS (tNot (tB (tCall sp_is_column [] E0 (tCons (tVar 1) (tCons (tVar 2) (tCons (tVar 5) tNil)))))) tNever tNext))
  (tDrop (tMeth (ad K "Table") "keep" sp_Table_keep [] E0 (tVar 0) (tCons (tVar 1) (tCons (tVar 2) (tCons (tVar 3) tNil)))))))))
abbrev n_Table_init : List Str := ["self", "prime", "wide", "rows", "index", "row"]
abbrev p_Table_init : List Str := ["self", "prime", "wide", "rows"]
/-! _law_base (level 7); slots 0:_law_purse_here 1:_law_prime 2:_law_size 3:_law_rows_here 4:_law_again 5:_law_one_here 6:_law_other 7:_law_by 8:_law_row 9:_law_more 10:_law_less_here 11:_law_number -/
def t_law_base (K : PySem.W.Frag) (sp_law_part : Sp) (sp_Table_init : Sp) : TS :=
  (tSeq (tAsg (tLc (iRng1 (tCons (tVar 2) tNil)) (gName 5) tYes (tLc (iRng1 (tCons (tVar 2) tNil)) (gName 6) tYes (tCB rIntOf (tCons (tOp rEq (tVar 5) (tVar 6)) tNil)) [6]) [5]) (gName 3))
  (tSeq (tFor (iRng1 (tCons (tOp rMulI (tOp rMulI (tC (.int 3)) (tVar 2)) (tCB rIntOf (tCons (tOp rGtI (tVar 2) (tC (.int 1))) tNil))) tNil)) (gName 4) (tSeq (tAsg (tCall sp_law_part [] E0 (tCons (tVar 0) (tCons (tVar 2) tNil))) (gName 5))
  (tSeq (tAsg (tOp rModI (tCB rIntOf (tCons (tOp rAddI (tOp rAddI (tVar 5) (tC (.int 1))) (tCall sp_law_part [] E0 (tCons (tVar 0) (tCons (tOp rSubI (tVar 2) (tC (.int 1))) tNil)))) tNil)) (tVar 2)) (gName 6))
  (tSeq (tAsg (tCall sp_law_part [] E0 (tCons (tVar 0) (tCons (tVar 1) tNil))) (gName 7))
  (tAsg (tLc (RZ.iZipA K (tCons (tOp (rIxL K) (tVar 3) (tVar 5)) (tCons (tOp (rIxL K) (tVar 3) (tVar 6)) tNil))) (gTup K 2 (gCons (gName 9) (gCons (gName 10) gNil))) tYes (tOp rModI (tCB rIntOf (tCons (tOp rAddI (tVar 9) (tOp rMulI (tVar 7) (tVar 10))) tNil)) (tVar 1)) [9, 10]) (gSub (tVar 3) (tVar 5) rSetL))))))
  (tSeq (tAsg (tLc (iList K (tVar 3)) (gName 8) tYes (tOp rAddI (tC (.int 1)) (tCall sp_law_part [] E0 (tCons (tVar 0) (tCons (tOp rSubI (tVar 1) (tC (.int 1))) tNil)))) [8]) (gName 7))
  (tSeq (tAsg (tLc (RZ.iZipA K (tCons (tVar 7) (tCons (tVar 3) tNil))) (gTup K 2 (gCons (gName 9) (gCons (gName 8) gNil))) tYes (tLc (iList K (tVar 8)) (gName 11) tYes (tOp rModI (tCB rIntOf (tCons (tOp rMulI (tVar 9) (tVar 11)) tNil)) (tVar 1)) [11]) [9, 8]) (gName 3))
  (tRet (tMake (ad K "Table") sp_Table_init [] E0 (tCons (tVar 1) (tCons (tVar 2) (tCons (tCB (rTupOf K) (tCons (tLc (iList K (tVar 3)) (gName 8) tYes (tCB (rTupOf K) (tCons (tVar 8) tNil)) [8]) tNil)) tNil)))))))))
abbrev n_law_base : List Str := ["_law_purse_here", "_law_prime", "_law_size", "_law_rows_here", "_law_again", "_law_one_here", "_law_other", "_law_by", "_law_row", "_law_more", "_law_less_here", "_law_number"]
abbrev p_law_base : List Str := ["_law_purse_here", "_law_prime", "_law_size"]
/-! is_fit_table (level 1); slots 0:prime 1:high 2:wide 3:thing -/
def t_is_fit_table (K : PySem.W.Frag) : TS :=
  (tRet (tAndV (tCB (rIsi K) (tCons (tVar 3) (tCons (tC (.ref (ad K "Table"))) tNil))) (tOp (rEqD K) (tTup (tCons (tFld K (tVar 3) "prime") (tCons (tFld K (tVar 3) "high") (tCons (tFld K (tVar 3) "wide") tNil)))) (tTup (tCons (tVar 0) (tCons (tVar 1) (tCons (tVar 2) tNil)))))))
abbrev n_is_fit_table : List Str := ["prime", "high", "wide", "thing"]
abbrev p_is_fit_table : List Str := ["prime", "high", "wide", "thing"]
/-! inverse_of (level 1); slots 0:prime 1:worth 2:found 3:turn -/
def t_inverse_of (K : PySem.W.Frag) : TS :=
  (tSeq (tAsg (tC (.int 1)) (gName 2))
  (tSeq (tFor (iRng1 (tCons (tOp rSubI (tVar 0) (tC (.int 2))) tNil)) (gName 3) (tAsg (tOp rModI (tOp rMulI (tVar 2) (tVar 1)) (tVar 0)) (gName 2)))
  (tRet (tVar 2))))
abbrev n_inverse_of : List Str := ["prime", "worth", "found", "turn"]
abbrev p_inverse_of : List Str := ["prime", "worth"]
/-! less (level 1); slots 0:prime 1:row 2:by 3:other 4:one 5:two -/
def t_less (K : PySem.W.Frag) : TS :=
  (tRet (tCB (rTupOf K) (tCons (tLc (RZ.iZipA K (tCons (tVar 1) (tCons (tVar 3) tNil))) (gTup K 2 (gCons (gName 4) (gCons (gName 5) gNil))) tYes (tOp rModI (tOp rSubI (tVar 4) (tOp rMulI (tVar 2) (tVar 5))) (tVar 0)) [4, 5]) tNil)))
abbrev n_less : List Str := ["prime", "row", "by", "other", "one", "two"]
abbrev p_less : List Str := ["prime", "row", "by", "other"]
/-! cleared (level 2); slots 0:prime 1:rows 2:place 3:row 4:other -/
def t_cleared (K : PySem.W.Frag) (sp_less : Sp) : TS :=
  (tRet (tLc (iList K (tVar 1)) (gName 4) tYes (tIf (tTest (tOp rNe (tOp (rIxT K) (tVar 4) (tVar 2)) (tC (.int 0)))) (tCall sp_less [] E0 (tCons (tVar 0) (tCons (tVar 4) (tCons (tOp (rIxT K) (tVar 4) (tVar 2)) (tCons (tVar 3) tNil))))) (tVar 4)) [4]))
abbrev n_cleared : List Str := ["prime", "rows", "place", "row", "other"]
abbrev p_cleared : List Str := ["prime", "rows", "place", "row"]
/-! reduced_rows (level 3); slots 0:prime 1:wide 2:rows 3:left 4:found 5:places 6:place 7:some 8:row 9:at 10:worth -/
def t_reduced_rows (K : PySem.W.Frag) (sp_inverse_of : Sp) (sp_cleared : Sp) : TS :=
  (tSeq (tAsg (tLc (iSeq K (tVar 2)) (gName 8) tYes (tCB (rTupOf K) (tCons (tVar 8) tNil)) [8]) (gName 3))
  (tSeq (tPar 4 5 (tCons (tLst tNil) (tCons (tLst tNil) tNil)))
  (tSeq (tFor (iRng1 (tCons (tVar 1) tNil)) (gName 6) (tSeq (tAsg (tLc (iRng1 (tCons (tCB (rLenS K) (tCons (tVar 3) tNil)) tNil)) (gName 9) (tTest (tOp rNe (tOp (rIxT K) (tOp (rIxL K) (tVar 3) (tVar 9)) (tVar 6)) (tC (.int 0)))) (tVar 9) [9]) (gName 7))
  (tIfS (tTest (tOp rGtI (tCB (rLenS K) (tCons (tVar 7) tNil)) (tC (.int 0)))) (tSeq (tAsg (tBM K "list" rPopAt (tVar 3) (tCons (tOp (rIxL K) (tVar 7) (tC (.int 0))) tNil)) (gName 8))
  (tSeq (tAsg (tCB (rTupOf K) (tCons (tLc (iTup K (tVar 8)) (gName 10) tYes (tOp rModI (tOp rMulI (tVar 10) (tCall sp_inverse_of [] E0 (tCons (tVar 0) (tCons (tOp (rIxT K) (tVar 8) (tVar 6)) tNil)))) (tVar 0)) [10]) tNil)) (gName 8))
  (tSeq (tAsg (tCall sp_cleared [] E0 (tCons (tVar 0) (tCons (tVar 3) (tCons (tVar 6) (tCons (tVar 8) tNil))))) (gName 3))
  (tSeq (tAsg (tOp rCat (tCall sp_cleared [] E0 (tCons (tVar 0) (tCons (tVar 4) (tCons (tVar 6) (tCons (tVar 8) tNil))))) (tLst (tCons (tVar 8) tNil))) (gName 4))
  (tDrop (tBM K "list" rAppend (tVar 5) (tCons (tVar 6) tNil))))))) tNext)))
  (tRet (tTup (tCons (tCB (rTupOf K) (tCons (tVar 4) tNil)) (tCons (tCB (rTupOf K) (tCons (tVar 5) tNil)) tNil)))))))
abbrev n_reduced_rows : List Str := ["prime", "wide", "rows", "left", "found", "places", "place", "some", "row", "at", "worth"]
abbrev p_reduced_rows : List Str := ["prime", "wide", "rows"]
/-! undone (level 5); slots 0:table 1:size 2:rows 3:found 4:places 5:row 6:unit -/
def t_undone (K : PySem.W.Frag) (sp_raw_plain : Sp) (sp_reduced_rows : Sp) (sp_RawTable_init : Sp) : TS :=
  (tSeq (tAsg (tFld K (tVar 0) "wide") (gName 1))
  (tSeq (tIfS (tTest (tOp rNe (tFld K (tVar 0) "high") (tVar 1))) (tRet (tC .non)) tNext)
  (tSeq (tAsg (tLc (RZ.iZipA K (tCons (tFld K (tVar 0) "rows") (tCons (tFld K (tCall sp_raw_plain [] E0 (tCons (tFld K (tVar 0) "prime") (tCons (tVar 1) tNil))) "rows") tNil))) (gTup K 2 (gCons (gName 5) (gCons (gName 6) gNil))) tYes (tOp (rCatA K) (tVar 5) (tVar 6)) [5, 6]) (gName 2))
  (tSeq (tAsg (tCall sp_reduced_rows [] E0 (tCons (tFld K (tVar 0) "prime") (tCons (tOp rMulI (tC (.int 2)) (tVar 1)) (tCons (tVar 2) tNil)))) (gTup K 2 (gCons (gName 3) (gCons (gName 4) gNil))))
  (tSeq (tIfS (tTest (tOp (rNeD K) (tVar 4) (tTupRg (tRg1 (tVar 1))))) (tRet (tC .non)) tNext)
  (tRet (tMake (ad K "RawTable") sp_RawTable_init [] E0 (tCons (tFld K (tVar 0) "prime") (tCons (tVar 1) (tCons (tCB (rTupOf K) (tCons (tLc (iTup K (tVar 3)) (gName 5) tYes (tSl (rSlA K) (tVar 5) (tPart (tVar 1)) tNoPart) [5]) tNil)) tNil))))))))))
abbrev n_undone : List Str := ["table", "size", "rows", "found", "places", "row", "unit"]
abbrev p_undone : List Str := ["table"]
/-! columns_of (level 1); slots 0:table 1:at 2:row -/
def t_columns_of (K : PySem.W.Frag) : TS :=
  (tRet (tCB (rTupOf K) (tCons (tLc (iRng1 (tCons (tFld K (tVar 0) "wide") tNil)) (gName 1) tYes (tCB (rTupOf K) (tCons (tLc (iTup K (tFld K (tVar 0) "rows")) (gName 2) tYes (tOp (rIxT K) (tVar 2) (tVar 1)) [2]) tNil)) [1]) tNil)))
abbrev n_columns_of : List Str := ["table", "at", "row"]
abbrev p_columns_of : List Str := ["table"]
/-! led_on (level 1); slots 0:table 1:column 2:row 3:one 4:two -/
def t_led_on (K : PySem.W.Frag) : TS :=
  (tRet (tCB (rTupOf K) (tCons (tLc (iTup K (tFld K (tVar 0) "rows")) (gName 2) tYes (tOp rModI (tCB (rSum K) (tCons (tLc (RZ.iZipA K (tCons (tVar 2) (tCons (tVar 1) tNil))) (gTup K 2 (gCons (gName 3) (gCons (gName 4) gNil))) tYes (tOp rMulI (tVar 3) (tVar 4)) [3, 4]) tNil)) (tFld K (tVar 0) "prime")) [2]) tNil)))
abbrev n_led_on : List Str := ["table", "column", "row", "one", "two"]
abbrev p_led_on : List Str := ["table", "column"]
/-! columns_table (level 4); slots 0:prime 1:high 2:columns 3:rows 4:at 5:column -/
def t_columns_table (K : PySem.W.Frag) (sp_RawTable_init : Sp) : TS :=
  (tSeq (tAsg (tLc (iRng1 (tCons (tVar 1) tNil)) (gName 4) tYes (tCB (rTupOf K) (tCons (tLc (iList K (tVar 2)) (gName 5) tYes (tOp (rIxT K) (tVar 5) (tVar 4)) [5]) tNil)) [4]) (gName 3))
  (tRet (tMake (ad K "RawTable") sp_RawTable_init [] E0 (tCons (tVar 0) (tCons (tCB (rLenS K) (tCons (tVar 2) tNil)) (tCons (tCB (rTupOf K) (tCons (tVar 3) tNil)) tNil))))))
abbrev n_columns_table : List Str := ["prime", "high", "columns", "rows", "at", "column"]
abbrev p_columns_table : List Str := ["prime", "high", "columns"]
/-! raw_times (level 5); slots 0:one 1:other 2:column -/
def t_raw_times (K : PySem.W.Frag) (sp_columns_of : Sp) (sp_led_on : Sp) (sp_columns_table : Sp) : TS :=
  (tRet (tCall sp_columns_table [] E0 (tCons (tFld K (tVar 0) "prime") (tCons (tFld K (tVar 0) "high") (tCons (tLc (iTup K (tCall sp_columns_of [] E0 (tCons (tVar 1) tNil))) (gName 2) tYes (tCall sp_led_on [] E0 (tCons (tVar 0) (tCons (tVar 2) tNil))) [2]) tNil)))))
abbrev n_raw_times : List Str := ["one", "other", "column"]
abbrev p_raw_times : List Str := ["one", "other"]
/-! raw_based (level 6); slots 0:picture 1:tables 2:found 3:begin 4:end 5:table -/
def t_raw_based (K : PySem.W.Frag) (sp_undone : Sp) (sp_raw_times : Sp) (sp_RawPicture_init : Sp) : TS :=
  (tSeq (tAsg (tLst tNil) (gName 2))
  (tSeq (tFor (RZ.iZipA K (tCons (tFld K (tFld K (tVar 0) "web") "arrows") (tCons (tFld K (tVar 0) "tables") tNil))) (gTup K 2 (gCons (gTup K 2 (gCons (gName 3) (gCons (gName 4) gNil))) (gCons (gName 5) gNil))) (tDrop (tBM K "list" rAppend (tVar 2) (tCons (tCall sp_raw_times [] E0 (tCons (tOp (rIxT K) (tVar 1) (tVar 4)) (tCons (tCall sp_raw_times [] E0 (tCons (tVar 5) (tCons (tCall sp_undone [] E0 (tCons (tOp (rIxT K) (tVar 1) (tVar 3)) tNil)) tNil))) tNil))) tNil))))
  (tRet (tMake (ad K "RawPicture") sp_RawPicture_init [] E0 (tCons (tFld K (tVar 0) "web") (tCons (tFld K (tVar 0) "prime") (tCons (tFld K (tVar 0) "sizes") (tCons (tCB (rTupOf K) (tCons (tVar 2) tNil)) tNil))))))))
abbrev n_raw_based : List Str := ["picture", "tables", "found", "begin", "end", "table"]
abbrev p_raw_based : List Str := ["picture", "tables"]
/-! based (level 7); slots 0:picture 1:tables 2:size 3:table -/
def t_based (K : PySem.W.Frag) (sp_is_fit_table : Sp) (sp_undone : Sp) (sp_raw_based : Sp) : TS :=
  (tSeq (tIfS (tOr (tNot (tB (tCB (rIsi K) (tCons (tVar 1) (tCons (tC (.ty "tuple")) tNil))))) (tTest (tOp rNe (tCB (rLenS K) (tCons (tVar 1) tNil)) (tFld K (tFld K (tVar 0) "web") "many")))) tNever tNext)
  (tSeq (tFor (RZ.iZipA K (tCons (tFld K (tVar 0) "sizes") (tCons (tVar 1) tNil))) (gTup K 2 (gCons (gName 2) (gCons (gName 3) gNil))) (tIfS (tOr (tNot (tB (tCall sp_is_fit_table [] E0 (tCons (tFld K (tVar 0) "prime") (tCons (tVar 2) (tCons (tVar 2) (tCons (tVar 3) tNil))))))) (tTest (tOp rIsNo (tCall sp_undone [] E0 (tCons (tVar 3) tNil)) (tC .non)))) tNever tNext))
  (tRet (tCall sp_raw_based [] E0 (tCons (tVar 0) (tCons (tVar 1) tNil))))))
abbrev n_based : List Str := ["picture", "tables", "size", "table"]
abbrev p_based : List Str := ["picture", "tables"]
/-! _law_rebased (level 8); slots 0:_law_purse_here 1:_law_picture_here 2:_law_size -/
def t_law_rebased (K : PySem.W.Frag) (sp_law_base : Sp) (sp_based : Sp) : TS :=
  (tRet (tCall sp_based [] E0 (tCons (tVar 1) (tCons (tCB (rTupOf K) (tCons (tLc (iTup K (tFld K (tVar 1) "sizes")) (gName 2) tYes (tCall sp_law_base [] E0 (tCons (tVar 0) (tCons (tFld K (tVar 1) "prime") (tCons (tVar 2) tNil)))) [2]) tNil)) tNil))))
abbrev n_law_rebased : List Str := ["_law_purse_here", "_law_picture_here", "_law_size"]
abbrev p_law_rebased : List Str := ["_law_purse_here", "_law_picture_here"]
/-! check_line (level 2); slots 0:picture -/
def t_check_line (K : PySem.W.Frag) (sp_is_line : Sp) : TS :=
  (tIfS (tNot (tB (tCall sp_is_line [] E0 (tCons (tFld K (tVar 0) "web") tNil)))) tNever tNext)
abbrev n_check_line : List Str := ["picture"]
abbrev p_check_line : List Str := ["picture"]
/-! stretches (level 1); slots 0:many 1:found 2:begin 3:end -/
def t_stretches (K : PySem.W.Frag) : TS :=
  (tSeq (tAsg (tLst tNil) (gName 1))
  (tSeq (tFor (iRng1 (tCons (tVar 0) tNil)) (gName 2) (tDrop (tBM K "list" rExtend (tVar 1) (tCons (tLc (iRng2 (tCons (tVar 2) (tCons (tVar 0) tNil))) (gName 3) tYes (tTup (tCons (tVar 2) (tCons (tVar 3) tNil))) [3]) tNil))))
  (tRet (tVar 1))))
abbrev n_stretches : List Str := ["many", "found", "begin", "end"]
abbrev p_stretches : List Str := ["many"]
/-! starts_on (level 1); slots 0:picture 1:begin 2:end 3:found 4:many 5:place -/
def t_starts_on (K : PySem.W.Frag) : TS :=
  (tSeq (tPar 3 4 (tCons tDNewK (tCons (tC (.int 0)) tNil)))
  (tSeq (tFor (iRng2 (tCons (tVar 1) (tCons (tOp rAddI (tVar 2) (tC (.int 1))) tNil))) (gName 5) (tSeq (sDPut (tVar 3) (tVar 5) (tVar 4))
  (tAug 4 (tOp (rIxT K) (tFld K (tVar 0) "sizes") (tVar 5)) (ipI fun i j => i + j))))
  (tRet (tTup (tCons (tVar 3) (tCons (tVar 4) tNil))))))
abbrev n_starts_on : List Str := ["picture", "begin", "end", "found", "many", "place"]
abbrev p_starts_on : List Str := ["picture", "begin", "end"]
/-! unit_led (level 2); slots 0:picture 1:arrow 2:at 3:size 4:other -/
def t_unit_led (K : PySem.W.Frag) (sp_led_on : Sp) : TS :=
  (tSeq (tAsg (tOp (rIxT K) (tFld K (tVar 0) "sizes") (tOp (rIxT K) (tOp (rIxT K) (tFld K (tFld K (tVar 0) "web") "arrows") (tVar 1)) (tC (.int 0)))) (gName 3))
  (tRet (tCall sp_led_on [] E0 (tCons (tOp (rIxT K) (tFld K (tVar 0) "tables") (tVar 1)) (tCons (tCB (rTupOf K) (tCons (tLc (iRng1 (tCons (tVar 3) tNil)) (gName 4) tYes (tCB rIntOf (tCons (tOp rEq (tVar 4) (tVar 2)) tNil)) [4]) tNil)) tNil)))))
abbrev n_unit_led : List Str := ["picture", "arrow", "at", "size", "other"]
abbrev p_unit_led : List Str := ["picture", "arrow", "at"]
/-! lost_rows (level 3); slots 0:picture 1:begin 2:end 3:starts 4:many 5:found 6:arrow 7:one 8:other 9:at 10:row 11:there 12:worth -/
def t_lost_rows (K : PySem.W.Frag) (sp_starts_on : Sp) (sp_unit_led : Sp) : TS :=
  (tSeq (tAsg (tCall sp_starts_on [] E0 (tCons (tVar 0) (tCons (tVar 1) (tCons (tVar 2) tNil)))) (gTup K 2 (gCons (gName 3) (gCons (gName 4) gNil))))
  (tSeq (tAsg (tLst tNil) (gName 5))
  (tSeq (tFor (iRng2 (tCons (tVar 1) (tCons (tVar 2) tNil))) (gName 6) (tSeq (tAsg (tOp (rIxT K) (tFld K (tFld K (tVar 0) "web") "arrows") (tVar 6)) (gTup K 2 (gCons (gName 7) (gCons (gName 8) gNil))))
  (tFor (iRng1 (tCons (tOp (rIxT K) (tFld K (tVar 0) "sizes") (tVar 7)) tNil)) (gName 9) (tSeq (tAsg (tOp rRep (tLst (tCons (tC (.int 0)) tNil)) (tVar 4)) (gName 10))
  (tSeq (tAsg (tC (.int 1)) (gSub (tVar 10) (tOp rAddI (tDGet (tVar 3) (tVar 7)) (tVar 9)) rSetL))
  (tSeq (tFor (iEnumT K (tCons (tCall sp_unit_led [] E0 (tCons (tVar 0) (tCons (tVar 6) (tCons (tVar 9) tNil)))) tNil)) (gTup K 2 (gCons (gName 11) (gCons (gName 12) gNil))) (tAsg (tOp rModI (tUn rNegI (tVar 12)) (tFld K (tVar 0) "prime")) (gSub (tVar 10) (tOp rAddI (tDGet (tVar 3) (tVar 8)) (tVar 11)) rSetL)))
  (tDrop (tBM K "list" rAppend (tVar 5) (tCons (tCB (rTupOf K) (tCons (tVar 10) tNil)) tNil)))))))))
  (tRet (tVar 5)))))
abbrev n_lost_rows : List Str := ["picture", "begin", "end", "starts", "many", "found", "arrow", "one", "other", "at", "row", "there", "worth"]
abbrev p_lost_rows : List Str := ["picture", "begin", "end"]
/-! kernel (level 4); slots 0:table 1:rows 2:places 3:found 4:free 5:column 6:row 7:place 8:at -/
def t_kernel (K : PySem.W.Frag) (sp_reduced_rows : Sp) : TS :=
  (tSeq (tAsg (tCall sp_reduced_rows [] E0 (tCons (tFld K (tVar 0) "prime") (tCons (tFld K (tVar 0) "wide") (tCons (tFld K (tVar 0) "rows") tNil)))) (gTup K 2 (gCons (gName 1) (gCons (gName 2) gNil))))
  (tSeq (tAsg (tLst tNil) (gName 3))
  (tSeq (tFor (iRng1 (tCons (tFld K (tVar 0) "wide") tNil)) (gName 4) (tIfS (tTest (tOp (rIn K true) (tVar 4) (tVar 2))) (tSeq (tAsg (tLc (iRng1 (tCons (tFld K (tVar 0) "wide") tNil)) (gName 8) tYes (tCB rIntOf (tCons (tOp rEq (tVar 8) (tVar 4)) tNil)) [8]) (gName 5))
  (tSeq (tFor (RZ.iZipA K (tCons (tVar 1) (tCons (tVar 2) tNil))) (gTup K 2 (gCons (gName 6) (gCons (gName 7) gNil))) (tAsg (tOp rModI (tUn rNegI (tOp (rIxT K) (tVar 6) (tVar 4))) (tFld K (tVar 0) "prime")) (gSub (tVar 5) (tVar 7) rSetL)))
  (tDrop (tBM K "list" rAppend (tVar 3) (tCons (tCB (rTupOf K) (tCons (tVar 5) tNil)) tNil))))) tNext))
  (tRet (tOp (rIxT K) (tCall sp_reduced_rows [] E0 (tCons (tFld K (tVar 0) "prime") (tCons (tFld K (tVar 0) "wide") (tCons (tVar 3) tNil)))) (tC (.int 0)))))))
abbrev n_kernel : List Str := ["table", "rows", "places", "found", "free", "column", "row", "place", "at"]
abbrev p_kernel : List Str := ["table"]
/-! meeting_rows (level 5); slots 0:picture 1:begin 2:end 3:starts 4:many 5:found 6:arrow 7:one 8:other 9:at 10:row 11:wanted -/
def t_meeting_rows (K : PySem.W.Frag) (sp_starts_on : Sp) (sp_kernel : Sp) (sp_RawTable_init : Sp) : TS :=
  (tSeq (tAsg (tCall sp_starts_on [] E0 (tCons (tVar 0) (tCons (tVar 1) (tCons (tVar 2) tNil)))) (gTup K 2 (gCons (gName 3) (gCons (gName 4) gNil))))
  (tSeq (tAsg (tLst tNil) (gName 5))
  (tSeq (tFor (iRng2 (tCons (tVar 1) (tCons (tVar 2) tNil))) (gName 6) (tSeq (tAsg (tOp (rIxT K) (tFld K (tFld K (tVar 0) "web") "arrows") (tVar 6)) (gTup K 2 (gCons (gName 7) (gCons (gName 8) gNil))))
  (tFor (iEnumT K (tCons (tFld K (tOp (rIxT K) (tFld K (tVar 0) "tables") (tVar 6)) "rows") tNil)) (gTup K 2 (gCons (gName 9) (gCons (gName 10) gNil))) (tSeq (tAsg (tOp rRep (tLst (tCons (tC (.int 0)) tNil)) (tVar 4)) (gName 11))
  (tSeq (sSlc (tCB (rLstOf K) (tCons (tVar 10) tNil)) (tVar 11) (tDGet (tVar 3) (tVar 7)) (tOp rAddI (tDGet (tVar 3) (tVar 7)) (tCB (rLenS K) (tCons (tVar 10) tNil))))
  (tSeq (tAsg (tOp rSubI (tFld K (tVar 0) "prime") (tC (.int 1))) (gSub (tVar 11) (tOp rAddI (tDGet (tVar 3) (tVar 8)) (tVar 9)) rSetL))
  (tDrop (tBM K "list" rAppend (tVar 5) (tCons (tCB (rTupOf K) (tCons (tVar 11) tNil)) tNil)))))))))
  (tRet (tCall sp_kernel [] E0 (tCons (tMake (ad K "RawTable") sp_RawTable_init [] E0 (tCons (tFld K (tVar 0) "prime") (tCons (tVar 4) (tCons (tCB (rTupOf K) (tCons (tVar 5) tNil)) tNil)))) tNil))))))
abbrev n_meeting_rows : List Str := ["picture", "begin", "end", "starts", "many", "found", "arrow", "one", "other", "at", "row", "wanted"]
abbrev p_meeting_rows : List Str := ["picture", "begin", "end"]
/-! raw_reach (level 6); slots 0:picture 1:begin 2:end 3:many 4:size 5:gone 6:kept 7:both 8:row -/
def t_raw_reach (K : PySem.W.Frag) (sp_starts_on : Sp) (sp_lost_rows : Sp) (sp_meeting_rows : Sp) (sp_reduced_rows : Sp) : TS :=
  (tSeq (tAsg (tOp (rIxT K) (tCall sp_starts_on [] E0 (tCons (tVar 0) (tCons (tVar 1) (tCons (tVar 2) tNil)))) (tC (.int 1))) (gName 3))
  (tSeq (tAsg (tOp (rIxT K) (tFld K (tVar 0) "sizes") (tVar 1)) (gName 4))
  (tSeq (tAsg (tCall sp_lost_rows [] E0 (tCons (tVar 0) (tCons (tVar 1) (tCons (tVar 2) tNil)))) (gName 5))
  (tSeq (tAsg (tLc (iTup K (tCall sp_meeting_rows [] E0 (tCons (tVar 0) (tCons (tVar 1) (tCons (tVar 2) tNil))))) (gName 8) tYes (tOp (rCatA K) (tSl (rSlA K) (tVar 8) tNoPart (tPart (tVar 4))) (tOp (rRepA K) (tTup (tCons (tC (.int 0)) tNil)) (tOp rSubI (tVar 3) (tVar 4)))) [8]) (gName 6))
  (tSeq (tAsg (tOp (rIxT K) (tCall sp_reduced_rows [] E0 (tCons (tFld K (tVar 0) "prime") (tCons (tVar 3) (tCons (tCB (rTupOf K) (tCons (tOp rCat (tVar 5) (tVar 6)) tNil)) tNil)))) (tC (.int 0))) (gName 7))
  (tRet (tOp rSubI (tCB (rLenS K) (tCons (tVar 7) tNil)) (tCB (rLenS K) (tCons (tOp (rIxT K) (tCall sp_reduced_rows [] E0 (tCons (tFld K (tVar 0) "prime") (tCons (tVar 3) (tCons (tCB (rTupOf K) (tCons (tVar 5) tNil)) tNil)))) (tC (.int 0))) tNil)))))))))
abbrev n_raw_reach : List Str := ["picture", "begin", "end", "many", "size", "gone", "kept", "both", "row"]
abbrev p_raw_reach : List Str := ["picture", "begin", "end"]
/-! count_of (level 1); slots 0:told 1:begin 2:end 3:found -/
def t_count_of (K : PySem.W.Frag) : TS :=
  (tSeq (tAsg (tOp rSubI (tOp rSubI (tDGet (tVar 0) (tTup (tCons (tVar 1) (tCons (tVar 2) tNil)))) (tDGet2 (tVar 0) (tTup (tCons (tOp rSubI (tVar 1) (tC (.int 1))) (tCons (tVar 2) tNil))) (tC (.int 0)))) (tDGet2 (tVar 0) (tTup (tCons (tVar 1) (tCons (tOp rAddI (tVar 2) (tC (.int 1))) tNil))) (tC (.int 0)))) (gName 3))
  (tRet (tOp rAddI (tVar 3) (tDGet2 (tVar 0) (tTup (tCons (tOp rSubI (tVar 1) (tC (.int 1))) (tCons (tOp rAddI (tVar 2) (tC (.int 1))) tNil))) (tC (.int 0))))))
abbrev n_count_of : List Str := ["told", "begin", "end", "found"]
abbrev p_count_of : List Str := ["told", "begin", "end"]
/-! raw_bars (level 2); slots 0:many 1:told 2:found 3:begin 4:end 5:triple -/
def t_raw_bars (K : PySem.W.Frag) (sp_stretches : Sp) (sp_count_of : Sp) : TS :=
  (tSeq (tAsg (tLc (iList K (tCall sp_stretches [] E0 (tCons (tVar 0) tNil))) (gTup K 2 (gCons (gName 3) (gCons (gName 4) gNil))) tYes (tTup (tCons (tVar 3) (tCons (tVar 4) (tCons (tCall sp_count_of [] E0 (tCons (tVar 1) (tCons (tVar 3) (tCons (tVar 4) tNil)))) tNil)))) [3, 4]) (gName 2))
  (tRet (tCB (rTupOf K) (tCons (tLc (iList K (tVar 2)) (gName 5) (tTest (tOp rGtI (tOp (rIxT K) (tVar 5) (tC (.int 2))) (tC (.int 0)))) (tVar 5) [5]) tNil))))
abbrev n_raw_bars : List Str := ["many", "told", "found", "begin", "end", "triple"]
abbrev p_raw_bars : List Str := ["many", "told"]
/-! bars (level 7); slots 0:picture 1:many 2:begin 3:end -/
def t_bars (K : PySem.W.Frag) (sp_check_line : Sp) (sp_stretches : Sp) (sp_raw_reach : Sp) (sp_raw_bars : Sp) : TS :=
  (tSeq (tDrop (tCall sp_check_line [] E0 (tCons (tVar 0) tNil)))
  (tSeq (tAsg (tFld K (tFld K (tVar 0) "web") "many") (gName 1))
  (tRet (tCall sp_raw_bars [] E0 (tCons (tVar 1) (tCons (tDcT (iList K (tCall sp_stretches [] E0 (tCons (tVar 1) tNil))) (gTup K 2 (gCons (gName 2) (gCons (gName 3) gNil))) tYes (tTup (tCons (tVar 2) (tCons (tVar 3) tNil))) (tCall sp_raw_reach [] E0 (tCons (tVar 0) (tCons (tVar 2) (tCons (tVar 3) tNil)))) [2, 3]) tNil))))))
abbrev n_bars : List Str := ["picture", "many", "begin", "end"]
abbrev p_bars : List Str := ["picture"]
/-! _law_are_just (level 1); slots 0:_law_told 1:_law_due 2:_law_triple 3:_law_part_here -/
def t_law_are_just (K : PySem.W.Frag) : TS :=
  (tSeq (tIfS (tOr (tNot (tB (tCB (rIsi K) (tCons (tVar 0) (tCons (tC (.ty "tuple")) tNil))))) (tTest (tOp (rNeD K) (tVar 0) (tVar 1)))) (tRet (tC (.bl false))) tNext)
  (tRet (tNotV (tCB (rAny K) (tCons (tLc (iTup K (tVar 0)) (gName 2) tYes (tCB (rAny K) (tCons (tLc (iTup K (tVar 2)) (gName 3) tYes (tCB (rIsi K) (tCons (tVar 3) (tCons (tC (.ty "bool")) tNil))) [3]) tNil)) [2]) tNil)))))
abbrev n_law_are_just : List Str := ["_law_told", "_law_due", "_law_triple", "_law_part_here"]
abbrev p_law_are_just : List Str := ["_law_told", "_law_due"]
/-! _law_rows (level 2); slots 0:_law_purse_here 1:_law_prime 2:_law_high 3:_law_wide 4:_law_row 5:_law_place -/
def t_law_rows (K : PySem.W.Frag) (sp_law_part : Sp) : TS :=
  (tSeq (tIfS (tTest (tOp rEq (tCall sp_law_part [] E0 (tCons (tVar 0) (tCons (tC (.int 8)) tNil))) (tC (.int 0)))) (tRet (tOp (rRepA K) (tTup (tCons (tOp (rRepA K) (tTup (tCons (tC (.int 0)) tNil)) (tVar 3)) tNil)) (tVar 2))) tNext)
  (tRet (tCB (rTupOf K) (tCons (tLc (iRng1 (tCons (tVar 2) tNil)) (gName 4) tYes (tCB (rTupOf K) (tCons (tLc (iRng1 (tCons (tVar 3) tNil)) (gName 5) tYes (tCall sp_law_part [] E0 (tCons (tVar 0) (tCons (tVar 1) tNil))) [5]) tNil)) [4]) tNil))))
abbrev n_law_rows : List Str := ["_law_purse_here", "_law_prime", "_law_high", "_law_wide", "_law_row", "_law_place"]
abbrev p_law_rows : List Str := ["_law_purse_here", "_law_prime", "_law_high", "_law_wide"]
/-! are_sizes (level 4); slots 0:web 1:thing 2:size -/
def t_are_sizes (K : PySem.W.Frag) (sp_is_number : Sp) : TS :=
  (tRet (tAndV (tCB (rIsi K) (tCons (tVar 1) (tCons (tC (.ty "tuple")) tNil))) (tAndV (tOp rEq (tCB (rLenS K) (tCons (tVar 1) tNil)) (tFld K (tVar 0) "many")) (tCB (rAll K) (tCons (tLc (iTup K (tVar 1)) (gName 2) tYes (tCall sp_is_number [] E0 (tCons (tVar 2) (tCons (tC (.int 6)) tNil))) [2]) tNil)))))
abbrev n_are_sizes : List Str := ["web", "thing", "size"]
abbrev p_are_sizes : List Str := ["web", "thing"]
/-! Picture.__init__ (level 5); slots 0:self 1:web 2:prime 3:sizes 4:tables 5:index 6:begin 7:end -/
def t_Picture_init (K : PySem.W.Frag) (sp_is_prime : Sp) (sp_are_sizes : Sp) (sp_is_fit_table : Sp) (sp_Picture_keep : Sp) : TS :=
  (tSeq (tIfS (tNot (tB (tCB (rIsi K) (tCons (tVar 1) (tCons (tC (.ref (ad K "Web"))) tNil))))) tNever tNext)
  (tSeq (tIfS (tNot (tB (tCall sp_is_prime [] E0 (tCons (tVar 2) tNil)))) tNever tNext)
  (tSeq (tIfS (tNot (tB (tCall sp_are_sizes [] E0 (tCons (tVar 1) (tCons (tVar 3) tNil))))) tNever tNext)
  (tSeq (tIfS (tOr (tNot (tB (tCB (rIsi K) (tCons (tVar 4) (tCons (tC (.ty "tuple")) tNil))))) (tTest (tOp rNe (tCB (rLenS K) (tCons (tVar 4) tNil)) (tCB (rLenS K) (tCons (tFld K (tVar 1) "arrows") tNil))))) tNever tNext)
  (tSeq (tFor (iEnumT K (tCons (tFld K (tVar 1) "arrows") tNil)) (gTup K 2 (gCons (gName 5) (gCons (gTup K 2 (gCons (gName 6) (gCons (gName 7) gNil))) gNil))) (tIfS (tNot (tB (tCall sp_is_fit_table [] E0 (tCons (tVar 2) (tCons (tOp (rIxT K) (tVar 3) (tVar 7)) (tCons (tOp (rIxT K) (tVar 3) (tVar 6)) (tCons (tOp (rIxT K) (tVar 4) (tVar 5)) tNil))))))) tNever tNext))
  (tDrop (tMeth (ad K "Picture") "keep" sp_Picture_keep [] E0 (tVar 0) (tCons (tVar 1) (tCons (tVar 2) (tCons (tVar 3) (tCons (tVar 4) tNil)))))))))))
abbrev n_Picture_init : List Str := ["self", "web", "prime", "sizes", "tables", "index", "begin", "end"]
abbrev p_Picture_init : List Str := ["self", "web", "prime", "sizes", "tables"]
/-! _law_picture (level 7); slots 0:_law_purse_here 1:_law_web 2:_law_prime 3:_law_sizes 4:_law_tables 5:_law_a 6:_law_b -/
def t_law_picture (K : PySem.W.Frag) (sp_law_rows : Sp) (sp_Table_init : Sp) (sp_Picture_init : Sp) : TS :=
  (tSeq (tAsg (tLc (iTup K (tFld K (tVar 1) "arrows")) (gTup K 2 (gCons (gName 5) (gCons (gName 6) gNil))) tYes (tMake (ad K "Table") sp_Table_init [] E0 (tCons (tVar 2) (tCons (tOp (rIxT K) (tVar 3) (tVar 5)) (tCons (tCall sp_law_rows [] E0 (tCons (tVar 0) (tCons (tVar 2) (tCons (tOp (rIxT K) (tVar 3) (tVar 6)) (tCons (tOp (rIxT K) (tVar 3) (tVar 5)) tNil))))) tNil)))) [5, 6]) (gName 4))
  (tRet (tMake (ad K "Picture") sp_Picture_init [] E0 (tCons (tVar 1) (tCons (tVar 2) (tCons (tVar 3) (tCons (tCB (rTupOf K) (tCons (tVar 4) tNil)) tNil)))))))
abbrev n_law_picture : List Str := ["_law_purse_here", "_law_web", "_law_prime", "_law_sizes", "_law_tables", "_law_a", "_law_b"]
abbrev p_law_picture : List Str := ["_law_purse_here", "_law_web", "_law_prime", "_law_sizes"]
/-! _law_less (level 1); slots 0:_law_prime 1:_law_row 2:_law_number 3:_law_lead 4:_law_one_here 5:_law_other -/
def t_law_less (K : PySem.W.Frag) : TS :=
  (tRet (tLc (RZ.iZipA K (tCons (tVar 1) (tCons (tVar 3) tNil))) (gTup K 2 (gCons (gName 4) (gCons (gName 5) gNil))) tYes (tOp rModI (tCB rIntOf (tCons (tOp rSubI (tVar 4) (tOp rMulI (tVar 2) (tVar 5))) tNil)) (tVar 0)) [4, 5]))
abbrev n_law_less : List Str := ["_law_prime", "_law_row", "_law_number", "_law_lead", "_law_one_here", "_law_other"]
abbrev p_law_less : List Str := ["_law_prime", "_law_row", "_law_number", "_law_lead"]
/-! _law_spanned (level 2); slots 0:_law_prime 1:_law_rows_here 2:_law_found 3:_law_left 4:_law_place 5:_law_some 6:_law_lead 7:_law_by 8:_law_row 9:_law_number -/
def t_law_spanned (K : PySem.W.Frag) (sp_law_less : Sp) : TS :=
  (tSeq (tPar 2 3 (tCons (tLst tNil) (tCons (tLc (iList K (tVar 1)) (gName 8) tYes (tLc (iList K (tVar 8)) (gName 9) tYes (tOp rModI (tCB rIntOf (tCons (tVar 9) tNil)) (tVar 0)) [9]) [8]) tNil)))
  (tSeq (tFor (iRng1 (tCons (tIf (tTest (tOp rGtI (tCB (rLenS K) (tCons (tVar 3) tNil)) (tC (.int 0)))) (tCB (rLenS K) (tCons (tOp (rIxL K) (tVar 3) (tC (.int 0))) tNil)) (tC (.int 0))) tNil)) (gName 4) (tSeq (tAsg (tLc (iList K (tVar 3)) (gName 8) (tTest (tOp rGtI (tOp (rIxL K) (tVar 8) (tVar 4)) (tC (.int 0)))) (tVar 8) [8]) (gName 5))
  (tIfS (tTest (tOp rGtI (tCB (rLenS K) (tCons (tVar 5) tNil)) (tC (.int 0)))) (tSeq (tAsg (tOp (rIxL K) (tVar 5) (tC (.int 0))) (gName 6))
  (tSeq (tDrop (tBM K "list" (rRemD K) (tVar 3) (tCons (tVar 6) tNil)))
  (tSeq (tAsg (tOp (rIxL K) (tLc (iRng1 (tCons (tVar 0) tNil)) (gName 9) (tTest (tOp rEq (tOp rModI (tCB rIntOf (tCons (tOp rMulI (tVar 9) (tOp (rIxL K) (tVar 6) (tVar 4))) tNil)) (tVar 0)) (tC (.int 1)))) (tVar 9) [9]) (tC (.int 0))) (gName 7))
  (tSeq (tAsg (tLc (iList K (tVar 6)) (gName 9) tYes (tOp rModI (tCB rIntOf (tCons (tOp rMulI (tVar 9) (tVar 7)) tNil)) (tVar 0)) [9]) (gName 6))
  (tSeq (tAsg (tLc (iList K (tVar 3)) (gName 8) tYes (tCall sp_law_less [] E0 (tCons (tVar 0) (tCons (tVar 8) (tCons (tOp (rIxL K) (tVar 8) (tVar 4)) (tCons (tVar 6) tNil))))) [8]) (gName 3))
  (tAsg (tOp rCat (tLc (iList K (tVar 2)) (gName 8) tYes (tCall sp_law_less [] E0 (tCons (tVar 0) (tCons (tVar 8) (tCons (tOp (rIxL K) (tVar 8) (tVar 4)) (tCons (tVar 6) tNil))))) [8]) (tLst (tCons (tVar 6) tNil))) (gName 2))))))) tNext)))
  (tRet (tVar 2))))
abbrev n_law_spanned : List Str := ["_law_prime", "_law_rows_here", "_law_found", "_law_left", "_law_place", "_law_some", "_law_lead", "_law_by", "_law_row", "_law_number"]
abbrev p_law_spanned : List Str := ["_law_prime", "_law_rows_here"]
/-! _law_lost_columns (level 3); slots 0:_law_prime 1:_law_rows_here 2:_law_wide 3:_law_found 4:_law_leads 5:_law_some 6:_law_place 7:_law_column 8:_law_lead 9:_law_row 10:_law_at -/
def t_law_lost_columns (K : PySem.W.Frag) (sp_law_spanned : Sp) : TS :=
  (tSeq (tAsg (tCall sp_law_spanned [] E0 (tCons (tVar 0) (tCons (tVar 1) tNil))) (gName 3))
  (tSeq (tAsg (tLc (iList K (tVar 3)) (gName 9) tYes (tOp (rIxL K) (tLc (iRng1 (tCons (tVar 2) tNil)) (gName 6) (tTest (tOp rGtI (tOp (rIxL K) (tVar 9) (tVar 6)) (tC (.int 0)))) (tVar 6) [6]) (tC (.int 0))) [9]) (gName 4))
  (tSeq (tAsg (tLst tNil) (gName 5))
  (tSeq (tFor (iRng1 (tCons (tVar 2) tNil)) (gName 6) (tIfS (tTest (tOp (rIn K true) (tVar 6) (tVar 4))) (tSeq (tAsg (tLc (iRng1 (tCons (tVar 2) tNil)) (gName 10) tYes (tCB rIntOf (tCons (tOp rEq (tVar 10) (tVar 6)) tNil)) [10]) (gName 7))
  (tSeq (tFor (RZ.iZipA K (tCons (tVar 4) (tCons (tVar 3) tNil))) (gTup K 2 (gCons (gName 8) (gCons (gName 9) gNil))) (tAsg (tOp rModI (tCB rIntOf (tCons (tUn rNegI (tOp (rIxL K) (tVar 9) (tVar 6))) tNil)) (tVar 0)) (gSub (tVar 7) (tVar 8) rSetL)))
  (tDrop (tBM K "list" rAppend (tVar 5) (tCons (tVar 7) tNil))))) tNext))
  (tRet (tCall sp_law_spanned [] E0 (tCons (tVar 0) (tCons (tVar 5) tNil))))))))
abbrev n_law_lost_columns : List Str := ["_law_prime", "_law_rows_here", "_law_wide", "_law_found", "_law_leads", "_law_some", "_law_place", "_law_column", "_law_lead", "_law_row", "_law_at"]
abbrev p_law_lost_columns : List Str := ["_law_prime", "_law_rows_here", "_law_wide"]
/-! _law_reach (level 4); slots 0:_law_picture_here 1:_law_begin 2:_law_end 3:_law_prime 4:_law_sizes 5:_law_at 6:_law_wide 7:_law_place 8:_law_asked 9:_law_lost 10:_law_a 11:_law_b 12:_law_table 13:_law_number 14:_law_row 15:_law_wish 16:_law_loose 17:_law_kept 18:_law_meeting -/
def t_law_reach (K : PySem.W.Frag) (sp_law_lost_columns : Sp) (sp_law_spanned : Sp) : TS :=
  (tSeq (tAsg (tTup (tCons (tFld K (tVar 0) "prime") (tCons (tFld K (tVar 0) "sizes") (tCons tDNewK (tCons (tC (.int 0)) tNil))))) (gTup K 4 (gCons (gName 3) (gCons (gName 4) (gCons (gName 5) (gCons (gName 6) gNil))))))
  (tSeq (tFor (iRng2 (tCons (tVar 1) (tCons (tOp rAddI (tVar 2) (tC (.int 1))) tNil))) (gName 7) (tSeq (sDPut (tVar 5) (tVar 7) (tVar 6))
  (tAsg (tOp rAddI (tVar 6) (tOp (rIxT K) (tVar 4) (tVar 7))) (gName 6))))
  (tSeq (tPar 8 9 (tCons (tLst tNil) (tCons (tLst tNil) tNil)))
  (tSeq (tFor (RZ.iZipA K (tCons (tFld K (tFld K (tVar 0) "web") "arrows") (tCons (tFld K (tVar 0) "tables") tNil))) (gTup K 2 (gCons (gTup K 2 (gCons (gName 10) (gCons (gName 11) gNil))) (gCons (gName 12) gNil))) (tIfS (tAnd (tB (tDIn (tVar 10) (tVar 5))) (tB (tDIn (tVar 11) (tVar 5)))) (tSeq (tFor (iEnumT K (tCons (tFld K (tVar 12) "rows") tNil)) (gTup K 2 (gCons (gName 13) (gCons (gName 14) gNil))) (tSeq (tAsg (tOp rRep (tLst (tCons (tC (.int 0)) tNil)) (tVar 6)) (gName 15))
  (tSeq (sSlc (tCB (rLstOf K) (tCons (tVar 14) tNil)) (tVar 15) (tDGet (tVar 5) (tVar 10)) (tOp rAddI (tDGet (tVar 5) (tVar 10)) (tOp (rIxT K) (tVar 4) (tVar 10))))
  (tSeq (tAsg (tUn rNegI (tC (.int 1))) (gSub (tVar 15) (tOp rAddI (tDGet (tVar 5) (tVar 11)) (tVar 13)) rSetL))
  (tDrop (tBM K "list" rAppend (tVar 8) (tCons (tVar 15) tNil)))))))
  (tFor (iRng1 (tCons (tOp (rIxT K) (tVar 4) (tVar 10)) tNil)) (gName 7) (tSeq (tAsg (tOp rRep (tLst (tCons (tC (.int 0)) tNil)) (tVar 6)) (gName 16))
  (tSeq (tAsg (tC (.int 1)) (gSub (tVar 16) (tOp rAddI (tDGet (tVar 5) (tVar 10)) (tVar 7)) rSetL))
  (tSeq (sSlc (tLc (iTup K (tFld K (tVar 12) "rows")) (gName 14) tYes (tUn rNegI (tOp (rIxT K) (tVar 14) (tVar 7))) [14]) (tVar 16) (tDGet (tVar 5) (tVar 11)) (tOp rAddI (tDGet (tVar 5) (tVar 11)) (tOp (rIxT K) (tVar 4) (tVar 11))))
  (tDrop (tBM K "list" rAppend (tVar 9) (tCons (tVar 16) tNil)))))))) tNext))
  (tSeq (tAsg (tLst tNil) (gName 17))
  (tSeq (tFor (iList K (tIf (tTest (tOp rGtI (tVar 6) (tC (.int 0)))) (tCall sp_law_lost_columns [] E0 (tCons (tVar 3) (tCons (tVar 8) (tCons (tVar 6) tNil)))) (tLst tNil))) (gName 18) (tDrop (tBM K "list" rAppend (tVar 17) (tCons (tOp rCat (tSl (rSlL K) (tVar 18) tNoPart (tPart (tOp (rIxT K) (tVar 4) (tVar 1)))) (tOp rRep (tLst (tCons (tC (.int 0)) tNil)) (tOp rSubI (tVar 6) (tOp (rIxT K) (tVar 4) (tVar 1))))) tNil))))
  (tRet (tOp rSubI (tCB (rLenS K) (tCons (tCall sp_law_spanned [] E0 (tCons (tVar 3) (tCons (tOp rCat (tVar 9) (tVar 17)) tNil))) tNil)) (tCB (rLenS K) (tCons (tCall sp_law_spanned [] E0 (tCons (tVar 3) (tCons (tVar 9) tNil))) tNil))))))))))
abbrev n_law_reach : List Str := ["_law_picture_here", "_law_begin", "_law_end", "_law_prime", "_law_sizes", "_law_at", "_law_wide", "_law_place", "_law_asked", "_law_lost", "_law_a", "_law_b", "_law_table", "_law_number", "_law_row", "_law_wish", "_law_loose", "_law_kept", "_law_meeting"]
abbrev p_law_reach : List Str := ["_law_picture_here", "_law_begin", "_law_end"]
/-! _law_bars (level 5); slots 0:_law_picture_here 1:_law_many 2:_law_found 3:_law_told 4:_law_begin 5:_law_end 6:_law_count 7:_law_pair -/
def t_law_bars (K : PySem.W.Frag) (sp_law_stretches : Sp) (sp_law_reach : Sp) : TS :=
  (tSeq (tPar 1 2 (tCons (tCB (rLenS K) (tCons (tFld K (tVar 0) "sizes") tNil)) (tCons (tLst tNil) tNil)))
  (tSeq (tAsg (tCB (rDictPT K) (tCons (tLc (iList K (tCall sp_law_stretches [] E0 (tCons (tVar 1) tNil))) (gName 7) tYes (tTup (tCons (tVar 7) (tCons (tCall sp_law_reach [] E0 (tCons (tVar 0) (tCons (tOp (rIxT K) (tVar 7) (tC (.int 0))) (tCons (tOp (rIxT K) (tVar 7) (tC (.int 1))) tNil)))) tNil))) [7]) tNil)) (gName 3))
  (tSeq (tFor (iList K (tCall sp_law_stretches [] E0 (tCons (tVar 1) tNil))) (gTup K 2 (gCons (gName 4) (gCons (gName 5) gNil))) (tSeq (tAsg (tOp rSubI (tDGet (tVar 3) (tTup (tCons (tVar 4) (tCons (tVar 5) tNil)))) (tDGet2 (tVar 3) (tTup (tCons (tOp rSubI (tVar 4) (tC (.int 1))) (tCons (tVar 5) tNil))) (tC (.int 0)))) (gName 6))
  (tSeq (tAsg (tOp rAddI (tOp rSubI (tVar 6) (tDGet2 (tVar 3) (tTup (tCons (tVar 4) (tCons (tOp rAddI (tVar 5) (tC (.int 1))) tNil))) (tC (.int 0)))) (tDGet2 (tVar 3) (tTup (tCons (tOp rSubI (tVar 4) (tC (.int 1))) (tCons (tOp rAddI (tVar 5) (tC (.int 1))) tNil))) (tC (.int 0)))) (gName 6))
  (tIfS (tTest (tOp rGtI (tVar 6) (tC (.int 0)))) (tDrop (tBM K "list" rAppend (tVar 2) (tCons (tTup (tCons (tVar 4) (tCons (tVar 5) (tCons (tVar 6) tNil)))) tNil))) tNext))))
  (tRet (tCB (rTupOf K) (tCons (tVar 2) tNil))))))
abbrev n_law_bars : List Str := ["_law_picture_here", "_law_many", "_law_found", "_law_told", "_law_begin", "_law_end", "_law_count", "_law_pair"]
abbrev p_law_bars : List Str := ["_law_picture_here"]
/-! law (level 9); slots 0:_law_script 1:_law_purse_here 2:_law_turn 3:_law_word 4:_law_web 5:_law_prime 6:_law_many 7:_law_put 8:_law_pieces 9:_law_piece 10:_law_pair 11:_law_due 12:_law_picture_here 13:_law_begin 14:_law_end 15:_law_place -/
def t_law (K : PySem.W.Frag) (sp_law_purse : Sp) (sp_law_line : Sp) (sp_law_one : Sp) (sp_law_part : Sp) (sp_law_stretches : Sp) (sp_bar_of : Sp) (sp_beside : Sp) (sp_law_rebased : Sp) (sp_bars : Sp) (sp_law_are_just : Sp) (sp_law_picture : Sp) (sp_law_bars : Sp) : TS :=
  (tSeq (tAsg (tCall sp_law_purse [] E0 (tCons (tVar 0) tNil)) (gName 1))
  (tSeq (tFor (iRng1 (tCons (tC (.int 2)) tNil)) (gName 2) (tSeq (tAsg (tCall sp_law_line [] E0 (tCons (tVar 1) (tCons (tC (.int 7)) tNil))) (gTup K 2 (gCons (gName 3) (gCons (gName 4) gNil))))
  (tSeq (tPar 5 6 (tCons (tCall sp_law_one [] E0 (tCons (tVar 1) (tCons (tLst (tCons (tC (.int 2)) (tCons (tC (.int 2)) (tCons (tC (.int 3)) (tCons (tC (.int 5)) (tCons (tC (.int 13)) tNil)))))) tNil))) (tCons (tOp rAddI (tCB rLenZ (tCons (tVar 3) tNil)) (tC (.int 1))) tNil)))
  (tSeq (tAsg (tTup (tCons tDNewT (tCons (tLst tNil) tNil))) (gTup K 2 (gCons (gName 7) (gCons (gName 8) gNil))))
  (tSeq (tFor (iRng1 (tCons (tCall sp_law_part [] E0 (tCons (tVar 1) (tCons (tC (.int 6)) tNil))) tNil)) (gName 9) (tSeq (tAsg (tCall sp_law_one [] E0 (tCons (tVar 1) (tCons (tCall sp_law_stretches [] E0 (tCons (tVar 6) tNil)) tNil))) (gName 10))
  (tSeq (sDPut (tVar 7) (tVar 10) (tOp rAddI (tDGet2 (tVar 7) (tVar 10) (tC (.int 0))) (tC (.int 1))))
  (tDrop (tBM K "list" rAppend (tVar 8) (tCons (tCall sp_bar_of [] E0 (tCons (tVar 4) (tCons (tVar 5) (tCons (tOp (rIxT K) (tVar 10) (tC (.int 0))) (tCons (tOp (rIxT K) (tVar 10) (tC (.int 1))) tNil))))) tNil))))))
  (tSeq (tAsg (tCB (rTupOf K) (tCons (tLc (iList K (tCB (rSortKT K) (tCons (tVar 7) tNil))) (gTup K 2 (gCons (gName 13) (gCons (gName 14) gNil))) tYes (tTup (tCons (tVar 13) (tCons (tVar 14) (tCons (tDGet (tVar 7) (tTup (tCons (tVar 13) (tCons (tVar 14) tNil)))) tNil)))) [13, 14]) tNil)) (gName 11))
  (tSeq (tIfS (tNot (tB (tCall sp_law_are_just [] E0 (tCons (tCall sp_bars [] E0 (tCons (tCall sp_law_rebased [] E0 (tCons (tVar 1) (tCons (tCall sp_beside [] E0 (tCons (tVar 4) (tCons (tVar 5) (tCons (tVar 8) tNil)))) tNil))) tNil)) (tCons (tVar 11) tNil))))) (tRet (tC (.bl false))) tNext)
  (tSeq (tAsg (tCall sp_law_line [] E0 (tCons (tVar 1) (tCons (tC (.int 5)) tNil))) (gTup K 2 (gCons (gName 3) (gCons (gName 4) gNil))))
  (tSeq (tAsg (tCall sp_law_picture [] E0 (tCons (tVar 1) (tCons (tVar 4) (tCons (tVar 5) (tCons (tCB (rTupOf K) (tCons (tLc (iRng1 (tCons (tOp rAddI (tCB rLenZ (tCons (tVar 3) tNil)) (tC (.int 1))) tNil)) (gName 15) tYes (tCall sp_law_part [] E0 (tCons (tVar 1) (tCons (tC (.int 4)) tNil))) [15]) tNil)) tNil))))) (gName 12))
  (tIfS (tNot (tB (tCall sp_law_are_just [] E0 (tCons (tCall sp_bars [] E0 (tCons (tVar 12) tNil)) (tCons (tCall sp_law_bars [] E0 (tCons (tVar 12) tNil)) tNil))))) (tRet (tC (.bl false))) tNext))))))))))
  (tRet (tC (.bl true)))))
abbrev n_law : List Str := ["_law_script", "_law_purse_here", "_law_turn", "_law_word", "_law_web", "_law_prime", "_law_many", "_law_put", "_law_pieces", "_law_piece", "_law_pair", "_law_due", "_law_picture_here", "_law_begin", "_law_end", "_law_place"]
abbrev p_law : List Str := ["_law_script"]
/-! ### data that == compares -/
def dRow (r : List Int) : PyData := .tuple (r.map PyData.int)
def dLst (r : List Int) : PyData := .list (r.map PyData.int)
def dMat (m : List (List Int)) : PyData := .tuple (m.map dRow)
theorem lay_ints : ∀ r : List Int, PyData.canLayAll0 (r.map PyData.int) = true
  | [] => by simp [PyData.canLayAll0]
  | _ :: r => by simp [PyData.canLayAll0, PyData.canLay0, lay_ints r]
theorem dep_ints : ∀ r : List Int, PyData.depthAll (r.map PyData.int) ≤ 1
  | [] => by simp [PyData.depthAll]
  | _ :: r => by
    have h := dep_ints r
    simp only [List.map_cons, PyData.depthAll, PyData.depth]
    omega
theorem lay_rows : ∀ m : List (List Int), PyData.canLayAll0 (m.map dRow) = true
  | [] => by simp [PyData.canLayAll0]
  | r :: m => by simp [PyData.canLayAll0, dRow, PyData.canLay0, lay_ints r, lay_rows m]
theorem dep_rows : ∀ m : List (List Int), PyData.depthAll (m.map dRow) ≤ 3
  | [] => by simp [PyData.depthAll]
  | r :: m => by
    have h := dep_rows m
    have h2 := dep_ints r
    simp only [List.map_cons, PyData.depthAll, dRow, PyData.depth]
    omega
theorem shaped_of {d : PyData} (h1 : d.canLay0 = true) (h2 : d.depth ≤ 64) : SeqAt.shaped d = true := by
  unfold SeqAt.shaped
  rw [h1, decide_eq_true h2]
  rfl
theorem shaped_row (r : List Int) : SeqAt.shaped (dRow r) = true := by
  have h := dep_ints r
  exact shaped_of (by simp only [dRow, PyData.canLay0]; exact lay_ints r) (by simp only [dRow, PyData.depth]; omega)
theorem shaped_lst (r : List Int) : SeqAt.shaped (dLst r) = true := by
  have h := dep_ints r
  exact shaped_of (by simp only [dLst, PyData.canLay0]; exact lay_ints r) (by simp only [dLst, PyData.depth]; omega)
theorem shaped_mat (m : List (List Int)) : SeqAt.shaped (dMat m) = true := by
  have h := dep_rows m
  exact shaped_of (by simp only [dMat, PyData.canLay0]; exact lay_rows m) (by simp only [dMat, PyData.depth]; omega)
theorem eqv_ints : ∀ r s : List Int, PyData.eqvAll (r.map PyData.int) (s.map PyData.int) = decide (r = s)
  | [], [] => by simp [PyData.eqvAll]
  | [], _ :: _ => by simp [PyData.eqvAll]
  | _ :: _, [] => by simp [PyData.eqvAll]
  | a :: r, b :: s => by
    rw [List.map_cons, List.map_cons]
    simp only [PyData.eqvAll, PyData.eqv, eqv_ints r s]
    by_cases h : a = b
    · subst h; simp
    · simp [h]
theorem eqv_row (r s : List Int) : PyData.eqv (dRow r) (dRow s) = decide (r = s) := by simp only [dRow, PyData.eqv]; exact eqv_ints r s
theorem eqv_lst (r s : List Int) : PyData.eqv (dLst r) (dLst s) = decide (r = s) := by simp only [dLst, PyData.eqv]; exact eqv_ints r s
theorem eqv_rows : ∀ r s : List (List Int), PyData.eqvAll (r.map dRow) (s.map dRow) = decide (r = s)
  | [], [] => by simp [PyData.eqvAll]
  | [], _ :: _ => by simp [PyData.eqvAll]
  | _ :: _, [] => by simp [PyData.eqvAll]
  | a :: r, b :: s => by
    rw [List.map_cons, List.map_cons]
    simp only [PyData.eqvAll, eqv_row, eqv_rows r s]
    by_cases h : a = b
    · subst h; simp
    · simp [h]
theorem eqv_mat (r s : List (List Int)) : PyData.eqv (dMat r) (dMat s) = decide (r = s) := by simp only [dMat, PyData.eqv]; exact eqv_rows r s
section
variable {K : PySem.W.Frag} {H H' : Hp} {α β : Type}
theorem dp_ints : ∀ r : List Int, DpAll K H (r.map V.int) (r.map PyData.int)
  | [] => .nil
  | _ :: r => .cons (.int _) (dp_ints r)
theorem dp_row {a : Addr} {r : List Int} (h : SqT K H a (r.map V.int)) : Dp K H (.ref a) (dRow r) := .tup h (dp_ints r)
theorem dp_lst {a : Addr} {r : List Int} (h : SqL K H a (r.map V.int)) : Dp K H (.ref a) (dLst r) := .lst h (dp_ints r)
theorem dp_rh {v : V} {r : List Int} (h : rhRow K H v r) : Dp K H v (dRow r) := by
  obtain ⟨a, rfl, q⟩ := h.ex
  exact dp_row q
theorem dp_rows : ∀ {xs : List V} {m : List (List Int)}, Paired (rhRow K H) xs m → DpAll K H xs (m.map dRow)
  | _, _, .nil => .nil
  | _, _, .cons h t => .cons (dp_rh h) (dp_rows t)
theorem dp_mat {v : V} {m : List (List Int)} (h : rhMat K H v m) : Dp K H v (dMat m) := by
  obtain ⟨a, xs, rfl, h1, h2⟩ := h
  exact .tup h1 (dp_rows h2)

/-! ### instances of the program's classes -/
/-- what of a class lets its instances' fields be read, and isinstance answer -/
structure KIns (K : PySem.W.Frag) (C : Addr) (fs : List Str) : Prop where
  cl : Cls K C
  na : ∀ f ∈ fs, NoAttr K C f
  ha : PySem.W.findIn K (.ref C) "__class__" = some (some (.builtin "object.__class__"))
  hn : PySem.W.specialIn K (.builtin "object.__class__") "__get__" = some (some (.builtin "getset_descriptor.__get__"))
  ht : PySem.W.takesIn K (.builtin "object.__class__") = some true
  hm : PySem.W.mroIn K C (.type "object") = some true
theorem KIns.ty {C a dx : Addr} {ns : List Str} {fs : List (Str × V)} (k : KIns K C ns) (h : H a = some (.ins C dx fs)) : TyX K H (.ref a) (.ref C) := .base (.ins h k.cl k.ha k.hn k.ht k.hm)
/-- the instance v of the class at C has these fields -/
def FldAt (H : Hp) (v : V) (C : Addr) (fs : List (Str × V)) : Prop := ∃ a dx, v = .ref a ∧ H a = some (.ins C dx fs)
abbrev nsTab : List Str := ["prime", "wide", "rows", "high"]
abbrev nsWeb : List Str := ["many", "arrows"]
abbrev nsPic : List Str := ["web", "prime", "sizes", "tables"]
def rhPr (K : PySem.W.Frag) (H : Hp) (v : V) (q : Nat × Nat) : Prop := ∃ a, v = .ref a ∧ SqT K H a [.int q.1, .int q.2]
structure TabAt (K : PySem.W.Frag) (p : Int) (t : Tb) (H : Hp) (C : Addr) (fs : List (Str × V)) (vr : V) : Prop where
  k : KIns K C nsTab
  isT : PySem.W.kitOne K (.ref C) (.ref (ad K "Table")) = some true
  pr : fs.lookup ("prime" : Str) = some (V.int p)
  wi : fs.lookup ("wide" : Str) = some (V.int t.wide)
  ro : fs.lookup ("rows" : Str) = some vr
  hi : fs.lookup ("high" : Str) = some (V.int t.rows.length)
  rm : rhMat K H vr t.rows
def rhTab (K : PySem.W.Frag) (p : Int) (H : Hp) (v : V) (t : Tb) : Prop := ∃ a C dx fs vr, v = .ref a ∧ H a = some (.ins C dx fs) ∧ TabAt K p t H C fs vr
structure WebAt (K : PySem.W.Frag) (m : Nat) (ar : List (Nat × Nat)) (H : Hp) (C : Addr) (fs : List (Str × V)) (va : V) : Prop where
  k : KIns K C nsWeb
  isW : PySem.W.kitOne K (.ref C) (.ref (ad K "Web")) = some true
  eC : C = ad K "RawWeb"
  mn : fs.lookup ("many" : Str) = some (V.int m)
  fa : fs.lookup ("arrows" : Str) = some va
  ra : rhT K (rhPr K) H va ar
def rhWeb (K : PySem.W.Frag) (H : Hp) (v : V) (w : Nat × List (Nat × Nat)) : Prop := ∃ a C dx fs va, v = .ref a ∧ H a = some (.ins C dx fs) ∧ WebAt K w.1 w.2 H C fs va
structure PicAt (K : PySem.W.Frag) (p : Int) (q : Pc) (H : Hp) (C : Addr) (fs : List (Str × V)) (vw vs vt : V) : Prop where
  k : KIns K C nsPic
  isP : PySem.W.kitOne K (.ref C) (.ref (ad K "Picture")) = some true
  we : fs.lookup ("web" : Str) = some vw
  pr : fs.lookup ("prime" : Str) = some (V.int p)
  si : fs.lookup ("sizes" : Str) = some vs
  ta : fs.lookup ("tables" : Str) = some vt
  rwb : rhWeb K H vw (q.many, q.arrows)
  rs : rhT K rhN H vs q.sizes
  rt : rhT K (rhTab K p) H vt q.tables
def rhPic (K : PySem.W.Frag) (p : Int) (H : Hp) (v : V) (q : Pc) : Prop := ∃ a C dx fs vw vs vt, v = .ref a ∧ H a = some (.ins C dx fs) ∧ PicAt K p q H C fs vw vs vt
theorem immPr : Imm (rhPr K) := fun _ _ _ _ e ⟨a, h, q⟩ => ⟨a, h, Keep.tup e q⟩
theorem immTab {p : Int} : Imm (rhTab K p) := fun _ _ _ _ e ⟨a, C, dx, fs, vr, h1, h2, h3⟩ => ⟨a, C, dx, fs, vr, h1, e _ _ trivial h2, ⟨h3.k, h3.isT, h3.pr, h3.wi, h3.ro, h3.hi, immMat _ _ _ _ e h3.rm⟩⟩
theorem immWeb : Imm (rhWeb K) := fun _ _ _ _ e ⟨a, C, dx, fs, va, h1, h2, h3⟩ => ⟨a, C, dx, fs, va, h1, e _ _ trivial h2, ⟨h3.k, h3.isW, h3.eC, h3.mn, h3.fa, immT immPr _ _ _ _ e h3.ra⟩⟩
theorem immPic {p : Int} : Imm (rhPic K p) := fun _ _ _ _ e ⟨a, C, dx, fs, vw, vs, vt, h1, h2, h3⟩ =>
  ⟨a, C, dx, fs, vw, vs, vt, h1, e _ _ trivial h2, ⟨h3.k, h3.isP, h3.we, h3.pr, h3.si, h3.ta, immWeb _ _ _ _ e h3.rwb, immT immN _ _ _ _ e h3.rs, immT immTab _ _ _ _ e h3.rt⟩⟩
section
variable {p : Int} {v : V} {Q : V → Prop}
abbrev Fd (K : PySem.W.Frag) (H : Hp) (v : V) (f : Str) (Q : V → Prop) : Prop := ∃ a C dx fs u, v = .ref a ∧ H a = some (.ins C dx fs) ∧ Cls K C ∧ NoAttr K C f ∧ fs.lookup f = some u ∧ Q u
theorem fd_prime {t : Tb} (h : rhTab K p H v t) (q : Q (.int p)) : Fd K H v "prime" Q := by
  obtain ⟨a, C, dx, fs, vr, h1, h2, h3⟩ := h
  exact ⟨a, C, dx, fs, _, h1, h2, h3.k.cl, h3.k.na _ (by simp), h3.pr, q⟩
theorem fd_wide {t : Tb} (h : rhTab K p H v t) (q : Q (.int t.wide)) : Fd K H v "wide" Q := by
  obtain ⟨a, C, dx, fs, vr, h1, h2, h3⟩ := h
  exact ⟨a, C, dx, fs, _, h1, h2, h3.k.cl, h3.k.na _ (by simp), h3.wi, q⟩
theorem fd_high {t : Tb} (h : rhTab K p H v t) (q : Q (.int t.rows.length)) : Fd K H v "high" Q := by
  obtain ⟨a, C, dx, fs, vr, h1, h2, h3⟩ := h
  exact ⟨a, C, dx, fs, _, h1, h2, h3.k.cl, h3.k.na _ (by simp), h3.hi, q⟩
theorem fd_rows {t : Tb} (h : rhTab K p H v t) (q : ∀ u, rhMat K H u t.rows → Q u) : Fd K H v "rows" Q := by
  obtain ⟨a, C, dx, fs, vr, h1, h2, h3⟩ := h
  exact ⟨a, C, dx, fs, _, h1, h2, h3.k.cl, h3.k.na _ (by simp), h3.ro, q _ h3.rm⟩
theorem fd_many {w : Nat × List (Nat × Nat)} (h : rhWeb K H v w) (q : Q (.int w.1)) : Fd K H v "many" Q := by
  obtain ⟨a, C, dx, fs, vr, h1, h2, h3⟩ := h
  exact ⟨a, C, dx, fs, _, h1, h2, h3.k.cl, h3.k.na _ (by simp), h3.mn, q⟩
theorem fd_arrows {w : Nat × List (Nat × Nat)} (h : rhWeb K H v w) (q : ∀ u, rhT K (rhPr K) H u w.2 → Q u) : Fd K H v "arrows" Q := by
  obtain ⟨a, C, dx, fs, vr, h1, h2, h3⟩ := h
  exact ⟨a, C, dx, fs, _, h1, h2, h3.k.cl, h3.k.na _ (by simp), h3.fa, q _ h3.ra⟩
theorem fd_web {c : Pc} (h : rhPic K p H v c) (q : ∀ u, rhWeb K H u (c.many, c.arrows) → Q u) : Fd K H v "web" Q := by
  obtain ⟨a, C, dx, fs, vw, vs, vt, h1, h2, h3⟩ := h
  exact ⟨a, C, dx, fs, _, h1, h2, h3.k.cl, h3.k.na _ (by simp), h3.we, q _ h3.rwb⟩
theorem fd_pprime {c : Pc} (h : rhPic K p H v c) (q : Q (.int p)) : Fd K H v "prime" Q := by
  obtain ⟨a, C, dx, fs, vw, vs, vt, h1, h2, h3⟩ := h
  exact ⟨a, C, dx, fs, _, h1, h2, h3.k.cl, h3.k.na _ (by simp), h3.pr, q⟩
theorem fd_sizes {c : Pc} (h : rhPic K p H v c) (q : ∀ u, rhT K rhN H u c.sizes → Q u) : Fd K H v "sizes" Q := by
  obtain ⟨a, C, dx, fs, vw, vs, vt, h1, h2, h3⟩ := h
  exact ⟨a, C, dx, fs, _, h1, h2, h3.k.cl, h3.k.na _ (by simp), h3.si, q _ h3.rs⟩
theorem fd_tables {c : Pc} (h : rhPic K p H v c) (q : ∀ u, rhT K (rhTab K p) H u c.tables → Q u) : Fd K H v "tables" Q := by
  obtain ⟨a, C, dx, fs, vw, vs, vt, h1, h2, h3⟩ := h
  exact ⟨a, C, dx, fs, _, h1, h2, h3.k.cl, h3.k.na _ (by simp), h3.ta, q _ h3.rt⟩
end
/-- an item of a tuple -/
theorem rhT.at {r : Hp → V → α → Prop} {v : V} {as : List α} {i : Nat} {x : α} (h : rhT K r H v as) (e : as[i]? = some x) : ∃ a xs y, v = .ref a ∧ SqT K H a xs ∧ atI xs (i : Int) = some y ∧ r H y x := by
  obtain ⟨a, xs, rfl, h1, h2⟩ := h
  obtain ⟨y, h3, h4⟩ := Paired.to h2 e
  exact ⟨a, xs, y, rfl, h1, atI_nat h3, h4⟩
theorem rhT.len {r : Hp → V → α → Prop} {v : V} {as : List α} (h : rhT K r H v as) : ∃ a xs, v = .ref a ∧ SqT K H a xs ∧ xs.length = as.length := by
  obtain ⟨a, xs, rfl, h1, h2⟩ := h
  exact ⟨a, xs, rfl, h1, Paired.len h2⟩
theorem rhRow.at {v : V} {r : List Int} {i : Nat} (h : rhRow K H v r) (hi : i < r.length) : ∃ a xs, v = .ref a ∧ SqT K H a xs ∧ atI xs (i : Int) = some (.int (r.getD i 0)) := by
  obtain ⟨a, rfl, q⟩ := h.ex
  exact ⟨a, _, rfl, q, atI_nat (row_at hi)⟩
end
/-! _law_purse (level 1) -/
theorem sc_law_purse : FnScope ["_law_script", "_law_cell"] ["_law_script"] (defScope s_law_purse) := ⟨rfl, rfl, rfl, by decide +kernel, rfl, by decide +kernel, by decide +kernel⟩
theorem der_law_purse {P : Program} {w : World} {K : PySem.W.Frag} {mg : Str → Option Value} {base : Heap} {f : Addr} {cdv : Value} {A : Around} {outer : List Env} {s : Shared} {H : Hp} {E : XK}
    (T : Txt K mg)
    (hr : Room 0 (A.deeper (envOfC "_law_purse" (defScope s_law_purse) s.heap.objs.size f cdv))) :
    PSs (cxOf CX0 P w K mg base ["_law_script", "_law_cell"] "_law_purse" (defScope s_law_purse) f cdv A outer s H E).nox (defBody s_law_purse) (t_law_purse K) :=
  (pss_one (ps_ret (pe_lst (pa_cons (pe_lc (own := [("_law_cell", 1)]) (by rfl) sc_law_purse.nd (pi_list (pe_slice sl_list (pv 0) po_none (po_some pe_int))) (blkOk_by (by kernel_rfl)) (fun _ _ _ _ _ => (pg_name (i := 1) sc_law_purse.nd rfl (.inl rfl))) (fun _ _ _ _ _ => pts_nil) (fun _ _ _ _ _ => (pe_callB call_abs (by rfl) T.b_abs (by decide +kernel) (pa_cons (pe_callTy call_int1 (by rfl) T.b_int (by decide +kernel) (pa_cons (pv 1) pa_nil)) pa_nil)))) (pa_cons pe_int (pa_cons pe_int (pa_cons (pe_op op_add pe_int (pe_op op_mul pe_int (pe_callB call_len_seq (by rfl) T.b_len (by decide +kernel) (pa_cons (pe_slice sl_list (pv 0) po_none (po_some pe_int)) pa_nil)))) (pa_cons pe_int pa_nil))))))))
/-! _law_part (level 1) -/
theorem sc_law_part : FnScope ["_law_purse_here", "_law_many", "_law_cell", "_law_told", "_law_made"] ["_law_purse_here", "_law_many"] (defScope s_law_part) := ⟨rfl, rfl, rfl, by decide +kernel, rfl, by decide +kernel, by decide +kernel⟩
theorem der_law_part {P : Program} {w : World} {K : PySem.W.Frag} {mg : Str → Option Value} {base : Heap} {f : Addr} {cdv : Value} {A : Around} {outer : List Env} {s : Shared} {H : Hp} {E : XK}
    (T : Txt K mg)
    (hr : Room 0 (A.deeper (envOfC "_law_part" (defScope s_law_part) s.heap.objs.size f cdv))) :
    PSs (cxOf CX0 P w K mg base ["_law_purse_here", "_law_many", "_law_cell", "_law_told", "_law_made"] "_law_part" (defScope s_law_part) f cdv A outer s H E).nox (defBody s_law_part) (t_law_part K) :=
  (pss_cons (ps_if (PW.pt (pw_and (pt_cmpR op_lt (pe_ix ix_list (pv 0) pe_int (fun _ _ => rfl)) pe_int (nomark _)) (pw_and1 (pt_cmpR op_lt (pe_ix ix_list (pv 0) pe_int (fun _ _ => rfl)) (pe_callB call_len_seq (by rfl) T.b_len (by decide +kernel) (pa_cons (pe_ix ix_list (pv 0) pe_int (fun _ _ => rfl)) pa_nil)) (nomark _))))) (pss_cons (ps_set (i := 2) sc_law_part.nd rfl (.inl rfl) (pe_ix ix_list (pe_ix ix_list (pv 0) pe_int (fun _ _ => rfl)) (pe_ix ix_list (pv 0) pe_int (fun _ _ => rfl)) (fun _ _ => rfl)))
    (pss_cons (ps_asg (pe_op op_add (pe_ix ix_list (pv 0) pe_int (fun _ _ => rfl)) pe_int) (pg_sub (pv 0) pe_int set_list))
    (pss_cons (ps_asg (pe_op op_mod (pe_callTy call_int1 (by rfl) T.b_int (by decide +kernel) (pa_cons (pe_op op_add (pe_op op_add (pe_op op_mul (pe_ix ix_list (pv 0) pe_int (fun _ _ => rfl)) pe_int) (pv 2)) pe_int) pa_nil)) pe_int) (pg_sub (pv 0) pe_int set_list))
    (pss_one (ps_asg (pe_ifExp (pt_cmpR op_ge (pv 2) (pe_op op_pow pe_int pe_int) (nomark _)) (pv 2) pe_int) (pg_sub (pv 0) pe_int set_list)))))) pss_nil)
    (pss_cons (ps_if (pt_cmpR op_gt (pe_ix ix_list (pv 0) pe_int (fun _ _ => rfl)) pe_int (nomark _)) (pss_cons (ps_set (i := 3) sc_law_part.nd rfl (.inl rfl) (pe_op op_mod (pe_callTy call_int1 (by rfl) T.b_int (by decide +kernel) (pa_cons (pe_ix ix_list (pv 0) pe_int (fun _ _ => rfl)) pa_nil)) (pv 1)))
    (pss_cons (ps_asg (pe_op op_fdiv (pe_ix ix_list (pv 0) pe_int (fun _ _ => rfl)) (pv 1)) (pg_sub (pv 0) pe_int set_list))
    (pss_one (ps_ret (pv 3))))) pss_nil)
    (pss_cons (ps_asg (pe_op op_add (pe_ix ix_list (pv 0) pe_int (fun _ _ => rfl)) pe_int) (pg_sub (pv 0) pe_int set_list))
    (pss_cons (ps_set (i := 4) sc_law_part.nd rfl (.inl rfl) (pe_op op_mod (pe_callTy call_int1 (by rfl) T.b_int (by decide +kernel) (pa_cons (pe_op op_mul (pe_op op_add (pe_ix ix_list (pv 0) pe_int (fun _ _ => rfl)) (pe_op op_mul pe_int (pe_ix ix_list (pv 0) pe_int (fun _ _ => rfl)))) pe_int) pa_nil)) pe_int))
    (pss_cons (ps_set (i := 4) sc_law_part.nd rfl (.inl rfl) (pe_op op_mod (pe_callTy call_int1 (by rfl) T.b_int (by decide +kernel) (pa_cons (pe_op op_mul (pv 4) (pe_op op_add (pe_op op_fdiv (pv 4) pe_int) pe_int)) pa_nil)) pe_int))
    (pss_cons (ps_set (i := 4) sc_law_part.nd rfl (.inl rfl) (pe_op op_mod (pe_callTy call_int1 (by rfl) T.b_int (by decide +kernel) (pa_cons (pe_op op_mul (pv 4) (pe_op op_add (pe_op op_fdiv (pv 4) pe_int) pe_int)) pa_nil)) pe_int))
    (pss_one (ps_ret (pe_op op_mod (pe_callTy call_int1 (by rfl) T.b_int (by decide +kernel) (pa_cons (pe_op op_fdiv (pv 4) pe_int) pa_nil)) (pv 1))))))))))
/-! _law_one (level 2) -/
theorem sc_law_one : FnScope ["_law_purse_here", "_law_some"] ["_law_purse_here", "_law_some"] (defScope s_law_one) := ⟨rfl, rfl, rfl, by decide +kernel, rfl, by decide +kernel, by decide +kernel⟩
theorem der_law_one {P : Program} {w : World} {K : PySem.W.Frag} {mg : Str → Option Value} {base : Heap} {sp_law_part : Sp} {f : Addr} {cdv : Value} {A : Around} {outer : List Env} {s : Shared} {H : Hp} {E : XK}
    (T : Txt K mg) (G_law_part : Cal P w K mg base 1 "_law_part" ["_law_purse_here", "_law_many"] sp_law_part)
    (hr : Room 1 (A.deeper (envOfC "_law_one" (defScope s_law_one) s.heap.objs.size f cdv))) :
    PSs (cxOf CX0 P w K mg base ["_law_purse_here", "_law_some"] "_law_one" (defScope s_law_one) f cdv A outer s H E).nox (defBody s_law_one) (t_law_one K sp_law_part) :=
  (pss_one (ps_ret (pe_ix ix_list (pv 1) (pe_cal G_law_part hr (pa_cons (pv 0) (pa_cons (pe_callB call_len_seq (by rfl) T.b_len (by decide +kernel) (pa_cons (pv 1) pa_nil)) pa_nil))) (fun _ _ => rfl))))
/-! RawWeb.__init__ (level 1) -/
theorem sc_RawWeb_init : FnScope ["self", "many", "arrows"] ["self", "many", "arrows"] (defScope s_RawWeb_init) := ⟨rfl, rfl, rfl, by decide +kernel, rfl, by decide +kernel, by decide +kernel⟩
theorem der_RawWeb_init {P : Program} {w : World} {K : PySem.W.Frag} {mg : Str → Option Value} {base : Heap} {f : Addr} {cdv : Value} {A : Around} {outer : List Env} {s : Shared} {H : Hp} {E : XK}
    (T : Txt K mg)
    (hr : Room 0 (A.deeper (envOfC "RawWeb.__init__" (defScope s_RawWeb_init) s.heap.objs.size f cdv))) :
    PSs (cxOf CX0 P w K mg base ["self", "many", "arrows"] "RawWeb.__init__" (defScope s_RawWeb_init) f cdv A outer s H E).nox (defBody s_RawWeb_init) (t_RawWeb_init K) :=
  (pss_cons (ps_fld (pv 0) (pv 1) rfl)
    (pss_one (ps_fld (pv 0) (pv 2) rfl)))
/-! line (level 3) -/
theorem sc_line : FnScope ["word", "arrows", "at", "sign"] ["word"] (defScope s_line) := ⟨rfl, rfl, rfl, by decide +kernel, rfl, by decide +kernel, by decide +kernel⟩
theorem der_line {P : Program} {w : World} {K : PySem.W.Frag} {mg : Str → Option Value} {base : Heap} {sp_RawWeb_init : Sp} {f : Addr} {cdv : Value} {A : Around} {outer : List Env} {s : Shared} {H : Hp} {E : XK}
    (T : Txt K mg) (G_RawWeb_init : Mak P w K mg base 1 "RawWeb" ["self", "many", "arrows"] (ad K "RawWeb") sp_RawWeb_init)
    (hr : Room 2 (A.deeper (envOfC "line" (defScope s_line) s.heap.objs.size f cdv))) :
    PSs (cxOf CX0 P w K mg base ["word", "arrows", "at", "sign"] "line" (defScope s_line) f cdv A outer s H E).nox (defBody s_line) (t_line K sp_RawWeb_init) :=
  (pss_cons (ps_if (PW.pt (pw_or (pt_not (pt_val (pe_callB call_isi (by rfl) T.b_isinstance (by decide +kernel) (pa_cons (pv 0) (pa_cons (pe_bltn (v := .ty "str") (by rfl) T.b_str (by decide +kernel) rfl) pa_nil))))) (pw_or1 (pt_cmpR op_gt (pe_callB call_len_str (by rfl) T.b_len (by decide +kernel) (pa_cons (pv 0) pa_nil)) (pe_op op_sub (pe_gi T.c_MOST_PLACES) pe_int) (nomark _))))) (pss_one ps_never) pss_nil)
    (pss_cons (ps_if (pt_not (pt_val (pe_callB (cr_all rfl) (by rfl) T.b_all (by decide +kernel) (pa_cons (pe_lc (own := [("sign", 3)]) (by rfl) sc_line.nd (pi_str (pv 0)) (blkOk_by (by kernel_rfl)) (fun _ _ _ _ _ => (pg_name (i := 3) sc_line.nd rfl (.inl rfl))) (fun _ _ _ _ _ => pts_nil) (fun _ _ _ _ _ => (pe_cmpR op_in_sign (pv 3) (pe_op op_add_str (pe_gz T.c_FORWARD) (pe_gz T.c_BACKWARD)) (by with_unfolding_all rfl)))) pa_nil)))) (pss_one ps_never) pss_nil)
    (pss_cons (ps_setLc (i := 1) (own := [("at", 2), ("sign", 3)]) (by rfl) sc_line.nd rfl rfl (sw_true rfl rfl rfl (by kernel_rfl)) (pi_enumS (by rfl) T.b_enumerate (pa_cons (pv 0) pa_nil)) (blkOk_by (by kernel_rfl)) (fun _ _ _ _ _ => (pg_tup rfl (pgs_cons (pg_name (i := 2) sc_line.nd rfl (.inl rfl)) (pgs_cons (pg_name (i := 3) sc_line.nd rfl (.inl rfl)) pgs_nil)))) (fun _ _ _ _ _ => pts_nil) (fun _ _ _ _ _ => (pe_ifExp (pt_cmpR op_eq (pv 3) (pe_gz T.c_FORWARD) (nomark _)) (pe_tup (pa_cons (pv 2) (pa_cons (pe_op op_add (pv 2) pe_int) pa_nil))) (pe_tup (pa_cons (pe_op op_add (pv 2) pe_int) (pa_cons (pv 2) pa_nil))))))
    (pss_one (ps_ret (pe_mak G_RawWeb_init hr (pa_cons (pe_op op_add (pe_callB call_len_str (by rfl) T.b_len (by decide +kernel) (pa_cons (pv 0) pa_nil)) pe_int) (pa_cons (pe_callTy call_tuple_of (by rfl) T.b_tuple (by decide +kernel) (pa_cons (pv 1) pa_nil)) pa_nil))))))))
/-! _law_line (level 4) -/
theorem sc_law_line : FnScope ["_law_purse_here", "_law_most", "_law_word", "_law_sign"] ["_law_purse_here", "_law_most"] (defScope s_law_line) := ⟨rfl, rfl, rfl, by decide +kernel, rfl, by decide +kernel, by decide +kernel⟩
theorem der_law_line {P : Program} {w : World} {K : PySem.W.Frag} {mg : Str → Option Value} {base : Heap} {sp_law_part : Sp} {sp_law_one : Sp} {sp_line : Sp} {f : Addr} {cdv : Value} {A : Around} {outer : List Env} {s : Shared} {H : Hp} {E : XK}
    (T : Txt K mg) (G_law_part : Cal P w K mg base 1 "_law_part" ["_law_purse_here", "_law_many"] sp_law_part) (G_law_one : Cal P w K mg base 2 "_law_one" ["_law_purse_here", "_law_some"] sp_law_one) (G_line : Cal P w K mg base 3 "line" ["word"] sp_line)
    (hr : Room 3 (A.deeper (envOfC "_law_line" (defScope s_law_line) s.heap.objs.size f cdv))) :
    PSs (cxOf CX0 P w K mg base ["_law_purse_here", "_law_most", "_law_word", "_law_sign"] "_law_line" (defScope s_law_line) f cdv A outer s H E).nox (defBody s_law_line) (t_law_line K sp_law_part sp_law_one sp_line) :=
  (pss_cons (ps_set (i := 2) sc_law_line.nd rfl (.inl rfl) (pe_bm PySem.F.plainAttrs_str PySem.F.slot_str_join PySem.F.type_str_join mt_join pe_str (pa_cons (pe_lc (own := [("_law_sign", 3)]) (by rfl) sc_law_line.nd (pi_range1 (by rfl) T.b_range (pa_cons (pe_cal G_law_part hr (pa_cons (pv 0) (pa_cons (pe_op op_add (pv 1) pe_int) pa_nil))) pa_nil)) (blkOk_by (by kernel_rfl)) (fun _ _ _ _ _ => (pg_name (i := 3) sc_law_line.nd rfl (.inl rfl))) (fun _ _ _ _ _ => pts_nil) (fun _ _ _ _ _ => (pe_cal G_law_one hr (pa_cons (pv 0) (pa_cons (pe_lst (pa_cons pe_str (pa_cons pe_str pa_nil))) pa_nil))))) pa_nil)))
    (pss_one (ps_ret (pe_tup (pa_cons (pv 2) (pa_cons (pe_cal G_line hr (pa_cons (pv 2) pa_nil)) pa_nil))))))
/-! _law_pairs (level 1) -/
theorem sc_law_pairs : FnScope ["_law_many", "_law_found", "_law_begin", "_law_end"] ["_law_many"] (defScope s_law_pairs) := ⟨rfl, rfl, rfl, by decide +kernel, rfl, by decide +kernel, by decide +kernel⟩
theorem der_law_pairs {P : Program} {w : World} {K : PySem.W.Frag} {mg : Str → Option Value} {base : Heap} {f : Addr} {cdv : Value} {A : Around} {outer : List Env} {s : Shared} {H : Hp} {E : XK}
    (T : Txt K mg)
    (hr : Room 0 (A.deeper (envOfC "_law_pairs" (defScope s_law_pairs) s.heap.objs.size f cdv))) :
    PSs (cxOf CX0 P w K mg base ["_law_many", "_law_found", "_law_begin", "_law_end"] "_law_pairs" (defScope s_law_pairs) f cdv A outer s H E).nox (defBody s_law_pairs) (t_law_pairs K) :=
  (pss_cons (ps_set (i := 1) sc_law_pairs.nd rfl (.inl rfl) (pe_lst pa_nil))
    (pss_cons (ps_for PassesOwn.never (by rfl) (pi_range1 (by rfl) T.b_range (pa_cons (pv 0) pa_nil)) (pg_name (i := 2) sc_law_pairs.nd rfl (.inr rfl)) (pss_one (ps_expr (pe_bm PySem.F.plainAttrs_list PySem.F.slot_list_extend PySem.F.type_list_extend mt_extend (pv 1) (pa_cons (pe_lc (own := [("_law_end", 3)]) (by rfl) sc_law_pairs.nd (pi_range1 (by rfl) T.b_range (pa_cons (pv 0) pa_nil)) (blkOk_by (by kernel_rfl)) (fun _ _ _ _ _ => (pg_name (i := 3) sc_law_pairs.nd rfl (.inl rfl))) (fun _ _ _ _ _ => pts_nil) (fun _ _ _ _ _ => (pe_tup (pa_cons (pv 2) (pa_cons (pv 3) pa_nil))))) pa_nil)))))
    (pss_one (ps_ret (pv 1)))))
/-! _law_stretches (level 2) -/
theorem sc_law_stretches : FnScope ["_law_many", "_law_begin", "_law_end"] ["_law_many"] (defScope s_law_stretches) := ⟨rfl, rfl, rfl, by decide +kernel, rfl, by decide +kernel, by decide +kernel⟩
theorem der_law_stretches {P : Program} {w : World} {K : PySem.W.Frag} {mg : Str → Option Value} {base : Heap} {sp_law_pairs : Sp} {f : Addr} {cdv : Value} {A : Around} {outer : List Env} {s : Shared} {H : Hp} {E : XK}
    (T : Txt K mg) (G_law_pairs : Cal P w K mg base 1 "_law_pairs" ["_law_many"] sp_law_pairs)
    (hr : Room 1 (A.deeper (envOfC "_law_stretches" (defScope s_law_stretches) s.heap.objs.size f cdv))) :
    PSs (cxOf CX0 P w K mg base ["_law_many", "_law_begin", "_law_end"] "_law_stretches" (defScope s_law_stretches) f cdv A outer s H E).nox (defBody s_law_stretches) (t_law_stretches K sp_law_pairs) :=
  (pss_one (ps_ret (pe_lc (own := [("_law_begin", 1), ("_law_end", 2)]) (by rfl) sc_law_stretches.nd (pi_list (pe_cal G_law_pairs hr (pa_cons (pv 0) pa_nil))) (blkOk_by (by kernel_rfl)) (fun _ _ _ _ _ => (pg_tup rfl (pgs_cons (pg_name (i := 1) sc_law_stretches.nd rfl (.inl rfl)) (pgs_cons (pg_name (i := 2) sc_law_stretches.nd rfl (.inl rfl)) pgs_nil)))) (fun _ _ _ _ _ => (pts_one (pt_cmpR op_le (pv 1) (pv 2) (nomark _)))) (fun _ _ _ _ _ => (pe_tup (pa_cons (pv 1) (pa_cons (pv 2) pa_nil)))))))
/-! is_line (level 1) -/
theorem sc_is_line : FnScope ["web", "at", "arrow"] ["web"] (defScope s_is_line) := ⟨rfl, rfl, rfl, by decide +kernel, rfl, by decide +kernel, by decide +kernel⟩
theorem der_is_line {P : Program} {w : World} {K : PySem.W.Frag} {mg : Str → Option Value} {base : Heap} {f : Addr} {cdv : Value} {A : Around} {outer : List Env} {s : Shared} {H : Hp} {E : XK}
    (T : Txt K mg)
    (hr : Room 0 (A.deeper (envOfC "is_line" (defScope s_is_line) s.heap.objs.size f cdv))) :
    PSs (cxOf CX0 P w K mg base ["web", "at", "arrow"] "is_line" (defScope s_is_line) f cdv A outer s H E).nox (defBody s_is_line) (t_is_line K) :=
  (pss_cons (ps_if (pt_cmpR op_ne (pe_callB call_len_seq (by rfl) T.b_len (by decide +kernel) (pa_cons (pe_fld (pv 0) rfl) pa_nil)) (pe_op op_sub (pe_fld (pv 0) rfl) pe_int) (nomark _)) (pss_one (ps_ret pe_bl)) pss_nil)
    (pss_one (ps_ret (pe_callB (cr_all rfl) (by rfl) T.b_all (by decide +kernel) (pa_cons (pe_lc (own := [("at", 1), ("arrow", 2)]) (by rfl) sc_is_line.nd (pi_enumT (by rfl) T.b_enumerate (pa_cons (pe_fld (pv 0) rfl) pa_nil)) (blkOk_by (by kernel_rfl)) (fun _ _ _ _ _ => (pg_tup rfl (pgs_cons (pg_name (i := 1) sc_is_line.nd rfl (.inl rfl)) (pgs_cons (pg_name (i := 2) sc_is_line.nd rfl (.inl rfl)) pgs_nil)))) (fun _ _ _ _ _ => pts_nil) (fun _ _ _ _ _ => (pe_cmpR (op_inT (un65 hr)) (pv 2) (pe_tup (pa_cons (pe_tup (pa_cons (pv 1) (pa_cons (pe_op op_add (pv 1) pe_int) pa_nil))) (pa_cons (pe_tup (pa_cons (pe_op op_add (pv 1) pe_int) (pa_cons (pv 1) pa_nil))) pa_nil))) (by with_unfolding_all rfl)))) pa_nil)))))
/-! is_integer (level 1) -/
theorem sc_is_integer : FnScope ["thing"] ["thing"] (defScope s_is_integer) := ⟨rfl, rfl, rfl, by decide +kernel, rfl, by decide +kernel, by decide +kernel⟩
theorem der_is_integer {P : Program} {w : World} {K : PySem.W.Frag} {mg : Str → Option Value} {base : Heap} {f : Addr} {cdv : Value} {A : Around} {outer : List Env} {s : Shared} {H : Hp} {E : XK}
    (T : Txt K mg)
    (hr : Room 0 (A.deeper (envOfC "is_integer" (defScope s_is_integer) s.heap.objs.size f cdv))) :
    PSs (cxOf CX0 P w K mg base ["thing"] "is_integer" (defScope s_is_integer) f cdv A outer s H E).nox (defBody s_is_integer) (t_is_integer K) :=
  (pss_one (ps_ret (pe_and (pe_callB call_isi (by rfl) T.b_isinstance (by decide +kernel) (pa_cons (pv 0) (pa_cons (pe_bltn (v := .ty "int") (by rfl) T.b_int (by decide +kernel) rfl) pa_nil))) (pe_one (pe_not (pe_callB call_isi (by rfl) T.b_isinstance (by decide +kernel) (pa_cons (pv 0) (pa_cons (pe_bltn (v := .ty "bool") (by rfl) T.b_bool (by decide +kernel) rfl) pa_nil))))))))
/-! is_prime (level 2) -/
theorem sc_is_prime : FnScope ["thing"] ["thing"] (defScope s_is_prime) := ⟨rfl, rfl, rfl, by decide +kernel, rfl, by decide +kernel, by decide +kernel⟩
theorem der_is_prime {P : Program} {w : World} {K : PySem.W.Frag} {mg : Str → Option Value} {base : Heap} {sp_is_integer : Sp} {f : Addr} {cdv : Value} {A : Around} {outer : List Env} {s : Shared} {H : Hp} {E : XK}
    (T : Txt K mg) (G_is_integer : Cal P w K mg base 1 "is_integer" ["thing"] sp_is_integer)
    (hr : Room 1 (A.deeper (envOfC "is_prime" (defScope s_is_prime) s.heap.objs.size f cdv))) :
    PSs (cxOf CX0 P w K mg base ["thing"] "is_prime" (defScope s_is_prime) f cdv A outer s H E).nox (defBody s_is_prime) (t_is_prime K sp_is_integer) :=
  (pss_one (ps_ret (pe_and (pe_cal G_is_integer hr (pa_cons (pv 0) pa_nil)) (pe_one (pe_cmpR op_in_seq (pv 0) (pe_ga T.g_PRIMES) (by with_unfolding_all rfl))))))
/-! check_prime (level 3) -/
theorem sc_check_prime : FnScope ["thing"] ["thing"] (defScope s_check_prime) := ⟨rfl, rfl, rfl, by decide +kernel, rfl, by decide +kernel, by decide +kernel⟩
theorem der_check_prime {P : Program} {w : World} {K : PySem.W.Frag} {mg : Str → Option Value} {base : Heap} {sp_is_prime : Sp} {f : Addr} {cdv : Value} {A : Around} {outer : List Env} {s : Shared} {H : Hp} {E : XK}
    (T : Txt K mg) (G_is_prime : Cal P w K mg base 2 "is_prime" ["thing"] sp_is_prime)
    (hr : Room 2 (A.deeper (envOfC "check_prime" (defScope s_check_prime) s.heap.objs.size f cdv))) :
    PSs (cxOf CX0 P w K mg base ["thing"] "check_prime" (defScope s_check_prime) f cdv A outer s H E).nox (defBody s_check_prime) (t_check_prime K sp_is_prime) :=
  (pss_one (ps_if (pt_not (pt_val (pe_cal G_is_prime hr (pa_cons (pv 0) pa_nil)))) (pss_one ps_never) pss_nil))
/-! is_within (level 2) -/
theorem sc_is_within : FnScope ["thing", "least", "most"] ["thing", "least", "most"] (defScope s_is_within) := ⟨rfl, rfl, rfl, by decide +kernel, rfl, by decide +kernel, by decide +kernel⟩
theorem der_is_within {P : Program} {w : World} {K : PySem.W.Frag} {mg : Str → Option Value} {base : Heap} {sp_is_integer : Sp} {f : Addr} {cdv : Value} {A : Around} {outer : List Env} {s : Shared} {H : Hp} {E : XK}
    (T : Txt K mg) (G_is_integer : Cal P w K mg base 1 "is_integer" ["thing"] sp_is_integer)
    (hr : Room 1 (A.deeper (envOfC "is_within" (defScope s_is_within) s.heap.objs.size f cdv))) :
    PSs (cxOf CX0 P w K mg base ["thing", "least", "most"] "is_within" (defScope s_is_within) f cdv A outer s H E).nox (defBody s_is_within) (t_is_within K sp_is_integer) :=
  (pss_one (ps_ret (pe_and (pe_cal G_is_integer hr (pa_cons (pv 0) pa_nil)) (pe_one (pe_chain op_le op_le (pv 1) (pv 0) (pv 2))))))
/-! is_number (level 3) -/
theorem sc_is_number : FnScope ["thing", "most"] ["thing", "most"] (defScope s_is_number) := ⟨rfl, rfl, rfl, by decide +kernel, rfl, by decide +kernel, by decide +kernel⟩
theorem der_is_number {P : Program} {w : World} {K : PySem.W.Frag} {mg : Str → Option Value} {base : Heap} {sp_is_within : Sp} {f : Addr} {cdv : Value} {A : Around} {outer : List Env} {s : Shared} {H : Hp} {E : XK}
    (T : Txt K mg) (G_is_within : Cal P w K mg base 2 "is_within" ["thing", "least", "most"] sp_is_within)
    (hr : Room 2 (A.deeper (envOfC "is_number" (defScope s_is_number) s.heap.objs.size f cdv))) :
    PSs (cxOf CX0 P w K mg base ["thing", "most"] "is_number" (defScope s_is_number) f cdv A outer s H E).nox (defBody s_is_number) (t_is_number K sp_is_within) :=
  (pss_one (ps_ret (pe_cal G_is_within hr (pa_cons (pv 0) (pa_cons pe_int (pa_cons (pv 1) pa_nil))))))
/-! check_stretch (level 4) -/
theorem sc_check_stretch : FnScope ["web", "begin", "end"] ["web", "begin", "end"] (defScope s_check_stretch) := ⟨rfl, rfl, rfl, by decide +kernel, rfl, by decide +kernel, by decide +kernel⟩
theorem der_check_stretch {P : Program} {w : World} {K : PySem.W.Frag} {mg : Str → Option Value} {base : Heap} {sp_is_number : Sp} {f : Addr} {cdv : Value} {A : Around} {outer : List Env} {s : Shared} {H : Hp} {E : XK}
    (T : Txt K mg) (G_is_number : Cal P w K mg base 3 "is_number" ["thing", "most"] sp_is_number)
    (hr : Room 3 (A.deeper (envOfC "check_stretch" (defScope s_check_stretch) s.heap.objs.size f cdv))) :
    PSs (cxOf CX0 P w K mg base ["web", "begin", "end"] "check_stretch" (defScope s_check_stretch) f cdv A outer s H E).nox (defBody s_check_stretch) (t_check_stretch K sp_is_number) :=
  (pss_one (ps_if (PW.pt (pw_or (pt_not (pt_val (pe_cal G_is_number hr (pa_cons (pv 1) (pa_cons (pe_op op_sub (pe_fld (pv 0) rfl) pe_int) pa_nil))))) (pw_or (pt_not (pt_val (pe_cal G_is_number hr (pa_cons (pv 2) (pa_cons (pe_op op_sub (pe_fld (pv 0) rfl) pe_int) pa_nil))))) (pw_or1 (pt_cmpR op_gt (pv 1) (pv 2) (nomark _)))))) (pss_one ps_never) pss_nil))
/-! Table.keep (level 1) -/
theorem sc_Table_keep : FnScope ["self", "prime", "wide", "rows"] ["self", "prime", "wide", "rows"] (defScope s_Table_keep) := ⟨rfl, rfl, rfl, by decide +kernel, rfl, by decide +kernel, by decide +kernel⟩
theorem der_Table_keep {P : Program} {w : World} {K : PySem.W.Frag} {mg : Str → Option Value} {base : Heap} {f : Addr} {cdv : Value} {A : Around} {outer : List Env} {s : Shared} {H : Hp} {E : XK}
    (T : Txt K mg)
    (hr : Room 0 (A.deeper (envOfC "Table.keep" (defScope s_Table_keep) s.heap.objs.size f cdv))) :
    PSs (cxOf CX0 P w K mg base ["self", "prime", "wide", "rows"] "Table.keep" (defScope s_Table_keep) f cdv A outer s H E).nox (defBody s_Table_keep) (t_Table_keep K) :=
  (pss_cons (ps_fld (pv 0) (pv 1) rfl)
    (pss_cons (ps_fld (pv 0) (pv 2) rfl)
    (pss_cons (ps_fld (pv 0) (pv 3) rfl)
    (pss_one (ps_fld (pv 0) (pe_callB call_len_seq (by rfl) T.b_len (by decide +kernel) (pa_cons (pv 3) pa_nil)) rfl)))))
/-! RawTable.__init__ (level 2) -/
theorem sc_RawTable_init : FnScope ["self", "prime", "wide", "rows"] ["self", "prime", "wide", "rows"] (defScope s_RawTable_init) := ⟨rfl, rfl, rfl, by decide +kernel, rfl, by decide +kernel, by decide +kernel⟩
theorem der_RawTable_init {P : Program} {w : World} {K : PySem.W.Frag} {mg : Str → Option Value} {base : Heap} {sp_RawTable_keep : Sp} {f : Addr} {cdv : Value} {A : Around} {outer : List Env} {s : Shared} {H : Hp} {E : XK}
    (T : Txt K mg) (G_RawTable_keep : Met P w K mg base 1 (ad K "RawTable") "keep" ["self", "prime", "wide", "rows"] sp_RawTable_keep)
    (hr : Room 1 (A.deeper (envOfC "RawTable.__init__" (defScope s_RawTable_init) s.heap.objs.size f cdv))) :
    PSs (cxOf CX0 P w K mg base ["self", "prime", "wide", "rows"] "RawTable.__init__" (defScope s_RawTable_init) f cdv A outer s H E).nox (defBody s_RawTable_init) (t_RawTable_init K sp_RawTable_keep) :=
  (pss_one (ps_expr (pe_met G_RawTable_keep hr (pv 0) (pa_cons (pv 1) (pa_cons (pv 2) (pa_cons (pv 3) pa_nil))))))
/-! raw_plain (level 4) -/
theorem sc_raw_plain : FnScope ["prime", "size", "here", "at"] ["prime", "size"] (defScope s_raw_plain) := ⟨rfl, rfl, rfl, by decide +kernel, rfl, by decide +kernel, by decide +kernel⟩
theorem der_raw_plain {P : Program} {w : World} {K : PySem.W.Frag} {mg : Str → Option Value} {base : Heap} {sp_RawTable_init : Sp} {f : Addr} {cdv : Value} {A : Around} {outer : List Env} {s : Shared} {H : Hp} {E : XK}
    (T : Txt K mg) (G_RawTable_init : Mak P w K mg base 2 "RawTable" ["self", "prime", "wide", "rows"] (ad K "RawTable") sp_RawTable_init)
    (hr : Room 3 (A.deeper (envOfC "raw_plain" (defScope s_raw_plain) s.heap.objs.size f cdv))) :
    PSs (cxOf CX0 P w K mg base ["prime", "size", "here", "at"] "raw_plain" (defScope s_raw_plain) f cdv A outer s H E).nox (defBody s_raw_plain) (t_raw_plain K sp_RawTable_init) :=
  (pss_one (ps_ret (pe_mak G_RawTable_init hr (pa_cons (pv 0) (pa_cons (pv 1) (pa_cons (pe_callTy call_tuple_of (by rfl) T.b_tuple (by decide +kernel) (pa_cons (pe_lc (own := [("here", 2)]) (by rfl) sc_raw_plain.nd (pi_range1 (by rfl) T.b_range (pa_cons (pv 1) pa_nil)) (blkOk_by (by kernel_rfl)) (fun _ _ _ _ _ => (pg_name (i := 2) sc_raw_plain.nd rfl (.inr rfl))) (fun _ _ _ _ _ => pts_nil) (fun _ _ _ _ _ => (pe_callTy call_tuple_of (by rfl) T.b_tuple (by decide +kernel) (pa_cons (pe_lc (own := [("at", 3)]) (by rfl) sc_raw_plain.nd (pi_range1 (by rfl) T.b_range (pa_cons (pv 1) pa_nil)) (blkOk_by (by kernel_rfl)) (fun _ _ _ _ _ => (pg_name (i := 3) sc_raw_plain.nd rfl (.inl rfl))) (fun _ _ _ _ _ => pts_nil) (fun _ _ _ _ _ => (pe_callTy call_int1 (by rfl) T.b_int (by decide +kernel) (pa_cons (pe_cmpR op_eq (pv 3) (pv 2) (nomark _)) pa_nil)))) pa_nil)))) pa_nil)) pa_nil))))))
/-! raw_nought (level 4) -/
theorem sc_raw_nought : FnScope ["prime", "high", "wide", "row"] ["prime", "high", "wide"] (defScope s_raw_nought) := ⟨rfl, rfl, rfl, by decide +kernel, rfl, by decide +kernel, by decide +kernel⟩
theorem der_raw_nought {P : Program} {w : World} {K : PySem.W.Frag} {mg : Str → Option Value} {base : Heap} {sp_RawTable_init : Sp} {f : Addr} {cdv : Value} {A : Around} {outer : List Env} {s : Shared} {H : Hp} {E : XK}
    (T : Txt K mg) (G_RawTable_init : Mak P w K mg base 2 "RawTable" ["self", "prime", "wide", "rows"] (ad K "RawTable") sp_RawTable_init)
    (hr : Room 3 (A.deeper (envOfC "raw_nought" (defScope s_raw_nought) s.heap.objs.size f cdv))) :
    PSs (cxOf CX0 P w K mg base ["prime", "high", "wide", "row"] "raw_nought" (defScope s_raw_nought) f cdv A outer s H E).nox (defBody s_raw_nought) (t_raw_nought K sp_RawTable_init) :=
  (pss_one (ps_ret (pe_mak G_RawTable_init hr (pa_cons (pv 0) (pa_cons (pv 2) (pa_cons (pe_callTy call_tuple_of (by rfl) T.b_tuple (by decide +kernel) (pa_cons (pe_lc (own := [("row", 3)]) (by rfl) sc_raw_nought.nd (pi_range1 (by rfl) T.b_range (pa_cons (pv 1) pa_nil)) (blkOk_by (by kernel_rfl)) (fun _ _ _ _ _ => (pg_name (i := 3) sc_raw_nought.nd rfl (.inl rfl))) (fun _ _ _ _ _ => pts_nil) (fun _ _ _ _ _ => (pe_op op_repA (pe_tup (pa_cons pe_int pa_nil)) (pv 2)))) pa_nil)) pa_nil))))))
/-! Picture.keep (level 1) -/
theorem sc_Picture_keep : FnScope ["self", "web", "prime", "sizes", "tables"] ["self", "web", "prime", "sizes", "tables"] (defScope s_Picture_keep) := ⟨rfl, rfl, rfl, by decide +kernel, rfl, by decide +kernel, by decide +kernel⟩
theorem der_Picture_keep {P : Program} {w : World} {K : PySem.W.Frag} {mg : Str → Option Value} {base : Heap} {f : Addr} {cdv : Value} {A : Around} {outer : List Env} {s : Shared} {H : Hp} {E : XK}
    (T : Txt K mg)
    (hr : Room 0 (A.deeper (envOfC "Picture.keep" (defScope s_Picture_keep) s.heap.objs.size f cdv))) :
    PSs (cxOf CX0 P w K mg base ["self", "web", "prime", "sizes", "tables"] "Picture.keep" (defScope s_Picture_keep) f cdv A outer s H E).nox (defBody s_Picture_keep) (t_Picture_keep K) :=
  (pss_cons (ps_fld (pv 0) (pv 1) rfl)
    (pss_cons (ps_fld (pv 0) (pv 2) rfl)
    (pss_cons (ps_fld (pv 0) (pv 3) rfl)
    (pss_one (ps_fld (pv 0) (pv 4) rfl)))))
/-! RawPicture.__init__ (level 2) -/
theorem sc_RawPicture_init : FnScope ["self", "web", "prime", "sizes", "tables"] ["self", "web", "prime", "sizes", "tables"] (defScope s_RawPicture_init) := ⟨rfl, rfl, rfl, by decide +kernel, rfl, by decide +kernel, by decide +kernel⟩
theorem der_RawPicture_init {P : Program} {w : World} {K : PySem.W.Frag} {mg : Str → Option Value} {base : Heap} {sp_RawPicture_keep : Sp} {f : Addr} {cdv : Value} {A : Around} {outer : List Env} {s : Shared} {H : Hp} {E : XK}
    (T : Txt K mg) (G_RawPicture_keep : Met P w K mg base 1 (ad K "RawPicture") "keep" ["self", "web", "prime", "sizes", "tables"] sp_RawPicture_keep)
    (hr : Room 1 (A.deeper (envOfC "RawPicture.__init__" (defScope s_RawPicture_init) s.heap.objs.size f cdv))) :
    PSs (cxOf CX0 P w K mg base ["self", "web", "prime", "sizes", "tables"] "RawPicture.__init__" (defScope s_RawPicture_init) f cdv A outer s H E).nox (defBody s_RawPicture_init) (t_RawPicture_init K sp_RawPicture_keep) :=
  (pss_one (ps_expr (pe_met G_RawPicture_keep hr (pv 0) (pa_cons (pv 1) (pa_cons (pv 2) (pa_cons (pv 3) (pa_cons (pv 4) pa_nil)))))))
/-! raw_bar (level 5) -/
theorem sc_raw_bar : FnScope ["web", "prime", "begin", "end", "sizes", "tables", "one", "other", "both", "place"] ["web", "prime", "begin", "end"] (defScope s_raw_bar) := ⟨rfl, rfl, rfl, by decide +kernel, rfl, by decide +kernel, by decide +kernel⟩
theorem der_raw_bar {P : Program} {w : World} {K : PySem.W.Frag} {mg : Str → Option Value} {base : Heap} {sp_raw_plain : Sp} {sp_raw_nought : Sp} {sp_RawPicture_init : Sp} {f : Addr} {cdv : Value} {A : Around} {outer : List Env} {s : Shared} {H : Hp} {E : XK}
    (T : Txt K mg) (G_raw_plain : Cal P w K mg base 4 "raw_plain" ["prime", "size"] sp_raw_plain) (G_raw_nought : Cal P w K mg base 4 "raw_nought" ["prime", "high", "wide"] sp_raw_nought) (G_RawPicture_init : Mak P w K mg base 2 "RawPicture" ["self", "web", "prime", "sizes", "tables"] (ad K "RawPicture") sp_RawPicture_init)
    (hr : Room 4 (A.deeper (envOfC "raw_bar" (defScope s_raw_bar) s.heap.objs.size f cdv))) :
    PSs (cxOf CX0 P w K mg base ["web", "prime", "begin", "end", "sizes", "tables", "one", "other", "both", "place"] "raw_bar" (defScope s_raw_bar) f cdv A outer s H E).nox (defBody s_raw_bar) (t_raw_bar K sp_raw_plain sp_raw_nought sp_RawPicture_init) :=
  (pss_cons (ps_set (i := 4) sc_raw_bar.nd rfl (.inl rfl) (pe_callTy call_tuple_of (by rfl) T.b_tuple (by decide +kernel) (pa_cons (pe_lc (own := [("place", 9)]) (by rfl) sc_raw_bar.nd (pi_range1 (by rfl) T.b_range (pa_cons (pe_fld (pv 0) rfl) pa_nil)) (blkOk_by (by kernel_rfl)) (fun _ _ _ _ _ => (pg_name (i := 9) sc_raw_bar.nd rfl (.inl rfl))) (fun _ _ _ _ _ => pts_nil) (fun _ _ _ _ _ => (pe_callTy call_int1 (by rfl) T.b_int (by decide +kernel) (pa_cons (pe_chain op_le op_le (pv 2) (pv 9) (pv 3)) pa_nil)))) pa_nil)))
    (pss_cons (ps_set (i := 5) sc_raw_bar.nd rfl (.inl rfl) (pe_lst pa_nil))
    (pss_cons (ps_for PassesOwn.never (by rfl) (pi_tup (pe_fld (pv 0) rfl)) (pg_tup rfl (pgs_cons (pg_name (i := 6) sc_raw_bar.nd rfl (.inl rfl)) (pgs_cons (pg_name (i := 7) sc_raw_bar.nd rfl (.inl rfl)) pgs_nil))) (pss_cons (ps_set (i := 8) sc_raw_bar.nd rfl (.inl rfl) (pe_cmpR op_eq (pe_op op_add (pe_ix ix_tup (pv 4) (pv 6) (fun _ _ => rfl)) (pe_ix ix_tup (pv 4) (pv 7) (fun _ _ => rfl))) pe_int (nomark _)))
    (pss_one (ps_expr (pe_bm PySem.F.plainAttrs_list PySem.F.slot_list_append PySem.F.type_list_append mt_append (pv 5) (pa_cons (pe_ifExp (pt_val (pv 8)) (pe_cal G_raw_plain hr (pa_cons (pv 1) (pa_cons pe_int pa_nil))) (pe_cal G_raw_nought hr (pa_cons (pv 1) (pa_cons (pe_ix ix_tup (pv 4) (pv 7) (fun _ _ => rfl)) (pa_cons (pe_ix ix_tup (pv 4) (pv 6) (fun _ _ => rfl)) pa_nil))))) pa_nil))))))
    (pss_one (ps_ret (pe_mak G_RawPicture_init hr (pa_cons (pv 0) (pa_cons (pv 1) (pa_cons (pv 4) (pa_cons (pe_callTy call_tuple_of (by rfl) T.b_tuple (by decide +kernel) (pa_cons (pv 5) pa_nil)) pa_nil))))))))))
/-! bar_of (level 6) -/
theorem sc_bar_of : FnScope ["web", "prime", "begin", "end"] ["web", "prime", "begin", "end"] (defScope s_bar_of) := ⟨rfl, rfl, rfl, by decide +kernel, rfl, by decide +kernel, by decide +kernel⟩
theorem der_bar_of {P : Program} {w : World} {K : PySem.W.Frag} {mg : Str → Option Value} {base : Heap} {sp_is_line : Sp} {sp_check_prime : Sp} {sp_check_stretch : Sp} {sp_raw_bar : Sp} {f : Addr} {cdv : Value} {A : Around} {outer : List Env} {s : Shared} {H : Hp} {E : XK}
    (T : Txt K mg) (G_is_line : Cal P w K mg base 1 "is_line" ["web"] sp_is_line) (G_check_prime : Cal P w K mg base 3 "check_prime" ["thing"] sp_check_prime) (G_check_stretch : Cal P w K mg base 4 "check_stretch" ["web", "begin", "end"] sp_check_stretch) (G_raw_bar : Cal P w K mg base 5 "raw_bar" ["web", "prime", "begin", "end"] sp_raw_bar)
    (hr : Room 5 (A.deeper (envOfC "bar_of" (defScope s_bar_of) s.heap.objs.size f cdv))) :
    PSs (cxOf CX0 P w K mg base ["web", "prime", "begin", "end"] "bar_of" (defScope s_bar_of) f cdv A outer s H E).nox (defBody s_bar_of) (t_bar_of K sp_is_line sp_check_prime sp_check_stretch sp_raw_bar) :=
  (pss_cons (ps_if (pt_not (pt_val (pe_cal G_is_line hr (pa_cons (pv 0) pa_nil)))) (pss_one ps_never) pss_nil)
    (pss_cons (ps_expr (pe_cal G_check_prime hr (pa_cons (pv 1) pa_nil)))
    (pss_cons (ps_expr (pe_cal G_check_stretch hr (pa_cons (pv 0) (pa_cons (pv 2) (pa_cons (pv 3) pa_nil)))))
    (pss_one (ps_ret (pe_cal G_raw_bar hr (pa_cons (pv 0) (pa_cons (pv 1) (pa_cons (pv 2) (pa_cons (pv 3) pa_nil))))))))))
/-! Web.__eq__ (level 1) -/
theorem sc_Web_eq : FnScope ["self", "other"] ["self", "other"] (defScope s_Web_eq) := ⟨rfl, rfl, rfl, by decide +kernel, rfl, by decide +kernel, by decide +kernel⟩
theorem der_Web_eq {P : Program} {w : World} {K : PySem.W.Frag} {mg : Str → Option Value} {base : Heap} {f : Addr} {cdv : Value} {A : Around} {outer : List Env} {s : Shared} {H : Hp} {E : XK}
    (T : Txt K mg)
    (hr : Room 0 (A.deeper (envOfC "Web.__eq__" (defScope s_Web_eq) s.heap.objs.size f cdv))) :
    PSs (cxOf CX0 P w K mg base ["self", "other"] "Web.__eq__" (defScope s_Web_eq) f cdv A outer s H E).nox (defBody s_Web_eq) (t_Web_eq K) :=
  (pss_one (ps_ret (pe_and (pe_callB call_isi (by rfl) T.b_isinstance (by decide +kernel) (pa_cons (pv 1) (pa_cons (pe_ga T.g_Web) pa_nil))) (pe_one (pe_cmpR (op_eqD hr.units) (pe_tup (pa_cons (pe_fld (pv 0) rfl) (pa_cons (pe_fld (pv 0) rfl) pa_nil))) (pe_tup (pa_cons (pe_fld (pv 1) rfl) (pa_cons (pe_fld (pv 1) rfl) pa_nil))) (nomark _))))))
/-! is_picture_of (level 3) -/
theorem sc_is_picture_of : FnScope ["web", "prime", "thing"] ["web", "prime", "thing"] (defScope s_is_picture_of) := ⟨rfl, rfl, rfl, by decide +kernel, rfl, by decide +kernel, by decide +kernel⟩
theorem der_is_picture_of {P : Program} {w : World} {K : PySem.W.Frag} {mg : Str → Option Value} {base : Heap} {D_web : Eqv} {f : Addr} {cdv : Value} {A : Around} {outer : List Env} {s : Shared} {H : Hp} {E : XK}
    (T : Txt K mg) (rc_web : RcG (cxOf CX0 P w K mg base ["web", "prime", "thing"] "is_picture_of" (defScope s_is_picture_of) f cdv A outer s H E).nox 2 D_web)
    (hr : Room 2 (A.deeper (envOfC "is_picture_of" (defScope s_is_picture_of) s.heap.objs.size f cdv))) :
    PSs (cxOf CX0 P w K mg base ["web", "prime", "thing"] "is_picture_of" (defScope s_is_picture_of) f cdv A outer s H E).nox (defBody s_is_picture_of) (t_is_picture_of K D_web) :=
  (pss_one (ps_ret (pe_and (pe_callB call_isi (by rfl) T.b_isinstance (by decide +kernel) (pa_cons (pv 2) (pa_cons (pe_ga T.g_Picture) pa_nil))) (pe_and (pe_cmpR (op_eqG rc_web (hr.mono (by decide))) (pe_fld (pv 2) rfl) (pv 0) (nomark _)) (pe_one (pe_cmpR op_eq (pe_fld (pv 2) rfl) (pv 1) (nomark _)))))))
/-! raw_corner (level 4) -/
theorem sc_raw_corner : FnScope ["one", "other", "rows", "row"] ["one", "other"] (defScope s_raw_corner) := ⟨rfl, rfl, rfl, by decide +kernel, rfl, by decide +kernel, by decide +kernel⟩
theorem der_raw_corner {P : Program} {w : World} {K : PySem.W.Frag} {mg : Str → Option Value} {base : Heap} {sp_RawTable_init : Sp} {f : Addr} {cdv : Value} {A : Around} {outer : List Env} {s : Shared} {H : Hp} {E : XK}
    (T : Txt K mg) (G_RawTable_init : Mak P w K mg base 2 "RawTable" ["self", "prime", "wide", "rows"] (ad K "RawTable") sp_RawTable_init)
    (hr : Room 3 (A.deeper (envOfC "raw_corner" (defScope s_raw_corner) s.heap.objs.size f cdv))) :
    PSs (cxOf CX0 P w K mg base ["one", "other", "rows", "row"] "raw_corner" (defScope s_raw_corner) f cdv A outer s H E).nox (defBody s_raw_corner) (t_raw_corner K sp_RawTable_init) :=
  (pss_cons (ps_set (i := 2) sc_raw_corner.nd rfl (.inl rfl) (pe_op op_cat (pe_lc (own := [("row", 3)]) (by rfl) sc_raw_corner.nd (pi_tup (pe_fld (pv 0) rfl)) (blkOk_by (by kernel_rfl)) (fun _ _ _ _ _ => (pg_name (i := 3) sc_raw_corner.nd rfl (.inl rfl))) (fun _ _ _ _ _ => pts_nil) (fun _ _ _ _ _ => (pe_op op_catA (pv 3) (pe_op op_repA (pe_tup (pa_cons pe_int pa_nil)) (pe_fld (pv 1) rfl))))) (pe_lc (own := [("row", 3)]) (by rfl) sc_raw_corner.nd (pi_tup (pe_fld (pv 1) rfl)) (blkOk_by (by kernel_rfl)) (fun _ _ _ _ _ => (pg_name (i := 3) sc_raw_corner.nd rfl (.inl rfl))) (fun _ _ _ _ _ => pts_nil) (fun _ _ _ _ _ => (pe_op op_catA (pe_op op_repA (pe_tup (pa_cons pe_int pa_nil)) (pe_fld (pv 0) rfl)) (pv 3))))))
    (pss_one (ps_ret (pe_mak G_RawTable_init hr (pa_cons (pe_fld (pv 0) rfl) (pa_cons (pe_op op_add (pe_fld (pv 0) rfl) (pe_fld (pv 1) rfl)) (pa_cons (pe_callTy call_tuple_of (by rfl) T.b_tuple (by decide +kernel) (pa_cons (pv 2) pa_nil)) pa_nil)))))))
/-! raw_beside (level 5) -/
theorem sc_raw_beside : FnScope ["web", "prime", "pictures", "sizes", "tables", "picture", "arrow", "one", "two"] ["web", "prime", "pictures"] (defScope s_raw_beside) := ⟨rfl, rfl, rfl, by decide +kernel, rfl, by decide +kernel, by decide +kernel⟩
theorem der_raw_beside {P : Program} {w : World} {K : PySem.W.Frag} {mg : Str → Option Value} {base : Heap} {sp_raw_nought : Sp} {sp_raw_corner : Sp} {sp_RawPicture_init : Sp} {f : Addr} {cdv : Value} {A : Around} {outer : List Env} {s : Shared} {H : Hp} {E : XK}
    (T : Txt K mg) (G_raw_nought : Cal P w K mg base 4 "raw_nought" ["prime", "high", "wide"] sp_raw_nought) (G_raw_corner : Cal P w K mg base 4 "raw_corner" ["one", "other"] sp_raw_corner) (G_RawPicture_init : Mak P w K mg base 2 "RawPicture" ["self", "web", "prime", "sizes", "tables"] (ad K "RawPicture") sp_RawPicture_init)
    (hr : Room 4 (A.deeper (envOfC "raw_beside" (defScope s_raw_beside) s.heap.objs.size f cdv))) :
    PSs (cxOf CX0 P w K mg base ["web", "prime", "pictures", "sizes", "tables", "picture", "arrow", "one", "two"] "raw_beside" (defScope s_raw_beside) f cdv A outer s H E).nox (defBody s_raw_beside) (t_raw_beside K sp_raw_nought sp_raw_corner sp_RawPicture_init) :=
  (pss_cons (ps_set (i := 3) sc_raw_beside.nd rfl (.inl rfl) (pe_op op_rep (pe_lst (pa_cons pe_int pa_nil)) (pe_fld (pv 0) rfl)))
    (pss_cons (ps_setLc (i := 4) (own := [("arrow", 6)]) (by rfl) sc_raw_beside.nd rfl rfl (sw_true rfl rfl rfl (by kernel_rfl)) (pi_tup (pe_fld (pv 0) rfl)) (blkOk_by (by kernel_rfl)) (fun _ _ _ _ _ => (pg_name (i := 6) sc_raw_beside.nd rfl (.inl rfl))) (fun _ _ _ _ _ => pts_nil) (fun _ _ _ _ _ => (pe_cal G_raw_nought hr (pa_cons (pv 1) (pa_cons pe_int (pa_cons pe_int pa_nil))))))
    (pss_cons (ps_for PassesOwn.never (by rfl) (pi_list (pv 2)) (pg_name (i := 5) sc_raw_beside.nd rfl (.inl rfl)) (pss_cons (ps_setLc (i := 3) (own := [("one", 7), ("two", 8)]) (by rfl) sc_raw_beside.nd rfl rfl (sw_true rfl rfl rfl (by kernel_rfl)) (pi_zipLT (by rfl) T.b_zip (pa_cons (pv 3) (pa_cons (pe_fld (pv 5) rfl) pa_nil))) (blkOk_by (by kernel_rfl)) (fun _ _ _ _ _ => (pg_tup rfl (pgs_cons (pg_name (i := 7) sc_raw_beside.nd rfl (.inl rfl)) (pgs_cons (pg_name (i := 8) sc_raw_beside.nd rfl (.inl rfl)) pgs_nil)))) (fun _ _ _ _ _ => pts_nil) (fun _ _ _ _ _ => (pe_op op_add (pv 7) (pv 8))))
    (pss_one (ps_setLc (i := 4) (own := [("one", 7), ("two", 8)]) (by rfl) sc_raw_beside.nd rfl rfl (sw_true rfl rfl rfl (by kernel_rfl)) (pi_zipLT (by rfl) T.b_zip (pa_cons (pv 4) (pa_cons (pe_fld (pv 5) rfl) pa_nil))) (blkOk_by (by kernel_rfl)) (fun _ _ _ _ _ => (pg_tup rfl (pgs_cons (pg_name (i := 7) sc_raw_beside.nd rfl (.inl rfl)) (pgs_cons (pg_name (i := 8) sc_raw_beside.nd rfl (.inl rfl)) pgs_nil)))) (fun _ _ _ _ _ => pts_nil) (fun _ _ _ _ _ => (pe_cal G_raw_corner hr (pa_cons (pv 7) (pa_cons (pv 8) pa_nil))))))))
    (pss_one (ps_ret (pe_mak G_RawPicture_init hr (pa_cons (pv 0) (pa_cons (pv 1) (pa_cons (pe_callTy call_tuple_of (by rfl) T.b_tuple (by decide +kernel) (pa_cons (pv 3) pa_nil)) (pa_cons (pe_callTy call_tuple_of (by rfl) T.b_tuple (by decide +kernel) (pa_cons (pv 4) pa_nil)) pa_nil))))))))))
/-! beside (level 6) -/
theorem sc_beside : FnScope ["web", "prime", "pictures", "thing"] ["web", "prime", "pictures"] (defScope s_beside) := ⟨rfl, rfl, rfl, by decide +kernel, rfl, by decide +kernel, by decide +kernel⟩
theorem der_beside {P : Program} {w : World} {K : PySem.W.Frag} {mg : Str → Option Value} {base : Heap} {sp_check_prime : Sp} {sp_is_picture_of : Sp} {sp_raw_beside : Sp} {f : Addr} {cdv : Value} {A : Around} {outer : List Env} {s : Shared} {H : Hp} {E : XK}
    (T : Txt K mg) (G_check_prime : Cal P w K mg base 3 "check_prime" ["thing"] sp_check_prime) (G_is_picture_of : Cal P w K mg base 3 "is_picture_of" ["web", "prime", "thing"] sp_is_picture_of) (G_raw_beside : Cal P w K mg base 5 "raw_beside" ["web", "prime", "pictures"] sp_raw_beside)
    (hr : Room 5 (A.deeper (envOfC "beside" (defScope s_beside) s.heap.objs.size f cdv))) :
    PSs (cxOf CX0 P w K mg base ["web", "prime", "pictures", "thing"] "beside" (defScope s_beside) f cdv A outer s H E).nox (defBody s_beside) (t_beside K sp_check_prime sp_is_picture_of sp_raw_beside) :=
  (pss_cons (ps_expr (pe_cal G_check_prime hr (pa_cons (pv 1) pa_nil)))
    (pss_cons (ps_if (PW.pt (pw_or (pt_not (pt_val (pe_callB call_isiT (by rfl) T.b_isinstance (by decide +kernel) (pa_cons (pv 2) (pa_cons (pe_tup (pa_cons (pe_bltn (v := .ty "list") (by rfl) T.b_list (by decide +kernel) rfl) (pa_cons (pe_bltn (v := .ty "tuple") (by rfl) T.b_tuple (by decide +kernel) rfl) pa_nil))) pa_nil))))) (pw_or1 (pt_cmpR op_gt (pe_callB call_len_seq (by rfl) T.b_len (by decide +kernel) (pa_cons (pv 2) pa_nil)) (pe_gi T.c_MOST_BESIDE) (nomark _))))) (pss_one ps_never) pss_nil)
    (pss_cons (ps_if (pt_not (pt_val (pe_callB (cr_all rfl) (by rfl) T.b_all (by decide +kernel) (pa_cons (pe_lc (own := [("thing", 3)]) (by rfl) sc_beside.nd (pi_list (pv 2)) (blkOk_by (by kernel_rfl)) (fun _ _ _ _ _ => (pg_name (i := 3) sc_beside.nd rfl (.inl rfl))) (fun _ _ _ _ _ => pts_nil) (fun _ _ _ _ _ => (pe_cal G_is_picture_of hr (pa_cons (pv 0) (pa_cons (pv 1) (pa_cons (pv 3) pa_nil)))))) pa_nil)))) (pss_one ps_never) pss_nil)
    (pss_one (ps_ret (pe_cal G_raw_beside hr (pa_cons (pv 0) (pa_cons (pv 1) (pa_cons (pv 2) pa_nil)))))))))
/-! is_column (level 4) -/
theorem sc_is_column : FnScope ["prime", "size", "thing", "worth"] ["prime", "size", "thing"] (defScope s_is_column) := ⟨rfl, rfl, rfl, by decide +kernel, rfl, by decide +kernel, by decide +kernel⟩
theorem der_is_column {P : Program} {w : World} {K : PySem.W.Frag} {mg : Str → Option Value} {base : Heap} {sp_is_number : Sp} {f : Addr} {cdv : Value} {A : Around} {outer : List Env} {s : Shared} {H : Hp} {E : XK}
    (T : Txt K mg) (G_is_number : Cal P w K mg base 3 "is_number" ["thing", "most"] sp_is_number)
    (hr : Room 3 (A.deeper (envOfC "is_column" (defScope s_is_column) s.heap.objs.size f cdv))) :
    PSs (cxOf CX0 P w K mg base ["prime", "size", "thing", "worth"] "is_column" (defScope s_is_column) f cdv A outer s H E).nox (defBody s_is_column) (t_is_column K sp_is_number) :=
  (pss_one (ps_ret (pe_and (pe_callB call_isi (by rfl) T.b_isinstance (by decide +kernel) (pa_cons (pv 2) (pa_cons (pe_bltn (v := .ty "tuple") (by rfl) T.b_tuple (by decide +kernel) rfl) pa_nil))) (pe_and (pe_cmpR op_eq (pe_callB call_len_seq (by rfl) T.b_len (by decide +kernel) (pa_cons (pv 2) pa_nil)) (pv 1) (nomark _)) (pe_one (pe_callB (cr_all rfl) (by rfl) T.b_all (by decide +kernel) (pa_cons (pe_lc (own := [("worth", 3)]) (by rfl) sc_is_column.nd (pi_tup (pv 2)) (blkOk_by (by kernel_rfl)) (fun _ _ _ _ _ => (pg_name (i := 3) sc_is_column.nd rfl (.inl rfl))) (fun _ _ _ _ _ => pts_nil) (fun _ _ _ _ _ => (pe_cal G_is_number hr (pa_cons (pv 3) (pa_cons (pe_op op_sub (pv 0) pe_int) pa_nil))))) pa_nil)))))))
/-! Table.__init__ (level 5) -/
theorem sc_Table_init : FnScope ["self", "prime", "wide", "rows", "index", "row"] ["self", "prime", "wide", "rows"] (defScope s_Table_init) := ⟨rfl, rfl, rfl, by decide +kernel, rfl, by decide +kernel, by decide +kernel⟩
theorem der_Table_init {P : Program} {w : World} {K : PySem.W.Frag} {mg : Str → Option Value} {base : Heap} {sp_is_prime : Sp} {sp_is_number : Sp} {sp_is_column : Sp} {sp_Table_keep : Sp} {f : Addr} {cdv : Value} {A : Around} {outer : List Env} {s : Shared} {H : Hp} {E : XK}
    (T : Txt K mg) (G_is_prime : Cal P w K mg base 2 "is_prime" ["thing"] sp_is_prime) (G_is_number : Cal P w K mg base 3 "is_number" ["thing", "most"] sp_is_number) (G_is_column : Cal P w K mg base 4 "is_column" ["prime", "size", "thing"] sp_is_column) (G_Table_keep : Met P w K mg base 1 (ad K "Table") "keep" ["self", "prime", "wide", "rows"] sp_Table_keep)
    (hr : Room 4 (A.deeper (envOfC "Table.__init__" (defScope s_Table_init) s.heap.objs.size f cdv))) :
    PSs (cxOf CX0 P w K mg base ["self", "prime", "wide", "rows", "index", "row"] "Table.__init__" (defScope s_Table_init) f cdv A outer s H E).nox (defBody s_Table_init) (t_Table_init K sp_is_prime sp_is_number sp_is_column sp_Table_keep) :=
  (pss_cons (ps_if (pt_not (pt_val (pe_cal G_is_prime hr (pa_cons (pv 1) pa_nil)))) (pss_one ps_never) pss_nil)
    (pss_cons (ps_if (pt_not (pt_val (pe_cal G_is_number hr (pa_cons (pv 2) (pa_cons (pe_gi T.c_MOST) pa_nil))))) (pss_one ps_never) pss_nil)
    (pss_cons (ps_if (PW.pt (pw_or (pt_not (pt_val (pe_callB call_isi (by rfl) T.b_isinstance (by decide +kernel) (pa_cons (pv 3) (pa_cons (pe_bltn (v := .ty "tuple") (by rfl) T.b_tuple (by decide +kernel) rfl) pa_nil))))) (pw_or1 (pt_cmpR op_gt (pe_callB call_len_seq (by rfl) T.b_len (by decide +kernel) (pa_cons (pv 3) pa_nil)) (pe_gi T.c_MOST) (nomark _))))) (pss_one ps_never) pss_nil)
    (pss_cons (ps_for PassesOwn.never (by rfl) (pi_enumT (by rfl) T.b_enumerate (pa_cons (pv 3) pa_nil)) (pg_tup rfl (pgs_cons (pg_name (i := 4) sc_Table_init.nd rfl (.inl rfl)) (pgs_cons (pg_name (i := 5) sc_Table_init.nd rfl (.inl rfl)) pgs_nil))) (pss_one (ps_if (pt_not (pt_val (pe_cal G_is_column hr (pa_cons (pv 1) (pa_cons (pv 2) (pa_cons (pv 5) pa_nil)))))) (pss_one ps_never) pss_nil)))
    (pss_one (ps_expr (pe_met G_Table_keep hr (pv 0) (pa_cons (pv 1) (pa_cons (pv 2) (pa_cons (pv 3) pa_nil))))))))))
/-! _law_base (level 7) -/
theorem sc_law_base : FnScope ["_law_purse_here", "_law_prime", "_law_size", "_law_rows_here", "_law_again", "_law_one_here", "_law_other", "_law_by", "_law_row", "_law_more", "_law_less_here", "_law_number"] ["_law_purse_here", "_law_prime", "_law_size"] (defScope s_law_base) := ⟨rfl, rfl, rfl, by decide +kernel, rfl, by decide +kernel, by decide +kernel⟩
theorem der_law_base {P : Program} {w : World} {K : PySem.W.Frag} {mg : Str → Option Value} {base : Heap} {sp_law_part : Sp} {sp_Table_init : Sp} {f : Addr} {cdv : Value} {A : Around} {outer : List Env} {s : Shared} {H : Hp} {E : XK}
    (T : Txt K mg) (G_law_part : Cal P w K mg base 1 "_law_part" ["_law_purse_here", "_law_many"] sp_law_part) (G_Table_init : Mak P w K mg base 5 "Table" ["self", "prime", "wide", "rows"] (ad K "Table") sp_Table_init)
    (hr : Room 6 (A.deeper (envOfC "_law_base" (defScope s_law_base) s.heap.objs.size f cdv))) :
    PSs (cxOf CX0 P w K mg base ["_law_purse_here", "_law_prime", "_law_size", "_law_rows_here", "_law_again", "_law_one_here", "_law_other", "_law_by", "_law_row", "_law_more", "_law_less_here", "_law_number"] "_law_base" (defScope s_law_base) f cdv A outer s H E).nox (defBody s_law_base) (t_law_base K sp_law_part sp_Table_init) :=
  (pss_cons (ps_setLc (i := 3) (own := [("_law_one_here", 5)]) (by rfl) sc_law_base.nd rfl rfl (sw_true rfl rfl rfl (by kernel_rfl)) (pi_range1 (by rfl) T.b_range (pa_cons (pv 2) pa_nil)) (blkOk_by (by kernel_rfl)) (fun _ _ _ _ _ => (pg_name (i := 5) sc_law_base.nd rfl (.inr rfl))) (fun _ _ _ _ _ => pts_nil) (fun _ _ _ _ _ => (pe_lc (own := [("_law_other", 6)]) (by rfl) sc_law_base.nd (pi_range1 (by rfl) T.b_range (pa_cons (pv 2) pa_nil)) (blkOk_by (by kernel_rfl)) (fun _ _ _ _ _ => (pg_name (i := 6) sc_law_base.nd rfl (.inl rfl))) (fun _ _ _ _ _ => pts_nil) (fun _ _ _ _ _ => (pe_callTy call_int1 (by rfl) T.b_int (by decide +kernel) (pa_cons (pe_cmpR op_eq (pv 5) (pv 6) (nomark _)) pa_nil))))))
    (pss_cons (ps_for PassesOwn.never (by rfl) (pi_range1 (by rfl) T.b_range (pa_cons (pe_op op_mul (pe_op op_mul pe_int (pv 2)) (pe_callTy call_int1 (by rfl) T.b_int (by decide +kernel) (pa_cons (pe_cmpR op_gt (pv 2) pe_int (nomark _)) pa_nil))) pa_nil)) (pg_name (i := 4) sc_law_base.nd rfl (.inl rfl)) (pss_cons (ps_set (i := 5) sc_law_base.nd rfl (.inl rfl) (pe_cal G_law_part hr (pa_cons (pv 0) (pa_cons (pv 2) pa_nil))))
    (pss_cons (ps_set (i := 6) sc_law_base.nd rfl (.inl rfl) (pe_op op_mod (pe_callTy call_int1 (by rfl) T.b_int (by decide +kernel) (pa_cons (pe_op op_add (pe_op op_add (pv 5) pe_int) (pe_cal G_law_part hr (pa_cons (pv 0) (pa_cons (pe_op op_sub (pv 2) pe_int) pa_nil)))) pa_nil)) (pv 2)))
    (pss_cons (ps_set (i := 7) sc_law_base.nd rfl (.inr rfl) (pe_cal G_law_part hr (pa_cons (pv 0) (pa_cons (pv 1) pa_nil))))
    (pss_one (ps_asg (pe_lc (own := [("_law_more", 9), ("_law_less_here", 10)]) (by rfl) sc_law_base.nd (RZ.pi_zipA (by rfl) T.b_zip (pa_cons (pe_ix ix_list (pv 3) (pv 5) (fun _ _ => rfl)) (pa_cons (pe_ix ix_list (pv 3) (pv 6) (fun _ _ => rfl)) pa_nil))) (blkOk_by (by kernel_rfl)) (fun _ _ _ _ _ => (pg_tup rfl (pgs_cons (pg_name (i := 9) sc_law_base.nd rfl (.inl rfl)) (pgs_cons (pg_name (i := 10) sc_law_base.nd rfl (.inl rfl)) pgs_nil)))) (fun _ _ _ _ _ => pts_nil) (fun _ _ _ _ _ => (pe_op op_mod (pe_callTy call_int1 (by rfl) T.b_int (by decide +kernel) (pa_cons (pe_op op_add (pv 9) (pe_op op_mul (pv 7) (pv 10))) pa_nil)) (pv 1)))) (pg_sub (pv 3) (pv 5) set_list)))))))
    (pss_cons (ps_set (i := 7) sc_law_base.nd rfl (.inr rfl) (pe_lc (own := [("_law_row", 8)]) (by rfl) sc_law_base.nd (pi_list (pv 3)) (blkOk_by (by kernel_rfl)) (fun _ _ _ _ _ => (pg_name (i := 8) sc_law_base.nd rfl (.inl rfl))) (fun _ _ _ _ _ => pts_nil) (fun _ _ _ _ _ => (pe_op op_add pe_int (pe_cal G_law_part hr (pa_cons (pv 0) (pa_cons (pe_op op_sub (pv 1) pe_int) pa_nil)))))))
    (pss_cons (ps_setLc (i := 3) (own := [("_law_more", 9), ("_law_row", 8)]) (by rfl) sc_law_base.nd rfl rfl (sw_true rfl rfl rfl (by kernel_rfl)) (RZ.pi_zipA (by rfl) T.b_zip (pa_cons (pv 7) (pa_cons (pv 3) pa_nil))) (blkOk_by (by kernel_rfl)) (fun _ _ _ _ _ => (pg_tup rfl (pgs_cons (pg_name (i := 9) sc_law_base.nd rfl (.inr rfl)) (pgs_cons (pg_name (i := 8) sc_law_base.nd rfl (.inl rfl)) pgs_nil)))) (fun _ _ _ _ _ => pts_nil) (fun _ _ _ _ _ => (pe_lc (own := [("_law_number", 11)]) (by rfl) sc_law_base.nd (pi_list (pv 8)) (blkOk_by (by kernel_rfl)) (fun _ _ _ _ _ => (pg_name (i := 11) sc_law_base.nd rfl (.inl rfl))) (fun _ _ _ _ _ => pts_nil) (fun _ _ _ _ _ => (pe_op op_mod (pe_callTy call_int1 (by rfl) T.b_int (by decide +kernel) (pa_cons (pe_op op_mul (pv 9) (pv 11)) pa_nil)) (pv 1))))))
    (pss_one (ps_ret (pe_mak G_Table_init hr (pa_cons (pv 1) (pa_cons (pv 2) (pa_cons (pe_callTy call_tuple_of (by rfl) T.b_tuple (by decide +kernel) (pa_cons (pe_lc (own := [("_law_row", 8)]) (by rfl) sc_law_base.nd (pi_list (pv 3)) (blkOk_by (by kernel_rfl)) (fun _ _ _ _ _ => (pg_name (i := 8) sc_law_base.nd rfl (.inl rfl))) (fun _ _ _ _ _ => pts_nil) (fun _ _ _ _ _ => (pe_callTy call_tuple_of (by rfl) T.b_tuple (by decide +kernel) (pa_cons (pv 8) pa_nil)))) pa_nil)) pa_nil))))))))))
/-! is_fit_table (level 1) -/
theorem sc_is_fit_table : FnScope ["prime", "high", "wide", "thing"] ["prime", "high", "wide", "thing"] (defScope s_is_fit_table) := ⟨rfl, rfl, rfl, by decide +kernel, rfl, by decide +kernel, by decide +kernel⟩
theorem der_is_fit_table {P : Program} {w : World} {K : PySem.W.Frag} {mg : Str → Option Value} {base : Heap} {f : Addr} {cdv : Value} {A : Around} {outer : List Env} {s : Shared} {H : Hp} {E : XK}
    (T : Txt K mg)
    (hr : Room 0 (A.deeper (envOfC "is_fit_table" (defScope s_is_fit_table) s.heap.objs.size f cdv))) :
    PSs (cxOf CX0 P w K mg base ["prime", "high", "wide", "thing"] "is_fit_table" (defScope s_is_fit_table) f cdv A outer s H E).nox (defBody s_is_fit_table) (t_is_fit_table K) :=
  (pss_one (ps_ret (pe_and (pe_callB call_isi (by rfl) T.b_isinstance (by decide +kernel) (pa_cons (pv 3) (pa_cons (pe_ga T.g_Table) pa_nil))) (pe_one (pe_cmpR (op_eqD hr.units) (pe_tup (pa_cons (pe_fld (pv 3) rfl) (pa_cons (pe_fld (pv 3) rfl) (pa_cons (pe_fld (pv 3) rfl) pa_nil)))) (pe_tup (pa_cons (pv 0) (pa_cons (pv 1) (pa_cons (pv 2) pa_nil)))) (nomark _))))))
/-! inverse_of (level 1) -/
theorem sc_inverse_of : FnScope ["prime", "worth", "found", "turn"] ["prime", "worth"] (defScope s_inverse_of) := ⟨rfl, rfl, rfl, by decide +kernel, rfl, by decide +kernel, by decide +kernel⟩
theorem der_inverse_of {P : Program} {w : World} {K : PySem.W.Frag} {mg : Str → Option Value} {base : Heap} {f : Addr} {cdv : Value} {A : Around} {outer : List Env} {s : Shared} {H : Hp} {E : XK}
    (T : Txt K mg)
    (hr : Room 0 (A.deeper (envOfC "inverse_of" (defScope s_inverse_of) s.heap.objs.size f cdv))) :
    PSs (cxOf CX0 P w K mg base ["prime", "worth", "found", "turn"] "inverse_of" (defScope s_inverse_of) f cdv A outer s H E).nox (defBody s_inverse_of) (t_inverse_of K) :=
  (pss_cons (ps_set (i := 2) sc_inverse_of.nd rfl (.inl rfl) pe_int)
    (pss_cons (ps_for PassesOwn.never (by rfl) (pi_range1 (by rfl) T.b_range (pa_cons (pe_op op_sub (pv 0) pe_int) pa_nil)) (pg_name (i := 3) sc_inverse_of.nd rfl (.inl rfl)) (pss_one (ps_set (i := 2) sc_inverse_of.nd rfl (.inl rfl) (pe_op op_mod (pe_op op_mul (pv 2) (pv 1)) (pv 0)))))
    (pss_one (ps_ret (pv 2)))))
/-! less (level 1) -/
theorem sc_less : FnScope ["prime", "row", "by", "other", "one", "two"] ["prime", "row", "by", "other"] (defScope s_less) := ⟨rfl, rfl, rfl, by decide +kernel, rfl, by decide +kernel, by decide +kernel⟩
theorem der_less {P : Program} {w : World} {K : PySem.W.Frag} {mg : Str → Option Value} {base : Heap} {f : Addr} {cdv : Value} {A : Around} {outer : List Env} {s : Shared} {H : Hp} {E : XK}
    (T : Txt K mg)
    (hr : Room 0 (A.deeper (envOfC "less" (defScope s_less) s.heap.objs.size f cdv))) :
    PSs (cxOf CX0 P w K mg base ["prime", "row", "by", "other", "one", "two"] "less" (defScope s_less) f cdv A outer s H E).nox (defBody s_less) (t_less K) :=
  (pss_one (ps_ret (pe_callTy call_tuple_of (by rfl) T.b_tuple (by decide +kernel) (pa_cons (pe_lc (own := [("one", 4), ("two", 5)]) (by rfl) sc_less.nd (RZ.pi_zipA (by rfl) T.b_zip (pa_cons (pv 1) (pa_cons (pv 3) pa_nil))) (blkOk_by (by kernel_rfl)) (fun _ _ _ _ _ => (pg_tup rfl (pgs_cons (pg_name (i := 4) sc_less.nd rfl (.inl rfl)) (pgs_cons (pg_name (i := 5) sc_less.nd rfl (.inl rfl)) pgs_nil)))) (fun _ _ _ _ _ => pts_nil) (fun _ _ _ _ _ => (pe_op op_mod (pe_op op_sub (pv 4) (pe_op op_mul (pv 2) (pv 5))) (pv 0)))) pa_nil))))
/-! cleared (level 2) -/
theorem sc_cleared : FnScope ["prime", "rows", "place", "row", "other"] ["prime", "rows", "place", "row"] (defScope s_cleared) := ⟨rfl, rfl, rfl, by decide +kernel, rfl, by decide +kernel, by decide +kernel⟩
theorem der_cleared {P : Program} {w : World} {K : PySem.W.Frag} {mg : Str → Option Value} {base : Heap} {sp_less : Sp} {f : Addr} {cdv : Value} {A : Around} {outer : List Env} {s : Shared} {H : Hp} {E : XK}
    (T : Txt K mg) (G_less : Cal P w K mg base 1 "less" ["prime", "row", "by", "other"] sp_less)
    (hr : Room 1 (A.deeper (envOfC "cleared" (defScope s_cleared) s.heap.objs.size f cdv))) :
    PSs (cxOf CX0 P w K mg base ["prime", "rows", "place", "row", "other"] "cleared" (defScope s_cleared) f cdv A outer s H E).nox (defBody s_cleared) (t_cleared K sp_less) :=
  (pss_one (ps_ret (pe_lc (own := [("other", 4)]) (by rfl) sc_cleared.nd (pi_list (pv 1)) (blkOk_by (by kernel_rfl)) (fun _ _ _ _ _ => (pg_name (i := 4) sc_cleared.nd rfl (.inl rfl))) (fun _ _ _ _ _ => pts_nil) (fun _ _ _ _ _ => (pe_ifExp (pt_cmpR op_ne (pe_ix ix_tup (pv 4) (pv 2) (fun _ _ => rfl)) pe_int (nomark _)) (pe_cal G_less hr (pa_cons (pv 0) (pa_cons (pv 4) (pa_cons (pe_ix ix_tup (pv 4) (pv 2) (fun _ _ => rfl)) (pa_cons (pv 3) pa_nil))))) (pv 4))))))
/-! reduced_rows (level 3) -/
theorem sc_reduced_rows : FnScope ["prime", "wide", "rows", "left", "found", "places", "place", "some", "row", "at", "worth"] ["prime", "wide", "rows"] (defScope s_reduced_rows) := ⟨rfl, rfl, rfl, by decide +kernel, rfl, by decide +kernel, by decide +kernel⟩
theorem der_reduced_rows {P : Program} {w : World} {K : PySem.W.Frag} {mg : Str → Option Value} {base : Heap} {sp_inverse_of : Sp} {sp_cleared : Sp} {f : Addr} {cdv : Value} {A : Around} {outer : List Env} {s : Shared} {H : Hp} {E : XK}
    (T : Txt K mg) (G_inverse_of : Cal P w K mg base 1 "inverse_of" ["prime", "worth"] sp_inverse_of) (G_cleared : Cal P w K mg base 2 "cleared" ["prime", "rows", "place", "row"] sp_cleared)
    (hr : Room 2 (A.deeper (envOfC "reduced_rows" (defScope s_reduced_rows) s.heap.objs.size f cdv))) :
    PSs (cxOf CX0 P w K mg base ["prime", "wide", "rows", "left", "found", "places", "place", "some", "row", "at", "worth"] "reduced_rows" (defScope s_reduced_rows) f cdv A outer s H E).nox (defBody s_reduced_rows) (t_reduced_rows K sp_inverse_of sp_cleared) :=
  (pss_cons (ps_set (i := 3) sc_reduced_rows.nd rfl (.inr rfl) (pe_lc (own := [("row", 8)]) (by rfl) sc_reduced_rows.nd (pi_seq (pv 2)) (blkOk_by (by kernel_rfl)) (fun _ _ _ _ _ => (pg_name (i := 8) sc_reduced_rows.nd rfl (.inl rfl))) (fun _ _ _ _ _ => pts_nil) (fun _ _ _ _ _ => (pe_callTy call_tuple_of (by rfl) T.b_tuple (by decide +kernel) (pa_cons (pv 8) pa_nil)))))
    (pss_cons (ps_par (i := 4) (j := 5) (by rfl) sc_reduced_rows.nd rfl rfl (by decide) rfl rfl (pa_cons (pe_lst pa_nil) (pa_cons (pe_lst pa_nil) pa_nil)) (by rfl))
    (pss_cons (ps_for PassesOwn.never (by rfl) (pi_range1 (by rfl) T.b_range (pa_cons (pv 1) pa_nil)) (pg_name (i := 6) sc_reduced_rows.nd rfl (.inr rfl)) (pss_cons (ps_setLc (i := 7) (own := [("at", 9)]) (by rfl) sc_reduced_rows.nd rfl rfl (sw_true rfl rfl rfl (by kernel_rfl)) (pi_range1 (by rfl) T.b_range (pa_cons (pe_callB call_len_seq (by rfl) T.b_len (by decide +kernel) (pa_cons (pv 3) pa_nil)) pa_nil)) (blkOk_by (by kernel_rfl)) (fun _ _ _ _ _ => (pg_name (i := 9) sc_reduced_rows.nd rfl (.inl rfl))) (fun _ _ _ _ _ => (pts_one (pt_cmpR op_ne (pe_ix ix_tup (pe_ix ix_list (pv 3) (pv 9) (fun _ _ => rfl)) (pv 6) (fun _ _ => rfl)) pe_int (nomark _)))) (fun _ _ _ _ _ => (pv 9)))
    (pss_one (ps_if (pt_cmpR op_gt (pe_callB call_len_seq (by rfl) T.b_len (by decide +kernel) (pa_cons (pv 7) pa_nil)) pe_int (nomark _)) (pss_cons (ps_set (i := 8) sc_reduced_rows.nd rfl (.inr rfl) (pe_bm PySem.F.plainAttrs_list PySem.F.slot_list_pop PySem.F.type_list_pop mt_popAt (pv 3) (pa_cons (pe_ix ix_list (pv 7) pe_int (fun _ _ => rfl)) pa_nil)))
    (pss_cons (ps_set (i := 8) sc_reduced_rows.nd rfl (.inr rfl) (pe_callTy call_tuple_of (by rfl) T.b_tuple (by decide +kernel) (pa_cons (pe_lc (own := [("worth", 10)]) (by rfl) sc_reduced_rows.nd (pi_tup (pv 8)) (blkOk_by (by kernel_rfl)) (fun _ _ _ _ _ => (pg_name (i := 10) sc_reduced_rows.nd rfl (.inl rfl))) (fun _ _ _ _ _ => pts_nil) (fun _ _ _ _ _ => (pe_op op_mod (pe_op op_mul (pv 10) (pe_cal G_inverse_of hr (pa_cons (pv 0) (pa_cons (pe_ix ix_tup (pv 8) (pv 6) (fun _ _ => rfl)) pa_nil)))) (pv 0)))) pa_nil)))
    (pss_cons (ps_set (i := 3) sc_reduced_rows.nd rfl (.inr rfl) (pe_cal G_cleared hr (pa_cons (pv 0) (pa_cons (pv 3) (pa_cons (pv 6) (pa_cons (pv 8) pa_nil))))))
    (pss_cons (ps_set (i := 4) sc_reduced_rows.nd rfl (.inl rfl) (pe_op op_cat (pe_cal G_cleared hr (pa_cons (pv 0) (pa_cons (pv 4) (pa_cons (pv 6) (pa_cons (pv 8) pa_nil))))) (pe_lst (pa_cons (pv 8) pa_nil))))
    (pss_one (ps_expr (pe_bm PySem.F.plainAttrs_list PySem.F.slot_list_append PySem.F.type_list_append mt_append (pv 5) (pa_cons (pv 6) pa_nil)))))))) pss_nil))))
    (pss_one (ps_ret (pe_tup (pa_cons (pe_callTy call_tuple_of (by rfl) T.b_tuple (by decide +kernel) (pa_cons (pv 4) pa_nil)) (pa_cons (pe_callTy call_tuple_of (by rfl) T.b_tuple (by decide +kernel) (pa_cons (pv 5) pa_nil)) pa_nil))))))))
/-! undone (level 5) -/
theorem sc_undone : FnScope ["table", "size", "rows", "found", "places", "row", "unit"] ["table"] (defScope s_undone) := ⟨rfl, rfl, rfl, by decide +kernel, rfl, by decide +kernel, by decide +kernel⟩
theorem der_undone {P : Program} {w : World} {K : PySem.W.Frag} {mg : Str → Option Value} {base : Heap} {sp_raw_plain : Sp} {sp_reduced_rows : Sp} {sp_RawTable_init : Sp} {f : Addr} {cdv : Value} {A : Around} {outer : List Env} {s : Shared} {H : Hp} {E : XK}
    (T : Txt K mg) (G_raw_plain : Cal P w K mg base 4 "raw_plain" ["prime", "size"] sp_raw_plain) (G_reduced_rows : Cal P w K mg base 3 "reduced_rows" ["prime", "wide", "rows"] sp_reduced_rows) (G_RawTable_init : Mak P w K mg base 2 "RawTable" ["self", "prime", "wide", "rows"] (ad K "RawTable") sp_RawTable_init)
    (hr : Room 4 (A.deeper (envOfC "undone" (defScope s_undone) s.heap.objs.size f cdv))) :
    PSs (cxOf CX0 P w K mg base ["table", "size", "rows", "found", "places", "row", "unit"] "undone" (defScope s_undone) f cdv A outer s H E).nox (defBody s_undone) (t_undone K sp_raw_plain sp_reduced_rows sp_RawTable_init) :=
  (pss_cons (ps_set (i := 1) sc_undone.nd rfl (.inr rfl) (pe_fld (pv 0) rfl))
    (pss_cons (ps_if (pt_cmpR op_ne (pe_fld (pv 0) rfl) (pv 1) (nomark _)) (pss_one (ps_ret pe_non)) pss_nil)
    (pss_cons (ps_setLc (i := 2) (own := [("row", 5), ("unit", 6)]) (by rfl) sc_undone.nd rfl rfl (sw_true rfl rfl rfl (by kernel_rfl)) (RZ.pi_zipA (by rfl) T.b_zip (pa_cons (pe_fld (pv 0) rfl) (pa_cons (pe_fld (pe_cal G_raw_plain hr (pa_cons (pe_fld (pv 0) rfl) (pa_cons (pv 1) pa_nil))) rfl) pa_nil))) (blkOk_by (by kernel_rfl)) (fun _ _ _ _ _ => (pg_tup rfl (pgs_cons (pg_name (i := 5) sc_undone.nd rfl (.inl rfl)) (pgs_cons (pg_name (i := 6) sc_undone.nd rfl (.inl rfl)) pgs_nil)))) (fun _ _ _ _ _ => pts_nil) (fun _ _ _ _ _ => (pe_op op_catA (pv 5) (pv 6))))
    (pss_cons (ps_asg (pe_cal G_reduced_rows hr (pa_cons (pe_fld (pv 0) rfl) (pa_cons (pe_op op_mul pe_int (pv 1)) (pa_cons (pv 2) pa_nil)))) (pg_tup rfl (pgs_cons (pg_name (i := 3) sc_undone.nd rfl (.inl rfl)) (pgs_cons (pg_name (i := 4) sc_undone.nd rfl (.inl rfl)) pgs_nil))))
    (pss_cons (ps_if (pt_cmpR (op_neD hr.units) (pv 4) (pe_tupRg (by rfl) (by rfl) T.b_tuple (prg_1 (by rfl) T.b_range (pv 1))) (nomark _)) (pss_one (ps_ret pe_non)) pss_nil)
    (pss_one (ps_ret (pe_mak G_RawTable_init hr (pa_cons (pe_fld (pv 0) rfl) (pa_cons (pv 1) (pa_cons (pe_callTy call_tuple_of (by rfl) T.b_tuple (by decide +kernel) (pa_cons (pe_lc (own := [("row", 5)]) (by rfl) sc_undone.nd (pi_tup (pv 3)) (blkOk_by (by kernel_rfl)) (fun _ _ _ _ _ => (pg_name (i := 5) sc_undone.nd rfl (.inl rfl))) (fun _ _ _ _ _ => pts_nil) (fun _ _ _ _ _ => (pe_slice sl_tupA (pv 5) (po_some (pv 1)) po_none))) pa_nil)) pa_nil)))))))))))
/-! columns_of (level 1) -/
theorem sc_columns_of : FnScope ["table", "at", "row"] ["table"] (defScope s_columns_of) := ⟨rfl, rfl, rfl, by decide +kernel, rfl, by decide +kernel, by decide +kernel⟩
theorem der_columns_of {P : Program} {w : World} {K : PySem.W.Frag} {mg : Str → Option Value} {base : Heap} {f : Addr} {cdv : Value} {A : Around} {outer : List Env} {s : Shared} {H : Hp} {E : XK}
    (T : Txt K mg)
    (hr : Room 0 (A.deeper (envOfC "columns_of" (defScope s_columns_of) s.heap.objs.size f cdv))) :
    PSs (cxOf CX0 P w K mg base ["table", "at", "row"] "columns_of" (defScope s_columns_of) f cdv A outer s H E).nox (defBody s_columns_of) (t_columns_of K) :=
  (pss_one (ps_ret (pe_callTy call_tuple_of (by rfl) T.b_tuple (by decide +kernel) (pa_cons (pe_lc (own := [("at", 1)]) (by rfl) sc_columns_of.nd (pi_range1 (by rfl) T.b_range (pa_cons (pe_fld (pv 0) rfl) pa_nil)) (blkOk_by (by kernel_rfl)) (fun _ _ _ _ _ => (pg_name (i := 1) sc_columns_of.nd rfl (.inr rfl))) (fun _ _ _ _ _ => pts_nil) (fun _ _ _ _ _ => (pe_callTy call_tuple_of (by rfl) T.b_tuple (by decide +kernel) (pa_cons (pe_lc (own := [("row", 2)]) (by rfl) sc_columns_of.nd (pi_tup (pe_fld (pv 0) rfl)) (blkOk_by (by kernel_rfl)) (fun _ _ _ _ _ => (pg_name (i := 2) sc_columns_of.nd rfl (.inl rfl))) (fun _ _ _ _ _ => pts_nil) (fun _ _ _ _ _ => (pe_ix ix_tup (pv 2) (pv 1) (fun _ _ => rfl)))) pa_nil)))) pa_nil))))
/-! led_on (level 1) -/
theorem sc_led_on : FnScope ["table", "column", "row", "one", "two"] ["table", "column"] (defScope s_led_on) := ⟨rfl, rfl, rfl, by decide +kernel, rfl, by decide +kernel, by decide +kernel⟩
theorem der_led_on {P : Program} {w : World} {K : PySem.W.Frag} {mg : Str → Option Value} {base : Heap} {f : Addr} {cdv : Value} {A : Around} {outer : List Env} {s : Shared} {H : Hp} {E : XK}
    (T : Txt K mg)
    (hr : Room 0 (A.deeper (envOfC "led_on" (defScope s_led_on) s.heap.objs.size f cdv))) :
    PSs (cxOf CX0 P w K mg base ["table", "column", "row", "one", "two"] "led_on" (defScope s_led_on) f cdv A outer s H E).nox (defBody s_led_on) (t_led_on K) :=
  (pss_one (ps_ret (pe_callTy call_tuple_of (by rfl) T.b_tuple (by decide +kernel) (pa_cons (pe_lc (own := [("row", 2)]) (by rfl) sc_led_on.nd (pi_tup (pe_fld (pv 0) rfl)) (blkOk_by (by kernel_rfl)) (fun _ _ _ _ _ => (pg_name (i := 2) sc_led_on.nd rfl (.inl rfl))) (fun _ _ _ _ _ => pts_nil) (fun _ _ _ _ _ => (pe_op op_mod (pe_callB (cr_sum rfl) (by rfl) T.b_sum (by decide +kernel) (pa_cons (pe_lc (own := [("one", 3), ("two", 4)]) (by rfl) sc_led_on.nd (RZ.pi_zipA (by rfl) T.b_zip (pa_cons (pv 2) (pa_cons (pv 1) pa_nil))) (blkOk_by (by kernel_rfl)) (fun _ _ _ _ _ => (pg_tup rfl (pgs_cons (pg_name (i := 3) sc_led_on.nd rfl (.inl rfl)) (pgs_cons (pg_name (i := 4) sc_led_on.nd rfl (.inl rfl)) pgs_nil)))) (fun _ _ _ _ _ => pts_nil) (fun _ _ _ _ _ => (pe_op op_mul (pv 3) (pv 4)))) pa_nil)) (pe_fld (pv 0) rfl)))) pa_nil))))
/-! columns_table (level 4) -/
theorem sc_columns_table : FnScope ["prime", "high", "columns", "rows", "at", "column"] ["prime", "high", "columns"] (defScope s_columns_table) := ⟨rfl, rfl, rfl, by decide +kernel, rfl, by decide +kernel, by decide +kernel⟩
theorem der_columns_table {P : Program} {w : World} {K : PySem.W.Frag} {mg : Str → Option Value} {base : Heap} {sp_RawTable_init : Sp} {f : Addr} {cdv : Value} {A : Around} {outer : List Env} {s : Shared} {H : Hp} {E : XK}
    (T : Txt K mg) (G_RawTable_init : Mak P w K mg base 2 "RawTable" ["self", "prime", "wide", "rows"] (ad K "RawTable") sp_RawTable_init)
    (hr : Room 3 (A.deeper (envOfC "columns_table" (defScope s_columns_table) s.heap.objs.size f cdv))) :
    PSs (cxOf CX0 P w K mg base ["prime", "high", "columns", "rows", "at", "column"] "columns_table" (defScope s_columns_table) f cdv A outer s H E).nox (defBody s_columns_table) (t_columns_table K sp_RawTable_init) :=
  (pss_cons (ps_setLc (i := 3) (own := [("at", 4)]) (by rfl) sc_columns_table.nd rfl rfl (sw_true rfl rfl rfl (by kernel_rfl)) (pi_range1 (by rfl) T.b_range (pa_cons (pv 1) pa_nil)) (blkOk_by (by kernel_rfl)) (fun _ _ _ _ _ => (pg_name (i := 4) sc_columns_table.nd rfl (.inr rfl))) (fun _ _ _ _ _ => pts_nil) (fun _ _ _ _ _ => (pe_callTy call_tuple_of (by rfl) T.b_tuple (by decide +kernel) (pa_cons (pe_lc (own := [("column", 5)]) (by rfl) sc_columns_table.nd (pi_list (pv 2)) (blkOk_by (by kernel_rfl)) (fun _ _ _ _ _ => (pg_name (i := 5) sc_columns_table.nd rfl (.inl rfl))) (fun _ _ _ _ _ => pts_nil) (fun _ _ _ _ _ => (pe_ix ix_tup (pv 5) (pv 4) (fun _ _ => rfl)))) pa_nil))))
    (pss_one (ps_ret (pe_mak G_RawTable_init hr (pa_cons (pv 0) (pa_cons (pe_callB call_len_seq (by rfl) T.b_len (by decide +kernel) (pa_cons (pv 2) pa_nil)) (pa_cons (pe_callTy call_tuple_of (by rfl) T.b_tuple (by decide +kernel) (pa_cons (pv 3) pa_nil)) pa_nil)))))))
/-! raw_times (level 5) -/
theorem sc_raw_times : FnScope ["one", "other", "column"] ["one", "other"] (defScope s_raw_times) := ⟨rfl, rfl, rfl, by decide +kernel, rfl, by decide +kernel, by decide +kernel⟩
theorem der_raw_times {P : Program} {w : World} {K : PySem.W.Frag} {mg : Str → Option Value} {base : Heap} {sp_columns_of : Sp} {sp_led_on : Sp} {sp_columns_table : Sp} {f : Addr} {cdv : Value} {A : Around} {outer : List Env} {s : Shared} {H : Hp} {E : XK}
    (T : Txt K mg) (G_columns_of : Cal P w K mg base 1 "columns_of" ["table"] sp_columns_of) (G_led_on : Cal P w K mg base 1 "led_on" ["table", "column"] sp_led_on) (G_columns_table : Cal P w K mg base 4 "columns_table" ["prime", "high", "columns"] sp_columns_table)
    (hr : Room 4 (A.deeper (envOfC "raw_times" (defScope s_raw_times) s.heap.objs.size f cdv))) :
    PSs (cxOf CX0 P w K mg base ["one", "other", "column"] "raw_times" (defScope s_raw_times) f cdv A outer s H E).nox (defBody s_raw_times) (t_raw_times K sp_columns_of sp_led_on sp_columns_table) :=
  (pss_one (ps_ret (pe_cal G_columns_table hr (pa_cons (pe_fld (pv 0) rfl) (pa_cons (pe_fld (pv 0) rfl) (pa_cons (pe_lc (own := [("column", 2)]) (by rfl) sc_raw_times.nd (pi_tup (pe_cal G_columns_of hr (pa_cons (pv 1) pa_nil))) (blkOk_by (by kernel_rfl)) (fun _ _ _ _ _ => (pg_name (i := 2) sc_raw_times.nd rfl (.inl rfl))) (fun _ _ _ _ _ => pts_nil) (fun _ _ _ _ _ => (pe_cal G_led_on hr (pa_cons (pv 0) (pa_cons (pv 2) pa_nil))))) pa_nil))))))
/-! raw_based (level 6) -/
theorem sc_raw_based : FnScope ["picture", "tables", "found", "begin", "end", "table"] ["picture", "tables"] (defScope s_raw_based) := ⟨rfl, rfl, rfl, by decide +kernel, rfl, by decide +kernel, by decide +kernel⟩
theorem der_raw_based {P : Program} {w : World} {K : PySem.W.Frag} {mg : Str → Option Value} {base : Heap} {sp_undone : Sp} {sp_raw_times : Sp} {sp_RawPicture_init : Sp} {f : Addr} {cdv : Value} {A : Around} {outer : List Env} {s : Shared} {H : Hp} {E : XK}
    (T : Txt K mg) (G_undone : Cal P w K mg base 5 "undone" ["table"] sp_undone) (G_raw_times : Cal P w K mg base 5 "raw_times" ["one", "other"] sp_raw_times) (G_RawPicture_init : Mak P w K mg base 2 "RawPicture" ["self", "web", "prime", "sizes", "tables"] (ad K "RawPicture") sp_RawPicture_init)
    (hr : Room 5 (A.deeper (envOfC "raw_based" (defScope s_raw_based) s.heap.objs.size f cdv))) :
    PSs (cxOf CX0 P w K mg base ["picture", "tables", "found", "begin", "end", "table"] "raw_based" (defScope s_raw_based) f cdv A outer s H E).nox (defBody s_raw_based) (t_raw_based K sp_undone sp_raw_times sp_RawPicture_init) :=
  (pss_cons (ps_set (i := 2) sc_raw_based.nd rfl (.inl rfl) (pe_lst pa_nil))
    (pss_cons (ps_for PassesOwn.never (by rfl) (RZ.pi_zipA (by rfl) T.b_zip (pa_cons (pe_fld (pe_fld (pv 0) rfl) rfl) (pa_cons (pe_fld (pv 0) rfl) pa_nil))) (pg_tup rfl (pgs_cons (pg_tup rfl (pgs_cons (pg_name (i := 3) sc_raw_based.nd rfl (.inl rfl)) (pgs_cons (pg_name (i := 4) sc_raw_based.nd rfl (.inl rfl)) pgs_nil))) (pgs_cons (pg_name (i := 5) sc_raw_based.nd rfl (.inl rfl)) pgs_nil))) (pss_one (ps_expr (pe_bm PySem.F.plainAttrs_list PySem.F.slot_list_append PySem.F.type_list_append mt_append (pv 2) (pa_cons (pe_cal G_raw_times hr (pa_cons (pe_ix ix_tup (pv 1) (pv 4) (fun _ _ => rfl)) (pa_cons (pe_cal G_raw_times hr (pa_cons (pv 5) (pa_cons (pe_cal G_undone hr (pa_cons (pe_ix ix_tup (pv 1) (pv 3) (fun _ _ => rfl)) pa_nil)) pa_nil))) pa_nil))) pa_nil)))))
    (pss_one (ps_ret (pe_mak G_RawPicture_init hr (pa_cons (pe_fld (pv 0) rfl) (pa_cons (pe_fld (pv 0) rfl) (pa_cons (pe_fld (pv 0) rfl) (pa_cons (pe_callTy call_tuple_of (by rfl) T.b_tuple (by decide +kernel) (pa_cons (pv 2) pa_nil)) pa_nil)))))))))
/-! based (level 7) -/
theorem sc_based : FnScope ["picture", "tables", "size", "table"] ["picture", "tables"] (defScope s_based) := ⟨rfl, rfl, rfl, by decide +kernel, rfl, by decide +kernel, by decide +kernel⟩
theorem der_based {P : Program} {w : World} {K : PySem.W.Frag} {mg : Str → Option Value} {base : Heap} {sp_is_fit_table : Sp} {sp_undone : Sp} {sp_raw_based : Sp} {f : Addr} {cdv : Value} {A : Around} {outer : List Env} {s : Shared} {H : Hp} {E : XK}
    (T : Txt K mg) (G_is_fit_table : Cal P w K mg base 1 "is_fit_table" ["prime", "high", "wide", "thing"] sp_is_fit_table) (G_undone : Cal P w K mg base 5 "undone" ["table"] sp_undone) (G_raw_based : Cal P w K mg base 6 "raw_based" ["picture", "tables"] sp_raw_based)
    (hr : Room 6 (A.deeper (envOfC "based" (defScope s_based) s.heap.objs.size f cdv))) :
    PSs (cxOf CX0 P w K mg base ["picture", "tables", "size", "table"] "based" (defScope s_based) f cdv A outer s H E).nox (defBody s_based) (t_based K sp_is_fit_table sp_undone sp_raw_based) :=
  (pss_cons (ps_if (PW.pt (pw_or (pt_not (pt_val (pe_callB call_isi (by rfl) T.b_isinstance (by decide +kernel) (pa_cons (pv 1) (pa_cons (pe_bltn (v := .ty "tuple") (by rfl) T.b_tuple (by decide +kernel) rfl) pa_nil))))) (pw_or1 (pt_cmpR op_ne (pe_callB call_len_seq (by rfl) T.b_len (by decide +kernel) (pa_cons (pv 1) pa_nil)) (pe_fld (pe_fld (pv 0) rfl) rfl) (nomark _))))) (pss_one ps_never) pss_nil)
    (pss_cons (ps_for PassesOwn.never (by rfl) (RZ.pi_zipA (by rfl) T.b_zip (pa_cons (pe_fld (pv 0) rfl) (pa_cons (pv 1) pa_nil))) (pg_tup rfl (pgs_cons (pg_name (i := 2) sc_based.nd rfl (.inl rfl)) (pgs_cons (pg_name (i := 3) sc_based.nd rfl (.inl rfl)) pgs_nil))) (pss_one (ps_if (PW.pt (pw_or (pt_not (pt_val (pe_cal G_is_fit_table hr (pa_cons (pe_fld (pv 0) rfl) (pa_cons (pv 2) (pa_cons (pv 2) (pa_cons (pv 3) pa_nil))))))) (pw_or1 (pt_cmpR op_isN (pe_cal G_undone hr (pa_cons (pv 3) pa_nil)) pe_non (nomark _))))) (pss_one ps_never) pss_nil)))
    (pss_one (ps_ret (pe_cal G_raw_based hr (pa_cons (pv 0) (pa_cons (pv 1) pa_nil)))))))
/-! _law_rebased (level 8) -/
theorem sc_law_rebased : FnScope ["_law_purse_here", "_law_picture_here", "_law_size"] ["_law_purse_here", "_law_picture_here"] (defScope s_law_rebased) := ⟨rfl, rfl, rfl, by decide +kernel, rfl, by decide +kernel, by decide +kernel⟩
theorem der_law_rebased {P : Program} {w : World} {K : PySem.W.Frag} {mg : Str → Option Value} {base : Heap} {sp_law_base : Sp} {sp_based : Sp} {f : Addr} {cdv : Value} {A : Around} {outer : List Env} {s : Shared} {H : Hp} {E : XK}
    (T : Txt K mg) (G_law_base : Cal P w K mg base 7 "_law_base" ["_law_purse_here", "_law_prime", "_law_size"] sp_law_base) (G_based : Cal P w K mg base 7 "based" ["picture", "tables"] sp_based)
    (hr : Room 7 (A.deeper (envOfC "_law_rebased" (defScope s_law_rebased) s.heap.objs.size f cdv))) :
    PSs (cxOf CX0 P w K mg base ["_law_purse_here", "_law_picture_here", "_law_size"] "_law_rebased" (defScope s_law_rebased) f cdv A outer s H E).nox (defBody s_law_rebased) (t_law_rebased K sp_law_base sp_based) :=
  (pss_one (ps_ret (pe_cal G_based hr (pa_cons (pv 1) (pa_cons (pe_callTy call_tuple_of (by rfl) T.b_tuple (by decide +kernel) (pa_cons (pe_lc (own := [("_law_size", 2)]) (by rfl) sc_law_rebased.nd (pi_tup (pe_fld (pv 1) rfl)) (blkOk_by (by kernel_rfl)) (fun _ _ _ _ _ => (pg_name (i := 2) sc_law_rebased.nd rfl (.inl rfl))) (fun _ _ _ _ _ => pts_nil) (fun _ _ _ _ _ => (pe_cal G_law_base hr (pa_cons (pv 0) (pa_cons (pe_fld (pv 1) rfl) (pa_cons (pv 2) pa_nil)))))) pa_nil)) pa_nil)))))
/-! check_line (level 2) -/
theorem sc_check_line : FnScope ["picture"] ["picture"] (defScope s_check_line) := ⟨rfl, rfl, rfl, by decide +kernel, rfl, by decide +kernel, by decide +kernel⟩
theorem der_check_line {P : Program} {w : World} {K : PySem.W.Frag} {mg : Str → Option Value} {base : Heap} {sp_is_line : Sp} {f : Addr} {cdv : Value} {A : Around} {outer : List Env} {s : Shared} {H : Hp} {E : XK}
    (T : Txt K mg) (G_is_line : Cal P w K mg base 1 "is_line" ["web"] sp_is_line)
    (hr : Room 1 (A.deeper (envOfC "check_line" (defScope s_check_line) s.heap.objs.size f cdv))) :
    PSs (cxOf CX0 P w K mg base ["picture"] "check_line" (defScope s_check_line) f cdv A outer s H E).nox (defBody s_check_line) (t_check_line K sp_is_line) :=
  (pss_one (ps_if (pt_not (pt_val (pe_cal G_is_line hr (pa_cons (pe_fld (pv 0) rfl) pa_nil)))) (pss_one ps_never) pss_nil))
/-! stretches (level 1) -/
theorem sc_stretches : FnScope ["many", "found", "begin", "end"] ["many"] (defScope s_stretches) := ⟨rfl, rfl, rfl, by decide +kernel, rfl, by decide +kernel, by decide +kernel⟩
theorem der_stretches {P : Program} {w : World} {K : PySem.W.Frag} {mg : Str → Option Value} {base : Heap} {f : Addr} {cdv : Value} {A : Around} {outer : List Env} {s : Shared} {H : Hp} {E : XK}
    (T : Txt K mg)
    (hr : Room 0 (A.deeper (envOfC "stretches" (defScope s_stretches) s.heap.objs.size f cdv))) :
    PSs (cxOf CX0 P w K mg base ["many", "found", "begin", "end"] "stretches" (defScope s_stretches) f cdv A outer s H E).nox (defBody s_stretches) (t_stretches K) :=
  (pss_cons (ps_set (i := 1) sc_stretches.nd rfl (.inl rfl) (pe_lst pa_nil))
    (pss_cons (ps_for PassesOwn.never (by rfl) (pi_range1 (by rfl) T.b_range (pa_cons (pv 0) pa_nil)) (pg_name (i := 2) sc_stretches.nd rfl (.inr rfl)) (pss_one (ps_expr (pe_bm PySem.F.plainAttrs_list PySem.F.slot_list_extend PySem.F.type_list_extend mt_extend (pv 1) (pa_cons (pe_lc (own := [("end", 3)]) (by rfl) sc_stretches.nd (pi_range2 (by rfl) T.b_range (pa_cons (pv 2) (pa_cons (pv 0) pa_nil))) (blkOk_by (by kernel_rfl)) (fun _ _ _ _ _ => (pg_name (i := 3) sc_stretches.nd rfl (.inl rfl))) (fun _ _ _ _ _ => pts_nil) (fun _ _ _ _ _ => (pe_tup (pa_cons (pv 2) (pa_cons (pv 3) pa_nil))))) pa_nil)))))
    (pss_one (ps_ret (pv 1)))))
/-! starts_on (level 1) -/
theorem sc_starts_on : FnScope ["picture", "begin", "end", "found", "many", "place"] ["picture", "begin", "end"] (defScope s_starts_on) := ⟨rfl, rfl, rfl, by decide +kernel, rfl, by decide +kernel, by decide +kernel⟩
theorem der_starts_on {P : Program} {w : World} {K : PySem.W.Frag} {mg : Str → Option Value} {base : Heap} {f : Addr} {cdv : Value} {A : Around} {outer : List Env} {s : Shared} {H : Hp} {E : XK}
    (T : Txt K mg)
    (hr : Room 0 (A.deeper (envOfC "starts_on" (defScope s_starts_on) s.heap.objs.size f cdv))) :
    PSs (cxOf CX0 P w K mg base ["picture", "begin", "end", "found", "many", "place"] "starts_on" (defScope s_starts_on) f cdv A outer s H E).nox (defBody s_starts_on) (t_starts_on K) :=
  (pss_cons (ps_par (i := 3) (j := 4) (by rfl) sc_starts_on.nd rfl rfl (by decide) rfl rfl (pa_cons pe_dnewK (pa_cons pe_int pa_nil)) (by rfl))
    (pss_cons (ps_for PassesOwn.never (by rfl) (pi_range2 (by rfl) T.b_range (pa_cons (pv 1) (pa_cons (pe_op op_add (pv 2) pe_int) pa_nil))) (pg_name (i := 5) sc_starts_on.nd rfl (.inl rfl)) (pss_cons (ps_dput (hu_of hr) (pv 3) (pv 5) (pv 4) rfl)
    (pss_one (ps_aug (i := 4) sc_starts_on.nd rfl (.inl rfl) (pe_ix ix_tup (pe_fld (pv 0) rfl) (pv 5) (fun _ _ => rfl)) ip_add))))
    (pss_one (ps_ret (pe_tup (pa_cons (pv 3) (pa_cons (pv 4) pa_nil)))))))
/-! unit_led (level 2) -/
theorem sc_unit_led : FnScope ["picture", "arrow", "at", "size", "other"] ["picture", "arrow", "at"] (defScope s_unit_led) := ⟨rfl, rfl, rfl, by decide +kernel, rfl, by decide +kernel, by decide +kernel⟩
theorem der_unit_led {P : Program} {w : World} {K : PySem.W.Frag} {mg : Str → Option Value} {base : Heap} {sp_led_on : Sp} {f : Addr} {cdv : Value} {A : Around} {outer : List Env} {s : Shared} {H : Hp} {E : XK}
    (T : Txt K mg) (G_led_on : Cal P w K mg base 1 "led_on" ["table", "column"] sp_led_on)
    (hr : Room 1 (A.deeper (envOfC "unit_led" (defScope s_unit_led) s.heap.objs.size f cdv))) :
    PSs (cxOf CX0 P w K mg base ["picture", "arrow", "at", "size", "other"] "unit_led" (defScope s_unit_led) f cdv A outer s H E).nox (defBody s_unit_led) (t_unit_led K sp_led_on) :=
  (pss_cons (ps_set (i := 3) sc_unit_led.nd rfl (.inl rfl) (pe_ix ix_tup (pe_fld (pv 0) rfl) (pe_ix ix_tup (pe_ix ix_tup (pe_fld (pe_fld (pv 0) rfl) rfl) (pv 1) (fun _ _ => rfl)) pe_int (fun _ _ => rfl)) (fun _ _ => rfl)))
    (pss_one (ps_ret (pe_cal G_led_on hr (pa_cons (pe_ix ix_tup (pe_fld (pv 0) rfl) (pv 1) (fun _ _ => rfl)) (pa_cons (pe_callTy call_tuple_of (by rfl) T.b_tuple (by decide +kernel) (pa_cons (pe_lc (own := [("other", 4)]) (by rfl) sc_unit_led.nd (pi_range1 (by rfl) T.b_range (pa_cons (pv 3) pa_nil)) (blkOk_by (by kernel_rfl)) (fun _ _ _ _ _ => (pg_name (i := 4) sc_unit_led.nd rfl (.inl rfl))) (fun _ _ _ _ _ => pts_nil) (fun _ _ _ _ _ => (pe_callTy call_int1 (by rfl) T.b_int (by decide +kernel) (pa_cons (pe_cmpR op_eq (pv 4) (pv 2) (nomark _)) pa_nil)))) pa_nil)) pa_nil))))))
/-! lost_rows (level 3) -/
theorem sc_lost_rows : FnScope ["picture", "begin", "end", "starts", "many", "found", "arrow", "one", "other", "at", "row", "there", "worth"] ["picture", "begin", "end"] (defScope s_lost_rows) := ⟨rfl, rfl, rfl, by decide +kernel, rfl, by decide +kernel, by decide +kernel⟩
theorem der_lost_rows {P : Program} {w : World} {K : PySem.W.Frag} {mg : Str → Option Value} {base : Heap} {sp_starts_on : Sp} {sp_unit_led : Sp} {f : Addr} {cdv : Value} {A : Around} {outer : List Env} {s : Shared} {H : Hp} {E : XK}
    (T : Txt K mg) (G_starts_on : Cal P w K mg base 1 "starts_on" ["picture", "begin", "end"] sp_starts_on) (G_unit_led : Cal P w K mg base 2 "unit_led" ["picture", "arrow", "at"] sp_unit_led)
    (hr : Room 2 (A.deeper (envOfC "lost_rows" (defScope s_lost_rows) s.heap.objs.size f cdv))) :
    PSs (cxOf CX0 P w K mg base ["picture", "begin", "end", "starts", "many", "found", "arrow", "one", "other", "at", "row", "there", "worth"] "lost_rows" (defScope s_lost_rows) f cdv A outer s H E).nox (defBody s_lost_rows) (t_lost_rows K sp_starts_on sp_unit_led) :=
  (pss_cons (ps_asg (pe_cal G_starts_on hr (pa_cons (pv 0) (pa_cons (pv 1) (pa_cons (pv 2) pa_nil)))) (pg_tup rfl (pgs_cons (pg_name (i := 3) sc_lost_rows.nd rfl (.inl rfl)) (pgs_cons (pg_name (i := 4) sc_lost_rows.nd rfl (.inl rfl)) pgs_nil))))
    (pss_cons (ps_set (i := 5) sc_lost_rows.nd rfl (.inl rfl) (pe_lst pa_nil))
    (pss_cons (ps_for PassesOwn.never (by rfl) (pi_range2 (by rfl) T.b_range (pa_cons (pv 1) (pa_cons (pv 2) pa_nil))) (pg_name (i := 6) sc_lost_rows.nd rfl (.inl rfl)) (pss_cons (ps_asg (pe_ix ix_tup (pe_fld (pe_fld (pv 0) rfl) rfl) (pv 6) (fun _ _ => rfl)) (pg_tup rfl (pgs_cons (pg_name (i := 7) sc_lost_rows.nd rfl (.inl rfl)) (pgs_cons (pg_name (i := 8) sc_lost_rows.nd rfl (.inl rfl)) pgs_nil))))
    (pss_one (ps_for PassesOwn.never (by rfl) (pi_range1 (by rfl) T.b_range (pa_cons (pe_ix ix_tup (pe_fld (pv 0) rfl) (pv 7) (fun _ _ => rfl)) pa_nil)) (pg_name (i := 9) sc_lost_rows.nd rfl (.inl rfl)) (pss_cons (ps_set (i := 10) sc_lost_rows.nd rfl (.inl rfl) (pe_op op_rep (pe_lst (pa_cons pe_int pa_nil)) (pv 4)))
    (pss_cons (ps_asg pe_int (pg_sub (pv 10) (pe_op op_add (pe_dget (hu_of hr) (pv 3) (pv 7) (fun _ _ => rfl)) (pv 9)) set_list))
    (pss_cons (ps_for PassesOwn.never (by rfl) (pi_enumT (by rfl) T.b_enumerate (pa_cons (pe_cal G_unit_led hr (pa_cons (pv 0) (pa_cons (pv 6) (pa_cons (pv 9) pa_nil)))) pa_nil)) (pg_tup rfl (pgs_cons (pg_name (i := 11) sc_lost_rows.nd rfl (.inl rfl)) (pgs_cons (pg_name (i := 12) sc_lost_rows.nd rfl (.inl rfl)) pgs_nil))) (pss_one (ps_asg (pe_op op_mod (pe_un un_neg (pv 12)) (pe_fld (pv 0) rfl)) (pg_sub (pv 10) (pe_op op_add (pe_dget (hu_of hr) (pv 3) (pv 8) (fun _ _ => rfl)) (pv 11)) set_list))))
    (pss_one (ps_expr (pe_bm PySem.F.plainAttrs_list PySem.F.slot_list_append PySem.F.type_list_append mt_append (pv 5) (pa_cons (pe_callTy call_tuple_of (by rfl) T.b_tuple (by decide +kernel) (pa_cons (pv 10) pa_nil)) pa_nil)))))))))))
    (pss_one (ps_ret (pv 5))))))
/-! kernel (level 4) -/
theorem sc_kernel : FnScope ["table", "rows", "places", "found", "free", "column", "row", "place", "at"] ["table"] (defScope s_kernel) := ⟨rfl, rfl, rfl, by decide +kernel, rfl, by decide +kernel, by decide +kernel⟩
theorem der_kernel {P : Program} {w : World} {K : PySem.W.Frag} {mg : Str → Option Value} {base : Heap} {sp_reduced_rows : Sp} {f : Addr} {cdv : Value} {A : Around} {outer : List Env} {s : Shared} {H : Hp} {E : XK}
    (T : Txt K mg) (G_reduced_rows : Cal P w K mg base 3 "reduced_rows" ["prime", "wide", "rows"] sp_reduced_rows)
    (hr : Room 3 (A.deeper (envOfC "kernel" (defScope s_kernel) s.heap.objs.size f cdv))) :
    PSs (cxOf CX0 P w K mg base ["table", "rows", "places", "found", "free", "column", "row", "place", "at"] "kernel" (defScope s_kernel) f cdv A outer s H E).nox (defBody s_kernel) (t_kernel K sp_reduced_rows) :=
  (pss_cons (ps_asg (pe_cal G_reduced_rows hr (pa_cons (pe_fld (pv 0) rfl) (pa_cons (pe_fld (pv 0) rfl) (pa_cons (pe_fld (pv 0) rfl) pa_nil)))) (pg_tup rfl (pgs_cons (pg_name (i := 1) sc_kernel.nd rfl (.inl rfl)) (pgs_cons (pg_name (i := 2) sc_kernel.nd rfl (.inl rfl)) pgs_nil))))
    (pss_cons (ps_set (i := 3) sc_kernel.nd rfl (.inl rfl) (pe_lst pa_nil))
    (pss_cons (ps_for PassesOwn.never (by rfl) (pi_range1 (by rfl) T.b_range (pa_cons (pe_fld (pv 0) rfl) pa_nil)) (pg_name (i := 4) sc_kernel.nd rfl (.inr rfl)) (pss_one (ps_if (pt_cmpR op_notIn_seq (pv 4) (pv 2) (by with_unfolding_all rfl)) (pss_cons (ps_setLc (i := 5) (own := [("at", 8)]) (by rfl) sc_kernel.nd rfl rfl (sw_true rfl rfl rfl (by kernel_rfl)) (pi_range1 (by rfl) T.b_range (pa_cons (pe_fld (pv 0) rfl) pa_nil)) (blkOk_by (by kernel_rfl)) (fun _ _ _ _ _ => (pg_name (i := 8) sc_kernel.nd rfl (.inl rfl))) (fun _ _ _ _ _ => pts_nil) (fun _ _ _ _ _ => (pe_callTy call_int1 (by rfl) T.b_int (by decide +kernel) (pa_cons (pe_cmpR op_eq (pv 8) (pv 4) (nomark _)) pa_nil))))
    (pss_cons (ps_for PassesOwn.never (by rfl) (RZ.pi_zipA (by rfl) T.b_zip (pa_cons (pv 1) (pa_cons (pv 2) pa_nil))) (pg_tup rfl (pgs_cons (pg_name (i := 6) sc_kernel.nd rfl (.inl rfl)) (pgs_cons (pg_name (i := 7) sc_kernel.nd rfl (.inl rfl)) pgs_nil))) (pss_one (ps_asg (pe_op op_mod (pe_un un_neg (pe_ix ix_tup (pv 6) (pv 4) (fun _ _ => rfl))) (pe_fld (pv 0) rfl)) (pg_sub (pv 5) (pv 7) set_list))))
    (pss_one (ps_expr (pe_bm PySem.F.plainAttrs_list PySem.F.slot_list_append PySem.F.type_list_append mt_append (pv 3) (pa_cons (pe_callTy call_tuple_of (by rfl) T.b_tuple (by decide +kernel) (pa_cons (pv 5) pa_nil)) pa_nil)))))) pss_nil)))
    (pss_one (ps_ret (pe_ix ix_tup (pe_cal G_reduced_rows hr (pa_cons (pe_fld (pv 0) rfl) (pa_cons (pe_fld (pv 0) rfl) (pa_cons (pv 3) pa_nil)))) pe_int (fun _ _ => rfl)))))))
/-! meeting_rows (level 5) -/
theorem sc_meeting_rows : FnScope ["picture", "begin", "end", "starts", "many", "found", "arrow", "one", "other", "at", "row", "wanted"] ["picture", "begin", "end"] (defScope s_meeting_rows) := ⟨rfl, rfl, rfl, by decide +kernel, rfl, by decide +kernel, by decide +kernel⟩
theorem der_meeting_rows {P : Program} {w : World} {K : PySem.W.Frag} {mg : Str → Option Value} {base : Heap} {sp_starts_on : Sp} {sp_kernel : Sp} {sp_RawTable_init : Sp} {f : Addr} {cdv : Value} {A : Around} {outer : List Env} {s : Shared} {H : Hp} {E : XK}
    (T : Txt K mg) (G_starts_on : Cal P w K mg base 1 "starts_on" ["picture", "begin", "end"] sp_starts_on) (G_kernel : Cal P w K mg base 4 "kernel" ["table"] sp_kernel) (G_RawTable_init : Mak P w K mg base 2 "RawTable" ["self", "prime", "wide", "rows"] (ad K "RawTable") sp_RawTable_init)
    (hr : Room 4 (A.deeper (envOfC "meeting_rows" (defScope s_meeting_rows) s.heap.objs.size f cdv))) :
    PSs (cxOf CX0 P w K mg base ["picture", "begin", "end", "starts", "many", "found", "arrow", "one", "other", "at", "row", "wanted"] "meeting_rows" (defScope s_meeting_rows) f cdv A outer s H E).nox (defBody s_meeting_rows) (t_meeting_rows K sp_starts_on sp_kernel sp_RawTable_init) :=
  (pss_cons (ps_asg (pe_cal G_starts_on hr (pa_cons (pv 0) (pa_cons (pv 1) (pa_cons (pv 2) pa_nil)))) (pg_tup rfl (pgs_cons (pg_name (i := 3) sc_meeting_rows.nd rfl (.inl rfl)) (pgs_cons (pg_name (i := 4) sc_meeting_rows.nd rfl (.inl rfl)) pgs_nil))))
    (pss_cons (ps_set (i := 5) sc_meeting_rows.nd rfl (.inl rfl) (pe_lst pa_nil))
    (pss_cons (ps_for PassesOwn.never (by rfl) (pi_range2 (by rfl) T.b_range (pa_cons (pv 1) (pa_cons (pv 2) pa_nil))) (pg_name (i := 6) sc_meeting_rows.nd rfl (.inl rfl)) (pss_cons (ps_asg (pe_ix ix_tup (pe_fld (pe_fld (pv 0) rfl) rfl) (pv 6) (fun _ _ => rfl)) (pg_tup rfl (pgs_cons (pg_name (i := 7) sc_meeting_rows.nd rfl (.inl rfl)) (pgs_cons (pg_name (i := 8) sc_meeting_rows.nd rfl (.inl rfl)) pgs_nil))))
    (pss_one (ps_for PassesOwn.never (by rfl) (pi_enumT (by rfl) T.b_enumerate (pa_cons (pe_fld (pe_ix ix_tup (pe_fld (pv 0) rfl) (pv 6) (fun _ _ => rfl)) rfl) pa_nil)) (pg_tup rfl (pgs_cons (pg_name (i := 9) sc_meeting_rows.nd rfl (.inl rfl)) (pgs_cons (pg_name (i := 10) sc_meeting_rows.nd rfl (.inl rfl)) pgs_nil))) (pss_cons (ps_set (i := 11) sc_meeting_rows.nd rfl (.inl rfl) (pe_op op_rep (pe_lst (pa_cons pe_int pa_nil)) (pv 4)))
    (pss_cons (ps_slc (pe_callTy call_list_of (by rfl) T.b_list (by decide +kernel) (pa_cons (pv 10) pa_nil)) (pv 11) (pe_dget (hu_of hr) (pv 3) (pv 7) (fun _ _ => rfl)) (pe_op op_add (pe_dget (hu_of hr) (pv 3) (pv 7) (fun _ _ => rfl)) (pe_callB call_len_seq (by rfl) T.b_len (by decide +kernel) (pa_cons (pv 10) pa_nil))))
    (pss_cons (ps_asg (pe_op op_sub (pe_fld (pv 0) rfl) pe_int) (pg_sub (pv 11) (pe_op op_add (pe_dget (hu_of hr) (pv 3) (pv 8) (fun _ _ => rfl)) (pv 9)) set_list))
    (pss_one (ps_expr (pe_bm PySem.F.plainAttrs_list PySem.F.slot_list_append PySem.F.type_list_append mt_append (pv 5) (pa_cons (pe_callTy call_tuple_of (by rfl) T.b_tuple (by decide +kernel) (pa_cons (pv 11) pa_nil)) pa_nil)))))))))))
    (pss_one (ps_ret (pe_cal G_kernel hr (pa_cons (pe_mak G_RawTable_init hr (pa_cons (pe_fld (pv 0) rfl) (pa_cons (pv 4) (pa_cons (pe_callTy call_tuple_of (by rfl) T.b_tuple (by decide +kernel) (pa_cons (pv 5) pa_nil)) pa_nil)))) pa_nil)))))))
/-! raw_reach (level 6) -/
theorem sc_raw_reach : FnScope ["picture", "begin", "end", "many", "size", "gone", "kept", "both", "row"] ["picture", "begin", "end"] (defScope s_raw_reach) := ⟨rfl, rfl, rfl, by decide +kernel, rfl, by decide +kernel, by decide +kernel⟩
theorem der_raw_reach {P : Program} {w : World} {K : PySem.W.Frag} {mg : Str → Option Value} {base : Heap} {sp_starts_on : Sp} {sp_lost_rows : Sp} {sp_meeting_rows : Sp} {sp_reduced_rows : Sp} {f : Addr} {cdv : Value} {A : Around} {outer : List Env} {s : Shared} {H : Hp} {E : XK}
    (T : Txt K mg) (G_starts_on : Cal P w K mg base 1 "starts_on" ["picture", "begin", "end"] sp_starts_on) (G_lost_rows : Cal P w K mg base 3 "lost_rows" ["picture", "begin", "end"] sp_lost_rows) (G_meeting_rows : Cal P w K mg base 5 "meeting_rows" ["picture", "begin", "end"] sp_meeting_rows) (G_reduced_rows : Cal P w K mg base 3 "reduced_rows" ["prime", "wide", "rows"] sp_reduced_rows)
    (hr : Room 5 (A.deeper (envOfC "raw_reach" (defScope s_raw_reach) s.heap.objs.size f cdv))) :
    PSs (cxOf CX0 P w K mg base ["picture", "begin", "end", "many", "size", "gone", "kept", "both", "row"] "raw_reach" (defScope s_raw_reach) f cdv A outer s H E).nox (defBody s_raw_reach) (t_raw_reach K sp_starts_on sp_lost_rows sp_meeting_rows sp_reduced_rows) :=
  (pss_cons (ps_set (i := 3) sc_raw_reach.nd rfl (.inr rfl) (pe_ix ix_tup (pe_cal G_starts_on hr (pa_cons (pv 0) (pa_cons (pv 1) (pa_cons (pv 2) pa_nil)))) pe_int (fun _ _ => rfl)))
    (pss_cons (ps_set (i := 4) sc_raw_reach.nd rfl (.inr rfl) (pe_ix ix_tup (pe_fld (pv 0) rfl) (pv 1) (fun _ _ => rfl)))
    (pss_cons (ps_set (i := 5) sc_raw_reach.nd rfl (.inl rfl) (pe_cal G_lost_rows hr (pa_cons (pv 0) (pa_cons (pv 1) (pa_cons (pv 2) pa_nil)))))
    (pss_cons (ps_setLc (i := 6) (own := [("row", 8)]) (by rfl) sc_raw_reach.nd rfl rfl (sw_true rfl rfl rfl (by kernel_rfl)) (pi_tup (pe_cal G_meeting_rows hr (pa_cons (pv 0) (pa_cons (pv 1) (pa_cons (pv 2) pa_nil))))) (blkOk_by (by kernel_rfl)) (fun _ _ _ _ _ => (pg_name (i := 8) sc_raw_reach.nd rfl (.inl rfl))) (fun _ _ _ _ _ => pts_nil) (fun _ _ _ _ _ => (pe_op op_catA (pe_slice sl_tupA (pv 8) po_none (po_some (pv 4))) (pe_op op_repA (pe_tup (pa_cons pe_int pa_nil)) (pe_op op_sub (pv 3) (pv 4))))))
    (pss_cons (ps_set (i := 7) sc_raw_reach.nd rfl (.inl rfl) (pe_ix ix_tup (pe_cal G_reduced_rows hr (pa_cons (pe_fld (pv 0) rfl) (pa_cons (pv 3) (pa_cons (pe_callTy call_tuple_of (by rfl) T.b_tuple (by decide +kernel) (pa_cons (pe_op op_cat (pv 5) (pv 6)) pa_nil)) pa_nil)))) pe_int (fun _ _ => rfl)))
    (pss_one (ps_ret (pe_op op_sub (pe_callB call_len_seq (by rfl) T.b_len (by decide +kernel) (pa_cons (pv 7) pa_nil)) (pe_callB call_len_seq (by rfl) T.b_len (by decide +kernel) (pa_cons (pe_ix ix_tup (pe_cal G_reduced_rows hr (pa_cons (pe_fld (pv 0) rfl) (pa_cons (pv 3) (pa_cons (pe_callTy call_tuple_of (by rfl) T.b_tuple (by decide +kernel) (pa_cons (pv 5) pa_nil)) pa_nil)))) pe_int (fun _ _ => rfl)) pa_nil))))))))))
/-! count_of (level 1) -/
theorem sc_count_of : FnScope ["told", "begin", "end", "found"] ["told", "begin", "end"] (defScope s_count_of) := ⟨rfl, rfl, rfl, by decide +kernel, rfl, by decide +kernel, by decide +kernel⟩
theorem der_count_of {P : Program} {w : World} {K : PySem.W.Frag} {mg : Str → Option Value} {base : Heap} {f : Addr} {cdv : Value} {A : Around} {outer : List Env} {s : Shared} {H : Hp} {E : XK}
    (T : Txt K mg)
    (hr : Room 0 (A.deeper (envOfC "count_of" (defScope s_count_of) s.heap.objs.size f cdv))) :
    PSs (cxOf CX0 P w K mg base ["told", "begin", "end", "found"] "count_of" (defScope s_count_of) f cdv A outer s H E).nox (defBody s_count_of) (t_count_of K) :=
  (pss_cons (ps_set (i := 3) sc_count_of.nd rfl (.inl rfl) (pe_op op_sub (pe_op op_sub (pe_dget (hu_of hr) (pv 0) (pe_tup (pa_cons (pv 1) (pa_cons (pv 2) pa_nil))) (fun _ _ => rfl)) (pe_dget2 (hu_of hr) (pv 0) (pe_tup (pa_cons (pe_op op_sub (pv 1) pe_int) (pa_cons (pv 2) pa_nil))) pe_int ⟨rfl, rfl, rfl, rfl⟩)) (pe_dget2 (hu_of hr) (pv 0) (pe_tup (pa_cons (pv 1) (pa_cons (pe_op op_add (pv 2) pe_int) pa_nil))) pe_int ⟨rfl, rfl, rfl, rfl⟩)))
    (pss_one (ps_ret (pe_op op_add (pv 3) (pe_dget2 (hu_of hr) (pv 0) (pe_tup (pa_cons (pe_op op_sub (pv 1) pe_int) (pa_cons (pe_op op_add (pv 2) pe_int) pa_nil))) pe_int ⟨rfl, rfl, rfl, rfl⟩)))))
/-! raw_bars (level 2) -/
theorem sc_raw_bars : FnScope ["many", "told", "found", "begin", "end", "triple"] ["many", "told"] (defScope s_raw_bars) := ⟨rfl, rfl, rfl, by decide +kernel, rfl, by decide +kernel, by decide +kernel⟩
theorem der_raw_bars {P : Program} {w : World} {K : PySem.W.Frag} {mg : Str → Option Value} {base : Heap} {sp_stretches : Sp} {sp_count_of : Sp} {f : Addr} {cdv : Value} {A : Around} {outer : List Env} {s : Shared} {H : Hp} {E : XK}
    (T : Txt K mg) (G_stretches : Cal P w K mg base 1 "stretches" ["many"] sp_stretches) (G_count_of : Cal P w K mg base 1 "count_of" ["told", "begin", "end"] sp_count_of)
    (hr : Room 1 (A.deeper (envOfC "raw_bars" (defScope s_raw_bars) s.heap.objs.size f cdv))) :
    PSs (cxOf CX0 P w K mg base ["many", "told", "found", "begin", "end", "triple"] "raw_bars" (defScope s_raw_bars) f cdv A outer s H E).nox (defBody s_raw_bars) (t_raw_bars K sp_stretches sp_count_of) :=
  (pss_cons (ps_setLc (i := 2) (own := [("begin", 3), ("end", 4)]) (by rfl) sc_raw_bars.nd rfl rfl (sw_true rfl rfl rfl (by kernel_rfl)) (pi_list (pe_cal G_stretches hr (pa_cons (pv 0) pa_nil))) (blkOk_by (by kernel_rfl)) (fun _ _ _ _ _ => (pg_tup rfl (pgs_cons (pg_name (i := 3) sc_raw_bars.nd rfl (.inl rfl)) (pgs_cons (pg_name (i := 4) sc_raw_bars.nd rfl (.inl rfl)) pgs_nil)))) (fun _ _ _ _ _ => pts_nil) (fun _ _ _ _ _ => (pe_tup (pa_cons (pv 3) (pa_cons (pv 4) (pa_cons (pe_cal G_count_of hr (pa_cons (pv 1) (pa_cons (pv 3) (pa_cons (pv 4) pa_nil)))) pa_nil))))))
    (pss_one (ps_ret (pe_callTy call_tuple_of (by rfl) T.b_tuple (by decide +kernel) (pa_cons (pe_lc (own := [("triple", 5)]) (by rfl) sc_raw_bars.nd (pi_list (pv 2)) (blkOk_by (by kernel_rfl)) (fun _ _ _ _ _ => (pg_name (i := 5) sc_raw_bars.nd rfl (.inl rfl))) (fun _ _ _ _ _ => (pts_one (pt_cmpR op_gt (pe_ix ix_tup (pv 5) pe_int (fun _ _ => rfl)) pe_int (nomark _)))) (fun _ _ _ _ _ => (pv 5))) pa_nil)))))
/-! bars (level 7) -/
theorem sc_bars : FnScope ["picture", "many", "begin", "end"] ["picture"] (defScope s_bars) := ⟨rfl, rfl, rfl, by decide +kernel, rfl, by decide +kernel, by decide +kernel⟩
theorem der_bars {P : Program} {w : World} {K : PySem.W.Frag} {mg : Str → Option Value} {base : Heap} {sp_check_line : Sp} {sp_stretches : Sp} {sp_raw_reach : Sp} {sp_raw_bars : Sp} {f : Addr} {cdv : Value} {A : Around} {outer : List Env} {s : Shared} {H : Hp} {E : XK}
    (T : Txt K mg) (G_check_line : Cal P w K mg base 2 "check_line" ["picture"] sp_check_line) (G_stretches : Cal P w K mg base 1 "stretches" ["many"] sp_stretches) (G_raw_reach : Cal P w K mg base 6 "raw_reach" ["picture", "begin", "end"] sp_raw_reach) (G_raw_bars : Cal P w K mg base 2 "raw_bars" ["many", "told"] sp_raw_bars)
    (hr : Room 6 (A.deeper (envOfC "bars" (defScope s_bars) s.heap.objs.size f cdv))) :
    PSs (cxOf CX0 P w K mg base ["picture", "many", "begin", "end"] "bars" (defScope s_bars) f cdv A outer s H E).nox (defBody s_bars) (t_bars K sp_check_line sp_stretches sp_raw_reach sp_raw_bars) :=
  (pss_cons (ps_expr (pe_cal G_check_line hr (pa_cons (pv 0) pa_nil)))
    (pss_cons (ps_set (i := 1) sc_bars.nd rfl (.inl rfl) (pe_fld (pe_fld (pv 0) rfl) rfl))
    (pss_one (ps_ret (pe_cal G_raw_bars hr (pa_cons (pv 1) (pa_cons (pe_dcT (owx := [("begin", 2), ("end", 3)]) (by rfl) (hu_of hr) sc_bars.nd (pi_list (pe_cal G_stretches hr (pa_cons (pv 1) pa_nil))) (blkOk_by (by kernel_rfl)) (fun _ _ _ _ _ => (pg_tup rfl (pgs_cons (pg_name (i := 2) sc_bars.nd rfl (.inl rfl)) (pgs_cons (pg_name (i := 3) sc_bars.nd rfl (.inl rfl)) pgs_nil)))) (fun _ _ _ _ _ => pts_nil) (fun _ _ _ _ _ => (pe_tup (pa_cons (pv 2) (pa_cons (pv 3) pa_nil)))) (fun _ _ _ _ _ => (pe_cal G_raw_reach hr (pa_cons (pv 0) (pa_cons (pv 2) (pa_cons (pv 3) pa_nil)))))) pa_nil)))))))
/-! _law_are_just (level 1) -/
theorem sc_law_are_just : FnScope ["_law_told", "_law_due", "_law_triple", "_law_part_here"] ["_law_told", "_law_due"] (defScope s_law_are_just) := ⟨rfl, rfl, rfl, by decide +kernel, rfl, by decide +kernel, by decide +kernel⟩
theorem der_law_are_just {P : Program} {w : World} {K : PySem.W.Frag} {mg : Str → Option Value} {base : Heap} {f : Addr} {cdv : Value} {A : Around} {outer : List Env} {s : Shared} {H : Hp} {E : XK}
    (T : Txt K mg)
    (hr : Room 0 (A.deeper (envOfC "_law_are_just" (defScope s_law_are_just) s.heap.objs.size f cdv))) :
    PSs (cxOf CX0 P w K mg base ["_law_told", "_law_due", "_law_triple", "_law_part_here"] "_law_are_just" (defScope s_law_are_just) f cdv A outer s H E).nox (defBody s_law_are_just) (t_law_are_just K) :=
  (pss_cons (ps_if (PW.pt (pw_or (pt_not (pt_val (pe_callB call_isi (by rfl) T.b_isinstance (by decide +kernel) (pa_cons (pv 0) (pa_cons (pe_bltn (v := .ty "tuple") (by rfl) T.b_tuple (by decide +kernel) rfl) pa_nil))))) (pw_or1 (pt_cmpR (op_neD hr.units) (pv 0) (pv 1) (nomark _))))) (pss_one (ps_ret pe_bl)) pss_nil)
    (pss_one (ps_ret (pe_not (pe_callB (cr_any rfl) (by rfl) T.b_any (by decide +kernel) (pa_cons (pe_lc (own := [("_law_triple", 2)]) (by rfl) sc_law_are_just.nd (pi_tup (pv 0)) (blkOk_by (by kernel_rfl)) (fun _ _ _ _ _ => (pg_name (i := 2) sc_law_are_just.nd rfl (.inl rfl))) (fun _ _ _ _ _ => pts_nil) (fun _ _ _ _ _ => (pe_callB (cr_any rfl) (by rfl) T.b_any (by decide +kernel) (pa_cons (pe_lc (own := [("_law_part_here", 3)]) (by rfl) sc_law_are_just.nd (pi_tup (pv 2)) (blkOk_by (by kernel_rfl)) (fun _ _ _ _ _ => (pg_name (i := 3) sc_law_are_just.nd rfl (.inl rfl))) (fun _ _ _ _ _ => pts_nil) (fun _ _ _ _ _ => (pe_callB call_isi (by rfl) T.b_isinstance (by decide +kernel) (pa_cons (pv 3) (pa_cons (pe_bltn (v := .ty "bool") (by rfl) T.b_bool (by decide +kernel) rfl) pa_nil))))) pa_nil)))) pa_nil))))))
/-! _law_rows (level 2) -/
theorem sc_law_rows : FnScope ["_law_purse_here", "_law_prime", "_law_high", "_law_wide", "_law_row", "_law_place"] ["_law_purse_here", "_law_prime", "_law_high", "_law_wide"] (defScope s_law_rows) := ⟨rfl, rfl, rfl, by decide +kernel, rfl, by decide +kernel, by decide +kernel⟩
theorem der_law_rows {P : Program} {w : World} {K : PySem.W.Frag} {mg : Str → Option Value} {base : Heap} {sp_law_part : Sp} {f : Addr} {cdv : Value} {A : Around} {outer : List Env} {s : Shared} {H : Hp} {E : XK}
    (T : Txt K mg) (G_law_part : Cal P w K mg base 1 "_law_part" ["_law_purse_here", "_law_many"] sp_law_part)
    (hr : Room 1 (A.deeper (envOfC "_law_rows" (defScope s_law_rows) s.heap.objs.size f cdv))) :
    PSs (cxOf CX0 P w K mg base ["_law_purse_here", "_law_prime", "_law_high", "_law_wide", "_law_row", "_law_place"] "_law_rows" (defScope s_law_rows) f cdv A outer s H E).nox (defBody s_law_rows) (t_law_rows K sp_law_part) :=
  (pss_cons (ps_if (pt_cmpR op_eq (pe_cal G_law_part hr (pa_cons (pv 0) (pa_cons pe_int pa_nil))) pe_int (nomark _)) (pss_one (ps_ret (pe_op op_repA (pe_tup (pa_cons (pe_op op_repA (pe_tup (pa_cons pe_int pa_nil)) (pv 3)) pa_nil)) (pv 2)))) pss_nil)
    (pss_one (ps_ret (pe_callTy call_tuple_of (by rfl) T.b_tuple (by decide +kernel) (pa_cons (pe_lc (own := [("_law_row", 4)]) (by rfl) sc_law_rows.nd (pi_range1 (by rfl) T.b_range (pa_cons (pv 2) pa_nil)) (blkOk_by (by kernel_rfl)) (fun _ _ _ _ _ => (pg_name (i := 4) sc_law_rows.nd rfl (.inl rfl))) (fun _ _ _ _ _ => pts_nil) (fun _ _ _ _ _ => (pe_callTy call_tuple_of (by rfl) T.b_tuple (by decide +kernel) (pa_cons (pe_lc (own := [("_law_place", 5)]) (by rfl) sc_law_rows.nd (pi_range1 (by rfl) T.b_range (pa_cons (pv 3) pa_nil)) (blkOk_by (by kernel_rfl)) (fun _ _ _ _ _ => (pg_name (i := 5) sc_law_rows.nd rfl (.inl rfl))) (fun _ _ _ _ _ => pts_nil) (fun _ _ _ _ _ => (pe_cal G_law_part hr (pa_cons (pv 0) (pa_cons (pv 1) pa_nil))))) pa_nil)))) pa_nil)))))
/-! are_sizes (level 4) -/
theorem sc_are_sizes : FnScope ["web", "thing", "size"] ["web", "thing"] (defScope s_are_sizes) := ⟨rfl, rfl, rfl, by decide +kernel, rfl, by decide +kernel, by decide +kernel⟩
theorem der_are_sizes {P : Program} {w : World} {K : PySem.W.Frag} {mg : Str → Option Value} {base : Heap} {sp_is_number : Sp} {f : Addr} {cdv : Value} {A : Around} {outer : List Env} {s : Shared} {H : Hp} {E : XK}
    (T : Txt K mg) (G_is_number : Cal P w K mg base 3 "is_number" ["thing", "most"] sp_is_number)
    (hr : Room 3 (A.deeper (envOfC "are_sizes" (defScope s_are_sizes) s.heap.objs.size f cdv))) :
    PSs (cxOf CX0 P w K mg base ["web", "thing", "size"] "are_sizes" (defScope s_are_sizes) f cdv A outer s H E).nox (defBody s_are_sizes) (t_are_sizes K sp_is_number) :=
  (pss_one (ps_ret (pe_and (pe_callB call_isi (by rfl) T.b_isinstance (by decide +kernel) (pa_cons (pv 1) (pa_cons (pe_bltn (v := .ty "tuple") (by rfl) T.b_tuple (by decide +kernel) rfl) pa_nil))) (pe_and (pe_cmpR op_eq (pe_callB call_len_seq (by rfl) T.b_len (by decide +kernel) (pa_cons (pv 1) pa_nil)) (pe_fld (pv 0) rfl) (nomark _)) (pe_one (pe_callB (cr_all rfl) (by rfl) T.b_all (by decide +kernel) (pa_cons (pe_lc (own := [("size", 2)]) (by rfl) sc_are_sizes.nd (pi_tup (pv 1)) (blkOk_by (by kernel_rfl)) (fun _ _ _ _ _ => (pg_name (i := 2) sc_are_sizes.nd rfl (.inl rfl))) (fun _ _ _ _ _ => pts_nil) (fun _ _ _ _ _ => (pe_cal G_is_number hr (pa_cons (pv 2) (pa_cons (pe_gi T.c_MOST_SIZE) pa_nil))))) pa_nil)))))))
/-! Picture.__init__ (level 5) -/
theorem sc_Picture_init : FnScope ["self", "web", "prime", "sizes", "tables", "index", "begin", "end"] ["self", "web", "prime", "sizes", "tables"] (defScope s_Picture_init) := ⟨rfl, rfl, rfl, by decide +kernel, rfl, by decide +kernel, by decide +kernel⟩
theorem der_Picture_init {P : Program} {w : World} {K : PySem.W.Frag} {mg : Str → Option Value} {base : Heap} {sp_is_prime : Sp} {sp_are_sizes : Sp} {sp_is_fit_table : Sp} {sp_Picture_keep : Sp} {f : Addr} {cdv : Value} {A : Around} {outer : List Env} {s : Shared} {H : Hp} {E : XK}
    (T : Txt K mg) (G_is_prime : Cal P w K mg base 2 "is_prime" ["thing"] sp_is_prime) (G_are_sizes : Cal P w K mg base 4 "are_sizes" ["web", "thing"] sp_are_sizes) (G_is_fit_table : Cal P w K mg base 1 "is_fit_table" ["prime", "high", "wide", "thing"] sp_is_fit_table) (G_Picture_keep : Met P w K mg base 1 (ad K "Picture") "keep" ["self", "web", "prime", "sizes", "tables"] sp_Picture_keep)
    (hr : Room 4 (A.deeper (envOfC "Picture.__init__" (defScope s_Picture_init) s.heap.objs.size f cdv))) :
    PSs (cxOf CX0 P w K mg base ["self", "web", "prime", "sizes", "tables", "index", "begin", "end"] "Picture.__init__" (defScope s_Picture_init) f cdv A outer s H E).nox (defBody s_Picture_init) (t_Picture_init K sp_is_prime sp_are_sizes sp_is_fit_table sp_Picture_keep) :=
  (pss_cons (ps_if (pt_not (pt_val (pe_callB call_isi (by rfl) T.b_isinstance (by decide +kernel) (pa_cons (pv 1) (pa_cons (pe_ga T.g_Web) pa_nil))))) (pss_one ps_never) pss_nil)
    (pss_cons (ps_if (pt_not (pt_val (pe_cal G_is_prime hr (pa_cons (pv 2) pa_nil)))) (pss_one ps_never) pss_nil)
    (pss_cons (ps_if (pt_not (pt_val (pe_cal G_are_sizes hr (pa_cons (pv 1) (pa_cons (pv 3) pa_nil))))) (pss_one ps_never) pss_nil)
    (pss_cons (ps_if (PW.pt (pw_or (pt_not (pt_val (pe_callB call_isi (by rfl) T.b_isinstance (by decide +kernel) (pa_cons (pv 4) (pa_cons (pe_bltn (v := .ty "tuple") (by rfl) T.b_tuple (by decide +kernel) rfl) pa_nil))))) (pw_or1 (pt_cmpR op_ne (pe_callB call_len_seq (by rfl) T.b_len (by decide +kernel) (pa_cons (pv 4) pa_nil)) (pe_callB call_len_seq (by rfl) T.b_len (by decide +kernel) (pa_cons (pe_fld (pv 1) rfl) pa_nil)) (nomark _))))) (pss_one ps_never) pss_nil)
    (pss_cons (ps_for PassesOwn.never (by rfl) (pi_enumT (by rfl) T.b_enumerate (pa_cons (pe_fld (pv 1) rfl) pa_nil)) (pg_tup rfl (pgs_cons (pg_name (i := 5) sc_Picture_init.nd rfl (.inl rfl)) (pgs_cons (pg_tup rfl (pgs_cons (pg_name (i := 6) sc_Picture_init.nd rfl (.inl rfl)) (pgs_cons (pg_name (i := 7) sc_Picture_init.nd rfl (.inl rfl)) pgs_nil))) pgs_nil))) (pss_one (ps_if (pt_not (pt_val (pe_cal G_is_fit_table hr (pa_cons (pv 2) (pa_cons (pe_ix ix_tup (pv 3) (pv 7) (fun _ _ => rfl)) (pa_cons (pe_ix ix_tup (pv 3) (pv 6) (fun _ _ => rfl)) (pa_cons (pe_ix ix_tup (pv 4) (pv 5) (fun _ _ => rfl)) pa_nil))))))) (pss_one ps_never) pss_nil)))
    (pss_one (ps_expr (pe_met G_Picture_keep hr (pv 0) (pa_cons (pv 1) (pa_cons (pv 2) (pa_cons (pv 3) (pa_cons (pv 4) pa_nil))))))))))))
/-! _law_picture (level 7) -/
theorem sc_law_picture : FnScope ["_law_purse_here", "_law_web", "_law_prime", "_law_sizes", "_law_tables", "_law_a", "_law_b"] ["_law_purse_here", "_law_web", "_law_prime", "_law_sizes"] (defScope s_law_picture) := ⟨rfl, rfl, rfl, by decide +kernel, rfl, by decide +kernel, by decide +kernel⟩
theorem der_law_picture {P : Program} {w : World} {K : PySem.W.Frag} {mg : Str → Option Value} {base : Heap} {sp_law_rows : Sp} {sp_Table_init : Sp} {sp_Picture_init : Sp} {f : Addr} {cdv : Value} {A : Around} {outer : List Env} {s : Shared} {H : Hp} {E : XK}
    (T : Txt K mg) (G_law_rows : Cal P w K mg base 2 "_law_rows" ["_law_purse_here", "_law_prime", "_law_high", "_law_wide"] sp_law_rows) (G_Table_init : Mak P w K mg base 5 "Table" ["self", "prime", "wide", "rows"] (ad K "Table") sp_Table_init) (G_Picture_init : Mak P w K mg base 5 "Picture" ["self", "web", "prime", "sizes", "tables"] (ad K "Picture") sp_Picture_init)
    (hr : Room 6 (A.deeper (envOfC "_law_picture" (defScope s_law_picture) s.heap.objs.size f cdv))) :
    PSs (cxOf CX0 P w K mg base ["_law_purse_here", "_law_web", "_law_prime", "_law_sizes", "_law_tables", "_law_a", "_law_b"] "_law_picture" (defScope s_law_picture) f cdv A outer s H E).nox (defBody s_law_picture) (t_law_picture K sp_law_rows sp_Table_init sp_Picture_init) :=
  (pss_cons (ps_setLc (i := 4) (own := [("_law_a", 5), ("_law_b", 6)]) (by rfl) sc_law_picture.nd rfl rfl (sw_true rfl rfl rfl (by kernel_rfl)) (pi_tup (pe_fld (pv 1) rfl)) (blkOk_by (by kernel_rfl)) (fun _ _ _ _ _ => (pg_tup rfl (pgs_cons (pg_name (i := 5) sc_law_picture.nd rfl (.inl rfl)) (pgs_cons (pg_name (i := 6) sc_law_picture.nd rfl (.inl rfl)) pgs_nil)))) (fun _ _ _ _ _ => pts_nil) (fun _ _ _ _ _ => (pe_mak G_Table_init hr (pa_cons (pv 2) (pa_cons (pe_ix ix_tup (pv 3) (pv 5) (fun _ _ => rfl)) (pa_cons (pe_cal G_law_rows hr (pa_cons (pv 0) (pa_cons (pv 2) (pa_cons (pe_ix ix_tup (pv 3) (pv 6) (fun _ _ => rfl)) (pa_cons (pe_ix ix_tup (pv 3) (pv 5) (fun _ _ => rfl)) pa_nil))))) pa_nil))))))
    (pss_one (ps_ret (pe_mak G_Picture_init hr (pa_cons (pv 1) (pa_cons (pv 2) (pa_cons (pv 3) (pa_cons (pe_callTy call_tuple_of (by rfl) T.b_tuple (by decide +kernel) (pa_cons (pv 4) pa_nil)) pa_nil))))))))
/-! _law_less (level 1) -/
theorem sc_law_less : FnScope ["_law_prime", "_law_row", "_law_number", "_law_lead", "_law_one_here", "_law_other"] ["_law_prime", "_law_row", "_law_number", "_law_lead"] (defScope s_law_less) := ⟨rfl, rfl, rfl, by decide +kernel, rfl, by decide +kernel, by decide +kernel⟩
theorem der_law_less {P : Program} {w : World} {K : PySem.W.Frag} {mg : Str → Option Value} {base : Heap} {f : Addr} {cdv : Value} {A : Around} {outer : List Env} {s : Shared} {H : Hp} {E : XK}
    (T : Txt K mg)
    (hr : Room 0 (A.deeper (envOfC "_law_less" (defScope s_law_less) s.heap.objs.size f cdv))) :
    PSs (cxOf CX0 P w K mg base ["_law_prime", "_law_row", "_law_number", "_law_lead", "_law_one_here", "_law_other"] "_law_less" (defScope s_law_less) f cdv A outer s H E).nox (defBody s_law_less) (t_law_less K) :=
  (pss_one (ps_ret (pe_lc (own := [("_law_one_here", 4), ("_law_other", 5)]) (by rfl) sc_law_less.nd (RZ.pi_zipA (by rfl) T.b_zip (pa_cons (pv 1) (pa_cons (pv 3) pa_nil))) (blkOk_by (by kernel_rfl)) (fun _ _ _ _ _ => (pg_tup rfl (pgs_cons (pg_name (i := 4) sc_law_less.nd rfl (.inl rfl)) (pgs_cons (pg_name (i := 5) sc_law_less.nd rfl (.inl rfl)) pgs_nil)))) (fun _ _ _ _ _ => pts_nil) (fun _ _ _ _ _ => (pe_op op_mod (pe_callTy call_int1 (by rfl) T.b_int (by decide +kernel) (pa_cons (pe_op op_sub (pv 4) (pe_op op_mul (pv 2) (pv 5))) pa_nil)) (pv 0))))))
/-! _law_spanned (level 2) -/
theorem sc_law_spanned : FnScope ["_law_prime", "_law_rows_here", "_law_found", "_law_left", "_law_place", "_law_some", "_law_lead", "_law_by", "_law_row", "_law_number"] ["_law_prime", "_law_rows_here"] (defScope s_law_spanned) := ⟨rfl, rfl, rfl, by decide +kernel, rfl, by decide +kernel, by decide +kernel⟩
theorem der_law_spanned {P : Program} {w : World} {K : PySem.W.Frag} {mg : Str → Option Value} {base : Heap} {sp_law_less : Sp} {f : Addr} {cdv : Value} {A : Around} {outer : List Env} {s : Shared} {H : Hp} {E : XK}
    (T : Txt K mg) (G_law_less : Cal P w K mg base 1 "_law_less" ["_law_prime", "_law_row", "_law_number", "_law_lead"] sp_law_less)
    (hr : Room 1 (A.deeper (envOfC "_law_spanned" (defScope s_law_spanned) s.heap.objs.size f cdv))) :
    PSs (cxOf CX0 P w K mg base ["_law_prime", "_law_rows_here", "_law_found", "_law_left", "_law_place", "_law_some", "_law_lead", "_law_by", "_law_row", "_law_number"] "_law_spanned" (defScope s_law_spanned) f cdv A outer s H E).nox (defBody s_law_spanned) (t_law_spanned K sp_law_less) :=
  (pss_cons (ps_par (i := 2) (j := 3) (by rfl) sc_law_spanned.nd rfl rfl (by decide) rfl rfl (pa_cons (pe_lst pa_nil) (pa_cons (pe_lc (own := [("_law_row", 8)]) (by rfl) sc_law_spanned.nd (pi_list (pv 1)) (blkOk_by (by kernel_rfl)) (fun _ _ _ _ _ => (pg_name (i := 8) sc_law_spanned.nd rfl (.inl rfl))) (fun _ _ _ _ _ => pts_nil) (fun _ _ _ _ _ => (pe_lc (own := [("_law_number", 9)]) (by rfl) sc_law_spanned.nd (pi_list (pv 8)) (blkOk_by (by kernel_rfl)) (fun _ _ _ _ _ => (pg_name (i := 9) sc_law_spanned.nd rfl (.inl rfl))) (fun _ _ _ _ _ => pts_nil) (fun _ _ _ _ _ => (pe_op op_mod (pe_callTy call_int1 (by rfl) T.b_int (by decide +kernel) (pa_cons (pv 9) pa_nil)) (pv 0)))))) pa_nil)) (by rfl))
    (pss_cons (ps_for PassesOwn.never (by rfl) (pi_range1 (by rfl) T.b_range (pa_cons (pe_ifExp (pt_cmpR op_gt (pe_callB call_len_seq (by rfl) T.b_len (by decide +kernel) (pa_cons (pv 3) pa_nil)) pe_int (nomark _)) (pe_callB call_len_seq (by rfl) T.b_len (by decide +kernel) (pa_cons (pe_ix ix_list (pv 3) pe_int (fun _ _ => rfl)) pa_nil)) pe_int) pa_nil)) (pg_name (i := 4) sc_law_spanned.nd rfl (.inr rfl)) (pss_cons (ps_setLc (i := 5) (own := [("_law_row", 8)]) (by rfl) sc_law_spanned.nd rfl rfl (sw_true rfl rfl rfl (by kernel_rfl)) (pi_list (pv 3)) (blkOk_by (by kernel_rfl)) (fun _ _ _ _ _ => (pg_name (i := 8) sc_law_spanned.nd rfl (.inl rfl))) (fun _ _ _ _ _ => (pts_one (pt_cmpR op_gt (pe_ix ix_list (pv 8) (pv 4) (fun _ _ => rfl)) pe_int (nomark _)))) (fun _ _ _ _ _ => (pv 8)))
    (pss_one (ps_if (pt_cmpR op_gt (pe_callB call_len_seq (by rfl) T.b_len (by decide +kernel) (pa_cons (pv 5) pa_nil)) pe_int (nomark _)) (pss_cons (ps_set (i := 6) sc_law_spanned.nd rfl (.inr rfl) (pe_ix ix_list (pv 5) pe_int (fun _ _ => rfl)))
    (pss_cons (ps_expr (pe_bm PySem.F.plainAttrs_list PySem.F.slot_list_remove PySem.F.type_list_remove (mt_removeD (un65 hr)) (pv 3) (pa_cons (pv 6) pa_nil)))
    (pss_cons (ps_set (i := 7) sc_law_spanned.nd rfl (.inr rfl) (pe_ix ix_list (pe_lc (own := [("_law_number", 9)]) (by rfl) sc_law_spanned.nd (pi_range1 (by rfl) T.b_range (pa_cons (pv 0) pa_nil)) (blkOk_by (by kernel_rfl)) (fun _ _ _ _ _ => (pg_name (i := 9) sc_law_spanned.nd rfl (.inl rfl))) (fun _ _ _ _ _ => (pts_one (pt_cmpR op_eq (pe_op op_mod (pe_callTy call_int1 (by rfl) T.b_int (by decide +kernel) (pa_cons (pe_op op_mul (pv 9) (pe_ix ix_list (pv 6) (pv 4) (fun _ _ => rfl))) pa_nil)) (pv 0)) pe_int (nomark _)))) (fun _ _ _ _ _ => (pv 9))) pe_int (fun _ _ => rfl)))
    (pss_cons (ps_set (i := 6) sc_law_spanned.nd rfl (.inr rfl) (pe_lc (own := [("_law_number", 9)]) (by rfl) sc_law_spanned.nd (pi_list (pv 6)) (blkOk_by (by kernel_rfl)) (fun _ _ _ _ _ => (pg_name (i := 9) sc_law_spanned.nd rfl (.inl rfl))) (fun _ _ _ _ _ => pts_nil) (fun _ _ _ _ _ => (pe_op op_mod (pe_callTy call_int1 (by rfl) T.b_int (by decide +kernel) (pa_cons (pe_op op_mul (pv 9) (pv 7)) pa_nil)) (pv 0)))))
    (pss_cons (ps_setLc (i := 3) (own := [("_law_row", 8)]) (by rfl) sc_law_spanned.nd rfl rfl (sw_true rfl rfl rfl (by kernel_rfl)) (pi_list (pv 3)) (blkOk_by (by kernel_rfl)) (fun _ _ _ _ _ => (pg_name (i := 8) sc_law_spanned.nd rfl (.inl rfl))) (fun _ _ _ _ _ => pts_nil) (fun _ _ _ _ _ => (pe_cal G_law_less hr (pa_cons (pv 0) (pa_cons (pv 8) (pa_cons (pe_ix ix_list (pv 8) (pv 4) (fun _ _ => rfl)) (pa_cons (pv 6) pa_nil)))))))
    (pss_one (ps_set (i := 2) sc_law_spanned.nd rfl (.inl rfl) (pe_op op_cat (pe_lc (own := [("_law_row", 8)]) (by rfl) sc_law_spanned.nd (pi_list (pv 2)) (blkOk_by (by kernel_rfl)) (fun _ _ _ _ _ => (pg_name (i := 8) sc_law_spanned.nd rfl (.inl rfl))) (fun _ _ _ _ _ => pts_nil) (fun _ _ _ _ _ => (pe_cal G_law_less hr (pa_cons (pv 0) (pa_cons (pv 8) (pa_cons (pe_ix ix_list (pv 8) (pv 4) (fun _ _ => rfl)) (pa_cons (pv 6) pa_nil))))))) (pe_lst (pa_cons (pv 6) pa_nil)))))))))) pss_nil))))
    (pss_one (ps_ret (pv 2)))))
/-! _law_lost_columns (level 3) -/
theorem sc_law_lost_columns : FnScope ["_law_prime", "_law_rows_here", "_law_wide", "_law_found", "_law_leads", "_law_some", "_law_place", "_law_column", "_law_lead", "_law_row", "_law_at"] ["_law_prime", "_law_rows_here", "_law_wide"] (defScope s_law_lost_columns) := ⟨rfl, rfl, rfl, by decide +kernel, rfl, by decide +kernel, by decide +kernel⟩
theorem der_law_lost_columns {P : Program} {w : World} {K : PySem.W.Frag} {mg : Str → Option Value} {base : Heap} {sp_law_spanned : Sp} {f : Addr} {cdv : Value} {A : Around} {outer : List Env} {s : Shared} {H : Hp} {E : XK}
    (T : Txt K mg) (G_law_spanned : Cal P w K mg base 2 "_law_spanned" ["_law_prime", "_law_rows_here"] sp_law_spanned)
    (hr : Room 2 (A.deeper (envOfC "_law_lost_columns" (defScope s_law_lost_columns) s.heap.objs.size f cdv))) :
    PSs (cxOf CX0 P w K mg base ["_law_prime", "_law_rows_here", "_law_wide", "_law_found", "_law_leads", "_law_some", "_law_place", "_law_column", "_law_lead", "_law_row", "_law_at"] "_law_lost_columns" (defScope s_law_lost_columns) f cdv A outer s H E).nox (defBody s_law_lost_columns) (t_law_lost_columns K sp_law_spanned) :=
  (pss_cons (ps_set (i := 3) sc_law_lost_columns.nd rfl (.inl rfl) (pe_cal G_law_spanned hr (pa_cons (pv 0) (pa_cons (pv 1) pa_nil))))
    (pss_cons (ps_setLc (i := 4) (own := [("_law_row", 9)]) (by rfl) sc_law_lost_columns.nd rfl rfl (sw_true rfl rfl rfl (by kernel_rfl)) (pi_list (pv 3)) (blkOk_by (by kernel_rfl)) (fun _ _ _ _ _ => (pg_name (i := 9) sc_law_lost_columns.nd rfl (.inr rfl))) (fun _ _ _ _ _ => pts_nil) (fun _ _ _ _ _ => (pe_ix ix_list (pe_lc (own := [("_law_place", 6)]) (by rfl) sc_law_lost_columns.nd (pi_range1 (by rfl) T.b_range (pa_cons (pv 2) pa_nil)) (blkOk_by (by kernel_rfl)) (fun _ _ _ _ _ => (pg_name (i := 6) sc_law_lost_columns.nd rfl (.inl rfl))) (fun _ _ _ _ _ => (pts_one (pt_cmpR op_gt (pe_ix ix_list (pv 9) (pv 6) (fun _ _ => rfl)) pe_int (nomark _)))) (fun _ _ _ _ _ => (pv 6))) pe_int (fun _ _ => rfl))))
    (pss_cons (ps_set (i := 5) sc_law_lost_columns.nd rfl (.inl rfl) (pe_lst pa_nil))
    (pss_cons (ps_for PassesOwn.never (by rfl) (pi_range1 (by rfl) T.b_range (pa_cons (pv 2) pa_nil)) (pg_name (i := 6) sc_law_lost_columns.nd rfl (.inr rfl)) (pss_one (ps_if (pt_cmpR op_notIn_seq (pv 6) (pv 4) (by with_unfolding_all rfl)) (pss_cons (ps_setLc (i := 7) (own := [("_law_at", 10)]) (by rfl) sc_law_lost_columns.nd rfl rfl (sw_true rfl rfl rfl (by kernel_rfl)) (pi_range1 (by rfl) T.b_range (pa_cons (pv 2) pa_nil)) (blkOk_by (by kernel_rfl)) (fun _ _ _ _ _ => (pg_name (i := 10) sc_law_lost_columns.nd rfl (.inl rfl))) (fun _ _ _ _ _ => pts_nil) (fun _ _ _ _ _ => (pe_callTy call_int1 (by rfl) T.b_int (by decide +kernel) (pa_cons (pe_cmpR op_eq (pv 10) (pv 6) (nomark _)) pa_nil))))
    (pss_cons (ps_for PassesOwn.never (by rfl) (RZ.pi_zipA (by rfl) T.b_zip (pa_cons (pv 4) (pa_cons (pv 3) pa_nil))) (pg_tup rfl (pgs_cons (pg_name (i := 8) sc_law_lost_columns.nd rfl (.inl rfl)) (pgs_cons (pg_name (i := 9) sc_law_lost_columns.nd rfl (.inl rfl)) pgs_nil))) (pss_one (ps_asg (pe_op op_mod (pe_callTy call_int1 (by rfl) T.b_int (by decide +kernel) (pa_cons (pe_un un_neg (pe_ix ix_list (pv 9) (pv 6) (fun _ _ => rfl))) pa_nil)) (pv 0)) (pg_sub (pv 7) (pv 8) set_list))))
    (pss_one (ps_expr (pe_bm PySem.F.plainAttrs_list PySem.F.slot_list_append PySem.F.type_list_append mt_append (pv 5) (pa_cons (pv 7) pa_nil)))))) pss_nil)))
    (pss_one (ps_ret (pe_cal G_law_spanned hr (pa_cons (pv 0) (pa_cons (pv 5) pa_nil)))))))))
/-! _law_reach (level 4) -/
theorem sc_law_reach : FnScope ["_law_picture_here", "_law_begin", "_law_end", "_law_prime", "_law_sizes", "_law_at", "_law_wide", "_law_place", "_law_asked", "_law_lost", "_law_a", "_law_b", "_law_table", "_law_number", "_law_row", "_law_wish", "_law_loose", "_law_kept", "_law_meeting"] ["_law_picture_here", "_law_begin", "_law_end"] (defScope s_law_reach) := ⟨rfl, rfl, rfl, by decide +kernel, rfl, by decide +kernel, by decide +kernel⟩
theorem der_law_reach {P : Program} {w : World} {K : PySem.W.Frag} {mg : Str → Option Value} {base : Heap} {sp_law_lost_columns : Sp} {sp_law_spanned : Sp} {f : Addr} {cdv : Value} {A : Around} {outer : List Env} {s : Shared} {H : Hp} {E : XK}
    (T : Txt K mg) (G_law_lost_columns : Cal P w K mg base 3 "_law_lost_columns" ["_law_prime", "_law_rows_here", "_law_wide"] sp_law_lost_columns) (G_law_spanned : Cal P w K mg base 2 "_law_spanned" ["_law_prime", "_law_rows_here"] sp_law_spanned)
    (hr : Room 3 (A.deeper (envOfC "_law_reach" (defScope s_law_reach) s.heap.objs.size f cdv))) :
    PSs (cxOf CX0 P w K mg base ["_law_picture_here", "_law_begin", "_law_end", "_law_prime", "_law_sizes", "_law_at", "_law_wide", "_law_place", "_law_asked", "_law_lost", "_law_a", "_law_b", "_law_table", "_law_number", "_law_row", "_law_wish", "_law_loose", "_law_kept", "_law_meeting"] "_law_reach" (defScope s_law_reach) f cdv A outer s H E).nox (defBody s_law_reach) (t_law_reach K sp_law_lost_columns sp_law_spanned) :=
  (pss_cons (ps_asg (pe_tup (pa_cons (pe_fld (pv 0) rfl) (pa_cons (pe_fld (pv 0) rfl) (pa_cons pe_dnewK (pa_cons pe_int pa_nil))))) (pg_tup rfl (pgs_cons (pg_name (i := 3) sc_law_reach.nd rfl (.inl rfl)) (pgs_cons (pg_name (i := 4) sc_law_reach.nd rfl (.inl rfl)) (pgs_cons (pg_name (i := 5) sc_law_reach.nd rfl (.inl rfl)) (pgs_cons (pg_name (i := 6) sc_law_reach.nd rfl (.inl rfl)) pgs_nil))))))
    (pss_cons (ps_for PassesOwn.never (by rfl) (pi_range2 (by rfl) T.b_range (pa_cons (pv 1) (pa_cons (pe_op op_add (pv 2) pe_int) pa_nil))) (pg_name (i := 7) sc_law_reach.nd rfl (.inr rfl)) (pss_cons (ps_dput (hu_of hr) (pv 5) (pv 7) (pv 6) rfl)
    (pss_one (ps_set (i := 6) sc_law_reach.nd rfl (.inl rfl) (pe_op op_add (pv 6) (pe_ix ix_tup (pv 4) (pv 7) (fun _ _ => rfl)))))))
    (pss_cons (ps_par (i := 8) (j := 9) (by rfl) sc_law_reach.nd rfl rfl (by decide) rfl rfl (pa_cons (pe_lst pa_nil) (pa_cons (pe_lst pa_nil) pa_nil)) (by rfl))
    (pss_cons (ps_for PassesOwn.never (by rfl) (RZ.pi_zipA (by rfl) T.b_zip (pa_cons (pe_fld (pe_fld (pv 0) rfl) rfl) (pa_cons (pe_fld (pv 0) rfl) pa_nil))) (pg_tup rfl (pgs_cons (pg_tup rfl (pgs_cons (pg_name (i := 10) sc_law_reach.nd rfl (.inl rfl)) (pgs_cons (pg_name (i := 11) sc_law_reach.nd rfl (.inl rfl)) pgs_nil))) (pgs_cons (pg_name (i := 12) sc_law_reach.nd rfl (.inl rfl)) pgs_nil))) (pss_one (ps_if (PW.pt (pw_and (pt_cmp (pc_din (hu_of hr) (pv 10) (pv 5)) (by with_unfolding_all rfl)) (pw_and1 (pt_cmp (pc_din (hu_of hr) (pv 11) (pv 5)) (by with_unfolding_all rfl))))) (pss_cons (ps_for PassesOwn.never (by rfl) (pi_enumT (by rfl) T.b_enumerate (pa_cons (pe_fld (pv 12) rfl) pa_nil)) (pg_tup rfl (pgs_cons (pg_name (i := 13) sc_law_reach.nd rfl (.inl rfl)) (pgs_cons (pg_name (i := 14) sc_law_reach.nd rfl (.inl rfl)) pgs_nil))) (pss_cons (ps_set (i := 15) sc_law_reach.nd rfl (.inl rfl) (pe_op op_rep (pe_lst (pa_cons pe_int pa_nil)) (pv 6)))
    (pss_cons (ps_slc (pe_callTy call_list_of (by rfl) T.b_list (by decide +kernel) (pa_cons (pv 14) pa_nil)) (pv 15) (pe_dget (hu_of hr) (pv 5) (pv 10) (fun _ _ => rfl)) (pe_op op_add (pe_dget (hu_of hr) (pv 5) (pv 10) (fun _ _ => rfl)) (pe_ix ix_tup (pv 4) (pv 10) (fun _ _ => rfl))))
    (pss_cons (ps_asg (pe_un un_neg pe_int) (pg_sub (pv 15) (pe_op op_add (pe_dget (hu_of hr) (pv 5) (pv 11) (fun _ _ => rfl)) (pv 13)) set_list))
    (pss_one (ps_expr (pe_bm PySem.F.plainAttrs_list PySem.F.slot_list_append PySem.F.type_list_append mt_append (pv 8) (pa_cons (pv 15) pa_nil))))))))
    (pss_one (ps_for PassesOwn.never (by rfl) (pi_range1 (by rfl) T.b_range (pa_cons (pe_ix ix_tup (pv 4) (pv 10) (fun _ _ => rfl)) pa_nil)) (pg_name (i := 7) sc_law_reach.nd rfl (.inr rfl)) (pss_cons (ps_set (i := 16) sc_law_reach.nd rfl (.inl rfl) (pe_op op_rep (pe_lst (pa_cons pe_int pa_nil)) (pv 6)))
    (pss_cons (ps_asg pe_int (pg_sub (pv 16) (pe_op op_add (pe_dget (hu_of hr) (pv 5) (pv 10) (fun _ _ => rfl)) (pv 7)) set_list))
    (pss_cons (ps_slc (pe_lc (own := [("_law_row", 14)]) (by rfl) sc_law_reach.nd (pi_tup (pe_fld (pv 12) rfl)) (blkOk_by (by kernel_rfl)) (fun _ _ _ _ _ => (pg_name (i := 14) sc_law_reach.nd rfl (.inl rfl))) (fun _ _ _ _ _ => pts_nil) (fun _ _ _ _ _ => (pe_un un_neg (pe_ix ix_tup (pv 14) (pv 7) (fun _ _ => rfl))))) (pv 16) (pe_dget (hu_of hr) (pv 5) (pv 11) (fun _ _ => rfl)) (pe_op op_add (pe_dget (hu_of hr) (pv 5) (pv 11) (fun _ _ => rfl)) (pe_ix ix_tup (pv 4) (pv 11) (fun _ _ => rfl))))
    (pss_one (ps_expr (pe_bm PySem.F.plainAttrs_list PySem.F.slot_list_append PySem.F.type_list_append mt_append (pv 9) (pa_cons (pv 16) pa_nil)))))))))) pss_nil)))
    (pss_cons (ps_set (i := 17) sc_law_reach.nd rfl (.inl rfl) (pe_lst pa_nil))
    (pss_cons (ps_for PassesOwn.never (by rfl) (pi_list (pe_ifExp (pt_cmpR op_gt (pv 6) pe_int (nomark _)) (pe_cal G_law_lost_columns hr (pa_cons (pv 3) (pa_cons (pv 8) (pa_cons (pv 6) pa_nil)))) (pe_lst pa_nil))) (pg_name (i := 18) sc_law_reach.nd rfl (.inl rfl)) (pss_one (ps_expr (pe_bm PySem.F.plainAttrs_list PySem.F.slot_list_append PySem.F.type_list_append mt_append (pv 17) (pa_cons (pe_op op_cat (pe_slice sl_list (pv 18) po_none (po_some (pe_ix ix_tup (pv 4) (pv 1) (fun _ _ => rfl)))) (pe_op op_rep (pe_lst (pa_cons pe_int pa_nil)) (pe_op op_sub (pv 6) (pe_ix ix_tup (pv 4) (pv 1) (fun _ _ => rfl))))) pa_nil)))))
    (pss_one (ps_ret (pe_op op_sub (pe_callB call_len_seq (by rfl) T.b_len (by decide +kernel) (pa_cons (pe_cal G_law_spanned hr (pa_cons (pv 3) (pa_cons (pe_op op_cat (pv 9) (pv 17)) pa_nil))) pa_nil)) (pe_callB call_len_seq (by rfl) T.b_len (by decide +kernel) (pa_cons (pe_cal G_law_spanned hr (pa_cons (pv 3) (pa_cons (pv 9) pa_nil))) pa_nil)))))))))))
/-! _law_bars (level 5) -/
theorem sc_law_bars : FnScope ["_law_picture_here", "_law_many", "_law_found", "_law_told", "_law_begin", "_law_end", "_law_count", "_law_pair"] ["_law_picture_here"] (defScope s_law_bars) := ⟨rfl, rfl, rfl, by decide +kernel, rfl, by decide +kernel, by decide +kernel⟩
theorem der_law_bars {P : Program} {w : World} {K : PySem.W.Frag} {mg : Str → Option Value} {base : Heap} {sp_law_stretches : Sp} {sp_law_reach : Sp} {f : Addr} {cdv : Value} {A : Around} {outer : List Env} {s : Shared} {H : Hp} {E : XK}
    (T : Txt K mg) (G_law_stretches : Cal P w K mg base 2 "_law_stretches" ["_law_many"] sp_law_stretches) (G_law_reach : Cal P w K mg base 4 "_law_reach" ["_law_picture_here", "_law_begin", "_law_end"] sp_law_reach)
    (hr : Room 4 (A.deeper (envOfC "_law_bars" (defScope s_law_bars) s.heap.objs.size f cdv))) :
    PSs (cxOf CX0 P w K mg base ["_law_picture_here", "_law_many", "_law_found", "_law_told", "_law_begin", "_law_end", "_law_count", "_law_pair"] "_law_bars" (defScope s_law_bars) f cdv A outer s H E).nox (defBody s_law_bars) (t_law_bars K sp_law_stretches sp_law_reach) :=
  (pss_cons (ps_par (i := 1) (j := 2) (by rfl) sc_law_bars.nd rfl rfl (by decide) rfl rfl (pa_cons (pe_callB call_len_seq (by rfl) T.b_len (by decide +kernel) (pa_cons (pe_fld (pv 0) rfl) pa_nil)) (pa_cons (pe_lst pa_nil) pa_nil)) (by rfl))
    (pss_cons (ps_set (i := 3) sc_law_bars.nd rfl (.inl rfl) (pe_callTy (call_dictPT (by rfl) (un65 hr)) (by rfl) T.b_dict (by decide +kernel) (pa_cons (pe_lc (own := [("_law_pair", 7)]) (by rfl) sc_law_bars.nd (pi_list (pe_cal G_law_stretches hr (pa_cons (pv 1) pa_nil))) (blkOk_by (by kernel_rfl)) (fun _ _ _ _ _ => (pg_name (i := 7) sc_law_bars.nd rfl (.inl rfl))) (fun _ _ _ _ _ => pts_nil) (fun _ _ _ _ _ => (pe_tup (pa_cons (pv 7) (pa_cons (pe_cal G_law_reach hr (pa_cons (pv 0) (pa_cons (pe_ix ix_tup (pv 7) pe_int (fun _ _ => rfl)) (pa_cons (pe_ix ix_tup (pv 7) pe_int (fun _ _ => rfl)) pa_nil)))) pa_nil))))) pa_nil)))
    (pss_cons (ps_for PassesOwn.never (by rfl) (pi_list (pe_cal G_law_stretches hr (pa_cons (pv 1) pa_nil))) (pg_tup rfl (pgs_cons (pg_name (i := 4) sc_law_bars.nd rfl (.inl rfl)) (pgs_cons (pg_name (i := 5) sc_law_bars.nd rfl (.inl rfl)) pgs_nil))) (pss_cons (ps_set (i := 6) sc_law_bars.nd rfl (.inl rfl) (pe_op op_sub (pe_dget (hu_of hr) (pv 3) (pe_tup (pa_cons (pv 4) (pa_cons (pv 5) pa_nil))) (fun _ _ => rfl)) (pe_dget2 (hu_of hr) (pv 3) (pe_tup (pa_cons (pe_op op_sub (pv 4) pe_int) (pa_cons (pv 5) pa_nil))) pe_int ⟨rfl, rfl, rfl, rfl⟩)))
    (pss_cons (ps_set (i := 6) sc_law_bars.nd rfl (.inl rfl) (pe_op op_add (pe_op op_sub (pv 6) (pe_dget2 (hu_of hr) (pv 3) (pe_tup (pa_cons (pv 4) (pa_cons (pe_op op_add (pv 5) pe_int) pa_nil))) pe_int ⟨rfl, rfl, rfl, rfl⟩)) (pe_dget2 (hu_of hr) (pv 3) (pe_tup (pa_cons (pe_op op_sub (pv 4) pe_int) (pa_cons (pe_op op_add (pv 5) pe_int) pa_nil))) pe_int ⟨rfl, rfl, rfl, rfl⟩)))
    (pss_one (ps_if (pt_cmpR op_gt (pv 6) pe_int (nomark _)) (pss_one (ps_expr (pe_bm PySem.F.plainAttrs_list PySem.F.slot_list_append PySem.F.type_list_append mt_append (pv 2) (pa_cons (pe_tup (pa_cons (pv 4) (pa_cons (pv 5) (pa_cons (pv 6) pa_nil)))) pa_nil)))) pss_nil)))))
    (pss_one (ps_ret (pe_callTy call_tuple_of (by rfl) T.b_tuple (by decide +kernel) (pa_cons (pv 2) pa_nil)))))))
/-! law (level 9) -/
theorem sc_law : FnScope ["_law_script", "_law_purse_here", "_law_turn", "_law_word", "_law_web", "_law_prime", "_law_many", "_law_put", "_law_pieces", "_law_piece", "_law_pair", "_law_due", "_law_picture_here", "_law_begin", "_law_end", "_law_place"] ["_law_script"] (defScope s_law) := ⟨rfl, rfl, rfl, by decide +kernel, rfl, by decide +kernel, by decide +kernel⟩
theorem der_law {P : Program} {w : World} {K : PySem.W.Frag} {mg : Str → Option Value} {base : Heap} {sp_law_purse : Sp} {sp_law_line : Sp} {sp_law_one : Sp} {sp_law_part : Sp} {sp_law_stretches : Sp} {sp_bar_of : Sp} {sp_beside : Sp} {sp_law_rebased : Sp} {sp_bars : Sp} {sp_law_are_just : Sp} {sp_law_picture : Sp} {sp_law_bars : Sp} {f : Addr} {cdv : Value} {A : Around} {outer : List Env} {s : Shared} {H : Hp} {E : XK}
    (T : Txt K mg) (G_law_purse : Cal P w K mg base 1 "_law_purse" ["_law_script"] sp_law_purse) (G_law_line : Cal P w K mg base 4 "_law_line" ["_law_purse_here", "_law_most"] sp_law_line) (G_law_one : Cal P w K mg base 2 "_law_one" ["_law_purse_here", "_law_some"] sp_law_one) (G_law_part : Cal P w K mg base 1 "_law_part" ["_law_purse_here", "_law_many"] sp_law_part) (G_law_stretches : Cal P w K mg base 2 "_law_stretches" ["_law_many"] sp_law_stretches) (G_bar_of : Cal P w K mg base 6 "bar_of" ["web", "prime", "begin", "end"] sp_bar_of) (G_beside : Cal P w K mg base 6 "beside" ["web", "prime", "pictures"] sp_beside) (G_law_rebased : Cal P w K mg base 8 "_law_rebased" ["_law_purse_here", "_law_picture_here"] sp_law_rebased) (G_bars : Cal P w K mg base 7 "bars" ["picture"] sp_bars) (G_law_are_just : Cal P w K mg base 1 "_law_are_just" ["_law_told", "_law_due"] sp_law_are_just) (G_law_picture : Cal P w K mg base 7 "_law_picture" ["_law_purse_here", "_law_web", "_law_prime", "_law_sizes"] sp_law_picture) (G_law_bars : Cal P w K mg base 5 "_law_bars" ["_law_picture_here"] sp_law_bars)
    (hr : Room 8 (A.deeper (envOfC "law" (defScope s_law) s.heap.objs.size f cdv))) :
    PSs (cxOf CX0 P w K mg base ["_law_script", "_law_purse_here", "_law_turn", "_law_word", "_law_web", "_law_prime", "_law_many", "_law_put", "_law_pieces", "_law_piece", "_law_pair", "_law_due", "_law_picture_here", "_law_begin", "_law_end", "_law_place"] "law" (defScope s_law) f cdv A outer s H E).nox (defBody s_law) (t_law K sp_law_purse sp_law_line sp_law_one sp_law_part sp_law_stretches sp_bar_of sp_beside sp_law_rebased sp_bars sp_law_are_just sp_law_picture sp_law_bars) :=
  (pss_cons (ps_set (i := 1) sc_law.nd rfl (.inr rfl) (pe_cal G_law_purse hr (pa_cons (pv 0) pa_nil)))
    (pss_cons (ps_for PassesOwn.never (by rfl) (pi_range1 (by rfl) T.b_range (pa_cons pe_int pa_nil)) (pg_name (i := 2) sc_law.nd rfl (.inl rfl)) (pss_cons (ps_asg (pe_cal G_law_line hr (pa_cons (pv 1) (pa_cons pe_int pa_nil))) (pg_tup rfl (pgs_cons (pg_name (i := 3) sc_law.nd rfl (.inl rfl)) (pgs_cons (pg_name (i := 4) sc_law.nd rfl (.inl rfl)) pgs_nil))))
    (pss_cons (ps_par (i := 5) (j := 6) (by rfl) sc_law.nd rfl rfl (by decide) rfl rfl (pa_cons (pe_cal G_law_one hr (pa_cons (pv 1) (pa_cons (pe_lst (pa_cons pe_int (pa_cons pe_int (pa_cons pe_int (pa_cons pe_int (pa_cons pe_int pa_nil)))))) pa_nil))) (pa_cons (pe_op op_add (pe_callB call_len_str (by rfl) T.b_len (by decide +kernel) (pa_cons (pv 3) pa_nil)) pe_int) pa_nil)) (by rfl))
    (pss_cons (ps_asg (pe_tup (pa_cons pe_dnewT (pa_cons (pe_lst pa_nil) pa_nil))) (pg_tup rfl (pgs_cons (pg_name (i := 7) sc_law.nd rfl (.inr rfl)) (pgs_cons (pg_name (i := 8) sc_law.nd rfl (.inl rfl)) pgs_nil))))
    (pss_cons (ps_for PassesOwn.never (by rfl) (pi_range1 (by rfl) T.b_range (pa_cons (pe_cal G_law_part hr (pa_cons (pv 1) (pa_cons pe_int pa_nil))) pa_nil)) (pg_name (i := 9) sc_law.nd rfl (.inl rfl)) (pss_cons (ps_set (i := 10) sc_law.nd rfl (.inl rfl) (pe_cal G_law_one hr (pa_cons (pv 1) (pa_cons (pe_cal G_law_stretches hr (pa_cons (pv 6) pa_nil)) pa_nil))))
    (pss_cons (ps_dput (hu_of hr) (pv 7) (pv 10) (pe_op op_add (pe_dget2 (hu_of hr) (pv 7) (pv 10) pe_int ⟨rfl, rfl, rfl, rfl⟩) pe_int) rfl)
    (pss_one (ps_expr (pe_bm PySem.F.plainAttrs_list PySem.F.slot_list_append PySem.F.type_list_append mt_append (pv 8) (pa_cons (pe_cal G_bar_of hr (pa_cons (pv 4) (pa_cons (pv 5) (pa_cons (pe_ix ix_tup (pv 10) pe_int (fun _ _ => rfl)) (pa_cons (pe_ix ix_tup (pv 10) pe_int (fun _ _ => rfl)) pa_nil))))) pa_nil)))))))
    (pss_cons (ps_set (i := 11) sc_law.nd rfl (.inl rfl) (pe_callTy call_tuple_of (by rfl) T.b_tuple (by decide +kernel) (pa_cons (pe_lc (own := [("_law_begin", 13), ("_law_end", 14)]) (by rfl) sc_law.nd (pi_list (pe_callB (cr_sortKT rfl (un65 hr)) (by rfl) T.b_sorted (by decide +kernel) (pa_cons (pv 7) pa_nil))) (blkOk_by (by kernel_rfl)) (fun _ _ _ _ _ => (pg_tup rfl (pgs_cons (pg_name (i := 13) sc_law.nd rfl (.inl rfl)) (pgs_cons (pg_name (i := 14) sc_law.nd rfl (.inl rfl)) pgs_nil)))) (fun _ _ _ _ _ => pts_nil) (fun _ _ _ _ _ => (pe_tup (pa_cons (pv 13) (pa_cons (pv 14) (pa_cons (pe_dget (hu_of hr) (pv 7) (pe_tup (pa_cons (pv 13) (pa_cons (pv 14) pa_nil))) (fun _ _ => rfl)) pa_nil)))))) pa_nil)))
    (pss_cons (ps_if (pt_not (pt_val (pe_cal G_law_are_just hr (pa_cons (pe_cal G_bars hr (pa_cons (pe_cal G_law_rebased hr (pa_cons (pv 1) (pa_cons (pe_cal G_beside hr (pa_cons (pv 4) (pa_cons (pv 5) (pa_cons (pv 8) pa_nil)))) pa_nil))) pa_nil)) (pa_cons (pv 11) pa_nil))))) (pss_one (ps_ret pe_bl)) pss_nil)
    (pss_cons (ps_asg (pe_cal G_law_line hr (pa_cons (pv 1) (pa_cons pe_int pa_nil))) (pg_tup rfl (pgs_cons (pg_name (i := 3) sc_law.nd rfl (.inl rfl)) (pgs_cons (pg_name (i := 4) sc_law.nd rfl (.inl rfl)) pgs_nil))))
    (pss_cons (ps_set (i := 12) sc_law.nd rfl (.inl rfl) (pe_cal G_law_picture hr (pa_cons (pv 1) (pa_cons (pv 4) (pa_cons (pv 5) (pa_cons (pe_callTy call_tuple_of (by rfl) T.b_tuple (by decide +kernel) (pa_cons (pe_lc (own := [("_law_place", 15)]) (by rfl) sc_law.nd (pi_range1 (by rfl) T.b_range (pa_cons (pe_op op_add (pe_callB call_len_str (by rfl) T.b_len (by decide +kernel) (pa_cons (pv 3) pa_nil)) pe_int) pa_nil)) (blkOk_by (by kernel_rfl)) (fun _ _ _ _ _ => (pg_name (i := 15) sc_law.nd rfl (.inl rfl))) (fun _ _ _ _ _ => pts_nil) (fun _ _ _ _ _ => (pe_cal G_law_part hr (pa_cons (pv 1) (pa_cons pe_int pa_nil))))) pa_nil)) pa_nil))))))
    (pss_one (ps_if (pt_not (pt_val (pe_cal G_law_are_just hr (pa_cons (pe_cal G_bars hr (pa_cons (pv 12) pa_nil)) (pa_cons (pe_cal G_law_bars hr (pa_cons (pv 12) pa_nil)) pa_nil))))) (pss_one (ps_ret pe_bl)) pss_nil)))))))))))
    (pss_one (ps_ret pe_bl))))
section
variable {K : PySem.W.Frag}
abbrev Ed (Q : VK) : Ends := { nx := fun _ H' => Q .non H', rt := Q }
theorem ite_t {A B : Prop} (h : A) : if true = true then A else B := by rw [if_pos rfl]; exact h
/-! inverse_of -/
def sp_inverse_of : Sp := fun vs H Q _ => ∃ p w : Int, vs = [.int p, .int w] ∧ 0 < p ∧ p ≤ 1000 ∧ Q (.int (invOf p w)) H
theorem powm_lt {p w : Int} (hp : 0 < p) (hp2 : p ≤ 1000) : ∀ n, 0 ≤ powm p w n ∧ powm p w n < 1000 + 1
  | 0 => ⟨(by decide : (0 : Int) ≤ 1), (by decide : (1 : Int) < 1000 + 1)⟩
  | n + 1 => by
    have a := Int.emod_nonneg (powm p w n * w) (by omega : p ≠ 0)
    have b := Int.emod_lt_of_pos (powm p w n * w) hp
    exact ⟨a, by show powm p w n * w % p < _; omega⟩
theorem pure_inverse_of (vs : List V) (H : Hp) (Q : VK) (E : XK) (h : sp_inverse_of vs H Q E) : t_inverse_of K (Ed Q) (start n_inverse_of vs) H := by
  obtain ⟨p, w, rfl, hp, hp2, k⟩ := h
  refine ⟨_, rfl, _, _, rfl, rfl, p - 2, rfl, by omega, by omega, ?_⟩
  refine for_it (walk_range (lo := 0)) (fun i σ H' => H' = H ∧ ∃ v, σ = [some (.int p), some (.int w), some (.int (powm p w i)), v]) ⟨rfl, _, rfl⟩ (fun _ _ _ _ _ => trivial) ?_ ?_
  · rintro i x σ H0 H' hi ⟨rfl, v, rfl⟩ ⟨rfl, rfl⟩
    have b := powm_lt (w := w) hp hp2 i
    refine ⟨_, rfl, _, rfl, _, _, rfl, rfl, .inl ⟨by omega, by omega⟩, _, rfl, _, _, rfl, rfl, hp, rfl, _, rfl⟩
  · rintro σ H' ⟨rfl, v, rfl⟩
    exact ⟨_, rfl, k⟩
/-! less -/
theorem less_at {p n : Int} {r s : List Int} {i : Nat} (h1 : i < r.length) (h2 : i < s.length) : (less p r n s).getD i 0 = (r.getD i 0 - n * s.getD i 0) % p := by
  simp [less, List.getD_eq_getElem?_getD, List.getElem?_zipWith, List.getElem?_eq_getElem h1, List.getElem?_eq_getElem h2]
def sp_less (K : PySem.W.Frag) : Sp := fun vs H Q _ => ∃ (p n : Int) (v o : V) (r s : List Int), vs = [.int p, v, .int n, o] ∧ rhRow K H v r ∧ rhRow K H o s ∧ r.length = s.length ∧ r.length ≤ 1000 ∧ 0 < p ∧ (-(2 ^ 64) < n ∧ n < 2 ^ 64) ∧ Ret (rhRow K) H Q (less p r n s)
theorem pure_less (vs : List V) (H : Hp) (Q : VK) (E : XK) (h : sp_less K vs H Q E) : t_less K (Ed Q) (start n_less vs) H := by
  obtain ⟨p, n, v, o, r, s, rfl, hv, ho, hl, hz, hp, hn, k⟩ := h
  obtain ⟨a, rfl, ha⟩ := hv.ex
  obtain ⟨b, rfl, hb⟩ := ho.ex
  refine ⟨_, rfl, _, rfl, a, b, _, _, rfl, .inr ⟨ha, hb, fun D hD => ?_⟩⟩
  refine lc_all (r := rhI) (wk_zipT (n := r.length) (xs := r.map V.int) (ys := s.map V.int) (by simp) (by simp [hl])) (less p r n s) (by simp [less, hl]) (by omega) immI hD (fun H' e => ⟨Same.tup e ha, Same.tup e hb⟩) ?_ ?_
  · rintro i x c H0 H' Q' hc e ⟨t, y, z, rfl, nt, rfl, hy, hz'⟩ k'
    have q := upd_same (H := H0) (a := t) (o := .tup [y, z])
    have hi : i < r.length := by
      have := (List.getElem?_eq_some_iff.mp hc).1
      simp [less] at this
      omega
    rw [row_at hi] at hy
    rw [row_at (by omega)] at hz'
    cases hy; cases hz'
    refine g_pair q ⟨rfl, ?_⟩
    refine ⟨_, rfl, _, rfl, _, rfl, _, _, rfl, rfl, .inl hn, _, _, rfl, rfl, _, rfl, _, _, rfl, rfl, hp, k' _ _ (Same.upd nt) ?_⟩
    have : (less p r n s).getD i 0 = c := by simp [List.getD_eq_getElem?_getD, hc]
    rw [← this, less_at hi (by omega)]
    rfl
  · intro H' ys e h1 h2
    rw [ints_of h2] at h1
    exact ⟨_, _, rfl, .inl ⟨SqL.of h1, fun l hl => k _ _ (Same.trans e (Same.upd hl)) (rhRow.mk (SqT.of upd_same))⟩⟩
end
section
variable {K : PySem.W.Frag} {H : Hp} {Q : VK}
theorem ty_tup {a : Addr} {xs : List V} (h : SqT K H a xs) : TyX K H (.ref a) (.type "tuple") := by
  rcases h with (h | ⟨o, h⟩) | ⟨o, its, n, h1, h2, _⟩
  · exact .base (.tup h)
  · exact .fTuple h
  · exact .kTuple h1 h2
theorem ite_f {A B : Prop} (h : B) : if false = true then A else B := by rw [if_neg (by decide)]; exact h
/-! is_integer, is_within, is_number -/
def sp_is_integer : Sp := fun vs H Q _ => ∃ i : Int, vs = [.int i] ∧ Q (.bl true) H
theorem pure_is_integer (vs : List V) (H : Hp) (Q : VK) (E : XK) (h : sp_is_integer vs H Q E) : t_is_integer K (Ed Q) (start n_is_integer vs) H := by
  obtain ⟨i, rfl, k⟩ := h
  exact ⟨_, rfl, _, _, _, _, true, rfl, .ty _, .base (.int _), kit_ty (by decide +kernel), true, rfl, ite_t ⟨_, rfl, _, _, _, _, false, rfl, .ty _, .base (.int _), kit_ty (by decide +kernel), false, rfl, k⟩⟩
def sp_is_within : Sp := fun vs H Q _ => ∃ i a b : Int, vs = [.int i, .int a, .int b] ∧ Q (.bl (decide (a ≤ i) && decide (i ≤ b))) H
theorem pure_is_within (vs : List V) (H : Hp) (Q : VK) (E : XK) (h : sp_is_within vs H Q E) : t_is_within K sp_is_integer (Ed Q) (start n_is_within vs) H := by
  obtain ⟨i, a, b, rfl, k⟩ := h
  refine ⟨_, rfl, _, rfl, true, rfl, ite_t ⟨_, rfl, _, rfl, _, _, rfl, rfl, _, rfl, ?_⟩⟩
  cases e : decide (a ≤ i) with
  | true =>
    rw [e, Bool.true_and] at k
    exact ite_t ⟨_, rfl, _, _, rfl, rfl, k⟩
  | false =>
    rw [e, Bool.false_and] at k
    exact ite_f k
def sp_is_number : Sp := fun vs H Q _ => ∃ i b : Int, vs = [.int i, .int b] ∧ Q (.bl (decide (0 ≤ i) && decide (i ≤ b))) H
theorem pure_is_number (vs : List V) (H : Hp) (Q : VK) (E : XK) (h : sp_is_number vs H Q E) : t_is_number K sp_is_within (Ed Q) (start n_is_number vs) H := by
  obtain ⟨i, b, rfl, k⟩ := h
  exact ⟨_, rfl, _, rfl, i, 0, b, rfl, k⟩
/-! is_prime, check_prime -/
def okP (p : Int) : Prop := p = 2 ∨ p = 3 ∨ p = 5 ∨ p = 13
theorem okP.lo {p : Int} (h : okP p) : 2 ≤ p := by rcases h with h | h | h | h <;> omega
theorem okP.hi {p : Int} (h : okP p) : p ≤ 13 := by rcases h with h | h | h | h <;> omega
def prs : List V := [.int 2, .int 3, .int 5, .int 7, .int 11, .int 13]
theorem okP.inV {p : Int} (h : okP p) : inV (.int p) prs = true := by rcases h with rfl | rfl | rfl | rfl <;> decide
def sp_is_prime : Sp := fun vs H Q _ => ∃ p : Int, vs = [.int p] ∧ okP p ∧ Q (.bl true) H
theorem pure_is_prime (hP : ∀ H, SqT K H (ad K "PRIMES") prs) (vs : List V) (H : Hp) (Q : VK) (E : XK) (h : sp_is_prime vs H Q E) : t_is_prime K sp_is_integer (Ed Q) (start n_is_prime vs) H := by
  obtain ⟨p, rfl, hp, k⟩ := h
  refine ⟨_, rfl, _, rfl, true, rfl, ite_t ⟨_, rfl, _, prs, rfl, .inr (hP H), rfl, rfl, ?_⟩⟩
  show Q (.bl (inV (.int p) prs)) H
  rw [hp.inV]
  exact k
def sp_check_prime : Sp := fun vs H Q _ => ∃ p : Int, vs = [.int p] ∧ okP p ∧ Q .non H
theorem pure_check_prime (vs : List V) (H : Hp) (Q : VK) (E : XK) (h : sp_check_prime vs H Q E) : t_check_prime K sp_is_prime (Ed Q) (start n_check_prime vs) H := by
  obtain ⟨p, rfl, hp, k⟩ := h
  exact ⟨_, rfl, p, rfl, hp, _, rfl, ite_f k⟩
/-! is_column -/
/-- a row of so many worths -/
def okRow (p : Int) (n : Nat) (r : List Int) : Prop := r.length = n ∧ ∀ x ∈ r, 0 ≤ x ∧ x < p
def okMat (p : Int) (n : Nat) (m : List (List Int)) : Prop := ∀ r ∈ m, okRow p n r
theorem rep_true : ∀ (n : Nat), (List.replicate n true).all id = true
  | 0 => rfl
  | n + 1 => by rw [List.replicate_succ, List.all_cons, rep_true n]; rfl
def sp_is_column (K : PySem.W.Frag) : Sp := fun vs H Q _ => ∃ (p : Int) (n : Nat) (v : V) (r : List Int), vs = [.int p, .int n, v] ∧ rhRow K H v r ∧ okRow p n r ∧ n ≤ 1000 ∧ ∀ H', Same H H' → Q (.bl true) H'
theorem pure_is_column (vs : List V) (H : Hp) (Q : VK) (E : XK) (h : sp_is_column K vs H Q E) : t_is_column K sp_is_number (Ed Q) (start n_is_column vs) H := by
  obtain ⟨p, n, v, r, rfl, hv, ⟨hl, hr⟩, hn, k⟩ := h
  obtain ⟨a, rfl, ha⟩ := hv.ex
  refine ⟨_, rfl, _, _, _, _, true, rfl, .ty _, ty_tup ha, kit_ty (by decide +kernel), true, rfl, ite_t ⟨_, rfl, a, _, rfl, .inr ha, _, rfl, rfl, _, rfl, ?_⟩⟩
  rw [show decide (V.int ((List.map V.int r).length : Int) = V.int n) = true from decide_eq_true (by simp [hl])]
  refine ite_t ⟨_, rfl, a, rfl, ⟨_, ha⟩, fun D hD => ?_⟩
  refine lc_all (r := rhB) walk_tup (List.replicate r.length true) (by simp) (by simp; omega) immB hD (fun H' e => Same.tup e ha) ?_ ?_
  · rintro i x c H0 H' Q' hc e ⟨rfl, hx⟩ k'
    have hi : i < r.length := by
      have := (List.getElem?_eq_some_iff.mp hx).1
      simpa using this
    rw [row_at hi] at hx
    cases hx
    refine ⟨rfl, _, rfl, _, rfl, _, _, rfl, rfl, _, _, rfl, k' _ _ (Same.refl _) ?_⟩
    have hm : r.getD i 0 ∈ r := by rw [List.getD_eq_getElem?_getD, List.getElem?_eq_getElem hi]; exact List.getElem_mem hi
    have b := hr _ hm
    have ec : c = true := by rw [List.getElem?_replicate] at hc; simp [hi] at hc; exact hc
    rw [decide_eq_true b.1, decide_eq_true (by omega), ec]
    rfl
  · intro H' ys e h1 h2
    rw [bls_of h2] at h1
    refine ⟨D, _, rfl, SqL.of h1, ?_⟩
    rw [rep_true]
    exact k H' e
end
section
variable {K : PySem.W.Frag} {H : Hp} {Q : VK}
/-! objects being made -/
theorem sq_upd {x a : Addr} {o u : HO} {xs : List V} (h : SqT K H a xs) (hx : H x = some u) (n1 : ∀ ys, u ≠ .tup ys) (n2 : ∀ ob v, u ≠ .frz ob v) : SqT K (upd H x o) a xs := by
  rcases h with (h | ⟨ob, h⟩) | h
  · exact .inl (.inl (by rw [upd_ne (ne_of h hx fun e => n1 xs e.symm)]; exact h))
  · exact .inl (.inr ⟨ob, by rw [upd_ne (ne_of h hx fun e => n2 _ _ e.symm)]; exact h⟩)
  · exact .inr h
def tabFs (p : Int) (w : Int) (vr : V) (n : Int) : List (Str × V) := putF "high" (.int n) (putF "rows" vr (putF "wide" (.int w) (putF "prime" (.int p) [])))
def picFs (vw : V) (p : Int) (vs vt : V) : List (Str × V) := putF "tables" vt (putF "sizes" vs (putF "prime" (.int p) (putF "web" vw [])))
def webFs (m : Int) (va : V) : List (Str × V) := putF "arrows" va (putF "many" (.int m) [])
theorem tabFs_at (p w : Int) (vr : V) (n : Int) : (tabFs p w vr n).lookup ("prime" : Str) = some (.int p) ∧ (tabFs p w vr n).lookup ("wide" : Str) = some (.int w) ∧ (tabFs p w vr n).lookup ("rows" : Str) = some vr ∧ (tabFs p w vr n).lookup ("high" : Str) = some (.int n) := by
  unfold tabFs
  refine ⟨?_, ?_, ?_, ?_⟩
  · rw [lookup_putF, if_neg (by decide +kernel), lookup_putF, if_neg (by decide +kernel), lookup_putF, if_neg (by decide +kernel), lookup_putF, if_pos rfl]
  · rw [lookup_putF, if_neg (by decide +kernel), lookup_putF, if_neg (by decide +kernel), lookup_putF, if_pos rfl]
  · rw [lookup_putF, if_neg (by decide +kernel), lookup_putF, if_pos rfl]
  · rw [lookup_putF, if_pos rfl]
theorem picFs_at (vw : V) (p : Int) (vs vt : V) : (picFs vw p vs vt).lookup ("web" : Str) = some vw ∧ (picFs vw p vs vt).lookup ("prime" : Str) = some (.int p) ∧ (picFs vw p vs vt).lookup ("sizes" : Str) = some vs ∧ (picFs vw p vs vt).lookup ("tables" : Str) = some vt := by
  unfold picFs
  refine ⟨?_, ?_, ?_, ?_⟩
  · rw [lookup_putF, if_neg (by decide +kernel), lookup_putF, if_neg (by decide +kernel), lookup_putF, if_neg (by decide +kernel), lookup_putF, if_pos rfl]
  · rw [lookup_putF, if_neg (by decide +kernel), lookup_putF, if_neg (by decide +kernel), lookup_putF, if_pos rfl]
  · rw [lookup_putF, if_neg (by decide +kernel), lookup_putF, if_pos rfl]
  · rw [lookup_putF, if_pos rfl]
theorem webFs_at (m : Int) (va : V) : (webFs m va).lookup ("many" : Str) = some (.int m) ∧ (webFs m va).lookup ("arrows" : Str) = some va := by
  unfold webFs
  exact ⟨by rw [lookup_putF, if_neg (by decide +kernel), lookup_putF, if_pos rfl], by rw [lookup_putF, if_pos rfl]⟩
theorem putF_len {f : Str} {v : V} {fs : List (Str × V)} {n : Nat} (h : fs.length ≤ n) : (putF f v fs).length ≤ n + 1 := Nat.le_trans (length_putF f v fs) (by omega)
/-- all but x stands as it stood -/
def But (x : Addr) (H H' : Hp) : Prop := ∀ b o, b ≠ x → H b = some o → H' b = some o
theorem But.upd (x : Addr) (H : Hp) (o : HO) : But x H (upd H x o) := fun b u n q => by rw [upd_ne n]; exact q
theorem But.trans {x : Addr} {H H1 H2 : Hp} (a : But x H H1) (b : But x H1 H2) : But x H H2 := fun c o n q => b c o n (a c o n q)
/-! Table.keep, RawTable.__init__ -/
def sp_Tab_keep (K : PySem.W.Frag) (C : Addr) : Sp := fun vs H Q _ => ∃ (x dx a : Addr) (p w : Int) (xs : List V), vs = [.ref x, .int p, .int w, .ref a] ∧ KIns K C nsTab ∧ H x = some (.ins C dx []) ∧ SqT K H a xs ∧
  ∀ H', But x H H' → H' x = some (.ins C dx (tabFs p w (.ref a) xs.length)) → Q .non H'
theorem pure_Table_keep {C : Addr} (vs : List V) (H : Hp) (Q : VK) (E : XK) (h : sp_Tab_keep K C vs H Q E) : t_Table_keep K (Ed Q) (start n_Table_keep vs) H := by
  obtain ⟨x, dx, a, p, w, xs, rfl, k, hx, ha, q⟩ := h
  refine ⟨_, rfl, _, rfl, x, C, dx, [], rfl, hx, k.cl, k.na _ (by simp), (by decide), ?_⟩
  refine ⟨_, rfl, _, rfl, x, C, dx, _, rfl, upd_same, k.cl, k.na _ (by simp), Nat.lt_of_le_of_lt (putF_len (n := 0) (Nat.le_refl _)) (by decide), ?_⟩
  refine ⟨_, rfl, _, rfl, x, C, dx, _, rfl, upd_same, k.cl, k.na _ (by simp), Nat.lt_of_le_of_lt (putF_len (putF_len (n := 0) (Nat.le_refl _))) (by decide), ?_⟩
  refine ⟨_, rfl, a, xs, rfl, .inr ?_, _, rfl, x, C, dx, _, rfl, upd_same, k.cl, k.na _ (by simp), Nat.lt_of_le_of_lt (putF_len (putF_len (putF_len (n := 0) (Nat.le_refl _)))) (by decide), ?_⟩
  · refine sq_upd (sq_upd (sq_upd ha hx ?_ ?_) upd_same ?_ ?_) upd_same ?_ ?_ <;> (intros; intro e; cases e)
  · exact q _ ((((But.upd x H _).trans (But.upd x _ _)).trans (But.upd x _ _)).trans (But.upd x _ _)) upd_same
def sp_RawTable_init (K : PySem.W.Frag) : Sp := fun vs H Q _ => ∃ (x dx a : Addr) (p w : Int) (xs : List V), vs = [.ref x, .int p, .int w, .ref a] ∧ H x = some (.ins (ad K "RawTable") dx []) ∧ SqT K H a xs ∧
  ∀ H', But x H H' → H' x = some (.ins (ad K "RawTable") dx (tabFs p w (.ref a) xs.length)) → Q .non H'
theorem pure_RawTable_init (k : KIns K (ad K "RawTable") nsTab) (kk : NoAttr K (ad K "RawTable") "zz" ∨ True) (vs : List V) (H : Hp) (Q : VK) (E : XK) (h : sp_RawTable_init K vs H Q E) : t_RawTable_init K (sp_Tab_keep K (ad K "RawTable")) (Ed Q) (start n_RawTable_init vs) H := by
  obtain ⟨x, dx, a, p, w, xs, rfl, hx, ha, q⟩ := h
  exact ⟨_, rfl, x, dx, [], rfl, hx, rfl, _, rfl, _, rfl, _, rfl, x, dx, a, p, w, xs, rfl, k, hx, ha, fun H' b e => q H' b e⟩
/-- what a class of tables must be -/
structure KTab (K : PySem.W.Frag) (C : Addr) : Prop where
  k : KIns K C nsTab
  isT : PySem.W.kitOne K (.ref C) (.ref (ad K "Table")) = some true
theorem tab_mk {C x dx a : Addr} {p w n : Int} {t : Tb} {H' : Hp} (k : KTab K C) (hw : w = t.wide) (hn : n = t.rows.length) (h : H' x = some (.ins C dx (tabFs p w (.ref a) n))) (hm : rhMat K H' (.ref a) t.rows) : rhTab K p H' (.ref x) t := by
  obtain ⟨l1, l2, l3, l4⟩ := tabFs_at p w (.ref a) n
  exact ⟨x, C, dx, _, _, rfl, h, k.k, k.isT, l1, by rw [l2, hw], l3, by rw [l4, hn], hm⟩
/-- the call RawTable(p, w, rows) -/
theorem make_tab {p w : Int} {v : V} {t : Tb} {H0 : Hp} (k : KTab K (ad K "RawTable")) (hw : w = t.wide) (e : Same H0 H) (hm : rhMat K H v t.rows) (q : Ret (rhTab K p) H0 Q t) :
    ∀ x dx, H x = none → H dx = none → dx ≠ x → sp_RawTable_init K (.ref x :: ([.int p, .int w, v] ++ [])) (upd (upd H dx (.own x)) x (.ins (ad K "RawTable") dx [])) (fun u H2 => u = .non ∧ Q (.ref x) H2) E0 := by
  intro x dx hx hdx hne
  obtain ⟨a, xs, rfl, h1, h2⟩ := hm
  have s1 : Same H (upd (upd H dx (.own x)) x (.ins (ad K "RawTable") dx [])) := fun b o z => by rw [upd_ne (ne_of_none z hx), upd_ne (ne_of_none z hdx)]; exact z
  refine ⟨x, dx, a, p, w, xs, rfl, upd_same, Same.tup s1 h1, fun H' bt hH => ⟨rfl, ?_⟩⟩
  have s2 : Same H H' := fun b o z => bt b o (ne_of_none z hx) (s1 b o z)
  refine q _ _ (Same.trans e s2) (tab_mk k hw (by rw [Paired.len h2]) hH ⟨a, xs, rfl, Same.tup s2 h1, Paired.keep immRow (Keep.of s2) h2⟩)
/-! led_on, columns_of, columns_table, raw_times -/
/-- numbers that a product may have on its left -/
def smallR (r : List Int) : Prop := ∀ x ∈ r, -(2 ^ 64) < x ∧ x < 2 ^ 64
theorem getD_mem {r : List Int} {i : Nat} (h : i < r.length) : r.getD i 0 ∈ r := by
  rw [List.getD_eq_getElem?_getD, List.getElem?_eq_getElem h]
  exact List.getElem_mem h
theorem okRow.small {p : Int} {n : Nat} {r : List Int} (h : okRow p n r) (hp : p ≤ 1000) : smallR r := fun x hx => ⟨by have := (h.2 x hx).1; omega, by have := (h.2 x hx).2; omega⟩
def sp_led_on (K : PySem.W.Frag) : Sp := fun vs H Q _ => ∃ (p : Int) (vt vc : V) (t : Tb) (c : List Int), vs = [vt, vc] ∧ rhTab K p H vt t ∧ rhRow K H vc c ∧ 0 < p ∧ t.rows.length ≤ 1000 ∧ c.length ≤ 1000 ∧ (∀ r ∈ t.rows, r.length = c.length ∧ smallR r) ∧ Ret (rhRow K) H Q (ledOn p t.rows c)
theorem pure_led_on (vs : List V) (H : Hp) (Q : VK) (E : XK) (h : sp_led_on K vs H Q E) : t_led_on K (Ed Q) (start n_led_on vs) H := by
  obtain ⟨p, vt, vc, t, c, rfl, ht, hc, hp, hz, hz2, hr, q⟩ := h
  obtain ⟨b, rfl, hb⟩ := hc.ex
  refine ⟨_, rfl, ?_⟩
  refine fd_rows ht fun vr hm => ?_
  obtain ⟨a, xs, rfl, h1, h2⟩ := hm
  refine ⟨a, rfl, ⟨_, h1⟩, fun D hD => ?_⟩
  have hlen := Paired.len h2
  refine lc_all (r := rhI) (walk_tup (xs := xs)) (ledOn p t.rows c) (by simp [ledOn, hlen]) (by omega) immI hD (fun H' e => Same.tup e h1) ?_ ?_
  · rintro i x v H0 H' Q' hv e ⟨rfl, hx⟩ k'
    obtain ⟨r, hr1, hr2⟩ := Paired.at h2 hx
    obtain ⟨ra, rfl, hra⟩ := (immRow _ _ _ _ (Keep.of e) hr2).ex
    have hmem : r ∈ t.rows := List.mem_of_getElem? hr1
    have ev : v = dot r c % p := by
      simp [ledOn, List.getElem?_map, hr1] at hv
      exact hv.symm
    refine ⟨rfl, _, rfl, _, rfl, ra, b, _, _, rfl, .inr ⟨hra, Same.tup e hb, fun D2 hD2 => ?_⟩⟩
    refine lc_all (r := rhI) (wk_zipT (n := r.length) (xs := r.map V.int) (ys := c.map V.int) (by simp) (by simp [(hr r hmem).1])) (List.zipWith (fun a b => a * b) r c) (by simp [(hr r hmem).1]) (by have := (hr r hmem).1; omega) immI hD2 (fun H' e' => ⟨Same.tup e' hra, Same.tup (Same.trans e e') hb⟩) ?_ ?_
    · rintro j z d H1 H' Q2 hd e1 ⟨tt, y1, y2, rfl, nt, rfl, g1, g2⟩ k2
      have g0 := upd_same (H := H1) (a := tt) (o := .tup [y1, y2])
      have hj : j < r.length := by
        have := (List.getElem?_eq_some_iff.mp g1).1
        simpa using this
      rw [row_at hj] at g1
      rw [row_at (by rw [← (hr r hmem).1]; exact hj)] at g2
      cases g1; cases g2
      refine g_pair g0 ⟨rfl, _, rfl, _, rfl, _, _, rfl, rfl, .inl ((hr r hmem).2 _ (getD_mem hj)), k2 _ _ (Same.upd nt) ?_⟩
      have hj2 : j < c.length := by rw [← (hr r hmem).1]; exact hj
      rw [List.getElem?_zipWith, List.getElem?_eq_getElem hj, List.getElem?_eq_getElem hj2] at hd
      simp at hd
      rw [← hd, List.getD_eq_getElem?_getD, List.getD_eq_getElem?_getD, List.getElem?_eq_getElem hj, List.getElem?_eq_getElem hj2]
      rfl
    · intro H' ys e1 f1 f2
      rw [ints_of f2] at f1
      refine ⟨D2, _, rfl, SqL.of f1, _, rfl, ?_⟩
      refine fd_prime (immTab _ _ _ _ (Keep.of (Same.trans e e1)) ht) ?_
      refine ⟨_, _, rfl, rfl, hp, k' _ _ e1 ?_⟩
      rw [ev]
      rfl
  · intro H' ys e f1 f2
    rw [ints_of f2] at f1
    exact ⟨D, _, rfl, .inl ⟨SqL.of f1, fun l hl => q _ _ (Same.trans e (Same.upd hl)) (rhRow.mk (SqT.of upd_same))⟩⟩
end
section
variable {K : PySem.W.Frag} {H : Hp} {Q : VK}
theorem wk_rng {n : Nat} : Walk (Itr 0 n) n (fun _ => True) (fun i H x H' => H' = H ∧ x = .int ((i : Nat) : Int)) :=
  ⟨fun _ _ hi _ => hi, fun _ _ => Nat.le_refl _, fun i H x H' _ _ y => ⟨y.1, by rw [y.2, Int.zero_add]⟩⟩
theorem wk_rngAt {lo n : Nat} : Walk (Itr lo n) n (fun _ => True) (fun i H x H' => H' = H ∧ x = .int ((lo + i : Nat) : Int)) :=
  ⟨fun _ _ hi _ => hi, fun _ _ => Nat.le_refl _, fun i H x H' _ _ y => ⟨y.1, by rw [y.2, Int.natCast_add]⟩⟩
theorem nat_eq (a b : Nat) : (if decide (V.int (a : Int) = V.int (b : Int)) = true then (1 : Int) else 0) = if a = b then 1 else 0 := by
  by_cases h : a = b
  · subst h; simp
  · rw [if_neg h, if_neg]
    simp only [decide_eq_true_eq, V.int.injEq]
    omega
theorem gets {α : Type} {f : Nat → α} {n i : Nat} {a : α} (h : ((List.range n).map f)[i]? = some a) : i < n ∧ a = f i := by
  rw [List.getElem?_map] at h
  by_cases hi : i < n
  · rw [List.getElem?_range hi] at h
    exact ⟨hi, (Option.some.inj h).symm⟩
  · rw [List.getElem?_eq_none (by simp; omega)] at h
    cases h
/-! columns_of, columns_table, raw_times -/
def sp_columns_of (K : PySem.W.Frag) : Sp := fun vs H Q _ => ∃ (p : Int) (vt : V) (t : Tb), vs = [vt] ∧ rhTab K p H vt t ∧ t.wide ≤ 1000 ∧ t.rows.length ≤ 1000 ∧ (∀ r ∈ t.rows, r.length = t.wide) ∧ Ret (rhMat K) H Q (colsOf t.wide t.rows)
theorem pure_columns_of (vs : List V) (H : Hp) (Q : VK) (E : XK) (h : sp_columns_of K vs H Q E) : t_columns_of K (Ed Q) (start n_columns_of vs) H := by
  obtain ⟨p, vt, t, rfl, ht, hw, hz, hr, q⟩ := h
  refine ⟨_, rfl, ?_⟩
  refine fd_wide ht ?_
  refine ⟨_, rfl, by omega, by omega, fun D hD => ?_⟩
  refine lc_all (r := rhRow K) (wk_rng (n := t.wide)) (colsOf t.wide t.rows) (by simp [colsOf]) (by omega) immRow hD (fun _ _ => trivial) ?_ ?_
  · rintro i x c H0 H' Q' hc e ⟨rfl, rfl⟩ k'
    obtain ⟨hi, ec⟩ := gets hc
    refine ⟨rfl, _, rfl, ?_⟩
    refine fd_rows (immTab _ _ _ _ (Keep.of e) ht) fun vr hm => ?_
    obtain ⟨a, xs, rfl, h1, h2⟩ := hm
    have hlen := Paired.len h2
    refine ⟨a, rfl, ⟨_, h1⟩, fun D2 hD2 => ?_⟩
    refine lc_all (r := rhI) (walk_tup (xs := xs)) c (by rw [ec]; simp [hlen]) (by omega) immI hD2 (fun H' e => Same.tup e h1) ?_ ?_
    · rintro j y d H1 H' Q2 hd e1 ⟨rfl, hy⟩ k2
      obtain ⟨r, hr1, hr2⟩ := Paired.at h2 hy
      have hmem : r ∈ t.rows := List.mem_of_getElem? hr1
      obtain ⟨b, ys, rfl, g1, g2⟩ := rhRow.at (immRow _ _ _ _ (Keep.of e1) hr2) (i := i) (by rw [hr r hmem]; exact hi)
      refine ⟨rfl, _, rfl, _, rfl, b, ys, _, _, rfl, rfl, g1, g2, k2 _ _ (Same.refl _) ?_⟩
      rw [ec, List.getElem?_map, hr1] at hd
      exact congrArg V.int (Option.some.inj hd)
    · intro H' ys e1 f1 f2
      rw [ints_of f2] at f1
      exact ⟨D2, _, rfl, .inl ⟨SqL.of f1, fun l hl => k' _ _ (Same.trans e1 (Same.upd hl)) (rhRow.mk (SqT.of upd_same))⟩⟩
  · intro H' ys e f1 f2
    exact ⟨D, _, rfl, .inl ⟨SqL.of f1, fun l hl => q _ _ (Same.trans e (Same.upd hl)) ⟨l, ys, rfl, SqT.of upd_same, Paired.keep immRow (Keep.of (Same.upd hl)) f2⟩⟩⟩
def sp_columns_table (K : PySem.W.Frag) : Sp := fun vs H Q _ => ∃ (p : Int) (high : Nat) (a : Addr) (xs : List V) (cs : List (List Int)), vs = [.int p, .int high, .ref a] ∧ SqL K H a xs ∧ Paired (rhRow K H) xs cs ∧ high ≤ 1000 ∧ cs.length ≤ 1000 ∧ (∀ c ∈ cs, c.length = high) ∧
  Ret (rhTab K p) H Q ⟨cs.length, colsOf high cs⟩
theorem pure_columns_table (kt : KTab K (ad K "RawTable")) (vs : List V) (H : Hp) (Q : VK) (E : XK) (h : sp_columns_table K vs H Q E) : t_columns_table K (sp_RawTable_init K) (Ed Q) (start n_columns_table vs) H := by
  obtain ⟨p, high, a, xs, cs, rfl, h1, h2, hw, hz, hr, q⟩ := h
  have hlen := Paired.len h2
  refine ⟨_, rfl, _, rfl, by omega, by omega, fun D hD => ?_⟩
  refine lc_all (r := rhRow K) (wk_rng (n := high)) (colsOf high cs) (by simp [colsOf]) (by omega) immRow hD (fun _ _ => trivial) ?_ ?_
  · rintro i x c H0 H' Q' hc e ⟨rfl, rfl⟩ k'
    obtain ⟨hi, ec⟩ := gets hc
    refine ⟨rfl, _, rfl, a, rfl, ⟨_, e.seq h1⟩, fun D2 hD2 => ?_⟩
    refine lc_all (r := rhI) (walk_list (xs := xs)) c (by rw [ec]; simp [hlen]) (by omega) immI hD2 (fun H' e' => (Same.trans e e').seq h1) ?_ ?_
    · rintro j y d H1 H' Q2 hd e1 ⟨rfl, hy⟩ k2
      obtain ⟨r, hr1, hr2⟩ := Paired.at h2 hy
      have hmem : r ∈ cs := List.mem_of_getElem? hr1
      obtain ⟨b, ys, rfl, g1, g2⟩ := rhRow.at (immRow _ _ _ _ (Keep.of (Same.trans e e1)) hr2) (i := i) (by rw [hr r hmem]; exact hi)
      refine ⟨rfl, _, rfl, _, rfl, b, ys, _, _, rfl, rfl, g1, g2, k2 _ _ (Same.refl _) ?_⟩
      rw [ec, List.getElem?_map, hr1] at hd
      exact congrArg V.int (Option.some.inj hd)
    · intro H' ys e1 f1 f2
      rw [ints_of f2] at f1
      exact ⟨D2, _, rfl, .inl ⟨SqL.of f1, fun l hl => k' _ _ (Same.trans e1 (Same.upd hl)) (rhRow.mk (SqT.of upd_same))⟩⟩
  · intro H' ys e f1 f2
    refine ⟨_, rfl, _, rfl, a, xs, rfl, .inl (e.seq h1), _, rfl, D, _, rfl, .inl ⟨SqL.of f1, fun l hl => ?_⟩⟩
    refine make_tab kt (by simp [hlen]) (Same.trans e (Same.upd hl)) ?_ q
    exact ⟨l, ys, rfl, SqT.of upd_same, Paired.keep immRow (Keep.of (Same.upd hl)) f2⟩
theorem colsOf_len (wide : Nat) (rows : List (List Int)) : (colsOf wide rows).length = wide ∧ ∀ c ∈ colsOf wide rows, c.length = rows.length := by
  refine ⟨by simp [colsOf], fun c hc => ?_⟩
  unfold colsOf at hc
  obtain ⟨a, _, rfl⟩ := List.mem_map.mp hc
  rw [List.length_map]
def sp_raw_times (K : PySem.W.Frag) : Sp := fun vs H Q _ => ∃ (p : Int) (v1 v2 : V) (s t : Tb), vs = [v1, v2] ∧ rhTab K p H v1 s ∧ rhTab K p H v2 t ∧ 0 < p ∧ s.rows.length ≤ 1000 ∧ t.rows.length ≤ 1000 ∧ t.wide ≤ 1000 ∧ (∀ r ∈ s.rows, r.length = t.rows.length ∧ smallR r) ∧ (∀ r ∈ t.rows, r.length = t.wide) ∧
  Ret (rhTab K p) H Q ⟨t.wide, timesR p s.rows t.wide t.rows⟩
theorem pure_raw_times (vs : List V) (H : Hp) (Q : VK) (E : XK) (h : sp_raw_times K vs H Q E) : t_raw_times K (sp_columns_of K) (sp_led_on K) (sp_columns_table K) (Ed Q) (start n_raw_times vs) H := by
  obtain ⟨p, v1, v2, s, t, rfl, hs, ht, hp, hz1, hz2, hw, hr, hr2, q⟩ := h
  refine ⟨_, rfl, ?_⟩
  refine fd_prime hs ?_
  refine ⟨_, rfl, ?_⟩
  refine fd_high hs ?_
  refine ⟨_, rfl, p, v2, t, rfl, ht, hw, hz2, hr2, fun vc H1 e1 hm => ?_⟩
  obtain ⟨a, xs, rfl, h1, h2⟩ := hm
  obtain ⟨cl1, cl2⟩ := colsOf_len t.wide t.rows
  have hlen := Paired.len h2
  refine ⟨a, rfl, ⟨_, h1⟩, fun D hD => ?_⟩
  refine lc_all (r := rhRow K) (walk_tup (xs := xs)) ((colsOf t.wide t.rows).map (ledOn p s.rows)) (by simp [hlen]) (by omega) immRow hD (fun H' e => Same.tup e h1) ?_ ?_
  · rintro i x c H0 H' Q' hc e ⟨rfl, hx⟩ k'
    obtain ⟨r, hr1, hr2⟩ := Paired.at h2 hx
    have hmem : r ∈ colsOf t.wide t.rows := List.mem_of_getElem? hr1
    have ec : ledOn p s.rows r = c := by
      rw [List.getElem?_map, hr1] at hc
      exact Option.some.inj hc
    refine ⟨rfl, _, rfl, _, rfl, p, v1, x, s, r, rfl, immTab _ _ _ _ (Keep.of (Same.trans e1 e)) hs, immRow _ _ _ _ (Keep.of e) hr2, hp, hz1, by rw [cl2 r hmem]; exact hz2, fun r' hr' => ⟨by rw [cl2 r hmem]; exact (hr r' hr').1, (hr r' hr').2⟩, fun v H4 e4 h4 => ?_⟩
    rw [ec] at h4
    exact k' v H4 e4 h4
  · intro H' ys e f1 f2
    refine ⟨p, s.rows.length, D, ys, _, rfl, SqL.of f1, f2, hz1, by simp [cl1]; exact hw, fun c hc => ?_, fun v H2 e2 h2 => q v H2 (Same.trans e1 (Same.trans e e2)) ?_⟩
    · obtain ⟨r, _, rfl⟩ := List.mem_map.mp hc
      simp [ledOn]
    · rw [List.length_map, cl1] at h2
      exact h2
/-! raw_plain, raw_nought -/
def sp_raw_plain (K : PySem.W.Frag) : Sp := fun vs H Q _ => ∃ (p : Int) (n : Nat), vs = [.int p, .int n] ∧ n ≤ 1000 ∧ Ret (rhTab K p) H Q ⟨n, plainR n⟩
theorem pure_raw_plain (kt : KTab K (ad K "RawTable")) (vs : List V) (H : Hp) (Q : VK) (E : XK) (h : sp_raw_plain K vs H Q E) : t_raw_plain K (sp_RawTable_init K) (Ed Q) (start n_raw_plain vs) H := by
  obtain ⟨p, n, rfl, hn, q⟩ := h
  refine ⟨_, rfl, _, rfl, _, rfl, _, rfl, by omega, by omega, fun D hD => ?_⟩
  refine lc_all (r := rhRow K) (wk_rng (n := n)) (plainR n) (by simp [plainR]) (by omega) immRow hD (fun _ _ => trivial) ?_ ?_
  · rintro i x c H0 H' Q' hc e ⟨rfl, rfl⟩ k'
    obtain ⟨hi, ec⟩ := gets hc
    refine ⟨rfl, _, rfl, _, rfl, by omega, by omega, fun D2 hD2 => ?_⟩
    refine lc_all (r := rhI) (wk_rng (n := n)) c (by rw [ec]; simp [unitR]) (by omega) immI hD2 (fun _ _ => trivial) ?_ ?_
    · rintro j y d H1 H' Q2 hd e1 ⟨rfl, rfl⟩ k2
      rw [ec] at hd
      obtain ⟨hj, ed⟩ := gets hd
      refine ⟨rfl, _, rfl, _, rfl, rfl, .inr ⟨_, rfl, k2 _ _ (Same.refl _) ?_⟩⟩
      rw [nat_eq, ed]
      rfl
    · intro H' ys e1 f1 f2
      rw [ints_of f2] at f1
      exact ⟨D2, _, rfl, .inl ⟨SqL.of f1, fun l hl => k' _ _ (Same.trans e1 (Same.upd hl)) (rhRow.mk (SqT.of upd_same))⟩⟩
  · intro H' ys e f1 f2
    refine ⟨D, _, rfl, .inl ⟨SqL.of f1, fun l hl => ?_⟩⟩
    exact make_tab kt rfl (Same.trans e (Same.upd hl)) ⟨l, ys, rfl, SqT.of upd_same, Paired.keep immRow (Keep.of (Same.upd hl)) f2⟩ q
theorem rep1 (n : Nat) (v : V) : (List.replicate n [v]).flatten = List.replicate n v := by
  induction n with
  | zero => rfl
  | succ n ih => rw [List.replicate_succ, List.flatten_cons, ih, List.replicate_succ]; rfl
/-- (0,) * n -/
theorem nils_of {t : Addr} {n : Nat} (ht : H t = some (.tup [.int 0])) (hn : n ≤ 1000) (q : ∀ v H', Same H H' → rhRow K H' v (nils n) → Q v H') : rRepA K (.ref t) (.int n) H Q := by
  refine ⟨t, n, [.int 0], rfl, rfl, SqT.of ht, by simp, by omega, by omega, by simp, fun p H' e h => q _ _ e ?_⟩
  rw [Int.toNat_natCast, rep1] at h
  exact rhRow.mk (by unfold nils; rw [List.map_replicate]; exact h)
def sp_raw_nought (K : PySem.W.Frag) : Sp := fun vs H Q _ => ∃ (p : Int) (h w : Nat), vs = [.int p, .int h, .int w] ∧ h ≤ 1000 ∧ w ≤ 1000 ∧ Ret (rhTab K p) H Q ⟨w, noughtR h w⟩
theorem pure_raw_nought (kt : KTab K (ad K "RawTable")) (vs : List V) (H : Hp) (Q : VK) (E : XK) (h : sp_raw_nought K vs H Q E) : t_raw_nought K (sp_RawTable_init K) (Ed Q) (start n_raw_nought vs) H := by
  obtain ⟨p, hi, w, rfl, hn, hw, q⟩ := h
  refine ⟨_, rfl, _, rfl, _, rfl, _, rfl, by omega, by omega, fun D hD => ?_⟩
  refine lc_all (r := rhRow K) (wk_rng (n := hi)) (noughtR hi w) (by simp [noughtR]) (by omega) immRow hD (fun _ _ => trivial) ?_ ?_
  · rintro i x c H0 H' Q' hc e ⟨rfl, rfl⟩ k'
    have ec : c = nils w := by
      unfold noughtR at hc
      rw [List.getElem?_replicate] at hc
      split at hc
      · exact (Option.some.inj hc).symm
      · cases hc
    refine ⟨rfl, (by show 1 ≤ sizeLine; decide), fun t ht => ⟨_, rfl, ?_⟩⟩
    refine nils_of upd_same hw fun v H1 e1 h1 => k' v H1 (Same.trans (Same.upd ht) e1) ?_
    rw [ec]
    exact h1
  · intro H' ys e f1 f2
    refine ⟨D, _, rfl, .inl ⟨SqL.of f1, fun l hl => ?_⟩⟩
    exact make_tab kt rfl (Same.trans e (Same.upd hl)) ⟨l, ys, rfl, SqT.of upd_same, Paired.keep immRow (Keep.of (Same.upd hl)) f2⟩ q
end
section
variable {K : PySem.W.Frag} {H : Hp} {Q : VK}
theorem row_of {r : List Int} {i : Nat} {x : V} (h : (r.map V.int)[i]? = some x) : ∃ c, r[i]? = some c ∧ x = .int c := by
  rw [List.getElem?_map] at h
  cases e : r[i]? with
  | none => rw [e] at h; cases h
  | some c => rw [e] at h; exact ⟨c, rfl, (Option.some.inj h).symm⟩
/-- x + y of two rows -/
theorem cat_of {a b : Addr} {r s : List Int} (h1 : SqT K H a (r.map V.int)) (h2 : SqT K H b (s.map V.int)) (hz : r.length + s.length ≤ 100000) (q : ∀ v H', Same H H' → rhRow K H' v (r ++ s) → Q v H') : rCatA K (.ref a) (.ref b) H Q := by
  refine ⟨a, b, _, _, rfl, rfl, h1, h2, by rw [List.length_map, List.length_map]; exact Nat.le_trans hz (by decide), fun e => q _ _ (Same.refl _) ?_, fun _ e => q _ _ (Same.refl _) ?_, fun _ _ p hp => q _ _ (Same.upd hp) ?_⟩
  · have : r = [] := by simpa using e
    subst this
    exact rhRow.mk h2
  · have : s = [] := by simpa using e
    subst this
    rw [List.append_nil]
    exact rhRow.mk h1
  · exact rhRow.mk (by rw [List.map_append]; exact SqT.of upd_same)
/-! raw_corner -/
def sp_raw_corner (K : PySem.W.Frag) : Sp := fun vs H Q _ => ∃ (p : Int) (v1 v2 : V) (s t : Tb), vs = [v1, v2] ∧ rhTab K p H v1 s ∧ rhTab K p H v2 t ∧ s.rows.length ≤ 1000 ∧ t.rows.length ≤ 1000 ∧ s.wide ≤ 1000 ∧ t.wide ≤ 1000 ∧ (∀ r ∈ s.rows, r.length ≤ 1000) ∧ (∀ r ∈ t.rows, r.length ≤ 1000) ∧
  Ret (rhTab K p) H Q (tbCorner s t)
theorem pure_raw_corner (kt : KTab K (ad K "RawTable")) (vs : List V) (H : Hp) (Q : VK) (E : XK) (h : sp_raw_corner K vs H Q E) : t_raw_corner K (sp_RawTable_init K) (Ed Q) (start n_raw_corner vs) H := by
  obtain ⟨p, v1, v2, s, t, rfl, hs, ht, z1, z2, w1, w2, r1, r2, q⟩ := h
  refine ⟨_, rfl, ?_⟩
  refine fd_rows hs fun vr hm => ?_
  obtain ⟨a, xs, rfl, h1, h2⟩ := hm
  have hlen := Paired.len h2
  refine ⟨a, rfl, ⟨_, h1⟩, fun D hD => ?_⟩
  refine lc_all (r := rhRow K) (walk_tup (xs := xs)) (s.rows.map fun r => r ++ nils t.wide) (by simp [hlen]) (by omega) immRow hD (fun H' e => Same.tup e h1) ?_ ?_
  · rintro i x c H0 H' Q' hc e ⟨rfl, hx⟩ k'
    obtain ⟨r, hr1, hr2⟩ := Paired.at h2 hx
    have hmem : r ∈ s.rows := List.mem_of_getElem? hr1
    obtain ⟨b, rfl, hb⟩ := (immRow _ _ _ _ (Keep.of e) hr2).ex
    have ec : r ++ nils t.wide = c := by
      rw [List.getElem?_map, hr1] at hc
      exact Option.some.inj hc
    refine ⟨rfl, _, rfl, (by show 1 ≤ sizeLine; decide), fun u hu => ⟨_, rfl, ?_⟩⟩
    refine fd_wide (immTab _ _ _ _ (Keep.of (Same.trans e (Same.upd hu))) ht) ?_
    refine nils_of upd_same w2 fun v H1 e1 g1 => ?_
    obtain ⟨d, rfl, hd⟩ := g1.ex
    refine cat_of (Same.tup (Same.trans (Same.upd hu) e1) hb) hd (by have := r1 r hmem; simp [nils]; omega) fun v H2 e2 g2 => k' v H2 (Same.trans (Same.trans (Same.upd hu) e1) e2) ?_
    rw [← ec]
    exact g2
  · intro H1 ys e f1 f2
    refine ⟨_, rfl, ?_⟩
    refine fd_rows (immTab _ _ _ _ (Keep.of e) ht) fun vr hm => ?_
    obtain ⟨a2, xs2, rfl, h3, h4⟩ := hm
    have hlen2 := Paired.len h4
    refine ⟨a2, rfl, ⟨_, h3⟩, fun D2 hD2 => ?_⟩
    refine lc_all (r := rhRow K) (walk_tup (xs := xs2)) (t.rows.map fun r => nils s.wide ++ r) (by simp [hlen2]) (by omega) immRow hD2 (fun H' e => Same.tup e h3) ?_ ?_
    · rintro i x c H0 H' Q' hc e2 ⟨rfl, hx⟩ k'
      obtain ⟨r, hr1, hr2⟩ := Paired.at h4 hx
      have hmem : r ∈ t.rows := List.mem_of_getElem? hr1
      obtain ⟨b, rfl, hb⟩ := (immRow _ _ _ _ (Keep.of e2) hr2).ex
      have ec : nils s.wide ++ r = c := by
        rw [List.getElem?_map, hr1] at hc
        exact Option.some.inj hc
      refine ⟨rfl, (by show 1 ≤ sizeLine; decide), fun u hu => ⟨_, rfl, ?_⟩⟩
      refine fd_wide (immTab _ _ _ _ (Keep.of (Same.trans e (Same.trans e2 (Same.upd hu)))) hs) ?_
      refine nils_of upd_same w1 fun v H1 e1 g1 => ?_
      obtain ⟨d, rfl, hd⟩ := g1.ex
      refine ⟨_, rfl, cat_of hd (Same.tup (Same.trans (Same.upd hu) e1) hb) (by have := r2 r hmem; simp [nils]; omega) fun v H2 e3 g2 => k' v H2 (Same.trans (Same.trans (Same.upd hu) e1) e3) ?_⟩
      rw [← ec]
      exact g2
    · intro H2 ys2 e2 f3 f4
      have l1 := Paired.len f2
      have l2 := Paired.len f4
      rw [List.length_map] at l1 l2
      refine ⟨D, D2, ys, ys2, rfl, rfl, e2 _ _ f1, f3, Nat.le_trans (by omega : _ ≤ 100000) (by decide), fun l hl => ?_⟩
      have el := Same.upd (o := .lst (ys ++ ys2)) hl
      refine ⟨_, rfl, ?_⟩
      refine fd_prime (immTab _ _ _ _ (Keep.of (Same.trans e (Same.trans e2 el))) hs) ?_
      refine ⟨_, rfl, ?_⟩
      refine fd_wide (immTab _ _ _ _ (Keep.of (Same.trans e (Same.trans e2 el))) hs) ?_
      refine ⟨_, rfl, ?_⟩
      refine fd_wide (immTab _ _ _ _ (Keep.of (Same.trans e (Same.trans e2 el))) ht) ?_
      refine ⟨_, _, rfl, rfl, _, rfl, l, _, rfl, .inl ⟨SqL.of upd_same, fun u hu => ?_⟩⟩
      have eu := Same.upd (o := .tup (ys ++ ys2)) hu
      refine make_tab kt (by show _ = ((s.wide + t.wide : Nat) : Int); omega) (Same.trans e (Same.trans e2 (Same.trans el eu))) ⟨u, _, rfl, SqT.of upd_same, ?_⟩ q
      exact Paired.app (Paired.keep immRow (Keep.of (Same.trans e2 (Same.trans el eu))) f2) (Paired.keep immRow (Keep.of (Same.trans el eu)) f4)
/-! cleared -/
def sp_cleared (K : PySem.W.Frag) : Sp := fun vs H Q _ => ∃ (p : Int) (a : Addr) (xs : List V) (m : List (List Int)) (place : Nat) (v : V) (r : List Int), vs = [.int p, .ref a, .int place, v] ∧ SqL K H a xs ∧ Paired (rhRow K H) xs m ∧ rhRow K H v r ∧ 0 < p ∧ m.length ≤ 1000 ∧ place < r.length ∧ r.length ≤ 1000 ∧
  (∀ s ∈ m, s.length = r.length ∧ smallR s) ∧ ∀ D H' ys, H D = none → Same H H' → H' D = some (.lst ys) → Paired (rhRow K H') ys (cleared p m place r) → Q (.ref D) H'
theorem pure_cleared (vs : List V) (H : Hp) (Q : VK) (E : XK) (h : sp_cleared K vs H Q E) : t_cleared K (sp_less K) (Ed Q) (start n_cleared vs) H := by
  obtain ⟨p, a, xs, m, place, v, r, rfl, h1, h2, hv, hp, hz, hpl, hrz, hm, q⟩ := h
  have hlen := Paired.len h2
  refine ⟨_, rfl, a, rfl, ⟨_, h1⟩, fun D hD => ?_⟩
  refine lc_all (r := rhRow K) (walk_list (xs := xs)) (cleared p m place r) (by simp [cleared, hlen]) (by omega) immRow hD (fun H' e => e.seq h1) ?_ ?_
  · rintro i x c H0 H' Q' hc e ⟨rfl, hx⟩ k'
    obtain ⟨s, hs1, hs2⟩ := Paired.at h2 hx
    have hmem : s ∈ m := List.mem_of_getElem? hs1
    have hs3 := immRow _ _ _ _ (Keep.of e) hs2
    obtain ⟨b, zs, rfl, g1, g2⟩ := rhRow.at hs3 (i := place) (by rw [(hm s hmem).1]; exact hpl)
    have ec : (if s.getD place 0 ≠ 0 then less p s (s.getD place 0) r else s) = c := by
      rw [cleared, List.getElem?_map, hs1] at hc
      exact Option.some.inj hc
    refine ⟨rfl, _, rfl, _, rfl, b, zs, _, _, rfl, rfl, g1, g2, rfl, _, rfl, ?_⟩
    by_cases h0 : s.getD place 0 = 0
    · rw [h0] at ec ⊢
      refine ite_f ⟨_, rfl, k' _ _ (Same.refl _) ?_⟩
      rw [← ec, if_neg (by simp)]
      exact hs3
    · rw [show (!decide (V.int (s.getD place 0) = V.int 0)) = true by simp; exact h0]
      refine ite_t ⟨_, rfl, _, rfl, _, rfl, _, rfl, b, zs, _, _, rfl, rfl, g1, g2, _, rfl, p, _, _, v, s, r, rfl, hs3, immRow _ _ _ _ (Keep.of e) hv, (hm s hmem).1, by rw [(hm s hmem).1]; exact hrz, hp, (hm s hmem).2 _ (getD_mem (by rw [(hm s hmem).1]; exact hpl)), fun u H4 e4 h4 => k' u H4 e4 ?_⟩
      rw [← ec, if_pos h0]
      exact h4
  · intro H' ys e f1 f2
    exact q D H' ys hD e f1 f2
end
/-! ### reduced_rows -/
theorem seqIx {k n : Nat} (h : k < n) : seqIndex? (k : Int) n = some k := by
  unfold seqIndex?
  simp
  omega
theorem fa_some {place : Nat} {rows : List (List Int)} {k : Nat} (h : firstAt place rows = some k) : k < rows.length ∧ (rows.getD k []).getD place 0 ≠ 0 ∧ ∀ j, j < k → (rows.getD j []).getD place 0 = 0 := by
  unfold firstAt at h
  rw [List.findIdx?_eq_some_iff_getElem] at h
  obtain ⟨h1, h2, h3⟩ := h
  refine ⟨h1, ?_, fun j hj => ?_⟩
  · rw [List.getD_eq_getElem?_getD (l := rows), List.getElem?_eq_getElem h1]
    exact of_decide_eq_true h2
  · have := h3 j hj
    rw [List.getD_eq_getElem?_getD (l := rows), List.getElem?_eq_getElem (by omega)]
    simpa using this
theorem fa_none {place : Nat} {rows : List (List Int)} (h : firstAt place rows = none) : ∀ j, (rows.getD j []).getD place 0 = 0 := by
  intro j
  unfold firstAt at h
  rw [List.findIdx?_eq_none_iff] at h
  by_cases hj : j < rows.length
  · rw [List.getD_eq_getElem?_getD (l := rows), List.getElem?_eq_getElem hj]
    have := h _ (List.getElem_mem hj)
    simpa using this
  · rw [List.getD_eq_getElem?_getD (l := rows), List.getElem?_eq_none (by omega)]
    simp
/-- which rows are not 0 at a place -/
def nzs (place : Nat) (rows : List (List Int)) : List Nat := (List.range rows.length).filterMap fun i => if (rows.getD i []).getD place 0 ≠ 0 then some i else none
theorem nzs_none {place : Nat} {rows : List (List Int)} (h : firstAt place rows = none) : nzs place rows = [] := by
  unfold nzs
  rw [List.filterMap_eq_nil_iff]
  intro i _
  rw [if_neg (fun z => z (fa_none h i))]
theorem filterMap_head {f : Nat → Option Nat} {k : Nat} (hk : f k = some k) (hj : ∀ j, j < k → f j = none) : ∀ n, k < n → ∃ t, (List.range n).filterMap f = k :: t := by
  intro n hn
  have e : List.range n = List.range k ++ (List.range (n - k)).map (k + ·) := by
    rw [← List.range_add]
    congr 1
    omega
  rw [e, List.filterMap_append, List.filterMap_eq_nil_iff.mpr (fun j h => hj j (List.mem_range.mp h)), List.nil_append]
  obtain ⟨m, hm⟩ : ∃ m, n - k = m + 1 := ⟨n - k - 1, by omega⟩
  rw [hm, List.range_succ_eq_map, List.map_cons, List.filterMap_cons]
  rw [show k + 0 = k from rfl, hk]
  exact ⟨_, rfl⟩
theorem nzs_some {place : Nat} {rows : List (List Int)} {k : Nat} (h : firstAt place rows = some k) : ∃ t, nzs place rows = k :: t := by
  obtain ⟨h1, h2, h3⟩ := fa_some h
  exact filterMap_head (by rw [if_pos h2]) (fun j hj => if_neg fun z => z (h3 j hj)) _ h1
theorem okRow_less {p : Int} (hp : 0 < p) {n : Nat} {r s : List Int} {c : Int} (h1 : r.length = n) (h2 : s.length = n) : okRow p n (less p r c s) := by
  refine ⟨by simp [less, h1, h2], fun x hx => ?_⟩
  unfold less at hx
  rw [List.zipWith_eq_zipWith_take_min] at hx
  obtain ⟨i, hi, rfl⟩ := List.getElem_of_mem hx
  rw [List.getElem_zipWith]
  exact ⟨Int.emod_nonneg _ (by omega), Int.emod_lt_of_pos _ hp⟩
theorem okMat_cleared {p : Int} (hp : 0 < p) {n place : Nat} {m : List (List Int)} {r : List Int} (h : okMat p n m) (hr : r.length = n) : okMat p n (cleared p m place r) := by
  intro s hs
  unfold cleared at hs
  obtain ⟨o, ho, rfl⟩ := List.mem_map.mp hs
  split
  · exact okRow_less hp (h o ho).1 hr
  · exact h o ho
theorem okRow_scale {p : Int} (hp : 0 < p) {n : Nat} {r : List Int} {c : Int} (h : r.length = n) : okRow p n (r.map fun w => w * c % p) := by
  refine ⟨by simp [h], fun x hx => ?_⟩
  obtain ⟨w, _, rfl⟩ := List.mem_map.mp hx
  exact ⟨Int.emod_nonneg _ (by omega), Int.emod_lt_of_pos _ hp⟩
theorem mem_getD {α : Type} {l : List α} {k : Nat} {d : α} (h : k < l.length) : l.getD k d ∈ l := by
  rw [List.getD_eq_getElem?_getD, List.getElem?_eq_getElem h]
  exact List.getElem_mem h
theorem redStep_none {p : Int} {s : Rs} {n : Nat} (h : firstAt n s.left = none) : redStep p s n = s := by
  unfold redStep
  rw [h]
/-- the row that is taken, times the inverse of its worth there -/
def takenRow (p : Int) (s : Rs) (k n : Nat) : List Int := (s.left.getD k []).map fun w => w * invOf p ((s.left.getD k []).getD n 0) % p
theorem redStep_some {p : Int} {s : Rs} {n k : Nat} (h : firstAt n s.left = some k) : redStep p s n = ⟨cleared p (s.left.eraseIdx k) n (takenRow p s k n), cleared p s.found n (takenRow p s k n) ++ [takenRow p s k n], s.places ++ [n]⟩ := by
  unfold redStep
  rw [h]
  rfl
/-- what stays true of the reduction's state -/
structure RsOk (p : Int) (wide n : Nat) (rows : List (List Int)) (s : Rs) : Prop where
  left : okMat p wide s.left
  found : okMat p wide s.found
  len : s.left.length + s.found.length = rows.length
  pl : s.places.length = s.found.length
  lt : ∀ q ∈ s.places, q < n
theorem redStep_ok {p : Int} (hp : 0 < p) {wide n : Nat} {rows : List (List Int)} {s : Rs} (h : RsOk p wide n rows s) : RsOk p wide (n + 1) rows (redStep p s n) := by
  unfold redStep
  cases e : firstAt n s.left with
  | none => exact ⟨h.left, h.found, h.len, h.pl, fun q hq => Nat.lt_succ_of_lt (h.lt q hq)⟩
  | some k =>
    obtain ⟨h1, _, _⟩ := fa_some e
    have hr : (s.left.getD k []).length = wide := (h.left _ (mem_getD h1)).1
    have ok := okRow_scale (c := invOf p ((s.left.getD k []).getD n 0)) hp hr
    refine ⟨okMat_cleared hp (fun r hr => h.left r (List.mem_of_mem_eraseIdx hr)) ok.1, fun r hr => ?_, ?_, ?_, fun q hq => ?_⟩
    · rcases List.mem_append.mp hr with hr | hr
      · exact okMat_cleared hp h.found ok.1 r hr
      · rw [List.mem_singleton.mp hr]
        exact ok
    · have := h.len
      simp only [cleared, List.length_map, List.length_append, List.length_eraseIdx, if_pos h1, List.length_singleton]
      omega
    · simp [cleared, h.pl]
    · rcases List.mem_append.mp hq with hq | hq
      · exact Nat.lt_succ_of_lt (h.lt q hq)
      · rw [List.mem_singleton.mp hq]
        exact Nat.lt_succ_self n
theorem redTo_succ (p : Int) (rows : List (List Int)) (n : Nat) : redTo p rows (n + 1) = redStep p (redTo p rows n) n := by
  unfold redTo
  rw [List.range_succ, List.foldl_append]
  rfl
theorem redTo_ok {p : Int} (hp : 0 < p) {wide : Nat} {rows : List (List Int)} (h : okMat p wide rows) : ∀ n, RsOk p wide n rows (redTo p rows n)
  | 0 => ⟨h, fun _ hr => (nomatch hr), Nat.add_zero _, rfl, fun _ hq => (nomatch hq)⟩
  | n + 1 => by
    rw [redTo_succ]
    exact redStep_ok hp (redTo_ok hp h n)
section
variable {K : PySem.W.Frag} {H : Hp} {Q : VK}
def SqA (K : PySem.W.Frag) (H : Hp) (a : Addr) (xs : List V) : Prop := SqL K H a xs ∨ SqT K H a xs
def sp_reduced_rows (K : PySem.W.Frag) : Sp := fun vs H Q _ => ∃ (p : Int) (wide : Nat) (a : Addr) (xs : List V) (m : List (List Int)), vs = [.int p, .int wide, .ref a] ∧ SqA K H a xs ∧ Paired (rhRow K H) xs m ∧ 0 < p ∧ p ≤ 1000 ∧ wide ≤ 1000 ∧ m.length ≤ 1000 ∧ okMat p wide m ∧
  ∀ t v1 v2 H', Same H H' → H' t = some (.tup [v1, v2]) → rhMat K H' v1 (redRows p wide m) → rhT K rhN H' v2 (redPlaces p wide m) → Q (.ref t) H'
/-- between two places -/
structure RedIv (K : PySem.W.Frag) (H : Hp) (S : Rs) (aL aF aP : Addr) (ys zs : List V) (H' : Hp) : Prop where
  e : Same H H'
  nL : H aL = none
  nF : H aF = none
  nP : H aP = none
  hL : H' aL = some (.lst ys)
  hF : H' aF = some (.lst zs)
  hP : H' aP = some (.lst (S.places.map fun n : Nat => V.int (n : Int)))
  pL : Paired (rhRow K H') ys S.left
  pF : Paired (rhRow K H') zs S.found
  dLP : aL ≠ aP
  dFP : aF ≠ aP
  dLF : aL ≠ aF
theorem pure_reduced_rows (vs : List V) (H : Hp) (Q : VK) (E : XK) (h : sp_reduced_rows K vs H Q E) : t_reduced_rows K sp_inverse_of (sp_cleared K) (Ed Q) (start n_reduced_rows vs) H := by
  obtain ⟨p, wide, a, xs, m, rfl, h1, h2, hp, hp2, hw, hz, hm, q⟩ := h
  have hlen := Paired.len h2
  -- left = [tuple(row) for row in rows]
  have start_ : ∀ (J : It) (G : Hp → Prop), Walk J xs.length G (YAt xs) → (∀ H', Same H H' → G H') → ∀ (D : Addr) (Qd : Hp → Prop), H D = none →
      (∀ H' ys, Same H H' → H' D = some (.lst ys) → Paired (rhRow K H') ys m → Qd H') →
      ∃ W : Nat → Nat → Hp → Prop, (∃ m, W 0 m (upd H D (.lst []))) ∧ ∀ i m H1, W i m H1 →
      (J.stop i H1 ∧ Qd H1) ∨ (J.go i H1 ∧ ∃ Nx : Hp → Prop, (∀ H', Nx H' → ∃ m', m' < m ∧ W (i + 1) m' H') ∧ ∀ x H', J.yld i H1 x H' → gName 8 x (wipe (start n_reduced_rows [.int p, .int wide, .ref a]) [8]) H' fun σ2 H2 => wipe σ2 [8] = wipe (start n_reduced_rows [.int p, .int wide, .ref a]) [8] ∧ tYes σ2 H2 fun b H3 =>
        if b = true then (tCB (rTupOf K) (tCons (tVar 8) tNil)) σ2 H3 fun y H4 => ∃ acc, H4 D = some (.lst acc) ∧ acc.length < sizeLine ∧ Nx (upd H4 D (.lst (acc ++ [y]))) else Nx H3) := by
    intro J G w hG D Qd hD hd
    refine lc_all (r := rhRow K) w m hlen.symm (by omega) immRow hD hG ?_ hd
    rintro i x c H0 H' Q' hc e ⟨rfl, hx⟩ k'
    obtain ⟨r, hr1, hr2⟩ := Paired.at h2 hx
    have ec : r = c := Option.some.inj (hr1.symm.trans hc)
    subst ec
    have hr3 := immRow _ _ _ _ (Keep.of e) hr2
    obtain ⟨b, rfl, hb⟩ := hr3.ex
    exact ⟨rfl, _, rfl, b, _, rfl, .inr ⟨hb, k' _ _ (Same.refl _) hr3⟩⟩
  -- all that stands behind
  have rest : ∀ (D : Addr) (H1 : Hp) (ys : List V), H D = none → Same H H1 → H1 D = some (.lst ys) → Paired (rhRow K H1) ys m →
      tSeq (tPar 4 5 (tCons (tLst tNil) (tCons (tLst tNil) tNil))) (tSeq (tFor (iRng1 (tCons (tVar 1) tNil)) (gName 6) (tSeq (tAsg (tLc (iRng1 (tCons (tCB (rLenS K) (tCons (tVar 3) tNil)) tNil)) (gName 9) (tTest (tOp rNe (tOp (rIxT K) (tOp (rIxL K) (tVar 3) (tVar 9)) (tVar 6)) (tC (.int 0)))) (tVar 9) [9]) (gName 7))
  (tIfS (tTest (tOp rGtI (tCB (rLenS K) (tCons (tVar 7) tNil)) (tC (.int 0)))) (tSeq (tAsg (tBM K "list" rPopAt (tVar 3) (tCons (tOp (rIxL K) (tVar 7) (tC (.int 0))) tNil)) (gName 8))
  (tSeq (tAsg (tCB (rTupOf K) (tCons (tLc (iTup K (tVar 8)) (gName 10) tYes (tOp rModI (tOp rMulI (tVar 10) (tCall sp_inverse_of [] E0 (tCons (tVar 0) (tCons (tOp (rIxT K) (tVar 8) (tVar 6)) tNil)))) (tVar 0)) [10]) tNil)) (gName 8))
  (tSeq (tAsg (tCall (sp_cleared K) [] E0 (tCons (tVar 0) (tCons (tVar 3) (tCons (tVar 6) (tCons (tVar 8) tNil))))) (gName 3))
  (tSeq (tAsg (tOp rCat (tCall (sp_cleared K) [] E0 (tCons (tVar 0) (tCons (tVar 4) (tCons (tVar 6) (tCons (tVar 8) tNil))))) (tLst (tCons (tVar 8) tNil))) (gName 4))
  (tDrop (tBM K "list" rAppend (tVar 5) (tCons (tVar 6) tNil))))))) tNext)))
  (tRet (tTup (tCons (tCB (rTupOf K) (tCons (tVar 4) tNil)) (tCons (tCB (rTupOf K) (tCons (tVar 5) tNil)) tNil))))) (Ed Q) ((start n_reduced_rows [.int p, .int wide, .ref a]).set 3 (some (.ref D))) H1 := by
    intro D H1 ys nD e1 hD hys
    refine ⟨Nat.zero_le _, fun aF nF => ⟨Nat.zero_le _, fun aP nP => ⟨_, _, rfl, ?_⟩⟩⟩
    have dFP : aF ≠ aP := fun z => by
      rw [← z, upd_same] at nP
      cases nP
    have nP1 : H1 aP = none := by
      rw [upd_ne (Ne.symm dFP)] at nP
      exact nP
    have nF0 : H aF = none := by
      cases z : H aF with
      | none => rfl
      | some o => rw [e1 _ _ z] at nF; cases nF
    have nP0 : H aP = none := by
      cases z : H aP with
      | none => rfl
      | some o => rw [e1 _ _ z] at nP1; cases nP1
    have s2 : Same H1 (upd (upd H1 aF (.lst [])) aP (.lst [])) := Same.trans (Same.upd nF) (Same.upd nP)
    refine ⟨_, rfl, wide, rfl, by omega, by omega, ?_⟩
    refine for_it (wk_rng (n := wide)) (fun i σ H' => ∃ (aL aF aP : Addr) (ys zs : List V) (v6 v7 v8 : Option V), σ = [some (.int p), some (.int wide), some (.ref a), some (.ref aL), some (.ref aF), some (.ref aP), v6, v7, v8, none, none] ∧ RedIv K H (redTo p m i) aL aF aP ys zs H')
      ⟨D, aF, aP, ys, [], none, none, none, rfl, ⟨Same.trans e1 s2, nD, nF0, nP0, s2 _ _ hD, by rw [upd_ne dFP, upd_same], upd_same, Paired.keep immRow (Keep.of s2) hys, .nil, fun z => (by rw [z, nP1] at hD; cases hD), dFP, fun z => (by rw [z, nF] at hD; cases hD)⟩⟩ (fun _ _ _ _ _ => trivial) ?_ ?_
    · rintro i x σ H0 H' hi ⟨aL, aF, aP, ys, zs, v6, v7, v8, rfl, iv⟩ ⟨rfl, rfl⟩
      have ok := redTo_ok hp hm i
      have hL := Paired.len iv.pL
      have hF := Paired.len iv.pF
      have hll := ok.len
      generalize eS : redTo p m i = S at ok iv hL hF hll
      -- some = [at for at in range(len(left)) if left[at][place] != 0]
      refine ⟨_, rfl, aL, ys, rfl, .inl (SqL.of iv.hL), _, rfl, by omega, by omega, fun D2 hD2 => ?_⟩
      refine lc_opt (r := rhN) (wk_rng (n := ys.length)) (fun j => if (S.left.getD j []).getD i 0 ≠ 0 then some j else none) (by omega) immN hD2 (fun _ _ => trivial) ?_ ?_
      · rintro j x H1 H2 KY KN hj e1 ⟨rfl, rfl⟩ ky kn
        obtain ⟨r, hr1, hr2⟩ := Paired.at iv.pL (x := ys[j]) (i := j) (by simp [hj])
        have hmem : r ∈ S.left := List.mem_of_getElem? hr1
        have er : S.left.getD j [] = r := by rw [List.getD_eq_getElem?_getD, hr1]; rfl
        obtain ⟨b, us, eb, g1, g2⟩ := rhRow.at (immRow _ _ _ _ (Keep.of e1) hr2) (i := i) (by rw [(ok.left r hmem).1]; exact hi)
        refine ⟨rfl, _, rfl, _, rfl, aL, ys, _, _, rfl, rfl, SqL.of (e1 _ _ iv.hL), atI_nat (by simp [hj] : ys[j]? = some ys[j]), _, rfl, b, us, _, _, eb, rfl, g1, g2, rfl, _, rfl, ?_⟩
        rw [er] at ky kn
        by_cases h0 : r.getD i 0 = 0
        · rw [h0]
          exact ite_f (kn (if_neg fun z => z h0) _ (Same.refl _))
        · rw [show (!decide (V.int (r.getD i 0) = V.int 0)) = true by simp; exact h0]
          exact ite_t ⟨_, rfl, ky j _ _ (if_pos h0) (Same.refl _) rfl⟩
      · intro H1 ws e1 f1 f2
        rw [hL] at f2
        have f3 : ws = (nzs i S.left).map fun n : Nat => V.int (n : Int) := by
          have := nats_of f2
          rw [List.map_map] at this
          exact this
        subst f3
        have iv1L := e1 _ _ iv.hL
        have iv1F := e1 _ _ iv.hF
        have iv1P := e1 _ _ iv.hP
        refine ⟨_, rfl, D2, _, rfl, .inl (SqL.of f1), _, _, rfl, rfl, _, rfl, ?_⟩
        have eN : redTo p m (i + 1) = redStep p S i := by rw [redTo_succ, eS]
        cases hf : firstAt i S.left with
        | none =>
          rw [nzs_none hf]
          rw [redStep_none hf] at eN
          refine ite_f ⟨aL, aF, aP, ys, zs, _, _, _, rfl, ?_⟩
          rw [eN]
          exact ⟨Same.trans iv.e e1, iv.nL, iv.nF, iv.nP, iv1L, iv1F, iv1P, Paired.keep immRow (Keep.of e1) iv.pL, Paired.keep immRow (Keep.of e1) iv.pF, iv.dLP, iv.dFP, iv.dLF⟩
        | some k =>
          obtain ⟨k1, k2, k3⟩ := fa_some hf
          obtain ⟨tl, etl⟩ := nzs_some hf
          rw [etl] at f1 ⊢
          rw [show decide ((0 : Int) < (((k :: tl).map fun n : Nat => V.int (n : Int)).length : Int)) = true from decide_eq_true (by rw [List.length_map, List.length_cons]; omega)]
          have hk : S.left[k]? = some (S.left.getD k []) := by rw [List.getD_eq_getElem?_getD, List.getElem?_eq_getElem k1]; rfl
          obtain ⟨y, hy, ry⟩ := Paired.to iv.pL hk
          obtain ⟨b, rfl, hb⟩ := ry.ex
          have okk := ok.left _ (mem_getD (d := []) k1)
          have okt := okRow_scale (c := invOf p ((S.left.getD k []).getD i 0)) hp okk.1
          refine ite_t ⟨_, rfl, .inl ⟨rfl, _, SqL.of iv1L⟩, _, rfl, D2, _, 0, .int k, rfl, rfl, SqL.of f1, (atI_nat (j := 0) rfl), aL, ys, k, k, .ref b, rfl, rfl, iv1L, by omega, by omega, seqIx (by omega), hy, ?_⟩
          have eH1 := Same.trans iv.e e1
          have m2 : Same H (upd H1 aL (.lst (ys.eraseIdx k))) := Same.mut eH1 iv.nL
          have kp2 : Keep H1 (upd H1 aL (.lst (ys.eraseIdx k))) := Keep.putL (Keep.refl _) iv1L
          have iv2F : upd H1 aL (.lst (ys.eraseIdx k)) aP = some (.lst (S.places.map fun n : Nat => V.int (n : Int))) := by rw [upd_ne (Ne.symm iv.dLP)]; exact iv1P
          have hb2 := Keep.tup kp2 (Keep.tup (Keep.of e1) hb)
          have pL2 := Paired.keep immRow kp2 (Paired.keep immRow (Keep.of e1) (Paired.erase k iv.pL))
          have pF2 := Paired.keep immRow kp2 (Paired.keep immRow (Keep.of e1) iv.pF)
          have hL2 : upd H1 aL (.lst (ys.eraseIdx k)) aL = some (.lst (ys.eraseIdx k)) := upd_same
          have hF2 : upd H1 aL (.lst (ys.eraseIdx k)) aF = some (.lst zs) := by rw [upd_ne (Ne.symm iv.dLF)]; exact iv1F
          generalize upd H1 aL (.lst (ys.eraseIdx k)) = H2 at m2 kp2 iv2F hb2 pL2 pF2 hL2 hF2 ⊢
          -- row = tuple([worth * inverse_of(prime, row[place]) % prime for worth in row])
          have hz0 : (S.left.getD k []).length = wide := okk.1
          refine ⟨_, rfl, b, rfl, ⟨_, hb2⟩, fun D3 hD3 => ?_⟩
          refine lc_all (r := rhI) (walk_tup (xs := (S.left.getD k []).map V.int)) (takenRow p S k i) (by simp [takenRow]) (by rw [List.length_map]; omega) immI hD3 (fun H' e => Same.tup e hb2) ?_ ?_
          · rintro j x c H3 H4 Q' hc e3 ⟨rfl, hx⟩ k'
            obtain ⟨w, hw1, rfl⟩ := row_of hx
            have hb3 := Same.tup e3 hb2
            have ww := okk.2 w (List.mem_of_getElem? hw1)
            refine ⟨rfl, _, rfl, _, rfl, _, rfl, _, rfl, b, _, _, _, rfl, rfl, hb3, atI_nat (row_at (by rw [hz0]; exact hi)), p, _, rfl, hp, hp2, _, _, rfl, rfl, .inl ⟨by omega, by omega⟩, _, rfl, _, _, rfl, rfl, hp, k' _ _ (Same.refl _) ?_⟩
            rw [takenRow, List.getElem?_map, hw1] at hc
            exact congrArg V.int (Option.some.inj hc)
          · intro H3 us e3 g1 g2
            rw [ints_of g2] at g1
            refine ⟨D3, _, rfl, .inl ⟨SqL.of g1, fun l hl => ?_⟩⟩
            have e4 : Same H2 (upd H3 l (.tup ((takenRow p S k i).map V.int))) := Same.trans e3 (Same.upd hl)
            have hl4 : rhRow K (upd H3 l (.tup ((takenRow p S k i).map V.int))) (.ref l) (takenRow p S k i) := rhRow.mk (SqT.of upd_same)
            generalize upd H3 l (.tup ((takenRow p S k i).map V.int)) = H4 at e4 hl4 ⊢
            have tl1 : (takenRow p S k i).length = wide := okt.1
            -- left = cleared(prime, left, place, row)
            refine ⟨_, rfl, _, rfl, _, rfl, _, rfl, p, aL, ys.eraseIdx k, S.left.eraseIdx k, i, .ref l, takenRow p S k i, rfl, SqL.of (e4 _ _ hL2), Paired.keep immRow (Keep.of e4) pL2, hl4, hp, ?_, by rw [tl1]; exact hi, by rw [tl1]; exact hw, fun r hr => ?_, fun D5 H5 ls nD5 e5 h5 p5 => ?_⟩
            · have := List.length_eraseIdx_le S.left k
              omega
            · have q1 := ok.left r (List.mem_of_mem_eraseIdx hr)
              exact ⟨by rw [tl1]; exact q1.1, q1.small hp2⟩
            have e24 := Same.trans e4 e5
            have hl5 := immRow _ _ _ _ (Keep.of e5) hl4
            -- found = cleared(prime, found, place, row) + [row]
            refine ⟨_, rfl, _, rfl, _, rfl, _, rfl, p, aF, zs, S.found, i, .ref l, takenRow p S k i, rfl, SqL.of (e24 _ _ hF2), Paired.keep immRow (Keep.of e24) pF2, hl5, hp, by omega, by rw [tl1]; exact hi, by rw [tl1]; exact hw, fun r hr => ?_, fun D6 H6 fs nD6 e6 h6 p6 => ?_⟩
            · have q1 := ok.found r hr
              exact ⟨by rw [tl1]; exact q1.1, q1.small hp2⟩
            refine ⟨_, rfl, by show 1 ≤ sizeLine; decide, fun l7 n7 => ⟨D6, l7, _, _, rfl, rfl, (Same.upd n7) _ _ h6, upd_same, ?_, fun l8 n8 => ?_⟩⟩
            · have := Paired.len p6
              simp only [cleared, List.length_map] at this
              exact Nat.le_trans (by show fs.length + 1 ≤ 100000; omega) (by decide)
            have e7 : Same H6 (upd H6 l7 (.lst [.ref l])) := Same.upd n7
            have e8 : Same (upd H6 l7 (.lst [.ref l])) (upd (upd H6 l7 (.lst [.ref l])) l8 (.lst (fs ++ [.ref l]))) := Same.upd n8
            have h8 : upd (upd H6 l7 (.lst [.ref l])) l8 (.lst (fs ++ [.ref l])) l8 = some (.lst (fs ++ [.ref l])) := upd_same
            have e68 := Same.trans e7 e8
            have n86 : H6 l8 = none := Same.free e7 n8
            generalize upd (upd H6 l7 (.lst [.ref l])) l8 (.lst (fs ++ [.ref l])) = H8 at e8 h8 e68 ⊢
            have e58 := Same.trans e6 e68
            have e28 := Same.trans e24 e58
            have hP8 := e28 _ _ iv2F
            have m8 := Same.trans m2 e28
            -- places.append(place)
            refine ⟨_, rfl, .inl ⟨rfl, _, SqL.of hP8⟩, _, rfl, aP, _, _, rfl, rfl, hP8, ?_, ?_⟩
            · rw [List.length_map, ok.pl]
              exact Nat.lt_of_le_of_lt (by omega : S.found.length ≤ 1000) (by decide)
            have kp9 : ∀ o, Keep H8 (upd H8 aP o) := fun o => Keep.putL (Keep.refl _) hP8
            have nP4 : H4 aP ≠ none := by rw [e4 _ _ iv2F]; intro z; cases z
            have nP6 : H6 aP ≠ none := by rw [e6 _ _ (e24 _ _ iv2F)]; intro z; cases z
            have d5P : D5 ≠ aP := fun z => nP4 (by rw [← z]; exact nD5)
            have d8P : l8 ≠ aP := fun z => nP6 (by rw [← z]; exact n86)
            have d58 : D5 ≠ l8 := fun z => by rw [← z, e6 _ _ h5] at n86; cases n86
            refine ⟨D5, l8, aP, ls, fs ++ [.ref l], _, _, _, rfl, ?_⟩
            rw [eN, redStep_some hf]
            refine ⟨Same.mut m8 iv.nP, Same.free (Same.trans m2 e4) nD5, Same.free (Same.trans m2 (Same.trans e24 e6)) n86, iv.nP, by rw [upd_ne d5P]; exact e58 _ _ h5, by rw [upd_ne d8P]; exact h8, ?_, ?_, ?_, d5P, d8P, d58⟩
            · rw [upd_same, List.map_append]
              rfl
            · exact Paired.keep immRow ((Keep.of e58).trans (kp9 _)) p5
            · exact Paired.app (Paired.keep immRow ((Keep.of e68).trans (kp9 _)) p6) (.cons (immRow _ _ _ _ ((Keep.of e58).trans (kp9 _)) hl5) .nil)
    · rintro σ H' ⟨aL, aF, aP, ys, zs, v6, v7, v8, rfl, iv⟩
      refine ⟨_, rfl, aF, zs, rfl, .inl ⟨SqL.of iv.hF, fun l1 n1 => ⟨_, rfl, aP, _, rfl, .inl ⟨SqL.of ((Same.upd n1) _ _ iv.hP), fun l2 n2 => ⟨by show 2 ≤ sizeLine; decide, fun t nt => ?_⟩⟩⟩⟩⟩
      have s1 := Same.upd (o := .tup zs) n1
      have s2 := Same.upd (o := .tup ((redTo p m wide).places.map fun n : Nat => V.int (n : Int))) n2
      have s3 := Same.upd (o := .tup [.ref l1, .ref l2]) nt
      refine q t _ _ _ (Same.trans iv.e (Same.trans s1 (Same.trans s2 s3))) upd_same ?_ ?_
      · exact ⟨l1, zs, rfl, SqT.of (s3 _ _ (s2 _ _ upd_same)), Paired.keep immRow (Keep.of (Same.trans s1 (Same.trans s2 s3))) iv.pF⟩
      · exact ⟨l2, _, rfl, SqT.of (s3 _ _ upd_same), of_nats _⟩
  rcases h1 with h1 | h1
  · exact ⟨_, rfl, a, rfl, .inl ⟨⟨_, h1⟩, fun D hD => start_ _ _ walk_list (fun H' e => e.seq h1) D _ hD fun H' ys e f1 f2 => rest D H' ys hD e f1 f2⟩⟩
  · exact ⟨_, rfl, a, rfl, .inr ⟨⟨_, h1⟩, fun D hD => start_ _ _ walk_tup (fun H' e => Same.tup e h1) D _ hD fun H' ys e f1 f2 => rest D H' ys hD e f1 f2⟩⟩
end
/-! ### kernel, undone -/
theorem zipFold_len (p : Int) (free : Nat) : ∀ (qs : List (List Int × Nat)) (c : List Int), (qs.foldl (fun c q => c.set q.2 (-(q.1.getD free 0) % p)) c).length = c.length
  | [], _ => rfl
  | q :: qs, c => by rw [List.foldl_cons, zipFold_len p free qs, List.length_set]
theorem ixSet {k n : Nat} (h : k < n) : ixN n (k : Int) = some k := by
  unfold ixN
  rw [if_pos (by omega), if_pos (by omega)]
  simp
theorem freeCol_ok {p : Int} (hp : 1 < p) {wide free : Nat} {rows : List (List Int)} {places : List Nat} : okRow p wide (freeCol p wide rows places free) := by
  refine ⟨by rw [freeCol, zipFold_len]; simp [unitR], ?_⟩
  have base : ∀ x ∈ unitR wide free, 0 ≤ x ∧ x < p := by
    intro x hx
    unfold unitR at hx
    obtain ⟨a, _, rfl⟩ := List.mem_map.mp hx
    split <;> omega
  have step : ∀ (qs : List (List Int × Nat)) (c : List Int), (∀ x ∈ c, 0 ≤ x ∧ x < p) → ∀ x ∈ qs.foldl (fun c q => c.set q.2 (-(q.1.getD free 0) % p)) c, 0 ≤ x ∧ x < p := by
    intro qs
    induction qs with
    | nil => exact fun c h => h
    | cons q qs ih =>
      intro c h
      rw [List.foldl_cons]
      refine ih _ fun x hx => ?_
      rcases List.mem_or_eq_of_mem_set hx with hx | rfl
      · exact h x hx
      · exact ⟨Int.emod_nonneg _ (by omega), Int.emod_lt_of_pos _ (by omega)⟩
  exact step _ _ base
section
variable {K : PySem.W.Frag} {H : Hp} {Q : VK}
theorem inV_nats {x : Nat} : ∀ {l : List Nat}, inV (.int (x : Int)) (l.map fun n : Nat => V.int (n : Int)) = l.contains x
  | [] => rfl
  | y :: l => by
    have ih := inV_nats (x := x) (l := l)
    unfold inV at ih ⊢
    rw [List.map_cons, List.any_cons, ih, List.contains_cons]
    congr 1
    show decide ((y : Int) = (x : Int)) = (x == y)
    by_cases h : x = y
    · subst h; simp
    · rw [decide_eq_false (by omega)]
      exact (beq_eq_false_iff_ne.mpr h).symm
theorem nat_at {l : List Nat} {i : Nat} {x : V} (h : (l.map fun n : Nat => V.int (n : Int))[i]? = some x) : ∃ n, l[i]? = some n ∧ x = .int (n : Int) := by
  rw [List.getElem?_map] at h
  cases e : l[i]? with
  | none => rw [e] at h; cases h
  | some c => rw [e] at h; exact ⟨c, rfl, (Option.some.inj h).symm⟩
theorem atI0 {x : V} {xs : List V} : atI (x :: xs) 0 = some x := atI_nat (j := 0) rfl
theorem flat_nats : ∀ {l : List Nat}, (l.map fun n : Nat => V.int (n : Int)).all flatV = true
  | [] => rfl
  | y :: l => by
    rw [List.map_cons, List.all_cons, flat_nats]
    rfl
def sp_kernel (K : PySem.W.Frag) : Sp := fun vs H Q _ => ∃ (p : Int) (v : V) (t : Tb), vs = [v] ∧ rhTab K p H v t ∧ 1 < p ∧ p ≤ 1000 ∧ t.wide ≤ 1000 ∧ t.rows.length ≤ 1000 ∧ okMat p t.wide t.rows ∧ Ret (rhMat K) H Q (kernelR p t.wide t.rows)
theorem pure_kernel (vs : List V) (H : Hp) (Q : VK) (E : XK) (h : sp_kernel K vs H Q E) : t_kernel K (sp_reduced_rows K) (Ed Q) (start n_kernel vs) H := by
  obtain ⟨p, v, t, rfl, ht, hp, hp2, hw, hz, hm, q⟩ := h
  refine ⟨_, rfl, ?_⟩
  refine fd_prime ht ?_
  refine ⟨_, rfl, ?_⟩
  refine fd_wide ht ?_
  refine ⟨_, rfl, ?_⟩
  refine fd_rows ht fun vr hr => ?_
  obtain ⟨a, xs, rfl, h1, h2⟩ := hr
  refine ⟨p, t.wide, a, xs, t.rows, rfl, .inr h1, h2, by omega, hp2, hw, hz, hm, fun t1 v1 v2 H1 e1 ht1 hv1 hv2 => ?_⟩
  obtain ⟨aR, xr, rfl, hR, pR⟩ := hv1
  obtain ⟨aP, xp, rfl, hP, pP⟩ := hv2
  have exp := nats_of pP
  rw [List.map_map] at exp
  have exp2 : xp = (redPlaces p t.wide t.rows).map fun n : Nat => V.int (n : Int) := exp
  subst exp2
  have ok := redTo_ok (by omega : 0 < p) hm t.wide
  have okl := ok.len
  have okp := ok.pl
  generalize eR : redRows p t.wide t.rows = R at pR
  generalize eP : redPlaces p t.wide t.rows = PL at pP hP
  have lR : R.length = (redTo p t.rows t.wide).found.length := by rw [← eR]; rfl
  have lP : PL.length = R.length := by rw [lR, ← okp, ← eP]; rfl
  have okR : okMat p t.wide R := by rw [← eR]; exact ok.found
  have ltP : ∀ q ∈ PL, q < t.wide := by rw [← eP]; exact ok.lt
  refine ⟨t1, _, rfl, SqT.of ht1, rfl, _, _, rfl, _, _, rfl, rfl, Nat.zero_le _, fun aF nF => ?_⟩
  refine ⟨_, rfl, ?_⟩
  have eF := Same.upd (o := .lst []) nF
  refine fd_wide (immTab _ _ _ _ (Keep.of (Same.trans e1 eF)) ht) ?_
  refine ⟨t.wide, rfl, by omega, by omega, ?_⟩
  refine for_it (wk_rng (n := t.wide)) (fun i σ H' => ∃ (zs : List V) (v4 v5 v6 v7 : Option V), σ = [some v, some (.ref aR), some (.ref aP), some (.ref aF), v4, v5, v6, v7, none] ∧ Same H1 H' ∧ H' aF = some (.lst zs) ∧
      Paired (rhRow K H') zs (((List.range i).filter fun f => !PL.contains f).map (freeCol p t.wide R PL)))
    ⟨[], none, none, none, none, rfl, eF, upd_same, .nil⟩ (fun _ _ _ _ _ => trivial) ?_ ?_
  · rintro i x σ H0 H' hi ⟨zs, v4, v5, v6, v7, rfl, e2, hF, pF⟩ ⟨rfl, rfl⟩
    have hP2 := Same.tup e2 hP
    refine ⟨_, rfl, _, rfl, aP, _, rfl, .inr hP2, rfl, flat_nats, _, rfl, ?_⟩
    show if (!inV (.int (i : Int)) (PL.map fun n : Nat => V.int (n : Int))) = true then _ else _
    rw [inV_nats]
    cases hc : PL.contains i with
    | true =>
      refine ite_f ⟨zs, _, _, _, _, rfl, e2, hF, ?_⟩
      rw [List.range_succ, List.filter_append, List.filter_cons]
      simp only [hc]
      simpa using pF
    | false =>
      -- column = [int(at == free) for at in range(table.wide)]
      refine ite_t ⟨_, rfl, ?_⟩
      refine fd_wide (immTab _ _ _ _ (Keep.of (Same.trans e1 e2)) ht) ?_
      refine ⟨t.wide, rfl, by omega, by omega, fun D hD => ?_⟩
      refine lc_all (r := rhI) (wk_rng (n := t.wide)) (unitR t.wide i) (by simp [unitR]) (by omega) immI hD (fun _ _ => trivial) ?_ ?_
      · rintro j y d H3 H4 Q2 hd e3 ⟨rfl, rfl⟩ k2
        obtain ⟨hj, ed⟩ := gets hd
        refine ⟨rfl, _, rfl, _, rfl, rfl, .inr ⟨_, rfl, k2 _ _ (Same.refl _) ?_⟩⟩
        rw [nat_eq, ed]
        rfl
      · intro H3 us e3 f1 f2
        rw [ints_of f2] at f1
        have dF : D ≠ aF := fun z => by rw [z, hF] at hD; cases hD
        have hF3 := e3 _ _ hF
        -- for row, place in zip(rows, places): column[place] = -row[free] % table.prime
        refine ⟨_, rfl, _, rfl, aR, aP, xr, _, rfl, .inr ⟨Same.tup (Same.trans e2 e3) hR, Same.tup (Same.trans e2 e3) hP, ?_⟩⟩
        have lX := Paired.len pR
        refine for_it (wk_zipT (n := R.length) (xs := xr) (ys := PL.map fun n : Nat => V.int (n : Int)) lX.symm (by rw [List.length_map]; exact lP.symm))
          (fun j σ H' => ∃ (w6 w7 : Option V), σ = [some v, some (.ref aR), some (.ref aP), some (.ref aF), some (.int (i : Int)), some (.ref D), w6, w7, none] ∧ Same H1 H' ∧ H' aF = some (.lst zs) ∧ Paired (rhRow K H') zs (((List.range i).filter fun f => !PL.contains f).map (freeCol p t.wide R PL)) ∧
            H' D = some (.lst ((((List.zip R PL).take j).foldl (fun c q => c.set q.2 (-(q.1.getD i 0) % p)) (unitR t.wide i)).map V.int)))
          ⟨v6, v7, rfl, Same.trans e2 e3, hF3, Paired.keep immRow (Keep.of e3) pF, f1⟩ (fun _ _ _ _ ⟨_, _, _, e4, _⟩ => ⟨Same.tup e4 hR, Same.tup e4 hP⟩) ?_ ?_
        · rintro j y σ H5 H6 hj ⟨w6, w7, rfl, e5, hF5, pF5, hD5⟩ ⟨t5, y1, y2, rfl, nt, rfl, g1, g2⟩
          obtain ⟨r, hr1, hr2⟩ := Paired.at pR g1
          have hmem : r ∈ R := List.mem_of_getElem? hr1
          have hj2 : j < PL.length := by omega
          obtain ⟨pl, hpl, rfl⟩ := nat_at g2
          have lpl : pl < t.wide := ltP pl (List.mem_of_getElem? hpl)
          refine g_pair upd_same ?_
          have e6 : Same H5 (upd H5 t5 (.tup [y1, .int (pl : Int)])) := Same.upd nt
          have hF6 := e6 _ _ hF5
          have hD6 := e6 _ _ hD5
          have pF6 := Paired.keep immRow (Keep.of e6) pF5
          have hr6 := immRow _ _ _ _ (Keep.of (Same.trans e5 e6)) hr2
          have e16 := Same.trans e5 e6
          generalize upd H5 t5 (.tup [y1, .int (pl : Int)]) = H6 at e6 hF6 hD6 pF6 hr6 e16 ⊢
          obtain ⟨b, us2, eb, u1, u2⟩ := rhRow.at hr6 (i := i) (by rw [(okR r hmem).1]; exact hi)
          refine ⟨_, rfl, _, rfl, b, us2, _, _, eb, rfl, u1, u2, _, rfl, _, rfl, ?_⟩
          refine fd_prime (immTab _ _ _ _ (Keep.of (Same.trans e1 e16)) ht) ?_
          refine ⟨_, _, rfl, rfl, (by show (0 : Int) < p; omega), _, rfl, _, rfl, D, _, _, pl, rfl, rfl, hD6, ixSet ?_, ?_⟩
          · rw [List.length_map, zipFold_len]
            simp [unitR]
            exact lpl
          · have nD1 : H1 D = none := Same.free e2 hD
            refine ⟨_, _, rfl, Same.mut e16 nD1, by rw [upd_ne (Ne.symm dF)]; exact hF6, Paired.keep immRow (Keep.putL (Keep.refl _) hD6) pF6, ?_⟩
            rw [upd_same, List.take_add_one, List.foldl_append]
            have ez : (List.zip R PL)[j]? = some (r, pl) := by
              rw [List.getElem?_zip_eq_some]
              exact ⟨hr1, hpl⟩
            rw [ez]
            show some (HO.lst _) = some (HO.lst _)
            congr 2
            show _ = List.map V.int (List.set _ pl (-(r.getD i 0) % p))
            rw [List.map_set]
        · rintro σ H5 ⟨w6, w7, rfl, e5, hF5, pF5, hD5⟩
          refine ⟨_, rfl, .inl ⟨rfl, _, SqL.of hF5⟩, _, rfl, D, _, rfl, .inl ⟨SqL.of hD5, fun l hl => ⟨aF, _, _, rfl, rfl, (Same.upd hl) _ _ hF5, ?_, ?_⟩⟩⟩
          · have := Paired.len pF5
            rw [List.length_map] at this
            have l2 := List.length_filter_le (fun f => !PL.contains f) (List.range i)
            rw [List.length_range] at l2
            exact Nat.lt_of_le_of_lt (by omega : zs.length ≤ 1000) (by decide)
          · have el := Same.upd (o := .tup ((((List.zip R PL).take R.length).foldl (fun c q => c.set q.2 (-(q.1.getD i 0) % p)) (unitR t.wide i)).map V.int)) hl
            have kp : ∀ o, Keep (upd H5 l (.tup ((((List.zip R PL).take R.length).foldl (fun c q => c.set q.2 (-(q.1.getD i 0) % p)) (unitR t.wide i)).map V.int))) (upd (upd H5 l (.tup ((((List.zip R PL).take R.length).foldl (fun c q => c.set q.2 (-(q.1.getD i 0) % p)) (unitR t.wide i)).map V.int))) aF o) := fun o => Keep.putL (Keep.refl _) (el _ _ hF5)
            refine ⟨zs ++ [.ref l], _, _, _, _, rfl, Same.mut (Same.trans e5 el) nF, upd_same, ?_⟩
            rw [List.range_succ, List.filter_append, List.filter_cons]
            simp only [hc]
            rw [List.map_append]
            refine Paired.app (Paired.keep immRow ((Keep.of el).trans (kp _)) pF5) (.cons (immRow _ _ _ _ (kp _) ?_) .nil)
            refine rhRow.mk (SqT.of ?_)
            rw [upd_same]
            congr 4
            exact List.take_of_length_le (by rw [List.length_zip]; omega)
  · rintro σ H2 ⟨zs, v4, v5, v6, v7, rfl, e2, hF, pF⟩
    have ht2 := immTab _ _ _ _ (Keep.of (Same.trans e1 e2)) ht
    refine ⟨_, rfl, ?_⟩
    refine fd_prime ht2 ?_
    refine ⟨_, rfl, ?_⟩
    refine fd_wide ht2 ?_
    refine ⟨_, rfl, p, t.wide, aF, zs, _, rfl, .inl (SqL.of hF), pF, by omega, hp2, hw, ?_, ?_, fun t2 v1 v2 H3 e3 ht3 hv1 _ => ⟨t2, _, 0, v1, rfl, rfl, SqT.of ht3, atI0, q v1 H3 (Same.trans e1 (Same.trans e2 e3)) ?_⟩⟩
    · rw [List.length_map]
      have l2 := List.length_filter_le (fun f => !PL.contains f) (List.range t.wide)
      rw [List.length_range] at l2
      omega
    · intro c hc
      obtain ⟨f, _, rfl⟩ := List.mem_map.mp hc
      exact freeCol_ok hp
    · unfold kernelR freeCols
      rw [eR, eP]
      exact hv1
end
section
variable {K : PySem.W.Frag} {H : Hp} {Q : VK}
theorem cut_from {xs : List V} {n : Nat} (h : n ≤ xs.length) : cutV xs (some (n : Int)) none = xs.drop n := by
  unfold cutV
  rw [HT.sIx_none, HT.sIx_nat, Nat.min_eq_left h]
  exact List.take_of_length_le (by rw [List.length_drop]; omega)
theorem cut_to {xs : List V} {n : Nat} (h : n ≤ xs.length) : cutV xs none (some (n : Int)) = xs.take n := by
  unfold cutV
  rw [HT.sIx_none, HT.sIx_nat, Nat.min_eq_left h]
  simp
theorem slice_from {a : Addr} {r : List Int} {n : Nat} (ha : SqT K H a (r.map V.int)) (h : n ≤ r.length) (q : ∀ v H', Same H H' → rhRow K H' v (r.drop n) → Q v H') : rSlA K (.ref a) (some (n : Int)) none H Q := by
  refine ⟨a, _, rfl, ha, fun w => q _ _ (Same.refl _) ?_, fun _ p hp => q _ _ (Same.upd hp) ?_⟩
  · rw [HT.sIx_nat, List.length_map, Nat.min_eq_left h] at w
    rw [w.1]
    exact rhRow.mk ha
  · rw [cut_from (by rw [List.length_map]; exact h)]
    exact rhRow.mk (by rw [List.map_drop]; exact SqT.of upd_same)
theorem slice_to {a : Addr} {r : List Int} {n : Nat} (ha : SqT K H a (r.map V.int)) (h : n ≤ r.length) (q : ∀ v H', Same H H' → rhRow K H' v (r.take n) → Q v H') : rSlA K (.ref a) none (some (n : Int)) H Q := by
  refine ⟨a, _, rfl, ha, fun w => q _ _ (Same.refl _) ?_, fun _ p hp => q _ _ (Same.upd hp) ?_⟩
  · rw [HT.sIx_nat, List.length_map, Nat.min_eq_left h] at w
    rw [w.2, List.take_of_length_le (Nat.le_refl _)]
    exact rhRow.mk ha
  · rw [cut_to (by rw [List.length_map]; exact h)]
    exact rhRow.mk (by rw [List.map_take]; exact SqT.of upd_same)
/-! undone -/
theorem undone_some {p : Int} {n : Nat} {rows u : List (List Int)} (h : undoneR p n rows = some u) : redPlaces p (2 * n) (besideUnit n rows) = List.range n ∧ u = (redRows p (2 * n) (besideUnit n rows)).map fun r => r.drop n := by
  unfold undoneR at h
  split at h
  · exact ⟨by assumption, (Option.some.inj h).symm⟩
  · cases h
theorem unitR_ok {p : Int} (hp : 1 < p) (n h : Nat) : okRow p n (unitR n h) := by
  refine ⟨by simp [unitR], fun x hx => ?_⟩
  unfold unitR at hx
  obtain ⟨a, _, rfl⟩ := List.mem_map.mp hx
  split <;> omega
theorem besideUnit_ok {p : Int} (hp : 1 < p) {n : Nat} {rows : List (List Int)} (h : okMat p n rows) : okMat p (2 * n) (besideUnit n rows) := by
  intro s hs
  unfold besideUnit at hs
  obtain ⟨i, hi, rfl⟩ := List.getElem_of_mem hs
  rw [List.getElem_zipWith]
  have h1 := h (rows[i]'(by simp at hi; omega)) (List.getElem_mem _)
  have h2 : okRow p n ((plainR n)[i]'(by simp at hi; omega)) := by
    unfold plainR
    rw [List.getElem_map]
    exact unitR_ok hp n _
  refine ⟨by rw [List.length_append, h1.1, h2.1]; omega, fun x hx => ?_⟩
  rcases List.mem_append.mp hx with hx | hx
  · exact h1.2 x hx
  · exact h2.2 x hx
def sp_undone (K : PySem.W.Frag) : Sp := fun vs H Q _ => ∃ (p : Int) (v : V) (t : Tb) (u : List (List Int)), vs = [v] ∧ rhTab K p H v t ∧ 1 < p ∧ p ≤ 1000 ∧ t.wide ≤ 400 ∧ t.rows.length = t.wide ∧ okMat p t.wide t.rows ∧ undoneR p t.wide t.rows = some u ∧ Ret (rhTab K p) H Q ⟨t.wide, u⟩
theorem pure_undone (kt : KTab K (ad K "RawTable")) (vs : List V) (H : Hp) (Q : VK) (E : XK) (h : sp_undone K vs H Q E) : t_undone K (sp_raw_plain K) (sp_reduced_rows K) (sp_RawTable_init K) (Ed Q) (start n_undone vs) H := by
  obtain ⟨p, v, t, u, rfl, ht, hp, hp2, hw, hz, hm, hu, q⟩ := h
  obtain ⟨hu1, hu2⟩ := undone_some hu
  have okB := besideUnit_ok hp hm
  refine ⟨_, rfl, ?_⟩
  refine fd_wide ht ?_
  refine ⟨_, rfl, ?_⟩
  refine fd_high ht ?_
  refine ⟨_, rfl, rfl, _, rfl, ?_⟩
  rw [show (!decide (V.int (t.rows.length : Int) = V.int (t.wide : Int))) = false by simp [hz]]
  refine ite_f ⟨_, rfl, ?_⟩
  refine fd_rows ht fun vr hr => ?_
  obtain ⟨a, xs, rfl, h1, h2⟩ := hr
  refine ⟨_, rfl, ?_⟩
  refine fd_prime ht ?_
  refine ⟨_, rfl, p, t.wide, rfl, by omega, fun vp H1 e1 hp1 => ?_⟩
  refine fd_rows hp1 fun vr2 hr2 => ?_
  obtain ⟨b, ys, rfl, h3, h4⟩ := hr2
  have l1 := Paired.len h2
  have l2 : ys.length = t.wide := by rw [Paired.len h4]; simp [plainR]
  refine ⟨a, b, xs, ys, rfl, .inr ⟨Same.tup e1 h1, h3, fun D hD => ?_⟩⟩
  refine lc_all (r := rhRow K) (wk_zipT (n := t.wide) (xs := xs) (ys := ys) (by omega) l2.symm) (besideUnit t.wide t.rows) (by simp [besideUnit, plainR, hz]) (by omega) immRow hD (fun H' e => ⟨Same.tup (Same.trans e1 e) h1, Same.tup e h3⟩) ?_ ?_
  · rintro i x c H2 H3 Q2 hc e2 ⟨t5, y1, y2, rfl, nt, rfl, g1, g2⟩ k2
    obtain ⟨r, hr1, hr2⟩ := Paired.at h2 g1
    obtain ⟨s, hs1, hs2⟩ := Paired.at h4 g2
    refine g_pair upd_same ⟨rfl, _, rfl, _, rfl, ?_⟩
    have e3 := Same.trans e2 (Same.upd (o := .tup [y1, y2]) nt)
    obtain ⟨ra, rfl, hra⟩ := (immRow _ _ _ _ (Keep.of (Same.trans e1 e3)) hr2).ex
    obtain ⟨sa, rfl, hsa⟩ := (immRow _ _ _ _ (Keep.of e3) hs2).ex
    have lr := (hm r (List.mem_of_getElem? hr1)).1
    have ls : s.length = t.wide := by
      unfold plainR at hs1
      obtain ⟨_, es⟩ := gets hs1
      rw [es]
      simp [unitR]
    refine cat_of hra hsa (by omega) fun v4 H4 e4 h4 => k2 v4 H4 (Same.trans (Same.upd nt) e4) ?_
    have : c = r ++ s := by
      unfold besideUnit at hc
      rw [List.getElem?_zipWith, hr1, hs1] at hc
      exact (Option.some.inj hc).symm
    rw [this]
    exact h4
  · intro H2 zs e2 f1 f2
    have ht2 := immTab _ _ _ _ (Keep.of (Same.trans e1 e2)) ht
    refine ⟨_, rfl, ?_⟩
    refine fd_prime ht2 ?_
    refine ⟨_, rfl, _, _, rfl, rfl, .inl ⟨by omega, by omega⟩, ?_⟩
    refine ⟨_, rfl, p, 2 * t.wide, D, zs, besideUnit t.wide t.rows, (by rw [show ((2 * t.wide : Nat) : Int) = 2 * (t.wide : Int) by omega]; rfl), .inl (SqL.of f1), f2, by omega, hp2, by omega, by simp [besideUnit, plainR]; omega, okB, fun t6 v1 v2 H3 e3 ht3 hv1 hv2 => ?_⟩
    obtain ⟨aR, xr, rfl, hR, pR⟩ := hv1
    obtain ⟨aP, xp, rfl, hP, pP⟩ := hv2
    have exp := nats_of pP
    rw [hu1] at exp
    refine ⟨t6, _, rfl, SqT.of ht3, rfl, _, _, rfl, _, _, rfl, rfl, ?_⟩
    refine ⟨_, rfl, _, rfl, _, rfl, ⟨by omega, by omega, by omega, by omega, by omega⟩, fun q1 hq1 => ?_⟩
    have e4 := Same.upd (o := .tup (rgV 0 (t.wide : Int))) hq1
    have ern : rgV 0 (t.wide : Int) = ((List.range t.wide).map fun n : Nat => (n : Int)).map V.int := by
      unfold rgV
      rw [List.map_map]
      have : ((t.wide : Int) - 0).toNat = t.wide := by omega
      rw [this]
      refine List.map_congr_left fun j _ => ?_
      show V.int (0 + (j : Int)) = V.int (j : Int)
      rw [Int.zero_add]
    refine ⟨dRow ((List.range t.wide).map fun n : Nat => (n : Int)), dRow ((List.range t.wide).map fun n : Nat => (n : Int)), dp_row (by rw [← exp]; exact Same.tup e4 hP), dp_row (by rw [← ern]; exact SqT.of upd_same), shaped_row _, shaped_row _, _, rfl, ?_⟩
    rw [eqv_row]
    rw [show (!decide (((List.range t.wide).map fun n : Nat => (n : Int)) = ((List.range t.wide).map fun n : Nat => (n : Int)))) = false by simp]
    refine ite_f ⟨_, rfl, ?_⟩
    refine fd_prime (immTab _ _ _ _ (Keep.of (Same.trans e3 e4)) ht2) ?_
    refine ⟨_, rfl, _, rfl, aR, rfl, ⟨_, Same.tup e4 hR⟩, fun D2 hD2 => ?_⟩
    have okr := redTo_ok (by omega : 0 < p) okB (2 * t.wide)
    have lxr := Paired.len pR
    have lrr : (redRows p (2 * t.wide) (besideUnit t.wide t.rows)).length = t.wide := by
      have := okr.pl
      rw [show (redTo p (besideUnit t.wide t.rows) (2 * t.wide)).places = redPlaces p (2 * t.wide) (besideUnit t.wide t.rows) from rfl, hu1, List.length_range] at this
      exact this.symm
    refine lc_all (r := rhRow K) (walk_tup (xs := xr)) u (by rw [hu2, List.length_map]; omega) (by omega) immRow hD2 (fun H' e => Same.tup (Same.trans e4 e) hR) ?_ ?_
    · rintro i x c H5 H6 Q2 hc e5 ⟨rfl, hx⟩ k2
      obtain ⟨r, hr1, hr2⟩ := Paired.at pR hx
      obtain ⟨ra, rfl, hra⟩ := (immRow _ _ _ _ (Keep.of (Same.trans e4 e5)) hr2).ex
      have lr := (okr.found r (List.mem_of_getElem? hr1)).1
      refine ⟨rfl, _, rfl, _, rfl, _, rfl, ?_⟩
      refine slice_from hra (by omega) fun v6 H7 e7 h7 => k2 v6 H7 e7 ?_
      rw [hu2, List.getElem?_map, hr1] at hc
      rw [← Option.some.inj hc]
      exact h7
    · intro H5 us e5 g1 g2
      refine ⟨D2, _, rfl, .inl ⟨SqL.of g1, fun l hl => ?_⟩⟩
      exact make_tab (t := ⟨t.wide, u⟩) kt rfl (Same.trans (Same.trans e1 e2) (Same.trans (Same.trans e3 e4) (Same.trans e5 (Same.upd hl)))) ⟨l, us, rfl, SqT.of upd_same, Paired.keep immRow (Keep.of (Same.upd hl)) g2⟩ q
end
/-- a line's arrows -/
def lineOk (m : Nat) (ar : List (Nat × Nat)) : Prop := ar.length + 1 = m ∧ m ≤ 8 ∧ ∀ (k : Nat) a, ar[k]? = some a → a = (k, k + 1) ∨ a = (k + 1, k)
/-- the arrows that signs tell (true: forward) -/
def lineArr (ds : List Bool) : List (Nat × Nat) := ds.mapIdx fun k d => if d then (k, k + 1) else (k + 1, k)
def wordOf (ds : List Bool) : Str := ⟨(ds.map fun d => if d then 62 else 60).toArray⟩
theorem lineArr_ok {ds : List Bool} (h : ds.length ≤ 7) : lineOk (ds.length + 1) (lineArr ds) := by
  refine ⟨by simp [lineArr], by omega, fun k a e => ?_⟩
  unfold lineArr at e
  rw [List.getElem?_mapIdx] at e
  cases hd : ds[k]? with
  | none => rw [hd] at e; cases e
  | some d =>
    rw [hd] at e
    have e2 := Option.some.inj e
    rw [← e2]
    cases d
    · exact .inr rfl
    · exact .inl rfl
section
variable {K : PySem.W.Frag} {H : Hp} {Q : VK}
/-! RawWeb.__init__ -/
structure KWeb (K : PySem.W.Frag) : Prop where
  k : KIns K (ad K "RawWeb") nsWeb
  isW : PySem.W.kitOne K (.ref (ad K "RawWeb")) (.ref (ad K "Web")) = some true
def sp_RawWeb_init (K : PySem.W.Frag) : Sp := fun vs H Q _ => ∃ (x dx : Addr) (m : Int) (va : V), vs = [.ref x, .int m, va] ∧ H x = some (.ins (ad K "RawWeb") dx []) ∧
  ∀ H', But x H H' → H' x = some (.ins (ad K "RawWeb") dx (webFs m va)) → Q .non H'
theorem pure_RawWeb_init (k : KWeb K) (vs : List V) (H : Hp) (Q : VK) (E : XK) (h : sp_RawWeb_init K vs H Q E) : t_RawWeb_init K (Ed Q) (start n_RawWeb_init vs) H := by
  obtain ⟨x, dx, m, va, rfl, hx, q⟩ := h
  refine ⟨_, rfl, _, rfl, x, _, dx, [], rfl, hx, k.k.cl, k.k.na _ (by simp), (by decide), ?_⟩
  exact ⟨_, rfl, _, rfl, x, _, dx, _, rfl, upd_same, k.k.cl, k.k.na _ (by simp), Nat.lt_of_le_of_lt (putF_len (n := 0) (Nat.le_refl _)) (by decide), q _ ((But.upd x H _).trans (But.upd x _ _)) upd_same⟩
theorem make_web {m : Int} {v : V} {w : Nat × List (Nat × Nat)} {H0 : Hp} (k : KWeb K) (hm : m = w.1) (e : Same H0 H) (ha : rhT K (rhPr K) H v w.2) (q : Ret (rhWeb K) H0 Q w) :
    ∀ x dx, H x = none → H dx = none → dx ≠ x → sp_RawWeb_init K (.ref x :: ([.int m, v] ++ [])) (upd (upd H dx (.own x)) x (.ins (ad K "RawWeb") dx [])) (fun u H2 => u = .non ∧ Q (.ref x) H2) E0 := by
  intro x dx hx hdx hne
  have s1 : Same H (upd (upd H dx (.own x)) x (.ins (ad K "RawWeb") dx [])) := fun b o z => by rw [upd_ne (ne_of_none z hx), upd_ne (ne_of_none z hdx)]; exact z
  refine ⟨x, dx, m, v, rfl, upd_same, fun H' bt hH => ⟨rfl, ?_⟩⟩
  have s2 : Same H H' := fun b o z => bt b o (ne_of_none z hx) (s1 b o z)
  obtain ⟨l1, l2⟩ := webFs_at m v
  exact q _ _ (Same.trans e s2) ⟨x, _, dx, _, _, rfl, hH, ⟨k.k, k.isW, rfl, by rw [l1, hm], l2, immT immPr _ _ _ _ (Keep.of s2) ha⟩⟩
/-! line -/
theorem word_len (ds : List Bool) : (wordOf ds).length = ds.length := by
  show (ds.map fun d => if d then 62 else 60).toArray.size = ds.length
  simp
theorem word_at {ds : List Bool} {i c : Nat} (h : (wordOf ds).cps[i]? = some c) : ∃ d, ds[i]? = some d ∧ c = if d then 62 else 60 := by
  have h2 : (ds.map fun d => if d then 62 else 60)[i]? = some c := by
    unfold wordOf at h
    simpa using h
  rw [List.getElem?_map] at h2
  cases e : ds[i]? with
  | none => rw [e] at h2; cases h2
  | some d => rw [e] at h2; exact ⟨d, rfl, (Option.some.inj h2).symm⟩
def sp_line (K : PySem.W.Frag) : Sp := fun vs H Q _ => ∃ ds : List Bool, vs = [.str (wordOf ds)] ∧ ds.length ≤ 7 ∧ Ret (rhWeb K) H Q (ds.length + 1, lineArr ds)
theorem pure_line (k : KWeb K) (vs : List V) (H : Hp) (Q : VK) (E : XK) (h : sp_line K vs H Q E) : t_line K (sp_RawWeb_init K) (Ed Q) (start n_line vs) H := by
  obtain ⟨ds, rfl, hd, q⟩ := h
  have lz : (wordOf ds).length ≤ sizeLine := by rw [word_len]; exact Nat.le_trans hd (by decide)
  refine ⟨_, rfl, _, _, _, _, true, rfl, .ty _, .base (.str _), kit_ty (by decide +kernel), true, rfl, ite_f ⟨_, rfl, _, rfl, lz, _, _, rfl, rfl, _, _, rfl, rfl, _, rfl, ?_⟩⟩
  rw [show decide ((8 : Int) - 1 < ((wordOf ds).length : Int)) = false from decide_eq_false (by rw [word_len]; omega)]
  refine ite_f ⟨_, rfl, _, rfl, fun D hD => ?_⟩
  have sz : (wordOf ds).cps.size = ds.length := word_len ds
  refine lc_all (r := rhB) walk_str (List.replicate ds.length true) (by rw [List.length_replicate, sz]) (by rw [sz]; omega) immB hD (fun _ _ => trivial) ?_ ?_
  · rintro i x c H0 H' Q' hc e ⟨rfl, c2, h1, rfl⟩ k'
    obtain ⟨d, hd1, rfl⟩ := word_at h1
    have ec : c = true := by
      rw [List.getElem?_replicate] at hc
      split at hc
      · exact (Option.some.inj hc).symm
      · cases hc
    refine ⟨rfl, _, rfl, _, _, rfl, rfl, (by decide), _, _, rfl, rfl, k' _ _ (Same.refl _) ?_⟩
    rw [ec]
    cases d <;> rfl
  · intro H' ys e h1 h2
    rw [bls_of h2] at h1
    refine ⟨D, _, rfl, SqL.of h1, _, rfl, ?_⟩
    rw [rep_true]
    refine ite_f ⟨_, rfl, _, rfl, lz, fun D2 hD2 => ?_⟩
    refine lc_all (r := rhPr K) wk_enumS (lineArr ds) (by rw [sz]; simp [lineArr]) (by rw [sz]; omega) immPr hD2 (fun _ _ => trivial) ?_ ?_
    · rintro i x c H1 H2 Q' hc e1 ⟨t, y, rfl, nt, rfl, hy⟩ k'
      obtain ⟨cc, hcc, rfl⟩ : ∃ cc, (wordOf ds).cps.toList[i]? = some cc ∧ y = .str ⟨#[cc]⟩ := by
        rw [List.getElem?_map] at hy
        cases e9 : (wordOf ds).cps.toList[i]? with
        | none => rw [e9] at hy; cases hy
        | some cc => rw [e9] at hy; exact ⟨cc, rfl, (Option.some.inj hy).symm⟩
      obtain ⟨d, hd1, rfl⟩ := word_at (c := cc) (by rw [← hcc, Array.getElem?_toList])
      have ec : c = if d then (i, i + 1) else (i + 1, i) := by
        unfold lineArr at hc
        rw [List.getElem?_mapIdx, hd1] at hc
        exact (Option.some.inj hc).symm
      refine g_pair upd_same ⟨rfl, _, rfl, rfl, _, rfl, ?_⟩
      have e2 := Same.upd (o := .tup [.int ((i : Nat) : Int), .str ⟨#[if d then 62 else 60]⟩]) nt
      cases d with
      | true =>
        refine ite_t ⟨_, rfl, _, rfl, _, _, rfl, rfl, (by show 2 ≤ sizeLine; decide), fun p hp => k' _ _ (Same.trans e2 (Same.upd hp)) ⟨p, rfl, ?_⟩⟩
        rw [ec]
        exact SqT.of upd_same
      | false =>
        refine ite_f ⟨_, rfl, _, _, rfl, rfl, _, rfl, (by show 2 ≤ sizeLine; decide), fun p hp => k' _ _ (Same.trans e2 (Same.upd hp)) ⟨p, rfl, ?_⟩⟩
        rw [ec]
        exact SqT.of upd_same
    · intro H1 us e1 f1 f2
      refine ⟨_, rfl, _, rfl, lz, _, _, rfl, rfl, _, rfl, D2, _, rfl, .inl ⟨SqL.of f1, fun l hl => ?_⟩⟩
      exact make_web (w := (ds.length + 1, lineArr ds)) k (by rw [word_len]; rfl) (Same.trans e (Same.trans e1 (Same.upd hl))) ⟨l, us, rfl, SqT.of upd_same, Paired.keep immPr (Keep.of (Same.upd hl)) f2⟩ q
/-! is_line, check_line -/
theorem dp_pr {v : V} {a : Nat × Nat} (h : rhPr K H v a) : Dp K H v (dRow [(a.1 : Int), (a.2 : Int)]) := by
  obtain ⟨b, rfl, hb⟩ := h
  exact dp_row hb
def sp_is_line (K : PySem.W.Frag) : Sp := fun vs H Q _ => ∃ (v : V) (w : Nat × List (Nat × Nat)), vs = [v] ∧ rhWeb K H v w ∧ lineOk w.1 w.2 ∧ ∀ H', Same H H' → Q (.bl true) H'
theorem pure_is_line (vs : List V) (H : Hp) (Q : VK) (E : XK) (h : sp_is_line K vs H Q E) : t_is_line K (Ed Q) (start n_is_line vs) H := by
  obtain ⟨v, w, rfl, hw, ⟨l1, l2, l3⟩, q⟩ := h
  refine ⟨_, rfl, ?_⟩
  refine fd_arrows hw fun va ha => ?_
  obtain ⟨a, xs, rfl, h1, h2⟩ := ha
  have hl := Paired.len h2
  refine ⟨a, _, rfl, .inr h1, _, rfl, ?_⟩
  refine fd_many hw ?_
  refine ⟨_, _, rfl, rfl, rfl, _, rfl, ?_⟩
  rw [show (!decide (V.int (xs.length : Int) = V.int ((w.1 : Int) - 1))) = false by simp; omega]
  refine ite_f ⟨_, rfl, ?_⟩
  refine fd_arrows hw fun va2 ha2 => ?_
  obtain ⟨a, xs, rfl, h1, h2⟩ := ha2
  have hl := Paired.len h2
  refine ⟨a, xs, rfl, h1, fun D hD => ?_⟩
  refine lc_all (r := rhB) wk_enumT (List.replicate xs.length true) (by rw [List.length_replicate]) (by omega) immB hD (fun H' e => Same.tup e h1) ?_ ?_
  · rintro i x c H0 H' Q' hc e ⟨t, y, rfl, nt, rfl, hy⟩ k'
    obtain ⟨ar, har, hpr⟩ := Paired.at h2 hy
    have ec : c = true := by
      rw [List.getElem?_replicate] at hc
      split at hc
      · exact (Option.some.inj hc).symm
      · cases hc
    refine g_pair upd_same ⟨rfl, _, rfl, _, rfl, _, rfl, _, _, rfl, rfl, (by show 2 ≤ sizeLine; decide), fun t1 n1 => ⟨_, rfl, _, _, rfl, rfl, _, rfl, (by show 2 ≤ sizeLine; decide), fun t2 n2 => ⟨(by show 2 ≤ sizeLine; decide), fun t3 n3 => ?_⟩⟩⟩
    have e0 := Same.upd (o := .tup [.int ((i : Nat) : Int), y]) nt
    have e1 := Same.upd (o := .tup [.int ((i : Nat) : Int), .int (((i : Nat) : Int) + 1)]) n1
    have e2 := Same.upd (o := .tup [.int (((i : Nat) : Int) + 1), .int ((i : Nat) : Int)]) n2
    have e3 := Same.upd (o := .tup [.ref t1, .ref t2]) n3
    have e03 := Same.trans e0 (Same.trans e1 (Same.trans e2 e3))
    refine ⟨dRow [(ar.1 : Int), (ar.2 : Int)], [dRow [(i : Int), (i : Int) + 1], dRow [(i : Int) + 1, (i : Int)]], dp_pr (immPr _ _ _ _ (Keep.of (Same.trans e e03)) hpr), .tup (SqT.of upd_same) (.cons (dp_row (SqT.of (e3 _ _ (e2 _ _ upd_same)))) (.cons (dp_row (SqT.of (e3 _ _ upd_same))) .nil)), shaped_row _, shaped_mat [[(i : Int), (i : Int) + 1], [(i : Int) + 1, (i : Int)]], k' _ _ e03 ?_⟩
    rw [ec]
    show V.bl _ = V.bl true
    congr 1
    rw [List.any_cons, List.any_cons, List.any_nil, eqv_row, eqv_row]
    rcases l3 i ar har with rfl | rfl <;> simp
  · intro H' ys e f1 f2
    rw [bls_of f2] at f1
    refine ⟨D, _, rfl, SqL.of f1, ?_⟩
    rw [rep_true]
    exact q H' e
def sp_check_line (K : PySem.W.Frag) : Sp := fun vs H Q _ => ∃ (p : Int) (v : V) (c : Pc), vs = [v] ∧ rhPic K p H v c ∧ lineOk c.many c.arrows ∧ ∀ H', Same H H' → Q .non H'
theorem pure_check_line (vs : List V) (H : Hp) (Q : VK) (E : XK) (h : sp_check_line K vs H Q E) : t_check_line K (sp_is_line K) (Ed Q) (start n_check_line vs) H := by
  obtain ⟨p, v, c, rfl, hc, hl, q⟩ := h
  refine ⟨_, rfl, ?_⟩
  refine fd_web hc fun vw hw => ?_
  exact ⟨vw, _, rfl, hw, hl, fun H' e => ⟨_, rfl, ite_f (q H' e)⟩⟩
/-! check_stretch -/
def sp_check_stretch (K : PySem.W.Frag) : Sp := fun vs H Q _ => ∃ (v : V) (w : Nat × List (Nat × Nat)) (b e : Nat), vs = [v, .int b, .int e] ∧ rhWeb K H v w ∧ b ≤ e ∧ e < w.1 ∧ Q .non H
theorem pure_check_stretch (vs : List V) (H : Hp) (Q : VK) (E : XK) (h : sp_check_stretch K vs H Q E) : t_check_stretch K sp_is_number (Ed Q) (start n_check_stretch vs) H := by
  obtain ⟨v, w, b, e, rfl, hw, h1, h2, q⟩ := h
  refine ⟨_, rfl, _, rfl, ?_⟩
  refine fd_many hw ?_
  refine ⟨_, _, rfl, rfl, _, _, rfl, _, rfl, ?_⟩
  rw [show (decide ((0 : Int) ≤ (b : Int)) && decide ((b : Int) ≤ (w.1 : Int) - 1)) = true by rw [decide_eq_true (by omega), decide_eq_true (by omega)]; rfl]
  refine ite_f ⟨_, rfl, _, rfl, ?_⟩
  refine fd_many hw ?_
  refine ⟨_, _, rfl, rfl, _, _, rfl, _, rfl, ?_⟩
  rw [show (decide ((0 : Int) ≤ (e : Int)) && decide ((e : Int) ≤ (w.1 : Int) - 1)) = true by rw [decide_eq_true (by omega), decide_eq_true (by omega)]; rfl]
  refine ite_f ⟨_, rfl, _, rfl, _, _, rfl, rfl, _, rfl, ?_⟩
  rw [decide_eq_false (by omega)]
  exact ite_f q
end
section
variable {K : PySem.W.Frag} {H : Hp} {Q : VK}
/-! Picture.keep, RawPicture.__init__ -/
structure KPic (K : PySem.W.Frag) (C : Addr) : Prop where
  k : KIns K C nsPic
  isP : PySem.W.kitOne K (.ref C) (.ref (ad K "Picture")) = some true
def sp_Pic_keep (K : PySem.W.Frag) (C : Addr) : Sp := fun vs H Q _ => ∃ (x dx : Addr) (vw vS vt : V) (p : Int), vs = [.ref x, vw, .int p, vS, vt] ∧ H x = some (.ins C dx []) ∧
  ∀ H', But x H H' → H' x = some (.ins C dx (picFs vw p vS vt)) → Q .non H'
theorem pure_Picture_keep {C : Addr} (k : KPic K C) (vs : List V) (H : Hp) (Q : VK) (E : XK) (h : sp_Pic_keep K C vs H Q E) : t_Picture_keep K (Ed Q) (start n_Picture_keep vs) H := by
  obtain ⟨x, dx, vw, vS, vt, p, rfl, hx, q⟩ := h
  refine ⟨_, rfl, _, rfl, x, C, dx, [], rfl, hx, k.k.cl, k.k.na _ (by simp), (by decide), ?_⟩
  refine ⟨_, rfl, _, rfl, x, C, dx, _, rfl, upd_same, k.k.cl, k.k.na _ (by simp), Nat.lt_of_le_of_lt (putF_len (n := 0) (Nat.le_refl _)) (by decide), ?_⟩
  refine ⟨_, rfl, _, rfl, x, C, dx, _, rfl, upd_same, k.k.cl, k.k.na _ (by simp), Nat.lt_of_le_of_lt (putF_len (putF_len (n := 0) (Nat.le_refl _))) (by decide), ?_⟩
  refine ⟨_, rfl, _, rfl, x, C, dx, _, rfl, upd_same, k.k.cl, k.k.na _ (by simp), Nat.lt_of_le_of_lt (putF_len (putF_len (putF_len (n := 0) (Nat.le_refl _)))) (by decide), ?_⟩
  exact q _ ((((But.upd x H _).trans (But.upd x _ _)).trans (But.upd x _ _)).trans (But.upd x _ _)) upd_same
theorem pic_mk {C x dx : Addr} {p : Int} {vw vS vt : V} {c : Pc} {H' : Hp} (k : KPic K C) (h : H' x = some (.ins C dx (picFs vw p vS vt))) (hw : rhWeb K H' vw (c.many, c.arrows)) (hs : rhT K rhN H' vS c.sizes) (ht : rhT K (rhTab K p) H' vt c.tables) : rhPic K p H' (.ref x) c := by
  obtain ⟨l1, l2, l3, l4⟩ := picFs_at vw p vS vt
  exact ⟨x, C, dx, _, vw, vS, vt, rfl, h, ⟨k.k, k.isP, l1, l2, l3, l4, hw, hs, ht⟩⟩
def sp_RawPicture_init (K : PySem.W.Frag) : Sp := fun vs H Q _ => ∃ (x dx : Addr) (vw vS vt : V) (p : Int), vs = [.ref x, vw, .int p, vS, vt] ∧ H x = some (.ins (ad K "RawPicture") dx []) ∧
  ∀ H', But x H H' → H' x = some (.ins (ad K "RawPicture") dx (picFs vw p vS vt)) → Q .non H'
theorem pure_RawPicture_init (vs : List V) (H : Hp) (Q : VK) (E : XK) (h : sp_RawPicture_init K vs H Q E) : t_RawPicture_init K (sp_Pic_keep K (ad K "RawPicture")) (Ed Q) (start n_RawPicture_init vs) H := by
  obtain ⟨x, dx, vw, vS, vt, p, rfl, hx, q⟩ := h
  exact ⟨_, rfl, x, dx, [], rfl, hx, rfl, _, rfl, _, rfl, _, rfl, _, rfl, x, dx, vw, vS, vt, p, rfl, hx, fun H' b e => q H' b e⟩
theorem make_pic {p : Int} {vw vS vt : V} {c : Pc} {H0 : Hp} (k : KPic K (ad K "RawPicture")) (e : Same H0 H) (hw : rhWeb K H vw (c.many, c.arrows)) (hs : rhT K rhN H vS c.sizes) (ht : rhT K (rhTab K p) H vt c.tables) (q : Ret (rhPic K p) H0 Q c) :
    ∀ x dx, H x = none → H dx = none → dx ≠ x → sp_RawPicture_init K (.ref x :: ([vw, .int p, vS, vt] ++ [])) (upd (upd H dx (.own x)) x (.ins (ad K "RawPicture") dx [])) (fun u H2 => u = .non ∧ Q (.ref x) H2) E0 := by
  intro x dx hx hdx hne
  have s1 : Same H (upd (upd H dx (.own x)) x (.ins (ad K "RawPicture") dx [])) := fun b o z => by rw [upd_ne (ne_of_none z hx), upd_ne (ne_of_none z hdx)]; exact z
  refine ⟨x, dx, vw, vS, vt, p, rfl, upd_same, fun H' bt hH => ⟨rfl, ?_⟩⟩
  have s2 : Same H H' := fun b o z => bt b o (ne_of_none z hx) (s1 b o z)
  exact q _ _ (Same.trans e s2) (pic_mk k hH (immWeb _ _ _ _ (Keep.of s2) hw) (immT immN _ _ _ _ (Keep.of s2) hs) (immT immTab _ _ _ _ (Keep.of s2) ht))
/-! raw_bar, bar_of -/
def barSizes (many b e : Nat) : List Nat := (List.range many).map fun q => if b ≤ q ∧ q ≤ e then 1 else 0
def barTab (many b e : Nat) (a : Nat × Nat) : Tb := if (barSizes many b e).getD a.1 0 + (barSizes many b e).getD a.2 0 = 2 then ⟨1, plainR 1⟩ else ⟨(barSizes many b e).getD a.1 0, noughtR ((barSizes many b e).getD a.2 0) ((barSizes many b e).getD a.1 0)⟩
theorem rawBar_eq (many : Nat) (arrows : List (Nat × Nat)) (b e : Nat) : rawBar many arrows b e = ⟨many, arrows, barSizes many b e, arrows.map (barTab many b e)⟩ := rfl
theorem barSizes_le {many b e i : Nat} : (barSizes many b e).getD i 0 ≤ 1 := by
  unfold barSizes
  by_cases h : i < many
  · rw [List.getD_eq_getElem?_getD, List.getElem?_map, List.getElem?_range h]
    show (if b ≤ i ∧ i ≤ e then 1 else 0) ≤ 1
    split <;> omega
  · rw [List.getD_eq_getElem?_getD, List.getElem?_eq_none (by simp; omega)]
    exact Nat.zero_le _
theorem rhN.at {v : V} {l : List Nat} {i : Nat} (h : rhT K rhN H v l) (hi : i < l.length) : ∃ a xs, v = .ref a ∧ SqT K H a xs ∧ atI xs (i : Int) = some (.int (l.getD i 0 : Nat)) := by
  obtain ⟨a, xs, y, h1, h2, h3, h4⟩ := rhT.at (i := i) (x := l.getD i 0) h (by rw [List.getD_eq_getElem?_getD, List.getElem?_eq_getElem hi]; rfl)
  exact ⟨a, xs, h1, h2, by rw [h3, show y = _ from h4]⟩
theorem lineOk.lt {m : Nat} {ar : List (Nat × Nat)} (h : lineOk m ar) {k : Nat} {a : Nat × Nat} (e : ar[k]? = some a) : a.1 < m ∧ a.2 < m := by
  have hk := (List.getElem?_eq_some_iff.mp e).1
  have := h.1
  rcases h.2.2 k a e with rfl | rfl
  · exact ⟨by show k < m; omega, by show k + 1 < m; omega⟩
  · exact ⟨by show k + 1 < m; omega, by show k < m; omega⟩
def sp_raw_bar (K : PySem.W.Frag) : Sp := fun vs H Q _ => ∃ (p : Int) (v : V) (w : Nat × List (Nat × Nat)) (b e : Nat), vs = [v, .int p, .int b, .int e] ∧ rhWeb K H v w ∧ lineOk w.1 w.2 ∧ Ret (rhPic K p) H Q (rawBar w.1 w.2 b e)
theorem pure_raw_bar (kp : KPic K (ad K "RawPicture")) (vs : List V) (H : Hp) (Q : VK) (E : XK) (h : sp_raw_bar K vs H Q E) : t_raw_bar K (sp_raw_plain K) (sp_raw_nought K) (sp_RawPicture_init K) (Ed Q) (start n_raw_bar vs) H := by
  obtain ⟨p, v, w, b, e, rfl, hw, hl, q⟩ := h
  have hm8 := hl.2.1
  have hlen := hl.1
  rw [rawBar_eq] at q
  refine ⟨_, rfl, ?_⟩
  refine fd_many hw ?_
  refine ⟨w.1, rfl, by omega, by omega, fun D hD => ?_⟩
  refine lc_all (r := rhN) (wk_rng (n := w.1)) (barSizes w.1 b e) (by simp [barSizes]) (by omega) immN hD (fun _ _ => trivial) ?_ ?_
  · rintro i x c H0 H' Q' hc e1 ⟨rfl, rfl⟩ k'
    obtain ⟨hi, ec⟩ := gets hc
    refine ⟨rfl, _, rfl, _, rfl, _, _, rfl, rfl, _, rfl, ?_⟩
    by_cases h1 : b ≤ i
    · rw [decide_eq_true (by omega : (b : Int) ≤ (i : Int))]
      refine ite_t ⟨_, rfl, _, _, rfl, rfl, .inr ⟨_, rfl, k' _ _ (Same.refl _) ?_⟩⟩
      by_cases h2 : i ≤ e
      · have hc1 : c = 1 := by rw [ec, if_pos ⟨h1, h2⟩]
        rw [hc1, decide_eq_true (by omega : (i : Int) ≤ (e : Int))]
        rfl
      · have hc1 : c = 0 := by rw [ec, if_neg (fun z => h2 z.2)]
        rw [hc1, decide_eq_false (by omega : ¬ (i : Int) ≤ (e : Int))]
        rfl
    · rw [decide_eq_false (by omega : ¬ (b : Int) ≤ (i : Int))]
      refine ite_f (.inr ⟨_, rfl, k' _ _ (Same.refl _) ?_⟩)
      have hc1 : c = 0 := by rw [ec, if_neg (fun z => h1 z.1)]
      rw [hc1]
      rfl
  · intro H1 ys e1 f1 f2
    refine ⟨D, _, rfl, .inl ⟨SqL.of f1, fun l hl2 => ?_⟩⟩
    have e2 := Same.upd (o := .tup ys) hl2
    have hs : rhT K rhN (upd H1 l (.tup ys)) (.ref l) (barSizes w.1 b e) := ⟨l, ys, rfl, SqT.of upd_same, Paired.keep immN (Keep.of e2) f2⟩
    have e12 := Same.trans e1 e2
    generalize upd H1 l (.tup ys) = H2 at e2 hs e12 ⊢
    refine ⟨Nat.zero_le _, fun aF nF => ⟨_, rfl, ?_⟩⟩
    have e3 := Same.upd (o := .lst []) nF
    refine fd_arrows (immWeb _ _ _ _ (Keep.of (Same.trans e12 e3)) hw) fun va ha => ?_
    obtain ⟨a, xs, rfl, h1, h2⟩ := ha
    have lx := Paired.len h2
    refine ⟨a, rfl, ⟨_, h1⟩, ?_⟩
    refine for_it (walk_tup (xs := xs)) (fun i σ H' => ∃ (zs : List V) (v6 v7 v8 : Option V), σ = [some v, some (.int p), some (.int b), some (.int e), some (.ref l), some (.ref aF), v6, v7, v8, none] ∧ Same H2 H' ∧ H' aF = some (.lst zs) ∧
        Paired (rhTab K p H') zs ((w.2.take i).map (barTab w.1 b e)))
      ⟨[], none, none, none, rfl, e3, upd_same, .nil⟩ (fun i σ H' _ ⟨zs, _, _, _, _, e4, _, _⟩ => ?_) ?_ ?_
    · have := immWeb _ _ _ _ (Keep.of (Same.trans e12 e4)) hw
      refine Keep.tup (H := upd H2 aF (.lst [])) ?_ h1
      intro b o st ho
      by_cases z : b = aF
      · subst z
        rw [upd_same] at ho
        cases ho
        exact st.elim
      · rw [upd_ne z] at ho
        exact e4 _ _ ho
    · rintro i x σ H0 H3 hi ⟨zs, v6, v7, v8, rfl, e4, hF, pF⟩ ⟨rfl, hx⟩
      have kp3 : Keep (upd H2 aF (.lst [])) H3 := by
        intro b o st ho
        by_cases z : b = aF
        · subst z
          rw [upd_same] at ho
          cases ho
          exact st.elim
        · rw [upd_ne z] at ho
          exact e4 _ _ ho
      obtain ⟨ar, har, hpr⟩ := Paired.at h2 hx
      obtain ⟨t, rfl, ht⟩ := immPr _ _ _ _ kp3 hpr
      have lt := hl.lt har
      have hs3 := immT immN _ _ _ _ (Keep.of e4) hs
      have lbs : (barSizes w.1 b e).length = w.1 := by simp [barSizes]
      obtain ⟨s1, us1, es1, g1, g2⟩ := rhN.at hs3 (i := ar.1) (by rw [lbs]; exact lt.1)
      obtain ⟨s2, us2, es2, g3, g4⟩ := rhN.at hs3 (i := ar.2) (by rw [lbs]; exact lt.2)
      cases es1; cases es2
      refine ⟨t, _, rfl, ht, rfl, _, _, rfl, _, _, rfl, rfl, ?_⟩
      refine ⟨_, rfl, _, rfl, l, us1, _, _, rfl, rfl, g1, g2, _, rfl, _, rfl, l, us2, _, _, rfl, rfl, g3, g4, _, _, rfl, rfl, rfl, ?_⟩
      have lz := Paired.len pF
      rw [List.length_map, List.length_take] at lz
      have fin : ∀ u H5, Same H3 H5 → rhTab K p H5 u (barTab w.1 b e ar) → ∃ l1 xs1 y, (V.ref aF) = .ref l1 ∧ [u] = [y] ∧ H5 l1 = some (.lst xs1) ∧ xs1.length < sizeLine ∧
          (∃ (zs' : List V) (w6 w7 w8 : Option V), [some v, some (.int p), some (.int b), some (.int e), some (.ref l), some (.ref aF), some (V.int ar.1), some (V.int ar.2), some (V.bl (decide (V.int (((barSizes w.1 b e).getD ar.1 0 : Nat) + ((barSizes w.1 b e).getD ar.2 0 : Nat) : Int) = V.int 2))), none] = [some v, some (.int p), some (.int b), some (.int e), some (.ref l), some (.ref aF), w6, w7, w8, none] ∧ Same H2 (upd H5 l1 (.lst (xs1 ++ [y]))) ∧ upd H5 l1 (.lst (xs1 ++ [y])) aF = some (.lst zs') ∧
            Paired (rhTab K p (upd H5 l1 (.lst (xs1 ++ [y])))) zs' ((w.2.take (i + 1)).map (barTab w.1 b e))) := by
        intro u H5 e5 hu
        have hF5 := e5 _ _ hF
        have kp5 : Keep H5 (upd H5 aF (.lst (zs ++ [u]))) := Keep.putL (Keep.refl _) hF5
        refine ⟨aF, zs, u, rfl, rfl, hF5, Nat.lt_of_le_of_lt (by omega : zs.length ≤ 1000) (by decide), zs ++ [u], _, _, _, rfl, Same.mut (Same.trans e4 e5) nF, upd_same, ?_⟩
        rw [List.take_add_one, har, List.map_append]
        exact Paired.app (Paired.keep immTab ((Keep.of e5).trans kp5) pF) (.cons (immTab _ _ _ _ kp5 hu) .nil)
      refine ⟨_, rfl, .inl ⟨rfl, _, SqL.of hF⟩, _, rfl, _, rfl, ?_⟩
      by_cases h0 : (barSizes w.1 b e).getD ar.1 0 + (barSizes w.1 b e).getD ar.2 0 = 2
      · rw [show decide (V.int (((barSizes w.1 b e).getD ar.1 0 : Nat) + ((barSizes w.1 b e).getD ar.2 0 : Nat) : Int) = V.int 2) = true from decide_eq_true (congrArg V.int (by omega))] at fin ⊢
        refine ite_t ⟨_, rfl, p, 1, rfl, by omega, fun u H5 e5 hu => fin u H5 e5 ?_⟩
        unfold barTab
        rw [if_pos h0]
        exact hu
      · rw [show decide (V.int (((barSizes w.1 b e).getD ar.1 0 : Nat) + ((barSizes w.1 b e).getD ar.2 0 : Nat) : Int) = V.int 2) = false from decide_eq_false (by intro z; have := V.int.inj z; omega)] at fin ⊢
        refine ite_f ⟨_, rfl, _, rfl, _, rfl, l, us2, _, _, rfl, rfl, g3, g4, _, rfl, _, rfl, l, us1, _, _, rfl, rfl, g1, g2, p, _, _, rfl, Nat.le_trans barSizes_le (by decide), Nat.le_trans barSizes_le (by decide), fun u H5 e5 hu => fin u H5 e5 ?_⟩
        unfold barTab
        rw [if_neg h0]
        exact hu
    · rintro σ H3 ⟨zs, v6, v7, v8, rfl, e4, hF, pF⟩
      refine ⟨_, rfl, _, rfl, _, rfl, _, rfl, aF, zs, rfl, .inl ⟨SqL.of hF, fun l2 n2 => ?_⟩⟩
      have e5 := Same.upd (o := .tup zs) n2
      refine make_pic kp (Same.trans e12 (Same.trans e4 e5)) (immWeb _ _ _ _ (Keep.of (Same.trans e12 (Same.trans e4 e5))) hw) (immT immN _ _ _ _ (Keep.of (Same.trans e4 e5)) hs) ?_ q
      rw [lx, List.take_length] at pF
      exact ⟨l2, zs, rfl, SqT.of upd_same, Paired.keep immTab (Keep.of e5) pF⟩
def sp_bar_of (K : PySem.W.Frag) : Sp := fun vs H Q _ => ∃ (p : Int) (v : V) (w : Nat × List (Nat × Nat)) (b e : Nat), vs = [v, .int p, .int b, .int e] ∧ okP p ∧ rhWeb K H v w ∧ lineOk w.1 w.2 ∧ b ≤ e ∧ e < w.1 ∧ Ret (rhPic K p) H Q (rawBar w.1 w.2 b e)
theorem pure_bar_of (vs : List V) (H : Hp) (Q : VK) (E : XK) (h : sp_bar_of K vs H Q E) : t_bar_of K (sp_is_line K) sp_check_prime (sp_check_stretch K) (sp_raw_bar K) (Ed Q) (start n_bar_of vs) H := by
  obtain ⟨p, v, w, b, e, rfl, hp, hw, hl, h1, h2, q⟩ := h
  refine ⟨_, rfl, v, w, rfl, hw, hl, fun H1 e1 => ⟨_, rfl, ite_f ⟨_, rfl, p, rfl, hp, ?_⟩⟩⟩
  have hw1 := immWeb _ _ _ _ (Keep.of e1) hw
  exact ⟨_, rfl, _, rfl, _, rfl, v, w, b, e, rfl, hw1, h1, h2, _, rfl, _, rfl, _, rfl, _, rfl, p, v, w, b, e, rfl, hw1, hl, fun u H2 e2 hu => q u H2 (Same.trans e1 e2) hu⟩
end
theorem ifd_f {P : Prop} [Decidable P] {A B : Prop} (h : ¬ P) (b : B) : if decide P = true then A else B := by rw [decide_eq_false h]; exact ite_f b
theorem ifd_t {P : Prop} [Decidable P] {A B : Prop} (h : P) (a : A) : if decide P = true then A else B := by rw [decide_eq_true h]; exact ite_t a
section
variable {K : PySem.W.Frag} {H : Hp} {Q : VK}
/-! Web.__eq__, is_picture_of -/
def sameWeb (K : PySem.W.Frag) : Addr → Addr → Hp → Prop := fun a b H => ∃ w, rhWeb K H (.ref a) w ∧ rhWeb K H (.ref b) w
def arMat (ar : List (Nat × Nat)) : List (List Int) := ar.map fun a => [(a.1 : Int), (a.2 : Int)]
theorem dp_prs : ∀ {xs : List V} {ar : List (Nat × Nat)}, Paired (rhPr K H) xs ar → DpAll K H xs ((arMat ar).map dRow)
  | _, _, .nil => .nil
  | _, _, .cons h t => .cons (dp_pr h) (dp_prs t)
theorem dp_arr {v : V} {ar : List (Nat × Nat)} (h : rhT K (rhPr K) H v ar) : Dp K H v (dMat (arMat ar)) := by
  obtain ⟨a, xs, rfl, h1, h2⟩ := h
  exact .tup h1 (dp_prs h2)
def dPair (i : Int) (m : List (List Int)) : PyData := .tuple [.int i, dMat m]
theorem shaped_pair (i : Int) (m : List (List Int)) : SeqAt.shaped (dPair i m) = true := by
  have h := dep_rows m
  exact shaped_of (by simp [dPair, PyData.canLay0, PyData.canLayAll0, dMat, lay_rows]) (by simp only [dPair, dMat, PyData.depth, PyData.depthAll]; omega)
theorem eqv_pair (i : Int) (m : List (List Int)) : PyData.eqv (dPair i m) (dPair i m) = true := by
  simp [dPair, PyData.eqv, PyData.eqvAll, eqv_mat]
theorem ty_web {v : V} {w : Nat × List (Nat × Nat)} (h : rhWeb K H v w) : ∃ C, TyX K H v (.ref C) ∧ PySem.W.kitOne K (.ref C) (.ref (ad K "Web")) = some true := by
  obtain ⟨a, C, dx, fs, va, rfl, h2, h3⟩ := h
  exact ⟨C, h3.k.ty h2, h3.isW⟩
theorem pure_Web_eq (vs : List V) (H : Hp) (Q : VK) (E : XK) (h : spEq (sameWeb K) vs H Q E) : t_Web_eq K (Ed Q) (start n_Web_eq vs) H := by
  obtain ⟨a, b, rfl, ⟨w, ha, hb⟩, q⟩ := h
  obtain ⟨C, ty, ki⟩ := ty_web hb
  refine ⟨_, rfl, _, _, _, _, true, rfl, .own _, ty, ki, true, rfl, ite_t ⟨_, rfl, ?_⟩⟩
  refine fd_many ha ?_
  refine ⟨_, rfl, ?_⟩
  refine fd_arrows ha fun va hva => ?_
  refine ⟨(by show 2 ≤ sizeLine; decide), fun t1 n1 => ⟨_, rfl, ?_⟩⟩
  have e1 := Same.upd (o := .tup [.int w.1, va]) n1
  refine fd_many (immWeb _ _ _ _ (Keep.of e1) hb) ?_
  refine ⟨_, rfl, ?_⟩
  refine fd_arrows (immWeb _ _ _ _ (Keep.of e1) hb) fun vb hvb => ?_
  refine ⟨(by show 2 ≤ sizeLine; decide), fun t2 n2 => ?_⟩
  have e2 := Same.upd (o := .tup [.int w.1, vb]) n2
  refine ⟨dPair w.1 (arMat w.2), dPair w.1 (arMat w.2), .tup (SqT.of (e2 _ _ upd_same)) (.cons (.int _) (.cons (dp_arr (immT immPr _ _ _ _ (Keep.of (Same.trans e1 e2)) hva)) .nil)), .tup (SqT.of upd_same) (.cons (.int _) (.cons (dp_arr (immT immPr _ _ _ _ (Keep.of e2) hvb)) .nil)), shaped_pair _ _, shaped_pair _ _, ?_⟩
  rw [eqv_pair]
  exact q _ (fun b o z => Same.trans e1 e2 b o z)
def D_web (K : PySem.W.Frag) : Eqv := DIns (ad K "RawWeb") (sameWeb K)
theorem ty_pic {p : Int} {v : V} {c : Pc} (h : rhPic K p H v c) : ∃ C, TyX K H v (.ref C) ∧ PySem.W.kitOne K (.ref C) (.ref (ad K "Picture")) = some true := by
  obtain ⟨a, C, dx, fs, vw, vS, vt, rfl, h2, h3⟩ := h
  exact ⟨C, h3.k.ty h2, h3.isP⟩
theorem ty_tab {p : Int} {v : V} {t : Tb} (h : rhTab K p H v t) : ∃ C, TyX K H v (.ref C) ∧ PySem.W.kitOne K (.ref C) (.ref (ad K "Table")) = some true := by
  obtain ⟨a, C, dx, fs, vr, rfl, h2, h3⟩ := h
  exact ⟨C, h3.k.ty h2, h3.isT⟩
def sp_is_picture_of (K : PySem.W.Frag) : Sp := fun vs H Q _ => ∃ (p : Int) (v u : V) (w : Nat × List (Nat × Nat)) (c : Pc), vs = [v, .int p, u] ∧ rhWeb K H v w ∧ rhPic K p H u c ∧ w = (c.many, c.arrows) ∧ ∀ H', Same H H' → Q (.bl true) H'
theorem pure_is_picture_of (vs : List V) (H : Hp) (Q : VK) (E : XK) (h : sp_is_picture_of K vs H Q E) : t_is_picture_of K (D_web K) (Ed Q) (start n_is_picture_of vs) H := by
  obtain ⟨p, v, u, w, c, rfl, hw, hc, rfl, q⟩ := h
  obtain ⟨C, ty, ki⟩ := ty_pic hc
  refine ⟨_, rfl, _, _, _, _, true, rfl, .own _, ty, ki, true, rfl, ite_t ⟨_, rfl, ?_⟩⟩
  refine fd_web hc fun vw hvw => ?_
  have hw0 := hw
  have hvw0 := hvw
  obtain ⟨a1, C1, dx1, fs1, va1, rfl, g1, g2⟩ := hw
  obtain ⟨a2, C2, dx2, fs2, va2, rfl, g3, g4⟩ := hvw
  have ec1 := g2.eC
  have ec2 := g4.eC
  subst ec1 ec2
  refine ⟨_, rfl, ⟨a2, a1, dx2, dx1, fs2, fs1, rfl, rfl, g3, g1, _, hvw0, hw0⟩, fun H1 e1 => ⟨true, rfl, ite_t ⟨_, rfl, ?_⟩⟩⟩
  refine fd_pprime (immPic _ _ _ _ (Keep.of e1) hc) ?_
  refine ⟨_, rfl, rfl, ?_⟩
  rw [show decide (V.int p = V.int p) = true from decide_eq_true rfl]
  exact q H1 e1
/-! raw_beside, beside -/
def tbLe (n : Nat) (t : Tb) : Prop := t.wide ≤ n ∧ t.rows.length ≤ n ∧ ∀ r ∈ t.rows, r.length ≤ n
theorem tbLe_corner {n m : Nat} {s t : Tb} (h1 : tbLe n s) (h2 : tbLe m t) : tbLe (n + m) (tbCorner s t) := by
  have a1 := h1.1; have a2 := h2.1; have b1 := h1.2.1; have b2 := h2.2.1
  refine ⟨by show s.wide + t.wide ≤ _; omega, by simp [tbCorner, cornerR]; omega, fun r hr => ?_⟩
  unfold tbCorner cornerR at hr
  rcases List.mem_append.mp hr with hr | hr
  · obtain ⟨r0, h0, rfl⟩ := List.mem_map.mp hr
    have := h1.2.2 r0 h0
    simp [nils]
    omega
  · obtain ⟨r0, h0, rfl⟩ := List.mem_map.mp hr
    have := h2.2.2 r0 h0
    simp [nils]
    omega
/-- pictures of one web, their tables small -/
def pcLe (w : Nat × List (Nat × Nat)) (c : Pc) : Prop := c.many = w.1 ∧ c.arrows = w.2 ∧ c.sizes.length = w.1 ∧ c.tables.length = w.2.length ∧ ∀ t ∈ c.tables, tbLe 1 t
def besides (w : Nat × List (Nat × Nat)) (cs : List Pc) : List Nat × List Tb := cs.foldl addPc (List.replicate w.1 0, w.2.map fun _ => ⟨0, noughtR 0 0⟩)
theorem besides_app (w : Nat × List (Nat × Nat)) (cs : List Pc) (c : Pc) : besides w (cs ++ [c]) = addPc (besides w cs) c := by
  unfold besides
  rw [List.foldl_append]
  rfl
theorem besides_ok {w : Nat × List (Nat × Nat)} : ∀ (n : Nat) (cs : List Pc), cs.length = n → (∀ c ∈ cs, pcLe w c) → (besides w cs).1.length = w.1 ∧ (besides w cs).2.length = w.2.length ∧ ∀ t ∈ (besides w cs).2, tbLe n t
  | 0, cs, hn, _ => by
    have e : cs = [] := List.eq_nil_of_length_eq_zero hn
    subst e
    refine ⟨by simp [besides], by simp [besides], fun t ht => ?_⟩
    obtain ⟨_, _, rfl⟩ := List.mem_map.mp ht
    exact ⟨Nat.le_refl _, Nat.le_refl _, fun r hr => (nomatch hr)⟩
  | n + 1, cs, hn, h => by
    obtain ⟨cs0, c, rfl⟩ : ∃ cs0 c, cs = cs0 ++ [c] := ⟨cs.dropLast, cs.getLast (by intro z; rw [z] at hn; cases hn), (List.dropLast_concat_getLast _).symm⟩
    have hc := h c (by simp)
    obtain ⟨i1, i2, i3⟩ := besides_ok n cs0 (by simpa using hn) fun c hc => h c (by simp [hc])
    rw [besides_app]
    refine ⟨by simp [addPc, i1, hc.2.2.1], by simp [addPc, i2, hc.2.2.2.1], fun t ht => ?_⟩
    unfold addPc at ht
    obtain ⟨i, hi, rfl⟩ := List.getElem_of_mem ht
    rw [List.getElem_zipWith]
    exact tbLe_corner (i3 _ (List.getElem_mem _)) (hc.2.2.2.2 _ (List.getElem_mem _))
def sp_raw_beside (K : PySem.W.Frag) : Sp := fun vs H Q _ => ∃ (p : Int) (v : V) (w : Nat × List (Nat × Nat)) (a : Addr) (xs : List V) (cs : List Pc), vs = [v, .int p, .ref a] ∧ rhWeb K H v w ∧ SqL K H a xs ∧ Paired (rhPic K p H) xs cs ∧ w.1 ≤ 8 ∧ w.2.length ≤ 12 ∧ cs.length ≤ 12 ∧ (∀ c ∈ cs, pcLe w c) ∧
  Ret (rhPic K p) H Q (rawBeside w.1 w.2 cs)
theorem pure_raw_beside (kp : KPic K (ad K "RawPicture")) (vs : List V) (H : Hp) (Q : VK) (E : XK) (h : sp_raw_beside K vs H Q E) : t_raw_beside K (sp_raw_nought K) (sp_raw_corner K) (sp_RawPicture_init K) (Ed Q) (start n_raw_beside vs) H := by
  obtain ⟨p, v, w, a, xs, cs, rfl, hw, h1, h2, hm, ha, hz, hcs, q⟩ := h
  have lx := Paired.len h2
  refine ⟨(by show 1 ≤ sizeLine; decide), fun l0 n0 => ⟨_, rfl, ?_⟩⟩
  have e0 := Same.upd (o := .lst [.int 0]) n0
  refine fd_many (immWeb _ _ _ _ (Keep.of e0) hw) ?_
  refine ⟨l0, _, _, rfl, rfl, upd_same, by omega, by omega, Nat.le_trans (by rw [Int.toNat_natCast]; show 1 * w.1 ≤ 1000; omega) (by decide), fun aS nS => ?_⟩
  have e1 := Same.upd (o := .lst (List.replicate (w.1 : Int).toNat [V.int 0]).flatten) nS
  have e01 := Same.trans e0 e1
  have hS : ∀ o, upd (upd H l0 (.lst [.int 0])) aS o aS = some o := fun o => upd_same
  rw [Int.toNat_natCast, rep1] at e1 e01 ⊢
  refine ⟨_, rfl, ?_⟩
  refine fd_arrows (immWeb _ _ _ _ (Keep.of e01) hw) fun va hva => ?_
  obtain ⟨b, ws, rfl, h3, h4⟩ := hva
  have lw := Paired.len h4
  refine ⟨b, rfl, ⟨_, h3⟩, fun aT nT => ?_⟩
  refine lc_all (r := rhTab K p) (walk_tup (xs := ws)) (w.2.map fun _ => ⟨0, noughtR 0 0⟩) (by simp [lw]) (by omega) immTab nT (fun H' e => Same.tup e h3) ?_ ?_
  · rintro i x c H1 H2 Q' hc e2 ⟨rfl, hx⟩ k'
    have ec : c = ⟨0, noughtR 0 0⟩ := by
      rw [List.getElem?_map] at hc
      cases e9 : w.2[i]? with
      | none => rw [e9] at hc; cases hc
      | some z => rw [e9] at hc; exact (Option.some.inj hc).symm
    subst ec
    exact ⟨rfl, _, rfl, p, 0, 0, rfl, by omega, by omega, k'⟩
  · intro H2 ts e2 f1 f2
    have eS : H2 aS = some (.lst (List.replicate w.1 (V.int 0))) := e2 _ _ (hS _)
    have e02 := Same.trans e01 e2
    refine ⟨_, rfl, a, rfl, ⟨_, e02.seq h1⟩, ?_⟩
    refine for_it (walk_list (xs := xs)) (fun i σ H' => ∃ (aS aT : Addr) (ss ts : List V) (v5 : Option V), σ = [some v, some (.int p), some (.ref a), some (.ref aS), some (.ref aT), v5, none, none, none] ∧ Same H H' ∧ H' aS = some (.lst ss) ∧ H' aT = some (.lst ts) ∧
        Paired (rhN H') ss (besides w (cs.take i)).1 ∧ Paired (rhTab K p H') ts (besides w (cs.take i)).2)
      ⟨aS, aT, _, ts, none, rfl, e02, eS, f1, ?_, f2⟩ (fun i σ H' _ ⟨_, _, _, _, _, _, e4, _⟩ => e4.seq h1) ?_ ?_
    · exact Paired.rep (R := rhN H2) (show rhN H2 (V.int 0) 0 from rfl) w.1
    · rintro i x σ H0 H3 hi ⟨aS, aT, ss, ts, v5, rfl, e3, hS3, hT3, pS, pT⟩ ⟨rfl, hx⟩
      obtain ⟨c, hc1, hc2⟩ := Paired.at h2 hx
      have hcc := hcs c (List.mem_of_getElem? hc1)
      have hi2 : i < cs.length := (List.getElem?_eq_some_iff.mp hc1).1
      obtain ⟨o1, o2, o3⟩ := besides_ok i (cs.take i) (by rw [List.length_take]; omega) fun c hc => hcs c (List.mem_of_mem_take hc)
      have enx : besides w (cs.take (i + 1)) = addPc (besides w (cs.take i)) c := by
        rw [List.take_add_one, hc1]
        exact besides_app w _ c
      generalize besides w (cs.take i) = B at pS pT o1 o2 o3 enx
      have lS := Paired.len pS
      have lT := Paired.len pT
      refine ⟨_, rfl, _, rfl, ?_⟩
      refine fd_sizes (immPic _ _ _ _ (Keep.of e3) hc2) fun vS hvS => ?_
      obtain ⟨b1, us, rfl, g1, g2⟩ := hvS
      have lu := Paired.len g2
      refine ⟨aS, b1, ss, us, rfl, SqL.of hS3, g1, fun D hD => ?_⟩
      refine lc_all (r := rhN) (wk_zipLT (n := w.1) (xs := ss) (ys := us) (by omega) (by rw [lu]; exact hcc.2.2.1.symm)) (List.zipWith (fun a b => a + b) B.1 c.sizes) (by simp [o1, hcc.2.2.1]) (by omega) immN hD (fun H' e => ⟨SqL.of (e _ _ hS3), Same.tup e g1⟩) ?_ ?_
      · rintro j y d H4 H5 Q' hd e4 ⟨t, y1, y2, rfl, nt, rfl, k1, k2⟩ k'
        obtain ⟨m1, m2, m3⟩ := Paired.at pS k1
        obtain ⟨m4, m5, m6⟩ := Paired.at g2 k2
        cases m3; cases m6
        refine g_pair upd_same ⟨rfl, _, rfl, _, rfl, _, _, rfl, rfl, k' _ _ (Same.upd nt) ?_⟩
        have : d = m1 + m4 := by
          rw [List.getElem?_zipWith, m2, m5] at hd
          exact (Option.some.inj hd).symm
        rw [this]
        show V.int _ = V.int _
        congr 1
      · intro H4 ss2 e4 f3 f4
        have hc4 := immPic _ _ _ _ (Keep.of (Same.trans e3 e4)) hc2
        refine ⟨_, rfl, _, rfl, ?_⟩
        refine fd_tables hc4 fun vt hvt => ?_
        obtain ⟨b2, us2, rfl, g3, g4⟩ := hvt
        have lu2 := Paired.len g4
        refine ⟨aT, b2, ts, us2, rfl, SqL.of (e4 _ _ hT3), g3, fun D2 hD2 => ?_⟩
        refine lc_all (r := rhTab K p) (wk_zipLT (n := w.2.length) (xs := ts) (ys := us2) (by omega) (by rw [lu2]; exact hcc.2.2.2.1.symm)) (List.zipWith tbCorner B.2 c.tables) (by simp [o2, hcc.2.2.2.1]) (by omega) immTab hD2 (fun H' e => ⟨SqL.of (e _ _ (e4 _ _ hT3)), Same.tup e g3⟩) ?_ ?_
        · rintro j y d H5 H6 Q' hd e5 ⟨t, y1, y2, rfl, nt, rfl, k1, k2⟩ k'
          obtain ⟨m1, m2, m3⟩ := Paired.at pT k1
          obtain ⟨m4, m5, m6⟩ := Paired.at g4 k2
          have e6 := Same.upd (o := .tup [y1, y2]) nt
          have b1 := o3 m1 (List.mem_of_getElem? m2)
          have b2 := hcc.2.2.2.2 m4 (List.mem_of_getElem? m5)
          refine g_pair upd_same ⟨rfl, _, rfl, _, rfl, p, y1, y2, m1, m4, rfl, immTab _ _ _ _ (Keep.of (Same.trans e4 (Same.trans e5 e6))) m3, immTab _ _ _ _ (Keep.of (Same.trans e5 e6)) m6, ?_, ?_, ?_, ?_, fun r hr => ?_, fun r hr => ?_, fun u H7 e7 h7 => k' u H7 (Same.trans e6 e7) ?_⟩
          · have := b1.2.1; omega
          · have := b2.2.1; omega
          · have := b1.1; omega
          · have := b2.1; omega
          · have := b1.2.2 r hr; omega
          · have := b2.2.2 r hr; omega
          · have : d = tbCorner m1 m4 := by
              rw [List.getElem?_zipWith, m2, m5] at hd
              exact (Option.some.inj hd).symm
            rw [this]
            exact h7
        · intro H5 ts2 e5 f5 f6
          refine ⟨D, D2, ss2, ts2, _, rfl, Same.trans e3 (Same.trans e4 e5), e5 _ _ f3, f5, ?_, ?_⟩
          · rw [enx]
            exact Paired.keep immN (Keep.of e5) f4
          · rw [enx]
            exact f6
    · rintro σ H3 ⟨aS, aT, ss, ts, v5, rfl, e3, hS3, hT3, pS, pT⟩
      rw [lx, List.take_length] at pS pT
      refine ⟨_, rfl, _, rfl, _, rfl, aS, ss, rfl, .inl ⟨SqL.of hS3, fun l1 n1 => ⟨_, rfl, aT, ts, rfl, .inl ⟨SqL.of ((Same.upd n1) _ _ hT3), fun l2 n2 => ?_⟩⟩⟩⟩
      have e4 := Same.upd (o := .tup ss) n1
      have e5 := Same.upd (o := .tup ts) n2
      refine make_pic kp (Same.trans e3 (Same.trans e4 e5)) (immWeb _ _ _ _ (Keep.of (Same.trans e3 (Same.trans e4 e5))) hw) ⟨l1, ss, rfl, SqT.of (e5 _ _ upd_same), Paired.keep immN (Keep.of (Same.trans e4 e5)) pS⟩ ⟨l2, ts, rfl, SqT.of upd_same, Paired.keep immTab (Keep.of (Same.trans e4 e5)) pT⟩ q
def sp_beside (K : PySem.W.Frag) : Sp := fun vs H Q _ => ∃ (p : Int) (v : V) (w : Nat × List (Nat × Nat)) (a : Addr) (xs : List V) (cs : List Pc), vs = [v, .int p, .ref a] ∧ okP p ∧ rhWeb K H v w ∧ H a = some (.lst xs) ∧ Paired (rhPic K p H) xs cs ∧ w.1 ≤ 8 ∧ w.2.length ≤ 12 ∧ cs.length ≤ 12 ∧ (∀ c ∈ cs, pcLe w c) ∧
  Ret (rhPic K p) H Q (rawBeside w.1 w.2 cs)
theorem pure_beside (vs : List V) (H : Hp) (Q : VK) (E : XK) (h : sp_beside K vs H Q E) : t_beside K sp_check_prime (sp_is_picture_of K) (sp_raw_beside K) (Ed Q) (start n_beside vs) H := by
  obtain ⟨p, v, w, a, xs, cs, rfl, hp, hw, h1, h2, hm, ha, hz, hcs, q⟩ := h
  have lx := Paired.len h2
  refine ⟨_, rfl, p, rfl, hp, ?_⟩
  refine ⟨_, rfl, (by show 2 ≤ sizeLine; decide), fun t nt => ?_⟩
  have e1 := Same.upd (o := .tup [.ty "list", .ty "tuple"]) nt
  refine ⟨.ref a, t, [.ty "list", .ty "tuple"], .type "list", [.type "list", .type "tuple"], true, rfl, upd_same, .cons (.ty _) (.cons (.ty _) .nil), .base (.lst (e1 _ _ h1)), kitAny_cons (kit_ty (a := "list") (b := "list") (r := true) (by decide +kernel)) (fun z => nomatch z) (fun _ => rfl), ?_⟩
  have q2 : SqL K (upd H t (.tup [.ty "list", .ty "tuple"])) a xs := SqL.of (e1 _ _ h1)
  refine ⟨true, rfl, ?_⟩
  refine ⟨_, rfl, a, xs, rfl, .inl q2, _, _, rfl, rfl, ?_⟩
  refine ⟨_, rfl, ifd_f (by omega) ?_⟩
  refine ⟨_, rfl, a, rfl, ⟨_, q2⟩, fun D hD => ?_⟩
  refine lc_all (r := rhB) (walk_list (xs := xs)) (List.replicate xs.length true) (by simp) (by omega) immB hD (fun H' e => e.seq q2) ?_ ?_
  · rintro i x c H1 H2 Q' hc e2 ⟨rfl, hx⟩ k'
    obtain ⟨m, m2, m3⟩ := Paired.at h2 hx
    have hm2 := hcs m (List.mem_of_getElem? m2)
    refine ⟨rfl, _, rfl, _, rfl, _, rfl, p, v, x, w, m, rfl, immWeb _ _ _ _ (Keep.of (Same.trans e1 e2)) hw, immPic _ _ _ _ (Keep.of (Same.trans e1 e2)) m3, by rw [hm2.1, hm2.2.1], fun H3 e3 => k' _ H3 e3 ?_⟩
    have ec : c = true := (List.mem_replicate.mp (List.mem_of_getElem? hc)).2
    subst ec
    rfl
  · intro H2 bs e2 f1 f2
    have e3 := Same.trans e1 e2
    refine ⟨_, _, rfl, SqL.of (by rw [← bls_of f2]; exact f1), true, by rw [rep_true], ?_⟩
    exact ⟨_, rfl, _, rfl, _, rfl, p, v, w, a, xs, cs, rfl, immWeb _ _ _ _ (Keep.of e3) hw, SqL.of (e3 _ _ h1), Paired.keep immPic (Keep.of e3) h2, hm, ha, hz, hcs, fun u H4 e4 r4 => q u H4 (Same.trans e3 e4) r4⟩
end
/-- a picture of a line, its tables fit -/
structure PcOk (p : Int) (c : Pc) : Prop where
  li : lineOk c.many c.arrows
  ns : c.sizes.length = c.many
  sz : ∀ n ∈ c.sizes, n ≤ 6
  nt : c.tables.length = c.arrows.length
  fit : ∀ (k : Nat) a t, c.arrows[k]? = some a → c.tables[k]? = some t → t.wide = szAt c a.2 + t.wide - szAt c a.2 ∧ t.wide = szAt c a.1 ∧ t.rows.length = szAt c a.2 ∧ okMat p t.wide t.rows
theorem szAt_le {p : Int} {c : Pc} (h : PcOk p c) (i : Nat) : szAt c i ≤ 6 := by
  unfold szAt
  rw [List.getD_eq_getElem?_getD]
  cases e : c.sizes[i]? with
  | none => exact Nat.zero_le _
  | some n => exact h.sz n (List.mem_of_getElem? e)
theorem redRows_okM {p : Int} (hp : 0 < p) {wide : Nat} {rows : List (List Int)} (h : okMat p wide rows) : okMat p wide (redRows p wide rows) ∧ (redRows p wide rows).length ≤ rows.length := by
  have := redTo_ok hp h wide
  exact ⟨this.found, by have := this.len; unfold redRows; omega⟩
/-- what undoneR hands out -/
theorem undone_okM {p : Int} (hp : 1 < p) {n : Nat} {rows u : List (List Int)} (h : okMat p n rows) (e : undoneR p n rows = some u) : okMat p n u ∧ u.length = n := by
  obtain ⟨e1, rfl⟩ := undone_some e
  have r := redTo_ok (p := p) (by omega) (besideUnit_ok hp h) (2 * n)
  have l := r.pl
  unfold redPlaces at e1
  rw [e1, List.length_range] at l
  refine ⟨fun x hx => ?_, by rw [List.length_map]; exact l.symm⟩
  obtain ⟨y, hy, rfl⟩ := List.mem_map.mp hx
  have hy2 := r.found y hy
  exact ⟨by rw [List.length_drop, hy2.1]; omega, fun z hz => hy2.2 z (List.mem_of_mem_drop hz)⟩
theorem timesR_okM {p : Int} (hp : 0 < p) {one other : List (List Int)} {wide : Nat} : okMat p wide (timesR p one wide other) ∧ (timesR p one wide other).length = one.length := by
  unfold timesR
  refine ⟨fun r hr => ?_, (colsOf_len _ _).1⟩
  refine ⟨by rw [(colsOf_len _ _).2 r hr, List.length_map, (colsOf_len _ _).1], fun x hx => ?_⟩
  unfold colsOf at hr
  obtain ⟨a, ha, rfl⟩ := List.mem_map.mp hr
  obtain ⟨c, hc, rfl⟩ := List.mem_map.mp hx
  obtain ⟨d, _, rfl⟩ := List.mem_map.mp hc
  have hl : a < (ledOn p one d).length := by simpa [ledOn] using ha
  have hm := getD_mem hl
  unfold ledOn at hm ⊢
  obtain ⟨r, _, e⟩ := List.mem_map.mp hm
  rw [← e]
  exact ⟨Int.emod_nonneg _ (by omega), Int.emod_lt_of_pos _ hp⟩
theorem okMat.small {p : Int} {n : Nat} {m : List (List Int)} (h : okMat p n m) (hp : p ≤ 1000) : ∀ r ∈ m, r.length = n ∧ smallR r := fun r hr => ⟨(h r hr).1, (h r hr).small hp⟩
section
variable {K : PySem.W.Frag} {H : Hp} {Q : VK}
/-! is_fit_table, raw_based, based -/
def sp_is_fit_table (K : PySem.W.Frag) : Sp := fun vs H Q _ => ∃ (p : Int) (v : V) (t : Tb), vs = [.int p, .int (t.rows.length : Int), .int (t.wide : Int), v] ∧ rhTab K p H v t ∧ ∀ H', Same H H' → Q (.bl true) H'
theorem pure_is_fit_table (vs : List V) (H : Hp) (Q : VK) (E : XK) (h : sp_is_fit_table K vs H Q E) : t_is_fit_table K (Ed Q) (start n_is_fit_table vs) H := by
  obtain ⟨p, v, t, rfl, ht, q⟩ := h
  obtain ⟨C, ty, ki⟩ := ty_tab ht
  refine ⟨_, rfl, _, _, _, _, true, rfl, .own _, ty, ki, true, rfl, ite_t ⟨_, rfl, ?_⟩⟩
  refine fd_prime ht ?_
  refine ⟨_, rfl, ?_⟩
  refine fd_high ht ?_
  refine ⟨_, rfl, ?_⟩
  refine fd_wide ht ?_
  refine ⟨(by show 3 ≤ sizeLine; decide), fun t1 n1 => ⟨_, rfl, _, rfl, _, rfl, (by show 3 ≤ sizeLine; decide), fun t2 n2 => ?_⟩⟩
  have e1 := Same.upd (o := .tup [.int p, .int (t.rows.length : Int), .int (t.wide : Int)]) n1
  have e2 := Same.upd (o := .tup [.int p, .int (t.rows.length : Int), .int (t.wide : Int)]) n2
  refine ⟨dRow [p, t.rows.length, t.wide], dRow [p, t.rows.length, t.wide], dp_row (SqT.of (e2 _ _ upd_same)), dp_row (SqT.of upd_same), shaped_row _, shaped_row _, ?_⟩
  rw [eqv_row, decide_eq_true rfl]
  exact q _ (Same.trans e1 e2)
def basedTab (p : Int) (ts : List Tb) (a : Nat × Nat) (t : Tb) : Tb :=
  ⟨(ts.getD a.1 ⟨0, []⟩).wide, timesR p (ts.getD a.2 ⟨0, []⟩).rows (ts.getD a.1 ⟨0, []⟩).wide (timesR p t.rows (ts.getD a.1 ⟨0, []⟩).wide ((undoneR p (ts.getD a.1 ⟨0, []⟩).wide (ts.getD a.1 ⟨0, []⟩).rows).getD []))⟩
theorem rawBased_eq (p : Int) (q : Pc) (ts : List Tb) : rawBased p q ts = ⟨q.many, q.arrows, q.sizes, List.zipWith (basedTab p ts) q.arrows q.tables⟩ := rfl
/-- tables by which a picture is led over -/
structure BaseOk (p : Int) (c : Pc) (ts : List Tb) : Prop where
  len : ts.length = c.many
  at_ : ∀ (i : Nat) t, ts[i]? = some t → t.wide = szAt c i ∧ t.rows.length = szAt c i ∧ okMat p t.wide t.rows ∧ ∃ u, undoneR p t.wide t.rows = some u
def sp_raw_based (K : PySem.W.Frag) : Sp := fun vs H Q _ => ∃ (p : Int) (v u : V) (c : Pc) (ts : List Tb), vs = [v, u] ∧ okP p ∧ rhPic K p H v c ∧ PcOk p c ∧ rhT K (rhTab K p) H u ts ∧ BaseOk p c ts ∧ Ret (rhPic K p) H Q (rawBased p c ts)
theorem pure_raw_based (kp : KPic K (ad K "RawPicture")) (vs : List V) (H : Hp) (Q : VK) (E : XK) (h : sp_raw_based K vs H Q E) : t_raw_based K (sp_undone K) (sp_raw_times K) (sp_RawPicture_init K) (Ed Q) (start n_raw_based vs) H := by
  obtain ⟨p, v, u, c, ts, rfl, hp, hc, ok, hu, bo, q⟩ := h
  have hp1 := hp.lo
  have hp2 := hp.hi
  obtain ⟨aU, us, rfl, hU, pU⟩ := hu
  refine ⟨(by decide), fun aF nF => ?_⟩
  have e0 := Same.upd (o := .lst []) nF
  refine ⟨_, rfl, ?_⟩
  refine fd_web (immPic _ _ _ _ (Keep.of e0) hc) fun vw hw => ?_
  refine fd_arrows hw fun va hva => ?_
  refine ⟨_, rfl, ?_⟩
  refine fd_tables (immPic _ _ _ _ (Keep.of e0) hc) fun vt hvt => ?_
  obtain ⟨aA, xs, rfl, h1, h2⟩ := hva
  obtain ⟨aT, ys, rfl, h3, h4⟩ := hvt
  have l1 := Paired.len h2
  have l2 := Paired.len h4
  have lnt := ok.nt
  have lia : c.arrows.length + 1 = c.many := ok.li.1
  have lim : c.many ≤ 8 := ok.li.2.1
  have l1' : xs.length = c.arrows.length := l1
  refine ⟨aA, aT, xs, ys, rfl, .inr ⟨h1, h3, ?_⟩⟩
  have kp0 : ∀ {H'}, Same H H' → (∃ zs, H' aF = some (.lst zs)) → Keep (upd H aF (.lst [])) H' := by
    intro H' e4 hz b o st ho
    by_cases z : b = aF
    · subst z
      rw [upd_same] at ho
      cases ho
      exact st.elim
    · rw [upd_ne z] at ho
      exact e4 _ _ ho
  refine for_it (wk_zipT (n := xs.length) (xs := xs) (ys := ys) rfl (by show xs.length = ys.length; rw [l1, l2]; exact lnt.symm)) (fun i σ H' => ∃ (zs : List V) (v3 v4 v5 : Option V), σ = [some v, some (.ref aU), some (.ref aF), v3, v4, v5] ∧ Same H H' ∧ H' aF = some (.lst zs) ∧
      Paired (rhTab K p H') zs ((List.zipWith (basedTab p ts) c.arrows c.tables).take i))
    ⟨[], none, none, none, rfl, e0, upd_same, .nil⟩ (fun i σ H' _ ⟨zs, _, _, _, _, e4, hF, _⟩ => ⟨Keep.tup (kp0 e4 ⟨_, hF⟩) h1, Keep.tup (kp0 e4 ⟨_, hF⟩) h3⟩) ?_ ?_
  · rintro i x σ H0 H1 hi ⟨zs, v3, v4, v5, rfl, e4, hF, pF⟩ ⟨t0, y1, y2, rfl, nt, rfl, g1, g2⟩
    have k0 := kp0 e4 ⟨_, hF⟩
    obtain ⟨a, ha, hpr⟩ := Paired.at h2 g1
    obtain ⟨t, ht1, ht2⟩ := Paired.at h4 g2
    have lt := ok.li.lt ha
    obtain ⟨_, f1, f2, f3⟩ := ok.fit i a t ha ht1
    have e5 := Same.upd (o := .tup [y1, y2]) nt
    have k05 := k0.trans (Keep.of e5)
    have e45 := Same.trans e4 e5
    obtain ⟨aP, rfl, hP⟩ := immPr _ _ _ _ k05 hpr
    have hF5 := e5 _ _ hF
    have pF5 := Paired.keep immTab (Keep.of e5) pF
    have ht5 := immTab _ _ _ _ k05 ht2
    have hT0 : SqT K (upd H0 t0 (.tup [.ref aP, y2])) t0 [.ref aP, y2] := SqT.of upd_same
    generalize upd H0 t0 (.tup [.ref aP, y2]) = H5 at e5 e45 hF5 pF5 ht5 hP hT0 ⊢
    refine ⟨t0, _, rfl, hT0, rfl, _, _, rfl, ⟨aP, _, rfl, hP, rfl, _, _, rfl, _, _, rfl, rfl, _, _, rfl, rfl, ?_⟩⟩
    have lus := Paired.len pU
    have b2 : ts[a.2]? = some (ts.getD a.2 ⟨0, []⟩) := by rw [List.getD_eq_getElem?_getD, List.getElem?_eq_getElem (by rw [bo.len]; exact lt.2)]; rfl
    have b1 : ts[a.1]? = some (ts.getD a.1 ⟨0, []⟩) := by rw [List.getD_eq_getElem?_getD, List.getElem?_eq_getElem (by rw [bo.len]; exact lt.1)]; rfl
    obtain ⟨w1, w2, w3, uu, w4⟩ := bo.at_ _ _ b1
    obtain ⟨m1, m2, m3, _⟩ := bo.at_ _ _ b2
    have ebt : basedTab p ts a t = ⟨(ts.getD a.1 ⟨0, []⟩).wide, timesR p (ts.getD a.2 ⟨0, []⟩).rows (ts.getD a.1 ⟨0, []⟩).wide (timesR p t.rows (ts.getD a.1 ⟨0, []⟩).wide uu)⟩ := by
      unfold basedTab
      rw [w4]
      rfl
    generalize ts.getD a.1 ⟨0, []⟩ = T1 at b1 w1 w2 w3 w4 ebt
    generalize ts.getD a.2 ⟨0, []⟩ = T2 at b2 m1 m2 m3 ebt
    obtain ⟨x2, hx2, ht_2⟩ := Paired.to pU b2
    obtain ⟨x1, hx1, ht_1⟩ := Paired.to pU b1
    have s1 := szAt_le ok a.1
    have s2 := szAt_le ok a.2
    obtain ⟨uo1, uo2⟩ := undone_okM (by omega) w3 w4
    refine ⟨_, rfl, .inl ⟨rfl, _, SqL.of hF5⟩, _, rfl, _, rfl, aU, us, _, _, rfl, rfl, Same.tup e45 hU, atI_nat hx2, _, rfl, _, rfl, _, rfl, aU, us, _, _, rfl, rfl, Same.tup e45 hU, atI_nat hx1, p, x1, T1, uu, rfl, immTab _ _ _ _ (Keep.of e45) ht_1, by omega, by omega, by omega, by omega, w3, w4, fun v6 H6 e6 h6 => ?_⟩
    refine ⟨p, y2, v6, t, ⟨T1.wide, uu⟩, rfl, immTab _ _ _ _ (Keep.of e6) ht5, h6, by omega, by omega, by show uu.length ≤ 1000; omega, by show T1.wide ≤ 1000; omega, fun r hr => ⟨by show r.length = uu.length; rw [(f3 r hr).1]; omega, (f3 r hr).small (by omega)⟩, fun r hr => (uo1 r hr).1, fun v7 H7 e7 h7 => ?_⟩
    obtain ⟨tm1, tm2⟩ := timesR_okM (p := p) (by omega) (one := t.rows) (other := uu) (wide := T1.wide)
    refine ⟨p, x2, v7, T2, ⟨T1.wide, timesR p t.rows T1.wide uu⟩, rfl, immTab _ _ _ _ (Keep.of (Same.trans e45 (Same.trans e6 e7))) ht_2, h7, by omega, by omega, by show (timesR p t.rows T1.wide uu).length ≤ 1000; omega, by show T1.wide ≤ 1000; omega, fun r hr => ⟨by show r.length = (timesR p t.rows T1.wide uu).length; rw [(m3 r hr).1]; omega, (m3 r hr).small (by omega)⟩, fun r hr => (tm1 r hr).1, fun v8 H8 e8 h8 => ?_⟩
    have e58 := Same.trans e6 (Same.trans e7 e8)
    have hF8 := e58 _ _ hF5
    have lz := Paired.len pF
    rw [List.length_take] at lz
    have kp8 : Keep H8 (upd H8 aF (.lst (zs ++ [v8]))) := Keep.putL (Keep.refl _) hF8
    refine ⟨aF, zs, v8, rfl, rfl, hF8, Nat.lt_of_le_of_lt (by omega : zs.length ≤ 1000) (by decide), zs ++ [v8], _, _, _, rfl, Same.mut (Same.trans e45 e58) nF, upd_same, ?_⟩
    have ez : (List.zipWith (basedTab p ts) c.arrows c.tables)[i]? = some (basedTab p ts a t) := by rw [List.getElem?_zipWith, ha, ht1]
    rw [List.take_add_one, ez, ebt]
    exact Paired.app (Paired.keep immTab ((Keep.of e58).trans kp8) pF5) (.cons (immTab _ _ _ _ kp8 h8) .nil)
  · rintro σ H1 ⟨zs, v3, v4, v5, rfl, e4, hF, pF⟩
    have hc1 := immPic _ _ _ _ (Keep.of e4) hc
    refine ⟨_, rfl, ?_⟩
    refine fd_web hc1 fun vw1 hw1 => ?_
    refine ⟨_, rfl, ?_⟩
    refine fd_pprime hc1 ?_
    refine ⟨_, rfl, ?_⟩
    refine fd_sizes hc1 fun vS hS => ?_
    refine ⟨_, rfl, aF, zs, rfl, .inl ⟨SqL.of hF, fun l2 n2 => ?_⟩⟩
    have e5 := Same.upd (o := .tup zs) n2
    rw [rawBased_eq] at q
    refine make_pic (c := ⟨c.many, c.arrows, c.sizes, List.zipWith (basedTab p ts) c.arrows c.tables⟩) kp (Same.trans e4 e5) (immWeb _ _ _ _ (Keep.of e5) hw1) (immT immN _ _ _ _ (Keep.of e5) hS) ⟨l2, zs, rfl, SqT.of upd_same, ?_⟩ q
    rw [List.take_of_length_le (by rw [List.length_zipWith]; omega)] at pF
    exact Paired.keep immTab (Keep.of e5) pF
def sp_based (K : PySem.W.Frag) : Sp := sp_raw_based K
theorem pure_based (vs : List V) (H : Hp) (Q : VK) (E : XK) (h : sp_based K vs H Q E) : t_based K (sp_is_fit_table K) (sp_undone K) (sp_raw_based K) (Ed Q) (start n_based vs) H := by
  obtain ⟨p, v, u, c, ts, rfl, hp, hc, ok, hu, bo, q⟩ := h
  have hp1 := hp.lo
  have hp2 := hp.hi
  have hu0 := hu
  obtain ⟨aU, us, rfl, hU, pU⟩ := hu
  have lus := Paired.len pU
  refine ⟨_, rfl, _, _, _, _, true, rfl, .ty _, ty_tup hU, kit_ty (by decide +kernel), true, rfl, ?_⟩
  refine ⟨_, rfl, aU, us, rfl, .inr hU, ?_⟩
  refine ⟨_, rfl, ?_⟩
  refine fd_web hc fun vw hw => ?_
  refine fd_many hw ?_
  refine ⟨rfl, _, rfl, ?_⟩
  rw [show (!decide (V.int (us.length : Int) = V.int (c.many : Int))) = false by rw [lus, bo.len]; simp]
  refine ite_f ⟨_, rfl, ?_⟩
  refine fd_sizes hc fun vS hS => ?_
  obtain ⟨aS, ys, rfl, h3, h4⟩ := hS
  have l4 := Paired.len h4
  have lns := ok.ns
  refine ⟨_, rfl, aS, aU, ys, us, rfl, .inr ⟨h3, hU, ?_⟩⟩
  refine for_it (wk_zipT (n := ys.length) (xs := ys) (ys := us) rfl (by show ys.length = us.length; rw [l4, lus, lns, bo.len])) (fun i σ H' => ∃ (v2 v3 : Option V), σ = [some v, some (.ref aU), v2, v3] ∧ Same H H')
    ⟨none, none, rfl, Same.refl _⟩ (fun i σ H' _ ⟨_, _, _, e4⟩ => ⟨Same.tup e4 h3, Same.tup e4 hU⟩) ?_ ?_
  · rintro i x σ H0 H1 hi ⟨v2, v3, rfl, e4⟩ ⟨t0, y1, y2, rfl, nt, rfl, g1, g2⟩
    obtain ⟨n, hn, en⟩ := Paired.at h4 g1
    obtain ⟨t, ht1, ht2⟩ := Paired.at pU g2
    cases en
    have en2 : n = szAt c i := by unfold szAt; rw [List.getD_eq_getElem?_getD, hn]; rfl
    obtain ⟨w1, w2, w3, uu, w4⟩ := bo.at_ _ _ ht1
    have s1 := szAt_le ok i
    refine g_pair upd_same ?_
    have e5 := Same.trans e4 (Same.upd (o := .tup [.int (n : Int), y2]) nt)
    generalize upd H0 t0 (.tup [.int (n : Int), y2]) = H5 at e5 ⊢
    refine ⟨_, rfl, ?_⟩
    refine fd_pprime (immPic _ _ _ _ (Keep.of e5) hc) ?_
    refine ⟨_, rfl, _, rfl, _, rfl, p, y2, t, by rw [w1, w2, en2]; rfl, immTab _ _ _ _ (Keep.of e5) ht2, fun H6 e6 => ⟨true, rfl, ?_⟩⟩
    refine ⟨_, rfl, p, y2, t, uu, rfl, immTab _ _ _ _ (Keep.of (Same.trans e5 e6)) ht2, by omega, by omega, by omega, by omega, w3, w4, fun v7 H7 e7 h7 => ?_⟩
    obtain ⟨a7, C7, dx7, fs7, vr7, rfl, _⟩ := h7
    exact ⟨rfl, _, rfl, ifd_f (fun z => nomatch z) ⟨_, _, rfl, Same.trans e5 (Same.trans e6 e7)⟩⟩
  · rintro σ H1 ⟨v2, v3, rfl, e4⟩
    exact ⟨_, rfl, _, rfl, p, v, .ref aU, c, ts, rfl, hp, immPic _ _ _ _ (Keep.of e4) hc, ok, immT immTab _ _ _ _ (Keep.of e4) hu0, bo, fun w H2 e2 h2 => q w H2 (Same.trans e4 e2) h2⟩
end
theorem within_ok {i a b : Int} (h1 : a ≤ i) (h2 : i ≤ b) : (decide (a ≤ i) && decide (i ≤ b)) = true := by rw [decide_eq_true h1, decide_eq_true h2]; rfl
theorem But.same {x : Addr} {H H1 H2 : Hp} (e : Same H H1) (b : But x H1 H2) : But x H H2 := fun c o n q => b c o n (e c o q)
section
variable {K : PySem.W.Frag} {H : Hp} {Q : VK}
/-! Table.__init__ -/
def sp_Table_init (K : PySem.W.Frag) : Sp := fun vs H Q _ => ∃ (x dx a : Addr) (p : Int) (n : Nat) (xs : List V) (m : List (List Int)), vs = [.ref x, .int p, .int (n : Int), .ref a] ∧ H x = some (.ins (ad K "Table") dx []) ∧ okP p ∧ n ≤ 12 ∧ xs.length ≤ 12 ∧ SqT K H a xs ∧ Paired (rhRow K H) xs m ∧ okMat p n m ∧
  ∀ H', But x H H' → H' x = some (.ins (ad K "Table") dx (tabFs p (n : Int) (.ref a) xs.length)) → Q .non H'
theorem pure_Table_init (k : KIns K (ad K "Table") nsTab) (vs : List V) (H : Hp) (Q : VK) (E : XK) (h : sp_Table_init K vs H Q E) : t_Table_init K sp_is_prime sp_is_number (sp_is_column K) (sp_Tab_keep K (ad K "Table")) (Ed Q) (start n_Table_init vs) H := by
  obtain ⟨x, dx, a, p, n, xs, m, rfl, hx, hp, hn, hl, ha, hm, ok, q⟩ := h
  refine ⟨_, rfl, p, rfl, hp, true, rfl, ite_f ⟨_, rfl, _, _, rfl, _, rfl, ?_⟩⟩
  rw [within_ok (by omega) (by omega)]
  refine ite_f ⟨_, rfl, _, _, _, _, true, rfl, .ty _, ty_tup ha, kit_ty (by decide +kernel), true, rfl, _, rfl, a, xs, rfl, .inr ha, _, _, rfl, rfl, _, rfl, ifd_f (by omega) ⟨_, rfl, a, xs, rfl, ha, ?_⟩⟩
  refine for_it (wk_enumT (xs := xs)) (fun i σ H' => ∃ (v4 v5 : Option V), σ = [some (.ref x), some (.int p), some (.int (n : Int)), some (.ref a), v4, v5] ∧ Same H H')
    ⟨none, none, rfl, Same.refl _⟩ (fun i σ H' _ ⟨_, _, _, e⟩ => Same.tup e ha) ?_ ?_
  · rintro i y σ H0 H1 hi ⟨v4, v5, rfl, e⟩ ⟨t, z, rfl, nt, rfl, hz⟩
    obtain ⟨r, hr1, hr2⟩ := Paired.at hm hz
    refine g_pair upd_same ?_
    have e2 := Same.trans e (Same.upd (o := .tup [.int (i : Nat), z]) nt)
    exact ⟨_, rfl, _, rfl, _, rfl, p, n, z, r, rfl, immRow _ _ _ _ (Keep.of e2) hr2, ok r (List.mem_of_getElem? hr1), by omega, fun H3 e3 => ⟨true, rfl, ite_f ⟨_, _, rfl, Same.trans e2 e3⟩⟩⟩
  · rintro σ H1 ⟨v4, v5, rfl, e⟩
    exact ⟨_, rfl, x, dx, [], rfl, e _ _ hx, rfl, _, rfl, _, rfl, _, rfl, x, dx, a, p, n, xs, rfl, k, e _ _ hx, Same.tup e ha, fun H' b e' => q H' (But.same e b) e'⟩
theorem make_Table {p : Int} {v : V} {t : Tb} {H0 : Hp} (k : KTab K (ad K "Table")) (hp : okP p) (hw : t.wide ≤ 12) (hl : t.rows.length ≤ 12) (ok : okMat p t.wide t.rows) (e : Same H0 H) (hm : rhMat K H v t.rows) (q : Ret (rhTab K p) H0 Q t) :
    ∀ x dx, H x = none → H dx = none → dx ≠ x → sp_Table_init K (.ref x :: ([.int p, .int (t.wide : Int), v] ++ [])) (upd (upd H dx (.own x)) x (.ins (ad K "Table") dx [])) (fun u H2 => u = .non ∧ Q (.ref x) H2) E0 := by
  intro x dx hx hdx hne
  obtain ⟨a, xs, rfl, h1, h2⟩ := hm
  have s1 : Same H (upd (upd H dx (.own x)) x (.ins (ad K "Table") dx [])) := fun b o z => by rw [upd_ne (ne_of_none z hx), upd_ne (ne_of_none z hdx)]; exact z
  refine ⟨x, dx, a, p, t.wide, xs, t.rows, rfl, upd_same, hp, hw, by rw [Paired.len h2]; exact hl, Same.tup s1 h1, Paired.keep immRow (Keep.of s1) h2, ok, fun H' bt hH => ⟨rfl, ?_⟩⟩
  have s2 : Same H H' := fun b o z => bt b o (ne_of_none z hx) (s1 b o z)
  refine q _ _ (Same.trans e s2) (tab_mk k rfl (by rw [Paired.len h2]) hH ⟨a, xs, rfl, Same.tup s2 h1, Paired.keep immRow (Keep.of s2) h2⟩)
/-! are_sizes, Picture.__init__ -/
def sp_are_sizes (K : PySem.W.Frag) : Sp := fun vs H Q _ => ∃ (v u : V) (w : Nat × List (Nat × Nat)) (ns : List Nat), vs = [v, u] ∧ rhWeb K H v w ∧ rhT K rhN H u ns ∧ ns.length = w.1 ∧ ns.length ≤ 8 ∧ (∀ n ∈ ns, n ≤ 6) ∧ ∀ H', Same H H' → Q (.bl true) H'
theorem pure_are_sizes (vs : List V) (H : Hp) (Q : VK) (E : XK) (h : sp_are_sizes K vs H Q E) : t_are_sizes K sp_is_number (Ed Q) (start n_are_sizes vs) H := by
  obtain ⟨v, u, w, ns, rfl, hw, hu, hl, hl8, hn, q⟩ := h
  obtain ⟨a, xs, rfl, ha, pa⟩ := hu
  have lx := Paired.len pa
  refine ⟨_, rfl, _, _, _, _, true, rfl, .ty _, ty_tup ha, kit_ty (by decide +kernel), true, rfl, ite_t ⟨_, rfl, a, _, rfl, .inr ha, ?_⟩⟩
  refine ⟨_, rfl, ?_⟩
  refine fd_many hw ?_
  refine ⟨rfl, _, rfl, ?_⟩
  rw [show decide (V.int (xs.length : Int) = V.int (w.1 : Int)) = true from decide_eq_true (by rw [lx, hl])]
  refine ite_t ⟨_, rfl, a, rfl, ⟨_, ha⟩, fun D hD => ?_⟩
  refine lc_all (r := rhB) (walk_tup (xs := xs)) (List.replicate xs.length true) (by simp) (by omega) immB hD (fun H' e => Same.tup e ha) ?_ ?_
  · rintro i x c H0 H' Q' hc e ⟨rfl, hx⟩ k'
    obtain ⟨n, hn1, hn2⟩ := Paired.at pa hx
    cases hn2
    refine ⟨rfl, _, rfl, _, _, rfl, k' _ _ (Same.refl _) ?_⟩
    have b := hn _ (List.mem_of_getElem? hn1)
    rw [within_ok (by omega) (by omega), (List.mem_replicate.mp (List.mem_of_getElem? hc)).2]
    rfl
  · intro H' ys e h1 h2
    rw [bls_of h2] at h1
    refine ⟨D, _, rfl, SqL.of h1, ?_⟩
    rw [rep_true]
    exact q _ e
def sp_Picture_init (K : PySem.W.Frag) : Sp := fun vs H Q _ => ∃ (x dx : Addr) (p : Int) (vw vS vt : V) (c : Pc), vs = [.ref x, vw, .int p, vS, vt] ∧ H x = some (.ins (ad K "Picture") dx []) ∧ okP p ∧ PcOk p c ∧ rhWeb K H vw (c.many, c.arrows) ∧ rhT K rhN H vS c.sizes ∧ rhT K (rhTab K p) H vt c.tables ∧
  ∀ H', But x H H' → H' x = some (.ins (ad K "Picture") dx (picFs vw p vS vt)) → Q .non H'
theorem pure_Picture_init (vs : List V) (H : Hp) (Q : VK) (E : XK) (h : sp_Picture_init K vs H Q E) : t_Picture_init K sp_is_prime (sp_are_sizes K) (sp_is_fit_table K) (sp_Pic_keep K (ad K "Picture")) (Ed Q) (start n_Picture_init vs) H := by
  obtain ⟨x, dx, p, vw, vS, vt, c, rfl, hx, hp, ok, hw, hS, ht, q⟩ := h
  have lia : c.arrows.length + 1 = c.many := ok.li.1
  have lim : c.many ≤ 8 := ok.li.2.1
  have lns := ok.ns
  have lnt := ok.nt
  obtain ⟨C, ty, ki⟩ := ty_web hw
  refine ⟨_, rfl, _, _, _, _, true, rfl, .own _, ty, ki, true, rfl, ite_f ?_⟩
  refine ⟨_, rfl, p, rfl, hp, true, rfl, ite_f ?_⟩
  refine ⟨_, rfl, _, rfl, vw, vS, (c.many, c.arrows), c.sizes, rfl, hw, hS, lns, by omega, ok.sz, fun H1 e1 => ⟨true, rfl, ite_f ?_⟩⟩
  have ht0 := ht
  have hS0 := hS
  obtain ⟨aT, ts, rfl, hT, pT⟩ := ht
  obtain ⟨aS, ss, rfl, hSs, pS⟩ := hS
  have lT := Paired.len pT
  have hw1 := immWeb _ _ _ _ (Keep.of e1) hw
  refine ⟨_, rfl, _, _, _, _, true, rfl, .ty _, ty_tup (Same.tup e1 hT), kit_ty (by decide +kernel), true, rfl, ?_⟩
  refine ⟨_, rfl, aT, ts, rfl, .inr (Same.tup e1 hT), ?_⟩
  refine ⟨_, rfl, ?_⟩
  refine fd_arrows hw1 fun va hva => ?_
  obtain ⟨aA, xs, rfl, hA, pA⟩ := hva
  have lA : xs.length = c.arrows.length := Paired.len pA
  refine ⟨aA, xs, rfl, .inr hA, rfl, _, rfl, ?_⟩
  rw [show (!decide (V.int (ts.length : Int) = V.int (xs.length : Int))) = false by rw [lT, lA, lnt]; simp]
  refine ite_f ⟨_, rfl, ?_⟩
  refine fd_arrows hw1 fun va hva => ?_
  obtain ⟨aB, ys, rfl, hB, pB⟩ := hva
  refine ⟨aB, ys, rfl, hB, ?_⟩
  refine for_it (wk_enumT (xs := ys)) (fun i σ H' => ∃ (v5 v6 v7 : Option V), σ = [some (.ref x), some vw, some (.int p), some (.ref aS), some (.ref aT), v5, v6, v7] ∧ Same H1 H')
    ⟨none, none, none, rfl, Same.refl _⟩ (fun i σ H' _ ⟨_, _, _, _, e⟩ => Same.tup e hB) ?_ ?_
  · rintro i y σ H2 H3 hi ⟨v5, v6, v7, rfl, e⟩ ⟨t0, z, rfl, nt, rfl, hz⟩
    obtain ⟨ar, har, hpr⟩ := Paired.at pB hz
    have e2 := Same.upd (o := .tup [.int (i : Nat), z]) nt
    have lt := ok.li.lt har
    obtain ⟨aP, rfl, hP⟩ := immPr _ _ _ _ (Keep.of (Same.trans e e2)) hpr
    have e3 := Same.trans e1 (Same.trans e e2)
    have hT0 : SqT K (upd H2 t0 (.tup [.int (i : Nat), .ref aP])) t0 [.int (i : Nat), .ref aP] := SqT.of upd_same
    have e4 := Same.trans e e2
    have iT : i < c.tables.length := by
      have hh : i < c.arrows.length := (List.getElem?_eq_some_iff.mp har).1
      omega
    have gT : c.tables[i]? = some c.tables[i] := List.getElem?_eq_getElem iT
    obtain ⟨_, f1, f2, f3⟩ := ok.fit i ar _ har gT
    obtain ⟨yT, hy1, hy2⟩ := Paired.to pT gT
    obtain ⟨s1, us1, es1, g1, g2⟩ := rhN.at (immT immN _ _ _ _ (Keep.of e3) hS0) (i := ar.1) (by rw [lns]; exact lt.1)
    obtain ⟨s2, us2, es2, g3, g4⟩ := rhN.at (immT immN _ _ _ _ (Keep.of e3) hS0) (i := ar.2) (by rw [lns]; exact lt.2)
    cases es1; cases es2
    generalize upd H2 t0 (.tup [.int (i : Nat), .ref aP]) = H5 at e3 e4 hT0 hP g1 g3 ⊢
    refine ⟨t0, _, rfl, hT0, rfl, _, _, rfl, _, _, rfl, ⟨aP, _, rfl, hP, rfl, _, _, rfl, _, _, rfl, rfl, rfl, ?_⟩⟩
    refine ⟨_, rfl, _, rfl, _, rfl, aS, us2, _, _, rfl, rfl, g3, g4, _, rfl, _, rfl, aS, us1, _, _, rfl, rfl, g1, g2, _, rfl, _, rfl, aT, ts, _, _, rfl, rfl, Same.tup e3 hT, atI_nat hy1, ?_⟩
    refine ⟨p, yT, c.tables[i], ?_, immTab _ _ _ _ (Keep.of e3) hy2, fun H6 e6 => ⟨true, rfl, ite_f ⟨_, _, _, rfl, Same.trans e4 e6⟩⟩⟩
    rw [f1, f2]
    rfl
  · rintro σ H2 ⟨v5, v6, v7, rfl, e⟩
    have e2 := Same.trans e1 e
    exact ⟨_, rfl, x, dx, [], rfl, e2 _ _ hx, rfl, _, rfl, _, rfl, _, rfl, _, rfl, x, dx, vw, _, _, p, rfl, e2 _ _ hx, fun H' b e' => q H' (But.same e2 b) e'⟩
theorem make_Picture {p : Int} {vw vS vt : V} {c : Pc} {H0 : Hp} (k : KPic K (ad K "Picture")) (hp : okP p) (ok : PcOk p c) (e : Same H0 H) (hw : rhWeb K H vw (c.many, c.arrows)) (hs : rhT K rhN H vS c.sizes) (ht : rhT K (rhTab K p) H vt c.tables) (q : Ret (rhPic K p) H0 Q c) :
    ∀ x dx, H x = none → H dx = none → dx ≠ x → sp_Picture_init K (.ref x :: ([vw, .int p, vS, vt] ++ [])) (upd (upd H dx (.own x)) x (.ins (ad K "Picture") dx [])) (fun u H2 => u = .non ∧ Q (.ref x) H2) E0 := by
  intro x dx hx hdx hne
  have s1 : Same H (upd (upd H dx (.own x)) x (.ins (ad K "Picture") dx [])) := fun b o z => by rw [upd_ne (ne_of_none z hx), upd_ne (ne_of_none z hdx)]; exact z
  refine ⟨x, dx, p, vw, vS, vt, c, rfl, upd_same, hp, ok, immWeb _ _ _ _ (Keep.of s1) hw, immT immN _ _ _ _ (Keep.of s1) hs, immT immTab _ _ _ _ (Keep.of s1) ht, fun H' bt hH => ⟨rfl, ?_⟩⟩
  have s2 : Same H H' := fun b o z => bt b o (ne_of_none z hx) (s1 b o z)
  exact q _ _ (Same.trans e s2) (pic_mk k hH (immWeb _ _ _ _ (Keep.of s2) hw) (immT immN _ _ _ _ (Keep.of s2) hs) (immT immTab _ _ _ _ (Keep.of s2) ht))
end
theorem putAt_step {row xs : List Int} {i : Nat} {y : Int} (h : i + xs.length < row.length) : (putAt row i xs).set (i + xs.length) y = putAt row i (xs ++ [y]) := by
  unfold putAt
  have e : row.drop (i + xs.length) = row[i + xs.length] :: row.drop (i + xs.length + 1) := List.drop_eq_getElem_cons h
  have l : (row.take i ++ xs).length = i + xs.length := by rw [List.length_append, List.length_take]; omega
  rw [e, List.set_append_right _ _ (by omega), l, Nat.sub_self, List.set_cons_zero, List.length_append, List.length_singleton, ← Nat.add_assoc]
  simp
theorem putAt_len {row xs : List Int} {i : Nat} (h : i + xs.length ≤ row.length) : (putAt row i xs).length = row.length := by
  unfold putAt
  simp
  omega
theorem putAt_nil {row : List Int} {i : Nat} : putAt row i [] = row := by
  unfold putAt
  simp
theorem start_self (c : Pc) (b : Nat) : startOf c b b = 0 := by
  unfold startOf
  simp
theorem start_succ {c : Pc} {b q : Nat} (h : b ≤ q) : startOf c b (q + 1) = startOf c b q + szAt c q := by
  unfold startOf szAt
  rw [show q + 1 - b = (q - b) + 1 by omega, List.take_add_one, List.sum_append, List.getElem?_drop, show b + (q - b) = q by omega, List.getD_eq_getElem?_getD]
  cases c.sizes[q]? <;> simp
theorem start_mono {c : Pc} {b q : Nat} : ∀ n : Nat, b ≤ q → startOf c b q ≤ startOf c b (q + n)
  | 0, _ => Nat.le_refl _
  | n + 1, h => by
    have := start_mono (c := c) n h
    rw [← Nat.add_assoc, start_succ (by omega)]
    omega
theorem start_le {p : Int} {c : Pc} (h : PcOk p c) {b : Nat} : ∀ n : Nat, startOf c b (b + n) ≤ 6 * n
  | 0 => by rw [Nat.add_zero, start_self]; exact Nat.zero_le _
  | n + 1 => by
    have h1 := start_le h (b := b) n
    have h2 := szAt_le h (b + n)
    rw [← Nat.add_assoc, start_succ (by omega)]
    omega
theorem start_in {c : Pc} {b e q : Nat} (h1 : b ≤ q) (h2 : q ≤ e) : startOf c b q + szAt c q ≤ widthOf c b e := by
  have := start_mono (c := c) (b := b) (q := q + 1) (e - q) (by omega)
  rw [start_succ h1] at this
  unfold widthOf
  rw [show e + 1 = q + 1 + (e - q) by omega]
  exact this
theorem width_le {p : Int} {c : Pc} (h : PcOk p c) {b e : Nat} (h1 : b ≤ e) (h2 : e < c.many) : widthOf c b e ≤ 48 := by
  have := start_le h (b := b) (e + 1 - b)
  have := h.li.2.1
  unfold widthOf
  rw [show b + (e + 1 - b) = e + 1 by omega] at *
  omega
theorem lineOk.mem {m : Nat} {ar : List (Nat × Nat)} (h : lineOk m ar) {k : Nat} {a : Nat × Nat} (e : ar[k]? = some a) : (k ≤ a.1 ∧ a.1 ≤ k + 1) ∧ (k ≤ a.2 ∧ a.2 ≤ k + 1) ∧ a.1 ≠ a.2 := by
  rcases h.2.2 k a e with rfl | rfl
  · refine ⟨⟨?_, ?_⟩, ⟨?_, ?_⟩, ?_⟩ <;> simp
  · refine ⟨⟨?_, ?_⟩, ⟨?_, ?_⟩, ?_⟩ <;> simp
section
variable {K : PySem.W.Frag} {H : Hp} {Q : VK}
/-! starts_on -/
/-- the dict of starts -/
def StAt (c : Pc) (b e : Nat) (kvs : List (Key × V)) : Prop := ∀ q, b ≤ q → q ≤ e → valV kvs (Sum.inl (q : Int)) = some (.int (startOf c b q : Nat))
def sp_starts_on (K : PySem.W.Frag) : Sp := fun vs H Q _ => ∃ (p : Int) (v : V) (c : Pc) (b e : Nat), vs = [v, .int b, .int e] ∧ rhPic K p H v c ∧ PcOk p c ∧ b ≤ e ∧ e < c.many ∧
  ∀ (t d : Addr) (kvs : List (Key × V)) (H' : Hp), Same H H' → H' t = some (.tup [.ref d, .int (widthOf c b e : Nat)]) → H' d = some (.dK kvs) → StAt c b e kvs → Q (.ref t) H'
theorem pure_starts_on (vs : List V) (H : Hp) (Q : VK) (E : XK) (h : sp_starts_on K vs H Q E) : t_starts_on K (Ed Q) (start n_starts_on vs) H := by
  obtain ⟨p, v, c, b, e, rfl, hc, ok, hbe, he, q⟩ := h
  have lm : c.many ≤ 8 := ok.li.2.1
  have lns := ok.ns
  refine fun aD nD => ⟨_, _, rfl, ?_⟩
  have e0 := Same.upd (o := .dK []) nD
  refine ⟨_, rfl, _, rfl, _, _, rfl, rfl, _, _, rfl, ⟨by omega, by omega, by omega, by omega⟩, ?_⟩
  have hn : ((e : Int) + 1 - (b : Int)).toNat = e + 1 - b := by omega
  refine for_it (wk_rngAt (lo := b) (n := ((e : Int) + 1 - (b : Int)).toNat)) (fun i σ H' => ∃ (v5 : Option V) (kvs : List (Key × V)), σ = [some v, some (.int b), some (.int e), some (.ref aD), some (.int (startOf c b (b + i) : Nat)), v5] ∧ Same H H' ∧ H' aD = some (.dK kvs) ∧ kvs.length ≤ i ∧
      ∀ q, b ≤ q → q < b + i → valV kvs (Sum.inl (q : Int)) = some (.int (startOf c b q : Nat)))
    ⟨none, [], by rw [Nat.add_zero, start_self]; rfl, e0, upd_same, Nat.le_refl _, fun q h1 h2 => by omega⟩ (fun _ _ _ _ _ => trivial) ?_ ?_
  · rintro i x σ H0 H1 hi ⟨v5, kvs, rfl, e1, hD, hl, hv⟩ ⟨rfl, rfl⟩
    refine ⟨_, rfl, _, rfl, _, rfl, aD, _, rfl, DPut.k (k := Sum.inl ((b + i : Nat) : Int)) hD (Nat.lt_of_le_of_lt (by omega : kvs.length ≤ 1000) (by decide)), ?_⟩
    have e2 := Same.mut (o := .dK (putK kvs (Sum.inl ((b + i : Nat) : Int)) (.int (startOf c b (b + i) : Nat)))) e1 nD
    refine ⟨_, rfl, _, rfl, ?_⟩
    refine fd_sizes (immPic _ _ _ _ (Keep.of e2) hc) fun vS hS => ?_
    obtain ⟨s1, us1, rfl, g1, g2⟩ := rhN.at hS (i := b + i) (by omega)
    refine ⟨_, rfl, s1, us1, _, _, rfl, rfl, g1, g2, _, _, rfl, rfl, some (.int ((b + i : Nat) : Int)), _, ?_, e2, upd_same, Nat.le_trans (length_putK _ _ _) (by omega), fun q h1 h2 => ?_⟩
    · rw [← Nat.add_assoc, start_succ (Nat.le_add_right b i), Int.natCast_add]
      rfl
    · rw [valV_put]
      by_cases z : q = b + i
      · rw [z, if_pos rfl]
      · rw [if_neg (by intro z2; have := Sum.inl.inj z2; omega)]
        exact hv q h1 (by omega)
  · rintro σ H1 ⟨v5, kvs, rfl, e1, hD, hl, hv⟩
    rw [hn, show b + (e + 1 - b) = e + 1 by omega] at hv ⊢
    refine ⟨_, rfl, _, rfl, (by show 2 ≤ sizeLine; decide), fun t nt => ?_⟩
    exact q t aD kvs _ (Same.trans e1 (Same.upd nt)) upd_same ((Same.upd nt) _ _ hD) fun q h1 h2 => hv q h1 (by omega)
/-! unit_led -/
def sp_unit_led (K : PySem.W.Frag) : Sp := fun vs H Q _ => ∃ (p : Int) (v : V) (c : Pc) (k m : Nat), vs = [v, .int k, .int m] ∧ okP p ∧ rhPic K p H v c ∧ PcOk p c ∧ k < c.arrows.length ∧ Ret (rhRow K) H Q (unitLed p c k m)
theorem arr_get {c : Pc} {k : Nat} (h : k < c.arrows.length) : c.arrows[k]? = some (arrAt c k) := by
  unfold arrAt
  rw [List.getD_eq_getElem?_getD, List.getElem?_eq_getElem h]
  rfl
theorem tab_get {c : Pc} {k : Nat} (h : k < c.tables.length) : c.tables[k]? = some (tabAt c k) := by
  unfold tabAt
  rw [List.getD_eq_getElem?_getD, List.getElem?_eq_getElem h]
  rfl
theorem pure_unit_led (vs : List V) (H : Hp) (Q : VK) (E : XK) (h : sp_unit_led K vs H Q E) : t_unit_led K (sp_led_on K) (Ed Q) (start n_unit_led vs) H := by
  obtain ⟨p, v, c, k, m, rfl, hp, hc, ok, hk, q⟩ := h
  have hp1 := hp.lo
  have hp2 := hp.hi
  have lns := ok.ns
  have lnt := ok.nt
  have ga := arr_get hk
  have gt := tab_get (c := c) (k := k) (by omega)
  have lt := ok.li.lt ga
  obtain ⟨_, f1, f2, f3⟩ := ok.fit k _ _ ga gt
  have s1 := szAt_le ok (arrAt c k).1
  have s2 := szAt_le ok (arrAt c k).2
  refine ⟨_, rfl, ?_⟩
  refine fd_sizes hc fun vS hS => ?_
  obtain ⟨aS, us1, rfl, g1, g2⟩ := rhN.at hS (i := (arrAt c k).1) (by omega)
  refine ⟨_, rfl, ?_⟩
  refine fd_web hc fun vw hw => ?_
  refine fd_arrows hw fun va hva => ?_
  obtain ⟨aA, xs, y, rfl, hA, hy, a2, rfl, ha2⟩ := rhT.at hva ga
  refine ⟨_, rfl, aA, xs, _, _, rfl, rfl, hA, hy, a2, _, _, _, rfl, rfl, ha2, atI0, aS, us1, _, _, rfl, rfl, g1, g2, ?_⟩
  refine ⟨_, rfl, ?_⟩
  refine fd_tables hc fun vt hvt => ?_
  obtain ⟨aT, ts, yt, rfl, hT, hyt, hyt2⟩ := rhT.at hvt gt
  refine ⟨_, rfl, aT, ts, _, _, rfl, rfl, hT, hyt, ?_⟩
  refine ⟨_, rfl, (szAt c (arrAt c k).1 : Nat), rfl, by omega, by omega, fun D hD => ?_⟩
  rw [Int.toNat_natCast]
  refine lc_all (r := rhI) (wk_rng (n := szAt c (arrAt c k).1)) (unitR (szAt c (arrAt c k).1) m) (by simp [unitR]) (by omega) immI hD (fun _ _ => trivial) ?_ ?_
  · rintro j y d H3 H4 Q2 hd e3 ⟨rfl, rfl⟩ k2
    obtain ⟨hj, ed⟩ := gets hd
    refine ⟨rfl, _, rfl, _, rfl, rfl, .inr ⟨_, rfl, k2 _ _ (Same.refl _) ?_⟩⟩
    rw [nat_eq, ed]
    rfl
  · intro H3 us e3 f4 f5
    rw [ints_of f5] at f4
    refine ⟨D, _, rfl, .inl ⟨SqL.of f4, fun l hl => ?_⟩⟩
    have e4 := Same.upd (o := .tup ((unitR (szAt c (arrAt c k).1) m).map V.int)) hl
    refine ⟨p, yt, .ref l, tabAt c k, unitR (szAt c (arrAt c k).1) m, rfl, immTab _ _ _ _ (Keep.of (Same.trans e3 e4)) hyt2, rhRow.mk (SqT.of upd_same), by omega, by omega, by simp [unitR]; omega, fun r hr => ⟨by rw [(f3 r hr).1, f1]; simp [unitR], (f3 r hr).small (by omega)⟩, fun u H5 e5 h5 => q u H5 (Same.trans e3 (Same.trans e4 e5)) h5⟩
end
section
variable {K : PySem.W.Frag} {H : Hp} {Q : VK}
theorem dget {a : Addr} {kvs : List (Key × V)} {q : Int} {w : V} (hD : H a = some (.dK kvs)) (h : valV kvs (Sum.inl q) = some w) : DGet H a (.int q) (some w) := by
  rw [← h]
  exact DGet.k (k := Sum.inl q) hD
def lostTo (p : Int) (c : Pc) (b e i : Nat) : List (List Int) := (List.range i).flatMap fun i => (List.range (szAt c (arrAt c (b + i)).1)).map (lostRow p c b e (b + i))
theorem lostTo_succ (p : Int) (c : Pc) (b e i : Nat) : lostTo p c b e (i + 1) = lostTo p c b e i ++ (List.range (szAt c (arrAt c (b + i)).1)).map (lostRow p c b e (b + i)) := by
  unfold lostTo
  rw [List.range_succ, List.flatMap_append, List.flatMap_cons, List.flatMap_nil, List.append_nil]
theorem lostTo_len {p : Int} {c : Pc} (h : PcOk p c) (b e : Nat) : ∀ i, (lostTo p c b e i).length ≤ 6 * i
  | 0 => Nat.le_refl _
  | i + 1 => by
    have h1 := lostTo_len h b e i
    have h2 := szAt_le h (arrAt c (b + i)).1
    rw [lostTo_succ, List.length_append, List.length_map, List.length_range]
    omega
theorem unitLed_len (p : Int) (c : Pc) (k m : Nat) : (unitLed p c k m).length = (tabAt c k).rows.length := by
  unfold unitLed ledOn
  rw [List.length_map]
def sp_lost_rows (K : PySem.W.Frag) : Sp := fun vs H Q _ => ∃ (p : Int) (v : V) (c : Pc) (b e : Nat), vs = [v, .int b, .int e] ∧ okP p ∧ rhPic K p H v c ∧ PcOk p c ∧ b ≤ e ∧ e < c.many ∧
  ∀ (l : Addr) (xs : List V) (H' : Hp), Same H H' → H l = none → H' l = some (.lst xs) → Paired (rhRow K H') xs (lostRows p c b e) → Q (.ref l) H'
theorem pure_lost_rows (vs : List V) (H : Hp) (Q : VK) (E : XK) (h : sp_lost_rows K vs H Q E) : t_lost_rows K (sp_starts_on K) (sp_unit_led K) (Ed Q) (start n_lost_rows vs) H := by
  obtain ⟨p, v, c, b, e, rfl, hp, hc, ok, hbe, he, q⟩ := h
  have hp1 := hp.lo
  have hp2 := hp.hi
  have lm : c.many ≤ 8 := ok.li.2.1
  have lia : c.arrows.length + 1 = c.many := ok.li.1
  have lns := ok.ns
  have lnt := ok.nt
  have wle := width_le ok hbe he
  refine ⟨_, rfl, _, rfl, _, rfl, p, v, c, b, e, rfl, hc, ok, hbe, he, fun t0 aD kvs H0 e0 ht0 hD0 hst => ?_⟩
  refine ⟨t0, _, rfl, SqT.of ht0, rfl, _, _, rfl, _, _, rfl, rfl, ?_⟩
  refine ⟨Nat.zero_le _, fun aF nF => ?_⟩
  have nF0 := Same.free e0 nF
  have e1 := Same.trans e0 (Same.upd (o := .lst []) nF)
  have hD1 := (Same.upd (o := .lst []) nF) _ _ hD0
  have hF1 : upd H0 aF (.lst []) aF = some (.lst []) := upd_same
  generalize upd H0 aF (.lst []) = H1 at e1 hD1 hF1 ⊢
  have nDF : aD ≠ aF := fun z => by rw [z, hF1] at hD1; cases hD1
  have hn : ((e : Int) - (b : Int)).toNat = e - b := by omega
  refine ⟨_, rfl, _, rfl, _, _, rfl, ⟨by omega, by omega, by omega, by omega⟩, ?_⟩
  refine for_it (wk_rngAt (lo := b) (n := ((e : Int) - (b : Int)).toNat)) (fun i σ H' => ∃ (zs : List V) (v6 v7 v8 v9 v10 v11 v12 : Option V), σ = [some v, some (.int b), some (.int e), some (.ref aD), some (.int (widthOf c b e : Nat)), some (.ref aF), v6, v7, v8, v9, v10, v11, v12] ∧ Same H H' ∧ H' aD = some (.dK kvs) ∧ H' aF = some (.lst zs) ∧
      Paired (rhRow K H') zs (lostTo p c b e i))
    ⟨[], none, none, none, none, none, none, none, rfl, e1, hD1, hF1, .nil⟩ (fun _ _ _ _ _ => trivial) ?_ ?_
  · rintro i x σ H2 H3 hi ⟨zs, v6, v7, v8, v9, v10, v11, v12, rfl, e2, hD2, hF2, pF2⟩ ⟨rfl, rfl⟩
    have hk : b + i < c.arrows.length := by omega
    have ga := arr_get hk
    have gt := tab_get (c := c) (k := b + i) (by omega)
    have lt := ok.li.lt ga
    have lm2 := ok.li.mem ga
    obtain ⟨_, f1, f2, f3⟩ := ok.fit (b + i) _ _ ga gt
    refine ⟨_, rfl, ?_⟩
    refine fd_web (immPic _ _ _ _ (Keep.of e2) hc) fun vw hw => ?_
    refine fd_arrows hw fun va hva => ?_
    obtain ⟨aA, xs, y, rfl, hA, hy, a2, rfl, ha2⟩ := rhT.at hva ga
    refine ⟨_, rfl, aA, xs, _, _, rfl, rfl, hA, hy, a2, _, rfl, ha2, rfl, _, _, rfl, _, _, rfl, rfl, ?_⟩
    -- for at in range(sizes[one])
    refine ⟨_, rfl, ?_⟩
    refine fd_sizes (immPic _ _ _ _ (Keep.of e2) hc) fun vS hS => ?_
    obtain ⟨s1, us1, rfl, g1, g2⟩ := rhN.at hS (i := (arrAt c (b + i)).1) (by omega)
    have s1le := szAt_le ok (arrAt c (b + i)).1
    have s2le := szAt_le ok (arrAt c (b + i)).2
    refine ⟨_, rfl, s1, us1, _, _, rfl, rfl, g1, g2, (szAt c (arrAt c (b + i)).1 : Nat), rfl, by omega, by omega, ?_⟩
    rw [Int.toNat_natCast]
    refine for_it (wk_rng (n := szAt c (arrAt c (b + i)).1)) (fun m σ H' => ∃ (zs : List V) (v9 v10 v11 v12 : Option V), σ = [some v, some (.int b), some (.int e), some (.ref aD), some (.int (widthOf c b e : Nat)), some (.ref aF), some (.int ((b + i : Nat) : Int)), some (.int ((arrAt c (b + i)).1 : Nat)), some (.int ((arrAt c (b + i)).2 : Nat)), v9, v10, v11, v12] ∧ Same H H' ∧ H' aD = some (.dK kvs) ∧ H' aF = some (.lst zs) ∧
        Paired (rhRow K H') zs (lostTo p c b e i ++ (List.range m).map (lostRow p c b e (b + i))))
      ⟨zs, _, _, _, _, rfl, e2, hD2, hF2, by simpa using pF2⟩ (fun _ _ _ _ _ => trivial) ?_ ?_
    · rintro m y σ H4 H5 hm ⟨zs, v9, v10, v11, v12, rfl, e4, hD4, hF4, pF4⟩ ⟨rfl, rfl⟩
      refine ⟨(by show 1 ≤ sizeLine; decide), fun l0 n0 => ⟨_, rfl, ?_⟩⟩
      have e5 := Same.upd (o := .lst [.int 0]) n0
      refine ⟨l0, _, _, rfl, rfl, upd_same, by omega, by omega, Nat.le_trans (by rw [Int.toNat_natCast]; show 1 * widthOf c b e ≤ 1000; omega) (by decide), fun aR nR => ?_⟩
      rw [Int.toNat_natCast, rep1]
      have e6 := Same.trans e5 (Same.upd (o := .lst (List.replicate (widthOf c b e) (V.int 0))) nR)
      have nR4 := Same.free e5 nR
      have hR : upd (upd H5 l0 (.lst [.int 0])) aR (.lst (List.replicate (widthOf c b e) (V.int 0))) aR = some (.lst ((nils (widthOf c b e)).map V.int)) := by
        rw [upd_same]
        unfold nils
        rw [List.map_replicate]
      generalize upd (upd H5 l0 (.lst [.int 0])) aR (.lst (List.replicate (widthOf c b e) (V.int 0))) = H6 at e6 hR ⊢
      have hD6 := e6 _ _ hD4
      have hF6 := e6 _ _ hF4
      have nRF : aR ≠ aF := fun z => by rw [z, hF4] at nR4; cases nR4
      have nRD : aR ≠ aD := fun z => by rw [z, hD4] at nR4; cases nR4
      have st1 := hst (arrAt c (b + i)).1 (by omega) (by omega)
      have st2 := hst (arrAt c (b + i)).2 (by omega) (by omega)
      have in1 := start_in (c := c) (b := b) (e := e) (q := (arrAt c (b + i)).1) (by omega) (by omega)
      have in2 := start_in (c := c) (b := b) (e := e) (q := (arrAt c (b + i)).2) (by omega) (by omega)
      -- row[starts[one] + at] = 1
      refine ⟨_, rfl, _, rfl, _, rfl, aD, _, rfl, dget hD6 st1, _, rfl, _, _, rfl, rfl, aR, _, _, startOf c b (arrAt c (b + i)).1 + m, rfl, rfl, hR, ?_, ?_⟩
      · rw [← Int.natCast_add]
        exact ixSet (by simp [nils]; omega)
      have k7 : Keep H6 (upd H6 aR (.lst (((nils (widthOf c b e)).map V.int).set (startOf c b (arrAt c (b + i)).1 + m) (.int 1)))) := Keep.putL (Keep.refl _) hR
      have e7 : Same H5 (upd H6 aR (.lst (((nils (widthOf c b e)).map V.int).set (startOf c b (arrAt c (b + i)).1 + m) (.int 1)))) := Same.mut e6 nR4
      have hR7 : upd H6 aR (.lst (((nils (widthOf c b e)).map V.int).set (startOf c b (arrAt c (b + i)).1 + m) (.int 1))) aR = some (.lst (((nils (widthOf c b e)).set (startOf c b (arrAt c (b + i)).1 + m) 1).map V.int)) := by
        rw [upd_same, List.map_set]
      generalize upd H6 aR (.lst (((nils (widthOf c b e)).map V.int).set (startOf c b (arrAt c (b + i)).1 + m) (.int 1))) = H7 at e7 hR7 ⊢
      have hD7 := e7 _ _ hD4
      have hF7 := e7 _ _ hF4
      -- for there, worth in enumerate(unit_led(..))
      refine ⟨_, rfl, _, rfl, _, rfl, p, v, c, b + i, m, rfl, hp, immPic _ _ _ _ (Keep.of (Same.trans e4 e7)) hc, ok, hk, fun vu H8 e8 h8 => ?_⟩
      obtain ⟨aU, rfl, hU⟩ := h8.ex
      refine ⟨aU, _, rfl, hU, ?_⟩
      have lU : (unitLed p c (b + i) m).length = szAt c (arrAt c (b + i)).2 := by rw [unitLed_len, f2]
      have hR8 := e8 _ _ hR7
      have e78 := Same.trans e7 e8
      have nR5 : H5 aR = none := nR4
      refine for_it (wk_enumT (xs := (unitLed p c (b + i) m).map V.int)) (fun j σ H' => ∃ (v11 v12 : Option V), σ = [some v, some (.int b), some (.int e), some (.ref aD), some (.int (widthOf c b e : Nat)), some (.ref aF), some (.int ((b + i : Nat) : Int)), some (.int ((arrAt c (b + i)).1 : Nat)), some (.int ((arrAt c (b + i)).2 : Nat)), some (.int (m : Nat)), some (.ref aR), v11, v12] ∧
          Same H5 H' ∧ H' aR = some (.lst ((putAt ((nils (widthOf c b e)).set (startOf c b (arrAt c (b + i)).1 + m) 1) (startOf c b (arrAt c (b + i)).2) (((unitLed p c (b + i) m).map fun w => -w % p).take j)).map V.int)) ∧ SqT K H' aU ((unitLed p c (b + i) m).map V.int))
        ⟨_, _, rfl, e78, by rw [List.take_zero, putAt_nil]; exact hR8, hU⟩ (fun _ _ _ _ ⟨_, _, _, _, _, g⟩ => g) ?_ ?_
      · rintro j y σ H9 Ha hj ⟨v11, v12, rfl, e9, hR9, hU9⟩ ⟨t, z, rfl, nt, rfl, hz⟩
        obtain ⟨w, hw1, rfl⟩ := row_of hz
        refine g_pair upd_same ?_
        have ea := Same.upd (o := .tup [.int (j : Nat), .int w]) nt
        have hRa := ea _ _ hR9
        have hUa := Same.tup ea hU9
        have eb := Same.trans e9 ea
        generalize upd H9 t (.tup [.int (j : Nat), .int w]) = Hb at eb hRa hUa ⊢
        have hj2 : j < (unitLed p c (b + i) m).length := by simpa using hj
        refine ⟨_, rfl, _, rfl, _, rfl, ?_⟩
        refine fd_pprime (immPic _ _ _ _ (Keep.of (Same.trans e4 eb)) hc) ?_
        refine ⟨_, _, rfl, rfl, (by show (0 : Int) < p; omega), _, rfl, _, rfl, _, rfl, aD, _, rfl, dget (eb _ _ hD4) st2, _, rfl, _, _, rfl, rfl, aR, _, _, startOf c b (arrAt c (b + i)).2 + j, rfl, rfl, hRa, ?_, ?_⟩
        · rw [← Int.natCast_add]
          refine ixSet ?_
          rw [List.length_map, putAt_len]
          · simp [nils]; omega
          · simp [nils]; omega
        · refine ⟨_, _, rfl, Same.mut eb nR5, ?_, ?_⟩
          · have ew : ((unitLed p c (b + i) m).map fun w => -w % p)[j]? = some (-w % p) := by rw [List.getElem?_map, hw1]; rfl
            rw [upd_same, List.take_add_one, ew]
            have lj : (((unitLed p c (b + i) m).map fun w => -w % p).take j).length = j := by simp; omega
            have st := putAt_step (row := (nils (widthOf c b e)).set (startOf c b (arrAt c (b + i)).1 + m) 1) (xs := ((unitLed p c (b + i) m).map fun w => -w % p).take j) (i := startOf c b (arrAt c (b + i)).2) (y := -w % p) (by rw [lj]; simp [nils]; omega)
            rw [lj] at st
            show some (HO.lst _) = some (HO.lst (List.map V.int (putAt _ _ (_ ++ [-w % p]))))
            rw [← st, List.map_set]
          · exact Keep.tup (Keep.putL (Keep.refl _) hRa) hUa
      · rintro σ H9 ⟨v11, v12, rfl, e9, hR9, hU9⟩
        rw [List.length_map] at hR9
        have etk : (((unitLed p c (b + i) m).map fun w => -w % p).take (unitLed p c (b + i) m).length) = (unitLed p c (b + i) m).map fun w => -w % p := List.take_of_length_le (by simp)
        rw [etk] at hR9
        have hF9 := e9 _ _ hF4
        refine ⟨_, rfl, .inl ⟨rfl, _, SqL.of hF9⟩, _, rfl, aR, _, rfl, .inl ⟨SqL.of hR9, fun l hl => ?_⟩⟩
        have el := Same.upd (o := .tup ((putAt ((nils (widthOf c b e)).set (startOf c b (arrAt c (b + i)).1 + m) 1) (startOf c b (arrAt c (b + i)).2) ((unitLed p c (b + i) m).map fun w => -w % p)).map V.int)) hl
        have hFl := el _ _ hF9
        have lz := Paired.len pF4
        have ll := lostTo_len ok b e i
        rw [List.length_append, List.length_map, List.length_range] at lz
        have kp := Keep.putL (o := .lst (zs ++ [.ref l])) (Keep.refl _) hFl
        refine ⟨aF, zs, .ref l, rfl, rfl, hFl, Nat.lt_of_le_of_lt (by omega : zs.length ≤ 1000) (by decide), zs ++ [.ref l], _, _, _, _, rfl, Same.mut (Same.trans (Same.trans e4 e9) el) nF0, ?_, upd_same, ?_⟩
        · rw [upd_ne nDF]
          exact el _ _ (e9 _ _ hD4)
        · rw [List.range_succ, List.map_append, ← List.append_assoc]
          refine Paired.app (Paired.keep immRow ((Keep.of (Same.trans e9 el)).trans kp) pF4) (.cons (immRow _ _ _ _ kp (rhRow.mk (SqT.of upd_same))) .nil)
    · rintro σ H4 ⟨zs, v9, v10, v11, v12, rfl, e4, hD4, hF4, pF4⟩
      exact ⟨zs, _, _, _, _, _, _, _, rfl, e4, hD4, hF4, by rw [lostTo_succ]; exact pF4⟩
  · rintro σ H2 ⟨zs, v6, v7, v8, v9, v10, v11, v12, rfl, e2, hD2, hF2, pF2⟩
    rw [hn] at pF2
    exact ⟨_, rfl, q aF zs H2 e2 nF0 hF2 pF2⟩
end
def askTo (p : Int) (c : Pc) (b e i : Nat) : List (List Int) := (List.range i).flatMap fun i => (tabAt c (b + i)).rows.mapIdx (fun m row => meetRow p c b e (b + i) m row)
theorem askTo_succ (p : Int) (c : Pc) (b e i : Nat) : askTo p c b e (i + 1) = askTo p c b e i ++ (tabAt c (b + i)).rows.mapIdx (fun m row => meetRow p c b e (b + i) m row) := by
  unfold askTo
  rw [List.range_succ, List.flatMap_append, List.flatMap_cons, List.flatMap_nil, List.append_nil]
theorem mapIdx_take {α β : Type} {f : Nat → α → β} {l : List α} {m : Nat} {r : α} (h : l[m]? = some r) : (l.take (m + 1)).mapIdx f = (l.take m).mapIdx f ++ [f m r] := by
  have hm : m < l.length := (List.getElem?_eq_some_iff.mp h).1
  rw [List.take_add_one, h, List.mapIdx_append]
  simp
  rw [Nat.min_eq_left (by omega)]
theorem okRow_putAt {p : Int} {n i : Nat} {row xs : List Int} (h : okRow p n row) (hx : ∀ x ∈ xs, 0 ≤ x ∧ x < p) (hi : i + xs.length ≤ n) : okRow p n (putAt row i xs) := by
  refine ⟨by rw [putAt_len (by rw [h.1]; exact hi)]; exact h.1, fun y hy => ?_⟩
  unfold putAt at hy
  rcases List.mem_append.mp hy with hy | hy
  · rcases List.mem_append.mp hy with hy | hy
    · exact h.2 y (List.mem_of_mem_take hy)
    · exact hx y hy
  · exact h.2 y (List.mem_of_mem_drop hy)
theorem okRow_set {p : Int} {n i : Nat} {row : List Int} {y : Int} (h : okRow p n row) (hy : 0 ≤ y ∧ y < p) : okRow p n (row.set i y) := by
  refine ⟨by rw [List.length_set]; exact h.1, fun x hx => ?_⟩
  rcases List.mem_or_eq_of_mem_set hx with hx | rfl
  · exact h.2 x hx
  · exact hy
theorem okRow_nils {p : Int} (hp : 0 < p) (n : Nat) : okRow p n (nils n) := ⟨by simp [nils], fun x hx => by rw [(List.mem_replicate.mp hx).2]; omega⟩
/-- an arrow within a stretch -/
theorem arr_in {p : Int} {c : Pc} (ok : PcOk p c) {b e i : Nat} (he : e < c.many) (hi : i < e - b) : b + i < c.arrows.length ∧ c.arrows[b + i]? = some (arrAt c (b + i)) ∧ c.tables[b + i]? = some (tabAt c (b + i)) ∧
    (b ≤ (arrAt c (b + i)).1 ∧ (arrAt c (b + i)).1 ≤ e) ∧ (b ≤ (arrAt c (b + i)).2 ∧ (arrAt c (b + i)).2 ≤ e) := by
  have lia : c.arrows.length + 1 = c.many := ok.li.1
  have lnt := ok.nt
  have hk : b + i < c.arrows.length := by omega
  have ga := arr_get hk
  have lm2 := ok.li.mem ga
  exact ⟨hk, ga, tab_get (by omega), ⟨by omega, by omega⟩, ⟨by omega, by omega⟩⟩
theorem askTo_ok {p : Int} (hp : 1 < p) {c : Pc} (ok : PcOk p c) {b e : Nat} (he : e < c.many) : ∀ i, i ≤ e - b → okMat p (widthOf c b e) (askTo p c b e i) ∧ (askTo p c b e i).length ≤ 6 * i
  | 0, _ => ⟨fun _ h => (nomatch h), Nat.le_refl _⟩
  | i + 1, hi => by
    obtain ⟨h1, h2⟩ := askTo_ok hp ok (b := b) he i (by omega)
    obtain ⟨hk, ga, gt, in1, in2⟩ := arr_in ok (b := b) he (i := i) (by omega)
    obtain ⟨_, f1, f2, f3⟩ := ok.fit (b + i) _ _ ga gt
    have s2 := szAt_le ok (arrAt c (b + i)).2
    have st1 := start_in (c := c) in1.1 in1.2
    rw [askTo_succ]
    refine ⟨fun r hr => ?_, by rw [List.length_append, List.length_mapIdx]; omega⟩
    rcases List.mem_append.mp hr with hr | hr
    · exact h1 r hr
    · obtain ⟨m, hm, rfl⟩ := List.getElem_of_mem hr
      rw [List.getElem_mapIdx]
      have hr3 := f3 _ (List.getElem_mem (by simpa using hm))
      exact okRow_set (okRow_putAt (okRow_nils (by omega) _) hr3.2 (by rw [hr3.1]; omega)) ⟨by omega, by omega⟩
section
variable {K : PySem.W.Frag} {H : Hp} {Q : VK}
def sp_meeting_rows (K : PySem.W.Frag) : Sp := fun vs H Q _ => ∃ (p : Int) (v : V) (c : Pc) (b e : Nat), vs = [v, .int b, .int e] ∧ okP p ∧ rhPic K p H v c ∧ PcOk p c ∧ b ≤ e ∧ e < c.many ∧ Ret (rhMat K) H Q (meetingRows p c b e)
theorem pure_meeting_rows (kt : KTab K (ad K "RawTable")) (vs : List V) (H : Hp) (Q : VK) (E : XK) (h : sp_meeting_rows K vs H Q E) : t_meeting_rows K (sp_starts_on K) (sp_kernel K) (sp_RawTable_init K) (Ed Q) (start n_meeting_rows vs) H := by
  obtain ⟨p, v, c, b, e, rfl, hp, hc, ok, hbe, he, q⟩ := h
  have hp1 := hp.lo
  have hp2 := hp.hi
  have lm : c.many ≤ 8 := ok.li.2.1
  have lia : c.arrows.length + 1 = c.many := ok.li.1
  have lns := ok.ns
  have lnt := ok.nt
  have wle := width_le ok hbe he
  refine ⟨_, rfl, _, rfl, _, rfl, p, v, c, b, e, rfl, hc, ok, hbe, he, fun t0 aD kvs H0 e0 ht0 hD0 hst => ?_⟩
  refine ⟨t0, _, rfl, SqT.of ht0, rfl, _, _, rfl, _, _, rfl, rfl, ?_⟩
  refine ⟨Nat.zero_le _, fun aF nF => ?_⟩
  have nF0 := Same.free e0 nF
  have e1 := Same.trans e0 (Same.upd (o := .lst []) nF)
  have hD1 := (Same.upd (o := .lst []) nF) _ _ hD0
  have hF1 : upd H0 aF (.lst []) aF = some (.lst []) := upd_same
  generalize upd H0 aF (.lst []) = H1 at e1 hD1 hF1 ⊢
  have nDF : aD ≠ aF := fun z => by rw [z, hF1] at hD1; cases hD1
  have hn : ((e : Int) - (b : Int)).toNat = e - b := by omega
  refine ⟨_, rfl, _, rfl, _, _, rfl, ⟨by omega, by omega, by omega, by omega⟩, ?_⟩
  refine for_it (wk_rngAt (lo := b) (n := ((e : Int) - (b : Int)).toNat)) (fun i σ H' => ∃ (zs : List V) (v6 v7 v8 v9 v10 v11 : Option V), σ = [some v, some (.int b), some (.int e), some (.ref aD), some (.int (widthOf c b e : Nat)), some (.ref aF), v6, v7, v8, v9, v10, v11] ∧ Same H H' ∧ H' aD = some (.dK kvs) ∧ H' aF = some (.lst zs) ∧
      Paired (rhRow K H') zs (askTo p c b e i))
    ⟨[], none, none, none, none, none, none, rfl, e1, hD1, hF1, .nil⟩ (fun _ _ _ _ _ => trivial) ?_ ?_
  · rintro i x σ H2 H3 hi ⟨zs, v6, v7, v8, v9, v10, v11, rfl, e2, hD2, hF2, pF2⟩ ⟨rfl, rfl⟩
    obtain ⟨hk, ga, gt, in1', in2'⟩ := arr_in ok (b := b) he (i := i) (by omega)
    have lt := ok.li.lt ga
    obtain ⟨_, f1, f2, f3⟩ := ok.fit (b + i) _ _ ga gt
    refine ⟨_, rfl, ?_⟩
    refine fd_web (immPic _ _ _ _ (Keep.of e2) hc) fun vw hw => ?_
    refine fd_arrows hw fun va hva => ?_
    obtain ⟨aA, xs, y, rfl, hA, hy, a2, rfl, ha2⟩ := rhT.at hva ga
    refine ⟨_, rfl, aA, xs, _, _, rfl, rfl, hA, hy, a2, _, rfl, ha2, rfl, _, _, rfl, _, _, rfl, rfl, ?_⟩
    -- for at, row in enumerate(tables[arrow].rows)
    refine ⟨_, rfl, ?_⟩
    refine fd_tables (immPic _ _ _ _ (Keep.of e2) hc) fun vt hvt => ?_
    obtain ⟨aT, ts, yt, rfl, hT, hyt, hyt2⟩ := rhT.at hvt gt
    refine ⟨_, rfl, aT, ts, _, _, rfl, rfl, hT, hyt, ?_⟩
    refine fd_rows hyt2 fun vr hvr => ?_
    obtain ⟨aM, rs, rfl, hM, pM⟩ := hvr
    have lM := Paired.len pM
    have s1le := szAt_le ok (arrAt c (b + i)).1
    have s2le := szAt_le ok (arrAt c (b + i)).2
    refine ⟨aM, rs, rfl, hM, ?_⟩
    refine for_it (wk_enumT (xs := rs)) (fun m σ H' => ∃ (zs : List V) (v9 v10 v11 : Option V), σ = [some v, some (.int b), some (.int e), some (.ref aD), some (.int (widthOf c b e : Nat)), some (.ref aF), some (.int ((b + i : Nat) : Int)), some (.int ((arrAt c (b + i)).1 : Nat)), some (.int ((arrAt c (b + i)).2 : Nat)), v9, v10, v11] ∧ Same H H' ∧ Keep H3 H' ∧ H' aD = some (.dK kvs) ∧ H' aF = some (.lst zs) ∧
        Paired (rhRow K H') zs (askTo p c b e i ++ ((tabAt c (b + i)).rows.take m).mapIdx (fun m row => meetRow p c b e (b + i) m row)))
      ⟨zs, _, _, _, rfl, e2, Keep.refl _, hD2, hF2, by simpa using pF2⟩ (fun _ _ _ _ ⟨_, _, _, _, _, _, k, _⟩ => Keep.tup k hM) ?_ ?_
    · rintro m y σ H4 H5 hm ⟨zs, v9, v10, v11, rfl, e4, k4, hD4, hF4, pF4⟩ ⟨t, z, rfl, nt, rfl, hz⟩
      obtain ⟨r, hr1, hr2⟩ := Paired.at pM hz
      obtain ⟨okl, okr⟩ := f3 r (List.mem_of_getElem? hr1)
      refine g_pair upd_same ?_
      have e5 := Same.upd (o := .tup [.int (m : Nat), z]) nt
      have hr5 := immRow _ _ _ _ (k4.trans (Keep.of e5)) hr2
      generalize upd H4 t (.tup [.int (m : Nat), z]) = H5 at e5 hr5 ⊢
      obtain ⟨aZ, rfl, hZ⟩ := hr5.ex
      refine ⟨(by show 1 ≤ sizeLine; decide), fun l0 n0 => ⟨_, rfl, ?_⟩⟩
      have e6 := Same.trans e5 (Same.upd (o := .lst [.int 0]) n0)
      refine ⟨l0, _, _, rfl, rfl, upd_same, by omega, by omega, Nat.le_trans (by rw [Int.toNat_natCast]; show 1 * widthOf c b e ≤ 1000; omega) (by decide), fun aR nR => ?_⟩
      rw [Int.toNat_natCast, rep1]
      have nR4 := Same.free e6 nR
      have e7 := Same.trans e6 (Same.upd (o := .lst (List.replicate (widthOf c b e) (V.int 0))) nR)
      have e75 : Same H5 (upd (upd H5 l0 (.lst [.int 0])) aR (.lst (List.replicate (widthOf c b e) (V.int 0)))) := Same.trans (Same.upd n0) (Same.upd nR)
      have hR : upd (upd H5 l0 (.lst [.int 0])) aR (.lst (List.replicate (widthOf c b e) (V.int 0))) aR = some (.lst ((nils (widthOf c b e)).map V.int)) := by
        rw [upd_same]
        unfold nils
        rw [List.map_replicate]
      generalize upd (upd H5 l0 (.lst [.int 0])) aR (.lst (List.replicate (widthOf c b e) (V.int 0))) = H6 at e7 e75 hR ⊢
      have hZ6 := Same.tup e75 hZ
      have nRF : aR ≠ aF := fun z => by rw [z, hF4] at nR4; cases nR4
      have st1 := hst (arrAt c (b + i)).1 in1'.1 in1'.2
      have st2 := hst (arrAt c (b + i)).2 in2'.1 in2'.2
      have in1 := start_in (c := c) (b := b) (e := e) (q := (arrAt c (b + i)).1) in1'.1 in1'.2
      have in2 := start_in (c := c) (b := b) (e := e) (q := (arrAt c (b + i)).2) in2'.1 in2'.2
      have hm2 : m < szAt c (arrAt c (b + i)).2 := by omega
      -- wanted[..] = list(row)
      refine ⟨_, rfl, aZ, _, rfl, .inr hZ6, fun aL nL => ?_⟩
      have nRL : aR ≠ aL := fun z => by rw [z, nL] at hR; cases hR
      have e8 := Same.trans e7 (Same.upd (o := .lst (r.map V.int)) nL)
      have hR8 := (Same.upd (o := .lst (r.map V.int)) nL) _ _ hR
      have hZ8 := Same.tup (Same.upd (o := .lst (r.map V.int)) nL) hZ6
      have hL8 : upd H6 aL (.lst (r.map V.int)) aL = some (.lst (r.map V.int)) := upd_same
      generalize upd H6 aL (.lst (r.map V.int)) = H8 at e8 hR8 hZ8 hL8 ⊢
      have hD8 := e8 _ _ hD4
      refine ⟨_, rfl, _, rfl, _, rfl, aD, _, rfl, dget hD8 st1, _, rfl, _, rfl, aD, _, rfl, dget hD8 st1, _, rfl, aZ, _, rfl, .inr hZ8, _, _, rfl, rfl, ?_⟩
      refine ⟨aR, aL, _, _, startOf c b (arrAt c (b + i)).1, startOf c b (arrAt c (b + i)).1 + r.length, rfl, rfl, rfl, ?_, hR8, hL8, nRL, by omega, by simp [nils]; omega, by simp [nils]; omega, ?_⟩
      · rw [List.length_map]
        show V.int _ = V.int _
        congr 1
      have erow : ((nils (widthOf c b e)).map V.int).take (startOf c b (arrAt c (b + i)).1) ++ r.map V.int ++ ((nils (widthOf c b e)).map V.int).drop (startOf c b (arrAt c (b + i)).1 + r.length) = (putAt (nils (widthOf c b e)) (startOf c b (arrAt c (b + i)).1) r).map V.int := by
        unfold putAt
        rw [List.map_append, List.map_append, List.map_take, List.map_drop]
      rw [erow]
      have lp : (putAt (nils (widthOf c b e)) (startOf c b (arrAt c (b + i)).1) r).length = widthOf c b e := by rw [putAt_len] <;> simp [nils]; omega
      have e9 : Same H4 (upd H8 aR (.lst ((putAt (nils (widthOf c b e)) (startOf c b (arrAt c (b + i)).1) r).map V.int))) := Same.mut e8 nR4
      have hR9 : upd H8 aR (.lst ((putAt (nils (widthOf c b e)) (startOf c b (arrAt c (b + i)).1) r).map V.int)) aR = some (.lst ((putAt (nils (widthOf c b e)) (startOf c b (arrAt c (b + i)).1) r).map V.int)) := upd_same
      generalize upd H8 aR (.lst ((putAt (nils (widthOf c b e)) (startOf c b (arrAt c (b + i)).1) r).map V.int)) = H9 at e9 hR9 ⊢
      -- wanted[starts[other] + at] = prime - 1
      refine ⟨_, rfl, ?_⟩
      refine fd_pprime (immPic _ _ _ _ (Keep.of (Same.trans e4 e9)) hc) ?_
      refine ⟨_, _, rfl, rfl, _, rfl, _, rfl, _, rfl, aD, _, rfl, dget (e9 _ _ hD4) st2, _, rfl, _, _, rfl, rfl, aR, _, _, startOf c b (arrAt c (b + i)).2 + m, rfl, rfl, hR9, ?_, ?_⟩
      · rw [← Int.natCast_add]
        exact ixSet (by rw [List.length_map, lp]; omega)
      have hRa : upd H9 aR (.lst (((putAt (nils (widthOf c b e)) (startOf c b (arrAt c (b + i)).1) r).map V.int).set (startOf c b (arrAt c (b + i)).2 + m) (.int (p - 1)))) aR = some (.lst ((meetRow p c b e (b + i) m r).map V.int)) := by
        rw [upd_same]
        unfold meetRow
        rw [List.map_set]
      have ea : Same H4 (upd H9 aR (.lst (((putAt (nils (widthOf c b e)) (startOf c b (arrAt c (b + i)).1) r).map V.int).set (startOf c b (arrAt c (b + i)).2 + m) (.int (p - 1))))) := Same.mut e9 nR4
      generalize upd H9 aR (.lst (((putAt (nils (widthOf c b e)) (startOf c b (arrAt c (b + i)).1) r).map V.int).set (startOf c b (arrAt c (b + i)).2 + m) (.int (p - 1)))) = Ha at hRa ea ⊢
      have hFa := ea _ _ hF4
      refine ⟨_, rfl, .inl ⟨rfl, _, SqL.of hFa⟩, _, rfl, aR, _, rfl, .inl ⟨SqL.of hRa, fun l hl => ?_⟩⟩
      have el := Same.upd (o := .tup ((meetRow p c b e (b + i) m r).map V.int)) hl
      have hFl := el _ _ hFa
      have lz := Paired.len pF4
      have ll := (askTo_ok (by omega : 1 < p) ok (b := b) he i (by omega)).2
      rw [List.length_append, List.length_mapIdx, List.length_take] at lz
      have kp := Keep.putL (o := .lst (zs ++ [.ref l])) (Keep.refl _) hFl
      refine ⟨aF, zs, .ref l, rfl, rfl, hFl, Nat.lt_of_le_of_lt (by omega : zs.length ≤ 1000) (by decide), zs ++ [.ref l], _, _, _, rfl, Same.mut (Same.trans (Same.trans e4 ea) el) nF0, (k4.trans (Keep.of (Same.trans ea el))).trans kp, ?_, upd_same, ?_⟩
      · rw [upd_ne nDF]
        exact el _ _ (ea _ _ hD4)
      · rw [mapIdx_take hr1, ← List.append_assoc]
        refine Paired.app (Paired.keep immRow ((Keep.of (Same.trans ea el)).trans kp) pF4) (.cons (immRow _ _ _ _ kp (rhRow.mk (SqT.of upd_same))) .nil)
    · rintro σ H4 ⟨zs, v9, v10, v11, rfl, e4, k4, hD4, hF4, pF4⟩
      rw [lM, List.take_length] at pF4
      exact ⟨zs, _, _, _, _, _, _, rfl, e4, hD4, hF4, by rw [askTo_succ]; exact pF4⟩
  · rintro σ H2 ⟨zs, v6, v7, v8, v9, v10, v11, rfl, e2, hD2, hF2, pF2⟩
    rw [hn] at pF2
    obtain ⟨ok1, ok2⟩ := askTo_ok (by omega : 1 < p) ok he (e - b) (Nat.le_refl _)
    refine ⟨_, rfl, ?_⟩
    refine fd_pprime (immPic _ _ _ _ (Keep.of e2) hc) ?_
    refine ⟨_, rfl, _, rfl, aF, zs, rfl, .inl ⟨SqL.of hF2, fun l hl => ?_⟩⟩
    have el := Same.upd (o := .tup zs) hl
    refine make_tab (p := p) (H0 := H) (Q := fun x H1 => sp_kernel K [x] H1 Q E0) (t := ⟨widthOf c b e, askTo p c b e (e - b)⟩) kt rfl (Same.trans e2 el) ⟨l, zs, rfl, SqT.of upd_same, Paired.keep immRow (Keep.of el) pF2⟩ fun vt H3 e3 h3 => ?_
    exact ⟨p, vt, _, rfl, h3, by omega, by omega, by show widthOf c b e ≤ 1000; omega, by show (askTo p c b e (e - b)).length ≤ 1000; omega, ok1, fun u H4 e4 h4 => q u H4 (Same.trans e3 e4) h4⟩
end
theorem unitLed_ok {p : Int} (hp : 0 < p) (c : Pc) (k m : Nat) : ∀ x ∈ unitLed p c k m, 0 ≤ x ∧ x < p := by
  intro x hx
  unfold unitLed ledOn at hx
  obtain ⟨r, _, rfl⟩ := List.mem_map.mp hx
  exact ⟨Int.emod_nonneg _ (by omega), Int.emod_lt_of_pos _ hp⟩
theorem lostTo_ok {p : Int} (hp : 1 < p) {c : Pc} (ok : PcOk p c) {b e : Nat} (he : e < c.many) : ∀ i, i ≤ e - b → okMat p (widthOf c b e) (lostTo p c b e i)
  | 0, _ => fun _ h => (nomatch h)
  | i + 1, hi => by
    have h1 := lostTo_ok hp ok (b := b) he i (by omega)
    obtain ⟨hk, ga, gt, in1, in2⟩ := arr_in ok (b := b) he (i := i) (by omega)
    obtain ⟨_, f1, f2, f3⟩ := ok.fit (b + i) _ _ ga gt
    have st2 := start_in (c := c) in2.1 in2.2
    rw [lostTo_succ]
    intro r hr
    rcases List.mem_append.mp hr with hr | hr
    · exact h1 r hr
    · obtain ⟨m, hm, rfl⟩ := List.mem_map.mp hr
      refine okRow_putAt (okRow_set (okRow_nils (by omega) _) ⟨by omega, by omega⟩) (fun x hx => ?_) (by rw [List.length_map, unitLed_len, f2]; exact st2)
      obtain ⟨w, _, rfl⟩ := List.mem_map.mp hx
      exact ⟨Int.emod_nonneg _ (by omega), Int.emod_lt_of_pos _ (by omega)⟩
theorem meetingRows_ok {p : Int} (hp : 1 < p) {c : Pc} (ok : PcOk p c) {b e : Nat} (hbe : b ≤ e) (he : e < c.many) : okMat p (widthOf c b e) (meetingRows p c b e) ∧ (meetingRows p c b e).length ≤ 48 := by
  obtain ⟨h1, h2⟩ := askTo_ok hp ok (b := b) he (e - b) (Nat.le_refl _)
  have wl := width_le ok hbe he
  have r := redRows_okM (p := p) (by omega) (wide := widthOf c b e) (rows := freeCols p (widthOf c b e) (redRows p (widthOf c b e) (askRows p c b e)) (redPlaces p (widthOf c b e) (askRows p c b e)))
    (fun r hr => by
      unfold freeCols at hr
      obtain ⟨f, _, rfl⟩ := List.mem_map.mp hr
      exact freeCol_ok hp)
  refine ⟨r.1, Nat.le_trans r.2 ?_⟩
  unfold freeCols
  rw [List.length_map]
  have := List.length_filter_le (fun f => !(redPlaces p (widthOf c b e) (askRows p c b e)).contains f) (List.range (widthOf c b e))
  rw [List.length_range] at this
  omega
theorem keptRows_ok {p : Int} (hp : 1 < p) {c : Pc} (ok : PcOk p c) {b e : Nat} (hbe : b ≤ e) (he : e < c.many) : okMat p (widthOf c b e) (keptRows p c b e) := by
  intro r hr
  unfold keptRows at hr
  obtain ⟨x, hx, rfl⟩ := List.mem_map.mp hr
  have hx2 := (meetingRows_ok hp ok hbe he).1 x hx
  have st := start_in (c := c) (b := b) (e := e) (q := b) (Nat.le_refl _) hbe
  refine ⟨by rw [List.length_append, List.length_take, hx2.1]; simp [nils]; omega, fun y hy => ?_⟩
  rcases List.mem_append.mp hy with hy | hy
  · exact hx2.2 y (List.mem_of_mem_take hy)
  · exact (okRow_nils (p := p) (by omega) _).2 y hy
section
variable {K : PySem.W.Frag} {H : Hp} {Q : VK}
/-! raw_reach -/
def sp_raw_reach (K : PySem.W.Frag) : Sp := fun vs H Q _ => ∃ (p : Int) (v : V) (c : Pc) (b e : Nat), vs = [v, .int b, .int e] ∧ okP p ∧ rhPic K p H v c ∧ PcOk p c ∧ b ≤ e ∧ e < c.many ∧ ∀ H', Same H H' → Q (.int (reachOf p c b e)) H'
theorem pure_raw_reach (vs : List V) (H : Hp) (Q : VK) (E : XK) (h : sp_raw_reach K vs H Q E) : t_raw_reach K (sp_starts_on K) (sp_lost_rows K) (sp_meeting_rows K) (sp_reduced_rows K) (Ed Q) (start n_raw_reach vs) H := by
  obtain ⟨p, v, c, b, e, rfl, hp, hc, ok, hbe, he, q⟩ := h
  have hp1 := hp.lo
  have hp2 := hp.hi
  have lm : c.many ≤ 8 := ok.li.2.1
  have lns := ok.ns
  have wle := width_le ok hbe he
  have okL : okMat p (widthOf c b e) (lostRows p c b e) := lostTo_ok (by omega) ok he _ (Nat.le_refl _)
  have llL : (lostRows p c b e).length ≤ 6 * (e - b) := lostTo_len ok b e (e - b)
  have okM := meetingRows_ok (p := p) (by omega) ok hbe he
  have okK := keptRows_ok (p := p) (by omega) ok hbe he
  have st0 := start_in (c := c) (b := b) (e := e) (q := b) (Nat.le_refl _) hbe
  refine ⟨_, rfl, _, rfl, _, rfl, p, v, c, b, e, rfl, hc, ok, hbe, he, fun t0 aD kvs H0 e0 ht0 hD0 hst => ?_⟩
  refine ⟨t0, [.ref aD, .int (widthOf c b e : Nat)], 1, _, rfl, rfl, SqT.of ht0, atI_nat (j := 1) rfl, ?_⟩
  refine ⟨_, rfl, ?_⟩
  refine fd_sizes (immPic _ _ _ _ (Keep.of e0) hc) fun vS hS => ?_
  obtain ⟨s1, us1, rfl, g1, g2⟩ := rhN.at hS (i := b) (by omega)
  refine ⟨_, rfl, s1, us1, _, _, rfl, rfl, g1, g2, ?_⟩
  refine ⟨_, rfl, _, rfl, _, rfl, p, v, c, b, e, rfl, hp, immPic _ _ _ _ (Keep.of e0) hc, ok, hbe, he, fun aG gs H1 e1 _ hG pG => ?_⟩
  have e01 := Same.trans e0 e1
  refine ⟨_, rfl, _, rfl, _, rfl, p, v, c, b, e, rfl, hp, immPic _ _ _ _ (Keep.of e01) hc, ok, hbe, he, fun vm H2 e2 h2 => ?_⟩
  obtain ⟨aM, ms, rfl, hM, pM⟩ := h2
  have lM := Paired.len pM
  have e12 := e2
  refine ⟨aM, rfl, ⟨_, hM⟩, fun D hD => ?_⟩
  refine lc_all (r := rhRow K) (walk_tup (xs := ms)) (keptRows p c b e) (by simp [keptRows, lM]) (by omega) immRow hD (fun H' e => Same.tup e hM) ?_ ?_
  · rintro i x k H3 H4 Q' hk e3 ⟨rfl, hx⟩ k'
    obtain ⟨r, hr1, hr2⟩ := Paired.at pM hx
    have hrl := okM.1 r (List.mem_of_getElem? hr1)
    have ek : k = r.take (szAt c b) ++ nils (widthOf c b e - szAt c b) := by
      unfold keptRows at hk
      rw [List.getElem?_map, hr1] at hk
      exact (Option.some.inj hk).symm
    obtain ⟨aR, rfl, hR⟩ := (immRow _ _ _ _ (Keep.of e3) hr2).ex
    refine ⟨rfl, _, rfl, _, rfl, _, rfl, ?_⟩
    refine slice_to hR (by rw [hrl.1]; unfold szAt at st0; omega) fun v5 H5 e5 h5 => ?_
    refine ⟨(by show 1 ≤ sizeLine; decide), fun l0 n0 => ⟨_, rfl, _, rfl, _, _, rfl, rfl, ?_⟩⟩
    have e6 := Same.upd (o := .tup [.int 0]) n0
    show rRepA K (V.ref l0) (.int (((widthOf c b e : Nat) : Int) - ((c.sizes.getD b 0 : Nat) : Int))) _ (fun y H2 => rCatA K v5 y H2 Q')
    rw [show ((widthOf c b e : Nat) : Int) - ((c.sizes.getD b 0 : Nat) : Int) = ((widthOf c b e - c.sizes.getD b 0 : Nat) : Int) by unfold szAt at st0; omega]
    refine nils_of upd_same (by omega) fun v7 H7 e7 h7 => ?_
    obtain ⟨aA, rfl, hA⟩ := (immRow _ _ _ _ (Keep.of (Same.trans e6 e7)) h5).ex
    obtain ⟨aB, rfl, hB⟩ := h7.ex
    refine cat_of hA hB (by rw [List.length_take, hrl.1]; simp [nils]; omega) fun v8 H8 e8 h8 => k' v8 H8 (Same.trans e5 (Same.trans e6 (Same.trans e7 e8))) ?_
    rw [ek]
    exact h8
  · intro H3 ks e3 f1 f2
    have e13 := Same.trans e2 e3
    have hG3 := e13 _ _ hG
    have pG3 := Paired.keep immRow (Keep.of e13) pG
    have lG := Paired.len pG
    have lK := Paired.len f2
    have lk2 : (keptRows p c b e).length ≤ 48 := by
      unfold keptRows
      rw [List.length_map]
      exact okM.2
    refine ⟨_, rfl, ?_⟩
    refine fd_pprime (immPic _ _ _ _ (Keep.of (Same.trans e01 e13)) hc) ?_
    refine ⟨_, rfl, _, rfl, _, rfl, aG, D, gs, ks, rfl, rfl, hG3, f1, Nat.le_trans (by omega : gs.length + ks.length ≤ 1000) (by decide), fun aC nC => ?_⟩
    have e4 := Same.upd (o := .lst (gs ++ ks)) nC
    refine ⟨aC, gs ++ ks, rfl, .inl ⟨SqL.of upd_same, fun aT nT => ?_⟩⟩
    have e5 := Same.trans e4 (Same.upd (o := .tup (gs ++ ks)) nT)
    have hT5 : upd (upd H3 aC (.lst (gs ++ ks))) aT (.tup (gs ++ ks)) aT = some (.tup (gs ++ ks)) := upd_same
    generalize upd (upd H3 aC (.lst (gs ++ ks))) aT (.tup (gs ++ ks)) = H5 at e5 hT5 ⊢
    refine ⟨p, widthOf c b e, aT, gs ++ ks, lostRows p c b e ++ keptRows p c b e, rfl, .inr (SqT.of hT5), Paired.keep immRow (Keep.of e5) (Paired.app pG3 f2), by omega, by omega, by omega, by rw [List.length_append]; omega, fun r hr => ?_, fun t6 v1 v2 H6 e6 ht6 hv1 hv2 => ?_⟩
    · rcases List.mem_append.mp hr with hr | hr
      · exact okL r hr
      · exact okK r hr
    refine ⟨t6, [v1, v2], 0, v1, rfl, rfl, SqT.of ht6, atI0, ?_⟩
    obtain ⟨aX, xx, rfl, hX, pX⟩ := hv1
    have lX := Paired.len pX
    have e36 := Same.trans e5 e6
    refine ⟨_, rfl, aX, xx, rfl, .inr hX, ?_⟩
    refine ⟨_, rfl, ?_⟩
    refine fd_pprime (immPic _ _ _ _ (Keep.of (Same.trans e01 (Same.trans e13 e36))) hc) ?_
    refine ⟨_, rfl, _, rfl, aG, gs, rfl, .inl ⟨SqL.of (e36 _ _ hG3), fun aT2 nT2 => ?_⟩⟩
    have e7 := Same.upd (o := .tup gs) nT2
    refine ⟨p, widthOf c b e, aT2, gs, lostRows p c b e, rfl, .inr (SqT.of upd_same), Paired.keep immRow (Keep.of (Same.trans e36 e7)) pG3, by omega, by omega, by omega, by omega, okL, fun t8 v3 v4 H8 e8 ht8 hv3 hv4 => ?_⟩
    obtain ⟨aY, yy, rfl, hY, pY⟩ := hv3
    have lY := Paired.len pY
    refine ⟨t8, [.ref aY, v4], 0, .ref aY, rfl, rfl, SqT.of ht8, atI0, aY, yy, rfl, .inr hY, _, _, rfl, rfl, ?_⟩
    rw [lX, lY]
    exact q _ (Same.trans e01 (Same.trans e13 (Same.trans e36 (Same.trans e7 e8))))
/-! stretches -/
def sp_stretches (K : PySem.W.Frag) : Sp := fun vs H Q _ => ∃ (n : Nat), vs = [.int n] ∧ n ≤ 8 ∧ ∀ (l : Addr) (xs : List V) (H' : Hp), Same H H' → H' l = some (.lst xs) → Paired (fun x s => ∃ t, x = .ref t ∧ H' t = some (.tup [.int (s.1 : Nat), .int (s.2 : Nat)])) xs (stretches n) → Q (.ref l) H'
def rhSt (H : Hp) (x : V) (s : Nat × Nat) : Prop := ∃ t, x = .ref t ∧ H t = some (.tup [.int (s.1 : Nat), .int (s.2 : Nat)])
theorem immSt : Imm rhSt := fun _ _ _ _ e ⟨t, h, q⟩ => ⟨t, h, e _ _ trivial q⟩
def strTo (n i : Nat) : List (Nat × Nat) := (List.range i).flatMap fun b => (List.range (n - b)).map fun j => (b, b + j)
theorem strTo_succ (n i : Nat) : strTo n (i + 1) = strTo n i ++ (List.range (n - i)).map fun j => (i, i + j) := by
  unfold strTo
  rw [List.range_succ, List.flatMap_append, List.flatMap_cons, List.flatMap_nil, List.append_nil]
theorem strTo_len (n : Nat) : ∀ i, (strTo n i).length ≤ n * i
  | 0 => Nat.le_refl _
  | i + 1 => by
    have := strTo_len n i
    rw [strTo_succ, List.length_append, List.length_map, List.length_range, Nat.mul_succ]
    omega
theorem pure_stretches (vs : List V) (H : Hp) (Q : VK) (E : XK) (h : sp_stretches K vs H Q E) : t_stretches K (Ed Q) (start n_stretches vs) H := by
  obtain ⟨n, rfl, hn, q⟩ := h
  refine ⟨Nat.zero_le _, fun aF nF => ⟨_, rfl, (n : Nat), rfl, by omega, by omega, ?_⟩⟩
  have e0 := Same.upd (o := .lst []) nF
  rw [Int.toNat_natCast]
  refine for_it (wk_rng (n := n)) (fun i σ H' => ∃ (zs : List V) (v2 v3 : Option V), σ = [some (.int (n : Nat)), some (.ref aF), v2, v3] ∧ Same H H' ∧ H' aF = some (.lst zs) ∧ Paired (rhSt H') zs (strTo n i))
    ⟨[], none, none, rfl, e0, upd_same, .nil⟩ (fun _ _ _ _ _ => trivial) ?_ ?_
  · rintro i x σ H0 H1 hi ⟨zs, v2, v3, rfl, e1, hF, pF⟩ ⟨rfl, rfl⟩
    have lz := Paired.len pF
    have ll := strTo_len n i
    have l64 : n * i ≤ 64 := Nat.le_trans (Nat.mul_le_mul hn (by omega : i ≤ 8)) (by decide)
    refine ⟨_, rfl, .inl ⟨rfl, _, SqL.of hF⟩, ?_⟩
    refine ⟨_, rfl, _, rfl, _, _, rfl, ⟨by omega, by omega, by omega, by omega⟩, fun D hD => ?_⟩
    have ejn : ((n : Int) - (i : Int)).toNat = n - i := by omega
    rw [ejn]
    refine lc_all (r := rhSt) (wk_rngAt (lo := i) (n := n - i)) ((List.range (n - i)).map fun j => (i, i + j)) (by simp) (by omega) immSt hD (fun _ _ => trivial) ?_ ?_
    · rintro j y d H3 H4 Q2 hd e3 ⟨rfl, rfl⟩ k2
      obtain ⟨hj, ed⟩ := gets hd
      subst ed
      refine ⟨rfl, _, rfl, _, rfl, (by show 2 ≤ sizeLine; decide), fun t nt => k2 _ _ (Same.upd nt) ⟨t, rfl, upd_same⟩⟩
    · intro H3 ys e3 f1 f2
      have hF3 := e3 _ _ hF
      have kp := Keep.putL (o := .lst (zs ++ ys)) (Keep.refl _) hF3
      have ly := Paired.len f2
      rw [List.length_map, List.length_range] at ly
      refine ⟨aF, D, zs, ys, rfl, rfl, hF3, f1, Nat.le_trans (by omega : zs.length + ys.length ≤ 1000) (by decide), zs ++ ys, _, _, rfl, Same.mut (Same.trans e1 e3) nF, upd_same, ?_⟩
      rw [strTo_succ]
      exact Paired.app (Paired.keep immSt ((Keep.of e3).trans kp) pF) (Paired.keep immSt kp f2)
  · rintro σ H1 ⟨zs, v2, v3, rfl, e1, hF, pF⟩
    exact ⟨_, rfl, q aF zs H1 e1 hF pF⟩
/-! count_of -/
/-- the dict of reaches -/
def ToldAt (n : Nat) (r : Nat → Nat → Int) (kvs : List (List Key × V)) : Prop := ∀ x y : Int, valV kvs [Sum.inl x, Sum.inl y] = if 0 ≤ x ∧ x ≤ y ∧ y < n then some (.int (r x.toNat y.toNat)) else none
def sp_count_of (K : PySem.W.Frag) : Sp := fun vs H Q _ => ∃ (n : Nat) (r : Nat → Nat → Int) (a : Addr) (kvs : List (List Key × V)) (b e : Nat), vs = [.ref a, .int b, .int e] ∧ H a = some (.dT kvs) ∧ ToldAt n r kvs ∧ b ≤ e ∧ e < n ∧ ∀ H', Same H H' → Q (.int (countOf r n b e)) H'
theorem dgett {a t : Addr} {kvs : List (List Key × V)} {x y : Int} (hD : H a = some (.dT kvs)) (ht : H t = some (.tup [.int x, .int y])) : DGet H a (.ref t) (valV kvs [Sum.inl x, Sum.inl y]) := DGet.t (k := [Sum.inl x, Sum.inl y]) hD ht
theorem told_or {n : Nat} {r : Nat → Nat → Int} {kvs : List (List Key × V)} (h : ToldAt n r kvs) (x y : Int) : (valV kvs [Sum.inl x, Sum.inl y]).getD (.int 0) = .int (if 0 ≤ x ∧ x ≤ y ∧ y < n then r x.toNat y.toNat else 0) := by
  rw [h]
  split <;> rfl
theorem pure_count_of (vs : List V) (H : Hp) (Q : VK) (E : XK) (h : sp_count_of K vs H Q E) : t_count_of K (Ed Q) (start n_count_of vs) H := by
  obtain ⟨n, r, a, kvs, b, e, rfl, hD, hT, hbe, he, q⟩ := h
  refine ⟨_, rfl, _, rfl, _, rfl, (by show 2 ≤ sizeLine; decide), fun t1 n1 => ?_⟩
  have e1 := Same.upd (o := .tup [.int (b : Nat), .int (e : Nat)]) n1
  refine ⟨a, _, rfl, by rw [← show valV kvs [Sum.inl (b : Int), Sum.inl (e : Int)] = some (.int (r b e)) by rw [hT, if_pos ⟨by omega, by omega, by omega⟩]; rfl]; exact dgett (e1 _ _ hD) upd_same, ?_⟩
  refine ⟨_, rfl, a, rfl, .inr ⟨kvs, .inl (e1 _ _ hD)⟩, _, rfl, _, _, rfl, rfl, _, rfl, (by show 2 ≤ sizeLine; decide), fun t2 n2 => ?_⟩
  have e2 := Same.trans e1 (Same.upd (o := .tup [.int ((b : Int) - 1), .int (e : Nat)]) n2)
  refine ⟨_, dgett (e2 _ _ hD) upd_same, ?_⟩
  rw [told_or hT]
  refine ⟨_, _, rfl, rfl, ?_⟩
  refine ⟨_, rfl, a, rfl, .inr ⟨kvs, .inl (e2 _ _ hD)⟩, _, rfl, _, rfl, _, _, rfl, rfl, (by show 2 ≤ sizeLine; decide), fun t3 n3 => ?_⟩
  have e3 := Same.trans e2 (Same.upd (o := .tup [.int (b : Nat), .int ((e : Int) + 1)]) n3)
  refine ⟨_, dgett (e3 _ _ hD) upd_same, ?_⟩
  rw [told_or hT]
  refine ⟨_, _, rfl, rfl, ?_⟩
  refine ⟨_, rfl, _, rfl, a, rfl, .inr ⟨kvs, .inl (e3 _ _ hD)⟩, _, rfl, _, _, rfl, rfl, _, rfl, _, _, rfl, rfl, (by show 2 ≤ sizeLine; decide), fun t4 n4 => ?_⟩
  have e4 := Same.trans e3 (Same.upd (o := .tup [.int ((b : Int) - 1), .int ((e : Int) + 1)]) n4)
  refine ⟨_, dgett (e4 _ _ hD) upd_same, ?_⟩
  rw [told_or hT]
  refine ⟨_, _, rfl, rfl, ?_⟩
  have fin := q _ e4
  unfold countOf at fin
  have z1 : (if (0 : Int) ≤ (b : Int) - 1 ∧ (b : Int) - 1 ≤ (e : Int) ∧ (e : Int) < (n : Int) then r ((b : Int) - 1).toNat (e : Int).toNat else 0) = if 0 < b then r (b - 1) e else 0 := by
    by_cases z : 0 < b
    · rw [if_pos z, if_pos ⟨by omega, by omega, by omega⟩, show ((b : Int) - 1).toNat = b - 1 by omega]; rfl
    · rw [if_neg z, if_neg (by omega)]
  have z2 : (if (0 : Int) ≤ (b : Int) ∧ (b : Int) ≤ (e : Int) + 1 ∧ (e : Int) + 1 < (n : Int) then r (b : Int).toNat ((e : Int) + 1).toNat else 0) = if e + 1 < n then r b (e + 1) else 0 := by
    by_cases z : e + 1 < n
    · rw [if_pos z, if_pos ⟨by omega, by omega, by omega⟩, show ((e : Int) + 1).toNat = e + 1 by omega]; rfl
    · rw [if_neg z, if_neg (by omega)]
  have z3 : (if (0 : Int) ≤ (b : Int) - 1 ∧ (b : Int) - 1 ≤ (e : Int) + 1 ∧ (e : Int) + 1 < (n : Int) then r ((b : Int) - 1).toNat ((e : Int) + 1).toNat else 0) = if 0 < b ∧ e + 1 < n then r (b - 1) (e + 1) else 0 := by
    by_cases z : 0 < b ∧ e + 1 < n
    · rw [if_pos z, if_pos ⟨by omega, by omega, by omega⟩, show ((e : Int) + 1).toNat = e + 1 by omega, show ((b : Int) - 1).toNat = b - 1 by omega]
    · rw [if_neg z, if_neg (by omega)]
  rw [z1, z2, z3]
  exact fin
end
section
variable {J : It} {n : Nat} {G : Hp → Prop} {Y : Nat → Hp → V → Hp → Prop} {g : TG} {tt : TT} {tk tv : TE} {vs : List Nat} {σ : L2.St} {D : Addr} {Qd : Hp → Prop} {H1 : Hp}
/-- a dict comprehension: Pv by the turn and the heap -/
theorem dcT_it (w : Walk J n G Y) (Pv : Nat → Hp → Prop) (h0 : Pv 0 (upd H1 D (.dT []))) (hG : ∀ i H, i ≤ n → Pv i H → G H)
    (hs : ∀ i x H H', i < n → Pv i H → Y i H x H' → g x (wipe σ vs) H' fun σ2 H2 => wipe σ2 vs = wipe σ vs ∧ tt σ2 H2 fun b H3 => if b = true then tk σ2 H3 fun y H4 => tv σ2 H4 fun z H5 => ∃ kvs k b, y = .ref b ∧ H5 D = some (.dT kvs) ∧ H5 b = some (.tup (k.map kV)) ∧ kvs.length < sizeLine ∧ Pv (i + 1) (upd H5 D (.dT (putK kvs k z))) else Pv (i + 1) H3)
    (hd : ∀ H, Pv n H → Qd H) :
    ∃ W : Nat → Nat → Hp → Prop, (∃ m, W 0 m (upd H1 D (.dT []))) ∧ ∀ i m H, W i m H →
      (J.stop i H ∧ Qd H) ∨ (J.go i H ∧ ∃ Nx : Hp → Prop, (∀ H', Nx H' → ∃ m', m' < m ∧ W (i + 1) m' H') ∧ ∀ x H', J.yld i H x H' → g x (wipe σ vs) H' fun σ2 H2 => wipe σ2 vs = wipe σ vs ∧ tt σ2 H2 fun b H3 =>
        if b = true then tk σ2 H3 fun y H4 => tv σ2 H4 fun z H5 => ∃ kvs k b, y = .ref b ∧ H5 D = some (.dT kvs) ∧ H5 b = some (.tup (k.map kV)) ∧ kvs.length < sizeLine ∧ Nx (upd H5 D (.dT (putK kvs k z))) else Nx H3) := by
  refine ⟨fun i m H => m = n - i ∧ i ≤ n ∧ Pv i H, ⟨n, by simp, Nat.zero_le _, h0⟩, ?_⟩
  rintro i m H ⟨rfl, hi, p⟩
  have q := hG i H hi p
  by_cases hlt : i < n
  · exact .inr ⟨w.goes i H hlt q, Pv (i + 1), fun H' p' => ⟨n - (i + 1), by omega, rfl, hlt, p'⟩, fun x H' y => hs i x H H' hlt p (w.yields i H x H' hlt q y)⟩
  · have e : i = n := by omega
    subst e
    exact .inl ⟨w.stops H q, hd H p⟩
end
/-- stretches, as they come -/
theorem str_mem {n i : Nat} {s : Nat × Nat} (h : (stretches n)[i]? = some s) : s.1 ≤ s.2 ∧ s.2 < n := by
  have hm := List.mem_of_getElem? h
  unfold stretches at hm
  obtain ⟨b, hb, hs⟩ := List.mem_flatMap.mp hm
  obtain ⟨j, hj, rfl⟩ := List.mem_map.mp hs
  have := List.mem_range.mp hb
  have := List.mem_range.mp hj
  exact ⟨Nat.le_add_right _ _, by show b + j < n; omega⟩
theorem str_mem_iff {n b e : Nat} : (b, e) ∈ stretches n ↔ b ≤ e ∧ e < n := by
  unfold stretches
  constructor
  · intro hm
    obtain ⟨b', hb, hs⟩ := List.mem_flatMap.mp hm
    obtain ⟨j, hj, ej⟩ := List.mem_map.mp hs
    have := List.mem_range.mp hb
    have := List.mem_range.mp hj
    cases ej
    exact ⟨Nat.le_add_right _ _, by omega⟩
  · rintro ⟨h1, h2⟩
    exact List.mem_flatMap.mpr ⟨b, List.mem_range.mpr (by omega), List.mem_map.mpr ⟨e - b, List.mem_range.mpr (by omega), by rw [Nat.add_sub_cancel' h1]⟩⟩
theorem str_len (n : Nat) : (stretches n).length ≤ n * n := strTo_len n n
section
variable {K : PySem.W.Frag} {H : Hp} {Q : VK}
/-- a triple of a stretch and how often -/
def rhTri (K : PySem.W.Frag) (H : Hp) (v : V) (t : Nat × Nat × Int) : Prop := ∃ a, v = .ref a ∧ SqT K H a [.int (t.1 : Nat), .int (t.2.1 : Nat), .int t.2.2]
theorem immTri : Imm (rhTri K) := fun _ _ _ _ e ⟨a, h, q⟩ => ⟨a, h, Keep.tup e q⟩
def tris (r : Nat → Nat → Int) (n : Nat) : List (Nat × Nat × Int) := (stretches n).map fun s => (s.1, s.2, countOf r n s.1 s.2)
def sp_raw_bars (K : PySem.W.Frag) : Sp := fun vs H Q _ => ∃ (n : Nat) (r : Nat → Nat → Int) (a : Addr) (kvs : List (List Key × V)), vs = [.int n, .ref a] ∧ n ≤ 8 ∧ H a = some (.dT kvs) ∧ ToldAt n r kvs ∧ Ret (rhT K (rhTri K)) H Q (barsOf r n)
theorem filterMap_filter {α : Type} (p : α → Bool) (l : List α) : ∀ n, n ≤ l.length → ((List.range n).filterMap fun i => (l[i]?).bind fun a => if p a then some a else none) = (l.take n).filter p
  | 0, _ => by simp
  | n + 1, h => by
    rw [List.range_succ, List.filterMap_append, filterMap_filter p l n (by omega), List.take_add_one, List.filter_append]
    congr 1
    have e : l[n]? = some l[n] := List.getElem?_eq_getElem (by omega)
    cases hp : p l[n] <;> simp [List.filterMap_cons, e, hp]
theorem pure_raw_bars (vs : List V) (H : Hp) (Q : VK) (E : XK) (h : sp_raw_bars K vs H Q E) : t_raw_bars K (sp_stretches K) (sp_count_of K) (Ed Q) (start n_raw_bars vs) H := by
  obtain ⟨n, r, a, kvs, rfl, hn, hD, hT, q⟩ := h
  refine ⟨_, rfl, n, rfl, hn, fun l xs H1 e1 hl pS => ?_⟩
  have pS2 : Paired (rhSt H1) xs (stretches n) := pS
  have lx := Paired.len pS2
  have ls := str_len n
  have l64 : n * n ≤ 64 := Nat.le_trans (Nat.mul_le_mul hn hn) (by decide)
  refine ⟨l, rfl, ⟨_, SqL.of hl⟩, fun D nD => ?_⟩
  refine lc_all (r := rhTri K) (walk_list (xs := xs)) (tris r n) (by simp [tris, lx]) (by omega) immTri nD (fun H' e => SqL.of (e _ _ hl)) ?_ ?_
  · rintro i x d H2 H3 Q' hd e2 ⟨rfl, hx⟩ k'
    obtain ⟨s, hs1, hs2⟩ := Paired.at pS2 hx
    obtain ⟨t, rfl, ht⟩ := immSt _ _ _ _ (Keep.of e2) hs2
    obtain ⟨m1, m2⟩ := str_mem hs1
    have ed : d = (s.1, s.2, countOf r n s.1 s.2) := by
      unfold tris at hd
      rw [List.getElem?_map, hs1] at hd
      exact (Option.some.inj hd).symm
    refine g_pair ht ⟨rfl, _, rfl, _, rfl, _, rfl, _, rfl, _, rfl, n, r, a, kvs, s.1, s.2, rfl, Same.trans e1 e2 _ _ hD, hT, m1, m2, fun H4 e4 => ⟨(by show 3 ≤ sizeLine; decide), fun t5 n5 => k' _ _ (Same.trans e4 (Same.upd n5)) ?_⟩⟩
    rw [ed]
    exact ⟨t5, rfl, SqT.of upd_same⟩
  · intro H2 ys e2 f1 f2
    have ly := Paired.len f2
    have lt : (tris r n).length = (stretches n).length := by simp [tris]
    refine ⟨_, rfl, D, rfl, ⟨_, SqL.of f1⟩, fun D2 nD2 => ?_⟩
    refine lc_opt (r := rhTri K) (walk_list (xs := ys)) (fun i => ((tris r n)[i]?).bind fun a => if decide (0 < a.2.2) then some a else none) (by omega) immTri nD2 (fun H' e => SqL.of (e _ _ f1)) ?_ ?_
    · rintro i x H3 H4 KY KN hi e3 ⟨rfl, hx⟩ ky kn
      obtain ⟨s, hs1, hs2⟩ := Paired.at f2 hx
      have hs3 := immTri _ _ _ _ (Keep.of e3) hs2
      obtain ⟨t, rfl, ht⟩ := hs3
      refine ⟨rfl, _, rfl, t, _, 2, _, rfl, rfl, ht, atI_nat (j := 2) rfl, _, _, rfl, rfl, _, rfl, ?_⟩
      by_cases z : 0 < s.2.2
      · refine ifd_t z ⟨_, rfl, ky s _ _ ?_ (Same.refl _) ⟨t, rfl, ht⟩⟩
        rw [hs1]
        simp [z]
      · refine ifd_f z (kn ?_ _ (Same.refl _))
        rw [hs1]
        simp [z]
    · intro H3 zs e3 f3 f4
      rw [filterMap_filter (fun t : Nat × Nat × Int => decide (0 < t.2.2)) (tris r n) ys.length (by omega), List.take_of_length_le (by omega)] at f4
      refine ⟨D2, zs, rfl, .inl ⟨SqL.of f3, fun l2 n2 => ?_⟩⟩
      have e4 := Same.upd (o := .tup zs) n2
      exact q _ _ (Same.trans e1 (Same.trans e2 (Same.trans e3 e4))) ⟨l2, zs, rfl, SqT.of upd_same, Paired.keep immTri (Keep.of e4) f4⟩
def sp_bars (K : PySem.W.Frag) : Sp := fun vs H Q _ => ∃ (p : Int) (v : V) (c : Pc), vs = [v] ∧ okP p ∧ rhPic K p H v c ∧ PcOk p c ∧ Ret (rhT K (rhTri K)) H Q (barsOf (reachOf p c) c.many)
theorem pure_bars (vs : List V) (H : Hp) (Q : VK) (E : XK) (h : sp_bars K vs H Q E) : t_bars K (sp_check_line K) (sp_stretches K) (sp_raw_reach K) (sp_raw_bars K) (Ed Q) (start n_bars vs) H := by
  obtain ⟨p, v, c, rfl, hp, hc, ok, q⟩ := h
  have lm : c.many ≤ 8 := ok.li.2.1
  refine ⟨_, rfl, p, v, c, rfl, hc, ok.li, fun H1 e1 => ?_⟩
  have hc1 := immPic _ _ _ _ (Keep.of e1) hc
  refine ⟨_, rfl, ?_⟩
  refine fd_web hc1 fun vw hw => ?_
  refine fd_many hw ?_
  refine ⟨_, rfl, _, rfl, c.many, rfl, lm, fun l xs H2 e2 hl pS => ?_⟩
  have pS2 : Paired (rhSt H2) xs (stretches c.many) := pS
  have lx := Paired.len pS2
  have ls := str_len c.many
  have l64 : c.many * c.many ≤ 64 := Nat.le_trans (Nat.mul_le_mul lm lm) (by decide)
  have e12 := Same.trans e1 e2
  refine ⟨l, rfl, ⟨_, SqL.of hl⟩, fun D nD => ?_⟩
  refine dcT_it (walk_list (xs := xs)) (fun i H' => Same H2 H' ∧ ∃ kvs, H' D = some (.dT kvs) ∧ kvs.length ≤ i ∧ ∀ x y : Int, valV kvs [Sum.inl x, Sum.inl y] = if 0 ≤ x ∧ 0 ≤ y ∧ (x.toNat, y.toNat) ∈ (stretches c.many).take i then some (.int (reachOf p c x.toNat y.toNat)) else none)
    ⟨Same.upd nD, [], upd_same, Nat.le_refl _, fun x y => by simp [valV_nil]⟩ (fun i H' _ ⟨e3, _⟩ => SqL.of (e3 _ _ hl)) ?_ ?_
  · rintro i x H3 H4 hi ⟨e3, kvs, hD, hkl, hkv⟩ ⟨rfl, hx⟩
    obtain ⟨s, hs1, hs2⟩ := Paired.at pS2 hx
    obtain ⟨t, rfl, ht⟩ := immSt _ _ _ _ (Keep.of e3) hs2
    obtain ⟨m1, m2⟩ := str_mem hs1
    refine g_pair ht ⟨rfl, ?_⟩
    refine ite_t (B := True) ?_
    refine ⟨_, rfl, _, rfl, (by show 2 ≤ sizeLine; decide), fun t5 n5 => ?_⟩
    have e5 := Same.upd (o := .tup [.int (s.1 : Nat), .int (s.2 : Nat)]) n5
    refine ⟨_, rfl, _, rfl, _, rfl, p, v, c, s.1, s.2, rfl, hp, immPic _ _ _ _ (Keep.of (Same.trans e12 (Same.trans e3 e5))) hc, ok, m1, m2, fun H6 e6 => ?_⟩
    have e56 := Same.trans e5 e6
    refine ⟨kvs, [Sum.inl (s.1 : Int), Sum.inl (s.2 : Int)], t5, rfl, e56 _ _ hD, e6 _ _ upd_same, Nat.lt_of_le_of_lt (by omega : kvs.length ≤ 1000) (by decide), Same.mut (Same.trans e3 e56) nD, _, upd_same, Nat.le_trans (length_putK _ _ _) (by omega), fun x y => ?_⟩
    rw [valV_put, List.take_add_one, hs1]
    by_cases z : [Sum.inl x, Sum.inl y] = ([Sum.inl (s.1 : Int), Sum.inl (s.2 : Int)] : List Key)
    · injection z with z1 z2
      injection z2 with z2 _
      have z1 := Sum.inl.inj z1
      have z2 := Sum.inl.inj z2
      subst z1 z2
      rw [if_pos rfl, if_pos ⟨by omega, by omega, by simp⟩]
      rfl
    · rw [if_neg z, hkv]
      have : (0 ≤ x ∧ 0 ≤ y ∧ (x.toNat, y.toNat) ∈ (stretches c.many).take i) ↔ (0 ≤ x ∧ 0 ≤ y ∧ (x.toNat, y.toNat) ∈ (stretches c.many).take i ++ (some s).toList) := by
        constructor
        · rintro ⟨a1, a2, a3⟩
          exact ⟨a1, a2, List.mem_append_left _ a3⟩
        · rintro ⟨a1, a2, a3⟩
          refine ⟨a1, a2, ?_⟩
          rcases List.mem_append.mp a3 with a3 | a3
          · exact a3
          · exfalso
            rw [Option.toList_some, List.mem_singleton] at a3
            apply z
            rw [← a3]
            show [Sum.inl x, Sum.inl y] = ([Sum.inl ((x.toNat : Nat) : Int), Sum.inl ((y.toNat : Nat) : Int)] : List Key)
            rw [Int.toNat_of_nonneg a1, Int.toNat_of_nonneg a2]
      by_cases w : 0 ≤ x ∧ 0 ≤ y ∧ (x.toNat, y.toNat) ∈ (stretches c.many).take i
      · rw [if_pos w, if_pos (this.mp w)]
      · rw [if_neg w, if_neg (fun h => w (this.mpr h))]
  · rintro H3 ⟨e3, kvs, hD, hkl, hkv⟩
    refine ⟨c.many, reachOf p c, D, kvs, rfl, lm, hD, fun x y => ?_, fun u H4 e4 h4 => q u H4 (Same.trans e12 (Same.trans e3 e4)) h4⟩
    rw [hkv, List.take_of_length_le (by omega)]
    have : (0 ≤ x ∧ 0 ≤ y ∧ (x.toNat, y.toNat) ∈ stretches c.many) ↔ (0 ≤ x ∧ x ≤ y ∧ y < c.many) := by
      rw [str_mem_iff]
      omega
    by_cases w : 0 ≤ x ∧ x ≤ y ∧ y < c.many
    · rw [if_pos w, if_pos (this.mpr w)]
    · rw [if_neg w, if_neg (fun h => w (this.mp h))]
end
/-- the purse at l, its cells at lc -/
def PuAt (l lc : Addr) (H : Hp) : Prop := l ≠ lc ∧ ∃ (i : Nat) (rest salt made : Int) (cells : List Int), H l = some (.lst [.ref lc, .int (i : Int), .int rest, .int salt, .int made]) ∧ H lc = some (.lst (cells.map V.int))
theorem But.refl (l : Addr) (H : Hp) : But l H H := fun _ _ _ h => h
theorem But.of {l : Addr} {H H' : Hp} (e : Same H H') : But l H H' := fun b o _ h => e b o h
theorem But.keep {l lc : Addr} {H H' : Hp} (p : PuAt l lc H) (b : But l H H') : Keep H H' := fun a o s h => by
  refine b a o (fun z => ?_) h
  subst z
  obtain ⟨_, i, r, s', m, cs, h1, _⟩ := p
  rw [h1] at h
  cases h
  exact s.elim
theorem PuAt.mono {l lc : Addr} {H H' : Hp} (p : PuAt l lc H) (e : Same H H') : PuAt l lc H' := by
  obtain ⟨h0, i, r, s, m, cs, h1, h2⟩ := p
  exact ⟨h0, i, r, s, m, cs, e _ _ h1, e _ _ h2⟩
theorem PuAt.ne {l lc D : Addr} {H : Hp} (p : PuAt l lc H) (h : H D = none) : D ≠ l ∧ D ≠ lc := by
  obtain ⟨h0, i, r, s, m, cs, h1, h2⟩ := p
  exact ⟨fun z => (by rw [z, h1] at h; cases h), fun z => (by rw [z, h2] at h; cases h)⟩
theorem PuAt.upd {l lc D : Addr} {H : Hp} {o : HO} (p : PuAt l lc H) (h1 : D ≠ l) (h2 : D ≠ lc) : PuAt l lc (L2.upd H D o) := by
  obtain ⟨h0, i, r, s, m, cs, g1, g2⟩ := p
  exact ⟨h0, i, r, s, m, cs, by rw [upd_ne (Ne.symm h1)]; exact g1, by rw [upd_ne (Ne.symm h2)]; exact g2⟩
theorem But.mut {l D : Addr} {H H' : Hp} {o : HO} (b : But l H H') (h : H D = none) : But l H (L2.upd H' D o) := fun a u n q => by
  rw [upd_ne (ne_of_none q h)]
  exact b a u n q
theorem But.free {l a : Addr} {H H' : Hp} (b : But l H H') (ne : a ≠ l) (h : H' a = none) : H a = none := by
  cases z : H a with
  | none => rfl
  | some o => rw [b a o ne z] at h; cases h
section
variable {J : It} {n : Nat} {G : Hp → Prop} {Y : Nat → Hp → V → Hp → Prop} {g : TG} {te : TE} {vs : List Nat} {σ : L2.St} {D : Addr} {Qd : Hp → Prop} {α : Type} {r : Hp → V → α → Prop} {H1 : Hp} {l lc : Addr} {ψ : Nat → α → Prop}
/-- a comprehension whose items draw from the purse -/
theorem lc_pu (w : Walk J n G Y) (hz : n ≤ 100000) (im : Imm r) (hD : H1 D = none) (hp : PuAt l lc H1) (hG : ∀ H, But l H1 H → PuAt l lc H → G H)
    (hs : ∀ (i : Nat) x H H' (Q : VK), i < n → But l H1 H → PuAt l lc H → Y i H x H' → (∀ y a H4, But l H H4 → PuAt l lc H4 → r H4 y a → ψ i a → Q y H4) → g x (wipe σ vs) H' fun σ2 H2 => wipe σ2 vs = wipe σ vs ∧ te σ2 H2 Q)
    (hd : ∀ H' ys as, But l H1 H' → PuAt l lc H' → H' D = some (.lst ys) → as.length = n → Paired (r H') ys as → (∀ i a, as[i]? = some a → ψ i a) → Qd H') :
    ∃ W : Nat → Nat → Hp → Prop, (∃ m, W 0 m (upd H1 D (.lst []))) ∧ ∀ i m H, W i m H →
      (J.stop i H ∧ Qd H) ∨ (J.go i H ∧ ∃ Nx : Hp → Prop, (∀ H', Nx H' → ∃ m', m' < m ∧ W (i + 1) m' H') ∧ ∀ x H', J.yld i H x H' → g x (wipe σ vs) H' fun σ2 H2 => wipe σ2 vs = wipe σ vs ∧ tYes σ2 H2 fun b H3 =>
        if b = true then te σ2 H3 fun y H4 => ∃ acc, H4 D = some (.lst acc) ∧ acc.length < sizeLine ∧ Nx (upd H4 D (.lst (acc ++ [y]))) else Nx H3) := by
  have nD := hp.ne hD
  refine lc_it w (fun i H => i ≤ n ∧ But l H1 H ∧ PuAt l lc H ∧ ∃ ys as, H D = some (.lst ys) ∧ as.length = i ∧ Paired (r H) ys as ∧ ∀ i a, as[i]? = some a → ψ i a)
    ⟨Nat.zero_le _, But.of (Same.upd hD), hp.upd nD.1 nD.2, [], [], upd_same, rfl, .nil, fun i a h => by simp at h⟩ (fun i H _ p => hG H p.2.1 p.2.2.1) (fun i x H H' hi p y => ?_) (fun H p => ?_)
  · obtain ⟨_, b, pu, ys, as, h1, h2, h3, h4⟩ := p
    have hl := Paired.len h3
    refine hs i x H H' _ hi b pu y (fun z a H4 b4 pu4 ra pa => ?_)
    have k4 : Keep H4 (upd H4 D (.lst (ys ++ [z]))) := Keep.putL (Keep.refl _) (b4 _ _ nD.1 h1)
    refine ⟨ys, b4 _ _ nD.1 h1, Nat.lt_of_lt_of_le (by omega : ys.length < 100000) (by decide), hi, But.mut (fun c o ne q => b4 c o ne (b c o ne q)) hD, pu4.upd nD.1 nD.2, ys ++ [z], as ++ [a], upd_same, by rw [List.length_append, h2]; rfl, Paired.app (Paired.keep im ((But.keep pu b4).trans k4) h3) (.cons (im _ _ _ _ k4 ra) .nil), fun j c hc => ?_⟩
    rw [List.getElem?_append] at hc
    split at hc
    · exact h4 j c hc
    · rw [List.getElem?_singleton] at hc
      split at hc
      · cases hc
        rw [show j = i by omega]
        exact pa
      · cases hc
  · obtain ⟨_, b, pu, ys, as, h1, h2, h3, h4⟩ := p
    exact hd H ys as b pu h1 h2 h3 h4
end
section
variable {K : PySem.W.Frag} {H : Hp} {Q : VK}
/-! _law_purse -/
theorem cut_all {xs : List V} (h : xs.length ≤ 70) : cutV xs none (some 70) = xs := by
  unfold cutV
  rw [HT.sIx_none, show (70 : Int) = ((70 : Nat) : Int) from rfl, HT.sIx_nat, Nat.min_eq_right h, Nat.sub_zero, List.drop_zero, List.take_length]
theorem Same.seqL {H' : Hp} {a : Addr} {xs : List V} (e : Same H H') (h : SqL K H a xs) : SqL K H' a xs := by
  rcases h with (h | ⟨o, h⟩) | h
  · exact .inl (.inl (e _ _ h))
  · exact .inl (.inr ⟨o, e _ _ h⟩)
  · exact .inr h
def sp_law_purse (K : PySem.W.Frag) : Sp := fun vs H Q _ => ∃ (a : Addr) (ns : List Int), vs = [.ref a] ∧ SqL K H a (ns.map V.int) ∧ ns.length ≤ 70 ∧ ∀ l lc H', Same H H' → PuAt l lc H' → Q (.ref l) H'
theorem pure_law_purse (vs : List V) (H : Hp) (Q : VK) (E : XK) (h : sp_law_purse K vs H Q E) : t_law_purse K (Ed Q) (start n_law_purse vs) H := by
  obtain ⟨a, ns, rfl, ha, hl, q⟩ := h
  have ec : cutV (ns.map V.int) none (some 70) = ns.map V.int := cut_all (by rw [List.length_map]; exact hl)
  refine ⟨_, rfl, _, rfl, a, ns.map V.int, rfl, ha, fun p np => ?_⟩
  rw [ec]
  have e1 := Same.upd (o := .lst (ns.map V.int)) np
  have hp1 : upd H p (.lst (ns.map V.int)) p = some (.lst (ns.map V.int)) := upd_same
  refine ⟨p, rfl, ⟨_, SqL.of hp1⟩, fun D nD => ?_⟩
  refine lc_all (r := rhI) (walk_list (xs := ns.map V.int)) (ns.map fun i => if i < 0 then -i else i) (by simp) (by simp; omega) immI nD (fun H' e => SqL.of (e _ _ hp1)) ?_ ?_
  · rintro i x d H2 H3 Q' hd e2 ⟨rfl, hx⟩ k'
    obtain ⟨c, hc, rfl⟩ := row_of hx
    refine ⟨rfl, _, rfl, .inl ⟨_, rfl, _, rfl, k' _ _ (Same.refl _) ?_⟩⟩
    rw [List.getElem?_map, hc] at hd
    rw [← Option.some.inj hd]
    rfl
  · intro H2 ys e2 f1 f2
    rw [ints_of f2] at f1
    refine ⟨_, rfl, _, rfl, a, ns.map V.int, rfl, Same.seqL (Same.trans e1 e2) ha, fun p2 np2 => ?_⟩
    rw [ec]
    have e3 := Same.upd (o := .lst (ns.map V.int)) np2
    refine ⟨p2, ns.map V.int, rfl, .inl (SqL.of upd_same), _, _, rfl, rfl, .inl ⟨by decide, by decide⟩, _, _, rfl, rfl, (by show 5 ≤ sizeLine; decide), fun l nl => ?_⟩
    have e4 := Same.upd (o := .lst [.ref D, .int 0, .int 0, .int (4099 + 31 * ((ns.map V.int).length : Int)), .int 0]) nl
    have hD4 := e4 _ _ (e3 _ _ f1)
    refine q l D _ (Same.trans e1 (Same.trans e2 (Same.trans e3 e4))) ⟨fun z => ?_, 0, 0, _, 0, _, upd_same, hD4⟩
    rw [z, e3 _ _ f1] at nl
    cases nl
end
section
variable {K : PySem.W.Frag} {H : Hp} {Q : VK}
/-! _law_part -/
def sp_law_part (K : PySem.W.Frag) : Sp := fun vs H Q _ => ∃ (l lc : Addr) (m : Nat), vs = [.ref l, .int m] ∧ PuAt l lc H ∧ 0 < m ∧ m < 1000 ∧ ∀ (k : Nat) H', But l H H' → PuAt l lc H' → k < m → Q (.int k) H'
theorem pu_set {l lc : Addr} {H H1 : Hp} {o : HO} {ys : List V} (b : But l H H1) (ne : l ≠ lc) (hc : H1 lc = some o) : But l H (upd H1 l (.lst ys)) ∧ upd H1 l (.lst ys) l = some (.lst ys) ∧ upd H1 l (.lst ys) lc = some o :=
  ⟨fun c u n q => by rw [upd_ne n]; exact b c u n q, upd_same, by rw [upd_ne (Ne.symm ne)]; exact hc⟩
theorem nat_of_mod {x : Int} {m : Nat} (h : 0 < m) : ∃ k : Nat, x % (m : Int) = (k : Int) ∧ k < m := by
  have h1 := Int.emod_nonneg x (by omega : (m : Int) ≠ 0)
  have h2 := Int.emod_lt_of_pos x (by omega : (0 : Int) < m)
  exact ⟨(x % (m : Int)).toNat, by omega, by omega⟩
theorem pure_law_part (vs : List V) (H : Hp) (Q : VK) (E : XK) (h : sp_law_part K vs H Q E) : t_law_part K (Ed Q) (start n_law_part vs) H := by
  obtain ⟨l, lc, m, rfl, hp, hm, hm2, q⟩ := h
  have rest : ∀ (v2 : Option V) (H1 : Hp) (i : Nat) (re sa ma : Int) (cells : List Int), l ≠ lc → But l H H1 → H1 l = some (.lst [.ref lc, .int (i : Int), .int re, .int sa, .int ma]) → H1 lc = some (.lst (cells.map V.int)) →
      (tSeq (tIfS (tTest (tOp rGtI (tOp (rIxL K) (tVar 0) (tC (.int 2))) (tC (.int 0)))) (tSeq (tAsg (tOp rModI (tCB rIntOf (tCons (tOp (rIxL K) (tVar 0) (tC (.int 2))) tNil)) (tVar 1)) (gName 3))
  (tSeq (tAsg (tOp rFdvI (tOp (rIxL K) (tVar 0) (tC (.int 2))) (tVar 1)) (gSub (tVar 0) (tC (.int 2)) rSetL))
  (tRet (tVar 3)))) tNext)
  (tSeq (tAsg (tOp rAddI (tOp (rIxL K) (tVar 0) (tC (.int 4))) (tC (.int 1))) (gSub (tVar 0) (tC (.int 4)) rSetL))
  (tSeq (tAsg (tOp rModI (tCB rIntOf (tCons (tOp rMulI (tOp rAddI (tOp (rIxL K) (tVar 0) (tC (.int 3))) (tOp rMulI (tC (.int 62089911)) (tOp (rIxL K) (tVar 0) (tC (.int 4))))) (tC (.int 69621))) tNil)) (tC (.int 2147483563))) (gName 4))
  (tSeq (tAsg (tOp rModI (tCB rIntOf (tCons (tOp rMulI (tVar 4) (tOp rAddI (tOp rFdvI (tVar 4) (tC (.int 1499))) (tC (.int 40014)))) tNil)) (tC (.int 2147483647))) (gName 4))
  (tSeq (tAsg (tOp rModI (tCB rIntOf (tCons (tOp rMulI (tVar 4) (tOp rAddI (tOp rFdvI (tVar 4) (tC (.int 2777))) (tC (.int 39373)))) tNil)) (tC (.int 2147483629))) (gName 4))
  (tRet (tOp rModI (tCB rIntOf (tCons (tOp rFdvI (tVar 4) (tC (.int 64))) tNil)) (tVar 1)))))))) (Ed Q) [some (.ref l), some (.int m), v2, none, none] H1 := by
    intro v2 H1 i re sa ma cells ne b hl hc
    refine ⟨_, rfl, l, _, _, _, rfl, rfl, SqL.of hl, atI_nat (j := 2) rfl, _, _, rfl, rfl, _, rfl, ?_⟩
    by_cases z : 0 < re
    · refine ifd_t z ⟨_, rfl, l, _, _, _, rfl, rfl, SqL.of hl, atI_nat (j := 2) rfl, .inl ⟨_, rfl, _, rfl, _, _, rfl, rfl, (by show (0 : Int) < m; omega), ?_⟩⟩
      refine ⟨_, rfl, l, _, _, _, rfl, rfl, SqL.of hl, atI_nat (j := 2) rfl, _, rfl, _, _, rfl, rfl, ⟨by omega, by omega⟩, _, rfl, l, _, _, 2, rfl, rfl, hl, ixSet (k := 2) (n := 5) (by decide), ?_⟩
      obtain ⟨b2, h2, h3⟩ := pu_set (ys := [.ref lc, .int (i : Int), .int (re / (m : Int)), .int sa, .int ma]) b ne hc
      obtain ⟨k, ek, lk⟩ := nat_of_mod (x := re) hm
      refine ⟨_, rfl, ?_⟩
      show Q (.int (re % (m : Int))) _
      rw [ek]
      exact q k _ b2 ⟨ne, i, _, sa, ma, cells, h2, h3⟩ lk
    · refine ifd_f z ?_
      refine ⟨_, rfl, l, _, _, _, rfl, rfl, SqL.of hl, atI_nat (j := 4) rfl, _, _, rfl, rfl, _, rfl, l, _, _, 4, rfl, rfl, hl, ixSet (k := 4) (n := 5) (by decide), ?_⟩
      obtain ⟨b2, h2, h3⟩ := pu_set (ys := [.ref lc, .int (i : Int), .int re, .int sa, .int (ma + 1)]) b ne hc
      refine ⟨_, rfl, l, _, _, _, rfl, rfl, SqL.of h2, atI_nat (j := 3) rfl, _, rfl, l, _, _, _, rfl, rfl, SqL.of h2, atI_nat (j := 4) rfl, _, _, rfl, rfl, .inl ⟨by decide, by decide⟩, _, _, rfl, rfl, _, _, rfl, rfl, .inr ⟨by decide, by decide⟩, .inl ⟨_, rfl, _, _, rfl, rfl, (by show (0 : Int) < _; decide), ?_⟩⟩
      have fin : ∀ x : Int, Q (.int (x % (m : Int))) (upd H1 l (.lst [.ref lc, .int (i : Int), .int re, .int sa, .int (ma + 1)])) := fun x => by
        obtain ⟨k, ek, lk⟩ := nat_of_mod (x := x) hm
        rw [ek]
        exact q k _ b2 ⟨ne, i, _, sa, _, cells, h2, h3⟩ lk
      refine ⟨_, rfl, _, rfl, _, _, rfl, rfl, ⟨by decide, by decide⟩, _, _, rfl, rfl, _, _, rfl, rfl, .inl ⟨by omega, by omega⟩, .inl ⟨_, rfl, _, _, rfl, rfl, (by show (0 : Int) < _; decide), ?_⟩⟩
      refine ⟨_, rfl, _, rfl, _, _, rfl, rfl, ⟨by decide, by decide⟩, _, _, rfl, rfl, _, _, rfl, rfl, .inl ⟨?_, ?_⟩, .inl ⟨_, rfl, _, _, rfl, rfl, (by show (0 : Int) < _; decide), ?_⟩⟩
      · have f3 := Int.emod_nonneg ((sa + 62089911 * (ma + 1)) * 69621 % 2147483563 * ((sa + 62089911 * (ma + 1)) * 69621 % 2147483563 / 1499 + 40014)) (by decide : (2147483647 : Int) ≠ 0)
        show -(2 ^ 64) < (sa + 62089911 * (ma + 1)) * 69621 % 2147483563 * ((sa + 62089911 * (ma + 1)) * 69621 % 2147483563 / 1499 + 40014) % 2147483647
        exact Int.lt_of_lt_of_le (by decide) f3
      · have f4 := Int.emod_lt_of_pos ((sa + 62089911 * (ma + 1)) * 69621 % 2147483563 * ((sa + 62089911 * (ma + 1)) * 69621 % 2147483563 / 1499 + 40014)) (by decide : (0 : Int) < 2147483647)
        show (sa + 62089911 * (ma + 1)) * 69621 % 2147483563 * ((sa + 62089911 * (ma + 1)) * 69621 % 2147483563 / 1499 + 40014) % 2147483647 < 2 ^ 64
        exact Int.lt_trans f4 (by decide)
      refine ⟨_, rfl, _, _, rfl, rfl, ⟨by decide, by decide⟩, .inl ⟨_, rfl, _, rfl, _, _, rfl, rfl, (by show (0 : Int) < m; omega), ?_⟩⟩
      exact fin _
  obtain ⟨ne, i, re, sa, ma, cells, hl, hc⟩ := hp
  refine ⟨_, rfl, l, _, _, _, rfl, rfl, SqL.of hl, atI_nat (j := 2) rfl, _, _, rfl, rfl, _, rfl, ?_⟩
  by_cases z : re < 1
  · refine ifd_t z ⟨_, rfl, l, _, _, _, rfl, rfl, SqL.of hl, atI_nat (j := 1) rfl, _, rfl, l, _, _, _, rfl, rfl, SqL.of hl, atI_nat (j := 0) rfl, lc, _, rfl, .inl (SqL.of hc), _, _, rfl, rfl, _, rfl, ?_⟩
    by_cases z2 : (i : Int) < ((cells.map V.int).length : Int)
    · have hi : i < cells.length := by rw [List.length_map] at z2; omega
      refine ifd_t z2 ⟨_, rfl, l, _, _, _, rfl, rfl, SqL.of hl, atI_nat (j := 0) rfl, _, rfl, l, _, _, _, rfl, rfl, SqL.of hl, atI_nat (j := 1) rfl, lc, _, _, _, rfl, rfl, SqL.of hc, atI_nat (row_at hi), ?_⟩
      generalize cells.getD i 0 = cell
      refine ⟨_, rfl, l, _, _, _, rfl, rfl, SqL.of hl, atI_nat (j := 1) rfl, _, _, rfl, rfl, _, rfl, l, _, _, 1, rfl, rfl, hl, ixSet (k := 1) (n := 5) (by decide), ?_⟩
      obtain ⟨b2, h2, h3⟩ := pu_set (ys := [.ref lc, .int ((i : Int) + 1), .int re, .int sa, .int ma]) (But.refl l H) ne hc
      refine ⟨_, rfl, l, _, _, _, rfl, rfl, SqL.of h2, atI_nat (j := 3) rfl, _, _, rfl, rfl, .inr ⟨by decide, by decide⟩, _, rfl, _, _, rfl, rfl, _, _, rfl, rfl, .inl ⟨_, rfl, _, _, rfl, rfl, (by show (0 : Int) < _; decide), _, rfl, l, _, _, 3, rfl, rfl, h2, ixSet (k := 3) (n := 5) (by decide), ?_⟩⟩
      obtain ⟨b4, h4, h5⟩ := pu_set (ys := [.ref lc, .int ((i : Int) + 1), .int re, .int ((sa * 48271 + cell + 9) % 2147483399), .int ma]) b2 ne h3
      refine ⟨_, rfl, _, _, rfl, rfl, ⟨by decide, by decide, by decide⟩, _, _, rfl, rfl, _, rfl, ?_⟩
      by_cases z3 : (10 : Int) ^ (13 : Int).toNat ≤ cell
      · refine ifd_t z3 ⟨_, rfl, _, rfl, l, _, _, 2, rfl, rfl, h4, ixSet (k := 2) (n := 5) (by decide), ?_⟩
        obtain ⟨b6, h6, h7⟩ := pu_set (ys := [.ref lc, .int ((i : Int) + 1), .int cell, .int ((sa * 48271 + cell + 9) % 2147483399), .int ma]) b4 ne h5
        exact rest _ _ (i + 1) cell _ _ cells ne b6 h6 h7
      · refine ifd_f z3 ⟨_, rfl, l, _, _, 2, rfl, rfl, h4, ixSet (k := 2) (n := 5) (by decide), ?_⟩
        obtain ⟨b6, h6, h7⟩ := pu_set (ys := [.ref lc, .int ((i : Int) + 1), .int 0, .int ((sa * 48271 + cell + 9) % 2147483399), .int ma]) b4 ne h5
        exact rest _ _ (i + 1) 0 _ _ cells ne b6 h6 h7
    · refine ifd_f z2 (rest _ _ i re sa ma cells ne (But.refl _ _) hl hc)
  · refine ifd_f z (ite_f (rest _ _ i re sa ma cells ne (But.refl _ _) hl hc))
/-! _law_one -/
def sp_law_one (K : PySem.W.Frag) : Sp := fun vs H Q _ => ∃ (l lc a : Addr) (xs : List V), vs = [.ref l, .ref a] ∧ PuAt l lc H ∧ a ≠ l ∧ H a = some (.lst xs) ∧ 0 < xs.length ∧ xs.length < 1000 ∧ ∀ (x : V) H', But l H H' → PuAt l lc H' → x ∈ xs → Q x H'
theorem pure_law_one (vs : List V) (H : Hp) (Q : VK) (E : XK) (h : sp_law_one K vs H Q E) : t_law_one K (sp_law_part K) (Ed Q) (start n_law_one vs) H := by
  obtain ⟨l, lc, a, xs, rfl, hp, ne, ha, h0, h1, q⟩ := h
  refine ⟨_, rfl, _, rfl, _, rfl, a, xs, rfl, .inl (SqL.of ha), l, lc, xs.length, rfl, hp, h0, h1, fun k H1 b1 p1 hk => ?_⟩
  exact ⟨a, xs, _, xs[k], rfl, rfl, SqL.of (b1 _ _ ne ha), atI_nat (List.getElem?_eq_getElem hk), q _ _ b1 p1 (List.getElem_mem hk)⟩
/-! _law_line -/
def sgn (d : Bool) : Str := if d then ">" else "<"
theorem str_join : ∀ ds : List Bool, Str.join "" (ds.map sgn) = wordOf ds
  | [] => rfl
  | [d] => by cases d <;> rfl
  | d :: d2 :: ds => by
    have h := str_join (d2 :: ds)
    show sgn d ++ "" ++ Str.join "" ((d2 :: ds).map sgn) = _
    rw [h]
    show (⟨((sgn d).cps ++ ("" : Str).cps) ++ (wordOf (d2 :: ds)).cps⟩ : Str) = ⟨_⟩
    congr 1
    have e : (sgn d).cps ++ ("" : Str).cps = #[if d then 62 else 60] := by cases d <;> rfl
    rw [e]
    simp [wordOf]
theorem join_word (ds : List Bool) : Txt.join "" (ds.map sgn) = wordOf ds := by
  rw [← str_join]
  exact StrLaws.glued_eq_join _ _
theorem sum_sgn (ds : List Bool) : ((ds.map sgn).map (·.length)).sum = ds.length := by
  induction ds with
  | nil => rfl
  | cons d ds ih =>
    rw [List.map_cons, List.map_cons, List.sum_cons, ih, List.length_cons]
    have : (sgn d).length = 1 := by cases d <;> rfl
    omega
def rhSg (_ : Hp) (v : V) (d : Bool) : Prop := v = .str (sgn d)
theorem immSg : Imm rhSg := fun _ _ _ _ _ h => h
theorem sgs_of : ∀ {xs : List V} {ds : List Bool}, Paired (rhSg H) xs ds → xs = (ds.map sgn).map V.str
  | _, _, .nil => rfl
  | _, _, .cons r t => by rw [List.map_cons, List.map_cons, ← sgs_of t]; rw [show _ = V.str _ from r]
def sp_law_line (K : PySem.W.Frag) : Sp := fun vs H Q _ => ∃ (l lc : Addr) (m : Nat), vs = [.ref l, .int m] ∧ PuAt l lc H ∧ m ≤ 7 ∧
  ∀ (ds : List Bool) (t : Addr) (vw : V) H', ds.length ≤ m → But l H H' → PuAt l lc H' → H' t = some (.tup [.str (wordOf ds), vw]) → rhWeb K H' vw (ds.length + 1, lineArr ds) → Q (.ref t) H'
theorem pure_law_line (vs : List V) (H : Hp) (Q : VK) (E : XK) (h : sp_law_line K vs H Q E) : t_law_line K (sp_law_part K) (sp_law_one K) (sp_line K) (Ed Q) (start n_law_line vs) H := by
  obtain ⟨l, lc, m, rfl, hp, hm, q⟩ := h
  refine ⟨rfl, _, rfl, _, rfl, _, _, rfl, rfl, l, lc, m + 1, rfl, hp, by omega, by omega, fun k H1 b1 p1 hk => ?_⟩
  refine ⟨(k : Int), rfl, by omega, by omega, fun D nD => ?_⟩
  rw [Int.toNat_natCast]
  refine lc_pu (r := rhSg) (l := l) (lc := lc) (ψ := fun _ _ => True) (wk_rng (n := k)) (by omega) immSg nD p1 (fun _ _ _ => trivial) ?_ ?_
  · rintro i x H2 H3 Q' hi b2 p2 ⟨rfl, rfl⟩ k'
    refine ⟨rfl, _, rfl, (by show 2 ≤ sizeLine; decide), fun a na => ?_⟩
    have e3 := Same.upd (o := .lst [.str "<", .str ">"]) na
    refine ⟨l, lc, a, [.str "<", .str ">"], rfl, p2.mono e3, (p2.ne na).1, upd_same, (by decide), (by decide), fun y H4 b4 p4 hy => ?_⟩
    rcases List.mem_cons.mp hy with rfl | hy
    · exact k' _ false H4 ((But.of e3).trans b4) p4 rfl trivial
    · cases List.mem_singleton.mp hy
      exact k' _ true H4 ((But.of e3).trans b4) p4 rfl trivial
  · intro H2 ys ds b2 p2 f1 f2 f3 _
    rw [sgs_of f3] at f1
    refine ⟨_, D, ds.map sgn, rfl, rfl, .inl (SqL.of f1), ?_, ?_⟩
    · rw [sum_sgn]
      show ds.length + (ds.map sgn).length * 0 ≤ 16777216
      omega
    · rw [join_word]
      refine ⟨_, rfl, _, rfl, ds, rfl, by omega, fun vw H3 e3 h3 => ⟨(by show 2 ≤ sizeLine; decide), fun t nt => ?_⟩⟩
      have e4 := Same.upd (o := .tup [.str (wordOf ds), vw]) nt
      have e34 := Same.trans e3 e4
      exact q ds t vw _ (by omega) ((b1.trans b2).trans (But.of e34)) (p2.mono e34) upd_same (immWeb _ _ _ _ (Keep.of e4) h3)
end
section
variable {K : PySem.W.Frag} {H : Hp} {Q : VK}
theorem rep_false : ∀ (n : Nat), (List.replicate n false).any id = false
  | 0 => rfl
  | n + 1 => by rw [List.replicate_succ, List.any_cons, rep_false n]; rfl
/-! _law_pairs, _law_stretches -/
def pairTo (n i : Nat) : List (Nat × Nat) := (List.range i).flatMap fun b => (List.range n).map fun e => (b, e)
theorem pairTo_succ (n i : Nat) : pairTo n (i + 1) = pairTo n i ++ (List.range n).map fun e => (i, e) := by
  unfold pairTo
  rw [List.range_succ, List.flatMap_append, List.flatMap_cons, List.flatMap_nil, List.append_nil]
theorem pairTo_len (n : Nat) : ∀ i, (pairTo n i).length = n * i
  | 0 => rfl
  | i + 1 => by rw [pairTo_succ, List.length_append, List.length_map, List.length_range, pairTo_len n i, Nat.mul_succ]
theorem pair_block (n b : Nat) (h : b ≤ n) : ((List.range n).map fun e => (b, e)).filter (fun s => decide (s.1 ≤ s.2)) = (List.range (n - b)).map fun j => (b, b + j) := by
  obtain ⟨k, rfl⟩ : ∃ k, n = b + k := ⟨n - b, by omega⟩
  rw [List.range_add, List.map_append, List.filter_append, List.filter_eq_nil_iff.mpr, List.filter_eq_self.mpr, List.nil_append, List.map_map, Nat.add_sub_cancel_left]
  · rfl
  · intro s hs
    rw [List.map_map] at hs
    obtain ⟨j, _, rfl⟩ := List.mem_map.mp hs
    simp
  · intro s hs
    obtain ⟨j, hj, rfl⟩ := List.mem_map.mp hs
    have := List.mem_range.mp hj
    simp
    omega
theorem pair_filter (n : Nat) : ∀ i, i ≤ n → (pairTo n i).filter (fun s => decide (s.1 ≤ s.2)) = strTo n i
  | 0, _ => rfl
  | i + 1, h => by rw [pairTo_succ, strTo_succ, List.filter_append, pair_filter n i (by omega), pair_block n i (by omega)]
def sp_law_pairs (K : PySem.W.Frag) : Sp := fun vs H Q _ => ∃ (n : Nat), vs = [.int n] ∧ n ≤ 8 ∧ ∀ (l : Addr) (xs : List V) (H' : Hp), Same H H' → H' l = some (.lst xs) → Paired (rhSt H') xs (pairTo n n) → Q (.ref l) H'
theorem pure_law_pairs (vs : List V) (H : Hp) (Q : VK) (E : XK) (h : sp_law_pairs K vs H Q E) : t_law_pairs K (Ed Q) (start n_law_pairs vs) H := by
  obtain ⟨n, rfl, hn, q⟩ := h
  refine ⟨Nat.zero_le _, fun aF nF => ⟨_, rfl, (n : Nat), rfl, by omega, by omega, ?_⟩⟩
  have e0 := Same.upd (o := .lst []) nF
  rw [Int.toNat_natCast]
  refine for_it (wk_rng (n := n)) (fun i σ H' => ∃ (zs : List V) (v2 v3 : Option V), σ = [some (.int (n : Nat)), some (.ref aF), v2, v3] ∧ Same H H' ∧ H' aF = some (.lst zs) ∧ Paired (rhSt H') zs (pairTo n i))
    ⟨[], none, none, rfl, e0, upd_same, .nil⟩ (fun _ _ _ _ _ => trivial) ?_ ?_
  · rintro i x σ H0 H1 hi ⟨zs, v2, v3, rfl, e1, hF, pF⟩ ⟨rfl, rfl⟩
    have lz := Paired.len pF
    have ll := pairTo_len n i
    have l64 : n * i ≤ 64 := Nat.le_trans (Nat.mul_le_mul hn (by omega : i ≤ 8)) (by decide)
    refine ⟨_, rfl, .inl ⟨rfl, _, SqL.of hF⟩, ?_⟩
    refine ⟨_, rfl, _, rfl, by omega, by omega, fun D hD => ?_⟩
    rw [Int.toNat_natCast]
    refine lc_all (r := rhSt) (wk_rng (n := n)) ((List.range n).map fun j => (i, j)) (by simp) (by omega) immSt hD (fun _ _ => trivial) ?_ ?_
    · rintro j y d H3 H4 Q2 hd e3 ⟨rfl, rfl⟩ k2
      obtain ⟨hj, ed⟩ := gets hd
      subst ed
      refine ⟨rfl, _, rfl, _, rfl, (by show 2 ≤ sizeLine; decide), fun t nt => k2 _ _ (Same.upd nt) ⟨t, rfl, upd_same⟩⟩
    · intro H3 ys e3 f1 f2
      have hF3 := e3 _ _ hF
      have kp := Keep.putL (o := .lst (zs ++ ys)) (Keep.refl _) hF3
      have ly := Paired.len f2
      rw [List.length_map, List.length_range] at ly
      refine ⟨aF, D, zs, ys, rfl, rfl, hF3, f1, Nat.le_trans (by omega : zs.length + ys.length ≤ 1000) (by decide), zs ++ ys, _, _, rfl, Same.mut (Same.trans e1 e3) nF, upd_same, ?_⟩
      rw [pairTo_succ]
      exact Paired.app (Paired.keep immSt ((Keep.of e3).trans kp) pF) (Paired.keep immSt kp f2)
  · rintro σ H1 ⟨zs, v2, v3, rfl, e1, hF, pF⟩
    exact ⟨_, rfl, q aF zs H1 e1 hF pF⟩
theorem pure_law_stretches (vs : List V) (H : Hp) (Q : VK) (E : XK) (h : sp_stretches K vs H Q E) : t_law_stretches K (sp_law_pairs K) (Ed Q) (start n_law_stretches vs) H := by
  obtain ⟨n, rfl, hn, q⟩ := h
  refine ⟨_, rfl, n, rfl, hn, fun l xs H1 e1 hl pS => ?_⟩
  have lx := Paired.len pS
  have ll := pairTo_len n n
  have l64 : n * n ≤ 64 := Nat.le_trans (Nat.mul_le_mul hn hn) (by decide)
  refine ⟨l, rfl, ⟨_, SqL.of hl⟩, fun D nD => ?_⟩
  refine lc_opt (r := rhSt) (walk_list (xs := xs)) (fun i => ((pairTo n n)[i]?).bind fun s => if decide (s.1 ≤ s.2) then some s else none) (by omega) immSt nD (fun H' e => SqL.of (e _ _ hl)) ?_ ?_
  · rintro i x H3 H4 KY KN hi e3 ⟨rfl, hx⟩ ky kn
    obtain ⟨s, hs1, hs2⟩ := Paired.at pS hx
    obtain ⟨t, rfl, ht⟩ := immSt _ _ _ _ (Keep.of e3) hs2
    refine g_pair ht ⟨rfl, _, rfl, _, rfl, _, _, rfl, rfl, _, rfl, ?_⟩
    by_cases z : s.1 ≤ s.2
    · refine ifd_t (by omega) ⟨_, rfl, _, rfl, (by show 2 ≤ sizeLine; decide), fun t5 n5 => ky s _ _ ?_ (Same.upd n5) ⟨t5, rfl, upd_same⟩⟩
      rw [hs1]
      simp [z]
    · refine ifd_f (by omega) (kn ?_ _ (Same.refl _))
      rw [hs1]
      simp [z]
  · intro H3 zs e3 f3 f4
    rw [filterMap_filter (fun s : Nat × Nat => decide (s.1 ≤ s.2)) (pairTo n n) xs.length (by omega), List.take_of_length_le (by omega), pair_filter n n (Nat.le_refl _)] at f4
    exact q D zs H3 (Same.trans e1 e3) f3 f4
/-! _law_rows, _law_picture -/
def sp_law_rows (K : PySem.W.Frag) : Sp := fun vs H Q _ => ∃ (l lc : Addr) (p : Int) (h w : Nat), vs = [.ref l, .int p, .int h, .int w] ∧ PuAt l lc H ∧ okP p ∧ h ≤ 12 ∧ w ≤ 12 ∧
  ∀ (v : V) (m : List (List Int)) H', But l H H' → PuAt l lc H' → rhMat K H' v m → m.length = h → okMat p w m → Q v H'
theorem okP.nat {p : Int} (h : okP p) : ∃ n : Nat, p = (n : Int) ∧ 2 ≤ n ∧ n ≤ 13 := ⟨p.toNat, by have := h.lo; omega, by have := h.lo; omega, by have := h.hi; omega⟩
theorem pure_law_rows (vs : List V) (H : Hp) (Q : VK) (E : XK) (h : sp_law_rows K vs H Q E) : t_law_rows K (sp_law_part K) (Ed Q) (start n_law_rows vs) H := by
  obtain ⟨l, lc, p, h, w, rfl, hp, okp, hh, hw, q⟩ := h
  have hp1 := okp.lo
  have hp2 := okp.hi
  obtain ⟨pn, rfl, pn1, pn2⟩ := okp.nat
  refine ⟨_, rfl, l, lc, 8, rfl, hp, by decide, by decide, fun k H1 b1 p1 hk => ⟨rfl, _, rfl, ?_⟩⟩
  by_cases z : k = 0
  · subst z
    refine ifd_t rfl ⟨(by show 1 ≤ sizeLine; decide), fun t0 n0 => ⟨_, rfl, ?_⟩⟩
    have e0 := Same.upd (o := .tup [.int 0]) n0
    refine nils_of upd_same (by omega) fun v1 H2 e2 h2 => ?_
    refine ⟨(by show 1 ≤ sizeLine; decide), fun t1 n1 => ⟨_, rfl, ?_⟩⟩
    have e3 := Same.upd (o := .tup [v1]) n1
    refine ⟨t1, _, [v1], rfl, rfl, SqT.of upd_same, by simp, by omega, by omega, by simp, fun a H4 e4 h4 => ?_⟩
    rw [Int.toNat_natCast, rep1] at h4
    have e := Same.trans e0 (Same.trans e2 (Same.trans e3 e4))
    refine q _ (List.replicate h (nils w)) H4 (b1.trans (But.of e)) (p1.mono e) ⟨a, _, rfl, h4, Paired.rep (immRow _ _ _ _ (Keep.of (Same.trans e3 e4)) h2) h⟩ (by simp) fun r hr => ?_
    rw [(List.mem_replicate.mp hr).2]
    exact okRow_nils (by omega) w
  · refine ifd_f (fun e => z (by have := V.int.inj e; omega)) ?_
    refine ⟨_, rfl, _, rfl, by omega, by omega, fun D nD => ?_⟩
    rw [Int.toNat_natCast]
    refine lc_pu (r := rhRow K) (l := l) (lc := lc) (ψ := fun _ r => okRow (pn : Int) w r) (wk_rng (n := h)) (by omega) immRow nD p1 (fun _ _ _ => trivial) ?_ ?_
    · rintro i x H2 H3 Q' hi b2 p2 ⟨rfl, rfl⟩ k'
      refine ⟨rfl, _, rfl, _, rfl, by omega, by omega, fun D2 nD2 => ?_⟩
      rw [Int.toNat_natCast]
      refine lc_pu (r := rhI) (l := l) (lc := lc) (ψ := fun _ y => 0 ≤ y ∧ y < (pn : Int)) (wk_rng (n := w)) (by omega) immI nD2 p2 (fun _ _ _ => trivial) ?_ ?_
      · rintro j y H4 H5 Q2 hj b4 p4 ⟨rfl, rfl⟩ k2
        exact ⟨rfl, _, rfl, _, rfl, l, lc, pn, rfl, p4, by omega, by omega, fun k H6 b6 p6 hk => k2 _ (k : Int) H6 b6 p6 rfl ⟨by omega, by omega⟩⟩
      · intro H4 ys as b4 p4 f1 f2 f3 f4
        rw [ints_of f3] at f1
        refine ⟨D2, _, rfl, .inl ⟨SqL.of f1, fun l2 n2 => ?_⟩⟩
        have e5 := Same.upd (o := .tup (as.map V.int)) n2
        refine k' _ as _ (b4.trans (But.of e5)) (p4.mono e5) (rhRow.mk (SqT.of upd_same)) ⟨f2, fun x hx => ?_⟩
        obtain ⟨j, hj, rfl⟩ := List.getElem_of_mem hx
        exact f4 j _ (List.getElem?_eq_getElem hj)
    · intro H4 ys as b4 p4 f1 f2 f3 f4
      refine ⟨D, ys, rfl, .inl ⟨SqL.of f1, fun l2 n2 => ?_⟩⟩
      have e5 := Same.upd (o := .tup ys) n2
      refine q _ as _ ((b1.trans b4).trans (But.of e5)) (p4.mono e5) ⟨l2, ys, rfl, SqT.of upd_same, Paired.keep immRow (Keep.of e5) f3⟩ f2 fun r hr => ?_
      obtain ⟨j, hj, rfl⟩ := List.getElem_of_mem hr
      exact f4 j _ (List.getElem?_eq_getElem hj)
def sp_law_picture (K : PySem.W.Frag) : Sp := fun vs H Q _ => ∃ (l lc : Addr) (p : Int) (vw vS : V) (w : Nat × List (Nat × Nat)) (ns : List Nat), vs = [.ref l, vw, .int p, vS] ∧ PuAt l lc H ∧ okP p ∧ rhWeb K H vw w ∧ lineOk w.1 w.2 ∧ rhT K rhN H vS ns ∧ ns.length = w.1 ∧ (∀ n ∈ ns, n ≤ 6) ∧
  ∀ (v : V) (c : Pc) H', But l H H' → PuAt l lc H' → rhPic K p H' v c → PcOk p c → Q v H'
theorem pure_law_picture (kt : KTab K (ad K "Table")) (kp : KPic K (ad K "Picture")) (vs : List V) (H : Hp) (Q : VK) (E : XK) (h : sp_law_picture K vs H Q E) : t_law_picture K (sp_law_rows K) (sp_Table_init K) (sp_Picture_init K) (Ed Q) (start n_law_picture vs) H := by
  obtain ⟨l, lc, p, vw, vS, w, ns, rfl, hp, okp, hw, li, hS, lns, hns, q⟩ := h
  have le6 : ∀ i, ns.getD i 0 ≤ 6 := fun i => by
    rw [List.getD_eq_getElem?_getD]
    cases e : ns[i]? with
    | none => exact Nat.zero_le _
    | some n => exact hns n (List.mem_of_getElem? e)
  refine ⟨_, rfl, ?_⟩
  refine fd_arrows hw fun va hva => ?_
  obtain ⟨aA, xs, rfl, hA, pA⟩ := hva
  have lA := Paired.len pA
  have lia := li.1
  have lim := li.2.1
  refine ⟨aA, rfl, ⟨_, hA⟩, fun D nD => ?_⟩
  refine lc_pu (r := rhTab K p) (l := l) (lc := lc) (ψ := fun i (t : Tb) => ∀ a, w.2[i]? = some a → t.wide = ns.getD a.1 0 ∧ t.rows.length = ns.getD a.2 0 ∧ okMat p t.wide t.rows) (walk_tup (xs := xs)) (by omega) immTab nD hp (fun H' b _ => Keep.tup (But.keep hp b) hA) ?_ ?_
  · rintro i x H1 H2 Q' hi b2 p2 ⟨rfl, hx⟩ k'
    obtain ⟨ar, har, hpr⟩ := Paired.at pA hx
    have lt := li.lt har
    have k2 := But.keep hp b2
    obtain ⟨aP, rfl, hP⟩ := immPr _ _ _ _ k2 hpr
    have hS2 := immT immN _ _ _ _ k2 hS
    obtain ⟨s1, us1, es1, g1, g2⟩ := rhN.at hS2 (i := ar.1) (by omega)
    obtain ⟨s2, us2, es2, g3, g4⟩ := rhN.at hS2 (i := ar.2) (by omega)
    have l1 := le6 ar.1
    have l2 := le6 ar.2
    refine ⟨aP, _, rfl, hP, rfl, _, _, rfl, _, _, rfl, rfl, rfl, ?_⟩
    refine ⟨_, rfl, _, rfl, _, rfl, s1, us1, _, _, es1, rfl, g1, g2, ?_⟩
    refine ⟨_, rfl, _, rfl, _, rfl, _, rfl, s2, us2, _, _, es2, rfl, g3, g4, _, rfl, _, rfl, s1, us1, _, _, es1, rfl, g1, g2, ?_⟩
    refine ⟨l, lc, p, ns.getD ar.2 0, ns.getD ar.1 0, rfl, p2, okp, by omega, by omega, fun vm m H3 b3 p3 hm lm okm => ?_⟩
    refine make_Table (p := p) (H0 := H3) (Q := Q') (t := ⟨ns.getD ar.1 0, m⟩) kt okp (by show ns.getD ar.1 0 ≤ 12; omega) (by show m.length ≤ 12; omega) okm (Same.refl _) hm fun vt H4 e4 h4 => k' vt _ H4 (b3.trans (But.of e4)) (p3.mono e4) h4 fun a ha => ?_
    rw [har] at ha
    cases ha
    exact ⟨rfl, lm, okm⟩
  · intro H1 ys ts b1 p1 f1 f2 f3 f4
    have k1 := But.keep hp b1
    refine ⟨_, rfl, _, rfl, _, rfl, _, rfl, D, ys, rfl, .inl ⟨SqL.of f1, fun l2 n2 => ?_⟩⟩
    have e5 := Same.upd (o := .tup ys) n2
    have k5 := k1.trans (Keep.of e5)
    have ok : PcOk p ⟨w.1, w.2, ns, ts⟩ := by
      refine ⟨li, lns, hns, by show ts.length = w.2.length; omega, fun k a t ha ht => ?_⟩
      obtain ⟨z1, z2, z3⟩ := f4 k t ht a ha
      exact ⟨by omega, z1, z2, z3⟩
    refine make_Picture (p := p) (H0 := H1) (Q := Q) (c := ⟨w.1, w.2, ns, ts⟩) kp okp ok e5 (immWeb _ _ _ _ k5 hw) (immT immN _ _ _ _ k5 hS) ⟨l2, ys, rfl, SqT.of upd_same, Paired.keep immTab (Keep.of e5) f3⟩ fun vp H4 e4 h4 => q vp _ H4 (b1.trans (But.of e4)) (p1.mono e4) h4 ok
/-! _law_are_just -/
def dTris (ts : List (Nat × Nat × Int)) : List (List Int) := ts.map fun t => [(t.1 : Int), (t.2.1 : Int), t.2.2]
theorem dp_tris : ∀ {xs : List V} {ts : List (Nat × Nat × Int)}, Paired (rhTri K H) xs ts → DpAll K H xs ((dTris ts).map dRow)
  | _, _, .nil => .nil
  | _, _, .cons ⟨a, e, h⟩ t => by
    subst e
    exact .cons (dp_row h) (dp_tris t)
def sp_law_are_just (K : PySem.W.Frag) : Sp := fun vs H Q _ => ∃ (u v : V) (ts : List (Nat × Nat × Int)), vs = [u, v] ∧ rhT K (rhTri K) H u ts ∧ rhT K (rhTri K) H v ts ∧ ts.length ≤ 1000 ∧ ∀ H', Same H H' → Q (.bl true) H'
theorem pure_law_are_just (vs : List V) (H : Hp) (Q : VK) (E : XK) (h : sp_law_are_just K vs H Q E) : t_law_are_just K (Ed Q) (start n_law_are_just vs) H := by
  obtain ⟨u, v, ts, rfl, hu, hv, hl, q⟩ := h
  obtain ⟨a, xs, rfl, ha, pa⟩ := hu
  obtain ⟨b, ys, rfl, hb, pb⟩ := hv
  have lx := Paired.len pa
  refine ⟨_, rfl, _, _, _, _, true, rfl, .ty _, ty_tup ha, kit_ty (by decide +kernel), true, rfl, ?_⟩
  refine ⟨_, rfl, _, rfl, dMat (dTris ts), dMat (dTris ts), .tup ha (dp_tris pa), .tup hb (dp_tris pb), shaped_mat _, shaped_mat _, _, rfl, ?_⟩
  rw [eqv_mat, decide_eq_true rfl]
  refine ite_f ⟨_, rfl, a, rfl, ⟨_, ha⟩, fun D nD => ?_⟩
  refine lc_all (r := rhB) (walk_tup (xs := xs)) (List.replicate xs.length false) (by simp) (by omega) immB nD (fun H' e => Same.tup e ha) ?_ ?_
  · rintro i x c H0 H' Q' hc e ⟨rfl, hx⟩ k'
    obtain ⟨t, ht1, ht2⟩ := Paired.at pa hx
    obtain ⟨at_, rfl, hT⟩ := immTri _ _ _ _ (Keep.of e) ht2
    refine ⟨rfl, _, rfl, at_, rfl, ⟨_, hT⟩, fun D2 nD2 => ?_⟩
    refine lc_all (r := rhB) (walk_tup (xs := [.int (t.1 : Nat), .int (t.2.1 : Nat), .int t.2.2])) [false, false, false] rfl (by show 3 ≤ 100000; decide) immB nD2 (fun H' e => Same.tup e hT) ?_ ?_
    · rintro j y d H3 H4 Q2 hd e3 ⟨rfl, hy⟩ k2
      have ed : d = false := by
        have := List.mem_of_getElem? hd
        simpa using this
      have ey : ∃ n : Int, y = .int n := by
        have := List.mem_of_getElem? hy
        simp at this
        rcases this with h | h | h <;> exact ⟨_, h⟩
      obtain ⟨n, rfl⟩ := ey
      subst ed
      exact ⟨rfl, _, rfl, _, _, _, _, false, rfl, .ty _, .base (.int _), kit_ty (by decide +kernel), k2 _ _ (Same.refl _) rfl⟩
    · intro H3 bs e3 f1 f2
      rw [bls_of f2] at f1
      have ec := (List.mem_replicate.mp (List.mem_of_getElem? hc)).2
      subst ec
      exact ⟨D2, _, rfl, SqL.of f1, k' _ _ e3 rfl⟩
  · intro H3 bs e3 f1 f2
    rw [bls_of f2] at f1
    exact ⟨D, _, rfl, SqL.of f1, false, by rw [rep_false], q _ e3⟩
end
/-- a list of ints, not at ds -/
def rhA (ds : List Addr) (H : Hp) (v : V) (r : List Int) : Prop := ∃ a, v = .ref a ∧ a ∉ ds ∧ H a = some (.lst (r.map V.int))
theorem rhA.same {ds : List Addr} {H H' : Hp} {v : V} {r : List Int} (e : Same H H') (h : rhA ds H v r) : rhA ds H' v r := by
  obtain ⟨a, h1, h2, h3⟩ := h
  exact ⟨a, h1, h2, e _ _ h3⟩
theorem rhA.upd {ds : List Addr} {D : Addr} (hD : D ∈ ds) {H : Hp} {v : V} {r : List Int} {o : HO} (h : rhA ds H v r) : rhA ds (L2.upd H D o) v r := by
  obtain ⟨a, h1, h2, h3⟩ := h
  exact ⟨a, h1, h2, by rw [upd_ne (fun z => h2 (by rw [z]; exact hD))]; exact h3⟩
theorem rhA.nil {ds : List Addr} {H : Hp} {v : V} {r : List Int} (h : rhA ds H v r) : rhA [] H v r := by
  obtain ⟨a, h1, _, h3⟩ := h
  exact ⟨a, h1, by simp, h3⟩
theorem rhA.one {ds : List Addr} {D : Addr} {H : Hp} {v : V} {r : List Int} (h : rhA ds H v r) (hD : H D = none) : rhA [D] H v r := by
  obtain ⟨a, h1, _, h3⟩ := h
  exact ⟨a, h1, fun z => (by rw [List.mem_singleton] at z; rw [z, hD] at h3; cases h3), h3⟩
theorem psame {ds : List Addr} {H H' : Hp} (e : Same H H') : ∀ {xs : List V} {m : List (List Int)}, Paired (rhA ds H) xs m → Paired (rhA ds H') xs m := fun h => Paired.imp (fun _ _ q => rhA.same e q) h
theorem pupd {ds : List Addr} {D : Addr} (hD : D ∈ ds) {H : Hp} {o : HO} {xs : List V} {m : List (List Int)} (h : Paired (rhA ds H) xs m) : Paired (rhA ds (L2.upd H D o)) xs m := Paired.imp (fun _ _ q => rhA.upd hD q) h
theorem pnil {ds : List Addr} {H : Hp} {xs : List V} {m : List (List Int)} (h : Paired (rhA ds H) xs m) : Paired (rhA [] H) xs m := Paired.imp (fun _ _ q => rhA.nil q) h
theorem pone {ds : List Addr} {D : Addr} {H : Hp} {xs : List V} {m : List (List Int)} (h : Paired (rhA ds H) xs m) (hD : H D = none) : Paired (rhA [D] H) xs m := Paired.imp (fun _ _ q => rhA.one q hD) h
section
variable {J : It} {n : Nat} {G : Hp → Prop} {Y : Nat → Hp → V → Hp → Prop} {g : TG} {tt : TT} {te : TE} {vs : List Nat} {σ : L2.St} {D : Addr} {Qd : Hp → Prop} {α : Type} {r : Hp → V → α → Prop} {H1 : Hp}
/-- a comprehension whose items are lists -/
theorem lc_optL (w : Walk J n G Y) (f : Nat → Option α) (hz : n ≤ 100000) (imS : ∀ H H' v a, Same H H' → r H v a → r H' v a) (imD : ∀ H v a o, r H v a → r (upd H D o) v a) (hD : H1 D = none) (hG : ∀ H, Same H1 H → G H)
    (hs : ∀ (i : Nat) x H H' (KY : VK) (KN : Hp → Prop), i < n → Same H1 H → (∃ zs, H D = some (.lst zs)) → Y i H x H' → (∀ a y H4, f i = some a → Same H H4 → r H4 y a → KY y H4) → (f i = none → ∀ H4, Same H H4 → KN H4) →
      g x (wipe σ vs) H' fun σ2 H2 => wipe σ2 vs = wipe σ vs ∧ tt σ2 H2 fun b H3 => if b = true then te σ2 H3 KY else KN H3)
    (hd : ∀ H' ys, Same H1 H' → H' D = some (.lst ys) → Paired (r H') ys ((List.range n).filterMap f) → Qd H') :
    ∃ W : Nat → Nat → Hp → Prop, (∃ m, W 0 m (upd H1 D (.lst []))) ∧ ∀ i m H, W i m H →
      (J.stop i H ∧ Qd H) ∨ (J.go i H ∧ ∃ Nx : Hp → Prop, (∀ H', Nx H' → ∃ m', m' < m ∧ W (i + 1) m' H') ∧ ∀ x H', J.yld i H x H' → g x (wipe σ vs) H' fun σ2 H2 => wipe σ2 vs = wipe σ vs ∧ tt σ2 H2 fun b H3 =>
        if b = true then te σ2 H3 fun y H4 => ∃ acc, H4 D = some (.lst acc) ∧ acc.length < sizeLine ∧ Nx (upd H4 D (.lst (acc ++ [y]))) else Nx H3) := by
  refine lc_it w (fun i H => i ≤ n ∧ Same H1 H ∧ ∃ ys, H D = some (.lst ys) ∧ Paired (r H) ys ((List.range i).filterMap f)) ⟨Nat.zero_le _, Same.upd hD, [], upd_same, .nil⟩ (fun i H _ p => hG H p.2.1) (fun i x H H' hi p y => ?_) (fun H p => ?_)
  · obtain ⟨_, e, ys, h1, h2⟩ := p
    have hl : ys.length ≤ i := by
      have q := Paired.len h2
      have q2 := List.length_filterMap_le f (List.range i)
      rw [List.length_range] at q2
      omega
    refine hs i x H H' _ _ hi e ⟨ys, h1⟩ y (fun a z H4 fa e4 ra => ⟨ys, e4 _ _ h1, Nat.lt_of_lt_of_le (by omega : ys.length < 100000) (by decide), hi, Same.mut (Same.trans e e4) hD, _, upd_same, ?_⟩) (fun fn H4 e4 => ⟨hi, Same.trans e e4, ys, e4 _ _ h1, ?_⟩)
    · rw [List.range_succ, List.filterMap_append]
      refine Paired.app (Paired.imp (fun _ _ q => imD _ _ _ _ (imS _ _ _ _ e4 q)) h2) ?_
      rw [List.filterMap_cons, fa]
      exact .cons (imD _ _ _ _ ra) .nil
    · rw [List.range_succ, List.filterMap_append, List.filterMap_cons, fn]
      rw [show List.filterMap f [] = [] from rfl, List.append_nil]
      exact Paired.imp (fun _ _ q => imS _ _ _ _ e4 q) h2
  · obtain ⟨_, e, ys, h1, h2⟩ := p
    exact hd H ys e h1 h2
theorem lc_allL (w : Walk J n G Y) (as : List α) (hn : as.length = n) (hz : n ≤ 100000) (imS : ∀ H H' v a, Same H H' → r H v a → r H' v a) (imD : ∀ H v a o, r H v a → r (upd H D o) v a) (hD : H1 D = none) (hG : ∀ H, Same H1 H → G H)
    (hs : ∀ (i : Nat) x a H H' (Q : VK), as[i]? = some a → Same H1 H → (∃ zs, H D = some (.lst zs)) → Y i H x H' → (∀ y H4, Same H H4 → r H4 y a → Q y H4) → g x (wipe σ vs) H' fun σ2 H2 => wipe σ2 vs = wipe σ vs ∧ te σ2 H2 Q)
    (hd : ∀ H' ys, Same H1 H' → H' D = some (.lst ys) → Paired (r H') ys as → Qd H') :
    ∃ W : Nat → Nat → Hp → Prop, (∃ m, W 0 m (upd H1 D (.lst []))) ∧ ∀ i m H, W i m H →
      (J.stop i H ∧ Qd H) ∨ (J.go i H ∧ ∃ Nx : Hp → Prop, (∀ H', Nx H' → ∃ m', m' < m ∧ W (i + 1) m' H') ∧ ∀ x H', J.yld i H x H' → g x (wipe σ vs) H' fun σ2 H2 => wipe σ2 vs = wipe σ vs ∧ tYes σ2 H2 fun b H3 =>
        if b = true then te σ2 H3 fun y H4 => ∃ acc, H4 D = some (.lst acc) ∧ acc.length < sizeLine ∧ Nx (upd H4 D (.lst (acc ++ [y]))) else Nx H3) := by
  refine lc_optL w (fun i => as[i]?) hz imS imD hD hG (fun i x H H' KY KN hi e hz y ky _ => ?_) (fun H' ys e h1 h2 => ?_)
  · have hi' : i < as.length := by omega
    exact hs i x as[i] H H' KY (by simp [hi']) e hz y fun z H4 e4 ra => ky as[i] z H4 (by simp [hi']) e4 ra
  · rw [fm_get as n (by omega), ← hn, List.take_length] at h2
    exact hd H' ys e h1 h2
end
/-! the law's inverse -/
theorem law_by {p x : Int} (hp : okP p) (h1 : 0 < x) (h2 : x < p) : ∃ t, (List.range p.toNat).filterMap (fun i : Nat => if ((i : Int) * x) % p = 1 then some (i : Int) else none) = invOf p x :: t := by
  rcases hp with rfl | rfl | rfl | rfl
  · have : x = 1 := by omega
    subst this
    exact ⟨[], by decide⟩
  · have : x = 1 ∨ x = 2 := by omega
    rcases this with rfl | rfl <;> exact ⟨[], by decide⟩
  · have : x = 1 ∨ x = 2 ∨ x = 3 ∨ x = 4 := by omega
    rcases this with rfl | rfl | rfl | rfl <;> exact ⟨[], by decide⟩
  · have : x = 1 ∨ x = 2 ∨ x = 3 ∨ x = 4 ∨ x = 5 ∨ x = 6 ∨ x = 7 ∨ x = 8 ∨ x = 9 ∨ x = 10 ∨ x = 11 ∨ x = 12 := by omega
    rcases this with rfl | rfl | rfl | rfl | rfl | rfl | rfl | rfl | rfl | rfl | rfl | rfl <;> exact ⟨[], by decide⟩
theorem less_zero {p : Int} {n : Nat} {r s : List Int} (h : okRow p n r) (hs : s.length = n) : less p r 0 s = r := by
  unfold less
  apply List.ext_getElem
  · rw [List.length_zipWith, h.1, hs, Nat.min_self]
  · intro i h1 h2
    rw [List.getElem_zipWith]
    have := h.2 r[i] (List.getElem_mem h2)
    rw [Int.zero_mul, Int.sub_zero]
    exact Int.emod_eq_of_lt this.1 this.2
theorem cleared_less {p : Int} {n place : Nat} {m : List (List Int)} {s : List Int} (h : okMat p n m) (hs : s.length = n) : cleared p m place s = m.map fun r => less p r (r.getD place 0) s := by
  unfold cleared
  refine List.map_congr_left fun r hr => ?_
  by_cases z : r.getD place 0 = 0
  · rw [if_neg (by simpa using z), z, less_zero (h r hr) hs]
  · rw [if_pos z]
/-- rows modulo p -/
def modM (p : Int) (m : List (List Int)) : List (List Int) := m.map fun r => r.map fun x => x % p
theorem modM_ok {p : Int} (hp : 0 < p) {n : Nat} {m : List (List Int)} (h : ∀ r ∈ m, r.length = n) : okMat p n (modM p m) := by
  intro r hr
  obtain ⟨s, hs, rfl⟩ := List.mem_map.mp hr
  refine ⟨by rw [List.length_map]; exact h s hs, fun x hx => ?_⟩
  obtain ⟨y, _, rfl⟩ := List.mem_map.mp hx
  exact ⟨Int.emod_nonneg _ (by omega), Int.emod_lt_of_pos _ hp⟩
theorem modM_id {p : Int} {n : Nat} {m : List (List Int)} (h : okMat p n m) : modM p m = m := by
  unfold modM
  have e : ∀ r ∈ m, (r.map fun x => x % p) = id r := fun r hr => by
    have e2 : ∀ x ∈ r, x % p = id x := fun x hx => Int.emod_eq_of_lt ((h r hr).2 x hx).1 ((h r hr).2 x hx).2
    rw [List.map_congr_left e2, List.map_id]
    rfl
  rw [List.map_congr_left e, List.map_id]
theorem redTo_nil (p : Int) : ∀ n, redTo p [] n = ⟨[], [], []⟩
  | 0 => rfl
  | n + 1 => by
    rw [redTo_succ, redTo_nil p n]
    rfl
section
variable {K : PySem.W.Frag} {H : Hp} {Q : VK}
/-! _law_less -/
def sp_law_less (K : PySem.W.Frag) : Sp := fun vs H Q _ => ∃ (p n : Int) (v o : V) (r s : List Int), vs = [.int p, v, .int n, o] ∧ rhA [] H v r ∧ rhA [] H o s ∧ r.length = s.length ∧ r.length ≤ 1000 ∧ 0 < p ∧ (-(2 ^ 64) < n ∧ n < 2 ^ 64) ∧
  ∀ l H', Same H H' → H l = none → H' l = some (.lst ((less p r n s).map V.int)) → Q (.ref l) H'
theorem pure_law_less (vs : List V) (H : Hp) (Q : VK) (E : XK) (h : sp_law_less K vs H Q E) : t_law_less K (Ed Q) (start n_law_less vs) H := by
  obtain ⟨p, n, v, o, r, s, rfl, ⟨a, rfl, _, ha⟩, ⟨b, rfl, _, hb⟩, hl, hz, hp, hn, q⟩ := h
  refine ⟨_, rfl, _, rfl, a, b, _, _, rfl, .inl ⟨SqL.of ha, SqL.of hb, fun D nD => ?_⟩⟩
  refine lc_all (r := rhI) (wk_zipL (n := r.length) (xs := r.map V.int) (ys := s.map V.int) (by simp) (by simp [hl])) (less p r n s) (by simp [less, hl]) (by omega) immI nD (fun H' e => ⟨SqL.of (e _ _ ha), SqL.of (e _ _ hb)⟩) ?_ ?_
  · rintro i x c H1 H2 Q' hc e1 ⟨t, y1, y2, rfl, nt, rfl, g1, g2⟩ k'
    obtain ⟨u, hu, rfl⟩ := row_of g1
    obtain ⟨w, hw, rfl⟩ := row_of g2
    refine g_pair upd_same ⟨rfl, _, rfl, _, rfl, _, rfl, _, _, rfl, rfl, .inl hn, _, _, rfl, rfl, .inl ⟨_, rfl, _, rfl, _, _, rfl, rfl, hp, k' _ _ (Same.upd nt) ?_⟩⟩
    have : c = (u - n * w) % p := by
      unfold less at hc
      rw [List.getElem?_zipWith, hu, hw] at hc
      exact (Option.some.inj hc).symm
    rw [this]
    rfl
  · intro H1 ys e1 f1 f2
    rw [ints_of f2] at f1
    exact q D H1 e1 nD f1
theorem dp_lsts {ds : List Addr} : ∀ {xs : List V} {m : List (List Int)}, Paired (rhA ds H) xs m → DpAll K H xs (m.map dLst)
  | _, _, .nil => .nil
  | _, _, .cons ⟨a, e, _, h⟩ t => by
    subst e
    exact .cons (dp_lst (SqL.of h)) (dp_lsts t)
theorem lay_lsts : ∀ m : List (List Int), PyData.canLayAll0 (m.map dLst) = true
  | [] => by simp [PyData.canLayAll0]
  | r :: m => by simp [PyData.canLayAll0, dLst, PyData.canLay0, lay_ints r, lay_lsts m]
theorem dep_lsts : ∀ m : List (List Int), PyData.depthAll (m.map dLst) ≤ 3
  | [] => by simp [PyData.depthAll]
  | r :: m => by
    have h := dep_lsts m
    have h2 := dep_ints r
    simp only [List.map_cons, PyData.depthAll, dLst, PyData.depth]
    omega
theorem shaped_lsts (m : List (List Int)) : SeqAt.shaped (.list (m.map dLst)) = true := by
  have h := dep_lsts m
  exact shaped_of (by simp only [PyData.canLay0]; exact lay_lsts m) (by simp only [PyData.depth]; omega)
/-! _law_spanned -/
def sp_law_spanned (K : PySem.W.Frag) : Sp := fun vs H Q _ => ∃ (p : Int) (wide : Nat) (a : Addr) (xs : List V) (m : List (List Int)), vs = [.int p, .ref a] ∧ okP p ∧ H a = some (.lst xs) ∧ Paired (rhA [] H) xs m ∧ (∀ r ∈ m, r.length = wide) ∧ m.length ≤ 1000 ∧ wide ≤ 1000 ∧
  ∀ l ys H', Same H H' → H l = none → H' l = some (.lst ys) → Paired (rhA [] H') ys (redRows p wide (modM p m)) → Q (.ref l) H'
theorem pure_law_spanned (vs : List V) (H : Hp) (Q : VK) (E : XK) (h : sp_law_spanned K vs H Q E) : t_law_spanned K (sp_law_less K) (Ed Q) (start n_law_spanned vs) H := by
  obtain ⟨p, wide, a, xs, m, rfl, hp, ha, pm, hw, hz, hz2, q⟩ := h
  have hp1 := hp.lo
  have hp2 := hp.hi
  have lx := Paired.len pm
  have okm := modM_ok (p := p) (by omega) hw
  refine ⟨Nat.zero_le _, fun aF nF => ?_⟩
  have e0 := Same.upd (o := .lst []) nF
  have hF0 : upd H aF (.lst []) aF = some (.lst []) := upd_same
  generalize upd H aF (.lst []) = H0 at e0 hF0 ⊢
  have ha0 := e0 _ _ ha
  have pm0 := psame e0 pm
  refine ⟨_, rfl, a, rfl, ⟨_, SqL.of ha0⟩, fun D nD => ?_⟩
  refine lc_allL (r := rhA [D]) (walk_list (xs := xs)) (modM p m) (by simp [modM, lx]) (by omega) (fun _ _ _ _ e h => rhA.same e h) (fun _ _ _ _ h => rhA.upd (by simp) h) nD (fun H' e => SqL.of (e _ _ ha0)) ?_ ?_
  · rintro i x c H1 H2 Q' hc e1 ⟨zs, hzs⟩ ⟨rfl, hx⟩ k'
    obtain ⟨r, hr1, b, rfl, _, hb⟩ := Paired.at (psame e1 pm0) hx
    have hrl := hw r (List.mem_of_getElem? hr1)
    have ec : c = r.map fun x => x % p := by
      unfold modM at hc
      rw [List.getElem?_map, hr1] at hc
      exact (Option.some.inj hc).symm
    refine ⟨rfl, _, rfl, b, rfl, ⟨_, SqL.of hb⟩, fun D2 nD2 => ?_⟩
    refine lc_all (r := rhI) (walk_list (xs := r.map V.int)) c (by rw [ec]; simp) (by simp; omega) immI nD2 (fun H' e => SqL.of (e _ _ hb)) ?_ ?_
    · rintro j y d H3 H4 Q2 hd e3 ⟨rfl, hy⟩ k2
      obtain ⟨w, hw2, rfl⟩ := row_of hy
      refine ⟨rfl, _, rfl, .inl ⟨_, rfl, _, rfl, _, _, rfl, rfl, (by show (0 : Int) < p; omega), k2 _ _ (Same.refl _) ?_⟩⟩
      rw [ec, List.getElem?_map, hw2] at hd
      rw [← Option.some.inj hd]
      rfl
    · intro H3 ys e3 f1 f2
      rw [ints_of f2] at f1
      exact k' _ H3 e3 ⟨D2, rfl, fun z => (by rw [List.mem_singleton] at z; rw [z, hzs] at nD2; cases nD2), f1⟩
  · intro H1 ys e1 f1 f2
    have e01 := Same.trans e0 e1
    have nDF : aF ≠ D := fun z => by rw [← z, hF0] at nD; cases nD
    have hF1 := e1 _ _ hF0
    have ly := Paired.len f2
    have lm : (modM p m).length = m.length := by simp [modM]
    refine ⟨_, _, rfl, ?_⟩
    obtain ⟨N, hN, eN⟩ : ∃ N : Nat, N ≤ wide ∧ ((m = [] ∧ N = 0) ∨ (m ≠ [] ∧ N = wide)) := by
      by_cases z : m = []
      · exact ⟨0, by omega, .inl ⟨z, rfl⟩⟩
      · exact ⟨wide, by omega, .inr ⟨z, rfl⟩⟩
    have eR : (redTo p (modM p m) N).found = redRows p wide (modM p m) := by
      rcases eN with ⟨z, rfl⟩ | ⟨_, rfl⟩
      · subst z
        show (redTo p [] 0).found = (redTo p [] wide).found
        rw [redTo_nil, redTo_nil]
      · rfl
    have cnt : ∀ Q' : VK, Q' (.int (N : Nat)) H1 → (tIf (tTest (tOp rGtI (tCB (rLenS K) (tCons (tVar 3) tNil)) (tC (.int 0)))) (tCB (rLenS K) (tCons (tOp (rIxL K) (tVar 3) (tC (.int 0))) tNil)) (tC (.int 0))) [some (.int p), some (.ref a), some (.ref aF), some (.ref D), none, none, none, none, none, none] H1 Q' := by
      intro Q' hq
      refine ⟨_, rfl, D, ys, rfl, .inl (SqL.of f1), _, _, rfl, rfl, _, rfl, ?_⟩
      rcases eN with ⟨z, rfl⟩ | ⟨z, rfl⟩
      · refine ifd_f (by rw [ly, lm, z]; decide) hq
      · have hpos : 0 < m.length := List.length_pos_iff.mpr z
        cases ys with
        | nil => rw [List.length_nil] at ly; omega
        | cons y0 ys =>
          obtain ⟨r0, hr0, b, rfl, _, hb⟩ := Paired.at f2 (i := 0) rfl
          refine ifd_t (by rw [ly, lm]; omega) ⟨_, rfl, D, _, _, _, rfl, rfl, SqL.of f1, atI0, b, _, rfl, .inl (SqL.of hb), ?_⟩
          rw [List.length_map, (okm r0 (List.mem_of_getElem? hr0)).1]
          exact hq
    refine cnt _ ⟨(N : Int), rfl, by omega, by omega, ?_⟩
    rw [Int.toNat_natCast]
    refine for_it (wk_rng (n := N)) (fun i σ H' => ∃ (aF aL : Addr) (ys zs : List V) (v4 v5 v6 v7 v8 v9 : Option V), σ = [some (.int p), some (.ref a), some (.ref aF), some (.ref aL), v4, v5, v6, v7, v8, v9] ∧ Same H H' ∧ H aF = none ∧ H aL = none ∧ aF ≠ aL ∧ H' aF = some (.lst zs) ∧ H' aL = some (.lst ys) ∧
        Paired (rhA [aL] H') ys (redTo p (modM p m) i).left ∧ Paired (rhA [aL] H') zs (redTo p (modM p m) i).found)
      ⟨aF, D, ys, [], none, none, none, none, none, none, rfl, e01, nF, Same.free e0 nD, nDF, hF1, f1, f2, .nil⟩ (fun _ _ _ _ _ => trivial) ?_ ?_
    · rintro i x σ H2 H3 hi ⟨aF, aL, ys, zs, v4, v5, v6, v7, v8, v9, rfl, e3, nF, nL, nFL, hF, hL, pL, pF⟩ ⟨rfl, rfl⟩
      have ok := redTo_ok (p := p) (by omega) okm i
      rw [redTo_succ]
      generalize redTo p (modM p m) i = S at pL pF ok ⊢
      have hiw : i < wide := by omega
      have lL := Paired.len pL
      have lF := Paired.len pF
      have lmm : (modM p m).length = m.length := by simp [modM]
      have lSL : S.left.length + S.found.length = m.length := by rw [← lmm]; exact ok.len
      -- some
      refine ⟨_, rfl, aL, rfl, ⟨_, SqL.of hL⟩, fun D1 nD1 => ?_⟩
      refine lc_opt (r := fun (_ : Hp) (y : V) (k : Nat) => ys[k]? = some y) (walk_list (xs := ys)) (fun k => if (S.left.getD k []).getD i 0 ≠ 0 then some k else none) (by omega) (fun _ _ _ _ _ h => h) nD1 (fun H' e => SqL.of (e _ _ hL)) ?_ ?_
      · rintro j y H4 H5 KY KN hj e4 ⟨rfl, hy⟩ ky kn
        obtain ⟨row, hrow, b, rfl, _, hb⟩ := Paired.at (psame e4 pL) hy
        have okr := ok.left row (List.mem_of_getElem? hrow)
        have eg : S.left.getD j [] = row := by rw [List.getD_eq_getElem?_getD, hrow]; rfl
        have hlr : i < row.length := by rw [okr.1]; exact hiw
        have hnn := (okr.2 _ (getD_mem hlr)).1
        refine ⟨rfl, _, rfl, _, rfl, b, _, _, _, rfl, rfl, SqL.of hb, atI_nat (row_at hlr), _, _, rfl, rfl, _, rfl, ?_⟩
        by_cases z : 0 < row.getD i 0
        · refine ifd_t z ⟨_, rfl, ky j _ _ ?_ (Same.refl _) hy⟩
          rw [eg, if_pos (by omega)]
        · refine ifd_f z (kn ?_ _ (Same.refl _))
          rw [eg, if_neg (by omega)]
      · intro H4 ws e4 g1 g2
        rw [lL] at g2
        change Paired _ ws (nzs i S.left) at g2
        have hL4 := e4 _ _ hL
        have hF4 := e4 _ _ hF
        have e34 := Same.trans e3 e4
        have pL4 := psame e4 pL
        have pF4 := psame e4 pF
        refine ⟨_, rfl, D1, ws, rfl, .inl (SqL.of g1), _, _, rfl, rfl, _, rfl, ?_⟩
        cases hf : firstAt i S.left with
        | none =>
          rw [nzs_none hf] at g2
          cases g2
          rw [redStep_none hf]
          exact ifd_f (by decide) ⟨aF, aL, ys, zs, _, _, _, _, _, _, rfl, e34, nF, nL, nFL, hF4, hL4, pL4, pF4⟩
        | some k =>
          obtain ⟨tl, htl⟩ := nzs_some hf
          obtain ⟨k1, k2, k3⟩ := fa_some hf
          rw [htl] at g2
          cases g2 with
          | @cons y _ ws' _ hy g2 =>
          obtain ⟨row, hrow, b, rfl, nb, hb⟩ := Paired.at pL4 hy
          have eg : S.left.getD k [] = row := by rw [List.getD_eq_getElem?_getD, hrow]; rfl
          have okr := ok.left row (List.mem_of_getElem? hrow)
          have hlr : i < row.length := by rw [okr.1]; exact hiw
          have hx := okr.2 _ (getD_mem hlr)
          rw [eg] at k2
          rw [redStep_some hf]
          unfold takenRow
          rw [eg]
          have nbL : b ≠ aL := fun z => nb (by simp [z])
          refine ifd_t (by rw [List.length_cons]; omega) ⟨_, rfl, D1, _, _, _, rfl, rfl, SqL.of g1, atI0, ?_⟩
          -- remove
          have egk : S.left[k]? = some row := by
            rw [← eg, List.getD_eq_getElem?_getD, List.getElem?_eq_getElem k1]
            rfl
          refine ⟨_, rfl, .inl ⟨rfl, _, SqL.of hL4⟩, _, rfl, aL, ys, _, dLst row, S.left.map dLst, k, dLst row, rfl, rfl, hL4, dp_lsts pL4, dp_lst (SqL.of hb), shaped_lsts _, shaped_lst _, by rw [List.getElem?_map, egk]; rfl, by rw [eqv_lst, decide_eq_true rfl], fun j v hj hv => ?_, ?_⟩
          · rw [List.getElem?_map] at hv
            cases hrow2 : S.left[j]? with
            | none => rw [hrow2] at hv; cases hv
            | some row2 =>
              rw [hrow2] at hv
              cases hv
              rw [eqv_lst]
              refine decide_eq_false fun z => k2 ?_
              have := k3 j hj
              rw [List.getD_eq_getElem?_getD (l := S.left), hrow2] at this
              rw [← z]
              exact this
          have e5 : Same H (upd H4 aL (.lst (ys.eraseIdx k))) := Same.mut e34 nL
          have hL5 : upd H4 aL (.lst (ys.eraseIdx k)) aL = some (.lst (ys.eraseIdx k)) := upd_same
          have hF5 : upd H4 aL (.lst (ys.eraseIdx k)) aF = some (.lst zs) := by rw [upd_ne nFL]; exact hF4
          have hb5 : upd H4 aL (.lst (ys.eraseIdx k)) b = some (.lst (row.map V.int)) := by rw [upd_ne nbL]; exact hb
          have pL5 : Paired (rhA [aL] (upd H4 aL (.lst (ys.eraseIdx k)))) (ys.eraseIdx k) (S.left.eraseIdx k) := pupd (by simp) (Paired.erase k pL4)
          have pF5 : Paired (rhA [aL] (upd H4 aL (.lst (ys.eraseIdx k)))) zs S.found := pupd (by simp) pF4
          generalize upd H4 aL (.lst (ys.eraseIdx k)) = H5 at e5 hL5 hF5 hb5 pL5 pF5 ⊢
          -- by
          refine ⟨_, rfl, p, rfl, by omega, by omega, fun D2 nD2 => ?_⟩
          refine lc_opt (r := rhI) (wk_rng (n := p.toNat)) (fun j : Nat => if ((j : Int) * row.getD i 0) % p = 1 then some (j : Int) else none) (by omega) immI nD2 (fun _ _ => trivial) ?_ ?_
          · rintro j y H6 H7 KY KN hj e6 ⟨rfl, rfl⟩ ky kn
            refine ⟨rfl, _, rfl, _, rfl, _, rfl, b, _, _, _, rfl, rfl, SqL.of (e6 _ _ hb5), atI_nat (row_at hlr), _, _, rfl, rfl, .inr ⟨by omega, by omega⟩, .inl ⟨_, rfl, _, rfl, _, _, rfl, rfl, (by show (0 : Int) < p; omega), rfl, _, rfl, ?_⟩⟩
            by_cases z : ((j : Int) * row.getD i 0) % p = 1
            · refine ifd_t (congrArg V.int z) ⟨_, rfl, ky (j : Int) _ _ ?_ (Same.refl _) rfl⟩
              rw [if_pos z]
            · refine ifd_f (fun w => z (V.int.inj w)) (kn ?_ _ (Same.refl _))
              rw [if_neg z]
          · intro H6 us e6 g3 g4
            obtain ⟨tl2, htl2⟩ := law_by hp (x := row.getD i 0) (by omega) hx.2
            rw [htl2] at g4
            rw [ints_of g4, List.map_cons] at g3
            have hb6 := e6 _ _ hb5
            have inv_b : 0 ≤ invOf p (row.getD i 0) ∧ invOf p (row.getD i 0) < 1001 := powm_lt (by omega) (by omega) _
            refine ⟨D2, _, _, _, rfl, rfl, SqL.of g3, atI0, ?_⟩
            -- lead
            refine ⟨_, rfl, b, rfl, ⟨_, SqL.of hb6⟩, fun D3 nD3 => ?_⟩
            refine lc_all (r := rhI) (walk_list (xs := row.map V.int)) (row.map fun w => w * invOf p (row.getD i 0) % p) (by simp) (by simp; rw [okr.1]; omega) immI nD3 (fun H' e => SqL.of (e _ _ hb6)) ?_ ?_
            · rintro j y d H7 H8 Q2 hd e7 ⟨rfl, hy7⟩ k7
              obtain ⟨w, hw7, rfl⟩ := row_of hy7
              refine ⟨rfl, _, rfl, _, rfl, _, _, rfl, rfl, .inr ⟨by omega, by omega⟩, .inl ⟨_, rfl, _, rfl, _, _, rfl, rfl, (by show (0 : Int) < p; omega), k7 _ _ (Same.refl _) ?_⟩⟩
              rw [List.getElem?_map, hw7] at hd
              rw [← Option.some.inj hd]
              rfl
            · intro H7 us2 e7 g5 g6
              rw [ints_of g6] at g5
              have lrow : (row.map fun w => w * invOf p (row.getD i 0) % p).length = wide := by rw [List.length_map]; exact okr.1
              generalize (row.map fun w => w * invOf p (row.getD i 0) % p) = lead at g5 lrow ⊢
              have e57 := Same.trans e6 e7
              have hL7 := e57 _ _ hL5
              have pL7 := psame e57 pL5
              have leL : (S.left.eraseIdx k).length ≤ 1000 := Nat.le_trans (List.length_eraseIdx_le _ _) (by omega)
              have okE : okMat p wide (S.left.eraseIdx k) := fun r hr => ok.left r (List.mem_of_mem_eraseIdx hr)
              have lE := Paired.len pL7
              -- left
              refine ⟨_, rfl, aL, rfl, ⟨_, SqL.of hL7⟩, fun D4 nD4 => ?_⟩
              refine lc_allL (r := rhA [D4]) (walk_list (xs := ys.eraseIdx k)) (cleared p (S.left.eraseIdx k) i lead) (by simp [cleared, lE]) (by omega) (fun _ _ _ _ e h => rhA.same e h) (fun _ _ _ _ h => rhA.upd (by simp) h) nD4 (fun H' e => SqL.of (e _ _ hL7)) ?_ ?_
              · rintro j y d H8 H9 Q2 hd e8 ⟨zs8, hz8⟩ ⟨rfl, hy8⟩ k8
                obtain ⟨r8, hr8, hr8b⟩ := Paired.at (psame e8 pL7) hy8
                obtain ⟨b8, rfl, nb8, hb8⟩ := hr8b
                have ok8 := okE r8 (List.mem_of_getElem? hr8)
                have hl8 : i < r8.length := by rw [ok8.1]; exact hiw
                have hx8 := ok8.2 _ (getD_mem hl8)
                have ed : d = less p r8 (r8.getD i 0) lead := by
                  rw [cleared_less okE lrow, List.getElem?_map, hr8] at hd
                  exact (Option.some.inj hd).symm
                refine ⟨rfl, _, rfl, _, rfl, _, rfl, _, rfl, b8, _, _, _, rfl, rfl, SqL.of hb8, atI_nat (row_at hl8), _, rfl, p, _, _, _, r8, lead, rfl, ⟨b8, rfl, by simp, hb8⟩, ⟨D3, rfl, by simp, e8 _ _ g5⟩, by rw [ok8.1, lrow], by rw [ok8.1]; exact hz2, by omega, ⟨by omega, by omega⟩, fun l Hl el nl hl => k8 _ Hl el ⟨l, rfl, fun z => ?_, by rw [ed]; exact hl⟩⟩
                rw [List.mem_singleton] at z
                rw [z, hz8] at nl
                cases nl
              · intro H8 ys8 e8 g7 g8
                have e58 := Same.trans e57 e8
                have hF8 := e58 _ _ hF5
                have pF8 := psame e58 pF5
                have g58 := e8 _ _ g5
                have nD34 : D3 ≠ D4 := fun z => by rw [← z, g5] at nD4; cases nD4
                -- found
                refine ⟨_, rfl, aF, rfl, ⟨_, SqL.of hF8⟩, fun D5 nD5 => ?_⟩
                have nD45 : D4 ≠ D5 := fun z => by rw [← z, g7] at nD5; cases nD5
                refine lc_allL (r := rhA [D4, D5]) (walk_list (xs := zs)) (cleared p S.found i lead) (by simp [cleared, lF]) (by omega) (fun _ _ _ _ e h => rhA.same e h) (fun _ _ _ _ h => rhA.upd (by simp) h) nD5 (fun H' e => SqL.of (e _ _ hF8)) ?_ ?_
                · rintro j y d H9 Ha Q2 hd e9 ⟨zs9, hz9⟩ ⟨rfl, hy9⟩ k9
                  obtain ⟨r9, hr9, hr9b⟩ := Paired.at (psame e9 pF8) hy9
                  obtain ⟨b9, rfl, nb9, hb9⟩ := hr9b
                  have ok9 := ok.found r9 (List.mem_of_getElem? hr9)
                  have hl9 : i < r9.length := by rw [ok9.1]; exact hiw
                  have hx9 := ok9.2 _ (getD_mem hl9)
                  have ed : d = less p r9 (r9.getD i 0) lead := by
                    rw [cleared_less ok.found lrow, List.getElem?_map, hr9] at hd
                    exact (Option.some.inj hd).symm
                  refine ⟨rfl, _, rfl, _, rfl, _, rfl, _, rfl, b9, _, _, _, rfl, rfl, SqL.of hb9, atI_nat (row_at hl9), _, rfl, p, _, _, _, r9, lead, rfl, ⟨b9, rfl, by simp, hb9⟩, ⟨D3, rfl, by simp, e9 _ _ g58⟩, by rw [ok9.1, lrow], by rw [ok9.1]; exact hz2, by omega, ⟨by omega, by omega⟩, fun l Hl el nl hl => k9 _ Hl el ⟨l, rfl, fun z => ?_, by rw [ed]; exact hl⟩⟩
                  rcases List.mem_cons.mp z with z | z
                  · rw [z, e9 _ _ g7] at nl
                    cases nl
                  · rw [List.mem_singleton] at z
                    rw [z, hz9] at nl
                    cases nl
                · intro H9 zs9 e9 g9 ga
                  have l9 := Paired.len ga
                  have lc9 : (cleared p S.found i lead).length = S.found.length := by simp [cleared]
                  refine ⟨_, rfl, (by show 1 ≤ sizeLine; decide), fun D6 nD6 => ?_⟩
                  have e10 := Same.upd (o := .lst [.ref D3]) nD6
                  refine ⟨D5, D6, zs9, [.ref D3], rfl, rfl, e10 _ _ g9, upd_same, Nat.le_trans (by rw [List.length_singleton]; omega : zs9.length + [V.ref D3].length ≤ 2000) (by decide), fun D7 nD7 => ?_⟩
                  have e11 := Same.trans e10 (Same.upd (o := .lst (zs9 ++ [.ref D3])) nD7)
                  have e59 := Same.trans e58 (Same.trans e9 e11)
                  have g7b := Same.trans e9 e11 _ _ g7
                  have nD74 : D7 ≠ D4 := fun z => by rw [z, e10 _ _ (e9 _ _ g7)] at nD7; cases nD7
                  refine ⟨D7, D4, ys8, zs9 ++ [.ref D3], _, _, _, _, _, _, rfl, Same.trans e5 e59, ?_, ?_, nD74, upd_same, g7b, psame (Same.trans e9 e11) g8, Paired.app (Paired.imp (fun _ _ h => ?_) (psame e11 ga)) (.cons ⟨D3, rfl, by simp; exact nD34, Same.trans e9 e11 _ _ g58⟩ .nil)⟩
                  · exact Same.free (Same.trans e5 (Same.trans e58 (Same.trans e9 e10))) nD7
                  · exact Same.free (Same.trans e5 e57) nD4
                  · obtain ⟨c1, c2, c3, c4⟩ := h
                    exact ⟨c1, c2, fun z => c3 (by rw [List.mem_singleton] at z; simp [z]), c4⟩
    · rintro σ H2 ⟨aF, aL, ys, zs, v4, v5, v6, v7, v8, v9, rfl, e3, nF, nL, nFL, hF, hL, pL, pF⟩
      rw [eR] at pF
      exact ⟨_, rfl, q aF zs H2 e3 nF hF (pnil pF)⟩
end
theorem inv_mul {p x : Int} (hp : okP p) (h1 : 0 < x) (h2 : x < p) : x * invOf p x % p = 1 := by
  rcases hp with rfl | rfl | rfl | rfl
  · have : x = 1 := by omega
    subst this
    decide
  · have : x = 1 ∨ x = 2 := by omega
    rcases this with rfl | rfl <;> decide
  · have : x = 1 ∨ x = 2 ∨ x = 3 ∨ x = 4 := by omega
    rcases this with rfl | rfl | rfl | rfl <;> decide
  · have : x = 1 ∨ x = 2 ∨ x = 3 ∨ x = 4 ∨ x = 5 ∨ x = 6 ∨ x = 7 ∨ x = 8 ∨ x = 9 ∨ x = 10 ∨ x = 11 ∨ x = 12 := by omega
    rcases this with rfl | rfl | rfl | rfl | rfl | rfl | rfl | rfl | rfl | rfl | rfl | rfl <;> decide
/-- what stands at each step of the reduction -/
structure PivI (n : Nat) (s : Rs) : Prop where
  lz : ∀ r ∈ s.left, ∀ j, j < n → r.getD j 0 = 0
  pv : ∀ (i : Nat) r q, s.found[i]? = some r → s.places[i]? = some q → r.getD q 0 = 1 ∧ ∀ j, j < q → r.getD j 0 = 0
  ot : ∀ (i j : Nat) r q, s.found[i]? = some r → s.places[j]? = some q → i ≠ j → r.getD q 0 = 0
  up : s.places.Pairwise (· < ·)
theorem map_at {r : List Int} {f : Int → Int} {i : Nat} (h : i < r.length) : (r.map f).getD i 0 = f (r.getD i 0) := by
  rw [List.getD_eq_getElem?_getD, List.getElem?_map, List.getD_eq_getElem?_getD, List.getElem?_eq_getElem h]
  rfl
theorem redStep_piv {p : Int} (hp : okP p) {wide n : Nat} {rows : List (List Int)} {s : Rs} (hn : n < wide) (ok : RsOk p wide n rows s) (h : PivI n s) : PivI (n + 1) (redStep p s n) := by
  have hp1 := hp.lo
  cases e : firstAt n s.left with
  | none =>
    rw [redStep_none e]
    refine ⟨fun r hr j hj => ?_, h.pv, h.ot, h.up⟩
    by_cases z : j < n
    · exact h.lz r hr j z
    · have : j = n := by omega
      subst this
      obtain ⟨i, hi, rfl⟩ := List.getElem_of_mem hr
      have := fa_none e i
      rw [List.getD_eq_getElem?_getD (l := s.left), List.getElem?_eq_getElem hi] at this
      exact this
  | some k =>
    rw [redStep_some e]
    obtain ⟨h1, h2, h3⟩ := fa_some e
    have hmem : s.left.getD k [] ∈ s.left := mem_getD h1
    unfold takenRow
    generalize s.left.getD k [] = row at h2 hmem ⊢
    have okr := ok.left row hmem
    have hx := okr.2 _ (getD_mem (by rw [okr.1]; exact hn))
    have lead1 : (row.map fun w => w * invOf p (row.getD n 0) % p).getD n 0 = 1 := by
      rw [map_at (by rw [okr.1]; exact hn)]
      exact inv_mul hp (by omega) hx.2
    have lead0 : ∀ j, j < n → (row.map fun w => w * invOf p (row.getD n 0) % p).getD j 0 = 0 := fun j hj => by
      rw [map_at (by rw [okr.1]; omega), h.lz row hmem j hj, Int.zero_mul, Int.zero_emod]
    have leadl : (row.map fun w => w * invOf p (row.getD n 0) % p).length = wide := by rw [List.length_map]; exact okr.1
    generalize (row.map fun w => w * invOf p (row.getD n 0) % p) = lead at lead1 lead0 leadl ⊢
    have okE : okMat p wide (s.left.eraseIdx k) := fun r hr => ok.left r (List.mem_of_mem_eraseIdx hr)
    rw [cleared_less okE leadl, cleared_less ok.found leadl]
    have at_ : ∀ (r : List Int) (j : Nat), okRow p wide r → j < wide → (less p r (r.getD n 0) lead).getD j 0 = (r.getD j 0 - r.getD n 0 * lead.getD j 0) % p := fun r j hr hj => less_at (by rw [hr.1]; exact hj) (by rw [leadl]; exact hj)
    have atn : ∀ (r : List Int), okRow p wide r → (less p r (r.getD n 0) lead).getD n 0 = 0 := fun r hr => by rw [at_ r n hr hn, lead1, Int.mul_one, Int.sub_self, Int.zero_emod]
    have fnd : ∀ {i : Nat} {r : List Int}, ((s.found.map fun r => less p r (r.getD n 0) lead) ++ [lead])[i]? = some r → (∃ o, s.found[i]? = some o ∧ r = less p o (o.getD n 0) lead) ∨ (i = s.found.length ∧ r = lead) := by
      intro i r hi
      rw [List.getElem?_append] at hi
      split at hi
      · left
        rw [List.getElem?_map] at hi
        cases eo : s.found[i]? with
        | none => rw [eo] at hi; cases hi
        | some o => rw [eo] at hi; exact ⟨o, rfl, (Option.some.inj hi).symm⟩
      · right
        rename_i hh
        rw [List.length_map] at hh hi
        rw [List.getElem?_singleton] at hi
        split at hi
        · exact ⟨by omega, (Option.some.inj hi).symm⟩
        · cases hi
    have plc : ∀ {i q : Nat}, (s.places ++ [n])[i]? = some q → (s.places[i]? = some q ∧ q < n) ∨ (i = s.found.length ∧ q = n) := by
      intro i q hi
      rw [List.getElem?_append] at hi
      split at hi
      · exact .inl ⟨hi, ok.lt q (List.mem_of_getElem? hi)⟩
      · right
        rename_i hh
        rw [List.getElem?_singleton] at hi
        rw [ok.pl] at hh hi
        split at hi
        · exact ⟨by omega, (Option.some.inj hi).symm⟩
        · cases hi
    refine ⟨fun r hr j hj => ?_, fun i r q hi hq => ?_, fun i j r q hi hq hij => ?_, ?_⟩
    · obtain ⟨o, ho, rfl⟩ := List.mem_map.mp hr
      have oko := okE o ho
      by_cases z : j < n
      · rw [at_ o j oko (by omega), h.lz o (List.mem_of_mem_eraseIdx ho) j z, lead0 j z, Int.mul_zero, Int.sub_self, Int.zero_emod]
      · rw [show j = n by omega]
        exact atn o oko
    · rcases fnd hi with ⟨o, ho, rfl⟩ | ⟨hi1, rfl⟩
      · rcases plc hq with ⟨hq1, hq2⟩ | ⟨hq1, _⟩
        · have oko := ok.found o (List.mem_of_getElem? ho)
          obtain ⟨g1, g2⟩ := h.pv i o q ho hq1
          refine ⟨?_, fun j hj => ?_⟩
          · rw [at_ o q oko (by omega), g1, lead0 q hq2, Int.mul_zero, Int.sub_zero]
            exact Int.emod_eq_of_lt (by omega) (by omega)
          · rw [at_ o j oko (by omega), g2 j hj, lead0 j (by omega), Int.mul_zero, Int.sub_self, Int.zero_emod]
        · have := (List.getElem?_eq_some_iff.mp ho).1
          omega
      · rcases plc hq with ⟨hq1, hq2⟩ | ⟨_, rfl⟩
        · have := (List.getElem?_eq_some_iff.mp hq1).1
          have := ok.pl
          omega
        · exact ⟨lead1, lead0⟩
    · rcases fnd hi with ⟨o, ho, rfl⟩ | ⟨hi1, rfl⟩
      · have oko := ok.found o (List.mem_of_getElem? ho)
        rcases plc hq with ⟨hq1, hq2⟩ | ⟨_, rfl⟩
        · rw [at_ o q oko (by omega), h.ot i j o q ho hq1 hij, lead0 q hq2, Int.mul_zero, Int.sub_self, Int.zero_emod]
        · exact atn o oko
      · rcases plc hq with ⟨hq1, hq2⟩ | ⟨hq1, _⟩
        · exact lead0 q hq2
        · omega
    · rw [List.pairwise_append]
      exact ⟨h.up, by simp, fun a ha b hb => by rw [List.mem_singleton] at hb; rw [hb]; exact ok.lt a ha⟩
theorem redTo_piv {p : Int} (hp : okP p) {wide : Nat} {rows : List (List Int)} (h : okMat p wide rows) : ∀ n, n ≤ wide → PivI n (redTo p rows n)
  | 0, _ => ⟨fun _ _ _ h => (nomatch h), fun _ _ _ h => by simp [redTo] at h, fun _ _ _ _ h => by simp [redTo] at h, .nil⟩
  | n + 1, hn => by
    have hp1 := hp.lo
    rw [redTo_succ]
    exact redStep_piv hp (by omega) (redTo_ok (by omega) h n) (redTo_piv hp h n (by omega))
section
variable {K : PySem.W.Frag} {H : Hp} {Q : VK}
theorem padd {a b : Addr} {xs : List V} {m : List (List Int)} (h : Paired (rhA [a] H) xs m) (hb : H b = none) : Paired (rhA [a, b] H) xs m := by
  refine Paired.imp (fun x r g => ?_) h
  obtain ⟨c, c1, c2, c3⟩ := g
  refine ⟨c, c1, fun z => ?_, c3⟩
  rcases List.mem_cons.mp z with z | z
  · exact c2 (by simp [z])
  · rw [List.mem_singleton] at z
    rw [z, hb] at c3
    cases c3
theorem pcut {a b : Addr} {xs : List V} {m : List (List Int)} (h : Paired (rhA [a, b] H) xs m) : Paired (rhA [a] H) xs m := by
  refine Paired.imp (fun x r g => ?_) h
  obtain ⟨c, c1, c2, c3⟩ := g
  exact ⟨c, c1, fun z => c2 (by rw [List.mem_singleton] at z; simp [z]), c3⟩
/-! _law_lost_columns -/
def sp_law_lost_columns (K : PySem.W.Frag) : Sp := fun vs H Q _ => ∃ (p : Int) (wide : Nat) (a : Addr) (xs : List V) (m : List (List Int)), vs = [.int p, .ref a, .int wide] ∧ okP p ∧ H a = some (.lst xs) ∧ Paired (rhA [] H) xs m ∧ (∀ r ∈ m, r.length = wide) ∧ m.length ≤ 1000 ∧ wide ≤ 1000 ∧
  ∀ l ys H', Same H H' → H l = none → H' l = some (.lst ys) → Paired (rhA [] H') ys (kernelR p wide (modM p m)) → Q (.ref l) H'
theorem pure_law_lost_columns (vs : List V) (H : Hp) (Q : VK) (E : XK) (h : sp_law_lost_columns K vs H Q E) : t_law_lost_columns K (sp_law_spanned K) (Ed Q) (start n_law_lost_columns vs) H := by
  obtain ⟨p, wide, a, xs, m, rfl, hp, ha, pm, hw, hz, hz2, q⟩ := h
  have hp1 := hp.lo
  have hp2 := hp.hi
  have okm := modM_ok (p := p) (by omega) hw
  refine ⟨_, rfl, _, rfl, p, wide, a, xs, m, rfl, hp, ha, pm, hw, hz, hz2, fun aF fs H1 e1 _ hF pF => ?_⟩
  have ok := redTo_ok (p := p) (by omega) okm wide
  have pv := redTo_piv hp okm wide (Nat.le_refl _)
  have lk2 : kernelR p wide (modM p m) = redRows p wide (freeCols p wide (redRows p wide (modM p m)) (redPlaces p wide (modM p m))) := rfl
  unfold redRows at pF
  rw [lk2] at q
  unfold redRows redPlaces at q
  generalize redTo p (modM p m) wide = S at ok pv pF q
  have lF := Paired.len pF
  have lS := ok.len
  have lmm : (modM p m).length = m.length := by simp [modM]
  have lfz : S.found.length ≤ 1000 := by omega
  -- leads
  refine ⟨_, rfl, aF, rfl, ⟨_, SqL.of hF⟩, fun D nD => ?_⟩
  refine lc_all (r := rhN) (walk_list (xs := fs)) S.places (by rw [ok.pl, lF]) (by omega) immN nD (fun H' e => SqL.of (e _ _ hF)) ?_ ?_
  · rintro i x c H2 H3 Q' hc e2 ⟨rfl, hx⟩ k'
    obtain ⟨r, hr, b, rfl, _, hb⟩ := Paired.at (psame e2 pF) hx
    have okr := ok.found r (List.mem_of_getElem? hr)
    obtain ⟨g1, g2⟩ := pv.pv i r c hr hc
    have hcw := ok.lt c (List.mem_of_getElem? hc)
    refine ⟨rfl, _, rfl, wide, rfl, by omega, by omega, fun D2 nD2 => ?_⟩
    rw [Int.toNat_natCast]
    refine lc_opt (r := rhN) (wk_rng (n := wide)) (fun j => if 0 < r.getD j 0 then some j else none) (by omega) immN nD2 (fun _ _ => trivial) ?_ ?_
    · rintro j y H4 H5 KY KN hj e4 ⟨rfl, rfl⟩ ky kn
      refine ⟨rfl, _, rfl, _, rfl, b, _, _, _, rfl, rfl, SqL.of (e4 _ _ hb), atI_nat (row_at (by rw [okr.1]; exact hj)), _, _, rfl, rfl, _, rfl, ?_⟩
      by_cases z : 0 < r.getD j 0
      · exact ifd_t z ⟨_, rfl, ky j _ _ (if_pos z) (Same.refl _) rfl⟩
      · exact ifd_f z (kn (if_neg z) _ (Same.refl _))
    · intro H4 us e4 f1 f2
      obtain ⟨tl, htl⟩ := filterMap_head (f := fun j => if 0 < r.getD j 0 then some j else none) (k := c) (if_pos (by omega)) (fun j hj => if_neg (by rw [g2 j hj]; omega)) wide hcw
      rw [htl] at f2
      rw [nats_of f2] at f1
      exact ⟨D2, _, _, _, rfl, rfl, SqL.of f1, atI0, k' _ _ e4 rfl⟩
  · intro H2 ls e2 f1 f2
    rw [nats_of f2, List.map_map] at f1
    have f1 : H2 D = some (.lst (S.places.map fun n : Nat => V.int (n : Int))) := f1
    have e12 := Same.trans e1 e2
    have hF2 := e2 _ _ hF
    have pF2 := psame e2 pF
    refine ⟨Nat.zero_le _, fun aS nS => ?_⟩
    have nS0 := Same.free e12 nS
    have e3 := Same.upd (o := .lst []) nS
    have hS3 : upd H2 aS (.lst []) aS = some (.lst []) := upd_same
    have e13 := Same.trans e12 e3
    have hF3 := e3 _ _ hF2
    have pF3 := pone pF2 nS
    have pF3 := psame e3 pF3
    have hD3 := e3 _ _ f1
    have nDS : D ≠ aS := fun z => by rw [← z, f1] at nS; cases nS
    have nFS : aF ≠ aS := fun z => by rw [← z, hF2] at nS; cases nS
    generalize upd H2 aS (.lst []) = H3 at e13 hS3 hF3 pF3 hD3 ⊢
    refine ⟨_, rfl, (wide : Int), rfl, by omega, by omega, ?_⟩
    rw [Int.toNat_natCast]
    refine for_it (wk_rng (n := wide)) (fun i σ H' => ∃ (zs : List V) (v6 v7 v8 v9 v10 : Option V), σ = [some (.int p), some (.ref a), some (.int wide), some (.ref aF), some (.ref D), some (.ref aS), v6, v7, v8, v9, v10] ∧ Same H H' ∧ H' aF = some (.lst fs) ∧ Paired (rhA [aS] H') fs S.found ∧ H' D = some (.lst (S.places.map fun n : Nat => V.int (n : Int))) ∧ H' aS = some (.lst zs) ∧
        Paired (rhA [aS] H') zs (((List.range i).filter fun f => !S.places.contains f).map (freeCol p wide S.found S.places)))
      ⟨[], none, none, none, none, none, rfl, e13, hF3, pF3, hD3, hS3, .nil⟩ (fun _ _ _ _ _ => trivial) ?_ ?_
    · rintro i x σ H4 H5 hi ⟨zs, v6, v7, v8, v9, v10, rfl, e4, hF4, pF4, hD4, hS4, pS4⟩ ⟨rfl, rfl⟩
      refine ⟨_, rfl, _, rfl, D, _, rfl, .inl (SqL.of hD4), rfl, flat_nats, _, rfl, ?_⟩
      show if (!inV (.int (i : Int)) (S.places.map fun n : Nat => V.int (n : Int))) = true then _ else _
      rw [inV_nats]
      cases hc : S.places.contains i with
      | true =>
        refine ite_f ⟨zs, _, _, _, _, _, rfl, e4, hF4, pF4, hD4, hS4, ?_⟩
        rw [List.range_succ, List.filter_append, List.filter_cons]
        simp only [hc]
        simpa using pS4
      | false =>
        refine ite_t ⟨_, rfl, wide, rfl, by omega, by omega, fun D5 nD5 => ?_⟩
        refine lc_all (r := rhI) (wk_rng (n := wide)) (unitR wide i) (by simp [unitR]) (by omega) immI nD5 (fun _ _ => trivial) ?_ ?_
        · rintro j y d H6 H7 Q2 hd e6 ⟨rfl, rfl⟩ k2
          obtain ⟨hj, ed⟩ := gets hd
          refine ⟨rfl, _, rfl, _, rfl, rfl, .inr ⟨_, rfl, k2 _ _ (Same.refl _) ?_⟩⟩
          rw [nat_eq, ed]
          rfl
        · intro H6 us e6 g1 g2
          rw [ints_of g2] at g1
          have nD5H : H D5 = none := Same.free e4 nD5
          have nD5S : D5 ≠ aS := fun z => by rw [z, hS4] at nD5; cases nD5
          have nD5D : D5 ≠ D := fun z => by rw [z, hD4] at nD5; cases nD5
          have nD5F : D5 ≠ aF := fun z => by rw [z, hF4] at nD5; cases nD5
          have pF5 := padd pF4 nD5
          have pS5 := padd pS4 nD5
          refine ⟨_, rfl, _, rfl, D, aF, _, fs, rfl, .inl ⟨SqL.of (e6 _ _ hD4), SqL.of (e6 _ _ hF4), ?_⟩⟩
          have lP := ok.pl
          refine for_it (wk_zipL (n := S.found.length) (xs := S.places.map fun n : Nat => V.int (n : Int)) (ys := fs) (by rw [List.length_map]; exact lP.symm) lF.symm)
            (fun j σ H' => ∃ (w8 w9 : Option V), σ = [some (.int p), some (.ref a), some (.int wide), some (.ref aF), some (.ref D), some (.ref aS), some (.int (i : Int)), some (.ref D5), w8, w9, v10] ∧ Same H H' ∧ H' aF = some (.lst fs) ∧ Paired (rhA [aS, D5] H') fs S.found ∧ H' D = some (.lst (S.places.map fun n : Nat => V.int (n : Int))) ∧ H' aS = some (.lst zs) ∧
              Paired (rhA [aS, D5] H') zs (((List.range i).filter fun f => !S.places.contains f).map (freeCol p wide S.found S.places)) ∧
              H' D5 = some (.lst ((((List.zip S.found S.places).take j).foldl (fun c q => c.set q.2 (-(q.1.getD i 0) % p)) (unitR wide i)).map V.int)))
            ⟨v8, v9, rfl, Same.trans e4 e6, e6 _ _ hF4, psame e6 pF5, e6 _ _ hD4, e6 _ _ hS4, psame e6 pS5, g1⟩ (fun _ _ _ _ ⟨_, _, _, _, c1, _, c2, _⟩ => ⟨SqL.of c2, SqL.of c1⟩) ?_ ?_
          · rintro j y σ H7 H8 hj ⟨w8, w9, rfl, e7, hF7, pF7, hD7, hS7, pS7, h57⟩ ⟨t5, y1, y2, rfl, nt, rfl, k1, k2⟩
            obtain ⟨pl, hpl, rfl⟩ := nat_at k1
            obtain ⟨r, hr, b, rfl, nb, hb⟩ := Paired.at pF7 k2
            have okr := ok.found r (List.mem_of_getElem? hr)
            have lpl := ok.lt pl (List.mem_of_getElem? hpl)
            refine g_pair upd_same ?_
            have e8 : Same H7 (upd H7 t5 (.tup [.int (pl : Int), .ref b])) := Same.upd nt
            have h58 := e8 _ _ h57
            have e78 := Same.trans e7 e8
            have hb8 := e8 _ _ hb
            have hF8 := e8 _ _ hF7
            have hD8 := e8 _ _ hD7
            have hS8 := e8 _ _ hS7
            have pF8 := psame e8 pF7
            have pS8 := psame e8 pS7
            generalize upd H7 t5 (.tup [.int (pl : Int), .ref b]) = H8 at e78 h58 hb8 hF8 hD8 hS8 pF8 pS8 ⊢
            refine ⟨_, rfl, _, rfl, b, _, _, _, rfl, rfl, SqL.of hb8, atI_nat (row_at (by rw [okr.1]; exact hi)), _, rfl, .inl ⟨_, rfl, _, rfl, _, _, rfl, rfl, (by show (0 : Int) < p; omega), _, rfl, _, rfl, D5, _, _, pl, rfl, rfl, h58, ixSet ?_, ?_⟩⟩
            · rw [List.length_map, zipFold_len]
              simp [unitR]
              exact lpl
            · refine ⟨_, _, rfl, Same.mut e78 nD5H, by rw [upd_ne (Ne.symm nD5F)]; exact hF8, pupd (by simp) pF8, by rw [upd_ne (Ne.symm nD5D)]; exact hD8, by rw [upd_ne (Ne.symm nD5S)]; exact hS8, pupd (by simp) pS8, ?_⟩
              rw [upd_same, List.take_add_one, List.foldl_append]
              have ez : (List.zip S.found S.places)[j]? = some (r, pl) := by
                rw [List.getElem?_zip_eq_some]
                exact ⟨hr, hpl⟩
              rw [ez]
              show some (HO.lst _) = some (HO.lst _)
              congr 2
              show _ = List.map V.int (List.set _ pl (-(r.getD i 0) % p))
              rw [List.map_set]
          · rintro σ H7 ⟨w8, w9, rfl, e7, hF7, pF7, hD7, hS7, pS7, h57⟩
            have lz := Paired.len pS7
            rw [List.length_map] at lz
            have lfl := List.length_filter_le (fun f => !S.places.contains f) (List.range i)
            rw [List.length_range] at lfl
            refine ⟨_, rfl, .inl ⟨rfl, _, SqL.of hS7⟩, _, rfl, aS, zs, .ref D5, rfl, rfl, hS7, Nat.lt_of_le_of_lt (by omega : zs.length ≤ 1000) (by decide), zs ++ [.ref D5], _, _, _, _, _, rfl, Same.mut e7 nS0, by rw [upd_ne nFS]; exact hF7, pupd (by simp) (pcut pF7), by rw [upd_ne nDS]; exact hD7, upd_same, ?_⟩
            have ef : ((List.range (i + 1)).filter fun f => !S.places.contains f) = ((List.range i).filter fun f => !S.places.contains f) ++ [i] := by
              rw [List.range_succ, List.filter_append, List.filter_cons]
              simp only [hc]
              rfl
            rw [ef, List.map_append]
            refine Paired.app (pupd (by simp) (pcut pS7)) (.cons ⟨D5, rfl, by simp; exact nD5S, ?_⟩ .nil)
            rw [upd_ne nD5S, h57]
            have etk : ((List.zip S.found S.places).take S.found.length) = List.zip S.found S.places := List.take_of_length_le (by rw [List.length_zip]; omega)
            rw [etk]
            rfl
    · rintro σ H4 ⟨zs, v6, v7, v8, v9, v10, rfl, e4, hF4, pF4, hD4, hS4, pS4⟩
      have okc : okMat p wide (freeCols p wide S.found S.places) := fun r hr => by
        unfold freeCols at hr
        obtain ⟨f, _, rfl⟩ := List.mem_map.mp hr
        exact freeCol_ok (by omega)
      have lz := Paired.len pS4
      rw [List.length_map] at lz
      have lfl := List.length_filter_le (fun f => !S.places.contains f) (List.range wide)
      rw [List.length_range] at lfl
      refine ⟨_, rfl, _, rfl, p, wide, aS, zs, freeCols p wide S.found S.places, rfl, hp, hS4, pnil pS4, fun r hr => (okc r hr).1, by unfold freeCols; rw [List.length_map]; omega, hz2, fun l ys H5 e5 nl hl pl => ?_⟩
      rw [modM_id okc] at pl
      exact q l ys H5 (Same.trans e4 e5) (Same.free e4 nl) hl pl
end
/-! the law's own rows -/
def wAskRow (c : Pc) (b e k m : Nat) (row : List Int) : List Int := (putAt (nils (widthOf c b e)) (startOf c b (arrAt c k).1) row).set (startOf c b (arrAt c k).2 + m) (-1)
def wLostRow (c : Pc) (b e k m : Nat) : List Int := putAt ((nils (widthOf c b e)).set (startOf c b (arrAt c k).1 + m) 1) (startOf c b (arrAt c k).2) ((tabAt c k).rows.map fun r => -(r.getD m 0))
def inStr (b e k : Nat) : Bool := decide (b ≤ k) && decide (k + 1 ≤ e)
def wAsk (c : Pc) (b e i : Nat) : List (List Int) := (List.range i).flatMap fun k => if inStr b e k then (tabAt c k).rows.mapIdx (fun m row => wAskRow c b e k m row) else []
def wLost (c : Pc) (b e i : Nat) : List (List Int) := (List.range i).flatMap fun k => if inStr b e k then (List.range (szAt c (arrAt c k).1)).map (wLostRow c b e k) else []
theorem wAsk_succ (c : Pc) (b e i : Nat) : wAsk c b e (i + 1) = wAsk c b e i ++ if inStr b e i then (tabAt c i).rows.mapIdx (fun m row => wAskRow c b e i m row) else [] := by
  unfold wAsk
  rw [List.range_succ, List.flatMap_append, List.flatMap_cons, List.flatMap_nil, List.append_nil]
theorem wLost_succ (c : Pc) (b e i : Nat) : wLost c b e (i + 1) = wLost c b e i ++ if inStr b e i then (List.range (szAt c (arrAt c i).1)).map (wLostRow c b e i) else [] := by
  unfold wLost
  rw [List.range_succ, List.flatMap_append, List.flatMap_cons, List.flatMap_nil, List.append_nil]
theorem flat_shift {α : Type} {f : Nat → List α} {b e : Nat} (hbe : b ≤ e) : ∀ n, ((List.range n).flatMap fun k => if inStr b e k then f k else []) = (List.range (min n e - b)).flatMap fun i => f (b + i)
  | 0 => by simp
  | n + 1 => by
    rw [List.range_succ, List.flatMap_append, flat_shift hbe n, List.flatMap_cons, List.flatMap_nil, List.append_nil]
    by_cases h1 : b ≤ n
    · by_cases h2 : n + 1 ≤ e
      · have e1 : inStr b e n = true := by simp [inStr, h1, h2]
        rw [e1, if_pos rfl, show min (n + 1) e - b = (min n e - b) + 1 by omega, List.range_succ, List.flatMap_append, List.flatMap_cons, List.flatMap_nil, List.append_nil, show b + (min n e - b) = n by omega]
      · have e1 : inStr b e n = false := by simp [inStr, h1]; omega
        rw [e1, if_neg (by decide), List.append_nil, show min (n + 1) e - b = min n e - b by omega]
    · have e1 : inStr b e n = false := by simp [inStr]; omega
      rw [e1, if_neg (by decide), List.append_nil, show min (n + 1) e - b = min n e - b by omega]
theorem mod_putAt (p : Int) (row xs : List Int) (i : Nat) : (putAt row i xs).map (fun x => x % p) = putAt (row.map fun x => x % p) i (xs.map fun x => x % p) := by
  unfold putAt
  simp [List.map_take, List.map_drop]
theorem mod_nils (p : Int) (n : Nat) : (nils n).map (fun x => x % p) = nils n := by
  unfold nils
  rw [List.map_replicate, Int.zero_emod]
theorem mod_row {p : Int} {n : Nat} {r : List Int} (h : okRow p n r) : r.map (fun x => x % p) = r := by
  have e2 : ∀ x ∈ r, x % p = id x := fun x hx => Int.emod_eq_of_lt (h.2 x hx).1 (h.2 x hx).2
  rw [List.map_congr_left e2, List.map_id]
theorem neg_one_mod {p : Int} (hp : 1 < p) : (-1 : Int) % p = p - 1 := by
  have h := Int.emod_emod_of_dvd (-1) (Int.dvd_refl p)
  rw [← Int.add_emod_right (-1) p]
  rw [show (-1 : Int) + p = p - 1 by omega]
  exact Int.emod_eq_of_lt (by omega) (by omega)
theorem map_mapIdx {α β γ : Type} (g : β → γ) (f : Nat → α → β) (l : List α) : (l.mapIdx f).map g = l.mapIdx fun i a => g (f i a) := by
  apply List.ext_getElem
  · simp
  · intro i h1 h2
    simp
theorem mapIdx_congr {α β : Type} {f g : Nat → α → β} {l : List α} (h : ∀ i a, l[i]? = some a → f i a = g i a) : l.mapIdx f = l.mapIdx g := by
  apply List.ext_getElem
  · simp
  · intro i h1 h2
    simp only [List.getElem_mapIdx]
    exact h i _ (List.getElem?_eq_getElem (by simpa using h1))
theorem dot_cons (a b : Int) (r c : List Int) : dot (a :: r) (b :: c) = a * b + dot r c := rfl
theorem dot_from (f : Nat → Int) : ∀ (r : List Int) (k : Nat), dot r ((List.range r.length).map fun j => f (k + j)) = dot r ((List.range r.length).map fun j => f (k + j))
  | _, _ => rfl
theorem dot_unit_at (h : Nat) : ∀ (r : List Int) (k : Nat), dot r ((List.range r.length).map fun j => if k + j = h then (1 : Int) else 0) = if k ≤ h then r.getD (h - k) 0 else 0
  | [], k => by simp [dot]
  | a :: r, k => by
    have ih := dot_unit_at h r (k + 1)
    rw [List.length_cons, List.range_succ_eq_map, List.map_cons, List.map_map, dot_cons]
    have e : ((List.range r.length).map ((fun j => if k + j = h then (1 : Int) else 0) ∘ Nat.succ)) = (List.range r.length).map fun j => if k + 1 + j = h then (1 : Int) else 0 := by
      refine List.map_congr_left fun j _ => ?_
      show (if k + (j + 1) = h then (1 : Int) else 0) = _
      rw [show k + (j + 1) = k + 1 + j by omega]
    rw [e, ih, Nat.add_zero]
    by_cases h1 : k = h
    · subst h1
      rw [if_pos rfl, if_neg (by omega), if_pos (Nat.le_refl _), Nat.sub_self]
      simp
    · by_cases h2 : k ≤ h
      · rw [if_neg h1, if_pos (by omega), if_pos h2, show h - k = (h - (k + 1)) + 1 by omega]
        simp
      · rw [if_neg h1, if_neg (by omega), if_neg h2]
        simp
theorem dot_unit {r : List Int} {n : Nat} (hn : r.length = n) (h : Nat) : dot r (unitR n h) = r.getD h 0 := by
  have := dot_unit_at h r 0
  unfold unitR
  subst hn
  simpa using this
theorem unitLed_eq {p : Int} {c : Pc} {k m : Nat} (hm : m < szAt c (arrAt c k).1) (ok : okMat p (szAt c (arrAt c k).1) (tabAt c k).rows) : unitLed p c k m = (tabAt c k).rows.map fun r => r.getD m 0 := by
  unfold unitLed ledOn
  refine List.map_congr_left fun r hr => ?_
  have o := ok r hr
  rw [dot_unit o.1]
  have := o.2 _ (getD_mem (by rw [o.1]; exact hm))
  exact Int.emod_eq_of_lt this.1 this.2
theorem ask_eq {p : Int} (hp : 1 < p) {c : Pc} (ok : PcOk p c) {b e n : Nat} (hbe : b ≤ e) (he : e < c.many) (hn : e ≤ n) : modM p (wAsk c b e n) = askRows p c b e := by
  unfold wAsk
  rw [flat_shift hbe n, show min n e = e by omega]
  unfold modM askRows
  rw [List.map_flatMap]
  rw [List.flatMap_def, List.flatMap_def]
  congr 1
  refine List.map_congr_left fun i hi => ?_
  have hi := List.mem_range.mp hi
  obtain ⟨hk, ga, gt, in1, in2⟩ := arr_in ok (b := b) he hi
  obtain ⟨_, f1, f2, f3⟩ := ok.fit (b + i) _ _ ga gt
  rw [map_mapIdx]
  refine mapIdx_congr fun m row hm => ?_
  unfold wAskRow meetRow
  rw [List.map_set, mod_putAt, mod_nils, mod_row (f3 row (List.mem_of_getElem? hm)), neg_one_mod hp]
theorem lost_eq {p : Int} (hp : 1 < p) {c : Pc} (ok : PcOk p c) {b e n : Nat} (hbe : b ≤ e) (he : e < c.many) (hn : e ≤ n) : modM p (wLost c b e n) = lostRows p c b e := by
  unfold wLost
  rw [flat_shift hbe n, show min n e = e by omega]
  unfold modM lostRows
  rw [List.map_flatMap]
  rw [List.flatMap_def, List.flatMap_def]
  congr 1
  refine List.map_congr_left fun i hi => ?_
  have hi := List.mem_range.mp hi
  obtain ⟨hk, ga, gt, in1, in2⟩ := arr_in ok (b := b) he hi
  obtain ⟨_, f1, f2, f3⟩ := ok.fit (b + i) _ _ ga gt
  rw [List.map_map]
  refine List.map_congr_left fun m hm => ?_
  have hm := List.mem_range.mp hm
  show (wLostRow c b e (b + i) m).map (fun x => x % p) = _
  unfold wLostRow lostRow
  rw [mod_putAt, List.map_set, mod_nils, show (1 : Int) % p = 1 from Int.emod_eq_of_lt (by omega) hp, unitLed_eq hm (by rw [← f1]; exact f3), List.map_map, List.map_map]
  rfl
section
variable {K : PySem.W.Frag} {H : Hp} {Q : VK}
theorem padc {ds : List Addr} {D : Addr} {xs : List V} {m : List (List Int)} (h : Paired (rhA ds H) xs m) (hb : H D = none) : Paired (rhA (D :: ds) H) xs m := by
  refine Paired.imp (fun x r g => ?_) h
  obtain ⟨c, c1, c2, c3⟩ := g
  refine ⟨c, c1, fun z => ?_, c3⟩
  rcases List.mem_cons.mp z with z | z
  · rw [z, hb] at c3
    cases c3
  · exact c2 z
theorem pcutc {ds : List Addr} {D : Addr} {xs : List V} {m : List (List Int)} (h : Paired (rhA (D :: ds) H) xs m) : Paired (rhA ds H) xs m := by
  refine Paired.imp (fun x r g => ?_) h
  obtain ⟨c, c1, c2, c3⟩ := g
  exact ⟨c, c1, fun z => c2 (List.mem_cons_of_mem _ z), c3⟩
/-- the dict of starts, whole -/
def StAll (c : Pc) (b e : Nat) (kvs : List (Key × V)) : Prop := ∀ q : Nat, valV kvs (Sum.inl (q : Int)) = if b ≤ q ∧ q ≤ e then some (.int (startOf c b q : Nat)) else none
end
section
variable {K : PySem.W.Frag} {H : Hp} {Q : VK}
def sp_law_reach (K : PySem.W.Frag) : Sp := sp_raw_reach K
theorem wAsk_len {p : Int} {c : Pc} (ok : PcOk p c) (b e : Nat) : ∀ i, i ≤ c.arrows.length → (wAsk c b e i).length ≤ 6 * i
  | 0, _ => Nat.le_refl _
  | i + 1, hi => by
    have h1 := wAsk_len ok b e i (by omega)
    have lnt := ok.nt
    obtain ⟨_, f1, f2, f3⟩ := ok.fit i _ _ (arr_get (by omega)) (tab_get (c := c) (k := i) (by omega))
    have h2 := szAt_le ok (arrAt c i).2
    rw [wAsk_succ, List.length_append]
    split
    · rw [List.length_mapIdx]
      omega
    · rw [List.length_nil]
      omega
theorem wLost_len {p : Int} {c : Pc} (ok : PcOk p c) (b e : Nat) : ∀ i, (wLost c b e i).length ≤ 6 * i
  | 0 => Nat.le_refl _
  | i + 1 => by
    have h1 := wLost_len ok b e i
    have h2 := szAt_le ok (arrAt c i).1
    rw [wLost_succ, List.length_append]
    split
    · rw [List.length_map, List.length_range]
      omega
    · rw [List.length_nil]
      omega
theorem mod_len {p : Int} {m n : List (List Int)} (h : modM p m = n) {w : Nat} (hn : okMat p w n) : ∀ r ∈ m, r.length = w := by
  intro r hr
  subst h
  have := (hn (r.map fun x => x % p) (List.mem_map.mpr ⟨r, hr, rfl⟩)).1
  rwa [List.length_map] at this
/-- a new row of noughts -/
theorem new_nils {n : Nat} (hn : n ≤ 1000) {Q' : VK} (q : ∀ l H', Same H H' → H l = none → H' l = some (.lst ((nils n).map V.int)) → Q' (.ref l) H') {σ : L2.St} {i : Nat} (hσ : σ[i]? = some (some (.int (n : Int)))) : (tOp rRep (tLst (tCons (tC (.int 0)) tNil)) (tVar i)) σ H Q' := by
  refine ⟨(by show 1 ≤ sizeLine; decide), fun l0 n0 => ⟨_, hσ, ?_⟩⟩
  have e5 := Same.upd (o := .lst [.int 0]) n0
  refine ⟨l0, _, _, rfl, rfl, upd_same, by omega, by omega, Nat.le_trans (by rw [Int.toNat_natCast]; show 1 * n ≤ 1000; omega) (by decide), fun aR nR => ?_⟩
  rw [Int.toNat_natCast, rep1]
  refine q aR _ (Same.trans e5 (Same.upd nR)) (Same.free e5 nR) ?_
  rw [upd_same]
  unfold nils
  rw [List.map_replicate]
/-- the state of the loop over the arrows -/
structure LrIv (c : Pc) (b e : Nat) (kvs : List (Key × V)) (aD aA aB : Addr) (H : Hp) (asks losts : List (List Int)) (za zb : List V) (H' : Hp) : Prop where
  e : Same H H'
  hD : H' aD = some (.dK kvs)
  hA : H' aA = some (.lst za)
  hB : H' aB = some (.lst zb)
  pA : Paired (rhA [aA, aB] H') za asks
  pB : Paired (rhA [aA, aB] H') zb losts
theorem LrIv.same {c : Pc} {b e : Nat} {kvs : List (Key × V)} {aD aA aB : Addr} {asks losts : List (List Int)} {za zb : List V} {H' H2 : Hp} (iv : LrIv c b e kvs aD aA aB H asks losts za zb H') (s : Same H' H2) : LrIv c b e kvs aD aA aB H asks losts za zb H2 :=
  ⟨Same.trans iv.e s, s _ _ iv.hD, s _ _ iv.hA, s _ _ iv.hB, psame s iv.pA, psame s iv.pB⟩
/-- a new list changes -/
theorem LrIv.mut {c : Pc} {b e : Nat} {kvs : List (Key × V)} {aD aA aB : Addr} {asks losts : List (List Int)} {za zb : List V} {H0 H' : Hp} {D : Addr} {o : HO} (iv : LrIv c b e kvs aD aA aB H asks losts za zb H0) (s : Same H0 H') (hD : H0 D = none) : LrIv c b e kvs aD aA aB H asks losts za zb (upd H' D o) := iv.same (Same.mut s hD)
theorem LrIv.ask {c : Pc} {b e : Nat} {kvs : List (Key × V)} {aD aA aB : Addr} {asks losts : List (List Int)} {za zb : List V} {H0 H' : Hp} {D : Addr} {r : List Int} (iv : LrIv c b e kvs aD aA aB H asks losts za zb H0) (nA : H aA = none) (s : Same H0 H') (hD : H0 D = none) (h : H' D = some (.lst (r.map V.int))) (n1 : aA ≠ aB) (n2 : aD ≠ aA) :
    LrIv c b e kvs aD aA aB H (asks ++ [r]) losts (za ++ [.ref D]) zb (upd H' aA (.lst (za ++ [.ref D]))) := by
  have i2 := iv.same s
  have d1 : D ≠ aA := fun z => by rw [z, iv.hA] at hD; cases hD
  have d2 : D ≠ aB := fun z => by rw [z, iv.hB] at hD; cases hD
  exact ⟨Same.mut i2.e nA, by rw [upd_ne n2]; exact i2.hD, upd_same, by rw [upd_ne (Ne.symm n1)]; exact i2.hB, Paired.app (pupd (by simp) i2.pA) (.cons ⟨D, rfl, by simp [d1, d2], by rw [upd_ne d1]; exact h⟩ .nil), pupd (by simp) i2.pB⟩
theorem LrIv.lost {c : Pc} {b e : Nat} {kvs : List (Key × V)} {aD aA aB : Addr} {asks losts : List (List Int)} {za zb : List V} {H0 H' : Hp} {D : Addr} {r : List Int} (iv : LrIv c b e kvs aD aA aB H asks losts za zb H0) (nB : H aB = none) (s : Same H0 H') (hD : H0 D = none) (h : H' D = some (.lst (r.map V.int))) (n1 : aA ≠ aB) (n2 : aD ≠ aB) :
    LrIv c b e kvs aD aA aB H asks (losts ++ [r]) za (zb ++ [.ref D]) (upd H' aB (.lst (zb ++ [.ref D]))) := by
  have i2 := iv.same s
  have d1 : D ≠ aA := fun z => by rw [z, iv.hA] at hD; cases hD
  have d2 : D ≠ aB := fun z => by rw [z, iv.hB] at hD; cases hD
  exact ⟨Same.mut i2.e nB, by rw [upd_ne n2]; exact i2.hD, by rw [upd_ne n1]; exact i2.hA, upd_same, pupd (by simp) i2.pA, Paired.app (pupd (by simp) i2.pB) (.cons ⟨D, rfl, by simp [d1, d2], by rw [upd_ne d2]; exact h⟩ .nil)⟩
theorem cut_toL {xs : List V} {n : Nat} (h : n ≤ xs.length) : cutV xs none (some (n : Int)) = xs.take n := cut_to h
theorem pure_law_reach (vs : List V) (H : Hp) (Q : VK) (E : XK) (h : sp_law_reach K vs H Q E) : t_law_reach K (sp_law_lost_columns K) (sp_law_spanned K) (Ed Q) (start n_law_reach vs) H := by
  obtain ⟨p, v, c, b, e, rfl, hp, hc, ok, hbe, he, q⟩ := h
  have hp1 := hp.lo
  have hp2 := hp.hi
  have lm : c.many ≤ 8 := ok.li.2.1
  have lia : c.arrows.length + 1 = c.many := ok.li.1
  have lns := ok.ns
  have lnt := ok.nt
  have wle := width_le ok hbe he
  have okL : okMat p (widthOf c b e) (lostRows p c b e) := lostTo_ok (by omega) ok he _ (Nat.le_refl _)
  have llL : (lostRows p c b e).length ≤ 6 * (e - b) := lostTo_len ok b e (e - b)
  have okM := meetingRows_ok (p := p) (by omega) ok hbe he
  have okK := keptRows_ok (p := p) (by omega) ok hbe he
  have okA := (askTo_ok (p := p) (by omega) ok (b := b) he (e - b) (Nat.le_refl _)).1
  have st0 := start_in (c := c) (b := b) (e := e) (q := b) (Nat.le_refl _) hbe
  refine ⟨_, rfl, ?_⟩
  refine fd_pprime hc ?_
  refine ⟨_, rfl, ?_⟩
  refine fd_sizes hc fun vS hS => ?_
  refine fun aD nD => ⟨(by show 4 ≤ sizeLine; decide), fun t0 nt0 => ?_⟩
  have e0 := Same.trans (Same.upd (o := .dK []) nD) (Same.upd (o := .tup [.int p, vS, .ref aD, .int 0]) nt0)
  have hD0 : upd (upd H aD (.dK [])) t0 (.tup [.int p, vS, .ref aD, .int 0]) aD = some (.dK []) := (Same.upd nt0) _ _ upd_same
  have ht0 : SqT K (upd (upd H aD (.dK [])) t0 (.tup [.int p, vS, .ref aD, .int 0])) t0 [.int p, vS, .ref aD, .int 0] := SqT.of upd_same
  generalize upd (upd H aD (.dK [])) t0 (.tup [.int p, vS, .ref aD, .int 0]) = H0 at e0 hD0 ht0 ⊢
  refine ⟨t0, _, rfl, ht0, rfl, _, _, rfl, _, _, rfl, _, _, rfl, _, _, rfl, rfl, ?_⟩
  refine ⟨_, rfl, _, rfl, _, _, rfl, rfl, _, _, rfl, ⟨by omega, by omega, by omega, by omega⟩, ?_⟩
  have hn : ((e : Int) + 1 - (b : Int)).toNat = e + 1 - b := by omega
  refine for_it (wk_rngAt (lo := b) (n := ((e : Int) + 1 - (b : Int)).toNat)) (fun i σ H' => ∃ (v7 : Option V) (kvs : List (Key × V)), σ = [some v, some (.int b), some (.int e), some (.int p), some vS, some (.ref aD), some (.int (startOf c b (b + i) : Nat)), v7, none, none, none, none, none, none, none, none, none, none, none] ∧ Same H H' ∧ H' aD = some (.dK kvs) ∧ kvs.length ≤ i ∧
      ∀ q : Nat, valV kvs (Sum.inl (q : Int)) = if b ≤ q ∧ q < b + i then some (.int (startOf c b q : Nat)) else none)
    ⟨none, [], by rw [Nat.add_zero, start_self]; rfl, e0, hD0, Nat.le_refl _, fun q => by rw [valV_nil, if_neg (by omega)]⟩ (fun _ _ _ _ _ => trivial) ?_ ?_
  · rintro i x σ H1 H2 hi ⟨v7, kvs, rfl, e1, hD, hl, hv⟩ ⟨rfl, rfl⟩
    refine ⟨_, rfl, _, rfl, _, rfl, aD, _, rfl, DPut.k (k := Sum.inl ((b + i : Nat) : Int)) hD (Nat.lt_of_le_of_lt (by omega : kvs.length ≤ 1000) (by decide)), ?_⟩
    have e2 := Same.mut (o := .dK (putK kvs (Sum.inl ((b + i : Nat) : Int)) (.int (startOf c b (b + i) : Nat)))) e1 nD
    obtain ⟨s1, us1, rfl, g1, g2⟩ := rhN.at (immT immN _ _ _ _ (Keep.of e2) hS) (i := b + i) (by omega)
    refine ⟨_, rfl, _, rfl, _, rfl, s1, us1, _, _, rfl, rfl, g1, g2, _, _, rfl, rfl, some (.int ((b + i : Nat) : Int)), _, ?_, e2, upd_same, Nat.le_trans (length_putK _ _ _) (by omega), fun q => ?_⟩
    · rw [← Nat.add_assoc, start_succ (Nat.le_add_right b i), Int.natCast_add]
      rfl
    · rw [valV_put]
      by_cases z : q = b + i
      · rw [z, if_pos rfl, if_pos ⟨by omega, by omega⟩]
      · rw [if_neg (by intro z2; have := Sum.inl.inj z2; omega), hv]
        by_cases w : b ≤ q ∧ q < b + i
        · rw [if_pos w, if_pos ⟨w.1, by omega⟩]
        · rw [if_neg w, if_neg (by omega)]
  · rintro σ H1 ⟨v7, kvs, rfl, e1, hD1, hl, hv⟩
    rw [hn] at hv ⊢
    have hst : StAll c b e kvs := fun q => by
      rw [hv]
      by_cases w : b ≤ q ∧ q ≤ e
      · rw [if_pos w, if_pos ⟨w.1, by omega⟩]
      · rw [if_neg w, if_neg (by omega)]
    have eW : startOf c b (b + (e + 1 - b)) = widthOf c b e := by
      unfold widthOf
      rw [show b + (e + 1 - b) = e + 1 by omega]
    rw [eW]
    -- asked, lost
    refine ⟨Nat.zero_le _, fun aA nA => ⟨Nat.zero_le _, fun aB nB => ⟨_, _, rfl, ?_⟩⟩⟩
    have nAB : aA ≠ aB := fun z => by rw [← z, upd_same] at nB; cases nB
    have nB1 : H1 aB = none := by rw [upd_ne (Ne.symm nAB)] at nB; exact nB
    have nA0 := Same.free e1 nA
    have nB0 := Same.free e1 nB1
    have nDA : aD ≠ aA := fun z => by rw [z, nA] at hD1; cases hD1
    have nDB : aD ≠ aB := fun z => by rw [z, nB1] at hD1; cases hD1
    have iv0 : LrIv c b e kvs aD aA aB H (wAsk c b e 0) (wLost c b e 0) [] [] (upd (upd H1 aA (.lst [])) aB (.lst [])) :=
      ⟨Same.trans e1 (Same.trans (Same.upd nA) (Same.upd nB)), by rw [upd_ne nDB, upd_ne nDA]; exact hD1, by rw [upd_ne nAB, upd_same], upd_same, .nil, .nil⟩
    generalize upd (upd H1 aA (.lst [])) aB (.lst []) = H2 at iv0 ⊢
    have hc2 := immPic _ _ _ _ (Keep.of iv0.e) hc
    refine ⟨_, rfl, ?_⟩
    refine fd_web hc2 fun vw hw => ?_
    refine fd_arrows hw fun va hva => ?_
    obtain ⟨aAr, xs, rfl, hAr, pAr⟩ := hva
    refine ⟨_, rfl, ?_⟩
    refine fd_tables hc2 fun vt hvt => ?_
    obtain ⟨aT, ts, rfl, hT, pT⟩ := hvt
    have lAr : xs.length = c.arrows.length := Paired.len pAr
    have lT := Paired.len pT
    refine ⟨aAr, aT, xs, ts, rfl, .inr ⟨hAr, hT, ?_⟩⟩
    refine for_it (wk_zipT (n := xs.length) (xs := xs) (ys := ts) rfl (by show xs.length = ts.length; omega)) (fun i σ H' => ∃ (za zb : List V) (v7 v10 v11 v12 v13 v14 v15 v16 : Option V), σ = [some v, some (.int b), some (.int e), some (.int p), some vS, some (.ref aD), some (.int (widthOf c b e : Nat)), v7, some (.ref aA), some (.ref aB), v10, v11, v12, v13, v14, v15, v16, none, none] ∧ LrIv c b e kvs aD aA aB H (wAsk c b e i) (wLost c b e i) za zb H' ∧ Keep H2 H')
      ⟨[], [], _, none, none, none, none, none, none, none, rfl, iv0, Keep.refl _⟩ (fun i σ H' _ ⟨_, _, _, _, _, _, _, _, _, _, _, _, k⟩ => ⟨Keep.tup k hAr, Keep.tup k hT⟩) ?_ ?_
    · rintro i x σ H3 H4 hi ⟨za, zb, v7, v10, v11, v12, v13, v14, v15, v16, rfl, iv, k3⟩ ⟨t5, y1, y2, rfl, nt, rfl, g1, g2⟩
      obtain ⟨ar, har, hpr⟩ := Paired.at pAr g1
      obtain ⟨tb, htb, htb2⟩ := Paired.at pT g2
      have har : c.arrows[i]? = some ar := har
      have e34 : Same H3 (upd H3 t5 (.tup [y1, y2])) := Same.upd nt
      have iv4 := iv.same e34
      have k4 := k3.trans (Keep.of e34)
      have hT5 : SqT K (upd H3 t5 (.tup [y1, y2])) t5 [y1, y2] := SqT.of upd_same
      obtain ⟨aP, rfl, hP⟩ := immPr _ _ _ _ k4 hpr
      have htb4 := immTab _ _ _ _ k4 htb2
      generalize upd H3 t5 (.tup [.ref aP, y2]) = H4 at iv4 k4 hT5 hP htb4 ⊢
      refine ⟨t5, _, rfl, hT5, rfl, _, _, rfl, ⟨aP, _, rfl, hP, rfl, _, _, rfl, _, _, rfl, rfl, _, _, rfl, rfl, ?_⟩⟩
      have hk : i < c.arrows.length := by omega
      have ga := arr_get hk
      have ear : ar = arrAt c i := by rw [har] at ga; exact Option.some.inj ga
      have gt := tab_get (c := c) (k := i) (by omega)
      have etb : tb = tabAt c i := by rw [htb] at gt; exact Option.some.inj gt
      subst ear etb
      have lt := ok.li.lt ga
      have lm2 := ok.li.mem ga
      obtain ⟨_, q1, q2, q3⟩ := ok.fit i _ _ ga gt
      have s1le := szAt_le ok (arrAt c i).1
      have s2le := szAt_le ok (arrAt c i).2
      have st1 := hst (arrAt c i).1
      have st2 := hst (arrAt c i).2
      have dg1 : ∀ {H'}, H' aD = some (.dK kvs) → DGet H' aD (.int ((arrAt c i).1 : Nat)) (valV kvs (Sum.inl ((arrAt c i).1 : Int))) := fun h => DGet.k (k := Sum.inl ((arrAt c i).1 : Int)) h
      have dg2 : ∀ {H'}, H' aD = some (.dK kvs) → DGet H' aD (.int ((arrAt c i).2 : Nat)) (valV kvs (Sum.inl ((arrAt c i).2 : Int))) := fun h => DGet.k (k := Sum.inl ((arrAt c i).2 : Int)) h
      refine ⟨_, rfl, _, rfl, aD, _, rfl, dg1 iv4.hD, _, rfl, ?_⟩
      have out : ¬ (b ≤ i ∧ i + 1 ≤ e) → ∀ σ', (∃ (v7 v10 v11 v12 v13 v14 v15 v16 : Option V), σ' = [some v, some (.int b), some (.int e), some (.int p), some vS, some (.ref aD), some (.int (widthOf c b e : Nat)), v7, some (.ref aA), some (.ref aB), v10, v11, v12, v13, v14, v15, v16, none, none]) →
          ∃ (za zb : List V) (v7 v10 v11 v12 v13 v14 v15 v16 : Option V), σ' = [some v, some (.int b), some (.int e), some (.int p), some vS, some (.ref aD), some (.int (widthOf c b e : Nat)), v7, some (.ref aA), some (.ref aB), v10, v11, v12, v13, v14, v15, v16, none, none] ∧ LrIv c b e kvs aD aA aB H (wAsk c b e (i + 1)) (wLost c b e (i + 1)) za zb H4 ∧ Keep H2 H4 := by
        rintro no σ' ⟨w7, w10, w11, w12, w13, w14, w15, w16, rfl⟩
        have e1 : inStr b e i = false := by
          unfold inStr
          by_cases z : b ≤ i
          · rw [decide_eq_false (fun h => no ⟨z, h⟩ : ¬ i + 1 ≤ e), Bool.and_false]
          · rw [decide_eq_false z, Bool.false_and]
        refine ⟨za, zb, _, _, _, _, _, _, _, _, rfl, ?_, k4⟩
        rw [wAsk_succ, wLost_succ, e1, if_neg (by decide), if_neg (by decide), List.append_nil, List.append_nil]
        exact iv4
      by_cases in1 : b ≤ (arrAt c i).1 ∧ (arrAt c i).1 ≤ e
      · rw [if_pos in1] at st1
        rw [st1]
        refine ite_t ⟨_, rfl, _, rfl, aD, _, rfl, dg2 iv4.hD, _, rfl, ?_⟩
        by_cases in2 : b ≤ (arrAt c i).2 ∧ (arrAt c i).2 ≤ e
        · rw [if_pos in2] at st2
          rw [st2]
          have inS : inStr b e i = true := by
            unfold inStr
            rw [decide_eq_true (by omega : b ≤ i), decide_eq_true (by omega : i + 1 ≤ e)]
            rfl
          have dgo1 : ∀ {H'}, H' aD = some (.dK kvs) → DGet H' aD (.int ((arrAt c i).1 : Nat)) (some (.int (startOf c b (arrAt c i).1 : Nat))) := fun h => by rw [← st1]; exact dg1 h
          have dgo2 : ∀ {H'}, H' aD = some (.dK kvs) → DGet H' aD (.int ((arrAt c i).2 : Nat)) (some (.int (startOf c b (arrAt c i).2 : Nat))) := fun h => by rw [← st2]; exact dg2 h
          have ri1 := start_in (c := c) (b := b) (e := e) (q := (arrAt c i).1) in1.1 in1.2
          have ri2 := start_in (c := c) (b := b) (e := e) (q := (arrAt c i).2) in2.1 in2.2
          have lz := Paired.len iv4.pA
          have lz2 := Paired.len iv4.pB
          have lwA := wAsk_len ok b e i (by omega)
          have lwB := wLost_len ok b e i
          refine ite_t ⟨_, rfl, ?_⟩
          refine fd_rows htb4 fun vr hvr => ?_
          obtain ⟨aM, rs, rfl, hM, pM⟩ := hvr
          have lM := Paired.len pM
          refine ⟨aM, rs, rfl, hM, ?_⟩
          refine for_it (wk_enumT (xs := rs)) (fun m σ H' => ∃ (za : List V) (v13 v14 v15 : Option V), σ = [some v, some (.int b), some (.int e), some (.int p), some vS, some (.ref aD), some (.int (widthOf c b e : Nat)), v7, some (.ref aA), some (.ref aB), some (.int ((arrAt c i).1 : Nat)), some (.int ((arrAt c i).2 : Nat)), some y2, v13, v14, v15, v16, none, none] ∧
              LrIv c b e kvs aD aA aB H (wAsk c b e i ++ ((tabAt c i).rows.take m).mapIdx fun m row => wAskRow c b e i m row) (wLost c b e i) za zb H' ∧ Keep H4 H')
            ⟨za, _, _, _, rfl, by simpa using iv4, Keep.refl _⟩ (fun _ _ _ _ ⟨_, _, _, _, _, _, k⟩ => Keep.tup k hM) ?_ ?_
          · rintro m y σ H5 H6 hm ⟨za5, w13, w14, w15, rfl, iv5, k5⟩ ⟨t7, z7, rfl, nt7, rfl, hz7⟩
            obtain ⟨r, hr1, hr2⟩ := Paired.at pM hz7
            obtain ⟨okl, okr⟩ := q3 r (List.mem_of_getElem? hr1)
            refine g_pair upd_same ?_
            have s6 : Same H5 (upd H5 t7 (.tup [.int (m : Nat), z7])) := Same.upd nt7
            have iv6 := iv5.same s6
            have k6 := k5.trans (Keep.of s6)
            have hr6 := immRow _ _ _ _ k6 hr2
            generalize upd H5 t7 (.tup [.int (m : Nat), z7]) = H6 at iv6 k6 hr6 ⊢
            obtain ⟨aZ, rfl, hZ⟩ := hr6.ex
            refine new_nils (n := widthOf c b e) (by omega) (fun aR H7 s7 nR hR => ?_) rfl
            have hZ7 := Same.tup s7 hZ
            -- wish[..] = list(row)
            refine ⟨_, rfl, aZ, _, rfl, .inr hZ7, fun aL nL => ?_⟩
            have nRL : aR ≠ aL := fun z => by rw [z, nL] at hR; cases hR
            have s8 := Same.trans s7 (Same.upd (o := .lst (r.map V.int)) nL)
            have hR8 := (Same.upd (o := .lst (r.map V.int)) nL) _ _ hR
            have hL8 : upd H7 aL (.lst (r.map V.int)) aL = some (.lst (r.map V.int)) := upd_same
            generalize upd H7 aL (.lst (r.map V.int)) = H8 at s8 hR8 hL8 ⊢
            have hD8 := s8 _ _ iv6.hD
            obtain ⟨s1, us1, rfl, j1, j2⟩ := rhN.at (immT immN _ _ _ _ (Keep.of (Same.trans iv6.e s8)) hS) (i := (arrAt c i).1) (by omega)
            refine ⟨_, rfl, _, rfl, _, rfl, aD, _, rfl, dgo1 hD8, _, rfl, _, rfl, aD, _, rfl, dgo1 hD8, _, rfl, _, rfl, s1, us1, _, _, rfl, rfl, j1, j2, _, _, rfl, rfl, ?_⟩
            refine ⟨aR, aL, _, _, startOf c b (arrAt c i).1, startOf c b (arrAt c i).1 + r.length, rfl, rfl, rfl, ?_, hR8, hL8, nRL, by omega, by simp [nils]; omega, by simp [nils]; omega, ?_⟩
            · show V.int _ = V.int _
              congr 1
              rw [okl, q1]
              rfl
            have erow : ((nils (widthOf c b e)).map V.int).take (startOf c b (arrAt c i).1) ++ r.map V.int ++ ((nils (widthOf c b e)).map V.int).drop (startOf c b (arrAt c i).1 + r.length) = (putAt (nils (widthOf c b e)) (startOf c b (arrAt c i).1) r).map V.int := by
              unfold putAt
              rw [List.map_append, List.map_append, List.map_take, List.map_drop]
            rw [erow]
            have lp : (putAt (nils (widthOf c b e)) (startOf c b (arrAt c i).1) r).length = widthOf c b e := by rw [putAt_len] <;> simp [nils]; omega
            have s9 : Same H6 (upd H8 aR (.lst ((putAt (nils (widthOf c b e)) (startOf c b (arrAt c i).1) r).map V.int))) := Same.mut s8 nR
            have hR9 : upd H8 aR (.lst ((putAt (nils (widthOf c b e)) (startOf c b (arrAt c i).1) r).map V.int)) aR = some (.lst ((putAt (nils (widthOf c b e)) (startOf c b (arrAt c i).1) r).map V.int)) := upd_same
            generalize upd H8 aR (.lst ((putAt (nils (widthOf c b e)) (startOf c b (arrAt c i).1) r).map V.int)) = H9 at s9 hR9 ⊢
            -- wish[at[b] + number] = -1
            refine ⟨_, rfl, _, rfl, _, rfl, _, rfl, aD, _, rfl, dgo2 (s9 _ _ iv6.hD), _, rfl, _, _, rfl, rfl, aR, _, _, startOf c b (arrAt c i).2 + m, rfl, rfl, hR9, ?_, ?_⟩
            · rw [← Int.natCast_add]
              exact ixSet (by rw [List.length_map, lp]; omega)
            have hRa : upd H9 aR (.lst (((putAt (nils (widthOf c b e)) (startOf c b (arrAt c i).1) r).map V.int).set (startOf c b (arrAt c i).2 + m) (.int (-1)))) aR = some (.lst ((wAskRow c b e i m r).map V.int)) := by
              rw [upd_same]
              unfold wAskRow
              rw [List.map_set]
            have sa : Same H6 (upd H9 aR (.lst (((putAt (nils (widthOf c b e)) (startOf c b (arrAt c i).1) r).map V.int).set (startOf c b (arrAt c i).2 + m) (.int (-1))))) := Same.mut s9 nR
            generalize upd H9 aR (.lst (((putAt (nils (widthOf c b e)) (startOf c b (arrAt c i).1) r).map V.int).set (startOf c b (arrAt c i).2 + m) (.int (-1)))) = Ha at hRa sa ⊢
            have hAa := (iv6.same sa).hA
            have lz5 := Paired.len iv5.pA
            rw [List.length_append, List.length_mapIdx, List.length_take] at lz5
            refine ⟨_, rfl, .inl ⟨rfl, _, SqL.of hAa⟩, _, rfl, aA, za5, .ref aR, rfl, rfl, hAa, Nat.lt_of_le_of_lt (by omega : za5.length ≤ 1000) (by decide), za5 ++ [.ref aR], _, _, _, rfl, ?_, (k6.trans (Keep.of sa)).trans (Keep.putL (Keep.refl _) hAa)⟩
            have i9 := iv6.ask nA0 sa nR hRa nAB nDA
            rw [List.append_assoc, ← mapIdx_take hr1] at i9
            exact i9
          · rintro σ H5 ⟨za5, w13, w14, w15, rfl, iv5, k5⟩
            rw [lM, List.take_length] at iv5
            -- lost
            obtain ⟨s1, us1, evS, j1, j2⟩ := rhN.at (immT immN _ _ _ _ (Keep.of iv5.e) hS) (i := (arrAt c i).1) (by omega)
            refine ⟨_, rfl, _, rfl, s1, us1, _, _, evS, rfl, j1, j2, (szAt c (arrAt c i).1 : Nat), rfl, by omega, by omega, ?_⟩
            rw [Int.toNat_natCast]
            refine for_it (wk_rng (n := szAt c (arrAt c i).1)) (fun m σ H' => ∃ (zb : List V) (v7 v14 v16 : Option V), σ = [some v, some (.int b), some (.int e), some (.int p), some vS, some (.ref aD), some (.int (widthOf c b e : Nat)), v7, some (.ref aA), some (.ref aB), some (.int ((arrAt c i).1 : Nat)), some (.int ((arrAt c i).2 : Nat)), some y2, w13, v14, w15, v16, none, none] ∧
                LrIv c b e kvs aD aA aB H (wAsk c b e i ++ (tabAt c i).rows.mapIdx fun m row => wAskRow c b e i m row) (wLost c b e i ++ (List.range m).map (wLostRow c b e i)) za5 zb H' ∧ Keep H4 H')
              ⟨zb, _, _, _, rfl, by simpa using iv5, k5⟩ (fun _ _ _ _ _ => trivial) ?_ ?_
            · rintro m y σ Hx H6 hm ⟨zb6, w7, w14b, w16, rfl, iv6, k6⟩ ⟨rfl, rfl⟩
              refine new_nils (n := widthOf c b e) (by omega) (fun aR H7 s7 nR hR => ?_) rfl
              -- loose[at[a] + place] = 1
              refine ⟨_, rfl, _, rfl, _, rfl, aD, _, rfl, dgo1 (s7 _ _ iv6.hD), _, rfl, _, _, rfl, rfl, aR, _, _, startOf c b (arrAt c i).1 + m, rfl, rfl, hR, ?_, ?_⟩
              · rw [← Int.natCast_add]
                exact ixSet (by simp [nils]; omega)
              have s8 : Same H6 (upd H7 aR (.lst (((nils (widthOf c b e)).map V.int).set (startOf c b (arrAt c i).1 + m) (.int 1)))) := Same.mut s7 nR
              have hR8 : upd H7 aR (.lst (((nils (widthOf c b e)).map V.int).set (startOf c b (arrAt c i).1 + m) (.int 1))) aR = some (.lst (((nils (widthOf c b e)).set (startOf c b (arrAt c i).1 + m) 1).map V.int)) := by
                rw [upd_same, List.map_set]
              generalize upd H7 aR (.lst (((nils (widthOf c b e)).map V.int).set (startOf c b (arrAt c i).1 + m) (.int 1))) = H8 at s8 hR8 ⊢
              have htb8 := immTab _ _ _ _ (k6.trans (Keep.of s8)) htb4
              refine ⟨_, rfl, ?_⟩
              refine fd_rows htb8 fun vr hvr => ?_
              obtain ⟨aM2, rs2, rfl, hM2, pM2⟩ := hvr
              have lM2 := Paired.len pM2
              refine ⟨aM2, rfl, ⟨_, hM2⟩, fun aL nL => ?_⟩
              refine lc_all (r := rhI) (walk_tup (xs := rs2)) ((tabAt c i).rows.map fun r => -(r.getD m 0)) (by simp [lM2]) (by omega) immI nL (fun H' e => Same.tup e hM2) ?_ ?_
              · rintro j x d H9 Ha Q2 hd e9 ⟨rfl, hx⟩ k2
                obtain ⟨r, hr1, hr2⟩ := Paired.at pM2 hx
                obtain ⟨okl, okr⟩ := q3 r (List.mem_of_getElem? hr1)
                obtain ⟨aZ, rfl, hZ⟩ := (immRow _ _ _ _ (Keep.of e9) hr2).ex
                refine ⟨rfl, _, rfl, _, rfl, aZ, _, _, _, rfl, rfl, hZ, atI_nat (row_at (by omega)), _, rfl, k2 _ _ (Same.refl _) ?_⟩
                rw [List.getElem?_map, hr1] at hd
                rw [← Option.some.inj hd]
                rfl
              · intro H9 us e9 j3 j4
                rw [ints_of j4] at j3
                have nRL : aR ≠ aL := fun z => by rw [z, nL] at hR8; cases hR8
                have s9 := Same.trans s8 e9
                have hR9 := e9 _ _ hR8
                have hD9 := s9 _ _ iv6.hD
                obtain ⟨s2, us2, evS2, j5, j6⟩ := rhN.at (immT immN _ _ _ _ (Keep.of (Same.trans iv6.e s9)) hS) (i := (arrAt c i).2) (by omega)
                refine ⟨_, rfl, _, rfl, _, rfl, aD, _, rfl, dgo2 hD9, _, rfl, _, rfl, aD, _, rfl, dgo2 hD9, _, rfl, _, rfl, s2, us2, _, _, evS2, rfl, j5, j6, _, _, rfl, rfl, ?_⟩
                refine ⟨aR, aL, _, _, startOf c b (arrAt c i).2, startOf c b (arrAt c i).2 + ((tabAt c i).rows.map fun r => -(r.getD m 0)).length, rfl, rfl, rfl, ?_, hR9, j3, nRL, by omega, by simp [nils]; omega, by simp [nils]; omega, ?_⟩
                · show V.int _ = V.int _
                  congr 1
                  rw [List.length_map, q2]
                  rfl
                have erow : (((nils (widthOf c b e)).set (startOf c b (arrAt c i).1 + m) 1).map V.int).take (startOf c b (arrAt c i).2) ++ ((tabAt c i).rows.map fun r => -(r.getD m 0)).map V.int ++ (((nils (widthOf c b e)).set (startOf c b (arrAt c i).1 + m) 1).map V.int).drop (startOf c b (arrAt c i).2 + ((tabAt c i).rows.map fun r => -(r.getD m 0)).length) = (wLostRow c b e i m).map V.int := by
                  unfold wLostRow putAt
                  rw [List.map_append, List.map_append, List.map_take, List.map_drop]
                rw [erow]
                have sa : Same H6 (upd H9 aR (.lst ((wLostRow c b e i m).map V.int))) := Same.mut s9 nR
                have hRa : upd H9 aR (.lst ((wLostRow c b e i m).map V.int)) aR = some (.lst ((wLostRow c b e i m).map V.int)) := upd_same
                generalize upd H9 aR (.lst ((wLostRow c b e i m).map V.int)) = Ha at sa hRa ⊢
                have hBa := (iv6.same sa).hB
                have lz6 := Paired.len iv6.pB
                rw [List.length_append, List.length_map, List.length_range] at lz6
                refine ⟨_, rfl, .inl ⟨rfl, _, SqL.of hBa⟩, _, rfl, aB, zb6, .ref aR, rfl, rfl, hBa, Nat.lt_of_le_of_lt (by omega : zb6.length ≤ 1000) (by decide), zb6 ++ [.ref aR], _, _, _, rfl, ?_, (k6.trans (Keep.of sa)).trans (Keep.putL (Keep.refl _) hBa)⟩
                have i9 := iv6.lost nB0 sa nR hRa nAB nDB
                rw [List.append_assoc] at i9
                rw [List.range_succ, List.map_append]
                exact i9
            · rintro σ H6 ⟨zb6, w7, w14b, w16, rfl, iv6, k6⟩
              refine ⟨za5, zb6, _, _, _, _, _, _, _, _, rfl, ?_, k4.trans k6⟩
              rw [wAsk_succ, wLost_succ, inS, if_pos rfl, if_pos rfl]
              exact iv6
        · rw [if_neg in2] at st2
          rw [st2]
          exact ite_f (out (by omega) _ ⟨_, _, _, _, _, _, _, _, rfl⟩)
      · rw [if_neg in1] at st1
        rw [st1]
        exact ite_f (ite_f (out (by omega) _ ⟨_, _, _, _, _, _, _, _, rfl⟩))
    · rintro σ H3 ⟨za, zb, v7, v10, v11, v12, v13, v14, v15, v16, rfl, iv, k3⟩
      have eA := ask_eq (p := p) (by omega) ok hbe he (n := xs.length) (by omega)
      have eL := lost_eq (p := p) (by omega) ok hbe he (n := xs.length) (by omega)
      have wA := mod_len eA okA
      have wL := mod_len eL okL
      have lwA := wAsk_len ok b e xs.length (by omega)
      have lwB := wLost_len ok b e xs.length
      generalize wAsk c b e xs.length = asks at iv eA wA lwA
      generalize wLost c b e xs.length = losts at iv eL wL lwB
      have lza := Paired.len iv.pA
      have lzb := Paired.len iv.pB
      have lx7 : xs.length ≤ 7 := by omega
      -- kept
      refine ⟨Nat.zero_le _, fun aK nK => ?_⟩
      have nK0 := Same.free iv.e nK
      have s4 := Same.upd (o := .lst []) nK
      have iv4 := iv.same s4
      have hK4 : upd H3 aK (.lst []) aK = some (.lst []) := upd_same
      have pA4 := psame s4 (padc iv.pA nK)
      have pB4 := psame s4 (padc iv.pB nK)
      have nKA : aK ≠ aA := fun z => by rw [z, iv.hA] at nK; cases nK
      have nKB : aK ≠ aB := fun z => by rw [z, iv.hB] at nK; cases nK
      generalize upd H3 aK (.lst []) = H4 at s4 iv4 hK4 pA4 pB4 ⊢
      have mt : ∀ Q' : VK, (∀ l ys H', Same H4 H' → H4 l = none → H' l = some (.lst ys) → Paired (rhA [] H') ys (meetingRows p c b e) → Q' (.ref l) H') →
          (tIf (tTest (tOp rGtI (tVar 6) (tC (.int 0)))) (tCall (sp_law_lost_columns K) [] E0 (tCons (tVar 3) (tCons (tVar 8) (tCons (tVar 6) tNil)))) (tLst tNil))
            [some v, some (.int b), some (.int e), some (.int p), some vS, some (.ref aD), some (.int (widthOf c b e : Nat)), v7, some (.ref aA), some (.ref aB), v10, v11, v12, v13, v14, v15, v16, some (.ref aK), none] H4 Q' := by
        intro Q' hq
        refine ⟨_, rfl, _, _, rfl, rfl, _, rfl, ?_⟩
        by_cases z : (0 : Int) < (widthOf c b e : Nat)
        · refine ifd_t z ⟨_, rfl, _, rfl, _, rfl, p, widthOf c b e, aA, za, asks, rfl, hp, iv4.hA, pnil iv4.pA, wA, by omega, by omega, fun l ys H5 e5 nl hl pl => hq l ys H5 e5 nl hl ?_⟩
          rw [eA] at pl
          exact pl
        · refine ifd_f z ⟨Nat.zero_le _, fun l nl => hq l [] _ (Same.upd nl) nl upd_same ?_⟩
          have ez : widthOf c b e = 0 := by omega
          unfold meetingRows kernelR
          rw [ez]
          exact .nil
      refine mt _ fun aM ms H5 e5 nM hM pM => ⟨aM, rfl, ⟨_, SqL.of hM⟩, ?_⟩
      have lM := Paired.len pM
      have iv5 := iv4.same e5
      have hK5 := e5 _ _ hK4
      have nMK : aM ≠ aK := fun z => by rw [z, hK4] at nM; cases nM
      have hrow : ∀ (i : Nat) x, ms[i]? = some x → ∃ r a, (meetingRows p c b e)[i]? = some r ∧ x = .ref a ∧ a ≠ aK ∧ H5 a = some (.lst (r.map V.int)) := by
        intro i x hx
        obtain ⟨r, hr, a, rfl, _, ha⟩ := Paired.at pM hx
        refine ⟨r, a, hr, rfl, fun z => ?_, ha⟩
        rw [z, hK5] at ha
        have er : r = [] := by
          cases r with
          | nil => rfl
          | cons x r => cases ha
        have lr := (okM.1 r (List.mem_of_getElem? hr)).1
        rw [er, List.length_nil] at lr
        have em : meetingRows p c b e = [] := by
          unfold meetingRows kernelR
          rw [← lr]
          rfl
        rw [em] at hr
        cases hr
      have lkp : (keptRows p c b e).length = (meetingRows p c b e).length := by simp [keptRows]
      refine for_it (walk_list (xs := ms)) (fun i σ H' => ∃ (zk : List V) (v18 : Option V), σ = [some v, some (.int b), some (.int e), some (.int p), some vS, some (.ref aD), some (.int (widthOf c b e : Nat)), v7, some (.ref aA), some (.ref aB), v10, v11, v12, v13, v14, v15, v16, some (.ref aK), v18] ∧
          Same H H' ∧ But aK H5 H' ∧ H' aK = some (.lst zk) ∧ Paired (rhA [aK] H') zk ((keptRows p c b e).take i))
        ⟨[], none, rfl, iv5.e, But.refl _ _, hK5, .nil⟩ (fun i σ H' _ ⟨_, _, _, _, b5, _, _⟩ => SqL.of (b5 _ _ nMK hM)) ?_ ?_
      · rintro i x σ Hx H6 hi ⟨zk, v18, rfl, e6, b6, hK6, pK6⟩ ⟨rfl, hx⟩
        obtain ⟨r, a, hr, rfl, na, ha⟩ := hrow i x hx
        have hrl := okM.1 r (List.mem_of_getElem? hr)
        have ha6 := b6 _ _ na ha
        have lz := Paired.len pK6
        rw [List.length_take] at lz
        obtain ⟨s1, us1, rfl, j1, j2⟩ := rhN.at (immT immN _ _ _ _ (Keep.of e6) hS) (i := b) (by omega)
        refine ⟨_, rfl, .inl ⟨rfl, _, SqL.of hK6⟩, _, rfl, _, rfl, _, rfl, s1, us1, _, _, rfl, rfl, j1, j2, _, rfl, ?_⟩
        refine ⟨a, _, rfl, SqL.of ha6, fun l1 n1 => ?_⟩
        rw [cut_toL (by rw [List.length_map, hrl.1]; unfold szAt at st0; omega)]
        have s7 := Same.upd (o := .lst ((r.map V.int).take (c.sizes.getD b 0))) n1
        have h17 : upd H6 l1 (.lst ((r.map V.int).take (c.sizes.getD b 0))) l1 = some (.lst ((r.take (szAt c b)).map V.int)) := by
          rw [upd_same, List.map_take]
          rfl
        generalize upd H6 l1 (.lst ((r.map V.int).take (c.sizes.getD b 0))) = H7 at s7 h17 ⊢
        refine ⟨(by show 1 ≤ sizeLine; decide), fun l0 n0 => ?_⟩
        have s8 := Same.trans s7 (Same.upd (o := .lst [.int 0]) n0)
        have h18 := (Same.upd (o := .lst [.int 0]) n0) _ _ h17
        have h08 : upd H7 l0 (.lst [.int 0]) l0 = some (.lst [.int 0]) := upd_same
        generalize upd H7 l0 (.lst [.int 0]) = H8 at s8 h18 h08 ⊢
        obtain ⟨s2, us2, ev2, j3, j4⟩ := rhN.at (immT immN _ _ _ _ (Keep.of (Same.trans e6 s8)) hS) (i := b) (by omega)
        refine ⟨_, rfl, _, rfl, _, rfl, s2, us2, _, _, ev2, rfl, j3, j4, _, _, rfl, rfl, ?_⟩
        have esub : ((widthOf c b e : Nat) : Int) - ((c.sizes.getD b 0 : Nat) : Int) = ((widthOf c b e - szAt c b : Nat) : Int) := by unfold szAt at st0 ⊢; omega
        refine ⟨l0, _, [.int 0], rfl, rfl, h08, ?_, ?_, ?_, fun l2 n2 => ?_⟩
        · omega
        · omega
        · rw [esub, Int.toNat_natCast]
          exact Nat.le_trans (by show 1 * (widthOf c b e - szAt c b) ≤ 1000; omega) (by decide)
        rw [esub, Int.toNat_natCast, rep1]
        have s9 := Same.trans s8 (Same.upd (o := .lst (List.replicate (widthOf c b e - szAt c b) (V.int 0))) n2)
        have h19 := (Same.upd (o := .lst (List.replicate (widthOf c b e - szAt c b) (V.int 0))) n2) _ _ h18
        refine ⟨l1, l2, _, _, rfl, rfl, h19, upd_same, Nat.le_trans (by rw [List.length_map, List.length_take, hrl.1, List.length_replicate]; omega : _ ≤ 1000) (by decide), fun l3 n3 => ?_⟩
        have s10 := Same.trans s9 (Same.upd (o := .lst ((r.take (szAt c b)).map V.int ++ List.replicate (widthOf c b e - szAt c b) (V.int 0))) n3)
        have hK10 := s10 _ _ hK6
        have n3K : l3 ≠ aK := fun z => by rw [z, s9 _ _ hK6] at n3; cases n3
        have ekr : (keptRows p c b e)[i]? = some (r.take (szAt c b) ++ nils (widthOf c b e - szAt c b)) := by
          unfold keptRows
          rw [List.getElem?_map, hr]
          rfl
        refine ⟨aK, zk, .ref l3, rfl, rfl, hK10, Nat.lt_of_le_of_lt (by omega : zk.length ≤ 1000) (by decide), zk ++ [.ref l3], _, rfl, Same.mut (Same.trans e6 s10) nK0, ?_, upd_same, ?_⟩
        · intro x o ne hxo
          rw [upd_ne ne]
          exact s10 _ _ (b6 _ _ ne hxo)
        · rw [List.take_add_one, ekr]
          refine Paired.app (pupd (by simp) (psame s10 pK6)) (.cons ⟨l3, rfl, by simp; exact n3K, ?_⟩ .nil)
          rw [upd_ne n3K, upd_same, List.map_append]
          unfold nils
          rw [List.map_replicate]
      · rintro σ H6 ⟨zk, v18, rfl, e6, b6, hK6, pK6⟩
        have lK := Paired.len pK6
        rw [lM, ← lkp, List.take_length] at pK6
        have lK := Paired.len pK6
        have nBK : aB ≠ aK := fun z => nKB z.symm
        have hB6 := b6 _ _ nBK iv5.hB
        have pB6 : Paired (rhA [] H6) zb losts := by
          refine Paired.imp (fun x r g => ?_) (psame e5 pB4)
          obtain ⟨c1, c2, c3, c4⟩ := g
          exact ⟨c1, c2, by simp, b6 _ _ (fun z => c3 (by simp [z])) c4⟩
        have lkr : (keptRows p c b e).length ≤ 48 := by rw [lkp]; exact okM.2
        refine ⟨_, rfl, _, rfl, _, rfl, aB, aK, zb, zk, rfl, rfl, hB6, hK6, Nat.le_trans (by omega : zb.length + zk.length ≤ 1000) (by decide), fun aC nC => ?_⟩
        have s7 := Same.upd (o := .lst (zb ++ zk)) nC
        refine ⟨p, widthOf c b e, aC, zb ++ zk, losts ++ keptRows p c b e, rfl, hp, upd_same, Paired.app (psame s7 pB6) (psame s7 (pnil pK6)), fun r hr => ?_, by rw [List.length_append]; omega, by omega, fun l1 ys1 H8 e8 n8 h8 p8 => ?_⟩
        · rcases List.mem_append.mp hr with hr | hr
          · exact wL r hr
          · exact (okK r hr).1
        have l8 := Paired.len p8
        have emod : modM p (losts ++ keptRows p c b e) = lostRows p c b e ++ keptRows p c b e := by
          rw [show modM p (losts ++ keptRows p c b e) = modM p losts ++ modM p (keptRows p c b e) from List.map_append, eL, modM_id okK]
        rw [emod] at l8
        have s78 := Same.trans s7 e8
        refine ⟨l1, ys1, rfl, .inl (SqL.of h8), _, rfl, _, rfl, p, widthOf c b e, aB, zb, losts, rfl, hp, s78 _ _ hB6, psame s78 pB6, wL, by omega, by omega, fun l2 ys2 H9 e9 n9 h9 p9 => ?_⟩
        have l9 := Paired.len p9
        rw [eL] at l9
        refine ⟨l2, ys2, rfl, .inl (SqL.of h9), _, _, rfl, rfl, ?_⟩
        rw [l8, l9]
        exact q _ (Same.trans e6 (Same.trans s78 e9))
end
/-- lexicographic order of stretches -/
def lexLt (a b : Nat × Nat) : Prop := a.1 < b.1 ∨ (a.1 = b.1 ∧ a.2 < b.2)
theorem strTo_lex (n : Nat) : ∀ i, (strTo n i).Pairwise lexLt ∧ ∀ s ∈ strTo n i, s.1 < i
  | 0 => ⟨.nil, fun _ h => nomatch h⟩
  | i + 1 => by
    obtain ⟨h1, h2⟩ := strTo_lex n i
    rw [strTo_succ]
    refine ⟨List.pairwise_append.mpr ⟨h1, ?_, fun a ha b hb => ?_⟩, fun s hs => ?_⟩
    · rw [List.pairwise_map]
      exact List.Pairwise.imp (fun {a b} h => .inr ⟨rfl, by show i + a < i + b; omega⟩) List.pairwise_lt_range
    · obtain ⟨j, _, rfl⟩ := List.mem_map.mp hb
      exact .inl (h2 a ha)
    · rcases List.mem_append.mp hs with hs | hs
      · have := h2 s hs
        omega
      · obtain ⟨j, _, rfl⟩ := List.mem_map.mp hs
        show i < i + 1
        omega
theorem stretches_lex (n : Nat) : (stretches n).Pairwise lexLt := (strTo_lex n n).1
def kvsOf (r : Nat → Nat → Int) (ss : List (Nat × Nat)) : List (List Key × V) := ss.map fun s => ([Sum.inl (s.1 : Int), Sum.inl (s.2 : Int)], V.int (r s.1 s.2))
theorem kvsOf_val (r : Nat → Nat → Int) (x y : Int) : ∀ ss : List (Nat × Nat), valV (kvsOf r ss) [Sum.inl x, Sum.inl y] = if 0 ≤ x ∧ 0 ≤ y ∧ (x.toNat, y.toNat) ∈ ss then some (.int (r x.toNat y.toNat)) else none
  | [] => by simp [kvsOf, valV_nil]
  | s :: ss => by
    have ih := kvsOf_val r x y ss
    unfold kvsOf at ih ⊢
    rw [List.map_cons]
    by_cases z : x = (s.1 : Int) ∧ y = (s.2 : Int)
    · obtain ⟨rfl, rfl⟩ := z
      rw [valV_pos rfl, if_pos ⟨by omega, by omega, by simp⟩]
      rfl
    · rw [valV_neg (fun h => ?_), ih]
      · by_cases w : 0 ≤ x ∧ 0 ≤ y ∧ (x.toNat, y.toNat) ∈ ss
        · rw [if_pos w, if_pos ⟨w.1, w.2.1, List.mem_cons_of_mem _ w.2.2⟩]
        · rw [if_neg w, if_neg]
          rintro ⟨h1, h2, h3⟩
          rcases List.mem_cons.mp h3 with h3 | h3
          · apply z
            rw [← h3]
            exact ⟨by show x = ((x.toNat : Nat) : Int); omega, by show y = ((y.toNat : Nat) : Int); omega⟩
          · exact w ⟨h1, h2, h3⟩
      · injection h with h1 h2
        injection h2 with h2 _
        exact z ⟨(Sum.inl.inj h1).symm, (Sum.inl.inj h2).symm⟩
theorem kvsOf_told (r : Nat → Nat → Int) (n : Nat) : ToldAt n r (kvsOf r (stretches n)) := fun x y => by
  rw [kvsOf_val]
  have : (0 ≤ x ∧ 0 ≤ y ∧ (x.toNat, y.toNat) ∈ stretches n) ↔ (0 ≤ x ∧ x ≤ y ∧ y < n) := by
    rw [str_mem_iff]
    omega
  by_cases w : 0 ≤ x ∧ x ≤ y ∧ y < n
  · rw [if_pos w, if_pos (this.mpr w)]
  · rw [if_neg w, if_neg (fun h => w (this.mp h))]
theorem kvsOf_nodup (r : Nat → Nat → Int) (n : Nat) : ((kvsOf r (stretches n)).map (·.1)).Nodup := by
  unfold kvsOf
  rw [List.map_map, List.Nodup, List.pairwise_map]
  refine List.Pairwise.imp (fun {a b} h => ?_) (stretches_lex n)
  intro e
  injection e with h1 h2
  injection h2 with h2 _
  have h1 := Sum.inl.inj h1
  have h2 := Sum.inl.inj h2
  rcases h with h | ⟨h, h'⟩ <;> omega
section
variable {K : PySem.W.Frag} {H : Hp} {Q : VK}
/-- a pair of a stretch and an int -/
def rhPi (r : Nat → Nat → Int) (H : Hp) (v : V) (s : Nat × Nat) : Prop := ∃ t b, v = .ref t ∧ H t = some (.tup [.ref b, .int (r s.1 s.2)]) ∧ H b = some (.tup [.int (s.1 : Nat), .int (s.2 : Nat)])
theorem immPi {r : Nat → Nat → Int} : Imm (rhPi r) := fun _ _ _ _ e ⟨t, b, h, q1, q2⟩ => ⟨t, b, h, e _ _ trivial q1, e _ _ trivial q2⟩
theorem pi_refs {r : Nat → Nat → Int} : ∀ {xs : List V} {ss : List (Nat × Nat)}, Paired (rhPi r H) xs ss → ∃ ps : List Addr, xs = ps.map V.ref ∧ Paired (fun p (kv : List Key × V) => ∃ b, H p = some (.tup [.ref b, kv.2]) ∧ H b = some (.tup (kv.1.map kV))) ps (kvsOf r ss)
  | _, _, .nil => ⟨[], rfl, .nil⟩
  | _, _, .cons ⟨t, b, e, q1, q2⟩ h => by
    obtain ⟨ps, h1, h2⟩ := pi_refs h
    exact ⟨t :: ps, by rw [e, h1]; rfl, .cons ⟨b, q1, q2⟩ h2⟩
def sp_law_bars (K : PySem.W.Frag) : Sp := sp_bars K
theorem pure_law_bars (vs : List V) (H : Hp) (Q : VK) (E : XK) (h : sp_law_bars K vs H Q E) : t_law_bars K (sp_stretches K) (sp_law_reach K) (Ed Q) (start n_law_bars vs) H := by
  obtain ⟨p, v, c, rfl, hp, hc, ok, q⟩ := h
  have lm : c.many ≤ 8 := ok.li.2.1
  have lns := ok.ns
  refine ⟨_, rfl, ?_⟩
  refine fd_sizes hc fun vS hS => ?_
  obtain ⟨aS, us, rfl, hSs, pS⟩ := hS
  have lS := Paired.len pS
  refine ⟨aS, us, rfl, .inr hSs, Nat.zero_le _, fun aF nF => ⟨_, _, rfl, ?_⟩⟩
  rw [show us.length = c.many by omega]
  have e0 := Same.upd (o := .lst []) nF
  have hF0 : upd H aF (.lst []) aF = some (.lst []) := upd_same
  generalize upd H aF (.lst []) = H0 at e0 hF0 ⊢
  have ls := str_len c.many
  have l64 : c.many * c.many ≤ 64 := Nat.le_trans (Nat.mul_le_mul lm lm) (by decide)
  refine ⟨_, rfl, c.many, rfl, lm, fun l xs H1 e1 hl pSt => ?_⟩
  have pSt : Paired (rhSt H1) xs (stretches c.many) := pSt
  have lx := Paired.len pSt
  have e01 := Same.trans e0 e1
  refine ⟨l, rfl, ⟨_, SqL.of hl⟩, fun D nD => ?_⟩
  refine lc_all (r := rhPi (reachOf p c)) (walk_list (xs := xs)) (stretches c.many) lx.symm (by omega) immPi nD (fun H' e => SqL.of (e _ _ hl)) ?_ ?_
  · rintro i x s H2 H3 Q' hs e2 ⟨rfl, hx⟩ k'
    obtain ⟨s2, hs2, t, rfl, ht⟩ := Paired.at pSt hx
    rw [hs] at hs2
    cases hs2
    obtain ⟨m1, m2⟩ := str_mem hs
    have ht2 := e2 _ _ ht
    refine ⟨rfl, _, rfl, _, rfl, _, rfl, t, _, 0, _, rfl, rfl, SqT.of ht2, atI0, _, rfl, t, _, 1, _, rfl, rfl, SqT.of ht2, atI_nat (j := 1) rfl, ?_⟩
    refine ⟨p, v, c, s.1, s.2, rfl, hp, immPic _ _ _ _ (Keep.of (Same.trans e01 e2)) hc, ok, m1, m2, fun H4 e4 => ⟨(by show 2 ≤ sizeLine; decide), fun t5 n5 => k' _ _ (Same.trans e4 (Same.upd n5)) ⟨t5, t, rfl, upd_same, (Same.trans e4 (Same.upd n5)) _ _ ht2⟩⟩⟩
  · intro H2 ys e2 f1 f2
    obtain ⟨ps, rfl, pp⟩ := pi_refs f2
    have lp := Paired.len f2
    rw [List.length_map] at lp
    refine ⟨D, ps, kvsOf (reachOf p c) (stretches c.many), rfl, SqL.of f1, kvsOf_nodup _ _, Nat.lt_of_le_of_lt (by omega : ps.length ≤ 1000) (by decide), pp, fun aD nD2 => ?_⟩
    have e3 := Same.upd (o := .dT (kvsOf (reachOf p c) (stretches c.many))) nD2
    have hT3 : upd H2 aD (.dT (kvsOf (reachOf p c) (stretches c.many))) aD = some (.dT (kvsOf (reachOf p c) (stretches c.many))) := upd_same
    have hT := kvsOf_told (reachOf p c) c.many
    have e23 := Same.trans e2 e3
    generalize upd H2 aD (.dT (kvsOf (reachOf p c) (stretches c.many))) = H3 at e3 hT3 e23 ⊢
    have hF3 := Same.trans e1 e23 _ _ hF0
    generalize kvsOf (reachOf p c) (stretches c.many) = kvs at hT3 hT
    refine ⟨_, rfl, c.many, rfl, lm, fun l2 xs2 H4 e4 hl2 pSt2 => ?_⟩
    have pSt2 : Paired (rhSt H4) xs2 (stretches c.many) := pSt2
    have lx2 := Paired.len pSt2
    refine ⟨l2, rfl, ⟨_, SqL.of hl2⟩, ?_⟩
    have hT4 := e4 _ _ hT3
    have hF4 := e4 _ _ hF3
    have e04 := Same.trans e01 (Same.trans e23 e4)
    have nFD : aF ≠ aD := fun z => by rw [z, hT3] at hF3; cases hF3
    have n2F : l2 ≠ aF ∨ stretches c.many = [] := by
      by_cases z : l2 = aF
      · right
        rw [z, hF4] at hl2
        cases hl2
        cases pSt2' : stretches c.many with
        | nil => rfl
        | cons a b => rw [pSt2'] at lx2; cases lx2
      · exact .inl z
    have lt3 : (tris (reachOf p c) c.many).length = (stretches c.many).length := by simp [tris]
    have fin : ∀ H5 zs, Same H H5 → H5 aF = some (.lst zs) → Paired (rhTri K H5) zs (barsOf (reachOf p c) c.many) → ∀ (v4 v5 v6 v7 : Option V), (tRet (tCB (rTupOf K) (tCons (tVar 2) tNil))) (Ed Q) [some v, some (.int (c.many : Nat)), some (.ref aF), some (.ref aD), v4, v5, v6, v7] H5 := by
      intro H5 zs e5 hF5 pF5 v4 v5 v6 v7
      refine ⟨_, rfl, aF, zs, rfl, .inl ⟨SqL.of hF5, fun l3 n3 => ?_⟩⟩
      have e6 := Same.upd (o := .tup zs) n3
      exact q _ _ (Same.trans e5 e6) ⟨l3, zs, rfl, SqT.of upd_same, Paired.keep immTri (Keep.of e6) pF5⟩
    rcases n2F with n2F | nost
    · refine for_it (walk_list (xs := xs2)) (fun i σ H' => ∃ (zs : List V) (v4 v5 v6 v7 : Option V), σ = [some v, some (.int (c.many : Nat)), some (.ref aF), some (.ref aD), v4, v5, v6, v7] ∧ Same H H' ∧ But aF H4 H' ∧ H' aF = some (.lst zs) ∧ Paired (rhTri K H') zs (((tris (reachOf p c) c.many).take i).filter fun t => decide (0 < t.2.2)))
        ⟨[], none, none, none, none, rfl, e04, But.refl _ _, hF4, .nil⟩ (fun i σ H' _ ⟨_, _, _, _, _, _, _, b5, _, _⟩ => SqL.of (b5 _ _ n2F hl2)) ?_ ?_
      · rintro i x σ Hx H5 hi ⟨zs, v4, v5, v6, v7, rfl, e5, b5, hF5, pF5⟩ ⟨rfl, hx⟩
        obtain ⟨s, hs1, t, rfl, ht⟩ := Paired.at pSt2 hx
        obtain ⟨m1, m2⟩ := str_mem hs1
        have htF : t ≠ aF := fun z => by rw [z, hF4] at ht; cases ht
        have hDF : aD ≠ aF := Ne.symm nFD
        have hT5 := b5 _ _ hDF hT4
        have lz := Paired.len pF5
        have lfl := List.length_filter_le (fun t : Nat × Nat × Int => decide (0 < t.2.2)) ((tris (reachOf p c) c.many).take i)
        rw [List.length_take] at lfl
        refine g_pair (b5 _ _ htF ht) ?_
        refine ⟨_, rfl, _, rfl, _, rfl, (by show 2 ≤ sizeLine; decide), fun t1 n1 => ?_⟩
        have s1 := Same.upd (o := .tup [.int (s.1 : Nat), .int (s.2 : Nat)]) n1
        refine ⟨aD, _, rfl, by rw [← show valV kvs [Sum.inl (s.1 : Int), Sum.inl (s.2 : Int)] = some (.int (reachOf p c s.1 s.2)) by rw [hT, if_pos ⟨by omega, by omega, by omega⟩]; rfl]; exact dgett (s1 _ _ hT5) upd_same, ?_⟩
        refine ⟨_, rfl, aD, rfl, .inr ⟨kvs, .inl (s1 _ _ hT5)⟩, _, rfl, _, _, rfl, rfl, _, rfl, (by show 2 ≤ sizeLine; decide), fun t2 n2 => ?_⟩
        have s2 := Same.trans s1 (Same.upd (o := .tup [.int ((s.1 : Int) - 1), .int (s.2 : Nat)]) n2)
        refine ⟨_, dgett (s2 _ _ hT5) upd_same, ?_⟩
        rw [told_or hT]
        refine ⟨_, _, rfl, rfl, ?_⟩
        refine ⟨_, rfl, _, rfl, aD, rfl, .inr ⟨kvs, .inl (s2 _ _ hT5)⟩, _, rfl, _, rfl, _, _, rfl, rfl, (by show 2 ≤ sizeLine; decide), fun t3 n3 => ?_⟩
        have s3 := Same.trans s2 (Same.upd (o := .tup [.int (s.1 : Nat), .int ((s.2 : Int) + 1)]) n3)
        refine ⟨_, dgett (s3 _ _ hT5) upd_same, ?_⟩
        rw [told_or hT]
        refine ⟨_, _, rfl, rfl, ?_⟩
        refine ⟨_, rfl, aD, rfl, .inr ⟨kvs, .inl (s3 _ _ hT5)⟩, _, rfl, _, _, rfl, rfl, _, rfl, _, _, rfl, rfl, (by show 2 ≤ sizeLine; decide), fun t4 n4 => ?_⟩
        have s4 := Same.trans s3 (Same.upd (o := .tup [.int ((s.1 : Int) - 1), .int ((s.2 : Int) + 1)]) n4)
        refine ⟨_, dgett (s4 _ _ hT5) upd_same, ?_⟩
        rw [told_or hT]
        refine ⟨_, _, rfl, rfl, ?_⟩
        generalize hb : s.1 = b at *
        generalize he : s.2 = e at *
        generalize hn : c.many = n at *
        have z1 : (if (0 : Int) ≤ (b : Int) - 1 ∧ (b : Int) - 1 ≤ (e : Int) ∧ (e : Int) < (n : Int) then reachOf p c ((b : Int) - 1).toNat (e : Int).toNat else 0) = if 0 < b then reachOf p c (b - 1) e else 0 := by
          by_cases z : 0 < b
          · rw [if_pos z, if_pos ⟨by omega, by omega, by omega⟩, show ((b : Int) - 1).toNat = b - 1 by omega]; rfl
          · rw [if_neg z, if_neg (by omega)]
        have z2 : (if (0 : Int) ≤ (b : Int) ∧ (b : Int) ≤ (e : Int) + 1 ∧ (e : Int) + 1 < (n : Int) then reachOf p c (b : Int).toNat ((e : Int) + 1).toNat else 0) = if e + 1 < n then reachOf p c b (e + 1) else 0 := by
          by_cases z : e + 1 < n
          · rw [if_pos z, if_pos ⟨by omega, by omega, by omega⟩, show ((e : Int) + 1).toNat = e + 1 by omega]; rfl
          · rw [if_neg z, if_neg (by omega)]
        have z3 : (if (0 : Int) ≤ (b : Int) - 1 ∧ (b : Int) - 1 ≤ (e : Int) + 1 ∧ (e : Int) + 1 < (n : Int) then reachOf p c ((b : Int) - 1).toNat ((e : Int) + 1).toNat else 0) = if 0 < b ∧ e + 1 < n then reachOf p c (b - 1) (e + 1) else 0 := by
          by_cases z : 0 < b ∧ e + 1 < n
          · rw [if_pos z, if_pos ⟨by omega, by omega, by omega⟩, show ((e : Int) + 1).toNat = e + 1 by omega, show ((b : Int) - 1).toNat = b - 1 by omega]
          · rw [if_neg z, if_neg (by omega)]
        rw [z1, z2, z3]
        have ecount : reachOf p c b e - (if 0 < b then reachOf p c (b - 1) e else 0) - (if e + 1 < n then reachOf p c b (e + 1) else 0) + (if 0 < b ∧ e + 1 < n then reachOf p c (b - 1) (e + 1) else 0) = countOf (reachOf p c) n b e := rfl
        have etri : (tris (reachOf p c) n)[i]? = some (b, e, countOf (reachOf p c) n b e) := by
          unfold tris
          rw [List.getElem?_map, hs1, ← hb, ← he]
          rfl
        have s5 := Same.trans e5 s4
        have b6 : But aF H4 _ := But.trans b5 (But.of s4)
        have hF6 := s4 _ _ hF5
        have pF6 := Paired.keep immTri (Keep.of s4) pF5
        generalize upd (upd (upd (upd H5 t1 (.tup [.int (b : Nat), .int (e : Nat)])) t2 (.tup [.int ((b : Int) - 1), .int (e : Nat)])) t3 (.tup [.int (b : Nat), .int ((e : Int) + 1)])) t4 (.tup [.int ((b : Int) - 1), .int ((e : Int) + 1)]) = H6 at s5 b6 hF6 pF6 ⊢
        refine ⟨_, rfl, _, _, rfl, rfl, _, rfl, ?_⟩
        show if decide (0 < countOf (reachOf p c) n b e) = true then _ else _
        have eT : (tris (reachOf p c) n).take (i + 1) = (tris (reachOf p c) n).take i ++ [(b, e, countOf (reachOf p c) n b e)] := by rw [List.take_add_one, etri]; rfl
        by_cases z : 0 < countOf (reachOf p c) n b e
        · refine ifd_t z ⟨_, rfl, .inl ⟨rfl, _, SqL.of hF6⟩, _, rfl, _, rfl, _, rfl, (by show 3 ≤ sizeLine; decide), fun t6 n6 => ?_⟩
          have s7 : Same H6 (upd H6 t6 (.tup [.int (b : Nat), .int (e : Nat), .int (countOf (reachOf p c) n b e)])) := Same.upd n6
          have hF7 := s7 _ _ hF6
          have kp := Keep.putL (o := .lst (zs ++ [.ref t6])) (Keep.refl _) hF7
          refine ⟨aF, zs, .ref t6, rfl, rfl, hF7, Nat.lt_of_le_of_lt (by omega : zs.length ≤ 1000) (by decide), zs ++ [.ref t6], _, _, _, _, rfl, Same.mut (Same.trans s5 s7) nF, ?_, upd_same, ?_⟩
          · intro x o ne hxo
            have := (b6.trans (But.of s7)) x o ne hxo
            show upd _ aF _ x = some o
            rw [upd_ne ne]
            exact this
          · rw [eT, List.filter_append, List.filter_cons, if_pos (decide_eq_true z), List.filter_nil]
            exact Paired.app (Paired.keep immTri ((Keep.of s7).trans kp) pF6) (.cons (immTri _ _ _ _ kp ⟨t6, rfl, SqT.of upd_same⟩) .nil)
        · refine ifd_f z ⟨zs, _, _, _, _, rfl, s5, b6, hF6, ?_⟩
          rw [eT, List.filter_append, List.filter_cons, if_neg (by simpa using z), List.filter_nil, List.append_nil]
          exact pF6
      · rintro σ H5 ⟨zs, v4, v5, v6, v7, rfl, e5, b5, hF5, pF5⟩
        rw [List.take_of_length_le (by omega)] at pF5
        exact fin H5 zs e5 hF5 pF5 _ _ _ _
    · exfalso
      have lia := ok.li.1
      have : (0, 0) ∈ stretches c.many := str_mem_iff.mpr ⟨Nat.le_refl _, by omega⟩
      rw [nost] at this
      cases this
end
/-- a row and so many times another one -/
def addRow (p k : Int) (r s : List Int) : List Int := List.zipWith (fun a b => (a + k * b) % p) r s
/-- rows made of the plain ones by adding -/
inductive Bs (p : Int) (n : Nat) : List (List Int) → Prop where
  | one : Bs p n (plainR n)
  | add {m : List (List Int)} {i j : Nat} {k : Int} (h : Bs p n m) (hi : i < n) (hj : j < n) (ne : i ≠ j) : Bs p n (m.set i (addRow p k (m.getD i []) (m.getD j [])))
def scaleR (p : Int) (s : Int) (r : List Int) : List Int := r.map fun x => s * x % p
/-- the rows of a base -/
def BsT (p : Int) (n : Nat) (rows : List (List Int)) : Prop := ∃ m ss, Bs p n m ∧ ss.length = n ∧ (∀ s ∈ ss, 1 ≤ s ∧ s < p) ∧ rows = List.zipWith (scaleR p) ss m
theorem Bs.ok {p : Int} (hp : 1 < p) {n : Nat} {m : List (List Int)} (h : Bs p n m) : m.length = n ∧ okMat p n m := by
  induction h with
  | one => exact ⟨by simp [plainR], fun r hr => by
      unfold plainR at hr
      obtain ⟨a, _, rfl⟩ := List.mem_map.mp hr
      exact unitR_ok hp n a⟩
  | @add m i j k h hi hj ne ih =>
    obtain ⟨h1, h2⟩ := ih
    refine ⟨by rw [List.length_set]; exact h1, fun r hr => ?_⟩
    rcases List.mem_or_eq_of_mem_set hr with hr | rfl
    · exact h2 r hr
    · have o1 := h2 _ (mem_getD (d := []) (l := m) (k := i) (by omega))
      have o2 := h2 _ (mem_getD (d := []) (l := m) (k := j) (by omega))
      unfold addRow
      refine ⟨by rw [List.length_zipWith, o1.1, o2.1, Nat.min_self], fun x hx => ?_⟩
      obtain ⟨a, ha, rfl⟩ := List.getElem_of_mem hx
      rw [List.getElem_zipWith]
      exact ⟨Int.emod_nonneg _ (by omega), Int.emod_lt_of_pos _ (by omega)⟩
theorem BsT.ok {p : Int} (hp : 1 < p) {n : Nat} {rows : List (List Int)} (h : BsT p n rows) : rows.length = n ∧ okMat p n rows := by
  obtain ⟨m, ss, h1, h2, h3, rfl⟩ := h
  obtain ⟨g1, g2⟩ := h1.ok hp
  refine ⟨by rw [List.length_zipWith, h2, g1, Nat.min_self], fun r hr => ?_⟩
  obtain ⟨i, hi, rfl⟩ := List.getElem_of_mem hr
  rw [List.getElem_zipWith]
  have o := g2 (m[i]'(by simp at hi; omega)) (List.getElem_mem _)
  refine ⟨by unfold scaleR; rw [List.length_map]; exact o.1, fun x hx => ?_⟩
  unfold scaleR at hx
  obtain ⟨y, _, rfl⟩ := List.mem_map.mp hx
  exact ⟨Int.emod_nonneg _ (by omega), Int.emod_lt_of_pos _ (by omega)⟩
section
variable {K : PySem.W.Frag} {H : Hp} {Q : VK}
theorem pbut {ds : List Addr} {l : Addr} (hl : l ∈ ds) {H' : Hp} (b : But l H H') {xs : List V} {m : List (List Int)} (h : Paired (rhA ds H) xs m) : Paired (rhA ds H') xs m :=
  Paired.imp (fun _ _ ⟨a, h1, h2, h3⟩ => ⟨a, h1, h2, b _ _ (fun z => h2 (by rw [z]; exact hl)) h3⟩) h
theorem rhA.at {ds : List Addr} {xs : List V} {m : List (List Int)} {i : Nat} (h : Paired (rhA ds H) xs m) (hi : i < m.length) : ∃ a, atI xs (i : Int) = some (.ref a) ∧ xs[i]? = some (.ref a) ∧ a ∉ ds ∧ H a = some (.lst ((m.getD i []).map V.int)) := by
  have e : m[i]? = some (m.getD i []) := by rw [List.getD_eq_getElem?_getD, List.getElem?_eq_getElem hi]; rfl
  obtain ⟨x, hx, a, rfl, h1, h2⟩ := Paired.to h e
  exact ⟨a, atI_nat hx, hx, h1, h2⟩
theorem Paired.put {β α : Type} {R : β → α → Prop} {y : β} {b : α} (hy : R y b) : ∀ {xs : List β} {as : List α} (i : Nat), Paired R xs as → Paired R (xs.set i y) (as.set i b)
  | _, _, _, .nil => .nil
  | _, _, 0, .cons _ t => .cons hy t
  | _, _, i + 1, .cons r t => .cons r (Paired.put hy i t)
def sp_law_base (K : PySem.W.Frag) : Sp := fun vs H Q _ => ∃ (l lc : Addr) (p : Int) (n : Nat), vs = [.ref l, .int p, .int n] ∧ PuAt l lc H ∧ okP p ∧ n ≤ 6 ∧
  ∀ (v : V) (rows : List (List Int)) H', But l H H' → PuAt l lc H' → rhTab K p H' v ⟨n, rows⟩ → BsT p n rows → Q v H'
theorem pure_law_base (kt : KTab K (ad K "Table")) (vs : List V) (H : Hp) (Q : VK) (E : XK) (h : sp_law_base K vs H Q E) : t_law_base K (sp_law_part K) (sp_Table_init K) (Ed Q) (start n_law_base vs) H := by
  obtain ⟨l, lc, p, n, rfl, hp, okp, hn, q⟩ := h
  have hp1 := okp.lo
  have hp2 := okp.hi
  obtain ⟨pn, rfl, pn1, pn2⟩ := okp.nat
  have hlL : ∃ zs, H l = some (.lst zs) := by
    obtain ⟨_, i, r, s, m, cs, g1, g2⟩ := hp
    exact ⟨_, g1⟩
  obtain ⟨zl, hzl⟩ := hlL
  refine ⟨_, rfl, n, rfl, by omega, by omega, fun D nD => ?_⟩
  rw [Int.toNat_natCast]
  have nDl := hp.ne nD
  refine lc_allL (r := rhA [D, l]) (wk_rng (n := n)) (plainR n) (by simp [plainR]) (by omega) (fun _ _ _ _ e h => rhA.same e h) (fun _ _ _ _ h => rhA.upd (by simp) h) nD (fun _ _ => trivial) ?_ ?_
  · rintro i x c H1 H2 Q' hc e1 ⟨zs, hzs⟩ ⟨rfl, rfl⟩ k'
    obtain ⟨hi, ec⟩ := gets hc
    refine ⟨rfl, _, rfl, n, rfl, by omega, by omega, fun D2 nD2 => ?_⟩
    rw [Int.toNat_natCast]
    refine lc_all (r := rhI) (wk_rng (n := n)) c (by rw [ec]; simp [unitR]) (by omega) immI nD2 (fun _ _ => trivial) ?_ ?_
    · rintro j y d H3 H4 Q2 hd e3 ⟨rfl, rfl⟩ k2
      rw [ec] at hd
      obtain ⟨hj, ed⟩ := gets hd
      refine ⟨rfl, _, rfl, _, rfl, rfl, .inr ⟨_, rfl, k2 _ _ (Same.refl _) ?_⟩⟩
      rw [nat_eq, ed]
      show V.int _ = V.int _
      congr 1
      by_cases z : i = j
      · rw [if_pos z, if_pos z.symm]
      · rw [if_neg z, if_neg (Ne.symm z)]
    · intro H3 ys e3 f1 f2
      rw [ints_of f2] at f1
      refine k' _ H3 e3 ⟨D2, rfl, fun z => ?_, f1⟩
      rcases List.mem_cons.mp z with z | z
      · rw [z, hzs] at nD2
        cases nD2
      · rw [List.mem_singleton] at z
        rw [z, e1 _ _ hzl] at nD2
        cases nD2
  · intro H1 ys e1 f1 f2
    have p1 := hp.mono e1
    have nDl2 : D ≠ l := nDl.1
    -- the additions
    obtain ⟨N, hN, hN1, cnt⟩ : ∃ N : Nat, N ≤ 100 ∧ (0 < N → 1 < n) ∧ (∀ Q' : VK, Q' (.int (N : Int)) H1 → (tOp rMulI (tOp rMulI (tC (.int 3)) (tVar 2)) (tCB rIntOf (tCons (tOp rGtI (tVar 2) (tC (.int 1))) tNil))) [some (.ref l), some (.int (pn : Int)), some (.int (n : Int)), some (.ref D), none, none, none, none, none, none, none, none] H1 Q') := by
      by_cases z : 1 < n
      · refine ⟨3 * n, by omega, fun _ => z, fun Q' h1 => ?_⟩
        refine ⟨_, rfl, _, _, rfl, rfl, .inl ⟨by decide, by decide⟩, _, rfl, _, _, rfl, rfl, .inr ⟨_, rfl, _, _, rfl, rfl, .inl ⟨by omega, by omega⟩, ?_⟩⟩
        rw [decide_eq_true (by omega : (1 : Int) < n), if_pos rfl]
        show Q' (.int (3 * (n : Int) * 1)) H1
        rw [show (3 : Int) * (n : Int) * 1 = ((3 * n : Nat) : Int) by omega]
        exact h1
      · refine ⟨0, by omega, fun h => absurd h (by omega), fun Q' h1 => ?_⟩
        refine ⟨_, rfl, _, _, rfl, rfl, .inl ⟨by decide, by decide⟩, _, rfl, _, _, rfl, rfl, .inr ⟨_, rfl, _, _, rfl, rfl, .inl ⟨by omega, by omega⟩, ?_⟩⟩
        rw [decide_eq_false (by omega : ¬ (1 : Int) < n), if_neg (by decide)]
        show Q' (.int (3 * (n : Int) * 0)) H1
        rw [Int.mul_zero]
        exact h1
    refine cnt _ ⟨(N : Int), rfl, by omega, by omega, ?_⟩
    rw [Int.toNat_natCast]
    refine for_it (wk_rng (n := N)) (fun i σ H' => ∃ (ys : List V) (m : List (List Int)) (v4 v5 v6 v7 : Option V), σ = [some (.ref l), some (.int (pn : Int)), some (.int (n : Int)), some (.ref D), v4, v5, v6, v7, none, none, none, none] ∧ But l H H' ∧ PuAt l lc H' ∧ H' D = some (.lst ys) ∧ Paired (rhA [D, l] H') ys m ∧ Bs (pn : Int) n m)
      ⟨ys, plainR n, none, none, none, none, rfl, But.of e1, p1, f1, f2, .one⟩ (fun _ _ _ _ _ => trivial) ?_ ?_
    · rintro i x σ Hx H2 hi ⟨ys, m, v4, v5, v6, v7, rfl, b2, p2, hD2, pM, bs⟩ ⟨rfl, rfl⟩
      have n1 : 1 < n := hN1 (by omega)
      obtain ⟨lm, okm⟩ := bs.ok (by omega)
      refine ⟨_, rfl, _, rfl, l, lc, n, rfl, p2, by omega, by omega, fun k1 H4 b4 p4 hk1 => ?_⟩
      refine ⟨_, rfl, _, _, rfl, rfl, _, rfl, _, rfl, _, _, rfl, rfl, l, lc, n - 1, ?_, p4, by omega, by omega, fun k2 H5 b5 p5 hk2 => ?_⟩
      · rw [show (((n - 1 : Nat)) : Int) = (n : Int) - 1 by omega]
        rfl
      refine ⟨_, _, rfl, rfl, .inl ⟨_, rfl, _, rfl, _, _, rfl, rfl, (by show (0 : Int) < n; omega), ?_⟩⟩
      obtain ⟨j, ej, hj, nj⟩ : ∃ j : Nat, ((k1 : Int) + 1 + (k2 : Int)) % (n : Int) = (j : Int) ∧ j < n ∧ k1 ≠ j := by
        refine ⟨(k1 + 1 + k2) % n, ?_, Nat.mod_lt _ (by omega), ?_⟩
        · rw [Int.natCast_emod, Int.natCast_add, Int.natCast_add]
          rfl
        · by_cases z : k1 + 1 + k2 < n
          · rw [Nat.mod_eq_of_lt z]
            omega
          · rw [Nat.mod_eq_sub_mod (by omega), Nat.mod_eq_of_lt (by omega)]
            omega
      refine ⟨_, rfl, _, rfl, l, lc, pn, rfl, p5, by omega, by omega, fun k3 H6 b6 p6 hk3 => ?_⟩
      have b26 := (b4.trans b5).trans b6
      have bH6 := b2.trans b26
      have hD6 := b26 _ _ nDl.1 hD2
      have pM6 := pbut (by simp) b26 pM
      obtain ⟨a1, g1, g2, g3, g4⟩ := rhA.at pM6 (i := k1) (by omega)
      obtain ⟨a2, g5, g6, g7, g8⟩ := rhA.at pM6 (i := j) (by omega)
      have o1 := okm _ (mem_getD (d := []) (l := m) (k := k1) (by omega))
      have o2 := okm _ (mem_getD (d := []) (l := m) (k := j) (by omega))
      refine ⟨_, rfl, _, rfl, D, ys, _, _, rfl, rfl, SqL.of hD6, g1, _, rfl, ?_⟩
      have ejv : ∀ Q' : V → Prop, Q' (.int (j : Int)) → Q' (.int (((k1 : Int) + 1 + (k2 : Int)) % (n : Int))) := fun Q' h => by rw [ej]; exact h
      refine ⟨_, rfl, D, ys, _, _, rfl, ejv (fun v => v = .int (j : Int)) rfl, SqL.of hD6, g5, ?_⟩
      refine ⟨a1, a2, _, _, rfl, .inl ⟨SqL.of g4, SqL.of g8, fun D2 nD2 => ?_⟩⟩
      refine lc_all (r := rhI) (wk_zipL (n := n) (xs := (m.getD k1 []).map V.int) (ys := (m.getD j []).map V.int) (by rw [List.length_map, o1.1]) (by rw [List.length_map, o2.1])) (addRow (pn : Int) (k3 : Int) (m.getD k1 []) (m.getD j [])) (by unfold addRow; rw [List.length_zipWith, o1.1, o2.1, Nat.min_self]) (by omega) immI nD2 (fun H' e => ⟨SqL.of (e _ _ g4), SqL.of (e _ _ g8)⟩) ?_ ?_
      · rintro i x c H7 H8 Q' hc e1 ⟨t, y1, y2, rfl, nt, rfl, h1, h2⟩ k'
        obtain ⟨u, hu, rfl⟩ := row_of h1
        obtain ⟨w, hw, rfl⟩ := row_of h2
        refine g_pair upd_same ⟨rfl, _, rfl, _, rfl, _, rfl, _, _, rfl, rfl, .inl ⟨by omega, by omega⟩, _, _, rfl, rfl, .inl ⟨_, rfl, _, rfl, _, _, rfl, rfl, (by show (0 : Int) < pn; omega), k' _ _ (Same.upd nt) ?_⟩⟩
        have : c = (u + (k3 : Int) * w) % (pn : Int) := by
          unfold addRow at hc
          rw [List.getElem?_zipWith, hu, hw] at hc
          exact (Option.some.inj hc).symm
        rw [this]
        rfl
      · intro H7 us e7 h1 h2
        rw [ints_of h2] at h1
        have hD7 := e7 _ _ hD6
        have nD2D : D2 ≠ D := fun z => by rw [z, hD6] at nD2; cases nD2
        have nD2l : D2 ≠ l := (p6.ne nD2).1
        have lys := Paired.len pM
        refine ⟨_, rfl, _, rfl, D, ys, _, k1, rfl, rfl, hD7, ixSet (by omega), ys.set k1 (.ref D2), _, _, _, _, _, rfl, But.mut (bH6.trans (But.of e7)) nD, (p6.mono e7).upd nDl.1 nDl.2, upd_same, ?_, Bs.add (k := (k3 : Int)) bs hk1 hj nj⟩
        refine pupd (by simp) (Paired.put ⟨D2, rfl, by simp [nD2D, nD2l], h1⟩ k1 (psame e7 pM6))
    · rintro σ H2 ⟨ys, m, v4, v5, v6, v7, rfl, b2, p2, hD2, pM, bs⟩
      obtain ⟨lm, okm⟩ := bs.ok (by omega)
      have lys := Paired.len pM
      -- by
      refine ⟨_, rfl, D, rfl, ⟨_, SqL.of hD2⟩, fun D3 nD3 => ?_⟩
      refine lc_pu (r := rhI) (l := l) (lc := lc) (ψ := fun _ s => 1 ≤ s ∧ s < (pn : Int)) (walk_list (xs := ys)) (by omega) immI nD3 p2 (fun H' b _ => SqL.of (b _ _ nDl.1 hD2)) ?_ ?_
      · rintro i x H3 H4 Q' hi b3 p3 ⟨rfl, hx⟩ k'
        refine ⟨rfl, _, rfl, _, rfl, _, _, rfl, rfl, l, lc, pn - 1, ?_, p3, by omega, by omega, fun k H5 b5 p5 hk => ⟨_, _, rfl, rfl, k' _ (1 + (k : Int)) H5 b5 p5 rfl ⟨by omega, by omega⟩⟩⟩
        rw [show (((pn - 1 : Nat)) : Int) = (pn : Int) - 1 by omega]
        rfl
      · intro H3 us ss b3 p3 g1 g2 g3 g4
        rw [ints_of g3] at g1
        have hD3 := b3 _ _ nDl.1 hD2
        have pM3 := pbut (by simp) b3 pM
        have bH3 := b2.trans b3
        -- rows
        refine ⟨_, rfl, _, rfl, D3, D, _, ys, rfl, .inl ⟨SqL.of g1, SqL.of hD3, fun D4 nD4 => ?_⟩⟩
        refine lc_allL (r := rhA [D4]) (wk_zipL (n := n) (xs := ss.map V.int) (ys := ys) (by rw [List.length_map]; omega) (by omega)) (List.zipWith (scaleR (pn : Int)) ss m) (by rw [List.length_zipWith]; omega) (by omega) (fun _ _ _ _ e h => rhA.same e h) (fun _ _ _ _ h => rhA.upd (by simp) h) nD4 (fun H' e => ⟨SqL.of (e _ _ g1), SqL.of (e _ _ hD3)⟩) ?_ ?_
        · rintro i x c H4 H5 Q' hc e4 ⟨zs, hzs⟩ ⟨t, y1, y2, rfl, nt, rfl, h1, h2⟩ k'
          obtain ⟨s, hs, rfl⟩ := row_of h1
          obtain ⟨r, hr, a, rfl, na, ha⟩ := Paired.at (psame e4 pM3) h2
          have okr := okm r (List.mem_of_getElem? hr)
          obtain ⟨s1, s2⟩ := g4 i s hs
          refine g_pair upd_same ⟨rfl, ?_⟩
          have e5 : Same H4 (upd H4 t (.tup [.int s, .ref a])) := Same.upd nt
          have ha5 := e5 _ _ ha
          have hz5 := e5 _ _ hzs
          generalize upd H4 t (.tup [.int s, .ref a]) = H5 at e5 ha5 hz5 ⊢
          have ec : c = r.map fun x => s * x % (pn : Int) := by
            rw [List.getElem?_zipWith, hs, hr] at hc
            exact (Option.some.inj hc).symm
          refine ⟨_, rfl, a, rfl, ⟨_, SqL.of ha5⟩, fun D6 nD6 => ?_⟩
          refine lc_all (r := rhI) (walk_list (xs := r.map V.int)) c (by rw [ec]; simp) (by simp; rw [okr.1]; omega) immI nD6 (fun H' e => SqL.of (e _ _ ha5)) ?_ ?_
          · rintro j y d H7 H8 Q2 hd e7 ⟨rfl, hy7⟩ k7
            obtain ⟨w, hw7, rfl⟩ := row_of hy7
            refine ⟨rfl, _, rfl, _, rfl, _, _, rfl, rfl, .inl ⟨by omega, by omega⟩, .inl ⟨_, rfl, _, rfl, _, _, rfl, rfl, (by show (0 : Int) < pn; omega), k7 _ _ (Same.refl _) ?_⟩⟩
            rw [ec, List.getElem?_map, hw7] at hd
            rw [← Option.some.inj hd]
            rfl
          · intro H7 us2 e7 h5 h6
            rw [ints_of h6] at h5
            refine k' _ H7 (Same.trans e5 e7) ⟨D6, rfl, fun z => ?_, h5⟩
            rw [List.mem_singleton] at z
            rw [z, hz5] at nD6
            cases nD6
        · intro H4 ys4 e4 h1 h2
          have bst : BsT (pn : Int) n (List.zipWith (scaleR (pn : Int)) ss m) := ⟨m, ss, bs, by omega, fun s hs => by
            obtain ⟨i, hi, rfl⟩ := List.getElem_of_mem hs
            exact g4 i _ (List.getElem?_eq_getElem hi), rfl⟩
          obtain ⟨lt, okt⟩ := bst.ok (by omega)
          have ly4 := Paired.len h2
          refine ⟨_, rfl, _, rfl, _, rfl, D4, rfl, ⟨_, SqL.of h1⟩, fun D5 nD5 => ?_⟩
          refine lc_all (r := rhRow K) (walk_list (xs := ys4)) (List.zipWith (scaleR (pn : Int)) ss m) (by omega) (by omega) immRow nD5 (fun H' e => SqL.of (e _ _ h1)) ?_ ?_
          · rintro i x c H5 H6 Q' hc e5 ⟨rfl, hx⟩ k'
            obtain ⟨r, hr, a, rfl, na, ha⟩ := Paired.at (psame e5 h2) hx
            have ec : r = c := Option.some.inj (hr.symm.trans hc)
            subst ec
            exact ⟨rfl, _, rfl, a, _, rfl, .inl ⟨SqL.of ha, fun l2 n2 => k' _ _ (Same.upd n2) (rhRow.mk (SqT.of upd_same))⟩⟩
          · intro H5 zs e5 h3 h4
            refine ⟨D5, zs, rfl, .inl ⟨SqL.of h3, fun l2 n2 => ?_⟩⟩
            have e6 := Same.upd (o := .tup zs) n2
            refine make_Table (p := (pn : Int)) (H0 := H3) (Q := Q) (t := ⟨n, List.zipWith (scaleR (pn : Int)) ss m⟩) kt okp (by show n ≤ 12; omega) (by show (List.zipWith (scaleR (pn : Int)) ss m).length ≤ 12; omega) okt (Same.trans e4 (Same.trans e5 e6)) ⟨l2, zs, rfl, SqT.of upd_same, Paired.keep immRow (Keep.of e6) h4⟩ fun vt H7 e7 h7 => q vt _ H7 (bH3.trans (But.of e7)) (p3.mono e7) h7 bst
end
theorem getD_le {l : List Nat} {n : Nat} (h : ∀ x ∈ l, x ≤ n) (i : Nat) : l.getD i 0 ≤ n := by
  rw [List.getD_eq_getElem?_getD]
  cases e : l[i]? with
  | none => exact Nat.zero_le _
  | some x => exact h x (List.mem_of_getElem? e)
theorem barSizes_len (m b e : Nat) : (barSizes m b e).length = m := by simp [barSizes]
theorem barTab_fit {p : Int} (hp : 1 < p) (m b e : Nat) (a : Nat × Nat) : (barTab m b e a).wide = (barSizes m b e).getD a.1 0 ∧ (barTab m b e a).rows.length = (barSizes m b e).getD a.2 0 ∧ okMat p (barTab m b e a).wide (barTab m b e a).rows := by
  have h1 := barSizes_le (many := m) (b := b) (e := e) (i := a.1)
  have h2 := barSizes_le (many := m) (b := b) (e := e) (i := a.2)
  unfold barTab
  split
  · rename_i h
    refine ⟨by show 1 = _; omega, by show (plainR 1).length = _; rw [show (plainR 1).length = 1 by simp [plainR]]; omega, fun r hr => ?_⟩
    have hr : r ∈ plainR 1 := hr
    unfold plainR at hr
    obtain ⟨x, _, rfl⟩ := List.mem_map.mp hr
    exact unitR_ok hp 1 x
  · refine ⟨rfl, by simp [noughtR], fun r hr => ?_⟩
    have hr : r ∈ noughtR _ _ := hr
    unfold noughtR at hr
    rw [(List.mem_replicate.mp hr).2]
    exact okRow_nils (by omega) _
theorem bar_pcLe (w : Nat × List (Nat × Nat)) (b e : Nat) : pcLe w (rawBar w.1 w.2 b e) := by
  rw [rawBar_eq]
  refine ⟨rfl, rfl, barSizes_len _ _ _, by simp, fun t ht => ?_⟩
  obtain ⟨a, _, rfl⟩ := List.mem_map.mp ht
  obtain ⟨h1, h2, h3⟩ := barTab_fit (p := 2) (by decide) w.1 b e a
  have g1 := barSizes_le (many := w.1) (b := b) (e := e) (i := a.1)
  have g2 := barSizes_le (many := w.1) (b := b) (e := e) (i := a.2)
  exact ⟨by omega, by omega, fun r hr => by rw [(h3 r hr).1]; omega⟩
def fitB (p : Int) (ar : List (Nat × Nat)) (B : List Nat × List Tb) : Prop := ∀ (k : Nat) a t, ar[k]? = some a → B.2[k]? = some t → t.wide = B.1.getD a.1 0 ∧ t.rows.length = B.1.getD a.2 0 ∧ okMat p t.wide t.rows
theorem corner_ok {p : Int} (hp : 0 < p) {s t : Tb} (h1 : okMat p s.wide s.rows) (h2 : okMat p t.wide t.rows) : okMat p (tbCorner s t).wide (tbCorner s t).rows := by
  intro r hr
  have hr : r ∈ s.rows.map (fun r => r ++ nils t.wide) ++ t.rows.map (fun r => nils s.wide ++ r) := hr
  have n1 := okRow_nils hp t.wide
  have n2 := okRow_nils hp s.wide
  rcases List.mem_append.mp hr with hr | hr
  · obtain ⟨x, hx, rfl⟩ := List.mem_map.mp hr
    refine ⟨by rw [List.length_append, (h1 x hx).1, n1.1]; rfl, fun y hy => ?_⟩
    rcases List.mem_append.mp hy with hy | hy
    · exact (h1 x hx).2 y hy
    · exact n1.2 y hy
  · obtain ⟨x, hx, rfl⟩ := List.mem_map.mp hr
    refine ⟨by rw [List.length_append, (h2 x hx).1, n2.1]; rfl, fun y hy => ?_⟩
    rcases List.mem_append.mp hy with hy | hy
    · exact n2.2 y hy
    · exact (h2 x hx).2 y hy
theorem zip_getD {xs ys : List Nat} (h : xs.length = ys.length) (i : Nat) : (List.zipWith (fun a b => a + b) xs ys).getD i 0 = xs.getD i 0 + ys.getD i 0 := by
  rw [List.getD_eq_getElem?_getD, List.getD_eq_getElem?_getD, List.getD_eq_getElem?_getD, List.getElem?_zipWith]
  by_cases z : i < xs.length
  · rw [List.getElem?_eq_getElem z, List.getElem?_eq_getElem (by omega)]
    rfl
  · rw [List.getElem?_eq_none (by omega), List.getElem?_eq_none (by omega)]
    rfl
/-- bars of stretches, beside one another -/
def barsIn (m : Nat) (ar : List (Nat × Nat)) (ss : List (Nat × Nat)) : List Pc := ss.map fun s => rawBar m ar s.1 s.2
theorem beside_fit {p : Int} (hp : 1 < p) (m : Nat) (ar : List (Nat × Nat)) : ∀ (n : Nat) (ss : List (Nat × Nat)), ss.length = n → (besides (m, ar) (barsIn m ar ss)).1.length = m ∧ (besides (m, ar) (barsIn m ar ss)).2.length = ar.length ∧ (∀ x ∈ (besides (m, ar) (barsIn m ar ss)).1, x ≤ n) ∧ fitB p ar (besides (m, ar) (barsIn m ar ss))
  | 0, ss, hn => by
    have e : ss = [] := List.eq_nil_of_length_eq_zero hn
    subst e
    refine ⟨by simp [besides, barsIn], by simp [besides, barsIn], fun x hx => ?_, fun k a t ha ht => ?_⟩
    · have hx : x ∈ List.replicate m 0 := hx
      exact Nat.le_of_eq (List.mem_replicate.mp hx).2
    · have ht : (ar.map fun _ => (⟨0, noughtR 0 0⟩ : Tb))[k]? = some t := ht
      rw [List.getElem?_map, ha] at ht
      cases ht
      have g : ∀ i, (besides (m, ar) (barsIn m ar [])).1.getD i 0 = 0 := fun i => by
        have := getD_le (l := List.replicate m 0) (n := 0) (fun x hx => Nat.le_of_eq (List.mem_replicate.mp hx).2) i
        show (List.replicate m 0).getD i 0 = 0
        omega
      exact ⟨(g _).symm, (g _).symm, fun r hr => nomatch hr⟩
  | n + 1, ss, hn => by
    obtain ⟨ss0, s, rfl⟩ : ∃ ss0 s, ss = ss0 ++ [s] := ⟨ss.dropLast, ss.getLast (by intro z; rw [z] at hn; cases hn), (List.dropLast_concat_getLast _).symm⟩
    obtain ⟨i1, i2, i3, i4⟩ := beside_fit hp m ar n ss0 (by simpa using hn)
    have eb : barsIn m ar (ss0 ++ [s]) = barsIn m ar ss0 ++ [rawBar m ar s.1 s.2] := by simp [barsIn]
    rw [eb, besides_app, rawBar_eq]
    generalize besides (m, ar) (barsIn m ar ss0) = B at i1 i2 i3 i4 ⊢
    have lb := barSizes_len m s.1 s.2
    refine ⟨by simp [addPc, i1, lb], by simp [addPc, i2], fun x hx => ?_, fun k a t ha ht => ?_⟩
    · unfold addPc at hx
      obtain ⟨i, hi, rfl⟩ := List.getElem_of_mem hx
      rw [List.getElem_zipWith]
      have g1 := i3 _ (List.getElem_mem (l := B.1) (n := i) (by simp at hi; omega))
      have g2 : (barSizes m s.1 s.2)[i]'(by simp at hi; omega) ≤ 1 := by
        have := barSizes_le (many := m) (b := s.1) (e := s.2) (i := i)
        rw [List.getD_eq_getElem?_getD, List.getElem?_eq_getElem (by simp at hi; omega)] at this
        exact this
      exact Nat.add_le_add g1 g2
    · have ht : (List.zipWith tbCorner B.2 (ar.map (barTab m s.1 s.2)))[k]? = some t := ht
      rw [List.getElem?_zipWith, List.getElem?_map, ha] at ht
      cases hb : B.2[k]? with
      | none => rw [hb] at ht; cases ht
      | some t0 =>
        rw [hb] at ht
        cases ht
        obtain ⟨j1, j2, j3⟩ := i4 k a t0 ha hb
        obtain ⟨k1, k2, k3⟩ := barTab_fit hp m s.1 s.2 a
        show (tbCorner t0 (barTab m s.1 s.2 a)).wide = (List.zipWith (fun a b => a + b) B.1 (barSizes m s.1 s.2)).getD a.1 0 ∧ (tbCorner t0 (barTab m s.1 s.2 a)).rows.length = (List.zipWith (fun a b => a + b) B.1 (barSizes m s.1 s.2)).getD a.2 0 ∧ _
        rw [zip_getD (by omega), zip_getD (by omega)]
        refine ⟨?_, ?_, corner_ok (by omega) j3 k3⟩
        · show t0.wide + (barTab m s.1 s.2 a).wide = _
          omega
        · show (cornerR _ _ _ _).length = _
          unfold cornerR
          rw [List.length_append, List.length_map, List.length_map]
          omega
theorem beside_pcOk {p : Int} (hp : 1 < p) {m : Nat} {ar : List (Nat × Nat)} (li : lineOk m ar) {ss : List (Nat × Nat)} (hs : ss.length ≤ 6) : PcOk p (rawBeside m ar (barsIn m ar ss)) := by
  obtain ⟨h1, h2, h3, h4⟩ := beside_fit hp m ar ss.length ss rfl
  refine ⟨li, h1, fun n hn => Nat.le_trans (h3 n hn) hs, h2, fun k a t ha ht => ?_⟩
  obtain ⟨g1, g2, g3⟩ := h4 k a t ha ht
  exact ⟨by omega, g1, g2, g3⟩
/-- tables of bases -/
def BasesT (p : Int) (c : Pc) (ts : List Tb) : Prop := ts.length = c.many ∧ ∀ (i : Nat) t, ts[i]? = some t → t.wide = szAt c i ∧ BsT p (szAt c i) t.rows
/-- a base can be led back -/
def Undo : Prop := ∀ (p : Int) (n : Nat) (rows : List (List Int)), okP p → BsT p n rows → ∃ u, undoneR p n rows = some u
theorem BasesT.ok (hU : Undo) {p : Int} (hp : okP p) {c : Pc} {ts : List Tb} (h : BasesT p c ts) : BaseOk p c ts := by
  refine ⟨h.1, fun i t ht => ?_⟩
  obtain ⟨h1, h2⟩ := h.2 i t ht
  obtain ⟨g1, g2⟩ := h2.ok (by have := hp.lo; omega)
  rw [h1]
  exact ⟨rfl, g1, g2, hU p _ _ hp h2⟩
theorem based_pcOk {p : Int} (hp : 1 < p) {c : Pc} (ok : PcOk p c) {ts : List Tb} (bo : BaseOk p c ts) : PcOk p (rawBased p c ts) := by
  rw [rawBased_eq]
  have lnt := ok.nt
  refine ⟨ok.li, ok.ns, ok.sz, by show (List.zipWith _ _ _).length = _; rw [List.length_zipWith, lnt, Nat.min_self], fun k a t ha ht => ?_⟩
  have ha : c.arrows[k]? = some a := ha
  have ht : (List.zipWith (basedTab p ts) c.arrows c.tables)[k]? = some t := ht
  rw [List.getElem?_zipWith, ha] at ht
  cases hb : c.tables[k]? with
  | none => rw [hb] at ht; cases ht
  | some t0 =>
    rw [hb] at ht
    cases ht
    have lt := ok.li.lt ha
    have b2 : ts[a.2]? = some (ts.getD a.2 ⟨0, []⟩) := by rw [List.getD_eq_getElem?_getD, List.getElem?_eq_getElem (by rw [bo.len]; exact lt.2)]; rfl
    have b1 : ts[a.1]? = some (ts.getD a.1 ⟨0, []⟩) := by rw [List.getD_eq_getElem?_getD, List.getElem?_eq_getElem (by rw [bo.len]; exact lt.1)]; rfl
    obtain ⟨w1, w2, w3, _⟩ := bo.at_ _ _ b1
    obtain ⟨m1, m2, m3, _⟩ := bo.at_ _ _ b2
    have tm := timesR_okM (p := p) (by omega) (one := (ts.getD a.2 ⟨0, []⟩).rows) (other := timesR p t0.rows (ts.getD a.1 ⟨0, []⟩).wide ((undoneR p (ts.getD a.1 ⟨0, []⟩).wide (ts.getD a.1 ⟨0, []⟩).rows).getD [])) (wide := (ts.getD a.1 ⟨0, []⟩).wide)
    refine ⟨by omega, w1, ?_, tm.1⟩
    show (timesR p _ _ _).length = _
    rw [tm.2]
    exact m2
section
variable {K : PySem.W.Frag} {H : Hp} {Q : VK}
def sp_law_rebased (K : PySem.W.Frag) : Sp := fun vs H Q _ => ∃ (l lc : Addr) (p : Int) (v : V) (c : Pc), vs = [.ref l, v] ∧ PuAt l lc H ∧ okP p ∧ rhPic K p H v c ∧ PcOk p c ∧
  ∀ (u : V) (ts : List Tb) H', But l H H' → PuAt l lc H' → BasesT p c ts → rhPic K p H' u (rawBased p c ts) → Q u H'
theorem pure_law_rebased (hU : Undo) (vs : List V) (H : Hp) (Q : VK) (E : XK) (h : sp_law_rebased K vs H Q E) : t_law_rebased K (sp_law_base K) (sp_based K) (Ed Q) (start n_law_rebased vs) H := by
  obtain ⟨l, lc, p, v, c, rfl, hp, okp, hc, ok, q⟩ := h
  have lm : c.many ≤ 8 := ok.li.2.1
  have lns := ok.ns
  refine ⟨_, rfl, ?_⟩
  refine ⟨_, rfl, ?_⟩
  refine fd_sizes hc fun vS hS => ?_
  obtain ⟨aS, us, rfl, hSs, pS⟩ := hS
  have lS := Paired.len pS
  refine ⟨aS, rfl, ⟨_, hSs⟩, fun D nD => ?_⟩
  refine lc_pu (r := rhTab K p) (l := l) (lc := lc) (ψ := fun i (t : Tb) => t.wide = szAt c i ∧ BsT p (szAt c i) t.rows) (walk_tup (xs := us)) (by omega) immTab nD hp (fun H' b _ => Keep.tup (But.keep hp b) hSs) ?_ ?_
  · rintro i x Hx H1 Q' hi b1 p1 ⟨rfl, hx⟩ k'
    obtain ⟨n, hn, en⟩ := Paired.at pS hx
    cases en
    have en2 : n = szAt c i := by unfold szAt; rw [List.getD_eq_getElem?_getD, hn]; rfl
    refine ⟨rfl, _, rfl, ?_⟩
    refine ⟨_, rfl, ?_⟩
    refine fd_pprime (immPic _ _ _ _ (But.keep hp b1) hc) ?_
    refine ⟨_, rfl, l, lc, p, n, rfl, p1, okp, ok.sz n (List.mem_of_getElem? hn), fun u rows H2 b2 p2 h2 bs => k' u ⟨n, rows⟩ H2 b2 p2 h2 ⟨en2, by rw [← en2]; exact bs⟩⟩
  · intro H1 ys ts b1 p1 f1 f2 f3 f4
    refine ⟨D, ys, rfl, .inl ⟨SqL.of f1, fun l2 n2 => ?_⟩⟩
    have e2 := Same.upd (o := .tup ys) n2
    have bt : BasesT p c ts := ⟨by omega, f4⟩
    exact ⟨p, v, .ref l2, c, ts, rfl, okp, immPic _ _ _ _ ((But.keep hp b1).trans (Keep.of e2)) hc, ok, ⟨l2, ys, rfl, SqT.of upd_same, Paired.keep immTab (Keep.of e2) f3⟩, bt.ok hU okp, fun u H3 e3 h3 => q u ts H3 (b1.trans (But.of (Same.trans e2 e3))) (p1.mono (Same.trans e2 e3)) bt h3⟩
end
theorem lexLt_irr {a : Nat × Nat} (h : lexLt a a) : False := by rcases h with h | ⟨_, h⟩ <;> omega
theorem lexLt_asym {a b : Nat × Nat} (h : lexLt a b) (g : lexLt b a) : False := by
  rcases h with h | ⟨h, h'⟩ <;> rcases g with g | ⟨g, g'⟩ <;> omega
/-- two lists in strict order with the same members -/
theorem lex_unique : ∀ {l1 l2 : List (Nat × Nat)}, l1.Pairwise lexLt → l2.Pairwise lexLt → (∀ s, s ∈ l1 ↔ s ∈ l2) → l1 = l2
  | [], [], _, _, _ => rfl
  | [], b :: l2, _, _, h => absurd ((h b).mpr (by simp)) (by simp)
  | a :: l1, [], _, _, h => absurd ((h a).mp (by simp)) (by simp)
  | a :: l1, b :: l2, h1, h2, h => by
    rw [List.pairwise_cons] at h1 h2
    have e : a = b := by
      rcases List.mem_cons.mp ((h a).mp (by simp)) with e | e
      · exact e
      · rcases List.mem_cons.mp ((h b).mpr (by simp)) with e' | e'
        · exact e'.symm
        · exact absurd (lexLt_asym (h1.1 b e') (h2.1 a e)) id
    subst e
    congr 1
    refine lex_unique h1.2 h2.2 fun s => ⟨fun hs => ?_, fun hs => ?_⟩
    · rcases List.mem_cons.mp ((h s).mp (by simp [hs])) with e | e
      · subst e
        exact absurd (lexLt_irr (h1.1 s hs)) id
      · exact e
    · rcases List.mem_cons.mp ((h s).mpr (by simp [hs])) with e | e
      · subst e
        exact absurd (lexLt_irr (h2.1 s hs)) id
      · exact e
def inSs (ss : List (Nat × Nat)) (s : Nat × Nat) : Bool := decide (s ∈ ss)
/-- what is due -/
def dueOf (m : Nat) (ss : List (Nat × Nat)) : List (Nat × Nat × Int) := ((stretches m).filter (inSs ss)).map fun s => (s.1, s.2, (ss.count s : Int))
/-- bars of built sums, with other bases -/
def Whole : Prop := ∀ (p : Int) (m : Nat) (ar ss : List (Nat × Nat)) (ts : List Tb), okP p → lineOk m ar → (∀ s ∈ ss, s.1 ≤ s.2 ∧ s.2 < m) → ss.length ≤ 5 → BasesT p (rawBeside m ar (barsIn m ar ss)) ts →
  barsOf (reachOf p (rawBased p (rawBeside m ar (barsIn m ar ss)) ts)) m = dueOf m ss
def key2 (s : Nat × Nat) : List Key := [Sum.inl (s.1 : Int), Sum.inl (s.2 : Int)]
theorem key2_inj {a b : Nat × Nat} (h : key2 a = key2 b) : a = b := by
  unfold key2 at h
  injection h with h1 h2
  injection h2 with h2 _
  have h1 := Sum.inl.inj h1
  have h2 := Sum.inl.inj h2
  exact Prod.ext (by omega) (by omega)
/-- the dict of what was put -/
structure PutOk (ss ks : List (Nat × Nat)) (kvs : List (List Key × V)) : Prop where
  keys : kvs.map (·.1) = ks.map key2
  nd : ks.Nodup
  mem : ∀ s, s ∈ ks ↔ s ∈ ss
  val : ∀ s, valV kvs (key2 s) = if s ∈ ss then some (.int (ss.count s : Nat)) else none
theorem PutOk.nil : PutOk [] [] [] := ⟨rfl, .nil, fun _ => Iff.rfl, fun _ => by simp [valV_nil]⟩
theorem PutOk.len {ss ks : List (Nat × Nat)} {kvs : List (List Key × V)} (h : PutOk ss ks kvs) : kvs.length = ks.length := by
  have := congrArg List.length h.keys
  simpa using this
theorem PutOk.getD {ss ks : List (Nat × Nat)} {kvs : List (List Key × V)} (h : PutOk ss ks kvs) (s : Nat × Nat) : (valV kvs (key2 s)).getD (.int 0) = .int (ss.count s : Nat) := by
  rw [h.val]
  by_cases z : s ∈ ss
  · rw [if_pos z]
    rfl
  · rw [if_neg z, List.count_eq_zero.mpr z]
    rfl
theorem PutOk.put {ss ks : List (Nat × Nat)} {kvs : List (List Key × V)} (h : PutOk ss ks kvs) (s : Nat × Nat) : ∃ ks', PutOk (ss ++ [s]) ks' (putK kvs (key2 s) (.int ((ss.count s : Nat) + 1))) := by
  have hval : ∀ t, valV (putK kvs (key2 s) (.int ((ss.count s : Nat) + 1))) (key2 t) = if t ∈ ss ++ [s] then some (.int ((ss ++ [s]).count t : Nat)) else none := fun t => by
    rw [valV_put, h.val]
    by_cases z : t = s
    · subst z
      rw [if_pos rfl, if_pos (by simp), List.count_append, List.count_singleton_self]
      rfl
    · have ne : s ≠ t := Ne.symm z
      rw [if_neg (show ¬ key2 t = key2 s from fun e => z (key2_inj e)), List.count_append, List.count_singleton, if_neg (show ¬ (s == t) = true by simpa using ne)]
      by_cases w : t ∈ ss
      · rw [if_pos w, if_pos (by simp [w])]
        rfl
      · rw [if_neg w, if_neg (by simp [w, z])]
  by_cases z : s ∈ ss
  · refine ⟨ks, ?_, h.nd, fun t => ?_, hval⟩
    · have ha : (kvs.any fun kv => decide (kv.1 = key2 s)) = true := by rw [valV_any, h.val, if_pos z]; rfl
      unfold putK
      rw [if_pos ha, List.map_map, ← h.keys]
      refine List.map_congr_left fun kv _ => ?_
      show (if kv.1 = key2 s then (kv.1, _) else kv).1 = kv.1
      split <;> rfl
    · rw [h.mem, List.mem_append, List.mem_singleton]
      exact ⟨.inl, fun e => e.elim id fun e => e ▸ z⟩
  · refine ⟨ks ++ [s], ?_, ?_, fun t => ?_, hval⟩
    · have ha : valV kvs (key2 s) = none := by rw [h.val, if_neg z]
      rw [putK_new _ ha, List.map_append, h.keys, List.map_append]
      rfl
    · rw [List.nodup_append]
      refine ⟨h.nd, by simp, fun a ha b hb => ?_⟩
      rw [List.mem_singleton] at hb
      rw [hb]
      intro e
      exact z ((h.mem s).mp (e ▸ ha))
    · rw [List.mem_append, h.mem, List.mem_append]
theorem due_eq {m : Nat} {ss ks : List (Nat × Nat)} {ks' : List (Int × Int)} (hs : ∀ s ∈ ss, s.1 ≤ s.2 ∧ s.2 < m) (nd : ks.Nodup) (mem : ∀ s, s ∈ ks ↔ s ∈ ss)
    (pm : ks'.Perm (ks.map fun s => ((s.1 : Int), (s.2 : Int)))) (pw : ks'.Pairwise (fun a b => a.1 < b.1 ∨ (a.1 = b.1 ∧ a.2 ≤ b.2))) :
    ∃ js : List (Nat × Nat), ks' = js.map (fun s => ((s.1 : Int), (s.2 : Int))) ∧ js = (stretches m).filter (inSs ss) := by
  have e1 : ks' = (ks'.map fun q => (q.1.toNat, q.2.toNat)).map (fun s => ((s.1 : Int), (s.2 : Int))) := by
    rw [List.map_map]
    refine ((List.map_id ks').symm.trans (List.map_congr_left fun q hq => ?_))
    obtain ⟨s, _, rfl⟩ := List.mem_map.mp (pm.mem_iff.mp hq)
    rfl
  refine ⟨_, e1, ?_⟩
  have pj : (ks'.map fun q => (q.1.toNat, q.2.toNat)).Perm ks := by
    have := pm.map (fun q : Int × Int => (q.1.toNat, q.2.toNat))
    rw [List.map_map] at this
    have e2 : ks.map ((fun q : Int × Int => (q.1.toNat, q.2.toNat)) ∘ fun s => ((s.1 : Int), (s.2 : Int))) = ks := (List.map_congr_left fun s _ => rfl).trans (List.map_id ks)
    rw [e2] at this
    exact this
  generalize (ks'.map fun q => (q.1.toNat, q.2.toNat)) = js at e1 pj
  subst e1
  rw [List.pairwise_map] at pw
  have ndj : js.Nodup := pj.nodup_iff.mpr nd
  refine lex_unique (List.Pairwise.imp (fun {a b} h => ?_) (List.Pairwise.and pw ndj)) (List.Pairwise.filter _ (stretches_lex m)) fun s => ?_
  · obtain ⟨h1, h2⟩ := h
    rcases h1 with h1 | ⟨h1, h3⟩
    · exact .inl (by omega)
    · refine .inr ⟨by omega, ?_⟩
      have : a.2 ≠ b.2 := fun e => h2 (Prod.ext (by omega) e)
      omega
  · rw [pj.mem_iff, mem, List.mem_filter]
    unfold inSs
    rw [decide_eq_true_iff]
    refine ⟨fun h => ⟨?_, h⟩, fun h => h.2⟩
    exact str_mem_iff.mpr (hs s h)
section
variable {K : PySem.W.Frag} {H : Hp} {Q : VK}
theorem map_refs : ∀ {bs : List Addr} {i : Nat} {x : V}, (bs.map V.ref)[i]? = some x → ∃ b, bs[i]? = some b ∧ x = .ref b := by
  intro bs i x h
  rw [List.getElem?_map] at h
  cases e : bs[i]? with
  | none => rw [e] at h; cases h
  | some b => rw [e] at h; exact ⟨b, rfl, (Option.some.inj h).symm⟩
theorem len_many {ds : List Bool} (h : ds.length ≤ 7) {σ : L2.St} (hσ : σ[3]? = some (some (.str (wordOf ds)))) {Q' : VK} (q : Q' (.int ((ds.length + 1 : Nat) : Int)) H) : (tOp rAddI (tCB rLenZ (tCons (tVar 3) tNil)) (tC (.int 1))) σ H Q' := by
  refine ⟨_, hσ, _, rfl, Nat.le_trans (by rw [word_len]; omega : _ ≤ 1000) (by decide), _, _, rfl, rfl, ?_⟩
  have em : (((wordOf ds).length : Nat) : Int) + 1 = ((ds.length + 1 : Nat) : Int) := by rw [word_len]; rfl
  show Q' (.int ((((wordOf ds).length : Nat) : Int) + 1)) H
  rw [em]
  exact q
def sp_law (K : PySem.W.Frag) : Sp := fun vs H Q _ => ∃ (a : Addr) (ns : List Int), vs = [.ref a] ∧ SqL K H a (ns.map V.int) ∧ ns.length ≤ 70 ∧ ∀ H', Q (.bl true) H'
theorem pure_law (hU : Undo) (hW : Whole) (vs : List V) (H : Hp) (Q : VK) (E : XK) (h : sp_law K vs H Q E) : t_law K (sp_law_purse K) (sp_law_line K) (sp_law_one K) (sp_law_part K) (sp_stretches K) (sp_bar_of K) (sp_beside K) (sp_law_rebased K) (sp_bars K) (sp_law_are_just K) (sp_law_picture K) (sp_law_bars K) (Ed Q) (start n_law vs) H := by
  obtain ⟨a, ns, rfl, ha, hl, q⟩ := h
  refine ⟨_, rfl, a, ns, rfl, ha, hl, fun l lc H0 e0 p0 => ?_⟩
  refine ⟨2, rfl, by decide, by decide, ?_⟩
  refine for_it (wk_rng (n := 2)) (fun i σ H' => ∃ (v2 v3 v4 v5 v6 v7 v8 v9 v10 v11 v12 : Option V), σ = [some (.ref a), some (.ref l), v2, v3, v4, v5, v6, v7, v8, v9, v10, v11, v12, none, none, none] ∧ PuAt l lc H')
    ⟨_, _, _, _, _, _, _, _, _, _, _, rfl, p0⟩ (fun _ _ _ _ _ => trivial) ?_ ?_
  · rintro turn x σ Hx H1 hi ⟨v2, v3, v4, v5, v6, v7, v8, v9, v10, v11, v12, rfl, p1⟩ ⟨rfl, rfl⟩
    refine ⟨_, rfl, l, lc, 7, rfl, p1, by decide, fun ds t vw H2 lds b2 p2 ht hw => ?_⟩
    refine ⟨t, _, rfl, SqT.of ht, rfl, _, _, rfl, _, _, rfl, rfl, ?_⟩
    -- prime, many
    refine ⟨_, rfl, (by show 5 ≤ sizeLine; decide), fun aP nP => ?_⟩
    have e3 := Same.upd (o := .lst [.int 2, .int 2, .int 3, .int 5, .int 13]) nP
    refine ⟨l, lc, aP, _, rfl, p2.mono e3, (p2.ne nP).1, upd_same, (by decide), (by decide), fun pv H4 b4 p4 hpv => ?_⟩
    have k24 := (Keep.of e3).trans (But.keep (p2.mono e3) b4)
    have hw4 := immWeb _ _ _ _ k24 hw
    obtain ⟨p, rfl, hp⟩ : ∃ p : Int, pv = .int p ∧ okP p := by
      simp only [List.mem_cons, List.mem_singleton, List.not_mem_nil, or_false] at hpv
      rcases hpv with rfl | rfl | rfl | rfl | rfl
      · exact ⟨2, rfl, .inl rfl⟩
      · exact ⟨2, rfl, .inl rfl⟩
      · exact ⟨3, rfl, .inr (.inl rfl)⟩
      · exact ⟨5, rfl, .inr (.inr (.inl rfl))⟩
      · exact ⟨13, rfl, .inr (.inr (.inr rfl))⟩
    have hp1 := hp.lo
    refine len_many lds rfl ⟨_, _, rfl, ?_⟩
    have li := lineArr_ok lds
    -- put, pieces
    refine fun aD nD => ⟨Nat.zero_le _, fun aL nL => ⟨(by show 2 ≤ sizeLine; decide), fun t5 n5 => ?_⟩⟩
    have e5 := Same.trans (Same.upd (o := .dT []) nD) (Same.trans (Same.upd (o := .lst []) nL) (Same.upd (o := .tup [.ref aD, .ref aL]) n5))
    have nDL : aD ≠ aL := fun z => by rw [← z, upd_same] at nL; cases nL
    have nL4 : H4 aL = none := by rw [upd_ne (Ne.symm nDL)] at nL; exact nL
    have hD5 : upd (upd (upd H4 aD (.dT [])) aL (.lst [])) t5 (.tup [.ref aD, .ref aL]) aD = some (.dT []) := (Same.trans (Same.upd nL) (Same.upd n5)) _ _ upd_same
    have hL5 : upd (upd (upd H4 aD (.dT [])) aL (.lst [])) t5 (.tup [.ref aD, .ref aL]) aL = some (.lst []) := (Same.upd n5) _ _ upd_same
    have hT5 : SqT K (upd (upd (upd H4 aD (.dT [])) aL (.lst [])) t5 (.tup [.ref aD, .ref aL])) t5 [.ref aD, .ref aL] := SqT.of upd_same
    generalize upd (upd (upd H4 aD (.dT [])) aL (.lst [])) t5 (.tup [.ref aD, .ref aL]) = H5 at e5 hD5 hL5 hT5 ⊢
    have nDl := (p4.ne nD)
    have nLl := (p4.ne nL4)
    refine ⟨t5, _, rfl, hT5, rfl, _, _, rfl, _, _, rfl, rfl, ?_⟩
    -- the pieces
    refine ⟨_, rfl, l, lc, 6, rfl, p4.mono e5, by decide, by decide, fun N H6 b6 p6 hN => ⟨(N : Int), rfl, by omega, by omega, ?_⟩⟩
    rw [Int.toNat_natCast]
    have k56 := But.keep (p4.mono e5) b6
    refine for_it (wk_rng (n := N)) (fun i σ H' => ∃ (ss ks : List (Nat × Nat)) (kvs : List (List Key × V)) (zs : List V) (v9 v10 : Option V), σ = [some (.ref a), some (.ref l), some (.int (turn : Nat)), some (.str (wordOf ds)), some vw, some (.int p), some (.int ((ds.length + 1 : Nat) : Int)), some (.ref aD), some (.ref aL), v9, v10, v11, v12, none, none, none] ∧ PuAt l lc H' ∧
        rhWeb K H' vw (ds.length + 1, lineArr ds) ∧ ss.length = i ∧ (∀ s ∈ ss, s.1 ≤ s.2 ∧ s.2 < ds.length + 1) ∧ PutOk ss ks kvs ∧ kvs.length ≤ i ∧ H' aD = some (.dT kvs) ∧ H' aL = some (.lst zs) ∧ Paired (rhPic K p H') zs (barsIn (ds.length + 1) (lineArr ds) ss))
      ⟨[], [], [], [], _, _, rfl, p6, immWeb _ _ _ _ ((Keep.of e5).trans k56) hw4, rfl, fun _ h => (nomatch h), PutOk.nil, Nat.le_refl _, b6 _ _ nDl.1 hD5, b6 _ _ nLl.1 hL5, .nil⟩ (fun _ _ _ _ _ => trivial) ?_ ?_
    · rintro i x σ Hx H7 hi ⟨ss, ks, kvs, zs, v9, v10, rfl, p7, hw7, lss, hss, po, lkv, hD7, hL7, pZ⟩ ⟨rfl, rfl⟩
      refine ⟨_, rfl, _, rfl, ds.length + 1, rfl, by omega, fun aX xs H8 e8 hX pX => ?_⟩
      have lX := Paired.len pX
      have lst := str_len (ds.length + 1)
      have l64 : (ds.length + 1) * (ds.length + 1) ≤ 64 := Nat.le_trans (Nat.mul_le_mul (by omega : ds.length + 1 ≤ 8) (by omega : ds.length + 1 ≤ 8)) (by decide)
      have h00 : (0, 0) ∈ stretches (ds.length + 1) := str_mem_iff.mpr ⟨Nat.le_refl _, by omega⟩
      have hpos := List.length_pos_of_mem h00
      have p8 := p7.mono e8
      have nXl : aX ≠ l := fun z => by
        subst z
        obtain ⟨_, i0, r0, s0, m0, cs0, h1, _⟩ := p8
        rw [h1] at hX
        cases hX
        obtain ⟨_, _, t, et, _⟩ := Paired.at pX (i := 1) rfl
        cases et
      refine ⟨l, lc, aX, xs, rfl, p8, nXl, hX, by omega, by omega, fun y H9 b9 p9 hy => ?_⟩
      obtain ⟨yi, hyi, rfl⟩ := List.getElem_of_mem hy
      obtain ⟨s, hs1, tS, etS, htS⟩ := Paired.at pX (List.getElem?_eq_getElem hyi)
      obtain ⟨m1, m2⟩ := str_mem hs1
      rw [etS]
      have k9 := But.keep p8 b9
      have ht9 : H9 tS = some (.tup [.int (s.1 : Nat), .int (s.2 : Nat)]) := k9 _ _ trivial htS
      have hD9 := b9 _ _ nDl.1 (e8 _ _ hD7)
      have hL9 := b9 _ _ nLl.1 (e8 _ _ hL7)
      have k79 := (Keep.of e8).trans k9
      have lpo := po.len
      -- put[pair] = put.get(pair, 0) + 1
      refine ⟨_, rfl, aD, rfl, .inr ⟨kvs, .inl hD9⟩, _, rfl, _, DGet.t (k := key2 s) hD9 ht9, ?_⟩
      rw [po.getD s]
      refine ⟨_, _, rfl, rfl, _, rfl, _, rfl, aD, _, rfl, DPut.t (k := key2 s) hD9 ht9 (Nat.lt_of_le_of_lt (by omega : kvs.length ≤ 1000) (by decide)), ?_⟩
      have kA : Keep H9 (upd H9 aD (.dT (putK kvs (key2 s) (.int ((ss.count s : Nat) + 1))))) := Keep.put (Keep.refl _) hD9 (fun z => z)
      have pA : PuAt l lc (upd H9 aD (.dT (putK kvs (key2 s) (.int ((ss.count s : Nat) + 1))))) := p9.upd nDl.1 nDl.2
      have hDA : upd H9 aD (.dT (putK kvs (key2 s) (.int ((ss.count s : Nat) + 1)))) aD = some (.dT (putK kvs (key2 s) (.int ((ss.count s : Nat) + 1)))) := upd_same
      have hLA : upd H9 aD (.dT (putK kvs (key2 s) (.int ((ss.count s : Nat) + 1)))) aL = some (.lst zs) := by rw [upd_ne (Ne.symm nDL)]; exact hL9
      obtain ⟨ks', po'⟩ := po.put s
      have lk' := length_putK kvs (key2 s) (.int ((ss.count s : Nat) + 1))
      have htA := kA tS (.tup [.int (s.1 : Nat), .int (s.2 : Nat)]) trivial ht9
      have k7A := k79.trans kA
      generalize upd H9 aD (.dT (putK kvs (key2 s) (.int ((ss.count s : Nat) + 1)))) = HA at kA pA hDA hLA htA k7A ⊢
      -- pieces.append(bar_of(..))
      refine ⟨_, rfl, .inl ⟨rfl, _, SqL.of hLA⟩, _, rfl, _, rfl, _, rfl, tS, _, _, _, rfl, rfl, SqT.of htA, atI0, _, rfl, tS, _, _, _, rfl, rfl, SqT.of htA, atI_nat (j := 1) rfl, ?_⟩
      refine ⟨p, vw, (ds.length + 1, lineArr ds), s.1, s.2, rfl, hp, immWeb _ _ _ _ k7A hw7, li, m1, m2, fun u HB eB hu => ?_⟩
      have hLB := eB _ _ hLA
      have lz := Paired.len pZ
      have lbi : (barsIn (ds.length + 1) (lineArr ds) ss).length = ss.length := by simp [barsIn]
      have kB := Keep.putL (o := .lst (zs ++ [u])) (Keep.refl _) hLB
      refine ⟨aL, zs, u, rfl, rfl, hLB, Nat.lt_of_le_of_lt (by omega : zs.length ≤ 1000) (by decide), ss ++ [s], ks', _, zs ++ [u], _, _, rfl, (pA.mono eB).upd nLl.1 nLl.2, immWeb _ _ _ _ (k7A.trans ((Keep.of eB).trans kB)) hw7, by simp [lss], fun s' hs' => ?_, po', by omega, by rw [upd_ne nDL]; exact eB _ _ hDA, upd_same, ?_⟩
      · rcases List.mem_append.mp hs' with hs' | hs'
        · exact hss s' hs'
        · rw [List.mem_singleton] at hs'
          subst hs'
          exact ⟨m1, m2⟩
      · have eb : barsIn (ds.length + 1) (lineArr ds) (ss ++ [s]) = barsIn (ds.length + 1) (lineArr ds) ss ++ [rawBar (ds.length + 1) (lineArr ds) s.1 s.2] := by simp [barsIn]
        rw [eb]
        exact Paired.app (Paired.keep immPic (k7A.trans ((Keep.of eB).trans kB)) pZ) (.cons (immPic _ _ _ _ kB hu) .nil)
    · rintro σ H7 ⟨ss, ks, kvs, zs, v9, v10, rfl, p7, hw7, lss, hss, po, lkv, hD7, hL7, pZ⟩
      have lpo := po.len
      have lz := Paired.len pZ
      have lbi : (barsIn (ds.length + 1) (lineArr ds) ss).length = ss.length := by simp [barsIn]
      -- due
      refine ⟨_, rfl, aD, kvs, ks.map (fun s => ((s.1 : Int), (s.2 : Int))), 8, rfl, hD7, by omega, by rw [po.keys, List.map_map]; rfl, fun q hq => ?_, fun ks' bs aS H8 pm pw e8 nS hS pS => ?_⟩
      · obtain ⟨s, hs, rfl⟩ := List.mem_map.mp hq
        have := hss s ((po.mem s).mp hs)
        exact ⟨by show (0 : Int) ≤ (s.1 : Int); omega, by show (s.1 : Int) < 8; omega, by show (0 : Int) ≤ (s.2 : Int); omega, by show (s.2 : Int) < 8; omega⟩
      obtain ⟨js, rfl, hjs⟩ := due_eq (m := ds.length + 1) hss po.nd po.mem pm pw
      have lS := Paired.len pS
      rw [List.length_map] at lS
      have lj : js.length = ks.length := by
        have := pm.length_eq
        simpa using this
      have p8 := p7.mono e8
      have edue : dueOf (ds.length + 1) ss = js.map fun s => (s.1, s.2, (ss.count s : Int)) := by rw [hjs]; rfl
      refine ⟨aS, rfl, ⟨_, SqL.of hS⟩, fun D nD9 => ?_⟩
      refine lc_all (r := rhTri K) (walk_list (xs := bs.map V.ref)) (dueOf (ds.length + 1) ss) (by rw [edue]; simp [lS]) (by simp; omega) immTri nD9 (fun H' e => SqL.of (e _ _ hS)) ?_ ?_
      · rintro i x c Hx H9 Q' hc e9 ⟨rfl, hx⟩ k'
        obtain ⟨b, hb, rfl⟩ := map_refs hx
        obtain ⟨jq, hjq, hbt⟩ := Paired.at pS hb
        rw [List.getElem?_map] at hjq
        cases hj : js[i]? with
        | none => rw [hj] at hjq; cases hjq
        | some s =>
          rw [hj] at hjq
          cases hjq
          have ec : c = (s.1, s.2, (ss.count s : Int)) := by
            rw [edue, List.getElem?_map, hj] at hc
            exact (Option.some.inj hc).symm
          have hs : s ∈ ss := by
            have := List.mem_of_getElem? hj
            rw [hjs, List.mem_filter] at this
            have h2 := this.2
            unfold inSs at h2
            exact of_decide_eq_true h2
          have hD9 := e9 _ _ (e8 _ _ hD7)
          refine g_pair (e9 _ _ hbt) ⟨rfl, _, rfl, _, rfl, _, rfl, _, rfl, _, rfl, (by show 2 ≤ sizeLine; decide), fun t1 n1 => ?_⟩
          have s1 := Same.upd (o := .tup [.int (s.1 : Int), .int (s.2 : Int)]) n1
          refine ⟨aD, _, rfl, by rw [← show valV kvs (key2 s) = some (.int (ss.count s : Nat)) by rw [po.val, if_pos hs]]; exact DGet.t (k := key2 s) (s1 _ _ hD9) upd_same, (by show 3 ≤ sizeLine; decide), fun t2 n2 => k' _ _ (Same.trans s1 (Same.upd n2)) ?_⟩
          rw [ec]
          exact ⟨t2, rfl, SqT.of upd_same⟩
      · intro H9 ys e9 f1 f2
        refine ⟨D, ys, rfl, .inl ⟨SqL.of f1, fun aU nU => ?_⟩⟩
        have e10 := Same.upd (o := .tup ys) nU
        have hdue : rhT K (rhTri K) (upd H9 aU (.tup ys)) (.ref aU) (dueOf (ds.length + 1) ss) := ⟨aU, ys, rfl, SqT.of upd_same, Paired.keep immTri (Keep.of e10) f2⟩
        have e710 := Same.trans e8 (Same.trans e9 e10)
        have p10 := p7.mono e710
        have hL10 := e710 _ _ hL7
        have pZ10 := Paired.keep immPic (Keep.of e710) pZ
        have hw10 := immWeb _ _ _ _ (Keep.of e710) hw7
        generalize upd H9 aU (.tup ys) = H10 at hdue e710 p10 hL10 pZ10 hw10 ⊢
        have okB := beside_pcOk (p := p) (by omega) li (ss := ss) (by omega)
        -- bars(rebased(purse, beside(..)))
        refine ⟨_, rfl, _, rfl, _, rfl, _, rfl, p, vw, (ds.length + 1, lineArr ds), aL, zs, barsIn (ds.length + 1) (lineArr ds) ss, rfl, hp, hw10, hL10, pZ10, by show ds.length + 1 ≤ 8; omega, by have := li.1; show (lineArr ds).length ≤ 12; omega, by omega, fun c hc => ?_, fun vB H11 e11 hB => ?_⟩
        · unfold barsIn at hc
          obtain ⟨s, _, rfl⟩ := List.mem_map.mp hc
          exact bar_pcLe (ds.length + 1, lineArr ds) s.1 s.2
        have p11 := p10.mono e11
        refine ⟨l, lc, p, vB, _, rfl, p11, hp, hB, okB, fun vR ts H12 b12 p12 bt hR => ?_⟩
        have eW := hW p (ds.length + 1) (lineArr ds) ss ts hp li hss (by omega) bt
        have okR := based_pcOk (p := p) (by omega) okB (bt.ok hU hp)
        refine ⟨p, vR, _, rfl, hp, hR, okR, fun u H13 e13 h13 => ?_⟩
        have h13' : rhT K (rhTri K) H13 u (dueOf (ds.length + 1) ss) := by rw [← eW]; exact h13
        have b1013 := ((But.of e11).trans b12).trans (But.of e13)
        have p13 := p12.mono e13
        have k1013 := But.keep p10 b1013
        have ldue : (dueOf (ds.length + 1) ss).length ≤ 1000 := by rw [edue, List.length_map]; omega
        refine ⟨_, rfl, u, .ref aU, dueOf (ds.length + 1) ss, rfl, h13', immT immTri _ _ _ _ k1013 hdue, ldue, fun H14 e14 => ⟨true, rfl, ite_f ?_⟩⟩
        have p14 := p13.mono e14
        -- a drawn picture
        refine ⟨_, rfl, l, lc, 5, rfl, p14, by decide, fun ds2 t2 vw2 H15 lds2 b15 p15 ht15 hw15 => ?_⟩
        have li2 := lineArr_ok (by omega : ds2.length ≤ 7)
        refine ⟨t2, _, rfl, SqT.of ht15, rfl, _, _, rfl, _, _, rfl, rfl, ?_⟩
        refine ⟨_, rfl, _, rfl, _, rfl, ?_⟩
        refine len_many (by omega : ds2.length ≤ 7) rfl ⟨_, rfl, by omega, by omega, fun D2 nD2 => ?_⟩
        rw [Int.toNat_natCast]
        refine lc_pu (r := rhN) (l := l) (lc := lc) (ψ := fun _ n => n < 4) (wk_rng (n := ds2.length + 1)) (by omega) immN nD2 p15 (fun _ _ _ => trivial) ?_ ?_
        · rintro i x H16 H17 Q' hi b16 p16 ⟨rfl, rfl⟩ k'
          exact ⟨rfl, _, rfl, l, lc, 4, rfl, p16, by decide, by decide, fun k H18 b18 p18 hk => k' _ k H18 b18 p18 rfl hk⟩
        · intro H16 ys2 ns2 b16 p16 g1 g2 g3 g4
          refine ⟨D2, ys2, rfl, .inl ⟨SqL.of g1, fun l2 n2 => ?_⟩⟩
          have e17 := Same.upd (o := .tup ys2) n2
          have k16 := But.keep p15 b16
          have hw17 := immWeb _ _ _ _ (k16.trans (Keep.of e17)) hw15
          refine ⟨l, lc, p, vw2, .ref l2, (ds2.length + 1, lineArr ds2), ns2, rfl, p16.mono e17, hp, hw17, li2, ⟨l2, ys2, rfl, SqT.of upd_same, Paired.keep immN (Keep.of e17) g3⟩, g2, fun n hn => ?_, fun vP c H18 b18 p18 hP okP' => ?_⟩
          · obtain ⟨i, hi, rfl⟩ := List.getElem_of_mem hn
            have := g4 i _ (List.getElem?_eq_getElem hi)
            omega
          refine ⟨_, rfl, p, vP, c, rfl, hp, hP, okP', fun u2 H19 e19 h19 => ?_⟩
          refine ⟨_, rfl, p, vP, c, rfl, hp, immPic _ _ _ _ (Keep.of e19) hP, okP', fun u3 H20 e20 h20 => ?_⟩
          have lb : (barsOf (reachOf p c) c.many).length ≤ 1000 := by
            unfold barsOf
            have h1 := List.length_filter_le (fun t : Nat × Nat × Int => decide (0 < t.2.2)) ((stretches c.many).map fun s => (s.1, s.2, countOf (reachOf p c) c.many s.1 s.2))
            rw [List.length_map] at h1
            have h2 := str_len c.many
            have h3 : c.many ≤ 8 := okP'.li.2.1
            have h4 : c.many * c.many ≤ 64 := Nat.le_trans (Nat.mul_le_mul h3 h3) (by decide)
            omega
          refine ⟨u2, u3, _, rfl, immT immTri _ _ _ _ (Keep.of e20) h19, h20, lb, fun H21 e21 => ⟨true, rfl, ite_f ?_⟩⟩
          exact ⟨_, _, _, _, _, _, _, _, _, _, _, rfl, p18.mono (Same.trans e19 (Same.trans e20 e21))⟩
  · rintro σ H1 ⟨v2, v3, v4, v5, v6, v7, v8, v9, v10, v11, v12, rfl, p1⟩
    exact q _
end
end K33
namespace K33
/-! ### sums and spans over a field -/
section
variable {F : Type} [Lean.Grind.CommRing F]
def sm (f : Nat → F) : Nat → F
  | 0 => 0
  | n + 1 => sm f n + f n
theorem sm_congr {f g : Nat → F} : ∀ {n : Nat}, (∀ i, i < n → f i = g i) → sm f n = sm g n
  | 0, _ => rfl
  | n + 1, h => by
    show sm f n + f n = sm g n + g n
    rw [sm_congr (fun i hi => h i (by omega)), h n (by omega)]
theorem sm_zero {f : Nat → F} : ∀ {n : Nat}, (∀ i, i < n → f i = 0) → sm f n = 0
  | 0, _ => rfl
  | n + 1, h => by
    show sm f n + f n = 0
    rw [sm_zero (fun i hi => h i (by omega)), h n (by omega)]
    grind
theorem sm_add (f g : Nat → F) : ∀ n, sm (fun i => f i + g i) n = sm f n + sm g n
  | 0 => by
    show (0 : F) = 0 + 0
    grind
  | n + 1 => by
    show sm (fun i => f i + g i) n + (f n + g n) = (sm f n + f n) + (sm g n + g n)
    rw [sm_add f g n]
    grind
theorem sm_mul (a : F) (f : Nat → F) : ∀ n, sm (fun i => a * f i) n = a * sm f n
  | 0 => by
    show (0 : F) = a * 0
    grind
  | n + 1 => by
    show sm (fun i => a * f i) n + a * f n = a * (sm f n + f n)
    rw [sm_mul a f n]
    grind
theorem sm_swap (f : Nat → Nat → F) (m : Nat) : ∀ n, sm (fun i => sm (fun j => f i j) m) n = sm (fun j => sm (fun i => f i j) n) m
  | 0 => (sm_zero (fun _ _ => rfl)).symm
  | n + 1 => by
    show sm (fun i => sm (fun j => f i j) m) n + sm (fun j => f n j) m = _
    rw [sm_swap f m n, ← sm_add]
    rfl
theorem sm_one {f : Nat → F} {k : Nat} : ∀ {n : Nat}, k < n → (∀ i, i < n → i ≠ k → f i = 0) → sm f n = f k
  | n + 1, hk, h => by
    show sm f n + f n = f k
    by_cases z : k = n
    · subst z
      rw [sm_zero (fun i hi => h i (by omega) (by omega))]
      grind
    · rw [sm_one (k := k) (by omega) (fun i hi => h i (by omega)), h n (by omega) (Ne.symm z)]
      grind
/-- all but i0 -/
def skp (i0 i : Nat) : Nat := if i < i0 then i else i + 1
theorem sm_skip (f : Nat → F) {i0 : Nat} : ∀ {n : Nat}, i0 < n + 1 → sm f (n + 1) = f i0 + sm (fun i => f (skp i0 i)) n
  | 0, h => by
    have : i0 = 0 := by omega
    subst this
    show (0 : F) + f 0 = f 0 + 0
    grind
  | n + 1, h => by
    show sm f (n + 1) + f (n + 1) = f i0 + (sm (fun i => f (skp i0 i)) n + f (skp i0 n))
    by_cases z : i0 = n + 1
    · subst z
      have e : sm f (n + 1) = sm (fun i => f (skp (n + 1) i)) (n + 1) := sm_congr fun i hi => by
        show f i = f (skp (n + 1) i)
        unfold skp
        rw [if_pos hi]
      rw [e]
      show sm (fun i => f (skp (n + 1) i)) n + f (skp (n + 1) n) + f (n + 1) = _
      grind
    · rw [sm_skip f (i0 := i0) (n := n) (by omega)]
      have e : skp i0 n = n + 1 := by
        unfold skp
        rw [if_neg (by omega)]
      rw [e]
      grind
/-- more unknowns than equations -/
theorem dep (hinv : ∀ x : F, x ≠ 0 → ∃ y, x * y = 1) (h10 : (1 : F) ≠ 0) : ∀ (m n : Nat) (a : Nat → Nat → F), m < n → ∃ c : Nat → F, (∃ i, i < n ∧ c i ≠ 0) ∧ ∀ j, j < m → sm (fun i => c i * a i j) n = 0
  | 0, n, a, h => ⟨fun _ => 1, ⟨0, h, h10⟩, fun j hj => absurd hj (by omega)⟩
  | m + 1, n, a, h => by
    by_cases z : ∀ i, i < n → a i m = 0
    · obtain ⟨c, hc, hs⟩ := dep hinv h10 m n a (by omega)
      refine ⟨c, hc, fun j hj => ?_⟩
      by_cases w : j = m
      · subst w
        exact sm_zero fun i hi => by
          rw [z i hi]
          grind
      · exact hs j (by omega)
    · have : ∃ i0, i0 < n ∧ a i0 m ≠ 0 := Classical.byContradiction fun no => z fun i hi => Classical.byContradiction fun ne => no ⟨i, hi, ne⟩
      obtain ⟨i0, hi0, ne⟩ := this
      obtain ⟨y, hy⟩ := hinv _ ne
      obtain ⟨n, rfl⟩ : ∃ k, n = k + 1 := ⟨n - 1, by omega⟩
      obtain ⟨c', ⟨i1, hi1, hc1⟩, hs⟩ := dep hinv h10 m n (fun i j => a (skp i0 i) j - a (skp i0 i) m * y * a i0 j) (by omega)
      have hsk : ∀ i, (if skp i0 i < i0 then c' (skp i0 i) else if skp i0 i = i0 then -(sm (fun i => c' i * a (skp i0 i) m) n) * y else c' (skp i0 i - 1)) = c' i := fun i => by
        unfold skp
        by_cases w : i < i0
        · rw [if_pos w, if_pos w]
        · rw [if_neg w, if_neg (by omega), if_neg (by omega), Nat.add_sub_cancel]
      refine ⟨fun i => if i < i0 then c' i else if i = i0 then -(sm (fun i => c' i * a (skp i0 i) m) n) * y else c' (i - 1), ⟨skp i0 i1, ?_, ?_⟩, fun j hj => ?_⟩
      · unfold skp
        split <;> omega
      · show (if skp i0 i1 < i0 then c' (skp i0 i1) else if skp i0 i1 = i0 then -(sm (fun i => c' i * a (skp i0 i) m) n) * y else c' (skp i0 i1 - 1)) ≠ 0
        rw [hsk]
        exact hc1
      · rw [sm_skip _ (i0 := i0) hi0]
        have e1 : sm (fun i => (fun i => (if i < i0 then c' i else if i = i0 then -(sm (fun i => c' i * a (skp i0 i) m) n) * y else c' (i - 1)) * a i j) (skp i0 i)) n = sm (fun i => c' i * a (skp i0 i) j) n := sm_congr fun i hi => by
          show (if skp i0 i < i0 then c' (skp i0 i) else if skp i0 i = i0 then -(sm (fun i => c' i * a (skp i0 i) m) n) * y else c' (skp i0 i - 1)) * a (skp i0 i) j = _
          rw [hsk]
        rw [e1]
        show (if i0 < i0 then c' i0 else if i0 = i0 then -(sm (fun i => c' i * a (skp i0 i) m) n) * y else c' (i0 - 1)) * a i0 j + _ = 0
        rw [if_neg (by omega), if_pos rfl]
        by_cases w : j = m
        · subst w
          grind
        · have h2 := hs j (by omega)
          have e2 : sm (fun i => c' i * (a (skp i0 i) j - a (skp i0 i) m * y * a i0 j)) n = sm (fun i => c' i * a (skp i0 i) j) n + -(y * a i0 j) * sm (fun i => c' i * a (skp i0 i) m) n := by
            rw [← sm_mul, ← sm_add]
            exact sm_congr fun i hi => by grind
          rw [e2] at h2
          grind
/-- what some vectors span -/
inductive Sp (S : (Nat → F) → Prop) : (Nat → F) → Prop where
  | zero : Sp S (fun _ => 0)
  | step {x v : Nat → F} (a : F) (hx : S x) (hv : Sp S v) : Sp S (fun j => a * x j + v j)
theorem Sp.eq {S : (Nat → F) → Prop} {v w : Nat → F} (h : Sp S v) (e : ∀ j, v j = w j) : Sp S w := (funext e : v = w) ▸ h
theorem Sp.add {S : (Nat → F) → Prop} {v w : Nat → F} (h : Sp S v) (g : Sp S w) : Sp S (fun j => v j + w j) := by
  induction h with
  | zero => exact g.eq fun j => by grind
  | step a hx hv ih => exact (Sp.step a hx ih).eq fun j => by grind
theorem Sp.smul {S : (Nat → F) → Prop} {v : Nat → F} (b : F) (h : Sp S v) : Sp S (fun j => b * v j) := by
  induction h with
  | zero => exact Sp.zero.eq fun j => by grind
  | step a hx hv ih => exact (Sp.step (b * a) hx ih).eq fun j => by grind
theorem Sp.of {S : (Nat → F) → Prop} {x : Nat → F} (h : S x) : Sp S x := (Sp.step 1 h .zero).eq fun j => by grind
theorem Sp.trans {S T : (Nat → F) → Prop} (h : ∀ x, S x → Sp T x) {v : Nat → F} (g : Sp S v) : Sp T v := by
  induction g with
  | zero => exact .zero
  | step a hx hv ih => exact ((h _ hx).smul a).add ih
theorem Sp.mono {S T : (Nat → F) → Prop} (h : ∀ x, S x → T x) {v : Nat → F} (g : Sp S v) : Sp T v := Sp.trans (fun x hx => .of (h x hx)) g
theorem Sp.sum {S : (Nat → F) → Prop} {w : Nat → Nat → F} (c : Nat → F) : ∀ {n : Nat}, (∀ i, i < n → Sp S (w i)) → Sp S (fun j => sm (fun i => c i * w i j) n)
  | 0, _ => Sp.zero
  | n + 1, h => (Sp.sum c (fun i hi => h i (by omega))).add ((h n (by omega)).smul (c n))
/-- the first m of some vectors -/
def Am (w : Nat → Nat → F) (m : Nat) : (Nat → F) → Prop := fun x => ∃ k, k < m ∧ x = w k
theorem Sp.coef {w : Nat → Nat → F} {m : Nat} {v : Nat → F} (h : Sp (Am w m) v) : ∃ c : Nat → F, ∀ j, v j = sm (fun k => c k * w k j) m := by
  induction h with
  | zero => exact ⟨fun _ => 0, fun j => (sm_zero fun i hi => by grind).symm⟩
  | @step x v a hx hv ih =>
    obtain ⟨k, hk, rfl⟩ := hx
    obtain ⟨c, hc⟩ := ih
    refine ⟨fun i => (if i = k then a else 0) + c i, fun j => ?_⟩
    have e : sm (fun i => ((if i = k then a else 0) + c i) * w i j) m = sm (fun i => (if i = k then a else 0) * w i j) m + sm (fun i => c i * w i j) m := by
      rw [← sm_add]
      exact sm_congr fun i hi => by grind
    rw [e, ← hc, sm_one (k := k) hk (fun i hi ne => by rw [if_neg ne]; grind), if_pos rfl]
/-- independent -/
def Ind (v : Nat → Nat → F) (n : Nat) : Prop := ∀ c : Nat → F, (∀ j, sm (fun i => c i * v i j) n = 0) → ∀ i, i < n → c i = 0
theorem steinitz (hinv : ∀ x : F, x ≠ 0 → ∃ y, x * y = 1) (h10 : (1 : F) ≠ 0) {v w : Nat → Nat → F} {n m : Nat} (hi : Ind v n) (hs : ∀ i, i < n → Sp (Am w m) (v i)) : n ≤ m := by
  refine Classical.byContradiction fun no => ?_
  have hc : ∃ a : Nat → Nat → F, ∀ i, i < n → ∀ j, v i j = sm (fun k => a i k * w k j) m := by
    refine ⟨fun i => if h : i < n then Classical.choose (hs i h).coef else fun _ => 0, fun i h j => ?_⟩
    show v i j = sm (fun k => (if h : i < n then Classical.choose (hs i h).coef else fun _ => 0) k * w k j) m
    rw [dif_pos h]
    exact Classical.choose_spec (hs i h).coef j
  obtain ⟨a, ha⟩ := hc
  obtain ⟨c, ⟨i, hin, ne⟩, hz⟩ := dep hinv h10 m n a (by omega)
  refine ne (hi c (fun j => ?_) i hin)
  have e1 : sm (fun i => c i * v i j) n = sm (fun i => sm (fun k => c i * (a i k * w k j)) m) n := sm_congr fun i hi => by
    rw [ha i hi j, sm_mul]
  rw [e1, sm_swap]
  refine sm_zero fun k hk => ?_
  have e2 : sm (fun i => c i * (a i k * w k j)) n = w k j * sm (fun i => c i * a i k) n := by
    rw [← sm_mul]
    exact sm_congr fun i hi => by grind
  rw [e2, hz k hk]
  grind
/-- a linear functional -/
structure Lin (f : (Nat → F) → F) : Prop where
  zero : f (fun _ => 0) = 0
  step : ∀ (a : F) (x v : Nat → F), f (fun j => a * x j + v j) = a * f x + f v
theorem Lin.sum {f : (Nat → F) → F} (h : Lin f) (c : Nat → F) (w : Nat → Nat → F) : ∀ n, f (fun j => sm (fun i => c i * w i j) n) = sm (fun i => c i * f (w i)) n
  | 0 => h.zero
  | n + 1 => by
    have e : (fun j => sm (fun i => c i * w i j) (n + 1)) = fun j => c n * w n j + sm (fun i => c i * w i j) n := funext fun j => by
      show sm (fun i => c i * w i j) n + c n * w n j = _
      grind
    rw [e, h.step, Lin.sum h c w n]
    show c n * f (w n) + sm (fun i => c i * f (w i)) n = sm (fun i => c i * f (w i)) n + c n * f (w n)
    grind
theorem Lin.sp {f : (Nat → F) → F} (h : Lin f) {S : (Nat → F) → Prop} (hS : ∀ x, S x → f x = 0) {v : Nat → F} (g : Sp S v) : f v = 0 := by
  induction g with
  | zero => exact h.zero
  | step a hx hv ih =>
    rw [h.step, hS _ hx, ih]
    grind
/-- the number of rows that come in new -/
theorem rank_more (hinv : ∀ x : F, x ≠ 0 → ∃ y, x * y = 1) (h10 : (1 : F) ≠ 0) {A B u : Nat → Nat → F} {nA nB N : Nat} (iA : Ind A nA) (iB : Ind B nB) (φ : Nat → (Nat → F) → F) (hl : ∀ k, k < N → Lin (φ k)) (hA : ∀ k i, k < N → i < nA → φ k (A i) = 0) (hu : ∀ k i, k < N → i < N → φ k (u i) = if i = k then 1 else 0)
    (s1 : ∀ i, i < nB → Sp (fun x => Am A nA x ∨ Am u N x) (B i)) (s2 : ∀ i, i < nA → Sp (Am B nB) (A i)) (s3 : ∀ i, i < N → Sp (Am B nB) (u i)) : nB = nA + N := by
  have hC : ∀ (c : Nat → F) (j : Nat), sm (fun i => c i * (if i < nA then A i else u (i - nA)) j) (nA + N) = sm (fun i => c i * A i j) nA + sm (fun i => c (nA + i) * u i j) N := by
    intro c j
    clear hu s1 s3 hl hA
    induction N with
    | zero =>
      show sm _ nA = sm _ nA + 0
      rw [show sm (fun i => c i * (if i < nA then A i else u (i - nA)) j) nA = sm (fun i => c i * A i j) nA from sm_congr fun i hi => by rw [if_pos hi]]
      grind
    | succ N ih =>
      show sm (fun i => c i * (if i < nA then A i else u (i - nA)) j) (nA + N) + c (nA + N) * (if nA + N < nA then A (nA + N) else u (nA + N - nA)) j = sm (fun i => c i * A i j) nA + (sm (fun i => c (nA + i) * u i j) N + c (nA + N) * u N j)
      rw [ih, if_neg (by omega), Nat.add_sub_cancel_left]
      grind
  have iC : Ind (fun i => if i < nA then A i else u (i - nA)) (nA + N) := by
    intro c hz
    have hk : ∀ k, k < N → c (nA + k) = 0 := by
      intro k hk
      have h1 : (fun j => (fun j => sm (fun i => c i * A i j) nA) j + (fun j => sm (fun i => c (nA + i) * u i j) N) j) = fun _ => 0 := funext fun j => by rw [← hz j, hC]
      have h2 : φ k (fun j => 1 * (fun j => sm (fun i => c i * A i j) nA) j + (fun j => sm (fun i => c (nA + i) * u i j) N) j) = 0 := by
        rw [show (fun j => 1 * (fun j => sm (fun i => c i * A i j) nA) j + (fun j => sm (fun i => c (nA + i) * u i j) N) j) = fun _ => 0 from (funext fun j => by grind) |>.trans h1]
        exact (hl k hk).zero
      rw [(hl k hk).step, (hl k hk).sum, (hl k hk).sum] at h2
      rw [sm_zero (fun i hi => by rw [hA k i hk hi]; grind), sm_one (k := k) hk (fun i hi ne => by rw [hu k i hk hi, if_neg ne]; grind), hu k k hk hk, if_pos rfl] at h2
      grind
    intro i hi
    by_cases w : i < nA
    · refine iA c (fun j => ?_) i w
      have := hz j
      rw [hC, sm_zero (f := fun i => c (nA + i) * u i j) (fun k hk' => by rw [hk k hk']; grind)] at this
      grind
    · have := hk (i - nA) (by omega)
      rwa [show nA + (i - nA) = i by omega] at this
  have g1 : nA + N ≤ nB := steinitz hinv h10 iC fun i hi => by
    show Sp (Am B nB) (if i < nA then A i else u (i - nA))
    by_cases w : i < nA
    · rw [if_pos w]
      exact s2 i w
    · rw [if_neg w]
      exact s3 _ (by omega)
  have g2 : nB ≤ nA + N := steinitz (w := fun i => if i < nA then A i else u (i - nA)) hinv h10 iB fun i hi => by
    refine Sp.mono (fun x hx => ?_) (s1 i hi)
    rcases hx with ⟨k, hk, rfl⟩ | ⟨k, hk, rfl⟩
    · exact ⟨k, by omega, by show A k = if k < nA then A k else _; rw [if_pos hk]⟩
    · exact ⟨nA + k, by omega, by show u k = if nA + k < nA then _ else u (nA + k - nA); rw [if_neg (by omega), Nat.add_sub_cancel_left]⟩
  omega
end
end K33
namespace K33
/-! ### the reduction over a field -/
/-- an int, in the field -/
def ct (F : Type) [Lean.Grind.CommRing F] (x : Int) : F := @IntCast.intCast F Lean.Grind.Ring.intCast x
section
variable {F : Type} [Lean.Grind.CommRing F]
theorem ct_add (x y : Int) : ct F (x + y) = ct F x + ct F y := Lean.Grind.Ring.intCast_add x y
theorem ct_sub (x y : Int) : ct F (x - y) = ct F x - ct F y := Lean.Grind.Ring.intCast_sub x y
theorem ct_mul (x y : Int) : ct F (x * y) = ct F x * ct F y := Lean.Grind.Ring.intCast_mul x y
theorem ct_neg (x : Int) : ct F (-x) = -ct F x := Lean.Grind.Ring.intCast_neg x
theorem ct_zero : ct F 0 = 0 := Lean.Grind.Ring.intCast_zero
theorem ct_one : ct F 1 = 1 := Lean.Grind.Ring.intCast_one
theorem rg1 (a n b : F) : a + -n * b = a - n * b := by grind
theorem rg2 (a n b : F) : a - n * b + n * b = a := by grind
theorem rg3 {x i : F} (v : F) (h : x * i = 1) : v = x * (i * v) := by grind
theorem rg4 (a b : F) (h : b = 0) : a * b = 0 := by grind
theorem rg5 (a b : F) (h : b = 0) : b * a = 0 := by grind
theorem rg6 (a : F) (h : a * 1 = 0) : a = 0 := by grind
end
structure Md (p : Int) (F : Type) [Lean.Grind.CommRing F] : Prop where
  inv : ∀ x : F, x ≠ 0 → ∃ y, x * y = 1
  one : (1 : F) ≠ 0
  z : ∀ x : Int, ct F x = 0 ↔ x % p = 0
section
variable {F : Type} [Lean.Grind.CommRing F] {p : Int}
theorem Md.mod (md : Md p F) (x : Int) : ct F (x % p) = ct F x := by
  have h : ct F (x % p - x) = 0 := (md.z _).mpr (by
    have : x % p - x = p * (-(x / p)) := by
      have := Int.emod_add_mul_ediv x p
      rw [Int.mul_neg]
      omega
    rw [this]
    exact Int.mul_emod_right _ _)
  rw [ct_sub] at h
  grind
theorem Md.eq (md : Md p F) {x y : Int} (h : x % p = y % p) : ct F x = ct F y := by rw [← md.mod x, h, md.mod y]
def vec (F : Type) [Lean.Grind.CommRing F] (r : List Int) : Nat → F := fun j => ct F (r.getD j 0)
theorem getD_ge {r : List Int} {j : Nat} (h : r.length ≤ j) : r.getD j 0 = 0 := by
  rw [List.getD_eq_getElem?_getD, List.getElem?_eq_none h]
  rfl
theorem vec_ge {r : List Int} {j : Nat} (h : r.length ≤ j) : vec F r j = 0 := by
  unfold vec
  rw [getD_ge h]
  exact ct_zero
theorem vec_less (md : Md p F) {r s : List Int} (h : r.length = s.length) (n : Int) (j : Nat) : vec F (less p r n s) j = vec F r j - ct F n * vec F s j := by
  by_cases z : j < r.length
  · unfold vec
    rw [less_at z (by omega), md.mod, ct_sub, ct_mul]
  · rw [vec_ge (by unfold less; rw [List.length_zipWith]; omega), vec_ge (by omega), vec_ge (by omega)]
    grind
theorem vec_scale (md : Md p F) (r : List Int) (c : Int) (j : Nat) : vec F (r.map fun w => w * c % p) j = ct F c * vec F r j := by
  by_cases z : j < r.length
  · unfold vec
    rw [map_at z, md.mod, ct_mul]
    grind
  · rw [vec_ge (by rw [List.length_map]; omega), vec_ge (by omega)]
    grind
def Rw (F : Type) [Lean.Grind.CommRing F] (M : List (List Int)) : (Nat → F) → Prop := fun x => ∃ r ∈ M, x = vec F r
def RS (F : Type) [Lean.Grind.CommRing F] (s : Rs) : (Nat → F) → Prop := fun x => Rw F s.left x ∨ Rw F s.found x
theorem mem_erase {l : List (List Int)} {k : Nat} {o : List Int} (h : o ∈ l) : o = l.getD k [] ∨ o ∈ l.eraseIdx k := by
  obtain ⟨i, hi, rfl⟩ := List.getElem_of_mem h
  by_cases z : i = k
  · subst z
    left
    rw [List.getD_eq_getElem?_getD, List.getElem?_eq_getElem hi]
    rfl
  · right
    exact List.mem_eraseIdx_iff_getElem.mpr ⟨i, hi, z, rfl⟩
theorem redStep_span (md : Md p F) (hp : okP p) {wide n : Nat} {rows : List (List Int)} {s : Rs} (hn : n < wide) (ok : RsOk p wide n rows s) (v : Nat → F) : Sp (RS F (redStep p s n)) v ↔ Sp (RS F s) v := by
  cases e : firstAt n s.left with
  | none => rw [redStep_none e]
  | some k =>
    rw [redStep_some e]
    obtain ⟨h1, h2, h3⟩ := fa_some e
    have hmem : s.left.getD k [] ∈ s.left := mem_getD h1
    have her : ∀ o ∈ s.left, o = s.left.getD k [] ∨ o ∈ s.left.eraseIdx k := fun o ho => mem_erase ho
    unfold takenRow
    generalize s.left.getD k [] = row at h2 hmem her ⊢
    have okr := ok.left row hmem
    have hx := okr.2 _ (getD_mem (by rw [okr.1]; exact hn))
    have hi := inv_mul hp (by omega) hx.2
    have vlead : ∀ j, vec F (row.map fun w => w * invOf p (row.getD n 0) % p) j = ct F (invOf p (row.getD n 0)) * vec F row j := vec_scale md row _
    have vrow : ∀ j, vec F row j = ct F (row.getD n 0) * vec F (row.map fun w => w * invOf p (row.getD n 0) % p) j := fun j => by
      have h : ct F (row.getD n 0 * invOf p (row.getD n 0)) = 1 := by
        rw [← md.mod, hi]
        exact ct_one
      rw [ct_mul] at h
      rw [vlead]
      exact rg3 _ h
    have leadl : (row.map fun w => w * invOf p (row.getD n 0) % p).length = wide := by rw [List.length_map]; exact okr.1
    generalize (row.map fun w => w * invOf p (row.getD n 0) % p) = lead at vlead vrow leadl ⊢
    have okE : okMat p wide (s.left.eraseIdx k) := fun r hr => ok.left r (List.mem_of_mem_eraseIdx hr)
    rw [cleared_less okE leadl, cleared_less ok.found leadl]
    have vl : ∀ o, okRow p wide o → ∀ j, vec F (less p o (o.getD n 0) lead) j = vec F o j - ct F (o.getD n 0) * vec F lead j := fun o ho j => vec_less md (by rw [ho.1, leadl]) _ j
    constructor
    · refine fun g => Sp.trans (fun x hx => ?_) g
      have sl : Sp (RS F s) (vec F lead) := ((Sp.of (S := RS F s) (x := vec F row) (.inl ⟨row, hmem, rfl⟩)).smul _).eq fun j => (vlead j).symm
      have sless : ∀ o, okRow p wide o → RS F s (vec F o) → Sp (RS F s) (vec F (less p o (o.getD n 0) lead)) := fun o ho hS =>
        ((Sp.of hS).add (sl.smul (-(ct F (o.getD n 0))))).eq fun j => by
          rw [vl o ho]
          exact rg1 _ _ _
      rcases hx with ⟨r, hr, rfl⟩ | ⟨r, hr, rfl⟩
      · obtain ⟨o, ho, rfl⟩ := List.mem_map.mp hr
        exact sless o (okE o ho) (.inl ⟨o, List.mem_of_mem_eraseIdx ho, rfl⟩)
      · rcases List.mem_append.mp hr with hr | hr
        · obtain ⟨o, ho, rfl⟩ := List.mem_map.mp hr
          exact sless o (ok.found o ho) (.inr ⟨o, ho, rfl⟩)
        · rw [List.mem_singleton.mp hr]
          exact sl
    · refine fun g => Sp.trans (fun x hx => ?_) g
      have sl : ∀ T : (Nat → F) → Prop, T (vec F lead) → Sp T (vec F lead) := fun T h => Sp.of h
      have back : ∀ (T : (Nat → F) → Prop) (o : List Int), okRow p wide o → T (vec F lead) → T (vec F (less p o (o.getD n 0) lead)) → Sp T (vec F o) := fun T o ho h1 h2 =>
        ((Sp.of h2).add ((Sp.of h1).smul (ct F (o.getD n 0)))).eq fun j => by
          rw [vl o ho]
          exact rg2 _ _ _
      have tl : RS F (Rs.mk ((s.left.eraseIdx k).map fun r => less p r (r.getD n 0) lead) ((s.found.map fun r => less p r (r.getD n 0) lead) ++ [lead]) (s.places ++ [n])) (vec F lead) := .inr ⟨lead, by simp, rfl⟩
      rcases hx with ⟨o, ho, rfl⟩ | ⟨o, ho, rfl⟩
      · rcases her o ho with rfl | ho'
        · exact ((Sp.of tl).smul _).eq fun j => (vrow j).symm
        · exact back _ o (okE o ho') tl (.inl ⟨_, List.mem_map.mpr ⟨o, ho', rfl⟩, rfl⟩)
      · exact back _ o (ok.found o ho) tl (.inr ⟨_, List.mem_append_left _ (List.mem_map.mpr ⟨o, ho, rfl⟩), rfl⟩)
theorem redTo_span (md : Md p F) (hp : okP p) {wide : Nat} {rows : List (List Int)} (h : okMat p wide rows) (v : Nat → F) : ∀ n, n ≤ wide → (Sp (RS F (redTo p rows n)) v ↔ Sp (Rw F rows) v)
  | 0, _ => by
    constructor
    · refine Sp.mono fun x hx => ?_
      rcases hx with hx | ⟨r, hr, _⟩
      · exact hx
      · exact absurd hr (by simp [redTo])
    · exact Sp.mono fun x hx => .inl hx
  | n + 1, hn => by
    have hp1 := hp.lo
    rw [redTo_succ, redStep_span md hp (by omega) (redTo_ok (by omega) h n)]
    exact redTo_span md hp h v n (by omega)
/-- same span -/
theorem red_span (md : Md p F) (hp : okP p) {wide : Nat} {rows : List (List Int)} (h : okMat p wide rows) (v : Nat → F) : Sp (Rw F (redRows p wide rows)) v ↔ Sp (Rw F rows) v := by
  have hp1 := hp.lo
  rw [← redTo_span md hp h v wide (Nat.le_refl _)]
  have pv := redTo_piv hp h wide (Nat.le_refl _)
  have ok := redTo_ok (p := p) (by omega) h wide
  constructor
  · exact Sp.mono fun x hx => .inr hx
  · refine Sp.trans fun x hx => ?_
    rcases hx with ⟨r, hr, rfl⟩ | hx
    · refine Sp.zero.eq fun j => ?_
      by_cases z : j < wide
      · unfold vec
        rw [pv.lz r hr j z]
        exact ct_zero.symm
      · exact (vec_ge (by rw [(ok.left r hr).1]; omega)).symm
    · exact .of hx
def rowV (F : Type) [Lean.Grind.CommRing F] (M : List (List Int)) (i : Nat) : Nat → F := vec F (M.getD i [])
theorem rw_am {M : List (List Int)} {x : Nat → F} : Rw F M x ↔ Am (rowV F M) M.length x := by
  constructor
  · rintro ⟨r, hr, rfl⟩
    obtain ⟨i, hi, rfl⟩ := List.getElem_of_mem hr
    refine ⟨i, hi, ?_⟩
    unfold rowV
    rw [List.getD_eq_getElem?_getD, List.getElem?_eq_getElem hi]
    rfl
  · rintro ⟨i, hi, rfl⟩
    exact ⟨_, mem_getD hi, rfl⟩
/-- pivots of the reduced rows -/
theorem piv_at {p : Int} (hp : okP p) {wide : Nat} {rows : List (List Int)} (h : okMat p wide rows) : (redPlaces p wide rows).length = (redRows p wide rows).length ∧ (redPlaces p wide rows).Nodup ∧ (∀ q ∈ redPlaces p wide rows, q < wide) ∧
    ∀ i k, i < (redRows p wide rows).length → k < (redRows p wide rows).length → ((redRows p wide rows).getD i []).getD ((redPlaces p wide rows).getD k 0) 0 = if i = k then 1 else 0 := by
  have hp1 := hp.lo
  have pv := redTo_piv hp h wide (Nat.le_refl _)
  have ok := redTo_ok (p := p) (by omega) h wide
  unfold redRows redPlaces
  generalize redTo p rows wide = S at pv ok
  refine ⟨ok.pl, List.Pairwise.imp (fun {a b} h => by intro e; omega) pv.up, ok.lt, fun i k hi hk => ?_⟩
  have e1 : S.found[i]? = some (S.found.getD i []) := by rw [List.getD_eq_getElem?_getD, List.getElem?_eq_getElem hi]; rfl
  have e2 : S.places[k]? = some (S.places.getD k 0) := by rw [List.getD_eq_getElem?_getD, List.getElem?_eq_getElem (by rw [ok.pl]; exact hk)]; rfl
  by_cases z : i = k
  · subst z
    rw [if_pos rfl]
    exact (pv.pv i _ _ e1 e2).1
  · rw [if_neg z]
    exact pv.ot i k _ _ e1 e2 z
theorem red_ind (hp : okP p) {wide : Nat} {rows : List (List Int)} (h : okMat p wide rows) : Ind (rowV F (redRows p wide rows)) (redRows p wide rows).length := by
  obtain ⟨_, _, _, pa⟩ := piv_at hp h
  intro c hz i hi
  have := hz ((redPlaces p wide rows).getD i 0)
  rw [sm_one (k := i) hi (fun k hk ne => ?_)] at this
  · unfold rowV vec at this
    rw [pa i i hi hi, if_pos rfl, ct_one] at this
    exact rg6 _ this
  · unfold rowV vec
    rw [pa k i hk hi, if_neg ne, ct_zero]
    exact rg4 _ _ rfl
/-! the kernel -/
theorem fold_out {g : List Int → Int} {j : Nat} : ∀ (qs : List (List Int × Nat)) (c : List Int), (∀ q ∈ qs, q.2 ≠ j) → (qs.foldl (fun c q => c.set q.2 (g q.1)) c).getD j 0 = c.getD j 0
  | [], _, _ => rfl
  | q :: qs, c, h => by
    rw [List.foldl_cons, fold_out qs _ (fun q hq => h q (by simp [hq]))]
    rw [List.getD_eq_getElem?_getD, List.getElem?_set_ne (h q (by simp)), ← List.getD_eq_getElem?_getD]
theorem fold_in {g : List Int → Int} {j : Nat} {r : List Int} : ∀ (qs : List (List Int × Nat)) (c : List Int), (qs.map (·.2)).Nodup → (r, j) ∈ qs → j < c.length → (qs.foldl (fun c q => c.set q.2 (g q.1)) c).getD j 0 = g r
  | [], _, _, h, _ => nomatch h
  | q :: qs, c, nd, h, hj => by
    rw [List.map_cons, List.nodup_cons] at nd
    rw [List.foldl_cons]
    rcases List.mem_cons.mp h with h | h
    · subst h
      rw [fold_out qs _ (fun q hq e => nd.1 (List.mem_map.mpr ⟨q, hq, e⟩)), List.getD_eq_getElem?_getD, List.getElem?_set_self hj]
      rfl
    · exact fold_in qs _ nd.2 h (by rw [List.length_set]; exact hj)
theorem unitR_at {n h j : Nat} : (unitR n h).getD j 0 = if j = h ∧ j < n then 1 else 0 := by
  unfold unitR
  rw [List.getD_eq_getElem?_getD, List.getElem?_map]
  by_cases z : j < n
  · rw [List.getElem?_range z]
    by_cases w : j = h
    · rw [if_pos ⟨w, z⟩]
      show (if j = h then (1 : Int) else 0) = 1
      rw [if_pos w]
    · rw [if_neg (fun h => w h.1)]
      show (if j = h then (1 : Int) else 0) = 0
      rw [if_neg w]
  · rw [List.getElem?_eq_none (by rw [List.length_range]; omega), if_neg (fun h => z h.2)]
    rfl
/-- orthogonal to some rows, within a width -/
def Nl (M : List (List Int)) (w : Nat) (x : Nat → F) : Prop := (∀ j, w ≤ j → x j = 0) ∧ ∀ r ∈ M, sm (fun j => vec F r j * x j) w = 0
theorem lin_dot (x : Nat → F) (w : Nat) : Lin (fun r : Nat → F => sm (fun j => r j * x j) w) where
  zero := sm_zero fun i _ => by grind
  step a r v := by
    show sm (fun j => (a * r j + v j) * x j) w = a * sm (fun j => r j * x j) w + sm (fun j => v j * x j) w
    rw [← sm_mul, ← sm_add]
    exact sm_congr fun i _ => by grind
theorem lin_dot2 (r : Nat → F) (w : Nat) : Lin (fun x : Nat → F => sm (fun j => r j * x j) w) where
  zero := sm_zero fun i _ => by grind
  step a x v := by
    show sm (fun j => r j * (a * x j + v j)) w = a * sm (fun j => r j * x j) w + sm (fun j => r j * v j) w
    rw [← sm_mul, ← sm_add]
    exact sm_congr fun i _ => by grind
theorem Nl.red (md : Md p F) (hp : okP p) {wide : Nat} {M : List (List Int)} (h : okMat p wide M) {x : Nat → F} : Nl M wide x ↔ Nl (redRows p wide M) wide x := by
  constructor
  · rintro ⟨h1, h2⟩
    refine ⟨h1, fun r hr => ?_⟩
    exact Lin.sp (lin_dot x wide) (S := Rw F M) (fun y hy => by obtain ⟨s, hs, rfl⟩ := hy; exact h2 s hs) ((red_span md hp h _).mp (.of ⟨r, hr, rfl⟩))
  · rintro ⟨h1, h2⟩
    refine ⟨h1, fun r hr => ?_⟩
    exact Lin.sp (lin_dot x wide) (S := Rw F (redRows p wide M)) (fun y hy => by obtain ⟨s, hs, rfl⟩ := hy; exact h2 s hs) ((red_span md hp h _).mpr (.of ⟨r, hr, rfl⟩))
theorem Nl.sp {M : List (List Int)} {w : Nat} {S : (Nat → F) → Prop} (hS : ∀ x, S x → Nl M w x) {v : Nat → F} (g : Sp S v) : Nl M w v := by
  constructor
  · intro j hj
    have : Lin (fun x : Nat → F => x j) := ⟨rfl, fun a x v => rfl⟩
    exact this.sp (fun x hx => (hS x hx).1 j hj) g
  · intro r hr
    exact (lin_dot2 (vec F r) w).sp (fun x hx => (hS x hx).2 r hr) g
end
end K33
namespace K33
section
variable {F : Type} [Lean.Grind.CommRing F] {p : Int}
theorem rh1 (a b : F) : a * 1 = a + 0 := by grind
theorem rh2 (a : F) : 1 * -a = 0 + -a := by grind
theorem rh3 (a : F) (h : a = 0) : a = 0 + 0 := by grind
theorem rh4 (a : F) : a + -a = 0 := by grind
theorem rh5 (a b : F) (h : a + -1 * b = 0) : b = a := by grind
theorem rh6 (a b : F) : a * 1 = a := by grind
theorem rh7 (a b : F) (h : 1 * a = 0) : a = 0 := by grind
theorem rh8 (a b : F) (h : b = a) : a + -1 * b = 0 := by grind
theorem rh9 (a b : F) : a + -1 * b = -1 * b + a := by grind
theorem nd_inj {l : List Nat} (h : l.Nodup) {i j : Nat} (hi : i < l.length) (hj : j < l.length) (e : l[i] = l[j]) : i = j := by
  have q := List.pairwise_iff_getElem.mp h
  by_cases z : i < j
  · exact absurd e (q i j hi hj z)
  · by_cases w : j < i
    · exact absurd e.symm (q j i hj hi w)
    · omega
theorem mem_at {P : List Nat} {j : Nat} : j ∈ P ↔ ∃ k, k < P.length ∧ j = P.getD k 0 := by
  constructor
  · intro h
    obtain ⟨k, hk, rfl⟩ := List.getElem_of_mem h
    exact ⟨k, hk, by rw [List.getD_eq_getElem?_getD, List.getElem?_eq_getElem hk]; rfl⟩
  · rintro ⟨k, hk, rfl⟩
    rw [List.getD_eq_getElem?_getD, List.getElem?_eq_getElem hk]
    exact List.getElem_mem hk
/-- a free column -/
theorem free_at (md : Md p F) {w : Nat} {R : List (List Int)} {P : List Nat} (hl : P.length = R.length) (nd : P.Nodup) (lt : ∀ q ∈ P, q < w) {f : Nat} (hf : f < w) (nf : f ∉ P) :
    vec F (freeCol p w R P f) f = 1 ∧ (∀ k, k < R.length → vec F (freeCol p w R P f) (P.getD k 0) = -(vec F (R.getD k []) f)) ∧ ∀ j, j ≠ f → j ∉ P → vec F (freeCol p w R P f) j = 0 := by
  have es : (List.zip R P).map (·.2) = P := List.map_snd_zip (by omega)
  have out : ∀ j, j ∉ P → (freeCol p w R P f).getD j 0 = (unitR w f).getD j 0 := fun j hj => by
    unfold freeCol
    refine fold_out (g := fun r => -(r.getD f 0) % p) _ _ fun q hq e => hj ?_
    rw [← es, ← e]
    exact List.mem_map.mpr ⟨q, hq, rfl⟩
  refine ⟨?_, fun k hk => ?_, fun j hj hjP => ?_⟩
  · unfold vec
    rw [out f nf, unitR_at, if_pos ⟨rfl, hf⟩]
    exact ct_one
  · have hkP : P.getD k 0 < w := lt _ (mem_at.mpr ⟨k, by omega, rfl⟩)
    have hm : (R.getD k [], P.getD k 0) ∈ List.zip R P := by
      refine List.mem_of_getElem? (i := k) ?_
      rw [List.getElem?_zip_eq_some]
      constructor
      · show R[k]? = some (R.getD k [])
        rw [List.getD_eq_getElem?_getD, List.getElem?_eq_getElem hk]
        rfl
      · show P[k]? = some (P.getD k 0)
        rw [List.getD_eq_getElem?_getD, List.getElem?_eq_getElem (by omega)]
        rfl
    have := fold_in (g := fun r => -(r.getD f 0) % p) (List.zip R P) (unitR w f) (by rw [es]; exact nd) hm (by simp [unitR]; exact hkP)
    unfold vec freeCol
    rw [this, md.mod, ct_neg]
  · unfold vec
    rw [out j hjP, unitR_at, if_neg (fun h => hj h.1)]
    exact ct_zero
theorem free_nl (md : Md p F) (hp : okP p) {w : Nat} {M : List (List Int)} (h : okMat p w M) {f : Nat} (hf : f < w) (nf : f ∉ redPlaces p w M) : Nl (F := F) (redRows p w M) w (vec F (freeCol p w (redRows p w M) (redPlaces p w M) f)) := by
  obtain ⟨hl, nd, lt, pa⟩ := piv_at hp h
  obtain ⟨c1, c2, c3⟩ := free_at (F := F) md hl nd lt hf nf
  have okc : okRow p w (freeCol p w (redRows p w M) (redPlaces p w M) f) := freeCol_ok (by have := hp.lo; omega)
  refine ⟨fun j hj => vec_ge (by rw [okc.1]; exact hj), fun r hr => ?_⟩
  obtain ⟨i, hi, rfl⟩ := List.getElem_of_mem hr
  have ei : (redRows p w M)[i] = (redRows p w M).getD i [] := by rw [List.getD_eq_getElem?_getD, List.getElem?_eq_getElem hi]; rfl
  rw [ei]
  generalize redRows p w M = R at *
  generalize redPlaces p w M = P at *
  generalize vec F (freeCol p w R P f) = col at *
  have hPi : P.getD i 0 < w := lt _ (mem_at.mpr ⟨i, by omega, rfl⟩)
  have fPi : f ≠ P.getD i 0 := fun e => nf (mem_at.mpr ⟨i, by omega, e⟩)
  have e : sm (fun j => vec F (R.getD i []) j * col j) w = sm (fun j => (if j = f then vec F (R.getD i []) f else 0) + (if j = P.getD i 0 then -(vec F (R.getD i []) f) else 0)) w := sm_congr fun j hj => by
    by_cases z : j = f
    · subst z
      rw [if_pos rfl, if_neg fPi, c1]
      exact rh1 _ 0
    · rw [if_neg z]
      by_cases zP : j ∈ P
      · obtain ⟨k, hk, rfl⟩ := mem_at.mp zP
        rw [c2 k (by omega)]
        by_cases ki : k = i
        · subst ki
          rw [if_pos rfl]
          have : vec F (R.getD k []) (P.getD k 0) = 1 := by
            unfold vec
            rw [pa k k hi hi, if_pos rfl]
            exact ct_one
          rw [this]
          exact rh2 _
        · have : vec F (R.getD i []) (P.getD k 0) = 0 := by
            unfold vec
            rw [pa i k hi (by omega), if_neg (Ne.symm ki)]
            exact ct_zero
          rw [this, if_neg (fun e => ?_)]
          · exact rh3 _ (rg5 _ _ rfl)
          · have h1 := pa i i hi hi
            rw [← e, pa i k hi (by omega), if_neg (Ne.symm ki), if_pos rfl] at h1
            cases h1
      · rw [c3 j z zP, if_neg (fun e => zP (mem_at.mpr ⟨i, by omega, e⟩))]
        exact rh3 _ (rg4 _ _ rfl)
  rw [e, sm_add, sm_one (k := f) hf (fun j hj ne => if_neg ne), sm_one (k := P.getD i 0) hPi (fun j hj ne => if_neg ne), if_pos rfl, if_pos rfl]
  exact rh4 _
/-- the kernel's rows span the null space -/
theorem ker_span (md : Md p F) (hp : okP p) {w : Nat} {M : List (List Int)} (h : okMat p w M) (x : Nat → F) : Sp (Rw F (kernelR p w M)) x ↔ Nl M w x := by
  have okc : okMat p w (freeCols p w (redRows p w M) (redPlaces p w M)) := fun r hr => by
    unfold freeCols at hr
    obtain ⟨f, _, rfl⟩ := List.mem_map.mp hr
    exact freeCol_ok (by have := hp.lo; omega)
  have hfree : ∀ f, f ∈ (List.range w).filter (fun f => !(redPlaces p w M).contains f) ↔ f < w ∧ f ∉ redPlaces p w M := fun f => by
    rw [List.mem_filter, List.mem_range]
    simp
  unfold kernelR
  rw [red_span md hp okc, Nl.red md hp h]
  constructor
  · refine Nl.sp fun y hy => ?_
    obtain ⟨r, hr, rfl⟩ := hy
    unfold freeCols at hr
    obtain ⟨f, hf, rfl⟩ := List.mem_map.mp hr
    obtain ⟨h1, h2⟩ := (hfree f).mp hf
    exact free_nl md hp h h1 h2
  · intro hx
    obtain ⟨hl, nd, lt, pa⟩ := piv_at hp h
    have fnl := fun f (h1 : f < w) (h2 : f ∉ redPlaces p w M) => free_nl (F := F) md hp h h1 h2
    have fat := fun f (h1 : f < w) (h2 : f ∉ redPlaces p w M) => free_at (F := F) (R := redRows p w M) md hl nd lt h1 h2
    have emem : ∀ f, f ∈ (List.range w).filter (fun f => !(redPlaces p w M).contains f) → freeCol p w (redRows p w M) (redPlaces p w M) f ∈ freeCols p w (redRows p w M) (redPlaces p w M) := fun f hf => List.mem_map.mpr ⟨f, hf, rfl⟩
    have ndf : ((List.range w).filter (fun f => !(redPlaces p w M).contains f)).Nodup := List.Pairwise.filter _ List.nodup_range
    generalize freeCols p w (redRows p w M) (redPlaces p w M) = FC at emem
    generalize (List.range w).filter (fun f => !(redPlaces p w M).contains f) = fr at *
    generalize redRows p w M = R at *
    generalize redPlaces p w M = P at *
    have frm : ∀ i, i < fr.length → fr.getD i 0 < w ∧ fr.getD i 0 ∉ P := fun i hi => (hfree _).mp (mem_at.mpr ⟨i, hi, rfl⟩)
    have hz : Sp (Rw F FC) (fun j => sm (fun i => x (fr.getD i 0) * vec F (freeCol p w R P (fr.getD i 0)) j) fr.length) :=
      Sp.sum (w := fun i => vec F (freeCol p w R P (fr.getD i 0))) (fun i => x (fr.getD i 0)) fun i hi => .of ⟨_, emem _ (mem_at.mpr ⟨i, hi, rfl⟩), rfl⟩
    refine hz.eq fun j => ?_
    -- the rest is nought
    have hy : Nl R w (fun j => -1 * (fun j => sm (fun i => x (fr.getD i 0) * vec F (freeCol p w R P (fr.getD i 0)) j) fr.length) j + x j) := by
      refine Nl.sp (S := fun y => Nl R w y) (fun _ h => h) (Sp.step (-1) (Nl.sp (S := fun y => Nl R w y) (fun _ h => h) (Sp.sum (w := fun i => vec F (freeCol p w R P (fr.getD i 0))) (fun i => x (fr.getD i 0)) fun i hi => .of (fnl _ (frm i hi).1 (frm i hi).2))) (.of hx))
    have e : ∀ j, (fun j => -1 * (fun j => sm (fun i => x (fr.getD i 0) * vec F (freeCol p w R P (fr.getD i 0)) j) fr.length) j + x j) j = x j + -1 * sm (fun i => x (fr.getD i 0) * vec F (freeCol p w R P (fr.getD i 0)) j) fr.length := fun j => (rh9 _ _).symm
    have yz : ∀ j, x j + -1 * sm (fun i => x (fr.getD i 0) * vec F (freeCol p w R P (fr.getD i 0)) j) fr.length = 0 := by
      have yfree : ∀ j, j < w → j ∉ P → x j + -1 * sm (fun i => x (fr.getD i 0) * vec F (freeCol p w R P (fr.getD i 0)) j) fr.length = 0 := fun j hj hjP => by
        obtain ⟨k, hk, ek⟩ := mem_at.mp ((hfree j).mpr ⟨hj, hjP⟩)
        rw [sm_one (k := k) hk (fun i hi ne => ?_), ← ek, (fat j hj hjP).1]
        · exact rh8 _ _ (rh6 _ 0)
        · have ne2 : j ≠ fr.getD i 0 := fun e2 => by
            rw [ek, List.getD_eq_getElem?_getD, List.getD_eq_getElem?_getD, List.getElem?_eq_getElem hk, List.getElem?_eq_getElem hi] at e2
            exact ne (nd_inj ndf hk hi e2).symm
          rw [(fat _ (frm i hi).1 (frm i hi).2).2.2 j ne2 hjP]
          exact rg4 _ _ rfl
      intro j
      by_cases hj : j < w
      · by_cases hjP : j ∈ P
        · obtain ⟨k, hk, ek⟩ := mem_at.mp hjP
          have hkR : k < R.length := by omega
          have h2 := hy.2 (R.getD k []) (mem_getD hkR)
          rw [sm_one (k := j) hj (fun i hi ne => ?_)] at h2
          · have : vec F (R.getD k []) j = 1 := by
              unfold vec
              rw [ek, pa k k hkR hkR, if_pos rfl]
              exact ct_one
            rw [this] at h2
            rw [← e]
            exact rh7 _ 0 h2
          · by_cases hiP : i ∈ P
            · obtain ⟨k2, hk2, ek2⟩ := mem_at.mp hiP
              have : vec F (R.getD k []) i = 0 := by
                unfold vec
                rw [ek2, pa k k2 hkR (by omega), if_neg (fun e3 => ne (by rw [ek2, ek, e3]))]
                exact ct_zero
              show vec F (R.getD k []) i * _ = 0
              rw [this]
              exact rg5 _ _ rfl
            · show vec F (R.getD k []) i * _ = 0
              have := yfree i hi hiP
              rw [← e] at this
              rw [this]
              exact rg4 _ _ rfl
        · exact yfree j hj hjP
      · have := hy.1 j (by omega)
        rw [e] at this
        exact this
    exact rh5 _ _ (yz j)
end
end K33
namespace K33
section
variable {F : Type} [Lean.Grind.CommRing F] {p : Int}
/-- a vector at a place; the part of a vector at a place -/
def emb (c : Pc) (b q : Nat) (v : Nat → F) : Nat → F := fun j => if startOf c b q ≤ j ∧ j < startOf c b q + szAt c q then v (j - startOf c b q) else 0
def blk (c : Pc) (b q : Nat) (x : Nat → F) : Nat → F := fun j => if j < szAt c q then x (startOf c b q + j) else 0
def unv (F : Type) [Lean.Grind.CommRing F] (m : Nat) : Nat → F := fun j => if j = m then 1 else 0
theorem sm_block {f : Nat → F} {s n : Nat} : ∀ {w : Nat}, s + n ≤ w → (∀ j, j < w → ¬ (s ≤ j ∧ j < s + n) → f j = 0) → sm f w = sm (fun j => f (s + j)) n
  | 0, h, _ => by
    have : n = 0 := by omega
    subst this
    rfl
  | w + 1, h, hz => by
    by_cases z : s + n ≤ w
    · show sm f w + f w = _
      rw [sm_block z (fun j hj => hz j (by omega)), hz w (by omega) (by omega)]
      grind
    · cases n with
      | zero => exact sm_zero fun i hi => hz i hi (by omega)
      | succ n =>
        show sm f w + f w = sm (fun j => f (s + j)) n + f (s + n)
        rw [sm_block (s := s) (n := n) (by omega) (fun j hj hn => hz j (by omega) (by omega)), show w = s + n by omega]
theorem putAt_at {row xs : List Int} {i j : Nat} (h : i + xs.length ≤ row.length) : (putAt row i xs).getD j 0 = if i ≤ j ∧ j < i + xs.length then xs.getD (j - i) 0 else row.getD j 0 := by
  unfold putAt
  have l1 : (row.take i).length = i := by rw [List.length_take]; omega
  have l2 : (row.take i ++ xs).length = i + xs.length := by rw [List.length_append, l1]
  rw [List.getD_eq_getElem?_getD]
  by_cases z : j < i
  · rw [if_neg (by omega), List.getElem?_append_left (by omega), List.getElem?_append_left (by omega), List.getElem?_take_of_lt z, ← List.getD_eq_getElem?_getD]
  · by_cases w : j < i + xs.length
    · rw [if_pos ⟨by omega, w⟩, List.getElem?_append_left (by omega), List.getElem?_append_right (by omega), l1, ← List.getD_eq_getElem?_getD]
    · rw [if_neg (by omega), List.getElem?_append_right (by omega), l2, List.getElem?_drop, show i + xs.length + (j - (i + xs.length)) = j by omega, ← List.getD_eq_getElem?_getD]
theorem nils_at {n j : Nat} : (nils n).getD j 0 = 0 := by
  unfold nils
  rw [List.getD_eq_getElem?_getD, List.getElem?_replicate]
  split <;> rfl
theorem set_at {row : List Int} {i j : Nat} {y : Int} (h : i < row.length) : (row.set i y).getD j 0 = if j = i then y else row.getD j 0 := by
  by_cases z : j = i
  · subst z
    rw [if_pos rfl, List.getD_eq_getElem?_getD, List.getElem?_set_self h]
    rfl
  · rw [if_neg z, List.getD_eq_getElem?_getD, List.getElem?_set_ne (Ne.symm z), ← List.getD_eq_getElem?_getD]
/-- blocks of two places lie apart -/
theorem blocks {c : Pc} {b q q' : Nat} (h : b ≤ q) (h' : q < q') : startOf c b q + szAt c q ≤ startOf c b q' := by
  rw [← start_succ h]
  have := start_mono (c := c) (b := b) (q := q + 1) (q' - (q + 1)) (by omega)
  rwa [show q + 1 + (q' - (q + 1)) = q' by omega] at this
theorem apart {c : Pc} {b q q' j : Nat} (h : b ≤ q) (h' : b ≤ q') (ne : q ≠ q') (z : startOf c b q ≤ j ∧ j < startOf c b q + szAt c q) : ¬ (startOf c b q' ≤ j ∧ j < startOf c b q' + szAt c q') := by
  by_cases w : q < q'
  · have := blocks (c := c) h w
    omega
  · have := blocks (c := c) h' (show q' < q by omega)
    omega
theorem blk_emb {c : Pc} {b q q' : Nat} (h : b ≤ q) (h' : b ≤ q') (v : Nat → F) (j : Nat) : blk c b q' (emb c b q v) j = if q' = q ∧ j < szAt c q then v j else 0 := by
  unfold blk emb
  by_cases w : q' = q
  · subst w
    by_cases z : j < szAt c q'
    · rw [if_pos z, if_pos ⟨by omega, by omega⟩, if_pos ⟨rfl, z⟩, Nat.add_sub_cancel_left]
    · rw [if_neg z]
      exact (if_neg (fun h => z h.2)).symm
  · have hR : (if q' = q ∧ j < szAt c q then v j else (0 : F)) = 0 := if_neg (fun h => w h.1)
    rw [hR]
    by_cases z : j < szAt c q'
    · rw [if_pos z, if_neg (apart h' h w ⟨by omega, by omega⟩)]
    · rw [if_neg z]
/-- the table of an arrow, at work -/
def tbl (c : Pc) (k : Nat) (v : Nat → F) : Nat → F := fun r => sm (fun j => vec F ((tabAt c k).rows.getD r []) j * v j) (szAt c (arrAt c k).1)
theorem rk1 (a b : F) : (0 : F) + -1 * (-1 * a) = a := by grind
theorem rk2 (a : F) (h : a = 0) : a + -1 * 0 = 0 := by grind
theorem rk3 (a : F) : (1 : F) = 1 + -1 * 0 := by grind
theorem rk4 (a : F) : -a = 0 + -1 * a := by grind
theorem rk5 : (0 : F) = 0 + -1 * 0 := by grind
theorem lost_vec (md : Md p F) (hp : okP p) {c : Pc} (ok : PcOk p c) {b e k m : Nat} (hbk : b ≤ k) (hke : k < e) (he : e < c.many) (hm : m < szAt c (arrAt c k).1) (j : Nat) :
    vec F (lostRow p c b e k m) j = emb c b (arrAt c k).1 (unv F m) j + -1 * emb c b (arrAt c k).2 (tbl c k (unv F m)) j := by
  obtain ⟨hk, ga, gt, in1, in2⟩ := arr_in ok (b := b) he (i := k - b) (by omega)
  rw [show b + (k - b) = k by omega] at hk ga gt in1 in2
  obtain ⟨_, f1, f2, f3⟩ := ok.fit k _ _ ga gt
  have lm2 := ok.li.mem ga
  have r1 := start_in (c := c) in1.1 in1.2
  have r2 := start_in (c := c) in2.1 in2.2
  rw [f1] at f3
  have hu := unitLed_eq hm f3
  have ne : (arrAt c k).1 ≠ (arrAt c k).2 := lm2.2.2
  have ap := apart (c := c) (b := b) (j := j) in1.1 in2.1 ne
  have ap2 := apart (c := c) (b := b) (j := j) in2.1 in1.1 (Ne.symm ne)
  unfold vec lostRow emb
  rw [hu, putAt_at (by rw [List.length_map, List.length_map, f2]; simp [nils]; exact r2), List.length_map, List.length_map, f2]
  by_cases z : startOf c b (arrAt c k).2 ≤ j ∧ j < startOf c b (arrAt c k).2 + szAt c (arrAt c k).2
  · rw [if_pos z, if_neg (ap2 z), if_pos z]
    have hj : j - startOf c b (arrAt c k).2 < (tabAt c k).rows.length := by omega
    have e1 : (((tabAt c k).rows.map fun r => r.getD m 0).map fun w => -w % p).getD (j - startOf c b (arrAt c k).2) 0 = -(((tabAt c k).rows.getD (j - startOf c b (arrAt c k).2) []).getD m 0) % p := by
      rw [List.getD_eq_getElem?_getD, List.getElem?_map, List.getElem?_map, List.getD_eq_getElem?_getD (l := (tabAt c k).rows), List.getElem?_eq_getElem hj]
      rfl
    rw [e1, md.mod, ct_neg]
    unfold tbl
    rw [sm_one (k := m) hm (fun i hi ne => ?_)]
    · unfold unv
      rw [if_pos rfl]
      show -(vec F ((tabAt c k).rows.getD (j - startOf c b (arrAt c k).2) []) m) = _
      rw [rh6 _ 0]
      exact rk4 _
    · unfold unv
      rw [if_neg ne]
      exact rg4 _ _ rfl
  · rw [if_neg z, if_neg z, set_at (by simp [nils]; omega)]
    by_cases w : j = startOf c b (arrAt c k).1 + m
    · rw [if_pos w, if_pos ⟨by omega, by omega⟩]
      unfold unv
      rw [if_pos (by omega), ct_one]
      exact rk3 0
    · rw [if_neg w, nils_at, ct_zero]
      by_cases y : startOf c b (arrAt c k).1 ≤ j ∧ j < startOf c b (arrAt c k).1 + szAt c (arrAt c k).1
      · rw [if_pos y]
        unfold unv
        rw [if_neg (by omega)]
        exact rk5
      · rw [if_neg y]
        exact rk5
/-- any loose tuple is lost -/
theorem loose_sp (md : Md p F) (hp : okP p) {c : Pc} (ok : PcOk p c) {b e k : Nat} (hbk : b ≤ k) (hke : k < e) (he : e < c.many) (v : Nat → F) :
    Sp (Rw F (lostRows p c b e)) (fun j => emb c b (arrAt c k).1 v j + -1 * emb c b (arrAt c k).2 (tbl c k v) j) := by
  have hmem : ∀ m, m < szAt c (arrAt c k).1 → lostRow p c b e k m ∈ lostRows p c b e := fun m hm => by
    unfold lostRows
    refine List.mem_flatMap.mpr ⟨k - b, List.mem_range.mpr (by omega), ?_⟩
    rw [show b + (k - b) = k by omega]
    exact List.mem_map.mpr ⟨m, List.mem_range.mpr hm, rfl⟩
  have h := Sp.sum (S := Rw F (lostRows p c b e)) (w := fun m => vec F (lostRow p c b e k m)) v (n := szAt c (arrAt c k).1) fun m hm => .of ⟨_, hmem m hm, rfl⟩
  refine h.eq fun j => ?_
  have e1 : sm (fun m => v m * vec F (lostRow p c b e k m) j) (szAt c (arrAt c k).1) = sm (fun m => v m * emb c b (arrAt c k).1 (unv F m) j) (szAt c (arrAt c k).1) + sm (fun m => v m * (-1 * emb c b (arrAt c k).2 (tbl c k (unv F m)) j)) (szAt c (arrAt c k).1) := by
    rw [← sm_add]
    refine sm_congr fun m hm => ?_
    rw [lost_vec md hp ok hbk hke he hm]
    grind
  show sm (fun m => v m * vec F (lostRow p c b e k m) j) (szAt c (arrAt c k).1) = _
  rw [e1]
  congr 1
  · unfold emb
    by_cases y : startOf c b (arrAt c k).1 ≤ j ∧ j < startOf c b (arrAt c k).1 + szAt c (arrAt c k).1
    · rw [if_pos y, sm_one (k := j - startOf c b (arrAt c k).1) (by omega) (fun i hi ne => ?_)]
      · rw [if_pos y]
        unfold unv
        rw [if_pos rfl]
        exact rh6 _ 0
      · rw [if_pos y]
        unfold unv
        rw [if_neg (Ne.symm ne)]
        exact rg4 _ _ rfl
    · rw [if_neg y]
      exact sm_zero fun i hi => by rw [if_neg y]; exact rg4 _ _ rfl
  · unfold emb
    by_cases y : startOf c b (arrAt c k).2 ≤ j ∧ j < startOf c b (arrAt c k).2 + szAt c (arrAt c k).2
    · rw [if_pos y, show sm (fun m => v m * (-1 * (if startOf c b (arrAt c k).2 ≤ j ∧ j < startOf c b (arrAt c k).2 + szAt c (arrAt c k).2 then tbl c k (unv F m) (j - startOf c b (arrAt c k).2) else 0))) (szAt c (arrAt c k).1) = sm (fun m => -1 * (vec F ((tabAt c k).rows.getD (j - startOf c b (arrAt c k).2) []) m * v m)) (szAt c (arrAt c k).1) from sm_congr fun m hm => ?_]
      · rw [sm_mul]
        rfl
      · rw [if_pos y]
        unfold tbl
        rw [sm_one (k := m) hm (fun i hi ne => by unfold unv; rw [if_neg ne]; exact rg4 _ _ rfl)]
        unfold unv
        rw [if_pos rfl]
        grind
    · rw [if_neg y, show sm (fun m => v m * (-1 * (if startOf c b (arrAt c k).2 ≤ j ∧ j < startOf c b (arrAt c k).2 + szAt c (arrAt c k).2 then tbl c k (unv F m) (j - startOf c b (arrAt c k).2) else 0))) (szAt c (arrAt c k).1) = 0 from sm_zero fun m hm => by rw [if_neg y]; grind]
      grind
end
end K33
namespace K33
section
variable {F : Type} [Lean.Grind.CommRing F] {p : Int}
theorem rl1 (a : F) : -1 * a = a * 0 + -1 * a := by grind
theorem rl2 (a b : F) : a * b = a * b + 0 := by grind
theorem rl3 (a : F) (h : a = 0) : a = 0 + 0 := by grind
theorem rl4 (a b : F) (h : a + -1 * b = 0) : a = b := by grind
theorem rl5 (a b : F) (h : a = b) : a + -1 * b = 0 := by grind
/-- a meeting's row, at work -/
theorem meet_dot (md : Md p F) (hp : okP p) {c : Pc} (ok : PcOk p c) {b e k m : Nat} (hbk : b ≤ k) (hke : k < e) (he : e < c.many) (hm : m < szAt c (arrAt c k).2) (x : Nat → F) :
    sm (fun j => vec F (meetRow p c b e k m ((tabAt c k).rows.getD m [])) j * x j) (widthOf c b e) = tbl c k (blk c b (arrAt c k).1 x) m + -1 * x (startOf c b (arrAt c k).2 + m) := by
  obtain ⟨hk, ga, gt, in1, in2⟩ := arr_in ok (b := b) he (i := k - b) (by omega)
  rw [show b + (k - b) = k by omega] at hk ga gt in1 in2
  obtain ⟨_, f1, f2, f3⟩ := ok.fit k _ _ ga gt
  have lm2 := ok.li.mem ga
  have r1 := start_in (c := c) in1.1 in1.2
  have r2 := start_in (c := c) in2.1 in2.2
  rw [f1] at f3
  have okr := f3 _ (mem_getD (d := []) (l := (tabAt c k).rows) (k := m) (by omega))
  have ne : (arrAt c k).1 ≠ (arrAt c k).2 := lm2.2.2
  have hp1 := hp.lo
  have hv : ∀ j, vec F (meetRow p c b e k m ((tabAt c k).rows.getD m [])) j = if j = startOf c b (arrAt c k).2 + m then -1 else if startOf c b (arrAt c k).1 ≤ j ∧ j < startOf c b (arrAt c k).1 + szAt c (arrAt c k).1 then vec F ((tabAt c k).rows.getD m []) (j - startOf c b (arrAt c k).1) else 0 := fun j => by
    unfold vec meetRow
    rw [set_at (by rw [putAt_len (by rw [okr.1]; simp [nils]; exact r1)]; simp [nils]; omega)]
    by_cases z : j = startOf c b (arrAt c k).2 + m
    · rw [if_pos z, if_pos z, ← md.mod, show (p - 1) % p = (-1 : Int) % p by rw [neg_one_mod (by omega)]; exact Int.emod_eq_of_lt (by omega) (by omega), md.mod, ct_neg, ct_one]
    · rw [if_neg z, if_neg z, putAt_at (by rw [okr.1]; simp [nils]; exact r1), okr.1]
      by_cases y : startOf c b (arrAt c k).1 ≤ j ∧ j < startOf c b (arrAt c k).1 + szAt c (arrAt c k).1
      · rw [if_pos y, if_pos y]
      · rw [if_neg y, if_neg y, nils_at, ct_zero]
  have e1 : sm (fun j => vec F (meetRow p c b e k m ((tabAt c k).rows.getD m [])) j * x j) (widthOf c b e) = sm (fun j => (if startOf c b (arrAt c k).1 ≤ j ∧ j < startOf c b (arrAt c k).1 + szAt c (arrAt c k).1 then vec F ((tabAt c k).rows.getD m []) (j - startOf c b (arrAt c k).1) * x j else 0) + (if j = startOf c b (arrAt c k).2 + m then -1 * x j else 0)) (widthOf c b e) := sm_congr fun j hj => by
    rw [hv j]
    by_cases z : j = startOf c b (arrAt c k).2 + m
    · rw [if_pos z, if_pos z, if_neg (apart (c := c) (b := b) (j := j) in2.1 in1.1 (Ne.symm ne) ⟨by omega, by omega⟩)]
      grind
    · rw [if_neg z, if_neg z]
      by_cases y : startOf c b (arrAt c k).1 ≤ j ∧ j < startOf c b (arrAt c k).1 + szAt c (arrAt c k).1
      · rw [if_pos y, if_pos y]
        exact rl2 _ _
      · rw [if_neg y, if_neg y]
        exact rl3 _ (rg5 _ _ rfl)
  rw [e1, sm_add]
  congr 1
  · rw [sm_block (s := startOf c b (arrAt c k).1) (n := szAt c (arrAt c k).1) r1 (fun j hj hn => if_neg hn)]
    unfold tbl
    refine sm_congr fun j hj => ?_
    rw [if_pos ⟨by omega, by omega⟩, Nat.add_sub_cancel_left]
    unfold blk
    rw [if_pos hj]
  · rw [sm_one (k := startOf c b (arrAt c k).2 + m) (by omega) (fun j hj ne => if_neg ne), if_pos rfl]
theorem ask_mem {p : Int} {c : Pc} {b e : Nat} {r : List Int} : r ∈ askRows p c b e ↔ ∃ k m, b ≤ k ∧ k < e ∧ m < (tabAt c k).rows.length ∧ r = meetRow p c b e k m ((tabAt c k).rows.getD m []) := by
  unfold askRows
  rw [List.mem_flatMap]
  constructor
  · rintro ⟨i, hi, hr⟩
    have hi := List.mem_range.mp hi
    obtain ⟨m, hm, rfl⟩ := List.getElem_of_mem hr
    rw [List.length_mapIdx] at hm
    refine ⟨b + i, m, by omega, by omega, hm, ?_⟩
    rw [List.getElem_mapIdx, List.getD_eq_getElem?_getD, List.getElem?_eq_getElem hm]
    rfl
  · rintro ⟨k, m, h1, h2, hm, rfl⟩
    refine ⟨k - b, List.mem_range.mpr (by omega), ?_⟩
    rw [show b + (k - b) = k by omega]
    refine List.mem_of_getElem? (i := m) ?_
    rw [List.getElem?_mapIdx, List.getD_eq_getElem?_getD, List.getElem?_eq_getElem hm]
    rfl
/-- the meetings -/
theorem ask_nl (md : Md p F) (hp : okP p) {c : Pc} (ok : PcOk p c) {b e : Nat} (he : e < c.many) (x : Nat → F) :
    Nl (askRows p c b e) (widthOf c b e) x ↔ (∀ j, widthOf c b e ≤ j → x j = 0) ∧ ∀ k m, b ≤ k → k < e → m < szAt c (arrAt c k).2 → tbl c k (blk c b (arrAt c k).1 x) m = x (startOf c b (arrAt c k).2 + m) := by
  have hrows : ∀ k, b ≤ k → k < e → (tabAt c k).rows.length = szAt c (arrAt c k).2 := fun k h1 h2 => by
    obtain ⟨hk, ga, gt, in1, in2⟩ := arr_in ok (b := b) he (i := k - b) (by omega)
    rw [show b + (k - b) = k by omega] at hk ga gt
    exact (ok.fit k _ _ ga gt).2.2.1
  constructor
  · rintro ⟨h1, h2⟩
    refine ⟨h1, fun k m hb hk hm => ?_⟩
    have := h2 _ (ask_mem.mpr ⟨k, m, hb, hk, by rw [hrows k hb hk]; exact hm, rfl⟩)
    rw [meet_dot md hp ok hb hk he hm] at this
    exact rl4 _ _ this
  · rintro ⟨h1, h2⟩
    refine ⟨h1, fun r hr => ?_⟩
    obtain ⟨k, m, hb, hk, hm, rfl⟩ := ask_mem.mp hr
    rw [hrows k hb hk] at hm
    rw [meet_dot md hp ok hb hk he hm]
    exact rl5 _ _ (h2 k m hb hk hm)
/-- the first place's part -/
def fst0 (c : Pc) (b : Nat) (x : Nat → F) : Nat → F := fun j => if j < szAt c b then x j else 0
theorem fst0_sp {c : Pc} {b : Nat} {S T : (Nat → F) → Prop} (h : ∀ x, S x → Sp T (fst0 c b x)) {x : Nat → F} (g : Sp S x) : Sp T (fst0 c b x) := by
  induction g with
  | zero => exact Sp.zero.eq fun j => by unfold fst0; split <;> rfl
  | @step x v a hx hv ih =>
    refine (((h _ hx).smul a).add ih).eq fun j => ?_
    unfold fst0
    split
    · rfl
    · grind
theorem kept_vec {p : Int} (hp : okP p) {c : Pc} (ok : PcOk p c) {b e : Nat} (hbe : b ≤ e) (he : e < c.many) {r : List Int} (hr : r ∈ meetingRows p c b e) (j : Nat) : vec F (r.take (szAt c b) ++ nils (widthOf c b e - szAt c b)) j = fst0 c b (vec F r) j := by
  have hp1 := hp.lo
  have okr := (meetingRows_ok (p := p) (by omega) ok hbe he).1 r hr
  have st0 := start_in (c := c) (b := b) (e := e) (q := b) (Nat.le_refl _) hbe
  have lt : (r.take (szAt c b)).length = szAt c b := by rw [List.length_take, okr.1]; omega
  unfold vec fst0
  rw [List.getD_eq_getElem?_getD]
  by_cases z : j < szAt c b
  · rw [if_pos z, List.getElem?_append_left (by omega), List.getElem?_take_of_lt z, ← List.getD_eq_getElem?_getD]
  · rw [if_neg z, List.getElem?_append_right (by omega), ← List.getD_eq_getElem?_getD, nils_at, ct_zero]
/-- rows kept and meetings -/
theorem kept_of (md : Md p F) (hp : okP p) {c : Pc} (ok : PcOk p c) {b e : Nat} (hbe : b ≤ e) (he : e < c.many) {x : Nat → F} (hx : Nl (askRows p c b e) (widthOf c b e) x) : Sp (Rw F (keptRows p c b e)) (fst0 c b x) := by
  have hp1 := hp.lo
  have okA := (askTo_ok (p := p) (by omega) ok (b := b) he (e - b) (Nat.le_refl _)).1
  have h := (ker_span md hp okA x).mpr hx
  refine fst0_sp (fun y hy => ?_) h
  obtain ⟨r, hr, rfl⟩ := hy
  refine (Sp.of (S := Rw F (keptRows p c b e)) (x := vec F (r.take (szAt c b) ++ nils (widthOf c b e - szAt c b))) ⟨_, List.mem_map.mpr ⟨r, hr, rfl⟩, rfl⟩).eq fun j => kept_vec hp ok hbe he hr j
theorem of_kept (md : Md p F) (hp : okP p) {c : Pc} (ok : PcOk p c) {b e : Nat} (hbe : b ≤ e) (he : e < c.many) {y : Nat → F} (hy : Rw F (keptRows p c b e) y) : ∃ x, Nl (askRows p c b e) (widthOf c b e) x ∧ ∀ j, y j = fst0 c b x j := by
  have hp1 := hp.lo
  have okA := (askTo_ok (p := p) (by omega) ok (b := b) he (e - b) (Nat.le_refl _)).1
  obtain ⟨s, hs, rfl⟩ := hy
  obtain ⟨r, hr, rfl⟩ := List.mem_map.mp hs
  exact ⟨vec F r, (ker_span md hp okA _).mp (.of ⟨r, hr, rfl⟩), fun j => kept_vec hp ok hbe he hr j⟩
/-- a picture that comes apart into N pieces, piece i at the places with cov i -/
structure Abs (p : Int) (F : Type) [Lean.Grind.CommRing F] (c : Pc) (b e N : Nat) (cov : Nat → Nat → Bool) (P R : Nat → Nat → Nat → F) : Prop where
  ok : PcOk p c
  hbe : b ≤ e
  he : e < c.many
  PR : ∀ q, b ≤ q → q ≤ e → ∀ j j', j < szAt c q → j' < szAt c q → sm (fun i => P q j i * R q i j') N = if j = j' then 1 else 0
  RP : ∀ q, b ≤ q → q ≤ e → ∀ i i', i < N → i' < N → sm (fun j => R q i j * P q j i') (szAt c q) = if i = i' ∧ cov i q = true then 1 else 0
  T : ∀ k, b ≤ k → k < e → ∀ r j, r < szAt c (arrAt c k).2 → j < szAt c (arrAt c k).1 → vec F ((tabAt c k).rows.getD r []) j = sm (fun i => P (arrAt c k).2 r i * R (arrAt c k).1 i j) N
def Pm (P : Nat → Nat → Nat → F) (N q : Nat) (z : Nat → F) : Nat → F := fun j => sm (fun i => P q j i * z i) N
def Rm (c : Pc) (R : Nat → Nat → Nat → F) (q : Nat) (v : Nat → F) : Nat → F := fun i => sm (fun j => R q i j * v j) (szAt c q)
theorem sm_mul_swap (a : Nat → F) (f : Nat → Nat → F) (v : Nat → F) (n m : Nat) : sm (fun i => a i * sm (fun j => f i j * v j) m) n = sm (fun j => sm (fun i => a i * f i j) n * v j) m := by
  have e1 : sm (fun i => a i * sm (fun j => f i j * v j) m) n = sm (fun i => sm (fun j => a i * (f i j * v j)) m) n := sm_congr fun i hi => (sm_mul _ _ _).symm
  rw [e1, sm_swap]
  refine sm_congr fun j hj => ?_
  have e2 : sm (fun i => a i * (f i j * v j)) n = sm (fun i => v j * (a i * f i j)) n := sm_congr fun i hi => by grind
  rw [e2, sm_mul]
  grind
section
variable {c : Pc} {b e N : Nat} {cov : Nat → Nat → Bool} {P R : Nat → Nat → Nat → F}
theorem Abs.pr (A : Abs p F c b e N cov P R) {q : Nat} (h1 : b ≤ q) (h2 : q ≤ e) (v : Nat → F) {j : Nat} (hj : j < szAt c q) : Pm P N q (Rm c R q v) j = v j := by
  unfold Pm Rm
  rw [sm_mul_swap, sm_one (k := j) hj (fun j' hj' ne => ?_)]
  · rw [A.PR q h1 h2 j j hj hj, if_pos rfl]
    grind
  · rw [A.PR q h1 h2 j j' hj hj', if_neg (Ne.symm ne)]
    exact rg5 _ _ rfl
theorem Abs.rp (A : Abs p F c b e N cov P R) {q : Nat} (h1 : b ≤ q) (h2 : q ≤ e) (z : Nat → F) {i : Nat} (hi : i < N) : Rm c R q (Pm P N q z) i = if cov i q = true then z i else 0 := by
  unfold Pm Rm
  rw [sm_mul_swap, sm_one (k := i) hi (fun i' hi' ne => ?_)]
  · rw [A.RP q h1 h2 i i hi hi]
    by_cases y : cov i q = true
    · rw [if_pos ⟨rfl, y⟩, if_pos y]
      grind
    · rw [if_neg (fun h => y h.2), if_neg y]
      exact rg5 _ _ rfl
  · rw [A.RP q h1 h2 i i' hi hi', if_neg (fun h => ne h.1.symm)]
    exact rg5 _ _ rfl
theorem Abs.t (A : Abs p F c b e N cov P R) {k : Nat} (h1 : b ≤ k) (h2 : k < e) (v : Nat → F) {r : Nat} (hr : r < szAt c (arrAt c k).2) : tbl c k v r = Pm P N (arrAt c k).2 (Rm c R (arrAt c k).1 v) r := by
  unfold tbl Pm Rm
  rw [sm_mul_swap]
  exact sm_congr fun j hj => by rw [A.T k h1 h2 r j hr hj]
theorem Rm_congr {q : Nat} {v w : Nat → F} (h : ∀ j, j < szAt c q → v j = w j) (i : Nat) : Rm c R q v i = Rm c R q w i := sm_congr fun j hj => by rw [h j hj]
theorem Pm_congr {q : Nat} {z w : Nat → F} (h : ∀ i, i < N → z i = w i) (j : Nat) : Pm P N q z j = Pm P N q w j := sm_congr fun i hi => by rw [h i hi]
theorem Pm_zero {q : Nat} {z : Nat → F} (h : ∀ i, i < N → z i = 0) (j : Nat) : Pm P N q z j = 0 := sm_zero fun i hi => by rw [h i hi]; exact rg4 _ _ rfl
theorem Rm_zero {q : Nat} {v : Nat → F} (h : ∀ j, j < szAt c q → v j = 0) (i : Nat) : Rm c R q v i = 0 := sm_zero fun j hj => by rw [h j hj]; exact rg4 _ _ rfl
theorem Rm_lin (q i : Nat) : Lin (fun v => Rm c R q v i) where
  zero := Rm_zero (fun _ _ => rfl) i
  step a x v := by
    show sm (fun j => R q i j * (a * x j + v j)) (szAt c q) = a * sm (fun j => R q i j * x j) (szAt c q) + sm (fun j => R q i j * v j) (szAt c q)
    rw [← sm_mul, ← sm_add]
    exact sm_congr fun j _ => by grind
/-- the functional of a piece -/
def phi (c : Pc) (R : Nat → Nat → Nat → F) (b e i : Nat) (v : Nat → F) : F := sm (fun t => Rm c R (b + t) (blk c b (b + t) v) i) (e + 1 - b)
theorem phi_lin (i : Nat) : Lin (phi c R b e i) where
  zero := sm_zero fun t _ => Rm_zero (fun j _ => by unfold blk; split <;> rfl) i
  step a x v := by
    unfold phi
    rw [← sm_mul, ← sm_add]
    refine sm_congr fun t _ => ?_
    rw [← (Rm_lin (c := c) (R := R) (b + t) i).step]
    refine Rm_congr (fun j hj => ?_) i
    unfold blk
    rw [if_pos hj, if_pos hj, if_pos hj]
theorem phi_emb {q : Nat} (h1 : b ≤ q) (h2 : q ≤ e) (i : Nat) (v : Nat → F) : phi c R b e i (emb c b q v) = Rm c R q v i := by
  unfold phi
  rw [sm_one (k := q - b) (by omega) (fun t ht ne => ?_)]
  · rw [show b + (q - b) = q by omega]
    refine Rm_congr (fun j hj => ?_) i
    rw [blk_emb h1 h1, if_pos ⟨rfl, hj⟩]
  · refine Rm_zero (fun j hj => ?_) i
    rw [blk_emb h1 (by omega), if_neg (fun h => by omega)]
theorem rm1 (a b : F) (h : a = b) : -1 * a + b = 0 := by grind
theorem phi_loose (A : Abs p F c b e N cov P R) {k i : Nat} (h1 : b ≤ k) (h2 : k < e) (hi : i < N) (hc : ∀ q, b ≤ q → q ≤ e → cov i q = true) (v : Nat → F) : phi c R b e i (fun j => emb c b (arrAt c k).1 v j + -1 * emb c b (arrAt c k).2 (tbl c k v) j) = 0 := by
  obtain ⟨hk, ga, gt, in1, in2⟩ := arr_in A.ok (b := b) A.he (i := k - b) (by omega)
  rw [show b + (k - b) = k by omega] at hk ga gt in1 in2
  have e1 : (fun j => emb c b (arrAt c k).1 v j + -1 * emb c b (arrAt c k).2 (tbl c k v) j) = fun j => -1 * emb c b (arrAt c k).2 (tbl c k v) j + emb c b (arrAt c k).1 v j := funext fun j => rh9 _ _
  rw [e1, (phi_lin i).step, phi_emb in2.1 in2.2, phi_emb in1.1 in1.2]
  refine rm1 _ _ ?_
  rw [Rm_congr (w := Pm P N (arrAt c k).2 (Rm c R (arrAt c k).1 v)) (fun j hj => A.t h1 h2 v hj) i, A.rp in2.1 in2.2 _ hi, if_pos (hc _ in2.1 in2.2)]
end
end
end K33
namespace K33
section
variable {F : Type} [Lean.Grind.CommRing F] {p : Int} {c : Pc} {b e N : Nat} {cov : Nat → Nat → Bool} {P R : Nat → Nat → Nat → F}
theorem emb_congr {q : Nat} {v w : Nat → F} (h : ∀ j, j < szAt c q → v j = w j) (j : Nat) : emb c b q v j = emb c b q w j := by
  unfold emb
  by_cases z : startOf c b q ≤ j ∧ j < startOf c b q + szAt c q
  · rw [if_pos z, if_pos z, h _ (by omega)]
  · rw [if_neg z, if_neg z]
theorem emb_zero {q : Nat} {v : Nat → F} (h : ∀ j, j < szAt c q → v j = 0) (j : Nat) : emb c b q v j = 0 := by
  unfold emb
  by_cases z : startOf c b q ≤ j ∧ j < startOf c b q + szAt c q
  · rw [if_pos z, h _ (by omega)]
  · rw [if_neg z]
theorem ro1 (a x y : F) (h : a = 0) : a * x = 0 := by grind
theorem ro2 (a x y : F) : (a + -1 * x) + (x + -1 * y) = a + -1 * y := by grind
theorem ro3 (a x y : F) : (a + -1 * x) + -1 * (y + -1 * x) = a + -1 * y := by grind
theorem ro4 (a x y : F) (h : y = 0) : (a + -1 * x) + (x + -1 * y) = a := by grind
theorem ro5 (a : F) : (0 : F) = a + -1 * a := by grind
/-- what a piece that is not there at a place is there -/
theorem Abs.pm0 (A : Abs p F c b e N cov P R) {q i : Nat} (h1 : b ≤ q) (h2 : q ≤ e) (hc : ¬ cov i q = true) {j : Nat} (hj : j < szAt c q) : Pm P N q (unv F i) j = 0 := by
  rw [← A.pr h1 h2 (Pm P N q (unv F i)) hj]
  refine Pm_zero (fun i' hi' => ?_) j
  rw [A.rp h1 h2 _ hi']
  by_cases z : i' = i
  · rw [z, if_neg hc]
  · unfold unv
    rw [if_neg z]
    split <;> rfl
theorem Abs.rpe (A : Abs p F c b e N cov P R) {q i : Nat} (h1 : b ≤ q) (h2 : q ≤ e) (hc : cov i q = true) (i' : Nat) (hi' : i' < N) : Rm c R q (Pm P N q (unv F i)) i' = unv F i i' := by
  rw [A.rp h1 h2 _ hi']
  by_cases z : i' = i
  · rw [z, if_pos hc]
  · unfold unv
    rw [if_neg z]
    split <;> rfl
/-- the part of a meeting that belongs to a piece -/
def zq (c : Pc) (R : Nat → Nat → Nat → F) (b : Nat) (x : Nat → F) (q i : Nat) : F := Rm c R q (blk c b q x) i
theorem Abs.zcov (A : Abs p F c b e N cov P R) (x : Nat → F) {q i : Nat} (h1 : b ≤ q) (h2 : q ≤ e) (hi : i < N) (hc : ¬ cov i q = true) : zq c R b x q i = 0 := by
  unfold zq
  rw [Rm_congr (w := Pm P N q (Rm c R q (blk c b q x))) (fun j hj => (A.pr h1 h2 _ hj).symm) i, A.rp h1 h2 _ hi, if_neg hc]
theorem Abs.zstep (A : Abs p F c b e N cov P R) {x : Nat → F} (hx : ∀ k m, b ≤ k → k < e → m < szAt c (arrAt c k).2 → tbl c k (blk c b (arrAt c k).1 x) m = x (startOf c b (arrAt c k).2 + m)) {k i : Nat} (h1 : b ≤ k) (h2 : k < e) (hi : i < N) :
    zq c R b x (arrAt c k).2 i = if cov i (arrAt c k).2 = true then zq c R b x (arrAt c k).1 i else 0 := by
  obtain ⟨hk, ga, gt, in1, in2⟩ := arr_in A.ok (b := b) A.he (i := k - b) (by omega)
  rw [show b + (k - b) = k by omega] at hk ga gt in1 in2
  unfold zq
  rw [Rm_congr (w := Pm P N (arrAt c k).2 (Rm c R (arrAt c k).1 (blk c b (arrAt c k).1 x))) (fun j hj => ?_) i, A.rp in2.1 in2.2 _ hi]
  rw [← A.t h1 h2 _ hj, hx k j h1 h2 hj]
  unfold blk
  rw [if_pos hj]
/-- a piece that is not there throughout is lost -/
theorem Abs.chain (A : Abs p F c b e N cov P R) (md : Md p F) (hp : okP p) {x : Nat → F} (hx : ∀ k m, b ≤ k → k < e → m < szAt c (arrAt c k).2 → tbl c k (blk c b (arrAt c k).1 x) m = x (startOf c b (arrAt c k).2 + m)) {i : Nat} (hi : i < N) :
    ∀ n, b + n ≤ e → Sp (Rw F (lostRows p c b e)) (fun j => zq c R b x b i * emb c b b (Pm P N b (unv F i)) j) ∨
      ((∀ q, b ≤ q → q ≤ b + n → cov i q = true) ∧ zq c R b x (b + n) i = zq c R b x b i ∧ Sp (Rw F (lostRows p c b e)) (fun j => emb c b b (Pm P N b (unv F i)) j + -1 * emb c b (b + n) (Pm P N (b + n) (unv F i)) j))
  | 0, h => by
    by_cases z : cov i b = true
    · right
      refine ⟨fun q h1 h2 => by rw [show q = b by omega]; exact z, rfl, Sp.zero.eq fun j => ro5 _⟩
    · left
      have := A.zcov x (Nat.le_refl b) A.hbe hi z
      exact Sp.zero.eq fun j => (ro1 _ _ 0 this).symm
  | n + 1, h => by
    rcases Abs.chain A md hp hx hi n (by omega) with h0 | ⟨hc, hz, hs⟩
    · exact .inl h0
    · have hk1 : b ≤ b + n := Nat.le_add_right b n
      have hk2 : b + n < e := by omega
      obtain ⟨hk, ga, gt, in1, in2⟩ := arr_in A.ok (b := b) A.he (i := b + n - b) (by omega)
      rw [show b + (b + n - b) = b + n by omega] at hk ga gt in1 in2
      have step := A.zstep hx hk1 hk2 hi
      have tt := fun v r hr => A.t hk1 hk2 v (r := r) hr
      have loose := fun v => loose_sp (F := F) md hp A.ok hk1 hk2 A.he v
      have hcq := hc (b + n) hk1 (Nat.le_refl _)
      rcases A.ok.li.2.2 (b + n) _ ga with ea | ea
      · rw [ea] at step tt loose
        have lo := loose (Pm P N (b + n) (unv F i))
        by_cases z : cov i (b + n + 1) = true
        · right
          refine ⟨fun q h1 h2 => ?_, ?_, ?_⟩
          · by_cases w : q = b + n + 1
            · rw [w]
              exact z
            · exact hc q h1 (by omega)
          · show zq c R b x (b + n + 1) i = _
            rw [step, if_pos z, hz]
          · refine (hs.add lo).eq fun j => ?_
            rw [show emb c b (b + n + 1) (tbl c (b + n) (Pm P N (b + n) (unv F i))) j = emb c b (b + n + 1) (Pm P N (b + n + 1) (unv F i)) j from emb_congr (fun r hr => by
              rw [tt _ r hr]
              exact Pm_congr (fun i' hi' => A.rpe hk1 (by omega) hcq i' hi') r) j]
            exact ro2 _ _ _
        · left
          refine ((hs.add lo).smul (zq c R b x b i)).eq fun j => ?_
          rw [show emb c b (b + n + 1) (tbl c (b + n) (Pm P N (b + n) (unv F i))) j = 0 from emb_zero (fun r hr => by
            rw [tt _ r hr, Pm_congr (w := unv F i) (fun i' hi' => A.rpe hk1 (by omega) hcq i' hi') r]
            exact A.pm0 (by omega) (by omega) z hr) j]
          rw [ro4 _ _ _ rfl]
      · rw [ea] at step tt loose
        have lo := loose (Pm P N (b + n + 1) (unv F i))
        by_cases z : cov i (b + n + 1) = true
        · right
          refine ⟨fun q h1 h2 => ?_, ?_, ?_⟩
          · by_cases w : q = b + n + 1
            · rw [w]
              exact z
            · exact hc q h1 (by omega)
          · show zq c R b x (b + n + 1) i = _
            rw [if_pos hcq] at step
            rw [← hz, step]
          · refine (hs.add (lo.smul (-1))).eq fun j => ?_
            rw [show emb c b (b + n) (tbl c (b + n) (Pm P N (b + n + 1) (unv F i))) j = emb c b (b + n) (Pm P N (b + n) (unv F i)) j from emb_congr (fun r hr => by
              rw [tt _ r hr]
              exact Pm_congr (fun i' hi' => A.rpe (by omega) (by omega) z i' hi') r) j]
            exact ro3 _ _ _
        · left
          have hz0 : zq c R b x b i = 0 := by
            rw [← hz, step, if_pos hcq]
            exact A.zcov x (by omega) (by omega) hi z
          exact Sp.zero.eq fun j => (ro1 _ _ 0 hz0).symm
theorem fst0_emb (x : Nat → F) (j : Nat) : fst0 c b x j = emb c b b (blk c b b x) j := by
  unfold fst0 emb blk
  rw [start_self]
  by_cases z : j < szAt c b
  · rw [if_pos z, if_pos ⟨Nat.zero_le _, by omega⟩, Nat.sub_zero, if_pos z, Nat.zero_add]
  · rw [if_neg z, if_neg (by omega)]
/-- every meeting's first part is a sum of lost ones and of pieces that are there throughout -/
theorem Abs.kept_in (A : Abs p F c b e N cov P R) (md : Md p F) (hp : okP p) {x : Nat → F} (hx : Nl (askRows p c b e) (widthOf c b e) x) {T : (Nat → F) → Prop} (hT : ∀ y, Rw F (lostRows p c b e) y → Sp T y)
    (hu : ∀ i, i < N → (∀ q, b ≤ q → q ≤ e → cov i q = true) → Sp T (emb c b b (Pm P N b (unv F i)))) : Sp T (fst0 c b x) := by
  obtain ⟨h1, h2⟩ := (ask_nl md hp A.ok A.he x).mp hx
  have hs : Sp T (fun j => sm (fun i => 1 * (zq c R b x b i * emb c b b (Pm P N b (unv F i)) j)) N) := Sp.sum (w := fun i j => zq c R b x b i * emb c b b (Pm P N b (unv F i)) j) (fun _ => 1) fun i hi => by
    by_cases full : ∀ q, b ≤ q → q ≤ e → cov i q = true
    · exact (hu i hi full).smul _
    · rcases A.chain md hp h2 hi (e - b) (by have := A.hbe; omega) with h | ⟨h, _⟩
      · exact Sp.trans hT h
      · exact absurd (fun q g1 g2 => h q g1 (by omega)) full
  refine hs.eq fun j => ?_
  rw [fst0_emb]
  show sm (fun i => 1 * (zq c R b x b i * emb c b b (Pm P N b (unv F i)) j)) N = _
  unfold emb
  by_cases z : startOf c b b ≤ j ∧ j < startOf c b b + szAt c b
  · rw [if_pos z, ← A.pr (Nat.le_refl b) A.hbe (blk c b b x) (by omega : j - startOf c b b < szAt c b)]
    unfold Pm
    refine sm_congr fun i hi => ?_
    rw [if_pos z, sm_one (k := i) hi (fun i' hi' ne => by unfold unv; rw [if_neg ne]; exact rg4 _ _ rfl)]
    unfold unv zq
    rw [if_pos rfl]
    grind
  · rw [if_neg z]
    exact sm_zero fun i hi => by rw [if_neg z]; grind
/-- a piece that is there throughout is a meeting's first part -/
theorem Abs.in_kept (A : Abs p F c b e N cov P R) (md : Md p F) (hp : okP p) {i : Nat} (hc : ∀ q, b ≤ q → q ≤ e → cov i q = true) : Sp (Rw F (keptRows p c b e)) (emb c b b (Pm P N b (unv F i))) := by
  have hbe := A.hbe
  have hblk : ∀ q, b ≤ q → q ≤ e → ∀ j, j < szAt c q → sm (fun t => emb c b (b + t) (Pm P N (b + t) (unv F i)) (startOf c b q + j)) (e + 1 - b) = Pm P N q (unv F i) j := fun q h1 h2 j hj => by
    rw [sm_one (k := q - b) (by omega) (fun t ht ne => ?_)]
    · rw [show b + (q - b) = q by omega]
      unfold emb
      rw [if_pos ⟨by omega, by omega⟩, Nat.add_sub_cancel_left]
    · unfold emb
      rw [if_neg (apart (c := c) (b := b) (q := q) h1 (by omega) (by omega) ⟨by omega, by omega⟩)]
  have hx : Nl (askRows p c b e) (widthOf c b e) (fun j => sm (fun t => emb c b (b + t) (Pm P N (b + t) (unv F i)) j) (e + 1 - b)) := by
    refine (ask_nl md hp A.ok A.he _).mpr ⟨fun j hj => sm_zero fun t ht => ?_, fun k m h1 h2 hm => ?_⟩
    · unfold emb
      have := start_in (c := c) (b := b) (e := e) (q := b + t) (by omega) (by omega)
      rw [if_neg (by omega)]
    · obtain ⟨hk, ga, gt, in1, in2⟩ := arr_in A.ok (b := b) A.he (i := k - b) (by omega)
      rw [show b + (k - b) = k by omega] at hk ga gt in1 in2
      rw [A.t h1 h2 _ hm]
      show _ = sm (fun t => emb c b (b + t) (Pm P N (b + t) (unv F i)) (startOf c b (arrAt c k).2 + m)) (e + 1 - b)
      rw [hblk _ in2.1 in2.2 m hm]
      refine Pm_congr (fun i' hi' => ?_) m
      rw [Rm_congr (w := Pm P N (arrAt c k).1 (unv F i)) (fun j hj => ?_) i', A.rpe in1.1 in1.2 (hc _ in1.1 in1.2) i' hi']
      unfold blk
      rw [if_pos hj]
      exact hblk _ in1.1 in1.2 j hj
  refine (kept_of md hp A.ok hbe A.he hx).eq fun j => ?_
  rw [fst0_emb]
  refine emb_congr (fun j hj => ?_) j
  unfold blk
  rw [if_pos hj]
  exact hblk b (Nat.le_refl b) hbe j hj
/-- the reach is the number of pieces that are there throughout -/
theorem Abs.reach (A : Abs p F c b e N cov P R) (md : Md p F) (hp : okP p) {I : List Nat} (nd : I.Nodup) (hI : ∀ i, i ∈ I ↔ i < N ∧ ∀ q, b ≤ q → q ≤ e → cov i q = true) : reachOf p c b e = (I.length : Int) := by
  have hp1 := hp.lo
  have hbe := A.hbe
  have okL : okMat p (widthOf c b e) (lostRows p c b e) := lostTo_ok (by omega) A.ok A.he _ (Nat.le_refl _)
  have okK := keptRows_ok (p := p) (by omega) A.ok hbe A.he
  have okB : okMat p (widthOf c b e) (lostRows p c b e ++ keptRows p c b e) := fun r hr => by
    rcases List.mem_append.mp hr with hr | hr
    · exact okL r hr
    · exact okK r hr
  have gI : ∀ k, k < I.length → I.getD k 0 < N ∧ ∀ q, b ≤ q → q ≤ e → cov (I.getD k 0) q = true := fun k hk => (hI _).mp (mem_at.mpr ⟨k, hk, rfl⟩)
  have h := rank_more md.inv md.one (red_ind (F := F) hp okL) (red_ind (F := F) hp okB) (u := fun k => emb c b b (Pm P N b (unv F (I.getD k 0)))) (N := I.length) (fun k v => phi c R b e (I.getD k 0) v) (fun k hk => phi_lin _) (fun k i hk hi => ?_) (fun k i hk hi => ?_) (fun i hi => ?_) (fun i hi => ?_) (fun i hi => ?_)
  · unfold reachOf
    omega
  · -- the lost rows
    have g := gI k hk
    refine (phi_lin _).sp (S := Rw F (lostRows p c b e)) (fun y hy => ?_) ((red_span md hp okL _).mp (.of (rw_am.mpr ⟨i, hi, rfl⟩)))
    obtain ⟨r, hr, rfl⟩ := hy
    unfold lostRows at hr
    obtain ⟨t, ht, hr⟩ := List.mem_flatMap.mp hr
    have ht := List.mem_range.mp ht
    obtain ⟨m, hm, rfl⟩ := List.mem_map.mp hr
    have hm := List.mem_range.mp hm
    rw [show vec F (lostRow p c b e (b + t) m) = fun j => emb c b (arrAt c (b + t)).1 (unv F m) j + -1 * emb c b (arrAt c (b + t)).2 (tbl c (b + t) (unv F m)) j from funext fun j => lost_vec md hp A.ok (by omega) (by omega) A.he hm j]
    exact phi_loose A (by omega) (by omega) g.1 g.2 _
  · have g := gI k hk
    show phi c R b e (I.getD k 0) (emb c b b (Pm P N b (unv F (I.getD i 0)))) = _
    rw [phi_emb (Nat.le_refl b) hbe, A.rp (Nat.le_refl b) hbe _ g.1, if_pos (g.2 b (Nat.le_refl b) hbe)]
    unfold unv
    by_cases z : i = k
    · rw [z, if_pos rfl, if_pos rfl]
    · rw [if_neg z, if_neg (fun e => z ?_)]
      rw [List.getD_eq_getElem?_getD, List.getD_eq_getElem?_getD, List.getElem?_eq_getElem hk, List.getElem?_eq_getElem hi] at e
      exact (nd_inj nd hk hi e).symm
  · refine Sp.trans (fun y hy => ?_) ((red_span md hp okB _).mp (.of (rw_am.mpr ⟨i, hi, rfl⟩)))
    have hL : ∀ y, Rw F (lostRows p c b e) y → Sp (fun x => Am (rowV F (redRows p (widthOf c b e) (lostRows p c b e))) (redRows p (widthOf c b e) (lostRows p c b e)).length x ∨ Am (fun k => emb c b b (Pm P N b (unv F (I.getD k 0)))) I.length x) y := fun y hy =>
      Sp.mono (fun x hx => .inl (rw_am.mp hx)) ((red_span md hp okL y).mpr (.of hy))
    obtain ⟨r, hr, rfl⟩ := hy
    rcases List.mem_append.mp hr with hr | hr
    · exact hL _ ⟨r, hr, rfl⟩
    · obtain ⟨x, hx, ex⟩ := of_kept md hp A.ok hbe A.he (F := F) ⟨r, hr, rfl⟩
      refine (A.kept_in md hp hx hL fun i hi full => ?_).eq fun j => (ex j).symm
      obtain ⟨k, hk, ek⟩ := mem_at.mp ((hI i).mpr ⟨hi, full⟩)
      exact .of (.inr ⟨k, hk, by rw [ek]⟩)
  · refine Sp.mono (fun x hx => rw_am.mp hx) ((red_span md hp okB _).mpr ?_)
    refine Sp.mono (fun x hx => ?_) ((red_span md hp okL _).mp (.of (rw_am.mpr ⟨i, hi, rfl⟩)))
    obtain ⟨r, hr, rfl⟩ := hx
    exact ⟨r, List.mem_append_left _ hr, rfl⟩
  · have g := gI i hi
    refine Sp.mono (fun x hx => rw_am.mp hx) ((red_span md hp okB _).mpr ?_)
    refine Sp.mono (fun x hx => ?_) (A.in_kept md hp g.2)
    obtain ⟨r, hr, rfl⟩ := hx
    exact ⟨r, List.mem_append_right _ hr, rfl⟩
end
end K33
namespace K33
section
variable {F : Type} [Lean.Grind.CommRing F] {p : Int}
theorem rp1 (a b k : F) (h : b = 0) (g : a + k * b = 0) : a = 0 := by grind
theorem rp2 (a y k b : F) (h : a = y - k * b) : a + k * b = y := by grind
theorem rp3 (s t a : F) (h : s * t = 1) (g : s * a = 0) : a = 0 := by grind
theorem rp4 (s t a : F) (h : s * t = 1) : s * (t * a) = a := by grind
theorem rp5 (a b x k : F) : (a + k * b) * x = a * x + k * (b * x) := by grind
theorem rp6 (s a x : F) : s * a * x = s * (a * x) := by grind
/-- rows at work -/
def mv (G : List (List Int)) (n : Nat) (x : Nat → F) : Nat → F := fun r => sm (fun j => vec F (G.getD r []) j * x j) n
theorem vec_add (md : Md p F) {r s : List Int} (h : r.length = s.length) (k : Int) (j : Nat) : vec F (addRow p k r s) j = vec F r j + ct F k * vec F s j := by
  by_cases z : j < r.length
  · unfold vec addRow
    have e : (List.zipWith (fun a b => (a + k * b) % p) r s).getD j 0 = (r.getD j 0 + k * s.getD j 0) % p := by
      rw [List.getD_eq_getElem?_getD, List.getElem?_zipWith, List.getD_eq_getElem?_getD, List.getD_eq_getElem?_getD, List.getElem?_eq_getElem z, List.getElem?_eq_getElem (by omega)]
      rfl
    rw [e, md.mod, ct_add, ct_mul]
  · rw [vec_ge (by unfold addRow; rw [List.length_zipWith]; omega), vec_ge (by omega), vec_ge (by omega)]
    grind
theorem getD_set {m : List (List Int)} {i : Nat} (hi : i < m.length) (y : List Int) (r : Nat) : (m.set i y).getD r [] = if r = i then y else m.getD r [] := by
  by_cases z : r = i
  · subst z
    rw [if_pos rfl, List.getD_eq_getElem?_getD, List.getElem?_set_self hi]
    rfl
  · rw [if_neg z, List.getD_eq_getElem?_getD, List.getElem?_set_ne (Ne.symm z), ← List.getD_eq_getElem?_getD]
theorem plain_getD {n r : Nat} (h : r < n) : (plainR n).getD r [] = unitR n r := by
  unfold plainR
  rw [List.getD_eq_getElem?_getD, List.getElem?_map, List.getElem?_range h]
  rfl
theorem unit_vec {n r j : Nat} (hj : j < n) : vec F (unitR n r) j = if j = r then 1 else 0 := by
  unfold vec
  rw [unitR_at]
  by_cases z : j = r
  · rw [if_pos ⟨z, hj⟩, if_pos z, ct_one]
  · rw [if_neg (fun h => z h.1), if_neg z, ct_zero]
theorem mv_plain {n r : Nat} (h : r < n) (x : Nat → F) : mv (plainR n) n x r = x r := by
  unfold mv
  rw [sm_one (k := r) h (fun i hi ne => ?_)]
  · rw [plain_getD h, unit_vec h, if_pos rfl]
    grind
  · rw [plain_getD h, unit_vec hi, if_neg ne]
    exact rg5 _ _ rfl
theorem mv_add (md : Md p F) {n : Nat} {m : List (List Int)} (lm : m.length = n) (ok : okMat p n m) {i j : Nat} (hi : i < n) (hj : j < n) (k : Int) (x : Nat → F) (r : Nat) :
    mv (m.set i (addRow p k (m.getD i []) (m.getD j []))) n x r = if r = i then mv m n x i + ct F k * mv m n x j else mv m n x r := by
  have o1 := ok _ (mem_getD (d := []) (l := m) (k := i) (by omega))
  have o2 := ok _ (mem_getD (d := []) (l := m) (k := j) (by omega))
  unfold mv
  rw [getD_set (by omega)]
  by_cases z : r = i
  · rw [if_pos z, if_pos z, ← sm_mul, ← sm_add]
    refine sm_congr fun t ht => ?_
    rw [vec_add md (by rw [o1.1, o2.1])]
    exact rp5 _ _ _ _
  · rw [if_neg z, if_neg z]
theorem Bs.inj (md : Md p F) (hp : 1 < p) {n : Nat} {m : List (List Int)} (h : Bs p n m) : ∀ x : Nat → F, (∀ r, r < n → mv m n x r = 0) → ∀ j, j < n → x j = 0 := by
  induction h with
  | one => exact fun x hx j hj => by rw [← mv_plain hj x]; exact hx j hj
  | @add m i j k h hi hj ne ih =>
    obtain ⟨lm, ok⟩ := h.ok hp
    intro x hx
    have e := fun r => mv_add md lm ok hi hj k x r
    have h2 : ∀ r, r < n → r ≠ i → mv m n x r = 0 := fun r hr nr => by
      have := hx r hr
      rwa [e, if_neg nr] at this
    refine ih x fun r hr => ?_
    by_cases z : r = i
    · subst z
      have := hx r hr
      rw [e, if_pos rfl] at this
      exact rp1 _ _ _ (h2 j hj (Ne.symm ne)) this
    · exact h2 r hr z
theorem Bs.surj (md : Md p F) (hp : 1 < p) {n : Nat} {m : List (List Int)} (h : Bs p n m) : ∀ y : Nat → F, ∃ x, ∀ r, r < n → mv m n x r = y r := by
  induction h with
  | one => exact fun y => ⟨y, fun r hr => mv_plain hr y⟩
  | @add m i j k h hi hj ne ih =>
    obtain ⟨lm, ok⟩ := h.ok hp
    intro y
    obtain ⟨x, hx⟩ := ih (fun r => if r = i then y i - ct F k * y j else y r)
    refine ⟨x, fun r hr => ?_⟩
    rw [mv_add md lm ok hi hj]
    by_cases z : r = i
    · rw [if_pos z, hx i hi, hx j hj, if_pos rfl, if_neg (Ne.symm ne), z]
      exact rp2 _ _ _ _ rfl
    · rw [if_neg z, hx r hr, if_neg z]
theorem mv_scale (md : Md p F) {n : Nat} {m : List (List Int)} (lm : m.length = n) {ss : List Int} (ls : ss.length = n) (x : Nat → F) {r : Nat} (hr : r < n) : mv (List.zipWith (scaleR p) ss m) n x r = ct F (ss.getD r 0) * mv m n x r := by
  unfold mv
  have e : (List.zipWith (scaleR p) ss m).getD r [] = scaleR p (ss.getD r 0) (m.getD r []) := by
    rw [List.getD_eq_getElem?_getD, List.getElem?_zipWith, List.getD_eq_getElem?_getD, List.getD_eq_getElem?_getD, List.getElem?_eq_getElem (by omega), List.getElem?_eq_getElem (by omega)]
    rfl
  rw [e, ← sm_mul]
  refine sm_congr fun t ht => ?_
  have e2 : scaleR p (ss.getD r 0) (m.getD r []) = (m.getD r []).map fun w => w * ss.getD r 0 % p := by
    unfold scaleR
    exact List.map_congr_left fun w _ => by rw [Int.mul_comm]
  rw [e2, vec_scale md]
  exact rp6 _ _ _
theorem unit_of (md : Md p F) {s : Int} (h : 1 ≤ s ∧ s < p) : ∃ t, ct F s * t = 1 := md.inv _ fun e => by
  have := (md.z s).mp e
  rw [Int.emod_eq_of_lt (by omega) h.2] at this
  omega
theorem BsT.inj (md : Md p F) (hp : 1 < p) {n : Nat} {rows : List (List Int)} (h : BsT p n rows) : ∀ x : Nat → F, (∀ r, r < n → mv rows n x r = 0) → ∀ j, j < n → x j = 0 := by
  obtain ⟨m, ss, h1, h2, h3, rfl⟩ := h
  obtain ⟨lm, _⟩ := h1.ok hp
  intro x hx
  refine h1.inj md hp x fun r hr => ?_
  have := hx r hr
  rw [mv_scale md lm h2 x hr] at this
  obtain ⟨t, ht⟩ := unit_of (F := F) md (h3 _ (by rw [List.getD_eq_getElem?_getD, List.getElem?_eq_getElem (by omega)]; exact List.getElem_mem (by omega) : ss.getD r 0 ∈ ss))
  exact rp3 _ _ _ ht this
theorem BsT.surj (md : Md p F) (hp : 1 < p) {n : Nat} {rows : List (List Int)} (h : BsT p n rows) : ∀ y : Nat → F, ∃ x, ∀ r, r < n → mv rows n x r = y r := by
  obtain ⟨m, ss, h1, h2, h3, rfl⟩ := h
  obtain ⟨lm, _⟩ := h1.ok hp
  have hu : ∀ r, r < n → ∃ t, ct F (ss.getD r 0) * t = 1 := fun r hr => unit_of (F := F) md (h3 _ (by rw [List.getD_eq_getElem?_getD, List.getElem?_eq_getElem (by omega)]; exact List.getElem_mem (by omega) : ss.getD r 0 ∈ ss))
  intro y
  obtain ⟨x, hx⟩ := h1.surj md hp (fun r => if h : r < n then Classical.choose (hu r h) * y r else 0)
  refine ⟨x, fun r hr => ?_⟩
  rw [mv_scale md lm h2 x hr, hx r hr, dif_pos hr]
  exact rp4 _ _ _ (Classical.choose_spec (hu r hr))
/-! leading back -/
theorem beside_at {n k j : Nat} {G : List (List Int)} (lG : G.length = n) (okl : ∀ r ∈ G, r.length = n) (hk : k < n) : vec F ((besideUnit n G).getD k []) j = if j < n then vec F (G.getD k []) j else if j = n + k then 1 else 0 := by
  have eG : G[k]? = some (G.getD k []) := by rw [List.getD_eq_getElem?_getD, List.getElem?_eq_getElem (by omega)]; rfl
  have eP : (plainR n)[k]? = some (unitR n k) := by unfold plainR; rw [List.getElem?_map, List.getElem?_range hk]; rfl
  have e : (besideUnit n G).getD k [] = G.getD k [] ++ unitR n k := by
    unfold besideUnit
    rw [List.getD_eq_getElem?_getD, List.getElem?_zipWith, eG, eP]
    rfl
  have lr : (G.getD k []).length = n := okl _ (List.mem_of_getElem? eG)
  rw [e]
  unfold vec
  rw [List.getD_eq_getElem?_getD]
  by_cases z : j < n
  · rw [if_pos z, List.getElem?_append_left (by omega), ← List.getD_eq_getElem?_getD]
  · rw [if_neg z, List.getElem?_append_right (by omega), lr, ← List.getD_eq_getElem?_getD, unitR_at]
    by_cases w : j = n + k
    · rw [if_pos ⟨by omega, by omega⟩, if_pos w, ct_one]
    · rw [if_neg (by omega), if_neg w, ct_zero]
theorem pl_at {P : List Nat} {n : Nat} (h : P = List.range n) {k : Nat} (hk : k < n) : P.getD k 0 = k := by
  rw [h, List.getD_eq_getElem?_getD, List.getElem?_range hk]
  rfl
/-- the places found are the first ones -/
theorem places_to (md : Md p F) (hp : okP p) {n : Nat} {G : List (List Int)} (lG : G.length = n) (ok : okMat p n G) (inj : ∀ x : Nat → F, (∀ r, r < n → mv G n x r = 0) → ∀ j, j < n → x j = 0) : ∀ k, k ≤ n → (redTo p (besideUnit n G) k).places = List.range k
  | 0, _ => rfl
  | k + 1, hk => by
    have hp1 := hp.lo
    have okB := besideUnit_ok (p := p) (by omega) ok
    have ih := places_to md hp lG ok inj k (by omega)
    have rok := redTo_ok (p := p) (by omega) okB k
    have pv := redTo_piv hp okB k (by omega)
    have spn := redTo_span (F := F) md hp okB
    rw [redTo_succ]
    cases e : firstAt k (redTo p (besideUnit n G) k).left with
    | some t => rw [redStep_some e, ih, List.range_succ]
    | none =>
      exfalso
      have spk := fun v => spn v k (by omega)
      generalize redTo p (besideUnit n G) k = S at *
      have lf : S.found.length = k := by rw [← rok.pl, ih, List.length_range]
      -- an x that is orthogonal to all
      have hx : ∀ y, RS F S y → sm (fun j => y j * (fun j => if j = k then 1 else if j < k then -(vec F (S.found.getD j []) k) else 0) j) (2 * n) = 0 := by
        intro y hy
        rcases hy with ⟨r, hr, rfl⟩ | ⟨r, hr, rfl⟩
        · refine sm_zero fun j hj => ?_
          show vec F r j * (if j = k then 1 else if j < k then -(vec F (S.found.getD j []) k) else 0) = 0
          by_cases z : j ≤ k
          · have : vec F r j = 0 := by
              unfold vec
              by_cases w : j = k
              · obtain ⟨i, hi, rfl⟩ := List.getElem_of_mem hr
                have := fa_none e i
                rw [List.getD_eq_getElem?_getD (l := S.left), List.getElem?_eq_getElem hi] at this
                rw [w]
                show ct F (S.left[i].getD k 0) = 0
                rw [show S.left[i].getD k 0 = 0 from this, ct_zero]
              · rw [pv.lz r hr j (by omega), ct_zero]
            rw [this]
            exact rg5 _ _ rfl
          · rw [if_neg (by omega), if_neg (by omega)]
            exact rg4 _ _ rfl
        · obtain ⟨i, hi, rfl⟩ := List.getElem_of_mem hr
          have ei : S.found[i] = S.found.getD i [] := by rw [List.getD_eq_getElem?_getD, List.getElem?_eq_getElem hi]; rfl
          have hF : ∀ j, j < k → vec F (S.found.getD i []) j = if i = j then 1 else 0 := fun j hj => by
            have e1 : S.found[i]? = some (S.found.getD i []) := by rw [List.getD_eq_getElem?_getD, List.getElem?_eq_getElem hi]; rfl
            have e2 : S.places[j]? = some j := by rw [ih, List.getElem?_range hj]
            unfold vec
            by_cases z : i = j
            · subst z
              rw [if_pos rfl, (pv.pv i _ _ e1 e2).1, ct_one]
            · rw [if_neg z, pv.ot i j _ _ e1 e2 z, ct_zero]
          rw [ei]
          have e3 : sm (fun j => vec F (S.found.getD i []) j * (fun j => if j = k then 1 else if j < k then -(vec F (S.found.getD j []) k) else 0) j) (2 * n) = sm (fun j => (if j = k then vec F (S.found.getD i []) k else 0) + (if j = i then -(vec F (S.found.getD i []) k) else 0)) (2 * n) := sm_congr fun j hj => by
            show vec F (S.found.getD i []) j * (if j = k then 1 else if j < k then -(vec F (S.found.getD j []) k) else 0) = _
            by_cases z : j = k
            · rw [if_pos z, if_pos z, if_neg (by omega), z]
              exact rh1 _ 0
            · rw [if_neg z, if_neg z]
              by_cases w : j < k
              · rw [if_pos w, hF j w]
                by_cases v : i = j
                · rw [if_pos v, if_pos v.symm, v]
                  exact rh2 _
                · rw [if_neg v, if_neg (Ne.symm v)]
                  exact rh3 _ (rg5 _ _ rfl)
              · rw [if_neg w, if_neg (by omega)]
                exact rh3 _ (rg4 _ _ rfl)
          rw [e3, sm_add, sm_one (k := k) (by omega) (fun j hj ne => if_neg ne), sm_one (k := i) (by omega) (fun j hj ne => if_neg ne), if_pos rfl, if_pos rfl]
          exact rh4 _
      have all : ∀ r ∈ besideUnit n G, sm (fun j => vec F r j * (fun j => if j = k then 1 else if j < k then -(vec F (S.found.getD j []) k) else 0) j) (2 * n) = 0 := fun r hr =>
        (lin_dot (fun j => if j = k then 1 else if j < k then -(vec F (S.found.getD j []) k) else 0) (2 * n)).sp (S := RS F S) hx ((spk _).mpr (.of ⟨r, hr, rfl⟩))
      have x0 := inj (fun j => if j = k then 1 else if j < k then -(vec F (S.found.getD j []) k) else 0) (fun r hr => ?_) k (by omega)
      · have x0 : (if k = k then (1 : F) else if k < k then -(vec F (S.found.getD k []) k) else 0) = 0 := x0
        rw [if_pos rfl] at x0
        exact md.one x0
      · have lB : (besideUnit n G).length = n := by simp [besideUnit, plainR, lG]
        have := all _ (mem_getD (d := []) (l := besideUnit n G) (k := r) (by omega))
        rw [sm_block (s := 0) (n := n) (by omega) (fun j hj hn => ?_)] at this
        · unfold mv
          refine Eq.trans (sm_congr fun j hj => ?_) this
          rw [Nat.zero_add, beside_at lG (fun r hr => (ok r hr).1) hr, if_pos hj]
        · show _ * (if j = k then (1 : F) else if j < k then -(vec F (S.found.getD j []) k) else 0) = 0
          rw [if_neg (by omega), if_neg (by omega)]
          exact rg4 _ _ rfl
/-- beyond, nothing is left -/
theorem places_rest {p : Int} {rows : List (List Int)} {n : Nat} (h : (redTo p rows n).left = []) : ∀ k, redTo p rows (n + k) = redTo p rows n
  | 0 => rfl
  | k + 1 => by
    rw [← Nat.add_assoc, redTo_succ, places_rest h k]
    refine redStep_none ?_
    rw [h]
    rfl
theorem undo_some (md : Md p F) (hp : okP p) {n : Nat} {G : List (List Int)} (h : BsT p n G) : ∃ u, undoneR p n G = some u := by
  have hp1 := hp.lo
  obtain ⟨lG, ok⟩ := h.ok (by omega)
  have hpl := places_to md hp lG ok (h.inj (F := F) md (by omega)) n (Nat.le_refl n)
  have okB := besideUnit_ok (p := p) (by omega) ok
  have rok := redTo_ok (p := p) (by omega) okB n
  have lB : (besideUnit n G).length = n := by simp [besideUnit, plainR, lG]
  have hl : (redTo p (besideUnit n G) n).left = [] := by
    have h1 := rok.len
    have h2 := rok.pl
    rw [hpl, List.length_range] at h2
    exact List.eq_nil_of_length_eq_zero (by omega)
  have e : redPlaces p (2 * n) (besideUnit n G) = List.range n := by
    unfold redPlaces
    rw [show 2 * n = n + n by omega, places_rest hl n]
    exact hpl
  unfold undoneR
  rw [if_pos e]
  exact ⟨_, rfl⟩
/-- what leads back, and forth -/
theorem undo_left (md : Md p F) (hp : okP p) {n : Nat} {G u : List (List Int)} (h : BsT p n G) (hu : undoneR p n G = some u) {i j : Nat} (hi : i < n) (hj : j < n) : sm (fun k => vec F (u.getD i []) k * vec F (G.getD k []) j) n = if i = j then 1 else 0 := by
  have hp1 := hp.lo
  obtain ⟨lG, ok⟩ := h.ok (by omega)
  obtain ⟨e1, rfl⟩ := undone_some hu
  have okB := besideUnit_ok (p := p) (by omega) ok
  obtain ⟨hl, nd, lt, pa⟩ := piv_at hp okB
  have spn := red_span (F := F) md hp okB
  have lB : (besideUnit n G).length = n := by simp [besideUnit, plainR, lG]
  rw [e1, List.length_range] at hl
  have okR := (redRows_okM (p := p) (by omega) okB).1
  have pa2 : ∀ i k, i < n → k < n → ((redRows p (2 * n) (besideUnit n G)).getD i []).getD k 0 = if i = k then 1 else 0 := fun i k h1 h2 => by
    have := pa i k (by omega) (by omega)
    rwa [pl_at e1 h2] at this
  generalize redRows p (2 * n) (besideUnit n G) = R at *
  obtain ⟨cf, hc⟩ := ((Sp.mono (fun x hx => rw_am.mp hx) ((spn (rowV F R i)).mp (.of (rw_am.mpr ⟨i, by omega, rfl⟩)))) : Sp (Am (rowV F (besideUnit n G)) (besideUnit n G).length) (rowV F R i)).coef
  rw [lB] at hc
  have hlo : ∀ j, j < n → sm (fun k => cf k * vec F (G.getD k []) j) n = if i = j then 1 else 0 := fun j hj => by
    have := hc j
    unfold rowV at this
    have e2 : vec F (R.getD i []) j = if i = j then 1 else 0 := by
      unfold vec
      rw [pa2 i j hi hj]
      by_cases z : i = j
      · rw [if_pos z, if_pos z, ct_one]
      · rw [if_neg z, if_neg z, ct_zero]
    rw [← e2, this]
    refine sm_congr fun k hk => ?_
    rw [beside_at lG (fun r hr => (ok r hr).1) hk, if_pos hj]
  have hhi : ∀ k, k < n → vec F ((R.map fun r => r.drop n).getD i []) k = cf k := fun k hk => by
    have e2 : (R.map fun r => r.drop n).getD i [] = (R.getD i []).drop n := by
      rw [List.getD_eq_getElem?_getD, List.getElem?_map, List.getD_eq_getElem?_getD, List.getElem?_eq_getElem (by omega)]
      rfl
    have e3 : vec F ((R.getD i []).drop n) k = vec F (R.getD i []) (n + k) := by
      unfold vec
      rw [List.getD_eq_getElem?_getD, List.getElem?_drop, ← List.getD_eq_getElem?_getD]
    rw [e2, e3]
    have := hc (n + k)
    unfold rowV at this
    rw [this, sm_one (k := k) hk (fun t ht ne => ?_)]
    · rw [beside_at lG (fun r hr => (ok r hr).1) hk, if_neg (by omega), if_pos rfl]
      exact rh6 _ 0
    · rw [beside_at lG (fun r hr => (ok r hr).1) ht, if_neg (by omega), if_neg (by omega)]
      exact rg4 _ _ rfl
  rw [← hlo j hj]
  exact sm_congr fun k hk => by rw [hhi k hk]
end
end K33
namespace K33
section
variable {F : Type} [Lean.Grind.CommRing F] {p : Int}
def mm (A B : Nat → Nat → F) (n i j : Nat) : F := sm (fun k => A i k * B k j) n
theorem mm_assoc (A B C : Nat → Nat → F) (n m i j : Nat) : mm (mm A B n) C m i j = mm A (mm B C m) n i j := (sm_mul_swap (A i) B (fun k => C k j) n m).symm
theorem mm_congr {A A' B B' : Nat → Nat → F} {n i j : Nat} (h : ∀ k, k < n → A i k = A' i k) (g : ∀ k, k < n → B k j = B' k j) : mm A B n i j = mm A' B' n i j := sm_congr fun k hk => by rw [h k hk, g k hk]
theorem mm_idl {A B : Nat → Nat → F} {n i j : Nat} (hi : i < n) (h : ∀ k, k < n → A i k = if i = k then 1 else 0) : mm A B n i j = B i j := by
  unfold mm
  rw [sm_one (k := i) hi (fun k hk ne => by rw [h k hk, if_neg (Ne.symm ne)]; exact rg5 _ _ rfl), h i hi, if_pos rfl]
  grind
theorem undo_right (md : Md p F) (hp : okP p) {n : Nat} {G u : List (List Int)} (h : BsT p n G) (hu : undoneR p n G = some u) {i j : Nat} (hi : i < n) (hj : j < n) : sm (fun k => vec F (G.getD i []) k * vec F (u.getD k []) j) n = if i = j then 1 else 0 := by
  have hp1 := hp.lo
  obtain ⟨x, hx⟩ := h.surj md (by omega) (fun r => if r = j then (1 : F) else 0)
  have hk : ∀ k, k < n → vec F (u.getD k []) j = x k := fun k hk => by
    have e1 : vec F (u.getD k []) j = sm (fun r => vec F (u.getD k []) r * mv G n x r) n := by
      rw [sm_one (k := j) hj (fun r hr ne => by rw [hx r hr, if_neg ne]; exact rg4 _ _ rfl), hx j hj, if_pos rfl]
      exact (rh6 _ 0).symm
    rw [e1]
    unfold mv
    rw [sm_mul_swap, sm_one (k := k) hk (fun t ht ne => by rw [undo_left md hp h hu hk ht, if_neg (Ne.symm ne)]; exact rg5 _ _ rfl), undo_left md hp h hu hk hk, if_pos rfl]
    grind
  rw [sm_congr (fun k hk' => by rw [hk k hk'] : ∀ k, k < n → vec F (G.getD i []) k * vec F (u.getD k []) j = vec F (G.getD i []) k * x k)]
  exact hx i hi
/-! labels -/
def cvr (ss : List (Nat × Nat)) (i q : Nat) : Bool := decide ((ss.getD i (0, 0)).1 ≤ q ∧ q ≤ (ss.getD i (0, 0)).2)
def lab (ss : List (Nat × Nat)) (q : Nat) : List Nat := (List.range ss.length).filter fun i => cvr ss i q
theorem lab_app (ss : List (Nat × Nat)) (s : Nat × Nat) (q : Nat) : lab (ss ++ [s]) q = lab ss q ++ if s.1 ≤ q ∧ q ≤ s.2 then [ss.length] else [] := by
  unfold lab
  rw [List.length_append, List.length_singleton, List.range_succ, List.filter_append]
  have e1 : (List.range ss.length).filter (fun i => cvr (ss ++ [s]) i q) = (List.range ss.length).filter (fun i => cvr ss i q) := List.filter_congr fun i hi => by
    have hi := List.mem_range.mp hi
    unfold cvr
    rw [List.getD_eq_getElem?_getD, List.getElem?_append_left hi, ← List.getD_eq_getElem?_getD]
  have e2 : cvr (ss ++ [s]) ss.length q = decide (s.1 ≤ q ∧ q ≤ s.2) := by
    unfold cvr
    rw [List.getD_eq_getElem?_getD, List.getElem?_append_right (Nat.le_refl _), Nat.sub_self]
    rfl
  rw [e1, List.filter_cons, e2, List.filter_nil]
  by_cases z : s.1 ≤ q ∧ q ≤ s.2
  · rw [decide_eq_true z, if_pos rfl, if_pos z]
  · rw [decide_eq_false z, if_neg (by decide), if_neg z]
theorem lab_lt {ss : List (Nat × Nat)} {q t : Nat} (h : t < (lab ss q).length) : (lab ss q).getD t 0 < ss.length ∧ cvr ss ((lab ss q).getD t 0) q = true := by
  have := mem_at.mpr ⟨t, h, rfl⟩
  unfold lab at this ⊢
  rw [List.mem_filter, List.mem_range] at this
  exact this
theorem lab_mem {ss : List (Nat × Nat)} {q i : Nat} : i ∈ lab ss q ↔ i < ss.length ∧ cvr ss i q = true := by
  unfold lab
  rw [List.mem_filter, List.mem_range]
theorem lab_nd (ss : List (Nat × Nat)) (q : Nat) : (lab ss q).Nodup := List.Pairwise.filter _ List.nodup_range
theorem lab_inj {ss : List (Nat × Nat)} {q t t' : Nat} (h : t < (lab ss q).length) (h' : t' < (lab ss q).length) (e : (lab ss q).getD t 0 = (lab ss q).getD t' 0) : t = t' := by
  rw [List.getD_eq_getElem?_getD, List.getD_eq_getElem?_getD, List.getElem?_eq_getElem h, List.getElem?_eq_getElem h'] at e
  exact nd_inj (lab_nd ss q) h h' e
theorem barSizes_at {m b e q : Nat} (h : q < m) : (barSizes m b e).getD q 0 = if b ≤ q ∧ q ≤ e then 1 else 0 := by
  unfold barSizes
  rw [List.getD_eq_getElem?_getD, List.getElem?_map, List.getElem?_range h]
  rfl
theorem app_getD {α : Type} {l r : List α} {d : α} {i : Nat} : (l ++ r).getD i d = if i < l.length then l.getD i d else r.getD (i - l.length) d := by
  rw [List.getD_eq_getElem?_getD]
  by_cases z : i < l.length
  · rw [if_pos z, List.getElem?_append_left z, ← List.getD_eq_getElem?_getD]
  · rw [if_neg z, List.getElem?_append_right (by omega), ← List.getD_eq_getElem?_getD]
theorem map_getD {α β : Type} {f : α → β} {l : List α} {d : α} {d' : β} {i : Nat} (h : i < l.length) : (l.map f).getD i d' = f (l.getD i d) := by
  rw [List.getD_eq_getElem?_getD, List.getElem?_map, List.getD_eq_getElem?_getD, List.getElem?_eq_getElem h]
  rfl
theorem lab_sizes (m : Nat) (ar : List (Nat × Nat)) : ∀ (n : Nat) (ss : List (Nat × Nat)), ss.length = n → ∀ q, q < m → (besides (m, ar) (barsIn m ar ss)).1.getD q 0 = (lab ss q).length
  | 0, ss, hn, q, hq => by
    have e : ss = [] := List.eq_nil_of_length_eq_zero hn
    subst e
    show (List.replicate m 0).getD q 0 = 0
    rw [List.getD_eq_getElem?_getD, List.getElem?_replicate]
    split <;> rfl
  | n + 1, ss, hn, q, hq => by
    obtain ⟨ss0, s, rfl⟩ : ∃ ss0 s, ss = ss0 ++ [s] := ⟨ss.dropLast, ss.getLast (by intro z; rw [z] at hn; cases hn), (List.dropLast_concat_getLast _).symm⟩
    have ih := lab_sizes m ar n ss0 (by simpa using hn) q hq
    have eb : barsIn m ar (ss0 ++ [s]) = barsIn m ar ss0 ++ [rawBar m ar s.1 s.2] := by simp [barsIn]
    have hl := (beside_fit (p := 2) (by decide) m ar n ss0 (by simpa using hn)).1
    rw [eb, besides_app, rawBar_eq, lab_app]
    show (List.zipWith (fun a b => a + b) _ (barSizes m s.1 s.2)).getD q 0 = _
    rw [zip_getD (by rw [hl, barSizes_len]), ih, barSizes_at hq, List.length_append]
    split <;> rfl
theorem lab_table (m : Nat) (ar : List (Nat × Nat)) : ∀ (n : Nat) (ss : List (Nat × Nat)), ss.length = n → ∀ (k : Nat) a t, ar[k]? = some a → (besides (m, ar) (barsIn m ar ss)).2[k]? = some t → a.1 < m → a.2 < m → ∀ r j, r < (lab ss a.2).length → j < (lab ss a.1).length →
    (t.rows.getD r []).getD j 0 = if (lab ss a.2).getD r 0 = (lab ss a.1).getD j 0 then 1 else 0
  | 0, ss, hn, k, a, t, ha, ht, h1, h2, r, j, hr, hj => by
    have e : ss = [] := List.eq_nil_of_length_eq_zero hn
    subst e
    exact absurd hr (by simp [lab])
  | n + 1, ss, hn, k, a, t, ha, ht, h1, h2, r, j, hr, hj => by
    obtain ⟨ss0, s, rfl⟩ : ∃ ss0 s, ss = ss0 ++ [s] := ⟨ss.dropLast, ss.getLast (by intro z; rw [z] at hn; cases hn), (List.dropLast_concat_getLast _).symm⟩
    have hn0 : ss0.length = n := by simpa using hn
    have eb : barsIn m ar (ss0 ++ [s]) = barsIn m ar ss0 ++ [rawBar m ar s.1 s.2] := by simp [barsIn]
    have ih := lab_table m ar n ss0 hn0 k a
    obtain ⟨hl, hl2, _, hfit⟩ := beside_fit (p := 2) (by decide) m ar n ss0 hn0
    have sz1 := lab_sizes m ar n ss0 hn0 a.1 h1
    have sz2 := lab_sizes m ar n ss0 hn0 a.2 h2
    rw [eb, besides_app, rawBar_eq] at ht
    have ht : (List.zipWith tbCorner (besides (m, ar) (barsIn m ar ss0)).2 (ar.map (barTab m s.1 s.2)))[k]? = some t := ht
    rw [List.getElem?_zipWith, List.getElem?_map, ha] at ht
    cases hb : (besides (m, ar) (barsIn m ar ss0)).2[k]? with
    | none => rw [hb] at ht; cases ht
    | some t0 =>
      rw [hb] at ht
      cases ht
      obtain ⟨j1, j2, j3⟩ := hfit k a t0 ha hb
      have ih := fun r j => ih t0 ha hb h1 h2 r j
      rw [sz1] at j1
      rw [sz2] at j2
      have k1 := (barTab_fit (p := 2) (by decide) m s.1 s.2 a).1
      have k2 := (barTab_fit (p := 2) (by decide) m s.1 s.2 a).2.1
      rw [barSizes_at h1] at k1
      rw [barSizes_at h2] at k2
      rw [lab_app, List.length_append] at hr hj
      rw [lab_app, lab_app]
      show (((cornerR t0.wide t0.rows (barTab m s.1 s.2 a).wide (barTab m s.1 s.2 a).rows)).getD r []).getD j 0 = _
      unfold cornerR
      rw [app_getD, List.length_map, app_getD, app_getD]
      by_cases zr : r < (lab ss0 a.2).length
      · rw [if_pos (by omega), map_getD (d := []) (by omega), app_getD, if_pos zr]
        have lr : (t0.rows.getD r []).length = (lab ss0 a.1).length := by rw [← j1]; exact (j3 _ (mem_getD (by omega))).1
        rw [lr]
        by_cases zj : j < (lab ss0 a.1).length
        · rw [if_pos zj, if_pos zj]
          exact ih r j zr zj
        · rw [if_neg zj, if_neg zj, nils_at]
          have cA : s.1 ≤ a.1 ∧ a.1 ≤ s.2 := Classical.byContradiction fun no => by rw [if_neg no] at hj; simp at hj; omega
          rw [if_pos cA] at hj ⊢
          have := (lab_lt zr).1
          rw [show j - (lab ss0 a.1).length = 0 by simp at hj; omega, if_neg]
          show ¬ (lab ss0 a.2).getD r 0 = ss0.length
          omega
      · have cC : s.1 ≤ a.2 ∧ a.2 ≤ s.2 := Classical.byContradiction fun no => by rw [if_neg no] at hr; simp at hr; omega
        rw [if_pos cC] at hr k2
        have er : r - (lab ss0 a.2).length = 0 := by simp at hr; omega
        rw [if_neg (by omega), if_neg zr, if_pos cC, j2, er, map_getD (d := []) (by omega), app_getD]
        have ln : (nils t0.wide).length = (lab ss0 a.1).length := by simp [nils, j1]
        rw [ln]
        by_cases zj : j < (lab ss0 a.1).length
        · rw [if_pos zj, if_pos zj, nils_at]
          have := (lab_lt zj).1
          rw [if_neg]
          show ¬ ss0.length = (lab ss0 a.1).getD j 0
          omega
        · have cA : s.1 ≤ a.1 ∧ a.1 ≤ s.2 := Classical.byContradiction fun no => by rw [if_neg no] at hj; simp at hj; omega
          rw [if_pos cA] at hj
          rw [if_neg zj, if_neg zj, if_pos cA, show j - (lab ss0 a.1).length = 0 by simp at hj; omega]
          have eT : barTab m s.1 s.2 a = ⟨1, plainR 1⟩ := by
            unfold barTab
            rw [if_pos (by rw [barSizes_at h1, barSizes_at h2, if_pos cA, if_pos cC])]
          rw [eT, if_pos rfl]
          rfl
/-! sums of products of rows -/
theorem sm_head (f : Nat → F) (n : Nat) : sm f (n + 1) = f 0 + sm (fun i => f (i + 1)) n := by
  rw [sm_skip f (i0 := 0) (Nat.succ_pos n)]
  congr 1
theorem ct_dot : ∀ (r s : List Int), r.length = s.length → ct F (dot r s) = sm (fun t => vec F r t * vec F s t) r.length
  | [], [], _ => by
    show ct F 0 = 0
    exact ct_zero
  | [], _ :: _, h => by cases h
  | _ :: _, [], h => by cases h
  | a :: r, b :: s, h => by
    rw [dot_cons, ct_add, ct_mul, ct_dot r s (by simpa using h), List.length_cons, sm_head]
    rfl
theorem times_at (md : Md p F) {one other : List (List Int)} {wide r j : Nat} (hr : r < one.length) (hj : j < wide) (hl : (one.getD r []).length = other.length) :
    vec F ((timesR p one wide other).getD r []) j = sm (fun t => vec F (one.getD r []) t * vec F (other.getD t []) j) other.length := by
  have e1 : ((timesR p one wide other).getD r []).getD j 0 = dot (one.getD r []) (other.map fun x => x.getD j 0) % p := by
    unfold timesR colsOf
    rw [List.getD_eq_getElem?_getD (l := (List.range one.length).map _), List.getElem?_map, List.getElem?_range hr]
    show ((((List.range wide).map fun a => other.map fun r => r.getD a 0).map (ledOn p one)).map fun x => x.getD r 0).getD j 0 = _
    rw [List.map_map, List.map_map, List.getD_eq_getElem?_getD, List.getElem?_map, List.getElem?_range hj]
    show (ledOn p one (other.map fun x => x.getD j 0)).getD r 0 = _
    unfold ledOn
    rw [map_getD (d := []) hr]
  unfold vec
  rw [e1, md.mod, ct_dot _ _ (by rw [hl, List.length_map]), hl]
  refine sm_congr fun t ht => ?_
  show ct F _ * ct F ((other.map fun x => x.getD j 0).getD t 0) = _
  rw [map_getD (d := []) ht]
end
end K33
namespace K33
section
variable {F : Type} [Lean.Grind.CommRing F] {p : Int}
/-- where the pieces stand at a place -/
def eq_ (F : Type) [Lean.Grind.CommRing F] (ss : List (Nat × Nat)) (q t i : Nat) : F := if (lab ss q).getD t 0 = i then 1 else 0
theorem eq_eq {ss : List (Nat × Nat)} {q q' t t' : Nat} (h : t < (lab ss q).length) : mm (eq_ F ss q) (fun i t' => eq_ F ss q' t' i) ss.length t t' = if (lab ss q).getD t 0 = (lab ss q').getD t' 0 then 1 else 0 := by
  unfold mm
  rw [sm_one (k := (lab ss q).getD t 0) (lab_lt h).1 (fun i hi ne => by unfold eq_; rw [if_neg (Ne.symm ne)]; exact rg5 _ _ rfl)]
  show (if (lab ss q).getD t 0 = (lab ss q).getD t 0 then (1 : F) else 0) * (if (lab ss q').getD t' 0 = (lab ss q).getD t 0 then 1 else 0) = _
  rw [if_pos rfl]
  by_cases z : (lab ss q).getD t 0 = (lab ss q').getD t' 0
  · rw [if_pos z, if_pos z.symm]
    exact rh6 _ 0
  · rw [if_neg z, if_neg (Ne.symm z)]
    exact rg4 _ _ rfl
theorem eq_id {ss : List (Nat × Nat)} {q t t' : Nat} (h : t < (lab ss q).length) (h' : t' < (lab ss q).length) : mm (eq_ F ss q) (fun i t' => eq_ F ss q t' i) ss.length t t' = if t = t' then 1 else 0 := by
  rw [eq_eq h]
  by_cases z : t = t'
  · rw [if_pos (by rw [z]), if_pos z]
  · rw [if_neg (fun e => z (lab_inj h h' e)), if_neg z]
theorem eq_mask {ss : List (Nat × Nat)} {q i i' : Nat} (hi : i < ss.length) : mm (fun i t => eq_ F ss q t i) (eq_ F ss q) (lab ss q).length i i' = if i = i' ∧ cvr ss i q = true then 1 else 0 := by
  unfold mm
  by_cases z : i = i'
  · subst z
    by_cases c : cvr ss i q = true
    · obtain ⟨k, hk, ek⟩ := mem_at.mp (lab_mem.mpr ⟨hi, c⟩)
      rw [if_pos ⟨rfl, c⟩, sm_one (k := k) hk (fun t ht ne => ?_)]
      · show (if (lab ss q).getD k 0 = i then (1 : F) else 0) * (if (lab ss q).getD k 0 = i then 1 else 0) = 1
        rw [if_pos ek.symm]
        exact rh6 _ (0 : F)
      · unfold eq_
        rw [if_neg (fun e => ne (lab_inj ht hk (by rw [e, ← ek])))]
        exact rg4 _ _ rfl
    · rw [if_neg (fun h => c h.2)]
      refine sm_zero fun t ht => ?_
      unfold eq_
      rw [if_neg (fun e => c (by rw [← e]; exact (lab_lt ht).2))]
      exact rg4 _ _ rfl
  · rw [if_neg (fun h => z h.1)]
    refine sm_zero fun t ht => ?_
    show (if (lab ss q).getD t 0 = i then (1 : F) else 0) * (if (lab ss q).getD t 0 = i' then 1 else 0) = 0
    by_cases c : (lab ss q).getD t 0 = i
    · rw [if_neg (show ¬ (lab ss q).getD t 0 = i' from fun e => z (by rw [← c, e]))]
      exact rg4 _ _ rfl
    · rw [if_neg c]
      exact rg5 _ _ rfl
/-- a picture that comes apart: the rebased sum of bars -/
theorem abs_of (md : Md p F) (hp : okP p) {m : Nat} {ar ss : List (Nat × Nat)} {ts : List Tb} (li : lineOk m ar) (hn : ss.length ≤ 5) (bt : BasesT p (rawBeside m ar (barsIn m ar ss)) ts) (bo : BaseOk p (rawBeside m ar (barsIn m ar ss)) ts) {b e : Nat} (hbe : b ≤ e) (he : e < m) :
    Abs p F (rawBased p (rawBeside m ar (barsIn m ar ss)) ts) b e ss.length (cvr ss)
      (fun q => mm (fun j t => vec F ((ts.getD q ⟨0, []⟩).rows.getD j []) t) (eq_ F ss q) (lab ss q).length)
      (fun q => mm (fun i t => eq_ F ss q t i) (fun t j => vec F (((undoneR p (ts.getD q ⟨0, []⟩).wide (ts.getD q ⟨0, []⟩).rows).getD []).getD t []) j) (lab ss q).length) := by
  have hp1 := hp.lo
  have ok0 := beside_pcOk (p := p) (by omega) li (ss := ss) (by omega)
  have okc := based_pcOk (p := p) (by omega) ok0 bo
  have hs0 : ∀ q, q < m → szAt (rawBeside m ar (barsIn m ar ss)) q = (lab ss q).length := fun q hq => lab_sizes m ar ss.length ss rfl q hq
  have hsz : ∀ q, q < m → szAt (rawBased p (rawBeside m ar (barsIn m ar ss)) ts) q = (lab ss q).length := fun q hq => hs0 q hq
  have lts : ts.length = m := bt.1
  have base : ∀ q, q < m → ∃ G u : List (List Int), (ts.getD q ⟨0, []⟩).rows = G ∧ (ts.getD q ⟨0, []⟩).wide = (lab ss q).length ∧ BsT p (lab ss q).length G ∧ undoneR p (lab ss q).length G = some u := fun q hq => by
    have e1 : ts[q]? = some (ts.getD q ⟨0, []⟩) := by rw [List.getD_eq_getElem?_getD, List.getElem?_eq_getElem (by omega)]; rfl
    obtain ⟨g1, g2⟩ := bt.2 q _ e1
    rw [hs0 q hq] at g1 g2
    obtain ⟨_, _, _, u, g3⟩ := bo.at_ q _ e1
    rw [g1] at g3
    exact ⟨_, u, rfl, g1, g2, g3⟩
  refine ⟨okc, hbe, he, fun q h1 h2 j j' hj hj' => ?_, fun q h1 h2 i i' hi hi' => ?_, fun k h1 h2 r j hr hj => ?_⟩
  · -- P R
    have hq : q < m := by omega
    obtain ⟨G, u, eG, ew, bs, hu⟩ := base q hq
    rw [hsz q hq] at hj hj'
    show mm (mm (fun j t => vec F ((ts.getD q ⟨0, []⟩).rows.getD j []) t) (eq_ F ss q) (lab ss q).length) (mm (fun i t => eq_ F ss q t i) (fun t j => vec F (((undoneR p (ts.getD q ⟨0, []⟩).wide (ts.getD q ⟨0, []⟩).rows).getD []).getD t []) j) (lab ss q).length) ss.length j j' = _
    rw [eG, ew, hu, mm_assoc, mm_congr (A' := fun j t => vec F (G.getD j []) t) (B' := fun t j => vec F (u.getD t []) j) (fun t ht => rfl) (fun t ht => ?_)]
    · exact undo_right md hp bs hu hj hj'
    · rw [← mm_assoc]
      exact mm_idl ht fun t' ht' => eq_id ht ht'
  · -- R P
    have hq : q < m := by omega
    obtain ⟨G, u, eG, ew, bs, hu⟩ := base q hq
    rw [hsz q hq]
    show mm (mm (fun i t => eq_ F ss q t i) (fun t j => vec F (((undoneR p (ts.getD q ⟨0, []⟩).wide (ts.getD q ⟨0, []⟩).rows).getD []).getD t []) j) (lab ss q).length) (mm (fun j t => vec F ((ts.getD q ⟨0, []⟩).rows.getD j []) t) (eq_ F ss q) (lab ss q).length) (lab ss q).length i i' = _
    rw [eG, ew, hu, mm_assoc, mm_congr (A' := fun i t => eq_ F ss q t i) (B' := eq_ F ss q) (fun t ht => rfl) (fun t ht => ?_)]
    · exact eq_mask hi
    · rw [← mm_assoc]
      exact mm_idl ht fun t' ht' => undo_left md hp bs hu ht ht'
  · -- the tables
    have e0 : (rawBased p (rawBeside m ar (barsIn m ar ss)) ts).arrows = ar := rfl
    have lia : ar.length + 1 = m := li.1
    have hk : k < ar.length := by omega
    have ga : ar[k]? = some (arrAt (rawBased p (rawBeside m ar (barsIn m ar ss)) ts) k) := arr_get (c := rawBased p (rawBeside m ar (barsIn m ar ss)) ts) hk
    generalize harr : arrAt (rawBased p (rawBeside m ar (barsIn m ar ss)) ts) k = a at *
    have lt := li.lt ga
    rw [hsz _ lt.2] at hr
    rw [hsz _ lt.1] at hj
    have nt : (rawBeside m ar (barsIn m ar ss)).tables.length = ar.length := ok0.nt
    have gt : (rawBeside m ar (barsIn m ar ss)).tables[k]? = some (tabAt (rawBeside m ar (barsIn m ar ss)) k) := tab_get (by omega)
    obtain ⟨_, f1, f2, f3⟩ := ok0.fit k _ _ ga gt
    rw [hs0 _ lt.1] at f1
    rw [hs0 _ lt.2] at f2
    have htab := lab_table m ar ss.length ss rfl k a _ ga gt lt.1 lt.2
    have et : tabAt (rawBased p (rawBeside m ar (barsIn m ar ss)) ts) k = basedTab p ts a (tabAt (rawBeside m ar (barsIn m ar ss)) k) := by
      have g2 : (List.zipWith (basedTab p ts) ar (rawBeside m ar (barsIn m ar ss)).tables)[k]? = some (basedTab p ts a (tabAt (rawBeside m ar (barsIn m ar ss)) k)) := by
        rw [List.getElem?_zipWith, ga, gt]
      rw [rawBased_eq]
      show (List.zipWith (basedTab p ts) ar (rawBeside m ar (barsIn m ar ss)).tables).getD k ⟨0, []⟩ = _
      rw [List.getD_eq_getElem?_getD, g2]
      rfl
    rw [et]
    generalize tabAt (rawBeside m ar (barsIn m ar ss)) k = T0 at *
    obtain ⟨G1, u1, eG1, ew1, bs1, hu1⟩ := base a.1 lt.1
    obtain ⟨G2, u2, eG2, ew2, bs2, hu2⟩ := base a.2 lt.2
    obtain ⟨lG2, okG2⟩ := bs2.ok (by omega)
    obtain ⟨lG1, okG1⟩ := bs1.ok (by omega)
    obtain ⟨okU1, lU1⟩ := undone_okM (by omega) okG1 hu1
    show vec F ((basedTab p ts a T0).rows.getD r []) j = mm (mm (fun j t => vec F ((ts.getD a.2 ⟨0, []⟩).rows.getD j []) t) (eq_ F ss a.2) (lab ss a.2).length) (mm (fun i t => eq_ F ss a.1 t i) (fun t j => vec F (((undoneR p (ts.getD a.1 ⟨0, []⟩).wide (ts.getD a.1 ⟨0, []⟩).rows).getD []).getD t []) j) (lab ss a.1).length) ss.length r j
    unfold basedTab
    show vec F ((timesR p (ts.getD a.2 ⟨0, []⟩).rows (ts.getD a.1 ⟨0, []⟩).wide (timesR p T0.rows (ts.getD a.1 ⟨0, []⟩).wide ((undoneR p (ts.getD a.1 ⟨0, []⟩).wide (ts.getD a.1 ⟨0, []⟩).rows).getD []))).getD r []) j = _
    rw [eG2, eG1, ew1, hu1]
    show vec F ((timesR p G2 (lab ss a.1).length (timesR p T0.rows (lab ss a.1).length u1)).getD r []) j = _
    have lT := (timesR_okM (p := p) (by omega) (one := T0.rows) (other := u1) (wide := (lab ss a.1).length)).2
    rw [times_at md (by omega) hj (by rw [lT, f2]; exact (okG2 _ (mem_getD (by omega))).1), lT, f2]
    have e1 : ∀ t, t < (lab ss a.2).length → vec F ((timesR p T0.rows (lab ss a.1).length u1).getD t []) j = mm (mm (eq_ F ss a.2) (fun i t' => eq_ F ss a.1 t' i) ss.length) (fun t j => vec F (u1.getD t []) j) (lab ss a.1).length t j := fun t ht => by
      rw [times_at md (by omega) hj (by rw [lU1]; rw [← f1]; exact (f3 _ (mem_getD (by omega))).1), lU1]
      refine sm_congr fun t' ht' => ?_
      rw [eq_eq ht]
      unfold vec
      rw [htab t t' ht ht']
      by_cases z : (lab ss a.2).getD t 0 = (lab ss a.1).getD t' 0
      · rw [if_pos z, if_pos z, ct_one]
      · rw [if_neg z, if_neg z, ct_zero]
    rw [sm_congr (fun t ht => by rw [e1 t ht, mm_assoc] : ∀ t, t < (lab ss a.2).length → vec F (G2.getD r []) t * vec F ((timesR p T0.rows (lab ss a.1).length u1).getD t []) j = vec F (G2.getD r []) t * mm (eq_ F ss a.2) (mm (fun i t' => eq_ F ss a.1 t' i) (fun t j => vec F (u1.getD t []) j) (lab ss a.1).length) ss.length t j)]
    exact (mm_assoc (fun j t => vec F (G2.getD j []) t) (eq_ F ss a.2) (mm (fun i t' => eq_ F ss a.1 t' i) (fun t j => vec F (u1.getD t []) j) (lab ss a.1).length) (lab ss a.2).length ss.length r j).symm
end
/-! the fields -/
theorem md_ex {p : Int} (hp : okP p) : ∃ (F : Type) (i : Lean.Grind.CommRing F), @Md p F i := by
  rcases hp with rfl | rfl | rfl | rfl
  · exact ⟨Fin 2, inferInstance, ⟨by decide, by decide, fun x => Lean.Grind.IsCharP.intCast_eq_zero_iff 2 x⟩⟩
  · exact ⟨Fin 3, inferInstance, ⟨by decide, by decide, fun x => Lean.Grind.IsCharP.intCast_eq_zero_iff 3 x⟩⟩
  · exact ⟨Fin 5, inferInstance, ⟨by decide, by decide, fun x => Lean.Grind.IsCharP.intCast_eq_zero_iff 5 x⟩⟩
  · exact ⟨Fin 13, inferInstance, ⟨by decide, by decide, fun x => Lean.Grind.IsCharP.intCast_eq_zero_iff 13 x⟩⟩
theorem undo : Undo := fun p n rows hp h => by
  obtain ⟨F, i, md⟩ := md_ex hp
  exact undo_some md hp h
/-! how often a stretch was put -/
def cover (b e : Nat) (s : Nat × Nat) : Bool := decide (s.1 ≤ b ∧ e ≤ s.2)
theorem filter_count {α : Type} (f : α → Bool) (d : α) : ∀ l : List α, ((List.range l.length).filter fun i => f (l.getD i d)).length = l.countP f
  | [] => rfl
  | a :: l => by
    rw [List.length_cons, List.range_succ_eq_map, List.filter_cons, List.filter_map, List.countP_cons]
    have e : ((fun i => f ((a :: l).getD i d)) ∘ Nat.succ) = fun i => f (l.getD i d) := rfl
    rw [e]
    show (if f a = true then 0 :: (List.map Nat.succ _) else List.map Nat.succ _).length = _
    split
    · rw [List.length_cons, List.length_map, filter_count f d l]
    · rw [List.length_map, filter_count f d l]
      rfl
theorem whole_reach {p : Int} (hp : okP p) {m : Nat} {ar ss : List (Nat × Nat)} {ts : List Tb} (li : lineOk m ar) (hn : ss.length ≤ 5) (bt : BasesT p (rawBeside m ar (barsIn m ar ss)) ts) {b e : Nat} (hbe : b ≤ e) (he : e < m) :
    reachOf p (rawBased p (rawBeside m ar (barsIn m ar ss)) ts) b e = (ss.countP (cover b e) : Int) := by
  obtain ⟨F, i, md⟩ := md_ex hp
  have A := abs_of (F := F) md hp li hn bt (bt.ok undo hp) hbe he
  rw [A.reach md hp (I := (List.range ss.length).filter fun i => cover b e (ss.getD i (0, 0))) (List.Pairwise.filter _ List.nodup_range) (fun i => ?_), filter_count]
  rw [List.mem_filter, List.mem_range]
  refine and_congr_right fun hi => ?_
  unfold cover cvr
  rw [decide_eq_true_iff]
  constructor
  · rintro ⟨g1, g2⟩ q h1 h2
    exact decide_eq_true ⟨by omega, by omega⟩
  · intro h
    have g1 := of_decide_eq_true (h b (Nat.le_refl b) hbe)
    have g2 := of_decide_eq_true (h e hbe (Nat.le_refl e))
    exact ⟨g1.1, g2.2⟩
theorem count_cover {m b e : Nat} (hbe : b ≤ e) (he : e < m) : ∀ ss : List (Nat × Nat), (∀ s ∈ ss, s.1 ≤ s.2 ∧ s.2 < m) → countOf (fun b e => (ss.countP (cover b e) : Int)) m b e = (ss.count (b, e) : Int)
  | [], _ => by
    unfold countOf
    simp
  | s :: ss, h => by
    have ih := count_cover hbe he ss fun s hs => h s (by simp [hs])
    obtain ⟨h1, h2⟩ := h s (by simp)
    have ec : ((s :: ss).count (b, e) : Int) = (ss.count (b, e) : Int) + if s.1 = b ∧ s.2 = e then 1 else 0 := by
      rw [List.count_cons]
      by_cases z : s.1 = b ∧ s.2 = e
      · rw [if_pos z, if_pos (by rw [show s = (b, e) from Prod.ext z.1 z.2]; simp)]
        rfl
      · rw [if_neg z, if_neg (by intro w; have := eq_of_beq w; rw [this] at z; exact z ⟨rfl, rfl⟩)]
        rfl
    have cc : ∀ b e, ((s :: ss).countP (cover b e) : Int) = (ss.countP (cover b e) : Int) + if s.1 ≤ b ∧ e ≤ s.2 then 1 else 0 := fun b e => by
      rw [List.countP_cons]
      unfold cover
      by_cases z : s.1 ≤ b ∧ e ≤ s.2
      · rw [if_pos z, if_pos (decide_eq_true z)]
        rfl
      · rw [if_neg z, if_neg (by rw [decide_eq_false z]; decide)]
        rfl
    rw [ec, ← ih]
    unfold countOf
    simp only [cc]
    generalize (ss.countP (cover b e) : Int) = k1
    generalize (ss.countP (cover (b - 1) e) : Int) = k2
    generalize (ss.countP (cover b (e + 1)) : Int) = k3
    generalize (ss.countP (cover (b - 1) (e + 1)) : Int) = k4
    repeat' split
    all_goals omega
theorem countOf_congr {r r' : Nat → Nat → Int} {m b e : Nat} (hbe : b ≤ e) (he : e < m) (h : ∀ b e, b ≤ e → e < m → r b e = r' b e) : countOf r m b e = countOf r' m b e := by
  unfold countOf
  rw [h b e hbe he]
  congr 1
  · congr 1
    · congr 1
      split
      · exact h _ _ (by omega) he
      · rfl
    · split
      · exact h _ _ (by omega) (by assumption)
      · rfl
  · split
    · rename_i z
      exact h _ _ (by omega) z.2
    · rfl
theorem whole : Whole := fun p m ar ss ts hp li hss hn bt => by
  have hc : ∀ s ∈ stretches m, countOf (reachOf p (rawBased p (rawBeside m ar (barsIn m ar ss)) ts)) m s.1 s.2 = (ss.count s : Int) := fun s hs => by
    obtain ⟨h1, h2⟩ := str_mem_iff.mp hs
    rw [countOf_congr h1 h2 (fun b e g1 g2 => whole_reach hp li hn bt g1 g2), count_cover h1 h2 ss hss]
  unfold barsOf dueOf
  rw [List.filter_map]
  have e1 : (stretches m).filter ((fun t : Nat × Nat × Int => decide (0 < t.2.2)) ∘ fun s => (s.1, s.2, countOf (reachOf p (rawBased p (rawBeside m ar (barsIn m ar ss)) ts)) m s.1 s.2)) = (stretches m).filter (inSs ss) := List.filter_congr fun s hs => by
    show decide (0 < countOf (reachOf p (rawBased p (rawBeside m ar (barsIn m ar ss)) ts)) m s.1 s.2) = decide (s ∈ ss)
    rw [hc s hs]
    have := List.count_pos_iff (a := s) (l := ss)
    by_cases z : s ∈ ss
    · rw [decide_eq_true z, decide_eq_true (by have := this.mpr z; omega)]
    · rw [decide_eq_false z, decide_eq_false (by rw [List.count_eq_zero.mpr z]; decide)]
  rw [e1]
  refine List.map_congr_left fun s hs => ?_
  rw [hc s ((List.mem_filter.mp hs).1)]
end K33
namespace K33
open PySem PySem.Spec PyProof.Rows L2
/-! each def keeps its promise -/
structure Own (K : PySem.W.Frag) (mg : Str → Option Value) : Prop where
  t : Txt K mg
  tr : KTab K (ad K "RawTable")
  tt : KTab K (ad K "Table")
  pr : KPic K (ad K "RawPicture")
  pp : KPic K (ad K "Picture")
  we : KWeb K
  ps : ∀ H, SqT K H (ad K "PRIMES") prs
theorem ok_law_purse {P : Program} {w : World} {K : PySem.W.Frag} {mg : Str → Option Value} {base : Heap} {f : Addr} {fd : FuncData} (o : Own K mg)
    (F : FunD K "_law_purse" "_law_purse" (defArgs s_law_purse) (defBody s_law_purse) (defScope s_law_purse) [] [] f fd) : FnOk P w K mg base CX0 1 f fd ["_law_script"] (sp_law_purse K) :=
  F.ok (k := 0) sc_law_purse (fun vs H Q E h => by obtain ⟨_, _, rfl, _⟩ := h; rfl) fun cdv A outer s H vs Q E hr h => ⟨_, PSs.nox (der_law_purse o.t hr), pure_law_purse vs H Q E h⟩
theorem ok_law_part {P : Program} {w : World} {K : PySem.W.Frag} {mg : Str → Option Value} {base : Heap} {f : Addr} {fd : FuncData} (o : Own K mg)
    (F : FunD K "_law_part" "_law_part" (defArgs s_law_part) (defBody s_law_part) (defScope s_law_part) [] [] f fd) : FnOk P w K mg base CX0 1 f fd ["_law_purse_here", "_law_many"] (sp_law_part K) :=
  F.ok (k := 0) sc_law_part (fun vs H Q E h => by obtain ⟨_, _, _, rfl, _⟩ := h; rfl) fun cdv A outer s H vs Q E hr h => ⟨_, PSs.nox (der_law_part o.t hr), pure_law_part vs H Q E h⟩
theorem ok_law_one {P : Program} {w : World} {K : PySem.W.Frag} {mg : Str → Option Value} {base : Heap} {f : Addr} {fd : FuncData} (o : Own K mg)
    (G_law_part : Cal P w K mg base 1 "_law_part" ["_law_purse_here", "_law_many"] (sp_law_part K))
    (F : FunD K "_law_one" "_law_one" (defArgs s_law_one) (defBody s_law_one) (defScope s_law_one) [] [] f fd) : FnOk P w K mg base CX0 2 f fd ["_law_purse_here", "_law_some"] (sp_law_one K) :=
  F.ok (k := 1) sc_law_one (fun vs H Q E h => by obtain ⟨_, _, _, _, rfl, _⟩ := h; rfl) fun cdv A outer s H vs Q E hr h => ⟨_, PSs.nox (der_law_one o.t G_law_part hr), pure_law_one vs H Q E h⟩
theorem ok_RawWeb_init {P : Program} {w : World} {K : PySem.W.Frag} {mg : Str → Option Value} {base : Heap} {f : Addr} {fd : FuncData} (o : Own K mg)
    (F : FunD K "__init__" "RawWeb.__init__" (defArgs s_RawWeb_init) (defBody s_RawWeb_init) (defScope s_RawWeb_init) [] [] f fd) : FnOk P w K mg base CX0 1 f fd ["self", "many", "arrows"] (sp_RawWeb_init K) :=
  F.ok (k := 0) sc_RawWeb_init (fun vs H Q E h => by obtain ⟨_, _, _, _, rfl, _⟩ := h; rfl) fun cdv A outer s H vs Q E hr h => ⟨_, PSs.nox (der_RawWeb_init o.t hr), pure_RawWeb_init o.we vs H Q E h⟩
theorem ok_line {P : Program} {w : World} {K : PySem.W.Frag} {mg : Str → Option Value} {base : Heap} {f : Addr} {fd : FuncData} (o : Own K mg)
    (G_RawWeb_init : Mak P w K mg base 1 "RawWeb" ["self", "many", "arrows"] (ad K "RawWeb") (sp_RawWeb_init K))
    (F : FunD K "line" "line" (defArgs s_line) (defBody s_line) (defScope s_line) [] [] f fd) : FnOk P w K mg base CX0 3 f fd ["word"] (sp_line K) :=
  F.ok (k := 2) sc_line (fun vs H Q E h => by obtain ⟨_, rfl, _⟩ := h; rfl) fun cdv A outer s H vs Q E hr h => ⟨_, PSs.nox (der_line o.t G_RawWeb_init hr), pure_line o.we vs H Q E h⟩
theorem ok_law_line {P : Program} {w : World} {K : PySem.W.Frag} {mg : Str → Option Value} {base : Heap} {f : Addr} {fd : FuncData} (o : Own K mg)
    (G_law_part : Cal P w K mg base 1 "_law_part" ["_law_purse_here", "_law_many"] (sp_law_part K))
    (G_law_one : Cal P w K mg base 2 "_law_one" ["_law_purse_here", "_law_some"] (sp_law_one K))
    (G_line : Cal P w K mg base 3 "line" ["word"] (sp_line K))
    (F : FunD K "_law_line" "_law_line" (defArgs s_law_line) (defBody s_law_line) (defScope s_law_line) [] [] f fd) : FnOk P w K mg base CX0 4 f fd ["_law_purse_here", "_law_most"] (sp_law_line K) :=
  F.ok (k := 3) sc_law_line (fun vs H Q E h => by obtain ⟨_, _, _, rfl, _⟩ := h; rfl) fun cdv A outer s H vs Q E hr h => ⟨_, PSs.nox (der_law_line o.t G_law_part G_law_one G_line hr), pure_law_line vs H Q E h⟩
theorem ok_law_pairs {P : Program} {w : World} {K : PySem.W.Frag} {mg : Str → Option Value} {base : Heap} {f : Addr} {fd : FuncData} (o : Own K mg)
    (F : FunD K "_law_pairs" "_law_pairs" (defArgs s_law_pairs) (defBody s_law_pairs) (defScope s_law_pairs) [] [] f fd) : FnOk P w K mg base CX0 1 f fd ["_law_many"] (sp_law_pairs K) :=
  F.ok (k := 0) sc_law_pairs (fun vs H Q E h => by obtain ⟨_, rfl, _⟩ := h; rfl) fun cdv A outer s H vs Q E hr h => ⟨_, PSs.nox (der_law_pairs o.t hr), pure_law_pairs vs H Q E h⟩
theorem ok_law_stretches {P : Program} {w : World} {K : PySem.W.Frag} {mg : Str → Option Value} {base : Heap} {f : Addr} {fd : FuncData} (o : Own K mg)
    (G_law_pairs : Cal P w K mg base 1 "_law_pairs" ["_law_many"] (sp_law_pairs K))
    (F : FunD K "_law_stretches" "_law_stretches" (defArgs s_law_stretches) (defBody s_law_stretches) (defScope s_law_stretches) [] [] f fd) : FnOk P w K mg base CX0 2 f fd ["_law_many"] (sp_stretches K) :=
  F.ok (k := 1) sc_law_stretches (fun vs H Q E h => by obtain ⟨_, rfl, _⟩ := h; rfl) fun cdv A outer s H vs Q E hr h => ⟨_, PSs.nox (der_law_stretches o.t G_law_pairs hr), pure_law_stretches vs H Q E h⟩
theorem ok_is_line {P : Program} {w : World} {K : PySem.W.Frag} {mg : Str → Option Value} {base : Heap} {f : Addr} {fd : FuncData} (o : Own K mg)
    (F : FunD K "is_line" "is_line" (defArgs s_is_line) (defBody s_is_line) (defScope s_is_line) [] [] f fd) : FnOk P w K mg base CX0 1 f fd ["web"] (sp_is_line K) :=
  F.ok (k := 0) sc_is_line (fun vs H Q E h => by obtain ⟨_, _, rfl, _⟩ := h; rfl) fun cdv A outer s H vs Q E hr h => ⟨_, PSs.nox (der_is_line o.t hr), pure_is_line vs H Q E h⟩
theorem ok_is_integer {P : Program} {w : World} {K : PySem.W.Frag} {mg : Str → Option Value} {base : Heap} {f : Addr} {fd : FuncData} (o : Own K mg)
    (F : FunD K "is_integer" "is_integer" (defArgs s_is_integer) (defBody s_is_integer) (defScope s_is_integer) [] [] f fd) : FnOk P w K mg base CX0 1 f fd ["thing"] sp_is_integer :=
  F.ok (k := 0) sc_is_integer (fun vs H Q E h => by obtain ⟨_, rfl, _⟩ := h; rfl) fun cdv A outer s H vs Q E hr h => ⟨_, PSs.nox (der_is_integer o.t hr), pure_is_integer vs H Q E h⟩
theorem ok_is_prime {P : Program} {w : World} {K : PySem.W.Frag} {mg : Str → Option Value} {base : Heap} {f : Addr} {fd : FuncData} (o : Own K mg)
    (G_is_integer : Cal P w K mg base 1 "is_integer" ["thing"] sp_is_integer)
    (F : FunD K "is_prime" "is_prime" (defArgs s_is_prime) (defBody s_is_prime) (defScope s_is_prime) [] [] f fd) : FnOk P w K mg base CX0 2 f fd ["thing"] sp_is_prime :=
  F.ok (k := 1) sc_is_prime (fun vs H Q E h => by obtain ⟨_, rfl, _⟩ := h; rfl) fun cdv A outer s H vs Q E hr h => ⟨_, PSs.nox (der_is_prime o.t G_is_integer hr), pure_is_prime o.ps vs H Q E h⟩
theorem ok_check_prime {P : Program} {w : World} {K : PySem.W.Frag} {mg : Str → Option Value} {base : Heap} {f : Addr} {fd : FuncData} (o : Own K mg)
    (G_is_prime : Cal P w K mg base 2 "is_prime" ["thing"] sp_is_prime)
    (F : FunD K "check_prime" "check_prime" (defArgs s_check_prime) (defBody s_check_prime) (defScope s_check_prime) [] [] f fd) : FnOk P w K mg base CX0 3 f fd ["thing"] sp_check_prime :=
  F.ok (k := 2) sc_check_prime (fun vs H Q E h => by obtain ⟨_, rfl, _⟩ := h; rfl) fun cdv A outer s H vs Q E hr h => ⟨_, PSs.nox (der_check_prime o.t G_is_prime hr), pure_check_prime vs H Q E h⟩
theorem ok_is_within {P : Program} {w : World} {K : PySem.W.Frag} {mg : Str → Option Value} {base : Heap} {f : Addr} {fd : FuncData} (o : Own K mg)
    (G_is_integer : Cal P w K mg base 1 "is_integer" ["thing"] sp_is_integer)
    (F : FunD K "is_within" "is_within" (defArgs s_is_within) (defBody s_is_within) (defScope s_is_within) [] [] f fd) : FnOk P w K mg base CX0 2 f fd ["thing", "least", "most"] sp_is_within :=
  F.ok (k := 1) sc_is_within (fun vs H Q E h => by obtain ⟨_, _, _, rfl, _⟩ := h; rfl) fun cdv A outer s H vs Q E hr h => ⟨_, PSs.nox (der_is_within o.t G_is_integer hr), pure_is_within vs H Q E h⟩
theorem ok_is_number {P : Program} {w : World} {K : PySem.W.Frag} {mg : Str → Option Value} {base : Heap} {f : Addr} {fd : FuncData} (o : Own K mg)
    (G_is_within : Cal P w K mg base 2 "is_within" ["thing", "least", "most"] sp_is_within)
    (F : FunD K "is_number" "is_number" (defArgs s_is_number) (defBody s_is_number) (defScope s_is_number) [] [] f fd) : FnOk P w K mg base CX0 3 f fd ["thing", "most"] sp_is_number :=
  F.ok (k := 2) sc_is_number (fun vs H Q E h => by obtain ⟨_, _, rfl, _⟩ := h; rfl) fun cdv A outer s H vs Q E hr h => ⟨_, PSs.nox (der_is_number o.t G_is_within hr), pure_is_number vs H Q E h⟩
theorem ok_check_stretch {P : Program} {w : World} {K : PySem.W.Frag} {mg : Str → Option Value} {base : Heap} {f : Addr} {fd : FuncData} (o : Own K mg)
    (G_is_number : Cal P w K mg base 3 "is_number" ["thing", "most"] sp_is_number)
    (F : FunD K "check_stretch" "check_stretch" (defArgs s_check_stretch) (defBody s_check_stretch) (defScope s_check_stretch) [] [] f fd) : FnOk P w K mg base CX0 4 f fd ["web", "begin", "end"] (sp_check_stretch K) :=
  F.ok (k := 3) sc_check_stretch (fun vs H Q E h => by obtain ⟨_, _, _, _, rfl, _⟩ := h; rfl) fun cdv A outer s H vs Q E hr h => ⟨_, PSs.nox (der_check_stretch o.t G_is_number hr), pure_check_stretch vs H Q E h⟩
theorem ok_Table_keep {P : Program} {w : World} {K : PySem.W.Frag} {mg : Str → Option Value} {base : Heap} {f : Addr} {fd : FuncData} {C : Addr} (o : Own K mg)
    (F : FunD K "keep" "Table.keep" (defArgs s_Table_keep) (defBody s_Table_keep) (defScope s_Table_keep) [] [] f fd) : FnOk P w K mg base CX0 1 f fd ["self", "prime", "wide", "rows"] (sp_Tab_keep K C) :=
  F.ok (k := 0) sc_Table_keep (fun vs H Q E h => by obtain ⟨_, _, _, _, _, _, rfl, _⟩ := h; rfl) fun cdv A outer s H vs Q E hr h => ⟨_, PSs.nox (der_Table_keep o.t hr), pure_Table_keep vs H Q E h⟩
theorem ok_RawTable_init {P : Program} {w : World} {K : PySem.W.Frag} {mg : Str → Option Value} {base : Heap} {f : Addr} {fd : FuncData} (o : Own K mg)
    (G_RawTable_keep : Met P w K mg base 1 (ad K "RawTable") "keep" ["self", "prime", "wide", "rows"] (sp_Tab_keep K (ad K "RawTable")))
    (F : FunD K "__init__" "RawTable.__init__" (defArgs s_RawTable_init) (defBody s_RawTable_init) (defScope s_RawTable_init) [] [] f fd) : FnOk P w K mg base CX0 2 f fd ["self", "prime", "wide", "rows"] (sp_RawTable_init K) :=
  F.ok (k := 1) sc_RawTable_init (fun vs H Q E h => by obtain ⟨_, _, _, _, _, _, rfl, _⟩ := h; rfl) fun cdv A outer s H vs Q E hr h => ⟨_, PSs.nox (der_RawTable_init o.t G_RawTable_keep hr), pure_RawTable_init o.tr.k (.inr trivial) vs H Q E h⟩
theorem ok_raw_plain {P : Program} {w : World} {K : PySem.W.Frag} {mg : Str → Option Value} {base : Heap} {f : Addr} {fd : FuncData} (o : Own K mg)
    (G_RawTable_init : Mak P w K mg base 2 "RawTable" ["self", "prime", "wide", "rows"] (ad K "RawTable") (sp_RawTable_init K))
    (F : FunD K "raw_plain" "raw_plain" (defArgs s_raw_plain) (defBody s_raw_plain) (defScope s_raw_plain) [] [] f fd) : FnOk P w K mg base CX0 4 f fd ["prime", "size"] (sp_raw_plain K) :=
  F.ok (k := 3) sc_raw_plain (fun vs H Q E h => by obtain ⟨_, _, rfl, _⟩ := h; rfl) fun cdv A outer s H vs Q E hr h => ⟨_, PSs.nox (der_raw_plain o.t G_RawTable_init hr), pure_raw_plain o.tr vs H Q E h⟩
theorem ok_raw_nought {P : Program} {w : World} {K : PySem.W.Frag} {mg : Str → Option Value} {base : Heap} {f : Addr} {fd : FuncData} (o : Own K mg)
    (G_RawTable_init : Mak P w K mg base 2 "RawTable" ["self", "prime", "wide", "rows"] (ad K "RawTable") (sp_RawTable_init K))
    (F : FunD K "raw_nought" "raw_nought" (defArgs s_raw_nought) (defBody s_raw_nought) (defScope s_raw_nought) [] [] f fd) : FnOk P w K mg base CX0 4 f fd ["prime", "high", "wide"] (sp_raw_nought K) :=
  F.ok (k := 3) sc_raw_nought (fun vs H Q E h => by obtain ⟨_, _, _, rfl, _⟩ := h; rfl) fun cdv A outer s H vs Q E hr h => ⟨_, PSs.nox (der_raw_nought o.t G_RawTable_init hr), pure_raw_nought o.tr vs H Q E h⟩
theorem ok_Picture_keep {P : Program} {w : World} {K : PySem.W.Frag} {mg : Str → Option Value} {base : Heap} {f : Addr} {fd : FuncData} {C : Addr} (o : Own K mg) (kC : KPic K C)
    (F : FunD K "keep" "Picture.keep" (defArgs s_Picture_keep) (defBody s_Picture_keep) (defScope s_Picture_keep) [] [] f fd) : FnOk P w K mg base CX0 1 f fd ["self", "web", "prime", "sizes", "tables"] (sp_Pic_keep K C) :=
  F.ok (k := 0) sc_Picture_keep (fun vs H Q E h => by obtain ⟨_, _, _, _, _, _, rfl, _⟩ := h; rfl) fun cdv A outer s H vs Q E hr h => ⟨_, PSs.nox (der_Picture_keep o.t hr), pure_Picture_keep kC vs H Q E h⟩
theorem ok_RawPicture_init {P : Program} {w : World} {K : PySem.W.Frag} {mg : Str → Option Value} {base : Heap} {f : Addr} {fd : FuncData} (o : Own K mg)
    (G_RawPicture_keep : Met P w K mg base 1 (ad K "RawPicture") "keep" ["self", "web", "prime", "sizes", "tables"] (sp_Pic_keep K (ad K "RawPicture")))
    (F : FunD K "__init__" "RawPicture.__init__" (defArgs s_RawPicture_init) (defBody s_RawPicture_init) (defScope s_RawPicture_init) [] [] f fd) : FnOk P w K mg base CX0 2 f fd ["self", "web", "prime", "sizes", "tables"] (sp_RawPicture_init K) :=
  F.ok (k := 1) sc_RawPicture_init (fun vs H Q E h => by obtain ⟨_, _, _, _, _, _, rfl, _⟩ := h; rfl) fun cdv A outer s H vs Q E hr h => ⟨_, PSs.nox (der_RawPicture_init o.t G_RawPicture_keep hr), pure_RawPicture_init vs H Q E h⟩
theorem ok_raw_bar {P : Program} {w : World} {K : PySem.W.Frag} {mg : Str → Option Value} {base : Heap} {f : Addr} {fd : FuncData} (o : Own K mg)
    (G_raw_plain : Cal P w K mg base 4 "raw_plain" ["prime", "size"] (sp_raw_plain K))
    (G_raw_nought : Cal P w K mg base 4 "raw_nought" ["prime", "high", "wide"] (sp_raw_nought K))
    (G_RawPicture_init : Mak P w K mg base 2 "RawPicture" ["self", "web", "prime", "sizes", "tables"] (ad K "RawPicture") (sp_RawPicture_init K))
    (F : FunD K "raw_bar" "raw_bar" (defArgs s_raw_bar) (defBody s_raw_bar) (defScope s_raw_bar) [] [] f fd) : FnOk P w K mg base CX0 5 f fd ["web", "prime", "begin", "end"] (sp_raw_bar K) :=
  F.ok (k := 4) sc_raw_bar (fun vs H Q E h => by obtain ⟨_, _, _, _, _, rfl, _⟩ := h; rfl) fun cdv A outer s H vs Q E hr h => ⟨_, PSs.nox (der_raw_bar o.t G_raw_plain G_raw_nought G_RawPicture_init hr), pure_raw_bar o.pr vs H Q E h⟩
theorem ok_bar_of {P : Program} {w : World} {K : PySem.W.Frag} {mg : Str → Option Value} {base : Heap} {f : Addr} {fd : FuncData} (o : Own K mg)
    (G_is_line : Cal P w K mg base 1 "is_line" ["web"] (sp_is_line K))
    (G_check_prime : Cal P w K mg base 3 "check_prime" ["thing"] sp_check_prime)
    (G_check_stretch : Cal P w K mg base 4 "check_stretch" ["web", "begin", "end"] (sp_check_stretch K))
    (G_raw_bar : Cal P w K mg base 5 "raw_bar" ["web", "prime", "begin", "end"] (sp_raw_bar K))
    (F : FunD K "bar_of" "bar_of" (defArgs s_bar_of) (defBody s_bar_of) (defScope s_bar_of) [] [] f fd) : FnOk P w K mg base CX0 6 f fd ["web", "prime", "begin", "end"] (sp_bar_of K) :=
  F.ok (k := 5) sc_bar_of (fun vs H Q E h => by obtain ⟨_, _, _, _, _, rfl, _⟩ := h; rfl) fun cdv A outer s H vs Q E hr h => ⟨_, PSs.nox (der_bar_of o.t G_is_line G_check_prime G_check_stretch G_raw_bar hr), pure_bar_of vs H Q E h⟩
theorem ok_Web_eq {P : Program} {w : World} {K : PySem.W.Frag} {mg : Str → Option Value} {base : Heap} {f : Addr} {fd : FuncData} (o : Own K mg)
    (F : FunD K "__eq__" "Web.__eq__" (defArgs s_Web_eq) (defBody s_Web_eq) (defScope s_Web_eq) [] [] f fd) : FnOk P w K mg base CX0 2 f fd ["self", "other"] (spEq (sameWeb K)) :=
  F.ok (k := 1) sc_Web_eq (fun vs H Q E h => by obtain ⟨_, _, rfl, _⟩ := h; rfl) fun cdv A outer s H vs Q E hr h => ⟨_, PSs.nox (der_Web_eq o.t (hr.mono (by decide))), pure_Web_eq vs H Q E h⟩
theorem ok_is_picture_of {P : Program} {w : World} {K : PySem.W.Frag} {mg : Str → Option Value} {base : Heap} {f : Addr} {fd : FuncData} (o : Own K mg)
    {fE : Addr} {fdE : FuncData} (FE : FnOk P w K mg base CX0 2 fE fdE ["self", "other"] (spEq (sameWeb K))) (hE : PySem.W.findIn K (.ref (ad K "RawWeb")) "__eq__" = some (some (.ref fE))) (iE : PySem.W.isFn K (.ref fE) = true) (bE : Binds K fdE ["self", "other"] [])
    (F : FunD K "is_picture_of" "is_picture_of" (defArgs s_is_picture_of) (defBody s_is_picture_of) (defScope s_is_picture_of) [] [] f fd) : FnOk P w K mg base CX0 3 f fd ["web", "prime", "thing"] (sp_is_picture_of K) :=
  F.ok (k := 2) sc_is_picture_of (fun vs H Q E h => by obtain ⟨_, _, _, _, _, rfl, _⟩ := h; rfl) fun cdv A outer s H vs Q E hr h => ⟨_, PSs.nox (der_is_picture_of o.t (rcG_ins (CX := CX0) (E := E0) FE hE iE bE (fun _ _ _ _ _ _ _ h => h.elim)) hr), pure_is_picture_of vs H Q E h⟩
theorem ok_raw_corner {P : Program} {w : World} {K : PySem.W.Frag} {mg : Str → Option Value} {base : Heap} {f : Addr} {fd : FuncData} (o : Own K mg)
    (G_RawTable_init : Mak P w K mg base 2 "RawTable" ["self", "prime", "wide", "rows"] (ad K "RawTable") (sp_RawTable_init K))
    (F : FunD K "raw_corner" "raw_corner" (defArgs s_raw_corner) (defBody s_raw_corner) (defScope s_raw_corner) [] [] f fd) : FnOk P w K mg base CX0 4 f fd ["one", "other"] (sp_raw_corner K) :=
  F.ok (k := 3) sc_raw_corner (fun vs H Q E h => by obtain ⟨_, _, _, _, _, rfl, _⟩ := h; rfl) fun cdv A outer s H vs Q E hr h => ⟨_, PSs.nox (der_raw_corner o.t G_RawTable_init hr), pure_raw_corner o.tr vs H Q E h⟩
theorem ok_raw_beside {P : Program} {w : World} {K : PySem.W.Frag} {mg : Str → Option Value} {base : Heap} {f : Addr} {fd : FuncData} (o : Own K mg)
    (G_raw_nought : Cal P w K mg base 4 "raw_nought" ["prime", "high", "wide"] (sp_raw_nought K))
    (G_raw_corner : Cal P w K mg base 4 "raw_corner" ["one", "other"] (sp_raw_corner K))
    (G_RawPicture_init : Mak P w K mg base 2 "RawPicture" ["self", "web", "prime", "sizes", "tables"] (ad K "RawPicture") (sp_RawPicture_init K))
    (F : FunD K "raw_beside" "raw_beside" (defArgs s_raw_beside) (defBody s_raw_beside) (defScope s_raw_beside) [] [] f fd) : FnOk P w K mg base CX0 5 f fd ["web", "prime", "pictures"] (sp_raw_beside K) :=
  F.ok (k := 4) sc_raw_beside (fun vs H Q E h => by obtain ⟨_, _, _, _, _, _, rfl, _⟩ := h; rfl) fun cdv A outer s H vs Q E hr h => ⟨_, PSs.nox (der_raw_beside o.t G_raw_nought G_raw_corner G_RawPicture_init hr), pure_raw_beside o.pr vs H Q E h⟩
theorem ok_beside {P : Program} {w : World} {K : PySem.W.Frag} {mg : Str → Option Value} {base : Heap} {f : Addr} {fd : FuncData} (o : Own K mg)
    (G_check_prime : Cal P w K mg base 3 "check_prime" ["thing"] sp_check_prime)
    (G_is_picture_of : Cal P w K mg base 3 "is_picture_of" ["web", "prime", "thing"] (sp_is_picture_of K))
    (G_raw_beside : Cal P w K mg base 5 "raw_beside" ["web", "prime", "pictures"] (sp_raw_beside K))
    (F : FunD K "beside" "beside" (defArgs s_beside) (defBody s_beside) (defScope s_beside) [] [] f fd) : FnOk P w K mg base CX0 6 f fd ["web", "prime", "pictures"] (sp_beside K) :=
  F.ok (k := 5) sc_beside (fun vs H Q E h => by obtain ⟨_, _, _, _, _, _, rfl, _⟩ := h; rfl) fun cdv A outer s H vs Q E hr h => ⟨_, PSs.nox (der_beside o.t G_check_prime G_is_picture_of G_raw_beside hr), pure_beside vs H Q E h⟩
theorem ok_is_column {P : Program} {w : World} {K : PySem.W.Frag} {mg : Str → Option Value} {base : Heap} {f : Addr} {fd : FuncData} (o : Own K mg)
    (G_is_number : Cal P w K mg base 3 "is_number" ["thing", "most"] sp_is_number)
    (F : FunD K "is_column" "is_column" (defArgs s_is_column) (defBody s_is_column) (defScope s_is_column) [] [] f fd) : FnOk P w K mg base CX0 4 f fd ["prime", "size", "thing"] (sp_is_column K) :=
  F.ok (k := 3) sc_is_column (fun vs H Q E h => by obtain ⟨_, _, _, _, rfl, _⟩ := h; rfl) fun cdv A outer s H vs Q E hr h => ⟨_, PSs.nox (der_is_column o.t G_is_number hr), pure_is_column vs H Q E h⟩
theorem ok_Table_init {P : Program} {w : World} {K : PySem.W.Frag} {mg : Str → Option Value} {base : Heap} {f : Addr} {fd : FuncData} (o : Own K mg)
    (G_is_prime : Cal P w K mg base 2 "is_prime" ["thing"] sp_is_prime)
    (G_is_number : Cal P w K mg base 3 "is_number" ["thing", "most"] sp_is_number)
    (G_is_column : Cal P w K mg base 4 "is_column" ["prime", "size", "thing"] (sp_is_column K))
    (G_Table_keep : Met P w K mg base 1 (ad K "Table") "keep" ["self", "prime", "wide", "rows"] (sp_Tab_keep K (ad K "Table")))
    (F : FunD K "__init__" "Table.__init__" (defArgs s_Table_init) (defBody s_Table_init) (defScope s_Table_init) [] [] f fd) : FnOk P w K mg base CX0 5 f fd ["self", "prime", "wide", "rows"] (sp_Table_init K) :=
  F.ok (k := 4) sc_Table_init (fun vs H Q E h => by obtain ⟨_, _, _, _, _, _, _, rfl, _⟩ := h; rfl) fun cdv A outer s H vs Q E hr h => ⟨_, PSs.nox (der_Table_init o.t G_is_prime G_is_number G_is_column G_Table_keep hr), pure_Table_init o.tt.k vs H Q E h⟩
theorem ok_law_base {P : Program} {w : World} {K : PySem.W.Frag} {mg : Str → Option Value} {base : Heap} {f : Addr} {fd : FuncData} (o : Own K mg)
    (G_law_part : Cal P w K mg base 1 "_law_part" ["_law_purse_here", "_law_many"] (sp_law_part K))
    (G_Table_init : Mak P w K mg base 5 "Table" ["self", "prime", "wide", "rows"] (ad K "Table") (sp_Table_init K))
    (F : FunD K "_law_base" "_law_base" (defArgs s_law_base) (defBody s_law_base) (defScope s_law_base) [] [] f fd) : FnOk P w K mg base CX0 7 f fd ["_law_purse_here", "_law_prime", "_law_size"] (sp_law_base K) :=
  F.ok (k := 6) sc_law_base (fun vs H Q E h => by obtain ⟨_, _, _, _, rfl, _⟩ := h; rfl) fun cdv A outer s H vs Q E hr h => ⟨_, PSs.nox (der_law_base o.t G_law_part G_Table_init hr), pure_law_base o.tt vs H Q E h⟩
theorem ok_is_fit_table {P : Program} {w : World} {K : PySem.W.Frag} {mg : Str → Option Value} {base : Heap} {f : Addr} {fd : FuncData} (o : Own K mg)
    (F : FunD K "is_fit_table" "is_fit_table" (defArgs s_is_fit_table) (defBody s_is_fit_table) (defScope s_is_fit_table) [] [] f fd) : FnOk P w K mg base CX0 1 f fd ["prime", "high", "wide", "thing"] (sp_is_fit_table K) :=
  F.ok (k := 0) sc_is_fit_table (fun vs H Q E h => by obtain ⟨_, _, _, rfl, _⟩ := h; rfl) fun cdv A outer s H vs Q E hr h => ⟨_, PSs.nox (der_is_fit_table o.t hr), pure_is_fit_table vs H Q E h⟩
theorem ok_inverse_of {P : Program} {w : World} {K : PySem.W.Frag} {mg : Str → Option Value} {base : Heap} {f : Addr} {fd : FuncData} (o : Own K mg)
    (F : FunD K "inverse_of" "inverse_of" (defArgs s_inverse_of) (defBody s_inverse_of) (defScope s_inverse_of) [] [] f fd) : FnOk P w K mg base CX0 1 f fd ["prime", "worth"] sp_inverse_of :=
  F.ok (k := 0) sc_inverse_of (fun vs H Q E h => by obtain ⟨_, _, rfl, _⟩ := h; rfl) fun cdv A outer s H vs Q E hr h => ⟨_, PSs.nox (der_inverse_of o.t hr), pure_inverse_of vs H Q E h⟩
theorem ok_less {P : Program} {w : World} {K : PySem.W.Frag} {mg : Str → Option Value} {base : Heap} {f : Addr} {fd : FuncData} (o : Own K mg)
    (F : FunD K "less" "less" (defArgs s_less) (defBody s_less) (defScope s_less) [] [] f fd) : FnOk P w K mg base CX0 1 f fd ["prime", "row", "by", "other"] (sp_less K) :=
  F.ok (k := 0) sc_less (fun vs H Q E h => by obtain ⟨_, _, _, _, _, _, rfl, _⟩ := h; rfl) fun cdv A outer s H vs Q E hr h => ⟨_, PSs.nox (der_less o.t hr), pure_less vs H Q E h⟩
theorem ok_cleared {P : Program} {w : World} {K : PySem.W.Frag} {mg : Str → Option Value} {base : Heap} {f : Addr} {fd : FuncData} (o : Own K mg)
    (G_less : Cal P w K mg base 1 "less" ["prime", "row", "by", "other"] (sp_less K))
    (F : FunD K "cleared" "cleared" (defArgs s_cleared) (defBody s_cleared) (defScope s_cleared) [] [] f fd) : FnOk P w K mg base CX0 2 f fd ["prime", "rows", "place", "row"] (sp_cleared K) :=
  F.ok (k := 1) sc_cleared (fun vs H Q E h => by obtain ⟨_, _, _, _, _, _, _, rfl, _⟩ := h; rfl) fun cdv A outer s H vs Q E hr h => ⟨_, PSs.nox (der_cleared o.t G_less hr), pure_cleared vs H Q E h⟩
theorem ok_reduced_rows {P : Program} {w : World} {K : PySem.W.Frag} {mg : Str → Option Value} {base : Heap} {f : Addr} {fd : FuncData} (o : Own K mg)
    (G_inverse_of : Cal P w K mg base 1 "inverse_of" ["prime", "worth"] sp_inverse_of)
    (G_cleared : Cal P w K mg base 2 "cleared" ["prime", "rows", "place", "row"] (sp_cleared K))
    (F : FunD K "reduced_rows" "reduced_rows" (defArgs s_reduced_rows) (defBody s_reduced_rows) (defScope s_reduced_rows) [] [] f fd) : FnOk P w K mg base CX0 3 f fd ["prime", "wide", "rows"] (sp_reduced_rows K) :=
  F.ok (k := 2) sc_reduced_rows (fun vs H Q E h => by obtain ⟨_, _, _, _, _, rfl, _⟩ := h; rfl) fun cdv A outer s H vs Q E hr h => ⟨_, PSs.nox (der_reduced_rows o.t G_inverse_of G_cleared hr), pure_reduced_rows vs H Q E h⟩
theorem ok_undone {P : Program} {w : World} {K : PySem.W.Frag} {mg : Str → Option Value} {base : Heap} {f : Addr} {fd : FuncData} (o : Own K mg)
    (G_raw_plain : Cal P w K mg base 4 "raw_plain" ["prime", "size"] (sp_raw_plain K))
    (G_reduced_rows : Cal P w K mg base 3 "reduced_rows" ["prime", "wide", "rows"] (sp_reduced_rows K))
    (G_RawTable_init : Mak P w K mg base 2 "RawTable" ["self", "prime", "wide", "rows"] (ad K "RawTable") (sp_RawTable_init K))
    (F : FunD K "undone" "undone" (defArgs s_undone) (defBody s_undone) (defScope s_undone) [] [] f fd) : FnOk P w K mg base CX0 5 f fd ["table"] (sp_undone K) :=
  F.ok (k := 4) sc_undone (fun vs H Q E h => by obtain ⟨_, _, _, _, rfl, _⟩ := h; rfl) fun cdv A outer s H vs Q E hr h => ⟨_, PSs.nox (der_undone o.t G_raw_plain G_reduced_rows G_RawTable_init hr), pure_undone o.tr vs H Q E h⟩
theorem ok_columns_of {P : Program} {w : World} {K : PySem.W.Frag} {mg : Str → Option Value} {base : Heap} {f : Addr} {fd : FuncData} (o : Own K mg)
    (F : FunD K "columns_of" "columns_of" (defArgs s_columns_of) (defBody s_columns_of) (defScope s_columns_of) [] [] f fd) : FnOk P w K mg base CX0 1 f fd ["table"] (sp_columns_of K) :=
  F.ok (k := 0) sc_columns_of (fun vs H Q E h => by obtain ⟨_, _, _, rfl, _⟩ := h; rfl) fun cdv A outer s H vs Q E hr h => ⟨_, PSs.nox (der_columns_of o.t hr), pure_columns_of vs H Q E h⟩
theorem ok_led_on {P : Program} {w : World} {K : PySem.W.Frag} {mg : Str → Option Value} {base : Heap} {f : Addr} {fd : FuncData} (o : Own K mg)
    (F : FunD K "led_on" "led_on" (defArgs s_led_on) (defBody s_led_on) (defScope s_led_on) [] [] f fd) : FnOk P w K mg base CX0 1 f fd ["table", "column"] (sp_led_on K) :=
  F.ok (k := 0) sc_led_on (fun vs H Q E h => by obtain ⟨_, _, _, _, _, rfl, _⟩ := h; rfl) fun cdv A outer s H vs Q E hr h => ⟨_, PSs.nox (der_led_on o.t hr), pure_led_on vs H Q E h⟩
theorem ok_columns_table {P : Program} {w : World} {K : PySem.W.Frag} {mg : Str → Option Value} {base : Heap} {f : Addr} {fd : FuncData} (o : Own K mg)
    (G_RawTable_init : Mak P w K mg base 2 "RawTable" ["self", "prime", "wide", "rows"] (ad K "RawTable") (sp_RawTable_init K))
    (F : FunD K "columns_table" "columns_table" (defArgs s_columns_table) (defBody s_columns_table) (defScope s_columns_table) [] [] f fd) : FnOk P w K mg base CX0 4 f fd ["prime", "high", "columns"] (sp_columns_table K) :=
  F.ok (k := 3) sc_columns_table (fun vs H Q E h => by obtain ⟨_, _, _, _, _, rfl, _⟩ := h; rfl) fun cdv A outer s H vs Q E hr h => ⟨_, PSs.nox (der_columns_table o.t G_RawTable_init hr), pure_columns_table o.tr vs H Q E h⟩
theorem ok_raw_times {P : Program} {w : World} {K : PySem.W.Frag} {mg : Str → Option Value} {base : Heap} {f : Addr} {fd : FuncData} (o : Own K mg)
    (G_columns_of : Cal P w K mg base 1 "columns_of" ["table"] (sp_columns_of K))
    (G_led_on : Cal P w K mg base 1 "led_on" ["table", "column"] (sp_led_on K))
    (G_columns_table : Cal P w K mg base 4 "columns_table" ["prime", "high", "columns"] (sp_columns_table K))
    (F : FunD K "raw_times" "raw_times" (defArgs s_raw_times) (defBody s_raw_times) (defScope s_raw_times) [] [] f fd) : FnOk P w K mg base CX0 5 f fd ["one", "other"] (sp_raw_times K) :=
  F.ok (k := 4) sc_raw_times (fun vs H Q E h => by obtain ⟨_, _, _, _, _, rfl, _⟩ := h; rfl) fun cdv A outer s H vs Q E hr h => ⟨_, PSs.nox (der_raw_times o.t G_columns_of G_led_on G_columns_table hr), pure_raw_times vs H Q E h⟩
theorem ok_raw_based {P : Program} {w : World} {K : PySem.W.Frag} {mg : Str → Option Value} {base : Heap} {f : Addr} {fd : FuncData} (o : Own K mg)
    (G_undone : Cal P w K mg base 5 "undone" ["table"] (sp_undone K))
    (G_raw_times : Cal P w K mg base 5 "raw_times" ["one", "other"] (sp_raw_times K))
    (G_RawPicture_init : Mak P w K mg base 2 "RawPicture" ["self", "web", "prime", "sizes", "tables"] (ad K "RawPicture") (sp_RawPicture_init K))
    (F : FunD K "raw_based" "raw_based" (defArgs s_raw_based) (defBody s_raw_based) (defScope s_raw_based) [] [] f fd) : FnOk P w K mg base CX0 6 f fd ["picture", "tables"] (sp_raw_based K) :=
  F.ok (k := 5) sc_raw_based (fun vs H Q E h => by obtain ⟨_, _, _, _, _, rfl, _⟩ := h; rfl) fun cdv A outer s H vs Q E hr h => ⟨_, PSs.nox (der_raw_based o.t G_undone G_raw_times G_RawPicture_init hr), pure_raw_based o.pr vs H Q E h⟩
theorem ok_based {P : Program} {w : World} {K : PySem.W.Frag} {mg : Str → Option Value} {base : Heap} {f : Addr} {fd : FuncData} (o : Own K mg)
    (G_is_fit_table : Cal P w K mg base 1 "is_fit_table" ["prime", "high", "wide", "thing"] (sp_is_fit_table K))
    (G_undone : Cal P w K mg base 5 "undone" ["table"] (sp_undone K))
    (G_raw_based : Cal P w K mg base 6 "raw_based" ["picture", "tables"] (sp_raw_based K))
    (F : FunD K "based" "based" (defArgs s_based) (defBody s_based) (defScope s_based) [] [] f fd) : FnOk P w K mg base CX0 7 f fd ["picture", "tables"] (sp_based K) :=
  F.ok (k := 6) sc_based (fun vs H Q E h => by obtain ⟨_, _, _, _, _, rfl, _⟩ := h; rfl) fun cdv A outer s H vs Q E hr h => ⟨_, PSs.nox (der_based o.t G_is_fit_table G_undone G_raw_based hr), pure_based vs H Q E h⟩
theorem ok_law_rebased {P : Program} {w : World} {K : PySem.W.Frag} {mg : Str → Option Value} {base : Heap} {f : Addr} {fd : FuncData} (o : Own K mg)
    (G_law_base : Cal P w K mg base 7 "_law_base" ["_law_purse_here", "_law_prime", "_law_size"] (sp_law_base K))
    (G_based : Cal P w K mg base 7 "based" ["picture", "tables"] (sp_based K))
    (F : FunD K "_law_rebased" "_law_rebased" (defArgs s_law_rebased) (defBody s_law_rebased) (defScope s_law_rebased) [] [] f fd) : FnOk P w K mg base CX0 8 f fd ["_law_purse_here", "_law_picture_here"] (sp_law_rebased K) :=
  F.ok (k := 7) sc_law_rebased (fun vs H Q E h => by obtain ⟨_, _, _, _, _, rfl, _⟩ := h; rfl) fun cdv A outer s H vs Q E hr h => ⟨_, PSs.nox (der_law_rebased o.t G_law_base G_based hr), pure_law_rebased undo vs H Q E h⟩
theorem ok_check_line {P : Program} {w : World} {K : PySem.W.Frag} {mg : Str → Option Value} {base : Heap} {f : Addr} {fd : FuncData} (o : Own K mg)
    (G_is_line : Cal P w K mg base 1 "is_line" ["web"] (sp_is_line K))
    (F : FunD K "check_line" "check_line" (defArgs s_check_line) (defBody s_check_line) (defScope s_check_line) [] [] f fd) : FnOk P w K mg base CX0 2 f fd ["picture"] (sp_check_line K) :=
  F.ok (k := 1) sc_check_line (fun vs H Q E h => by obtain ⟨_, _, _, rfl, _⟩ := h; rfl) fun cdv A outer s H vs Q E hr h => ⟨_, PSs.nox (der_check_line o.t G_is_line hr), pure_check_line vs H Q E h⟩
theorem ok_stretches {P : Program} {w : World} {K : PySem.W.Frag} {mg : Str → Option Value} {base : Heap} {f : Addr} {fd : FuncData} (o : Own K mg)
    (F : FunD K "stretches" "stretches" (defArgs s_stretches) (defBody s_stretches) (defScope s_stretches) [] [] f fd) : FnOk P w K mg base CX0 1 f fd ["many"] (sp_stretches K) :=
  F.ok (k := 0) sc_stretches (fun vs H Q E h => by obtain ⟨_, rfl, _⟩ := h; rfl) fun cdv A outer s H vs Q E hr h => ⟨_, PSs.nox (der_stretches o.t hr), pure_stretches vs H Q E h⟩
theorem ok_starts_on {P : Program} {w : World} {K : PySem.W.Frag} {mg : Str → Option Value} {base : Heap} {f : Addr} {fd : FuncData} (o : Own K mg)
    (F : FunD K "starts_on" "starts_on" (defArgs s_starts_on) (defBody s_starts_on) (defScope s_starts_on) [] [] f fd) : FnOk P w K mg base CX0 1 f fd ["picture", "begin", "end"] (sp_starts_on K) :=
  F.ok (k := 0) sc_starts_on (fun vs H Q E h => by obtain ⟨_, _, _, _, _, rfl, _⟩ := h; rfl) fun cdv A outer s H vs Q E hr h => ⟨_, PSs.nox (der_starts_on o.t hr), pure_starts_on vs H Q E h⟩
theorem ok_unit_led {P : Program} {w : World} {K : PySem.W.Frag} {mg : Str → Option Value} {base : Heap} {f : Addr} {fd : FuncData} (o : Own K mg)
    (G_led_on : Cal P w K mg base 1 "led_on" ["table", "column"] (sp_led_on K))
    (F : FunD K "unit_led" "unit_led" (defArgs s_unit_led) (defBody s_unit_led) (defScope s_unit_led) [] [] f fd) : FnOk P w K mg base CX0 2 f fd ["picture", "arrow", "at"] (sp_unit_led K) :=
  F.ok (k := 1) sc_unit_led (fun vs H Q E h => by obtain ⟨_, _, _, _, _, rfl, _⟩ := h; rfl) fun cdv A outer s H vs Q E hr h => ⟨_, PSs.nox (der_unit_led o.t G_led_on hr), pure_unit_led vs H Q E h⟩
theorem ok_lost_rows {P : Program} {w : World} {K : PySem.W.Frag} {mg : Str → Option Value} {base : Heap} {f : Addr} {fd : FuncData} (o : Own K mg)
    (G_starts_on : Cal P w K mg base 1 "starts_on" ["picture", "begin", "end"] (sp_starts_on K))
    (G_unit_led : Cal P w K mg base 2 "unit_led" ["picture", "arrow", "at"] (sp_unit_led K))
    (F : FunD K "lost_rows" "lost_rows" (defArgs s_lost_rows) (defBody s_lost_rows) (defScope s_lost_rows) [] [] f fd) : FnOk P w K mg base CX0 3 f fd ["picture", "begin", "end"] (sp_lost_rows K) :=
  F.ok (k := 2) sc_lost_rows (fun vs H Q E h => by obtain ⟨_, _, _, _, _, rfl, _⟩ := h; rfl) fun cdv A outer s H vs Q E hr h => ⟨_, PSs.nox (der_lost_rows o.t G_starts_on G_unit_led hr), pure_lost_rows vs H Q E h⟩
theorem ok_kernel {P : Program} {w : World} {K : PySem.W.Frag} {mg : Str → Option Value} {base : Heap} {f : Addr} {fd : FuncData} (o : Own K mg)
    (G_reduced_rows : Cal P w K mg base 3 "reduced_rows" ["prime", "wide", "rows"] (sp_reduced_rows K))
    (F : FunD K "kernel" "kernel" (defArgs s_kernel) (defBody s_kernel) (defScope s_kernel) [] [] f fd) : FnOk P w K mg base CX0 4 f fd ["table"] (sp_kernel K) :=
  F.ok (k := 3) sc_kernel (fun vs H Q E h => by obtain ⟨_, _, _, rfl, _⟩ := h; rfl) fun cdv A outer s H vs Q E hr h => ⟨_, PSs.nox (der_kernel o.t G_reduced_rows hr), pure_kernel vs H Q E h⟩
theorem ok_meeting_rows {P : Program} {w : World} {K : PySem.W.Frag} {mg : Str → Option Value} {base : Heap} {f : Addr} {fd : FuncData} (o : Own K mg)
    (G_starts_on : Cal P w K mg base 1 "starts_on" ["picture", "begin", "end"] (sp_starts_on K))
    (G_kernel : Cal P w K mg base 4 "kernel" ["table"] (sp_kernel K))
    (G_RawTable_init : Mak P w K mg base 2 "RawTable" ["self", "prime", "wide", "rows"] (ad K "RawTable") (sp_RawTable_init K))
    (F : FunD K "meeting_rows" "meeting_rows" (defArgs s_meeting_rows) (defBody s_meeting_rows) (defScope s_meeting_rows) [] [] f fd) : FnOk P w K mg base CX0 5 f fd ["picture", "begin", "end"] (sp_meeting_rows K) :=
  F.ok (k := 4) sc_meeting_rows (fun vs H Q E h => by obtain ⟨_, _, _, _, _, rfl, _⟩ := h; rfl) fun cdv A outer s H vs Q E hr h => ⟨_, PSs.nox (der_meeting_rows o.t G_starts_on G_kernel G_RawTable_init hr), pure_meeting_rows o.tr vs H Q E h⟩
theorem ok_raw_reach {P : Program} {w : World} {K : PySem.W.Frag} {mg : Str → Option Value} {base : Heap} {f : Addr} {fd : FuncData} (o : Own K mg)
    (G_starts_on : Cal P w K mg base 1 "starts_on" ["picture", "begin", "end"] (sp_starts_on K))
    (G_lost_rows : Cal P w K mg base 3 "lost_rows" ["picture", "begin", "end"] (sp_lost_rows K))
    (G_meeting_rows : Cal P w K mg base 5 "meeting_rows" ["picture", "begin", "end"] (sp_meeting_rows K))
    (G_reduced_rows : Cal P w K mg base 3 "reduced_rows" ["prime", "wide", "rows"] (sp_reduced_rows K))
    (F : FunD K "raw_reach" "raw_reach" (defArgs s_raw_reach) (defBody s_raw_reach) (defScope s_raw_reach) [] [] f fd) : FnOk P w K mg base CX0 6 f fd ["picture", "begin", "end"] (sp_raw_reach K) :=
  F.ok (k := 5) sc_raw_reach (fun vs H Q E h => by obtain ⟨_, _, _, _, _, rfl, _⟩ := h; rfl) fun cdv A outer s H vs Q E hr h => ⟨_, PSs.nox (der_raw_reach o.t G_starts_on G_lost_rows G_meeting_rows G_reduced_rows hr), pure_raw_reach vs H Q E h⟩
theorem ok_count_of {P : Program} {w : World} {K : PySem.W.Frag} {mg : Str → Option Value} {base : Heap} {f : Addr} {fd : FuncData} (o : Own K mg)
    (F : FunD K "count_of" "count_of" (defArgs s_count_of) (defBody s_count_of) (defScope s_count_of) [] [] f fd) : FnOk P w K mg base CX0 1 f fd ["told", "begin", "end"] (sp_count_of K) :=
  F.ok (k := 0) sc_count_of (fun vs H Q E h => by obtain ⟨_, _, _, _, _, _, rfl, _⟩ := h; rfl) fun cdv A outer s H vs Q E hr h => ⟨_, PSs.nox (der_count_of o.t hr), pure_count_of vs H Q E h⟩
theorem ok_raw_bars {P : Program} {w : World} {K : PySem.W.Frag} {mg : Str → Option Value} {base : Heap} {f : Addr} {fd : FuncData} (o : Own K mg)
    (G_stretches : Cal P w K mg base 1 "stretches" ["many"] (sp_stretches K))
    (G_count_of : Cal P w K mg base 1 "count_of" ["told", "begin", "end"] (sp_count_of K))
    (F : FunD K "raw_bars" "raw_bars" (defArgs s_raw_bars) (defBody s_raw_bars) (defScope s_raw_bars) [] [] f fd) : FnOk P w K mg base CX0 2 f fd ["many", "told"] (sp_raw_bars K) :=
  F.ok (k := 1) sc_raw_bars (fun vs H Q E h => by obtain ⟨_, _, _, _, rfl, _⟩ := h; rfl) fun cdv A outer s H vs Q E hr h => ⟨_, PSs.nox (der_raw_bars o.t G_stretches G_count_of hr), pure_raw_bars vs H Q E h⟩
theorem ok_bars {P : Program} {w : World} {K : PySem.W.Frag} {mg : Str → Option Value} {base : Heap} {f : Addr} {fd : FuncData} (o : Own K mg)
    (G_check_line : Cal P w K mg base 2 "check_line" ["picture"] (sp_check_line K))
    (G_stretches : Cal P w K mg base 1 "stretches" ["many"] (sp_stretches K))
    (G_raw_reach : Cal P w K mg base 6 "raw_reach" ["picture", "begin", "end"] (sp_raw_reach K))
    (G_raw_bars : Cal P w K mg base 2 "raw_bars" ["many", "told"] (sp_raw_bars K))
    (F : FunD K "bars" "bars" (defArgs s_bars) (defBody s_bars) (defScope s_bars) [] [] f fd) : FnOk P w K mg base CX0 7 f fd ["picture"] (sp_bars K) :=
  F.ok (k := 6) sc_bars (fun vs H Q E h => by obtain ⟨_, _, _, rfl, _⟩ := h; rfl) fun cdv A outer s H vs Q E hr h => ⟨_, PSs.nox (der_bars o.t G_check_line G_stretches G_raw_reach G_raw_bars hr), pure_bars vs H Q E h⟩
theorem ok_law_are_just {P : Program} {w : World} {K : PySem.W.Frag} {mg : Str → Option Value} {base : Heap} {f : Addr} {fd : FuncData} (o : Own K mg)
    (F : FunD K "_law_are_just" "_law_are_just" (defArgs s_law_are_just) (defBody s_law_are_just) (defScope s_law_are_just) [] [] f fd) : FnOk P w K mg base CX0 1 f fd ["_law_told", "_law_due"] (sp_law_are_just K) :=
  F.ok (k := 0) sc_law_are_just (fun vs H Q E h => by obtain ⟨_, _, _, rfl, _⟩ := h; rfl) fun cdv A outer s H vs Q E hr h => ⟨_, PSs.nox (der_law_are_just o.t hr), pure_law_are_just vs H Q E h⟩
theorem ok_law_rows {P : Program} {w : World} {K : PySem.W.Frag} {mg : Str → Option Value} {base : Heap} {f : Addr} {fd : FuncData} (o : Own K mg)
    (G_law_part : Cal P w K mg base 1 "_law_part" ["_law_purse_here", "_law_many"] (sp_law_part K))
    (F : FunD K "_law_rows" "_law_rows" (defArgs s_law_rows) (defBody s_law_rows) (defScope s_law_rows) [] [] f fd) : FnOk P w K mg base CX0 2 f fd ["_law_purse_here", "_law_prime", "_law_high", "_law_wide"] (sp_law_rows K) :=
  F.ok (k := 1) sc_law_rows (fun vs H Q E h => by obtain ⟨_, _, _, _, _, rfl, _⟩ := h; rfl) fun cdv A outer s H vs Q E hr h => ⟨_, PSs.nox (der_law_rows o.t G_law_part hr), pure_law_rows vs H Q E h⟩
theorem ok_are_sizes {P : Program} {w : World} {K : PySem.W.Frag} {mg : Str → Option Value} {base : Heap} {f : Addr} {fd : FuncData} (o : Own K mg)
    (G_is_number : Cal P w K mg base 3 "is_number" ["thing", "most"] sp_is_number)
    (F : FunD K "are_sizes" "are_sizes" (defArgs s_are_sizes) (defBody s_are_sizes) (defScope s_are_sizes) [] [] f fd) : FnOk P w K mg base CX0 4 f fd ["web", "thing"] (sp_are_sizes K) :=
  F.ok (k := 3) sc_are_sizes (fun vs H Q E h => by obtain ⟨_, _, _, _, rfl, _⟩ := h; rfl) fun cdv A outer s H vs Q E hr h => ⟨_, PSs.nox (der_are_sizes o.t G_is_number hr), pure_are_sizes vs H Q E h⟩
theorem ok_Picture_init {P : Program} {w : World} {K : PySem.W.Frag} {mg : Str → Option Value} {base : Heap} {f : Addr} {fd : FuncData} (o : Own K mg)
    (G_is_prime : Cal P w K mg base 2 "is_prime" ["thing"] sp_is_prime)
    (G_are_sizes : Cal P w K mg base 4 "are_sizes" ["web", "thing"] (sp_are_sizes K))
    (G_is_fit_table : Cal P w K mg base 1 "is_fit_table" ["prime", "high", "wide", "thing"] (sp_is_fit_table K))
    (G_Picture_keep : Met P w K mg base 1 (ad K "Picture") "keep" ["self", "web", "prime", "sizes", "tables"] (sp_Pic_keep K (ad K "Picture")))
    (F : FunD K "__init__" "Picture.__init__" (defArgs s_Picture_init) (defBody s_Picture_init) (defScope s_Picture_init) [] [] f fd) : FnOk P w K mg base CX0 5 f fd ["self", "web", "prime", "sizes", "tables"] (sp_Picture_init K) :=
  F.ok (k := 4) sc_Picture_init (fun vs H Q E h => by obtain ⟨_, _, _, _, _, _, _, rfl, _⟩ := h; rfl) fun cdv A outer s H vs Q E hr h => ⟨_, PSs.nox (der_Picture_init o.t G_is_prime G_are_sizes G_is_fit_table G_Picture_keep hr), pure_Picture_init vs H Q E h⟩
theorem ok_law_picture {P : Program} {w : World} {K : PySem.W.Frag} {mg : Str → Option Value} {base : Heap} {f : Addr} {fd : FuncData} (o : Own K mg)
    (G_law_rows : Cal P w K mg base 2 "_law_rows" ["_law_purse_here", "_law_prime", "_law_high", "_law_wide"] (sp_law_rows K))
    (G_Table_init : Mak P w K mg base 5 "Table" ["self", "prime", "wide", "rows"] (ad K "Table") (sp_Table_init K))
    (G_Picture_init : Mak P w K mg base 5 "Picture" ["self", "web", "prime", "sizes", "tables"] (ad K "Picture") (sp_Picture_init K))
    (F : FunD K "_law_picture" "_law_picture" (defArgs s_law_picture) (defBody s_law_picture) (defScope s_law_picture) [] [] f fd) : FnOk P w K mg base CX0 7 f fd ["_law_purse_here", "_law_web", "_law_prime", "_law_sizes"] (sp_law_picture K) :=
  F.ok (k := 6) sc_law_picture (fun vs H Q E h => by obtain ⟨_, _, _, _, _, _, _, rfl, _⟩ := h; rfl) fun cdv A outer s H vs Q E hr h => ⟨_, PSs.nox (der_law_picture o.t G_law_rows G_Table_init G_Picture_init hr), pure_law_picture o.tt o.pp vs H Q E h⟩
theorem ok_law_less {P : Program} {w : World} {K : PySem.W.Frag} {mg : Str → Option Value} {base : Heap} {f : Addr} {fd : FuncData} (o : Own K mg)
    (F : FunD K "_law_less" "_law_less" (defArgs s_law_less) (defBody s_law_less) (defScope s_law_less) [] [] f fd) : FnOk P w K mg base CX0 1 f fd ["_law_prime", "_law_row", "_law_number", "_law_lead"] (sp_law_less K) :=
  F.ok (k := 0) sc_law_less (fun vs H Q E h => by obtain ⟨_, _, _, _, _, _, rfl, _⟩ := h; rfl) fun cdv A outer s H vs Q E hr h => ⟨_, PSs.nox (der_law_less o.t hr), pure_law_less vs H Q E h⟩
theorem ok_law_spanned {P : Program} {w : World} {K : PySem.W.Frag} {mg : Str → Option Value} {base : Heap} {f : Addr} {fd : FuncData} (o : Own K mg)
    (G_law_less : Cal P w K mg base 1 "_law_less" ["_law_prime", "_law_row", "_law_number", "_law_lead"] (sp_law_less K))
    (F : FunD K "_law_spanned" "_law_spanned" (defArgs s_law_spanned) (defBody s_law_spanned) (defScope s_law_spanned) [] [] f fd) : FnOk P w K mg base CX0 2 f fd ["_law_prime", "_law_rows_here"] (sp_law_spanned K) :=
  F.ok (k := 1) sc_law_spanned (fun vs H Q E h => by obtain ⟨_, _, _, _, _, rfl, _⟩ := h; rfl) fun cdv A outer s H vs Q E hr h => ⟨_, PSs.nox (der_law_spanned o.t G_law_less hr), pure_law_spanned vs H Q E h⟩
theorem ok_law_lost_columns {P : Program} {w : World} {K : PySem.W.Frag} {mg : Str → Option Value} {base : Heap} {f : Addr} {fd : FuncData} (o : Own K mg)
    (G_law_spanned : Cal P w K mg base 2 "_law_spanned" ["_law_prime", "_law_rows_here"] (sp_law_spanned K))
    (F : FunD K "_law_lost_columns" "_law_lost_columns" (defArgs s_law_lost_columns) (defBody s_law_lost_columns) (defScope s_law_lost_columns) [] [] f fd) : FnOk P w K mg base CX0 3 f fd ["_law_prime", "_law_rows_here", "_law_wide"] (sp_law_lost_columns K) :=
  F.ok (k := 2) sc_law_lost_columns (fun vs H Q E h => by obtain ⟨_, _, _, _, _, rfl, _⟩ := h; rfl) fun cdv A outer s H vs Q E hr h => ⟨_, PSs.nox (der_law_lost_columns o.t G_law_spanned hr), pure_law_lost_columns vs H Q E h⟩
theorem ok_law_reach {P : Program} {w : World} {K : PySem.W.Frag} {mg : Str → Option Value} {base : Heap} {f : Addr} {fd : FuncData} (o : Own K mg)
    (G_law_lost_columns : Cal P w K mg base 3 "_law_lost_columns" ["_law_prime", "_law_rows_here", "_law_wide"] (sp_law_lost_columns K))
    (G_law_spanned : Cal P w K mg base 2 "_law_spanned" ["_law_prime", "_law_rows_here"] (sp_law_spanned K))
    (F : FunD K "_law_reach" "_law_reach" (defArgs s_law_reach) (defBody s_law_reach) (defScope s_law_reach) [] [] f fd) : FnOk P w K mg base CX0 4 f fd ["_law_picture_here", "_law_begin", "_law_end"] (sp_law_reach K) :=
  F.ok (k := 3) sc_law_reach (fun vs H Q E h => by obtain ⟨_, _, _, _, _, rfl, _⟩ := h; rfl) fun cdv A outer s H vs Q E hr h => ⟨_, PSs.nox (der_law_reach o.t G_law_lost_columns G_law_spanned hr), pure_law_reach vs H Q E h⟩
theorem ok_law_bars {P : Program} {w : World} {K : PySem.W.Frag} {mg : Str → Option Value} {base : Heap} {f : Addr} {fd : FuncData} (o : Own K mg)
    (G_law_stretches : Cal P w K mg base 2 "_law_stretches" ["_law_many"] (sp_stretches K))
    (G_law_reach : Cal P w K mg base 4 "_law_reach" ["_law_picture_here", "_law_begin", "_law_end"] (sp_law_reach K))
    (F : FunD K "_law_bars" "_law_bars" (defArgs s_law_bars) (defBody s_law_bars) (defScope s_law_bars) [] [] f fd) : FnOk P w K mg base CX0 5 f fd ["_law_picture_here"] (sp_law_bars K) :=
  F.ok (k := 4) sc_law_bars (fun vs H Q E h => by obtain ⟨_, _, _, rfl, _⟩ := h; rfl) fun cdv A outer s H vs Q E hr h => ⟨_, PSs.nox (der_law_bars o.t G_law_stretches G_law_reach hr), pure_law_bars vs H Q E h⟩
theorem ok_law {P : Program} {w : World} {K : PySem.W.Frag} {mg : Str → Option Value} {base : Heap} {f : Addr} {fd : FuncData} (o : Own K mg)
    (G_law_purse : Cal P w K mg base 1 "_law_purse" ["_law_script"] (sp_law_purse K))
    (G_law_line : Cal P w K mg base 4 "_law_line" ["_law_purse_here", "_law_most"] (sp_law_line K))
    (G_law_one : Cal P w K mg base 2 "_law_one" ["_law_purse_here", "_law_some"] (sp_law_one K))
    (G_law_part : Cal P w K mg base 1 "_law_part" ["_law_purse_here", "_law_many"] (sp_law_part K))
    (G_law_stretches : Cal P w K mg base 2 "_law_stretches" ["_law_many"] (sp_stretches K))
    (G_bar_of : Cal P w K mg base 6 "bar_of" ["web", "prime", "begin", "end"] (sp_bar_of K))
    (G_beside : Cal P w K mg base 6 "beside" ["web", "prime", "pictures"] (sp_beside K))
    (G_law_rebased : Cal P w K mg base 8 "_law_rebased" ["_law_purse_here", "_law_picture_here"] (sp_law_rebased K))
    (G_bars : Cal P w K mg base 7 "bars" ["picture"] (sp_bars K))
    (G_law_are_just : Cal P w K mg base 1 "_law_are_just" ["_law_told", "_law_due"] (sp_law_are_just K))
    (G_law_picture : Cal P w K mg base 7 "_law_picture" ["_law_purse_here", "_law_web", "_law_prime", "_law_sizes"] (sp_law_picture K))
    (G_law_bars : Cal P w K mg base 5 "_law_bars" ["_law_picture_here"] (sp_law_bars K))
    (F : FunD K "law" "law" (defArgs s_law) (defBody s_law) (defScope s_law) [] [] f fd) : FnOk P w K mg base CX0 9 f fd ["_law_script"] (sp_law K) :=
  F.ok (k := 8) sc_law (fun vs H Q E h => by obtain ⟨_, _, rfl, _⟩ := h; rfl) fun cdv A outer s H vs Q E hr h => ⟨_, PSs.nox (der_law o.t G_law_purse G_law_line G_law_one G_law_part G_law_stretches G_bar_of G_beside G_law_rebased G_bars G_law_are_just G_law_picture G_law_bars hr), pure_law undo whole vs H Q E h⟩
open K33H
/-! the facts joined -/
theorem ins_ok {K : PySem.W.Frag} {x : Str} {fs : List Str} (c : Cls K (ad K x)) (na : ∀ f ∈ fs, NoAttr K (ad K x) f) (h : insB K x = true) : KIns K (ad K x) fs := by
  obtain ⟨h1, h2⟩ := He.ba h
  obtain ⟨h3, h4⟩ := He.ba h2
  obtain ⟨h5, h6⟩ := He.ba h4
  exact ⟨c, na, He.eqO_ok h1, He.eqO_ok h3, of_decide_eq_true h5, of_decide_eq_true h6⟩
theorem kit_ok {K : PySem.W.Frag} {x y : Str} (h : kitB K x y = true) : PySem.W.kitOne K (.ref (ad K x)) (.ref (ad K y)) = some true := of_decide_eq_true h
theorem own_all {K : PySem.W.Frag} {h : Heap} {mg : Str → Option Value} (X : K.In h) (G : h.Ns mainGlobals mg) (c : obX K = vaX) : Own K mg := by
  have ow : ownB K = true := congrArg (fun z : AlX => z.1) c
  have cd : He.SaysD fas fns K := congrArg (fun z : AlX => z.2) c
  have i_Table : KIns K (ad K "Table") nsTab := ins_ok (He.cls_ok (cd.fact 65 (f := .cls "Table") rfl)) (fun f hf => by
    simp only [nsTab, List.mem_cons, List.not_mem_nil, or_false] at hf
    rcases hf with rfl | rfl | rfl | rfl
    · exact He.noat_ok (cd.fact 75 (f := .noat "Table" "prime") rfl)
    · exact He.noat_ok (cd.fact 76 (f := .noat "Table" "wide") rfl)
    · exact He.noat_ok (cd.fact 77 (f := .noat "Table" "rows") rfl)
    · exact He.noat_ok (cd.fact 78 (f := .noat "Table" "high") rfl)) (ownB_at ow 0 rfl)
  have i_RawTable : KIns K (ad K "RawTable") nsTab := ins_ok (He.cls_ok (cd.fact 67 (f := .cls "RawTable") rfl)) (fun f hf => by
    simp only [nsTab, List.mem_cons, List.not_mem_nil, or_false] at hf
    rcases hf with rfl | rfl | rfl | rfl
    · exact He.noat_ok (cd.fact 79 (f := .noat "RawTable" "prime") rfl)
    · exact He.noat_ok (cd.fact 80 (f := .noat "RawTable" "wide") rfl)
    · exact He.noat_ok (cd.fact 81 (f := .noat "RawTable" "rows") rfl)
    · exact He.noat_ok (cd.fact 82 (f := .noat "RawTable" "high") rfl)) (ownB_at ow 1 rfl)
  have i_RawWeb : KIns K (ad K "RawWeb") nsWeb := ins_ok (He.cls_ok (cd.fact 69 (f := .cls "RawWeb") rfl)) (fun f hf => by
    simp only [nsWeb, List.mem_cons, List.not_mem_nil, or_false] at hf
    rcases hf with rfl | rfl
    · exact He.noat_ok (cd.fact 83 (f := .noat "RawWeb" "many") rfl)
    · exact He.noat_ok (cd.fact 84 (f := .noat "RawWeb" "arrows") rfl)) (ownB_at ow 2 rfl)
  have i_Picture : KIns K (ad K "Picture") nsPic := ins_ok (He.cls_ok (cd.fact 71 (f := .cls "Picture") rfl)) (fun f hf => by
    simp only [nsPic, List.mem_cons, List.not_mem_nil, or_false] at hf
    rcases hf with rfl | rfl | rfl | rfl
    · exact He.noat_ok (cd.fact 85 (f := .noat "Picture" "web") rfl)
    · exact He.noat_ok (cd.fact 86 (f := .noat "Picture" "prime") rfl)
    · exact He.noat_ok (cd.fact 87 (f := .noat "Picture" "sizes") rfl)
    · exact He.noat_ok (cd.fact 88 (f := .noat "Picture" "tables") rfl)) (ownB_at ow 3 rfl)
  have i_RawPicture : KIns K (ad K "RawPicture") nsPic := ins_ok (He.cls_ok (cd.fact 73 (f := .cls "RawPicture") rfl)) (fun f hf => by
    simp only [nsPic, List.mem_cons, List.not_mem_nil, or_false] at hf
    rcases hf with rfl | rfl | rfl | rfl
    · exact He.noat_ok (cd.fact 89 (f := .noat "RawPicture" "web") rfl)
    · exact He.noat_ok (cd.fact 90 (f := .noat "RawPicture" "prime") rfl)
    · exact He.noat_ok (cd.fact 91 (f := .noat "RawPicture" "sizes") rfl)
    · exact He.noat_ok (cd.fact 92 (f := .noat "RawPicture" "tables") rfl)) (ownB_at ow 4 rfl)
  exact ⟨⟨He.free_ok X G (cd.fact 98 (f := .free "abs") rfl), He.free_ok X G (cd.fact 99 (f := .free "all") rfl), He.free_ok X G (cd.fact 100 (f := .free "any") rfl), He.free_ok X G (cd.fact 101 (f := .free "bool") rfl), He.free_ok X G (cd.fact 102 (f := .free "dict") rfl), He.free_ok X G (cd.fact 103 (f := .free "enumerate") rfl), He.free_ok X G (cd.fact 104 (f := .free "int") rfl), He.free_ok X G (cd.fact 105 (f := .free "isinstance") rfl), He.free_ok X G (cd.fact 106 (f := .free "len") rfl), He.free_ok X G (cd.fact 107 (f := .free "list") rfl), He.free_ok X G (cd.fact 108 (f := .free "range") rfl), He.free_ok X G (cd.fact 109 (f := .free "sorted") rfl), He.free_ok X G (cd.fact 110 (f := .free "str") rfl), He.free_ok X G (cd.fact 111 (f := .free "sum") rfl), He.free_ok X G (cd.fact 112 (f := .free "tuple") rfl), He.free_ok X G (cd.fact 113 (f := .free "zip") rfl), He.int_ok X G (cd.fact 114 (f := .int "MOST" 12) rfl), He.int_ok X G (cd.fact 115 (f := .int "MOST_BESIDE" 12) rfl), He.int_ok X G (cd.fact 116 (f := .int "MOST_PLACES" 8) rfl), He.int_ok X G (cd.fact 117 (f := .int "MOST_SIZE" 6) rfl), He.str_ok X G (cd.fact 118 (f := .str "BACKWARD" "<") rfl), He.str_ok X G (cd.fact 119 (f := .str "FORWARD" ">") rfl), He.glo_ok X G (cd.fact 61 (f := .glo "Picture") rfl), He.glo_ok X G (cd.fact 58 (f := .glo "Table") rfl), He.glo_ok X G (cd.fact 63 (f := .glo "Web") rfl), He.glo_ok X G (cd.fact 64 (f := .glo "PRIMES") rfl)⟩, ⟨i_RawTable, kit_ok (ownB_at ow 6 rfl)⟩, ⟨i_Table, kit_ok (ownB_at ow 5 rfl)⟩, ⟨i_RawPicture, kit_ok (ownB_at ow 9 rfl)⟩, ⟨i_Picture, kit_ok (ownB_at ow 8 rfl)⟩, ⟨i_RawWeb, kit_ok (ownB_at ow 7 rfl)⟩, fun H => He.tupB_ok (vs := prD) (ownB_at ow 10 rfl) H⟩
theorem facts {P : Program} {w : World} {K : PySem.W.Frag} {h : Heap} {mg : Str → Option Value} {f : Addr} (X : K.In h) (G : h.Ns mainGlobals mg) (hfa : mg ("law" : Str) = some (.ref f)) (c : obX K = vaX) :
    ∃ fd : FuncData, (∀ (st : Shared) (u : Value), BindsTo st fd ⟨[u], []⟩ [("_law_script", u)]) ∧ ∀ base : Heap, K.In base → base.Ns mainGlobals mg → FnOk P w K mg base CX0 9 f fd ["_law_script"] (sp_law K) := by
  have o : Own K mg := own_all X G c
  have cd : He.SaysD fas fns K := congrArg (fun z : AlX => z.2) c
  obtain ⟨fd_law_purse, F_law_purse⟩ := cd.def_ 0 (d := d_law_purse) rfl
  obtain ⟨fd_law_part, F_law_part⟩ := cd.def_ 1 (d := d_law_part) rfl
  obtain ⟨fd_law_one, F_law_one⟩ := cd.def_ 2 (d := d_law_one) rfl
  obtain ⟨fd_RawWeb_init, F_RawWeb_init⟩ := cd.def_ 3 (d := d_RawWeb_init) rfl
  obtain ⟨fd_line, F_line⟩ := cd.def_ 4 (d := d_line) rfl
  obtain ⟨fd_law_line, F_law_line⟩ := cd.def_ 5 (d := d_law_line) rfl
  obtain ⟨fd_law_pairs, F_law_pairs⟩ := cd.def_ 6 (d := d_law_pairs) rfl
  obtain ⟨fd_law_stretches, F_law_stretches⟩ := cd.def_ 7 (d := d_law_stretches) rfl
  obtain ⟨fd_is_line, F_is_line⟩ := cd.def_ 8 (d := d_is_line) rfl
  obtain ⟨fd_is_integer, F_is_integer⟩ := cd.def_ 9 (d := d_is_integer) rfl
  obtain ⟨fd_is_prime, F_is_prime⟩ := cd.def_ 10 (d := d_is_prime) rfl
  obtain ⟨fd_check_prime, F_check_prime⟩ := cd.def_ 11 (d := d_check_prime) rfl
  obtain ⟨fd_is_within, F_is_within⟩ := cd.def_ 12 (d := d_is_within) rfl
  obtain ⟨fd_is_number, F_is_number⟩ := cd.def_ 13 (d := d_is_number) rfl
  obtain ⟨fd_check_stretch, F_check_stretch⟩ := cd.def_ 14 (d := d_check_stretch) rfl
  obtain ⟨fd_Table_keep, F_Table_keep⟩ := cd.def_ 15 (d := d_Table_keep) rfl
  obtain ⟨fd_Table_keep_raw, F_Table_keep_raw⟩ := cd.def_ 16 (d := d_Table_keep_raw) rfl
  obtain ⟨fd_RawTable_init, F_RawTable_init⟩ := cd.def_ 17 (d := d_RawTable_init) rfl
  obtain ⟨fd_raw_plain, F_raw_plain⟩ := cd.def_ 18 (d := d_raw_plain) rfl
  obtain ⟨fd_raw_nought, F_raw_nought⟩ := cd.def_ 19 (d := d_raw_nought) rfl
  obtain ⟨fd_Picture_keep, F_Picture_keep⟩ := cd.def_ 20 (d := d_Picture_keep) rfl
  obtain ⟨fd_Picture_keep_raw, F_Picture_keep_raw⟩ := cd.def_ 21 (d := d_Picture_keep_raw) rfl
  obtain ⟨fd_RawPicture_init, F_RawPicture_init⟩ := cd.def_ 22 (d := d_RawPicture_init) rfl
  obtain ⟨fd_raw_bar, F_raw_bar⟩ := cd.def_ 23 (d := d_raw_bar) rfl
  obtain ⟨fd_bar_of, F_bar_of⟩ := cd.def_ 24 (d := d_bar_of) rfl
  obtain ⟨fd_Web_eq, F_Web_eq⟩ := cd.def_ 25 (d := d_Web_eq) rfl
  obtain ⟨fd_is_picture_of, F_is_picture_of⟩ := cd.def_ 26 (d := d_is_picture_of) rfl
  obtain ⟨fd_raw_corner, F_raw_corner⟩ := cd.def_ 27 (d := d_raw_corner) rfl
  obtain ⟨fd_raw_beside, F_raw_beside⟩ := cd.def_ 28 (d := d_raw_beside) rfl
  obtain ⟨fd_beside, F_beside⟩ := cd.def_ 29 (d := d_beside) rfl
  obtain ⟨fd_is_column, F_is_column⟩ := cd.def_ 30 (d := d_is_column) rfl
  obtain ⟨fd_Table_init, F_Table_init⟩ := cd.def_ 31 (d := d_Table_init) rfl
  obtain ⟨fd_law_base, F_law_base⟩ := cd.def_ 32 (d := d_law_base) rfl
  obtain ⟨fd_is_fit_table, F_is_fit_table⟩ := cd.def_ 33 (d := d_is_fit_table) rfl
  obtain ⟨fd_inverse_of, F_inverse_of⟩ := cd.def_ 34 (d := d_inverse_of) rfl
  obtain ⟨fd_less, F_less⟩ := cd.def_ 35 (d := d_less) rfl
  obtain ⟨fd_cleared, F_cleared⟩ := cd.def_ 36 (d := d_cleared) rfl
  obtain ⟨fd_reduced_rows, F_reduced_rows⟩ := cd.def_ 37 (d := d_reduced_rows) rfl
  obtain ⟨fd_undone, F_undone⟩ := cd.def_ 38 (d := d_undone) rfl
  obtain ⟨fd_columns_of, F_columns_of⟩ := cd.def_ 39 (d := d_columns_of) rfl
  obtain ⟨fd_led_on, F_led_on⟩ := cd.def_ 40 (d := d_led_on) rfl
  obtain ⟨fd_columns_table, F_columns_table⟩ := cd.def_ 41 (d := d_columns_table) rfl
  obtain ⟨fd_raw_times, F_raw_times⟩ := cd.def_ 42 (d := d_raw_times) rfl
  obtain ⟨fd_raw_based, F_raw_based⟩ := cd.def_ 43 (d := d_raw_based) rfl
  obtain ⟨fd_based, F_based⟩ := cd.def_ 44 (d := d_based) rfl
  obtain ⟨fd_law_rebased, F_law_rebased⟩ := cd.def_ 45 (d := d_law_rebased) rfl
  obtain ⟨fd_check_line, F_check_line⟩ := cd.def_ 46 (d := d_check_line) rfl
  obtain ⟨fd_stretches, F_stretches⟩ := cd.def_ 47 (d := d_stretches) rfl
  obtain ⟨fd_starts_on, F_starts_on⟩ := cd.def_ 48 (d := d_starts_on) rfl
  obtain ⟨fd_unit_led, F_unit_led⟩ := cd.def_ 49 (d := d_unit_led) rfl
  obtain ⟨fd_lost_rows, F_lost_rows⟩ := cd.def_ 50 (d := d_lost_rows) rfl
  obtain ⟨fd_kernel, F_kernel⟩ := cd.def_ 51 (d := d_kernel) rfl
  obtain ⟨fd_meeting_rows, F_meeting_rows⟩ := cd.def_ 52 (d := d_meeting_rows) rfl
  obtain ⟨fd_raw_reach, F_raw_reach⟩ := cd.def_ 53 (d := d_raw_reach) rfl
  obtain ⟨fd_count_of, F_count_of⟩ := cd.def_ 54 (d := d_count_of) rfl
  obtain ⟨fd_raw_bars, F_raw_bars⟩ := cd.def_ 55 (d := d_raw_bars) rfl
  obtain ⟨fd_bars, F_bars⟩ := cd.def_ 56 (d := d_bars) rfl
  obtain ⟨fd_law_are_just, F_law_are_just⟩ := cd.def_ 57 (d := d_law_are_just) rfl
  obtain ⟨fd_law_rows, F_law_rows⟩ := cd.def_ 58 (d := d_law_rows) rfl
  obtain ⟨fd_are_sizes, F_are_sizes⟩ := cd.def_ 59 (d := d_are_sizes) rfl
  obtain ⟨fd_Picture_init, F_Picture_init⟩ := cd.def_ 60 (d := d_Picture_init) rfl
  obtain ⟨fd_law_picture, F_law_picture⟩ := cd.def_ 61 (d := d_law_picture) rfl
  obtain ⟨fd_law_less, F_law_less⟩ := cd.def_ 62 (d := d_law_less) rfl
  obtain ⟨fd_law_spanned, F_law_spanned⟩ := cd.def_ 63 (d := d_law_spanned) rfl
  obtain ⟨fd_law_lost_columns, F_law_lost_columns⟩ := cd.def_ 64 (d := d_law_lost_columns) rfl
  obtain ⟨fd_law_reach, F_law_reach⟩ := cd.def_ 65 (d := d_law_reach) rfl
  obtain ⟨fd_law_bars, F_law_bars⟩ := cd.def_ 66 (d := d_law_bars) rfl
  obtain ⟨fd_law, F_law⟩ := cd.def_ 67 (d := d_law) rfl
  have g_law_purse := He.glo_ok X G (cd.fact 0 (f := .glo "_law_purse") rfl)
  have g_law_part := He.glo_ok X G (cd.fact 1 (f := .glo "_law_part") rfl)
  have g_law_one := He.glo_ok X G (cd.fact 2 (f := .glo "_law_one") rfl)
  have g_line := He.glo_ok X G (cd.fact 3 (f := .glo "line") rfl)
  have g_law_line := He.glo_ok X G (cd.fact 4 (f := .glo "_law_line") rfl)
  have g_law_pairs := He.glo_ok X G (cd.fact 5 (f := .glo "_law_pairs") rfl)
  have g_law_stretches := He.glo_ok X G (cd.fact 6 (f := .glo "_law_stretches") rfl)
  have g_is_line := He.glo_ok X G (cd.fact 7 (f := .glo "is_line") rfl)
  have g_is_integer := He.glo_ok X G (cd.fact 8 (f := .glo "is_integer") rfl)
  have g_is_prime := He.glo_ok X G (cd.fact 9 (f := .glo "is_prime") rfl)
  have g_check_prime := He.glo_ok X G (cd.fact 10 (f := .glo "check_prime") rfl)
  have g_is_within := He.glo_ok X G (cd.fact 11 (f := .glo "is_within") rfl)
  have g_is_number := He.glo_ok X G (cd.fact 12 (f := .glo "is_number") rfl)
  have g_check_stretch := He.glo_ok X G (cd.fact 13 (f := .glo "check_stretch") rfl)
  have g_raw_plain := He.glo_ok X G (cd.fact 14 (f := .glo "raw_plain") rfl)
  have g_raw_nought := He.glo_ok X G (cd.fact 15 (f := .glo "raw_nought") rfl)
  have g_raw_bar := He.glo_ok X G (cd.fact 16 (f := .glo "raw_bar") rfl)
  have g_bar_of := He.glo_ok X G (cd.fact 17 (f := .glo "bar_of") rfl)
  have g_is_picture_of := He.glo_ok X G (cd.fact 18 (f := .glo "is_picture_of") rfl)
  have g_raw_corner := He.glo_ok X G (cd.fact 19 (f := .glo "raw_corner") rfl)
  have g_raw_beside := He.glo_ok X G (cd.fact 20 (f := .glo "raw_beside") rfl)
  have g_beside := He.glo_ok X G (cd.fact 21 (f := .glo "beside") rfl)
  have g_is_column := He.glo_ok X G (cd.fact 22 (f := .glo "is_column") rfl)
  have g_law_base := He.glo_ok X G (cd.fact 23 (f := .glo "_law_base") rfl)
  have g_is_fit_table := He.glo_ok X G (cd.fact 24 (f := .glo "is_fit_table") rfl)
  have g_inverse_of := He.glo_ok X G (cd.fact 25 (f := .glo "inverse_of") rfl)
  have g_less := He.glo_ok X G (cd.fact 26 (f := .glo "less") rfl)
  have g_cleared := He.glo_ok X G (cd.fact 27 (f := .glo "cleared") rfl)
  have g_reduced_rows := He.glo_ok X G (cd.fact 28 (f := .glo "reduced_rows") rfl)
  have g_undone := He.glo_ok X G (cd.fact 29 (f := .glo "undone") rfl)
  have g_columns_of := He.glo_ok X G (cd.fact 30 (f := .glo "columns_of") rfl)
  have g_led_on := He.glo_ok X G (cd.fact 31 (f := .glo "led_on") rfl)
  have g_columns_table := He.glo_ok X G (cd.fact 32 (f := .glo "columns_table") rfl)
  have g_raw_times := He.glo_ok X G (cd.fact 33 (f := .glo "raw_times") rfl)
  have g_raw_based := He.glo_ok X G (cd.fact 34 (f := .glo "raw_based") rfl)
  have g_based := He.glo_ok X G (cd.fact 35 (f := .glo "based") rfl)
  have g_law_rebased := He.glo_ok X G (cd.fact 36 (f := .glo "_law_rebased") rfl)
  have g_check_line := He.glo_ok X G (cd.fact 37 (f := .glo "check_line") rfl)
  have g_stretches := He.glo_ok X G (cd.fact 38 (f := .glo "stretches") rfl)
  have g_starts_on := He.glo_ok X G (cd.fact 39 (f := .glo "starts_on") rfl)
  have g_unit_led := He.glo_ok X G (cd.fact 40 (f := .glo "unit_led") rfl)
  have g_lost_rows := He.glo_ok X G (cd.fact 41 (f := .glo "lost_rows") rfl)
  have g_kernel := He.glo_ok X G (cd.fact 42 (f := .glo "kernel") rfl)
  have g_meeting_rows := He.glo_ok X G (cd.fact 43 (f := .glo "meeting_rows") rfl)
  have g_raw_reach := He.glo_ok X G (cd.fact 44 (f := .glo "raw_reach") rfl)
  have g_count_of := He.glo_ok X G (cd.fact 45 (f := .glo "count_of") rfl)
  have g_raw_bars := He.glo_ok X G (cd.fact 46 (f := .glo "raw_bars") rfl)
  have g_bars := He.glo_ok X G (cd.fact 47 (f := .glo "bars") rfl)
  have g_law_are_just := He.glo_ok X G (cd.fact 48 (f := .glo "_law_are_just") rfl)
  have g_law_rows := He.glo_ok X G (cd.fact 49 (f := .glo "_law_rows") rfl)
  have g_are_sizes := He.glo_ok X G (cd.fact 50 (f := .glo "are_sizes") rfl)
  have g_law_picture := He.glo_ok X G (cd.fact 51 (f := .glo "_law_picture") rfl)
  have g_law_less := He.glo_ok X G (cd.fact 52 (f := .glo "_law_less") rfl)
  have g_law_spanned := He.glo_ok X G (cd.fact 53 (f := .glo "_law_spanned") rfl)
  have g_law_lost_columns := He.glo_ok X G (cd.fact 54 (f := .glo "_law_lost_columns") rfl)
  have g_law_reach := He.glo_ok X G (cd.fact 55 (f := .glo "_law_reach") rfl)
  have g_law_bars := He.glo_ok X G (cd.fact 56 (f := .glo "_law_bars") rfl)
  have g_law := He.glo_ok X G (cd.fact 57 (f := .glo "law") rfl)
  cases hfa.symm.trans g_law
  refine ⟨fd_law, fun st u => FunD.bindsA (ps := ["_law_script"]) F_law (fun _ _ _ _ _ _ us hl => match us, hl with | [_], _ => rfl) st [u] rfl, fun base _ _ => ?_⟩
  have G_law_purse : Cal P w K mg base 1 "_law_purse" ["_law_script"] (sp_law_purse K) := ⟨_, fd_law_purse, ok_law_purse o F_law_purse, g_law_purse, F_law_purse.kp, (F_law_purse.bindsN fun _ _ _ _ _ _ us hl => match us, hl with | [_], _ => rfl)⟩
  have G_law_part : Cal P w K mg base 1 "_law_part" ["_law_purse_here", "_law_many"] (sp_law_part K) := ⟨_, fd_law_part, ok_law_part o F_law_part, g_law_part, F_law_part.kp, (F_law_part.bindsN fun _ _ _ _ _ _ us hl => match us, hl with | [_, _], _ => rfl)⟩
  have G_law_one : Cal P w K mg base 2 "_law_one" ["_law_purse_here", "_law_some"] (sp_law_one K) := ⟨_, fd_law_one, ok_law_one o G_law_part F_law_one, g_law_one, F_law_one.kp, (F_law_one.bindsN fun _ _ _ _ _ _ us hl => match us, hl with | [_, _], _ => rfl)⟩
  have G_RawWeb_init : Mak P w K mg base 1 "RawWeb" ["self", "many", "arrows"] (ad K "RawWeb") (sp_RawWeb_init K) := ⟨_, fd_RawWeb_init, ok_RawWeb_init o F_RawWeb_init, He.glo_ok X G (cd.fact 60 (f := .glo "RawWeb") rfl), He.mkr_ok (cd.fact 70 (f := .mkr "RawWeb") rfl), (F_RawWeb_init.bindsN fun _ _ _ _ _ _ us hl => match us, hl with | [_, _, _], _ => rfl)⟩
  have G_line : Cal P w K mg base 3 "line" ["word"] (sp_line K) := ⟨_, fd_line, ok_line o G_RawWeb_init F_line, g_line, F_line.kp, (F_line.bindsN fun _ _ _ _ _ _ us hl => match us, hl with | [_], _ => rfl)⟩
  have G_law_line : Cal P w K mg base 4 "_law_line" ["_law_purse_here", "_law_most"] (sp_law_line K) := ⟨_, fd_law_line, ok_law_line o G_law_part G_law_one G_line F_law_line, g_law_line, F_law_line.kp, (F_law_line.bindsN fun _ _ _ _ _ _ us hl => match us, hl with | [_, _], _ => rfl)⟩
  have G_law_pairs : Cal P w K mg base 1 "_law_pairs" ["_law_many"] (sp_law_pairs K) := ⟨_, fd_law_pairs, ok_law_pairs o F_law_pairs, g_law_pairs, F_law_pairs.kp, (F_law_pairs.bindsN fun _ _ _ _ _ _ us hl => match us, hl with | [_], _ => rfl)⟩
  have G_law_stretches : Cal P w K mg base 2 "_law_stretches" ["_law_many"] (sp_stretches K) := ⟨_, fd_law_stretches, ok_law_stretches o G_law_pairs F_law_stretches, g_law_stretches, F_law_stretches.kp, (F_law_stretches.bindsN fun _ _ _ _ _ _ us hl => match us, hl with | [_], _ => rfl)⟩
  have G_is_line : Cal P w K mg base 1 "is_line" ["web"] (sp_is_line K) := ⟨_, fd_is_line, ok_is_line o F_is_line, g_is_line, F_is_line.kp, (F_is_line.bindsN fun _ _ _ _ _ _ us hl => match us, hl with | [_], _ => rfl)⟩
  have G_is_integer : Cal P w K mg base 1 "is_integer" ["thing"] sp_is_integer := ⟨_, fd_is_integer, ok_is_integer o F_is_integer, g_is_integer, F_is_integer.kp, (F_is_integer.bindsN fun _ _ _ _ _ _ us hl => match us, hl with | [_], _ => rfl)⟩
  have G_is_prime : Cal P w K mg base 2 "is_prime" ["thing"] sp_is_prime := ⟨_, fd_is_prime, ok_is_prime o G_is_integer F_is_prime, g_is_prime, F_is_prime.kp, (F_is_prime.bindsN fun _ _ _ _ _ _ us hl => match us, hl with | [_], _ => rfl)⟩
  have G_check_prime : Cal P w K mg base 3 "check_prime" ["thing"] sp_check_prime := ⟨_, fd_check_prime, ok_check_prime o G_is_prime F_check_prime, g_check_prime, F_check_prime.kp, (F_check_prime.bindsN fun _ _ _ _ _ _ us hl => match us, hl with | [_], _ => rfl)⟩
  have G_is_within : Cal P w K mg base 2 "is_within" ["thing", "least", "most"] sp_is_within := ⟨_, fd_is_within, ok_is_within o G_is_integer F_is_within, g_is_within, F_is_within.kp, (F_is_within.bindsN fun _ _ _ _ _ _ us hl => match us, hl with | [_, _, _], _ => rfl)⟩
  have G_is_number : Cal P w K mg base 3 "is_number" ["thing", "most"] sp_is_number := ⟨_, fd_is_number, ok_is_number o G_is_within F_is_number, g_is_number, F_is_number.kp, (F_is_number.bindsN fun _ _ _ _ _ _ us hl => match us, hl with | [_, _], _ => rfl)⟩
  have G_check_stretch : Cal P w K mg base 4 "check_stretch" ["web", "begin", "end"] (sp_check_stretch K) := ⟨_, fd_check_stretch, ok_check_stretch o G_is_number F_check_stretch, g_check_stretch, F_check_stretch.kp, (F_check_stretch.bindsN fun _ _ _ _ _ _ us hl => match us, hl with | [_, _, _], _ => rfl)⟩
  have G_Table_keep : Met P w K mg base 1 (ad K "Table") "keep" ["self", "prime", "wide", "rows"] (sp_Tab_keep K (ad K "Table")) := ⟨_, fd_Table_keep, ok_Table_keep o F_Table_keep, He.cls_ok (cd.fact 65 (f := .cls "Table") rfl), He.meth_ok (cd.fact 93 (f := .meth "Table" "keep") rfl), (F_Table_keep.bindsN fun _ _ _ _ _ _ us hl => match us, hl with | [_, _, _, _], _ => rfl)⟩
  have G_RawTable_keep : Met P w K mg base 1 (ad K "RawTable") "keep" ["self", "prime", "wide", "rows"] (sp_Tab_keep K (ad K "RawTable")) := ⟨_, fd_Table_keep_raw, ok_Table_keep o F_Table_keep_raw, He.cls_ok (cd.fact 67 (f := .cls "RawTable") rfl), He.meth_ok (cd.fact 94 (f := .meth "RawTable" "keep") rfl), (F_Table_keep_raw.bindsN fun _ _ _ _ _ _ us hl => match us, hl with | [_, _, _, _], _ => rfl)⟩
  have G_RawTable_init : Mak P w K mg base 2 "RawTable" ["self", "prime", "wide", "rows"] (ad K "RawTable") (sp_RawTable_init K) := ⟨_, fd_RawTable_init, ok_RawTable_init o G_RawTable_keep F_RawTable_init, He.glo_ok X G (cd.fact 59 (f := .glo "RawTable") rfl), He.mkr_ok (cd.fact 68 (f := .mkr "RawTable") rfl), (F_RawTable_init.bindsN fun _ _ _ _ _ _ us hl => match us, hl with | [_, _, _, _], _ => rfl)⟩
  have G_raw_plain : Cal P w K mg base 4 "raw_plain" ["prime", "size"] (sp_raw_plain K) := ⟨_, fd_raw_plain, ok_raw_plain o G_RawTable_init F_raw_plain, g_raw_plain, F_raw_plain.kp, (F_raw_plain.bindsN fun _ _ _ _ _ _ us hl => match us, hl with | [_, _], _ => rfl)⟩
  have G_raw_nought : Cal P w K mg base 4 "raw_nought" ["prime", "high", "wide"] (sp_raw_nought K) := ⟨_, fd_raw_nought, ok_raw_nought o G_RawTable_init F_raw_nought, g_raw_nought, F_raw_nought.kp, (F_raw_nought.bindsN fun _ _ _ _ _ _ us hl => match us, hl with | [_, _, _], _ => rfl)⟩
  have G_Picture_keep : Met P w K mg base 1 (ad K "Picture") "keep" ["self", "web", "prime", "sizes", "tables"] (sp_Pic_keep K (ad K "Picture")) := ⟨_, fd_Picture_keep, ok_Picture_keep o o.pp F_Picture_keep, He.cls_ok (cd.fact 71 (f := .cls "Picture") rfl), He.meth_ok (cd.fact 95 (f := .meth "Picture" "keep") rfl), (F_Picture_keep.bindsN fun _ _ _ _ _ _ us hl => match us, hl with | [_, _, _, _, _], _ => rfl)⟩
  have G_RawPicture_keep : Met P w K mg base 1 (ad K "RawPicture") "keep" ["self", "web", "prime", "sizes", "tables"] (sp_Pic_keep K (ad K "RawPicture")) := ⟨_, fd_Picture_keep_raw, ok_Picture_keep o o.pr F_Picture_keep_raw, He.cls_ok (cd.fact 73 (f := .cls "RawPicture") rfl), He.meth_ok (cd.fact 96 (f := .meth "RawPicture" "keep") rfl), (F_Picture_keep_raw.bindsN fun _ _ _ _ _ _ us hl => match us, hl with | [_, _, _, _, _], _ => rfl)⟩
  have G_RawPicture_init : Mak P w K mg base 2 "RawPicture" ["self", "web", "prime", "sizes", "tables"] (ad K "RawPicture") (sp_RawPicture_init K) := ⟨_, fd_RawPicture_init, ok_RawPicture_init o G_RawPicture_keep F_RawPicture_init, He.glo_ok X G (cd.fact 62 (f := .glo "RawPicture") rfl), He.mkr_ok (cd.fact 74 (f := .mkr "RawPicture") rfl), (F_RawPicture_init.bindsN fun _ _ _ _ _ _ us hl => match us, hl with | [_, _, _, _, _], _ => rfl)⟩
  have G_raw_bar : Cal P w K mg base 5 "raw_bar" ["web", "prime", "begin", "end"] (sp_raw_bar K) := ⟨_, fd_raw_bar, ok_raw_bar o G_raw_plain G_raw_nought G_RawPicture_init F_raw_bar, g_raw_bar, F_raw_bar.kp, (F_raw_bar.bindsN fun _ _ _ _ _ _ us hl => match us, hl with | [_, _, _, _], _ => rfl)⟩
  have G_bar_of : Cal P w K mg base 6 "bar_of" ["web", "prime", "begin", "end"] (sp_bar_of K) := ⟨_, fd_bar_of, ok_bar_of o G_is_line G_check_prime G_check_stretch G_raw_bar F_bar_of, g_bar_of, F_bar_of.kp, (F_bar_of.bindsN fun _ _ _ _ _ _ us hl => match us, hl with | [_, _, _, _], _ => rfl)⟩
  have ok_Web_eq_ : FnOk P w K mg base CX0 2 _ fd_Web_eq ["self", "other"] (spEq (sameWeb K)) := ok_Web_eq o F_Web_eq
  have G_is_picture_of : Cal P w K mg base 3 "is_picture_of" ["web", "prime", "thing"] (sp_is_picture_of K) := ⟨_, fd_is_picture_of, ok_is_picture_of o ok_Web_eq_ (He.meth_ok (cd.fact 97 (f := .meth "RawWeb" "__eq__") rfl)).1 (He.meth_ok (cd.fact 97 (f := .meth "RawWeb" "__eq__") rfl)).2 (F_Web_eq.bindsN fun _ _ _ _ _ _ us hl => match us, hl with | [_, _], _ => rfl) F_is_picture_of, g_is_picture_of, F_is_picture_of.kp, (F_is_picture_of.bindsN fun _ _ _ _ _ _ us hl => match us, hl with | [_, _, _], _ => rfl)⟩
  have G_raw_corner : Cal P w K mg base 4 "raw_corner" ["one", "other"] (sp_raw_corner K) := ⟨_, fd_raw_corner, ok_raw_corner o G_RawTable_init F_raw_corner, g_raw_corner, F_raw_corner.kp, (F_raw_corner.bindsN fun _ _ _ _ _ _ us hl => match us, hl with | [_, _], _ => rfl)⟩
  have G_raw_beside : Cal P w K mg base 5 "raw_beside" ["web", "prime", "pictures"] (sp_raw_beside K) := ⟨_, fd_raw_beside, ok_raw_beside o G_raw_nought G_raw_corner G_RawPicture_init F_raw_beside, g_raw_beside, F_raw_beside.kp, (F_raw_beside.bindsN fun _ _ _ _ _ _ us hl => match us, hl with | [_, _, _], _ => rfl)⟩
  have G_beside : Cal P w K mg base 6 "beside" ["web", "prime", "pictures"] (sp_beside K) := ⟨_, fd_beside, ok_beside o G_check_prime G_is_picture_of G_raw_beside F_beside, g_beside, F_beside.kp, (F_beside.bindsN fun _ _ _ _ _ _ us hl => match us, hl with | [_, _, _], _ => rfl)⟩
  have G_is_column : Cal P w K mg base 4 "is_column" ["prime", "size", "thing"] (sp_is_column K) := ⟨_, fd_is_column, ok_is_column o G_is_number F_is_column, g_is_column, F_is_column.kp, (F_is_column.bindsN fun _ _ _ _ _ _ us hl => match us, hl with | [_, _, _], _ => rfl)⟩
  have G_Table_init : Mak P w K mg base 5 "Table" ["self", "prime", "wide", "rows"] (ad K "Table") (sp_Table_init K) := ⟨_, fd_Table_init, ok_Table_init o G_is_prime G_is_number G_is_column G_Table_keep F_Table_init, He.glo_ok X G (cd.fact 58 (f := .glo "Table") rfl), He.mkr_ok (cd.fact 66 (f := .mkr "Table") rfl), (F_Table_init.bindsN fun _ _ _ _ _ _ us hl => match us, hl with | [_, _, _, _], _ => rfl)⟩
  have G_law_base : Cal P w K mg base 7 "_law_base" ["_law_purse_here", "_law_prime", "_law_size"] (sp_law_base K) := ⟨_, fd_law_base, ok_law_base o G_law_part G_Table_init F_law_base, g_law_base, F_law_base.kp, (F_law_base.bindsN fun _ _ _ _ _ _ us hl => match us, hl with | [_, _, _], _ => rfl)⟩
  have G_is_fit_table : Cal P w K mg base 1 "is_fit_table" ["prime", "high", "wide", "thing"] (sp_is_fit_table K) := ⟨_, fd_is_fit_table, ok_is_fit_table o F_is_fit_table, g_is_fit_table, F_is_fit_table.kp, (F_is_fit_table.bindsN fun _ _ _ _ _ _ us hl => match us, hl with | [_, _, _, _], _ => rfl)⟩
  have G_inverse_of : Cal P w K mg base 1 "inverse_of" ["prime", "worth"] sp_inverse_of := ⟨_, fd_inverse_of, ok_inverse_of o F_inverse_of, g_inverse_of, F_inverse_of.kp, (F_inverse_of.bindsN fun _ _ _ _ _ _ us hl => match us, hl with | [_, _], _ => rfl)⟩
  have G_less : Cal P w K mg base 1 "less" ["prime", "row", "by", "other"] (sp_less K) := ⟨_, fd_less, ok_less o F_less, g_less, F_less.kp, (F_less.bindsN fun _ _ _ _ _ _ us hl => match us, hl with | [_, _, _, _], _ => rfl)⟩
  have G_cleared : Cal P w K mg base 2 "cleared" ["prime", "rows", "place", "row"] (sp_cleared K) := ⟨_, fd_cleared, ok_cleared o G_less F_cleared, g_cleared, F_cleared.kp, (F_cleared.bindsN fun _ _ _ _ _ _ us hl => match us, hl with | [_, _, _, _], _ => rfl)⟩
  have G_reduced_rows : Cal P w K mg base 3 "reduced_rows" ["prime", "wide", "rows"] (sp_reduced_rows K) := ⟨_, fd_reduced_rows, ok_reduced_rows o G_inverse_of G_cleared F_reduced_rows, g_reduced_rows, F_reduced_rows.kp, (F_reduced_rows.bindsN fun _ _ _ _ _ _ us hl => match us, hl with | [_, _, _], _ => rfl)⟩
  have G_undone : Cal P w K mg base 5 "undone" ["table"] (sp_undone K) := ⟨_, fd_undone, ok_undone o G_raw_plain G_reduced_rows G_RawTable_init F_undone, g_undone, F_undone.kp, (F_undone.bindsN fun _ _ _ _ _ _ us hl => match us, hl with | [_], _ => rfl)⟩
  have G_columns_of : Cal P w K mg base 1 "columns_of" ["table"] (sp_columns_of K) := ⟨_, fd_columns_of, ok_columns_of o F_columns_of, g_columns_of, F_columns_of.kp, (F_columns_of.bindsN fun _ _ _ _ _ _ us hl => match us, hl with | [_], _ => rfl)⟩
  have G_led_on : Cal P w K mg base 1 "led_on" ["table", "column"] (sp_led_on K) := ⟨_, fd_led_on, ok_led_on o F_led_on, g_led_on, F_led_on.kp, (F_led_on.bindsN fun _ _ _ _ _ _ us hl => match us, hl with | [_, _], _ => rfl)⟩
  have G_columns_table : Cal P w K mg base 4 "columns_table" ["prime", "high", "columns"] (sp_columns_table K) := ⟨_, fd_columns_table, ok_columns_table o G_RawTable_init F_columns_table, g_columns_table, F_columns_table.kp, (F_columns_table.bindsN fun _ _ _ _ _ _ us hl => match us, hl with | [_, _, _], _ => rfl)⟩
  have G_raw_times : Cal P w K mg base 5 "raw_times" ["one", "other"] (sp_raw_times K) := ⟨_, fd_raw_times, ok_raw_times o G_columns_of G_led_on G_columns_table F_raw_times, g_raw_times, F_raw_times.kp, (F_raw_times.bindsN fun _ _ _ _ _ _ us hl => match us, hl with | [_, _], _ => rfl)⟩
  have G_raw_based : Cal P w K mg base 6 "raw_based" ["picture", "tables"] (sp_raw_based K) := ⟨_, fd_raw_based, ok_raw_based o G_undone G_raw_times G_RawPicture_init F_raw_based, g_raw_based, F_raw_based.kp, (F_raw_based.bindsN fun _ _ _ _ _ _ us hl => match us, hl with | [_, _], _ => rfl)⟩
  have G_based : Cal P w K mg base 7 "based" ["picture", "tables"] (sp_based K) := ⟨_, fd_based, ok_based o G_is_fit_table G_undone G_raw_based F_based, g_based, F_based.kp, (F_based.bindsN fun _ _ _ _ _ _ us hl => match us, hl with | [_, _], _ => rfl)⟩
  have G_law_rebased : Cal P w K mg base 8 "_law_rebased" ["_law_purse_here", "_law_picture_here"] (sp_law_rebased K) := ⟨_, fd_law_rebased, ok_law_rebased o G_law_base G_based F_law_rebased, g_law_rebased, F_law_rebased.kp, (F_law_rebased.bindsN fun _ _ _ _ _ _ us hl => match us, hl with | [_, _], _ => rfl)⟩
  have G_check_line : Cal P w K mg base 2 "check_line" ["picture"] (sp_check_line K) := ⟨_, fd_check_line, ok_check_line o G_is_line F_check_line, g_check_line, F_check_line.kp, (F_check_line.bindsN fun _ _ _ _ _ _ us hl => match us, hl with | [_], _ => rfl)⟩
  have G_stretches : Cal P w K mg base 1 "stretches" ["many"] (sp_stretches K) := ⟨_, fd_stretches, ok_stretches o F_stretches, g_stretches, F_stretches.kp, (F_stretches.bindsN fun _ _ _ _ _ _ us hl => match us, hl with | [_], _ => rfl)⟩
  have G_starts_on : Cal P w K mg base 1 "starts_on" ["picture", "begin", "end"] (sp_starts_on K) := ⟨_, fd_starts_on, ok_starts_on o F_starts_on, g_starts_on, F_starts_on.kp, (F_starts_on.bindsN fun _ _ _ _ _ _ us hl => match us, hl with | [_, _, _], _ => rfl)⟩
  have G_unit_led : Cal P w K mg base 2 "unit_led" ["picture", "arrow", "at"] (sp_unit_led K) := ⟨_, fd_unit_led, ok_unit_led o G_led_on F_unit_led, g_unit_led, F_unit_led.kp, (F_unit_led.bindsN fun _ _ _ _ _ _ us hl => match us, hl with | [_, _, _], _ => rfl)⟩
  have G_lost_rows : Cal P w K mg base 3 "lost_rows" ["picture", "begin", "end"] (sp_lost_rows K) := ⟨_, fd_lost_rows, ok_lost_rows o G_starts_on G_unit_led F_lost_rows, g_lost_rows, F_lost_rows.kp, (F_lost_rows.bindsN fun _ _ _ _ _ _ us hl => match us, hl with | [_, _, _], _ => rfl)⟩
  have G_kernel : Cal P w K mg base 4 "kernel" ["table"] (sp_kernel K) := ⟨_, fd_kernel, ok_kernel o G_reduced_rows F_kernel, g_kernel, F_kernel.kp, (F_kernel.bindsN fun _ _ _ _ _ _ us hl => match us, hl with | [_], _ => rfl)⟩
  have G_meeting_rows : Cal P w K mg base 5 "meeting_rows" ["picture", "begin", "end"] (sp_meeting_rows K) := ⟨_, fd_meeting_rows, ok_meeting_rows o G_starts_on G_kernel G_RawTable_init F_meeting_rows, g_meeting_rows, F_meeting_rows.kp, (F_meeting_rows.bindsN fun _ _ _ _ _ _ us hl => match us, hl with | [_, _, _], _ => rfl)⟩
  have G_raw_reach : Cal P w K mg base 6 "raw_reach" ["picture", "begin", "end"] (sp_raw_reach K) := ⟨_, fd_raw_reach, ok_raw_reach o G_starts_on G_lost_rows G_meeting_rows G_reduced_rows F_raw_reach, g_raw_reach, F_raw_reach.kp, (F_raw_reach.bindsN fun _ _ _ _ _ _ us hl => match us, hl with | [_, _, _], _ => rfl)⟩
  have G_count_of : Cal P w K mg base 1 "count_of" ["told", "begin", "end"] (sp_count_of K) := ⟨_, fd_count_of, ok_count_of o F_count_of, g_count_of, F_count_of.kp, (F_count_of.bindsN fun _ _ _ _ _ _ us hl => match us, hl with | [_, _, _], _ => rfl)⟩
  have G_raw_bars : Cal P w K mg base 2 "raw_bars" ["many", "told"] (sp_raw_bars K) := ⟨_, fd_raw_bars, ok_raw_bars o G_stretches G_count_of F_raw_bars, g_raw_bars, F_raw_bars.kp, (F_raw_bars.bindsN fun _ _ _ _ _ _ us hl => match us, hl with | [_, _], _ => rfl)⟩
  have G_bars : Cal P w K mg base 7 "bars" ["picture"] (sp_bars K) := ⟨_, fd_bars, ok_bars o G_check_line G_stretches G_raw_reach G_raw_bars F_bars, g_bars, F_bars.kp, (F_bars.bindsN fun _ _ _ _ _ _ us hl => match us, hl with | [_], _ => rfl)⟩
  have G_law_are_just : Cal P w K mg base 1 "_law_are_just" ["_law_told", "_law_due"] (sp_law_are_just K) := ⟨_, fd_law_are_just, ok_law_are_just o F_law_are_just, g_law_are_just, F_law_are_just.kp, (F_law_are_just.bindsN fun _ _ _ _ _ _ us hl => match us, hl with | [_, _], _ => rfl)⟩
  have G_law_rows : Cal P w K mg base 2 "_law_rows" ["_law_purse_here", "_law_prime", "_law_high", "_law_wide"] (sp_law_rows K) := ⟨_, fd_law_rows, ok_law_rows o G_law_part F_law_rows, g_law_rows, F_law_rows.kp, (F_law_rows.bindsN fun _ _ _ _ _ _ us hl => match us, hl with | [_, _, _, _], _ => rfl)⟩
  have G_are_sizes : Cal P w K mg base 4 "are_sizes" ["web", "thing"] (sp_are_sizes K) := ⟨_, fd_are_sizes, ok_are_sizes o G_is_number F_are_sizes, g_are_sizes, F_are_sizes.kp, (F_are_sizes.bindsN fun _ _ _ _ _ _ us hl => match us, hl with | [_, _], _ => rfl)⟩
  have G_Picture_init : Mak P w K mg base 5 "Picture" ["self", "web", "prime", "sizes", "tables"] (ad K "Picture") (sp_Picture_init K) := ⟨_, fd_Picture_init, ok_Picture_init o G_is_prime G_are_sizes G_is_fit_table G_Picture_keep F_Picture_init, He.glo_ok X G (cd.fact 61 (f := .glo "Picture") rfl), He.mkr_ok (cd.fact 72 (f := .mkr "Picture") rfl), (F_Picture_init.bindsN fun _ _ _ _ _ _ us hl => match us, hl with | [_, _, _, _, _], _ => rfl)⟩
  have G_law_picture : Cal P w K mg base 7 "_law_picture" ["_law_purse_here", "_law_web", "_law_prime", "_law_sizes"] (sp_law_picture K) := ⟨_, fd_law_picture, ok_law_picture o G_law_rows G_Table_init G_Picture_init F_law_picture, g_law_picture, F_law_picture.kp, (F_law_picture.bindsN fun _ _ _ _ _ _ us hl => match us, hl with | [_, _, _, _], _ => rfl)⟩
  have G_law_less : Cal P w K mg base 1 "_law_less" ["_law_prime", "_law_row", "_law_number", "_law_lead"] (sp_law_less K) := ⟨_, fd_law_less, ok_law_less o F_law_less, g_law_less, F_law_less.kp, (F_law_less.bindsN fun _ _ _ _ _ _ us hl => match us, hl with | [_, _, _, _], _ => rfl)⟩
  have G_law_spanned : Cal P w K mg base 2 "_law_spanned" ["_law_prime", "_law_rows_here"] (sp_law_spanned K) := ⟨_, fd_law_spanned, ok_law_spanned o G_law_less F_law_spanned, g_law_spanned, F_law_spanned.kp, (F_law_spanned.bindsN fun _ _ _ _ _ _ us hl => match us, hl with | [_, _], _ => rfl)⟩
  have G_law_lost_columns : Cal P w K mg base 3 "_law_lost_columns" ["_law_prime", "_law_rows_here", "_law_wide"] (sp_law_lost_columns K) := ⟨_, fd_law_lost_columns, ok_law_lost_columns o G_law_spanned F_law_lost_columns, g_law_lost_columns, F_law_lost_columns.kp, (F_law_lost_columns.bindsN fun _ _ _ _ _ _ us hl => match us, hl with | [_, _, _], _ => rfl)⟩
  have G_law_reach : Cal P w K mg base 4 "_law_reach" ["_law_picture_here", "_law_begin", "_law_end"] (sp_law_reach K) := ⟨_, fd_law_reach, ok_law_reach o G_law_lost_columns G_law_spanned F_law_reach, g_law_reach, F_law_reach.kp, (F_law_reach.bindsN fun _ _ _ _ _ _ us hl => match us, hl with | [_, _, _], _ => rfl)⟩
  have G_law_bars : Cal P w K mg base 5 "_law_bars" ["_law_picture_here"] (sp_law_bars K) := ⟨_, fd_law_bars, ok_law_bars o G_law_stretches G_law_reach F_law_bars, g_law_bars, F_law_bars.kp, (F_law_bars.bindsN fun _ _ _ _ _ _ us hl => match us, hl with | [_], _ => rfl)⟩
  exact ok_law o G_law_purse G_law_line G_law_one G_law_part G_law_stretches G_bar_of G_beside G_law_rebased G_bars G_law_are_just G_law_picture G_law_bars F_law
end K33
open PySem PySem.W PySem.Calls PyProof.Rows
theorem PySem.Challenge.cw_mapwebs_k33_whole_bars_of_pictures_of_li_holds : PySem.Challenge.rw_mapwebs_k33_whole_bars_of_pictures_of_li.Holds := by
  w_on; o_law
  refine HandSHeadRun.head_any (r := OpenLaw.row PySem.Challenge.rw_mapwebs_k33_whole_bars_of_pictures_of_li) (q := view (OpenLaw.row PySem.Challenge.rw_mapwebs_k33_whole_bars_of_pictures_of_li).prog [88]) (H := K33H.hk) (ob := K33H.ob) (M := 20000) (loose := K33H.nms) (d := HandSHeadRun.topDef (OpenLaw.row PySem.Challenge.rw_mapwebs_k33_whole_bars_of_pictures_of_li).prog 88) (kwd := []) K33H.ob_eq
    (by kernel_rfl) (fun st => by kernel_rfl) K33H.run (by kernel_rfl) (by kernel_rfl) (by kernel_rfl) (by rfl) (by first | assumption | decide +kernel) (by decide +kernel) ⟨rfl, rfl, rfl, rfl, rfl, by decide +kernel⟩ ?hwit ?hcont
  case hwit => w_witness2
  case hcont =>
    refine L2.walk_ofE (l := PySem.Challenge.rw_mapwebs_k33_whole_bars_of_pictures_of_li) (n := 63) (k := 9) (x := "_law_script") (CX := L2.CX0) rfl (by decide) (by kernel_rfl) ⟨rfl, by decide, by decide⟩ ?Fx (fun _ _ _ _ z => z)
    intro w mg fa h Y G hmg0
    obtain ⟨K, KX, c⟩ := Y
    have hmg : mg ("law" : PySem.Str) = some (.ref fa) := by
      have e : (HandSHeadRun.topDef (OpenLaw.row PySem.Challenge.rw_mapwebs_k33_whole_bars_of_pictures_of_li).prog 88).name = ("law" : PySem.Str) := by kernel_rfl
      rw [← e]
      exact hmg0
    obtain ⟨fd, hb, hF⟩ := K33.facts (P := (PySem.Challenge.rw_mapwebs_k33_whole_bars_of_pictures_of_li).prog) (w := w) KX G hmg c
    exact ⟨K, fd, K33.sp_law K, KX, hb, fun H a ns hl _ hS => ⟨a, ns, rfl, hS, Nat.le_trans hl (by decide), fun _ => rfl⟩, hF⟩
