import PyProof.Rows.All
import Wide.All
import OpenK.AllK
import Wide.FinOn
import HandS.ForMost
import HandS.ForExc
import HandS.Defaults
import HandS.CallSlots
import HandS.IsInst
import HandS.Style
import HandS.Small
import HandS.Conv
import HandS.Deep
import HandS.TryElse
import HandS.HeadHook2
import HandS.Evl
import HandS.Flow
import HandS.Zip
import HandS.Text
import HandS.ExcIs
import HandS.ExcCtx
import HandS.WideBits
import HandS.Hot
import HandS.HotCalls
import PyProof.StrOps2
import KE.SortKeyHeap
import HandS.SortKw
import HandS.DictComp
import HandS.SetFor
import HandS.Conv
import HandS.Deep
import HandS.Lambda
import HandS.HeadHook4
import HandS.Nested
import HandS.FromBytesMap
import KE.KStateDown
import Lean
import HandS.HeadEnd
import HandS.HeadWalk
import HandS.Head0
import HandS.Head1
import HandS.Head2
import HandS.HeadHook1
import PySem.Challenge.RW_balepress_k19_shares
set_option Elab.async false
set_option linter.all false
set_option maxRecDepth 100000
set_option maxHeartbeats 0
namespace L2.BH
open PySem PySem.Spec PyProof.Rows L2
def top (i : Nat) : Stmt := PySem.Challenge.pw_balepress_k19_shares.main.body.getD i (.Pass ⟨0, 0, 0, 0⟩)
abbrev s__wall : Stmt := top 0
abbrev s_is_byte : Stmt := top 13
abbrev s_is_row : Stmt := top 14
abbrev s_need_row : Stmt := top 15
abbrev s_is_number : Stmt := top 19
abbrev s_need_size : Stmt := top 20
abbrev s_BitRow___init__ : Stmt := inClass (top 21) 0
abbrev s_BitRow_put : Stmt := inClass (top 21) 1
abbrev s_BitRow_many : Stmt := inClass (top 21) 2
abbrev s_BitRow_row : Stmt := inClass (top 21) 3
abbrev s_BitReader___init__ : Stmt := inClass (top 22) 0
abbrev s_BitReader_left : Stmt := inClass (top 22) 1
abbrev s_BitReader_place : Stmt := inClass (top 22) 2
abbrev s_BitReader_go : Stmt := inClass (top 22) 3
abbrev s_BitReader_take : Stmt := inClass (top 22) 4
abbrev s_BitReader_at_end : Stmt := inClass (top 22) 5
abbrev s_is_between : Stmt := top 27
abbrev s_need_counts : Stmt := top 28
abbrev s_weight_of : Stmt := top 29
abbrev s_by_twos : Stmt := top 30
abbrev s_lengths_of : Stmt := top 31
abbrev s_need_lengths : Stmt := top 33
abbrev s_codes_of : Stmt := top 34
abbrev s_CodeReader___init__ : Stmt := inClass (top 35) 0
abbrev s_CodeReader_thing : Stmt := inClass (top 35) 1
abbrev s_is_table : Stmt := top 44
abbrev s_alike_from : Stmt := top 45
abbrev s_put_table : Stmt := top 46
abbrev s_items_read : Stmt := top 47
abbrev s_take_table : Stmt := top 48
abbrev s_need_window : Stmt := top 64
abbrev s_need_window_windows : Stmt := top 53
abbrev s_alike_size : Stmt := top 55
abbrev s_longest_copy : Stmt := top 56
abbrev s_pieces_of : Stmt := top 57
abbrev s_need_text : Stmt := top 63
abbrev s_need_window_ways : Stmt := top 64
abbrev s_lay_copy : Stmt := top 66
abbrev s_thing_of : Stmt := top 67
abbrev s_counts_of : Stmt := top 68
abbrev s_codes_taken : Stmt := top 69
abbrev s_thing_taken : Stmt := top 70
abbrev s_Way_number : Stmt := inClass (top 71) 0
abbrev s_Way_tell : Stmt := inClass (top 71) 1
abbrev s_Way_read : Stmt := inClass (top 71) 2
abbrev s_Way_cost : Stmt := inClass (top 71) 3
abbrev s_ShareWay_number : Stmt := inClass (top 72) 0
abbrev s_ShareWay_tell : Stmt := inClass (top 72) 1
abbrev s_ShareWay_read : Stmt := inClass (top 72) 2
abbrev s__law_cell_at : Stmt := top 74
abbrev s__law_drawn : Stmt := top 75
abbrev s__law_signs : Stmt := top 76
abbrev s__law_text_by : Stmt := top 77
abbrev s__law_digits : Stmt := top 78
abbrev s__law_row_of : Stmt := top 79
abbrev s__law_alike : Stmt := top 80
abbrev s__law_pieces : Stmt := top 81
abbrev s__law_thing : Stmt := top 82
abbrev s__law_codes : Stmt := top 83
abbrev s__law_parts : Stmt := top 84
abbrev s__law_due : Stmt := top 85
abbrev s__law_own_due : Stmt := top 86
abbrev s__law_read : Stmt := top 87
abbrev s_law : Stmt := top 88
def d__wall : He.DefD := ⟨("_wall", none), "_wall", "_wall", defArgs s__wall, defBody s__wall, defScope s__wall, [], []⟩
def d_is_byte : He.DefD := ⟨("is_byte", none), "is_byte", "is_byte", defArgs s_is_byte, defBody s_is_byte, defScope s_is_byte, [], []⟩
def d_is_row : He.DefD := ⟨("is_row", none), "is_row", "is_row", defArgs s_is_row, defBody s_is_row, defScope s_is_row, [], []⟩
def d_need_row : He.DefD := ⟨("need_row", none), "need_row", "need_row", defArgs s_need_row, defBody s_need_row, defScope s_need_row, [], []⟩
def d_is_number : He.DefD := ⟨("is_number", none), "is_number", "is_number", defArgs s_is_number, defBody s_is_number, defScope s_is_number, [], []⟩
def d_need_size : He.DefD := ⟨("need_size", none), "need_size", "need_size", defArgs s_need_size, defBody s_need_size, defScope s_need_size, [], []⟩
def d_BitRow___init__ : He.DefD := ⟨("BitRow", some "__init__"), "__init__", "BitRow.__init__", defArgs s_BitRow___init__, defBody s_BitRow___init__, defScope s_BitRow___init__, [], []⟩
def d_BitRow_put : He.DefD := ⟨("BitRow", some "put"), "put", "BitRow.put", defArgs s_BitRow_put, defBody s_BitRow_put, defScope s_BitRow_put, [], []⟩
def d_BitRow_many : He.DefD := ⟨("BitRow", some "many"), "many", "BitRow.many", defArgs s_BitRow_many, defBody s_BitRow_many, defScope s_BitRow_many, [], []⟩
def d_BitRow_row : He.DefD := ⟨("BitRow", some "row"), "row", "BitRow.row", defArgs s_BitRow_row, defBody s_BitRow_row, defScope s_BitRow_row, [], []⟩
def d_BitReader___init__ : He.DefD := ⟨("BitReader", some "__init__"), "__init__", "BitReader.__init__", defArgs s_BitReader___init__, defBody s_BitReader___init__, defScope s_BitReader___init__, [], []⟩
def d_BitReader_left : He.DefD := ⟨("BitReader", some "left"), "left", "BitReader.left", defArgs s_BitReader_left, defBody s_BitReader_left, defScope s_BitReader_left, [], []⟩
def d_BitReader_place : He.DefD := ⟨("BitReader", some "place"), "place", "BitReader.place", defArgs s_BitReader_place, defBody s_BitReader_place, defScope s_BitReader_place, [], []⟩
def d_BitReader_go : He.DefD := ⟨("BitReader", some "go"), "go", "BitReader.go", defArgs s_BitReader_go, defBody s_BitReader_go, defScope s_BitReader_go, [], []⟩
def d_BitReader_take : He.DefD := ⟨("BitReader", some "take"), "take", "BitReader.take", defArgs s_BitReader_take, defBody s_BitReader_take, defScope s_BitReader_take, [], []⟩
def d_BitReader_at_end : He.DefD := ⟨("BitReader", some "at_end"), "at_end", "BitReader.at_end", defArgs s_BitReader_at_end, defBody s_BitReader_at_end, defScope s_BitReader_at_end, [], []⟩
def d_is_between : He.DefD := ⟨("is_between", none), "is_between", "is_between", defArgs s_is_between, defBody s_is_between, defScope s_is_between, [], []⟩
def d_need_counts : He.DefD := ⟨("need_counts", none), "need_counts", "need_counts", defArgs s_need_counts, defBody s_need_counts, defScope s_need_counts, [], []⟩
def d_weight_of : He.DefD := ⟨("weight_of", none), "weight_of", "weight_of", defArgs s_weight_of, defBody s_weight_of, defScope s_weight_of, [], []⟩
def d_by_twos : He.DefD := ⟨("by_twos", none), "by_twos", "by_twos", defArgs s_by_twos, defBody s_by_twos, defScope s_by_twos, [], []⟩
def d_lengths_of : He.DefD := ⟨("lengths_of", none), "lengths_of", "lengths_of", defArgs s_lengths_of, defBody s_lengths_of, defScope s_lengths_of, [.int 6], []⟩
def d_need_lengths : He.DefD := ⟨("need_lengths", none), "need_lengths", "need_lengths", defArgs s_need_lengths, defBody s_need_lengths, defScope s_need_lengths, [], []⟩
def d_codes_of : He.DefD := ⟨("codes_of", none), "codes_of", "codes_of", defArgs s_codes_of, defBody s_codes_of, defScope s_codes_of, [], []⟩
def d_CodeReader___init__ : He.DefD := ⟨("CodeReader", some "__init__"), "__init__", "CodeReader.__init__", defArgs s_CodeReader___init__, defBody s_CodeReader___init__, defScope s_CodeReader___init__, [], []⟩
def d_CodeReader_thing : He.DefD := ⟨("CodeReader", some "thing"), "thing", "CodeReader.thing", defArgs s_CodeReader_thing, defBody s_CodeReader_thing, defScope s_CodeReader_thing, [], []⟩
def d_is_table : He.DefD := ⟨("is_table", none), "is_table", "is_table", defArgs s_is_table, defBody s_is_table, defScope s_is_table, [], []⟩
def d_alike_from : He.DefD := ⟨("alike_from", none), "alike_from", "alike_from", defArgs s_alike_from, defBody s_alike_from, defScope s_alike_from, [], []⟩
def d_put_table : He.DefD := ⟨("put_table", none), "put_table", "put_table", defArgs s_put_table, defBody s_put_table, defScope s_put_table, [], []⟩
def d_items_read : He.DefD := ⟨("items_read", none), "items_read", "items_read", defArgs s_items_read, defBody s_items_read, defScope s_items_read, [], []⟩
def d_take_table : He.DefD := ⟨("take_table", none), "take_table", "take_table", defArgs s_take_table, defBody s_take_table, defScope s_take_table, [], []⟩
def d_need_window : He.DefD := ⟨("need_window", none), "need_window", "need_window", defArgs s_need_window, defBody s_need_window, defScope s_need_window, [], []⟩
def d_need_window_windows : He.DefD := ⟨("need_window_windows", none), "need_window", "need_window", defArgs s_need_window_windows, defBody s_need_window_windows, defScope s_need_window_windows, [], []⟩
def d_alike_size : He.DefD := ⟨("alike_size", none), "alike_size", "alike_size", defArgs s_alike_size, defBody s_alike_size, defScope s_alike_size, [], []⟩
def d_longest_copy : He.DefD := ⟨("longest_copy", none), "longest_copy", "longest_copy", defArgs s_longest_copy, defBody s_longest_copy, defScope s_longest_copy, [], []⟩
def d_pieces_of : He.DefD := ⟨("pieces_of", none), "pieces_of", "pieces_of", defArgs s_pieces_of, defBody s_pieces_of, defScope s_pieces_of, [.non], []⟩
def d_need_text : He.DefD := ⟨("need_text", none), "need_text", "need_text", defArgs s_need_text, defBody s_need_text, defScope s_need_text, [], []⟩
def d_need_window_ways : He.DefD := ⟨("need_window_ways", none), "need_window", "need_window", defArgs s_need_window_ways, defBody s_need_window_ways, defScope s_need_window_ways, [], []⟩
def d_lay_copy : He.DefD := ⟨("lay_copy", none), "lay_copy", "lay_copy", defArgs s_lay_copy, defBody s_lay_copy, defScope s_lay_copy, [], []⟩
def d_thing_of : He.DefD := ⟨("thing_of", none), "thing_of", "thing_of", defArgs s_thing_of, defBody s_thing_of, defScope s_thing_of, [], []⟩
def d_counts_of : He.DefD := ⟨("counts_of", none), "counts_of", "counts_of", defArgs s_counts_of, defBody s_counts_of, defScope s_counts_of, [], []⟩
def d_codes_taken : He.DefD := ⟨("codes_taken", none), "codes_taken", "codes_taken", defArgs s_codes_taken, defBody s_codes_taken, defScope s_codes_taken, [], []⟩
def d_thing_taken : He.DefD := ⟨("thing_taken", none), "thing_taken", "thing_taken", defArgs s_thing_taken, defBody s_thing_taken, defScope s_thing_taken, [], []⟩
def d_Way_number : He.DefD := ⟨("Way", some "number"), "number", "Way.number", defArgs s_Way_number, defBody s_Way_number, defScope s_Way_number, [], []⟩
def d_Way_tell : He.DefD := ⟨("Way", some "tell"), "tell", "Way.tell", defArgs s_Way_tell, defBody s_Way_tell, defScope s_Way_tell, [], []⟩
def d_Way_read : He.DefD := ⟨("Way", some "read"), "read", "Way.read", defArgs s_Way_read, defBody s_Way_read, defScope s_Way_read, [], []⟩
def d_Way_cost : He.DefD := ⟨("Way", some "cost"), "cost", "Way.cost", defArgs s_Way_cost, defBody s_Way_cost, defScope s_Way_cost, [], []⟩
def d_ShareWay_number : He.DefD := ⟨("ShareWay", some "number"), "number", "ShareWay.number", defArgs s_ShareWay_number, defBody s_ShareWay_number, defScope s_ShareWay_number, [], []⟩
def d_ShareWay_tell : He.DefD := ⟨("ShareWay", some "tell"), "tell", "ShareWay.tell", defArgs s_ShareWay_tell, defBody s_ShareWay_tell, defScope s_ShareWay_tell, [], []⟩
def d_ShareWay_read : He.DefD := ⟨("ShareWay", some "read"), "read", "ShareWay.read", defArgs s_ShareWay_read, defBody s_ShareWay_read, defScope s_ShareWay_read, [], []⟩
def d__law_cell_at : He.DefD := ⟨("_law_cell_at", none), "_law_cell_at", "_law_cell_at", defArgs s__law_cell_at, defBody s__law_cell_at, defScope s__law_cell_at, [], []⟩
def d__law_drawn : He.DefD := ⟨("_law_drawn", none), "_law_drawn", "_law_drawn", defArgs s__law_drawn, defBody s__law_drawn, defScope s__law_drawn, [], []⟩
def d__law_signs : He.DefD := ⟨("_law_signs", none), "_law_signs", "_law_signs", defArgs s__law_signs, defBody s__law_signs, defScope s__law_signs, [], []⟩
def d__law_text_by : He.DefD := ⟨("_law_text_by", none), "_law_text_by", "_law_text_by", defArgs s__law_text_by, defBody s__law_text_by, defScope s__law_text_by, [], []⟩
def d__law_digits : He.DefD := ⟨("_law_digits", none), "_law_digits", "_law_digits", defArgs s__law_digits, defBody s__law_digits, defScope s__law_digits, [], []⟩
def d__law_row_of : He.DefD := ⟨("_law_row_of", none), "_law_row_of", "_law_row_of", defArgs s__law_row_of, defBody s__law_row_of, defScope s__law_row_of, [], []⟩
def d__law_alike : He.DefD := ⟨("_law_alike", none), "_law_alike", "_law_alike", defArgs s__law_alike, defBody s__law_alike, defScope s__law_alike, [], []⟩
def d__law_pieces : He.DefD := ⟨("_law_pieces", none), "_law_pieces", "_law_pieces", defArgs s__law_pieces, defBody s__law_pieces, defScope s__law_pieces, [], []⟩
def d__law_thing : He.DefD := ⟨("_law_thing", none), "_law_thing", "_law_thing", defArgs s__law_thing, defBody s__law_thing, defScope s__law_thing, [], []⟩
def d__law_codes : He.DefD := ⟨("_law_codes", none), "_law_codes", "_law_codes", defArgs s__law_codes, defBody s__law_codes, defScope s__law_codes, [], []⟩
def d__law_parts : He.DefD := ⟨("_law_parts", none), "_law_parts", "_law_parts", defArgs s__law_parts, defBody s__law_parts, defScope s__law_parts, [], []⟩
def d__law_due : He.DefD := ⟨("_law_due", none), "_law_due", "_law_due", defArgs s__law_due, defBody s__law_due, defScope s__law_due, [], []⟩
def d__law_own_due : He.DefD := ⟨("_law_own_due", none), "_law_own_due", "_law_own_due", defArgs s__law_own_due, defBody s__law_own_due, defScope s__law_own_due, [], []⟩
def d__law_read : He.DefD := ⟨("_law_read", none), "_law_read", "_law_read", defArgs s__law_read, defBody s__law_read, defScope s__law_read, [], []⟩
def d_law : He.DefD := ⟨("law", none), "law", "law", defArgs s_law, defBody s_law, defScope s_law, [], []⟩
def fn : List He.DefD := [d__wall, d_is_byte, d_is_row, d_need_row, d_is_number, d_need_size, d_BitRow___init__, d_BitRow_put, d_BitRow_many, d_BitRow_row, d_BitReader___init__, d_BitReader_left, d_BitReader_place, d_BitReader_go, d_BitReader_take, d_BitReader_at_end, d_is_between, d_need_counts, d_weight_of, d_by_twos, d_lengths_of, d_need_lengths, d_codes_of, d_CodeReader___init__, d_CodeReader_thing, d_is_table, d_alike_from, d_put_table, d_items_read, d_take_table, d_need_window, d_need_window_windows, d_alike_size, d_longest_copy, d_pieces_of, d_need_text, d_need_window_ways, d_lay_copy, d_thing_of, d_counts_of, d_codes_taken, d_thing_taken, d_Way_number, d_Way_tell, d_Way_read, d_Way_cost, d_ShareWay_number, d_ShareWay_tell, d_ShareWay_read, d__law_cell_at, d__law_drawn, d__law_signs, d__law_text_by, d__law_digits, d__law_row_of, d__law_alike, d__law_pieces, d__law_thing, d__law_codes, d__law_parts, d__law_due, d__law_own_due, d__law_read, d_law]
def fa : List He.Fa := [.glo "_wall", .glo "PressError", .exc "PressError", .glo "BadRow", .exc "BadRow", .glo "BadBits", .exc "BadBits", .glo "NoBits", .exc "NoBits", .glo "BadShares", .exc "BadShares", .glo "BadLengths", .exc "BadLengths", .glo "BadCode", .exc "BadCode", .glo "BadTable", .exc "BadTable", .glo "BadBody", .exc "BadBody", .int "MOST_BYTE" 255, .glo "is_byte", .glo "is_row", .glo "need_row", .int "BYTE" 8, .int "MOST_SIZE_bits" 24, .glo "is_number", .glo "need_size", .glo "BitRow", .cls "BitRow", .noat "BitRow" "full", .noat "BitRow" "part", .noat "BitRow" "filled", .meth "BitRow" "__init__", .meth "BitRow" "put", .meth "BitRow" "many", .meth "BitRow" "row", .mkr "BitRow", .glo "BitReader", .cls "BitReader", .noat "BitReader" "source", .noat "BitReader" "taken", .meth "BitReader" "__init__", .meth "BitReader" "left", .meth "BitReader" "place", .meth "BitReader" "go", .meth "BitReader" "take", .meth "BitReader" "at_end", .mkr "BitReader", .int "MOST_THINGS" 300, .int "MOST_COUNT" 1000000, .int "MOST_LENGTH_shares" 12, .glo "is_between", .glo "need_counts", .glo "weight_of", .glo "by_twos", .glo "lengths_of", .glo "need_lengths", .glo "codes_of", .glo "CodeReader", .cls "CodeReader", .noat "CodeReader" "known", .noat "CodeReader" "begun", .meth "CodeReader" "__init__", .meth "CodeReader" "thing", .mkr "CodeReader", .int "MANY" 272, .int "MOST_LENGTH_tables" 6, .int "MORE_MARK" 7, .int "LEAST_MORE" 3, .int "MOST_MORE" 66, .int "LENGTH_BITS" 3, .int "MORE_BITS" 6, .glo "is_table", .glo "alike_from", .glo "put_table", .glo "items_read", .glo "take_table", .int "LEAST_SIZE" 3, .int "MOST_SIZE_windows" 18, .int "MOST_BACK" 255, .glo "need_window", .glo "need_window_windows", .glo "alike_size", .glo "longest_copy", .glo "pieces_of", .int "MOST_SIGNS" 64, .int "MOST_WINDOW" 192, .int "SIGNS" 256, .int "LEAST_COPY" 3, .glo "need_text", .glo "need_window_ways", .glo "lay_copy", .glo "thing_of", .glo "counts_of", .glo "codes_taken", .glo "thing_taken", .glo "Way", .cls "Way", .meth "Way" "number", .meth "Way" "tell", .meth "Way" "read", .meth "Way" "cost", .glo "ShareWay", .cls "ShareWay", .meth "ShareWay" "number", .meth "ShareWay" "tell", .meth "ShareWay" "read", .meth "ShareWay" "cost", .glo "_law_cell_at", .glo "_law_drawn", .glo "_law_signs", .glo "_law_text_by", .glo "_law_digits", .glo "_law_row_of", .glo "_law_alike", .glo "_law_pieces", .glo "_law_thing", .glo "_law_codes", .glo "_law_parts", .glo "_law_due", .glo "_law_own_due", .glo "_law_read", .glo "law", .free "all", .free "bool", .free "divmod", .free "enumerate", .free "int", .free "isinstance", .free "len", .free "list", .free "max", .free "min", .free "range", .free "sorted", .free "ValueError"]
abbrev R : PySem.W.OpenRow := PySem.W.OpenLaw.row PySem.Challenge.rw_balepress_k19_shares
def obsL (as : List Addr) (fa : List He.Fa) (fn : List He.DefD) (ts : List He.Tab) (tf : List He.Defn) (ex : PySem.W.Frag → Bool) (g : Addr → Option Obj) : He.AlX := (He.obsT fa fn ts (He.frT g as), ex (He.frT g as) && He.tabsB g tf (He.frT g as))
theorem saysL_of {as : List Addr} {fa : List He.Fa} {fn : List He.DefD} {ts : List He.Tab} {tf : List He.Defn} {ex : PySem.W.Frag → Bool} {w : World} {h : Heap} (e : obsL as fa fn ts tf ex h.get? = He.valX fn ts w) : He.SaysX fa fn ts tf ex w h (He.frT h.get? as) := by
  have both : ex (He.frT h.get? as) = true ∧ He.tabsB h.get? tf (He.frT h.get? as) = true := He.ba (congrArg (fun z : He.AlX => z.2) e)
  have at_ : ∀ p ∈ tf, PySem.W.codeHdIn (He.frT h.get? as) (He.cT (He.frT h.get? as) p).1 (He.cT (He.frT h.get? as) p).2 = true ∧ ∃ o, h.get? (He.cT (He.frT h.get? as) p).2 = some o ∧ He.emptyTab o = true := by
    intro p hp
    obtain ⟨c1, c2⟩ := He.ba (List.all_eq_true.mp both.2 p hp)
    generalize (He.cT (He.frT h.get? as) p).2 = t at c1 c2 ⊢
    cases g : h.get? t with
    | none => rw [g] at c2; cases c2
    | some o => rw [g] at c2; exact ⟨c1, o, rfl, c2⟩
  refine ⟨congrArg (fun z : He.AlX => z.1) e, both.1, fun p hp => (at_ p hp).1, fun p hp => ?_, fun p hp => ?_⟩
  · obtain ⟨_, o, g, q⟩ := at_ p hp
    exact He.frT_none g q
  · obtain ⟨_, o, g, q⟩ := at_ p hp
    rw [g, He.emptyTab_eq q]
def hookL (as : List Addr) (fa : List He.Fa) (fn : List He.DefD) (ts : List He.Tab) (tf : List He.Defn) (ex : PySem.W.Frag → Bool) : PySem.W.Hook where
  α := He.AlX
  obs := fun s => obsL as fa fn ts tf ex s.heap.get?
  val := fun w => He.valX fn ts w
  says := fun w h => ∃ K : PySem.W.Frag, K.In h ∧ He.SaysX fa fn ts tf ex w h K
  of := fun _ _ e => ⟨_, He.frT_in, saysL_of e⟩
  keeps := fun _ _ _ ⟨K, hK, c⟩ k => ⟨K, PySem.W.Frag.In.keeps hK k, ⟨c.t, c.more, c.hd, c.out, fun p hp => k _ _ (c.empty p hp)⟩⟩
theorem obsL_eq {as : List Addr} {fa : List He.Fa} {fn : List He.DefD} {ts : List He.Tab} {tf : List He.Defn} {ex : PySem.W.Frag → Bool} {g : Addr → Option Obj} {s : Shared} (h : ∀ a, g a = s.heap.get? a) : obsL as fa fn ts tf ex g = (hookL as fa fn ts tf ex).obs s := by
  rw [show g = s.heap.get? from funext h]
  rfl
def exs : List (PySem.W.Frag → Bool) := [fun K => (He.eqO (PySem.W.findIn K (.ref (He.ga K "BitRow")) "__class__") (some (some (.builtin "object.__class__"))) && (He.eqO (PySem.W.specialIn K (.builtin "object.__class__") "__get__") (some (some (.builtin "getset_descriptor.__get__"))) && (decide (PySem.W.takesIn K (.builtin "object.__class__") = some true) && decide (PySem.W.mroIn K (He.ga K "BitRow") (.type "object") = some true)))),
  fun K => decide (PySem.W.kitOne K (.ref (He.ga K "BitRow")) (.ref (He.ga K "Way")) = some false),
  fun K => (He.eqO (PySem.W.findIn K (.ref (He.ga K "BitReader")) "__class__") (some (some (.builtin "object.__class__"))) && (He.eqO (PySem.W.specialIn K (.builtin "object.__class__") "__get__") (some (some (.builtin "getset_descriptor.__get__"))) && (decide (PySem.W.takesIn K (.builtin "object.__class__") = some true) && decide (PySem.W.mroIn K (He.ga K "BitReader") (.type "object") = some true)))),
  fun K => decide (PySem.W.kitOne K (.ref (He.ga K "BitReader")) (.ref (He.ga K "Way")) = some false),
  fun K => (He.eqO (PySem.W.findIn K (.ref (He.ga K "CodeReader")) "__class__") (some (some (.builtin "object.__class__"))) && (He.eqO (PySem.W.specialIn K (.builtin "object.__class__") "__get__") (some (some (.builtin "getset_descriptor.__get__"))) && (decide (PySem.W.takesIn K (.builtin "object.__class__") = some true) && decide (PySem.W.mroIn K (He.ga K "CodeReader") (.type "object") = some true)))),
  fun K => decide (PySem.W.kitOne K (.ref (He.ga K "CodeReader")) (.ref (He.ga K "Way")) = some false),
  fun K => (He.eqO (PySem.W.findIn K (.ref (He.ga K "Way")) "__init__") (some (some (.builtin "object.__init__"))) && (PySem.W.makesIn K (He.ga K "Way") && PySem.W.keepIn K (.ref (He.ga K "Way")))),
  fun K => (He.eqO (PySem.W.findIn K (.ref (He.ga K "Way")) "__class__") (some (some (.builtin "object.__class__"))) && (He.eqO (PySem.W.specialIn K (.builtin "object.__class__") "__get__") (some (some (.builtin "getset_descriptor.__get__"))) && (decide (PySem.W.takesIn K (.builtin "object.__class__") = some true) && decide (PySem.W.mroIn K (He.ga K "Way") (.type "object") = some true)))),
  fun K => decide (PySem.W.kitOne K (.ref (He.ga K "Way")) (.ref (He.ga K "Way")) = some true),
  fun K => (He.eqO (PySem.W.findIn K (.ref (He.ga K "ShareWay")) "__init__") (some (some (.builtin "object.__init__"))) && (PySem.W.makesIn K (He.ga K "ShareWay") && PySem.W.keepIn K (.ref (He.ga K "ShareWay")))),
  fun K => (He.eqO (PySem.W.findIn K (.ref (He.ga K "ShareWay")) "__class__") (some (some (.builtin "object.__class__"))) && (He.eqO (PySem.W.specialIn K (.builtin "object.__class__") "__get__") (some (some (.builtin "getset_descriptor.__get__"))) && (decide (PySem.W.takesIn K (.builtin "object.__class__") = some true) && decide (PySem.W.mroIn K (He.ga K "ShareWay") (.type "object") = some true)))),
  fun K => decide (PySem.W.kitOne K (.ref (He.ga K "ShareWay")) (.ref (He.ga K "Way")) = some true),
  fun K => decide (He.ma K (He.ga K "ShareWay") "cost" = He.ma K (He.ga K "Way") "cost")]
def ex (K : PySem.W.Frag) : Bool := exs.all fun e => e K
theorem ex_at {K : PySem.W.Frag} (h : ex K = true) (i : Nat) {e : PySem.W.Frag → Bool} (he : exs[i]? = some e := by rfl) : e K = true := List.all_eq_true.mp h e (List.mem_of_getElem? he)
abbrev hk : PySem.W.Hook := hookL (List.range 1400) fa fn [] [("codes_of", none)] ex
def ob (s : PySem.W.SharedT) : He.AlX := obsL (List.range 1400) fa fn [] [("codes_of", none)] ex (HandSHeadRun.getT s)
theorem ob_eq (s : PySem.W.SharedT) : ob s = hk.obs s.abs := obsL_eq (HandSHeadRun.getT_eq s)
def loose0 : List PySem.Str := ["_wall", "PressError", "ValueError", "BadRow", "BadBits", "NoBits", "BadShares", "BadLengths", "BadCode", "BadTable", "BadBody", "MOST_BYTE", "is_byte", "is_row", "need_row", "BYTE", "MOST_SIZE_bits", "is_number", "need_size", "BitRow", "BitReader", "MOST_THINGS", "MOST_COUNT", "MOST_LENGTH_shares", "is_between", "need_counts", "weight_of", "by_twos", "lengths_of", "need_lengths"]
def loose1 : List PySem.Str := ["codes_of", "CodeReader", "MANY", "MOST_LENGTH_tables", "MORE_MARK", "LEAST_MORE", "MOST_MORE", "LENGTH_BITS", "MORE_BITS", "is_table", "alike_from", "put_table", "items_read", "take_table", "LEAST_SIZE", "MOST_SIZE_windows", "MOST_BACK", "need_window", "need_window_windows", "alike_size", "longest_copy", "pieces_of", "MOST_SIGNS", "MOST_WINDOW", "SIGNS", "LEAST_COPY", "need_text", "need_window_ways", "lay_copy", "thing_of"]
def loose2 : List PySem.Str := ["counts_of", "codes_taken", "thing_taken", "Way", "ShareWay", "_law_cell_at", "_law_drawn", "_law_signs", "_law_text_by", "_law_digits", "_law_row_of", "_law_alike", "_law_pieces", "_law_thing", "_law_codes", "_law_parts", "_law_due", "_law_own_due", "_law_read"]
abbrev loose : List PySem.Str := loose0 ++ loose1 ++ loose2
theorem run (w : World) : HandSHeadRun.RunEq R (PySem.W.view R.prog [88]) hk ob 40000 loose w := by
  intro os
  kernel_rfl
end L2.BH
/-! BLib: rules that take several kinds of values at once, calls that may let an error out at the caller's slots, and a picture of the heap as a list of own objects over a base. -/
namespace PySem.SeqAt
open PySem PySem.Spec MeetsSeq
theorem list_eq_declines_dict (l b : Addr) (items : Array Value) (n : Nat) (dd dd2 : Option Addr) (sl sl2 : Array (Option Value)) (dt : Data) :
    Meets (Builtin.«list.__eq__» ⟨[.ref l, .ref b], []⟩) (fun _ R s => s.heap.get? l = some { cls := .type "list", dict := dd, data := .seq items n, slots := sl } ∧ s.heap.get? b = some { cls := .type "dict", dict := dd2, data := dt, slots := sl2 } ∧ R (.ok (.ret .notImplemented)) s) :=
  .of_wp fun prog w A R s h => by obtain ⟨hp, g, d, tk, os⟩ := s; obtain ⟨hl, hb, h⟩ := h; have f1 := F.sub_dict_list; wp_walk using wpAny_loadPart' hl, wpAny_loadPart' hb; exact ⟨_, rfl, h⟩
theorem dict_eq_declines_list (l b : Addr) (items : Array Value) (n n2 : Nat) (es : Array DictEntry) (dd dd2 : Option Addr) (sl sl2 : Array (Option Value)) :
    Meets (Builtin.«dict.__eq__» ⟨[.ref l, .ref b], []⟩) (fun _ R s => s.heap.get? l = some { cls := .type "dict", dict := dd, data := .dict es n2, slots := sl } ∧ s.heap.get? b = some { cls := .type "list", dict := dd2, data := .seq items n, slots := sl2 } ∧ R (.ok (.ret .notImplemented)) s) :=
  .of_wp fun prog w A R s h => by obtain ⟨hp, g, d, tk, os⟩ := s; obtain ⟨hl, hb, h⟩ := h; have f1 := F.sub_list_dict; wp_walk using wpAny_loadPart' hl, wpAny_loadPart' hb; exact ⟨_, rfl, h⟩
theorem RcAt.dict_list {A : Around} {s : Shared} {l b : Addr} {es : Array DictEntry} {n2 : Nat} {dd : Option Addr} {sl : Array (Option Value)} {items : Array Value} (ho : s.heap.get? l = some { cls := .type "dict", dict := dd, data := .dict es n2, slots := sl }) (hb : s.heap.IsList b items) (hu : A.units < cLine) : RcAt A s (.ref l) (.ref b) false := fun prog w E Q h => by
  have hne : l ≠ b := fun e => by
    subst e
    obtain ⟨o2, ho2, hc2, _⟩ := hb
    rw [ho] at ho2
    cases ho2
    exact absurd hc2 (by simp)
  obtain ⟨⟨cls2, dd2, data2, sl2⟩, ho2, hc2, n3, hd2⟩ := id hb
  simp only at hc2 hd2
  subst hc2 hd2
  exact (rc_eq_decline_or (k := false) ⟨_, ho, rfl⟩ ⟨_, ho2, rfl⟩ (by decide) F.sub_list_dict F.slot_dict_eq F.slot_list_eq_refl
    (fun _ hq => call_meets F.slot_dict_eq ⟨_, ho, rfl⟩ F.entry_dict_eq (F.args_dict_eq_2 _ _) (dict_eq_declines_list l b items n3 n2 es dd dd2 sl sl2) ⟨ho, ho2, hq⟩)
    (fun _ hq => call_meets F.slot_list_eq_refl ⟨_, ho2, rfl⟩ F.entry_list_eq (F.args_list_eq_2 _ _) (list_eq_declines_dict b l items n3 dd2 dd sl2 sl _) ⟨ho2, ho, hq⟩)
    (fun _ hq => wpAny_isSame_ref_other' hne ho ho2 (by simp) hq) (.inr hu) h)
end PySem.SeqAt
namespace L2.BP
open PySem PySem.Spec PyProof.Rows
section
variable {X : Cx}
/-! ### operators, by kinds -/
def rAddStr : R2 := fun x y H Q => ∃ i j, x = .str i ∧ y = .str j ∧ i.length + j.length ≤ sizeLine ∧ Q (.str (i ++ j)) H
def rAddI : R2 := rI0 fun i j => .int (i + j)
def rAddU : R2 := fun x y H Q => rAddI x y H Q ∨ rAddStr x y H Q ∨ rCat x y H Q
theorem op_addU : OpR X (binaryOp .Add) rAddU := OpR.or op_add (OpR.or op_add_str op_cat)
def rSubU : R2 := rI0 fun i j => .int (i - j)
theorem op_subU : OpR X (binaryOp .Sub) rSubU := op_sub
def rMulI : R2 := rI CMul fun i j => .int (i * j)
def repS (z : Str) (k : Nat) : Str := if k = 0 then Str.empty else if k = 1 ∨ z.length = 0 then z else ⟨(List.replicate k z.cps).foldl (· ++ ·) #[]⟩
def rRepS : R2 := fun x y H Q => ∃ (z : Str) (k : Nat), x = .str z ∧ y = .int ((k : Nat) : Int) ∧ k ≤ 1000 ∧ z.length ≤ 1000 ∧ (repS z k).length ≤ 1000000 ∧ Q (.str (repS z k)) H
theorem op_repS : OpR X (binaryOp .Mult) rRepS := by
  intro pins s σ H x y v u Q I rx ry h
  obtain ⟨z, k, rfl, rfl, hk, hz, hl, q⟩ := h
  obtain ⟨t, rfl⟩ := rx
  obtain ⟨t', rfl⟩ := ry
  have hm : z.length * k ≤ 1000 * 1000 := Nat.mul_le_mul hz hk
  refine PySem.P.mul_str ?_ ?_ ?_ ?_
  · rw [decide_eq_false (by omega), decide_eq_false (by omega)]
    rfl
  · intro h1 h2 h3
    have h4 : 9223372036854775 ≤ (2 ^ 63 - 1) / ((k : Nat) : Int) := by
      refine (Int.le_ediv_iff_mul_le (by omega)).mpr ?_
      omega
    omega
  · intro h1 h2
    unfold Builtin.Str.tooLong
    rw [Int.toNat_natCast]
    exact decide_eq_false (Nat.not_lt.mpr (Nat.le_trans hm (by decide)))
  · unfold repS at q hl
    by_cases h0 : k = 0
    · subst h0
      rw [if_pos rfl] at q
      rw [if_pos (by decide)]
      exact ⟨by decide, .str Str.empty, H, I.tok _, ⟨_, rfl⟩, q⟩
    · rw [if_neg h0] at q hl
      rw [if_neg (by omega)]
      by_cases h1 : k = 1 ∨ z.length = 0
      · rw [if_pos h1] at q
        have e : ((((k : Nat) : Int) == 1) || z.length == 0) = true := by
          rcases h1 with e | e
          · subst e
            rfl
          · rw [e]
            simp
        rw [e, if_pos rfl]
        exact ⟨.str z, H, I, ⟨_, rfl⟩, q⟩
      · rw [if_neg h1] at q hl
        have e : ((((k : Nat) : Int) == 1) || z.length == 0) = false := by
          have e1 : ¬ k = 1 := fun h => h1 (.inl h)
          have e2 : ¬ z.length = 0 := fun h => h1 (.inr h)
          have e3 : (((k : Nat) : Int) == 1) = false := by
            rw [beq_eq_false_iff_ne]
            omega
          have e4 : (z.length == 0) = false := by
            rw [beq_eq_false_iff_ne]
            exact e2
          rw [e3, e4]
          rfl
        rw [e, if_neg Bool.false_ne_true, Int.toNat_natCast]
        exact ⟨Nat.le_trans hl (by decide), .str _, H, I.tok _, ⟨_, rfl⟩, q⟩
def rMulU : R2 := fun x y H Q => rMulI x y H Q ∨ rRep x y H Q ∨ rRepS x y H Q
theorem op_mulU : OpR X (binaryOp .Mult) rMulU := OpR.or op_mul (OpR.or op_rep op_repS)
def rDivU : R2 := rI CDiv fun i j => .int (i / j)
theorem op_divU : OpR X (binaryOp .FloorDiv) rDivU := op_fdiv
def rModU : R2 := rI (fun _ j => 0 < j) fun i j => .int (i % j)
theorem op_modU : OpR X (binaryOp .Mod) rModU := op_mod
def rPowU : R2 := rI CPow fun i j => .int (i ^ j.toNat)
theorem op_powU : OpR X (binaryOp .Pow) rPowU := op_pow
def rShlU : R2 := fun x y H Q => rI CPow (fun i j => .int (i * 2 ^ j.toNat)) x y H Q ∨ rI CShl (fun i j => .int (i * 2 ^ j.toNat)) x y H Q
theorem op_shlU : OpR X (binaryOp .LShift) rShlU := OpR.or op_shl op_shlW
def rShrU : R2 := rI (fun _ j => 0 ≤ j) fun i j => .int (i / 2 ^ j.toNat)
theorem op_shrU : OpR X (binaryOp .RShift) rShrU := op_shr
def rAndU : R2 := rI0 fun i j => .int (Builtin.bitAnd i j)
theorem op_andU : OpR X (binaryOp .BitAnd) rAndU := op_and
def rOrU : R2 := rI0 fun i j => .int (Builtin.bitOr i j)
theorem op_orU : OpR X (binaryOp .BitOr) rOrU := op_or
def rXorU : R2 := rI0 fun i j => .int (Builtin.bitXor i j)
theorem op_xorU : OpR X (binaryOp .BitXor) rXorU := op_xor
def rNegU : V → Hp → VK → Prop := rU fun i => .int (-i)
theorem un_negU : UnR X (unaryOp .USub) rNegU := un_neg
def rLtU : R2 := rI0 fun i j => .bl (decide (i < j))
theorem op_ltU : OpR X (compareOp .Lt) rLtU := op_lt
def rLeU : R2 := rI0 fun i j => .bl (decide (i ≤ j))
theorem op_leU : OpR X (compareOp .LtE) rLeU := op_le
def rGtU : R2 := rI0 fun i j => .bl (decide (j < i))
theorem op_gtU : OpR X (compareOp .Gt) rGtU := op_gt
def rGeU : R2 := rI0 fun i j => .bl (decide (j ≤ i))
theorem op_geU : OpR X (compareOp .GtE) rGeU := op_ge
/-- a dict and a list -/
def rEqE (K : PySem.W.Frag) : R2 := fun x y H Q => ∃ (a b : Addr) (kvs : List (Key × V)) (ys : List V), x = .ref a ∧ y = .ref b ∧ H a = some (.dK kvs) ∧ SqL K H b ys ∧ Q (.bl false) H
theorem op_eqE (hu : X.A.units + 64 < cLine) : OpR X (compareOp .Eq) (rEqE X.K) := by
  intro pins s σ H x y v u Q I rx ry h
  obtain ⟨a, b, kvs, ys, rfl, rfl, ha, hb, q⟩ := h
  obtain rfl : v = Value.ref a := rx
  obtain rfl : u = Value.ref b := ry
  obtain ⟨_, _, vs, rv, o, es, ep, h1, h2, h3, h4, h5, h6⟩ := (show ObjOk X.prog X.w H s.heap a (.dK kvs) from I.hok a _ ha)
  obtain ⟨its, r, pl, hz⟩ := I.list hb
  obtain ⟨c, d, dt, sl⟩ := o
  obtain ⟨z1, z2, z3⟩ := h2
  simp only at h3 z1 z2 z3
  subst h3 z1
  exact SeqAt.RcAt.dict_list h1 pl.isList (by omega) X.prog X.w _ _ ⟨.bl _, H, I, rfl, q⟩
def rEqU (K : PySem.W.Frag) : R2 := fun x y H Q => rEq x y H Q ∨ rEqD K x y H Q ∨ rEqDA x y H Q ∨ rEqE K x y H Q
theorem op_eqU (hu : X.A.units + 64 < cLine) : OpR X (compareOp .Eq) (rEqU X.K) := OpR.or op_eq (OpR.or (op_eqD hu) (OpR.or (op_eq_dictA (by omega)) (op_eqE hu)))
def rNeU (K : PySem.W.Frag) : R2 := fun x y H Q => rNe x y H Q ∨ rNeD K x y H Q ∨ rNeDA x y H Q
theorem op_neU (hu : X.A.units + 64 < cLine) : OpR X (compareOp .NotEq) (rNeU X.K) := OpR.or op_ne (OpR.or (op_neD hu) (op_ne_dictA (by omega)))
def rInStr : R2 := fun x y H Q => ∃ i j, x = .str i ∧ y = .str j ∧ Q (.bl (!(Builtin.Str.occurrences j i 0 j.length 1).isEmpty)) H
def rNiStr : R2 := fun x y H Q => ∃ i j, x = .str i ∧ y = .str j ∧ Q (.bl (!(!(Builtin.Str.occurrences j i 0 j.length 1).isEmpty))) H
def rInU (K : PySem.W.Frag) : R2 := fun x y H Q => rIn K false x y H Q ∨ rInStr x y H Q
theorem op_inU : OpR X (compareOp .In) (rInU X.K) := OpR.or op_in_seq op_in_str
def rNiU (K : PySem.W.Frag) : R2 := fun x y H Q => rIn K true x y H Q ∨ rNiStr x y H Q
theorem op_niU : OpR X (compareOp .NotIn) (rNiU X.K) := OpR.or op_notIn_seq op_notIn_str
def rIsNo : R2 := fun x y H Q => y = .non ∧ Q (.bl (decide (x = .non))) H
def rNotNo : R2 := fun x y H Q => y = .non ∧ Q (.bl (!decide (x = .non))) H
def rIsU : R2 := fun x y H Q => rIsNo x y H Q ∨ rIsB x y H Q
theorem op_isU : OpR X (compareOp .Is) rIsU := OpR.or op_isN op_isBl
def rNotU : R2 := fun x y H Q => rNotNo x y H Q ∨ rNotB x y H Q
theorem op_notU : OpR X (compareOp .IsNot) rNotU := OpR.or op_notN op_notBl
/-! ### in place -/
def ipAddI : TIp := ipI fun i j => i + j
def ipAddU : TIp := fun x y H Q => ipAddI x y H Q ∨ rExt2 x y H Q ∨ rAddStr x y H Q
theorem ip_addU : PIp X .Add ipAddU := fun pins s σ H x y v u Q I rx ry h => by
  rcases h with h | h | h
  · exact ip_add pins s σ H x y v u Q I rx ry h
  · exact iop_ext pins s σ H x y v u Q I rx ry h
  · exact iop_add_str pins s σ H x y v u Q I rx ry h
def ipSubU : TIp := ipI fun i j => i - j
theorem ip_subU : PIp X .Sub ipSubU := ip_sub
/-! ### slices, walks -/

end
end L2.BP
namespace L2.BP
open PySem PySem.Spec PyProof.Rows
/-! ### calls that may let an error out, wished for at the caller's slots -/
section
variable {X : Cx} {k : Nat} {f C : Addr} {fd : FuncData} {ps : List Str} {sp : Sp} {dvs : List V} {ds : List Value} {W : WX} {x m : Str} {p pos apos : Pos} {e o : Expr} {es : List Expr} {ta : TE} {t : TA}
/-- f(e, ..) -/
def tCl (sp : Sp) (dvs : List V) (W : WX) (t : TA) : TE := fun σ H Q => t σ H fun vs H1 => sp (vs ++ dvs) H1 Q fun c d H2 => W c d σ H2
theorem pe_cl (F : FnOk X.prog X.w X.K X.mg X.base (L2.CX X.prog X.w) k f fd ps sp) (hr : Room k X.A) (hg : Gl X x) (hm : X.mg x = some (.ref f)) (hk : PySem.W.keepIn X.K (.ref f) = true)
    (hb : Binds X.K fd ps ds) (hd : Vals dvs ds) (tk : Takes X W) (ha : PA X (e :: es) t) (hdb : (x == ("__debug__" : Str)) = false := by decide)
    (he : starEach (e :: es) X.env = (false, eval e X.env) :: starEach es X.env := by rfl) (hpl : (backTo pos (starEach es X.env)).any (·.1) = false := by rfl) :
    PE X (.Call (.Name x p) (e :: es) [] pos) (tCl sp dvs W t) :=
  pe_callSD (E := WE W) F hr hg hm hk hb hd (fun σ => passAt tk σ) ha hdb he hpl
theorem pe_cl0 (F : FnOk X.prog X.w X.K X.mg X.base (L2.CX X.prog X.w) k f fd ps sp) (hr : Room k X.A) (hg : Gl X x) (hm : X.mg x = some (.ref f)) (hk : PySem.W.keepIn X.K (.ref f) = true)
    (hb : Binds X.K fd ps ds) (hd : Vals dvs ds) (tk : Takes X W) (hdb : (x == ("__debug__" : Str)) = false := by decide) :
    PE X (.Call (.Name x p) [] [] pos) (tCl sp dvs W tNil) := by
  constructor
  intro pins s σ H Q I h
  have go := run_fnSD (E := WE W) (us := []) F hr hb hd (passAt tk σ) I .nil h
  exact wpAny_Call_Name_kw (ld_glob I hg hm (PySem.W.callWith_K0 I.kIn hk go) hdb)
/-- o.m(e, ..) -/
def tMt (C : Addr) (m : Str) (sp : Sp) (dvs : List V) (W : WX) (ta : TE) (t : TA) : TE := fun σ H Q => ta σ H fun x H1 => ∃ a dx fs, x = .ref a ∧ H1 a = some (.ins C dx fs) ∧ fs.lookup m = none ∧
  t σ H1 fun vs H2 => sp (x :: (vs ++ dvs)) H2 Q fun c d H3 => W c d σ H3
theorem pe_mt' {pl : Sem Bool} (he : PE X o ta) (c : Cls X.K C) (hm : Meth X.K C m f) (F : FnOk X.prog X.w X.K X.mg X.base (L2.CX X.prog X.w) k f fd ps sp) (hr : Room k X.A)
    (hb : Binds X.K fd ps ds) (hd : Vals dvs ds) (tk : Takes X W) (ha : PA X (e :: es) t)
    (hst : starEach (e :: es) X.env = (false, eval e X.env) :: starEach es X.env := by rfl) (hpl : (backTo pos (starEach es X.env)).any (·.1) = false := by rfl)
    (ht : eval (.Call (.Attribute o m apos) (e :: es) [] pos) X.env = (do
      let ov ← eval o X.env; standAt apos.atName
      let (f, first) ← holding [ov] (getMethod ov m pl); callWith pos f first (backTo pos (starEach (e :: es) X.env)) (backToKw pos (keywordEach [] X.env))) := by rfl) :
    PE X (.Call (.Attribute o m apos) (e :: es) [] pos) (tMt C m sp dvs W ta t) := by
  constructor
  intro pins s σ H Q I h
  refine PySem.W.methodCall_KW (pl := pl) (thn (he.run pins s σ H _ I h) ?_) ht
  rintro u s1 ⟨x, H1, I1, rx, a, dx, fs, rfl, ea, l, q⟩
  cases (show u = Value.ref a from rx)
  refine getmeth_ok I1 ea c hm l (PySem.W.callWith_K (first := [.ref a]) (h₀ := X.base) I.ok.mod.kin hm.kp ?_ hst hpl)
  refine thn (ha.run pos pins s1 σ H1 _ I1 q) ?_
  rintro us s2 ⟨vs, H2, I2, r, q2⟩
  exact ⟨I2.kIn, run_fnSD (E := WE W) (us := .ref a :: us) (vs := .ref a :: vs) F hr hb hd (passAt tk σ) I2 (.cons rfl r) q2⟩
theorem pe_mt0' {pl : Sem Bool} (he : PE X o ta) (c : Cls X.K C) (hm : Meth X.K C m f) (F : FnOk X.prog X.w X.K X.mg X.base (L2.CX X.prog X.w) k f fd ps sp) (hr : Room k X.A)
    (hb : Binds X.K fd ps ds) (hd : Vals dvs ds) (tk : Takes X W)
    (ht : eval (.Call (.Attribute o m apos) [] [] pos) X.env = (do
      let ov ← eval o X.env; standAt apos.atName
      let (f, first) ← holding [ov] (getMethod ov m pl); callWith pos f first (backTo pos (starEach [] X.env)) (backToKw pos (keywordEach [] X.env))) := by rfl) :
    PE X (.Call (.Attribute o m apos) [] [] pos) (tMt C m sp dvs W ta tNil) := by
  constructor
  intro pins s σ H Q I h
  refine PySem.W.methodCall_KW (pl := pl) (thn (he.run pins s σ H _ I h) ?_) ht
  rintro u s1 ⟨x, H1, I1, rx, a, dx, fs, rfl, ea, l, q⟩
  cases (show u = Value.ref a from rx)
  refine getmeth_ok I1 ea c hm l ?_
  have go := run_fnSD (E := WE W) (us := [.ref a]) (vs := [.ref a]) F hr hb hd (passAt tk σ) I1 (.cons rfl .nil) q
  exact PySem.W.callWith_K0 (first := [.ref a]) I1.kIn hm.kp go
/-- C(e, ..) -/
def tMk (C : Addr) (sp : Sp) (dvs : List V) (W : WX) (t : TA) : TE := fun σ H Q => t σ H fun vs H1 => ∀ x dx, H1 x = none → H1 dx = none → dx ≠ x →
  sp (.ref x :: (vs ++ dvs)) (upd (upd H1 dx (.own x)) x (.ins C dx [])) (fun v H2 => v = .non ∧ Q (.ref x) H2) fun c d H2 => W c d σ H2
theorem run_mk {pins : List (Addr × Obj)} {σ : St} {H : Hp} {s : Shared} {Q : VK} {us : List Value} {vs : List V} (M : Mk X.K C f) (F : FnOk X.prog X.w X.K X.mg X.base (L2.CX X.prog X.w) k f fd ps sp) (hr : Room (k + 1) X.A)
    (hb : Binds X.K fd ps ds) (hd : Vals dvs ds) (tk : Takes X W) (I : Inv X pins σ H s) (r : Vals vs us)
    (h : ∀ x dx, H x = none → H dx = none → dx ≠ x → sp (.ref x :: (vs ++ dvs)) (upd (upd H dx (.own x)) x (.ins C dx [])) (fun v H2 => v = .non ∧ Q (.ref x) H2) fun c d H2 => W c d σ H2) :
    wpAny (model X.prog X.w) X.A (call (.ref C) us) (EP X pins σ Q) X.xe s := by
  have hq := h (s.heap.objs.size + 1) s.heap.objs.size (I.hok.fresh (Nat.le_succ _)) (I.hok.fresh (Nat.le_refl _)) (Nat.ne_of_lt (Nat.lt_succ_self _))
  have J := Inv.made (C := C) I
  have rr : Vals (V.ref (s.heap.objs.size + 1) :: (vs ++ dvs)) (Value.ref (s.heap.objs.size + 1) :: (us ++ ds)) := .cons rfl (r.append hd)
  have hl : (Value.ref (s.heap.objs.size + 1) :: us ++ ds).length = ps.length := by
    have e1 := rr.length
    rw [F.len _ _ _ _ hq] at e1
    exact e1.symm
  have run := F.run _ X.stack _ _ ⟨Value.ref (s.heap.objs.size + 1) :: us, []⟩ (Value.ref (s.heap.objs.size + 1) :: (us ++ ds)) _ _ _ (hr.make C us []) (J.env0.make C us []) (hb _ (Value.ref (s.heap.objs.size + 1) :: us) J.kIn hl) rr hq
  refine wpAny_call (make_map (f := f) I.kIn M.makes M.init (beq_iff_eq.mp M.fn) (codeAny_mono run ?_))
  intro r s' z
  match r, z with
  | .error e, z => exact (passAt tk σ) pins _ _ e s' J z
  | .ok (.ret u), z =>
    obtain ⟨v, H', J3, rv, ev, q3⟩ := J.after z
    subst ev
    exact ⟨rv, ⟨V.ref (s.heap.objs.size + 1), H', J3, rfl, q3⟩⟩
theorem pe_mk' (M : Mk X.K C f) (F : FnOk X.prog X.w X.K X.mg X.base (L2.CX X.prog X.w) k f fd ps sp) (hr : Room (k + 1) X.A) (hg : Gl X x) (hm : X.mg x = some (.ref C))
    (hb : Binds X.K fd ps ds) (hd : Vals dvs ds) (tk : Takes X W) (ha : PA X (e :: es) t) (hdb : (x == ("__debug__" : Str)) = false := by decide)
    (he : starEach (e :: es) X.env = (false, eval e X.env) :: starEach es X.env := by rfl) (hpl : (backTo pos (starEach es X.env)).any (·.1) = false := by rfl) :
    PE X (.Call (.Name x p) (e :: es) [] pos) (tMk C sp dvs W t) := by
  constructor
  intro pins s σ H Q I h
  refine wpAny_Call_Name_kw (ld_glob I hg hm (PySem.W.callWith_K (h₀ := X.base) I.ok.mod.kin M.kp ?_ he hpl) hdb)
  refine thn (ha.run pos pins s σ H _ I h) ?_
  rintro us s1 ⟨vs, H1, I1, r, q⟩
  exact ⟨I1.kIn, run_mk M F hr hb hd tk I1 r q⟩
theorem pe_mk0' (M : Mk X.K C f) (F : FnOk X.prog X.w X.K X.mg X.base (L2.CX X.prog X.w) k f fd ps sp) (hr : Room (k + 1) X.A) (hg : Gl X x) (hm : X.mg x = some (.ref C))
    (hb : Binds X.K fd ps ds) (hd : Vals dvs ds) (tk : Takes X W) (hdb : (x == ("__debug__" : Str)) = false := by decide) :
    PE X (.Call (.Name x p) [] [] pos) (tMk C sp dvs W tNil) := by
  constructor
  intro pins s σ H Q I h
  have go := run_mk (us := []) M F hr hb hd tk I .nil h
  exact wpAny_Call_Name_kw (ld_glob I hg hm (PySem.W.callWith_K0 I.kIn M.kp go) hdb)
end
/-! ### an error raised -/
def tRz (C : Addr) (W : WX) : TS := fun _ σ H => W (.ref C) none σ H
theorem ps_rz {X : Cx} {W : WX} {C : Addr} {x m : Str} {j : Nat} {p p2 pos pos2 : Pos} (hc : X.calm = true) (tk : Takes X W) (q : PySem.W.excIn X.K C He.veBase "ValueError.__new__" = true ∧ PySem.W.keepIn X.K (.ref C) = true ∧ PySem.W.subIn X.K (.ref C) (.type "BaseException") = some true ∧ PySem.W.typeIn X.K (.ref C) = some (.type "type"))
    (gC : X.mg x = some (.ref C)) (hg : Gl X x) (hdb : (x == ("__debug__" : Str)) = false := by decide) :
    PS X (.Raise (some (.Call (.Name x p) [.Constant (.str m) j p2] [] pos)) none pos2) (tRz C W) :=
  ps_raise hc tk (pmk_own PySem.F.excBase_ValueError q.1 gC q.2.1 (raises_own q.2.2.1 q.2.2.2) hg hdb)
/-! ### names of the module -/
section
variable {X : Cx} {x : Str} {pos : Pos}
theorem pe_gint {i : Int} (hg : Gl X x) (hm : ∃ t, X.mg x = some (.int i t)) (hd : (x == ("__debug__" : Str)) = false := by decide) : PE X (.Name x pos) (tC (.int i)) :=
  hm.elim fun t h => pe_glob (v := .int i) hg h ⟨t, rfl⟩ hd
theorem pe_gstr {z : Str} (hg : Gl X x) (hm : ∃ t, X.mg x = some (.str z t)) (hd : (x == ("__debug__" : Str)) = false := by decide) : PE X (.Name x pos) (tC (.str z)) :=
  hm.elim fun t h => pe_glob (v := .str z) hg h ⟨t, rfl⟩ hd
theorem pe_gref {a : Addr} (hg : Gl X x) (hm : X.mg x = some (.ref a)) (hd : (x == ("__debug__" : Str)) = false := by decide) : PE X (.Name x pos) (tC (.ref a)) := pe_glob (v := .ref a) hg hm rfl hd
theorem pe_bty {n : String} (hg : Gl X x) (hm : X.mg x = none) (hv : bootBuiltins x = some (.type n)) (hn : x ≠ "__name__" := by decide) (hd : (x == ("__debug__" : Str)) = false := by decide) : PE X (.Name x pos) (tC (.ty n)) := pe_bltn (v := .ty n) hg hm hv rfl hn hd
end
theorem bt_int : bootBuiltins "int" = some (.type "int") := by decide +kernel
theorem bt_bool : bootBuiltins "bool" = some (.type "bool") := by decide +kernel
theorem bt_str : bootBuiltins "str" = some (.type "str") := by decide +kernel
theorem bt_list : bootBuiltins "list" = some (.type "list") := by decide +kernel
theorem bt_tuple : bootBuiltins "tuple" = some (.type "tuple") := by decide +kernel
theorem bt_dict : bootBuiltins "dict" = some (.type "dict") := by decide +kernel
theorem bt_ValueError : bootBuiltins "ValueError" = some (.type "ValueError") := by decide +kernel
theorem bt_set : bootBuiltins "set" = some (.type "set") := by decide +kernel
theorem bb_len : bootBuiltins "len" = some (.builtin "len") := by decide +kernel
theorem bb_isinstance : bootBuiltins "isinstance" = some (.builtin "isinstance") := by decide +kernel
theorem bb_all : bootBuiltins "all" = some (.builtin "all") := by decide +kernel
theorem bb_any : bootBuiltins "any" = some (.builtin "any") := by decide +kernel
theorem bb_sum : bootBuiltins "sum" = some (.builtin "sum") := by decide +kernel
theorem bb_min : bootBuiltins "min" = some (.builtin "min") := by decide +kernel
theorem bb_max : bootBuiltins "max" = some (.builtin "max") := by decide +kernel
theorem bb_abs : bootBuiltins "abs" = some (.builtin "abs") := by decide +kernel
theorem bb_divmod : bootBuiltins "divmod" = some (.builtin "divmod") := by decide +kernel
theorem bb_sorted : bootBuiltins "sorted" = some (.builtin "sorted") := by decide +kernel
theorem bb_repr : bootBuiltins "repr" = some (.builtin "repr") := by decide +kernel
/-! ### calls of built-ins by several kinds -/
section
variable {X : Cx}
def rLenK (K : PySem.W.Frag) : List V → Hp → VK → Prop := fun xs H Q => ∃ x n, xs = [x] ∧ LenV K x H n ∧ Q (.int n) H
theorem cr_lenK : CallR X (.builtin "len") (rLenK X.K) := call_len
def rIntK : List V → Hp → VK → Prop := fun xs H Q => (∃ i, xs = [.int i] ∧ Q (.int i) H) ∨ ∃ k, xs = [.bl k] ∧ Q (.int (if k then 1 else 0)) H
theorem cr_intK : CallR X (.type "int") rIntK := call_int1
def rListK (K : PySem.W.Frag) : List V → Hp → VK → Prop := fun xs H Q => ∃ p ys, xs = [.ref p] ∧ (SqL K H p ys ∨ SqT K H p ys) ∧ ∀ l, H l = none → Q (.ref l) (upd H l (.lst ys))
theorem cr_listK : CallR X (.type "list") (rListK X.K) := call_list_of
def rTupleK (K : PySem.W.Frag) : List V → Hp → VK → Prop := fun xs H Q => ∃ p ys, xs = [.ref p] ∧ ((SqL K H p ys ∧ ∀ l, H l = none → Q (.ref l) (upd H l (.tup ys))) ∨ (SqT K H p ys ∧ Q (.ref p) H))
theorem cr_tupleK : CallR X (.type "tuple") (rTupleK X.K) := call_tuple_of
def rDivmodK : List V → Hp → VK → Prop := fun xs H Q => ∃ i j, xs = [.int i, .int j] ∧ CDiv i j ∧ ∀ p, H p = none → Q (.ref p) (upd H p (.tup [.int (i / j), .int (i % j)]))
theorem cr_divmodK : CallR X (.builtin "divmod") rDivmodK := call_divmod
def rMax2K : List V → Hp → VK → Prop := fun xs H Q => ∃ i j, xs = [.int i, .int j] ∧ Q (.int (if j > i then j else i)) H
theorem cr_max2K (hc : X.calm = true) : CallR X (.builtin "max") rMax2K := call_max2 hc
def rMin2K : List V → Hp → VK → Prop := fun xs H Q => ∃ i j, xs = [.int i, .int j] ∧ Q (.int (if j < i then j else i)) H
theorem cr_min2K (hc : X.calm = true) : CallR X (.builtin "min") rMin2K := call_min2 hc
def rAbsK : List V → Hp → VK → Prop := fun xs H Q => ∃ i, xs = [.int i] ∧ Q (.int (if i < 0 then -i else i)) H
theorem cr_absK : CallR X (.builtin "abs") rAbsK := call_abs
def rSlK (K : PySem.W.Frag) : V → Option Int → Option Int → Hp → VK → Prop := fun x lo hi H Q => rSlL K x lo hi H Q ∨ rSlS x lo hi H Q ∨ rSlT K x lo hi H Q
theorem sl_K : SlR X (rSlK X.K) := SlR.or sl_list (SlR.or sl_str sl_tup)
end
end L2.BP
namespace L2.BP
open PySem PySem.Spec PyProof.Rows
/-! ### the heap as own objects over a base -/
structure Hs (B : Hp) (L : List (Addr × HO)) (H : Hp) : Prop where
  ex : Same B H
  nd : (L.map (·.1)).Nodup
  own : ∀ q ∈ L, H q.1 = some q.2 ∧ B q.1 = none
section
variable {B H H' : Hp} {L : List (Addr × HO)} {p : Addr} {o o' : HO} {K : PySem.W.Frag}
theorem Hs.start (H : Hp) : Hs H [] H := ⟨Same.refl H, .nil, fun _ h => nomatch h⟩
theorem Hs.same (h : Hs B L H) (s : Same H H') : Hs B L H' := ⟨h.ex.trans s, h.nd, fun q m => ⟨s _ _ (h.own q m).1, (h.own q m).2⟩⟩
theorem Hs.newS (h : Hs B L H) (hp : H p = none) (s : Same H H') (hn : H' p = some o) : Hs B ((p, o) :: L) H' where
  ex := h.ex.trans s
  nd := by
    refine List.nodup_cons.mpr ⟨fun m => ?_, h.nd⟩
    obtain ⟨q, mq, e⟩ := List.mem_map.mp m
    have z := (h.own q mq).1
    rw [e, hp] at z
    cases z
  own := fun q m => by
    rcases List.mem_cons.mp m with rfl | m
    · exact ⟨hn, h.ex.free hp⟩
    · exact ⟨s _ _ (h.own q m).1, (h.own q m).2⟩
theorem same_upd (hp : H p = none) : Same H (upd H p o) := fun b u e => by rw [upd_ne (ne_of_none e hp)]; exact e
theorem Hs.new (h : Hs B L H) (hp : H p = none) : Hs B ((p, o) :: L) (upd H p o) := h.newS hp (same_upd hp) upd_same
theorem Hs.drop {q : Addr × HO} (h : Hs B (q :: L) H) : Hs B L H := ⟨h.ex, (List.nodup_cons.mp h.nd).2, fun z m => h.own z (List.mem_cons_of_mem _ m)⟩
theorem Hs.get (h : Hs B L H) (m : (p, o) ∈ L) : H p = some o := (h.own _ m).1
theorem Hs.nb (h : Hs B L H) (m : (p, o) ∈ L) : B p = none := (h.own _ m).2
/-- the first of the own objects changed -/
theorem Hs.chg (h : Hs B ((p, o) :: L) H) (k : ∀ b u, b ≠ p → H b = some u → H' b = some u) (hn : H' p = some o') : Hs B ((p, o') :: L) H' where
  ex := fun b u e => k b u (ne_of_none e (h.nb (o := o) (.head _))) (h.ex b u e)
  nd := h.nd
  own := fun q m => by
    rcases List.mem_cons.mp m with rfl | m
    · exact ⟨hn, h.nb (o := o) (.head _)⟩
    · refine ⟨k _ _ (fun z => ?_) (h.own q (.tail _ m)).1, (h.own q (.tail _ m)).2⟩
      exact (List.nodup_cons.mp h.nd).1 (List.mem_map.mpr ⟨q, m, z⟩)
theorem Hs.perm {L' : List (Addr × HO)} (h : Hs B L H) (q : L.Perm L') : Hs B L' H := ⟨h.ex, (q.map _).nodup_iff.mp h.nd, fun z m => h.own z (q.mem_iff.mpr m)⟩
theorem Hs.swap {a b : Addr × HO} (h : Hs B (a :: b :: L) H) : Hs B (b :: a :: L) H := h.perm (.swap b a L)
theorem Hs.rot3 {a b c : Addr × HO} (h : Hs B (a :: b :: c :: L) H) : Hs B (c :: a :: b :: L) H := h.perm ((List.Perm.cons a (.swap c b L)).trans (.swap c a (b :: L)))
theorem Hs.unrot3 {a b c : Addr × HO} (h : Hs B (c :: a :: b :: L) H) : Hs B (a :: b :: c :: L) H := h.perm (((List.Perm.cons a (.swap c b L)).trans (.swap c a (b :: L))).symm)
theorem Hs.u0 (h : Hs B ((p, o) :: L) H) : Hs B ((p, o') :: L) (upd H p o') := h.chg (fun b u n e => by rw [upd_ne n]; exact e) upd_same
theorem Hs.u1 {a : Addr × HO} (h : Hs B (a :: (p, o) :: L) H) : Hs B (a :: (p, o') :: L) (upd H p o') := h.swap.u0.swap
theorem Hs.u2 {a b : Addr × HO} (h : Hs B (a :: b :: (p, o) :: L) H) : Hs B (a :: b :: (p, o') :: L) (upd H p o') := h.rot3.u0.unrot3
theorem Hs.u3 {a b c : Addr × HO} (h : Hs B (a :: b :: c :: (p, o) :: L) H) : Hs B (a :: b :: c :: (p, o') :: L) (upd H p o') := by
  have e : (a :: b :: c :: (p, o) :: L).Perm ((p, o) :: a :: b :: c :: L) := (List.perm_middle (l₁ := [a, b, c]) (a := (p, o)) (l₂ := L))
  have e' : ((p, o') :: a :: b :: c :: L).Perm (a :: b :: c :: (p, o') :: L) := (List.perm_middle (l₁ := [a, b, c]) (a := (p, o')) (l₂ := L)).symm
  exact ((h.perm e).u0 (o' := o')).perm e'
/-- the first one is laid to the base: it changes no more -/
theorem Hs.fix (h : Hs B ((p, o) :: L) H) : Hs (upd B p o) L H where
  ex := fun b u e => by
    by_cases hb : b = p
    · subst hb
      rw [upd_same] at e
      cases e
      exact h.get (.head _)
    · rw [upd_ne hb] at e
      exact h.ex b u e
  nd := (List.nodup_cons.mp h.nd).2
  own := fun q m => by
    refine ⟨(h.own q (.tail _ m)).1, ?_⟩
    have n : q.1 ≠ p := fun z => (List.nodup_cons.mp h.nd).1 (List.mem_map.mpr ⟨q, m, z⟩)
    rw [upd_ne n]
    exact (h.own q (.tail _ m)).2
theorem Hs.sql {xs : List V} (h : Hs B L H) (m : (p, HO.lst xs) ∈ L) : SqL K H p xs := .of (h.get m)
theorem Hs.sqt {xs : List V} (h : Hs B L H) (m : (p, HO.tup xs) ∈ L) : SqT K H p xs := .of (h.get m)
theorem Hs.bl {xs : List V} (h : Hs B L H) (m : SqL K B p xs) : SqL K H p xs := h.ex.seq m
theorem same_sqt {xs : List V} (e : Same H H') (h : SqT K H p xs) : SqT K H' p xs := by
  rcases h with (h | ⟨u, h⟩) | h
  · exact .inl (.inl (e _ _ h))
  · exact .inl (.inr ⟨u, e _ _ h⟩)
  · exact .inr h
theorem Hs.bt {xs : List V} (h : Hs B L H) (m : SqT K B p xs) : SqT K H p xs := same_sqt h.ex m
mutual
theorem dp_same (e : Same H H') : ∀ {v : V} {d : PyData}, Dp K H v d → Dp K H' v d
  | _, _, .non => .non
  | _, _, .bl b => .bl b
  | _, _, .int i => .int i
  | _, _, .str x => .str x
  | _, _, .lst h a => .lst (e.seq h) (dpa_same e a)
  | _, _, .tup h a => .tup (same_sqt e h) (dpa_same e a)
theorem dpa_same (e : Same H H') : ∀ {vs : List V} {ds : List PyData}, DpAll K H vs ds → DpAll K H' vs ds
  | _, _, .nil => .nil
  | _, _, .cons h a => .cons (dp_same e h) (dpa_same e a)
end
theorem dpa_ints : ∀ ns : List Int, DpAll K H (ns.map V.int) (ns.map PyData.int)
  | [] => .nil
  | n :: r => .cons (.int n) (dpa_ints r)
end
/-! ### readings, step by step -/
section
variable {σ : St} {H : Hp} {Q : VK} {v x y : V} {i j : Int} {ta tb te : TE} {K : PySem.W.Frag} {r : R2} {B : Hp} {L : List (Addr × HO)}
theorem c_var {n : Nat} (h : σ[n]? = some (some v)) (k : Q v H) : tVar n σ H Q := ⟨v, h, k⟩
theorem c_c (k : Q v H) : tC v σ H Q := k
theorem c_op (k : ta σ H fun x H1 => tb σ H1 fun y H2 => r x y H2 Q) : tOp r ta tb σ H Q := k
theorem c_un {r : V → Hp → VK → Prop} (k : ta σ H fun x H1 => r x H1 Q) : tUn r ta σ H Q := k
theorem c_addI (k : Q (.int (i + j)) H) : rAddU (.int i) (.int j) H Q := .inl ⟨i, j, rfl, rfl, k⟩
theorem c_addS {a b : Str} (h : a.length + b.length ≤ sizeLine) (k : Q (.str (a ++ b)) H) : rAddU (.str a) (.str b) H Q := .inr (.inl ⟨a, b, rfl, rfl, h, k⟩)
theorem c_addL {p q : Addr} {xs ys : List V} (h : Hs B L H) (hp : H p = some (.lst xs)) (hq : H q = some (.lst ys)) (hl : xs.length + ys.length ≤ sizeLine)
    (k : ∀ a H', Hs B ((a, .lst (xs ++ ys)) :: L) H' → Q (.ref a) H') : rAddU (.ref p) (.ref q) H Q :=
  .inr (.inr ⟨p, q, xs, ys, rfl, rfl, hp, hq, hl, fun a ha => k a _ (h.new ha)⟩)
theorem c_sub (k : Q (.int (i - j)) H) : rSubU (.int i) (.int j) H Q := ⟨i, j, rfl, rfl, k⟩
theorem c_mulI (h : CMul i j) (k : Q (.int (i * j)) H) : rMulU (.int i) (.int j) H Q := .inl ⟨i, j, rfl, rfl, h, k⟩
theorem c_rep {p : Addr} {xs : List V} (h : Hs B L H) (hp : H p = some (.lst xs)) (h1 : -(2 ^ 63) ≤ j) (h2 : j < 2 ^ 63) (hl : xs.length * j.toNat ≤ sizeLine)
    (k : ∀ a H', Hs B ((a, .lst (List.replicate j.toNat xs).flatten) :: L) H' → Q (.ref a) H') : rMulU (.ref p) (.int j) H Q :=
  .inr (.inl ⟨p, j, xs, rfl, rfl, hp, h1, h2, hl, fun a ha => k a _ (h.new ha)⟩)
theorem c_repS {z : Str} {n : Nat} (e : j = ((n : Nat) : Int)) (h1 : n ≤ 1000) (h2 : z.length ≤ 1000) (h3 : (repS z n).length ≤ 1000000) (k : Q (.str (repS z n)) H) : rMulU (.str z) (.int j) H Q := .inr (.inr ⟨z, n, rfl, by rw [e], h1, h2, h3, k⟩)
theorem c_div (h : CDiv i j) (k : Q (.int (i / j)) H) : rDivU (.int i) (.int j) H Q := ⟨i, j, rfl, rfl, h, k⟩
theorem c_mod (h : 0 < j) (k : Q (.int (i % j)) H) : rModU (.int i) (.int j) H Q := ⟨i, j, rfl, rfl, h, k⟩
theorem c_pow (h : CPow i j) (k : Q (.int (i ^ j.toNat)) H) : rPowU (.int i) (.int j) H Q := ⟨i, j, rfl, rfl, h, k⟩
theorem c_shl (h : CPow i j) (k : Q (.int (i * 2 ^ j.toNat)) H) : rShlU (.int i) (.int j) H Q := .inl ⟨i, j, rfl, rfl, h, k⟩
theorem c_shlW (h : CShl i j) (k : Q (.int (i * 2 ^ j.toNat)) H) : rShlU (.int i) (.int j) H Q := .inr ⟨i, j, rfl, rfl, h, k⟩
theorem c_shr (h : 0 ≤ j) (k : Q (.int (i / 2 ^ j.toNat)) H) : rShrU (.int i) (.int j) H Q := ⟨i, j, rfl, rfl, h, k⟩
theorem c_and (k : Q (.int (Builtin.bitAnd i j)) H) : rAndU (.int i) (.int j) H Q := ⟨i, j, rfl, rfl, k⟩
theorem c_or (k : Q (.int (Builtin.bitOr i j)) H) : rOrU (.int i) (.int j) H Q := ⟨i, j, rfl, rfl, k⟩
theorem c_xor (k : Q (.int (Builtin.bitXor i j)) H) : rXorU (.int i) (.int j) H Q := ⟨i, j, rfl, rfl, k⟩
theorem c_neg (k : Q (.int (-i)) H) : rNegU (.int i) H Q := ⟨i, rfl, k⟩
theorem c_lt (k : Q (.bl (decide (i < j))) H) : rLtU (.int i) (.int j) H Q := ⟨i, j, rfl, rfl, k⟩
theorem c_le (k : Q (.bl (decide (i ≤ j))) H) : rLeU (.int i) (.int j) H Q := ⟨i, j, rfl, rfl, k⟩
theorem c_gt (k : Q (.bl (decide (j < i))) H) : rGtU (.int i) (.int j) H Q := ⟨i, j, rfl, rfl, k⟩
theorem c_ge (k : Q (.bl (decide (j ≤ i))) H) : rGeU (.int i) (.int j) H Q := ⟨i, j, rfl, rfl, k⟩
theorem dec_of {p q : Prop} [Decidable p] [Decidable q] (h : p ↔ q) : decide p = decide q := by by_cases z : p <;> simp [z, h.mp, mt h.mpr] <;> simp_all
theorem c_eqI (k : Q (.bl (decide (i = j))) H) : rEqU K (.int i) (.int j) H Q := .inl ⟨rfl, by rw [dec_of (show V.int i = V.int j ↔ i = j by simp)]; exact k⟩
theorem c_neI (k : Q (.bl (!decide (i = j))) H) : rNeU K (.int i) (.int j) H Q := .inl ⟨rfl, by rw [dec_of (show V.int i = V.int j ↔ i = j by simp)]; exact k⟩
theorem c_eqS {a b : Str} (k : Q (.bl (decide (a = b))) H) : rEqU K (.str a) (.str b) H Q := .inl ⟨rfl, by rw [dec_of (show V.str a = V.str b ↔ a = b by simp)]; exact k⟩
theorem c_neS {a b : Str} (k : Q (.bl (!decide (a = b))) H) : rNeU K (.str a) (.str b) H Q := .inl ⟨rfl, by rw [dec_of (show V.str a = V.str b ↔ a = b by simp)]; exact k⟩
theorem c_eqB {a b : Bool} (k : Q (.bl (decide (a = b))) H) : rEqU K (.bl a) (.bl b) H Q := .inl ⟨rfl, by rw [dec_of (show V.bl a = V.bl b ↔ a = b by simp)]; exact k⟩
theorem c_neB {a b : Bool} (k : Q (.bl (!decide (a = b))) H) : rNeU K (.bl a) (.bl b) H Q := .inl ⟨rfl, by rw [dec_of (show V.bl a = V.bl b ↔ a = b by simp)]; exact k⟩
theorem c_eqD {d e : PyData} (hx : Dp K H x d) (hy : Dp K H y e) (h1 : SeqAt.shaped d = true) (h2 : SeqAt.shaped e = true) (k : Q (.bl (PyData.eqv d e)) H) : rEqU K x y H Q := .inr (.inl ⟨d, e, hx, hy, h1, h2, k⟩)
theorem c_neD {d e : PyData} (hx : Dp K H x d) (hy : Dp K H y e) (h1 : SeqAt.shaped d = true) (h2 : SeqAt.shaped e = true) (k : Q (.bl (!PyData.eqv d e)) H) : rNeU K x y H Q := .inr (.inl ⟨d, e, hx, hy, h1, h2, k⟩)
theorem c_isN (k : Q (.bl (decide (x = .non))) H) : rIsU x .non H Q := .inl ⟨rfl, k⟩
theorem c_notN (k : Q (.bl (!decide (x = .non))) H) : rNotU x .non H Q := .inl ⟨rfl, k⟩
theorem c_isB {a b : Bool} (k : Q (.bl (decide (a = b))) H) : rIsU (.bl a) (.bl b) H Q := .inr ⟨a, b, rfl, rfl, k⟩
theorem c_notB {a b : Bool} (k : Q (.bl (!decide (a = b))) H) : rNotU (.bl a) (.bl b) H Q := .inr ⟨a, b, rfl, rfl, k⟩
theorem c_ixL {p : Addr} {xs : List V} (h : SqL K H p xs) (ha : atI xs i = some v) (k : Q v H) : rIx K (.ref p) (.int i) H Q := .inl ⟨p, xs, i, v, rfl, rfl, h, ha, k⟩
theorem c_ixT {p : Addr} {xs : List V} (h : SqT K H p xs) (ha : atI xs i = some v) (k : Q v H) : rIx K (.ref p) (.int i) H Q := .inr (.inl ⟨p, xs, i, v, rfl, rfl, h, ha, k⟩)
theorem c_ixS {z : Str} {c : Nat} (h : z.length ≤ sizeLine) (ha : atI z.cps.toList i = some c) (k : Q (.str ⟨#[c]⟩) H) : rIx K (.str z) (.int i) H Q := .inr (.inr ⟨z, i, c, rfl, rfl, h, ha, k⟩)
theorem c_slL {p : Addr} {xs : List V} {lo hi : Option Int} (h : Hs B L H) (hq : SqL K H p xs) (k : ∀ a H', Hs B ((a, .lst (cutV xs lo hi)) :: L) H' → Q (.ref a) H') : rSlK K (.ref p) lo hi H Q :=
  .inl ⟨p, xs, rfl, hq, fun a ha => k a _ (h.new ha)⟩
theorem c_slS {z : Str} {lo hi : Option Int} (h : z.length ≤ sizeLine) (k : Q (.str (cutS z lo hi)) H) : rSlK K (.str z) lo hi H Q := .inr (.inl ⟨z, rfl, h, k⟩)
theorem c_andV (k : ta σ H fun x H1 => ∃ c, x = .bl c ∧ if c = true then tb σ H1 Q else Q (.bl false) H1) : tAndV ta tb σ H Q := k
theorem c_orV (k : ta σ H fun x H1 => ∃ c, x = .bl c ∧ if c = true then Q (.bl true) H1 else tb σ H1 Q) : tOrV ta tb σ H Q := k
theorem c_notV (k : ta σ H fun x H1 => ∃ c, x = .bl c ∧ Q (.bl (!c)) H1) : tNotV ta σ H Q := k
theorem c_bl {b : Bool} {P : Bool → Prop} (k : P b) : ∃ c, V.bl b = V.bl c ∧ P c := ⟨b, rfl, k⟩
theorem c_test {P : Bool → Hp → Prop} (k : te σ H fun x H' => ∃ c, x = .bl c ∧ P c H') : tTest te σ H P := k
theorem c_B {P : Bool → Hp → Prop} (k : te σ H fun x H' => ∃ c, x = .bl c ∧ P c H') : tB te σ H P := k
theorem c_chain {r' : R2} {tc : TE} (k : ta σ H fun x H1 => tb σ H1 fun y H2 => r x y H2 fun z H3 => ∃ c, z = .bl c ∧ (if c = true then tc σ H3 fun w H4 => r' y w H4 Q else Q (.bl false) H3)) : tChain r r' ta tb tc σ H Q := k
section
variable {t u : TT} {P : Bool → Hp → Prop}
theorem c_tand (k : t σ H fun c H1 => if c = true then u σ H1 P else P false H1) : tAnd t u σ H P := k
theorem c_tor (k : t σ H fun c H1 => if c = true then P true H1 else u σ H1 P) : tOr t u σ H P := k
theorem c_tnot (k : t σ H fun c H1 => P (!c) H1) : tNot t σ H P := k
theorem c_if (k : t σ H fun c H1 => if c = true then ta σ H1 Q else tb σ H1 Q) : tIf t ta tb σ H Q := k
end
section
variable {P : List V → Hp → Prop} {tr : TA}
theorem c_nil (k : P [] H) : tNil σ H P := k
theorem c_cons (k : te σ H fun x H1 => tr σ H1 fun xs H2 => P (x :: xs) H2) : tCons te tr σ H P := k
def TupO (xs : List V) (H : Hp) (Q : VK) : Prop := xs.length ≤ sizeLine ∧ ∀ p, H p = none → Q (.ref p) (upd H p (.tup xs))
def LstO (xs : List V) (H : Hp) (Q : VK) : Prop := xs.length ≤ sizeLine ∧ ∀ p, H p = none → Q (.ref p) (upd H p (.lst xs))
theorem c_tup (k : tr σ H fun xs H1 => TupO xs H1 Q) : tTup tr σ H Q := k
theorem c_lst (k : tr σ H fun xs H1 => LstO xs H1 Q) : tLst tr σ H Q := k
theorem c_tupO {xs : List V} (h : Hs B L H) (hl : xs.length ≤ sizeLine) (k : ∀ p H', Hs B ((p, .tup xs) :: L) H' → Q (.ref p) H') : TupO xs H Q := ⟨hl, fun p hp => k p _ (h.new hp)⟩
theorem c_lstO {xs : List V} (h : Hs B L H) (hl : xs.length ≤ sizeLine) (k : ∀ p H', Hs B ((p, .lst xs) :: L) H' → Q (.ref p) H') : LstO xs H Q := ⟨hl, fun p hp => k p _ (h.new hp)⟩
theorem c_cb {r : List V → Hp → VK → Prop} (k : tr σ H fun vs H1 => r vs H1 Q) : tCB r tr σ H Q := k
theorem c_lenL {p : Addr} {xs : List V} (h : SqL K H p xs) (k : Q (.int xs.length) H) : rLenK K [.ref p] H Q := ⟨_, _, rfl, .inl ⟨xs, h, rfl⟩, k⟩
theorem c_lenT {p : Addr} {xs : List V} (h : SqT K H p xs) (k : Q (.int xs.length) H) : rLenK K [.ref p] H Q := ⟨_, _, rfl, .inr ⟨xs, h, rfl⟩, k⟩
theorem c_lenS {z : Str} (h : z.length ≤ sizeLine) (k : Q (.int z.length) H) : rLenK K [.str z] H Q := ⟨_, _, rfl, ⟨h, rfl⟩, k⟩
theorem c_intI (k : Q (.int i) H) : rIntK [.int i] H Q := .inl ⟨i, rfl, k⟩
theorem c_intB {b : Bool} (k : Q (.int (if b then 1 else 0)) H) : rIntK [.bl b] H Q := .inr ⟨b, rfl, k⟩
theorem c_listL {p : Addr} {xs : List V} (h : Hs B L H) (hq : SqL K H p xs) (k : ∀ a H', Hs B ((a, .lst xs) :: L) H' → Q (.ref a) H') : rListK K [.ref p] H Q := ⟨p, xs, rfl, .inl hq, fun a ha => k a _ (h.new ha)⟩
theorem c_listT {p : Addr} {xs : List V} (h : Hs B L H) (hq : SqT K H p xs) (k : ∀ a H', Hs B ((a, .lst xs) :: L) H' → Q (.ref a) H') : rListK K [.ref p] H Q := ⟨p, xs, rfl, .inr hq, fun a ha => k a _ (h.new ha)⟩
theorem c_divmod (h : Hs B L H) (c : CDiv i j) (k : ∀ a H', Hs B ((a, .tup [.int (i / j), .int (i % j)]) :: L) H' → Q (.ref a) H') : rDivmodK [.int i, .int j] H Q := ⟨i, j, rfl, c, fun a ha => k a _ (h.new ha)⟩
theorem c_max2 (k : Q (.int (if j > i then j else i)) H) : rMax2K [.int i, .int j] H Q := ⟨i, j, rfl, k⟩
theorem c_min2 (k : Q (.int (if j < i then j else i)) H) : rMin2K [.int i, .int j] H Q := ⟨i, j, rfl, k⟩
theorem c_abs (k : Q (.int (if i < 0 then -i else i)) H) : rAbsK [.int i] H Q := ⟨i, rfl, k⟩
theorem c_sum {p : Addr} {ns : List Int} (h : SqL K H p (ns.map V.int)) (k : Q (.int ns.sum) H) : rSum K [.ref p] H Q := ⟨p, ns, rfl, h, k⟩
theorem c_all {p : Addr} {bs : List Bool} (h : SqL K H p (bs.map V.bl)) (k : Q (.bl (bs.all id)) H) : rAll K [.ref p] H Q := ⟨p, bs, rfl, h, k⟩
theorem c_any {p : Addr} {bs : List Bool} (h : SqL K H p (bs.map V.bl)) (k : Q (.bl (bs.any id)) H) : rAny K [.ref p] H Q := ⟨p, bs, rfl, h, k⟩
theorem c_cl {sp : Sp} {dvs : List V} {W : WX} (k : tr σ H fun vs H1 => sp (vs ++ dvs) H1 Q fun c d H2 => W c d σ H2) : tCl sp dvs W tr σ H Q := k
theorem c_mt {C : Addr} {m : Str} {sp : Sp} {dvs : List V} {W : WX} (k : te σ H fun x H1 => ∃ a dx fs, x = .ref a ∧ H1 a = some (.ins C dx fs) ∧ fs.lookup m = none ∧ tr σ H1 fun vs H2 => sp (x :: (vs ++ dvs)) H2 Q fun c d H3 => W c d σ H3) : tMt C m sp dvs W te tr σ H Q := k
theorem c_recv {C dx p : Addr} {fs : List (Str × V)} {m : Str} {P : Prop} (h : H p = some (.ins C dx fs)) (hl : fs.lookup m = none) (k : P) : ∃ a dx fs, V.ref p = .ref a ∧ H a = some (.ins C dx fs) ∧ fs.lookup m = none ∧ P := ⟨p, dx, fs, rfl, h, hl, k⟩
end
/-! isinstance -/
theorem tyx_sql {p : Addr} {xs : List V} (h : SqL K H p xs) : TyX K H (.ref p) (.type "list") := by
  rcases h with (h | ⟨u, h⟩) | ⟨o, a, b, h1, h2, _⟩
  · exact .base (.lst h)
  · exact .base (.frz h)
  · exact .kList h1 h2
theorem c_isi {c : V} {t u : Value} {b : Bool} (T : TyX K H x t) (hc : ClsV c u) (e : PySem.W.kitOne K t u = some b) (k : Q (.bl b) H) : rIsi K [x, c] H Q := ⟨x, c, t, u, b, rfl, hc, T, e, k⟩
theorem k_int_int : PySem.W.kitOne K (.type "int") (.type "int") = some true := kit_ty (by decide +kernel)
theorem k_int_bool : PySem.W.kitOne K (.type "int") (.type "bool") = some false := kit_ty (by decide +kernel)
theorem k_list_list : PySem.W.kitOne K (.type "list") (.type "list") = some true := kit_ty (by decide +kernel)
theorem c_isi_ii (k : Q (.bl true) H) : rIsi K [.int i, .ty "int"] H Q := c_isi (.base (.int i)) (.ty _) k_int_int k
theorem c_isi_ib (k : Q (.bl false) H) : rIsi K [.int i, .ty "bool"] H Q := c_isi (.base (.int i)) (.ty _) k_int_bool k
theorem c_isi_ll {p : Addr} {xs : List V} (h : SqL K H p xs) (k : Q (.bl true) H) : rIsi K [.ref p, .ty "list"] H Q := c_isi (tyx_sql h) (.ty _) k_list_list k
/-! fields -/
def FldO (K : PySem.W.Frag) (f : Str) (x : V) (H : Hp) (Q : VK) : Prop := ∃ a C dx fs v, x = .ref a ∧ H a = some (.ins C dx fs) ∧ Cls K C ∧ NoAttr K C f ∧ fs.lookup f = some v ∧ Q v H
theorem c_fld {f : Str} {C dx p : Addr} {fs : List (Str × V)} (h : H p = some (.ins C dx fs)) (hc : Cls K C) (hn : NoAttr K C f) (hl : fs.lookup f = some v) (k : Q v H) : FldO K f (.ref p) H Q := ⟨p, C, dx, fs, v, rfl, h, hc, hn, hl, k⟩
end
/-! ### statements -/
section
variable {σ : St} {H : Hp} {dn : St → Hp → Prop} {dr : VK} {db dc : St → Hp → Prop} {t u : TS} {te : TE} {g : TG} {v : V} {b : Bool}
theorem w_seq (k : t ⟨u ⟨dn, dr, db, dc⟩, dr, db, dc⟩ σ H) : tSeq t u ⟨dn, dr, db, dc⟩ σ H := k
theorem w_asg (k : te σ H fun x H1 => g x σ H1 dn) : tAsg te g ⟨dn, dr, db, dc⟩ σ H := k
theorem w_name {n : Nat} {P : St → Hp → Prop} (k : P (σ.set n (some v)) H) : gName n v σ H P := k
theorem w_drop (k : te σ H fun _ H1 => dn σ H1) : tDrop te ⟨dn, dr, db, dc⟩ σ H := k
theorem w_ret (k : te σ H dr) : tRet te ⟨dn, dr, db, dc⟩ σ H := k
theorem w_if {c : TT} (k : c σ H fun b H1 => if b = true then t ⟨dn, dr, db, dc⟩ σ H1 else u ⟨dn, dr, db, dc⟩ σ H1) : tIfS c t u ⟨dn, dr, db, dc⟩ σ H := k
theorem w_next (k : dn σ H) : tNext ⟨dn, dr, db, dc⟩ σ H := k
theorem i_t {A A' : Prop} (h : b = true) (k : A) : if b = true then A else A' := by rw [if_pos h]; exact k
theorem i_f {A A' : Prop} (h : b = false) (k : A') : if b = true then A else A' := by rw [h, if_neg Bool.false_ne_true]; exact k
theorem i_2 {A A' : Prop} (k : b = true → A) (k' : b = false → A') : if b = true then A else A' := by cases b; exact iteF (k' rfl); exact iteT (k rfl)
theorem w_aug {n : Nat} {ti : TIp} (h : σ[n]? = some (some v)) (k : te σ H fun y H1 => ti v y H1 fun z H2 => dn (σ.set n (some z)) H2) : tAug n te ti ⟨dn, dr, db, dc⟩ σ H := ⟨v, h, k⟩
theorem c_ipAddI {i j : Int} {Q : VK} (k : Q (.int (i + j)) H) : ipAddU (.int i) (.int j) H Q := .inl ⟨i, j, rfl, rfl, k⟩
theorem c_ipSub {i j : Int} {Q : VK} (k : Q (.int (i - j)) H) : ipSubU (.int i) (.int j) H Q := ⟨i, j, rfl, rfl, k⟩
end
/-! ### loops over what has plain items -/
section
variable {α : Type} {K : PySem.W.Frag} {a : Addr} {g : TG} {tb : TS} {dn : St → Hp → Prop} {dr : VK} {db dc : St → Hp → Prop} {σ : St} {H : Hp}
theorem take_split {l : List α} {i : Nat} {x : α} (h : l[i]? = some x) : l = l.take i ++ x :: l.drop (i + 1) ∧ l.take (i + 1) = l.take i ++ [x] := by
  obtain ⟨hi, e⟩ := List.getElem?_eq_some_iff.mp h
  subst e
  refine ⟨?_, by rw [List.take_add_one, h]; rfl⟩
  conv => lhs; rw [← List.take_append_drop i l, List.drop_eq_getElem_cons hi]
theorem for_l (f : α → V) (l : List α) (Pv : List α → St → Hp → Prop) (h0 : Pv [] σ H) (hq : ∀ pre post σ H, l = pre ++ post → Pv pre σ H → SqL K H a (l.map f))
    (hs : ∀ pre x post σ H, l = pre ++ x :: post → Pv pre σ H → g (f x) σ H fun σ2 H2 => tb ⟨Pv (pre ++ [x]), dr, dn, Pv (pre ++ [x])⟩ σ2 H2) (hd : ∀ σ H, Pv l σ H → dn σ H) :
    ∃ W : Nat → Nat → St → Hp → Prop, (∃ m, W 0 m σ H) ∧ ∀ i m σ H, W i m σ H →
      ((Itl K a).stop i H ∧ dn σ H) ∨ ((Itl K a).go i H ∧ ∃ N : St → Hp → Prop, (∀ σ' H', N σ' H' → ∃ m', m' < m ∧ W (i + 1) m' σ' H') ∧ ∀ x H', (Itl K a).yld i H x H' → g x σ H' fun σ2 H2 => tb ⟨N, dr, dn, N⟩ σ2 H2) := by
  refine L2.for_list (D := { nx := dn, rt := dr }) (xs := l.map f) (fun i => Pv (l.take i)) (by simpa using h0) (fun i σ H _ p => hq _ (l.drop i) σ H (List.take_append_drop i l).symm p) (fun i x σ H hx p => ?_) (fun σ H p => hd σ H (by simpa using p))
  rw [List.getElem?_map] at hx
  cases e : l[i]? with
  | none => rw [e] at hx; cases hx
  | some y =>
    rw [e] at hx
    cases hx
    obtain ⟨e1, e2⟩ := take_split e
    have z := hs _ y _ σ H e1 p
    rw [e2]
    exact z
theorem lc_l {tt : TT} {te : TE} {vs : List Nat} {D : Addr} {Qd : Hp → Prop} (f : α → V) (l : List α) (Pv : List α → Hp → Prop) (h0 : Pv [] (upd H D (.lst []))) (hq : ∀ pre post H, l = pre ++ post → Pv pre H → SqL K H a (l.map f))
    (hs : ∀ pre x post H, l = pre ++ x :: post → Pv pre H → g (f x) (wipe σ vs) H fun σ2 H2 => wipe σ2 vs = wipe σ vs ∧ tt σ2 H2 fun b H3 =>
      if b = true then te σ2 H3 fun y H4 => ∃ acc, H4 D = some (.lst acc) ∧ acc.length < sizeLine ∧ Pv (pre ++ [x]) (upd H4 D (.lst (acc ++ [y]))) else Pv (pre ++ [x]) H3) (hd : ∀ H, Pv l H → Qd H) :
    ∃ W : Nat → Nat → Hp → Prop, (∃ m, W 0 m (upd H D (.lst []))) ∧ ∀ i m H, W i m H →
      ((Itl K a).stop i H ∧ Qd H) ∨ ((Itl K a).go i H ∧ ∃ Nx : Hp → Prop, (∀ H', Nx H' → ∃ m', m' < m ∧ W (i + 1) m' H') ∧ ∀ x H', (Itl K a).yld i H x H' → g x (wipe σ vs) H' fun σ2 H2 => wipe σ2 vs = wipe σ vs ∧ tt σ2 H2 fun b H3 =>
        if b = true then te σ2 H3 fun y H4 => ∃ acc, H4 D = some (.lst acc) ∧ acc.length < sizeLine ∧ Nx (upd H4 D (.lst (acc ++ [y]))) else Nx H3) := by
  refine L2.lc_list (xs := l.map f) (fun i => Pv (l.take i)) (by simpa using h0) (fun i H _ p => hq _ (l.drop i) H (List.take_append_drop i l).symm p) (fun i x H hx p => ?_) (fun H p => hd H (by simpa using p))
  rw [List.getElem?_map] at hx
  cases e : l[i]? with
  | none => rw [e] at hx; cases hx
  | some y =>
    rw [e] at hx
    cases hx
    obtain ⟨e1, e2⟩ := take_split e
    have z := hs _ y _ H e1 p
    rw [e2]
    exact z
end
end L2.BP
namespace L2.BP
open PySem PySem.Spec PyProof.Rows
/-- a def as callers see it: what its defaults are, how the written arguments bind, its promise -/
def DOk (P : Program) (w : World) (K : PySem.W.Frag) (mg : Str → Option Value) (base : Heap) (k : Nat) (f : Addr) (ps : List Str) (dvs : List V) (sp : Sp) : Prop :=
  ∃ (fd : FuncData) (ds : List Value), Vals dvs ds ∧ Binds K fd ps ds ∧ FnOk P w K mg base (L2.CX P w) k f fd ps sp ∧ PySem.W.keepIn K (.ref f) = true
abbrev WF : WX := fun _ _ _ _ => False
/-! ### one of two readings of the same expression -/
def tOrE (t u : TE) : TE := fun σ H Q => t σ H Q ∨ u σ H Q
theorem pe_orE {X : Cx} {e : Expr} {t u : TE} (h : PE X e t) (h' : PE X e u) : PE X e (tOrE t u) :=
  ⟨fun pins s σ H Q I z => z.elim (h.run pins s σ H Q I) (h'.run pins s σ H Q I)⟩
/-! ### kinds of things -/
inductive Tg where
  | non | bl (b : Bool) | int (i : Int) | str (x : Str) | lst (xs : List V) | tup (xs : List V) | dic
/-- the thing v is of that kind -/
inductive Th (K : PySem.W.Frag) (H : Hp) : V → Tg → Prop where
  | non : Th K H .non .non
  | bl (b : Bool) : Th K H (.bl b) (.bl b)
  | int (i : Int) : Th K H (.int i) (.int i)
  | str (x : Str) : Th K H (.str x) (.str x)
  | lst {a : Addr} {xs : List V} (h : SqL K H a xs) : Th K H (.ref a) (.lst xs)
  | tup {a : Addr} {xs : List V} (h : SqT K H a xs) : Th K H (.ref a) (.tup xs)
  | dic {a : Addr} {kvs : List (Key × V)} (h : H a = some (.dK kvs)) : Th K H (.ref a) .dic
def Tg.ty : Tg → String
  | .non => "NoneType" | .bl _ => "bool" | .int _ => "int" | .str _ => "str" | .lst _ => "list" | .tup _ => "tuple" | .dic => "dict"
section
variable {K : PySem.W.Frag} {H H' : Hp} {v : V} {g : Tg} {Q : VK}
theorem Th.same (h : Th K H v g) (e : Same H H') : Th K H' v g := by
  cases h with
  | non => exact .non
  | bl b => exact .bl b
  | int i => exact .int i
  | str x => exact .str x
  | lst h => exact .lst (e.seq h)
  | tup h => exact .tup (same_sqt e h)
  | dic h => exact .dic (e _ _ h)
theorem tyx_sqt {p : Addr} {xs : List V} (h : SqT K H p xs) : TyX K H (.ref p) (.type "tuple") := by
  rcases h with (h | ⟨u, h⟩) | ⟨o, a, b, h1, h2, _⟩
  · exact .base (.tup h)
  · exact .fTuple h
  · exact .kTuple h1 h2
theorem Th.tyx (h : Th K H v g) : TyX K H v (.type g.ty) := by
  cases h with
  | non => exact .base .non
  | bl b => exact .base (.bl b)
  | int i => exact .base (.int i)
  | str x => exact .base (.str x)
  | lst h => exact tyx_sql h
  | tup h => exact tyx_sqt h
  | dic h => exact .base (.dK h)
def Tg.isInt : Tg → Bool
  | .bl _ => true | .int _ => true | _ => false
def Tg.isBool : Tg → Bool
  | .bl _ => true | _ => false
def Tg.isList : Tg → Bool
  | .lst _ => true | _ => false
def Tg.isStr : Tg → Bool
  | .str _ => true | _ => false
def Tg.isTup : Tg → Bool
  | .tup _ => true | _ => false
theorem Tg.kInt (g : Tg) : PySem.W.kitOne K (.type g.ty) (.type "int") = some g.isInt := by cases g <;> exact kit_ty (by kernel_rfl)
theorem Tg.kBool (g : Tg) : PySem.W.kitOne K (.type g.ty) (.type "bool") = some g.isBool := by cases g <;> exact kit_ty (by kernel_rfl)
theorem Tg.kList (g : Tg) : PySem.W.kitOne K (.type g.ty) (.type "list") = some g.isList := by cases g <;> exact kit_ty (by kernel_rfl)
theorem Tg.kStr (g : Tg) : PySem.W.kitOne K (.type g.ty) (.type "str") = some g.isStr := by cases g <;> exact kit_ty (by kernel_rfl)
theorem Tg.kTup (g : Tg) : PySem.W.kitOne K (.type g.ty) (.type "tuple") = some g.isTup := by cases g <;> exact kit_ty (by kernel_rfl)
theorem c_isiInt (h : Th K H v g) (k : Q (.bl g.isInt) H) : rIsi K [v, .ty "int"] H Q := c_isi h.tyx (.ty _) g.kInt k
theorem c_isiBool (h : Th K H v g) (k : Q (.bl g.isBool) H) : rIsi K [v, .ty "bool"] H Q := c_isi h.tyx (.ty _) g.kBool k
theorem c_isiList (h : Th K H v g) (k : Q (.bl g.isList) H) : rIsi K [v, .ty "list"] H Q := c_isi h.tyx (.ty _) g.kList k
theorem c_isiStr (h : Th K H v g) (k : Q (.bl g.isStr) H) : rIsi K [v, .ty "str"] H Q := c_isi h.tyx (.ty _) g.kStr k
theorem c_isiTup (h : Th K H v g) (k : Q (.bl g.isTup) H) : rIsi K [v, .ty "tuple"] H Q := c_isi h.tyx (.ty _) g.kTup k
/-- the results of defs that change nothing: a value, a new list, a new tuple -/
def RetV (H : Hp) (Q : VK) (v : V) : Prop := ∀ H', Same H H' → Q v H'
def RetL (H : Hp) (Q : VK) (xs : List V) : Prop := ∀ p H', H p = none → Same H H' → H' p = some (.lst xs) → Q (.ref p) H'
def RetT (H : Hp) (Q : VK) (xs : List V) : Prop := ∀ p H', H p = none → Same H H' → H' p = some (.tup xs) → Q (.ref p) H'
end
section
variable {B H : Hp} {L : List (Addr × HO)} {K : PySem.W.Frag} {Q : VK} {v : V} {xs : List V}
theorem Hs.rv (h : Hs B L H) (k : RetV B Q v) : Q v H := k H h.ex
theorem Hs.rl {p : Addr} (h : Hs B L H) (m : (p, HO.lst xs) ∈ L) (k : RetL B Q xs) : Q (.ref p) H := k p H (h.nb m) h.ex (h.get m)
theorem Hs.rt {p : Addr} (h : Hs B L H) (m : (p, HO.tup xs) ∈ L) (k : RetT B Q xs) : Q (.ref p) H := k p H (h.nb m) h.ex (h.get m)
theorem retV (h : Hs B L H) (k : ∀ H', Hs B L H' → Q v H') : RetV H Q v := fun H' e => k H' (h.same e)
theorem retL (h : Hs B L H) (k : ∀ p H', Hs B ((p, .lst xs) :: L) H' → Q (.ref p) H') : RetL H Q xs := fun p H' hp e hn => k p H' (h.newS hp e hn)
theorem retT (h : Hs B L H) (k : ∀ p H', Hs B ((p, .tup xs) :: L) H' → Q (.ref p) H') : RetT H Q xs := fun p H' hp e hn => k p H' (h.newS hp e hn)
end
end L2.BP
namespace L2.BP
open PySem PySem.Spec PyProof.Rows
/-! ### loops over the picture of the heap: I tells of what is done, the slots, the own objects, the base -/
abbrev Pic : Type := List (Addr × HO)
section
variable {α : Type} {K : PySem.W.Frag} {a : Addr} {g : TG} {tb : TS} {dn : St → Hp → Prop} {dr : VK} {db dc : St → Hp → Prop} {σ : St} {H B : Hp} {L : Pic}
/-- a list that is read stands in the base, or is an own one that is not changed -/
def NxI {β : Type} (I : β → St → Pic → Hp → Prop) (b : β) : St → Hp → Prop := fun σ H => ∃ L B, I b σ L B ∧ Hs B L H
theorem w_forL (f : α → V) (l : List α) (I : List α → St → Pic → Hp → Prop) (hs : Hs B L H) (h0 : I [] σ L B) (hq : ∀ pre post σ' L' B' H', l = pre ++ post → I pre σ' L' B' → Hs B' L' H' → SqL K H' a (l.map f))
    (turn : ∀ pre x post σ' L' B' H', l = pre ++ x :: post → I pre σ' L' B' → Hs B' L' H' → g (f x) σ' H' fun σ2 H2 => tb ⟨NxI I (pre ++ [x]), dr, dn, NxI I (pre ++ [x])⟩ σ2 H2)
    (fin : ∀ σ' L' B' H', I l σ' L' B' → Hs B' L' H' → dn σ' H') :
    ∃ b, V.ref a = .ref b ∧ (∃ xs, SqL K H b xs) ∧ ∃ W : Nat → Nat → St → Hp → Prop, (∃ m, W 0 m σ H) ∧ ∀ i m σ H, W i m σ H →
      ((Itl K b).stop i H ∧ dn σ H) ∨ ((Itl K b).go i H ∧ ∃ N : St → Hp → Prop, (∀ σ' H', N σ' H' → ∃ m', m' < m ∧ W (i + 1) m' σ' H') ∧ ∀ x H', (Itl K b).yld i H x H' → g x σ H' fun σ2 H2 => tb ⟨N, dr, dn, N⟩ σ2 H2) :=
  ⟨a, rfl, ⟨_, hq [] l σ L B H rfl h0 hs⟩, for_l f l (NxI I) ⟨L, B, h0, hs⟩ (fun pre post σ' H' e ⟨_, _, i, h⟩ => hq pre post _ _ _ _ e i h) (fun pre x post σ' H' e ⟨_, _, i, h⟩ => turn pre x post _ _ _ _ e i h) fun σ' H' ⟨_, _, i, h⟩ => fin _ _ _ _ i h⟩
theorem w_forR {lo : Int} {n : Nat} (I : Nat → St → Pic → Hp → Prop) (hs : Hs B L H) (h0 : I 0 σ L B)
    (turn : ∀ i σ' L' B' H', i < n → I i σ' L' B' → Hs B' L' H' → g (.int (lo + i)) σ' H' fun σ2 H2 => tb ⟨NxI I (i + 1), dr, dn, NxI I (i + 1)⟩ σ2 H2)
    (fin : ∀ σ' L' B' H', I n σ' L' B' → Hs B' L' H' → dn σ' H') :
    ∃ W : Nat → Nat → St → Hp → Prop, (∃ m, W 0 m σ H) ∧ ∀ i m σ H, W i m σ H →
      ((Itr lo n).stop i H ∧ dn σ H) ∨ ((Itr lo n).go i H ∧ ∃ N : St → Hp → Prop, (∀ σ' H', N σ' H' → ∃ m', m' < m ∧ W (i + 1) m' σ' H') ∧ ∀ x H', (Itr lo n).yld i H x H' → g x σ H' fun σ2 H2 => tb ⟨N, dr, dn, N⟩ σ2 H2) :=
  L2.for_range (D := { nx := dn, rt := dr }) (NxI I) ⟨L, B, h0, hs⟩ (fun i σ' H' e ⟨_, _, q, h⟩ => turn i _ _ _ _ e q h) fun σ' H' ⟨_, _, q, h⟩ => fin _ _ _ _ q h
theorem c_rng1 {n : Int} {P : It → Hp → Prop} (h1 : -(2 ^ 62) ≤ n) (h2 : n < 2 ^ 62) (k : P (Itr 0 n.toNat) H) : ∃ j : Int, [V.int n] = [.int j] ∧ -(2 ^ 62) ≤ j ∧ j < 2 ^ 62 ∧ P (Itr 0 j.toNat) H := ⟨n, rfl, h1, h2, k⟩
theorem c_rng2 {i j : Int} {P : It → Hp → Prop} (h1 : -(2 ^ 62) ≤ i ∧ i < 2 ^ 62 ∧ -(2 ^ 62) ≤ j ∧ j < 2 ^ 62) (k : P (Itr i (j - i).toNat) H) :
    ∃ i' j' : Int, [V.int i, V.int j] = [.int i', .int j'] ∧ (-(2 ^ 62) ≤ i' ∧ i' < 2 ^ 62 ∧ -(2 ^ 62) ≤ j' ∧ j' < 2 ^ 62) ∧ P (Itr i' (j' - i').toNat) H := ⟨i, j, rfl, h1, k⟩
/-- while: I falls by its number -/
def WhN (I : Nat → St → Pic → Hp → Prop) (m : Nat) : St → Hp → Prop := fun σ H => ∃ m', m' < m ∧ NxI I m' σ H
theorem w_while {c : TT} (I : Nat → St → Pic → Hp → Prop) (m0 : Nat) (hs : Hs B L H) (h0 : I m0 σ L B)
    (turn : ∀ m σ' L' B' H', I m σ' L' B' → Hs B' L' H' → c σ' H' fun b H1 => if b = true then ∃ N : St → Hp → Prop, (∀ σ3 H3, N σ3 H3 → WhN I m σ3 H3) ∧ tb ⟨N, dr, dn, N⟩ σ' H1 else dn σ' H1) :
    tWhile c tb ⟨dn, dr, db, dc⟩ σ H := ⟨fun m => NxI I m, ⟨m0, L, B, h0, hs⟩, fun m σ' H' ⟨_, _, q, h⟩ => turn m σ' _ _ H' q h⟩
theorem w_turn {P : St → Hp → Prop} (k : tb ⟨P, dr, dn, P⟩ σ H) : ∃ N : St → Hp → Prop, (∀ σ3 H3, N σ3 H3 → P σ3 H3) ∧ tb ⟨N, dr, dn, N⟩ σ H := ⟨_, fun _ _ w => w, k⟩
end
/-! ### comprehensions -/
section
variable {α : Type} {K : PySem.W.Frag} {a : Addr} {g : TG} {tt : TT} {te tl : TE} {σ : St} {H B : Hp} {L : Pic} {Q : VK} {vs : List Nat}
/-- the turn's word: what was made so far stands at D -/
def LcN (I : List α → List V → Hp → Prop) (B : Hp) (L : Pic) (D : Addr) (pre : List α) : Hp → Prop := fun H' => ∃ acc B', I pre acc B' ∧ Same B B' ∧ Hs B' ((D, .lst acc) :: L) H'
theorem c_lcL {P : Addr → Hp → Prop} (f : α → V) (l : List α) (I : List α → List V → Hp → Prop) (hs : Hs B L H) (h0 : I [] [] B)
    (hq : ∀ B' H', Same B B' → Hs B' L H' → SqL K H' a (l.map f))
    (turn : ∀ pre x post acc B' D H', l = pre ++ x :: post → I pre acc B' → Same B B' → Hs B' ((D, .lst acc) :: L) H' → g (f x) (wipe σ vs) H' fun σ2 H2 => wipe σ2 vs = wipe σ vs ∧ tt σ2 H2 fun b H3 =>
      if b = true then te σ2 H3 fun y H4 => ∃ acc, H4 D = some (.lst acc) ∧ acc.length < sizeLine ∧ LcN I B L D (pre ++ [x]) (upd H4 D (.lst (acc ++ [y]))) else LcN I B L D (pre ++ [x]) H3)
    (fin : ∀ acc B' D H', I l acc B' → Same B B' → Hs B' ((D, .lst acc) :: L) H' → P D H') :
    ∃ b, V.ref a = .ref b ∧ (∃ xs, SqL K H b xs) ∧ ∀ D, H D = none → ∃ W : Nat → Nat → Hp → Prop, (∃ m, W 0 m (upd H D (.lst []))) ∧ ∀ i m H, W i m H →
      ((Itl K b).stop i H ∧ P D H) ∨ ((Itl K b).go i H ∧ ∃ Nx : Hp → Prop, (∀ H', Nx H' → ∃ m', m' < m ∧ W (i + 1) m' H') ∧ ∀ x H', (Itl K b).yld i H x H' → g x (wipe σ vs) H' fun σ2 H2 => wipe σ2 vs = wipe σ vs ∧ tt σ2 H2 fun b H3 =>
        if b = true then te σ2 H3 fun y H4 => ∃ acc, H4 D = some (.lst acc) ∧ acc.length < sizeLine ∧ Nx (upd H4 D (.lst (acc ++ [y]))) else Nx H3) :=
  ⟨a, rfl, ⟨_, hq B H (Same.refl B) hs⟩, fun D hD => lc_l f l (LcN I B L D) ⟨[], B, h0, Same.refl B, hs.new hD⟩ (fun pre post H' _ ⟨acc, B', _, e, h⟩ => hq B' H' e h.drop)
    (fun pre x post H' e ⟨acc, B', p, e2, h⟩ => turn pre x post acc B' D H' e p e2 h) fun H' ⟨acc, B', p, e, h⟩ => fin acc B' D H' p e h⟩
theorem c_lcR {P : Addr → Hp → Prop} {lo : Int} {n : Nat} (I : Nat → List V → Hp → Prop) (hs : Hs B L H) (h0 : I 0 [] B)
    (turn : ∀ i acc B' D H', i < n → I i acc B' → Same B B' → Hs B' ((D, .lst acc) :: L) H' → g (.int (lo + i)) (wipe σ vs) H' fun σ2 H2 => wipe σ2 vs = wipe σ vs ∧ tt σ2 H2 fun b H3 =>
      if b = true then te σ2 H3 fun y H4 => ∃ acc, H4 D = some (.lst acc) ∧ acc.length < sizeLine ∧ (fun H' => ∃ acc B', I (i + 1) acc B' ∧ Same B B' ∧ Hs B' ((D, .lst acc) :: L) H') (upd H4 D (.lst (acc ++ [y]))) else (fun H' => ∃ acc B', I (i + 1) acc B' ∧ Same B B' ∧ Hs B' ((D, .lst acc) :: L) H') H3)
    (fin : ∀ acc B' D H', I n acc B' → Same B B' → Hs B' ((D, .lst acc) :: L) H' → P D H') :
    ∀ D, H D = none → ∃ W : Nat → Nat → Hp → Prop, (∃ m, W 0 m (upd H D (.lst []))) ∧ ∀ i m H, W i m H →
      ((Itr lo n).stop i H ∧ P D H) ∨ ((Itr lo n).go i H ∧ ∃ Nx : Hp → Prop, (∀ H', Nx H' → ∃ m', m' < m ∧ W (i + 1) m' H') ∧ ∀ x H', (Itr lo n).yld i H x H' → g x (wipe σ vs) H' fun σ2 H2 => wipe σ2 vs = wipe σ vs ∧ tt σ2 H2 fun b H3 =>
        if b = true then te σ2 H3 fun y H4 => ∃ acc, H4 D = some (.lst acc) ∧ acc.length < sizeLine ∧ Nx (upd H4 D (.lst (acc ++ [y]))) else Nx H3) :=
  fun D hD => L2.lc_range (fun i H' => ∃ acc B', I i acc B' ∧ Same B B' ∧ Hs B' ((D, .lst acc) :: L) H') ⟨[], B, h0, Same.refl B, hs.new hD⟩
    (fun i H' e ⟨acc, B', p, e2, h⟩ => turn i acc B' D H' e p e2 h) fun H' ⟨acc, B', p, e, h⟩ => fin acc B' D H' p e h
/-- one item more -/
theorem c_item {D : Addr} {acc : List V} {y : V} {B2 : Hp} {P : List V → Hp → Prop} (h : Hs B2 ((D, .lst acc) :: L) H) (hz : acc.length < sizeLine) (e : Same B B2) (i : P (acc ++ [y]) B2) :
    ∃ acc, H D = some (.lst acc) ∧ acc.length < sizeLine ∧ ∃ acc2 B', P acc2 B' ∧ Same B B' ∧ Hs B' ((D, .lst acc2) :: L) (upd H D (.lst (acc ++ [y]))) :=
  ⟨acc, h.get (.head _), hz, acc ++ [y], B2, i, e, h.u0⟩
theorem c_lc {wi : TI} (k : wi σ H fun J H1 => ∀ D, H1 D = none → ∃ W : Nat → Nat → Hp → Prop, (∃ m, W 0 m (upd H1 D (.lst []))) ∧ ∀ i m H, W i m H →
      (J.stop i H ∧ Q (.ref D) H) ∨ (J.go i H ∧ ∃ Nx : Hp → Prop, (∀ H', Nx H' → ∃ m', m' < m ∧ W (i + 1) m' H') ∧ ∀ x H', J.yld i H x H' → g x (wipe σ vs) H' fun σ2 H2 => wipe σ2 vs = wipe σ vs ∧ tt σ2 H2 fun b H3 =>
        if b = true then te σ2 H3 fun y H4 => ∃ acc, H4 D = some (.lst acc) ∧ acc.length < sizeLine ∧ Nx (upd H4 D (.lst (acc ++ [y]))) else Nx H3)) : tLc wi g tt te vs σ H Q := k
theorem w_for {wi : TI} {tb : TS} {dn : St → Hp → Prop} {dr : VK} {db dc : St → Hp → Prop} (k : wi σ H fun J H1 => ∃ W : Nat → Nat → St → Hp → Prop, (∃ m, W 0 m σ H1) ∧ ∀ i m σ H, W i m σ H →
  (J.stop i H ∧ dn σ H) ∨ (J.go i H ∧ ∃ N : St → Hp → Prop, (∀ σ' H', N σ' H' → ∃ m', m' < m ∧ W (i + 1) m' σ' H') ∧ ∀ x H', J.yld i H x H' → g x σ H' fun σ2 H2 => tb ⟨N, dr, dn, N⟩ σ2 H2)) : tFor wi g tb ⟨dn, dr, db, dc⟩ σ H := k
theorem c_iL {R : It → Hp → Prop} (k : tl σ H fun x H1 => ∃ a, x = .ref a ∧ (∃ xs, SqL K H1 a xs) ∧ R (Itl K a) H1) : iList K tl σ H R := k
theorem c_iT {R : It → Hp → Prop} (k : tl σ H fun x H1 => ∃ a, x = .ref a ∧ (∃ xs, SqT K H1 a xs) ∧ R (Itt K a) H1) : iTup K tl σ H R := k
theorem c_iR1 {ta : TA} {R : It → Hp → Prop} (k : ta σ H fun vs H1 => ∃ j : Int, vs = [.int j] ∧ -(2 ^ 62) ≤ j ∧ j < 2 ^ 62 ∧ R (Itr 0 j.toNat) H1) : iRng1 ta σ H R := k
theorem c_iR2 {ta : TA} {R : It → Hp → Prop} (k : ta σ H fun vs H1 => ∃ i j : Int, vs = [.int i, .int j] ∧ (-(2 ^ 62) ≤ i ∧ i < 2 ^ 62 ∧ -(2 ^ 62) ≤ j ∧ j < 2 ^ 62) ∧ R (Itr i (j - i).toNat) H1) : iRng2 ta σ H R := k
theorem c_yes {P : Bool → Hp → Prop} (k : P true H) : tYes σ H P := k
/-! targets, fields, methods of lists -/
theorem g_tup {n : Nat} {t : TGs} {xs : List V} {P : St → Hp → Prop} (h : SqT K H a xs) (hn : xs.length = n) (k : t xs σ H P) : gTup K n t (.ref a) σ H P := ⟨a, xs, rfl, h, hn, k⟩
theorem g_lst {n : Nat} {t : TGs} {xs : List V} {P : St → Hp → Prop} (h : SqL K H a xs) (hn : xs.length = n) (k : t xs σ H P) : gLst K n t (.ref a) σ H P := ⟨a, xs, rfl, h, hn, k⟩
theorem g_cons {t : TG} {u : TGs} {v : V} {r : List V} {P : St → Hp → Prop} (k : t v σ H fun σ' H' => u r σ' H' P) : gCons t u (v :: r) σ H P := ⟨v, r, rfl, k⟩
theorem g_nil {P : St → Hp → Prop} (k : P σ H) : gNil [] σ H P := ⟨rfl, k⟩
theorem c_tfld {f : Str} (k : te σ H fun x H1 => FldO K f x H1 Q) : tFld K te f σ H Q := k
def PutO (K : PySem.W.Frag) (f : Str) (y x : V) (H : Hp) (P : Hp → Prop) : Prop := ∃ a C dx fs, x = .ref a ∧ H a = some (.ins C dx fs) ∧ Cls K C ∧ NoAttr K C f ∧ fs.length < 1000 ∧ P (upd H a (.ins C dx (putF f y fs)))
theorem w_sfld {f : Str} {ta : TE} {dn : St → Hp → Prop} {dr : VK} {db dc : St → Hp → Prop} (k : te σ H fun y H1 => ta σ H1 fun x H2 => PutO K f y x H2 (dn σ)) : sFld K ta te f ⟨dn, dr, db, dc⟩ σ H := k
theorem w_put0 {f : Str} {C dx : Addr} {y : V} {fs fs' : List (Str × V)} {P : Hp → Prop} (hs : Hs B ((a, .ins C dx fs) :: L) H) (hc : Cls K C) (hn : NoAttr K C f) (hl : fs.length < 1000) (e : putF f y fs = fs')
    (k : ∀ H', Hs B ((a, .ins C dx fs') :: L) H' → P H') : PutO K f y (.ref a) H P :=
  ⟨a, C, dx, fs, rfl, hs.get (.head _), hc, hn, hl, by rw [e]; exact k _ hs.u0⟩
theorem w_put1 {q : Addr × HO} {f : Str} {C dx : Addr} {y : V} {fs fs' : List (Str × V)} {P : Hp → Prop} (hs : Hs B (q :: (a, .ins C dx fs) :: L) H) (hc : Cls K C) (hn : NoAttr K C f) (hl : fs.length < 1000) (e : putF f y fs = fs')
    (k : ∀ H', Hs B (q :: (a, .ins C dx fs') :: L) H' → P H') : PutO K f y (.ref a) H P := w_put0 hs.swap hc hn hl e fun H' h => k H' h.swap
theorem w_put2 {q r : Addr × HO} {f : Str} {C dx : Addr} {y : V} {fs fs' : List (Str × V)} {P : Hp → Prop} (hs : Hs B (q :: r :: (a, .ins C dx fs) :: L) H) (hc : Cls K C) (hn : NoAttr K C f) (hl : fs.length < 1000) (e : putF f y fs = fs')
    (k : ∀ H', Hs B (q :: r :: (a, .ins C dx fs') :: L) H' → P H') : PutO K f y (.ref a) H P := w_put0 hs.rot3 hc hn hl e fun H' h => k H' h.unrot3
def AugO (K : PySem.W.Frag) (f : Str) (x : V) (H : Hp) (P : Addr → Addr → V → Prop) : Prop := ∃ a C dx fs v, x = .ref a ∧ H a = some (.ins C dx fs) ∧ Cls K C ∧ NoAttr K C f ∧ fs.lookup f = some v ∧ P a C v
def AputO (f : Str) (a C : Addr) (z : V) (H : Hp) (P : Hp → Prop) : Prop := ∃ dx' fs', H a = some (.ins C dx' fs') ∧ fs'.length < 1000 ∧ P (upd H a (.ins C dx' (putF f z fs')))
theorem w_sfldAug {f : Str} {ta : TE} {rd : V → V → Hp → VK → Prop} {dn : St → Hp → Prop} {dr : VK} {db dc : St → Hp → Prop} (k : ta σ H fun x H1 => AugO K f x H1 fun a C v => te σ H1 fun y H2 => rd v y H2 fun z H3 => AputO f a C z H3 (dn σ)) : sFldAug K ta te rd f ⟨dn, dr, db, dc⟩ σ H := k
theorem c_fldA {f : Str} {C dx : Addr} {fs : List (Str × V)} {v : V} {P : Addr → Addr → V → Prop} (h : H a = some (.ins C dx fs)) (hc : Cls K C) (hn : NoAttr K C f) (hl : fs.lookup f = some v) (k : P a C v) :
    AugO K f (.ref a) H P := ⟨a, C, dx, fs, v, rfl, h, hc, hn, hl, k⟩
theorem c_radd {i j : Int} (k : Q (.int (i + j)) H) : rAdd (.int i) (.int j) H Q := ⟨i, j, rfl, rfl, k⟩
theorem c_rsub {i j : Int} (k : Q (.int (i - j)) H) : rSub (.int i) (.int j) H Q := ⟨i, j, rfl, rfl, k⟩
theorem w_aput0 {f : Str} {C dx : Addr} {z : V} {fs fs' : List (Str × V)} {P : Hp → Prop} (hs : Hs B ((a, .ins C dx fs) :: L) H) (hl : fs.length < 1000) (e : putF f z fs = fs') (k : ∀ H', Hs B ((a, .ins C dx fs') :: L) H' → P H') :
    AputO f a C z H P := ⟨dx, fs, hs.get (.head _), hl, by rw [e]; exact k _ hs.u0⟩
theorem w_aput1 {q : Addr × HO} {f : Str} {C dx : Addr} {z : V} {fs fs' : List (Str × V)} {P : Hp → Prop} (hs : Hs B (q :: (a, .ins C dx fs) :: L) H) (hl : fs.length < 1000) (e : putF f z fs = fs') (k : ∀ H', Hs B (q :: (a, .ins C dx fs') :: L) H' → P H') :
    AputO f a C z H P := w_aput0 hs.swap hl e fun H' h => k H' h.swap
theorem w_aput2 {q r : Addr × HO} {f : Str} {C dx : Addr} {z : V} {fs fs' : List (Str × V)} {P : Hp → Prop} (hs : Hs B (q :: r :: (a, .ins C dx fs) :: L) H) (hl : fs.length < 1000) (e : putF f z fs = fs') (k : ∀ H', Hs B (q :: r :: (a, .ins C dx fs') :: L) H' → P H') :
    AputO f a C z H P := w_aput0 hs.rot3 hl e fun H' h => k H' h.unrot3
theorem c_bm {T : String} {r : V → List V → Hp → VK → Prop} {t : TA} (k : te σ H fun x H1 => tyV K T x H1 ∧ t σ H1 fun xs H2 => r x xs H2 Q) : tBM K T r te t σ H Q := k
theorem c_bm0 {T : String} {r : V → List V → Hp → VK → Prop} (k : te σ H fun x H1 => tyV K T x H1 ∧ r x [] H1 Q) : tBM0 K T r te σ H Q := k
theorem c_tyL {xs : List V} {P : Prop} (h : SqL K H a xs) (k : P) : tyV K "list" (.ref a) H ∧ P := ⟨.inl ⟨rfl, _, h⟩, k⟩
theorem c_app0 {xs : List V} {y : V} (hs : Hs B ((a, .lst xs) :: L) H) (hz : xs.length < sizeLine) (k : ∀ H', Hs B ((a, .lst (xs ++ [y])) :: L) H' → Q .non H') : rAppend (.ref a) [y] H Q := ⟨a, xs, y, rfl, rfl, hs.get (.head _), hz, k _ hs.u0⟩
theorem c_app1 {q : Addr × HO} {xs : List V} {y : V} (hs : Hs B (q :: (a, .lst xs) :: L) H) (hz : xs.length < sizeLine) (k : ∀ H', Hs B (q :: (a, .lst (xs ++ [y])) :: L) H' → Q .non H') : rAppend (.ref a) [y] H Q := c_app0 hs.swap hz fun H' h => k H' h.swap
theorem c_app2 {q r : Addr × HO} {xs : List V} {y : V} (hs : Hs B (q :: r :: (a, .lst xs) :: L) H) (hz : xs.length < sizeLine) (k : ∀ H', Hs B (q :: r :: (a, .lst (xs ++ [y])) :: L) H' → Q .non H') : rAppend (.ref a) [y] H Q := c_app0 hs.rot3 hz fun H' h => k H' h.unrot3
theorem c_sl {r : V → Option Int → Option Int → Hp → VK → Prop} {lo hi : TO} (k : te σ H fun x H1 => lo σ H1 fun l H2 => hi σ H2 fun u H3 => r x l u H3 Q) : tSl r te lo hi σ H Q := k
theorem c_part {P : Option Int → Hp → Prop} (k : te σ H fun x H1 => ∃ i, x = .int i ∧ P (some i) H1) : tPart te σ H P := k
theorem c_nopart {P : Option Int → Hp → Prop} (k : P none H) : tNoPart σ H P := k
theorem c_i {i : Int} {P : Int → Prop} (k : P i) : ∃ j, V.int i = .int j ∧ P j := ⟨i, rfl, k⟩
theorem small5 {n : Nat} (h : n ≤ 100000) : n < sizeLine := Nat.lt_of_le_of_lt h (by decide)
theorem small5' {n : Nat} (h : n ≤ 100000) : n ≤ sizeLine := Nat.le_trans h (by decide)
end
end L2.BP
namespace L2.BP
open PySem PySem.Spec PyProof.Rows
section
variable {f g : Str} {v w y : V} {r r' : List (Str × V)}
theorem look0 : List.lookup f ((f, v) :: r) = some v := by simp [List.lookup]
theorem lookS (h : ¬ f = g) (e : List.lookup f r = some v) : List.lookup f ((g, w) :: r) = some v := by
  have n : (f == g) = false := by simpa using h
  show (match f == g with | true => some w | false => List.lookup f r) = some v
  rw [n]
  exact e
theorem lookN : List.lookup f ([] : List (Str × V)) = none := rfl
theorem lookNS (h : ¬ f = g) (e : List.lookup f r = none) : List.lookup f ((g, w) :: r) = none := by
  have n : (f == g) = false := by simpa using h
  show (match f == g with | true => some w | false => List.lookup f r) = none
  rw [n]
  exact e
theorem put0 : putF f y ((f, v) :: r) = (f, y) :: r := if_pos rfl
theorem putN : putF f y [] = [(f, y)] := rfl
theorem putS (h : ¬ g = f) (e : putF f y r = r') : putF f y ((g, w) :: r) = (g, w) :: r' := by
  show (if g = f then _ else (g, w) :: putF f y r) = _
  rw [if_neg h, e]
end
section
variable {K : PySem.W.Frag} {σ : St} {H B : Hp} {L : Pic} {Q : VK} {sp : Sp} {W : WX} {dvs vs : List V} {C : Addr}
def MkO (C : Addr) (sp : Sp) (vs : List V) (H : Hp) (Q : VK) (E : XK) : Prop := ∀ x dx, H x = none → H dx = none → dx ≠ x → sp (.ref x :: vs) (upd (upd H dx (.own x)) x (.ins C dx [])) (fun v H2 => v = .non ∧ Q (.ref x) H2) E
theorem c_mk {t : TA} (k : t σ H fun vs H1 => MkO C sp (vs ++ dvs) H1 Q fun c d H2 => W c d σ H2) : tMk C sp dvs W t σ H Q := k
theorem c_mkO {E : XK} (hs : Hs B L H) (k : ∀ x dx H', Hs B ((x, .ins C dx []) :: L) H' → sp (.ref x :: vs) H' (fun v H2 => v = .non ∧ Q (.ref x) H2) E) : MkO C sp vs H Q E := fun x dx hx hdx ne => by
  have h1 := hs.new (o := HO.own x) hdx
  have h2 : (upd H dx (.own x)) x = none := by rw [upd_ne (Ne.symm ne)]; exact hx
  exact k x dx _ (h1.new h2).swap.drop
/-- drop what stands second, third -/
theorem Hs.drop1 {a b : Addr × HO} (h : Hs B (a :: b :: L) H) : Hs B (a :: L) H := h.swap.drop
theorem Hs.drop2 {a b c : Addr × HO} (h : Hs B (a :: b :: c :: L) H) : Hs B (a :: b :: L) H := h.rot3.drop
end
end L2.BP
namespace L2.BP
open PySem PySem.Spec PyProof.Rows
/-! ### walks that hand out pairs; walks of tuples -/
section
variable {α : Type} {K : PySem.W.Frag} {a : Addr} {g : TG} {tb : TS} {dn : St → Hp → Prop} {dr : VK} {db dc : St → Hp → Prop} {σ : St} {H B : Hp} {L : Pic}
/-- what a for asks of its iterator -/
def ForO (J : It) (g : TG) (tb : TS) (dn : St → Hp → Prop) (dr : VK) (σ : St) (H : Hp) : Prop := ∃ W : Nat → Nat → St → Hp → Prop, (∃ m, W 0 m σ H) ∧ ∀ i m σ H, W i m σ H →
  (J.stop i H ∧ dn σ H) ∨ (J.go i H ∧ ∃ N : St → Hp → Prop, (∀ σ' H', N σ' H' → ∃ m', m' < m ∧ W (i + 1) m' σ' H') ∧ ∀ x H', J.yld i H x H' → g x σ H' fun σ2 H2 => tb ⟨N, dr, dn, N⟩ σ2 H2)
theorem get_map {f : α → V} {l : List α} {i : Nat} {x : V} (h : (l.map f)[i]? = some x) : ∃ y, l[i]? = some y ∧ x = f y := by
  rw [List.getElem?_map] at h
  cases e : l[i]? with
  | none => rw [e] at h; cases h
  | some y => rw [e] at h; exact ⟨y, rfl, (Option.some.inj h).symm⟩
theorem w_forE (f : α → V) (l : List α) (I : List α → St → Pic → Hp → Prop) (hs : Hs B L H) (h0 : I [] σ L B) (hq : ∀ pre post σ' L' B' H', l = pre ++ post → I pre σ' L' B' → Hs B' L' H' → SqL K H' a (l.map f))
    (turn : ∀ pre x post σ' L' B' T H', l = pre ++ x :: post → I pre σ' L' B' → Hs B' ((T, .tup [.int ((pre.length : Nat) : Int), f x]) :: L') H' → g (.ref T) σ' H' fun σ2 H2 => tb ⟨NxI I (pre ++ [x]), dr, dn, NxI I (pre ++ [x])⟩ σ2 H2)
    (fin : ∀ σ' L' B' H', I l σ' L' B' → Hs B' L' H' → dn σ' H') : ForO (Ite K a) g tb dn dr σ H := by
  refine ⟨fun i m σ H => m = l.length - i ∧ i ≤ l.length ∧ NxI I (l.take i) σ H, ⟨l.length, by simp, Nat.zero_le _, L, B, by simpa using h0, hs⟩, ?_⟩
  rintro i m σ' H' ⟨rfl, hi, L', B', q, h⟩
  have z := hq (l.take i) (l.drop i) σ' L' B' H' (List.take_append_drop i l).symm q h
  by_cases hlt : i < l.length
  · refine .inr ⟨⟨l.map f, f l[i], z, by simp [hlt]⟩, NxI I (l.take (i + 1)), fun σ2 H2 p => ⟨_, by omega, rfl, hlt, p⟩, ?_⟩
    rintro v H2 ⟨T, x, rfl, hT, rfl, hx⟩
    obtain ⟨y, e1, rfl⟩ := get_map (hx _ z)
    obtain ⟨e2, e3⟩ := take_split e1
    have el : (l.take i).length = i := by rw [List.length_take]; omega
    have w := turn _ y _ σ' L' B' T _ e2 q (by rw [el]; exact h.new hT)
    rw [e3]
    exact w
  · have e : i = l.length := by omega
    subst e
    exact .inl ⟨⟨_, z, by simp⟩, fin _ _ _ _ (by simpa using q) h⟩
/-- over a tuple -/
theorem w_forT (xs : List V) (I : List V → St → Pic → Hp → Prop) (hs : Hs B L H) (h0 : I [] σ L B) (hq : ∀ pre post σ' L' B' H', xs = pre ++ post → I pre σ' L' B' → Hs B' L' H' → SqT K H' a xs)
    (turn : ∀ pre x post σ' L' B' H', xs = pre ++ x :: post → I pre σ' L' B' → Hs B' L' H' → g x σ' H' fun σ2 H2 => tb ⟨NxI I (pre ++ [x]), dr, dn, NxI I (pre ++ [x])⟩ σ2 H2)
    (fin : ∀ σ' L' B' H', I xs σ' L' B' → Hs B' L' H' → dn σ' H') :
    ∃ b, V.ref a = .ref b ∧ (∃ xs, SqT K H b xs) ∧ ForO (Itt K b) g tb dn dr σ H := by
  refine ⟨a, rfl, ⟨_, hq [] xs σ L B H rfl h0 hs⟩, ?_⟩
  refine L2.for_tup (D := { nx := dn, rt := dr }) (K := K) (a := a) (xs := xs) (fun i => NxI I (xs.take i)) ⟨L, B, by simpa using h0, hs⟩ (fun i σ' H' _ ⟨L', B', q, h⟩ => hq (xs.take i) (xs.drop i) σ' L' B' H' (List.take_append_drop i xs).symm q h) (fun i x σ' H' hx ⟨L', B', q, h⟩ => ?_) fun σ' H' ⟨L', B', q, h⟩ => fin _ _ _ _ (by simpa using q) h
  obtain ⟨e1, e2⟩ := take_split hx
  have w := turn _ x _ σ' L' B' H' e1 q h
  rw [e2]
  exact w
/-- over two lists -/
theorem w_forZ {β : Type} {b : Addr} (f : α → V) (f2 : β → V) (l : List α) (l2 : List β) (hl : l.length = l2.length) (I : Nat → St → Pic → Hp → Prop) (hs : Hs B L H) (h0 : I 0 σ L B)
    (hq : ∀ i σ' L' B' H', I i σ' L' B' → Hs B' L' H' → SqL K H' a (l.map f) ∧ SqL K H' b (l2.map f2))
    (turn : ∀ i x y σ' L' B' T H', l[i]? = some x → l2[i]? = some y → I i σ' L' B' → Hs B' ((T, .tup [f x, f2 y]) :: L') H' → g (.ref T) σ' H' fun σ2 H2 => tb ⟨NxI I (i + 1), dr, dn, NxI I (i + 1)⟩ σ2 H2)
    (fin : ∀ σ' L' B' H', I l.length σ' L' B' → Hs B' L' H' → dn σ' H') : ForO (Itz K a b) g tb dn dr σ H := by
  refine ⟨fun i m σ H => m = l.length - i ∧ i ≤ l.length ∧ NxI I i σ H, ⟨l.length, by simp, Nat.zero_le _, L, B, h0, hs⟩, ?_⟩
  rintro i m σ' H' ⟨rfl, hi, L', B', q, h⟩
  obtain ⟨z1, z2⟩ := hq i σ' L' B' H' q h
  by_cases hlt : i < l.length
  · have hlt2 : i < l2.length := by omega
    refine .inr ⟨⟨l.map f, l2.map f2, f l[i], f2 l2[i], z1, z2, by simp [hlt], by simp [hlt2]⟩, NxI I (i + 1), fun σ2 H2 p => ⟨_, by omega, rfl, hlt, p⟩, ?_⟩
    rintro v H2 ⟨T, x, y, rfl, hT, rfl, hx, hy⟩
    obtain ⟨x', e1, rfl⟩ := get_map (hx _ z1)
    obtain ⟨y', e2, rfl⟩ := get_map (hy _ z2)
    exact turn i x' y' σ' L' B' T _ e1 e2 q (h.new hT)
  · have e : i = l.length := by omega
    subst e
    exact .inl ⟨⟨_, _, z1, z2, by simp⟩, fin _ _ _ _ q h⟩
theorem c_iE {ta : TA} {R : It → Hp → Prop} (k : ta σ H fun vs H1 => ∃ a xs, vs = [.ref a] ∧ SqL K H1 a xs ∧ R (Ite K a) H1) : iEnum K ta σ H R := k
theorem c_iE1 {R : It → Hp → Prop} {xs : List V} (h : SqL K H a xs) (k : R (Ite K a) H) : ∃ b xs, [V.ref a] = [.ref b] ∧ SqL K H b xs ∧ R (Ite K b) H := ⟨a, xs, rfl, h, k⟩
theorem c_iZ {ta : TA} {R : It → Hp → Prop} (k : ta σ H fun vs H1 => ∃ a b xs ys, vs = [.ref a, .ref b] ∧ SqL K H1 a xs ∧ SqL K H1 b ys ∧ R (Itz K a b) H1) : iZip K ta σ H R := k
theorem c_iZ1 {R : It → Hp → Prop} {b : Addr} {xs ys : List V} (h : SqL K H a xs) (h2 : SqL K H b ys) (k : R (Itz K a b) H) : ∃ a' b' xs ys, [V.ref a, V.ref b] = [.ref a', .ref b'] ∧ SqL K H a' xs ∧ SqL K H b' ys ∧ R (Itz K a' b') H := ⟨a, b, xs, ys, rfl, h, h2, k⟩
end
section
variable {α : Type} {K : PySem.W.Frag} {a : Addr} {g : TG} {tt : TT} {te tl : TE} {σ : St} {H B : Hp} {L : Pic} {vs : List Nat}
/-- what a comprehension asks of its iterator -/
def LcO (J : It) (g : TG) (tt : TT) (te : TE) (vs : List Nat) (σ : St) (H : Hp) (P : Addr → Hp → Prop) : Prop := ∀ D, H D = none → ∃ W : Nat → Nat → Hp → Prop, (∃ m, W 0 m (upd H D (.lst []))) ∧ ∀ i m H, W i m H →
  (J.stop i H ∧ P D H) ∨ (J.go i H ∧ ∃ Nx : Hp → Prop, (∀ H', Nx H' → ∃ m', m' < m ∧ W (i + 1) m' H') ∧ ∀ x H', J.yld i H x H' → g x (wipe σ vs) H' fun σ2 H2 => wipe σ2 vs = wipe σ vs ∧ tt σ2 H2 fun b H3 =>
    if b = true then te σ2 H3 fun y H4 => ∃ acc, H4 D = some (.lst acc) ∧ acc.length < sizeLine ∧ Nx (upd H4 D (.lst (acc ++ [y]))) else Nx H3)
theorem c_lcE {P : Addr → Hp → Prop} (f : α → V) (l : List α) (I : List α → List V → Hp → Prop) (hs : Hs B L H) (h0 : I [] [] B) (hq : ∀ B' H', Same B B' → Hs B' L H' → SqL K H' a (l.map f))
    (turn : ∀ pre x post acc B' D T H', l = pre ++ x :: post → I pre acc B' → Same B B' → Hs B' ((T, .tup [.int ((pre.length : Nat) : Int), f x]) :: (D, .lst acc) :: L) H' → g (.ref T) (wipe σ vs) H' fun σ2 H2 => wipe σ2 vs = wipe σ vs ∧ tt σ2 H2 fun b H3 =>
      if b = true then te σ2 H3 fun y H4 => ∃ acc, H4 D = some (.lst acc) ∧ acc.length < sizeLine ∧ LcN I B L D (pre ++ [x]) (upd H4 D (.lst (acc ++ [y]))) else LcN I B L D (pre ++ [x]) H3)
    (fin : ∀ acc B' D H', I l acc B' → Same B B' → Hs B' ((D, .lst acc) :: L) H' → P D H') : LcO (Ite K a) g tt te vs σ H P := by
  intro D hD
  refine ⟨fun i m H' => m = l.length - i ∧ i ≤ l.length ∧ LcN I B L D (l.take i) H', ⟨l.length, by simp, Nat.zero_le _, [], B, by simpa using h0, Same.refl B, hs.new hD⟩, ?_⟩
  rintro i m H' ⟨rfl, hi, acc, B', q, e, h⟩
  have z := hq B' H' e h.drop
  by_cases hlt : i < l.length
  · refine .inr ⟨⟨l.map f, f l[i], z, by simp [hlt]⟩, LcN I B L D (l.take (i + 1)), fun H2 p => ⟨_, by omega, rfl, hlt, p⟩, ?_⟩
    rintro v H2 ⟨T, x, rfl, hT, rfl, hx⟩
    obtain ⟨y, e1, rfl⟩ := get_map (hx _ z)
    obtain ⟨e2, e3⟩ := take_split e1
    have el : (l.take i).length = i := by rw [List.length_take]; omega
    have w := turn _ y _ acc B' D T _ e2 q e (by rw [el]; exact h.new hT)
    rw [e3]
    exact w
  · have e' : i = l.length := by omega
    subst e'
    exact .inl ⟨⟨_, z, by simp⟩, fin acc B' D H' (by simpa using q) e h⟩
end
/-! ### lists of tuples -/
section
variable {K : PySem.W.Frag} {H H' : Hp}
/-- each of these values is a tuple of those items -/
inductive Tups (K : PySem.W.Frag) (H : Hp) : List V → List (List V) → Prop where
  | nil : Tups K H [] []
  | cons {a : Addr} {xs : List V} {vs : List V} {r : List (List V)} : SqT K H a xs → Tups K H vs r → Tups K H (V.ref a :: vs) (xs :: r)
theorem Tups.same (e : Same H H') : ∀ {vs : List V} {ps : List (List V)}, Tups K H vs ps → Tups K H' vs ps
  | _, _, .nil => .nil
  | _, _, .cons h t => .cons (same_sqt e h) (Tups.same e t)
theorem Tups.length : ∀ {vs : List V} {ps : List (List V)}, Tups K H vs ps → vs.length = ps.length
  | _, _, .nil => rfl
  | _, _, .cons _ t => congrArg (· + 1) t.length
theorem Tups.snoc {a : Addr} {xs : List V} : ∀ {vs : List V} {ps : List (List V)}, Tups K H vs ps → SqT K H a xs → Tups K H (vs ++ [.ref a]) (ps ++ [xs])
  | _, _, .nil, h => .cons h .nil
  | _, _, .cons z t, h => .cons z (t.snoc h)
theorem Tups.get : ∀ {vs : List V} {ps : List (List V)} {i : Nat} {xs : List V}, Tups K H vs ps → ps[i]? = some xs → ∃ a, vs[i]? = some (.ref a) ∧ SqT K H a xs
  | _, _, 0, _, .cons h _, e => by cases e; exact ⟨_, rfl, h⟩
  | _, _, i + 1, _, .cons _ t, e => t.get (i := i) e
theorem Tups.split {x : V} {post : List V} : ∀ {pre : List V} {ps : List (List V)}, Tups K H (pre ++ x :: post) ps → ∃ a p1 xs p2, x = .ref a ∧ ps = p1 ++ xs :: p2 ∧ p1.length = pre.length ∧ SqT K H a xs
  | [], ps, h => by
    cases (show Tups K H (x :: post) ps from h) with
    | cons hh t => exact ⟨_, [], _, _, rfl, rfl, rfl, hh⟩
  | y :: pre, ps, h => by
    cases (show Tups K H (y :: (pre ++ x :: post)) ps from h) with
    | cons hh t =>
      obtain ⟨a, p1, xs, p2, e1, e2, e3, e4⟩ := Tups.split t
      exact ⟨a, _ :: p1, xs, p2, e1, by rw [e2]; rfl, by simp [e3], e4⟩
end
end L2.BP
namespace L2.BP
open PySem PySem.Spec PyProof.Rows
section
variable {σ : St} {H B : Hp} {L : Pic} {K : PySem.W.Frag} {dn : St → Hp → Prop} {dr : VK} {db dc : St → Hp → Prop} {Q : VK} {tr : TA} {te to_ ti_ : TE} {a b : Addr} {xs ys : List V} {x v w o i : V}
theorem w_break (k : db σ H) : tBreak ⟨dn, dr, db, dc⟩ σ H := k
theorem w_cont (k : dc σ H) : tCont ⟨dn, dr, db, dc⟩ σ H := k
theorem w_retN (k : dr .non H) : tRetN ⟨dn, dr, db, dc⟩ σ H := k
def ParO (m n : Nat) (vs : List V) (σ : St) (dn : St → Hp → Prop) (H : Hp) : Prop := ∃ v w, vs = [v, w] ∧ dn ((σ.set m (some v)).set n (some w)) H
theorem w_par {m n : Nat} (k : tr σ H fun vs H1 => ParO m n vs σ dn H1) : tPar m n tr ⟨dn, dr, db, dc⟩ σ H := k
theorem c_parO {m n : Nat} (k : dn ((σ.set m (some v)).set n (some w)) H) : ParO m n [v, w] σ dn H := ⟨v, w, rfl, k⟩
/-! a list longer by another one, in place -/
theorem c_ext0 (hs : Hs B ((a, .lst xs) :: L) H) (hb : H b = some (.lst ys)) (hz : xs.length + ys.length ≤ sizeLine) (k : ∀ H', Hs B ((a, .lst (xs ++ ys)) :: L) H' → Q (.ref a) H') : ipAddU (.ref a) (.ref b) H Q :=
  .inr (.inl ⟨a, b, xs, ys, rfl, rfl, hs.get (.head _), hb, hz, k _ hs.u0⟩)
theorem c_extM0 (hs : Hs B ((a, .lst xs) :: L) H) (hb : H b = some (.lst ys)) (hz : xs.length + ys.length ≤ sizeLine) (k : ∀ H', Hs B ((a, .lst (xs ++ ys)) :: L) H' → Q .non H') : rExtend (.ref a) [.ref b] H Q :=
  ⟨a, b, xs, ys, rfl, rfl, hs.get (.head _), hb, hz, k _ hs.u0⟩
theorem c_clear0 (hs : Hs B ((a, .lst xs) :: L) H) (k : ∀ H', Hs B ((a, .lst []) :: L) H' → Q .non H') : rClear (.ref a) [] H Q := ⟨a, xs, rfl, rfl, hs.get (.head _), k _ hs.u0⟩
theorem c_reverse0 (hs : Hs B ((a, .lst xs) :: L) H) (k : ∀ H', Hs B ((a, .lst xs.reverse) :: L) H' → Q .non H') : rReverse (.ref a) [] H Q := ⟨a, xs, rfl, rfl, hs.get (.head _), k _ hs.u0⟩
/-! slices of tuples, lists turned round -/
theorem c_slT {lo hi : Option Int} (h : Hs B L H) (hq : SqT K H a xs) (hn : ¬ (HT.sIx xs.length 0 lo = 0 ∧ HT.sIx xs.length xs.length hi = xs.length)) (k : ∀ p H', Hs B ((p, .tup (cutV xs lo hi)) :: L) H' → Q (.ref p) H') : rSlK K (.ref a) lo hi H Q :=
  .inr (.inr ⟨a, xs, rfl, hq, hn, fun p hp => k p _ (h.new hp)⟩)
def RevO (K : PySem.W.Frag) (x : V) (H : Hp) (Q : VK) : Prop := ∃ a xs, x = .ref a ∧ SqL K H a xs ∧ ∀ p, H p = none → Q (.ref p) (upd H p (.lst xs.reverse))
theorem c_rev (k : te σ H fun x H1 => RevO K x H1 Q) : tRevL K te σ H Q := k
theorem c_revO (h : Hs B L H) (hq : SqL K H a xs) (k : ∀ p H', Hs B ((p, .lst xs.reverse) :: L) H' → Q (.ref p) H') : RevO K (.ref a) H Q := ⟨a, xs, rfl, hq, fun p hp => k p _ (h.new hp)⟩
/-! an item written -/
def SetO (o i v : V) (H : Hp) (P : Hp → Prop) : Prop := rSetL o i v H P
theorem w_augS {K : PySem.W.Frag} {to ti te : TE} {tip : TIp} {dn db dc : St → Hp → Prop} {dr : VK} {σ : St} {H : Hp} (k : to σ H fun o H1 => ti σ H1 fun i H2 => rIxL K o i H2 fun x H3 => te σ H3 fun y H4 => tip x y H4 fun z H5 => SetO o i z H5 fun H6 => dn σ H6) : tAugS to ti te (rIxL K) tip rSetL ⟨dn, dr, db, dc⟩ σ H := k
theorem c_ixLo {K : PySem.W.Frag} {p : Addr} {xs : List V} {i : Int} {v : V} {H : Hp} {Q : VK} (h : SqL K H p xs) (ha : atI xs i = some v) (k : Q v H) : rIxL K (.ref p) (.int i) H Q := ⟨p, xs, i, v, rfl, rfl, h, ha, k⟩
theorem g_sub {P : St → Hp → Prop} (k : to_ σ H fun o H1 => ti_ σ H1 fun i H2 => SetO o i v H2 (P σ)) : gSub to_ ti_ rSetL v σ H P := k
theorem w_set0 {j : Int} {m : Nat} {P : Hp → Prop} (hs : Hs B ((a, .lst xs) :: L) H) (e : j = ((m : Nat) : Int)) (hm : m < xs.length) (k : ∀ H', Hs B ((a, .lst (xs.set m v)) :: L) H' → P H') : SetO (.ref a) (.int j) v H P :=
  ⟨a, xs, j, m, rfl, rfl, hs.get (.head _), by subst e; unfold ixN; rw [if_pos (Int.natCast_nonneg _), if_pos (Int.ofNat_lt.mpr hm), Int.toNat_natCast], k _ hs.u0⟩
theorem w_set1 {q : Addr × HO} {j : Int} {m : Nat} {P : Hp → Prop} (hs : Hs B (q :: (a, .lst xs) :: L) H) (e : j = ((m : Nat) : Int)) (hm : m < xs.length) (k : ∀ H', Hs B (q :: (a, .lst (xs.set m v)) :: L) H' → P H') : SetO (.ref a) (.int j) v H P :=
  w_set0 hs.swap e hm fun H' h => k H' h.swap
theorem c_isiS {z : Str} (k : Q (.bl true) H) : rIsi K [.str z, .ty "str"] H Q := c_isiStr (.str z) k
theorem small6 {n : Nat} (h : n ≤ 200000) : n < sizeLine := Nat.lt_of_le_of_lt h (by decide)
theorem small6' {n : Nat} (h : n ≤ 200000) : n ≤ sizeLine := Nat.le_trans h (by decide)
end
end L2.BP
namespace L2.BP
open PySem PySem.Spec PyProof.Rows
section
variable {K : PySem.W.Frag} {W : WX} {vs : List V} {H : Hp} {Q : VK} {E : XK}
/-! ### == of lists -/
theorem eqvAll_ints : ∀ a b : List Int, PyData.eqvAll (a.map PyData.int) (b.map PyData.int) = decide (a = b)
  | [], [] => by simp [PyData.eqvAll]
  | [], y :: r => by simp [PyData.eqvAll]
  | x :: r, [] => by simp [PyData.eqvAll]
  | x :: r, y :: t => by
    rw [List.map_cons, List.map_cons, PyData.eqvAll, eqvAll_ints r t]
    simp only [PyData.eqv]
    by_cases h : x = y <;> by_cases h2 : r = t <;> simp [h, h2]
theorem canAll_ints : ∀ a : List Int, PyData.canLayAll0 (a.map PyData.int) = true
  | [] => by simp [PyData.canLayAll0]
  | x :: r => by
    rw [List.map_cons, PyData.canLayAll0, canAll_ints r]
    simp [PyData.canLay0]
theorem depAll_ints : ∀ a : List Int, PyData.depthAll (a.map PyData.int) ≤ 1
  | [] => by simp [PyData.depthAll]
  | x :: r => by
    have := depAll_ints r
    rw [List.map_cons, PyData.depthAll]
    simp [PyData.depth]
    omega
theorem shaped_ints (a : List Int) : SeqAt.shaped (.list (a.map PyData.int)) = true := by
  unfold SeqAt.shaped
  rw [PyData.canLay0, canAll_ints, PyData.depth]
  have := depAll_ints a
  simp
  omega
theorem c_eqL {p q : Addr} (a b : List Int) (h1 : SqL K H p (a.map V.int)) (h2 : SqL K H q (b.map V.int)) (k : Q (.bl (decide (a = b))) H) : rEqU K (.ref p) (.ref q) H Q := by
  refine c_eqD (.lst h1 (dpa_ints a)) (.lst h2 (dpa_ints b)) (shaped_ints a) (shaped_ints b) ?_
  rw [PyData.eqv, eqvAll_ints]
  exact k
theorem c_neL {p q : Addr} (a b : List Int) (h1 : SqL K H p (a.map V.int)) (h2 : SqL K H q (b.map V.int)) (k : Q (.bl (!decide (a = b))) H) : rNeU K (.ref p) (.ref q) H Q := by
  refine c_neD (.lst h1 (dpa_ints a)) (.lst h2 (dpa_ints b)) (shaped_ints a) (shaped_ints b) ?_
  rw [PyData.eqv, eqvAll_ints]
  exact k
/-! a list of tuples of whole numbers and texts against an equal one -/
def vD : V → PyData
  | .int i => .int i
  | .str x => .str x
  | .bl b => .bool b
  | _ => .none
def flatV : V → Bool
  | .int _ => true
  | .str x => PyData.canLay0 (.str x)
  | .bl _ => true
  | .non => true
  | _ => false
theorem dp_flat : ∀ {v : V}, flatV v = true → Dp K H v (vD v)
  | .int i, _ => .int i
  | .str x, _ => .str x
  | .bl b, _ => .bl b
  | .non, _ => .non
theorem dpa_flat : ∀ {xs : List V}, xs.all flatV = true → DpAll K H xs (xs.map vD)
  | [], _ => .nil
  | x :: r, h => by
    rw [List.all_cons, Bool.and_eq_true] at h
    exact .cons (dp_flat h.1) (dpa_flat h.2)
theorem can_flat : ∀ {v : V}, flatV v = true → (vD v).canLay0 = true ∧ (vD v).depth = 0
  | .int i, _ => ⟨by simp [vD, PyData.canLay0], by simp [vD, PyData.depth]⟩
  | .str x, h => ⟨h, by simp [vD, PyData.depth]⟩
  | .bl b, _ => ⟨by simp [vD, PyData.canLay0], by simp [vD, PyData.depth]⟩
  | .non, _ => ⟨by simp [vD, PyData.canLay0], by simp [vD, PyData.depth]⟩
theorem canAll_flat : ∀ {xs : List V}, xs.all flatV = true → PyData.canLayAll0 (xs.map vD) = true ∧ PyData.depthAll (xs.map vD) ≤ 1
  | [], _ => ⟨by simp [PyData.canLayAll0], by simp [PyData.depthAll]⟩
  | x :: r, h => by
    rw [List.all_cons, Bool.and_eq_true] at h
    obtain ⟨h1, h2⟩ := can_flat h.1
    obtain ⟨h3, h4⟩ := canAll_flat h.2
    rw [List.map_cons, PyData.canLayAll0, PyData.depthAll, h1, h2, h3]
    exact ⟨rfl, by omega⟩
def tupD (xs : List V) : PyData := .tuple (xs.map vD)
theorem canAll_tups : ∀ {xss : List (List V)}, (∀ xs ∈ xss, xs.all flatV = true) → PyData.canLayAll0 (xss.map tupD) = true ∧ PyData.depthAll (xss.map tupD) ≤ 3
  | [], _ => ⟨by simp [PyData.canLayAll0], by simp [PyData.depthAll]⟩
  | x :: r, h => by
    obtain ⟨h1, h2⟩ := canAll_flat (h x (.head _))
    obtain ⟨h3, h4⟩ := canAll_tups fun y hy => h y (.tail _ hy)
    have e1 : (tupD x).canLay0 = true := by
      unfold tupD
      rw [PyData.canLay0, h1]
    have e2 : (tupD x).depth ≤ 2 := by
      unfold tupD
      rw [PyData.depth]
      omega
    rw [List.map_cons, PyData.canLayAll0, PyData.depthAll, h3, e1]
    exact ⟨rfl, by omega⟩
theorem shaped_tups {xss : List (List V)} (h : ∀ xs ∈ xss, xs.all flatV = true) : SeqAt.shaped (.list (xss.map tupD)) = true := by
  obtain ⟨h1, h2⟩ := canAll_tups h
  unfold SeqAt.shaped
  rw [PyData.canLay0, PyData.depth, h1]
  simp
  omega
theorem dpa_tups : ∀ {ws : List V} {xss : List (List V)}, Tups K H ws xss → (∀ xs ∈ xss, xs.all flatV = true) → DpAll K H ws (xss.map tupD)
  | _, _, .nil, _ => .nil
  | _, _, .cons z t, h => .cons (.tup z (dpa_flat (h _ (.head _)))) (dpa_tups t fun y hy => h y (.tail _ hy))
theorem eqv_vD (v : V) : PyData.eqv (vD v) (vD v) = true := by cases v <;> simp [vD, PyData.eqv]
theorem eqvAll_vD : ∀ xs : List V, PyData.eqvAll (xs.map vD) (xs.map vD) = true
  | [] => by simp [PyData.eqvAll]
  | x :: r => by rw [List.map_cons, PyData.eqvAll, eqv_vD, eqvAll_vD r]; rfl
theorem eqvAll_tupD : ∀ xss : List (List V), PyData.eqvAll (xss.map tupD) (xss.map tupD) = true
  | [] => by simp [PyData.eqvAll]
  | x :: r => by
    have e : PyData.eqv (tupD x) (tupD x) = true := by
      unfold tupD
      rw [PyData.eqv, eqvAll_vD]
    rw [List.map_cons, PyData.eqvAll, e, eqvAll_tupD r]
    rfl
theorem eqv_tups {xss : List (List V)} : PyData.eqv (.list (xss.map tupD)) (.list (xss.map tupD)) = true := by rw [PyData.eqv, eqvAll_tupD]
/-- two lists of equal tuples -/
theorem c_neT {p q : Addr} {ws us : List V} {xss : List (List V)} (hf : ∀ xs ∈ xss, xs.all flatV = true) (h1 : SqL K H p ws) (t1 : Tups K H ws xss) (h2 : SqL K H q us) (t2 : Tups K H us xss) (k : Q (.bl false) H) : rNeU K (.ref p) (.ref q) H Q := by
  refine c_neD (.lst h1 (dpa_tups t1 hf)) (.lst h2 (dpa_tups t2 hf)) (shaped_tups hf) (shaped_tups hf) ?_
  rw [eqv_tups]
  exact k
theorem c_eqT {p q : Addr} {ws us : List V} {xss : List (List V)} (hf : ∀ xs ∈ xss, xs.all flatV = true) (h1 : SqL K H p ws) (t1 : Tups K H ws xss) (h2 : SqL K H q us) (t2 : Tups K H us xss) (k : Q (.bl true) H) : rEqU K (.ref p) (.ref q) H Q := by
  refine c_eqD (.lst h1 (dpa_tups t1 hf)) (.lst h2 (dpa_tups t2 hf)) (shaped_tups hf) (shaped_tups hf) ?_
  rw [eqv_tups]
  exact k
end
end L2.BP
namespace L2.BP
open PySem PySem.Spec PyProof.Rows
/-- both ways of an if meet again -/
theorem w_cut {t u : TS} {dn : St → Hp → Prop} {dr : VK} {db dc : St → Hp → Prop} {σ : St} {H : Hp} (Mid : St → Hp → Prop) (h1 : t ⟨Mid, dr, db, dc⟩ σ H) (h2 : ∀ σ' H', Mid σ' H' → u ⟨dn, dr, db, dc⟩ σ' H') : Evl.tCut t u ⟨dn, dr, db, dc⟩ σ H := ⟨Mid, h1, h2⟩
end L2.BP
namespace L2.BP
open PySem PySem.Spec PyProof.Rows
section
variable {X : Cx} {K : PySem.W.Frag} {σ : St} {H B : Hp} {L : Pic} {Q : VK} {te to_ ti_ : TE} {v : V} {P : St → Hp → Prop}
/-! a field as one of several targets -/
def gAttr (K : PySem.W.Frag) (ta : TE) (f : Str) : TG := fun v σ H P => ta σ H fun x H1 => PutO K f v x H1 (P σ)
theorem pg_attr {o : Expr} {f : Str} {pos : Pos} {ta : TE} (ho : PE X o ta) : PG X (.Attribute o f pos) (gAttr X.K ta f) := by
  refine ⟨fun pins s σ H v u Q I r h => ?_⟩
  show wpAny _ _ (do let ov ← holding [u] (eval o X.env); standAt pos.atName; holding [u, ov] (setAttr ov f u); release [u, ov] []) _ _ _
  refine wpAny_bind (wpAny_holding (thn (ho.run pins s σ H _ I h) fun ov s1 ⟨x, H1, I1, r1, a, C, dx, fs, ex, ea, c, n, l, q⟩ => ?_))
  subst ex
  obtain rfl : ov = Value.ref a := r1
  refine wpAny_bind (wpAny_standAt (wpAny_bind (wpAny_holding ?_)))
  exact setattr_ok I1 ea c n l r fun s2 I2 => wpAny_release ⟨σ, _, I2, q⟩
theorem g_attr {f : Str} (k : te σ H fun x H1 => PutO K f v x H1 (P σ)) : gAttr K te f v σ H P := k
/-! how many different ones -/
def LsO (K : PySem.W.Frag) (x : V) (H : Hp) (Q : VK) : Prop := ∃ (l : Addr) (ns : List Int), x = .ref l ∧ SqL K H l (ns.map V.int) ∧ ns.Nodup ∧ ns.length ≤ 4000 ∧ Q (.int (ns.length : Nat)) H
theorem c_lenset (k : te σ H fun x H1 => LsO K x H1 Q) : RZ.tLenSetI K te σ H Q := k
theorem c_lsO {a : Addr} {ns : List Int} (h : SqL K H a (ns.map V.int)) (hn : ns.Nodup) (hl : ns.length ≤ 4000) (k : Q (.int (ns.length : Nat)) H) : LsO K (.ref a) H Q := ⟨a, ns, rfl, h, hn, hl, k⟩
/-! dicts that are written out -/
def DispO (p : Addr) (ps : List (V × V)) (H : Hp) (Q : VK) : Prop := H p = some (.dK []) ∧ ∃ kvs : List (Key × V), ps = kvs.map (fun kv => (kV kv.1, kv.2)) ∧ kvs.length ≤ 15 ∧ Q (.ref p) (upd H p (.dK (mergeK [] kvs)))
theorem c_disp {trs : List (TE × TE)} (hs : Hs B L H) (k : ∀ p H', Hs B ((p, .dK []) :: L) H' → tPairs trs σ H' fun ps H2 => DispO p ps H2 Q) : tDisp trs σ H Q := fun p hp => k p _ (hs.new hp)
theorem c_tpc {tk tv : TE} {r : List (TE × TE)} {R : List (V × V) → Hp → Prop} (k : tk σ H fun x H1 => tv σ H1 fun y H2 => tPairs r σ H2 fun ps H3 => R ((x, y) :: ps) H3) : tPairs ((tk, tv) :: r) σ H R := k
theorem c_tpn {R : List (V × V) → Hp → Prop} (k : R [] H) : tPairs [] σ H R := k
theorem c_dispO {p : Addr} {ps : List (V × V)} (kvs : List (Key × V)) (hs : Hs B ((p, .dK []) :: L) H) (e : ps = kvs.map (fun kv => (kV kv.1, kv.2))) (hl : kvs.length ≤ 15) (k : ∀ H', Hs B ((p, .dK (mergeK [] kvs)) :: L) H' → Q (.ref p) H') : DispO p ps H Q :=
  ⟨hs.get (.head _), kvs, e, hl, k _ hs.u0⟩
def DgO (x y : V) (H : Hp) (Q : VK) : Prop := ∃ a v, x = .ref a ∧ DGet H a y (some v) ∧ Q v H
theorem c_dget {td ty : TE} (k : td σ H fun x H1 => ty σ H1 fun y H2 => DgO x y H2 Q) : tDGet td ty σ H Q := k
theorem c_dgO {a : Addr} {kvs : List (Key × V)} {key : Key} (h : H a = some (.dK kvs)) (e : valV kvs key = some v) (k : Q v H) : DgO (.ref a) (kV key) H Q := ⟨a, v, rfl, by rw [← e]; exact DGet.k h, k⟩
/-! in a list -/
theorem inV_int (i : Int) : ∀ ns : List Int, L2.inV (.int i) (ns.map V.int) = decide (i ∈ ns)
  | [] => by simp [L2.inV]
  | n :: r => by
    have ih := inV_int i r
    have e : L2.eqV (.int n) (.int i) = decide (n = i) := by
      show (n == i) = decide (n = i)
      by_cases h : n = i <;> simp [h]
    unfold L2.inV at ih ⊢
    rw [List.map_cons, List.any_cons, ih, e]
    by_cases h : n = i
    · simp [h]
    · simp [h, Ne.symm h]
theorem flat_ints (ns : List Int) : (ns.map V.int).all L2.flatV = true := by simp [L2.flatV]
theorem c_inL {a : Addr} {i : Int} (ns : List Int) (h : SqL K H a (ns.map V.int)) (k : Q (.bl (decide (i ∈ ns))) H) : rInU K (.int i) (.ref a) H Q :=
  .inl ⟨a, _, rfl, .inl h, rfl, flat_ints ns, by rw [inV_int]; exact k⟩
theorem c_niL {a : Addr} {i : Int} (ns : List Int) (h : SqL K H a (ns.map V.int)) (k : Q (.bl (!decide (i ∈ ns))) H) : rNiU K (.int i) (.ref a) H Q :=
  .inl ⟨a, _, rfl, .inl h, rfl, flat_ints ns, by rw [inV_int]; exact k⟩
theorem c_inT {a : Addr} {i : Int} (ns : List Int) (h : SqT K H a (ns.map V.int)) (k : Q (.bl (decide (i ∈ ns))) H) : rInU K (.int i) (.ref a) H Q :=
  .inl ⟨a, _, rfl, .inr h, rfl, flat_ints ns, by rw [inV_int]; exact k⟩
theorem xor_nat (a b : Nat) : Builtin.bitXor ((a : Nat) : Int) ((b : Nat) : Int) = ((a ^^^ b : Nat) : Int) := by
  rw [Bits.bitXor_pp (Int.natCast_nonneg a) (Int.natCast_nonneg b), Int.toNat_natCast, Int.toNat_natCast]
end
end L2.BP
namespace L2.BP
open PySem PySem.Spec PyProof.Rows
section
variable {K : PySem.W.Frag} {σ : St} {H B : Hp} {L : Pic} {Q : VK} {ta tb : TE} {a : Addr} {xs : List V}
/-- x or y, by what is empty -/
def OrO (K : PySem.W.Frag) (x : V) (tb : TE) (σ : St) (H : Hp) (Q : VK) : Prop := ∃ k, TruV K x H k ∧ if k = true then Q x H else tb σ H Q
theorem c_orT (k : ta σ H fun x H1 => OrO K x tb σ H1 Q) : tOrT K ta tb σ H Q := k
theorem c_orL (h : SqL K H a xs) (k1 : xs ≠ [] → Q (.ref a) H) (k2 : xs = [] → tb σ H Q) : OrO K (.ref a) tb σ H Q := by
  refine ⟨!xs.isEmpty, .inl ⟨xs, h, rfl⟩, ?_⟩
  cases xs with
  | nil => exact iteF (k2 rfl)
  | cons x r => exact iteT (k1 (by simp))
end
end L2.BP
namespace L2.BP
open PySem PySem.Spec PyProof.Rows
/-! ### a class without an __init__ of its own -/
structure Mk0 (K : PySem.W.Frag) (C : Addr) : Prop where
  makes : PySem.W.makesIn K C = true
  init : PySem.W.findIn K (.ref C) "__init__" = some (some (.builtin "object.__init__"))
  kp : PySem.W.keepIn K (.ref C) = true
section
variable {X : Cx} {C : Addr} {x : Str} {p pos : Pos}
/-- C(): a bare object -/
def MadeO (C : Addr) (H : Hp) (Q : VK) : Prop := ∀ x dx, H x = none → H dx = none → dx ≠ x → Q (.ref x) (upd (upd H dx (.own x)) x (.ins C dx []))
def tMade (C : Addr) : TE := fun _ H Q => MadeO C H Q
theorem run_made {pins : List (Addr × Obj)} {σ : St} {H : Hp} {s : Shared} {Q : VK} (M : Mk0 X.K C) (I : Inv X pins σ H s) (h : MadeO C H Q) : wpAny (model X.prog X.w) X.A (call (.ref C) []) (EP X pins σ Q) X.xe s := by
  have q := h (s.heap.objs.size + 1) s.heap.objs.size (I.hok.fresh (Nat.le_succ _)) (I.hok.fresh (Nat.le_refl _)) (Nat.ne_of_lt (Nat.lt_succ_self _))
  have J := Inv.made (C := C) I
  have Y := PySem.W.makes_of (M := model X.prog X.w) I.kIn M.makes
  refine wpAny_call (make_map0 I.kIn M.makes M.init (fun self => PySem.W.Looks.of_pure (PySem.W.oi_bind self)) ?_)
  have e2 : ((s.heap.push PySem.W.emptyDict).push (PySem.W.instObj C s.heap.objs.size)).get? (s.heap.objs.size + 1) = some (PySem.W.instObj C s.heap.objs.size) := by
    have := Heap.get?_push_size (s.heap.push PySem.W.emptyDict) (o := PySem.W.instObj C s.heap.objs.size) rfl
    rwa [Heap.size_push] at this
  have t1 : PySem.W.Looks (model X.prog X.w) ((s.heap.push PySem.W.emptyDict).push (PySem.W.instObj C s.heap.objs.size)) (typeOf (.ref (s.heap.objs.size + 1))) (.ref C) := (PySem.W.Looks.ld e2).andThen .now
  have t2 : PySem.W.Looks (model X.prog X.w) ((s.heap.push PySem.W.emptyDict).push (PySem.W.instObj C s.heap.objs.size)) (isInstance (.ref (s.heap.objs.size + 1)) (.type "object")) true :=
    t1.andThen (Y.top.keeps fun b o e => Heap.get?_push_of_some _ (Heap.get?_push_of_some _ e))
  refine codeAny_call_builtin PySem.W.oi_plain PySem.W.entry_oi (@PySem.W.check_slot (model X.prog X.w) _ _ _ "object.__init__" "object" "__init__" (.ref (s.heap.objs.size + 1)) [] [] _ PySem.W.oi_kind PySem.W.oi_split t2 (PySem.W.oi_args (.ref (s.heap.objs.size + 1))) ?_)
  rw [PySem.W.oi_run]
  exact wpAny_pure (And.intro rfl ⟨V.ref (s.heap.objs.size + 1), _, J, rfl, q⟩)
theorem pe_made (M : Mk0 X.K C) (hg : Gl X x) (hm : X.mg x = some (.ref C)) (hdb : (x == ("__debug__" : Str)) = false := by decide) : PE X (.Call (.Name x p) [] [] pos) (tMade C) := by
  constructor
  intro pins s σ H Q I h
  exact wpAny_Call_Name_kw (ld_glob I hg hm (PySem.W.callWith_K0 I.kIn M.kp (run_made M I h)) hdb)
end
section
variable {K : PySem.W.Frag} {σ : St} {H B : Hp} {L : Pic} {Q : VK} {C : Addr}
theorem c_made (k : MadeO C H Q) : tMade C σ H Q := k
theorem c_madeO (hs : Hs B L H) (k : ∀ x dx H', Hs B ((x, .ins C dx []) :: L) H' → Q (.ref x) H') : MadeO C H Q := fun x dx hx hdx ne => by
  have h1 := hs.new (o := HO.own x) hdx
  have h2 : (upd H dx (.own x)) x = none := by rw [upd_ne (Ne.symm ne)]; exact hx
  exact k x dx _ (h1.new h2).swap.drop
end
end L2.BP
namespace L2.BP
open PySem PySem.Spec PyProof.Rows
/-! ### walks by steps, and of texts -/
section
variable {K : PySem.W.Frag} {a : Addr} {g : TG} {tb : TS} {dn : St → Hp → Prop} {dr : VK} {db dc : St → Hp → Prop} {σ : St} {H B : Hp} {L : Pic}
theorem w_forC {lo c : Int} {n : Nat} (I : Nat → St → Pic → Hp → Prop) (hs : Hs B L H) (h0 : I 0 σ L B)
    (turn : ∀ i σ' L' B' H', i < n → I i σ' L' B' → Hs B' L' H' → g (.int (lo + (i : Nat) * c)) σ' H' fun σ2 H2 => tb ⟨NxI I (i + 1), dr, dn, NxI I (i + 1)⟩ σ2 H2)
    (fin : ∀ σ' L' B' H', I n σ' L' B' → Hs B' L' H' → dn σ' H') : ForO (Itc lo c n) g tb dn dr σ H := by
  refine ⟨fun i m σ H => m = n - i ∧ i ≤ n ∧ NxI I i σ H, ⟨n, by simp, Nat.zero_le _, L, B, h0, hs⟩, ?_⟩
  rintro i m σ' H' ⟨rfl, hi, L', B', q, h⟩
  by_cases hlt : i < n
  · refine .inr ⟨hlt, NxI I (i + 1), fun σ2 H2 p => ⟨_, by omega, rfl, hlt, p⟩, ?_⟩
    rintro v H2 ⟨rfl, rfl⟩
    exact turn i σ' L' B' _ hlt q h
  · have e : i = n := by omega
    subst e
    exact .inl ⟨Nat.le_refl _, fin _ _ _ _ q h⟩
theorem w_forS {x : Str} (I : Nat → St → Pic → Hp → Prop) (hs : Hs B L H) (h0 : I 0 σ L B)
    (turn : ∀ i c σ' L' B' H', x.cps[i]? = some c → I i σ' L' B' → Hs B' L' H' → g (.str ⟨#[c]⟩) σ' H' fun σ2 H2 => tb ⟨NxI I (i + 1), dr, dn, NxI I (i + 1)⟩ σ2 H2)
    (fin : ∀ σ' L' B' H', I x.cps.size σ' L' B' → Hs B' L' H' → dn σ' H') : ForO (Its x) g tb dn dr σ H := by
  refine ⟨fun i m σ H => m = x.cps.size - i ∧ i ≤ x.cps.size ∧ NxI I i σ H, ⟨x.cps.size, by simp, Nat.zero_le _, L, B, h0, hs⟩, ?_⟩
  rintro i m σ' H' ⟨rfl, hi, L', B', q, h⟩
  by_cases hlt : i < x.cps.size
  · refine .inr ⟨hlt, NxI I (i + 1), fun σ2 H2 p => ⟨_, by omega, rfl, hlt, p⟩, ?_⟩
    rintro v H2 ⟨rfl, c, hc, rfl⟩
    exact turn i c σ' L' B' _ hc q h
  · have e : i = x.cps.size := by omega
    subst e
    exact .inl ⟨Nat.le_refl _, fin _ _ _ _ q h⟩
def RcO (R : It → Hp → Prop) (vs : List V) (H : Hp) : Prop := ∃ (i j c : Int) (n : Nat), vs = [.int i, .int j, .int c] ∧ RgC i j c n ∧ R (Itc i c n) H
theorem c_iR3 {ta : TA} {R : It → Hp → Prop} (k : ta σ H fun vs H1 => RcO R vs H1) : iRng3 ta σ H R := k
theorem c_rcO {R : It → Hp → Prop} {i j c : Int} (n : Nat) (h : RgC i j c n) (k : R (Itc i c n) H) : RcO R [.int i, .int j, .int c] H := ⟨i, j, c, n, rfl, h, k⟩
def SsO (R : It → Hp → Prop) (v : V) (H : Hp) : Prop := ∃ x, v = .str x ∧ R (Its x) H
theorem c_iS {te : TE} {R : It → Hp → Prop} (k : te σ H fun v H1 => SsO R v H1) : iStr te σ H R := k
theorem c_ssO {R : It → Hp → Prop} {x : Str} (k : R (Its x) H) : SsO R (.str x) H := ⟨x, rfl, k⟩
end
end L2.BP
namespace L2.BP
open PySem PySem.Spec PyProof.Rows
section
variable {H B : Hp} {L : Pic} {K : PySem.W.Frag} {σ : St} {Q : VK}
theorem Hs.rot4 {a b c d : Addr × HO} (h : Hs B (a :: b :: c :: d :: L) H) : Hs B (d :: a :: b :: c :: L) H := h.perm (List.perm_middle (l₁ := [a, b, c]))
theorem Hs.rot5 {a b c d e : Addr × HO} (h : Hs B (a :: b :: c :: d :: e :: L) H) : Hs B (e :: a :: b :: c :: d :: L) H := h.perm (List.perm_middle (l₁ := [a, b, c, d]))
theorem c_alt1 {t u : TE} (k : t σ H Q) : tOrE t u σ H Q := .inl k
theorem c_alt2 {t u : TE} (k : u σ H Q) : tOrE t u σ H Q := .inr k
theorem c_eqNN (k : Q (.bl true) H) : rEqU K .non .non H Q := .inl ⟨rfl, k⟩
theorem c_neNN (k : Q (.bl false) H) : rNeU K .non .non H Q := .inl ⟨rfl, k⟩
end
end L2.BP
namespace L2.BP
open PySem PySem.Spec PyProof.Rows
/-! ### isinstance of an own class -/
structure InsC (K : PySem.W.Frag) (C : Addr) : Prop where
  ha : PySem.W.findIn K (.ref C) "__class__" = some (some (.builtin "object.__class__"))
  hn : PySem.W.specialIn K (.builtin "object.__class__") "__get__" = some (some (.builtin "getset_descriptor.__get__"))
  htk : PySem.W.takesIn K (.builtin "object.__class__") = some true
  hm : PySem.W.mroIn K C (.type "object") = some true
theorem c_isiC {K : PySem.W.Frag} {H : Hp} {Q : VK} {x C D dx : Addr} {fs : List (Str × V)} {b : Bool} (h : H x = some (.ins C dx fs)) (cl : Cls K C) (i : InsC K C) (e : PySem.W.kitOne K (.ref C) (.ref D) = some b) (k : Q (.bl b) H) : rIsi K [.ref x, .ref D] H Q :=
  c_isi (.base (.ins h cl i.ha i.hn i.htk i.hm)) (.own D) e k
end L2.BP
namespace L2.BP
open PySem PySem.Spec PyProof.Rows
section
variable {K : PySem.W.Frag} {g : TG} {tt : TT} {te : TE} {σ : St} {H B : Hp} {L : Pic} {vs : List Nat}
/-- a comprehension whose turns change own objects -/
def LcV (I : Nat → List V → Pic → Hp → Prop) (D : Addr) (i : Nat) : Hp → Prop := fun H' => ∃ acc L' B', I i acc L' B' ∧ Hs B' ((D, .lst acc) :: L') H'
theorem c_lcRV {P : Addr → Hp → Prop} {lo : Int} {n : Nat} (I : Nat → List V → Pic → Hp → Prop) (hs : Hs B L H) (h0 : I 0 [] L B)
    (turn : ∀ i acc L' B' D H', i < n → I i acc L' B' → Hs B' ((D, .lst acc) :: L') H' → g (.int (lo + i)) (wipe σ vs) H' fun σ2 H2 => wipe σ2 vs = wipe σ vs ∧ tt σ2 H2 fun b H3 =>
      if b = true then te σ2 H3 fun y H4 => ∃ acc, H4 D = some (.lst acc) ∧ acc.length < sizeLine ∧ LcV I D (i + 1) (upd H4 D (.lst (acc ++ [y]))) else LcV I D (i + 1) H3)
    (fin : ∀ acc L' B' D H', I n acc L' B' → Hs B' ((D, .lst acc) :: L') H' → P D H') :
    ∀ D, H D = none → ∃ W : Nat → Nat → Hp → Prop, (∃ m, W 0 m (upd H D (.lst []))) ∧ ∀ i m H, W i m H →
      ((Itr lo n).stop i H ∧ P D H) ∨ ((Itr lo n).go i H ∧ ∃ Nx : Hp → Prop, (∀ H', Nx H' → ∃ m', m' < m ∧ W (i + 1) m' H') ∧ ∀ x H', (Itr lo n).yld i H x H' → g x (wipe σ vs) H' fun σ2 H2 => wipe σ2 vs = wipe σ vs ∧ tt σ2 H2 fun b H3 =>
        if b = true then te σ2 H3 fun y H4 => ∃ acc, H4 D = some (.lst acc) ∧ acc.length < sizeLine ∧ Nx (upd H4 D (.lst (acc ++ [y]))) else Nx H3) :=
  fun D hD => L2.lc_range (LcV I D) ⟨[], L, B, h0, hs.new hD⟩ (fun i H' e ⟨acc, L', B', p, h⟩ => turn i acc L' B' D H' e p h) fun H' ⟨acc, L', B', p, h⟩ => fin acc L' B' D H' p h
theorem c_itemV {D : Addr} {acc : List V} {y : V} {B2 : Hp} {P : List V → Pic → Hp → Prop} (h : Hs B2 ((D, .lst acc) :: L) H) (hz : acc.length < sizeLine) (i : P (acc ++ [y]) L B2) :
    ∃ acc, H D = some (.lst acc) ∧ acc.length < sizeLine ∧ ∃ acc2 L' B', P acc2 L' B' ∧ Hs B' ((D, .lst acc2) :: L') (upd H D (.lst (acc ++ [y]))) :=
  ⟨acc, h.get (.head _), hz, acc ++ [y], L, B2, i, h.u0⟩
end
end L2.BP
namespace L2.BP
open PySem PySem.Spec PyProof.Rows
theorem Tups.snocFix {K : PySem.W.Frag} {B : Hp} {t : Addr} {xs : List V} {acc : List V} {ps : List (List V)} (h : Tups K B acc ps) (hn : B t = none) : Tups K (upd B t (.tup xs)) (acc ++ [.ref t]) (ps ++ [xs]) := (h.same (same_upd hn)).snoc (SqT.of upd_same)
end L2.BP
namespace L2.BP
open PySem PySem.Spec PyProof.Rows
/-! ### try: .. except X as e: suite -/
def tTryAs (K : PySem.W.Frag) (c : Value) (i : Nat) (tb : WX → TS) (ts : Addr → Value → Option Addr → TS) (W : WX) : TS := fun D σ H => tb (wAs K c i ts W D) D σ H
section
variable {K : PySem.W.Frag} {c cls : Value} {d : Option Addr} {i : Nat} {tb : WX → TS} {ts : Addr → Value → Option Addr → TS} {W : WX} {D : Ends} {σ : St} {H B : Hp} {L : Pic} {Q : VK}
theorem ps_tryAs {X : Cx} {x n : Str} {c : Value} {i : Nat} {body suite : List Stmt} {b₀ : Stmt} {np pos pos' : Pos} {tb : WX → TS} {ts : Addr → Value → Option Addr → TS} {Wout : WX} (hs : X.stack = X.env :: X.outer) (hf : X.env.frame = some X.env.locals) (hN : X.N.Nodup) (hi : X.N[i]? = some n) (hln : X.env.kindOf n = some .local) (hc : Names X x c) (tk : Takes X Wout)
    (hb : ∀ (W : WX) (pn : List (Addr × Obj)) (xe : Value → Shared → Prop), Takes (X.tr pn xe) W → PassesOwn (model X.prog X.w) X.A X.env xe → PSs (X.tr pn xe) body (tb W))
    (hsu : ∀ (a : Addr) (oe : Obj) (cls : Value) (d : Option Addr) (pn : List (Addr × Obj)), Zc cls d oe → (∃ vs, oe.data = .fields vs) → PSs (X.suite a ((a, oe) :: pn)) (b₀ :: suite) (ts a cls d)) :
    PS X (.Try body [.ExceptHandler (some (.Name x np)) (some n) (b₀ :: suite) pos'] [] [] pos) (tTryAs X.K c i tb ts Wout) := ps_try_as hs hf hN hi hln hc tk hb hsu
theorem w_tryAs (k : tb (wAs K c i ts W D) D σ H) : tTryAs K c i tb ts W D σ H := k
theorem c_wAs (e : PySem.W.exmOne K cls c = some true) (k : ∀ a, H a = none → ts a cls d { nx := fun σ' H' => D.nx (σ'.set i none) H', rt := D.rt, bk := fun σ' H' => D.bk (σ'.set i none) H', ct := fun σ' H' => D.ct (σ'.set i none) H' } (σ.set i (some (.ref a))) H) : wAs K c i ts W D cls d σ H :=
  ⟨true, e, fun _ => k, fun z => nomatch z⟩
/-- isinstance(e, c), e what the suite holds: an exception of the class cls -/
def rIsX (K : PySem.W.Frag) (a : Addr) (cls : Value) (d : Option Addr) : List V → Hp → VK → Prop := fun xs H Q => ∃ (D : Addr) (c : V) (cv : Value) (b : Bool), cls = .ref D ∧ d = none ∧ ExcC K D ∧ xs = [.ref a, c] ∧ (∀ u, RelV c u → u = cv) ∧ PySem.W.kitOne K (.ref D) cv = some b ∧ Q (.bl b) H
theorem call_isX {X : Cx} {a : Addr} {oe : Obj} {pn : List (Addr × Obj)} {cls : Value} {d : Option Addr} (hz : Zc cls d oe) (hf : ∃ vs, oe.data = .fields vs) : CallR (X.suite a ((a, oe) :: pn)) (.builtin "isinstance") (rIsX X.K a cls d) := by
  intro pins s σ H xs us Q I r h
  obtain ⟨D, c, cv, b, rfl, rfl, C, e1, e2, e3, q⟩ := h
  exact call_isE C hz hf pins s σ H xs us Q I r ⟨c, cv, b, e1, e2, e3, q⟩
theorem c_isXc {a D C : Addr} {b : Bool} (x : ExcC K D) (e : PySem.W.kitOne K (.ref D) (.ref C) = some b) (k : Q (.bl b) H) : rIsX K a (.ref D) none [.ref a, .ref C] H Q := ⟨D, .ref C, .ref C, b, rfl, rfl, x, rfl, fun _ r => r, e, k⟩
theorem c_isXv {a D : Addr} {t : String} {b : Bool} (x : ExcC K D) (e : PySem.W.kitOne K (.ref D) (.type t) = some b) (k : Q (.bl b) H) : rIsX K a (.ref D) none [.ref a, .ty t] H Q := ⟨D, .ty t, .type t, b, rfl, rfl, x, rfl, fun _ r => r, e, k⟩
theorem c_dnewK (hs : Hs B L H) (k : ∀ p H', Hs B ((p, .dK []) :: L) H' → Q (.ref p) H') : tDNewK σ H Q := fun p hp => k p _ (hs.new hp)
theorem c_tupL {p : Addr} {xs : List V} (h : Hs B L H) (hq : SqL K H p xs) (k : ∀ a H', Hs B ((a, .tup xs) :: L) H' → Q (.ref a) H') : rTupleK K [.ref p] H Q := ⟨p, xs, rfl, .inl ⟨hq, fun a ha => k a _ (h.new ha)⟩⟩
end
/-! ### texts: find, upper, join -/
def rFindK : V → List V → Hp → VK → Prop := fun x xs H Q => ∃ a b, x = .str a ∧ xs = [.str b] ∧ Q (.int (Txt.find a b)) H
def rUpperK : V → List V → Hp → VK → Prop := fun x xs H Q => ∃ a, x = .str a ∧ xs = [] ∧ a.length ≤ 5592405 ∧ Q (.str (Txt.upper a)) H
def rJoinK (K : PySem.W.Frag) : V → List V → Hp → VK → Prop := fun x xs H Q => ∃ a p, ∃ ys : List Str, x = .str a ∧ xs = [.ref p] ∧ (SqL K H p (ys.map V.str) ∨ SqT K H p (ys.map V.str)) ∧ (ys.map (·.length)).sum + ys.length * a.length ≤ 16777216 ∧ Q (.str (Txt.join a ys)) H
section
variable {X : Cx} {o e : Expr} {to te : TE} {K : PySem.W.Frag} {σ : St} {H B : Hp} {L : Pic} {Q : VK}
theorem pe_find {apos pos : Pos} (ho : PE X o to) (he : PE X e te) (hs : starEach [e] X.env = [(false, eval e X.env)] := by rfl) (hbase : attributeBase o "find" X.env (eval o X.env) = eval o X.env := by rfl) (hline : (apos.endLine == pos.line) = true := by rfl) :
    PE X (.Call (.Attribute o "find" apos) [e] [] pos) (tM1 rFindK to te) := pe_m1 F.slot_str_find F.type_str_find mt_find ho he hs hbase hline
theorem pe_upperK {apos pos : Pos} (ho : PE X o to) (hbase : attributeBase o "upper" X.env (eval o X.env) = eval o X.env := by rfl) (hline : (apos.endLine == pos.line) = true := by rfl) :
    PE X (.Call (.Attribute o "upper" apos) [] [] pos) (tM0 rUpperK to) := pe_m0 F.slot_str_upper F.type_str_upper mt_upper ho hbase hline
theorem pe_joinK {apos pos : Pos} (ho : PE X o to) (he : PE X e te) (hs : starEach [e] X.env = [(false, eval e X.env)] := by rfl) (hbase : attributeBase o "join" X.env (eval o X.env) = eval o X.env := by rfl) (hline : (apos.endLine == pos.line) = true := by rfl) :
    PE X (.Call (.Attribute o "join" apos) [e] [] pos) (tM1 (rJoinK X.K) to te) := pe_m1 F.slot_str_join F.type_str_join mt_join ho he hs hbase hline
def StrO (x : V) (P : Prop) : Prop := (∃ a, x = .str a) ∧ P
theorem c_m0 {r : V → List V → Hp → VK → Prop} (k : to σ H fun x H1 => StrO x (r x [] H1 Q)) : tM0 r to σ H Q := k
theorem c_m1 {r : V → List V → Hp → VK → Prop} (k : to σ H fun x H1 => StrO x (te σ H1 fun y H2 => r x [y] H2 Q)) : tM1 r to te σ H Q := k
theorem c_strO {a : Str} {P : Prop} (k : P) : StrO (.str a) P := ⟨⟨a, rfl⟩, k⟩
theorem c_find {a b : Str} (k : Q (.int (Txt.find a b)) H) : rFindK (.str a) [.str b] H Q := ⟨a, b, rfl, rfl, k⟩
theorem c_upper {a : Str} (h : a.length ≤ 5592405) (k : Q (.str (Txt.upper a)) H) : rUpperK (.str a) [] H Q := ⟨a, rfl, rfl, h, k⟩
theorem c_join {a : Str} {p : Addr} {ys : List Str} (h : SqL K H p (ys.map V.str)) (hl : (ys.map (·.length)).sum + ys.length * a.length ≤ 16777216) (k : Q (.str (Txt.join a ys)) H) : rJoinK K (.str a) [.ref p] H Q := ⟨a, p, ys, rfl, rfl, .inl h, hl, k⟩
end
/-! ### a comprehension over a text -/
section
variable {K : PySem.W.Frag} {g : TG} {tt : TT} {te : TE} {σ : St} {H B : Hp} {L : Pic} {vs : List Nat} {P : Addr → Hp → Prop}
theorem c_lcS {x : Str} (I : Nat → List V → Hp → Prop) (hs : Hs B L H) (h0 : I 0 [] B)
    (turn : ∀ i c acc B' D H', x.cps[i]? = some c → I i acc B' → Same B B' → Hs B' ((D, .lst acc) :: L) H' → g (.str ⟨#[c]⟩) (wipe σ vs) H' fun σ2 H2 => wipe σ2 vs = wipe σ vs ∧ tt σ2 H2 fun b H3 =>
      if b = true then te σ2 H3 fun y H4 => ∃ acc, H4 D = some (.lst acc) ∧ acc.length < sizeLine ∧ (fun H' => ∃ acc B', I (i + 1) acc B' ∧ Same B B' ∧ Hs B' ((D, .lst acc) :: L) H') (upd H4 D (.lst (acc ++ [y]))) else (fun H' => ∃ acc B', I (i + 1) acc B' ∧ Same B B' ∧ Hs B' ((D, .lst acc) :: L) H') H3)
    (fin : ∀ acc B' D H', I x.cps.size acc B' → Same B B' → Hs B' ((D, .lst acc) :: L) H' → P D H') :
    ∀ D, H D = none → ∃ W : Nat → Nat → Hp → Prop, (∃ m, W 0 m (upd H D (.lst []))) ∧ ∀ i m H, W i m H →
      ((Its x).stop i H ∧ P D H) ∨ ((Its x).go i H ∧ ∃ Nx : Hp → Prop, (∀ H', Nx H' → ∃ m', m' < m ∧ W (i + 1) m' H') ∧ ∀ v H', (Its x).yld i H v H' → g v (wipe σ vs) H' fun σ2 H2 => wipe σ2 vs = wipe σ vs ∧ tt σ2 H2 fun b H3 =>
        if b = true then te σ2 H3 fun y H4 => ∃ acc, H4 D = some (.lst acc) ∧ acc.length < sizeLine ∧ Nx (upd H4 D (.lst (acc ++ [y]))) else Nx H3) := by
  intro D hD
  refine ⟨fun i m H => m = x.cps.size - i ∧ i ≤ x.cps.size ∧ ∃ acc B', I i acc B' ∧ Same B B' ∧ Hs B' ((D, .lst acc) :: L) H, ⟨x.cps.size, by simp, Nat.zero_le _, [], B, h0, Same.refl B, hs.new hD⟩, ?_⟩
  rintro i m H' ⟨rfl, hi, acc, B', q, e, h⟩
  by_cases hlt : i < x.cps.size
  · refine .inr ⟨hlt, fun H' => ∃ acc B', I (i + 1) acc B' ∧ Same B B' ∧ Hs B' ((D, .lst acc) :: L) H', fun H2 p => ⟨_, by omega, rfl, hlt, p⟩, ?_⟩
    rintro v H2 ⟨rfl, c, hc, rfl⟩
    exact turn i c acc B' D _ hc q e h
  · have e2 : i = x.cps.size := by omega
    subst e2
    exact .inl ⟨Nat.le_refl _, fin _ _ _ _ q e h⟩
end
end L2.BP
namespace L2.BP
open PySem PySem.Spec PyProof.Rows
/-! ### the same rules where exceptions bear no context (L2N) -/
/-! ### calls that may let an error out, wished for at the caller's slots -/
section
variable {X : Cx} {k : Nat} {f C : Addr} {fd : FuncData} {ps : List Str} {sp : Sp} {dvs : List V} {ds : List Value} {W : WX} {x m : Str} {p pos apos : Pos} {e o : Expr} {es : List Expr} {ta : TE} {t : TA}
/-- f(e, ..) -/
theorem pe_clN (F : FnOk X.prog X.w X.K X.mg X.base (L2N.CX X.prog X.w) k f fd ps sp) (hr : Room k X.A) (hg : Gl X x) (hm : X.mg x = some (.ref f)) (hk : PySem.W.keepIn X.K (.ref f) = true)
    (hb : Binds X.K fd ps ds) (hd : Vals dvs ds) (tk : L2N.Takes X W) (ha : PA X (e :: es) t) (hdb : (x == ("__debug__" : Str)) = false := by decide)
    (he : starEach (e :: es) X.env = (false, eval e X.env) :: starEach es X.env := by rfl) (hpl : (backTo pos (starEach es X.env)).any (·.1) = false := by rfl) :
    PE X (.Call (.Name x p) (e :: es) [] pos) (tCl sp dvs W t) :=
  pe_callSD (E := WE W) F hr hg hm hk hb hd (fun σ => L2N.passAt tk σ) ha hdb he hpl
theorem pe_cl0N (F : FnOk X.prog X.w X.K X.mg X.base (L2N.CX X.prog X.w) k f fd ps sp) (hr : Room k X.A) (hg : Gl X x) (hm : X.mg x = some (.ref f)) (hk : PySem.W.keepIn X.K (.ref f) = true)
    (hb : Binds X.K fd ps ds) (hd : Vals dvs ds) (tk : L2N.Takes X W) (hdb : (x == ("__debug__" : Str)) = false := by decide) :
    PE X (.Call (.Name x p) [] [] pos) (tCl sp dvs W tNil) := by
  constructor
  intro pins s σ H Q I h
  have go := run_fnSD (E := WE W) (us := []) F hr hb hd (L2N.passAt tk σ) I .nil h
  exact wpAny_Call_Name_kw (ld_glob I hg hm (PySem.W.callWith_K0 I.kIn hk go) hdb)
/-- o.m(e, ..) -/
theorem pe_mtN {pl : Sem Bool} (he : PE X o ta) (c : Cls X.K C) (hm : Meth X.K C m f) (F : FnOk X.prog X.w X.K X.mg X.base (L2N.CX X.prog X.w) k f fd ps sp) (hr : Room k X.A)
    (hb : Binds X.K fd ps ds) (hd : Vals dvs ds) (tk : L2N.Takes X W) (ha : PA X (e :: es) t)
    (hst : starEach (e :: es) X.env = (false, eval e X.env) :: starEach es X.env := by rfl) (hpl : (backTo pos (starEach es X.env)).any (·.1) = false := by rfl)
    (ht : eval (.Call (.Attribute o m apos) (e :: es) [] pos) X.env = (do
      let ov ← eval o X.env; standAt apos.atName
      let (f, first) ← holding [ov] (getMethod ov m pl); callWith pos f first (backTo pos (starEach (e :: es) X.env)) (backToKw pos (keywordEach [] X.env))) := by rfl) :
    PE X (.Call (.Attribute o m apos) (e :: es) [] pos) (tMt C m sp dvs W ta t) := by
  constructor
  intro pins s σ H Q I h
  refine PySem.W.methodCall_KW (pl := pl) (thn (he.run pins s σ H _ I h) ?_) ht
  rintro u s1 ⟨x, H1, I1, rx, a, dx, fs, rfl, ea, l, q⟩
  cases (show u = Value.ref a from rx)
  refine getmeth_ok I1 ea c hm l (PySem.W.callWith_K (first := [.ref a]) (h₀ := X.base) I.ok.mod.kin hm.kp ?_ hst hpl)
  refine thn (ha.run pos pins s1 σ H1 _ I1 q) ?_
  rintro us s2 ⟨vs, H2, I2, r, q2⟩
  exact ⟨I2.kIn, run_fnSD (E := WE W) (us := .ref a :: us) (vs := .ref a :: vs) F hr hb hd (L2N.passAt tk σ) I2 (.cons rfl r) q2⟩
theorem pe_mt0N {pl : Sem Bool} (he : PE X o ta) (c : Cls X.K C) (hm : Meth X.K C m f) (F : FnOk X.prog X.w X.K X.mg X.base (L2N.CX X.prog X.w) k f fd ps sp) (hr : Room k X.A)
    (hb : Binds X.K fd ps ds) (hd : Vals dvs ds) (tk : L2N.Takes X W)
    (ht : eval (.Call (.Attribute o m apos) [] [] pos) X.env = (do
      let ov ← eval o X.env; standAt apos.atName
      let (f, first) ← holding [ov] (getMethod ov m pl); callWith pos f first (backTo pos (starEach [] X.env)) (backToKw pos (keywordEach [] X.env))) := by rfl) :
    PE X (.Call (.Attribute o m apos) [] [] pos) (tMt C m sp dvs W ta tNil) := by
  constructor
  intro pins s σ H Q I h
  refine PySem.W.methodCall_KW (pl := pl) (thn (he.run pins s σ H _ I h) ?_) ht
  rintro u s1 ⟨x, H1, I1, rx, a, dx, fs, rfl, ea, l, q⟩
  cases (show u = Value.ref a from rx)
  refine getmeth_ok I1 ea c hm l ?_
  have go := run_fnSD (E := WE W) (us := [.ref a]) (vs := [.ref a]) F hr hb hd (L2N.passAt tk σ) I1 (.cons rfl .nil) q
  exact PySem.W.callWith_K0 (first := [.ref a]) I1.kIn hm.kp go
/-- C(e, ..) -/
theorem run_mkN {pins : List (Addr × Obj)} {σ : St} {H : Hp} {s : Shared} {Q : VK} {us : List Value} {vs : List V} (M : Mk X.K C f) (F : FnOk X.prog X.w X.K X.mg X.base (L2N.CX X.prog X.w) k f fd ps sp) (hr : Room (k + 1) X.A)
    (hb : Binds X.K fd ps ds) (hd : Vals dvs ds) (tk : L2N.Takes X W) (I : Inv X pins σ H s) (r : Vals vs us)
    (h : ∀ x dx, H x = none → H dx = none → dx ≠ x → sp (.ref x :: (vs ++ dvs)) (upd (upd H dx (.own x)) x (.ins C dx [])) (fun v H2 => v = .non ∧ Q (.ref x) H2) fun c d H2 => W c d σ H2) :
    wpAny (model X.prog X.w) X.A (call (.ref C) us) (EP X pins σ Q) X.xe s := by
  have hq := h (s.heap.objs.size + 1) s.heap.objs.size (I.hok.fresh (Nat.le_succ _)) (I.hok.fresh (Nat.le_refl _)) (Nat.ne_of_lt (Nat.lt_succ_self _))
  have J := Inv.made (C := C) I
  have rr : Vals (V.ref (s.heap.objs.size + 1) :: (vs ++ dvs)) (Value.ref (s.heap.objs.size + 1) :: (us ++ ds)) := .cons rfl (r.append hd)
  have hl : (Value.ref (s.heap.objs.size + 1) :: us ++ ds).length = ps.length := by
    have e1 := rr.length
    rw [F.len _ _ _ _ hq] at e1
    exact e1.symm
  have run := F.run _ X.stack _ _ ⟨Value.ref (s.heap.objs.size + 1) :: us, []⟩ (Value.ref (s.heap.objs.size + 1) :: (us ++ ds)) _ _ _ (hr.make C us []) (J.env0.make C us []) (hb _ (Value.ref (s.heap.objs.size + 1) :: us) J.kIn hl) rr hq
  refine wpAny_call (make_map (f := f) I.kIn M.makes M.init (beq_iff_eq.mp M.fn) (codeAny_mono run ?_))
  intro r s' z
  match r, z with
  | .error e, z => exact (L2N.passAt tk σ) pins _ _ e s' J z
  | .ok (.ret u), z =>
    obtain ⟨v, H', J3, rv, ev, q3⟩ := J.after z
    subst ev
    exact ⟨rv, ⟨V.ref (s.heap.objs.size + 1), H', J3, rfl, q3⟩⟩
theorem pe_mkN (M : Mk X.K C f) (F : FnOk X.prog X.w X.K X.mg X.base (L2N.CX X.prog X.w) k f fd ps sp) (hr : Room (k + 1) X.A) (hg : Gl X x) (hm : X.mg x = some (.ref C))
    (hb : Binds X.K fd ps ds) (hd : Vals dvs ds) (tk : L2N.Takes X W) (ha : PA X (e :: es) t) (hdb : (x == ("__debug__" : Str)) = false := by decide)
    (he : starEach (e :: es) X.env = (false, eval e X.env) :: starEach es X.env := by rfl) (hpl : (backTo pos (starEach es X.env)).any (·.1) = false := by rfl) :
    PE X (.Call (.Name x p) (e :: es) [] pos) (tMk C sp dvs W t) := by
  constructor
  intro pins s σ H Q I h
  refine wpAny_Call_Name_kw (ld_glob I hg hm (PySem.W.callWith_K (h₀ := X.base) I.ok.mod.kin M.kp ?_ he hpl) hdb)
  refine thn (ha.run pos pins s σ H _ I h) ?_
  rintro us s1 ⟨vs, H1, I1, r, q⟩
  exact ⟨I1.kIn, run_mkN M F hr hb hd tk I1 r q⟩
theorem pe_mk0N (M : Mk X.K C f) (F : FnOk X.prog X.w X.K X.mg X.base (L2N.CX X.prog X.w) k f fd ps sp) (hr : Room (k + 1) X.A) (hg : Gl X x) (hm : X.mg x = some (.ref C))
    (hb : Binds X.K fd ps ds) (hd : Vals dvs ds) (tk : L2N.Takes X W) (hdb : (x == ("__debug__" : Str)) = false := by decide) :
    PE X (.Call (.Name x p) [] [] pos) (tMk C sp dvs W tNil) := by
  constructor
  intro pins s σ H Q I h
  have go := run_mkN (us := []) M F hr hb hd tk I .nil h
  exact wpAny_Call_Name_kw (ld_glob I hg hm (PySem.W.callWith_K0 I.kIn M.kp go) hdb)
end
/-! ### an error raised -/
theorem ps_rzN {X : Cx} {W : WX} {C : Addr} {x m : Str} {j : Nat} {p p2 pos pos2 : Pos} (hc : X.calm = true) (tk : L2N.Takes X W) (q : PySem.W.excIn X.K C He.veBase "ValueError.__new__" = true ∧ PySem.W.keepIn X.K (.ref C) = true ∧ PySem.W.subIn X.K (.ref C) (.type "BaseException") = some true ∧ PySem.W.typeIn X.K (.ref C) = some (.type "type"))
    (gC : X.mg x = some (.ref C)) (hg : Gl X x) (hdb : (x == ("__debug__" : Str)) = false := by decide) :
    PS X (.Raise (some (.Call (.Name x p) [.Constant (.str m) j p2] [] pos)) none pos2) (tRz C W) :=
  L2N.ps_raise hc tk (L2N.pmk_own PySem.F.excBase_ValueError q.1 gC q.2.1 (raises_own q.2.2.1 q.2.2.2) hg hdb)

theorem takes0N {X : Cx} : L2N.Takes X (fun _ _ _ _ => False) := fun _ _ x => by
  obtain ⟨_, _, _, _, _, _, _, _, _, _, _, _, _, _, _, _, z⟩ := x
  exact z.elim
def DOkN (P : Program) (w : World) (K : PySem.W.Frag) (mg : Str → Option Value) (base : Heap) (k : Nat) (f : Addr) (ps : List Str) (dvs : List V) (sp : Sp) : Prop :=
  ∃ (fd : FuncData) (ds : List Value), Vals dvs ds ∧ Binds K fd ps ds ∧ FnOk P w K mg base (L2N.CX P w) k f fd ps sp ∧ PySem.W.keepIn K (.ref f) = true
theorem ps_tryAsN {X : Cx} {x n : Str} {c : Value} {i : Nat} {body suite : List Stmt} {b₀ : Stmt} {np pos pos' : Pos} {tb : WX → TS} {ts : Addr → Value → Option Addr → TS} {Wout : WX} (hs : X.stack = X.env :: X.outer) (hf : X.env.frame = some X.env.locals) (hN : X.N.Nodup) (hi : X.N[i]? = some n) (hln : X.env.kindOf n = some .local) (hc : Names X x c) (tk : L2N.Takes X Wout)
    (hb : ∀ (W : WX) (pn : List (Addr × Obj)) (xe : Value → Shared → Prop), L2N.Takes (X.tr pn xe) W → PassesOwn (model X.prog X.w) X.A X.env xe → PSs (X.tr pn xe) body (tb W))
    (hsu : ∀ (a : Addr) (oe : Obj) (cls : Value) (d : Option Addr) (pn : List (Addr × Obj)), L2N.Zn cls d oe → (∃ vs, oe.data = .fields vs) → PSs (X.suite a ((a, oe) :: pn)) (b₀ :: suite) (ts a cls d)) :
    PS X (.Try body [.ExceptHandler (some (.Name x np)) (some n) (b₀ :: suite) pos'] [] [] pos) (tTryAs X.K c i tb ts Wout) := L2N.ps_try_as hs hf hN hi hln hc tk hb hsu
end L2.BP
namespace L2.BP
open PySem PySem.Spec PyProof.Rows L2H
/-! ### defs that are handed the exception that an except suite holds -/
/-- such a def's promise: where the exception stands, its class, its dict -/
abbrev SpE : Type := Addr → Value → Option Addr → Sp
structure FnE (P : Program) (w : World) (K : PySem.W.Frag) (mg : Str → Option Value) (base : Heap) (CX : CXT) (k : Nat) (f : Addr) (fd : FuncData) (ps : List Str) (sp : SpE) : Prop where
  len : ∀ a c d vs H Q E, sp a c d vs H Q E → vs.length = ps.length
  run : ∀ (A : Around) (outer : List Env) (s : Shared) (H : Hp) (args : Args) (us : List Value) (vs : List V) (Q : VK) (E : XK) (p : Addr × Obj) (cls : Value) (d : Option Addr), RoomH k A → Hot1 A p → L2N.Zn cls d p.2 → PinOk outer H s p → Env0 P w K mg base A outer s H → BindsTo s fd args (ps.zip us) → Vals vs us → sp p.1 cls d vs H Q E →
    codeAny (model P w) A (.call (.ref f) args) (CR CX outer P w H s Q E) s
def flowVal : Flow → Value
  | .ret u => u
  | _ => .none
/-- a body's end, as the caller takes it -/
theorem bodyEnd {P : Program} {w : World} {K : PySem.W.Frag} {mg : Str → Option Value} {base : Heap} {CX : CXT} {N : List Str} {qual : Str} {scope : Scope} {f : Addr} {cd : Value} {A : Around} {outer : List Env} {s s' : Shared} {H : Hp} {Q : VK} {E : XK} {p : Addr × Obj} {fl : Flow}
    (h : SP (cxH CX P w K mg base N qual scope f cd A outer s H E p) [] { nx := fun _ H' => Q .non H', rt := Q } fl s') : CR CX outer P w H s Q E (.ok (.ret (flowVal fl))) s' := by
  cases fl with
  | brk => exact h.elim fun _ h => h.elim fun _ h => h.2.elim
  | cont => exact h.elim fun _ h => h.elim fun _ h => h.2.elim
  | next =>
    obtain ⟨_, H1, J, q⟩ := h
    exact ⟨.non, H1, J.os, J.bare, J.base, J.hok, rfl, q⟩
  | ret u =>
    obtain ⟨v, _, H1, J, rv, q⟩ := h
    exact ⟨v, H1, J.os, J.bare, J.base, J.hok, rv, q⟩

theorem FunD.okE {P : Program} {w : World} {K : PySem.W.Frag} {mg : Str → Option Value} {base : Heap} {x qual : Str} {params : Arguments} {body : List Stmt} {scope : Scope} {dvs : List V} {kws : List (Str × V)} {f : Addr} {fd : FuncData} {CX : CXT} {N ps : List Str} {k : Nat} {sp : SpE} (F : FunD K x qual params body scope dvs kws f fd) (S : FnScope N ps scope) (len : ∀ a c d vs H Q E, sp a c d vs H Q E → vs.length = ps.length)
    (hbody : ∀ (cdv : Value) (A : Around) (outer : List Env) (s : Shared) (H : Hp) (vs : List V) (Q : VK) (E : XK) (p : Addr × Obj) (cls : Value) (d : Option Addr), Hot1 A p → L2N.Zn cls d p.2 → RoomH k (A.deeper (envOfC qual scope s.heap.objs.size f cdv)) → sp p.1 cls d vs H Q E →
      ∃ t, PSs (cxH CX P w K mg base N qual scope f cdv A outer s H E p) body t ∧ t { nx := fun _ H' => Q .non H', rt := Q } (L2.start N vs) H) : FnE P w K mg base CX (k + 1) f fd ps sp where
  len := len
  run := by
    intro A outer s H args us vs Q E p cls d room hot zn pin env binds vals want
    obtain ⟨_, _, _, _, _, _, _, cdv, _, _, e, look, code, _, _⟩ := F.ex
    subst e
    have world := env.mod.kin.keeps fun b o e => (env.bs b o e).1
    have free := env.mod.nolimit.keeps fun b o e => (env.bs b o e).1
    have kinds : ∀ y ∈ ps.zip us, scope.names.lookup y.1 = some .local ∨ (scope.names.lookup y.1 = some .cell ∧ ((cellsFrom (s.heap.objs.size + 1) scope.names []).lookup y.1).isSome = true) := by
      intro y hy
      cases S.par y.1 (List.of_mem_zip (show (y.1, y.2) ∈ ps.zip us from hy)).1 with
      | inl h => exact Or.inl h
      | inr h => exact Or.inr ⟨h, PySem.W.cellsFrom_some _ _ _ (Or.inl h)⟩
    have entered := codeAny_call_function (prog := P) (w := w) (A := A) (R := CR CX outer P w H s Q E) (s := s) (args := args) room.depth (world _ _ look) rfl S.co S.gen rfl (PySem.W.codeRec_of world code)
    apply entered
    apply binds
    apply wpAny_newFunctionEnv_cells S.kind kinds
    rintro env' rfl s1 made
    refine And.intro (free.keeps made.toInCall.keep) (codeAny_func ?_)
    obtain ⟨t, reads, goal⟩ := hbody cdv A outer s H vs Q E p cls d hot zn (room.deeper _) want
    have start : Inv (cxH CX P w K mg base N qual scope f cdv A outer s H E p) [] (L2.start N vs) H s1 := inv_startH S pin env (len _ _ _ _ _ _ _ want) vals made
    exact wpAny_mono (reads.run [] s1 _ _ _ start goal) (fun fl _ h => by
      have z := bodyEnd h
      cases fl <;> exact z) fun _ _ h => h
section
variable {X : Cx} {k : Nat} {f a : Addr} {oe : Obj} {pn : List (Addr × Obj)} {cls : Value} {d : Option Addr} {fd : FuncData} {ps : List Str} {sp : SpE} {x : Str} {q pos : Pos} {e : Expr} {es : List Expr} {t : TA}
theorem hot_of {A : Around} (hz : L2N.Zn cls d oe) (hf : ∃ vs, oe.data = .fields vs) : Hot1 (A.mark (some (.ref a))) (a, oe) :=
  hf.elim fun vs hv => ⟨rfl, vs, hv, hz.2.2 vs hv⟩
/-- f(.., e, ..) in the suite -/
def tClE (a : Addr) (cls : Value) (d : Option Addr) (sp : SpE) (t : TA) : TE := fun σ H Q => t σ H fun vs H1 => sp a cls d vs H1 Q fun _ _ _ => False
theorem c_clE {σ : St} {H : Hp} {Q : VK} (h : t σ H fun vs H1 => sp a cls d vs H1 Q fun _ _ _ => False) : tClE a cls d sp t σ H Q := h
/-- the def called, nothing let out of it -/
theorem run_clE (F : FnE X.prog X.w X.K X.mg X.base (L2N.CX X.prog X.w) k f fd ps sp) (hr : RoomH k X.A) (hz : L2N.Zn cls d oe) (hf : ∃ vs, oe.data = .fields vs) (hb : Binds X.K fd ps []) {pins : List (Addr × Obj)} {σ : St} {s : Shared} {H : Hp} {Q : VK} {us : List Value} {vs : List V}
    (I : Inv (X.suite a ((a, oe) :: pn)) pins σ H s) (r : Vals vs us) (h : sp a cls d vs H Q fun _ _ _ => False) : wpAny (model X.prog X.w) (X.suite a ((a, oe) :: pn)).A (call (.ref f) us) (EP (X.suite a ((a, oe) :: pn)) pins σ Q) (X.suite a ((a, oe) :: pn)).xe s := by
  have many : us.length = ps.length := r.length ▸ F.len _ _ _ _ _ _ _ h
  have bound := hb s us I.kIn (by simpa using many)
  rw [List.append_nil] at bound
  obtain ⟨g1, g2, g3, g4, g5⟩ := I.pin (a, oe) (List.mem_append_left _ (.head _))
  have away : a ∉ frs (X.suite a ((a, oe) :: pn)).stack := fun hm => by
    rcases List.mem_cons.mp (I.stkSub a hm) with z | z
    · exact g3 z
    · exact g4 z
  have ran := F.run (X.suite a ((a, oe) :: pn)).A (X.suite a ((a, oe) :: pn)).stack s H ⟨us, []⟩ us vs Q (fun _ _ _ => False) (a, oe) cls d ⟨hr.dp, hr.un⟩ (hot_of hz hf) hz ⟨g1, g2, away, g5⟩ I.env0 bound r h
  refine wpAny_call (codeAny_mono ran ?_)
  intro res s' got
  match res, got with
  | .error _, got =>
    obtain ⟨_, _, _, _, _, _, _, _, _, _, _, _, z⟩ := got
    exact z.elim
  | .ok (.ret _), got => exact I.after got
theorem pe_clE (F : FnE X.prog X.w X.K X.mg X.base (L2N.CX X.prog X.w) k f fd ps sp) (hr : RoomH k X.A) (hz : L2N.Zn cls d oe) (hf : ∃ vs, oe.data = .fields vs) (hg : Gl (X.suite a ((a, oe) :: pn)) x) (hm : X.mg x = some (.ref f)) (hk : PySem.W.keepIn X.K (.ref f) = true) (hb : Binds X.K fd ps [])
    (ha : PA (X.suite a ((a, oe) :: pn)) (e :: es) t) (hdb : (x == ("__debug__" : Str)) = false := by decide) (he : starEach (e :: es) X.env = (false, eval e X.env) :: starEach es X.env := by rfl) (hpl : (backTo pos (starEach es X.env)).any (·.1) = false := by rfl) :
    PE (X.suite a ((a, oe) :: pn)) (.Call (.Name x q) (e :: es) [] pos) (tClE a cls d sp t) where
  run := fun pins s σ H Q I h => wpAny_Call_Name_kw (ld_glob I hg hm (PySem.W.callWith_K (h₀ := X.base) I.ok.mod.kin hk
    (thn (ha.run pos pins s σ H _ I h) fun _ s1 z => z.elim fun vs z => z.elim fun H1 z => ⟨z.1.kIn, run_clE F hr hz hf hb z.1 z.2.1 z.2.2⟩) he hpl) hdb)
/-- isinstance(e, c) in the def -/
theorem call_isP {X : Cx} {p : Addr × Obj} {cls : Value} {d : Option Addr} (hp : p ∈ X.pn) (hz : Zc cls d p.2) (hf : ∃ vs, p.2.data = .fields vs) : CallR X (.builtin "isinstance") (rIsX X.K p.1 cls d) := by
  rintro pins s σ H xs us Q I r ⟨D, c, cv, b, rfl, rfl, C, rfl, hcv, e, q⟩
  match us, r with
  | [_, _], .cons rfl (.cons rt .nil) =>
    rw [hcv _ rt]
    have there := (I.pin p (List.mem_append_left _ hp)).1
    have J : PySem.W.InstAt s.heap p.1 p.2 D none := by
      obtain ⟨vs, hv⟩ := hf
      obtain ⟨pa, ⟨_, _, _, _⟩⟩ := p
      obtain ⟨h1, h2⟩ := hz
      dsimp only at h1 h2 hv
      subst h1 h2 hv
      exact ⟨there, rfl, rfl, trivial⟩
    exact PySem.W.kia_one (PySem.W.handS_kitx_exc C.hg C.hk C.hs C.hd C.ha C.hn C.ht C.hm) I.kIn J e (fun z => nomatch z) fun tk => ⟨.bl b, H, I.kept (t' := tk) fun _ _ z => z, rfl, q⟩
theorem hot_fields {A : Around} {p : Addr × Obj} (h : Hot1 A p) : ∃ vs, p.2.data = .fields vs := h.2.elim fun vs z => ⟨vs, z.1⟩
end
end L2.BP
namespace L2.BP
open PySem PySem.Spec PyProof.Rows HotX L2H
/-! ### name = [.. for .. in a list ..], where an exception is handled -/
section
variable {prog : Program} {w : World} {A : Around} {E : Value → Shared → Prop} {s : Shared}
/-- a list's iterator at its end: the StopIteration that is made there has the handled one for its context -/
theorem endHot {it l e1 : Addr} {n : Nat} {xs : Array Value} {Q : Option Value → Shared → Prop} (hot : HotAt A e1 s.heap) (ne : it ≠ e1) (at_ : s.heap.IsListIter it l n) (lst : s.heap.IsList l xs) (out : xs[n]? = none)
    (k : ∀ h', (∀ b o, b ≠ it → s.heap.get? b = some o → h'.get? b = some o) → Q none { s with heap := h' }) : wpAny (model prog w) A (pyNext (.ref it)) Q E s := by
  obtain ⟨held, ox, fields, there, data, ctx⟩ := hot
  obtain ⟨oi, geti, _, di⟩ := id at_
  obtain ⟨ol, getl, _, _, dl⟩ := lst
  have kept : ∀ {b : Addr} {o : Obj} {f : Obj → Obj} {u v : Obj}, b ≠ it → s.heap.get? b = some o → (((s.heap.update it f).push u).push v).get? b = some o := by
    intro b o f u v hb e
    apply Heap.get?_push_of_some
    apply Heap.get?_push_of_some
    rw [Heap.get?_update_other _ _ hb.symm]
    exact e
  unfold pyNext
  apply wpAny_bind
  apply wpAny_attempt
  apply wpAny_callSpecial?_slot (name := Str.ofString "__next__") at_.typeIs slot_listiter_next
  refine wpAny_call_entry slot_listiter_next at_.typeIs entry_listiter_next ?_ (args_listiter_next _)
  change wpAny _ _ (field (.ref it) 0 >>= _) _ _ s
  apply wpAny_bind
  refine wpAny_field geti di (x := .ref l) rfl ?_
  change wpAny _ _ (if (Value.ref l == Value.none) = true then _ else _) _ _ s
  rw [if_neg (by exact Bool.false_ne_true)]
  change wpAny _ _ (field (.ref it) 1 >>= _) _ _ s
  apply wpAny_bind
  refine wpAny_field geti di (x := .int n 0) rfl ?_
  change wpAny _ _ (seqItems? (.ref l) >>= _) _ _ s
  apply wpAny_bind
  apply wpAny_seqItems getl dl
  simp only [Int.toNat_natCast, out]
  apply wpAny_bind
  apply wpAny_rule
  apply wpAny_bind
  refine wpAny_setField geti di (by simp) ?_
  change wpAny _ _ (newExc (.type "StopIteration") [] >>= _) _ _ _
  apply wpAny_bind
  simp only [newExc, newTuple]
  apply wpAny_bind
  refine wpAny_newObj_type ?_ (by size_fits)
  apply wpAny_bind (m := firstArgMember _ _)
  refine wpAny_of_eq (a := Value.none) (by first | rfl | (simp only [firstArgMember]; rfl)) ?_
  refine wpAny_newObj_type ?_ (by size_fits)
  refine raiseNew_hot ⟨held, ox, fields, kept ne.symm there, data, ctx⟩ (Nat.ne_of_lt (Heap.lt_size (Heap.get?_push_of_some _ (by rw [Heap.get?_update_other _ _ ne]; exact there)))) (Heap.get?_push_size _ rfl) rfl (by first | (simp; done) | (simp; omega) | (simp only [Array.size_append]; simp; omega)) ?_
  apply wpAny_bind
  refine wpAny_isInstance (T := "StopIteration") (b := true) ⟨_, Heap.get?_update_self _ (Heap.get?_push_size _ rfl) rfl, rfl⟩ isSubtype_stop ?_
  refine wpAny_pure (k _ fun b o hb e => ?_)
  rw [Heap.get?_update_other _ _ (Nat.ne_of_gt (Heap.lt_size (Heap.get?_push_of_some _ (by rw [Heap.get?_update_other _ _ hb.symm]; exact e))))]
  exact kept hb e
/-- a tuple's iterator at its end -/
theorem endTupHot {it l e1 : Addr} {n : Nat} {xs : Array Value} {Q : Option Value → Shared → Prop} (hot : HotAt A e1 s.heap) (ne : it ≠ e1) (at_ : s.heap.IsTupleIter it l n) (lst : s.heap.IsTuple l xs) (out : xs[n]? = none)
    (k : ∀ h', (∀ b o, b ≠ it → s.heap.get? b = some o → h'.get? b = some o) → Q none { s with heap := h' }) : wpAny (model prog w) A (pyNext (.ref it)) Q E s := by
  obtain ⟨held, ox, fields, there, data, ctx⟩ := hot
  obtain ⟨oi, geti, _, di⟩ := id at_
  obtain ⟨ol, getl, _, _, dl⟩ := lst
  have kept : ∀ {b : Addr} {o : Obj} {f : Obj → Obj} {u v : Obj}, b ≠ it → s.heap.get? b = some o → (((s.heap.update it f).push u).push v).get? b = some o := by
    intro b o f u v hb e
    apply Heap.get?_push_of_some
    apply Heap.get?_push_of_some
    rw [Heap.get?_update_other _ _ hb.symm]
    exact e
  unfold pyNext
  apply wpAny_bind
  apply wpAny_attempt
  apply wpAny_callSpecial?_slot (name := Str.ofString "__next__") at_.typeIs F.slot_tuple_iterator_next
  refine wpAny_call_entry F.slot_tuple_iterator_next at_.typeIs F.entry_tuple_iterator_next ?_ (F.args_tuple_iterator_next_1 _)
  change wpAny _ _ (field (.ref it) 0 >>= _) _ _ s
  apply wpAny_bind
  refine wpAny_field geti di (x := .ref l) rfl ?_
  change wpAny _ _ (if (Value.ref l == Value.none) = true then _ else _) _ _ s
  rw [if_neg (by exact Bool.false_ne_true)]
  change wpAny _ _ (field (.ref it) 1 >>= _) _ _ s
  apply wpAny_bind
  refine wpAny_field geti di (x := .int n 0) rfl ?_
  change wpAny _ _ (seqItems? (.ref l) >>= _) _ _ s
  apply wpAny_bind
  apply wpAny_seqItems getl dl
  simp only [Int.toNat_natCast, out]
  apply wpAny_bind
  apply wpAny_rule
  apply wpAny_bind
  refine wpAny_setField geti di (by simp) ?_
  change wpAny _ _ (newExc (.type "StopIteration") [] >>= _) _ _ _
  apply wpAny_bind
  simp only [newExc, newTuple]
  apply wpAny_bind
  refine wpAny_newObj_type ?_ (by size_fits)
  apply wpAny_bind (m := firstArgMember _ _)
  refine wpAny_of_eq (a := Value.none) (by first | rfl | (simp only [firstArgMember]; rfl)) ?_
  refine wpAny_newObj_type ?_ (by size_fits)
  refine raiseNew_hot ⟨held, ox, fields, kept ne.symm there, data, ctx⟩ (Nat.ne_of_lt (Heap.lt_size (Heap.get?_push_of_some _ (by rw [Heap.get?_update_other _ _ ne]; exact there)))) (Heap.get?_push_size _ rfl) rfl (by first | (simp; done) | (simp; omega) | (simp only [Array.size_append]; simp; omega)) ?_
  apply wpAny_bind
  refine wpAny_isInstance (T := "StopIteration") (b := true) ⟨_, Heap.get?_update_self _ (Heap.get?_push_size _ rfl) rfl, rfl⟩ isSubtype_stop ?_
  refine wpAny_pure (k _ fun b o hb e => ?_)
  rw [Heap.get?_update_other _ _ (Nat.ne_of_gt (Heap.lt_size (Heap.get?_push_of_some _ (by rw [Heap.get?_update_other _ _ hb.symm]; exact e))))]
  exact kept hb e
/-- (a, b, ..) = a tuple -/
theorem tupHot {env : Env} {elts : List Expr} {k1 : Nat} {pos : Pos} {t e1 : Addr} {items : Array Value} {Q : Unit → Shared → Prop} (hot : HotAt A e1 s.heap) (ht : s.heap.IsTuple t items) (hn : (assignEach elts env).length = items.size) (hstar : (assignEach elts env).findIdx? (·.1) = none)
    (h : ∀ h', (∀ b o, b ≠ s.heap.objs.size → s.heap.get? b = some o → h'.get? b = some o) → wpAny (model prog w) A (assignInOrder ((assignEach elts env).map (·.2)) items.toList) Q E { s with heap := h' }) : wpAny (model prog w) A (assign (.Tuple elts k1 pos) env (.ref t)) Q E s := by
  have old : t ≠ s.heap.objs.size := by
    obtain ⟨o, e, _⟩ := ht
    exact Nat.ne_of_lt (Heap.lt_size e)
  obtain ⟨held, ox, fields, there, data, ctx⟩ := hot
  have ne : s.heap.objs.size ≠ e1 := Nat.ne_of_gt (Heap.lt_size there)
  rw [arm_assign_Tuple]
  apply wpAny_bind
  apply wpAny_standAt
  unfold unpack
  rw [hn, hstar]
  apply wpAny_bind
  apply wpAny_holding
  unfold unpackItems
  apply wpAny_bind
  unfold notIterableAtAll
  apply wpAny_bind
  apply wpAny_specialOf ht.typeIs F.slot_tuple_iter.lookup
  apply wpAny_pure
  simp only [Bool.false_eq_true, if_false]
  apply wpAny_bind
  apply wpAny_holding
  apply wpAny_pyIter_tuple ht
  apply wpAny_bind
  apply wpAny_holding
  refine wpAny_draw_tuple old items.size 0 _ _ ⟨_, Heap.get?_push_size _ rfl, rfl, rfl⟩ (ht.push _) (by omega) fun h1 at1 but1 => ?_
  rw [List.drop_zero, List.take_of_length_le (by simp), if_neg (by simp)]
  apply wpAny_bind
  apply wpAny_holding
  have keep1 : ∀ b o, b ≠ s.heap.objs.size → s.heap.get? b = some o → h1.get? b = some o := fun b o hb e => but1.extBut b o hb (Heap.get?_push_of_some _ e)
  refine endTupHot (s := { s with heap := h1 }) (e1 := e1) ⟨held, ox, fields, keep1 _ _ ne.symm there, data, ctx⟩ ne at1 ((ht.push _).extBut but1.extBut old) (by simp) fun h2 keep2 => ?_
  simp only [Option.isSome_none, Bool.false_eq_true, if_false]
  exact wpAny_pure (h h2 fun b o hb e => keep2 b o hb (keep1 b o hb e))
end
/-- a target, the handled exception being pinned -/
structure PGH (X : Cx) (p : Addr × Obj) (tg : Expr) (g : TG) : Prop where
  run : ∀ (pins : List (Addr × Obj)) (s : Shared) (σ : St) (H : Hp) (v : V) (u : Value) (Q : St → Hp → Prop), p ∈ X.pn ++ pins → Inv X pins σ H s → RelV v u → g v σ H Q → wpAny (model X.prog X.w) X.A (assign tg X.env u) (fun _ s' => ∃ σ' H', Inv X pins σ' H' s' ∧ Q σ' H') X.xe s
theorem PGH.of {X : Cx} {p : Addr × Obj} {tg : Expr} {g : TG} (h : PG X tg g) : PGH X p tg g := ⟨fun pins s σ H v u Q _ I r k => h.run pins s σ H v u Q I r k⟩
theorem pg_tupH {X : Cx} {p : Addr × Obj} {es : List Expr} {k n : Nat} {pos : Pos} {t : TGs} (hot : Hot1 X.A p) (h : PGs X es t) (hn : (assignEach es X.env).length = n := by rfl) (hst : (assignEach es X.env).findIdx? (·.1) = none := by rfl) : PGH X p (.Tuple es k pos) (gTup X.K n t) where
  run := by
    rintro pins s σ H v u Q hp I r ⟨a, xs, rfl, hq, hl, more⟩
    cases r
    obtain ⟨its, rv, ht, hz⟩ := I.tuple hq
    obtain ⟨hh, v1, e1, c1⟩ := hot
    refine tupHot (e1 := p.1) ⟨hh, p.2, v1, (I.pin p hp).1, e1, c1⟩ (show s.heap.IsTuple a its.toArray from ht) (by simp [hn, ← hl, rv.length]) hst fun h' keep => ?_
    exact h.run pins _ σ H xs _ Q (I.kept (t' := s.toks) fun b o e => keep b o (Nat.ne_of_lt (Heap.lt_size e)) e) (by simpa using rv) more
section
variable {B : Cx} {tg : Expr} {a it : Addr} {pins : List (Addr × Obj)} {s : Shared} {ρ : St} {H : Hp} {E : Value → Shared → Prop} {p : Addr × Obj}
/-- how the loop over the list at a stands, n turns at most to come -/
def HotLp (B : Cx) (p : Addr × Obj) (it a : Addr) (ρ : St) (W : Nat → Nat → Hp → Prop) (n : Nat) (s : Shared) : Prop := ∃ i H, Inv B [p] ρ H s ∧ s.heap.IsListIter it a i ∧ H it = none ∧ W i n H
theorem fpHot (ex : B.ex = [it]) (pn : B.pn = []) (ne : it ≠ p.1) (I : Inv B [p] ρ H s) (free : H it = none) : FpOk B [p] H it := by
  have mem : it ∈ B.ex := by rw [ex]; exact .head _
  obtain ⟨z1, z2⟩ := I.ok.exf it mem
  refine ⟨free, z1, I.ok.exfs it mem, .inl mem, z2, fun q hq => ?_⟩
  rw [pn] at hq
  rw [List.mem_singleton.mp (show q ∈ [p] from hq)]
  exact ne.symm
theorem turnHot {R : Result → Shared → Prop} {NB : Value → Shared → Prop} {elt : Expr} {ifs : List Expr} {σ : St} {vs : List Nat} {D : Addr} {W : Nat → Nat → Hp → Prop} {g : TG} {tt : TT} {te : TE} {P : Hp → Prop} {n : Nat}
    (hot : Hot1 B.A p) (ex : B.ex = [it]) (pn : B.pn = []) (xe : B.xe = fun _ _ => False) (ne : it ≠ p.1) (hρ : ρ = wipe σ vs) (pg : PGH B p tg g) (pt : PTs B ifs tt) (pe : PE B elt te)
    (leave : ∀ s' H', Inv B [p] ρ H' s' → P H' → R (.ok .next) s')
    (turns : ∀ i m H, W i m H → ((Itl B.K a).stop i H ∧ P H) ∨ ((Itl B.K a).go i H ∧ ∃ Nx : Hp → Prop, (∀ H', Nx H' → ∃ m', m' < m ∧ W (i + 1) m' H') ∧ ∀ x H', (Itl B.K a).yld i H x H' → g x (wipe σ vs) H' fun σ2 H2 => wipe σ2 vs = wipe σ vs ∧ tt σ2 H2 fun b H3 =>
      if b = true then te σ2 H3 fun y H4 => ∃ acc, H4 D = some (.lst acc) ∧ acc.length < sizeLine ∧ Nx (upd H4 D (.lst (acc ++ [y]))) else Nx H3))
    (st : HotLp B p it a ρ W n s) :
    wpAny (model B.prog B.w) B.A (pyNext (.ref it)) (fun r s₁ => match r with
      | none => R (.ok .next) s₁
      | some v => wpAny (model B.prog B.w) B.A (letOwnedTupleGo tg (.ref it) v) (fun _ s₁' => wpAny (model B.prog B.w) B.A (assign tg B.env v) (fun _ s₂ =>
          wpAny (model B.prog B.w) B.A (forIn ifs true fun c r => if r = true then do let ok ← isTrue c B.env (eval c B.env); pure (ForInStep.yield ok) else pure (ForInStep.yield r)) (fun ok s₃ =>
            if ok = true then wpAny (model B.prog B.w) B.A (eval elt B.env) (fun x s₄ =>
              wpAny (model B.prog B.w) B.A (call (.builtin "list.append") [.ref D, x]) (fun _ s₅ => ∃ m, m < n ∧ HotLp B p it a ρ W m s₅) NB s₄) NB s₃
            else ∃ m, m < n ∧ HotLp B p it a ρ W m s₃) NB s₂) NB s₁') NB s₁) NB s := by
  obtain ⟨i, H0, I0, li, fr, w0⟩ := st
  have fp := fpHot ex pn ne I0 fr
  obtain ⟨f0, f1, f2, f3, f4, f5⟩ := id fp
  rcases turns i n H0 w0 with ⟨⟨xs, hq, hx⟩, fin⟩ | ⟨⟨xs, x, hq, hx⟩, Nx, down, step⟩
  · obtain ⟨its, rv, q, _⟩ := I0.list hq
    have many := rv.length
    obtain ⟨hh, v1, e1, c1⟩ := hot
    exact endHot (e1 := p.1) ⟨hh, p.2, v1, (I0.pin p (List.mem_append_right _ (.head _))).1, e1, c1⟩ ne li q.isList (by simp; omega) fun h' kept => leave _ H0 (I0.turned (t' := s.toks) (fun b o hb e => kept b o hb e) f0 f1 f3 f4 f5) fin
  · obtain ⟨its, rv, q, _⟩ := I0.list hq
    obtain ⟨u, hu, ru⟩ := rv.get hx
    refine wpAny_pyNext_list_item li q.isList (x := u) (by simpa using hu) fun h1 li1 but => ?_
    obtain ⟨oi, ei, ci, di⟩ := id li1
    have I1 : Inv B [p] ρ H0 { s with heap := h1 } := I0.turned (t' := s.toks) (fun b o hb e => (but.2 b hb).trans e) f0 f1 f3 f4 f5
    refine go_of (s := { s with heap := h1 }) ei ci di (by decide) ?_
    have J1 := I1.pinned (fp := [it]) (fun b hb => by rw [List.mem_singleton.mp hb]; exact fp) fun b hb => by
      rw [List.mem_singleton.mp hb]
      exact ⟨oi, ei, fun v z => by rw [di] at z; cases z⟩
    have err : ∀ {α : Type} {t : Sem α} {Q Q' : α → Shared → Prop} {s' : Shared}, wpAny (model B.prog B.w) B.A t Q B.xe s' → (∀ r s'', Q r s'' → Q' r s'') → wpAny (model B.prog B.w) B.A t Q' NB s' := by
      intro α t Q Q' s' h hQ
      rw [xe] at h
      exact wpAny_mono h hQ fun _ _ z => z.elim
    subst hρ
    have yes : (Itl B.K a).yld i H0 x H0 := ⟨rfl, fun ys hy => by rw [I0.list_inj hy hq]; exact hx⟩
    refine err (pg.run _ _ _ H0 x u _ (List.mem_append_right _ (.head _)) J1 ru (step x H0 yes)) ?_
    rintro - s2 ⟨σ2, H2, I2, same, q2⟩
    refine err (pt.run _ s2 σ2 H2 _ I2 q2) ?_
    rintro b s3 ⟨H3, I3, q3⟩
    have again : ∀ s' H', Inv B ([p] ++ pinsAt [it] h1) σ2 H' s' → Nx H' → ∃ m, m < n ∧ HotLp B p it a (wipe σ vs) W m s' := by
      intro s' H' I' nx
      obtain ⟨m, hm, w'⟩ := down H' nx
      have stays := I'.pin (it, oi) (List.mem_append_right _ (List.mem_append_right _ (mem_pinsAt (.head _) ei)))
      refine ⟨m, hm, i + 1, H', (I'.unpinned (pins := [p])).weak ?_ ?_, li1.at fun o e => ?_, stays.2.1, w'⟩
      · rw [← same, wipe_length]
      · intro j v e
        rw [← same] at e
        exact (wipe_some e).1
      · rw [ei] at e
        cases e
        exact stays.1
    cases b with
    | false => exact again s3 H3 I3 (by simpa using q3)
    | true =>
      refine err (pe.run _ s3 σ2 H3 _ I3 (by simpa using q3)) ?_
      rintro z s4 ⟨y, H4, I4, ry, acc, hD, hz, nx⟩
      exact app_ok (X := B) I4 hD hz ry fun s5 I5 => again s5 _ I5 nx
end
end L2.BP
namespace L2.BP
open PySem PySem.Spec PyProof.Rows HotX L2H
section
variable {X : Cx}
/-- a list's iterator, fresh -/
theorem iterHot {iter : Expr} {tl : TE} (hl : PE X iter tl) {pins : List (Addr × Obj)} {s : Shared} {σ : St} {H : Hp} {R : It → Hp → Prop} (I : Inv X pins σ H s) (h : iList X.K tl σ H R) :
    wpAny (model X.prog X.w) X.A (eval iter X.env) (fun v s1 => wpAny (model X.prog X.w) X.A (pyIter v) (fun v2 s2 => ∃ (it a : Addr) (H' : Hp), v2 = .ref it ∧ Inv X pins σ H' s2 ∧ s2.heap.IsListIter it a 0 ∧ FpOk X pins H' it ∧ R (Itl X.K a) H') X.xe s1) X.xe s := by
  apply thn (hl.run pins s σ H _ I h)
  rintro v s1 ⟨_, H1, I1, rel, a, rfl, ⟨xs, sq⟩, more⟩
  cases rel
  obtain ⟨its, _, q, _⟩ := I1.list sq
  apply wpAny_pyIter_list q.isList
  exact ⟨_, a, H1, rfl, I1.kept (t' := s1.toks) fun b o e => Heap.get?_push_of_some _ e, ⟨_, Heap.get?_push_size _ rfl, rfl, rfl⟩, I1.fpOk (Nat.le_refl _) (I1.hok.fresh (Nat.le_refl _)), more⟩
theorem ps_setHot {i : Nat} {y : Str} {py : Pos} {elt tg iter : Expr} {ifs : List Expr} {scope : Scope} {own : List (Str × Nat)} {pos spos : Pos} {tl : TE} {g : TG} {tt : TT} {te : TE} {p : Addr × Obj} (hot : Hot1 X.A p) (hp : p ∈ X.pn) (hN : X.N.Nodup) (hy : X.N[i]? = some y) (hyl : X.env.scope.names.lookup y = some .local)
    (hsw : swapsWith (.ListComp elt [⟨tg, iter, ifs, 0⟩] scope pos) (some (.Name y py)) spos.line X.env = pure true) (hi : PE X iter tl) (ok : BlkOk X.N X.env.scope scope own)
    (hg : ∀ (s : Shared) (H : Hp) (C : Addr) (cl : List (Str × Addr)) (fp : List Addr), PGH (X.blk s H scope (compEnvC scope cl C X.env) fp) p tg g) (ht : ∀ (s : Shared) (H : Hp) (C : Addr) (cl : List (Str × Addr)) (fp : List Addr), PTs (X.blk s H scope (compEnvC scope cl C X.env) fp) ifs tt)
    (he : ∀ (s : Shared) (H : Hp) (C : Addr) (cl : List (Str × Addr)) (fp : List Addr), PE (X.blk s H scope (compEnvC scope cl C X.env) fp) elt te) (hs : ∀ x, foldedSetIterable iter X.env x = pure x := by intro _; rfl) :
    PS X (.Assign [.Name y py] (.ListComp elt [⟨tg, iter, ifs, 0⟩] scope pos) spos) (tAsg (tLc (iList X.K tl) g tt te (own.map (·.2))) (gName i)) := by
  constructor
  intro pins s σ H D I want
  have want : tLc (iList X.K tl) g tt te (own.map (·.2)) σ H (fun x H1 => gName i x σ H1 D.nx) := want
  have closed : ∀ z ∈ scope.names, z.2 = .free → ∃ c, X.env.cells.lookup z.1 = some c := fun z hz e => (ok.free z hz e).elim (fun k => I.ok.has _ (.inl k)) fun k => I.ok.has _ (.inr k)
  rw [exec_Assign_Name_used _ _ _ _ hsw]
  apply wpAny_bind
  apply wpAny_standAt
  apply wpAny_bind
  change wpAny _ X.A (do let _ ← comprehension (.ListComp elt [⟨tg, iter, ifs, 0⟩] scope pos) scope X.env (firstIterPos [⟨tg, iter, ifs, 0⟩] pos) (newList []) false (eval iter X.env) (some (assign (.Name y py) X.env))) _ _ s
  apply wpAny_bind
  refine thn (Q := fun _ s' => SP X pins D .next s') ?_ fun _ s' done => wpAny_pure (wpAny_pure done)
  refine wpAny_comprehension_free (use := some (assign (.Name y py) X.env)) rfl hs (closure_ok closed) ok.kind (fun z hz e => by rw [ok.uniq z hz, e]) (thn (iterHot hi I want) fun v s1 hv => thn hv ?_)
  rintro v2 s2 ⟨it, a, H2, rfl, I2, li2, fit, make⟩
  obtain ⟨W, ⟨m0, w0⟩, turns⟩ := make s2.heap.objs.size (I2.hok.fresh (Nat.le_refl _))
  have itIn : it < s2.heap.objs.size := by
    obtain ⟨o, e, _⟩ := li2
    exact Heap.lt_size e
  refine wpAny_newObj_type (newEnv_comp ?_) (Nat.zero_le sizeLine)
  -- the new list
  generalize eD : s2.heap.objs.size = L at w0 turns itIn ⊢
  generalize es3 : ({ s2 with heap := s2.heap.push { cls := .type "list", data := .seq ([] : List Value).toArray } } : Shared) = s3
  have grow3 : ∀ b o, s2.heap.get? b = some o → s3.heap.get? b = some o := fun b o e => by
    rw [← es3]
    exact Heap.get?_push_of_some _ e
  have I3 : Inv X pins σ (upd H2 L (.lst [])) s3 := by
    rw [← es3]
    refine I2.laid (t' := s2.toks) (fun b o e => Heap.get?_push_of_some _ e) (Nat.le_of_eq eD) ⟨Nat.zero_le _, [], 0, .nil, ?_⟩
    rw [← eD]
    exact Heap.get?_push_size _ rfl
  have free3 : upd H2 L (.lst []) it = none := by
    rw [upd_ne (Nat.ne_of_lt itIn)]
    exact fit.1
  generalize upd H2 L (.lst []) = H3 at w0 I3 free3
  have itIn3 : it < s3.heap.objs.size := by
    obtain ⟨o, e, _⟩ := li2
    exact Heap.lt_size (grow3 _ _ e)
  have fit3 : FpOk X pins H3 it := ⟨free3, fit.2⟩
  have P3 := I3.pin p (List.mem_append_left _ hp)
  have ne : it ≠ p.1 := fun z => fit.2.2.2.2.2 p (List.mem_append_left _ hp) z.symm
  -- the block
  have I4 := block_start (fp := [it]) I3 ok hN fun b hb => by
    rw [List.mem_singleton.mp hb]
    exact ⟨fit3, itIn3⟩
  have pg := hg s3 H3 s3.heap.objs.size (cellsFrom (s3.heap.objs.size + 1) scope.names (cloFrom X.env.cells scope.names [])) [it]
  have pt := ht s3 H3 s3.heap.objs.size (cellsFrom (s3.heap.objs.size + 1) scope.names (cloFrom X.env.cells scope.names [])) [it]
  have pe := he s3 H3 s3.heap.objs.size (cellsFrom (s3.heap.objs.size + 1) scope.names (cloFrom X.env.cells scope.names [])) [it]
  change codeAny _ _ (.compStart (.ListComp elt [⟨tg, iter, ifs, 0⟩] scope pos) 0 (.ref it) (.ref L) (compEnvC scope (cellsFrom (s3.heap.objs.size + 1) scope.names (cloFrom X.env.cells scope.names [])) s3.heap.objs.size X.env)) (compPost (model X.prog X.w) X.A X.xe (some (assign (.Name y py) X.env)) (fun _ s' => SP X pins D .next s') (.ref L) s3.heap.objs.size) { s3 with heap := pushCells (s3.heap.push { cls := .type "dict", data := .dict #[] }) scope.names }
  generalize ece : compEnvC scope (cellsFrom (s3.heap.objs.size + 1) scope.names (cloFrom X.env.cells scope.names [])) s3.heap.objs.size X.env = ce at I4 pg pt pe ⊢
  have locs : ce.locals = s3.heap.objs.size := by
    subst ece
    rfl
  have grow4 : ∀ b o, s3.heap.get? b = some o → (pushCells (s3.heap.push { cls := .type "dict", data := .dict #[] }) scope.names).get? b = some o := fun b o e => pushCells_keeps _ _ _ _ (Heap.get?_push_of_some _ e)
  have I5 := I4.pins_of (pins' := [p]) fun q hq => by
    rw [List.mem_singleton.mp hq]
    refine ⟨grow4 _ _ P3.1, P3.2.1, ?_, ?_, P3.2.2.2.2⟩
    · change p.1 ≠ ce.locals
      rw [locs]
      exact Nat.ne_of_lt (Heap.lt_size P3.1)
    · intro z
      rcases List.mem_cons.mp (I3.stkSub _ z) with z | z
      · exact P3.2.2.1 z
      · exact P3.2.2.2.1 z
  have li4 : (pushCells (s3.heap.push { cls := .type "dict", data := .dict #[] }) scope.names).IsListIter it a 0 := li2.at fun o e => grow4 _ _ (grow3 _ _ e)
  generalize es4 : ({ s3 with heap := pushCells (s3.heap.push { cls := .type "dict", data := .dict #[] }) scope.names } : Shared) = s4 at I5 ⊢
  have li4 : s4.heap.IsListIter it a 0 := by
    rw [← es4]
    exact li4
  have loop : codeAny (model X.prog X.w) X.A (.compLoop (.ListComp elt [⟨tg, iter, ifs, 0⟩] scope pos) 0 (.ref it) (.ref L) ce) (compPost (model X.prog X.w) X.A X.xe (some (assign (.Name y py) X.env)) (fun _ s' => SP X pins D .next s') (.ref L) s3.heap.objs.size) s4 := by
    refine compLoop_any (HotLp (X.blk s3 H3 scope ce [it]) p it a (wipe σ (own.map (·.2))) W) (fun n s5 st => ?_) m0 ⟨0, H3, I5, li4, free3, w0⟩
    refine turnHot (B := X.blk s3 H3 scope ce [it]) (σ := σ) (vs := own.map (·.2)) hot rfl rfl rfl ne rfl pg pt pe ?_ turns st
    -- behind the last turn: the name is bound
    intro s6 H6 I6 q
    have back : Inv X pins σ H6 s6 := I3.call' (ch := [it]) I6.os I6.base I6.hok I6.bare fun b hb => by
      rw [List.mem_singleton.mp hb]
      exact ⟨fit3.2.2.2.1, fit3.2.1, fit3.2.2.2.2.1, fit3.2.2.2.2.2⟩
    have clear : H6 s3.heap.objs.size = none := by
      have z : H6 ce.locals = none := I6.free
      rw [locs] at z
      exact z
    obtain ⟨m, names, _⟩ := I6.loc
    have names : s6.heap.Ns ce.locals m := names
    rw [locs] at names
    obtain ⟨f0, f1, f2, f3, f4, f5⟩ := I3.fpOk (H' := H6) (Nat.le_refl _) clear
    change wpAny _ _ (assign (.Name y py) X.env (.ref L)) _ _ _
    refine wpAny_assign_Name (store_ok2 (v := V.ref L) back hN hy (.inl hyl) rfl ?_ (.inr hyl))
    rintro s7 I7 ⟨c, but, place⟩
    have apart : s3.heap.objs.size ≠ c := by
      rcases place with z | z
      · rw [z]
        exact f1
      · exact fun e => f4 y c z e.symm
    exact ⟨m, names.sameBut but apart, fun h8 but8 => ⟨_, H6, I7.turned (t' := s7.toks) (fun b o hb e => (but8.2 b hb).trans e) f0 f1 f3 f4 f5, q⟩⟩
  exact codeAny_compStart_list loop (wpAny_pyIter_listiter li4 loop)
end
end L2.BP
namespace L2.BP
open PySem PySem.Spec PyProof.Rows
theorem noneBack {H B : Hp} {p : Addr} (s : Same H B) (h : B p = none) : H p = none := by
  cases e : H p with
  | none => rfl
  | some u =>
    have z := s _ _ e
    rw [h] at z
    cases z
end L2.BP
namespace L2.BP
open PySem PySem.Spec PyProof.Rows HotX L2H
/-! ### defs called in a suite that don't look at the exception -/
theorem FunD.okH {P : Program} {w : World} {K : PySem.W.Frag} {mg : Str → Option Value} {base : Heap} {x qual : Str} {params : Arguments} {body : List Stmt} {scope : Scope} {dvs : List V} {kws : List (Str × V)} {f : Addr} {fd : FuncData} {CX : CXT} {N ps : List Str} {k : Nat} {sp : Sp} (F : FunD K x qual params body scope dvs kws f fd) (S : FnScope N ps scope) (len : ∀ vs H Q E, sp vs H Q E → vs.length = ps.length)
    (hbody : ∀ (cdv : Value) (A : Around) (outer : List Env) (s : Shared) (H : Hp) (vs : List V) (Q : VK) (E : XK) (p : Addr × Obj), Hot1 A p → RoomH k (A.deeper (envOfC qual scope s.heap.objs.size f cdv)) → sp vs H Q E →
      ∃ t, PSs (cxH CX P w K mg base N qual scope f cdv A outer s H E p) body t ∧ t { nx := fun _ H' => Q .non H', rt := Q } (L2.start N vs) H) : FnH P w K mg base CX (k + 1) f fd ps sp := by
  obtain ⟨_, _, _, _, _, _, _, cdv, _, _, e, look, code, _, _⟩ := F.ex
  subst e
  exact fn_ofH look code S len (hbody cdv)
theorem roomMark {k : Nat} {A : Around} {h : Option Value} (r : RoomH k A) : RoomH k (A.mark h) := ⟨r.dp, r.un⟩
theorem pe_clH {Y : Cx} {k : Nat} {f : Addr} {fd : FuncData} {ps : List Str} {sp : Sp} {x : Str} {q pos : Pos} {e : Expr} {es : List Expr} {t : TA} (F : FnH Y.prog Y.w Y.K Y.mg Y.base (L2N.CX Y.prog Y.w) k f fd ps sp) (hr : RoomH k Y.A) (hc : HotC Y) (hg : Gl Y x) (hm : Y.mg x = some (.ref f)) (hk : PySem.W.keepIn Y.K (.ref f) = true) (hb : Binds Y.K fd ps [])
    (ha : PA Y (e :: es) t) (hdb : (x == ("__debug__" : Str)) = false := by decide) (he : starEach (e :: es) Y.env = (false, eval e Y.env) :: starEach es Y.env := by rfl) (hpl : (backTo pos (starEach es Y.env)).any (·.1) = false := by rfl) :
    PE Y (.Call (.Name x q) (e :: es) [] pos) (tCl sp [] WF t) where
  run := fun pins s σ H Q I h => by
    have same : (fun vs H1 => sp (vs ++ []) H1 Q fun c d H2 => WF c d σ H2) = fun vs H1 => sp vs H1 Q (WE WF σ) := by
      funext vs H1
      rw [List.append_nil]
    have h' : t σ H fun vs H1 => sp vs H1 Q (WE WF σ) := same ▸ h
    exact (pe_callH (E := WE WF) F hr hc hg hm hk hb (fun σ => L2N.passAt takes0N σ) ha hdb he hpl).run pins s σ H Q I h'
/-- a list walked there -/
theorem turn_listH {P : Program} {w : World} {K : PySem.W.Frag} {tg : Expr} (a it : Addr) : TurnH P w K tg (Itl K a) [it] it (fun i h => h.IsListIter it a i) where
  mem := (turn_list (P := P) (w := w) (K := K) (tg := tg) a it).mem
  obj := (turn_list (P := P) (w := w) (K := K) (tg := tg) a it).obj
  keep := (turn_list (P := P) (w := w) (K := K) (tg := tg) a it).keep
  self := (turn_list (P := P) (w := w) (K := K) (tg := tg) a it).self
  item := by
    rintro X rfl rfl rfl _ i pins s σ H E I hf li ⟨xs, x, hq, hx⟩
    obtain ⟨its, rv, q, _⟩ := I.list hq
    obtain ⟨u, hu, ru⟩ := rv.get hx
    obtain ⟨f0, f1, f2, f3, f4, f5⟩ := hf it (.head _)
    refine wpAny_pyNext_list_item li q.isList (x := u) (by simpa using hu) fun h1 li1 but => ⟨u, rfl, ?_⟩
    obtain ⟨oi, ei, ci, di⟩ := id li1
    refine go_of (s := { s with heap := h1 }) ei ci di (by decide) ⟨x, H, I.turned (t' := s.toks) (fun b o hb e => (but.2 b hb).trans e) f0 f1 f3 f4 f5, ru, ⟨rfl, fun ys hy => ?_⟩, li1, fun b hb => (hf b hb).1⟩
    rw [I.list_inj hy hq]
    exact hx
  done := by
    rintro X rfl rfl rfl ⟨p, ⟨hh, v1, e1, c1⟩, hp⟩ i pins s σ H E I hf li ⟨xs, hq, hx⟩
    obtain ⟨its, rv, q, _⟩ := I.list hq
    have many := rv.length
    obtain ⟨f0, f1, f2, f3, f4, f5⟩ := hf it (.head _)
    exact endHot (e1 := p.1) ⟨hh, p.2, v1, (I.pin p (List.mem_append_left _ hp)).1, e1, c1⟩ (fun z => f5 p (List.mem_append_left _ hp) z.symm) li q.isList (by simp; omega) fun h' kept => ⟨rfl, I.turned (t' := s.toks) (fun b o hb e => kept b o hb e) f0 f1 f3 f4 f5⟩
theorem pi_listH {X : Cx} {tg l : Expr} {tl : TE} (hl : PE X l tl) : PIH X tg l (iList X.K tl) where
  run := fun pins s σ H R I h => by
    apply thn (hl.run pins s σ H _ I h)
    rintro v s1 ⟨_, H1, I1, rel, a, rfl, ⟨xs, sq⟩, more⟩
    cases rel
    obtain ⟨its, _, q, _⟩ := I1.list sq
    apply wpAny_pyIter_list q.isList
    refine ⟨_, [s1.heap.objs.size], _, _, H1, rfl, I1.kept (t' := s1.toks) fun b o e => Heap.get?_push_of_some _ e, turn_listH a _, ⟨_, Heap.get?_push_size _ rfl, rfl, rfl⟩, fun b hb => ?_, more⟩
    rw [List.mem_singleton.mp hb]
    exact I1.fpOk (Nat.le_refl _) (I1.hok.fresh (Nat.le_refl _))
end L2.BP
namespace L2.BP
open PySem PySem.Spec PyProof.Rows
/-- the first own objects laid to the base, all at once -/
theorem Hs.fixes : ∀ {N L : Pic} {B H : Hp}, Hs B (N ++ L) H → ∃ B', Same B B' ∧ Hs B' L H ∧ ∀ q ∈ N, B' q.1 = some q.2
  | [], _, B, _, h => ⟨B, Same.refl B, h, fun _ z => nomatch z⟩
  | (p, o) :: N, L, B, H, h => by
    obtain ⟨B', s, h', k⟩ := Hs.fixes (N := N) (L := L) (Hs.fix h)
    refine ⟨B', (same_upd (h.nb (.head _))).trans s, h', fun q hq => ?_⟩
    rcases List.mem_cons.mp hq with rfl | hq
    · exact s _ _ upd_same
    · exact k q hq
end L2.BP
namespace L2.BP
open PySem PySem.Spec PyProof.Rows L2H
/-- o.m() where an exception is handled -/
theorem pe_mt0H {Y : Cx} {C f : Addr} {m : Str} {k : Nat} {fd : FuncData} {ps : List Str} {sp : Sp} {o : Expr} {ta : TE} {pos apos : Pos} {pl : Sem Bool} (he : PE Y o ta) (c : Cls Y.K C) (hm : Meth Y.K C m f) (F : FnH Y.prog Y.w Y.K Y.mg Y.base (L2N.CX Y.prog Y.w) k f fd ps sp) (hr : RoomH k Y.A) (hc : HotC Y)
    (hb : Binds Y.K fd ps []) (ht : eval (.Call (.Attribute o m apos) [] [] pos) Y.env = (do
      let ov ← eval o Y.env; standAt apos.atName
      let (f, first) ← holding [ov] (getMethod ov m pl); callWith pos f first (backTo pos (starEach [] Y.env)) (backToKw pos (keywordEach [] Y.env))) := by rfl) :
    PE Y (.Call (.Attribute o m apos) [] [] pos) (tMt C m sp [] WF ta tNil) where
  run := fun pins s σ H Q I h => by
    refine PySem.W.methodCall_KW (pl := pl) (thn (he.run pins s σ H _ I h) ?_) ht
    rintro u s1 ⟨x, H1, I1, rx, a, dx, fs, rfl, ea, l, q⟩
    cases (show u = Value.ref a from rx)
    have go := run_fnH (E := WE WF) (us := [.ref a]) (vs := [.ref a]) F hr hc hb (L2N.passAt takes0N σ) I1 (.cons rfl .nil) q
    exact getmeth_ok I1 ea c hm l (PySem.W.callWith_K0 (first := [.ref a]) I1.kIn hm.kp go)
end L2.BP
namespace L2.BP
open PySem PySem.Spec PyProof.Rows
/-- a key's function that tells a tuple's first item and leaves the heap -/
def KeyFirst (P : Program) (w : World) (K : PySem.W.Frag) (f : Addr) : Prop :=
  ∀ (A : Around) (s : Shared) (p : Addr) (its : Array Value) (i : Int) (t : Tok), K.In s.heap → s.heap.NoLimit → A.depth < recursionLimit → IsTup s.heap p its → its[0]? = some (.int i t) →
    wpAny (model P w) A (call (.ref f) [.ref p]) (PySem.W.KeyPure (.int i) s) (fun _ _ => False) s
/-- the form of such a def's body -/
def firstKeyOf : List Stmt → Option Str
  | [.Return (some (.Subscript (.Name v _) (.Constant (.int 0) _ _) _)) _] => some v
  | _ => none
theorem firstKey_form {b : List Stmt} {v : Str} (h : firstKeyOf b = some v) : ∃ (j : Nat) (p1 p2 p3 p4 : Pos), b = [.Return (some (.Subscript (.Name v p1) (.Constant (.int 0) j p2) p3)) p4] := by
  unfold firstKeyOf at h
  split at h
  · cases h
    exact ⟨_, _, _, _, _, rfl⟩
  · cases h
theorem FunD.keyFirst {P : Program} {w : World} {K : PySem.W.Frag} {x qual v : Str} {params : Arguments} {body : List Stmt} {scope : Scope} {f : Addr} {fd : FuncData} {dvs : List V} {kws : List (Str × V)}
    (F : FunD K x qual params body scope dvs kws f fd) (hform : firstKeyOf body = some v) (S : FnScope [v] [v] scope) (hv : scope.names.lookup v = some .local) (hb : Binds K fd [v] []) (hd : (v == ("__debug__" : Str)) = false := by decide) : KeyFirst P w K f := by
  obtain ⟨j, p1, p2, p3, p4, rfl⟩ := firstKey_form hform
  intro A s p its i t KX lim hr ht hi
  obtain ⟨_, _, _, _, _, _, _, cdv, _, _, e, look, code, _, _⟩ := F.ex
  have hb := hb s [.ref p] KX rfl
  subst e
  refine wpAny_call (codeAny_call_function hr (KX _ _ look) rfl S.co S.gen rfl (PySem.W.codeRec_of KX code) (hb _ _ _ _ ?_))
  refine wpAny_newFunctionEnv_cells S.kind (fun y hy => ?_) fun env he s1 hx => ?_
  · have e1 : y = (v, Value.ref p) := by simpa using hy
    subst e1
    exact .inl hv
  subst he
  refine ⟨lim.keeps hx.toInCall.keep, codeAny_func ?_⟩
  obtain ⟨h1, tk, rfl, hk⟩ := hx.done
  have hns := hx.toInCall.ns
  have hkv : (envOfC qual scope s.heap.objs.size f cdv).kindOf v = some .local := hv
  have hm : bindL (envOfC qual scope s.heap.objs.size f cdv).kindOf ([v].zip [Value.ref p]) (fun _ => none) v = some (.ref p) := by
    show bindL _ [(v, Value.ref p)] _ v = _
    unfold bindL
    rw [if_pos hkv]
    show (if v = v then _ else _) = _
    rw [if_pos rfl]
  obtain ⟨o, e1, e2, n, e3⟩ := ht
  have ht1 : IsTup h1 p its := ⟨o, hk _ _ e1, e2, n, e3⟩
  have hil : 0 < its.size := by
    cases e : its.size with
    | zero =>
      rw [Array.getElem?_eq_none (by omega)] at hi
      cases hi
    | succ m => omega
  refine wpAny_execs_cons (wpAny_Return_some (Subscript_ (wpAny_Name (wpAny_loadName_local S.kind hkv hns hm ?_) hd)))
  refine wpAny_Constant_int ?_
  refine subscriptTail_builtinR (x := .int i t) ht1.typeIs slot_tuple_getitem.lookup (getItem_tuple (j := 0) ht1 (by decide) (by decide) ?_ hi ⟨rfl, ?_⟩) rfl
  · rw [seqIndex_of (by decide) (by omega)]; rfl
  · exact ⟨_, _, rfl, hk, .int _ _⟩

def sortedBy (xs : List V) (ws : List Int) : List V := ((xs.zip ws).mergeSort fun a b => decide (a.2 ≤ b.2)).map (·.1)
/-- sorted(l, key=f), f as above -/
def rSortKF (K : PySem.W.Frag) (f : Addr) : List V → List V → Hp → VK → Prop := fun vs zs H Q => ∃ (a : Addr) (xs : List V) (ws : List Int), vs = [.ref a] ∧ zs = [.ref f] ∧ SqL K H a xs ∧
  Paired (fun x i => ∃ p ys, x = V.ref p ∧ SqT K H p (.int i :: ys)) xs ws ∧ ∀ p, H p = none → Q (.ref p) (upd H p (.lst (sortedBy xs ws)))
theorem vals_one {x : V} {us : List Value} (h : Vals [x] us) : ∃ u, us = [u] ∧ RelV x u := by
  cases h with
  | cons e t =>
    cases t
    exact ⟨_, rfl, e⟩
theorem vals_each {S : Value → V × Int → Prop} {out : List Value} {l : List (V × Int)} (h : PySem.W.EachIs (fun v b => RelV b.1 v ∧ S v b) out l) : Vals (l.map (·.1)) out := by
  induction h with
  | nil => exact .nil
  | cons e _ ih => exact .cons e.1 ih
theorem cr_sortedKF {X : Cx} {f : Addr} (hf : KeyFirst X.prog X.w X.K f) (hr : Room 1 X.A) : CallRK X (.builtin "sorted") [Str.ofString "key"] (rSortKF X.K f) := by
  intro pins s σ H vs zs us ws0 Q I r1 r2 q
  obtain ⟨a, xs, ws, rfl, rfl, hS, hP, q⟩ := q
  obtain ⟨u, rfl, e1⟩ := vals_one r1
  obtain ⟨u2, rfl, e2⟩ := vals_one r2
  cases e1
  cases e2
  obtain ⟨its, rv, hl, hz⟩ := I.list hS
  -- items by their values and keys
  have each : PySem.W.EachIs (fun (v : Value) (b : V × Int) => RelV b.1 v ∧ ∃ p items t, v = .ref p ∧ IsTup s.heap p items ∧ items[0]? = some (.int b.2 t)) its (xs.zip ws) := by
    clear hl q hz hS
    induction hP generalizing its with
    | nil => cases rv; exact .nil
    | cons h t ih =>
      cases rv with
      | cons e r =>
        obtain ⟨p, ys, rfl, hT⟩ := h
        cases e
        obtain ⟨its2, r2, hI, _⟩ := I.tuple hT
        refine .cons ⟨rfl, ?_⟩ (ih _ r)
        cases r2 with
        | cons e5 r5 =>
          obtain ⟨t5, rfl⟩ := e5
          exact ⟨p, _, t5, rfl, hI, by simp⟩
  have hlen : (xs.zip ws).length = xs.length := by rw [List.length_zip, hP.length, Nat.min_self]
  show wpAny _ _ (call (.builtin "sorted") [.ref a] [(Str.ofString "key", .ref f)]) _ _ _
  refine PySem.W.sorted_key_data (b := false) (fun b : V × Int => .int b.2) hl.isList each (PySem.W.AllAlike.of fun _ _ => by simp [PySem.W.alike]) (PySem.W.Sortable.others fun b => ⟨by simp, by simp⟩) (by rw [hlen]; exact hz) (fun b _ => ?_) (ksk_s1 _ _) (fun _ => ksk_l1 _ _) (fun _ => ksk_t1 _ _)
    (fun v b hR _ h tk kp => ?_) fun out c h' tk kp _ hD hol eo => ?_
  · have := hr.un
    show X.A.units + 2 + 0 < cLine
    omega
  · obtain ⟨_, p, items, t, rfl, ⟨o, e1, e2, n, e3⟩, hi⟩ := hR
    have hd : X.A.in1.in1.depth < recursionLimit := by
      have := hr.dp
      show X.A.depth < _
      omega
    exact hf _ _ p items b.2 t (I.kIn.keeps kp) (I.nolimit.keeps kp) hd ⟨o, kp _ _ e1, e2, n, e3⟩ hi
  · have fr : H (s.heap.objs.size + 1) = none := I.hok.fresh (Nat.le_succ _)
    rw [PySem.W.dataLe_int] at eo
    have hv := vals_each eo
    have hsl : (sortedBy xs ws).length ≤ sizeLine := by
      unfold sortedBy
      rw [List.length_map, List.length_mergeSort, hlen]
      exact hz
    exact ⟨.ref (s.heap.objs.size + 1), _, I.laid (o := .lst (sortedBy xs ws)) (t' := tk) kp (Nat.le_succ _) ⟨hsl, out, c, hv, hD⟩, rfl, q _ fr⟩
end L2.BP
namespace L2.BP
open PySem PySem.Spec PyProof.Rows
section
variable {K : PySem.W.Frag} {H : Hp} {Q : VK} {B : Hp} {L : Pic} {σ : St} {x : V}
theorem c_ckw {r : List V → List V → Hp → VK → Prop} {t tk : TA} (k : t σ H fun vs H1 => tk σ H1 fun zs H2 => r vs zs H2 Q) : tCKw r t tk σ H Q := k
theorem c_sortedKF {f a : Addr} {xs : List V} {ws : List Int} (hs : Hs B L H) (hS : SqL K H a xs) (hP : Paired (fun x i => ∃ p ys, x = V.ref p ∧ SqT K H p (.int i :: ys)) xs ws) (k : ∀ p H', Hs B ((p, .lst (sortedBy xs ws)) :: L) H' → Q (.ref p) H') : rSortKF K f [.ref a] [.ref f] H Q :=
  ⟨a, xs, ws, rfl, rfl, hS, hP, fun p hp => k p _ (hs.new hp)⟩
theorem c_countL {p : Addr} {ns : List Int} {i : Int} (h : SqL K H p (ns.map V.int)) (k : Q (.int (ns.count i : Nat)) H) : rCntI K (.ref p) [.int i] H Q := ⟨p, ns, i, rfl, rfl, h, k⟩
/-- values that are alike by kind alone -/
theorem c_eqX {x y : V} (h : scal x y = true) (k : Q (.bl (decide (x = y))) H) : rEqU K x y H Q := .inl ⟨h, k⟩
theorem c_neX {x y : V} (h : scal x y = true) (k : Q (.bl (!decide (x = y))) H) : rNeU K x y H Q := .inl ⟨h, k⟩
/-- an empty dict -/
theorem c_neE {a b : Addr} (h1 : H a = some (.dK [])) (h2 : H b = some (.dK [])) (k : Q (.bl false) H) : rNeU K (.ref a) (.ref b) H Q := .inr (.inr ⟨a, b, [], [], rfl, rfl, h1, h2, rfl, (fun _ z => nomatch z), k⟩)
theorem c_eqE {a b : Addr} (h1 : H a = some (.dK [])) (h2 : H b = some (.dK [])) (k : Q (.bl true) H) : rEqU K (.ref a) (.ref b) H Q := .inr (.inr (.inl ⟨a, b, [], [], rfl, rfl, h1, h2, rfl, (fun _ z => nomatch z), k⟩))
end
end L2.BP
namespace L2.BR
open PySem PySem.Spec PyProof.Rows L2.BP
section
variable {K : PySem.W.Frag} {W : WX} {vs : List V} {H : Hp} {Q : VK} {E : XK}
/-! ### rows -/
def Tg.isByte : Tg → Bool
  | .int i => decide (0 ≤ i) && decide (i ≤ 255)
  | _ => false
/-- whether a thing is a byte, by itself -/
def byteV : V → Bool
  | .int i => decide (0 ≤ i) && decide (i ≤ 255)
  | _ => false
theorem byteV_of {v : V} {g : Tg} (h : Th K H v g) : Tg.isByte g = byteV v := by cases h <;> rfl
def Tg.isRow : Tg → Bool
  | .lst xs => xs.all byteV
  | _ => false
/-- the thing may be looked at: its items are things, too -/
def Tg.ok (K : PySem.W.Frag) (H : Hp) : Tg → Prop
  | .lst xs => (∀ x ∈ xs, ∃ g, Th K H x g) ∧ xs.length ≤ 100000
  | _ => True
/-- a row: its numbers -/
def Bytes (ns : List Int) : Prop := ∀ n ∈ ns, 0 ≤ n ∧ n ≤ 255
theorem ints_of : ∀ {xs : List V}, xs.all byteV = true → ∃ ns : List Int, xs = ns.map V.int ∧ Bytes ns
  | [], _ => ⟨[], rfl, fun _ h => nomatch h⟩
  | x :: r, h => by
    simp only [List.all_cons, Bool.and_eq_true] at h
    obtain ⟨ns, e, hb⟩ := ints_of h.2
    cases x with
    | int i =>
      refine ⟨i :: ns, by rw [e]; rfl, fun n hn => ?_⟩
      rcases List.mem_cons.mp hn with z | z
      · have h1 := h.1
        simp only [byteV, Bool.and_eq_true, decide_eq_true_eq] at h1
        rw [z]
        exact h1
      · exact hb n z
    | _ => cases h.1
theorem all_byteV {ns : List Int} (h : Bytes ns) : (ns.map V.int).all byteV = true := by
  rw [List.all_eq_true]
  intro x hx
  obtain ⟨n, hn, rfl⟩ := List.mem_map.mp hx
  have := h n hn
  simp only [byteV, Bool.and_eq_true, decide_eq_true_eq]
  exact this
theorem ok_ints {H : Hp} {ns : List Int} (h : ns.length ≤ 100000) : Tg.ok K H (.lst (ns.map V.int)) := by
  refine ⟨fun x hx => ?_, by rw [List.length_map]; exact h⟩
  obtain ⟨n, _, rfl⟩ := List.mem_map.mp hx
  exact ⟨_, .int n⟩
theorem cutV_ints (ns : List Int) (lo hi : Option Int) : cutV (ns.map V.int) lo hi = ((ns.drop (HT.sIx ns.length 0 lo)).take (HT.sIx ns.length ns.length hi - HT.sIx ns.length 0 lo)).map V.int := by
  unfold cutV
  rw [List.length_map, List.map_take, List.map_drop]
theorem sIx_at (n d k : Nat) (h : k ≤ n) : HT.sIx n d (some ((k : Nat) : Int)) = k := by rw [HT.sIx_nat]; omega
theorem map_int_inj : ∀ {a b : List Int}, a.map V.int = b.map V.int → a = b
  | [], [], _ => rfl
  | [], _ :: _, h => by cases h
  | _ :: _, [], h => by cases h
  | x :: r, y :: t, h => by
    injection h with h1 h2
    injection h1 with h1
    rw [h1, map_int_inj h2]
theorem ne_f {a b : Int} (h : a = b) : (!decide (a = b)) = false := by rw [decide_eq_true h]; rfl
theorem cut_take (ns : List Int) (m : Nat) : cutV (ns.map V.int) none (some ((m : Nat) : Int)) = (ns.take m).map V.int := by
  rw [cutV_ints, HT.sIx_nat, HT.sIx_none, List.drop_zero, Nat.sub_zero]
  congr 1
  by_cases h : m ≤ ns.length
  · rw [Nat.min_eq_left h]
  · rw [Nat.min_eq_right (by omega), List.take_of_length_le (Nat.le_refl _), List.take_of_length_le (by omega)]
theorem cut_drop (ns : List Int) (m : Nat) : cutV (ns.map V.int) (some ((m : Nat) : Int)) none = (ns.drop m).map V.int := by
  rw [cutV_ints, HT.sIx_nat, HT.sIx_none]
  congr 1
  by_cases h : m ≤ ns.length
  · rw [Nat.min_eq_left h, List.take_of_length_le (by rw [List.length_drop]; omega)]
  · rw [Nat.min_eq_right (by omega), List.drop_of_length_le (Nat.le_refl _), List.drop_of_length_le (by omega), List.take_nil]
theorem cut_mid (ns : List Int) (a b : Nat) (h1 : a ≤ b) (h2 : b ≤ ns.length) : cutV (ns.map V.int) (some ((a : Nat) : Int)) (some ((b : Nat) : Int)) = ((ns.drop a).take (b - a)).map V.int := by
  rw [cutV_ints, HT.sIx_nat _ 0 a, HT.sIx_nat _ _ b, Nat.min_eq_left (show a ≤ ns.length by omega), Nat.min_eq_left h2]
theorem at_nat {ns : List Int} {k : Nat} (h : k < ns.length) : atI (ns.map V.int) ((k : Nat) : Int) = some (.int (ns.getD k 0)) := by
  rw [atI_nat (v := .int (ns.getD k 0))]
  rw [List.getElem?_map, List.getElem?_eq_getElem h, List.getD_eq_getElem?_getD, List.getElem?_eq_getElem h]
  rfl
theorem at_i {ns : List Int} {i : Int} {k : Nat} (e : i = ((k : Nat) : Int)) (h : k < ns.length) : atI (ns.map V.int) i = some (.int (ns.getD k 0)) := by rw [e]; exact at_nat h
/-- two flat tuples -/
theorem dp_tup {p : Addr} {xs : List V} (hf : xs.all L2.BP.flatV = true) (h : SqT K H p xs) : Dp K H (.ref p) (tupD xs) := .tup h (dpa_flat hf)
theorem shaped_tup {xs : List V} (hf : xs.all L2.BP.flatV = true) : SeqAt.shaped (tupD xs) = true := by
  obtain ⟨z1, z2⟩ := canAll_flat hf
  unfold SeqAt.shaped tupD
  simp only [PyData.canLay0, PyData.depth, z1]
  simp
  omega
theorem c_eqTup {p q : Addr} {xs : List V} (hf : xs.all L2.BP.flatV = true) (h1 : SqT K H p xs) (h2 : SqT K H q xs) (k : Q (.bl true) H) : rEqU K (.ref p) (.ref q) H Q := by
  refine c_eqD (dp_tup hf h1) (dp_tup hf h2) (shaped_tup hf) (shaped_tup hf) ?_
  rw [show PyData.eqv (tupD xs) (tupD xs) = true by unfold tupD; rw [PyData.eqv, eqvAll_vD]]
  exact k
theorem c_neTup {p q : Addr} {xs : List V} (hf : xs.all L2.BP.flatV = true) (h1 : SqT K H p xs) (h2 : SqT K H q xs) (k : Q (.bl false) H) : rNeU K (.ref p) (.ref q) H Q := by
  refine c_neD (dp_tup hf h1) (dp_tup hf h2) (shaped_tup hf) (shaped_tup hf) ?_
  rw [show PyData.eqv (tupD xs) (tupD xs) = true by unfold tupD; rw [PyData.eqv, eqvAll_vD]]
  exact k
theorem mem_cutV {xs : List V} {lo hi : Option Int} {x : V} (h : x ∈ cutV xs lo hi) : x ∈ xs := by
  unfold cutV at h
  exact List.mem_of_mem_drop (List.mem_of_mem_take h)
theorem cutV_le (xs : List V) (lo hi : Option Int) : (cutV xs lo hi).length ≤ xs.length := by
  unfold cutV
  rw [List.length_take, List.length_drop]
  omega
theorem ok_same {H' : Hp} {g : Tg} (h : Tg.ok K H g) (e : Same H H') : Tg.ok K H' g := by
  cases g with
  | lst xs => exact ⟨fun x hx => (h.1 x hx).imp fun _ z => z.same e, h.2⟩
  | _ => trivial
theorem mixed_ok {row : List Int} {ov : V} {og : Tg} {lo hi lo' hi' : Option Int} (ho : Th K H ov og) (hl : row.length ≤ 1000) : Tg.ok K H (.lst (cutV (row.map V.int) lo hi ++ [ov] ++ cutV (row.map V.int) lo' hi')) := by
  refine ⟨fun x hx => ?_, ?_⟩
  · have allI : ∀ x ∈ row.map V.int, ∃ g, Th K H x g := fun x hx => by
      obtain ⟨n, _, rfl⟩ := List.mem_map.mp hx
      exact ⟨_, .int n⟩
    rcases List.mem_append.mp hx with hx | hx
    · rcases List.mem_append.mp hx with hx | hx
      · exact allI x (mem_cutV hx)
      · rw [List.mem_singleton.mp hx]
        exact ⟨og, ho⟩
    · exact allI x (mem_cutV hx)
  · have z1 := cutV_le (row.map V.int) lo hi
    have z2 := cutV_le (row.map V.int) lo' hi'
    rw [List.length_map] at z1 z2
    rw [List.length_append, List.length_append, List.length_singleton]
    omega
end
end L2.BR
namespace L2.BR
open PySem PySem.Spec PyProof.Rows L2.BP
section
variable {K : PySem.W.Frag} {W : WX} {vs : List V} {H : Hp} {Q : VK} {E : XK}
/-! ### the word of a caught error -/
def wordL : List (Str × Str) := [("row", "BadRow"), ("bits", "BadBits"), ("nobits", "NoBits"), ("shares", "BadShares"), ("lengths", "BadLengths"), ("code", "BadCode"), ("table", "BadTable"), ("cut", "Cut"), ("pieces", "BadPieces"), ("body", "BadBody"), ("head", "BadHead"), ("check", "BadCheck"), ("mark", "BadMark"), ("tail", "BadTail"), ("behind", "Behind"), ("over", "Over"), ("range", "NoRange"), ("letters", "BadLetters")]
structure WordOf (K : PySem.W.Frag) (D : Addr) (w : Str) : Prop where
  x : ExcC K D
  v : PySem.W.kitOne K (.ref D) (.type "ValueError") = some true
  f : ∀ p ∈ wordL, PySem.W.kitOne K (.ref D) (.ref (He.ga K p.2)) = some (decide (p.1 = w))
  one : (wordL.map fun p => (p.1, decide (p.1 = w))).filter (·.2) = [(w, true)]
abbrev pairW (p : Str × Bool) : List V := [.str p.1, .bl p.2]
theorem tups_W {α : Type} {f : α → List V} {ps : List α} {acc pre post : List V} {x : V} (h : Tups K H acc (ps.map f)) (e : acc = pre ++ x :: post) : ∃ a p, x = .ref a ∧ ps[pre.length]? = some p ∧ SqT K H a (f p) := by
  subst e
  obtain ⟨a, p1, xs, p2, rfl, e2, e3, e4⟩ := h.split
  have e5 : (ps.map f)[pre.length]? = some xs := by
    rw [e2, ← e3]
    simp
  rw [List.getElem?_map] at e5
  cases e6 : ps[pre.length]? with
  | none => rw [e6] at e5; cases e5
  | some p =>
    rw [e6] at e5
    cases e5
    exact ⟨a, p, rfl, rfl, e4⟩
section
variable {B : Hp} {l l2 u1 u2 u3 : Addr} {xs a b c : List V} {ps : List (List V)}
theorem word1 (h : Hs B [(l2, .lst [.ref u1]), (u1, .tup a), (l, .lst xs)] H) (hT : Tups K B xs ps) (hl : xs.length ≤ 100) (k : ∀ r B' H', Tups K B' (xs ++ [.ref u1]) (ps ++ [a]) → Same B B' → Hs B' [(r, .lst (xs ++ [.ref u1]))] H' → Q (.ref r) H') : rAddU (.ref l) (.ref l2) H Q := by
  refine c_addL h (h.get (.tail _ (.tail _ (.head _)))) (h.get (.head _)) (small6' (by rw [List.length_singleton]; omega)) fun r H' h' => ?_
  have k1 := h.nb (.tail _ (.head _))
  exact k r _ H' (hT.snocFix k1) (same_upd k1) h'.drop1.swap.fix.drop1
theorem word2 (h : Hs B [(l2, .lst [.ref u1, .ref u2]), (u2, .tup b), (u1, .tup a), (l, .lst xs)] H) (hT : Tups K B xs ps) (hl : xs.length ≤ 100) (k : ∀ r B' H', Tups K B' (xs ++ [.ref u1, .ref u2]) (ps ++ [a, b]) → Same B B' → Hs B' [(r, .lst (xs ++ [.ref u1, .ref u2]))] H' → Q (.ref r) H') : rAddU (.ref l) (.ref l2) H Q := by
  refine c_addL h (h.get (.tail _ (.tail _ (.tail _ (.head _))))) (h.get (.head _)) (small6' (by show xs.length + 2 ≤ _; omega)) fun r H' h' => ?_
  have k1 := h'.drop1.rot3.nb (.head _)
  have h2 := h'.drop1.rot3.fix.swap
  have k2 := h2.nb (.head _)
  have z := (hT.snocFix (xs := a) k1).snocFix (xs := b) k2
  rw [List.append_assoc, List.append_assoc] at z
  exact k r _ H' z ((same_upd k1).trans (same_upd k2)) h2.fix.drop1
theorem word3 (h : Hs B [(l2, .lst [.ref u1, .ref u2, .ref u3]), (u3, .tup c), (u2, .tup b), (u1, .tup a), (l, .lst xs)] H) (hT : Tups K B xs ps) (hl : xs.length ≤ 100) (k : ∀ r B' H', Tups K B' (xs ++ [.ref u1, .ref u2, .ref u3]) (ps ++ [a, b, c]) → Same B B' → Hs B' [(r, .lst (xs ++ [.ref u1, .ref u2, .ref u3]))] H' → Q (.ref r) H') : rAddU (.ref l) (.ref l2) H Q := by
  refine c_addL h (h.get (.tail _ (.tail _ (.tail _ (.tail _ (.head _)))))) (h.get (.head _)) (small6' (by show xs.length + 3 ≤ _; omega)) fun r H' h' => ?_
  have k1 := h'.drop1.rot4.nb (.head _)
  have h2 := h'.drop1.rot4.fix.rot3
  have k2 := h2.nb (.head _)
  have h3 := h2.fix.swap
  have k3 := h3.nb (.head _)
  have z := ((hT.snocFix (xs := a) k1).snocFix (xs := b) k2).snocFix (xs := c) k3
  rw [List.append_assoc, List.append_assoc, List.append_assoc, List.append_assoc] at z
  exact k r _ H' z (((same_upd k1).trans (same_upd k2)).trans (same_upd k3)) h3.fix.drop1
end
theorem c_isXw {a D : Addr} {w u c : Str} (W : WordOf K D w) (m : (u, c) ∈ wordL) (k : Q (.bl (decide (u = w))) H) : rIsX K a (.ref D) none [.ref a, .ref (He.ga K c)] H Q := c_isXc W.x (W.f (u, c) m) k
theorem c_niBl {l : Addr} {xs : List V} (h : SqL K H l xs) (hf : xs.all L2.flatV = true) (hn : L2.inV (.bl true) xs = false) (k : Q (.bl true) H) : rNiU K (.bl true) (.ref l) H Q := .inl ⟨l, xs, rfl, .inl h, rfl, hf, by rw [hn]; exact k⟩
end
end L2.BR
namespace L2.BR
open PySem PySem.Spec PyProof.Rows L2.BP
section
variable {K : PySem.W.Frag} {H H' : Hp} {Q : VK}
/-! ### things that are data, compared with copies of themselves -/
/-- data of few layers -/
def LD (K : PySem.W.Frag) (H : Hp) (n : Nat) (xs : List V) : Prop := ∃ ds, DpAll K H xs ds ∧ PyData.canLayAll0 ds = true ∧ PyData.depthAll ds ≤ n
def OD (K : PySem.W.Frag) (H : Hp) (n : Nat) (x : V) : Prop := ∃ d, Dp K H x d ∧ PyData.canLay0 d = true ∧ PyData.depth d ≤ n
theorem dpAll_app : ∀ {xs ys : List V} {ds es : List PyData}, DpAll K H xs ds → DpAll K H ys es → DpAll K H (xs ++ ys) (ds ++ es)
  | _, _, _, _, .nil, h => h
  | _, _, _, _, .cons e t, h => .cons e (dpAll_app t h)
theorem lay_app : ∀ {ds es : List PyData}, PyData.canLayAll0 ds = true → PyData.canLayAll0 es = true → PyData.canLayAll0 (ds ++ es) = true
  | [], _, _, h => h
  | d :: ds, es, h, h2 => by
    simp only [PyData.canLayAll0, Bool.and_eq_true, List.cons_append] at h ⊢
    exact ⟨h.1, lay_app h.2 h2⟩
theorem depth_app : ∀ {ds es : List PyData} {n : Nat}, PyData.depthAll ds ≤ n → PyData.depthAll es ≤ n → PyData.depthAll (ds ++ es) ≤ n
  | [], _, _, _, h => h
  | d :: ds, es, n, h, h2 => by
    simp only [PyData.depthAll, List.cons_append] at h ⊢
    have := depth_app (ds := ds) (n := n) (by omega) h2
    omega
theorem LD.nil {n : Nat} : LD K H n [] := ⟨[], .nil, rfl, Nat.zero_le _⟩
theorem LD.app {n : Nat} {xs ys : List V} (h : LD K H n xs) (h2 : LD K H n ys) : LD K H n (xs ++ ys) := by
  obtain ⟨ds, a1, a2, a3⟩ := h
  obtain ⟨es, b1, b2, b3⟩ := h2
  exact ⟨_, dpAll_app a1 b1, lay_app a2 b2, depth_app a3 b3⟩
theorem LD.one {n : Nat} {x : V} (h : OD K H n x) : LD K H n [x] := by
  obtain ⟨d, a1, a2, a3⟩ := h
  exact ⟨[d], .cons a1 .nil, by simp [PyData.canLayAll0, a2], by simp [PyData.depthAll]; exact a3⟩
theorem LD.cons {n : Nat} {x : V} {xs : List V} (h : OD K H n x) (t : LD K H n xs) : LD K H n (x :: xs) := (LD.one h).app t
theorem OD.flat {n : Nat} {x : V} (h : L2.BP.flatV x = true) : OD K H n x := ⟨_, dp_flat h, (can_flat h).1, by rw [(can_flat h).2]; exact Nat.zero_le _⟩
theorem LD.flat {n : Nat} : ∀ {xs : List V}, xs.all L2.BP.flatV = true → LD K H n xs
  | [], _ => .nil
  | x :: r, h => by
    rw [List.all_cons, Bool.and_eq_true] at h
    exact .cons (.flat h.1) (LD.flat h.2)
theorem LD.ints {n : Nat} {ns : List Int} : LD K H n (ns.map V.int) := .flat (by rw [List.all_map]; simp [L2.BP.flatV])
theorem OD.lst {n : Nat} {a : Addr} {xs : List V} (h : SqL K H a xs) (t : LD K H n xs) : OD K H (n + 1) (.ref a) := by
  obtain ⟨ds, a1, a2, a3⟩ := t
  exact ⟨.list ds, .lst h a1, by simpa [PyData.canLay0] using a2, by simp only [PyData.depth]; omega⟩
theorem OD.tup {n : Nat} {a : Addr} {xs : List V} (h : SqT K H a xs) (t : LD K H n xs) : OD K H (n + 1) (.ref a) := by
  obtain ⟨ds, a1, a2, a3⟩ := t
  exact ⟨.tuple ds, .tup h a1, by simpa [PyData.canLay0] using a2, by simp only [PyData.depth]; omega⟩
theorem eqvS {d : PyData} (h : PyData.canLay0 d = true) : PyData.eqv d d = true := SeqAt.eqv_refl d h
theorem shapedS {d : PyData} (h : PyData.canLay0 d = true) {n : Nat} (h2 : PyData.depth d ≤ n) (hn : n ≤ 64) : SeqAt.shaped d = true := by
  unfold SeqAt.shaped
  rw [h, Bool.true_and]
  exact decide_eq_true (by omega)
/-- two lists of the same items -/
theorem c_neSame {n : Nat} {a b : Addr} {xs : List V} (h1 : SqL K H a xs) (h2 : SqL K H b xs) (t : LD K H n xs) (hn : n ≤ 60) (k : Q (.bl false) H) : rNeU K (.ref a) (.ref b) H Q := by
  obtain ⟨ds, a1, a2, a3⟩ := t
  have c : PyData.canLay0 (.list ds) = true := by simpa [PyData.canLay0] using a2
  have e : PyData.depth (.list ds) ≤ n + 1 := by simp only [PyData.depth]; omega
  refine c_neD (.lst h1 a1) (.lst h2 a1) (shapedS c e (by omega)) (shapedS c e (by omega)) ?_
  rw [eqvS c]
  exact k
theorem c_eqSame {n : Nat} {a b : Addr} {xs : List V} (h1 : SqL K H a xs) (h2 : SqL K H b xs) (t : LD K H n xs) (hn : n ≤ 60) (k : Q (.bl true) H) : rEqU K (.ref a) (.ref b) H Q := by
  obtain ⟨ds, a1, a2, a3⟩ := t
  have c : PyData.canLay0 (.list ds) = true := by simpa [PyData.canLay0] using a2
  have e : PyData.depth (.list ds) ≤ n + 1 := by simp only [PyData.depth]; omega
  refine c_eqD (.lst h1 a1) (.lst h2 a1) (shapedS c e (by omega)) (shapedS c e (by omega)) ?_
  rw [eqvS c]
  exact k
/-- a thing and itself -/
theorem c_neSelf {n : Nat} {x : V} (t : OD K H n x) (hn : n ≤ 60) (k : Q (.bl false) H) : rNeU K x x H Q := by
  obtain ⟨d, a1, a2, a3⟩ := t
  refine c_neD a1 a1 (shapedS a2 a3 (by omega)) (shapedS a2 a3 (by omega)) ?_
  rw [eqvS a2]
  exact k
theorem c_eqSelf {n : Nat} {x : V} (t : OD K H n x) (hn : n ≤ 60) (k : Q (.bl true) H) : rEqU K x x H Q := by
  obtain ⟨d, a1, a2, a3⟩ := t
  refine c_eqD a1 a1 (shapedS a2 a3 (by omega)) (shapedS a2 a3 (by omega)) ?_
  rw [eqvS a2]
  exact k
mutual
theorem Dp.same (s : Same H H') : ∀ {d : PyData} {x : V}, Dp K H x d → Dp K H' x d
  | _, _, .non => .non
  | _, _, .bl b => .bl b
  | _, _, .int i => .int i
  | _, _, .str z => .str z
  | _, _, .lst h t => .lst (s.seq h) (DpAll.same s t)
  | _, _, .tup h t => .tup (same_sqt s h) (DpAll.same s t)
theorem DpAll.same (s : Same H H') : ∀ {ds : List PyData} {xs : List V}, DpAll K H xs ds → DpAll K H' xs ds
  | _, _, .nil => .nil
  | _, _, .cons h t => .cons (Dp.same s h) (DpAll.same s t)
end
theorem LD.same {n : Nat} {xs : List V} (h : LD K H n xs) (s : Same H H') : LD K H' n xs := by
  obtain ⟨ds, a1, a2, a3⟩ := h
  exact ⟨ds, DpAll.same s a1, a2, a3⟩
theorem OD.same {n : Nat} {x : V} (h : OD K H n x) (s : Same H H') : OD K H' n x := by
  obtain ⟨ds, a1, a2, a3⟩ := h
  exact ⟨ds, Dp.same s a1, a2, a3⟩
end
end L2.BR
namespace L2.BP
open PySem PySem.Spec PyProof.Rows L2
theorem getl {X : Cx} : PGet X (rIxL X.K) := by
  intro pins s σ H o i ov iv Q I ro ri h
  obtain ⟨p, xs, i, z, rfl, rfl, hq, he, q⟩ := h
  cases ro
  obtain ⟨t, rfl⟩ := ri
  obtain ⟨its, r, pl, hz⟩ := I.list hq
  obtain ⟨j, h1, h2, h3, h4, h5⟩ := atI_get he
  obtain ⟨w, ew, rw'⟩ := r.get h2
  have hl := r.length
  have hn := line63
  have fin : EP X pins σ Q w s := ⟨z, H, I, rw', q⟩
  by_cases h0 : 0 ≤ i
  · have hj : i.toNat = j := by
      rw [seqIndex_of h0 h5] at h1
      exact Option.some.inj h1
    exact wpAny_getItem_list pl.isList h0 (by omega) (by rw [hj]; simpa using ew) fin
  · have hj : (i + (its.toArray.size : Int)).toNat = j := by
      rw [seqIndex_neg (by omega) h4] at h1
      rw [List.size_toArray, ← hl]
      exact Option.some.inj h1
    exact wpAny_getItem_list_neg pl.isList (by omega) (by rw [List.size_toArray] <;> omega) (by omega) (by rw [hj]; simpa using ew) fin
end L2.BP
namespace L2.BP
open PySem PySem.Spec PyProof.Rows
/-! ### isinstance(e, (C1, C2, ..)), e the exception that the def was handed -/
def rIsXT (K : PySem.W.Frag) (a : Addr) (cls : Value) (d : Option Addr) : List V → Hp → VK → Prop := fun xs H Q => ∃ (D tp : Addr) (cs : List V) (us : List Value) (b : Bool), cls = .ref D ∧ d = none ∧ ExcC K D ∧ xs = [.ref a, .ref tp] ∧ H tp = some (.tup cs) ∧ Paired ClsV cs us ∧ PySem.W.kitAny K (.ref D) us = some b ∧ Q (.bl b) H
theorem call_isPT {X : Cx} {p : Addr × Obj} {cls : Value} {d : Option Addr} (hp : p ∈ X.pn) (hz : Zc cls d p.2) (hf : ∃ vs, p.2.data = .fields vs) : CallR X (.builtin "isinstance") (rIsXT X.K p.1 cls d) := by
  rintro pins s σ H xs us Q I r ⟨D, tp, cs, ws, b, rfl, rfl, C, rfl, hT, k, e, q⟩
  match us, r with
  | [_, _], .cons rfl (.cons rt .nil) =>
    cases rt
    obtain ⟨_, its, rv, o, h1, h2, n, h3⟩ := (show ObjOk X.prog X.w H s.heap tp (.tup cs) from I.hok tp _ hT)
    have e3 := ClsV.all k rv
    subst e3
    have there := (I.pin p (List.mem_append_left _ hp)).1
    have J : PySem.W.InstAt s.heap p.1 p.2 D none := by
      obtain ⟨vs, hv⟩ := hf
      obtain ⟨pa, ⟨_, _, _, _⟩⟩ := p
      obtain ⟨h1, h2⟩ := hz
      dsimp only at h1 h2 hv
      subst h1 h2 hv
      exact ⟨there, rfl, rfl, trivial⟩
    obtain ⟨oc, od, dt, sl⟩ := o
    simp only at h2 h3
    subst h2 h3
    exact PySem.W.kia_tup (PySem.W.handS_kitx_exc C.hg C.hk C.hs C.hd C.ha C.hn C.ht C.hm) I.kIn J h1 e (fun z => nomatch z) fun tk => ⟨.bl b, H, I.kept (t' := tk) fun _ _ z => z, rfl, q⟩
end L2.BP
namespace L2.BR
open PySem PySem.Spec PyProof.Rows L2.BP
theorem clsV_own (K : PySem.W.Frag) : ∀ us : List (Str × Str), Paired ClsV (us.map fun p => V.ref (He.ga K p.2)) (us.map fun p => Value.ref (He.ga K p.2))
  | [] => .nil
  | _ :: us => .cons (.own _) (clsV_own K us)
theorem any_word {K : PySem.W.Frag} {D : Addr} {w : Str} (W : WordOf K D w) : ∀ us : List (Str × Str), (∀ p ∈ us, p ∈ wordL) → PySem.W.kitAny K (.ref D) (us.map fun p => Value.ref (He.ga K p.2)) = some (us.any fun p => decide (p.1 = w))
  | [], _ => rfl
  | p :: us, m => by
    have ih := any_word W us fun q hq => m q (.tail _ hq)
    refine kitAny_cons (W.f p (m p (.head _))) (fun hb => ?_) fun hb => ?_
    · rw [ih, List.any_cons, hb, Bool.false_or]
    · rw [List.any_cons, hb, Bool.true_or]
theorem c_isXT {K : PySem.W.Frag} {H : Hp} {Q : VK} {a D tp : Addr} {w : Str} (W : WordOf K D w) (us : List (Str × Str)) (m : ∀ p ∈ us, p ∈ wordL) (h : H tp = some (.tup (us.map fun p => V.ref (He.ga K p.2)))) (k : Q (.bl (us.any fun p => decide (p.1 = w))) H) : rIsXT K a (.ref D) none [.ref a, .ref tp] H Q :=
  ⟨D, tp, _, _, _, rfl, rfl, W.x, rfl, h, clsV_own K us, any_word W us m, k⟩
end L2.BR
namespace L2.BR
open PySem PySem.Spec PyProof.Rows L2.BP
/-- a dict is no list -/
theorem c_eqDE {K : PySem.W.Frag} {H : Hp} {Q : VK} {a b : Addr} {kvs : List (Key × V)} {ys : List V} (h : H a = some (.dK kvs)) (hy : SqL K H b ys) (k : Q (.bl false) H) : rEqU K (.ref a) (.ref b) H Q := .inr (.inr (.inr ⟨a, b, kvs, ys, rfl, rfl, h, hy, k⟩))
theorem eqvAll_len : ∀ {a b : List PyData}, PyData.eqvAll a b = true → a.length = b.length
  | [], [], _ => rfl
  | [], _ :: _, h => by simp [PyData.eqvAll] at h
  | _ :: _, [], h => by simp [PyData.eqvAll] at h
  | _ :: a, _ :: b, h => by
    simp only [PyData.eqvAll, Bool.and_eq_true] at h
    rw [List.length_cons, List.length_cons, eqvAll_len h.2]
theorem dpAll_len {K : PySem.W.Frag} {H : Hp} : ∀ {xs : List V} {ds : List PyData}, DpAll K H xs ds → xs.length = ds.length
  | _, _, .nil => rfl
  | _, _, .cons _ t => by rw [List.length_cons, List.length_cons, dpAll_len t]
/-- lists of other lengths -/
theorem c_eqLen {K : PySem.W.Frag} {H : Hp} {Q : VK} {n m : Nat} {a b : Addr} {xs ys : List V} (h1 : SqL K H a xs) (h2 : SqL K H b ys) (t : LD K H n xs) (u : LD K H m ys) (hn : n ≤ 60) (hm : m ≤ 60) (hl : xs.length ≠ ys.length) (k : Q (.bl false) H) : rEqU K (.ref a) (.ref b) H Q := by
  obtain ⟨ds, a1, a2, a3⟩ := t
  obtain ⟨es, b1, b2, b3⟩ := u
  have c : PyData.canLay0 (.list ds) = true := by simpa [PyData.canLay0] using a2
  have e : PyData.depth (.list ds) ≤ n + 1 := by simp only [PyData.depth]; omega
  have c' : PyData.canLay0 (.list es) = true := by simpa [PyData.canLay0] using b2
  have e' : PyData.depth (.list es) ≤ m + 1 := by simp only [PyData.depth]; omega
  refine c_eqD (.lst h1 a1) (.lst h2 b1) (shapedS c e (by omega)) (shapedS c' e' (by omega)) ?_
  have z : PyData.eqv (.list ds) (.list es) = false := by
    rw [PyData.eqv]
    cases z : PyData.eqvAll ds es with
    | false => rfl
    | true => exact absurd (by rw [dpAll_len a1, dpAll_len b1]; exact eqvAll_len z) hl
  rw [z]
  exact k
end L2.BR
namespace L2.BP
open PySem PySem.Spec PyProof.Rows
/-! ### sorted(range(n), key=f) -/
section
variable {prog : Program} {w : World} {A : Around} {E : Value → Shared → Prop} {s : Shared}
theorem each_range {acc : Array Value} {n : Nat} (h : ItemsOf (fun (i : Nat) (v : Value) => ∃ t, v = Value.int (0 + (i : Int) * 1) t) acc n) : PySem.W.EachIs (fun (v : Value) (i : Nat) => ∃ t, v = Value.int ((i : Nat) : Int) t) acc.toList (List.range n) := by
  obtain ⟨hz, h⟩ := h
  have key : ∀ (l : List Value) (k : Nat), (∀ j v, l[j]? = some v → ∃ t, v = Value.int (((k + j : Nat) : Nat) : Int) t) → PySem.W.EachIs (fun (v : Value) (i : Nat) => ∃ t, v = Value.int ((i : Nat) : Int) t) l (List.range' k l.length) := by
    intro l
    induction l with
    | nil => intro k _; exact .nil
    | cons x r ih =>
      intro k hk
      rw [List.length_cons, List.range'_succ]
      refine .cons (by obtain ⟨t, e⟩ := hk 0 x rfl; exact ⟨t, e⟩) (ih (k + 1) fun j v e => ?_)
      obtain ⟨t, e2⟩ := hk (j + 1) v e
      exact ⟨t, by rw [e2, show k + (j + 1) = k + 1 + j by omega]⟩
  have z := key acc.toList 0 fun j v e => by
    obtain ⟨t, e2⟩ := h j v (by rw [← Array.getElem?_toList]; exact e)
    exact ⟨t, by rw [e2]; simp⟩
  rw [Array.length_toList, hz, ← List.range_eq_range'] at z
  exact z
theorem sorted_range_key {r : Addr} {n : Nat} {t u v : Tok} {f : Addr} {Q : Value → Shared → Prop} (ws : Nat → Int) (hh : A.handled = none) (hr : IsRange s.heap r 0 ((n : Nat) : Int) 1 t u v) (hn : n ≤ 100000) (hu : A.units + 2 < cLine)
    (turn : ∀ (i : Nat) (t : Tok) (h : Heap) (tk : Nat), i < n → (∀ b o, s.heap.get? b = some o → h.get? b = some o) → wpAny (model prog w) A.in1.in1 (call (.ref f) [.int ((i : Nat) : Int) t]) (PySem.W.KeyPure (.int (ws i)) { s with heap := h, toks := tk }) (fun _ _ => False) { s with heap := h, toks := tk })
    (h : ∀ (h1 : Heap) (out : List Value) (c : Nat) (h' : Heap) (tk : Nat), (∀ b o, s.heap.get? b = some o → h1.get? b = some o) → (∀ b o, h1.get? b = some o → h'.get? b = some o) → h'.get? h1.objs.size = some (seqObj "list" (List.toArray out) c) →
      PySem.W.EachIs (fun (v : Value) (i : Nat) => ∃ t, v = Value.int ((i : Nat) : Int) t) out ((List.range n).mergeSort fun a b => decide (ws a ≤ ws b)) → Q (.ref h1.objs.size) { s with heap := h', toks := tk }) :
    wpAny (model prog w) A (call (.builtin "sorted") [.ref r] [(Str.ofString "key", .ref f)]) Q E s := by
  have line : n ≤ sizeLine := small6' (by omega)
  refine call_function_entry_kw kind_sorted plain_sorted entry_sorted (ksk_s1 _ _) ?_
  unfold Builtin.«sorted»
  refine wpAny_bind (m := checkCount "sorted" 1 1 _) (wpAny_pure ?_)
  refine wpAny_bind (L2.collect_range (n := n) hh hr ?_ ?_ (by omega) fun h1 tk1 acc k1 hI => ?_)
  · exact small_one (by decide) (by decide) (by omega) (by omega)
  · rw [rangeSize_one]
    split <;> omega
  have hE := each_range hI
  have hl : acc.toList.length = n := by rw [Array.length_toList]; exact hI.1
  refine wpAny_bind (wpAny_newList ?_ (by rw [hl]; exact line))
  have ho : (h1.push (seqObj "list" acc.toList.toArray 0)).get? h1.objs.size = some (seqObj "list" acc.toList.toArray 0) := Heap.get?_push_size _ rfl
  have up1 : ∀ {g : Heap}, PySem.W.KeepsBut h1.objs.size (h1.push (seqObj "list" acc.toList.toArray 0)) g → ∀ b o, h1.get? b = some o → g.get? b = some o := fun {g} kp b o q =>
    kp b o (Nat.ne_of_lt (Heap.lt_size q)) (Heap.get?_push_of_some _ q)
  have up : ∀ {g : Heap}, PySem.W.KeepsBut h1.objs.size (h1.push (seqObj "list" acc.toList.toArray 0)) g → ∀ b o, s.heap.get? b = some o → g.get? b = some o := fun {g} kp b o q =>
    kp b o (Nat.ne_of_lt (Heap.lt_size (k1 b o q))) (Heap.get?_push_of_some _ (k1 b o q))
  refine wpAny_bind (wpAny_holding (PySem.W.list_sort_key_data (b := false) (s := { s with heap := h1.push (seqObj "list" acc.toList.toArray 0), toks := tk1 }) (fun i : Nat => PyData.int (ws i)) ho hE (PySem.W.AllAlike.of fun _ _ => by simp [PySem.W.alike]) (PySem.W.Sortable.others fun b => ⟨by simp, by simp⟩) (by rw [List.length_range]; exact line) (fun i _ => ?_) (ksk_l1 _ _) (ksk_t1 _ _)
    (fun v i hR hx h tk kp => ?_) fun out c h' tk kp hD hol eo => ?_))
  · show A.units + 1 + 1 + 0 < cLine
    omega
  · obtain ⟨t, rfl⟩ := hR
    exact turn i t h tk (List.mem_range.mp hx) (up kp)
  · refine wpAny_pure ⟨_, rfl, ?_⟩
    rw [PySem.W.dataLe_int] at eo
    exact h h1 out c h' tk k1 (up1 kp) hD eo
/-- lambda a: l[a], l a name of the def around it: what a call of it tells -/
theorem lam_at_key {f c' c0 lst : Addr} {qual l a : Str} {params : Arguments} {p1 p2 p3 : Pos} {scope : Scope} {clos : List (Str × Addr)} {pm ctv : Value} {its : Array Value} {i : Nat} {t : Tok} {x : Int} {tx : Tok}
    (hd : A.depth < recursionLimit) (lim : s.heap.NoLimit) (hf : s.heap.get? f = some (PySem.W.kla_obj "<lambda>" qual params (.Subscript (.Name l p1) (.Name a p2) p3) scope clos pm c' ctv)) (hcode : s.heap.CodeRec (.ref c') qual)
    (hkind : scope.kind = .function) (hco : scope.isCoroutine = false) (hgen : scope.isGenerator = false) (hcell : ∀ y ∈ scope.names, y.2 ≠ .cell) (hla : scope.names.lookup a = some .local) (hll : scope.names.lookup l = some .free)
    (hcl : clos.lookup l = some c0) (hc0 : s.heap.IsCell c0 (some (.ref lst))) (hl : s.heap.IsList lst its) (hi : its[i]? = some (.int x tx)) (hi63 : i ≤ 100000)
    (hbind : ∀ u, bindArgs (PySem.W.kla_fn "<lambda>" qual params (.Subscript (.Name l p1) (.Name a p2) p3) scope clos pm (.ref c') ctv) ⟨[u], []⟩ = pure [(a, u)])
    (hda : (a == ("__debug__" : Str)) = false := by decide) (hdl : (l == ("__debug__" : Str)) = false := by decide) (hcd : (l == ("__classdict__" : Str)) = false := by decide) :
    wpAny (model prog w) A (call (.ref f) [.int ((i : Nat) : Int) t]) (PySem.W.KeyPure (.int x) s) (fun _ _ => False) s := by
  refine wpAny_call (PySem.W.kla_callFunE hd hf rfl hco hgen rfl hcode ?_)
  rw [hbind]
  refine wpAny_pure (wpAny_newFunctionEnv hcell (fun y hy => ?_) (fun h₁ hns hsb => ⟨lim.fresh _ hsb, ?_⟩) hkind)
  · have e : y = (a, Value.int ((i : Nat) : Int) t) := by simpa using hy
    rw [e]
    exact hla
  have kp : ∀ b o, s.heap.get? b = some o → h₁.get? b = some o := fun b o e => hsb.extBut b o (Nat.ne_of_lt (Heap.lt_size e)) (Heap.get?_push_of_some _ e)
  obtain ⟨oc, e1, e2⟩ := hc0
  obtain ⟨o, e3, e4, n, e5⟩ := hl
  refine PySem.W.kla_codeExpr (Subscript_ (wpAny_Name (wpAny_loadName_free hkind hll hcl ⟨oc, kp _ _ e1, e2⟩ ?_ hcd) hdl))
  refine wpAny_Name (wpAny_loadName_local hkind hla hns (v := .int ((i : Nat) : Int) t) ?_ ?_) hda
  · show List.lookup a ([(a, Value.int ((i : Nat) : Int) t)].reverse) = _
    simp [List.lookup]
  · have hl1 : h₁.IsList lst its := ⟨o, kp _ _ e3, e4, n, e5⟩
    refine subscriptTail_builtinR (x := .int x tx) hl1.typeIs slot_list_getitem.lookup (wpAny_getItem_list hl1 (by omega) (by omega) (by rw [Int.toNat_natCast]; exact hi) ⟨rfl, ?_⟩) rfl
    exact ⟨h₁, _, rfl, kp, .int _ _⟩
end
end L2.BP
namespace L2.BP
open PySem PySem.Spec PyProof.Rows LamX
/-! ### a lambda is made: its maker's table of code objects is an own object -/
/-- the table: what it tells are code objects of that name -/
def TabC (B : Hp) (ps : Array Value) (q : Str) : Prop := TriplesOk ps.toList ∧ ∀ (pos : Pos) (cv : Value), codeAmong pos ps.toList = some cv → ∃ c, cv = .ref c ∧ B c = some (CodeO c q)
theorem TabC.same {B B2 : Hp} {ps : Array Value} {q : Str} (h : TabC B ps q) (e : Same B B2) : TabC B2 ps q := ⟨h.1, fun pos cv hc => (h.2 pos cv hc).imp fun c z => ⟨z.1, e _ _ z.2⟩⟩
theorem TabC.nil {B : Hp} {q : Str} : TabC B #[] q := ⟨True.intro, fun pos cv hc => by
  have z : codeAmong pos [] = some cv := hc
  simp [codeAmong] at z⟩
section
variable {X : Cx} {pins : List (Addr × Obj)} {σ : L2.St} {H B : Hp} {L : Pic} {s : Shared}
theorem lam_make3 {c P : Addr} {ps : Array Value} {params : Arguments} {body : Expr} {scope : Scope} {pos : Pos} {E : Value → Shared → Prop} {Q : Value → Shared → Prop} (I : Inv X pins σ H s) (TB : TabB X.base X.mg c P) (hcode : X.env.code = .ref c)
    (hs : Hs B ((P, .tbl ps) :: L) H) (hT : TabC B ps (X.env.qual ++ "<lambda>")) (hdef : defaultsOf params X.env = ([], [])) (hfree : ∀ y ∈ scope.names, y.2 = .free → ∃ c, X.env.cells.lookup y.1 = some c)
    (h : ∀ (f c' : Addr) (pm ctv : Value) (B2 : Hp) (ps2 : Array Value) (H1 : Hp) (s' : Shared), Inv X pins σ H1 s' → Same B B2 → TabC B2 ps2 (X.env.qual ++ "<lambda>") → Hs B2 ((P, .tbl ps2) :: L) H1 → Same H1 H1 →
      s'.heap.get? f = some (PySem.W.kla_obj "<lambda>" (X.env.qual ++ "<lambda>") params body scope (cloFrom X.env.cells scope.names []) pm c' ctv) → s'.heap.CodeRec (.ref c') (X.env.qual ++ "<lambda>") → (∀ b o, s.heap.get? b = some o → H b = none → s'.heap.get? b = some o) → Q (.ref f) s') :
    wpAny (model X.prog X.w) X.A (eval (.Lambda params body scope pos) X.env) Q E s := by
  have hP : H P = some (.tbl ps) := hs.get (.head _)
  have bP : s.heap.BuiltinsAt X.mg P := TB.bm.keeps I.bk
  have hP' : s.heap.get? P = some { cls := .none, data := .fields ps } := I.hok P _ hP
  refine PySem.W.kla_eval hdef ?_
  cases hc : codeAmong pos ps.toList with
  | some cv =>
    obtain ⟨c', rfl, hco⟩ := hT.2 pos cv hc
    obtain ⟨⟨oc, vs, t, e1, e2, e3⟩, _⟩ := (show ObjOk X.prog X.w H s.heap c' (CodeO c' (X.env.qual ++ "<lambda>")) from I.hok c' _ (hs.ex _ _ hco))
    refine PySem.W.kla_makeFunctionHit (mg := X.mg) (c := c) (P := P) (ps := ps) (closure_ok hfree) I.ok.glob (I.mod.glob.keeps I.bk) hcode (TB.code.keeps I.bk) hP' hT.1 hc bP fun ctv h' tk hx hsz => ?_
    have kp : ∀ b o, s.heap.get? b = some o → (h'.push (PySem.W.kla_obj "<lambda>" (X.env.qual ++ "<lambda>") params body scope (cloFrom X.env.cells scope.names []) ((X.mg "__name__").getD .none) c' ctv)).get? b = some o := fun b o e => Heap.get?_push_of_some _ (hx b o e)
    exact h h'.objs.size c' ((X.mg "__name__").getD .none) ctv B ps H _ (I.kept kp) (Same.refl _) hT hs (Same.refl _) (Heap.get?_push_size _ rfl) ⟨c', oc, vs, t, rfl, kp _ _ e1, e2, e3⟩ fun b o e _ => kp b o e
  | none =>
    refine PySem.W.kla_makeFunction (mg := X.mg) (c := c) (P := P) (ps := ps) (closure_ok hfree) I.ok.glob (I.mod.glob.keeps I.bk) hcode (TB.code.keeps I.bk) hP' hT.1 hc TB.gP bP fun c' ctv h' tk hx hge hlt hrec htb => ?_
    obtain ⟨c2, oc, vs, t, e2, hoc, hd, hv⟩ := hrec
    cases e2
    have nC : H c' = none := I.hok.fresh hge
    have I1 := inv_table (t' := tk) (more := #[rawInt pos.line, rawInt pos.col, .ref c']) (q := X.env.qual ++ "<lambda>") (h' := h'.push (PySem.W.kla_obj "<lambda>" (X.env.qual ++ "<lambda>") params body scope (cloFrom X.env.cells scope.names []) ((X.mg "__name__").getD .none) c' ctv)) I hP
      (fun b o hb e => Heap.get?_push_of_some _ (hx b o hb e)) (Heap.get?_push_of_some _ htb) hge ⟨oc, vs, t, Heap.get?_push_of_some _ hoc, hd, hv⟩
    have hs1 : Hs B ((P, .tbl (ps ++ #[rawInt pos.line, rawInt pos.col, .ref c'])) :: L) (upd H P (.tbl (ps ++ #[rawInt pos.line, rawInt pos.col, .ref c']))) := hs.u0
    have nP : P ≠ c' := fun e => by rw [e, nC] at hP; cases hP
    have hs2 := hs1.new (o := CodeO c' (X.env.qual ++ "<lambda>")) (p := c') (by rw [upd_ne (Ne.symm nP)]; exact nC)
    have nB : B c' = none := hs2.nb (.head _)
    refine h h'.objs.size c' ((X.mg "__name__").getD .none) ctv _ _ _ _ I1 (same_upd (o := CodeO c' (X.env.qual ++ "<lambda>")) nB) ⟨?_, fun p' cv hcv => ?_⟩ hs2.fix (Same.refl _) (Heap.get?_push_size _ rfl) ⟨c', oc, vs, t, rfl, Heap.get?_push_of_some _ hoc, hd, hv⟩ fun b o e n => Heap.get?_push_of_some _ (hx b o (fun z => by rw [z, hP] at n; cases n) e)
    · rw [show (ps ++ #[rawInt pos.line, rawInt pos.col, Value.ref c']).toList = ps.toList ++ [rawInt pos.line, rawInt pos.col, .ref c'] by simp]
      exact PySem.TriplesOk_snoc _ _ _ _ hT.1
    · rw [show (ps ++ #[rawInt pos.line, rawInt pos.col, Value.ref c']).toList = ps.toList ++ [rawInt pos.line, rawInt pos.col, .ref c'] by simp] at hcv
      rcases among_app _ hT.1 hcv with z | z
      · obtain ⟨c0, z1, z2⟩ := hT.2 p' cv z
        exact ⟨c0, z1, same_upd nB _ _ z2⟩
      · exact ⟨c', z, upd_same⟩
/-- the places 0.., by what stands there, the lesser first -/
def idxBy (ws : List Int) : List V := ((List.range ws.length).mergeSort fun a b => decide (ws.getD a 0 ≤ ws.getD b 0)).map fun i => V.int ((i : Nat) : Int)
theorem vals_idx {out : List Value} {l : List Nat} (h : PySem.W.EachIs (fun (v : Value) (i : Nat) => ∃ t, v = Value.int ((i : Nat) : Int) t) out l) : Vals (l.map fun i => V.int ((i : Nat) : Int)) out := by
  induction h with
  | nil => exact .nil
  | cons e _ ih => exact .cons e ih
theorem vals_at {ws : List Int} : ∀ {its : List Value}, Vals (ws.map V.int) its → ∀ {i : Nat}, i < ws.length → ∃ t, its.toArray[i]? = some (.int (ws.getD i 0) t) := by
  induction ws with
  | nil => intro its _ i h; cases h
  | cons w r ih =>
    intro its h i hi
    cases h with
    | cons e t =>
      cases i with
      | zero =>
        obtain ⟨t, rfl⟩ := e
        exact ⟨t, by simp⟩
      | succ i =>
        obtain ⟨t2, e2⟩ := ih t (by simpa using hi)
        exact ⟨t2, by simpa using e2⟩
/-- what the lambda asks of its maker's scope -/
structure LamAt (sc scope : Scope) (l a : Str) : Prop where
  kind : scope.kind = .function
  co : scope.isCoroutine = false
  gen : scope.isGenerator = false
  cell : ∀ y ∈ scope.names, y.2 ≠ .cell
  la : scope.names.lookup a = some .local
  ll : scope.names.lookup l = some .free
  free : ∀ y ∈ scope.names, y.2 = .free → sc.names.lookup y.1 = some .cell
def tSortL (K : PySem.W.Frag) (P : Addr) (q : Str) (i : Nat) (ta : TA) : TE := fun σ H Q => ta σ H fun vs H1 => ∃ (B : Hp) (L : Pic) (ps : Array Value) (rg l : Addr) (ws : List Int), vs = [.ref rg] ∧ Hs B ((P, .tbl ps) :: (rg, .rng 0 ((ws.length : Nat) : Int)) :: L) H1 ∧ TabC B ps q ∧ ws.length ≤ 100000 ∧
  σ[i]? = some (some (.ref l)) ∧ (∀ (B2 : Hp) (ps2 : Array Value) (H2 : Hp), Same B B2 → Hs B2 ((P, .tbl ps2) :: (rg, .rng 0 ((ws.length : Nat) : Int)) :: L) H2 → SqL K H2 l (ws.map V.int)) ∧
  ∀ (B2 : Hp) (ps2 : Array Value) (p : Addr) (H3 : Hp), Same B B2 → TabC B2 ps2 q → Hs B2 ((p, .lst (idxBy ws)) :: (P, .tbl ps2) :: L) H3 → Q (.ref p) H3
theorem pe_sortL {c P : Addr} {i : Nat} {l a : Str} {params : Arguments} {p p1 p2 p3 lpos kpos pos : Pos} {scope : Scope} {e : Expr} {ta : TA} (hg : Gl X "sorted") (hm : X.mg "sorted" = none) (ha : PA X [e] ta) (hc : X.calm = true) (hr : Room 1 X.A)
    (TB : TabB X.base X.mg c P) (hcode : X.env.code = .ref c) (S : LamAt X.env.scope scope l a) (hN : X.N[i]? = some l) (hl : X.env.scope.names.lookup l = some .cell)
    (hdef : defaultsOf params X.env = ([], []))
    (hbind : ∀ (f c' : Addr) (pm ctv u : Value), bindArgs (PySem.W.kla_fn "<lambda>" (X.env.qual ++ "<lambda>") params (.Subscript (.Name l p1) (.Name a p2) p3) scope (cloFrom X.env.cells scope.names []) pm (.ref c') ctv) ⟨[u], []⟩ = pure [(a, u)])
    (he : backTo pos (starEach [e] X.env) = (false, eval e X.env) :: backTo pos (starEach [] X.env) := by rfl) (hpl : (backTo pos (starEach [e] X.env)).any (·.1) = false := by rfl)
    (hda : (a == ("__debug__" : Str)) = false := by decide) (hdl : (l == ("__debug__" : Str)) = false := by decide) (hcd : (l == ("__classdict__" : Str)) = false := by decide) :
    PE X (.Call (.Name "sorted" p) [e] [⟨some "key", .Lambda params (.Subscript (.Name l p1) (.Name a p2) p3) scope lpos, kpos⟩] pos) (tSortL X.K P (X.env.qual ++ "<lambda>") i ta) := by
  refine ⟨fun pins s σ H Q I h => ?_⟩
  refine wpAny_Call_Name_kw (ld_blt I hg hm bb_sorted ?_ (by decide) (by decide))
  refine PyProof.Rows.callWith_kw (thn (ha.run pos pins s σ H _ I h) fun us s1 ⟨vs, H1, I1, r1, B, L, ps, rg, lst, ws, ev, hs, hT, hw, hσ, hq, q⟩ => ?_) he hpl (by rfl) (by rfl)
  subst ev
  obtain ⟨u, rfl, e1⟩ := vals_one r1
  cases e1
  have hfree : ∀ y ∈ scope.names, y.2 = .free → ∃ c, X.env.cells.lookup y.1 = some c := fun y hy e => I1.ok.has _ (.inl (S.free y hy e))
  show wpAny _ _ (evalAll [do let v ← eval (.Lambda params (.Subscript (.Name l p1) (.Name a p2) p3) scope lpos) X.env; standAt pos; pure v]) _ _ s1
  refine wpAny_evalAll_cons (wpAny_bind (lam_make3 I1 TB hcode hs hT hdef hfree fun f c' pm ctv B2 ps2 H2 s2 I2 eB hT2 hs2 _ hf hrec _ => wpAny_bind (wpAny_standAt (wpAny_pure (wpAny_evalAll_nil ?_)))))
  show wpAny _ _ (call (.builtin "sorted") [.ref rg] [(Str.ofString "key", .ref f)]) _ _ s2
  -- what the lambda looks at
  have hS := hq _ _ _ eB hs2
  obtain ⟨its, rv, pl, hz⟩ := I2.list hS
  obtain ⟨m, _, loc⟩ := I2.loc
  obtain ⟨w', rw', place⟩ := loc i l (.ref lst) hN hσ (.inr (.inl hl))
  cases rw'
  obtain ⟨c3, hc3, hcell⟩ : ∃ c3, X.env.cells.lookup l = some c3 ∧ s2.heap.IsCell c3 (some (.ref lst)) := by
    rcases place with ⟨k', _⟩ | ⟨_, c3, e', z⟩
    · have k' : X.env.scope.names.lookup l = some .local := k'
      rw [hl] at k'
      cases k'
    · exact ⟨c3, e', z⟩
  have hclo : (cloFrom X.env.cells scope.names []).lookup l = some c3 := by
    obtain ⟨c4, h4⟩ := mem_lookup (cloFrom_has (cells := X.env.cells) (acc := []) (PySem.mem_of_lookup S.ll))
    rcases cloFrom_mem (PySem.mem_of_lookup h4) with hm | ⟨_, z⟩
    · cases hm
    · rw [h4, z, hc3]
      rfl
  obtain ⟨t, u, v, hrg⟩ := (show ObjOk X.prog X.w H2 s2.heap rg (.rng 0 ((ws.length : Nat) : Int)) from I2.hok rg _ (hs2.get (.tail _ (.head _))))
  refine sorted_range_key (n := ws.length) (f := f) (fun i => ws.getD i 0) (I2.ok.hd hc) hrg hw (by have := hr.un; show X.A.units + 2 < cLine; omega) (fun i t h tk hi kp => ?_) fun h1 out c1 h' tk k1 k2 hD eo => ?_
  · obtain ⟨tx, hx⟩ := vals_at rv hi
    obtain ⟨oc, z1, z2⟩ := hcell
    obtain ⟨o, z3, z4, z5⟩ := pl.isList
    exact lam_at_key (s := { s2 with heap := h, toks := tk }) (by have := hr.dp; show X.A.depth < _; omega) (I2.nolimit.keeps kp) (kp _ _ hf) (hrec.keeps kp) S.kind S.co S.gen S.cell S.la S.ll hclo ⟨oc, kp _ _ z1, z2⟩ ⟨o, kp _ _ z3, z4, z5⟩ hx (by omega) (fun u => hbind f c' pm ctv u) hda hdl hcd
  · have I3 : Inv X pins σ H2 { s2 with heap := h1, toks := s2.toks } := I2.kept k1
    have fr : H2 h1.objs.size = none := I3.hok.fresh (Nat.le_refl _)
    have hsl : (idxBy ws).length ≤ sizeLine := by
      unfold idxBy
      rw [List.length_map, List.length_mergeSort, List.length_range]
      exact small6' (by omega)
    have hs3 := hs2.new (o := .lst (idxBy ws)) fr
    exact ⟨.ref h1.objs.size, _, I3.laid (o := .lst (idxBy ws)) (t' := tk) k2 (Nat.le_refl _) ⟨hsl, out, c1, vals_idx eo, hD⟩, rfl, q B2 ps2 _ _ eB hT2 hs3.drop2⟩
end
end L2.BP
namespace L2.BP
open PySem PySem.Spec PyProof.Rows
/-! ### a def whose code object is told -/
theorem FunD.okC {P : Program} {w : World} {K : PySem.W.Frag} {mg : Str → Option Value} {base : Heap} {x qual : Str} {params : Arguments} {body : List Stmt} {scope : Scope} {dvs : List V} {kws : List (Str × V)} {fd : FuncData} {CX : CXT} {N ps : List Str} {k : Nat} {sp : Sp} (p : He.Defn)
    (F : FunD K x qual params body scope dvs kws (He.fAd K p) fd) (S : FnScope N ps scope) (len : ∀ vs H Q E, sp vs H Q E → vs.length = ps.length)
    (hbody : ∀ (cdv : Value) (A : Around) (outer : List Env) (s : Shared) (H : Hp) (vs : List V) (Q : VK) (E : XK), cdv = .ref (He.cT K p).1 → Room k (A.deeper (envOfC qual scope s.heap.objs.size (He.fAd K p) cdv)) → sp vs H Q E →
      ∃ t, PSs (cxOf CX P w K mg base N qual scope (He.fAd K p) cdv A outer s H E) body t ∧ t { nx := fun _ H' => Q .non H', rt := Q } (start N vs) H) : FnOk P w K mg base CX (k + 1) (He.fAd K p) fd ps sp := by
  obtain ⟨oc, od, dV, kV, doc, pm, an, cdv, ct, osl, rfl, lk, hcd, _, _⟩ := F.ex
  obtain ⟨c, rfl⟩ := He.codeIn_ref hcd
  exact fn_of lk hcd S len fun A outer s H vs Q E hr hsp => hbody (.ref c) A outer s H vs Q E (congrArg Value.ref (He.codeOf_eq lk rfl).symm) hr hsp
/-- range(n) as a value -/
def rRng1 : List V → Hp → VK → Prop := fun vs H Q => ∃ i, vs = [V.int i] ∧ ∀ p, H p = none → Q (.ref p) (upd H p (.rng 0 i))
theorem cr_rng1 {X : Cx} : CallR X (.type "range") rRng1 := by
  intro pins s σ H vs us Q I r h
  obtain ⟨i, rfl, q⟩ := h
  obtain ⟨u, rfl, e⟩ := vals_one r
  obtain ⟨t, rfl⟩ := e
  refine call_range_1 ⟨.ref s.heap.objs.size, upd H s.heap.objs.size (.rng 0 i), I.laid (t' := s.toks + 1 + 1) (fun b o e => Heap.get?_push_of_some _ e) (Nat.le_refl _) ?_, rfl, q _ (I.hok.fresh (Nat.le_refl _))⟩
  exact ⟨_, _, _, Heap.get?_push_size _ rfl⟩
theorem bt_range : bootBuiltins "range" = some (.type "range") := by decide +kernel
section
variable {K : PySem.W.Frag} {H B : Hp} {L : Pic} {σ : St} {Q : VK}
theorem c_rngV {i : Int} (hs : Hs B L H) (k : ∀ p H', Hs B ((p, .rng 0 i) :: L) H' → Q (.ref p) H') : rRng1 [.int i] H Q := ⟨i, rfl, fun p hp => k p _ (hs.new hp)⟩
def SortO (K : PySem.W.Frag) (P : Addr) (q : Str) (i : Nat) (σ : St) (vs : List V) (H1 : Hp) (Q : VK) : Prop := ∃ (B : Hp) (L : Pic) (ps : Array Value) (rg l : Addr) (ws : List Int), vs = [.ref rg] ∧ Hs B ((P, .tbl ps) :: (rg, .rng 0 ((ws.length : Nat) : Int)) :: L) H1 ∧ TabC B ps q ∧ ws.length ≤ 100000 ∧
  σ[i]? = some (some (.ref l)) ∧ (∀ (B2 : Hp) (ps2 : Array Value) (H2 : Hp), Same B B2 → Hs B2 ((P, .tbl ps2) :: (rg, .rng 0 ((ws.length : Nat) : Int)) :: L) H2 → SqL K H2 l (ws.map V.int)) ∧
  ∀ (B2 : Hp) (ps2 : Array Value) (p : Addr) (H3 : Hp), Same B B2 → TabC B2 ps2 q → Hs B2 ((p, .lst (idxBy ws)) :: (P, .tbl ps2) :: L) H3 → Q (.ref p) H3
theorem c_sortL {P : Addr} {q : Str} {i : Nat} {ta : TA} (k : ta σ H fun vs H1 => SortO K P q i σ vs H1 Q) : tSortL K P q i ta σ H Q := k
end
end L2.BP
namespace L2.BP
open PySem PySem.Spec PyProof.Rows
/-! ### xs.insert(i, y), x in a list of data, comprehensions over two lists -/
def rInsert : V → List V → Hp → VK → Prop := fun x vs H Q => ∃ (l : Addr) (xs : List V) (i : Int) (y : V), x = .ref l ∧ vs = [.int i, y] ∧ H l = some (.lst xs) ∧ xs.length < sizeLine ∧ 0 ≤ i ∧ i < 2 ^ 63 ∧
    Q .non (upd H l (.lst (xs.take i.toNat ++ [y] ++ xs.drop i.toNat)))
section
variable {K : PySem.W.Frag} {H B : Hp} {L : Pic} {Q : VK} {a : Addr} {xs : List V} {y : V}
theorem c_insert0 {i : Nat} (hs : Hs B ((a, .lst xs) :: L) H) (hz : xs.length < sizeLine) (hi : i < 2 ^ 63) (k : ∀ H', Hs B ((a, .lst (xs.take i ++ [y] ++ xs.drop i)) :: L) H' → Q .non H') : rInsert (.ref a) [.int ((i : Nat) : Int), y] H Q :=
  ⟨a, xs, _, y, rfl, rfl, hs.get (.head _), hz, Int.natCast_nonneg _, by omega, by rw [Int.toNat_natCast]; exact k _ hs.u0⟩
theorem c_inD {b : Addr} {ys : List V} {d : PyData} {ds : List PyData} (h1 : Dp K H y d) (h2 : SqL K H b ys) (h3 : DpAll K H ys ds) (c1 : SeqAt.shaped d = true) (c2 : SeqAt.shaped (.list ds) = true) (k : Q (.bl (ds.any fun z => PyData.eqv z d)) H) : L2.rInD K y (.ref b) H Q :=
  ⟨d, ds, h1, .lst h2 h3, c1, c2, k⟩
end
section
variable {α β : Type} {K : PySem.W.Frag} {a b : Addr} {g : TG} {tt : TT} {te tl : TE} {σ : St} {H B : Hp} {L : Pic} {vs : List Nat}
/-- what a comprehension by places has so far -/
def LcI (I : Nat → List V → Hp → Prop) (B : Hp) (L : Pic) (D : Addr) (i : Nat) : Hp → Prop := fun H' => ∃ acc B', I i acc B' ∧ Same B B' ∧ Hs B' ((D, .lst acc) :: L) H'
theorem c_lcZ {P : Addr → Hp → Prop} (f : α → V) (f2 : β → V) (l : List α) (l2 : List β) (hl : l.length = l2.length) (I : Nat → List V → Hp → Prop) (hs : Hs B L H) (h0 : I 0 [] B) (hq : ∀ B' H', Same B B' → Hs B' L H' → SqL K H' a (l.map f) ∧ SqL K H' b (l2.map f2))
    (turn : ∀ i x y acc B' D T H', l[i]? = some x → l2[i]? = some y → I i acc B' → Same B B' → Hs B' ((T, .tup [f x, f2 y]) :: (D, .lst acc) :: L) H' → g (.ref T) (wipe σ vs) H' fun σ2 H2 => wipe σ2 vs = wipe σ vs ∧ tt σ2 H2 fun b H3 =>
      if b = true then te σ2 H3 fun y H4 => ∃ acc, H4 D = some (.lst acc) ∧ acc.length < sizeLine ∧ LcI I B L D (i + 1) (upd H4 D (.lst (acc ++ [y]))) else LcI I B L D (i + 1) H3)
    (fin : ∀ acc B' D H', I l.length acc B' → Same B B' → Hs B' ((D, .lst acc) :: L) H' → P D H') : LcO (Itz K a b) g tt te vs σ H P := by
  intro D hD
  refine ⟨fun i m H' => m = l.length - i ∧ i ≤ l.length ∧ LcI I B L D i H', ⟨l.length, by simp, Nat.zero_le _, [], B, h0, Same.refl B, hs.new hD⟩, ?_⟩
  rintro i m H' ⟨rfl, hi, acc, B', q, e, h⟩
  obtain ⟨z1, z2⟩ := hq B' H' e h.drop
  by_cases hlt : i < l.length
  · have hlt2 : i < l2.length := by omega
    refine .inr ⟨⟨l.map f, l2.map f2, f l[i], f2 l2[i], z1, z2, by simp [hlt], by simp [hlt2]⟩, LcI I B L D (i + 1), fun H2 p => ⟨_, by omega, rfl, hlt, p⟩, ?_⟩
    rintro v H2 ⟨T, x, y, rfl, hT, rfl, hx, hy⟩
    obtain ⟨x', e1, rfl⟩ := get_map (hx _ z1)
    obtain ⟨y', e2, rfl⟩ := get_map (hy _ z2)
    exact turn i x' y' acc B' D T _ e1 e2 q e (h.new hT)
  · have e' : i = l.length := by omega
    subst e'
    exact .inl ⟨⟨_, _, z1, z2, .inl (by simp)⟩, fin acc B' D H' q e h⟩
end
end L2.BP
namespace L2.BP
open PySem PySem.Spec PyProof.Rows
section
variable {K : PySem.W.Frag} {H B : Hp} {L : Pic} {Q : VK} {a : Addr}
theorem c_sortedI {ns : List Int} (hs : Hs B L H) (h : SqL K H a (ns.map V.int)) (k : ∀ (ms : List Int) p H', ms.Perm ns → ms.Pairwise (· ≤ ·) → Hs B ((p, .lst (ms.map V.int)) :: L) H' → Q (.ref p) H') : L2.rSortedI K [.ref a] H Q :=
  ⟨a, ns, rfl, h, fun ms p h1 h2 hp => k ms p _ h1 h2 (hs.new hp)⟩
theorem c_sortedRev {ns : List Int} (hs : Hs B L H) (h : SqL K H a (ns.map V.int)) (k : ∀ (ms : List Int) p H', ms.Perm ns → ms.Pairwise (fun x y => y ≤ x) → Hs B ((p, .lst (ms.map V.int)) :: L) H' → Q (.ref p) H') : L2.rSortedKw K true [.bl true] [.ref a] [.bl true] H Q :=
  ⟨a, ns, rfl, rfl, h, fun ms p h1 h2 hp => k ms p _ h1 h2 (hs.new hp)⟩
end
end L2.BP
namespace L2.BP
open PySem PySem.Spec PyProof.Rows
/-! ### dicts with tuples as keys -/
section
variable {K : PySem.W.Frag} {σ : St} {H B : Hp} {L : Pic} {Q : VK} {a b : Addr} {v : V} {kvs : List (List Key × V)} {ks : List Key}
theorem c_dnewT (hs : Hs B L H) (k : ∀ p H', Hs B ((p, .dT []) :: L) H' → Q (.ref p) H') : tDNewT σ H Q := fun p hp => k p _ (hs.new hp)
theorem c_dgO2 (h : H a = some (.dT kvs)) (hb : H b = some (.tup (ks.map kV))) (e : valV kvs ks = some v) (k : Q v H) : DgO (.ref a) (.ref b) H Q := ⟨a, v, rfl, by rw [← e]; exact DGet.t h hb, k⟩
def DiO (y x : V) (H : Hp) (Q : VK) : Prop := ∃ a o, x = .ref a ∧ DGet H a y o ∧ Q (.bl o.isSome) H
def DnO (y x : V) (H : Hp) (Q : VK) : Prop := ∃ a o, x = .ref a ∧ DGet H a y o ∧ Q (.bl (!o.isSome)) H
theorem c_din {ty td : TE} (k : ty σ H fun y H1 => td σ H1 fun x H2 => DiO y x H2 Q) : tDIn ty td σ H Q := k
theorem c_dnin {ty td : TE} (k : ty σ H fun y H1 => td σ H1 fun x H2 => DnO y x H2 Q) : tDNotIn ty td σ H Q := k
theorem c_diO (h : H a = some (.dT kvs)) (hb : H b = some (.tup (ks.map kV))) (k : Q (.bl (valV kvs ks).isSome) H) : DiO (.ref b) (.ref a) H Q := ⟨a, _, rfl, DGet.t h hb, k⟩
theorem c_dnO (h : H a = some (.dT kvs)) (hb : H b = some (.tup (ks.map kV))) (k : Q (.bl (!(valV kvs ks).isSome)) H) : DnO (.ref b) (.ref a) H Q := ⟨a, _, rfl, DGet.t h hb, k⟩
def SetD (o i v : V) (H : Hp) (P : Hp → Prop) : Prop := rSetD o i v H P
theorem g_subD {to_ ti_ : TE} {P : St → Hp → Prop} (k : to_ σ H fun o H1 => ti_ σ H1 fun i H2 => SetD o i v H2 (P σ)) : gSub to_ ti_ rSetD v σ H P := k
theorem w_setT {P : Hp → Prop} (hs : Hs B ((a, .dT kvs) :: L) H) (hb : H b = some (.tup (ks.map kV))) (hl : kvs.length < sizeLine) (k : ∀ H', Hs B ((a, .dT (putK kvs ks v)) :: L) H' → P H') : SetD (.ref a) (.ref b) v H P :=
  ⟨a, _, rfl, DPut.t (hs.get (.head _)) hb hl, k _ hs.u0⟩
end
end L2.BP
namespace L2.BP
open PySem PySem.Spec PyProof.Rows L2
/-! ### texts turned round, startswith, str of a number -/
def revS (x : Str) : Str := ⟨x.cps.reverse⟩
theorem rev_picked (x : Str) : ((Builtin.Str.strSliceIndices none none (-1) x.length).filterMap (x.cps[·]?)).toArray = x.cps.reverse := by
  have e : Builtin.Str.strSliceIndices none none (-1) x.length = (List.range x.length).map fun k => x.length - 1 - k := by
    exact PySem.W.krv_sliceRange x.length
  rw [e]
  obtain ⟨⟨l⟩⟩ := x
  show _ = (Array.mk l).reverse
  rw [List.filterMap_map]
  apply Array.ext'
  rw [Array.toList_reverse]
  show (List.range l.length).filterMap _ = l.reverse
  apply List.ext_getElem?
  have key : ∀ n, n ≤ l.length → (List.range n).filterMap ((fun i => (Array.mk l)[i]?) ∘ fun k => l.length - 1 - k) = l.reverse.take n := fun n => by
    induction n with
    | zero => intro _; simp
    | succ n ih =>
      intro hn
      rw [List.range_succ, List.filterMap_append, ih (by omega), List.take_add_one, List.getElem?_reverse (by omega)]
      congr 1
      simp [show l.length - 1 - n < l.length by omega]
  intro i
  show ((List.range l.length).filterMap ((fun i => (Array.mk l)[i]?) ∘ fun k => l.length - 1 - k))[i]? = l.reverse[i]?
  rw [key l.length (Nat.le_refl _), List.take_of_length_le (by simp)]
def tRevS (te : TE) : TE := fun σ H Q => te σ H fun x H1 => ∃ z : Str, x = .str z ∧ z.length ≤ sizeLine ∧ Q (.str (revS z)) H1
theorem pe_revS {X : Cx} {e : Expr} {te : TE} {k : Nat} {p1 p2 p3 pos : Pos} (he : PE X e te) : PE X (.Subscript e (.Slice none none (some (.UnaryOp .USub (.Constant (.int 1) k p1) p2)) p3) pos) (tRevS te) := by
  refine ⟨fun pins s σ H Q I h => ?_⟩
  refine Subscript_ (thn (he.run pins s σ H _ I h) fun v s1 ⟨x, H1, I1, r1, q1⟩ => ?_)
  obtain ⟨z, ex, hz, q⟩ := q1
  subst ex
  obtain ⟨t, rfl⟩ := r1
  have hst : PO X (some (.UnaryOp .USub (.Constant (.int 1) k p1) p2)) (tPart (tUn (rU fun i => .int (-i)) (tC (.int 1)))) := po_some (pe_un un_neg pe_int)
  refine wpAny_Slice (thn (po_none.run pins s1 σ H1 (fun o H2 => o = none ∧ H2 = H1) I1 ⟨rfl, rfl⟩) fun vl s2 ⟨l, H2, I2, pl, el, e2⟩ => ?_)
  subst el e2
  refine thn (po_none.run pins s2 σ H2 (fun o H3 => o = none ∧ H3 = H2) I2 ⟨rfl, rfl⟩) fun vu s3 ⟨u, H3, I3, pu, eu, e3⟩ => ?_
  subst eu e3
  refine thn (hst.run pins s3 σ H3 (fun o H4 => o = some (-1) ∧ H4 = H3) I3 ⟨1, rfl, -1, rfl, rfl, rfl⟩) fun vs s4 ⟨o, H4, I4, ps, eo, e4⟩ => ?_
  subst eo e4
  have I5 : Inv X pins σ H4 { s4 with heap := s4.heap.push { cls := .type "slice", data := .fields #[vl, vu, vs] } } := I4.kept (t' := s4.toks) fun b ob q => Heap.get?_push_of_some _ q
  obtain ⟨l, rfl, el⟩ := IsPart.raw pl
  obtain ⟨u, rfl, eu⟩ := IsPart.raw pu
  obtain ⟨w, rfl, ew⟩ := IsPart.raw ps
  show wpAny (model X.prog X.w) X.A (subscriptTail e (.Slice none none (some (.UnaryOp .USub (.Constant (.int 1) k p1) p2)) p3) (.str z t) (.ref s4.heap.objs.size)) (EP X pins σ Q) X.xe { s4 with heap := s4.heap.push { cls := .type "slice", data := .fields #[partValue l, partValue u, partValue w] } }
  refine tail_any (ops := [.str z t, .ref s4.heap.objs.size]) (typeIs_str _ _ _) F.slot_str_getitem.lookup ?_ (by with_unfolding_all rfl)
  refine wpAny_getItem_str_slice (l := l) (u := u) (st := w) ⟨_, Heap.get?_push_size _ rfl, rfl, rfl⟩ (by rw [ew]; rfl) ?_
  unfold sliceMade slicePicked
  rw [el, eu, ew]
  have c : ¬ (((Option.getD (some (-1 : Int)) 1 == 1) && (Builtin.Str.strSliceIndices none none ((some (-1 : Int)).getD 1) z.length).length == z.length) = true) := by simp
  rw [if_neg c]
  show Made.post (.str ⟨((Builtin.Str.strSliceIndices none none (-1) z.length).filterMap (z.cps[·]?)).toArray⟩) _ _
  rw [rev_picked]
  refine ⟨?_, .str _, H4, I5.tok _, ⟨_, rfl⟩, q⟩
  show (revS z).length ≤ sizeLine
  unfold revS Str.length
  rw [Array.size_reverse]
  exact hz
theorem c_revS {te : TE} {σ : St} {H : Hp} {Q : VK} (k : te σ H fun x H1 => ∃ z : Str, x = .str z ∧ z.length ≤ sizeLine ∧ Q (.str (revS z)) H1) : tRevS te σ H Q := k
def rStartsK : V → List V → Hp → VK → Prop := fun x xs H Q => ∃ a b, x = .str a ∧ xs = [.str b] ∧ Q (.bl (Txt.startswith a b)) H
theorem pe_starts {X : Cx} {o e : Expr} {to te : TE} {apos pos : Pos} (ho : PE X o to) (he : PE X e te) (hs : starEach [e] X.env = [(false, eval e X.env)] := by rfl) (hbase : attributeBase o "startswith" X.env (eval o X.env) = eval o X.env := by rfl) (hline : (apos.endLine == pos.line) = true := by rfl) :
    PE X (.Call (.Attribute o "startswith" apos) [e] [] pos) (tM1 rStartsK to te) := pe_m1 F.slot_str_startswith F.type_str_startswith mt_startswith ho he hs hbase hline
theorem c_starts {a b : Str} {H : Hp} {Q : VK} (k : Q (.bl (Txt.startswith a b)) H) : rStartsK (.str a) [.str b] H Q := ⟨a, b, rfl, rfl, k⟩
def rStrI : List V → Hp → VK → Prop := fun xs H Q => ∃ i : Int, xs = [.int i] ∧ i.natAbs.log2 < 1920 ∧ Q (.str (toString i)) H
theorem cr_strI {X : Cx} : CallR X (.type "str") rStrI := call_str_int
theorem c_strB {b : Nat} {H : Hp} {Q : VK} (hb : b < 2) (k : Q (.str (if b = 1 then "1" else "0")) H) : rStrI [.int ((b : Nat) : Int)] H Q := by
  rcases (by omega : b = 0 ∨ b = 1) with rfl | rfl
  · exact ⟨_, rfl, by decide +kernel, k⟩
  · exact ⟨_, rfl, by decide +kernel, k⟩
/-- x in a list of texts; where it stands -/
theorem c_inStr {K : PySem.W.Frag} {H : Hp} {Q : VK} {p : Addr} {w : Str} {ts : List Str} (h : SqL K H p (ts.map V.str)) (k : Q (.bl (decide (w ∈ ts))) H) : rInU K (.str w) (.ref p) H Q := by
  refine .inl ⟨p, _, rfl, .inl h, rfl, by rw [List.all_map]; simp [L2.flatV], ?_⟩
  have e : L2.inV (.str w) (ts.map V.str) = decide (w ∈ ts) := by
    unfold L2.inV
    rw [List.any_map]
    apply Bool.eq_iff_iff.mpr
    rw [List.any_eq_true, decide_eq_true_eq]
    constructor
    · rintro ⟨x, hx, e⟩
      have e : (x == w) = true := e
      rw [← eq_of_beq e]
      exact hx
    · exact fun hw => ⟨w, hw, beq_self_eq_true w⟩
  rw [e]
  exact k
theorem c_indexS {K : PySem.W.Frag} {H : Hp} {Q : VK} {p : Addr} {w : Str} {ts : List Str} {j : Nat} (h : SqL K H p (ts.map V.str)) (hj : ts[j]? = some w) (hno : ∀ m, m < j → ts[m]? ≠ some w) (k : Q (.int ((j : Nat) : Int)) H) : L2.rIndex K (.ref p) [.str w] H Q := by
  refine ⟨p, _, .str w, j, .str w, rfl, rfl, h, rfl, by rw [List.all_map]; simp [L2.flatV], by rw [List.getElem?_map, hj]; rfl, beq_self_eq_true w, fun m z hm hz => ?_, k⟩
  rw [List.getElem?_map] at hz
  cases e : ts[m]? with
  | none => rw [e] at hz; cases hz
  | some x =>
    rw [e] at hz
    cases hz
    show (x == w) = false
    rw [beq_eq_false_iff_ne]
    rintro rfl
    exact hno m hm e
end L2.BP
section
open L2.BP
/-! steps, as rows of the tactic that the library names walk_at -/
local macro_rules | `(tactic| walk_at "mem") => `(tactic| first | exact .head _ | exact .tail _ (.head _) | exact .tail _ (.tail _ (.head _)) | exact .tail _ (.tail _ (.tail _ (.head _))) | exact .tail _ (.tail _ (.tail _ (.tail _ (.head _)))) | exact .tail _ (.tail _ (.tail _ (.tail _ (.tail _ (.head _))))))
local macro_rules | `(tactic| walk_at "get") => `(tactic| first | assumption | ((with_reducible apply Hs.get); (· assumption); (· walk_at "mem")) | exact (Hs.ex (by assumption)) _ _ (by assumption))
local macro_rules | `(tactic| walk_at "sq") => `(tactic| first | assumption | ((with_reducible apply Hs.sql); (· assumption); (· walk_at "mem")) | ((with_reducible apply Hs.bl); (· assumption); (· assumption)) | ((with_reducible apply SqL.of); (walk_at "get")))
local macro_rules | `(tactic| walk_at "sqt") => `(tactic| first | assumption | ((with_reducible apply Hs.sqt); (· assumption); (· walk_at "mem")) | ((with_reducible apply Hs.bt); (· assumption); (· assumption)) | ((with_reducible apply SqT.of); (walk_at "get")))
local macro_rules | `(tactic| walk_at "bd") => `(tactic| first | decide | omega | assumption)
local macro_rules | `(tactic| walk_at "cmul") => `(tactic| first | exact .inr ⟨by decide, by decide⟩ | exact .inl ⟨by decide, by decide⟩ | exact .inl ⟨by omega, by omega⟩ | exact .inr ⟨by omega, by omega⟩ | assumption)
local macro_rules | `(tactic| walk_at "yes") => `(tactic| first | rfl | assumption | exact decide_eq_true (by first | assumption | omega) | (simp only [Bool.not_eq_true', decide_eq_true_eq, decide_eq_false_iff_not, Bool.and_eq_true, Bool.or_eq_true] <;> omega))
local macro_rules | `(tactic| walk_at "no") => `(tactic| first | rfl | assumption | exact decide_eq_false (by first | assumption | omega) | (simp only [Bool.not_eq_false', decide_eq_true_eq, decide_eq_false_iff_not, Bool.and_eq_false_iff, Bool.or_eq_false_iff] <;> omega))
local macro_rules | `(tactic| walk_at "look") => `(tactic| first | (with_reducible exact look0) | ((with_reducible apply lookS); (· (decide +kernel)); walk_at "look"))
local macro_rules | `(tactic| walk_at "lookn") => `(tactic| first | (with_reducible exact lookN) | ((with_reducible apply lookNS); (· (decide +kernel)); walk_at "lookn"))
local macro_rules | `(tactic| walk_at "put") => `(tactic| first | (with_reducible exact put0) | (with_reducible exact putN) | ((with_reducible apply putS); (· (decide +kernel)); walk_at "put"))
local macro_rules | `(tactic| walk_at "few") => `(tactic| (exact of_decide_eq_true rfl))
local macro_rules | `(tactic| walk_at "s") => `(tactic| first
  | ((with_reducible apply c_var); (· exact rfl))
  | (with_reducible apply c_c)
  | (with_reducible apply c_op)
  | (with_reducible apply w_seq)
  | (with_reducible apply w_asg)
  | (with_reducible apply w_name)
  | (with_reducible apply w_if)
  | (with_reducible apply c_test)
  | (with_reducible apply c_bl)
  | ((with_reducible apply i_t); (· walk_at "yes"))
  | ((with_reducible apply i_f); (· walk_at "no"))
  | (with_reducible apply c_cons)
  | (with_reducible apply c_nil)
  | (with_reducible apply c_cb)
  | (with_reducible apply c_cl)
  | (with_reducible apply w_ret)
  | (with_reducible apply w_drop)
  | (with_reducible apply w_break)
  | (with_reducible apply w_cont)
  | (with_reducible apply w_retN)
  | (with_reducible apply w_par)
  | (with_reducible apply c_parO)
  | (with_reducible apply c_rev)
  | (with_reducible apply g_sub)
  | (with_reducible apply g_attr)
  | (with_reducible apply c_orT)
  | (with_reducible apply c_lenset)
  | (with_reducible apply c_dget)
  | (with_reducible apply c_tpc)
  | (with_reducible apply c_tpn)
  | ((with_reducible apply c_disp); (· assumption); intro _ _ _)
  | (with_reducible apply w_next)
  | (with_reducible apply c_addI)
  | (with_reducible apply c_sub)
  | ((with_reducible apply c_mulI); (· walk_at "cmul"))
  | ((with_reducible apply c_mod); (· walk_at "bd"))
  | ((with_reducible apply c_div); (· exact ⟨by walk_at "bd", by walk_at "bd"⟩))
  | (with_reducible apply c_lt)
  | (with_reducible apply c_le)
  | (with_reducible apply c_gt)
  | (with_reducible apply c_ge)
  | (with_reducible apply c_eqI)
  | ((with_reducible apply c_eqL); (· walk_at "sq"); (· walk_at "sq"))
  | ((with_reducible apply c_neL); (· walk_at "sq"); (· walk_at "sq"))
  | (with_reducible apply c_neI)
  | (with_reducible apply c_eqB)
  | (with_reducible apply c_neB)
  | (with_reducible apply c_eqS)
  | (with_reducible apply c_neS)
  | (with_reducible apply c_isN)
  | (with_reducible apply c_notN)
  | (with_reducible apply c_isB)
  | (with_reducible apply c_notB)
  | (with_reducible apply c_un)
  | (with_reducible apply c_neg)
  | (with_reducible apply c_and)
  | (with_reducible apply c_or)
  | (with_reducible apply c_xor)
  | ((with_reducible apply c_shr); (· walk_at "bd"))
  | ((with_reducible apply c_shl); (· exact ⟨by walk_at "bd", by walk_at "bd", by walk_at "bd"⟩))
  | (with_reducible apply c_B)
  | (with_reducible apply c_tand)
  | (with_reducible apply c_tor)
  | (with_reducible apply c_tnot)
  | (with_reducible apply c_andV)
  | (with_reducible apply c_orV)
  | (with_reducible apply c_notV)
  | (with_reducible apply c_chain)
  | (with_reducible apply c_if)
  | (with_reducible apply c_isi_ii)
  | (with_reducible apply c_isi_ib)
  | ((with_reducible apply c_lenL); (· walk_at "sq"))
  | ((with_reducible apply c_lenT); (· walk_at "sqt"))
  | (with_reducible apply c_isiS)
  | ((with_reducible apply c_ixL); (· (walk_at "sq")); (· first | exact rfl | assumption))
  | ((with_reducible apply c_ixT); (· (walk_at "sqt")); (· first | exact rfl | assumption))
  | (with_reducible apply c_tup)
  | (with_reducible apply c_lst)
  | ((with_reducible apply c_tupO); (· assumption); (· exact small5' (of_decide_eq_true rfl)); intro _ _ _)
  | ((with_reducible apply c_lstO); (· assumption); (· exact small5' (of_decide_eq_true rfl)); intro _ _ _)
  | ((with_reducible apply w_aug); (· exact rfl))
  | (with_reducible apply w_augS)
  | (with_reducible apply c_ckw)
  | (with_reducible apply c_ipAddI)
  | (with_reducible apply c_ipSub)
  | (with_reducible apply c_intI)
  | (with_reducible apply c_intB)
  | (with_reducible apply c_max2)
  | (with_reducible apply c_mt)
  | ((with_reducible apply c_recv); (· (walk_at "get")); (· (walk_at "lookn")))
  | (with_reducible apply c_tfld)
  | ((with_reducible apply c_fld); (· (walk_at "get")); (· assumption); (· assumption); (· (walk_at "look")))
  | (with_reducible apply w_sfld)
  | (with_reducible apply w_sfldAug)
  | ((with_reducible apply c_fldA); (· (walk_at "get")); (· assumption); (· assumption); (· (walk_at "look")))
  | (with_reducible apply c_radd)
  | (with_reducible apply c_rsub)
  | ((with_reducible apply w_put0); (· assumption); (· assumption); (· assumption); (· (walk_at "few")); (· (walk_at "put")); intro _ _)
  | ((with_reducible apply w_put1); (· assumption); (· assumption); (· assumption); (· (walk_at "few")); (· (walk_at "put")); intro _ _)
  | ((with_reducible apply w_put2); (· assumption); (· assumption); (· assumption); (· (walk_at "few")); (· (walk_at "put")); intro _ _)
  | ((with_reducible apply w_aput0); (· assumption); (· (walk_at "few")); (· (walk_at "put")); intro _ _)
  | ((with_reducible apply w_aput1); (· assumption); (· (walk_at "few")); (· (walk_at "put")); intro _ _)
  | ((with_reducible apply w_aput2); (· assumption); (· (walk_at "few")); (· (walk_at "put")); intro _ _)
  | (with_reducible apply c_bm)
  | (with_reducible apply c_bm0)
  | ((with_reducible apply c_tyL); (· (walk_at "sq")))
  | (with_reducible apply c_sl)
  | (with_reducible apply c_part)
  | (with_reducible apply c_nopart)
  | (with_reducible apply c_i)
  | (with_reducible apply c_lc)
  | (with_reducible apply w_for)
  | (with_reducible apply c_iL)
  | (with_reducible apply c_iT)
  | (with_reducible apply c_iR1)
  | (with_reducible apply c_iR3)
  | (with_reducible apply c_iS)
  | (with_reducible apply c_ssO)
  | (with_reducible apply c_made)
  | ((with_reducible apply c_madeO); (· assumption); intro _ _ _ _)
  | (with_reducible apply c_iR2)
  | (with_reducible apply c_yes)
  | (with_reducible apply g_cons)
  | (with_reducible apply g_nil)
  | ((with_reducible apply g_tup); (· (walk_at "sqt")); (· exact rfl))
  | (with_reducible apply c_mk)
  | ((with_reducible apply c_mkO); (· assumption); intro _ _ _ _)
  | (with_reducible apply c_iE)
  | (with_reducible apply c_iZ)
  | ((with_reducible apply c_iE1); (· walk_at "sq"))
  | ((with_reducible apply c_slL); (· assumption); (· walk_at "sq"); intro _ _ _)
  | ((with_reducible apply c_listL); (· assumption); (· walk_at "sq"); intro _ _ _)
  | (with_reducible apply c_din)
  | (with_reducible apply c_dnin)
  | (with_reducible apply g_subD)
  | (with_reducible apply c_min2))
local macro_rules | `(tactic| walk_at "go") => `(tactic| repeat walk_at "s")
local macro_rules | `(tactic| walk_at "deep") => `(tactic| repeat (first | exact List.Mem.head _ | apply List.Mem.tail))
namespace L2.BR
open PySem PySem.Spec PyProof.Rows L2.BP
variable {K : PySem.W.Frag} {W : WX} {vs : List V} {H : Hp} {Q : VK} {E : XK}
def sp_is_byte (K : PySem.W.Frag) : Sp := fun vs H Q _ => ∃ (v : V) (g : Tg), vs = [v] ∧ Th K H v g ∧ Q (.bl (Tg.isByte g)) H
theorem len_is_byte (h : sp_is_byte K vs H Q E) : vs.length = 1 := by
  obtain ⟨v, g, rfl, _⟩ := h
  rfl
def t_is_byte (K : PySem.W.Frag) (W : WX) : TS :=
  (tRet ((tAndV (tCB (rIsi K) (tCons (tVar 0) (tCons (tC (.ty "int")) tNil))) (tAndV (tNotV (tCB (rIsi K) (tCons (tVar 0) (tCons (tC (.ty "bool")) tNil)))) (tChain rLeU rLeU (tC (.int 0)) (tVar 0) (tC (.int 255)))))))
theorem rd_is_byte (h : sp_is_byte K vs H Q E) : t_is_byte K W { nx := fun _ H' => Q .non H', rt := Q } (start ["thing"] vs) H := by
  obtain ⟨v, g, rfl, hT, q⟩ := h
  have hs := Hs.start H
  unfold t_is_byte
  cases hT with
  | int i =>
    have q : Q (.bl (decide (0 ≤ i) && decide (i ≤ 255))) H := q
    walk_at "go"
    cases e : decide ((0 : Int) ≤ i) with
    | false =>
      rw [e] at q
      walk_at "go"
      exact q
    | true =>
      rw [e] at q
      walk_at "go"
      exact q
  | bl b =>
    walk_at "go"
    refine c_isiInt (.bl b) ?_
    walk_at "go"
    refine c_isiBool (.bl b) ?_
    walk_at "go"
    exact q
  | non => walk_at "go"; refine c_isiInt .non ?_; walk_at "go"; exact q
  | str x => walk_at "go"; refine c_isiInt (.str x) ?_; walk_at "go"; exact q
  | lst z => walk_at "go"; refine c_isiInt (.lst z) ?_; walk_at "go"; exact q
  | tup z => walk_at "go"; refine c_isiInt (.tup z) ?_; walk_at "go"; exact q
  | dic z => walk_at "go"; refine c_isiInt (.dic z) ?_; walk_at "go"; exact q
def sp_is_row (K : PySem.W.Frag) : Sp := fun vs H Q _ => ∃ (v : V) (g : Tg), vs = [v] ∧ Th K H v g ∧ Tg.ok K H g ∧ RetV H Q (.bl (Tg.isRow g))
theorem len_is_row (h : sp_is_row K vs H Q E) : vs.length = 1 := by
  obtain ⟨v, g, rfl, _⟩ := h
  rfl
def t_is_row (K : PySem.W.Frag) (W : WX) : TS :=
  (tRet ((tAndV (tCB (rIsi K) (tCons (tVar 0) (tCons (tC (.ty "list")) tNil))) (tCB (rAll K) (tCons (tLc (iList K (tVar 0)) (gName 1) tYes (tCl (sp_is_byte K) [] WF (tCons (tVar 1) tNil)) [1]) tNil)))))
theorem rd_is_row (h : sp_is_row K vs H Q E) : t_is_row K W { nx := fun _ H' => Q .non H', rt := Q } (start ["thing", "number"] vs) H := by
  obtain ⟨v, g, rfl, hT, hok, q⟩ := h
  have hs := Hs.start H
  unfold t_is_row
  cases hT with
  | @lst a xs z =>
    walk_at "go"
    refine c_isiList (.lst z) ?_
    walk_at "go"
    refine c_lcL (f := id) xs (fun pre acc B => acc = (pre.map byteV).map V.bl) hs rfl (fun B' H' e h => by rw [List.map_id]; exact (e.trans h.ex).seq z) ?_ ?_
    · intro pre x post acc B' D H' e i eB h
      obtain ⟨g, hg⟩ := hok.1 x (by rw [e]; simp)
      walk_at "go"
      refine ⟨rfl, ?_⟩
      walk_at "go"
      refine ⟨x, g, rfl, hg.same (eB.trans h.ex), ?_⟩
      subst i
      refine c_item h (small5 ?_) eB ?_
      · have := congrArg List.length e
        have := hok.2
        simp at *
        omega
      · rw [byteV_of hg]
        simp
    · intro acc B' D H' i eB h
      subst i
      walk_at "go"
      refine c_all (h.sql (.head _)) ?_
      have e : ((xs.map byteV).all id) = xs.all byteV := by simp
      rw [e]
      exact q _ (eB.trans h.ex)
  | non => walk_at "go"; refine c_isiList .non ?_; walk_at "go"; exact q _ hs.ex
  | bl b => walk_at "go"; refine c_isiList (.bl b) ?_; walk_at "go"; exact q _ hs.ex
  | int i => walk_at "go"; refine c_isiList (.int i) ?_; walk_at "go"; exact q _ hs.ex
  | str x => walk_at "go"; refine c_isiList (.str x) ?_; walk_at "go"; exact q _ hs.ex
  | tup z => walk_at "go"; refine c_isiList (.tup z) ?_; walk_at "go"; exact q _ hs.ex
  | dic z => walk_at "go"; refine c_isiList (.dic z) ?_; walk_at "go"; exact q _ hs.ex
def sp_need_row (K : PySem.W.Frag) : Sp := fun vs H Q E => ∃ (v : V) (g : Tg), vs = [v] ∧ Th K H v g ∧ Tg.ok K H g ∧
  (∀ xs, g = .lst xs → Tg.isRow g = true → RetL H Q xs) ∧ (Tg.isRow g = false → ∀ H', Same H H' → E (.ref (He.ga K "BadRow")) none H')
theorem len_need_row (h : sp_need_row K vs H Q E) : vs.length = 1 := by
  obtain ⟨v, g, rfl, _⟩ := h
  rfl
def t_need_row (K : PySem.W.Frag) (W : WX) : TS :=
  (tSeq (tIfS (tNot (tB (tCl (sp_is_row K) [] W (tCons (tVar 0) tNil)))) (tRz (He.ga K "BadRow") W) tNext)
    (tRet (tCB (rListK K) (tCons (tVar 0) tNil))))
theorem rd_need_row (h : sp_need_row K vs H Q E) : t_need_row K (fun c d _ H2 => E c d H2) { nx := fun _ H' => Q .non H', rt := Q } (start ["thing"] vs) H := by
  obtain ⟨v, g, rfl, hT, hok, q, qe⟩ := h
  have hs := Hs.start H
  unfold t_need_row
  walk_at "go"
  refine ⟨v, g, rfl, hT, hok, retV hs fun H1 h1 => ?_⟩
  walk_at "go"
  cases e : Tg.isRow g with
  | false =>
    walk_at "go"
    exact qe e _ h1.ex
  | true =>
    cases hT with
    | @lst a xs z =>
      walk_at "go"
      rename_i p H2 h2
      exact h2.rl (.head _) (q xs rfl e)
    | _ => cases e
end L2.BR

namespace L2.BR
open PySem PySem.Spec PyProof.Rows L2.BP
variable {K : PySem.W.Frag}
/-! ### the script's cells -/
def cellAt (ns : List Int) (k : Int) : Int := if k < ns.length then ns.getD k.toNat 0 else 0
def sp__law_cell_at (K : PySem.W.Frag) : Sp := fun vs H Q _ => ∃ (a : Addr) (ns : List Int) (k : Int), vs = [.ref a, .int k] ∧ SqL K H a (ns.map V.int) ∧ 0 ≤ k ∧ Q (.int (cellAt ns k)) H
theorem len__law_cell_at {vs : List V} {H : Hp} {Q : VK} {E : XK} (h : sp__law_cell_at K vs H Q E) : vs.length = 2 := by
  obtain ⟨a, ns, k, rfl, _⟩ := h
  rfl
theorem at_ints {ns : List Int} {k : Int} (h0 : 0 ≤ k) (h : k < ns.length) : atI (ns.map V.int) k = some (.int (ns.getD k.toNat 0)) := by
  obtain ⟨n, rfl⟩ := Int.eq_ofNat_of_zero_le h0
  have hn : n < ns.length := by omega
  rw [atI_nat (v := .int (ns.getD n 0))]
  · rfl
  · rw [List.getElem?_map, List.getElem?_eq_getElem hn, List.getD_eq_getElem?_getD, List.getElem?_eq_getElem hn]
    rfl
def t__law_cell_at (K : PySem.W.Frag) (W : WX) : TS :=
  (tSeq (tIfS (tTest (tOp rLtU (tVar 1) (tCB (rLenK K) (tCons (tVar 0) tNil)))) (tRet (tOp (rIx K) (tVar 0) (tVar 1))) tNext)
    (tRet (tC (.int 0))))
theorem rd__law_cell_at {W : WX} {vs : List V} {H : Hp} {Q : VK} {E : XK} (h : sp__law_cell_at K vs H Q E) : t__law_cell_at K W { nx := fun _ H' => Q .non H', rt := Q } (start ["_law_script", "_law_k"] vs) H := by
  obtain ⟨a, ns, k, rfl, hS, h0, q⟩ := h
  have hs := Hs.start H
  unfold t__law_cell_at
  walk_at "go"
  refine i_2 (fun c => ?_) (fun c => ?_)
  · have c := of_decide_eq_true c
    rw [List.length_map] at c
    walk_at "go"
    refine c_ixL (by walk_at "sq") (at_ints h0 c) ?_
    rw [show cellAt ns k = ns.getD k.toNat 0 from if_pos c] at q
    exact q
  · have c := of_decide_eq_false c
    rw [List.length_map] at c
    walk_at "go"
    rw [show cellAt ns k = 0 from if_neg c] at q
    exact q
end L2.BR

namespace L2.BR
open PySem PySem.Spec PyProof.Rows L2.BP
/-! ### texts of noughts and ones -/
def numOf : List Bool → Nat
  | [] => 0
  | b :: r => b.toNat * 2 ^ r.length + numOf r
def bitsOf (n : Nat) : Nat → List Bool
  | 0 => []
  | s + 1 => (n / 2 ^ s % 2 == 1) :: bitsOf n s
theorem bitsOf_length (n : Nat) : ∀ s, (bitsOf n s).length = s
  | 0 => rfl
  | s + 1 => congrArg (· + 1) (bitsOf_length n s)
theorem numOf_lt : ∀ b : List Bool, numOf b < 2 ^ b.length
  | [] => by decide
  | x :: r => by
    have h := numOf_lt r
    have e : (2 : Nat) ^ (x :: r).length = 2 ^ r.length + 2 ^ r.length := by rw [List.length_cons, Nat.pow_succ]; omega
    rw [e]
    unfold numOf
    cases x
    · simp; omega
    · simp; omega
theorem numOf_append : ∀ a b : List Bool, numOf (a ++ b) = numOf a * 2 ^ b.length + numOf b
  | [], b => by simp [numOf]
  | x :: r, b => by
    show x.toNat * 2 ^ (r ++ b).length + numOf (r ++ b) = (x.toNat * 2 ^ r.length + numOf r) * 2 ^ b.length + numOf b
    rw [numOf_append r b, List.length_append, Nat.pow_add, Nat.add_mul, Nat.mul_assoc, Nat.add_assoc]
theorem numOf_bitsOf (n : Nat) : ∀ s, numOf (bitsOf n s) = n % 2 ^ s
  | 0 => by simp [numOf, bitsOf, Nat.mod_one]
  | s + 1 => by
    show (n / 2 ^ s % 2 == 1).toNat * 2 ^ (bitsOf n s).length + numOf (bitsOf n s) = _
    rw [bitsOf_length, numOf_bitsOf n s, Nat.pow_succ, Nat.mod_mul]
    have h : (n / 2 ^ s % 2 == 1).toNat = n / 2 ^ s % 2 := by
      rcases Nat.mod_two_eq_zero_or_one (n / 2 ^ s) with h | h <;> rw [h] <;> rfl
    rw [h, Nat.mul_comm, Nat.add_comm]
theorem numOf_small {n s : Nat} (h : n < 2 ^ s) : numOf (bitsOf n s) = n := by rw [numOf_bitsOf, Nat.mod_eq_of_lt h]
theorem numOf_inj : ∀ a b : List Bool, a.length = b.length → numOf a = numOf b → a = b
  | [], [], _, _ => rfl
  | [], _ :: _, h, _ => by cases h
  | _ :: _, [], h, _ => by cases h
  | x :: r, y :: t, h, e => by
    have hl : r.length = t.length := Nat.succ.inj h
    have e : x.toNat * 2 ^ r.length + numOf r = y.toNat * 2 ^ t.length + numOf t := e
    have h1 := numOf_lt r
    have h2 := numOf_lt t
    rw [← hl] at e h2
    cases x <;> cases y <;> simp at e ⊢
    · exact numOf_inj r t hl e
    · omega
    · omega
    · exact numOf_inj r t hl e
theorem bitsOf_numOf (b : List Bool) : bitsOf (numOf b) b.length = b := by
  refine numOf_inj _ _ (bitsOf_length _ _) ?_
  rw [numOf_small (numOf_lt b)]
theorem numOf_take_div (b : List Bool) (k : Nat) : numOf b / 2 ^ (b.length - k) = numOf (b.take k) := by
  have e := numOf_append (b.take k) (b.drop k)
  rw [List.take_append_drop] at e
  have h := numOf_lt (b.drop k)
  rw [List.length_drop] at e h
  rw [e, Nat.mul_comm, Nat.mul_add_div (Nat.two_pow_pos _), Nat.div_eq_of_lt h, Nat.add_zero]
theorem numOf_drop_mod (b : List Bool) (k : Nat) : numOf b % 2 ^ (b.length - k) = numOf (b.drop k) := by
  have e := numOf_append (b.take k) (b.drop k)
  rw [List.take_append_drop] at e
  have h := numOf_lt (b.drop k)
  rw [List.length_drop] at e h
  rw [e, Nat.mul_comm, Nat.mul_add_mod, Nat.mod_eq_of_lt h]
theorem numOf_noughts (k : Nat) : numOf (List.replicate k false) = 0 := by
  induction k with
  | zero => rfl
  | succ k ih => rw [List.replicate_succ]; unfold numOf; rw [ih]; simp
/-! the bytes that stand whole in a text, the text filled by noughts -/
def byteAt (b : List Bool) (i : Nat) : Nat := numOf ((b.drop (8 * i)).take 8)
def wholeTo (b : List Bool) (n : Nat) : List Int := (List.range n).map fun i => ((byteAt b i : Nat) : Int)
def pad8 (b : List Bool) : List Bool := b ++ List.replicate ((8 - b.length % 8) % 8) false
def rowOf (b : List Bool) : List Int := wholeTo (pad8 b) ((b.length + 7) / 8)
theorem wholeTo_length (b : List Bool) (n : Nat) : (wholeTo b n).length = n := by unfold wholeTo; simp
theorem wholeTo_succ (b : List Bool) (n : Nat) : wholeTo b (n + 1) = wholeTo b n ++ [((byteAt b n : Nat) : Int)] := by unfold wholeTo; rw [List.range_succ, List.map_append]; rfl
theorem byteAt_append {b c : List Bool} {i : Nat} (h : 8 * i + 8 ≤ b.length) : byteAt (b ++ c) i = byteAt b i := by
  unfold byteAt
  rw [List.drop_append_of_le_length (by omega), List.take_append_of_le_length (by rw [List.length_drop]; omega)]
theorem wholeTo_append {b c : List Bool} {n : Nat} (h : 8 * n ≤ b.length) : wholeTo (b ++ c) n = wholeTo b n := by
  unfold wholeTo
  refine List.map_congr_left fun i hi => ?_
  have := List.mem_range.mp hi
  rw [byteAt_append (by omega)]
theorem byteAt_lt (b : List Bool) (i : Nat) : byteAt b i < 256 := by
  have h := numOf_lt ((b.drop (8 * i)).take 8)
  have e : ((b.drop (8 * i)).take 8).length ≤ 8 := by rw [List.length_take]; omega
  exact Nat.lt_of_lt_of_le h (Nat.pow_le_pow_right (by decide) e)
theorem pad8_length (b : List Bool) : (pad8 b).length = 8 * ((b.length + 7) / 8) := by unfold pad8; rw [List.length_append, List.length_replicate]; omega
theorem rowOf_length (b : List Bool) : (rowOf b).length = (b.length + 7) / 8 := wholeTo_length _ _
theorem rowOf_bytes (b : List Bool) : ∀ n ∈ rowOf b, 0 ≤ n ∧ n ≤ 255 := by
  intro n hn
  unfold rowOf wholeTo at hn
  obtain ⟨i, _, rfl⟩ := List.mem_map.mp hn
  have := byteAt_lt (pad8 b) i
  omega
/-- the bits of a row -/
def bitsRow (ns : List Int) : List Bool := ns.flatMap fun n => bitsOf n.toNat 8
theorem bitsRow_length (ns : List Int) : (bitsRow ns).length = 8 * ns.length := by
  induction ns with
  | nil => rfl
  | cons n r ih =>
    unfold bitsRow at ih ⊢
    rw [List.flatMap_cons, List.length_append, ih, bitsOf_length, List.length_cons]
    omega
theorem bitsRow_wholeTo (b : List Bool) : ∀ n, 8 * n ≤ b.length → bitsRow (wholeTo b n) = b.take (8 * n)
  | 0, _ => by simp [wholeTo, bitsRow]
  | n + 1, h => by
    have ih := bitsRow_wholeTo b n (by omega)
    rw [wholeTo_succ]
    unfold bitsRow at ih ⊢
    rw [List.flatMap_append, ih]
    have e : bitsOf (byteAt b n) 8 = (b.drop (8 * n)).take 8 := by
      have l : ((b.drop (8 * n)).take 8).length = 8 := by rw [List.length_take, List.length_drop]; omega
      have z := bitsOf_numOf ((b.drop (8 * n)).take 8)
      rw [l] at z
      exact z
    show b.take (8 * n) ++ (bitsOf ((byteAt b n : Nat) : Int).toNat 8 ++ []) = _
    rw [Int.toNat_natCast, e, List.append_nil]
    rw [show 8 * (n + 1) = 8 * n + 8 by omega, List.take_add]
theorem bitsRow_rowOf (b : List Bool) : bitsRow (rowOf b) = pad8 b := by
  unfold rowOf
  rw [bitsRow_wholeTo _ _ (by rw [pad8_length]; exact Nat.le_refl _)]
  exact List.take_of_length_le (by rw [pad8_length]; exact Nat.le_refl _)
theorem bitsRow_snoc (ns : List Int) (n : Int) : bitsRow (ns ++ [n]) = bitsRow ns ++ bitsOf n.toNat 8 := by
  unfold bitsRow
  rw [List.flatMap_append, List.flatMap_cons, List.flatMap_nil, List.append_nil]
end L2.BR

namespace L2.BR
open PySem PySem.Spec PyProof.Rows L2.BP
variable {K : PySem.W.Frag} {W : WX} {vs : List V} {H : Hp} {Q : VK} {E : XK}
/-! ### rows of bits, readers -/
structure KBitReader (K : PySem.W.Frag) : Prop where
  c : Cls K (He.ga K "BitReader")
  n1 : NoAttr K (He.ga K "BitReader") "source"
  n2 : NoAttr K (He.ga K "BitReader") "taken"
def Tg.isNum : Tg → Bool
  | .int _ => true
  | _ => false
def sp_is_number (K : PySem.W.Frag) : Sp := fun vs H Q _ => ∃ (v : V) (g : Tg), vs = [v] ∧ Th K H v g ∧ Q (.bl (Tg.isNum g)) H
theorem len_is_number (h : sp_is_number K vs H Q E) : vs.length = 1 := by
  obtain ⟨v, g, rfl, _⟩ := h
  rfl
def t_is_number (K : PySem.W.Frag) (W : WX) : TS :=
  (tRet ((tAndV (tCB (rIsi K) (tCons (tVar 0) (tCons (tC (.ty "int")) tNil))) (tNotV (tCB (rIsi K) (tCons (tVar 0) (tCons (tC (.ty "bool")) tNil)))))))
theorem rd_is_number (h : sp_is_number K vs H Q E) : t_is_number K W { nx := fun _ H' => Q .non H', rt := Q } (start ["thing"] vs) H := by
  obtain ⟨v, g, rfl, hT, q⟩ := h
  have hs := Hs.start H
  unfold t_is_number
  walk_at "go"
  refine c_isiInt hT ?_
  cases g with
  | int i => walk_at "go"; refine c_isiBool hT ?_; walk_at "go"; exact q
  | bl b => walk_at "go"; refine c_isiBool hT ?_; walk_at "go"; exact q
  | _ => walk_at "go"; exact q
def sizeOk : Tg → Bool
  | .int i => decide (0 ≤ i) && decide (i ≤ 24)
  | _ => false
def sp_need_size (K : PySem.W.Frag) : Sp := fun vs H Q E => ∃ (v : V) (g : Tg), vs = [v] ∧ Th K H v g ∧ (sizeOk g = true → Q .non H) ∧ (sizeOk g = false → E (.ref (He.ga K "BadBits")) none H)
theorem len_need_size (h : sp_need_size K vs H Q E) : vs.length = 1 := by
  obtain ⟨v, g, rfl, _⟩ := h
  rfl
def t_need_size (K : PySem.W.Frag) (W : WX) : TS :=
  (tIfS ((tOr (tNot (tB (tCl (sp_is_number K) [] W (tCons (tVar 0) tNil)))) (tNot (tTest (tChain rLeU rLeU (tC (.int 0)) (tVar 0) (tC (.int 24))))))) (tRz (He.ga K "BadBits") W) tNext)
theorem rd_need_size (h : sp_need_size K vs H Q E) : t_need_size K (fun c d _ H2 => E c d H2) { nx := fun _ H' => Q .non H', rt := Q } (start ["size"] vs) H := by
  obtain ⟨v, g, rfl, hT, q, qe⟩ := h
  have hs := Hs.start H
  unfold t_need_size
  walk_at "go"
  refine ⟨v, g, rfl, hT, ?_⟩
  cases hT with
  | int i =>
    simp only [sizeOk] at q qe
    walk_at "go"
    cases e : decide ((0 : Int) ≤ i) with
    | false =>
      rw [e] at qe
      walk_at "go"
      exact qe rfl
    | true =>
      rw [e] at q qe
      walk_at "go"
      cases e2 : decide (i ≤ (24 : Int)) with
      | false =>
        rw [e2] at qe
        walk_at "go"
        exact qe rfl
      | true =>
        rw [e2] at q
        walk_at "go"
        exact q rfl
  | non => walk_at "go"; exact qe rfl
  | bl b => walk_at "go"; exact qe rfl
  | str x => walk_at "go"; exact qe rfl
  | lst z => walk_at "go"; exact qe rfl
  | tup z => walk_at "go"; exact qe rfl
  | dic z => walk_at "go"; exact qe rfl
theorem shr_nat (a k : Nat) : ((a : Nat) : Int) / 2 ^ k = ((a / 2 ^ k : Nat) : Int) := by push_cast; rfl
theorem two_cast (k : Nat) : (2 : Int) ^ k = ((2 ^ k : Nat) : Int) := by push_cast; rfl
theorem mask_nat (a k : Nat) : Builtin.bitAnd ((a : Nat) : Int) (1 * 2 ^ k - 1) = ((a % 2 ^ k : Nat) : Int) := by
  rw [Int.one_mul, Bits.bitAnd_mask k (Int.natCast_nonneg a)]
  push_cast
  rfl
theorem join_nat {a b k : Nat} (h : b < 2 ^ k) : Builtin.bitOr (((a : Nat) : Int) * 2 ^ k) ((b : Nat) : Int) = ((a * 2 ^ k + b : Nat) : Int) := by
  have h2 : ((b : Nat) : Int) < 2 ^ k := by rw [two_cast]; exact Int.ofNat_lt.mpr h
  rw [Bits.bitOr_join' (Int.natCast_nonneg b) h2 (Int.natCast_nonneg a)]
  push_cast
  rw [Int.add_comm]
/-! a reader as it stands -/
abbrev rdO (K : PySem.W.Frag) (dx s : Addr) (t : Nat) : HO := .ins (He.ga K "BitReader") dx [("source", .ref s), ("taken", .int ((t : Nat) : Int))]
end L2.BR

namespace L2.BR
open PySem PySem.Spec PyProof.Rows L2.BP
variable {K : PySem.W.Frag} {W : WX} {vs : List V} {H : Hp} {Q : VK} {E : XK}
/-! ### rows of bits, readers -/
structure KBitRow (K : PySem.W.Frag) : Prop where
  c : Cls K (He.ga K "BitRow")
  n1 : NoAttr K (He.ga K "BitRow") "full"
  n2 : NoAttr K (He.ga K "BitRow") "part"
  n3 : NoAttr K (He.ga K "BitRow") "filled"
/-! a row of bits as it stands -/
abbrev brO (K : PySem.W.Frag) (dx f : Addr) (b : List Bool) : HO := .ins (He.ga K "BitRow") dx [("full", .ref f), ("part", .int ((numOf (b.drop (8 * (b.length / 8))) : Nat) : Int)), ("filled", .int ((b.length % 8 : Nat) : Int))]
abbrev brL (b : List Bool) : HO := .lst ((wholeTo b (b.length / 8)).map V.int)
def sp_BitRow___init__ (K : PySem.W.Frag) : Sp := fun vs H Q _ => ∃ (B : Hp) (L : Pic) (x dx : Addr), vs = [.ref x] ∧ Hs B ((x, .ins (He.ga K "BitRow") dx []) :: L) H ∧
  ∀ f H', Hs B ((x, brO K dx f []) :: (f, brL []) :: L) H' → Q .non H'
theorem len_BitRow___init__ (h : sp_BitRow___init__ K vs H Q E) : vs.length = 1 := by
  obtain ⟨B, L, x, dx, rfl, _⟩ := h
  rfl
def t_BitRow___init__ (K : PySem.W.Frag) (W : WX) : TS :=
  (tSeq (sFld K (tVar 0) (tLst tNil) "full")
    (tSeq (sFld K (tVar 0) (tC (.int 0)) "part")
    (sFld K (tVar 0) (tC (.int 0)) "filled")))
theorem rd_BitRow___init__ (kBitRow : KBitRow K) (h : sp_BitRow___init__ K vs H Q E) : t_BitRow___init__ K W { nx := fun _ H' => Q .non H', rt := Q } (start ["self"] vs) H := by
  obtain ⟨B, L, x, dx, rfl, hs, q⟩ := h
  obtain ⟨hc, n1, n2, n3⟩ := kBitRow
  unfold t_BitRow___init__
  walk_at "go"
  rename_i f H1 h1 H2 h2 H3 h3 H4 h4
  exact q f H4 h4.swap
/-- what may be put -/
def putOk : Tg → Tg → Bool
  | .int n, .int s => decide (0 ≤ n) && decide (n < 2 ^ s.toNat)
  | _, _ => false
def sp_BitRow_put (K : PySem.W.Frag) : Sp := fun vs H Q E => ∃ (B : Hp) (L : Pic) (x dx f : Addr) (b : List Bool) (v w : V) (g k : Tg), vs = [.ref x, v, w] ∧ Th K H v g ∧ Th K H w k ∧
  Hs B ((x, brO K dx f b) :: (f, brL b) :: L) H ∧ b.length ≤ 700000 ∧
  (∀ n s : Nat, g = .int n → k = .int s → s ≤ 24 → n < 2 ^ s → ∀ H', Hs B ((x, brO K dx f (b ++ bitsOf n s)) :: (f, brL (b ++ bitsOf n s)) :: L) H' → Q .non H') ∧
  ((sizeOk k && putOk g k) = false → E (.ref (He.ga K "BadBits")) none H)
theorem len_BitRow_put (h : sp_BitRow_put K vs H Q E) : vs.length = 3 := by
  obtain ⟨B, L, x, dx, f, b, v, w, g, k, rfl, _⟩ := h
  rfl
def t_BitRow_put (K : PySem.W.Frag) (W : WX) : TS :=
  (tSeq (tDrop (tCl (sp_need_size K) [] W (tCons (tVar 2) tNil)))
    (tSeq (tIfS ((tOr (tNot (tB (tCl (sp_is_number K) [] W (tCons (tVar 1) tNil)))) (tOr (tTest (tOp rLtU (tVar 1) (tC (.int 0)))) (tTest (tOp rGtU (tOp rShrU (tVar 1) (tVar 2)) (tC (.int 0))))))) (tRz (He.ga K "BadBits") W) tNext)
    (tSeq (sFld K (tVar 0) (tOp rOrU (tOp rShlU (tFld K (tVar 0) "part") (tVar 2)) (tVar 1)) "part")
    (tSeq (sFldAug K (tVar 0) (tVar 2) rAdd "filled")
    (tWhile (tTest (tOp rGeU (tFld K (tVar 0) "filled") (tC (.int 8)))) (tSeq (sFldAug K (tVar 0) (tC (.int 8)) rSub "filled")
    (tSeq (tDrop (tBM K "list" rAppend (tFld K (tVar 0) "full") (tCons (tOp rShrU (tFld K (tVar 0) "part") (tFld K (tVar 0) "filled")) tNil)))
    (sFld K (tVar 0) (tOp rAndU (tFld K (tVar 0) "part") (tOp rSubU (tOp rShlU (tC (.int 1)) (tFld K (tVar 0) "filled")) (tC (.int 1)))) "part"))))))))
theorem rd_BitRow_put (kBitRow : KBitRow K) (h : sp_BitRow_put K vs H Q E) : t_BitRow_put K (fun c d _ H2 => E c d H2) { nx := fun _ H' => Q .non H', rt := Q } (start ["self", "number", "size"] vs) H := by
  obtain ⟨B, L, x, dx, f, b, v, w, g, k, rfl, hT, hT2, hs, hb, q, qe⟩ := h
  obtain ⟨hc, n1, n2, n3⟩ := kBitRow
  unfold t_BitRow_put
  walk_at "go"
  refine ⟨w, k, rfl, hT2, fun hk => ?_, fun hk => qe (by rw [hk]; rfl)⟩
  rw [hk, Bool.true_and] at qe
  walk_at "go"
  refine ⟨v, g, rfl, hT, ?_⟩
  cases hT2 with
  | int s =>
    simp only [sizeOk] at hk
    simp only [Bool.and_eq_true, decide_eq_true_eq] at hk
    cases hT with
    | int n =>
      simp only [putOk] at qe
      walk_at "go"
      refine i_2 (fun c => ?_) (fun c => ?_)
      · have c := of_decide_eq_true c
        rw [decide_eq_false (by omega : ¬ 0 ≤ n)] at qe
        walk_at "go"
        exact qe rfl
      have c := of_decide_eq_false c
      walk_at "go"
      obtain ⟨S, rfl⟩ := Int.eq_ofNat_of_zero_le hk.1
      obtain ⟨M, rfl⟩ := Int.eq_ofNat_of_zero_le (Int.not_lt.mp c)
      rw [decide_eq_true (by omega : (0 : Int) ≤ ((M : Nat) : Int))] at qe
      rw [Int.toNat_natCast, shr_nat]
      rw [Int.toNat_natCast, two_cast] at qe
      have hp : 0 < 2 ^ S := Nat.two_pow_pos S
      by_cases hM : M < 2 ^ S
      · rw [Nat.div_eq_of_lt hM]
        walk_at "go"
        have hS : S ≤ 24 := by omega
        have q := q M S rfl rfl hS hM
        refine c_shl ?_ ?_
        · refine ⟨by omega, by omega, ?_⟩
          have h1 := numOf_lt (b.drop (8 * (b.length / 8)))
          have h2 : (b.drop (8 * (b.length / 8))).length ≤ 8 := by rw [List.length_drop]; omega
          have h3 := Nat.lt_of_lt_of_le h1 (Nat.pow_le_pow_right (by decide) h2)
          rw [Int.natAbs_natCast]
          exact Nat.lt_trans h3 (by decide)
        walk_at "go"
        rename_i H1 h1 H2 h2
        rw [Int.toNat_natCast, join_nat hM] at h2
        have e1 : numOf (b.drop (8 * (b.length / 8))) * 2 ^ S + M = numOf ((b ++ bitsOf M S).drop (8 * (b.length / 8))) := by
          rw [List.drop_append_of_le_length (by omega), numOf_append, bitsOf_length, numOf_small hM]
        rw [e1] at h2
        have hcl : (b ++ bitsOf M S).length = b.length + S := by rw [List.length_append, bitsOf_length]
        have e2 : brL b = HO.lst ((wholeTo (b ++ bitsOf M S) (b.length / 8)).map V.int) := by
          show HO.lst _ = HO.lst _
          rw [wholeTo_append (by omega)]
        rw [e2] at h2
        generalize b ++ bitsOf M S = c at *
        refine w_while (fun m σ' L' B' => ∃ j, m = c.length - 8 * j ∧ 8 * j ≤ c.length ∧ σ' = [some (.ref x), some (.int M), some (.int S)] ∧ B' = B ∧
          L' = (x, .ins (He.ga K "BitRow") dx [("full", .ref f), ("part", .int ((numOf (c.drop (8 * j)) : Nat) : Int)), ("filled", .int ((m : Nat) : Int))]) :: (f, .lst ((wholeTo c j).map V.int)) :: L) (c.length - 8 * (b.length / 8)) h2 ⟨b.length / 8, rfl, by omega, rfl, rfl, ?_⟩ ?_
        · have e3 : ((b.length % 8 : Nat) : Int) + ((S : Nat) : Int) = ((c.length - 8 * (b.length / 8) : Nat) : Int) := by omega
          rw [e3]
        · rintro m σ' L' B' H' ⟨j, hm, hj, rfl, rfl, rfl⟩ h'
          walk_at "go"
          by_cases h8 : 8 ≤ m
          · refine i_t (decide_eq_true (by omega)) (w_turn ?_)
            walk_at "go"
            rename_i H3 h3
            have e4 : (m : Int) - 8 = ((m - 8 : Nat) : Int) := by omega
            rw [e4, Int.toNat_natCast, shr_nat]
            have hl : (c.drop (8 * j)).length = m := by rw [List.length_drop, hm]
            have e5 := numOf_take_div (c.drop (8 * j)) 8
            rw [hl] at e5
            rw [e5]
            refine c_app1 h3 (small5 ?_) fun H4 h4 => ?_
            · rw [List.length_map, wholeTo_length]
              omega
            rw [e4] at h4
            walk_at "go"
            rename_i H5 h5
            rw [Int.toNat_natCast, mask_nat] at h5
            have e6 := numOf_drop_mod (c.drop (8 * j)) 8
            rw [hl, List.drop_drop] at e6
            rw [e6] at h5
            refine ⟨m - 8, by omega, _, _, ⟨j + 1, by omega, by omega, rfl, rfl, ?_⟩, h5⟩
            rw [wholeTo_succ, List.map_append]
            rfl
          · refine i_f (decide_eq_false (by omega)) ?_
            have ej : j = c.length / 8 := by omega
            subst ej
            have em : m = c.length % 8 := by omega
            rw [em] at h'
            exact q H' h'
      · have hd : 1 ≤ M / 2 ^ S := (Nat.one_le_div_iff hp).mpr (Nat.le_of_not_lt hM)
        rw [decide_eq_false (by omega : ¬ ((M : Nat) : Int) < ((2 ^ S : Nat) : Int))] at qe
        walk_at "go"
        exact qe rfl
    | non => walk_at "go"; exact qe rfl
    | bl b => walk_at "go"; exact qe rfl
    | str x => walk_at "go"; exact qe rfl
    | lst z => walk_at "go"; exact qe rfl
    | tup z => walk_at "go"; exact qe rfl
    | dic z => walk_at "go"; exact qe rfl
  | _ => cases hk
def sp_BitRow_many (K : PySem.W.Frag) : Sp := fun vs H Q _ => ∃ (B : Hp) (L : Pic) (x dx f : Addr) (b : List Bool), vs = [.ref x] ∧ Hs B ((x, brO K dx f b) :: (f, brL b) :: L) H ∧ Q (.int ((b.length : Nat) : Int)) H
theorem len_BitRow_many (h : sp_BitRow_many K vs H Q E) : vs.length = 1 := by
  obtain ⟨B, L, x, dx, f, b, rfl, _⟩ := h
  rfl
def t_BitRow_many (K : PySem.W.Frag) (W : WX) : TS :=
  (tRet (tOp rAddU (tOp rMulU (tC (.int 8)) (tCB (rLenK K) (tCons (tFld K (tVar 0) "full") tNil))) (tFld K (tVar 0) "filled")))
theorem rd_BitRow_many (kBitRow : KBitRow K) (h : sp_BitRow_many K vs H Q E) : t_BitRow_many K W { nx := fun _ H' => Q .non H', rt := Q } (start ["self"] vs) H := by
  obtain ⟨B, L, x, dx, f, b, rfl, hs, q⟩ := h
  obtain ⟨hc, n1, n2, n3⟩ := kBitRow
  unfold t_BitRow_many
  walk_at "go"
  rw [List.length_map, wholeTo_length]
  have e : (8 : Int) * ((b.length / 8 : Nat) : Int) + ((b.length % 8 : Nat) : Int) = ((b.length : Nat) : Int) := by omega
  rw [e]
  exact q
def sp_BitRow_row (K : PySem.W.Frag) : Sp := fun vs H Q _ => ∃ (B : Hp) (L : Pic) (x dx f : Addr) (b : List Bool), vs = [.ref x] ∧ Hs B ((x, brO K dx f b) :: (f, brL b) :: L) H ∧ b.length ≤ 700000 ∧ RetL H Q ((rowOf b).map V.int)
theorem len_BitRow_row (h : sp_BitRow_row K vs H Q E) : vs.length = 1 := by
  obtain ⟨B, L, x, dx, f, b, rfl, _⟩ := h
  rfl
theorem rowOf_whole {b : List Bool} (h : b.length % 8 = 0) : rowOf b = wholeTo b (b.length / 8) := by
  unfold rowOf pad8
  rw [show (8 - b.length % 8) % 8 = 0 by omega, List.replicate_zero, List.append_nil, show (b.length + 7) / 8 = b.length / 8 by omega]
theorem rowOf_part {b : List Bool} (h : b.length % 8 ≠ 0) : rowOf b = wholeTo b (b.length / 8) ++ [((numOf (b.drop (8 * (b.length / 8))) * 2 ^ (8 - b.length % 8) : Nat) : Int)] := by
  unfold rowOf
  rw [show (b.length + 7) / 8 = b.length / 8 + 1 by omega, wholeTo_succ]
  unfold pad8
  rw [wholeTo_append (by omega)]
  congr 2
  unfold byteAt
  rw [List.drop_append_of_le_length (by omega), List.take_of_length_le (by rw [List.length_append, List.length_drop, List.length_replicate]; omega), numOf_append, numOf_noughts, List.length_replicate, show (8 - b.length % 8) % 8 = 8 - b.length % 8 by omega, Nat.add_zero]
def t_BitRow_row (K : PySem.W.Frag) (W : WX) : TS :=
  (tSeq (tIfS (tTest (tOp (rEqU K) (tFld K (tVar 0) "filled") (tC (.int 0)))) (tRet (tCB (rListK K) (tCons (tFld K (tVar 0) "full") tNil))) tNext)
    (tRet (tOp rAddU (tFld K (tVar 0) "full") (tLst (tCons (tOp rShlU (tFld K (tVar 0) "part") (tOp rSubU (tC (.int 8)) (tFld K (tVar 0) "filled"))) tNil)))))
theorem rd_BitRow_row (kBitRow : KBitRow K) (h : sp_BitRow_row K vs H Q E) : t_BitRow_row K W { nx := fun _ H' => Q .non H', rt := Q } (start ["self"] vs) H := by
  obtain ⟨B, L, x, dx, f, b, rfl, hs, hb, q⟩ := h
  obtain ⟨hc, n1, n2, n3⟩ := kBitRow
  have hx := hs.get (.head _)
  have hf := hs.get (.tail _ (.head _))
  clear hs
  have h0 := Hs.start H
  unfold t_BitRow_row
  walk_at "go"
  by_cases h8 : b.length % 8 = 0
  · refine i_t (decide_eq_true (by omega)) ?_
    walk_at "go"
    refine c_listL h0 (SqL.of hf) fun p H1 h1 => ?_
    rw [rowOf_whole h8] at q
    exact h1.rl (.head _) q
  · refine i_f (decide_eq_false (by omega)) ?_
    walk_at "go"
    rw [show (8 : Int) - ((b.length % 8 : Nat) : Int) = ((8 - b.length % 8 : Nat) : Int) by omega]
    refine c_shl ?_ ?_
    · refine ⟨by omega, by omega, ?_⟩
      have h1 := numOf_lt (b.drop (8 * (b.length / 8)))
      have h2 : (b.drop (8 * (b.length / 8))).length ≤ 8 := by rw [List.length_drop]; omega
      have h3 := Nat.lt_of_lt_of_le h1 (Nat.pow_le_pow_right (by decide) h2)
      rw [Int.natAbs_natCast]
      exact Nat.lt_trans h3 (by decide)
    walk_at "go"
    rename_i p H1 h1
    refine c_addL h1 (h1.ex _ _ hf) (h1.get (.head _)) ?_ fun r H2 h2 => ?_
    · rw [List.length_map, wholeTo_length]
      exact small5' (by simp; omega)
    rw [rowOf_part h8, List.map_append] at q
    refine h2.drop1.rl (.head _) ?_
    rw [Int.toNat_natCast]
    have e : ((numOf (b.drop (8 * (b.length / 8))) * 2 ^ (8 - b.length % 8) : Nat) : Int) = ((numOf (b.drop (8 * (b.length / 8))) : Nat) : Int) * 2 ^ (8 - b.length % 8) := by push_cast; rfl
    rw [e] at q
    exact q
theorem use_put {B : Hp} {L : Pic} {x dx f : Addr} {b : List Bool} {n s : Nat} {i j : Int} (ei : i = ((n : Nat) : Int)) (ej : j = ((s : Nat) : Int)) (h : Hs B ((x, brO K dx f b) :: (f, brL b) :: L) H) (hb : b.length ≤ 700000) (hs : s ≤ 24) (hn : n < 2 ^ s)
    (k : ∀ H', Hs B ((x, brO K dx f (b ++ bitsOf n s)) :: (f, brL (b ++ bitsOf n s)) :: L) H' → Q .non H') : sp_BitRow_put K [.ref x, .int i, .int j] H Q E := by
  subst ei ej
  refine ⟨B, L, x, dx, f, b, _, _, .int ((n : Nat) : Int), .int ((s : Nat) : Int), rfl, .int _, .int _, h, hb, fun n' s' e1 e2 _ _ => ?_, fun z => ?_⟩
  · cases Int.ofNat.inj (Tg.int.inj e1)
    cases Int.ofNat.inj (Tg.int.inj e2)
    exact k
  · simp only [sizeOk, putOk, Int.toNat_natCast, two_cast, Bool.and_eq_false_iff, decide_eq_false_iff_not] at z
    omega
end L2.BR

namespace L2.BR
open PySem PySem.Spec PyProof.Rows L2.BP
variable {K : PySem.W.Frag} {W : WX} {vs : List V} {H : Hp} {Q : VK} {E : XK}
def sp_BitReader___init__ (K : PySem.W.Frag) : Sp := fun vs H Q E => ∃ (B : Hp) (L : Pic) (x dx : Addr) (v : V) (g : Tg), vs = [.ref x, v] ∧ Hs B ((x, .ins (He.ga K "BitReader") dx []) :: L) H ∧ Th K H v g ∧ Tg.ok K H g ∧
  (∀ ns, g = .lst (ns.map V.int) → Bytes ns → ∀ s H', Hs B ((x, rdO K dx s 0) :: (s, .lst (ns.map V.int)) :: L) H' → Q .non H') ∧
  (Tg.isRow g = false → ∀ H', Hs B ((x, .ins (He.ga K "BitReader") dx []) :: L) H' → E (.ref (He.ga K "BadRow")) none H')
theorem len_BitReader___init__ (h : sp_BitReader___init__ K vs H Q E) : vs.length = 2 := by
  obtain ⟨B, L, x, dx, v, g, rfl, _⟩ := h
  rfl
def t_BitReader___init__ (K : PySem.W.Frag) (W : WX) : TS :=
  (tSeq (sFld K (tVar 0) (tCl (sp_need_row K) [] W (tCons (tVar 1) tNil)) "source")
    (sFld K (tVar 0) (tC (.int 0)) "taken"))
theorem rd_BitReader___init__ (kBitReader : KBitReader K) (h : sp_BitReader___init__ K vs H Q E) : t_BitReader___init__ K (fun c d _ H2 => E c d H2) { nx := fun _ H' => Q .non H', rt := Q } (start ["self", "row"] vs) H := by
  obtain ⟨B, L, x, dx, v, g, rfl, hs, hT, hok, q, qe⟩ := h
  obtain ⟨hc, n1, n2⟩ := kBitReader
  unfold t_BitReader___init__
  walk_at "go"
  refine ⟨v, g, rfl, hT, hok, fun xs e hr => ?_, fun hr H' e => qe hr H' (hs.same e)⟩
  subst e
  obtain ⟨ns, rfl, hb⟩ := ints_of (show xs.all byteV = true from hr)
  refine retL hs fun s H1 h1 => ?_
  walk_at "go"
  rename_i H2 h2 H3 h3
  exact q ns rfl hb s H3 h3.swap
def sp_BitReader_left (K : PySem.W.Frag) : Sp := fun vs H Q _ => ∃ (B : Hp) (L : Pic) (x dx s : Addr) (t : Nat) (ns : List Int), vs = [.ref x] ∧ Hs B ((x, rdO K dx s t) :: (s, .lst (ns.map V.int)) :: L) H ∧ Q (.int (8 * ((ns.length : Nat) : Int) - ((t : Nat) : Int))) H
theorem len_BitReader_left (h : sp_BitReader_left K vs H Q E) : vs.length = 1 := by
  obtain ⟨B, L, x, dx, s, t, ns, rfl, _⟩ := h
  rfl
def t_BitReader_left (K : PySem.W.Frag) (W : WX) : TS :=
  (tRet (tOp rSubU (tOp rMulU (tC (.int 8)) (tCB (rLenK K) (tCons (tFld K (tVar 0) "source") tNil))) (tFld K (tVar 0) "taken")))
theorem rd_BitReader_left (kBitReader : KBitReader K) (h : sp_BitReader_left K vs H Q E) : t_BitReader_left K W { nx := fun _ H' => Q .non H', rt := Q } (start ["self"] vs) H := by
  obtain ⟨B, L, x, dx, s, t, ns, rfl, hs, q⟩ := h
  obtain ⟨hc, n1, n2⟩ := kBitReader
  unfold t_BitReader_left
  walk_at "go"
  rw [List.length_map]
  exact q
theorem bitsRow_drop : ∀ (ns : List Int) (k : Nat), bitsRow (ns.drop k) = (bitsRow ns).drop (8 * k)
  | [], k => by simp [bitsRow]
  | n :: r, 0 => rfl
  | n :: r, k + 1 => by
    have ih := bitsRow_drop r k
    unfold bitsRow at ih ⊢
    have e : (bitsOf n.toNat 8).drop (8 * (k + 1)) = [] := List.drop_of_length_le (by rw [bitsOf_length]; omega)
    rw [List.drop_succ_cons, ih, List.flatMap_cons, List.drop_append, bitsOf_length, e, show 8 * (k + 1) - 8 = 8 * k by omega, List.nil_append]
theorem bitsRow_take : ∀ (ns : List Int) (k : Nat), bitsRow (ns.take k) = (bitsRow ns).take (8 * k)
  | [], k => by simp [bitsRow]
  | n :: r, 0 => rfl
  | n :: r, k + 1 => by
    have ih := bitsRow_take r k
    unfold bitsRow at ih ⊢
    have e : (bitsOf n.toNat 8).take (8 * (k + 1)) = bitsOf n.toNat 8 := List.take_of_length_le (by rw [bitsOf_length]; omega)
    rw [List.take_succ_cons, List.flatMap_cons, ih, List.flatMap_cons, List.take_append, bitsOf_length, e, show 8 * (k + 1) - 8 = 8 * k by omega]
/-- what the next so many bits tell -/
def takenNum (ns : List Int) (t i : Nat) : Nat := numOf (((bitsRow ns).drop t).take i)
def sp_BitReader_take (K : PySem.W.Frag) : Sp := fun vs H Q E => ∃ (B : Hp) (L : Pic) (x dx s : Addr) (t : Nat) (ns : List Int) (v : V) (g : Tg), vs = [.ref x, v] ∧ Th K H v g ∧ Hs B ((x, rdO K dx s t) :: (s, .lst (ns.map V.int)) :: L) H ∧ Bytes ns ∧ t ≤ 8 * ns.length ∧ ns.length ≤ 100000 ∧
  (∀ i : Nat, g = .int i → i ≤ 24 → t + i ≤ 8 * ns.length → ∀ H', Hs B ((x, rdO K dx s (t + i)) :: (s, .lst (ns.map V.int)) :: L) H' → Q (.int ((takenNum ns t i : Nat) : Int)) H') ∧
  (sizeOk g = false → E (.ref (He.ga K "BadBits")) none H) ∧ (∀ i : Nat, g = .int i → i ≤ 24 → 8 * ns.length < t + i → E (.ref (He.ga K "NoBits")) none H)
theorem len_BitReader_take (h : sp_BitReader_take K vs H Q E) : vs.length = 2 := by
  obtain ⟨B, L, x, dx, s, t, ns, v, g, rfl, _⟩ := h
  rfl
def t_BitReader_take (K : PySem.W.Frag) (W : WX) : TS :=
  (tSeq (tDrop (tCl (sp_need_size K) [] W (tCons (tVar 1) tNil)))
    (tSeq (tIfS (tTest (tOp rLtU (tMt (He.ga K "BitReader") "left" (sp_BitReader_left K) [] W (tVar 0) tNil) (tVar 1))) (tRz (He.ga K "NoBits") W) tNext)
    (tSeq (tAsg (tCB (rDivmodK) (tCons (tFld K (tVar 0) "taken") (tCons (tC (.int 8)) tNil))) (gTup K 2 (gCons (gName 2) (gCons (gName 3) gNil))))
    (tSeq (tAsg (tCB (rDivmodK) (tCons (tOp rSubU (tOp rAddU (tOp rAddU (tFld K (tVar 0) "taken") (tVar 1)) (tC (.int 8))) (tC (.int 1))) (tCons (tC (.int 8)) tNil))) (gTup K 2 (gCons (gName 4) (gCons (gName 5) gNil))))
    (tSeq (tAsg (tC (.int 0)) (gName 6))
    (tSeq (tFor (iList K (tSl (rSlK K) (tFld K (tVar 0) "source") (tPart (tVar 2)) (tPart (tVar 4)))) (gName 7) (tAsg (tOp rOrU (tOp rShlU (tVar 6) (tC (.int 8))) (tVar 7)) (gName 6)))
    (tSeq (tAsg (tOp rAndU (tVar 6) (tOp rSubU (tOp rShlU (tC (.int 1)) (tOp rSubU (tOp rMulU (tC (.int 8)) (tOp rSubU (tVar 4) (tVar 2))) (tVar 3))) (tC (.int 1)))) (gName 6))
    (tSeq (sFldAug K (tVar 0) (tVar 1) rAdd "taken")
    (tRet (tOp rShrU (tVar 6) (tOp rSubU (tOp rSubU (tC (.int 8)) (tC (.int 1))) (tVar 5))))))))))))
theorem rd_BitReader_take (kBitReader : KBitReader K) (h : sp_BitReader_take K vs H Q E) : t_BitReader_take K (fun c d _ H2 => E c d H2) { nx := fun _ H' => Q .non H', rt := Q } (start ["self", "size", "begin", "over", "end", "rest", "number", "byte"] vs) H := by
  obtain ⟨B, L, x, dx, s, t, ns, v, g, rfl, hT, hs, hb, ht, hl, q, qe, qn⟩ := h
  have kB := kBitReader
  obtain ⟨hc, n1, n2⟩ := kBitReader
  unfold t_BitReader_take
  walk_at "go"
  refine ⟨v, g, rfl, hT, fun hk => ?_, qe⟩
  walk_at "go"
  refine ⟨B, L, x, dx, s, t, ns, rfl, hs, ?_⟩
  cases hT with
  | int i =>
    simp only [sizeOk, Bool.and_eq_true, decide_eq_true_eq] at hk
    obtain ⟨I, rfl⟩ := Int.eq_ofNat_of_zero_le hk.1
    have hI : I ≤ 24 := by omega
    have q := q I rfl hI
    have qn := qn I rfl hI
    walk_at "go"
    by_cases hlt : 8 * ns.length < t + I
    · refine i_t (decide_eq_true (by omega)) ?_
      walk_at "go"
      exact qn hlt
    refine i_f (decide_eq_false (by omega)) ?_
    have q := q (by omega)
    walk_at "go"
    have e1 : ((t : Nat) : Int) / 8 = ((t / 8 : Nat) : Int) := by omega
    have e2 : ((t : Nat) : Int) % 8 = ((t % 8 : Nat) : Int) := by omega
    have e3 : (((t : Nat) : Int) + ((I : Nat) : Int) + 8 - 1) / 8 = (((t + I + 7) / 8 : Nat) : Int) := by omega
    have e4 : (((t : Nat) : Int) + ((I : Nat) : Int) + 8 - 1) % 8 = (((t + I + 7) % 8 : Nat) : Int) := by omega
    refine c_divmod hs ⟨by decide, by decide⟩ fun p1 H1 h1 => ?_
    rw [e1, e2] at h1
    walk_at "go"
    refine c_divmod h1 ⟨by decide, by decide⟩ fun p2 H2 h2 => ?_
    rw [e3, e4] at h2
    have ht2 := h2.sqt (K := K) (.head _)
    have h3 := h2.drop.drop
    walk_at "go"
    rename_i p3 H3 h4
    rw [cutV_ints, sIx_at _ _ _ (by omega), sIx_at _ _ _ (by omega)] at h4
    have hcl : ((ns.drop (t / 8)).take ((t + I + 7) / 8 - t / 8)).length = (t + I + 7) / 8 - t / 8 := by rw [List.length_take, List.length_drop]; omega
    have hcb : bitsRow ((ns.drop (t / 8)).take ((t + I + 7) / 8 - t / 8)) = ((bitsRow ns).drop (8 * (t / 8))).take (8 * ((t + I + 7) / 8 - t / 8)) := by rw [bitsRow_take, bitsRow_drop]
    have hby : Bytes ((ns.drop (t / 8)).take ((t + I + 7) / 8 - t / 8)) := fun n hn => hb n (List.mem_of_mem_drop (List.mem_of_mem_take hn))
    generalize (ns.drop (t / 8)).take ((t + I + 7) / 8 - t / 8) = cs at *
    refine w_forL V.int cs (fun pre σ' L' B' => ∃ w, σ' = [some (.ref x), some (.int I), some (.int ((t / 8 : Nat) : Int)), some (.int ((t % 8 : Nat) : Int)), some (.int (((t + I + 7) / 8 : Nat) : Int)), some (.int (((t + I + 7) % 8 : Nat) : Int)), some (.int ((numOf (bitsRow pre) : Nat) : Int)), w] ∧
      B' = B ∧ L' = (p3, .lst (cs.map V.int)) :: (x, rdO K dx s t) :: (s, .lst (ns.map V.int)) :: L) h4 ⟨none, rfl, rfl, rfl⟩ ?_ ?_ ?_
    · rintro pre post σ' L' B' H' _ ⟨w, _, rfl, rfl⟩ h
      exact h.sql (.head _)
    · rintro pre n post σ' L' B' H' e ⟨w, rfl, rfl, rfl⟩ h
      walk_at "go"
      have hpl : pre.length < 5 := by
        have := congrArg List.length e
        simp at this
        omega
      refine c_shl ?_ ?_
      · refine ⟨by omega, by omega, ?_⟩
        have z1 := numOf_lt (bitsRow pre)
        rw [bitsRow_length] at z1
        have z2 := Nat.lt_of_lt_of_le z1 (Nat.pow_le_pow_right (by decide) (show 8 * pre.length ≤ 32 by omega))
        rw [Int.natAbs_natCast]
        exact Nat.lt_trans z2 (by decide)
      walk_at "go"
      have hn := hby n (by rw [e]; simp)
      obtain ⟨m, rfl⟩ := Int.eq_ofNat_of_zero_le hn.1
      have hm : m < 2 ^ 8 := by omega
      refine ⟨_, _, ⟨some (.int m), ?_, rfl, rfl⟩, h⟩
      rw [bitsRow_snoc, numOf_append, bitsOf_length, Int.toNat_natCast, numOf_small hm, show (8 : Int).toNat = 8 from rfl, join_nat hm]
      rfl
    · rintro σ' L' B' H' ⟨w, rfl, rfl, rfl⟩ h
      walk_at "go"
      have e5 : (8 : Int) * ((((t + I + 7) / 8 : Nat) : Int) - ((t / 8 : Nat) : Int)) - ((t % 8 : Nat) : Int) = (((8 * ((t + I + 7) / 8 - t / 8) - t % 8 : Nat)) : Int) := by omega
      rename_i H5 h5
      rw [e5, show (8 : Int) - 1 - (((t + I + 7) % 8 : Nat) : Int) = ((7 - (t + I + 7) % 8 : Nat) : Int) by omega]
      rw [Int.toNat_natCast, Int.toNat_natCast, mask_nat, shr_nat]
      have l1 : (bitsRow cs).length = 8 * ((t + I + 7) / 8 - t / 8) := by rw [bitsRow_length, hcl]
      have z1 := numOf_drop_mod (bitsRow cs) (t % 8)
      rw [l1] at z1
      rw [z1]
      have z2 := numOf_take_div ((bitsRow cs).drop (t % 8)) I
      rw [List.length_drop, l1, show 8 * ((t + I + 7) / 8 - t / 8) - t % 8 - I = 7 - (t + I + 7) % 8 by omega] at z2
      rw [z2]
      have z3 : ((bitsRow cs).drop (t % 8)).take I = ((bitsRow ns).drop t).take I := by
        rw [hcb, List.drop_take, List.drop_drop, List.take_take, show 8 * (t / 8) + t % 8 = t by omega, show min I (8 * ((t + I + 7) / 8 - t / 8) - t % 8) = I by omega]
      rw [z3]
      have e6 : ((t : Nat) : Int) + ((I : Nat) : Int) = ((t + I : Nat) : Int) := by omega
      rw [e6] at h5
      exact q H5 h5.drop
  | _ => cases hk
theorem use_take {B : Hp} {L : Pic} {x dx s : Addr} {t : Nat} {ns : List Int} (i : Nat) {j : Int} (e : j = ((i : Nat) : Int)) (h : Hs B ((x, rdO K dx s t) :: (s, .lst (ns.map V.int)) :: L) H) (hb : Bytes ns) (hl : ns.length ≤ 100000) (hi : i ≤ 24)
    (ht : t + i ≤ 8 * ns.length) (k : ∀ H', Hs B ((x, rdO K dx s (t + i)) :: (s, .lst (ns.map V.int)) :: L) H' → Q (.int ((takenNum ns t i : Nat) : Int)) H') : sp_BitReader_take K [.ref x, .int j] H Q E := by
  subst e
  refine ⟨B, L, x, dx, s, t, ns, _, _, rfl, .int _, h, hb, by omega, hl, fun i' e' _ _ => ?_, fun z => ?_, fun i' e' _ h2 => ?_⟩
  · cases Int.ofNat.inj (Tg.int.inj e')
    exact k
  · simp only [sizeOk, Bool.and_eq_false_iff, decide_eq_false_iff_not] at z
    omega
  · cases Int.ofNat.inj (Tg.int.inj e')
    omega
theorem take_at {ns : List Int} {t v i : Nat} {rest : List Bool} (ht : t ≤ 8 * ns.length) (h : (bitsRow ns).drop t = bitsOf v i ++ rest) (hv : v < 2 ^ i) : takenNum ns t i = v ∧ t + i ≤ 8 * ns.length := by
  have z := congrArg List.length h
  rw [List.length_drop, List.length_append, bitsOf_length, bitsRow_length] at z
  refine ⟨?_, by omega⟩
  unfold takenNum
  rw [h, List.take_append_of_le_length (by rw [bitsOf_length]; omega), List.take_of_length_le (by rw [bitsOf_length]; omega), numOf_small hv]
/-- what comes of a reader next, put on behind -/
theorem drop_next {l : List Bool} {t v i : Nat} {rest : List Bool} (h : l.drop t = bitsOf v i ++ rest) : l.drop (t + i) = rest := by
  rw [← List.drop_drop, h, List.drop_append_of_le_length (by rw [bitsOf_length]; omega), List.drop_of_length_le (by rw [bitsOf_length]; omega), List.nil_append]
end L2.BR

namespace L2.BR
open PySem PySem.Spec PyProof.Rows L2.BP
variable {K : PySem.W.Frag} {W : WX} {vs : List V} {H : Hp} {Q : VK} {E : XK}
def sp_BitReader_place (K : PySem.W.Frag) : Sp := fun vs H Q _ => ∃ (B : Hp) (L : Pic) (x dx s : Addr) (t : Nat) (ns : List Int), vs = [.ref x] ∧ Hs B ((x, rdO K dx s t) :: (s, .lst (ns.map V.int)) :: L) H ∧ Q (.int ((t : Nat) : Int)) H
theorem len_BitReader_place (h : sp_BitReader_place K vs H Q E) : vs.length = 1 := by
  obtain ⟨B, L, x, dx, s, t, ns, rfl, _⟩ := h
  rfl
def t_BitReader_place (K : PySem.W.Frag) (W : WX) : TS :=
  (tRet (tFld K (tVar 0) "taken"))
theorem rd_BitReader_place (kBitReader : KBitReader K) (h : sp_BitReader_place K vs H Q E) : t_BitReader_place K W { nx := fun _ H' => Q .non H', rt := Q } (start ["self"] vs) H := by
  obtain ⟨B, L, x, dx, s, t, ns, rfl, hs, q⟩ := h
  obtain ⟨hc, n1, n2⟩ := kBitReader
  unfold t_BitReader_place
  walk_at "go"
  exact q
end L2.BR

namespace L2.BR
open PySem PySem.Spec PyProof.Rows L2.BP
variable {K : PySem.W.Frag} {W : WX} {vs : List V} {H : Hp} {Q : VK} {E : XK}
/-- whether a thing is a place of a row of so many bytes -/
def Tg.isPlace (n : Nat) : Tg → Bool
  | .int i => decide (0 ≤ i) && decide (i ≤ 8 * ((n : Nat) : Int))
  | _ => false
def sp_BitReader_go (K : PySem.W.Frag) : Sp := fun vs H Q E => ∃ (B : Hp) (L : Pic) (x dx s : Addr) (t : Nat) (ns : List Int) (v : V) (g : Tg), vs = [.ref x, v] ∧ Th K H v g ∧ Hs B ((x, rdO K dx s t) :: (s, .lst (ns.map V.int)) :: L) H ∧
  (∀ i : Nat, g = .int i → i ≤ 8 * ns.length → ∀ H', Hs B ((x, rdO K dx s i) :: (s, .lst (ns.map V.int)) :: L) H' → Q .non H') ∧
  (Tg.isPlace ns.length g = false → E (.ref (He.ga K "BadBits")) none H)
theorem len_BitReader_go (h : sp_BitReader_go K vs H Q E) : vs.length = 2 := by
  obtain ⟨B, L, x, dx, s, t, ns, v, g, rfl, _⟩ := h
  rfl
def t_BitReader_go (K : PySem.W.Frag) (W : WX) : TS :=
  (tSeq (tIfS ((tOr (tNot (tB (tCl (sp_is_number K) [] W (tCons (tVar 1) tNil)))) (tNot (tTest (tChain rLeU rLeU (tC (.int 0)) (tVar 1) (tOp rMulU (tC (.int 8)) (tCB (rLenK K) (tCons (tFld K (tVar 0) "source") tNil)))))))) (tRz (He.ga K "BadBits") W) tNext)
    (sFld K (tVar 0) (tVar 1) "taken"))
theorem rd_BitReader_go (kBitReader : KBitReader K) (h : sp_BitReader_go K vs H Q E) : t_BitReader_go K (fun c d _ H2 => E c d H2) { nx := fun _ H' => Q .non H', rt := Q } (start ["self", "place"] vs) H := by
  obtain ⟨B, L, x, dx, s, t, ns, v, g, rfl, hT, hs, q, qe⟩ := h
  obtain ⟨hc, n1, n2⟩ := kBitReader
  unfold t_BitReader_go
  walk_at "go"
  refine ⟨v, g, rfl, hT, ?_⟩
  cases hT with
  | int i =>
    simp only [Tg.isPlace] at qe
    walk_at "go"
    cases e : decide ((0 : Int) ≤ i) with
    | false =>
      rw [e] at qe
      walk_at "go"
      exact qe rfl
    | true =>
      rw [e] at qe
      obtain ⟨I, rfl⟩ := Int.eq_ofNat_of_zero_le (of_decide_eq_true e)
      walk_at "go"
      rw [List.length_map]
      by_cases c : I ≤ 8 * ns.length
      · rw [decide_eq_true (by omega : ((I : Nat) : Int) ≤ 8 * ((ns.length : Nat) : Int))]
        walk_at "go"
        rename_i H2 h2
        exact q I rfl c H2 h2
      · rw [decide_eq_false (by omega : ¬ ((I : Nat) : Int) ≤ 8 * ((ns.length : Nat) : Int))] at qe ⊢
        walk_at "go"
        exact qe rfl
  | non => walk_at "go"; exact qe rfl
  | bl b => walk_at "go"; exact qe rfl
  | str x => walk_at "go"; exact qe rfl
  | lst z => walk_at "go"; exact qe rfl
  | tup z => walk_at "go"; exact qe rfl
  | dic z => walk_at "go"; exact qe rfl
end L2.BR

namespace L2.BR
open PySem PySem.Spec PyProof.Rows L2.BP
/-! ### copies, pieces -/
/-- how many signs from a place on are those so many places ahead, from f on, m at most -/
def alk (ns : List Int) (p b : Nat) : Nat → Nat → Nat
  | 0, f => f
  | m + 1, f => if ns[p + f]? = ns[p + f - b]? then alk ns p b m (f + 1) else f
def alike (ns : List Int) (p b most : Nat) : Nat := alk ns p b most 0
theorem alk_le (ns : List Int) (p b : Nat) : ∀ m f, f ≤ alk ns p b m f ∧ alk ns p b m f ≤ f + m
  | 0, f => ⟨Nat.le_refl _, Nat.le_refl _⟩
  | m + 1, f => by
    have ih := alk_le ns p b m (f + 1)
    unfold alk
    by_cases h : ns[p + f]? = ns[p + f - b]?
    · rw [if_pos h]
      omega
    · rw [if_neg h]
      omega
theorem alk_eq (ns : List Int) (p b : Nat) : ∀ m f k, f ≤ k → k < alk ns p b m f → ns[p + k]? = ns[p + k - b]?
  | 0, f, k, h1, h2 => by
    unfold alk at h2
    omega
  | m + 1, f, k, h1, h2 => by
    unfold alk at h2
    by_cases h : ns[p + f]? = ns[p + f - b]?
    · rw [if_pos h] at h2
      by_cases hk : k = f
      · rw [hk]
        exact h
      · exact alk_eq ns p b m (f + 1) k (by omega) h2
    · rw [if_neg h] at h2
      omega
theorem alk_stop (ns : List Int) (p b : Nat) : ∀ m f, alk ns p b m f < f + m → ¬ ns[p + alk ns p b m f]? = ns[p + alk ns p b m f - b]?
  | 0, f, h => by
    unfold alk at h
    omega
  | m + 1, f, h => by
    by_cases e : ns[p + f]? = ns[p + f - b]?
    · have e2 : alk ns p b (m + 1) f = alk ns p b m (f + 1) := by
        conv => lhs; unfold alk
        rw [if_pos e]
      rw [e2] at h ⊢
      exact alk_stop ns p b m (f + 1) (by omega)
    · have e2 : alk ns p b (m + 1) f = f := by
        unfold alk
        rw [if_neg e]
      rw [e2]
      exact e
theorem alike_le (ns : List Int) (p b m : Nat) : alike ns p b m ≤ m := by
  have := (alk_le ns p b m 0).2
  unfold alike
  omega
theorem alike_eq {ns : List Int} {p b m k : Nat} (h : k < alike ns p b m) : ns[p + k]? = ns[p + k - b]? := alk_eq ns p b m 0 k (Nat.zero_le _) h
theorem alike_stop {ns : List Int} {p b m : Nat} (h : alike ns p b m < m) : ¬ ns[p + alike ns p b m]? = ns[p + alike ns p b m - b]? := alk_stop ns p b m 0 (by unfold alike at h; omega)
/-- the search: so many places ahead by turns, what was found -/
def lcp (ns : List Int) (p most : Nat) : List Nat → Nat × Nat → Nat × Nat
  | [], c => c
  | b :: r, c => if ns[p]? = ns[p - b]? then
      (if alike ns p b most = most then (if c.2 < alike ns p b most then (b, alike ns p b most) else c) else lcp ns p most r (if c.2 < alike ns p b most then (b, alike ns p b most) else c))
    else lcp ns p most r c
def backs (p : Nat) : List Nat := (List.range (min 255 p)).map (· + 1)
def mostAt (ns : List Int) (p : Nat) : Nat := min 18 (ns.length - p)
def longest (ns : List Int) (p : Nat) : Nat × Nat := lcp ns p (mostAt ns p) (backs p) (0, 0)
/-- what a found pair is -/
def Found (ns : List Int) (p : Nat) (c : Nat × Nat) : Prop := c = (0, 0) ∨ (1 ≤ c.1 ∧ c.1 ≤ 255 ∧ c.1 ≤ p ∧ c.2 = alike ns p c.1 (mostAt ns p))
theorem lcp_found {ns : List Int} {p : Nat} : ∀ (l : List Nat) (c : Nat × Nat), (∀ b ∈ l, 1 ≤ b ∧ b ≤ 255 ∧ b ≤ p) → Found ns p c → Found ns p (lcp ns p (mostAt ns p) l c)
  | [], c, _, h => h
  | b :: r, c, hl, h => by
    have hb := hl b (.head _)
    have hr : ∀ x ∈ r, 1 ≤ x ∧ x ≤ 255 ∧ x ≤ p := fun x hx => hl x (.tail _ hx)
    have hc : Found ns p (if c.2 < alike ns p b (mostAt ns p) then (b, alike ns p b (mostAt ns p)) else c) := by
      by_cases q : c.2 < alike ns p b (mostAt ns p)
      · rw [if_pos q]
        exact .inr ⟨hb.1, hb.2.1, hb.2.2, rfl⟩
      · rw [if_neg q]
        exact h
    unfold lcp
    by_cases e : ns[p]? = ns[p - b]?
    · rw [if_pos e]
      by_cases e2 : alike ns p b (mostAt ns p) = mostAt ns p
      · rw [if_pos e2]
        exact hc
      · rw [if_neg e2]
        exact lcp_found r _ hr hc
    · rw [if_neg e]
      exact lcp_found r c hr h
theorem backs_ok (p : Nat) : ∀ b ∈ backs p, 1 ≤ b ∧ b ≤ 255 ∧ b ≤ p := by
  intro b hb
  unfold backs at hb
  obtain ⟨i, hi, rfl⟩ := List.mem_map.mp hb
  have := List.mem_range.mp hi
  omega
theorem longest_found (ns : List Int) (p : Nat) : Found ns p (longest ns p) := lcp_found _ _ (backs_ok p) (.inl rfl)
theorem longest_copy {ns : List Int} {p : Nat} (h : 3 ≤ (longest ns p).2) : 1 ≤ (longest ns p).1 ∧ (longest ns p).1 ≤ 255 ∧ (longest ns p).1 ≤ p ∧ (longest ns p).2 = alike ns p (longest ns p).1 (mostAt ns p) := by
  rcases longest_found ns p with e | e
  · rw [e] at h
    simp at h
  · exact e
theorem longest_size (ns : List Int) (p : Nat) : (longest ns p).2 ≤ mostAt ns p := by
  rcases longest_found ns p with e | e
  · rw [e]
    exact Nat.zero_le _
  · rw [e.2.2.2]
    exact alike_le _ _ _ _
/-- a piece -/
inductive Pc where
  | sign (n : Int)
  | copy (b s : Nat)
abbrev pcV : Pc → List V
  | .sign n => [.str "sign", .int n]
  | .copy b s => [.str "copy", .int ((b : Nat) : Int), .int ((s : Nat) : Int)]
def Pc.ok : Pc → Prop
  | .sign n => 0 ≤ n ∧ n ≤ 255
  | .copy b s => 1 ≤ b ∧ b ≤ 255 ∧ 3 ≤ s ∧ s ≤ 18
def pcs (ns : List Int) : Nat → Nat → List Pc
  | 0, _ => []
  | m + 1, p => if p < ns.length then (if 3 ≤ (longest ns p).2 then .copy (longest ns p).1 (longest ns p).2 :: pcs ns m (p + (longest ns p).2) else .sign (ns.getD p 0) :: pcs ns m (p + 1)) else []
theorem pcs_end {ns : List Int} {m p : Nat} (h : ns.length ≤ p) : pcs ns m p = [] := by
  cases m with
  | zero => rfl
  | succ m =>
    unfold pcs
    rw [if_neg (by omega)]
theorem pcs_copy {ns : List Int} {m p : Nat} (h : p < ns.length) (h3 : 3 ≤ (longest ns p).2) : pcs ns (m + 1) p = .copy (longest ns p).1 (longest ns p).2 :: pcs ns m (p + (longest ns p).2) := by
  conv => lhs; unfold pcs
  rw [if_pos h, if_pos h3]
theorem pcs_sign {ns : List Int} {m p : Nat} (h : p < ns.length) (h3 : ¬ 3 ≤ (longest ns p).2) : pcs ns (m + 1) p = .sign (ns.getD p 0) :: pcs ns m (p + 1) := by
  conv => lhs; unfold pcs
  rw [if_pos h, if_neg h3]
/-! what pieces tell -/
def cpy (b : Nat) : Nat → List Int → List Int
  | 0, l => l
  | s + 1, l => cpy b s (l ++ [l.getD (l.length - b) 0])
def app (l : List Int) : Pc → List Int
  | .sign n => l ++ [n]
  | .copy b s => cpy b s l
def told (l : List Int) (ps : List Pc) : List Int := ps.foldl app l
/-- no copy reaches back too far -/
def Reach : List Int → List Pc → Prop
  | _, [] => True
  | l, .sign n :: r => Reach (l ++ [n]) r
  | l, .copy b s :: r => b ≤ l.length ∧ Reach (cpy b s l) r
theorem cpy_length (b : Nat) : ∀ s l, (cpy b s l).length = l.length + s
  | 0, l => rfl
  | s + 1, l => by
    unfold cpy
    rw [cpy_length b s, List.length_append, List.length_singleton]
    omega
theorem cpy_succ (b : Nat) : ∀ s l, cpy b (s + 1) l = cpy b s l ++ [(cpy b s l).getD ((cpy b s l).length - b) 0]
  | 0, l => rfl
  | s + 1, l => by
    show cpy b (s + 1) (l ++ [l.getD (l.length - b) 0]) = _
    rw [cpy_succ b s]
    rfl
theorem take_snoc {ns : List Int} {p : Nat} (h : p < ns.length) : ns.take p ++ [ns.getD p 0] = ns.take (p + 1) := by
  rw [List.take_add_one, List.getElem?_eq_getElem h, List.getD_eq_getElem?_getD, List.getElem?_eq_getElem h]
  rfl
theorem getD_of {ns : List Int} {i j : Nat} (h : ns[i]? = ns[j]?) : ns.getD i 0 = ns.getD j 0 := by rw [List.getD_eq_getElem?_getD, List.getD_eq_getElem?_getD, h]
theorem cpy_take {ns : List Int} {b : Nat} (hb : 1 ≤ b) : ∀ s p, b ≤ p → p + s ≤ ns.length → (∀ k, k < s → ns[p + k]? = ns[p + k - b]?) → cpy b s (ns.take p) = ns.take (p + s)
  | 0, p, _, _, _ => rfl
  | s + 1, p, h1, h2, h3 => by
    have l : (ns.take p).length = p := by rw [List.length_take]; omega
    have e0 := h3 0 (by omega)
    have e1 : (ns.take p).getD ((ns.take p).length - b) 0 = ns.getD p 0 := by
      rw [l, List.getD_eq_getElem?_getD, List.getElem?_take, if_pos (by omega), ← List.getD_eq_getElem?_getD]
      exact (getD_of e0).symm
    unfold cpy
    rw [e1, take_snoc (by omega)]
    rw [cpy_take hb s (p + 1) (by omega) (by omega) fun k hk => by
      have := h3 (k + 1) (by omega)
      rw [show p + 1 + k = p + (k + 1) by omega]
      exact this]
    congr 1
    omega
theorem pcs_told {ns : List Int} : ∀ m p, p ≤ ns.length → ns.length - p ≤ m → told (ns.take p) (pcs ns m p) = ns ∧ Reach (ns.take p) (pcs ns m p)
  | 0, p, h1, h2 => ⟨by rw [show p = ns.length by omega]; exact List.take_of_length_le (Nat.le_refl _), trivial⟩
  | m + 1, p, h1, h2 => by
    by_cases hp : p < ns.length
    · by_cases h3 : 3 ≤ (longest ns p).2
      · rw [pcs_copy hp h3]
        obtain ⟨c1, c2, c3, c4⟩ := longest_copy h3
        have hs := longest_size ns p
        unfold mostAt at hs
        have e := cpy_take (ns := ns) c1 (longest ns p).2 p c3 (by omega) fun k hk => by
          rw [c4] at hk
          exact alike_eq hk
        have ih := pcs_told (ns := ns) m (p + (longest ns p).2) (by omega) (by omega)
        refine ⟨?_, ?_, ?_⟩
        · show told (cpy _ _ (ns.take p)) _ = ns
          rw [e]
          exact ih.1
        · rw [List.length_take]
          omega
        · rw [e]
          exact ih.2
      · rw [pcs_sign hp h3]
        have ih := pcs_told (ns := ns) m (p + 1) (by omega) (by omega)
        refine ⟨?_, ?_⟩
        · show told (ns.take p ++ [ns.getD p 0]) _ = ns
          rw [take_snoc hp]
          exact ih.1
        · show Reach (ns.take p ++ [ns.getD p 0]) _
          rw [take_snoc hp]
          exact ih.2
    · rw [pcs_end (by omega)]
      exact ⟨by rw [show p = ns.length by omega]; exact List.take_of_length_le (Nat.le_refl _), trivial⟩
theorem pcs_ok {ns : List Int} (hn : ∀ n ∈ ns, 0 ≤ n ∧ n ≤ 255) : ∀ m p, ∀ c ∈ pcs ns m p, Pc.ok c
  | 0, p => fun c h => by cases h
  | m + 1, p => by
    intro c h
    by_cases hp : p < ns.length
    · by_cases h3 : 3 ≤ (longest ns p).2
      · rw [pcs_copy hp h3] at h
        rcases List.mem_cons.mp h with e | h
        · rw [e]
          obtain ⟨c1, c2, c3, c4⟩ := longest_copy h3
          have hs := longest_size ns p
          unfold mostAt at hs
          exact ⟨c1, c2, h3, by omega⟩
        · exact pcs_ok hn _ _ c h
      · rw [pcs_sign hp h3] at h
        rcases List.mem_cons.mp h with e | h
        · rw [e]
          have : ns.getD p 0 = ns[p] := by rw [List.getD_eq_getElem?_getD, List.getElem?_eq_getElem hp]; rfl
          rw [this]
          exact hn _ (List.getElem_mem hp)
        · exact pcs_ok hn _ _ c h
    · rw [pcs_end (by omega)] at h
      cases h
theorem pcs_length {ns : List Int} : ∀ m p, (pcs ns m p).length ≤ ns.length - p
  | 0, p => Nat.zero_le _
  | m + 1, p => by
    by_cases hp : p < ns.length
    · by_cases h3 : 3 ≤ (longest ns p).2
      · rw [pcs_copy hp h3, List.length_cons]
        have := pcs_length (ns := ns) m (p + (longest ns p).2)
        omega
      · rw [pcs_sign hp h3, List.length_cons]
        have := pcs_length (ns := ns) m (p + 1)
        omega
    · rw [pcs_end (by omega)]
      exact Nat.zero_le _
theorem told_append (l : List Int) (a b : List Pc) : told l (a ++ b) = told (told l a) b := by unfold told; rw [List.foldl_append]
theorem app_pre (l : List Int) (c : Pc) : ∃ r, app l c = l ++ r := by
  cases c with
  | sign n => exact ⟨_, rfl⟩
  | copy b s =>
    show ∃ r, cpy b s l = l ++ r
    induction s generalizing l with
    | zero => exact ⟨[], by simp [cpy]⟩
    | succ s ih =>
      unfold cpy
      obtain ⟨r, e⟩ := ih (l ++ [l.getD (l.length - b) 0])
      exact ⟨_, by rw [e, List.append_assoc]⟩
theorem told_pre : ∀ (ps : List Pc) (l : List Int), ∃ r, told l ps = l ++ r
  | [], l => ⟨[], by simp [told]⟩
  | c :: ps, l => by
    obtain ⟨r, e⟩ := app_pre l c
    obtain ⟨r2, e2⟩ := told_pre ps (app l c)
    exact ⟨r ++ r2, by show told (app l c) ps = _; rw [e2, e, List.append_assoc]⟩
theorem reach_append {b : List Pc} : ∀ {a : List Pc} {l : List Int}, Reach l (a ++ b) → Reach l a
  | [], _, _ => trivial
  | .sign n :: a, l, h => reach_append (a := a) h
  | .copy x s :: a, l, h => ⟨h.1, reach_append (a := a) h.2⟩
/-! signs exchanged one for one -/
def copyV : Pc → Option (List V)
  | .sign _ => none
  | .copy b s => some [.int ((b : Nat) : Int), .int ((s : Nat) : Int)]
section
variable {f : Int → Int} (hf : ∀ a b, f a = f b → a = b)
include hf
theorem map_at (ns : List Int) (i j : Nat) : ((ns.map f)[i]? = (ns.map f)[j]?) ↔ (ns[i]? = ns[j]?) := by
  rw [List.getElem?_map, List.getElem?_map]
  cases ns[i]? with
  | none => cases ns[j]? <;> simp
  | some a =>
    cases ns[j]? with
    | none => simp
    | some b =>
      simp only [Option.map_some, Option.some.injEq]
      exact ⟨hf a b, fun e => by rw [e]⟩
theorem alk_map (ns : List Int) (p b : Nat) : ∀ m g, alk (ns.map f) p b m g = alk ns p b m g
  | 0, g => rfl
  | m + 1, g => by
    unfold alk
    rw [alk_map ns p b m (g + 1)]
    by_cases h : ns[p + g]? = ns[p + g - b]?
    · rw [if_pos h, if_pos ((map_at hf ns _ _).mpr h)]
    · rw [if_neg h, if_neg fun z => h ((map_at hf ns _ _).mp z)]
theorem lcp_map (ns : List Int) (p m : Nat) : ∀ l c, lcp (ns.map f) p m l c = lcp ns p m l c
  | [], c => rfl
  | b :: r, c => by
    unfold lcp alike
    rw [alk_map hf, lcp_map ns p m r, lcp_map ns p m r]
    by_cases h : ns[p]? = ns[p - b]?
    · rw [if_pos h, if_pos ((map_at hf ns _ _).mpr h)]
    · rw [if_neg h, if_neg fun z => h ((map_at hf ns _ _).mp z)]
theorem longest_map (ns : List Int) (p : Nat) : longest (ns.map f) p = longest ns p := by
  unfold longest mostAt
  rw [lcp_map hf, List.length_map]
theorem pcs_map (ns : List Int) : ∀ m p, (pcs (ns.map f) m p).filterMap copyV = (pcs ns m p).filterMap copyV
  | 0, p => rfl
  | m + 1, p => by
    unfold pcs
    rw [longest_map hf, List.length_map]
    by_cases h : p < ns.length
    · rw [if_pos h, if_pos h]
      by_cases h3 : 3 ≤ (longest ns p).2
      · rw [if_pos h3, if_pos h3, List.filterMap_cons, List.filterMap_cons, pcs_map ns m]
      · rw [if_neg h3, if_neg h3, List.filterMap_cons, List.filterMap_cons, pcs_map ns m]
        rfl
    · rw [if_neg h, if_neg h]
end
end L2.BR

namespace L2.BR
open PySem PySem.Spec PyProof.Rows L2.BP
variable {K : PySem.W.Frag} {W : WX} {vs : List V} {H : Hp} {Q : VK} {E : XK}
/-! ### windows -/
def Tg.isWin : Tg → Bool
  | .non => true
  | .lst xs => xs.all byteV && decide (xs.length ≤ 255)
  | _ => false
def Tg.items : Tg → List V
  | .lst xs => xs
  | _ => []
def sp_need_window (K : PySem.W.Frag) : Sp := fun vs H Q E => ∃ (v : V) (g : Tg), vs = [v] ∧ Th K H v g ∧ Tg.ok K H g ∧
  (Tg.isWin g = true → RetL H Q (Tg.items g)) ∧ (Tg.isWin g = false → ∀ H', Same H H' → E (.ref (He.ga K "BadRow")) none H')
theorem len_need_window (h : sp_need_window K vs H Q E) : vs.length = 1 := by
  obtain ⟨v, g, rfl, _⟩ := h
  rfl
def t_need_window (K : PySem.W.Frag) (W : WX) : TS :=
  (tSeq (tIfS (tTest (tOp rIsU (tVar 0) (tC .non))) (tRet (tLst tNil)) tNext)
    (tSeq (tIfS ((tOr (tNot (tB (tCl (sp_is_row K) [] W (tCons (tVar 0) tNil)))) (tTest (tOp rGtU (tCB (rLenK K) (tCons (tVar 0) tNil)) (tC (.int 255)))))) (tRz (He.ga K "BadRow") W) tNext)
    (tRet (tCB (rListK K) (tCons (tVar 0) tNil)))))
theorem rd_need_window (h : sp_need_window K vs H Q E) : t_need_window K (fun c d _ H2 => E c d H2) { nx := fun _ H' => Q .non H', rt := Q } (start ["before"] vs) H := by
  obtain ⟨v, g, rfl, hT, hok, q, qe⟩ := h
  have hs := Hs.start H
  unfold t_need_window
  cases hT with
  | non =>
    walk_at "go"
    rename_i p H2 h2
    exact h2.rl (.head _) (q rfl)
  | @lst a xs z =>
    walk_at "go"
    refine ⟨.ref a, .lst xs, rfl, .lst z, hok, retV hs fun H1 h1 => ?_⟩
    walk_at "go"
    have z1 := h1.bl z
    cases e : Tg.isRow (.lst xs) with
    | false =>
      walk_at "go"
      exact qe (by simp only [Tg.isWin]; rw [show xs.all byteV = false from e]; rfl) _ h1.ex
    | true =>
      walk_at "go"
      by_cases hl : xs.length ≤ 255
      · refine i_f (decide_eq_false (by omega)) ?_
        walk_at "go"
        rename_i p H2 h2
        exact h2.rl (.head _) (q (by simp only [Tg.isWin]; rw [show xs.all byteV = true from e, decide_eq_true hl]; rfl))
      · refine i_t (decide_eq_true (by omega)) ?_
        walk_at "go"
        exact qe (by simp only [Tg.isWin]; rw [decide_eq_false hl, Bool.and_false]) _ h1.ex
  | bl b => walk_at "go"; refine ⟨_, _, rfl, .bl b, trivial, retV hs fun H1 h1 => ?_⟩; walk_at "go"; exact qe rfl _ h1.ex
  | int b => walk_at "go"; refine ⟨_, _, rfl, .int b, trivial, retV hs fun H1 h1 => ?_⟩; walk_at "go"; exact qe rfl _ h1.ex
  | str b => walk_at "go"; refine ⟨_, _, rfl, .str b, trivial, retV hs fun H1 h1 => ?_⟩; walk_at "go"; exact qe rfl _ h1.ex
  | tup z => walk_at "go"; refine ⟨_, _, rfl, .tup z, trivial, retV hs fun H1 h1 => ?_⟩; walk_at "go"; exact qe rfl _ h1.ex
  | dic z => walk_at "go"; refine ⟨_, _, rfl, .dic z, trivial, retV hs fun H1 h1 => ?_⟩; walk_at "go"; exact qe rfl _ h1.ex
theorem opt_getD {ns : List Int} {i j : Nat} (hi : i < ns.length) (hj : j < ns.length) : (ns[i]? = ns[j]?) ↔ (ns.getD i 0 = ns.getD j 0) := by
  rw [List.getD_eq_getElem?_getD, List.getD_eq_getElem?_getD, List.getElem?_eq_getElem hi, List.getElem?_eq_getElem hj]
  simp
def sp_alike_size (K : PySem.W.Frag) : Sp := fun vs H Q _ => ∃ (a : Addr) (ns : List Int) (p b most : Nat), vs = [.ref a, .int ((p : Nat) : Int), .int ((b : Nat) : Int), .int ((most : Nat) : Int)] ∧ SqL K H a (ns.map V.int) ∧ b ≤ p ∧ p + most ≤ ns.length ∧
  RetV H Q (.int ((alike ns p b most : Nat) : Int))
theorem len_alike_size (h : sp_alike_size K vs H Q E) : vs.length = 4 := by
  obtain ⟨a, ns, p, b, most, rfl, _⟩ := h
  rfl
def t_alike_size (K : PySem.W.Frag) (W : WX) : TS :=
  (tSeq (tAsg (tC (.int 0)) (gName 4))
    (tSeq (tWhile ((tAnd (tTest (tOp rLtU (tVar 4) (tVar 3))) (tTest (tOp (rEqU K) (tOp (rIx K) (tVar 0) (tOp rAddU (tVar 1) (tVar 4))) (tOp (rIx K) (tVar 0) (tOp rSubU (tOp rAddU (tVar 1) (tVar 4)) (tVar 2))))))) (tAug 4 (tC (.int 1)) ipAddU))
    (tRet (tVar 4))))
theorem rd_alike_size (h : sp_alike_size K vs H Q E) : t_alike_size K W { nx := fun _ H' => Q .non H', rt := Q } (start ["signs", "place", "back", "most", "found"] vs) H := by
  obtain ⟨a, ns, p, b, most, rfl, hS, hb, hm, q⟩ := h
  have hs := Hs.start H
  unfold t_alike_size
  walk_at "go"
  refine w_while (fun m σ' L' B' => ∃ f : Nat, f + m = most ∧ alk ns p b m f = alike ns p b most ∧ σ' = [some (.ref a), some (.int p), some (.int b), some (.int most), some (.int f)] ∧ B' = H ∧ L' = []) most hs ⟨0, by omega, rfl, rfl, rfl, rfl⟩ ?_
  rintro m σ' L' B' H' ⟨f, hf, hk, rfl, rfl, rfl⟩ h
  have hS' := h.bl hS
  walk_at "go"
  by_cases hlt : f < most
  · refine i_t (decide_eq_true (by omega)) ?_
    obtain ⟨m, rfl⟩ : ∃ m', m = m' + 1 := ⟨m - 1, by omega⟩
    have i1 : atI (ns.map V.int) (((p : Nat) : Int) + ((f : Nat) : Int)) = some (.int (ns.getD (p + f) 0)) := at_i (by omega) (by omega)
    have i2 : atI (ns.map V.int) (((p : Nat) : Int) + ((f : Nat) : Int) - ((b : Nat) : Int)) = some (.int (ns.getD (p + f - b) 0)) := at_i (by omega) (by omega)
    walk_at "go"
    unfold alk at hk
    by_cases he : ns[p + f]? = ns[p + f - b]?
    · rw [if_pos he] at hk
      refine i_t (decide_eq_true (getD_of he)) (w_turn ?_)
      walk_at "go"
      exact ⟨m, by omega, _, _, ⟨f + 1, by omega, hk, rfl, rfl, rfl⟩, h⟩
    · rw [if_neg he] at hk
      refine i_f (decide_eq_false fun z => he ((opt_getD (by omega) (by omega)).mpr z)) ?_
      walk_at "go"
      rw [hk]
      exact q _ h.ex
  · refine i_f (decide_eq_false (by omega)) ?_
    walk_at "go"
    rw [show m = 0 by omega] at hk
    unfold alk at hk
    rw [hk]
    exact q _ h.ex
theorem backs_split {p i : Nat} (h : i < min 255 p) : (backs p).drop i = (1 + i) :: (backs p).drop (i + 1) := by
  have l : i < (backs p).length := by unfold backs; simpa using h
  rw [List.drop_eq_getElem_cons l]
  have e : (backs p)[i] = 1 + i := by
    simp [backs]
    omega
  rw [e]
theorem backs_all {p : Nat} : (backs p).drop (min 255 p) = [] := List.drop_of_length_le (by unfold backs; simp)
def sp_longest_copy (K : PySem.W.Frag) : Sp := fun vs H Q _ => ∃ (a : Addr) (ns : List Int) (p : Nat), vs = [.ref a, .int ((p : Nat) : Int)] ∧ SqL K H a (ns.map V.int) ∧ p < ns.length ∧ ns.length ≤ 200000 ∧
  RetT H Q [.int (((longest ns p).1 : Nat) : Int), .int (((longest ns p).2 : Nat) : Int)]
theorem len_longest_copy (h : sp_longest_copy K vs H Q E) : vs.length = 2 := by
  obtain ⟨a, ns, p, rfl, _⟩ := h
  rfl
def t_longest_copy (K : PySem.W.Frag) (W : WX) : TS :=
  (tSeq (tAsg (tCB (rMin2K) (tCons (tC (.int 18)) (tCons (tOp rSubU (tCB (rLenK K) (tCons (tVar 0) tNil)) (tVar 1)) tNil))) (gName 2))
    (tSeq (tAsg (tTup (tCons (tC (.int 0)) (tCons (tC (.int 0)) tNil))) (gName 3))
    (tSeq (tFor (iRng2 (tCons (tC (.int 1)) (tCons (tOp rAddU (tCB (rMin2K) (tCons (tC (.int 255)) (tCons (tVar 1) tNil))) (tC (.int 1))) tNil))) (gName 4) (tSeq (tIfS (tTest (tOp (rNeU K) (tOp (rIx K) (tVar 0) (tVar 1)) (tOp (rIx K) (tVar 0) (tOp rSubU (tVar 1) (tVar 4))))) (tCont) tNext)
    (tSeq (tAsg (tCl (sp_alike_size K) [] W (tCons (tVar 0) (tCons (tVar 1) (tCons (tVar 4) (tCons (tVar 2) tNil))))) (gName 5))
    (tSeq (tIfS (tTest (tOp rGtU (tVar 5) (tOp (rIx K) (tVar 3) (tC (.int 1))))) (tAsg (tTup (tCons (tVar 4) (tCons (tVar 5) tNil))) (gName 3)) tNext)
    (tIfS (tTest (tOp (rEqU K) (tVar 5) (tVar 2))) (tBreak) tNext)))))
    (tRet (tVar 3)))))
theorem rd_longest_copy (h : sp_longest_copy K vs H Q E) : t_longest_copy K W { nx := fun _ H' => Q .non H', rt := Q } (start ["signs", "place", "most", "found", "back", "size"] vs) H := by
  obtain ⟨a, ns, p, rfl, hS, hp, hl, q⟩ := h
  have hs := Hs.start H
  unfold t_longest_copy
  walk_at "go"
  rw [List.length_map, show (if ((ns.length : Nat) : Int) - ((p : Nat) : Int) < 18 then ((ns.length : Nat) : Int) - ((p : Nat) : Int) else 18) = ((mostAt ns p : Nat) : Int) by unfold mostAt; split <;> omega]
  rename_i t0 H0 h0
  have hm : mostAt ns p ≤ ns.length - p ∧ mostAt ns p ≤ 18 := by unfold mostAt; omega
  have e1 : (if ((p : Nat) : Int) < 255 then ((p : Nat) : Int) else 255) + 1 = ((min 255 p + 1 : Nat) : Int) := by split <;> omega
  rw [e1]
  refine ⟨1, _, rfl, ⟨by decide, by decide, by omega, by omega⟩, ?_⟩
  have e2 : (((min 255 p + 1 : Nat) : Int) - 1).toNat = min 255 p := by omega
  rw [e2]
  refine w_forR (fun i σ' L' B' => ∃ (c : Nat × Nat) (t : Addr) (w4 w5 : Option V), lcp ns p (mostAt ns p) ((backs p).drop i) c = longest ns p ∧ σ' = [some (.ref a), some (.int p), some (.int ((mostAt ns p : Nat) : Int)), some (.ref t), w4, w5] ∧ B' = H ∧
    L' = [(t, .tup [.int ((c.1 : Nat) : Int), .int ((c.2 : Nat) : Int)])]) h0 ⟨(0, 0), t0, none, none, rfl, rfl, rfl, rfl⟩ ?_ ?_
  · rintro i σ' L' B' H' hi ⟨c, t, w4, w5, hc, rfl, rfl, rfl⟩ h
    rw [backs_split hi] at hc
    have hS' := h.bl hS
    have i1 : atI (ns.map V.int) ((p : Nat) : Int) = some (.int (ns.getD p 0)) := at_nat hp
    have i2 : atI (ns.map V.int) (((p : Nat) : Int) - (1 + ((i : Nat) : Int))) = some (.int (ns.getD (p - (1 + i)) 0)) := at_i (by omega) (by omega)
    unfold lcp at hc
    walk_at "go"
    by_cases he : ns[p]? = ns[p - (1 + i)]?
    · rw [if_pos he] at hc
      refine i_f (ne_f (getD_of he)) ?_
      walk_at "go"
      refine ⟨a, ns, p, 1 + i, mostAt ns p, rfl, hS', by omega, by omega, retV h fun H2 h2 => ?_⟩
      clear h
      have ht2 := h2.sqt (K := K) (.head _)
      walk_at "go"
      by_cases c1 : c.2 < alike ns p (1 + i) (mostAt ns p)
      · rw [if_pos c1] at hc
        refine i_t (decide_eq_true (by omega)) ?_
        walk_at "go"
        rename_i t3 H3 h3
        have h4 := h3.drop1
        by_cases c2 : alike ns p (1 + i) (mostAt ns p) = mostAt ns p
        · rw [if_pos c2] at hc
          refine i_t (decide_eq_true (by omega)) ?_
          rw [← hc] at q
          walk_at "go"
          exact h4.rt (.head _) q
        · rw [if_neg c2] at hc
          refine i_f (decide_eq_false (by omega)) ?_
          walk_at "go"
          exact ⟨_, _, ⟨_, t3, _, _, hc, rfl, rfl, rfl⟩, h4⟩
      · rw [if_neg c1] at hc
        refine i_f (decide_eq_false (by omega)) ?_
        walk_at "go"
        by_cases c2 : alike ns p (1 + i) (mostAt ns p) = mostAt ns p
        · rw [if_pos c2] at hc
          refine i_t (decide_eq_true (by omega)) ?_
          rw [← hc] at q
          walk_at "go"
          exact h2.rt (.head _) q
        · rw [if_neg c2] at hc
          refine i_f (decide_eq_false (by omega)) ?_
          walk_at "go"
          exact ⟨_, _, ⟨c, t, _, _, hc, rfl, rfl, rfl⟩, h2⟩
    · rw [if_neg he] at hc
      refine i_t (by rw [decide_eq_false fun z => he ((opt_getD (by omega) (by omega)).mpr z)]; rfl) ?_
      walk_at "go"
      exact ⟨_, _, ⟨c, t, _, _, hc, rfl, rfl, rfl⟩, h⟩
  · rintro σ' L' B' H' ⟨c, t, w4, w5, hc, rfl, rfl, rfl⟩ h
    rw [backs_all] at hc
    unfold lcp at hc
    rw [← hc] at q
    walk_at "go"
    exact h.rt (.head _) q
/-- rows handed over -/
theorem isWin_ints {ns : List Int} (h : Bytes ns) (hl : ns.length ≤ 255) : Tg.isWin (.lst (ns.map V.int)) = true := by
  simp only [Tg.isWin]
  rw [all_byteV h, decide_eq_true (by rw [List.length_map]; exact hl)]
  rfl
def sp_pieces_of (K : PySem.W.Frag) : Sp := fun vs H Q E => ∃ (B : Hp) (L : Pic) (v w : V) (g k : Tg), vs = [v, w] ∧ Hs B L H ∧ Th K H v g ∧ Tg.ok K H g ∧ Th K H w k ∧ Tg.ok K H k ∧
  (∀ ts ws : List Int, g = .lst (ts.map V.int) → Bytes ts → Tg.isWin k = true → Tg.items k = ws.map V.int → ∀ B2 p xs H', Same B B2 → Tups K B2 xs ((pcs (ws ++ ts) (ts.length) ws.length).map pcV) → Hs B2 ((p, .lst xs) :: L) H' → Q (.ref p) H') ∧
  ((Tg.isRow g = false ∨ Tg.isWin k = false) → ∀ H', Hs B L H' → E (.ref (He.ga K "BadRow")) none H')
theorem len_pieces_of (h : sp_pieces_of K vs H Q E) : vs.length = 2 := by
  obtain ⟨B, L, v, w, g, k, rfl, _⟩ := h
  rfl
theorem Tg.ok_same {g : Tg} {H' : Hp} (e : Same H H') (h : Tg.ok K H g) : Tg.ok K H' g := by
  cases g with
  | lst xs => exact ⟨fun x hx => (h.1 x hx).elim fun g hg => ⟨g, hg.same e⟩, h.2⟩
  | _ => trivial
theorem row_ints {g : Tg} (h : Tg.isRow g = true) : ∃ ns : List Int, g = .lst (ns.map V.int) ∧ Bytes ns := by
  cases g with
  | lst xs =>
    obtain ⟨ns, e, hb⟩ := ints_of (show xs.all byteV = true from h)
    exact ⟨ns, by rw [e], hb⟩
  | _ => cases h
theorem win_ints {g : Tg} (h : Tg.isWin g = true) : ∃ ns : List Int, Tg.items g = ns.map V.int ∧ Bytes ns ∧ ns.length ≤ 255 := by
  cases g with
  | non => exact ⟨[], rfl, fun _ h => (nomatch h), Nat.zero_le _⟩
  | lst xs =>
    have h1 : (xs.all byteV && decide (xs.length ≤ 255)) = true := h
    rw [Bool.and_eq_true, decide_eq_true_eq] at h1
    obtain ⟨ns, e, hb⟩ := ints_of h1.1
    exact ⟨ns, e, hb, by rw [e, List.length_map] at h1; exact h1.2⟩
  | _ => cases h
def t_pieces_of (K : PySem.W.Frag) (W : WX) : TS :=
  (tSeq (tAsg (tCl (sp_need_row K) [] W (tCons (tVar 0) tNil)) (gName 2))
    (tSeq (tAsg (tCl (sp_need_window K) [] W (tCons (tVar 1) tNil)) (gName 3))
    (tSeq (tAsg (tCB (rLenK K) (tCons (tVar 3) tNil)) (gName 4))
    (tSeq (tAug 3 (tVar 2) ipAddU)
    (tSeq (tAsg (tLst tNil) (gName 5))
    (tSeq (tWhile (tTest (tOp rLtU (tVar 4) (tCB (rLenK K) (tCons (tVar 3) tNil)))) (tSeq (tAsg (tCl (sp_longest_copy K) [] W (tCons (tVar 3) (tCons (tVar 4) tNil))) (gTup K 2 (gCons (gName 6) (gCons (gName 7) gNil))))
    (tIfS (tTest (tOp rGeU (tVar 7) (tC (.int 3)))) (tSeq (tDrop (tBM K "list" rAppend (tVar 5) (tCons (tTup (tCons (tC (.str "copy")) (tCons (tVar 6) (tCons (tVar 7) tNil)))) tNil)))
    (tAug 4 (tVar 7) ipAddU)) (tSeq (tDrop (tBM K "list" rAppend (tVar 5) (tCons (tTup (tCons (tC (.str "sign")) (tCons (tOp (rIx K) (tVar 3) (tVar 4)) tNil))) tNil)))
    (tAug 4 (tC (.int 1)) ipAddU)))))
    (tRet (tVar 5))))))))
theorem rd_pieces_of (h : sp_pieces_of K vs H Q E) : t_pieces_of K (fun c d _ H2 => E c d H2) { nx := fun _ H' => Q .non H', rt := Q } (start ["text", "before", "row", "signs", "place", "found", "back", "size"] vs) H := by
  obtain ⟨B, L, v, w, g, k, rfl, hs, hT, hok, hT2, hok2, q, qe⟩ := h
  unfold t_pieces_of
  walk_at "go"
  refine ⟨v, g, rfl, hT, hok, fun xs e hr => ?_, fun hr H' e => qe (.inl hr) H' (hs.same e)⟩
  obtain ⟨ts, e2, hb⟩ := row_ints hr
  have hx : xs = ts.map V.int := by rw [e] at e2; exact Tg.lst.inj e2
  subst hx
  have q := fun ws => q ts ws e hb
  have hlt : ts.length ≤ 100000 := by rw [e] at hok; have := hok.2; rw [List.length_map] at this; exact this
  intro r H1 hn1 e1 hr1
  have h1 := hs.newS hn1 e1 hr1
  walk_at "go"
  refine ⟨w, k, rfl, hT2.same e1, Tg.ok_same e1 hok2, fun hw => ?_, fun hw H' e => qe (.inr hw) H' (hs.same (e1.trans e))⟩
  obtain ⟨ws, e3, hb3, hl3⟩ := win_ints hw
  have q := q ws hw e3
  rw [e3]
  refine retL h1 fun s H2 h2 => ?_
  clear h1 hs
  walk_at "go"
  refine c_ext0 h2 (h2.get (.tail _ (.head _))) ?_ fun H3 h3 => ?_
  · rw [List.length_map, List.length_map]
    exact small6' (by omega)
  clear h2
  rw [← List.map_append] at h3
  have h4 := h3.drop1
  clear h3
  walk_at "go"
  rename_i f H4 h5
  rw [List.length_map]
  have hla : (ws ++ ts).length = ws.length + ts.length := List.length_append
  refine w_while (fun m σ' L' B' => ∃ (p : Nat) (qs : List Pc) (acc : List V) (w6 w7 : Option V), pcs (ws ++ ts) ts.length ws.length = qs ++ pcs (ws ++ ts) m p ∧ p ≤ (ws ++ ts).length ∧ (ws ++ ts).length ≤ p + m ∧ qs.length ≤ p ∧
    Same B B' ∧ Tups K B' acc (qs.map pcV) ∧ σ' = [some v, some w, some (.ref r), some (.ref s), some (.int ((p : Nat) : Int)), some (.ref f), w6, w7] ∧ L' = (f, .lst acc) :: (s, .lst ((ws ++ ts).map V.int)) :: L) ts.length h5
    ⟨ws.length, [], [], none, none, rfl, by omega, by omega, Nat.zero_le _, Same.refl _, .nil, rfl, rfl⟩ ?_
  rintro m σ' L' B' H' ⟨p, qs, acc, w6, w7, hq, hp1, hp2, hp3, hB, hT, rfl, rfl⟩ h
  have hal : acc.length = qs.length := by rw [hT.length, List.length_map]
  walk_at "go"
  rw [List.length_map]
  by_cases hlt : p < (ws ++ ts).length
  · refine i_t (decide_eq_true (by omega)) (w_turn ?_)
    obtain ⟨m, rfl⟩ : ∃ m', m = m' + 1 := ⟨m - 1, by omega⟩
    walk_at "go"
    refine ⟨s, ws ++ ts, p, rfl, h.sql (.tail _ (.head _)), hlt, by omega, retT h fun t H5 h6 => ?_⟩
    have ht6 := h6.sqt (K := K) (.head _)
    have h7 := h6.drop
    have hs7 := h7.sql (K := K) (.tail _ (.head _))
    have hix := at_nat hlt
    clear h6 h
    walk_at "go"
    by_cases h3 : 3 ≤ (longest (ws ++ ts) p).2
    · refine i_t (decide_eq_true (by omega)) ?_
      rw [pcs_copy hlt h3] at hq
      have hz := longest_size (ws ++ ts) p
      unfold mostAt at hz
      walk_at "go"
      rename_i u H6 h8
      have hn := h8.nb (.head _)
      refine c_app0 h8.fix (small6 (by omega)) fun H7 h9 => ?_
      walk_at "go"
      refine ⟨m, by omega, _, _, ⟨p + (longest (ws ++ ts) p).2, qs ++ [.copy (longest (ws ++ ts) p).1 (longest (ws ++ ts) p).2], _, _, _, by rw [hq, List.append_assoc]; rfl, by omega, by omega, by rw [List.length_append, List.length_singleton]; omega, hB.trans (same_upd hn), ?_, rfl, rfl⟩, h9⟩
      rw [List.map_append]
      exact hT.snocFix hn
    · refine i_f (decide_eq_false (by omega)) ?_
      rw [pcs_sign hlt h3] at hq
      walk_at "go"
      rename_i u H6 h8
      have hn := h8.nb (.head _)
      refine c_app0 h8.fix (small6 (by omega)) fun H7 h9 => ?_
      walk_at "go"
      refine ⟨m, by omega, _, _, ⟨p + 1, qs ++ [.sign ((ws ++ ts).getD p 0)], _, _, _, by rw [hq, List.append_assoc]; rfl, by omega, by omega, by rw [List.length_append, List.length_singleton]; omega, hB.trans (same_upd hn), ?_, rfl, rfl⟩, h9⟩
      rw [List.map_append]
      exact hT.snocFix hn
  · refine i_f (decide_eq_false (by omega)) ?_
    walk_at "go"
    rw [pcs_end (ns := ws ++ ts) (p := p) (by omega), List.append_nil] at hq
    rw [← hq] at hT
    exact q B' f acc H' hB hT h.drop1
theorem tups_item {α : Type} {f : α → List V} {ps : List α} {acc pre post : List V} {x : V} (h : Tups K H acc (ps.map f)) (e : acc = pre ++ x :: post) : ∃ a p, x = .ref a ∧ ps[pre.length]? = some p ∧ SqT K H a (f p) := by
  subst e
  obtain ⟨a, p1, xs, p2, rfl, e2, e3, e4⟩ := h.split
  have z : (ps.map f)[pre.length]? = some xs := by rw [e2, ← e3]; simp
  rw [List.getElem?_map] at z
  cases e5 : ps[pre.length]? with
  | none => rw [e5] at z; cases z
  | some p =>
    rw [e5] at z
    cases z
    exact ⟨a, p, rfl, rfl, e4⟩
end L2.BR

namespace L2.BR
open PySem PySem.Spec PyProof.Rows L2.BP
variable {K : PySem.W.Frag} {W : WX} {vs : List V} {H : Hp} {Q : VK} {E : XK}
/-! ### ways: texts and windows of a block -/
def sp_need_text (K : PySem.W.Frag) : Sp := fun vs H Q _ => ∃ (a : Addr) (ns : List Int), vs = [.ref a] ∧ SqL K H a (ns.map V.int) ∧ Bytes ns ∧ 1 ≤ ns.length ∧ ns.length ≤ 64 ∧ RetL H Q (ns.map V.int)
theorem len_need_text (h : sp_need_text K vs H Q E) : vs.length = 1 := by
  obtain ⟨a, ns, rfl, _⟩ := h
  rfl
def t_need_text (K : PySem.W.Frag) (W : WX) : TS :=
  (tSeq (tAsg (tCl (sp_need_row K) [] W (tCons (tVar 0) tNil)) (gName 1))
    (tSeq (tIfS (tNot (tTest (tChain rLeU rLeU (tC (.int 1)) (tCB (rLenK K) (tCons (tVar 1) tNil)) (tC (.int 64))))) (tRz (He.ga K "BadRow") W) tNext)
    (tRet (tVar 1))))
theorem rd_need_text (h : sp_need_text K vs H Q E) : t_need_text K (fun c d _ H2 => E c d H2) { nx := fun _ H' => Q .non H', rt := Q } (start ["text", "found"] vs) H := by
  obtain ⟨a, ns, rfl, hS, hb, h1, h2, q⟩ := h
  have hs := Hs.start H
  unfold t_need_text
  walk_at "go"
  refine ⟨.ref a, _, rfl, .lst hS, ok_ints (by omega), fun xs e _ => ?_, fun z => ?_⟩
  rotate_left
  · rw [show Tg.isRow (.lst (ns.map V.int)) = true from all_byteV hb] at z
    cases z
  cases Tg.lst.inj e
  refine retL hs fun p H1 h3 => ?_
  walk_at "go"
  rw [List.length_map]
  refine i_t (decide_eq_true (by omega)) ?_
  walk_at "go"
  exact h3.rl (.head _) q
/-- what a block's window may be -/
def WinW (g : Tg) (ws : List Int) : Prop := (g = .non ∧ ws = []) ∨ (g = .lst (ws.map V.int) ∧ Bytes ws ∧ ws.length ≤ 192)
def sp_need_window_ways (K : PySem.W.Frag) : Sp := fun vs H Q _ => ∃ (v : V) (g : Tg) (ws : List Int), vs = [v] ∧ Th K H v g ∧ WinW g ws ∧ RetL H Q (ws.map V.int)
theorem len_need_window_ways (h : sp_need_window_ways K vs H Q E) : vs.length = 1 := by
  obtain ⟨v, g, ws, rfl, _⟩ := h
  rfl
def t_need_window_ways (K : PySem.W.Frag) (W : WX) : TS :=
  (tSeq (tIfS (tTest (tOp rIsU (tVar 0) (tC .non))) (tRet (tLst tNil)) tNext)
    (tSeq (tAsg (tCl (sp_need_row K) [] W (tCons (tVar 0) tNil)) (gName 1))
    (tSeq (tIfS (tTest (tOp rGtU (tCB (rLenK K) (tCons (tVar 1) tNil)) (tC (.int 192)))) (tRz (He.ga K "BadRow") W) tNext)
    (tRet (tVar 1)))))
theorem rd_need_window_ways (h : sp_need_window_ways K vs H Q E) : t_need_window_ways K (fun c d _ H2 => E c d H2) { nx := fun _ H' => Q .non H', rt := Q } (start ["before", "found"] vs) H := by
  obtain ⟨v, g, ws, rfl, hT, hw, q⟩ := h
  have hs := Hs.start H
  unfold t_need_window_ways
  rcases hw with ⟨rfl, rfl⟩ | ⟨rfl, hb, hl⟩
  · cases hT
    walk_at "go"
    rename_i p H1 h1
    exact h1.rl (.head _) q
  · cases hT with
    | @lst a xs z =>
      walk_at "go"
      refine ⟨.ref a, _, rfl, .lst z, ok_ints (by omega), fun xs e _ => ?_, fun y => ?_⟩
      rotate_left
      · rw [show Tg.isRow (.lst (ws.map V.int)) = true from all_byteV hb] at y
        cases y
      cases Tg.lst.inj e
      refine retL hs fun p H1 h3 => ?_
      walk_at "go"
      rw [List.length_map]
      refine i_f (decide_eq_false (by omega)) ?_
      walk_at "go"
      exact h3.rl (.head _) q
end L2.BR

namespace L2.BR
open PySem PySem.Spec PyProof.Rows L2.BP
variable {K : PySem.W.Frag} {W : WX} {vs : List V} {H : Hp} {Q : VK} {E : XK}
/-! ### the copy way -/
def sp_lay_copy (K : PySem.W.Frag) : Sp := fun vs H Q _ => ∃ (B : Hp) (L : Pic) (a : Addr) (l : List Int) (b s e : Nat), vs = [.ref a, .int ((b : Nat) : Int), .int ((s : Nat) : Int), .int ((e : Nat) : Int)] ∧ Hs B ((a, .lst (l.map V.int)) :: L) H ∧ 1 ≤ b ∧ b ≤ l.length ∧ l.length + s ≤ e ∧ e ≤ 10000 ∧
  ∀ H', Hs B ((a, .lst ((cpy b s l).map V.int)) :: L) H' → Q .non H'
theorem len_lay_copy (h : sp_lay_copy K vs H Q E) : vs.length = 4 := by
  obtain ⟨B, L, a, l, b, s, e, rfl, _⟩ := h
  rfl
def t_lay_copy (K : PySem.W.Frag) (W : WX) : TS :=
  (tSeq (tIfS ((tOr (tTest (tOp (rEqU K) (tVar 1) (tC (.int 0)))) (tOr (tTest (tOp rGtU (tVar 1) (tCB (rLenK K) (tCons (tVar 0) tNil)))) (tTest (tOp rGtU (tOp rAddU (tCB (rLenK K) (tCons (tVar 0) tNil)) (tVar 2)) (tVar 3)))))) (tRz (He.ga K "BadBody") W) tNext)
    (tFor (iRng1 (tCons (tVar 2) tNil)) (gName 4) (tDrop (tBM K "list" rAppend (tVar 0) (tCons (tOp (rIx K) (tVar 0) (tOp rSubU (tCB (rLenK K) (tCons (tVar 0) tNil)) (tVar 1))) tNil)))))
theorem rd_lay_copy (h : sp_lay_copy K vs H Q E) : t_lay_copy K (fun c d _ H2 => E c d H2) { nx := fun _ H' => Q .non H', rt := Q } (start ["signs", "back", "size", "end", "turn"] vs) H := by
  obtain ⟨B, L, a, l, b, s, e, rfl, hs, hb, hbl, hle, he, q⟩ := h
  unfold t_lay_copy
  walk_at "go"
  rw [List.length_map]
  refine i_f (decide_eq_false (by omega)) ?_
  walk_at "go"
  rw [List.length_map]
  refine i_f (decide_eq_false (by omega)) ?_
  walk_at "go"
  refine ⟨_, rfl, by omega, by omega, ?_⟩
  rw [Int.toNat_natCast]
  refine w_forR (fun i σ' L' B' => ∃ w4, σ' = [some (.ref a), some (.int ((b : Nat) : Int)), some (.int ((s : Nat) : Int)), some (.int ((e : Nat) : Int)), w4] ∧ B' = B ∧ L' = (a, .lst ((cpy b i l).map V.int)) :: L) hs ⟨none, rfl, rfl, rfl⟩ ?_ ?_
  · rintro i σ' L' B' H' hi ⟨w4, rfl, rfl, rfl⟩ h
    have hcl := cpy_length b i l
    walk_at "go"
    rw [List.length_map]
    refine c_ixL (h.sql (.head _)) (at_i (k := (cpy b i l).length - b) (by omega) (by omega)) ?_
    walk_at "go"
    refine c_app0 h (small6 (by rw [List.length_map]; omega)) fun H2 h2 => ?_
    refine ⟨_, _, ⟨_, rfl, rfl, ?_⟩, h2⟩
    rw [cpy_succ, List.map_append]
    rfl
  · rintro σ' L' B' H' ⟨w4, rfl, rfl, rfl⟩ h
    exact q H' h
theorem winW_win {g : Tg} {ws : List Int} (h : Bytes ws) (hl : ws.length ≤ 192) : Tg.isWin (.lst (ws.map V.int)) = true := isWin_ints h (by omega)
theorem WinW.bytes {g : Tg} {ws : List Int} (h : WinW g ws) : Bytes ws ∧ ws.length ≤ 192 := by
  rcases h with ⟨_, rfl⟩ | ⟨_, h1, h2⟩
  · exact ⟨fun _ h => (nomatch h), Nat.zero_le _⟩
  · exact ⟨h1, h2⟩
end L2.BR

namespace L2.BR
open PySem PySem.Spec PyProof.Rows L2.BP
/-! ### tables of lengths -/
def Tab (ls : List Int) : Prop := ls.length = 272 ∧ ∀ x ∈ ls, 0 ≤ x ∧ x ≤ 6
/-- how many stand at the beginning that are x -/
def lead (x : Int) : List Int → Nat
  | [] => 0
  | y :: r => if y = x then lead x r + 1 else 0
theorem lead_cons (x y : Int) (r : List Int) : lead x (y :: r) = if y = x then lead x r + 1 else 0 := rfl
theorem lead_le (x : Int) : ∀ l, lead x l ≤ l.length
  | [] => Nat.le_refl _
  | y :: r => by
    have := lead_le x r
    unfold lead
    split <;> simp <;> omega
theorem lead_take (x : Int) : ∀ (l : List Int) (k : Nat), k ≤ lead x l → l.take k = List.replicate k x
  | _, 0, _ => by simp
  | [], k + 1, h => by simp [lead] at h
  | y :: r, k + 1, h => by
    unfold lead at h
    by_cases e : y = x
    · rw [if_pos e] at h
      rw [List.take_succ_cons, lead_take x r k (by omega), List.replicate_succ, e]
    · rw [if_neg e] at h
      omega
theorem lead_drop (x : Int) : ∀ (l : List Int) (k : Nat), k ≤ lead x l → lead x (l.drop k) = lead x l - k
  | _, 0, _ => by simp
  | [], k + 1, h => by simp [lead] at h
  | y :: r, k + 1, h => by
    unfold lead at h
    by_cases e : y = x
    · rw [if_pos e] at h
      rw [List.drop_succ_cons, lead_drop x r k (by omega)]
      conv => rhs; unfold lead
      rw [if_pos e]
      omega
    · rw [if_neg e] at h
      omega
def more (x : Int) (l : List Int) : Nat := min 66 (lead x l)
/-- the bits of a table's rest, behind a length -/
def enc : Nat → Int → List Int → List Bool
  | 0, _, _ => []
  | _ + 1, _, [] => []
  | n + 1, last, x :: r => if 3 ≤ more last (x :: r) then bitsOf 7 3 ++ bitsOf (more last (x :: r) - 3) 6 ++ enc n last ((x :: r).drop (more last (x :: r))) else bitsOf x.toNat 3 ++ enc n x r
theorem enc_fuel : ∀ n m last l, l.length ≤ n → l.length ≤ m → enc n last l = enc m last l
  | 0, 0, _, _, _, _ => rfl
  | 0, m + 1, _, [], _, _ => rfl
  | n + 1, 0, _, [], _, _ => rfl
  | 0, m + 1, _, _ :: _, h, _ => by simp at h
  | n + 1, 0, _, _ :: _, _, h => by simp at h
  | n + 1, m + 1, _, [], _, _ => rfl
  | n + 1, m + 1, last, x :: r, h1, h2 => by
    rw [List.length_cons] at h1 h2
    unfold enc
    by_cases h3 : 3 ≤ more last (x :: r)
    · rw [if_pos h3, if_pos h3, enc_fuel n m last _ (by rw [List.length_drop, List.length_cons]; omega) (by rw [List.length_drop, List.length_cons]; omega)]
    · rw [if_neg h3, if_neg h3, enc_fuel n m x r (by omega) (by omega)]
def encT (last : Int) (l : List Int) : List Bool := enc l.length last l
theorem encT_nil (last : Int) : encT last [] = [] := rfl
theorem more_le (x : Int) (l : List Int) : more x l ≤ lead x l ∧ more x l ≤ l.length ∧ more x l ≤ 66 := by
  have := lead_le x l
  unfold more
  omega
theorem encT_more {last : Int} {l : List Int} (h : 3 ≤ more last l) : encT last l = bitsOf 7 3 ++ bitsOf (more last l - 3) 6 ++ encT last (l.drop (more last l)) := by
  cases l with
  | nil => simp [more, lead] at h
  | cons x r =>
    unfold encT
    rw [List.length_cons]
    conv => lhs; unfold enc
    rw [if_pos h]
    congr 1
    exact enc_fuel _ _ _ _ (by rw [List.length_drop, List.length_cons]; omega) (Nat.le_refl _)
theorem encT_one {last x : Int} {r : List Int} (h : ¬ 3 ≤ more last (x :: r)) : encT last (x :: r) = bitsOf x.toNat 3 ++ encT x r := by
  unfold encT
  rw [List.length_cons]
  conv => lhs; unfold enc
  rw [if_neg h]
/-! the fewest bits -/
def gC (m : Nat) : Nat := 9 * (m / 66) + (if m % 66 < 3 then 3 * (m % 66) else 9)
theorem gC_step : ∀ m, m < 272 → (if 2 < m + 1 then min (gC m + 3) (gC (m + 1 - 66) + 9) else gC m + 3) = gC (m + 1) := by decide +kernel
theorem enc_lead (x : Int) : ∀ (m : Nat) (l : List Int), lead x l = m → (encT x l).length = gC m + (encT x (l.drop m)).length := by
  intro m
  induction m using Nat.strongRecOn with
  | _ m ih =>
    intro l h
    by_cases h3 : 3 ≤ m
    · have hm : more x l = min 66 m := by unfold more; rw [h]
      have h3' : 3 ≤ more x l := by omega
      have hl := more_le x l
      rw [encT_more h3', List.length_append, List.length_append, bitsOf_length, bitsOf_length]
      have e := ih (m - more x l) (by omega) (l.drop (more x l)) (by rw [lead_drop x l _ hl.1, h])
      rw [e, List.drop_drop, show more x l + (m - more x l) = m by omega]
      have : gC m = 9 + gC (m - more x l) := by
        rw [hm]
        unfold gC
        split <;> split <;> omega
      omega
    · by_cases h0 : m = 0
      · subst h0
        rw [List.drop_zero]
        simp [gC]
      · cases l with
        | nil => simp [lead] at h; omega
        | cons y r =>
          unfold lead at h
          by_cases e : y = x
          · rw [if_pos e] at h
            subst e
            have hm : ¬ 3 ≤ more y (y :: r) := by
              have z := (more_le y (y :: r)).1
              unfold lead at z
              rw [if_pos rfl] at z
              omega
            rw [encT_one hm, List.length_append, bitsOf_length, ih (m - 1) (by omega) r (by omega)]
            have e2 : (y :: r).drop m = r.drop (m - 1) := by
              obtain ⟨k, rfl⟩ : ∃ k, m = k + 1 := ⟨m - 1, by omega⟩
              rfl
            rw [e2]
            have : gC m = 3 + gC (m - 1) := by
              unfold gC
              split <;> split <;> omega
            omega
          · rw [if_neg e] at h
            omega
theorem enc_new {x last : Int} {r : List Int} (h : ¬ x = last) : (encT last (x :: r)).length = 3 + (encT x r).length := by
  have hm : ¬ 3 ≤ more last (x :: r) := by
    unfold more lead
    rw [if_neg h]
    simp
  rw [encT_one hm, List.length_append, bitsOf_length]
theorem drop_cons {ls : List Int} {p : Nat} (h : p < ls.length) : ls.drop p = ls.getD p 0 :: ls.drop (p + 1) := by
  rw [List.drop_eq_getElem_cons h, List.getD_eq_getElem?_getD, List.getElem?_eq_getElem h]
  rfl
theorem tab_at {ls : List Int} (h : Tab ls) {p : Nat} (hp : p < 272) : 0 ≤ ls.getD p 0 ∧ ls.getD p 0 ≤ 6 := by
  have hl : p < ls.length := by rw [h.1]; exact hp
  rw [List.getD_eq_getElem?_getD, List.getElem?_eq_getElem hl]
  exact h.2 _ (List.getElem_mem hl)
/-! items -/
inductive Ite where
  | more (k : Nat)
  | one (x : Int)
def itB : Ite → List Bool
  | .more k => bitsOf 7 3 ++ bitsOf (k - 3) 6
  | .one x => bitsOf x.toNat 3
def itsB (l : List Ite) : List Bool := l.flatMap itB
theorem itsB_cons (i : Ite) (r : List Ite) : itsB (i :: r) = itB i ++ itsB r := rfl
/-- items tell those lengths, behind a length -/
def Lays : Int → List Int → List Ite → Prop
  | _, ls, [] => ls = []
  | last, ls, .more k :: r => 3 ≤ k ∧ k ≤ 66 ∧ k ≤ lead last ls ∧ Lays last (ls.drop k) r
  | _, ls, .one x :: r => ∃ t, ls = x :: t ∧ Lays x t r
theorem enc_items : ∀ (n : Nat) (last : Int) (l : List Int), l.length ≤ n → ∃ its, Lays last l its ∧ itsB its = encT last l
  | _, last, [], _ => ⟨[], rfl, rfl⟩
  | 0, _, _ :: _, h => by simp at h
  | n + 1, last, x :: r, h => by
    rw [List.length_cons] at h
    by_cases h3 : 3 ≤ more last (x :: r)
    · have hm := more_le last (x :: r)
      obtain ⟨its, h1, h2⟩ := enc_items n last ((x :: r).drop (more last (x :: r))) (by rw [List.length_drop, List.length_cons]; omega)
      exact ⟨.more (more last (x :: r)) :: its, ⟨h3, hm.2.2, hm.1, h1⟩, by rw [itsB_cons, h2, encT_more h3]; rfl⟩
    · obtain ⟨its, h1, h2⟩ := enc_items n x r (by omega)
      exact ⟨.one x :: its, ⟨r, rfl, h1⟩, by rw [itsB_cons, h2, encT_one h3]; rfl⟩
theorem lays_short : ∀ {its : List Ite} {last : Int} {l : List Int}, Lays last l its → (itsB its).length ≤ 9 * l.length ∧ its.length ≤ l.length
  | [], _, _, _ => ⟨Nat.zero_le _, Nat.zero_le _⟩
  | .more k :: r, last, l, h => by
    obtain ⟨h1, h2, h3, h4⟩ := h
    obtain ⟨i1, i2⟩ := lays_short h4
    have := lead_le last l
    rw [List.length_drop] at i1 i2
    rw [itsB_cons, List.length_append, List.length_cons]
    show (bitsOf 7 3 ++ bitsOf (k - 3) 6).length + _ ≤ _ ∧ _
    rw [List.length_append, bitsOf_length, bitsOf_length]
    omega
  | .one x :: r, last, l, h => by
    obtain ⟨t, rfl, h4⟩ := h
    obtain ⟨i1, i2⟩ := lays_short h4
    rw [itsB_cons, List.length_append, List.length_cons, List.length_cons]
    show (bitsOf x.toNat 3).length + _ ≤ _ ∧ _
    rw [bitsOf_length]
    omega
end L2.BR

namespace L2.BR
open PySem PySem.Spec PyProof.Rows L2.BP
variable {K : PySem.W.Frag} {W : WX} {vs : List V} {H : Hp} {Q : VK} {E : XK}
def sp_is_table (K : PySem.W.Frag) : Sp := fun vs H Q _ => ∃ (a : Addr) (ls : List Int), vs = [.ref a] ∧ SqL K H a (ls.map V.int) ∧ Tab ls ∧ RetV H Q (.bl true)
theorem len_is_table (h : sp_is_table K vs H Q E) : vs.length = 1 := by
  obtain ⟨a, ls, rfl, _⟩ := h
  rfl
theorem all_yes (n : Nat) : (List.replicate n true).all id = true := by simp
def t_is_table (K : PySem.W.Frag) (W : WX) : TS :=
  (tSeq (tIfS ((tOr (tNot (tB (tCB (rIsi K) (tCons (tVar 0) (tCons (tC (.ty "list")) tNil))))) (tTest (tOp (rNeU K) (tCB (rLenK K) (tCons (tVar 0) tNil)) (tC (.int 272)))))) (tRet (tC (.bl false))) tNext)
    (tRet (tCB (rAll K) (tCons (tLc (iList K (tVar 0)) (gName 1) tYes ((tAndV (tCB (rIsi K) (tCons (tVar 1) (tCons (tC (.ty "int")) tNil))) (tAndV (tNotV (tCB (rIsi K) (tCons (tVar 1) (tCons (tC (.ty "bool")) tNil)))) (tChain rLeU rLeU (tC (.int 0)) (tVar 1) (tC (.int 6)))))) [1]) tNil))))
theorem rd_is_table (h : sp_is_table K vs H Q E) : t_is_table K W { nx := fun _ H' => Q .non H', rt := Q } (start ["thing", "one"] vs) H := by
  obtain ⟨a, ls, rfl, hS, hT, q⟩ := h
  have hs := Hs.start H
  unfold t_is_table
  walk_at "go"
  refine c_isiList (.lst hS) ?_
  walk_at "go"
  rw [List.length_map, hT.1]
  refine i_f (ne_f rfl) ?_
  walk_at "go"
  refine c_lcL V.int ls (fun pre acc B' => acc = (List.replicate pre.length true).map V.bl ∧ B' = H) hs ⟨rfl, rfl⟩ (fun B' H' e h => h.bl (e.seq hS)) ?_ ?_
  · rintro pre x post acc B' D H' e ⟨rfl, rfl⟩ _ h
    have hpl : pre.length < ls.length := by rw [e]; simp
    have hx := hT.2 x (by rw [e]; simp)
    have hx1 : decide ((0 : Int) ≤ x) = true := decide_eq_true hx.1
    have hx2 : decide (x ≤ (6 : Int)) = true := decide_eq_true hx.2
    have h272 := hT.1
    walk_at "go"
    refine ⟨rfl, ?_⟩
    walk_at "go"
    rw [hx2]
    refine c_item h (small5 (by rw [List.length_map, List.length_replicate]; omega)) (Same.refl _) ⟨?_, rfl⟩
    rw [List.length_append, List.length_singleton, List.replicate_succ', List.map_append]
    rfl
  · rintro acc B' D H2 ⟨rfl, rfl⟩ _ h2
    walk_at "go"
    refine c_all (h2.sql (.head _)) ?_
    rw [all_yes]
    exact q _ h2.ex
def sp_alike_from (K : PySem.W.Frag) : Sp := fun vs H Q _ => ∃ (a : Addr) (ls : List Int) (p : Nat) (x : Int), vs = [.ref a, .int ((p : Nat) : Int), .int x] ∧ SqL K H a (ls.map V.int) ∧ ls.length = 272 ∧ p ≤ 272 ∧ RetV H Q (.int ((more x (ls.drop p) : Nat) : Int))
theorem len_alike_from (h : sp_alike_from K vs H Q E) : vs.length = 3 := by
  obtain ⟨a, ls, p, x, rfl, _⟩ := h
  rfl
def t_alike_from (K : PySem.W.Frag) (W : WX) : TS :=
  (tSeq (tAsg (tC (.int 0)) (gName 3))
    (tSeq (tWhile ((tAnd (tTest (tOp rLtU (tVar 3) (tC (.int 66)))) (tAnd (tTest (tOp rLtU (tOp rAddU (tVar 1) (tVar 3)) (tC (.int 272)))) (tTest (tOp (rEqU K) (tOp (rIx K) (tVar 0) (tOp rAddU (tVar 1) (tVar 3))) (tVar 2)))))) (tAug 3 (tC (.int 1)) ipAddU))
    (tRet (tVar 3))))
theorem rd_alike_from (h : sp_alike_from K vs H Q E) : t_alike_from K W { nx := fun _ H' => Q .non H', rt := Q } (start ["lengths", "place", "length", "found"] vs) H := by
  obtain ⟨a, ls, p, x, rfl, hS, hl, hp, q⟩ := h
  have hs := Hs.start H
  unfold t_alike_from
  walk_at "go"
  refine w_while (fun m σ' L' B' => ∃ f : Nat, f + m = 66 ∧ p + f ≤ 272 ∧ lead x (ls.drop p) = f + lead x (ls.drop (p + f)) ∧ σ' = [some (.ref a), some (.int p), some (.int x), some (.int f)] ∧ B' = H ∧ L' = []) 66 hs ⟨0, by omega, by omega, by rw [Nat.add_zero, Nat.zero_add], rfl, rfl, rfl⟩ ?_
  rintro m σ' L' B' H' ⟨f, hf, hpf, hk, rfl, rfl, rfl⟩ h
  have hS' := h.bl hS
  walk_at "go"
  unfold more at q
  by_cases hlt : f < 66
  · refine i_t (decide_eq_true (by omega)) ?_
    walk_at "go"
    by_cases hlt2 : p + f < 272
    · refine i_t (decide_eq_true (by omega)) ?_
      have i1 : atI (ls.map V.int) (((p : Nat) : Int) + ((f : Nat) : Int)) = some (.int (ls.getD (p + f) 0)) := at_i (by omega) (by omega)
      rw [drop_cons (ls := ls) (p := p + f) (by omega), lead_cons] at hk
      walk_at "go"
      by_cases he : ls.getD (p + f) 0 = x
      · have e3 : lead x (ls.drop p) = f + (lead x (ls.drop (p + f + 1)) + 1) := by
          have z := hk
          conv at z => rhs; rw [if_pos he]
          exact z
        refine i_t (decide_eq_true he) (w_turn ?_)
        walk_at "go"
        refine ⟨m - 1, by omega, _, _, ⟨f + 1, by omega, by omega, ?_, rfl, rfl, rfl⟩, h⟩
        rw [e3, show p + (f + 1) = p + f + 1 by omega]
        omega
      · have e3 : lead x (ls.drop p) = f := by
          have z := hk
          conv at z => rhs; rw [if_neg he]
          exact z
        refine i_f (decide_eq_false he) ?_
        walk_at "go"
        rw [e3, show min 66 f = f by omega] at q
        exact q _ h.ex
    · refine i_f (decide_eq_false (by omega)) ?_
      walk_at "go"
      rw [List.drop_of_length_le (i := p + f) (by omega)] at hk
      have e3 : lead x (ls.drop p) = f := hk
      rw [e3, show min 66 f = f by omega] at q
      exact q _ h.ex
  · refine i_f (decide_eq_false (by omega)) ?_
    walk_at "go"
    rw [show min 66 (lead x (ls.drop p)) = f by omega] at q
    exact q _ h.ex
def sp_put_table (K : PySem.W.Frag) : Sp := fun vs H Q _ => ∃ (B : Hp) (L : Pic) (x dx f a : Addr) (b : List Bool) (ls : List Int), vs = [.ref x, .ref a] ∧ Hs B ((x, brO K dx f b) :: (f, brL b) :: L) H ∧ (∀ y z H', Hs B ((x, y) :: (f, z) :: L) H' → SqL K H' a (ls.map V.int)) ∧ Tab ls ∧ b.length ≤ 600000 ∧
  ∀ H', Hs B ((x, brO K dx f (b ++ encT 0 ls)) :: (f, brL (b ++ encT 0 ls)) :: L) H' → Q .non H'
theorem len_put_table (h : sp_put_table K vs H Q E) : vs.length = 2 := by
  obtain ⟨B, L, x, dx, f, a, b, ls, rfl, _⟩ := h
  rfl
def t_put_table (K : PySem.W.Frag) (W : WX) : TS :=
  (tSeq (tIfS (tNot (tB (tCl (sp_is_table K) [] W (tCons (tVar 1) tNil)))) (tRz (He.ga K "BadTable") W) tNext)
    (tSeq (tAsg (tC (.int 0)) (gName 2))
    (tSeq (tAsg (tC (.int 0)) (gName 3))
    (tWhile (tTest (tOp rLtU (tVar 3) (tC (.int 272)))) (tSeq (tAsg (tCl (sp_alike_from K) [] W (tCons (tVar 1) (tCons (tVar 3) (tCons (tVar 2) tNil)))) (gName 4))
    (tSeq (tIfS (tTest (tOp rGeU (tVar 4) (tC (.int 3)))) (tSeq (tDrop (tMt (He.ga K "BitRow") "put" (sp_BitRow_put K) [] W (tVar 0) (tCons (tC (.int 7)) (tCons (tC (.int 3)) tNil))))
    (tSeq (tDrop (tMt (He.ga K "BitRow") "put" (sp_BitRow_put K) [] W (tVar 0) (tCons (tOp rSubU (tVar 4) (tC (.int 3))) (tCons (tC (.int 6)) tNil))))
    (tSeq (tAug 3 (tVar 4) ipAddU)
    (tCont)))) tNext)
    (tSeq (tAsg (tOp (rIx K) (tVar 1) (tVar 3)) (gName 2))
    (tSeq (tDrop (tMt (He.ga K "BitRow") "put" (sp_BitRow_put K) [] W (tVar 0) (tCons (tVar 2) (tCons (tC (.int 3)) tNil))))
    (tAug 3 (tC (.int 1)) ipAddU)))))))))
theorem rd_put_table (h : sp_put_table K vs H Q E) : t_put_table K (fun c d _ H2 => E c d H2) { nx := fun _ H' => Q .non H', rt := Q } (start ["bits", "lengths", "last", "place", "more"] vs) H := by
  obtain ⟨B, L, x, dx, f, a, b, ls, rfl, hs, hS, hT, hb, q⟩ := h
  unfold t_put_table
  walk_at "go"
  refine ⟨a, ls, rfl, hS _ _ _ hs, hT, retV hs fun H1 h1 => ?_⟩
  clear hs
  walk_at "go"
  refine w_while (fun m σ' L' B' => ∃ (p : Nat) (last : Int) (b' : List Bool) (w4 : Option V), p + m = 272 ∧ b'.length ≤ 600000 + 9 * p ∧ b ++ encT 0 ls = b' ++ encT last (ls.drop p) ∧ σ' = [some (.ref x), some (.ref a), some (.int last), some (.int p), w4] ∧ B' = B ∧
    L' = (x, brO K dx f b') :: (f, brL b') :: L) 272 h1 ⟨0, 0, b, none, by omega, by omega, by rw [List.drop_zero], rfl, rfl, rfl⟩ ?_
  rintro m σ' L' B' H' ⟨p, last, b', w4, hp, hb', he, rfl, rfl, rfl⟩ h
  have hS' := hS _ _ _ h
  have h272 := hT.1
  walk_at "go"
  by_cases hlt : p < 272
  · refine i_t (decide_eq_true (by omega)) (w_turn ?_)
    walk_at "go"
    refine ⟨a, ls, p, last, rfl, hS', h272, by omega, retV h fun H2 h2 => ?_⟩
    clear h hS'
    have hm := more_le last (ls.drop p)
    rw [List.length_drop] at hm
    have hS2 := hS _ _ _ h2
    walk_at "go"
    by_cases h3 : 3 ≤ more last (ls.drop p)
    · rw [encT_more h3, List.drop_drop, ← List.append_assoc, ← List.append_assoc] at he
      refine i_t (decide_eq_true (by omega)) ?_
      walk_at "go"
      refine use_put (n := 7) (s := 3) rfl rfl h2 (by omega) (by decide) (by decide) fun H3 h4 => ?_
      walk_at "go"
      refine use_put (n := more last (ls.drop p) - 3) (s := 6) (by omega) rfl h4 (by rw [List.length_append, bitsOf_length]; omega) (by decide) (by show _ < 64; omega) fun H4 h5 => ?_
      walk_at "go"
      refine ⟨m - more last (ls.drop p), by omega, _, _, ⟨p + more last (ls.drop p), last, _, _, by omega, ?_, he, rfl, rfl, rfl⟩, h5⟩
      rw [List.length_append, List.length_append, bitsOf_length, bitsOf_length]
      omega
    · have hx := tab_at hT hlt
      have i1 : atI (ls.map V.int) ((p : Nat) : Int) = some (.int (ls.getD p 0)) := at_nat (by omega)
      rw [drop_cons (ls := ls) (p := p) (by omega)] at h3 he
      rw [encT_one h3, ← List.append_assoc] at he
      rw [← drop_cons (ls := ls) (p := p) (by omega)] at h3
      refine i_f (decide_eq_false (by omega)) ?_
      walk_at "go"
      refine use_put (n := (ls.getD p 0).toNat) (s := 3) (by omega) rfl h2 (by omega) (by decide) (by show _ < 8; omega) fun H3 h4 => ?_
      walk_at "go"
      refine ⟨m - 1, by omega, _, _, ⟨p + 1, _, _, _, by omega, ?_, he, rfl, rfl, rfl⟩, h4⟩
      rw [List.length_append, bitsOf_length]
      omega
  · refine i_f (decide_eq_false (by omega)) ?_
    walk_at "go"
    rw [List.drop_of_length_le (by omega), encT_nil, List.append_nil] at he
    rw [← he] at h
    exact q H' h
theorem _root_.L2.BP.Hs.tox {B : Hp} {L : Pic} {a b c : Addr × HO} (h : Hs B (a :: b :: c :: L) H) : Hs B (b :: c :: a :: L) H := Hs.unrot3 h
theorem take_snocT {ns : List Int} {p : Nat} (h : p < ns.length) : ns.take p ++ [ns.getD p 0] = ns.take (p + 1) := by
  rw [List.take_add_one, List.getElem?_eq_getElem h, List.getD_eq_getElem?_getD, List.getElem?_eq_getElem h]
  rfl
def sp_items_read (K : PySem.W.Frag) : Sp := fun vs H Q _ => ∃ (B : Hp) (L : Pic) (x dx s : Addr) (t : Nat) (ns ls : List Int) (its : List Ite) (tail : List Bool), vs = [.ref x] ∧ Hs B ((x, rdO K dx s t) :: (s, .lst (ns.map V.int)) :: L) H ∧ Bytes ns ∧ ns.length ≤ 100000 ∧ t ≤ 8 * ns.length ∧
  (bitsRow ns).drop t = itsB its ++ tail ∧ Lays 0 ls its ∧ Tab ls ∧ ∀ p H', Hs B ((p, .lst (ls.map V.int)) :: (x, rdO K dx s (t + (itsB its).length)) :: (s, .lst (ns.map V.int)) :: L) H' → Q (.ref p) H'
theorem len_items_read (h : sp_items_read K vs H Q E) : vs.length = 1 := by
  obtain ⟨B, L, x, dx, s, t, ns, ls, its, tail, rfl, _⟩ := h
  rfl
def t_items_read (K : PySem.W.Frag) (W : WX) : TS :=
  (tSeq (tAsg (tLst tNil) (gName 1))
    (tSeq (tAsg (tC (.int 0)) (gName 2))
    (tSeq (tWhile (tTest (tOp rLtU (tCB (rLenK K) (tCons (tVar 1) tNil)) (tC (.int 272)))) (tSeq (tAsg (tMt (He.ga K "BitReader") "take" (sp_BitReader_take K) [] W (tVar 0) (tCons (tC (.int 3)) tNil)) (gName 3))
    (tIfS (tTest (tOp (rEqU K) (tVar 3) (tC (.int 7)))) (tAug 1 (tOp rMulU (tLst (tCons (tVar 2) tNil)) (tOp rAddU (tMt (He.ga K "BitReader") "take" (sp_BitReader_take K) [] W (tVar 0) (tCons (tC (.int 6)) tNil)) (tC (.int 3)))) ipAddU) (tSeq (tAsg (tVar 3) (gName 2))
    (tDrop (tBM K "list" rAppend (tVar 1) (tCons (tVar 2) tNil)))))))
    (tRet (tVar 1)))))
theorem rd_items_read (h : sp_items_read K vs H Q E) : t_items_read K (fun c d _ H2 => E c d H2) { nx := fun _ H' => Q .non H', rt := Q } (start ["reader", "found", "last", "item"] vs) H := by
  obtain ⟨B, L, x, dx, s, t, ns, ls, its, tail, rfl, hs, hb, hl, ht, hd, hL, hT, q⟩ := h
  unfold t_items_read
  walk_at "go"
  rename_i f H1 h1
  have h272 := hT.1
  refine w_while (fun m σ' L' B' => ∃ (p : Nat) (last : Int) (u : Nat) (r : List Ite) (w3 : Option V), p + m = 272 ∧ u ≤ 8 * ns.length ∧ (bitsRow ns).drop u = itsB r ++ tail ∧ Lays last (ls.drop p) r ∧ u + (itsB r).length = t + (itsB its).length ∧ σ' = [some (.ref x), some (.ref f), some (.int last), w3] ∧ B' = B ∧
    L' = (f, .lst ((ls.take p).map V.int)) :: (x, rdO K dx s u) :: (s, .lst (ns.map V.int)) :: L) 272 h1 ⟨0, 0, t, its, none, by omega, ht, hd, by rw [List.drop_zero]; exact hL, rfl, rfl, rfl, rfl⟩ ?_
  rintro m σ' L' B' H' ⟨p, last, u, r, w3, hp, hu, hdu, hLr, hlu, rfl, rfl, rfl⟩ h
  have htl : (ls.take p).length = p := by rw [List.length_take]; omega
  walk_at "go"
  rw [List.length_map, htl]
  by_cases hlt : p < 272
  · refine i_t (decide_eq_true (by omega)) (w_turn ?_)
    have h' := h.tox
    clear h h1 hs
    walk_at "go"
    cases r with
    | nil =>
      have z := congrArg List.length (show ls.drop p = [] from hLr)
      rw [List.length_drop, List.length_nil] at z
      omega
    | cons it r =>
      cases it with
      | more k =>
        obtain ⟨hk1, hk2, hk3, hLr2⟩ := hLr
        have hkl := lead_le last (ls.drop p)
        rw [List.length_drop] at hkl
        rw [List.drop_drop] at hLr2
        rw [itsB_cons, show itB (.more k) = bitsOf 7 3 ++ bitsOf (k - 3) 6 from rfl, List.append_assoc, List.append_assoc] at hdu
        rw [itsB_cons, show itB (.more k) = bitsOf 7 3 ++ bitsOf (k - 3) 6 from rfl, List.length_append, List.length_append, bitsOf_length, bitsOf_length] at hlu
        obtain ⟨t1, t2⟩ := take_at hu hdu (by decide)
        have hd2 := drop_next hdu
        obtain ⟨t3, t4⟩ := take_at t2 hd2 (by show _ < 64; omega)
        have hd3 := drop_next hd2
        refine use_take 3 rfl h' hb hl (by decide) t2 fun H3 h4 => ?_
        rw [t1]
        walk_at "go"
        rename_i q1 H4 h5
        refine use_take 6 rfl h5.tox hb hl (by decide) t4 fun H5 h6 => ?_
        rw [t3]
        have hq := h6.get (.tail _ (.tail _ (.head _)))
        have h7 := h6.drop2.rot3
        clear h6 h5 h4 h'
        walk_at "go"
        refine c_rep h7 hq (by omega) (by omega) (small6' (by simp; omega)) fun r2 H6 h8 => ?_
        refine c_ext0 h8.drop (h8.get (.head _)) (small6' (by rw [List.length_map, htl]; simp; omega)) fun H7 h9 => ?_
        have e1 : (ls.take p).map V.int ++ (List.replicate (((k - 3 : Nat) : Int) + 3).toNat [V.int last]).flatten = (ls.take (p + k)).map V.int := by
          rw [show (((k - 3 : Nat) : Int) + 3).toNat = k by omega, List.take_add, lead_take last _ _ hk3, List.map_append, List.map_replicate, List.flatten_replicate_singleton]
        rw [e1] at h9
        walk_at "go"
        exact ⟨m - k, by omega, _, _, ⟨p + k, last, u + 3 + 6, r, _, by omega, t4, hd3, hLr2, by omega, rfl, rfl, rfl⟩, h9⟩
      | one y =>
        obtain ⟨tl, et, hLr2⟩ := hLr
        have hx := tab_at hT hlt
        have ed := drop_cons (ls := ls) (p := p) (by omega)
        rw [ed] at et
        injection et with ey etl
        subst ey etl
        rw [itsB_cons, show itB (.one (ls.getD p 0)) = bitsOf (ls.getD p 0).toNat 3 from rfl, List.append_assoc] at hdu
        rw [itsB_cons, show itB (.one (ls.getD p 0)) = bitsOf (ls.getD p 0).toNat 3 from rfl, List.length_append, bitsOf_length] at hlu
        obtain ⟨t1, t2⟩ := take_at hu hdu (by show _ < 8; omega)
        have hd2 := drop_next hdu
        refine use_take 3 rfl h' hb hl (by decide) t2 fun H3 h4 => ?_
        rw [t1]
        have e2 : (((ls.getD p 0).toNat : Nat) : Int) = ls.getD p 0 := by omega
        have h5 := h4.rot3
        clear h4 h'
        walk_at "go"
        rw [e2]
        refine c_app0 h5 (small5 (by rw [List.length_map]; omega)) fun H4 h6 => ?_
        have e1 : (ls.take p).map V.int ++ [V.int (ls.getD p 0)] = (ls.take (p + 1)).map V.int := by
          rw [← take_snocT (by omega), List.map_append]
          rfl
        rw [e1] at h6
        walk_at "go"
        exact ⟨m - 1, by omega, _, _, ⟨p + 1, ls.getD p 0, u + 3, r, _, by omega, t2, hd2, hLr2, by omega, rfl, rfl, rfl⟩, h6⟩
  · refine i_f (decide_eq_false (by omega)) ?_
    walk_at "go"
    rw [List.drop_of_length_le (by omega)] at hLr
    have hr0 : r = [] := by
      cases r with
      | nil => rfl
      | cons it r =>
        cases it with
        | more k =>
          obtain ⟨hk1, _, hk3, _⟩ := hLr
          simp [lead] at hk3
          omega
        | one y =>
          obtain ⟨tl, et, _⟩ := hLr
          cases et
    rw [hr0] at hlu
    rw [List.take_of_length_le (by omega), show u = t + (itsB its).length by simpa [itsB] using hlu] at h
    exact q f H' h
def sp_take_table (K : PySem.W.Frag) : Sp := fun vs H Q _ => ∃ (B : Hp) (L : Pic) (x dx s : Addr) (t : Nat) (ns ls : List Int) (its : List Ite) (tail : List Bool), vs = [.ref x] ∧ Hs B ((x, rdO K dx s t) :: (s, .lst (ns.map V.int)) :: L) H ∧ Bytes ns ∧ ns.length ≤ 100000 ∧ t ≤ 8 * ns.length ∧
  (bitsRow ns).drop t = itsB its ++ tail ∧ Lays 0 ls its ∧ Tab ls ∧ ∀ p H', Hs B ((p, .lst (ls.map V.int)) :: (x, rdO K dx s (t + (itsB its).length)) :: (s, .lst (ns.map V.int)) :: L) H' → Q (.ref p) H'
theorem len_take_table (h : sp_take_table K vs H Q E) : vs.length = 1 := by
  obtain ⟨B, L, x, dx, s, t, ns, ls, its, tail, rfl, _⟩ := h
  rfl
def t_take_table (K : PySem.W.Frag) (W : WX) : TS :=
  (tSeq (tAsg (tMt (He.ga K "BitReader") "place" (sp_BitReader_place K) [] W (tVar 0) tNil) (gName 1))
    (tSeq ((tAsg (tCl (sp_items_read K) [] WF (tCons (tVar 0) tNil)) (gName 2)))
    (tSeq (tIfS (tTest (tOp rGtU (tCB (rLenK K) (tCons (tVar 2) tNil)) (tC (.int 272)))) (tSeq (tDrop (tMt (He.ga K "BitReader") "go" (sp_BitReader_go K) [] W (tVar 0) (tCons (tVar 1) tNil)))
    (tRz (He.ga K "BadTable") W)) tNext)
    (tRet (tVar 2)))))
theorem rd_take_table (h : sp_take_table K vs H Q E) : t_take_table K (fun c d _ H2 => E c d H2) { nx := fun _ H' => Q .non H', rt := Q } (start ["reader", "place", "found"] vs) H := by
  obtain ⟨B, L, x, dx, s, t, ns, ls, its, tail, rfl, hs, hb, hl, ht, hd, hL, hT, q⟩ := h
  have h272 := hT.1
  unfold t_take_table
  walk_at "go"
  refine ⟨B, L, x, dx, s, t, ns, rfl, hs, ?_⟩
  walk_at "go"
  refine ⟨B, L, x, dx, s, t, ns, ls, its, tail, rfl, hs, hb, hl, ht, hd, hL, hT, fun p H1 h1 => ?_⟩
  clear hs
  walk_at "go"
  rw [List.length_map, h272]
  walk_at "go"
  exact q p H1 h1
end L2.BR

namespace L2.BR
open PySem PySem.Spec PyProof.Rows L2.BP
variable {K : PySem.W.Frag} {W : WX} {vs : List V} {H : Hp} {Q : VK} {E : XK}
def Tg.btw (a b : Int) : Tg → Bool
  | .int i => decide (a ≤ i) && decide (i ≤ b)
  | _ => false
def sp_is_between (K : PySem.W.Frag) : Sp := fun vs H Q _ => ∃ (v : V) (g : Tg) (a b : Int), vs = [v, .int a, .int b] ∧ Th K H v g ∧ Q (.bl (Tg.btw a b g)) H
theorem len_is_between (h : sp_is_between K vs H Q E) : vs.length = 3 := by
  obtain ⟨v, g, a, b, rfl, _⟩ := h
  rfl
def t_is_between (K : PySem.W.Frag) (W : WX) : TS :=
  (tRet ((tAndV (tCB (rIsi K) (tCons (tVar 0) (tCons (tC (.ty "int")) tNil))) (tAndV (tNotV (tCB (rIsi K) (tCons (tVar 0) (tCons (tC (.ty "bool")) tNil)))) (tChain rLeU rLeU (tVar 1) (tVar 0) (tVar 2))))))
theorem rd_is_between (h : sp_is_between K vs H Q E) : t_is_between K W { nx := fun _ H' => Q .non H', rt := Q } (start ["thing", "least", "most"] vs) H := by
  obtain ⟨v, g, a, b, rfl, hT, q⟩ := h
  have hs := Hs.start H
  unfold t_is_between
  walk_at "go"
  refine c_isiInt hT ?_
  cases g with
  | int i =>
    walk_at "go"
    refine c_isiBool hT ?_
    cases hT
    walk_at "go"
    simp only [Tg.btw] at q
    cases e : decide (a ≤ i) with
    | false => rw [e] at q; walk_at "go"; exact q
    | true => rw [e] at q; walk_at "go"; exact q
  | bl b => walk_at "go"; refine c_isiBool hT ?_; walk_at "go"; exact q
  | _ => walk_at "go"; exact q
/-! counts -/
def btwV (a b : Int) : V → Bool
  | .int i => decide (a ≤ i) && decide (i ≤ b)
  | _ => false
theorem btw_of {a b : Int} {v : V} {g : Tg} (h : Th K H v g) : Tg.btw a b g = btwV a b v := by cases h <;> rfl
theorem btw_ints {a b : Int} : ∀ {xs : List V}, xs.all (btwV a b) = true → ∃ ns : List Int, xs = ns.map V.int ∧ ∀ n ∈ ns, a ≤ n ∧ n ≤ b
  | [], _ => ⟨[], rfl, fun _ z => nomatch z⟩
  | x :: r, h => by
    rw [List.all_cons, Bool.and_eq_true] at h
    obtain ⟨ns, rfl, hn⟩ := btw_ints h.2
    cases x with
    | int i =>
      have h1 := h.1
      simp only [btwV, Bool.and_eq_true, decide_eq_true_eq] at h1
      refine ⟨i :: ns, rfl, fun n m => ?_⟩
      rcases List.mem_cons.mp m with rfl | m
      · exact h1
      · exact hn n m
    | _ => cases h.1
end L2.BR

namespace L2.BR
open PySem PySem.Spec PyProof.Rows L2.BP
/-! ### codes in order -/
structure CSt where
  code : Nat
  last : Nat
  out : List (Option (Nat × Nat))
def lenAt (ws : List Int) (p : Nat) : Nat := (ws.getD p 0).toNat
def cstep (ws : List Int) (s : CSt) (p : Nat) : CSt := if 0 < lenAt ws p then ⟨s.code * 2 ^ (lenAt ws p - s.last) + 1, lenAt ws p, s.out.set p (some (s.code * 2 ^ (lenAt ws p - s.last), lenAt ws p))⟩ else s
/-- the order: lesser lengths first, of alike ones the lesser place -/
def ordOf (ws : List Int) : List Nat := (List.range ws.length).mergeSort fun a b => decide (ws.getD a 0 ≤ ws.getD b 0)
def codeFold (ws : List Int) : CSt := (ordOf ws).foldl (cstep ws) ⟨0, 0, List.replicate ws.length none⟩
def codesOf (ws : List Int) : List (Option (Nat × Nat)) := (codeFold ws).out
theorem ord_perm (ws : List Int) : (ordOf ws).Perm (List.range ws.length) := List.mergeSort_perm _ _
theorem ord_mem {ws : List Int} {p : Nat} (h : p ∈ ordOf ws) : p < ws.length := List.mem_range.mp ((ord_perm ws).mem_iff.mp h)
theorem ord_length (ws : List Int) : (ordOf ws).length = ws.length := by rw [(ord_perm ws).length_eq, List.length_range]
theorem ord_sorted (ws : List Int) : (ordOf ws).Pairwise fun a b => ws.getD a 0 ≤ ws.getD b 0 := by
  have h := List.pairwise_mergeSort (le := fun a b => decide (ws.getD a 0 ≤ ws.getD b 0)) (fun a b c h1 h2 => by
    rw [decide_eq_true_eq] at *
    omega) (fun a b => by
    rw [Bool.or_eq_true, decide_eq_true_eq, decide_eq_true_eq]
    omega) (List.range ws.length)
  exact h.imp fun h => of_decide_eq_true h
/-- alike ones stand by their places -/
theorem ord_alike (ws : List Int) (L : Int) : (ordOf ws).filter (fun p => decide (ws.getD p 0 = L)) = (List.range ws.length).filter fun p => decide (ws.getD p 0 = L) := by
  have sub : List.Sublist ((List.range ws.length).filter fun p => decide (ws.getD p 0 = L)) (ordOf ws) := by
    refine List.sublist_mergeSort (le := fun a b => decide (ws.getD a 0 ≤ ws.getD b 0)) (fun a b c h1 h2 => by
      rw [decide_eq_true_eq] at *
      omega) (fun a b => by
      rw [Bool.or_eq_true, decide_eq_true_eq, decide_eq_true_eq]
      omega) ?_ List.filter_sublist
    refine List.Pairwise.imp_of_mem (R := fun a b => a < b) (fun {a b} ha hb _ => ?_) (List.pairwise_lt_range.filter _)
    have h1 := of_decide_eq_true (List.mem_filter.mp ha).2
    have h2 := of_decide_eq_true (List.mem_filter.mp hb).2
    exact decide_eq_true (by omega)
  have sub2 : List.Sublist ((List.range ws.length).filter fun p => decide (ws.getD p 0 = L)) ((ordOf ws).filter fun p => decide (ws.getD p 0 = L)) := by
    have z := sub.filter fun p => decide (ws.getD p 0 = L)
    rw [List.filter_filter] at z
    simpa using z
  exact (sub2.eq_of_length ((ord_perm ws).filter _).length_eq.symm).symm
/-- an ordered row by its kinds -/
theorem sorted_split {ws : List Int} (m : Int) : ∀ {l : List Nat}, l.Pairwise (fun a b => ws.getD a 0 ≤ ws.getD b 0) → l.filter (fun p => decide (ws.getD p 0 ≤ m + 1)) = l.filter (fun p => decide (ws.getD p 0 ≤ m)) ++ l.filter (fun p => decide (ws.getD p 0 = m + 1))
  | [], _ => rfl
  | a :: l, h => by
    obtain ⟨h1, h2⟩ := List.pairwise_cons.mp h
    have ih := sorted_split m h2
    by_cases c1 : ws.getD a 0 ≤ m
    · rw [List.filter_cons, List.filter_cons, List.filter_cons, if_pos (decide_eq_true (show ws.getD a 0 ≤ m + 1 by omega)), if_pos (decide_eq_true c1), if_neg (by rw [decide_eq_true_eq]; omega), ih]
      rfl
    · have e1 : l.filter (fun p => decide (ws.getD p 0 ≤ m)) = [] := List.filter_eq_nil_iff.mpr fun b hb => by
        have := h1 b hb
        rw [decide_eq_true_eq]
        omega
      rw [e1, List.nil_append] at ih
      rw [List.filter_cons, List.filter_cons, List.filter_cons, if_neg (show ¬ (decide (ws.getD a 0 ≤ m)) = true by rw [decide_eq_true_eq]; exact c1), e1, List.nil_append]
      by_cases c2 : ws.getD a 0 = m + 1
      · rw [if_pos (decide_eq_true (by omega)), if_pos (decide_eq_true c2), ih]
      · rw [if_neg (by rw [decide_eq_true_eq]; omega), if_neg (by rw [decide_eq_true_eq]; exact c2), ih]
/-! the law's own way: length by length -/
def lstep (L : Nat) (s : Nat × List (Option (Nat × Nat))) (p : Nat) : Nat × List (Option (Nat × Nat)) := (s.1 + 1, s.2.set p (some (s.1, L)))
def lround (ws : List Int) (s : Nat × List (Option (Nat × Nat))) (L : Nat) : Nat × List (Option (Nat × Nat)) :=
  ((List.range ws.length).filter fun p => decide (ws.getD p 0 = ((L : Nat) : Int))).foldl (lstep L) (s.1 * 2, s.2)
def lawFold (ws : List Int) (n : Nat) : Nat × List (Option (Nat × Nat)) := ((List.range n).map (· + 1)).foldl (lround ws) (0, List.replicate ws.length none)
/-- both stand alike at the length L -/
def Alike (L : Nat) (c : CSt) (s : Nat × List (Option (Nat × Nat))) : Prop := c.last ≤ L ∧ s.1 = c.code * 2 ^ (L - c.last) ∧ s.2 = c.out
theorem alike_fold {ws : List Int} {L : Nat} (h1 : 1 ≤ L) : ∀ {l : List Nat} {c : CSt} {s : Nat × List (Option (Nat × Nat))}, (∀ p ∈ l, ws.getD p 0 = ((L : Nat) : Int)) → Alike L c s → Alike L (l.foldl (cstep ws) c) (l.foldl (lstep L) s)
  | [], _, _, _, h => h
  | p :: l, c, s, hl, ⟨a1, a2, a3⟩ => by
    have hp : lenAt ws p = L := by
      unfold lenAt
      rw [hl p (.head _)]
      omega
    rw [List.foldl_cons, List.foldl_cons]
    refine alike_fold h1 (fun q hq => hl q (.tail _ hq)) ?_
    unfold cstep lstep
    rw [hp, if_pos (by omega)]
    exact ⟨Nat.le_refl _, by rw [a2, Nat.sub_self, Nat.pow_zero, Nat.mul_one], by rw [a2, a3]⟩
theorem alike_next {L : Nat} {c : CSt} {s : Nat × List (Option (Nat × Nat))} (h : Alike L c s) : Alike (L + 1) c (s.1 * 2, s.2) := by
  obtain ⟨a1, a2, a3⟩ := h
  refine ⟨by omega, ?_, a3⟩
  show s.1 * 2 = _
  rw [a2, show L + 1 - c.last = (L - c.last) + 1 by omega, Nat.pow_succ, Nat.mul_assoc]
theorem law_alike {ws : List Int} (hw : ∀ n ∈ ws, 0 ≤ n) : ∀ n, Alike n (((ordOf ws).filter fun p => decide (ws.getD p 0 ≤ ((n : Nat) : Int))).foldl (cstep ws) ⟨0, 0, List.replicate ws.length none⟩) (lawFold ws n)
  | 0 => by
    have key : ∀ (l : List Nat) (c : CSt), (∀ p ∈ l, lenAt ws p = 0) → l.foldl (cstep ws) c = c := fun l => by
      induction l with
      | nil => intro c _; rfl
      | cons p l ih =>
        intro c hl
        rw [List.foldl_cons, show cstep ws c p = c by unfold cstep; rw [if_neg (by rw [hl p (.head _)]; decide)]]
        exact ih c fun q hq => hl q (.tail _ hq)
    rw [key _ _ fun p hp => by
      have h := of_decide_eq_true (List.mem_filter.mp hp).2
      unfold lenAt
      omega]
    exact ⟨Nat.le_refl _, rfl, rfl⟩
  | n + 1 => by
    have ih := law_alike hw n
    have e := sorted_split (ws := ws) ((n : Nat) : Int) (ord_sorted ws)
    rw [show (((n + 1 : Nat) : Nat) : Int) = ((n : Nat) : Int) + 1 by omega, e, List.foldl_append, ord_alike]
    unfold lawFold
    rw [List.range_succ, List.map_append, List.foldl_append]
    show Alike (n + 1) _ (lround ws (lawFold ws n) (n + 1))
    unfold lround
    rw [show (((n + 1 : Nat) : Nat) : Int) = ((n : Nat) : Int) + 1 by omega]
    exact alike_fold (by omega) (fun p hp => by
      have h := of_decide_eq_true (List.mem_filter.mp hp).2
      omega) (alike_next ih)
theorem law_codes {ws : List Int} (hw : ∀ n ∈ ws, 0 ≤ n ∧ n ≤ 12) : (lawFold ws 12).2 = codesOf ws := by
  obtain ⟨_, _, h⟩ := law_alike (fun n hn => (hw n hn).1) 12
  rw [h]
  unfold codesOf codeFold
  congr 2
  refine List.filter_eq_self.mpr fun p hp => decide_eq_true ?_
  have hl := ord_mem hp
  have := (hw _ (List.getElem_mem hl)).2
  rw [List.getD_eq_getElem?_getD, List.getElem?_eq_getElem hl]
  exact this
/-! no code begins another one -/
def Good (c : CSt) : Prop := (∀ p x l : Nat, c.out[p]? = some (some (x, l)) → 1 ≤ l ∧ l ≤ c.last ∧ (x + 1) * 2 ^ (c.last - l) ≤ c.code) ∧
  ∀ p q x l y m : Nat, p ≠ q → c.out[p]? = some (some (x, l)) → c.out[q]? = some (some (y, m)) → l ≤ m → y / 2 ^ (m - l) ≠ x
theorem good_none (n : Nat) : Good ⟨0, 0, List.replicate n none⟩ := by
  have key : ∀ p x l : Nat, (List.replicate n (none : Option (Nat × Nat)))[p]? = some (some (x, l)) → False := fun p x l h => by
    rw [List.getElem?_replicate] at h
    split at h <;> cases h
  exact ⟨fun p x l h => (key p x l h).elim, fun p q x l y m _ h => (key p x l h).elim⟩
theorem good_step {ws : List Int} {c : CSt} {p : Nat} (h : Good c) (hl : 0 < lenAt ws p → c.last ≤ lenAt ws p) : Good (cstep ws c p) := by
  unfold cstep
  by_cases h0 : 0 < lenAt ws p
  · rw [if_pos h0]
    have hl := hl h0
    obtain ⟨g1, g2⟩ := h
    have up : ∀ q x l : Nat, c.out[q]? = some (some (x, l)) → 1 ≤ l ∧ l ≤ lenAt ws p ∧ (x + 1) * 2 ^ (lenAt ws p - l) ≤ c.code * 2 ^ (lenAt ws p - c.last) := fun q x l e => by
      obtain ⟨a0, a1, a2⟩ := g1 q x l e
      refine ⟨a0, by omega, ?_⟩
      rw [show lenAt ws p - l = (c.last - l) + (lenAt ws p - c.last) by omega, Nat.pow_add, ← Nat.mul_assoc]
      exact Nat.mul_le_mul_right _ a2
    have at_ : ∀ q x l : Nat, (c.out.set p (some (c.code * 2 ^ (lenAt ws p - c.last), lenAt ws p)))[q]? = some (some (x, l)) → (q = p ∧ x = c.code * 2 ^ (lenAt ws p - c.last) ∧ l = lenAt ws p) ∨ (q ≠ p ∧ c.out[q]? = some (some (x, l))) := fun q x l e => by
      by_cases hq : p = q
      · subst hq
        by_cases hlt : p < c.out.length
        · rw [List.getElem?_set_self hlt] at e
          cases e
          exact .inl ⟨rfl, rfl, rfl⟩
        · rw [List.getElem?_eq_none (by rw [List.length_set]; omega)] at e
          cases e
      · rw [List.getElem?_set_ne hq] at e
        exact .inr ⟨Ne.symm hq, e⟩
    refine ⟨fun q x l e => ?_, fun q r x l y m hne e1 e2 hlm => ?_⟩
    · rcases at_ q x l e with ⟨_, rfl, rfl⟩ | ⟨_, e⟩
      · refine ⟨h0, Nat.le_refl _, ?_⟩
        show (c.code * 2 ^ (lenAt ws p - c.last) + 1) * 2 ^ (lenAt ws p - lenAt ws p) ≤ c.code * 2 ^ (lenAt ws p - c.last) + 1
        rw [Nat.sub_self, Nat.pow_zero, Nat.mul_one]
        exact Nat.le_refl _
      · obtain ⟨a0, a1, a2⟩ := up q x l e
        exact ⟨a0, a1, Nat.le_succ_of_le a2⟩
    · rcases at_ q x l e1 with ⟨hq, rfl, rfl⟩ | ⟨hq, e1⟩
      · rcases at_ r y m e2 with ⟨hr, rfl, rfl⟩ | ⟨hr, e2⟩
        · exact absurd (hq.trans hr.symm) hne
        · obtain ⟨a0, a1, a2⟩ := up r y m e2
          have e : m = lenAt ws p := by omega
          subst e
          rw [Nat.sub_self, Nat.pow_zero, Nat.mul_one] at a2
          rw [Nat.sub_self, Nat.pow_zero, Nat.div_one]
          omega
      · rcases at_ r y m e2 with ⟨hr, rfl, rfl⟩ | ⟨hr, e2⟩
        · obtain ⟨a0, a1, a2⟩ := up q x l e1
          have z : x + 1 ≤ c.code * 2 ^ (lenAt ws p - c.last) / 2 ^ (lenAt ws p - l) := (Nat.le_div_iff_mul_le (Nat.two_pow_pos _)).mpr a2
          omega
        · exact g2 q r x l y m hne e1 e2 hlm
  · rw [if_neg h0]
    exact h
/-- along the order -/
theorem fold_good {ws : List Int} : ∀ {l : List Nat} {c : CSt} {k : Nat}, l.Pairwise (fun a b => ws.getD a 0 ≤ ws.getD b 0) → (∀ q ∈ l, 0 < lenAt ws q → c.last ≤ lenAt ws q) → Good c → c.code ≤ k * 2 ^ c.last → (∀ q ∈ l, lenAt ws q ≤ 12) → c.last ≤ 12 →
    Good (l.foldl (cstep ws) c) ∧ (l.foldl (cstep ws) c).code ≤ (k + l.length) * 2 ^ (l.foldl (cstep ws) c).last ∧ (l.foldl (cstep ws) c).last ≤ 12 ∧ (l.foldl (cstep ws) c).out.length = c.out.length
  | [], _, _, _, _, g, hk, _, h12 => ⟨g, hk, h12, rfl⟩
  | p :: l, c, k, hp, hl, g, hk, hm, h12 => by
    obtain ⟨h1, h2⟩ := List.pairwise_cons.mp hp
    rw [List.foldl_cons]
    have gs := good_step (ws := ws) (p := p) g (hl p (.head _))
    by_cases h0 : 0 < lenAt ws p
    · have hlp := hl p (.head _) h0
      have e : cstep ws c p = ⟨c.code * 2 ^ (lenAt ws p - c.last) + 1, lenAt ws p, c.out.set p (some (c.code * 2 ^ (lenAt ws p - c.last), lenAt ws p))⟩ := by unfold cstep; rw [if_pos h0]
      rw [e] at gs ⊢
      have bd : c.code * 2 ^ (lenAt ws p - c.last) + 1 ≤ (k + 1) * 2 ^ lenAt ws p := by
        have z := Nat.mul_le_mul_right (2 ^ (lenAt ws p - c.last)) hk
        rw [Nat.mul_assoc, ← Nat.pow_add, show c.last + (lenAt ws p - c.last) = lenAt ws p by omega] at z
        have z2 := Nat.two_pow_pos (lenAt ws p)
        rw [Nat.add_mul]
        omega
      obtain ⟨a1, a2, a3, a4⟩ := fold_good (c := ⟨c.code * 2 ^ (lenAt ws p - c.last) + 1, lenAt ws p, c.out.set p (some (c.code * 2 ^ (lenAt ws p - c.last), lenAt ws p))⟩) h2 (fun q hq _ => by
        have z := h1 q hq
        show lenAt ws p ≤ lenAt ws q
        unfold lenAt
        omega) gs bd (fun q hq => hm q (.tail _ hq)) (hm p (.head _))
      refine ⟨a1, ?_, a3, by rw [a4]; exact List.length_set ..⟩
      rw [List.length_cons, show k + (l.length + 1) = k + 1 + l.length by omega]
      exact a2
    · have e : cstep ws c p = c := by unfold cstep; rw [if_neg h0]
      rw [e]
      obtain ⟨a1, a2, a3, a4⟩ := fold_good h2 (fun q hq => hl q (.tail _ hq)) g hk (fun q hq => hm q (.tail _ hq)) h12
      refine ⟨a1, Nat.le_trans a2 (Nat.mul_le_mul_right _ (by rw [List.length_cons]; omega)), a3, a4⟩
theorem lenAt_le {ws : List Int} (hw : ∀ n ∈ ws, n ≤ 12) (p : Nat) : lenAt ws p ≤ 12 := by
  unfold lenAt
  rw [List.getD_eq_getElem?_getD]
  cases e : ws[p]? with
  | none => simp
  | some x =>
    have := hw x (List.mem_of_getElem? e)
    simp only [Option.getD_some]
    omega
/-- what stands when the places pre are done, p being next -/
theorem at_place {ws : List Int} (hw : ∀ n ∈ ws, n ≤ 12) {pre post : List Nat} {p : Nat} (e : ordOf ws = pre ++ p :: post) :
    Good (pre.foldl (cstep ws) ⟨0, 0, List.replicate ws.length none⟩) ∧ (pre.foldl (cstep ws) ⟨0, 0, List.replicate ws.length none⟩).code ≤ pre.length * 2 ^ 12 ∧ (pre.foldl (cstep ws) ⟨0, 0, List.replicate ws.length none⟩).out.length = ws.length ∧
      (0 < lenAt ws p → (pre.foldl (cstep ws) ⟨0, 0, List.replicate ws.length none⟩).last ≤ lenAt ws p) ∧ p < ws.length := by
  have hs := ord_sorted ws
  rw [e] at hs
  obtain ⟨s1, s2, s3⟩ := List.pairwise_append.mp hs
  obtain ⟨a1, a2, a3, a4⟩ := fold_good (c := ⟨0, 0, List.replicate ws.length none⟩) (k := 0) s1 (fun _ _ _ => Nat.zero_le _) (good_none _) (Nat.zero_le _) (fun q _ => lenAt_le hw q) (Nat.zero_le _)
  refine ⟨a1, ?_, by rw [a4, List.length_replicate], fun _ => ?_, ord_mem (by rw [e]; simp)⟩
  · rw [Nat.zero_add] at a2
    exact Nat.le_trans a2 (Nat.mul_le_mul_left _ (Nat.pow_le_pow_right (by decide) a3))
  · have key : ∀ (l : List Nat) (c : CSt) (b : Nat), c.last ≤ b → (∀ q ∈ l, lenAt ws q ≤ b) → (l.foldl (cstep ws) c).last ≤ b := fun l => by
      induction l with
      | nil => intro c b h _; exact h
      | cons q l ih =>
        intro c b h hl
        rw [List.foldl_cons]
        refine ih _ b ?_ fun r hr => hl r (.tail _ hr)
        unfold cstep
        split
        · exact hl q (.head _)
        · exact h
    refine key pre _ _ (Nat.zero_le _) fun q hq => ?_
    have z := s3 q hq p (.head _)
    unfold lenAt
    omega
theorem codes_good {ws : List Int} (hw : ∀ n ∈ ws, n ≤ 12) : Good (codeFold ws) ∧ (codesOf ws).length = ws.length := by
  obtain ⟨a1, a2, a3, a4⟩ := fold_good (l := ordOf ws) (c := ⟨0, 0, List.replicate ws.length none⟩) (k := 0) (ord_sorted ws) (fun _ _ _ => Nat.zero_le _) (good_none _) (Nat.zero_le _) (fun q _ => lenAt_le hw q) (Nat.zero_le _)
  exact ⟨a1, by unfold codesOf codeFold; rw [a4, List.length_replicate]⟩
end L2.BR

namespace L2.BR
open PySem PySem.Spec PyProof.Rows L2.BP
variable {K : PySem.W.Frag} {W : WX} {vs : List V} {H : Hp} {Q : VK} {E : XK}
/-! ### lengths and codes -/
def krV : V → Nat
  | .int n => if 0 < n then 2 ^ (12 - n.toNat) else 0
  | _ => 0
def kraftV (xs : List V) : Nat := (xs.map krV).sum
def lenOk : Tg → Bool
  | .lst xs => decide (1 ≤ xs.length) && decide (xs.length ≤ 300) && xs.all (btwV 0 12) && (decide (0 < kraftV xs) && decide (kraftV xs ≤ 4096))
  | _ => false
theorem lens_of {g : Tg} (h : lenOk g = true) : ∃ ws : List Int, g = .lst (ws.map V.int) ∧ 1 ≤ ws.length ∧ ws.length ≤ 300 ∧ (∀ n ∈ ws, 0 ≤ n ∧ n ≤ 12) := by
  cases g with
  | lst xs =>
    simp only [lenOk, Bool.and_eq_true, decide_eq_true_eq] at h
    obtain ⟨⟨⟨h1, h2⟩, h3⟩, _⟩ := h
    obtain ⟨ws, rfl, hw⟩ := btw_ints h3
    rw [List.length_map] at h1 h2
    exact ⟨ws, rfl, h1, h2, hw⟩
  | _ => cases h
def sp_need_lengths (K : PySem.W.Frag) : Sp := fun vs H Q E => ∃ (v : V) (g : Tg), vs = [v] ∧ Th K H v g ∧ Tg.ok K H g ∧
  (lenOk g = true → RetV H Q .non) ∧ (lenOk g = false → ∀ H', Same H H' → E (.ref (He.ga K "BadLengths")) none H')
theorem len_need_lengths (h : sp_need_lengths K vs H Q E) : vs.length = 1 := by
  obtain ⟨v, g, rfl, _⟩ := h
  rfl
def t_need_lengths (K : PySem.W.Frag) (W : WX) : TS :=
  (tSeq (tIfS ((tOr (tNot (tB (tCB (rIsi K) (tCons (tVar 0) (tCons (tC (.ty "list")) tNil))))) (tNot (tTest (tChain rLeU rLeU (tC (.int 1)) (tCB (rLenK K) (tCons (tVar 0) tNil)) (tC (.int 300))))))) (tRz (He.ga K "BadLengths") W) tNext)
    (tSeq (tAsg (tC (.int 0)) (gName 1))
    (tSeq (tFor (iList K (tVar 0)) (gName 2) (tSeq (tIfS (tNot (tB (tCl (sp_is_between K) [] W (tCons (tVar 2) (tCons (tC (.int 0)) (tCons (tC (.int 12)) tNil)))))) (tRz (He.ga K "BadLengths") W) tNext)
    (tIfS (tTest (tOp rGtU (tVar 2) (tC (.int 0)))) (tAug 1 (tOp rShlU (tC (.int 1)) (tOp rSubU (tC (.int 12)) (tVar 2))) ipAddU) tNext)))
    (tIfS (tNot (tTest (tChain rLtU rLeU (tC (.int 0)) (tVar 1) (tOp rShlU (tC (.int 1)) (tC (.int 12)))))) (tRz (He.ga K "BadLengths") W) tNext))))
theorem rd_need_lengths (h : sp_need_lengths K vs H Q E) : t_need_lengths K (fun c d _ H2 => E c d H2) { nx := fun _ H' => Q .non H', rt := Q } (start ["lengths", "room", "length"] vs) H := by
  obtain ⟨v, g, rfl, hT, hok, q, qe⟩ := h
  have hs := Hs.start H
  unfold t_need_lengths
  walk_at "go"
  refine c_isiList hT ?_
  cases g with
  | lst xs =>
    cases hT with
    | @lst a _ hxs =>
    walk_at "go"
    by_cases c1 : 1 ≤ xs.length
    rotate_left
    · have bad : lenOk (.lst xs) = false := by simp [lenOk, c1]
      rw [decide_eq_false (by omega : ¬ (1 : Int) ≤ ((xs.length : Nat) : Int))]
      walk_at "go"
      exact qe bad _ hs.ex
    rw [decide_eq_true (by omega : (1 : Int) ≤ ((xs.length : Nat) : Int))]
    walk_at "go"
    by_cases c2 : xs.length ≤ 300
    rotate_left
    · have bad : lenOk (.lst xs) = false := by simp [lenOk, c2]
      rw [decide_eq_false (by omega : ¬ ((xs.length : Nat) : Int) ≤ 300)]
      walk_at "go"
      exact qe bad _ hs.ex
    rw [decide_eq_true (by omega : ((xs.length : Nat) : Int) ≤ 300)]
    walk_at "go"
    refine w_forL (id : V → V) xs (fun pre σ' L' B' => ∃ w2, σ' = [some (.ref a), some (.int ((kraftV pre : Nat) : Int)), w2] ∧ B' = H ∧ L' = [] ∧ pre.all (btwV 0 12) = true) hs ⟨none, rfl, rfl, rfl, rfl⟩ ?_ ?_ ?_
    · rintro pre post σ' L' B' H' _ ⟨w2, rfl, rfl, rfl, _⟩ h
      rw [List.map_id]
      exact h.bl hxs
    · rintro pre y post σ' L' B' H' e ⟨w2, rfl, rfl, rfl, hp⟩ h
      obtain ⟨g, hg⟩ := hok.1 y (by rw [e]; simp)
      have hg := hg.same h.ex
      rw [id_eq]
      walk_at "go"
      refine ⟨y, g, 0, 12, rfl, hg, ?_⟩
      rw [btw_of hg]
      cases c3 : btwV 0 12 y with
      | false =>
        have bad : lenOk (.lst xs) = false := by
          have z : xs.all (btwV 0 12) = false := by
            rw [e, List.all_append, List.all_cons, c3]
            simp
          simp only [lenOk, z, Bool.and_false, Bool.false_and]
        walk_at "go"
        exact qe bad _ h.ex
      | true =>
        have hp2 : (pre ++ [y]).all (btwV 0 12) = true := by
          rw [List.all_append, hp, List.all_cons, c3]
          rfl
        have hk2 : kraftV (pre ++ [y]) = kraftV pre + krV y := by
          unfold kraftV
          rw [List.map_append, List.sum_append]
          simp
        cases y with
        | int n =>
          simp only [btwV, Bool.and_eq_true, decide_eq_true_eq] at c3
          walk_at "go"
          by_cases c4 : 0 < n
          · refine i_t (decide_eq_true c4) ?_
            walk_at "go"
            have ek : ((kraftV pre : Nat) : Int) + 1 * 2 ^ (12 - n).toNat = ((kraftV (pre ++ [V.int n]) : Nat) : Int) := by
              rw [hk2]
              show _ = ((kraftV pre + (if 0 < n then 2 ^ (12 - n.toNat) else 0) : Nat) : Int)
              rw [if_pos c4, show (12 - n).toNat = 12 - n.toNat by omega, Int.one_mul]
              push_cast
              rfl
            rw [ek]
            exact ⟨_, _, ⟨_, rfl, rfl, rfl, hp2⟩, h⟩
          · refine i_f (decide_eq_false c4) ?_
            walk_at "go"
            have ek : kraftV (pre ++ [V.int n]) = kraftV pre := by
              rw [hk2]
              show kraftV pre + (if 0 < n then 2 ^ (12 - n.toNat) else 0) = _
              rw [if_neg c4]
              rfl
            rw [← ek]
            exact ⟨_, _, ⟨_, rfl, rfl, rfl, hp2⟩, h⟩
        | _ => cases c3
    · rintro σ' L' B' H' ⟨w2, rfl, rfl, rfl, hp⟩ h
      walk_at "go"
      have lk : lenOk (.lst xs) = (decide (0 < kraftV xs) && decide (kraftV xs ≤ 4096)) := by
        simp only [lenOk, hp, decide_eq_true c1, decide_eq_true c2, Bool.true_and]
      by_cases c5 : 0 < kraftV xs
      · refine i_t (decide_eq_true (by omega)) ?_
        walk_at "go"
        rw [show (1 * 2 ^ (12 : Int).toNat : Int) = 4096 by decide +kernel]
        by_cases c6 : kraftV xs ≤ 4096
        · rw [decide_eq_true (by omega : ((kraftV xs : Nat) : Int) ≤ 4096)]
          walk_at "go"
          exact q (by rw [lk, decide_eq_true c5, decide_eq_true c6]; rfl) _ h.ex
        · rw [decide_eq_false (by omega : ¬ ((kraftV xs : Nat) : Int) ≤ 4096)]
          walk_at "go"
          exact qe (by rw [lk, decide_eq_false c6, Bool.and_false]) _ h.ex
      · refine i_f (decide_eq_false (by omega)) ?_
        walk_at "go"
        exact qe (by rw [lk, decide_eq_false c5, Bool.false_and]) _ h.ex
  | _ => walk_at "go"; exact qe rfl _ hs.ex
/-- the table of code objects of codes_of's lambda -/
abbrev tP (K : PySem.W.Frag) : Addr := (He.cT K ("codes_of", none)).2
abbrev qC : Str := (("codes_of" : Str) ++ ".<locals>.") ++ "<lambda>"
/-- codes, as they stand: a tuple of two numbers, or None -/
inductive CodV (K : PySem.W.Frag) (H : Hp) : List V → List (Option (Nat × Nat)) → Prop
  | nil : CodV K H [] []
  | no {vs : List V} {cs : List (Option (Nat × Nat))} : CodV K H vs cs → CodV K H (.non :: vs) (none :: cs)
  | one {t : Addr} {c l : Nat} {vs : List V} {cs : List (Option (Nat × Nat))} : SqT K H t [.int ((c : Nat) : Int), .int ((l : Nat) : Int)] → CodV K H vs cs → CodV K H (.ref t :: vs) (some (c, l) :: cs)
theorem CodV.same {H' : Hp} (s : Same H H') : ∀ {xs : List V} {cs : List (Option (Nat × Nat))}, CodV K H xs cs → CodV K H' xs cs
  | _, _, .nil => .nil
  | _, _, .no t => .no (t.same s)
  | _, _, .one h t => .one (same_sqt s h) (t.same s)
theorem CodV.length : ∀ {xs : List V} {cs : List (Option (Nat × Nat))}, CodV K H xs cs → xs.length = cs.length
  | _, _, .nil => rfl
  | _, _, .no t => by rw [List.length_cons, List.length_cons, t.length]
  | _, _, .one _ t => by rw [List.length_cons, List.length_cons, t.length]
theorem CodV.set {t : Addr} {c l : Nat} (h : SqT K H t [.int ((c : Nat) : Int), .int ((l : Nat) : Int)]) : ∀ {xs : List V} {cs : List (Option (Nat × Nat))} (p : Nat), CodV K H xs cs → CodV K H (xs.set p (.ref t)) (cs.set p (some (c, l)))
  | _, _, _, .nil => .nil
  | _, _, 0, .no u => .one h u
  | _, _, p + 1, .no u => .no (CodV.set h p u)
  | _, _, 0, .one _ u => .one h u
  | _, _, p + 1, .one g u => .one g (CodV.set h p u)
theorem CodV.none : ∀ n : Nat, CodV K H (List.replicate n V.non) (List.replicate n none)
  | 0 => .nil
  | n + 1 => .no (CodV.none n)
def sp_codes_of (K : PySem.W.Frag) : Sp := fun vs H Q E => ∃ (B : Hp) (L : Pic) (ps : Array Value) (v : V) (g : Tg), vs = [v] ∧ Hs B ((tP K, .tbl ps) :: L) H ∧ TabC B ps qC ∧ Th K B v g ∧ Tg.ok K B g ∧
  (∀ ws : List Int, g = .lst (ws.map V.int) → lenOk g = true → ∀ (B2 : Hp) (ps2 : Array Value) (p : Addr) (xs : List V) (H' : Hp), Same B B2 → TabC B2 ps2 qC → CodV K B2 xs (codesOf ws) → Hs B2 ((p, .lst xs) :: (tP K, .tbl ps2) :: L) H' → Q (.ref p) H') ∧
  (lenOk g = false → ∀ H', Same H H' → E (.ref (He.ga K "BadLengths")) none H')
theorem len_codes_of (h : sp_codes_of K vs H Q E) : vs.length = 1 := by
  obtain ⟨B, L, ps, v, g, rfl, _⟩ := h
  rfl
def t_codes_of (K : PySem.W.Frag) (W : WX) : TS :=
  (tSeq (tDrop (tCl (sp_need_lengths K) [] W (tCons (tVar 0) tNil)))
    (tSeq (tAsg (tOp rMulU (tLst (tCons (tC .non) tNil)) (tCB (rLenK K) (tCons (tVar 0) tNil))) (gName 1))
    (tSeq (tAsg (tC (.int 0)) (gName 2))
    (tSeq (tAsg (tC (.int 0)) (gName 3))
    (tSeq (tFor (iList K (tSortL K (He.cT K ("codes_of", none)).2 ((("codes_of" : Str) ++ ".<locals>.") ++ "<lambda>" : Str) 0 (tCons (tCB rRng1 (tCons (tCB (rLenK K) (tCons (tVar 0) tNil)) tNil)) tNil))) (gName 4) (tSeq (tAsg (tOp (rIx K) (tVar 0) (tVar 4)) (gName 5))
    (tIfS (tTest (tOp rGtU (tVar 5) (tC (.int 0)))) (tSeq (tAsg (tOp rShlU (tVar 2) (tOp rSubU (tVar 5) (tVar 3))) (gName 2))
    (tSeq (tAsg (tTup (tCons (tVar 2) (tCons (tVar 5) tNil))) (gSub (tVar 1) (tVar 4) rSetL))
    (tSeq (tAug 2 (tC (.int 1)) ipAddU)
    (tAsg (tVar 5) (gName 3))))) tNext)))
    (tRet (tVar 1)))))))
theorem rd_codes_of (h : sp_codes_of K vs H Q E) : t_codes_of K (fun c d _ H2 => E c d H2) { nx := fun _ H' => Q .non H', rt := Q } (start ["lengths", "found", "code", "last", "place", "length"] vs) H := by
  obtain ⟨B, L, ps, v, g, rfl, hs, hT, hv, hok, q, qe⟩ := h
  unfold t_codes_of
  walk_at "go"
  refine ⟨v, g, rfl, hv.same hs.ex, ok_same hok hs.ex, fun hg => retV hs fun H1 h1 => ?_, qe⟩
  obtain ⟨ws, rfl, w1, w2, hw⟩ := lens_of hg
  cases hv with
  | @lst a _ hS =>
  have q := q ws rfl hg
  have hS1 := h1.bl hS
  walk_at "go"
  rename_i l2 H2 h2
  rw [List.length_map]
  refine c_rep h2 (h2.get (.head _)) (by omega) (by omega) (small6' (by rw [List.length_singleton]; omega)) fun f H3 h3 => ?_
  rw [Int.toNat_natCast, List.flatten_replicate_singleton] at h3
  clear h1 h2 hS1 hs
  have h3 := h3.drop1
  have hS3 := h3.bl hS
  walk_at "go"
  refine c_sortL ?_
  walk_at "go"
  rw [List.length_map]
  refine c_rngV h3 fun rg H4 h4 => ?_
  walk_at "go"
  refine ⟨B, (f, .lst (List.replicate ws.length V.non)) :: L, ps, rg, a, ws, rfl, h4.rot3, hT, by omega, rfl, fun B2 ps2 H5 e h5 => h5.bl (e.seq hS), fun B2 ps2 o H5 e2 hT2 h5 => ?_⟩
  have hS2 := e2.seq hS
  clear h3 h4 hS3
  refine w_forL (fun i : Nat => V.int ((i : Nat) : Int)) (ordOf ws) (fun pre σ' L' B' => ∃ (xs : List V) (w4 w5 : Option V), σ' = [some (.ref a), some (.ref f), some (.int (((pre.foldl (cstep ws) ⟨0, 0, List.replicate ws.length none⟩).code : Nat) : Int)), some (.int (((pre.foldl (cstep ws) ⟨0, 0, List.replicate ws.length none⟩).last : Nat) : Int)), w4, w5] ∧
    Same B2 B' ∧ CodV K B' xs (pre.foldl (cstep ws) ⟨0, 0, List.replicate ws.length none⟩).out ∧ L' = (f, .lst xs) :: (o, .lst (idxBy ws)) :: (tP K, .tbl ps2) :: L) h5.rot3 ⟨_, none, none, rfl, Same.refl _, .none _, rfl⟩ ?_ ?_ ?_
  · rintro pre post σ' L' B' H' _ ⟨xs, w4, w5, rfl, _, _, rfl⟩ h
    exact h.sql (.tail _ (.head _))
  · rintro pre p post σ' L' B' H' e ⟨xs, w4, w5, rfl, eB, hC, rfl⟩ h
    obtain ⟨a1, a2, a3, a4, a5⟩ := at_place (fun n hn => (hw n hn).2) e
    have hSH := h.bl (eB.seq hS2)
    have hst : (pre ++ [p]).foldl (cstep ws) ⟨0, 0, List.replicate ws.length none⟩ = cstep ws (pre.foldl (cstep ws) ⟨0, 0, List.replicate ws.length none⟩) p := by rw [List.foldl_append]; rfl
    have hpl : pre.length ≤ 300 := by
      have z := congrArg List.length e
      rw [ord_length, List.length_append] at z
      omega
    generalize pre.foldl (cstep ws) ⟨0, 0, List.replicate ws.length none⟩ = st at *
    have hxl : xs.length = ws.length := by rw [hC.length, a3]
    have i1 : atI (ws.map V.int) ((p : Nat) : Int) = some (.int (ws.getD p 0)) := at_nat a5
    have hp0 : 0 ≤ ws.getD p 0 ∧ ws.getD p 0 ≤ 12 := by
      rw [List.getD_eq_getElem?_getD, List.getElem?_eq_getElem a5]
      exact hw _ (List.getElem_mem a5)
    have hlen : ws.getD p 0 = ((lenAt ws p : Nat) : Int) := by unfold lenAt; omega
    walk_at "go"
    by_cases c : 0 < lenAt ws p
    · refine i_t (decide_eq_true (by omega)) ?_
      have a4 := a4 c
      have hcs : cstep ws st p = ⟨st.code * 2 ^ (lenAt ws p - st.last) + 1, lenAt ws p, st.out.set p (some (st.code * 2 ^ (lenAt ws p - st.last), lenAt ws p))⟩ := by unfold cstep; rw [if_pos c]
      walk_at "go"
      rename_i t H7 h7
      have ec : ((st.code : Nat) : Int) * 2 ^ (ws.getD p 0 - ((st.last : Nat) : Int)).toNat = ((st.code * 2 ^ (lenAt ws p - st.last) : Nat) : Int) := by
        rw [hlen, show (((lenAt ws p : Nat) : Int) - ((st.last : Nat) : Int)).toNat = lenAt ws p - st.last by omega]
        push_cast
        rfl
      rw [ec, hlen] at h7
      have nb := h7.nb (.head _)
      have hCt := (hC.same (same_upd (o := HO.tup [V.int ((st.code * 2 ^ (lenAt ws p - st.last) : Nat) : Int), V.int ((lenAt ws p : Nat) : Int)]) nb)).set (t := t) (c := st.code * 2 ^ (lenAt ws p - st.last)) (l := lenAt ws p) (SqT.of upd_same) p
      refine w_set0 h7.fix rfl (by omega) fun H8 h8 => ?_
      walk_at "go"
      rw [ec, hlen]
      refine ⟨_, _, ⟨_, some (.int ((p : Nat) : Int)), some (.int ((lenAt ws p : Nat) : Int)), ?_, eB.trans (same_upd nb), ?_, rfl⟩, h8⟩
      · rw [hst, hcs]
        rfl
      · rw [hst, hcs]
        exact hCt
    · refine i_f (decide_eq_false (by omega)) ?_
      walk_at "go"
      have hcs : cstep ws st p = st := by unfold cstep; rw [if_neg c]
      exact ⟨_, _, ⟨xs, _, _, by rw [hst, hcs]; rfl, eB, by rw [hst, hcs]; exact hC, rfl⟩, h⟩
  · rintro σ' L' B' H6 ⟨xs, w4, w5, rfl, eB, hC, rfl⟩ h
    walk_at "go"
    exact q B' ps2 f xs H6 (e2.trans eB) (hT2.same eB) hC h.drop1
end L2.BR

namespace L2.BR
open PySem PySem.Spec PyProof.Rows L2.BP
variable {K : PySem.W.Frag} {W : WX} {vs : List V} {H : Hp} {Q : VK} {E : XK}
/-! ### a reader of codes -/
structure KCodeReader (K : PySem.W.Frag) : Prop where
  c : Cls K (He.ga K "CodeReader")
  n1 : NoAttr K (He.ga K "CodeReader") "known"
  n2 : NoAttr K (He.ga K "CodeReader") "begun"
theorem putK_le {κ : Type} [DecidableEq κ] (kvs : List (κ × V)) (k : κ) (v : V) : (putK kvs k v).length ≤ kvs.length + 1 := by
  unfold putK
  split
  · rw [List.length_map]
    omega
  · rw [List.length_append, List.length_singleton]
    omega
def kyT (l c : Nat) : List Key := [.inl ((l : Nat) : Int), .inl ((c : Nat) : Int)]
def findP (cs : List (Option (Nat × Nat))) (l c : Nat) : Option Nat := cs.findIdx? fun o => decide (o = some (c, l))
def begunO (s c : Nat) : Option (Nat × Nat) → Bool
  | some (c', l') => decide (1 ≤ s) && decide (s < l') && decide (c' / 2 ^ (l' - s) = c)
  | none => false
def begunP (cs : List (Option (Nat × Nat))) (s c : Nat) : Bool := cs.any (begunO s c)
/-- no two things have the same code -/
def Apart (cs : List (Option (Nat × Nat))) : Prop := ∀ p q c l : Nat, p ≠ q → cs[p]? = some (some (c, l)) → cs[q]? = some (some (c, l)) → False
def KnownOf (kvs : List (List Key × V)) (cs : List (Option (Nat × Nat))) : Prop := kvs.length ≤ cs.length ∧ ∀ l c : Nat, valV kvs (kyT l c) = (findP cs l c).map fun p => V.int ((p : Nat) : Int)
def BegunOf (bvs : List (List Key × V)) (cs : List (Option (Nat × Nat))) : Prop := bvs.length ≤ 12 * cs.length ∧ ∀ s c : Nat, (valV bvs (kyT s c)).isSome = begunP cs s c
/-- the object x reads these codes -/
def CRd (K : PySem.W.Frag) (B : Hp) (x : Addr) (cs : List (Option (Nat × Nat))) : Prop := ∃ (dx kd bd : Addr) (kvs bvs : List (List Key × V)), B x = some (.ins (He.ga K "CodeReader") dx [("known", .ref kd), ("begun", .ref bd)]) ∧ B kd = some (.dT kvs) ∧ B bd = some (.dT bvs) ∧ KnownOf kvs cs ∧ BegunOf bvs cs
theorem CRd.same {B B' : Hp} {x : Addr} {cs : List (Option (Nat × Nat))} (h : CRd K B x cs) (s : Same B B') : CRd K B' x cs := by
  obtain ⟨dx, kd, bd, kvs, bvs, a, b, c, d, e⟩ := h
  exact ⟨dx, kd, bd, kvs, bvs, s _ _ a, s _ _ b, s _ _ c, d, e⟩
theorem key_inj {l c l' c' : Nat} (h : kyT l c = kyT l' c') : l = l' ∧ c = c' := by
  unfold kyT at h
  injection h with h1 h2
  injection h2 with h2 _
  injection h1 with h1
  injection h2 with h2
  exact ⟨by omega, by omega⟩
theorem key_vals (l c : Nat) : (kyT l c).map kV = [.int ((l : Nat) : Int), .int ((c : Nat) : Int)] := rfl
theorem known_nil : KnownOf [] [] := ⟨Nat.le_refl _, fun _ _ => rfl⟩
theorem begun_nil : BegunOf [] [] := ⟨Nat.le_refl _, fun _ _ => rfl⟩
theorem findP_snoc (cs : List (Option (Nat × Nat))) (o : Option (Nat × Nat)) (l c : Nat) : findP (cs ++ [o]) l c = (findP cs l c).or (if o = some (c, l) then some cs.length else none) := by
  unfold findP
  rw [List.findIdx?_append]
  congr 1
  rw [List.findIdx?_cons]
  by_cases e : o = some (c, l)
  · simp [e]
  · simp [e]
theorem known_no {kvs : List (List Key × V)} {cs : List (Option (Nat × Nat))} (h : KnownOf kvs cs) : KnownOf kvs (cs ++ [none]) := by
  refine ⟨by rw [List.length_append]; have := h.1; omega, fun l c => ?_⟩
  rw [h.2, findP_snoc]
  simp
theorem begun_no {bvs : List (List Key × V)} {cs : List (Option (Nat × Nat))} (h : BegunOf bvs cs) : BegunOf bvs (cs ++ [none]) := by
  refine ⟨by rw [List.length_append]; have := h.1; omega, fun s c => ?_⟩
  rw [h.2]
  unfold begunP
  rw [List.any_append]
  simp [begunO]
theorem known_one {kvs : List (List Key × V)} {cs : List (Option (Nat × Nat))} {l c : Nat} (h : KnownOf kvs cs) (hn : findP cs l c = none) : KnownOf (putK kvs (kyT l c) (.int ((cs.length : Nat) : Int))) (cs ++ [some (c, l)]) := by
  refine ⟨by have z := putK_le kvs (kyT l c) (V.int ((cs.length : Nat) : Int)); rw [List.length_append, List.length_singleton]; have := h.1; omega, fun l' c' => ?_⟩
  rw [valV_put, findP_snoc, h.2]
  by_cases e : l' = l ∧ c' = c
  · obtain ⟨rfl, rfl⟩ := e
    rw [if_pos rfl, hn, if_pos rfl]
    rfl
  · rw [if_neg (fun z => e (key_inj z)), if_neg (by rintro z; injection z with z; injection z with z1 z2; exact e ⟨z2.symm, z1.symm⟩)]
    simp
theorem find_apart {cs : List (Option (Nat × Nat))} (h : Apart cs) {i l c : Nat} (hi : cs[i]? = some (some (c, l))) : findP (cs.take i) l c = none := by
  unfold findP
  rw [List.findIdx?_eq_none_iff]
  intro o ho
  rw [decide_eq_false_iff_not]
  rintro rfl
  obtain ⟨j, hj, e⟩ := List.getElem_of_mem ho
  rw [List.length_take] at hj
  have e2 : cs[j]? = some (some (c, l)) := by
    rw [List.getElem_take] at e
    rw [List.getElem?_eq_getElem (by omega), e]
  exact h j i c l (by omega) e2 hi
theorem good_apart {ws : List Int} (hw : ∀ n ∈ ws, n ≤ 12) : Apart (codesOf ws) := fun p q c l hne h1 h2 => by
  have g := (codes_good hw).1.2 p q c l c l hne h1 h2 (Nat.le_refl _)
  rw [Nat.sub_self, Nat.pow_zero, Nat.div_one] at g
  exact g rfl
/-- the beginnings of one code, so far -/
def BegunTo (bvs : List (List Key × V)) (cs : List (Option (Nat × Nat))) (c l i : Nat) : Prop := bvs.length ≤ 12 * cs.length + i ∧ ∀ s d : Nat, (valV bvs (kyT s d)).isSome = (begunP cs s d || (decide (1 ≤ s) && decide (s ≤ i) && decide (c / 2 ^ (l - s) = d)))
theorem begun_start {bvs : List (List Key × V)} {cs : List (Option (Nat × Nat))} {c l : Nat} (h : BegunOf bvs cs) : BegunTo bvs cs c l 0 := ⟨h.1, fun s d => by
  rw [h.2]
  by_cases e : 1 ≤ s
  · rw [decide_eq_false (show ¬ s ≤ 0 by omega)]
    simp
  · rw [decide_eq_false e]
    simp⟩
theorem begun_put {bvs : List (List Key × V)} {cs : List (Option (Nat × Nat))} {c l i : Nat} (h : BegunTo bvs cs c l i) : BegunTo (putK bvs (kyT (i + 1) (c / 2 ^ (l - (i + 1)))) (.bl true)) cs c l (i + 1) := by
  refine ⟨by have z := putK_le bvs (kyT (i + 1) (c / 2 ^ (l - (i + 1)))) (V.bl true); have := h.1; omega, fun s d => ?_⟩
  rw [valV_put]
  by_cases e : s = i + 1 ∧ d = c / 2 ^ (l - (i + 1))
  · obtain ⟨rfl, rfl⟩ := e
    rw [if_pos rfl, decide_eq_true (show 1 ≤ i + 1 by omega), decide_eq_true (show i + 1 ≤ i + 1 by omega), decide_eq_true rfl]
    simp
  · rw [if_neg (fun z => e (key_inj z)), h.2]
    congr 1
    by_cases e1 : s = i + 1
    · subst e1
      have e2 : ¬ c / 2 ^ (l - (i + 1)) = d := fun z => e ⟨rfl, z.symm⟩
      rw [decide_eq_false e2]
      simp
    · by_cases e2 : s ≤ i
      · rw [decide_eq_true e2, decide_eq_true (show s ≤ i + 1 by omega)]
      · rw [decide_eq_false e2, decide_eq_false (show ¬ s ≤ i + 1 by omega)]
theorem begun_end {bvs : List (List Key × V)} {cs : List (Option (Nat × Nat))} {c l : Nat} (hl : 1 ≤ l) (h12 : l ≤ 12) (h : BegunTo bvs cs c l (l - 1)) : BegunOf bvs (cs ++ [some (c, l)]) := by
  refine ⟨by rw [List.length_append, List.length_singleton]; have := h.1; omega, fun s d => ?_⟩
  rw [h.2]
  unfold begunP
  rw [List.any_append]
  congr 1
  simp only [List.any_cons, List.any_nil, Bool.or_false, begunO]
  by_cases e : s ≤ l - 1
  · rw [decide_eq_true e, decide_eq_true (show s < l by omega)]
  · rw [decide_eq_false e, decide_eq_false (show ¬ s < l by omega)]
theorem CodV.look : ∀ {pre : List V} {x : V} {post : List V} {cs : List (Option (Nat × Nat))}, CodV K H (pre ++ x :: post) cs → (x = .non ∧ cs[pre.length]? = some Option.none) ∨ ∃ (t : Addr) (c l : Nat), x = .ref t ∧ cs[pre.length]? = some (some (c, l)) ∧ SqT K H t [.int ((c : Nat) : Int), .int ((l : Nat) : Int)]
  | [], _, _, _, .no _ => .inl ⟨rfl, rfl⟩
  | [], _, _, _, .one h _ => .inr ⟨_, _, _, rfl, rfl, h⟩
  | _ :: _, _, _, _, .no t => t.look
  | _ :: _, _, _, _, .one _ t => t.look
theorem codes_len {ws : List Int} (hw : ∀ n ∈ ws, n ≤ 12) {p c l : Nat} (h : (codesOf ws)[p]? = some (some (c, l))) : 1 ≤ l ∧ l ≤ 12 := by
  obtain ⟨a1, a2, a3, a4⟩ := fold_good (l := ordOf ws) (c := ⟨0, 0, List.replicate ws.length none⟩) (k := 0) (ord_sorted ws) (fun _ _ _ => Nat.zero_le _) (good_none _) (Nat.zero_le _) (fun q _ => lenAt_le hw q) (Nat.zero_le _)
  obtain ⟨b1, b2, b3⟩ := a1.1 p c l h
  exact ⟨b1, by omega⟩
theorem take_snocC {α : Type} {cs : List α} {i : Nat} {o : α} (h : cs[i]? = some o) : cs.take (i + 1) = cs.take i ++ [o] := by
  rw [List.take_add_one, h]
  rfl
def sp_CodeReader___init__ (K : PySem.W.Frag) : Sp := fun vs H Q E => ∃ (B : Hp) (L : Pic) (ps : Array Value) (x dx : Addr) (v : V) (g : Tg), vs = [.ref x, v] ∧ Hs B ((x, .ins (He.ga K "CodeReader") dx []) :: (tP K, .tbl ps) :: L) H ∧ TabC B ps qC ∧ Th K B v g ∧ Tg.ok K B g ∧
  (∀ ws : List Int, g = .lst (ws.map V.int) → lenOk g = true → ∀ (B2 : Hp) (ps2 : Array Value) (H' : Hp), Same B B2 → TabC B2 ps2 qC → CRd K B2 x (codesOf ws) → Hs B2 ((tP K, .tbl ps2) :: L) H' → Q .non H') ∧
  (lenOk g = false → ∀ H', Hs B ((tP K, .tbl ps) :: L) H' → E (.ref (He.ga K "BadLengths")) none H')
theorem len_CodeReader___init__ (h : sp_CodeReader___init__ K vs H Q E) : vs.length = 2 := by
  obtain ⟨B, L, ps, x, dx, v, g, rfl, _⟩ := h
  rfl
def t_CodeReader___init__ (K : PySem.W.Frag) (W : WX) : TS :=
  (tSeq (sFld K (tVar 0) (tDNewT) "known")
    (tSeq (sFld K (tVar 0) (tDNewT) "begun")
    (tFor (iEnum K (tCons (tCl (sp_codes_of K) [] W (tCons (tVar 1) tNil)) tNil)) (gTup K 2 (gCons (gName 2) (gCons (gName 3) gNil))) (tIfS (tTest (tOp rNotU (tVar 3) (tC .non))) (tSeq (tAsg (tVar 3) (gTup K 2 (gCons (gName 4) (gCons (gName 5) gNil))))
    (tSeq (tAsg (tVar 2) (gSub (tFld K (tVar 0) "known") (tTup (tCons (tVar 5) (tCons (tVar 4) tNil))) rSetD))
    (tFor (iRng2 (tCons (tC (.int 1)) (tCons (tVar 5) tNil))) (gName 6) (tAsg (tC (.bl true)) (gSub (tFld K (tVar 0) "begun") (tTup (tCons (tVar 6) (tCons (tOp rShrU (tVar 4) (tOp rSubU (tVar 5) (tVar 6))) tNil))) rSetD))))) tNext))))
theorem rd_CodeReader___init__ (kCodeReader : KCodeReader K) (h : sp_CodeReader___init__ K vs H Q E) : t_CodeReader___init__ K (fun c d _ H2 => E c d H2) { nx := fun _ H' => Q .non H', rt := Q } (start ["self", "lengths", "place", "told", "code", "length", "size"] vs) H := by
  obtain ⟨B, L, ps, x, dx, v, g, rfl, hs, hT, hv, hok, q, qe⟩ := h
  obtain ⟨hc, n1, n2⟩ := kCodeReader
  unfold t_CodeReader___init__
  walk_at "go"
  refine c_dnewT hs fun d1 H1 h1 => ?_
  walk_at "go"
  rename_i H2 h2
  refine c_dnewT h2 fun d2 H3 h3 => ?_
  walk_at "go"
  rename_i H4 h4
  have h5 := h4.rot4
  clear h1 h2 h3 h4 hs
  refine ⟨B, _, ps, v, g, rfl, h5, hT, hv, hok, fun ws e hg B2 ps2 p xs H6 e6 hT6 hC h6 => ?_, fun hg H5 e5 => qe hg H5 (h5.same e5).drop1.drop1.drop1⟩
  have q := q ws e hg
  obtain ⟨ws', e', w1, w2, hw⟩ := lens_of hg
  have hws : ws' = ws := by
    have z : ws.map V.int = ws'.map V.int := by
      rw [e] at e'
      injection e'
    have inj : ∀ {a b : List Int}, a.map V.int = b.map V.int → a = b := fun {a b} => by
      induction a generalizing b with
      | nil => intro h; cases b with
        | nil => rfl
        | cons _ _ => cases h
      | cons x a ih => intro h; cases b with
        | nil => cases h
        | cons y b =>
          injection h with h1 h2
          injection h1 with h1
          rw [h1, ih h2]
    exact (inj z).symm
  subst hws
  have hw2 : ∀ n ∈ ws', n ≤ 12 := fun n hn => (hw n hn).2
  have hap := good_apart hw2
  have hcl := (codes_good hw2).2
  have hlen := fun {p c l : Nat} (h : (codesOf ws')[p]? = some (some (c, l))) => codes_len hw2 h
  generalize codesOf ws' = cs at *
  have hxl : xs.length = cs.length := hC.length
  -- the told list and the object go to the base
  have s7 := same_upd (o := .lst xs) (h6.nb (.head _))
  have kp : SqL K (upd B2 p (.lst xs)) p xs := .of upd_same
  have h7 := h6.fix.rot4
  have hC := hC.same s7
  have hT6 := hT6.same s7
  have e6 := e6.trans s7
  generalize upd B2 p (.lst xs) = B3 at *
  clear h6 s7
  have s8 := same_upd (o := .ins (He.ga K "CodeReader") dx [("known", .ref d1), ("begun", .ref d2)]) (h7.nb (p := x) (.head _))
  have kx : upd B3 x (.ins (He.ga K "CodeReader") dx [("known", .ref d1), ("begun", .ref d2)]) x = some (.ins (He.ga K "CodeReader") dx [("known", .ref d1), ("begun", .ref d2)]) := upd_same
  have h8 : Hs (upd B3 x (.ins (He.ga K "CodeReader") dx [("known", .ref d1), ("begun", .ref d2)])) ((d1, .dT []) :: (d2, .dT []) :: (tP K, .tbl ps2) :: L) H6 := (Hs.fix (p := x) h7).rot3.rot3.swap
  have hC := hC.same s8
  have hT6 := hT6.same s8
  have e6 := e6.trans s8
  have kp := s8.seq kp
  generalize upd B3 x (.ins (He.ga K "CodeReader") dx [("known", .ref d1), ("begun", .ref d2)]) = B4 at *
  clear h7 s8
  walk_at "go"
  refine ⟨p, xs, rfl, h8.bl kp, ?_⟩
  refine w_forE id xs (fun pre σ' L' B' => ∃ (kvs bvs : List (List Key × V)) (w2 w3 w4 w5 w6 : Option V), σ' = [some (.ref x), some v, w2, w3, w4, w5, w6] ∧ Same B4 B' ∧ KnownOf kvs (cs.take pre.length) ∧ BegunOf bvs (cs.take pre.length) ∧ L' = (d1, .dT kvs) :: (d2, .dT bvs) :: (tP K, .tbl ps2) :: L) h8
    ⟨[], [], none, none, none, none, none, rfl, Same.refl _, known_nil, begun_nil, rfl⟩ ?_ ?_ ?_
  · rintro pre post σ' L' B' H7 _ ⟨kvs, bvs, w2, w3, w4, w5, w6, rfl, sB, hK, hB, rfl⟩ h
    rw [List.map_id]
    exact h.bl (sB.seq kp)
  · rintro pre y post σ' L' B' T H7 ep ⟨kvs, bvs, w2, w3, w4, w5, w6, rfl, sB, hK, hB, rfl⟩ h
    rw [id_eq] at h
    have hCB := hC.same sB
    rw [ep] at hCB
    have kx := sB _ _ kx
    have hpl : pre.length < cs.length := by
      have z := congrArg List.length ep
      rw [List.length_append, List.length_cons] at z
      omega
    have htl : (cs.take pre.length).length = pre.length := by rw [List.length_take]; omega
    clear h8
    rcases hCB.look with ⟨rfl, ec⟩ | ⟨t, c, l, rfl, ec, ht⟩
    · walk_at "go"
      refine ⟨_, _, ⟨kvs, bvs, _, _, _, _, _, rfl, sB, ?_, ?_, rfl⟩, h.drop⟩
      · rw [List.length_append, List.length_singleton, take_snocC ec]
        exact known_no hK
      · rw [List.length_append, List.length_singleton, take_snocC ec]
        exact begun_no hB
    · obtain ⟨l1, l12⟩ := hlen ec
      walk_at "go"
      rename_i kt H8 h9
      have hcl300 : cs.length ≤ 300 := by omega
      refine w_setT (ks := kyT l c) h9.drop.drop (h9.get (.head _)) (small6 (by have := hK.1; omega)) fun H9 h10 => ?_
      have hK2 := known_one hK (find_apart hap ec)
      rw [htl] at hK2
      clear h h9
      walk_at "go"
      refine ⟨_, _, rfl, ⟨by decide, by omega, by omega, by omega⟩, ?_⟩
      rw [show (((l : Nat) : Int) - 1).toNat = l - 1 by omega]
      refine w_forR (fun j σ' L' B5 => ∃ (bvs' : List (List Key × V)) (w6 : Option V), σ' = [some (.ref x), some v, some (.int ((pre.length : Nat) : Int)), some (.ref t), some (.int ((c : Nat) : Int)), some (.int ((l : Nat) : Int)), w6] ∧ B5 = B' ∧ BegunTo bvs' (cs.take pre.length) c l j ∧
        L' = (d1, .dT (putK kvs (kyT l c) (.int ((pre.length : Nat) : Int)))) :: (d2, .dT bvs') :: (tP K, .tbl ps2) :: L) h10 ⟨bvs, w6, rfl, rfl, begun_start hB, rfl⟩ ?_ ?_
      · rintro j σ' L' B5 H10 hj ⟨bvs', w6, rfl, rfl, hT2, rfl⟩ h
        clear h10
        walk_at "go"
        rename_i kt H11 h11
        rw [show (1 : Int) + ((j : Nat) : Int) = ((j + 1 : Nat) : Int) by omega, show (((l : Nat) : Int) - ((j + 1 : Nat) : Int)).toNat = l - (j + 1) by omega, show ((c : Nat) : Int) / 2 ^ (l - (j + 1)) = ((c / 2 ^ (l - (j + 1)) : Nat) : Int) by push_cast; rfl] at h11
        refine w_setT (ks := kyT (j + 1) (c / 2 ^ (l - (j + 1)))) h11.drop.swap (h11.get (.head _)) (small6 (by have := hT2.1; omega)) fun H12 h12 => ?_
        exact ⟨_, _, ⟨_, _, rfl, rfl, begun_put hT2, rfl⟩, h12.swap⟩
      · rintro σ' L' B5 H10 ⟨bvs', w6, rfl, rfl, hT2, rfl⟩ h
        refine ⟨_, _, ⟨_, _, _, _, _, _, _, rfl, sB, ?_, ?_, rfl⟩, h⟩
        · rw [List.length_append, List.length_singleton, take_snocC ec]
          exact hK2
        · rw [List.length_append, List.length_singleton, take_snocC ec]
          exact begun_end l1 l12 hT2
  · rintro σ' L' B' H7 ⟨kvs, bvs, w2, w3, w4, w5, w6, rfl, sB, hK, hB, rfl⟩ h
    rw [hxl, List.take_of_length_le (Nat.le_refl _)] at hK hB
    obtain ⟨B5, s5, h9, k9⟩ := Hs.fixes (N := [_, _]) h
    exact q B5 ps2 H7 (e6.trans (sB.trans s5)) (hT6.same (sB.trans s5)) ⟨dx, d1, d2, kvs, bvs, s5 _ _ (sB _ _ kx), k9 _ (.head _), k9 _ (.tail _ (.head _)), hK, hB⟩ h9
end L2.BR

namespace L2.BR
open PySem PySem.Spec PyProof.Rows L2.BP
variable {K : PySem.W.Frag} {W : WX} {vs : List V} {H : Hp} {Q : VK} {E : XK}
/-! ### the next thing by its code -/
inductive CRes where
  | thing (p u : Nat) | bad | ends
def codeGo (cs : List (Option (Nat × Nat))) : Nat → Nat → List Bool → CRes
  | _, _, [] => .ends
  | s, c, b :: r => match findP cs (s + 1) (2 * c + b.toNat) with
    | some p => .thing p (s + 1)
    | none => if begunP cs (s + 1) (2 * c + b.toNat) = true then codeGo cs (s + 1) (2 * c + b.toNat) r else .bad
def readCode (cs : List (Option (Nat × Nat))) (bits : List Bool) : CRes := codeGo cs 0 0 bits
def sp_CodeReader_thing (K : PySem.W.Frag) : Sp := fun vs H Q E => ∃ (B : Hp) (L : Pic) (x r dr s : Addr) (t : Nat) (ns : List Int) (cs : List (Option (Nat × Nat))), vs = [.ref x, .ref r] ∧ Hs B ((r, rdO K dr s t) :: (s, .lst (ns.map V.int)) :: L) H ∧ CRd K B x cs ∧ (∀ o ∈ cs, ∀ c l, o = some (c, l) → l ≤ 12) ∧ Bytes ns ∧ ns.length ≤ 100000 ∧ t ≤ 8 * ns.length ∧
  (∀ p u, readCode cs ((bitsRow ns).drop t) = .thing p u → ∀ H', Hs B ((r, rdO K dr s (t + u)) :: (s, .lst (ns.map V.int)) :: L) H' → Q (.int ((p : Nat) : Int)) H') ∧
  (readCode cs ((bitsRow ns).drop t) = .bad → ∀ H', Hs B ((r, rdO K dr s t) :: (s, .lst (ns.map V.int)) :: L) H' → E (.ref (He.ga K "BadCode")) none H') ∧
  (readCode cs ((bitsRow ns).drop t) = .ends → ∀ H', Hs B ((r, rdO K dr s t) :: (s, .lst (ns.map V.int)) :: L) H' → E (.ref (He.ga K "NoBits")) none H')
theorem len_CodeReader_thing (h : sp_CodeReader_thing K vs H Q E) : vs.length = 2 := by
  obtain ⟨B, L, x, r, dr, s, t, ns, cs, rfl, _⟩ := h
  rfl
theorem begun_small {cs : List (Option (Nat × Nat))} (h12 : ∀ o ∈ cs, ∀ c l, o = some (c, l) → l ≤ 12) {s c : Nat} (h : begunP cs s c = true) : s < 12 := by
  unfold begunP at h
  obtain ⟨o, ho, h⟩ := List.any_eq_true.mp h
  cases o with
  | none => cases h
  | some p =>
    obtain ⟨c', l'⟩ := p
    simp only [begunO, Bool.and_eq_true, decide_eq_true_eq] at h
    have := h12 _ ho c' l' rfl
    omega
theorem go_back {B : Hp} {L : Pic} {r dr s : Addr} {t u : Nat} {ns : List Int} (h : Hs B ((r, rdO K dr s u) :: (s, .lst (ns.map V.int)) :: L) H) (ht : t ≤ 8 * ns.length) (k : ∀ H', Hs B ((r, rdO K dr s t) :: (s, .lst (ns.map V.int)) :: L) H' → Q .non H') : sp_BitReader_go K [.ref r, .int ((t : Nat) : Int)] H Q E := by
  refine ⟨B, L, r, dr, s, u, ns, _, .int ((t : Nat) : Int), rfl, .int _, h, fun i e hi H2 h2 => ?_, fun z => ?_⟩
  · obtain rfl : t = i := by
      injection e with e
      omega
    exact k H2 h2
  · simp only [Tg.isPlace, Bool.and_eq_false_iff, decide_eq_false_iff_not] at z
    omega
def t_CodeReader_thing (K : PySem.W.Frag) (W : WX) : TS :=
  (tSeq (tAsg (tMt (He.ga K "BitReader") "place" (sp_BitReader_place K) [] W (tVar 1) tNil) (gName 2))
    (tSeq (tAsg (tC (.int 0)) (gName 3))
    (tSeq (tAsg (tC (.int 0)) (gName 4))
    (tSeq (tWhile (tTest (tOp rGtU (tMt (He.ga K "BitReader") "left" (sp_BitReader_left K) [] W (tVar 1) tNil) (tC (.int 0)))) (tSeq (tAsg (tOp rOrU (tOp rShlU (tVar 4) (tC (.int 1))) (tMt (He.ga K "BitReader") "take" (sp_BitReader_take K) [] W (tVar 1) (tCons (tC (.int 1)) tNil))) (gName 4))
    (tSeq (tAug 3 (tC (.int 1)) ipAddU)
    (tSeq (tIfS (tB (tDIn (tTup (tCons (tVar 3) (tCons (tVar 4) tNil))) (tFld K (tVar 0) "known"))) (tRet (tDGet (tFld K (tVar 0) "known") (tTup (tCons (tVar 3) (tCons (tVar 4) tNil))))) tNext)
    (tIfS (tB (tDNotIn (tTup (tCons (tVar 3) (tCons (tVar 4) tNil))) (tFld K (tVar 0) "begun"))) (tSeq (tDrop (tMt (He.ga K "BitReader") "go" (sp_BitReader_go K) [] W (tVar 1) (tCons (tVar 2) tNil)))
    (tRz (He.ga K "BadCode") W)) tNext)))))
    (tSeq (tDrop (tMt (He.ga K "BitReader") "go" (sp_BitReader_go K) [] W (tVar 1) (tCons (tVar 2) tNil)))
    (tRz (He.ga K "NoBits") W))))))
theorem rd_CodeReader_thing (kBitReader : KBitReader K) (kCodeReader : KCodeReader K) (h : sp_CodeReader_thing K vs H Q E) : t_CodeReader_thing K (fun c d _ H2 => E c d H2) { nx := fun _ H' => Q .non H', rt := Q } (start ["self", "reader", "begin", "size", "code"] vs) H := by
  obtain ⟨B, L, x, r, dr, s, t, ns, cs, rfl, hs, ⟨dx, kd, bd, kvs, bvs, kx, kk, kb, hK, hB⟩, h12, hby, hnl, ht, q, qb, qe⟩ := h
  obtain ⟨bc, bn1, bn2⟩ := kBitReader
  obtain ⟨cc, n1, n2⟩ := kCodeReader
  unfold t_CodeReader_thing
  walk_at "go"
  refine ⟨B, L, r, dr, s, t, ns, rfl, hs, ?_⟩
  walk_at "go"
  refine w_while (fun m σ' L' B' => ∃ (u c : Nat), m + u = 8 * ns.length - t ∧ u ≤ 12 ∧ c < 2 ^ u ∧ codeGo cs u c ((bitsRow ns).drop (t + u)) = readCode cs ((bitsRow ns).drop t) ∧ σ' = [some (.ref x), some (.ref r), some (.int ((t : Nat) : Int)), some (.int ((u : Nat) : Int)), some (.int ((c : Nat) : Int))] ∧ B' = B ∧
    L' = (r, rdO K dr s (t + u)) :: (s, .lst (ns.map V.int)) :: L) (8 * ns.length - t) hs ⟨0, 0, by omega, by omega, by decide, rfl, rfl, rfl, rfl⟩ ?_
  rintro m σ' L' B' H' ⟨u, c, hm, hu, hc, hgo, rfl, rfl, rfl⟩ h
  clear hs
  walk_at "go"
  refine ⟨B', L, r, dr, s, t + u, ns, rfl, h, ?_⟩
  walk_at "go"
  by_cases c0 : t + u < 8 * ns.length
  rotate_left
  · refine i_f (decide_eq_false (by omega)) ?_
    have eend : readCode cs ((bitsRow ns).drop t) = .ends := by
      rw [← hgo, List.drop_of_length_le (by rw [bitsRow_length]; omega)]
      rfl
    walk_at "go"
    refine go_back h ht fun H2 h2 => ?_
    walk_at "go"
    exact qe eend _ h2
  refine i_t (decide_eq_true (by omega)) (w_turn ?_)
  have hc12 : c < 4096 := Nat.lt_of_lt_of_le hc (Nat.pow_le_pow_right (n := 2) (by decide) hu)
  have hlt : t + u < (bitsRow ns).length := by rw [bitsRow_length]; omega
  obtain ⟨b, hb⟩ : ∃ b, (bitsRow ns).drop (t + u) = b :: (bitsRow ns).drop (t + u + 1) := ⟨_, List.drop_eq_getElem_cons hlt⟩
  have htk : takenNum ns (t + u) 1 = b.toNat := by
    unfold takenNum
    rw [hb]
    simp [numOf]
  have hbl : b.toNat < 2 := by cases b <;> decide
  rw [hb, codeGo] at hgo
  walk_at "go"
  refine ⟨B', L, r, dr, s, t + u, ns, .int 1, .int 1, rfl, .int 1, h, hby, by omega, hnl, fun i e hi1 hi2 H2 h2 => ?_, (fun z => by cases z), fun i e hi1 hi2 => ?_⟩
  rotate_left
  · injection e with e
    omega
  obtain rfl : i = 1 := by
    injection e with e
    omega
  rw [htk]
  clear h e
  walk_at "go"
  rename_i kt H3 h3
  have ej : Builtin.bitOr (((c : Nat) : Int) * 2 ^ (1 : Int).toNat) ((b.toNat : Nat) : Int) = ((2 * c + b.toNat : Nat) : Int) := by
    have z := join_nat (a := c) (b := b.toNat) (k := 1) hbl
    rw [show (1 : Int).toNat = 1 from rfl, z]
    congr 1
    omega
  have hc2 : 2 * c + b.toNat < 2 ^ (u + 1) := by
    rw [Nat.pow_succ]
    omega
  rw [ej, show ((u : Nat) : Int) + 1 = ((u + 1 : Nat) : Int) by omega] at h3 ⊢
  generalize hcc : 2 * c + b.toNat = c' at *
  clear h2
  refine c_diO (ks := kyT (u + 1) c') (h3.ex _ _ kk) (h3.get (.head _)) ?_
  rw [hK.2]
  cases hf : findP cs (u + 1) c' with
  | some p =>
    rw [hf] at hgo
    walk_at "go"
    rename_i k2 H4 h4
    refine c_dgO2 (ks := kyT (u + 1) c') (h4.ex _ _ kk) (h4.get (.head _)) (by rw [hK.2, hf]; rfl) ?_
    exact q p (u + 1) hgo.symm _ h4.drop.drop
  | none =>
    rw [hf] at hgo
    walk_at "go"
    rename_i k2 H4 h4
    refine c_dnO (ks := kyT (u + 1) c') (h4.ex _ _ kb) (h4.get (.head _)) ?_
    rw [hB.2]
    cases hg : begunP cs (u + 1) c' with
    | true =>
      simp only [hg, if_true] at hgo
      walk_at "go"
      have := begun_small h12 hg
      exact ⟨m - 1, by omega, _, _, ⟨u + 1, c', by omega, by omega, hc2, hgo, rfl, rfl, rfl⟩, h4.drop.drop⟩
    | false =>
      simp only [hg] at hgo
      have h5 := h4.drop.drop
      clear h3 h4
      walk_at "go"
      refine go_back h5 ht fun H6 h6 => ?_
      walk_at "go"
      exact qb hgo.symm _ h6
end L2.BR

namespace L2.BR
open PySem PySem.Spec PyProof.Rows L2.BP
variable {K : PySem.W.Frag} {W : WX} {vs : List V} {H : Hp} {Q : VK} {E : XK}
/-! ### texts of noughts and ones -/
def dig (b : Bool) : Nat := if b then 49 else 48
def digS (b : List Bool) : Str := ⟨(b.map dig).toArray⟩
theorem digS_len (b : List Bool) : (digS b).length = b.length := by simp [digS, Str.length]
theorem digS_app (a b : List Bool) : digS a ++ digS b = digS (a ++ b) := by
  show Str.append _ _ = _
  simp [Str.append, digS]
theorem digS_rep {k : Nat} (h : k < 8) : repS "0" k = digS (List.replicate k false) := by
  revert k
  decide +kernel
theorem digS_101 : ("101" : Str) = digS [true, false, true] := by decide +kernel
theorem digS_nil : ("" : Str) = digS [] := by decide +kernel
theorem digS_cut (b : List Bool) {i j : Int} {m n : Nat} (ei : i = ((m : Nat) : Int)) (ej : j = ((n : Nat) : Int)) (h : m ≤ n) (hn : n ≤ b.length) : cutS (digS b) (some i) (some j) = digS ((b.drop m).take (n - m)) := by
  subst ei ej
  unfold cutS
  rw [HT.sIx_nat, HT.sIx_nat, digS_len, Nat.min_eq_left hn, Nat.min_eq_left (Nat.le_trans h hn)]
  unfold digS
  simp
theorem digS_at {b : List Bool} {i c : Nat} (h : (digS b).cps[i]? = some c) : ∃ x, b[i]? = some x ∧ c = dig x := by
  unfold digS at h
  rw [List.getElem?_toArray, List.getElem?_map] at h
  cases e : b[i]? with
  | none => rw [e] at h; cases h
  | some x => rw [e] at h; exact ⟨x, rfl, (Option.some.inj h).symm⟩
theorem dig_one (b : Bool) : decide ((⟨#[dig b]⟩ : Str) = "1") = b := by cases b <;> decide +kernel
theorem dig_at {n : Nat} : atI ("01" : Str).cps.toList ((n % 2 : Nat) : Int) = some (dig (n % 2 == 1)) := by
  rcases Nat.mod_two_eq_zero_or_one n with e | e <;> rw [e] <;> decide +kernel
theorem dig_S (b : Bool) : (⟨#[dig b]⟩ : Str) = digS [b] := rfl
theorem bitsOf_at (n : Nat) : ∀ s j, j < s → (bitsOf n s)[j]? = some (n / 2 ^ (s - 1 - j) % 2 == 1)
  | 0, _, h => absurd h (Nat.not_lt_zero _)
  | s + 1, 0, _ => rfl
  | s + 1, j + 1, h => by
    have ih := bitsOf_at n s j (by omega)
    rw [show s + 1 - 1 - (j + 1) = s - 1 - j by omega]
    exact ih
theorem bits_take (n : Nat) {s j : Nat} (h : j < s) : (bitsOf n s).take (j + 1) = (bitsOf n s).take j ++ [n / 2 ^ (s - 1 - j) % 2 == 1] := by
  rw [List.take_add_one, bitsOf_at n s j h]
  rfl
theorem num_take {b : List Bool} {i : Nat} {x : Bool} (h : b[i]? = some x) : numOf (b.take (i + 1)) = 2 * numOf (b.take i) + x.toNat := by
  rw [List.take_add_one, h, numOf_append]
  cases x <;> simp [numOf] <;> omega
theorem rgC8 {j : Int} {m : Nat} (e : j = 8 * ((m : Nat) : Int)) (hm : m ≤ 1000000) : RgC 0 j 8 m := by
  subst e
  have hz : Builtin.Range.rangeSize 0 (8 * ((m : Nat) : Int)) 8 = m := by
    unfold Builtin.Range.rangeSize
    simp only [show ((8 : Int) > 0) from by decide, if_true]
    split <;> omega
  refine ⟨by decide, by decide, ?_, hz⟩
  unfold Builtin.Range.small
  rw [hz]
  have f : ∀ z : Int, -1000000 ≤ z → z ≤ 9000000 → Builtin.Range.rangeFitsLong z = true := fun z h1 h2 => by
    unfold Builtin.Range.rangeFitsLong
    rw [decide_eq_true (show -(2 ^ 63) ≤ z by omega), decide_eq_true (show z < 2 ^ 63 by omega)]
    rfl
  rw [if_pos (by decide), f 0 (by decide) (by decide), f 8 (by decide) (by decide), f (8 * ((m : Nat) : Int)) (by omega) (by omega), f ((m : Nat) : Int) (by omega) (by omega), f (8 * ((m : Nat) : Int) + (8 - 1)) (by omega) (by omega)]
  simp
end L2.BR

namespace L2.BR
open PySem PySem.Spec PyProof.Rows L2.BP
/-! ### codes as texts -/
theorem fit_fold {ws : List Int} : ∀ {l : List Nat} {c : CSt}, l.Pairwise (fun a b => ws.getD a 0 ≤ ws.getD b 0) → (∀ q ∈ l, 0 < lenAt ws q → c.last ≤ lenAt ws q) → (∀ q ∈ l, lenAt ws q ≤ 12) → c.last ≤ 12 →
    (l.foldl (cstep ws) c).code * 2 ^ (12 - (l.foldl (cstep ws) c).last) = c.code * 2 ^ (12 - c.last) + (l.map fun q => if 0 < lenAt ws q then 2 ^ (12 - lenAt ws q) else 0).sum ∧
    ∀ p x k : Nat, (l.foldl (cstep ws) c).out[p]? = some (some (x, k)) → c.out[p]? = some (some (x, k)) ∨ (k ≤ 12 ∧ (x + 1) * 2 ^ (12 - k) ≤ c.code * 2 ^ (12 - c.last) + (l.map fun q => if 0 < lenAt ws q then 2 ^ (12 - lenAt ws q) else 0).sum)
  | [], c, _, _, _, _ => ⟨by simp, fun p x k h => .inl h⟩
  | q :: l, c, hp, hl, hm, h12 => by
    obtain ⟨h1, h2⟩ := List.pairwise_cons.mp hp
    rw [List.foldl_cons, List.map_cons, List.sum_cons]
    by_cases h0 : 0 < lenAt ws q
    · have hlq := hl q (.head _) h0
      have hmq := hm q (.head _)
      have e : cstep ws c q = ⟨c.code * 2 ^ (lenAt ws q - c.last) + 1, lenAt ws q, c.out.set q (some (c.code * 2 ^ (lenAt ws q - c.last), lenAt ws q))⟩ := by unfold cstep; rw [if_pos h0]
      rw [e]
      obtain ⟨a1, a2⟩ := fit_fold (c := ⟨c.code * 2 ^ (lenAt ws q - c.last) + 1, lenAt ws q, c.out.set q (some (c.code * 2 ^ (lenAt ws q - c.last), lenAt ws q))⟩) h2 (fun r hr _ => by
        have z := h1 r hr
        show lenAt ws q ≤ lenAt ws r
        unfold lenAt
        omega) (fun r hr => hm r (.tail _ hr)) hmq
      have ec : (c.code * 2 ^ (lenAt ws q - c.last) + 1) * 2 ^ (12 - lenAt ws q) = c.code * 2 ^ (12 - c.last) + 2 ^ (12 - lenAt ws q) := by
        rw [Nat.add_mul, Nat.one_mul, Nat.mul_assoc, ← Nat.pow_add, show lenAt ws q - c.last + (12 - lenAt ws q) = 12 - c.last by omega]
      dsimp only at a1 a2
      rw [if_pos h0]
      refine ⟨by rw [a1, ec]; omega, fun p x k h => ?_⟩
      rcases a2 p x k h with z | ⟨z1, z2⟩
      · by_cases ep : p = q
        · subst ep
          rw [List.getElem?_set] at z
          simp only [if_true] at z
          split at z
          · injection z with z
            injection z with z
            injection z with zx zk
            subst zx zk
            right
            refine ⟨hmq, ?_⟩
            rw [ec]
            omega
          · cases z
        · rw [List.getElem?_set_ne (fun z => ep z.symm)] at z
          exact .inl z
      · right
        rw [ec] at z2
        exact ⟨z1, by omega⟩
    · have e : cstep ws c q = c := by unfold cstep; rw [if_neg h0]
      rw [e, if_neg h0, Nat.zero_add]
      exact fit_fold h2 (fun r hr => hl r (.tail _ hr)) (fun r hr => hm r (.tail _ hr)) h12
def Fits (cs : List (Option (Nat × Nat))) : Prop := ∀ p c l : Nat, cs[p]? = some (some (c, l)) → 1 ≤ l ∧ l ≤ 12 ∧ c < 2 ^ l
theorem codes_fit {ws : List Int} (hw : ∀ n ∈ ws, 0 ≤ n ∧ n ≤ 12) (hk : kraftV (ws.map V.int) ≤ 4096) : Fits (codesOf ws) := fun p c l h => by
  obtain ⟨b1, b2⟩ := codes_len (fun n hn => (hw n hn).2) h
  refine ⟨b1, b2, ?_⟩
  obtain ⟨_, a2⟩ := fit_fold (ws := ws) (l := ordOf ws) (c := ⟨0, 0, List.replicate ws.length none⟩) (ord_sorted ws) (fun _ _ _ => Nat.zero_le _) (fun q _ => lenAt_le (fun n hn => (hw n hn).2) q) (Nat.zero_le _)
  rcases a2 p c l h with z | ⟨_, z⟩
  · have z : (List.replicate ws.length (none : Option (Nat × Nat)))[p]? = some (some (c, l)) := z
    rw [List.getElem?_replicate] at z
    split at z <;> cases z
  · have e : ((ordOf ws).map fun q => if 0 < lenAt ws q then 2 ^ (12 - lenAt ws q) else 0).sum = kraftV (ws.map V.int) := by
      have hp := ((ord_perm ws).map (fun q => if 0 < lenAt ws q then 2 ^ (12 - lenAt ws q) else 0)).sum_nat
      rw [hp]
      unfold kraftV
      rw [List.map_map]
      congr 1
      apply List.ext_getElem
      · simp
      · intro i h1 h2
        simp only [List.length_map, List.length_range] at h1
        rw [List.getElem_map, List.getElem_map, List.getElem_range]
        show (if 0 < lenAt ws i then 2 ^ (12 - lenAt ws i) else 0) = (if 0 < ws[i] then 2 ^ (12 - ws[i].toNat) else 0)
        unfold lenAt
        have e1 : ws.getD i 0 = ws[i] := by rw [List.getD_eq_getElem?_getD, List.getElem?_eq_getElem h1]; rfl
        rw [e1]
        have := (hw _ (List.getElem_mem h1)).1
        by_cases c : 0 < ws[i]
        · rw [if_pos c, if_pos (by omega)]
        · rw [if_neg c, if_neg (by omega)]
    rw [e, Nat.zero_mul, Nat.zero_add] at z
    have z2 : (c + 1) * 2 ^ (12 - l) ≤ 2 ^ l * 2 ^ (12 - l) := by
      rw [← Nat.pow_add, show l + (12 - l) = 12 by omega]
      exact Nat.le_trans z hk
    exact Nat.le_of_mul_le_mul_right z2 (Nat.two_pow_pos _)
theorem fits_le {cs : List (Option (Nat × Nat))} (h : Fits cs) : ∀ o ∈ cs, ∀ c l, o = some (c, l) → l ≤ 12 := fun o ho c l e => by
  obtain ⟨i, hi, e2⟩ := List.getElem_of_mem ho
  exact (h i c l (by rw [List.getElem?_eq_getElem hi, e2, e])).2.1
def textOf : Option (Nat × Nat) → Str
  | none => "none"
  | some (c, l) => digS (bitsOf c l)
theorem dig_map_inj : ∀ {a b : List Bool}, a.map dig = b.map dig → a = b
  | [], [], _ => rfl
  | [], _ :: _, h => by cases h
  | _ :: _, [], h => by cases h
  | x :: a, y :: b, h => by
    rw [List.map_cons, List.map_cons] at h
    injection h with h1 h2
    rw [dig_map_inj h2]
    cases x <;> cases y <;> first | rfl | cases h1
theorem digS_inj {a b : List Bool} (h : digS a = digS b) : a = b := by
  unfold digS at h
  injection h with h
  have h := congrArg Array.toList h
  simp only [List.toList_toArray] at h
  exact dig_map_inj h
theorem none_digS (b : List Bool) : ("none" : Str) ≠ digS b := fun h => by
  cases b with
  | nil => exact absurd h (by decide +kernel)
  | cons x r =>
    unfold digS at h
    have h := congrArg (fun s : Str => s.cps.toList.head?) h
    have e : (("none" : Str).cps.toList.head?) = some 110 := by decide +kernel
    simp only [e] at h
    cases x <;> simp [dig] at h
theorem bits_eq {c l : Nat} (h : c < 2 ^ l) (w : List Bool) : bitsOf c l = w ↔ l = w.length ∧ c = numOf w := by
  constructor
  · rintro rfl
    exact ⟨(bitsOf_length c l).symm, (numOf_small h).symm⟩
  · rintro ⟨rfl, rfl⟩
    exact bitsOf_numOf w
theorem text_eq {cs : List (Option (Nat × Nat))} (hf : Fits cs) {p : Nat} {o : Option (Nat × Nat)} (hp : cs[p]? = some o) (w : List Bool) : textOf o = digS w ↔ o = some (numOf w, w.length) := by
  cases o with
  | none => exact ⟨fun h => absurd h (none_digS w), fun h => by cases h⟩
  | some q =>
    obtain ⟨c, l⟩ := q
    obtain ⟨_, _, h3⟩ := hf p c l hp
    constructor
    · intro h
      obtain ⟨rfl, rfl⟩ := (bits_eq h3 w).mp (digS_inj h)
      rfl
    · intro h
      injection h with h
      injection h with h1 h2
      show digS (bitsOf c l) = _
      rw [(bits_eq h3 w).mpr ⟨h2, h1⟩]
theorem starts_dig (a w : List Bool) : Txt.startswith (digS a) (digS w) = decide (a.take w.length = w) := by
  unfold Txt.startswith Builtin.Str.subAt
  rw [digS_len, digS_len]
  apply Bool.eq_iff_iff.mpr
  simp only [Bool.and_eq_true, decide_eq_true_eq, Nat.zero_add, beq_iff_eq]
  have e : (digS a).cps.extract 0 w.length = (digS (a.take w.length)).cps := by
    unfold digS
    apply Array.ext'
    simp [List.map_take]
  rw [e]
  constructor
  · rintro ⟨_, h⟩
    exact digS_inj (by cases h2 : digS (a.take w.length); cases h3 : digS w; rw [h2, h3] at h; exact congrArg Str.mk h)
  · intro h
    rw [h]
    refine ⟨?_, rfl⟩
    have := congrArg List.length h
    rw [List.length_take] at this
    omega
theorem starts_none (w : List Bool) (hw : w ≠ []) : Txt.startswith "none" (digS w) = false := by
  cases w with
  | nil => exact absurd rfl hw
  | cons x r =>
    unfold Txt.startswith Builtin.Str.subAt
    apply Bool.eq_false_iff.mpr
    intro h
    simp only [Bool.and_eq_true, beq_iff_eq] at h
    have h := congrArg (fun s : Array Nat => s.toList.head?) h.2
    rw [show (digS (x :: r)).length = r.length + 1 by rw [digS_len]; rfl] at h
    have e : (("none" : Str).cps.extract 0 (0 + (r.length + 1))).toList.head? = some 110 := by
      have e0 : ("none" : Str).cps.toList = [110, 111, 110, 101] := by decide +kernel
      rw [Array.toList_extract, e0]
      simp
    simp only [e] at h
    cases x <;> simp [digS, dig] at h
theorem numOf_take {c l s : Nat} (h : c < 2 ^ l) (hs : s ≤ l) : numOf ((bitsOf c l).take s) = c / 2 ^ (l - s) := by
  have e := numOf_append ((bitsOf c l).take s) ((bitsOf c l).drop s)
  rw [List.take_append_drop, numOf_small h, List.length_drop, bitsOf_length] at e
  have lt := numOf_lt ((bitsOf c l).drop s)
  rw [List.length_drop, bitsOf_length] at lt
  conv => rhs; rw [e, Nat.add_comm, Nat.add_mul_div_right _ _ (Nat.two_pow_pos _), Nat.div_eq_of_lt lt, Nat.zero_add]
theorem take_eq {c l : Nat} (h : c < 2 ^ l) {w : List Bool} (hw : w.length ≤ l) : (bitsOf c l).take w.length = w ↔ c / 2 ^ (l - w.length) = numOf w := by
  rw [← numOf_take h hw]
  constructor
  · intro e
    rw [e]
  · intro e
    exact numOf_inj _ _ (by rw [List.length_take, bitsOf_length]; omega) e
/-- whether a code's text goes on with what comes -/
theorem text_starts {cs : List (Option (Nat × Nat))} (hf : Fits cs) {p : Nat} {o : Option (Nat × Nat)} (hp : cs[p]? = some o) {w : List Bool} (hw : w ≠ []) (hne : o ≠ some (numOf w, w.length)) : Txt.startswith (textOf o) (digS w) = begunO w.length (numOf w) o := by
  cases o with
  | none => exact starts_none w hw
  | some q =>
    obtain ⟨c, l⟩ := q
    obtain ⟨_, _, h3⟩ := hf p c l hp
    have hw1 : 1 ≤ w.length := List.length_pos_iff.mpr hw
    show Txt.startswith (digS (bitsOf c l)) (digS w) = _
    rw [starts_dig]
    simp only [begunO]
    rw [decide_eq_true hw1, Bool.true_and]
    by_cases hl : w.length ≤ l
    · by_cases he : w.length = l
      · rw [decide_eq_false (show ¬ w.length < l by omega), Bool.false_and]
        rw [decide_eq_false]
        intro z
        apply hne
        rw [take_eq h3 hl, he, Nat.sub_self, Nat.pow_zero, Nat.div_one] at z
        rw [z, he]
      · rw [decide_eq_true (show w.length < l by omega), Bool.true_and]
        exact dec_of (take_eq h3 hl)
    · rw [decide_eq_false (show ¬ w.length < l by omega), Bool.false_and, decide_eq_false]
      intro z
      have := congrArg List.length z
      rw [List.length_take, bitsOf_length] at this
      omega
theorem find_text {cs : List (Option (Nat × Nat))} (hf : Fits cs) (w : List Bool) : (findP cs w.length (numOf w) = none ↔ digS w ∉ cs.map textOf) ∧ ∀ p, findP cs w.length (numOf w) = some p → (cs.map textOf)[p]? = some (digS w) ∧ ∀ m, m < p → (cs.map textOf)[m]? ≠ some (digS w) := by
  constructor
  · unfold findP
    rw [List.findIdx?_eq_none_iff, List.mem_map]
    constructor
    · rintro h ⟨o, ho, e⟩
      obtain ⟨i, hi, e2⟩ := List.getElem_of_mem ho
      have z := (text_eq hf (p := i) (by rw [List.getElem?_eq_getElem hi, e2]) w).mp e
      have := h o ho
      rw [decide_eq_false_iff_not] at this
      exact this z
    · intro h o ho
      rw [decide_eq_false_iff_not]
      intro z
      obtain ⟨i, hi, e2⟩ := List.getElem_of_mem ho
      exact h ⟨o, ho, (text_eq hf (p := i) (by rw [List.getElem?_eq_getElem hi, e2]) w).mpr z⟩
  · intro p hp
    unfold findP at hp
    obtain ⟨hpl, h1, h2⟩ := List.findIdx?_eq_some_iff_getElem.mp hp
    rw [decide_eq_true_eq] at h1
    refine ⟨?_, fun m hm => ?_⟩
    · rw [List.getElem?_map, List.getElem?_eq_getElem hpl]
      exact congrArg some ((text_eq hf (p := p) (List.getElem?_eq_getElem hpl) w).mpr h1)
    · rw [List.getElem?_map, List.getElem?_eq_getElem (by omega)]
      intro z
      have z := Option.some.inj z
      have z2 := (text_eq hf (p := m) (List.getElem?_eq_getElem (by omega)) w).mp z
      have := h2 m hm
      rw [Bool.not_eq_true, decide_eq_false_iff_not] at this
      exact this z2
theorem begun_text {cs : List (Option (Nat × Nat))} (hf : Fits cs) {w : List Bool} (hw : w ≠ []) (hn : findP cs w.length (numOf w) = none) : ((cs.map textOf).filter fun t => Txt.startswith t (digS w)) = [] ↔ begunP cs w.length (numOf w) = false := by
  unfold findP at hn
  rw [List.findIdx?_eq_none_iff] at hn
  unfold begunP
  rw [List.filter_eq_nil_iff, List.any_eq_false]
  constructor
  · intro h o ho
    obtain ⟨i, hi, e2⟩ := List.getElem_of_mem ho
    have z := hn o ho
    rw [decide_eq_false_iff_not] at z
    have := h (textOf o) (List.mem_map_of_mem ho)
    rw [text_starts hf (p := i) (by rw [List.getElem?_eq_getElem hi, e2]) hw z] at this
    exact this
  · intro h t ht
    obtain ⟨o, ho, rfl⟩ := List.mem_map.mp ht
    obtain ⟨i, hi, e2⟩ := List.getElem_of_mem ho
    have z := hn o ho
    rw [decide_eq_false_iff_not] at z
    rw [text_starts hf (p := i) (by rw [List.getElem?_eq_getElem hi, e2]) hw z]
    exact h o ho
end L2.BR

namespace L2.BR
open PySem PySem.Spec PyProof.Rows L2.BP
/-! ### bundles -/
abbrev Bun := Int × List Int
def sortB (l : List Bun) : List Bun := l.mergeSort fun a b => decide (a.1 ≤ b.1)
def byTwos : List Bun → List Bun
  | a :: b :: r => (a.1 + b.1, a.2 ++ b.2) :: byTwos r
  | _ => []
def singlesOf (ns : List Int) : List Bun := sortB ((ns.zipIdx.filter fun p => decide (0 < p.1)).map fun p => (p.1, [((p.2 : Nat) : Int)]))
def rowsB (s : List Bun) : Nat → List Bun
  | 0 => s
  | d + 1 => sortB (s ++ byTwos (rowsB s d))
def addAt (ls ps : List Int) : List Int := ps.foldl (fun l p => l.set p.toNat (l.getD p.toNat 0 + 1)) ls
def lenOf (ns : List Int) (most : Nat) : List Int :=
  if (singlesOf ns).length = 1 then (List.replicate ns.length 0).set (((singlesOf ns).getD 0 (0, [])).2.getD 0 0).toNat 1
  else addAt (List.replicate ns.length 0) (((rowsB (singlesOf ns) (most - 1)).take (2 * (singlesOf ns).length - 2)).flatMap (·.2))
theorem addAt_length : ∀ (ps ls : List Int), (addAt ls ps).length = ls.length
  | [], _ => rfl
  | p :: r, ls => by
    show (addAt (ls.set p.toNat _) r).length = _
    rw [addAt_length r, List.length_set]
theorem lenOf_length (ns : List Int) (m : Nat) : (lenOf ns m).length = ns.length := by
  unfold lenOf
  split
  · rw [List.length_set, List.length_replicate]
  · rw [addAt_length, List.length_replicate]
theorem addAt_snoc (ls ps : List Int) (p : Int) : addAt ls (ps ++ [p]) = (addAt ls ps).set p.toNat ((addAt ls ps).getD p.toNat 0 + 1) := by
  unfold addAt
  rw [List.foldl_append]
  rfl
theorem addAt_app (ls ps qs : List Int) : addAt ls (ps ++ qs) = addAt (addAt ls ps) qs := by
  unfold addAt
  rw [List.foldl_append]
theorem byTwos_length : ∀ l : List Bun, (byTwos l).length = l.length / 2
  | [] => rfl
  | [_] => by simp [byTwos]
  | a :: b :: r => by
    have ih := byTwos_length r
    show (byTwos r).length + 1 = (r.length + 1 + 1) / 2
    omega
theorem byTwos_take : ∀ (l : List Bun) (i : Nat) (a b : Bun), l[2 * i]? = some a → l[2 * i + 1]? = some b → byTwos (l.take (2 * (i + 1))) = byTwos (l.take (2 * i)) ++ [(a.1 + b.1, a.2 ++ b.2)]
  | [], i, a, b, h, _ => by simp at h
  | [x], i, a, b, h, h2 => by simp at h2
  | x :: y :: r, 0, a, b, h, h2 => by
    simp at h h2
    subst h h2
    rfl
  | x :: y :: r, i + 1, a, b, h, h2 => by
    have ih := byTwos_take r i a b (by simpa [show 2 * (i + 1) = 2 * i + 2 by omega] using h) (by simpa [show 2 * (i + 1) + 1 = 2 * i + 1 + 2 by omega] using h2)
    rw [show 2 * (i + 1 + 1) = 2 * (i + 1) + 2 by omega, show 2 * (i + 1) = 2 * i + 2 by omega]
    show (x.1 + y.1, x.2 ++ y.2) :: byTwos (r.take (2 * i + 2)) = _
    rw [show 2 * i + 2 = 2 * (i + 1) by omega, ih]
    rfl
/-! how many places stand in a row, which places -/
def places (l : List Bun) : List Int := l.flatMap (·.2)
theorem places_byTwos : ∀ l : List Bun, (places (byTwos l)).length ≤ (places l).length
  | [] => Nat.le_refl _
  | [_] => Nat.zero_le _
  | a :: b :: r => by
    have ih := places_byTwos r
    unfold places at ih ⊢
    show ((a.2 ++ b.2) ++ (byTwos r).flatMap (·.2)).length ≤ (a.2 ++ (b.2 ++ r.flatMap (·.2))).length
    simp only [List.length_append]
    omega
theorem sortB_perm (l : List Bun) : (sortB l).Perm l := List.mergeSort_perm _ _
theorem sortB_length (l : List Bun) : (sortB l).length = l.length := (sortB_perm l).length_eq
theorem places_perm {l l' : List Bun} (h : l.Perm l') : (places l).length = (places l').length := by
  unfold places
  exact (h.flatMap_right _).length_eq
theorem rows_places (s : List Bun) : ∀ d, (places (rowsB s d)).length ≤ (places s).length * (d + 1)
  | 0 => by simp [rowsB]
  | d + 1 => by
    have ih := rows_places s d
    have h1 := places_byTwos (rowsB s d)
    show (places (sortB (s ++ byTwos (rowsB s d)))).length ≤ _
    rw [places_perm (sortB_perm _)]
    unfold places at ih h1 ⊢
    rw [List.flatMap_append, List.length_append, Nat.mul_succ]
    omega
theorem rows_length (s : List Bun) : ∀ d, (rowsB s d).length ≤ 2 * s.length
  | 0 => by show s.length ≤ _; omega
  | d + 1 => by
    have ih := rows_length s d
    show (sortB (s ++ byTwos (rowsB s d))).length ≤ _
    rw [sortB_length, List.length_append, byTwos_length]
    omega
theorem one_places {l : List Bun} {b : Bun} (h : b ∈ l) : b.2.length ≤ (places l).length := by
  obtain ⟨p, q, rfl⟩ := List.append_of_mem h
  unfold places
  simp only [List.flatMap_append, List.flatMap_cons, List.length_append]
  omega
theorem mem_byTwos : ∀ {l : List Bun} {p : Int}, p ∈ places (byTwos l) → p ∈ places l
  | [], _, h => h
  | [_], _, h => by simp [byTwos, places] at h
  | a :: b :: r, p, h => by
    have ih := mem_byTwos (l := r) (p := p)
    simp only [byTwos, places, List.flatMap_cons, List.mem_append] at h ih ⊢
    rcases h with (h | h) | h
    · exact .inl h
    · exact .inr (.inl h)
    · exact .inr (.inr (ih h))
theorem mem_places_perm {l l' : List Bun} (h : l.Perm l') {p : Int} (m : p ∈ places l) : p ∈ places l' := by
  unfold places at m ⊢
  exact (h.flatMap_right _).mem_iff.mp m
theorem mem_rows (s : List Bun) {p : Int} : ∀ d, p ∈ places (rowsB s d) → p ∈ places s
  | 0, h => h
  | d + 1, h => by
    have h2 := mem_places_perm (sortB_perm _) (show p ∈ places (sortB (s ++ byTwos (rowsB s d))) from h)
    unfold places at h2
    rw [List.flatMap_append] at h2
    rcases List.mem_append.mp h2 with z | z
    · exact z
    · exact mem_rows s d (mem_byTwos z)
theorem singles_places {ns : List Int} {p : Int} (h : p ∈ places (singlesOf ns)) : ∃ k : Nat, p = ((k : Nat) : Int) ∧ k < ns.length := by
  have h2 := mem_places_perm (sortB_perm _) (show p ∈ places (sortB _) from h)
  unfold places at h2
  obtain ⟨b, hb, hp⟩ := List.mem_flatMap.mp h2
  obtain ⟨q, hq, rfl⟩ := List.mem_map.mp hb
  have hq2 := (List.mem_filter.mp hq).1
  refine ⟨q.2, List.mem_singleton.mp hp, ?_⟩
  have := List.snd_lt_of_mem_zipIdx hq2
  omega
theorem singles_len (ns : List Int) : (singlesOf ns).length = (ns.filter fun n => decide (0 < n)).length := by
  unfold singlesOf
  rw [sortB_length, List.length_map]
  have e : ns = ns.zipIdx.map (·.1) := by rw [List.zipIdx_map_fst]
  conv => rhs; rw [e, List.filter_map, List.length_map]
  rfl
theorem singles_places_len (ns : List Int) : (places (singlesOf ns)).length = (singlesOf ns).length := by
  have h : ∀ b ∈ singlesOf ns, b.2.length = 1 := fun b hb => by
    have hb2 := (sortB_perm _).mem_iff.mp (show b ∈ sortB _ from hb)
    obtain ⟨q, hq, rfl⟩ := List.mem_map.mp hb2
    rfl
  unfold places
  generalize singlesOf ns = l at h
  induction l with
  | nil => rfl
  | cons a r ih =>
    rw [List.flatMap_cons, List.length_append, h a (.head _), ih fun b hb => h b (.tail _ hb)]
    simp
    omega
end L2.BR

namespace L2.BR
open PySem PySem.Spec PyProof.Rows L2.BP
variable {K : PySem.W.Frag} {W : WX} {vs : List V} {H : Hp} {Q : VK} {E : XK}
def posV : V → Bool
  | .int i => decide (0 < i)
  | _ => false
def countsOk : Tg → Tg → Bool
  | .lst xs, .int m => decide (1 ≤ xs.length) && decide (xs.length ≤ 300) && xs.all (btwV 0 1000000) && (decide (1 ≤ m) && decide (m ≤ 12)) && (decide (1 ≤ (xs.filter posV).length) && decide ((xs.filter posV).length ≤ 2 ^ m.toNat))
  | _, _ => false
def sp_need_counts (K : PySem.W.Frag) : Sp := fun vs H Q E => ∃ (v w : V) (g k : Tg), vs = [v, w] ∧ Th K H v g ∧ Th K H w k ∧ Tg.ok K H g ∧
  (countsOk g k = true → RetV H Q .non) ∧ (countsOk g k = false → ∀ H', Same H H' → E (.ref (He.ga K "BadShares")) none H')
theorem len_need_counts (h : sp_need_counts K vs H Q E) : vs.length = 2 := by
  obtain ⟨v, w, g, k, rfl, _⟩ := h
  rfl
def t_need_counts (K : PySem.W.Frag) (W : WX) : TS :=
  (tSeq (tIfS ((tOr (tNot (tB (tCB (rIsi K) (tCons (tVar 0) (tCons (tC (.ty "list")) tNil))))) (tNot (tTest (tChain rLeU rLeU (tC (.int 1)) (tCB (rLenK K) (tCons (tVar 0) tNil)) (tC (.int 300))))))) (tRz (He.ga K "BadShares") W) tNext)
    (tSeq (tFor (iList K (tVar 0)) (gName 2) (tIfS (tNot (tB (tCl (sp_is_between K) [] W (tCons (tVar 2) (tCons (tC (.int 0)) (tCons (tC (.int 1000000)) tNil)))))) (tRz (He.ga K "BadShares") W) tNext))
    (tSeq (tIfS (tNot (tB (tCl (sp_is_between K) [] W (tCons (tVar 1) (tCons (tC (.int 1)) (tCons (tC (.int 12)) tNil)))))) (tRz (He.ga K "BadShares") W) tNext)
    (tIfS (tNot (tTest (tChain rLeU rLeU (tC (.int 1)) (tCB (rLenK K) (tCons (tLc (iList K (tVar 0)) (gName 2) (tTest (tOp rGtU (tVar 2) (tC (.int 0)))) (tVar 2) [2]) tNil)) (tOp rShlU (tC (.int 1)) (tVar 1))))) (tRz (He.ga K "BadShares") W) tNext))))
theorem rd_need_counts (h : sp_need_counts K vs H Q E) : t_need_counts K (fun c d _ H2 => E c d H2) { nx := fun _ H' => Q .non H', rt := Q } (start ["counts", "most", "count"] vs) H := by
  obtain ⟨v, w, g, k, rfl, hT, hk, hok, q, qe⟩ := h
  have hs := Hs.start H
  unfold t_need_counts
  walk_at "go"
  refine c_isiList hT ?_
  cases g with
  | lst xs =>
    cases hT with
    | @lst a _ hxs =>
    walk_at "go"
    by_cases c1 : 1 ≤ xs.length
    rotate_left
    · have bad : countsOk (.lst xs) k = false := by cases k <;> simp [countsOk, c1]
      rw [decide_eq_false (by omega : ¬ (1 : Int) ≤ ((xs.length : Nat) : Int))]
      walk_at "go"
      exact qe bad _ hs.ex
    rw [decide_eq_true (by omega : (1 : Int) ≤ ((xs.length : Nat) : Int))]
    walk_at "go"
    by_cases c2 : xs.length ≤ 300
    rotate_left
    · have bad : countsOk (.lst xs) k = false := by cases k <;> simp [countsOk, c2]
      rw [decide_eq_false (by omega : ¬ ((xs.length : Nat) : Int) ≤ 300)]
      walk_at "go"
      exact qe bad _ hs.ex
    rw [decide_eq_true (by omega : ((xs.length : Nat) : Int) ≤ 300)]
    walk_at "go"
    refine w_forL (id : V → V) xs (fun pre σ' L' B' => ∃ w2, σ' = [some (.ref a), some w, w2] ∧ B' = H ∧ L' = [] ∧ pre.all (btwV 0 1000000) = true) hs ⟨none, rfl, rfl, rfl, rfl⟩ ?_ ?_ ?_
    · rintro pre post σ' L' B' H' _ ⟨w2, rfl, rfl, rfl, _⟩ h
      rw [List.map_id]
      exact h.bl hxs
    · rintro pre y post σ' L' B' H' e ⟨w2, rfl, rfl, rfl, hp⟩ h
      obtain ⟨g, hg⟩ := hok.1 y (by rw [e]; simp)
      have hg := hg.same h.ex
      rw [id_eq]
      walk_at "go"
      refine ⟨y, g, 0, 1000000, rfl, hg, ?_⟩
      rw [btw_of hg]
      cases c3 : btwV 0 1000000 y with
      | false =>
        have bad : countsOk (.lst xs) k = false := by
          have z : xs.all (btwV 0 1000000) = false := by
            rw [e, List.all_append, List.all_cons, c3]
            simp
          cases k <;> simp only [countsOk, z, Bool.and_false, Bool.false_and]
        walk_at "go"
        exact qe bad _ h.ex
      | true =>
        walk_at "go"
        refine ⟨_, _, ⟨_, rfl, rfl, rfl, ?_⟩, h⟩
        rw [List.all_append, hp, List.all_cons, c3]
        rfl
    · rintro σ' L' B' H' ⟨w2, rfl, rfl, rfl, hp⟩ h
      obtain ⟨ns, rfl, hn⟩ := btw_ints hp
      have hk := hk.same h.ex
      walk_at "go"
      refine ⟨w, k, 1, 12, rfl, hk, ?_⟩
      cases c4 : Tg.btw 1 12 k with
      | false =>
        have bad : countsOk (.lst (ns.map V.int)) k = false := by
          cases k with
          | int m => simp only [countsOk, show (decide (1 ≤ m) && decide (m ≤ 12)) = false from c4, Bool.and_false, Bool.false_and]
          | _ => rfl
        walk_at "go"
        exact qe bad _ h.ex
      | true =>
        cases hk with
        | int m =>
        simp only [Tg.btw, Bool.and_eq_true, decide_eq_true_eq] at c4
        obtain ⟨M, rfl⟩ := Int.eq_ofNat_of_zero_le (by omega : 0 ≤ m)
        rw [List.length_map] at c1 c2
        walk_at "go"
        refine c_lcL V.int ns (fun pre acc B2 => acc = (pre.filter fun n => decide (0 < n)).map V.int ∧ B2 = B') h ⟨rfl, rfl⟩ (fun B2 H2 e h => h.bl (e.seq hxs)) ?_ ?_
        · rintro pre n post acc B2 D H2 e ⟨rfl, rfl⟩ e2 h
          have hpl : pre.length < ns.length := by rw [e]; simp
          have hsm : ((pre.filter fun n => decide (0 < n)).map V.int).length < sizeLine := by
            rw [List.length_map]
            have := List.length_filter_le (fun n : Int => decide (0 < n)) pre
            exact small6 (by omega)
          walk_at "go"
          refine ⟨rfl, ?_⟩
          walk_at "go"
          by_cases c5 : 0 < n
          · rw [decide_eq_true c5]
            walk_at "go"
            refine c_item h hsm e2 ⟨?_, rfl⟩
            rw [List.filter_append, List.map_append]
            simp [c5]
          · rw [decide_eq_false c5]
            walk_at "go"
            refine ⟨_, _, ⟨?_, rfl⟩, e2, h⟩
            rw [List.filter_append]
            simp [c5]
        · rintro acc B2 D H2 ⟨rfl, rfl⟩ e2 h2
          have epos : ((ns.map V.int).filter posV).length = (ns.filter fun n => decide (0 < n)).length := by
            rw [List.filter_map, List.length_map]
            rfl
          walk_at "go"
          rw [List.length_map]
          have hok2 : countsOk (.lst (ns.map V.int)) (.int ((M : Nat) : Int)) = (decide (1 ≤ (ns.filter fun n => decide (0 < n)).length) && decide ((ns.filter fun n => decide (0 < n)).length ≤ 2 ^ M)) := by
            simp only [countsOk]
            rw [hp, epos, List.length_map, Int.toNat_natCast, decide_eq_true c1, decide_eq_true c2, decide_eq_true c4.1, decide_eq_true c4.2]
            rfl
          by_cases c6 : 1 ≤ (ns.filter fun n => decide (0 < n)).length
          rotate_left
          · rw [decide_eq_false c6, Bool.false_and] at hok2
            rw [decide_eq_false (by omega : ¬ (1 : Int) ≤ (((ns.filter fun n => decide (0 < n)).length : Nat) : Int))]
            walk_at "go"
            exact qe hok2 _ h2.ex
          rw [decide_eq_true (by omega : (1 : Int) ≤ (((ns.filter fun n => decide (0 < n)).length : Nat) : Int))]
          rw [decide_eq_true c6, Bool.true_and] at hok2
          walk_at "go"
          rw [Int.toNat_natCast, Int.one_mul, show (2 : Int) ^ M = ((2 ^ M : Nat) : Int) by push_cast; rfl]
          by_cases c7 : (ns.filter fun n => decide (0 < n)).length ≤ 2 ^ M
          · rw [decide_eq_true c7] at hok2
            rw [decide_eq_true (by omega : (((ns.filter fun n => decide (0 < n)).length : Nat) : Int) ≤ ((2 ^ M : Nat) : Int))]
            walk_at "go"
            exact q hok2 _ h2.ex
          · rw [decide_eq_false c7] at hok2
            rw [decide_eq_false (by omega : ¬ (((ns.filter fun n => decide (0 < n)).length : Nat) : Int) ≤ ((2 ^ M : Nat) : Int))]
            walk_at "go"
            exact qe hok2 _ h2.ex
        | _ => cases c4
  | _ => walk_at "go"; exact qe (by cases k <;> rfl) _ hs.ex
/-! bundles as they stand -/
def Buns (K : PySem.W.Frag) (B : Hp) (xs : List V) (bs : List Bun) : Prop := Paired (fun x b => ∃ t l, x = V.ref t ∧ SqT K B t [.int b.1, .ref l] ∧ B l = some (.lst (b.2.map V.int))) xs bs
theorem Paired.imp {α β : Type} {R S : α → β → Prop} (f : ∀ a b, R a b → S a b) : ∀ {l : List α} {m : List β}, Paired R l m → Paired S l m
  | _, _, .nil => .nil
  | _, _, .cons h t => .cons (f _ _ h) (Paired.imp f t)
theorem Buns.same {B B' : Hp} {xs : List V} {bs : List Bun} (h : Buns K B xs bs) (s : Same B B') : Buns K B' xs bs := Paired.imp (fun x b ⟨t, l, e, h1, h2⟩ => ⟨t, l, e, same_sqt s h1, s _ _ h2⟩) h
theorem Buns.snoc {B : Hp} {xs : List V} {bs : List Bun} {t l : Addr} {w : Int} {ps : List Int} (h : Buns K B xs bs) (h1 : SqT K B t [.int w, .ref l]) (h2 : B l = some (.lst (ps.map V.int))) : Buns K B (xs ++ [.ref t]) (bs ++ [(w, ps)]) := Paired.snoc h ⟨t, l, rfl, h1, h2⟩
theorem Paired.app {α β : Type} {R : α → β → Prop} : ∀ {l l' : List α} {m m' : List β}, Paired R l m → Paired R l' m' → Paired R (l ++ l') (m ++ m')
  | _, _, _, _, .nil, h => h
  | _, _, _, _, .cons e t, h => .cons e (Paired.app t h)
theorem Paired.takeN {α β : Type} {R : α → β → Prop} : ∀ (n : Nat) {l : List α} {m : List β}, Paired R l m → Paired R (l.take n) (m.take n)
  | 0, _, _, _ => .nil
  | _ + 1, _, _, .nil => .nil
  | n + 1, _, _, .cons e t => .cons e (Paired.takeN n t)
theorem Buns.at {B : Hp} {xs : List V} {bs : List Bun} {i : Nat} {b : Bun} (h : Buns K B xs bs) (hb : bs[i]? = some b) : ∃ t l, xs[i]? = some (V.ref t) ∧ SqT K B t [.int b.1, .ref l] ∧ B l = some (.lst (b.2.map V.int)) := by
  induction h generalizing i with
  | nil => simp at hb
  | cons e t ih =>
    cases i with
    | zero =>
      simp at hb
      subst hb
      obtain ⟨t, l, rfl, h1, h2⟩ := e
      exact ⟨t, l, rfl, h1, h2⟩
    | succ i => exact ih (by simpa using hb)
theorem paired_maps {α β : Type} {R : α → β → Prop} : ∀ {z : List (α × β)}, (∀ p ∈ z, R p.1 p.2) → Paired R (z.map (·.1)) (z.map (·.2))
  | [], _ => .nil
  | p :: r, h => .cons (h p (.head _)) (paired_maps fun q m => h q (.tail _ m))
theorem paired_zip {α β : Type} {R : α → β → Prop} {l : List α} {m : List β} (h : Paired R l m) : ∀ p ∈ l.zip m, R p.1 p.2 := by
  induction h with
  | nil => intro p hp; cases hp
  | cons e t ih =>
    intro p hp
    rcases List.mem_cons.mp (show p ∈ (_, _) :: _ from hp) with rfl | hp
    · exact e
    · exact ih p hp
theorem Buns.sorted {B : Hp} {xs : List V} {bs : List Bun} (h : Buns K B xs bs) : Buns K B (sortedBy xs (bs.map (·.1))) (sortB bs) := by
  have hl : xs.length = bs.length := Paired.length h
  have e1 : xs.zip (bs.map (·.1)) = (xs.zip bs).map fun p => (p.1, p.2.1) := by
    rw [List.zip_map_right]
    rfl
  have e2 : sortedBy xs (bs.map (·.1)) = ((xs.zip bs).mergeSort fun p q => decide (p.2.1 ≤ q.2.1)).map (·.1) := by
    unfold sortedBy
    rw [e1, ← List.map_mergeSort (r := fun p q : V × Bun => decide (p.2.1 ≤ q.2.1)) (fun a _ b _ => rfl), List.map_map]
    rfl
  have e3 : sortB bs = ((xs.zip bs).mergeSort fun p q => decide (p.2.1 ≤ q.2.1)).map (·.2) := by
    unfold sortB
    rw [List.map_mergeSort (s := fun a b : Bun => decide (a.1 ≤ b.1)) (fun a _ b _ => rfl), List.map_snd_zip (by omega)]
  rw [e2, e3]
  exact paired_maps fun p hp => paired_zip h p ((List.mergeSort_perm _ _).mem_iff.mp hp)
theorem Buns.keys {B : Hp} {xs : List V} {bs : List Bun} (h : Buns K B xs bs) : Paired (fun x i => ∃ p ys, x = V.ref p ∧ SqT K B p (.int i :: ys)) xs (bs.map (·.1)) := by
  induction h with
  | nil => exact .nil
  | cons e t ih =>
    obtain ⟨t, l, rfl, h1, _⟩ := e
    exact .cons ⟨t, _, rfl, h1⟩ ih
theorem byTwos_even : ∀ l : List Bun, byTwos (l.take (2 * (l.length / 2))) = byTwos l
  | [] => rfl
  | [_] => by simp [byTwos]
  | a :: b :: r => by
    have ih := byTwos_even r
    rw [List.length_cons, List.length_cons, show 2 * ((r.length + 1 + 1) / 2) = 2 * (r.length / 2) + 2 by omega]
    show (a.1 + b.1, a.2 ++ b.2) :: byTwos (r.take (2 * (r.length / 2))) = _
    rw [ih]
    rfl
def sp_by_twos (K : PySem.W.Frag) : Sp := fun vs H Q _ => ∃ (B : Hp) (L : Pic) (a : Addr) (xs : List V) (bs : List Bun), vs = [.ref a] ∧ Hs B L H ∧ SqL K B a xs ∧ Buns K B xs bs ∧ bs.length ≤ 1000 ∧ (places bs).length ≤ 100000 ∧
  ∀ p ys B' H', Same B B' → Buns K B' ys (byTwos bs) → Hs B' ((p, .lst ys) :: L) H' → Q (.ref p) H'
theorem len_by_twos (h : sp_by_twos K vs H Q E) : vs.length = 1 := by
  obtain ⟨B, L, a, xs, bs, rfl, _⟩ := h
  rfl
def t_by_twos (K : PySem.W.Frag) (W : WX) : TS :=
  (tSeq (tAsg (tLst tNil) (gName 1))
    (tSeq (tFor (iRng3 (tCons (tC (.int 0)) (tCons (tOp rSubU (tCB (rLenK K) (tCons (tVar 0) tNil)) (tC (.int 1))) (tCons (tC (.int 2)) tNil)))) (gName 2) (tDrop (tBM K "list" rAppend (tVar 1) (tCons (tTup (tCons (tOp rAddU (tOp (rIx K) (tOp (rIx K) (tVar 0) (tVar 2)) (tC (.int 0))) (tOp (rIx K) (tOp (rIx K) (tVar 0) (tOp rAddU (tVar 2) (tC (.int 1)))) (tC (.int 0)))) (tCons (tOp rAddU (tOp (rIx K) (tOp (rIx K) (tVar 0) (tVar 2)) (tC (.int 1))) (tOp (rIx K) (tOp (rIx K) (tVar 0) (tOp rAddU (tVar 2) (tC (.int 1)))) (tC (.int 1)))) tNil))) tNil))))
    (tRet (tVar 1))))
theorem rgC2 (n : Nat) (h : n ≤ 1000) : RgC 0 (((n : Nat) : Int) - 1) 2 (n / 2) := by
  have z : ∀ k : Fin 1001, Builtin.Range.small 0 (((k.val : Nat) : Int) - 1) 2 = true ∧ Builtin.Range.rangeSize 0 (((k.val : Nat) : Int) - 1) 2 = ((k.val / 2 : Nat) : Int) := by decide +kernel
  obtain ⟨z1, z2⟩ := z ⟨n, by omega⟩
  exact ⟨by decide, by decide, z1, z2⟩
theorem rd_by_twos (h : sp_by_twos K vs H Q E) : t_by_twos K W { nx := fun _ H' => Q .non H', rt := Q } (start ["row", "found", "at"] vs) H := by
  obtain ⟨B, L, a, xs, bs, rfl, hs, hS, hB, hl, hp, q⟩ := h
  have hxl : xs.length = bs.length := Paired.length hB
  have hS' := hs.bl hS
  unfold t_by_twos
  walk_at "go"
  rename_i f H1 h1
  refine c_rcO (bs.length / 2) (by rw [hxl]; exact rgC2 _ hl) ?_
  refine w_forC (fun i σ' L' B' => ∃ ys w2, σ' = [some (.ref a), some (.ref f), w2] ∧ Same B B' ∧ Buns K B' ys (byTwos (bs.take (2 * i))) ∧ L' = (f, .lst ys) :: L) h1 ⟨[], none, rfl, Same.refl _, .nil, rfl⟩ ?_ ?_
  · rintro i σ' L' B' H' hi ⟨ys, w2, rfl, sB, hY, rfl⟩ h
    have hSB := h.bl (sB.seq hS)
    obtain ⟨b1, hb1⟩ : ∃ b, bs[2 * i]? = some b := ⟨_, List.getElem?_eq_getElem (by omega)⟩
    obtain ⟨b2, hb2⟩ : ∃ b, bs[2 * i + 1]? = some b := ⟨_, List.getElem?_eq_getElem (by omega)⟩
    obtain ⟨t1, l1, x1, u1, v1⟩ := (hB.same sB).at hb1
    obtain ⟨t2, l2, x2, u2, v2⟩ := (hB.same sB).at hb2
    have u1 := h.bt u1
    have u2 := h.bt u2
    have v1 := h.ex _ _ v1
    have v2 := h.ex _ _ v2
    have y1 : atI xs (0 + ((i : Nat) : Int) * 2) = some (.ref t1) := by
      rw [show (0 : Int) + ((i : Nat) : Int) * 2 = ((2 * i : Nat) : Int) by omega]
      exact atI_nat x1
    have y2 : atI xs (0 + ((i : Nat) : Int) * 2 + 1) = some (.ref t2) := by
      rw [show (0 : Int) + ((i : Nat) : Int) * 2 + 1 = ((2 * i + 1 : Nat) : Int) by omega]
      exact atI_nat x2
    walk_at "go"
    have l1 := one_places (List.mem_of_getElem? hb1)
    have l2 := one_places (List.mem_of_getElem? hb2)
    refine c_addL h v1 v2 (small6' (by rw [List.length_map, List.length_map]; omega)) fun c H2 h2 => ?_
    rw [← List.map_append] at h2
    walk_at "go"
    rename_i t H3 h3
    have hyl : ys.length ≤ 1000 := by rw [Paired.length hY, byTwos_length, List.length_take]; omega
    refine c_app2 h3 (small6 (by omega)) fun H4 h4 => ?_
    obtain ⟨B3, s3, h5, k5⟩ := Hs.fixes (N := [_, _]) h4
    walk_at "go"
    refine ⟨_, _, ⟨_, _, rfl, sB.trans s3, ?_, rfl⟩, h5⟩
    rw [byTwos_take bs i b1 b2 hb1 hb2]
    exact (hY.same s3).snoc (.of (k5 _ (.head _))) (k5 _ (.tail _ (.head _)))
  · rintro σ' L' B' H' ⟨ys, w2, rfl, sB, hY, rfl⟩ h
    walk_at "go"
    have e : byTwos (bs.take (2 * (bs.length / 2))) = byTwos bs := byTwos_even bs
    rw [e] at hY
    exact q f ys B' H' sB hY h
theorem cutV_take (xs : List V) (n : Nat) : cutV xs none (some ((n : Nat) : Int)) = xs.take n := by
  unfold cutV
  rw [HT.sIx_nat]
  show (xs.drop 0).take _ = _
  rw [List.drop_zero, show min n xs.length - HT.sIx xs.length 0 none = min n xs.length by simp [HT.sIx]]
  rw [List.take_eq_take_iff]
  omega
def sp_lengths_of (K : PySem.W.Frag) : Sp := fun vs H Q E => ∃ (v w : V) (g k : Tg), vs = [v, w] ∧ Th K H v g ∧ Th K H w k ∧ Tg.ok K H g ∧
  (∀ (ns : List Int) (m : Nat), g = .lst (ns.map V.int) → k = .int m → countsOk g k = true → RetL H Q ((lenOf ns m).map V.int)) ∧
  (countsOk g k = false → ∀ H', Same H H' → E (.ref (He.ga K "BadShares")) none H')
theorem len_lengths_of (h : sp_lengths_of K vs H Q E) : vs.length = 2 := by
  obtain ⟨v, w, g, k, rfl, _⟩ := h
  rfl
def t_lengths_of (K : PySem.W.Frag) (W : WX) : TS :=
  (tSeq (tDrop (tCl (sp_need_counts K) [] W (tCons (tVar 0) (tCons (tVar 1) tNil))))
    (tSeq (tAsg (tOp rMulU (tLst (tCons (tC (.int 0)) tNil)) (tCB (rLenK K) (tCons (tVar 0) tNil))) (gName 2))
    (tSeq (tAsg (tCKw (rSortKF K (He.ga K "weight_of")) (tCons (tLc (iEnum K (tCons (tVar 0) tNil)) (gTup K 2 (gCons (gName 3) (gCons (gName 8) gNil))) (tTest (tOp rGtU (tVar 8) (tC (.int 0)))) (tTup (tCons (tVar 8) (tCons (tLst (tCons (tVar 3) tNil)) tNil))) [3, 8]) tNil) (tCons (tC (.ref (He.ga K "weight_of"))) tNil)) (gName 4))
    (tSeq (tIfS (tTest (tOp (rEqU K) (tCB (rLenK K) (tCons (tVar 4) tNil)) (tC (.int 1)))) (tSeq (tAsg (tC (.int 1)) (gSub (tVar 2) (tOp (rIx K) (tOp (rIx K) (tOp (rIx K) (tVar 4) (tC (.int 0))) (tC (.int 1))) (tC (.int 0))) rSetL))
    (tRet (tVar 2))) tNext)
    (tSeq (tAsg (tVar 4) (gName 5))
    (tSeq (tFor (iRng2 (tCons (tC (.int 1)) (tCons (tVar 1) tNil))) (gName 6) (tAsg (tCKw (rSortKF K (He.ga K "weight_of")) (tCons (tOp rAddU (tVar 4) (tCl (sp_by_twos K) [] W (tCons (tVar 5) tNil))) tNil) (tCons (tC (.ref (He.ga K "weight_of"))) tNil)) (gName 5)))
    (tSeq (tFor (iList K (tSl (rSlK K) (tVar 5) tNoPart (tPart (tOp rSubU (tOp rMulU (tC (.int 2)) (tCB (rLenK K) (tCons (tVar 4) tNil))) (tC (.int 2)))))) (gName 7) (tFor (iList K (tOp (rIx K) (tVar 7) (tC (.int 1)))) (gName 3) (tAugS (tVar 2) (tVar 3) (tC (.int 1)) (rIxL K) ipAddU rSetL)))
    (tRet (tVar 2)))))))))
theorem counts_of {g k : Tg} (h : countsOk g k = true) : ∃ (ns : List Int) (m : Nat), g = .lst (ns.map V.int) ∧ k = .int m ∧ 1 ≤ ns.length ∧ ns.length ≤ 300 ∧ (∀ n ∈ ns, 0 ≤ n ∧ n ≤ 1000000) ∧ 1 ≤ m ∧ m ≤ 12 ∧ 1 ≤ (ns.filter fun n => decide (0 < n)).length ∧ (ns.filter fun n => decide (0 < n)).length ≤ 2 ^ m := by
  cases g with
  | lst xs =>
    cases k with
    | int m =>
      simp only [countsOk, Bool.and_eq_true, decide_eq_true_eq] at h
      obtain ⟨⟨⟨⟨h1, h2⟩, h3⟩, h4, h5⟩, h6, h7⟩ := h
      obtain ⟨ns, rfl, hn⟩ := btw_ints h3
      obtain ⟨M, rfl⟩ := Int.eq_ofNat_of_zero_le (by omega : 0 ≤ m)
      rw [List.length_map] at h1 h2
      have epos : ((ns.map V.int).filter posV).length = (ns.filter fun n => decide (0 < n)).length := by
        rw [List.filter_map, List.length_map]
        rfl
      rw [epos] at h6 h7
      exact ⟨ns, M, rfl, rfl, h1, h2, hn, by omega, by omega, h6, h7⟩
    | _ => cases h
  | _ => cases k <;> cases h
theorem counts_mk {ns : List Int} {m : Nat} (h1 : 1 ≤ ns.length) (h2 : ns.length ≤ 300) (h3 : ∀ n ∈ ns, 0 ≤ n ∧ n ≤ 1000000) (h4 : 1 ≤ m) (h5 : m ≤ 12) (h6 : 1 ≤ (ns.filter fun n => decide (0 < n)).length) (h7 : (ns.filter fun n => decide (0 < n)).length ≤ 2 ^ m) : countsOk (.lst (ns.map V.int)) (.int ((m : Nat) : Int)) = true := by
  have epos : ((ns.map V.int).filter posV).length = (ns.filter fun n => decide (0 < n)).length := by
    rw [List.filter_map, List.length_map]
    rfl
  have eall : (ns.map V.int).all (btwV 0 1000000) = true := by
    rw [List.all_eq_true]
    intro x hx
    obtain ⟨n, hn, rfl⟩ := List.mem_map.mp hx
    have := h3 n hn
    simp only [btwV, Bool.and_eq_true, decide_eq_true_eq]
    exact this
  simp only [countsOk, Bool.and_eq_true, decide_eq_true_eq]
  rw [epos, List.length_map, Int.toNat_natCast]
  exact ⟨⟨⟨⟨h1, h2⟩, eall⟩, by omega, by omega⟩, h6, h7⟩
theorem rd_lengths_of (h : sp_lengths_of K vs H Q E) : t_lengths_of K (fun c d _ H2 => E c d H2) { nx := fun _ H' => Q .non H', rt := Q } (start ["counts", "most", "lengths", "place", "singles", "row", "depth", "bundle", "count"] vs) H := by
  obtain ⟨v, w, g, k, rfl, hT, hk, hok, q, qe⟩ := h
  have hs := Hs.start H
  unfold t_lengths_of
  walk_at "go"
  refine ⟨v, w, g, k, rfl, hT, hk, hok, fun z => retV hs fun H1 h1 => ?_, fun z H1 e1 => qe z H1 e1⟩
  obtain ⟨ns, m, rfl, rfl, n1, n2, hn, m1, m2, p1, p2⟩ := counts_of z
  have q := q ns m rfl rfl z
  have hT := hT.same h1.ex
  have hk := hk.same h1.ex
  have q : RetL H1 Q ((lenOf ns m).map V.int) := fun p H' a e b => q p H' (noneBack h1.ex a) (h1.ex.trans e) b
  have h1 := Hs.start H1
  clear hs hok qe
  cases hT with
  | @lst a _ hS =>
  cases hk
  walk_at "go"
  rename_i l0 H2 h2
  have hS2 := h2.bl hS
  walk_at "go"
  rw [List.length_map]
  refine c_rep h2 (h2.get (.head _)) (by omega) (by omega) (small6' (by rw [List.length_singleton]; omega)) fun ls H3 h3 => ?_
  rw [Int.toNat_natCast, List.flatten_replicate_singleton] at h3
  have h4 := h3.drop1
  have hS4 := h4.bl hS
  clear h2 h3
  walk_at "go"
  refine ⟨_, _, rfl, hS4, ?_⟩
  refine c_lcE V.int ns (fun pre acc B' => Buns K B' acc ((pre.zipIdx.filter fun p => decide (0 < p.1)).map fun p => (p.1, [((p.2 : Nat) : Int)]))) h4 .nil (fun B' H' e h => h.bl (e.seq hS)) ?_ ?_
  · rintro pre n post acc B' D T H' e hB e2 h
    have hpl : pre.length < ns.length := by rw [e]; simp
    walk_at "go"
    refine ⟨rfl, ?_⟩
    walk_at "go"
    have ez : (pre ++ [n]).zipIdx = pre.zipIdx ++ [(n, pre.length)] := by
      rw [List.zipIdx_append]
      simp
    have hal : acc.length < sizeLine := by
      rw [Paired.length hB, List.length_map]
      have := List.length_filter_le (fun p : Int × Nat => decide (0 < p.1)) pre.zipIdx
      rw [List.length_zipIdx] at this
      exact small6 (by omega)
    by_cases c : 0 < n
    · rw [decide_eq_true c]
      walk_at "go"
      rename_i l1 H5 h5 t1 H6 h6
      obtain ⟨B3, s3, h7, k7⟩ := Hs.fixes (N := [_, _, _]) h6
      refine c_item h7 hal (e2.trans s3) ?_
      show Buns K B3 _ (List.map _ (List.filter _ (pre ++ [n]).zipIdx))
      rw [ez, List.filter_append, List.map_append]
      simp only [List.filter_cons, c, decide_true, if_true, List.filter_nil, List.map_cons, List.map_nil]
      exact (hB.same s3).snoc (.of (k7 _ (.head _))) (k7 _ (.tail _ (.head _)))
    · rw [decide_eq_false c]
      refine ⟨acc, _, ?_, e2.trans (same_upd (h.nb (.head _))), h.fix⟩
      show Buns K _ _ (List.map _ (List.filter _ (pre ++ [n]).zipIdx))
      rw [ez, List.filter_append]
      simp only [List.filter_cons, c, decide_false, if_false, List.filter_nil, List.append_nil, Bool.false_eq_true]
      exact hB.same (same_upd (h.nb (.head _)))
  · rintro acc B' D H' hB e2 h
    have hB' : Buns K H' acc _ := hB.same h.ex
    walk_at "go"
    refine c_sortedKF h (h.sql (.head _)) hB'.keys fun sp H4 h4 => ?_
    have hX := hB.sorted
    have hX : Buns K B' _ (singlesOf ns) := hX
    have h5 := h4.drop1
    clear h h4 hB hB'
    have hsn : singlesOf ns ≠ [] := by
      intro z
      have := singles_len ns
      rw [z] at this
      simp at this
      omega
    have hsl : (singlesOf ns).length ≤ 300 := by
      rw [singles_len]
      have := List.length_filter_le (fun n : Int => decide (0 < n)) ns
      omega
    have hsp : (places (singlesOf ns)).length ≤ 300 := by rw [singles_places_len]; exact hsl
    generalize sortedBy acc _ = xs at *
    have hxl : xs.length = (singlesOf ns).length := Paired.length hX
    have h6 := h5.fix
    have s6 := e2.trans (same_upd (o := .lst xs) (h5.nb (.head _)))
    have hspB : upd B' sp (.lst xs) sp = some (.lst xs) := upd_same
    have hX := hX.same (same_upd (o := .lst xs) (h5.nb (.head _)))
    clear h5 e2
    generalize upd B' sp (.lst xs) = B1 at *
    have hsp4 := h6.ex _ _ hspB
    have hspS : SqL K H4 sp xs := .of hsp4
    have q : RetL B1 Q ((lenOf ns m).map V.int) := fun p H' a e b => q p H' (noneBack s6 a) (s6.trans e) b
    walk_at "go"
    rw [hxl]
    by_cases c : (singlesOf ns).length = 1
    · refine i_t (decide_eq_true (by omega)) ?_
      obtain ⟨b, hb⟩ : ∃ b, singlesOf ns = [b] := List.length_eq_one_iff.mp c
      obtain ⟨t, l, x0, u0, v0⟩ := hX.at (i := 0) (b := b) (by rw [hb]; rfl)
      have hpl := singles_places_len ns
      rw [hb] at hpl
      obtain ⟨p, hp⟩ : ∃ p, b.2 = [p] := List.length_eq_one_iff.mp (by simpa [places] using hpl)
      obtain ⟨k, rfl, hk⟩ := singles_places (ns := ns) (p := p) (by rw [hb]; simp [places, hp])
      have u0 := h6.bt u0
      have v0 : SqL K H4 l [.int ((k : Nat) : Int)] := by
        have z := h6.ex _ _ v0
        rw [hp] at z
        exact .of z
      have y0 : atI xs 0 = some (.ref t) := atI_nat (j := 0) x0
      walk_at "go"
      refine w_set0 h6 rfl (by rw [List.length_replicate]; exact hk) fun H5 h7 => ?_
      walk_at "go"
      have e : lenOf ns m = (List.replicate ns.length 0).set k 1 := by
        unfold lenOf
        rw [if_pos c, hb]
        show (List.replicate ns.length 0).set ((b.2.getD 0 0).toNat) 1 = _
        rw [hp]
        rfl
      rw [e, List.map_set, List.map_replicate] at q
      exact h7.rl (.head _) q
    · refine i_f (decide_eq_false (by omega)) ?_
      walk_at "go"
      refine ⟨_, _, rfl, ⟨by omega, by omega, by omega, by omega⟩, ?_⟩
      rw [show (((m : Nat) : Int) - 1).toNat = m - 1 by omega]
      refine w_forR (fun i σ' L' B' => ∃ (ra : Addr) (ys : List V) (w6 : Option V), Same B1 B' ∧ B' ra = some (.lst ys) ∧ Buns K B' ys (rowsB (singlesOf ns) i) ∧ L' = [(ls, .lst (List.replicate ns.length (V.int 0)))] ∧
        σ' = [some (.ref a), some (.int ((m : Nat) : Int)), some (.ref ls), none, some (.ref sp), some (.ref ra), w6, none, none]) h6 ⟨sp, xs, none, Same.refl _, hspB, hX, rfl, rfl⟩ ?_ ?_
      · rintro i σ' L' B' H' him ⟨ra, ys, w6, sB, hra, hY, rfl, rfl⟩ h
        have r1 := rows_length (singlesOf ns) i
        have r2 := rows_places (singlesOf ns) i
        have r3 : (places (singlesOf ns)).length * (i + 1) ≤ 300 * 12 := Nat.mul_le_mul hsp (by omega)
        walk_at "go"
        refine ⟨B', _, ra, ys, _, rfl, h, .of hra, hY, by omega, by omega, fun p zs B3 H5 s3 hZ h7 => ?_⟩
        have hzl : zs.length ≤ 1000 := by rw [Paired.length hZ, byTwos_length]; omega
        refine c_addL h7 (h7.ex _ _ (s3 _ _ (sB _ _ hspB))) (h7.get (.head _)) (small6' (by omega)) fun qa H6 h8 => ?_
        have hC : Buns K B3 (xs ++ zs) (singlesOf ns ++ byTwos (rowsB (singlesOf ns) i)) := Paired.app ((hX.same sB).same s3) hZ
        walk_at "go"
        refine c_sortedKF h8 (h8.sql (.head _)) (hC.same h8.ex).keys fun rb H7 h9 => ?_
        have hD := hC.sorted
        obtain ⟨B4, s4, h10, k10⟩ := Hs.fixes (N := [_, _, _]) h9
        walk_at "go"
        exact ⟨_, _, ⟨rb, _, _, (sB.trans s3).trans s4, k10 _ (.head _), hD.same s4, rfl, rfl⟩, h10⟩
      · rintro σ' L' B' H' ⟨ra, ys, w6, sB, hra, hY, rfl, rfl⟩ h
        have r1 := rows_length (singlesOf ns) (m - 1)
        have hyl := Paired.length hY
        have hraS : SqL K H' ra ys := .of (h.ex _ _ hra)
        have hspS : SqL K H' sp xs := .of (h.ex _ _ (sB _ _ hspB))
        walk_at "go"
        rename_i ca H5 h5
        have hn2 : 2 ≤ (singlesOf ns).length := by
          have := List.length_pos_iff.mpr hsn
          omega
        rw [show (2 : Int) * ((xs.length : Nat) : Int) - 2 = ((2 * (singlesOf ns).length - 2 : Nat) : Int) by omega, cutV_take] at h5
        have hY2 := Paired.takeN (2 * (singlesOf ns).length - 2) hY
        obtain ⟨z, hz1, hz2, hz3⟩ : ∃ z : List (V × Bun), z.map (·.1) = ys.take (2 * (singlesOf ns).length - 2) ∧ z.map (·.2) = (rowsB (singlesOf ns) (m - 1)).take (2 * (singlesOf ns).length - 2) ∧ ∀ p ∈ z, ∃ t l, p.1 = V.ref t ∧ SqT K B' t [.int p.2.1, .ref l] ∧ B' l = some (.lst (p.2.2.map V.int)) := by
          refine ⟨(ys.take (2 * (singlesOf ns).length - 2)).zip ((rowsB (singlesOf ns) (m - 1)).take (2 * (singlesOf ns).length - 2)), List.map_fst_zip (by rw [List.length_take, List.length_take]; omega), List.map_snd_zip (by rw [List.length_take, List.length_take]; omega), paired_zip hY2⟩
        rw [← hz1] at h5
        have hmem : ∀ b ∈ z.map (·.2), ∀ p ∈ b.2, ∃ k : Nat, p = ((k : Nat) : Int) ∧ k < ns.length := fun b hb p hp => by
          rw [hz2] at hb
          exact singles_places (mem_rows _ _ (List.mem_flatMap.mpr ⟨b, List.mem_of_mem_take hb, hp⟩))
        have hlen : lenOf ns m = addAt (List.replicate ns.length 0) (places (z.map (·.2))) := by
          unfold lenOf
          rw [if_neg c, hz2]
          rfl
        refine w_forL (fun p : V × Bun => p.1) z (fun pre σ' L' B'' => ∃ (w3 w6 w7 : Option V), B'' = B' ∧ L' = [(ca, .lst (z.map (·.1))), (ls, .lst ((addAt (List.replicate ns.length 0) (places (pre.map (·.2)))).map V.int))] ∧
          σ' = [some (.ref a), some (.int ((m : Nat) : Int)), some (.ref ls), w3, some (.ref sp), some (.ref ra), w6, w7, none]) h5 ⟨none, w6, none, rfl, by simp [places, addAt], rfl⟩ ?_ ?_ ?_
        · rintro pre post σ' L' B'' H6 _ ⟨w3, w6, w7, rfl, rfl, rfl⟩ h
          exact h.sql (.head _)
        · rintro pre pb post σ' L' B'' H6 e ⟨w3, w6, w7, eB, rfl, rfl⟩ h
          obtain ⟨t, l, e1, u1, v1⟩ := hz3 pb (by rw [e]; simp)
          rw [← eB] at u1 v1
          have u1 := h.bt u1
          have hm2 := hmem pb.2 (by rw [e]; simp)
          rw [e1]
          walk_at "go"
          have v1' : SqL K H6 l (pb.2.2.map V.int) := .of (h.ex _ _ v1)
          refine w_forL V.int pb.2.2 (fun ip σ' L' B3 => ∃ (w3 w6 : Option V), B3 = B'' ∧ L' = [(ca, .lst (z.map (·.1))), (ls, .lst ((addAt (List.replicate ns.length 0) (places (pre.map (·.2)) ++ ip)).map V.int))] ∧
            σ' = [some (.ref a), some (.int ((m : Nat) : Int)), some (.ref ls), w3, some (.ref sp), some (.ref ra), w6, some (.ref t), none]) h ⟨w3, w6, rfl, by rw [List.append_nil], rfl⟩ ?_ ?_ ?_
          · rintro ip ipost σ' L' B3 H7 _ ⟨w3, w6, rfl, rfl, rfl⟩ h
            exact .of (h.ex _ _ v1)
          · rintro ip p ipost σ' L' B3 H7 e2 ⟨w3, w6, rfl, rfl, rfl⟩ h
            obtain ⟨k, rfl, hk⟩ := hm2 p (by rw [e2]; simp)
            have hal : k < (addAt (List.replicate ns.length 0) (places (pre.map (·.2)) ++ ip)).length := by rw [addAt_length, List.length_replicate]; exact hk
            have ea : atI ((addAt (List.replicate ns.length 0) (places (pre.map (·.2)) ++ ip)).map V.int) ((k : Nat) : Int) = some (.int ((addAt (List.replicate ns.length 0) (places (pre.map (·.2)) ++ ip)).getD k 0)) := at_nat hal
            walk_at "go"
            refine c_ixLo (h.sql (.tail _ (.head _))) ea ?_
            walk_at "go"
            refine w_set1 h rfl (by rw [List.length_map]; exact hal) fun H8 h8 => ?_
            refine ⟨_, _, ⟨_, _, rfl, ?_, rfl⟩, h8⟩
            rw [← List.append_assoc, addAt_snoc, List.map_set, Int.toNat_natCast]
          · rintro σ' L' B3 H7 ⟨w3, w6, rfl, rfl, rfl⟩ h
            refine ⟨_, _, ⟨_, _, _, eB, ?_, rfl⟩, h⟩
            rw [List.map_append]
            unfold places
            rw [List.flatMap_append, List.map_cons, List.map_nil, List.flatMap_cons, List.flatMap_nil, List.append_nil]
        · rintro σ' L' B'' H6 ⟨w3, w6, w7, rfl, rfl, rfl⟩ h
          walk_at "go"
          rw [← hlen] at h
          exact h.rl (.tail _ (.head _)) fun p H' x y u => q p H' (noneBack sB x) (sB.trans y) u
end L2.BR

namespace L2.BR
/-! ### the row of bundles costs least -/
def twosW : List Int → List Int
  | a :: b :: r => (a + b) :: twosW r
  | _ => []
def sortW (l : List Int) : List Int := l.mergeSort fun a b => decide (a ≤ b)
def wrow (s : List Int) : Nat → List Int
  | 0 => s
  | d + 1 => sortW (s ++ twosW (wrow s d))
def upto (f : Nat → Int) : Nat → Int
  | 0 => f 0
  | d + 1 => upto f d + f (d + 1)
def uptoN (f : Nat → Nat) : Nat → Nat
  | 0 => f 0
  | d + 1 => uptoN f d + f (d + 1)
theorem sortW_perm (l : List Int) : (sortW l).Perm l := List.mergeSort_perm _ _
theorem sortW_sorted (l : List Int) : (sortW l).Pairwise (· ≤ ·) := by
  have h := List.pairwise_mergeSort (le := fun a b : Int => decide (a ≤ b)) (fun a b c h1 h2 => by simp only [decide_eq_true_eq] at *; omega) (fun a b => by simp only [Bool.or_eq_true, decide_eq_true_eq]; omega) l
  exact h.imp fun h => by simpa using h
theorem wrow_sorted {s : List Int} (hs : s.Pairwise (· ≤ ·)) : ∀ d, (wrow s d).Pairwise (· ≤ ·)
  | 0 => hs
  | d + 1 => sortW_sorted _
theorem twosW_length : ∀ l : List Int, (twosW l).length = l.length / 2
  | [] => rfl
  | [_] => by simp [twosW]
  | a :: b :: r => by
    have ih := twosW_length r
    show (twosW r).length + 1 = (r.length + 1 + 1) / 2
    omega
theorem twosW_take : ∀ (l : List Int) (j : Nat), 2 * j ≤ l.length → ((twosW l).take j).sum = (l.take (2 * j)).sum
  | l, 0, _ => by simp
  | [], j + 1, h => by simp at h
  | [x], j + 1, h => by simp at h; omega
  | a :: b :: r, j + 1, h => by
    have ih := twosW_take r j (by simp at h; omega)
    rw [show 2 * (j + 1) = 2 * j + 1 + 1 by omega]
    show ((a + b) :: (twosW r).take j).sum = (a :: b :: r.take (2 * j)).sum
    rw [List.sum_cons, List.sum_cons, List.sum_cons, ih]
    omega
theorem sum_nonneg : ∀ {l : List Int}, (∀ x ∈ l, 0 ≤ x) → 0 ≤ l.sum
  | [], _ => by simp
  | x :: l, h => by
    rw [List.sum_cons]
    have := sum_nonneg (l := l) fun y hy => h y (.tail _ hy)
    have := h x (.head _)
    omega
theorem perm_sum {l l' : List Int} (h : l.Perm l') : l.sum = l'.sum := by
  induction h with
  | nil => rfl
  | cons x _ ih => rw [List.sum_cons, List.sum_cons, ih]
  | swap x y l => simp only [List.sum_cons]; omega
  | trans _ _ a b => rw [a, b]
theorem sum_erase {x : Int} {l : List Int} (h : x ∈ l) : l.sum = x + (l.erase x).sum := by
  rw [perm_sum (List.perm_cons_erase h), List.sum_cons]
/-- the first ones of a sorted row are the least -/
theorem take_least : ∀ {R : List Int} (k : Nat) {M : List Int}, R.Pairwise (· ≤ ·) → (∀ a, M.count a ≤ R.count a) → k ≤ M.length → (∀ x ∈ M, 0 ≤ x) → k ≤ R.length ∧ (R.take k).sum ≤ M.sum
  | R, 0, M, _, _, _, hp => ⟨Nat.zero_le _, by rw [List.take_zero]; exact sum_nonneg hp⟩
  | [], k + 1, M, _, hc, hk, _ => by
    have z : M = [] := by
      cases M with
      | nil => rfl
      | cons x M =>
        have := hc x
        simp at this
    subst z
    simp at hk
  | r :: R, k + 1, M, hR, hc, hk, hp => by
    obtain ⟨h1, h2⟩ := List.pairwise_cons.mp hR
    obtain ⟨x, hx, hrx, hcx⟩ : ∃ x, x ∈ M ∧ r ≤ x ∧ ∀ a, (M.erase x).count a ≤ R.count a := by
      by_cases hr : r ∈ M
      · refine ⟨r, hr, Int.le_refl _, fun a => ?_⟩
        have := hc a
        rw [List.count_erase]
        rw [List.count_cons] at this
        by_cases e : a = r
        · subst e
          simp at this ⊢
          omega
        · have e2 : (r == a) = false := by simpa using fun z : r = a => e z.symm
          have e3 : (a == r) = false := by simpa using e
          simp [e2, e3] at this ⊢
          omega
      · obtain ⟨x, hx⟩ : ∃ x, x ∈ M := by
          cases M with
          | nil => simp at hk
          | cons x M => exact ⟨x, .head _⟩
        have key : ∀ a, M.count a ≤ R.count a := fun a => by
          have := hc a
          rw [List.count_cons] at this
          by_cases e : a = r
          · subst e
            rw [List.count_eq_zero.mpr hr]
            exact Nat.zero_le _
          · have e2 : (r == a) = false := by simpa using fun z : r = a => e z.symm
            simp [e2] at this
            exact this
        refine ⟨x, hx, ?_, fun a => Nat.le_trans (by rw [List.count_erase]; omega) (key a)⟩
        have z := key x
        have z2 := List.count_pos_iff.mpr hx
        exact h1 x (List.count_pos_iff.mp (by omega))
    obtain ⟨a1, a2⟩ := take_least k h2 hcx (by rw [List.length_erase_of_mem hx]; omega) (fun y hy => hp y (List.mem_of_mem_erase hy))
    refine ⟨by rw [List.length_cons]; omega, ?_⟩
    rw [List.take_succ_cons, List.sum_cons, sum_erase hx]
    omega
theorem wrow_pos {s : List Int} (hp : ∀ x ∈ s, 0 ≤ x) : ∀ d, ∀ x ∈ wrow s d, 0 ≤ x
  | 0, x, h => hp x h
  | d + 1, x, h => by
    have h2 := (sortW_perm _).mem_iff.mp (show x ∈ sortW _ from h)
    rcases List.mem_append.mp h2 with z | z
    · exact hp x z
    · have ih := wrow_pos hp d
      generalize wrow s d = l at ih z
      clear h h2
      have key : ∀ l : List Int, (∀ x ∈ l, 0 ≤ x) → ∀ x ∈ twosW l, 0 ≤ x := fun l => by
        induction l using twosW.induct with
        | case1 a b r ih =>
          intro hl x hx
          rcases List.mem_cons.mp hx with rfl | hx
          · have := hl a (.head _)
            have := hl b (.tail _ (.head _))
            omega
          · exact ih (fun y hy => hl y (.tail _ (.tail _ hy))) x hx
        | case2 l h =>
          intro _ x hx
          rw [twosW.eq_2 l h] at hx
          cases hx
      exact key l ih x z
theorem upto_pos {f : Nat → Int} (h : ∀ d, 0 ≤ f d) : ∀ D, 0 ≤ upto f D
  | 0 => h 0
  | D + 1 => by
    have := upto_pos h D
    have := h (D + 1)
    show 0 ≤ upto f D + f (D + 1)
    omega
theorem row_least {s : List Int} (hs : s.Pairwise (· ≤ ·)) (hp : ∀ x ∈ s, 0 ≤ x) : ∀ (D k : Nat) (M : Nat → List Int), (∀ d a, (M d).count a ≤ s.count a) → k * 2 ^ D ≤ uptoN (fun d => (M d).length * 2 ^ d) D →
    k ≤ (wrow s D).length ∧ ((wrow s D).take k).sum ≤ upto (fun d => (M d).sum) D
  | 0, k, M, hM, hk => by
    have hMp : ∀ x ∈ M 0, 0 ≤ x := fun x hx => hp x (List.count_pos_iff.mp (by have := hM 0 x; have := List.count_pos_iff.mpr hx; omega))
    exact take_least k hs (hM 0) (by simpa [uptoN] using hk) hMp
  | D + 1, k, M, hM, hk => by
    have hMp : ∀ d, ∀ x ∈ M d, 0 ≤ x := fun d x hx => hp x (List.count_pos_iff.mp (by have := hM d x; have := List.count_pos_iff.mpr hx; omega))
    have hsm : ∀ d, 0 ≤ (M d).sum := fun d => sum_nonneg (hMp d)
    have hcR : ∀ a, (wrow s (D + 1)).count a = s.count a + (twosW (wrow s D)).count a := fun a => by
      rw [show wrow s (D + 1) = sortW (s ++ twosW (wrow s D)) from rfl, (sortW_perm _).count_eq, List.count_append]
    have hk : k * 2 ^ (D + 1) ≤ uptoN (fun d => (M d).length * 2 ^ d) D + (M (D + 1)).length * 2 ^ (D + 1) := hk
    show _ ∧ _ ≤ upto (fun d => (M d).sum) D + (M (D + 1)).sum
    have hup := upto_pos hsm D
    by_cases c : k ≤ (M (D + 1)).length
    · obtain ⟨a1, a2⟩ := take_least k (wrow_sorted hs (D + 1)) (fun a => by rw [hcR]; have := hM (D + 1) a; omega) c (hMp _)
      exact ⟨a1, by omega⟩
    · obtain ⟨j, rfl⟩ : ∃ j, k = (M (D + 1)).length + j := ⟨k - (M (D + 1)).length, by omega⟩
      rw [Nat.add_mul, Nat.pow_succ] at hk
      obtain ⟨b1, b2⟩ := row_least hs hp D (2 * j) M hM (by
        have z : 2 * j * 2 ^ D = j * (2 ^ D * 2) := by rw [Nat.mul_comm (2 ^ D), ← Nat.mul_assoc, Nat.mul_comm j]
        rw [z]
        generalize j * (2 ^ D * 2) = x at *
        generalize (M (D + 1)).length * (2 ^ D * 2) = y at *
        omega)
      have hl := twosW_length (wrow s D)
      have hs2 := twosW_take (wrow s D) j b1
      obtain ⟨a1, a2⟩ := take_least ((M (D + 1)).length + j) (M := M (D + 1) ++ (twosW (wrow s D)).take j) (wrow_sorted hs (D + 1)) (fun a => by
        rw [hcR, List.count_append]
        have := hM (D + 1) a
        have := (List.take_sublist j (twosW (wrow s D))).count_le a
        omega) (by rw [List.length_append, List.length_take]; omega) (fun x hx => by
          rcases List.mem_append.mp hx with z | z
          · exact hMp _ x z
          · have z2 : x ∈ wrow s (D + 1) := (sortW_perm _).mem_iff.mpr (List.mem_append_right _ (List.mem_of_mem_take z))
            exact wrow_pos hp (D + 1) x z2)
      refine ⟨a1, ?_⟩
      rw [List.sum_append, hs2] at a2
      omega
/-! ### what a choice of lengths costs, level by level -/
def lev (a d : Nat) : Nat := if a ≤ d then 2 ^ d else 0
def lvl (a d : Nat) : Nat := if a ≤ d then 1 else 0
theorem uptoN_add (f g : Nat → Nat) : ∀ D, uptoN (fun d => f d + g d) D = uptoN f D + uptoN g D
  | 0 => rfl
  | D + 1 => by
    have := uptoN_add f g D
    simp only [uptoN] at *
    omega
theorem upto_add (f g : Nat → Int) : ∀ D, upto (fun d => f d + g d) D = upto f D + upto g D
  | 0 => rfl
  | D + 1 => by
    have := upto_add f g D
    simp only [upto] at *
    omega
theorem uptoN_zero : ∀ D, uptoN (fun _ => 0) D = 0
  | 0 => rfl
  | D + 1 => by
    have := uptoN_zero D
    simp only [uptoN] at *
    omega
theorem upto_zero : ∀ D, upto (fun _ => 0) D = 0
  | 0 => rfl
  | D + 1 => by
    have := upto_zero D
    simp only [upto] at *
    omega
theorem lev_lt {a : Nat} : ∀ {D : Nat}, D < a → uptoN (lev a) D = 0
  | 0, h => by unfold uptoN lev; rw [if_neg (by omega)]
  | D + 1, h => by
    have := lev_lt (a := a) (D := D) (by omega)
    show uptoN (lev a) D + lev a (D + 1) = 0
    unfold lev at *
    rw [this, if_neg (by omega)]
theorem lev_le {a : Nat} : ∀ {D : Nat}, a ≤ D + 1 → uptoN (lev a) D + 2 ^ a = 2 ^ (D + 1)
  | 0, h => by
    rcases (by omega : a = 0 ∨ a = 1) with rfl | rfl <;> rfl
  | D + 1, h => by
    by_cases c : a ≤ D + 1
    · have := lev_le c
      show uptoN (lev a) D + lev a (D + 1) + 2 ^ a = 2 ^ (D + 1 + 1)
      rw [show lev a (D + 1) = 2 ^ (D + 1) by unfold lev; rw [if_pos c], Nat.pow_succ 2 (D + 1)]
      omega
    · rw [lev_lt (by omega), show a = D + 2 by omega, Nat.zero_add]
theorem lvl_lt {a : Nat} : ∀ {D : Nat}, D < a → uptoN (lvl a) D = 0
  | 0, h => by unfold uptoN lvl; rw [if_neg (by omega)]
  | D + 1, h => by
    have := lvl_lt (a := a) (D := D) (by omega)
    show uptoN (lvl a) D + lvl a (D + 1) = 0
    unfold lvl at *
    rw [this, if_neg (by omega)]
theorem lvl_le {a : Nat} : ∀ {D : Nat}, a ≤ D + 1 → uptoN (lvl a) D + a = D + 1
  | 0, h => by
    rcases (by omega : a = 0 ∨ a = 1) with rfl | rfl <;> rfl
  | D + 1, h => by
    by_cases c : a ≤ D + 1
    · have := lvl_le c
      show uptoN (lvl a) D + lvl a (D + 1) + a = D + 1 + 1
      rw [show lvl a (D + 1) = 1 by unfold lvl; rw [if_pos c]]
      omega
    · rw [lvl_lt (by omega)]
      omega
theorem upto_mul (c : Int) (f : Nat → Nat) : ∀ D, upto (fun d => c * ((f d : Nat) : Int)) D = c * ((uptoN f D : Nat) : Int)
  | 0 => rfl
  | D + 1 => by
    have := upto_mul c f D
    simp only [upto, uptoN] at *
    rw [this, ← Int.mul_add]
    push_cast
    rfl
theorem levels_width (al : Nat → Nat) (D : Nat) : ∀ idx : List Nat, uptoN (fun d => (idx.filter fun p => decide (al p ≤ d)).length * 2 ^ d) D = (idx.map fun p => uptoN (lev (al p)) D).sum
  | [] => by simp [uptoN_zero]
  | p :: idx => by
    have ih := levels_width al D idx
    rw [List.map_cons, List.sum_cons, ← ih, ← uptoN_add]
    congr 1
    funext d
    rw [List.filter_cons]
    unfold lev
    by_cases c : al p ≤ d
    · rw [if_pos (decide_eq_true c), if_pos c, List.length_cons, Nat.succ_mul]
      omega
    · rw [if_neg (by simpa using c), if_neg c, Nat.zero_add]
theorem levels_cost (al : Nat → Nat) (c : Nat → Int) (D : Nat) : ∀ idx : List Nat, upto (fun d => ((idx.filter fun p => decide (al p ≤ d)).map c).sum) D = (idx.map fun p => c p * ((uptoN (lvl (al p)) D : Nat) : Int)).sum
  | [] => by simp [upto_zero]
  | p :: idx => by
    have ih := levels_cost al c D idx
    rw [List.map_cons, List.sum_cons, ← ih, ← upto_mul, ← upto_add]
    congr 1
    funext d
    rw [List.filter_cons]
    unfold lvl
    by_cases e : al p ≤ d
    · rw [if_pos (decide_eq_true e), if_pos e, List.map_cons, List.sum_cons]
      push_cast
      omega
    · rw [if_neg (by simpa using e), if_neg e]
      push_cast
      omega
theorem sum_le {f g : Nat → Nat} : ∀ {l : List Nat}, (∀ p ∈ l, f p ≤ g p) → (l.map f).sum ≤ (l.map g).sum
  | [], _ => Nat.le_refl _
  | p :: l, h => by
    rw [List.map_cons, List.map_cons, List.sum_cons, List.sum_cons]
    have := sum_le (l := l) fun q hq => h q (.tail _ hq)
    have := h p (.head _)
    omega
theorem sum_addN (f g : Nat → Nat) : ∀ l : List Nat, (l.map fun p => f p + g p).sum = (l.map f).sum + (l.map g).sum
  | [] => rfl
  | p :: l => by
    have := sum_addN f g l
    simp only [List.map_cons, List.sum_cons] at *
    omega
theorem sum_constN (k : Nat) : ∀ l : List Nat, (l.map fun _ => k).sum = l.length * k
  | [] => by simp
  | p :: l => by
    have := sum_constN k l
    simp only [List.map_cons, List.sum_cons, List.length_cons, Nat.succ_mul] at *
    omega
/-- no lengths that fit cost less than the first ones of the row -/
theorem least_cost {s : List Int} (hs : s.Pairwise (· ≤ ·)) (hp : ∀ x ∈ s, 0 ≤ x) {idx : List Nat} {c : Nat → Int} (he : s.Perm (idx.map c)) {m : Nat} (hm : 1 ≤ m) {h : Nat → Nat} (hh : ∀ p ∈ idx, h p ≤ m) (hk : (idx.map fun p => 2 ^ (m - h p)).sum ≤ 2 ^ m) :
    ((wrow s (m - 1)).take (2 * idx.length - 2)).sum ≤ (idx.map fun p => c p * ((h p : Nat) : Int)).sum := by
  have w := levels_width (fun p => m - h p) (m - 1) idx
  have k := levels_cost (fun p => m - h p) c (m - 1) idx
  have e1 : (idx.map fun p => c p * ((uptoN (lvl (m - h p)) (m - 1) : Nat) : Int)) = idx.map fun p => c p * ((h p : Nat) : Int) := by
    apply List.map_congr_left
    intro p hp
    have := lvl_le (a := m - h p) (D := m - 1) (by omega)
    have := hh p hp
    rw [show uptoN (lvl (m - h p)) (m - 1) = h p by omega]
  rw [e1] at k
  rw [← k]
  refine (row_least hs hp (m - 1) (2 * idx.length - 2) (fun d => (idx.filter fun p => decide (m - h p ≤ d)).map c) (fun d a => ?_) ?_).2
  · rw [he.count_eq]
    exact ((List.filter_sublist).map c).count_le a
  · simp only [List.length_map]
    rw [w]
    have z : (idx.map fun p => uptoN (lev (m - h p)) (m - 1)).sum + (idx.map fun p => 2 ^ (m - h p)).sum = idx.length * 2 ^ m := by
      rw [← sum_addN, ← sum_constN]
      congr 1
      apply List.map_congr_left
      intro p hp
      have := lev_le (a := m - h p) (D := m - 1) (by omega)
      rw [show m - 1 + 1 = m by omega] at this
      exact this
    have z2 : (2 * idx.length - 2) * 2 ^ (m - 1) + 2 ^ m = idx.length * 2 ^ m ∨ idx.length = 0 := by
      cases idx with
      | nil => exact .inr rfl
      | cons p idx =>
        left
        have key : ∀ l x : Nat, 2 * l * x + x * 2 = (l + 1) * (x * 2) := fun l x => by rw [Nat.add_mul, Nat.one_mul, Nat.mul_comm 2 l, Nat.mul_assoc, Nat.mul_comm 2 x]
        have em : 2 ^ m = 2 ^ (m - 1) * 2 := by rw [← Nat.pow_succ]; congr 1; omega
        rw [List.length_cons, show 2 * (idx.length + 1) - 2 = 2 * idx.length by omega, em]
        exact key _ _
    rcases z2 with z2 | z2
    · omega
    · rw [z2]
      omega
/-! ### the rows with the level of each single -/
abbrev TBun := Int × List (Nat × Nat)
def sortT (l : List TBun) : List TBun := l.mergeSort fun a b => decide (a.1 ≤ b.1)
def twosT : List TBun → List TBun
  | a :: b :: r => (a.1 + b.1, a.2 ++ b.2) :: twosT r
  | _ => []
def comes (ns : List Int) : List (Int × Nat) := ns.zipIdx.filter fun p => decide (0 < p.1)
def oneT (ns : List Int) (d : Nat) : List TBun := sortT ((comes ns).map fun p => (p.1, [(p.2, d)]))
def rowT (ns : List Int) : Nat → List TBun
  | 0 => oneT ns 0
  | d + 1 => sortT (oneT ns (d + 1) ++ twosT (rowT ns d))
def un (b : TBun) : Bun := (b.1, b.2.map fun p => ((p.1 : Nat) : Int))
theorem un_sort (l : List TBun) : (sortT l).map un = sortB (l.map un) := List.map_mergeSort fun a _ b _ => rfl
theorem un_twos : ∀ l : List TBun, (twosT l).map un = byTwos (l.map un)
  | [] => rfl
  | [_] => rfl
  | a :: b :: r => by
    have ih := un_twos r
    show un (a.1 + b.1, a.2 ++ b.2) :: (twosT r).map un = byTwos (un a :: un b :: r.map un)
    rw [ih]
    show _ = ((un a).1 + (un b).1, (un a).2 ++ (un b).2) :: byTwos (r.map un)
    unfold un
    rw [List.map_append]
theorem un_one (ns : List Int) (d : Nat) : (oneT ns d).map un = singlesOf ns := by
  unfold oneT singlesOf
  rw [un_sort, List.map_map]
  rfl
theorem un_row (ns : List Int) : ∀ d, (rowT ns d).map un = rowsB (singlesOf ns) d
  | 0 => un_one ns 0
  | d + 1 => by
    show (sortT _).map un = sortB _
    rw [un_sort, List.map_append, un_one, un_twos, un_row ns d]
theorem w_sort (l : List Bun) : (sortB l).map (·.1) = sortW (l.map (·.1)) := List.map_mergeSort fun a _ b _ => rfl
theorem w_twos : ∀ l : List Bun, (byTwos l).map (·.1) = twosW (l.map (·.1))
  | [] => rfl
  | [_] => rfl
  | a :: b :: r => by
    have ih := w_twos r
    show (a.1 + b.1) :: (byTwos r).map (·.1) = twosW (a.1 :: b.1 :: r.map (·.1))
    rw [ih]
    rfl
theorem w_row (s : List Bun) : ∀ d, (rowsB s d).map (·.1) = wrow (s.map (·.1)) d
  | 0 => rfl
  | d + 1 => by
    show (sortB _).map _ = sortW _
    rw [w_sort, List.map_append, w_twos, w_row s d]
theorem sortT_perm (l : List TBun) : (sortT l).Perm l := List.mergeSort_perm _ _
def flatT (l : List TBun) : List (Nat × Nat) := l.flatMap (·.2)
theorem twosT_flat : ∀ l : List TBun, (flatT (twosT l)).Sublist (flatT l)
  | [] => .slnil
  | [_] => List.nil_sublist _
  | a :: b :: r => by
    have ih := twosT_flat r
    show ((a.2 ++ b.2) ++ flatT (twosT r)).Sublist (a.2 ++ (b.2 ++ flatT r))
    rw [List.append_assoc]
    exact (List.Sublist.refl _).append ((List.Sublist.refl _).append ih)
theorem flat_perm {l l' : List TBun} (h : l.Perm l') : (flatT l).Perm (flatT l') := h.flatMap_right _
theorem flat_app (l l' : List TBun) : flatT (l ++ l') = flatT l ++ flatT l' := List.flatMap_append
theorem twosT_length : ∀ l : List TBun, (twosT l).length = l.length / 2
  | [] => rfl
  | [_] => by simp [twosT]
  | a :: b :: r => by
    have ih := twosT_length r
    show (twosT r).length + 1 = (r.length + 1 + 1) / 2
    omega
def idxOf (ns : List Int) : List Nat := (comes ns).map (·.2)
theorem idx_nodup (ns : List Int) : (idxOf ns).Nodup := by
  have h : ((ns.zipIdx).map (·.2)).Nodup := by
    rw [List.zipIdx_map_snd]
    exact List.nodup_range'
  exact h.sublist ((List.filter_sublist).map _)
theorem mem_comes {ns : List Int} {p : Int × Nat} (h : p ∈ comes ns) : p.2 < ns.length ∧ ns.getD p.2 0 = p.1 ∧ 0 < p.1 := by
  obtain ⟨h1, h2⟩ := List.mem_filter.mp h
  have z := List.mem_zipIdx' h1
  refine ⟨z.1, ?_, by simpa using h2⟩
  rw [List.getD_eq_getElem?_getD, List.getElem?_eq_getElem z.1]
  exact z.2.symm
theorem mem_idx {ns : List Int} {k : Nat} : k ∈ idxOf ns ↔ k < ns.length ∧ 0 < ns.getD k 0 := by
  constructor
  · intro h
    obtain ⟨p, hp, rfl⟩ := List.mem_map.mp h
    obtain ⟨a, b, c⟩ := mem_comes hp
    exact ⟨a, by rw [b]; exact c⟩
  · rintro ⟨h1, h2⟩
    refine List.mem_map.mpr ⟨(ns.getD k 0, k), List.mem_filter.mpr ⟨?_, by simpa using h2⟩, rfl⟩
    rw [List.getD_eq_getElem?_getD, List.getElem?_eq_getElem h1]
    exact List.mem_zipIdx_iff_getElem?.mpr (List.getElem?_eq_getElem h1)
theorem oneT_flat (ns : List Int) (d : Nat) : (flatT (oneT ns d)).Perm ((idxOf ns).map fun k => (k, d)) := by
  refine (flat_perm (sortT_perm _)).trans ?_
  unfold flatT idxOf
  rw [List.flatMap_map, List.map_map]
  have key : ∀ l : List (Int × Nat), (l.flatMap fun p => ((p.1, [(p.2, d)]) : TBun).2) = l.map ((fun k => (k, d)) ∘ fun p => p.2) := fun l => by
    induction l with
    | nil => rfl
    | cons a r ih => rw [List.flatMap_cons, ih]; rfl
  rw [key]
def wid (l : List (Nat × Nat)) : Nat := (l.map fun t => 2 ^ t.2).sum
theorem wid_app (a b : List (Nat × Nat)) : wid (a ++ b) = wid a + wid b := by unfold wid; rw [List.map_append, List.sum_append]
structure RowOk (ns : List Int) (D : Nat) (l : List TBun) : Prop where
  w : ∀ b ∈ l, wid b.2 = 2 ^ D
  c : ∀ b ∈ l, b.1 = (b.2.map fun t => ns.getD t.1 0).sum
  nd : (flatT l).Nodup
  m : ∀ t ∈ flatT l, t.2 ≤ D ∧ t.1 ∈ idxOf ns
theorem one_ok (ns : List Int) (D : Nat) : RowOk ns D (oneT ns D) where
  w := fun b hb => by
    obtain ⟨p, _, rfl⟩ := List.mem_map.mp ((sortT_perm _).mem_iff.mp hb)
    simp [wid]
  c := fun b hb => by
    obtain ⟨p, hp, rfl⟩ := List.mem_map.mp ((sortT_perm _).mem_iff.mp hb)
    simp [-List.getD_eq_getElem?_getD, (mem_comes hp).2.1]
  nd := by
    refine (oneT_flat ns D).nodup_iff.mpr ?_
    exact List.Pairwise.map _ (fun a b h z => h (by injection z)) (idx_nodup ns)
  m := fun t ht => by
    obtain ⟨k, hk, rfl⟩ := List.mem_map.mp ((oneT_flat ns D).mem_iff.mp ht)
    exact ⟨Nat.le_refl _, hk⟩
theorem twos_mem : ∀ {l : List TBun} {b : TBun}, b ∈ twosT l → ∃ x y, x ∈ l ∧ y ∈ l ∧ b = (x.1 + y.1, x.2 ++ y.2)
  | [], _, h => by cases h
  | [_], _, h => by cases h
  | a :: b :: r, c, h => by
    rcases List.mem_cons.mp (show c ∈ (a.1 + b.1, a.2 ++ b.2) :: twosT r from h) with rfl | h
    · exact ⟨a, b, .head _, .tail _ (.head _), rfl⟩
    · obtain ⟨x, y, hx, hy, e⟩ := twos_mem h
      exact ⟨x, y, .tail _ (.tail _ hx), .tail _ (.tail _ hy), e⟩
theorem row_ok (ns : List Int) : ∀ D, RowOk ns D (rowT ns D)
  | 0 => one_ok ns 0
  | D + 1 => by
    have ih := row_ok ns D
    have o := one_ok ns (D + 1)
    have fp : (flatT (rowT ns (D + 1))).Perm (flatT (oneT ns (D + 1)) ++ flatT (twosT (rowT ns D))) := by
      refine (flat_perm (sortT_perm _)).trans ?_
      rw [flat_app]
    have sub := twosT_flat (rowT ns D)
    refine ⟨fun b hb => ?_, fun b hb => ?_, fp.nodup_iff.mpr (List.nodup_append.mpr ⟨o.nd, ih.nd.sublist sub, ?_⟩), fun t ht => ?_⟩
    · rcases List.mem_append.mp ((sortT_perm _).mem_iff.mp hb) with z | z
      · exact o.w b z
      · obtain ⟨x, y, hx, hy, rfl⟩ := twos_mem z
        show wid (x.2 ++ y.2) = _
        rw [wid_app, ih.w x hx, ih.w y hy, Nat.pow_succ]
        omega
    · rcases List.mem_append.mp ((sortT_perm _).mem_iff.mp hb) with z | z
      · exact o.c b z
      · obtain ⟨x, y, hx, hy, rfl⟩ := twos_mem z
        show x.1 + y.1 = ((x.2 ++ y.2).map _).sum
        rw [List.map_append, List.sum_append, ← ih.c x hx, ← ih.c y hy]
    · rintro a ha b hb rfl
      have z := (ih.m a (sub.subset hb)).1
      obtain ⟨k, hk, rfl⟩ := List.mem_map.mp ((oneT_flat ns (D + 1)).mem_iff.mp ha)
      have z : D + 1 ≤ D := z
      omega
    · rcases List.mem_append.mp (fp.mem_iff.mp ht) with z | z
      · exact o.m t z
      · have := ih.m t (sub.subset z)
        exact ⟨by omega, this.2⟩
theorem oneT_length (ns : List Int) (d : Nat) : (oneT ns d).length = (idxOf ns).length := by
  unfold oneT idxOf
  rw [(sortT_perm _).length_eq, List.length_map, List.length_map]
theorem row_long (ns : List Int) : ∀ (D k : Nat), (idxOf ns).length ≤ k * 2 ^ D → 2 * (idxOf ns).length ≤ (rowT ns D).length + k
  | 0, k, h => by
    rw [show rowT ns 0 = oneT ns 0 from rfl, oneT_length]
    omega
  | D + 1, k, h => by
    have ih := row_long ns D (2 * k) (by rw [Nat.pow_succ] at h; rw [Nat.mul_comm 2 k, Nat.mul_assoc, Nat.mul_comm 2]; exact h)
    rw [show rowT ns (D + 1) = sortT (oneT ns (D + 1) ++ twosT (rowT ns D)) from rfl, (sortT_perm _).length_eq, List.length_append, oneT_length, twosT_length]
    omega
theorem levels_sum : ∀ (m : Nat) (S : List Nat), S.Nodup → (∀ s ∈ S, s < m) → S.length ≤ m ∧ (S.map fun s => 2 ^ s).sum + 2 ^ (m - S.length) ≤ 2 ^ m
  | 0, [], _, _ => ⟨Nat.le_refl _, Nat.le_refl _⟩
  | 0, s :: _, _, h => absurd (h s (.head _)) (by omega)
  | m + 1, S, hn, h => by
    by_cases c : m ∈ S
    · have hp := List.perm_cons_erase c
      have hn2 : (m :: S.erase m).Nodup := hp.nodup_iff.mp hn
      obtain ⟨h1, h2⟩ := List.nodup_cons.mp hn2
      obtain ⟨a1, a2⟩ := levels_sum m (S.erase m) h2 fun s hs => by
        have := h s (List.mem_of_mem_erase hs)
        have : s ≠ m := fun e => h1 (e ▸ hs)
        omega
      have hl := hp.length_eq
      rw [List.length_cons] at hl
      have hs := (hp.map fun s => 2 ^ s).sum_nat
      rw [List.map_cons, List.sum_cons] at hs
      refine ⟨by omega, ?_⟩
      rw [hs, hl, show m + 1 - ((S.erase m).length + 1) = m - (S.erase m).length by omega, Nat.pow_succ]
      omega
    · obtain ⟨a1, a2⟩ := levels_sum m S hn fun s hs => by
        have := h s hs
        have : s ≠ m := fun e => c (e ▸ hs)
        omega
      refine ⟨by omega, ?_⟩
      rw [show m + 1 - S.length = m - S.length + 1 by omega, Nat.pow_succ, Nat.pow_succ]
      omega
theorem fub {f : Nat × Nat → Nat} : ∀ (idx : List Nat) (T : List (Nat × Nat)), idx.Nodup → (∀ t ∈ T, t.1 ∈ idx) → (T.map f).sum = (idx.map fun p => ((T.filter fun t => decide (t.1 = p)).map f).sum).sum
  | [], T, _, h => by
    cases T with
    | nil => rfl
    | cons t T => exact absurd (h t (.head _)) (by simp)
  | p :: idx, T, hn, h => by
    obtain ⟨h1, h2⟩ := List.nodup_cons.mp hn
    have ih := fub (f := f) idx (T.filter fun t => !decide (t.1 = p)) h2 fun t ht => by
      obtain ⟨a, b⟩ := List.mem_filter.mp ht
      rcases List.mem_cons.mp (h t a) with z | z
      · simp [z] at b
      · exact z
    have split : ∀ l : List (Nat × Nat), (l.map f).sum = ((l.filter fun t => decide (t.1 = p)).map f).sum + ((l.filter fun t => !decide (t.1 = p)).map f).sum := fun l => by
      induction l with
      | nil => rfl
      | cons a r ih =>
        by_cases c : a.1 = p <;> simp [List.filter_cons, c, ih] <;> omega
    rw [List.map_cons, List.sum_cons, split T, ih]
    congr 2
    apply List.map_congr_left
    intro q hq
    rw [List.filter_filter]
    congr 2
    apply List.filter_congr
    intro t _
    by_cases c : t.1 = q
    · have : t.1 ≠ p := fun e => h1 (by rw [← e, c]; exact hq)
      simp [c]
      rintro rfl
      exact this c
    · simp [c]
theorem fubI {f : Nat × Nat → Int} : ∀ (idx : List Nat) (T : List (Nat × Nat)), idx.Nodup → (∀ t ∈ T, t.1 ∈ idx) → (T.map f).sum = (idx.map fun p => ((T.filter fun t => decide (t.1 = p)).map f).sum).sum
  | [], T, _, h => by
    cases T with
    | nil => rfl
    | cons t T => exact absurd (h t (.head _)) (by simp)
  | p :: idx, T, hn, h => by
    obtain ⟨h1, h2⟩ := List.nodup_cons.mp hn
    have ih := fubI (f := f) idx (T.filter fun t => !decide (t.1 = p)) h2 fun t ht => by
      obtain ⟨a, b⟩ := List.mem_filter.mp ht
      rcases List.mem_cons.mp (h t a) with z | z
      · simp [z] at b
      · exact z
    have split : ∀ l : List (Nat × Nat), (l.map f).sum = ((l.filter fun t => decide (t.1 = p)).map f).sum + ((l.filter fun t => !decide (t.1 = p)).map f).sum := fun l => by
      induction l with
      | nil => rfl
      | cons a r ih =>
        by_cases c : a.1 = p <;> simp [List.filter_cons, c, ih] <;> omega
    rw [List.map_cons, List.sum_cons, split T, ih]
    congr 2
    apply List.map_congr_left
    intro q hq
    rw [List.filter_filter]
    congr 2
    apply List.filter_congr
    intro t _
    by_cases c : t.1 = q
    · have : t.1 ≠ p := fun e => h1 (by rw [← e, c]; exact hq)
      simp [c]
      rintro rfl
      exact this c
    · simp [c]
theorem addAt_get : ∀ (l : List Nat) (ls : List Int) (k : Nat), (∀ p ∈ l, p < ls.length) → (addAt ls (l.map fun p => ((p : Nat) : Int))).getD k 0 = ls.getD k 0 + ((l.count k : Nat) : Int)
  | [], ls, k, _ => by simp [addAt]
  | p :: l, ls, k, h => by
    have hp := h p (.head _)
    have ih := addAt_get l (ls.set p (ls.getD p 0 + 1)) k fun q hq => by rw [List.length_set]; exact h q (.tail _ hq)
    show (addAt (ls.set p (ls.getD p 0 + 1)) (l.map _)).getD k 0 = _
    rw [ih, List.count_cons]
    by_cases c : p = k
    · subst c
      rw [List.getD_eq_getElem?_getD, List.getElem?_set_self hp]
      simp
      omega
    · rw [List.getD_eq_getElem?_getD, List.getElem?_set_ne c, ← List.getD_eq_getElem?_getD]
      have : (p == k) = false := by simpa using c
      rw [this]
      simp
/-- what lengths_of tells -/
structure LenOk (ns : List Int) (m : Nat) (ls : List Int) : Prop where
  len : ls.length = ns.length
  zero : ∀ k, k ∉ idxOf ns → ls.getD k 0 = 0
  pos : ∀ k ∈ idxOf ns, 1 ≤ ls.getD k 0 ∧ ls.getD k 0 ≤ ((m : Nat) : Int)
  kraft : ((idxOf ns).map fun k => 2 ^ (m - (ls.getD k 0).toNat)).sum ≤ 2 ^ m
  least : ∀ h : Nat → Nat, (∀ p ∈ idxOf ns, 1 ≤ h p ∧ h p ≤ m) → ((idxOf ns).map fun p => 2 ^ (m - h p)).sum ≤ 2 ^ m → ((idxOf ns).map fun p => ns.getD p 0 * ls.getD p 0).sum ≤ ((idxOf ns).map fun p => ns.getD p 0 * ((h p : Nat) : Int)).sum
theorem comes_len (ns : List Int) : (singlesOf ns).length = (idxOf ns).length := by
  rw [← un_one ns 0, List.length_map, oneT_length]
theorem one_big {f : Nat → Nat} : ∀ {l : List Nat} {p : Nat}, (∀ q ∈ l, 1 ≤ f q) → p ∈ l → f p + l.length ≤ (l.map f).sum + 1
  | q :: l, p, h, hp => by
    rw [List.map_cons, List.sum_cons, List.length_cons]
    rcases List.mem_cons.mp hp with rfl | hp
    · have z := sum_le (f := fun _ => 1) (g := f) (l := l) fun q hq => h q (.tail _ hq)
      rw [sum_constN] at z
      omega
    · have := one_big (fun q hq => h q (.tail _ hq)) hp
      have := h q (.head _)
      omega
theorem len_one (ns : List Int) (m : Nat) (hm : 1 ≤ m) (h : (singlesOf ns).length = 1) : LenOk ns m (lenOf ns m) := by
  have hi : (idxOf ns).length = 1 := by rw [← comes_len]; exact h
  obtain ⟨k, hk⟩ : ∃ k, idxOf ns = [k] := List.length_eq_one_iff.mp hi
  have hkm : k ∈ idxOf ns := by rw [hk]; exact .head _
  obtain ⟨hkl, hkp⟩ := mem_idx.mp hkm
  have e : lenOf ns m = (List.replicate ns.length 0).set k 1 := by
    unfold lenOf
    rw [if_pos h]
    congr 1
    have z := un_one ns 0
    obtain ⟨q, hq⟩ : ∃ q, comes ns = [q] := List.length_eq_one_iff.mp (by rw [← hi]; unfold idxOf; rw [List.length_map])
    have hqk : q.2 = k := by
      unfold idxOf at hk
      rw [hq] at hk
      simpa using hk
    have z2 : oneT ns 0 = [(q.1, [(q.2, 0)])] := by
      unfold oneT
      rw [hq]
      exact List.mergeSort_singleton _
    rw [← z, z2]
    show (([(((q.2 : Nat) : Int))] : List Int).getD 0 0).toNat = k
    rw [hqk]
    rfl
  have g : ∀ j, (lenOf ns m).getD j 0 = if j = k then 1 else 0 := fun j => by
    rw [e, List.getD_eq_getElem?_getD]
    by_cases c : j = k
    · subst c
      rw [List.getElem?_set_self (by rw [List.length_replicate]; exact hkl), if_pos rfl]
      rfl
    · rw [List.getElem?_set_ne (fun z => c z.symm), if_neg c, List.getElem?_replicate]
      split <;> rfl
  refine ⟨lenOf_length ns m, fun j hj => ?_, fun j hj => ?_, ?_, fun h hh _ => ?_⟩
  · rw [g, if_neg]
    rintro rfl
    exact hj hkm
  · rw [hk] at hj
    rw [g, if_pos (List.mem_singleton.mp hj)]
    omega
  · rw [hk]
    simp only [List.map_cons, List.map_nil, List.sum_cons, List.sum_nil]
    rw [g, if_pos rfl]
    show 2 ^ (m - 1) + 0 ≤ 2 ^ m
    exact Nat.pow_le_pow_right (by decide) (by omega)
  · rw [hk]
    simp only [List.map_cons, List.map_nil, List.sum_cons, List.sum_nil]
    rw [g, if_pos rfl]
    have z := (hh k hkm).1
    have := Int.mul_le_mul_of_nonneg_left (show (1 : Int) ≤ ((h k : Nat) : Int) by omega) (show 0 ≤ ns.getD k 0 by omega)
    omega
theorem len_ok (ns : List Int) (m : Nat) (hm : 1 ≤ m) (h1 : 1 ≤ (idxOf ns).length) (h2 : (idxOf ns).length ≤ 2 ^ m) : LenOk ns m (lenOf ns m) := by
  by_cases c : (singlesOf ns).length = 1
  · exact len_one ns m hm c
  have cl := comes_len ns
  have n2 : 2 ≤ (idxOf ns).length := by omega
  have R := row_ok ns (m - 1)
  have em : 2 ^ m = 2 ^ (m - 1) * 2 := by rw [← Nat.pow_succ]; congr 1; omega
  have long := row_long ns (m - 1) 2 (by omega)
  obtain ⟨P, hP⟩ : ∃ P, P = (rowT ns (m - 1)).take (2 * (idxOf ns).length - 2) := ⟨_, rfl⟩
  have hPl : P.length = 2 * (idxOf ns).length - 2 := by rw [hP, List.length_take]; omega
  have hsub : P.Sublist (rowT ns (m - 1)) := hP ▸ List.take_sublist _ _
  have hfs : (flatT P).Sublist (flatT (rowT ns (m - 1))) := by
    have key : ∀ (l : List TBun) (j : Nat), (flatT (l.take j)).Sublist (flatT l) := fun l j => by
      conv => rhs; rw [← List.take_append_drop j l, flat_app]
      exact List.sublist_append_left _ _
    rw [hP]
    exact key _ _
  have hnd : (flatT P).Nodup := R.nd.sublist hfs
  have hmem : ∀ t ∈ flatT P, t.2 ≤ m - 1 ∧ t.1 ∈ idxOf ns := fun t ht => R.m t (hfs.subset ht)
  have hwid : wid (flatT P) = P.length * 2 ^ (m - 1) := by
    have key : ∀ l : List TBun, (∀ b ∈ l, wid b.2 = 2 ^ (m - 1)) → wid (flatT l) = l.length * 2 ^ (m - 1) := fun l => by
      induction l with
      | nil => intro _; simp [flatT, wid]
      | cons a r ih =>
        intro h
        have i := ih fun b hb => h b (.tail _ hb)
        rw [show flatT (a :: r) = a.2 ++ flatT r from rfl, wid_app, i, h a (.head _), List.length_cons, Nat.succ_mul]
        omega
    exact key P fun b hb => R.w b (hsub.subset hb)
  -- the lengths
  have hle : lenOf ns m = addAt (List.replicate ns.length 0) (((flatT P).map (·.1)).map fun p => ((p : Nat) : Int)) := by
    unfold lenOf
    rw [if_neg c, ← un_row, cl, ← List.map_take, ← hP]
    congr 1
    have key : ∀ l : List TBun, (l.map un).flatMap (·.2) = ((flatT l).map (·.1)).map fun p => ((p : Nat) : Int) := fun l => by
      induction l with
      | nil => rfl
      | cons a r ih =>
        rw [List.map_cons, List.flatMap_cons, ih, show flatT (a :: r) = a.2 ++ flatT r from rfl, List.map_append, List.map_append]
        congr 1
        unfold un
        rw [List.map_map]
        rfl
    exact key P
  have hin : ∀ p ∈ (flatT P).map (·.1), p < (List.replicate ns.length (0 : Int)).length := fun p hp => by
    obtain ⟨t, ht, rfl⟩ := List.mem_map.mp hp
    rw [List.length_replicate]
    exact (mem_idx.mp (hmem t ht).2).1
  have hget : ∀ k, (lenOf ns m).getD k 0 = (((((flatT P).filter fun t => decide (t.1 = k)).length) : Nat) : Int) := fun k => by
    rw [hle, addAt_get _ _ _ hin]
    have z : (List.replicate ns.length (0 : Int)).getD k 0 = 0 := by
      rw [List.getD_eq_getElem?_getD, List.getElem?_replicate]
      split <;> rfl
    rw [z, Int.zero_add, List.count_eq_countP, List.countP_map, List.countP_eq_length_filter]
    congr 3
  have hlev : ∀ k, ((flatT P).filter fun t => decide (t.1 = k)).length ≤ m ∧ (((flatT P).filter fun t => decide (t.1 = k)).map fun t => 2 ^ t.2).sum + 2 ^ (m - ((flatT P).filter fun t => decide (t.1 = k)).length) ≤ 2 ^ m := fun k => by
    have z := levels_sum m (((flatT P).filter fun t => decide (t.1 = k)).map (·.2)) ?_ ?_
    · rw [List.length_map, List.map_map] at z
      exact z
    · have hn3 := hnd.sublist (List.filter_sublist (p := fun t => decide (t.1 = k)))
      refine List.pairwise_map.mpr (hn3.imp_of_mem fun {a b} ha hb hab => ?_)
      intro e
      have ea := (List.mem_filter.mp ha).2
      have eb := (List.mem_filter.mp hb).2
      simp only [decide_eq_true_eq] at ea eb
      exact hab (Prod.ext (ea.trans eb.symm) e)
    · intro s hs
      obtain ⟨t, ht, rfl⟩ := List.mem_map.mp hs
      have := (hmem t (List.mem_filter.mp ht).1).1
      omega
  have hk : ((idxOf ns).map fun k => 2 ^ (m - ((lenOf ns m).getD k 0).toNat)).sum ≤ 2 ^ m := by
    have f := fub (f := fun t => 2 ^ t.2) (idxOf ns) (flatT P) (idx_nodup ns) fun t ht => (hmem t ht).2
    have s := sum_le (l := idxOf ns) (f := fun k => (((flatT P).filter fun t => decide (t.1 = k)).map fun t => 2 ^ t.2).sum + 2 ^ (m - ((flatT P).filter fun t => decide (t.1 = k)).length)) (g := fun _ => 2 ^ m) fun k _ => (hlev k).2
    rw [sum_addN, sum_constN, ← f, show ((flatT P).map fun t => 2 ^ t.2).sum = wid (flatT P) from rfl, hwid, hPl] at s
    have e : ((idxOf ns).map fun k => 2 ^ (m - ((lenOf ns m).getD k 0).toNat)) = (idxOf ns).map fun k => 2 ^ (m - ((flatT P).filter fun t => decide (t.1 = k)).length) := by
      apply List.map_congr_left
      intro k _
      rw [hget, Int.toNat_natCast]
    rw [e]
    have em : 2 ^ m = 2 ^ (m - 1) * 2 := by rw [← Nat.pow_succ]; congr 1; omega
    have key : ∀ l x : Nat, 2 ≤ l → (2 * l - 2) * x + x * 2 = l * (x * 2) := fun l x hl => by
      obtain ⟨j, rfl⟩ : ∃ j, l = j + 1 := ⟨l - 1, by omega⟩
      rw [show 2 * (j + 1) - 2 = 2 * j by omega, Nat.add_mul, Nat.one_mul, Nat.mul_comm 2 j, Nat.mul_assoc, Nat.mul_comm 2 x]
    have z := key (idxOf ns).length (2 ^ (m - 1)) n2
    rw [em] at s ⊢
    omega
  refine ⟨lenOf_length ns m, fun k hk0 => ?_, fun k hkm => ?_, hk, fun h hh hkr => ?_⟩
  · rw [hget]
    have z : (flatT P).filter (fun t => decide (t.1 = k)) = [] := List.filter_eq_nil_iff.mpr fun t ht e => hk0 (by
      have e : t.1 = k := by simpa using e
      exact e ▸ (hmem t ht).2)
    rw [z]
    rfl
  · rw [hget]
    have z := (hlev k).1
    refine ⟨?_, by omega⟩
    by_cases c0 : ((flatT P).filter fun t => decide (t.1 = k)).length = 0
    · have z := one_big (f := fun k => 2 ^ (m - ((lenOf ns m).getD k 0).toNat)) (fun q _ => Nat.one_le_two_pow) hkm
      rw [show ((lenOf ns m).getD k 0).toNat = 0 by rw [hget, c0]; rfl, Nat.sub_zero] at z
      omega
    · omega
  · have l := least_cost (s := (singlesOf ns).map (·.1)) (idx := idxOf ns) (c := fun p => ns.getD p 0) (m := m) (h := h) ?_ ?_ ?_ hm (fun p hp => (hh p hp).2) hkr
    · refine Int.le_trans (Int.le_of_eq ?_) l
      rw [← w_row, ← un_row, List.map_map, ← List.map_take, ← hP]
      have f := fubI (f := fun t => ns.getD t.1 0) (idxOf ns) (flatT P) (idx_nodup ns) fun t ht => (hmem t ht).2
      have g : (P.map ((fun x => x.1) ∘ un)).sum = ((flatT P).map fun t => ns.getD t.1 0).sum := by
        have key : ∀ l : List TBun, (∀ b ∈ l, b.1 = (b.2.map fun t => ns.getD t.1 0).sum) → (l.map ((fun x => x.1) ∘ un)).sum = ((flatT l).map fun t => ns.getD t.1 0).sum := fun l => by
          induction l with
          | nil => intro _; rfl
          | cons a r ih =>
            intro h
            rw [List.map_cons, List.sum_cons, ih fun b hb => h b (.tail _ hb), show flatT (a :: r) = a.2 ++ flatT r from rfl, List.map_append, List.sum_append, ← h a (.head _)]
            rfl
        exact key P fun b hb => R.c b (hsub.subset hb)
      rw [g, f]
      congr 1
      apply List.map_congr_left
      intro p _
      rw [hget]
      have key : ∀ l : List (Nat × Nat), (∀ t ∈ l, t.1 = p) → (l.map fun t => ns.getD t.1 0).sum = ns.getD p 0 * ((l.length : Nat) : Int) := fun l => by
        induction l with
        | nil => intro _; simp
        | cons a r ih =>
          intro h
          rw [List.map_cons, List.sum_cons, ih fun b hb => h b (.tail _ hb), h a (.head _), List.length_cons]
          push_cast
          rw [Int.mul_add, Int.mul_one]
          omega
      exact (key _ fun t ht => by simpa using (List.mem_filter.mp ht).2).symm
    · have z := w_sort ((ns.zipIdx.filter fun p => decide (0 < p.1)).map fun p => (p.1, [((p.2 : Nat) : Int)]))
      rw [show (singlesOf ns).map (·.1) = sortW _ from z]
      exact sortW_sorted _
    · intro x hx
      obtain ⟨b, hb, rfl⟩ := List.mem_map.mp hx
      rw [← un_one ns 0] at hb
      obtain ⟨t, ht, rfl⟩ := List.mem_map.mp hb
      obtain ⟨p, hp, rfl⟩ := List.mem_map.mp ((sortT_perm _).mem_iff.mp ht)
      have := (mem_comes hp).2.2
      show 0 ≤ p.1
      omega
    · have e : (idxOf ns).map (fun p => ns.getD p 0) = (comes ns).map (·.1) := by
        unfold idxOf
        rw [List.map_map]
        apply List.map_congr_left
        intro p hp
        exact (mem_comes hp).2.1
      rw [e]
      have z := ((sortB_perm ((comes ns).map fun p => (p.1, [((p.2 : Nat) : Int)]))).map (·.1))
      rw [List.map_map] at z
      exact z
end L2.BR

namespace L2.BR
/-! ### all rows of lengths -/
def rowsR (most : Nat) : Nat → List (List Int)
  | 0 => [[]]
  | n + 1 => (rowsR most n).flatMap fun r => (List.range most).map fun i => r ++ [1 + ((i : Nat) : Int)]
def worthR (most : Nat) (r : List Int) : Nat := (r.map fun l => 2 ^ (most - l.toNat)).sum
def goodRows (most n : Nat) : List (List Int) := (rowsR most n).filter fun r => decide (worthR most r ≤ 2 ^ most)
def costR (cs r : List Int) : Int := ((cs.zip r).map fun p => p.1 * p.2).sum
theorem mem_rowsR {most : Nat} : ∀ {n : Nat} {r : List Int}, r ∈ rowsR most n ↔ r.length = n ∧ ∀ x ∈ r, 1 ≤ x ∧ x ≤ ((most : Nat) : Int)
  | 0, r => by
    simp only [rowsR, List.mem_singleton, List.length_eq_zero_iff]
    constructor
    · rintro rfl
      exact ⟨rfl, fun _ z => nomatch z⟩
    · exact fun h => h.1
  | n + 1, r => by
    simp only [rowsR, List.mem_flatMap, List.mem_map, List.mem_range]
    constructor
    · rintro ⟨q, hq, i, hi, rfl⟩
      obtain ⟨h1, h2⟩ := mem_rowsR.mp hq
      refine ⟨by rw [List.length_append, List.length_singleton, h1], fun x hx => ?_⟩
      rcases List.mem_append.mp hx with z | z
      · exact h2 x z
      · rw [List.mem_singleton.mp z]
        omega
    · rintro ⟨h1, h2⟩
      have hne : r ≠ [] := by rintro rfl; simp at h1
      have e := List.dropLast_concat_getLast hne
      obtain ⟨l1, l2⟩ := h2 (r.getLast hne) (List.getLast_mem hne)
      refine ⟨r.dropLast, mem_rowsR.mpr ⟨by rw [List.length_dropLast]; omega, fun x hx => h2 x ((List.dropLast_sublist r).subset hx)⟩, (r.getLast hne - 1).toNat, by omega, ?_⟩
      rw [show (1 + (((r.getLast hne - 1).toNat : Nat) : Int)) = r.getLast hne by omega]
      exact e
theorem rowsR_length (most : Nat) : ∀ n, (rowsR most n).length = most ^ n
  | 0 => rfl
  | n + 1 => by
    have ih := rowsR_length most n
    show ((rowsR most n).flatMap _).length = _
    rw [List.length_flatMap, Nat.pow_succ, ← ih]
    generalize rowsR most n = l
    induction l with
    | nil => simp
    | cons a r ih => rw [List.map_cons, List.sum_cons, ih, List.length_cons, List.length_map, List.length_range, Nat.succ_mul]; omega
theorem zip_idx {ns ls : List Int} (h : ls.length = ns.length) : ns.zip ls = ns.zipIdx.map fun p => (p.1, ls.getD p.2 0) := by
  apply List.ext_getElem
  · simp [h]
  · intro i h1 h2
    simp at h1 h2
    simp [List.getElem_zip, show i < ls.length by omega]
theorem zip_comes {ns ls : List Int} (h : ls.length = ns.length) : (ns.zip ls).filter (fun p => decide (0 < p.1)) = (comes ns).map fun p => (p.1, ls.getD p.2 0) := by
  rw [zip_idx h, List.filter_map]
  rfl
theorem row_idx {ns ls : List Int} (h : ls.length = ns.length) : ((ns.zip ls).filter fun p => decide (0 < p.1)).map (·.2) = (idxOf ns).map fun p => ls.getD p 0 := by
  rw [zip_comes h]
  unfold idxOf
  rw [List.map_map, List.map_map]
  rfl
theorem com_idx (ns : List Int) : ns.filter (fun n => decide (0 < n)) = (idxOf ns).map fun p => ns.getD p 0 := by
  have e : ns = ns.zipIdx.map (·.1) := by rw [List.zipIdx_map_fst]
  conv => lhs; rw [e, List.filter_map]
  unfold idxOf
  rw [List.map_map]
  apply List.map_congr_left
  intro p hp
  exact ((mem_comes (ns := ns) hp).2.1).symm
theorem cost_idx (ns : List Int) (g : Nat → Int) : costR (ns.filter fun n => decide (0 < n)) ((idxOf ns).map g) = ((idxOf ns).map fun p => ns.getD p 0 * g p).sum := by
  unfold costR
  rw [com_idx, List.zip_map', List.map_map]
  rfl
theorem row_of {ns : List Int} {r : List Int} (h : r.length = (idxOf ns).length) : (idxOf ns).map (fun p => r.getD ((idxOf ns).idxOf p) 0) = r := by
  apply List.ext_getElem
  · simp [h]
  · intro i h1 h2
    rw [List.getElem_map]
    have z : (idxOf ns).idxOf ((idxOf ns)[i]'(by simpa using h1)) = i := (idx_nodup ns).idxOf_getElem i _
    rw [z]
    simp [h2]
/-- the told row is among them, and none costs less -/
theorem rows_least {ns ls : List Int} {m : Nat} (O : LenOk ns m ls) : (idxOf ns).map (fun p => ls.getD p 0) ∈ goodRows m (idxOf ns).length ∧
    ∀ r ∈ goodRows m (idxOf ns).length, costR (ns.filter fun n => decide (0 < n)) ((idxOf ns).map fun p => ls.getD p 0) ≤ costR (ns.filter fun n => decide (0 < n)) r := by
  refine ⟨List.mem_filter.mpr ⟨mem_rowsR.mpr ⟨by rw [List.length_map], fun x hx => ?_⟩, ?_⟩, fun r hr => ?_⟩
  · obtain ⟨p, hp, rfl⟩ := List.mem_map.mp hx
    exact O.pos p hp
  · rw [decide_eq_true_eq]
    unfold worthR
    rw [List.map_map]
    exact O.kraft
  · obtain ⟨h1, h2⟩ := List.mem_filter.mp hr
    obtain ⟨h3, h4⟩ := mem_rowsR.mp h1
    have e := row_of h3
    have hin : ∀ p ∈ idxOf ns, 1 ≤ r.getD ((idxOf ns).idxOf p) 0 ∧ r.getD ((idxOf ns).idxOf p) 0 ≤ ((m : Nat) : Int) := fun p hp => by
      have z := List.mem_map_of_mem (f := fun p => r.getD ((idxOf ns).idxOf p) 0) hp
      rw [e] at z
      exact h4 _ z
    have c1 := cost_idx ns fun p => r.getD ((idxOf ns).idxOf p) 0
    rw [e] at c1
    rw [c1, cost_idx]
    have l := O.least (fun p => (r.getD ((idxOf ns).idxOf p) 0).toNat) (fun p hp => by have := hin p hp; omega) (by
      rw [decide_eq_true_eq] at h2
      unfold worthR at h2
      rw [← e, List.map_map] at h2
      exact h2)
    refine Int.le_trans l (Int.le_of_eq ?_)
    congr 1
    apply List.map_congr_left
    intro p hp
    have := hin p hp
    rw [Int.toNat_of_nonneg (by omega)]
end L2.BR

namespace L2.BR
/-! ### the law's own least cost -/
def addedO : Option Int → Option Int → Option Int
  | some a, some b => some (a + b)
  | _, _ => none
def lessO : Option Int → Option Int → Option Int
  | none, b => b
  | some a, some b => if b < a then some b else some a
  | some a, none => some a
def dp0 (l : List Int) (f : Nat) : Option Int := if l.length ≤ f then some 0 else none
theorem dot_zero : ∀ l : List Int, ((l.zip ((List.replicate l.length 0).map fun e : Nat => ((e : Nat) : Int))).map fun p => p.1 * p.2).sum = 0
  | [] => rfl
  | c :: l => by
    have ih := dot_zero l
    rw [List.length_cons, List.replicate_succ, List.map_cons, List.zip_cons_cons, List.map_cons, List.sum_cons, ih]
    simp
def dp (N : Nat) : Nat → List Int → Nat → Option Int
  | 0, l, f => dp0 l f
  | _ + 1, [], _ => some 0
  | _ + 1, _ :: _, 0 => none
  | D + 1, c :: r, f + 1 => lessO (dp N (D + 1) r f) (addedO (some (c :: r).sum) (dp N D (c :: r) (min (2 * (f + 1)) N)))
termination_by D l => (D, l.length)
def dot (cs es : List Int) : Int := ((cs.zip es).map fun p => p.1 * p.2).sum
def krD (D : Nat) (es : List Nat) : Nat := (es.map fun e => 2 ^ (D - e)).sum
def dotN (cs : List Int) (es : List Nat) : Int := dot cs (es.map fun e => ((e : Nat) : Int))
theorem dot_cons (c e : Int) (cs es : List Int) : dot (c :: cs) (e :: es) = c * e + dot cs es := by
  unfold dot
  rw [List.zip_cons_cons, List.map_cons, List.sum_cons]
theorem dotN_cons (c : Int) (e : Nat) (cs : List Int) (es : List Nat) : dotN (c :: cs) (e :: es) = c * ((e : Nat) : Int) + dotN cs es := dot_cons _ _ _ _
theorem krD_cons (D e : Nat) (es : List Nat) : krD D (e :: es) = 2 ^ (D - e) + krD D es := by
  unfold krD
  rw [List.map_cons, List.sum_cons]
theorem krD_le (D : Nat) : ∀ es : List Nat, krD D es ≤ es.length * 2 ^ D
  | [] => by simp [krD]
  | e :: es => by
    have := krD_le D es
    rw [krD_cons, List.length_cons, Nat.succ_mul]
    have : 2 ^ (D - e) ≤ 2 ^ D := Nat.pow_le_pow_right (by decide) (by omega)
    omega
theorem krD_up (D : Nat) (es : List Nat) : krD (D + 1) (es.map (· + 1)) = krD D es := by
  unfold krD
  rw [List.map_map]
  congr 1
  apply List.map_congr_left
  intro e _
  show 2 ^ (D + 1 - (e + 1)) = _
  congr 1
  omega
theorem dotN_up : ∀ {cs : List Int} {es : List Nat}, cs.length = es.length → dotN cs (es.map (· + 1)) = cs.sum + dotN cs es
  | [], [], _ => rfl
  | c :: cs, e :: es, h => by
    have ih := dotN_up (cs := cs) (es := es) (by simpa using h)
    rw [List.map_cons, dotN_cons, dotN_cons, ih, List.sum_cons]
    push_cast
    rw [Int.mul_add, Int.mul_one]
    omega
/-- what the law's table tells is the cost of lengths that fit -/
theorem dp_sound (N : Nat) : ∀ (D : Nat) (l : List Int) (f : Nat) (v : Int), dp N D l f = some v → ∃ es : List Nat, es.length = l.length ∧ (∀ e ∈ es, e ≤ D) ∧ krD D es ≤ f * 2 ^ D ∧ dotN l es = v := by
  intro D l f
  induction D, l, f using dp.induct N with
  | case1 l f =>
    intro v h
    rw [dp, dp0] at h
    split at h
    · cases h
      refine ⟨List.replicate l.length 0, List.length_replicate .., fun e he => by rw [List.eq_of_mem_replicate he]; exact Nat.le_refl _, ?_, ?_⟩
      · unfold krD
        rw [List.map_replicate]
        simp
        assumption
      · exact dot_zero l
    · cases h
  | case2 D f =>
    intro v h
    rw [dp] at h
    cases h
    exact ⟨[], rfl, (fun _ z => nomatch z), by simp [krD], rfl⟩
  | case3 D c r =>
    intro v h
    rw [dp] at h
    cases h
  | case4 D c r f ih1 ih2 =>
    intro v h
    simp only [Nat.succ_eq_add_one] at *
    rw [dp] at h
    have two : dp N (D + 1) r f = some v ∨ addedO (some (c :: r).sum) (dp N D (c :: r) (min (2 * (f + 1)) N)) = some v := by
      generalize dp N (D + 1) r f = x at *
      generalize addedO (some (c :: r).sum) (dp N D (c :: r) (min (2 * (f + 1)) N)) = y at *
      cases x with
      | none => exact .inr h
      | some x =>
        cases y with
        | none => exact .inl h
        | some y =>
          simp only [lessO] at h
          split at h
          · exact .inr h
          · exact .inl h
    rcases two with h | h
    · obtain ⟨es, a1, a2, a3, a4⟩ := ih1 v h
      refine ⟨0 :: es, by rw [List.length_cons, a1, List.length_cons], fun e he => ?_, ?_, ?_⟩
      · rcases List.mem_cons.mp he with rfl | he
        · exact Nat.zero_le _
        · exact a2 e he
      · rw [krD_cons, Nat.sub_zero, Nat.succ_mul]
        omega
      · rw [dotN_cons, a4]
        simp
    · cases e : dp N D (c :: r) (min (2 * (f + 1)) N) with
      | none => rw [e] at h; cases h
      | some w =>
        rw [e] at h
        obtain ⟨es, a1, a2, a3, a4⟩ := ih2 w e
        refine ⟨es.map (· + 1), by rw [List.length_map, a1], fun e he => ?_, ?_, ?_⟩
        · obtain ⟨x, hx, rfl⟩ := List.mem_map.mp he
          have := a2 x hx
          omega
        · rw [krD_up]
          have z := Nat.mul_le_mul_right (2 ^ D) (Nat.min_le_left (2 * (f + 1)) N)
          rw [Nat.pow_succ, show (f + 1) * (2 ^ D * 2) = 2 * (f + 1) * 2 ^ D by rw [Nat.mul_comm (2 ^ D), ← Nat.mul_assoc, Nat.mul_comm (f + 1)]]
          omega
        · rw [dotN_up a1.symm, a4]
          simpa [addedO] using h
theorem krD_down (D : Nat) : ∀ {es : List Nat}, (∀ e ∈ es, 1 ≤ e) → krD D (es.map (· - 1)) = krD (D + 1) es := fun {es} h => by
  unfold krD
  rw [List.map_map]
  congr 1
  apply List.map_congr_left
  intro e he
  have := h e he
  show 2 ^ (D - (e - 1)) = _
  congr 1
  omega
theorem less_le {a b : Option Int} {x : Int} (h : (∃ v, a = some v ∧ v ≤ x) ∨ ∃ v, b = some v ∧ v ≤ x) : ∃ v, lessO a b = some v ∧ v ≤ x := by
  rcases h with ⟨v, rfl, hv⟩ | ⟨v, rfl, hv⟩
  · cases b with
    | none => exact ⟨v, rfl, hv⟩
    | some w =>
      simp only [lessO]
      split
      · exact ⟨w, rfl, by omega⟩
      · exact ⟨v, rfl, hv⟩
  · cases a with
    | none => exact ⟨v, rfl, hv⟩
    | some w =>
      simp only [lessO]
      split
      · exact ⟨v, rfl, hv⟩
      · exact ⟨w, rfl, by omega⟩
theorem krD_zero : ∀ es : List Nat, krD 0 es = es.length
  | [] => rfl
  | e :: es => by
    have ih := krD_zero es
    rw [krD_cons, ih, List.length_cons, Nat.zero_sub]
    omega
/-- and no rising lengths that fit cost less -/
theorem dp_least (N : Nat) : ∀ (D : Nat) (l : List Int) (f : Nat) (es : List Nat), l.length < N → es.length = l.length → es.Pairwise (· ≤ ·) → (∀ e ∈ es, e ≤ D) → krD D es ≤ f * 2 ^ D → (∀ c ∈ l, 0 ≤ c) → ∃ v, dp N D l f = some v ∧ v ≤ dotN l es := by
  intro D l f
  induction D, l, f using dp.induct N with
  | case1 l f =>
    intro es hN hl hs hb hk hc
    have z := krD_zero es
    rw [dp, dp0, if_pos (by rw [Nat.pow_zero] at hk; omega)]
    refine ⟨0, rfl, ?_⟩
    have e0 : ∀ {l : List Int} {es : List Nat}, (∀ e ∈ es, e ≤ 0) → dotN l es = 0 := fun {l es} => by
      induction es generalizing l with
      | nil => intro _; unfold dotN dot; simp
      | cons e es ih =>
        intro h
        cases l with
        | nil => rfl
        | cons c l =>
          have := h e (.head _)
          rw [dotN_cons, ih fun x hx => h x (.tail _ hx), show e = 0 by omega]
          simp
    rw [e0 hb]
    exact Int.le_refl _
  | case2 D f =>
    intro es hN hl hs hb hk hc
    rw [dp]
    refine ⟨0, rfl, ?_⟩
    have : es = [] := List.length_eq_zero_iff.mp hl
    rw [this]
    exact Int.le_refl _
  | case3 D c r =>
    intro es hN hl hs hb hk hc
    simp only [Nat.succ_eq_add_one] at *
    cases es with
    | nil => simp at hl
    | cons e es =>
      rw [krD_cons] at hk
      have := Nat.two_pow_pos (D + 1 - e)
      omega
  | case4 D c r f ih1 ih2 =>
    intro es hN hl hs hb hk hc
    simp only [Nat.succ_eq_add_one] at *
    rw [dp]
    cases es with
    | nil => simp at hl
    | cons e es =>
      obtain ⟨h1, h2⟩ := List.pairwise_cons.mp hs
      apply less_le
      by_cases c0 : e = 0
      · subst c0
        left
        rw [krD_cons, Nat.sub_zero, Nat.succ_mul] at hk
        obtain ⟨v, a1, a2⟩ := ih1 es (by simp at hN; omega) (by simpa using hl) h2 (fun x hx => hb x (.tail _ hx)) (by omega) (fun x hx => hc x (.tail _ hx))
        refine ⟨v, a1, ?_⟩
        rw [dotN_cons]
        simpa using a2
      · right
        have hp : ∀ x ∈ e :: es, 1 ≤ x := fun x hx => by
          rcases List.mem_cons.mp hx with rfl | hx
          · omega
          · have := h1 x hx
            omega
        have hpw : ((e :: es).map (· - 1)).Pairwise (· ≤ ·) := List.pairwise_map.mpr (hs.imp fun h => by omega)
        have kd := krD_down D hp
        have kl := krD_le D ((e :: es).map (· - 1))
        rw [List.length_map, hl] at kl
        obtain ⟨v, a1, a2⟩ := ih2 ((e :: es).map (· - 1)) hN (by rw [List.length_map, hl]) hpw (fun x hx => by
          obtain ⟨y, hy, rfl⟩ := List.mem_map.mp hx
          have := hb y hy
          omega) (by
          rw [kd]
          rw [kd] at kl
          by_cases cm : 2 * (f + 1) ≤ N
          · rw [Nat.min_eq_left cm, show 2 * (f + 1) * 2 ^ D = (f + 1) * 2 ^ (D + 1) by rw [Nat.pow_succ, Nat.mul_comm (2 ^ D), ← Nat.mul_assoc, Nat.mul_comm (f + 1)]]
            exact hk
          · rw [Nat.min_eq_right (by omega)]
            exact Nat.le_trans kl (Nat.mul_le_mul_right _ (by omega))) hc
        refine ⟨(c :: r).sum + v, by rw [a1]; rfl, ?_⟩
        have up := dotN_up (cs := c :: r) (es := (e :: es).map (· - 1)) (by rw [List.length_map, hl])
        have em : ((e :: es).map (· - 1)).map (· + 1) = e :: es := by
          rw [List.map_map]
          conv => rhs; rw [← List.map_id (e :: es)]
          apply List.map_congr_left
          intro x hx
          have := hp x hx
          show x - 1 + 1 = x
          omega
        rw [em] at up
        omega
/-! ### lengths in order, none longer than there are things -/
def insI (x : Int) : List Int → List Int
  | [] => [x]
  | y :: ys => if x ≤ y then x :: y :: ys else y :: insI x ys
def isortI : List Int → List Int
  | [] => []
  | x :: xs => insI x (isortI xs)
theorem insI_perm (x : Int) : ∀ l : List Int, (insI x l).Perm (x :: l)
  | [] => .refl _
  | y :: ys => by
    unfold insI
    split
    · exact .refl _
    · exact ((insI_perm x ys).cons y).trans (.swap x y ys)
theorem isortI_perm : ∀ l : List Int, (isortI l).Perm l
  | [] => .refl _
  | x :: xs => (insI_perm x _).trans ((isortI_perm xs).cons x)
theorem insI_sorted (x : Int) : ∀ {l : List Int}, l.Pairwise (· ≤ ·) → (insI x l).Pairwise (· ≤ ·)
  | [], _ => List.pairwise_singleton ..
  | y :: ys, h => by
    obtain ⟨h1, h2⟩ := List.pairwise_cons.mp h
    unfold insI
    split
    · rename_i c
      refine List.pairwise_cons.mpr ⟨fun z hz => ?_, h⟩
      rcases List.mem_cons.mp hz with rfl | hz
      · exact c
      · exact Int.le_trans c (h1 z hz)
    · rename_i c
      refine List.pairwise_cons.mpr ⟨fun z hz => ?_, insI_sorted x h2⟩
      rcases List.mem_cons.mp ((insI_perm x ys).mem_iff.mp hz) with rfl | hz
      · omega
      · exact h1 z hz
theorem isortI_sorted : ∀ l : List Int, (isortI l).Pairwise (· ≤ ·)
  | [] => .nil
  | x :: xs => insI_sorted x (isortI_sorted xs)
theorem dot_ins (x : Int) : ∀ (cs ys : List Int) (c : Int), (c :: cs).Pairwise (fun a b => b ≤ a) → cs.length = ys.length → dot (c :: cs) (insI x ys) ≤ dot (c :: cs) (x :: ys)
  | cs, [], c, _, _ => Int.le_refl _
  | [], y :: ys, c, _, h => by cases h
  | c1 :: cs, y :: ys, c, hs, hl => by
    obtain ⟨h1, h2⟩ := List.pairwise_cons.mp hs
    unfold insI
    split
    · exact Int.le_refl _
    · rename_i e
      have ih := dot_ins x cs ys c1 h2 (by simpa using hl)
      rw [dot_cons, dot_cons, dot_cons]
      rw [dot_cons] at ih
      have z : 0 ≤ (c - c1) * (x - y) := Int.mul_nonneg (by have := h1 c1 (.head _); omega) (by omega)
      rw [Int.sub_mul, Int.mul_sub, Int.mul_sub] at z
      omega
theorem dot_sort : ∀ (cs ys : List Int), cs.Pairwise (fun a b => b ≤ a) → cs.length = ys.length → dot cs (isortI ys) ≤ dot cs ys
  | [], [], _, _ => Int.le_refl _
  | [], _ :: _, _, h => by cases h
  | _ :: _, [], _, h => by cases h
  | c :: cs, y :: ys, hs, hl => by
    have ih := dot_sort cs ys (List.pairwise_cons.mp hs).2 (by simpa using hl)
    have z := dot_ins y cs (isortI ys) c hs (by rw [(isortI_perm ys).length_eq]; simpa using hl)
    rw [dot_cons] at z ⊢
    show dot (c :: cs) (insI y (isortI ys)) ≤ _
    omega
/-- so many parts leave so much, if anything is left -/
theorem gap (m : Nat) : ∀ p : List Nat, p.Pairwise (fun a b => b ≤ a) → (∀ x ∈ p, x ≤ m) → krD m p < 2 ^ m → krD m p + 2 ^ (m - p.length) ≤ 2 ^ m
  | [], _, _, _ => by simp [krD]
  | x :: p, hs, hb, hk => by
    obtain ⟨h1, h2⟩ := List.pairwise_cons.mp hs
    rw [krD_cons] at hk ⊢
    have ih := gap m p h2 (fun y hy => hb y (.tail _ hy)) (Nat.lt_of_le_of_lt (Nat.le_add_left _ _) hk)
    have hx := hb x (.head _)
    obtain ⟨a, ha⟩ : ∃ a, krD m p = a * 2 ^ (m - x) := by
      clear ih hk hs h2 hb
      induction p with
      | nil => exact ⟨0, by simp [krD]⟩
      | cons y p ih =>
        obtain ⟨a, ha⟩ := ih fun z hz => h1 z (.tail _ hz)
        have hy := h1 y (.head _)
        refine ⟨2 ^ (x - y) + a, ?_⟩
        rw [krD_cons, ha, Nat.add_mul, ← Nat.pow_add, show x - y + (m - x) = m - y by omega]
    have e2 : 2 ^ m = 2 ^ x * 2 ^ (m - x) := by rw [← Nat.pow_add]; congr 1; omega
    have hpos := Nat.two_pow_pos (m - x)
    -- what is left is a multiple of the least part
    have hgap : 2 ^ (m - x) + krD m p + 2 ^ (m - x) ≤ 2 ^ m := by
      rw [ha, e2] at hk ⊢
      have z : (1 + a) * 2 ^ (m - x) < 2 ^ x * 2 ^ (m - x) := by rw [Nat.add_mul, Nat.one_mul]; exact hk
      have z2 : 1 + a < 2 ^ x := Nat.lt_of_mul_lt_mul_right z
      have z3 : (1 + a + 1) * 2 ^ (m - x) ≤ 2 ^ x * 2 ^ (m - x) := Nat.mul_le_mul_right _ z2
      rw [Nat.add_mul, Nat.add_mul, Nat.one_mul] at z3
      exact z3
    rw [List.length_cons]
    by_cases c : p.length + 1 ≤ m
    · have e3 : 2 ^ (m - p.length) = 2 * 2 ^ (m - (p.length + 1)) := by
        rw [show m - p.length = m - (p.length + 1) + 1 by omega, Nat.pow_succ, Nat.mul_comm]
      omega
    · rw [show m - (p.length + 1) = 0 by omega, Nat.pow_zero]
      omega
theorem krD_app (m : Nat) (a b : List Nat) : krD m (a ++ b) = krD m a + krD m b := by
  unfold krD
  rw [List.map_append, List.sum_append]
theorem krD_const (m k : Nat) : ∀ t, krD m (List.replicate t k) = t * 2 ^ (m - k)
  | 0 => by simp [krD]
  | t + 1 => by
    rw [List.replicate_succ, krD_cons, krD_const m k t, Nat.succ_mul]
    omega
theorem krD_perm {m : Nat} {a b : List Nat} (h : a.Perm b) : krD m a = krD m b := (h.map _).sum_nat
theorem lt_two_pow : ∀ t : Nat, t ≤ 2 ^ t
  | 0 => by decide
  | t + 1 => by
    have := lt_two_pow t
    rw [Nat.pow_succ]
    have := Nat.two_pow_pos t
    omega
theorem le_sumN {x : Nat} : ∀ {l : List Nat}, x ∈ l → x ≤ l.sum
  | y :: l, h => by
    rw [List.sum_cons]
    rcases List.mem_cons.mp h with rfl | h
    · omega
    · have := le_sumN h
      omega
/-- none need be longer than there are things -/
theorem cap {m : Nat} {l : List Nat} (hs : l.Pairwise (fun a b => b ≤ a)) (hb : ∀ x ∈ l, x ≤ m) (hk : krD m l ≤ 2 ^ m) (hn : l.length ≤ m) : krD l.length (l.map fun x => min x l.length) ≤ 2 ^ l.length := by
  have key : krD m (l.map fun x => min x l.length) ≤ 2 ^ m := by
    obtain ⟨q, hq⟩ : ∃ q, q = l.filter fun x => decide (l.length < x) := ⟨_, rfl⟩
    obtain ⟨p, hp⟩ : ∃ p, p = l.filter fun x => !decide (l.length < x) := ⟨_, rfl⟩
    have hperm : l.Perm (q ++ p) := by rw [hq, hp]; exact (List.filter_append_perm _ l).symm
    have hlen := hperm.length_eq
    rw [List.length_append] at hlen
    have e1 : q.map (fun x => min x l.length) = List.replicate q.length l.length := by
      rw [List.eq_replicate_iff]
      refine ⟨by rw [List.length_map], fun b hb => ?_⟩
      obtain ⟨x, hx, rfl⟩ := List.mem_map.mp hb
      rw [hq] at hx
      have := (List.mem_filter.mp hx).2
      rw [decide_eq_true_eq] at this
      omega
    have e2 : p.map (fun x => min x l.length) = p := by
      conv => rhs; rw [← List.map_id p]
      apply List.map_congr_left
      intro x hx
      rw [hp] at hx
      have := (List.mem_filter.mp hx).2
      simp at this
      show min x l.length = x
      omega
    rw [krD_perm (hperm.map _), List.map_append, e1, e2, krD_app, krD_const]
    rw [krD_perm hperm, krD_app] at hk
    by_cases c : q = []
    · rw [c] at hk ⊢
      simp [krD] at hk ⊢
      exact hk
    · obtain ⟨x, hx⟩ := List.exists_mem_of_ne_nil q c
      have hqp : 0 < krD m q := by
        have : 2 ^ (m - x) ∈ q.map fun e => 2 ^ (m - e) := List.mem_map_of_mem hx
        have := le_sumN this
        have := Nat.two_pow_pos (m - x)
        unfold krD
        omega
      have hpsub : p.Sublist l := hp ▸ List.filter_sublist
      have g := gap m p (hs.sublist hpsub) (fun y hy => hb y (hpsub.subset hy)) (by omega)
      have z : q.length * 2 ^ (m - l.length) ≤ 2 ^ (m - p.length) := by
        rw [show m - p.length = q.length + (m - l.length) by omega, Nat.pow_add]
        exact Nat.mul_le_mul_right _ (lt_two_pow _)
      omega
  have e : krD m (l.map fun x => min x l.length) = krD l.length (l.map fun x => min x l.length) * 2 ^ (m - l.length) := by
    unfold krD
    rw [List.map_map, List.map_map]
    generalize hL : l.length = L at *
    clear hs hb hk key hL
    induction l with
    | nil => simp
    | cons x l ih =>
      rw [List.map_cons, List.map_cons, List.sum_cons, List.sum_cons, ih, Nat.add_mul]
      congr 1
      show 2 ^ (m - min x L) = 2 ^ (L - min x L) * 2 ^ (m - L)
      rw [← Nat.pow_add]
      congr 1
      omega
  rw [e, show 2 ^ m = 2 ^ l.length * 2 ^ (m - l.length) by rw [← Nat.pow_add]; congr 1; omega] at key
  exact Nat.le_of_mul_le_mul_right key (Nat.two_pow_pos _)
/-! ### the law's least is the told lengths' cost -/
def ordC (ns : List Int) : List Nat := (idxOf ns).mergeSort fun p q => decide (ns.getD q 0 ≤ ns.getD p 0)
theorem ordC_perm (ns : List Int) : (ordC ns).Perm (idxOf ns) := List.mergeSort_perm _ _
theorem ordC_sorted (ns : List Int) : ((ordC ns).map fun p => ns.getD p 0).Pairwise (fun a b => b ≤ a) := by
  have h := List.pairwise_mergeSort (le := fun p q : Nat => decide (ns.getD q 0 ≤ ns.getD p 0)) (fun a b c h1 h2 => by simp only [decide_eq_true_eq] at *; omega) (fun a b => by simp only [Bool.or_eq_true, decide_eq_true_eq]; omega) (idxOf ns)
  refine List.pairwise_map.mpr (h.imp fun h => by simpa using h)
theorem map_of {o : List Nat} (hn : o.Nodup) {r : List Int} (h : r.length = o.length) : o.map (fun p => r.getD (o.idxOf p) 0) = r := by
  apply List.ext_getElem
  · simp [h]
  · intro i h1 h2
    rw [List.getElem_map]
    have z : o.idxOf (o[i]'(by simpa using h1)) = i := hn.idxOf_getElem i _
    rw [z]
    simp [h2]
theorem dot_map (l : List Nat) (f g : Nat → Int) : dot (l.map f) (l.map g) = (l.map fun p => f p * g p).sum := by
  unfold dot
  rw [List.zip_map', List.map_map]
  rfl
theorem least_dp {ns ls : List Int} {m : Nat} (O : LenOk ns m ls) (hm : 1 ≤ m) {cs : List Int} (hp : cs.Perm (ns.filter fun n => decide (0 < n))) (hd : cs.Pairwise (fun a b => b ≤ a)) (h1 : 1 ≤ cs.length) :
    ∃ v, dp (cs.length + 1) (min m cs.length - 1) cs 2 = some v ∧ cs.sum + v = ((idxOf ns).map fun p => ns.getD p 0 * ls.getD p 0).sum := by
  have hcs : cs = (ordC ns).map fun p => ns.getD p 0 := by
    refine List.Perm.eq_of_pairwise (le := fun a b : Int => b ≤ a) (fun a b _ _ h1 h2 => Int.le_antisymm h2 h1) hd (ordC_sorted ns) (hp.trans ?_)
    rw [com_idx]
    exact ((ordC_perm ns).map _).symm
  have hn : (ordC ns).Nodup := (ordC_perm ns).nodup_iff.mpr (idx_nodup ns)
  have hol : (ordC ns).length = cs.length := by rw [hcs, List.length_map]
  have hin : ∀ p, p ∈ ordC ns ↔ p ∈ idxOf ns := fun p => (ordC_perm ns).mem_iff
  have hc0 : ∀ c ∈ cs, 0 ≤ c := fun c hc => by
    have := (List.mem_filter.mp (hp.mem_iff.mp hc)).2
    rw [decide_eq_true_eq] at this
    omega
  have hsum : ∀ g : Nat → Int, ((idxOf ns).map g).sum = ((ordC ns).map g).sum := fun g => perm_sum (((ordC_perm ns).map g).symm)
  have hcost : ∀ g : Nat → Int, ((idxOf ns).map fun p => ns.getD p 0 * g p).sum = dot cs ((ordC ns).map g) := fun g => by rw [hsum, hcs, dot_map]
  obtain ⟨M, hM⟩ : ∃ M, M = min m cs.length := ⟨_, rfl⟩
  have hM1 : 1 ≤ M := by omega
  have hMm : M - 1 + 1 = M := by omega
  rw [← hM]
  -- the told ones, in order and capped
  obtain ⟨y, hy⟩ : ∃ y, y = (ordC ns).map fun p => ls.getD p 0 := ⟨_, rfl⟩
  have hyl : y.length = cs.length := by rw [hy, List.length_map, hol]
  have hyb : ∀ x ∈ y, 1 ≤ x ∧ x ≤ ((m : Nat) : Int) := fun x hx => by
    rw [hy] at hx
    obtain ⟨p, hp, rfl⟩ := List.mem_map.mp hx
    exact O.pos p ((hin p).mp hp)
  obtain ⟨s, hs⟩ : ∃ s, s = isortI y := ⟨_, rfl⟩
  have hsp : s.Perm y := hs ▸ isortI_perm y
  have hss : s.Pairwise (· ≤ ·) := hs ▸ isortI_sorted y
  have hsl : s.length = cs.length := by rw [hsp.length_eq, hyl]
  have hsb : ∀ x ∈ s, 1 ≤ x ∧ x ≤ ((m : Nat) : Int) := fun x hx => hyb x (hsp.mem_iff.mp hx)
  have hsk : krD m (s.map Int.toNat) ≤ 2 ^ m := by
    rw [krD_perm (hsp.map _), hy, List.map_map]
    have k := O.kraft
    have e := (((ordC_perm ns).map (fun k => 2 ^ (m - (ls.getD k 0).toNat)))).sum_nat
    rw [← e] at k
    unfold krD
    rw [List.map_map]
    exact k
  have hcap : krD M (s.map fun x => min x.toNat M) ≤ 2 ^ M := by
    by_cases c : cs.length ≤ m
    · have eM : M = (s.map Int.toNat).length := by rw [List.length_map, hsl]; omega
      have z := cap (m := m) (l := (s.map Int.toNat).reverse) (List.pairwise_reverse.mpr (List.pairwise_map.mpr (hss.imp fun h => by omega))) (fun x hx => by
        obtain ⟨w, hw, rfl⟩ := List.mem_map.mp (List.mem_reverse.mp hx)
        have := hsb w hw
        omega) (by rw [krD_perm (List.reverse_perm _)]; exact hsk) (by rw [List.length_reverse, List.length_map, hsl]; exact c)
      rw [List.length_reverse, ← eM, krD_perm ((List.reverse_perm _).map _), List.map_map] at z
      exact z
    · have eM : M = m := by omega
      rw [eM]
      have e : (s.map fun x => min x.toNat m) = s.map Int.toNat := by
        apply List.map_congr_left
        intro x hx
        have := hsb x hx
        omega
      rw [e]
      exact hsk
  obtain ⟨v, hv, hvle⟩ := dp_least (cs.length + 1) (M - 1) cs 2 (s.map fun x => min x.toNat M - 1) (by omega) (by rw [List.length_map, hsl]) (List.pairwise_map.mpr (hss.imp fun h => by omega)) (fun e he => by
      obtain ⟨x, hx, rfl⟩ := List.mem_map.mp he
      omega) (by
      have z := krD_down (M - 1) (es := s.map fun x => min x.toNat M) fun e he => by
        obtain ⟨x, hx, rfl⟩ := List.mem_map.mp he
        have := hsb x hx
        omega
      rw [List.map_map, hMm] at z
      have z2 : krD (M - 1) (s.map fun x => min x.toNat M - 1) = krD M (s.map fun x => min x.toNat M) := z
      rw [z2]
      refine Nat.le_trans hcap (Nat.le_of_eq ?_)
      rw [Nat.mul_comm, ← Nat.pow_succ, Nat.succ_eq_add_one, hMm]) hc0
  refine ⟨v, hv, ?_⟩
  have hup := dotN_up (cs := cs) (es := s.map fun x => min x.toNat M - 1) (by rw [List.length_map, hsl])
  have e1 : ((s.map fun x => min x.toNat M - 1).map (· + 1)).map (fun e : Nat => ((e : Nat) : Int)) = s.map fun x => min x ((M : Nat) : Int) := by
    rw [List.map_map, List.map_map]
    apply List.map_congr_left
    intro x hx
    have := hsb x hx
    show ((min x.toNat M - 1 + 1 : Nat) : Int) = _
    omega
  have mono : ∀ {cs a b : List Int}, (∀ c ∈ cs, 0 ≤ c) → a.length = b.length → (∀ p ∈ a.zip b, p.1 ≤ p.2) → dot cs a ≤ dot cs b := fun {cs a b} => by
    induction cs generalizing a b with
    | nil => intro _ _ _; simp [dot]
    | cons c cs ih =>
      intro hc hl hab
      cases a with
      | nil => cases b with
        | nil => exact Int.le_refl _
        | cons _ _ => cases hl
      | cons x a => cases b with
        | nil => cases hl
        | cons y b =>
          have z := ih (a := a) (b := b) (fun c hc' => hc c (.tail _ hc')) (by simpa using hl) (fun p hp => hab p (.tail _ hp))
          have w : c * x ≤ c * y := Int.mul_le_mul_of_nonneg_left (hab (x, y) (.head _)) (hc c (.head _))
          rw [dot_cons, dot_cons]
          omega
  have upper : cs.sum + v ≤ dot cs y := by
    have z1 := dot_sort cs y hd hyl.symm
    rw [← hs] at z1
    have z2 : dot cs (s.map fun x => min x ((M : Nat) : Int)) ≤ dot cs s := mono hc0 (by rw [List.length_map]) fun p hp => by
      have e : (s.map fun x => min x ((M : Nat) : Int)).zip s = s.map fun x => (min x ((M : Nat) : Int), x) := by
        conv => lhs; rw [← List.map_id s]
        rw [List.map_map, List.zip_map']
        rfl
      rw [e] at hp
      obtain ⟨x, _, rfl⟩ := List.mem_map.mp hp
      exact Int.min_le_left _ _
    unfold dotN at hup
    rw [e1] at hup
    unfold dotN at hvle
    omega
  obtain ⟨es, l1, l2, l3, l4⟩ := dp_sound (cs.length + 1) (M - 1) cs 2 v hv
  have lower : ((idxOf ns).map fun p => ns.getD p 0 * ls.getD p 0).sum ≤ cs.sum + v := by
    obtain ⟨E, hE⟩ : ∃ E, E = (es.map (· + 1)).map fun e : Nat => ((e : Nat) : Int) := ⟨_, rfl⟩
    have hg := map_of hn (r := E) (by rw [hE, List.length_map, List.length_map, l1, hol])
    have hgb : ∀ p ∈ idxOf ns, ∃ e ∈ es, E.getD ((ordC ns).idxOf p) 0 = ((e + 1 : Nat) : Int) := fun p hp => by
      have z := List.mem_map_of_mem (f := fun p => E.getD ((ordC ns).idxOf p) 0) ((hin p).mpr hp)
      rw [hg] at z
      have z2 : E.getD ((ordC ns).idxOf p) 0 ∈ (es.map (· + 1)).map fun e : Nat => ((e : Nat) : Int) := by rw [← hE]; exact z
      obtain ⟨e2, he2, h⟩ := List.mem_map.mp z2
      obtain ⟨e, he, rfl⟩ := List.mem_map.mp he2
      exact ⟨e, he, h.symm⟩
    have l := O.least (fun p => (E.getD ((ordC ns).idxOf p) 0).toNat) (fun p hp => by
        obtain ⟨e, he, h⟩ := hgb p hp
        have := l2 e he
        rw [h]
        omega) (by
        have e := (((ordC_perm ns).map (fun p => 2 ^ (m - (E.getD ((ordC ns).idxOf p) 0).toNat)))).sum_nat
        rw [← e]
        have e3 : (ordC ns).map (fun p => 2 ^ (m - (E.getD ((ordC ns).idxOf p) 0).toNat)) = ((ordC ns).map (fun p => E.getD ((ordC ns).idxOf p) 0)).map fun x => 2 ^ (m - x.toNat) := by
          rw [List.map_map]
          rfl
        rw [e3, hg]
        have e4 : (E.map fun x : Int => 2 ^ (m - x.toNat)).sum = krD (M - 1) es * 2 ^ (m - M) := by
          rw [hE]
          unfold krD
          clear l1 l3 l4 hg hgb e e3 hE
          induction es with
          | nil => simp
          | cons a es ih =>
            have := l2 a (.head _)
            rw [List.map_cons, List.map_cons, List.map_cons, List.sum_cons, List.map_cons, List.sum_cons, ih fun e he => l2 e (.tail _ he), Nat.add_mul]
            congr 1
            show 2 ^ (m - (((a + 1 : Nat) : Int)).toNat) = 2 ^ (M - 1 - a) * 2 ^ (m - M)
            rw [← Nat.pow_add, Int.toNat_natCast]
            congr 1
            omega
        rw [e4]
        refine Nat.le_trans (Nat.mul_le_mul_right _ l3) (Nat.le_of_eq ?_)
        rw [Nat.mul_comm 2, ← Nat.pow_succ, ← Nat.pow_add]
        congr 1
        omega)
    refine Int.le_trans l (Int.le_of_eq ?_)
    have e5 : ((idxOf ns).map fun p => ns.getD p 0 * ((E.getD ((ordC ns).idxOf p) 0).toNat : Int)) = (idxOf ns).map fun p => ns.getD p 0 * E.getD ((ordC ns).idxOf p) 0 := by
      apply List.map_congr_left
      intro p hp
      obtain ⟨e, he, h⟩ := hgb p hp
      rw [h]
      rfl
    rw [e5, hcost, hg, hE]
    have := dotN_up (cs := cs) (es := es) l1.symm
    unfold dotN at this l4
    omega
  have e6 := hcost fun p => ls.getD p 0
  rw [← hy] at e6
  omega
/-! ### alike counts -/
theorem worth_bound (m b l : Nat) (h1 : m < 13) (h2 : l < 13) (h3 : b < 6) (hl : l ≤ m) (hb : b ≤ m) : 2 ^ (m - b) * (b + 1) ≤ 2 ^ (m - l) + 2 ^ (m - b) * l ∧ (2 ^ (m - b) * (b + 1) = 2 ^ (m - l) + 2 ^ (m - b) * l → l ≤ b) := by
  have z : ∀ (m : Fin 13) (l : Fin 13) (b : Fin 6), l.val ≤ m.val → b.val ≤ m.val → 2 ^ (m.val - b.val) * (b.val + 1) ≤ 2 ^ (m.val - l.val) + 2 ^ (m.val - b.val) * l.val ∧ (2 ^ (m.val - b.val) * (b.val + 1) = 2 ^ (m.val - l.val) + 2 ^ (m.val - b.val) * l.val → l.val ≤ b.val) := by decide +kernel
  exact z ⟨m, h1⟩ ⟨l, h2⟩ ⟨b, h3⟩ hl hb
theorem worth_bound2 (b l : Nat) (h2 : l < 7) (h3 : b < 6) : 2 ^ (6 - b) * (b + 2) ≤ 2 * 2 ^ (6 - l) + 2 ^ (6 - b) * l ∧ (2 ^ (6 - b) * (b + 2) = 2 * 2 ^ (6 - l) + 2 ^ (6 - b) * l → l = b ∨ l = b + 1) := by
  have z : ∀ (l : Fin 7) (b : Fin 6), 2 ^ (6 - b.val) * (b.val + 2) ≤ 2 * 2 ^ (6 - l.val) + 2 ^ (6 - b.val) * l.val ∧ (2 ^ (6 - b.val) * (b.val + 2) = 2 * 2 ^ (6 - l.val) + 2 ^ (6 - b.val) * l.val → l.val = b.val ∨ l.val = b.val + 1) := by decide +kernel
  exact z ⟨l, h2⟩ ⟨b, h3⟩
theorem tight {g : Nat} {f : Nat → Nat} : ∀ {ls : List Nat}, (∀ l ∈ ls, g ≤ f l) → (ls.map f).sum ≤ ls.length * g → ∀ l ∈ ls, f l = g
  | x :: ls, h, hs, l, hl => by
    rw [List.map_cons, List.sum_cons, List.length_cons, Nat.succ_mul] at hs
    have hx := h x (.head _)
    have low : ls.length * g ≤ (ls.map f).sum := by
      have z := sum_le (f := fun _ => g) (g := f) (l := ls) fun y hy => h y (.tail _ hy)
      rw [sum_constN] at z
      exact z
    rcases List.mem_cons.mp hl with rfl | hl
    · omega
    · exact tight (fun y hy => h y (.tail _ hy)) (by omega) l hl
theorem sum_mulN (u : Nat) : ∀ ls : List Nat, (ls.map fun l => u * l).sum = u * ls.sum
  | [] => by simp
  | l :: ls => by rw [List.map_cons, List.sum_cons, sum_mulN u ls, List.sum_cons, Nat.mul_add]
theorem alike_all {b m : Nat} {ls : List Nat} (hm : m < 13) (hb : b < 6) (hbm : b ≤ m) (hl : ls.length = 2 ^ b) (h : ∀ l ∈ ls, l ≤ m) (hk : krD m ls ≤ 2 ^ m) (hs : ls.sum ≤ 2 ^ b * b) : ls = List.replicate (2 ^ b) b := by
  have e : 2 ^ m = 2 ^ (m - b) * 2 ^ b := by rw [← Nat.pow_add]; congr 1; omega
  have hsum : (ls.map fun l => 2 ^ (m - l) + 2 ^ (m - b) * l).sum = krD m ls + 2 ^ (m - b) * ls.sum := by rw [sum_addN, sum_mulN]; rfl
  have hmul : 2 ^ (m - b) * ls.sum ≤ 2 ^ (m - b) * (2 ^ b * b) := Nat.mul_le_mul_left _ hs
  have tot : ls.length * (2 ^ (m - b) * (b + 1)) = 2 ^ m + 2 ^ (m - b) * (2 ^ b * b) := by
    rw [hl, e, Nat.mul_add, Nat.mul_one, Nat.mul_add, ← Nat.mul_assoc, ← Nat.mul_assoc, Nat.mul_comm (2 ^ b) (2 ^ (m - b))]
    omega
  have t := tight (g := 2 ^ (m - b) * (b + 1)) (f := fun l => 2 ^ (m - l) + 2 ^ (m - b) * l) (fun l hl => (worth_bound m b l hm (by have := h l hl; omega) hb (h l hl) hbm).1) (by rw [hsum, tot]; omega)
  have hle : ∀ l ∈ ls, l ≤ b := fun l hl => (worth_bound m b l hm (by have := h l hl; omega) hb (h l hl) hbm).2 (t l hl).symm
  have hsum2 : (ls.map fun l => 2 ^ (m - l) + 2 ^ (m - b) * l).sum = ls.length * (2 ^ (m - b) * (b + 1)) := by
    rw [List.map_congr_left (fun l hl => t l hl), sum_constN]
  have hge : 2 ^ b * b ≤ ls.sum := by
    have z : 2 ^ (m - b) * (2 ^ b * b) ≤ 2 ^ (m - b) * ls.sum := by omega
    exact Nat.le_of_mul_le_mul_left z (Nat.two_pow_pos _)
  rw [← hl]
  refine List.eq_replicate_iff.mpr ⟨rfl, ?_⟩
  have key : ∀ ls : List Nat, (∀ l ∈ ls, l ≤ b) → ls.length * b ≤ ls.sum → ∀ l ∈ ls, l = b := fun ls => by
    induction ls with
    | nil => intro _ _ l hl; cases hl
    | cons x ls ih =>
      intro h hs l hl
      rw [List.length_cons, Nat.succ_mul, List.sum_cons] at hs
      have hx := h x (.head _)
      have up : ls.sum ≤ ls.length * b := by
        have z := sum_le (f := fun l => l) (g := fun _ => b) (l := ls) fun y hy => h y (.tail _ hy)
        rw [sum_constN, List.map_id'] at z
        exact z
      rcases List.mem_cons.mp hl with rfl | hl
      · omega
      · exact ih (fun y hy => h y (.tail _ hy)) (by omega) l hl
  exact key ls hle (by rw [hl]; exact hge)
theorem alike_more {b : Nat} {ls : List Nat} (hb : b < 6) (hl : ls.length = 2 ^ b + 1) (h : ∀ l ∈ ls, l ≤ 6) (hk : krD 6 ls ≤ 2 ^ 6) (hs : ls.sum ≤ (2 ^ b + 1) * b + 2) : (∀ l ∈ ls, l = b ∨ l = b + 1) ∧ ls.sum = (2 ^ b + 1) * b + 2 := by
  have e : 2 ^ 6 = 2 ^ (6 - b) * 2 ^ b := by rw [← Nat.pow_add]; congr 1; omega
  have hsum : (ls.map fun l => 2 * 2 ^ (6 - l) + 2 ^ (6 - b) * l).sum = 2 * krD 6 ls + 2 ^ (6 - b) * ls.sum := by
    rw [sum_addN (fun l => 2 * 2 ^ (6 - l)), sum_mulN]
    have z := sum_mulN 2 (ls.map fun l => 2 ^ (6 - l))
    rw [List.map_map] at z
    unfold krD
    rw [← z]
    rfl
  have hmul : 2 ^ (6 - b) * ls.sum ≤ 2 ^ (6 - b) * ((2 ^ b + 1) * b + 2) := Nat.mul_le_mul_left _ hs
  have tot : ls.length * (2 ^ (6 - b) * (b + 2)) = 2 * 2 ^ 6 + 2 ^ (6 - b) * ((2 ^ b + 1) * b + 2) := by
    rw [hl]
    have z : ∀ b : Fin 6, (2 ^ b.val + 1) * (2 ^ (6 - b.val) * (b.val + 2)) = 2 * 2 ^ 6 + 2 ^ (6 - b.val) * ((2 ^ b.val + 1) * b.val + 2) := by decide +kernel
    exact z ⟨b, hb⟩
  have t := tight (g := 2 ^ (6 - b) * (b + 2)) (f := fun l => 2 * 2 ^ (6 - l) + 2 ^ (6 - b) * l) (fun l hl => (worth_bound2 b l (by have := h l hl; omega) hb).1) (by rw [hsum, tot]; omega)
  refine ⟨fun l hl => (worth_bound2 b l (by have := h l hl; omega) hb).2 (t l hl).symm, ?_⟩
  have hsum2 : (ls.map fun l => 2 * 2 ^ (6 - l) + 2 ^ (6 - b) * l).sum = ls.length * (2 ^ (6 - b) * (b + 2)) := by
    rw [List.map_congr_left (fun l hl => t l hl), sum_constN]
  have z : 2 ^ (6 - b) * ((2 ^ b + 1) * b + 2) ≤ 2 ^ (6 - b) * ls.sum := by omega
  have := Nat.le_of_mul_le_mul_left z (Nat.two_pow_pos _)
  omega
theorem two_kinds {b : Int} : ∀ {ms : List Int} {j : Nat}, ms.Pairwise (· ≤ ·) → (∀ l ∈ ms, l = b ∨ l = b + 1) → ms.sum = ((ms.length : Nat) : Int) * b + ((j : Nat) : Int) → j ≤ ms.length → ms = List.replicate (ms.length - j) b ++ List.replicate j (b + 1)
  | [], j, _, _, _, hj => by
    have : j = 0 := by simpa using hj
    subst this
    rfl
  | x :: ms, j, hs, h, hsum, hj => by
    obtain ⟨h1, h2⟩ := List.pairwise_cons.mp hs
    rw [List.sum_cons, List.length_cons] at hsum
    push_cast at hsum
    rw [Int.add_mul, Int.one_mul] at hsum
    have up : ms.sum ≤ ((ms.length : Nat) : Int) * b + ((ms.length : Nat) : Int) := by
      have key : ∀ ms : List Int, (∀ l ∈ ms, l = b ∨ l = b + 1) → ms.sum ≤ ((ms.length : Nat) : Int) * b + ((ms.length : Nat) : Int) := fun ms => by
        induction ms with
        | nil => intro _; simp
        | cons y ms ih =>
          intro h
          have := ih fun l hl => h l (.tail _ hl)
          have := h y (.head _)
          rw [List.sum_cons, List.length_cons]
          push_cast
          rw [Int.add_mul, Int.one_mul]
          omega
      exact key ms fun l hl => h l (.tail _ hl)
    rcases h x (.head _) with rfl | hx
    · by_cases c : j ≤ ms.length
      · have ih := two_kinds (j := j) h2 (fun l hl => h l (.tail _ hl)) (by omega) c
        rw [List.length_cons, show ms.length + 1 - j = ms.length - j + 1 by omega, List.replicate_succ, List.cons_append, ← ih]
      · rw [List.length_cons] at hj
        omega
    · have all : ∀ l ∈ ms, l = b + 1 := fun l hl => by
        have a1 := h1 l hl
        have a2 := h l (.tail _ hl)
        omega
      have hsm : ms.sum = ((ms.length : Nat) : Int) * b + ((ms.length : Nat) : Int) := by
        have key : ∀ ms : List Int, (∀ l ∈ ms, l = b + 1) → ms.sum = ((ms.length : Nat) : Int) * b + ((ms.length : Nat) : Int) := fun ms => by
          induction ms with
          | nil => intro _; simp
          | cons y ms ih =>
            intro h
            have := ih fun l hl => h l (.tail _ hl)
            have := h y (.head _)
            rw [List.sum_cons, List.length_cons]
            push_cast
            rw [Int.add_mul, Int.one_mul]
            omega
        exact key ms all
      have ej : j = ms.length + 1 := by omega
      rw [List.length_cons, ej, Nat.sub_self, List.replicate_zero, List.nil_append]
      refine List.eq_replicate_iff.mpr ⟨rfl, fun l hl => ?_⟩
      rcases List.mem_cons.mp hl with rfl | hl
      · exact hx
      · exact all l hl
theorem cost_rep (c : Int) : ∀ (n : Nat) (r : List Int), r.length = n → costR (List.replicate n c) r = c * r.sum
  | 0, r, h => by
    rw [List.length_eq_zero_iff.mp h]
    simp [costR]
  | n + 1, [], h => by cases h
  | n + 1, x :: r, h => by
    have ih := cost_rep c n r (by simpa using h)
    unfold costR at ih ⊢
    rw [List.replicate_succ, List.zip_cons_cons, List.map_cons, List.sum_cons, ih, List.sum_cons, Int.mul_add]
/-- of alike counts: what is asked of the lengths as a row -/
theorem alike_row {n m : Nat} {c : Int} {ls : List Int} (hc : 0 < c) (O : LenOk (List.replicate n c) m ls) : ls.length = n ∧ (∀ l ∈ ls, 1 ≤ l ∧ l ≤ ((m : Nat) : Int)) ∧ krD m (ls.map Int.toNat) ≤ 2 ^ m ∧ ∀ r ∈ goodRows m n, ls.sum ≤ r.sum := by
  have hl : ls.length = n := by rw [O.len, List.length_replicate]
  have hfil : (List.replicate n c).filter (fun n => decide (0 < n)) = List.replicate n c := List.filter_eq_self.mpr fun x hx => by rw [List.eq_of_mem_replicate hx]; simpa using hc
  have hix : (idxOf (List.replicate n c)).length = n := by
    have z := congrArg List.length (com_idx (List.replicate n c))
    rw [hfil, List.length_map, List.length_replicate] at z
    exact z.symm
  have hrow : (idxOf (List.replicate n c)).map (fun p => ls.getD p 0) = ls := by
    rw [← row_idx (by rw [hl, List.length_replicate]), List.filter_eq_self.mpr, List.map_snd_zip (by rw [hl, List.length_replicate]; exact Nat.le_refl _)]
    intro p hp
    rw [List.eq_of_mem_replicate (List.of_mem_zip hp).1]
    simpa using hc
  obtain ⟨G1, G2⟩ := rows_least O
  rw [hix, hfil, hrow] at G2
  rw [hix, hrow] at G1
  refine ⟨hl, fun l hl => ?_, ?_, fun r hr => ?_⟩
  · rw [← hrow] at hl
    obtain ⟨p, hp, rfl⟩ := List.mem_map.mp hl
    exact O.pos p hp
  · have k := (List.mem_filter.mp G1).2
    rw [decide_eq_true_eq] at k
    unfold krD
    rw [List.map_map]
    exact k
  · have z := G2 r hr
    rw [cost_rep c n ls hl, cost_rep c n r (mem_rowsR.mp (List.mem_filter.mp hr).1).1] at z
    exact Int.le_of_mul_le_mul_left z hc
theorem sum_toNat : ∀ {ls : List Int}, (∀ l ∈ ls, 0 ≤ l) → (((ls.map Int.toNat).sum : Nat) : Int) = ls.sum
  | [], _ => rfl
  | l :: ls, h => by
    have ih := sum_toNat (ls := ls) fun x hx => h x (.tail _ hx)
    have := h l (.head _)
    rw [List.map_cons, List.sum_cons, List.sum_cons]
    push_cast
    omega
theorem alike1 {b m : Nat} {c : Int} {ls : List Int} (hc : 0 < c) (hb1 : 1 ≤ b) (hb : b < 6) (hbm : b ≤ m) (hm : m < 13) (O : LenOk (List.replicate (2 ^ b) c) m ls) : ls = List.replicate (2 ^ b) ((b : Nat) : Int) := by
  obtain ⟨h1, h2, h3, h4⟩ := alike_row hc O
  have hr : List.replicate (2 ^ b) ((b : Nat) : Int) ∈ goodRows m (2 ^ b) := by
    refine List.mem_filter.mpr ⟨mem_rowsR.mpr ⟨List.length_replicate .., fun x hx => by rw [List.eq_of_mem_replicate hx]; omega⟩, ?_⟩
    rw [decide_eq_true_eq]
    unfold worthR
    rw [List.map_replicate, List.sum_replicate_nat, Int.toNat_natCast, ← Nat.pow_add]
    exact Nat.pow_le_pow_right (by decide) (by omega)
  have hs := h4 _ hr
  have e1 := sum_toNat (ls := ls) fun l hl => by have := h2 l hl; omega
  have e2 : (List.replicate (2 ^ b) ((b : Nat) : Int)).sum = ((2 ^ b * b : Nat) : Int) := by
    generalize 2 ^ b = N
    induction N with
    | zero => simp
    | succ N ih => rw [List.replicate_succ, List.sum_cons, ih, Nat.succ_mul]; push_cast; omega
  have z := alike_all (b := b) (m := m) (ls := ls.map Int.toNat) hm hb hbm (by rw [List.length_map, h1]) (fun l hl => by
    obtain ⟨x, hx, rfl⟩ := List.mem_map.mp hl
    have := h2 x hx
    omega) h3 (by omega)
  rw [List.eq_replicate_iff] at z ⊢
  refine ⟨h1, fun l hl => ?_⟩
  have := z.2 l.toNat (List.mem_map_of_mem hl)
  have := h2 l hl
  omega
theorem alike2 {b : Nat} {c : Int} {ls ms : List Int} (hc : 0 < c) (hb1 : 1 ≤ b) (hb : b < 6) (O : LenOk (List.replicate (2 ^ b + 1) c) 6 ls) (hp : ms.Perm ls) (hs : ms.Pairwise (· ≤ ·)) : ms = List.replicate (2 ^ b - 1) ((b : Nat) : Int) ++ List.replicate 2 (((b : Nat) : Int) + 1) := by
  obtain ⟨h1, h2, h3, h4⟩ := alike_row hc O
  have hbp : 2 ≤ 2 ^ b := Nat.pow_le_pow_right (n := 2) (by decide) hb1
  have hr : List.replicate (2 ^ b - 1) ((b : Nat) : Int) ++ List.replicate 2 (((b : Nat) : Int) + 1) ∈ goodRows 6 (2 ^ b + 1) := by
    refine List.mem_filter.mpr ⟨mem_rowsR.mpr ⟨by rw [List.length_append, List.length_replicate, List.length_replicate]; omega, fun x hx => ?_⟩, ?_⟩
    · rcases List.mem_append.mp hx with hx | hx <;> (rw [List.eq_of_mem_replicate hx]; omega)
    · rw [decide_eq_true_eq]
      unfold worthR
      rw [List.map_append, List.sum_append, List.map_replicate, List.map_replicate, List.sum_replicate_nat, List.sum_replicate_nat, Int.toNat_natCast, show (((b : Nat) : Int) + 1).toNat = b + 1 by omega]
      have z : ∀ b : Fin 6, 1 ≤ b.val → (2 ^ b.val - 1) * 2 ^ (6 - b.val) + 2 * 2 ^ (6 - (b.val + 1)) ≤ 2 ^ 6 := by decide +kernel
      exact z ⟨b, hb⟩ hb1
  have hsm := h4 _ hr
  have e1 := sum_toNat (ls := ls) fun l hl => by have := h2 l hl; omega
  have key : ∀ (N : Nat) (x : Int), (List.replicate N x).sum = ((N : Nat) : Int) * x := fun N x => by
    induction N with
    | zero => simp
    | succ N ih => rw [List.replicate_succ, List.sum_cons, ih]; push_cast; rw [Int.add_mul, Int.one_mul]; omega
  have e2 : (List.replicate (2 ^ b - 1) ((b : Nat) : Int) ++ List.replicate 2 (((b : Nat) : Int) + 1)).sum = (((2 ^ b + 1) * b + 2 : Nat) : Int) := by
    rw [List.sum_append, key, key, Nat.add_mul, Nat.one_mul]
    rw [show ((2 ^ b - 1 : Nat) : Int) = ((2 ^ b : Nat) : Int) - 1 by omega, Int.sub_mul]
    push_cast
    omega
  obtain ⟨z1, z2⟩ := alike_more (b := b) (ls := ls.map Int.toNat) hb (by rw [List.length_map, h1]) (fun l hl => by
    obtain ⟨x, hx, rfl⟩ := List.mem_map.mp hl
    have := h2 x hx
    omega) h3 (by omega)
  have hml : ms.length = 2 ^ b + 1 := by rw [hp.length_eq, h1]
  have t := two_kinds (b := ((b : Nat) : Int)) (j := 2) hs (fun l hl => by
    have hl2 := hp.mem_iff.mp hl
    have a := z1 l.toNat (List.mem_map_of_mem hl2)
    have := h2 l hl2
    omega) (by
    rw [perm_sum hp, ← e1, z2, hml]
    push_cast
    omega) (by omega)
  rw [hml, show 2 ^ b + 1 - 2 = 2 ^ b - 1 by omega] at t
  exact t
/-! ### what the law sums up -/
theorem len_at {ns ls : List Int} {m i : Nat} {x y : Int} (O : LenOk ns m ls) (hx : ns[i]? = some x) (hy : ls[i]? = some y) : (0 < x → 1 ≤ y ∧ y ≤ ((m : Nat) : Int)) ∧ (¬ 0 < x → y = 0) := by
  have hi := (List.getElem?_eq_some_iff.mp hx).1
  have e1 : ns.getD i 0 = x := by rw [List.getD_eq_getElem?_getD, hx]; rfl
  have e2 : ls.getD i 0 = y := by rw [List.getD_eq_getElem?_getD, hy]; rfl
  rw [← e1, ← e2]
  exact ⟨fun h => O.pos i (mem_idx.mpr ⟨hi, h⟩), fun h => O.zero i fun z => h (mem_idx.mp z).2⟩
theorem sum_filterI {f : Int × Int → Int} : ∀ {z : List (Int × Int)}, (∀ p ∈ z, ¬ 0 < p.1 → f p = 0) → (z.map f).sum = ((z.filter fun p => decide (0 < p.1)).map f).sum
  | [], _ => rfl
  | p :: z, h => by
    have ih := sum_filterI (z := z) fun q hq => h q (.tail _ hq)
    rw [List.map_cons, List.sum_cons, ih, List.filter_cons]
    by_cases c : 0 < p.1
    · rw [if_pos (decide_eq_true c), List.map_cons, List.sum_cons]
    · rw [if_neg (by simpa using c), h p (.head _) c]
      omega
theorem sum_filterN {f : Int × Int → Nat} : ∀ {z : List (Int × Int)}, (∀ p ∈ z, ¬ 0 < p.1 → f p = 0) → (z.map f).sum = ((z.filter fun p => decide (0 < p.1)).map f).sum
  | [], _ => rfl
  | p :: z, h => by
    have ih := sum_filterN (z := z) fun q hq => h q (.tail _ hq)
    rw [List.map_cons, List.sum_cons, ih, List.filter_cons]
    by_cases c : 0 < p.1
    · rw [if_pos (decide_eq_true c), List.map_cons, List.sum_cons]
    · rw [if_neg (by simpa using c), h p (.head _) c]
      omega
def roomP (m : Nat) (p : Int × Int) : Nat := if 0 < p.2 then 2 ^ (m - p.2.toNat) else 0
theorem good_sums {ns ls : List Int} {m : Nat} (O : LenOk ns m ls) (h0 : ∀ u ∈ ns, 0 ≤ u) : costR ns ls = ((idxOf ns).map fun p => ns.getD p 0 * ls.getD p 0).sum ∧ ((ns.zip ls).map (roomP m)).sum ≤ 2 ^ m := by
  have hz : ∀ p ∈ ns.zip ls, ¬ 0 < p.1 → p.1 = 0 ∧ p.2 = 0 := fun p hp hn => by
    obtain ⟨i, hi, e⟩ := List.getElem_of_mem hp
    have e2 : (ns.zip ls)[i]? = some p := by rw [List.getElem?_eq_getElem hi, e]
    obtain ⟨a, b⟩ := List.getElem?_zip_eq_some.mp e2
    have := h0 p.1 (List.mem_of_getElem? a)
    exact ⟨by omega, (len_at O a b).2 hn⟩
  constructor
  · unfold costR
    rw [sum_filterI fun p hp hn => by rw [(hz p hp hn).1, Int.zero_mul], zip_comes O.len]
    unfold idxOf
    rw [List.map_map, List.map_map]
    congr 1
    apply List.map_congr_left
    intro p hp
    show p.1 * ls.getD p.2 0 = ns.getD p.2 0 * ls.getD p.2 0
    rw [(mem_comes hp).2.1]
  · rw [sum_filterN fun p hp hn => by unfold roomP; rw [(hz p hp hn).2, if_neg (by decide)], zip_comes O.len, List.map_map]
    have k := O.kraft
    unfold idxOf at k
    rw [List.map_map] at k
    refine Nat.le_trans (Nat.le_of_eq ?_) k
    congr 1
    apply List.map_congr_left
    intro p hp
    have hk : p.2 ∈ idxOf ns := List.mem_map_of_mem hp
    have := (O.pos p.2 hk).1
    show roomP m (p.1, ls.getD p.2 0) = 2 ^ (m - (ls.getD p.2 0).toNat)
    unfold roomP
    rw [if_pos (by show 0 < ls.getD p.2 0; omega)]
end L2.BR

namespace L2.BR
open PySem PySem.Spec PyProof.Rows L2.BP
/-! ### pieces as things -/
def thingP : Pc → Nat
  | .sign n => n.toNat
  | .copy _ s => 253 + s
def countsP (ps : List Pc) : List Int := addAt (List.replicate 272 0) ((ps.map thingP).map fun p => ((p : Nat) : Int))
def lensP (ps : List Pc) : List Int := lenOf (countsP ps) 6
theorem thing_lt {c : Pc} (h : Pc.ok c) : thingP c < 272 := by
  cases c with
  | sign n => obtain ⟨a, b⟩ := h; show n.toNat < 272; omega
  | copy b s => obtain ⟨_, _, _, d⟩ := h; show 253 + s < 272; omega
theorem countsP_len (ps : List Pc) : (countsP ps).length = 272 := by
  unfold countsP
  rw [addAt_length, List.length_replicate]
theorem countsP_get {ps : List Pc} (h : ∀ c ∈ ps, Pc.ok c) (k : Nat) : (countsP ps).getD k 0 = (((ps.map thingP).count k : Nat) : Int) := by
  unfold countsP
  rw [addAt_get _ _ _ fun p hp => by
    obtain ⟨c, hc, rfl⟩ := List.mem_map.mp hp
    rw [List.length_replicate]
    exact thing_lt (h c hc)]
  have z : (List.replicate 272 (0 : Int)).getD k 0 = 0 := by
    rw [List.getD_eq_getElem?_getD, List.getElem?_replicate]
    split <;> rfl
  rw [z, Int.zero_add]
theorem countsP_snoc (ps : List Pc) (c : Pc) : countsP (ps ++ [c]) = (countsP ps).set (thingP c) ((countsP ps).getD (thingP c) 0 + 1) := by
  unfold countsP
  rw [List.map_append, List.map_append]
  show addAt _ (_ ++ [((thingP c : Nat) : Int)]) = _
  rw [addAt_snoc, Int.toNat_natCast]
theorem nodup_sub : ∀ {l m : List Nat}, l.Nodup → (∀ x ∈ l, x ∈ m) → l.length ≤ m.length
  | [], _, _, _ => Nat.zero_le _
  | x :: l, m, hn, h => by
    obtain ⟨h1, h2⟩ := List.nodup_cons.mp hn
    have hx := h x (.head _)
    have ih := nodup_sub (l := l) (m := m.erase x) h2 fun y hy => by
      have hne : y ≠ x := fun z => h1 (z ▸ hy)
      exact (List.mem_erase_of_ne hne).mpr (h y (.tail _ hy))
    rw [List.length_erase_of_mem hx] at ih
    have := List.length_pos_of_mem hx
    rw [List.length_cons]
    omega
theorem counts_bound {ps : List Pc} (h : ∀ c ∈ ps, Pc.ok c) : ∀ n ∈ countsP ps, 0 ≤ n ∧ n ≤ ((ps.length : Nat) : Int) := fun n hn => by
  obtain ⟨i, hi, rfl⟩ := List.getElem_of_mem hn
  have z := countsP_get h i
  rw [List.getD_eq_getElem?_getD, List.getElem?_eq_getElem hi] at z
  simp only [Option.getD_some] at z
  rw [z]
  have := List.count_le_length (a := i) (l := ps.map thingP)
  rw [List.length_map] at this
  omega
theorem idx_counts {ps : List Pc} (h : ∀ c ∈ ps, Pc.ok c) (k : Nat) : k ∈ idxOf (countsP ps) ↔ k ∈ ps.map thingP := by
  rw [mem_idx, countsP_get h, countsP_len]
  constructor
  · rintro ⟨_, h2⟩
    exact List.count_pos_iff.mp (by omega)
  · intro hk
    have z := List.count_pos_iff.mpr hk
    obtain ⟨c, hc, rfl⟩ := List.mem_map.mp hk
    exact ⟨thing_lt (h c hc), by omega⟩
theorem idx_few {ps : List Pc} (h : ∀ c ∈ ps, Pc.ok c) (h1 : ps ≠ []) : 1 ≤ (idxOf (countsP ps)).length ∧ (idxOf (countsP ps)).length ≤ ps.length := by
  constructor
  · cases ps with
    | nil => exact absurd rfl h1
    | cons c ps => exact List.length_pos_of_mem ((idx_counts h (thingP c)).mpr (List.mem_map_of_mem (.head _)))
  · have z := nodup_sub (idx_nodup (countsP ps)) fun x hx => (idx_counts h x).mp hx
    rw [List.length_map] at z
    exact z
theorem counts_fine {ps : List Pc} (h : ∀ c ∈ ps, Pc.ok c) (h1 : ps ≠ []) (h64 : ps.length ≤ 64) : countsOk (.lst ((countsP ps).map V.int)) (.int ((6 : Nat) : Int)) = true ∧ LenOk (countsP ps) 6 (lensP ps) := by
  obtain ⟨i1, i2⟩ := idx_few h h1
  have hf : ((countsP ps).filter fun n => decide (0 < n)).length = (idxOf (countsP ps)).length := by rw [← singles_len, comes_len]
  refine ⟨counts_mk (by rw [countsP_len]; decide) (by rw [countsP_len]; decide) (fun n hn => ?_) (by decide) (by decide) (by omega) (by omega), len_ok _ 6 (by decide) i1 (by omega)⟩
  have := counts_bound h n hn
  omega
theorem lens_tab {ps : List Pc} (h : ∀ c ∈ ps, Pc.ok c) (h1 : ps ≠ []) (h64 : ps.length ≤ 64) : Tab (lensP ps) ∧ lenOk (.lst ((lensP ps).map V.int)) = true ∧ ∀ c ∈ ps, 1 ≤ (lensP ps).getD (thingP c) 0 := by
  obtain ⟨_, O⟩ := counts_fine h h1 h64
  have hl := O.len
  rw [countsP_len] at hl
  have hb : ∀ x ∈ lensP ps, 0 ≤ x ∧ x ≤ 6 := fun x hx => by
    obtain ⟨i, hi, rfl⟩ := List.getElem_of_mem hx
    have e : (lensP ps).getD i 0 = (lensP ps)[i] := by rw [List.getD_eq_getElem?_getD, List.getElem?_eq_getElem hi]; rfl
    rw [← e]
    by_cases c : i ∈ idxOf (countsP ps)
    · have := O.pos i c
      omega
    · rw [O.zero i c]
      decide
  have hpos : ∀ c ∈ ps, 1 ≤ (lensP ps).getD (thingP c) 0 := fun c hc => (O.pos _ ((idx_counts h _).mpr (List.mem_map_of_mem hc))).1
  refine ⟨⟨hl, hb⟩, ?_, hpos⟩
  -- the sum over all of them
  have hk : kraftV ((lensP ps).map V.int) = ((idxOf (countsP ps)).map fun k => 2 ^ (12 - ((lensP ps).getD k 0).toNat)).sum := by
    have e0 : (lensP ps) = ((countsP ps).zip (lensP ps)).map (·.2) := (List.map_snd_zip (by rw [O.len]; exact Nat.le_refl _)).symm
    unfold kraftV
    rw [List.map_map]
    conv => lhs; rw [e0]
    rw [List.map_map, sum_filterN (fun p hp hn => ?_), zip_comes O.len, List.map_map]
    · unfold idxOf
      rw [List.map_map]
      congr 1
      apply List.map_congr_left
      intro p hp
      have hk : p.2 ∈ idxOf (countsP ps) := List.mem_map_of_mem hp
      have := (O.pos p.2 hk).1
      show (if 0 < (lensP ps).getD p.2 0 then 2 ^ (12 - ((lensP ps).getD p.2 0).toNat) else 0) = 2 ^ (12 - ((lensP ps).getD p.2 0).toNat)
      rw [if_pos (by omega)]
    · obtain ⟨i, hi, e⟩ := List.getElem_of_mem hp
      have e2 : ((countsP ps).zip (lensP ps))[i]? = some p := by rw [List.getElem?_eq_getElem hi, e]
      obtain ⟨a, b⟩ := List.getElem?_zip_eq_some.mp e2
      have := (len_at O a b).2 hn
      show (if 0 < p.2 then 2 ^ (12 - p.2.toNat) else 0) = 0
      rw [this, if_neg (by decide)]
  have hk2 : ((idxOf (countsP ps)).map fun k => 2 ^ (12 - ((lensP ps).getD k 0).toNat)).sum = 64 * ((idxOf (countsP ps)).map fun k => 2 ^ (6 - ((lensP ps).getD k 0).toNat)).sum := by
    have key : ∀ l : List Nat, (∀ k ∈ l, ((lensP ps).getD k 0).toNat ≤ 6) → (l.map fun k => 2 ^ (12 - ((lensP ps).getD k 0).toNat)).sum = 64 * (l.map fun k => 2 ^ (6 - ((lensP ps).getD k 0).toNat)).sum := fun l => by
      induction l with
      | nil => intro _; rfl
      | cons k l ih =>
        intro hl
        have hk6 := hl k (.head _)
        rw [List.map_cons, List.map_cons, List.sum_cons, List.sum_cons, ih fun x hx => hl x (.tail _ hx), Nat.mul_add]
        congr 1
        rw [show 12 - ((lensP ps).getD k 0).toNat = 6 + (6 - ((lensP ps).getD k 0).toNat) by omega, Nat.pow_add]
    exact key _ fun k hk => by have := O.pos k hk; omega
  have hkr := O.kraft
  have hpos2 : 0 < ((idxOf (countsP ps)).map fun k => 2 ^ (6 - ((lensP ps).getD k 0).toNat)).sum := by
    obtain ⟨i1, _⟩ := idx_few h h1
    have z := sum_le (f := fun _ => 1) (g := fun k => 2 ^ (6 - ((lensP ps).getD k 0).toNat)) (l := idxOf (countsP ps)) fun k _ => Nat.one_le_two_pow
    rw [sum_constN] at z
    omega
  have e64 : (2 : Nat) ^ 6 = 64 := rfl
  simp only [lenOk, List.length_map, hl, hk, hk2]
  have hall : ((lensP ps).map V.int).all (btwV 0 12) = true := by
    rw [List.all_map, List.all_eq_true]
    intro x hx
    have := hb x hx
    show (decide (0 ≤ x) && decide (x ≤ 12)) = true
    rw [decide_eq_true (by omega), decide_eq_true (by omega)]
    rfl
  rw [hall, decide_eq_true (by omega), decide_eq_true (by omega), decide_eq_true (by omega), decide_eq_true (by omega)]
  rfl
/-- a thing with a length has a code of that length -/
theorem code_at {ws : List Int} {p : Nat} : ∀ {l : List Nat} {c : CSt}, 0 < lenAt ws p → p < c.out.length → (p ∈ l ∨ ∃ x, c.out[p]? = some (some (x, lenAt ws p))) → ∃ x, (l.foldl (cstep ws) c).out[p]? = some (some (x, lenAt ws p))
  | [], c, _, _, h => by
    rcases h with h | h
    · cases h
    · exact h
  | q :: l, c, hp, hl, h => by
    rw [List.foldl_cons]
    by_cases h0 : 0 < lenAt ws q
    · have e : cstep ws c q = ⟨c.code * 2 ^ (lenAt ws q - c.last) + 1, lenAt ws q, c.out.set q (some (c.code * 2 ^ (lenAt ws q - c.last), lenAt ws q))⟩ := by unfold cstep; rw [if_pos h0]
      rw [e]
      refine code_at hp (by show p < (c.out.set q _).length; rw [List.length_set]; exact hl) ?_
      by_cases e2 : q = p
      · subst e2
        exact .inr ⟨_, List.getElem?_set_self hl⟩
      · rcases h with h | ⟨x, h⟩
        · rcases List.mem_cons.mp h with h | h
          · exact absurd h.symm e2
          · exact .inl h
        · exact .inr ⟨x, by show (c.out.set q _)[p]? = _; rw [List.getElem?_set_ne e2]; exact h⟩
    · have e : cstep ws c q = c := by unfold cstep; rw [if_neg h0]
      rw [e]
      refine code_at hp hl ?_
      rcases h with h | h
      · rcases List.mem_cons.mp h with h | h
        · subst h
          exact absurd hp h0
        · exact .inl h
      · exact .inr h
theorem code_of {ws : List Int} {p : Nat} (hp : 1 ≤ ws.getD p 0) (hl : p < ws.length) : ∃ x, (codesOf ws)[p]? = some (some (x, (ws.getD p 0).toNat)) :=
  code_at (l := ordOf ws) (c := ⟨0, 0, List.replicate ws.length none⟩) (by unfold lenAt; omega) (by show p < (List.replicate ws.length none).length; rw [List.length_replicate]; exact hl) (.inl ((ord_perm ws).mem_iff.mpr (List.mem_range.mpr hl)))
end L2.BR

namespace L2.BR
open PySem PySem.Spec PyProof.Rows L2.BP
variable {K : PySem.W.Frag} {W : WX} {vs : List V} {H : Hp} {Q : VK} {E : XK}
def sp_thing_of (K : PySem.W.Frag) : Sp := fun vs H Q _ => ∃ (a : Addr) (c : Pc), vs = [.ref a] ∧ SqT K H a (pcV c) ∧ Pc.ok c ∧ Q (.int ((thingP c : Nat) : Int)) H
theorem len_thing_of (h : sp_thing_of K vs H Q E) : vs.length = 1 := by
  obtain ⟨a, c, rfl, _⟩ := h
  rfl
def t_thing_of (K : PySem.W.Frag) (W : WX) : TS :=
  (tSeq (tIfS (tTest (tOp (rEqU K) (tOp (rIx K) (tVar 0) (tC (.int 0))) (tC (.str "sign")))) (tRet (tOp (rIx K) (tVar 0) (tC (.int 1)))) tNext)
    (tRet (tOp rSubU (tOp rAddU (tC (.int 256)) (tOp (rIx K) (tVar 0) (tC (.int 2)))) (tC (.int 3)))))
theorem rd_thing_of (h : sp_thing_of K vs H Q E) : t_thing_of K W { nx := fun _ H' => Q .non H', rt := Q } (start ["piece"] vs) H := by
  obtain ⟨a, c, rfl, hT, hok, q⟩ := h
  have hs := Hs.start H
  unfold t_thing_of
  cases c with
  | sign n =>
    have hT : SqT K H a [.str "sign", .int n] := hT
    obtain ⟨n0, n1⟩ : 0 ≤ n ∧ n ≤ 255 := hok
    walk_at "go"
    rw [show ((thingP (.sign n) : Nat) : Int) = n by show ((n.toNat : Nat) : Int) = n; omega] at q
    exact q
  | copy b s =>
    have hT : SqT K H a [.str "copy", .int ((b : Nat) : Int), .int ((s : Nat) : Int)] := hT
    walk_at "go"
    rw [show ((thingP (.copy b s) : Nat) : Int) = 256 + ((s : Nat) : Int) - 3 by show ((253 + s : Nat) : Int) = _; omega] at q
    exact q
def sp_counts_of (K : PySem.W.Frag) : Sp := fun vs H Q _ => ∃ (a : Addr) (xs : List V) (ps : List Pc), vs = [.ref a] ∧ SqL K H a xs ∧ Tups K H xs (ps.map pcV) ∧ (∀ c ∈ ps, Pc.ok c) ∧ ps.length ≤ 1000 ∧ RetL H Q ((countsP ps).map V.int)
theorem len_counts_of (h : sp_counts_of K vs H Q E) : vs.length = 1 := by
  obtain ⟨a, xs, ps, rfl, _⟩ := h
  rfl
def t_counts_of (K : PySem.W.Frag) (W : WX) : TS :=
  (tSeq (tAsg (tOp rMulU (tLst (tCons (tC (.int 0)) tNil)) (tC (.int 272))) (gName 1))
    (tSeq (tFor (iList K (tVar 0)) (gName 2) (tAugS (tVar 1) (tCl (sp_thing_of K) [] W (tCons (tVar 2) tNil)) (tC (.int 1)) (rIxL K) ipAddU rSetL))
    (tRet (tVar 1))))
theorem rd_counts_of (h : sp_counts_of K vs H Q E) : t_counts_of K W { nx := fun _ H' => Q .non H', rt := Q } (start ["pieces", "found", "piece"] vs) H := by
  obtain ⟨a, xs, ps, rfl, hS, hTu, hok, hl, q⟩ := h
  have hs := Hs.start H
  unfold t_counts_of
  walk_at "go"
  rename_i z0 H1 h1
  refine c_rep h1 (h1.get (.head _)) (by omega) (by omega) (small6' (by rw [List.length_singleton]; decide)) fun f H2 h2 => ?_
  rw [show (272 : Int).toNat = 272 from rfl, List.flatten_replicate_singleton] at h2
  have h3 := h2.drop1
  clear h1 h2 hs
  have hxl : xs.length = ps.length := by rw [hTu.length, List.length_map]
  walk_at "go"
  refine w_forL id xs (fun pre σ' L' B' => ∃ w2, σ' = [some (.ref a), some (.ref f), w2] ∧ B' = H ∧ L' = [(f, .lst ((countsP (ps.take pre.length)).map V.int))]) h3 ⟨none, rfl, rfl, by rw [List.length_nil, List.take_zero]; rfl⟩ ?_ ?_ ?_
  · rintro pre post σ' L' B' H' _ ⟨w2, rfl, rfl, rfl⟩ h
    rw [List.map_id]
    exact h.bl hS
  · rintro pre y post σ' L' B' H' e ⟨w2, rfl, rfl, rfl⟩ h
    obtain ⟨u, c, rfl, hc, hu⟩ := tups_item hTu e
    have hcok := hok c (List.mem_of_getElem? hc)
    have hlt := thing_lt hcok
    have hu' := h.bt hu
    rw [id_eq]
    clear h3
    have ea : atI ((countsP (ps.take pre.length)).map V.int) ((thingP c : Nat) : Int) = some (.int ((countsP (ps.take pre.length)).getD (thingP c) 0)) := at_nat (by rw [countsP_len]; exact hlt)
    walk_at "go"
    refine ⟨u, c, rfl, hu', hcok, ?_⟩
    walk_at "go"
    refine c_ixLo (h.sql (.head _)) ea ?_
    walk_at "go"
    refine w_set0 h rfl (by rw [List.length_map, countsP_len]; exact hlt) fun H4 h4 => ?_
    refine ⟨_, _, ⟨_, rfl, rfl, ?_⟩, h4⟩
    rw [List.length_append, List.length_singleton, List.take_add_one, hc, Option.toList_some, countsP_snoc, List.map_set]
  · rintro σ' L' B' H' ⟨w2, rfl, rfl, rfl⟩ h
    rw [hxl, List.take_of_length_le (Nat.le_refl _)] at h
    walk_at "go"
    exact h.rl (.head _) q
/-! ### the share way -/
def codB (cs : List (Option (Nat × Nat))) (p : Nat) : List Bool := match cs[p]? with
  | some (some (x, l)) => bitsOf x l
  | _ => []
def backB : Pc → List Bool
  | .copy b _ => bitsOf b 8
  | .sign _ => []
def pcC (cs : List (Option (Nat × Nat))) (c : Pc) : List Bool := codB cs (thingP c) ++ backB c
def pcsC (cs : List (Option (Nat × Nat))) (ps : List Pc) : List Bool := ps.flatMap (pcC cs)
theorem pcsC_take {cs : List (Option (Nat × Nat))} {ps : List Pc} {i : Nat} {c : Pc} (h : ps[i]? = some c) : pcsC cs (ps.take (i + 1)) = pcsC cs (ps.take i) ++ pcC cs c := by
  unfold pcsC
  rw [List.take_add_one, h, List.flatMap_append]
  simp
def shareB (ps : List Pc) : List Bool := encT 0 (lensP ps) ++ pcsC (codesOf (lensP ps)) ps
theorem pcsC_len {cs : List (Option (Nat × Nat))} (hf : Fits cs) : ∀ ps : List Pc, (pcsC cs ps).length ≤ 20 * ps.length
  | [] => by simp [pcsC]
  | c :: ps => by
    have ih := pcsC_len hf ps
    have h1 : (codB cs (thingP c)).length ≤ 12 := by
      unfold codB
      split
      · rename_i x l e
        rw [bitsOf_length]
        exact (hf _ _ _ e).2.1
      · exact Nat.zero_le _
    have h2 : (backB c).length ≤ 8 := by cases c <;> simp [backB, bitsOf_length]
    unfold pcsC at ih ⊢
    rw [List.flatMap_cons, List.length_append, List.length_cons]
    rw [show pcC cs c = codB cs (thingP c) ++ backB c from rfl, List.length_append]
    omega
theorem CodV.get : ∀ {xs : List V} {cs : List (Option (Nat × Nat))} {i c l : Nat}, CodV K H xs cs → cs[i]? = some (some (c, l)) → ∃ t, xs[i]? = some (V.ref t) ∧ SqT K H t [.int ((c : Nat) : Int), .int ((l : Nat) : Int)]
  | _, _, _, _, _, .nil, h => by simp at h
  | _, _, 0, _, _, .no _, h => by simp at h
  | _, _, i + 1, _, _, .no t, h => t.get (by simpa using h)
  | _, _, 0, _, _, .one e _, h => by
    simp at h
    obtain ⟨rfl, rfl⟩ := h
    exact ⟨_, rfl, e⟩
  | _, _, i + 1, _, _, .one _ t, h => t.get (by simpa using h)
theorem enc_few : ∀ (n : Nat) (last : Int) (l : List Int), l.length ≤ n → (encT last l).length ≤ 9 * l.length
  | _, last, [], _ => by rw [encT_nil]; exact Nat.zero_le _
  | 0, _, x :: r, h => by simp at h
  | n + 1, last, x :: r, h => by
    rw [List.length_cons] at h
    by_cases c : 3 ≤ more last (x :: r)
    · have ih := enc_few n last ((x :: r).drop (more last (x :: r))) (by rw [List.length_drop, List.length_cons]; omega)
      rw [List.length_drop, List.length_cons] at ih
      rw [encT_more c, List.length_append, List.length_append, bitsOf_length, bitsOf_length, List.length_cons]
      omega
    · have ih := enc_few n x r (by omega)
      rw [encT_one c, List.length_append, bitsOf_length, List.length_cons]
      omega
theorem encT_few {ls : List Int} (h : Tab ls) : (encT 0 ls).length ≤ 2448 := by
  have z := enc_few 272 0 ls (by rw [h.1]; exact Nat.le_refl _)
  rw [h.1] at z
  exact z
theorem kraft_le {ws : List Int} (h : lenOk (.lst (ws.map V.int)) = true) : kraftV (ws.map V.int) ≤ 4096 := by
  simp only [lenOk, Bool.and_eq_true, decide_eq_true_eq] at h
  exact h.2.2
/-- lengths_of of good counts -/
theorem call_len {B : Hp} {L : Pic} {a : Addr} {us : List Int} {m : Nat} (hs : Hs B L H) (h : SqL K H a (us.map V.int)) (hl : us.length ≤ 300) (ok : countsOk (.lst (us.map V.int)) (.int ((m : Nat) : Int)) = true) (k : ∀ p H', Hs B ((p, .lst ((lenOf us m).map V.int)) :: L) H' → Q (.ref p) H') :
    sp_lengths_of K [.ref a, .int ((m : Nat) : Int)] H Q E := by
  refine ⟨_, _, .lst (us.map V.int), .int ((m : Nat) : Int), rfl, .lst h, .int _, ok_ints (by omega), fun us2 m2 e1 e2 _ => ?_, fun z => ?_⟩
  · obtain rfl : us = us2 := map_int_inj (Tg.lst.inj e1)
    obtain rfl : m = m2 := by
      injection e2 with e2
      omega
    exact retL hs k
  · rw [ok] at z
    cases z
def sp_ShareWay_tell (K : PySem.W.Frag) : Sp := fun vs H Q _ => ∃ (B : Hp) (L : Pic) (ps0 : Array Value) (o x dx f t : Addr) (v : V) (g : Tg) (b : List Bool) (ts ws : List Int), vs = [.ref o, .ref x, .ref t, v] ∧ Hs B ((x, brO K dx f b) :: (f, brL b) :: (tP K, .tbl ps0) :: L) H ∧ TabC B ps0 qC ∧ SqL K H t (ts.map V.int) ∧ Bytes ts ∧ 1 ≤ ts.length ∧ ts.length ≤ 64 ∧ Th K H v g ∧ WinW g ws ∧ b.length ≤ 500000 ∧
  ∀ B2 ps2 H', Same B B2 → TabC B2 ps2 qC → Hs B2 ((x, brO K dx f (b ++ shareB (pcs (ws ++ ts) ts.length ws.length))) :: (f, brL (b ++ shareB (pcs (ws ++ ts) ts.length ws.length))) :: (tP K, .tbl ps2) :: L) H' → Q .non H'
theorem len_ShareWay_tell (h : sp_ShareWay_tell K vs H Q E) : vs.length = 4 := by
  obtain ⟨B, L, ps0, o, x, dx, f, t, v, g, b, ts, ws, rfl, _⟩ := h
  rfl
def t_ShareWay_tell (K : PySem.W.Frag) (W : WX) : TS :=
  (tSeq (tAsg (tCl (sp_need_text K) [] W (tCons (tVar 2) tNil)) (gName 4))
    (tSeq (tAsg (tCl (sp_pieces_of K) [] W (tCons (tVar 4) (tCons (tCl (sp_need_window_ways K) [] W (tCons (tVar 3) tNil)) tNil))) (gName 5))
    (tSeq (tAsg (tCl (sp_lengths_of K) [.int 6] W (tCons (tCl (sp_counts_of K) [] W (tCons (tVar 5) tNil)) tNil)) (gName 6))
    (tSeq (tDrop (tCl (sp_put_table K) [] W (tCons (tVar 1) (tCons (tVar 6) tNil))))
    (tSeq (tAsg (tCl (sp_codes_of K) [] W (tCons (tVar 6) tNil)) (gName 7))
    (tFor (iList K (tVar 5)) (gName 8) (tSeq (tAsg (tOp (rIx K) (tVar 7) (tCl (sp_thing_of K) [] W (tCons (tVar 8) tNil))) (gTup K 2 (gCons (gName 9) (gCons (gName 10) gNil))))
    (tSeq (tDrop (tMt (He.ga K "BitRow") "put" (sp_BitRow_put K) [] W (tVar 1) (tCons (tVar 9) (tCons (tVar 10) tNil))))
    (tIfS (tTest (tOp (rEqU K) (tOp (rIx K) (tVar 8) (tC (.int 0))) (tC (.str "copy")))) (tDrop (tMt (He.ga K "BitRow") "put" (sp_BitRow_put K) [] W (tVar 1) (tCons (tOp (rIx K) (tVar 8) (tC (.int 1))) (tCons (tC (.int 8)) tNil)))) tNext)))))))))
theorem rd_ShareWay_tell (kBitRow : KBitRow K) (h : sp_ShareWay_tell K vs H Q E) : t_ShareWay_tell K (fun c d _ H2 => E c d H2) { nx := fun _ H' => Q .non H', rt := Q } (start ["self", "bits", "text", "before", "signs", "pieces", "lengths", "codes", "piece", "code", "length"] vs) H := by
  obtain ⟨B, L, ps0, o, x, dx, f, t, v, g, b, ts, ws, rfl, hs, hTC, hS, hb, hl1, hl2, hT, hw, hbl, q⟩ := h
  obtain ⟨hwb, hwl⟩ := hw.bytes
  obtain ⟨bc, bn1, bn2, bn3⟩ := kBitRow
  unfold t_ShareWay_tell
  walk_at "go"
  refine ⟨t, ts, rfl, hS, hb, hl1, hl2, ?_⟩
  intro s H1 hn1 e1 hr1
  have h1 := hs.newS hn1 e1 hr1
  walk_at "go"
  refine ⟨v, g, ws, rfl, hT.same e1, hw, retL h1 fun w H2 h2 => ?_⟩
  clear hs h1
  walk_at "go"
  refine ⟨B, _, .ref s, .ref w, .lst (ts.map V.int), .lst (ws.map V.int), rfl, h2, .lst (h2.sql (.tail _ (.head _))), ok_ints (by omega), .lst (h2.sql (.head _)), ok_ints (by omega), fun ts' ws' e3 _ _ e4 B2 p xs H3 hB hTu h3 => ?_, fun z => ?_⟩
  rotate_left
  · rw [show Tg.isRow (.lst (ts.map V.int)) = true from all_byteV hb, isWin_ints hwb (by omega)] at z
    rcases z with z | z <;> cases z
  have e3 := map_int_inj (Tg.lst.inj e3)
  have e4 := map_int_inj (show ws.map V.int = ws'.map V.int from e4)
  subst e3 e4
  have hn := h3.nb (.head _)
  have h4 := h3.fix.drop.drop
  have sm := same_upd (o := HO.lst xs) hn
  have hp : SqL K (upd B2 p (.lst xs)) p xs := SqL.of upd_same
  have hTu4 := hTu.same sm
  have hok := pcs_ok (ns := ws ++ ts) (fun n hn => by
    rcases List.mem_append.mp hn with z | z
    · exact hwb n z
    · exact hb n z) ts.length ws.length
  have hpl := pcs_length (ns := ws ++ ts) ts.length ws.length
  rw [List.length_append] at hpl
  have hxl : xs.length = (pcs (ws ++ ts) ts.length ws.length).length := by rw [hTu.length, List.length_map]
  have hpne : pcs (ws ++ ts) ts.length ws.length ≠ [] := by
    obtain ⟨k, hk⟩ : ∃ k, ts.length = k + 1 := ⟨ts.length - 1, by omega⟩
    rw [hk, pcs, if_pos (by rw [List.length_append]; omega)]
    split <;> exact List.cons_ne_nil _ _
  have sm2 := hB.trans sm
  have hTC := hTC.same sm2
  clear h2 h3 hTu hB sm hn
  generalize upd B2 p (.lst xs) = B3 at *
  generalize pcs (ws ++ ts) ts.length ws.length = ps at *
  have hp64 : ps.length ≤ 64 := by omega
  obtain ⟨ck, O⟩ := counts_fine hok hpne hp64
  obtain ⟨tb, lok, hpos⟩ := lens_tab hok hpne hp64
  walk_at "go"
  refine ⟨p, xs, ps, rfl, h4.bl hp, hTu4.same h4.ex, hok, by omega, retL h4 fun cn H4 h5 => ?_⟩
  clear h4
  walk_at "go"
  refine call_len (m := 6) h5 (h5.sql (.head _)) (by rw [countsP_len]; decide) ck fun ln H5 h6 => ?_
  have s6 := same_upd (o := .lst ((lenOf (countsP ps) 6).map V.int)) (h6.nb (p := ln) (.head _))
  have kln : SqL K (upd B3 ln (.lst ((lenOf (countsP ps) 6).map V.int))) ln ((lensP ps).map V.int) := .of upd_same
  have h7 := h6.fix.drop
  have hp := s6.seq hp
  have hTu4 := hTu4.same s6
  have hTC := hTC.same s6
  have sm3 := sm2.trans s6
  generalize upd B3 ln (.lst ((lenOf (countsP ps) 6).map V.int)) = B4 at *
  clear h5 h6 s6
  walk_at "go"
  refine ⟨B4, _, x, dx, f, ln, b, lensP ps, rfl, h7, fun y z H' h => h.bl kln, tb, by omega, fun H8 h8 => ?_⟩
  clear h7
  have hel := encT_few tb
  have F := codes_fit (fun n hn => by have := tb.2 n hn; omega) (kraft_le lok)
  have hcode : ∀ c ∈ ps, ∃ xx l : Nat, (codesOf (lensP ps))[thingP c]? = some (some (xx, l)) := fun c hc => by
    obtain ⟨xx, e⟩ := code_of (ws := lensP ps) (p := thingP c) (hpos c hc) (by rw [tb.1]; exact thing_lt (hok c hc))
    exact ⟨xx, _, e⟩
  walk_at "go"
  refine ⟨B4, _, ps0, .ref ln, .lst ((lensP ps).map V.int), rfl, h8.rot3, hTC, .lst kln, ok_ints (by rw [tb.1]; decide), fun ws2 e2 _ B5 ps5 cp cxs H9 s9 hT9 hC h9 => ?_, fun z => by rw [lok] at z; cases z⟩
  have e2 := map_int_inj (Tg.lst.inj e2)
  subst e2
  have s10 := same_upd (o := .lst cxs) (h9.nb (p := cp) (.head _))
  have kcp : SqL K (upd B5 cp (.lst cxs)) cp cxs := .of upd_same
  have h10 := h9.fix.rot3.rot3
  have hC := hC.same s10
  have hp := s10.seq (s9.seq hp)
  have hTu4 := (hTu4.same s9).same s10
  have hT9 := hT9.same s10
  have sm4 := (sm3.trans s9).trans s10
  generalize upd B5 cp (.lst cxs) = B6 at *
  clear h8 h9 s9 s10
  have hsb : shareB ps = encT 0 (lensP ps) ++ pcsC (codesOf (lensP ps)) ps := rfl
  generalize codesOf (lensP ps) = cs at *
  generalize encT 0 (lensP ps) = eb at *
  have hpcl := pcsC_len F
  walk_at "go"
  refine w_forL id xs (fun pre σ' L' B' => ∃ w8 w9 w10, σ' = [some (.ref o), some (.ref x), some (.ref t), some v, some (.ref s), some (.ref p), some (.ref ln), some (.ref cp), w8, w9, w10] ∧ B' = B6 ∧ L' = (x, brO K dx f (b ++ eb ++ pcsC cs (ps.take pre.length))) :: (f, brL (b ++ eb ++ pcsC cs (ps.take pre.length))) :: (tP K, .tbl ps5) :: L) h10 ⟨none, none, none, rfl, rfl, by simp [pcsC]⟩ ?_ ?_ ?_
  · rintro pre post σ' L' B' H' _ ⟨w8, w9, w10, _, rfl, rfl⟩ h
    rw [List.map_id]
    exact h.bl hp
  · rintro pre y post σ' L' B' H' e ⟨w8, w9, w10, rfl, rfl, rfl⟩ h
    obtain ⟨u, c, rfl, hc, hu⟩ := tups_item hTu4 e
    have hcm := List.mem_of_getElem? hc
    have hcok := hok c hcm
    have hu' := h.bt hu
    have hbt := hpcl (ps.take pre.length)
    rw [List.length_take] at hbt
    have hst : b ++ eb ++ pcsC cs (ps.take (pre.length + 1)) = b ++ eb ++ pcsC cs (ps.take pre.length) ++ codB cs (thingP c) ++ backB c := by rw [pcsC_take hc, show pcC cs c = codB cs (thingP c) ++ backB c from rfl, List.append_assoc (b ++ eb ++ _), List.append_assoc (b ++ eb)]
    obtain ⟨xx, l, ec⟩ := hcode c hcm
    obtain ⟨f1, f2, f3⟩ := F _ _ _ ec
    have ecb : codB cs (thingP c) = bitsOf xx l := by unfold codB; rw [ec]
    rw [ecb] at hst
    obtain ⟨tt, ett, htt⟩ := hC.get ec
    have htt' := h.bt htt
    have ea : atI cxs ((thingP c : Nat) : Int) = some (.ref tt) := atI_nat ett
    rw [id_eq]
    clear h10
    walk_at "go"
    refine ⟨u, c, rfl, hu', hcok, ?_⟩
    walk_at "go"
    refine use_put (n := xx) (s := l) rfl rfl h (by rw [List.length_append, List.length_append]; omega) (by omega) f3 fun H4 h5 => ?_
    have hu5 := h5.bt hu
    clear h
    cases c with
    | sign n =>
      have hu5 : SqT K H4 u [.str "sign", .int n] := hu5
      rw [show backB (.sign n) = [] from rfl, List.append_nil] at hst
      rw [← hst] at h5
      walk_at "go"
      exact ⟨_, _, ⟨_, _, _, rfl, rfl, by rw [List.length_append, List.length_singleton]⟩, h5⟩
    | copy bk z =>
      have hu5 : SqT K H4 u [.str "copy", .int ((bk : Nat) : Int), .int ((z : Nat) : Int)] := hu5
      obtain ⟨o1, o2, o3, o4⟩ := hcok
      walk_at "go"
      refine use_put (n := bk) (s := 8) rfl rfl h5 (by rw [List.length_append, List.length_append, List.length_append, bitsOf_length]; omega) (by decide) (by show _ < 256; omega) fun H5 h6 => ?_
      rw [show bitsOf bk 8 = backB (.copy bk z) from rfl, ← hst] at h6
      exact ⟨_, _, ⟨_, _, _, rfl, rfl, by rw [List.length_append, List.length_singleton]⟩, h6⟩
  · rintro σ' L' B' H' ⟨w8, w9, w10, rfl, rfl, rfl⟩ h
    rw [hxl, List.take_of_length_le (Nat.le_refl _), List.append_assoc, ← hsb] at h
    exact q B' ps5 H' sm4 hT9 h
end L2.BR

namespace L2.BR
open PySem PySem.Spec PyProof.Rows L2.BP
variable {K : PySem.W.Frag} {W : WX} {vs : List V} {H : Hp} {Q : VK} {E : XK}
/-! ### bodies by codes are read -/
def Free (cs : List (Option (Nat × Nat))) : Prop := ∀ p q x l y m : Nat, p ≠ q → cs[p]? = some (some (x, l)) → cs[q]? = some (some (y, m)) → l ≤ m → y / 2 ^ (m - l) ≠ x
theorem codes_free {ws : List Int} (hw : ∀ n ∈ ws, n ≤ 12) : Free (codesOf ws) := (codes_good hw).1.2
theorem go_code {cs : List (Option (Nat × Nat))} (hG : Free cs) {p c l : Nat} (h : cs[p]? = some (some (c, l))) (rest : List Bool) : ∀ k j, j + (k + 1) = l → codeGo cs j (c / 2 ^ (k + 1)) (bitsOf c (k + 1) ++ rest) = .thing p l
  | k, j, e => by
    have hm : some (c, l) ∈ cs := List.mem_of_getElem? h
    have e2 : 2 * (c / 2 ^ (k + 1)) + (c / 2 ^ k % 2 == 1).toNat = c / 2 ^ k := by
      have z : (c / 2 ^ k % 2 == 1).toNat = c / 2 ^ k % 2 := by
        rcases Nat.mod_two_eq_zero_or_one (c / 2 ^ k) with h | h <;> rw [h] <;> rfl
      rw [z, Nat.pow_succ, ← Nat.div_div_eq_div_mul]
      omega
    show codeGo cs j (c / 2 ^ (k + 1)) ((c / 2 ^ k % 2 == 1) :: (bitsOf c k ++ rest)) = _
    rw [codeGo, e2]
    cases k with
    | zero =>
      have el : j + 1 = l := by omega
      have ef : findP cs (j + 1) (c / 2 ^ 0) = some p := by
        rw [Nat.pow_zero, Nat.div_one, el]
        unfold findP
        rw [List.findIdx?_eq_some_iff_getElem]
        obtain ⟨hp, ep⟩ := List.getElem?_eq_some_iff.mp h
        refine ⟨hp, by rw [ep]; exact decide_eq_true rfl, fun i hi => ?_⟩
        rw [Bool.not_eq_true, decide_eq_false_iff_not]
        intro z
        have z2 : cs[i]? = some (some (c, l)) := by rw [List.getElem?_eq_getElem (by omega), z]
        have g := hG i p c l c l (by omega) z2 h (Nat.le_refl _)
        rw [Nat.sub_self, Nat.pow_zero, Nat.div_one] at g
        exact g rfl
      rw [ef, el]
    | succ k =>
      have ef : findP cs (j + 1) (c / 2 ^ (k + 1)) = none := by
        unfold findP
        rw [List.findIdx?_eq_none_iff]
        intro o ho
        rw [decide_eq_false_iff_not]
        rintro rfl
        obtain ⟨q, hq, eq⟩ := List.getElem_of_mem ho
        have z2 : cs[q]? = some (some (c / 2 ^ (k + 1), j + 1)) := by rw [List.getElem?_eq_getElem hq, eq]
        by_cases hqp : q = p
        · rw [hqp, h] at z2
          injection z2 with z2
          injection z2 with z2
          injection z2 with _ z2
          omega
        · have g := hG q p _ (j + 1) c l hqp z2 h (by omega)
          rw [show l - (j + 1) = k + 1 by omega] at g
          exact g rfl
      have eb : begunP cs (j + 1) (c / 2 ^ (k + 1)) = true := by
        unfold begunP
        refine List.any_eq_true.mpr ⟨_, hm, ?_⟩
        simp only [begunO, Bool.and_eq_true, decide_eq_true_eq]
        refine ⟨⟨by omega, by omega⟩, ?_⟩
        rw [show l - (j + 1) = k + 1 by omega]
      rw [ef]
      simp only [eb, if_true]
      exact go_code hG h rest k (j + 1) (by omega)
theorem read_code {cs : List (Option (Nat × Nat))} (hF : Fits cs) (hG : Free cs) {p c l : Nat} (h : cs[p]? = some (some (c, l))) (rest : List Bool) : readCode cs (bitsOf c l ++ rest) = .thing p l := by
  obtain ⟨f1, f2, f3⟩ := hF p c l h
  have z := go_code hG h rest (l - 1) 0 (by omega)
  rw [show l - 1 + 1 = l by omega, Nat.div_eq_of_lt f3] at z
  exact z
/-- each of these pieces has a code -/
def Has (cs : List (Option (Nat × Nat))) (ps : List Pc) : Prop := ∀ c ∈ ps, ∃ x l : Nat, cs[thingP c]? = some (some (x, l))
theorem _root_.L2.BP.Hs.b4 {B : Hp} {L : Pic} {a b c d : Addr × HO} (h : Hs B (a :: b :: c :: d :: L) H) : Hs B (a :: d :: b :: c :: L) H := h.perm (.cons a ((List.Perm.cons b (.swap d c L)).trans (.swap d b (c :: L))))
def sp_codes_taken (K : PySem.W.Frag) : Sp := fun vs H Q _ => ∃ (B : Hp) (L : Pic) (ps0 : Array Value) (x dx s : Addr) (t : Nat) (ns ls : List Int) (its : List Ite) (tail : List Bool), vs = [.ref x] ∧ Hs B ((x, rdO K dx s t) :: (s, .lst (ns.map V.int)) :: (tP K, .tbl ps0) :: L) H ∧ TabC B ps0 qC ∧ Bytes ns ∧ ns.length ≤ 100000 ∧ t ≤ 8 * ns.length ∧
  (bitsRow ns).drop t = itsB its ++ tail ∧ Lays 0 ls its ∧ Tab ls ∧ lenOk (.lst (ls.map V.int)) = true ∧ ∀ (B2 : Hp) (ps2 : Array Value) (r : Addr) (H' : Hp), Same B B2 → TabC B2 ps2 qC → CRd K B2 r (codesOf ls) → Hs B2 ((x, rdO K dx s (t + (itsB its).length)) :: (s, .lst (ns.map V.int)) :: (tP K, .tbl ps2) :: L) H' → Q (.ref r) H'
theorem len_codes_taken (h : sp_codes_taken K vs H Q E) : vs.length = 1 := by
  obtain ⟨B, L, ps0, x, dx, s, t, ns, ls, its, tail, rfl, _⟩ := h
  rfl
def t_codes_taken (K : PySem.W.Frag) (W : WX) : TS :=
  (tSeq ((tAsg (tCl (sp_take_table K) [] WF (tCons (tVar 0) tNil)) (gName 1)))
    (tThru (tAsg (tMk (He.ga K "CodeReader") (sp_CodeReader___init__ K) [] WF (tCons (tVar 1) tNil)) (gName 2)) (tRet (tVar 2))))
theorem rd_codes_taken (kCodeReader : KCodeReader K) (h : sp_codes_taken K vs H Q E) : t_codes_taken K (fun c d _ H2 => E c d H2) { nx := fun _ H' => Q .non H', rt := Q } (start ["reader", "lengths", "found"] vs) H := by
  obtain ⟨B, L, ps0, x, dx, s, t, ns, ls, its, tail, rfl, hs, hTC, hb, hl, ht, hd, hL, hT, lok, q⟩ := h
  have cc := kCodeReader.c
  unfold t_codes_taken
  walk_at "go"
  refine ⟨B, _, x, dx, s, t, ns, ls, its, tail, rfl, hs, hb, hl, ht, hd, hL, hT, fun p H1 h1 => ?_⟩
  clear hs
  have s1 := same_upd (o := .lst (ls.map V.int)) (h1.nb (p := p) (.head _))
  have kp : SqL K (upd B p (.lst (ls.map V.int))) p (ls.map V.int) := .of upd_same
  have h2 := h1.fix
  have hTC := hTC.same s1
  generalize upd B p (.lst (ls.map V.int)) = B1 at *
  clear h1
  walk_at "go"
  unfold tThru
  walk_at "go"
  rename_i r dr H2 h3
  refine ⟨B1, _, ps0, r, dr, .ref p, .lst (ls.map V.int), rfl, h3.b4, hTC, .lst kp, ok_ints (by rw [hT.1]; decide), fun ws2 e2 _ B2 ps2 H3 s2 hT2 hC h4 => ?_, fun z => by rw [lok] at z; cases z⟩
  have e2 := map_int_inj (Tg.lst.inj e2)
  subst e2
  refine ⟨rfl, ?_⟩
  walk_at "go"
  exact q B2 ps2 r H3 (s1.trans s2) hT2 hC h4.unrot3
def sp_thing_taken (K : PySem.W.Frag) : Sp := fun vs H Q _ => ∃ (B : Hp) (L : Pic) (x r dr s : Addr) (t : Nat) (ns : List Int) (cs : List (Option (Nat × Nat))) (p u : Nat), vs = [.ref x, .ref r] ∧ Hs B ((r, rdO K dr s t) :: (s, .lst (ns.map V.int)) :: L) H ∧ CRd K B x cs ∧ Fits cs ∧ Bytes ns ∧ ns.length ≤ 100000 ∧ t ≤ 8 * ns.length ∧
  readCode cs ((bitsRow ns).drop t) = .thing p u ∧ ∀ H', Hs B ((r, rdO K dr s (t + u)) :: (s, .lst (ns.map V.int)) :: L) H' → Q (.int ((p : Nat) : Int)) H'
theorem len_thing_taken (h : sp_thing_taken K vs H Q E) : vs.length = 2 := by
  obtain ⟨B, L, x, r, dr, s, t, ns, cs, p, u, rfl, _⟩ := h
  rfl
def t_thing_taken (K : PySem.W.Frag) (W : WX) : TS :=
  (tThru (tAsg (tMt (He.ga K "CodeReader") "thing" (sp_CodeReader_thing K) [] WF (tVar 0) (tCons (tVar 1) tNil)) (gName 2)) (tRet (tVar 2)))
theorem rd_thing_taken (kCodeReader : KCodeReader K) (h : sp_thing_taken K vs H Q E) : t_thing_taken K (fun c d _ H2 => E c d H2) { nx := fun _ H' => Q .non H', rt := Q } (start ["codes", "reader", "found"] vs) H := by
  obtain ⟨B, L, x, r, dr, s, t, ns, cs, p, u, rfl, hs, hC, hF, hb, hl, ht, hg, q⟩ := h
  have cc := kCodeReader.c
  unfold t_thing_taken
  obtain ⟨dx, kd, bd, kvs, bvs, kx, kk⟩ := hC
  have kx1 := hs.ex _ _ kx
  walk_at "go"
  unfold tThru
  walk_at "go"
  refine ⟨B, L, x, r, dr, s, t, ns, cs, rfl, hs, ⟨dx, kd, bd, kvs, bvs, kx, kk⟩, fits_le hF, hb, hl, ht, fun p' u' e H2 h2 => ?_, (fun e => by rw [hg] at e; cases e), (fun e => by rw [hg] at e; cases e)⟩
  rw [hg] at e
  injection e with e1 e2
  subst e1 e2
  walk_at "go"
  exact q _ h2
theorem pcsC_cons (cs : List (Option (Nat × Nat))) (c : Pc) (r : List Pc) : pcsC cs (c :: r) = pcC cs c ++ pcsC cs r := rfl
theorem Has.tail {cs : List (Option (Nat × Nat))} {c : Pc} {r : List Pc} (h : Has cs (c :: r)) : Has cs r := fun d hd => h d (.tail _ hd)
def sp_ShareWay_read (K : PySem.W.Frag) : Sp := fun vs H Q _ => ∃ (B : Hp) (L : Pic) (ps0 : Array Value) (o x dx s : Addr) (v : V) (g : Tg) (t n : Nat) (row ws ls : List Int) (its : List Ite) (ps : List Pc) (tail : List Bool), vs = [.ref o, .ref x, .int ((n : Nat) : Int), v] ∧
  Hs B ((x, rdO K dx s t) :: (s, .lst (row.map V.int)) :: (tP K, .tbl ps0) :: L) H ∧ TabC B ps0 qC ∧ Bytes row ∧ row.length ≤ 100000 ∧ t ≤ 8 * row.length ∧ Th K H v g ∧ WinW g ws ∧ n ≤ 64 ∧ (∀ c ∈ ps, Pc.ok c) ∧ Reach ws ps ∧ (told ws ps).length = ws.length + n ∧ (bitsRow row).drop t = itsB its ++ (pcsC (codesOf ls) ps ++ tail) ∧
  Lays 0 ls its ∧ Tab ls ∧ lenOk (.lst (ls.map V.int)) = true ∧ Has (codesOf ls) ps ∧
  ∀ (B2 : Hp) (ps2 : Array Value) (p : Addr) (H' : Hp), Same B B2 → TabC B2 ps2 qC → Hs B2 ((p, .lst (((told ws ps).drop ws.length).map V.int)) :: (x, rdO K dx s (t + (itsB its).length + (pcsC (codesOf ls) ps).length)) :: (s, .lst (row.map V.int)) :: (tP K, .tbl ps2) :: L) H' → Q (.ref p) H'
theorem len_ShareWay_read (h : sp_ShareWay_read K vs H Q E) : vs.length = 4 := by
  obtain ⟨B, L, ps0, o, x, dx, s, v, g, t, n, row, ws, ls, its, ps, tail, rfl, _⟩ := h
  rfl
theorem _root_.L2.BP.Hs.tox3 {B : Hp} {L : Pic} {a b c : Addr × HO} (h : Hs B (a :: b :: c :: L) H) : Hs B (b :: c :: a :: L) H := Hs.unrot3 h
theorem _root_.L2.BP.Hs.tox4 {B : Hp} {L : Pic} {a b c d : Addr × HO} (h : Hs B (a :: b :: c :: d :: L) H) : Hs B (b :: c :: d :: a :: L) H := h.perm (List.perm_middle (l₁ := [b, c, d])).symm
theorem told_cons (l : List Int) (c : Pc) (r : List Pc) : told l (c :: r) = told (app l c) r := rfl
theorem told_grow : ∀ (ps : List Pc) (l : List Int), l.length ≤ (told l ps).length := fun ps l => by
  obtain ⟨r, e⟩ := told_pre ps l
  rw [e, List.length_append]
  omega
theorem app_more {c : Pc} (h : Pc.ok c) (l : List Int) : l.length < (app l c).length := by
  cases c with
  | sign n => show _ < (l ++ [n]).length; rw [List.length_append, List.length_singleton]; omega
  | copy b s => show _ < (cpy b s l).length; rw [cpy_length]; have := h.2.2.1; omega
def t_ShareWay_read (K : PySem.W.Frag) (W : WX) : TS :=
  (tSeq (tAsg (tCl (sp_need_window_ways K) [] W (tCons (tVar 3) tNil)) (gName 4))
    (tSeq (tAsg (tCB (rLenK K) (tCons (tVar 4) tNil)) (gName 5))
    (tSeq (tAsg (tCl (sp_codes_taken K) [] W (tCons (tVar 1) tNil)) (gName 6))
    (tSeq (tWhile (tTest (tOp rLtU (tCB (rLenK K) (tCons (tVar 4) tNil)) (tOp rAddU (tVar 5) (tVar 2)))) (tSeq (tAsg (tCl (sp_thing_taken K) [] W (tCons (tVar 6) (tCons (tVar 1) tNil))) (gName 7))
    (tIfS (tTest (tOp rLtU (tVar 7) (tC (.int 256)))) (tDrop (tBM K "list" rAppend (tVar 4) (tCons (tVar 7) tNil))) (tDrop (tCl (sp_lay_copy K) [] W (tCons (tVar 4) (tCons (tMt (He.ga K "BitReader") "take" (sp_BitReader_take K) [] W (tVar 1) (tCons (tC (.int 8)) tNil)) (tCons (tOp rAddU (tOp rSubU (tVar 7) (tC (.int 256))) (tC (.int 3))) (tCons (tOp rAddU (tVar 5) (tVar 2)) tNil)))))))))
    (tRet (tSl (rSlK K) (tVar 4) (tPart (tVar 5)) tNoPart))))))
theorem rd_ShareWay_read (h : sp_ShareWay_read K vs H Q E) : t_ShareWay_read K (fun c d _ H2 => E c d H2) { nx := fun _ H' => Q .non H', rt := Q } (start ["self", "reader", "count", "before", "signs", "begin", "codes", "thing"] vs) H := by
  obtain ⟨B, L, ps0, o, x, dx, s, v, g, t, n, row, ws, ls, its, ps, tail, rfl, hs, hTC, hb, hl, ht, hT, hw, hn, hok, hre, hto, hd, hL, hTb, lok, hHas, q⟩ := h
  obtain ⟨hwb, hwl⟩ := hw.bytes
  unfold t_ShareWay_read
  walk_at "go"
  refine ⟨v, g, ws, rfl, hT, hw, retL hs fun f H1 h1 => ?_⟩
  clear hs
  walk_at "go"
  rw [List.length_map]
  have hit := congrArg List.length hd
  rw [List.length_drop, bitsRow_length, List.length_append] at hit
  refine ⟨B, _, ps0, x, dx, s, t, row, ls, its, _, rfl, h1.tox4, hTC, hb, hl, ht, hd, hL, hTb, lok, fun B2 ps2 cr H2 s2 hT2 hC h2 => ?_⟩
  have F := codes_fit (fun n hn => by have := hTb.2 n hn; omega) (kraft_le lok)
  have G := codes_free (ws := ls) (fun n hn => by have := hTb.2 n hn; omega)
  have hd1 : (bitsRow row).drop (t + (itsB its).length) = pcsC (codesOf ls) ps ++ tail := by
    rw [← List.drop_drop, hd, List.drop_left]
  have ht1 : t + (itsB its).length ≤ 8 * row.length := by omega
  generalize t + (itsB its).length = t1 at *
  generalize codesOf ls = cs at *
  clear hd hit ht
  walk_at "go"
  refine w_while (fun m σ' L' B' => ∃ (l : List Int) (r : List Pc) (u : Nat) (w7 : Option V), told l r = told ws ps ∧ (∀ c ∈ r, Pc.ok c) ∧ Reach l r ∧ Has cs r ∧ m = ws.length + n - l.length ∧ l.length ≤ ws.length + n ∧ u ≤ 8 * row.length ∧ (bitsRow row).drop u = pcsC cs r ++ tail ∧ u + (pcsC cs r).length = t1 + (pcsC cs ps).length ∧
    σ' = [some (.ref o), some (.ref x), some (.int ((n : Nat) : Int)), some v, some (.ref f), some (.int ((ws.length : Nat) : Int)), some (.ref cr), w7] ∧ B' = B2 ∧ L' = (f, .lst (l.map V.int)) :: (x, rdO K dx s u) :: (s, .lst (row.map V.int)) :: (tP K, .tbl ps2) :: L) n h2.rot4
    ⟨ws, ps, t1, none, rfl, hok, hre, hHas, by omega, by omega, ht1, hd1, rfl, rfl, rfl, rfl⟩ ?_
  rintro m σ' L' B' H' ⟨l, r, u, w7, e1, hokr, hrer, hhr, rfl, hll, hu, hdu, hlu, rfl, rfl, rfl⟩ h
  walk_at "go"
  rw [List.length_map]
  by_cases hlt : l.length < ws.length + n
  · refine i_t (decide_eq_true (by omega)) (w_turn ?_)
    have h' := h.tox3
    clear h h1 h2
    cases r with
    | nil =>
      have e2 : l = told ws ps := e1
      rw [← e2] at hto
      omega
    | cons c r =>
      have hc := hokr c (.head _)
      have hokr2 : ∀ c ∈ r, Pc.ok c := fun c h => hokr c (.tail _ h)
      obtain ⟨xx, z, ec⟩ := hhr c (.head _)
      obtain ⟨f1, f2, f3⟩ := F _ _ _ ec
      rw [told_cons] at e1
      have hgr := told_grow r (app l c)
      rw [e1, hto] at hgr
      have hmo := app_more hc l
      have ecb : codB cs (thingP c) = bitsOf xx z := by unfold codB; rw [ec]
      rw [pcsC_cons, show pcC cs c = codB cs (thingP c) ++ backB c from rfl, ecb, List.append_assoc, List.append_assoc] at hdu
      rw [pcsC_cons, show pcC cs c = codB cs (thingP c) ++ backB c from rfl, ecb, List.length_append, List.length_append, bitsOf_length] at hlu
      have hrc := read_code F G ec (backB c ++ (pcsC cs r ++ tail))
      rw [← hdu] at hrc
      obtain ⟨_, t2⟩ := take_at hu hdu f3
      have hd2 := drop_next hdu
      walk_at "go"
      refine ⟨B', _, cr, x, dx, s, u, row, cs, _, z, rfl, h', hC, F, hb, hl, hu, hrc, fun H3 h3 => ?_⟩
      clear h'
      cases c with
      | sign y =>
        obtain ⟨y1, y2⟩ : 0 ≤ y ∧ y ≤ 255 := hc
        have ey : ((thingP (.sign y) : Nat) : Int) = y := by show ((y.toNat : Nat) : Int) = y; omega
        rw [ey]
        have hd2 : List.drop (u + z) (bitsRow row) = pcsC cs r ++ tail := hd2
        have hlu : u + (z + 0 + (pcsC cs r).length) = _ := hlu
        walk_at "go"
        refine c_app0 h3.rot3 (small6 (by rw [List.length_map]; omega)) fun H5 h6 => ?_
        rw [show l.map V.int ++ [V.int y] = (app l (.sign y)).map V.int by show _ = (l ++ [y]).map V.int; rw [List.map_append]; rfl] at h6
        exact ⟨_, by omega, _, _, ⟨app l (.sign y), r, u + z, _, e1, hokr2, hrer, hhr.tail, rfl, by omega, t2, hd2, by omega, rfl, rfl, rfl⟩, h6⟩
      | copy b k =>
        obtain ⟨o1, o2, o3, o4⟩ := hc
        have ey : ((thingP (.copy b k) : Nat) : Int) = 253 + ((k : Nat) : Int) := by show ((253 + k : Nat) : Int) = _; omega
        rw [ey]
        have hd2 : List.drop (u + z) (bitsRow row) = bitsOf b 8 ++ (pcsC cs r ++ tail) := hd2
        have hlu : u + (z + (bitsOf b 8).length + (pcsC cs r).length) = _ := hlu
        rw [bitsOf_length] at hlu
        obtain ⟨t3, t4⟩ := take_at t2 hd2 (by show _ < 256; omega)
        have hd3 := drop_next hd2
        have hcl : (app l (.copy b k)).length = l.length + k := cpy_length b k l
        walk_at "go"
        refine use_take 8 rfl h3 hb hl (by decide) t4 fun H4 h5 => ?_
        rw [t3]
        walk_at "go"
        refine ⟨B', _, f, l, b, k, ws.length + n, ?_, h5.rot3, o1, hrer.1, by omega, by omega, fun H6 h7 => ?_⟩
        · rw [show 253 + ((k : Nat) : Int) - 256 + 3 = ((k : Nat) : Int) by omega]
          rfl
        · exact ⟨_, by omega, _, _, ⟨app l (.copy b k), r, u + z + 8, _, e1, hokr2, hrer.2, hhr.tail, rfl, by omega, t4, hd3, by omega, rfl, rfl, rfl⟩, h7⟩
  · refine i_f (decide_eq_false (by omega)) ?_
    have hr0 : r = [] := by
      cases r with
      | nil => rfl
      | cons c r =>
        rw [told_cons] at e1
        have hgr := told_grow r (app l c)
        have hmo := app_more (hokr c (.head _)) l
        rw [e1, hto] at hgr
        omega
    subst hr0
    have e2 : l = told ws ps := e1
    walk_at "go"
    rename_i p H2 h2
    rw [cut_drop, e2, show u = t1 + (pcsC cs ps).length by simpa [pcsC] using hlu] at h2
    exact q B' ps2 p H2 s2 hT2 h2.drop1
end L2.BR

namespace L2.BR
open PySem PySem.Spec PyProof.Rows L2.BP
variable {K : PySem.W.Frag} {W : WX} {vs : List V} {H : Hp} {Q : VK} {E : XK}
def GoodP (p : Nat × Nat) : Prop := p.2 ≤ 24 ∧ p.1 < 2 ^ p.2
abbrev pairP (p : Nat × Nat) : List V := [.int ((p.1 : Nat) : Int), .int ((p.2 : Nat) : Int)]
def parB (ps : List (Nat × Nat)) : List Bool := ps.flatMap fun p => bitsOf p.1 p.2
theorem parB_append (a b : List (Nat × Nat)) : parB (a ++ b) = parB a ++ parB b := by unfold parB; rw [List.flatMap_append]
theorem parB_take {ps : List (Nat × Nat)} {i : Nat} {p : Nat × Nat} (h : ps[i]? = some p) : parB (ps.take (i + 1)) = parB (ps.take i) ++ bitsOf p.1 p.2 := by
  rw [List.take_add_one, h, parB_append]
  simp [parB]
theorem parB_len : ∀ {ps : List (Nat × Nat)}, (∀ p ∈ ps, GoodP p) → (parB ps).length ≤ 24 * ps.length
  | [], _ => Nat.zero_le _
  | p :: r, h => by
    have h1 := (h p (.head _)).1
    have h2 := parB_len fun q hq => h q (.tail _ hq)
    show (bitsOf p.1 p.2 ++ parB r).length ≤ _
    rw [List.length_append, bitsOf_length, List.length_cons]
    omega
theorem tups_P {α : Type} {f : α → List V} {ps : List α} {acc pre post : List V} {x : V} (h : Tups K H acc (ps.map f)) (e : acc = pre ++ x :: post) : ∃ a p, x = .ref a ∧ ps[pre.length]? = some p ∧ SqT K H a (f p) := by
  subst e
  obtain ⟨a, p1, xs, p2, rfl, e2, e3, e4⟩ := h.split
  have e5 : (ps.map f)[pre.length]? = some xs := by
    rw [e2, ← e3]
    simp
  rw [List.getElem?_map] at e5
  cases e6 : ps[pre.length]? with
  | none => rw [e6] at e5; cases e5
  | some p =>
    rw [e6] at e5
    cases e5
    exact ⟨a, p, rfl, rfl, e4⟩
def sp__law_digits (K : PySem.W.Frag) : Sp := fun vs H Q _ => ∃ (a : Addr) (ws : List V) (ps : List (Nat × Nat)), vs = [.ref a] ∧ SqL K H a ws ∧ Tups K H ws (ps.map pairP) ∧ (∀ p ∈ ps, GoodP p) ∧ ps.length ≤ 8000 ∧ RetV H Q (.str (digS (parB ps)))
theorem len__law_digits (h : sp__law_digits K vs H Q E) : vs.length = 1 := by
  obtain ⟨a, ws, ps, rfl, _⟩ := h
  rfl
def t__law_digits (K : PySem.W.Frag) (W : WX) : TS :=
  (tSeq (tAsg (tC (.str "")) (gName 1))
    (tSeq (tFor (iList K (tVar 0)) (gTup K 2 (gCons (gName 2) (gCons (gName 3) gNil))) (tFor (iRng1 (tCons (tVar 3) tNil)) (gName 4) (tAsg (tOp rAddU (tVar 1) (tOp (rIx K) (tC (.str "01")) (tOp rModU (tOp rDivU (tVar 2) (tOp rShlU (tC (.int 1)) (tOp rSubU (tOp rSubU (tVar 3) (tC (.int 1))) (tVar 4)))) (tC (.int 2))))) (gName 1))))
    (tRet (tVar 1))))
theorem rd__law_digits (h : sp__law_digits K vs H Q E) : t__law_digits K W { nx := fun _ H' => Q .non H', rt := Q } (start ["_law_parts_here", "_law_found", "_law_number", "_law_size", "_law_k"] vs) H := by
  obtain ⟨a, ws, ps, rfl, hS, hT, hg, hl, q⟩ := h
  have hs := Hs.start H
  unfold t__law_digits
  walk_at "go"
  have hxl : ws.length = ps.length := by rw [hT.length, List.length_map]
  refine w_forL id ws (fun pre σ' L' B' => ∃ w2 w3 w4, σ' = [some (.ref a), some (.str (digS (parB (ps.take pre.length)))), w2, w3, w4] ∧ B' = H ∧ L' = []) hs ⟨none, none, none, by rw [digS_nil]; rfl, rfl, rfl⟩ ?_ ?_ ?_
  · rintro pre post σ' L' B' H' _ ⟨w2, w3, w4, _, rfl, rfl⟩ h
    rw [List.map_id]
    exact h.bl hS
  · rintro pre y post σ' L' B' H' e ⟨w2, w3, w4, rfl, rfl, rfl⟩ h
    obtain ⟨u, p, rfl, hp, hu⟩ := tups_P hT e
    have hu' := h.bt hu
    obtain ⟨hg1, hg2⟩ := hg p (List.mem_of_getElem? hp)
    have hb := parB_len (ps := ps.take pre.length) (fun p hp => hg p (List.mem_of_mem_take hp))
    rw [List.length_take] at hb
    rw [id_eq]
    walk_at "go"
    refine ⟨_, rfl, by omega, by omega, ?_⟩
    rw [Int.toNat_natCast]
    refine w_forR (fun j σ' L' B'' => ∃ w4, σ' = [some (.ref a), some (.str (digS (parB (ps.take pre.length) ++ (bitsOf p.1 p.2).take j))), some (.int ((p.1 : Nat) : Int)), some (.int ((p.2 : Nat) : Int)), w4] ∧ B'' = B' ∧ L' = []) h ⟨_, by rw [List.take_zero, List.append_nil]; rfl, rfl, rfl⟩ ?_ ?_
    · rintro j σ' L' B'' H2 hj ⟨w4, rfl, rfl, rfl⟩ h2
      have e1 : (1 * 2 ^ (((p.2 : Nat) : Int) - 1 - (0 + ((j : Nat) : Int))).toNat : Int) = ((2 ^ (p.2 - 1 - j) : Nat) : Int) := by
        rw [show (((p.2 : Nat) : Int) - 1 - (0 + ((j : Nat) : Int))).toNat = p.2 - 1 - j by omega]
        push_cast
        omega
      have e2 : 2 ^ (p.2 - 1 - j) ≤ 2 ^ 24 := Nat.pow_le_pow_right (by decide) (by omega)
      have e3 : 0 < 2 ^ (p.2 - 1 - j) := Nat.two_pow_pos _
      walk_at "go"
      rw [e1]
      rw [show ((p.1 : Nat) : Int) / ((2 ^ (p.2 - 1 - j) : Nat) : Int) = ((p.1 / 2 ^ (p.2 - 1 - j) : Nat) : Int) by push_cast; rfl]
      rw [show ((p.1 / 2 ^ (p.2 - 1 - j) : Nat) : Int) % 2 = ((p.1 / 2 ^ (p.2 - 1 - j) % 2 : Nat) : Int) by push_cast; rfl]
      refine c_ixS (by decide +kernel) dig_at ?_
      rw [dig_S]
      refine c_addS (small6' (by rw [digS_len, digS_len, List.length_append, List.length_take, List.length_singleton, bitsOf_length]; omega)) ?_
      rw [digS_app, List.append_assoc, ← bits_take _ hj]
      walk_at "go"
      exact ⟨_, _, ⟨_, rfl, rfl, rfl⟩, h2⟩
    · rintro σ' L' B'' H2 ⟨w4, rfl, rfl, rfl⟩ h2
      rw [List.take_of_length_le (l := bitsOf p.1 p.2) (i := p.2) (by rw [bitsOf_length]; exact Nat.le_refl _), ← parB_take hp]
      exact ⟨_, _, ⟨_, _, _, by rw [List.length_append, List.length_singleton], rfl, rfl⟩, h2⟩
  · rintro σ' L' B' H' ⟨w2, w3, w4, rfl, rfl, rfl⟩ h
    walk_at "go"
    rw [hxl, List.take_of_length_le (Nat.le_refl _)]
    exact q _ h.ex
def sp__law_row_of (K : PySem.W.Frag) : Sp := fun vs H Q _ => ∃ (b : List Bool), vs = [.str (digS b)] ∧ b.length ≤ 100000 ∧ RetL H Q ((rowOf b).map V.int)
theorem len__law_row_of (h : sp__law_row_of K vs H Q E) : vs.length = 1 := by
  obtain ⟨b, rfl, _⟩ := h
  rfl
def t__law_row_of (K : PySem.W.Frag) (W : WX) : TS :=
  (tSeq (tAsg (tLst tNil) (gName 1))
    (tSeq (tAsg (tOp rAddU (tVar 0) (tOp rMulU (tC (.str "0")) (tOp rModU (tOp rSubU (tC (.int 8)) (tOp rModU (tCB (rLenK K) (tCons (tVar 0) tNil)) (tC (.int 8)))) (tC (.int 8))))) (gName 2))
    (tSeq (tFor (iRng3 (tCons (tC (.int 0)) (tCons (tCB (rLenK K) (tCons (tVar 2) tNil)) (tCons (tC (.int 8)) tNil)))) (gName 3) (tSeq (tAsg (tC (.int 0)) (gName 4))
    (tSeq (tFor (iStr (tSl (rSlK K) (tVar 2) (tPart (tVar 3)) (tPart (tOp rAddU (tVar 3) (tC (.int 8)))))) (gName 5) (tAsg (tOp rAddU (tOp rMulU (tC (.int 2)) (tVar 4)) (tCB (rIntK) (tCons (tOp (rEqU K) (tVar 5) (tC (.str "1"))) tNil))) (gName 4)))
    (tDrop (tBM K "list" rAppend (tVar 1) (tCons (tVar 4) tNil))))))
    (tRet (tVar 1)))))
theorem rd__law_row_of (h : sp__law_row_of K vs H Q E) : t__law_row_of K W { nx := fun _ H' => Q .non H', rt := Q } (start ["_law_digits_here", "_law_found", "_law_filled", "_law_k", "_law_number", "_law_digit"] vs) H := by
  obtain ⟨b, rfl, hb, q⟩ := h
  have hs := Hs.start H
  have hpl := pad8_length b
  unfold t__law_row_of
  walk_at "go"
  refine c_lenS (small6' (by rw [digS_len]; omega)) ?_
  rw [digS_len]
  walk_at "go"
  refine c_repS (n := (8 - b.length % 8) % 8) (by omega) (by omega) (by decide +kernel) (by rw [digS_rep (Nat.mod_lt _ (by decide)), digS_len, List.length_replicate]; omega) ?_
  rw [digS_rep (Nat.mod_lt _ (by decide))]
  refine c_addS (small6' (by rw [digS_len, digS_len, List.length_replicate]; omega)) ?_
  rw [digS_app, show b ++ List.replicate ((8 - b.length % 8) % 8) false = pad8 b from rfl]
  walk_at "go"
  refine c_lenS (small6' (by rw [digS_len, hpl]; omega)) ?_
  rw [digS_len, hpl]
  walk_at "go"
  refine c_rcO ((b.length + 7) / 8) (rgC8 (by omega) (by omega)) ?_
  rename_i f H1 h1
  refine w_forC (fun i σ' L' B' => ∃ w3 w4 w5, σ' = [some (.str (digS b)), some (.ref f), some (.str (digS (pad8 b))), w3, w4, w5] ∧ B' = H ∧ L' = [(f, .lst ((wholeTo (pad8 b) i).map V.int))]) h1 ⟨none, none, none, rfl, rfl, rfl⟩ ?_ ?_
  · rintro i σ' L' B' H' hi ⟨w3, w4, w5, rfl, rfl, rfl⟩ h
    walk_at "go"
    refine c_slS (small6' (by rw [digS_len, hpl]; omega)) ?_
    rw [digS_cut _ (m := 8 * i) (n := 8 * i + 8) (by omega) (by omega) (by omega) (by omega), show 8 * i + 8 - 8 * i = 8 by omega]
    walk_at "go"
    refine w_forS (fun j σ' L' B'' => ∃ w5, σ' = [some (.str (digS b)), some (.ref f), some (.str (digS (pad8 b))), some (.int (0 + ((i : Nat) : Int) * 8)), some (.int ((numOf ((((pad8 b).drop (8 * i)).take 8).take j) : Nat) : Int)), w5] ∧ B'' = B' ∧ L' = [(f, .lst ((wholeTo (pad8 b) i).map V.int))]) h ⟨_, rfl, rfl, rfl⟩ ?_ ?_
    · rintro j c σ' L' B'' H2 hc ⟨w5, rfl, rfl, rfl⟩ h2
      obtain ⟨x, hx, rfl⟩ := digS_at hc
      walk_at "go"
      rw [dig_one]
      walk_at "go"
      refine ⟨_, _, ⟨some (.str ⟨#[dig x]⟩), ?_, rfl, rfl⟩, h2⟩
      rw [num_take hx]
      cases x <;> rfl
    · rintro σ' L' B'' H2 ⟨w5, rfl, rfl, rfl⟩ h2
      rw [List.take_of_length_le (by show _ ≤ (digS _).length; rw [digS_len]; exact Nat.le_refl _)]
      walk_at "go"
      refine c_app0 h2 (small6 (by rw [List.length_map, wholeTo_length]; omega)) fun H3 h3 => ?_
      walk_at "go"
      refine ⟨_, _, ⟨_, _, _, rfl, rfl, ?_⟩, h3⟩
      rw [wholeTo_succ, List.map_append]
      rfl
  · rintro σ' L' B' H' ⟨w3, w4, w5, rfl, rfl, rfl⟩ h
    walk_at "go"
    exact h.rl (.head _) q
end L2.BR

namespace L2.BR
open PySem PySem.Spec PyProof.Rows L2.BP
variable {K : PySem.W.Frag} {W : WX} {vs : List V} {H : Hp} {Q : VK} {E : XK}
/-! ### drawn numbers, signs, texts behind windows -/
def sp__law_drawn (K : PySem.W.Frag) : Sp := fun vs H Q _ => ∃ c k : Int, vs = [.int c, .int k] ∧ 0 ≤ k ∧ k ≤ 100000 ∧ ∀ m : Int, 0 ≤ m → Q (.int m) H
theorem len__law_drawn (h : sp__law_drawn K vs H Q E) : vs.length = 2 := by
  obtain ⟨c, k, rfl, _⟩ := h
  rfl
def t__law_drawn (K : PySem.W.Frag) (W : WX) : TS :=
  (tSeq (tAsg (tOp rModU (tOp rMulU (tOp rAddU (tOp rAddU (tOp rAddU (tVar 0) (tOp rMulU (tOp rMulU (tC (.int 101)) (tVar 1)) (tVar 1))) (tOp rMulU (tC (.int 7)) (tVar 1))) (tC (.int 13))) (tC (.int 48271))) (tC (.int 2147483647))) (gName 2))
    (tRet (tOp rDivU (tOp rModU (tOp rMulU (tOp rAddU (tOp rDivU (tVar 2) (tC (.int 7))) (tVar 1)) (tC (.int 16807))) (tC (.int 2147483629))) (tC (.int 64)))))
theorem rd__law_drawn (h : sp__law_drawn K vs H Q E) : t__law_drawn K W { nx := fun _ H' => Q .non H', rt := Q } (start ["_law_seed", "_law_k", "_law_mixed"] vs) H := by
  obtain ⟨c, k, rfl, h0, h1, q⟩ := h
  have hs := Hs.start H
  unfold t__law_drawn
  walk_at "go"
  exact q _ (by omega)
theorem bytes_at {ns : List Int} {i : Nat} (h : Bytes ns) (hi : i < ns.length) : 0 ≤ ns.getD i 0 ∧ ns.getD i 0 ≤ 255 := by
  rw [List.getD_eq_getElem?_getD, List.getElem?_eq_getElem hi]
  exact h _ (List.getElem_mem hi)
theorem bytes_snoc {ns : List Int} {x : Int} (h : Bytes ns) (hx : 0 ≤ x ∧ x ≤ 255) : Bytes (ns ++ [x]) := fun n hn => by
  rcases List.mem_append.mp hn with z | z
  · exact h n z
  · rw [List.mem_singleton.mp z]
    exact hx
theorem at_last {ns : List Int} (h : ns ≠ []) : atI (ns.map V.int) (-1) = some (.int (ns.getD (ns.length - 1) 0)) := by
  have hl : 0 < ns.length := List.length_pos_iff.mpr h
  have e : ixN (ns.map V.int).length (-1) = some (ns.length - 1) := by
    unfold ixN
    rw [List.length_map, if_neg (by decide), if_pos (by omega)]
    congr 1
    omega
  unfold atI
  rw [e]
  show (ns.map V.int)[ns.length - 1]? = _
  rw [List.getElem?_map, List.getElem?_eq_getElem (by omega), List.getD_eq_getElem?_getD, List.getElem?_eq_getElem (by omega)]
  rfl
def sp__law_signs (K : PySem.W.Frag) : Sp := fun vs H Q _ => ∃ (c : Int) (z : Nat) (j : Int) (a : Addr) (ns : List Int), vs = [.int c, .int j, .ref a] ∧ j = ((z : Nat) : Int) ∧ SqL K H a (ns.map V.int) ∧ Bytes ns ∧ ns.length ≤ 1000 ∧ z ≤ 1000 ∧
  ∀ ts : List Int, Bytes ts → ts.length = z → RetL H Q (ts.map V.int)
theorem len__law_signs (h : sp__law_signs K vs H Q E) : vs.length = 3 := by
  obtain ⟨c, z, j, a, ns, rfl, _⟩ := h
  rfl
def t__law_signs (K : PySem.W.Frag) (W : WX) : TS :=
  (tSeq (tAsg (tCB (rListK K) (tCons (tVar 2) tNil)) (gName 3))
    (tSeq (tAsg (tLc (iRng1 (tCons (tOp rAddU (tC (.int 1)) (tOp rModU (tOp rDivU (tVar 0) (tC (.int 4))) (tC (.int 6)))) tNil)) (gName 4) tYes (tOp rModU (tCl (sp__law_drawn K) [] WF (tCons (tVar 0) (tCons (tOp rAddU (tC (.int 300)) (tVar 4)) tNil))) (tC (.int 256))) [4]) (gName 5))
    (tSeq (tAsg (tOp rAddU (tC (.int 1)) (tOp rModU (tCl (sp__law_drawn K) [] W (tCons (tVar 0) (tCons (tC (.int 400)) tNil))) (tCB (rMax2K) (tCons (tC (.int 1)) (tCons (tOp rAddU (tCB (rLenK K) (tCons (tVar 2) tNil)) (tC (.int 9))) tNil))))) (gName 6))
    (tSeq (tFor (iRng1 (tCons (tVar 1) tNil)) (gName 4) (tSeq (tAsg (tCl (sp__law_drawn K) [] W (tCons (tVar 0) (tCons (tVar 4) tNil))) (gName 7))
    (tSeq (tAsg (tOp (rIx K) (tVar 5) (tOp rModU (tVar 7) (tCB (rLenK K) (tCons (tVar 5) tNil)))) (gName 8))
    (Evl.tCut (tIfS (tTest (tOp (rEqU K) (tOp rModU (tVar 0) (tC (.int 4))) (tC (.int 0)))) (tAsg (tOp rModU (tVar 7) (tC (.int 256))) (gName 8)) (tIfS ((tAnd (tTest (tOp (rEqU K) (tOp rModU (tVar 0) (tC (.int 4))) (tC (.int 2)))) (tAnd (tTest (tOp rGtU (tOp rModU (tOp rDivU (tVar 7) (tC (.int 8))) (tC (.int 5))) (tC (.int 0)))) (tTest (tOp (rNeU K) (tVar 3) (tLst tNil)))))) (tAsg (tOp (rIx K) (tVar 3) (tUn rNegU (tC (.int 1)))) (gName 8)) (tIfS ((tAnd (tTest (tOp (rEqU K) (tOp rModU (tVar 0) (tC (.int 4))) (tC (.int 3)))) (tAnd (tTest (tOp rGtU (tOp rModU (tOp rDivU (tVar 7) (tC (.int 8))) (tC (.int 9))) (tC (.int 0)))) (tTest (tOp rLeU (tVar 6) (tCB (rLenK K) (tCons (tVar 3) tNil))))))) (tAsg (tOp (rIx K) (tVar 3) (tOp rSubU (tCB (rLenK K) (tCons (tVar 3) tNil)) (tVar 6))) (gName 8)) tNext)))
    (tDrop (tBM K "list" rAppend (tVar 3) (tCons (tVar 8) tNil)))))))
    (tRet (tSl (rSlK K) (tVar 3) (tPart (tCB (rLenK K) (tCons (tVar 2) tNil))) tNoPart))))))
theorem rd__law_signs (h : sp__law_signs K vs H Q E) : t__law_signs K W { nx := fun _ H' => Q .non H', rt := Q } (start ["_law_cell", "_law_size", "_law_ahead", "_law_found", "_law_k", "_law_some", "_law_back", "_law_number", "_law_sign"] vs) H := by
  obtain ⟨c, z, j, a, ns, rfl, rfl, hS, hb, hl, hz, q⟩ := h
  have hs := Hs.start H
  unfold t__law_signs
  walk_at "go"
  rename_i f H1 h1
  refine ⟨_, rfl, by omega, by omega, ?_⟩
  obtain ⟨k, ek, hk1, hk2⟩ : ∃ k : Nat, (1 + c / 4 % 6).toNat = k ∧ 1 ≤ k ∧ k ≤ 6 := ⟨_, rfl, by omega, by omega⟩
  rw [ek]
  refine c_lcR (fun i acc B' => (∃ ts : List Int, Bytes ts ∧ ts.length = i ∧ acc = ts.map V.int) ∧ B' = H) h1 ⟨⟨[], fun _ h => (nomatch h), rfl, rfl⟩, rfl⟩ ?_ ?_
  · rintro i acc B' D H2 hi ⟨⟨ts, hb, htl, rfl⟩, rfl⟩ _ h
    walk_at "go"
    refine ⟨rfl, ?_⟩
    walk_at "go"
    refine ⟨_, _, rfl, by omega, by omega, fun y hy => ?_⟩
    walk_at "go"
    exact c_item h (small5 (by rw [List.length_map]; omega)) (Same.refl _) ⟨⟨ts ++ [y % 256], bytes_snoc hb ⟨by omega, by omega⟩, by rw [List.length_append, List.length_singleton, htl], by rw [List.map_append]; rfl⟩, rfl⟩
  rintro acc B' D H2 ⟨⟨ss, hsb, hsl, rfl⟩, rfl⟩ _ h2
  have hS2 := h2.bl hS
  clear h1 hs
  walk_at "go"
  refine ⟨_, _, rfl, by omega, by omega, fun y hy => ?_⟩
  walk_at "go"
  rw [List.length_map]
  obtain ⟨mx, emx, hmx⟩ : ∃ mx : Int, (if ((ns.length : Nat) : Int) + 9 > 1 then ((ns.length : Nat) : Int) + 9 else 1) = mx ∧ 0 < mx := by
    refine ⟨_, rfl, ?_⟩
    split <;> omega
  rw [emx]
  have hbk := Int.emod_nonneg y (show mx ≠ 0 by omega)
  walk_at "go"
  generalize y % mx = bk at *
  refine ⟨_, rfl, by omega, by omega, ?_⟩
  rw [Int.toNat_natCast]
  refine w_forR (fun i σ' L' B'' => ∃ (r : List Int) (w4 w7 w8 : Option V), Bytes r ∧ r.length = i ∧ σ' = [some (.int c), some (.int ((z : Nat) : Int)), some (.ref a), some (.ref f), w4, some (.ref D), some (.int (1 + bk)), w7, w8] ∧ B'' = B' ∧ L' = [(D, .lst (ss.map V.int)), (f, .lst ((ns ++ r).map V.int))]) h2
    ⟨[], none, none, none, fun _ h => (nomatch h), rfl, rfl, rfl, by rw [List.append_nil]⟩ ?_ ?_
  · rintro i σ' L' B'' H3 hi ⟨r, w4, w7, w8, hrb, hrl, rfl, rfl, rfl⟩ h3
    have hfb : Bytes (ns ++ r) := fun n hn => by
      rcases List.mem_append.mp hn with q | q
      · exact hb n q
      · exact hrb n q
    walk_at "go"
    refine ⟨_, _, rfl, by omega, by omega, fun y hy => ?_⟩
    walk_at "go"
    rw [List.length_map]
    have hsl' : ((ss.length : Nat) : Int) ≠ 0 := by omega
    have m1 := Int.emod_nonneg y hsl'
    have m2 := Int.emod_lt_of_pos y (show (0 : Int) < ((ss.length : Nat) : Int) by omega)
    have i1 : atI (ss.map V.int) (y % ((ss.length : Nat) : Int)) = some (.int (ss.getD (y % ((ss.length : Nat) : Int)).toNat 0)) := at_i (by omega) (by omega)
    have hx1 := bytes_at (i := (y % ((ss.length : Nat) : Int)).toNat) hsb (by omega)
    walk_at "go"
    generalize ss.getD (y % ((ss.length : Nat) : Int)).toNat 0 = x1 at *
    refine w_cut (fun σ2 H4 => ∃ x : Int, 0 ≤ x ∧ x ≤ 255 ∧ Hs B'' [(D, .lst (ss.map V.int)), (f, .lst ((ns ++ r).map V.int))] H4 ∧ σ2 = [some (.int c), some (.int ((z : Nat) : Int)), some (.ref a), some (.ref f), some (.int (0 + ((i : Nat) : Int))), some (.ref D), some (.int (1 + bk)), some (.int y), some (.int x)]) ?_ ?_
    · walk_at "go"
      refine i_2 (fun c1 => ?_) (fun c1 => ?_)
      · walk_at "go"
        exact ⟨y % 256, by omega, by omega, h3, rfl⟩
      · walk_at "go"
        refine i_2 (fun c2 => ?_) (fun c2 => ?_)
        · walk_at "go"
          refine i_2 (fun c3 => ?_) (fun c3 => ?_)
          · walk_at "go"
            rename_i e H4 h4
            refine c_neL (ns ++ r) [] (h4.sql (.tail _ (.tail _ (.head _)))) (h4.sql (.head _)) ?_
            refine c_bl ?_
            have h5 := h4.drop
            clear h4
            by_cases c4 : ns ++ r = []
            · refine i_f (by rw [decide_eq_true c4]; rfl) ?_
              walk_at "go"
              refine i_2 (fun c5 => ?_) (fun c5 => ?_)
              · walk_at "go"
                refine i_2 (fun c6 => ?_) (fun c6 => ?_)
                · walk_at "go"
                  rw [List.length_map]
                  refine i_2 (fun c7 => ?_) (fun c7 => ?_)
                  · have c7 := of_decide_eq_true c7
                    have hlt : (((ns ++ r).length : Nat) - (1 + bk)).toNat < (ns ++ r).length := by omega
                    have hx3 := bytes_at hfb hlt
                    walk_at "go"
                    rw [List.length_map]
                    refine c_ixL (h5.sql (.tail _ (.head _))) (at_i (k := (((ns ++ r).length : Nat) - (1 + bk)).toNat) (by omega) hlt) ?_
                    walk_at "go"
                    exact ⟨_, hx3.1, hx3.2, h5, rfl⟩
                  · walk_at "go"
                    exact ⟨x1, hx1.1, hx1.2, h5, rfl⟩
                · walk_at "go"
                  exact ⟨x1, hx1.1, hx1.2, h5, rfl⟩
              · walk_at "go"
                exact ⟨x1, hx1.1, hx1.2, h5, rfl⟩
            · refine i_t (by rw [decide_eq_false c4]; rfl) ?_
              have hx4 := bytes_at (i := (ns ++ r).length - 1) hfb (by have := List.length_pos_iff.mpr c4; omega)
              walk_at "go"
              refine c_ixL (h5.sql (.tail _ (.head _))) (at_last c4) ?_
              walk_at "go"
              exact ⟨_, hx4.1, hx4.2, h5, rfl⟩
          · skip
            walk_at "go"
            refine i_2 (fun c5 => ?_) (fun c5 => ?_)
            · walk_at "go"
              refine i_2 (fun c6 => ?_) (fun c6 => ?_)
              · walk_at "go"
                rw [List.length_map]
                refine i_2 (fun c7 => ?_) (fun c7 => ?_)
                · have c7 := of_decide_eq_true c7
                  have hlt : (((ns ++ r).length : Nat) - (1 + bk)).toNat < (ns ++ r).length := by omega
                  have hx3 := bytes_at hfb hlt
                  walk_at "go"
                  rw [List.length_map]
                  refine c_ixL (h3.sql (.tail _ (.head _))) (at_i (k := (((ns ++ r).length : Nat) - (1 + bk)).toNat) (by omega) hlt) ?_
                  walk_at "go"
                  exact ⟨_, hx3.1, hx3.2, h3, rfl⟩
                · walk_at "go"
                  exact ⟨x1, hx1.1, hx1.2, h3, rfl⟩
              · walk_at "go"
                exact ⟨x1, hx1.1, hx1.2, h3, rfl⟩
            · walk_at "go"
              exact ⟨x1, hx1.1, hx1.2, h3, rfl⟩
        · skip
          walk_at "go"
          refine i_2 (fun c5 => ?_) (fun c5 => ?_)
          · walk_at "go"
            refine i_2 (fun c6 => ?_) (fun c6 => ?_)
            · walk_at "go"
              rw [List.length_map]
              refine i_2 (fun c7 => ?_) (fun c7 => ?_)
              · have c7 := of_decide_eq_true c7
                have hlt : (((ns ++ r).length : Nat) - (1 + bk)).toNat < (ns ++ r).length := by omega
                have hx3 := bytes_at hfb hlt
                walk_at "go"
                rw [List.length_map]
                refine c_ixL (h3.sql (.tail _ (.head _))) (at_i (k := (((ns ++ r).length : Nat) - (1 + bk)).toNat) (by omega) hlt) ?_
                walk_at "go"
                exact ⟨_, hx3.1, hx3.2, h3, rfl⟩
              · walk_at "go"
                exact ⟨x1, hx1.1, hx1.2, h3, rfl⟩
            · walk_at "go"
              exact ⟨x1, hx1.1, hx1.2, h3, rfl⟩
          · walk_at "go"
            exact ⟨x1, hx1.1, hx1.2, h3, rfl⟩
    · rintro σ2 H4 ⟨x, hx0, hx2, h4, rfl⟩
      walk_at "go"
      refine c_app1 h4 (small6 (by rw [List.length_map, List.length_append]; omega)) fun H5 h5 => ?_
      walk_at "go"
      refine ⟨_, _, ⟨r ++ [x], _, _, _, bytes_snoc hrb ⟨hx0, hx2⟩, by rw [List.length_append, List.length_singleton, hrl], rfl, rfl, ?_⟩, h5⟩
      rw [← List.append_assoc, List.map_append (l₁ := ns ++ r)]
      rfl
  · rintro σ' L' B'' H3 ⟨r, w4, w7, w8, hrb, hrl, rfl, rfl, rfl⟩ h3
    have hS3 := h3.bl hS
    walk_at "go"
    rename_i p H4 h4
    rw [List.length_map, cut_drop, List.drop_left] at h4
    exact h4.rl (.head _) (q r hrb hrl)
def sp__law_text_by (K : PySem.W.Frag) : Sp := fun vs H Q _ => ∃ (a : Addr) (ns : List Int) (k : Int), vs = [.ref a, .int k] ∧ SqL K H a (ns.map V.int) ∧ 0 ≤ k ∧ k ≤ 1000 ∧
  ∀ (ts ws : List Int) (p t w : Addr) (H' : Hp), Bytes ts → Bytes ws → 1 ≤ ts.length → ts.length ≤ 64 → ws.length ≤ 192 → Same H H' → SqT K H' p [.ref t, .ref w] → H' t = some (.lst (ts.map V.int)) → H' w = some (.lst (ws.map V.int)) → Q (.ref p) H'
theorem len__law_text_by (h : sp__law_text_by K vs H Q E) : vs.length = 2 := by
  obtain ⟨a, ns, k, rfl, _⟩ := h
  rfl
def t__law_text_by (K : PySem.W.Frag) (W : WX) : TS :=
  (tSeq (tAsg (tCl (sp__law_cell_at K) [] W (tCons (tVar 0) (tCons (tVar 1) tNil))) (gName 2))
    (tSeq (tAsg (tOp (rIx K) (tLst (tCons (tC (.int 0)) (tCons (tOp rModU (tOp rDivU (tVar 2) (tC (.int 8))) (tC (.int 31))) (tCons (tOp rModU (tOp rDivU (tVar 2) (tC (.int 8))) (tC (.int 31))) (tCons (tC (.int 0)) tNil))))) (tOp rModU (tVar 2) (tC (.int 4)))) (gName 3))
    (tSeq (tAsg (tOp rAddU (tC (.int 1)) (tOp rModU (tOp rDivU (tVar 2) (tC (.int 300))) (tC (.int 24)))) (gName 4))
    (Evl.tCut (tIfS (tTest (tOp (rEqU K) (tOp rModU (tOp rDivU (tVar 2) (tC (.int 4))) (tC (.int 16))) (tC (.int 5)))) (tSeq (tAsg (tOp rAddU (tC (.int 160)) (tOp rModU (tOp rDivU (tVar 2) (tC (.int 64))) (tC (.int 33)))) (gName 3))
    (tAsg (tOp rAddU (tC (.int 1)) (tOp rModU (tOp rDivU (tVar 2) (tC (.int 64))) (tC (.int 9)))) (gName 4))) tNext)
    (Evl.tCut (tIfS (tTest (tOp (rEqU K) (tOp rModU (tOp rDivU (tVar 2) (tC (.int 4))) (tC (.int 16))) (tC (.int 6)))) (tSeq (tAsg (tC (.int 0)) (gName 3))
    (tAsg (tOp rSubU (tC (.int 64)) (tOp rModU (tOp rDivU (tVar 2) (tC (.int 64))) (tC (.int 9)))) (gName 4))) tNext)
    (tSeq (tAsg (tCl (sp__law_signs K) [] W (tCons (tCl (sp__law_cell_at K) [] W (tCons (tVar 0) (tCons (tOp rAddU (tVar 1) (tC (.int 1))) tNil))) (tCons (tVar 3) (tCons (tLst tNil) tNil)))) (gName 5))
    (tRet (tTup (tCons (tCl (sp__law_signs K) [] W (tCons (tCl (sp__law_cell_at K) [] W (tCons (tVar 0) (tCons (tOp rAddU (tVar 1) (tC (.int 2))) tNil))) (tCons (tVar 4) (tCons (tVar 5) tNil)))) (tCons (tVar 5) tNil))))))))))
theorem rd__law_text_by (h : sp__law_text_by K vs H Q E) : t__law_text_by K W { nx := fun _ H' => Q .non H', rt := Q } (start ["_law_script", "_law_first", "_law_cell", "_law_wide", "_law_size", "_law_before"] vs) H := by
  obtain ⟨a, ns, k, rfl, hS, hk, hk2, q⟩ := h
  have hs := Hs.start H
  unfold t__law_text_by
  walk_at "go"
  refine ⟨a, ns, k, rfl, hS, hk, ?_⟩
  generalize cellAt ns k = c
  walk_at "go"
  rename_i l H1 h1
  obtain ⟨wd, ewd, hwd⟩ : ∃ wd : Int, atI [V.int 0, V.int (c / 8 % 31), V.int (c / 8 % 31), V.int 0] (c % 4) = some (.int wd) ∧ 0 ≤ wd ∧ wd ≤ 30 := by
    have hj : c % 4 = 0 ∨ c % 4 = 1 ∨ c % 4 = 2 ∨ c % 4 = 3 := by omega
    rcases hj with e | e | e | e <;> rw [e]
    · exact ⟨0, rfl, by omega, by omega⟩
    · exact ⟨c / 8 % 31, rfl, by omega, by omega⟩
    · exact ⟨c / 8 % 31, rfl, by omega, by omega⟩
    · exact ⟨0, rfl, by omega, by omega⟩
  refine c_ixL (h1.sql (.head _)) ewd ?_
  have h2 := h1.drop
  clear h1
  walk_at "go"
  refine w_cut (fun σ2 H2 => ∃ wd sz : Int, 0 ≤ wd ∧ wd ≤ 192 ∧ 1 ≤ sz ∧ sz ≤ 64 ∧ Hs H [] H2 ∧ σ2 = [some (.ref a), some (.int k), some (.int c), some (.int wd), some (.int sz), none]) ?_ ?_
  · walk_at "go"
    refine i_2 (fun _ => ?_) (fun _ => ?_)
    · walk_at "go"
      exact ⟨160 + c / 64 % 33, 1 + c / 64 % 9, by omega, by omega, by omega, by omega, h2, rfl⟩
    · walk_at "go"
      exact ⟨wd, 1 + c / 300 % 24, by omega, by omega, by omega, by omega, h2, rfl⟩
  rintro σ2 H2 ⟨wd, sz, w1, w2, s1, s2, h3, rfl⟩
  clear h2 ewd hwd
  walk_at "go"
  refine w_cut (fun σ2 H2 => ∃ wd sz : Int, 0 ≤ wd ∧ wd ≤ 192 ∧ 1 ≤ sz ∧ sz ≤ 64 ∧ Hs H [] H2 ∧ σ2 = [some (.ref a), some (.int k), some (.int c), some (.int wd), some (.int sz), none]) ?_ ?_
  · walk_at "go"
    refine i_2 (fun _ => ?_) (fun _ => ?_)
    · walk_at "go"
      exact ⟨0, 64 - c / 64 % 9, by omega, by omega, by omega, by omega, h3, rfl⟩
    · walk_at "go"
      exact ⟨wd, sz, w1, w2, s1, s2, h3, rfl⟩
  rintro σ2 H3 ⟨wd, sz, w1, w2, s1, s2, h4, rfl⟩
  clear h3
  obtain ⟨wd, rfl⟩ := Int.eq_ofNat_of_zero_le w1
  obtain ⟨sz, rfl⟩ := Int.eq_ofNat_of_zero_le (show 0 ≤ sz by omega)
  have hS4 := h4.bl hS
  walk_at "go"
  refine ⟨a, ns, _, rfl, hS4, by omega, ?_⟩
  walk_at "go"
  rename_i e H4 h5
  refine ⟨_, wd, _, e, [], rfl, rfl, h5.sql (.head _), fun _ h => (nomatch h), by decide, by omega, fun ws hwb hwl => retL h5 fun w H5 h6 => ?_⟩
  have h7 := h6.drop1
  have hS6 := h6.bl hS
  clear h6 h5
  walk_at "go"
  refine ⟨a, ns, _, rfl, hS6, by omega, ?_⟩
  walk_at "go"
  refine ⟨_, sz, _, w, ws, rfl, rfl, h7.sql (.head _), hwb, by omega, by omega, fun ts htb htl => retL h7 fun t H6 h8 => ?_⟩
  walk_at "go"
  rename_i p H7 h9
  exact q ts ws p t w H7 htb hwb (by omega) (by omega) (by omega) h9.ex (h9.sqt (.head _)) (h9.get (.tail _ (.head _))) (h9.get (.tail _ (.tail _ (.head _))))
end L2.BR

namespace L2.BR
open PySem PySem.Spec PyProof.Rows L2.BP
/-! ### codes length by length, as laws count them -/
theorem lawFold_len (ws : List Int) (n : Nat) : (lawFold ws n).2.length = ws.length := by
  have step : ∀ (L : Nat) (l : List Nat) (s : Nat × List (Option (Nat × Nat))), (l.foldl (lstep L) s).2.length = s.2.length := fun L l => by
    induction l with
    | nil => intro s; rfl
    | cons p l ih =>
      intro s
      rw [List.foldl_cons, ih]
      exact List.length_set ..
  have rnd : ∀ (l : List Nat) (s : Nat × List (Option (Nat × Nat))), (l.foldl (lround ws) s).2.length = s.2.length := fun l => by
    induction l with
    | nil => intro s; rfl
    | cons p l ih =>
      intro s
      rw [List.foldl_cons, ih]
      exact step _ _ _
  unfold lawFold
  rw [rnd]
  exact List.length_replicate ..
/-- the places of one length, so far -/
def inr (ws : List Int) (L : Nat) (s : Nat × List (Option (Nat × Nat))) (j : Nat) : Nat × List (Option (Nat × Nat)) := ((List.range j).filter fun p => decide (ws.getD p 0 = ((L : Nat) : Int))).foldl (lstep L) (s.1 * 2, s.2)
theorem inr_t {ws : List Int} {L j : Nat} {s : Nat × List (Option (Nat × Nat))} (h : ws.getD j 0 = ((L : Nat) : Int)) : inr ws L s (j + 1) = lstep L (inr ws L s j) j := by
  unfold inr
  rw [List.range_succ, List.filter_append, List.filter_cons, List.filter_nil, if_pos (decide_eq_true h), List.foldl_append]
  rfl
theorem inr_f {ws : List Int} {L j : Nat} {s : Nat × List (Option (Nat × Nat))} (h : ¬ ws.getD j 0 = ((L : Nat) : Int)) : inr ws L s (j + 1) = inr ws L s j := by
  unfold inr
  rw [List.range_succ, List.filter_append, List.filter_cons, List.filter_nil, if_neg (by rw [decide_eq_true_eq]; exact h), List.append_nil]
theorem lround_none {ws : List Int} {s : Nat × List (Option (Nat × Nat))} {L : Nat} (h : ∀ p, p < ws.length → ws.getD p 0 ≠ ((L : Nat) : Int)) : lround ws s L = (s.1 * 2, s.2) := by
  unfold lround
  rw [List.filter_eq_nil_iff.mpr fun p hp => by
    rw [decide_eq_true_eq]
    exact h p (List.mem_range.mp hp)]
  rfl
theorem lawFold_succ (ws : List Int) (i : Nat) : lawFold ws (i + 1) = lround ws (lawFold ws i) (i + 1) := by
  unfold lawFold
  rw [List.range_succ, List.map_append, List.foldl_append]
  rfl
theorem law_codes6 {ws : List Int} (hw : ∀ n ∈ ws, 0 ≤ n ∧ n ≤ 6) : (lawFold ws 6).2 = codesOf ws := by
  have step : ∀ n, 6 ≤ n → (lawFold ws (n + 1)).2 = (lawFold ws n).2 := fun n hn => by
    rw [lawFold_succ, lround_none fun p hp => by
      rw [List.getD_eq_getElem?_getD, List.getElem?_eq_getElem hp, Option.getD_some]
      have := (hw _ (List.getElem_mem hp)).2
      omega]
  rw [← law_codes (fun n hn => by have := hw n hn; omega), step 11 (by decide), step 10 (by decide), step 9 (by decide), step 8 (by decide), step 7 (by decide), step 6 (by decide)]
end L2.BR

namespace L2.BR
open PySem PySem.Spec PyProof.Rows L2.BP
variable {K : PySem.W.Frag} {W : WX} {vs : List V} {H : Hp} {Q : VK} {E : XK}
/-! ### the law's own codes, by a dict -/
theorem w_setK {B : Hp} {L : Pic} {a : Addr} {kvs : List (Key × V)} {key : Key} {v : V} {P : Hp → Prop} (hs : Hs B ((a, .dK kvs) :: L) H) (hl : kvs.length < sizeLine) (k : ∀ H', Hs B ((a, .dK (putK kvs key v)) :: L) H' → P H') : SetD (.ref a) (kV key) v H P :=
  ⟨a, _, rfl, DPut.k (hs.get (.head _)) hl, k _ hs.u0⟩
def DicC (K : PySem.W.Frag) (B : Hp) (kvs : List (Key × V)) (cs : List (Option (Nat × Nat))) : Prop := ∀ k x l : Nat, cs[k]? = some (some (x, l)) → ∃ u, valV kvs (.inl ((k : Nat) : Int)) = some (.ref u) ∧ SqT K B u [.int ((x : Nat) : Int), .int ((l : Nat) : Int)]
theorem DicC.same {B B2 : Hp} {kvs : List (Key × V)} {cs : List (Option (Nat × Nat))} (h : DicC K B kvs cs) (s : Same B B2) : DicC K B2 kvs cs := fun k x l e => by
  obtain ⟨u, a, b⟩ := h k x l e
  exact ⟨u, a, same_sqt s b⟩
theorem DicC.set {B : Hp} {kvs : List (Key × V)} {cs : List (Option (Nat × Nat))} {u : Addr} {x l : Nat} (h : DicC K B kvs cs) (hu : SqT K B u [.int ((x : Nat) : Int), .int ((l : Nat) : Int)]) (j : Nat) : DicC K B (putK kvs (.inl ((j : Nat) : Int)) (.ref u)) (cs.set j (some (x, l))) := fun k y m e => by
  rw [valV_put]
  by_cases ej : k = j
  · subst ej
    rw [if_pos rfl]
    by_cases hl : k < cs.length
    · rw [List.getElem?_set_self hl] at e
      injection e with e
      injection e with e
      injection e with e1 e2
      subst e1 e2
      exact ⟨u, rfl, hu⟩
    · rw [List.getElem?_eq_none (by rw [List.length_set]; omega)] at e
      cases e
  · rw [if_neg (fun z => ej (by injection z with z; omega))]
    rw [List.getElem?_set_ne (fun z => ej z.symm)] at e
    exact h k y m e
def sp__law_codes (K : PySem.W.Frag) : Sp := fun vs H Q _ => ∃ (B : Hp) (L : Pic) (a : Addr) (ws : List Int), vs = [.ref a] ∧ Hs B L H ∧ SqL K B a (ws.map V.int) ∧ ws.length = 272 ∧ (∀ n ∈ ws, 0 ≤ n ∧ n ≤ 6) ∧
  ∀ (B2 : Hp) (p : Addr) (kvs : List (Key × V)) (H' : Hp), Same B B2 → DicC K B2 kvs (codesOf ws) → Hs B2 ((p, .dK kvs) :: L) H' → Q (.ref p) H'
theorem len__law_codes (h : sp__law_codes K vs H Q E) : vs.length = 1 := by
  obtain ⟨B, L, a, ws, rfl, _⟩ := h
  rfl
def t__law_codes (K : PySem.W.Frag) (W : WX) : TS :=
  (tSeq (tAsg (tDNewK) (gName 1))
    (tSeq (tAsg (tC (.int 0)) (gName 2))
    (tSeq (tFor (iRng2 (tCons (tC (.int 1)) (tCons (tC (.int 7)) tNil))) (gName 3) (tSeq (tFor (iRng1 (tCons (tC (.int 272)) tNil)) (gName 4) (tIfS (tTest (tOp (rEqU K) (tOp (rIx K) (tVar 0) (tVar 4)) (tVar 3))) (tSeq (tAsg (tTup (tCons (tVar 2) (tCons (tVar 3) tNil))) (gSub (tVar 1) (tVar 4) rSetD))
    (tAsg (tOp rAddU (tVar 2) (tC (.int 1))) (gName 2))) tNext))
    (tAsg (tOp rMulU (tC (.int 2)) (tVar 2)) (gName 2))))
    (tRet (tVar 1)))))
theorem rd__law_codes (h : sp__law_codes K vs H Q E) : t__law_codes K W { nx := fun _ H' => Q .non H', rt := Q } (start ["_law_lengths", "_law_found", "_law_code", "_law_length", "_law_thing_here"] vs) H := by
  obtain ⟨B, L, a, ws, rfl, hs, hS0, hl, hw, q⟩ := h
  have hS := hs.bl hS0
  unfold t__law_codes
  walk_at "go"
  refine c_dnewK hs fun f H1 h1 => ?_
  walk_at "go"
  refine ⟨1, 7, rfl, ⟨by decide, by decide, by decide, by decide⟩, ?_⟩
  rw [show ((7 : Int) - 1).toNat = 6 by decide]
  refine w_forR (fun i σ' L' B' => ∃ (kvs : List (Key × V)) (w3 w4 : Option V), σ' = [some (.ref a), some (.ref f), some (.int (((lawFold ws i).1 * 2 : Nat) : Int)), w3, w4] ∧ Same B B' ∧ DicC K B' kvs (lawFold ws i).2 ∧ kvs.length ≤ 272 * i ∧ L' = (f, .dK kvs) :: L) h1 ⟨_, none, none, rfl, Same.refl _, fun k x l e => ?_, Nat.le_refl _, rfl⟩ ?_ ?_
  · have z : (List.replicate ws.length (none : Option (Nat × Nat)))[k]? = some (some (x, l)) := e
    rw [List.getElem?_replicate] at z
    split at z <;> cases z
  · rintro i σ' L' B' H' hi ⟨kvs, w3, w4, rfl, eB, hC, hkl, rfl⟩ h
    have hS' := h.bl (eB.seq hS0)
    have e13 := lawFold_succ ws i
    have hln := lawFold_len ws i
    generalize lawFold ws i = s0 at *
    walk_at "go"
    refine ⟨_, rfl, by omega, by omega, ?_⟩
    rw [show (272 : Int).toNat = 272 from rfl]
    refine w_forR (fun j σ' L' B2 => ∃ (kvs : List (Key × V)) (w4 : Option V), σ' = [some (.ref a), some (.ref f), some (.int (((inr ws (i + 1) s0 j).1 : Nat) : Int)), some (.int (1 + ((i : Nat) : Int))), w4] ∧
      Same B B2 ∧ DicC K B2 kvs (inr ws (i + 1) s0 j).2 ∧ kvs.length ≤ 272 * i + j ∧ L' = (f, .dK kvs) :: L) h ⟨kvs, _, rfl, eB, hC, hkl, rfl⟩ ?_ ?_
    · rintro j σ' L' B2 H3 hj ⟨ys, w4, rfl, eB2, hC2, hyl, rfl⟩ h3
      have hS3 := h3.bl (eB2.seq hS0)
      have i1 : atI (ws.map V.int) (0 + ((j : Nat) : Int)) = some (.int (ws.getD j 0)) := at_i (by omega) (by omega)
      walk_at "go"
      by_cases c : ws.getD j 0 = (((i + 1 : Nat) : Nat) : Int)
      · refine i_t (decide_eq_true (by rw [c]; omega)) ?_
        have est := inr_t (s := s0) c
        generalize inr ws (i + 1) s0 j = s1 at *
        walk_at "go"
        rename_i t H7 h7
        have nb := h7.nb (.head _)
        rw [show (1 + ((i : Nat) : Int)) = (((i + 1 : Nat) : Nat) : Int) by omega] at h7
        have hCt := (hC2.same (same_upd (o := HO.tup [V.int ((s1.1 : Nat) : Int), V.int (((i + 1 : Nat) : Nat) : Int)]) nb)).set (u := t) (x := s1.1) (l := i + 1) (SqT.of upd_same) j
        rw [show (0 : Int) + ((j : Nat) : Int) = ((j : Nat) : Int) by omega]
        refine w_setK (key := .inl ((j : Nat) : Int)) h7.fix (small6 (by omega)) fun H8 h8 => ?_
        walk_at "go"
        refine ⟨_, _, ⟨_, some (.int ((j : Nat) : Int)), ?_, eB2.trans (same_upd nb), ?_, by have z := putK_le ys (.inl ((j : Nat) : Int)) (V.ref t); omega, rfl⟩, h8⟩
        · rw [est]
          rfl
        · rw [est]
          exact hCt
      · refine i_f (decide_eq_false (by omega)) ?_
        have est := inr_f (s := s0) c
        walk_at "go"
        exact ⟨_, _, ⟨ys, some (.int (0 + ((j : Nat) : Int))), by rw [est]; rfl, eB2, by rw [est]; exact hC2, by omega, rfl⟩, h3⟩
    · rintro σ' L' B2 H3 ⟨ys, w4, rfl, eB2, hC2, hyl, rfl⟩ h3
      have e272 : inr ws (i + 1) s0 272 = lround ws s0 (i + 1) := by
        unfold inr lround
        rw [hl]
      rw [e272, ← e13] at hC2 ⊢
      walk_at "go"
      exact ⟨_, _, ⟨ys, some (.int (1 + ((i : Nat) : Int))), w4, by rw [show ((((lawFold ws (i + 1)).1 * 2 : Nat)) : Int) = 2 * (((lawFold ws (i + 1)).1 : Nat) : Int) by omega]; rfl, eB2, hC2, by omega, rfl⟩, h3⟩
  · rintro σ' L' B' H' ⟨kvs, w3, w4, rfl, eB, hC, hkl, rfl⟩ h
    walk_at "go"
    rw [law_codes6 hw] at hC
    exact q B' f kvs H' eB hC h
def sp__law_thing (K : PySem.W.Frag) : Sp := fun vs H Q _ => ∃ (a : Addr) (c : Pc), vs = [.ref a] ∧ SqT K H a (pcV c) ∧ Pc.ok c ∧ Q (.int ((thingP c : Nat) : Int)) H
theorem len__law_thing (h : sp__law_thing K vs H Q E) : vs.length = 1 := by
  obtain ⟨a, c, rfl, _⟩ := h
  rfl
def t__law_thing (K : PySem.W.Frag) (W : WX) : TS :=
  (tRet (tIf (tTest (tOp (rEqU K) (tOp (rIx K) (tVar 0) (tC (.int 0))) (tC (.str "sign")))) (tOp (rIx K) (tVar 0) (tC (.int 1))) (tOp rAddU (tC (.int 253)) (tOp (rIx K) (tVar 0) (tC (.int 2))))))
theorem rd__law_thing (h : sp__law_thing K vs H Q E) : t__law_thing K W { nx := fun _ H' => Q .non H', rt := Q } (start ["_law_piece"] vs) H := by
  obtain ⟨a, c, rfl, hT, hok, q⟩ := h
  have hs := Hs.start H
  unfold t__law_thing
  cases c with
  | sign n =>
    have hT : SqT K H a [.str "sign", .int n] := hT
    obtain ⟨n0, n1⟩ : 0 ≤ n ∧ n ≤ 255 := hok
    walk_at "go"
    rw [show ((thingP (.sign n) : Nat) : Int) = n by show ((n.toNat : Nat) : Int) = n; omega] at q
    exact q
  | copy b s =>
    have hT : SqT K H a [.str "copy", .int ((b : Nat) : Int), .int ((s : Nat) : Int)] := hT
    walk_at "go"
    rw [show ((thingP (.copy b s) : Nat) : Int) = 253 + ((s : Nat) : Int) by show ((253 + s : Nat) : Int) = _; omega] at q
    exact q
/-! a piece's numbers with their counts of bits -/
def backP : Pc → List (Nat × Nat)
  | .copy b _ => [(b, 8)]
  | .sign _ => []
def partC (cs : List (Option (Nat × Nat))) (c : Pc) : List (Nat × Nat) := (match cs[thingP c]? with
  | some (some p) => [p]
  | _ => []) ++ backP c
def partsC (cs : List (Option (Nat × Nat))) (ps : List Pc) : List (Nat × Nat) := ps.flatMap (partC cs)
theorem partsC_bits (cs : List (Option (Nat × Nat))) : ∀ ps : List Pc, parB (partsC cs ps) = pcsC cs ps
  | [] => rfl
  | c :: r => by
    show parB (partC cs c ++ partsC cs r) = pcC cs c ++ pcsC cs r
    rw [parB_append, partsC_bits cs r]
    congr 1
    unfold partC
    rw [parB_append, show pcC cs c = codB cs (thingP c) ++ backB c from rfl]
    congr 1
    · unfold codB
      rcases cs[thingP c]? with _ | _ | ⟨x, l⟩
      · rfl
      · rfl
      · simp [parB]
    · cases c <;> simp [parB, backB, backP]
theorem partC_one {cs : List (Option (Nat × Nat))} {c : Pc} {x l : Nat} (h : cs[thingP c]? = some (some (x, l))) : partC cs c = (x, l) :: backP c := by
  unfold partC
  rw [h]
  rfl
theorem partsC_good {cs : List (Option (Nat × Nat))} (hF : Fits cs) : ∀ {ps : List Pc}, (∀ c ∈ ps, Pc.ok c) → ∀ p ∈ partsC cs ps, GoodP p
  | [], _, _, h => nomatch h
  | c :: r, hok, p, h => by
    rcases List.mem_append.mp (show p ∈ partC cs c ++ partsC cs r from h) with z | z
    · have hc := hok c (.head _)
      unfold partC at z
      rcases List.mem_append.mp z with z | z
      · split at z
        · rename_i q e
          obtain rfl : p = q := by simpa using z
          obtain ⟨f1, f2, f3⟩ := hF _ p.1 p.2 e
          exact ⟨by omega, f3⟩
        · cases z
      · cases c with
        | sign n => cases z
        | copy b s =>
          obtain ⟨c1, c2, c3, c4⟩ := hc
          obtain rfl : p = (b, 8) := by simpa [backP] using z
          exact ⟨show 8 ≤ 24 by decide, by show _ < 256; omega⟩
    · exact partsC_good hF (fun d hd => hok d (.tail _ hd)) p z
theorem partsC_len (cs : List (Option (Nat × Nat))) : ∀ ps : List Pc, (partsC cs ps).length ≤ 2 * ps.length
  | [] => Nat.zero_le _
  | c :: r => by
    have := partsC_len cs r
    show (partC cs c ++ partsC cs r).length ≤ _
    have h1 : (partC cs c).length ≤ 2 := by
      unfold partC
      rw [List.length_append]
      split <;> cases c <;> simp [backP]
    rw [List.length_append, List.length_cons]
    omega
theorem partsC_take {cs : List (Option (Nat × Nat))} {ps : List Pc} {i : Nat} {c : Pc} (h : ps[i]? = some c) : partsC cs (ps.take (i + 1)) = partsC cs (ps.take i) ++ partC cs c := by
  unfold partsC
  rw [List.take_add_one, h, List.flatMap_append]
  simp
def sp__law_parts (K : PySem.W.Frag) : Sp := fun vs H Q _ => ∃ (B : Hp) (L : Pic) (a b : Addr) (xs : List V) (ps : List Pc) (ls : List Int), vs = [.ref a, .ref b] ∧ Hs B L H ∧ SqL K B a xs ∧ Tups K B xs (ps.map pcV) ∧ (∀ c ∈ ps, Pc.ok c) ∧ ps.length ≤ 100 ∧ SqL K B b (ls.map V.int) ∧ Tab ls ∧ Has (codesOf ls) ps ∧
  ∀ (B2 : Hp) (p : Addr) (ws : List V) (H' : Hp), Same B B2 → Tups K B2 ws ((partsC (codesOf ls) ps).map pairP) → Hs B2 ((p, .lst ws) :: L) H' → Q (.ref p) H'
theorem len__law_parts (h : sp__law_parts K vs H Q E) : vs.length = 2 := by
  obtain ⟨B, L, a, b, xs, ps, ls, rfl, _⟩ := h
  rfl
def t__law_parts (K : PySem.W.Frag) (W : WX) : TS :=
  (tSeq (tAsg (tCl (sp__law_codes K) [] W (tCons (tVar 1) tNil)) (gName 2))
    (tSeq (tAsg (tLst tNil) (gName 3))
    (tSeq (tFor (iList K (tVar 0)) (gName 4) (tSeq (tDrop (tBM K "list" rAppend (tVar 3) (tCons (tDGet (tVar 2) (tCl (sp__law_thing K) [] W (tCons (tVar 4) tNil))) tNil)))
    (tIfS (tTest (tOp (rEqU K) (tOp (rIx K) (tVar 4) (tC (.int 0))) (tC (.str "copy")))) (tDrop (tBM K "list" rAppend (tVar 3) (tCons (tTup (tCons (tOp (rIx K) (tVar 4) (tC (.int 1))) (tCons (tC (.int 8)) tNil))) tNil))) tNext)))
    (tRet (tVar 3)))))
theorem rd__law_parts (h : sp__law_parts K vs H Q E) : t__law_parts K W { nx := fun _ H' => Q .non H', rt := Q } (start ["_law_pieces_here", "_law_lengths", "_law_codes_here", "_law_parts_here", "_law_piece"] vs) H := by
  obtain ⟨B, L, a, b, xs, ps, ls, rfl, hs, hS, hTu, hok, hl, hSl, hTb, hHas, q⟩ := h
  have hxl : xs.length = ps.length := by rw [hTu.length, List.length_map]
  unfold t__law_parts
  walk_at "go"
  refine ⟨B, _, b, ls, rfl, hs, hSl, hTb.1, hTb.2, fun B2 d kvs H1 s1 hD h1 => ?_⟩
  clear hs
  have s2 := same_upd (o := .dK kvs) (h1.nb (p := d) (.head _))
  have kd : upd B2 d (.dK kvs) d = some (.dK kvs) := upd_same
  have h2 := h1.fix
  have hD := hD.same s2
  have s3 := s1.trans s2
  have hS := s3.seq hS
  have hTu := hTu.same s3
  generalize upd B2 d (.dK kvs) = B3 at *
  generalize codesOf ls = cs at *
  clear h1 s1 s2
  walk_at "go"
  rename_i f0 H2 h3
  refine w_forL id xs (fun pre σ' L' B' => ∃ (acc : List V) (w2 : Option V), Same B3 B' ∧ Tups K B' acc ((partsC cs (ps.take pre.length)).map pairP) ∧ σ' = [some (.ref a), some (.ref b), some (.ref d), some (.ref f0), w2] ∧ L' = (f0, .lst acc) :: L) h3 ⟨[], none, Same.refl _, .nil, rfl, rfl⟩ ?_ ?_ ?_
  · rintro pre post σ' L' B' H' _ ⟨acc, w2, hB, _, _, rfl⟩ h
    rw [List.map_id]
    exact h.bl (hB.seq hS)
  · rintro pre y post σ' L' B' H' e ⟨acc, w2, hB, hT, rfl, rfl⟩ h
    obtain ⟨u, c, rfl, hc, hu⟩ := tups_P hTu e
    have hu0 := same_sqt hB hu
    have hu' := h.bt hu0
    have hcm := List.mem_of_getElem? hc
    have hcok := hok c hcm
    have kd' := h.ex _ _ (hB _ _ kd)
    obtain ⟨xx, l, ec⟩ := hHas c hcm
    obtain ⟨tt, et, ht⟩ := hD _ _ _ ec
    have hacc : acc.length ≤ 200 := by
      rw [hT.length, List.length_map]
      have := partsC_len cs (ps.take pre.length)
      rw [List.length_take] at this
      omega
    have hst := partsC_take (cs := cs) hc
    rw [partC_one ec] at hst
    rw [id_eq]
    clear h2 h3
    walk_at "go"
    refine ⟨u, c, rfl, hu', hcok, ?_⟩
    walk_at "go"
    refine c_dgO kd' et ?_
    walk_at "go"
    refine c_app0 h (small6 (by omega)) fun H4 h4 => ?_
    have hT2 := hT.snoc (same_sqt hB ht)
    have hu4 := h4.bt hu0
    clear h
    cases c with
    | sign n =>
      have hu4 : SqT K H4 u [.str "sign", .int n] := hu4
      walk_at "go"
      refine ⟨_, _, ⟨_, _, hB, ?_, rfl, rfl⟩, h4⟩
      rw [List.length_append, List.length_singleton, hst, List.map_append]
      exact hT2
    | copy bk z =>
      have hu4 : SqT K H4 u [.str "copy", .int ((bk : Nat) : Int), .int ((z : Nat) : Int)] := hu4
      walk_at "go"
      rename_i t1 H5 h5
      have k1 := h5.nb (.head _)
      refine c_app0 h5.fix (small6 (by rw [List.length_append, List.length_singleton]; omega)) fun H6 h6 => ?_
      refine ⟨_, _, ⟨_, _, hB.trans (same_upd k1), ?_, rfl, rfl⟩, h6⟩
      rw [List.length_append, List.length_singleton, hst, List.map_append, show (xx, l) :: backP (.copy bk z) = [(xx, l)] ++ [(bk, 8)] from rfl, List.map_append, ← List.append_assoc]
      exact hT2.snocFix k1
  · rintro σ' L' B' H' ⟨acc, w2, hB, hT, rfl, rfl⟩ h
    walk_at "go"
    rw [hxl, List.take_of_length_le (Nat.le_refl _)] at hT
    exact q B' f0 acc H' (s3.trans hB) hT h
end L2.BR

namespace L2.BR
open PySem PySem.Spec PyProof.Rows L2.BP
variable {K : PySem.W.Frag} {W : WX} {vs : List V} {H : Hp} {Q : VK} {E : XK}
/-! ### the bits that are due -/
theorem digS_to (b : List Bool) {j : Int} {n : Nat} (ej : j = ((n : Nat) : Int)) (hn : n ≤ b.length) : cutS (digS b) none (some j) = digS (b.take n) := by
  have z := digS_cut b (i := 0) (j := j) (m := 0) (n := n) rfl ej (Nat.zero_le _) hn
  rw [List.drop_zero, Nat.sub_zero] at z
  rw [← z]
  unfold cutS
  rw [HT.sIx_none, show (0 : Int) = ((0 : Nat) : Int) from rfl, HT.sIx_nat, Nat.zero_min]
theorem parB_row : ∀ ns : List Int, parB (ns.map fun n => (n.toNat, 8)) = bitsRow ns
  | [] => rfl
  | n :: r => by
    have z := parB_row r
    show bitsOf n.toNat 8 ++ parB (r.map fun n => (n.toNat, 8)) = bitsOf n.toNat 8 ++ bitsRow r
    rw [z]
theorem pad8_take (b : List Bool) : (pad8 b).take b.length = b := by
  unfold pad8
  rw [List.take_left]
def sp__law_due (K : PySem.W.Frag) : Sp := fun vs H Q _ => ∃ (B : Hp) (L : Pic) (a : Addr) (xs : List V) (ps : List Pc), vs = [.ref a] ∧ Hs B L H ∧ SqL K B a xs ∧ Tups K B xs (ps.map pcV) ∧ (∀ c ∈ ps, Pc.ok c) ∧ ps ≠ [] ∧ ps.length ≤ 64 ∧
  ∀ (B2 : Hp) (H' : Hp), Same B B2 → Hs B2 L H' → Q (.str (digS (shareB ps))) H'
theorem len__law_due (h : sp__law_due K vs H Q E) : vs.length = 1 := by
  obtain ⟨B, L, a, xs, ps, rfl, _⟩ := h
  rfl
def t__law_due (K : PySem.W.Frag) (W : WX) : TS :=
  (tSeq (tAsg (tOp rMulU (tLst (tCons (tC (.int 0)) tNil)) (tC (.int 272))) (gName 1))
    (tSeq (tFor (iList K (tVar 0)) (gName 2) (tAsg (tOp rAddU (tOp (rIx K) (tVar 1) (tCl (sp__law_thing K) [] W (tCons (tVar 2) tNil))) (tC (.int 1))) (gSub (tVar 1) (tCl (sp__law_thing K) [] W (tCons (tVar 2) tNil)) rSetL)))
    (tSeq (tAsg (tCl (sp_lengths_of K) [.int 6] W (tCons (tVar 1) tNil)) (gName 3))
    (tSeq (tAsg (tMk (He.ga K "BitRow") (sp_BitRow___init__ K) [] W tNil) (gName 4))
    (tSeq (tDrop (tCl (sp_put_table K) [] W (tCons (tVar 4) (tCons (tVar 3) tNil))))
    (tSeq (tAsg (tSl (rSlK K) (tCl (sp__law_digits K) [] W (tCons (tLc (iList K (tMt (He.ga K "BitRow") "row" (sp_BitRow_row K) [] W (tVar 4) tNil)) (gName 6) tYes (tTup (tCons (tVar 6) (tCons (tC (.int 8)) tNil))) [6]) tNil)) tNoPart (tPart (tMt (He.ga K "BitRow") "many" (sp_BitRow_many K) [] W (tVar 4) tNil))) (gName 5))
    (tRet (tOp rAddU (tVar 5) (tCl (sp__law_digits K) [] W (tCons (tCl (sp__law_parts K) [] W (tCons (tVar 0) (tCons (tVar 3) tNil))) tNil))))))))))
theorem rd__law_due (kBitRow : KBitRow K) (h : sp__law_due K vs H Q E) : t__law_due K (fun c d _ H2 => E c d H2) { nx := fun _ H' => Q .non H', rt := Q } (start ["_law_pieces_here", "_law_counts", "_law_piece", "_law_lengths", "_law_bits", "_law_table", "_law_byte"] vs) H := by
  obtain ⟨B, L, a, xs, ps, rfl, hs, hS, hTu, hok, hne, hl, q⟩ := h
  have hxl : xs.length = ps.length := by rw [hTu.length, List.length_map]
  obtain ⟨bc, bn1, bn2, bn3⟩ := kBitRow
  unfold t__law_due
  walk_at "go"
  rename_i z0 H1 h1
  refine c_rep h1 (h1.get (.head _)) (by omega) (by omega) (small6' (by rw [List.length_singleton]; decide)) fun f H2 h2 => ?_
  rw [show (272 : Int).toNat = 272 from rfl, List.flatten_replicate_singleton] at h2
  have h3 := h2.drop1
  clear h1 h2 hs
  walk_at "go"
  refine w_forL id xs (fun pre σ' L' B' => ∃ w2, σ' = [some (.ref a), some (.ref f), w2, none, none, none, none] ∧ B' = B ∧ L' = (f, .lst ((countsP (ps.take pre.length)).map V.int)) :: L) h3 ⟨none, rfl, rfl, by rw [List.length_nil, List.take_zero]; rfl⟩ ?_ ?_ ?_
  · rintro pre post σ' L' B' H' _ ⟨w2, rfl, rfl, rfl⟩ h
    rw [List.map_id]
    exact h.bl hS
  · rintro pre y post σ' L' B' H' e ⟨w2, rfl, rfl, rfl⟩ h
    obtain ⟨u, c, rfl, hc, hu⟩ := tups_P hTu e
    have hcok := hok c (List.mem_of_getElem? hc)
    have hlt := thing_lt hcok
    have hu' := h.bt hu
    rw [id_eq]
    clear h3
    have ea : atI ((countsP (ps.take pre.length)).map V.int) ((thingP c : Nat) : Int) = some (.int ((countsP (ps.take pre.length)).getD (thingP c) 0)) := at_nat (by rw [countsP_len]; exact hlt)
    walk_at "go"
    refine ⟨u, c, rfl, hu', hcok, ?_⟩
    refine c_ixL (h.sql (.head _)) ea ?_
    walk_at "go"
    refine ⟨u, c, rfl, hu', hcok, ?_⟩
    walk_at "go"
    refine w_set0 h rfl (by rw [List.length_map, countsP_len]; exact hlt) fun H4 h4 => ?_
    refine ⟨_, _, ⟨_, rfl, rfl, ?_⟩, h4⟩
    rw [List.length_append, List.length_singleton, List.take_add_one, hc, Option.toList_some, countsP_snoc, List.map_set]
  · rintro σ' L' B' H' ⟨w2, rfl, rfl, rfl⟩ h
    rw [hxl, List.take_of_length_le (Nat.le_refl _)] at h
    obtain ⟨ck, O⟩ := counts_fine hok hne hl
    obtain ⟨tb, lok, hpos⟩ := lens_tab hok hne hl
    clear h3
    walk_at "go"
    refine call_len (m := 6) h (h.sql (.head _)) (by rw [countsP_len]; decide) ck fun ln H5 h6 => ?_
    have s6 := same_upd (o := .lst ((lenOf (countsP ps) 6).map V.int)) (h6.nb (p := ln) (.head _))
    have kln : SqL K (upd B' ln (.lst ((lenOf (countsP ps) 6).map V.int))) ln ((lensP ps).map V.int) := .of upd_same
    have h7 := h6.fix.drop
    have hS2 := s6.seq hS
    have hTu2 := hTu.same s6
    generalize upd B' ln (.lst ((lenOf (countsP ps) 6).map V.int)) = B4 at *
    clear h h6
    have hel := encT_few tb
    have hCF := codes_fit (fun n hn => by have := tb.2 n hn; omega) (kraft_le lok)
    have hHas : Has (codesOf (lensP ps)) ps := fun c hc => by
      obtain ⟨xx, e⟩ := code_of (ws := lensP ps) (p := thingP c) (hpos c hc) (by rw [tb.1]; exact thing_lt (hok c hc))
      exact ⟨xx, _, e⟩
    have hsb : shareB ps = encT 0 (lensP ps) ++ pcsC (codesOf (lensP ps)) ps := rfl
    generalize hlsP : lensP ps = ls at *
    generalize heb : encT 0 ls = eb at *
    walk_at "go"
    rename_i x dx H6 h8
    refine ⟨B4, _, x, dx, rfl, h8, fun bf H7 h9 => ⟨rfl, ?_⟩⟩
    clear h7 h8
    walk_at "go"
    refine ⟨B4, _, x, dx, bf, ln, [], ls, rfl, h9, fun y z H' h => h.bl kln, tb, Nat.zero_le _, fun H8 h10 => ?_⟩
    rw [List.nil_append, heb] at h10
    clear h9
    walk_at "go"
    have hrl := rowOf_length eb
    have hrb := rowOf_bytes eb
    have hrp := bitsRow_rowOf eb
    refine ⟨B4, _, x, dx, bf, eb, rfl, h10, by omega, retL h10 fun r H9 h11 => ?_⟩
    clear h10
    generalize rowOf eb = ns at *
    refine c_lcL V.int ns (fun pre acc B' => Tups K B' acc ((pre.map fun n => (n.toNat, 8)).map pairP)) h11 .nil (fun B' H' _ h => h.sql (.head _)) ?_ ?_
    · rintro pre n post acc B5 D H10 e hT s5 h12
      have hn := hrb n (by rw [e]; simp)
      have hpl : pre.length < ns.length := by rw [e]; simp
      have hal : acc.length = pre.length := by rw [hT.length]; simp
      walk_at "go"
      refine ⟨rfl, ?_⟩
      walk_at "go"
      rename_i t1 H11 h13
      have k1 := h13.nb (.head _)
      refine c_item h13.fix (small5 (by omega)) (s5.trans (same_upd k1)) ?_
      show Tups K _ _ (((pre ++ [n]).map fun n => (n.toNat, 8)).map pairP)
      rw [List.map_append, List.map_append, show [n].map (fun n => (n.toNat, 8)) = [(n.toNat, 8)] from rfl, show [(n.toNat, 8)].map pairP = [[V.int ((n.toNat : Nat) : Int), V.int 8]] from rfl, show ((n.toNat : Nat) : Int) = n by omega]
      exact hT.snocFix k1
    · rintro acc B5 D H10 hT s5 h12
      walk_at "go"
      refine ⟨D, acc, ns.map fun n => (n.toNat, 8), rfl, h12.sql (.head _), hT.same h12.ex, ?_, by rw [List.length_map]; omega, ?_⟩
      · intro p hp
        obtain ⟨n, hn, rfl⟩ := List.mem_map.mp hp
        have := hrb n hn
        exact ⟨show 8 ≤ 24 by decide, show n.toNat < 256 by omega⟩
      rw [parB_row, hrp]
      refine retV h12.drop.drop fun H11 h13 => ?_
      clear h12 h11
      have hpt := pad8_take eb
      have hpl := pad8_length eb
      walk_at "go"
      refine ⟨B5, _, x, dx, bf, eb, rfl, h13, ?_⟩
      walk_at "go"
      refine c_slS (z := digS (pad8 eb)) (small6' (by rw [digS_len, hpl]; omega)) ?_
      rw [digS_to _ rfl (by omega), hpt]
      have h14 := h13.drop.drop
      have s6 := s6.trans s5
      clear h13
      walk_at "go"
      refine ⟨B5, _, a, ln, xs, ps, ls, rfl, h14, s5.seq hS2, hTu2.same s5, hok, by omega, s5.seq kln, tb, hHas, fun B6 pp pws H12 s7 hT7 h15 => ?_⟩
      have hpl2 := partsC_len (codesOf ls) ps
      walk_at "go"
      refine ⟨pp, pws, partsC (codesOf ls) ps, rfl, h15.sql (.head _), hT7.same h15.ex, partsC_good hCF hok, by omega, ?_⟩
      rw [partsC_bits]
      have hpc := pcsC_len hCF ps
      refine retV h15.drop fun H13 h16 => ?_
      refine c_addS (small6' (by rw [digS_len, digS_len]; omega)) ?_
      rw [digS_app, ← hsb]
      exact q B6 H13 (s6.trans s7) h16
end L2.BR

namespace L2.BR
open PySem PySem.Spec PyProof.Rows L2.BP
variable {K : PySem.W.Frag} {W : WX} {vs : List V} {H : Hp} {Q : VK} {E : XK}
/-! ### a table of the law's own -/
theorem sum_set {α : Type} (f : α → Nat) (d : α) : ∀ (l : List α) (p : Nat) (v : α), p < l.length → ((l.set p v).map f).sum + f (l.getD p d) = (l.map f).sum + f v
  | [], p, v, h => absurd h (Nat.not_lt_zero _)
  | x :: l, 0, v, _ => by
    show ((v :: l).map f).sum + f x = ((x :: l).map f).sum + f v
    rw [List.map_cons, List.map_cons, List.sum_cons, List.sum_cons]
    omega
  | x :: l, p + 1, v, h => by
    have ih := sum_set f d l p v (Nat.lt_of_succ_lt_succ h)
    show ((x :: l.set p v).map f).sum + f (l.getD p d) = ((x :: l).map f).sum + f v
    rw [List.map_cons, List.map_cons, List.sum_cons, List.sum_cons]
    omega
def krI (n : Int) : Nat := if 0 < n then 2 ^ (12 - n.toNat) else 0
theorem kraft_I (ls : List Int) : kraftV (ls.map V.int) = (ls.map krI).sum := by
  unfold kraftV
  rw [List.map_map]
  rfl
/-- a table whose named things have lengths -/
structure OwnT (ts : List Nat) (ls : List Int) : Prop where
  tab : Tab ls
  pos : ∀ p ∈ ts, 1 ≤ ls.getD p 0
theorem tab_set {ls : List Int} (h : Tab ls) {p : Nat} {v : Int} (h0 : 0 ≤ v) (h6 : v ≤ 6) : Tab (ls.set p v) := ⟨by rw [List.length_set]; exact h.1, fun x hx => by
  rcases List.mem_or_eq_of_mem_set hx with z | z
  · exact h.2 x z
  · omega⟩
theorem getD_set {ls : List Int} {p q : Nat} {v : Int} (h : p < ls.length) : (ls.set p v).getD q 0 = if q = p then v else ls.getD q 0 := by
  rw [List.getD_eq_getElem?_getD, List.getD_eq_getElem?_getD]
  by_cases e : q = p
  · subst e
    rw [if_pos rfl, List.getElem?_set_self h]
    rfl
  · rw [if_neg e, List.getElem?_set_ne (fun z => e z.symm)]
theorem OwnT.set {ts : List Nat} {ls : List Int} (h : OwnT ts ls) {p : Nat} {v : Int} (hp : p < 272) (h1 : 1 ≤ v) (h6 : v ≤ 6) : OwnT (ts ++ [p]) (ls.set p v) := ⟨tab_set h.tab (by omega) h6, fun q hq => by
  rw [getD_set (by rw [h.tab.1]; exact hp)]
  by_cases e : q = p
  · rw [if_pos e]
    exact h1
  · rw [if_neg e]
    rcases List.mem_append.mp hq with z | z
    · exact h.pos q z
    · exact absurd (List.mem_singleton.mp z) e⟩
theorem OwnT.sub {ts us : List Nat} {ls : List Int} (h : OwnT ts ls) (s : ∀ p ∈ us, p ∈ ts) : OwnT us ls := ⟨h.tab, fun p hp => h.pos p (s p hp)⟩
theorem set_six {ls : List Int} {p : Nat} (h : p < ls.length) : ((ls.set p 6).map krI).sum ≤ (ls.map krI).sum + 64 := by
  have z := sum_set krI 0 ls p 6 h
  have e : krI 6 = 64 := rfl
  omega
theorem set_more {ls : List Int} {p i : Nat} (h : p < ls.length) (hb : 1 ≤ ls.getD p 0 ∧ ls.getD p 0 ≤ 6) (hi : i < 6) {n : Nat} (hk : (ls.map krI).sum + 2 ^ (12 - i) + 64 * i ≤ 64 * n + 4096) : ((ls.set p (((i + 1 : Nat) : Nat) : Int)).map krI).sum + 2 ^ (12 - (i + 1)) + 64 * (i + 1) ≤ 64 * n + 4096 := by
  have z := sum_set krI 0 ls p (((i + 1 : Nat) : Nat) : Int) h
  have e1 : krI (((i + 1 : Nat) : Nat) : Int) = 2 ^ (12 - (i + 1)) := by
    unfold krI
    rw [if_pos (by omega)]
    rfl
  have e2 : 64 ≤ krI (ls.getD p 0) := by
    unfold krI
    rw [if_pos (by omega)]
    exact Nat.pow_le_pow_right (n := 2) (i := 6) (by decide) (by omega)
  have e3 : 2 ^ (12 - i) = 2 ^ (12 - (i + 1)) * 2 := by rw [← Nat.pow_succ]; congr 1; omega
  omega
theorem own_lenOk {ts : List Nat} {ls : List Int} (h : OwnT ts ls) (hne : ts ≠ []) (hlt : ∀ p ∈ ts, p < 272) (hk : (ls.map krI).sum ≤ 4096) : lenOk (.lst (ls.map V.int)) = true := by
  have hpos : 0 < (ls.map krI).sum := by
    cases ts with
    | nil => exact absurd rfl hne
    | cons p ts =>
      have h1 := h.pos p (.head _)
      have hp := hlt p (.head _)
      have z := sum_set krI 0 ls p 0 (by rw [h.tab.1]; exact hp)
      have e : 0 < krI (ls.getD p 0) := by
        unfold krI
        rw [if_pos (by omega)]
        exact Nat.two_pow_pos _
      have e0 : krI 0 = 0 := rfl
      omega
  rw [← kraft_I] at hpos hk
  have hall : (ls.map V.int).all (btwV 0 12) = true := by
    rw [List.all_map, List.all_eq_true]
    intro x hx
    have := h.tab.2 x hx
    show (decide (0 ≤ x) && decide (x ≤ 12)) = true
    rw [decide_eq_true (by omega), decide_eq_true (by omega)]
    rfl
  simp only [lenOk, List.length_map, h.tab.1]
  rw [hall, decide_eq_true (by omega), decide_eq_true (by omega), decide_eq_true (by omega), decide_eq_true (by omega)]
  rfl
theorem _root_.L2.BP.Tups.appT : ∀ {vs : List V} {ps : List (List V)} {ws : List V} {qs : List (List V)}, Tups K H vs ps → Tups K H ws qs → Tups K H (vs ++ ws) (ps ++ qs)
  | _, _, _, _, .nil, h => h
  | _, _, _, _, .cons z t, h => .cons z (t.appT h)
/-- a table told length by length -/
theorem lays_ones : ∀ (ls : List Int) (last : Int), Lays last ls (ls.map Ite.one)
  | [], _ => rfl
  | y :: r, _ => ⟨r, rfl, lays_ones r y⟩
theorem itsB_ones : ∀ ls : List Int, itsB (ls.map Ite.one) = parB (ls.map fun n => (n.toNat, 3))
  | [] => rfl
  | n :: r => by
    have z := itsB_ones r
    show bitsOf n.toNat 3 ++ itsB (r.map Ite.one) = bitsOf n.toNat 3 ++ parB (r.map fun n => (n.toNat, 3))
    rw [z]
def sp__law_own_due (K : PySem.W.Frag) : Sp := fun vs H Q _ => ∃ (B : Hp) (L : Pic) (a : Addr) (i : Int) (xs : List V) (ps : List Pc), vs = [.ref a, .int i] ∧ Hs B L H ∧ SqL K B a xs ∧ Tups K B xs (ps.map pcV) ∧ (∀ c ∈ ps, Pc.ok c) ∧ ps ≠ [] ∧ ps.length ≤ 64 ∧
  ∀ (ls : List Int) (its : List Ite) (B2 : Hp) (H' : Hp), Tab ls → lenOk (.lst (ls.map V.int)) = true → Has (codesOf ls) ps → Lays 0 ls its → Same B B2 → Hs B2 L H' → Q (.str (digS (itsB its ++ pcsC (codesOf ls) ps))) H'
theorem len__law_own_due (h : sp__law_own_due K vs H Q E) : vs.length = 2 := by
  obtain ⟨B, L, a, i, xs, ps, rfl, _⟩ := h
  rfl
def t__law_own_due (K : PySem.W.Frag) (W : WX) : TS :=
  (tSeq (tAsg (tLst tNil) (gName 2))
    (tSeq (tFor (iList K (tVar 0)) (gName 3) (tIfS (tTest (tOp (rNiU K) (tCl (sp__law_thing K) [] W (tCons (tVar 3) tNil)) (tVar 2))) (tDrop (tBM K "list" rAppend (tVar 2) (tCons (tCl (sp__law_thing K) [] W (tCons (tVar 3) tNil)) tNil))) tNext))
    (tSeq (tAsg (tOp rMulU (tLst (tCons (tC (.int 0)) tNil)) (tC (.int 272))) (gName 4))
    (tSeq (tFor (iRng1 (tCons (tCB (rLenK K) (tCons (tVar 2) tNil)) tNil)) (gName 5) (tAsg (tC (.int 6)) (gSub (tVar 4) (tOp (rIx K) (tVar 2) (tVar 5)) rSetL)))
    (Evl.tCut (tIfS ((tAnd (tTest (tOp rLtU (tCB (rLenK K) (tCons (tVar 2) tNil)) (tC (.int 7)))) (tTest (tOp (rEqU K) (tOp rModU (tVar 1) (tC (.int 2))) (tC (.int 1)))))) (tFor (iRng1 (tCons (tCB (rLenK K) (tCons (tVar 2) tNil)) tNil)) (gName 5) (tAsg (tCB (rMin2K) (tCons (tC (.int 6)) (tCons (tOp rAddU (tVar 5) (tC (.int 1))) tNil))) (gSub (tVar 4) (tOp (rIx K) (tVar 2) (tOp rModU (tOp rAddU (tVar 5) (tOp rDivU (tVar 1) (tC (.int 2)))) (tCB (rLenK K) (tCons (tVar 2) tNil)))) rSetL))) tNext)
    (tRet (tCl (sp__law_digits K) [] W (tCons (tOp rAddU (tLc (iList K (tVar 4)) (gName 6) tYes (tTup (tCons (tVar 6) (tCons (tC (.int 3)) tNil))) [6]) (tCl (sp__law_parts K) [] W (tCons (tVar 0) (tCons (tVar 4) tNil)))) tNil))))))))
theorem rd__law_own_due (h : sp__law_own_due K vs H Q E) : t__law_own_due K (fun c d _ H2 => E c d H2) { nx := fun _ H' => Q .non H', rt := Q } (start ["_law_pieces_here", "_law_cell", "_law_things", "_law_piece", "_law_lengths", "_law_k", "_law_length"] vs) H := by
  obtain ⟨B, L, a, ce, xs, ps, rfl, hs, hS, hTu, hok, hne, hl, q⟩ := h
  have hxl : xs.length = ps.length := by rw [hTu.length, List.length_map]
  unfold t__law_own_due
  walk_at "go"
  rename_i f H1 h1
  refine w_forL id xs (fun pre σ' L' B' => ∃ (us : List Int) (w3 : Option V), σ' = [some (.ref a), some (.int ce), some (.ref f), w3, none, none, none] ∧ B' = B ∧ L' = (f, .lst (us.map V.int)) :: L ∧ us.length ≤ pre.length ∧ (∀ p ∈ us, 0 ≤ p ∧ p < 272) ∧ ∀ c ∈ ps.take pre.length, ((thingP c : Nat) : Int) ∈ us) h1
    ⟨[], none, rfl, rfl, rfl, Nat.le_refl _, (fun _ z => nomatch z), fun c hc => by rw [List.length_nil, List.take_zero] at hc; cases hc⟩ ?_ ?_ ?_
  · rintro pre post σ' L' B' H' _ ⟨us, w3, rfl, rfl, rfl, _⟩ h
    rw [List.map_id]
    exact h.bl hS
  · rintro pre y post σ' L' B' H' e ⟨us, w3, rfl, rfl, rfl, htl, ht2, hin⟩ h
    obtain ⟨u, c, rfl, hc, hu⟩ := tups_P hTu e
    have hcok := hok c (List.mem_of_getElem? hc)
    have hlt := thing_lt hcok
    have hu' := h.bt hu
    have hpl : pre.length < xs.length := by rw [e]; simp
    have htk : ∀ us2 : List Int, (∀ c ∈ ps.take pre.length, ((thingP c : Nat) : Int) ∈ us2) → ((thingP c : Nat) : Int) ∈ us2 → ∀ d ∈ ps.take (pre.length + 1), ((thingP d : Nat) : Int) ∈ us2 := fun us2 h1 h2 d hd => by
      rw [List.take_add_one, hc, Option.toList_some] at hd
      rcases List.mem_append.mp hd with z | z
      · exact h1 d z
      · rw [List.mem_singleton.mp z]
        exact h2
    rw [id_eq]
    clear h1
    walk_at "go"
    refine ⟨u, c, rfl, hu', hcok, ?_⟩
    walk_at "go"
    refine c_niL us (h.sql (.head _)) (c_bl ?_)
    by_cases cin : ((thingP c : Nat) : Int) ∈ us
    · refine i_f (by rw [decide_eq_true cin]; rfl) ?_
      walk_at "go"
      exact ⟨_, _, ⟨us, _, rfl, rfl, rfl, by rw [List.length_append, List.length_singleton]; omega, ht2, by rw [List.length_append, List.length_singleton]; exact htk us hin cin⟩, h⟩
    · refine i_t (by rw [decide_eq_false cin]; rfl) ?_
      walk_at "go"
      refine ⟨u, c, rfl, hu', hcok, ?_⟩
      walk_at "go"
      refine c_app0 h (small6 (by rw [List.length_map]; omega)) fun H4 h4 => ?_
      rw [show us.map V.int ++ [V.int ((thingP c : Nat) : Int)] = (us ++ [((thingP c : Nat) : Int)]).map V.int by rw [List.map_append]; rfl] at h4
      refine ⟨_, _, ⟨_, _, rfl, rfl, rfl, by rw [List.length_append, List.length_append, List.length_singleton, List.length_singleton]; omega, fun p hp => ?_, ?_⟩, h4⟩
      · rcases List.mem_append.mp hp with z | z
        · exact ht2 p z
        · rw [List.mem_singleton.mp z]
          omega
      · rw [List.length_append, List.length_singleton]
        exact htk _ (fun d hd => List.mem_append_left _ (hin d hd)) (List.mem_append_right _ (.head _))
  · rintro σ' L' B' H' ⟨us, w3, rfl, rfl, rfl, htl, ht2, hin⟩ h
    rw [hxl, List.take_of_length_le (Nat.le_refl _)] at hin
    clear h1
    have hune : us ≠ [] := by
      cases ps with
      | nil => exact absurd rfl hne
      | cons c r => exact fun z => by have := hin c (.head _); rw [z] at this; cases this
    walk_at "go"
    rename_i z0 H2 h2
    refine c_rep h2 (h2.get (.head _)) (by omega) (by omega) (small6' (by rw [List.length_singleton]; decide)) fun g H3 h3 => ?_
    rw [show (272 : Int).toNat = 272 from rfl, List.flatten_replicate_singleton] at h3
    have h4 := h3.drop1
    clear h2 h3
    walk_at "go"
    rw [List.length_map]
    refine ⟨_, rfl, by omega, by omega, ?_⟩
    rw [Int.toNat_natCast]
    refine w_forR (fun k σ' L' B2 => ∃ (ls : List Int) (w5 : Option V), σ' = [some (.ref a), some (.int ce), some (.ref f), w3, some (.ref g), w5, none] ∧ B2 = B' ∧ L' = (g, .lst (ls.map V.int)) :: (f, .lst (us.map V.int)) :: L ∧ OwnT ((us.take k).map Int.toNat) ls ∧ (ls.map krI).sum ≤ 64 * k) h4
      ⟨List.replicate 272 0, none, rfl, rfl, rfl, ⟨⟨List.length_replicate, fun x hx => by rw [(List.mem_replicate.mp hx).2]; decide⟩, fun _ z => nomatch z⟩, by decide +kernel⟩ ?_ ?_
    · rintro k σ' L' B2 H5 hk ⟨ls, w5, rfl, rfl, rfl, hO, hKr⟩ h5
      have hu := ht2 (us.getD k 0) (by rw [List.getD_eq_getElem?_getD, List.getElem?_eq_getElem hk]; exact List.getElem_mem hk)
      have i1 : atI (us.map V.int) (0 + ((k : Nat) : Int)) = some (.int (us.getD k 0)) := at_i (by omega) hk
      have h272 := hO.tab.1
      walk_at "go"
      refine w_set0 h5 (m := (us.getD k 0).toNat) (by omega) (by rw [List.length_map]; omega) fun H6 h6 => ?_
      have hs6 := set_six (ls := ls) (p := (us.getD k 0).toNat) (by omega)
      refine ⟨_, _, ⟨ls.set (us.getD k 0).toNat 6, _, rfl, rfl, by rw [List.map_set], ?_, by omega⟩, h6⟩
      rw [List.take_add_one, List.getElem?_eq_getElem hk, Option.toList_some, List.map_append]
      have z := hO.set (p := (us.getD k 0).toNat) (v := 6) (by omega) (by decide) (by decide)
      rw [List.getD_eq_getElem?_getD, List.getElem?_eq_getElem hk] at z ⊢
      exact z
    · rintro σ' L' B2 H5 ⟨ls, w5, rfl, rfl, rfl, hO, hKr⟩ h5
      rw [List.take_of_length_le (Nat.le_refl _)] at hO
      clear h4
      walk_at "go"
      refine w_cut (fun σ2 H6 => ∃ (ls : List Int) (w5 : Option V), σ2 = [some (.ref a), some (.int ce), some (.ref f), w3, some (.ref g), w5, none] ∧ OwnT (us.map Int.toNat) ls ∧ (ls.map krI).sum ≤ 4096 ∧ Hs B2 ((g, .lst (ls.map V.int)) :: (f, .lst (us.map V.int)) :: L) H6) ?_ ?_
      · walk_at "go"
        rw [List.length_map]
        by_cases c7 : us.length < 7
        · refine i_t (decide_eq_true (by omega)) ?_
          walk_at "go"
          refine i_2 (fun c1 => ?_) (fun c1 => ?_)
          · walk_at "go"
            rw [List.length_map]
            refine ⟨_, rfl, by omega, by omega, ?_⟩
            rw [Int.toNat_natCast]
            refine w_forR (fun k σ' L' B3 => ∃ (ls : List Int) (w5 : Option V), σ' = [some (.ref a), some (.int ce), some (.ref f), w3, some (.ref g), w5, none] ∧ B3 = B2 ∧ L' = (g, .lst (ls.map V.int)) :: (f, .lst (us.map V.int)) :: L ∧ OwnT (us.map Int.toNat) ls ∧ (ls.map krI).sum + 2 ^ (12 - k) + 64 * k ≤ 64 * us.length + 4096) h5
              ⟨ls, _, rfl, rfl, rfl, hO, by show _ + 4096 + 0 ≤ _; omega⟩ ?_ ?_
            · rintro k σ' L' B3 H6 hk ⟨ls, w5, rfl, rfl, rfl, hO, hKr⟩ h6
              walk_at "go"
              rw [List.length_map]
              have hn0 : ((us.length : Nat) : Int) ≠ 0 := by omega
              have m1 := Int.emod_nonneg (0 + ((k : Nat) : Int) + ce / 2) hn0
              have m2 := Int.emod_lt_of_pos (0 + ((k : Nat) : Int) + ce / 2) (show (0 : Int) < ((us.length : Nat) : Int) by omega)
              refine c_mod (by omega) ?_
              generalize (0 + ((k : Nat) : Int) + ce / 2) % ((us.length : Nat) : Int) = j at *
              have hjl : j.toNat < us.length := by omega
              have hu := ht2 (us.getD j.toNat 0) (by rw [List.getD_eq_getElem?_getD, List.getElem?_eq_getElem hjl]; exact List.getElem_mem hjl)
              have i1 : atI (us.map V.int) j = some (.int (us.getD j.toNat 0)) := at_i (by omega) hjl
              have h272 := hO.tab.1
              have hmem : (us.getD j.toNat 0).toNat ∈ us.map Int.toNat := List.mem_map_of_mem (by rw [List.getD_eq_getElem?_getD, List.getElem?_eq_getElem hjl]; exact List.getElem_mem hjl)
              have hb1 := hO.pos _ hmem
              have hb2 := (tab_at hO.tab (p := (us.getD j.toNat 0).toNat) (by omega)).2
              refine c_ixL (h6.sql (.tail _ (.head _))) i1 ?_
              rw [show (if 0 + ((k : Nat) : Int) + 1 < 6 then 0 + ((k : Nat) : Int) + 1 else 6) = (((k + 1 : Nat) : Nat) : Int) by split <;> omega]
              refine w_set0 h6 (m := (us.getD j.toNat 0).toNat) (by omega) (by rw [List.length_map]; omega) fun H7 h7 => ?_
              have hsm := set_more (ls := ls) (p := (us.getD j.toNat 0).toNat) (i := k) (by omega) ⟨hb1, hb2⟩ (by omega) hKr
              refine ⟨_, _, ⟨ls.set (us.getD j.toNat 0).toNat (((k + 1 : Nat) : Nat) : Int), _, rfl, rfl, by rw [List.map_set], ?_, hsm⟩, h7⟩
              exact (hO.set (p := (us.getD j.toNat 0).toNat) (v := (((k + 1 : Nat) : Nat) : Int)) (by omega) (by omega) (by omega)).sub fun p hp => List.mem_append_left _ hp
            · rintro σ' L' B3 H6 ⟨ls, w5, rfl, rfl, rfl, hO, hKr⟩ h6
              have := Nat.two_pow_pos (12 - us.length)
              exact ⟨ls, w5, rfl, hO, by omega, h6⟩
          · walk_at "go"
            exact ⟨ls, w5, rfl, hO, by omega, h5⟩
        · refine i_f (decide_eq_false (by omega)) ?_
          walk_at "go"
          exact ⟨ls, w5, rfl, hO, by omega, h5⟩
      rintro σ2 H6 ⟨ls, w5, rfl, hO, hKr, h6⟩
      clear h5
      have s7 := same_upd (o := .lst (ls.map V.int)) (h6.nb (p := g) (.head _))
      have kg : SqL K (upd B2 g (.lst (ls.map V.int))) g (ls.map V.int) := .of upd_same
      have h7 := h6.fix.drop
      have hS := s7.seq hS
      have hTu := hTu.same s7
      generalize upd B2 g (.lst (ls.map V.int)) = B3 at *
      clear h6
      have hTab := hO.tab
      have h272 := hTab.1
      have hlt2 : ∀ p ∈ us.map Int.toNat, p < 272 := fun p hp => by
        obtain ⟨u, hu, rfl⟩ := List.mem_map.mp hp
        have := ht2 u hu
        omega
      have hmm : ∀ c ∈ ps, thingP c ∈ us.map Int.toNat := fun c hc => List.mem_map.mpr ⟨_, hin c hc, by omega⟩
      have hlok := own_lenOk hO (by simpa using hune) hlt2 hKr
      have hCF := codes_fit (fun n hn => by have := hTab.2 n hn; omega) (kraft_le hlok)
      have hHas : Has (codesOf ls) ps := fun c hc => by
        obtain ⟨xx, e⟩ := code_of (ws := ls) (p := thingP c) (hO.pos _ (hmm c hc)) (by rw [h272]; exact thing_lt (hok c hc))
        exact ⟨xx, _, e⟩
      walk_at "go"
      refine c_lcL V.int ls (fun pre acc B' => Tups K B' acc ((pre.map fun n => (n.toNat, 3)).map pairP)) h7 .nil (fun B' H' s h => h.bl (s.seq kg)) ?_ ?_
      · rintro pre n post acc B5 D H10 e hT s5 h12
        have hn := hTab.2 n (by rw [e]; simp)
        have hpl : pre.length < ls.length := by rw [e]; simp
        have hal : acc.length = pre.length := by rw [hT.length]; simp
        walk_at "go"
        refine ⟨rfl, ?_⟩
        walk_at "go"
        rename_i t1 H11 h13
        have k1 := h13.nb (.head _)
        refine c_item h13.fix (small5 (by omega)) (s5.trans (same_upd k1)) ?_
        show Tups K _ _ (((pre ++ [n]).map fun n => (n.toNat, 3)).map pairP)
        rw [List.map_append, List.map_append, show [n].map (fun n => (n.toNat, 3)) = [(n.toNat, 3)] from rfl, show [(n.toNat, 3)].map pairP = [[V.int ((n.toNat : Nat) : Int), V.int 3]] from rfl, show ((n.toNat : Nat) : Int) = n by omega]
        exact hT.snocFix k1
      rintro acc B5 D H10 hT s5 h12
      have hal : acc.length = 272 := by rw [hT.length, List.length_map, List.length_map, h272]
      walk_at "go"
      refine ⟨B5, _, a, g, xs, ps, ls, rfl, h12, s5.seq hS, hTu.same s5, hok, by omega, s5.seq kg, hTab, hHas, fun B6 pp pws H12 s8 hT7 h15 => ?_⟩
      have hpl2 := partsC_len (codesOf ls) ps
      have hwl : pws.length = (partsC (codesOf ls) ps).length := by rw [hT7.length, List.length_map]
      refine c_addL h15 (h15.get (.tail _ (.head _))) (h15.get (.head _)) (small6' (by omega)) fun r H13 h16 => ?_
      walk_at "go"
      refine ⟨r, _, (ls.map fun n => (n.toNat, 3)) ++ partsC (codesOf ls) ps, rfl, h16.sql (.head _), ?_, ?_, by rw [List.length_append, List.length_map]; omega, ?_⟩
      · rw [List.map_append]
        exact ((hT.same s8).appT hT7).same h16.ex
      · intro p hp
        rcases List.mem_append.mp hp with z | z
        · obtain ⟨n, hn, rfl⟩ := List.mem_map.mp z
          have := hTab.2 n hn
          exact ⟨show 3 ≤ 24 by decide, show n.toNat < 8 by omega⟩
        · exact partsC_good hCF hok p z
      rw [parB_append, ← itsB_ones, partsC_bits]
      refine retV h16.drop.drop.drop fun H14 h17 => ?_
      exact q ls (ls.map Ite.one) B6 H14 hTab hlok hHas (lays_ones ls 0) ((s7.trans s5).trans s8) h17
end L2.BR

namespace L2.BR
open PySem PySem.Spec PyProof.Rows L2.BP
variable {K : PySem.W.Frag} {W : WX} {vs : List V} {H : Hp} {Q : VK} {E : XK}
/-! ### the law's own search for copies -/
/-- what was found of the first i places ahead -/
def Best (ns : List Int) (p i : Nat) (c : Nat × Nat) : Prop := (∀ j, j < i → alike ns p (j + 1) (mostAt ns p) ≤ c.2) ∧
  (c = (0, 0) ∨ ∃ k, k < i ∧ c = (k + 1, alike ns p (k + 1) (mostAt ns p)) ∧ 0 < alike ns p (k + 1) (mostAt ns p) ∧ ∀ j, j < k → alike ns p (j + 1) (mostAt ns p) < alike ns p (k + 1) (mostAt ns p))
theorem best_step {ns : List Int} {p i : Nat} {c : Nat × Nat} (h : Best ns p i c) : Best ns p (i + 1) (if c.2 < alike ns p (1 + i) (mostAt ns p) then (1 + i, alike ns p (1 + i) (mostAt ns p)) else c) := by
  obtain ⟨h1, h2⟩ := h
  rw [Nat.add_comm 1 i]
  by_cases e : c.2 < alike ns p (i + 1) (mostAt ns p)
  · rw [if_pos e]
    refine ⟨fun j hj => ?_, .inr ⟨i, Nat.lt_succ_self _, rfl, by omega, fun j hj => ?_⟩⟩
    · show _ ≤ alike ns p (i + 1) (mostAt ns p)
      by_cases hji : j = i
      · rw [hji]
        exact Nat.le_refl _
      · have := h1 j (by omega)
        omega
    · have := h1 j hj
      omega
  · rw [if_neg e]
    refine ⟨fun j hj => ?_, ?_⟩
    · by_cases hji : j = i
      · rw [hji]
        omega
      · exact h1 j (by omega)
    · rcases h2 with h2 | ⟨k, k1, k2, k3, k4⟩
      · exact .inl h2
      · exact .inr ⟨k, by omega, k2, k3, k4⟩
theorem best_all {ns : List Int} {p : Nat} (hp : p < ns.length) : ∀ m i c, i + m = min 255 p → Best ns p i c → Best ns p (min 255 p) (lcp ns p (mostAt ns p) ((backs p).drop i) c)
  | 0, i, c, e, h => by
    rw [Nat.add_zero] at e
    rw [e, backs_all]
    unfold lcp
    rw [← e]
    exact h
  | m + 1, i, c, e, h => by
    have st := best_step h
    rw [backs_split (by omega)]
    unfold lcp
    by_cases q : ns[p]? = ns[p - (1 + i)]?
    · rw [if_pos q]
      by_cases f : alike ns p (1 + i) (mostAt ns p) = mostAt ns p
      · rw [if_pos f]
        obtain ⟨s1, s2⟩ := st
        refine ⟨fun j hj => ?_, ?_⟩
        · have a1 := alike_le ns p (j + 1) (mostAt ns p)
          have a2 := s1 i (Nat.lt_succ_self _)
          rw [Nat.add_comm i 1] at a2
          have a3 : alike ns p (j + 1) (mostAt ns p) ≤ alike ns p (1 + i) (mostAt ns p) := by rw [f]; exact a1
          exact Nat.le_trans a3 a2
        · rcases s2 with s2 | ⟨k, k1, k2, k3, k4⟩
          · exact .inl s2
          · exact .inr ⟨k, by omega, k2, k3, k4⟩
      · rw [if_neg f]
        exact best_all hp m (i + 1) _ (by omega) st
    · rw [if_neg q]
      have z : alike ns p (1 + i) (mostAt ns p) = 0 := by
        have hm : mostAt ns p = (mostAt ns p - 1) + 1 := by unfold mostAt; omega
        unfold alike
        rw [hm]
        unfold alk
        rw [Nat.add_zero, if_neg q]
      rw [if_neg (show ¬ c.2 < alike ns p (1 + i) (mostAt ns p) by omega)] at st
      exact best_all hp m (i + 1) _ (by omega) st
theorem longest_best {ns : List Int} {p : Nat} (hp : p < ns.length) : Best ns p (min 255 p) (longest ns p) :=
  best_all hp (min 255 p) 0 (0, 0) (by omega) ⟨fun _ h => absurd h (Nat.not_lt_zero _), .inl rfl⟩
def alL (ns : List Int) (p i : Nat) : List Int := 0 :: (List.range i).map fun j => ((alike ns p (j + 1) (mostAt ns p) : Nat) : Int)
theorem alL_length (ns : List Int) (p i : Nat) : (alL ns p i).length = i + 1 := by simp [alL]
theorem alL_succ (ns : List Int) (p i : Nat) : alL ns p (i + 1) = alL ns p i ++ [((alike ns p (i + 1) (mostAt ns p) : Nat) : Int)] := by
  unfold alL
  rw [List.range_succ, List.map_append]
  rfl
theorem alL_at {ns : List Int} {p i j : Nat} (h : j < i) : (alL ns p i)[j + 1]? = some ((alike ns p (j + 1) (mostAt ns p) : Nat) : Int) := by
  unfold alL
  rw [List.getElem?_cons_succ, List.getElem?_map, List.getElem?_range h]
  rfl
theorem alL_max {ns : List Int} {p : Nat} (hp : p < ns.length) {m : Int} (h1 : m ∈ alL ns p (min 255 p)) (h2 : ∀ y, y ∈ alL ns p (min 255 p) → y ≤ m) : m = (((longest ns p).2 : Nat) : Int) := by
  obtain ⟨b1, b2⟩ := longest_best hp
  have z1 : m ≤ (((longest ns p).2 : Nat) : Int) := by
    unfold alL at h1
    rcases List.mem_cons.mp h1 with e | e
    · omega
    · obtain ⟨j, hj, rfl⟩ := List.mem_map.mp e
      exact Int.ofNat_le.mpr (b1 j (List.mem_range.mp hj))
  have z2 : (((longest ns p).2 : Nat) : Int) ≤ m := by
    refine h2 _ ?_
    rcases b2 with e | ⟨k, k1, k2, _, _⟩
    · rw [e]
      exact .head _
    · rw [k2]
      exact List.mem_of_getElem? (alL_at k1)
  omega
theorem alL_index {ns : List Int} {p : Nat} (hp : p < ns.length) (h3 : 3 ≤ (longest ns p).2) : (alL ns p (min 255 p))[(longest ns p).1]? = some (((longest ns p).2 : Nat) : Int) ∧ ∀ m, m < (longest ns p).1 → (alL ns p (min 255 p))[m]? ≠ some (((longest ns p).2 : Nat) : Int) := by
  obtain ⟨b1, b2⟩ := longest_best hp
  rcases b2 with e | ⟨k, k1, k2, k3, k4⟩
  · rw [e] at h3
    exact absurd h3 (by decide)
  · rw [k2] at h3 ⊢
    refine ⟨alL_at k1, fun m hm z => ?_⟩
    cases m with
    | zero =>
      have z : some (0 : Int) = some _ := z
      injection z with z
      have : ((alike ns p (k + 1) (mostAt ns p) : Nat) : Int) = 0 := z.symm
      omega
    | succ j =>
      have hjk : j < k := Nat.lt_of_succ_lt_succ hm
      rw [alL_at (show j < min 255 p by omega)] at z
      injection z with z
      have := k4 j hjk
      have z : ((alike ns p (j + 1) (mostAt ns p) : Nat) : Int) = ((alike ns p (k + 1) (mostAt ns p) : Nat) : Int) := z
      omega
theorem c_ixOf {a : Addr} {i : Int} (ns : List Int) (j : Nat) (h : SqL K H a (ns.map V.int)) (hj : ns[j]? = some i) (hm : ∀ m, m < j → ns[m]? ≠ some i) (k : Q (.int (j : Nat)) H) : rIndex K (.ref a) [.int i] H Q := by
  refine ⟨a, _, .int i, j, .int i, rfl, rfl, h, rfl, flat_ints ns, by rw [List.getElem?_map, hj]; rfl, by simp [L2.eqV], fun m z' hlt e => ?_, k⟩
  rw [List.getElem?_map] at e
  cases f : ns[m]? with
  | none => rw [f] at e; cases e
  | some x =>
    rw [f] at e
    cases e
    have : x ≠ i := fun z => hm m hlt (by rw [f, z])
    simp [L2.eqV, this]
def sp__law_alike (K : PySem.W.Frag) : Sp := fun vs H Q _ => ∃ (a : Addr) (ns : List Int) (p b most : Nat), vs = [.ref a, .int ((p : Nat) : Int), .int ((b : Nat) : Int), .int ((most : Nat) : Int)] ∧ SqL K H a (ns.map V.int) ∧ b ≤ p ∧ p + most ≤ ns.length ∧
  RetV H Q (.int ((alike ns p b most : Nat) : Int))
theorem len__law_alike (h : sp__law_alike K vs H Q E) : vs.length = 4 := by
  obtain ⟨a, ns, p, b, most, rfl, _⟩ := h
  rfl
def t__law_alike (K : PySem.W.Frag) (W : WX) : TS :=
  (tSeq (tAsg (tC (.int 0)) (gName 4))
    (tSeq (tWhile ((tAnd (tTest (tOp rLtU (tVar 4) (tVar 3))) (tTest (tOp (rEqU K) (tOp (rIx K) (tVar 0) (tOp rAddU (tVar 1) (tVar 4))) (tOp (rIx K) (tVar 0) (tOp rSubU (tOp rAddU (tVar 1) (tVar 4)) (tVar 2))))))) (tAsg (tOp rAddU (tVar 4) (tC (.int 1))) (gName 4)))
    (tRet (tVar 4))))
theorem rd__law_alike (h : sp__law_alike K vs H Q E) : t__law_alike K W { nx := fun _ H' => Q .non H', rt := Q } (start ["_law_signs_here", "_law_place", "_law_back", "_law_most", "_law_size"] vs) H := by
  obtain ⟨a, ns, p, b, most, rfl, hS, hb, hm, q⟩ := h
  have hs := Hs.start H
  unfold t__law_alike
  walk_at "go"
  refine w_while (fun m σ' L' B' => ∃ f : Nat, f + m = most ∧ alk ns p b m f = alike ns p b most ∧ σ' = [some (.ref a), some (.int p), some (.int b), some (.int most), some (.int f)] ∧ B' = H ∧ L' = []) most hs ⟨0, by omega, rfl, rfl, rfl, rfl⟩ ?_
  rintro m σ' L' B' H' ⟨f, hf, hk, rfl, rfl, rfl⟩ h
  have hS' := h.bl hS
  walk_at "go"
  by_cases hlt : f < most
  · refine i_t (decide_eq_true (by omega)) ?_
    obtain ⟨m, rfl⟩ : ∃ m', m = m' + 1 := ⟨m - 1, by omega⟩
    have i1 : atI (ns.map V.int) (((p : Nat) : Int) + ((f : Nat) : Int)) = some (.int (ns.getD (p + f) 0)) := at_i (by omega) (by omega)
    have i2 : atI (ns.map V.int) (((p : Nat) : Int) + ((f : Nat) : Int) - ((b : Nat) : Int)) = some (.int (ns.getD (p + f - b) 0)) := at_i (by omega) (by omega)
    walk_at "go"
    unfold alk at hk
    by_cases he : ns[p + f]? = ns[p + f - b]?
    · rw [if_pos he] at hk
      refine i_t (decide_eq_true (getD_of he)) (w_turn ?_)
      walk_at "go"
      exact ⟨m, by omega, _, _, ⟨f + 1, by omega, hk, rfl, rfl, rfl⟩, h⟩
    · rw [if_neg he] at hk
      refine i_f (decide_eq_false fun z => he ((opt_getD (by omega) (by omega)).mpr z)) ?_
      walk_at "go"
      rw [hk]
      exact q _ h.ex
  · refine i_f (decide_eq_false (by omega)) ?_
    walk_at "go"
    rw [show m = 0 by omega] at hk
    unfold alk at hk
    rw [hk]
    exact q _ h.ex
def sp__law_pieces (K : PySem.W.Frag) : Sp := fun vs H Q _ => ∃ (a b : Addr) (ws ts : List Int), vs = [.ref b, .ref a] ∧ H a = some (.lst (ws.map V.int)) ∧ H b = some (.lst (ts.map V.int)) ∧ ws.length ≤ 1000 ∧ ts.length ≤ 1000 ∧
  ∀ p xs H', Same H H' → Tups K H' xs ((pcs (ws ++ ts) ts.length ws.length).map pcV) → SqL K H' p xs → Q (.ref p) H'
theorem len__law_pieces (h : sp__law_pieces K vs H Q E) : vs.length = 2 := by
  obtain ⟨a, b, ws, ts, rfl, _⟩ := h
  rfl
def t__law_pieces (K : PySem.W.Frag) (W : WX) : TS :=
  (tSeq (tAsg (tOp rAddU (tVar 1) (tVar 0)) (gName 2))
    (tSeq (tAsg (tCB (rLenK K) (tCons (tVar 1) tNil)) (gName 3))
    (tSeq (tAsg (tLst tNil) (gName 4))
    (tSeq (tWhile (tTest (tOp rLtU (tVar 3) (tCB (rLenK K) (tCons (tVar 2) tNil)))) (tSeq (tAsg (tCB (rMin2K) (tCons (tC (.int 18)) (tCons (tOp rSubU (tCB (rLenK K) (tCons (tVar 2) tNil)) (tVar 3)) tNil))) (gName 5))
    (tSeq (tAsg (tLst (tCons (tC (.int 0)) tNil)) (gName 6))
    (tSeq (tFor (iRng2 (tCons (tC (.int 1)) (tCons (tOp rAddU (tCB (rMin2K) (tCons (tC (.int 255)) (tCons (tVar 3) tNil))) (tC (.int 1))) tNil))) (gName 7) (tDrop (tBM K "list" rAppend (tVar 6) (tCons (tCl (sp__law_alike K) [] W (tCons (tVar 2) (tCons (tVar 3) (tCons (tVar 7) (tCons (tVar 5) tNil))))) tNil))))
    (tSeq (tAsg (tCB (rMax K) (tCons (tVar 6) tNil)) (gName 8))
    (tIfS (tTest (tOp rLtU (tVar 8) (tC (.int 3)))) (tSeq (tDrop (tBM K "list" rAppend (tVar 4) (tCons (tTup (tCons (tC (.str "sign")) (tCons (tOp (rIx K) (tVar 2) (tVar 3)) tNil))) tNil)))
    (tAsg (tOp rAddU (tVar 3) (tC (.int 1))) (gName 3))) (tSeq (tDrop (tBM K "list" rAppend (tVar 4) (tCons (tTup (tCons (tC (.str "copy")) (tCons (tBM K "list" (rIndex K) (tVar 6) (tCons (tVar 8) tNil)) (tCons (tVar 8) tNil)))) tNil)))
    (tAsg (tOp rAddU (tVar 3) (tVar 8)) (gName 3)))))))))
    (tRet (tVar 4))))))
theorem rd__law_pieces (h : sp__law_pieces K vs H Q E) : t__law_pieces K W { nx := fun _ H' => Q .non H', rt := Q } (start ["_law_text", "_law_before", "_law_signs_here", "_law_place", "_law_found", "_law_most", "_law_sizes", "_law_back", "_law_best"] vs) H := by
  obtain ⟨a, b, ws, ts, rfl, ha, hb, hla, hlb, q⟩ := h
  have hs := Hs.start H
  unfold t__law_pieces
  walk_at "go"
  refine c_addL hs ha hb (small6' (by simp; omega)) fun s H1 h1 => ?_
  rw [← List.map_append] at h1
  have hsg := h1.sql (K := K) (.head _)
  have hA1 : SqL K H1 a (ws.map V.int) := h1.bl (SqL.of ha)
  have e0 := h1.ex
  have h2 := Hs.start H1
  clear h1 hs
  walk_at "go"
  rename_i f H2 h3
  rw [List.length_map]
  generalize hns : ws ++ ts = ns at *
  have hnl : ns.length = ws.length + ts.length := by rw [← hns, List.length_append]
  refine w_while (fun m σ' L' B' => ∃ (p : Nat) (qs : List Pc) (acc : List V) (w5 w6 w7 w8 : Option V), pcs ns ts.length ws.length = qs ++ pcs ns m p ∧ p ≤ ns.length ∧ ns.length ≤ p + m ∧ qs.length ≤ p ∧
    Same H1 B' ∧ Tups K B' acc (qs.map pcV) ∧ σ' = [some (.ref b), some (.ref a), some (.ref s), some (.int ((p : Nat) : Int)), some (.ref f), w5, w6, w7, w8] ∧ L' = [(f, .lst acc)]) ts.length h3
    ⟨ws.length, [], [], none, none, none, none, rfl, by omega, by omega, Nat.zero_le _, Same.refl _, .nil, rfl, rfl⟩ ?_
  rintro m σ' L' B' H' ⟨p, qs, acc, w5, w6, w7, w8, hq, hp1, hp2, hp3, hB, hT, rfl, rfl⟩ h
  have hal : acc.length = qs.length := by rw [hT.length, List.length_map]
  have hsg' := h.bl (hB.seq hsg)
  clear h3 h2
  walk_at "go"
  rw [List.length_map]
  by_cases hlt : p < ns.length
  · refine i_t (decide_eq_true (by omega)) (w_turn ?_)
    obtain ⟨m, rfl⟩ : ∃ m', m = m' + 1 := ⟨m - 1, by omega⟩
    walk_at "go"
    rw [List.length_map, show (if ((ns.length : Nat) : Int) - ((p : Nat) : Int) < 18 then ((ns.length : Nat) : Int) - ((p : Nat) : Int) else 18) = ((mostAt ns p : Nat) : Int) by unfold mostAt; split <;> omega]
    have hm : mostAt ns p ≤ ns.length - p := by unfold mostAt; omega
    rename_i z H3 h4
    have e1 : (if ((p : Nat) : Int) < 255 then ((p : Nat) : Int) else 255) + 1 = ((min 255 p + 1 : Nat) : Int) := by split <;> omega
    rw [e1]
    refine ⟨1, _, rfl, ⟨by decide, by decide, by omega, by omega⟩, ?_⟩
    have e2 : (((min 255 p + 1 : Nat) : Int) - 1).toNat = min 255 p := by omega
    rw [e2]
    refine w_forR (fun i σ' L' B'' => ∃ (w7 : Option V), B'' = B' ∧ σ' = [some (.ref b), some (.ref a), some (.ref s), some (.int ((p : Nat) : Int)), some (.ref f), some (.int ((mostAt ns p : Nat) : Int)), some (.ref z), w7, w8] ∧
      L' = [(z, .lst ((alL ns p i).map V.int)), (f, .lst acc)]) h4 ⟨w7, rfl, rfl, rfl⟩ ?_ ?_
    · rintro i σ' L' B'' H4 hi ⟨w7, rfl, rfl, rfl⟩ h
      have hS' := h.bl (hB.seq hsg)
      walk_at "go"
      refine ⟨s, ns, p, 1 + i, mostAt ns p, rfl, hS', by omega, by omega, retV h fun H5 h5 => ?_⟩
      clear h hS'
      walk_at "go"
      refine c_app0 h5 (small6 (by rw [List.length_map, alL_length]; omega)) fun H6 h6 => ?_
      walk_at "go"
      refine ⟨_, _, ⟨_, rfl, rfl, ?_⟩, h6⟩
      rw [alL_succ, List.map_append, Nat.add_comm 1 i]
      rfl
    · rintro σ' L' B'' H4 ⟨w7, rfl, rfl, rfl⟩ h
      have hS' := h.bl (hB.seq hsg)
      have hz := h.sql (K := K) (.head _)
      have hix := at_nat hlt
      clear h4
      walk_at "go"
      refine ⟨z, _, rfl, hz, by rw [alL_length]; omega, fun y hy1 hy2 => ?_⟩
      rw [alL_max hlt hy1 hy2]
      clear hy1 hy2
      walk_at "go"
      by_cases h3 : 3 ≤ (longest ns p).2
      · refine i_f (decide_eq_false (by omega)) ?_
        rw [pcs_copy hlt h3] at hq
        have hzz := longest_size ns p
        unfold mostAt at hzz
        obtain ⟨x1, x2⟩ := alL_index hlt h3
        walk_at "go"
        refine c_ixOf _ _ hz x1 x2 ?_
        walk_at "go"
        rename_i u H6 h8
        have hn := h8.nb (.head _)
        refine c_app1 h8.fix (small6 (by omega)) fun H7 h9 => ?_
        walk_at "go"
        refine ⟨m, by omega, _, _, ⟨p + (longest ns p).2, qs ++ [.copy (longest ns p).1 (longest ns p).2], _, _, _, _, _, by rw [hq, List.append_assoc]; rfl, by omega, by omega, by rw [List.length_append, List.length_singleton]; omega, hB.trans (same_upd hn), ?_, rfl, rfl⟩, h9.drop⟩
        rw [List.map_append]
        exact hT.snocFix hn
      · refine i_t (decide_eq_true (by omega)) ?_
        rw [pcs_sign hlt h3] at hq
        walk_at "go"
        rename_i u H6 h8
        have hn := h8.nb (.head _)
        refine c_app1 h8.fix (small6 (by omega)) fun H7 h9 => ?_
        walk_at "go"
        refine ⟨m, by omega, _, _, ⟨p + 1, qs ++ [.sign (ns.getD p 0)], _, _, _, _, _, by rw [hq, List.append_assoc]; rfl, by omega, by omega, by rw [List.length_append, List.length_singleton]; omega, hB.trans (same_upd hn), ?_, rfl, rfl⟩, h9.drop⟩
        rw [List.map_append]
        exact hT.snocFix hn
  · refine i_f (decide_eq_false (by omega)) ?_
    walk_at "go"
    rw [pcs_end (ns := ns) (p := p) (by omega), List.append_nil] at hq
    rw [← hq] at hT
    exact q f acc H' (e0.trans (hB.trans h.ex)) (hT.same h.ex) (h.sql (.head _))
end L2.BR

namespace L2.BR
open PySem PySem.Spec PyProof.Rows L2.BP
variable {K : PySem.W.Frag} {W : WX} {vs : List V} {H : Hp} {Q : VK} {E : XK}
/-! ### windows handed on -/
theorem c_neLN {p q a1 b1 : Addr} (u : List Int) (hp : SqL K H p [.ref a1, .non]) (h1 : SqL K H a1 (u.map V.int)) (hq : SqL K H q [.ref b1, .non]) (h3 : SqL K H b1 (u.map V.int)) (k : Q (.bl false) H) :
    rNeU K (.ref p) (.ref q) H Q := by
  have hs : SeqAt.shaped (.list [.list (u.map PyData.int), .none]) = true := by
    have z1 := depAll_ints u
    unfold SeqAt.shaped
    simp only [PyData.canLay0, PyData.canLayAll0, canAll_ints, PyData.depth, PyData.depthAll]
    simp
    omega
  refine c_neD (.lst hp (.cons (.lst h1 (dpa_ints u)) (.cons .non .nil))) (.lst hq (.cons (.lst h3 (dpa_ints u)) (.cons .non .nil))) hs hs ?_
  simp only [PyData.eqv, PyData.eqvAll, eqvAll_ints, decide_true, Bool.and_self]
  exact k
theorem c_neLL {p q a1 a2 b1 b2 : Addr} (u v : List Int) (hp : SqL K H p [.ref a1, .ref a2]) (h1 : SqL K H a1 (u.map V.int)) (h2 : SqL K H a2 (v.map V.int)) (hq : SqL K H q [.ref b1, .ref b2]) (h3 : SqL K H b1 (u.map V.int)) (h4 : SqL K H b2 (v.map V.int)) (k : Q (.bl false) H) :
    rNeU K (.ref p) (.ref q) H Q := by
  have hs : SeqAt.shaped (.list [.list (u.map PyData.int), .list (v.map PyData.int)]) = true := by
    have z1 := depAll_ints u
    have z2 := depAll_ints v
    unfold SeqAt.shaped
    simp only [PyData.canLay0, PyData.canLayAll0, canAll_ints, PyData.depth, PyData.depthAll]
    simp
    omega
  refine c_neD (.lst hp (.cons (.lst h1 (dpa_ints u)) (.cons (.lst h2 (dpa_ints v)) .nil))) (.lst hq (.cons (.lst h3 (dpa_ints u)) (.cons (.lst h4 (dpa_ints v)) .nil))) hs hs ?_
  simp only [PyData.eqv, PyData.eqvAll, eqvAll_ints, decide_true, Bool.and_self]
  exact k
/-- the window handed on: none, or a copy of it -/
theorem c_handed {B : Hp} {L : Pic} {σ : St} {n : Nat} {v : V} {g : Tg} {ws : List Int} (hv : σ[n]? = some (some v)) (hs : Hs B L H) (hT : Th K B v g) (hw : WinW g ws) (k : ∀ v2 B2 H', Same B B2 → Th K B2 v2 g → Hs B2 L H' → Q v2 H') :
    if decide (v = .non) = true then tVar n σ H Q else tCB (rListK K) (tCons (tVar n) tNil) σ H Q := by
  rcases hw with ⟨rfl, rfl⟩ | ⟨rfl, _, _⟩
  · cases hT
    exact i_t (decide_eq_true rfl) (c_var hv (k .non B H (Same.refl _) .non hs))
  · cases hT with
    | @lst a xs z => exact i_f (decide_eq_false (by simp)) (c_cb (c_cons (c_var hv (c_nil (c_listL hs (hs.bl z) fun a2 H' h' => k (.ref a2) _ H' (same_upd (h'.nb (.head _))) (.lst (SqL.of upd_same)) h'.fix)))))
theorem c_neH {p q a1 b1 : Addr} {v v2 : V} {g : Tg} {u ws : List Int} (hp : SqL K H p [.ref a1, v2]) (h1 : SqL K H a1 (u.map V.int)) (h2 : Th K H v2 g) (hq : SqL K H q [.ref b1, v]) (h3 : SqL K H b1 (u.map V.int)) (h4 : Th K H v g) (hw : WinW g ws) (k : Q (.bl false) H) :
    rNeU K (.ref p) (.ref q) H Q := by
  rcases hw with ⟨rfl, rfl⟩ | ⟨rfl, _, _⟩
  · cases h2
    cases h4
    exact c_neLN u hp h1 hq h3 k
  · cases h2 with
    | lst z2 => cases h4 with
      | lst z4 => exact c_neLL u ws hp h1 z2 hq h3 z4 k
end L2.BR

namespace L2.BR
open PySem PySem.Spec PyProof.Rows L2.BP
variable {K : PySem.W.Frag} {W : WX} {vs : List V} {H : Hp} {Q : VK} {E : XK}
/-! ### the heap without the table -/
def wo (H : Hp) (P : Addr) : Hp := fun b => if b = P then none else H b
section
variable {P p : Addr} {ps : Array Value} {H' B : Hp}
theorem Hs.at (h : H P = some (.tbl ps)) : Hs (wo H P) [(P, .tbl ps)] H where
  ex := fun b u e => by
    unfold wo at e
    split at e
    · cases e
    · exact e
  nd := by simp
  own := fun q m => by
    rw [List.mem_singleton.mp m]
    exact ⟨h, if_pos rfl⟩
theorem wo_of (h : H P = some (.tbl ps)) {b : Addr} {u : HO} (e : H b = some u) (n : ∀ ps, u ≠ .tbl ps) : wo H P b = some u := by
  unfold wo
  rw [if_neg]
  · exact e
  · rintro rfl
    rw [h] at e
    cases e
    exact n _ rfl
theorem wo_rd (h : H P = some (.tbl ps)) {b : Addr} {u : HO} (e : Rd H b u) (n : ∀ ps, u ≠ .tbl ps) : Rd (wo H P) b u := by
  rcases e with e | ⟨o, e⟩
  · exact .inl (wo_of h e n)
  · exact .inr ⟨o, wo_of h e (fun _ z => nomatch z)⟩
theorem wo_sql (h : H P = some (.tbl ps)) {xs : List V} (e : SqL K H p xs) : SqL K (wo H P) p xs := e.imp (fun e => wo_rd h e (fun _ z => nomatch z)) id
theorem wo_sqt (h : H P = some (.tbl ps)) {xs : List V} (e : SqT K H p xs) : SqT K (wo H P) p xs := e.imp (fun e => wo_rd h e (fun _ z => nomatch z)) id
theorem wo_th (h : H P = some (.tbl ps)) {v : V} {g : Tg} (e : Th K H v g) : Th K (wo H P) v g := by
  cases e with
  | non => exact .non
  | bl b => exact .bl b
  | int i => exact .int i
  | str x => exact .str x
  | lst e => exact .lst (wo_sql h e)
  | tup e => exact .tup (wo_sqt h e)
  | dic e => exact .dic (wo_of h e (fun _ z => nomatch z))
theorem wo_ok (h : H P = some (.tbl ps)) {g : Tg} (e : Tg.ok K H g) : Tg.ok K (wo H P) g := by
  cases g with
  | lst xs => exact ⟨fun x hx => (e.1 x hx).imp fun _ z => wo_th h z, e.2⟩
  | _ => trivial
theorem wo_cod (h : H P = some (.tbl ps)) : ∀ {xs : List V} {cs : List (Option (Nat × Nat))}, CodV K H xs cs → CodV K (wo H P) xs cs
  | _, _, .nil => .nil
  | _, _, .no t => .no (wo_cod h t)
  | _, _, .one e t => .one (wo_sqt h e) (wo_cod h t)
theorem wo_same {o : HO} (h : H P = some o) (h2 : Hs (wo H P) [(P, o)] H') : Same H H' := fun b u e => by
  by_cases c : b = P
  · rw [c, h] at e
    cases e
    rw [c]
    exact h2.get (.head _)
  · exact h2.ex b u (by unfold wo; rw [if_neg c]; exact e)
theorem wo_tab (h : H P = some (.tbl ps)) {rs : Array Value} {q : Str} (t : TabC H rs q) : TabC (wo H P) rs q := ⟨t.1, fun pos cv hc => (t.2 pos cv hc).imp fun c z => ⟨z.1, wo_of h z.2 (fun _ z => nomatch z)⟩⟩
end
end L2.BR

namespace L2.BR
open PySem PySem.Spec PyProof.Rows L2.BP
variable {K : PySem.W.Frag} {W : WX} {vs : List V} {H : Hp} {Q : VK} {E : XK}
structure KShareIs (K : PySem.W.Frag) : Prop where
  c : Cls K (He.ga K "ShareWay")
  i : InsC K (He.ga K "ShareWay")
  is : PySem.W.kitOne K (.ref (He.ga K "ShareWay")) (.ref (He.ga K "Way")) = some true
abbrev swO (K : PySem.W.Frag) (dx : Addr) : HO := .ins (He.ga K "ShareWay") dx []
/-! defs that are never called here -/
def sp_Way_number (K : PySem.W.Frag) : Sp := fun vs H Q _ => False
theorem len_Way_number (h : sp_Way_number K vs H Q E) : vs.length = 1 := h.elim
def t_Way_number (K : PySem.W.Frag) (W : WX) : TS :=
  (tRet (tOp rSubU (tC (.int 0)) (tC (.int 1))))
theorem rd_Way_number (h : sp_Way_number K vs H Q E) : t_Way_number K W { nx := fun _ H' => Q .non H', rt := Q } (start ["self"] vs) H := h.elim
def sp_Way_tell (K : PySem.W.Frag) : Sp := fun vs H Q _ => False
theorem len_Way_tell (h : sp_Way_tell K vs H Q E) : vs.length = 4 := h.elim
def t_Way_tell (K : PySem.W.Frag) (W : WX) : TS :=
  (tSeq (tDrop (tCl (sp_need_text K) [] W (tCons (tVar 2) tNil)))
    (tDrop (tCl (sp_need_window_ways K) [] W (tCons (tVar 3) tNil))))
theorem rd_Way_tell (h : sp_Way_tell K vs H Q E) : t_Way_tell K (fun c d _ H2 => E c d H2) { nx := fun _ H' => Q .non H', rt := Q } (start ["self", "bits", "text", "before"] vs) H := h.elim
def sp_Way_read (K : PySem.W.Frag) : Sp := fun vs H Q _ => False
theorem len_Way_read (h : sp_Way_read K vs H Q E) : vs.length = 4 := h.elim
def t_Way_read (K : PySem.W.Frag) (W : WX) : TS :=
  (tRet (tLst tNil))
theorem rd_Way_read (h : sp_Way_read K vs H Q E) : t_Way_read K W { nx := fun _ H' => Q .non H', rt := Q } (start ["self", "reader", "count", "before"] vs) H := h.elim
def sp_ShareWay_number (K : PySem.W.Frag) : Sp := fun vs H Q _ => ∃ v, vs = [v] ∧ Q (.int 3) H
theorem len_ShareWay_number (h : sp_ShareWay_number K vs H Q E) : vs.length = 1 := by
  obtain ⟨v, rfl, _⟩ := h
  rfl
def t_ShareWay_number (K : PySem.W.Frag) (W : WX) : TS :=
  (tRet (tC (.int 3)))
theorem rd_ShareWay_number (h : sp_ShareWay_number K vs H Q E) : t_ShareWay_number K W { nx := fun _ H' => Q .non H', rt := Q } (start ["self"] vs) H := by
  obtain ⟨v, rfl, q⟩ := h
  unfold t_ShareWay_number
  walk_at "go"
  exact q
theorem digS_01 : ("01" : Str) = digS [false, true] := by decide +kernel
def sp_Way_cost (K : PySem.W.Frag) : Sp := fun vs H Q _ => ∃ (B : Hp) (L : Pic) (ps0 : Array Value) (o dx t : Addr) (v : V) (g : Tg) (ts ws : List Int), vs = [.ref o, .ref t, v] ∧ Hs B ((tP K, .tbl ps0) :: L) H ∧ TabC B ps0 qC ∧ B o = some (swO K dx) ∧ SqL K B t (ts.map V.int) ∧ Bytes ts ∧ 1 ≤ ts.length ∧ ts.length ≤ 64 ∧ Th K B v g ∧ WinW g ws ∧
  ∀ B2 ps2 H', Same B B2 → TabC B2 ps2 qC → Hs B2 ((tP K, .tbl ps2) :: L) H' → Q (.int (((shareB (pcs (ws ++ ts) ts.length ws.length)).length : Nat) : Int)) H'
theorem len_Way_cost (h : sp_Way_cost K vs H Q E) : vs.length = 3 := by
  obtain ⟨B, L, ps0, o, dx, t, v, g, ts, ws, rfl, _⟩ := h
  rfl
def t_Way_cost (K : PySem.W.Frag) (W : WX) : TS :=
  (tSeq (tAsg (tMk (He.ga K "BitRow") (sp_BitRow___init__ K) [] W tNil) (gName 3))
    (tSeq (tDrop (tOrE (tMt (He.ga K "Way") "tell" (sp_Way_tell K) [] W (tVar 0) (tCons (tVar 3) (tCons (tVar 1) (tCons (tVar 2) tNil)))) (tMt (He.ga K "ShareWay") "tell" (sp_ShareWay_tell K) [] W (tVar 0) (tCons (tVar 3) (tCons (tVar 1) (tCons (tVar 2) tNil))))))
    (tRet (tMt (He.ga K "BitRow") "many" (sp_BitRow_many K) [] W (tVar 3) tNil))))
theorem rd_Way_cost (h : sp_Way_cost K vs H Q E) : t_Way_cost K (fun c d _ H2 => E c d H2) { nx := fun _ H' => Q .non H', rt := Q } (start ["self", "text", "before", "bits"] vs) H := by
  obtain ⟨B, L, ps0, o, dx, t, v, g, ts, ws, rfl, hs, hTC, ho, hS, hb, hl1, hl2, hT, hw, q⟩ := h
  unfold t_Way_cost
  walk_at "go"
  rename_i x dx2 H1 h1
  refine ⟨B, _, x, dx2, rfl, h1, fun f H2 h2 => ⟨rfl, ?_⟩⟩
  clear h1 hs
  have ho2 := h2.ex _ _ ho
  walk_at "go"
  refine c_alt2 ?_
  walk_at "go"
  refine ⟨B, L, ps0, o, x, dx2, f, t, v, g, [], ts, ws, rfl, h2, hTC, h2.bl hS, hb, hl1, hl2, hT.same h2.ex, hw, by simp, fun B2 ps2 H3 hB hT2 h3 => ?_⟩
  rw [List.nil_append] at h3
  clear h2 ho2
  walk_at "go"
  refine ⟨_, _, x, dx2, f, _, rfl, h3, ?_⟩
  exact q B2 ps2 H3 hB hT2 h3.drop.drop
def sp__law_read (K : PySem.W.Frag) : Sp := fun vs H Q _ => ∃ (B : Hp) (L : Pic) (ps0 : Array Value) (o dx t : Addr) (v : V) (g : Tg) (ts ws ls : List Int) (ps : List Pc) (its : List Ite), vs = [.ref o, .ref t, v, .str (digS (itsB its ++ pcsC (codesOf ls) ps))] ∧ Hs B ((tP K, .tbl ps0) :: L) H ∧ TabC B ps0 qC ∧ B o = some (swO K dx) ∧ SqL K B t (ts.map V.int) ∧ ts.length ≤ 64 ∧ Th K B v g ∧ WinW g ws ∧
  (∀ c ∈ ps, Pc.ok c) ∧ Reach ws ps ∧ told ws ps = ws ++ ts ∧ ps.length ≤ 100 ∧ Lays 0 ls its ∧ Tab ls ∧ lenOk (.lst (ls.map V.int)) = true ∧ Has (codesOf ls) ps ∧
  ∀ B2 ps2 H', Same B B2 → TabC B2 ps2 qC → Hs B2 ((tP K, .tbl ps2) :: L) H' → Q (.bl true) H'
theorem len__law_read (h : sp__law_read K vs H Q E) : vs.length = 4 := by
  obtain ⟨B, L, ps0, o, dx, t, v, g, ts, ws, ls, ps, its, rfl, _⟩ := h
  rfl
def t__law_read (K : PySem.W.Frag) (W : WX) : TS :=
  (tSeq (tAsg (tMk (He.ga K "BitReader") (sp_BitReader___init__ K) [] W (tCons (tOp rAddU (tCl (sp__law_row_of K) [] W (tCons (tOp rAddU (tC (.str "01")) (tVar 3)) tNil)) (tLst (tCons (tC (.int 51)) tNil))) tNil)) (gName 4))
    (tSeq (tDrop (tMt (He.ga K "BitReader") "take" (sp_BitReader_take K) [] W (tVar 4) (tCons (tC (.int 2)) tNil)))
    (tSeq (tAsg (tIf (tTest (tOp rIsU (tVar 2) (tC .non))) (tVar 2) (tCB (rListK K) (tCons (tVar 2) tNil))) (gName 5))
    (tSeq (tAsg (tOrE (tMt (He.ga K "Way") "read" (sp_Way_read K) [] W (tVar 0) (tCons (tVar 4) (tCons (tCB (rLenK K) (tCons (tVar 1) tNil)) (tCons (tVar 5) tNil)))) (tMt (He.ga K "ShareWay") "read" (sp_ShareWay_read K) [] W (tVar 0) (tCons (tVar 4) (tCons (tCB (rLenK K) (tCons (tVar 1) tNil)) (tCons (tVar 5) tNil))))) (gName 6))
    (tRet ((tAndV (tCB (rIsi K) (tCons (tVar 6) (tCons (tC (.ty "list")) tNil))) (tAndV (tOp (rEqU K) (tVar 6) (tVar 1)) (tAndV (tOp (rEqU K) (tMt (He.ga K "BitReader") "place" (sp_BitReader_place K) [] W (tVar 4) tNil) (tOp rAddU (tC (.int 2)) (tCB (rLenK K) (tCons (tVar 3) tNil)))) (tOp (rEqU K) (tVar 5) (tVar 2)))))))))))
theorem rd__law_read (h : sp__law_read K vs H Q E) : t__law_read K (fun c d _ H2 => E c d H2) { nx := fun _ H' => Q .non H', rt := Q } (start ["_law_way", "_law_text", "_law_before", "_law_due_here", "_law_reader", "_law_handed", "_law_found"] vs) H := by
  obtain ⟨B, L, ps0, o, dx, t, v, g, ts, ws, ls, ps, its, rfl, hs, hTC, ho, hS, hl, hT, hw, hok, hre, hto, hpl, hLy, hTb, hlok, hHas, q⟩ := h
  have hCF := codes_fit (fun n hn => by have := hTb.2 n hn; omega) (kraft_le hlok)
  have hpc := pcsC_len hCF ps
  have hit := (lays_short hLy).1
  rw [hTb.1] at hit
  have hbl : (itsB its ++ pcsC (codesOf ls) ps).length ≤ 5000 := by rw [List.length_append]; omega
  have hdl : (itsB its ++ pcsC (codesOf ls) ps).length = (itsB its).length + (pcsC (codesOf ls) ps).length := List.length_append
  generalize hdd : itsB its ++ pcsC (codesOf ls) ps = dd at *
  unfold t__law_read
  walk_at "go"
  rw [digS_01]
  refine c_addS (small6' (by rw [digS_len, digS_len, List.length_cons, List.length_cons, List.length_nil]; omega)) ?_
  rw [digS_app]
  walk_at "go"
  have hb3 : ([false, true] ++ dd).length = 2 + dd.length := by rw [List.length_append]; rfl
  have hrl := rowOf_length ([false, true] ++ dd)
  have hpad := bitsRow_rowOf ([false, true] ++ dd)
  refine ⟨_, rfl, by omega, retL hs fun r H1 h1 => ?_⟩
  walk_at "go"
  rename_i l H2 h2
  refine c_addL h2 (h2.get (.tail _ (.head _))) (h2.get (.head _)) (small6' (by rw [List.length_map, hrl, List.length_singleton]; omega)) fun r2 H3 h3 => ?_
  rw [show (rowOf ([false, true] ++ dd)).map V.int ++ [V.int 51] = (rowOf ([false, true] ++ dd) ++ [51]).map V.int by rw [List.map_append]; rfl] at h3
  have hrb : Bytes (rowOf ([false, true] ++ dd) ++ [51]) := bytes_snoc (rowOf_bytes _) ⟨by decide, by decide⟩
  have hrl2 : (rowOf ([false, true] ++ dd) ++ [51]).length = (([false, true] ++ dd).length + 7) / 8 + 1 := by rw [List.length_append, hrl]; rfl
  have hbits : ∃ tail, bitsRow (rowOf ([false, true] ++ dd) ++ [51]) = [false, true] ++ (dd ++ tail) := by
    refine ⟨List.replicate ((8 - ([false, true] ++ dd).length % 8) % 8) false ++ bitsOf (51 : Int).toNat 8, ?_⟩
    rw [bitsRow_snoc, hpad, pad8, List.append_assoc, List.append_assoc]
  obtain ⟨tail, hbits⟩ := hbits
  generalize rowOf ([false, true] ++ dd) ++ [51] = row at *
  have h4 := h3.drop1.drop1
  have s4 := same_upd (o := .lst (row.map V.int)) (h4.nb (p := r2) (.head _))
  have kr : SqL K (upd B r2 (.lst (row.map V.int))) r2 (row.map V.int) := .of upd_same
  have h4 := h4.fix
  have hTC := hTC.same s4
  have ho := s4 _ _ ho
  have hS := s4.seq hS
  have hT := hT.same s4
  generalize upd B r2 (.lst (row.map V.int)) = B4 at *
  clear h1 h2 h3 hs
  walk_at "go"
  rename_i x dx2 H4 h5
  refine ⟨_, _, x, dx2, .ref r2, .lst (row.map V.int), rfl, h5, .lst (h5.bl kr), ok_ints (by omega), fun ns' e' hb' s2 H5 h6 => ⟨rfl, ?_⟩, fun z => ?_⟩
  rotate_left
  · rw [show Tg.isRow (.lst (row.map V.int)) = true from all_byteV hrb] at z
    cases z
  rw [← map_int_inj (Tg.lst.inj e')] at h6
  clear h5
  walk_at "go"
  refine use_take 2 rfl h6 hrb (by omega) (by decide) (by omega) fun H6 h8 => ?_
  clear h6
  have hdt : (bitsRow row).drop (0 + 2) = itsB its ++ (pcsC (codesOf ls) ps ++ tail) := by
    rw [hbits, ← List.append_assoc (itsB its), hdd]
    rfl
  walk_at "go"
  refine c_handed (n := 2) rfl h8 hT hw fun v2 B5 H7 s5 hT5 h9 => ?_
  have ho5 := h9.ex _ _ (s5 _ _ ho)
  have hS5 := h9.bl (s5.seq hS)
  clear h8
  walk_at "go"
  refine c_alt2 ?_
  walk_at "go"
  refine ⟨B5, L, ps0, o, x, dx2, s2, v2, g, 0 + 2, ts.length, row, ws, ls, its, ps, tail, by rw [List.length_map]; rfl, h9, hTC.same s5, hrb, by omega, by omega, hT5.same h9.ex, hw, hl, hok, hre, by rw [hto, List.length_append], hdt, hLy, hTb, hlok, hHas, fun B6 ps6 p H8 s6 hT6 h10 => ?_⟩
  clear h9 ho5 hS5
  rw [hto, List.drop_left] at h10
  have hS10 := h10.bl (s6.seq (s5.seq hS))
  walk_at "go"
  refine c_isi_ll (h10.sql (.head _)) ?_
  walk_at "go"
  refine ⟨_, _, x, dx2, s2, _, _, rfl, h10.drop, ?_⟩
  walk_at "go"
  refine c_lenS (small6' (by rw [digS_len]; omega)) ?_
  rw [digS_len]
  walk_at "go"
  have hv2 := (hT5.same s6).same h10.ex
  have hv := ((hT.same s5).same s6).same h10.ex
  have q := q B6 ps6 H8 ((s4.trans s5).trans s6) hT6 h10.drop.drop.drop
  rcases hw with ⟨rfl, rfl⟩ | ⟨rfl, hwb, hwl⟩
  · cases hv2
    cases hv
    exact c_eqNN q
  · cases hv2 with
    | lst z2 => cases hv with
      | lst z4 =>
        refine c_eqL ws ws z2 z4 ?_
        rw [decide_eq_true rfl]
        exact q
theorem _root_.L2.BP.Hs.c3 {B : Hp} {L : Pic} {a b c d e : Addr × HO} (h : Hs B (a :: b :: c :: d :: e :: L) H) : Hs B (a :: b :: e :: c :: d :: L) H := h.perm (.cons a (.cons b ((List.Perm.cons c (.swap e d L)).trans (.swap e c (d :: L)))))
theorem wo_tups {P : Addr} {ps : Array Value} (h : H P = some (.tbl ps)) : ∀ {xs : List V} {qs : List (List V)}, Tups K H xs qs → Tups K (wo H P) xs qs
  | _, _, .nil => .nil
  | _, _, .cons e t => .cons (wo_sqt h e) (wo_tups h t)
def sp_law (K : PySem.W.Frag) : Sp := fun vs H Q _ => ∃ (a : Addr) (ns : List Int), vs = [.ref a] ∧ H (tP K) = some (.tbl #[]) ∧ SqL K H a (ns.map V.int) ∧ ns.length ≤ 63 ∧ ∀ H', Q (.bl true) H'
theorem len_law (h : sp_law K vs H Q E) : vs.length = 1 := by
  obtain ⟨a, ns, rfl, _⟩ := h
  rfl
def t_law (K : PySem.W.Frag) (W : WX) : TS :=
  (tSeq (tAsg (tCl (sp__law_text_by K) [] W (tCons (tVar 0) (tCons (tC (.int 1)) tNil))) (gTup K 2 (gCons (gName 1) (gCons (gName 2) gNil))))
    (tSeq (tAsg (tMade (He.ga K "ShareWay")) (gName 3))
    (tSeq (tIfS ((tOr (tNot (tB (tCB (rIsi K) (tCons (tVar 3) (tCons (tC (.ref (He.ga K "Way"))) tNil))))) (tTest (tOp (rNeU K) (tOrE (tMt (He.ga K "Way") "number" (sp_Way_number K) [] W (tVar 3) tNil) (tMt (He.ga K "ShareWay") "number" (sp_ShareWay_number K) [] W (tVar 3) tNil)) (tC (.int 3)))))) (tRet (tC (.bl false))) tNext)
    (tSeq (tAsg (tCl (sp__law_pieces K) [] W (tCons (tVar 1) (tCons (tVar 2) tNil))) (gName 4))
    (tSeq (tAsg (tCl (sp__law_due K) [] W (tCons (tVar 4) tNil)) (gName 5))
    (tSeq (tAsg (tVar 2) (gName 6))
    (Evl.tCut (tIfS ((tAnd (tTest (tOp (rEqU K) (tVar 2) (tLst tNil))) (tTest (tOp (rEqU K) (tOp rModU (tCl (sp__law_cell_at K) [] W (tCons (tVar 0) (tCons (tC (.int 0)) tNil))) (tC (.int 2))) (tC (.int 1)))))) (tAsg (tC .non) (gName 6)) tNext)
    (tSeq (tAsg (tLst (tCons (tCB (rListK K) (tCons (tVar 1) tNil)) (tCons (tIf (tTest (tOp rIsU (tVar 6) (tC .non))) (tVar 6) (tCB (rListK K) (tCons (tVar 6) tNil))) tNil))) (gName 7))
    (tSeq (tAsg (tMk (He.ga K "BitRow") (sp_BitRow___init__ K) [] W tNil) (gName 8))
    (tSeq (tDrop (tMt (He.ga K "BitRow") "put" (sp_BitRow_put K) [] W (tVar 8) (tCons (tC (.int 1)) (tCons (tC (.int 2)) tNil))))
    (tSeq (tIfS ((tOr (tTest (tOp rNotU (tOrE (tMt (He.ga K "Way") "tell" (sp_Way_tell K) [] W (tVar 3) (tCons (tVar 8) (tCons (tOp (rIx K) (tVar 7) (tC (.int 0))) (tCons (tOp (rIx K) (tVar 7) (tC (.int 1))) tNil)))) (tMt (He.ga K "ShareWay") "tell" (sp_ShareWay_tell K) [] W (tVar 3) (tCons (tVar 8) (tCons (tOp (rIx K) (tVar 7) (tC (.int 0))) (tCons (tOp (rIx K) (tVar 7) (tC (.int 1))) tNil))))) (tC .non))) (tTest (tOp (rNeU K) (tVar 7) (tLst (tCons (tVar 1) (tCons (tVar 6) tNil))))))) (tRet (tC (.bl false))) tNext)
    (tSeq (tDrop (tBM0 K "list" rClear (tOp (rIx K) (tVar 7) (tC (.int 0)))))
    (tSeq (tIfS ((tOr (tTest (tOp (rNeU K) (tMt (He.ga K "BitRow") "many" (sp_BitRow_many K) [] W (tVar 8) tNil) (tOp rAddU (tC (.int 2)) (tCB (rLenK K) (tCons (tVar 5) tNil))))) (tTest (tOp (rNeU K) (tMt (He.ga K "BitRow") "row" (sp_BitRow_row K) [] W (tVar 8) tNil) (tCl (sp__law_row_of K) [] W (tCons (tOp rAddU (tC (.str "01")) (tVar 5)) tNil)))))) (tRet (tC (.bl false))) tNext)
    (tSeq (tIfS (tTest (tOp (rNeU K) (tOrE (tMt (He.ga K "Way") "cost" (sp_Way_cost K) [] W (tVar 3) (tCons (tCB (rListK K) (tCons (tVar 1) tNil)) (tCons (tVar 6) tNil))) (tMt (He.ga K "ShareWay") "cost" (sp_Way_cost K) [] W (tVar 3) (tCons (tCB (rListK K) (tCons (tVar 1) tNil)) (tCons (tVar 6) tNil)))) (tCB (rLenK K) (tCons (tVar 5) tNil)))) (tRet (tC (.bl false))) tNext)
    (tSeq (tIfS (tNot (tB (tCl (sp__law_read K) [] W (tCons (tVar 3) (tCons (tVar 1) (tCons (tVar 6) (tCons (tVar 5) tNil))))))) (tRet (tC (.bl false))) tNext)
    (tRet (tCl (sp__law_read K) [] W (tCons (tVar 3) (tCons (tVar 1) (tCons (tVar 6) (tCons (tCl (sp__law_own_due K) [] W (tCons (tVar 4) (tCons (tOp rDivU (tCl (sp__law_cell_at K) [] W (tCons (tVar 0) (tCons (tC (.int 0)) tNil))) (tC (.int 2))) tNil))) tNil)))))))))))))))))))))
theorem rd_law (kShareIs : KShareIs K) (h : sp_law K vs H Q E) : t_law K (fun c d _ H2 => E c d H2) { nx := fun _ H' => Q .non H', rt := Q } (start ["_law_script", "_law_text", "_law_before", "_law_way", "_law_pieces_here", "_law_due_here", "_law_window", "_law_handed", "_law_bits"] vs) H := by
  obtain ⟨a, ns, rfl, hP, hS, hl, q⟩ := h
  have hs := Hs.start H
  obtain ⟨kc, ki, kis⟩ := kShareIs
  unfold t_law
  walk_at "go"
  refine ⟨a, ns, 1, rfl, hS, by decide, by decide, fun ts ws p0 t w H1 htb hwb ht1 ht2 hwl e1 hp0 ht hw => ?_⟩
  have hS1 := e1.seq hS
  have hP1 := e1 _ _ hP
  have h1 := Hs.start H1
  clear hs hP hS e1
  walk_at "go"
  rename_i o dx H2 h2
  have ho2 := h2.get (.head _)
  refine c_isiC ho2 kc ki kis ?_
  walk_at "go"
  refine c_alt2 ?_
  walk_at "go"
  refine ⟨_, rfl, ?_⟩
  walk_at "go"
  have hbA : Bytes (ws ++ ts) := fun n hn => by
    rcases List.mem_append.mp hn with z | z
    · exact hwb n z
    · exact htb n z
  refine ⟨w, t, ws, ts, rfl, h2.ex _ _ hw, h2.ex _ _ ht, by omega, by omega, fun p xs H3 e3 hT3 hp3 => ?_⟩
  have hok := pcs_ok (ns := ws ++ ts) hbA ts.length ws.length
  have hpl := pcs_length (ns := ws ++ ts) ts.length ws.length
  have hto := pcs_told (ns := ws ++ ts) ts.length ws.length (by rw [List.length_append]; omega) (by rw [List.length_append]; omega)
  rw [List.take_left] at hto
  obtain ⟨hto, hre⟩ := hto
  rw [List.length_append] at hpl
  have hpne : pcs (ws ++ ts) ts.length ws.length ≠ [] := by
    obtain ⟨k, hk⟩ : ∃ k, ts.length = k + 1 := ⟨ts.length - 1, by omega⟩
    rw [hk, pcs, if_pos (by rw [List.length_append]; omega)]
    split <;> exact List.cons_ne_nil _ _
  have ho3 := e3 _ _ ho2
  have ht3 := e3 _ _ (h2.ex _ _ ht)
  have hw3 := e3 _ _ (h2.ex _ _ hw)
  have hS3 := e3.seq (h2.bl hS1)
  have hP3 := e3 _ _ (h2.ex _ _ hP1)
  clear h1 h2 hS1 ho2 hp0 ht hw hP1 e3
  generalize epcs : pcs (ws ++ ts) ts.length ws.length = ps at *
  walk_at "go"
  refine ⟨H3, [], p, xs, ps, rfl, Hs.start H3, hp3, hT3, hok, hpne, by omega, fun B4 H4 e4 h4 => ?_⟩
  have e4 := e4.trans h4.ex
  have ho4 := e4 _ _ ho3
  have ht4 := SqL.of (K := K) (e4 _ _ ht3)
  have hw4 := SqL.of (K := K) (e4 _ _ hw3)
  have hS4 := e4.seq hS3
  have hP4 := e4 _ _ hP3
  have hp4 := e4.seq hp3
  have hT4 := hT3.same e4
  clear h4 e4 hT3 hp3 ho3 ht3 hw3 hS3 hP3
  have h5 := Hs.start H4
  have hsbl : (shareB ps).length ≤ 5000 := by
    obtain ⟨tb, lok, _⟩ := lens_tab hok hpne (by omega)
    have z1 := encT_few tb
    have z2 := pcsC_len (codes_fit (fun n hn => by have := tb.2 n hn; omega) (kraft_le lok)) ps
    unfold shareB
    rw [List.length_append]
    omega
  walk_at "go"
  refine w_cut (fun σ2 H6 => ∃ (v : V) (g : Tg), Th K H4 v g ∧ WinW g ws ∧ Hs H4 [] H6 ∧ σ2 = [some (.ref a), some (.ref t), some (.ref w), some (.ref o), some (.ref p), some (.str (digS (shareB ps))), some v, none, none]) ?_ ?_
  · walk_at "go"
    rename_i e0 H6 h6
    refine c_eqL ws [] (h6.bl hw4) (h6.sql (.head _)) ?_
    refine c_bl ?_
    have h7 := h6.drop
    have hS7 := h7.bl hS4
    clear h6
    by_cases cw : ws = []
    · refine i_t (decide_eq_true cw) ?_
      walk_at "go"
      refine ⟨a, ns, 0, rfl, hS7, by decide, ?_⟩
      walk_at "go"
      refine i_2 (fun _ => ?_) (fun _ => ?_)
      · walk_at "go"
        exact ⟨.non, .non, .non, .inl ⟨rfl, cw⟩, h7, rfl⟩
      · walk_at "go"
        exact ⟨.ref w, .lst (ws.map V.int), .lst hw4, .inr ⟨rfl, hwb, hwl⟩, h7, rfl⟩
    · refine i_f (decide_eq_false cw) ?_
      walk_at "go"
      exact ⟨.ref w, .lst (ws.map V.int), .lst hw4, .inr ⟨rfl, hwb, hwl⟩, h7, rfl⟩
  rintro σ2 H6 ⟨v, g, hTh, hwin, h6, rfl⟩
  have e6 := h6.ex
  have hP6 := e6 _ _ hP4
  have ho6 := wo_of hP6 (e6 _ _ ho4) (fun _ z => nomatch z)
  have ht6 := wo_sql hP6 (e6.seq ht4)
  have hS6 := wo_sql hP6 (e6.seq hS4)
  have hp6 := wo_sql hP6 (e6.seq hp4)
  have hTh6 := wo_th hP6 (hTh.same e6)
  have hT6 : Tups K (wo H6 (tP K)) xs (ps.map pcV) := wo_tups hP6 (hT4.same e6)
  have h7 := Hs.at hP6
  clear h5 h6 ho4 ht4 hw4 hS4 hP4 hp4 hT4 hTh e6 hP6
  have hTC : TabC (wo H6 (tP K)) #[] qC := TabC.nil
  generalize wo H6 (tP K) = B6 at *
  walk_at "go"
  rename_i t2 H8 h8
  clear h7
  refine c_handed (n := 6) rfl h8 hTh6 hwin fun v2 B7 H9 s7 hTh7 h9 => ?_
  have hTC := hTC.same s7
  have ho7 := s7 _ _ ho6
  have ht7 := s7.seq ht6
  have hS7 := s7.seq hS6
  have hp7 := s7.seq hp6
  have hT7 := hT6.same s7
  have hTv7 := hTh6.same s7
  clear h8 ho6 ht6 hS6 hp6 hT6 hTh6 s7
  walk_at "go"
  rename_i hd H10 h10 x dx2 H11 h11
  refine ⟨B7, _, x, dx2, rfl, h11, fun f H12 h12 => ⟨rfl, ?_⟩⟩
  clear h9 h10 h11
  walk_at "go"
  refine use_put (n := 1) (s := 2) rfl rfl h12 (by simp) (by decide) (by decide) fun H13 h13 => ?_
  clear h12
  rw [show [] ++ bitsOf 1 2 = [false, true] from rfl] at h13
  walk_at "go"
  refine c_alt2 ?_
  walk_at "go"
  refine ⟨B7, _, #[], o, x, dx2, f, t2, v2, g, _, ts, ws, rfl, h13.c3, hTC, h13.sql (.tail _ (.tail _ (.tail _ (.head _)))), htb, ht1, ht2, hTh7.same h13.ex, hwin, by simp, fun B8 ps8 H14 s8 hT8 h14 => ?_⟩
  rw [epcs] at h14
  have ho8 := s8 _ _ ho7
  have ht8 := s8.seq ht7
  have hS8 := s8.seq hS7
  have hp8 := s8.seq hp7
  have hTu8 := hT7.same s8
  have hTv8 := hTv7.same s8
  have hTh8 := hTh7.same s8
  clear h13 ho7 ht7 hS7 hp7 hT7 hTv7 hTh7 s8 hTC
  walk_at "go"
  rename_i l H15 h15
  refine c_neH (h15.sql (.tail _ (.tail _ (.tail _ (.tail _ (.head _)))))) (h15.sql (.tail _ (.tail _ (.tail _ (.tail _ (.tail _ (.head _))))))) (hTh8.same h15.ex) (h15.sql (.head _)) (h15.bl ht8) (hTv8.same h15.ex) hwin ?_
  have h16 := h15.drop
  clear h14 h15
  walk_at "go"
  refine c_clear0 h16.rot5 fun H17 h17 => ?_
  have h18 := h17.drop
  clear h16 h17
  walk_at "go"
  refine ⟨_, _, x, dx2, f, _, rfl, h18, ?_⟩
  walk_at "go"
  refine c_lenS (small6' (by rw [digS_len]; omega)) ?_
  rw [digS_len, List.length_append, show ([false, true] : List Bool).length = 2 from rfl]
  walk_at "go"
  have hb2 : ([false, true] ++ shareB ps).length = 2 + (shareB ps).length := by rw [List.length_append]; rfl
  refine ⟨_, _, x, dx2, f, _, rfl, h18, by omega, retL h18 fun r H19 h19 => ?_⟩
  clear h18
  walk_at "go"
  rw [digS_01]
  refine c_addS (small6' (by rw [digS_len, digS_len, show ([false, true] : List Bool).length = 2 from rfl]; omega)) ?_
  rw [digS_app]
  walk_at "go"
  refine ⟨_, rfl, by omega, retL h19 fun r2 H20 h20 => ?_⟩
  clear h19
  have ht20 := h20.bl ht8
  walk_at "go"
  refine c_alt2 ?_
  walk_at "go"
  rename_i t3 H21 h21
  clear h20 ht20
  have s9 := same_upd (o := .lst (ts.map V.int)) (h21.nb (p := t3) (.head _))
  have k3 : SqL K (upd B8 t3 (.lst (ts.map V.int))) t3 (ts.map V.int) := .of upd_same
  have h22 := h21.fix.drop.drop.drop.drop
  have ho9 := s9 _ _ ho8
  have ht9 := s9.seq ht8
  have hS9 := s9.seq hS8
  have hp9 := s9.seq hp8
  have hTu9 := hTu8.same s9
  have hTv9 := hTv8.same s9
  have hT9 := hT8.same s9
  generalize upd B8 t3 (.lst (ts.map V.int)) = B9 at *
  clear h21 ho8 ht8 hS8 hp8 hTu8 hTv8 hTh8 hT8 s9
  refine ⟨B9, _, ps8, o, dx, t3, v, g, ts, ws, rfl, h22, hT9, ho9, k3, htb, ht1, ht2, hTv9, hwin, fun B10 ps10 H22 s10 hT10 h23 => ?_⟩
  rw [epcs]
  have ho10 := s10 _ _ ho9
  have ht10 := s10.seq ht9
  have hS10 := s10.seq hS9
  have hp10 := s10.seq hp9
  have hTu10 := hTu9.same s10
  have hTv10 := hTv9.same s10
  clear h22 ho9 ht9 hS9 hp9 hTu9 hTv9 hT9 s10 k3
  walk_at "go"
  refine c_lenS (small6' (by rw [digS_len]; omega)) ?_
  rw [digS_len]
  walk_at "go"
  obtain ⟨tb, lok, hpos⟩ := lens_tab hok hpne (by omega)
  have hHas : Has (codesOf (lensP ps)) ps := fun c hc => by
    obtain ⟨xx, e⟩ := code_of (ws := lensP ps) (p := thingP c) (hpos c hc) (by rw [tb.1]; exact thing_lt (hok c hc))
    exact ⟨xx, _, e⟩
  obtain ⟨its, hLy, hits⟩ := enc_items 272 0 (lensP ps) (by rw [tb.1]; exact Nat.le_refl _)
  refine ⟨B10, _, ps10, o, dx, t, v, g, ts, ws, lensP ps, ps, its, by rw [hits]; rfl, h23, hT10, ho10, ht10, ht2, hTv10, hwin, hok, hre, hto, by omega, hLy, tb, lok, hHas, fun B11 ps11 H23 s11 hT11 h24 => ?_⟩
  have ho11 := s11 _ _ ho10
  have ht11 := s11.seq ht10
  have hS11 := s11.seq hS10
  have hp11 := s11.seq hp10
  have hTu11 := hTu10.same s11
  have hTv11 := hTv10.same s11
  clear h23 ho10 ht10 hS10 hp10 hTu10 hTv10 hT10 s11
  have hS24 := h24.bl hS11
  walk_at "go"
  refine ⟨a, ns, 0, rfl, hS24, by decide, ?_⟩
  walk_at "go"
  refine ⟨B11, _, p, _, xs, ps, rfl, h24, hp11, hTu11, hok, hpne, by omega, fun ls2 its2 B12 H24 hTb2 hlok2 hHas2 hLy2 s12 h25 => ?_⟩
  walk_at "go"
  exact ⟨B12, _, ps11, o, dx, t, v, g, ts, ws, ls2, ps, its2, rfl, h25, hT11.same s12, s12 _ _ ho11, s12.seq ht11, ht2, hTv11.same s12, hwin, hok, hre, hto, by omega, hLy2, hTb2, hlok2, hHas2, fun _ _ _ _ _ _ => q _⟩
end L2.BR

end
namespace L2.BW
open PySem PySem.Spec PyProof.Rows L2.BP L2.BR L2.BH L2H
structure Tx (K : PySem.W.Frag) (mg : Str → Option Value) : Prop where
  g__wall : mg "_wall" = some (.ref (He.ga K "_wall"))
  g_PressError : mg "PressError" = some (.ref (He.ga K "PressError"))
  x_PressError : PySem.W.excIn K (He.ga K "PressError") He.veBase "ValueError.__new__" = true ∧ PySem.W.keepIn K (.ref (He.ga K "PressError")) = true ∧ PySem.W.subIn K (.ref (He.ga K "PressError")) (.type "BaseException") = some true ∧ PySem.W.typeIn K (.ref (He.ga K "PressError")) = some (.type "type")
  g_BadRow : mg "BadRow" = some (.ref (He.ga K "BadRow"))
  x_BadRow : PySem.W.excIn K (He.ga K "BadRow") He.veBase "ValueError.__new__" = true ∧ PySem.W.keepIn K (.ref (He.ga K "BadRow")) = true ∧ PySem.W.subIn K (.ref (He.ga K "BadRow")) (.type "BaseException") = some true ∧ PySem.W.typeIn K (.ref (He.ga K "BadRow")) = some (.type "type")
  g_BadBits : mg "BadBits" = some (.ref (He.ga K "BadBits"))
  x_BadBits : PySem.W.excIn K (He.ga K "BadBits") He.veBase "ValueError.__new__" = true ∧ PySem.W.keepIn K (.ref (He.ga K "BadBits")) = true ∧ PySem.W.subIn K (.ref (He.ga K "BadBits")) (.type "BaseException") = some true ∧ PySem.W.typeIn K (.ref (He.ga K "BadBits")) = some (.type "type")
  g_NoBits : mg "NoBits" = some (.ref (He.ga K "NoBits"))
  x_NoBits : PySem.W.excIn K (He.ga K "NoBits") He.veBase "ValueError.__new__" = true ∧ PySem.W.keepIn K (.ref (He.ga K "NoBits")) = true ∧ PySem.W.subIn K (.ref (He.ga K "NoBits")) (.type "BaseException") = some true ∧ PySem.W.typeIn K (.ref (He.ga K "NoBits")) = some (.type "type")
  g_BadShares : mg "BadShares" = some (.ref (He.ga K "BadShares"))
  x_BadShares : PySem.W.excIn K (He.ga K "BadShares") He.veBase "ValueError.__new__" = true ∧ PySem.W.keepIn K (.ref (He.ga K "BadShares")) = true ∧ PySem.W.subIn K (.ref (He.ga K "BadShares")) (.type "BaseException") = some true ∧ PySem.W.typeIn K (.ref (He.ga K "BadShares")) = some (.type "type")
  g_BadLengths : mg "BadLengths" = some (.ref (He.ga K "BadLengths"))
  x_BadLengths : PySem.W.excIn K (He.ga K "BadLengths") He.veBase "ValueError.__new__" = true ∧ PySem.W.keepIn K (.ref (He.ga K "BadLengths")) = true ∧ PySem.W.subIn K (.ref (He.ga K "BadLengths")) (.type "BaseException") = some true ∧ PySem.W.typeIn K (.ref (He.ga K "BadLengths")) = some (.type "type")
  g_BadCode : mg "BadCode" = some (.ref (He.ga K "BadCode"))
  x_BadCode : PySem.W.excIn K (He.ga K "BadCode") He.veBase "ValueError.__new__" = true ∧ PySem.W.keepIn K (.ref (He.ga K "BadCode")) = true ∧ PySem.W.subIn K (.ref (He.ga K "BadCode")) (.type "BaseException") = some true ∧ PySem.W.typeIn K (.ref (He.ga K "BadCode")) = some (.type "type")
  g_BadTable : mg "BadTable" = some (.ref (He.ga K "BadTable"))
  x_BadTable : PySem.W.excIn K (He.ga K "BadTable") He.veBase "ValueError.__new__" = true ∧ PySem.W.keepIn K (.ref (He.ga K "BadTable")) = true ∧ PySem.W.subIn K (.ref (He.ga K "BadTable")) (.type "BaseException") = some true ∧ PySem.W.typeIn K (.ref (He.ga K "BadTable")) = some (.type "type")
  g_BadBody : mg "BadBody" = some (.ref (He.ga K "BadBody"))
  x_BadBody : PySem.W.excIn K (He.ga K "BadBody") He.veBase "ValueError.__new__" = true ∧ PySem.W.keepIn K (.ref (He.ga K "BadBody")) = true ∧ PySem.W.subIn K (.ref (He.ga K "BadBody")) (.type "BaseException") = some true ∧ PySem.W.typeIn K (.ref (He.ga K "BadBody")) = some (.type "type")
  g_MOST_BYTE : ∃ t, mg "MOST_BYTE" = some (.int 255 t)
  g_is_byte : mg "is_byte" = some (.ref (He.ga K "is_byte"))
  g_is_row : mg "is_row" = some (.ref (He.ga K "is_row"))
  g_need_row : mg "need_row" = some (.ref (He.ga K "need_row"))
  g_BYTE : ∃ t, mg "BYTE" = some (.int 8 t)
  g_MOST_SIZE_bits : ∃ t, mg "MOST_SIZE_bits" = some (.int 24 t)
  g_is_number : mg "is_number" = some (.ref (He.ga K "is_number"))
  g_need_size : mg "need_size" = some (.ref (He.ga K "need_size"))
  g_BitRow : mg "BitRow" = some (.ref (He.ga K "BitRow"))
  c_BitRow : Cls K (He.ga K "BitRow")
  n_BitRow_full : NoAttr K (He.ga K "BitRow") "full"
  n_BitRow_part : NoAttr K (He.ga K "BitRow") "part"
  n_BitRow_filled : NoAttr K (He.ga K "BitRow") "filled"
  m_BitRow___init__ : Meth K (He.ga K "BitRow") "__init__" (He.ma K (He.ga K "BitRow") "__init__")
  m_BitRow_put : Meth K (He.ga K "BitRow") "put" (He.ma K (He.ga K "BitRow") "put")
  m_BitRow_many : Meth K (He.ga K "BitRow") "many" (He.ma K (He.ga K "BitRow") "many")
  m_BitRow_row : Meth K (He.ga K "BitRow") "row" (He.ma K (He.ga K "BitRow") "row")
  k_BitRow : Mk K (He.ga K "BitRow") (He.ma K (He.ga K "BitRow") "__init__")
  g_BitReader : mg "BitReader" = some (.ref (He.ga K "BitReader"))
  c_BitReader : Cls K (He.ga K "BitReader")
  n_BitReader_source : NoAttr K (He.ga K "BitReader") "source"
  n_BitReader_taken : NoAttr K (He.ga K "BitReader") "taken"
  m_BitReader___init__ : Meth K (He.ga K "BitReader") "__init__" (He.ma K (He.ga K "BitReader") "__init__")
  m_BitReader_left : Meth K (He.ga K "BitReader") "left" (He.ma K (He.ga K "BitReader") "left")
  m_BitReader_place : Meth K (He.ga K "BitReader") "place" (He.ma K (He.ga K "BitReader") "place")
  m_BitReader_go : Meth K (He.ga K "BitReader") "go" (He.ma K (He.ga K "BitReader") "go")
  m_BitReader_take : Meth K (He.ga K "BitReader") "take" (He.ma K (He.ga K "BitReader") "take")
  m_BitReader_at_end : Meth K (He.ga K "BitReader") "at_end" (He.ma K (He.ga K "BitReader") "at_end")
  k_BitReader : Mk K (He.ga K "BitReader") (He.ma K (He.ga K "BitReader") "__init__")
  g_MOST_THINGS : ∃ t, mg "MOST_THINGS" = some (.int 300 t)
  g_MOST_COUNT : ∃ t, mg "MOST_COUNT" = some (.int 1000000 t)
  g_MOST_LENGTH_shares : ∃ t, mg "MOST_LENGTH_shares" = some (.int 12 t)
  g_is_between : mg "is_between" = some (.ref (He.ga K "is_between"))
  g_need_counts : mg "need_counts" = some (.ref (He.ga K "need_counts"))
  g_weight_of : mg "weight_of" = some (.ref (He.ga K "weight_of"))
  g_by_twos : mg "by_twos" = some (.ref (He.ga K "by_twos"))
  g_lengths_of : mg "lengths_of" = some (.ref (He.ga K "lengths_of"))
  g_need_lengths : mg "need_lengths" = some (.ref (He.ga K "need_lengths"))
  g_codes_of : mg "codes_of" = some (.ref (He.ga K "codes_of"))
  g_CodeReader : mg "CodeReader" = some (.ref (He.ga K "CodeReader"))
  c_CodeReader : Cls K (He.ga K "CodeReader")
  n_CodeReader_known : NoAttr K (He.ga K "CodeReader") "known"
  n_CodeReader_begun : NoAttr K (He.ga K "CodeReader") "begun"
  m_CodeReader___init__ : Meth K (He.ga K "CodeReader") "__init__" (He.ma K (He.ga K "CodeReader") "__init__")
  m_CodeReader_thing : Meth K (He.ga K "CodeReader") "thing" (He.ma K (He.ga K "CodeReader") "thing")
  k_CodeReader : Mk K (He.ga K "CodeReader") (He.ma K (He.ga K "CodeReader") "__init__")
  g_MANY : ∃ t, mg "MANY" = some (.int 272 t)
  g_MOST_LENGTH_tables : ∃ t, mg "MOST_LENGTH_tables" = some (.int 6 t)
  g_MORE_MARK : ∃ t, mg "MORE_MARK" = some (.int 7 t)
  g_LEAST_MORE : ∃ t, mg "LEAST_MORE" = some (.int 3 t)
  g_MOST_MORE : ∃ t, mg "MOST_MORE" = some (.int 66 t)
  g_LENGTH_BITS : ∃ t, mg "LENGTH_BITS" = some (.int 3 t)
  g_MORE_BITS : ∃ t, mg "MORE_BITS" = some (.int 6 t)
  g_is_table : mg "is_table" = some (.ref (He.ga K "is_table"))
  g_alike_from : mg "alike_from" = some (.ref (He.ga K "alike_from"))
  g_put_table : mg "put_table" = some (.ref (He.ga K "put_table"))
  g_items_read : mg "items_read" = some (.ref (He.ga K "items_read"))
  g_take_table : mg "take_table" = some (.ref (He.ga K "take_table"))
  g_LEAST_SIZE : ∃ t, mg "LEAST_SIZE" = some (.int 3 t)
  g_MOST_SIZE_windows : ∃ t, mg "MOST_SIZE_windows" = some (.int 18 t)
  g_MOST_BACK : ∃ t, mg "MOST_BACK" = some (.int 255 t)
  g_need_window : mg "need_window" = some (.ref (He.ga K "need_window"))
  g_need_window_windows : mg "need_window_windows" = some (.ref (He.ga K "need_window_windows"))
  g_alike_size : mg "alike_size" = some (.ref (He.ga K "alike_size"))
  g_longest_copy : mg "longest_copy" = some (.ref (He.ga K "longest_copy"))
  g_pieces_of : mg "pieces_of" = some (.ref (He.ga K "pieces_of"))
  g_MOST_SIGNS : ∃ t, mg "MOST_SIGNS" = some (.int 64 t)
  g_MOST_WINDOW : ∃ t, mg "MOST_WINDOW" = some (.int 192 t)
  g_SIGNS : ∃ t, mg "SIGNS" = some (.int 256 t)
  g_LEAST_COPY : ∃ t, mg "LEAST_COPY" = some (.int 3 t)
  g_need_text : mg "need_text" = some (.ref (He.ga K "need_text"))
  g_need_window_ways : mg "need_window_ways" = some (.ref (He.ga K "need_window_ways"))
  g_lay_copy : mg "lay_copy" = some (.ref (He.ga K "lay_copy"))
  g_thing_of : mg "thing_of" = some (.ref (He.ga K "thing_of"))
  g_counts_of : mg "counts_of" = some (.ref (He.ga K "counts_of"))
  g_codes_taken : mg "codes_taken" = some (.ref (He.ga K "codes_taken"))
  g_thing_taken : mg "thing_taken" = some (.ref (He.ga K "thing_taken"))
  g_Way : mg "Way" = some (.ref (He.ga K "Way"))
  c_Way : Cls K (He.ga K "Way")
  m_Way_number : Meth K (He.ga K "Way") "number" (He.ma K (He.ga K "Way") "number")
  m_Way_tell : Meth K (He.ga K "Way") "tell" (He.ma K (He.ga K "Way") "tell")
  m_Way_read : Meth K (He.ga K "Way") "read" (He.ma K (He.ga K "Way") "read")
  m_Way_cost : Meth K (He.ga K "Way") "cost" (He.ma K (He.ga K "Way") "cost")
  g_ShareWay : mg "ShareWay" = some (.ref (He.ga K "ShareWay"))
  c_ShareWay : Cls K (He.ga K "ShareWay")
  m_ShareWay_number : Meth K (He.ga K "ShareWay") "number" (He.ma K (He.ga K "ShareWay") "number")
  m_ShareWay_tell : Meth K (He.ga K "ShareWay") "tell" (He.ma K (He.ga K "ShareWay") "tell")
  m_ShareWay_read : Meth K (He.ga K "ShareWay") "read" (He.ma K (He.ga K "ShareWay") "read")
  m_ShareWay_cost : Meth K (He.ga K "ShareWay") "cost" (He.ma K (He.ga K "Way") "cost")
  g__law_cell_at : mg "_law_cell_at" = some (.ref (He.ga K "_law_cell_at"))
  g__law_drawn : mg "_law_drawn" = some (.ref (He.ga K "_law_drawn"))
  g__law_signs : mg "_law_signs" = some (.ref (He.ga K "_law_signs"))
  g__law_text_by : mg "_law_text_by" = some (.ref (He.ga K "_law_text_by"))
  g__law_digits : mg "_law_digits" = some (.ref (He.ga K "_law_digits"))
  g__law_row_of : mg "_law_row_of" = some (.ref (He.ga K "_law_row_of"))
  g__law_alike : mg "_law_alike" = some (.ref (He.ga K "_law_alike"))
  g__law_pieces : mg "_law_pieces" = some (.ref (He.ga K "_law_pieces"))
  g__law_thing : mg "_law_thing" = some (.ref (He.ga K "_law_thing"))
  g__law_codes : mg "_law_codes" = some (.ref (He.ga K "_law_codes"))
  g__law_parts : mg "_law_parts" = some (.ref (He.ga K "_law_parts"))
  g__law_due : mg "_law_due" = some (.ref (He.ga K "_law_due"))
  g__law_own_due : mg "_law_own_due" = some (.ref (He.ga K "_law_own_due"))
  g__law_read : mg "_law_read" = some (.ref (He.ga K "_law_read"))
  g_law : mg "law" = some (.ref (He.ga K "law"))
  f_all : mg "all" = none
  f_bool : mg "bool" = none
  f_divmod : mg "divmod" = none
  f_enumerate : mg "enumerate" = none
  f_int : mg "int" = none
  f_isinstance : mg "isinstance" = none
  f_len : mg "len" = none
  f_list : mg "list" = none
  f_max : mg "max" = none
  f_min : mg "min" = none
  f_range : mg "range" = none
  f_sorted : mg "sorted" = none
  f_ValueError : mg "ValueError" = none
  i_BitRow : L2.BP.InsC K (He.ga K "BitRow")
  s_BitRow_Way : PySem.W.kitOne K (.ref (He.ga K "BitRow")) (.ref (He.ga K "Way")) = some false
  i_BitReader : L2.BP.InsC K (He.ga K "BitReader")
  s_BitReader_Way : PySem.W.kitOne K (.ref (He.ga K "BitReader")) (.ref (He.ga K "Way")) = some false
  i_CodeReader : L2.BP.InsC K (He.ga K "CodeReader")
  s_CodeReader_Way : PySem.W.kitOne K (.ref (He.ga K "CodeReader")) (.ref (He.ga K "Way")) = some false
  z_Way : L2.BP.Mk0 K (He.ga K "Way")
  i_Way : L2.BP.InsC K (He.ga K "Way")
  s_Way_Way : PySem.W.kitOne K (.ref (He.ga K "Way")) (.ref (He.ga K "Way")) = some true
  z_ShareWay : L2.BP.Mk0 K (He.ga K "ShareWay")
  i_ShareWay : L2.BP.InsC K (He.ga K "ShareWay")
  s_ShareWay_Way : PySem.W.kitOne K (.ref (He.ga K "ShareWay")) (.ref (He.ga K "Way")) = some true
  d__law_cell_at : ∃ fd, FunD K d__law_cell_at.name d__law_cell_at.qual d__law_cell_at.params d__law_cell_at.body d__law_cell_at.scope (d__law_cell_at.dvs K) (d__law_cell_at.kws K) (He.fAd K d__law_cell_at.at_) fd
  d__law_drawn : ∃ fd, FunD K d__law_drawn.name d__law_drawn.qual d__law_drawn.params d__law_drawn.body d__law_drawn.scope (d__law_drawn.dvs K) (d__law_drawn.kws K) (He.fAd K d__law_drawn.at_) fd
  d__law_signs : ∃ fd, FunD K d__law_signs.name d__law_signs.qual d__law_signs.params d__law_signs.body d__law_signs.scope (d__law_signs.dvs K) (d__law_signs.kws K) (He.fAd K d__law_signs.at_) fd
  d__law_text_by : ∃ fd, FunD K d__law_text_by.name d__law_text_by.qual d__law_text_by.params d__law_text_by.body d__law_text_by.scope (d__law_text_by.dvs K) (d__law_text_by.kws K) (He.fAd K d__law_text_by.at_) fd
  d_Way_number : ∃ fd, FunD K d_Way_number.name d_Way_number.qual d_Way_number.params d_Way_number.body d_Way_number.scope (d_Way_number.dvs K) (d_Way_number.kws K) (He.fAd K d_Way_number.at_) fd
  d_ShareWay_number : ∃ fd, FunD K d_ShareWay_number.name d_ShareWay_number.qual d_ShareWay_number.params d_ShareWay_number.body d_ShareWay_number.scope (d_ShareWay_number.dvs K) (d_ShareWay_number.kws K) (He.fAd K d_ShareWay_number.at_) fd
  d__law_alike : ∃ fd, FunD K d__law_alike.name d__law_alike.qual d__law_alike.params d__law_alike.body d__law_alike.scope (d__law_alike.dvs K) (d__law_alike.kws K) (He.fAd K d__law_alike.at_) fd
  d__law_pieces : ∃ fd, FunD K d__law_pieces.name d__law_pieces.qual d__law_pieces.params d__law_pieces.body d__law_pieces.scope (d__law_pieces.dvs K) (d__law_pieces.kws K) (He.fAd K d__law_pieces.at_) fd
  d__law_thing : ∃ fd, FunD K d__law_thing.name d__law_thing.qual d__law_thing.params d__law_thing.body d__law_thing.scope (d__law_thing.dvs K) (d__law_thing.kws K) (He.fAd K d__law_thing.at_) fd
  d_is_between : ∃ fd, FunD K d_is_between.name d_is_between.qual d_is_between.params d_is_between.body d_is_between.scope (d_is_between.dvs K) (d_is_between.kws K) (He.fAd K d_is_between.at_) fd
  d_need_counts : ∃ fd, FunD K d_need_counts.name d_need_counts.qual d_need_counts.params d_need_counts.body d_need_counts.scope (d_need_counts.dvs K) (d_need_counts.kws K) (He.fAd K d_need_counts.at_) fd
  d_by_twos : ∃ fd, FunD K d_by_twos.name d_by_twos.qual d_by_twos.params d_by_twos.body d_by_twos.scope (d_by_twos.dvs K) (d_by_twos.kws K) (He.fAd K d_by_twos.at_) fd
  d_lengths_of : ∃ fd, FunD K d_lengths_of.name d_lengths_of.qual d_lengths_of.params d_lengths_of.body d_lengths_of.scope (d_lengths_of.dvs K) (d_lengths_of.kws K) (He.fAd K d_lengths_of.at_) fd
  d_BitRow___init__ : ∃ fd, FunD K d_BitRow___init__.name d_BitRow___init__.qual d_BitRow___init__.params d_BitRow___init__.body d_BitRow___init__.scope (d_BitRow___init__.dvs K) (d_BitRow___init__.kws K) (He.fAd K d_BitRow___init__.at_) fd
  d_is_table : ∃ fd, FunD K d_is_table.name d_is_table.qual d_is_table.params d_is_table.body d_is_table.scope (d_is_table.dvs K) (d_is_table.kws K) (He.fAd K d_is_table.at_) fd
  d_alike_from : ∃ fd, FunD K d_alike_from.name d_alike_from.qual d_alike_from.params d_alike_from.body d_alike_from.scope (d_alike_from.dvs K) (d_alike_from.kws K) (He.fAd K d_alike_from.at_) fd
  d_is_number : ∃ fd, FunD K d_is_number.name d_is_number.qual d_is_number.params d_is_number.body d_is_number.scope (d_is_number.dvs K) (d_is_number.kws K) (He.fAd K d_is_number.at_) fd
  d_need_size : ∃ fd, FunD K d_need_size.name d_need_size.qual d_need_size.params d_need_size.body d_need_size.scope (d_need_size.dvs K) (d_need_size.kws K) (He.fAd K d_need_size.at_) fd
  d_BitRow_put : ∃ fd, FunD K d_BitRow_put.name d_BitRow_put.qual d_BitRow_put.params d_BitRow_put.body d_BitRow_put.scope (d_BitRow_put.dvs K) (d_BitRow_put.kws K) (He.fAd K d_BitRow_put.at_) fd
  d_put_table : ∃ fd, FunD K d_put_table.name d_put_table.qual d_put_table.params d_put_table.body d_put_table.scope (d_put_table.dvs K) (d_put_table.kws K) (He.fAd K d_put_table.at_) fd
  d__law_digits : ∃ fd, FunD K d__law_digits.name d__law_digits.qual d__law_digits.params d__law_digits.body d__law_digits.scope (d__law_digits.dvs K) (d__law_digits.kws K) (He.fAd K d__law_digits.at_) fd
  d_BitRow_row : ∃ fd, FunD K d_BitRow_row.name d_BitRow_row.qual d_BitRow_row.params d_BitRow_row.body d_BitRow_row.scope (d_BitRow_row.dvs K) (d_BitRow_row.kws K) (He.fAd K d_BitRow_row.at_) fd
  d_BitRow_many : ∃ fd, FunD K d_BitRow_many.name d_BitRow_many.qual d_BitRow_many.params d_BitRow_many.body d_BitRow_many.scope (d_BitRow_many.dvs K) (d_BitRow_many.kws K) (He.fAd K d_BitRow_many.at_) fd
  d__law_codes : ∃ fd, FunD K d__law_codes.name d__law_codes.qual d__law_codes.params d__law_codes.body d__law_codes.scope (d__law_codes.dvs K) (d__law_codes.kws K) (He.fAd K d__law_codes.at_) fd
  d__law_parts : ∃ fd, FunD K d__law_parts.name d__law_parts.qual d__law_parts.params d__law_parts.body d__law_parts.scope (d__law_parts.dvs K) (d__law_parts.kws K) (He.fAd K d__law_parts.at_) fd
  d__law_due : ∃ fd, FunD K d__law_due.name d__law_due.qual d__law_due.params d__law_due.body d__law_due.scope (d__law_due.dvs K) (d__law_due.kws K) (He.fAd K d__law_due.at_) fd
  d_is_byte : ∃ fd, FunD K d_is_byte.name d_is_byte.qual d_is_byte.params d_is_byte.body d_is_byte.scope (d_is_byte.dvs K) (d_is_byte.kws K) (He.fAd K d_is_byte.at_) fd
  d_is_row : ∃ fd, FunD K d_is_row.name d_is_row.qual d_is_row.params d_is_row.body d_is_row.scope (d_is_row.dvs K) (d_is_row.kws K) (He.fAd K d_is_row.at_) fd
  d_need_row : ∃ fd, FunD K d_need_row.name d_need_row.qual d_need_row.params d_need_row.body d_need_row.scope (d_need_row.dvs K) (d_need_row.kws K) (He.fAd K d_need_row.at_) fd
  d_need_text : ∃ fd, FunD K d_need_text.name d_need_text.qual d_need_text.params d_need_text.body d_need_text.scope (d_need_text.dvs K) (d_need_text.kws K) (He.fAd K d_need_text.at_) fd
  d_need_window_ways : ∃ fd, FunD K d_need_window_ways.name d_need_window_ways.qual d_need_window_ways.params d_need_window_ways.body d_need_window_ways.scope (d_need_window_ways.dvs K) (d_need_window_ways.kws K) (He.fAd K d_need_window_ways.at_) fd
  d_Way_tell : ∃ fd, FunD K d_Way_tell.name d_Way_tell.qual d_Way_tell.params d_Way_tell.body d_Way_tell.scope (d_Way_tell.dvs K) (d_Way_tell.kws K) (He.fAd K d_Way_tell.at_) fd
  d_need_window_windows : ∃ fd, FunD K d_need_window_windows.name d_need_window_windows.qual d_need_window_windows.params d_need_window_windows.body d_need_window_windows.scope (d_need_window_windows.dvs K) (d_need_window_windows.kws K) (He.fAd K d_need_window_windows.at_) fd
  d_alike_size : ∃ fd, FunD K d_alike_size.name d_alike_size.qual d_alike_size.params d_alike_size.body d_alike_size.scope (d_alike_size.dvs K) (d_alike_size.kws K) (He.fAd K d_alike_size.at_) fd
  d_longest_copy : ∃ fd, FunD K d_longest_copy.name d_longest_copy.qual d_longest_copy.params d_longest_copy.body d_longest_copy.scope (d_longest_copy.dvs K) (d_longest_copy.kws K) (He.fAd K d_longest_copy.at_) fd
  d_pieces_of : ∃ fd, FunD K d_pieces_of.name d_pieces_of.qual d_pieces_of.params d_pieces_of.body d_pieces_of.scope (d_pieces_of.dvs K) (d_pieces_of.kws K) (He.fAd K d_pieces_of.at_) fd
  d_thing_of : ∃ fd, FunD K d_thing_of.name d_thing_of.qual d_thing_of.params d_thing_of.body d_thing_of.scope (d_thing_of.dvs K) (d_thing_of.kws K) (He.fAd K d_thing_of.at_) fd
  d_counts_of : ∃ fd, FunD K d_counts_of.name d_counts_of.qual d_counts_of.params d_counts_of.body d_counts_of.scope (d_counts_of.dvs K) (d_counts_of.kws K) (He.fAd K d_counts_of.at_) fd
  d_need_lengths : ∃ fd, FunD K d_need_lengths.name d_need_lengths.qual d_need_lengths.params d_need_lengths.body d_need_lengths.scope (d_need_lengths.dvs K) (d_need_lengths.kws K) (He.fAd K d_need_lengths.at_) fd
  d_codes_of : ∃ fd, FunD K d_codes_of.name d_codes_of.qual d_codes_of.params d_codes_of.body d_codes_of.scope (d_codes_of.dvs K) (d_codes_of.kws K) (He.fAd K d_codes_of.at_) fd
  d_ShareWay_tell : ∃ fd, FunD K d_ShareWay_tell.name d_ShareWay_tell.qual d_ShareWay_tell.params d_ShareWay_tell.body d_ShareWay_tell.scope (d_ShareWay_tell.dvs K) (d_ShareWay_tell.kws K) (He.fAd K d_ShareWay_tell.at_) fd
  d__law_row_of : ∃ fd, FunD K d__law_row_of.name d__law_row_of.qual d__law_row_of.params d__law_row_of.body d__law_row_of.scope (d__law_row_of.dvs K) (d__law_row_of.kws K) (He.fAd K d__law_row_of.at_) fd
  d_Way_cost : ∃ fd, FunD K d_Way_cost.name d_Way_cost.qual d_Way_cost.params d_Way_cost.body d_Way_cost.scope (d_Way_cost.dvs K) (d_Way_cost.kws K) (He.fAd K d_Way_cost.at_) fd
  d_BitReader___init__ : ∃ fd, FunD K d_BitReader___init__.name d_BitReader___init__.qual d_BitReader___init__.params d_BitReader___init__.body d_BitReader___init__.scope (d_BitReader___init__.dvs K) (d_BitReader___init__.kws K) (He.fAd K d_BitReader___init__.at_) fd
  d_BitReader_left : ∃ fd, FunD K d_BitReader_left.name d_BitReader_left.qual d_BitReader_left.params d_BitReader_left.body d_BitReader_left.scope (d_BitReader_left.dvs K) (d_BitReader_left.kws K) (He.fAd K d_BitReader_left.at_) fd
  d_BitReader_take : ∃ fd, FunD K d_BitReader_take.name d_BitReader_take.qual d_BitReader_take.params d_BitReader_take.body d_BitReader_take.scope (d_BitReader_take.dvs K) (d_BitReader_take.kws K) (He.fAd K d_BitReader_take.at_) fd
  d_Way_read : ∃ fd, FunD K d_Way_read.name d_Way_read.qual d_Way_read.params d_Way_read.body d_Way_read.scope (d_Way_read.dvs K) (d_Way_read.kws K) (He.fAd K d_Way_read.at_) fd
  d_BitReader_place : ∃ fd, FunD K d_BitReader_place.name d_BitReader_place.qual d_BitReader_place.params d_BitReader_place.body d_BitReader_place.scope (d_BitReader_place.dvs K) (d_BitReader_place.kws K) (He.fAd K d_BitReader_place.at_) fd
  d_items_read : ∃ fd, FunD K d_items_read.name d_items_read.qual d_items_read.params d_items_read.body d_items_read.scope (d_items_read.dvs K) (d_items_read.kws K) (He.fAd K d_items_read.at_) fd
  d_BitReader_go : ∃ fd, FunD K d_BitReader_go.name d_BitReader_go.qual d_BitReader_go.params d_BitReader_go.body d_BitReader_go.scope (d_BitReader_go.dvs K) (d_BitReader_go.kws K) (He.fAd K d_BitReader_go.at_) fd
  d_take_table : ∃ fd, FunD K d_take_table.name d_take_table.qual d_take_table.params d_take_table.body d_take_table.scope (d_take_table.dvs K) (d_take_table.kws K) (He.fAd K d_take_table.at_) fd
  d_CodeReader___init__ : ∃ fd, FunD K d_CodeReader___init__.name d_CodeReader___init__.qual d_CodeReader___init__.params d_CodeReader___init__.body d_CodeReader___init__.scope (d_CodeReader___init__.dvs K) (d_CodeReader___init__.kws K) (He.fAd K d_CodeReader___init__.at_) fd
  d_codes_taken : ∃ fd, FunD K d_codes_taken.name d_codes_taken.qual d_codes_taken.params d_codes_taken.body d_codes_taken.scope (d_codes_taken.dvs K) (d_codes_taken.kws K) (He.fAd K d_codes_taken.at_) fd
  d_CodeReader_thing : ∃ fd, FunD K d_CodeReader_thing.name d_CodeReader_thing.qual d_CodeReader_thing.params d_CodeReader_thing.body d_CodeReader_thing.scope (d_CodeReader_thing.dvs K) (d_CodeReader_thing.kws K) (He.fAd K d_CodeReader_thing.at_) fd
  d_thing_taken : ∃ fd, FunD K d_thing_taken.name d_thing_taken.qual d_thing_taken.params d_thing_taken.body d_thing_taken.scope (d_thing_taken.dvs K) (d_thing_taken.kws K) (He.fAd K d_thing_taken.at_) fd
  d_lay_copy : ∃ fd, FunD K d_lay_copy.name d_lay_copy.qual d_lay_copy.params d_lay_copy.body d_lay_copy.scope (d_lay_copy.dvs K) (d_lay_copy.kws K) (He.fAd K d_lay_copy.at_) fd
  d_ShareWay_read : ∃ fd, FunD K d_ShareWay_read.name d_ShareWay_read.qual d_ShareWay_read.params d_ShareWay_read.body d_ShareWay_read.scope (d_ShareWay_read.dvs K) (d_ShareWay_read.kws K) (He.fAd K d_ShareWay_read.at_) fd
  d__law_read : ∃ fd, FunD K d__law_read.name d__law_read.qual d__law_read.params d__law_read.body d__law_read.scope (d__law_read.dvs K) (d__law_read.kws K) (He.fAd K d__law_read.at_) fd
  d__law_own_due : ∃ fd, FunD K d__law_own_due.name d__law_own_due.qual d__law_own_due.params d__law_own_due.body d__law_own_due.scope (d__law_own_due.dvs K) (d__law_own_due.kws K) (He.fAd K d__law_own_due.at_) fd
  d_law : ∃ fd, FunD K d_law.name d_law.qual d_law.params d_law.body d_law.scope (d_law.dvs K) (d_law.kws K) (He.fAd K d_law.at_) fd
  d_weight_of : ∃ fd, FunD K d_weight_of.name d_weight_of.qual d_weight_of.params d_weight_of.body d_weight_of.scope (d_weight_of.dvs K) (d_weight_of.kws K) (He.fAd K d_weight_of.at_) fd
theorem tx_of {K : PySem.W.Frag} {h : Heap} {mg : Str → Option Value} (X : K.In h) (G : h.Ns mainGlobals mg) (c : He.SaysD fa fn K) (ce : ex K = true) : Tx K mg where
  g__wall := He.glo_ok X G (c.fact 0 (f := .glo "_wall") rfl)
  g_PressError := He.glo_ok X G (c.fact 1 (f := .glo "PressError") rfl)
  x_PressError := He.exc_ok (c.fact 2 (f := .exc "PressError") rfl)
  g_BadRow := He.glo_ok X G (c.fact 3 (f := .glo "BadRow") rfl)
  x_BadRow := He.exc_ok (c.fact 4 (f := .exc "BadRow") rfl)
  g_BadBits := He.glo_ok X G (c.fact 5 (f := .glo "BadBits") rfl)
  x_BadBits := He.exc_ok (c.fact 6 (f := .exc "BadBits") rfl)
  g_NoBits := He.glo_ok X G (c.fact 7 (f := .glo "NoBits") rfl)
  x_NoBits := He.exc_ok (c.fact 8 (f := .exc "NoBits") rfl)
  g_BadShares := He.glo_ok X G (c.fact 9 (f := .glo "BadShares") rfl)
  x_BadShares := He.exc_ok (c.fact 10 (f := .exc "BadShares") rfl)
  g_BadLengths := He.glo_ok X G (c.fact 11 (f := .glo "BadLengths") rfl)
  x_BadLengths := He.exc_ok (c.fact 12 (f := .exc "BadLengths") rfl)
  g_BadCode := He.glo_ok X G (c.fact 13 (f := .glo "BadCode") rfl)
  x_BadCode := He.exc_ok (c.fact 14 (f := .exc "BadCode") rfl)
  g_BadTable := He.glo_ok X G (c.fact 15 (f := .glo "BadTable") rfl)
  x_BadTable := He.exc_ok (c.fact 16 (f := .exc "BadTable") rfl)
  g_BadBody := He.glo_ok X G (c.fact 17 (f := .glo "BadBody") rfl)
  x_BadBody := He.exc_ok (c.fact 18 (f := .exc "BadBody") rfl)
  g_MOST_BYTE := He.int_ok X G (c.fact 19 (f := .int "MOST_BYTE" 255) rfl)
  g_is_byte := He.glo_ok X G (c.fact 20 (f := .glo "is_byte") rfl)
  g_is_row := He.glo_ok X G (c.fact 21 (f := .glo "is_row") rfl)
  g_need_row := He.glo_ok X G (c.fact 22 (f := .glo "need_row") rfl)
  g_BYTE := He.int_ok X G (c.fact 23 (f := .int "BYTE" 8) rfl)
  g_MOST_SIZE_bits := He.int_ok X G (c.fact 24 (f := .int "MOST_SIZE_bits" 24) rfl)
  g_is_number := He.glo_ok X G (c.fact 25 (f := .glo "is_number") rfl)
  g_need_size := He.glo_ok X G (c.fact 26 (f := .glo "need_size") rfl)
  g_BitRow := He.glo_ok X G (c.fact 27 (f := .glo "BitRow") rfl)
  c_BitRow := He.cls_ok (c.fact 28 (f := .cls "BitRow") rfl)
  n_BitRow_full := He.noat_ok (c.fact 29 (f := .noat "BitRow" "full") rfl)
  n_BitRow_part := He.noat_ok (c.fact 30 (f := .noat "BitRow" "part") rfl)
  n_BitRow_filled := He.noat_ok (c.fact 31 (f := .noat "BitRow" "filled") rfl)
  m_BitRow___init__ := He.meth_ok (c.fact 32 (f := .meth "BitRow" "__init__") rfl)
  m_BitRow_put := He.meth_ok (c.fact 33 (f := .meth "BitRow" "put") rfl)
  m_BitRow_many := He.meth_ok (c.fact 34 (f := .meth "BitRow" "many") rfl)
  m_BitRow_row := He.meth_ok (c.fact 35 (f := .meth "BitRow" "row") rfl)
  k_BitRow := He.mkr_ok (c.fact 36 (f := .mkr "BitRow") rfl)
  g_BitReader := He.glo_ok X G (c.fact 37 (f := .glo "BitReader") rfl)
  c_BitReader := He.cls_ok (c.fact 38 (f := .cls "BitReader") rfl)
  n_BitReader_source := He.noat_ok (c.fact 39 (f := .noat "BitReader" "source") rfl)
  n_BitReader_taken := He.noat_ok (c.fact 40 (f := .noat "BitReader" "taken") rfl)
  m_BitReader___init__ := He.meth_ok (c.fact 41 (f := .meth "BitReader" "__init__") rfl)
  m_BitReader_left := He.meth_ok (c.fact 42 (f := .meth "BitReader" "left") rfl)
  m_BitReader_place := He.meth_ok (c.fact 43 (f := .meth "BitReader" "place") rfl)
  m_BitReader_go := He.meth_ok (c.fact 44 (f := .meth "BitReader" "go") rfl)
  m_BitReader_take := He.meth_ok (c.fact 45 (f := .meth "BitReader" "take") rfl)
  m_BitReader_at_end := He.meth_ok (c.fact 46 (f := .meth "BitReader" "at_end") rfl)
  k_BitReader := He.mkr_ok (c.fact 47 (f := .mkr "BitReader") rfl)
  g_MOST_THINGS := He.int_ok X G (c.fact 48 (f := .int "MOST_THINGS" 300) rfl)
  g_MOST_COUNT := He.int_ok X G (c.fact 49 (f := .int "MOST_COUNT" 1000000) rfl)
  g_MOST_LENGTH_shares := He.int_ok X G (c.fact 50 (f := .int "MOST_LENGTH_shares" 12) rfl)
  g_is_between := He.glo_ok X G (c.fact 51 (f := .glo "is_between") rfl)
  g_need_counts := He.glo_ok X G (c.fact 52 (f := .glo "need_counts") rfl)
  g_weight_of := He.glo_ok X G (c.fact 53 (f := .glo "weight_of") rfl)
  g_by_twos := He.glo_ok X G (c.fact 54 (f := .glo "by_twos") rfl)
  g_lengths_of := He.glo_ok X G (c.fact 55 (f := .glo "lengths_of") rfl)
  g_need_lengths := He.glo_ok X G (c.fact 56 (f := .glo "need_lengths") rfl)
  g_codes_of := He.glo_ok X G (c.fact 57 (f := .glo "codes_of") rfl)
  g_CodeReader := He.glo_ok X G (c.fact 58 (f := .glo "CodeReader") rfl)
  c_CodeReader := He.cls_ok (c.fact 59 (f := .cls "CodeReader") rfl)
  n_CodeReader_known := He.noat_ok (c.fact 60 (f := .noat "CodeReader" "known") rfl)
  n_CodeReader_begun := He.noat_ok (c.fact 61 (f := .noat "CodeReader" "begun") rfl)
  m_CodeReader___init__ := He.meth_ok (c.fact 62 (f := .meth "CodeReader" "__init__") rfl)
  m_CodeReader_thing := He.meth_ok (c.fact 63 (f := .meth "CodeReader" "thing") rfl)
  k_CodeReader := He.mkr_ok (c.fact 64 (f := .mkr "CodeReader") rfl)
  g_MANY := He.int_ok X G (c.fact 65 (f := .int "MANY" 272) rfl)
  g_MOST_LENGTH_tables := He.int_ok X G (c.fact 66 (f := .int "MOST_LENGTH_tables" 6) rfl)
  g_MORE_MARK := He.int_ok X G (c.fact 67 (f := .int "MORE_MARK" 7) rfl)
  g_LEAST_MORE := He.int_ok X G (c.fact 68 (f := .int "LEAST_MORE" 3) rfl)
  g_MOST_MORE := He.int_ok X G (c.fact 69 (f := .int "MOST_MORE" 66) rfl)
  g_LENGTH_BITS := He.int_ok X G (c.fact 70 (f := .int "LENGTH_BITS" 3) rfl)
  g_MORE_BITS := He.int_ok X G (c.fact 71 (f := .int "MORE_BITS" 6) rfl)
  g_is_table := He.glo_ok X G (c.fact 72 (f := .glo "is_table") rfl)
  g_alike_from := He.glo_ok X G (c.fact 73 (f := .glo "alike_from") rfl)
  g_put_table := He.glo_ok X G (c.fact 74 (f := .glo "put_table") rfl)
  g_items_read := He.glo_ok X G (c.fact 75 (f := .glo "items_read") rfl)
  g_take_table := He.glo_ok X G (c.fact 76 (f := .glo "take_table") rfl)
  g_LEAST_SIZE := He.int_ok X G (c.fact 77 (f := .int "LEAST_SIZE" 3) rfl)
  g_MOST_SIZE_windows := He.int_ok X G (c.fact 78 (f := .int "MOST_SIZE_windows" 18) rfl)
  g_MOST_BACK := He.int_ok X G (c.fact 79 (f := .int "MOST_BACK" 255) rfl)
  g_need_window := He.glo_ok X G (c.fact 80 (f := .glo "need_window") rfl)
  g_need_window_windows := He.glo_ok X G (c.fact 81 (f := .glo "need_window_windows") rfl)
  g_alike_size := He.glo_ok X G (c.fact 82 (f := .glo "alike_size") rfl)
  g_longest_copy := He.glo_ok X G (c.fact 83 (f := .glo "longest_copy") rfl)
  g_pieces_of := He.glo_ok X G (c.fact 84 (f := .glo "pieces_of") rfl)
  g_MOST_SIGNS := He.int_ok X G (c.fact 85 (f := .int "MOST_SIGNS" 64) rfl)
  g_MOST_WINDOW := He.int_ok X G (c.fact 86 (f := .int "MOST_WINDOW" 192) rfl)
  g_SIGNS := He.int_ok X G (c.fact 87 (f := .int "SIGNS" 256) rfl)
  g_LEAST_COPY := He.int_ok X G (c.fact 88 (f := .int "LEAST_COPY" 3) rfl)
  g_need_text := He.glo_ok X G (c.fact 89 (f := .glo "need_text") rfl)
  g_need_window_ways := He.glo_ok X G (c.fact 90 (f := .glo "need_window_ways") rfl)
  g_lay_copy := He.glo_ok X G (c.fact 91 (f := .glo "lay_copy") rfl)
  g_thing_of := He.glo_ok X G (c.fact 92 (f := .glo "thing_of") rfl)
  g_counts_of := He.glo_ok X G (c.fact 93 (f := .glo "counts_of") rfl)
  g_codes_taken := He.glo_ok X G (c.fact 94 (f := .glo "codes_taken") rfl)
  g_thing_taken := He.glo_ok X G (c.fact 95 (f := .glo "thing_taken") rfl)
  g_Way := He.glo_ok X G (c.fact 96 (f := .glo "Way") rfl)
  c_Way := He.cls_ok (c.fact 97 (f := .cls "Way") rfl)
  m_Way_number := He.meth_ok (c.fact 98 (f := .meth "Way" "number") rfl)
  m_Way_tell := He.meth_ok (c.fact 99 (f := .meth "Way" "tell") rfl)
  m_Way_read := He.meth_ok (c.fact 100 (f := .meth "Way" "read") rfl)
  m_Way_cost := He.meth_ok (c.fact 101 (f := .meth "Way" "cost") rfl)
  g_ShareWay := He.glo_ok X G (c.fact 102 (f := .glo "ShareWay") rfl)
  c_ShareWay := He.cls_ok (c.fact 103 (f := .cls "ShareWay") rfl)
  m_ShareWay_number := He.meth_ok (c.fact 104 (f := .meth "ShareWay" "number") rfl)
  m_ShareWay_tell := He.meth_ok (c.fact 105 (f := .meth "ShareWay" "tell") rfl)
  m_ShareWay_read := He.meth_ok (c.fact 106 (f := .meth "ShareWay" "read") rfl)
  m_ShareWay_cost := (by have e : He.ma K (He.ga K "ShareWay") "cost" = He.ma K (He.ga K "Way") "cost" := (by have h := ex_at ce 12; exact of_decide_eq_true h); rw [← e]; exact He.meth_ok (c.fact 107 (f := .meth "ShareWay" "cost") rfl))
  g__law_cell_at := He.glo_ok X G (c.fact 108 (f := .glo "_law_cell_at") rfl)
  g__law_drawn := He.glo_ok X G (c.fact 109 (f := .glo "_law_drawn") rfl)
  g__law_signs := He.glo_ok X G (c.fact 110 (f := .glo "_law_signs") rfl)
  g__law_text_by := He.glo_ok X G (c.fact 111 (f := .glo "_law_text_by") rfl)
  g__law_digits := He.glo_ok X G (c.fact 112 (f := .glo "_law_digits") rfl)
  g__law_row_of := He.glo_ok X G (c.fact 113 (f := .glo "_law_row_of") rfl)
  g__law_alike := He.glo_ok X G (c.fact 114 (f := .glo "_law_alike") rfl)
  g__law_pieces := He.glo_ok X G (c.fact 115 (f := .glo "_law_pieces") rfl)
  g__law_thing := He.glo_ok X G (c.fact 116 (f := .glo "_law_thing") rfl)
  g__law_codes := He.glo_ok X G (c.fact 117 (f := .glo "_law_codes") rfl)
  g__law_parts := He.glo_ok X G (c.fact 118 (f := .glo "_law_parts") rfl)
  g__law_due := He.glo_ok X G (c.fact 119 (f := .glo "_law_due") rfl)
  g__law_own_due := He.glo_ok X G (c.fact 120 (f := .glo "_law_own_due") rfl)
  g__law_read := He.glo_ok X G (c.fact 121 (f := .glo "_law_read") rfl)
  g_law := He.glo_ok X G (c.fact 122 (f := .glo "law") rfl)
  f_all := He.free_ok X G (c.fact 123 (f := .free "all") rfl)
  f_bool := He.free_ok X G (c.fact 124 (f := .free "bool") rfl)
  f_divmod := He.free_ok X G (c.fact 125 (f := .free "divmod") rfl)
  f_enumerate := He.free_ok X G (c.fact 126 (f := .free "enumerate") rfl)
  f_int := He.free_ok X G (c.fact 127 (f := .free "int") rfl)
  f_isinstance := He.free_ok X G (c.fact 128 (f := .free "isinstance") rfl)
  f_len := He.free_ok X G (c.fact 129 (f := .free "len") rfl)
  f_list := He.free_ok X G (c.fact 130 (f := .free "list") rfl)
  f_max := He.free_ok X G (c.fact 131 (f := .free "max") rfl)
  f_min := He.free_ok X G (c.fact 132 (f := .free "min") rfl)
  f_range := He.free_ok X G (c.fact 133 (f := .free "range") rfl)
  f_sorted := He.free_ok X G (c.fact 134 (f := .free "sorted") rfl)
  f_ValueError := He.free_ok X G (c.fact 135 (f := .free "ValueError") rfl)
  i_BitRow := by have h := ex_at ce 0; have z := He.ba h; have z2 := He.ba z.2; have z3 := He.ba z2.2; exact ⟨He.eqO_ok z.1, He.eqO_ok z2.1, of_decide_eq_true z3.1, of_decide_eq_true z3.2⟩
  s_BitRow_Way := by have h := ex_at ce 1; exact of_decide_eq_true h
  i_BitReader := by have h := ex_at ce 2; have z := He.ba h; have z2 := He.ba z.2; have z3 := He.ba z2.2; exact ⟨He.eqO_ok z.1, He.eqO_ok z2.1, of_decide_eq_true z3.1, of_decide_eq_true z3.2⟩
  s_BitReader_Way := by have h := ex_at ce 3; exact of_decide_eq_true h
  i_CodeReader := by have h := ex_at ce 4; have z := He.ba h; have z2 := He.ba z.2; have z3 := He.ba z2.2; exact ⟨He.eqO_ok z.1, He.eqO_ok z2.1, of_decide_eq_true z3.1, of_decide_eq_true z3.2⟩
  s_CodeReader_Way := by have h := ex_at ce 5; exact of_decide_eq_true h
  z_Way := by have h := ex_at ce 6; have z := He.ba h; have z2 := He.ba z.2; exact ⟨z2.1, He.eqO_ok z.1, z2.2⟩
  i_Way := by have h := ex_at ce 7; have z := He.ba h; have z2 := He.ba z.2; have z3 := He.ba z2.2; exact ⟨He.eqO_ok z.1, He.eqO_ok z2.1, of_decide_eq_true z3.1, of_decide_eq_true z3.2⟩
  s_Way_Way := by have h := ex_at ce 8; exact of_decide_eq_true h
  z_ShareWay := by have h := ex_at ce 9; have z := He.ba h; have z2 := He.ba z.2; exact ⟨z2.1, He.eqO_ok z.1, z2.2⟩
  i_ShareWay := by have h := ex_at ce 10; have z := He.ba h; have z2 := He.ba z.2; have z3 := He.ba z2.2; exact ⟨He.eqO_ok z.1, He.eqO_ok z2.1, of_decide_eq_true z3.1, of_decide_eq_true z3.2⟩
  s_ShareWay_Way := by have h := ex_at ce 11; exact of_decide_eq_true h
  d__law_cell_at := c.def_ 49 (d := d__law_cell_at) rfl
  d__law_drawn := c.def_ 50 (d := d__law_drawn) rfl
  d__law_signs := c.def_ 51 (d := d__law_signs) rfl
  d__law_text_by := c.def_ 52 (d := d__law_text_by) rfl
  d_Way_number := c.def_ 42 (d := d_Way_number) rfl
  d_ShareWay_number := c.def_ 46 (d := d_ShareWay_number) rfl
  d__law_alike := c.def_ 55 (d := d__law_alike) rfl
  d__law_pieces := c.def_ 56 (d := d__law_pieces) rfl
  d__law_thing := c.def_ 57 (d := d__law_thing) rfl
  d_is_between := c.def_ 16 (d := d_is_between) rfl
  d_need_counts := c.def_ 17 (d := d_need_counts) rfl
  d_by_twos := c.def_ 19 (d := d_by_twos) rfl
  d_lengths_of := c.def_ 20 (d := d_lengths_of) rfl
  d_BitRow___init__ := c.def_ 6 (d := d_BitRow___init__) rfl
  d_is_table := c.def_ 25 (d := d_is_table) rfl
  d_alike_from := c.def_ 26 (d := d_alike_from) rfl
  d_is_number := c.def_ 4 (d := d_is_number) rfl
  d_need_size := c.def_ 5 (d := d_need_size) rfl
  d_BitRow_put := c.def_ 7 (d := d_BitRow_put) rfl
  d_put_table := c.def_ 27 (d := d_put_table) rfl
  d__law_digits := c.def_ 53 (d := d__law_digits) rfl
  d_BitRow_row := c.def_ 9 (d := d_BitRow_row) rfl
  d_BitRow_many := c.def_ 8 (d := d_BitRow_many) rfl
  d__law_codes := c.def_ 58 (d := d__law_codes) rfl
  d__law_parts := c.def_ 59 (d := d__law_parts) rfl
  d__law_due := c.def_ 60 (d := d__law_due) rfl
  d_is_byte := c.def_ 1 (d := d_is_byte) rfl
  d_is_row := c.def_ 2 (d := d_is_row) rfl
  d_need_row := c.def_ 3 (d := d_need_row) rfl
  d_need_text := c.def_ 35 (d := d_need_text) rfl
  d_need_window_ways := c.def_ 36 (d := d_need_window_ways) rfl
  d_Way_tell := c.def_ 43 (d := d_Way_tell) rfl
  d_need_window_windows := c.def_ 31 (d := d_need_window_windows) rfl
  d_alike_size := c.def_ 32 (d := d_alike_size) rfl
  d_longest_copy := c.def_ 33 (d := d_longest_copy) rfl
  d_pieces_of := c.def_ 34 (d := d_pieces_of) rfl
  d_thing_of := c.def_ 38 (d := d_thing_of) rfl
  d_counts_of := c.def_ 39 (d := d_counts_of) rfl
  d_need_lengths := c.def_ 21 (d := d_need_lengths) rfl
  d_codes_of := c.def_ 22 (d := d_codes_of) rfl
  d_ShareWay_tell := c.def_ 47 (d := d_ShareWay_tell) rfl
  d__law_row_of := c.def_ 54 (d := d__law_row_of) rfl
  d_Way_cost := c.def_ 45 (d := d_Way_cost) rfl
  d_BitReader___init__ := c.def_ 10 (d := d_BitReader___init__) rfl
  d_BitReader_left := c.def_ 11 (d := d_BitReader_left) rfl
  d_BitReader_take := c.def_ 14 (d := d_BitReader_take) rfl
  d_Way_read := c.def_ 44 (d := d_Way_read) rfl
  d_BitReader_place := c.def_ 12 (d := d_BitReader_place) rfl
  d_items_read := c.def_ 28 (d := d_items_read) rfl
  d_BitReader_go := c.def_ 13 (d := d_BitReader_go) rfl
  d_take_table := c.def_ 29 (d := d_take_table) rfl
  d_CodeReader___init__ := c.def_ 23 (d := d_CodeReader___init__) rfl
  d_codes_taken := c.def_ 40 (d := d_codes_taken) rfl
  d_CodeReader_thing := c.def_ 24 (d := d_CodeReader_thing) rfl
  d_thing_taken := c.def_ 41 (d := d_thing_taken) rfl
  d_lay_copy := c.def_ 37 (d := d_lay_copy) rfl
  d_ShareWay_read := c.def_ 48 (d := d_ShareWay_read) rfl
  d__law_read := c.def_ 62 (d := d__law_read) rfl
  d__law_own_due := c.def_ 61 (d := d__law_own_due) rfl
  d_law := c.def_ 63 (d := d_law) rfl
  d_weight_of := c.def_ 18 (d := d_weight_of) rfl
structure TxB (K : PySem.W.Frag) (mg : Str → Option Value) (base : Heap) : Prop extends Tx K mg where
  tb_codes_of : LamX.TabB base mg (He.cT K ("codes_of", none)).1 (He.cT K ("codes_of", none)).2
theorem kf_weight_of {P : Program} {w : World} {K : PySem.W.Frag} {mg : Str → Option Value} (T : Tx K mg) : KeyFirst P w K (He.fAd K ("weight_of", none)) := by
  obtain ⟨fd, F⟩ := T.d_weight_of
  have S : FnScope ["bundle"] ["bundle"] (defScope s_weight_of) := ⟨rfl, rfl, rfl, by decide +kernel, rfl, by decide +kernel, by decide +kernel⟩
  have hv : (defScope s_weight_of).names.lookup ("bundle" : Str) = some NameKind.local := by decide +kernel
  exact FunD.keyFirst F (by kernel_rfl) S hv (FunD.bindsN F fun _ _ _ _ _ _ us hl => match us, hl with | [_], _ => rfl)
theorem of_KBitRow {K : PySem.W.Frag} {mg : Str → Option Value} (T : Tx K mg) : KBitRow K := ⟨T.c_BitRow, T.n_BitRow_full, T.n_BitRow_part, T.n_BitRow_filled⟩
theorem of_KBitReader {K : PySem.W.Frag} {mg : Str → Option Value} (T : Tx K mg) : KBitReader K := ⟨T.c_BitReader, T.n_BitReader_source, T.n_BitReader_taken⟩
theorem of_KCodeReader {K : PySem.W.Frag} {mg : Str → Option Value} (T : Tx K mg) : KCodeReader K := ⟨T.c_CodeReader, T.n_CodeReader_known, T.n_CodeReader_begun⟩
theorem of_KShareIs {K : PySem.W.Frag} {mg : Str → Option Value} (T : Tx K mg) : KShareIs K := ⟨T.c_ShareWay, T.i_ShareWay, T.s_ShareWay_Way⟩
abbrev N__law_cell_at : List Str := ["_law_script", "_law_k"]
theorem sc__law_cell_at : FnScope N__law_cell_at ["_law_script", "_law_k"] (defScope s__law_cell_at) := ⟨rfl, rfl, rfl, by decide +kernel, rfl, by decide +kernel, by decide +kernel⟩
theorem wk__law_cell_at {P : Program} {w : World} {K : PySem.W.Frag} {mg : Str → Option Value} {base : Heap} (T : TxB K mg base)  {f : Addr} {cdv : Value} {A : Around} {outer : List Env} {s : Shared} {H : Hp} {E : XK} 
    (hr : Room 0 (A.deeper (envOfC "_law_cell_at" (defScope s__law_cell_at) s.heap.objs.size f cdv))) :
    PSs (cxOf (L2N.CX P w) P w K mg base N__law_cell_at "_law_cell_at" (defScope s__law_cell_at) f cdv A outer s H E) (defBody s__law_cell_at) (t__law_cell_at K (fun c d _ H2 => E c d H2)) := by
  have hu1 := hu_of hr
  have hu64 := hr.units
  have tk : L2N.Takes (cxOf (L2N.CX P w) P w K mg base N__law_cell_at "_law_cell_at" (defScope s__law_cell_at) f cdv A outer s H E) (fun c d _ H2 => E c d H2) := L2N.takes_of rfl rfl rfl rfl
  exact (pss_cons (ps_if (pt_cmpR op_ltU (pv 1) (pe_callB cr_lenK (by rfl) T.f_len bb_len (pa_cons (pv 0) pa_nil)) (nomark _)) (pss_one (ps_ret (pe_ix ix_seq (pv 0) (pv 1) (fun _ _ => rfl)))) pss_nil)
    (pss_one (ps_ret (pe_int))))
theorem fn__law_cell_at {P : Program} {w : World} {K : PySem.W.Frag} {mg : Str → Option Value} {base : Heap} (T : TxB K mg base) {f : Addr} {fd : FuncData} (F : FunD K d__law_cell_at.name d__law_cell_at.qual d__law_cell_at.params d__law_cell_at.body d__law_cell_at.scope (d__law_cell_at.dvs K) (d__law_cell_at.kws K) f fd) :
    FnOk P w K mg base (L2N.CX P w) 1 f fd ["_law_script", "_law_k"] (sp__law_cell_at K) :=
  F.ok sc__law_cell_at (fun vs H Q E h => len__law_cell_at h) (fun cdv A outer s H vs Q E hr h => ⟨t__law_cell_at K (fun c d _ H2 => E c d H2), wk__law_cell_at T  hr, rd__law_cell_at  h⟩)
theorem ok__law_cell_at_2 {P : Program} {w : World} {K : PySem.W.Frag} {mg : Str → Option Value} {base : Heap} (T : TxB K mg base) : DOkN P w K mg base 1 (He.fAd K ("_law_cell_at", none)) ["_law_script", "_law_k"] [] (sp__law_cell_at K) := by
  obtain ⟨fd, F⟩ := T.d__law_cell_at
  exact ⟨fd, [], .nil, FunD.bindsN F fun _ _ _ _ _ _ us hl => match us, hl with | [_, _], _ => rfl, fn__law_cell_at T F, F.kp⟩
abbrev N__law_drawn : List Str := ["_law_seed", "_law_k", "_law_mixed"]
theorem sc__law_drawn : FnScope N__law_drawn ["_law_seed", "_law_k"] (defScope s__law_drawn) := ⟨rfl, rfl, rfl, by decide +kernel, rfl, by decide +kernel, by decide +kernel⟩
theorem wk__law_drawn {P : Program} {w : World} {K : PySem.W.Frag} {mg : Str → Option Value} {base : Heap} (T : TxB K mg base)  {f : Addr} {cdv : Value} {A : Around} {outer : List Env} {s : Shared} {H : Hp} {E : XK} 
    (hr : Room 0 (A.deeper (envOfC "_law_drawn" (defScope s__law_drawn) s.heap.objs.size f cdv))) :
    PSs (cxOf (L2N.CX P w) P w K mg base N__law_drawn "_law_drawn" (defScope s__law_drawn) f cdv A outer s H E) (defBody s__law_drawn) (t__law_drawn K (fun c d _ H2 => E c d H2)) := by
  have hu1 := hu_of hr
  have hu64 := hr.units
  have tk : L2N.Takes (cxOf (L2N.CX P w) P w K mg base N__law_drawn "_law_drawn" (defScope s__law_drawn) f cdv A outer s H E) (fun c d _ H2 => E c d H2) := L2N.takes_of rfl rfl rfl rfl
  exact (pss_cons (ps_set (i := 2) sc__law_drawn.nd rfl (Or.inl rfl) (pe_op op_modU (pe_op op_mulU (pe_op op_addU (pe_op op_addU (pe_op op_addU (pv 0) (pe_op op_mulU (pe_op op_mulU (pe_int) (pv 1)) (pv 1))) (pe_op op_mulU (pe_int) (pv 1))) (pe_int)) (pe_int)) (pe_int)))
    (pss_one (ps_ret (pe_op op_divU (pe_op op_modU (pe_op op_mulU (pe_op op_addU (pe_op op_divU (pv 2) (pe_int)) (pv 1)) (pe_int)) (pe_int)) (pe_int)))))
theorem fn__law_drawn {P : Program} {w : World} {K : PySem.W.Frag} {mg : Str → Option Value} {base : Heap} (T : TxB K mg base) {f : Addr} {fd : FuncData} (F : FunD K d__law_drawn.name d__law_drawn.qual d__law_drawn.params d__law_drawn.body d__law_drawn.scope (d__law_drawn.dvs K) (d__law_drawn.kws K) f fd) :
    FnOk P w K mg base (L2N.CX P w) 1 f fd ["_law_seed", "_law_k"] (sp__law_drawn K) :=
  F.ok sc__law_drawn (fun vs H Q E h => len__law_drawn h) (fun cdv A outer s H vs Q E hr h => ⟨t__law_drawn K (fun c d _ H2 => E c d H2), wk__law_drawn T  hr, rd__law_drawn  h⟩)
theorem ok__law_drawn_2 {P : Program} {w : World} {K : PySem.W.Frag} {mg : Str → Option Value} {base : Heap} (T : TxB K mg base) : DOkN P w K mg base 1 (He.fAd K ("_law_drawn", none)) ["_law_seed", "_law_k"] [] (sp__law_drawn K) := by
  obtain ⟨fd, F⟩ := T.d__law_drawn
  exact ⟨fd, [], .nil, FunD.bindsN F fun _ _ _ _ _ _ us hl => match us, hl with | [_, _], _ => rfl, fn__law_drawn T F, F.kp⟩
abbrev N__law_signs : List Str := ["_law_cell", "_law_size", "_law_ahead", "_law_found", "_law_k", "_law_some", "_law_back", "_law_number", "_law_sign"]
theorem sc__law_signs : FnScope N__law_signs ["_law_cell", "_law_size", "_law_ahead"] (defScope s__law_signs) := ⟨rfl, rfl, rfl, by decide +kernel, rfl, by decide +kernel, by decide +kernel⟩
theorem wk__law_signs {P : Program} {w : World} {K : PySem.W.Frag} {mg : Str → Option Value} {base : Heap} (T : TxB K mg base) (O0 : DOkN P w K mg base 1 (He.fAd K ("_law_drawn", none)) ["_law_seed", "_law_k"] [] (sp__law_drawn K)) {f : Addr} {cdv : Value} {A : Around} {outer : List Env} {s : Shared} {H : Hp} {E : XK} 
    (hr : Room 1 (A.deeper (envOfC "_law_signs" (defScope s__law_signs) s.heap.objs.size f cdv))) :
    PSs (cxOf (L2N.CX P w) P w K mg base N__law_signs "_law_signs" (defScope s__law_signs) f cdv A outer s H E) (defBody s__law_signs) (t__law_signs K (fun c d _ H2 => E c d H2)) := by
  obtain ⟨fd0, ds0, v0, b0, G0, q0⟩ := O0
  have hu1 := hu_of hr
  have hu64 := hr.units
  have tk : L2N.Takes (cxOf (L2N.CX P w) P w K mg base N__law_signs "_law_signs" (defScope s__law_signs) f cdv A outer s H E) (fun c d _ H2 => E c d H2) := L2N.takes_of rfl rfl rfl rfl
  exact (pss_cons (ps_set (i := 3) sc__law_signs.nd rfl (Or.inl rfl) (pe_callTy cr_listK (by rfl) T.f_list bt_list (pa_cons (pv 2) pa_nil)))
    (pss_cons (ps_setLc (i := 5) (own := [("_law_k", 4)]) rfl sc__law_signs.nd rfl rfl (sw_true rfl rfl rfl (by decide +kernel)) (pi_range1 rfl T.f_range (pa_cons (pe_op op_addU (pe_int) (pe_op op_modU (pe_op op_divU (pv 0) (pe_int)) (pe_int))) pa_nil)) (blkOk_by (own := [("_law_k", 4)]) (N := N__law_signs) (sc := defScope s__law_signs) (by decide +kernel)) (fun _ _ _ _ _ => (pg_name (i := 4) sc__law_signs.nd rfl (Or.inl rfl))) (fun _ _ _ _ _ => pts_nil) (fun _ _ _ _ _ => (pe_op op_modU (pe_clN G0 (hr.mono (by decide)) rfl T.g__law_drawn q0 b0 v0 takes0N (pa_cons (pv 0) (pa_cons (pe_op op_addU (pe_int) (pv 4)) pa_nil))) (pe_int))))
    (pss_cons (ps_set (i := 6) sc__law_signs.nd rfl (Or.inl rfl) (pe_op op_addU (pe_int) (pe_op op_modU (pe_clN G0 (hr.mono (by decide)) rfl T.g__law_drawn q0 b0 v0 tk (pa_cons (pv 0) (pa_cons (pe_int) pa_nil))) (pe_callB (cr_max2K rfl) (by rfl) T.f_max bb_max (pa_cons (pe_int) (pa_cons (pe_op op_addU (pe_callB cr_lenK (by rfl) T.f_len bb_len (pa_cons (pv 2) pa_nil)) (pe_int)) pa_nil))))))
    (pss_cons (ps_for (passes_of rfl) rfl (pi_range1 rfl T.f_range (pa_cons (pv 1) pa_nil)) (pg_name (i := 4) sc__law_signs.nd rfl (Or.inl rfl)) (pss_cons (ps_set (i := 7) sc__law_signs.nd rfl (Or.inl rfl) (pe_clN G0 (hr.mono (by decide)) rfl T.g__law_drawn q0 b0 v0 tk (pa_cons (pv 0) (pa_cons (pv 4) pa_nil))))
    (pss_cons (ps_set (i := 8) sc__law_signs.nd rfl (Or.inl rfl) (pe_ix ix_seq (pv 5) (pe_op op_modU (pv 7) (pe_callB cr_lenK (by rfl) T.f_len bb_len (pa_cons (pv 5) pa_nil))) (fun _ _ => rfl)))
    (Evl.pss_cut (ps_if (pt_cmpR (op_eqU hu64) (pe_op op_modU (pv 0) (pe_int)) (pe_int) (nomark _)) (pss_one (ps_set (i := 8) sc__law_signs.nd rfl (Or.inl rfl) (pe_op op_modU (pv 7) (pe_int)))) (pss_one (ps_if (PW.pt (pw_and (pt_cmpR (op_eqU hu64) (pe_op op_modU (pv 0) (pe_int)) (pe_int) (nomark _)) (pw_and (pt_cmpR op_gtU (pe_op op_modU (pe_op op_divU (pv 7) (pe_int)) (pe_int)) (pe_int) (nomark _)) (pw_and1 (pt_cmpR (op_neU hu64) (pv 3) (pe_lst pa_nil) (nomark _)))))) (pss_one (ps_set (i := 8) sc__law_signs.nd rfl (Or.inl rfl) (pe_ix ix_seq (pv 3) (pe_un un_negU (pe_int)) (fun _ _ => rfl)))) (pss_one (ps_if (PW.pt (pw_and (pt_cmpR (op_eqU hu64) (pe_op op_modU (pv 0) (pe_int)) (pe_int) (nomark _)) (pw_and (pt_cmpR op_gtU (pe_op op_modU (pe_op op_divU (pv 7) (pe_int)) (pe_int)) (pe_int) (nomark _)) (pw_and1 (pt_cmpR op_leU (pv 6) (pe_callB cr_lenK (by rfl) T.f_len bb_len (pa_cons (pv 3) pa_nil)) (nomark _)))))) (pss_one (ps_set (i := 8) sc__law_signs.nd rfl (Or.inl rfl) (pe_ix ix_seq (pv 3) (pe_op op_subU (pe_callB cr_lenK (by rfl) T.f_len bb_len (pa_cons (pv 3) pa_nil)) (pv 6)) (fun _ _ => rfl)))) pss_nil)))))
    (pss_one (ps_expr (pe_bm PySem.F.plainAttrs_list PySem.F.slot_list_append PySem.F.type_list_append mt_append (pv 3) (pa_cons (pv 8) pa_nil))))))))
    (pss_one (ps_ret (pe_slice sl_K (pv 3) (po_some (pe_callB cr_lenK (by rfl) T.f_len bb_len (pa_cons (pv 2) pa_nil))) po_none)))))))
theorem fn__law_signs {P : Program} {w : World} {K : PySem.W.Frag} {mg : Str → Option Value} {base : Heap} (T : TxB K mg base) {f : Addr} {fd : FuncData} (F : FunD K d__law_signs.name d__law_signs.qual d__law_signs.params d__law_signs.body d__law_signs.scope (d__law_signs.dvs K) (d__law_signs.kws K) f fd) :
    FnOk P w K mg base (L2N.CX P w) 2 f fd ["_law_cell", "_law_size", "_law_ahead"] (sp__law_signs K) :=
  F.ok sc__law_signs (fun vs H Q E h => len__law_signs h) (fun cdv A outer s H vs Q E hr h => ⟨t__law_signs K (fun c d _ H2 => E c d H2), wk__law_signs T (ok__law_drawn_2 T) hr, rd__law_signs  h⟩)
theorem ok__law_signs_3 {P : Program} {w : World} {K : PySem.W.Frag} {mg : Str → Option Value} {base : Heap} (T : TxB K mg base) : DOkN P w K mg base 2 (He.fAd K ("_law_signs", none)) ["_law_cell", "_law_size", "_law_ahead"] [] (sp__law_signs K) := by
  obtain ⟨fd, F⟩ := T.d__law_signs
  exact ⟨fd, [], .nil, FunD.bindsN F fun _ _ _ _ _ _ us hl => match us, hl with | [_, _, _], _ => rfl, fn__law_signs T F, F.kp⟩
abbrev N__law_text_by : List Str := ["_law_script", "_law_first", "_law_cell", "_law_wide", "_law_size", "_law_before"]
theorem sc__law_text_by : FnScope N__law_text_by ["_law_script", "_law_first"] (defScope s__law_text_by) := ⟨rfl, rfl, rfl, by decide +kernel, rfl, by decide +kernel, by decide +kernel⟩
theorem wk__law_text_by {P : Program} {w : World} {K : PySem.W.Frag} {mg : Str → Option Value} {base : Heap} (T : TxB K mg base) (O0 : DOkN P w K mg base 1 (He.fAd K ("_law_cell_at", none)) ["_law_script", "_law_k"] [] (sp__law_cell_at K)) (O1 : DOkN P w K mg base 2 (He.fAd K ("_law_signs", none)) ["_law_cell", "_law_size", "_law_ahead"] [] (sp__law_signs K)) {f : Addr} {cdv : Value} {A : Around} {outer : List Env} {s : Shared} {H : Hp} {E : XK} 
    (hr : Room 2 (A.deeper (envOfC "_law_text_by" (defScope s__law_text_by) s.heap.objs.size f cdv))) :
    PSs (cxOf (L2N.CX P w) P w K mg base N__law_text_by "_law_text_by" (defScope s__law_text_by) f cdv A outer s H E) (defBody s__law_text_by) (t__law_text_by K (fun c d _ H2 => E c d H2)) := by
  obtain ⟨fd0, ds0, v0, b0, G0, q0⟩ := O0
  obtain ⟨fd1, ds1, v1, b1, G1, q1⟩ := O1
  have hu1 := hu_of hr
  have hu64 := hr.units
  have tk : L2N.Takes (cxOf (L2N.CX P w) P w K mg base N__law_text_by "_law_text_by" (defScope s__law_text_by) f cdv A outer s H E) (fun c d _ H2 => E c d H2) := L2N.takes_of rfl rfl rfl rfl
  exact (pss_cons (ps_set (i := 2) sc__law_text_by.nd rfl (Or.inl rfl) (pe_clN G0 (hr.mono (by decide)) rfl T.g__law_cell_at q0 b0 v0 tk (pa_cons (pv 0) (pa_cons (pv 1) pa_nil))))
    (pss_cons (ps_set (i := 3) sc__law_text_by.nd rfl (Or.inl rfl) (pe_ix ix_seq (pe_lst (pa_cons (pe_int) (pa_cons (pe_op op_modU (pe_op op_divU (pv 2) (pe_int)) (pe_int)) (pa_cons (pe_op op_modU (pe_op op_divU (pv 2) (pe_int)) (pe_int)) (pa_cons (pe_int) pa_nil))))) (pe_op op_modU (pv 2) (pe_int)) (fun _ _ => rfl)))
    (pss_cons (ps_set (i := 4) sc__law_text_by.nd rfl (Or.inl rfl) (pe_op op_addU (pe_int) (pe_op op_modU (pe_op op_divU (pv 2) (pe_int)) (pe_int))))
    (Evl.pss_cut (ps_if (pt_cmpR (op_eqU hu64) (pe_op op_modU (pe_op op_divU (pv 2) (pe_int)) (pe_int)) (pe_int) (nomark _)) (pss_cons (ps_set (i := 3) sc__law_text_by.nd rfl (Or.inl rfl) (pe_op op_addU (pe_int) (pe_op op_modU (pe_op op_divU (pv 2) (pe_int)) (pe_int))))
    (pss_one (ps_set (i := 4) sc__law_text_by.nd rfl (Or.inl rfl) (pe_op op_addU (pe_int) (pe_op op_modU (pe_op op_divU (pv 2) (pe_int)) (pe_int)))))) pss_nil)
    (Evl.pss_cut (ps_if (pt_cmpR (op_eqU hu64) (pe_op op_modU (pe_op op_divU (pv 2) (pe_int)) (pe_int)) (pe_int) (nomark _)) (pss_cons (ps_set (i := 3) sc__law_text_by.nd rfl (Or.inl rfl) (pe_int))
    (pss_one (ps_set (i := 4) sc__law_text_by.nd rfl (Or.inl rfl) (pe_op op_subU (pe_int) (pe_op op_modU (pe_op op_divU (pv 2) (pe_int)) (pe_int)))))) pss_nil)
    (pss_cons (ps_set (i := 5) sc__law_text_by.nd rfl (Or.inl rfl) (pe_clN G1 (hr.mono (by decide)) rfl T.g__law_signs q1 b1 v1 tk (pa_cons (pe_clN G0 (hr.mono (by decide)) rfl T.g__law_cell_at q0 b0 v0 tk (pa_cons (pv 0) (pa_cons (pe_op op_addU (pv 1) (pe_int)) pa_nil))) (pa_cons (pv 3) (pa_cons (pe_lst pa_nil) pa_nil)))))
    (pss_one (ps_ret (pe_tup (pa_cons (pe_clN G1 (hr.mono (by decide)) rfl T.g__law_signs q1 b1 v1 tk (pa_cons (pe_clN G0 (hr.mono (by decide)) rfl T.g__law_cell_at q0 b0 v0 tk (pa_cons (pv 0) (pa_cons (pe_op op_addU (pv 1) (pe_int)) pa_nil))) (pa_cons (pv 4) (pa_cons (pv 5) pa_nil)))) (pa_cons (pv 5) pa_nil)))))))))))
theorem fn__law_text_by {P : Program} {w : World} {K : PySem.W.Frag} {mg : Str → Option Value} {base : Heap} (T : TxB K mg base) {f : Addr} {fd : FuncData} (F : FunD K d__law_text_by.name d__law_text_by.qual d__law_text_by.params d__law_text_by.body d__law_text_by.scope (d__law_text_by.dvs K) (d__law_text_by.kws K) f fd) :
    FnOk P w K mg base (L2N.CX P w) 3 f fd ["_law_script", "_law_first"] (sp__law_text_by K) :=
  F.ok sc__law_text_by (fun vs H Q E h => len__law_text_by h) (fun cdv A outer s H vs Q E hr h => ⟨t__law_text_by K (fun c d _ H2 => E c d H2), wk__law_text_by T (ok__law_cell_at_2 T) (ok__law_signs_3 T) hr, rd__law_text_by  h⟩)
theorem ok__law_text_by_2 {P : Program} {w : World} {K : PySem.W.Frag} {mg : Str → Option Value} {base : Heap} (T : TxB K mg base) : DOkN P w K mg base 3 (He.fAd K ("_law_text_by", none)) ["_law_script", "_law_first"] [] (sp__law_text_by K) := by
  obtain ⟨fd, F⟩ := T.d__law_text_by
  exact ⟨fd, [], .nil, FunD.bindsN F fun _ _ _ _ _ _ us hl => match us, hl with | [_, _], _ => rfl, fn__law_text_by T F, F.kp⟩
abbrev N_Way_number : List Str := ["self"]
theorem sc_Way_number : FnScope N_Way_number ["self"] (defScope s_Way_number) := ⟨rfl, rfl, rfl, by decide +kernel, rfl, by decide +kernel, by decide +kernel⟩
theorem wk_Way_number {P : Program} {w : World} {K : PySem.W.Frag} {mg : Str → Option Value} {base : Heap} (T : TxB K mg base)  {f : Addr} {cdv : Value} {A : Around} {outer : List Env} {s : Shared} {H : Hp} {E : XK} 
    (hr : Room 0 (A.deeper (envOfC "Way.number" (defScope s_Way_number) s.heap.objs.size f cdv))) :
    PSs (cxOf (L2N.CX P w) P w K mg base N_Way_number "Way.number" (defScope s_Way_number) f cdv A outer s H E) (defBody s_Way_number) (t_Way_number K (fun c d _ H2 => E c d H2)) := by
  have hu1 := hu_of hr
  have hu64 := hr.units
  have tk : L2N.Takes (cxOf (L2N.CX P w) P w K mg base N_Way_number "Way.number" (defScope s_Way_number) f cdv A outer s H E) (fun c d _ H2 => E c d H2) := L2N.takes_of rfl rfl rfl rfl
  exact (pss_one (ps_ret (pe_op op_subU (pe_int) (pe_int))))
theorem fn_Way_number {P : Program} {w : World} {K : PySem.W.Frag} {mg : Str → Option Value} {base : Heap} (T : TxB K mg base) {f : Addr} {fd : FuncData} (F : FunD K d_Way_number.name d_Way_number.qual d_Way_number.params d_Way_number.body d_Way_number.scope (d_Way_number.dvs K) (d_Way_number.kws K) f fd) :
    FnOk P w K mg base (L2N.CX P w) 1 f fd ["self"] (sp_Way_number K) :=
  F.ok sc_Way_number (fun vs H Q E h => len_Way_number h) (fun cdv A outer s H vs Q E hr h => ⟨t_Way_number K (fun c d _ H2 => E c d H2), wk_Way_number T  hr, rd_Way_number  h⟩)
theorem ok_Way_number_1 {P : Program} {w : World} {K : PySem.W.Frag} {mg : Str → Option Value} {base : Heap} (T : TxB K mg base) : DOkN P w K mg base 1 (He.fAd K ("Way", some "number")) ["self"] [] (sp_Way_number K) := by
  obtain ⟨fd, F⟩ := T.d_Way_number
  exact ⟨fd, [], .nil, FunD.bindsN F fun _ _ _ _ _ _ us hl => match us, hl with | [_], _ => rfl, fn_Way_number T F, F.kp⟩
abbrev N_ShareWay_number : List Str := ["self"]
theorem sc_ShareWay_number : FnScope N_ShareWay_number ["self"] (defScope s_ShareWay_number) := ⟨rfl, rfl, rfl, by decide +kernel, rfl, by decide +kernel, by decide +kernel⟩
theorem wk_ShareWay_number {P : Program} {w : World} {K : PySem.W.Frag} {mg : Str → Option Value} {base : Heap} (T : TxB K mg base)  {f : Addr} {cdv : Value} {A : Around} {outer : List Env} {s : Shared} {H : Hp} {E : XK} 
    (hr : Room 0 (A.deeper (envOfC "ShareWay.number" (defScope s_ShareWay_number) s.heap.objs.size f cdv))) :
    PSs (cxOf (L2N.CX P w) P w K mg base N_ShareWay_number "ShareWay.number" (defScope s_ShareWay_number) f cdv A outer s H E) (defBody s_ShareWay_number) (t_ShareWay_number K (fun c d _ H2 => E c d H2)) := by
  have hu1 := hu_of hr
  have hu64 := hr.units
  have tk : L2N.Takes (cxOf (L2N.CX P w) P w K mg base N_ShareWay_number "ShareWay.number" (defScope s_ShareWay_number) f cdv A outer s H E) (fun c d _ H2 => E c d H2) := L2N.takes_of rfl rfl rfl rfl
  exact (pss_one (ps_ret (pe_int)))
theorem fn_ShareWay_number {P : Program} {w : World} {K : PySem.W.Frag} {mg : Str → Option Value} {base : Heap} (T : TxB K mg base) {f : Addr} {fd : FuncData} (F : FunD K d_ShareWay_number.name d_ShareWay_number.qual d_ShareWay_number.params d_ShareWay_number.body d_ShareWay_number.scope (d_ShareWay_number.dvs K) (d_ShareWay_number.kws K) f fd) :
    FnOk P w K mg base (L2N.CX P w) 1 f fd ["self"] (sp_ShareWay_number K) :=
  F.ok sc_ShareWay_number (fun vs H Q E h => len_ShareWay_number h) (fun cdv A outer s H vs Q E hr h => ⟨t_ShareWay_number K (fun c d _ H2 => E c d H2), wk_ShareWay_number T  hr, rd_ShareWay_number  h⟩)
theorem ok_ShareWay_number_1 {P : Program} {w : World} {K : PySem.W.Frag} {mg : Str → Option Value} {base : Heap} (T : TxB K mg base) : DOkN P w K mg base 1 (He.fAd K ("ShareWay", some "number")) ["self"] [] (sp_ShareWay_number K) := by
  obtain ⟨fd, F⟩ := T.d_ShareWay_number
  exact ⟨fd, [], .nil, FunD.bindsN F fun _ _ _ _ _ _ us hl => match us, hl with | [_], _ => rfl, fn_ShareWay_number T F, F.kp⟩
abbrev N__law_alike : List Str := ["_law_signs_here", "_law_place", "_law_back", "_law_most", "_law_size"]
theorem sc__law_alike : FnScope N__law_alike ["_law_signs_here", "_law_place", "_law_back", "_law_most"] (defScope s__law_alike) := ⟨rfl, rfl, rfl, by decide +kernel, rfl, by decide +kernel, by decide +kernel⟩
theorem wk__law_alike {P : Program} {w : World} {K : PySem.W.Frag} {mg : Str → Option Value} {base : Heap} (T : TxB K mg base)  {f : Addr} {cdv : Value} {A : Around} {outer : List Env} {s : Shared} {H : Hp} {E : XK} 
    (hr : Room 0 (A.deeper (envOfC "_law_alike" (defScope s__law_alike) s.heap.objs.size f cdv))) :
    PSs (cxOf (L2N.CX P w) P w K mg base N__law_alike "_law_alike" (defScope s__law_alike) f cdv A outer s H E) (defBody s__law_alike) (t__law_alike K (fun c d _ H2 => E c d H2)) := by
  have hu1 := hu_of hr
  have hu64 := hr.units
  have tk : L2N.Takes (cxOf (L2N.CX P w) P w K mg base N__law_alike "_law_alike" (defScope s__law_alike) f cdv A outer s H E) (fun c d _ H2 => E c d H2) := L2N.takes_of rfl rfl rfl rfl
  exact (pss_cons (ps_set (i := 4) sc__law_alike.nd rfl (Or.inl rfl) (pe_int))
    (pss_cons (ps_while (passes_of rfl) (PW.pt (pw_and (pt_cmpR op_ltU (pv 4) (pv 3) (nomark _)) (pw_and1 (pt_cmpR (op_eqU hu64) (pe_ix ix_seq (pv 0) (pe_op op_addU (pv 1) (pv 4)) (fun _ _ => rfl)) (pe_ix ix_seq (pv 0) (pe_op op_subU (pe_op op_addU (pv 1) (pv 4)) (pv 2)) (fun _ _ => rfl)) (nomark _))))) (pss_one (ps_set (i := 4) sc__law_alike.nd rfl (Or.inl rfl) (pe_op op_addU (pv 4) (pe_int)))))
    (pss_one (ps_ret (pv 4)))))
theorem fn__law_alike {P : Program} {w : World} {K : PySem.W.Frag} {mg : Str → Option Value} {base : Heap} (T : TxB K mg base) {f : Addr} {fd : FuncData} (F : FunD K d__law_alike.name d__law_alike.qual d__law_alike.params d__law_alike.body d__law_alike.scope (d__law_alike.dvs K) (d__law_alike.kws K) f fd) :
    FnOk P w K mg base (L2N.CX P w) 1 f fd ["_law_signs_here", "_law_place", "_law_back", "_law_most"] (sp__law_alike K) :=
  F.ok sc__law_alike (fun vs H Q E h => len__law_alike h) (fun cdv A outer s H vs Q E hr h => ⟨t__law_alike K (fun c d _ H2 => E c d H2), wk__law_alike T  hr, rd__law_alike  h⟩)
theorem ok__law_alike_4 {P : Program} {w : World} {K : PySem.W.Frag} {mg : Str → Option Value} {base : Heap} (T : TxB K mg base) : DOkN P w K mg base 1 (He.fAd K ("_law_alike", none)) ["_law_signs_here", "_law_place", "_law_back", "_law_most"] [] (sp__law_alike K) := by
  obtain ⟨fd, F⟩ := T.d__law_alike
  exact ⟨fd, [], .nil, FunD.bindsN F fun _ _ _ _ _ _ us hl => match us, hl with | [_, _, _, _], _ => rfl, fn__law_alike T F, F.kp⟩
abbrev N__law_pieces : List Str := ["_law_text", "_law_before", "_law_signs_here", "_law_place", "_law_found", "_law_most", "_law_sizes", "_law_back", "_law_best"]
theorem sc__law_pieces : FnScope N__law_pieces ["_law_text", "_law_before"] (defScope s__law_pieces) := ⟨rfl, rfl, rfl, by decide +kernel, rfl, by decide +kernel, by decide +kernel⟩
theorem wk__law_pieces {P : Program} {w : World} {K : PySem.W.Frag} {mg : Str → Option Value} {base : Heap} (T : TxB K mg base) (O0 : DOkN P w K mg base 1 (He.fAd K ("_law_alike", none)) ["_law_signs_here", "_law_place", "_law_back", "_law_most"] [] (sp__law_alike K)) {f : Addr} {cdv : Value} {A : Around} {outer : List Env} {s : Shared} {H : Hp} {E : XK} 
    (hr : Room 1 (A.deeper (envOfC "_law_pieces" (defScope s__law_pieces) s.heap.objs.size f cdv))) :
    PSs (cxOf (L2N.CX P w) P w K mg base N__law_pieces "_law_pieces" (defScope s__law_pieces) f cdv A outer s H E) (defBody s__law_pieces) (t__law_pieces K (fun c d _ H2 => E c d H2)) := by
  obtain ⟨fd0, ds0, v0, b0, G0, q0⟩ := O0
  have hu1 := hu_of hr
  have hu64 := hr.units
  have tk : L2N.Takes (cxOf (L2N.CX P w) P w K mg base N__law_pieces "_law_pieces" (defScope s__law_pieces) f cdv A outer s H E) (fun c d _ H2 => E c d H2) := L2N.takes_of rfl rfl rfl rfl
  exact (pss_cons (ps_set (i := 2) sc__law_pieces.nd rfl (Or.inl rfl) (pe_op op_addU (pv 1) (pv 0)))
    (pss_cons (ps_set (i := 3) sc__law_pieces.nd rfl (Or.inl rfl) (pe_callB cr_lenK (by rfl) T.f_len bb_len (pa_cons (pv 1) pa_nil)))
    (pss_cons (ps_set (i := 4) sc__law_pieces.nd rfl (Or.inl rfl) (pe_lst pa_nil))
    (pss_cons (ps_while (passes_of rfl) (pt_cmpR op_ltU (pv 3) (pe_callB cr_lenK (by rfl) T.f_len bb_len (pa_cons (pv 2) pa_nil)) (nomark _)) (pss_cons (ps_set (i := 5) sc__law_pieces.nd rfl (Or.inl rfl) (pe_callB (cr_min2K rfl) (by rfl) T.f_min bb_min (pa_cons (pe_int) (pa_cons (pe_op op_subU (pe_callB cr_lenK (by rfl) T.f_len bb_len (pa_cons (pv 2) pa_nil)) (pv 3)) pa_nil))))
    (pss_cons (ps_set (i := 6) sc__law_pieces.nd rfl (Or.inl rfl) (pe_lst (pa_cons (pe_int) pa_nil)))
    (pss_cons (ps_for (passes_of rfl) rfl (pi_range2 rfl T.f_range (pa_cons (pe_int) (pa_cons (pe_op op_addU (pe_callB (cr_min2K rfl) (by rfl) T.f_min bb_min (pa_cons (pe_int) (pa_cons (pv 3) pa_nil))) (pe_int)) pa_nil))) (pg_name (i := 7) sc__law_pieces.nd rfl (Or.inl rfl)) (pss_one (ps_expr (pe_bm PySem.F.plainAttrs_list PySem.F.slot_list_append PySem.F.type_list_append mt_append (pv 6) (pa_cons (pe_clN G0 (hr.mono (by decide)) rfl T.g__law_alike q0 b0 v0 tk (pa_cons (pv 2) (pa_cons (pv 3) (pa_cons (pv 7) (pa_cons (pv 5) pa_nil))))) pa_nil)))))
    (pss_cons (ps_set (i := 8) sc__law_pieces.nd rfl (Or.inl rfl) (pe_callB (cr_max rfl) (by rfl) T.f_max bb_max (pa_cons (pv 6) pa_nil)))
    (pss_one (ps_if (pt_cmpR op_ltU (pv 8) (pe_int) (nomark _)) (pss_cons (ps_expr (pe_bm PySem.F.plainAttrs_list PySem.F.slot_list_append PySem.F.type_list_append mt_append (pv 4) (pa_cons (pe_tup (pa_cons (pe_str) (pa_cons (pe_ix ix_seq (pv 2) (pv 3) (fun _ _ => rfl)) pa_nil))) pa_nil)))
    (pss_one (ps_set (i := 3) sc__law_pieces.nd rfl (Or.inl rfl) (pe_op op_addU (pv 3) (pe_int))))) (pss_cons (ps_expr (pe_bm PySem.F.plainAttrs_list PySem.F.slot_list_append PySem.F.type_list_append mt_append (pv 4) (pa_cons (pe_tup (pa_cons (pe_str) (pa_cons (pe_bm PySem.F.plainAttrs_list PySem.F.slot_list_index PySem.F.type_list_index mt_index (pv 6) (pa_cons (pv 8) pa_nil)) (pa_cons (pv 8) pa_nil)))) pa_nil)))
    (pss_one (ps_set (i := 3) sc__law_pieces.nd rfl (Or.inl rfl) (pe_op op_addU (pv 3) (pv 8))))))))))))
    (pss_one (ps_ret (pv 4)))))))
theorem fn__law_pieces {P : Program} {w : World} {K : PySem.W.Frag} {mg : Str → Option Value} {base : Heap} (T : TxB K mg base) {f : Addr} {fd : FuncData} (F : FunD K d__law_pieces.name d__law_pieces.qual d__law_pieces.params d__law_pieces.body d__law_pieces.scope (d__law_pieces.dvs K) (d__law_pieces.kws K) f fd) :
    FnOk P w K mg base (L2N.CX P w) 2 f fd ["_law_text", "_law_before"] (sp__law_pieces K) :=
  F.ok sc__law_pieces (fun vs H Q E h => len__law_pieces h) (fun cdv A outer s H vs Q E hr h => ⟨t__law_pieces K (fun c d _ H2 => E c d H2), wk__law_pieces T (ok__law_alike_4 T) hr, rd__law_pieces  h⟩)
theorem ok__law_pieces_2 {P : Program} {w : World} {K : PySem.W.Frag} {mg : Str → Option Value} {base : Heap} (T : TxB K mg base) : DOkN P w K mg base 2 (He.fAd K ("_law_pieces", none)) ["_law_text", "_law_before"] [] (sp__law_pieces K) := by
  obtain ⟨fd, F⟩ := T.d__law_pieces
  exact ⟨fd, [], .nil, FunD.bindsN F fun _ _ _ _ _ _ us hl => match us, hl with | [_, _], _ => rfl, fn__law_pieces T F, F.kp⟩
abbrev N__law_thing : List Str := ["_law_piece"]
theorem sc__law_thing : FnScope N__law_thing ["_law_piece"] (defScope s__law_thing) := ⟨rfl, rfl, rfl, by decide +kernel, rfl, by decide +kernel, by decide +kernel⟩
theorem wk__law_thing {P : Program} {w : World} {K : PySem.W.Frag} {mg : Str → Option Value} {base : Heap} (T : TxB K mg base)  {f : Addr} {cdv : Value} {A : Around} {outer : List Env} {s : Shared} {H : Hp} {E : XK} 
    (hr : Room 0 (A.deeper (envOfC "_law_thing" (defScope s__law_thing) s.heap.objs.size f cdv))) :
    PSs (cxOf (L2N.CX P w) P w K mg base N__law_thing "_law_thing" (defScope s__law_thing) f cdv A outer s H E) (defBody s__law_thing) (t__law_thing K (fun c d _ H2 => E c d H2)) := by
  have hu1 := hu_of hr
  have hu64 := hr.units
  have tk : L2N.Takes (cxOf (L2N.CX P w) P w K mg base N__law_thing "_law_thing" (defScope s__law_thing) f cdv A outer s H E) (fun c d _ H2 => E c d H2) := L2N.takes_of rfl rfl rfl rfl
  exact (pss_one (ps_ret (pe_ifExp (pt_cmpR (op_eqU hu64) (pe_ix ix_seq (pv 0) (pe_int) (fun _ _ => rfl)) (pe_str) (nomark _)) (pe_ix ix_seq (pv 0) (pe_int) (fun _ _ => rfl)) (pe_op op_addU (pe_int) (pe_ix ix_seq (pv 0) (pe_int) (fun _ _ => rfl))))))
theorem fn__law_thing {P : Program} {w : World} {K : PySem.W.Frag} {mg : Str → Option Value} {base : Heap} (T : TxB K mg base) {f : Addr} {fd : FuncData} (F : FunD K d__law_thing.name d__law_thing.qual d__law_thing.params d__law_thing.body d__law_thing.scope (d__law_thing.dvs K) (d__law_thing.kws K) f fd) :
    FnOk P w K mg base (L2N.CX P w) 1 f fd ["_law_piece"] (sp__law_thing K) :=
  F.ok sc__law_thing (fun vs H Q E h => len__law_thing h) (fun cdv A outer s H vs Q E hr h => ⟨t__law_thing K (fun c d _ H2 => E c d H2), wk__law_thing T  hr, rd__law_thing  h⟩)
theorem ok__law_thing_1 {P : Program} {w : World} {K : PySem.W.Frag} {mg : Str → Option Value} {base : Heap} (T : TxB K mg base) : DOkN P w K mg base 1 (He.fAd K ("_law_thing", none)) ["_law_piece"] [] (sp__law_thing K) := by
  obtain ⟨fd, F⟩ := T.d__law_thing
  exact ⟨fd, [], .nil, FunD.bindsN F fun _ _ _ _ _ _ us hl => match us, hl with | [_], _ => rfl, fn__law_thing T F, F.kp⟩
abbrev N_is_between : List Str := ["thing", "least", "most"]
theorem sc_is_between : FnScope N_is_between ["thing", "least", "most"] (defScope s_is_between) := ⟨rfl, rfl, rfl, by decide +kernel, rfl, by decide +kernel, by decide +kernel⟩
theorem wk_is_between {P : Program} {w : World} {K : PySem.W.Frag} {mg : Str → Option Value} {base : Heap} (T : TxB K mg base)  {f : Addr} {cdv : Value} {A : Around} {outer : List Env} {s : Shared} {H : Hp} {E : XK} 
    (hr : Room 0 (A.deeper (envOfC "is_between" (defScope s_is_between) s.heap.objs.size f cdv))) :
    PSs (cxOf (L2N.CX P w) P w K mg base N_is_between "is_between" (defScope s_is_between) f cdv A outer s H E) (defBody s_is_between) (t_is_between K (fun c d _ H2 => E c d H2)) := by
  have hu1 := hu_of hr
  have hu64 := hr.units
  have tk : L2N.Takes (cxOf (L2N.CX P w) P w K mg base N_is_between "is_between" (defScope s_is_between) f cdv A outer s H E) (fun c d _ H2 => E c d H2) := L2N.takes_of rfl rfl rfl rfl
  exact (pss_one (ps_ret ((pe_and (pe_callB call_isi (by rfl) T.f_isinstance bb_isinstance (pa_cons (pv 0) (pa_cons (pe_bty rfl T.f_int bt_int) pa_nil))) (pe_and (pe_not (pe_callB call_isi (by rfl) T.f_isinstance bb_isinstance (pa_cons (pv 0) (pa_cons (pe_bty rfl T.f_bool bt_bool) pa_nil)))) (pe_one (pe_chain op_leU op_leU (pv 1) (pv 0) (pv 2))))))))
theorem fn_is_between {P : Program} {w : World} {K : PySem.W.Frag} {mg : Str → Option Value} {base : Heap} (T : TxB K mg base) {f : Addr} {fd : FuncData} (F : FunD K d_is_between.name d_is_between.qual d_is_between.params d_is_between.body d_is_between.scope (d_is_between.dvs K) (d_is_between.kws K) f fd) :
    FnOk P w K mg base (L2N.CX P w) 1 f fd ["thing", "least", "most"] (sp_is_between K) :=
  F.ok sc_is_between (fun vs H Q E h => len_is_between h) (fun cdv A outer s H vs Q E hr h => ⟨t_is_between K (fun c d _ H2 => E c d H2), wk_is_between T  hr, rd_is_between  h⟩)
theorem ok_is_between_3 {P : Program} {w : World} {K : PySem.W.Frag} {mg : Str → Option Value} {base : Heap} (T : TxB K mg base) : DOkN P w K mg base 1 (He.fAd K ("is_between", none)) ["thing", "least", "most"] [] (sp_is_between K) := by
  obtain ⟨fd, F⟩ := T.d_is_between
  exact ⟨fd, [], .nil, FunD.bindsN F fun _ _ _ _ _ _ us hl => match us, hl with | [_, _, _], _ => rfl, fn_is_between T F, F.kp⟩
abbrev N_need_counts : List Str := ["counts", "most", "count"]
theorem sc_need_counts : FnScope N_need_counts ["counts", "most"] (defScope s_need_counts) := ⟨rfl, rfl, rfl, by decide +kernel, rfl, by decide +kernel, by decide +kernel⟩
theorem wk_need_counts {P : Program} {w : World} {K : PySem.W.Frag} {mg : Str → Option Value} {base : Heap} (T : TxB K mg base) (O0 : DOkN P w K mg base 1 (He.fAd K ("is_between", none)) ["thing", "least", "most"] [] (sp_is_between K)) {f : Addr} {cdv : Value} {A : Around} {outer : List Env} {s : Shared} {H : Hp} {E : XK} 
    (hr : Room 1 (A.deeper (envOfC "need_counts" (defScope s_need_counts) s.heap.objs.size f cdv))) :
    PSs (cxOf (L2N.CX P w) P w K mg base N_need_counts "need_counts" (defScope s_need_counts) f cdv A outer s H E) (defBody s_need_counts) (t_need_counts K (fun c d _ H2 => E c d H2)) := by
  obtain ⟨fd0, ds0, v0, b0, G0, q0⟩ := O0
  have hu1 := hu_of hr
  have hu64 := hr.units
  have tk : L2N.Takes (cxOf (L2N.CX P w) P w K mg base N_need_counts "need_counts" (defScope s_need_counts) f cdv A outer s H E) (fun c d _ H2 => E c d H2) := L2N.takes_of rfl rfl rfl rfl
  exact (pss_cons (ps_if (PW.pt (pw_or (pt_not (pt_val (pe_callB call_isi (by rfl) T.f_isinstance bb_isinstance (pa_cons (pv 0) (pa_cons (pe_bty rfl T.f_list bt_list) pa_nil))))) (pw_or1 (pt_not (pt_chain op_leU op_leU (pe_int) (pe_callB cr_lenK (by rfl) T.f_len bb_len (pa_cons (pv 0) pa_nil)) (pe_gint rfl T.g_MOST_THINGS)))))) (pss_one (ps_rzN rfl tk T.x_BadShares T.g_BadShares rfl)) pss_nil)
    (pss_cons (ps_for (passes_of rfl) rfl (pi_list (pv 0)) (pg_name (i := 2) sc_need_counts.nd rfl (Or.inl rfl)) (pss_one (ps_if (pt_not (pt_val (pe_clN G0 (hr.mono (by decide)) rfl T.g_is_between q0 b0 v0 tk (pa_cons (pv 2) (pa_cons (pe_int) (pa_cons (pe_gint rfl T.g_MOST_COUNT) pa_nil)))))) (pss_one (ps_rzN rfl tk T.x_BadShares T.g_BadShares rfl)) pss_nil)))
    (pss_cons (ps_if (pt_not (pt_val (pe_clN G0 (hr.mono (by decide)) rfl T.g_is_between q0 b0 v0 tk (pa_cons (pv 1) (pa_cons (pe_int) (pa_cons (pe_gint rfl T.g_MOST_LENGTH_shares) pa_nil)))))) (pss_one (ps_rzN rfl tk T.x_BadShares T.g_BadShares rfl)) pss_nil)
    (pss_one (ps_if (pt_not (pt_chain op_leU op_leU (pe_int) (pe_callB cr_lenK (by rfl) T.f_len bb_len (pa_cons (pe_lc (own := [("count", 2)]) rfl sc_need_counts.nd (pi_list (pv 0)) (blkOk_by (own := [("count", 2)]) (N := N_need_counts) (sc := defScope s_need_counts) (by decide +kernel)) (fun _ _ _ _ _ => (pg_name (i := 2) sc_need_counts.nd rfl (Or.inl rfl))) (fun _ _ _ _ _ => pts_one (pt_cmpR op_gtU (pv 2) (pe_int) (nomark _))) (fun _ _ _ _ _ => (pv 2))) pa_nil)) (pe_op op_shlU (pe_int) (pv 1)))) (pss_one (ps_rzN rfl tk T.x_BadShares T.g_BadShares rfl)) pss_nil)))))
theorem fn_need_counts {P : Program} {w : World} {K : PySem.W.Frag} {mg : Str → Option Value} {base : Heap} (T : TxB K mg base) {f : Addr} {fd : FuncData} (F : FunD K d_need_counts.name d_need_counts.qual d_need_counts.params d_need_counts.body d_need_counts.scope (d_need_counts.dvs K) (d_need_counts.kws K) f fd) :
    FnOk P w K mg base (L2N.CX P w) 2 f fd ["counts", "most"] (sp_need_counts K) :=
  F.ok sc_need_counts (fun vs H Q E h => len_need_counts h) (fun cdv A outer s H vs Q E hr h => ⟨t_need_counts K (fun c d _ H2 => E c d H2), wk_need_counts T (ok_is_between_3 T) hr, rd_need_counts  h⟩)
theorem ok_need_counts_2 {P : Program} {w : World} {K : PySem.W.Frag} {mg : Str → Option Value} {base : Heap} (T : TxB K mg base) : DOkN P w K mg base 2 (He.fAd K ("need_counts", none)) ["counts", "most"] [] (sp_need_counts K) := by
  obtain ⟨fd, F⟩ := T.d_need_counts
  exact ⟨fd, [], .nil, FunD.bindsN F fun _ _ _ _ _ _ us hl => match us, hl with | [_, _], _ => rfl, fn_need_counts T F, F.kp⟩
abbrev N_by_twos : List Str := ["row", "found", "at"]
theorem sc_by_twos : FnScope N_by_twos ["row"] (defScope s_by_twos) := ⟨rfl, rfl, rfl, by decide +kernel, rfl, by decide +kernel, by decide +kernel⟩
theorem wk_by_twos {P : Program} {w : World} {K : PySem.W.Frag} {mg : Str → Option Value} {base : Heap} (T : TxB K mg base)  {f : Addr} {cdv : Value} {A : Around} {outer : List Env} {s : Shared} {H : Hp} {E : XK} 
    (hr : Room 0 (A.deeper (envOfC "by_twos" (defScope s_by_twos) s.heap.objs.size f cdv))) :
    PSs (cxOf (L2N.CX P w) P w K mg base N_by_twos "by_twos" (defScope s_by_twos) f cdv A outer s H E) (defBody s_by_twos) (t_by_twos K (fun c d _ H2 => E c d H2)) := by
  have hu1 := hu_of hr
  have hu64 := hr.units
  have tk : L2N.Takes (cxOf (L2N.CX P w) P w K mg base N_by_twos "by_twos" (defScope s_by_twos) f cdv A outer s H E) (fun c d _ H2 => E c d H2) := L2N.takes_of rfl rfl rfl rfl
  exact (pss_cons (ps_set (i := 1) sc_by_twos.nd rfl (Or.inl rfl) (pe_lst pa_nil))
    (pss_cons (ps_for (passes_of rfl) rfl (pi_range3 rfl T.f_range (pa_cons (pe_int) (pa_cons (pe_op op_subU (pe_callB cr_lenK (by rfl) T.f_len bb_len (pa_cons (pv 0) pa_nil)) (pe_int)) (pa_cons (pe_int) pa_nil)))) (pg_name (i := 2) sc_by_twos.nd rfl (Or.inl rfl)) (pss_one (ps_expr (pe_bm PySem.F.plainAttrs_list PySem.F.slot_list_append PySem.F.type_list_append mt_append (pv 1) (pa_cons (pe_tup (pa_cons (pe_op op_addU (pe_ix ix_seq (pe_ix ix_seq (pv 0) (pv 2) (fun _ _ => rfl)) (pe_int) (fun _ _ => rfl)) (pe_ix ix_seq (pe_ix ix_seq (pv 0) (pe_op op_addU (pv 2) (pe_int)) (fun _ _ => rfl)) (pe_int) (fun _ _ => rfl))) (pa_cons (pe_op op_addU (pe_ix ix_seq (pe_ix ix_seq (pv 0) (pv 2) (fun _ _ => rfl)) (pe_int) (fun _ _ => rfl)) (pe_ix ix_seq (pe_ix ix_seq (pv 0) (pe_op op_addU (pv 2) (pe_int)) (fun _ _ => rfl)) (pe_int) (fun _ _ => rfl))) pa_nil))) pa_nil)))))
    (pss_one (ps_ret (pv 1)))))
theorem fn_by_twos {P : Program} {w : World} {K : PySem.W.Frag} {mg : Str → Option Value} {base : Heap} (T : TxB K mg base) {f : Addr} {fd : FuncData} (F : FunD K d_by_twos.name d_by_twos.qual d_by_twos.params d_by_twos.body d_by_twos.scope (d_by_twos.dvs K) (d_by_twos.kws K) f fd) :
    FnOk P w K mg base (L2N.CX P w) 1 f fd ["row"] (sp_by_twos K) :=
  F.ok sc_by_twos (fun vs H Q E h => len_by_twos h) (fun cdv A outer s H vs Q E hr h => ⟨t_by_twos K (fun c d _ H2 => E c d H2), wk_by_twos T  hr, rd_by_twos  h⟩)
theorem ok_by_twos_1 {P : Program} {w : World} {K : PySem.W.Frag} {mg : Str → Option Value} {base : Heap} (T : TxB K mg base) : DOkN P w K mg base 1 (He.fAd K ("by_twos", none)) ["row"] [] (sp_by_twos K) := by
  obtain ⟨fd, F⟩ := T.d_by_twos
  exact ⟨fd, [], .nil, FunD.bindsN F fun _ _ _ _ _ _ us hl => match us, hl with | [_], _ => rfl, fn_by_twos T F, F.kp⟩
abbrev N_lengths_of : List Str := ["counts", "most", "lengths", "place", "singles", "row", "depth", "bundle", "count"]
theorem sc_lengths_of : FnScope N_lengths_of ["counts", "most"] (defScope s_lengths_of) := ⟨rfl, rfl, rfl, by decide +kernel, rfl, by decide +kernel, by decide +kernel⟩
theorem wk_lengths_of {P : Program} {w : World} {K : PySem.W.Frag} {mg : Str → Option Value} {base : Heap} (T : TxB K mg base) (O0 : DOkN P w K mg base 2 (He.fAd K ("need_counts", none)) ["counts", "most"] [] (sp_need_counts K)) (O1 : DOkN P w K mg base 1 (He.fAd K ("by_twos", none)) ["row"] [] (sp_by_twos K)) {f : Addr} {cdv : Value} {A : Around} {outer : List Env} {s : Shared} {H : Hp} {E : XK} 
    (hr : Room 2 (A.deeper (envOfC "lengths_of" (defScope s_lengths_of) s.heap.objs.size f cdv))) :
    PSs (cxOf (L2N.CX P w) P w K mg base N_lengths_of "lengths_of" (defScope s_lengths_of) f cdv A outer s H E) (defBody s_lengths_of) (t_lengths_of K (fun c d _ H2 => E c d H2)) := by
  obtain ⟨fd0, ds0, v0, b0, G0, q0⟩ := O0
  obtain ⟨fd1, ds1, v1, b1, G1, q1⟩ := O1
  have hu1 := hu_of hr
  have hu64 := hr.units
  have tk : L2N.Takes (cxOf (L2N.CX P w) P w K mg base N_lengths_of "lengths_of" (defScope s_lengths_of) f cdv A outer s H E) (fun c d _ H2 => E c d H2) := L2N.takes_of rfl rfl rfl rfl
  exact (pss_cons (ps_expr (pe_clN G0 (hr.mono (by decide)) rfl T.g_need_counts q0 b0 v0 tk (pa_cons (pv 0) (pa_cons (pv 1) pa_nil))))
    (pss_cons (ps_set (i := 2) sc_lengths_of.nd rfl (Or.inl rfl) (pe_op op_mulU (pe_lst (pa_cons (pe_int) pa_nil)) (pe_callB cr_lenK (by rfl) T.f_len bb_len (pa_cons (pv 0) pa_nil))))
    (pss_cons (ps_set (i := 4) sc_lengths_of.nd rfl (Or.inl rfl) (pe_callBK (cr_sortedKF (kf_weight_of T.toTx) (hr.mono (by decide))) rfl T.f_sorted bb_sorted (pa_cons (pe_lc (own := [("place", 3), ("count", 8)]) rfl sc_lengths_of.nd (pi_enum (by rfl) T.f_enumerate (pa_cons (pv 0) pa_nil)) (blkOk_by (own := [("place", 3), ("count", 8)]) (N := N_lengths_of) (sc := defScope s_lengths_of) (by decide +kernel)) (fun _ _ _ _ _ => (pg_tup rfl (pgs_cons (pg_name (i := 3) sc_lengths_of.nd rfl (Or.inl rfl)) (pgs_cons (pg_name (i := 8) sc_lengths_of.nd rfl (Or.inl rfl)) pgs_nil)))) (fun _ _ _ _ _ => pts_one (pt_cmpR op_gtU (pv 8) (pe_int) (nomark _))) (fun _ _ _ _ _ => (pe_tup (pa_cons (pv 8) (pa_cons (pe_lst (pa_cons (pv 3) pa_nil)) pa_nil))))) pa_nil) (pk_cons (pe_gref rfl T.g_weight_of) pk_nil)))
    (pss_cons (ps_if (pt_cmpR (op_eqU hu64) (pe_callB cr_lenK (by rfl) T.f_len bb_len (pa_cons (pv 4) pa_nil)) (pe_int) (nomark _)) (pss_cons (ps_asg (pe_int) (pg_sub (pv 2) (pe_ix ix_seq (pe_ix ix_seq (pe_ix ix_seq (pv 4) (pe_int) (fun _ _ => rfl)) (pe_int) (fun _ _ => rfl)) (pe_int) (fun _ _ => rfl)) set_list))
    (pss_one (ps_ret (pv 2)))) pss_nil)
    (pss_cons (ps_set (i := 5) sc_lengths_of.nd rfl (Or.inl rfl) (pv 4))
    (pss_cons (ps_for (passes_of rfl) rfl (pi_range2 rfl T.f_range (pa_cons (pe_int) (pa_cons (pv 1) pa_nil))) (pg_name (i := 6) sc_lengths_of.nd rfl (Or.inl rfl)) (pss_one (ps_set (i := 5) sc_lengths_of.nd rfl (Or.inl rfl) (pe_callBK (cr_sortedKF (kf_weight_of T.toTx) (hr.mono (by decide))) rfl T.f_sorted bb_sorted (pa_cons (pe_op op_addU (pv 4) (pe_clN G1 (hr.mono (by decide)) rfl T.g_by_twos q1 b1 v1 tk (pa_cons (pv 5) pa_nil))) pa_nil) (pk_cons (pe_gref rfl T.g_weight_of) pk_nil)))))
    (pss_cons (ps_for (passes_of rfl) rfl (pi_list (pe_slice sl_K (pv 5) po_none (po_some (pe_op op_subU (pe_op op_mulU (pe_int) (pe_callB cr_lenK (by rfl) T.f_len bb_len (pa_cons (pv 4) pa_nil))) (pe_int))))) (pg_name (i := 7) sc_lengths_of.nd rfl (Or.inl rfl)) (pss_one (ps_for (passes_of rfl) rfl (pi_list (pe_ix ix_seq (pv 7) (pe_int) (fun _ _ => rfl))) (pg_name (i := 3) sc_lengths_of.nd rfl (Or.inl rfl)) (pss_one (ps_augS (pv 2) (pv 3) getl (pe_int) ip_addU set_list)))))
    (pss_one (ps_ret (pv 2))))))))))
theorem fn_lengths_of {P : Program} {w : World} {K : PySem.W.Frag} {mg : Str → Option Value} {base : Heap} (T : TxB K mg base) {f : Addr} {fd : FuncData} (F : FunD K d_lengths_of.name d_lengths_of.qual d_lengths_of.params d_lengths_of.body d_lengths_of.scope (d_lengths_of.dvs K) (d_lengths_of.kws K) f fd) :
    FnOk P w K mg base (L2N.CX P w) 3 f fd ["counts", "most"] (sp_lengths_of K) :=
  F.ok sc_lengths_of (fun vs H Q E h => len_lengths_of h) (fun cdv A outer s H vs Q E hr h => ⟨t_lengths_of K (fun c d _ H2 => E c d H2), wk_lengths_of T (ok_need_counts_2 T) (ok_by_twos_1 T) hr, rd_lengths_of  h⟩)
theorem ok_lengths_of_1 {P : Program} {w : World} {K : PySem.W.Frag} {mg : Str → Option Value} {base : Heap} (T : TxB K mg base) : DOkN P w K mg base 3 (He.fAd K ("lengths_of", none)) ["counts", "most"] [.int 6] (sp_lengths_of K) := by
  obtain ⟨fd, F⟩ := T.d_lengths_of
  obtain ⟨ds, v, b⟩ := FunD.binds1 (ps := ["counts", "most"]) F 1 0 (by intro z; cases z) (by rfl) fun T kV doc pm an cdv ct us its hl hi => match us, hl, its, hi with | [_], _, [_], _ => ⟨_, rfl, rfl⟩
  exact ⟨fd, ds, v, b, fn_lengths_of T F, F.kp⟩
abbrev N_BitRow___init__ : List Str := ["self"]
theorem sc_BitRow___init__ : FnScope N_BitRow___init__ ["self"] (defScope s_BitRow___init__) := ⟨rfl, rfl, rfl, by decide +kernel, rfl, by decide +kernel, by decide +kernel⟩
theorem wk_BitRow___init__ {P : Program} {w : World} {K : PySem.W.Frag} {mg : Str → Option Value} {base : Heap} (T : TxB K mg base)  {f : Addr} {cdv : Value} {A : Around} {outer : List Env} {s : Shared} {H : Hp} {E : XK} 
    (hr : Room 0 (A.deeper (envOfC "BitRow.__init__" (defScope s_BitRow___init__) s.heap.objs.size f cdv))) :
    PSs (cxOf (L2N.CX P w) P w K mg base N_BitRow___init__ "BitRow.__init__" (defScope s_BitRow___init__) f cdv A outer s H E) (defBody s_BitRow___init__) (t_BitRow___init__ K (fun c d _ H2 => E c d H2)) := by
  have hu1 := hu_of hr
  have hu64 := hr.units
  have tk : L2N.Takes (cxOf (L2N.CX P w) P w K mg base N_BitRow___init__ "BitRow.__init__" (defScope s_BitRow___init__) f cdv A outer s H E) (fun c d _ H2 => E c d H2) := L2N.takes_of rfl rfl rfl rfl
  exact (pss_cons (ps_fld (pv 0) (pe_lst pa_nil) rfl)
    (pss_cons (ps_fld (pv 0) (pe_int) rfl)
    (pss_one (ps_fld (pv 0) (pe_int) rfl))))
theorem fn_BitRow___init__ {P : Program} {w : World} {K : PySem.W.Frag} {mg : Str → Option Value} {base : Heap} (T : TxB K mg base) {f : Addr} {fd : FuncData} (F : FunD K d_BitRow___init__.name d_BitRow___init__.qual d_BitRow___init__.params d_BitRow___init__.body d_BitRow___init__.scope (d_BitRow___init__.dvs K) (d_BitRow___init__.kws K) f fd) :
    FnOk P w K mg base (L2N.CX P w) 1 f fd ["self"] (sp_BitRow___init__ K) :=
  F.ok sc_BitRow___init__ (fun vs H Q E h => len_BitRow___init__ h) (fun cdv A outer s H vs Q E hr h => ⟨t_BitRow___init__ K (fun c d _ H2 => E c d H2), wk_BitRow___init__ T  hr, rd_BitRow___init__ (of_KBitRow T.toTx) h⟩)
theorem ok_BitRow___init___1 {P : Program} {w : World} {K : PySem.W.Frag} {mg : Str → Option Value} {base : Heap} (T : TxB K mg base) : DOkN P w K mg base 1 (He.fAd K ("BitRow", some "__init__")) ["self"] [] (sp_BitRow___init__ K) := by
  obtain ⟨fd, F⟩ := T.d_BitRow___init__
  exact ⟨fd, [], .nil, FunD.bindsN F fun _ _ _ _ _ _ us hl => match us, hl with | [_], _ => rfl, fn_BitRow___init__ T F, F.kp⟩
abbrev N_is_table : List Str := ["thing", "one"]
theorem sc_is_table : FnScope N_is_table ["thing"] (defScope s_is_table) := ⟨rfl, rfl, rfl, by decide +kernel, rfl, by decide +kernel, by decide +kernel⟩
theorem wk_is_table {P : Program} {w : World} {K : PySem.W.Frag} {mg : Str → Option Value} {base : Heap} (T : TxB K mg base)  {f : Addr} {cdv : Value} {A : Around} {outer : List Env} {s : Shared} {H : Hp} {E : XK} 
    (hr : Room 0 (A.deeper (envOfC "is_table" (defScope s_is_table) s.heap.objs.size f cdv))) :
    PSs (cxOf (L2N.CX P w) P w K mg base N_is_table "is_table" (defScope s_is_table) f cdv A outer s H E) (defBody s_is_table) (t_is_table K (fun c d _ H2 => E c d H2)) := by
  have hu1 := hu_of hr
  have hu64 := hr.units
  have tk : L2N.Takes (cxOf (L2N.CX P w) P w K mg base N_is_table "is_table" (defScope s_is_table) f cdv A outer s H E) (fun c d _ H2 => E c d H2) := L2N.takes_of rfl rfl rfl rfl
  exact (pss_cons (ps_if (PW.pt (pw_or (pt_not (pt_val (pe_callB call_isi (by rfl) T.f_isinstance bb_isinstance (pa_cons (pv 0) (pa_cons (pe_bty rfl T.f_list bt_list) pa_nil))))) (pw_or1 (pt_cmpR (op_neU hu64) (pe_callB cr_lenK (by rfl) T.f_len bb_len (pa_cons (pv 0) pa_nil)) (pe_gint rfl T.g_MANY) (nomark _))))) (pss_one (ps_ret (pe_bl))) pss_nil)
    (pss_one (ps_ret (pe_callB (cr_all rfl) (by rfl) T.f_all bb_all (pa_cons (pe_lc (own := [("one", 1)]) rfl sc_is_table.nd (pi_list (pv 0)) (blkOk_by (own := [("one", 1)]) (N := N_is_table) (sc := defScope s_is_table) (by decide +kernel)) (fun _ _ _ _ _ => (pg_name (i := 1) sc_is_table.nd rfl (Or.inl rfl))) (fun _ _ _ _ _ => pts_nil) (fun _ _ _ _ _ => ((pe_and (pe_callB call_isi (by rfl) T.f_isinstance bb_isinstance (pa_cons (pv 1) (pa_cons (pe_bty rfl T.f_int bt_int) pa_nil))) (pe_and (pe_not (pe_callB call_isi (by rfl) T.f_isinstance bb_isinstance (pa_cons (pv 1) (pa_cons (pe_bty rfl T.f_bool bt_bool) pa_nil)))) (pe_one (pe_chain op_leU op_leU (pe_int) (pv 1) (pe_gint rfl T.g_MOST_LENGTH_tables)))))))) pa_nil)))))
theorem fn_is_table {P : Program} {w : World} {K : PySem.W.Frag} {mg : Str → Option Value} {base : Heap} (T : TxB K mg base) {f : Addr} {fd : FuncData} (F : FunD K d_is_table.name d_is_table.qual d_is_table.params d_is_table.body d_is_table.scope (d_is_table.dvs K) (d_is_table.kws K) f fd) :
    FnOk P w K mg base (L2N.CX P w) 1 f fd ["thing"] (sp_is_table K) :=
  F.ok sc_is_table (fun vs H Q E h => len_is_table h) (fun cdv A outer s H vs Q E hr h => ⟨t_is_table K (fun c d _ H2 => E c d H2), wk_is_table T  hr, rd_is_table  h⟩)
theorem ok_is_table_1 {P : Program} {w : World} {K : PySem.W.Frag} {mg : Str → Option Value} {base : Heap} (T : TxB K mg base) : DOkN P w K mg base 1 (He.fAd K ("is_table", none)) ["thing"] [] (sp_is_table K) := by
  obtain ⟨fd, F⟩ := T.d_is_table
  exact ⟨fd, [], .nil, FunD.bindsN F fun _ _ _ _ _ _ us hl => match us, hl with | [_], _ => rfl, fn_is_table T F, F.kp⟩
abbrev N_alike_from : List Str := ["lengths", "place", "length", "found"]
theorem sc_alike_from : FnScope N_alike_from ["lengths", "place", "length"] (defScope s_alike_from) := ⟨rfl, rfl, rfl, by decide +kernel, rfl, by decide +kernel, by decide +kernel⟩
theorem wk_alike_from {P : Program} {w : World} {K : PySem.W.Frag} {mg : Str → Option Value} {base : Heap} (T : TxB K mg base)  {f : Addr} {cdv : Value} {A : Around} {outer : List Env} {s : Shared} {H : Hp} {E : XK} 
    (hr : Room 0 (A.deeper (envOfC "alike_from" (defScope s_alike_from) s.heap.objs.size f cdv))) :
    PSs (cxOf (L2N.CX P w) P w K mg base N_alike_from "alike_from" (defScope s_alike_from) f cdv A outer s H E) (defBody s_alike_from) (t_alike_from K (fun c d _ H2 => E c d H2)) := by
  have hu1 := hu_of hr
  have hu64 := hr.units
  have tk : L2N.Takes (cxOf (L2N.CX P w) P w K mg base N_alike_from "alike_from" (defScope s_alike_from) f cdv A outer s H E) (fun c d _ H2 => E c d H2) := L2N.takes_of rfl rfl rfl rfl
  exact (pss_cons (ps_set (i := 3) sc_alike_from.nd rfl (Or.inl rfl) (pe_int))
    (pss_cons (ps_while (passes_of rfl) (PW.pt (pw_and (pt_cmpR op_ltU (pv 3) (pe_gint rfl T.g_MOST_MORE) (nomark _)) (pw_and (pt_cmpR op_ltU (pe_op op_addU (pv 1) (pv 3)) (pe_gint rfl T.g_MANY) (nomark _)) (pw_and1 (pt_cmpR (op_eqU hu64) (pe_ix ix_seq (pv 0) (pe_op op_addU (pv 1) (pv 3)) (fun _ _ => rfl)) (pv 2) (nomark _)))))) (pss_one (ps_aug (i := 3) sc_alike_from.nd rfl (Or.inl rfl) (pe_int) ip_addU)))
    (pss_one (ps_ret (pv 3)))))
theorem fn_alike_from {P : Program} {w : World} {K : PySem.W.Frag} {mg : Str → Option Value} {base : Heap} (T : TxB K mg base) {f : Addr} {fd : FuncData} (F : FunD K d_alike_from.name d_alike_from.qual d_alike_from.params d_alike_from.body d_alike_from.scope (d_alike_from.dvs K) (d_alike_from.kws K) f fd) :
    FnOk P w K mg base (L2N.CX P w) 1 f fd ["lengths", "place", "length"] (sp_alike_from K) :=
  F.ok sc_alike_from (fun vs H Q E h => len_alike_from h) (fun cdv A outer s H vs Q E hr h => ⟨t_alike_from K (fun c d _ H2 => E c d H2), wk_alike_from T  hr, rd_alike_from  h⟩)
theorem ok_alike_from_3 {P : Program} {w : World} {K : PySem.W.Frag} {mg : Str → Option Value} {base : Heap} (T : TxB K mg base) : DOkN P w K mg base 1 (He.fAd K ("alike_from", none)) ["lengths", "place", "length"] [] (sp_alike_from K) := by
  obtain ⟨fd, F⟩ := T.d_alike_from
  exact ⟨fd, [], .nil, FunD.bindsN F fun _ _ _ _ _ _ us hl => match us, hl with | [_, _, _], _ => rfl, fn_alike_from T F, F.kp⟩
abbrev N_is_number : List Str := ["thing"]
theorem sc_is_number : FnScope N_is_number ["thing"] (defScope s_is_number) := ⟨rfl, rfl, rfl, by decide +kernel, rfl, by decide +kernel, by decide +kernel⟩
theorem wk_is_number {P : Program} {w : World} {K : PySem.W.Frag} {mg : Str → Option Value} {base : Heap} (T : TxB K mg base)  {f : Addr} {cdv : Value} {A : Around} {outer : List Env} {s : Shared} {H : Hp} {E : XK} 
    (hr : Room 0 (A.deeper (envOfC "is_number" (defScope s_is_number) s.heap.objs.size f cdv))) :
    PSs (cxOf (L2N.CX P w) P w K mg base N_is_number "is_number" (defScope s_is_number) f cdv A outer s H E) (defBody s_is_number) (t_is_number K (fun c d _ H2 => E c d H2)) := by
  have hu1 := hu_of hr
  have hu64 := hr.units
  have tk : L2N.Takes (cxOf (L2N.CX P w) P w K mg base N_is_number "is_number" (defScope s_is_number) f cdv A outer s H E) (fun c d _ H2 => E c d H2) := L2N.takes_of rfl rfl rfl rfl
  exact (pss_one (ps_ret ((pe_and (pe_callB call_isi (by rfl) T.f_isinstance bb_isinstance (pa_cons (pv 0) (pa_cons (pe_bty rfl T.f_int bt_int) pa_nil))) (pe_one (pe_not (pe_callB call_isi (by rfl) T.f_isinstance bb_isinstance (pa_cons (pv 0) (pa_cons (pe_bty rfl T.f_bool bt_bool) pa_nil)))))))))
theorem fn_is_number {P : Program} {w : World} {K : PySem.W.Frag} {mg : Str → Option Value} {base : Heap} (T : TxB K mg base) {f : Addr} {fd : FuncData} (F : FunD K d_is_number.name d_is_number.qual d_is_number.params d_is_number.body d_is_number.scope (d_is_number.dvs K) (d_is_number.kws K) f fd) :
    FnOk P w K mg base (L2N.CX P w) 1 f fd ["thing"] (sp_is_number K) :=
  F.ok sc_is_number (fun vs H Q E h => len_is_number h) (fun cdv A outer s H vs Q E hr h => ⟨t_is_number K (fun c d _ H2 => E c d H2), wk_is_number T  hr, rd_is_number  h⟩)
theorem ok_is_number_1 {P : Program} {w : World} {K : PySem.W.Frag} {mg : Str → Option Value} {base : Heap} (T : TxB K mg base) : DOkN P w K mg base 1 (He.fAd K ("is_number", none)) ["thing"] [] (sp_is_number K) := by
  obtain ⟨fd, F⟩ := T.d_is_number
  exact ⟨fd, [], .nil, FunD.bindsN F fun _ _ _ _ _ _ us hl => match us, hl with | [_], _ => rfl, fn_is_number T F, F.kp⟩
abbrev N_need_size : List Str := ["size"]
theorem sc_need_size : FnScope N_need_size ["size"] (defScope s_need_size) := ⟨rfl, rfl, rfl, by decide +kernel, rfl, by decide +kernel, by decide +kernel⟩
theorem wk_need_size {P : Program} {w : World} {K : PySem.W.Frag} {mg : Str → Option Value} {base : Heap} (T : TxB K mg base) (O0 : DOkN P w K mg base 1 (He.fAd K ("is_number", none)) ["thing"] [] (sp_is_number K)) {f : Addr} {cdv : Value} {A : Around} {outer : List Env} {s : Shared} {H : Hp} {E : XK} 
    (hr : Room 1 (A.deeper (envOfC "need_size" (defScope s_need_size) s.heap.objs.size f cdv))) :
    PSs (cxOf (L2N.CX P w) P w K mg base N_need_size "need_size" (defScope s_need_size) f cdv A outer s H E) (defBody s_need_size) (t_need_size K (fun c d _ H2 => E c d H2)) := by
  obtain ⟨fd0, ds0, v0, b0, G0, q0⟩ := O0
  have hu1 := hu_of hr
  have hu64 := hr.units
  have tk : L2N.Takes (cxOf (L2N.CX P w) P w K mg base N_need_size "need_size" (defScope s_need_size) f cdv A outer s H E) (fun c d _ H2 => E c d H2) := L2N.takes_of rfl rfl rfl rfl
  exact (pss_one (ps_if (PW.pt (pw_or (pt_not (pt_val (pe_clN G0 (hr.mono (by decide)) rfl T.g_is_number q0 b0 v0 tk (pa_cons (pv 0) pa_nil)))) (pw_or1 (pt_not (pt_chain op_leU op_leU (pe_int) (pv 0) (pe_gint rfl T.g_MOST_SIZE_bits)))))) (pss_one (ps_rzN rfl tk T.x_BadBits T.g_BadBits rfl)) pss_nil))
theorem fn_need_size {P : Program} {w : World} {K : PySem.W.Frag} {mg : Str → Option Value} {base : Heap} (T : TxB K mg base) {f : Addr} {fd : FuncData} (F : FunD K d_need_size.name d_need_size.qual d_need_size.params d_need_size.body d_need_size.scope (d_need_size.dvs K) (d_need_size.kws K) f fd) :
    FnOk P w K mg base (L2N.CX P w) 2 f fd ["size"] (sp_need_size K) :=
  F.ok sc_need_size (fun vs H Q E h => len_need_size h) (fun cdv A outer s H vs Q E hr h => ⟨t_need_size K (fun c d _ H2 => E c d H2), wk_need_size T (ok_is_number_1 T) hr, rd_need_size  h⟩)
theorem ok_need_size_1 {P : Program} {w : World} {K : PySem.W.Frag} {mg : Str → Option Value} {base : Heap} (T : TxB K mg base) : DOkN P w K mg base 2 (He.fAd K ("need_size", none)) ["size"] [] (sp_need_size K) := by
  obtain ⟨fd, F⟩ := T.d_need_size
  exact ⟨fd, [], .nil, FunD.bindsN F fun _ _ _ _ _ _ us hl => match us, hl with | [_], _ => rfl, fn_need_size T F, F.kp⟩
abbrev N_BitRow_put : List Str := ["self", "number", "size"]
theorem sc_BitRow_put : FnScope N_BitRow_put ["self", "number", "size"] (defScope s_BitRow_put) := ⟨rfl, rfl, rfl, by decide +kernel, rfl, by decide +kernel, by decide +kernel⟩
theorem wk_BitRow_put {P : Program} {w : World} {K : PySem.W.Frag} {mg : Str → Option Value} {base : Heap} (T : TxB K mg base) (O0 : DOkN P w K mg base 2 (He.fAd K ("need_size", none)) ["size"] [] (sp_need_size K)) (O1 : DOkN P w K mg base 1 (He.fAd K ("is_number", none)) ["thing"] [] (sp_is_number K)) {f : Addr} {cdv : Value} {A : Around} {outer : List Env} {s : Shared} {H : Hp} {E : XK} 
    (hr : Room 2 (A.deeper (envOfC "BitRow.put" (defScope s_BitRow_put) s.heap.objs.size f cdv))) :
    PSs (cxOf (L2N.CX P w) P w K mg base N_BitRow_put "BitRow.put" (defScope s_BitRow_put) f cdv A outer s H E) (defBody s_BitRow_put) (t_BitRow_put K (fun c d _ H2 => E c d H2)) := by
  obtain ⟨fd0, ds0, v0, b0, G0, q0⟩ := O0
  obtain ⟨fd1, ds1, v1, b1, G1, q1⟩ := O1
  have hu1 := hu_of hr
  have hu64 := hr.units
  have tk : L2N.Takes (cxOf (L2N.CX P w) P w K mg base N_BitRow_put "BitRow.put" (defScope s_BitRow_put) f cdv A outer s H E) (fun c d _ H2 => E c d H2) := L2N.takes_of rfl rfl rfl rfl
  exact (pss_cons (ps_expr (pe_clN G0 (hr.mono (by decide)) rfl T.g_need_size q0 b0 v0 tk (pa_cons (pv 2) pa_nil)))
    (pss_cons (ps_if (PW.pt (pw_or (pt_not (pt_val (pe_clN G1 (hr.mono (by decide)) rfl T.g_is_number q1 b1 v1 tk (pa_cons (pv 1) pa_nil)))) (pw_or (pt_cmpR op_ltU (pv 1) (pe_int) (nomark _)) (pw_or1 (pt_cmpR op_gtU (pe_op op_shrU (pv 1) (pv 2)) (pe_int) (nomark _)))))) (pss_one (ps_rzN rfl tk T.x_BadBits T.g_BadBits rfl)) pss_nil)
    (pss_cons (ps_fld (pv 0) (pe_op op_orU (pe_op op_shlU (pe_fld (pv 0) rfl) (pv 2)) (pv 1)) rfl)
    (pss_cons (ps_fldaug (pv 0) (pv 2) in_add)
    (pss_one (ps_while (passes_of rfl) (pt_cmpR op_geU (pe_fld (pv 0) rfl) (pe_gint rfl T.g_BYTE) (nomark _)) (pss_cons (ps_fldaug (pv 0) (pe_gint rfl T.g_BYTE) in_sub)
    (pss_cons (ps_expr (pe_bm PySem.F.plainAttrs_list PySem.F.slot_list_append PySem.F.type_list_append mt_append (pe_fld (pv 0) rfl) (pa_cons (pe_op op_shrU (pe_fld (pv 0) rfl) (pe_fld (pv 0) rfl)) pa_nil)))
    (pss_one (ps_fld (pv 0) (pe_op op_andU (pe_fld (pv 0) rfl) (pe_op op_subU (pe_op op_shlU (pe_int) (pe_fld (pv 0) rfl)) (pe_int))) rfl))))))))))
theorem fn_BitRow_put {P : Program} {w : World} {K : PySem.W.Frag} {mg : Str → Option Value} {base : Heap} (T : TxB K mg base) {f : Addr} {fd : FuncData} (F : FunD K d_BitRow_put.name d_BitRow_put.qual d_BitRow_put.params d_BitRow_put.body d_BitRow_put.scope (d_BitRow_put.dvs K) (d_BitRow_put.kws K) f fd) :
    FnOk P w K mg base (L2N.CX P w) 3 f fd ["self", "number", "size"] (sp_BitRow_put K) :=
  F.ok sc_BitRow_put (fun vs H Q E h => len_BitRow_put h) (fun cdv A outer s H vs Q E hr h => ⟨t_BitRow_put K (fun c d _ H2 => E c d H2), wk_BitRow_put T (ok_need_size_1 T) (ok_is_number_1 T) hr, rd_BitRow_put (of_KBitRow T.toTx) h⟩)
theorem ok_BitRow_put_3 {P : Program} {w : World} {K : PySem.W.Frag} {mg : Str → Option Value} {base : Heap} (T : TxB K mg base) : DOkN P w K mg base 3 (He.fAd K ("BitRow", some "put")) ["self", "number", "size"] [] (sp_BitRow_put K) := by
  obtain ⟨fd, F⟩ := T.d_BitRow_put
  exact ⟨fd, [], .nil, FunD.bindsN F fun _ _ _ _ _ _ us hl => match us, hl with | [_, _, _], _ => rfl, fn_BitRow_put T F, F.kp⟩
abbrev N_put_table : List Str := ["bits", "lengths", "last", "place", "more"]
theorem sc_put_table : FnScope N_put_table ["bits", "lengths"] (defScope s_put_table) := ⟨rfl, rfl, rfl, by decide +kernel, rfl, by decide +kernel, by decide +kernel⟩
theorem wk_put_table {P : Program} {w : World} {K : PySem.W.Frag} {mg : Str → Option Value} {base : Heap} (T : TxB K mg base) (O0 : DOkN P w K mg base 1 (He.fAd K ("is_table", none)) ["thing"] [] (sp_is_table K)) (O1 : DOkN P w K mg base 1 (He.fAd K ("alike_from", none)) ["lengths", "place", "length"] [] (sp_alike_from K)) (O2 : DOkN P w K mg base 3 (He.fAd K ("BitRow", some "put")) ["self", "number", "size"] [] (sp_BitRow_put K)) {f : Addr} {cdv : Value} {A : Around} {outer : List Env} {s : Shared} {H : Hp} {E : XK} 
    (hr : Room 3 (A.deeper (envOfC "put_table" (defScope s_put_table) s.heap.objs.size f cdv))) :
    PSs (cxOf (L2N.CX P w) P w K mg base N_put_table "put_table" (defScope s_put_table) f cdv A outer s H E) (defBody s_put_table) (t_put_table K (fun c d _ H2 => E c d H2)) := by
  obtain ⟨fd0, ds0, v0, b0, G0, q0⟩ := O0
  obtain ⟨fd1, ds1, v1, b1, G1, q1⟩ := O1
  obtain ⟨fd2, ds2, v2, b2, G2, q2⟩ := O2
  have hu1 := hu_of hr
  have hu64 := hr.units
  have tk : L2N.Takes (cxOf (L2N.CX P w) P w K mg base N_put_table "put_table" (defScope s_put_table) f cdv A outer s H E) (fun c d _ H2 => E c d H2) := L2N.takes_of rfl rfl rfl rfl
  exact (pss_cons (ps_if (pt_not (pt_val (pe_clN G0 (hr.mono (by decide)) rfl T.g_is_table q0 b0 v0 tk (pa_cons (pv 1) pa_nil)))) (pss_one (ps_rzN rfl tk T.x_BadTable T.g_BadTable rfl)) pss_nil)
    (pss_cons (ps_set (i := 2) sc_put_table.nd rfl (Or.inl rfl) (pe_int))
    (pss_cons (ps_set (i := 3) sc_put_table.nd rfl (Or.inl rfl) (pe_int))
    (pss_one (ps_while (passes_of rfl) (pt_cmpR op_ltU (pv 3) (pe_gint rfl T.g_MANY) (nomark _)) (pss_cons (ps_set (i := 4) sc_put_table.nd rfl (Or.inl rfl) (pe_clN G1 (hr.mono (by decide)) rfl T.g_alike_from q1 b1 v1 tk (pa_cons (pv 1) (pa_cons (pv 3) (pa_cons (pv 2) pa_nil)))))
    (pss_cons (ps_if (pt_cmpR op_geU (pv 4) (pe_gint rfl T.g_LEAST_MORE) (nomark _)) (pss_cons (ps_expr (pe_mtN (pv 0) T.c_BitRow T.m_BitRow_put G2 (hr.mono (by decide)) b2 v2 tk (pa_cons (pe_gint rfl T.g_MORE_MARK) (pa_cons (pe_gint rfl T.g_LENGTH_BITS) pa_nil))))
    (pss_cons (ps_expr (pe_mtN (pv 0) T.c_BitRow T.m_BitRow_put G2 (hr.mono (by decide)) b2 v2 tk (pa_cons (pe_op op_subU (pv 4) (pe_gint rfl T.g_LEAST_MORE)) (pa_cons (pe_gint rfl T.g_MORE_BITS) pa_nil))))
    (pss_cons (ps_aug (i := 3) sc_put_table.nd rfl (Or.inl rfl) (pv 4) ip_addU)
    (pss_one (ps_continue))))) pss_nil)
    (pss_cons (ps_set (i := 2) sc_put_table.nd rfl (Or.inl rfl) (pe_ix ix_seq (pv 1) (pv 3) (fun _ _ => rfl)))
    (pss_cons (ps_expr (pe_mtN (pv 0) T.c_BitRow T.m_BitRow_put G2 (hr.mono (by decide)) b2 v2 tk (pa_cons (pv 2) (pa_cons (pe_gint rfl T.g_LENGTH_BITS) pa_nil))))
    (pss_one (ps_aug (i := 3) sc_put_table.nd rfl (Or.inl rfl) (pe_int) ip_addU)))))))))))
theorem fn_put_table {P : Program} {w : World} {K : PySem.W.Frag} {mg : Str → Option Value} {base : Heap} (T : TxB K mg base) {f : Addr} {fd : FuncData} (F : FunD K d_put_table.name d_put_table.qual d_put_table.params d_put_table.body d_put_table.scope (d_put_table.dvs K) (d_put_table.kws K) f fd) :
    FnOk P w K mg base (L2N.CX P w) 4 f fd ["bits", "lengths"] (sp_put_table K) :=
  F.ok sc_put_table (fun vs H Q E h => len_put_table h) (fun cdv A outer s H vs Q E hr h => ⟨t_put_table K (fun c d _ H2 => E c d H2), wk_put_table T (ok_is_table_1 T) (ok_alike_from_3 T) (ok_BitRow_put_3 T) hr, rd_put_table  h⟩)
theorem ok_put_table_2 {P : Program} {w : World} {K : PySem.W.Frag} {mg : Str → Option Value} {base : Heap} (T : TxB K mg base) : DOkN P w K mg base 4 (He.fAd K ("put_table", none)) ["bits", "lengths"] [] (sp_put_table K) := by
  obtain ⟨fd, F⟩ := T.d_put_table
  exact ⟨fd, [], .nil, FunD.bindsN F fun _ _ _ _ _ _ us hl => match us, hl with | [_, _], _ => rfl, fn_put_table T F, F.kp⟩
abbrev N__law_digits : List Str := ["_law_parts_here", "_law_found", "_law_number", "_law_size", "_law_k"]
theorem sc__law_digits : FnScope N__law_digits ["_law_parts_here"] (defScope s__law_digits) := ⟨rfl, rfl, rfl, by decide +kernel, rfl, by decide +kernel, by decide +kernel⟩
theorem wk__law_digits {P : Program} {w : World} {K : PySem.W.Frag} {mg : Str → Option Value} {base : Heap} (T : TxB K mg base)  {f : Addr} {cdv : Value} {A : Around} {outer : List Env} {s : Shared} {H : Hp} {E : XK} 
    (hr : Room 0 (A.deeper (envOfC "_law_digits" (defScope s__law_digits) s.heap.objs.size f cdv))) :
    PSs (cxOf (L2N.CX P w) P w K mg base N__law_digits "_law_digits" (defScope s__law_digits) f cdv A outer s H E) (defBody s__law_digits) (t__law_digits K (fun c d _ H2 => E c d H2)) := by
  have hu1 := hu_of hr
  have hu64 := hr.units
  have tk : L2N.Takes (cxOf (L2N.CX P w) P w K mg base N__law_digits "_law_digits" (defScope s__law_digits) f cdv A outer s H E) (fun c d _ H2 => E c d H2) := L2N.takes_of rfl rfl rfl rfl
  exact (pss_cons (ps_set (i := 1) sc__law_digits.nd rfl (Or.inl rfl) (pe_str))
    (pss_cons (ps_for (passes_of rfl) rfl (pi_list (pv 0)) (pg_tup rfl (pgs_cons (pg_name (i := 2) sc__law_digits.nd rfl (Or.inl rfl)) (pgs_cons (pg_name (i := 3) sc__law_digits.nd rfl (Or.inl rfl)) pgs_nil))) (pss_one (ps_for (passes_of rfl) rfl (pi_range1 rfl T.f_range (pa_cons (pv 3) pa_nil)) (pg_name (i := 4) sc__law_digits.nd rfl (Or.inl rfl)) (pss_one (ps_set (i := 1) sc__law_digits.nd rfl (Or.inl rfl) (pe_op op_addU (pv 1) (pe_ix ix_seq (pe_str) (pe_op op_modU (pe_op op_divU (pv 2) (pe_op op_shlU (pe_int) (pe_op op_subU (pe_op op_subU (pv 3) (pe_int)) (pv 4)))) (pe_int)) (fun _ _ => rfl))))))))
    (pss_one (ps_ret (pv 1)))))
theorem fn__law_digits {P : Program} {w : World} {K : PySem.W.Frag} {mg : Str → Option Value} {base : Heap} (T : TxB K mg base) {f : Addr} {fd : FuncData} (F : FunD K d__law_digits.name d__law_digits.qual d__law_digits.params d__law_digits.body d__law_digits.scope (d__law_digits.dvs K) (d__law_digits.kws K) f fd) :
    FnOk P w K mg base (L2N.CX P w) 1 f fd ["_law_parts_here"] (sp__law_digits K) :=
  F.ok sc__law_digits (fun vs H Q E h => len__law_digits h) (fun cdv A outer s H vs Q E hr h => ⟨t__law_digits K (fun c d _ H2 => E c d H2), wk__law_digits T  hr, rd__law_digits  h⟩)
theorem ok__law_digits_1 {P : Program} {w : World} {K : PySem.W.Frag} {mg : Str → Option Value} {base : Heap} (T : TxB K mg base) : DOkN P w K mg base 1 (He.fAd K ("_law_digits", none)) ["_law_parts_here"] [] (sp__law_digits K) := by
  obtain ⟨fd, F⟩ := T.d__law_digits
  exact ⟨fd, [], .nil, FunD.bindsN F fun _ _ _ _ _ _ us hl => match us, hl with | [_], _ => rfl, fn__law_digits T F, F.kp⟩
abbrev N_BitRow_row : List Str := ["self"]
theorem sc_BitRow_row : FnScope N_BitRow_row ["self"] (defScope s_BitRow_row) := ⟨rfl, rfl, rfl, by decide +kernel, rfl, by decide +kernel, by decide +kernel⟩
theorem wk_BitRow_row {P : Program} {w : World} {K : PySem.W.Frag} {mg : Str → Option Value} {base : Heap} (T : TxB K mg base)  {f : Addr} {cdv : Value} {A : Around} {outer : List Env} {s : Shared} {H : Hp} {E : XK} 
    (hr : Room 0 (A.deeper (envOfC "BitRow.row" (defScope s_BitRow_row) s.heap.objs.size f cdv))) :
    PSs (cxOf (L2N.CX P w) P w K mg base N_BitRow_row "BitRow.row" (defScope s_BitRow_row) f cdv A outer s H E) (defBody s_BitRow_row) (t_BitRow_row K (fun c d _ H2 => E c d H2)) := by
  have hu1 := hu_of hr
  have hu64 := hr.units
  have tk : L2N.Takes (cxOf (L2N.CX P w) P w K mg base N_BitRow_row "BitRow.row" (defScope s_BitRow_row) f cdv A outer s H E) (fun c d _ H2 => E c d H2) := L2N.takes_of rfl rfl rfl rfl
  exact (pss_cons (ps_if (pt_cmpR (op_eqU hu64) (pe_fld (pv 0) rfl) (pe_int) (nomark _)) (pss_one (ps_ret (pe_callTy cr_listK (by rfl) T.f_list bt_list (pa_cons (pe_fld (pv 0) rfl) pa_nil)))) pss_nil)
    (pss_one (ps_ret (pe_op op_addU (pe_fld (pv 0) rfl) (pe_lst (pa_cons (pe_op op_shlU (pe_fld (pv 0) rfl) (pe_op op_subU (pe_gint rfl T.g_BYTE) (pe_fld (pv 0) rfl))) pa_nil))))))
theorem fn_BitRow_row {P : Program} {w : World} {K : PySem.W.Frag} {mg : Str → Option Value} {base : Heap} (T : TxB K mg base) {f : Addr} {fd : FuncData} (F : FunD K d_BitRow_row.name d_BitRow_row.qual d_BitRow_row.params d_BitRow_row.body d_BitRow_row.scope (d_BitRow_row.dvs K) (d_BitRow_row.kws K) f fd) :
    FnOk P w K mg base (L2N.CX P w) 1 f fd ["self"] (sp_BitRow_row K) :=
  F.ok sc_BitRow_row (fun vs H Q E h => len_BitRow_row h) (fun cdv A outer s H vs Q E hr h => ⟨t_BitRow_row K (fun c d _ H2 => E c d H2), wk_BitRow_row T  hr, rd_BitRow_row (of_KBitRow T.toTx) h⟩)
theorem ok_BitRow_row_1 {P : Program} {w : World} {K : PySem.W.Frag} {mg : Str → Option Value} {base : Heap} (T : TxB K mg base) : DOkN P w K mg base 1 (He.fAd K ("BitRow", some "row")) ["self"] [] (sp_BitRow_row K) := by
  obtain ⟨fd, F⟩ := T.d_BitRow_row
  exact ⟨fd, [], .nil, FunD.bindsN F fun _ _ _ _ _ _ us hl => match us, hl with | [_], _ => rfl, fn_BitRow_row T F, F.kp⟩
abbrev N_BitRow_many : List Str := ["self"]
theorem sc_BitRow_many : FnScope N_BitRow_many ["self"] (defScope s_BitRow_many) := ⟨rfl, rfl, rfl, by decide +kernel, rfl, by decide +kernel, by decide +kernel⟩
theorem wk_BitRow_many {P : Program} {w : World} {K : PySem.W.Frag} {mg : Str → Option Value} {base : Heap} (T : TxB K mg base)  {f : Addr} {cdv : Value} {A : Around} {outer : List Env} {s : Shared} {H : Hp} {E : XK} 
    (hr : Room 0 (A.deeper (envOfC "BitRow.many" (defScope s_BitRow_many) s.heap.objs.size f cdv))) :
    PSs (cxOf (L2N.CX P w) P w K mg base N_BitRow_many "BitRow.many" (defScope s_BitRow_many) f cdv A outer s H E) (defBody s_BitRow_many) (t_BitRow_many K (fun c d _ H2 => E c d H2)) := by
  have hu1 := hu_of hr
  have hu64 := hr.units
  have tk : L2N.Takes (cxOf (L2N.CX P w) P w K mg base N_BitRow_many "BitRow.many" (defScope s_BitRow_many) f cdv A outer s H E) (fun c d _ H2 => E c d H2) := L2N.takes_of rfl rfl rfl rfl
  exact (pss_one (ps_ret (pe_op op_addU (pe_op op_mulU (pe_gint rfl T.g_BYTE) (pe_callB cr_lenK (by rfl) T.f_len bb_len (pa_cons (pe_fld (pv 0) rfl) pa_nil))) (pe_fld (pv 0) rfl))))
theorem fn_BitRow_many {P : Program} {w : World} {K : PySem.W.Frag} {mg : Str → Option Value} {base : Heap} (T : TxB K mg base) {f : Addr} {fd : FuncData} (F : FunD K d_BitRow_many.name d_BitRow_many.qual d_BitRow_many.params d_BitRow_many.body d_BitRow_many.scope (d_BitRow_many.dvs K) (d_BitRow_many.kws K) f fd) :
    FnOk P w K mg base (L2N.CX P w) 1 f fd ["self"] (sp_BitRow_many K) :=
  F.ok sc_BitRow_many (fun vs H Q E h => len_BitRow_many h) (fun cdv A outer s H vs Q E hr h => ⟨t_BitRow_many K (fun c d _ H2 => E c d H2), wk_BitRow_many T  hr, rd_BitRow_many (of_KBitRow T.toTx) h⟩)
theorem ok_BitRow_many_1 {P : Program} {w : World} {K : PySem.W.Frag} {mg : Str → Option Value} {base : Heap} (T : TxB K mg base) : DOkN P w K mg base 1 (He.fAd K ("BitRow", some "many")) ["self"] [] (sp_BitRow_many K) := by
  obtain ⟨fd, F⟩ := T.d_BitRow_many
  exact ⟨fd, [], .nil, FunD.bindsN F fun _ _ _ _ _ _ us hl => match us, hl with | [_], _ => rfl, fn_BitRow_many T F, F.kp⟩
abbrev N__law_codes : List Str := ["_law_lengths", "_law_found", "_law_code", "_law_length", "_law_thing_here"]
theorem sc__law_codes : FnScope N__law_codes ["_law_lengths"] (defScope s__law_codes) := ⟨rfl, rfl, rfl, by decide +kernel, rfl, by decide +kernel, by decide +kernel⟩
theorem wk__law_codes {P : Program} {w : World} {K : PySem.W.Frag} {mg : Str → Option Value} {base : Heap} (T : TxB K mg base)  {f : Addr} {cdv : Value} {A : Around} {outer : List Env} {s : Shared} {H : Hp} {E : XK} 
    (hr : Room 0 (A.deeper (envOfC "_law_codes" (defScope s__law_codes) s.heap.objs.size f cdv))) :
    PSs (cxOf (L2N.CX P w) P w K mg base N__law_codes "_law_codes" (defScope s__law_codes) f cdv A outer s H E) (defBody s__law_codes) (t__law_codes K (fun c d _ H2 => E c d H2)) := by
  have hu1 := hu_of hr
  have hu64 := hr.units
  have tk : L2N.Takes (cxOf (L2N.CX P w) P w K mg base N__law_codes "_law_codes" (defScope s__law_codes) f cdv A outer s H E) (fun c d _ H2 => E c d H2) := L2N.takes_of rfl rfl rfl rfl
  exact (pss_cons (ps_set (i := 1) sc__law_codes.nd rfl (Or.inl rfl) (pe_dnewK))
    (pss_cons (ps_set (i := 2) sc__law_codes.nd rfl (Or.inl rfl) (pe_int))
    (pss_cons (ps_for (passes_of rfl) rfl (pi_range2 rfl T.f_range (pa_cons (pe_int) (pa_cons (pe_int) pa_nil))) (pg_name (i := 3) sc__law_codes.nd rfl (Or.inl rfl)) (pss_cons (ps_for (passes_of rfl) rfl (pi_range1 rfl T.f_range (pa_cons (pe_int) pa_nil)) (pg_name (i := 4) sc__law_codes.nd rfl (Or.inl rfl)) (pss_one (ps_if (pt_cmpR (op_eqU hu64) (pe_ix ix_seq (pv 0) (pv 4) (fun _ _ => rfl)) (pv 3) (nomark _)) (pss_cons (ps_asg (pe_tup (pa_cons (pv 2) (pa_cons (pv 3) pa_nil))) (pg_sub (pv 1) (pv 4) (set_dict hu1)))
    (pss_one (ps_set (i := 2) sc__law_codes.nd rfl (Or.inl rfl) (pe_op op_addU (pv 2) (pe_int))))) pss_nil)))
    (pss_one (ps_set (i := 2) sc__law_codes.nd rfl (Or.inl rfl) (pe_op op_mulU (pe_int) (pv 2))))))
    (pss_one (ps_ret (pv 1))))))
theorem fn__law_codes {P : Program} {w : World} {K : PySem.W.Frag} {mg : Str → Option Value} {base : Heap} (T : TxB K mg base) {f : Addr} {fd : FuncData} (F : FunD K d__law_codes.name d__law_codes.qual d__law_codes.params d__law_codes.body d__law_codes.scope (d__law_codes.dvs K) (d__law_codes.kws K) f fd) :
    FnOk P w K mg base (L2N.CX P w) 1 f fd ["_law_lengths"] (sp__law_codes K) :=
  F.ok sc__law_codes (fun vs H Q E h => len__law_codes h) (fun cdv A outer s H vs Q E hr h => ⟨t__law_codes K (fun c d _ H2 => E c d H2), wk__law_codes T  hr, rd__law_codes  h⟩)
theorem ok__law_codes_1 {P : Program} {w : World} {K : PySem.W.Frag} {mg : Str → Option Value} {base : Heap} (T : TxB K mg base) : DOkN P w K mg base 1 (He.fAd K ("_law_codes", none)) ["_law_lengths"] [] (sp__law_codes K) := by
  obtain ⟨fd, F⟩ := T.d__law_codes
  exact ⟨fd, [], .nil, FunD.bindsN F fun _ _ _ _ _ _ us hl => match us, hl with | [_], _ => rfl, fn__law_codes T F, F.kp⟩
abbrev N__law_parts : List Str := ["_law_pieces_here", "_law_lengths", "_law_codes_here", "_law_parts_here", "_law_piece"]
theorem sc__law_parts : FnScope N__law_parts ["_law_pieces_here", "_law_lengths"] (defScope s__law_parts) := ⟨rfl, rfl, rfl, by decide +kernel, rfl, by decide +kernel, by decide +kernel⟩
theorem wk__law_parts {P : Program} {w : World} {K : PySem.W.Frag} {mg : Str → Option Value} {base : Heap} (T : TxB K mg base) (O0 : DOkN P w K mg base 1 (He.fAd K ("_law_codes", none)) ["_law_lengths"] [] (sp__law_codes K)) (O1 : DOkN P w K mg base 1 (He.fAd K ("_law_thing", none)) ["_law_piece"] [] (sp__law_thing K)) {f : Addr} {cdv : Value} {A : Around} {outer : List Env} {s : Shared} {H : Hp} {E : XK} 
    (hr : Room 1 (A.deeper (envOfC "_law_parts" (defScope s__law_parts) s.heap.objs.size f cdv))) :
    PSs (cxOf (L2N.CX P w) P w K mg base N__law_parts "_law_parts" (defScope s__law_parts) f cdv A outer s H E) (defBody s__law_parts) (t__law_parts K (fun c d _ H2 => E c d H2)) := by
  obtain ⟨fd0, ds0, v0, b0, G0, q0⟩ := O0
  obtain ⟨fd1, ds1, v1, b1, G1, q1⟩ := O1
  have hu1 := hu_of hr
  have hu64 := hr.units
  have tk : L2N.Takes (cxOf (L2N.CX P w) P w K mg base N__law_parts "_law_parts" (defScope s__law_parts) f cdv A outer s H E) (fun c d _ H2 => E c d H2) := L2N.takes_of rfl rfl rfl rfl
  exact (pss_cons (ps_set (i := 2) sc__law_parts.nd rfl (Or.inl rfl) (pe_clN G0 (hr.mono (by decide)) rfl T.g__law_codes q0 b0 v0 tk (pa_cons (pv 1) pa_nil)))
    (pss_cons (ps_set (i := 3) sc__law_parts.nd rfl (Or.inl rfl) (pe_lst pa_nil))
    (pss_cons (ps_for (passes_of rfl) rfl (pi_list (pv 0)) (pg_name (i := 4) sc__law_parts.nd rfl (Or.inl rfl)) (pss_cons (ps_expr (pe_bm PySem.F.plainAttrs_list PySem.F.slot_list_append PySem.F.type_list_append mt_append (pv 3) (pa_cons (pe_dget hu1 (pv 2) (pe_clN G1 (hr.mono (by decide)) rfl T.g__law_thing q1 b1 v1 tk (pa_cons (pv 4) pa_nil)) (fun _ _ => rfl)) pa_nil)))
    (pss_one (ps_if (pt_cmpR (op_eqU hu64) (pe_ix ix_seq (pv 4) (pe_int) (fun _ _ => rfl)) (pe_str) (nomark _)) (pss_one (ps_expr (pe_bm PySem.F.plainAttrs_list PySem.F.slot_list_append PySem.F.type_list_append mt_append (pv 3) (pa_cons (pe_tup (pa_cons (pe_ix ix_seq (pv 4) (pe_int) (fun _ _ => rfl)) (pa_cons (pe_int) pa_nil))) pa_nil)))) pss_nil))))
    (pss_one (ps_ret (pv 3))))))
theorem fn__law_parts {P : Program} {w : World} {K : PySem.W.Frag} {mg : Str → Option Value} {base : Heap} (T : TxB K mg base) {f : Addr} {fd : FuncData} (F : FunD K d__law_parts.name d__law_parts.qual d__law_parts.params d__law_parts.body d__law_parts.scope (d__law_parts.dvs K) (d__law_parts.kws K) f fd) :
    FnOk P w K mg base (L2N.CX P w) 2 f fd ["_law_pieces_here", "_law_lengths"] (sp__law_parts K) :=
  F.ok sc__law_parts (fun vs H Q E h => len__law_parts h) (fun cdv A outer s H vs Q E hr h => ⟨t__law_parts K (fun c d _ H2 => E c d H2), wk__law_parts T (ok__law_codes_1 T) (ok__law_thing_1 T) hr, rd__law_parts  h⟩)
theorem ok__law_parts_2 {P : Program} {w : World} {K : PySem.W.Frag} {mg : Str → Option Value} {base : Heap} (T : TxB K mg base) : DOkN P w K mg base 2 (He.fAd K ("_law_parts", none)) ["_law_pieces_here", "_law_lengths"] [] (sp__law_parts K) := by
  obtain ⟨fd, F⟩ := T.d__law_parts
  exact ⟨fd, [], .nil, FunD.bindsN F fun _ _ _ _ _ _ us hl => match us, hl with | [_, _], _ => rfl, fn__law_parts T F, F.kp⟩
abbrev N__law_due : List Str := ["_law_pieces_here", "_law_counts", "_law_piece", "_law_lengths", "_law_bits", "_law_table", "_law_byte"]
theorem sc__law_due : FnScope N__law_due ["_law_pieces_here"] (defScope s__law_due) := ⟨rfl, rfl, rfl, by decide +kernel, rfl, by decide +kernel, by decide +kernel⟩
theorem wk__law_due {P : Program} {w : World} {K : PySem.W.Frag} {mg : Str → Option Value} {base : Heap} (T : TxB K mg base) (O0 : DOkN P w K mg base 1 (He.fAd K ("_law_thing", none)) ["_law_piece"] [] (sp__law_thing K)) (O1 : DOkN P w K mg base 3 (He.fAd K ("lengths_of", none)) ["counts", "most"] [.int 6] (sp_lengths_of K)) (O2 : DOkN P w K mg base 1 (He.fAd K ("BitRow", some "__init__")) ["self"] [] (sp_BitRow___init__ K)) (O3 : DOkN P w K mg base 4 (He.fAd K ("put_table", none)) ["bits", "lengths"] [] (sp_put_table K)) (O4 : DOkN P w K mg base 1 (He.fAd K ("_law_digits", none)) ["_law_parts_here"] [] (sp__law_digits K)) (O5 : DOkN P w K mg base 1 (He.fAd K ("BitRow", some "row")) ["self"] [] (sp_BitRow_row K)) (O6 : DOkN P w K mg base 1 (He.fAd K ("BitRow", some "many")) ["self"] [] (sp_BitRow_many K)) (O7 : DOkN P w K mg base 2 (He.fAd K ("_law_parts", none)) ["_law_pieces_here", "_law_lengths"] [] (sp__law_parts K)) {f : Addr} {cdv : Value} {A : Around} {outer : List Env} {s : Shared} {H : Hp} {E : XK} 
    (hr : Room 4 (A.deeper (envOfC "_law_due" (defScope s__law_due) s.heap.objs.size f cdv))) :
    PSs (cxOf (L2N.CX P w) P w K mg base N__law_due "_law_due" (defScope s__law_due) f cdv A outer s H E) (defBody s__law_due) (t__law_due K (fun c d _ H2 => E c d H2)) := by
  obtain ⟨fd0, ds0, v0, b0, G0, q0⟩ := O0
  obtain ⟨fd1, ds1, v1, b1, G1, q1⟩ := O1
  obtain ⟨fd2, ds2, v2, b2, G2, q2⟩ := O2
  obtain ⟨fd3, ds3, v3, b3, G3, q3⟩ := O3
  obtain ⟨fd4, ds4, v4, b4, G4, q4⟩ := O4
  obtain ⟨fd5, ds5, v5, b5, G5, q5⟩ := O5
  obtain ⟨fd6, ds6, v6, b6, G6, q6⟩ := O6
  obtain ⟨fd7, ds7, v7, b7, G7, q7⟩ := O7
  have hu1 := hu_of hr
  have hu64 := hr.units
  have tk : L2N.Takes (cxOf (L2N.CX P w) P w K mg base N__law_due "_law_due" (defScope s__law_due) f cdv A outer s H E) (fun c d _ H2 => E c d H2) := L2N.takes_of rfl rfl rfl rfl
  exact (pss_cons (ps_set (i := 1) sc__law_due.nd rfl (Or.inl rfl) (pe_op op_mulU (pe_lst (pa_cons (pe_int) pa_nil)) (pe_int)))
    (pss_cons (ps_for (passes_of rfl) rfl (pi_list (pv 0)) (pg_name (i := 2) sc__law_due.nd rfl (Or.inl rfl)) (pss_one (ps_asg (pe_op op_addU (pe_ix ix_seq (pv 1) (pe_clN G0 (hr.mono (by decide)) rfl T.g__law_thing q0 b0 v0 tk (pa_cons (pv 2) pa_nil)) (fun _ _ => rfl)) (pe_int)) (pg_sub (pv 1) (pe_clN G0 (hr.mono (by decide)) rfl T.g__law_thing q0 b0 v0 tk (pa_cons (pv 2) pa_nil)) set_list))))
    (pss_cons (ps_set (i := 3) sc__law_due.nd rfl (Or.inl rfl) (pe_clN G1 (hr.mono (by decide)) rfl T.g_lengths_of q1 b1 v1 tk (pa_cons (pv 1) pa_nil)))
    (pss_cons (ps_set (i := 4) sc__law_due.nd rfl (Or.inl rfl) (pe_mk0N T.k_BitRow G2 (hr.mono (by decide)) rfl T.g_BitRow b2 v2 tk))
    (pss_cons (ps_expr (pe_clN G3 (hr.mono (by decide)) rfl T.g_put_table q3 b3 v3 tk (pa_cons (pv 4) (pa_cons (pv 3) pa_nil))))
    (pss_cons (ps_set (i := 5) sc__law_due.nd rfl (Or.inl rfl) (pe_slice sl_K (pe_clN G4 (hr.mono (by decide)) rfl T.g__law_digits q4 b4 v4 tk (pa_cons (pe_lc (own := [("_law_byte", 6)]) rfl sc__law_due.nd (pi_list (pe_mt0N (pv 4) T.c_BitRow T.m_BitRow_row G5 (hr.mono (by decide)) b5 v5 tk)) (blkOk_by (own := [("_law_byte", 6)]) (N := N__law_due) (sc := defScope s__law_due) (by decide +kernel)) (fun _ _ _ _ _ => (pg_name (i := 6) sc__law_due.nd rfl (Or.inl rfl))) (fun _ _ _ _ _ => pts_nil) (fun _ _ _ _ _ => (pe_tup (pa_cons (pv 6) (pa_cons (pe_int) pa_nil))))) pa_nil)) po_none (po_some (pe_mt0N (pv 4) T.c_BitRow T.m_BitRow_many G6 (hr.mono (by decide)) b6 v6 tk))))
    (pss_one (ps_ret (pe_op op_addU (pv 5) (pe_clN G4 (hr.mono (by decide)) rfl T.g__law_digits q4 b4 v4 tk (pa_cons (pe_clN G7 (hr.mono (by decide)) rfl T.g__law_parts q7 b7 v7 tk (pa_cons (pv 0) (pa_cons (pv 3) pa_nil))) pa_nil)))))))))))
theorem fn__law_due {P : Program} {w : World} {K : PySem.W.Frag} {mg : Str → Option Value} {base : Heap} (T : TxB K mg base) {f : Addr} {fd : FuncData} (F : FunD K d__law_due.name d__law_due.qual d__law_due.params d__law_due.body d__law_due.scope (d__law_due.dvs K) (d__law_due.kws K) f fd) :
    FnOk P w K mg base (L2N.CX P w) 5 f fd ["_law_pieces_here"] (sp__law_due K) :=
  F.ok sc__law_due (fun vs H Q E h => len__law_due h) (fun cdv A outer s H vs Q E hr h => ⟨t__law_due K (fun c d _ H2 => E c d H2), wk__law_due T (ok__law_thing_1 T) (ok_lengths_of_1 T) (ok_BitRow___init___1 T) (ok_put_table_2 T) (ok__law_digits_1 T) (ok_BitRow_row_1 T) (ok_BitRow_many_1 T) (ok__law_parts_2 T) hr, rd__law_due (of_KBitRow T.toTx) h⟩)
theorem ok__law_due_1 {P : Program} {w : World} {K : PySem.W.Frag} {mg : Str → Option Value} {base : Heap} (T : TxB K mg base) : DOkN P w K mg base 5 (He.fAd K ("_law_due", none)) ["_law_pieces_here"] [] (sp__law_due K) := by
  obtain ⟨fd, F⟩ := T.d__law_due
  exact ⟨fd, [], .nil, FunD.bindsN F fun _ _ _ _ _ _ us hl => match us, hl with | [_], _ => rfl, fn__law_due T F, F.kp⟩
abbrev N_is_byte : List Str := ["thing"]
theorem sc_is_byte : FnScope N_is_byte ["thing"] (defScope s_is_byte) := ⟨rfl, rfl, rfl, by decide +kernel, rfl, by decide +kernel, by decide +kernel⟩
theorem wk_is_byte {P : Program} {w : World} {K : PySem.W.Frag} {mg : Str → Option Value} {base : Heap} (T : TxB K mg base)  {f : Addr} {cdv : Value} {A : Around} {outer : List Env} {s : Shared} {H : Hp} {E : XK} 
    (hr : Room 0 (A.deeper (envOfC "is_byte" (defScope s_is_byte) s.heap.objs.size f cdv))) :
    PSs (cxOf (L2N.CX P w) P w K mg base N_is_byte "is_byte" (defScope s_is_byte) f cdv A outer s H E) (defBody s_is_byte) (t_is_byte K (fun c d _ H2 => E c d H2)) := by
  have hu1 := hu_of hr
  have hu64 := hr.units
  have tk : L2N.Takes (cxOf (L2N.CX P w) P w K mg base N_is_byte "is_byte" (defScope s_is_byte) f cdv A outer s H E) (fun c d _ H2 => E c d H2) := L2N.takes_of rfl rfl rfl rfl
  exact (pss_one (ps_ret ((pe_and (pe_callB call_isi (by rfl) T.f_isinstance bb_isinstance (pa_cons (pv 0) (pa_cons (pe_bty rfl T.f_int bt_int) pa_nil))) (pe_and (pe_not (pe_callB call_isi (by rfl) T.f_isinstance bb_isinstance (pa_cons (pv 0) (pa_cons (pe_bty rfl T.f_bool bt_bool) pa_nil)))) (pe_one (pe_chain op_leU op_leU (pe_int) (pv 0) (pe_gint rfl T.g_MOST_BYTE))))))))
theorem fn_is_byte {P : Program} {w : World} {K : PySem.W.Frag} {mg : Str → Option Value} {base : Heap} (T : TxB K mg base) {f : Addr} {fd : FuncData} (F : FunD K d_is_byte.name d_is_byte.qual d_is_byte.params d_is_byte.body d_is_byte.scope (d_is_byte.dvs K) (d_is_byte.kws K) f fd) :
    FnOk P w K mg base (L2N.CX P w) 1 f fd ["thing"] (sp_is_byte K) :=
  F.ok sc_is_byte (fun vs H Q E h => len_is_byte h) (fun cdv A outer s H vs Q E hr h => ⟨t_is_byte K (fun c d _ H2 => E c d H2), wk_is_byte T  hr, rd_is_byte  h⟩)
theorem ok_is_byte_1 {P : Program} {w : World} {K : PySem.W.Frag} {mg : Str → Option Value} {base : Heap} (T : TxB K mg base) : DOkN P w K mg base 1 (He.fAd K ("is_byte", none)) ["thing"] [] (sp_is_byte K) := by
  obtain ⟨fd, F⟩ := T.d_is_byte
  exact ⟨fd, [], .nil, FunD.bindsN F fun _ _ _ _ _ _ us hl => match us, hl with | [_], _ => rfl, fn_is_byte T F, F.kp⟩
abbrev N_is_row : List Str := ["thing", "number"]
theorem sc_is_row : FnScope N_is_row ["thing"] (defScope s_is_row) := ⟨rfl, rfl, rfl, by decide +kernel, rfl, by decide +kernel, by decide +kernel⟩
theorem wk_is_row {P : Program} {w : World} {K : PySem.W.Frag} {mg : Str → Option Value} {base : Heap} (T : TxB K mg base) (O0 : DOkN P w K mg base 1 (He.fAd K ("is_byte", none)) ["thing"] [] (sp_is_byte K)) {f : Addr} {cdv : Value} {A : Around} {outer : List Env} {s : Shared} {H : Hp} {E : XK} 
    (hr : Room 1 (A.deeper (envOfC "is_row" (defScope s_is_row) s.heap.objs.size f cdv))) :
    PSs (cxOf (L2N.CX P w) P w K mg base N_is_row "is_row" (defScope s_is_row) f cdv A outer s H E) (defBody s_is_row) (t_is_row K (fun c d _ H2 => E c d H2)) := by
  obtain ⟨fd0, ds0, v0, b0, G0, q0⟩ := O0
  have hu1 := hu_of hr
  have hu64 := hr.units
  have tk : L2N.Takes (cxOf (L2N.CX P w) P w K mg base N_is_row "is_row" (defScope s_is_row) f cdv A outer s H E) (fun c d _ H2 => E c d H2) := L2N.takes_of rfl rfl rfl rfl
  exact (pss_one (ps_ret ((pe_and (pe_callB call_isi (by rfl) T.f_isinstance bb_isinstance (pa_cons (pv 0) (pa_cons (pe_bty rfl T.f_list bt_list) pa_nil))) (pe_one (pe_callB (cr_all rfl) (by rfl) T.f_all bb_all (pa_cons (pe_lc (own := [("number", 1)]) rfl sc_is_row.nd (pi_list (pv 0)) (blkOk_by (own := [("number", 1)]) (N := N_is_row) (sc := defScope s_is_row) (by decide +kernel)) (fun _ _ _ _ _ => (pg_name (i := 1) sc_is_row.nd rfl (Or.inl rfl))) (fun _ _ _ _ _ => pts_nil) (fun _ _ _ _ _ => (pe_clN G0 (hr.mono (by decide)) rfl T.g_is_byte q0 b0 v0 takes0N (pa_cons (pv 1) pa_nil)))) pa_nil)))))))
theorem fn_is_row {P : Program} {w : World} {K : PySem.W.Frag} {mg : Str → Option Value} {base : Heap} (T : TxB K mg base) {f : Addr} {fd : FuncData} (F : FunD K d_is_row.name d_is_row.qual d_is_row.params d_is_row.body d_is_row.scope (d_is_row.dvs K) (d_is_row.kws K) f fd) :
    FnOk P w K mg base (L2N.CX P w) 2 f fd ["thing"] (sp_is_row K) :=
  F.ok sc_is_row (fun vs H Q E h => len_is_row h) (fun cdv A outer s H vs Q E hr h => ⟨t_is_row K (fun c d _ H2 => E c d H2), wk_is_row T (ok_is_byte_1 T) hr, rd_is_row  h⟩)
theorem ok_is_row_1 {P : Program} {w : World} {K : PySem.W.Frag} {mg : Str → Option Value} {base : Heap} (T : TxB K mg base) : DOkN P w K mg base 2 (He.fAd K ("is_row", none)) ["thing"] [] (sp_is_row K) := by
  obtain ⟨fd, F⟩ := T.d_is_row
  exact ⟨fd, [], .nil, FunD.bindsN F fun _ _ _ _ _ _ us hl => match us, hl with | [_], _ => rfl, fn_is_row T F, F.kp⟩
abbrev N_need_row : List Str := ["thing"]
theorem sc_need_row : FnScope N_need_row ["thing"] (defScope s_need_row) := ⟨rfl, rfl, rfl, by decide +kernel, rfl, by decide +kernel, by decide +kernel⟩
theorem wk_need_row {P : Program} {w : World} {K : PySem.W.Frag} {mg : Str → Option Value} {base : Heap} (T : TxB K mg base) (O0 : DOkN P w K mg base 2 (He.fAd K ("is_row", none)) ["thing"] [] (sp_is_row K)) {f : Addr} {cdv : Value} {A : Around} {outer : List Env} {s : Shared} {H : Hp} {E : XK} 
    (hr : Room 2 (A.deeper (envOfC "need_row" (defScope s_need_row) s.heap.objs.size f cdv))) :
    PSs (cxOf (L2N.CX P w) P w K mg base N_need_row "need_row" (defScope s_need_row) f cdv A outer s H E) (defBody s_need_row) (t_need_row K (fun c d _ H2 => E c d H2)) := by
  obtain ⟨fd0, ds0, v0, b0, G0, q0⟩ := O0
  have hu1 := hu_of hr
  have hu64 := hr.units
  have tk : L2N.Takes (cxOf (L2N.CX P w) P w K mg base N_need_row "need_row" (defScope s_need_row) f cdv A outer s H E) (fun c d _ H2 => E c d H2) := L2N.takes_of rfl rfl rfl rfl
  exact (pss_cons (ps_if (pt_not (pt_val (pe_clN G0 (hr.mono (by decide)) rfl T.g_is_row q0 b0 v0 tk (pa_cons (pv 0) pa_nil)))) (pss_one (ps_rzN rfl tk T.x_BadRow T.g_BadRow rfl)) pss_nil)
    (pss_one (ps_ret (pe_callTy cr_listK (by rfl) T.f_list bt_list (pa_cons (pv 0) pa_nil)))))
theorem fn_need_row {P : Program} {w : World} {K : PySem.W.Frag} {mg : Str → Option Value} {base : Heap} (T : TxB K mg base) {f : Addr} {fd : FuncData} (F : FunD K d_need_row.name d_need_row.qual d_need_row.params d_need_row.body d_need_row.scope (d_need_row.dvs K) (d_need_row.kws K) f fd) :
    FnOk P w K mg base (L2N.CX P w) 3 f fd ["thing"] (sp_need_row K) :=
  F.ok sc_need_row (fun vs H Q E h => len_need_row h) (fun cdv A outer s H vs Q E hr h => ⟨t_need_row K (fun c d _ H2 => E c d H2), wk_need_row T (ok_is_row_1 T) hr, rd_need_row  h⟩)
theorem ok_need_row_1 {P : Program} {w : World} {K : PySem.W.Frag} {mg : Str → Option Value} {base : Heap} (T : TxB K mg base) : DOkN P w K mg base 3 (He.fAd K ("need_row", none)) ["thing"] [] (sp_need_row K) := by
  obtain ⟨fd, F⟩ := T.d_need_row
  exact ⟨fd, [], .nil, FunD.bindsN F fun _ _ _ _ _ _ us hl => match us, hl with | [_], _ => rfl, fn_need_row T F, F.kp⟩
abbrev N_need_text : List Str := ["text", "found"]
theorem sc_need_text : FnScope N_need_text ["text"] (defScope s_need_text) := ⟨rfl, rfl, rfl, by decide +kernel, rfl, by decide +kernel, by decide +kernel⟩
theorem wk_need_text {P : Program} {w : World} {K : PySem.W.Frag} {mg : Str → Option Value} {base : Heap} (T : TxB K mg base) (O0 : DOkN P w K mg base 3 (He.fAd K ("need_row", none)) ["thing"] [] (sp_need_row K)) {f : Addr} {cdv : Value} {A : Around} {outer : List Env} {s : Shared} {H : Hp} {E : XK} 
    (hr : Room 3 (A.deeper (envOfC "need_text" (defScope s_need_text) s.heap.objs.size f cdv))) :
    PSs (cxOf (L2N.CX P w) P w K mg base N_need_text "need_text" (defScope s_need_text) f cdv A outer s H E) (defBody s_need_text) (t_need_text K (fun c d _ H2 => E c d H2)) := by
  obtain ⟨fd0, ds0, v0, b0, G0, q0⟩ := O0
  have hu1 := hu_of hr
  have hu64 := hr.units
  have tk : L2N.Takes (cxOf (L2N.CX P w) P w K mg base N_need_text "need_text" (defScope s_need_text) f cdv A outer s H E) (fun c d _ H2 => E c d H2) := L2N.takes_of rfl rfl rfl rfl
  exact (pss_cons (ps_set (i := 1) sc_need_text.nd rfl (Or.inl rfl) (pe_clN G0 (hr.mono (by decide)) rfl T.g_need_row q0 b0 v0 tk (pa_cons (pv 0) pa_nil)))
    (pss_cons (ps_if (pt_not (pt_chain op_leU op_leU (pe_int) (pe_callB cr_lenK (by rfl) T.f_len bb_len (pa_cons (pv 1) pa_nil)) (pe_gint rfl T.g_MOST_SIGNS))) (pss_one (ps_rzN rfl tk T.x_BadRow T.g_BadRow rfl)) pss_nil)
    (pss_one (ps_ret (pv 1)))))
theorem fn_need_text {P : Program} {w : World} {K : PySem.W.Frag} {mg : Str → Option Value} {base : Heap} (T : TxB K mg base) {f : Addr} {fd : FuncData} (F : FunD K d_need_text.name d_need_text.qual d_need_text.params d_need_text.body d_need_text.scope (d_need_text.dvs K) (d_need_text.kws K) f fd) :
    FnOk P w K mg base (L2N.CX P w) 4 f fd ["text"] (sp_need_text K) :=
  F.ok sc_need_text (fun vs H Q E h => len_need_text h) (fun cdv A outer s H vs Q E hr h => ⟨t_need_text K (fun c d _ H2 => E c d H2), wk_need_text T (ok_need_row_1 T) hr, rd_need_text  h⟩)
theorem ok_need_text_1 {P : Program} {w : World} {K : PySem.W.Frag} {mg : Str → Option Value} {base : Heap} (T : TxB K mg base) : DOkN P w K mg base 4 (He.fAd K ("need_text", none)) ["text"] [] (sp_need_text K) := by
  obtain ⟨fd, F⟩ := T.d_need_text
  exact ⟨fd, [], .nil, FunD.bindsN F fun _ _ _ _ _ _ us hl => match us, hl with | [_], _ => rfl, fn_need_text T F, F.kp⟩
abbrev N_need_window_ways : List Str := ["before", "found"]
theorem sc_need_window_ways : FnScope N_need_window_ways ["before"] (defScope s_need_window_ways) := ⟨rfl, rfl, rfl, by decide +kernel, rfl, by decide +kernel, by decide +kernel⟩
theorem wk_need_window_ways {P : Program} {w : World} {K : PySem.W.Frag} {mg : Str → Option Value} {base : Heap} (T : TxB K mg base) (O0 : DOkN P w K mg base 3 (He.fAd K ("need_row", none)) ["thing"] [] (sp_need_row K)) {f : Addr} {cdv : Value} {A : Around} {outer : List Env} {s : Shared} {H : Hp} {E : XK} 
    (hr : Room 3 (A.deeper (envOfC "need_window" (defScope s_need_window_ways) s.heap.objs.size f cdv))) :
    PSs (cxOf (L2N.CX P w) P w K mg base N_need_window_ways "need_window" (defScope s_need_window_ways) f cdv A outer s H E) (defBody s_need_window_ways) (t_need_window_ways K (fun c d _ H2 => E c d H2)) := by
  obtain ⟨fd0, ds0, v0, b0, G0, q0⟩ := O0
  have hu1 := hu_of hr
  have hu64 := hr.units
  have tk : L2N.Takes (cxOf (L2N.CX P w) P w K mg base N_need_window_ways "need_window" (defScope s_need_window_ways) f cdv A outer s H E) (fun c d _ H2 => E c d H2) := L2N.takes_of rfl rfl rfl rfl
  exact (pss_cons (ps_if (pt_cmpR op_isU (pv 0) (pe_non) (nomark _)) (pss_one (ps_ret (pe_lst pa_nil))) pss_nil)
    (pss_cons (ps_set (i := 1) sc_need_window_ways.nd rfl (Or.inl rfl) (pe_clN G0 (hr.mono (by decide)) rfl T.g_need_row q0 b0 v0 tk (pa_cons (pv 0) pa_nil)))
    (pss_cons (ps_if (pt_cmpR op_gtU (pe_callB cr_lenK (by rfl) T.f_len bb_len (pa_cons (pv 1) pa_nil)) (pe_gint rfl T.g_MOST_WINDOW) (nomark _)) (pss_one (ps_rzN rfl tk T.x_BadRow T.g_BadRow rfl)) pss_nil)
    (pss_one (ps_ret (pv 1))))))
theorem fn_need_window_ways {P : Program} {w : World} {K : PySem.W.Frag} {mg : Str → Option Value} {base : Heap} (T : TxB K mg base) {f : Addr} {fd : FuncData} (F : FunD K d_need_window_ways.name d_need_window_ways.qual d_need_window_ways.params d_need_window_ways.body d_need_window_ways.scope (d_need_window_ways.dvs K) (d_need_window_ways.kws K) f fd) :
    FnOk P w K mg base (L2N.CX P w) 4 f fd ["before"] (sp_need_window_ways K) :=
  F.ok sc_need_window_ways (fun vs H Q E h => len_need_window_ways h) (fun cdv A outer s H vs Q E hr h => ⟨t_need_window_ways K (fun c d _ H2 => E c d H2), wk_need_window_ways T (ok_need_row_1 T) hr, rd_need_window_ways  h⟩)
theorem ok_need_window_ways_1 {P : Program} {w : World} {K : PySem.W.Frag} {mg : Str → Option Value} {base : Heap} (T : TxB K mg base) : DOkN P w K mg base 4 (He.fAd K ("need_window_ways", none)) ["before"] [] (sp_need_window_ways K) := by
  obtain ⟨fd, F⟩ := T.d_need_window_ways
  exact ⟨fd, [], .nil, FunD.bindsN F fun _ _ _ _ _ _ us hl => match us, hl with | [_], _ => rfl, fn_need_window_ways T F, F.kp⟩
abbrev N_Way_tell : List Str := ["self", "bits", "text", "before"]
theorem sc_Way_tell : FnScope N_Way_tell ["self", "bits", "text", "before"] (defScope s_Way_tell) := ⟨rfl, rfl, rfl, by decide +kernel, rfl, by decide +kernel, by decide +kernel⟩
theorem wk_Way_tell {P : Program} {w : World} {K : PySem.W.Frag} {mg : Str → Option Value} {base : Heap} (T : TxB K mg base) (O0 : DOkN P w K mg base 4 (He.fAd K ("need_text", none)) ["text"] [] (sp_need_text K)) (O1 : DOkN P w K mg base 4 (He.fAd K ("need_window_ways", none)) ["before"] [] (sp_need_window_ways K)) {f : Addr} {cdv : Value} {A : Around} {outer : List Env} {s : Shared} {H : Hp} {E : XK} 
    (hr : Room 4 (A.deeper (envOfC "Way.tell" (defScope s_Way_tell) s.heap.objs.size f cdv))) :
    PSs (cxOf (L2N.CX P w) P w K mg base N_Way_tell "Way.tell" (defScope s_Way_tell) f cdv A outer s H E) (defBody s_Way_tell) (t_Way_tell K (fun c d _ H2 => E c d H2)) := by
  obtain ⟨fd0, ds0, v0, b0, G0, q0⟩ := O0
  obtain ⟨fd1, ds1, v1, b1, G1, q1⟩ := O1
  have hu1 := hu_of hr
  have hu64 := hr.units
  have tk : L2N.Takes (cxOf (L2N.CX P w) P w K mg base N_Way_tell "Way.tell" (defScope s_Way_tell) f cdv A outer s H E) (fun c d _ H2 => E c d H2) := L2N.takes_of rfl rfl rfl rfl
  exact (pss_cons (ps_expr (pe_clN G0 (hr.mono (by decide)) rfl T.g_need_text q0 b0 v0 tk (pa_cons (pv 2) pa_nil)))
    (pss_one (ps_expr (pe_clN G1 (hr.mono (by decide)) rfl T.g_need_window_ways q1 b1 v1 tk (pa_cons (pv 3) pa_nil)))))
theorem fn_Way_tell {P : Program} {w : World} {K : PySem.W.Frag} {mg : Str → Option Value} {base : Heap} (T : TxB K mg base) {f : Addr} {fd : FuncData} (F : FunD K d_Way_tell.name d_Way_tell.qual d_Way_tell.params d_Way_tell.body d_Way_tell.scope (d_Way_tell.dvs K) (d_Way_tell.kws K) f fd) :
    FnOk P w K mg base (L2N.CX P w) 5 f fd ["self", "bits", "text", "before"] (sp_Way_tell K) :=
  F.ok sc_Way_tell (fun vs H Q E h => len_Way_tell h) (fun cdv A outer s H vs Q E hr h => ⟨t_Way_tell K (fun c d _ H2 => E c d H2), wk_Way_tell T (ok_need_text_1 T) (ok_need_window_ways_1 T) hr, rd_Way_tell  h⟩)
theorem ok_Way_tell_4 {P : Program} {w : World} {K : PySem.W.Frag} {mg : Str → Option Value} {base : Heap} (T : TxB K mg base) : DOkN P w K mg base 5 (He.fAd K ("Way", some "tell")) ["self", "bits", "text", "before"] [] (sp_Way_tell K) := by
  obtain ⟨fd, F⟩ := T.d_Way_tell
  exact ⟨fd, [], .nil, FunD.bindsN F fun _ _ _ _ _ _ us hl => match us, hl with | [_, _, _, _], _ => rfl, fn_Way_tell T F, F.kp⟩
abbrev N_need_window_windows : List Str := ["before"]
theorem sc_need_window_windows : FnScope N_need_window_windows ["before"] (defScope s_need_window_windows) := ⟨rfl, rfl, rfl, by decide +kernel, rfl, by decide +kernel, by decide +kernel⟩
theorem wk_need_window_windows {P : Program} {w : World} {K : PySem.W.Frag} {mg : Str → Option Value} {base : Heap} (T : TxB K mg base) (O0 : DOkN P w K mg base 2 (He.fAd K ("is_row", none)) ["thing"] [] (sp_is_row K)) {f : Addr} {cdv : Value} {A : Around} {outer : List Env} {s : Shared} {H : Hp} {E : XK} 
    (hr : Room 2 (A.deeper (envOfC "need_window" (defScope s_need_window_windows) s.heap.objs.size f cdv))) :
    PSs (cxOf (L2N.CX P w) P w K mg base N_need_window_windows "need_window" (defScope s_need_window_windows) f cdv A outer s H E) (defBody s_need_window_windows) (t_need_window K (fun c d _ H2 => E c d H2)) := by
  obtain ⟨fd0, ds0, v0, b0, G0, q0⟩ := O0
  have hu1 := hu_of hr
  have hu64 := hr.units
  have tk : L2N.Takes (cxOf (L2N.CX P w) P w K mg base N_need_window_windows "need_window" (defScope s_need_window_windows) f cdv A outer s H E) (fun c d _ H2 => E c d H2) := L2N.takes_of rfl rfl rfl rfl
  exact (pss_cons (ps_if (pt_cmpR op_isU (pv 0) (pe_non) (nomark _)) (pss_one (ps_ret (pe_lst pa_nil))) pss_nil)
    (pss_cons (ps_if (PW.pt (pw_or (pt_not (pt_val (pe_clN G0 (hr.mono (by decide)) rfl T.g_is_row q0 b0 v0 tk (pa_cons (pv 0) pa_nil)))) (pw_or1 (pt_cmpR op_gtU (pe_callB cr_lenK (by rfl) T.f_len bb_len (pa_cons (pv 0) pa_nil)) (pe_gint rfl T.g_MOST_BACK) (nomark _))))) (pss_one (ps_rzN rfl tk T.x_BadRow T.g_BadRow rfl)) pss_nil)
    (pss_one (ps_ret (pe_callTy cr_listK (by rfl) T.f_list bt_list (pa_cons (pv 0) pa_nil))))))
theorem fn_need_window_windows {P : Program} {w : World} {K : PySem.W.Frag} {mg : Str → Option Value} {base : Heap} (T : TxB K mg base) {f : Addr} {fd : FuncData} (F : FunD K d_need_window_windows.name d_need_window_windows.qual d_need_window_windows.params d_need_window_windows.body d_need_window_windows.scope (d_need_window_windows.dvs K) (d_need_window_windows.kws K) f fd) :
    FnOk P w K mg base (L2N.CX P w) 3 f fd ["before"] (sp_need_window K) :=
  F.ok sc_need_window_windows (fun vs H Q E h => len_need_window h) (fun cdv A outer s H vs Q E hr h => ⟨t_need_window K (fun c d _ H2 => E c d H2), wk_need_window_windows T (ok_is_row_1 T) hr, rd_need_window  h⟩)
theorem ok_need_window_windows_1 {P : Program} {w : World} {K : PySem.W.Frag} {mg : Str → Option Value} {base : Heap} (T : TxB K mg base) : DOkN P w K mg base 3 (He.fAd K ("need_window_windows", none)) ["before"] [] (sp_need_window K) := by
  obtain ⟨fd, F⟩ := T.d_need_window_windows
  exact ⟨fd, [], .nil, FunD.bindsN F fun _ _ _ _ _ _ us hl => match us, hl with | [_], _ => rfl, fn_need_window_windows T F, F.kp⟩
abbrev N_alike_size : List Str := ["signs", "place", "back", "most", "found"]
theorem sc_alike_size : FnScope N_alike_size ["signs", "place", "back", "most"] (defScope s_alike_size) := ⟨rfl, rfl, rfl, by decide +kernel, rfl, by decide +kernel, by decide +kernel⟩
theorem wk_alike_size {P : Program} {w : World} {K : PySem.W.Frag} {mg : Str → Option Value} {base : Heap} (T : TxB K mg base)  {f : Addr} {cdv : Value} {A : Around} {outer : List Env} {s : Shared} {H : Hp} {E : XK} 
    (hr : Room 0 (A.deeper (envOfC "alike_size" (defScope s_alike_size) s.heap.objs.size f cdv))) :
    PSs (cxOf (L2N.CX P w) P w K mg base N_alike_size "alike_size" (defScope s_alike_size) f cdv A outer s H E) (defBody s_alike_size) (t_alike_size K (fun c d _ H2 => E c d H2)) := by
  have hu1 := hu_of hr
  have hu64 := hr.units
  have tk : L2N.Takes (cxOf (L2N.CX P w) P w K mg base N_alike_size "alike_size" (defScope s_alike_size) f cdv A outer s H E) (fun c d _ H2 => E c d H2) := L2N.takes_of rfl rfl rfl rfl
  exact (pss_cons (ps_set (i := 4) sc_alike_size.nd rfl (Or.inl rfl) (pe_int))
    (pss_cons (ps_while (passes_of rfl) (PW.pt (pw_and (pt_cmpR op_ltU (pv 4) (pv 3) (nomark _)) (pw_and1 (pt_cmpR (op_eqU hu64) (pe_ix ix_seq (pv 0) (pe_op op_addU (pv 1) (pv 4)) (fun _ _ => rfl)) (pe_ix ix_seq (pv 0) (pe_op op_subU (pe_op op_addU (pv 1) (pv 4)) (pv 2)) (fun _ _ => rfl)) (nomark _))))) (pss_one (ps_aug (i := 4) sc_alike_size.nd rfl (Or.inl rfl) (pe_int) ip_addU)))
    (pss_one (ps_ret (pv 4)))))
theorem fn_alike_size {P : Program} {w : World} {K : PySem.W.Frag} {mg : Str → Option Value} {base : Heap} (T : TxB K mg base) {f : Addr} {fd : FuncData} (F : FunD K d_alike_size.name d_alike_size.qual d_alike_size.params d_alike_size.body d_alike_size.scope (d_alike_size.dvs K) (d_alike_size.kws K) f fd) :
    FnOk P w K mg base (L2N.CX P w) 1 f fd ["signs", "place", "back", "most"] (sp_alike_size K) :=
  F.ok sc_alike_size (fun vs H Q E h => len_alike_size h) (fun cdv A outer s H vs Q E hr h => ⟨t_alike_size K (fun c d _ H2 => E c d H2), wk_alike_size T  hr, rd_alike_size  h⟩)
theorem ok_alike_size_4 {P : Program} {w : World} {K : PySem.W.Frag} {mg : Str → Option Value} {base : Heap} (T : TxB K mg base) : DOkN P w K mg base 1 (He.fAd K ("alike_size", none)) ["signs", "place", "back", "most"] [] (sp_alike_size K) := by
  obtain ⟨fd, F⟩ := T.d_alike_size
  exact ⟨fd, [], .nil, FunD.bindsN F fun _ _ _ _ _ _ us hl => match us, hl with | [_, _, _, _], _ => rfl, fn_alike_size T F, F.kp⟩
abbrev N_longest_copy : List Str := ["signs", "place", "most", "found", "back", "size"]
theorem sc_longest_copy : FnScope N_longest_copy ["signs", "place"] (defScope s_longest_copy) := ⟨rfl, rfl, rfl, by decide +kernel, rfl, by decide +kernel, by decide +kernel⟩
theorem wk_longest_copy {P : Program} {w : World} {K : PySem.W.Frag} {mg : Str → Option Value} {base : Heap} (T : TxB K mg base) (O0 : DOkN P w K mg base 1 (He.fAd K ("alike_size", none)) ["signs", "place", "back", "most"] [] (sp_alike_size K)) {f : Addr} {cdv : Value} {A : Around} {outer : List Env} {s : Shared} {H : Hp} {E : XK} 
    (hr : Room 1 (A.deeper (envOfC "longest_copy" (defScope s_longest_copy) s.heap.objs.size f cdv))) :
    PSs (cxOf (L2N.CX P w) P w K mg base N_longest_copy "longest_copy" (defScope s_longest_copy) f cdv A outer s H E) (defBody s_longest_copy) (t_longest_copy K (fun c d _ H2 => E c d H2)) := by
  obtain ⟨fd0, ds0, v0, b0, G0, q0⟩ := O0
  have hu1 := hu_of hr
  have hu64 := hr.units
  have tk : L2N.Takes (cxOf (L2N.CX P w) P w K mg base N_longest_copy "longest_copy" (defScope s_longest_copy) f cdv A outer s H E) (fun c d _ H2 => E c d H2) := L2N.takes_of rfl rfl rfl rfl
  exact (pss_cons (ps_set (i := 2) sc_longest_copy.nd rfl (Or.inl rfl) (pe_callB (cr_min2K rfl) (by rfl) T.f_min bb_min (pa_cons (pe_gint rfl T.g_MOST_SIZE_windows) (pa_cons (pe_op op_subU (pe_callB cr_lenK (by rfl) T.f_len bb_len (pa_cons (pv 0) pa_nil)) (pv 1)) pa_nil))))
    (pss_cons (ps_set (i := 3) sc_longest_copy.nd rfl (Or.inl rfl) (pe_tup (pa_cons (pe_int) (pa_cons (pe_int) pa_nil))))
    (pss_cons (ps_for (passes_of rfl) rfl (pi_range2 rfl T.f_range (pa_cons (pe_int) (pa_cons (pe_op op_addU (pe_callB (cr_min2K rfl) (by rfl) T.f_min bb_min (pa_cons (pe_gint rfl T.g_MOST_BACK) (pa_cons (pv 1) pa_nil))) (pe_int)) pa_nil))) (pg_name (i := 4) sc_longest_copy.nd rfl (Or.inl rfl)) (pss_cons (ps_if (pt_cmpR (op_neU hu64) (pe_ix ix_seq (pv 0) (pv 1) (fun _ _ => rfl)) (pe_ix ix_seq (pv 0) (pe_op op_subU (pv 1) (pv 4)) (fun _ _ => rfl)) (nomark _)) (pss_one (ps_continue)) pss_nil)
    (pss_cons (ps_set (i := 5) sc_longest_copy.nd rfl (Or.inl rfl) (pe_clN G0 (hr.mono (by decide)) rfl T.g_alike_size q0 b0 v0 tk (pa_cons (pv 0) (pa_cons (pv 1) (pa_cons (pv 4) (pa_cons (pv 2) pa_nil))))))
    (pss_cons (ps_if (pt_cmpR op_gtU (pv 5) (pe_ix ix_seq (pv 3) (pe_int) (fun _ _ => rfl)) (nomark _)) (pss_one (ps_set (i := 3) sc_longest_copy.nd rfl (Or.inl rfl) (pe_tup (pa_cons (pv 4) (pa_cons (pv 5) pa_nil))))) pss_nil)
    (pss_one (ps_if (pt_cmpR (op_eqU hu64) (pv 5) (pv 2) (nomark _)) (pss_one (ps_break)) pss_nil))))))
    (pss_one (ps_ret (pv 3))))))
theorem fn_longest_copy {P : Program} {w : World} {K : PySem.W.Frag} {mg : Str → Option Value} {base : Heap} (T : TxB K mg base) {f : Addr} {fd : FuncData} (F : FunD K d_longest_copy.name d_longest_copy.qual d_longest_copy.params d_longest_copy.body d_longest_copy.scope (d_longest_copy.dvs K) (d_longest_copy.kws K) f fd) :
    FnOk P w K mg base (L2N.CX P w) 2 f fd ["signs", "place"] (sp_longest_copy K) :=
  F.ok sc_longest_copy (fun vs H Q E h => len_longest_copy h) (fun cdv A outer s H vs Q E hr h => ⟨t_longest_copy K (fun c d _ H2 => E c d H2), wk_longest_copy T (ok_alike_size_4 T) hr, rd_longest_copy  h⟩)
theorem ok_longest_copy_2 {P : Program} {w : World} {K : PySem.W.Frag} {mg : Str → Option Value} {base : Heap} (T : TxB K mg base) : DOkN P w K mg base 2 (He.fAd K ("longest_copy", none)) ["signs", "place"] [] (sp_longest_copy K) := by
  obtain ⟨fd, F⟩ := T.d_longest_copy
  exact ⟨fd, [], .nil, FunD.bindsN F fun _ _ _ _ _ _ us hl => match us, hl with | [_, _], _ => rfl, fn_longest_copy T F, F.kp⟩
abbrev N_pieces_of : List Str := ["text", "before", "row", "signs", "place", "found", "back", "size"]
theorem sc_pieces_of : FnScope N_pieces_of ["text", "before"] (defScope s_pieces_of) := ⟨rfl, rfl, rfl, by decide +kernel, rfl, by decide +kernel, by decide +kernel⟩
theorem wk_pieces_of {P : Program} {w : World} {K : PySem.W.Frag} {mg : Str → Option Value} {base : Heap} (T : TxB K mg base) (O0 : DOkN P w K mg base 3 (He.fAd K ("need_row", none)) ["thing"] [] (sp_need_row K)) (O1 : DOkN P w K mg base 3 (He.fAd K ("need_window_windows", none)) ["before"] [] (sp_need_window K)) (O2 : DOkN P w K mg base 2 (He.fAd K ("longest_copy", none)) ["signs", "place"] [] (sp_longest_copy K)) {f : Addr} {cdv : Value} {A : Around} {outer : List Env} {s : Shared} {H : Hp} {E : XK} 
    (hr : Room 3 (A.deeper (envOfC "pieces_of" (defScope s_pieces_of) s.heap.objs.size f cdv))) :
    PSs (cxOf (L2N.CX P w) P w K mg base N_pieces_of "pieces_of" (defScope s_pieces_of) f cdv A outer s H E) (defBody s_pieces_of) (t_pieces_of K (fun c d _ H2 => E c d H2)) := by
  obtain ⟨fd0, ds0, v0, b0, G0, q0⟩ := O0
  obtain ⟨fd1, ds1, v1, b1, G1, q1⟩ := O1
  obtain ⟨fd2, ds2, v2, b2, G2, q2⟩ := O2
  have hu1 := hu_of hr
  have hu64 := hr.units
  have tk : L2N.Takes (cxOf (L2N.CX P w) P w K mg base N_pieces_of "pieces_of" (defScope s_pieces_of) f cdv A outer s H E) (fun c d _ H2 => E c d H2) := L2N.takes_of rfl rfl rfl rfl
  exact (pss_cons (ps_set (i := 2) sc_pieces_of.nd rfl (Or.inl rfl) (pe_clN G0 (hr.mono (by decide)) rfl T.g_need_row q0 b0 v0 tk (pa_cons (pv 0) pa_nil)))
    (pss_cons (ps_set (i := 3) sc_pieces_of.nd rfl (Or.inl rfl) (pe_clN G1 (hr.mono (by decide)) rfl T.g_need_window_windows q1 b1 v1 tk (pa_cons (pv 1) pa_nil)))
    (pss_cons (ps_set (i := 4) sc_pieces_of.nd rfl (Or.inl rfl) (pe_callB cr_lenK (by rfl) T.f_len bb_len (pa_cons (pv 3) pa_nil)))
    (pss_cons (ps_aug (i := 3) sc_pieces_of.nd rfl (Or.inl rfl) (pv 2) ip_addU)
    (pss_cons (ps_set (i := 5) sc_pieces_of.nd rfl (Or.inl rfl) (pe_lst pa_nil))
    (pss_cons (ps_while (passes_of rfl) (pt_cmpR op_ltU (pv 4) (pe_callB cr_lenK (by rfl) T.f_len bb_len (pa_cons (pv 3) pa_nil)) (nomark _)) (pss_cons (ps_asg (pe_clN G2 (hr.mono (by decide)) rfl T.g_longest_copy q2 b2 v2 tk (pa_cons (pv 3) (pa_cons (pv 4) pa_nil))) (pg_tup rfl (pgs_cons (pg_name (i := 6) sc_pieces_of.nd rfl (Or.inl rfl)) (pgs_cons (pg_name (i := 7) sc_pieces_of.nd rfl (Or.inl rfl)) pgs_nil))))
    (pss_one (ps_if (pt_cmpR op_geU (pv 7) (pe_gint rfl T.g_LEAST_SIZE) (nomark _)) (pss_cons (ps_expr (pe_bm PySem.F.plainAttrs_list PySem.F.slot_list_append PySem.F.type_list_append mt_append (pv 5) (pa_cons (pe_tup (pa_cons (pe_str) (pa_cons (pv 6) (pa_cons (pv 7) pa_nil)))) pa_nil)))
    (pss_one (ps_aug (i := 4) sc_pieces_of.nd rfl (Or.inl rfl) (pv 7) ip_addU))) (pss_cons (ps_expr (pe_bm PySem.F.plainAttrs_list PySem.F.slot_list_append PySem.F.type_list_append mt_append (pv 5) (pa_cons (pe_tup (pa_cons (pe_str) (pa_cons (pe_ix ix_seq (pv 3) (pv 4) (fun _ _ => rfl)) pa_nil))) pa_nil)))
    (pss_one (ps_aug (i := 4) sc_pieces_of.nd rfl (Or.inl rfl) (pe_int) ip_addU)))))))
    (pss_one (ps_ret (pv 5)))))))))
theorem fn_pieces_of {P : Program} {w : World} {K : PySem.W.Frag} {mg : Str → Option Value} {base : Heap} (T : TxB K mg base) {f : Addr} {fd : FuncData} (F : FunD K d_pieces_of.name d_pieces_of.qual d_pieces_of.params d_pieces_of.body d_pieces_of.scope (d_pieces_of.dvs K) (d_pieces_of.kws K) f fd) :
    FnOk P w K mg base (L2N.CX P w) 4 f fd ["text", "before"] (sp_pieces_of K) :=
  F.ok sc_pieces_of (fun vs H Q E h => len_pieces_of h) (fun cdv A outer s H vs Q E hr h => ⟨t_pieces_of K (fun c d _ H2 => E c d H2), wk_pieces_of T (ok_need_row_1 T) (ok_need_window_windows_1 T) (ok_longest_copy_2 T) hr, rd_pieces_of  h⟩)
theorem ok_pieces_of_2 {P : Program} {w : World} {K : PySem.W.Frag} {mg : Str → Option Value} {base : Heap} (T : TxB K mg base) : DOkN P w K mg base 4 (He.fAd K ("pieces_of", none)) ["text", "before"] [] (sp_pieces_of K) := by
  obtain ⟨fd, F⟩ := T.d_pieces_of
  obtain ⟨ds, v, b⟩ := FunD.binds1 (ps := ["text", "before"]) F 2 1 (by intro z; cases z) (by rfl) fun T kV doc pm an cdv ct us its hl hi => match us, hl, its, hi with | [_, _], _, [_], _ => ⟨_, rfl, rfl⟩
  exact ⟨fd, ds, v, b, fn_pieces_of T F, F.kp⟩
abbrev N_thing_of : List Str := ["piece"]
theorem sc_thing_of : FnScope N_thing_of ["piece"] (defScope s_thing_of) := ⟨rfl, rfl, rfl, by decide +kernel, rfl, by decide +kernel, by decide +kernel⟩
theorem wk_thing_of {P : Program} {w : World} {K : PySem.W.Frag} {mg : Str → Option Value} {base : Heap} (T : TxB K mg base)  {f : Addr} {cdv : Value} {A : Around} {outer : List Env} {s : Shared} {H : Hp} {E : XK} 
    (hr : Room 0 (A.deeper (envOfC "thing_of" (defScope s_thing_of) s.heap.objs.size f cdv))) :
    PSs (cxOf (L2N.CX P w) P w K mg base N_thing_of "thing_of" (defScope s_thing_of) f cdv A outer s H E) (defBody s_thing_of) (t_thing_of K (fun c d _ H2 => E c d H2)) := by
  have hu1 := hu_of hr
  have hu64 := hr.units
  have tk : L2N.Takes (cxOf (L2N.CX P w) P w K mg base N_thing_of "thing_of" (defScope s_thing_of) f cdv A outer s H E) (fun c d _ H2 => E c d H2) := L2N.takes_of rfl rfl rfl rfl
  exact (pss_cons (ps_if (pt_cmpR (op_eqU hu64) (pe_ix ix_seq (pv 0) (pe_int) (fun _ _ => rfl)) (pe_str) (nomark _)) (pss_one (ps_ret (pe_ix ix_seq (pv 0) (pe_int) (fun _ _ => rfl)))) pss_nil)
    (pss_one (ps_ret (pe_op op_subU (pe_op op_addU (pe_gint rfl T.g_SIGNS) (pe_ix ix_seq (pv 0) (pe_int) (fun _ _ => rfl))) (pe_gint rfl T.g_LEAST_COPY)))))
theorem fn_thing_of {P : Program} {w : World} {K : PySem.W.Frag} {mg : Str → Option Value} {base : Heap} (T : TxB K mg base) {f : Addr} {fd : FuncData} (F : FunD K d_thing_of.name d_thing_of.qual d_thing_of.params d_thing_of.body d_thing_of.scope (d_thing_of.dvs K) (d_thing_of.kws K) f fd) :
    FnOk P w K mg base (L2N.CX P w) 1 f fd ["piece"] (sp_thing_of K) :=
  F.ok sc_thing_of (fun vs H Q E h => len_thing_of h) (fun cdv A outer s H vs Q E hr h => ⟨t_thing_of K (fun c d _ H2 => E c d H2), wk_thing_of T  hr, rd_thing_of  h⟩)
theorem ok_thing_of_1 {P : Program} {w : World} {K : PySem.W.Frag} {mg : Str → Option Value} {base : Heap} (T : TxB K mg base) : DOkN P w K mg base 1 (He.fAd K ("thing_of", none)) ["piece"] [] (sp_thing_of K) := by
  obtain ⟨fd, F⟩ := T.d_thing_of
  exact ⟨fd, [], .nil, FunD.bindsN F fun _ _ _ _ _ _ us hl => match us, hl with | [_], _ => rfl, fn_thing_of T F, F.kp⟩
abbrev N_counts_of : List Str := ["pieces", "found", "piece"]
theorem sc_counts_of : FnScope N_counts_of ["pieces"] (defScope s_counts_of) := ⟨rfl, rfl, rfl, by decide +kernel, rfl, by decide +kernel, by decide +kernel⟩
theorem wk_counts_of {P : Program} {w : World} {K : PySem.W.Frag} {mg : Str → Option Value} {base : Heap} (T : TxB K mg base) (O0 : DOkN P w K mg base 1 (He.fAd K ("thing_of", none)) ["piece"] [] (sp_thing_of K)) {f : Addr} {cdv : Value} {A : Around} {outer : List Env} {s : Shared} {H : Hp} {E : XK} 
    (hr : Room 1 (A.deeper (envOfC "counts_of" (defScope s_counts_of) s.heap.objs.size f cdv))) :
    PSs (cxOf (L2N.CX P w) P w K mg base N_counts_of "counts_of" (defScope s_counts_of) f cdv A outer s H E) (defBody s_counts_of) (t_counts_of K (fun c d _ H2 => E c d H2)) := by
  obtain ⟨fd0, ds0, v0, b0, G0, q0⟩ := O0
  have hu1 := hu_of hr
  have hu64 := hr.units
  have tk : L2N.Takes (cxOf (L2N.CX P w) P w K mg base N_counts_of "counts_of" (defScope s_counts_of) f cdv A outer s H E) (fun c d _ H2 => E c d H2) := L2N.takes_of rfl rfl rfl rfl
  exact (pss_cons (ps_set (i := 1) sc_counts_of.nd rfl (Or.inl rfl) (pe_op op_mulU (pe_lst (pa_cons (pe_int) pa_nil)) (pe_gint rfl T.g_MANY)))
    (pss_cons (ps_for (passes_of rfl) rfl (pi_list (pv 0)) (pg_name (i := 2) sc_counts_of.nd rfl (Or.inl rfl)) (pss_one (ps_augS (pv 1) (pe_clN G0 (hr.mono (by decide)) rfl T.g_thing_of q0 b0 v0 tk (pa_cons (pv 2) pa_nil)) getl (pe_int) ip_addU set_list)))
    (pss_one (ps_ret (pv 1)))))
theorem fn_counts_of {P : Program} {w : World} {K : PySem.W.Frag} {mg : Str → Option Value} {base : Heap} (T : TxB K mg base) {f : Addr} {fd : FuncData} (F : FunD K d_counts_of.name d_counts_of.qual d_counts_of.params d_counts_of.body d_counts_of.scope (d_counts_of.dvs K) (d_counts_of.kws K) f fd) :
    FnOk P w K mg base (L2N.CX P w) 2 f fd ["pieces"] (sp_counts_of K) :=
  F.ok sc_counts_of (fun vs H Q E h => len_counts_of h) (fun cdv A outer s H vs Q E hr h => ⟨t_counts_of K (fun c d _ H2 => E c d H2), wk_counts_of T (ok_thing_of_1 T) hr, rd_counts_of  h⟩)
theorem ok_counts_of_1 {P : Program} {w : World} {K : PySem.W.Frag} {mg : Str → Option Value} {base : Heap} (T : TxB K mg base) : DOkN P w K mg base 2 (He.fAd K ("counts_of", none)) ["pieces"] [] (sp_counts_of K) := by
  obtain ⟨fd, F⟩ := T.d_counts_of
  exact ⟨fd, [], .nil, FunD.bindsN F fun _ _ _ _ _ _ us hl => match us, hl with | [_], _ => rfl, fn_counts_of T F, F.kp⟩
abbrev N_need_lengths : List Str := ["lengths", "room", "length"]
theorem sc_need_lengths : FnScope N_need_lengths ["lengths"] (defScope s_need_lengths) := ⟨rfl, rfl, rfl, by decide +kernel, rfl, by decide +kernel, by decide +kernel⟩
theorem wk_need_lengths {P : Program} {w : World} {K : PySem.W.Frag} {mg : Str → Option Value} {base : Heap} (T : TxB K mg base) (O0 : DOkN P w K mg base 1 (He.fAd K ("is_between", none)) ["thing", "least", "most"] [] (sp_is_between K)) {f : Addr} {cdv : Value} {A : Around} {outer : List Env} {s : Shared} {H : Hp} {E : XK} 
    (hr : Room 1 (A.deeper (envOfC "need_lengths" (defScope s_need_lengths) s.heap.objs.size f cdv))) :
    PSs (cxOf (L2N.CX P w) P w K mg base N_need_lengths "need_lengths" (defScope s_need_lengths) f cdv A outer s H E) (defBody s_need_lengths) (t_need_lengths K (fun c d _ H2 => E c d H2)) := by
  obtain ⟨fd0, ds0, v0, b0, G0, q0⟩ := O0
  have hu1 := hu_of hr
  have hu64 := hr.units
  have tk : L2N.Takes (cxOf (L2N.CX P w) P w K mg base N_need_lengths "need_lengths" (defScope s_need_lengths) f cdv A outer s H E) (fun c d _ H2 => E c d H2) := L2N.takes_of rfl rfl rfl rfl
  exact (pss_cons (ps_if (PW.pt (pw_or (pt_not (pt_val (pe_callB call_isi (by rfl) T.f_isinstance bb_isinstance (pa_cons (pv 0) (pa_cons (pe_bty rfl T.f_list bt_list) pa_nil))))) (pw_or1 (pt_not (pt_chain op_leU op_leU (pe_int) (pe_callB cr_lenK (by rfl) T.f_len bb_len (pa_cons (pv 0) pa_nil)) (pe_gint rfl T.g_MOST_THINGS)))))) (pss_one (ps_rzN rfl tk T.x_BadLengths T.g_BadLengths rfl)) pss_nil)
    (pss_cons (ps_set (i := 1) sc_need_lengths.nd rfl (Or.inl rfl) (pe_int))
    (pss_cons (ps_for (passes_of rfl) rfl (pi_list (pv 0)) (pg_name (i := 2) sc_need_lengths.nd rfl (Or.inl rfl)) (pss_cons (ps_if (pt_not (pt_val (pe_clN G0 (hr.mono (by decide)) rfl T.g_is_between q0 b0 v0 tk (pa_cons (pv 2) (pa_cons (pe_int) (pa_cons (pe_gint rfl T.g_MOST_LENGTH_shares) pa_nil)))))) (pss_one (ps_rzN rfl tk T.x_BadLengths T.g_BadLengths rfl)) pss_nil)
    (pss_one (ps_if (pt_cmpR op_gtU (pv 2) (pe_int) (nomark _)) (pss_one (ps_aug (i := 1) sc_need_lengths.nd rfl (Or.inl rfl) (pe_op op_shlU (pe_int) (pe_op op_subU (pe_gint rfl T.g_MOST_LENGTH_shares) (pv 2))) ip_addU)) pss_nil))))
    (pss_one (ps_if (pt_not (pt_chain op_ltU op_leU (pe_int) (pv 1) (pe_op op_shlU (pe_int) (pe_gint rfl T.g_MOST_LENGTH_shares)))) (pss_one (ps_rzN rfl tk T.x_BadLengths T.g_BadLengths rfl)) pss_nil)))))
theorem fn_need_lengths {P : Program} {w : World} {K : PySem.W.Frag} {mg : Str → Option Value} {base : Heap} (T : TxB K mg base) {f : Addr} {fd : FuncData} (F : FunD K d_need_lengths.name d_need_lengths.qual d_need_lengths.params d_need_lengths.body d_need_lengths.scope (d_need_lengths.dvs K) (d_need_lengths.kws K) f fd) :
    FnOk P w K mg base (L2N.CX P w) 2 f fd ["lengths"] (sp_need_lengths K) :=
  F.ok sc_need_lengths (fun vs H Q E h => len_need_lengths h) (fun cdv A outer s H vs Q E hr h => ⟨t_need_lengths K (fun c d _ H2 => E c d H2), wk_need_lengths T (ok_is_between_3 T) hr, rd_need_lengths  h⟩)
theorem ok_need_lengths_1 {P : Program} {w : World} {K : PySem.W.Frag} {mg : Str → Option Value} {base : Heap} (T : TxB K mg base) : DOkN P w K mg base 2 (He.fAd K ("need_lengths", none)) ["lengths"] [] (sp_need_lengths K) := by
  obtain ⟨fd, F⟩ := T.d_need_lengths
  exact ⟨fd, [], .nil, FunD.bindsN F fun _ _ _ _ _ _ us hl => match us, hl with | [_], _ => rfl, fn_need_lengths T F, F.kp⟩
abbrev N_codes_of : List Str := ["lengths", "found", "code", "last", "place", "length"]
theorem sc_codes_of : FnScope N_codes_of ["lengths"] (defScope s_codes_of) := ⟨rfl, rfl, rfl, by decide +kernel, rfl, by decide +kernel, by decide +kernel⟩
theorem wk_codes_of {P : Program} {w : World} {K : PySem.W.Frag} {mg : Str → Option Value} {base : Heap} (T : TxB K mg base) (O0 : DOkN P w K mg base 2 (He.fAd K ("need_lengths", none)) ["lengths"] [] (sp_need_lengths K)) {f : Addr} {cdv : Value} {A : Around} {outer : List Env} {s : Shared} {H : Hp} {E : XK} (hcode : cdv = .ref (He.cT K ("codes_of", none)).1)
    (hr : Room 2 (A.deeper (envOfC "codes_of" (defScope s_codes_of) s.heap.objs.size f cdv))) :
    PSs (cxOf (L2N.CX P w) P w K mg base N_codes_of "codes_of" (defScope s_codes_of) f cdv A outer s H E) (defBody s_codes_of) (t_codes_of K (fun c d _ H2 => E c d H2)) := by
  obtain ⟨fd0, ds0, v0, b0, G0, q0⟩ := O0
  have hu1 := hu_of hr
  have hu64 := hr.units
  have tk : L2N.Takes (cxOf (L2N.CX P w) P w K mg base N_codes_of "codes_of" (defScope s_codes_of) f cdv A outer s H E) (fun c d _ H2 => E c d H2) := L2N.takes_of rfl rfl rfl rfl
  exact (pss_cons (ps_expr (pe_clN G0 (hr.mono (by decide)) rfl T.g_need_lengths q0 b0 v0 tk (pa_cons (pv 0) pa_nil)))
    (pss_cons (ps_set (i := 1) sc_codes_of.nd rfl (Or.inl rfl) (pe_op op_mulU (pe_lst (pa_cons (pe_non) pa_nil)) (pe_callB cr_lenK (by rfl) T.f_len bb_len (pa_cons (pv 0) pa_nil))))
    (pss_cons (ps_set (i := 2) sc_codes_of.nd rfl (Or.inl rfl) (pe_int))
    (pss_cons (ps_set (i := 3) sc_codes_of.nd rfl (Or.inl rfl) (pe_int))
    (pss_cons (ps_for (passes_of rfl) rfl (pi_list ((pe_sortL rfl T.f_sorted (pa_cons (pe_callTy cr_rng1 (by rfl) T.f_range bt_range (pa_cons (pe_callB cr_lenK (by rfl) T.f_len bb_len (pa_cons (pv 0) pa_nil)) pa_nil)) pa_nil) rfl (hr.mono (by decide)) T.tb_codes_of hcode ⟨rfl, rfl, rfl, by decide +kernel, by decide +kernel, by decide +kernel, (by decide +kernel : ∀ y ∈ (_ : List (Str × NameKind)), y.2 = NameKind.free → List.lookup y.1 (defScope s_codes_of).names = some NameKind.cell)⟩ rfl rfl (by rfl) (fun _ _ _ _ _ => by rfl)))) (pg_name (i := 4) sc_codes_of.nd rfl (Or.inl rfl)) (pss_cons (ps_set (i := 5) sc_codes_of.nd rfl (Or.inl rfl) (pe_ix ix_seq (pv 0) (pv 4) (fun _ _ => rfl)))
    (pss_one (ps_if (pt_cmpR op_gtU (pv 5) (pe_int) (nomark _)) (pss_cons (ps_set (i := 2) sc_codes_of.nd rfl (Or.inl rfl) (pe_op op_shlU (pv 2) (pe_op op_subU (pv 5) (pv 3))))
    (pss_cons (ps_asg (pe_tup (pa_cons (pv 2) (pa_cons (pv 5) pa_nil))) (pg_sub (pv 1) (pv 4) set_list))
    (pss_cons (ps_aug (i := 2) sc_codes_of.nd rfl (Or.inl rfl) (pe_int) ip_addU)
    (pss_one (ps_set (i := 3) sc_codes_of.nd rfl (Or.inl rfl) (pv 5)))))) pss_nil))))
    (pss_one (ps_ret (pv 1))))))))
theorem fn_codes_of {P : Program} {w : World} {K : PySem.W.Frag} {mg : Str → Option Value} {base : Heap} (T : TxB K mg base) {fd : FuncData} (F : FunD K d_codes_of.name d_codes_of.qual d_codes_of.params d_codes_of.body d_codes_of.scope (d_codes_of.dvs K) (d_codes_of.kws K) (He.fAd K d_codes_of.at_) fd) :
    FnOk P w K mg base (L2N.CX P w) 3 (He.fAd K ("codes_of", none)) fd ["lengths"] (sp_codes_of K) :=
  FunD.okC ("codes_of", none) F sc_codes_of (fun vs H Q E h => len_codes_of h) (fun cdv A outer s H vs Q E hcode hr h => ⟨t_codes_of K (fun c d _ H2 => E c d H2), wk_codes_of T (ok_need_lengths_1 T) hcode hr, rd_codes_of  h⟩)
theorem ok_codes_of_1 {P : Program} {w : World} {K : PySem.W.Frag} {mg : Str → Option Value} {base : Heap} (T : TxB K mg base) : DOkN P w K mg base 3 (He.fAd K ("codes_of", none)) ["lengths"] [] (sp_codes_of K) := by
  obtain ⟨fd, F⟩ := T.d_codes_of
  exact ⟨fd, [], .nil, FunD.bindsN F fun _ _ _ _ _ _ us hl => match us, hl with | [_], _ => rfl, fn_codes_of T F, F.kp⟩
abbrev N_ShareWay_tell : List Str := ["self", "bits", "text", "before", "signs", "pieces", "lengths", "codes", "piece", "code", "length"]
theorem sc_ShareWay_tell : FnScope N_ShareWay_tell ["self", "bits", "text", "before"] (defScope s_ShareWay_tell) := ⟨rfl, rfl, rfl, by decide +kernel, rfl, by decide +kernel, by decide +kernel⟩
theorem wk_ShareWay_tell {P : Program} {w : World} {K : PySem.W.Frag} {mg : Str → Option Value} {base : Heap} (T : TxB K mg base) (O0 : DOkN P w K mg base 4 (He.fAd K ("need_text", none)) ["text"] [] (sp_need_text K)) (O1 : DOkN P w K mg base 4 (He.fAd K ("pieces_of", none)) ["text", "before"] [] (sp_pieces_of K)) (O2 : DOkN P w K mg base 4 (He.fAd K ("need_window_ways", none)) ["before"] [] (sp_need_window_ways K)) (O3 : DOkN P w K mg base 3 (He.fAd K ("lengths_of", none)) ["counts", "most"] [.int 6] (sp_lengths_of K)) (O4 : DOkN P w K mg base 2 (He.fAd K ("counts_of", none)) ["pieces"] [] (sp_counts_of K)) (O5 : DOkN P w K mg base 4 (He.fAd K ("put_table", none)) ["bits", "lengths"] [] (sp_put_table K)) (O6 : DOkN P w K mg base 3 (He.fAd K ("codes_of", none)) ["lengths"] [] (sp_codes_of K)) (O7 : DOkN P w K mg base 1 (He.fAd K ("thing_of", none)) ["piece"] [] (sp_thing_of K)) (O8 : DOkN P w K mg base 3 (He.fAd K ("BitRow", some "put")) ["self", "number", "size"] [] (sp_BitRow_put K)) {f : Addr} {cdv : Value} {A : Around} {outer : List Env} {s : Shared} {H : Hp} {E : XK} 
    (hr : Room 4 (A.deeper (envOfC "ShareWay.tell" (defScope s_ShareWay_tell) s.heap.objs.size f cdv))) :
    PSs (cxOf (L2N.CX P w) P w K mg base N_ShareWay_tell "ShareWay.tell" (defScope s_ShareWay_tell) f cdv A outer s H E) (defBody s_ShareWay_tell) (t_ShareWay_tell K (fun c d _ H2 => E c d H2)) := by
  obtain ⟨fd0, ds0, v0, b0, G0, q0⟩ := O0
  obtain ⟨fd1, ds1, v1, b1, G1, q1⟩ := O1
  obtain ⟨fd2, ds2, v2, b2, G2, q2⟩ := O2
  obtain ⟨fd3, ds3, v3, b3, G3, q3⟩ := O3
  obtain ⟨fd4, ds4, v4, b4, G4, q4⟩ := O4
  obtain ⟨fd5, ds5, v5, b5, G5, q5⟩ := O5
  obtain ⟨fd6, ds6, v6, b6, G6, q6⟩ := O6
  obtain ⟨fd7, ds7, v7, b7, G7, q7⟩ := O7
  obtain ⟨fd8, ds8, v8, b8, G8, q8⟩ := O8
  have hu1 := hu_of hr
  have hu64 := hr.units
  have tk : L2N.Takes (cxOf (L2N.CX P w) P w K mg base N_ShareWay_tell "ShareWay.tell" (defScope s_ShareWay_tell) f cdv A outer s H E) (fun c d _ H2 => E c d H2) := L2N.takes_of rfl rfl rfl rfl
  exact (pss_cons (ps_set (i := 4) sc_ShareWay_tell.nd rfl (Or.inl rfl) (pe_clN G0 (hr.mono (by decide)) rfl T.g_need_text q0 b0 v0 tk (pa_cons (pv 2) pa_nil)))
    (pss_cons (ps_set (i := 5) sc_ShareWay_tell.nd rfl (Or.inl rfl) (pe_clN G1 (hr.mono (by decide)) rfl T.g_pieces_of q1 b1 v1 tk (pa_cons (pv 4) (pa_cons (pe_clN G2 (hr.mono (by decide)) rfl T.g_need_window_ways q2 b2 v2 tk (pa_cons (pv 3) pa_nil)) pa_nil))))
    (pss_cons (ps_set (i := 6) sc_ShareWay_tell.nd rfl (Or.inl rfl) (pe_clN G3 (hr.mono (by decide)) rfl T.g_lengths_of q3 b3 v3 tk (pa_cons (pe_clN G4 (hr.mono (by decide)) rfl T.g_counts_of q4 b4 v4 tk (pa_cons (pv 5) pa_nil)) pa_nil)))
    (pss_cons (ps_expr (pe_clN G5 (hr.mono (by decide)) rfl T.g_put_table q5 b5 v5 tk (pa_cons (pv 1) (pa_cons (pv 6) pa_nil))))
    (pss_cons (ps_set (i := 7) sc_ShareWay_tell.nd rfl (Or.inl rfl) (pe_clN G6 (hr.mono (by decide)) rfl T.g_codes_of q6 b6 v6 tk (pa_cons (pv 6) pa_nil)))
    (pss_one (ps_for (passes_of rfl) rfl (pi_list (pv 5)) (pg_name (i := 8) sc_ShareWay_tell.nd rfl (Or.inl rfl)) (pss_cons (ps_asg (pe_ix ix_seq (pv 7) (pe_clN G7 (hr.mono (by decide)) rfl T.g_thing_of q7 b7 v7 tk (pa_cons (pv 8) pa_nil)) (fun _ _ => rfl)) (pg_tup rfl (pgs_cons (pg_name (i := 9) sc_ShareWay_tell.nd rfl (Or.inl rfl)) (pgs_cons (pg_name (i := 10) sc_ShareWay_tell.nd rfl (Or.inl rfl)) pgs_nil))))
    (pss_cons (ps_expr (pe_mtN (pv 1) T.c_BitRow T.m_BitRow_put G8 (hr.mono (by decide)) b8 v8 tk (pa_cons (pv 9) (pa_cons (pv 10) pa_nil))))
    (pss_one (ps_if (pt_cmpR (op_eqU hu64) (pe_ix ix_seq (pv 8) (pe_int) (fun _ _ => rfl)) (pe_str) (nomark _)) (pss_one (ps_expr (pe_mtN (pv 1) T.c_BitRow T.m_BitRow_put G8 (hr.mono (by decide)) b8 v8 tk (pa_cons (pe_ix ix_seq (pv 8) (pe_int) (fun _ _ => rfl)) (pa_cons (pe_int) pa_nil))))) pss_nil)))))))))))
theorem fn_ShareWay_tell {P : Program} {w : World} {K : PySem.W.Frag} {mg : Str → Option Value} {base : Heap} (T : TxB K mg base) {f : Addr} {fd : FuncData} (F : FunD K d_ShareWay_tell.name d_ShareWay_tell.qual d_ShareWay_tell.params d_ShareWay_tell.body d_ShareWay_tell.scope (d_ShareWay_tell.dvs K) (d_ShareWay_tell.kws K) f fd) :
    FnOk P w K mg base (L2N.CX P w) 5 f fd ["self", "bits", "text", "before"] (sp_ShareWay_tell K) :=
  F.ok sc_ShareWay_tell (fun vs H Q E h => len_ShareWay_tell h) (fun cdv A outer s H vs Q E hr h => ⟨t_ShareWay_tell K (fun c d _ H2 => E c d H2), wk_ShareWay_tell T (ok_need_text_1 T) (ok_pieces_of_2 T) (ok_need_window_ways_1 T) (ok_lengths_of_1 T) (ok_counts_of_1 T) (ok_put_table_2 T) (ok_codes_of_1 T) (ok_thing_of_1 T) (ok_BitRow_put_3 T) hr, rd_ShareWay_tell (of_KBitRow T.toTx) h⟩)
theorem ok_ShareWay_tell_4 {P : Program} {w : World} {K : PySem.W.Frag} {mg : Str → Option Value} {base : Heap} (T : TxB K mg base) : DOkN P w K mg base 5 (He.fAd K ("ShareWay", some "tell")) ["self", "bits", "text", "before"] [] (sp_ShareWay_tell K) := by
  obtain ⟨fd, F⟩ := T.d_ShareWay_tell
  exact ⟨fd, [], .nil, FunD.bindsN F fun _ _ _ _ _ _ us hl => match us, hl with | [_, _, _, _], _ => rfl, fn_ShareWay_tell T F, F.kp⟩
abbrev N__law_row_of : List Str := ["_law_digits_here", "_law_found", "_law_filled", "_law_k", "_law_number", "_law_digit"]
theorem sc__law_row_of : FnScope N__law_row_of ["_law_digits_here"] (defScope s__law_row_of) := ⟨rfl, rfl, rfl, by decide +kernel, rfl, by decide +kernel, by decide +kernel⟩
theorem wk__law_row_of {P : Program} {w : World} {K : PySem.W.Frag} {mg : Str → Option Value} {base : Heap} (T : TxB K mg base)  {f : Addr} {cdv : Value} {A : Around} {outer : List Env} {s : Shared} {H : Hp} {E : XK} 
    (hr : Room 0 (A.deeper (envOfC "_law_row_of" (defScope s__law_row_of) s.heap.objs.size f cdv))) :
    PSs (cxOf (L2N.CX P w) P w K mg base N__law_row_of "_law_row_of" (defScope s__law_row_of) f cdv A outer s H E) (defBody s__law_row_of) (t__law_row_of K (fun c d _ H2 => E c d H2)) := by
  have hu1 := hu_of hr
  have hu64 := hr.units
  have tk : L2N.Takes (cxOf (L2N.CX P w) P w K mg base N__law_row_of "_law_row_of" (defScope s__law_row_of) f cdv A outer s H E) (fun c d _ H2 => E c d H2) := L2N.takes_of rfl rfl rfl rfl
  exact (pss_cons (ps_set (i := 1) sc__law_row_of.nd rfl (Or.inl rfl) (pe_lst pa_nil))
    (pss_cons (ps_set (i := 2) sc__law_row_of.nd rfl (Or.inl rfl) (pe_op op_addU (pv 0) (pe_op op_mulU (pe_str) (pe_op op_modU (pe_op op_subU (pe_int) (pe_op op_modU (pe_callB cr_lenK (by rfl) T.f_len bb_len (pa_cons (pv 0) pa_nil)) (pe_int))) (pe_int)))))
    (pss_cons (ps_for (passes_of rfl) rfl (pi_range3 rfl T.f_range (pa_cons (pe_int) (pa_cons (pe_callB cr_lenK (by rfl) T.f_len bb_len (pa_cons (pv 2) pa_nil)) (pa_cons (pe_int) pa_nil)))) (pg_name (i := 3) sc__law_row_of.nd rfl (Or.inl rfl)) (pss_cons (ps_set (i := 4) sc__law_row_of.nd rfl (Or.inl rfl) (pe_int))
    (pss_cons (ps_for (passes_of rfl) rfl (pi_str (pe_slice sl_K (pv 2) (po_some (pv 3)) (po_some (pe_op op_addU (pv 3) (pe_int))))) (pg_name (i := 5) sc__law_row_of.nd rfl (Or.inl rfl)) (pss_one (ps_set (i := 4) sc__law_row_of.nd rfl (Or.inl rfl) (pe_op op_addU (pe_op op_mulU (pe_int) (pv 4)) (pe_callTy cr_intK (by rfl) T.f_int bt_int (pa_cons (pe_cmpR (op_eqU hu64) (pv 5) (pe_str) (nomark _)) pa_nil))))))
    (pss_one (ps_expr (pe_bm PySem.F.plainAttrs_list PySem.F.slot_list_append PySem.F.type_list_append mt_append (pv 1) (pa_cons (pv 4) pa_nil)))))))
    (pss_one (ps_ret (pv 1))))))
theorem fn__law_row_of {P : Program} {w : World} {K : PySem.W.Frag} {mg : Str → Option Value} {base : Heap} (T : TxB K mg base) {f : Addr} {fd : FuncData} (F : FunD K d__law_row_of.name d__law_row_of.qual d__law_row_of.params d__law_row_of.body d__law_row_of.scope (d__law_row_of.dvs K) (d__law_row_of.kws K) f fd) :
    FnOk P w K mg base (L2N.CX P w) 1 f fd ["_law_digits_here"] (sp__law_row_of K) :=
  F.ok sc__law_row_of (fun vs H Q E h => len__law_row_of h) (fun cdv A outer s H vs Q E hr h => ⟨t__law_row_of K (fun c d _ H2 => E c d H2), wk__law_row_of T  hr, rd__law_row_of  h⟩)
theorem ok__law_row_of_1 {P : Program} {w : World} {K : PySem.W.Frag} {mg : Str → Option Value} {base : Heap} (T : TxB K mg base) : DOkN P w K mg base 1 (He.fAd K ("_law_row_of", none)) ["_law_digits_here"] [] (sp__law_row_of K) := by
  obtain ⟨fd, F⟩ := T.d__law_row_of
  exact ⟨fd, [], .nil, FunD.bindsN F fun _ _ _ _ _ _ us hl => match us, hl with | [_], _ => rfl, fn__law_row_of T F, F.kp⟩
abbrev N_Way_cost : List Str := ["self", "text", "before", "bits"]
theorem sc_Way_cost : FnScope N_Way_cost ["self", "text", "before"] (defScope s_Way_cost) := ⟨rfl, rfl, rfl, by decide +kernel, rfl, by decide +kernel, by decide +kernel⟩
theorem wk_Way_cost {P : Program} {w : World} {K : PySem.W.Frag} {mg : Str → Option Value} {base : Heap} (T : TxB K mg base) (O0 : DOkN P w K mg base 1 (He.fAd K ("BitRow", some "__init__")) ["self"] [] (sp_BitRow___init__ K)) (O1 : DOkN P w K mg base 5 (He.fAd K ("Way", some "tell")) ["self", "bits", "text", "before"] [] (sp_Way_tell K)) (O2 : DOkN P w K mg base 5 (He.fAd K ("ShareWay", some "tell")) ["self", "bits", "text", "before"] [] (sp_ShareWay_tell K)) (O3 : DOkN P w K mg base 1 (He.fAd K ("BitRow", some "many")) ["self"] [] (sp_BitRow_many K)) {f : Addr} {cdv : Value} {A : Around} {outer : List Env} {s : Shared} {H : Hp} {E : XK} 
    (hr : Room 5 (A.deeper (envOfC "Way.cost" (defScope s_Way_cost) s.heap.objs.size f cdv))) :
    PSs (cxOf (L2N.CX P w) P w K mg base N_Way_cost "Way.cost" (defScope s_Way_cost) f cdv A outer s H E) (defBody s_Way_cost) (t_Way_cost K (fun c d _ H2 => E c d H2)) := by
  obtain ⟨fd0, ds0, v0, b0, G0, q0⟩ := O0
  obtain ⟨fd1, ds1, v1, b1, G1, q1⟩ := O1
  obtain ⟨fd2, ds2, v2, b2, G2, q2⟩ := O2
  obtain ⟨fd3, ds3, v3, b3, G3, q3⟩ := O3
  have hu1 := hu_of hr
  have hu64 := hr.units
  have tk : L2N.Takes (cxOf (L2N.CX P w) P w K mg base N_Way_cost "Way.cost" (defScope s_Way_cost) f cdv A outer s H E) (fun c d _ H2 => E c d H2) := L2N.takes_of rfl rfl rfl rfl
  exact (pss_cons (ps_set (i := 3) sc_Way_cost.nd rfl (Or.inl rfl) (pe_mk0N T.k_BitRow G0 (hr.mono (by decide)) rfl T.g_BitRow b0 v0 tk))
    (pss_cons (ps_expr (pe_orE (pe_mtN (pv 0) T.c_Way T.m_Way_tell G1 (hr.mono (by decide)) b1 v1 tk (pa_cons (pv 3) (pa_cons (pv 1) (pa_cons (pv 2) pa_nil)))) (pe_mtN (pv 0) T.c_ShareWay T.m_ShareWay_tell G2 (hr.mono (by decide)) b2 v2 tk (pa_cons (pv 3) (pa_cons (pv 1) (pa_cons (pv 2) pa_nil))))))
    (pss_one (ps_ret (pe_mt0N (pv 3) T.c_BitRow T.m_BitRow_many G3 (hr.mono (by decide)) b3 v3 tk)))))
theorem fn_Way_cost {P : Program} {w : World} {K : PySem.W.Frag} {mg : Str → Option Value} {base : Heap} (T : TxB K mg base) {f : Addr} {fd : FuncData} (F : FunD K d_Way_cost.name d_Way_cost.qual d_Way_cost.params d_Way_cost.body d_Way_cost.scope (d_Way_cost.dvs K) (d_Way_cost.kws K) f fd) :
    FnOk P w K mg base (L2N.CX P w) 6 f fd ["self", "text", "before"] (sp_Way_cost K) :=
  F.ok sc_Way_cost (fun vs H Q E h => len_Way_cost h) (fun cdv A outer s H vs Q E hr h => ⟨t_Way_cost K (fun c d _ H2 => E c d H2), wk_Way_cost T (ok_BitRow___init___1 T) (ok_Way_tell_4 T) (ok_ShareWay_tell_4 T) (ok_BitRow_many_1 T) hr, rd_Way_cost  h⟩)
theorem ok_Way_cost_3 {P : Program} {w : World} {K : PySem.W.Frag} {mg : Str → Option Value} {base : Heap} (T : TxB K mg base) : DOkN P w K mg base 6 (He.fAd K ("Way", some "cost")) ["self", "text", "before"] [] (sp_Way_cost K) := by
  obtain ⟨fd, F⟩ := T.d_Way_cost
  exact ⟨fd, [], .nil, FunD.bindsN F fun _ _ _ _ _ _ us hl => match us, hl with | [_, _, _], _ => rfl, fn_Way_cost T F, F.kp⟩
abbrev N_BitReader___init__ : List Str := ["self", "row"]
theorem sc_BitReader___init__ : FnScope N_BitReader___init__ ["self", "row"] (defScope s_BitReader___init__) := ⟨rfl, rfl, rfl, by decide +kernel, rfl, by decide +kernel, by decide +kernel⟩
theorem wk_BitReader___init__ {P : Program} {w : World} {K : PySem.W.Frag} {mg : Str → Option Value} {base : Heap} (T : TxB K mg base) (O0 : DOkN P w K mg base 3 (He.fAd K ("need_row", none)) ["thing"] [] (sp_need_row K)) {f : Addr} {cdv : Value} {A : Around} {outer : List Env} {s : Shared} {H : Hp} {E : XK} 
    (hr : Room 3 (A.deeper (envOfC "BitReader.__init__" (defScope s_BitReader___init__) s.heap.objs.size f cdv))) :
    PSs (cxOf (L2N.CX P w) P w K mg base N_BitReader___init__ "BitReader.__init__" (defScope s_BitReader___init__) f cdv A outer s H E) (defBody s_BitReader___init__) (t_BitReader___init__ K (fun c d _ H2 => E c d H2)) := by
  obtain ⟨fd0, ds0, v0, b0, G0, q0⟩ := O0
  have hu1 := hu_of hr
  have hu64 := hr.units
  have tk : L2N.Takes (cxOf (L2N.CX P w) P w K mg base N_BitReader___init__ "BitReader.__init__" (defScope s_BitReader___init__) f cdv A outer s H E) (fun c d _ H2 => E c d H2) := L2N.takes_of rfl rfl rfl rfl
  exact (pss_cons (ps_fld (pv 0) (pe_clN G0 (hr.mono (by decide)) rfl T.g_need_row q0 b0 v0 tk (pa_cons (pv 1) pa_nil)) rfl)
    (pss_one (ps_fld (pv 0) (pe_int) rfl)))
theorem fn_BitReader___init__ {P : Program} {w : World} {K : PySem.W.Frag} {mg : Str → Option Value} {base : Heap} (T : TxB K mg base) {f : Addr} {fd : FuncData} (F : FunD K d_BitReader___init__.name d_BitReader___init__.qual d_BitReader___init__.params d_BitReader___init__.body d_BitReader___init__.scope (d_BitReader___init__.dvs K) (d_BitReader___init__.kws K) f fd) :
    FnOk P w K mg base (L2N.CX P w) 4 f fd ["self", "row"] (sp_BitReader___init__ K) :=
  F.ok sc_BitReader___init__ (fun vs H Q E h => len_BitReader___init__ h) (fun cdv A outer s H vs Q E hr h => ⟨t_BitReader___init__ K (fun c d _ H2 => E c d H2), wk_BitReader___init__ T (ok_need_row_1 T) hr, rd_BitReader___init__ (of_KBitReader T.toTx) h⟩)
theorem ok_BitReader___init___2 {P : Program} {w : World} {K : PySem.W.Frag} {mg : Str → Option Value} {base : Heap} (T : TxB K mg base) : DOkN P w K mg base 4 (He.fAd K ("BitReader", some "__init__")) ["self", "row"] [] (sp_BitReader___init__ K) := by
  obtain ⟨fd, F⟩ := T.d_BitReader___init__
  exact ⟨fd, [], .nil, FunD.bindsN F fun _ _ _ _ _ _ us hl => match us, hl with | [_, _], _ => rfl, fn_BitReader___init__ T F, F.kp⟩
abbrev N_BitReader_left : List Str := ["self"]
theorem sc_BitReader_left : FnScope N_BitReader_left ["self"] (defScope s_BitReader_left) := ⟨rfl, rfl, rfl, by decide +kernel, rfl, by decide +kernel, by decide +kernel⟩
theorem wk_BitReader_left {P : Program} {w : World} {K : PySem.W.Frag} {mg : Str → Option Value} {base : Heap} (T : TxB K mg base)  {f : Addr} {cdv : Value} {A : Around} {outer : List Env} {s : Shared} {H : Hp} {E : XK} 
    (hr : Room 0 (A.deeper (envOfC "BitReader.left" (defScope s_BitReader_left) s.heap.objs.size f cdv))) :
    PSs (cxOf (L2N.CX P w) P w K mg base N_BitReader_left "BitReader.left" (defScope s_BitReader_left) f cdv A outer s H E) (defBody s_BitReader_left) (t_BitReader_left K (fun c d _ H2 => E c d H2)) := by
  have hu1 := hu_of hr
  have hu64 := hr.units
  have tk : L2N.Takes (cxOf (L2N.CX P w) P w K mg base N_BitReader_left "BitReader.left" (defScope s_BitReader_left) f cdv A outer s H E) (fun c d _ H2 => E c d H2) := L2N.takes_of rfl rfl rfl rfl
  exact (pss_one (ps_ret (pe_op op_subU (pe_op op_mulU (pe_gint rfl T.g_BYTE) (pe_callB cr_lenK (by rfl) T.f_len bb_len (pa_cons (pe_fld (pv 0) rfl) pa_nil))) (pe_fld (pv 0) rfl))))
theorem fn_BitReader_left {P : Program} {w : World} {K : PySem.W.Frag} {mg : Str → Option Value} {base : Heap} (T : TxB K mg base) {f : Addr} {fd : FuncData} (F : FunD K d_BitReader_left.name d_BitReader_left.qual d_BitReader_left.params d_BitReader_left.body d_BitReader_left.scope (d_BitReader_left.dvs K) (d_BitReader_left.kws K) f fd) :
    FnOk P w K mg base (L2N.CX P w) 1 f fd ["self"] (sp_BitReader_left K) :=
  F.ok sc_BitReader_left (fun vs H Q E h => len_BitReader_left h) (fun cdv A outer s H vs Q E hr h => ⟨t_BitReader_left K (fun c d _ H2 => E c d H2), wk_BitReader_left T  hr, rd_BitReader_left (of_KBitReader T.toTx) h⟩)
theorem ok_BitReader_left_1 {P : Program} {w : World} {K : PySem.W.Frag} {mg : Str → Option Value} {base : Heap} (T : TxB K mg base) : DOkN P w K mg base 1 (He.fAd K ("BitReader", some "left")) ["self"] [] (sp_BitReader_left K) := by
  obtain ⟨fd, F⟩ := T.d_BitReader_left
  exact ⟨fd, [], .nil, FunD.bindsN F fun _ _ _ _ _ _ us hl => match us, hl with | [_], _ => rfl, fn_BitReader_left T F, F.kp⟩
abbrev N_BitReader_take : List Str := ["self", "size", "begin", "over", "end", "rest", "number", "byte"]
theorem sc_BitReader_take : FnScope N_BitReader_take ["self", "size"] (defScope s_BitReader_take) := ⟨rfl, rfl, rfl, by decide +kernel, rfl, by decide +kernel, by decide +kernel⟩
theorem wk_BitReader_take {P : Program} {w : World} {K : PySem.W.Frag} {mg : Str → Option Value} {base : Heap} (T : TxB K mg base) (O0 : DOkN P w K mg base 2 (He.fAd K ("need_size", none)) ["size"] [] (sp_need_size K)) (O1 : DOkN P w K mg base 1 (He.fAd K ("BitReader", some "left")) ["self"] [] (sp_BitReader_left K)) {f : Addr} {cdv : Value} {A : Around} {outer : List Env} {s : Shared} {H : Hp} {E : XK} 
    (hr : Room 2 (A.deeper (envOfC "BitReader.take" (defScope s_BitReader_take) s.heap.objs.size f cdv))) :
    PSs (cxOf (L2N.CX P w) P w K mg base N_BitReader_take "BitReader.take" (defScope s_BitReader_take) f cdv A outer s H E) (defBody s_BitReader_take) (t_BitReader_take K (fun c d _ H2 => E c d H2)) := by
  obtain ⟨fd0, ds0, v0, b0, G0, q0⟩ := O0
  obtain ⟨fd1, ds1, v1, b1, G1, q1⟩ := O1
  have hu1 := hu_of hr
  have hu64 := hr.units
  have tk : L2N.Takes (cxOf (L2N.CX P w) P w K mg base N_BitReader_take "BitReader.take" (defScope s_BitReader_take) f cdv A outer s H E) (fun c d _ H2 => E c d H2) := L2N.takes_of rfl rfl rfl rfl
  exact (pss_cons (ps_expr (pe_clN G0 (hr.mono (by decide)) rfl T.g_need_size q0 b0 v0 tk (pa_cons (pv 1) pa_nil)))
    (pss_cons (ps_if (pt_cmpR op_ltU (pe_mt0N (pv 0) T.c_BitReader T.m_BitReader_left G1 (hr.mono (by decide)) b1 v1 tk) (pv 1) (nomark _)) (pss_one (ps_rzN rfl tk T.x_NoBits T.g_NoBits rfl)) pss_nil)
    (pss_cons (ps_asg (pe_callB cr_divmodK (by rfl) T.f_divmod bb_divmod (pa_cons (pe_fld (pv 0) rfl) (pa_cons (pe_gint rfl T.g_BYTE) pa_nil))) (pg_tup rfl (pgs_cons (pg_name (i := 2) sc_BitReader_take.nd rfl (Or.inl rfl)) (pgs_cons (pg_name (i := 3) sc_BitReader_take.nd rfl (Or.inl rfl)) pgs_nil))))
    (pss_cons (ps_asg (pe_callB cr_divmodK (by rfl) T.f_divmod bb_divmod (pa_cons (pe_op op_subU (pe_op op_addU (pe_op op_addU (pe_fld (pv 0) rfl) (pv 1)) (pe_gint rfl T.g_BYTE)) (pe_int)) (pa_cons (pe_gint rfl T.g_BYTE) pa_nil))) (pg_tup rfl (pgs_cons (pg_name (i := 4) sc_BitReader_take.nd rfl (Or.inl rfl)) (pgs_cons (pg_name (i := 5) sc_BitReader_take.nd rfl (Or.inl rfl)) pgs_nil))))
    (pss_cons (ps_set (i := 6) sc_BitReader_take.nd rfl (Or.inl rfl) (pe_int))
    (pss_cons (ps_for (passes_of rfl) rfl (pi_list (pe_slice sl_K (pe_fld (pv 0) rfl) (po_some (pv 2)) (po_some (pv 4)))) (pg_name (i := 7) sc_BitReader_take.nd rfl (Or.inl rfl)) (pss_one (ps_set (i := 6) sc_BitReader_take.nd rfl (Or.inl rfl) (pe_op op_orU (pe_op op_shlU (pv 6) (pe_gint rfl T.g_BYTE)) (pv 7)))))
    (pss_cons (ps_set (i := 6) sc_BitReader_take.nd rfl (Or.inl rfl) (pe_op op_andU (pv 6) (pe_op op_subU (pe_op op_shlU (pe_int) (pe_op op_subU (pe_op op_mulU (pe_gint rfl T.g_BYTE) (pe_op op_subU (pv 4) (pv 2))) (pv 3))) (pe_int))))
    (pss_cons (ps_fldaug (pv 0) (pv 1) in_add)
    (pss_one (ps_ret (pe_op op_shrU (pv 6) (pe_op op_subU (pe_op op_subU (pe_gint rfl T.g_BYTE) (pe_int)) (pv 5)))))))))))))
theorem fn_BitReader_take {P : Program} {w : World} {K : PySem.W.Frag} {mg : Str → Option Value} {base : Heap} (T : TxB K mg base) {f : Addr} {fd : FuncData} (F : FunD K d_BitReader_take.name d_BitReader_take.qual d_BitReader_take.params d_BitReader_take.body d_BitReader_take.scope (d_BitReader_take.dvs K) (d_BitReader_take.kws K) f fd) :
    FnOk P w K mg base (L2N.CX P w) 3 f fd ["self", "size"] (sp_BitReader_take K) :=
  F.ok sc_BitReader_take (fun vs H Q E h => len_BitReader_take h) (fun cdv A outer s H vs Q E hr h => ⟨t_BitReader_take K (fun c d _ H2 => E c d H2), wk_BitReader_take T (ok_need_size_1 T) (ok_BitReader_left_1 T) hr, rd_BitReader_take (of_KBitReader T.toTx) h⟩)
theorem ok_BitReader_take_2 {P : Program} {w : World} {K : PySem.W.Frag} {mg : Str → Option Value} {base : Heap} (T : TxB K mg base) : DOkN P w K mg base 3 (He.fAd K ("BitReader", some "take")) ["self", "size"] [] (sp_BitReader_take K) := by
  obtain ⟨fd, F⟩ := T.d_BitReader_take
  exact ⟨fd, [], .nil, FunD.bindsN F fun _ _ _ _ _ _ us hl => match us, hl with | [_, _], _ => rfl, fn_BitReader_take T F, F.kp⟩
abbrev N_Way_read : List Str := ["self", "reader", "count", "before"]
theorem sc_Way_read : FnScope N_Way_read ["self", "reader", "count", "before"] (defScope s_Way_read) := ⟨rfl, rfl, rfl, by decide +kernel, rfl, by decide +kernel, by decide +kernel⟩
theorem wk_Way_read {P : Program} {w : World} {K : PySem.W.Frag} {mg : Str → Option Value} {base : Heap} (T : TxB K mg base)  {f : Addr} {cdv : Value} {A : Around} {outer : List Env} {s : Shared} {H : Hp} {E : XK} 
    (hr : Room 0 (A.deeper (envOfC "Way.read" (defScope s_Way_read) s.heap.objs.size f cdv))) :
    PSs (cxOf (L2N.CX P w) P w K mg base N_Way_read "Way.read" (defScope s_Way_read) f cdv A outer s H E) (defBody s_Way_read) (t_Way_read K (fun c d _ H2 => E c d H2)) := by
  have hu1 := hu_of hr
  have hu64 := hr.units
  have tk : L2N.Takes (cxOf (L2N.CX P w) P w K mg base N_Way_read "Way.read" (defScope s_Way_read) f cdv A outer s H E) (fun c d _ H2 => E c d H2) := L2N.takes_of rfl rfl rfl rfl
  exact (pss_one (ps_ret (pe_lst pa_nil)))
theorem fn_Way_read {P : Program} {w : World} {K : PySem.W.Frag} {mg : Str → Option Value} {base : Heap} (T : TxB K mg base) {f : Addr} {fd : FuncData} (F : FunD K d_Way_read.name d_Way_read.qual d_Way_read.params d_Way_read.body d_Way_read.scope (d_Way_read.dvs K) (d_Way_read.kws K) f fd) :
    FnOk P w K mg base (L2N.CX P w) 1 f fd ["self", "reader", "count", "before"] (sp_Way_read K) :=
  F.ok sc_Way_read (fun vs H Q E h => len_Way_read h) (fun cdv A outer s H vs Q E hr h => ⟨t_Way_read K (fun c d _ H2 => E c d H2), wk_Way_read T  hr, rd_Way_read  h⟩)
theorem ok_Way_read_4 {P : Program} {w : World} {K : PySem.W.Frag} {mg : Str → Option Value} {base : Heap} (T : TxB K mg base) : DOkN P w K mg base 1 (He.fAd K ("Way", some "read")) ["self", "reader", "count", "before"] [] (sp_Way_read K) := by
  obtain ⟨fd, F⟩ := T.d_Way_read
  exact ⟨fd, [], .nil, FunD.bindsN F fun _ _ _ _ _ _ us hl => match us, hl with | [_, _, _, _], _ => rfl, fn_Way_read T F, F.kp⟩
abbrev N_BitReader_place : List Str := ["self"]
theorem sc_BitReader_place : FnScope N_BitReader_place ["self"] (defScope s_BitReader_place) := ⟨rfl, rfl, rfl, by decide +kernel, rfl, by decide +kernel, by decide +kernel⟩
theorem wk_BitReader_place {P : Program} {w : World} {K : PySem.W.Frag} {mg : Str → Option Value} {base : Heap} (T : TxB K mg base)  {f : Addr} {cdv : Value} {A : Around} {outer : List Env} {s : Shared} {H : Hp} {E : XK} 
    (hr : Room 0 (A.deeper (envOfC "BitReader.place" (defScope s_BitReader_place) s.heap.objs.size f cdv))) :
    PSs (cxOf (L2N.CX P w) P w K mg base N_BitReader_place "BitReader.place" (defScope s_BitReader_place) f cdv A outer s H E) (defBody s_BitReader_place) (t_BitReader_place K (fun c d _ H2 => E c d H2)) := by
  have hu1 := hu_of hr
  have hu64 := hr.units
  have tk : L2N.Takes (cxOf (L2N.CX P w) P w K mg base N_BitReader_place "BitReader.place" (defScope s_BitReader_place) f cdv A outer s H E) (fun c d _ H2 => E c d H2) := L2N.takes_of rfl rfl rfl rfl
  exact (pss_one (ps_ret (pe_fld (pv 0) rfl)))
theorem fn_BitReader_place {P : Program} {w : World} {K : PySem.W.Frag} {mg : Str → Option Value} {base : Heap} (T : TxB K mg base) {f : Addr} {fd : FuncData} (F : FunD K d_BitReader_place.name d_BitReader_place.qual d_BitReader_place.params d_BitReader_place.body d_BitReader_place.scope (d_BitReader_place.dvs K) (d_BitReader_place.kws K) f fd) :
    FnOk P w K mg base (L2N.CX P w) 1 f fd ["self"] (sp_BitReader_place K) :=
  F.ok sc_BitReader_place (fun vs H Q E h => len_BitReader_place h) (fun cdv A outer s H vs Q E hr h => ⟨t_BitReader_place K (fun c d _ H2 => E c d H2), wk_BitReader_place T  hr, rd_BitReader_place (of_KBitReader T.toTx) h⟩)
theorem ok_BitReader_place_1 {P : Program} {w : World} {K : PySem.W.Frag} {mg : Str → Option Value} {base : Heap} (T : TxB K mg base) : DOkN P w K mg base 1 (He.fAd K ("BitReader", some "place")) ["self"] [] (sp_BitReader_place K) := by
  obtain ⟨fd, F⟩ := T.d_BitReader_place
  exact ⟨fd, [], .nil, FunD.bindsN F fun _ _ _ _ _ _ us hl => match us, hl with | [_], _ => rfl, fn_BitReader_place T F, F.kp⟩
abbrev N_items_read : List Str := ["reader", "found", "last", "item"]
theorem sc_items_read : FnScope N_items_read ["reader"] (defScope s_items_read) := ⟨rfl, rfl, rfl, by decide +kernel, rfl, by decide +kernel, by decide +kernel⟩
theorem wk_items_read {P : Program} {w : World} {K : PySem.W.Frag} {mg : Str → Option Value} {base : Heap} (T : TxB K mg base) (O0 : DOkN P w K mg base 3 (He.fAd K ("BitReader", some "take")) ["self", "size"] [] (sp_BitReader_take K)) {f : Addr} {cdv : Value} {A : Around} {outer : List Env} {s : Shared} {H : Hp} {E : XK} 
    (hr : Room 3 (A.deeper (envOfC "items_read" (defScope s_items_read) s.heap.objs.size f cdv))) :
    PSs (cxOf (L2N.CX P w) P w K mg base N_items_read "items_read" (defScope s_items_read) f cdv A outer s H E) (defBody s_items_read) (t_items_read K (fun c d _ H2 => E c d H2)) := by
  obtain ⟨fd0, ds0, v0, b0, G0, q0⟩ := O0
  have hu1 := hu_of hr
  have hu64 := hr.units
  have tk : L2N.Takes (cxOf (L2N.CX P w) P w K mg base N_items_read "items_read" (defScope s_items_read) f cdv A outer s H E) (fun c d _ H2 => E c d H2) := L2N.takes_of rfl rfl rfl rfl
  exact (pss_cons (ps_set (i := 1) sc_items_read.nd rfl (Or.inl rfl) (pe_lst pa_nil))
    (pss_cons (ps_set (i := 2) sc_items_read.nd rfl (Or.inl rfl) (pe_int))
    (pss_cons (ps_while (passes_of rfl) (pt_cmpR op_ltU (pe_callB cr_lenK (by rfl) T.f_len bb_len (pa_cons (pv 1) pa_nil)) (pe_gint rfl T.g_MANY) (nomark _)) (pss_cons (ps_set (i := 3) sc_items_read.nd rfl (Or.inl rfl) (pe_mtN (pv 0) T.c_BitReader T.m_BitReader_take G0 (hr.mono (by decide)) b0 v0 tk (pa_cons (pe_gint rfl T.g_LENGTH_BITS) pa_nil)))
    (pss_one (ps_if (pt_cmpR (op_eqU hu64) (pv 3) (pe_gint rfl T.g_MORE_MARK) (nomark _)) (pss_one (ps_aug (i := 1) sc_items_read.nd rfl (Or.inl rfl) (pe_op op_mulU (pe_lst (pa_cons (pv 2) pa_nil)) (pe_op op_addU (pe_mtN (pv 0) T.c_BitReader T.m_BitReader_take G0 (hr.mono (by decide)) b0 v0 tk (pa_cons (pe_gint rfl T.g_MORE_BITS) pa_nil)) (pe_gint rfl T.g_LEAST_MORE))) ip_addU)) (pss_cons (ps_set (i := 2) sc_items_read.nd rfl (Or.inl rfl) (pv 3))
    (pss_one (ps_expr (pe_bm PySem.F.plainAttrs_list PySem.F.slot_list_append PySem.F.type_list_append mt_append (pv 1) (pa_cons (pv 2) pa_nil)))))))))
    (pss_one (ps_ret (pv 1))))))
theorem fn_items_read {P : Program} {w : World} {K : PySem.W.Frag} {mg : Str → Option Value} {base : Heap} (T : TxB K mg base) {f : Addr} {fd : FuncData} (F : FunD K d_items_read.name d_items_read.qual d_items_read.params d_items_read.body d_items_read.scope (d_items_read.dvs K) (d_items_read.kws K) f fd) :
    FnOk P w K mg base (L2N.CX P w) 4 f fd ["reader"] (sp_items_read K) :=
  F.ok sc_items_read (fun vs H Q E h => len_items_read h) (fun cdv A outer s H vs Q E hr h => ⟨t_items_read K (fun c d _ H2 => E c d H2), wk_items_read T (ok_BitReader_take_2 T) hr, rd_items_read  h⟩)
theorem ok_items_read_1 {P : Program} {w : World} {K : PySem.W.Frag} {mg : Str → Option Value} {base : Heap} (T : TxB K mg base) : DOkN P w K mg base 4 (He.fAd K ("items_read", none)) ["reader"] [] (sp_items_read K) := by
  obtain ⟨fd, F⟩ := T.d_items_read
  exact ⟨fd, [], .nil, FunD.bindsN F fun _ _ _ _ _ _ us hl => match us, hl with | [_], _ => rfl, fn_items_read T F, F.kp⟩
abbrev N_BitReader_go : List Str := ["self", "place"]
theorem sc_BitReader_go : FnScope N_BitReader_go ["self", "place"] (defScope s_BitReader_go) := ⟨rfl, rfl, rfl, by decide +kernel, rfl, by decide +kernel, by decide +kernel⟩
theorem wk_BitReader_go {P : Program} {w : World} {K : PySem.W.Frag} {mg : Str → Option Value} {base : Heap} (T : TxB K mg base) (O0 : DOkN P w K mg base 1 (He.fAd K ("is_number", none)) ["thing"] [] (sp_is_number K)) {f : Addr} {cdv : Value} {A : Around} {outer : List Env} {s : Shared} {H : Hp} {E : XK} 
    (hr : Room 1 (A.deeper (envOfC "BitReader.go" (defScope s_BitReader_go) s.heap.objs.size f cdv))) :
    PSs (cxOf (L2N.CX P w) P w K mg base N_BitReader_go "BitReader.go" (defScope s_BitReader_go) f cdv A outer s H E) (defBody s_BitReader_go) (t_BitReader_go K (fun c d _ H2 => E c d H2)) := by
  obtain ⟨fd0, ds0, v0, b0, G0, q0⟩ := O0
  have hu1 := hu_of hr
  have hu64 := hr.units
  have tk : L2N.Takes (cxOf (L2N.CX P w) P w K mg base N_BitReader_go "BitReader.go" (defScope s_BitReader_go) f cdv A outer s H E) (fun c d _ H2 => E c d H2) := L2N.takes_of rfl rfl rfl rfl
  exact (pss_cons (ps_if (PW.pt (pw_or (pt_not (pt_val (pe_clN G0 (hr.mono (by decide)) rfl T.g_is_number q0 b0 v0 tk (pa_cons (pv 1) pa_nil)))) (pw_or1 (pt_not (pt_chain op_leU op_leU (pe_int) (pv 1) (pe_op op_mulU (pe_gint rfl T.g_BYTE) (pe_callB cr_lenK (by rfl) T.f_len bb_len (pa_cons (pe_fld (pv 0) rfl) pa_nil)))))))) (pss_one (ps_rzN rfl tk T.x_BadBits T.g_BadBits rfl)) pss_nil)
    (pss_one (ps_fld (pv 0) (pv 1) rfl)))
theorem fn_BitReader_go {P : Program} {w : World} {K : PySem.W.Frag} {mg : Str → Option Value} {base : Heap} (T : TxB K mg base) {f : Addr} {fd : FuncData} (F : FunD K d_BitReader_go.name d_BitReader_go.qual d_BitReader_go.params d_BitReader_go.body d_BitReader_go.scope (d_BitReader_go.dvs K) (d_BitReader_go.kws K) f fd) :
    FnOk P w K mg base (L2N.CX P w) 2 f fd ["self", "place"] (sp_BitReader_go K) :=
  F.ok sc_BitReader_go (fun vs H Q E h => len_BitReader_go h) (fun cdv A outer s H vs Q E hr h => ⟨t_BitReader_go K (fun c d _ H2 => E c d H2), wk_BitReader_go T (ok_is_number_1 T) hr, rd_BitReader_go (of_KBitReader T.toTx) h⟩)
theorem ok_BitReader_go_2 {P : Program} {w : World} {K : PySem.W.Frag} {mg : Str → Option Value} {base : Heap} (T : TxB K mg base) : DOkN P w K mg base 2 (He.fAd K ("BitReader", some "go")) ["self", "place"] [] (sp_BitReader_go K) := by
  obtain ⟨fd, F⟩ := T.d_BitReader_go
  exact ⟨fd, [], .nil, FunD.bindsN F fun _ _ _ _ _ _ us hl => match us, hl with | [_, _], _ => rfl, fn_BitReader_go T F, F.kp⟩
abbrev N_take_table : List Str := ["reader", "place", "found"]
theorem sc_take_table : FnScope N_take_table ["reader"] (defScope s_take_table) := ⟨rfl, rfl, rfl, by decide +kernel, rfl, by decide +kernel, by decide +kernel⟩
theorem wk_take_table {P : Program} {w : World} {K : PySem.W.Frag} {mg : Str → Option Value} {base : Heap} (T : TxB K mg base) (O0 : DOkN P w K mg base 1 (He.fAd K ("BitReader", some "place")) ["self"] [] (sp_BitReader_place K)) (O1 : DOkN P w K mg base 4 (He.fAd K ("items_read", none)) ["reader"] [] (sp_items_read K)) (O2 : DOkN P w K mg base 2 (He.fAd K ("BitReader", some "go")) ["self", "place"] [] (sp_BitReader_go K)) {f : Addr} {cdv : Value} {A : Around} {outer : List Env} {s : Shared} {H : Hp} {E : XK} 
    (hr : Room 4 (A.deeper (envOfC "take_table" (defScope s_take_table) s.heap.objs.size f cdv))) :
    PSs (cxOf (L2N.CX P w) P w K mg base N_take_table "take_table" (defScope s_take_table) f cdv A outer s H E) (defBody s_take_table) (t_take_table K (fun c d _ H2 => E c d H2)) := by
  obtain ⟨fd0, ds0, v0, b0, G0, q0⟩ := O0
  obtain ⟨fd1, ds1, v1, b1, G1, q1⟩ := O1
  obtain ⟨fd2, ds2, v2, b2, G2, q2⟩ := O2
  have hu1 := hu_of hr
  have hu64 := hr.units
  have tk : L2N.Takes (cxOf (L2N.CX P w) P w K mg base N_take_table "take_table" (defScope s_take_table) f cdv A outer s H E) (fun c d _ H2 => E c d H2) := L2N.takes_of rfl rfl rfl rfl
  exact (pss_cons (ps_set (i := 1) sc_take_table.nd rfl (Or.inl rfl) (pe_mt0N (pv 0) T.c_BitReader T.m_BitReader_place G0 (hr.mono (by decide)) b0 v0 tk))
    (pss_cons (ps_try_thru0 (pss_one (ps_set (i := 2) sc_take_table.nd rfl (Or.inl rfl) (pe_clN G1 (hr.mono (by decide)) rfl T.g_items_read q1 b1 v1 takes0N (pa_cons (pv 0) pa_nil)))))
    (pss_cons (ps_if (pt_cmpR op_gtU (pe_callB cr_lenK (by rfl) T.f_len bb_len (pa_cons (pv 2) pa_nil)) (pe_gint rfl T.g_MANY) (nomark _)) (pss_cons (ps_expr (pe_mtN (pv 0) T.c_BitReader T.m_BitReader_go G2 (hr.mono (by decide)) b2 v2 tk (pa_cons (pv 1) pa_nil)))
    (pss_one (ps_rzN rfl tk T.x_BadTable T.g_BadTable rfl))) pss_nil)
    (pss_one (ps_ret (pv 2))))))
theorem fn_take_table {P : Program} {w : World} {K : PySem.W.Frag} {mg : Str → Option Value} {base : Heap} (T : TxB K mg base) {f : Addr} {fd : FuncData} (F : FunD K d_take_table.name d_take_table.qual d_take_table.params d_take_table.body d_take_table.scope (d_take_table.dvs K) (d_take_table.kws K) f fd) :
    FnOk P w K mg base (L2N.CX P w) 5 f fd ["reader"] (sp_take_table K) :=
  F.ok sc_take_table (fun vs H Q E h => len_take_table h) (fun cdv A outer s H vs Q E hr h => ⟨t_take_table K (fun c d _ H2 => E c d H2), wk_take_table T (ok_BitReader_place_1 T) (ok_items_read_1 T) (ok_BitReader_go_2 T) hr, rd_take_table  h⟩)
theorem ok_take_table_1 {P : Program} {w : World} {K : PySem.W.Frag} {mg : Str → Option Value} {base : Heap} (T : TxB K mg base) : DOkN P w K mg base 5 (He.fAd K ("take_table", none)) ["reader"] [] (sp_take_table K) := by
  obtain ⟨fd, F⟩ := T.d_take_table
  exact ⟨fd, [], .nil, FunD.bindsN F fun _ _ _ _ _ _ us hl => match us, hl with | [_], _ => rfl, fn_take_table T F, F.kp⟩
abbrev N_CodeReader___init__ : List Str := ["self", "lengths", "place", "told", "code", "length", "size"]
theorem sc_CodeReader___init__ : FnScope N_CodeReader___init__ ["self", "lengths"] (defScope s_CodeReader___init__) := ⟨rfl, rfl, rfl, by decide +kernel, rfl, by decide +kernel, by decide +kernel⟩
theorem wk_CodeReader___init__ {P : Program} {w : World} {K : PySem.W.Frag} {mg : Str → Option Value} {base : Heap} (T : TxB K mg base) (O0 : DOkN P w K mg base 3 (He.fAd K ("codes_of", none)) ["lengths"] [] (sp_codes_of K)) {f : Addr} {cdv : Value} {A : Around} {outer : List Env} {s : Shared} {H : Hp} {E : XK} 
    (hr : Room 3 (A.deeper (envOfC "CodeReader.__init__" (defScope s_CodeReader___init__) s.heap.objs.size f cdv))) :
    PSs (cxOf (L2N.CX P w) P w K mg base N_CodeReader___init__ "CodeReader.__init__" (defScope s_CodeReader___init__) f cdv A outer s H E) (defBody s_CodeReader___init__) (t_CodeReader___init__ K (fun c d _ H2 => E c d H2)) := by
  obtain ⟨fd0, ds0, v0, b0, G0, q0⟩ := O0
  have hu1 := hu_of hr
  have hu64 := hr.units
  have tk : L2N.Takes (cxOf (L2N.CX P w) P w K mg base N_CodeReader___init__ "CodeReader.__init__" (defScope s_CodeReader___init__) f cdv A outer s H E) (fun c d _ H2 => E c d H2) := L2N.takes_of rfl rfl rfl rfl
  exact (pss_cons (ps_fld (pv 0) (pe_dnewT) rfl)
    (pss_cons (ps_fld (pv 0) (pe_dnewT) rfl)
    (pss_one (ps_for (passes_of rfl) rfl (pi_enum (by rfl) T.f_enumerate (pa_cons (pe_clN G0 (hr.mono (by decide)) rfl T.g_codes_of q0 b0 v0 tk (pa_cons (pv 1) pa_nil)) pa_nil)) (pg_tup rfl (pgs_cons (pg_name (i := 2) sc_CodeReader___init__.nd rfl (Or.inl rfl)) (pgs_cons (pg_name (i := 3) sc_CodeReader___init__.nd rfl (Or.inl rfl)) pgs_nil))) (pss_one (ps_if (pt_cmpR op_notU (pv 3) (pe_non) (nomark _)) (pss_cons (ps_asg (pv 3) (pg_tup rfl (pgs_cons (pg_name (i := 4) sc_CodeReader___init__.nd rfl (Or.inl rfl)) (pgs_cons (pg_name (i := 5) sc_CodeReader___init__.nd rfl (Or.inl rfl)) pgs_nil))))
    (pss_cons (ps_asg (pv 2) (pg_sub (pe_fld (pv 0) rfl) (pe_tup (pa_cons (pv 5) (pa_cons (pv 4) pa_nil))) (set_dict hu1)))
    (pss_one (ps_for (passes_of rfl) rfl (pi_range2 rfl T.f_range (pa_cons (pe_int) (pa_cons (pv 5) pa_nil))) (pg_name (i := 6) sc_CodeReader___init__.nd rfl (Or.inl rfl)) (pss_one (ps_asg (pe_bl) (pg_sub (pe_fld (pv 0) rfl) (pe_tup (pa_cons (pv 6) (pa_cons (pe_op op_shrU (pv 4) (pe_op op_subU (pv 5) (pv 6))) pa_nil))) (set_dict hu1)))))))) pss_nil))))))
theorem fn_CodeReader___init__ {P : Program} {w : World} {K : PySem.W.Frag} {mg : Str → Option Value} {base : Heap} (T : TxB K mg base) {f : Addr} {fd : FuncData} (F : FunD K d_CodeReader___init__.name d_CodeReader___init__.qual d_CodeReader___init__.params d_CodeReader___init__.body d_CodeReader___init__.scope (d_CodeReader___init__.dvs K) (d_CodeReader___init__.kws K) f fd) :
    FnOk P w K mg base (L2N.CX P w) 4 f fd ["self", "lengths"] (sp_CodeReader___init__ K) :=
  F.ok sc_CodeReader___init__ (fun vs H Q E h => len_CodeReader___init__ h) (fun cdv A outer s H vs Q E hr h => ⟨t_CodeReader___init__ K (fun c d _ H2 => E c d H2), wk_CodeReader___init__ T (ok_codes_of_1 T) hr, rd_CodeReader___init__ (of_KCodeReader T.toTx) h⟩)
theorem ok_CodeReader___init___2 {P : Program} {w : World} {K : PySem.W.Frag} {mg : Str → Option Value} {base : Heap} (T : TxB K mg base) : DOkN P w K mg base 4 (He.fAd K ("CodeReader", some "__init__")) ["self", "lengths"] [] (sp_CodeReader___init__ K) := by
  obtain ⟨fd, F⟩ := T.d_CodeReader___init__
  exact ⟨fd, [], .nil, FunD.bindsN F fun _ _ _ _ _ _ us hl => match us, hl with | [_, _], _ => rfl, fn_CodeReader___init__ T F, F.kp⟩
abbrev N_codes_taken : List Str := ["reader", "lengths", "found"]
theorem sc_codes_taken : FnScope N_codes_taken ["reader"] (defScope s_codes_taken) := ⟨rfl, rfl, rfl, by decide +kernel, rfl, by decide +kernel, by decide +kernel⟩
theorem wk_codes_taken {P : Program} {w : World} {K : PySem.W.Frag} {mg : Str → Option Value} {base : Heap} (T : TxB K mg base) (O0 : DOkN P w K mg base 5 (He.fAd K ("take_table", none)) ["reader"] [] (sp_take_table K)) (O1 : DOkN P w K mg base 4 (He.fAd K ("CodeReader", some "__init__")) ["self", "lengths"] [] (sp_CodeReader___init__ K)) {f : Addr} {cdv : Value} {A : Around} {outer : List Env} {s : Shared} {H : Hp} {E : XK} 
    (hr : Room 5 (A.deeper (envOfC "codes_taken" (defScope s_codes_taken) s.heap.objs.size f cdv))) :
    PSs (cxOf (L2N.CX P w) P w K mg base N_codes_taken "codes_taken" (defScope s_codes_taken) f cdv A outer s H E) (defBody s_codes_taken) (t_codes_taken K (fun c d _ H2 => E c d H2)) := by
  obtain ⟨fd0, ds0, v0, b0, G0, q0⟩ := O0
  obtain ⟨fd1, ds1, v1, b1, G1, q1⟩ := O1
  have hu1 := hu_of hr
  have hu64 := hr.units
  have tk : L2N.Takes (cxOf (L2N.CX P w) P w K mg base N_codes_taken "codes_taken" (defScope s_codes_taken) f cdv A outer s H E) (fun c d _ H2 => E c d H2) := L2N.takes_of rfl rfl rfl rfl
  exact (pss_cons (ps_try_thru0 (pss_one (ps_set (i := 1) sc_codes_taken.nd rfl (Or.inl rfl) (pe_clN G0 (hr.mono (by decide)) rfl T.g_take_table q0 b0 v0 takes0N (pa_cons (pv 0) pa_nil)))))
    (pss_one (ps_try_thru (pss_one (ps_set (i := 2) sc_codes_taken.nd rfl (Or.inl rfl) (pe_mkN T.k_CodeReader G1 (hr.mono (by decide)) rfl T.g_CodeReader b1 v1 takes0N (pa_cons (pv 1) pa_nil)))) (pss_one (ps_ret (pv 2))))))
theorem fn_codes_taken {P : Program} {w : World} {K : PySem.W.Frag} {mg : Str → Option Value} {base : Heap} (T : TxB K mg base) {f : Addr} {fd : FuncData} (F : FunD K d_codes_taken.name d_codes_taken.qual d_codes_taken.params d_codes_taken.body d_codes_taken.scope (d_codes_taken.dvs K) (d_codes_taken.kws K) f fd) :
    FnOk P w K mg base (L2N.CX P w) 6 f fd ["reader"] (sp_codes_taken K) :=
  F.ok sc_codes_taken (fun vs H Q E h => len_codes_taken h) (fun cdv A outer s H vs Q E hr h => ⟨t_codes_taken K (fun c d _ H2 => E c d H2), wk_codes_taken T (ok_take_table_1 T) (ok_CodeReader___init___2 T) hr, rd_codes_taken (of_KCodeReader T.toTx) h⟩)
theorem ok_codes_taken_1 {P : Program} {w : World} {K : PySem.W.Frag} {mg : Str → Option Value} {base : Heap} (T : TxB K mg base) : DOkN P w K mg base 6 (He.fAd K ("codes_taken", none)) ["reader"] [] (sp_codes_taken K) := by
  obtain ⟨fd, F⟩ := T.d_codes_taken
  exact ⟨fd, [], .nil, FunD.bindsN F fun _ _ _ _ _ _ us hl => match us, hl with | [_], _ => rfl, fn_codes_taken T F, F.kp⟩
abbrev N_CodeReader_thing : List Str := ["self", "reader", "begin", "size", "code"]
theorem sc_CodeReader_thing : FnScope N_CodeReader_thing ["self", "reader"] (defScope s_CodeReader_thing) := ⟨rfl, rfl, rfl, by decide +kernel, rfl, by decide +kernel, by decide +kernel⟩
theorem wk_CodeReader_thing {P : Program} {w : World} {K : PySem.W.Frag} {mg : Str → Option Value} {base : Heap} (T : TxB K mg base) (O0 : DOkN P w K mg base 1 (He.fAd K ("BitReader", some "place")) ["self"] [] (sp_BitReader_place K)) (O1 : DOkN P w K mg base 1 (He.fAd K ("BitReader", some "left")) ["self"] [] (sp_BitReader_left K)) (O2 : DOkN P w K mg base 3 (He.fAd K ("BitReader", some "take")) ["self", "size"] [] (sp_BitReader_take K)) (O3 : DOkN P w K mg base 2 (He.fAd K ("BitReader", some "go")) ["self", "place"] [] (sp_BitReader_go K)) {f : Addr} {cdv : Value} {A : Around} {outer : List Env} {s : Shared} {H : Hp} {E : XK} 
    (hr : Room 3 (A.deeper (envOfC "CodeReader.thing" (defScope s_CodeReader_thing) s.heap.objs.size f cdv))) :
    PSs (cxOf (L2N.CX P w) P w K mg base N_CodeReader_thing "CodeReader.thing" (defScope s_CodeReader_thing) f cdv A outer s H E) (defBody s_CodeReader_thing) (t_CodeReader_thing K (fun c d _ H2 => E c d H2)) := by
  obtain ⟨fd0, ds0, v0, b0, G0, q0⟩ := O0
  obtain ⟨fd1, ds1, v1, b1, G1, q1⟩ := O1
  obtain ⟨fd2, ds2, v2, b2, G2, q2⟩ := O2
  obtain ⟨fd3, ds3, v3, b3, G3, q3⟩ := O3
  have hu1 := hu_of hr
  have hu64 := hr.units
  have tk : L2N.Takes (cxOf (L2N.CX P w) P w K mg base N_CodeReader_thing "CodeReader.thing" (defScope s_CodeReader_thing) f cdv A outer s H E) (fun c d _ H2 => E c d H2) := L2N.takes_of rfl rfl rfl rfl
  exact (pss_cons (ps_set (i := 2) sc_CodeReader_thing.nd rfl (Or.inl rfl) (pe_mt0N (pv 1) T.c_BitReader T.m_BitReader_place G0 (hr.mono (by decide)) b0 v0 tk))
    (pss_cons (ps_set (i := 3) sc_CodeReader_thing.nd rfl (Or.inl rfl) (pe_int))
    (pss_cons (ps_set (i := 4) sc_CodeReader_thing.nd rfl (Or.inl rfl) (pe_int))
    (pss_cons (ps_while (passes_of rfl) (pt_cmpR op_gtU (pe_mt0N (pv 1) T.c_BitReader T.m_BitReader_left G1 (hr.mono (by decide)) b1 v1 tk) (pe_int) (nomark _)) (pss_cons (ps_set (i := 4) sc_CodeReader_thing.nd rfl (Or.inl rfl) (pe_op op_orU (pe_op op_shlU (pv 4) (pe_int)) (pe_mtN (pv 1) T.c_BitReader T.m_BitReader_take G2 (hr.mono (by decide)) b2 v2 tk (pa_cons (pe_int) pa_nil))))
    (pss_cons (ps_aug (i := 3) sc_CodeReader_thing.nd rfl (Or.inl rfl) (pe_int) ip_addU)
    (pss_cons (ps_if (pt_cmp (pc_din hu1 (pe_tup (pa_cons (pv 3) (pa_cons (pv 4) pa_nil))) (pe_fld (pv 0) rfl)) (by rfl)) (pss_one (ps_ret (pe_dget hu1 (pe_fld (pv 0) rfl) (pe_tup (pa_cons (pv 3) (pa_cons (pv 4) pa_nil))) (fun _ _ => rfl)))) pss_nil)
    (pss_one (ps_if (pt_cmp (pc_dnotin hu1 (pe_tup (pa_cons (pv 3) (pa_cons (pv 4) pa_nil))) (pe_fld (pv 0) rfl)) (by rfl)) (pss_cons (ps_expr (pe_mtN (pv 1) T.c_BitReader T.m_BitReader_go G3 (hr.mono (by decide)) b3 v3 tk (pa_cons (pv 2) pa_nil)))
    (pss_one (ps_rzN rfl tk T.x_BadCode T.g_BadCode rfl))) pss_nil))))))
    (pss_cons (ps_expr (pe_mtN (pv 1) T.c_BitReader T.m_BitReader_go G3 (hr.mono (by decide)) b3 v3 tk (pa_cons (pv 2) pa_nil)))
    (pss_one (ps_rzN rfl tk T.x_NoBits T.g_NoBits rfl)))))))
theorem fn_CodeReader_thing {P : Program} {w : World} {K : PySem.W.Frag} {mg : Str → Option Value} {base : Heap} (T : TxB K mg base) {f : Addr} {fd : FuncData} (F : FunD K d_CodeReader_thing.name d_CodeReader_thing.qual d_CodeReader_thing.params d_CodeReader_thing.body d_CodeReader_thing.scope (d_CodeReader_thing.dvs K) (d_CodeReader_thing.kws K) f fd) :
    FnOk P w K mg base (L2N.CX P w) 4 f fd ["self", "reader"] (sp_CodeReader_thing K) :=
  F.ok sc_CodeReader_thing (fun vs H Q E h => len_CodeReader_thing h) (fun cdv A outer s H vs Q E hr h => ⟨t_CodeReader_thing K (fun c d _ H2 => E c d H2), wk_CodeReader_thing T (ok_BitReader_place_1 T) (ok_BitReader_left_1 T) (ok_BitReader_take_2 T) (ok_BitReader_go_2 T) hr, rd_CodeReader_thing (of_KBitReader T.toTx) (of_KCodeReader T.toTx) h⟩)
theorem ok_CodeReader_thing_2 {P : Program} {w : World} {K : PySem.W.Frag} {mg : Str → Option Value} {base : Heap} (T : TxB K mg base) : DOkN P w K mg base 4 (He.fAd K ("CodeReader", some "thing")) ["self", "reader"] [] (sp_CodeReader_thing K) := by
  obtain ⟨fd, F⟩ := T.d_CodeReader_thing
  exact ⟨fd, [], .nil, FunD.bindsN F fun _ _ _ _ _ _ us hl => match us, hl with | [_, _], _ => rfl, fn_CodeReader_thing T F, F.kp⟩
abbrev N_thing_taken : List Str := ["codes", "reader", "found"]
theorem sc_thing_taken : FnScope N_thing_taken ["codes", "reader"] (defScope s_thing_taken) := ⟨rfl, rfl, rfl, by decide +kernel, rfl, by decide +kernel, by decide +kernel⟩
theorem wk_thing_taken {P : Program} {w : World} {K : PySem.W.Frag} {mg : Str → Option Value} {base : Heap} (T : TxB K mg base) (O0 : DOkN P w K mg base 4 (He.fAd K ("CodeReader", some "thing")) ["self", "reader"] [] (sp_CodeReader_thing K)) {f : Addr} {cdv : Value} {A : Around} {outer : List Env} {s : Shared} {H : Hp} {E : XK} 
    (hr : Room 4 (A.deeper (envOfC "thing_taken" (defScope s_thing_taken) s.heap.objs.size f cdv))) :
    PSs (cxOf (L2N.CX P w) P w K mg base N_thing_taken "thing_taken" (defScope s_thing_taken) f cdv A outer s H E) (defBody s_thing_taken) (t_thing_taken K (fun c d _ H2 => E c d H2)) := by
  obtain ⟨fd0, ds0, v0, b0, G0, q0⟩ := O0
  have hu1 := hu_of hr
  have hu64 := hr.units
  have tk : L2N.Takes (cxOf (L2N.CX P w) P w K mg base N_thing_taken "thing_taken" (defScope s_thing_taken) f cdv A outer s H E) (fun c d _ H2 => E c d H2) := L2N.takes_of rfl rfl rfl rfl
  exact (pss_one (ps_try_thru (pss_one (ps_set (i := 2) sc_thing_taken.nd rfl (Or.inl rfl) (pe_mtN (pv 0) T.c_CodeReader T.m_CodeReader_thing G0 (hr.mono (by decide)) b0 v0 takes0N (pa_cons (pv 1) pa_nil)))) (pss_one (ps_ret (pv 2)))))
theorem fn_thing_taken {P : Program} {w : World} {K : PySem.W.Frag} {mg : Str → Option Value} {base : Heap} (T : TxB K mg base) {f : Addr} {fd : FuncData} (F : FunD K d_thing_taken.name d_thing_taken.qual d_thing_taken.params d_thing_taken.body d_thing_taken.scope (d_thing_taken.dvs K) (d_thing_taken.kws K) f fd) :
    FnOk P w K mg base (L2N.CX P w) 5 f fd ["codes", "reader"] (sp_thing_taken K) :=
  F.ok sc_thing_taken (fun vs H Q E h => len_thing_taken h) (fun cdv A outer s H vs Q E hr h => ⟨t_thing_taken K (fun c d _ H2 => E c d H2), wk_thing_taken T (ok_CodeReader_thing_2 T) hr, rd_thing_taken (of_KCodeReader T.toTx) h⟩)
theorem ok_thing_taken_2 {P : Program} {w : World} {K : PySem.W.Frag} {mg : Str → Option Value} {base : Heap} (T : TxB K mg base) : DOkN P w K mg base 5 (He.fAd K ("thing_taken", none)) ["codes", "reader"] [] (sp_thing_taken K) := by
  obtain ⟨fd, F⟩ := T.d_thing_taken
  exact ⟨fd, [], .nil, FunD.bindsN F fun _ _ _ _ _ _ us hl => match us, hl with | [_, _], _ => rfl, fn_thing_taken T F, F.kp⟩
abbrev N_lay_copy : List Str := ["signs", "back", "size", "end", "turn"]
theorem sc_lay_copy : FnScope N_lay_copy ["signs", "back", "size", "end"] (defScope s_lay_copy) := ⟨rfl, rfl, rfl, by decide +kernel, rfl, by decide +kernel, by decide +kernel⟩
theorem wk_lay_copy {P : Program} {w : World} {K : PySem.W.Frag} {mg : Str → Option Value} {base : Heap} (T : TxB K mg base)  {f : Addr} {cdv : Value} {A : Around} {outer : List Env} {s : Shared} {H : Hp} {E : XK} 
    (hr : Room 0 (A.deeper (envOfC "lay_copy" (defScope s_lay_copy) s.heap.objs.size f cdv))) :
    PSs (cxOf (L2N.CX P w) P w K mg base N_lay_copy "lay_copy" (defScope s_lay_copy) f cdv A outer s H E) (defBody s_lay_copy) (t_lay_copy K (fun c d _ H2 => E c d H2)) := by
  have hu1 := hu_of hr
  have hu64 := hr.units
  have tk : L2N.Takes (cxOf (L2N.CX P w) P w K mg base N_lay_copy "lay_copy" (defScope s_lay_copy) f cdv A outer s H E) (fun c d _ H2 => E c d H2) := L2N.takes_of rfl rfl rfl rfl
  exact (pss_cons (ps_if (PW.pt (pw_or (pt_cmpR (op_eqU hu64) (pv 1) (pe_int) (nomark _)) (pw_or (pt_cmpR op_gtU (pv 1) (pe_callB cr_lenK (by rfl) T.f_len bb_len (pa_cons (pv 0) pa_nil)) (nomark _)) (pw_or1 (pt_cmpR op_gtU (pe_op op_addU (pe_callB cr_lenK (by rfl) T.f_len bb_len (pa_cons (pv 0) pa_nil)) (pv 2)) (pv 3) (nomark _)))))) (pss_one (ps_rzN rfl tk T.x_BadBody T.g_BadBody rfl)) pss_nil)
    (pss_one (ps_for (passes_of rfl) rfl (pi_range1 rfl T.f_range (pa_cons (pv 2) pa_nil)) (pg_name (i := 4) sc_lay_copy.nd rfl (Or.inl rfl)) (pss_one (ps_expr (pe_bm PySem.F.plainAttrs_list PySem.F.slot_list_append PySem.F.type_list_append mt_append (pv 0) (pa_cons (pe_ix ix_seq (pv 0) (pe_op op_subU (pe_callB cr_lenK (by rfl) T.f_len bb_len (pa_cons (pv 0) pa_nil)) (pv 1)) (fun _ _ => rfl)) pa_nil)))))))
theorem fn_lay_copy {P : Program} {w : World} {K : PySem.W.Frag} {mg : Str → Option Value} {base : Heap} (T : TxB K mg base) {f : Addr} {fd : FuncData} (F : FunD K d_lay_copy.name d_lay_copy.qual d_lay_copy.params d_lay_copy.body d_lay_copy.scope (d_lay_copy.dvs K) (d_lay_copy.kws K) f fd) :
    FnOk P w K mg base (L2N.CX P w) 1 f fd ["signs", "back", "size", "end"] (sp_lay_copy K) :=
  F.ok sc_lay_copy (fun vs H Q E h => len_lay_copy h) (fun cdv A outer s H vs Q E hr h => ⟨t_lay_copy K (fun c d _ H2 => E c d H2), wk_lay_copy T  hr, rd_lay_copy  h⟩)
theorem ok_lay_copy_4 {P : Program} {w : World} {K : PySem.W.Frag} {mg : Str → Option Value} {base : Heap} (T : TxB K mg base) : DOkN P w K mg base 1 (He.fAd K ("lay_copy", none)) ["signs", "back", "size", "end"] [] (sp_lay_copy K) := by
  obtain ⟨fd, F⟩ := T.d_lay_copy
  exact ⟨fd, [], .nil, FunD.bindsN F fun _ _ _ _ _ _ us hl => match us, hl with | [_, _, _, _], _ => rfl, fn_lay_copy T F, F.kp⟩
abbrev N_ShareWay_read : List Str := ["self", "reader", "count", "before", "signs", "begin", "codes", "thing"]
theorem sc_ShareWay_read : FnScope N_ShareWay_read ["self", "reader", "count", "before"] (defScope s_ShareWay_read) := ⟨rfl, rfl, rfl, by decide +kernel, rfl, by decide +kernel, by decide +kernel⟩
theorem wk_ShareWay_read {P : Program} {w : World} {K : PySem.W.Frag} {mg : Str → Option Value} {base : Heap} (T : TxB K mg base) (O0 : DOkN P w K mg base 4 (He.fAd K ("need_window_ways", none)) ["before"] [] (sp_need_window_ways K)) (O1 : DOkN P w K mg base 6 (He.fAd K ("codes_taken", none)) ["reader"] [] (sp_codes_taken K)) (O2 : DOkN P w K mg base 5 (He.fAd K ("thing_taken", none)) ["codes", "reader"] [] (sp_thing_taken K)) (O3 : DOkN P w K mg base 1 (He.fAd K ("lay_copy", none)) ["signs", "back", "size", "end"] [] (sp_lay_copy K)) (O4 : DOkN P w K mg base 3 (He.fAd K ("BitReader", some "take")) ["self", "size"] [] (sp_BitReader_take K)) {f : Addr} {cdv : Value} {A : Around} {outer : List Env} {s : Shared} {H : Hp} {E : XK} 
    (hr : Room 6 (A.deeper (envOfC "ShareWay.read" (defScope s_ShareWay_read) s.heap.objs.size f cdv))) :
    PSs (cxOf (L2N.CX P w) P w K mg base N_ShareWay_read "ShareWay.read" (defScope s_ShareWay_read) f cdv A outer s H E) (defBody s_ShareWay_read) (t_ShareWay_read K (fun c d _ H2 => E c d H2)) := by
  obtain ⟨fd0, ds0, v0, b0, G0, q0⟩ := O0
  obtain ⟨fd1, ds1, v1, b1, G1, q1⟩ := O1
  obtain ⟨fd2, ds2, v2, b2, G2, q2⟩ := O2
  obtain ⟨fd3, ds3, v3, b3, G3, q3⟩ := O3
  obtain ⟨fd4, ds4, v4, b4, G4, q4⟩ := O4
  have hu1 := hu_of hr
  have hu64 := hr.units
  have tk : L2N.Takes (cxOf (L2N.CX P w) P w K mg base N_ShareWay_read "ShareWay.read" (defScope s_ShareWay_read) f cdv A outer s H E) (fun c d _ H2 => E c d H2) := L2N.takes_of rfl rfl rfl rfl
  exact (pss_cons (ps_set (i := 4) sc_ShareWay_read.nd rfl (Or.inl rfl) (pe_clN G0 (hr.mono (by decide)) rfl T.g_need_window_ways q0 b0 v0 tk (pa_cons (pv 3) pa_nil)))
    (pss_cons (ps_set (i := 5) sc_ShareWay_read.nd rfl (Or.inl rfl) (pe_callB cr_lenK (by rfl) T.f_len bb_len (pa_cons (pv 4) pa_nil)))
    (pss_cons (ps_set (i := 6) sc_ShareWay_read.nd rfl (Or.inl rfl) (pe_clN G1 (hr.mono (by decide)) rfl T.g_codes_taken q1 b1 v1 tk (pa_cons (pv 1) pa_nil)))
    (pss_cons (ps_while (passes_of rfl) (pt_cmpR op_ltU (pe_callB cr_lenK (by rfl) T.f_len bb_len (pa_cons (pv 4) pa_nil)) (pe_op op_addU (pv 5) (pv 2)) (nomark _)) (pss_cons (ps_set (i := 7) sc_ShareWay_read.nd rfl (Or.inl rfl) (pe_clN G2 (hr.mono (by decide)) rfl T.g_thing_taken q2 b2 v2 tk (pa_cons (pv 6) (pa_cons (pv 1) pa_nil))))
    (pss_one (ps_if (pt_cmpR op_ltU (pv 7) (pe_gint rfl T.g_SIGNS) (nomark _)) (pss_one (ps_expr (pe_bm PySem.F.plainAttrs_list PySem.F.slot_list_append PySem.F.type_list_append mt_append (pv 4) (pa_cons (pv 7) pa_nil)))) (pss_one (ps_expr (pe_clN G3 (hr.mono (by decide)) rfl T.g_lay_copy q3 b3 v3 tk (pa_cons (pv 4) (pa_cons (pe_mtN (pv 1) T.c_BitReader T.m_BitReader_take G4 (hr.mono (by decide)) b4 v4 tk (pa_cons (pe_int) pa_nil)) (pa_cons (pe_op op_addU (pe_op op_subU (pv 7) (pe_gint rfl T.g_SIGNS)) (pe_gint rfl T.g_LEAST_COPY)) (pa_cons (pe_op op_addU (pv 5) (pv 2)) pa_nil)))))))))))
    (pss_one (ps_ret (pe_slice sl_K (pv 4) (po_some (pv 5)) po_none)))))))
theorem fn_ShareWay_read {P : Program} {w : World} {K : PySem.W.Frag} {mg : Str → Option Value} {base : Heap} (T : TxB K mg base) {f : Addr} {fd : FuncData} (F : FunD K d_ShareWay_read.name d_ShareWay_read.qual d_ShareWay_read.params d_ShareWay_read.body d_ShareWay_read.scope (d_ShareWay_read.dvs K) (d_ShareWay_read.kws K) f fd) :
    FnOk P w K mg base (L2N.CX P w) 7 f fd ["self", "reader", "count", "before"] (sp_ShareWay_read K) :=
  F.ok sc_ShareWay_read (fun vs H Q E h => len_ShareWay_read h) (fun cdv A outer s H vs Q E hr h => ⟨t_ShareWay_read K (fun c d _ H2 => E c d H2), wk_ShareWay_read T (ok_need_window_ways_1 T) (ok_codes_taken_1 T) (ok_thing_taken_2 T) (ok_lay_copy_4 T) (ok_BitReader_take_2 T) hr, rd_ShareWay_read  h⟩)
theorem ok_ShareWay_read_4 {P : Program} {w : World} {K : PySem.W.Frag} {mg : Str → Option Value} {base : Heap} (T : TxB K mg base) : DOkN P w K mg base 7 (He.fAd K ("ShareWay", some "read")) ["self", "reader", "count", "before"] [] (sp_ShareWay_read K) := by
  obtain ⟨fd, F⟩ := T.d_ShareWay_read
  exact ⟨fd, [], .nil, FunD.bindsN F fun _ _ _ _ _ _ us hl => match us, hl with | [_, _, _, _], _ => rfl, fn_ShareWay_read T F, F.kp⟩
abbrev N__law_read : List Str := ["_law_way", "_law_text", "_law_before", "_law_due_here", "_law_reader", "_law_handed", "_law_found"]
theorem sc__law_read : FnScope N__law_read ["_law_way", "_law_text", "_law_before", "_law_due_here"] (defScope s__law_read) := ⟨rfl, rfl, rfl, by decide +kernel, rfl, by decide +kernel, by decide +kernel⟩
theorem wk__law_read {P : Program} {w : World} {K : PySem.W.Frag} {mg : Str → Option Value} {base : Heap} (T : TxB K mg base) (O0 : DOkN P w K mg base 4 (He.fAd K ("BitReader", some "__init__")) ["self", "row"] [] (sp_BitReader___init__ K)) (O1 : DOkN P w K mg base 1 (He.fAd K ("_law_row_of", none)) ["_law_digits_here"] [] (sp__law_row_of K)) (O2 : DOkN P w K mg base 3 (He.fAd K ("BitReader", some "take")) ["self", "size"] [] (sp_BitReader_take K)) (O3 : DOkN P w K mg base 1 (He.fAd K ("Way", some "read")) ["self", "reader", "count", "before"] [] (sp_Way_read K)) (O4 : DOkN P w K mg base 7 (He.fAd K ("ShareWay", some "read")) ["self", "reader", "count", "before"] [] (sp_ShareWay_read K)) (O5 : DOkN P w K mg base 1 (He.fAd K ("BitReader", some "place")) ["self"] [] (sp_BitReader_place K)) {f : Addr} {cdv : Value} {A : Around} {outer : List Env} {s : Shared} {H : Hp} {E : XK} 
    (hr : Room 7 (A.deeper (envOfC "_law_read" (defScope s__law_read) s.heap.objs.size f cdv))) :
    PSs (cxOf (L2N.CX P w) P w K mg base N__law_read "_law_read" (defScope s__law_read) f cdv A outer s H E) (defBody s__law_read) (t__law_read K (fun c d _ H2 => E c d H2)) := by
  obtain ⟨fd0, ds0, v0, b0, G0, q0⟩ := O0
  obtain ⟨fd1, ds1, v1, b1, G1, q1⟩ := O1
  obtain ⟨fd2, ds2, v2, b2, G2, q2⟩ := O2
  obtain ⟨fd3, ds3, v3, b3, G3, q3⟩ := O3
  obtain ⟨fd4, ds4, v4, b4, G4, q4⟩ := O4
  obtain ⟨fd5, ds5, v5, b5, G5, q5⟩ := O5
  have hu1 := hu_of hr
  have hu64 := hr.units
  have tk : L2N.Takes (cxOf (L2N.CX P w) P w K mg base N__law_read "_law_read" (defScope s__law_read) f cdv A outer s H E) (fun c d _ H2 => E c d H2) := L2N.takes_of rfl rfl rfl rfl
  exact (pss_cons (ps_set (i := 4) sc__law_read.nd rfl (Or.inl rfl) (pe_mkN T.k_BitReader G0 (hr.mono (by decide)) rfl T.g_BitReader b0 v0 tk (pa_cons (pe_op op_addU (pe_clN G1 (hr.mono (by decide)) rfl T.g__law_row_of q1 b1 v1 tk (pa_cons (pe_op op_addU (pe_str) (pv 3)) pa_nil)) (pe_lst (pa_cons (pe_int) pa_nil))) pa_nil)))
    (pss_cons (ps_expr (pe_mtN (pv 4) T.c_BitReader T.m_BitReader_take G2 (hr.mono (by decide)) b2 v2 tk (pa_cons (pe_int) pa_nil)))
    (pss_cons (ps_set (i := 5) sc__law_read.nd rfl (Or.inl rfl) (pe_ifExp (pt_cmpR op_isU (pv 2) (pe_non) (nomark _)) (pv 2) (pe_callTy cr_listK (by rfl) T.f_list bt_list (pa_cons (pv 2) pa_nil))))
    (pss_cons (ps_set (i := 6) sc__law_read.nd rfl (Or.inl rfl) (pe_orE (pe_mtN (pv 0) T.c_Way T.m_Way_read G3 (hr.mono (by decide)) b3 v3 tk (pa_cons (pv 4) (pa_cons (pe_callB cr_lenK (by rfl) T.f_len bb_len (pa_cons (pv 1) pa_nil)) (pa_cons (pv 5) pa_nil)))) (pe_mtN (pv 0) T.c_ShareWay T.m_ShareWay_read G4 (hr.mono (by decide)) b4 v4 tk (pa_cons (pv 4) (pa_cons (pe_callB cr_lenK (by rfl) T.f_len bb_len (pa_cons (pv 1) pa_nil)) (pa_cons (pv 5) pa_nil))))))
    (pss_one (ps_ret ((pe_and (pe_callB call_isi (by rfl) T.f_isinstance bb_isinstance (pa_cons (pv 6) (pa_cons (pe_bty rfl T.f_list bt_list) pa_nil))) (pe_and (pe_cmpR (op_eqU hu64) (pv 6) (pv 1) (nomark _)) (pe_and (pe_cmpR (op_eqU hu64) (pe_mt0N (pv 4) T.c_BitReader T.m_BitReader_place G5 (hr.mono (by decide)) b5 v5 tk) (pe_op op_addU (pe_int) (pe_callB cr_lenK (by rfl) T.f_len bb_len (pa_cons (pv 3) pa_nil))) (nomark _)) (pe_one (pe_cmpR (op_eqU hu64) (pv 5) (pv 2) (nomark _)))))))))))))
theorem fn__law_read {P : Program} {w : World} {K : PySem.W.Frag} {mg : Str → Option Value} {base : Heap} (T : TxB K mg base) {f : Addr} {fd : FuncData} (F : FunD K d__law_read.name d__law_read.qual d__law_read.params d__law_read.body d__law_read.scope (d__law_read.dvs K) (d__law_read.kws K) f fd) :
    FnOk P w K mg base (L2N.CX P w) 8 f fd ["_law_way", "_law_text", "_law_before", "_law_due_here"] (sp__law_read K) :=
  F.ok sc__law_read (fun vs H Q E h => len__law_read h) (fun cdv A outer s H vs Q E hr h => ⟨t__law_read K (fun c d _ H2 => E c d H2), wk__law_read T (ok_BitReader___init___2 T) (ok__law_row_of_1 T) (ok_BitReader_take_2 T) (ok_Way_read_4 T) (ok_ShareWay_read_4 T) (ok_BitReader_place_1 T) hr, rd__law_read  h⟩)
theorem ok__law_read_4 {P : Program} {w : World} {K : PySem.W.Frag} {mg : Str → Option Value} {base : Heap} (T : TxB K mg base) : DOkN P w K mg base 8 (He.fAd K ("_law_read", none)) ["_law_way", "_law_text", "_law_before", "_law_due_here"] [] (sp__law_read K) := by
  obtain ⟨fd, F⟩ := T.d__law_read
  exact ⟨fd, [], .nil, FunD.bindsN F fun _ _ _ _ _ _ us hl => match us, hl with | [_, _, _, _], _ => rfl, fn__law_read T F, F.kp⟩
abbrev N__law_own_due : List Str := ["_law_pieces_here", "_law_cell", "_law_things", "_law_piece", "_law_lengths", "_law_k", "_law_length"]
theorem sc__law_own_due : FnScope N__law_own_due ["_law_pieces_here", "_law_cell"] (defScope s__law_own_due) := ⟨rfl, rfl, rfl, by decide +kernel, rfl, by decide +kernel, by decide +kernel⟩
theorem wk__law_own_due {P : Program} {w : World} {K : PySem.W.Frag} {mg : Str → Option Value} {base : Heap} (T : TxB K mg base) (O0 : DOkN P w K mg base 1 (He.fAd K ("_law_thing", none)) ["_law_piece"] [] (sp__law_thing K)) (O1 : DOkN P w K mg base 1 (He.fAd K ("_law_digits", none)) ["_law_parts_here"] [] (sp__law_digits K)) (O2 : DOkN P w K mg base 2 (He.fAd K ("_law_parts", none)) ["_law_pieces_here", "_law_lengths"] [] (sp__law_parts K)) {f : Addr} {cdv : Value} {A : Around} {outer : List Env} {s : Shared} {H : Hp} {E : XK} 
    (hr : Room 2 (A.deeper (envOfC "_law_own_due" (defScope s__law_own_due) s.heap.objs.size f cdv))) :
    PSs (cxOf (L2N.CX P w) P w K mg base N__law_own_due "_law_own_due" (defScope s__law_own_due) f cdv A outer s H E) (defBody s__law_own_due) (t__law_own_due K (fun c d _ H2 => E c d H2)) := by
  obtain ⟨fd0, ds0, v0, b0, G0, q0⟩ := O0
  obtain ⟨fd1, ds1, v1, b1, G1, q1⟩ := O1
  obtain ⟨fd2, ds2, v2, b2, G2, q2⟩ := O2
  have hu1 := hu_of hr
  have hu64 := hr.units
  have tk : L2N.Takes (cxOf (L2N.CX P w) P w K mg base N__law_own_due "_law_own_due" (defScope s__law_own_due) f cdv A outer s H E) (fun c d _ H2 => E c d H2) := L2N.takes_of rfl rfl rfl rfl
  exact (pss_cons (ps_set (i := 2) sc__law_own_due.nd rfl (Or.inl rfl) (pe_lst pa_nil))
    (pss_cons (ps_for (passes_of rfl) rfl (pi_list (pv 0)) (pg_name (i := 3) sc__law_own_due.nd rfl (Or.inl rfl)) (pss_one (ps_if (pt_cmpR op_niU (pe_clN G0 (hr.mono (by decide)) rfl T.g__law_thing q0 b0 v0 tk (pa_cons (pv 3) pa_nil)) (pv 2) (by rfl)) (pss_one (ps_expr (pe_bm PySem.F.plainAttrs_list PySem.F.slot_list_append PySem.F.type_list_append mt_append (pv 2) (pa_cons (pe_clN G0 (hr.mono (by decide)) rfl T.g__law_thing q0 b0 v0 tk (pa_cons (pv 3) pa_nil)) pa_nil)))) pss_nil)))
    (pss_cons (ps_set (i := 4) sc__law_own_due.nd rfl (Or.inl rfl) (pe_op op_mulU (pe_lst (pa_cons (pe_int) pa_nil)) (pe_int)))
    (pss_cons (ps_for (passes_of rfl) rfl (pi_range1 rfl T.f_range (pa_cons (pe_callB cr_lenK (by rfl) T.f_len bb_len (pa_cons (pv 2) pa_nil)) pa_nil)) (pg_name (i := 5) sc__law_own_due.nd rfl (Or.inl rfl)) (pss_one (ps_asg (pe_int) (pg_sub (pv 4) (pe_ix ix_seq (pv 2) (pv 5) (fun _ _ => rfl)) set_list))))
    (Evl.pss_cut (ps_if (PW.pt (pw_and (pt_cmpR op_ltU (pe_callB cr_lenK (by rfl) T.f_len bb_len (pa_cons (pv 2) pa_nil)) (pe_int) (nomark _)) (pw_and1 (pt_cmpR (op_eqU hu64) (pe_op op_modU (pv 1) (pe_int)) (pe_int) (nomark _))))) (pss_one (ps_for (passes_of rfl) rfl (pi_range1 rfl T.f_range (pa_cons (pe_callB cr_lenK (by rfl) T.f_len bb_len (pa_cons (pv 2) pa_nil)) pa_nil)) (pg_name (i := 5) sc__law_own_due.nd rfl (Or.inl rfl)) (pss_one (ps_asg (pe_callB (cr_min2K rfl) (by rfl) T.f_min bb_min (pa_cons (pe_int) (pa_cons (pe_op op_addU (pv 5) (pe_int)) pa_nil))) (pg_sub (pv 4) (pe_ix ix_seq (pv 2) (pe_op op_modU (pe_op op_addU (pv 5) (pe_op op_divU (pv 1) (pe_int))) (pe_callB cr_lenK (by rfl) T.f_len bb_len (pa_cons (pv 2) pa_nil))) (fun _ _ => rfl)) set_list))))) pss_nil)
    (pss_one (ps_ret (pe_clN G1 (hr.mono (by decide)) rfl T.g__law_digits q1 b1 v1 tk (pa_cons (pe_op op_addU (pe_lc (own := [("_law_length", 6)]) rfl sc__law_own_due.nd (pi_list (pv 4)) (blkOk_by (own := [("_law_length", 6)]) (N := N__law_own_due) (sc := defScope s__law_own_due) (by decide +kernel)) (fun _ _ _ _ _ => (pg_name (i := 6) sc__law_own_due.nd rfl (Or.inl rfl))) (fun _ _ _ _ _ => pts_nil) (fun _ _ _ _ _ => (pe_tup (pa_cons (pv 6) (pa_cons (pe_int) pa_nil))))) (pe_clN G2 (hr.mono (by decide)) rfl T.g__law_parts q2 b2 v2 tk (pa_cons (pv 0) (pa_cons (pv 4) pa_nil)))) pa_nil)))))))))
theorem fn__law_own_due {P : Program} {w : World} {K : PySem.W.Frag} {mg : Str → Option Value} {base : Heap} (T : TxB K mg base) {f : Addr} {fd : FuncData} (F : FunD K d__law_own_due.name d__law_own_due.qual d__law_own_due.params d__law_own_due.body d__law_own_due.scope (d__law_own_due.dvs K) (d__law_own_due.kws K) f fd) :
    FnOk P w K mg base (L2N.CX P w) 3 f fd ["_law_pieces_here", "_law_cell"] (sp__law_own_due K) :=
  F.ok sc__law_own_due (fun vs H Q E h => len__law_own_due h) (fun cdv A outer s H vs Q E hr h => ⟨t__law_own_due K (fun c d _ H2 => E c d H2), wk__law_own_due T (ok__law_thing_1 T) (ok__law_digits_1 T) (ok__law_parts_2 T) hr, rd__law_own_due  h⟩)
theorem ok__law_own_due_2 {P : Program} {w : World} {K : PySem.W.Frag} {mg : Str → Option Value} {base : Heap} (T : TxB K mg base) : DOkN P w K mg base 3 (He.fAd K ("_law_own_due", none)) ["_law_pieces_here", "_law_cell"] [] (sp__law_own_due K) := by
  obtain ⟨fd, F⟩ := T.d__law_own_due
  exact ⟨fd, [], .nil, FunD.bindsN F fun _ _ _ _ _ _ us hl => match us, hl with | [_, _], _ => rfl, fn__law_own_due T F, F.kp⟩
abbrev N_law : List Str := ["_law_script", "_law_text", "_law_before", "_law_way", "_law_pieces_here", "_law_due_here", "_law_window", "_law_handed", "_law_bits"]
theorem sc_law : FnScope N_law ["_law_script"] (defScope s_law) := ⟨rfl, rfl, rfl, by decide +kernel, rfl, by decide +kernel, by decide +kernel⟩
theorem wk_law {P : Program} {w : World} {K : PySem.W.Frag} {mg : Str → Option Value} {base : Heap} (T : TxB K mg base) (O0 : DOkN P w K mg base 3 (He.fAd K ("_law_text_by", none)) ["_law_script", "_law_first"] [] (sp__law_text_by K)) (O1 : DOkN P w K mg base 1 (He.fAd K ("Way", some "number")) ["self"] [] (sp_Way_number K)) (O2 : DOkN P w K mg base 1 (He.fAd K ("ShareWay", some "number")) ["self"] [] (sp_ShareWay_number K)) (O3 : DOkN P w K mg base 2 (He.fAd K ("_law_pieces", none)) ["_law_text", "_law_before"] [] (sp__law_pieces K)) (O4 : DOkN P w K mg base 5 (He.fAd K ("_law_due", none)) ["_law_pieces_here"] [] (sp__law_due K)) (O5 : DOkN P w K mg base 1 (He.fAd K ("_law_cell_at", none)) ["_law_script", "_law_k"] [] (sp__law_cell_at K)) (O6 : DOkN P w K mg base 1 (He.fAd K ("BitRow", some "__init__")) ["self"] [] (sp_BitRow___init__ K)) (O7 : DOkN P w K mg base 3 (He.fAd K ("BitRow", some "put")) ["self", "number", "size"] [] (sp_BitRow_put K)) (O8 : DOkN P w K mg base 5 (He.fAd K ("Way", some "tell")) ["self", "bits", "text", "before"] [] (sp_Way_tell K)) (O9 : DOkN P w K mg base 5 (He.fAd K ("ShareWay", some "tell")) ["self", "bits", "text", "before"] [] (sp_ShareWay_tell K)) (O10 : DOkN P w K mg base 1 (He.fAd K ("BitRow", some "many")) ["self"] [] (sp_BitRow_many K)) (O11 : DOkN P w K mg base 1 (He.fAd K ("BitRow", some "row")) ["self"] [] (sp_BitRow_row K)) (O12 : DOkN P w K mg base 1 (He.fAd K ("_law_row_of", none)) ["_law_digits_here"] [] (sp__law_row_of K)) (O13 : DOkN P w K mg base 6 (He.fAd K ("Way", some "cost")) ["self", "text", "before"] [] (sp_Way_cost K)) (O14 : DOkN P w K mg base 8 (He.fAd K ("_law_read", none)) ["_law_way", "_law_text", "_law_before", "_law_due_here"] [] (sp__law_read K)) (O15 : DOkN P w K mg base 3 (He.fAd K ("_law_own_due", none)) ["_law_pieces_here", "_law_cell"] [] (sp__law_own_due K)) {f : Addr} {cdv : Value} {A : Around} {outer : List Env} {s : Shared} {H : Hp} {E : XK} 
    (hr : Room 8 (A.deeper (envOfC "law" (defScope s_law) s.heap.objs.size f cdv))) :
    PSs (cxOf (L2N.CX P w) P w K mg base N_law "law" (defScope s_law) f cdv A outer s H E) (defBody s_law) (t_law K (fun c d _ H2 => E c d H2)) := by
  obtain ⟨fd0, ds0, v0, b0, G0, q0⟩ := O0
  obtain ⟨fd1, ds1, v1, b1, G1, q1⟩ := O1
  obtain ⟨fd2, ds2, v2, b2, G2, q2⟩ := O2
  obtain ⟨fd3, ds3, v3, b3, G3, q3⟩ := O3
  obtain ⟨fd4, ds4, v4, b4, G4, q4⟩ := O4
  obtain ⟨fd5, ds5, v5, b5, G5, q5⟩ := O5
  obtain ⟨fd6, ds6, v6, b6, G6, q6⟩ := O6
  obtain ⟨fd7, ds7, v7, b7, G7, q7⟩ := O7
  obtain ⟨fd8, ds8, v8, b8, G8, q8⟩ := O8
  obtain ⟨fd9, ds9, v9, b9, G9, q9⟩ := O9
  obtain ⟨fd10, ds10, v10, b10, G10, q10⟩ := O10
  obtain ⟨fd11, ds11, v11, b11, G11, q11⟩ := O11
  obtain ⟨fd12, ds12, v12, b12, G12, q12⟩ := O12
  obtain ⟨fd13, ds13, v13, b13, G13, q13⟩ := O13
  obtain ⟨fd14, ds14, v14, b14, G14, q14⟩ := O14
  obtain ⟨fd15, ds15, v15, b15, G15, q15⟩ := O15
  have hu1 := hu_of hr
  have hu64 := hr.units
  have tk : L2N.Takes (cxOf (L2N.CX P w) P w K mg base N_law "law" (defScope s_law) f cdv A outer s H E) (fun c d _ H2 => E c d H2) := L2N.takes_of rfl rfl rfl rfl
  exact (pss_cons (ps_asg (pe_clN G0 (hr.mono (by decide)) rfl T.g__law_text_by q0 b0 v0 tk (pa_cons (pv 0) (pa_cons (pe_int) pa_nil))) (pg_tup rfl (pgs_cons (pg_name (i := 1) sc_law.nd rfl (Or.inl rfl)) (pgs_cons (pg_name (i := 2) sc_law.nd rfl (Or.inl rfl)) pgs_nil))))
    (pss_cons (ps_set (i := 3) sc_law.nd rfl (Or.inl rfl) (pe_made T.z_ShareWay rfl T.g_ShareWay))
    (pss_cons (ps_if (PW.pt (pw_or (pt_not (pt_val (pe_callB call_isi (by rfl) T.f_isinstance bb_isinstance (pa_cons (pv 3) (pa_cons (pe_gref rfl T.g_Way) pa_nil))))) (pw_or1 (pt_cmpR (op_neU hu64) (pe_orE (pe_mt0N (pv 3) T.c_Way T.m_Way_number G1 (hr.mono (by decide)) b1 v1 tk) (pe_mt0N (pv 3) T.c_ShareWay T.m_ShareWay_number G2 (hr.mono (by decide)) b2 v2 tk)) (pe_int) (nomark _))))) (pss_one (ps_ret (pe_bl))) pss_nil)
    (pss_cons (ps_set (i := 4) sc_law.nd rfl (Or.inl rfl) (pe_clN G3 (hr.mono (by decide)) rfl T.g__law_pieces q3 b3 v3 tk (pa_cons (pv 1) (pa_cons (pv 2) pa_nil))))
    (pss_cons (ps_set (i := 5) sc_law.nd rfl (Or.inl rfl) (pe_clN G4 (hr.mono (by decide)) rfl T.g__law_due q4 b4 v4 tk (pa_cons (pv 4) pa_nil)))
    (pss_cons (ps_set (i := 6) sc_law.nd rfl (Or.inl rfl) (pv 2))
    (Evl.pss_cut (ps_if (PW.pt (pw_and (pt_cmpR (op_eqU hu64) (pv 2) (pe_lst pa_nil) (nomark _)) (pw_and1 (pt_cmpR (op_eqU hu64) (pe_op op_modU (pe_clN G5 (hr.mono (by decide)) rfl T.g__law_cell_at q5 b5 v5 tk (pa_cons (pv 0) (pa_cons (pe_int) pa_nil))) (pe_int)) (pe_int) (nomark _))))) (pss_one (ps_set (i := 6) sc_law.nd rfl (Or.inl rfl) (pe_non))) pss_nil)
    (pss_cons (ps_set (i := 7) sc_law.nd rfl (Or.inl rfl) (pe_lst (pa_cons (pe_callTy cr_listK (by rfl) T.f_list bt_list (pa_cons (pv 1) pa_nil)) (pa_cons (pe_ifExp (pt_cmpR op_isU (pv 6) (pe_non) (nomark _)) (pv 6) (pe_callTy cr_listK (by rfl) T.f_list bt_list (pa_cons (pv 6) pa_nil))) pa_nil))))
    (pss_cons (ps_set (i := 8) sc_law.nd rfl (Or.inl rfl) (pe_mk0N T.k_BitRow G6 (hr.mono (by decide)) rfl T.g_BitRow b6 v6 tk))
    (pss_cons (ps_expr (pe_mtN (pv 8) T.c_BitRow T.m_BitRow_put G7 (hr.mono (by decide)) b7 v7 tk (pa_cons (pe_int) (pa_cons (pe_int) pa_nil))))
    (pss_cons (ps_if (PW.pt (pw_or (pt_cmpR op_notU (pe_orE (pe_mtN (pv 3) T.c_Way T.m_Way_tell G8 (hr.mono (by decide)) b8 v8 tk (pa_cons (pv 8) (pa_cons (pe_ix ix_seq (pv 7) (pe_int) (fun _ _ => rfl)) (pa_cons (pe_ix ix_seq (pv 7) (pe_int) (fun _ _ => rfl)) pa_nil)))) (pe_mtN (pv 3) T.c_ShareWay T.m_ShareWay_tell G9 (hr.mono (by decide)) b9 v9 tk (pa_cons (pv 8) (pa_cons (pe_ix ix_seq (pv 7) (pe_int) (fun _ _ => rfl)) (pa_cons (pe_ix ix_seq (pv 7) (pe_int) (fun _ _ => rfl)) pa_nil))))) (pe_non) (nomark _)) (pw_or1 (pt_cmpR (op_neU hu64) (pv 7) (pe_lst (pa_cons (pv 1) (pa_cons (pv 6) pa_nil))) (nomark _))))) (pss_one (ps_ret (pe_bl))) pss_nil)
    (pss_cons (ps_expr (pe_bm0 PySem.F.plainAttrs_list PySem.F.slot_list_clear PySem.F.type_list_clear mt_clear (pe_ix ix_seq (pv 7) (pe_int) (fun _ _ => rfl))))
    (pss_cons (ps_if (PW.pt (pw_or (pt_cmpR (op_neU hu64) (pe_mt0N (pv 8) T.c_BitRow T.m_BitRow_many G10 (hr.mono (by decide)) b10 v10 tk) (pe_op op_addU (pe_int) (pe_callB cr_lenK (by rfl) T.f_len bb_len (pa_cons (pv 5) pa_nil))) (nomark _)) (pw_or1 (pt_cmpR (op_neU hu64) (pe_mt0N (pv 8) T.c_BitRow T.m_BitRow_row G11 (hr.mono (by decide)) b11 v11 tk) (pe_clN G12 (hr.mono (by decide)) rfl T.g__law_row_of q12 b12 v12 tk (pa_cons (pe_op op_addU (pe_str) (pv 5)) pa_nil)) (nomark _))))) (pss_one (ps_ret (pe_bl))) pss_nil)
    (pss_cons (ps_if (pt_cmpR (op_neU hu64) (pe_orE (pe_mtN (pv 3) T.c_Way T.m_Way_cost G13 (hr.mono (by decide)) b13 v13 tk (pa_cons (pe_callTy cr_listK (by rfl) T.f_list bt_list (pa_cons (pv 1) pa_nil)) (pa_cons (pv 6) pa_nil))) (pe_mtN (pv 3) T.c_ShareWay T.m_ShareWay_cost G13 (hr.mono (by decide)) b13 v13 tk (pa_cons (pe_callTy cr_listK (by rfl) T.f_list bt_list (pa_cons (pv 1) pa_nil)) (pa_cons (pv 6) pa_nil)))) (pe_callB cr_lenK (by rfl) T.f_len bb_len (pa_cons (pv 5) pa_nil)) (nomark _)) (pss_one (ps_ret (pe_bl))) pss_nil)
    (pss_cons (ps_if (pt_not (pt_val (pe_clN G14 (hr.mono (by decide)) rfl T.g__law_read q14 b14 v14 tk (pa_cons (pv 3) (pa_cons (pv 1) (pa_cons (pv 6) (pa_cons (pv 5) pa_nil))))))) (pss_one (ps_ret (pe_bl))) pss_nil)
    (pss_one (ps_ret (pe_clN G14 (hr.mono (by decide)) rfl T.g__law_read q14 b14 v14 tk (pa_cons (pv 3) (pa_cons (pv 1) (pa_cons (pv 6) (pa_cons (pe_clN G15 (hr.mono (by decide)) rfl T.g__law_own_due q15 b15 v15 tk (pa_cons (pv 4) (pa_cons (pe_op op_divU (pe_clN G5 (hr.mono (by decide)) rfl T.g__law_cell_at q5 b5 v5 tk (pa_cons (pv 0) (pa_cons (pe_int) pa_nil))) (pe_int)) pa_nil))) pa_nil))))))))))))))))))))))
theorem fn_law {P : Program} {w : World} {K : PySem.W.Frag} {mg : Str → Option Value} {base : Heap} (T : TxB K mg base) {f : Addr} {fd : FuncData} (F : FunD K d_law.name d_law.qual d_law.params d_law.body d_law.scope (d_law.dvs K) (d_law.kws K) f fd) :
    FnOk P w K mg base (L2N.CX P w) 9 f fd ["_law_script"] (sp_law K) :=
  F.ok sc_law (fun vs H Q E h => len_law h) (fun cdv A outer s H vs Q E hr h => ⟨t_law K (fun c d _ H2 => E c d H2), wk_law T (ok__law_text_by_2 T) (ok_Way_number_1 T) (ok_ShareWay_number_1 T) (ok__law_pieces_2 T) (ok__law_due_1 T) (ok__law_cell_at_2 T) (ok_BitRow___init___1 T) (ok_BitRow_put_3 T) (ok_Way_tell_4 T) (ok_ShareWay_tell_4 T) (ok_BitRow_many_1 T) (ok_BitRow_row_1 T) (ok__law_row_of_1 T) (ok_Way_cost_3 T) (ok__law_read_4 T) (ok__law_own_due_2 T) hr, rd_law (of_KShareIs T.toTx) h⟩)
end L2.BW
namespace L2.BW
open PySem PySem.Spec PyProof.Rows
theorem calmly {P : Program} {w : World} {K : PySem.W.Frag} {mg : Str → Option Value} {base : Heap} {k : Nat} {f : Addr} {fd : FuncData} {ps : List Str} {sp : Sp}
    (hE : ∀ vs H Q E, sp vs H Q E → sp vs H Q fun _ _ _ => False) (F : FnOk P w K mg base (L2N.CX P w) k f fd ps sp) : FnOk P w K mg base CX0 k f fd ps sp :=
  ⟨F.len, fun A outer s H args us vs Q E hr he hb hv hs => codeAny_mono (F.run A outer s H args us vs Q _ hr he hb hv (hE _ _ _ _ hs)) fun r s' z => by
    match r, z with
    | .error e, z =>
      obtain ⟨_, _, _, _, _, _, _, _, _, _, _, _, z⟩ := z
      exact z.elim
    | .ok (.ret u), z => exact z⟩
end L2.BW
open PySem PySem.W PySem.Calls PyProof.Rows
theorem PySem.Challenge.cw_balepress_k19_shares_holds : PySem.Challenge.rw_balepress_k19_shares.Holds := by
  w_on; o_law
  refine HandSHeadRun.head_any (r := OpenLaw.row PySem.Challenge.rw_balepress_k19_shares) (q := view (OpenLaw.row PySem.Challenge.rw_balepress_k19_shares).prog [88]) (H := L2.BH.hk) (ob := L2.BH.ob) (M := 40000) (loose := L2.BH.loose) (d := HandSHeadRun.topDef (OpenLaw.row PySem.Challenge.rw_balepress_k19_shares).prog 88) (kwd := [])
    L2.BH.ob_eq (by kernel_rfl) (fun s => by kernel_rfl) L2.BH.run (by kernel_rfl) (by kernel_rfl) (by kernel_rfl) (by rfl) (by first | assumption | decide +kernel) (by decide +kernel)
    ⟨rfl, rfl, rfl, rfl, rfl, by decide +kernel⟩ ?hw ?hc
  case hw => w_witness2
  case hc =>
    refine LamX.walk_ofTsE (l := PySem.Challenge.rw_balepress_k19_shares) (n := 63) (k := 9) (x := "_law_script") (CX := fun _ => L2.CX0) rfl (by decide) (by kernel_rfl) ⟨rfl, by decide, by decide⟩ ?F (fun _ _ _ _ _ z => z)
    intro w mg fa h Y G hmg0
    obtain ⟨K, KX, c⟩ := Y
    have hmg : mg ("law" : PySem.Str) = some (.ref fa) := by
      have e : (HandSHeadRun.topDef (OpenLaw.row PySem.Challenge.rw_balepress_k19_shares).prog 88).name = ("law" : PySem.Str) := by kernel_rfl
      exact e ▸ hmg0
    have T := L2.BW.tx_of KX G c.t.d c.more
    obtain ⟨fd, F⟩ := T.d_law
    have e := hmg.symm.trans T.g_law
    cases e
    have b := L2.FunD.bindsA (ps := ["_law_script"]) F fun _ _ _ _ _ _ us hl => match us, hl with | [_], _ => rfl
    have one : ∀ {P : He.Defn → Prop}, (∀ p ∈ ([("codes_of", none)] : List He.Defn), P p) → ∀ q ∈ ([("codes_of", none)] : List He.Defn).map (He.cT K), ∃ p, q = He.cT K p ∧ P p := fun h q hq => by
      obtain ⟨p, hp, rfl⟩ := List.mem_map.mp hq
      exact ⟨p, rfl, h p hp⟩
    refine ⟨K, KX, fd, ([("codes_of", none)] : List He.Defn).map (He.cT K), L2.BR.sp_law K, fun q hq => ?_, fun q hq => ?_, fun q hq => ?_, fun s v => b s [v] rfl, fun H a ns hl _ hT hS => ⟨a, ns, rfl, ?_, hS, hl, fun _ => rfl⟩, fun base _ _ TB => L2.BW.calmly (fun _ _ _ _ h => h) (L2.BW.fn_law (L2.BW.TxB.mk T (TB _ (.head _))) F)⟩
    · obtain ⟨p, rfl, z⟩ := one c.empty q hq
      exact z
    · obtain ⟨p, rfl, z⟩ := one c.out q hq
      exact z
    · obtain ⟨p, rfl, z⟩ := one c.hd q hq
      exact PySem.W.codeHd_of_K KX z
    · exact hT _ (.head _)
