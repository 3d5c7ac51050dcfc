import PyProof.Rows.All
import Wide.All
import OpenK.AllK
import Wide.FinOn
import HandS.ForMost
import HandS.ForExc
import HandS.Defaults
import HandS.CallSlots
import HandS.IsInst
import HandS.Style
import HandS.Small
import HandS.Conv
import HandS.Deep
import HandS.TryElse
import HandS.HeadHook2
import HandS.Evl
import HandS.Flow
import HandS.Zip
import HandS.Text
import HandS.ExcIs
import HandS.ExcCtx
import HandS.WideBits
import HandS.Hot
import HandS.HotCalls
import PyProof.StrOps2
import KE.SortKeyHeap
import HandS.SortKw
import HandS.DictComp
import HandS.SetFor
import HandS.Conv
import HandS.Deep
import HandS.Lambda
import HandS.HeadHook4
import HandS.Nested
import HandS.FromBytesMap
import KE.KStateDown
import Lean
import HandS.HeadEnd
import HandS.HeadWalk
import HandS.Head0
import HandS.Head1
import HandS.Head2
import HandS.HeadHook1
import PySem.Challenge.RW_balepress_k12_tables_refused
import HandS.SuiteRaise
import PyProof.ReprRoads
import PyProof.ReprLen
set_option Elab.async false
set_option linter.all false
set_option maxRecDepth 100000
set_option maxHeartbeats 0
namespace L2.BH
open PySem PySem.Spec PyProof.Rows L2
def top (i : Nat) : Stmt := PySem.Challenge.pw_balepress_k12_tables_refused.main.body.getD i (.Pass ⟨0, 0, 0, 0⟩)
abbrev s__wall : Stmt := top 0
abbrev s_is_table : Stmt := top 29
abbrev s_alike_from : Stmt := top 30
abbrev s_put_table : Stmt := top 31
abbrev s_items_read : Stmt := top 32
abbrev s_take_table : Stmt := top 33
abbrev s_is_byte : Stmt := top 36
abbrev s_is_row : Stmt := top 37
abbrev s_need_row : Stmt := top 38
abbrev s_is_number : Stmt := top 42
abbrev s_need_size : Stmt := top 43
abbrev s_BitRow___init__ : Stmt := inClass (top 44) 0
abbrev s_BitRow_put : Stmt := inClass (top 44) 1
abbrev s_BitRow_many : Stmt := inClass (top 44) 2
abbrev s_BitRow_row : Stmt := inClass (top 44) 3
abbrev s_BitReader___init__ : Stmt := inClass (top 45) 0
abbrev s_BitReader_left : Stmt := inClass (top 45) 1
abbrev s_BitReader_place : Stmt := inClass (top 45) 2
abbrev s_BitReader_go : Stmt := inClass (top 45) 3
abbrev s_BitReader_take : Stmt := inClass (top 45) 4
abbrev s_BitReader_at_end : Stmt := inClass (top 45) 5
abbrev s__law_cell_at : Stmt := top 47
abbrev s__law_mixed : Stmt := top 48
abbrev s__law_table : Stmt := top 49
abbrev s__law_word : Stmt := top 50
abbrev s__law_put : Stmt := top 51
abbrev s__law_taken : Stmt := top 52
abbrev s__law_odd : Stmt := top 53
abbrev s__law_put_right : Stmt := top 54
abbrev s__law_too_many : Stmt := top 55
abbrev s__law_ended : Stmt := top 56
abbrev s__law_taking_right : Stmt := top 57
abbrev s__law_cut : Stmt := top 58
abbrev s_law : Stmt := top 59
def d_is_table : He.DefD := ⟨("is_table", none), "is_table", "is_table", defArgs s_is_table, defBody s_is_table, defScope s_is_table, [], []⟩
def d_alike_from : He.DefD := ⟨("alike_from", none), "alike_from", "alike_from", defArgs s_alike_from, defBody s_alike_from, defScope s_alike_from, [], []⟩
def d_put_table : He.DefD := ⟨("put_table", none), "put_table", "put_table", defArgs s_put_table, defBody s_put_table, defScope s_put_table, [], []⟩
def d_items_read : He.DefD := ⟨("items_read", none), "items_read", "items_read", defArgs s_items_read, defBody s_items_read, defScope s_items_read, [], []⟩
def d_take_table : He.DefD := ⟨("take_table", none), "take_table", "take_table", defArgs s_take_table, defBody s_take_table, defScope s_take_table, [], []⟩
def d_is_byte : He.DefD := ⟨("is_byte", none), "is_byte", "is_byte", defArgs s_is_byte, defBody s_is_byte, defScope s_is_byte, [], []⟩
def d_is_row : He.DefD := ⟨("is_row", none), "is_row", "is_row", defArgs s_is_row, defBody s_is_row, defScope s_is_row, [], []⟩
def d_need_row : He.DefD := ⟨("need_row", none), "need_row", "need_row", defArgs s_need_row, defBody s_need_row, defScope s_need_row, [], []⟩
def d_is_number : He.DefD := ⟨("is_number", none), "is_number", "is_number", defArgs s_is_number, defBody s_is_number, defScope s_is_number, [], []⟩
def d_need_size : He.DefD := ⟨("need_size", none), "need_size", "need_size", defArgs s_need_size, defBody s_need_size, defScope s_need_size, [], []⟩
def d_BitRow___init__ : He.DefD := ⟨("BitRow", some "__init__"), "__init__", "BitRow.__init__", defArgs s_BitRow___init__, defBody s_BitRow___init__, defScope s_BitRow___init__, [], []⟩
def d_BitRow_put : He.DefD := ⟨("BitRow", some "put"), "put", "BitRow.put", defArgs s_BitRow_put, defBody s_BitRow_put, defScope s_BitRow_put, [], []⟩
def d_BitRow_many : He.DefD := ⟨("BitRow", some "many"), "many", "BitRow.many", defArgs s_BitRow_many, defBody s_BitRow_many, defScope s_BitRow_many, [], []⟩
def d_BitRow_row : He.DefD := ⟨("BitRow", some "row"), "row", "BitRow.row", defArgs s_BitRow_row, defBody s_BitRow_row, defScope s_BitRow_row, [], []⟩
def d_BitReader___init__ : He.DefD := ⟨("BitReader", some "__init__"), "__init__", "BitReader.__init__", defArgs s_BitReader___init__, defBody s_BitReader___init__, defScope s_BitReader___init__, [], []⟩
def d_BitReader_left : He.DefD := ⟨("BitReader", some "left"), "left", "BitReader.left", defArgs s_BitReader_left, defBody s_BitReader_left, defScope s_BitReader_left, [], []⟩
def d_BitReader_place : He.DefD := ⟨("BitReader", some "place"), "place", "BitReader.place", defArgs s_BitReader_place, defBody s_BitReader_place, defScope s_BitReader_place, [], []⟩
def d_BitReader_go : He.DefD := ⟨("BitReader", some "go"), "go", "BitReader.go", defArgs s_BitReader_go, defBody s_BitReader_go, defScope s_BitReader_go, [], []⟩
def d_BitReader_take : He.DefD := ⟨("BitReader", some "take"), "take", "BitReader.take", defArgs s_BitReader_take, defBody s_BitReader_take, defScope s_BitReader_take, [], []⟩
def d__law_cell_at : He.DefD := ⟨("_law_cell_at", none), "_law_cell_at", "_law_cell_at", defArgs s__law_cell_at, defBody s__law_cell_at, defScope s__law_cell_at, [], []⟩
def d__law_mixed : He.DefD := ⟨("_law_mixed", none), "_law_mixed", "_law_mixed", defArgs s__law_mixed, defBody s__law_mixed, defScope s__law_mixed, [], []⟩
def d__law_table : He.DefD := ⟨("_law_table", none), "_law_table", "_law_table", defArgs s__law_table, defBody s__law_table, defScope s__law_table, [], []⟩
def d__law_word : He.DefD := ⟨("_law_word", none), "_law_word", "_law_word", defArgs s__law_word, defBody s__law_word, defScope s__law_word, [], []⟩
def d__law_put : He.DefD := ⟨("_law_put", none), "_law_put", "_law_put", defArgs s__law_put, defBody s__law_put, defScope s__law_put, [], []⟩
def d__law_taken : He.DefD := ⟨("_law_taken", none), "_law_taken", "_law_taken", defArgs s__law_taken, defBody s__law_taken, defScope s__law_taken, [], []⟩
def d__law_odd : He.DefD := ⟨("_law_odd", none), "_law_odd", "_law_odd", defArgs s__law_odd, defBody s__law_odd, defScope s__law_odd, [], []⟩
def d__law_put_right : He.DefD := ⟨("_law_put_right", none), "_law_put_right", "_law_put_right", defArgs s__law_put_right, defBody s__law_put_right, defScope s__law_put_right, [], []⟩
def d__law_too_many : He.DefD := ⟨("_law_too_many", none), "_law_too_many", "_law_too_many", defArgs s__law_too_many, defBody s__law_too_many, defScope s__law_too_many, [], []⟩
def d__law_ended : He.DefD := ⟨("_law_ended", none), "_law_ended", "_law_ended", defArgs s__law_ended, defBody s__law_ended, defScope s__law_ended, [], []⟩
def d__law_taking_right : He.DefD := ⟨("_law_taking_right", none), "_law_taking_right", "_law_taking_right", defArgs s__law_taking_right, defBody s__law_taking_right, defScope s__law_taking_right, [], []⟩
def d__law_cut : He.DefD := ⟨("_law_cut", none), "_law_cut", "_law_cut", defArgs s__law_cut, defBody s__law_cut, defScope s__law_cut, [], []⟩
def d_law : He.DefD := ⟨("law", none), "law", "law", defArgs s_law, defBody s_law, defScope s_law, [], []⟩
def fn : List He.DefD := [d_is_table, d_alike_from, d_put_table, d_items_read, d_take_table, d_is_byte, d_is_row, d_need_row, d_is_number, d_need_size, d_BitRow___init__, d_BitRow_put, d_BitRow_many, d_BitRow_row, d_BitReader___init__, d_BitReader_left, d_BitReader_place, d_BitReader_go, d_BitReader_take, d__law_cell_at, d__law_mixed, d__law_table, d__law_word, d__law_put, d__law_taken, d__law_odd, d__law_put_right, d__law_too_many, d__law_ended, d__law_taking_right, d__law_cut, d_law]
def fa : List He.Fa := [.glo "PressError", .glo "BadRow", .exc "BadRow", .glo "BadBits", .exc "BadBits", .glo "NoBits", .exc "NoBits", .glo "BadShares", .glo "BadLengths", .glo "BadCode", .glo "BadTable", .exc "BadTable", .glo "BadPieces", .glo "BadBody", .glo "BadHead", .glo "BadCheck", .glo "BadMark", .glo "BadTail", .glo "Cut", .glo "Behind", .glo "Over", .glo "NoRange", .glo "BadLetters", .int "MANY" 272, .int "MOST_LENGTH" 6, .int "MORE_MARK" 7, .int "LEAST_MORE" 3, .int "MOST_MORE" 66, .int "LENGTH_BITS" 3, .int "MORE_BITS" 6, .glo "is_table", .glo "alike_from", .glo "put_table", .glo "items_read", .glo "take_table", .int "MOST_BYTE" 255, .glo "is_byte", .glo "is_row", .glo "need_row", .int "BYTE" 8, .int "MOST_SIZE" 24, .glo "is_number", .glo "need_size", .glo "BitRow", .cls "BitRow", .noat "BitRow" "full", .noat "BitRow" "part", .noat "BitRow" "filled", .meth "BitRow" "put", .meth "BitRow" "many", .meth "BitRow" "row", .mkr "BitRow", .glo "BitReader", .cls "BitReader", .noat "BitReader" "source", .noat "BitReader" "taken", .meth "BitReader" "left", .meth "BitReader" "place", .meth "BitReader" "go", .meth "BitReader" "take", .mkr "BitReader", .glo "_law_cell_at", .glo "_law_mixed", .glo "_law_table", .glo "_law_word", .glo "_law_put", .glo "_law_taken", .glo "_law_odd", .glo "_law_put_right", .glo "_law_too_many", .glo "_law_ended", .glo "_law_taking_right", .glo "_law_cut", .glo "law", .free "all", .free "bool", .free "divmod", .free "int", .free "isinstance", .free "len", .free "list", .free "max", .free "min", .free "range", .free "repr", .free "sum", .free "tuple", .free "ValueError"]
abbrev R : PySem.W.OpenRow := PySem.W.OpenLaw.row PySem.Challenge.rw_balepress_k12_tables_refused
def obsL (as : List Addr) (fa : List He.Fa) (fn : List He.DefD) (ts : List He.Tab) (tf : List He.Defn) (ex : PySem.W.Frag → Bool) (g : Addr → Option Obj) : He.AlX := (He.obsT fa fn ts (He.frT g as), ex (He.frT g as) && He.tabsB g tf (He.frT g as))
theorem saysL_of {as : List Addr} {fa : List He.Fa} {fn : List He.DefD} {ts : List He.Tab} {tf : List He.Defn} {ex : PySem.W.Frag → Bool} {w : World} {h : Heap} (e : obsL as fa fn ts tf ex h.get? = He.valX fn ts w) : He.SaysX fa fn ts tf ex w h (He.frT h.get? as) := by
  have both : ex (He.frT h.get? as) = true ∧ He.tabsB h.get? tf (He.frT h.get? as) = true := He.ba (congrArg (fun z : He.AlX => z.2) e)
  have at_ : ∀ p ∈ tf, PySem.W.codeHdIn (He.frT h.get? as) (He.cT (He.frT h.get? as) p).1 (He.cT (He.frT h.get? as) p).2 = true ∧ ∃ o, h.get? (He.cT (He.frT h.get? as) p).2 = some o ∧ He.emptyTab o = true := by
    intro p hp
    obtain ⟨c1, c2⟩ := He.ba (List.all_eq_true.mp both.2 p hp)
    generalize (He.cT (He.frT h.get? as) p).2 = t at c1 c2 ⊢
    cases g : h.get? t with
    | none => rw [g] at c2; cases c2
    | some o => rw [g] at c2; exact ⟨c1, o, rfl, c2⟩
  refine ⟨congrArg (fun z : He.AlX => z.1) e, both.1, fun p hp => (at_ p hp).1, fun p hp => ?_, fun p hp => ?_⟩
  · obtain ⟨_, o, g, q⟩ := at_ p hp
    exact He.frT_none g q
  · obtain ⟨_, o, g, q⟩ := at_ p hp
    rw [g, He.emptyTab_eq q]
def hookL (as : List Addr) (fa : List He.Fa) (fn : List He.DefD) (ts : List He.Tab) (tf : List He.Defn) (ex : PySem.W.Frag → Bool) : PySem.W.Hook where
  α := He.AlX
  obs := fun s => obsL as fa fn ts tf ex s.heap.get?
  val := fun w => He.valX fn ts w
  says := fun w h => ∃ K : PySem.W.Frag, K.In h ∧ He.SaysX fa fn ts tf ex w h K
  of := fun _ _ e => ⟨_, He.frT_in, saysL_of e⟩
  keeps := fun _ _ _ ⟨K, hK, c⟩ k => ⟨K, PySem.W.Frag.In.keeps hK k, ⟨c.t, c.more, c.hd, c.out, fun p hp => k _ _ (c.empty p hp)⟩⟩
theorem obsL_eq {as : List Addr} {fa : List He.Fa} {fn : List He.DefD} {ts : List He.Tab} {tf : List He.Defn} {ex : PySem.W.Frag → Bool} {g : Addr → Option Obj} {s : Shared} (h : ∀ a, g a = s.heap.get? a) : obsL as fa fn ts tf ex g = (hookL as fa fn ts tf ex).obs s := by
  rw [show g = s.heap.get? from funext h]
  rfl
def exs : List (PySem.W.Frag → Bool) := [fun K => (He.eqO (PySem.W.findIn K (.ref (He.ga K "BadTable")) "__getattribute__") (some (some (.builtin "BaseException.__getattribute__"))) && (He.eqO (PySem.W.findIn K (.ref (He.ga K "BadTable")) "__getattr__") (some none) && (decide (PySem.W.subIn K (.ref (He.ga K "BadTable")) (.type "BaseException") = some true) && (PySem.W.hasDictIn K (He.ga K "BadTable") && (He.eqO (PySem.W.findIn K (.ref (He.ga K "BadTable")) "__class__") (some (some (.builtin "object.__class__"))) && (He.eqO (PySem.W.specialIn K (.builtin "object.__class__") "__get__") (some (some (.builtin "getset_descriptor.__get__"))) && (decide (PySem.W.takesIn K (.builtin "object.__class__") = some true) && (decide (PySem.W.mroIn K (He.ga K "BadTable") (.type "object") = some true))))))))),
  fun K => decide (PySem.W.exmOne K (.ref (He.ga K "BadTable")) (.ref (He.ga K "PressError")) = some true),
  fun K => decide (PySem.W.kitOne K (.ref (He.ga K "BadTable")) (.ref (He.ga K "BadBits")) = some false),
  fun K => decide (PySem.W.kitOne K (.ref (He.ga K "BadTable")) (.ref (He.ga K "BadBody")) = some false),
  fun K => decide (PySem.W.kitOne K (.ref (He.ga K "BadTable")) (.ref (He.ga K "BadCheck")) = some false),
  fun K => decide (PySem.W.kitOne K (.ref (He.ga K "BadTable")) (.ref (He.ga K "BadCode")) = some false),
  fun K => decide (PySem.W.kitOne K (.ref (He.ga K "BadTable")) (.ref (He.ga K "BadHead")) = some false),
  fun K => decide (PySem.W.kitOne K (.ref (He.ga K "BadTable")) (.ref (He.ga K "BadLengths")) = some false),
  fun K => decide (PySem.W.kitOne K (.ref (He.ga K "BadTable")) (.ref (He.ga K "BadLetters")) = some false),
  fun K => decide (PySem.W.kitOne K (.ref (He.ga K "BadTable")) (.ref (He.ga K "BadMark")) = some false),
  fun K => decide (PySem.W.kitOne K (.ref (He.ga K "BadTable")) (.ref (He.ga K "BadPieces")) = some false),
  fun K => decide (PySem.W.kitOne K (.ref (He.ga K "BadTable")) (.ref (He.ga K "BadRow")) = some false),
  fun K => decide (PySem.W.kitOne K (.ref (He.ga K "BadTable")) (.ref (He.ga K "BadShares")) = some false),
  fun K => decide (PySem.W.kitOne K (.ref (He.ga K "BadTable")) (.ref (He.ga K "BadTail")) = some false),
  fun K => decide (PySem.W.kitOne K (.ref (He.ga K "BadTable")) (.ref (He.ga K "Behind")) = some false),
  fun K => decide (PySem.W.kitOne K (.ref (He.ga K "BadTable")) (.ref (He.ga K "Cut")) = some false),
  fun K => decide (PySem.W.kitOne K (.ref (He.ga K "BadTable")) (.ref (He.ga K "NoRange")) = some false),
  fun K => decide (PySem.W.kitOne K (.ref (He.ga K "BadTable")) (.ref (He.ga K "Over")) = some false),
  fun K => decide (PySem.W.kitOne K (.ref (He.ga K "BadTable")) (.ref (He.ga K "BadTable")) = some true),
  fun K => decide (PySem.W.kitOne K (.ref (He.ga K "BadTable")) (.ref (He.ga K "NoBits")) = some false),
  fun K => decide (PySem.W.kitOne K (.ref (He.ga K "BadTable")) (.type "ValueError") = some true),
  fun K => (He.eqO (PySem.W.findIn K (.ref (He.ga K "NoBits")) "__getattribute__") (some (some (.builtin "BaseException.__getattribute__"))) && (He.eqO (PySem.W.findIn K (.ref (He.ga K "NoBits")) "__getattr__") (some none) && (decide (PySem.W.subIn K (.ref (He.ga K "NoBits")) (.type "BaseException") = some true) && (PySem.W.hasDictIn K (He.ga K "NoBits") && (He.eqO (PySem.W.findIn K (.ref (He.ga K "NoBits")) "__class__") (some (some (.builtin "object.__class__"))) && (He.eqO (PySem.W.specialIn K (.builtin "object.__class__") "__get__") (some (some (.builtin "getset_descriptor.__get__"))) && (decide (PySem.W.takesIn K (.builtin "object.__class__") = some true) && (decide (PySem.W.mroIn K (He.ga K "NoBits") (.type "object") = some true))))))))),
  fun K => decide (PySem.W.exmOne K (.ref (He.ga K "NoBits")) (.ref (He.ga K "NoBits")) = some true),
  fun K => decide (PySem.W.exmOne K (.ref (He.ga K "NoBits")) (.ref (He.ga K "PressError")) = some true),
  fun K => decide (PySem.W.kitOne K (.ref (He.ga K "NoBits")) (.ref (He.ga K "BadBits")) = some false),
  fun K => decide (PySem.W.kitOne K (.ref (He.ga K "NoBits")) (.ref (He.ga K "BadBody")) = some false),
  fun K => decide (PySem.W.kitOne K (.ref (He.ga K "NoBits")) (.ref (He.ga K "BadCheck")) = some false),
  fun K => decide (PySem.W.kitOne K (.ref (He.ga K "NoBits")) (.ref (He.ga K "BadCode")) = some false),
  fun K => decide (PySem.W.kitOne K (.ref (He.ga K "NoBits")) (.ref (He.ga K "BadHead")) = some false),
  fun K => decide (PySem.W.kitOne K (.ref (He.ga K "NoBits")) (.ref (He.ga K "BadLengths")) = some false),
  fun K => decide (PySem.W.kitOne K (.ref (He.ga K "NoBits")) (.ref (He.ga K "BadLetters")) = some false),
  fun K => decide (PySem.W.kitOne K (.ref (He.ga K "NoBits")) (.ref (He.ga K "BadMark")) = some false),
  fun K => decide (PySem.W.kitOne K (.ref (He.ga K "NoBits")) (.ref (He.ga K "BadPieces")) = some false),
  fun K => decide (PySem.W.kitOne K (.ref (He.ga K "NoBits")) (.ref (He.ga K "BadRow")) = some false),
  fun K => decide (PySem.W.kitOne K (.ref (He.ga K "NoBits")) (.ref (He.ga K "BadShares")) = some false),
  fun K => decide (PySem.W.kitOne K (.ref (He.ga K "NoBits")) (.ref (He.ga K "BadTail")) = some false),
  fun K => decide (PySem.W.kitOne K (.ref (He.ga K "NoBits")) (.ref (He.ga K "Behind")) = some false),
  fun K => decide (PySem.W.kitOne K (.ref (He.ga K "NoBits")) (.ref (He.ga K "Cut")) = some false),
  fun K => decide (PySem.W.kitOne K (.ref (He.ga K "NoBits")) (.ref (He.ga K "NoRange")) = some false),
  fun K => decide (PySem.W.kitOne K (.ref (He.ga K "NoBits")) (.ref (He.ga K "Over")) = some false),
  fun K => decide (PySem.W.kitOne K (.ref (He.ga K "NoBits")) (.ref (He.ga K "BadTable")) = some false),
  fun K => decide (PySem.W.kitOne K (.ref (He.ga K "NoBits")) (.ref (He.ga K "NoBits")) = some true),
  fun K => decide (PySem.W.kitOne K (.ref (He.ga K "NoBits")) (.type "ValueError") = some true)]
def ex (K : PySem.W.Frag) : Bool := exs.all fun e => e K
theorem ex_at {K : PySem.W.Frag} (h : ex K = true) (i : Nat) {e : PySem.W.Frag → Bool} (he : exs[i]? = some e := by rfl) : e K = true := List.all_eq_true.mp h e (List.mem_of_getElem? he)
abbrev hk : PySem.W.Hook := hookL (List.range 1400) fa fn [] [] ex
def ob (s : PySem.W.SharedT) : He.AlX := obsL (List.range 1400) fa fn [] [] ex (HandSHeadRun.getT s)
theorem ob_eq (s : PySem.W.SharedT) : ob s = hk.obs s.abs := obsL_eq (HandSHeadRun.getT_eq s)
def loose0 : List PySem.Str := ["_wall", "PressError", "ValueError", "BadRow", "BadBits", "NoBits", "BadShares", "BadLengths", "BadCode", "BadTable", "BadPieces", "BadBody", "BadHead", "BadCheck", "BadMark", "BadTail", "Cut", "Behind", "Over", "NoRange", "BadLetters", "MANY", "MOST_LENGTH", "MORE_MARK", "LEAST_MORE", "MOST_MORE", "LENGTH_BITS", "MORE_BITS", "is_table", "alike_from"]
def loose1 : List PySem.Str := ["put_table", "items_read", "take_table", "MOST_BYTE", "is_byte", "is_row", "need_row", "BYTE", "MOST_SIZE", "is_number", "need_size", "BitRow", "BitReader", "_law_cell_at", "_law_mixed", "_law_table", "_law_word", "_law_put", "_law_taken", "_law_odd", "_law_put_right", "_law_too_many", "_law_ended", "_law_taking_right", "_law_cut"]
abbrev loose : List PySem.Str := loose0 ++ loose1
theorem run (w : World) : HandSHeadRun.RunEq R (PySem.W.view R.prog [59]) hk ob 40000 loose w := by
  intro os
  kernel_rfl
end L2.BH
/-! BLib: rules that take several kinds of values at once, calls that may let an error out at the caller's slots, and a picture of the heap as a list of own objects over a base. -/
namespace PySem.SeqAt
open PySem PySem.Spec MeetsSeq
theorem list_eq_declines_dict (l b : Addr) (items : Array Value) (n : Nat) (dd dd2 : Option Addr) (sl sl2 : Array (Option Value)) (dt : Data) :
    Meets (Builtin.«list.__eq__» ⟨[.ref l, .ref b], []⟩) (fun _ R s => s.heap.get? l = some { cls := .type "list", dict := dd, data := .seq items n, slots := sl } ∧ s.heap.get? b = some { cls := .type "dict", dict := dd2, data := dt, slots := sl2 } ∧ R (.ok (.ret .notImplemented)) s) :=
  .of_wp fun prog w A R s h => by obtain ⟨hp, g, d, tk, os⟩ := s; obtain ⟨hl, hb, h⟩ := h; have f1 := F.sub_dict_list; wp_walk using wpAny_loadPart' hl, wpAny_loadPart' hb; exact ⟨_, rfl, h⟩
theorem dict_eq_declines_list (l b : Addr) (items : Array Value) (n n2 : Nat) (es : Array DictEntry) (dd dd2 : Option Addr) (sl sl2 : Array (Option Value)) :
    Meets (Builtin.«dict.__eq__» ⟨[.ref l, .ref b], []⟩) (fun _ R s => s.heap.get? l = some { cls := .type "dict", dict := dd, data := .dict es n2, slots := sl } ∧ s.heap.get? b = some { cls := .type "list", dict := dd2, data := .seq items n, slots := sl2 } ∧ R (.ok (.ret .notImplemented)) s) :=
  .of_wp fun prog w A R s h => by obtain ⟨hp, g, d, tk, os⟩ := s; obtain ⟨hl, hb, h⟩ := h; have f1 := F.sub_list_dict; wp_walk using wpAny_loadPart' hl, wpAny_loadPart' hb; exact ⟨_, rfl, h⟩
theorem RcAt.dict_list {A : Around} {s : Shared} {l b : Addr} {es : Array DictEntry} {n2 : Nat} {dd : Option Addr} {sl : Array (Option Value)} {items : Array Value} (ho : s.heap.get? l = some { cls := .type "dict", dict := dd, data := .dict es n2, slots := sl }) (hb : s.heap.IsList b items) (hu : A.units < cLine) : RcAt A s (.ref l) (.ref b) false := fun prog w E Q h => by
  have hne : l ≠ b := fun e => by
    subst e
    obtain ⟨o2, ho2, hc2, _⟩ := hb
    rw [ho] at ho2
    cases ho2
    exact absurd hc2 (by simp)
  obtain ⟨⟨cls2, dd2, data2, sl2⟩, ho2, hc2, n3, hd2⟩ := id hb
  simp only at hc2 hd2
  subst hc2 hd2
  exact (rc_eq_decline_or (k := false) ⟨_, ho, rfl⟩ ⟨_, ho2, rfl⟩ (by decide) F.sub_list_dict F.slot_dict_eq F.slot_list_eq_refl
    (fun _ hq => call_meets F.slot_dict_eq ⟨_, ho, rfl⟩ F.entry_dict_eq (F.args_dict_eq_2 _ _) (dict_eq_declines_list l b items n3 n2 es dd dd2 sl sl2) ⟨ho, ho2, hq⟩)
    (fun _ hq => call_meets F.slot_list_eq_refl ⟨_, ho2, rfl⟩ F.entry_list_eq (F.args_list_eq_2 _ _) (list_eq_declines_dict b l items n3 dd2 dd sl2 sl _) ⟨ho2, ho, hq⟩)
    (fun _ hq => wpAny_isSame_ref_other' hne ho ho2 (by simp) hq) (.inr hu) h)
end PySem.SeqAt
namespace L2.BP
open PySem PySem.Spec PyProof.Rows
section
variable {X : Cx}
/-! ### operators, by kinds -/
def rAddStr : R2 := fun x y H Q => ∃ i j, x = .str i ∧ y = .str j ∧ i.length + j.length ≤ sizeLine ∧ Q (.str (i ++ j)) H
def rAddI : R2 := rI0 fun i j => .int (i + j)
def rAddU : R2 := fun x y H Q => rAddI x y H Q ∨ rAddStr x y H Q ∨ rCat x y H Q
theorem op_addU : OpR X (binaryOp .Add) rAddU := OpR.or op_add (OpR.or op_add_str op_cat)
def rSubU : R2 := rI0 fun i j => .int (i - j)
theorem op_subU : OpR X (binaryOp .Sub) rSubU := op_sub
def rMulI : R2 := rI CMul fun i j => .int (i * j)
def repS (z : Str) (k : Nat) : Str := if k = 0 then Str.empty else if k = 1 ∨ z.length = 0 then z else ⟨(List.replicate k z.cps).foldl (· ++ ·) #[]⟩
def rRepS : R2 := fun x y H Q => ∃ (z : Str) (k : Nat), x = .str z ∧ y = .int ((k : Nat) : Int) ∧ k ≤ 1000 ∧ z.length ≤ 1000 ∧ (repS z k).length ≤ 1000000 ∧ Q (.str (repS z k)) H
theorem op_repS : OpR X (binaryOp .Mult) rRepS := by
  intro pins s σ H x y v u Q I rx ry h
  obtain ⟨z, k, rfl, rfl, hk, hz, hl, q⟩ := h
  obtain ⟨t, rfl⟩ := rx
  obtain ⟨t', rfl⟩ := ry
  have hm : z.length * k ≤ 1000 * 1000 := Nat.mul_le_mul hz hk
  refine PySem.P.mul_str ?_ ?_ ?_ ?_
  · rw [decide_eq_false (by omega), decide_eq_false (by omega)]
    rfl
  · intro h1 h2 h3
    have h4 : 9223372036854775 ≤ (2 ^ 63 - 1) / ((k : Nat) : Int) := by
      refine (Int.le_ediv_iff_mul_le (by omega)).mpr ?_
      omega
    omega
  · intro h1 h2
    unfold Builtin.Str.tooLong
    rw [Int.toNat_natCast]
    exact decide_eq_false (Nat.not_lt.mpr (Nat.le_trans hm (by decide)))
  · unfold repS at q hl
    by_cases h0 : k = 0
    · subst h0
      rw [if_pos rfl] at q
      rw [if_pos (by decide)]
      exact ⟨by decide, .str Str.empty, H, I.tok _, ⟨_, rfl⟩, q⟩
    · rw [if_neg h0] at q hl
      rw [if_neg (by omega)]
      by_cases h1 : k = 1 ∨ z.length = 0
      · rw [if_pos h1] at q
        have e : ((((k : Nat) : Int) == 1) || z.length == 0) = true := by
          rcases h1 with e | e
          · subst e
            rfl
          · rw [e]
            simp
        rw [e, if_pos rfl]
        exact ⟨.str z, H, I, ⟨_, rfl⟩, q⟩
      · rw [if_neg h1] at q hl
        have e : ((((k : Nat) : Int) == 1) || z.length == 0) = false := by
          have e1 : ¬ k = 1 := fun h => h1 (.inl h)
          have e2 : ¬ z.length = 0 := fun h => h1 (.inr h)
          have e3 : (((k : Nat) : Int) == 1) = false := by
            rw [beq_eq_false_iff_ne]
            omega
          have e4 : (z.length == 0) = false := by
            rw [beq_eq_false_iff_ne]
            exact e2
          rw [e3, e4]
          rfl
        rw [e, if_neg Bool.false_ne_true, Int.toNat_natCast]
        exact ⟨Nat.le_trans hl (by decide), .str _, H, I.tok _, ⟨_, rfl⟩, q⟩
def rMulU : R2 := fun x y H Q => rMulI x y H Q ∨ rRep x y H Q ∨ rRepS x y H Q
theorem op_mulU : OpR X (binaryOp .Mult) rMulU := OpR.or op_mul (OpR.or op_rep op_repS)
def rDivU : R2 := rI CDiv fun i j => .int (i / j)
theorem op_divU : OpR X (binaryOp .FloorDiv) rDivU := op_fdiv
def rModU : R2 := rI (fun _ j => 0 < j) fun i j => .int (i % j)
theorem op_modU : OpR X (binaryOp .Mod) rModU := op_mod
def rPowU : R2 := rI CPow fun i j => .int (i ^ j.toNat)
theorem op_powU : OpR X (binaryOp .Pow) rPowU := op_pow
def rShlU : R2 := fun x y H Q => rI CPow (fun i j => .int (i * 2 ^ j.toNat)) x y H Q ∨ rI CShl (fun i j => .int (i * 2 ^ j.toNat)) x y H Q
theorem op_shlU : OpR X (binaryOp .LShift) rShlU := OpR.or op_shl op_shlW
def rShrU : R2 := rI (fun _ j => 0 ≤ j) fun i j => .int (i / 2 ^ j.toNat)
theorem op_shrU : OpR X (binaryOp .RShift) rShrU := op_shr
def rAndU : R2 := rI0 fun i j => .int (Builtin.bitAnd i j)
theorem op_andU : OpR X (binaryOp .BitAnd) rAndU := op_and
def rOrU : R2 := rI0 fun i j => .int (Builtin.bitOr i j)
theorem op_orU : OpR X (binaryOp .BitOr) rOrU := op_or
def rXorU : R2 := rI0 fun i j => .int (Builtin.bitXor i j)
def rNegU : V → Hp → VK → Prop := rU fun i => .int (-i)
theorem un_negU : UnR X (unaryOp .USub) rNegU := un_neg
def rLtU : R2 := rI0 fun i j => .bl (decide (i < j))
theorem op_ltU : OpR X (compareOp .Lt) rLtU := op_lt
def rLeU : R2 := rI0 fun i j => .bl (decide (i ≤ j))
theorem op_leU : OpR X (compareOp .LtE) rLeU := op_le
def rGtU : R2 := rI0 fun i j => .bl (decide (j < i))
theorem op_gtU : OpR X (compareOp .Gt) rGtU := op_gt
def rGeU : R2 := rI0 fun i j => .bl (decide (j ≤ i))
theorem op_geU : OpR X (compareOp .GtE) rGeU := op_ge
/-- a dict and a list -/
def rEqE (K : PySem.W.Frag) : R2 := fun x y H Q => ∃ (a b : Addr) (kvs : List (Key × V)) (ys : List V), x = .ref a ∧ y = .ref b ∧ H a = some (.dK kvs) ∧ SqL K H b ys ∧ Q (.bl false) H
theorem op_eqE (hu : X.A.units + 64 < cLine) : OpR X (compareOp .Eq) (rEqE X.K) := by
  intro pins s σ H x y v u Q I rx ry h
  obtain ⟨a, b, kvs, ys, rfl, rfl, ha, hb, q⟩ := h
  obtain rfl : v = Value.ref a := rx
  obtain rfl : u = Value.ref b := ry
  obtain ⟨_, _, vs, rv, o, es, ep, h1, h2, h3, h4, h5, h6⟩ := (show ObjOk X.prog X.w H s.heap a (.dK kvs) from I.hok a _ ha)
  obtain ⟨its, r, pl, hz⟩ := I.list hb
  obtain ⟨c, d, dt, sl⟩ := o
  obtain ⟨z1, z2, z3⟩ := h2
  simp only at h3 z1 z2 z3
  subst h3 z1
  exact SeqAt.RcAt.dict_list h1 pl.isList (by omega) X.prog X.w _ _ ⟨.bl _, H, I, rfl, q⟩
def rEqU (K : PySem.W.Frag) : R2 := fun x y H Q => rEq x y H Q ∨ rEqD K x y H Q ∨ rEqDA x y H Q ∨ rEqE K x y H Q
theorem op_eqU (hu : X.A.units + 64 < cLine) : OpR X (compareOp .Eq) (rEqU X.K) := OpR.or op_eq (OpR.or (op_eqD hu) (OpR.or (op_eq_dictA (by omega)) (op_eqE hu)))
def rNeU (K : PySem.W.Frag) : R2 := fun x y H Q => rNe x y H Q ∨ rNeD K x y H Q ∨ rNeDA x y H Q
theorem op_neU (hu : X.A.units + 64 < cLine) : OpR X (compareOp .NotEq) (rNeU X.K) := OpR.or op_ne (OpR.or (op_neD hu) (op_ne_dictA (by omega)))
def rIsNo : R2 := fun x y H Q => y = .non ∧ Q (.bl (decide (x = .non))) H
def rNotNo : R2 := fun x y H Q => y = .non ∧ Q (.bl (!decide (x = .non))) H
def rIsU : R2 := fun x y H Q => rIsNo x y H Q ∨ rIsB x y H Q
def rNotU : R2 := fun x y H Q => rNotNo x y H Q ∨ rNotB x y H Q
/-! ### in place -/
def ipAddI : TIp := ipI fun i j => i + j
def ipAddU : TIp := fun x y H Q => ipAddI x y H Q ∨ rExt2 x y H Q ∨ rAddStr x y H Q
theorem ip_addU : PIp X .Add ipAddU := fun pins s σ H x y v u Q I rx ry h => by
  rcases h with h | h | h
  · exact ip_add pins s σ H x y v u Q I rx ry h
  · exact iop_ext pins s σ H x y v u Q I rx ry h
  · exact iop_add_str pins s σ H x y v u Q I rx ry h
def ipSubU : TIp := ipI fun i j => i - j
theorem ip_subU : PIp X .Sub ipSubU := ip_sub
/-! ### slices, walks -/

end
end L2.BP
namespace L2.BP
open PySem PySem.Spec PyProof.Rows
/-! ### calls that may let an error out, wished for at the caller's slots -/
section
variable {X : Cx} {k : Nat} {f C : Addr} {fd : FuncData} {ps : List Str} {sp : Sp} {dvs : List V} {ds : List Value} {W : WX} {x m : Str} {p pos apos : Pos} {e o : Expr} {es : List Expr} {ta : TE} {t : TA}
/-- f(e, ..) -/
def tCl (sp : Sp) (dvs : List V) (W : WX) (t : TA) : TE := fun σ H Q => t σ H fun vs H1 => sp (vs ++ dvs) H1 Q fun c d H2 => W c d σ H2
/-- o.m(e, ..) -/
def tMt (C : Addr) (m : Str) (sp : Sp) (dvs : List V) (W : WX) (ta : TE) (t : TA) : TE := fun σ H Q => ta σ H fun x H1 => ∃ a dx fs, x = .ref a ∧ H1 a = some (.ins C dx fs) ∧ fs.lookup m = none ∧
  t σ H1 fun vs H2 => sp (x :: (vs ++ dvs)) H2 Q fun c d H3 => W c d σ H3
/-- C(e, ..) -/
def tMk (C : Addr) (sp : Sp) (dvs : List V) (W : WX) (t : TA) : TE := fun σ H Q => t σ H fun vs H1 => ∀ x dx, H1 x = none → H1 dx = none → dx ≠ x →
  sp (.ref x :: (vs ++ dvs)) (upd (upd H1 dx (.own x)) x (.ins C dx [])) (fun v H2 => v = .non ∧ Q (.ref x) H2) fun c d H2 => W c d σ H2
end
/-! ### an error raised -/
def tRz (C : Addr) (W : WX) : TS := fun _ σ H => W (.ref C) none σ H
theorem ps_rz {X : Cx} {W : WX} {C : Addr} {x m : Str} {j : Nat} {p p2 pos pos2 : Pos} (hc : X.calm = true) (tk : Takes X W) (q : PySem.W.excIn X.K C He.veBase "ValueError.__new__" = true ∧ PySem.W.keepIn X.K (.ref C) = true ∧ PySem.W.subIn X.K (.ref C) (.type "BaseException") = some true ∧ PySem.W.typeIn X.K (.ref C) = some (.type "type"))
    (gC : X.mg x = some (.ref C)) (hg : Gl X x) (hdb : (x == ("__debug__" : Str)) = false := by decide) :
    PS X (.Raise (some (.Call (.Name x p) [.Constant (.str m) j p2] [] pos)) none pos2) (tRz C W) :=
  ps_raise hc tk (pmk_own PySem.F.excBase_ValueError q.1 gC q.2.1 (raises_own q.2.2.1 q.2.2.2) hg hdb)
/-! ### names of the module -/
section
variable {X : Cx} {x : Str} {pos : Pos}
theorem pe_gint {i : Int} (hg : Gl X x) (hm : ∃ t, X.mg x = some (.int i t)) (hd : (x == ("__debug__" : Str)) = false := by decide) : PE X (.Name x pos) (tC (.int i)) :=
  hm.elim fun t h => pe_glob (v := .int i) hg h ⟨t, rfl⟩ hd
theorem pe_gref {a : Addr} (hg : Gl X x) (hm : X.mg x = some (.ref a)) (hd : (x == ("__debug__" : Str)) = false := by decide) : PE X (.Name x pos) (tC (.ref a)) := pe_glob (v := .ref a) hg hm rfl hd
theorem pe_bty {n : String} (hg : Gl X x) (hm : X.mg x = none) (hv : bootBuiltins x = some (.type n)) (hn : x ≠ "__name__" := by decide) (hd : (x == ("__debug__" : Str)) = false := by decide) : PE X (.Name x pos) (tC (.ty n)) := pe_bltn (v := .ty n) hg hm hv rfl hn hd
end
theorem bt_int : bootBuiltins "int" = some (.type "int") := by decide +kernel
theorem bt_bool : bootBuiltins "bool" = some (.type "bool") := by decide +kernel
theorem bt_list : bootBuiltins "list" = some (.type "list") := by decide +kernel
theorem bt_tuple : bootBuiltins "tuple" = some (.type "tuple") := by decide +kernel
theorem bt_ValueError : bootBuiltins "ValueError" = some (.type "ValueError") := by decide +kernel
theorem bb_len : bootBuiltins "len" = some (.builtin "len") := by decide +kernel
theorem bb_isinstance : bootBuiltins "isinstance" = some (.builtin "isinstance") := by decide +kernel
theorem bb_all : bootBuiltins "all" = some (.builtin "all") := by decide +kernel
theorem bb_sum : bootBuiltins "sum" = some (.builtin "sum") := by decide +kernel
theorem bb_min : bootBuiltins "min" = some (.builtin "min") := by decide +kernel
theorem bb_max : bootBuiltins "max" = some (.builtin "max") := by decide +kernel
theorem bb_divmod : bootBuiltins "divmod" = some (.builtin "divmod") := by decide +kernel
theorem bb_repr : bootBuiltins "repr" = some (.builtin "repr") := by decide +kernel
/-! ### calls of built-ins by several kinds -/
section
variable {X : Cx}
def rLenK (K : PySem.W.Frag) : List V → Hp → VK → Prop := fun xs H Q => ∃ x n, xs = [x] ∧ LenV K x H n ∧ Q (.int n) H
theorem cr_lenK : CallR X (.builtin "len") (rLenK X.K) := call_len
def rIntK : List V → Hp → VK → Prop := fun xs H Q => (∃ i, xs = [.int i] ∧ Q (.int i) H) ∨ ∃ k, xs = [.bl k] ∧ Q (.int (if k then 1 else 0)) H
theorem cr_intK : CallR X (.type "int") rIntK := call_int1
def rListK (K : PySem.W.Frag) : List V → Hp → VK → Prop := fun xs H Q => ∃ p ys, xs = [.ref p] ∧ (SqL K H p ys ∨ SqT K H p ys) ∧ ∀ l, H l = none → Q (.ref l) (upd H l (.lst ys))
theorem cr_listK : CallR X (.type "list") (rListK X.K) := call_list_of
def rTupleK (K : PySem.W.Frag) : List V → Hp → VK → Prop := fun xs H Q => ∃ p ys, xs = [.ref p] ∧ ((SqL K H p ys ∧ ∀ l, H l = none → Q (.ref l) (upd H l (.tup ys))) ∨ (SqT K H p ys ∧ Q (.ref p) H))
theorem cr_tupleK : CallR X (.type "tuple") (rTupleK X.K) := call_tuple_of
def rDivmodK : List V → Hp → VK → Prop := fun xs H Q => ∃ i j, xs = [.int i, .int j] ∧ CDiv i j ∧ ∀ p, H p = none → Q (.ref p) (upd H p (.tup [.int (i / j), .int (i % j)]))
theorem cr_divmodK : CallR X (.builtin "divmod") rDivmodK := call_divmod
def rMax2K : List V → Hp → VK → Prop := fun xs H Q => ∃ i j, xs = [.int i, .int j] ∧ Q (.int (if j > i then j else i)) H
theorem cr_max2K (hc : X.calm = true) : CallR X (.builtin "max") rMax2K := call_max2 hc
def rMin2K : List V → Hp → VK → Prop := fun xs H Q => ∃ i j, xs = [.int i, .int j] ∧ Q (.int (if j < i then j else i)) H
theorem cr_min2K (hc : X.calm = true) : CallR X (.builtin "min") rMin2K := call_min2 hc
def rSlK (K : PySem.W.Frag) : V → Option Int → Option Int → Hp → VK → Prop := fun x lo hi H Q => rSlL K x lo hi H Q ∨ rSlS x lo hi H Q ∨ rSlT K x lo hi H Q
theorem sl_K : SlR X (rSlK X.K) := SlR.or sl_list (SlR.or sl_str sl_tup)
end
end L2.BP
namespace L2.BP
open PySem PySem.Spec PyProof.Rows
/-! ### the heap as own objects over a base -/
structure Hs (B : Hp) (L : List (Addr × HO)) (H : Hp) : Prop where
  ex : Same B H
  nd : (L.map (·.1)).Nodup
  own : ∀ q ∈ L, H q.1 = some q.2 ∧ B q.1 = none
section
variable {B H H' : Hp} {L : List (Addr × HO)} {p : Addr} {o o' : HO} {K : PySem.W.Frag}
theorem Hs.start (H : Hp) : Hs H [] H := ⟨Same.refl H, .nil, fun _ h => nomatch h⟩
theorem Hs.same (h : Hs B L H) (s : Same H H') : Hs B L H' := ⟨h.ex.trans s, h.nd, fun q m => ⟨s _ _ (h.own q m).1, (h.own q m).2⟩⟩
theorem Hs.newS (h : Hs B L H) (hp : H p = none) (s : Same H H') (hn : H' p = some o) : Hs B ((p, o) :: L) H' where
  ex := h.ex.trans s
  nd := by
    refine List.nodup_cons.mpr ⟨fun m => ?_, h.nd⟩
    obtain ⟨q, mq, e⟩ := List.mem_map.mp m
    have z := (h.own q mq).1
    rw [e, hp] at z
    cases z
  own := fun q m => by
    rcases List.mem_cons.mp m with rfl | m
    · exact ⟨hn, h.ex.free hp⟩
    · exact ⟨s _ _ (h.own q m).1, (h.own q m).2⟩
theorem same_upd (hp : H p = none) : Same H (upd H p o) := fun b u e => by rw [upd_ne (ne_of_none e hp)]; exact e
theorem Hs.new (h : Hs B L H) (hp : H p = none) : Hs B ((p, o) :: L) (upd H p o) := h.newS hp (same_upd hp) upd_same
theorem Hs.drop {q : Addr × HO} (h : Hs B (q :: L) H) : Hs B L H := ⟨h.ex, (List.nodup_cons.mp h.nd).2, fun z m => h.own z (List.mem_cons_of_mem _ m)⟩
theorem Hs.get (h : Hs B L H) (m : (p, o) ∈ L) : H p = some o := (h.own _ m).1
theorem Hs.nb (h : Hs B L H) (m : (p, o) ∈ L) : B p = none := (h.own _ m).2
/-- the first of the own objects changed -/
theorem Hs.chg (h : Hs B ((p, o) :: L) H) (k : ∀ b u, b ≠ p → H b = some u → H' b = some u) (hn : H' p = some o') : Hs B ((p, o') :: L) H' where
  ex := fun b u e => k b u (ne_of_none e (h.nb (o := o) (.head _))) (h.ex b u e)
  nd := h.nd
  own := fun q m => by
    rcases List.mem_cons.mp m with rfl | m
    · exact ⟨hn, h.nb (o := o) (.head _)⟩
    · refine ⟨k _ _ (fun z => ?_) (h.own q (.tail _ m)).1, (h.own q (.tail _ m)).2⟩
      exact (List.nodup_cons.mp h.nd).1 (List.mem_map.mpr ⟨q, m, z⟩)
theorem Hs.perm {L' : List (Addr × HO)} (h : Hs B L H) (q : L.Perm L') : Hs B L' H := ⟨h.ex, (q.map _).nodup_iff.mp h.nd, fun z m => h.own z (q.mem_iff.mpr m)⟩
theorem Hs.swap {a b : Addr × HO} (h : Hs B (a :: b :: L) H) : Hs B (b :: a :: L) H := h.perm (.swap b a L)
theorem Hs.rot3 {a b c : Addr × HO} (h : Hs B (a :: b :: c :: L) H) : Hs B (c :: a :: b :: L) H := h.perm ((List.Perm.cons a (.swap c b L)).trans (.swap c a (b :: L)))
theorem Hs.unrot3 {a b c : Addr × HO} (h : Hs B (c :: a :: b :: L) H) : Hs B (a :: b :: c :: L) H := h.perm (((List.Perm.cons a (.swap c b L)).trans (.swap c a (b :: L))).symm)
theorem Hs.u0 (h : Hs B ((p, o) :: L) H) : Hs B ((p, o') :: L) (upd H p o') := h.chg (fun b u n e => by rw [upd_ne n]; exact e) upd_same
theorem Hs.u1 {a : Addr × HO} (h : Hs B (a :: (p, o) :: L) H) : Hs B (a :: (p, o') :: L) (upd H p o') := h.swap.u0.swap
theorem Hs.u2 {a b : Addr × HO} (h : Hs B (a :: b :: (p, o) :: L) H) : Hs B (a :: b :: (p, o') :: L) (upd H p o') := h.rot3.u0.unrot3
theorem Hs.u3 {a b c : Addr × HO} (h : Hs B (a :: b :: c :: (p, o) :: L) H) : Hs B (a :: b :: c :: (p, o') :: L) (upd H p o') := by
  have e : (a :: b :: c :: (p, o) :: L).Perm ((p, o) :: a :: b :: c :: L) := (List.perm_middle (l₁ := [a, b, c]) (a := (p, o)) (l₂ := L))
  have e' : ((p, o') :: a :: b :: c :: L).Perm (a :: b :: c :: (p, o') :: L) := (List.perm_middle (l₁ := [a, b, c]) (a := (p, o')) (l₂ := L)).symm
  exact ((h.perm e).u0 (o' := o')).perm e'
/-- the first one is laid to the base: it changes no more -/
theorem Hs.fix (h : Hs B ((p, o) :: L) H) : Hs (upd B p o) L H where
  ex := fun b u e => by
    by_cases hb : b = p
    · subst hb
      rw [upd_same] at e
      cases e
      exact h.get (.head _)
    · rw [upd_ne hb] at e
      exact h.ex b u e
  nd := (List.nodup_cons.mp h.nd).2
  own := fun q m => by
    refine ⟨(h.own q (.tail _ m)).1, ?_⟩
    have n : q.1 ≠ p := fun z => (List.nodup_cons.mp h.nd).1 (List.mem_map.mpr ⟨q, m, z⟩)
    rw [upd_ne n]
    exact (h.own q (.tail _ m)).2
theorem Hs.sql {xs : List V} (h : Hs B L H) (m : (p, HO.lst xs) ∈ L) : SqL K H p xs := .of (h.get m)
theorem Hs.sqt {xs : List V} (h : Hs B L H) (m : (p, HO.tup xs) ∈ L) : SqT K H p xs := .of (h.get m)
theorem Hs.bl {xs : List V} (h : Hs B L H) (m : SqL K B p xs) : SqL K H p xs := h.ex.seq m
theorem same_sqt {xs : List V} (e : Same H H') (h : SqT K H p xs) : SqT K H' p xs := by
  rcases h with (h | ⟨u, h⟩) | h
  · exact .inl (.inl (e _ _ h))
  · exact .inl (.inr ⟨u, e _ _ h⟩)
  · exact .inr h
theorem Hs.bt {xs : List V} (h : Hs B L H) (m : SqT K B p xs) : SqT K H p xs := same_sqt h.ex m
mutual
theorem dp_same (e : Same H H') : ∀ {v : V} {d : PyData}, Dp K H v d → Dp K H' v d
  | _, _, .non => .non
  | _, _, .bl b => .bl b
  | _, _, .int i => .int i
  | _, _, .str x => .str x
  | _, _, .lst h a => .lst (e.seq h) (dpa_same e a)
  | _, _, .tup h a => .tup (same_sqt e h) (dpa_same e a)
theorem dpa_same (e : Same H H') : ∀ {vs : List V} {ds : List PyData}, DpAll K H vs ds → DpAll K H' vs ds
  | _, _, .nil => .nil
  | _, _, .cons h a => .cons (dp_same e h) (dpa_same e a)
end
theorem dpa_ints : ∀ ns : List Int, DpAll K H (ns.map V.int) (ns.map PyData.int)
  | [] => .nil
  | n :: r => .cons (.int n) (dpa_ints r)
end
/-! ### readings, step by step -/
section
variable {σ : St} {H : Hp} {Q : VK} {v x y : V} {i j : Int} {ta tb te : TE} {K : PySem.W.Frag} {r : R2} {B : Hp} {L : List (Addr × HO)}
theorem c_var {n : Nat} (h : σ[n]? = some (some v)) (k : Q v H) : tVar n σ H Q := ⟨v, h, k⟩
theorem c_c (k : Q v H) : tC v σ H Q := k
theorem c_op (k : ta σ H fun x H1 => tb σ H1 fun y H2 => r x y H2 Q) : tOp r ta tb σ H Q := k
theorem c_un {r : V → Hp → VK → Prop} (k : ta σ H fun x H1 => r x H1 Q) : tUn r ta σ H Q := k
theorem c_addI (k : Q (.int (i + j)) H) : rAddU (.int i) (.int j) H Q := .inl ⟨i, j, rfl, rfl, k⟩
theorem c_addL {p q : Addr} {xs ys : List V} (h : Hs B L H) (hp : H p = some (.lst xs)) (hq : H q = some (.lst ys)) (hl : xs.length + ys.length ≤ sizeLine)
    (k : ∀ a H', Hs B ((a, .lst (xs ++ ys)) :: L) H' → Q (.ref a) H') : rAddU (.ref p) (.ref q) H Q :=
  .inr (.inr ⟨p, q, xs, ys, rfl, rfl, hp, hq, hl, fun a ha => k a _ (h.new ha)⟩)
theorem c_sub (k : Q (.int (i - j)) H) : rSubU (.int i) (.int j) H Q := ⟨i, j, rfl, rfl, k⟩
theorem c_mulI (h : CMul i j) (k : Q (.int (i * j)) H) : rMulU (.int i) (.int j) H Q := .inl ⟨i, j, rfl, rfl, h, k⟩
theorem c_rep {p : Addr} {xs : List V} (h : Hs B L H) (hp : H p = some (.lst xs)) (h1 : -(2 ^ 63) ≤ j) (h2 : j < 2 ^ 63) (hl : xs.length * j.toNat ≤ sizeLine)
    (k : ∀ a H', Hs B ((a, .lst (List.replicate j.toNat xs).flatten) :: L) H' → Q (.ref a) H') : rMulU (.ref p) (.int j) H Q :=
  .inr (.inl ⟨p, j, xs, rfl, rfl, hp, h1, h2, hl, fun a ha => k a _ (h.new ha)⟩)
theorem c_div (h : CDiv i j) (k : Q (.int (i / j)) H) : rDivU (.int i) (.int j) H Q := ⟨i, j, rfl, rfl, h, k⟩
theorem c_mod (h : 0 < j) (k : Q (.int (i % j)) H) : rModU (.int i) (.int j) H Q := ⟨i, j, rfl, rfl, h, k⟩
theorem c_pow (h : CPow i j) (k : Q (.int (i ^ j.toNat)) H) : rPowU (.int i) (.int j) H Q := ⟨i, j, rfl, rfl, h, k⟩
theorem c_shl (h : CPow i j) (k : Q (.int (i * 2 ^ j.toNat)) H) : rShlU (.int i) (.int j) H Q := .inl ⟨i, j, rfl, rfl, h, k⟩
theorem c_shr (h : 0 ≤ j) (k : Q (.int (i / 2 ^ j.toNat)) H) : rShrU (.int i) (.int j) H Q := ⟨i, j, rfl, rfl, h, k⟩
theorem c_and (k : Q (.int (Builtin.bitAnd i j)) H) : rAndU (.int i) (.int j) H Q := ⟨i, j, rfl, rfl, k⟩
theorem c_or (k : Q (.int (Builtin.bitOr i j)) H) : rOrU (.int i) (.int j) H Q := ⟨i, j, rfl, rfl, k⟩
theorem c_xor (k : Q (.int (Builtin.bitXor i j)) H) : rXorU (.int i) (.int j) H Q := ⟨i, j, rfl, rfl, k⟩
theorem c_neg (k : Q (.int (-i)) H) : rNegU (.int i) H Q := ⟨i, rfl, k⟩
theorem c_lt (k : Q (.bl (decide (i < j))) H) : rLtU (.int i) (.int j) H Q := ⟨i, j, rfl, rfl, k⟩
theorem c_le (k : Q (.bl (decide (i ≤ j))) H) : rLeU (.int i) (.int j) H Q := ⟨i, j, rfl, rfl, k⟩
theorem c_gt (k : Q (.bl (decide (j < i))) H) : rGtU (.int i) (.int j) H Q := ⟨i, j, rfl, rfl, k⟩
theorem c_ge (k : Q (.bl (decide (j ≤ i))) H) : rGeU (.int i) (.int j) H Q := ⟨i, j, rfl, rfl, k⟩
theorem dec_of {p q : Prop} [Decidable p] [Decidable q] (h : p ↔ q) : decide p = decide q := by by_cases z : p <;> simp [z, h.mp, mt h.mpr] <;> simp_all
theorem c_eqI (k : Q (.bl (decide (i = j))) H) : rEqU K (.int i) (.int j) H Q := .inl ⟨rfl, by rw [dec_of (show V.int i = V.int j ↔ i = j by simp)]; exact k⟩
theorem c_neI (k : Q (.bl (!decide (i = j))) H) : rNeU K (.int i) (.int j) H Q := .inl ⟨rfl, by rw [dec_of (show V.int i = V.int j ↔ i = j by simp)]; exact k⟩
theorem c_eqS {a b : Str} (k : Q (.bl (decide (a = b))) H) : rEqU K (.str a) (.str b) H Q := .inl ⟨rfl, by rw [dec_of (show V.str a = V.str b ↔ a = b by simp)]; exact k⟩
theorem c_neS {a b : Str} (k : Q (.bl (!decide (a = b))) H) : rNeU K (.str a) (.str b) H Q := .inl ⟨rfl, by rw [dec_of (show V.str a = V.str b ↔ a = b by simp)]; exact k⟩
theorem c_eqB {a b : Bool} (k : Q (.bl (decide (a = b))) H) : rEqU K (.bl a) (.bl b) H Q := .inl ⟨rfl, by rw [dec_of (show V.bl a = V.bl b ↔ a = b by simp)]; exact k⟩
theorem c_neB {a b : Bool} (k : Q (.bl (!decide (a = b))) H) : rNeU K (.bl a) (.bl b) H Q := .inl ⟨rfl, by rw [dec_of (show V.bl a = V.bl b ↔ a = b by simp)]; exact k⟩
theorem c_eqD {d e : PyData} (hx : Dp K H x d) (hy : Dp K H y e) (h1 : SeqAt.shaped d = true) (h2 : SeqAt.shaped e = true) (k : Q (.bl (PyData.eqv d e)) H) : rEqU K x y H Q := .inr (.inl ⟨d, e, hx, hy, h1, h2, k⟩)
theorem c_neD {d e : PyData} (hx : Dp K H x d) (hy : Dp K H y e) (h1 : SeqAt.shaped d = true) (h2 : SeqAt.shaped e = true) (k : Q (.bl (!PyData.eqv d e)) H) : rNeU K x y H Q := .inr (.inl ⟨d, e, hx, hy, h1, h2, k⟩)
theorem c_isN (k : Q (.bl (decide (x = .non))) H) : rIsU x .non H Q := .inl ⟨rfl, k⟩
theorem c_notN (k : Q (.bl (!decide (x = .non))) H) : rNotU x .non H Q := .inl ⟨rfl, k⟩
theorem c_isB {a b : Bool} (k : Q (.bl (decide (a = b))) H) : rIsU (.bl a) (.bl b) H Q := .inr ⟨a, b, rfl, rfl, k⟩
theorem c_notB {a b : Bool} (k : Q (.bl (!decide (a = b))) H) : rNotU (.bl a) (.bl b) H Q := .inr ⟨a, b, rfl, rfl, k⟩
theorem c_ixL {p : Addr} {xs : List V} (h : SqL K H p xs) (ha : atI xs i = some v) (k : Q v H) : rIx K (.ref p) (.int i) H Q := .inl ⟨p, xs, i, v, rfl, rfl, h, ha, k⟩
theorem c_ixT {p : Addr} {xs : List V} (h : SqT K H p xs) (ha : atI xs i = some v) (k : Q v H) : rIx K (.ref p) (.int i) H Q := .inr (.inl ⟨p, xs, i, v, rfl, rfl, h, ha, k⟩)
theorem c_slL {p : Addr} {xs : List V} {lo hi : Option Int} (h : Hs B L H) (hq : SqL K H p xs) (k : ∀ a H', Hs B ((a, .lst (cutV xs lo hi)) :: L) H' → Q (.ref a) H') : rSlK K (.ref p) lo hi H Q :=
  .inl ⟨p, xs, rfl, hq, fun a ha => k a _ (h.new ha)⟩
theorem c_andV (k : ta σ H fun x H1 => ∃ c, x = .bl c ∧ if c = true then tb σ H1 Q else Q (.bl false) H1) : tAndV ta tb σ H Q := k
theorem c_orV (k : ta σ H fun x H1 => ∃ c, x = .bl c ∧ if c = true then Q (.bl true) H1 else tb σ H1 Q) : tOrV ta tb σ H Q := k
theorem c_notV (k : ta σ H fun x H1 => ∃ c, x = .bl c ∧ Q (.bl (!c)) H1) : tNotV ta σ H Q := k
theorem c_bl {b : Bool} {P : Bool → Prop} (k : P b) : ∃ c, V.bl b = V.bl c ∧ P c := ⟨b, rfl, k⟩
theorem c_test {P : Bool → Hp → Prop} (k : te σ H fun x H' => ∃ c, x = .bl c ∧ P c H') : tTest te σ H P := k
theorem c_B {P : Bool → Hp → Prop} (k : te σ H fun x H' => ∃ c, x = .bl c ∧ P c H') : tB te σ H P := k
theorem c_chain {r' : R2} {tc : TE} (k : ta σ H fun x H1 => tb σ H1 fun y H2 => r x y H2 fun z H3 => ∃ c, z = .bl c ∧ (if c = true then tc σ H3 fun w H4 => r' y w H4 Q else Q (.bl false) H3)) : tChain r r' ta tb tc σ H Q := k
section
variable {t u : TT} {P : Bool → Hp → Prop}
theorem c_tand (k : t σ H fun c H1 => if c = true then u σ H1 P else P false H1) : tAnd t u σ H P := k
theorem c_tor (k : t σ H fun c H1 => if c = true then P true H1 else u σ H1 P) : tOr t u σ H P := k
theorem c_tnot (k : t σ H fun c H1 => P (!c) H1) : tNot t σ H P := k
theorem c_if (k : t σ H fun c H1 => if c = true then ta σ H1 Q else tb σ H1 Q) : tIf t ta tb σ H Q := k
end
section
variable {P : List V → Hp → Prop} {tr : TA}
theorem c_nil (k : P [] H) : tNil σ H P := k
theorem c_cons (k : te σ H fun x H1 => tr σ H1 fun xs H2 => P (x :: xs) H2) : tCons te tr σ H P := k
def TupO (xs : List V) (H : Hp) (Q : VK) : Prop := xs.length ≤ sizeLine ∧ ∀ p, H p = none → Q (.ref p) (upd H p (.tup xs))
def LstO (xs : List V) (H : Hp) (Q : VK) : Prop := xs.length ≤ sizeLine ∧ ∀ p, H p = none → Q (.ref p) (upd H p (.lst xs))
theorem c_tup (k : tr σ H fun xs H1 => TupO xs H1 Q) : tTup tr σ H Q := k
theorem c_lst (k : tr σ H fun xs H1 => LstO xs H1 Q) : tLst tr σ H Q := k
theorem c_tupO {xs : List V} (h : Hs B L H) (hl : xs.length ≤ sizeLine) (k : ∀ p H', Hs B ((p, .tup xs) :: L) H' → Q (.ref p) H') : TupO xs H Q := ⟨hl, fun p hp => k p _ (h.new hp)⟩
theorem c_lstO {xs : List V} (h : Hs B L H) (hl : xs.length ≤ sizeLine) (k : ∀ p H', Hs B ((p, .lst xs) :: L) H' → Q (.ref p) H') : LstO xs H Q := ⟨hl, fun p hp => k p _ (h.new hp)⟩
theorem c_cb {r : List V → Hp → VK → Prop} (k : tr σ H fun vs H1 => r vs H1 Q) : tCB r tr σ H Q := k
theorem c_lenL {p : Addr} {xs : List V} (h : SqL K H p xs) (k : Q (.int xs.length) H) : rLenK K [.ref p] H Q := ⟨_, _, rfl, .inl ⟨xs, h, rfl⟩, k⟩
theorem c_lenT {p : Addr} {xs : List V} (h : SqT K H p xs) (k : Q (.int xs.length) H) : rLenK K [.ref p] H Q := ⟨_, _, rfl, .inr ⟨xs, h, rfl⟩, k⟩
theorem c_intI (k : Q (.int i) H) : rIntK [.int i] H Q := .inl ⟨i, rfl, k⟩
theorem c_intB {b : Bool} (k : Q (.int (if b then 1 else 0)) H) : rIntK [.bl b] H Q := .inr ⟨b, rfl, k⟩
theorem c_listL {p : Addr} {xs : List V} (h : Hs B L H) (hq : SqL K H p xs) (k : ∀ a H', Hs B ((a, .lst xs) :: L) H' → Q (.ref a) H') : rListK K [.ref p] H Q := ⟨p, xs, rfl, .inl hq, fun a ha => k a _ (h.new ha)⟩
theorem c_divmod (h : Hs B L H) (c : CDiv i j) (k : ∀ a H', Hs B ((a, .tup [.int (i / j), .int (i % j)]) :: L) H' → Q (.ref a) H') : rDivmodK [.int i, .int j] H Q := ⟨i, j, rfl, c, fun a ha => k a _ (h.new ha)⟩
theorem c_max2 (k : Q (.int (if j > i then j else i)) H) : rMax2K [.int i, .int j] H Q := ⟨i, j, rfl, k⟩
theorem c_min2 (k : Q (.int (if j < i then j else i)) H) : rMin2K [.int i, .int j] H Q := ⟨i, j, rfl, k⟩
theorem c_sum {p : Addr} {ns : List Int} (h : SqL K H p (ns.map V.int)) (k : Q (.int ns.sum) H) : rSum K [.ref p] H Q := ⟨p, ns, rfl, h, k⟩
theorem c_all {p : Addr} {bs : List Bool} (h : SqL K H p (bs.map V.bl)) (k : Q (.bl (bs.all id)) H) : rAll K [.ref p] H Q := ⟨p, bs, rfl, h, k⟩
theorem c_cl {sp : Sp} {dvs : List V} {W : WX} (k : tr σ H fun vs H1 => sp (vs ++ dvs) H1 Q fun c d H2 => W c d σ H2) : tCl sp dvs W tr σ H Q := k
theorem c_mt {C : Addr} {m : Str} {sp : Sp} {dvs : List V} {W : WX} (k : te σ H fun x H1 => ∃ a dx fs, x = .ref a ∧ H1 a = some (.ins C dx fs) ∧ fs.lookup m = none ∧ tr σ H1 fun vs H2 => sp (x :: (vs ++ dvs)) H2 Q fun c d H3 => W c d σ H3) : tMt C m sp dvs W te tr σ H Q := k
theorem c_recv {C dx p : Addr} {fs : List (Str × V)} {m : Str} {P : Prop} (h : H p = some (.ins C dx fs)) (hl : fs.lookup m = none) (k : P) : ∃ a dx fs, V.ref p = .ref a ∧ H a = some (.ins C dx fs) ∧ fs.lookup m = none ∧ P := ⟨p, dx, fs, rfl, h, hl, k⟩
end
/-! isinstance -/
theorem tyx_sql {p : Addr} {xs : List V} (h : SqL K H p xs) : TyX K H (.ref p) (.type "list") := by
  rcases h with (h | ⟨u, h⟩) | ⟨o, a, b, h1, h2, _⟩
  · exact .base (.lst h)
  · exact .base (.frz h)
  · exact .kList h1 h2
theorem c_isi {c : V} {t u : Value} {b : Bool} (T : TyX K H x t) (hc : ClsV c u) (e : PySem.W.kitOne K t u = some b) (k : Q (.bl b) H) : rIsi K [x, c] H Q := ⟨x, c, t, u, b, rfl, hc, T, e, k⟩
theorem k_int_int : PySem.W.kitOne K (.type "int") (.type "int") = some true := kit_ty (by decide +kernel)
theorem k_int_bool : PySem.W.kitOne K (.type "int") (.type "bool") = some false := kit_ty (by decide +kernel)
theorem c_isi_ii (k : Q (.bl true) H) : rIsi K [.int i, .ty "int"] H Q := c_isi (.base (.int i)) (.ty _) k_int_int k
theorem c_isi_ib (k : Q (.bl false) H) : rIsi K [.int i, .ty "bool"] H Q := c_isi (.base (.int i)) (.ty _) k_int_bool k
/-! fields -/
def FldO (K : PySem.W.Frag) (f : Str) (x : V) (H : Hp) (Q : VK) : Prop := ∃ a C dx fs v, x = .ref a ∧ H a = some (.ins C dx fs) ∧ Cls K C ∧ NoAttr K C f ∧ fs.lookup f = some v ∧ Q v H
theorem c_fld {f : Str} {C dx p : Addr} {fs : List (Str × V)} (h : H p = some (.ins C dx fs)) (hc : Cls K C) (hn : NoAttr K C f) (hl : fs.lookup f = some v) (k : Q v H) : FldO K f (.ref p) H Q := ⟨p, C, dx, fs, v, rfl, h, hc, hn, hl, k⟩
end
/-! ### statements -/
section
variable {σ : St} {H : Hp} {dn : St → Hp → Prop} {dr : VK} {db dc : St → Hp → Prop} {t u : TS} {te : TE} {g : TG} {v : V} {b : Bool}
theorem w_seq (k : t ⟨u ⟨dn, dr, db, dc⟩, dr, db, dc⟩ σ H) : tSeq t u ⟨dn, dr, db, dc⟩ σ H := k
theorem w_asg (k : te σ H fun x H1 => g x σ H1 dn) : tAsg te g ⟨dn, dr, db, dc⟩ σ H := k
theorem w_name {n : Nat} {P : St → Hp → Prop} (k : P (σ.set n (some v)) H) : gName n v σ H P := k
theorem w_drop (k : te σ H fun _ H1 => dn σ H1) : tDrop te ⟨dn, dr, db, dc⟩ σ H := k
theorem w_ret (k : te σ H dr) : tRet te ⟨dn, dr, db, dc⟩ σ H := k
theorem w_if {c : TT} (k : c σ H fun b H1 => if b = true then t ⟨dn, dr, db, dc⟩ σ H1 else u ⟨dn, dr, db, dc⟩ σ H1) : tIfS c t u ⟨dn, dr, db, dc⟩ σ H := k
theorem w_next (k : dn σ H) : tNext ⟨dn, dr, db, dc⟩ σ H := k
theorem i_t {A A' : Prop} (h : b = true) (k : A) : if b = true then A else A' := by rw [if_pos h]; exact k
theorem i_f {A A' : Prop} (h : b = false) (k : A') : if b = true then A else A' := by rw [h, if_neg Bool.false_ne_true]; exact k
theorem i_2 {A A' : Prop} (k : b = true → A) (k' : b = false → A') : if b = true then A else A' := by cases b; exact iteF (k' rfl); exact iteT (k rfl)
theorem w_aug {n : Nat} {ti : TIp} (h : σ[n]? = some (some v)) (k : te σ H fun y H1 => ti v y H1 fun z H2 => dn (σ.set n (some z)) H2) : tAug n te ti ⟨dn, dr, db, dc⟩ σ H := ⟨v, h, k⟩
theorem c_ipAddI {i j : Int} {Q : VK} (k : Q (.int (i + j)) H) : ipAddU (.int i) (.int j) H Q := .inl ⟨i, j, rfl, rfl, k⟩
theorem c_ipSub {i j : Int} {Q : VK} (k : Q (.int (i - j)) H) : ipSubU (.int i) (.int j) H Q := ⟨i, j, rfl, rfl, k⟩
end
/-! ### loops over what has plain items -/
section
variable {α : Type} {K : PySem.W.Frag} {a : Addr} {g : TG} {tb : TS} {dn : St → Hp → Prop} {dr : VK} {db dc : St → Hp → Prop} {σ : St} {H : Hp}
theorem take_split {l : List α} {i : Nat} {x : α} (h : l[i]? = some x) : l = l.take i ++ x :: l.drop (i + 1) ∧ l.take (i + 1) = l.take i ++ [x] := by
  obtain ⟨hi, e⟩ := List.getElem?_eq_some_iff.mp h
  subst e
  refine ⟨?_, by rw [List.take_add_one, h]; rfl⟩
  conv => lhs; rw [← List.take_append_drop i l, List.drop_eq_getElem_cons hi]
theorem for_l (f : α → V) (l : List α) (Pv : List α → St → Hp → Prop) (h0 : Pv [] σ H) (hq : ∀ pre post σ H, l = pre ++ post → Pv pre σ H → SqL K H a (l.map f))
    (hs : ∀ pre x post σ H, l = pre ++ x :: post → Pv pre σ H → g (f x) σ H fun σ2 H2 => tb ⟨Pv (pre ++ [x]), dr, dn, Pv (pre ++ [x])⟩ σ2 H2) (hd : ∀ σ H, Pv l σ H → dn σ H) :
    ∃ W : Nat → Nat → St → Hp → Prop, (∃ m, W 0 m σ H) ∧ ∀ i m σ H, W i m σ H →
      ((Itl K a).stop i H ∧ dn σ H) ∨ ((Itl K a).go i H ∧ ∃ N : St → Hp → Prop, (∀ σ' H', N σ' H' → ∃ m', m' < m ∧ W (i + 1) m' σ' H') ∧ ∀ x H', (Itl K a).yld i H x H' → g x σ H' fun σ2 H2 => tb ⟨N, dr, dn, N⟩ σ2 H2) := by
  refine L2.for_list (D := { nx := dn, rt := dr }) (xs := l.map f) (fun i => Pv (l.take i)) (by simpa using h0) (fun i σ H _ p => hq _ (l.drop i) σ H (List.take_append_drop i l).symm p) (fun i x σ H hx p => ?_) (fun σ H p => hd σ H (by simpa using p))
  rw [List.getElem?_map] at hx
  cases e : l[i]? with
  | none => rw [e] at hx; cases hx
  | some y =>
    rw [e] at hx
    cases hx
    obtain ⟨e1, e2⟩ := take_split e
    have z := hs _ y _ σ H e1 p
    rw [e2]
    exact z
theorem lc_l {tt : TT} {te : TE} {vs : List Nat} {D : Addr} {Qd : Hp → Prop} (f : α → V) (l : List α) (Pv : List α → Hp → Prop) (h0 : Pv [] (upd H D (.lst []))) (hq : ∀ pre post H, l = pre ++ post → Pv pre H → SqL K H a (l.map f))
    (hs : ∀ pre x post H, l = pre ++ x :: post → Pv pre H → g (f x) (wipe σ vs) H fun σ2 H2 => wipe σ2 vs = wipe σ vs ∧ tt σ2 H2 fun b H3 =>
      if b = true then te σ2 H3 fun y H4 => ∃ acc, H4 D = some (.lst acc) ∧ acc.length < sizeLine ∧ Pv (pre ++ [x]) (upd H4 D (.lst (acc ++ [y]))) else Pv (pre ++ [x]) H3) (hd : ∀ H, Pv l H → Qd H) :
    ∃ W : Nat → Nat → Hp → Prop, (∃ m, W 0 m (upd H D (.lst []))) ∧ ∀ i m H, W i m H →
      ((Itl K a).stop i H ∧ Qd H) ∨ ((Itl K a).go i H ∧ ∃ Nx : Hp → Prop, (∀ H', Nx H' → ∃ m', m' < m ∧ W (i + 1) m' H') ∧ ∀ x H', (Itl K a).yld i H x H' → g x (wipe σ vs) H' fun σ2 H2 => wipe σ2 vs = wipe σ vs ∧ tt σ2 H2 fun b H3 =>
        if b = true then te σ2 H3 fun y H4 => ∃ acc, H4 D = some (.lst acc) ∧ acc.length < sizeLine ∧ Nx (upd H4 D (.lst (acc ++ [y]))) else Nx H3) := by
  refine L2.lc_list (xs := l.map f) (fun i => Pv (l.take i)) (by simpa using h0) (fun i H _ p => hq _ (l.drop i) H (List.take_append_drop i l).symm p) (fun i x H hx p => ?_) (fun H p => hd H (by simpa using p))
  rw [List.getElem?_map] at hx
  cases e : l[i]? with
  | none => rw [e] at hx; cases hx
  | some y =>
    rw [e] at hx
    cases hx
    obtain ⟨e1, e2⟩ := take_split e
    have z := hs _ y _ H e1 p
    rw [e2]
    exact z
end
end L2.BP
namespace L2.BP
open PySem PySem.Spec PyProof.Rows
/-- a def as callers see it: what its defaults are, how the written arguments bind, its promise -/
def DOk (P : Program) (w : World) (K : PySem.W.Frag) (mg : Str → Option Value) (base : Heap) (k : Nat) (f : Addr) (ps : List Str) (dvs : List V) (sp : Sp) : Prop :=
  ∃ (fd : FuncData) (ds : List Value), Vals dvs ds ∧ Binds K fd ps ds ∧ FnOk P w K mg base (L2.CX P w) k f fd ps sp ∧ PySem.W.keepIn K (.ref f) = true
abbrev WF : WX := fun _ _ _ _ => False
/-! ### one of two readings of the same expression -/
/-! ### kinds of things -/
inductive Tg where
  | non | bl (b : Bool) | int (i : Int) | str (x : Str) | lst (xs : List V) | tup (xs : List V) | dic
/-- the thing v is of that kind -/
inductive Th (K : PySem.W.Frag) (H : Hp) : V → Tg → Prop where
  | non : Th K H .non .non
  | bl (b : Bool) : Th K H (.bl b) (.bl b)
  | int (i : Int) : Th K H (.int i) (.int i)
  | str (x : Str) : Th K H (.str x) (.str x)
  | lst {a : Addr} {xs : List V} (h : SqL K H a xs) : Th K H (.ref a) (.lst xs)
  | tup {a : Addr} {xs : List V} (h : SqT K H a xs) : Th K H (.ref a) (.tup xs)
  | dic {a : Addr} {kvs : List (Key × V)} (h : H a = some (.dK kvs)) : Th K H (.ref a) .dic
def Tg.ty : Tg → String
  | .non => "NoneType" | .bl _ => "bool" | .int _ => "int" | .str _ => "str" | .lst _ => "list" | .tup _ => "tuple" | .dic => "dict"
section
variable {K : PySem.W.Frag} {H H' : Hp} {v : V} {g : Tg} {Q : VK}
theorem Th.same (h : Th K H v g) (e : Same H H') : Th K H' v g := by
  cases h with
  | non => exact .non
  | bl b => exact .bl b
  | int i => exact .int i
  | str x => exact .str x
  | lst h => exact .lst (e.seq h)
  | tup h => exact .tup (same_sqt e h)
  | dic h => exact .dic (e _ _ h)
theorem tyx_sqt {p : Addr} {xs : List V} (h : SqT K H p xs) : TyX K H (.ref p) (.type "tuple") := by
  rcases h with (h | ⟨u, h⟩) | ⟨o, a, b, h1, h2, _⟩
  · exact .base (.tup h)
  · exact .fTuple h
  · exact .kTuple h1 h2
theorem Th.tyx (h : Th K H v g) : TyX K H v (.type g.ty) := by
  cases h with
  | non => exact .base .non
  | bl b => exact .base (.bl b)
  | int i => exact .base (.int i)
  | str x => exact .base (.str x)
  | lst h => exact tyx_sql h
  | tup h => exact tyx_sqt h
  | dic h => exact .base (.dK h)
def Tg.isInt : Tg → Bool
  | .bl _ => true | .int _ => true | _ => false
def Tg.isBool : Tg → Bool
  | .bl _ => true | _ => false
def Tg.isList : Tg → Bool
  | .lst _ => true | _ => false
def Tg.isStr : Tg → Bool
  | .str _ => true | _ => false
theorem Tg.kInt (g : Tg) : PySem.W.kitOne K (.type g.ty) (.type "int") = some g.isInt := by cases g <;> exact kit_ty (by kernel_rfl)
theorem Tg.kBool (g : Tg) : PySem.W.kitOne K (.type g.ty) (.type "bool") = some g.isBool := by cases g <;> exact kit_ty (by kernel_rfl)
theorem Tg.kList (g : Tg) : PySem.W.kitOne K (.type g.ty) (.type "list") = some g.isList := by cases g <;> exact kit_ty (by kernel_rfl)
theorem Tg.kStr (g : Tg) : PySem.W.kitOne K (.type g.ty) (.type "str") = some g.isStr := by cases g <;> exact kit_ty (by kernel_rfl)
theorem c_isiInt (h : Th K H v g) (k : Q (.bl g.isInt) H) : rIsi K [v, .ty "int"] H Q := c_isi h.tyx (.ty _) g.kInt k
theorem c_isiBool (h : Th K H v g) (k : Q (.bl g.isBool) H) : rIsi K [v, .ty "bool"] H Q := c_isi h.tyx (.ty _) g.kBool k
theorem c_isiList (h : Th K H v g) (k : Q (.bl g.isList) H) : rIsi K [v, .ty "list"] H Q := c_isi h.tyx (.ty _) g.kList k
theorem c_isiStr (h : Th K H v g) (k : Q (.bl g.isStr) H) : rIsi K [v, .ty "str"] H Q := c_isi h.tyx (.ty _) g.kStr k
/-- the results of defs that change nothing: a value, a new list, a new tuple -/
def RetV (H : Hp) (Q : VK) (v : V) : Prop := ∀ H', Same H H' → Q v H'
def RetL (H : Hp) (Q : VK) (xs : List V) : Prop := ∀ p H', H p = none → Same H H' → H' p = some (.lst xs) → Q (.ref p) H'
def RetT (H : Hp) (Q : VK) (xs : List V) : Prop := ∀ p H', H p = none → Same H H' → H' p = some (.tup xs) → Q (.ref p) H'
end
section
variable {B H : Hp} {L : List (Addr × HO)} {K : PySem.W.Frag} {Q : VK} {v : V} {xs : List V}
theorem Hs.rv (h : Hs B L H) (k : RetV B Q v) : Q v H := k H h.ex
theorem Hs.rl {p : Addr} (h : Hs B L H) (m : (p, HO.lst xs) ∈ L) (k : RetL B Q xs) : Q (.ref p) H := k p H (h.nb m) h.ex (h.get m)
theorem Hs.rt {p : Addr} (h : Hs B L H) (m : (p, HO.tup xs) ∈ L) (k : RetT B Q xs) : Q (.ref p) H := k p H (h.nb m) h.ex (h.get m)
theorem retV (h : Hs B L H) (k : ∀ H', Hs B L H' → Q v H') : RetV H Q v := fun H' e => k H' (h.same e)
theorem retL (h : Hs B L H) (k : ∀ p H', Hs B ((p, .lst xs) :: L) H' → Q (.ref p) H') : RetL H Q xs := fun p H' hp e hn => k p H' (h.newS hp e hn)
end
end L2.BP
namespace L2.BP
open PySem PySem.Spec PyProof.Rows
/-! ### loops over the picture of the heap: I tells of what is done, the slots, the own objects, the base -/
abbrev Pic : Type := List (Addr × HO)
section
variable {α : Type} {K : PySem.W.Frag} {a : Addr} {g : TG} {tb : TS} {dn : St → Hp → Prop} {dr : VK} {db dc : St → Hp → Prop} {σ : St} {H B : Hp} {L : Pic}
/-- a list that is read stands in the base, or is an own one that is not changed -/
def NxI {β : Type} (I : β → St → Pic → Hp → Prop) (b : β) : St → Hp → Prop := fun σ H => ∃ L B, I b σ L B ∧ Hs B L H
theorem w_forL (f : α → V) (l : List α) (I : List α → St → Pic → Hp → Prop) (hs : Hs B L H) (h0 : I [] σ L B) (hq : ∀ pre post σ' L' B' H', l = pre ++ post → I pre σ' L' B' → Hs B' L' H' → SqL K H' a (l.map f))
    (turn : ∀ pre x post σ' L' B' H', l = pre ++ x :: post → I pre σ' L' B' → Hs B' L' H' → g (f x) σ' H' fun σ2 H2 => tb ⟨NxI I (pre ++ [x]), dr, dn, NxI I (pre ++ [x])⟩ σ2 H2)
    (fin : ∀ σ' L' B' H', I l σ' L' B' → Hs B' L' H' → dn σ' H') :
    ∃ b, V.ref a = .ref b ∧ (∃ xs, SqL K H b xs) ∧ ∃ W : Nat → Nat → St → Hp → Prop, (∃ m, W 0 m σ H) ∧ ∀ i m σ H, W i m σ H →
      ((Itl K b).stop i H ∧ dn σ H) ∨ ((Itl K b).go i H ∧ ∃ N : St → Hp → Prop, (∀ σ' H', N σ' H' → ∃ m', m' < m ∧ W (i + 1) m' σ' H') ∧ ∀ x H', (Itl K b).yld i H x H' → g x σ H' fun σ2 H2 => tb ⟨N, dr, dn, N⟩ σ2 H2) :=
  ⟨a, rfl, ⟨_, hq [] l σ L B H rfl h0 hs⟩, for_l f l (NxI I) ⟨L, B, h0, hs⟩ (fun pre post σ' H' e ⟨_, _, i, h⟩ => hq pre post _ _ _ _ e i h) (fun pre x post σ' H' e ⟨_, _, i, h⟩ => turn pre x post _ _ _ _ e i h) fun σ' H' ⟨_, _, i, h⟩ => fin _ _ _ _ i h⟩
theorem w_forR {lo : Int} {n : Nat} (I : Nat → St → Pic → Hp → Prop) (hs : Hs B L H) (h0 : I 0 σ L B)
    (turn : ∀ i σ' L' B' H', i < n → I i σ' L' B' → Hs B' L' H' → g (.int (lo + i)) σ' H' fun σ2 H2 => tb ⟨NxI I (i + 1), dr, dn, NxI I (i + 1)⟩ σ2 H2)
    (fin : ∀ σ' L' B' H', I n σ' L' B' → Hs B' L' H' → dn σ' H') :
    ∃ W : Nat → Nat → St → Hp → Prop, (∃ m, W 0 m σ H) ∧ ∀ i m σ H, W i m σ H →
      ((Itr lo n).stop i H ∧ dn σ H) ∨ ((Itr lo n).go i H ∧ ∃ N : St → Hp → Prop, (∀ σ' H', N σ' H' → ∃ m', m' < m ∧ W (i + 1) m' σ' H') ∧ ∀ x H', (Itr lo n).yld i H x H' → g x σ H' fun σ2 H2 => tb ⟨N, dr, dn, N⟩ σ2 H2) :=
  L2.for_range (D := { nx := dn, rt := dr }) (NxI I) ⟨L, B, h0, hs⟩ (fun i σ' H' e ⟨_, _, q, h⟩ => turn i _ _ _ _ e q h) fun σ' H' ⟨_, _, q, h⟩ => fin _ _ _ _ q h
/-- while: I falls by its number -/
def WhN (I : Nat → St → Pic → Hp → Prop) (m : Nat) : St → Hp → Prop := fun σ H => ∃ m', m' < m ∧ NxI I m' σ H
theorem w_while {c : TT} (I : Nat → St → Pic → Hp → Prop) (m0 : Nat) (hs : Hs B L H) (h0 : I m0 σ L B)
    (turn : ∀ m σ' L' B' H', I m σ' L' B' → Hs B' L' H' → c σ' H' fun b H1 => if b = true then ∃ N : St → Hp → Prop, (∀ σ3 H3, N σ3 H3 → WhN I m σ3 H3) ∧ tb ⟨N, dr, dn, N⟩ σ' H1 else dn σ' H1) :
    tWhile c tb ⟨dn, dr, db, dc⟩ σ H := ⟨fun m => NxI I m, ⟨m0, L, B, h0, hs⟩, fun m σ' H' ⟨_, _, q, h⟩ => turn m σ' _ _ H' q h⟩
theorem w_turn {P : St → Hp → Prop} (k : tb ⟨P, dr, dn, P⟩ σ H) : ∃ N : St → Hp → Prop, (∀ σ3 H3, N σ3 H3 → P σ3 H3) ∧ tb ⟨N, dr, dn, N⟩ σ H := ⟨_, fun _ _ w => w, k⟩
end
/-! ### comprehensions -/
section
variable {α : Type} {K : PySem.W.Frag} {a : Addr} {g : TG} {tt : TT} {te tl : TE} {σ : St} {H B : Hp} {L : Pic} {Q : VK} {vs : List Nat}
/-- the turn's word: what was made so far stands at D -/
def LcN (I : List α → List V → Hp → Prop) (B : Hp) (L : Pic) (D : Addr) (pre : List α) : Hp → Prop := fun H' => ∃ acc B', I pre acc B' ∧ Same B B' ∧ Hs B' ((D, .lst acc) :: L) H'
theorem c_lcL {P : Addr → Hp → Prop} (f : α → V) (l : List α) (I : List α → List V → Hp → Prop) (hs : Hs B L H) (h0 : I [] [] B)
    (hq : ∀ B' H', Same B B' → Hs B' L H' → SqL K H' a (l.map f))
    (turn : ∀ pre x post acc B' D H', l = pre ++ x :: post → I pre acc B' → Same B B' → Hs B' ((D, .lst acc) :: L) H' → g (f x) (wipe σ vs) H' fun σ2 H2 => wipe σ2 vs = wipe σ vs ∧ tt σ2 H2 fun b H3 =>
      if b = true then te σ2 H3 fun y H4 => ∃ acc, H4 D = some (.lst acc) ∧ acc.length < sizeLine ∧ LcN I B L D (pre ++ [x]) (upd H4 D (.lst (acc ++ [y]))) else LcN I B L D (pre ++ [x]) H3)
    (fin : ∀ acc B' D H', I l acc B' → Same B B' → Hs B' ((D, .lst acc) :: L) H' → P D H') :
    ∃ b, V.ref a = .ref b ∧ (∃ xs, SqL K H b xs) ∧ ∀ D, H D = none → ∃ W : Nat → Nat → Hp → Prop, (∃ m, W 0 m (upd H D (.lst []))) ∧ ∀ i m H, W i m H →
      ((Itl K b).stop i H ∧ P D H) ∨ ((Itl K b).go i H ∧ ∃ Nx : Hp → Prop, (∀ H', Nx H' → ∃ m', m' < m ∧ W (i + 1) m' H') ∧ ∀ x H', (Itl K b).yld i H x H' → g x (wipe σ vs) H' fun σ2 H2 => wipe σ2 vs = wipe σ vs ∧ tt σ2 H2 fun b H3 =>
        if b = true then te σ2 H3 fun y H4 => ∃ acc, H4 D = some (.lst acc) ∧ acc.length < sizeLine ∧ Nx (upd H4 D (.lst (acc ++ [y]))) else Nx H3) :=
  ⟨a, rfl, ⟨_, hq B H (Same.refl B) hs⟩, fun D hD => lc_l f l (LcN I B L D) ⟨[], B, h0, Same.refl B, hs.new hD⟩ (fun pre post H' _ ⟨acc, B', _, e, h⟩ => hq B' H' e h.drop)
    (fun pre x post H' e ⟨acc, B', p, e2, h⟩ => turn pre x post acc B' D H' e p e2 h) fun H' ⟨acc, B', p, e, h⟩ => fin acc B' D H' p e h⟩
/-- one item more -/
theorem c_item {D : Addr} {acc : List V} {y : V} {B2 : Hp} {P : List V → Hp → Prop} (h : Hs B2 ((D, .lst acc) :: L) H) (hz : acc.length < sizeLine) (e : Same B B2) (i : P (acc ++ [y]) B2) :
    ∃ acc, H D = some (.lst acc) ∧ acc.length < sizeLine ∧ ∃ acc2 B', P acc2 B' ∧ Same B B' ∧ Hs B' ((D, .lst acc2) :: L) (upd H D (.lst (acc ++ [y]))) :=
  ⟨acc, h.get (.head _), hz, acc ++ [y], B2, i, e, h.u0⟩
theorem c_lc {wi : TI} (k : wi σ H fun J H1 => ∀ D, H1 D = none → ∃ W : Nat → Nat → Hp → Prop, (∃ m, W 0 m (upd H1 D (.lst []))) ∧ ∀ i m H, W i m H →
      (J.stop i H ∧ Q (.ref D) H) ∨ (J.go i H ∧ ∃ Nx : Hp → Prop, (∀ H', Nx H' → ∃ m', m' < m ∧ W (i + 1) m' H') ∧ ∀ x H', J.yld i H x H' → g x (wipe σ vs) H' fun σ2 H2 => wipe σ2 vs = wipe σ vs ∧ tt σ2 H2 fun b H3 =>
        if b = true then te σ2 H3 fun y H4 => ∃ acc, H4 D = some (.lst acc) ∧ acc.length < sizeLine ∧ Nx (upd H4 D (.lst (acc ++ [y]))) else Nx H3)) : tLc wi g tt te vs σ H Q := k
theorem w_for {wi : TI} {tb : TS} {dn : St → Hp → Prop} {dr : VK} {db dc : St → Hp → Prop} (k : wi σ H fun J H1 => ∃ W : Nat → Nat → St → Hp → Prop, (∃ m, W 0 m σ H1) ∧ ∀ i m σ H, W i m σ H →
  (J.stop i H ∧ dn σ H) ∨ (J.go i H ∧ ∃ N : St → Hp → Prop, (∀ σ' H', N σ' H' → ∃ m', m' < m ∧ W (i + 1) m' σ' H') ∧ ∀ x H', J.yld i H x H' → g x σ H' fun σ2 H2 => tb ⟨N, dr, dn, N⟩ σ2 H2)) : tFor wi g tb ⟨dn, dr, db, dc⟩ σ H := k
theorem c_iL {R : It → Hp → Prop} (k : tl σ H fun x H1 => ∃ a, x = .ref a ∧ (∃ xs, SqL K H1 a xs) ∧ R (Itl K a) H1) : iList K tl σ H R := k
theorem c_iT {R : It → Hp → Prop} (k : tl σ H fun x H1 => ∃ a, x = .ref a ∧ (∃ xs, SqT K H1 a xs) ∧ R (Itt K a) H1) : iTup K tl σ H R := k
theorem c_iR1 {ta : TA} {R : It → Hp → Prop} (k : ta σ H fun vs H1 => ∃ j : Int, vs = [.int j] ∧ -(2 ^ 62) ≤ j ∧ j < 2 ^ 62 ∧ R (Itr 0 j.toNat) H1) : iRng1 ta σ H R := k
theorem c_iR2 {ta : TA} {R : It → Hp → Prop} (k : ta σ H fun vs H1 => ∃ i j : Int, vs = [.int i, .int j] ∧ (-(2 ^ 62) ≤ i ∧ i < 2 ^ 62 ∧ -(2 ^ 62) ≤ j ∧ j < 2 ^ 62) ∧ R (Itr i (j - i).toNat) H1) : iRng2 ta σ H R := k
theorem c_yes {P : Bool → Hp → Prop} (k : P true H) : tYes σ H P := k
/-! targets, fields, methods of lists -/
theorem g_tup {n : Nat} {t : TGs} {xs : List V} {P : St → Hp → Prop} (h : SqT K H a xs) (hn : xs.length = n) (k : t xs σ H P) : gTup K n t (.ref a) σ H P := ⟨a, xs, rfl, h, hn, k⟩
theorem g_cons {t : TG} {u : TGs} {v : V} {r : List V} {P : St → Hp → Prop} (k : t v σ H fun σ' H' => u r σ' H' P) : gCons t u (v :: r) σ H P := ⟨v, r, rfl, k⟩
theorem g_nil {P : St → Hp → Prop} (k : P σ H) : gNil [] σ H P := ⟨rfl, k⟩
theorem c_tfld {f : Str} (k : te σ H fun x H1 => FldO K f x H1 Q) : tFld K te f σ H Q := k
def PutO (K : PySem.W.Frag) (f : Str) (y x : V) (H : Hp) (P : Hp → Prop) : Prop := ∃ a C dx fs, x = .ref a ∧ H a = some (.ins C dx fs) ∧ Cls K C ∧ NoAttr K C f ∧ fs.length < 1000 ∧ P (upd H a (.ins C dx (putF f y fs)))
theorem w_sfld {f : Str} {ta : TE} {dn : St → Hp → Prop} {dr : VK} {db dc : St → Hp → Prop} (k : te σ H fun y H1 => ta σ H1 fun x H2 => PutO K f y x H2 (dn σ)) : sFld K ta te f ⟨dn, dr, db, dc⟩ σ H := k
theorem w_put0 {f : Str} {C dx : Addr} {y : V} {fs fs' : List (Str × V)} {P : Hp → Prop} (hs : Hs B ((a, .ins C dx fs) :: L) H) (hc : Cls K C) (hn : NoAttr K C f) (hl : fs.length < 1000) (e : putF f y fs = fs')
    (k : ∀ H', Hs B ((a, .ins C dx fs') :: L) H' → P H') : PutO K f y (.ref a) H P :=
  ⟨a, C, dx, fs, rfl, hs.get (.head _), hc, hn, hl, by rw [e]; exact k _ hs.u0⟩
theorem w_put1 {q : Addr × HO} {f : Str} {C dx : Addr} {y : V} {fs fs' : List (Str × V)} {P : Hp → Prop} (hs : Hs B (q :: (a, .ins C dx fs) :: L) H) (hc : Cls K C) (hn : NoAttr K C f) (hl : fs.length < 1000) (e : putF f y fs = fs')
    (k : ∀ H', Hs B (q :: (a, .ins C dx fs') :: L) H' → P H') : PutO K f y (.ref a) H P := w_put0 hs.swap hc hn hl e fun H' h => k H' h.swap
theorem w_put2 {q r : Addr × HO} {f : Str} {C dx : Addr} {y : V} {fs fs' : List (Str × V)} {P : Hp → Prop} (hs : Hs B (q :: r :: (a, .ins C dx fs) :: L) H) (hc : Cls K C) (hn : NoAttr K C f) (hl : fs.length < 1000) (e : putF f y fs = fs')
    (k : ∀ H', Hs B (q :: r :: (a, .ins C dx fs') :: L) H' → P H') : PutO K f y (.ref a) H P := w_put0 hs.rot3 hc hn hl e fun H' h => k H' h.unrot3
def AugO (K : PySem.W.Frag) (f : Str) (x : V) (H : Hp) (P : Addr → Addr → V → Prop) : Prop := ∃ a C dx fs v, x = .ref a ∧ H a = some (.ins C dx fs) ∧ Cls K C ∧ NoAttr K C f ∧ fs.lookup f = some v ∧ P a C v
def AputO (f : Str) (a C : Addr) (z : V) (H : Hp) (P : Hp → Prop) : Prop := ∃ dx' fs', H a = some (.ins C dx' fs') ∧ fs'.length < 1000 ∧ P (upd H a (.ins C dx' (putF f z fs')))
theorem w_sfldAug {f : Str} {ta : TE} {rd : V → V → Hp → VK → Prop} {dn : St → Hp → Prop} {dr : VK} {db dc : St → Hp → Prop} (k : ta σ H fun x H1 => AugO K f x H1 fun a C v => te σ H1 fun y H2 => rd v y H2 fun z H3 => AputO f a C z H3 (dn σ)) : sFldAug K ta te rd f ⟨dn, dr, db, dc⟩ σ H := k
theorem c_fldA {f : Str} {C dx : Addr} {fs : List (Str × V)} {v : V} {P : Addr → Addr → V → Prop} (h : H a = some (.ins C dx fs)) (hc : Cls K C) (hn : NoAttr K C f) (hl : fs.lookup f = some v) (k : P a C v) :
    AugO K f (.ref a) H P := ⟨a, C, dx, fs, v, rfl, h, hc, hn, hl, k⟩
theorem c_radd {i j : Int} (k : Q (.int (i + j)) H) : rAdd (.int i) (.int j) H Q := ⟨i, j, rfl, rfl, k⟩
theorem c_rsub {i j : Int} (k : Q (.int (i - j)) H) : rSub (.int i) (.int j) H Q := ⟨i, j, rfl, rfl, k⟩
theorem w_aput0 {f : Str} {C dx : Addr} {z : V} {fs fs' : List (Str × V)} {P : Hp → Prop} (hs : Hs B ((a, .ins C dx fs) :: L) H) (hl : fs.length < 1000) (e : putF f z fs = fs') (k : ∀ H', Hs B ((a, .ins C dx fs') :: L) H' → P H') :
    AputO f a C z H P := ⟨dx, fs, hs.get (.head _), hl, by rw [e]; exact k _ hs.u0⟩
theorem w_aput1 {q : Addr × HO} {f : Str} {C dx : Addr} {z : V} {fs fs' : List (Str × V)} {P : Hp → Prop} (hs : Hs B (q :: (a, .ins C dx fs) :: L) H) (hl : fs.length < 1000) (e : putF f z fs = fs') (k : ∀ H', Hs B (q :: (a, .ins C dx fs') :: L) H' → P H') :
    AputO f a C z H P := w_aput0 hs.swap hl e fun H' h => k H' h.swap
theorem w_aput2 {q r : Addr × HO} {f : Str} {C dx : Addr} {z : V} {fs fs' : List (Str × V)} {P : Hp → Prop} (hs : Hs B (q :: r :: (a, .ins C dx fs) :: L) H) (hl : fs.length < 1000) (e : putF f z fs = fs') (k : ∀ H', Hs B (q :: r :: (a, .ins C dx fs') :: L) H' → P H') :
    AputO f a C z H P := w_aput0 hs.rot3 hl e fun H' h => k H' h.unrot3
theorem c_bm {T : String} {r : V → List V → Hp → VK → Prop} {t : TA} (k : te σ H fun x H1 => tyV K T x H1 ∧ t σ H1 fun xs H2 => r x xs H2 Q) : tBM K T r te t σ H Q := k
theorem c_bm0 {T : String} {r : V → List V → Hp → VK → Prop} (k : te σ H fun x H1 => tyV K T x H1 ∧ r x [] H1 Q) : tBM0 K T r te σ H Q := k
theorem c_tyL {xs : List V} {P : Prop} (h : SqL K H a xs) (k : P) : tyV K "list" (.ref a) H ∧ P := ⟨.inl ⟨rfl, _, h⟩, k⟩
theorem c_app0 {xs : List V} {y : V} (hs : Hs B ((a, .lst xs) :: L) H) (hz : xs.length < sizeLine) (k : ∀ H', Hs B ((a, .lst (xs ++ [y])) :: L) H' → Q .non H') : rAppend (.ref a) [y] H Q := ⟨a, xs, y, rfl, rfl, hs.get (.head _), hz, k _ hs.u0⟩
theorem c_app1 {q : Addr × HO} {xs : List V} {y : V} (hs : Hs B (q :: (a, .lst xs) :: L) H) (hz : xs.length < sizeLine) (k : ∀ H', Hs B (q :: (a, .lst (xs ++ [y])) :: L) H' → Q .non H') : rAppend (.ref a) [y] H Q := c_app0 hs.swap hz fun H' h => k H' h.swap
theorem c_sl {r : V → Option Int → Option Int → Hp → VK → Prop} {lo hi : TO} (k : te σ H fun x H1 => lo σ H1 fun l H2 => hi σ H2 fun u H3 => r x l u H3 Q) : tSl r te lo hi σ H Q := k
theorem c_part {P : Option Int → Hp → Prop} (k : te σ H fun x H1 => ∃ i, x = .int i ∧ P (some i) H1) : tPart te σ H P := k
theorem c_nopart {P : Option Int → Hp → Prop} (k : P none H) : tNoPart σ H P := k
theorem c_i {i : Int} {P : Int → Prop} (k : P i) : ∃ j, V.int i = .int j ∧ P j := ⟨i, rfl, k⟩
theorem small5 {n : Nat} (h : n ≤ 100000) : n < sizeLine := Nat.lt_of_le_of_lt h (by decide)
theorem small5' {n : Nat} (h : n ≤ 100000) : n ≤ sizeLine := Nat.le_trans h (by decide)
end
end L2.BP
namespace L2.BP
open PySem PySem.Spec PyProof.Rows
section
variable {f g : Str} {v w y : V} {r r' : List (Str × V)}
theorem look0 : List.lookup f ((f, v) :: r) = some v := by simp [List.lookup]
theorem lookS (h : ¬ f = g) (e : List.lookup f r = some v) : List.lookup f ((g, w) :: r) = some v := by
  have n : (f == g) = false := by simpa using h
  show (match f == g with | true => some w | false => List.lookup f r) = some v
  rw [n]
  exact e
theorem lookN : List.lookup f ([] : List (Str × V)) = none := rfl
theorem lookNS (h : ¬ f = g) (e : List.lookup f r = none) : List.lookup f ((g, w) :: r) = none := by
  have n : (f == g) = false := by simpa using h
  show (match f == g with | true => some w | false => List.lookup f r) = none
  rw [n]
  exact e
theorem put0 : putF f y ((f, v) :: r) = (f, y) :: r := if_pos rfl
theorem putN : putF f y [] = [(f, y)] := rfl
theorem putS (h : ¬ g = f) (e : putF f y r = r') : putF f y ((g, w) :: r) = (g, w) :: r' := by
  show (if g = f then _ else (g, w) :: putF f y r) = _
  rw [if_neg h, e]
end
section
variable {K : PySem.W.Frag} {σ : St} {H B : Hp} {L : Pic} {Q : VK} {sp : Sp} {W : WX} {dvs vs : List V} {C : Addr}
def MkO (C : Addr) (sp : Sp) (vs : List V) (H : Hp) (Q : VK) (E : XK) : Prop := ∀ x dx, H x = none → H dx = none → dx ≠ x → sp (.ref x :: vs) (upd (upd H dx (.own x)) x (.ins C dx [])) (fun v H2 => v = .non ∧ Q (.ref x) H2) E
theorem c_mk {t : TA} (k : t σ H fun vs H1 => MkO C sp (vs ++ dvs) H1 Q fun c d H2 => W c d σ H2) : tMk C sp dvs W t σ H Q := k
theorem c_mkO {E : XK} (hs : Hs B L H) (k : ∀ x dx H', Hs B ((x, .ins C dx []) :: L) H' → sp (.ref x :: vs) H' (fun v H2 => v = .non ∧ Q (.ref x) H2) E) : MkO C sp vs H Q E := fun x dx hx hdx ne => by
  have h1 := hs.new (o := HO.own x) hdx
  have h2 : (upd H dx (.own x)) x = none := by rw [upd_ne (Ne.symm ne)]; exact hx
  exact k x dx _ (h1.new h2).swap.drop
/-- drop what stands second, third -/
theorem Hs.drop1 {a b : Addr × HO} (h : Hs B (a :: b :: L) H) : Hs B (a :: L) H := h.swap.drop
theorem Hs.drop2 {a b c : Addr × HO} (h : Hs B (a :: b :: c :: L) H) : Hs B (a :: b :: L) H := h.rot3.drop
end
end L2.BP
namespace L2.BP
open PySem PySem.Spec PyProof.Rows
/-! ### walks that hand out pairs; walks of tuples -/
section
variable {α : Type} {K : PySem.W.Frag} {a : Addr} {g : TG} {tb : TS} {dn : St → Hp → Prop} {dr : VK} {db dc : St → Hp → Prop} {σ : St} {H B : Hp} {L : Pic}
theorem c_iE {ta : TA} {R : It → Hp → Prop} (k : ta σ H fun vs H1 => ∃ a xs, vs = [.ref a] ∧ SqL K H1 a xs ∧ R (Ite K a) H1) : iEnum K ta σ H R := k
theorem c_iE1 {R : It → Hp → Prop} {xs : List V} (h : SqL K H a xs) (k : R (Ite K a) H) : ∃ b xs, [V.ref a] = [.ref b] ∧ SqL K H b xs ∧ R (Ite K b) H := ⟨a, xs, rfl, h, k⟩
theorem c_iZ {ta : TA} {R : It → Hp → Prop} (k : ta σ H fun vs H1 => ∃ a b xs ys, vs = [.ref a, .ref b] ∧ SqL K H1 a xs ∧ SqL K H1 b ys ∧ R (Itz K a b) H1) : iZip K ta σ H R := k
end
section
variable {α : Type} {K : PySem.W.Frag} {a : Addr} {g : TG} {tt : TT} {te tl : TE} {σ : St} {H B : Hp} {L : Pic} {vs : List Nat}
end
/-! ### lists of tuples -/
section
variable {K : PySem.W.Frag} {H H' : Hp}
/-- each of these values is a tuple of those items -/
inductive Tups (K : PySem.W.Frag) (H : Hp) : List V → List (List V) → Prop where
  | nil : Tups K H [] []
  | cons {a : Addr} {xs : List V} {vs : List V} {r : List (List V)} : SqT K H a xs → Tups K H vs r → Tups K H (V.ref a :: vs) (xs :: r)
theorem Tups.same (e : Same H H') : ∀ {vs : List V} {ps : List (List V)}, Tups K H vs ps → Tups K H' vs ps
  | _, _, .nil => .nil
  | _, _, .cons h t => .cons (same_sqt e h) (Tups.same e t)
theorem Tups.length : ∀ {vs : List V} {ps : List (List V)}, Tups K H vs ps → vs.length = ps.length
  | _, _, .nil => rfl
  | _, _, .cons _ t => congrArg (· + 1) t.length
theorem Tups.get : ∀ {vs : List V} {ps : List (List V)} {i : Nat} {xs : List V}, Tups K H vs ps → ps[i]? = some xs → ∃ a, vs[i]? = some (.ref a) ∧ SqT K H a xs
  | _, _, 0, _, .cons h _, e => by cases e; exact ⟨_, rfl, h⟩
  | _, _, i + 1, _, .cons _ t, e => t.get (i := i) e
theorem Tups.split {x : V} {post : List V} : ∀ {pre : List V} {ps : List (List V)}, Tups K H (pre ++ x :: post) ps → ∃ a p1 xs p2, x = .ref a ∧ ps = p1 ++ xs :: p2 ∧ p1.length = pre.length ∧ SqT K H a xs
  | [], ps, h => by
    cases (show Tups K H (x :: post) ps from h) with
    | cons hh t => exact ⟨_, [], _, _, rfl, rfl, rfl, hh⟩
  | y :: pre, ps, h => by
    cases (show Tups K H (y :: (pre ++ x :: post)) ps from h) with
    | cons hh t =>
      obtain ⟨a, p1, xs, p2, e1, e2, e3, e4⟩ := Tups.split t
      exact ⟨a, _ :: p1, xs, p2, e1, by rw [e2]; rfl, by simp [e3], e4⟩
end
end L2.BP
namespace L2.BP
open PySem PySem.Spec PyProof.Rows
section
variable {σ : St} {H B : Hp} {L : Pic} {K : PySem.W.Frag} {dn : St → Hp → Prop} {dr : VK} {db dc : St → Hp → Prop} {Q : VK} {tr : TA} {te to_ ti_ : TE} {a b : Addr} {xs ys : List V} {x v w o i : V}
theorem w_break (k : db σ H) : tBreak ⟨dn, dr, db, dc⟩ σ H := k
theorem w_cont (k : dc σ H) : tCont ⟨dn, dr, db, dc⟩ σ H := k
theorem w_retN (k : dr .non H) : tRetN ⟨dn, dr, db, dc⟩ σ H := k
def ParO (m n : Nat) (vs : List V) (σ : St) (dn : St → Hp → Prop) (H : Hp) : Prop := ∃ v w, vs = [v, w] ∧ dn ((σ.set m (some v)).set n (some w)) H
theorem w_par {m n : Nat} (k : tr σ H fun vs H1 => ParO m n vs σ dn H1) : tPar m n tr ⟨dn, dr, db, dc⟩ σ H := k
theorem c_parO {m n : Nat} (k : dn ((σ.set m (some v)).set n (some w)) H) : ParO m n [v, w] σ dn H := ⟨v, w, rfl, k⟩
/-! a list longer by another one, in place -/
theorem c_ext0 (hs : Hs B ((a, .lst xs) :: L) H) (hb : H b = some (.lst ys)) (hz : xs.length + ys.length ≤ sizeLine) (k : ∀ H', Hs B ((a, .lst (xs ++ ys)) :: L) H' → Q (.ref a) H') : ipAddU (.ref a) (.ref b) H Q :=
  .inr (.inl ⟨a, b, xs, ys, rfl, rfl, hs.get (.head _), hb, hz, k _ hs.u0⟩)
theorem c_extM0 (hs : Hs B ((a, .lst xs) :: L) H) (hb : H b = some (.lst ys)) (hz : xs.length + ys.length ≤ sizeLine) (k : ∀ H', Hs B ((a, .lst (xs ++ ys)) :: L) H' → Q .non H') : rExtend (.ref a) [.ref b] H Q :=
  ⟨a, b, xs, ys, rfl, rfl, hs.get (.head _), hb, hz, k _ hs.u0⟩
theorem c_clear0 (hs : Hs B ((a, .lst xs) :: L) H) (k : ∀ H', Hs B ((a, .lst []) :: L) H' → Q .non H') : rClear (.ref a) [] H Q := ⟨a, xs, rfl, rfl, hs.get (.head _), k _ hs.u0⟩
/-! slices of tuples, lists turned round -/
def RevO (K : PySem.W.Frag) (x : V) (H : Hp) (Q : VK) : Prop := ∃ a xs, x = .ref a ∧ SqL K H a xs ∧ ∀ p, H p = none → Q (.ref p) (upd H p (.lst xs.reverse))
theorem c_rev (k : te σ H fun x H1 => RevO K x H1 Q) : tRevL K te σ H Q := k
/-! an item written -/
def SetO (o i v : V) (H : Hp) (P : Hp → Prop) : Prop := rSetL o i v H P
theorem w_augS {K : PySem.W.Frag} {to ti te : TE} {tip : TIp} {dn db dc : St → Hp → Prop} {dr : VK} {σ : St} {H : Hp} (k : to σ H fun o H1 => ti σ H1 fun i H2 => rIxL K o i H2 fun x H3 => te σ H3 fun y H4 => tip x y H4 fun z H5 => SetO o i z H5 fun H6 => dn σ H6) : tAugS to ti te (rIxL K) tip rSetL ⟨dn, dr, db, dc⟩ σ H := k
theorem g_sub {P : St → Hp → Prop} (k : to_ σ H fun o H1 => ti_ σ H1 fun i H2 => SetO o i v H2 (P σ)) : gSub to_ ti_ rSetL v σ H P := k
theorem c_isiS {z : Str} (k : Q (.bl true) H) : rIsi K [.str z, .ty "str"] H Q := c_isiStr (.str z) k
theorem small6' {n : Nat} (h : n ≤ 200000) : n ≤ sizeLine := Nat.le_trans h (by decide)
end
end L2.BP
namespace L2.BP
open PySem PySem.Spec PyProof.Rows
section
variable {K : PySem.W.Frag} {W : WX} {vs : List V} {H : Hp} {Q : VK} {E : XK}
/-! ### == of lists -/
theorem eqvAll_ints : ∀ a b : List Int, PyData.eqvAll (a.map PyData.int) (b.map PyData.int) = decide (a = b)
  | [], [] => by simp [PyData.eqvAll]
  | [], y :: r => by simp [PyData.eqvAll]
  | x :: r, [] => by simp [PyData.eqvAll]
  | x :: r, y :: t => by
    rw [List.map_cons, List.map_cons, PyData.eqvAll, eqvAll_ints r t]
    simp only [PyData.eqv]
    by_cases h : x = y <;> by_cases h2 : r = t <;> simp [h, h2]
theorem canAll_ints : ∀ a : List Int, PyData.canLayAll0 (a.map PyData.int) = true
  | [] => by simp [PyData.canLayAll0]
  | x :: r => by
    rw [List.map_cons, PyData.canLayAll0, canAll_ints r]
    simp [PyData.canLay0]
theorem depAll_ints : ∀ a : List Int, PyData.depthAll (a.map PyData.int) ≤ 1
  | [] => by simp [PyData.depthAll]
  | x :: r => by
    have := depAll_ints r
    rw [List.map_cons, PyData.depthAll]
    simp [PyData.depth]
    omega
theorem shaped_ints (a : List Int) : SeqAt.shaped (.list (a.map PyData.int)) = true := by
  unfold SeqAt.shaped
  rw [PyData.canLay0, canAll_ints, PyData.depth]
  have := depAll_ints a
  simp
  omega
theorem c_eqL {p q : Addr} (a b : List Int) (h1 : SqL K H p (a.map V.int)) (h2 : SqL K H q (b.map V.int)) (k : Q (.bl (decide (a = b))) H) : rEqU K (.ref p) (.ref q) H Q := by
  refine c_eqD (.lst h1 (dpa_ints a)) (.lst h2 (dpa_ints b)) (shaped_ints a) (shaped_ints b) ?_
  rw [PyData.eqv, eqvAll_ints]
  exact k
theorem c_neL {p q : Addr} (a b : List Int) (h1 : SqL K H p (a.map V.int)) (h2 : SqL K H q (b.map V.int)) (k : Q (.bl (!decide (a = b))) H) : rNeU K (.ref p) (.ref q) H Q := by
  refine c_neD (.lst h1 (dpa_ints a)) (.lst h2 (dpa_ints b)) (shaped_ints a) (shaped_ints b) ?_
  rw [PyData.eqv, eqvAll_ints]
  exact k
/-! a list of tuples of whole numbers and texts against an equal one -/
def vD : V → PyData
  | .int i => .int i
  | .str x => .str x
  | .bl b => .bool b
  | _ => .none
def flatV : V → Bool
  | .int _ => true
  | .str x => PyData.canLay0 (.str x)
  | .bl _ => true
  | .non => true
  | _ => false
theorem dp_flat : ∀ {v : V}, flatV v = true → Dp K H v (vD v)
  | .int i, _ => .int i
  | .str x, _ => .str x
  | .bl b, _ => .bl b
  | .non, _ => .non
theorem can_flat : ∀ {v : V}, flatV v = true → (vD v).canLay0 = true ∧ (vD v).depth = 0
  | .int i, _ => ⟨by simp [vD, PyData.canLay0], by simp [vD, PyData.depth]⟩
  | .str x, h => ⟨h, by simp [vD, PyData.depth]⟩
  | .bl b, _ => ⟨by simp [vD, PyData.canLay0], by simp [vD, PyData.depth]⟩
  | .non, _ => ⟨by simp [vD, PyData.canLay0], by simp [vD, PyData.depth]⟩
end
end L2.BP
namespace L2.BP
open PySem PySem.Spec PyProof.Rows
end L2.BP
namespace L2.BP
open PySem PySem.Spec PyProof.Rows
section
variable {X : Cx} {K : PySem.W.Frag} {σ : St} {H B : Hp} {L : Pic} {Q : VK} {te to_ ti_ : TE} {v : V} {P : St → Hp → Prop}
/-! a field as one of several targets -/
def gAttr (K : PySem.W.Frag) (ta : TE) (f : Str) : TG := fun v σ H P => ta σ H fun x H1 => PutO K f v x H1 (P σ)
theorem g_attr {f : Str} (k : te σ H fun x H1 => PutO K f v x H1 (P σ)) : gAttr K te f v σ H P := k
/-! how many different ones -/
def LsO (K : PySem.W.Frag) (x : V) (H : Hp) (Q : VK) : Prop := ∃ (l : Addr) (ns : List Int), x = .ref l ∧ SqL K H l (ns.map V.int) ∧ ns.Nodup ∧ ns.length ≤ 4000 ∧ Q (.int (ns.length : Nat)) H
theorem c_lenset (k : te σ H fun x H1 => LsO K x H1 Q) : RZ.tLenSetI K te σ H Q := k
/-! dicts that are written out -/
def DispO (p : Addr) (ps : List (V × V)) (H : Hp) (Q : VK) : Prop := H p = some (.dK []) ∧ ∃ kvs : List (Key × V), ps = kvs.map (fun kv => (kV kv.1, kv.2)) ∧ kvs.length ≤ 15 ∧ Q (.ref p) (upd H p (.dK (mergeK [] kvs)))
theorem c_disp {trs : List (TE × TE)} (hs : Hs B L H) (k : ∀ p H', Hs B ((p, .dK []) :: L) H' → tPairs trs σ H' fun ps H2 => DispO p ps H2 Q) : tDisp trs σ H Q := fun p hp => k p _ (hs.new hp)
theorem c_tpc {tk tv : TE} {r : List (TE × TE)} {R : List (V × V) → Hp → Prop} (k : tk σ H fun x H1 => tv σ H1 fun y H2 => tPairs r σ H2 fun ps H3 => R ((x, y) :: ps) H3) : tPairs ((tk, tv) :: r) σ H R := k
theorem c_tpn {R : List (V × V) → Hp → Prop} (k : R [] H) : tPairs [] σ H R := k
def DgO (x y : V) (H : Hp) (Q : VK) : Prop := ∃ a v, x = .ref a ∧ DGet H a y (some v) ∧ Q v H
theorem c_dget {td ty : TE} (k : td σ H fun x H1 => ty σ H1 fun y H2 => DgO x y H2 Q) : tDGet td ty σ H Q := k
/-! in a list -/
end
end L2.BP
namespace L2.BP
open PySem PySem.Spec PyProof.Rows
section
variable {K : PySem.W.Frag} {σ : St} {H B : Hp} {L : Pic} {Q : VK} {ta tb : TE} {a : Addr} {xs : List V}
/-- x or y, by what is empty -/
def OrO (K : PySem.W.Frag) (x : V) (tb : TE) (σ : St) (H : Hp) (Q : VK) : Prop := ∃ k, TruV K x H k ∧ if k = true then Q x H else tb σ H Q
theorem c_orT (k : ta σ H fun x H1 => OrO K x tb σ H1 Q) : tOrT K ta tb σ H Q := k
end
end L2.BP
namespace L2.BP
open PySem PySem.Spec PyProof.Rows
/-! ### a class without an __init__ of its own -/
section
variable {X : Cx} {C : Addr} {x : Str} {p pos : Pos}
/-- C(): a bare object -/
def MadeO (C : Addr) (H : Hp) (Q : VK) : Prop := ∀ x dx, H x = none → H dx = none → dx ≠ x → Q (.ref x) (upd (upd H dx (.own x)) x (.ins C dx []))
def tMade (C : Addr) : TE := fun _ H Q => MadeO C H Q
end
section
variable {K : PySem.W.Frag} {σ : St} {H B : Hp} {L : Pic} {Q : VK} {C : Addr}
theorem c_made (k : MadeO C H Q) : tMade C σ H Q := k
theorem c_madeO (hs : Hs B L H) (k : ∀ x dx H', Hs B ((x, .ins C dx []) :: L) H' → Q (.ref x) H') : MadeO C H Q := fun x dx hx hdx ne => by
  have h1 := hs.new (o := HO.own x) hdx
  have h2 : (upd H dx (.own x)) x = none := by rw [upd_ne (Ne.symm ne)]; exact hx
  exact k x dx _ (h1.new h2).swap.drop
end
end L2.BP
namespace L2.BP
open PySem PySem.Spec PyProof.Rows
/-! ### walks by steps, and of texts -/
section
variable {K : PySem.W.Frag} {a : Addr} {g : TG} {tb : TS} {dn : St → Hp → Prop} {dr : VK} {db dc : St → Hp → Prop} {σ : St} {H B : Hp} {L : Pic}
def RcO (R : It → Hp → Prop) (vs : List V) (H : Hp) : Prop := ∃ (i j c : Int) (n : Nat), vs = [.int i, .int j, .int c] ∧ RgC i j c n ∧ R (Itc i c n) H
theorem c_iR3 {ta : TA} {R : It → Hp → Prop} (k : ta σ H fun vs H1 => RcO R vs H1) : iRng3 ta σ H R := k
def SsO (R : It → Hp → Prop) (v : V) (H : Hp) : Prop := ∃ x, v = .str x ∧ R (Its x) H
theorem c_iS {te : TE} {R : It → Hp → Prop} (k : te σ H fun v H1 => SsO R v H1) : iStr te σ H R := k
theorem c_ssO {R : It → Hp → Prop} {x : Str} (k : R (Its x) H) : SsO R (.str x) H := ⟨x, rfl, k⟩
end
end L2.BP
namespace L2.BP
open PySem PySem.Spec PyProof.Rows
section
variable {H B : Hp} {L : Pic} {K : PySem.W.Frag} {σ : St} {Q : VK}
end
end L2.BP
namespace L2.BP
open PySem PySem.Spec PyProof.Rows
/-! ### isinstance of an own class -/
end L2.BP
namespace L2.BP
open PySem PySem.Spec PyProof.Rows
section
variable {K : PySem.W.Frag} {g : TG} {tt : TT} {te : TE} {σ : St} {H B : Hp} {L : Pic} {vs : List Nat}
end
end L2.BP
namespace L2.BP
open PySem PySem.Spec PyProof.Rows
end L2.BP
namespace L2.BP
open PySem PySem.Spec PyProof.Rows
/-! ### try: .. except X as e: suite -/
def tTryAs (K : PySem.W.Frag) (c : Value) (i : Nat) (tb : WX → TS) (ts : Addr → Value → Option Addr → TS) (W : WX) : TS := fun D σ H => tb (wAs K c i ts W D) D σ H
section
variable {K : PySem.W.Frag} {c cls : Value} {d : Option Addr} {i : Nat} {tb : WX → TS} {ts : Addr → Value → Option Addr → TS} {W : WX} {D : Ends} {σ : St} {H B : Hp} {L : Pic} {Q : VK}
theorem ps_tryAs {X : Cx} {x n : Str} {c : Value} {i : Nat} {body suite : List Stmt} {b₀ : Stmt} {np pos pos' : Pos} {tb : WX → TS} {ts : Addr → Value → Option Addr → TS} {Wout : WX} (hs : X.stack = X.env :: X.outer) (hf : X.env.frame = some X.env.locals) (hN : X.N.Nodup) (hi : X.N[i]? = some n) (hln : X.env.kindOf n = some .local) (hc : Names X x c) (tk : Takes X Wout)
    (hb : ∀ (W : WX) (pn : List (Addr × Obj)) (xe : Value → Shared → Prop), Takes (X.tr pn xe) W → PassesOwn (model X.prog X.w) X.A X.env xe → PSs (X.tr pn xe) body (tb W))
    (hsu : ∀ (a : Addr) (oe : Obj) (cls : Value) (d : Option Addr) (pn : List (Addr × Obj)), Zc cls d oe → (∃ vs, oe.data = .fields vs) → PSs (X.suite a ((a, oe) :: pn)) (b₀ :: suite) (ts a cls d)) :
    PS X (.Try body [.ExceptHandler (some (.Name x np)) (some n) (b₀ :: suite) pos'] [] [] pos) (tTryAs X.K c i tb ts Wout) := ps_try_as hs hf hN hi hln hc tk hb hsu
theorem w_tryAs (k : tb (wAs K c i ts W D) D σ H) : tTryAs K c i tb ts W D σ H := k
theorem c_wAs (e : PySem.W.exmOne K cls c = some true) (k : ∀ a, H a = none → ts a cls d { nx := fun σ' H' => D.nx (σ'.set i none) H', rt := D.rt, bk := fun σ' H' => D.bk (σ'.set i none) H', ct := fun σ' H' => D.ct (σ'.set i none) H' } (σ.set i (some (.ref a))) H) : wAs K c i ts W D cls d σ H :=
  ⟨true, e, fun _ => k, fun z => nomatch z⟩
/-- isinstance(e, c), e what the suite holds: an exception of the class cls -/
def rIsX (K : PySem.W.Frag) (a : Addr) (cls : Value) (d : Option Addr) : List V → Hp → VK → Prop := fun xs H Q => ∃ (D : Addr) (c : V) (cv : Value) (b : Bool), cls = .ref D ∧ d = none ∧ ExcC K D ∧ xs = [.ref a, c] ∧ (∀ u, RelV c u → u = cv) ∧ PySem.W.kitOne K (.ref D) cv = some b ∧ Q (.bl b) H
theorem c_isXc {a D C : Addr} {b : Bool} (x : ExcC K D) (e : PySem.W.kitOne K (.ref D) (.ref C) = some b) (k : Q (.bl b) H) : rIsX K a (.ref D) none [.ref a, .ref C] H Q := ⟨D, .ref C, .ref C, b, rfl, rfl, x, rfl, fun _ r => r, e, k⟩
theorem c_isXv {a D : Addr} {t : String} {b : Bool} (x : ExcC K D) (e : PySem.W.kitOne K (.ref D) (.type t) = some b) (k : Q (.bl b) H) : rIsX K a (.ref D) none [.ref a, .ty t] H Q := ⟨D, .ty t, .type t, b, rfl, rfl, x, rfl, fun _ r => r, e, k⟩
theorem c_dnewK (hs : Hs B L H) (k : ∀ p H', Hs B ((p, .dK []) :: L) H' → Q (.ref p) H') : tDNewK σ H Q := fun p hp => k p _ (hs.new hp)
theorem c_tupL {p : Addr} {xs : List V} (h : Hs B L H) (hq : SqL K H p xs) (k : ∀ a H', Hs B ((a, .tup xs) :: L) H' → Q (.ref a) H') : rTupleK K [.ref p] H Q := ⟨p, xs, rfl, .inl ⟨hq, fun a ha => k a _ (h.new ha)⟩⟩
end
/-! ### texts: find, upper, join -/
section
variable {X : Cx} {o e : Expr} {to te : TE} {K : PySem.W.Frag} {σ : St} {H B : Hp} {L : Pic} {Q : VK}
end
/-! ### a comprehension over a text -/
section
variable {K : PySem.W.Frag} {g : TG} {tt : TT} {te : TE} {σ : St} {H B : Hp} {L : Pic} {vs : List Nat} {P : Addr → Hp → Prop}
end
end L2.BP
namespace L2.BP
open PySem PySem.Spec PyProof.Rows
/-! ### the same rules where exceptions bear no context (L2N) -/
/-! ### calls that may let an error out, wished for at the caller's slots -/
section
variable {X : Cx} {k : Nat} {f C : Addr} {fd : FuncData} {ps : List Str} {sp : Sp} {dvs : List V} {ds : List Value} {W : WX} {x m : Str} {p pos apos : Pos} {e o : Expr} {es : List Expr} {ta : TE} {t : TA}
end
/-! ### an error raised -/
end L2.BP
namespace L2.BP
open PySem PySem.Spec PyProof.Rows L2H
/-! ### defs that are handed the exception that an except suite holds -/
/-- such a def's promise: where the exception stands, its class, its dict -/
abbrev SpE : Type := Addr → Value → Option Addr → Sp
structure FnE (P : Program) (w : World) (K : PySem.W.Frag) (mg : Str → Option Value) (base : Heap) (CX : CXT) (k : Nat) (f : Addr) (fd : FuncData) (ps : List Str) (sp : SpE) : Prop where
  len : ∀ a c d vs H Q E, sp a c d vs H Q E → vs.length = ps.length
  run : ∀ (A : Around) (outer : List Env) (s : Shared) (H : Hp) (args : Args) (us : List Value) (vs : List V) (Q : VK) (E : XK) (p : Addr × Obj) (cls : Value) (d : Option Addr), RoomH k A → Hot1 A p → L2N.Zn cls d p.2 → PinOk outer H s p → Env0 P w K mg base A outer s H → BindsTo s fd args (ps.zip us) → Vals vs us → sp p.1 cls d vs H Q E →
    codeAny (model P w) A (.call (.ref f) args) (CR CX outer P w H s Q E) s
def flowVal : Flow → Value
  | .ret u => u
  | _ => .none
/-- a body's end, as the caller takes it -/
theorem bodyEnd {P : Program} {w : World} {K : PySem.W.Frag} {mg : Str → Option Value} {base : Heap} {CX : CXT} {N : List Str} {qual : Str} {scope : Scope} {f : Addr} {cd : Value} {A : Around} {outer : List Env} {s s' : Shared} {H : Hp} {Q : VK} {E : XK} {p : Addr × Obj} {fl : Flow}
    (h : SP (cxH CX P w K mg base N qual scope f cd A outer s H E p) [] { nx := fun _ H' => Q .non H', rt := Q } fl s') : CR CX outer P w H s Q E (.ok (.ret (flowVal fl))) s' := by
  cases fl with
  | brk => exact h.elim fun _ h => h.elim fun _ h => h.2.elim
  | cont => exact h.elim fun _ h => h.elim fun _ h => h.2.elim
  | next =>
    obtain ⟨_, H1, J, q⟩ := h
    exact ⟨.non, H1, J.os, J.bare, J.base, J.hok, rfl, q⟩
  | ret u =>
    obtain ⟨v, _, H1, J, rv, q⟩ := h
    exact ⟨v, H1, J.os, J.bare, J.base, J.hok, rv, q⟩

theorem FunD.okE {P : Program} {w : World} {K : PySem.W.Frag} {mg : Str → Option Value} {base : Heap} {x qual : Str} {params : Arguments} {body : List Stmt} {scope : Scope} {dvs : List V} {kws : List (Str × V)} {f : Addr} {fd : FuncData} {CX : CXT} {N ps : List Str} {k : Nat} {sp : SpE} (F : FunD K x qual params body scope dvs kws f fd) (S : FnScope N ps scope) (len : ∀ a c d vs H Q E, sp a c d vs H Q E → vs.length = ps.length)
    (hbody : ∀ (cdv : Value) (A : Around) (outer : List Env) (s : Shared) (H : Hp) (vs : List V) (Q : VK) (E : XK) (p : Addr × Obj) (cls : Value) (d : Option Addr), Hot1 A p → L2N.Zn cls d p.2 → RoomH k (A.deeper (envOfC qual scope s.heap.objs.size f cdv)) → sp p.1 cls d vs H Q E →
      ∃ t, PSs (cxH CX P w K mg base N qual scope f cdv A outer s H E p) body t ∧ t { nx := fun _ H' => Q .non H', rt := Q } (L2.start N vs) H) : FnE P w K mg base CX (k + 1) f fd ps sp where
  len := len
  run := by
    intro A outer s H args us vs Q E p cls d room hot zn pin env binds vals want
    obtain ⟨_, _, _, _, _, _, _, cdv, _, _, e, look, code, _, _⟩ := F.ex
    subst e
    have world := env.mod.kin.keeps fun b o e => (env.bs b o e).1
    have free := env.mod.nolimit.keeps fun b o e => (env.bs b o e).1
    have kinds : ∀ y ∈ ps.zip us, scope.names.lookup y.1 = some .local ∨ (scope.names.lookup y.1 = some .cell ∧ ((cellsFrom (s.heap.objs.size + 1) scope.names []).lookup y.1).isSome = true) := by
      intro y hy
      cases S.par y.1 (List.of_mem_zip (show (y.1, y.2) ∈ ps.zip us from hy)).1 with
      | inl h => exact Or.inl h
      | inr h => exact Or.inr ⟨h, PySem.W.cellsFrom_some _ _ _ (Or.inl h)⟩
    have entered := codeAny_call_function (prog := P) (w := w) (A := A) (R := CR CX outer P w H s Q E) (s := s) (args := args) room.depth (world _ _ look) rfl S.co S.gen rfl (PySem.W.codeRec_of world code)
    apply entered
    apply binds
    apply wpAny_newFunctionEnv_cells S.kind kinds
    rintro env' rfl s1 made
    refine And.intro (free.keeps made.toInCall.keep) (codeAny_func ?_)
    obtain ⟨t, reads, goal⟩ := hbody cdv A outer s H vs Q E p cls d hot zn (room.deeper _) want
    have start : Inv (cxH CX P w K mg base N qual scope f cdv A outer s H E p) [] (L2.start N vs) H s1 := inv_startH S pin env (len _ _ _ _ _ _ _ want) vals made
    exact wpAny_mono (reads.run [] s1 _ _ _ start goal) (fun fl _ h => by
      have z := bodyEnd h
      cases fl <;> exact z) fun _ _ h => h
section
variable {X : Cx} {k : Nat} {f a : Addr} {oe : Obj} {pn : List (Addr × Obj)} {cls : Value} {d : Option Addr} {fd : FuncData} {ps : List Str} {sp : SpE} {x : Str} {q pos : Pos} {e : Expr} {es : List Expr} {t : TA}
theorem hot_of {A : Around} (hz : L2N.Zn cls d oe) (hf : ∃ vs, oe.data = .fields vs) : Hot1 (A.mark (some (.ref a))) (a, oe) :=
  hf.elim fun vs hv => ⟨rfl, vs, hv, hz.2.2 vs hv⟩
/-- f(.., e, ..) in the suite -/
def tClE (a : Addr) (cls : Value) (d : Option Addr) (sp : SpE) (t : TA) : TE := fun σ H Q => t σ H fun vs H1 => sp a cls d vs H1 Q fun _ _ _ => False
theorem c_clE {σ : St} {H : Hp} {Q : VK} (h : t σ H fun vs H1 => sp a cls d vs H1 Q fun _ _ _ => False) : tClE a cls d sp t σ H Q := h
/-- the def called, nothing let out of it -/
theorem run_clE (F : FnE X.prog X.w X.K X.mg X.base (L2N.CX X.prog X.w) k f fd ps sp) (hr : RoomH k X.A) (hz : L2N.Zn cls d oe) (hf : ∃ vs, oe.data = .fields vs) (hb : Binds X.K fd ps []) {pins : List (Addr × Obj)} {σ : St} {s : Shared} {H : Hp} {Q : VK} {us : List Value} {vs : List V}
    (I : Inv (X.suite a ((a, oe) :: pn)) pins σ H s) (r : Vals vs us) (h : sp a cls d vs H Q fun _ _ _ => False) : wpAny (model X.prog X.w) (X.suite a ((a, oe) :: pn)).A (call (.ref f) us) (EP (X.suite a ((a, oe) :: pn)) pins σ Q) (X.suite a ((a, oe) :: pn)).xe s := by
  have many : us.length = ps.length := r.length ▸ F.len _ _ _ _ _ _ _ h
  have bound := hb s us I.kIn (by simpa using many)
  rw [List.append_nil] at bound
  obtain ⟨g1, g2, g3, g4, g5⟩ := I.pin (a, oe) (List.mem_append_left _ (.head _))
  have away : a ∉ frs (X.suite a ((a, oe) :: pn)).stack := fun hm => by
    rcases List.mem_cons.mp (I.stkSub a hm) with z | z
    · exact g3 z
    · exact g4 z
  have ran := F.run (X.suite a ((a, oe) :: pn)).A (X.suite a ((a, oe) :: pn)).stack s H ⟨us, []⟩ us vs Q (fun _ _ _ => False) (a, oe) cls d ⟨hr.dp, hr.un⟩ (hot_of hz hf) hz ⟨g1, g2, away, g5⟩ I.env0 bound r h
  refine wpAny_call (codeAny_mono ran ?_)
  intro res s' got
  match res, got with
  | .error _, got =>
    obtain ⟨_, _, _, _, _, _, _, _, _, _, _, _, z⟩ := got
    exact z.elim
  | .ok (.ret _), got => exact I.after got
theorem pe_clE (F : FnE X.prog X.w X.K X.mg X.base (L2N.CX X.prog X.w) k f fd ps sp) (hr : RoomH k X.A) (hz : L2N.Zn cls d oe) (hf : ∃ vs, oe.data = .fields vs) (hg : Gl (X.suite a ((a, oe) :: pn)) x) (hm : X.mg x = some (.ref f)) (hk : PySem.W.keepIn X.K (.ref f) = true) (hb : Binds X.K fd ps [])
    (ha : PA (X.suite a ((a, oe) :: pn)) (e :: es) t) (hdb : (x == ("__debug__" : Str)) = false := by decide) (he : starEach (e :: es) X.env = (false, eval e X.env) :: starEach es X.env := by rfl) (hpl : (backTo pos (starEach es X.env)).any (·.1) = false := by rfl) :
    PE (X.suite a ((a, oe) :: pn)) (.Call (.Name x q) (e :: es) [] pos) (tClE a cls d sp t) where
  run := fun pins s σ H Q I h => wpAny_Call_Name_kw (ld_glob I hg hm (PySem.W.callWith_K (h₀ := X.base) I.ok.mod.kin hk
    (thn (ha.run pos pins s σ H _ I h) fun _ s1 z => z.elim fun vs z => z.elim fun H1 z => ⟨z.1.kIn, run_clE F hr hz hf hb z.1 z.2.1 z.2.2⟩) he hpl) hdb)
/-- isinstance(e, c) in the def -/
theorem call_isP {X : Cx} {p : Addr × Obj} {cls : Value} {d : Option Addr} (hp : p ∈ X.pn) (hz : Zc cls d p.2) (hf : ∃ vs, p.2.data = .fields vs) : CallR X (.builtin "isinstance") (rIsX X.K p.1 cls d) := by
  rintro pins s σ H xs us Q I r ⟨D, c, cv, b, rfl, rfl, C, rfl, hcv, e, q⟩
  match us, r with
  | [_, _], .cons rfl (.cons rt .nil) =>
    rw [hcv _ rt]
    have there := (I.pin p (List.mem_append_left _ hp)).1
    have J : PySem.W.InstAt s.heap p.1 p.2 D none := by
      obtain ⟨vs, hv⟩ := hf
      obtain ⟨pa, ⟨_, _, _, _⟩⟩ := p
      obtain ⟨h1, h2⟩ := hz
      dsimp only at h1 h2 hv
      subst h1 h2 hv
      exact ⟨there, rfl, rfl, trivial⟩
    exact PySem.W.kia_one (PySem.W.handS_kitx_exc C.hg C.hk C.hs C.hd C.ha C.hn C.ht C.hm) I.kIn J e (fun z => nomatch z) fun tk => ⟨.bl b, H, I.kept (t' := tk) fun _ _ z => z, rfl, q⟩
end
end L2.BP
namespace L2.BP
open PySem PySem.Spec PyProof.Rows HotX L2H
/-! ### name = [.. for .. in a list ..], where an exception is handled -/
section
variable {prog : Program} {w : World} {A : Around} {E : Value → Shared → Prop} {s : Shared}
end
/-- a target, the handled exception being pinned -/
structure PGH (X : Cx) (p : Addr × Obj) (tg : Expr) (g : TG) : Prop where
  run : ∀ (pins : List (Addr × Obj)) (s : Shared) (σ : St) (H : Hp) (v : V) (u : Value) (Q : St → Hp → Prop), p ∈ X.pn ++ pins → Inv X pins σ H s → RelV v u → g v σ H Q → wpAny (model X.prog X.w) X.A (assign tg X.env u) (fun _ s' => ∃ σ' H', Inv X pins σ' H' s' ∧ Q σ' H') X.xe s
theorem PGH.of {X : Cx} {p : Addr × Obj} {tg : Expr} {g : TG} (h : PG X tg g) : PGH X p tg g := ⟨fun pins s σ H v u Q _ I r k => h.run pins s σ H v u Q I r k⟩
section
variable {B : Cx} {tg : Expr} {a it : Addr} {pins : List (Addr × Obj)} {s : Shared} {ρ : St} {H : Hp} {E : Value → Shared → Prop} {p : Addr × Obj}
end
end L2.BP
namespace L2.BP
open PySem PySem.Spec PyProof.Rows HotX L2H
section
variable {X : Cx}
end
end L2.BP
namespace L2.BP
open PySem PySem.Spec PyProof.Rows
end L2.BP
namespace L2.BP
open PySem PySem.Spec PyProof.Rows HotX L2H
/-! ### defs called in a suite that don't look at the exception -/
theorem roomMark {k : Nat} {A : Around} {h : Option Value} (r : RoomH k A) : RoomH k (A.mark h) := ⟨r.dp, r.un⟩
end L2.BP
namespace L2.BP
open PySem PySem.Spec PyProof.Rows
/-- the first own objects laid to the base, all at once -/
theorem Hs.fixes : ∀ {N L : Pic} {B H : Hp}, Hs B (N ++ L) H → ∃ B', Same B B' ∧ Hs B' L H ∧ ∀ q ∈ N, B' q.1 = some q.2
  | [], _, B, _, h => ⟨B, Same.refl B, h, fun _ z => nomatch z⟩
  | (p, o) :: N, L, B, H, h => by
    obtain ⟨B', s, h', k⟩ := Hs.fixes (N := N) (L := L) (Hs.fix h)
    refine ⟨B', (same_upd (h.nb (.head _))).trans s, h', fun q hq => ?_⟩
    rcases List.mem_cons.mp hq with rfl | hq
    · exact s _ _ upd_same
    · exact k q hq
end L2.BP
namespace L2.BP
open PySem PySem.Spec PyProof.Rows L2H
end L2.BP
namespace L2.BP
open PySem PySem.Spec PyProof.Rows
end L2.BP
namespace L2.BP
open PySem PySem.Spec PyProof.Rows
section
variable {K : PySem.W.Frag} {H : Hp} {Q : VK} {B : Hp} {L : Pic} {σ : St} {x : V}
theorem c_ckw {r : List V → List V → Hp → VK → Prop} {t tk : TA} (k : t σ H fun vs H1 => tk σ H1 fun zs H2 => r vs zs H2 Q) : tCKw r t tk σ H Q := k
end
end L2.BP
namespace L2.BR
open PySem PySem.Spec PyProof.Rows L2.BP
section
variable {K : PySem.W.Frag} {W : WX} {vs : List V} {H : Hp} {Q : VK} {E : XK}
/-! ### rows -/
def Tg.isByte : Tg → Bool
  | .int i => decide (0 ≤ i) && decide (i ≤ 255)
  | _ => false
/-- whether a thing is a byte, by itself -/
def byteV : V → Bool
  | .int i => decide (0 ≤ i) && decide (i ≤ 255)
  | _ => false
theorem byteV_of {v : V} {g : Tg} (h : Th K H v g) : Tg.isByte g = byteV v := by cases h <;> rfl
def Tg.isRow : Tg → Bool
  | .lst xs => xs.all byteV
  | _ => false
/-- the thing may be looked at: its items are things, too -/
def Tg.ok (K : PySem.W.Frag) (H : Hp) : Tg → Prop
  | .lst xs => (∀ x ∈ xs, ∃ g, Th K H x g) ∧ xs.length ≤ 100000
  | _ => True
/-- a row: its numbers -/
def Bytes (ns : List Int) : Prop := ∀ n ∈ ns, 0 ≤ n ∧ n ≤ 255
theorem ints_of : ∀ {xs : List V}, xs.all byteV = true → ∃ ns : List Int, xs = ns.map V.int ∧ Bytes ns
  | [], _ => ⟨[], rfl, fun _ h => nomatch h⟩
  | x :: r, h => by
    simp only [List.all_cons, Bool.and_eq_true] at h
    obtain ⟨ns, e, hb⟩ := ints_of h.2
    cases x with
    | int i =>
      refine ⟨i :: ns, by rw [e]; rfl, fun n hn => ?_⟩
      rcases List.mem_cons.mp hn with z | z
      · have h1 := h.1
        simp only [byteV, Bool.and_eq_true, decide_eq_true_eq] at h1
        rw [z]
        exact h1
      · exact hb n z
    | _ => cases h.1
theorem all_byteV {ns : List Int} (h : Bytes ns) : (ns.map V.int).all byteV = true := by
  rw [List.all_eq_true]
  intro x hx
  obtain ⟨n, hn, rfl⟩ := List.mem_map.mp hx
  have := h n hn
  simp only [byteV, Bool.and_eq_true, decide_eq_true_eq]
  exact this
theorem ok_ints {H : Hp} {ns : List Int} (h : ns.length ≤ 100000) : Tg.ok K H (.lst (ns.map V.int)) := by
  refine ⟨fun x hx => ?_, by rw [List.length_map]; exact h⟩
  obtain ⟨n, _, rfl⟩ := List.mem_map.mp hx
  exact ⟨_, .int n⟩
theorem cutV_ints (ns : List Int) (lo hi : Option Int) : cutV (ns.map V.int) lo hi = ((ns.drop (HT.sIx ns.length 0 lo)).take (HT.sIx ns.length ns.length hi - HT.sIx ns.length 0 lo)).map V.int := by
  unfold cutV
  rw [List.length_map, List.map_take, List.map_drop]
theorem sIx_at (n d k : Nat) (h : k ≤ n) : HT.sIx n d (some ((k : Nat) : Int)) = k := by rw [HT.sIx_nat]; omega
theorem map_int_inj : ∀ {a b : List Int}, a.map V.int = b.map V.int → a = b
  | [], [], _ => rfl
  | [], _ :: _, h => by cases h
  | _ :: _, [], h => by cases h
  | x :: r, y :: t, h => by
    injection h with h1 h2
    injection h1 with h1
    rw [h1, map_int_inj h2]
theorem ne_f {a b : Int} (h : a = b) : (!decide (a = b)) = false := by rw [decide_eq_true h]; rfl
theorem cut_take (ns : List Int) (m : Nat) : cutV (ns.map V.int) none (some ((m : Nat) : Int)) = (ns.take m).map V.int := by
  rw [cutV_ints, HT.sIx_nat, HT.sIx_none, List.drop_zero, Nat.sub_zero]
  congr 1
  by_cases h : m ≤ ns.length
  · rw [Nat.min_eq_left h]
  · rw [Nat.min_eq_right (by omega), List.take_of_length_le (Nat.le_refl _), List.take_of_length_le (by omega)]
theorem cut_drop (ns : List Int) (m : Nat) : cutV (ns.map V.int) (some ((m : Nat) : Int)) none = (ns.drop m).map V.int := by
  rw [cutV_ints, HT.sIx_nat, HT.sIx_none]
  congr 1
  by_cases h : m ≤ ns.length
  · rw [Nat.min_eq_left h, List.take_of_length_le (by rw [List.length_drop]; omega)]
  · rw [Nat.min_eq_right (by omega), List.drop_of_length_le (Nat.le_refl _), List.drop_of_length_le (by omega), List.take_nil]
theorem at_nat {ns : List Int} {k : Nat} (h : k < ns.length) : atI (ns.map V.int) ((k : Nat) : Int) = some (.int (ns.getD k 0)) := by
  rw [atI_nat (v := .int (ns.getD k 0))]
  rw [List.getElem?_map, List.getElem?_eq_getElem h, List.getD_eq_getElem?_getD, List.getElem?_eq_getElem h]
  rfl
theorem at_i {ns : List Int} {i : Int} {k : Nat} (e : i = ((k : Nat) : Int)) (h : k < ns.length) : atI (ns.map V.int) i = some (.int (ns.getD k 0)) := by rw [e]; exact at_nat h
end
end L2.BR
namespace L2.BR
open PySem PySem.Spec PyProof.Rows L2.BP
section
variable {K : PySem.W.Frag} {W : WX} {vs : List V} {H : Hp} {Q : VK} {E : XK}
/-! ### the word of a caught error -/
def wordL : List (Str × Str) := [("row", "BadRow"), ("bits", "BadBits"), ("nobits", "NoBits"), ("shares", "BadShares"), ("lengths", "BadLengths"), ("code", "BadCode"), ("table", "BadTable"), ("cut", "Cut"), ("pieces", "BadPieces"), ("body", "BadBody"), ("head", "BadHead"), ("check", "BadCheck"), ("mark", "BadMark"), ("tail", "BadTail"), ("behind", "Behind"), ("over", "Over"), ("range", "NoRange"), ("letters", "BadLetters")]
structure WordOf (K : PySem.W.Frag) (D : Addr) (w : Str) : Prop where
  x : ExcC K D
  v : PySem.W.kitOne K (.ref D) (.type "ValueError") = some true
  f : ∀ p ∈ wordL, PySem.W.kitOne K (.ref D) (.ref (He.ga K p.2)) = some (decide (p.1 = w))
  one : (wordL.map fun p => (p.1, decide (p.1 = w))).filter (·.2) = [(w, true)]
section
variable {B : Hp} {l l2 u1 u2 u3 : Addr} {xs a b c : List V} {ps : List (List V)}
end
theorem c_isXw {a D : Addr} {w u c : Str} (W : WordOf K D w) (m : (u, c) ∈ wordL) (k : Q (.bl (decide (u = w))) H) : rIsX K a (.ref D) none [.ref a, .ref (He.ga K c)] H Q := c_isXc W.x (W.f (u, c) m) k
end
end L2.BR
namespace L2.BR
open PySem PySem.Spec PyProof.Rows L2.BP
section
variable {K : PySem.W.Frag} {H H' : Hp} {Q : VK}
/-! ### things that are data, compared with copies of themselves -/
/-- data of few layers -/
def LD (K : PySem.W.Frag) (H : Hp) (n : Nat) (xs : List V) : Prop := ∃ ds, DpAll K H xs ds ∧ PyData.canLayAll0 ds = true ∧ PyData.depthAll ds ≤ n
def OD (K : PySem.W.Frag) (H : Hp) (n : Nat) (x : V) : Prop := ∃ d, Dp K H x d ∧ PyData.canLay0 d = true ∧ PyData.depth d ≤ n
theorem dpAll_app : ∀ {xs ys : List V} {ds es : List PyData}, DpAll K H xs ds → DpAll K H ys es → DpAll K H (xs ++ ys) (ds ++ es)
  | _, _, _, _, .nil, h => h
  | _, _, _, _, .cons e t, h => .cons e (dpAll_app t h)
theorem lay_app : ∀ {ds es : List PyData}, PyData.canLayAll0 ds = true → PyData.canLayAll0 es = true → PyData.canLayAll0 (ds ++ es) = true
  | [], _, _, h => h
  | d :: ds, es, h, h2 => by
    simp only [PyData.canLayAll0, Bool.and_eq_true, List.cons_append] at h ⊢
    exact ⟨h.1, lay_app h.2 h2⟩
theorem depth_app : ∀ {ds es : List PyData} {n : Nat}, PyData.depthAll ds ≤ n → PyData.depthAll es ≤ n → PyData.depthAll (ds ++ es) ≤ n
  | [], _, _, _, h => h
  | d :: ds, es, n, h, h2 => by
    simp only [PyData.depthAll, List.cons_append] at h ⊢
    have := depth_app (ds := ds) (n := n) (by omega) h2
    omega
theorem LD.nil {n : Nat} : LD K H n [] := ⟨[], .nil, rfl, Nat.zero_le _⟩
theorem LD.app {n : Nat} {xs ys : List V} (h : LD K H n xs) (h2 : LD K H n ys) : LD K H n (xs ++ ys) := by
  obtain ⟨ds, a1, a2, a3⟩ := h
  obtain ⟨es, b1, b2, b3⟩ := h2
  exact ⟨_, dpAll_app a1 b1, lay_app a2 b2, depth_app a3 b3⟩
theorem LD.one {n : Nat} {x : V} (h : OD K H n x) : LD K H n [x] := by
  obtain ⟨d, a1, a2, a3⟩ := h
  exact ⟨[d], .cons a1 .nil, by simp [PyData.canLayAll0, a2], by simp [PyData.depthAll]; exact a3⟩
theorem LD.cons {n : Nat} {x : V} {xs : List V} (h : OD K H n x) (t : LD K H n xs) : LD K H n (x :: xs) := (LD.one h).app t
theorem OD.flat {n : Nat} {x : V} (h : L2.BP.flatV x = true) : OD K H n x := ⟨_, dp_flat h, (can_flat h).1, by rw [(can_flat h).2]; exact Nat.zero_le _⟩
theorem LD.flat {n : Nat} : ∀ {xs : List V}, xs.all L2.BP.flatV = true → LD K H n xs
  | [], _ => .nil
  | x :: r, h => by
    rw [List.all_cons, Bool.and_eq_true] at h
    exact .cons (.flat h.1) (LD.flat h.2)
theorem OD.lst {n : Nat} {a : Addr} {xs : List V} (h : SqL K H a xs) (t : LD K H n xs) : OD K H (n + 1) (.ref a) := by
  obtain ⟨ds, a1, a2, a3⟩ := t
  exact ⟨.list ds, .lst h a1, by simpa [PyData.canLay0] using a2, by simp only [PyData.depth]; omega⟩
theorem OD.tup {n : Nat} {a : Addr} {xs : List V} (h : SqT K H a xs) (t : LD K H n xs) : OD K H (n + 1) (.ref a) := by
  obtain ⟨ds, a1, a2, a3⟩ := t
  exact ⟨.tuple ds, .tup h a1, by simpa [PyData.canLay0] using a2, by simp only [PyData.depth]; omega⟩
theorem eqvS {d : PyData} (h : PyData.canLay0 d = true) : PyData.eqv d d = true := SeqAt.eqv_refl d h
theorem shapedS {d : PyData} (h : PyData.canLay0 d = true) {n : Nat} (h2 : PyData.depth d ≤ n) (hn : n ≤ 64) : SeqAt.shaped d = true := by
  unfold SeqAt.shaped
  rw [h, Bool.true_and]
  exact decide_eq_true (by omega)
/-- two lists of the same items -/
theorem c_neSame {n : Nat} {a b : Addr} {xs : List V} (h1 : SqL K H a xs) (h2 : SqL K H b xs) (t : LD K H n xs) (hn : n ≤ 60) (k : Q (.bl false) H) : rNeU K (.ref a) (.ref b) H Q := by
  obtain ⟨ds, a1, a2, a3⟩ := t
  have c : PyData.canLay0 (.list ds) = true := by simpa [PyData.canLay0] using a2
  have e : PyData.depth (.list ds) ≤ n + 1 := by simp only [PyData.depth]; omega
  refine c_neD (.lst h1 a1) (.lst h2 a1) (shapedS c e (by omega)) (shapedS c e (by omega)) ?_
  rw [eqvS c]
  exact k
mutual
theorem Dp.same (s : Same H H') : ∀ {d : PyData} {x : V}, Dp K H x d → Dp K H' x d
  | _, _, .non => .non
  | _, _, .bl b => .bl b
  | _, _, .int i => .int i
  | _, _, .str z => .str z
  | _, _, .lst h t => .lst (s.seq h) (DpAll.same s t)
  | _, _, .tup h t => .tup (same_sqt s h) (DpAll.same s t)
theorem DpAll.same (s : Same H H') : ∀ {ds : List PyData} {xs : List V}, DpAll K H xs ds → DpAll K H' xs ds
  | _, _, .nil => .nil
  | _, _, .cons h t => .cons (Dp.same s h) (DpAll.same s t)
end
theorem LD.same {n : Nat} {xs : List V} (h : LD K H n xs) (s : Same H H') : LD K H' n xs := by
  obtain ⟨ds, a1, a2, a3⟩ := h
  exact ⟨ds, DpAll.same s a1, a2, a3⟩
theorem OD.same {n : Nat} {x : V} (h : OD K H n x) (s : Same H H') : OD K H' n x := by
  obtain ⟨ds, a1, a2, a3⟩ := h
  exact ⟨ds, Dp.same s a1, a2, a3⟩
end
end L2.BR
namespace L2.BP
open PySem PySem.Spec PyProof.Rows L2
end L2.BP
namespace L2.BP
open PySem PySem.Spec PyProof.Rows
/-! ### isinstance(e, (C1, C2, ..)), e the exception that the def was handed -/
def rIsXT (K : PySem.W.Frag) (a : Addr) (cls : Value) (d : Option Addr) : List V → Hp → VK → Prop := fun xs H Q => ∃ (D tp : Addr) (cs : List V) (us : List Value) (b : Bool), cls = .ref D ∧ d = none ∧ ExcC K D ∧ xs = [.ref a, .ref tp] ∧ H tp = some (.tup cs) ∧ Paired ClsV cs us ∧ PySem.W.kitAny K (.ref D) us = some b ∧ Q (.bl b) H
theorem call_isPT {X : Cx} {p : Addr × Obj} {cls : Value} {d : Option Addr} (hp : p ∈ X.pn) (hz : Zc cls d p.2) (hf : ∃ vs, p.2.data = .fields vs) : CallR X (.builtin "isinstance") (rIsXT X.K p.1 cls d) := by
  rintro pins s σ H xs us Q I r ⟨D, tp, cs, ws, b, rfl, rfl, C, rfl, hT, k, e, q⟩
  match us, r with
  | [_, _], .cons rfl (.cons rt .nil) =>
    cases rt
    obtain ⟨_, its, rv, o, h1, h2, n, h3⟩ := (show ObjOk X.prog X.w H s.heap tp (.tup cs) from I.hok tp _ hT)
    have e3 := ClsV.all k rv
    subst e3
    have there := (I.pin p (List.mem_append_left _ hp)).1
    have J : PySem.W.InstAt s.heap p.1 p.2 D none := by
      obtain ⟨vs, hv⟩ := hf
      obtain ⟨pa, ⟨_, _, _, _⟩⟩ := p
      obtain ⟨h1, h2⟩ := hz
      dsimp only at h1 h2 hv
      subst h1 h2 hv
      exact ⟨there, rfl, rfl, trivial⟩
    obtain ⟨oc, od, dt, sl⟩ := o
    simp only at h2 h3
    subst h2 h3
    exact PySem.W.kia_tup (PySem.W.handS_kitx_exc C.hg C.hk C.hs C.hd C.ha C.hn C.ht C.hm) I.kIn J h1 e (fun z => nomatch z) fun tk => ⟨.bl b, H, I.kept (t' := tk) fun _ _ z => z, rfl, q⟩
end L2.BP
namespace L2.BR
open PySem PySem.Spec PyProof.Rows L2.BP
theorem clsV_own (K : PySem.W.Frag) : ∀ us : List (Str × Str), Paired ClsV (us.map fun p => V.ref (He.ga K p.2)) (us.map fun p => Value.ref (He.ga K p.2))
  | [] => .nil
  | _ :: us => .cons (.own _) (clsV_own K us)
theorem any_word {K : PySem.W.Frag} {D : Addr} {w : Str} (W : WordOf K D w) : ∀ us : List (Str × Str), (∀ p ∈ us, p ∈ wordL) → PySem.W.kitAny K (.ref D) (us.map fun p => Value.ref (He.ga K p.2)) = some (us.any fun p => decide (p.1 = w))
  | [], _ => rfl
  | p :: us, m => by
    have ih := any_word W us fun q hq => m q (.tail _ hq)
    refine kitAny_cons (W.f p (m p (.head _))) (fun hb => ?_) fun hb => ?_
    · rw [ih, List.any_cons, hb, Bool.false_or]
    · rw [List.any_cons, hb, Bool.true_or]
theorem c_isXT {K : PySem.W.Frag} {H : Hp} {Q : VK} {a D tp : Addr} {w : Str} (W : WordOf K D w) (us : List (Str × Str)) (m : ∀ p ∈ us, p ∈ wordL) (h : H tp = some (.tup (us.map fun p => V.ref (He.ga K p.2)))) (k : Q (.bl (us.any fun p => decide (p.1 = w))) H) : rIsXT K a (.ref D) none [.ref a, .ref tp] H Q :=
  ⟨D, tp, _, _, _, rfl, rfl, W.x, rfl, h, clsV_own K us, any_word W us m, k⟩
end L2.BR
namespace L2.BR
open PySem PySem.Spec PyProof.Rows L2.BP
end L2.BR
namespace L2.BP
open PySem PySem.Spec PyProof.Rows
/-! ### sorted(range(n), key=f) -/
section
variable {prog : Program} {w : World} {A : Around} {E : Value → Shared → Prop} {s : Shared}
end
end L2.BP
namespace L2.BP
open PySem PySem.Spec PyProof.Rows LamX
/-! ### a lambda is made: its maker's table of code objects is an own object -/
/-- the table: what it tells are code objects of that name -/
def TabC (B : Hp) (ps : Array Value) (q : Str) : Prop := TriplesOk ps.toList ∧ ∀ (pos : Pos) (cv : Value), codeAmong pos ps.toList = some cv → ∃ c, cv = .ref c ∧ B c = some (CodeO c q)
theorem TabC.same {B B2 : Hp} {ps : Array Value} {q : Str} (h : TabC B ps q) (e : Same B B2) : TabC B2 ps q := ⟨h.1, fun pos cv hc => (h.2 pos cv hc).imp fun c z => ⟨z.1, e _ _ z.2⟩⟩
theorem TabC.nil {B : Hp} {q : Str} : TabC B #[] q := ⟨True.intro, fun pos cv hc => by
  have z : codeAmong pos [] = some cv := hc
  simp [codeAmong] at z⟩
section
variable {X : Cx} {pins : List (Addr × Obj)} {σ : L2.St} {H B : Hp} {L : Pic} {s : Shared}
end
end L2.BP
namespace L2.BP
open PySem PySem.Spec PyProof.Rows
/-! ### a def whose code object is told -/
section
variable {K : PySem.W.Frag} {H B : Hp} {L : Pic} {σ : St} {Q : VK}
end
end L2.BP
namespace L2.BP
open PySem PySem.Spec PyProof.Rows
/-! ### xs.insert(i, y), x in a list of data, comprehensions over two lists -/
section
variable {K : PySem.W.Frag} {H B : Hp} {L : Pic} {Q : VK} {a : Addr} {xs : List V} {y : V}
end
section
variable {α β : Type} {K : PySem.W.Frag} {a b : Addr} {g : TG} {tt : TT} {te tl : TE} {σ : St} {H B : Hp} {L : Pic} {vs : List Nat}
end
end L2.BP
namespace L2.BP
open PySem PySem.Spec PyProof.Rows
section
variable {K : PySem.W.Frag} {H B : Hp} {L : Pic} {Q : VK} {a : Addr}
end
end L2.BP
namespace L2.BP
open PySem PySem.Spec PyProof.Rows
/-! ### dicts with tuples as keys -/
section
variable {K : PySem.W.Frag} {σ : St} {H B : Hp} {L : Pic} {Q : VK} {a b : Addr} {v : V} {kvs : List (List Key × V)} {ks : List Key}
def DiO (y x : V) (H : Hp) (Q : VK) : Prop := ∃ a o, x = .ref a ∧ DGet H a y o ∧ Q (.bl o.isSome) H
def DnO (y x : V) (H : Hp) (Q : VK) : Prop := ∃ a o, x = .ref a ∧ DGet H a y o ∧ Q (.bl (!o.isSome)) H
theorem c_din {ty td : TE} (k : ty σ H fun y H1 => td σ H1 fun x H2 => DiO y x H2 Q) : tDIn ty td σ H Q := k
theorem c_dnin {ty td : TE} (k : ty σ H fun y H1 => td σ H1 fun x H2 => DnO y x H2 Q) : tDNotIn ty td σ H Q := k
def SetD (o i v : V) (H : Hp) (P : Hp → Prop) : Prop := rSetD o i v H P
theorem g_subD {to_ ti_ : TE} {P : St → Hp → Prop} (k : to_ σ H fun o H1 => ti_ σ H1 fun i H2 => SetD o i v H2 (P σ)) : gSub to_ ti_ rSetD v σ H P := k
end
end L2.BP
namespace L2.BP
open PySem PySem.Spec PyProof.Rows L2
/-! ### texts turned round, startswith, str of a number -/
end L2.BP
section
open L2.BP
/-! steps, as rows of the tactic that the library names walk_at -/
local macro_rules | `(tactic| walk_at "mem") => `(tactic| first | exact .head _ | exact .tail _ (.head _) | exact .tail _ (.tail _ (.head _)) | exact .tail _ (.tail _ (.tail _ (.head _))) | exact .tail _ (.tail _ (.tail _ (.tail _ (.head _)))) | exact .tail _ (.tail _ (.tail _ (.tail _ (.tail _ (.head _))))))
local macro_rules | `(tactic| walk_at "get") => `(tactic| first | assumption | ((with_reducible apply Hs.get); (· assumption); (· walk_at "mem")) | exact (Hs.ex (by assumption)) _ _ (by assumption))
local macro_rules | `(tactic| walk_at "sq") => `(tactic| first | assumption | ((with_reducible apply Hs.sql); (· assumption); (· walk_at "mem")) | ((with_reducible apply Hs.bl); (· assumption); (· assumption)) | ((with_reducible apply SqL.of); (walk_at "get")))
local macro_rules | `(tactic| walk_at "sqt") => `(tactic| first | assumption | ((with_reducible apply Hs.sqt); (· assumption); (· walk_at "mem")) | ((with_reducible apply Hs.bt); (· assumption); (· assumption)) | ((with_reducible apply SqT.of); (walk_at "get")))
local macro_rules | `(tactic| walk_at "bd") => `(tactic| first | decide | omega | assumption)
local macro_rules | `(tactic| walk_at "cmul") => `(tactic| first | exact .inr ⟨by decide, by decide⟩ | exact .inl ⟨by decide, by decide⟩ | exact .inl ⟨by omega, by omega⟩ | exact .inr ⟨by omega, by omega⟩ | assumption)
local macro_rules | `(tactic| walk_at "yes") => `(tactic| first | rfl | assumption | exact decide_eq_true (by first | assumption | omega) | (simp only [Bool.not_eq_true', decide_eq_true_eq, decide_eq_false_iff_not, Bool.and_eq_true, Bool.or_eq_true] <;> omega))
local macro_rules | `(tactic| walk_at "no") => `(tactic| first | rfl | assumption | exact decide_eq_false (by first | assumption | omega) | (simp only [Bool.not_eq_false', decide_eq_true_eq, decide_eq_false_iff_not, Bool.and_eq_false_iff, Bool.or_eq_false_iff] <;> omega))
local macro_rules | `(tactic| walk_at "look") => `(tactic| first | (with_reducible exact look0) | ((with_reducible apply lookS); (· (decide +kernel)); walk_at "look"))
local macro_rules | `(tactic| walk_at "lookn") => `(tactic| first | (with_reducible exact lookN) | ((with_reducible apply lookNS); (· (decide +kernel)); walk_at "lookn"))
local macro_rules | `(tactic| walk_at "put") => `(tactic| first | (with_reducible exact put0) | (with_reducible exact putN) | ((with_reducible apply putS); (· (decide +kernel)); walk_at "put"))
local macro_rules | `(tactic| walk_at "few") => `(tactic| (exact of_decide_eq_true rfl))
local macro_rules | `(tactic| walk_at "s") => `(tactic| first
  | ((with_reducible apply c_var); (· exact rfl))
  | (with_reducible apply c_c)
  | (with_reducible apply c_op)
  | (with_reducible apply w_seq)
  | (with_reducible apply w_asg)
  | (with_reducible apply w_name)
  | (with_reducible apply w_if)
  | (with_reducible apply c_test)
  | (with_reducible apply c_bl)
  | ((with_reducible apply i_t); (· walk_at "yes"))
  | ((with_reducible apply i_f); (· walk_at "no"))
  | (with_reducible apply c_cons)
  | (with_reducible apply c_nil)
  | (with_reducible apply c_cb)
  | (with_reducible apply c_cl)
  | (with_reducible apply w_ret)
  | (with_reducible apply w_drop)
  | (with_reducible apply w_break)
  | (with_reducible apply w_cont)
  | (with_reducible apply w_retN)
  | (with_reducible apply w_par)
  | (with_reducible apply c_parO)
  | (with_reducible apply c_rev)
  | (with_reducible apply g_sub)
  | (with_reducible apply g_attr)
  | (with_reducible apply c_orT)
  | (with_reducible apply c_lenset)
  | (with_reducible apply c_dget)
  | (with_reducible apply c_tpc)
  | (with_reducible apply c_tpn)
  | ((with_reducible apply c_disp); (· assumption); intro _ _ _)
  | (with_reducible apply w_next)
  | (with_reducible apply c_addI)
  | (with_reducible apply c_sub)
  | ((with_reducible apply c_mulI); (· walk_at "cmul"))
  | ((with_reducible apply c_mod); (· walk_at "bd"))
  | ((with_reducible apply c_div); (· exact ⟨by walk_at "bd", by walk_at "bd"⟩))
  | (with_reducible apply c_lt)
  | (with_reducible apply c_le)
  | (with_reducible apply c_gt)
  | (with_reducible apply c_ge)
  | (with_reducible apply c_eqI)
  | ((with_reducible apply c_eqL); (· walk_at "sq"); (· walk_at "sq"))
  | ((with_reducible apply c_neL); (· walk_at "sq"); (· walk_at "sq"))
  | (with_reducible apply c_neI)
  | (with_reducible apply c_eqB)
  | (with_reducible apply c_neB)
  | (with_reducible apply c_eqS)
  | (with_reducible apply c_neS)
  | (with_reducible apply c_isN)
  | (with_reducible apply c_notN)
  | (with_reducible apply c_isB)
  | (with_reducible apply c_notB)
  | (with_reducible apply c_un)
  | (with_reducible apply c_neg)
  | (with_reducible apply c_and)
  | (with_reducible apply c_or)
  | (with_reducible apply c_xor)
  | ((with_reducible apply c_shr); (· walk_at "bd"))
  | ((with_reducible apply c_shl); (· exact ⟨by walk_at "bd", by walk_at "bd", by walk_at "bd"⟩))
  | (with_reducible apply c_B)
  | (with_reducible apply c_tand)
  | (with_reducible apply c_tor)
  | (with_reducible apply c_tnot)
  | (with_reducible apply c_andV)
  | (with_reducible apply c_orV)
  | (with_reducible apply c_notV)
  | (with_reducible apply c_chain)
  | (with_reducible apply c_if)
  | (with_reducible apply c_isi_ii)
  | (with_reducible apply c_isi_ib)
  | ((with_reducible apply c_lenL); (· walk_at "sq"))
  | ((with_reducible apply c_lenT); (· walk_at "sqt"))
  | (with_reducible apply c_isiS)
  | ((with_reducible apply c_ixL); (· (walk_at "sq")); (· first | exact rfl | assumption))
  | ((with_reducible apply c_ixT); (· (walk_at "sqt")); (· first | exact rfl | assumption))
  | (with_reducible apply c_tup)
  | (with_reducible apply c_lst)
  | ((with_reducible apply c_tupO); (· assumption); (· exact small5' (of_decide_eq_true rfl)); intro _ _ _)
  | ((with_reducible apply c_lstO); (· assumption); (· exact small5' (of_decide_eq_true rfl)); intro _ _ _)
  | ((with_reducible apply w_aug); (· exact rfl))
  | (with_reducible apply w_augS)
  | (with_reducible apply c_ckw)
  | (with_reducible apply c_ipAddI)
  | (with_reducible apply c_ipSub)
  | (with_reducible apply c_intI)
  | (with_reducible apply c_intB)
  | (with_reducible apply c_max2)
  | (with_reducible apply c_mt)
  | ((with_reducible apply c_recv); (· (walk_at "get")); (· (walk_at "lookn")))
  | (with_reducible apply c_tfld)
  | ((with_reducible apply c_fld); (· (walk_at "get")); (· assumption); (· assumption); (· (walk_at "look")))
  | (with_reducible apply w_sfld)
  | (with_reducible apply w_sfldAug)
  | ((with_reducible apply c_fldA); (· (walk_at "get")); (· assumption); (· assumption); (· (walk_at "look")))
  | (with_reducible apply c_radd)
  | (with_reducible apply c_rsub)
  | ((with_reducible apply w_put0); (· assumption); (· assumption); (· assumption); (· (walk_at "few")); (· (walk_at "put")); intro _ _)
  | ((with_reducible apply w_put1); (· assumption); (· assumption); (· assumption); (· (walk_at "few")); (· (walk_at "put")); intro _ _)
  | ((with_reducible apply w_put2); (· assumption); (· assumption); (· assumption); (· (walk_at "few")); (· (walk_at "put")); intro _ _)
  | ((with_reducible apply w_aput0); (· assumption); (· (walk_at "few")); (· (walk_at "put")); intro _ _)
  | ((with_reducible apply w_aput1); (· assumption); (· (walk_at "few")); (· (walk_at "put")); intro _ _)
  | ((with_reducible apply w_aput2); (· assumption); (· (walk_at "few")); (· (walk_at "put")); intro _ _)
  | (with_reducible apply c_bm)
  | (with_reducible apply c_bm0)
  | ((with_reducible apply c_tyL); (· (walk_at "sq")))
  | (with_reducible apply c_sl)
  | (with_reducible apply c_part)
  | (with_reducible apply c_nopart)
  | (with_reducible apply c_i)
  | (with_reducible apply c_lc)
  | (with_reducible apply w_for)
  | (with_reducible apply c_iL)
  | (with_reducible apply c_iT)
  | (with_reducible apply c_iR1)
  | (with_reducible apply c_iR3)
  | (with_reducible apply c_iS)
  | (with_reducible apply c_ssO)
  | (with_reducible apply c_made)
  | ((with_reducible apply c_madeO); (· assumption); intro _ _ _ _)
  | (with_reducible apply c_iR2)
  | (with_reducible apply c_yes)
  | (with_reducible apply g_cons)
  | (with_reducible apply g_nil)
  | ((with_reducible apply g_tup); (· (walk_at "sqt")); (· exact rfl))
  | (with_reducible apply c_mk)
  | ((with_reducible apply c_mkO); (· assumption); intro _ _ _ _)
  | (with_reducible apply c_iE)
  | (with_reducible apply c_iZ)
  | ((with_reducible apply c_iE1); (· walk_at "sq"))
  | ((with_reducible apply c_slL); (· assumption); (· walk_at "sq"); intro _ _ _)
  | ((with_reducible apply c_listL); (· assumption); (· walk_at "sq"); intro _ _ _)
  | (with_reducible apply c_din)
  | (with_reducible apply c_dnin)
  | (with_reducible apply g_subD)
  | (with_reducible apply c_min2))
local macro_rules | `(tactic| walk_at "go") => `(tactic| repeat walk_at "s")
local macro_rules | `(tactic| walk_at "deep") => `(tactic| repeat (first | exact List.Mem.head _ | apply List.Mem.tail))
namespace L2.BR
open PySem PySem.Spec PyProof.Rows L2.BP
variable {K : PySem.W.Frag} {W : WX} {vs : List V} {H : Hp} {Q : VK} {E : XK}
def sp_is_byte (K : PySem.W.Frag) : Sp := fun vs H Q _ => ∃ (v : V) (g : Tg), vs = [v] ∧ Th K H v g ∧ Q (.bl (Tg.isByte g)) H
theorem len_is_byte (h : sp_is_byte K vs H Q E) : vs.length = 1 := by
  obtain ⟨v, g, rfl, _⟩ := h
  rfl
def t_is_byte (K : PySem.W.Frag) (W : WX) : TS :=
  (tRet ((tAndV (tCB (rIsi K) (tCons (tVar 0) (tCons (tC (.ty "int")) tNil))) (tAndV (tNotV (tCB (rIsi K) (tCons (tVar 0) (tCons (tC (.ty "bool")) tNil)))) (tChain rLeU rLeU (tC (.int 0)) (tVar 0) (tC (.int 255)))))))
theorem rd_is_byte (h : sp_is_byte K vs H Q E) : t_is_byte K W { nx := fun _ H' => Q .non H', rt := Q } (start ["thing"] vs) H := by
  obtain ⟨v, g, rfl, hT, q⟩ := h
  have hs := Hs.start H
  unfold t_is_byte
  cases hT with
  | int i =>
    have q : Q (.bl (decide (0 ≤ i) && decide (i ≤ 255))) H := q
    walk_at "go"
    cases e : decide ((0 : Int) ≤ i) with
    | false =>
      rw [e] at q
      walk_at "go"
      exact q
    | true =>
      rw [e] at q
      walk_at "go"
      exact q
  | bl b =>
    walk_at "go"
    refine c_isiInt (.bl b) ?_
    walk_at "go"
    refine c_isiBool (.bl b) ?_
    walk_at "go"
    exact q
  | non => walk_at "go"; refine c_isiInt .non ?_; walk_at "go"; exact q
  | str x => walk_at "go"; refine c_isiInt (.str x) ?_; walk_at "go"; exact q
  | lst z => walk_at "go"; refine c_isiInt (.lst z) ?_; walk_at "go"; exact q
  | tup z => walk_at "go"; refine c_isiInt (.tup z) ?_; walk_at "go"; exact q
  | dic z => walk_at "go"; refine c_isiInt (.dic z) ?_; walk_at "go"; exact q
def sp_is_row (K : PySem.W.Frag) : Sp := fun vs H Q _ => ∃ (v : V) (g : Tg), vs = [v] ∧ Th K H v g ∧ Tg.ok K H g ∧ RetV H Q (.bl (Tg.isRow g))
theorem len_is_row (h : sp_is_row K vs H Q E) : vs.length = 1 := by
  obtain ⟨v, g, rfl, _⟩ := h
  rfl
def t_is_row (K : PySem.W.Frag) (W : WX) : TS :=
  (tRet ((tAndV (tCB (rIsi K) (tCons (tVar 0) (tCons (tC (.ty "list")) tNil))) (tCB (rAll K) (tCons (tLc (iList K (tVar 0)) (gName 1) tYes (tCl (sp_is_byte K) [] WF (tCons (tVar 1) tNil)) [1]) tNil)))))
theorem rd_is_row (h : sp_is_row K vs H Q E) : t_is_row K W { nx := fun _ H' => Q .non H', rt := Q } (start ["thing", "number"] vs) H := by
  obtain ⟨v, g, rfl, hT, hok, q⟩ := h
  have hs := Hs.start H
  unfold t_is_row
  cases hT with
  | @lst a xs z =>
    walk_at "go"
    refine c_isiList (.lst z) ?_
    walk_at "go"
    refine c_lcL (f := id) xs (fun pre acc B => acc = (pre.map byteV).map V.bl) hs rfl (fun B' H' e h => by rw [List.map_id]; exact (e.trans h.ex).seq z) ?_ ?_
    · intro pre x post acc B' D H' e i eB h
      obtain ⟨g, hg⟩ := hok.1 x (by rw [e]; simp)
      walk_at "go"
      refine ⟨rfl, ?_⟩
      walk_at "go"
      refine ⟨x, g, rfl, hg.same (eB.trans h.ex), ?_⟩
      subst i
      refine c_item h (small5 ?_) eB ?_
      · have := congrArg List.length e
        have := hok.2
        simp at *
        omega
      · rw [byteV_of hg]
        simp
    · intro acc B' D H' i eB h
      subst i
      walk_at "go"
      refine c_all (h.sql (.head _)) ?_
      have e : ((xs.map byteV).all id) = xs.all byteV := by simp
      rw [e]
      exact q _ (eB.trans h.ex)
  | non => walk_at "go"; refine c_isiList .non ?_; walk_at "go"; exact q _ hs.ex
  | bl b => walk_at "go"; refine c_isiList (.bl b) ?_; walk_at "go"; exact q _ hs.ex
  | int i => walk_at "go"; refine c_isiList (.int i) ?_; walk_at "go"; exact q _ hs.ex
  | str x => walk_at "go"; refine c_isiList (.str x) ?_; walk_at "go"; exact q _ hs.ex
  | tup z => walk_at "go"; refine c_isiList (.tup z) ?_; walk_at "go"; exact q _ hs.ex
  | dic z => walk_at "go"; refine c_isiList (.dic z) ?_; walk_at "go"; exact q _ hs.ex
def sp_need_row (K : PySem.W.Frag) : Sp := fun vs H Q E => ∃ (v : V) (g : Tg), vs = [v] ∧ Th K H v g ∧ Tg.ok K H g ∧
  (∀ xs, g = .lst xs → Tg.isRow g = true → RetL H Q xs) ∧ (Tg.isRow g = false → ∀ H', Same H H' → E (.ref (He.ga K "BadRow")) none H')
theorem len_need_row (h : sp_need_row K vs H Q E) : vs.length = 1 := by
  obtain ⟨v, g, rfl, _⟩ := h
  rfl
def t_need_row (K : PySem.W.Frag) (W : WX) : TS :=
  (tSeq (tIfS (tNot (tB (tCl (sp_is_row K) [] W (tCons (tVar 0) tNil)))) (tRz (He.ga K "BadRow") W) tNext)
    (tRet (tCB (rListK K) (tCons (tVar 0) tNil))))
theorem rd_need_row (h : sp_need_row K vs H Q E) : t_need_row K (fun c d _ H2 => E c d H2) { nx := fun _ H' => Q .non H', rt := Q } (start ["thing"] vs) H := by
  obtain ⟨v, g, rfl, hT, hok, q, qe⟩ := h
  have hs := Hs.start H
  unfold t_need_row
  walk_at "go"
  refine ⟨v, g, rfl, hT, hok, retV hs fun H1 h1 => ?_⟩
  walk_at "go"
  cases e : Tg.isRow g with
  | false =>
    walk_at "go"
    exact qe e _ h1.ex
  | true =>
    cases hT with
    | @lst a xs z =>
      walk_at "go"
      rename_i p H2 h2
      exact h2.rl (.head _) (q xs rfl e)
    | _ => cases e
end L2.BR

namespace L2.BR
open PySem PySem.Spec PyProof.Rows L2.BP
variable {K : PySem.W.Frag}
/-! ### the script's cells -/
def cellAt (ns : List Int) (k : Int) : Int := if k < ns.length then ns.getD k.toNat 0 else 0
def sp__law_cell_at (K : PySem.W.Frag) : Sp := fun vs H Q _ => ∃ (a : Addr) (ns : List Int) (k : Int), vs = [.ref a, .int k] ∧ SqL K H a (ns.map V.int) ∧ 0 ≤ k ∧ Q (.int (cellAt ns k)) H
theorem len__law_cell_at {vs : List V} {H : Hp} {Q : VK} {E : XK} (h : sp__law_cell_at K vs H Q E) : vs.length = 2 := by
  obtain ⟨a, ns, k, rfl, _⟩ := h
  rfl
theorem at_ints {ns : List Int} {k : Int} (h0 : 0 ≤ k) (h : k < ns.length) : atI (ns.map V.int) k = some (.int (ns.getD k.toNat 0)) := by
  obtain ⟨n, rfl⟩ := Int.eq_ofNat_of_zero_le h0
  have hn : n < ns.length := by omega
  rw [atI_nat (v := .int (ns.getD n 0))]
  · rfl
  · rw [List.getElem?_map, List.getElem?_eq_getElem hn, List.getD_eq_getElem?_getD, List.getElem?_eq_getElem hn]
    rfl
def t__law_cell_at (K : PySem.W.Frag) (W : WX) : TS :=
  (tSeq (tIfS (tTest (tOp rLtU (tVar 1) (tCB (rLenK K) (tCons (tVar 0) tNil)))) (tRet (tOp (rIx K) (tVar 0) (tVar 1))) tNext)
    (tRet (tC (.int 0))))
theorem rd__law_cell_at {W : WX} {vs : List V} {H : Hp} {Q : VK} {E : XK} (h : sp__law_cell_at K vs H Q E) : t__law_cell_at K W { nx := fun _ H' => Q .non H', rt := Q } (start ["_law_script", "_law_k"] vs) H := by
  obtain ⟨a, ns, k, rfl, hS, h0, q⟩ := h
  have hs := Hs.start H
  unfold t__law_cell_at
  walk_at "go"
  refine i_2 (fun c => ?_) (fun c => ?_)
  · have c := of_decide_eq_true c
    rw [List.length_map] at c
    walk_at "go"
    refine c_ixL (by walk_at "sq") (at_ints h0 c) ?_
    rw [show cellAt ns k = ns.getD k.toNat 0 from if_pos c] at q
    exact q
  · have c := of_decide_eq_false c
    rw [List.length_map] at c
    walk_at "go"
    rw [show cellAt ns k = 0 from if_neg c] at q
    exact q
end L2.BR

namespace L2.BR
open PySem PySem.Spec PyProof.Rows L2.BP
variable {K : PySem.W.Frag} {W : WX} {vs : List V} {H : Hp} {Q : VK} {E : XK}
def sp__law_mixed (K : PySem.W.Frag) : Sp := fun vs H Q _ => ∃ c k : Int, vs = [.int c, .int k] ∧ 0 ≤ k ∧ k ≤ 100000 ∧ ∀ m : Int, 0 ≤ m → Q (.int m) H
theorem len__law_mixed (h : sp__law_mixed K vs H Q E) : vs.length = 2 := by
  obtain ⟨c, k, rfl, _⟩ := h
  rfl
def t__law_mixed (K : PySem.W.Frag) (W : WX) : TS :=
  (tRet (tOp rModU (tOp rMulU (tOp rModU (tOp rMulU (tOp rAddU (tOp rAddU (tVar 0) (tOp rMulU (tOp rMulU (tC (.int 101)) (tVar 1)) (tVar 1))) (tC (.int 7))) (tC (.int 48271))) (tC (.int 2147483647))) (tC (.int 69621))) (tC (.int 2147483629))))
theorem rd__law_mixed (h : sp__law_mixed K vs H Q E) : t__law_mixed K W { nx := fun _ H' => Q .non H', rt := Q } (start ["_law_cell", "_law_k"] vs) H := by
  obtain ⟨c, k, rfl, h0, h1, q⟩ := h
  have hs := Hs.start H
  unfold t__law_mixed
  walk_at "go"
  exact q _ (Int.emod_nonneg _ (by decide))
end L2.BR

namespace L2.BR
open PySem PySem.Spec PyProof.Rows L2.BP
/-! ### texts of noughts and ones -/
def numOf : List Bool → Nat
  | [] => 0
  | b :: r => b.toNat * 2 ^ r.length + numOf r
def bitsOf (n : Nat) : Nat → List Bool
  | 0 => []
  | s + 1 => (n / 2 ^ s % 2 == 1) :: bitsOf n s
theorem bitsOf_length (n : Nat) : ∀ s, (bitsOf n s).length = s
  | 0 => rfl
  | s + 1 => congrArg (· + 1) (bitsOf_length n s)
theorem numOf_lt : ∀ b : List Bool, numOf b < 2 ^ b.length
  | [] => by decide
  | x :: r => by
    have h := numOf_lt r
    have e : (2 : Nat) ^ (x :: r).length = 2 ^ r.length + 2 ^ r.length := by rw [List.length_cons, Nat.pow_succ]; omega
    rw [e]
    unfold numOf
    cases x
    · simp; omega
    · simp; omega
theorem numOf_append : ∀ a b : List Bool, numOf (a ++ b) = numOf a * 2 ^ b.length + numOf b
  | [], b => by simp [numOf]
  | x :: r, b => by
    show x.toNat * 2 ^ (r ++ b).length + numOf (r ++ b) = (x.toNat * 2 ^ r.length + numOf r) * 2 ^ b.length + numOf b
    rw [numOf_append r b, List.length_append, Nat.pow_add, Nat.add_mul, Nat.mul_assoc, Nat.add_assoc]
theorem numOf_bitsOf (n : Nat) : ∀ s, numOf (bitsOf n s) = n % 2 ^ s
  | 0 => by simp [numOf, bitsOf, Nat.mod_one]
  | s + 1 => by
    show (n / 2 ^ s % 2 == 1).toNat * 2 ^ (bitsOf n s).length + numOf (bitsOf n s) = _
    rw [bitsOf_length, numOf_bitsOf n s, Nat.pow_succ, Nat.mod_mul]
    have h : (n / 2 ^ s % 2 == 1).toNat = n / 2 ^ s % 2 := by
      rcases Nat.mod_two_eq_zero_or_one (n / 2 ^ s) with h | h <;> rw [h] <;> rfl
    rw [h, Nat.mul_comm, Nat.add_comm]
theorem numOf_small {n s : Nat} (h : n < 2 ^ s) : numOf (bitsOf n s) = n := by rw [numOf_bitsOf, Nat.mod_eq_of_lt h]
theorem numOf_inj : ∀ a b : List Bool, a.length = b.length → numOf a = numOf b → a = b
  | [], [], _, _ => rfl
  | [], _ :: _, h, _ => by cases h
  | _ :: _, [], h, _ => by cases h
  | x :: r, y :: t, h, e => by
    have hl : r.length = t.length := Nat.succ.inj h
    have e : x.toNat * 2 ^ r.length + numOf r = y.toNat * 2 ^ t.length + numOf t := e
    have h1 := numOf_lt r
    have h2 := numOf_lt t
    rw [← hl] at e h2
    cases x <;> cases y <;> simp at e ⊢
    · exact numOf_inj r t hl e
    · omega
    · omega
    · exact numOf_inj r t hl e
theorem bitsOf_numOf (b : List Bool) : bitsOf (numOf b) b.length = b := by
  refine numOf_inj _ _ (bitsOf_length _ _) ?_
  rw [numOf_small (numOf_lt b)]
theorem numOf_take_div (b : List Bool) (k : Nat) : numOf b / 2 ^ (b.length - k) = numOf (b.take k) := by
  have e := numOf_append (b.take k) (b.drop k)
  rw [List.take_append_drop] at e
  have h := numOf_lt (b.drop k)
  rw [List.length_drop] at e h
  rw [e, Nat.mul_comm, Nat.mul_add_div (Nat.two_pow_pos _), Nat.div_eq_of_lt h, Nat.add_zero]
theorem numOf_drop_mod (b : List Bool) (k : Nat) : numOf b % 2 ^ (b.length - k) = numOf (b.drop k) := by
  have e := numOf_append (b.take k) (b.drop k)
  rw [List.take_append_drop] at e
  have h := numOf_lt (b.drop k)
  rw [List.length_drop] at e h
  rw [e, Nat.mul_comm, Nat.mul_add_mod, Nat.mod_eq_of_lt h]
theorem numOf_noughts (k : Nat) : numOf (List.replicate k false) = 0 := by
  induction k with
  | zero => rfl
  | succ k ih => rw [List.replicate_succ]; unfold numOf; rw [ih]; simp
/-! the bytes that stand whole in a text, the text filled by noughts -/
def byteAt (b : List Bool) (i : Nat) : Nat := numOf ((b.drop (8 * i)).take 8)
def wholeTo (b : List Bool) (n : Nat) : List Int := (List.range n).map fun i => ((byteAt b i : Nat) : Int)
def pad8 (b : List Bool) : List Bool := b ++ List.replicate ((8 - b.length % 8) % 8) false
def rowOf (b : List Bool) : List Int := wholeTo (pad8 b) ((b.length + 7) / 8)
theorem wholeTo_length (b : List Bool) (n : Nat) : (wholeTo b n).length = n := by unfold wholeTo; simp
theorem wholeTo_succ (b : List Bool) (n : Nat) : wholeTo b (n + 1) = wholeTo b n ++ [((byteAt b n : Nat) : Int)] := by unfold wholeTo; rw [List.range_succ, List.map_append]; rfl
theorem byteAt_append {b c : List Bool} {i : Nat} (h : 8 * i + 8 ≤ b.length) : byteAt (b ++ c) i = byteAt b i := by
  unfold byteAt
  rw [List.drop_append_of_le_length (by omega), List.take_append_of_le_length (by rw [List.length_drop]; omega)]
theorem wholeTo_append {b c : List Bool} {n : Nat} (h : 8 * n ≤ b.length) : wholeTo (b ++ c) n = wholeTo b n := by
  unfold wholeTo
  refine List.map_congr_left fun i hi => ?_
  have := List.mem_range.mp hi
  rw [byteAt_append (by omega)]
theorem byteAt_lt (b : List Bool) (i : Nat) : byteAt b i < 256 := by
  have h := numOf_lt ((b.drop (8 * i)).take 8)
  have e : ((b.drop (8 * i)).take 8).length ≤ 8 := by rw [List.length_take]; omega
  exact Nat.lt_of_lt_of_le h (Nat.pow_le_pow_right (by decide) e)
theorem pad8_length (b : List Bool) : (pad8 b).length = 8 * ((b.length + 7) / 8) := by unfold pad8; rw [List.length_append, List.length_replicate]; omega
theorem rowOf_length (b : List Bool) : (rowOf b).length = (b.length + 7) / 8 := wholeTo_length _ _
theorem rowOf_bytes (b : List Bool) : ∀ n ∈ rowOf b, 0 ≤ n ∧ n ≤ 255 := by
  intro n hn
  unfold rowOf wholeTo at hn
  obtain ⟨i, _, rfl⟩ := List.mem_map.mp hn
  have := byteAt_lt (pad8 b) i
  omega
/-- the bits of a row -/
def bitsRow (ns : List Int) : List Bool := ns.flatMap fun n => bitsOf n.toNat 8
theorem bitsRow_length (ns : List Int) : (bitsRow ns).length = 8 * ns.length := by
  induction ns with
  | nil => rfl
  | cons n r ih =>
    unfold bitsRow at ih ⊢
    rw [List.flatMap_cons, List.length_append, ih, bitsOf_length, List.length_cons]
    omega
theorem bitsRow_wholeTo (b : List Bool) : ∀ n, 8 * n ≤ b.length → bitsRow (wholeTo b n) = b.take (8 * n)
  | 0, _ => by simp [wholeTo, bitsRow]
  | n + 1, h => by
    have ih := bitsRow_wholeTo b n (by omega)
    rw [wholeTo_succ]
    unfold bitsRow at ih ⊢
    rw [List.flatMap_append, ih]
    have e : bitsOf (byteAt b n) 8 = (b.drop (8 * n)).take 8 := by
      have l : ((b.drop (8 * n)).take 8).length = 8 := by rw [List.length_take, List.length_drop]; omega
      have z := bitsOf_numOf ((b.drop (8 * n)).take 8)
      rw [l] at z
      exact z
    show b.take (8 * n) ++ (bitsOf ((byteAt b n : Nat) : Int).toNat 8 ++ []) = _
    rw [Int.toNat_natCast, e, List.append_nil]
    rw [show 8 * (n + 1) = 8 * n + 8 by omega, List.take_add]
theorem bitsRow_rowOf (b : List Bool) : bitsRow (rowOf b) = pad8 b := by
  unfold rowOf
  rw [bitsRow_wholeTo _ _ (by rw [pad8_length]; exact Nat.le_refl _)]
  exact List.take_of_length_le (by rw [pad8_length]; exact Nat.le_refl _)
theorem bitsRow_snoc (ns : List Int) (n : Int) : bitsRow (ns ++ [n]) = bitsRow ns ++ bitsOf n.toNat 8 := by
  unfold bitsRow
  rw [List.flatMap_append, List.flatMap_cons, List.flatMap_nil, List.append_nil]
end L2.BR

namespace L2.BR
open PySem PySem.Spec PyProof.Rows L2.BP
variable {K : PySem.W.Frag} {W : WX} {vs : List V} {H : Hp} {Q : VK} {E : XK}
/-! ### rows of bits, readers -/
structure KBitReader (K : PySem.W.Frag) : Prop where
  c : Cls K (He.ga K "BitReader")
  n1 : NoAttr K (He.ga K "BitReader") "source"
  n2 : NoAttr K (He.ga K "BitReader") "taken"
def Tg.isNum : Tg → Bool
  | .int _ => true
  | _ => false
def sp_is_number (K : PySem.W.Frag) : Sp := fun vs H Q _ => ∃ (v : V) (g : Tg), vs = [v] ∧ Th K H v g ∧ Q (.bl (Tg.isNum g)) H
theorem len_is_number (h : sp_is_number K vs H Q E) : vs.length = 1 := by
  obtain ⟨v, g, rfl, _⟩ := h
  rfl
def t_is_number (K : PySem.W.Frag) (W : WX) : TS :=
  (tRet ((tAndV (tCB (rIsi K) (tCons (tVar 0) (tCons (tC (.ty "int")) tNil))) (tNotV (tCB (rIsi K) (tCons (tVar 0) (tCons (tC (.ty "bool")) tNil)))))))
theorem rd_is_number (h : sp_is_number K vs H Q E) : t_is_number K W { nx := fun _ H' => Q .non H', rt := Q } (start ["thing"] vs) H := by
  obtain ⟨v, g, rfl, hT, q⟩ := h
  have hs := Hs.start H
  unfold t_is_number
  walk_at "go"
  refine c_isiInt hT ?_
  cases g with
  | int i => walk_at "go"; refine c_isiBool hT ?_; walk_at "go"; exact q
  | bl b => walk_at "go"; refine c_isiBool hT ?_; walk_at "go"; exact q
  | _ => walk_at "go"; exact q
def sizeOk : Tg → Bool
  | .int i => decide (0 ≤ i) && decide (i ≤ 24)
  | _ => false
def sp_need_size (K : PySem.W.Frag) : Sp := fun vs H Q E => ∃ (v : V) (g : Tg), vs = [v] ∧ Th K H v g ∧ (sizeOk g = true → Q .non H) ∧ (sizeOk g = false → E (.ref (He.ga K "BadBits")) none H)
theorem len_need_size (h : sp_need_size K vs H Q E) : vs.length = 1 := by
  obtain ⟨v, g, rfl, _⟩ := h
  rfl
def t_need_size (K : PySem.W.Frag) (W : WX) : TS :=
  (tIfS ((tOr (tNot (tB (tCl (sp_is_number K) [] W (tCons (tVar 0) tNil)))) (tNot (tTest (tChain rLeU rLeU (tC (.int 0)) (tVar 0) (tC (.int 24))))))) (tRz (He.ga K "BadBits") W) tNext)
theorem rd_need_size (h : sp_need_size K vs H Q E) : t_need_size K (fun c d _ H2 => E c d H2) { nx := fun _ H' => Q .non H', rt := Q } (start ["size"] vs) H := by
  obtain ⟨v, g, rfl, hT, q, qe⟩ := h
  have hs := Hs.start H
  unfold t_need_size
  walk_at "go"
  refine ⟨v, g, rfl, hT, ?_⟩
  cases hT with
  | int i =>
    simp only [sizeOk] at q qe
    walk_at "go"
    cases e : decide ((0 : Int) ≤ i) with
    | false =>
      rw [e] at qe
      walk_at "go"
      exact qe rfl
    | true =>
      rw [e] at q qe
      walk_at "go"
      cases e2 : decide (i ≤ (24 : Int)) with
      | false =>
        rw [e2] at qe
        walk_at "go"
        exact qe rfl
      | true =>
        rw [e2] at q
        walk_at "go"
        exact q rfl
  | non => walk_at "go"; exact qe rfl
  | bl b => walk_at "go"; exact qe rfl
  | str x => walk_at "go"; exact qe rfl
  | lst z => walk_at "go"; exact qe rfl
  | tup z => walk_at "go"; exact qe rfl
  | dic z => walk_at "go"; exact qe rfl
theorem shr_nat (a k : Nat) : ((a : Nat) : Int) / 2 ^ k = ((a / 2 ^ k : Nat) : Int) := by push_cast; rfl
theorem two_cast (k : Nat) : (2 : Int) ^ k = ((2 ^ k : Nat) : Int) := by push_cast; rfl
theorem mask_nat (a k : Nat) : Builtin.bitAnd ((a : Nat) : Int) (1 * 2 ^ k - 1) = ((a % 2 ^ k : Nat) : Int) := by
  rw [Int.one_mul, Bits.bitAnd_mask k (Int.natCast_nonneg a)]
  push_cast
  rfl
theorem join_nat {a b k : Nat} (h : b < 2 ^ k) : Builtin.bitOr (((a : Nat) : Int) * 2 ^ k) ((b : Nat) : Int) = ((a * 2 ^ k + b : Nat) : Int) := by
  have h2 : ((b : Nat) : Int) < 2 ^ k := by rw [two_cast]; exact Int.ofNat_lt.mpr h
  rw [Bits.bitOr_join' (Int.natCast_nonneg b) h2 (Int.natCast_nonneg a)]
  push_cast
  rw [Int.add_comm]
/-! a reader as it stands -/
abbrev rdO (K : PySem.W.Frag) (dx s : Addr) (t : Nat) : HO := .ins (He.ga K "BitReader") dx [("source", .ref s), ("taken", .int ((t : Nat) : Int))]
end L2.BR

namespace L2.BR
open PySem PySem.Spec PyProof.Rows L2.BP
variable {K : PySem.W.Frag} {W : WX} {vs : List V} {H : Hp} {Q : VK} {E : XK}
/-! ### rows of bits, readers -/
structure KBitRow (K : PySem.W.Frag) : Prop where
  c : Cls K (He.ga K "BitRow")
  n1 : NoAttr K (He.ga K "BitRow") "full"
  n2 : NoAttr K (He.ga K "BitRow") "part"
  n3 : NoAttr K (He.ga K "BitRow") "filled"
/-! a row of bits as it stands -/
abbrev brO (K : PySem.W.Frag) (dx f : Addr) (b : List Bool) : HO := .ins (He.ga K "BitRow") dx [("full", .ref f), ("part", .int ((numOf (b.drop (8 * (b.length / 8))) : Nat) : Int)), ("filled", .int ((b.length % 8 : Nat) : Int))]
abbrev brL (b : List Bool) : HO := .lst ((wholeTo b (b.length / 8)).map V.int)
def sp_BitRow___init__ (K : PySem.W.Frag) : Sp := fun vs H Q _ => ∃ (B : Hp) (L : Pic) (x dx : Addr), vs = [.ref x] ∧ Hs B ((x, .ins (He.ga K "BitRow") dx []) :: L) H ∧
  ∀ f H', Hs B ((x, brO K dx f []) :: (f, brL []) :: L) H' → Q .non H'
theorem len_BitRow___init__ (h : sp_BitRow___init__ K vs H Q E) : vs.length = 1 := by
  obtain ⟨B, L, x, dx, rfl, _⟩ := h
  rfl
def t_BitRow___init__ (K : PySem.W.Frag) (W : WX) : TS :=
  (tSeq (sFld K (tVar 0) (tLst tNil) "full")
    (tSeq (sFld K (tVar 0) (tC (.int 0)) "part")
    (sFld K (tVar 0) (tC (.int 0)) "filled")))
theorem rd_BitRow___init__ (kBitRow : KBitRow K) (h : sp_BitRow___init__ K vs H Q E) : t_BitRow___init__ K W { nx := fun _ H' => Q .non H', rt := Q } (start ["self"] vs) H := by
  obtain ⟨B, L, x, dx, rfl, hs, q⟩ := h
  obtain ⟨hc, n1, n2, n3⟩ := kBitRow
  unfold t_BitRow___init__
  walk_at "go"
  rename_i f H1 h1 H2 h2 H3 h3 H4 h4
  exact q f H4 h4.swap
/-- what may be put -/
def putOk : Tg → Tg → Bool
  | .int n, .int s => decide (0 ≤ n) && decide (n < 2 ^ s.toNat)
  | _, _ => false
def sp_BitRow_put (K : PySem.W.Frag) : Sp := fun vs H Q E => ∃ (B : Hp) (L : Pic) (x dx f : Addr) (b : List Bool) (v w : V) (g k : Tg), vs = [.ref x, v, w] ∧ Th K H v g ∧ Th K H w k ∧
  Hs B ((x, brO K dx f b) :: (f, brL b) :: L) H ∧ b.length ≤ 700000 ∧
  (∀ n s : Nat, g = .int n → k = .int s → s ≤ 24 → n < 2 ^ s → ∀ H', Hs B ((x, brO K dx f (b ++ bitsOf n s)) :: (f, brL (b ++ bitsOf n s)) :: L) H' → Q .non H') ∧
  ((sizeOk k && putOk g k) = false → E (.ref (He.ga K "BadBits")) none H)
theorem len_BitRow_put (h : sp_BitRow_put K vs H Q E) : vs.length = 3 := by
  obtain ⟨B, L, x, dx, f, b, v, w, g, k, rfl, _⟩ := h
  rfl
def t_BitRow_put (K : PySem.W.Frag) (W : WX) : TS :=
  (tSeq (tDrop (tCl (sp_need_size K) [] W (tCons (tVar 2) tNil)))
    (tSeq (tIfS ((tOr (tNot (tB (tCl (sp_is_number K) [] W (tCons (tVar 1) tNil)))) (tOr (tTest (tOp rLtU (tVar 1) (tC (.int 0)))) (tTest (tOp rGtU (tOp rShrU (tVar 1) (tVar 2)) (tC (.int 0))))))) (tRz (He.ga K "BadBits") W) tNext)
    (tSeq (sFld K (tVar 0) (tOp rOrU (tOp rShlU (tFld K (tVar 0) "part") (tVar 2)) (tVar 1)) "part")
    (tSeq (sFldAug K (tVar 0) (tVar 2) rAdd "filled")
    (tWhile (tTest (tOp rGeU (tFld K (tVar 0) "filled") (tC (.int 8)))) (tSeq (sFldAug K (tVar 0) (tC (.int 8)) rSub "filled")
    (tSeq (tDrop (tBM K "list" rAppend (tFld K (tVar 0) "full") (tCons (tOp rShrU (tFld K (tVar 0) "part") (tFld K (tVar 0) "filled")) tNil)))
    (sFld K (tVar 0) (tOp rAndU (tFld K (tVar 0) "part") (tOp rSubU (tOp rShlU (tC (.int 1)) (tFld K (tVar 0) "filled")) (tC (.int 1)))) "part"))))))))
theorem rd_BitRow_put (kBitRow : KBitRow K) (h : sp_BitRow_put K vs H Q E) : t_BitRow_put K (fun c d _ H2 => E c d H2) { nx := fun _ H' => Q .non H', rt := Q } (start ["self", "number", "size"] vs) H := by
  obtain ⟨B, L, x, dx, f, b, v, w, g, k, rfl, hT, hT2, hs, hb, q, qe⟩ := h
  obtain ⟨hc, n1, n2, n3⟩ := kBitRow
  unfold t_BitRow_put
  walk_at "go"
  refine ⟨w, k, rfl, hT2, fun hk => ?_, fun hk => qe (by rw [hk]; rfl)⟩
  rw [hk, Bool.true_and] at qe
  walk_at "go"
  refine ⟨v, g, rfl, hT, ?_⟩
  cases hT2 with
  | int s =>
    simp only [sizeOk] at hk
    simp only [Bool.and_eq_true, decide_eq_true_eq] at hk
    cases hT with
    | int n =>
      simp only [putOk] at qe
      walk_at "go"
      refine i_2 (fun c => ?_) (fun c => ?_)
      · have c := of_decide_eq_true c
        rw [decide_eq_false (by omega : ¬ 0 ≤ n)] at qe
        walk_at "go"
        exact qe rfl
      have c := of_decide_eq_false c
      walk_at "go"
      obtain ⟨S, rfl⟩ := Int.eq_ofNat_of_zero_le hk.1
      obtain ⟨M, rfl⟩ := Int.eq_ofNat_of_zero_le (Int.not_lt.mp c)
      rw [decide_eq_true (by omega : (0 : Int) ≤ ((M : Nat) : Int))] at qe
      rw [Int.toNat_natCast, shr_nat]
      rw [Int.toNat_natCast, two_cast] at qe
      have hp : 0 < 2 ^ S := Nat.two_pow_pos S
      by_cases hM : M < 2 ^ S
      · rw [Nat.div_eq_of_lt hM]
        walk_at "go"
        have hS : S ≤ 24 := by omega
        have q := q M S rfl rfl hS hM
        refine c_shl ?_ ?_
        · refine ⟨by omega, by omega, ?_⟩
          have h1 := numOf_lt (b.drop (8 * (b.length / 8)))
          have h2 : (b.drop (8 * (b.length / 8))).length ≤ 8 := by rw [List.length_drop]; omega
          have h3 := Nat.lt_of_lt_of_le h1 (Nat.pow_le_pow_right (by decide) h2)
          rw [Int.natAbs_natCast]
          exact Nat.lt_trans h3 (by decide)
        walk_at "go"
        rename_i H1 h1 H2 h2
        rw [Int.toNat_natCast, join_nat hM] at h2
        have e1 : numOf (b.drop (8 * (b.length / 8))) * 2 ^ S + M = numOf ((b ++ bitsOf M S).drop (8 * (b.length / 8))) := by
          rw [List.drop_append_of_le_length (by omega), numOf_append, bitsOf_length, numOf_small hM]
        rw [e1] at h2
        have hcl : (b ++ bitsOf M S).length = b.length + S := by rw [List.length_append, bitsOf_length]
        have e2 : brL b = HO.lst ((wholeTo (b ++ bitsOf M S) (b.length / 8)).map V.int) := by
          show HO.lst _ = HO.lst _
          rw [wholeTo_append (by omega)]
        rw [e2] at h2
        generalize b ++ bitsOf M S = c at *
        refine w_while (fun m σ' L' B' => ∃ j, m = c.length - 8 * j ∧ 8 * j ≤ c.length ∧ σ' = [some (.ref x), some (.int M), some (.int S)] ∧ B' = B ∧
          L' = (x, .ins (He.ga K "BitRow") dx [("full", .ref f), ("part", .int ((numOf (c.drop (8 * j)) : Nat) : Int)), ("filled", .int ((m : Nat) : Int))]) :: (f, .lst ((wholeTo c j).map V.int)) :: L) (c.length - 8 * (b.length / 8)) h2 ⟨b.length / 8, rfl, by omega, rfl, rfl, ?_⟩ ?_
        · have e3 : ((b.length % 8 : Nat) : Int) + ((S : Nat) : Int) = ((c.length - 8 * (b.length / 8) : Nat) : Int) := by omega
          rw [e3]
        · rintro m σ' L' B' H' ⟨j, hm, hj, rfl, rfl, rfl⟩ h'
          walk_at "go"
          by_cases h8 : 8 ≤ m
          · refine i_t (decide_eq_true (by omega)) (w_turn ?_)
            walk_at "go"
            rename_i H3 h3
            have e4 : (m : Int) - 8 = ((m - 8 : Nat) : Int) := by omega
            rw [e4, Int.toNat_natCast, shr_nat]
            have hl : (c.drop (8 * j)).length = m := by rw [List.length_drop, hm]
            have e5 := numOf_take_div (c.drop (8 * j)) 8
            rw [hl] at e5
            rw [e5]
            refine c_app1 h3 (small5 ?_) fun H4 h4 => ?_
            · rw [List.length_map, wholeTo_length]
              omega
            rw [e4] at h4
            walk_at "go"
            rename_i H5 h5
            rw [Int.toNat_natCast, mask_nat] at h5
            have e6 := numOf_drop_mod (c.drop (8 * j)) 8
            rw [hl, List.drop_drop] at e6
            rw [e6] at h5
            refine ⟨m - 8, by omega, _, _, ⟨j + 1, by omega, by omega, rfl, rfl, ?_⟩, h5⟩
            rw [wholeTo_succ, List.map_append]
            rfl
          · refine i_f (decide_eq_false (by omega)) ?_
            have ej : j = c.length / 8 := by omega
            subst ej
            have em : m = c.length % 8 := by omega
            rw [em] at h'
            exact q H' h'
      · have hd : 1 ≤ M / 2 ^ S := (Nat.one_le_div_iff hp).mpr (Nat.le_of_not_lt hM)
        rw [decide_eq_false (by omega : ¬ ((M : Nat) : Int) < ((2 ^ S : Nat) : Int))] at qe
        walk_at "go"
        exact qe rfl
    | non => walk_at "go"; exact qe rfl
    | bl b => walk_at "go"; exact qe rfl
    | str x => walk_at "go"; exact qe rfl
    | lst z => walk_at "go"; exact qe rfl
    | tup z => walk_at "go"; exact qe rfl
    | dic z => walk_at "go"; exact qe rfl
  | _ => cases hk
def sp_BitRow_many (K : PySem.W.Frag) : Sp := fun vs H Q _ => ∃ (B : Hp) (L : Pic) (x dx f : Addr) (b : List Bool), vs = [.ref x] ∧ Hs B ((x, brO K dx f b) :: (f, brL b) :: L) H ∧ Q (.int ((b.length : Nat) : Int)) H
theorem len_BitRow_many (h : sp_BitRow_many K vs H Q E) : vs.length = 1 := by
  obtain ⟨B, L, x, dx, f, b, rfl, _⟩ := h
  rfl
def t_BitRow_many (K : PySem.W.Frag) (W : WX) : TS :=
  (tRet (tOp rAddU (tOp rMulU (tC (.int 8)) (tCB (rLenK K) (tCons (tFld K (tVar 0) "full") tNil))) (tFld K (tVar 0) "filled")))
theorem rd_BitRow_many (kBitRow : KBitRow K) (h : sp_BitRow_many K vs H Q E) : t_BitRow_many K W { nx := fun _ H' => Q .non H', rt := Q } (start ["self"] vs) H := by
  obtain ⟨B, L, x, dx, f, b, rfl, hs, q⟩ := h
  obtain ⟨hc, n1, n2, n3⟩ := kBitRow
  unfold t_BitRow_many
  walk_at "go"
  rw [List.length_map, wholeTo_length]
  have e : (8 : Int) * ((b.length / 8 : Nat) : Int) + ((b.length % 8 : Nat) : Int) = ((b.length : Nat) : Int) := by omega
  rw [e]
  exact q
def sp_BitRow_row (K : PySem.W.Frag) : Sp := fun vs H Q _ => ∃ (B : Hp) (L : Pic) (x dx f : Addr) (b : List Bool), vs = [.ref x] ∧ Hs B ((x, brO K dx f b) :: (f, brL b) :: L) H ∧ b.length ≤ 700000 ∧ RetL H Q ((rowOf b).map V.int)
theorem len_BitRow_row (h : sp_BitRow_row K vs H Q E) : vs.length = 1 := by
  obtain ⟨B, L, x, dx, f, b, rfl, _⟩ := h
  rfl
theorem rowOf_whole {b : List Bool} (h : b.length % 8 = 0) : rowOf b = wholeTo b (b.length / 8) := by
  unfold rowOf pad8
  rw [show (8 - b.length % 8) % 8 = 0 by omega, List.replicate_zero, List.append_nil, show (b.length + 7) / 8 = b.length / 8 by omega]
theorem rowOf_part {b : List Bool} (h : b.length % 8 ≠ 0) : rowOf b = wholeTo b (b.length / 8) ++ [((numOf (b.drop (8 * (b.length / 8))) * 2 ^ (8 - b.length % 8) : Nat) : Int)] := by
  unfold rowOf
  rw [show (b.length + 7) / 8 = b.length / 8 + 1 by omega, wholeTo_succ]
  unfold pad8
  rw [wholeTo_append (by omega)]
  congr 2
  unfold byteAt
  rw [List.drop_append_of_le_length (by omega), List.take_of_length_le (by rw [List.length_append, List.length_drop, List.length_replicate]; omega), numOf_append, numOf_noughts, List.length_replicate, show (8 - b.length % 8) % 8 = 8 - b.length % 8 by omega, Nat.add_zero]
def t_BitRow_row (K : PySem.W.Frag) (W : WX) : TS :=
  (tSeq (tIfS (tTest (tOp (rEqU K) (tFld K (tVar 0) "filled") (tC (.int 0)))) (tRet (tCB (rListK K) (tCons (tFld K (tVar 0) "full") tNil))) tNext)
    (tRet (tOp rAddU (tFld K (tVar 0) "full") (tLst (tCons (tOp rShlU (tFld K (tVar 0) "part") (tOp rSubU (tC (.int 8)) (tFld K (tVar 0) "filled"))) tNil)))))
theorem rd_BitRow_row (kBitRow : KBitRow K) (h : sp_BitRow_row K vs H Q E) : t_BitRow_row K W { nx := fun _ H' => Q .non H', rt := Q } (start ["self"] vs) H := by
  obtain ⟨B, L, x, dx, f, b, rfl, hs, hb, q⟩ := h
  obtain ⟨hc, n1, n2, n3⟩ := kBitRow
  have hx := hs.get (.head _)
  have hf := hs.get (.tail _ (.head _))
  clear hs
  have h0 := Hs.start H
  unfold t_BitRow_row
  walk_at "go"
  by_cases h8 : b.length % 8 = 0
  · refine i_t (decide_eq_true (by omega)) ?_
    walk_at "go"
    refine c_listL h0 (SqL.of hf) fun p H1 h1 => ?_
    rw [rowOf_whole h8] at q
    exact h1.rl (.head _) q
  · refine i_f (decide_eq_false (by omega)) ?_
    walk_at "go"
    rw [show (8 : Int) - ((b.length % 8 : Nat) : Int) = ((8 - b.length % 8 : Nat) : Int) by omega]
    refine c_shl ?_ ?_
    · refine ⟨by omega, by omega, ?_⟩
      have h1 := numOf_lt (b.drop (8 * (b.length / 8)))
      have h2 : (b.drop (8 * (b.length / 8))).length ≤ 8 := by rw [List.length_drop]; omega
      have h3 := Nat.lt_of_lt_of_le h1 (Nat.pow_le_pow_right (by decide) h2)
      rw [Int.natAbs_natCast]
      exact Nat.lt_trans h3 (by decide)
    walk_at "go"
    rename_i p H1 h1
    refine c_addL h1 (h1.ex _ _ hf) (h1.get (.head _)) ?_ fun r H2 h2 => ?_
    · rw [List.length_map, wholeTo_length]
      exact small5' (by simp; omega)
    rw [rowOf_part h8, List.map_append] at q
    refine h2.drop1.rl (.head _) ?_
    rw [Int.toNat_natCast]
    have e : ((numOf (b.drop (8 * (b.length / 8))) * 2 ^ (8 - b.length % 8) : Nat) : Int) = ((numOf (b.drop (8 * (b.length / 8))) : Nat) : Int) * 2 ^ (8 - b.length % 8) := by push_cast; rfl
    rw [e] at q
    exact q
theorem use_put {B : Hp} {L : Pic} {x dx f : Addr} {b : List Bool} {n s : Nat} {i j : Int} (ei : i = ((n : Nat) : Int)) (ej : j = ((s : Nat) : Int)) (h : Hs B ((x, brO K dx f b) :: (f, brL b) :: L) H) (hb : b.length ≤ 700000) (hs : s ≤ 24) (hn : n < 2 ^ s)
    (k : ∀ H', Hs B ((x, brO K dx f (b ++ bitsOf n s)) :: (f, brL (b ++ bitsOf n s)) :: L) H' → Q .non H') : sp_BitRow_put K [.ref x, .int i, .int j] H Q E := by
  subst ei ej
  refine ⟨B, L, x, dx, f, b, _, _, .int ((n : Nat) : Int), .int ((s : Nat) : Int), rfl, .int _, .int _, h, hb, fun n' s' e1 e2 _ _ => ?_, fun z => ?_⟩
  · cases Int.ofNat.inj (Tg.int.inj e1)
    cases Int.ofNat.inj (Tg.int.inj e2)
    exact k
  · simp only [sizeOk, putOk, Int.toNat_natCast, two_cast, Bool.and_eq_false_iff, decide_eq_false_iff_not] at z
    omega
end L2.BR

namespace L2.BR
open PySem PySem.Spec PyProof.Rows L2.BP
variable {K : PySem.W.Frag} {W : WX} {vs : List V} {H : Hp} {Q : VK} {E : XK}
def sp_BitReader___init__ (K : PySem.W.Frag) : Sp := fun vs H Q E => ∃ (B : Hp) (L : Pic) (x dx : Addr) (v : V) (g : Tg), vs = [.ref x, v] ∧ Hs B ((x, .ins (He.ga K "BitReader") dx []) :: L) H ∧ Th K H v g ∧ Tg.ok K H g ∧
  (∀ ns, g = .lst (ns.map V.int) → Bytes ns → ∀ s H', Hs B ((x, rdO K dx s 0) :: (s, .lst (ns.map V.int)) :: L) H' → Q .non H') ∧
  (Tg.isRow g = false → ∀ H', Hs B ((x, .ins (He.ga K "BitReader") dx []) :: L) H' → E (.ref (He.ga K "BadRow")) none H')
theorem len_BitReader___init__ (h : sp_BitReader___init__ K vs H Q E) : vs.length = 2 := by
  obtain ⟨B, L, x, dx, v, g, rfl, _⟩ := h
  rfl
def t_BitReader___init__ (K : PySem.W.Frag) (W : WX) : TS :=
  (tSeq (sFld K (tVar 0) (tCl (sp_need_row K) [] W (tCons (tVar 1) tNil)) "source")
    (sFld K (tVar 0) (tC (.int 0)) "taken"))
theorem rd_BitReader___init__ (kBitReader : KBitReader K) (h : sp_BitReader___init__ K vs H Q E) : t_BitReader___init__ K (fun c d _ H2 => E c d H2) { nx := fun _ H' => Q .non H', rt := Q } (start ["self", "row"] vs) H := by
  obtain ⟨B, L, x, dx, v, g, rfl, hs, hT, hok, q, qe⟩ := h
  obtain ⟨hc, n1, n2⟩ := kBitReader
  unfold t_BitReader___init__
  walk_at "go"
  refine ⟨v, g, rfl, hT, hok, fun xs e hr => ?_, fun hr H' e => qe hr H' (hs.same e)⟩
  subst e
  obtain ⟨ns, rfl, hb⟩ := ints_of (show xs.all byteV = true from hr)
  refine retL hs fun s H1 h1 => ?_
  walk_at "go"
  rename_i H2 h2 H3 h3
  exact q ns rfl hb s H3 h3.swap
def sp_BitReader_left (K : PySem.W.Frag) : Sp := fun vs H Q _ => ∃ (B : Hp) (L : Pic) (x dx s : Addr) (t : Nat) (ns : List Int), vs = [.ref x] ∧ Hs B ((x, rdO K dx s t) :: (s, .lst (ns.map V.int)) :: L) H ∧ Q (.int (8 * ((ns.length : Nat) : Int) - ((t : Nat) : Int))) H
theorem len_BitReader_left (h : sp_BitReader_left K vs H Q E) : vs.length = 1 := by
  obtain ⟨B, L, x, dx, s, t, ns, rfl, _⟩ := h
  rfl
def t_BitReader_left (K : PySem.W.Frag) (W : WX) : TS :=
  (tRet (tOp rSubU (tOp rMulU (tC (.int 8)) (tCB (rLenK K) (tCons (tFld K (tVar 0) "source") tNil))) (tFld K (tVar 0) "taken")))
theorem rd_BitReader_left (kBitReader : KBitReader K) (h : sp_BitReader_left K vs H Q E) : t_BitReader_left K W { nx := fun _ H' => Q .non H', rt := Q } (start ["self"] vs) H := by
  obtain ⟨B, L, x, dx, s, t, ns, rfl, hs, q⟩ := h
  obtain ⟨hc, n1, n2⟩ := kBitReader
  unfold t_BitReader_left
  walk_at "go"
  rw [List.length_map]
  exact q
theorem bitsRow_drop : ∀ (ns : List Int) (k : Nat), bitsRow (ns.drop k) = (bitsRow ns).drop (8 * k)
  | [], k => by simp [bitsRow]
  | n :: r, 0 => rfl
  | n :: r, k + 1 => by
    have ih := bitsRow_drop r k
    unfold bitsRow at ih ⊢
    have e : (bitsOf n.toNat 8).drop (8 * (k + 1)) = [] := List.drop_of_length_le (by rw [bitsOf_length]; omega)
    rw [List.drop_succ_cons, ih, List.flatMap_cons, List.drop_append, bitsOf_length, e, show 8 * (k + 1) - 8 = 8 * k by omega, List.nil_append]
theorem bitsRow_take : ∀ (ns : List Int) (k : Nat), bitsRow (ns.take k) = (bitsRow ns).take (8 * k)
  | [], k => by simp [bitsRow]
  | n :: r, 0 => rfl
  | n :: r, k + 1 => by
    have ih := bitsRow_take r k
    unfold bitsRow at ih ⊢
    have e : (bitsOf n.toNat 8).take (8 * (k + 1)) = bitsOf n.toNat 8 := List.take_of_length_le (by rw [bitsOf_length]; omega)
    rw [List.take_succ_cons, List.flatMap_cons, ih, List.flatMap_cons, List.take_append, bitsOf_length, e, show 8 * (k + 1) - 8 = 8 * k by omega]
/-- what the next so many bits tell -/
def takenNum (ns : List Int) (t i : Nat) : Nat := numOf (((bitsRow ns).drop t).take i)
def sp_BitReader_take (K : PySem.W.Frag) : Sp := fun vs H Q E => ∃ (B : Hp) (L : Pic) (x dx s : Addr) (t : Nat) (ns : List Int) (v : V) (g : Tg), vs = [.ref x, v] ∧ Th K H v g ∧ Hs B ((x, rdO K dx s t) :: (s, .lst (ns.map V.int)) :: L) H ∧ Bytes ns ∧ t ≤ 8 * ns.length ∧ ns.length ≤ 100000 ∧
  (∀ i : Nat, g = .int i → i ≤ 24 → t + i ≤ 8 * ns.length → ∀ H', Hs B ((x, rdO K dx s (t + i)) :: (s, .lst (ns.map V.int)) :: L) H' → Q (.int ((takenNum ns t i : Nat) : Int)) H') ∧
  (sizeOk g = false → E (.ref (He.ga K "BadBits")) none H) ∧ (∀ i : Nat, g = .int i → i ≤ 24 → 8 * ns.length < t + i → E (.ref (He.ga K "NoBits")) none H)
theorem len_BitReader_take (h : sp_BitReader_take K vs H Q E) : vs.length = 2 := by
  obtain ⟨B, L, x, dx, s, t, ns, v, g, rfl, _⟩ := h
  rfl
def t_BitReader_take (K : PySem.W.Frag) (W : WX) : TS :=
  (tSeq (tDrop (tCl (sp_need_size K) [] W (tCons (tVar 1) tNil)))
    (tSeq (tIfS (tTest (tOp rLtU (tMt (He.ga K "BitReader") "left" (sp_BitReader_left K) [] W (tVar 0) tNil) (tVar 1))) (tRz (He.ga K "NoBits") W) tNext)
    (tSeq (tAsg (tCB (rDivmodK) (tCons (tFld K (tVar 0) "taken") (tCons (tC (.int 8)) tNil))) (gTup K 2 (gCons (gName 2) (gCons (gName 3) gNil))))
    (tSeq (tAsg (tCB (rDivmodK) (tCons (tOp rSubU (tOp rAddU (tOp rAddU (tFld K (tVar 0) "taken") (tVar 1)) (tC (.int 8))) (tC (.int 1))) (tCons (tC (.int 8)) tNil))) (gTup K 2 (gCons (gName 4) (gCons (gName 5) gNil))))
    (tSeq (tAsg (tC (.int 0)) (gName 6))
    (tSeq (tFor (iList K (tSl (rSlK K) (tFld K (tVar 0) "source") (tPart (tVar 2)) (tPart (tVar 4)))) (gName 7) (tAsg (tOp rOrU (tOp rShlU (tVar 6) (tC (.int 8))) (tVar 7)) (gName 6)))
    (tSeq (tAsg (tOp rAndU (tVar 6) (tOp rSubU (tOp rShlU (tC (.int 1)) (tOp rSubU (tOp rMulU (tC (.int 8)) (tOp rSubU (tVar 4) (tVar 2))) (tVar 3))) (tC (.int 1)))) (gName 6))
    (tSeq (sFldAug K (tVar 0) (tVar 1) rAdd "taken")
    (tRet (tOp rShrU (tVar 6) (tOp rSubU (tOp rSubU (tC (.int 8)) (tC (.int 1))) (tVar 5))))))))))))
theorem rd_BitReader_take (kBitReader : KBitReader K) (h : sp_BitReader_take K vs H Q E) : t_BitReader_take K (fun c d _ H2 => E c d H2) { nx := fun _ H' => Q .non H', rt := Q } (start ["self", "size", "begin", "over", "end", "rest", "number", "byte"] vs) H := by
  obtain ⟨B, L, x, dx, s, t, ns, v, g, rfl, hT, hs, hb, ht, hl, q, qe, qn⟩ := h
  have kB := kBitReader
  obtain ⟨hc, n1, n2⟩ := kBitReader
  unfold t_BitReader_take
  walk_at "go"
  refine ⟨v, g, rfl, hT, fun hk => ?_, qe⟩
  walk_at "go"
  refine ⟨B, L, x, dx, s, t, ns, rfl, hs, ?_⟩
  cases hT with
  | int i =>
    simp only [sizeOk, Bool.and_eq_true, decide_eq_true_eq] at hk
    obtain ⟨I, rfl⟩ := Int.eq_ofNat_of_zero_le hk.1
    have hI : I ≤ 24 := by omega
    have q := q I rfl hI
    have qn := qn I rfl hI
    walk_at "go"
    by_cases hlt : 8 * ns.length < t + I
    · refine i_t (decide_eq_true (by omega)) ?_
      walk_at "go"
      exact qn hlt
    refine i_f (decide_eq_false (by omega)) ?_
    have q := q (by omega)
    walk_at "go"
    have e1 : ((t : Nat) : Int) / 8 = ((t / 8 : Nat) : Int) := by omega
    have e2 : ((t : Nat) : Int) % 8 = ((t % 8 : Nat) : Int) := by omega
    have e3 : (((t : Nat) : Int) + ((I : Nat) : Int) + 8 - 1) / 8 = (((t + I + 7) / 8 : Nat) : Int) := by omega
    have e4 : (((t : Nat) : Int) + ((I : Nat) : Int) + 8 - 1) % 8 = (((t + I + 7) % 8 : Nat) : Int) := by omega
    refine c_divmod hs ⟨by decide, by decide⟩ fun p1 H1 h1 => ?_
    rw [e1, e2] at h1
    walk_at "go"
    refine c_divmod h1 ⟨by decide, by decide⟩ fun p2 H2 h2 => ?_
    rw [e3, e4] at h2
    have ht2 := h2.sqt (K := K) (.head _)
    have h3 := h2.drop.drop
    walk_at "go"
    rename_i p3 H3 h4
    rw [cutV_ints, sIx_at _ _ _ (by omega), sIx_at _ _ _ (by omega)] at h4
    have hcl : ((ns.drop (t / 8)).take ((t + I + 7) / 8 - t / 8)).length = (t + I + 7) / 8 - t / 8 := by rw [List.length_take, List.length_drop]; omega
    have hcb : bitsRow ((ns.drop (t / 8)).take ((t + I + 7) / 8 - t / 8)) = ((bitsRow ns).drop (8 * (t / 8))).take (8 * ((t + I + 7) / 8 - t / 8)) := by rw [bitsRow_take, bitsRow_drop]
    have hby : Bytes ((ns.drop (t / 8)).take ((t + I + 7) / 8 - t / 8)) := fun n hn => hb n (List.mem_of_mem_drop (List.mem_of_mem_take hn))
    generalize (ns.drop (t / 8)).take ((t + I + 7) / 8 - t / 8) = cs at *
    refine w_forL V.int cs (fun pre σ' L' B' => ∃ w, σ' = [some (.ref x), some (.int I), some (.int ((t / 8 : Nat) : Int)), some (.int ((t % 8 : Nat) : Int)), some (.int (((t + I + 7) / 8 : Nat) : Int)), some (.int (((t + I + 7) % 8 : Nat) : Int)), some (.int ((numOf (bitsRow pre) : Nat) : Int)), w] ∧
      B' = B ∧ L' = (p3, .lst (cs.map V.int)) :: (x, rdO K dx s t) :: (s, .lst (ns.map V.int)) :: L) h4 ⟨none, rfl, rfl, rfl⟩ ?_ ?_ ?_
    · rintro pre post σ' L' B' H' _ ⟨w, _, rfl, rfl⟩ h
      exact h.sql (.head _)
    · rintro pre n post σ' L' B' H' e ⟨w, rfl, rfl, rfl⟩ h
      walk_at "go"
      have hpl : pre.length < 5 := by
        have := congrArg List.length e
        simp at this
        omega
      refine c_shl ?_ ?_
      · refine ⟨by omega, by omega, ?_⟩
        have z1 := numOf_lt (bitsRow pre)
        rw [bitsRow_length] at z1
        have z2 := Nat.lt_of_lt_of_le z1 (Nat.pow_le_pow_right (by decide) (show 8 * pre.length ≤ 32 by omega))
        rw [Int.natAbs_natCast]
        exact Nat.lt_trans z2 (by decide)
      walk_at "go"
      have hn := hby n (by rw [e]; simp)
      obtain ⟨m, rfl⟩ := Int.eq_ofNat_of_zero_le hn.1
      have hm : m < 2 ^ 8 := by omega
      refine ⟨_, _, ⟨some (.int m), ?_, rfl, rfl⟩, h⟩
      rw [bitsRow_snoc, numOf_append, bitsOf_length, Int.toNat_natCast, numOf_small hm, show (8 : Int).toNat = 8 from rfl, join_nat hm]
      rfl
    · rintro σ' L' B' H' ⟨w, rfl, rfl, rfl⟩ h
      walk_at "go"
      have e5 : (8 : Int) * ((((t + I + 7) / 8 : Nat) : Int) - ((t / 8 : Nat) : Int)) - ((t % 8 : Nat) : Int) = (((8 * ((t + I + 7) / 8 - t / 8) - t % 8 : Nat)) : Int) := by omega
      rename_i H5 h5
      rw [e5, show (8 : Int) - 1 - (((t + I + 7) % 8 : Nat) : Int) = ((7 - (t + I + 7) % 8 : Nat) : Int) by omega]
      rw [Int.toNat_natCast, Int.toNat_natCast, mask_nat, shr_nat]
      have l1 : (bitsRow cs).length = 8 * ((t + I + 7) / 8 - t / 8) := by rw [bitsRow_length, hcl]
      have z1 := numOf_drop_mod (bitsRow cs) (t % 8)
      rw [l1] at z1
      rw [z1]
      have z2 := numOf_take_div ((bitsRow cs).drop (t % 8)) I
      rw [List.length_drop, l1, show 8 * ((t + I + 7) / 8 - t / 8) - t % 8 - I = 7 - (t + I + 7) % 8 by omega] at z2
      rw [z2]
      have z3 : ((bitsRow cs).drop (t % 8)).take I = ((bitsRow ns).drop t).take I := by
        rw [hcb, List.drop_take, List.drop_drop, List.take_take, show 8 * (t / 8) + t % 8 = t by omega, show min I (8 * ((t + I + 7) / 8 - t / 8) - t % 8) = I by omega]
      rw [z3]
      have e6 : ((t : Nat) : Int) + ((I : Nat) : Int) = ((t + I : Nat) : Int) := by omega
      rw [e6] at h5
      exact q H5 h5.drop
  | _ => cases hk
theorem use_take {B : Hp} {L : Pic} {x dx s : Addr} {t : Nat} {ns : List Int} (i : Nat) {j : Int} (e : j = ((i : Nat) : Int)) (h : Hs B ((x, rdO K dx s t) :: (s, .lst (ns.map V.int)) :: L) H) (hb : Bytes ns) (hl : ns.length ≤ 100000) (hi : i ≤ 24)
    (ht : t + i ≤ 8 * ns.length) (k : ∀ H', Hs B ((x, rdO K dx s (t + i)) :: (s, .lst (ns.map V.int)) :: L) H' → Q (.int ((takenNum ns t i : Nat) : Int)) H') : sp_BitReader_take K [.ref x, .int j] H Q E := by
  subst e
  refine ⟨B, L, x, dx, s, t, ns, _, _, rfl, .int _, h, hb, by omega, hl, fun i' e' _ _ => ?_, fun z => ?_, fun i' e' _ h2 => ?_⟩
  · cases Int.ofNat.inj (Tg.int.inj e')
    exact k
  · simp only [sizeOk, Bool.and_eq_false_iff, decide_eq_false_iff_not] at z
    omega
  · cases Int.ofNat.inj (Tg.int.inj e')
    omega
end L2.BR

namespace L2.BR
open PySem PySem.Spec PyProof.Rows L2.BP
variable {K : PySem.W.Frag} {W : WX} {vs : List V} {H : Hp} {Q : VK} {E : XK}
def sp_BitReader_place (K : PySem.W.Frag) : Sp := fun vs H Q _ => ∃ (B : Hp) (L : Pic) (x dx s : Addr) (t : Nat) (ns : List Int), vs = [.ref x] ∧ Hs B ((x, rdO K dx s t) :: (s, .lst (ns.map V.int)) :: L) H ∧ Q (.int ((t : Nat) : Int)) H
theorem len_BitReader_place (h : sp_BitReader_place K vs H Q E) : vs.length = 1 := by
  obtain ⟨B, L, x, dx, s, t, ns, rfl, _⟩ := h
  rfl
def t_BitReader_place (K : PySem.W.Frag) (W : WX) : TS :=
  (tRet (tFld K (tVar 0) "taken"))
theorem rd_BitReader_place (kBitReader : KBitReader K) (h : sp_BitReader_place K vs H Q E) : t_BitReader_place K W { nx := fun _ H' => Q .non H', rt := Q } (start ["self"] vs) H := by
  obtain ⟨B, L, x, dx, s, t, ns, rfl, hs, q⟩ := h
  obtain ⟨hc, n1, n2⟩ := kBitReader
  unfold t_BitReader_place
  walk_at "go"
  exact q
end L2.BR

namespace L2.BR
open PySem PySem.Spec PyProof.Rows L2.BP
variable {K : PySem.W.Frag} {W : WX} {vs : List V} {H : Hp} {Q : VK} {E : XK}
/-- whether a thing is a place of a row of so many bytes -/
def Tg.isPlace (n : Nat) : Tg → Bool
  | .int i => decide (0 ≤ i) && decide (i ≤ 8 * ((n : Nat) : Int))
  | _ => false
def sp_BitReader_go (K : PySem.W.Frag) : Sp := fun vs H Q E => ∃ (B : Hp) (L : Pic) (x dx s : Addr) (t : Nat) (ns : List Int) (v : V) (g : Tg), vs = [.ref x, v] ∧ Th K H v g ∧ Hs B ((x, rdO K dx s t) :: (s, .lst (ns.map V.int)) :: L) H ∧
  (∀ i : Nat, g = .int i → i ≤ 8 * ns.length → ∀ H', Hs B ((x, rdO K dx s i) :: (s, .lst (ns.map V.int)) :: L) H' → Q .non H') ∧
  (Tg.isPlace ns.length g = false → E (.ref (He.ga K "BadBits")) none H)
theorem len_BitReader_go (h : sp_BitReader_go K vs H Q E) : vs.length = 2 := by
  obtain ⟨B, L, x, dx, s, t, ns, v, g, rfl, _⟩ := h
  rfl
def t_BitReader_go (K : PySem.W.Frag) (W : WX) : TS :=
  (tSeq (tIfS ((tOr (tNot (tB (tCl (sp_is_number K) [] W (tCons (tVar 1) tNil)))) (tNot (tTest (tChain rLeU rLeU (tC (.int 0)) (tVar 1) (tOp rMulU (tC (.int 8)) (tCB (rLenK K) (tCons (tFld K (tVar 0) "source") tNil)))))))) (tRz (He.ga K "BadBits") W) tNext)
    (sFld K (tVar 0) (tVar 1) "taken"))
theorem rd_BitReader_go (kBitReader : KBitReader K) (h : sp_BitReader_go K vs H Q E) : t_BitReader_go K (fun c d _ H2 => E c d H2) { nx := fun _ H' => Q .non H', rt := Q } (start ["self", "place"] vs) H := by
  obtain ⟨B, L, x, dx, s, t, ns, v, g, rfl, hT, hs, q, qe⟩ := h
  obtain ⟨hc, n1, n2⟩ := kBitReader
  unfold t_BitReader_go
  walk_at "go"
  refine ⟨v, g, rfl, hT, ?_⟩
  cases hT with
  | int i =>
    simp only [Tg.isPlace] at qe
    walk_at "go"
    cases e : decide ((0 : Int) ≤ i) with
    | false =>
      rw [e] at qe
      walk_at "go"
      exact qe rfl
    | true =>
      rw [e] at qe
      obtain ⟨I, rfl⟩ := Int.eq_ofNat_of_zero_le (of_decide_eq_true e)
      walk_at "go"
      rw [List.length_map]
      by_cases c : I ≤ 8 * ns.length
      · rw [decide_eq_true (by omega : ((I : Nat) : Int) ≤ 8 * ((ns.length : Nat) : Int))]
        walk_at "go"
        rename_i H2 h2
        exact q I rfl c H2 h2
      · rw [decide_eq_false (by omega : ¬ ((I : Nat) : Int) ≤ 8 * ((ns.length : Nat) : Int))] at qe ⊢
        walk_at "go"
        exact qe rfl
  | non => walk_at "go"; exact qe rfl
  | bl b => walk_at "go"; exact qe rfl
  | str x => walk_at "go"; exact qe rfl
  | lst z => walk_at "go"; exact qe rfl
  | tup z => walk_at "go"; exact qe rfl
  | dic z => walk_at "go"; exact qe rfl
end L2.BR

namespace L2.BR
open PySem PySem.Spec PyProof.Rows L2.BP
/-! ### copies, pieces -/
/-- a piece -/
inductive Pc where
  | sign (n : Int)
  | copy (b s : Nat)
def Pc.ok : Pc → Prop
  | .sign n => 0 ≤ n ∧ n ≤ 255
  | .copy b s => 1 ≤ b ∧ b ≤ 255 ∧ 3 ≤ s ∧ s ≤ 18
/-! what pieces tell -/
def cpy (b : Nat) : Nat → List Int → List Int
  | 0, l => l
  | s + 1, l => cpy b s (l ++ [l.getD (l.length - b) 0])
def app (l : List Int) : Pc → List Int
  | .sign n => l ++ [n]
  | .copy b s => cpy b s l
/-! signs exchanged one for one -/
section
variable {f : Int → Int} (hf : ∀ a b, f a = f b → a = b)
include hf
end
end L2.BR

namespace L2.BR
open PySem PySem.Spec PyProof.Rows L2.BP
variable {K : PySem.W.Frag} {W : WX} {vs : List V} {H : Hp} {Q : VK} {E : XK}
/-! ### windows -/
def Tg.items : Tg → List V
  | .lst xs => xs
  | _ => []
end L2.BR

namespace L2.BR
open PySem PySem.Spec PyProof.Rows L2.BP
variable {K : PySem.W.Frag} {W : WX} {vs : List V} {H : Hp} {Q : VK} {E : XK}
end L2.BR

namespace L2.BR
open PySem PySem.Spec PyProof.Rows L2.BP
variable {K : PySem.W.Frag} {W : WX} {vs : List V} {H : Hp} {Q : VK} {E : XK}
end L2.BR

namespace L2.BR
open PySem PySem.Spec PyProof.Rows L2.BP
/-! ### tables of lengths -/
def Tab (ls : List Int) : Prop := ls.length = 272 ∧ ∀ x ∈ ls, 0 ≤ x ∧ x ≤ 6
/-- how many stand at the beginning that are x -/
def lead (x : Int) : List Int → Nat
  | [] => 0
  | y :: r => if y = x then lead x r + 1 else 0
theorem lead_cons (x y : Int) (r : List Int) : lead x (y :: r) = if y = x then lead x r + 1 else 0 := rfl
theorem lead_le (x : Int) : ∀ l, lead x l ≤ l.length
  | [] => Nat.le_refl _
  | y :: r => by
    have := lead_le x r
    unfold lead
    split <;> simp <;> omega
theorem lead_take (x : Int) : ∀ (l : List Int) (k : Nat), k ≤ lead x l → l.take k = List.replicate k x
  | _, 0, _ => by simp
  | [], k + 1, h => by simp [lead] at h
  | y :: r, k + 1, h => by
    unfold lead at h
    by_cases e : y = x
    · rw [if_pos e] at h
      rw [List.take_succ_cons, lead_take x r k (by omega), List.replicate_succ, e]
    · rw [if_neg e] at h
      omega
def more (x : Int) (l : List Int) : Nat := min 66 (lead x l)
/-- the bits of a table's rest, behind a length -/
def enc : Nat → Int → List Int → List Bool
  | 0, _, _ => []
  | _ + 1, _, [] => []
  | n + 1, last, x :: r => if 3 ≤ more last (x :: r) then bitsOf 7 3 ++ bitsOf (more last (x :: r) - 3) 6 ++ enc n last ((x :: r).drop (more last (x :: r))) else bitsOf x.toNat 3 ++ enc n x r
theorem enc_fuel : ∀ n m last l, l.length ≤ n → l.length ≤ m → enc n last l = enc m last l
  | 0, 0, _, _, _, _ => rfl
  | 0, m + 1, _, [], _, _ => rfl
  | n + 1, 0, _, [], _, _ => rfl
  | 0, m + 1, _, _ :: _, h, _ => by simp at h
  | n + 1, 0, _, _ :: _, _, h => by simp at h
  | n + 1, m + 1, _, [], _, _ => rfl
  | n + 1, m + 1, last, x :: r, h1, h2 => by
    rw [List.length_cons] at h1 h2
    unfold enc
    by_cases h3 : 3 ≤ more last (x :: r)
    · rw [if_pos h3, if_pos h3, enc_fuel n m last _ (by rw [List.length_drop, List.length_cons]; omega) (by rw [List.length_drop, List.length_cons]; omega)]
    · rw [if_neg h3, if_neg h3, enc_fuel n m x r (by omega) (by omega)]
def encT (last : Int) (l : List Int) : List Bool := enc l.length last l
theorem encT_nil (last : Int) : encT last [] = [] := rfl
theorem more_le (x : Int) (l : List Int) : more x l ≤ lead x l ∧ more x l ≤ l.length ∧ more x l ≤ 66 := by
  have := lead_le x l
  unfold more
  omega
theorem encT_more {last : Int} {l : List Int} (h : 3 ≤ more last l) : encT last l = bitsOf 7 3 ++ bitsOf (more last l - 3) 6 ++ encT last (l.drop (more last l)) := by
  cases l with
  | nil => simp [more, lead] at h
  | cons x r =>
    unfold encT
    rw [List.length_cons]
    conv => lhs; unfold enc
    rw [if_pos h]
    congr 1
    exact enc_fuel _ _ _ _ (by rw [List.length_drop, List.length_cons]; omega) (Nat.le_refl _)
theorem encT_one {last x : Int} {r : List Int} (h : ¬ 3 ≤ more last (x :: r)) : encT last (x :: r) = bitsOf x.toNat 3 ++ encT x r := by
  unfold encT
  rw [List.length_cons]
  conv => lhs; unfold enc
  rw [if_neg h]
/-! the fewest bits -/
def gC (m : Nat) : Nat := 9 * (m / 66) + (if m % 66 < 3 then 3 * (m % 66) else 9)
theorem drop_cons {ls : List Int} {p : Nat} (h : p < ls.length) : ls.drop p = ls.getD p 0 :: ls.drop (p + 1) := by
  rw [List.drop_eq_getElem_cons h, List.getD_eq_getElem?_getD, List.getElem?_eq_getElem h]
  rfl
theorem tab_at {ls : List Int} (h : Tab ls) {p : Nat} (hp : p < 272) : 0 ≤ ls.getD p 0 ∧ ls.getD p 0 ≤ 6 := by
  have hl : p < ls.length := by rw [h.1]; exact hp
  rw [List.getD_eq_getElem?_getD, List.getElem?_eq_getElem hl]
  exact h.2 _ (List.getElem_mem hl)
/-! items -/
inductive Ite where
  | more (k : Nat)
  | one (x : Int)
def itB : Ite → List Bool
  | .more k => bitsOf 7 3 ++ bitsOf (k - 3) 6
  | .one x => bitsOf x.toNat 3
def itsB (l : List Ite) : List Bool := l.flatMap itB
theorem itsB_cons (i : Ite) (r : List Ite) : itsB (i :: r) = itB i ++ itsB r := rfl
/-- items tell those lengths, behind a length -/
def Lays : Int → List Int → List Ite → Prop
  | _, ls, [] => ls = []
  | last, ls, .more k :: r => 3 ≤ k ∧ k ≤ 66 ∧ k ≤ lead last ls ∧ Lays last (ls.drop k) r
  | _, ls, .one x :: r => ∃ t, ls = x :: t ∧ Lays x t r
theorem enc_items : ∀ (n : Nat) (last : Int) (l : List Int), l.length ≤ n → ∃ its, Lays last l its ∧ itsB its = encT last l
  | _, last, [], _ => ⟨[], rfl, rfl⟩
  | 0, _, _ :: _, h => by simp at h
  | n + 1, last, x :: r, h => by
    rw [List.length_cons] at h
    by_cases h3 : 3 ≤ more last (x :: r)
    · have hm := more_le last (x :: r)
      obtain ⟨its, h1, h2⟩ := enc_items n last ((x :: r).drop (more last (x :: r))) (by rw [List.length_drop, List.length_cons]; omega)
      exact ⟨.more (more last (x :: r)) :: its, ⟨h3, hm.2.2, hm.1, h1⟩, by rw [itsB_cons, h2, encT_more h3]; rfl⟩
    · obtain ⟨its, h1, h2⟩ := enc_items n x r (by omega)
      exact ⟨.one x :: its, ⟨r, rfl, h1⟩, by rw [itsB_cons, h2, encT_one h3]; rfl⟩
end L2.BR

namespace L2.BR
open PySem PySem.Spec PyProof.Rows L2.BP
variable {K : PySem.W.Frag} {W : WX} {vs : List V} {H : Hp} {Q : VK} {E : XK}
/-! counts -/
def btwV (a b : Int) : V → Bool
  | .int i => decide (a ≤ i) && decide (i ≤ b)
  | _ => false
end L2.BR

namespace L2.BR
open PySem PySem.Spec PyProof.Rows L2.BP
/-! ### codes in order -/
/-! the law's own way: length by length -/
/-! no code begins another one -/
end L2.BR

namespace L2.BR
open PySem PySem.Spec PyProof.Rows L2.BP
variable {K : PySem.W.Frag} {W : WX} {vs : List V} {H : Hp} {Q : VK} {E : XK}
/-! ### lengths and codes -/
/-- codes, as they stand: a tuple of two numbers, or None -/
inductive CodV (K : PySem.W.Frag) (H : Hp) : List V → List (Option (Nat × Nat)) → Prop
  | nil : CodV K H [] []
  | no {vs : List V} {cs : List (Option (Nat × Nat))} : CodV K H vs cs → CodV K H (.non :: vs) (none :: cs)
  | one {t : Addr} {c l : Nat} {vs : List V} {cs : List (Option (Nat × Nat))} : SqT K H t [.int ((c : Nat) : Int), .int ((l : Nat) : Int)] → CodV K H vs cs → CodV K H (.ref t :: vs) (some (c, l) :: cs)
theorem CodV.same {H' : Hp} (s : Same H H') : ∀ {xs : List V} {cs : List (Option (Nat × Nat))}, CodV K H xs cs → CodV K H' xs cs
  | _, _, .nil => .nil
  | _, _, .no t => .no (t.same s)
  | _, _, .one h t => .one (same_sqt s h) (t.same s)
theorem CodV.length : ∀ {xs : List V} {cs : List (Option (Nat × Nat))}, CodV K H xs cs → xs.length = cs.length
  | _, _, .nil => rfl
  | _, _, .no t => by rw [List.length_cons, List.length_cons, t.length]
  | _, _, .one _ t => by rw [List.length_cons, List.length_cons, t.length]
theorem CodV.set {t : Addr} {c l : Nat} (h : SqT K H t [.int ((c : Nat) : Int), .int ((l : Nat) : Int)]) : ∀ {xs : List V} {cs : List (Option (Nat × Nat))} (p : Nat), CodV K H xs cs → CodV K H (xs.set p (.ref t)) (cs.set p (some (c, l)))
  | _, _, _, .nil => .nil
  | _, _, 0, .no u => .one h u
  | _, _, p + 1, .no u => .no (CodV.set h p u)
  | _, _, 0, .one _ u => .one h u
  | _, _, p + 1, .one g u => .one g (CodV.set h p u)
theorem CodV.none : ∀ n : Nat, CodV K H (List.replicate n V.non) (List.replicate n none)
  | 0 => .nil
  | n + 1 => .no (CodV.none n)
end L2.BR

namespace L2.BR
open PySem PySem.Spec PyProof.Rows L2.BP
variable {K : PySem.W.Frag} {W : WX} {vs : List V} {H : Hp} {Q : VK} {E : XK}
/-! ### a reader of codes -/
def kyT (l c : Nat) : List Key := [.inl ((l : Nat) : Int), .inl ((c : Nat) : Int)]
def findP (cs : List (Option (Nat × Nat))) (l c : Nat) : Option Nat := cs.findIdx? fun o => decide (o = some (c, l))
def begunO (s c : Nat) : Option (Nat × Nat) → Bool
  | some (c', l') => decide (1 ≤ s) && decide (s < l') && decide (c' / 2 ^ (l' - s) = c)
  | none => false
def begunP (cs : List (Option (Nat × Nat))) (s c : Nat) : Bool := cs.any (begunO s c)
def KnownOf (kvs : List (List Key × V)) (cs : List (Option (Nat × Nat))) : Prop := kvs.length ≤ cs.length ∧ ∀ l c : Nat, valV kvs (kyT l c) = (findP cs l c).map fun p => V.int ((p : Nat) : Int)
def BegunOf (bvs : List (List Key × V)) (cs : List (Option (Nat × Nat))) : Prop := bvs.length ≤ 12 * cs.length ∧ ∀ s c : Nat, (valV bvs (kyT s c)).isSome = begunP cs s c
/-- the object x reads these codes -/
def CRd (K : PySem.W.Frag) (B : Hp) (x : Addr) (cs : List (Option (Nat × Nat))) : Prop := ∃ (dx kd bd : Addr) (kvs bvs : List (List Key × V)), B x = some (.ins (He.ga K "CodeReader") dx [("known", .ref kd), ("begun", .ref bd)]) ∧ B kd = some (.dT kvs) ∧ B bd = some (.dT bvs) ∧ KnownOf kvs cs ∧ BegunOf bvs cs
theorem CRd.same {B B' : Hp} {x : Addr} {cs : List (Option (Nat × Nat))} (h : CRd K B x cs) (s : Same B B') : CRd K B' x cs := by
  obtain ⟨dx, kd, bd, kvs, bvs, a, b, c, d, e⟩ := h
  exact ⟨dx, kd, bd, kvs, bvs, s _ _ a, s _ _ b, s _ _ c, d, e⟩
theorem CodV.look : ∀ {pre : List V} {x : V} {post : List V} {cs : List (Option (Nat × Nat))}, CodV K H (pre ++ x :: post) cs → (x = .non ∧ cs[pre.length]? = some Option.none) ∨ ∃ (t : Addr) (c l : Nat), x = .ref t ∧ cs[pre.length]? = some (some (c, l)) ∧ SqT K H t [.int ((c : Nat) : Int), .int ((l : Nat) : Int)]
  | [], _, _, _, .no _ => .inl ⟨rfl, rfl⟩
  | [], _, _, _, .one h _ => .inr ⟨_, _, _, rfl, rfl, h⟩
  | _ :: _, _, _, _, .no t => t.look
  | _ :: _, _, _, _, .one _ t => t.look
end L2.BR

namespace L2.BR
open PySem PySem.Spec PyProof.Rows L2.BP
variable {K : PySem.W.Frag} {W : WX} {vs : List V} {H : Hp} {Q : VK} {E : XK}
/-! ### the next thing by its code -/
theorem go_back {B : Hp} {L : Pic} {r dr s : Addr} {t u : Nat} {ns : List Int} (h : Hs B ((r, rdO K dr s u) :: (s, .lst (ns.map V.int)) :: L) H) (ht : t ≤ 8 * ns.length) (k : ∀ H', Hs B ((r, rdO K dr s t) :: (s, .lst (ns.map V.int)) :: L) H' → Q .non H') : sp_BitReader_go K [.ref r, .int ((t : Nat) : Int)] H Q E := by
  refine ⟨B, L, r, dr, s, u, ns, _, .int ((t : Nat) : Int), rfl, .int _, h, fun i e hi H2 h2 => ?_, fun z => ?_⟩
  · obtain rfl : t = i := by
      injection e with e
      omega
    exact k H2 h2
  · simp only [Tg.isPlace, Bool.and_eq_false_iff, decide_eq_false_iff_not] at z
    omega
end L2.BR

namespace L2.BR
open PySem PySem.Spec PyProof.Rows L2.BP
variable {K : PySem.W.Frag} {W : WX} {vs : List V} {H : Hp} {Q : VK} {E : XK}
/-! ### texts of noughts and ones -/
end L2.BR

namespace L2.BR
open PySem PySem.Spec PyProof.Rows L2.BP
/-! ### codes as texts -/
end L2.BR

namespace L2.BR
open PySem PySem.Spec PyProof.Rows L2.BP
/-! ### bundles -/
abbrev Bun := Int × List Int
def sortB (l : List Bun) : List Bun := l.mergeSort fun a b => decide (a.1 ≤ b.1)
def byTwos : List Bun → List Bun
  | a :: b :: r => (a.1 + b.1, a.2 ++ b.2) :: byTwos r
  | _ => []
def singlesOf (ns : List Int) : List Bun := sortB ((ns.zipIdx.filter fun p => decide (0 < p.1)).map fun p => (p.1, [((p.2 : Nat) : Int)]))
def rowsB (s : List Bun) : Nat → List Bun
  | 0 => s
  | d + 1 => sortB (s ++ byTwos (rowsB s d))
def addAt (ls ps : List Int) : List Int := ps.foldl (fun l p => l.set p.toNat (l.getD p.toNat 0 + 1)) ls
def lenOf (ns : List Int) (most : Nat) : List Int :=
  if (singlesOf ns).length = 1 then (List.replicate ns.length 0).set (((singlesOf ns).getD 0 (0, [])).2.getD 0 0).toNat 1
  else addAt (List.replicate ns.length 0) (((rowsB (singlesOf ns) (most - 1)).take (2 * (singlesOf ns).length - 2)).flatMap (·.2))
/-! how many places stand in a row, which places -/
end L2.BR

namespace L2.BR
open PySem PySem.Spec PyProof.Rows L2.BP
variable {K : PySem.W.Frag} {W : WX} {vs : List V} {H : Hp} {Q : VK} {E : XK}
def posV : V → Bool
  | .int i => decide (0 < i)
  | _ => false
def countsOk : Tg → Tg → Bool
  | .lst xs, .int m => decide (1 ≤ xs.length) && decide (xs.length ≤ 300) && xs.all (btwV 0 1000000) && (decide (1 ≤ m) && decide (m ≤ 12)) && (decide (1 ≤ (xs.filter posV).length) && decide ((xs.filter posV).length ≤ 2 ^ m.toNat))
  | _, _ => false
/-! bundles as they stand -/
def Buns (K : PySem.W.Frag) (B : Hp) (xs : List V) (bs : List Bun) : Prop := Paired (fun x b => ∃ t l, x = V.ref t ∧ SqT K B t [.int b.1, .ref l] ∧ B l = some (.lst (b.2.map V.int))) xs bs
theorem Paired.imp {α β : Type} {R S : α → β → Prop} (f : ∀ a b, R a b → S a b) : ∀ {l : List α} {m : List β}, Paired R l m → Paired S l m
  | _, _, .nil => .nil
  | _, _, .cons h t => .cons (f _ _ h) (Paired.imp f t)
theorem Buns.same {B B' : Hp} {xs : List V} {bs : List Bun} (h : Buns K B xs bs) (s : Same B B') : Buns K B' xs bs := Paired.imp (fun x b ⟨t, l, e, h1, h2⟩ => ⟨t, l, e, same_sqt s h1, s _ _ h2⟩) h
theorem Paired.app {α β : Type} {R : α → β → Prop} : ∀ {l l' : List α} {m m' : List β}, Paired R l m → Paired R l' m' → Paired R (l ++ l') (m ++ m')
  | _, _, _, _, .nil, h => h
  | _, _, _, _, .cons e t, h => .cons e (Paired.app t h)
theorem Buns.at {B : Hp} {xs : List V} {bs : List Bun} {i : Nat} {b : Bun} (h : Buns K B xs bs) (hb : bs[i]? = some b) : ∃ t l, xs[i]? = some (V.ref t) ∧ SqT K B t [.int b.1, .ref l] ∧ B l = some (.lst (b.2.map V.int)) := by
  induction h generalizing i with
  | nil => simp at hb
  | cons e t ih =>
    cases i with
    | zero =>
      simp at hb
      subst hb
      obtain ⟨t, l, rfl, h1, h2⟩ := e
      exact ⟨t, l, rfl, h1, h2⟩
    | succ i => exact ih (by simpa using hb)
def sp_lengths_of (K : PySem.W.Frag) : Sp := fun vs H Q E => ∃ (v w : V) (g k : Tg), vs = [v, w] ∧ Th K H v g ∧ Th K H w k ∧ Tg.ok K H g ∧
  (∀ (ns : List Int) (m : Nat), g = .lst (ns.map V.int) → k = .int m → countsOk g k = true → RetL H Q ((lenOf ns m).map V.int)) ∧
  (countsOk g k = false → ∀ H', Same H H' → E (.ref (He.ga K "BadShares")) none H')
end L2.BR

namespace L2.BR
/-! ### the row of bundles costs least -/
/-! ### what a choice of lengths costs, level by level -/
/-! ### the rows with the level of each single -/
abbrev TBun := Int × List (Nat × Nat)
def un (b : TBun) : Bun := (b.1, b.2.map fun p => ((p.1 : Nat) : Int))
end L2.BR

namespace L2.BR
/-! ### all rows of lengths -/
end L2.BR

namespace L2.BR
/-! ### the law's own least cost -/
def addedO : Option Int → Option Int → Option Int
  | some a, some b => some (a + b)
  | _, _ => none
def lessO : Option Int → Option Int → Option Int
  | none, b => b
  | some a, some b => if b < a then some b else some a
  | some a, none => some a
def dp0 (l : List Int) (f : Nat) : Option Int := if l.length ≤ f then some 0 else none
def dp (N : Nat) : Nat → List Int → Nat → Option Int
  | 0, l, f => dp0 l f
  | _ + 1, [], _ => some 0
  | _ + 1, _ :: _, 0 => none
  | D + 1, c :: r, f + 1 => lessO (dp N (D + 1) r f) (addedO (some (c :: r).sum) (dp N D (c :: r) (min (2 * (f + 1)) N)))
termination_by D l => (D, l.length)
/-! ### lengths in order, none longer than there are things -/
/-! ### the law's least is the told lengths' cost -/
/-! ### alike counts -/
/-! ### what the law sums up -/
end L2.BR

namespace L2.BR
open PySem PySem.Spec PyProof.Rows L2.BP
/-! ### pieces as things -/
def thingP : Pc → Nat
  | .sign n => n.toNat
  | .copy _ s => 253 + s
end L2.BR

namespace L2.BR
open PySem PySem.Spec PyProof.Rows L2.BP
variable {K : PySem.W.Frag} {W : WX} {vs : List V} {H : Hp} {Q : VK} {E : XK}
/-! ### the share way -/
theorem CodV.get : ∀ {xs : List V} {cs : List (Option (Nat × Nat))} {i c l : Nat}, CodV K H xs cs → cs[i]? = some (some (c, l)) → ∃ t, xs[i]? = some (V.ref t) ∧ SqT K H t [.int ((c : Nat) : Int), .int ((l : Nat) : Int)]
  | _, _, _, _, _, .nil, h => by simp at h
  | _, _, 0, _, _, .no _, h => by simp at h
  | _, _, i + 1, _, _, .no t, h => t.get (by simpa using h)
  | _, _, 0, _, _, .one e _, h => by
    simp at h
    obtain ⟨rfl, rfl⟩ := h
    exact ⟨_, rfl, e⟩
  | _, _, i + 1, _, _, .one _ t, h => t.get (by simpa using h)
theorem enc_few : ∀ (n : Nat) (last : Int) (l : List Int), l.length ≤ n → (encT last l).length ≤ 9 * l.length
  | _, last, [], _ => by rw [encT_nil]; exact Nat.zero_le _
  | 0, _, x :: r, h => by simp at h
  | n + 1, last, x :: r, h => by
    rw [List.length_cons] at h
    by_cases c : 3 ≤ more last (x :: r)
    · have ih := enc_few n last ((x :: r).drop (more last (x :: r))) (by rw [List.length_drop, List.length_cons]; omega)
      rw [List.length_drop, List.length_cons] at ih
      rw [encT_more c, List.length_append, List.length_append, bitsOf_length, bitsOf_length, List.length_cons]
      omega
    · have ih := enc_few n x r (by omega)
      rw [encT_one c, List.length_append, bitsOf_length, List.length_cons]
      omega
theorem encT_few {ls : List Int} (h : Tab ls) : (encT 0 ls).length ≤ 2448 := by
  have z := enc_few 272 0 ls (by rw [h.1]; exact Nat.le_refl _)
  rw [h.1] at z
  exact z
/-- lengths_of of good counts -/
theorem call_len {B : Hp} {L : Pic} {a : Addr} {us : List Int} {m : Nat} (hs : Hs B L H) (h : SqL K H a (us.map V.int)) (hl : us.length ≤ 300) (ok : countsOk (.lst (us.map V.int)) (.int ((m : Nat) : Int)) = true) (k : ∀ p H', Hs B ((p, .lst ((lenOf us m).map V.int)) :: L) H' → Q (.ref p) H') :
    sp_lengths_of K [.ref a, .int ((m : Nat) : Int)] H Q E := by
  refine ⟨_, _, .lst (us.map V.int), .int ((m : Nat) : Int), rfl, .lst h, .int _, ok_ints (by omega), fun us2 m2 e1 e2 _ => ?_, fun z => ?_⟩
  · obtain rfl : us = us2 := map_int_inj (Tg.lst.inj e1)
    obtain rfl : m = m2 := by
      injection e2 with e2
      omega
    exact retL hs k
  · rw [ok] at z
    cases z
end L2.BR

namespace L2.BR
open PySem PySem.Spec PyProof.Rows L2.BP
variable {K : PySem.W.Frag} {W : WX} {vs : List V} {H : Hp} {Q : VK} {E : XK}
/-- each of these pieces has a code -/
def Has (cs : List (Option (Nat × Nat))) (ps : List Pc) : Prop := ∀ c ∈ ps, ∃ x l : Nat, cs[thingP c]? = some (some (x, l))
theorem _root_.L2.BP.Hs.b4 {B : Hp} {L : Pic} {a b c d : Addr × HO} (h : Hs B (a :: b :: c :: d :: L) H) : Hs B (a :: d :: b :: c :: L) H := h.perm (.cons a ((List.Perm.cons b (.swap d c L)).trans (.swap d b (c :: L))))
theorem Has.tail {cs : List (Option (Nat × Nat))} {c : Pc} {r : List Pc} (h : Has cs (c :: r)) : Has cs r := fun d hd => h d (.tail _ hd)
end L2.BR

namespace L2.BR
open PySem PySem.Spec PyProof.Rows L2.BP
/-! ### runs -/
def rn (ts : List Int) : Nat → Nat → Nat → List (Nat × Int)
  | 0, _, _ => []
  | m + 1, p, b => if ts[p]? = ts[b]? then rn ts m (p + 1) b else (p - b, ts.getD b 0) :: rn ts m (p + 1) p
def runs (ts : List Int) : List (Nat × Int) := rn ts ts.length 1 0
end L2.BR

namespace L2.BR
open PySem PySem.Spec PyProof.Rows L2.BP
variable {K : PySem.W.Frag} {W : WX} {vs : List V} {H : Hp} {Q : VK} {E : XK}
/-! ### the raw way, the run way -/
end L2.BR

namespace L2.BR
open PySem PySem.Spec PyProof.Rows L2.BP
variable {K : PySem.W.Frag} {W : WX} {vs : List V} {H : Hp} {Q : VK} {E : XK}
/-! ### the copy way -/
end L2.BR

namespace L2.BR
open PySem PySem.Spec PyProof.Rows L2.BP
/-! ### what reading tells, of any bits -/
/-- the next so many bits as a number -/
abbrev nxt (k : Nat) (bs : List Bool) : Nat := numOf (bs.take k)
theorem nxt_of {v k : Nat} (h : v < 2 ^ k) (r : List Bool) : nxt k (bitsOf v k ++ r) = v ∧ (bitsOf v k ++ r).drop k = r ∧ k ≤ (bitsOf v k ++ r).length := by
  refine ⟨?_, ?_, by rw [List.length_append, bitsOf_length]; omega⟩
  · unfold nxt
    rw [List.take_append_of_le_length (by rw [bitsOf_length]; omega), List.take_of_length_le (by rw [bitsOf_length]; omega), numOf_small h]
  · rw [List.drop_append_of_le_length (by rw [bitsOf_length]; omega), List.drop_of_length_le (by rw [bitsOf_length]; omega), List.nil_append]
/-- the lengths that items tell, and what is left -/
def tabR : Nat → List Int → Int → List Bool → Option (List Int × List Bool)
  | 0, f, _, bs => some (f, bs)
  | k + 1, f, last, bs => if f.length < 272 then (if bs.length < 3 then none else if nxt 3 bs = 7 then (if (bs.drop 3).length < 6 then none else tabR k (f ++ List.replicate (nxt 6 (bs.drop 3) + 3) last) last ((bs.drop 3).drop 6))
      else tabR k (f ++ [((nxt 3 bs : Nat) : Int)]) ((nxt 3 bs : Nat) : Int) (bs.drop 3)) else some (f, bs)
/-! raw, runs -/
/-! pieces -/
/-! tables, codes -/
theorem tab_items {tail : List Bool} {ls : List Int} (hT : Tab ls) : ∀ (its : List Ite) (k p : Nat) (last : Int), p ≤ 272 → Lays last (ls.drop p) its → 272 - p ≤ k → tabR k (ls.take p) last (itsB its ++ tail) = some (ls, tail)
  | [], k, p, last, hp, hL, hk => by
    have h272 := hT.1
    have z := congrArg List.length (show ls.drop p = [] from hL)
    rw [List.length_drop, List.length_nil] at z
    have e : ls.take p = ls := List.take_of_length_le (by omega)
    rw [e]
    cases k with
    | zero => rfl
    | succ k =>
      show (if _ then _ else _) = _
      rw [if_neg (by omega)]
      rfl
  | .more m :: r, k, p, last, hp, hL, hk => by
    have h272 := hT.1
    obtain ⟨hk1, hk2, hk3, hL2⟩ := hL
    have hkl := lead_le last (ls.drop p)
    rw [List.length_drop] at hkl
    rw [List.drop_drop] at hL2
    cases k with
    | zero => omega
    | succ k =>
      rw [itsB_cons, show itB (.more m) = bitsOf 7 3 ++ bitsOf (m - 3) 6 from rfl, List.append_assoc, List.append_assoc]
      obtain ⟨a1, b1, c1⟩ := nxt_of (v := 7) (k := 3) (by decide) (bitsOf (m - 3) 6 ++ (itsB r ++ tail))
      obtain ⟨a2, b2, c2⟩ := nxt_of (v := m - 3) (k := 6) (by show _ < 64; omega) (itsB r ++ tail)
      show (if _ then _ else _) = _
      have hl : (ls.take p).length = p := by rw [List.length_take]; omega
      rw [if_pos (by omega), if_neg (by omega), a1, if_pos rfl, b1, if_neg (by omega), a2, b2, show m - 3 + 3 = m by omega]
      have e1 : ls.take p ++ List.replicate m last = ls.take (p + m) := by rw [List.take_add, lead_take last _ _ hk3]
      rw [e1]
      exact tab_items hT r k (p + m) last (by omega) hL2 (by omega)
  | .one y :: r, k, p, last, hp, hL, hk => by
    have h272 := hT.1
    obtain ⟨t, et, hL2⟩ := hL
    have hp2 : p < 272 := by
      have z := congrArg List.length et
      rw [List.length_drop, List.length_cons] at z
      omega
    have hx := tab_at hT hp2
    have ed := drop_cons (ls := ls) (p := p) (by omega)
    rw [ed] at et
    injection et with ey etl
    subst ey etl
    cases k with
    | zero => omega
    | succ k =>
      rw [itsB_cons, show itB (.one (ls.getD p 0)) = bitsOf (ls.getD p 0).toNat 3 from rfl, List.append_assoc]
      obtain ⟨a1, b1, c1⟩ := nxt_of (v := (ls.getD p 0).toNat) (k := 3) (by show _ < 8; omega) (itsB r ++ tail)
      show (if _ then _ else _) = _
      have hl : (ls.take p).length = p := by rw [List.length_take]; omega
      rw [if_pos (by omega), if_neg (by omega), a1, if_neg (by omega), b1, show (((ls.getD p 0).toNat : Nat) : Int) = ls.getD p 0 by omega]
      have e1 : ls.take p ++ [ls.getD p 0] = ls.take (p + 1) := by
        rw [List.take_add_one, List.getElem?_eq_getElem (by omega), List.getD_eq_getElem?_getD, List.getElem?_eq_getElem (by omega)]
        rfl
      rw [e1]
      exact tab_items hT r k (p + 1) _ (by omega) hL2 (by omega)
theorem tab_good {ls : List Int} {its : List Ite} {tail : List Bool} (hT : Tab ls) (hL : Lays 0 ls its) : tabR 272 [] 0 (itsB its ++ tail) = some (ls, tail) := tab_items hT its 272 0 0 (by decide) (by rw [List.drop_zero]; exact hL) (by decide)
theorem tab_len : ∀ (k : Nat) (f : List Int) (last : Int) (bs : List Bool) (ls : List Int) (r : List Bool), tabR k f last bs = some (ls, r) → 272 ≤ f.length + k → 272 ≤ ls.length
  | 0, f, last, bs, ls, r, h, hk => by
    cases h
    omega
  | k + 1, f, last, bs, ls, r, h, hk => by
    have h : (if f.length < 272 then _ else _) = some (ls, r) := h
    by_cases c : f.length < 272
    · rw [if_pos c] at h
      split at h
      · cases h
      · split at h
        · split at h
          · cases h
          · exact tab_len k _ _ _ _ _ h (by rw [List.length_append, List.length_replicate]; omega)
        · exact tab_len k _ _ _ _ _ h (by rw [List.length_append, List.length_singleton]; omega)
    · rw [if_neg c] at h
      cases h
      omega
end L2.BR

--I HandS.SuiteRaise
namespace L2M
open PySem PySem.Spec PyProof.Rows L2 HotX L2H
/-! ### exceptions whose contexts come to an end -/
/-- the value is the first of the pairs (or None); each one's context is the next, the last one's None -/
def Link : Value → List (Addr × Obj) → Prop
  | c, [] => c = .none
  | c, q :: r => c = .ref q.1 ∧ ∃ (vs : Array Value) (c' : Value), q.2.data = .fields vs ∧ vs[2]? = some c' ∧ Link c' r
theorem Link.later {o : Addr × Obj} {r : List (Addr × Obj)} : ∀ {pre : List (Addr × Obj)} {c : Value}, Link c (pre ++ o :: r) → Link (.ref o.1) (o :: r)
  | [], c, h => by
    obtain ⟨e, z⟩ := h
    exact ⟨rfl, z⟩
  | p :: pre, c, h => by
    obtain ⟨_, _, _, _, _, z⟩ := h
    exact Link.later (pre := pre) z
section
variable {prog : Program} {w : World}
theorem unch {R : Result → Shared → Prop} {s : Shared} {a : Addr} (q : R (.ok (.ret .none)) s) : ∀ (r : List (Addr × Obj)) (A : Around) (o sl : Addr × Obj) (pre m : List (Addr × Obj)) (tg : Bool), Link (.ref sl.1) (sl :: m) → sl :: m = pre ++ (o :: r) → (∀ p ∈ sl :: m, s.heap.get? p.1 = some p.2) → (∀ p ∈ r, p.1 ≠ a) →
    codeAny (model prog w) A (.builtin "proto.unchain" ⟨[.ref a, .ref o.1, .ref sl.1, .bool tg], []⟩) R s := by
  intro r
  induction r with
  | nil =>
    intro A o sl pre m tg hl he hg hn
    have ho := hg o (by rw [he]; exact List.mem_append_right _ (.head _))
    rw [he] at hl
    obtain ⟨_, vs, c', hd, h2, hc⟩ := hl.later
    cases hc
    refine codeAny_builtin entry_unchain ?_
    unfold Builtin.«proto.unchain»
    dsimp only
    refine wpAny_bind (wpAny_field ho hd h2 ?_)
    rw [if_pos (show (Value.none == Value.none) = true from rfl)]
    exact wpAny_pure q
  | cons x r ih =>
    intro A o sl pre m tg hl he hg hn
    have ho := hg o (by rw [he]; exact List.mem_append_right _ (.head _))
    have hxa := hn x (.head _)
    obtain ⟨_, vs, c', hd, h2, hc⟩ := (he ▸ hl).later
    obtain ⟨rfl, _⟩ := id hc
    refine codeAny_builtin entry_unchain ?_
    unfold Builtin.«proto.unchain»
    dsimp only
    refine wpAny_bind (wpAny_field ho hd h2 ?_)
    rw [if_neg (by exact Bool.false_ne_true), if_neg (fun z => hxa (Value.ref.inj (beq_iff_eq.mp z)))]
    by_cases hs : (Value.ref x.1 == Value.ref sl.1) = true
    · rw [if_pos hs]
      exact wpAny_bind (wpAny_rule (wpAny_pure q))
    · rw [if_neg hs]
      cases tg with
      | false =>
        rw [if_neg Bool.false_ne_true]
        refine wpAny_bind (wpAny_pure (wpAny_pure ⟨by kernel_rfl, ?_⟩))
        exact ih A x sl (pre ++ [o]) m _ hl (by rw [he, List.append_assoc]; rfl) hg fun p hp => hn p (.tail _ hp)
      | true =>
        rw [if_pos rfl]
        obtain ⟨_, ws, c2, hd2, h22, hc2⟩ := id hl
        have hsl := hg sl (.head _)
        refine wpAny_bind (wpAny_field hsl hd2 h22 (wpAny_pure ⟨by kernel_rfl, ?_⟩))
        cases m with
        | nil =>
          exfalso
          have := congrArg List.length he
          simp at this
          omega
        | cons y m =>
          obtain ⟨rfl, _⟩ := id hc2
          obtain ⟨pre2, he2⟩ : ∃ pre2, y :: m = pre2 ++ x :: r := by
            cases pre with
            | nil =>
              injection he with _ z
              exact ⟨[], z⟩
            | cons p pre =>
              injection he with _ z
              exact ⟨pre ++ [o], by rw [z, List.append_assoc]; rfl⟩
          exact ih A x y pre2 m _ hc2 he2 (fun p hp => hg p (.tail _ hp)) fun p hp => hn p (.tail _ hp)
/-- the exception that is handled, with its contexts, as they stand -/
def HotAt (A : Around) (q : Addr × Obj) (ps : List (Addr × Obj)) (h : Heap) : Prop := A.handled = some (.ref q.1) ∧ Link (.ref q.1) (q :: ps) ∧ ∀ p ∈ q :: ps, h.get? p.1 = some p.2
theorem HotAt.keeps {A : Around} {q : Addr × Obj} {ps : List (Addr × Obj)} {h h' : Heap} (x : HotAt A q ps h) (k : ∀ b o, (∃ p ∈ q :: ps, b = p.1) → h.get? b = some o → h'.get? b = some o) : HotAt A q ps h' := ⟨x.1, x.2.1, fun p hp => k _ _ ⟨p, hp, rfl⟩ (x.2.2 p hp)⟩
variable {A : Around} {E : Value → Shared → Prop} {s : Shared} {q : Addr × Obj} {ps : List (Addr × Obj)}
theorem raiseNewM {α : Type} {a : Addr} {oe : Obj} {vs : Array Value} {Q : α → Shared → Prop} (hot : HotAt A q ps s.heap) (hne : ∀ p ∈ q :: ps, p.1 ≠ a) (ha : s.heap.get? a = some oe) (da : oe.data = .fields vs) (hi : 2 < vs.size)
    (hE : E (.ref a) { s with heap := s.heap.update a (Obj.mapFields (·.setIfInBounds 2 (.ref q.1))) }) : wpAny (model prog w) A (raiseNew (.ref a) : Sem α) Q E s := by
  obtain ⟨hh, lk, there⟩ := hot
  have hb : (Value.ref q.1 != Value.ref a) = true := bne_iff_ne.mpr fun z => hne q (.head _) (Value.ref.inj z)
  have un : ∀ {Q : Value → Shared → Prop}, Q .none s → wpAny (model prog w) A (holding [Value.ref a] (runValue (.builtin "proto.unchain" ⟨[.ref a, .ref q.1, .ref q.1, .bool false], []⟩))) Q E s := fun {Q} z =>
    wpAny_holding (wpAny_runValue (unch z ps A q q [] ps false lk rfl there fun p hp => hne p (.tail _ hp)))
  unfold raiseNew
  apply wpAny_bind
  apply wpAny_handled
  rw [hh]
  dsimp only
  first
  | (rw [if_pos hb]
     first
     | exact wpAny_bind (un (wpAny_bind (chained ha da hi (wpAny_throw hE))))
     | exact wpAny_bind (wpAny_bind (un (chained ha da hi (wpAny_throw hE)))))
  | (apply wpAny_bind
     rw [if_pos hb]
     exact wpAny_bind (un (chained ha da hi (wpAny_throw hE))))
/-- a new exception raised in a suite -/
theorem raiseMadeM {env : Env} {x : Sem Value} {Q : Flow → Shared → Prop}
    (h : wpAny (model prog w) A x (fun v s₁ => ∃ a oe vs cls, v = .ref a ∧ s₁.heap.get? a = some oe ∧ oe.cls = cls ∧ oe.data = .fields vs ∧ vs[1]? = some .none ∧ 2 < vs.size ∧ (∀ p ∈ q :: ps, p.1 ≠ a) ∧ HotAt A q ps s₁.heap ∧
      PySem.W.Looks (model prog w) s₁.heap (isSubtype cls (.type "BaseException")) true ∧ PySem.W.Looks (model prog w) s₁.heap (typeOf cls) (.type "type") ∧ E (.ref a) { s₁ with heap := s₁.heap.update a (Obj.mapFields (·.setIfInBounds 2 (.ref q.1))) }) E s) :
    wpAny (model prog w) A (raiseStmt env (some x) none) Q E s := by
  unfold raiseStmt
  dsimp only
  apply wpAny_bind
  refine wpAny_mono h (fun v s1 hv => ?_) fun _ _ z => z
  obtain ⟨a, oe, vs, cls, rfl, ea, ec, ed, e1, hi, hne, hot, sub, ty, out⟩ := hv
  have look : PySem.W.Looks (model prog w) s1.heap (typeOf (.ref a)) cls := fun A Q E s k z => wpAny_typeOf_ref (k _ _ ea) (by rw [ec]; exact z)
  have isE : PySem.W.Looks (model prog w) s1.heap (isInstance (.ref a) (.type "BaseException")) true := look.andThen sub
  have noT : ∀ {Q' : Bool → Shared → Prop}, Q' false s1 → wpAny (model prog w) A (isType (.ref a)) Q' E s1 := by
    intro Q' z
    simp only [isType, loadHead]
    apply wpAny_bind
    apply wpAny_loadPart ea
    rw [ed]
    exact wpAny_pure z
  apply wpAny_bind
  apply wpAny_pure
  dsimp only
  apply wpAny_bind
  apply wpAny_holding
  unfold excFromValue isExcClass
  apply wpAny_bind
  apply wpAny_bind
  apply noT
  simp only [Bool.false_eq_true, if_false]
  apply wpAny_pure
  simp only [Bool.false_eq_true, if_false]
  apply wpAny_bind
  apply isE.here
  simp only [if_true]
  apply wpAny_pure
  apply wpAny_bind
  apply noT
  simp only [Bool.false_eq_true, if_false]
  unfold raisedInstance
  apply wpAny_bind
  refine wpAny_bind (look.here (wpAny_bind (ty.here ?_)))
  rw [if_pos (beq_self_eq_true _)]
  apply wpAny_pure
  unfold setFlight
  apply wpAny_bind
  apply wpAny_bind
  apply wpAny_field ea ed e1
  rw [if_neg (by exact Bool.false_ne_true)]
  apply wpAny_pure
  exact raiseNewM hot hne ea ed hi out
end

/-! ### in the air -/
/-- what is kept of such an exception: class, dict, and that its contexts come to an end, out of what is tracked -/
def Zm (G : Heap) (H : Hp) (cls : Value) (d : Option Addr) : Obj → Prop := fun o => (o.cls = cls ∧ o.dict = d) ∧ ∀ vs : Array Value, o.data = .fields vs → ∃ (c : Value) (ps : List (Addr × Obj)), vs[2]? = some c ∧ Link c ps ∧ ∀ p ∈ ps, G.get? p.1 = some p.2 ∧ H p.1 = none
theorem Zm.steady {G : Heap} {H : Hp} {cls : Value} {d : Option Addr} : PXN.Steady1 (Zm G H cls d) := by
  rintro ⟨oc, od, dt, sl⟩ v ⟨⟨h1, h2⟩, h3⟩
  refine ⟨⟨PXN.steady_cls _ v h1, PXN.steady_dict _ v h2⟩, ?_⟩
  cases dt with
  | fields ws =>
    intro vs e
    obtain ⟨c, ps, z, more⟩ := h3 ws rfl
    have e2 : ws.setIfInBounds 1 v = vs := Data.fields.inj e
    refine ⟨c, ps, ?_, more⟩
    rw [← e2, ← z]
    first
    | exact Array.getElem?_setIfInBounds_ne (by decide)
    | simp [Array.getElem?_setIfInBounds]
  | _ =>
    intro vs e
    first
    | exact Data.noConfusion e
    | cases e
theorem Zm.alone {G : Heap} {H : Hp} {cls : Value} {d : Option Addr} {o : Obj} (z : L2N.Zn cls d o) : Zm G H cls d o := ⟨⟨z.1, z.2.1⟩, fun vs e => ⟨.none, [], z.2.2 vs e, rfl, fun _ y => nomatch y⟩⟩
def Air (X : Cx) (W : WX) (u : Value) (now : Shared) : Prop :=
  ∃ (e : Addr) (G : Heap) (was : Shared) (pins : List (Addr × Obj)) (σ : L2.St) (H : Hp) (cls : Value) (d : Option Addr), u = .ref e ∧ Inv X pins σ H was ∧ W cls d σ H ∧ H e = none ∧ (now.os = was.os ∧ AllBare now.gens) ∧
    ((∀ b o, was.heap.get? b = some o → b ∉ frs X.stack → G.get? b = some o) ∧ was.heap.UpToSlots now.heap) ∧ Sky G X.stack e (Zm G H cls d) X.env.locals now.heap
def Takes (X : Cx) (W : WX) : Prop := ∀ u now, Air X W u now → X.xe u now
/-- just let out by a call -/
def AirF (X : Cx) (W : WX) (u : Value) (now : Shared) : Prop :=
  ∃ (e : Addr) (G : Heap) (was : Shared) (pins : List (Addr × Obj)) (σ : L2.St) (H : Hp) (cls : Value) (d : Option Addr), u = .ref e ∧ Inv X pins σ H was ∧ W cls d σ H ∧ H e = none ∧ (now.os = was.os ∧ AllBare now.gens) ∧
    ((∀ b o, was.heap.get? b = some o → b ∉ frs X.stack → G.get? b = some o) ∧ was.heap.UpToSlots now.heap) ∧ HandSPX.FlyingZ G X.stack e (Zm G H cls d) now.heap
theorem takes0 {X : Cx} : Takes X (fun _ _ _ _ => False) := fun _ _ x => by
  obtain ⟨_, _, _, _, _, _, _, _, _, _, z, _⟩ := x
  exact z.elim
/-- behind a call that let it out -/
def CX (P : Program) (w : World) (outer : List Env) (H : Hp) (s : Shared) (E : XK) (u : Value) (now : Shared) : Prop :=
  ∃ (e : Addr) (G : Heap) (H' : Hp) (cls : Value) (d : Option Addr), u = .ref e ∧ E cls d H' ∧ H' e = none ∧ (now.os = s.os ∧ AllBare now.gens) ∧ (HOk P w H' G ∧ UB (frs outer) H H' s.heap G now.heap) ∧ HandSPX.FlyingZ G outer e (Zm G H' cls d) now.heap
section
variable {X : Cx} {pins : List (Addr × Obj)} {σ : L2.St} {H : Hp} {was s now : Shared} {G : Heap} {W : WX} {E : XK}
/-- a call's is ours -/
theorem AirF.call (I : Inv X pins σ H s) (hW : ∀ cls d H', E cls d H' → W cls d σ H') {u : Value} (c : CX X.prog X.w X.stack H s E u now) : AirF X W u now := by
  obtain ⟨e, G, H', cls, d, rfl, out, na, ⟨os, ag⟩, ⟨hok, ub⟩, fl⟩ := c
  have stay := fl.1
  obtain ⟨R, r1, r2⟩ := restrict now.heap fun b => (G.get? b).isSome || decide (b ∈ frs X.stack)
  have inR : ∀ b o, R.get? b = some o → now.heap.get? b = some o ∧ ((G.get? b).isSome = true ∨ b ∈ frs X.stack) := by
    intro b o z
    by_cases y : ((G.get? b).isSome || decide (b ∈ frs X.stack)) = true
    · rw [r1 b y] at z
      refine ⟨z, ?_⟩
      simpa [Bool.or_eq_true] using y
    · rw [r2 b (by simpa using y)] at z
      cases z
  have ofG : ∀ b o, G.get? b = some o → R.get? b = some o := by
    intro b o z
    rw [r1 b (by rw [z]; rfl)]
    exact stay b o z
  have ofF : ∀ b, b ∈ frs X.stack → R.get? b = now.heap.get? b := fun b z => r1 b (by rw [decide_eq_true z, Bool.or_true])
  refine ⟨e, G, { s with heap := R, gens := now.gens, drawn := now.drawn, toks := now.toks }, pins, σ, H', cls, d, rfl, ?_, hW _ _ _ out, na, ⟨os, ag⟩, ⟨fun b o z nf => ?_, Heap.UpToSlots.of_keeps fun b o z => (inR b o z).1⟩, fl⟩
  · refine I.call (ch := []) ⟨fun b o z n nf _ => ofG b o (ub.keep b o z n nf), fun b o z _ yf _ => ?_, fun b o z n _ => ub.free b o z n, fun b o z _ => ?_, ub.tups, ub.frzs, ub.tbls⟩ (hok.kept ofG) ag (fun _ z => nomatch z)
    · obtain ⟨sl, y⟩ := ub.slot b o z yf
      exact ⟨sl, (ofF b yf).trans y⟩
    · by_cases yf : b ∈ frs X.stack
      · obtain ⟨sl, y⟩ := ub.slot b o z yf
        exact ⟨_, (ofF b yf).trans y⟩
      · obtain ⟨o', y⟩ := ub.there b o z yf
        exact ⟨o', ofG b o' y⟩
  · obtain ⟨y, y2⟩ := inR b o z
    have y2 := y2.resolve_right nf
    obtain ⟨o', y3⟩ := Option.isSome_iff_exists.mp y2
    have y4 := stay b o' y3
    rw [y] at y4
    cases y4
    exact y3
theorem AirF.air {u : Value} (x : AirF X W u now) : Air X W u now := by
  obtain ⟨e, G, was, pins, σ, H, cls, d, z1, z2, z3, z4, z5, z6, z7⟩ := x
  exact ⟨e, G, was, pins, σ, H, cls, d, z1, z2, z3, z4, z5, z6, .inr (.inl z7)⟩
theorem Air.call (I : Inv X pins σ H s) (hW : ∀ cls d H', E cls d H' → W cls d σ H') {u : Value} (c : CX X.prog X.w X.stack H s E u now) : Air X W u now := (AirF.call I hW c).air
/-- a new one is -/
theorem Air.new {e : Addr} {oe : Obj} {vs : Array Value} {cls : Value} {d : Option Addr} (I : Inv X pins σ H was) (keep : ∀ b o, was.heap.get? b = some o → now.heap.get? b = some o) (fresh : was.heap.get? e = none) (there : now.heap.get? e = some oe)
    (hz : Zm (PySem.W.hideAll was.heap (frs X.stack)) H cls d oe) (hd : oe.data = .fields vs) (tb : vs[1]? = some .none) (na : H e = none) (os : now.os = was.os) (ag : AllBare now.gens) (w : W cls d σ H) : Air X W (.ref e) now := by
  have none_ : (PySem.W.hideAll was.heap (frs X.stack)).get? e = none := by
    cases z : (PySem.W.hideAll was.heap (frs X.stack)).get? e with
    | none => rfl
    | some o =>
      rw [PySem.W.of_hideAll _ z] at fresh
      cases fresh
  refine ⟨e, PySem.W.hideAll was.heap (frs X.stack), was, pins, σ, H, cls, d, rfl, I, w, na, ⟨os, ag⟩, ⟨fun b o z nf => PySem.W.hideAll_get _ z nf, Heap.UpToSlots.of_keeps keep⟩, .inl ⟨fun b o z => keep b o (PySem.W.of_hideAll _ z), none_, ?_, oe, vs, there, hz, hd, tb⟩⟩
  refine Heap.FunFrames.of_keeps (fun b o z _ => ⟨o, keep b o z, rfl⟩) ?_
  exact funFrames_none I.stack fun b z => PySem.W.hideAll_none _ z
/-- it leaves the def -/
theorem Air.leave (stk : X.stack = X.env :: X.outer) (loc : X.env.frame = some X.env.locals) (noex : X.ex = []) {E₁ : Value → Shared → Prop} {u : Value} (x : Air X (fun c d _ H => E c d H) u now) :
    wpAny (model X.prog X.w) X.A (leaving X.env u) (fun _ s2 => CX X.prog X.w X.outer X.H_0 X.s_0 E u s2) E₁ now := by
  obtain ⟨e, G, was, pins, σ, H, cls, d, rfl, I, w, na, ⟨os, ag⟩, ⟨nb, up⟩, sky⟩ := x
  have frames : X.A.frames = some (X.env :: X.outer) := I.ok.frames.trans (congrArg some stk)
  have free_ : ∀ b, b ∉ X.ex := by
    intro b z
    rw [noex] at z
    cases z
  have old : ∀ b o, X.s_0.heap.get? b = some o → b ∉ X.fs → b ∉ frs X.stack := by
    intro b o z nf y
    rcases List.mem_cons.mp (I.stkSub b y) with y | y
    · have l1 := Heap.lt_size z
      rw [y] at l1
      exact Nat.lt_irrefl _ (Nat.lt_of_lt_of_le l1 I.ok.above)
    · exact nf y
  have ground := I.inGround nb
  have done : ∀ h2, HandSPX.FlyingZ G X.outer e (Zm G H cls d) h2 → now.heap.UpToSlots h2 → CX X.prog X.w X.outer X.H_0 X.s_0 E (.ref e) { now with heap := h2 } := by
    intro h2 fl up2
    refine ⟨e, G, H, cls, d, rfl, w, na, ⟨os.trans I.os, ag⟩, ⟨ground, ⟨fun b o z n nf => nb b o (I.base.keep b o z n nf (free_ b)) (old b o z nf), fun b o z yf => ?_, fun b o z n => I.base.free b o z n (free_ b), fun b o z nf => ?_, I.base.tups, I.base.frzs, I.base.tbls⟩⟩, fl⟩
    · obtain ⟨_, o0, z0, notf⟩ := I.ok.funs.mem yf
      rw [z] at z0
      cases z0
      obtain ⟨l1, y1⟩ := I.base.slot b o z (I.ok.frf b yf) yf (free_ b)
      obtain ⟨l2, y2⟩ := up b _ y1 notf
      obtain ⟨l3, y3⟩ := up2 b _ y2 notf
      exact ⟨l3, y3⟩
    · obtain ⟨o', y⟩ := I.base.there b o z (free_ b)
      exact ⟨o', nb b o' y (old b o z nf)⟩
  rw [stk] at sky
  rcases sky with ⟨z1, z2, z3, oe, vs, z4, z5, z6, z7⟩ | z | z
  · exact PXN.leaving_firstZ Zm.steady frames z3 loc z4 z1 z2 z6 z7 z5 done
  · exact PXN.leaves_onZ Zm.steady frames loc z done
  · exact HandSPX.leaves_heldZ loc z done
theorem takes_of (stk : X.stack = X.env :: X.outer) (loc : X.env.frame = some X.env.locals) (noex : X.ex = []) {E₁ : Value → Shared → Prop}
    (hx : X.xe = fun u now => wpAny (model X.prog X.w) X.A (leaving X.env u) (fun _ s2 => CX X.prog X.w X.outer X.H_0 X.s_0 E u s2) E₁ now) : Takes X (fun c d _ H => E c d H) := fun u now x => by
  rw [hx]
  exact Air.leave stk loc noex x
end
theorem passAt {X : Cx} {W : WX} (tk : Takes X W) (σ : L2.St) : PassesAt (L2M.CX X.prog X.w) X σ (WE W σ) := fun _ _ _ u now I c => tk u now (Air.call I (fun _ _ _ z => z) c)

/-! ### raised -/
/-- the context bears the handled exception and its contexts -/
def HotM (X : Cx) : Prop := ∃ (q : Addr × Obj) (ps : List (Addr × Obj)), X.A.handled = some (.ref q.1) ∧ Link (.ref q.1) (q :: ps) ∧ ∀ p ∈ q :: ps, p ∈ X.pn
theorem raise_calm {X : Cx} {W : WX} {e : Expr} {t : L2.St → Hp → XK → Prop} {pos : Pos} (hc : X.calm = true) (tk : Takes X W) (he : L2N.PMk X e t) : PS X (.Raise (some e) none pos) (fun _ σ H => t σ H fun cls d H' => W cls d σ H') := by
  constructor
  intro pins s σ H D I h
  change wpAny _ _ (do standAt pos; raiseStmt X.env (some (do let v ← eval e X.env; standAt pos; pure v)) none) _ _ _
  apply wpAny_bind
  apply wpAny_standAt
  apply raise_made (I.ok.hd hc)
  apply wpAny_bind
  refine wpAny_mono (he pins s σ H _ I h) (fun u s1 hu => ?_) fun _ _ z => z
  apply wpAny_bind
  apply wpAny_standAt
  apply wpAny_pure
  obtain ⟨a, oe, vs, was, H', cls, d, rfl, J, keep, fresh, there, hz, hd, tb, na, os, ag, may, q⟩ := hu
  obtain ⟨m1, m2⟩ := may (model X.prog X.w) s1.heap (J.kIn.keeps keep)
  exact ⟨a, oe, vs, cls, rfl, there, hz.1, hd, tb, m1, m2, tk _ _ (Air.new J keep fresh there (Zm.alone hz) hd tb na os ag q)⟩
section
variable {X : Cx} {pins : List (Addr × Obj)} {σ : L2.St} {H : Hp} {s : Shared}
theorem pin_off (I : Inv X pins σ H s) {p : Addr × Obj} (hp : p ∈ X.pn) : s.heap.get? p.1 = some p.2 ∧ H p.1 = none ∧ p.1 ∉ frs X.stack := by
  obtain ⟨z1, z2, z3, z4, _⟩ := I.pin p (List.mem_append_left _ hp)
  refine ⟨z1, z2, fun y => ?_⟩
  rcases List.mem_cons.mp (I.stkSub _ y) with y | y
  · exact z3 y
  · exact z4 y
theorem raise_hot {W : WX} {e : Expr} {t : L2.St → Hp → XK → Prop} {pos : Pos} (hc : HotM X) (tk : Takes X W) (he : L2N.PMk X e t) : PS X (.Raise (some e) none pos) (fun _ σ H => t σ H fun cls d H' => W cls d σ H') := by
  constructor
  intro pins s σ H D I h
  obtain ⟨q, ps, held, lk, mem⟩ := hc
  change wpAny _ _ (do standAt pos; raiseStmt X.env (some (do let v ← eval e X.env; standAt pos; pure v)) none) _ _ _
  apply wpAny_bind
  apply wpAny_standAt
  refine raiseMadeM (q := q) (ps := ps) ?_
  apply wpAny_bind
  refine wpAny_mono (he pins s σ H _ I h) (fun u s1 hu => ?_) fun _ _ z => z
  apply wpAny_bind
  apply wpAny_standAt
  apply wpAny_pure
  obtain ⟨a, oe, vs, was, H', cls, d, rfl, J, keep, fresh, there, hz, hd, tb, na, os, ag, may, want⟩ := hu
  obtain ⟨m1, m2⟩ := may (model X.prog X.w) s1.heap (J.kIn.keeps keep)
  have at_ : ∀ p ∈ q :: ps, was.heap.get? p.1 = some p.2 ∧ H' p.1 = none ∧ p.1 ∉ frs X.stack := fun p hp => pin_off J (mem p hp)
  have ne : ∀ p ∈ q :: ps, p.1 ≠ a := by
    intro p hp z
    have y := (at_ p hp).1
    rw [z, fresh] at y
    cases y
  have big : 2 < vs.size := (Array.getElem?_eq_some_iff.mp (hz.2.2 vs hd)).1
  have tb2 : (vs.setIfInBounds 2 (Value.ref q.1))[1]? = some Value.none := by
    rw [← tb]
    first
    | exact Array.getElem?_setIfInBounds_ne (by decide)
    | simp [Array.getElem?_setIfInBounds]
  have ctx2 : (vs.setIfInBounds 2 (Value.ref q.1))[2]? = some (Value.ref q.1) := by
    first
    | exact Array.getElem?_setIfInBounds_self_of_lt big
    | simp [Array.getElem?_setIfInBounds, big]
  have hd2 := Obj.data_mapFields hd (·.setIfInBounds 2 (Value.ref q.1))
  refine ⟨a, oe, vs, cls, rfl, there, hz.1, hd, tb, big, ne, ⟨held, lk, fun p hp => keep _ _ (at_ p hp).1⟩, m1, m2, tk _ _ ?_⟩
  refine Air.new J (fun b u z => ?_) fresh (Heap.get?_update_self _ there (Obj.isFreed_of_fields hd2)) ⟨⟨(Obj.cls_mapFields ..).trans hz.1, (HandSPX.dict_mapFields ..).trans hz.2.1⟩, fun ws e2 => ?_⟩ hd2 tb2 na os ag want
  · have nab : a ≠ b := by
      rintro rfl
      rw [fresh] at z
      cases z
    change (s1.heap.update a (Obj.mapFields (·.setIfInBounds 2 (.ref q.1)))).get? b = some u
    rw [Heap.get?_update_other _ _ nab]
    exact keep b u z
  · have e3 := hd2.symm.trans e2
    cases e3
    exact ⟨_, q :: ps, ctx2, lk, fun p hp => ⟨PySem.W.hideAll_get _ (at_ p hp).1 (at_ p hp).2.2, (at_ p hp).2.1⟩⟩
/-! ### caught -/
/-- more is pinned in a suite: the exception and its contexts -/
theorem into (I : Inv X pins σ H s) (a : Addr) {ps : List (Addr × Obj)} (all : ∀ p ∈ ps, s.heap.get? p.1 = some p.2 ∧ H p.1 = none ∧ (∃ vs, p.2.data = .fields vs) ∧ p.1 ∉ frs (X.env :: X.outer)) (loc : X.env.frame = some X.env.locals) :
    Inv (X.suite a (ps ++ (X.pn ++ pins))) [] σ H s where
  ok := I.ok.suite _ _
  os := I.os
  bare := I.bare
  base := I.base
  loc := I.loc
  cell := I.cell
  free := I.free
  freeC := I.freeC
  pin := by
    intro p hp
    rw [List.append_nil] at hp
    rcases List.mem_append.mp hp with z | z
    · obtain ⟨g1, g2, ⟨vs, g3⟩, g4⟩ := all p z
      refine ⟨g1, g2, fun y => ?_, fun y => ?_, fun v y => ?_⟩
      · exact g4 (List.mem_filterMap.mpr ⟨X.env, .head _, by rw [loc, y]⟩)
      · obtain ⟨e, m, y2⟩ := List.mem_filterMap.mp y
        exact g4 (List.mem_filterMap.mpr ⟨e, .tail _ m, y2⟩)
      · rw [g3] at y
        cases y
    · exact I.pin p z
  hok := I.hok
  len := I.len
theorem outof {a : Addr} {ps pn' : List (Addr × Obj)} (I : Inv (X.suite a (ps ++ (X.pn ++ pins))) pn' σ H s) (ok : X.Ok) : Inv X pins σ H s where
  ok := ok
  os := I.os
  bare := I.bare
  base := I.base
  loc := I.loc
  cell := I.cell
  free := I.free
  freeC := I.freeC
  pin := fun p hp => I.pin p (List.mem_append_left _ (List.mem_append_right _ hp))
  hok := I.hok
  len := I.len
theorem off_frames {B h : Heap} {l : List Env} {a : Addr} {o : Obj} {vs : Array Value} (ff : h.FunFrames B l) (e : h.get? a = some o) (d : o.data = .fields vs) : a ∉ frs l := by
  intro z
  obtain ⟨_, o2, e2, notf⟩ := ff.mem z
  rw [e] at e2
  cases e2
  exact notf vs d
/-- an exception of a try's body, noted, at the clauses -/
theorem landed {xe : Value → Shared → Prop} {W : WX} {u : Value} {now : Shared} {E₁ : Value → Shared → Prop} {Q : Shared → Prop} (stk : X.stack = X.env :: X.outer) (loc : X.env.frame = some X.env.locals) (ok : X.Ok) (x : Air (X.tr (X.pn ++ pins) xe) W u now)
    (k : ∀ (a : Addr) (G h3 : Heap) (σ : L2.St) (H : Hp) (cls : Value) (d : Option Addr), u = .ref a → W cls d σ H → H a = none → HandSPX.FlyingZ G (X.env :: X.outer) a (Zm G H cls d) h3 →
      (∀ h4, G.StaysIn h4 → h3.UpToSlots h4 → Inv X pins σ H { now with heap := h4 }) → (∀ (W2 : WX) h4, W2 cls d σ H → h3.UpToSlots h4 → Sky G X.stack a (Zm G H cls d) X.env.locals h4 → Air X W2 (.ref a) { now with heap := h4 }) → Q { now with heap := h3 }) :
    wpAny (model X.prog X.w) X.A (noteFrame u X.env) (fun _ s2 => wpAny (model X.prog X.w) X.A (setFlight u none) (fun _ s3 => Q s3) E₁ s2) E₁ now := by
  obtain ⟨a, G, was, pins', σ', H', cls, d, rfl, J', w, na, ⟨os, ag⟩, ⟨nb, up⟩, sky⟩ := x
  have J : Inv X pins σ' H' was := J'.ofTry ok
  have frames : X.A.frames = some (X.env :: X.outer) := ok.frames.trans (congrArg some stk)
  have sky2 : Sky G (X.env :: X.outer) a (Zm G H' cls d) X.env.locals now.heap := stk ▸ sky
  refine L2N.Sky.land Zm.steady frames loc sky2 fun h3 fl3 up3 => k a G h3 σ' H' cls d rfl w na fl3 (fun h4 st up4 => ?_) fun W2 h4 w2 up4 sk => ?_
  · exact J.landed nb st ((up.trans up3).trans up4) os ag
  · exact ⟨a, G, was, pins, σ', H', cls, d, rfl, J, w2, na, ⟨os, ag⟩, ⟨nb, (up.trans up3).trans up4⟩, sk⟩
/-- what flies, pinned with its contexts -/
theorem chain {G h : Heap} {a : Addr} {H : Hp} {cls : Value} {d : Option Addr} {l : List Env} (fl : HandSPX.FlyingZ G l a (Zm G H cls d) h) (na : H a = none) : ∃ (oe : Obj) (ps : List (Addr × Obj)), h.get? a = some oe ∧ Zc cls d oe ∧ (∃ vs, oe.data = .fields vs) ∧ Link (.ref a) ((a, oe) :: ps) ∧
    ∀ p ∈ (a, oe) :: ps, h.get? p.1 = some p.2 ∧ H p.1 = none ∧ (∃ vs, p.2.data = .fields vs) ∧ p.1 ∉ frs l := by
  obtain ⟨st, _, ff, oe, vs, T, oT, ts, e1, z, e2, _⟩ := fl
  obtain ⟨c, ps, e3, lk, all⟩ := z.2 vs e2
  have fld : ∀ {c : Value} {ps : List (Addr × Obj)}, Link c ps → ∀ p ∈ ps, ∃ vs, p.2.data = .fields vs := by
    intro c ps
    induction ps generalizing c with
    | nil => exact fun _ _ y => nomatch y
    | cons q r ih =>
      rintro ⟨_, ws, c2, y1, _, y3⟩ p hp
      rcases List.mem_cons.mp hp with rfl | hp
      · exact ⟨ws, y1⟩
      · exact ih y3 p hp
  refine ⟨oe, ps, e1, z.1, ⟨vs, e2⟩, ⟨rfl, vs, c, e2, e3, lk⟩, fun p hp => ?_⟩
  rcases List.mem_cons.mp hp with rfl | hp
  · exact ⟨e1, na, ⟨vs, e2⟩, off_frames ff e1 e2⟩
  · obtain ⟨ws, y⟩ := fld lk p hp
    have y2 := st _ _ (all p hp).1
    exact ⟨y2, (all p hp).2, ⟨ws, y⟩, off_frames ff y2 y⟩
/-- no clause is left: it flies on -/
theorem fly_on {now : Shared} {h3 : Heap} {G : Heap} {a : Addr} {cls : Value} {d : Option Addr} {W : WX} {D : Ends} {l : List (Addr × Obj)} (loc : X.env.frame = some X.env.locals) (stk : X.stack = X.env :: X.outer) (tk : Takes X W)
    (fl : HandSPX.FlyingZ G (X.env :: X.outer) a (Zm G H cls d) h3) (k : ∀ h4, h3.UpToSlots h4 → Sky G X.stack a (Zm G H cls d) X.env.locals h4 → Air X W (.ref a) { now with heap := h4 }) :
    wpAny (model X.prog X.w) X.A (handleBy (.ref a) X.env []) (SP X l D) X.xe { now with heap := h3 } := by
  apply wpAny_handleBy_nil
  obtain ⟨_, _, _, oe, vs, T, oT, ts, e1, _, e2, tb, _⟩ := id fl
  unfold PySem.passOn
  apply wpAny_bind
  apply wpAny_field e1 e2 tb
  rw [if_neg (by exact Bool.false_ne_true)]
  have out : wpAny (model X.prog X.w) X.A (setFlight (.ref a) X.env.frame) (fun _ s2 => wpAny (model X.prog X.w) X.A (throw (.ref a) : Sem Flow) (SP X l D) X.xe s2) X.xe { now with heap := h3 } := by
    rw [loc]
    refine HandSPX.setFlight_upZ fl fun h4 hh up => ?_
    exact wpAny_throw (tk _ _ (k h4 up (.inr (.inr (stk ▸ hh)))))
  first
  | exact wpAny_bind (wpAny_pure (wpAny_bind out))
  | exact wpAny_bind out
end

/-! ### try -/
section
variable {X : Cx} {x n : Str} {c : Value} {i : Nat} {body suite orelse : List Stmt} {b₀ : Stmt} {np pos pos' : Pos} {tb : WX → TS} {ts : Addr → Value → Option Addr → TS} {u : TS} {Wout : WX}
/-- the clause's class, looked at -/
theorem test_ok {pins : List (Addr × Obj)} {σ : L2.St} {H : Hp} {s : Shared} {a : Addr} {ps : List (Addr × Obj)} (I : Inv (X.suite a (ps ++ (X.pn ++ pins))) [] σ H s) (hc : Names X x c) {Q : Value → Shared → Prop} {E : Value → Shared → Prop} (q : Q c s) :
    wpAny (model X.prog X.w) (X.A.mark (some (.ref a))) (eval (.Name x np) X.env) Q E s := by
  obtain ⟨g, nd, z | ⟨z, bt, nn⟩⟩ := hc
  · exact ld_glob I g z q nd
  · exact ld_blt I g z bt q nn nd
/-- try: .. except c: suite, else: ..; the suite may raise -/
def tTryE (K : PySem.W.Frag) (c : Value) (tb : WX → TS) (ts : Addr → Value → Option Addr → TS) (u : TS) (W : WX) : TS := fun D σ H => tb (wOnly K c ts W D) { D with nx := u D } σ H
theorem ps_tryE (stk : X.stack = X.env :: X.outer) (loc : X.env.frame = some X.env.locals) (hc : Names X x c) (hpa : ∀ hd : Option Value, PassesOwnAt (model X.prog X.w) (X.A.mark hd) X.A X.env X.xe) (tk : Takes X Wout)
    (hb : ∀ (W : WX) (pn : List (Addr × Obj)) (xe : Value → Shared → Prop), Takes (X.tr pn xe) W → PassesOwn (model X.prog X.w) X.A X.env xe → PSs (X.tr pn xe) body (tb W))
    (hsu : ∀ (a : Addr) (cls : Value) (d : Option Addr) (pn : List (Addr × Obj)), HotM (suiteX X a pn) → Takes (suiteX X a pn) Wout → PSs (suiteX X a pn) (b₀ :: suite) (ts a cls d))
    (ho : PSs X orelse u) : PS X (.Try body [.ExceptHandler (some (.Name x np)) none (b₀ :: suite) pos'] orelse [] pos) (tTryE X.K c tb ts u Wout) := by
  constructor
  intro pins s σ H D I want
  have ok := I.ok
  apply wpAny_Try_except
  refine wpAny_mono ((hb (wOnly X.K c ts Wout D) (X.pn ++ pins) (fun v s1 => wpAny (model X.prog X.w) X.A (noteFrame v X.env) (fun _ s2 => wpAny (model X.prog X.w) X.A (setFlight v none) (fun _ s3 =>
    wpAny (model X.prog X.w) X.A (handleBy v X.env [.ExceptHandler (some (.Name x np)) none (b₀ :: suite) pos']) (SP X pins D) X.xe s3) X.xe s2) X.xe s1) (fun v now air => ?_) PassesOwn.looking).run [] s σ H { D with nx := u D } (I.toTry _) want) (fun f s1 got => ?_) fun _ _ z => z
  · refine landed stk loc ok air fun a G h3 σ1 H1 cls d hv w na fl inv again => ?_
    subst hv
    obtain ⟨b, hb1, yes, no⟩ := w
    obtain ⟨oe, ps, e1, hz, _, lk, all⟩ := chain fl na
    have J3 := inv h3 fl.1 (Heap.UpToSlots.refl _)
    have S3 := into J3 a (ps := (a, oe) :: ps) all loc
    apply wpAny_handleBy_cons ?_ (by intro z; cases z)
    apply codeAny_handlers_test
    refine test_ok S3 hc ?_
    have look : PySem.W.Looks (model X.prog X.w) h3 (typeOf (.ref a)) cls := fun A Q E s k q => wpAny_typeOf_ref (k _ _ e1) (by rw [hz.1]; exact q)
    refine (PySem.W.exm_one (M := model X.prog X.w) J3.kIn look hb1).here ?_
    cases b with
    | false => exact fly_on loc stk tk fl fun h4 up4 sk => again Wout h4 (no rfl) up4 sk
    | true =>
      apply codeAny_handlers_suite
      refine HandSPX.lands_againZ fl fun h4 fl4 up4 => ?_
      obtain ⟨oe4, ps4, f1, fz, _, lk4, all4⟩ := chain fl4 na
      have S4 := into (inv h4 fl4.1 up4) a (ps := (a, oe4) :: ps4) all4 loc
      have T4 : Takes (suiteX X a (((a, oe4) :: ps4) ++ (X.pn ++ pins))) Wout := by
        rintro v2 s2 ⟨a2, G2, was2, pn2, σ2, H2, c2, d2, r1, r2, r3, r4, r5, r6, r7⟩
        exact tk v2 s2 ⟨a2, G2, was2, pins, σ2, H2, c2, d2, r1, outof (ps := (a, oe4) :: ps4) (r2.wish fun _ _ => False) ok, r3, r4, r5, r6, r7⟩
      have hot : HotM (suiteX X a (((a, oe4) :: ps4) ++ (X.pn ++ pins))) := ⟨(a, oe4), ps4, rfl, lk4, fun p hp => List.mem_append_left _ hp⟩
      have S5 : Inv (suiteX X a (((a, oe4) :: ps4) ++ (X.pn ++ pins))) [] σ1 H1 { now with heap := h4 } := suiteX_of S4
      refine wpAny_mono ((hsu a cls d _ hot T4).run [] _ _ H1 _ S5 (yes rfl a na)) (fun f s6 got => ?_) fun v6 s6 z => hpa (some (.ref a)) v6 s6 z
      have back : ∀ {σ6 : L2.St} {H6 : Hp}, Inv (suiteX X a (((a, oe4) :: ps4) ++ (X.pn ++ pins))) [] σ6 H6 s6 → Inv X pins σ6 H6 s6 := fun z => outof (ps := (a, oe4) :: ps4) (z.wish fun _ _ => False) ok
      cases f with
      | ret v => exact got.elim fun r z => z.elim fun σ6 z => z.elim fun H6 z => ⟨r, σ6, H6, back z.1, z.2⟩
      | next => exact got.elim fun σ6 z => z.elim fun H6 z => ⟨σ6, H6, back z.1, z.2⟩
      | brk => exact got.elim fun σ6 z => z.elim fun H6 z => ⟨σ6, H6, back z.1, z.2⟩
      | cont => exact got.elim fun σ6 z => z.elim fun H6 z => ⟨σ6, H6, back z.1, z.2⟩
  · cases f with
    | ret v => exact got.elim fun r z => z.elim fun σ6 z => z.elim fun H6 z => ⟨r, σ6, H6, z.1.ofTry ok, z.2⟩
    | brk => exact got.elim fun σ6 z => z.elim fun H6 z => ⟨σ6, H6, z.1.ofTry ok, z.2⟩
    | cont => exact got.elim fun σ6 z => z.elim fun H6 z => ⟨σ6, H6, z.1.ofTry ok, z.2⟩
    | next => exact got.elim fun σ6 z => z.elim fun H6 z => ho.run pins s1 σ6 H6 D (z.1.ofTry ok) z.2
/-- try: .. except c as n: suite; the suite raises nothing -/
theorem ps_tryAs (stk : X.stack = X.env :: X.outer) (loc : X.env.frame = some X.env.locals) (hN : X.N.Nodup) (hi : X.N[i]? = some n) (hl : X.env.kindOf n = some .local) (hc : Names X x c) (tk : Takes X Wout)
    (hb : ∀ (W : WX) (pn : List (Addr × Obj)) (xe : Value → Shared → Prop), Takes (X.tr pn xe) W → PassesOwn (model X.prog X.w) X.A X.env xe → PSs (X.tr pn xe) body (tb W))
    (hsu : ∀ (a : Addr) (oe : Obj) (cls : Value) (d : Option Addr) (ps pn : List (Addr × Obj)), (Zc cls d oe ∧ Link (.ref a) ((a, oe) :: ps) ∧ ∀ p ∈ (a, oe) :: ps, p ∈ pn) → (∃ vs, oe.data = .fields vs) → PSs (X.suite a pn) (b₀ :: suite) (ts a cls d)) :
    PS X (.Try body [.ExceptHandler (some (.Name x np)) (some n) (b₀ :: suite) pos'] [] [] pos) (L2.BP.tTryAs X.K c i tb ts Wout) := by
  constructor
  intro pins s σ H D I want
  have ok := I.ok
  apply wpAny_Try_except
  refine wpAny_mono ((hb (wAs X.K c i ts Wout D) (X.pn ++ pins) (fun v s1 => wpAny (model X.prog X.w) X.A (noteFrame v X.env) (fun _ s2 => wpAny (model X.prog X.w) X.A (setFlight v none) (fun _ s3 =>
    wpAny (model X.prog X.w) X.A (handleBy v X.env [.ExceptHandler (some (.Name x np)) (some n) (b₀ :: suite) pos']) (SP X pins D) X.xe s3) X.xe s2) X.xe s1) (fun v now air => ?_) PassesOwn.looking).run [] s σ H D (I.toTry _) want) (fun f s1 got => ?_) fun _ _ z => z
  · refine landed stk loc ok air fun a G h3 σ1 H1 cls d hv w na fl inv again => ?_
    subst hv
    obtain ⟨b, hb1, yes, no⟩ := w
    obtain ⟨oe, ps, e1, hz, _, lk, all⟩ := chain fl na
    have J3 := inv h3 fl.1 (Heap.UpToSlots.refl _)
    have S3 := into J3 a (ps := (a, oe) :: ps) all loc
    apply wpAny_handleBy_cons ?_ (by intro z; cases z)
    apply codeAny_handlers_test
    refine test_ok S3 hc ?_
    have look : PySem.W.Looks (model X.prog X.w) h3 (typeOf (.ref a)) cls := fun A Q E s k q => wpAny_typeOf_ref (k _ _ e1) (by rw [hz.1]; exact q)
    refine (PySem.W.exm_one (M := model X.prog X.w) J3.kIn look hb1).here ?_
    cases b with
    | false => exact fly_on loc stk tk fl fun h4 up4 sk => again Wout h4 (no rfl) up4 sk
    | true =>
      apply codeAny_handlers_suite_as
      refine HandSPX.lands_againZ fl fun h4 fl4 up4 => ?_
      obtain ⟨oe4, ps4, f1, fz, ff, lk4, all4⟩ := chain fl4 na
      have S4 := into (inv h4 fl4.1 up4) a (ps := (a, oe4) :: ps4) all4 loc
      refine store_ok (X := X.suite a (((a, oe4) :: ps4) ++ (X.pn ++ pins))) (v := V.ref a) S4 hN hi (Or.inl hl) rfl (fun s5 S5 => ?_) (.inr hl)
      refine wpAny_mono ((hsu a oe4 cls d ps4 _ ⟨fz, lk4, fun p hp => List.mem_append_left _ hp⟩ ff).run [] s5 _ H1 _ S5 (yes rfl a na)) (fun f s6 got => ?_) fun _ _ z => z.elim
      have back : ∀ {σ6 : L2.St} {H6 : Hp} {R : Shared → Prop}, Inv (X.suite a (((a, oe4) :: ps4) ++ (X.pn ++ pins))) [] σ6 H6 s6 → (∀ s7, Inv X pins (σ6.set i none) H6 s7 → R s7) →
          wpAny (model X.prog X.w) X.A (do bindName X.env n .none; unbindBehindTheSuite X.env n pos') (fun _ s7 => R s7) X.xe s6 := fun z k => gone_ok (outof (ps := (a, oe4) :: ps4) z ok) hN hi hl k
      cases f with
      | ret v => exact got.elim fun r z => z.elim fun σ6 z => z.elim fun H6 z => back z.1 fun s7 J7 => ⟨_, _, _, J7, z.2⟩
      | next => exact got.elim fun σ6 z => z.elim fun H6 z => back z.1 fun s7 J7 => ⟨_, _, J7, z.2⟩
      | brk => exact got.elim fun σ6 z => z.elim fun H6 z => back z.1 fun s7 J7 => ⟨_, _, J7, z.2⟩
      | cont => exact got.elim fun σ6 z => z.elim fun H6 z => back z.1 fun s7 J7 => ⟨_, _, J7, z.2⟩
  · cases f with
    | ret v => exact got.elim fun r z => z.elim fun σ6 z => z.elim fun H6 z => ⟨r, σ6, H6, z.1.ofTry ok, z.2⟩
    | brk => exact got.elim fun σ6 z => z.elim fun H6 z => ⟨σ6, H6, z.1.ofTry ok, z.2⟩
    | cont => exact got.elim fun σ6 z => z.elim fun H6 z => ⟨σ6, H6, z.1.ofTry ok, z.2⟩
    | next => exact got.elim fun σ6 z => z.elim fun H6 z => wpAny_execs_nil ⟨σ6, H6, z.1.ofTry ok, z.2⟩
end
end L2M

namespace L2M
open PySem PySem.Spec PyProof.Rows L2 HotX L2H
open L2.BP (tCl tMt tMk WF SpE tRz)
abbrev St := L2.St
/-! ### calls -/
section
variable {X : Cx} {k : Nat} {f C : Addr} {fd : FuncData} {ps : List Str} {sp : Sp} {dvs : List V} {ds : List Value} {W : WX} {x m : Str} {p pos apos : Pos} {e o : Expr} {es : List Expr} {ta : TE} {t : TA}
/-- f(e, ..) -/
theorem pe_clM (F : FnOk X.prog X.w X.K X.mg X.base (L2M.CX X.prog X.w) k f fd ps sp) (hr : Room k X.A) (hg : Gl X x) (hm : X.mg x = some (.ref f)) (hk : PySem.W.keepIn X.K (.ref f) = true)
    (hb : Binds X.K fd ps ds) (hd : Vals dvs ds) (tk : L2M.Takes X W) (ha : PA X (e :: es) t) (hdb : (x == ("__debug__" : Str)) = false := by decide)
    (he : starEach (e :: es) X.env = (false, eval e X.env) :: starEach es X.env := by rfl) (hpl : (backTo pos (starEach es X.env)).any (·.1) = false := by rfl) :
    PE X (.Call (.Name x p) (e :: es) [] pos) (tCl sp dvs W t) :=
  pe_callSD (E := WE W) F hr hg hm hk hb hd (fun σ => L2M.passAt tk σ) ha hdb he hpl
/-- o.m(e, ..) -/
theorem pe_mtM {pl : Sem Bool} (he : PE X o ta) (c : Cls X.K C) (hm : Meth X.K C m f) (F : FnOk X.prog X.w X.K X.mg X.base (L2M.CX X.prog X.w) k f fd ps sp) (hr : Room k X.A)
    (hb : Binds X.K fd ps ds) (hd : Vals dvs ds) (tk : L2M.Takes X W) (ha : PA X (e :: es) t)
    (hst : starEach (e :: es) X.env = (false, eval e X.env) :: starEach es X.env := by rfl) (hpl : (backTo pos (starEach es X.env)).any (·.1) = false := by rfl)
    (ht : eval (.Call (.Attribute o m apos) (e :: es) [] pos) X.env = (do
      let ov ← eval o X.env; standAt apos.atName
      let (f, first) ← holding [ov] (getMethod ov m pl); callWith pos f first (backTo pos (starEach (e :: es) X.env)) (backToKw pos (keywordEach [] X.env))) := by rfl) :
    PE X (.Call (.Attribute o m apos) (e :: es) [] pos) (tMt C m sp dvs W ta t) := by
  constructor
  intro pins s σ H Q I h
  refine PySem.W.methodCall_KW (pl := pl) (thn (he.run pins s σ H _ I h) ?_) ht
  rintro u s1 ⟨x, H1, I1, rx, a, dx, fs, rfl, ea, l, q⟩
  cases (show u = Value.ref a from rx)
  refine getmeth_ok I1 ea c hm l (PySem.W.callWith_K (first := [.ref a]) (h₀ := X.base) I.ok.mod.kin hm.kp ?_ hst hpl)
  refine thn (ha.run pos pins s1 σ H1 _ I1 q) ?_
  rintro us s2 ⟨vs, H2, I2, r, q2⟩
  exact ⟨I2.kIn, run_fnSD (E := WE W) (us := .ref a :: us) (vs := .ref a :: vs) F hr hb hd (L2M.passAt tk σ) I2 (.cons rfl r) q2⟩
theorem pe_mt0M {pl : Sem Bool} (he : PE X o ta) (c : Cls X.K C) (hm : Meth X.K C m f) (F : FnOk X.prog X.w X.K X.mg X.base (L2M.CX X.prog X.w) k f fd ps sp) (hr : Room k X.A)
    (hb : Binds X.K fd ps ds) (hd : Vals dvs ds) (tk : L2M.Takes X W)
    (ht : eval (.Call (.Attribute o m apos) [] [] pos) X.env = (do
      let ov ← eval o X.env; standAt apos.atName
      let (f, first) ← holding [ov] (getMethod ov m pl); callWith pos f first (backTo pos (starEach [] X.env)) (backToKw pos (keywordEach [] X.env))) := by rfl) :
    PE X (.Call (.Attribute o m apos) [] [] pos) (tMt C m sp dvs W ta tNil) := by
  constructor
  intro pins s σ H Q I h
  refine PySem.W.methodCall_KW (pl := pl) (thn (he.run pins s σ H _ I h) ?_) ht
  rintro u s1 ⟨x, H1, I1, rx, a, dx, fs, rfl, ea, l, q⟩
  cases (show u = Value.ref a from rx)
  refine getmeth_ok I1 ea c hm l ?_
  have go := run_fnSD (E := WE W) (us := [.ref a]) (vs := [.ref a]) F hr hb hd (L2M.passAt tk σ) I1 (.cons rfl .nil) q
  exact PySem.W.callWith_K0 (first := [.ref a]) I1.kIn hm.kp go
/-- C(e, ..) -/
theorem run_mkM {pins : List (Addr × Obj)} {σ : St} {H : Hp} {s : Shared} {Q : VK} {us : List Value} {vs : List V} (M : Mk X.K C f) (F : FnOk X.prog X.w X.K X.mg X.base (L2M.CX X.prog X.w) k f fd ps sp) (hr : Room (k + 1) X.A)
    (hb : Binds X.K fd ps ds) (hd : Vals dvs ds) (tk : L2M.Takes X W) (I : Inv X pins σ H s) (r : Vals vs us)
    (h : ∀ x dx, H x = none → H dx = none → dx ≠ x → sp (.ref x :: (vs ++ dvs)) (upd (upd H dx (.own x)) x (.ins C dx [])) (fun v H2 => v = .non ∧ Q (.ref x) H2) fun c d H2 => W c d σ H2) :
    wpAny (model X.prog X.w) X.A (call (.ref C) us) (EP X pins σ Q) X.xe s := by
  have hq := h (s.heap.objs.size + 1) s.heap.objs.size (I.hok.fresh (Nat.le_succ _)) (I.hok.fresh (Nat.le_refl _)) (Nat.ne_of_lt (Nat.lt_succ_self _))
  have J := Inv.made (C := C) I
  have rr : Vals (V.ref (s.heap.objs.size + 1) :: (vs ++ dvs)) (Value.ref (s.heap.objs.size + 1) :: (us ++ ds)) := .cons rfl (r.append hd)
  have hl : (Value.ref (s.heap.objs.size + 1) :: us ++ ds).length = ps.length := by
    have e1 := rr.length
    rw [F.len _ _ _ _ hq] at e1
    exact e1.symm
  have run := F.run _ X.stack _ _ ⟨Value.ref (s.heap.objs.size + 1) :: us, []⟩ (Value.ref (s.heap.objs.size + 1) :: (us ++ ds)) _ _ _ (hr.make C us []) (J.env0.make C us []) (hb _ (Value.ref (s.heap.objs.size + 1) :: us) J.kIn hl) rr hq
  refine wpAny_call (make_map (f := f) I.kIn M.makes M.init (beq_iff_eq.mp M.fn) (codeAny_mono run ?_))
  intro r s' z
  match r, z with
  | .error e, z => exact (L2M.passAt tk σ) pins _ _ e s' J z
  | .ok (.ret u), z =>
    obtain ⟨v, H', J3, rv, ev, q3⟩ := J.after z
    subst ev
    exact ⟨rv, ⟨V.ref (s.heap.objs.size + 1), H', J3, rfl, q3⟩⟩
theorem pe_mkM (M : Mk X.K C f) (F : FnOk X.prog X.w X.K X.mg X.base (L2M.CX X.prog X.w) k f fd ps sp) (hr : Room (k + 1) X.A) (hg : Gl X x) (hm : X.mg x = some (.ref C))
    (hb : Binds X.K fd ps ds) (hd : Vals dvs ds) (tk : L2M.Takes X W) (ha : PA X (e :: es) t) (hdb : (x == ("__debug__" : Str)) = false := by decide)
    (he : starEach (e :: es) X.env = (false, eval e X.env) :: starEach es X.env := by rfl) (hpl : (backTo pos (starEach es X.env)).any (·.1) = false := by rfl) :
    PE X (.Call (.Name x p) (e :: es) [] pos) (tMk C sp dvs W t) := by
  constructor
  intro pins s σ H Q I h
  refine wpAny_Call_Name_kw (ld_glob I hg hm (PySem.W.callWith_K (h₀ := X.base) I.ok.mod.kin M.kp ?_ he hpl) hdb)
  refine thn (ha.run pos pins s σ H _ I h) ?_
  rintro us s1 ⟨vs, H1, I1, r, q⟩
  exact ⟨I1.kIn, run_mkM M F hr hb hd tk I1 r q⟩
theorem pe_mk0M (M : Mk X.K C f) (F : FnOk X.prog X.w X.K X.mg X.base (L2M.CX X.prog X.w) k f fd ps sp) (hr : Room (k + 1) X.A) (hg : Gl X x) (hm : X.mg x = some (.ref C))
    (hb : Binds X.K fd ps ds) (hd : Vals dvs ds) (tk : L2M.Takes X W) (hdb : (x == ("__debug__" : Str)) = false := by decide) :
    PE X (.Call (.Name x p) [] [] pos) (tMk C sp dvs W tNil) := by
  constructor
  intro pins s σ H Q I h
  have go := run_mkM (us := []) M F hr hb hd tk I .nil h
  exact wpAny_Call_Name_kw (ld_glob I hg hm (PySem.W.callWith_K0 I.kIn M.kp go) hdb)
end

/-! ### the handled exception with its contexts -/
def HotL (A : Around) (q : Addr × Obj) (ps : List (Addr × Obj)) : Prop := A.handled = some (.ref q.1) ∧ Link (.ref q.1) (q :: ps)
section
variable {prog : Program} {w : World} {A : Around} {E : Value → Shared → Prop} {s : Shared}
end
/-- a target, the handled exception being pinned -/
structure PGH (X : Cx) (ls : List (Addr × Obj)) (tg : Expr) (g : TG) : Prop where
  run : ∀ (pins : List (Addr × Obj)) (s : Shared) (σ : St) (H : Hp) (v : V) (u : Value) (Q : St → Hp → Prop), (∀ p ∈ ls, p ∈ X.pn ++ pins) → Inv X pins σ H s → RelV v u → g v σ H Q → wpAny (model X.prog X.w) X.A (assign tg X.env u) (fun _ s' => ∃ σ' H', Inv X pins σ' H' s' ∧ Q σ' H') X.xe s
theorem PGH.of {X : Cx} {ls : List (Addr × Obj)} {tg : Expr} {g : TG} (h : PG X tg g) : PGH X ls tg g := ⟨fun pins s σ H v u Q _ I r k => h.run pins s σ H v u Q I r k⟩
section
variable {B : Cx} {tg : Expr} {a it : Addr} {pins : List (Addr × Obj)} {s : Shared} {ρ : St} {H : Hp} {E : Value → Shared → Prop} {q0 : Addr × Obj} {qs : List (Addr × Obj)}
end
section
variable {X : Cx}
end

/-! ### defs called where an exception is handled -/
def cxS (CX : CXT) (P : Program) (w : World) (K : PySem.W.Frag) (mg : Str → Option Value) (base : Heap) (N : List Str) (qual : Str) (scope : Scope) (f : Addr) (cd : Value) (A : Around) (outer : List Env) (s : Shared) (H : Hp) (E : XK) (ls : List (Addr × Obj)) : Cx :=
  { cxOf CX P w K mg base N qual scope f cd A outer s H E with calm := false, pn := ls }
structure FnE (P : Program) (w : World) (K : PySem.W.Frag) (mg : Str → Option Value) (base : Heap) (CX : CXT) (k : Nat) (f : Addr) (fd : FuncData) (ps : List Str) (sp : SpE) : Prop where
  len : ∀ a c d vs H Q E, sp a c d vs H Q E → vs.length = ps.length
  run : ∀ (A : Around) (outer : List Env) (s : Shared) (H : Hp) (args : Args) (us : List Value) (vs : List V) (Q : VK) (E : XK) (q : Addr × Obj) (qs : List (Addr × Obj)) (cls : Value) (d : Option Addr), RoomH k A → HotL A q qs → Zc cls d q.2 → (∀ p ∈ q :: qs, PinOk outer H s p) → Env0 P w K mg base A outer s H → BindsTo s fd args (ps.zip us) → Vals vs us →
    sp q.1 cls d vs H Q E → codeAny (model P w) A (.call (.ref f) args) (CR CX outer P w H s Q E) s
section
variable {P : Program} {w : World} {K : PySem.W.Frag} {mg : Str → Option Value} {base : Heap} {CX : CXT} {N ps : List Str} {qual : Str} {scope : Scope} {f : Addr} {cd : Value} {A : Around} {outer : List Env} {s s1 : Shared} {H : Hp} {Q : VK} {E : XK}
theorem ends {ls : List (Addr × Obj)} {fl : Flow} (h : SP (cxS CX P w K mg base N qual scope f cd A outer s H E ls) [] { nx := fun _ H' => Q .non H', rt := Q } fl s1) : CR CX outer P w H s Q E (.ok (.ret (L2.BP.flowVal fl))) s1 := by
  cases fl with
  | ret u => exact h.elim fun v z => z.elim fun _ z => z.elim fun H1 z => ⟨v, H1, z.1.os, z.1.bare, z.1.base, z.1.hok, z.2.1, z.2.2⟩
  | next => exact h.elim fun _ z => z.elim fun H1 z => ⟨.non, H1, z.1.os, z.1.bare, z.1.base, z.1.hok, rfl, z.2⟩
  | brk => exact h.elim fun _ z => z.elim fun _ z => z.2.elim
  | cont => exact h.elim fun _ z => z.elim fun _ z => z.2.elim
theorem begins {us : List Value} {vs : List V} (S : FnScope N ps scope) {q : Addr × Obj} {qs : List (Addr × Obj)} (pin : ∀ p ∈ q :: qs, PinOk outer H s p) (env : Env0 P w K mg base A outer s H) (hl : vs.length = ps.length) (r : Vals vs us)
    (x : InCallC s s.heap.objs.size (bindL (envOfC qual scope s.heap.objs.size f cd).kindOf (ps.zip us) fun _ => none) (cellsFrom (s.heap.objs.size + 1) scope.names []) (bindC (envOfC qual scope s.heap.objs.size f cd).kindOf (ps.zip us) fun _ => none) s1) :
    Inv (cxS CX P w K mg base N qual scope f cd A outer s H E (q :: qs)) [] (L2.start N vs) H s1 := by
  have one : ∀ p ∈ q :: qs, Inv (cxH CX P w K mg base N qual scope f cd A outer s H E p) [] (L2.start N vs) H s1 := fun p hp => inv_startH S (pin p hp) env hl r x
  have I := one q (.head _)
  exact {
    ok := I.ok.toTry (q :: qs) _
    os := I.os
    bare := I.bare
    base := I.base
    loc := I.loc
    cell := I.cell
    free := I.free
    freeC := I.freeC
    pin := fun p hp => (one p (by have z : p ∈ (q :: qs) ++ ([] : List (Addr × Obj)) := hp; rw [List.append_nil] at z; exact z)).pin p (by show p ∈ [p] ++ ([] : List (Addr × Obj)); simp)
    hok := I.hok
    len := I.len }
end
theorem okE {P : Program} {w : World} {K : PySem.W.Frag} {mg : Str → Option Value} {base : Heap} {x qual : Str} {params : Arguments} {body : List Stmt} {scope : Scope} {dvs : List V} {kws : List (Str × V)} {f : Addr} {fd : FuncData} {CX : CXT} {N ps : List Str} {k : Nat} {sp : SpE} (F : FunD K x qual params body scope dvs kws f fd) (S : FnScope N ps scope) (len : ∀ a c d vs H Q E, sp a c d vs H Q E → vs.length = ps.length)
    (hbody : ∀ (cdv : Value) (A : Around) (outer : List Env) (s : Shared) (H : Hp) (vs : List V) (Q : VK) (E : XK) (q : Addr × Obj) (qs : List (Addr × Obj)) (cls : Value) (d : Option Addr), HotL A q qs → Zc cls d q.2 → RoomH k (A.deeper (envOfC qual scope s.heap.objs.size f cdv)) → sp q.1 cls d vs H Q E →
      ∃ t, PSs (cxS CX P w K mg base N qual scope f cdv A outer s H E (q :: qs)) body t ∧ t { nx := fun _ H' => Q .non H', rt := Q } (L2.start N vs) H) : FnE P w K mg base CX (k + 1) f fd ps sp where
  len := len
  run := by
    intro A outer s H args us vs Q E q qs cls d room hot zn pin env binds vals want
    obtain ⟨_, _, _, _, _, _, _, cdv, _, _, e, look, code, _, _⟩ := F.ex
    subst e
    have world := env.mod.kin.keeps fun b o e => (env.bs b o e).1
    have free := env.mod.nolimit.keeps fun b o e => (env.bs b o e).1
    have kinds : ∀ y ∈ ps.zip us, scope.names.lookup y.1 = some .local ∨ (scope.names.lookup y.1 = some .cell ∧ ((cellsFrom (s.heap.objs.size + 1) scope.names []).lookup y.1).isSome = true) := by
      intro y hy
      cases S.par y.1 (List.of_mem_zip (show (y.1, y.2) ∈ ps.zip us from hy)).1 with
      | inl h => exact Or.inl h
      | inr h => exact Or.inr ⟨h, PySem.W.cellsFrom_some _ _ _ (Or.inl h)⟩
    have entered := codeAny_call_function (prog := P) (w := w) (A := A) (R := CR CX outer P w H s Q E) (s := s) (args := args) room.depth (world _ _ look) rfl S.co S.gen rfl (PySem.W.codeRec_of world code)
    apply entered
    apply binds
    apply wpAny_newFunctionEnv_cells S.kind kinds
    rintro env' rfl s1 made
    refine And.intro (free.keeps made.toInCall.keep) (codeAny_func ?_)
    obtain ⟨t, reads, goal⟩ := hbody cdv A outer s H vs Q E q qs cls d hot zn (room.deeper _) want
    have start := begins (CX := CX) (E := E) S pin env (len _ _ _ _ _ _ _ want) vals made
    exact wpAny_mono (reads.run [] s1 _ _ _ start goal) (fun fl _ h => by
      have z := ends h
      cases fl <;> exact z) fun _ _ h => h
section
variable {X : Cx} {k : Nat} {f C : Addr} {fd : FuncData} {ps : List Str} {sp : SpE} {so : Sp} {x m : Str} {p pos apos : Pos} {e o : Expr} {es : List Expr} {ta : TE} {t : TA} {cls : Value} {d : Option Addr}
/-- such a def called: nothing is let out of it -/
theorem run_hotE {q : Addr × Obj} {qs : List (Addr × Obj)} (F : FnE X.prog X.w X.K X.mg X.base (L2M.CX X.prog X.w) k f fd ps sp) (hr : RoomH k X.A) (hot : HotL X.A q qs) (mem : ∀ y ∈ q :: qs, y ∈ X.pn) (hz : Zc cls d q.2) (hb : Binds X.K fd ps []) {pins : List (Addr × Obj)} {σ : St} {s : Shared} {H : Hp} {Q : VK} {us : List Value} {vs : List V}
    (I : Inv X pins σ H s) (r : Vals vs us) (h : sp q.1 cls d vs H Q fun _ _ _ => False) : wpAny (model X.prog X.w) X.A (call (.ref f) us) (EP X pins σ Q) X.xe s := by
  have many : us.length = ps.length := r.length ▸ F.len _ _ _ _ _ _ _ h
  have bound := hb s us I.kIn (by simpa using many)
  rw [List.append_nil] at bound
  have pinned : ∀ y ∈ q :: qs, PinOk X.stack H s y := by
    intro y hy
    obtain ⟨g1, g2, g3, g4, g5⟩ := I.pin y (List.mem_append_left _ (mem y hy))
    refine ⟨g1, g2, fun z => ?_, g5⟩
    rcases List.mem_cons.mp (I.stkSub _ z) with z | z
    · exact g3 z
    · exact g4 z
  have ran := F.run X.A X.stack s H ⟨us, []⟩ us vs Q (fun _ _ _ => False) q qs cls d hr hot hz pinned I.env0 bound r h
  refine wpAny_call (codeAny_mono ran ?_)
  intro res s' got
  match res, got with
  | .error _, got =>
    obtain ⟨_, _, _, _, _, _, z, _⟩ := got
    exact z.elim
  | .ok (.ret _), got => exact I.after got
/-- f(.., e, ..) in the suite of 'except .. as e' -/
theorem pe_clE {a : Addr} {oe : Obj} {qs pn : List (Addr × Obj)} (F : FnE X.prog X.w X.K X.mg X.base (L2M.CX X.prog X.w) k f fd ps sp) (hr : RoomH k X.A) (hz : Zc cls d oe ∧ Link (.ref a) ((a, oe) :: qs) ∧ ∀ y ∈ (a, oe) :: qs, y ∈ pn) (hg : Gl (X.suite a pn) x) (hm : X.mg x = some (.ref f)) (hk : PySem.W.keepIn X.K (.ref f) = true) (hb : Binds X.K fd ps [])
    (ha : PA (X.suite a pn) (e :: es) t) (hdb : (x == ("__debug__" : Str)) = false := by decide) (he : starEach (e :: es) X.env = (false, eval e X.env) :: starEach es X.env := by rfl) (hpl : (backTo pos (starEach es X.env)).any (·.1) = false := by rfl) :
    PE (X.suite a pn) (.Call (.Name x p) (e :: es) [] pos) (L2.BP.tClE a cls d sp t) where
  run := fun pins s σ H Q I h => wpAny_Call_Name_kw (ld_glob I hg hm (PySem.W.callWith_K (h₀ := X.base) I.ok.mod.kin hk
    (thn (ha.run pos pins s σ H _ I h) fun us s1 z => z.elim fun vs z => z.elim fun H1 z => ⟨z.1.kIn, run_hotE (X := X.suite a pn) (q := (a, oe)) F ⟨hr.dp, hr.un⟩ ⟨rfl, hz.2.1⟩ hz.2.2 hz.1 hb z.1 z.2.1 z.2.2⟩) he hpl) hdb)
/-- the same, in a def that raises -/
theorem pe_clSW {W : WX} (hE : ∀ vs H Q E, so vs H Q E → so vs H Q fun _ _ _ => False) (F : FnE X.prog X.w X.K X.mg X.base (L2M.CX X.prog X.w) k f fd ps (fun _ _ _ => so)) (hr : RoomH k X.A) (hc : HotM X) (hg : Gl X x) (hm : X.mg x = some (.ref f)) (hk : PySem.W.keepIn X.K (.ref f) = true) (hb : Binds X.K fd ps [])
    (ha : PA X (e :: es) t) (hdb : (x == ("__debug__" : Str)) = false := by decide) (he : starEach (e :: es) X.env = (false, eval e X.env) :: starEach es X.env := by rfl) (hpl : (backTo pos (starEach es X.env)).any (·.1) = false := by rfl) :
    PE X (.Call (.Name x p) (e :: es) [] pos) (tCl so [] W t) where
  run := fun pins s σ H Q I h => by
    obtain ⟨q, qs, held, lk, mem⟩ := hc
    refine wpAny_Call_Name_kw (ld_glob I hg hm (PySem.W.callWith_K (h₀ := X.base) I.ok.mod.kin hk (thn (ha.run pos pins s σ H _ I h) fun us s1 z => ?_) he hpl) hdb)
    obtain ⟨vs, H1, J, r, w⟩ := z
    rw [List.append_nil] at w
    exact ⟨J.kIn, run_hotE (sp := fun _ _ _ => so) F hr ⟨held, lk⟩ mem ⟨rfl, rfl⟩ hb J r (hE _ _ _ _ w)⟩
/-- o.m(e, ..) where an exception is handled -/
theorem pe_mtS {pl : Sem Bool} (he : PE X o ta) (c : Cls X.K C) (hm : Meth X.K C m f) (F : FnE X.prog X.w X.K X.mg X.base (L2M.CX X.prog X.w) k f fd ps (fun _ _ _ => so)) (hr : RoomH k X.A) (hc : HotM X) (hb : Binds X.K fd ps []) (ha : PA X (e :: es) t)
    (hst : starEach (e :: es) X.env = (false, eval e X.env) :: starEach es X.env := by rfl) (hpl : (backTo pos (starEach es X.env)).any (·.1) = false := by rfl)
    (ht : eval (.Call (.Attribute o m apos) (e :: es) [] pos) X.env = (do
      let ov ← eval o X.env; standAt apos.atName
      let (f, first) ← holding [ov] (getMethod ov m pl); callWith pos f first (backTo pos (starEach (e :: es) X.env)) (backToKw pos (keywordEach [] X.env))) := by rfl) :
    PE X (.Call (.Attribute o m apos) (e :: es) [] pos) (tMt C m so [] WF ta t) where
  run := fun pins s σ H Q I h => by
    obtain ⟨q, qs, held, lk, mem⟩ := hc
    refine PySem.W.methodCall_KW (pl := pl) (thn (he.run pins s σ H _ I h) ?_) ht
    rintro u s1 ⟨x, H1, I1, rx, a, dx, fs, rfl, ea, l, w⟩
    cases (show u = Value.ref a from rx)
    refine getmeth_ok I1 ea c hm l (PySem.W.callWith_K (first := [.ref a]) (h₀ := X.base) I.ok.mod.kin hm.kp ?_ hst hpl)
    refine thn (ha.run pos pins s1 σ H1 _ I1 w) ?_
    rintro us s2 ⟨vs, H2, I2, r, w2⟩
    rw [List.append_nil] at w2
    exact ⟨I2.kIn, run_hotE (sp := fun _ _ _ => so) (us := .ref a :: us) (vs := .ref a :: vs) F hr ⟨held, lk⟩ mem ⟨rfl, rfl⟩ hb I2 (.cons rfl r) w2⟩
/-! ### raised -/
theorem ps_rz {W : WX} {j : Nat} {p2 pos2 : Pos} {m : Str} (hc : X.calm = true) (tk : L2M.Takes X W) (q : PySem.W.excIn X.K C He.veBase "ValueError.__new__" = true ∧ PySem.W.keepIn X.K (.ref C) = true ∧ PySem.W.subIn X.K (.ref C) (.type "BaseException") = some true ∧ PySem.W.typeIn X.K (.ref C) = some (.type "type"))
    (gC : X.mg x = some (.ref C)) (hg : Gl X x) (hdb : (x == ("__debug__" : Str)) = false := by decide) : PS X (.Raise (some (.Call (.Name x p) [.Constant (.str m) j p2] [] pos)) none pos2) (tRz C W) :=
  raise_calm hc tk (L2N.pmk_own PySem.F.excBase_ValueError q.1 gC q.2.1 (raises_own q.2.2.1 q.2.2.2) hg hdb)
theorem ps_rzS {W : WX} {j : Nat} {p2 pos2 : Pos} {m : Str} (hc : HotM X) (tk : L2M.Takes X W) (q : PySem.W.excIn X.K C He.veBase "ValueError.__new__" = true ∧ PySem.W.keepIn X.K (.ref C) = true ∧ PySem.W.subIn X.K (.ref C) (.type "BaseException") = some true ∧ PySem.W.typeIn X.K (.ref C) = some (.type "type"))
    (gC : X.mg x = some (.ref C)) (hg : Gl X x) (hdb : (x == ("__debug__" : Str)) = false := by decide) : PS X (.Raise (some (.Call (.Name x p) [.Constant (.str m) j p2] [] pos)) none pos2) (tRz C W) :=
  raise_hot hc tk (L2N.pmk_own PySem.F.excBase_ValueError q.1 gC q.2.1 (raises_own q.2.2.1 q.2.2.2) hg hdb)
theorem fields_of {q : Addr × Obj} {qs : List (Addr × Obj)} {A : Around} (h : HotL A q qs) : ∃ vs, q.2.data = .fields vs := h.2.2.elim fun vs z => ⟨vs, z.elim fun _ y => y.1⟩
end
def DOk (P : Program) (w : World) (K : PySem.W.Frag) (mg : Str → Option Value) (base : Heap) (k : Nat) (f : Addr) (ps : List Str) (dvs : List V) (sp : Sp) : Prop :=
  ∃ (fd : FuncData) (ds : List Value), Vals dvs ds ∧ Binds K fd ps ds ∧ FnOk P w K mg base (L2M.CX P w) k f fd ps sp ∧ PySem.W.keepIn K (.ref f) = true
theorem cxNone {P : Program} {w : World} (outer : List Env) (H : Hp) (s : Shared) (u : Value) (s' : Shared) : ¬ L2M.CX P w outer H s (fun _ _ _ => False) u s' := fun z => by
  obtain ⟨_, _, _, _, _, _, z, _⟩ := z
  exact z
end L2M

namespace L2M
open PySem PySem.Spec PyProof.Rows L2
/-! ### [elt for target in iter if ..], the element may let an error of a call out -/
section
variable {X : Cx}
end
section
variable {X : Cx}
end
section
open L2.BP
variable {X : Cx} {k : Nat} {f C : Addr} {fd : FuncData} {ps : List Str} {sp : Sp} {dvs : List V} {ds : List Value} {W : WX} {x m : Str} {p pos apos : Pos} {e o : Expr} {es : List Expr} {ta : TE} {t : TA}
end
section
open L2.BP
variable {K : PySem.W.Frag} {c cls : Value} {d : Option Addr} {tb : WX → TS} {ts : Addr → Value → Option Addr → TS} {u : TS} {W : WX} {D : Ends} {σ : L2.St} {H : Hp}
theorem w_tryE (k : tb (wOnly K c ts W D) { D with nx := u D } σ H) : tTryE K c tb ts u W D σ H := k
theorem c_wCatch (e : PySem.W.exmOne K cls c = some true) (k : ∀ a, H a = none → ts a cls d D σ H) : wOnly K c ts W D cls d σ H := ⟨true, e, fun _ => k, fun z => nomatch z⟩
end
end L2M

namespace L2.BR
open PySem PySem.Spec PyProof.Rows L2.BP
variable {K : PySem.W.Frag} {W : WX} {vs : List V} {H : Hp} {Q : VK} {E : XK}
/-! ### the heap without the table -/
def wo (H : Hp) (P : Addr) : Hp := fun b => if b = P then none else H b
section
variable {P p : Addr} {ps : Array Value} {H' B : Hp}
theorem Hs.at (h : H P = some (.tbl ps)) : Hs (wo H P) [(P, .tbl ps)] H where
  ex := fun b u e => by
    unfold wo at e
    split at e
    · cases e
    · exact e
  nd := by simp
  own := fun q m => by
    rw [List.mem_singleton.mp m]
    exact ⟨h, if_pos rfl⟩
end
end L2.BR

namespace L2.BP
open PySem PySem.Spec PyProof.Rows
/-! ### own objects moved -/
section
variable {B H : Hp} {L : Pic}
theorem Hs.mv (A C : Pic) (h : Hs B (A ++ (C ++ L)) H) : Hs B (C ++ (A ++ L)) H :=
  h.perm (by rw [← List.append_assoc, ← List.append_assoc]; exact List.Perm.append_right L List.perm_append_comm)
end
end L2.BP
namespace L2.BR
open PySem PySem.Spec PyProof.Rows L2.BP
variable {H B : Hp} {L : Pic}
end L2.BR

namespace L2.BR
open PySem PySem.Spec PyProof.Rows L2.BP
variable {K : PySem.W.Frag} {W : WX} {vs : List V} {H : Hp} {Q : VK} {E : XK}
/-! ### is_table of any thing -/
def tabV : V → Bool
  | .int i => decide (0 ≤ i) && decide (i ≤ 6)
  | _ => false
def Tg.isTab : Tg → Bool
  | .lst xs => decide (xs.length = 272) && xs.all tabV
  | _ => false
def sp_is_table (K : PySem.W.Frag) : Sp := fun vs H Q _ => ∃ (v : V) (g : Tg), vs = [v] ∧ Th K H v g ∧ Tg.ok K H g ∧ RetV H Q (.bl (Tg.isTab g))
theorem len_is_table (h : sp_is_table K vs H Q E) : vs.length = 1 := by
  obtain ⟨v, g, rfl, _⟩ := h
  rfl
def t_is_table (K : PySem.W.Frag) (W : WX) : TS :=
  (tSeq (tIfS ((tOr (tNot (tB (tCB (rIsi K) (tCons (tVar 0) (tCons (tC (.ty "list")) tNil))))) (tTest (tOp (rNeU K) (tCB (rLenK K) (tCons (tVar 0) tNil)) (tC (.int 272)))))) (tRet (tC (.bl false))) tNext)
    (tRet (tCB (rAll K) (tCons (tLc (iList K (tVar 0)) (gName 1) tYes ((tAndV (tCB (rIsi K) (tCons (tVar 1) (tCons (tC (.ty "int")) tNil))) (tAndV (tNotV (tCB (rIsi K) (tCons (tVar 1) (tCons (tC (.ty "bool")) tNil)))) (tChain rLeU rLeU (tC (.int 0)) (tVar 1) (tC (.int 6)))))) [1]) tNil))))
theorem rd_is_table (h : sp_is_table K vs H Q E) : t_is_table K W { nx := fun _ H' => Q .non H', rt := Q } (start ["thing", "one"] vs) H := by
  obtain ⟨v, g, rfl, hT, hok, q⟩ := h
  have hs := Hs.start H
  unfold t_is_table
  cases hT with
  | int i => walk_at "go"; refine c_isiList (.int i) ?_; walk_at "go"; exact q _ hs.ex
  | bl b => walk_at "go"; refine c_isiList (.bl b) ?_; walk_at "go"; exact q _ hs.ex
  | non => walk_at "go"; refine c_isiList .non ?_; walk_at "go"; exact q _ hs.ex
  | str x => walk_at "go"; refine c_isiList (.str x) ?_; walk_at "go"; exact q _ hs.ex
  | tup z => walk_at "go"; refine c_isiList (.tup z) ?_; walk_at "go"; exact q _ hs.ex
  | dic z => walk_at "go"; refine c_isiList (.dic z) ?_; walk_at "go"; exact q _ hs.ex
  | @lst a xs hS =>
    walk_at "go"
    refine c_isiList (.lst hS) ?_
    walk_at "go"
    by_cases h272 : xs.length = 272
    · rw [h272]
      refine i_f (ne_f rfl) ?_
      walk_at "go"
      have hS1 : SqL K H a (xs.map fun v => v) := by rw [List.map_id']; exact hS
      refine c_lcL (fun v => v) xs (fun pre acc B' => acc = (pre.map tabV).map V.bl ∧ B' = H) hs ⟨rfl, rfl⟩ (fun B' H' e h => h.bl (e.seq hS1)) ?_ ?_
      · rintro pre x post acc B' D H' e ⟨rfl, rfl⟩ _ h
        have hpl : pre.length < xs.length := by rw [e]; simp
        obtain ⟨g2, hx⟩ := hok.1 x (by rw [e]; simp)
        have fin : ∀ {b : Bool} {J : Hp}, b = tabV x → Hs B' ((D, .lst ((pre.map tabV).map V.bl)) :: []) J → ∃ acc, J D = some (.lst acc) ∧ acc.length < sizeLine ∧ LcN (fun pre acc B'' => acc = (pre.map tabV).map V.bl ∧ B'' = B') B' [] D (pre ++ [x]) (upd J D (.lst (acc ++ [.bl b]))) := fun {b J} hb j => by
          refine c_item j (small5 (by rw [List.length_map, List.length_map]; omega)) (Same.refl _) ⟨?_, rfl⟩
          rw [hb, List.map_append, List.map_append]
          rfl
        cases hx with
        | int z =>
          walk_at "go"
          refine ⟨rfl, ?_⟩
          walk_at "go"
          have e6 : tabV (.int z) = (decide (0 ≤ z) && decide (z ≤ 6)) := rfl
          cases c0 : decide ((0 : Int) ≤ z) with
          | false =>
            rw [c0] at e6
            rw [if_neg (by decide)]
            exact fin e6.symm h
          | true =>
            rw [c0] at e6
            rw [if_pos rfl]
            walk_at "go"
            exact fin e6.symm h
        | bl b =>
          walk_at "go"
          refine ⟨rfl, ?_⟩
          walk_at "go"
          refine c_isiInt (.bl b) ?_
          walk_at "go"
          refine c_isiBool (.bl b) ?_
          walk_at "go"
          exact fin rfl h
        | non => walk_at "go"; refine ⟨rfl, ?_⟩; walk_at "go"; refine c_isiInt .non ?_; walk_at "go"; exact fin rfl h
        | str y => walk_at "go"; refine ⟨rfl, ?_⟩; walk_at "go"; refine c_isiInt (.str y) ?_; walk_at "go"; exact fin rfl h
        | lst y => walk_at "go"; refine ⟨rfl, ?_⟩; walk_at "go"; refine c_isiInt (.lst (h.bl y)) ?_; walk_at "go"; exact fin rfl h
        | tup y => walk_at "go"; refine ⟨rfl, ?_⟩; walk_at "go"; refine c_isiInt (.tup (h.bt y)) ?_; walk_at "go"; exact fin rfl h
        | dic y => walk_at "go"; refine ⟨rfl, ?_⟩; walk_at "go"; refine c_isiInt (.dic (h.ex _ _ y)) ?_; walk_at "go"; exact fin rfl h
      · rintro acc B' D H2 ⟨rfl, rfl⟩ _ h2
        walk_at "go"
        refine c_all (h2.sql (.head _)) ?_
        have e : Tg.isTab (.lst xs) = (xs.map tabV).all id := by
          show (decide (xs.length = 272) && xs.all tabV) = _
          rw [decide_eq_true h272, Bool.true_and, List.all_map]
          rfl
        rw [← e]
        exact q _ h2.ex
    · refine i_t (by rw [decide_eq_false (by omega)]; rfl) ?_
      walk_at "go"
      have e : Tg.isTab (.lst xs) = false := by
        show (decide (xs.length = 272) && xs.all tabV) = _
        rw [decide_eq_false h272]
        rfl
      rw [← e]
      exact q _ hs.ex
end L2.BR

namespace L2.BR
open PySem PySem.Spec PyProof.Rows L2.BP
variable {K : PySem.W.Frag} {W : WX} {vs : List V} {H : Hp} {Q : VK} {E : XK}
/-! ### put_table of any thing -/
theorem isTab_of {g : Tg} (h : Tg.isTab g = true) : ∃ ls : List Int, g = .lst (ls.map V.int) ∧ Tab ls := by
  cases g with
  | lst xs =>
    have h : (decide (xs.length = 272) && xs.all tabV) = true := h
    rw [Bool.and_eq_true] at h
    have h2 := List.all_eq_true.mp h.2
    have all : ∀ ys : List V, (∀ y ∈ ys, tabV y = true) → ∃ ls : List Int, ys = ls.map V.int ∧ ∀ n ∈ ls, 0 ≤ n ∧ n ≤ 6 := by
      intro ys
      induction ys with
      | nil => exact fun _ => ⟨[], rfl, fun _ z => nomatch z⟩
      | cons y r ih =>
        intro hy
        obtain ⟨ls, rfl, hl⟩ := ih fun z hz => hy z (.tail _ hz)
        have h1 := hy y (.head _)
        cases y with
        | int i =>
          have h1 : (decide (0 ≤ i) && decide (i ≤ 6)) = true := h1
          rw [Bool.and_eq_true, decide_eq_true_eq, decide_eq_true_eq] at h1
          refine ⟨i :: ls, rfl, fun n hn => ?_⟩
          rcases List.mem_cons.mp hn with rfl | hn
          · exact h1
          · exact hl n hn
        | _ => cases h1
    obtain ⟨ls, rfl, hl⟩ := all xs h2
    exact ⟨ls, rfl, by rw [← of_decide_eq_true h.1, List.length_map], hl⟩
  | _ => cases h
theorem th_lst {v : V} {xs : List V} (h : Th K H v (.lst xs)) : ∃ a, v = .ref a ∧ SqL K H a xs := by
  cases h with
  | lst h => exact ⟨_, rfl, h⟩
theorem th_lst' {a : Addr} {xs : List V} (h : Th K H (.ref a) (.lst xs)) : SqL K H a xs := by
  cases h with
  | lst h => exact h
def sp_alike_from (K : PySem.W.Frag) : Sp := fun vs H Q _ => ∃ (a : Addr) (ls : List Int) (p : Nat) (x : Int), vs = [.ref a, .int ((p : Nat) : Int), .int x] ∧ SqL K H a (ls.map V.int) ∧ ls.length = 272 ∧ p ≤ 272 ∧ RetV H Q (.int ((more x (ls.drop p) : Nat) : Int))
theorem len_alike_from (h : sp_alike_from K vs H Q E) : vs.length = 3 := by
  obtain ⟨a, ls, p, x, rfl, _⟩ := h
  rfl
def t_alike_from (K : PySem.W.Frag) (W : WX) : TS :=
  (tSeq (tAsg (tC (.int 0)) (gName 3))
    (tSeq (tWhile ((tAnd (tTest (tOp rLtU (tVar 3) (tC (.int 66)))) (tAnd (tTest (tOp rLtU (tOp rAddU (tVar 1) (tVar 3)) (tC (.int 272)))) (tTest (tOp (rEqU K) (tOp (rIx K) (tVar 0) (tOp rAddU (tVar 1) (tVar 3))) (tVar 2)))))) (tAug 3 (tC (.int 1)) ipAddU))
    (tRet (tVar 3))))
theorem rd_alike_from (h : sp_alike_from K vs H Q E) : t_alike_from K W { nx := fun _ H' => Q .non H', rt := Q } (start ["lengths", "place", "length", "found"] vs) H := by
  obtain ⟨a, ls, p, x, rfl, hS, hl, hp, q⟩ := h
  have hs := Hs.start H
  unfold t_alike_from
  walk_at "go"
  refine w_while (fun m σ' L' B' => ∃ f : Nat, f + m = 66 ∧ p + f ≤ 272 ∧ lead x (ls.drop p) = f + lead x (ls.drop (p + f)) ∧ σ' = [some (.ref a), some (.int p), some (.int x), some (.int f)] ∧ B' = H ∧ L' = []) 66 hs ⟨0, by omega, by omega, by rw [Nat.add_zero, Nat.zero_add], rfl, rfl, rfl⟩ ?_
  rintro m σ' L' B' H' ⟨f, hf, hpf, hk, rfl, rfl, rfl⟩ h
  have hS' := h.bl hS
  walk_at "go"
  unfold more at q
  by_cases hlt : f < 66
  · refine i_t (decide_eq_true (by omega)) ?_
    walk_at "go"
    by_cases hlt2 : p + f < 272
    · refine i_t (decide_eq_true (by omega)) ?_
      have i1 : atI (ls.map V.int) (((p : Nat) : Int) + ((f : Nat) : Int)) = some (.int (ls.getD (p + f) 0)) := at_i (by omega) (by omega)
      rw [drop_cons (ls := ls) (p := p + f) (by omega), lead_cons] at hk
      walk_at "go"
      by_cases he : ls.getD (p + f) 0 = x
      · have e3 : lead x (ls.drop p) = f + (lead x (ls.drop (p + f + 1)) + 1) := by
          have z := hk
          conv at z => rhs; rw [if_pos he]
          exact z
        refine i_t (decide_eq_true he) (w_turn ?_)
        walk_at "go"
        refine ⟨m - 1, by omega, _, _, ⟨f + 1, by omega, by omega, ?_, rfl, rfl, rfl⟩, h⟩
        rw [e3, show p + (f + 1) = p + f + 1 by omega]
        omega
      · have e3 : lead x (ls.drop p) = f := by
          have z := hk
          conv at z => rhs; rw [if_neg he]
          exact z
        refine i_f (decide_eq_false he) ?_
        walk_at "go"
        rw [e3, show min 66 f = f by omega] at q
        exact q _ h.ex
    · refine i_f (decide_eq_false (by omega)) ?_
      walk_at "go"
      rw [List.drop_of_length_le (i := p + f) (by omega)] at hk
      have e3 : lead x (ls.drop p) = f := hk
      rw [e3, show min 66 f = f by omega] at q
      exact q _ h.ex
  · refine i_f (decide_eq_false (by omega)) ?_
    walk_at "go"
    rw [show min 66 (lead x (ls.drop p)) = f by omega] at q
    exact q _ h.ex
def sp_put_table (K : PySem.W.Frag) : Sp := fun vs H Q E => ∃ (B : Hp) (L : Pic) (x dx f : Addr) (v : V) (g : Tg) (b : List Bool), vs = [.ref x, v] ∧ Hs B ((x, brO K dx f b) :: (f, brL b) :: L) H ∧ (∀ y z H', Hs B ((x, y) :: (f, z) :: L) H' → Th K H' v g ∧ Tg.ok K H' g) ∧ b.length ≤ 600000 ∧
  (∀ ls : List Int, g = .lst (ls.map V.int) → Tab ls → ∀ H', Hs B ((x, brO K dx f (b ++ encT 0 ls)) :: (f, brL (b ++ encT 0 ls)) :: L) H' → Q .non H') ∧
  (Tg.isTab g = false → ∀ H', Hs B ((x, brO K dx f b) :: (f, brL b) :: L) H' → E (.ref (He.ga K "BadTable")) none H')
theorem len_put_table (h : sp_put_table K vs H Q E) : vs.length = 2 := by
  obtain ⟨B, L, x, dx, f, v, g, b, rfl, _⟩ := h
  rfl
def t_put_table (K : PySem.W.Frag) (W : WX) : TS :=
  (tSeq (tIfS (tNot (tB (tCl (sp_is_table K) [] W (tCons (tVar 1) tNil)))) (tRz (He.ga K "BadTable") W) tNext)
    (tSeq (tAsg (tC (.int 0)) (gName 2))
    (tSeq (tAsg (tC (.int 0)) (gName 3))
    (tWhile (tTest (tOp rLtU (tVar 3) (tC (.int 272)))) (tSeq (tAsg (tCl (sp_alike_from K) [] W (tCons (tVar 1) (tCons (tVar 3) (tCons (tVar 2) tNil)))) (gName 4))
    (tSeq (tIfS (tTest (tOp rGeU (tVar 4) (tC (.int 3)))) (tSeq (tDrop (tMt (He.ga K "BitRow") "put" (sp_BitRow_put K) [] W (tVar 0) (tCons (tC (.int 7)) (tCons (tC (.int 3)) tNil))))
    (tSeq (tDrop (tMt (He.ga K "BitRow") "put" (sp_BitRow_put K) [] W (tVar 0) (tCons (tOp rSubU (tVar 4) (tC (.int 3))) (tCons (tC (.int 6)) tNil))))
    (tSeq (tAug 3 (tVar 4) ipAddU)
    (tCont)))) tNext)
    (tSeq (tAsg (tOp (rIx K) (tVar 1) (tVar 3)) (gName 2))
    (tSeq (tDrop (tMt (He.ga K "BitRow") "put" (sp_BitRow_put K) [] W (tVar 0) (tCons (tVar 2) (tCons (tC (.int 3)) tNil))))
    (tAug 3 (tC (.int 1)) ipAddU)))))))))
theorem rd_put_table (h : sp_put_table K vs H Q E) : t_put_table K (fun c d _ H2 => E c d H2) { nx := fun _ H' => Q .non H', rt := Q } (start ["bits", "lengths", "last", "place", "more"] vs) H := by
  obtain ⟨B, L, x, dx, f, v, g, b, rfl, hs, hS0, hb, q, qe⟩ := h
  unfold t_put_table
  walk_at "go"
  refine ⟨v, g, rfl, (hS0 _ _ _ hs).1, (hS0 _ _ _ hs).2, retV hs fun H1 h1 => ?_⟩
  clear hs
  walk_at "go"
  cases hg : Tg.isTab g with
  | false =>
    walk_at "go"
    exact qe hg _ h1
  | true =>
  obtain ⟨ls, rfl, hT⟩ := isTab_of hg
  obtain ⟨a, rfl, _⟩ := th_lst (hS0 _ _ _ h1).1
  have hS : ∀ y z H', Hs B ((x, y) :: (f, z) :: L) H' → SqL K H' a (ls.map V.int) := fun y z H' h => th_lst' (hS0 y z H' h).1
  have q := q ls rfl hT
  clear qe hg hS0
  walk_at "go"
  refine w_while (fun m σ' L' B' => ∃ (p : Nat) (last : Int) (b' : List Bool) (w4 : Option V), p + m = 272 ∧ b'.length ≤ 600000 + 9 * p ∧ b ++ encT 0 ls = b' ++ encT last (ls.drop p) ∧ σ' = [some (.ref x), some (.ref a), some (.int last), some (.int p), w4] ∧ B' = B ∧
    L' = (x, brO K dx f b') :: (f, brL b') :: L) 272 h1 ⟨0, 0, b, none, by omega, by omega, by rw [List.drop_zero], rfl, rfl, rfl⟩ ?_
  rintro m σ' L' B' H' ⟨p, last, b', w4, hp, hb', he, rfl, rfl, rfl⟩ h
  have hS' := hS _ _ _ h
  have h272 := hT.1
  walk_at "go"
  by_cases hlt : p < 272
  · refine i_t (decide_eq_true (by omega)) (w_turn ?_)
    walk_at "go"
    refine ⟨a, ls, p, last, rfl, hS', h272, by omega, retV h fun H2 h2 => ?_⟩
    clear h hS'
    have hm := more_le last (ls.drop p)
    rw [List.length_drop] at hm
    have hS2 := hS _ _ _ h2
    walk_at "go"
    by_cases h3 : 3 ≤ more last (ls.drop p)
    · rw [encT_more h3, List.drop_drop, ← List.append_assoc, ← List.append_assoc] at he
      refine i_t (decide_eq_true (by omega)) ?_
      walk_at "go"
      refine use_put (n := 7) (s := 3) rfl rfl h2 (by omega) (by decide) (by decide) fun H3 h4 => ?_
      walk_at "go"
      refine use_put (n := more last (ls.drop p) - 3) (s := 6) (by omega) rfl h4 (by rw [List.length_append, bitsOf_length]; omega) (by decide) (by show _ < 64; omega) fun H4 h5 => ?_
      walk_at "go"
      refine ⟨m - more last (ls.drop p), by omega, _, _, ⟨p + more last (ls.drop p), last, _, _, by omega, ?_, he, rfl, rfl, rfl⟩, h5⟩
      rw [List.length_append, List.length_append, bitsOf_length, bitsOf_length]
      omega
    · have hx := tab_at hT hlt
      have i1 : atI (ls.map V.int) ((p : Nat) : Int) = some (.int (ls.getD p 0)) := at_nat (by omega)
      rw [drop_cons (ls := ls) (p := p) (by omega)] at h3 he
      rw [encT_one h3, ← List.append_assoc] at he
      rw [← drop_cons (ls := ls) (p := p) (by omega)] at h3
      refine i_f (decide_eq_false (by omega)) ?_
      walk_at "go"
      refine use_put (n := (ls.getD p 0).toNat) (s := 3) (by omega) rfl h2 (by omega) (by decide) (by show _ < 8; omega) fun H3 h4 => ?_
      walk_at "go"
      refine ⟨m - 1, by omega, _, _, ⟨p + 1, _, _, _, by omega, ?_, he, rfl, rfl, rfl⟩, h4⟩
      rw [List.length_append, bitsOf_length]
      omega
  · refine i_f (decide_eq_false (by omega)) ?_
    walk_at "go"
    rw [List.drop_of_length_le (by omega), encT_nil, List.append_nil] at he
    rw [← he] at h
    exact q H' h
theorem _root_.L2.BP.Hs.tox {B : Hp} {L : Pic} {a b c : Addr × HO} (h : Hs B (a :: b :: c :: L) H) : Hs B (b :: c :: a :: L) H := Hs.unrot3 h
end L2.BR

namespace L2.BR
open PySem PySem.Spec PyProof.Rows L2.BP
variable {K : PySem.W.Frag} {W : WX} {vs : List V} {H : Hp} {Q : VK} {E : XK}
theorem use_takeX {B : Hp} {L : Pic} {x dx s : Addr} {t : Nat} {ns : List Int} (i : Nat) {j : Int} (e : j = ((i : Nat) : Int)) (h : Hs B ((x, rdO K dx s t) :: (s, .lst (ns.map V.int)) :: L) H) (hb : Bytes ns) (hl : ns.length ≤ 100000) (hi : i ≤ 24) (ht : t ≤ 8 * ns.length)
    (k : i ≤ ((bitsRow ns).drop t).length → t + i ≤ 8 * ns.length → ∀ H', Hs B ((x, rdO K dx s (t + i)) :: (s, .lst (ns.map V.int)) :: L) H' → Q (.int ((nxt i ((bitsRow ns).drop t) : Nat) : Int)) H') (kn : ((bitsRow ns).drop t).length < i → E (.ref (He.ga K "NoBits")) none H) : sp_BitReader_take K [.ref x, .int j] H Q E := by
  subst e
  have hdl : ((bitsRow ns).drop t).length = 8 * ns.length - t := by rw [List.length_drop, bitsRow_length]
  refine ⟨B, L, x, dx, s, t, ns, _, _, rfl, .int _, h, hb, ht, hl, fun i' e' _ h2 => ?_, fun z => ?_, fun i' e' _ h2 => ?_⟩
  · cases Int.ofNat.inj (Tg.int.inj e')
    exact k (by omega) h2
  · simp only [sizeOk, Bool.and_eq_false_iff, decide_eq_false_iff_not] at z
    omega
  · cases Int.ofNat.inj (Tg.int.inj e')
    exact kn (by omega)
def sp_items_read (K : PySem.W.Frag) : Sp := fun vs H Q E => ∃ (B : Hp) (L : Pic) (x dx s : Addr) (t : Nat) (ns : List Int), vs = [.ref x] ∧ Hs B ((x, rdO K dx s t) :: (s, .lst (ns.map V.int)) :: L) H ∧ Bytes ns ∧ ns.length ≤ 100000 ∧ t ≤ 8 * ns.length ∧
  (∀ ls rest u, tabR 272 [] 0 ((bitsRow ns).drop t) = some (ls, rest) → u ≤ 8 * ns.length → (bitsRow ns).drop u = rest → ls.length ≤ 400 → ∀ p H', Hs B ((p, .lst (ls.map V.int)) :: (x, rdO K dx s u) :: (s, .lst (ns.map V.int)) :: L) H' → Q (.ref p) H') ∧
  (tabR 272 [] 0 ((bitsRow ns).drop t) = none → ∀ u H', u ≤ 8 * ns.length → Hs B ((x, rdO K dx s u) :: (s, .lst (ns.map V.int)) :: L) H' → E (.ref (He.ga K "NoBits")) none H')
theorem len_items_read (h : sp_items_read K vs H Q E) : vs.length = 1 := by
  obtain ⟨B, L, x, dx, s, t, ns, rfl, _⟩ := h
  rfl
def t_items_read (K : PySem.W.Frag) (W : WX) : TS :=
  (tSeq (tAsg (tLst tNil) (gName 1))
    (tSeq (tAsg (tC (.int 0)) (gName 2))
    (tSeq (tWhile (tTest (tOp rLtU (tCB (rLenK K) (tCons (tVar 1) tNil)) (tC (.int 272)))) (tSeq (tAsg (tMt (He.ga K "BitReader") "take" (sp_BitReader_take K) [] W (tVar 0) (tCons (tC (.int 3)) tNil)) (gName 3))
    (tIfS (tTest (tOp (rEqU K) (tVar 3) (tC (.int 7)))) (tAug 1 (tOp rMulU (tLst (tCons (tVar 2) tNil)) (tOp rAddU (tMt (He.ga K "BitReader") "take" (sp_BitReader_take K) [] W (tVar 0) (tCons (tC (.int 6)) tNil)) (tC (.int 3)))) ipAddU) (tSeq (tAsg (tVar 3) (gName 2))
    (tDrop (tBM K "list" rAppend (tVar 1) (tCons (tVar 2) tNil)))))))
    (tRet (tVar 1)))))
theorem rd_items_read (h : sp_items_read K vs H Q E) : t_items_read K (fun c d _ H2 => E c d H2) { nx := fun _ H' => Q .non H', rt := Q } (start ["reader", "found", "last", "item"] vs) H := by
  obtain ⟨B, L, x, dx, s, t, ns, rfl, hs, hb, hl, ht, q, qe⟩ := h
  unfold t_items_read
  walk_at "go"
  rename_i f H1 h1
  generalize hR : tabR 272 [] 0 ((bitsRow ns).drop t) = R at q qe
  refine w_while (fun m σ' L' B' => ∃ (fl : List Int) (last : Int) (u : Nat) (w3 : Option V), 272 ≤ fl.length + m ∧ fl.length ≤ 400 ∧ u ≤ 8 * ns.length ∧ tabR m fl last ((bitsRow ns).drop u) = R ∧ σ' = [some (.ref x), some (.ref f), some (.int last), w3] ∧ B' = B ∧
    L' = (f, .lst (fl.map V.int)) :: (x, rdO K dx s u) :: (s, .lst (ns.map V.int)) :: L) 272 h1 ⟨[], 0, t, none, Nat.le_refl _, by simp, ht, hR, rfl, rfl, rfl⟩ ?_
  rintro m σ' L' B' H' ⟨fl, last, u, w3, hm, hfl, hu, hu2, rfl, rfl, rfl⟩ h
  walk_at "go"
  rw [List.length_map]
  by_cases hlt : fl.length < 272
  · refine i_t (decide_eq_true (by omega)) (w_turn ?_)
    have h' := h.tox
    clear h h1 hs
    cases m with
    | zero => omega
    | succ m =>
    have hu2 : (if fl.length < 272 then _ else _) = R := hu2
    rw [if_pos hlt] at hu2
    walk_at "go"
    refine use_takeX 3 rfl h' hb hl (by decide) hu (fun hi hu3 H3 h4 => ?_) fun hi => ?_
    rotate_left
    · rw [if_pos hi] at hu2
      exact qe hu2.symm u _ hu h'.drop2
    rw [if_neg (by omega)] at hu2
    walk_at "go"
    have hn8 : nxt 3 ((bitsRow ns).drop u) < 8 := by
      have z := numOf_lt (((bitsRow ns).drop u).take 3)
      rw [List.length_take, Nat.min_eq_left hi] at z
      exact z
    by_cases c7 : nxt 3 ((bitsRow ns).drop u) = 7
    · rw [if_pos c7] at hu2
      rw [List.drop_drop] at hu2
      refine i_t (decide_eq_true (by omega)) ?_
      walk_at "go"
      rename_i q1 H4 h5
      refine use_takeX 6 rfl h5.tox hb hl (by decide) hu3 (fun hi2 hu4 H5 h6 => ?_) fun hi2 => ?_
      rotate_left
      · rw [if_pos hi2] at hu2
        exact qe hu2.symm _ _ hu3 (Hs.drop (Hs.drop (Hs.mv [_, _] [_, _] h5.tox)))
      rw [if_neg (by omega)] at hu2
      have hn64 : nxt 6 ((bitsRow ns).drop (u + 3)) < 64 := by
        have z := numOf_lt (((bitsRow ns).drop (u + 3)).take 6)
        rw [List.length_take, Nat.min_eq_left hi2] at z
        exact z
      rw [List.drop_drop] at hu2
      generalize nxt 6 ((bitsRow ns).drop (u + 3)) = n6 at *
      have hq := h6.get (.tail _ (.tail _ (.head _)))
      have h7 := h6.drop2.rot3
      clear h6 h5 h4 h'
      walk_at "go"
      refine c_rep h7 hq (by omega) (by omega) (small6' (by simp; omega)) fun r2 H6 h8 => ?_
      refine c_ext0 h8.drop (h8.get (.head _)) (small6' (by rw [List.length_map]; simp; omega)) fun H7 h9 => ?_
      have e1 : fl.map V.int ++ (List.replicate (((n6 : Nat) : Int) + 3).toNat [V.int last]).flatten = (fl ++ List.replicate (n6 + 3) last).map V.int := by
        rw [show (((n6 : Nat) : Int) + 3).toNat = n6 + 3 by omega, List.map_append, List.map_replicate, List.flatten_replicate_singleton]
      rw [e1] at h9
      walk_at "go"
      exact ⟨m, by omega, _, _, ⟨_, last, u + 3 + 6, _, by rw [List.length_append, List.length_replicate]; omega, by rw [List.length_append, List.length_replicate]; omega, hu4, hu2, rfl, rfl, rfl⟩, h9⟩
    · rw [if_neg c7] at hu2
      rw [List.drop_drop] at hu2
      refine i_f (decide_eq_false (by omega)) ?_
      have h5 := h4.rot3
      clear h4 h'
      walk_at "go"
      refine c_app0 h5 (small5 (by rw [List.length_map]; omega)) fun H4 h6 => ?_
      have e1 : fl.map V.int ++ [V.int ((nxt 3 ((bitsRow ns).drop u) : Nat) : Int)] = (fl ++ [((nxt 3 ((bitsRow ns).drop u) : Nat) : Int)]).map V.int := by rw [List.map_append]; rfl
      rw [e1] at h6
      walk_at "go"
      exact ⟨m, by omega, _, _, ⟨_, _, u + 3, _, by rw [List.length_append, List.length_singleton]; omega, by rw [List.length_append, List.length_singleton]; omega, hu3, hu2, rfl, rfl, rfl⟩, h6⟩
  · refine i_f (decide_eq_false (by omega)) ?_
    walk_at "go"
    have e : R = some (fl, (bitsRow ns).drop u) := by
      rw [← hu2]
      cases m with
      | zero => rfl
      | succ m =>
        show (if _ then _ else _) = _
        rw [if_neg hlt]
    exact q _ _ u e hu rfl hfl f H' h
def sp_take_table (K : PySem.W.Frag) : Sp := fun vs H Q E => ∃ (B : Hp) (L : Pic) (x dx s : Addr) (t : Nat) (ns : List Int), vs = [.ref x] ∧ Hs B ((x, rdO K dx s t) :: (s, .lst (ns.map V.int)) :: L) H ∧ Bytes ns ∧ ns.length ≤ 100000 ∧ t ≤ 8 * ns.length ∧
  (∀ ls rest u, tabR 272 [] 0 ((bitsRow ns).drop t) = some (ls, rest) → ls.length ≤ 272 → u ≤ 8 * ns.length → (bitsRow ns).drop u = rest → ∀ p H', Hs B ((p, .lst (ls.map V.int)) :: (x, rdO K dx s u) :: (s, .lst (ns.map V.int)) :: L) H' → Q (.ref p) H') ∧
  (∀ ls rest, tabR 272 [] 0 ((bitsRow ns).drop t) = some (ls, rest) → 272 < ls.length → ∀ H', Hs B ((x, rdO K dx s t) :: (s, .lst (ns.map V.int)) :: L) H' → E (.ref (He.ga K "BadTable")) none H') ∧
  (tabR 272 [] 0 ((bitsRow ns).drop t) = none → ∀ H', Hs B ((x, rdO K dx s t) :: (s, .lst (ns.map V.int)) :: L) H' → E (.ref (He.ga K "NoBits")) none H')
theorem len_take_table (h : sp_take_table K vs H Q E) : vs.length = 1 := by
  obtain ⟨B, L, x, dx, s, t, ns, rfl, _⟩ := h
  rfl
structure KTry1 (K : PySem.W.Frag) : Prop where
  a : PySem.W.exmOne K (.ref (He.ga K "NoBits")) (.ref (He.ga K "NoBits")) = some true
def t_take_table (K : PySem.W.Frag) (W : WX) : TS :=
  (tSeq (tAsg (tMt (He.ga K "BitReader") "place" (sp_BitReader_place K) [] W (tVar 0) tNil) (gName 1))
    (tSeq (L2M.tTryE K (.ref (He.ga K "NoBits")) (fun W => (tAsg (tCl (sp_items_read K) [] W (tCons (tVar 0) tNil)) (gName 2)))
    (fun a cls d => (tSeq (tDrop (tMt (He.ga K "BitReader") "go" (sp_BitReader_go K) [] WF (tVar 0) (tCons (tVar 1) tNil)))
    (tRz (He.ga K "NoBits") W))) tNext W)
    (tSeq (tIfS (tTest (tOp rGtU (tCB (rLenK K) (tCons (tVar 2) tNil)) (tC (.int 272)))) (tSeq (tDrop (tMt (He.ga K "BitReader") "go" (sp_BitReader_go K) [] W (tVar 0) (tCons (tVar 1) tNil)))
    (tRz (He.ga K "BadTable") W)) tNext)
    (tRet (tVar 2)))))
theorem rd_take_table (kTry1 : KTry1 K) (h : sp_take_table K vs H Q E) : t_take_table K (fun c d _ H2 => E c d H2) { nx := fun _ H' => Q .non H', rt := Q } (start ["reader", "place", "found"] vs) H := by
  obtain ⟨B, L, x, dx, s, t, ns, rfl, hs, hb, hl, ht, q, qb, qe⟩ := h
  unfold t_take_table
  walk_at "go"
  refine ⟨B, L, x, dx, s, t, ns, rfl, hs, ?_⟩
  walk_at "go"
  refine L2M.w_tryE ?_
  walk_at "go"
  refine ⟨B, L, x, dx, s, t, ns, rfl, hs, hb, hl, ht, fun ls rest u e hu hu2 h4 p H1 h1 => ?_, fun e u H1 hu h1 => ?_⟩
  · clear hs
    walk_at "go"
    rw [List.length_map]
    by_cases c : 272 < ls.length
    · refine i_t (decide_eq_true (by omega)) ?_
      walk_at "go"
      refine go_back h1.tox ht fun H2 h2 => ?_
      walk_at "go"
      exact qb ls rest e c _ h2.drop2
    · refine i_f (decide_eq_false (by omega)) ?_
      walk_at "go"
      exact q ls rest u e (by omega) hu hu2 p H1 h1
  · refine L2M.c_wCatch kTry1.a fun eo heo => ?_
    clear hs
    walk_at "go"
    refine go_back h1 ht fun H2 h2 => ?_
    walk_at "go"
    exact qe e _ h2
end L2.BR

namespace L2G
open PySem PySem.Spec PyProof.Rows L2 HotX L2H L2.BP
abbrev St := L2.St
/-! ### defs that run where nothing is being shown yet (no guards around) -/
structure FnG (P : Program) (w : World) (K : PySem.W.Frag) (mg : Str → Option Value) (base : Heap) (CX : CXT) (k : Nat) (f : Addr) (fd : FuncData) (ps : List Str) (sp : Sp) : Prop where
  len : ∀ vs H Q E, sp vs H Q E → vs.length = ps.length
  run : ∀ (A : Around) (outer : List Env) (s : Shared) (H : Hp) (args : Args) (us : List Value) (vs : List V) (Q : VK) (E : XK), Room k A → A.guards = some [] → Env0 P w K mg base A outer s H → BindsTo s fd args (ps.zip us) → Vals vs us → sp vs H Q E →
    codeAny (model P w) A (.call (.ref f) args) (CR CX outer P w H s Q E) s
theorem endG {P : Program} {w : World} {K : PySem.W.Frag} {mg : Str → Option Value} {base : Heap} {CX : CXT} {N : List Str} {qual : Str} {scope : Scope} {f : Addr} {cd : Value} {A : Around} {outer : List Env} {s s' : Shared} {H : Hp} {Q : VK} {E : XK} {fl : Flow}
    (h : SP (cxOf CX P w K mg base N qual scope f cd A outer s H E) [] { nx := fun _ H' => Q .non H', rt := Q } fl s') : CR CX outer P w H s Q E (.ok (.ret (flowVal fl))) s' := by
  cases fl with
  | brk => exact h.elim fun _ h => h.elim fun _ h => h.2.elim
  | cont => exact h.elim fun _ h => h.elim fun _ h => h.2.elim
  | next =>
    obtain ⟨_, H1, J, q⟩ := h
    exact ⟨.non, H1, J.os, J.bare, J.base, J.hok, rfl, q⟩
  | ret u =>
    obtain ⟨v, _, H1, J, rv, q⟩ := h
    exact ⟨v, H1, J.os, J.bare, J.base, J.hok, rv, q⟩
theorem okG {P : Program} {w : World} {K : PySem.W.Frag} {mg : Str → Option Value} {base : Heap} {x qual : Str} {params : Arguments} {body : List Stmt} {scope : Scope} {dvs : List V} {kws : List (Str × V)} {f : Addr} {fd : FuncData} {CX : CXT} {N ps : List Str} {k : Nat} {sp : Sp} (F : FunD K x qual params body scope dvs kws f fd) (S : FnScope N ps scope) (len : ∀ vs H Q E, sp vs H Q E → vs.length = ps.length)
    (hbody : ∀ (cdv : Value) (A : Around) (outer : List Env) (s : Shared) (H : Hp) (vs : List V) (Q : VK) (E : XK), A.guards = some [] → Room k (A.deeper (envOfC qual scope s.heap.objs.size f cdv)) → sp vs H Q E →
      ∃ t, PSs (cxOf CX P w K mg base N qual scope f cdv A outer s H E) body t ∧ t { nx := fun _ H' => Q .non H', rt := Q } (L2.start N vs) H) : FnG P w K mg base CX (k + 1) f fd ps sp where
  len := len
  run := by
    intro A outer s H args us vs Q E room free0 env binds vals want
    obtain ⟨_, _, _, _, _, _, _, cdv, _, _, e, look, code, _, _⟩ := F.ex
    subst e
    have world := env.mod.kin.keeps fun b o e => (env.bs b o e).1
    have free := env.mod.nolimit.keeps fun b o e => (env.bs b o e).1
    have kinds : ∀ y ∈ ps.zip us, scope.names.lookup y.1 = some .local ∨ (scope.names.lookup y.1 = some .cell ∧ ((cellsFrom (s.heap.objs.size + 1) scope.names []).lookup y.1).isSome = true) := by
      intro y hy
      cases S.par y.1 (List.of_mem_zip (show (y.1, y.2) ∈ ps.zip us from hy)).1 with
      | inl h => exact Or.inl h
      | inr h => exact Or.inr ⟨h, PySem.W.cellsFrom_some _ _ _ (Or.inl h)⟩
    have entered := codeAny_call_function (prog := P) (w := w) (A := A) (R := CR CX outer P w H s Q E) (s := s) (args := args) room.depth (world _ _ look) rfl S.co S.gen rfl (PySem.W.codeRec_of world code)
    apply entered
    apply binds
    apply wpAny_newFunctionEnv_cells S.kind kinds
    rintro env' rfl s1 made
    refine And.intro (free.keeps made.toInCall.keep) (codeAny_func ?_)
    obtain ⟨t, reads, goal⟩ := hbody cdv A outer s H vs Q E free0 (room.deeper _) want
    have start : Inv (cxOf CX P w K mg base N qual scope f cdv A outer s H E) [] (L2.start N vs) H s1 := inv_start S room.hd env (len _ _ _ _ want) vals made
    exact wpAny_mono (reads.run [] s1 _ _ _ start goal) (fun fl _ h => by
      have z := endG h
      cases fl <;> exact z) fun _ _ h => h
section
variable {X : Cx} {k : Nat} {f : Addr} {fd : FuncData} {ps : List Str} {sp : Sp} {dvs : List V} {ds : List Value} {W : WX} {x : Str} {p pos : Pos} {e : Expr} {es : List Expr} {t : TA}
/-- the def called -/
theorem run_clG {pins : List (Addr × Obj)} {σ : St} {H : Hp} {s : Shared} {Q : VK} {us : List Value} {vs : List V} (F : FnG X.prog X.w X.K X.mg X.base (L2M.CX X.prog X.w) k f fd ps sp) (hr : Room k X.A) (hG : X.A.guards = some []) (hb : Binds X.K fd ps ds) (hd : Vals dvs ds) (tk : L2M.Takes X W)
    (I : Inv X pins σ H s) (r : Vals vs us) (h : sp (vs ++ dvs) H Q (WE W σ)) : wpAny (model X.prog X.w) X.A (call (.ref f) us) (EP X pins σ Q) X.xe s := by
  have all : Vals (vs ++ dvs) (us ++ ds) := r.append hd
  have many : (us ++ ds).length = ps.length := all.length ▸ F.len _ _ _ _ h
  refine wpAny_call (codeAny_mono (F.run X.A X.stack s H ⟨us, []⟩ (us ++ ds) (vs ++ dvs) Q (WE W σ) hr hG I.env0 (hb s us I.kIn many) all h) ?_)
  intro res s' got
  match res, got with
  | .error _, got => exact (L2M.passAt tk σ) pins _ _ _ _ I got
  | .ok (.ret _), got => exact I.after got
theorem pe_clG (F : FnG X.prog X.w X.K X.mg X.base (L2M.CX X.prog X.w) k f fd ps sp) (hr : Room k X.A) (hG : X.A.guards = some []) (hg : Gl X x) (hm : X.mg x = some (.ref f)) (hk : PySem.W.keepIn X.K (.ref f) = true)
    (hb : Binds X.K fd ps ds) (hd : Vals dvs ds) (tk : L2M.Takes X W) (ha : PA X (e :: es) t) (hdb : (x == ("__debug__" : Str)) = false := by decide)
    (he : starEach (e :: es) X.env = (false, eval e X.env) :: starEach es X.env := by rfl) (hpl : (backTo pos (starEach es X.env)).any (·.1) = false := by rfl) :
    PE X (.Call (.Name x p) (e :: es) [] pos) (tCl sp dvs W t) where
  run := fun pins s σ H Q I h => by
    refine wpAny_Call_Name_kw (ld_glob I hg hm ?_ hdb)
    refine PySem.W.callWith_K (h₀ := X.base) I.ok.mod.kin hk (thn (ha.run pos pins s σ H _ I h) ?_) he hpl
    rintro us s1 ⟨vs, H1, I1, r, q⟩
    exact ⟨I1.kIn, run_clG F hr hG hb hd tk I1 r q⟩
end
def DOk (P : Program) (w : World) (K : PySem.W.Frag) (mg : Str → Option Value) (base : Heap) (k : Nat) (f : Addr) (ps : List Str) (dvs : List V) (sp : Sp) : Prop :=
  ∃ (fd : FuncData) (ds : List Value), Vals dvs ds ∧ Binds K fd ps ds ∧ FnG P w K mg base (L2M.CX P w) k f fd ps sp ∧ PySem.W.keepIn K (.ref f) = true
/-! ### the law's own call: nothing is being shown there -/
theorem caller_free : callerA.guards = some [] := rfl
/-- the things that stand when the law is called: the script alone, if K does not hold it -/
theorem script_heap {P : Program} {w : World} {K : PySem.W.Frag} {a : Addr} {s : Shared} {vs : List Value} {ns : List Int} (KX : K.In s.heap) (ha : s.heap.get? a = some { cls := .type "list", data := .seq vs.toArray }) (hi : IntsAre vs ns) (hl : ns.length ≤ sizeLine) :
    ∃ H : Hp, Only H ∧ SqL K H a (ns.map V.int) ∧ HOk P w H s.heap ∧ (∀ b, H b ≠ none → b = a) ∧ (H a ≠ none → K.lookup a = none) := by
  cases held : K.lookup a with
  | none =>
    let u : HO := .frz { cls := .type "list", data := .seq vs.toArray } (.lst (ns.map V.int))
    have at_a : (fun b => if b = a then some u else none : Hp) a = some u := if_pos rfl
    have off : ∀ b, b ≠ a → (fun b => if b = a then some u else none : Hp) b = none := fun b hb => if_neg hb
    refine ⟨fun b => if b = a then some u else none, fun b => ?_, .inl (.inr ⟨_, at_a⟩), fun b v hv => ?_, fun b hb => Classical.byContradiction fun n => hb (off b n), fun _ => rfl⟩
    · rcases Classical.em (b = a) with rfl | n
      · exact .inr ⟨_, _, at_a⟩
      · exact .inl (off b n)
    · rcases Classical.em (b = a) with rfl | n
      · have e := Option.some.inj (at_a.symm.trans hv)
        subst e
        exact ⟨ha, by rw [List.length_map]; exact hl, vs, _, vals_ints hi, ha⟩
      · exact absurd ((off b n).symm.trans hv) (by simp)
  | some o =>
    have e := ha.symm.trans (KX a o held)
    cases e
    exact ⟨fun _ => none, fun _ => .inl rfl, .inr ⟨_, vs.toArray, _, held, rfl, rfl, rfl, by rw [List.size_toArray, hi.length]; exact hl, by simpa using vals_ints hi⟩, fun b u z => (nomatch (show (none : Option HO) = some u from z)), fun b z => absurd rfl z, fun z => absurd rfl z⟩
theorem law_callG {P : Program} {w : World} {K : PySem.W.Frag} {mg mb : Str → Option Value} {CX : CXT} {k : Nat} {fa a : Addr} {fd : FuncData} {x : Str} {sp : Sp} {s₁ : Shared} {vs : List Value} {ns : List Int}
    (KX : K.In s₁.heap) (hns : s₁.heap.Ns mainGlobals mg) (hb : s₁.heap.Ns builtinsNs mb) (hbb : ∀ x : Str, x ≠ "__name__" → mb x = bootBuiltins x) (hlim : s₁.heap.NoLimit) (hg : s₁.gens = #[])
    (ha : s₁.heap.get? a = some { cls := .type "list", data := .seq vs.toArray }) (hi : IntsAre vs ns) (hl : ns.length ≤ sizeLine) (hr : Room k callerA)
    (F : ∀ base : Heap, K.In base → base.Ns mainGlobals mg → FnG P w K mg base CX k fa fd [x] sp) (hbind : ∀ (s : Shared) (u : Value), BindsTo s fd ⟨[u], []⟩ [(x, u)])
    (hsp : ∀ H : Hp, Only H → SqL K H a (ns.map V.int) → sp [.ref a] H (fun v _ => v = .bl true) fun _ _ _ => False)
    (hCX : ∀ H e s', CX [] H s₁ (fun _ _ _ => False) e s' → False) :
    codeAny (model P w) callerA (.call (.ref fa) ⟨[.ref a], []⟩) (fun r s' => r = .ok (.ret (.bool true)) ∧ OldK s₁.heap s'.heap ∧ s'.os = s₁.os ∧ AllBare s'.gens) s₁ := by
  obtain ⟨H, only, script, ok, one, notK⟩ := script_heap (P := P) (w := w) KX ha hi hl
  have free : ∀ {b : Addr} {o : Obj}, s₁.heap.get? b = some o → (∃ es ep, o.data = .dict es ep) → H b = none := by
    rintro b o e ⟨es, ep, d⟩
    refine Classical.byContradiction fun n => ?_
    obtain rfl := one b n
    have z := ha.symm.trans e
    cases z
    exact nomatch (show Data.seq vs.toArray _ = Data.dict es ep from d)
  have ns_of : ∀ {b : Addr} {m : Str → Option Value}, s₁.heap.Ns b m → (hidT s₁.heap H).Ns b m := fun ⟨o, es, ep, e, d, r⟩ => ⟨o, es, ep, hidT_get e (free e ⟨es, ep, d⟩), d, r⟩
  have kin : K.In (hidT s₁.heap H) := fun b o e => hidT_get (KX b o e) (Classical.byContradiction fun n => by
    obtain rfl := one b n
    exact nomatch (notK n).symm.trans e)
  have mod : Mod K mg (hidT s₁.heap H) := ⟨kin, ns_of hns, ⟨mb, ns_of hb, hbb⟩, hlim.elim fun mc h => ⟨mc, ns_of h.1, h.2⟩⟩
  have env : Env0 P w K mg (hidT s₁.heap H) callerA [] s₁ H := ⟨rfl, mod, fun b o e => of_hidT e, Nat.le_of_eq (hidT_size _ _), trivial, fun b m => absurd (show b ∈ ([] : List Addr) from m) (by simp), ok, .of_eq hg⟩
  refine codeAny_mono ((F _ kin (ns_of hns)).run callerA [] s₁ H ⟨[.ref a], []⟩ [.ref a] [.ref a] _ _ hr caller_free env (hbind s₁ (.ref a)) (.cons rfl .nil) (hsp H only script)) ?_
  intro r s' got
  match r, got with
  | .error e, got => exact (hCX H e s' got).elim
  | .ok (.ret u), got =>
    obtain ⟨v, H', os, bare, un, ok', rel, q⟩ := got
    obtain rfl : v = .bl true := q
    obtain rfl : u = Value.bool true := rel
    refine ⟨rfl, OldK.of_keep fun b o e => ?_, os, bare⟩
    cases held : H b with
    | none => exact un.keep b o e held (fun z => absurd (show b ∈ ([] : List Addr) from z) (by simp)) (by simp)
    | some u =>
      rcases only b with z | ⟨ob, xs, z⟩
      · exact nomatch held.symm.trans z
      · have e1 := (ok b _ z).1
        have e2 := (ok' b _ (un.frzs b ob _ z)).1
        rw [e] at e1
        cases e1
        exact e2
theorem walk_ofG {l : PySem.W.OpenLaw} {n k : Nat} {q : Program} {loose : List Str} {XP : (Str → Option Value) → Heap → Prop} {YP : World → Heap → Prop} {d : DefRec} {CX : CXT} {x : Str}
    (hn : l.most = some n) (hn2 : n ≤ sizeLine) (hdf : d.params.defaults = []) (hr : Room k callerA)
    (F : ∀ (w : World) (mg : Str → Option Value) (fa : Addr) (h : Heap), YP w h → h.Ns mainGlobals mg → mg d.name = some (.ref fa) →
      ∃ (K : PySem.W.Frag) (fd : FuncData) (sp : Sp), K.In h ∧ (∀ (s : Shared) (u : Value), BindsTo s fd ⟨[u], []⟩ [(x, u)]) ∧
        (∀ (H : Hp) (a : Addr) (ns : List Int), ns.length ≤ n → Only H → SqL K H a (ns.map V.int) → sp [.ref a] H (fun v _ => v = .bl true) fun _ _ _ => False) ∧
        ∀ base : Heap, K.In base → base.Ns mainGlobals mg → FnG l.prog w K mg base CX k fa fd [x] sp)
    (hCX : ∀ (H : Hp) (s : Shared) (e : Value) (s' : Shared), CX [] H s (fun _ _ _ => False) e s' → False) :
    PySem.W.WalkO q loose XP YP l.row.toRowW d [] (fun f vs => PySem.call f vs) := by
  refine Att.attach_call hn hdf fun w s₀ s₁ mg mb fa o pm cd doc a vs ns G Y ho hd hcd hmg hobj hints hlen hg => ?_
  obtain ⟨K, fd, sp, kin, binds, promise, runs⟩ := F w mg fa _ Y G.T.g hmg
  exact law_callG kin G.T.g G.T.b G.T.builtins G.T.nolimit hg hobj hints (Nat.le_trans hlen hn2) hr runs binds (fun H hO hS => promise H a ns hlen hO hS) fun H e s' => hCX H s₁ e s'
theorem calmlyG {P : Program} {w : World} {K : PySem.W.Frag} {mg : Str → Option Value} {base : Heap} {k : Nat} {f : Addr} {fd : FuncData} {ps : List Str} {sp : Sp}
    (hE : ∀ vs H Q E, sp vs H Q E → sp vs H Q fun _ _ _ => False) (F : FnG P w K mg base (L2M.CX P w) k f fd ps sp) : FnG P w K mg base L2.CX0 k f fd ps sp where
  len := F.len
  run := fun A outer s H args us vs Q E hr hG he hb hv hs => codeAny_mono (F.run A outer s H args us vs Q _ hr hG he hb hv (hE _ _ _ _ hs)) fun r s' z => by
    match r, z with
    | .error e, z => exact (L2M.cxNone _ _ _ _ _ z).elim
    | .ok (.ret u), z => exact z
end L2G

--I PyProof.ReprRoads
namespace L2G
open PySem PySem.Spec PyProof.Rows L2 HotX L2H L2.BP
/-! ### repr of data, where nothing is being shown -/
/-- data that may be shown -/
structure Shows (d : PyData) : Prop where
  s : d.showable = true
  c : d.canLay0 = true
  p : d.depth ≤ 30
  z : d.shown.length ≤ sizeLine
def rReprK (K : PySem.W.Frag) : List V → Hp → VK → Prop := fun xs H Q => ∃ x, xs = [x] ∧ ((∃ d, Dp K H x d ∧ Shows d ∧ Q (.str d.shown) H) ∨ ∃ a, x = .ref a ∧ H a = some (.dK []) ∧ Q (.str (PyData.dict []).shown) H)
theorem cr_repr {X : Cx} (hG : X.A.guards = some []) (hu : X.A.units + 64 < cLine) : CallR X (.builtin "repr") (rReprK X.K) := by
  intro pins s σ H xs us Q I r h
  obtain ⟨x, rfl, ⟨d, hd, hs, q⟩ | ⟨a, rfl, ha, q⟩⟩ := h
  · cases r with
    | cons rel nl =>
      cases nl
      have fin : ∀ (h' : Heap) (t : Nat) (u2 : Tok), (∀ b o, s.heap.get? b = some o → h'.get? b = some o) → EP X pins σ Q (.str d.shown u2) { s with heap := h', toks := t } := fun h' t u2 k => ⟨.str d.shown, H, I.kept k, ⟨u2, rfl⟩, q⟩
      obtain ⟨as, rd⟩ := Dp.reads I d x _ hd rel
      have more : ∀ a, x = .ref a → wpAny (model X.prog X.w) X.A (call (.builtin "repr") [.ref a]) (EP X pins σ Q) X.xe s := by
        rintro a rfl
        cases (show _ = Value.ref a from rel)
        exact repr_of_reads' rd hs.s (PyData.noDict_hsm (PyData.hasDict_of_canLay d hs.c)) hG (by have := hs.p; omega) (fun _ _ e => e) (fun h' u tk k => fin h' tk u k) hs.z
      cases hd with
      | non =>
        cases (show _ = Value.none from rel)
        exact P.repr_of_none (fin s.heap _ _ fun _ _ e => e)
      | bl b =>
        cases (show _ = Value.bool b from rel)
        refine P.repr_of_bool ?_
        have z := fin s.heap (s.toks + 1) s.toks fun _ _ e => e
        cases b <;> exact z
      | int i =>
        obtain ⟨t, rfl⟩ := (show ∃ t, _ = Value.int i t from rel)
        exact P.repr_of_int (of_decide_eq_true hs.s) (fin s.heap _ _ fun _ _ e => e)
      | str y =>
        obtain ⟨t, rfl⟩ := (show ∃ t, _ = Value.str y t from rel)
        exact P.repr_of_str (fin s.heap _ _ fun _ _ e => e) hs.z
      | lst h1 h2 =>
        cases (show _ = Value.ref _ from rel)
        exact more _ rfl
      | tup h1 h2 =>
        cases (show _ = Value.ref _ from rel)
        exact more _ rfl
  · cases r with
    | cons rel nl =>
      cases nl
      cases (show _ = Value.ref a from rel)
      obtain ⟨_, hsm, vs, kv, o, es, ep, h1, h2, h3, _, h5, _⟩ := I.hok a _ ha
      cases kv
      have e0 : es.toList = [] := by
        cases e : es.toList with
        | nil => rfl
        | cons y l =>
          rw [e] at h5
          cases h5
      have rd : Reads s.heap (.ref a) (.dict []) _ := .dict h1 h2.1 h3 (by rw [e0]; exact .nil) (by rw [e0]; exact .nil)
      refine repr_of_reads' rd (by simp [PyData.showable, PyData.showableKv]) (fun _ m => ?_) hG (by simp [PyData.depth, PyData.depthKv]; omega) (fun _ _ e => e) (fun h' u tk k => ⟨.str (PyData.dict []).shown, H, I.kept k, ⟨u, rfl⟩, q⟩) (by decide +kernel)
      rw [show sysModules = a by simpa using m] at hsm
      simp at hsm
theorem c_repr {x : V} {d : PyData} {H : Hp} {Q : VK} {K : PySem.W.Frag} (hd : Dp K H x d) (hs : Shows d) (k : Q (.str d.shown) H) : rReprK K [x] H Q := ⟨x, rfl, .inl ⟨d, hd, hs, k⟩⟩
theorem c_reprD {a : Addr} {H : Hp} {Q : VK} {K : PySem.W.Frag} (ha : H a = some (.dK [])) (k : Q (.str (PyData.dict []).shown) H) : rReprK K [.ref a] H Q := ⟨_, rfl, .inr ⟨a, rfl, ha, k⟩⟩
end L2G

namespace L2.BR
open PySem PySem.Spec PyProof.Rows L2.BP
variable {K : PySem.W.Frag} {W : WX} {vs : List V} {H : Hp} {Q : VK} {E : XK}
def sp__law_table (K : PySem.W.Frag) : Sp := fun vs H Q _ => ∃ (a : Addr) (ns : List Int), vs = [.ref a, .int 2] ∧ SqL K H a (ns.map V.int) ∧ ∀ ls : List Int, Tab ls → RetL H Q (ls.map V.int)
theorem len__law_table (h : sp__law_table K vs H Q E) : vs.length = 2 := by
  obtain ⟨a, ns, rfl, _⟩ := h
  rfl
def t__law_table (K : PySem.W.Frag) (W : WX) : TS :=
  (tSeq (tAsg (tLst tNil) (gName 2))
    (tSeq (tAsg (tC (.int 0)) (gName 3))
    (tSeq (tWhile (tTest (tOp rLtU (tCB (rLenK K) (tCons (tVar 2) tNil)) (tC (.int 272)))) (tSeq (tAsg (tCl (sp__law_mixed K) [] W (tCons (tCl (sp__law_cell_at K) [] W (tCons (tVar 0) (tCons (tOp rAddU (tVar 1) (tOp rModU (tVar 3) (tC (.int 12)))) tNil))) (tCons (tVar 3) tNil))) (gName 4))
    (tSeq (tAsg (tOp rDivU (tVar 4) (tC (.int 8))) (gName 5))
    (tSeq (tAsg (tOp (rIx K) (tLst (tCons (tC (.int 1)) (tCons (tC (.int 1)) (tCons (tC (.int 2)) (tCons (tC (.int 3)) (tCons (tOp rAddU (tC (.int 4)) (tOp rModU (tVar 5) (tC (.int 9)))) (tCons (tOp rAddU (tC (.int 1)) (tOp rModU (tVar 5) (tC (.int 64)))) (tCons (tOp rAddU (tC (.int 64)) (tOp rModU (tVar 5) (tC (.int 12)))) (tCons (tOp rAddU (tC (.int 129)) (tOp rModU (tVar 5) (tC (.int 8)))) tNil))))))))) (tOp rModU (tVar 4) (tC (.int 8)))) (gName 6))
    (tSeq (tAsg (tOp (rIx K) (tLst (tCons (tC (.int 0)) (tCons (tOp rModU (tOp rDivU (tVar 4) (tC (.int 1024))) (tC (.int 7))) (tCons (tOp rModU (tOp rDivU (tVar 4) (tC (.int 1024))) (tC (.int 7))) (tCons (tC (.int 6)) tNil))))) (tOp rModU (tOp rDivU (tVar 4) (tC (.int 256))) (tC (.int 4)))) (gName 7))
    (tSeq (tAug 2 (tOp rMulU (tLst (tCons (tVar 7) tNil)) (tVar 6)) ipAddU)
    (tAug 3 (tC (.int 1)) ipAddU)))))))
    (tRet (tSl (rSlK K) (tVar 2) tNoPart (tPart (tC (.int 272))))))))
theorem rd__law_table (h : sp__law_table K vs H Q E) : t__law_table K W { nx := fun _ H' => Q .non H', rt := Q } (start ["_law_script", "_law_first", "_law_found", "_law_k", "_law_number", "_law_more", "_law_size", "_law_length"] vs) H := by
  obtain ⟨a, ns, rfl, hS, q⟩ := h
  have hs := Hs.start H
  unfold t__law_table
  walk_at "go"
  rename_i f H0 h0
  refine w_while (fun m σ' L' B' => ∃ (ts : List Int) (i : Nat) (w4 w5 w6 w7 : Option V), m = 272 - ts.length ∧ (∀ x ∈ ts, 0 ≤ x ∧ x ≤ 6) ∧ ts.length ≤ 500 ∧ i ≤ ts.length ∧ σ' = [some (.ref a), some (.int 2), some (.ref f), some (.int ((i : Nat) : Int)), w4, w5, w6, w7] ∧ B' = H ∧ L' = [(f, .lst (ts.map V.int))]) 272 h0
    ⟨[], 0, none, none, none, none, rfl, fun _ h => (nomatch h), by simp, Nat.le_refl _, rfl, rfl, rfl⟩ ?_
  rintro m σ' L' B' H' ⟨ts, i, w4, w5, w6, w7, rfl, hb, hl, hi, rfl, rfl, rfl⟩ h
  have hS' := h.bl hS
  walk_at "go"
  rw [List.length_map]
  by_cases hlt : ts.length < 272
  · refine i_t (decide_eq_true (by omega)) (w_turn ?_)
    walk_at "go"
    refine ⟨a, ns, _, rfl, hS', by omega, ?_⟩
    walk_at "go"
    refine ⟨_, _, rfl, by omega, by omega, fun x hx => ?_⟩
    obtain ⟨M, rfl⟩ := Int.eq_ofNat_of_zero_le hx
    obtain ⟨v1, hv0, hv1, hi1⟩ : ∃ v : Nat, 1 ≤ v ∧ v ≤ 136 ∧ atI [V.int 1, V.int 1, V.int 2, V.int 3, V.int (4 + ((M : Nat) : Int) / 8 % 9), V.int (1 + ((M : Nat) : Int) / 8 % 64), V.int (64 + ((M : Nat) : Int) / 8 % 12), V.int (129 + ((M : Nat) : Int) / 8 % 8)] (((M : Nat) : Int) % 8) = some (.int ((v : Nat) : Int)) := by
      have hj : ((M : Nat) : Int) % 8 = 0 ∨ ((M : Nat) : Int) % 8 = 1 ∨ ((M : Nat) : Int) % 8 = 2 ∨ ((M : Nat) : Int) % 8 = 3 ∨ ((M : Nat) : Int) % 8 = 4 ∨ ((M : Nat) : Int) % 8 = 5 ∨ ((M : Nat) : Int) % 8 = 6 ∨ ((M : Nat) : Int) % 8 = 7 := by omega
      rcases hj with e | e | e | e | e | e | e | e
      · exact ⟨1, by omega, by omega, by rw [e]; rfl⟩
      · exact ⟨1, by omega, by omega, by rw [e]; rfl⟩
      · exact ⟨2, by omega, by omega, by rw [e]; rfl⟩
      · exact ⟨3, by omega, by omega, by rw [e]; rfl⟩
      · exact ⟨4 + M / 8 % 9, by omega, by omega, by rw [e]; rfl⟩
      · exact ⟨1 + M / 8 % 64, by omega, by omega, by rw [e]; rfl⟩
      · exact ⟨64 + M / 8 % 12, by omega, by omega, by rw [e]; rfl⟩
      · exact ⟨129 + M / 8 % 8, by omega, by omega, by rw [e]; rfl⟩
    obtain ⟨v2, hv2, hi2⟩ : ∃ v : Int, (0 ≤ v ∧ v ≤ 6) ∧ atI [V.int 0, V.int (((M : Nat) : Int) / 1024 % 7), V.int (((M : Nat) : Int) / 1024 % 7), V.int 6] (((M : Nat) : Int) / 256 % 4) = some (.int v) := by
      have hj : ((M : Nat) : Int) / 256 % 4 = 0 ∨ ((M : Nat) : Int) / 256 % 4 = 1 ∨ ((M : Nat) : Int) / 256 % 4 = 2 ∨ ((M : Nat) : Int) / 256 % 4 = 3 := by omega
      rcases hj with e | e | e | e
      · exact ⟨0, by omega, by rw [e]; rfl⟩
      · exact ⟨((M : Nat) : Int) / 1024 % 7, by omega, by rw [e]; rfl⟩
      · exact ⟨((M : Nat) : Int) / 1024 % 7, by omega, by rw [e]; rfl⟩
      · exact ⟨6, by omega, by rw [e]; rfl⟩
    walk_at "go"
    rename_i l1 H1 h1 l2 H2 h2 l3 H3 h3
    have hq := h3.get (.head _)
    have h4 := h3.drop.drop.drop
    clear h1 h2 h3 h
    refine c_rep h4 hq (by omega) (by omega) (small6' (by simp; omega)) fun r H6 h8 => ?_
    refine c_ext0 h8.drop (h8.get (.head _)) (small6' (by rw [List.length_map]; simp; omega)) fun H7 h9 => ?_
    have e1 : ts.map V.int ++ (List.replicate (((v1 : Nat) : Int)).toNat [V.int v2]).flatten = (ts ++ List.replicate v1 v2).map V.int := by
      rw [Int.toNat_natCast, List.map_append, List.map_replicate, List.flatten_replicate_singleton]
    rw [e1] at h9
    walk_at "go"
    refine ⟨_, ?_, _, _, ⟨ts ++ List.replicate v1 v2, i + 1, _, _, _, _, rfl, ?_, by rw [List.length_append, List.length_replicate]; omega, by rw [List.length_append, List.length_replicate]; omega, rfl, rfl, rfl⟩, h9⟩
    · rw [List.length_append, List.length_replicate]
      omega
    · intro n hn
      rcases List.mem_append.mp hn with q | q
      · exact hb n q
      · rw [(List.mem_replicate.mp q).2]
        exact hv2
  · refine i_f (decide_eq_false (by omega)) ?_
    walk_at "go"
    rename_i p H2 h2
    rw [show (272 : Int) = ((272 : Nat) : Int) from rfl, cut_take] at h2
    exact h2.rl (.head _) (q (ts.take 272) ⟨by rw [List.length_take]; omega, fun n hn => hb n (List.mem_of_mem_take hn)⟩)
end L2.BR

--I PyProof.ReprLen
namespace L2G
open PySem PySem.Spec PyProof.Rows L2 HotX L2H L2.BP
/-! ### lists that may be shown -/
/-- small data -/
structure SmD (d : PyData) : Prop where
  s : d.showable = true
  c : d.canLay0 = true
  p : d.depth ≤ 3
  b : d.leavesShort 30 = true
  w : d.weight ≤ 100
structure SmA (ds : List PyData) : Prop where
  s : PyData.showableAll ds = true
  c : PyData.canLayAll0 ds = true
  p : PyData.depthAll ds ≤ 3
  b : PyData.leavesShortAll 30 ds = true
  w : PyData.weightAll ds ≤ 101 * ds.length
theorem smA : ∀ {ds : List PyData}, (∀ d ∈ ds, SmD d) → SmA ds
  | [], _ => ⟨rfl, by simp [PyData.canLayAll0], by simp [PyData.depthAll], by simp [PyData.leavesShortAll], by simp [PyData.weightAll]⟩
  | d :: r, h => by
    have t := smA (ds := r) fun x hx => h x (.tail _ hx)
    have o := h d (.head _)
    refine ⟨by simp [PyData.showableAll, o.s, t.s], by simp [PyData.canLayAll0, o.c, t.c], ?_, by simp [PyData.leavesShortAll, o.b, t.b], ?_⟩
    · have h1 := o.p
      have h2 := t.p
      simp only [PyData.depthAll]
      omega
    · have h1 := o.w
      have h2 := t.w
      simp only [PyData.weightAll, List.length_cons]
      omega
theorem shows_lst {ds : List PyData} (h : ∀ d ∈ ds, SmD d) (hl : ds.length ≤ 1000) : Shows (.list ds) := by
  have a := smA h
  have c : PyData.canLay0 (.list ds) = true := by simpa [PyData.canLay0] using a.c
  refine ⟨by simpa [PyData.showable] using a.s, c, ?_, ?_⟩
  · have := a.p
    simp only [PyData.depth]
    omega
  · have z := PyData.shown_le 30 (by decide) (.list ds) (by simpa [PyData.leavesShort] using a.b)
    have w := a.w
    simp only [PyData.weight] at z
    exact Nat.le_trans z (Nat.le_trans (show _ ≤ 32 * 101000 + 30 by omega) (show 32 * 101000 + 30 ≤ sizeLine by decide))
theorem shows_tup {ds : List PyData} (h : ∀ d ∈ ds, SmD d) (hl : ds.length ≤ 1000) : Shows (.tuple ds) := by
  have a := smA h
  have c : PyData.canLay0 (.tuple ds) = true := by simpa [PyData.canLay0] using a.c
  refine ⟨by simpa [PyData.showable] using a.s, c, ?_, ?_⟩
  · have := a.p
    simp only [PyData.depth]
    omega
  · have z := PyData.shown_le 30 (by decide) (.tuple ds) (by simpa [PyData.leavesShort] using a.b)
    have w := a.w
    simp only [PyData.weight] at z
    exact Nat.le_trans z (Nat.le_trans (show _ ≤ 32 * 101000 + 30 by omega) (show 32 * 101000 + 30 ≤ sizeLine by decide))
theorem smd_len {i : Int} (h0 : 0 ≤ i) (h1 : i ≤ 6) : SmD (.int i) := by
  rcases (by omega : i = 0 ∨ i = 1 ∨ i = 2 ∨ i = 3 ∨ i = 4 ∨ i = 5 ∨ i = 6) with rfl | rfl | rfl | rfl | rfl | rfl | rfl <;> exact ⟨by decide +kernel, by decide +kernel, by decide +kernel, by decide +kernel, by decide +kernel⟩
end L2G

namespace L2.BR
open PySem PySem.Spec PyProof.Rows L2.BP
variable {K : PySem.W.Frag} {W : WX} {vs : List V} {H : Hp} {Q : VK} {E : XK}
theorem c_rep01 {B : Hp} {L : Pic} {p : Addr} {v : V} {b : Bool} (h : Hs B L H) (hx : H p = some (.lst [v])) (k : ∀ l H', Hs B ((l, .lst (if b = true then [v] else [])) :: L) H' → Q (.ref l) H') : rMulU (.ref p) (.int (if b = true then 1 else 0)) H Q := by
  cases b with
  | true => exact c_rep h hx (by decide) (by decide) (small6' (by rw [List.length_singleton]; decide)) k
  | false => exact c_rep h hx (by decide) (by decide) (small6' (by rw [List.length_singleton]; decide)) k
def sp__law_word (K : PySem.W.Frag) : SpE := fun a cls d vs H Q _ => ∃ (D : Addr) (w z : Str), cls = .ref D ∧ d = none ∧ vs = [.ref a] ∧ WordOf K D w ∧ ((w = "table" ∧ z = "table") ∨ (w = "nobits" ∧ z = "bits")) ∧ RetL H Q [.str z]
theorem len__law_word {a : Addr} {cls : Value} {d : Option Addr} (h : sp__law_word K a cls d vs H Q E) : vs.length = 1 := by
  obtain ⟨D, w, z, _, _, rfl, _⟩ := h
  rfl
def t__law_word (K : PySem.W.Frag) (a : Addr) (cls : Value) (d : Option Addr) : TS :=
  (tSeq (tIfS (tB (tCB (rIsXT K a cls d) (tCons (tVar 0) (tCons (tTup (tCons (tC (.ref (He.ga K "BadBits"))) (tCons (tC (.ref (He.ga K "BadBody"))) (tCons (tC (.ref (He.ga K "BadCheck"))) (tCons (tC (.ref (He.ga K "BadCode"))) (tCons (tC (.ref (He.ga K "BadHead"))) (tCons (tC (.ref (He.ga K "BadLengths"))) (tCons (tC (.ref (He.ga K "BadLetters"))) (tCons (tC (.ref (He.ga K "BadMark"))) (tCons (tC (.ref (He.ga K "BadPieces"))) tNil)))))))))) tNil)))) (tRet (tLst (tCons (tC (.str "another")) tNil))) tNext)
    (tSeq (tIfS (tB (tCB (rIsXT K a cls d) (tCons (tVar 0) (tCons (tTup (tCons (tC (.ref (He.ga K "BadRow"))) (tCons (tC (.ref (He.ga K "BadShares"))) (tCons (tC (.ref (He.ga K "BadTail"))) (tCons (tC (.ref (He.ga K "Behind"))) (tCons (tC (.ref (He.ga K "Cut"))) (tCons (tC (.ref (He.ga K "NoRange"))) (tCons (tC (.ref (He.ga K "Over"))) tNil)))))))) tNil)))) (tRet (tLst (tCons (tC (.str "another")) tNil))) tNext)
    (tSeq (tAsg (tOp rAddU (tOp rMulU (tLst (tCons (tC (.str "table")) tNil)) (tCB (rIntK) (tCons (tCB (rIsX K a cls d) (tCons (tVar 0) (tCons (tC (.ref (He.ga K "BadTable"))) tNil))) tNil))) (tOp rMulU (tLst (tCons (tC (.str "bits")) tNil)) (tCB (rIntK) (tCons (tCB (rIsX K a cls d) (tCons (tVar 0) (tCons (tC (.ref (He.ga K "NoBits"))) tNil))) tNil)))) (gName 1))
    (tRet (tOp rAddU (tVar 1) (tOp rMulU (tLst (tCons (tC (.str "bare")) tNil)) (tCB (rIntK) (tCons (tNotV (tCB (rIsX K a cls d) (tCons (tVar 0) (tCons (tC (.ty "ValueError")) tNil)))) tNil))))))))
theorem rd__law_word {a : Addr} {cls : Value} {d : Option Addr} (h : sp__law_word K a cls d vs H Q E) : t__law_word K a cls d { nx := fun _ H' => Q .non H', rt := Q } (start ["_law_e", "_law_found"] vs) H := by
  obtain ⟨D, w, z, rfl, rfl, rfl, W, hw, q⟩ := h
  have hs := Hs.start H
  unfold t__law_word
  walk_at "go"
  rename_i t1 H1 h1
  refine c_isXT W [("bits", "BadBits"), ("body", "BadBody"), ("check", "BadCheck"), ("code", "BadCode"), ("head", "BadHead"), ("lengths", "BadLengths"), ("letters", "BadLetters"), ("mark", "BadMark"), ("pieces", "BadPieces")] (by decide) (h1.get (.head _)) ?_
  rw [show (List.any [(("bits" : Str), ("BadBits" : Str)), ("body", "BadBody"), ("check", "BadCheck"), ("code", "BadCode"), ("head", "BadHead"), ("lengths", "BadLengths"), ("letters", "BadLetters"), ("mark", "BadMark"), ("pieces", "BadPieces")] fun p => decide (p.1 = w)) = false by rcases hw with ⟨rfl, rfl⟩ | ⟨rfl, rfl⟩ <;> decide +kernel]
  have h1 := h1.drop
  walk_at "go"
  rename_i t2 H2 h2
  refine c_isXT W [("row", "BadRow"), ("shares", "BadShares"), ("tail", "BadTail"), ("behind", "Behind"), ("cut", "Cut"), ("range", "NoRange"), ("over", "Over")] (by decide) (h2.get (.head _)) ?_
  rw [show (List.any [(("row" : Str), ("BadRow" : Str)), ("shares", "BadShares"), ("tail", "BadTail"), ("behind", "Behind"), ("cut", "Cut"), ("range", "NoRange"), ("over", "Over")] fun p => decide (p.1 = w)) = false by rcases hw with ⟨rfl, rfl⟩ | ⟨rfl, rfl⟩ <;> decide +kernel]
  have h2 := h2.drop
  walk_at "go"
  refine c_isXw W (u := "table") (by decide) ?_
  walk_at "go"
  rename_i a1 G1 g1
  refine c_rep01 g1 (g1.get (.head _)) fun l1 G2 g2 => ?_
  walk_at "go"
  refine c_isXw W (u := "nobits") (by decide) ?_
  walk_at "go"
  rename_i a2 G3 g3
  refine c_rep01 g3 (g3.get (.head _)) fun l2 G4 g4 => ?_
  refine c_addL g4 (g4.get (.tail _ (.tail _ (.head _)))) (g4.get (.head _)) (small6' (by rcases hw with ⟨rfl, rfl⟩ | ⟨rfl, rfl⟩ <;> decide +kernel)) fun l3 G5 g5 => ?_
  have e : (if (decide (("table" : Str) = w)) = true then [V.str "table"] else []) ++ (if (decide (("nobits" : Str) = w)) = true then [V.str "bits"] else []) = [V.str z] := by rcases hw with ⟨rfl, rfl⟩ | ⟨rfl, rfl⟩ <;> decide +kernel
  rw [e] at g5
  have g6 := g5.drop1.drop1.drop1.drop1
  clear g1 g2 g3 g4 g5
  walk_at "go"
  refine c_isXv W.x W.v ?_
  walk_at "go"
  rename_i a3 G7 g7
  refine c_rep01 (b := false) g7 (g7.get (.head _)) fun l4 G8 g8 => ?_
  refine c_addL g8 (g8.get (.tail _ (.tail _ (.head _)))) (g8.get (.head _)) (small6' (by rw [List.length_singleton]; decide)) fun l5 G9 g9 => ?_
  walk_at "go"
  exact g9.rl (.head _) q
end L2.BR

namespace L2.BR
open PySem PySem.Spec PyProof.Rows L2.BP
variable {K : PySem.W.Frag}
structure KWBadTable (K : PySem.W.Frag) : Prop where
  x : ExcC K (He.ga K "BadTable")
  p : PySem.W.exmOne K (.ref (He.ga K "BadTable")) (.ref (He.ga K "PressError")) = some true
  v : PySem.W.kitOne K (.ref (He.ga K "BadTable")) (.type "ValueError") = some true
  f0 : PySem.W.kitOne K (.ref (He.ga K "BadTable")) (.ref (He.ga K "BadRow")) = some false
  f1 : PySem.W.kitOne K (.ref (He.ga K "BadTable")) (.ref (He.ga K "BadBits")) = some false
  f2 : PySem.W.kitOne K (.ref (He.ga K "BadTable")) (.ref (He.ga K "NoBits")) = some false
  f3 : PySem.W.kitOne K (.ref (He.ga K "BadTable")) (.ref (He.ga K "BadShares")) = some false
  f4 : PySem.W.kitOne K (.ref (He.ga K "BadTable")) (.ref (He.ga K "BadLengths")) = some false
  f5 : PySem.W.kitOne K (.ref (He.ga K "BadTable")) (.ref (He.ga K "BadCode")) = some false
  f6 : PySem.W.kitOne K (.ref (He.ga K "BadTable")) (.ref (He.ga K "BadTable")) = some true
  f7 : PySem.W.kitOne K (.ref (He.ga K "BadTable")) (.ref (He.ga K "Cut")) = some false
  f8 : PySem.W.kitOne K (.ref (He.ga K "BadTable")) (.ref (He.ga K "BadPieces")) = some false
  f9 : PySem.W.kitOne K (.ref (He.ga K "BadTable")) (.ref (He.ga K "BadBody")) = some false
  f10 : PySem.W.kitOne K (.ref (He.ga K "BadTable")) (.ref (He.ga K "BadHead")) = some false
  f11 : PySem.W.kitOne K (.ref (He.ga K "BadTable")) (.ref (He.ga K "BadCheck")) = some false
  f12 : PySem.W.kitOne K (.ref (He.ga K "BadTable")) (.ref (He.ga K "BadMark")) = some false
  f13 : PySem.W.kitOne K (.ref (He.ga K "BadTable")) (.ref (He.ga K "BadTail")) = some false
  f14 : PySem.W.kitOne K (.ref (He.ga K "BadTable")) (.ref (He.ga K "Behind")) = some false
  f15 : PySem.W.kitOne K (.ref (He.ga K "BadTable")) (.ref (He.ga K "Over")) = some false
  f16 : PySem.W.kitOne K (.ref (He.ga K "BadTable")) (.ref (He.ga K "NoRange")) = some false
  f17 : PySem.W.kitOne K (.ref (He.ga K "BadTable")) (.ref (He.ga K "BadLetters")) = some false
theorem KWBadTable.word (k : KWBadTable K) : WordOf K (He.ga K "BadTable") "table" := by
  refine ⟨k.x, k.v, fun p m => ?_, by decide +kernel⟩
  simp only [wordL, List.mem_cons, List.not_mem_nil, or_false] at m
  rcases m with rfl | rfl | rfl | rfl | rfl | rfl | rfl | rfl | rfl | rfl | rfl | rfl | rfl | rfl | rfl | rfl | rfl | rfl
  · rw [show decide (("row" : Str) = "table") = false by decide +kernel]
    exact k.f0
  · rw [show decide (("bits" : Str) = "table") = false by decide +kernel]
    exact k.f1
  · rw [show decide (("nobits" : Str) = "table") = false by decide +kernel]
    exact k.f2
  · rw [show decide (("shares" : Str) = "table") = false by decide +kernel]
    exact k.f3
  · rw [show decide (("lengths" : Str) = "table") = false by decide +kernel]
    exact k.f4
  · rw [show decide (("code" : Str) = "table") = false by decide +kernel]
    exact k.f5
  · rw [show decide (("table" : Str) = "table") = true by decide +kernel]
    exact k.f6
  · rw [show decide (("cut" : Str) = "table") = false by decide +kernel]
    exact k.f7
  · rw [show decide (("pieces" : Str) = "table") = false by decide +kernel]
    exact k.f8
  · rw [show decide (("body" : Str) = "table") = false by decide +kernel]
    exact k.f9
  · rw [show decide (("head" : Str) = "table") = false by decide +kernel]
    exact k.f10
  · rw [show decide (("check" : Str) = "table") = false by decide +kernel]
    exact k.f11
  · rw [show decide (("mark" : Str) = "table") = false by decide +kernel]
    exact k.f12
  · rw [show decide (("tail" : Str) = "table") = false by decide +kernel]
    exact k.f13
  · rw [show decide (("behind" : Str) = "table") = false by decide +kernel]
    exact k.f14
  · rw [show decide (("over" : Str) = "table") = false by decide +kernel]
    exact k.f15
  · rw [show decide (("range" : Str) = "table") = false by decide +kernel]
    exact k.f16
  · rw [show decide (("letters" : Str) = "table") = false by decide +kernel]
    exact k.f17
end L2.BR

namespace L2.BR
open PySem PySem.Spec PyProof.Rows L2.BP
variable {K : PySem.W.Frag} {W : WX} {vs : List V} {H : Hp} {Q : VK} {E : XK}
/-! ### a table put by the law (k12) -/
def sp__law_put (K : PySem.W.Frag) : Sp := fun vs H Q _ => ∃ (B : Hp) (L : Pic) (x dx f : Addr) (v : V) (g : Tg) (b : List Bool), vs = [.ref x, v] ∧ Hs B ((x, brO K dx f b) :: (f, brL b) :: L) H ∧ (∀ y z H', Hs B ((x, y) :: (f, z) :: L) H' → Th K H' v g ∧ Tg.ok K H' g) ∧ b.length ≤ 600000 ∧
  (∀ ls : List Int, g = .lst (ls.map V.int) → Tab ls → ∀ p H', Hs B ((p, .lst []) :: (x, brO K dx f (b ++ encT 0 ls)) :: (f, brL (b ++ encT 0 ls)) :: L) H' → Q (.ref p) H') ∧
  (Tg.isTab g = false → ∀ p H', Hs B ((p, .lst [.str "table"]) :: (x, brO K dx f b) :: (f, brL b) :: L) H' → Q (.ref p) H')
theorem len__law_put (h : sp__law_put K vs H Q E) : vs.length = 2 := by
  obtain ⟨B, L, x, dx, f, v, g, b, rfl, _⟩ := h
  rfl
def t__law_put (K : PySem.W.Frag) (W : WX) : TS :=
  (tSeq (tTryAs K (.ref (He.ga K "PressError")) 2 (fun W => (tDrop (tCl (sp_put_table K) [] W (tCons (tVar 0) (tCons (tVar 1) tNil)))))
    (fun a cls d => (tRet (tClE a cls d (sp__law_word K) (tCons (tVar 2) tNil)))) W)
    (tRet (tLst tNil)))
theorem rd__law_put (kWBadTable : KWBadTable K) (h : sp__law_put K vs H Q E) : t__law_put K (fun c d _ H2 => E c d H2) { nx := fun _ H' => Q .non H', rt := Q } (start ["_law_bits", "_law_table_here", "_law_e"] vs) H := by
  obtain ⟨B, L, x, dx, f, v, g, b, rfl, hs, hS, hb, q, qe⟩ := h
  unfold t__law_put
  walk_at "go"
  refine w_tryAs ?_
  walk_at "go"
  refine ⟨B, L, x, dx, f, v, g, b, rfl, hs, hS, hb, fun ls e hT H1 h1 => ?_, fun hn H1 h1 => ?_⟩
  · walk_at "go"
    exact q ls e hT _ _ (by assumption)
  · refine c_wAs kWBadTable.p fun a ha => ?_
    walk_at "go"
    refine c_clE ?_
    walk_at "go"
    refine ⟨_, "table", "table", rfl, rfl, rfl, kWBadTable.word, .inl ⟨rfl, rfl⟩, retL h1 fun p H' h' => qe hn p H' h'⟩
end L2.BR

namespace L2.BR
open PySem PySem.Spec PyProof.Rows L2.BP
variable {K : PySem.W.Frag}
structure KWNoBits (K : PySem.W.Frag) : Prop where
  x : ExcC K (He.ga K "NoBits")
  p : PySem.W.exmOne K (.ref (He.ga K "NoBits")) (.ref (He.ga K "PressError")) = some true
  v : PySem.W.kitOne K (.ref (He.ga K "NoBits")) (.type "ValueError") = some true
  f0 : PySem.W.kitOne K (.ref (He.ga K "NoBits")) (.ref (He.ga K "BadRow")) = some false
  f1 : PySem.W.kitOne K (.ref (He.ga K "NoBits")) (.ref (He.ga K "BadBits")) = some false
  f2 : PySem.W.kitOne K (.ref (He.ga K "NoBits")) (.ref (He.ga K "NoBits")) = some true
  f3 : PySem.W.kitOne K (.ref (He.ga K "NoBits")) (.ref (He.ga K "BadShares")) = some false
  f4 : PySem.W.kitOne K (.ref (He.ga K "NoBits")) (.ref (He.ga K "BadLengths")) = some false
  f5 : PySem.W.kitOne K (.ref (He.ga K "NoBits")) (.ref (He.ga K "BadCode")) = some false
  f6 : PySem.W.kitOne K (.ref (He.ga K "NoBits")) (.ref (He.ga K "BadTable")) = some false
  f7 : PySem.W.kitOne K (.ref (He.ga K "NoBits")) (.ref (He.ga K "Cut")) = some false
  f8 : PySem.W.kitOne K (.ref (He.ga K "NoBits")) (.ref (He.ga K "BadPieces")) = some false
  f9 : PySem.W.kitOne K (.ref (He.ga K "NoBits")) (.ref (He.ga K "BadBody")) = some false
  f10 : PySem.W.kitOne K (.ref (He.ga K "NoBits")) (.ref (He.ga K "BadHead")) = some false
  f11 : PySem.W.kitOne K (.ref (He.ga K "NoBits")) (.ref (He.ga K "BadCheck")) = some false
  f12 : PySem.W.kitOne K (.ref (He.ga K "NoBits")) (.ref (He.ga K "BadMark")) = some false
  f13 : PySem.W.kitOne K (.ref (He.ga K "NoBits")) (.ref (He.ga K "BadTail")) = some false
  f14 : PySem.W.kitOne K (.ref (He.ga K "NoBits")) (.ref (He.ga K "Behind")) = some false
  f15 : PySem.W.kitOne K (.ref (He.ga K "NoBits")) (.ref (He.ga K "Over")) = some false
  f16 : PySem.W.kitOne K (.ref (He.ga K "NoBits")) (.ref (He.ga K "NoRange")) = some false
  f17 : PySem.W.kitOne K (.ref (He.ga K "NoBits")) (.ref (He.ga K "BadLetters")) = some false
theorem KWNoBits.word (k : KWNoBits K) : WordOf K (He.ga K "NoBits") "nobits" := by
  refine ⟨k.x, k.v, fun p m => ?_, by decide +kernel⟩
  simp only [wordL, List.mem_cons, List.not_mem_nil, or_false] at m
  rcases m with rfl | rfl | rfl | rfl | rfl | rfl | rfl | rfl | rfl | rfl | rfl | rfl | rfl | rfl | rfl | rfl | rfl | rfl
  · rw [show decide (("row" : Str) = "nobits") = false by decide +kernel]
    exact k.f0
  · rw [show decide (("bits" : Str) = "nobits") = false by decide +kernel]
    exact k.f1
  · rw [show decide (("nobits" : Str) = "nobits") = true by decide +kernel]
    exact k.f2
  · rw [show decide (("shares" : Str) = "nobits") = false by decide +kernel]
    exact k.f3
  · rw [show decide (("lengths" : Str) = "nobits") = false by decide +kernel]
    exact k.f4
  · rw [show decide (("code" : Str) = "nobits") = false by decide +kernel]
    exact k.f5
  · rw [show decide (("table" : Str) = "nobits") = false by decide +kernel]
    exact k.f6
  · rw [show decide (("cut" : Str) = "nobits") = false by decide +kernel]
    exact k.f7
  · rw [show decide (("pieces" : Str) = "nobits") = false by decide +kernel]
    exact k.f8
  · rw [show decide (("body" : Str) = "nobits") = false by decide +kernel]
    exact k.f9
  · rw [show decide (("head" : Str) = "nobits") = false by decide +kernel]
    exact k.f10
  · rw [show decide (("check" : Str) = "nobits") = false by decide +kernel]
    exact k.f11
  · rw [show decide (("mark" : Str) = "nobits") = false by decide +kernel]
    exact k.f12
  · rw [show decide (("tail" : Str) = "nobits") = false by decide +kernel]
    exact k.f13
  · rw [show decide (("behind" : Str) = "nobits") = false by decide +kernel]
    exact k.f14
  · rw [show decide (("over" : Str) = "nobits") = false by decide +kernel]
    exact k.f15
  · rw [show decide (("range" : Str) = "nobits") = false by decide +kernel]
    exact k.f16
  · rw [show decide (("letters" : Str) = "nobits") = false by decide +kernel]
    exact k.f17
end L2.BR

namespace L2.BR
open PySem PySem.Spec PyProof.Rows L2.BP
variable {K : PySem.W.Frag} {W : WX} {vs : List V} {H : Hp} {Q : VK} {E : XK}
/-! ### a table that is not taken, by the law (k12) -/
/-- what is told of bits that hold no table -/
def TabNo (bs : List Bool) (w : Str) : Prop := (tabR 272 [] 0 bs = none ∧ w = "bits") ∨ ∃ ls rest, tabR 272 [] 0 bs = some (ls, rest) ∧ 272 < ls.length ∧ w = "table"
def sp__law_taken (K : PySem.W.Frag) : Sp := fun vs H Q _ => ∃ (B : Hp) (L : Pic) (x dx s : Addr) (t : Nat) (ns : List Int) (w : Str), vs = [.ref x] ∧ Hs B ((x, rdO K dx s t) :: (s, .lst (ns.map V.int)) :: L) H ∧ Bytes ns ∧ ns.length ≤ 100000 ∧ t ≤ 8 * ns.length ∧ TabNo ((bitsRow ns).drop t) w ∧
  ∀ p H', Hs B ((p, .lst [.str w]) :: (x, rdO K dx s t) :: (s, .lst (ns.map V.int)) :: L) H' → Q (.ref p) H'
theorem len__law_taken (h : sp__law_taken K vs H Q E) : vs.length = 1 := by
  obtain ⟨B, L, x, dx, s, t, ns, w, rfl, _⟩ := h
  rfl
def t__law_taken (K : PySem.W.Frag) (W : WX) : TS :=
  (tTryAs K (.ref (He.ga K "PressError")) 1 (fun W => (tRet (tCl (sp_take_table K) [] W (tCons (tVar 0) tNil))))
    (fun a cls d => (tRet (tClE a cls d (sp__law_word K) (tCons (tVar 1) tNil)))) W)
theorem rd__law_taken (kWBadTable : KWBadTable K) (kWNoBits : KWNoBits K) (h : sp__law_taken K vs H Q E) : t__law_taken K (fun c d _ H2 => E c d H2) { nx := fun _ H' => Q .non H', rt := Q } (start ["_law_reader", "_law_e"] vs) H := by
  obtain ⟨B, L, x, dx, s, t, ns, w, rfl, hs, hb, hl, ht, hno, q⟩ := h
  unfold t__law_taken
  walk_at "go"
  refine w_tryAs ?_
  walk_at "go"
  refine ⟨B, L, x, dx, s, t, ns, rfl, hs, hb, hl, ht, fun ls rest u e h272 _ _ p H1 h1 => ?_, fun ls rest e h272 H1 h1 => ?_, fun e H1 h1 => ?_⟩
  · rcases hno with ⟨z, _⟩ | ⟨l2, r2, z, hz, _⟩
    · rw [z] at e
      cases e
    · rw [z] at e
      cases e
      omega
  · rcases hno with ⟨z, _⟩ | ⟨l2, r2, z, hz, rfl⟩
    · rw [z] at e
      cases e
    · refine c_wAs kWBadTable.p fun a ha => ?_
      walk_at "go"
      refine c_clE ?_
      walk_at "go"
      exact ⟨_, "table", "table", rfl, rfl, rfl, kWBadTable.word, .inl ⟨rfl, rfl⟩, retL h1 fun p H' h' => q p H' h'⟩
  · rcases hno with ⟨z, rfl⟩ | ⟨l2, r2, z, _, _⟩
    · refine c_wAs kWNoBits.p fun a ha => ?_
      walk_at "go"
      refine c_clE ?_
      walk_at "go"
      exact ⟨_, "nobits", "bits", rfl, rfl, rfl, kWNoBits.word, .inr ⟨rfl, rfl⟩, retL h1 fun p H' h' => q p H' h'⟩
    · rw [z] at e
      cases e
end L2.BR

namespace L2.BR
open PySem PySem.Spec PyProof.Rows L2.BP
/-! ### bits that hold no table (k12) -/
theorem tabR_un {k : Nat} {f : List Int} {last : Int} (hl : f.length < 272) (bs : List Bool) : tabR (k + 1) f last bs = if bs.length < 3 then none else if nxt 3 bs = 7 then (if (bs.drop 3).length < 6 then none else tabR k (f ++ List.replicate (nxt 6 (bs.drop 3) + 3) last) last ((bs.drop 3).drop 6))
      else tabR k (f ++ [((nxt 3 bs : Nat) : Int)]) ((nxt 3 bs : Nat) : Int) (bs.drop 3) := if_pos hl
theorem tabR_end {k : Nat} {f : List Int} {last : Int} (hl : ¬ f.length < 272) (bs : List Bool) : tabR k f last bs = some (f, bs) := by
  cases k with
  | zero => rfl
  | succ k => exact if_neg hl
/-- so many lengths are told by these bits, whatever follows -/
def Rds (b : List Bool) (n : Nat) : Prop := ∃ (fl : List Int) (last : Int) (m : Nat), fl.length = n ∧ 272 ≤ n + m ∧ ∀ c, tabR 272 [] 0 (b ++ c) = tabR m fl last c
theorem rds_nil : Rds [] 0 := ⟨[], 0, 272, rfl, by decide, fun _ => rfl⟩
theorem rds_one {b : List Bool} {n x : Nat} (h : Rds b n) (hn : n < 272) (hx : x < 7) : Rds (b ++ bitsOf x 3) (n + 1) := by
  obtain ⟨fl, last, m, hl, hm, q⟩ := h
  obtain ⟨m, rfl⟩ : ∃ k, m = k + 1 := ⟨m - 1, by omega⟩
  refine ⟨fl ++ [((x : Nat) : Int)], ((x : Nat) : Int), m, by rw [List.length_append, List.length_singleton, hl], by omega, fun c => ?_⟩
  obtain ⟨a1, b1, c1⟩ := nxt_of (v := x) (k := 3) (by show _ < 8; omega) c
  rw [List.append_assoc, q, tabR_un (by omega), if_neg (by omega), a1, if_neg (by omega), b1]
theorem rds_more {b : List Bool} {n v : Nat} (h : Rds b n) (hn : n < 272) (hv : v < 64) : Rds (b ++ bitsOf 7 3 ++ bitsOf v 6) (n + (v + 3)) := by
  obtain ⟨fl, last, m, hl, hm, q⟩ := h
  obtain ⟨m, rfl⟩ : ∃ k, m = k + 1 := ⟨m - 1, by omega⟩
  refine ⟨fl ++ List.replicate (v + 3) last, last, m, by rw [List.length_append, List.length_replicate, hl], by omega, fun c => ?_⟩
  obtain ⟨a1, b1, c1⟩ := nxt_of (v := 7) (k := 3) (by decide) (bitsOf v 6 ++ c)
  obtain ⟨a2, b2, c2⟩ := nxt_of (v := v) (k := 6) (by show _ < 64; omega) c
  rw [List.append_assoc, List.append_assoc, q, tabR_un (by omega), if_neg (by omega), a1, if_pos rfl, b1, if_neg (by omega), a2, b2]
/-- too many -/
theorem rds_over {b : List Bool} {n : Nat} (h : Rds b n) (hn : 272 < n) (c : List Bool) : TabNo (b ++ c) "table" := by
  obtain ⟨fl, last, m, hl, hm, q⟩ := h
  exact .inr ⟨fl, c, by rw [q, tabR_end (by omega)], by omega, rfl⟩
/-- the bits end within a stretch -/
theorem rds_few {b d : List Bool} {n : Nat} (h : Rds b n) (hn : n < 272) (hd : d.length < 6) : TabNo (b ++ bitsOf 7 3 ++ d) "bits" := by
  obtain ⟨fl, last, m, hl, hm, q⟩ := h
  obtain ⟨m, rfl⟩ : ∃ k, m = k + 1 := ⟨m - 1, by omega⟩
  obtain ⟨a1, b1, c1⟩ := nxt_of (v := 7) (k := 3) (by decide) d
  exact .inl ⟨by rw [List.append_assoc, q, tabR_un (by omega), if_neg (by omega), a1, if_pos rfl, b1, if_pos hd], rfl⟩
/-- what is told of bits is told of more bits -/
theorem tabR_app (c : List Bool) : ∀ (k : Nat) (f : List Int) (last : Int) (bs : List Bool) (ls : List Int) (r : List Bool), tabR k f last bs = some (ls, r) → tabR k f last (bs ++ c) = some (ls, r ++ c)
  | 0, f, last, bs, ls, r, h => by
    cases h
    rfl
  | k + 1, f, last, bs, ls, r, h => by
    by_cases z : f.length < 272
    · rw [tabR_un z] at h ⊢
      by_cases z3 : bs.length < 3
      · rw [if_pos z3] at h
        cases h
      rw [if_neg z3] at h
      have e1 : nxt 3 (bs ++ c) = nxt 3 bs := by unfold nxt; rw [List.take_append_of_le_length (by omega)]
      have e2 : (bs ++ c).drop 3 = bs.drop 3 ++ c := List.drop_append_of_le_length (by omega)
      rw [if_neg (by rw [List.length_append]; omega), e1, e2]
      by_cases z7 : nxt 3 bs = 7
      · rw [if_pos z7] at h ⊢
        by_cases z6 : (bs.drop 3).length < 6
        · rw [if_pos z6] at h
          cases h
        rw [if_neg z6] at h
        have e3 : nxt 6 (bs.drop 3 ++ c) = nxt 6 (bs.drop 3) := by unfold nxt; rw [List.take_append_of_le_length (by omega)]
        have e4 : (bs.drop 3 ++ c).drop 6 = (bs.drop 3).drop 6 ++ c := List.drop_append_of_le_length (by omega)
        rw [if_neg (by rw [List.length_append]; omega), e3, e4]
        exact tabR_app c k _ _ _ _ _ h
      · rw [if_neg z7] at h ⊢
        exact tabR_app c k _ _ _ _ _ h
    · rw [tabR_end z] at h ⊢
      cases h
      rfl
/-- a beginning of a table's bits is too short -/
theorem tab_short {ls : List Int} (hT : Tab ls) {m : Nat} (hm : m < (encT 0 ls).length) : TabNo ((encT 0 ls).take m) "bits" := by
  refine .inl ⟨?_, rfl⟩
  cases e : tabR 272 [] 0 ((encT 0 ls).take m) with
  | none => rfl
  | some p =>
    obtain ⟨l2, r2⟩ := p
    obtain ⟨its, h1, h2⟩ := enc_items ls.length 0 ls (Nat.le_refl _)
    have a := tab_good (tail := []) hT h1
    rw [h2, List.append_nil] at a
    have b := tabR_app ((encT 0 ls).drop m) _ _ _ _ _ _ e
    rw [List.take_append_drop, a] at b
    have z := congrArg List.length (congrArg Prod.snd (Option.some.inj b))
    rw [List.length_append, List.length_drop, List.length_nil] at z
    omega
/-- how many lengths bits tell -/
theorem tabR_most : ∀ (k : Nat) (f : List Int) (last : Int) (bs : List Bool) (ls : List Int) (r : List Bool), tabR k f last bs = some (ls, r) → 3 * ls.length ≤ 3 * f.length + 22 * bs.length
  | 0, f, last, bs, ls, r, h => by
    cases h
    omega
  | k + 1, f, last, bs, ls, r, h => by
    by_cases z : f.length < 272
    · rw [tabR_un z] at h
      by_cases z3 : bs.length < 3
      · rw [if_pos z3] at h
        cases h
      rw [if_neg z3] at h
      by_cases z7 : nxt 3 bs = 7
      · rw [if_pos z7] at h
        by_cases z6 : (bs.drop 3).length < 6
        · rw [if_pos z6] at h
          cases h
        rw [if_neg z6] at h
        have w := tabR_most k _ _ _ _ _ h
        have n6 : nxt 6 (bs.drop 3) < 64 := by
          have z := numOf_lt ((bs.drop 3).take 6)
          rw [List.length_take, Nat.min_eq_left (by omega)] at z
          exact z
        rw [List.length_append, List.length_replicate, List.length_drop, List.length_drop] at w
        rw [List.length_drop] at z6
        omega
      · rw [if_neg z7] at h
        have w := tabR_most k _ _ _ _ _ h
        rw [List.length_append, List.length_singleton, List.length_drop] at w
        omega
    · rw [tabR_end z] at h
      cases h
      omega
theorem tab_little {bs : List Bool} (h : bs.length ≤ 36) : TabNo bs "bits" := by
  refine .inl ⟨?_, rfl⟩
  cases e : tabR 272 [] 0 bs with
  | none => rfl
  | some p =>
    obtain ⟨l2, r2⟩ := p
    have a := tabR_most _ _ _ _ _ _ e
    have b := tab_len _ _ _ _ _ _ e (by decide)
    rw [List.length_nil] at a
    omega
theorem isTab_tab {ls : List Int} (h : Tab ls) : Tg.isTab (.lst (ls.map V.int)) = true := by
  show (decide ((ls.map V.int).length = 272) && (ls.map V.int).all tabV) = true
  rw [List.length_map, decide_eq_true h.1, Bool.true_and, List.all_eq_true]
  intro x hx
  obtain ⟨i, hi, rfl⟩ := List.mem_map.mp hx
  have z := h.2 i hi
  show (decide (0 ≤ i) && decide (i ≤ 6)) = true
  rw [decide_eq_true z.1, decide_eq_true z.2]
  rfl
theorem pad8_app (b : List Bool) : ∃ c, pad8 b = b ++ c := ⟨_, rfl⟩
theorem enc_pos {ls : List Int} (h : Tab ls) : 0 < (encT 0 ls).length := by
  cases ls with
  | nil => exact absurd h.1 (by decide)
  | cons x r =>
    by_cases c : 3 ≤ more 0 (x :: r)
    · rw [encT_more c, List.append_assoc, List.length_append, bitsOf_length]
      omega
    · rw [encT_one c, List.length_append, bitsOf_length]
      omega
/-- the bits of so many bytes of a row -/
theorem bits_cut {b : List Bool} {m : Nat} (h : m < (rowOf b).length) : bitsRow ((rowOf b).take m) = b.take (8 * m) ∧ 8 * m < b.length := by
  rw [rowOf_length] at h
  refine ⟨?_, by omega⟩
  rw [bitsRow_take, bitsRow_rowOf]
  unfold pad8
  rw [List.take_append_of_le_length (by omega)]
theorem pad8_whole {b : List Bool} (h : b.length % 8 = 0) : pad8 b = b := by
  unfold pad8
  rw [h]
  simp
end L2.BR

namespace L2.BR
open PySem PySem.Spec PyProof.Rows L2.BP
variable {K : PySem.W.Frag} {W : WX} {vs : List V} {H : Hp} {Q : VK} {E : XK}
/-! ### a table's bits cut by the law (k12) -/
def sp__law_cut (K : PySem.W.Frag) : Sp := fun vs H Q _ => ∃ (B : Hp) (L : Pic) (a : Addr) (ls : List Int) (n : Int), vs = [.ref a, .int n] ∧ Hs B L H ∧ SqL K B a (ls.map V.int) ∧ Tab ls ∧ 0 ≤ n ∧
  ∀ m x dx f H', m < (rowOf (encT 0 ls)).length → Hs B ((x, brO K dx f (bitsRow ((rowOf (encT 0 ls)).take m))) :: (f, brL (bitsRow ((rowOf (encT 0 ls)).take m))) :: L) H' → Q (.ref x) H'
theorem len__law_cut (h : sp__law_cut K vs H Q E) : vs.length = 2 := by
  obtain ⟨B, L, a, ls, n, rfl, _⟩ := h
  rfl
def t__law_cut (K : PySem.W.Frag) (W : WX) : TS :=
  (tSeq (tAsg (tMk (He.ga K "BitRow") (sp_BitRow___init__ K) [] W tNil) (gName 2))
    (tSeq (tDrop (tCl (sp_put_table K) [] W (tCons (tVar 2) (tCons (tVar 0) tNil))))
    (tSeq (tAsg (tMt (He.ga K "BitRow") "row" (sp_BitRow_row K) [] W (tVar 2) tNil) (gName 3))
    (tSeq (tAsg (tOp rModU (tVar 1) (tCB (rLenK K) (tCons (tVar 3) tNil))) (gName 4))
    (tSeq (tAsg (tMk (He.ga K "BitRow") (sp_BitRow___init__ K) [] W tNil) (gName 5))
    (tSeq (tFor (iList K (tSl (rSlK K) (tVar 3) tNoPart (tPart (tVar 4)))) (gName 6) (tDrop (tMt (He.ga K "BitRow") "put" (sp_BitRow_put K) [] W (tVar 5) (tCons (tVar 6) (tCons (tC (.int 8)) tNil)))))
    (tRet (tVar 5))))))))
theorem rd__law_cut (h : sp__law_cut K vs H Q E) : t__law_cut K (fun c d _ H2 => E c d H2) { nx := fun _ H' => Q .non H', rt := Q } (start ["_law_table_here", "_law_number", "_law_bits", "_law_row", "_law_many", "_law_cut_here", "_law_byte"] vs) H := by
  obtain ⟨B, L, a, ls, n, rfl, hs, haS, hT, hn, q⟩ := h
  unfold t__law_cut
  walk_at "go"
  rename_i x dx H1 h1
  refine ⟨B, L, x, dx, rfl, h1, fun f H2 h2 => ⟨rfl, ?_⟩⟩
  clear h1 hs
  walk_at "go"
  refine ⟨B, L, x, dx, f, .ref a, .lst (ls.map V.int), [], rfl, h2, fun y z H' h' => ⟨.lst (h'.bl haS), ok_ints (by rw [hT.1]; decide)⟩, by decide, fun ls' e hT' H3 h3 => ?_, fun z => ?_⟩
  rotate_left
  · rw [isTab_tab hT] at z
    cases z
  obtain rfl : ls = ls' := map_int_inj (Tg.lst.inj e)
  rw [List.nil_append] at h3
  clear h2
  have hpos : 0 < (rowOf (encT 0 ls)).length := by rw [rowOf_length]; have := enc_pos hT; omega
  have hfew : (rowOf (encT 0 ls)).length ≤ 400 := by rw [rowOf_length]; have := encT_few hT; omega
  have hby := rowOf_bytes (encT 0 ls)
  walk_at "go"
  refine ⟨B, L, x, dx, f, _, rfl, h3, by have := encT_few hT; omega, retL h3 fun r H4 h4 => ?_⟩
  generalize rowOf (encT 0 ls) = row at *
  have h4 := h4.drop1.drop1
  clear h3
  walk_at "go"
  rw [List.length_map]
  refine c_mod (by omega) ?_
  obtain ⟨M, hM⟩ := Int.eq_ofNat_of_zero_le (Int.emod_nonneg n (show (((row.length : Nat) : Int)) ≠ 0 by omega))
  have hM2 : M < row.length := by have := Int.emod_lt_of_pos n (show (0 : Int) < ((row.length : Nat) : Int) by omega); omega
  rw [hM]
  walk_at "go"
  rename_i x2 dx2 H5 h5
  refine ⟨B, _, x2, dx2, rfl, h5, fun f2 H6 h6 => ⟨rfl, ?_⟩⟩
  clear h5 h4
  walk_at "go"
  rename_i a3 H7 h7
  rw [cut_take] at h7
  have h8 := Hs.mv [_] [_, _] h7
  clear h7 h6
  have hby3 : Bytes (row.take M) := fun n hn => hby n (List.mem_of_mem_take hn)
  have hl3 : (row.take M).length ≤ 400 := by rw [List.length_take]; omega
  have q := q M x2 dx2 f2
  generalize row.take M = cs at *
  refine w_forL V.int cs (fun pre σ' L' B' => ∃ w6, σ' = [some (.ref a), some (.int n), some (.ref x), some (.ref r), some (.int ((M : Nat) : Int)), some (.ref x2), w6] ∧ B' = B ∧ L' = (x2, brO K dx2 f2 (bitsRow pre)) :: (f2, brL (bitsRow pre)) :: (a3, .lst (cs.map V.int)) :: (r, .lst (row.map V.int)) :: L) h8 ⟨none, rfl, rfl, rfl⟩ ?_ ?_ ?_
  · rintro pre post σ' L' B' H' _ ⟨w6, rfl, rfl, rfl⟩ h
    exact h.sql (.tail _ (.tail _ (.head _)))
  · rintro pre m post σ' L' B' H' e ⟨w6, rfl, rfl, rfl⟩ h
    have hm := hby3 m (by rw [e]; simp)
    have hpl : pre.length < cs.length := by rw [e]; simp
    walk_at "go"
    refine use_put (n := m.toNat) (s := 8) (by omega) rfl h (by rw [bitsRow_length]; omega) (by decide) (by show _ < 256; omega) fun H8 h9 => ?_
    rw [← bitsRow_snoc] at h9
    walk_at "go"
    exact ⟨_, _, ⟨_, rfl, rfl, rfl⟩, h9⟩
  · rintro σ' L' B' H' ⟨w6, rfl, rfl, rfl⟩ h
    walk_at "go"
    exact q _ hM2 h.drop2.drop2
end L2.BR

namespace L2.BR
open PySem PySem.Spec PyProof.Rows L2.BP
variable {K : PySem.W.Frag} {W : WX} {vs : List V} {H : Hp} {Q : VK} {E : XK}
/-! ### refused twice, nothing taken (k12) -/
def sp__law_taking_right (K : PySem.W.Frag) : Sp := fun vs H Q _ => ∃ (B : Hp) (L : Pic) (x dx f d : Addr) (b : List Bool) (w : Str) (t : Nat), vs = [.ref x, .ref d, .int ((t : Nat) : Int)] ∧ Hs B ((x, brO K dx f b) :: (f, brL b) :: L) H ∧ SqL K B d [.str w] ∧ b.length ≤ 700000 ∧ t ≤ 24 ∧ t ≤ (pad8 b).length ∧ TabNo ((pad8 b).drop t) w ∧
  ∀ H', Hs B L H' → Q (.bl true) H'
theorem len__law_taking_right (h : sp__law_taking_right K vs H Q E) : vs.length = 3 := by
  obtain ⟨B, L, x, dx, f, d, b, w, t, rfl, _⟩ := h
  rfl
def t__law_taking_right (K : PySem.W.Frag) (W : WX) : TS :=
  (tSeq (tAsg (tMt (He.ga K "BitRow") "row" (sp_BitRow_row K) [] W (tVar 0) tNil) (gName 3))
    (tSeq (tAsg (tMk (He.ga K "BitReader") (sp_BitReader___init__ K) [] W (tCons (tVar 3) tNil)) (gName 4))
    (tSeq (tAsg (tMt (He.ga K "BitReader") "take" (sp_BitReader_take K) [] W (tVar 4) (tCons (tVar 2) tNil)) (gName 5))
    (tSeq (tAsg (tMt (He.ga K "BitReader") "left" (sp_BitReader_left K) [] W (tVar 4) tNil) (gName 6))
    (tSeq (tFor (iRng1 (tCons (tC (.int 2)) tNil)) (gName 7) (tIfS ((tOr (tTest (tOp (rNeU K) (tCl (sp__law_taken K) [] W (tCons (tVar 4) tNil)) (tVar 1))) (tTest (tOp (rNeU K) (tMt (He.ga K "BitReader") "left" (sp_BitReader_left K) [] W (tVar 4) tNil) (tVar 6))))) (tRet (tC (.bl false))) tNext))
    (tSeq (tAsg (tMk (He.ga K "BitReader") (sp_BitReader___init__ K) [] W (tCons (tVar 3) tNil)) (gName 8))
    (tSeq (tIfS (tTest (tOp (rNeU K) (tMt (He.ga K "BitReader") "take" (sp_BitReader_take K) [] W (tVar 8) (tCons (tVar 2) tNil)) (tVar 5))) (tRet (tC (.bl false))) tNext)
    (tSeq (tWhile (tTest (tOp rGtU (tMt (He.ga K "BitReader") "left" (sp_BitReader_left K) [] W (tVar 8) tNil) (tC (.int 0)))) (tSeq (tAsg (tCB (rMin2K) (tCons (tMt (He.ga K "BitReader") "left" (sp_BitReader_left K) [] W (tVar 8) tNil) (tCons (tC (.int 24)) tNil))) (gName 9))
    (tIfS (tTest (tOp (rNeU K) (tMt (He.ga K "BitReader") "take" (sp_BitReader_take K) [] W (tVar 4) (tCons (tVar 9) tNil)) (tMt (He.ga K "BitReader") "take" (sp_BitReader_take K) [] W (tVar 8) (tCons (tVar 9) tNil)))) (tRet (tC (.bl false))) tNext)))
    (tRet (tOp (rEqU K) (tMt (He.ga K "BitReader") "left" (sp_BitReader_left K) [] W (tVar 4) tNil) (tC (.int 0))))))))))))
theorem rd__law_taking_right (kBitReader : KBitReader K) (h : sp__law_taking_right K vs H Q E) : t__law_taking_right K (fun c d _ H2 => E c d H2) { nx := fun _ H' => Q .non H', rt := Q } (start ["_law_bits", "_law_due", "_law_lead", "_law_row", "_law_reader", "_law_first", "_law_left", "_law_turn", "_law_other", "_law_size"] vs) H := by
  obtain ⟨B, L, x, dx, f, d, b, w, t, rfl, hs, hd, hb, ht, htl, hno, q⟩ := h
  unfold t__law_taking_right
  walk_at "go"
  refine ⟨B, L, x, dx, f, b, rfl, hs, hb, retL hs fun r H1 h1 => ?_⟩
  have hrl : (rowOf b).length ≤ 100000 := by rw [rowOf_length]; omega
  have hby : Bytes (rowOf b) := rowOf_bytes b
  rw [← bitsRow_rowOf] at hno htl
  rw [bitsRow_length] at htl
  generalize rowOf b = row at *
  have h1 := h1.drop1.drop1
  clear hs
  have hr1 := h1.sql (K := K) (.head _)
  walk_at "go"
  rename_i x1 dx1 H2 h2
  refine ⟨B, _, x1, dx1, .ref r, .lst (row.map V.int), rfl, h2, .lst (h2.sql (.tail _ (.head _))), ok_ints hrl, fun ns e hb2 s H3 h3 => ⟨rfl, ?_⟩, fun z => ?_⟩
  rotate_left
  · rw [show Tg.isRow (.lst (row.map V.int)) = true from all_byteV hby] at z
    cases z
  obtain rfl : row = ns := map_int_inj (Tg.lst.inj e)
  clear h2 h1 hr1
  walk_at "go"
  refine use_take t rfl h3 hby hrl ht (by omega) fun H4 h4 => ?_
  rw [Nat.zero_add] at h4
  clear h3
  walk_at "go"
  refine ⟨B, _, x1, dx1, s, t, row, rfl, h4, ?_⟩
  walk_at "go"
  generalize hF : ((takenNum row 0 t : Nat) : Int) = F at *
  have hw : [V.str w].all L2.BP.flatV = true := by
    rcases hno with ⟨_, rfl⟩ | ⟨_, _, _, _, rfl⟩ <;> decide +kernel
  refine ⟨2, rfl, by decide, by decide, ?_⟩
  refine w_forR (fun i σ' L' B' => ∃ w7, σ' = [some (.ref x), some (.ref d), some (.int ((t : Nat) : Int)), some (.ref r), some (.ref x1), some (.int F), some (.int (8 * ((row.length : Nat) : Int) - ((t : Nat) : Int))), w7, none, none] ∧ B' = B ∧ L' = (x1, rdO K dx1 s t) :: (s, .lst (row.map V.int)) :: (r, .lst (row.map V.int)) :: L) h4 ⟨none, rfl, rfl, rfl⟩ ?_ ?_
  · rintro i σ' L' B' H5 _ ⟨w7, rfl, rfl, rfl⟩ h5
    walk_at "go"
    refine ⟨B', _, x1, dx1, s, t, row, w, rfl, h5, hby, hrl, by omega, hno, fun p H6 h6 => ?_⟩
    clear h5
    walk_at "go"
    refine c_neSame (n := 1) (h6.sql (.head _)) (h6.bl hd) (.flat hw) (by decide) ?_
    have h7 := h6.drop
    clear h6
    walk_at "go"
    refine ⟨B', _, x1, dx1, s, t, row, rfl, h7, ?_⟩
    walk_at "go"
    exact ⟨_, _, ⟨_, rfl, rfl, rfl⟩, h7⟩
  · rintro σ' L' B' H5 ⟨w7, rfl, rfl, rfl⟩ h5
    clear h4
    walk_at "go"
    rename_i x2 dx2 H6 h6
    refine ⟨B', _, x2, dx2, .ref r, .lst (row.map V.int), rfl, h6, .lst (h6.sql (.tail _ (.tail _ (.tail _ (.head _))))), ok_ints hrl, fun ns e hb2 s2 H7 h7 => ⟨rfl, ?_⟩, fun z => ?_⟩
    rotate_left
    · rw [show Tg.isRow (.lst (row.map V.int)) = true from all_byteV hby] at z
      cases z
    obtain rfl : row = ns := map_int_inj (Tg.lst.inj e)
    clear h6 h5
    walk_at "go"
    refine use_take t rfl h7 hby hrl ht (by omega) fun H8 h8 => ?_
    rw [Nat.zero_add] at h8
    rw [hF]
    clear h7
    walk_at "go"
    refine w_while (fun m σ' L' B2 => ∃ (u : Nat) (w9 : Option V), u + m = 8 * row.length ∧ σ' = [some (.ref x), some (.ref d), some (.int ((t : Nat) : Int)), some (.ref r), some (.ref x1), some (.int F), some (.int (8 * ((row.length : Nat) : Int) - ((t : Nat) : Int))), w7, some (.ref x2), w9] ∧ B2 = B' ∧
      L' = (x2, rdO K dx2 s2 u) :: (s2, .lst (row.map V.int)) :: (x1, rdO K dx1 s u) :: (s, .lst (row.map V.int)) :: (r, .lst (row.map V.int)) :: L) (8 * row.length - t) h8 ⟨t, none, by omega, rfl, rfl, rfl⟩ ?_
    rintro m σ' L' B2 H9 ⟨u, w9, hum, rfl, rfl, rfl⟩ h9
    clear h8
    walk_at "go"
    refine ⟨B2, _, x2, dx2, s2, u, row, rfl, h9, ?_⟩
    walk_at "go"
    by_cases hm : 0 < m
    · refine i_t (decide_eq_true (by omega)) (w_turn ?_)
      walk_at "go"
      refine ⟨B2, _, x2, dx2, s2, u, row, rfl, h9, ?_⟩
      walk_at "go"
      obtain ⟨k, ek, hk1, hk2, hk3⟩ : ∃ k : Nat, (if (24 : Int) < 8 * ((row.length : Nat) : Int) - ((u : Nat) : Int) then (24 : Int) else 8 * ((row.length : Nat) : Int) - ((u : Nat) : Int)) = ((k : Nat) : Int) ∧ 1 ≤ k ∧ k ≤ 24 ∧ u + k ≤ 8 * row.length := by
        split
        · exact ⟨24, rfl, by omega, by omega, by omega⟩
        · exact ⟨m, by omega, by omega, by omega, by omega⟩
      rw [ek]
      have h10 := Hs.mv [_, _] [_, _] h9
      clear h9
      walk_at "go"
      refine use_take k rfl h10 hby hrl hk2 hk3 fun H11 h11 => ?_
      have h12 := Hs.mv [_, _] [_, _] h11
      clear h11 h10
      walk_at "go"
      refine use_take k rfl h12 hby hrl hk2 hk3 fun H13 h13 => ?_
      clear h12
      walk_at "go"
      exact ⟨m - k, by omega, _, _, ⟨u + k, _, by omega, rfl, rfl, rfl⟩, h13⟩
    · refine i_f (decide_eq_false (by omega)) ?_
      have h10 := Hs.mv [_, _] [_, _] h9
      clear h9
      walk_at "go"
      refine ⟨B2, _, x1, dx1, s, u, row, rfl, h10, ?_⟩
      walk_at "go"
      rw [decide_eq_true (by omega : 8 * ((row.length : Nat) : Int) - ((u : Nat) : Int) = 0)]
      exact q _ h10.drop.drop.drop.drop.drop
end L2.BR

namespace L2.BR
open PySem PySem.Spec PyProof.Rows L2.BP
variable {K : PySem.W.Frag} {W : WX} {vs : List V} {H : Hp} {Q : VK} {E : XK}
/-! ### items of too many lengths (k12) -/
def sp__law_too_many (K : PySem.W.Frag) : Sp := fun vs H Q _ => ∃ (B : Hp) (L : Pic) (n : Int), vs = [.int n] ∧ Hs B L H ∧ 0 ≤ n ∧
  ∀ x dx f b H', (∀ c, TabNo (b ++ c) "table") → b.length ≤ 5000 → Hs B ((x, brO K dx f b) :: (f, brL b) :: L) H' → Q (.ref x) H'
theorem len__law_too_many (h : sp__law_too_many K vs H Q E) : vs.length = 1 := by
  obtain ⟨B, L, n, rfl, _⟩ := h
  rfl
def t__law_too_many (K : PySem.W.Frag) (W : WX) : TS :=
  (tSeq (tAsg (tMk (He.ga K "BitRow") (sp_BitRow___init__ K) [] W tNil) (gName 1))
    (tSeq (tDrop (tMt (He.ga K "BitRow") "put" (sp_BitRow_put K) [] W (tVar 1) (tCons (tOp rModU (tVar 0) (tC (.int 7))) (tCons (tC (.int 3)) tNil))))
    (tSeq (tAsg (tC (.int 271)) (gName 2))
    (tSeq (tWhile (tTest (tOp rGtU (tVar 2) (tOp rAddU (tC (.int 66)) (tOp rModU (tOp rDivU (tVar 0) (tC (.int 8))) (tC (.int 60)))))) (tSeq (tAsg (tOp rModU (tOp rMulU (tVar 0) (tC (.int 48271))) (tC (.int 2147483647))) (gName 0))
    (tSeq (tAsg (tCB (rMin2K) (tCons (tOp rSubU (tVar 2) (tC (.int 3))) (tCons (tOp rAddU (tC (.int 3)) (tOp rModU (tVar 0) (tC (.int 64)))) tNil))) (gName 3))
    (tSeq (tDrop (tMt (He.ga K "BitRow") "put" (sp_BitRow_put K) [] W (tVar 1) (tCons (tC (.int 7)) (tCons (tC (.int 3)) tNil))))
    (tSeq (tDrop (tMt (He.ga K "BitRow") "put" (sp_BitRow_put K) [] W (tVar 1) (tCons (tOp rSubU (tVar 3) (tC (.int 3))) (tCons (tC (.int 6)) tNil))))
    (tAug 2 (tVar 3) ipSubU))))))
    (tSeq (tWhile ((tOr (tTest (tOp rGtU (tVar 2) (tC (.int 65)))) ((tAnd (tTest (tOp rGtU (tVar 2) (tC (.int 2)))) (tTest (tOp rGtU (tOp rModU (tOp rDivU (tVar 0) (tC (.int 64))) (tC (.int 3))) (tC (.int 0)))))))) (tSeq (tDrop (tMt (He.ga K "BitRow") "put" (sp_BitRow_put K) [] W (tVar 1) (tCons (tOp rModU (tVar 0) (tC (.int 7))) (tCons (tC (.int 3)) tNil))))
    (tSeq (tAug 2 (tC (.int 1)) ipSubU)
    (tAsg (tOp rAddU (tOp rDivU (tVar 0) (tC (.int 3))) (tC (.int 12345))) (gName 0)))))
    (tSeq (tDrop (tMt (He.ga K "BitRow") "put" (sp_BitRow_put K) [] W (tVar 1) (tCons (tC (.int 7)) (tCons (tC (.int 3)) tNil))))
    (tSeq (tDrop (tMt (He.ga K "BitRow") "put" (sp_BitRow_put K) [] W (tVar 1) (tCons (tOp rAddU (tCB (rMax2K) (tCons (tOp rSubU (tVar 2) (tC (.int 2))) (tCons (tC (.int 0)) tNil))) (tOp rModU (tOp rDivU (tVar 0) (tC (.int 9))) (tOp rSubU (tC (.int 64)) (tCB (rMax2K) (tCons (tOp rSubU (tVar 2) (tC (.int 2))) (tCons (tC (.int 0)) tNil)))))) (tCons (tC (.int 6)) tNil))))
    (tRet (tVar 1)))))))))
theorem rd__law_too_many (h : sp__law_too_many K vs H Q E) : t__law_too_many K (fun c d _ H2 => E c d H2) { nx := fun _ H' => Q .non H', rt := Q } (start ["_law_number", "_law_bits", "_law_room", "_law_more"] vs) H := by
  obtain ⟨B, L, n, rfl, hs, hn, q⟩ := h
  unfold t__law_too_many
  walk_at "go"
  rename_i x dx H1 h1
  refine ⟨B, L, x, dx, rfl, h1, fun f H2 h2 => ⟨rfl, ?_⟩⟩
  clear h1 hs
  walk_at "go"
  obtain ⟨n7, hn7, h7⟩ : ∃ m : Nat, n % 7 = ((m : Nat) : Int) ∧ m < 7 := ⟨(n % 7).toNat, by omega, by omega⟩
  refine use_put (n := n7) (s := 3) hn7 rfl h2 (by decide) (by decide) (by show _ < 8; omega) fun H3 h3 => ?_
  rw [List.nil_append] at h3
  clear h2
  have hr : Rds (bitsOf n7 3) 1 := rds_one rds_nil (by decide) h7
  walk_at "go"
  refine w_while (fun m σ' L' B' => ∃ (n : Int) (b : List Bool) (w3 : Option V), 0 ≤ n ∧ 3 ≤ m ∧ m ≤ 271 ∧ Rds b (272 - m) ∧ b.length + 9 * m ≤ 2448 ∧ σ' = [some (.int n), some (.ref x), some (.int ((m : Nat) : Int)), w3] ∧ B' = B ∧ L' = (x, brO K dx f b) :: (f, brL b) :: L) 271 h3
    ⟨n, _, none, hn, by decide, by decide, hr, by rw [bitsOf_length]; decide, rfl, rfl, rfl⟩ ?_
  rintro m σ' L' B' H' ⟨n, b, w3, hn, hr1, hr2, hR, hbl, rfl, rfl, rfl⟩ h
  clear h3 hr
  walk_at "go"
  by_cases hlt : 66 + n / 8 % 60 < ((m : Nat) : Int)
  · refine i_t (decide_eq_true hlt) (w_turn ?_)
    have h8 : 0 ≤ n / 8 % 60 := Int.emod_nonneg _ (by decide)
    walk_at "go"
    have hn2 : 0 ≤ n * 48271 % 2147483647 := Int.emod_nonneg _ (by decide)
    generalize n * 48271 % 2147483647 = n2 at *
    have hk : ∃ k : Nat, (if 3 + n2 % 64 < ((m : Nat) : Int) - 3 then 3 + n2 % 64 else ((m : Nat) : Int) - 3) = ((k : Nat) : Int) ∧ 3 ≤ k ∧ k ≤ 66 ∧ k + 3 ≤ m := by
      split
      · exact ⟨(3 + n2 % 64).toNat, by omega, by omega, by omega, by omega⟩
      · exact ⟨m - 3, by omega, by omega, by omega, by omega⟩
    obtain ⟨k, ek, hk1, hk2, hk3⟩ := hk
    rw [ek]
    walk_at "go"
    refine use_put (n := 7) (s := 3) rfl rfl h (by omega) (by decide) (by decide) fun H3 h3 => ?_
    clear h
    walk_at "go"
    refine use_put (n := k - 3) (s := 6) (by omega) rfl h3 (by rw [List.length_append, bitsOf_length]; omega) (by decide) (by show _ < 64; omega) fun H4 h4 => ?_
    walk_at "go"
    have hR2 := rds_more hR (show 272 - m < 272 by omega) (show k - 3 < 64 by omega)
    have e5 : ((m : Nat) : Int) - ((k : Nat) : Int) = ((m - k : Nat) : Int) := by omega
    rw [e5]
    refine ⟨m - k, by omega, _, _, ⟨n2, _, some (.int ((k : Nat) : Int)), hn2, by omega, by omega, ?_, ?_, rfl, rfl, rfl⟩, h4⟩
    · rw [show 272 - (m - k) = 272 - m + (k - 3 + 3) by omega]
      exact hR2
    · rw [List.length_append, List.length_append, bitsOf_length, bitsOf_length]
      omega
  refine i_f (decide_eq_false hlt) ?_
  walk_at "go"
  refine w_while (fun m σ' L' B2 => ∃ (n : Int) (b : List Bool) (w3 : Option V), 0 ≤ n ∧ 2 ≤ m ∧ m ≤ 271 ∧ Rds b (272 - m) ∧ b.length + 9 * m ≤ 2448 ∧ σ' = [some (.int n), some (.ref x), some (.int ((m : Nat) : Int)), w3] ∧ B2 = B' ∧ L' = (x, brO K dx f b) :: (f, brL b) :: L) m h
    ⟨n, b, w3, hn, by omega, hr2, hR, hbl, rfl, rfl, rfl⟩ ?_
  rintro m2 σ' L' B2 H2 ⟨n2, b2, w4, hn2, hr3, hr4, hR2, hbl2, rfl, rfl, rfl⟩ h2
  clear h
  walk_at "go"
  refine i_2 (fun c1 => ?_) (fun c1 => ?_)
  · have c1 := of_decide_eq_true c1
    refine i_t rfl (w_turn ?_)
    walk_at "go"
    obtain ⟨a7, ea7, ha7⟩ : ∃ k : Nat, n2 % 7 = ((k : Nat) : Int) ∧ k < 7 := ⟨(n2 % 7).toNat, by omega, by omega⟩
    refine use_put (n := a7) (s := 3) ea7 rfl h2 (by omega) (by decide) (by show _ < 8; omega) fun H3 h3 => ?_
    have hR3 := rds_one hR2 (show 272 - m2 < 272 by omega) ha7
    walk_at "go"
    rw [show ((m2 : Nat) : Int) - 1 = ((m2 - 1 : Nat) : Int) by omega]
    refine ⟨m2 - 1, by omega, _, _, ⟨n2 / 3 + 12345, _, w4, by omega, by omega, by omega, ?_, ?_, rfl, rfl, rfl⟩, h3⟩
    · rw [show 272 - (m2 - 1) = 272 - m2 + 1 by omega]
      exact hR3
    · rw [List.length_append, bitsOf_length]
      omega
  have c1 := of_decide_eq_false c1
  have fin : ∀ H3, Hs B2 ((x, brO K dx f (b2 ++ bitsOf 7 3)) :: (f, brL (b2 ++ bitsOf 7 3)) :: L) H3 → m2 ≤ 65 → sp_BitRow_put K (V.ref x :: ([V.int ((if (0 : Int) > ((m2 : Nat) : Int) - 2 then (0 : Int) else ((m2 : Nat) : Int) - 2) + n2 / 9 % (64 - if (0 : Int) > ((m2 : Nat) : Int) - 2 then (0 : Int) else ((m2 : Nat) : Int) - 2)), V.int 6] ++ [])) H3 (fun _ H1 => tRet (tVar 1) { nx := fun _ H' => Q V.non H', rt := Q } [some (V.int n2), some (V.ref x), some (V.int ((m2 : Nat) : Int)), w4] H1) (fun c d H2 => E c d H2) := by
    intro H3 h3 hm
    rw [if_neg (by omega)]
    have z1 := Int.emod_nonneg (n2 / 9) (show (64 - (((m2 : Nat) : Int) - 2)) ≠ 0 by omega)
    have z2 := Int.emod_lt_of_pos (n2 / 9) (show (0 : Int) < 64 - (((m2 : Nat) : Int) - 2) by omega)
    obtain ⟨k, ek, hk1, hk2⟩ : ∃ k : Nat, (((m2 : Nat) : Int) - 2 + n2 / 9 % (64 - (((m2 : Nat) : Int) - 2))) = ((k : Nat) : Int) ∧ m2 - 2 ≤ k ∧ k < 64 := ⟨(((m2 : Nat) : Int) - 2 + n2 / 9 % (64 - (((m2 : Nat) : Int) - 2))).toNat, by omega, by omega, by omega⟩
    rw [ek]
    refine use_put (n := k) (s := 6) rfl rfl h3 (by rw [List.length_append, bitsOf_length]; omega) (by decide) (by show _ < 64; omega) fun H4 h4 => ?_
    walk_at "go"
    refine q x dx f _ H4 (rds_over (rds_more hR2 (show 272 - m2 < 272 by omega) hk2) (by omega)) ?_ h4
    rw [List.length_append, List.length_append, bitsOf_length, bitsOf_length]
    omega
  walk_at "go"
  refine i_2 (fun c2 => ?_) (fun c2 => ?_)
  · have c2 := of_decide_eq_true c2
    walk_at "go"
    refine i_2 (fun c3 => ?_) (fun c3 => ?_)
    · refine w_turn ?_
      walk_at "go"
      obtain ⟨a7, ea7, ha7⟩ : ∃ k : Nat, n2 % 7 = ((k : Nat) : Int) ∧ k < 7 := ⟨(n2 % 7).toNat, by omega, by omega⟩
      refine use_put (n := a7) (s := 3) ea7 rfl h2 (by omega) (by decide) (by show _ < 8; omega) fun H3 h3 => ?_
      have hR3 := rds_one hR2 (show 272 - m2 < 272 by omega) ha7
      walk_at "go"
      rw [show ((m2 : Nat) : Int) - 1 = ((m2 - 1 : Nat) : Int) by omega]
      refine ⟨m2 - 1, by omega, _, _, ⟨n2 / 3 + 12345, _, w4, by omega, by omega, by omega, ?_, ?_, rfl, rfl, rfl⟩, h3⟩
      · rw [show 272 - (m2 - 1) = 272 - m2 + 1 by omega]
        exact hR3
      · rw [List.length_append, bitsOf_length]
        omega
    · have c3 := of_decide_eq_false c3
      walk_at "go"
      have hm : m2 ≤ 65 := by omega
      refine use_put (n := 7) (s := 3) rfl rfl h2 (by omega) (by decide) (by decide) fun H3 h3 => ?_
      clear h2
      walk_at "go"
      exact fin H3 h3 hm
  · have c2 := of_decide_eq_false c2
    walk_at "go"
    have hm : m2 ≤ 65 := by omega
    refine use_put (n := 7) (s := 3) rfl rfl h2 (by omega) (by decide) (by decide) fun H3 h3 => ?_
    clear h2
    walk_at "go"
    exact fin H3 h3 hm
end L2.BR

namespace L2.BR
open PySem PySem.Spec PyProof.Rows L2.BP
variable {K : PySem.W.Frag} {W : WX} {vs : List V} {H : Hp} {Q : VK} {E : XK}
/-! ### bits that end within a stretch (k12) -/
def sp__law_ended (K : PySem.W.Frag) : Sp := fun vs H Q _ => ∃ (B : Hp) (L : Pic) (n : Int), vs = [.int n] ∧ Hs B L H ∧ 0 ≤ n ∧
  ∀ B2 T x dx f b (t : Nat) H', Same B B2 → SqT K B2 T [.ref x, .int ((t : Nat) : Int)] → t ≤ 7 → b.length % 8 = 0 → t ≤ b.length → TabNo (b.drop t) "bits" → b.length ≤ 5000 → Hs B2 ((x, brO K dx f b) :: (f, brL b) :: L) H' → Q (.ref T) H'
def bitsL (l : List (Addr × Nat × Nat)) : List Bool := l.flatMap fun t => bitsOf t.2.1 t.2.2
theorem bitsL_snoc (l : List (Addr × Nat × Nat)) (y : Addr × Nat × Nat) : bitsL (l ++ [y]) = bitsL l ++ bitsOf y.2.1 y.2.2 := by
  unfold bitsL
  rw [List.flatMap_append]
  simp
theorem bitsL_sum : ∀ l : List (Addr × Nat × Nat), (l.map fun t => ((t.2.2 : Nat) : Int)).sum = (((bitsL l).length : Nat) : Int)
  | [] => rfl
  | y :: r => by
    rw [List.map_cons, List.sum_cons, bitsL_sum r]
    unfold bitsL
    rw [List.flatMap_cons, List.length_append, bitsOf_length]
    push_cast
    rfl
theorem bitsL_few : ∀ l : List (Addr × Nat × Nat), (∀ t ∈ l, t.2.1 < 2 ^ t.2.2 ∧ t.2.2 ≤ 6) → (bitsL l).length ≤ 6 * l.length
  | [], _ => Nat.zero_le _
  | y :: r, h => by
    have z := bitsL_few r fun t ht => h t (.tail _ ht)
    have w := (h y (.head _)).2
    unfold bitsL at z ⊢
    rw [List.flatMap_cons, List.length_append, bitsOf_length, List.length_cons]
    omega
/-- the pairs of the law -/
def endL (T1 T2 T3 T4 T5 T6 : Addr) (a c v p r : Nat) : List (Addr × Nat × Nat) :=
  [(T1, a, 3), (T2, 7, 3), (T3, 63, 6), (T2, 7, 3), (T3, 63, 6), (T2, 7, 3), (T3, 63, 6), (T2, 7, 3), (T3, 63, 6)] ++ List.replicate p (T4, c, 3) ++ [(T5, 7, 3)] ++ List.replicate r (T6, v, 1)
theorem endL_mem {T1 T2 T3 T4 T5 T6 : Addr} {a c v p r : Nat} {t : Addr × Nat × Nat} (h : t ∈ endL T1 T2 T3 T4 T5 T6 a c v p r) : t = (T1, a, 3) ∨ t = (T2, 7, 3) ∨ t = (T3, 63, 6) ∨ t = (T4, c, 3) ∨ t = (T5, 7, 3) ∨ t = (T6, v, 1) := by
  unfold endL at h
  rcases List.mem_append.mp h with z | z
  · rcases List.mem_append.mp z with z | z
    · rcases List.mem_append.mp z with z | z
      · simp only [List.mem_cons, List.not_mem_nil, or_false] at z
        rcases z with z | z | z | z | z | z | z | z | z <;> simp [z]
      · simp [(List.mem_replicate.mp z).2]
    · simp [List.mem_singleton.mp z]
  · simp [(List.mem_replicate.mp z).2]
theorem endL_all {B : Hp} {T1 T2 T3 T4 T5 T6 : Addr} {a c v p r : Nat} (h1 : SqT K B T1 [.int ((a : Nat) : Int), .int 3]) (h2 : SqT K B T2 [.int 7, .int 3]) (h3 : SqT K B T3 [.int 63, .int 6]) (h4 : SqT K B T4 [.int ((c : Nat) : Int), .int 3]) (h5 : SqT K B T5 [.int 7, .int 3]) (h6 : SqT K B T6 [.int ((v : Nat) : Int), .int 1]) :
    ∀ t ∈ endL T1 T2 T3 T4 T5 T6 a c v p r, SqT K B t.1 [.int ((t.2.1 : Nat) : Int), .int ((t.2.2 : Nat) : Int)] := by
  intro t ht
  rcases endL_mem ht with rfl | rfl | rfl | rfl | rfl | rfl
  · exact h1
  · exact h2
  · exact h3
  · exact h4
  · exact h5
  · exact h6
theorem endL_sz {T1 T2 T3 T4 T5 T6 : Addr} {a c v p r : Nat} (ha : a < 8) (hc : c < 8) (hv : v < 2) : ∀ t ∈ endL T1 T2 T3 T4 T5 T6 a c v p r, t.2.1 < 2 ^ t.2.2 ∧ t.2.2 ≤ 6 := by
  intro t ht
  rcases endL_mem ht with rfl | rfl | rfl | rfl | rfl | rfl
  · exact ⟨ha, show 3 ≤ 6 by decide⟩
  · exact ⟨show 7 < 2 ^ 3 by decide, show 3 ≤ 6 by decide⟩
  · exact ⟨show 63 < 2 ^ 6 by decide, show 6 ≤ 6 by decide⟩
  · exact ⟨hc, show 3 ≤ 6 by decide⟩
  · exact ⟨show 7 < 2 ^ 3 by decide, show 3 ≤ 6 by decide⟩
  · exact ⟨hv, show 1 ≤ 6 by decide⟩
theorem rds_rep {b : List Bool} {n x : Nat} (h : Rds b n) (hx : x < 7) : ∀ k, n + k ≤ 272 → Rds (b ++ (List.replicate k (bitsOf x 3)).flatten) (n + k)
  | 0, _ => by simpa using h
  | k + 1, hk => by
    have z := rds_one (rds_rep h hx k (by omega)) (by omega) hx
    rw [List.replicate_succ', List.flatten_append, ← List.append_assoc, ← Nat.add_assoc]
    simpa using z
theorem flat_rep (k : Nat) (y : Addr × Nat × Nat) : bitsL (List.replicate k y) = (List.replicate k (bitsOf y.2.1 y.2.2)).flatten := by
  unfold bitsL
  rw [List.flatMap_def, List.map_replicate]
theorem endL_no {T1 T2 T3 T4 T5 T6 : Addr} {a c v p r : Nat} (ha : a < 7) (hc : c < 7) (hp : p ≤ 6) (hr : r < 6) : TabNo (bitsL (endL T1 T2 T3 T4 T5 T6 a c v p r)) "bits" := by
  have h1 : Rds (bitsOf a 3) 1 := rds_one rds_nil (by decide) ha
  have h2 := rds_more h1 (by decide) (show 63 < 64 by decide)
  have h3 := rds_more h2 (by decide) (show 63 < 64 by decide)
  have h4 := rds_more h3 (by decide) (show 63 < 64 by decide)
  have h5 := rds_more h4 (by decide) (show 63 < 64 by decide)
  have h6 := rds_rep h5 hc p (by omega)
  have h7 := rds_few (d := (List.replicate r (bitsOf v 1)).flatten) h6 (by omega) (by simp [bitsOf_length]; omega)
  have e : bitsL (endL T1 T2 T3 T4 T5 T6 a c v p r) = bitsOf a 3 ++ bitsOf 7 3 ++ bitsOf 63 6 ++ bitsOf 7 3 ++ bitsOf 63 6 ++ bitsOf 7 3 ++ bitsOf 63 6 ++ bitsOf 7 3 ++ bitsOf 63 6 ++ (List.replicate p (bitsOf c 3)).flatten ++ bitsOf 7 3 ++ (List.replicate r (bitsOf v 1)).flatten := by
    unfold endL
    rw [show ∀ x y, bitsL (x ++ y) = bitsL x ++ bitsL y from fun x y => List.flatMap_append, show ∀ x y, bitsL (x ++ y) = bitsL x ++ bitsL y from fun x y => List.flatMap_append, show ∀ x y, bitsL (x ++ y) = bitsL x ++ bitsL y from fun x y => List.flatMap_append, flat_rep, flat_rep]
    unfold bitsL
    simp only [List.flatMap_cons, List.flatMap_nil, List.append_nil, List.append_assoc]
  rw [e]
  exact h7
theorem len__law_ended (h : sp__law_ended K vs H Q E) : vs.length = 1 := by
  obtain ⟨B, L, n, rfl, _⟩ := h
  rfl
def t__law_ended (K : PySem.W.Frag) (W : WX) : TS :=
  (tSeq (tAsg (tOp rAddU (tOp rAddU (tOp rAddU (tLst (tCons (tTup (tCons (tOp rModU (tVar 0) (tC (.int 7))) (tCons (tC (.int 3)) tNil))) tNil)) (tOp rMulU (tLst (tCons (tTup (tCons (tC (.int 7)) (tCons (tC (.int 3)) tNil))) (tCons (tTup (tCons (tC (.int 63)) (tCons (tC (.int 6)) tNil))) tNil))) (tC (.int 4)))) (tOp rMulU (tLst (tCons (tTup (tCons (tOp rModU (tOp rDivU (tVar 0) (tC (.int 7))) (tC (.int 7))) (tCons (tC (.int 3)) tNil))) tNil)) (tOp rSubU (tC (.int 6)) (tOp rModU (tOp rDivU (tVar 0) (tC (.int 49))) (tC (.int 2)))))) (tLst (tCons (tTup (tCons (tC (.int 7)) (tCons (tC (.int 3)) tNil))) tNil))) (gName 1))
    (tSeq (tAug 1 (tOp rMulU (tLst (tCons (tTup (tCons (tOp rModU (tOp rDivU (tVar 0) (tC (.int 98))) (tC (.int 2))) (tCons (tC (.int 1)) tNil))) tNil)) (tOp rModU (tOp rDivU (tVar 0) (tC (.int 196))) (tC (.int 6)))) ipAddU)
    (tSeq (tAsg (tOp rModU (tUn rNegU (tCB (rSum K) (tCons (tLc (iList K (tVar 1)) (gTup K 2 (gCons (gName 2) (gCons (gName 3) gNil))) tYes (tVar 3) [2, 3]) tNil))) (tC (.int 8))) (gName 4))
    (tSeq (tAsg (tMk (He.ga K "BitRow") (sp_BitRow___init__ K) [] W tNil) (gName 5))
    (tSeq (tDrop (tMt (He.ga K "BitRow") "put" (sp_BitRow_put K) [] W (tVar 5) (tCons (tC (.int 0)) (tCons (tVar 4) tNil))))
    (tSeq (tFor (iList K (tVar 1)) (gTup K 2 (gCons (gName 2) (gCons (gName 3) gNil))) (tDrop (tMt (He.ga K "BitRow") "put" (sp_BitRow_put K) [] W (tVar 5) (tCons (tVar 2) (tCons (tVar 3) tNil)))))
    (tRet (tTup (tCons (tVar 5) (tCons (tVar 4) tNil))))))))))
theorem rd__law_ended (h : sp__law_ended K vs H Q E) : t__law_ended K (fun c d _ H2 => E c d H2) { nx := fun _ H' => Q .non H', rt := Q } (start ["_law_number", "_law_some", "_law_one", "_law_size", "_law_lead", "_law_bits"] vs) H := by
  obtain ⟨B, L, n, rfl, hs, hn, q⟩ := h
  obtain ⟨a, ha, ha7⟩ : ∃ m : Nat, n % 7 = ((m : Nat) : Int) ∧ m < 7 := ⟨(n % 7).toNat, by omega, by omega⟩
  obtain ⟨c, hc, hc7⟩ : ∃ m : Nat, n / 7 % 7 = ((m : Nat) : Int) ∧ m < 7 := ⟨(n / 7 % 7).toNat, by omega, by omega⟩
  obtain ⟨p, hp, hp7⟩ : ∃ m : Nat, 6 - n / 49 % 2 = ((m : Nat) : Int) ∧ (m = 5 ∨ m = 6) := ⟨(6 - n / 49 % 2).toNat, by omega, by omega⟩
  obtain ⟨v, hv, hv2⟩ : ∃ m : Nat, n / 98 % 2 = ((m : Nat) : Int) ∧ m < 2 := ⟨(n / 98 % 2).toNat, by omega, by omega⟩
  obtain ⟨r, hr, hr6⟩ : ∃ m : Nat, n / 196 % 6 = ((m : Nat) : Int) ∧ m < 6 := ⟨(n / 196 % 6).toNat, by omega, by omega⟩
  unfold t__law_ended
  walk_at "go"
  rename_i T1 H1 h1 l1 H2 h2 T2 H3 h3 T3 H4 h4 l2 H5 h5
  refine c_rep h5 (h5.get (.head _)) (by decide) (by decide) (by show 2 * 4 ≤ sizeLine; decide) fun l3 H6 h6 => ?_
  clear h1 h2 h3 h4 hs
  refine c_addL h6 (h6.get (by walk_at "deep")) (h6.get (.head _)) (by show 1 + 8 ≤ sizeLine; decide) fun l4 H7 h7 => ?_
  clear h5 h6
  walk_at "go"
  rename_i T4 H9 h9 l5 H10 h10
  rw [ha, hc] at h9 h10
  rw [hp]
  refine c_rep h10 (h10.get (.head _)) (by omega) (by omega) (small6' (by simp; omega)) fun l6 H11 h11 => ?_
  refine c_addL h11 (h11.get (by walk_at "deep")) (h11.get (.head _)) (small6' (by simp; omega)) fun l7 H12 h12 => ?_
  clear h7 h9 h10 h11
  walk_at "go"
  rename_i T5 H14 h14 l8 H15 h15
  refine c_addL h15 (h15.get (by walk_at "deep")) (h15.get (.head _)) (small6' (by simp; omega)) fun l9 H16 h16 => ?_
  clear h12 h14 h15
  walk_at "go"
  rename_i T6 H17 h17 l10 H18 h18
  rw [hv] at h17 h18
  rw [hr]
  refine c_rep h18 (h18.get (.head _)) (by omega) (by omega) (small6' (by simp; omega)) fun l11 H19 h19 => ?_
  have h20 := Hs.mv [_, _, _] [_] h19
  clear h16 h17 h18 h19
  refine c_ext0 h20 (h20.get (by walk_at "deep")) (small6' (by simp; omega)) fun H20 h21 => ?_
  obtain ⟨B1, s1, h22, hN⟩ := Hs.fixes (N := [_, _, _, _, _, _, _, _, _, _, _, _, _, _, _, _]) (L := _) (Hs.mv [_] [_, _, _, _, _, _, _, _, _, _, _, _, _, _, _, _] h21)
  have hT6 : SqT K B1 T6 [.int ((v : Nat) : Int), .int 1] := .of (hN (T6, .tup [.int ((v : Nat) : Int), .int 1]) (by walk_at "deep"))
  have hT5 : SqT K B1 T5 [.int 7, .int 3] := .of (hN (T5, .tup [.int 7, .int 3]) (by walk_at "deep"))
  have hT4 : SqT K B1 T4 [.int ((c : Nat) : Int), .int 3] := .of (hN (T4, .tup [.int ((c : Nat) : Int), .int 3]) (by walk_at "deep"))
  have hT3 : SqT K B1 T3 [.int 63, .int 6] := .of (hN (T3, .tup [.int 63, .int 6]) (by walk_at "deep"))
  have hT2 : SqT K B1 T2 [.int 7, .int 3] := .of (hN (T2, .tup [.int 7, .int 3]) (by walk_at "deep"))
  have hT1 : SqT K B1 T1 [.int ((a : Nat) : Int), .int 3] := .of (hN (T1, .tup [.int ((a : Nat) : Int), .int 3]) (by walk_at "deep"))
  clear hN h20 h21
  obtain ⟨lst, elst⟩ : ∃ lst : List (Addr × Nat × Nat), lst = endL T1 T2 T3 T4 T5 T6 a c v p r := ⟨_, rfl⟩
  have ev : [V.ref T1] ++ (List.replicate (Int.toNat 4) [V.ref T2, V.ref T3]).flatten ++ (List.replicate (((p : Nat) : Int)).toNat [V.ref T4]).flatten ++ [V.ref T5] ++ (List.replicate (((r : Nat) : Int)).toNat [V.ref T6]).flatten = lst.map fun t => V.ref t.1 := by
    rw [elst, Int.toNat_natCast, Int.toNat_natCast, List.flatten_replicate_singleton, List.flatten_replicate_singleton]
    unfold endL
    rw [List.map_append, List.map_append, List.map_append, List.map_replicate, List.map_replicate]
    rfl
  rw [ev] at h22
  have h22 : Hs B1 ((l9, .lst (lst.map fun t => V.ref t.1)) :: L) H20 := h22
  have hall : ∀ t ∈ lst, SqT K B1 t.1 [.int ((t.2.1 : Nat) : Int), .int ((t.2.2 : Nat) : Int)] := by
    rw [elst]
    exact endL_all hT1 hT2 hT3 hT4 hT5 hT6
  have hsz : ∀ t ∈ lst, t.2.1 < 2 ^ t.2.2 ∧ t.2.2 ≤ 6 := by
    rw [elst]
    exact endL_sz (by omega) (by omega) hv2
  have hno : TabNo (bitsL lst) "bits" := by
    rw [elst]
    exact endL_no ha7 hc7 (by omega) (by omega)
  have hlen : lst.length ≤ 30 := by
    rw [elst]
    unfold endL
    simp
    omega
  clear ev elst
  have hbl := bitsL_few lst hsz
  walk_at "go"
  refine c_lcL (fun t : Addr × Nat × Nat => V.ref t.1) lst (fun pre acc B' => acc = (pre.map fun t => ((t.2.2 : Nat) : Int)).map V.int ∧ B' = B1) h22 ⟨rfl, rfl⟩ (fun B' H' e h => h.sql (.head _)) ?_ ?_
  · rintro pre y post acc B' D H' e ⟨rfl, rfl⟩ _ h
    have hpl : pre.length < lst.length := by rw [e]; simp
    have hy := h.bt (hall y (by rw [e]; simp))
    walk_at "go"
    refine ⟨rfl, ?_⟩
    walk_at "go"
    refine c_item h (small5 (by rw [List.length_map, List.length_map]; omega)) (Same.refl _) ⟨?_, rfl⟩
    rw [List.map_append, List.map_append]
    rfl
  · rintro acc B' D H' ⟨rfl, rfl⟩ _ h
    walk_at "go"
    refine c_sum (h.sql (.head _)) ?_
    rw [bitsL_sum]
    have h23 := h.drop
    clear h h22
    obtain ⟨ld, hld, hld8⟩ : ∃ m : Nat, (-(((bitsL lst).length : Nat) : Int)) % 8 = ((m : Nat) : Int) ∧ m < 8 := ⟨((-(((bitsL lst).length : Nat) : Int)) % 8).toNat, by omega, by omega⟩
    walk_at "go"
    rw [hld]
    rename_i x dx H24 h24
    refine ⟨B', _, x, dx, rfl, h24, fun f H25 h25 => ⟨rfl, ?_⟩⟩
    clear h23 h24
    walk_at "go"
    refine use_put (n := 0) (s := ld) rfl rfl h25 (by decide) (by omega) (Nat.two_pow_pos _) fun H26 h26 => ?_
    rw [List.nil_append] at h26
    clear h25
    walk_at "go"
    refine w_forL (fun t : Addr × Nat × Nat => V.ref t.1) lst (fun pre σ' L' B2 => ∃ w2 w3, σ' = [some (.int n), some (.ref l9), w2, w3, some (.int ((ld : Nat) : Int)), some (.ref x)] ∧ B2 = B' ∧ L' = (x, brO K dx f (bitsOf 0 ld ++ bitsL pre)) :: (f, brL (bitsOf 0 ld ++ bitsL pre)) :: (l9, .lst (lst.map fun t => V.ref t.1)) :: L) h26 ⟨none, none, rfl, rfl, by rw [show bitsL [] = [] from rfl, List.append_nil]⟩ ?_ ?_ ?_
    · rintro pre post σ' L' B2 H' _ ⟨w2, w3, rfl, rfl, rfl⟩ h
      exact h.sql (.tail _ (.tail _ (.head _)))
    · rintro pre y post σ' L' B2 H' e ⟨w2, w3, rfl, rfl, rfl⟩ h
      have hy := h.bt (hall y (by rw [e]; simp))
      have hp := bitsL_few pre fun t ht => hsz t (by rw [e]; simp [ht])
      have hpl : pre.length < lst.length := by rw [e]; simp
      obtain ⟨s1, s2⟩ := hsz y (by rw [e]; simp)
      walk_at "go"
      refine use_put (n := y.2.1) (s := y.2.2) rfl rfl h (by rw [List.length_append, bitsOf_length]; omega) (by omega) s1 fun H8 h9 => ?_
      rw [List.append_assoc, ← bitsL_snoc] at h9
      walk_at "go"
      exact ⟨_, _, ⟨_, _, rfl, rfl, rfl⟩, h9⟩
    · rintro σ' L' B2 H' ⟨w2, w3, rfl, rfl, rfl⟩ h
      clear h26
      walk_at "go"
      rename_i T H27 h27
      obtain ⟨B3, s3, h28, hN⟩ := Hs.fixes (N := [_]) (L := _) h27
      refine q B3 T x dx f _ ld H27 (s1.trans s3) (.of (hN _ (.head _))) (by omega) ?_ ?_ ?_ ?_ h28.drop2
      · rw [List.length_append, bitsOf_length]
        omega
      · rw [List.length_append, bitsOf_length]
        omega
      · rw [List.drop_left' (bitsOf_length _ _)]
        exact hno
      · rw [List.length_append, bitsOf_length]
        omega
end L2.BR

namespace L2.BR
open PySem PySem.Spec PyProof.Rows L2.BP
variable {K : PySem.W.Frag} {W : WX} {vs : List V} {H : Hp} {Q : VK} {E : XK}
/-! ### things that are no table (k12) -/
/-- items that may be shown -/
structure OddL (K : PySem.W.Frag) (B : Hp) (xs : List V) : Prop where
  th : ∀ x ∈ xs, ∃ g, Th K B x g
  sh : ∃ ds, DpAll K B xs ds ∧ ∀ d ∈ ds, L2G.SmD d
  le : xs.length ≤ 300
  no : Tg.isTab (.lst xs) = false
/-- a thing that is no list -/
def OddV (K : PySem.W.Frag) (B : Hp) (v : V) (g : Tg) : Prop := Th K B v g ∧ g.isList = false ∧ ((∃ d, Dp K B v d ∧ L2G.Shows d) ∨ ∃ a, v = .ref a ∧ B a = some (.dK []))
def sp__law_odd (K : PySem.W.Frag) : Sp := fun vs H Q _ => ∃ (B : Hp) (L : Pic) (a : Addr) (ls : List Int) (n : Int), vs = [.ref a, .int n] ∧ Hs B L H ∧ B a = some (.lst (ls.map V.int)) ∧ Tab ls ∧ 0 ≤ n ∧
  (∀ B2 p xs H', Same B B2 → OddL K B2 xs → Hs B2 ((p, .lst xs) :: L) H' → Q (.ref p) H') ∧
  (∀ B2 v g H', Same B B2 → OddV K B2 v g → Hs B2 L H' → Q v H')
/-- an item that a table can't have -/
structure OddI (K : PySem.W.Frag) (B : Hp) (v : V) : Prop where
  no : tabV v = false
  th : ∃ g, Th K B v g
  sh : ∃ d, Dp K B v d ∧ L2G.SmD d
theorem smd_list0 : L2G.SmD (.list [.int 0]) := ⟨by decide +kernel, by decide +kernel, by decide +kernel, by decide +kernel, by decide +kernel⟩
theorem smd_tup1 : L2G.SmD (.tuple [.int 1]) := ⟨by decide +kernel, by decide +kernel, by decide +kernel, by decide +kernel, by decide +kernel⟩
theorem odd_item {B : Hp} {p q : Addr} (hp : SqL K B p [.int 0]) (hq : SqT K B q [.int 1]) {j : Int} (h0 : 0 ≤ j) (h1 : j < 10) :
    ∃ v, atI [V.int 7, V.int (-1), V.bl true, V.bl false, V.non, V.str "0", V.ref p, V.ref q, V.int (10 ^ Int.toNat 20), V.int (-10 ^ Int.toNat 9)] j = some v ∧ OddI K B v := by
  rcases (by omega : j = 0 ∨ j = 1 ∨ j = 2 ∨ j = 3 ∨ j = 4 ∨ j = 5 ∨ j = 6 ∨ j = 7 ∨ j = 8 ∨ j = 9) with rfl | rfl | rfl | rfl | rfl | rfl | rfl | rfl | rfl | rfl
  · exact ⟨_, rfl, rfl, ⟨_, .int _⟩, _, .int _, by decide +kernel, by decide +kernel, by decide +kernel, by decide +kernel, by decide +kernel⟩
  · exact ⟨_, rfl, rfl, ⟨_, .int _⟩, _, .int _, by decide +kernel, by decide +kernel, by decide +kernel, by decide +kernel, by decide +kernel⟩
  · exact ⟨_, rfl, rfl, ⟨_, .bl _⟩, _, .bl _, by decide +kernel, by decide +kernel, by decide +kernel, by decide +kernel, by decide +kernel⟩
  · exact ⟨_, rfl, rfl, ⟨_, .bl _⟩, _, .bl _, by decide +kernel, by decide +kernel, by decide +kernel, by decide +kernel, by decide +kernel⟩
  · exact ⟨_, rfl, rfl, ⟨_, .non⟩, _, .non, by decide +kernel, by decide +kernel, by decide +kernel, by decide +kernel, by decide +kernel⟩
  · exact ⟨_, rfl, rfl, ⟨_, .str _⟩, _, .str _, by decide +kernel, by decide +kernel, by decide +kernel, by decide +kernel, by decide +kernel⟩
  · exact ⟨_, rfl, rfl, ⟨_, .lst hp⟩, _, .lst hp (.cons (.int 0) .nil), smd_list0⟩
  · exact ⟨_, rfl, rfl, ⟨_, .tup hq⟩, _, .tup hq (.cons (.int 1) .nil), smd_tup1⟩
  · exact ⟨_, rfl, by decide +kernel, ⟨_, .int _⟩, _, .int _, by decide +kernel, by decide +kernel, by decide +kernel, by decide +kernel, by decide +kernel⟩
  · exact ⟨_, rfl, by decide +kernel, ⟨_, .int _⟩, _, .int _, by decide +kernel, by decide +kernel, by decide +kernel, by decide +kernel, by decide +kernel⟩
theorem oddV {B : Hp} {v : V} {g : Tg} {d : PyData} (h : Th K B v g) (hl : g.isList = false) (hd : Dp K B v d) (h1 : d.showable = true) (h2 : d.canLay0 = true) (h3 : d.depth ≤ 30) (h4 : d.shown.length ≤ sizeLine) : OddV K B v g := ⟨h, hl, .inl ⟨d, hd, h1, h2, h3, h4⟩⟩
theorem smd_tab {ls : List Int} (hT : Tab ls) : ∀ d ∈ ls.map PyData.int, L2G.SmD d := by
  intro d hd
  obtain ⟨i, hi, rfl⟩ := List.mem_map.mp hd
  exact L2G.smd_len (hT.2 i hi).1 (hT.2 i hi).2
theorem odd_tab {B : Hp} {ls : List Int} (h : ∀ x ∈ ls, 0 ≤ x ∧ x ≤ 6) (hl : ls.length ≠ 272) (hm : ls.length ≤ 300) : OddL K B (ls.map V.int) where
  th := fun x hx => by
    obtain ⟨i, _, rfl⟩ := List.mem_map.mp hx
    exact ⟨_, .int i⟩
  sh := ⟨_, dpa_ints ls, fun d hd => by
    obtain ⟨i, hi, rfl⟩ := List.mem_map.mp hd
    exact L2G.smd_len (h i hi).1 (h i hi).2⟩
  le := by rw [List.length_map]; exact hm
  no := by
    show (decide ((ls.map V.int).length = 272) && _) = false
    rw [List.length_map, decide_eq_false hl]
    rfl
theorem dpa_join {B : Hp} : ∀ {xs ys : List V} {ds es : List PyData}, DpAll K B xs ds → DpAll K B ys es → DpAll K B (xs ++ ys) (ds ++ es)
  | _, _, _, _, .nil, h => h
  | _, _, _, _, .cons h t, h2 => .cons h (dpa_join t h2)
theorem len__law_odd (h : sp__law_odd K vs H Q E) : vs.length = 2 := by
  obtain ⟨B, L, a, ls, n, rfl, _⟩ := h
  rfl
def t__law_odd (K : PySem.W.Frag) (W : WX) : TS :=
  (tSeq (tAsg (tOp rModU (tOp rDivU (tVar 1) (tC (.int 16))) (tC (.int 272))) (gName 2))
    (tSeq (tAsg (tOp (rIx K) (tLst (tCons (tC (.int 7)) (tCons (tUn rNegU (tC (.int 1))) (tCons (tC (.bl true)) (tCons (tC (.bl false)) (tCons (tC .non) (tCons (tC (.str "0")) (tCons (tLst (tCons (tC (.int 0)) tNil)) (tCons (tTup (tCons (tC (.int 1)) tNil)) (tCons (tOp rPowU (tC (.int 10)) (tC (.int 20))) (tCons (tUn rNegU (tOp rPowU (tC (.int 10)) (tC (.int 9)))) tNil))))))))))) (tOp rModU (tOp rDivU (tVar 1) (tC (.int 16))) (tC (.int 10)))) (gName 3))
    (tSeq (tAsg (tLst (tCons (tC .non) (tCons (tLst tNil) (tCons (tCB (rTupleK K) (tCons (tVar 0) tNil)) (tCons (tSl (rSlK K) (tVar 0) tNoPart (tPart (tC (.int 271)))) (tCons (tOp rAddU (tVar 0) (tLst (tCons (tC (.int 0)) tNil))) (tCons (tDNewK) (tCons (tC (.str "table")) (tCons (tC (.int 0)) (tCons (tC (.bl true)) tNil)))))))))) (gName 4))
    (tSeq (tIfS (tTest (tOp (rEqU K) (tOp rModU (tVar 1) (tC (.int 3))) (tC (.int 0)))) (tRet (tOp (rIx K) (tVar 4) (tOp rModU (tOp rDivU (tVar 1) (tC (.int 3))) (tC (.int 9))))) tNext)
    (tRet (tOp rAddU (tOp rAddU (tSl (rSlK K) (tVar 0) tNoPart (tPart (tVar 2))) (tLst (tCons (tVar 3) tNil))) (tSl (rSlK K) (tVar 0) (tPart (tOp rAddU (tVar 2) (tC (.int 1)))) tNoPart)))))))
theorem rd__law_odd (h : sp__law_odd K vs H Q E) : t__law_odd K W { nx := fun _ H' => Q .non H', rt := Q } (start ["_law_table_here", "_law_number", "_law_at", "_law_wrong", "_law_some"] vs) H := by
  obtain ⟨B, L, a, ls, n, rfl, hs, hA, hT, hn, q, qv⟩ := h
  unfold t__law_odd
  walk_at "go"
  refine c_pow ⟨by decide, by decide, by decide⟩ ?_
  walk_at "go"
  refine c_pow ⟨by decide, by decide, by decide⟩ ?_
  walk_at "go"
  rename_i l1 H1 h1 T1 H2 h2 l2 H3 h3
  clear h1 h2 hs
  have h4 := h3.drop
  obtain ⟨B1, s1, h5, hN⟩ := Hs.fixes (N := [_, _, _]) (L := _) h3
  have hl2 := hN _ (.head _)
  obtain ⟨v, hv, hvO⟩ := odd_item (K := K) (B := B1) (.of (hN _ (.tail _ (.tail _ (.head _))))) (.of (hN _ (.tail _ (.head _)))) (j := n / 16 % 10) (by omega) (by omega)
  refine c_ixL (.of (h5.ex _ _ hl2)) hv ?_
  have hA := s1 _ _ hA
  have hAS : SqL K B1 a (ls.map V.int) := .of hA
  clear h3 h4 hN hv hl2
  walk_at "go"
  rename_i l3 H6 h6
  refine c_tupL h6 (h6.bl hAS) fun l4 H7 h7 => ?_
  clear h5 h6
  walk_at "go"
  rename_i l5 H8 h8 l6 H9 h9
  rw [show (271 : Int) = ((271 : Nat) : Int) from rfl, cut_take] at h8 h9
  refine c_addL h9 (h9.ex _ _ hA) (h9.get (.head _)) (small6' (by rw [List.length_map, hT.1]; decide)) fun l7 H10 h10 => ?_
  have h10 := h10.drop1
  clear h7 h8 h9
  walk_at "go"
  refine c_dnewK h10 fun l8 H11 h11 => ?_
  clear h10
  walk_at "go"
  rename_i l9 H12 h12
  clear h11
  have h272 := hT.1
  refine i_2 (fun c => ?_) (fun c => ?_)
  · walk_at "go"
    obtain ⟨j, hj, hj9⟩ : ∃ j : Int, n / 3 % 9 = j ∧ 0 ≤ j ∧ j < 9 := ⟨_, rfl, by omega, by omega⟩
    rw [hj]
    have hx := h12.sql (K := K) (.head _)
    rcases (by omega : j = 0 ∨ j = 1 ∨ j = 2 ∨ j = 3 ∨ j = 4 ∨ j = 5 ∨ j = 6 ∨ j = 7 ∨ j = 8) with rfl | rfl | rfl | rfl | rfl | rfl | rfl | rfl | rfl
    · refine c_ixL hx rfl (qv B1 _ _ H12 s1 (oddV .non rfl .non (by decide +kernel) (by decide +kernel) (by decide +kernel) (by decide +kernel)) h12.drop.drop.drop.drop.drop.drop)
    · refine c_ixL hx rfl (q B1 l3 [] H12 s1 ⟨fun _ z => (nomatch z), ⟨[], .nil, fun _ z => (nomatch z)⟩, by decide, rfl⟩ h12.drop.drop.drop.drop.drop)
    · obtain ⟨B2, s2, h13, hN⟩ := Hs.fixes (N := [_, _, _, _, _]) (L := _) h12
      have hq : SqT K B2 l4 (ls.map V.int) := .of (hN (l4, .tup (ls.map V.int)) (by walk_at "deep"))
      exact c_ixL hx rfl (qv B2 _ _ H12 (s1.trans s2) ⟨.tup hq, rfl, .inl ⟨_, .tup hq (dpa_ints ls), L2G.shows_tup (smd_tab hT) (by rw [List.length_map]; omega)⟩⟩ h13.drop)
    · refine c_ixL hx rfl (q B1 l5 ((ls.take 271).map V.int) H12 s1 (odd_tab (fun x hx => hT.2 x (List.mem_of_mem_take hx)) (by rw [List.length_take]; omega) (by rw [List.length_take]; omega)) (Hs.drop1 (Hs.mv [_, _, _] [_] h12)).drop1.drop1.drop1.drop1)
    · have e : ls.map V.int ++ [V.int 0] = (ls ++ [0]).map V.int := by rw [List.map_append]; rfl
      rw [e] at h12
      refine c_ixL hx rfl (q B1 l7 ((ls ++ [0]).map V.int) H12 s1 (odd_tab (fun x hx => ?_) (by rw [List.length_append]; simp; omega) (by rw [List.length_append]; simp; omega)) (Hs.drop1 (Hs.mv [_, _] [_] h12)).drop1.drop1.drop1.drop1)
      rcases List.mem_append.mp hx with z | z
      · exact hT.2 x z
      · rw [List.mem_singleton.mp z]
        decide
    · obtain ⟨B2, s2, h13, hN⟩ := Hs.fixes (N := [_, _]) (L := _) h12
      have hd : B2 l8 = some (.dK []) := hN (l8, .dK []) (by walk_at "deep")
      exact c_ixL hx rfl (qv B2 _ _ H12 (s1.trans s2) ⟨.dic hd, rfl, .inr ⟨_, rfl, hd⟩⟩ h13.drop.drop.drop.drop)
    · refine c_ixL hx rfl (qv B1 _ _ H12 s1 (oddV (.str _) rfl (.str _) (by decide +kernel) (by decide +kernel) (by decide +kernel) (by decide +kernel)) h12.drop.drop.drop.drop.drop.drop)
    · refine c_ixL hx rfl (qv B1 _ _ H12 s1 (oddV (.int _) rfl (.int _) (by decide +kernel) (by decide +kernel) (by decide +kernel) (by decide +kernel)) h12.drop.drop.drop.drop.drop.drop)
    · refine c_ixL hx rfl (qv B1 _ _ H12 s1 (oddV (.bl _) rfl (.bl _) (by decide +kernel) (by decide +kernel) (by decide +kernel) (by decide +kernel)) h12.drop.drop.drop.drop.drop.drop)
  · have h13 := h12.drop.drop.drop.drop.drop.drop
    clear h12
    obtain ⟨m, hm, hm2⟩ : ∃ m : Nat, n / 16 % 272 = ((m : Nat) : Int) ∧ m < 272 := ⟨(n / 16 % 272).toNat, by omega, by omega⟩
    rw [hm]
    walk_at "go"
    rename_i l10 H14 h14 l11 H15 h15
    rw [cut_take] at h14 h15
    have ht1 : (ls.take m).length = m := by rw [List.length_take]; omega
    refine c_addL h15 (h15.get (by walk_at "deep")) (h15.get (.head _)) (small6' (by rw [List.length_map, ht1]; show m + 1 ≤ _; omega)) fun l12 H16 h16 => ?_
    clear h13 h14 h15
    walk_at "go"
    rename_i l13 H17 h17
    rw [show ((m : Nat) : Int) + 1 = ((m + 1 : Nat) : Int) from rfl, cut_drop] at h17
    refine c_addL h17 (h17.get (by walk_at "deep")) (h17.get (.head _)) (small6' (by rw [List.length_append, List.length_map, List.length_map, ht1, List.length_drop]; show m + 1 + _ ≤ _; omega)) fun l14 H18 h18 => ?_
    refine q B1 l14 _ H18 s1 ?_ h18.drop1.drop1.drop1.drop1
    obtain ⟨g, hg⟩ := hvO.th
    obtain ⟨d, hd, hsd⟩ := hvO.sh
    refine ⟨fun x hx => ?_, ⟨(ls.take m).map PyData.int ++ [d] ++ (ls.drop (m + 1)).map PyData.int, dpa_join (dpa_join (dpa_ints _) (.cons hd .nil)) (dpa_ints _), fun e he => ?_⟩, ?_, ?_⟩
    · rcases List.mem_append.mp hx with z | z
      · rcases List.mem_append.mp z with z | z
        · obtain ⟨i, _, rfl⟩ := List.mem_map.mp z
          exact ⟨_, .int i⟩
        · rw [List.mem_singleton.mp z]
          exact ⟨g, hg⟩
      · obtain ⟨i, _, rfl⟩ := List.mem_map.mp z
        exact ⟨_, .int i⟩
    · rcases List.mem_append.mp he with z | z
      · rcases List.mem_append.mp z with z | z
        · obtain ⟨i, hi, rfl⟩ := List.mem_map.mp z
          exact smd_tab hT _ (List.mem_map_of_mem (List.mem_of_mem_take hi))
        · rw [List.mem_singleton.mp z]
          exact hsd
      · obtain ⟨i, hi, rfl⟩ := List.mem_map.mp z
        exact smd_tab hT _ (List.mem_map_of_mem (List.mem_of_mem_drop hi))
    · rw [List.length_append, List.length_append, List.length_map, List.length_map, ht1, List.length_drop]
      show m + 1 + _ ≤ _
      omega
    · show (_ && List.all _ tabV) = false
      rw [List.all_append, List.all_append, show [v].all tabV = false by rw [List.all_cons, hvO.no]; rfl, Bool.and_false, Bool.false_and, Bool.and_false]
end L2.BR

namespace L2.BR
open PySem PySem.Spec PyProof.Rows L2.BP
variable {K : PySem.W.Frag} {W : WX} {vs : List V} {H : Hp} {Q : VK} {E : XK}
/-! ### what is no table is not put; made good, it is (k12) -/
theorem dpa_len {H : Hp} : ∀ {xs : List V} {ds : List PyData}, DpAll K H xs ds → xs.length = ds.length
  | _, _, .nil => rfl
  | _, _, .cons _ t => congrArg (· + 1) (dpa_len t)
theorem c_neRM {p q r s : Addr} {ns : List Int} {m : Int} (h1 : SqT K H p [.ref r, .int m]) (h2 : SqT K H q [.ref s, .int m]) (h3 : SqL K H r (ns.map V.int)) (h4 : SqL K H s (ns.map V.int)) (k : Q (.bl false) H) : rNeU K (.ref p) (.ref q) H Q := by
  have c : PyData.canLay0 (.tuple [.list (ns.map PyData.int), .int m]) = true := by simp [PyData.canLay0, PyData.canLayAll0, canAll_ints]
  have e : PyData.depth (.tuple [.list (ns.map PyData.int), .int m]) ≤ 9 := by
    have := depAll_ints ns
    simp only [PyData.depth, PyData.depthAll]
    omega
  refine c_neD (.tup h1 (.cons (.lst h3 (dpa_ints ns)) (.cons (.int m) .nil))) (.tup h2 (.cons (.lst h4 (dpa_ints ns)) (.cons (.int m) .nil))) (shapedS c e (by decide)) (shapedS c e (by decide)) ?_
  rw [eqvS c]
  exact k
def sp__law_put_right (K : PySem.W.Frag) : Sp := fun vs H Q _ => ∃ (B : Hp) (L : Pic) (a : Addr) (ls : List Int) (n : Int), vs = [.ref a, .int n] ∧ Hs B L H ∧ B a = some (.lst (ls.map V.int)) ∧ Tab ls ∧ 0 ≤ n ∧ ∀ B2 H', Same B B2 → Hs B2 L H' → Q (.bl true) H'
theorem len__law_put_right (h : sp__law_put_right K vs H Q E) : vs.length = 2 := by
  obtain ⟨B, L, a, ls, n, rfl, _⟩ := h
  rfl
def t__law_put_right (K : PySem.W.Frag) (W : WX) : TS :=
  (tSeq (tAsg (tMk (He.ga K "BitRow") (sp_BitRow___init__ K) [] W tNil) (gName 2))
    (tSeq (tDrop (tMt (He.ga K "BitRow") "put" (sp_BitRow_put K) [] W (tVar 2) (tCons (tOp rModU (tVar 1) (tC (.int 8))) (tCons (tC (.int 3)) tNil))))
    (tSeq (tAsg (tCl (sp__law_odd K) [] W (tCons (tVar 0) (tCons (tVar 1) tNil))) (gName 3))
    (tSeq (tAsg (tCB (L2G.rReprK K) (tCons (tVar 3) tNil)) (gName 4))
    (tSeq (tAsg (tTup (tCons (tMt (He.ga K "BitRow") "row" (sp_BitRow_row K) [] W (tVar 2) tNil) (tCons (tMt (He.ga K "BitRow") "many" (sp_BitRow_many K) [] W (tVar 2) tNil) tNil))) (gName 5))
    (tSeq (tIfS ((tOr (tTest (tOp (rNeU K) (tCl (sp__law_put K) [] W (tCons (tVar 2) (tCons (tVar 3) tNil))) (tLst (tCons (tC (.str "table")) tNil)))) (tOr (tTest (tOp (rNeU K) (tTup (tCons (tMt (He.ga K "BitRow") "row" (sp_BitRow_row K) [] W (tVar 2) tNil) (tCons (tMt (He.ga K "BitRow") "many" (sp_BitRow_many K) [] W (tVar 2) tNil) tNil))) (tVar 5))) (tTest (tOp (rNeU K) (tCB (L2G.rReprK K) (tCons (tVar 3) tNil)) (tVar 4)))))) (tRet (tC (.bl false))) tNext)
    (tSeq (tIfS (tB (tCB (rIsi K) (tCons (tVar 3) (tCons (tC (.ty "list")) tNil)))) (tSeq (tDrop (tBM0 K "list" rClear (tVar 3)))
    (tSeq (tDrop (tBM K "list" rExtend (tVar 3) (tCons (tVar 0) tNil)))
    (tRet ((tAndV (tOp (rEqU K) (tCl (sp__law_put K) [] W (tCons (tVar 2) (tCons (tVar 3) tNil))) (tLst tNil)) (tOp rGtU (tMt (He.ga K "BitRow") "many" (sp_BitRow_many K) [] W (tVar 2) tNil) (tC (.int 3)))))))) tNext)
    (tRet (tC (.bl true))))))))))
theorem rd__law_put_right (h : sp__law_put_right K vs H Q E) : t__law_put_right K (fun c d _ H2 => E c d H2) { nx := fun _ H' => Q .non H', rt := Q } (start ["_law_table_here", "_law_number", "_law_bits", "_law_odd_here", "_law_kept", "_law_before"] vs) H := by
  obtain ⟨B, L, a, ls, n, rfl, hs, hA, hT, hn, q⟩ := h
  unfold t__law_put_right
  walk_at "go"
  rename_i x dx H1 h1
  refine ⟨B, L, x, dx, rfl, h1, fun f H2 h2 => ⟨rfl, ?_⟩⟩
  clear h1 hs
  walk_at "go"
  obtain ⟨k, hk, hk8⟩ : ∃ m : Nat, n % 8 = ((m : Nat) : Int) ∧ m < 8 := ⟨(n % 8).toNat, by omega, by omega⟩
  refine use_put (n := k) (s := 3) hk rfl h2 (by decide) (by decide) hk8 fun H3 h3 => ?_
  rw [List.nil_append] at h3
  clear h2
  walk_at "go"
  refine ⟨B, _, a, ls, n, rfl, h3, hA, hT, hn, fun B2 p xs H4 s2 hO h4 => ?_, fun B2 v g H4 s2 hO h4 => ?_⟩
  · obtain ⟨ds, hds, hsm⟩ := hO.sh
    have hle := hO.le
    have hsh := L2G.shows_lst hsm (by rw [← dpa_len hds]; omega)
    walk_at "go"
    refine L2G.c_repr (.lst (h4.sql (.head _)) (DpAll.same h4.ex hds)) hsh ?_
    have h5 := Hs.mv [_] [_, _] h4
    clear h4 h3
    walk_at "go"
    refine ⟨B2, _, x, dx, f, _, rfl, h5, by rw [bitsOf_length]; decide, retL h5 fun r H5 h6 => ?_⟩
    have h6 := Hs.mv [_] [_, _] h6
    clear h5
    walk_at "go"
    refine ⟨B2, _, x, dx, f, _, rfl, h6, ?_⟩
    walk_at "go"
    rename_i T H6 h7
    have h8 := Hs.mv [_] [_, _] h7
    clear h7 h6
    refine ⟨B2, _, x, dx, f, .ref p, .lst xs, _, rfl, h8, fun y z H' h' => ⟨.lst (h'.sql (.tail _ (.tail _ (.tail _ (.tail _ (.head _)))))), fun w hw => (hO.th w hw).imp fun _ z => z.same h'.ex, by omega⟩, by rw [bitsOf_length]; decide, fun ls' e hT' => ?_, fun _ p3 H7 h9 => ?_⟩
    · have z := hO.no
      rw [Tg.lst.inj e, isTab_tab hT'] at z
      cases z
    clear h8
    walk_at "go"
    rename_i l3 H8 h10
    refine c_neSame (n := 1) (h10.sql (.tail _ (.head _))) (h10.sql (.head _)) (.flat (by decide +kernel)) (by decide) ?_
    have h11 := h10.drop.drop
    clear h9 h10
    walk_at "go"
    refine ⟨B2, _, x, dx, f, _, rfl, h11, by rw [bitsOf_length]; decide, retL h11 fun r2 H9 h12 => ?_⟩
    have h12 := Hs.mv [_] [_, _] h12
    clear h11
    walk_at "go"
    refine ⟨B2, _, x, dx, f, _, rfl, h12, ?_⟩
    walk_at "go"
    rename_i T2 H10 h13
    clear h12
    refine c_neRM (ns := rowOf (bitsOf k 3)) (m := (((bitsOf k 3).length : Nat) : Int)) (h13.sqt (.head _)) (h13.sqt (by walk_at "deep")) (h13.sql (by walk_at "deep")) (h13.sql (by walk_at "deep")) ?_
    have h14 := h13.drop
    clear h13
    walk_at "go"
    refine L2G.c_repr (.lst (h14.sql (by walk_at "deep")) (DpAll.same h14.ex hds)) hsh ?_
    walk_at "go"
    refine c_isiList (.lst (h14.sql (by walk_at "deep"))) ?_
    refine c_bl (i_t rfl ?_)
    have h15 := Hs.mv [_, _, _, _, _] [_] h14
    clear h14
    walk_at "go"
    refine c_clear0 h15 fun H11 h16 => ?_
    clear h15
    walk_at "go"
    refine c_extM0 h16 (h16.ex _ _ (s2 _ _ hA)) (by rw [List.length_map, hT.1]; decide) fun H12 h17 => ?_
    rw [List.nil_append] at h17
    have h18 := Hs.mv [_] [_, _] h17
    clear h16 h17
    walk_at "go"
    refine ⟨B2, _, x, dx, f, .ref p, .lst (ls.map V.int), _, rfl, h18, fun y z H' h' => ⟨.lst (h'.sql (.tail _ (.tail _ (.head _)))), ok_ints (by rw [hT.1]; decide)⟩, by rw [bitsOf_length]; decide, fun ls' e hT' p4 H13 h19 => ?_, fun z => ?_⟩
    rotate_left
    · rw [isTab_tab hT] at z
      cases z
    obtain rfl : ls = ls' := map_int_inj (Tg.lst.inj e)
    clear h18
    walk_at "go"
    rename_i l4 H14 h20
    refine c_eqL [] [] (h20.sql (.tail _ (.head _))) (h20.sql (.head _)) ?_
    have h21 := h20.drop.drop
    clear h19 h20
    walk_at "go"
    refine ⟨B2, _, x, dx, f, _, rfl, h21, ?_⟩
    walk_at "go"
    have hp := enc_pos hT
    rw [List.length_append, bitsOf_length, decide_eq_true (by omega)]
    exact q B2 _ s2 h21.drop.drop.drop.drop.drop.drop
  · obtain ⟨hTh, hnl, hsh⟩ := hO
    have hno : Tg.isTab g = false := by
      cases g with
      | lst ys => cases hnl
      | _ => rfl
    have hok : ∀ H', Tg.ok K H' g := by
      intro H'
      cases g with
      | lst ys => cases hnl
      | _ => trivial
    obtain ⟨z, hz⟩ : ∃ z : Str, ∀ {H' : Hp} {Q' : VK}, Same B2 H' → Q' (.str z) H' → L2G.rReprK K [v] H' Q' := by
      rcases hsh with ⟨d, hd, hs⟩ | ⟨c, rfl, hc⟩
      · exact ⟨_, fun e k => L2G.c_repr (Dp.same e hd) hs k⟩
      · exact ⟨_, fun e k => L2G.c_reprD (e _ _ hc) k⟩
    walk_at "go"
    refine hz h4.ex ?_
    clear h3
    walk_at "go"
    refine ⟨B2, _, x, dx, f, _, rfl, h4, by rw [bitsOf_length]; decide, retL h4 fun r H5 h6 => ?_⟩
    have h6 := Hs.mv [_] [_, _] h6
    clear h4
    walk_at "go"
    refine ⟨B2, _, x, dx, f, _, rfl, h6, ?_⟩
    walk_at "go"
    rename_i T H6 h7
    have h8 := Hs.mv [_] [_, _] h7
    clear h7 h6
    refine ⟨B2, _, x, dx, f, v, g, _, rfl, h8, fun y z H' h' => ⟨hTh.same h'.ex, hok _⟩, by rw [bitsOf_length]; decide, fun ls' e hT' => ?_, fun _ p3 H7 h9 => ?_⟩
    · rw [e, isTab_tab hT'] at hno
      cases hno
    clear h8
    walk_at "go"
    rename_i l3 H8 h10
    refine c_neSame (n := 1) (h10.sql (.tail _ (.head _))) (h10.sql (.head _)) (.flat (by decide +kernel)) (by decide) ?_
    have h11 := h10.drop.drop
    clear h9 h10
    walk_at "go"
    refine ⟨B2, _, x, dx, f, _, rfl, h11, by rw [bitsOf_length]; decide, retL h11 fun r2 H9 h12 => ?_⟩
    have h12 := Hs.mv [_] [_, _] h12
    clear h11
    walk_at "go"
    refine ⟨B2, _, x, dx, f, _, rfl, h12, ?_⟩
    walk_at "go"
    rename_i T2 H10 h13
    clear h12
    refine c_neRM (ns := rowOf (bitsOf k 3)) (m := (((bitsOf k 3).length : Nat) : Int)) (h13.sqt (.head _)) (h13.sqt (by walk_at "deep")) (h13.sql (by walk_at "deep")) (h13.sql (by walk_at "deep")) ?_
    have h14 := h13.drop
    clear h13
    walk_at "go"
    refine hz h14.ex ?_
    walk_at "go"
    refine c_isiList (hTh.same h14.ex) ?_
    rw [hnl]
    walk_at "go"
    exact q B2 _ s2 h14.drop.drop.drop.drop.drop
end L2.BR

namespace L2.BR
open PySem PySem.Spec PyProof.Rows L2.BP
variable {K : PySem.W.Frag} {W : WX} {vs : List V} {H : Hp} {Q : VK} {E : XK}
/-! ### the law k12 -/
theorem fix12 {B H : Hp} {L : Pic} {q : Addr × HO} (h : Hs B (q :: L) H) : ∃ B2, Same B B2 ∧ B2 q.1 = some q.2 ∧ Hs B2 L H := ⟨upd B q.1 q.2, same_upd (h.nb (o := q.2) (.head _)), upd_same, h.fix⟩
theorem lead_item {j : Int} (h0 : 0 ≤ j) (h1 : j ≤ 2) : ∃ v : Nat, v < 8 ∧ atI [V.int 1, V.int 6, V.int 7] j = some (.int ((v : Nat) : Int)) := by
  rcases (by omega : j = 0 ∨ j = 1 ∨ j = 2) with rfl | rfl | rfl
  · exact ⟨1, by decide, rfl⟩
  · exact ⟨6, by decide, rfl⟩
  · exact ⟨7, by decide, rfl⟩
def sp_law (K : PySem.W.Frag) : Sp := fun vs H Q _ => ∃ (a : Addr) (ns : List Int), vs = [.ref a] ∧ SqL K H a (ns.map V.int) ∧ ns.length ≤ 63 ∧ ∀ H', Q (.bl true) H'
theorem len_law (h : sp_law K vs H Q E) : vs.length = 1 := by
  obtain ⟨a, ns, rfl, _⟩ := h
  rfl
def t_law (K : PySem.W.Frag) (W : WX) : TS :=
  (tSeq (tAsg (tCl (sp__law_table K) [] W (tCons (tVar 0) (tCons (tC (.int 2)) tNil))) (gName 1))
    (tSeq (tFor (iRng1 (tCons (tC (.int 3)) tNil)) (gName 2) (tIfS (tNot (tB (tCl (sp__law_put_right K) [] W (tCons (tVar 1) (tCons (tCl (sp__law_mixed K) [] W (tCons (tCl (sp__law_cell_at K) [] W (tCons (tVar 0) (tCons (tOp rAddU (tC (.int 14)) (tVar 2)) tNil))) (tCons (tVar 2) tNil))) tNil))))) (tRet (tC (.bl false))) tNext))
    (tSeq (tAsg (tCl (sp__law_mixed K) [] W (tCons (tCl (sp__law_cell_at K) [] W (tCons (tVar 0) (tCons (tC (.int 0)) tNil))) (tCons (tC (.int 1)) tNil))) (gName 3))
    (tSeq (tIfS (tNot (tB (tCl (sp__law_taking_right K) [] W (tCons (tCl (sp__law_too_many K) [] W (tCons (tVar 3) tNil)) (tCons (tLst (tCons (tC (.str "table")) tNil)) (tCons (tC (.int 0)) tNil)))))) (tRet (tC (.bl false))) tNext)
    (tSeq (tIfS (tNot (tB (tCl (sp__law_taking_right K) [] W (tCons (tCl (sp__law_cut K) [] W (tCons (tVar 1) (tCons (tOp rDivU (tVar 3) (tC (.int 7))) tNil))) (tCons (tLst (tCons (tC (.str "bits")) tNil)) (tCons (tC (.int 0)) tNil)))))) (tRet (tC (.bl false))) tNext)
    (tSeq (tAsg (tCl (sp__law_ended K) [] W (tCons (tOp rDivU (tVar 3) (tC (.int 11))) tNil)) (gTup K 2 (gCons (gName 4) (gCons (gName 5) gNil))))
    (tSeq (tIfS (tNot (tB (tCl (sp__law_taking_right K) [] W (tCons (tVar 4) (tCons (tLst (tCons (tC (.str "bits")) tNil)) (tCons (tVar 5) tNil)))))) (tRet (tC (.bl false))) tNext)
    (tSeq (tAsg (tMk (He.ga K "BitRow") (sp_BitRow___init__ K) [] W tNil) (gName 6))
    (tSeq (tDrop (tMt (He.ga K "BitRow") "put" (sp_BitRow_put K) [] W (tVar 6) (tCons (tOp rModU (tVar 3) (tC (.int 32))) (tCons (tC (.int 5)) tNil))))
    (tSeq (tFor (iRng1 (tCons (tOp rAddU (tC (.int 1)) (tOp rModU (tOp rDivU (tVar 3) (tC (.int 32))) (tC (.int 9)))) tNil)) (gName 7) (tDrop (tMt (He.ga K "BitRow") "put" (sp_BitRow_put K) [] W (tVar 6) (tCons (tOp (rIx K) (tLst (tCons (tC (.int 1)) (tCons (tC (.int 6)) (tCons (tC (.int 7)) tNil)))) (tOp rAddU (tOp rModU (tVar 7) (tC (.int 2))) (tOp rModU (tOp rDivU (tVar 3) (tC (.int 1024))) (tC (.int 2))))) (tCons (tC (.int 3)) tNil)))))
    (tRet (tCl (sp__law_taking_right K) [] W (tCons (tVar 6) (tCons (tLst (tCons (tC (.str "bits")) tNil)) (tCons (tC (.int 5)) tNil)))))))))))))))
theorem rd_law (h : sp_law K vs H Q E) : t_law K (fun c d _ H2 => E c d H2) { nx := fun _ H' => Q .non H', rt := Q } (start ["_law_script", "_law_table_here", "_law_k", "_law_number", "_law_bits", "_law_many", "_law_lead", "_law_turn"] vs) H := by
  obtain ⟨a, ns, rfl, hS, hl, q⟩ := h
  have hs := Hs.start H
  unfold t_law
  walk_at "go"
  refine ⟨a, ns, rfl, hS, fun ls hT => retL hs fun t H1 h1 => ?_⟩
  obtain ⟨B1, s1, e1, h2⟩ := fix12 h1
  have hS1 := s1.seq hS
  clear hs h1
  walk_at "go"
  refine ⟨3, rfl, by decide, by decide, ?_⟩
  refine w_forR (fun i σ' L' B' => ∃ w2, σ' = [some (.ref a), some (.ref t), w2, none, none, none, none, none] ∧ Same B1 B' ∧ L' = []) h2 ⟨none, rfl, Same.refl _, rfl⟩ ?_ ?_
  · rintro i σ' L' B' H2 _ ⟨w2, rfl, s2, rfl⟩ h3
    have hS2 := h3.bl (s2.seq hS1)
    walk_at "go"
    refine ⟨a, ns, _, rfl, hS2, by omega, ?_⟩
    walk_at "go"
    refine ⟨_, _, rfl, by omega, by show (0 : Int) + ((i : Nat) : Int) ≤ _; omega, fun m hm => ?_⟩
    walk_at "go"
    refine ⟨B', [], t, ls, m, rfl, h3, s2 _ _ e1, hT, hm, fun B2 H3 s3 h4 => ?_⟩
    walk_at "go"
    exact ⟨_, _, ⟨_, rfl, s2.trans s3, rfl⟩, h4⟩
  · rintro σ' L' B' H2 ⟨w2, rfl, s2, rfl⟩ h3
    have hS2 := h3.bl (s2.seq hS1)
    have e2 := s2 _ _ e1
    clear h2
    walk_at "go"
    refine ⟨a, ns, _, rfl, hS2, by omega, ?_⟩
    walk_at "go"
    refine ⟨_, _, rfl, by omega, by decide, fun N hN => ?_⟩
    walk_at "go"
    refine ⟨B', [], N, rfl, h3, hN, fun x dx f b H4 hno hbl h4 => ?_⟩
    clear h3
    walk_at "go"
    rename_i d H5 h5
    obtain ⟨B3, s3, e3, h6⟩ := fix12 h5
    refine ⟨B3, _, x, dx, f, d, b, "table", 0, rfl, h6, .of e3, by omega, by decide, Nat.zero_le _, by obtain ⟨c, hc⟩ := pad8_app b; rw [hc]; exact hno c, fun H6 h7 => ?_⟩
    have eT3 := s3 _ _ e2
    clear h4 h5 h6
    walk_at "go"
    refine ⟨B3, [], t, ls, _, rfl, h7, .of eT3, hT, Int.ediv_nonneg hN (by decide), fun m x2 dx2 f2 H7 hm h8 => ?_⟩
    obtain ⟨c1, c2⟩ := bits_cut hm
    rw [c1] at h8
    have c3 : ((encT 0 ls).take (8 * m)).length = 8 * m := by rw [List.length_take]; omega
    have hfew := encT_few hT
    have hsh := tab_short hT c2
    generalize (encT 0 ls).take (8 * m) = b2 at *
    clear h7
    walk_at "go"
    rename_i d2 H8 h9
    obtain ⟨B4, s4, e4, h10⟩ := fix12 h9
    refine ⟨B4, _, x2, dx2, f2, d2, b2, "bits", 0, rfl, h10, .of e4, by omega, by decide, Nat.zero_le _, by rw [pad8_whole (by omega)]; exact hsh, fun H9 h11 => ?_⟩
    clear h8 h9 h10
    walk_at "go"
    refine ⟨B4, [], _, rfl, h11, Int.ediv_nonneg hN (by decide), fun B5 T x3 dx3 f3 b3 u H10 s5 hTu hu h8m hub hno3 hbl3 h12 => ?_⟩
    have hTu2 := h12.bt hTu
    clear h11
    walk_at "go"
    rename_i d3 H11 h13
    obtain ⟨B6, s6, e6, h14⟩ := fix12 h13
    refine ⟨B6, _, x3, dx3, f3, d3, b3, "bits", u, rfl, h14, .of e6, by omega, by omega, by rw [pad8_whole h8m]; exact hub, by rw [pad8_whole h8m]; exact hno3, fun H12 h15 => ?_⟩
    clear h12 h13 h14 hTu2
    walk_at "go"
    rename_i x4 dx4 H13 h16
    refine ⟨B6, [], x4, dx4, rfl, h16, fun f4 H14 h17 => ⟨rfl, ?_⟩⟩
    clear h15 h16
    walk_at "go"
    obtain ⟨k, hk, hk32⟩ : ∃ m : Nat, N % 32 = ((m : Nat) : Int) ∧ m < 32 := ⟨(N % 32).toNat, by omega, by omega⟩
    refine use_put (n := k) (s := 5) hk rfl h17 (by decide) (by decide) hk32 fun H15 h18 => ?_
    rw [List.nil_append] at h18
    clear h17
    walk_at "go"
    obtain ⟨r, hr, hr9⟩ : ∃ m : Nat, 1 + N / 32 % 9 = ((m : Nat) : Int) ∧ m ≤ 9 := ⟨(1 + N / 32 % 9).toNat, by omega, by omega⟩
    rw [hr]
    refine ⟨_, rfl, by omega, by omega, ?_⟩
    refine w_forR (fun i σ' L' B' => ∃ (b : List Bool) (w7 : Option V), b.length = 5 + 3 * i ∧ σ' = [some (.ref a), some (.ref t), w2, some (.int N), some (.ref x3), some (.int ((u : Nat) : Int)), some (.ref x4), w7] ∧ B' = B6 ∧ L' = [(x4, brO K dx4 f4 b), (f4, brL b)]) h18 ⟨_, none, bitsOf_length _ _, rfl, rfl, rfl⟩ ?_ ?_
    · rintro i σ' L' B' H16 hi ⟨b, w7, hb, rfl, rfl, rfl⟩ h19
      walk_at "go"
      rename_i l H17 h20
      obtain ⟨v, hv, hat⟩ := lead_item (j := (0 + ((i : Nat) : Int)) % 2 + N / 1024 % 2) (by omega) (by omega)
      refine c_ixL (h20.sql (.head _)) hat ?_
      have h21 := h20.drop
      clear h19 h20
      walk_at "go"
      refine use_put (n := v) (s := 3) rfl rfl h21 (by omega) (by decide) hv fun H18 h22 => ?_
      walk_at "go"
      exact ⟨_, _, ⟨_, _, by rw [List.length_append, bitsOf_length, hb]; omega, rfl, rfl, rfl⟩, h22⟩
    · rintro σ' L' B' H16 ⟨b, w7, hb, rfl, rfl, rfl⟩ h19
      clear h18
      walk_at "go"
      rename_i d4 H17 h20
      obtain ⟨B7, s7, e7, h21⟩ := fix12 h20
      rw [Int.toNat_natCast] at hb
      have hpl := pad8_length b
      refine ⟨B7, _, x4, dx4, f4, d4, b, "bits", 5, rfl, h21, .of e7, by omega, by decide, by omega, tab_little (by rw [List.length_drop]; omega), fun H18 h22 => q _⟩
end L2.BR

end

namespace L2.BW
open PySem PySem.Spec PyProof.Rows L2.BP L2.BR L2.BH L2H
structure Tx (K : PySem.W.Frag) (mg : Str → Option Value) : Prop where
  g_PressError : mg "PressError" = some (.ref (He.ga K "PressError"))
  g_BadRow : mg "BadRow" = some (.ref (He.ga K "BadRow"))
  x_BadRow : PySem.W.excIn K (He.ga K "BadRow") He.veBase "ValueError.__new__" = true ∧ PySem.W.keepIn K (.ref (He.ga K "BadRow")) = true ∧ PySem.W.subIn K (.ref (He.ga K "BadRow")) (.type "BaseException") = some true ∧ PySem.W.typeIn K (.ref (He.ga K "BadRow")) = some (.type "type")
  g_BadBits : mg "BadBits" = some (.ref (He.ga K "BadBits"))
  x_BadBits : PySem.W.excIn K (He.ga K "BadBits") He.veBase "ValueError.__new__" = true ∧ PySem.W.keepIn K (.ref (He.ga K "BadBits")) = true ∧ PySem.W.subIn K (.ref (He.ga K "BadBits")) (.type "BaseException") = some true ∧ PySem.W.typeIn K (.ref (He.ga K "BadBits")) = some (.type "type")
  g_NoBits : mg "NoBits" = some (.ref (He.ga K "NoBits"))
  x_NoBits : PySem.W.excIn K (He.ga K "NoBits") He.veBase "ValueError.__new__" = true ∧ PySem.W.keepIn K (.ref (He.ga K "NoBits")) = true ∧ PySem.W.subIn K (.ref (He.ga K "NoBits")) (.type "BaseException") = some true ∧ PySem.W.typeIn K (.ref (He.ga K "NoBits")) = some (.type "type")
  g_BadShares : mg "BadShares" = some (.ref (He.ga K "BadShares"))
  g_BadLengths : mg "BadLengths" = some (.ref (He.ga K "BadLengths"))
  g_BadCode : mg "BadCode" = some (.ref (He.ga K "BadCode"))
  g_BadTable : mg "BadTable" = some (.ref (He.ga K "BadTable"))
  x_BadTable : PySem.W.excIn K (He.ga K "BadTable") He.veBase "ValueError.__new__" = true ∧ PySem.W.keepIn K (.ref (He.ga K "BadTable")) = true ∧ PySem.W.subIn K (.ref (He.ga K "BadTable")) (.type "BaseException") = some true ∧ PySem.W.typeIn K (.ref (He.ga K "BadTable")) = some (.type "type")
  g_BadPieces : mg "BadPieces" = some (.ref (He.ga K "BadPieces"))
  g_BadBody : mg "BadBody" = some (.ref (He.ga K "BadBody"))
  g_BadHead : mg "BadHead" = some (.ref (He.ga K "BadHead"))
  g_BadCheck : mg "BadCheck" = some (.ref (He.ga K "BadCheck"))
  g_BadMark : mg "BadMark" = some (.ref (He.ga K "BadMark"))
  g_BadTail : mg "BadTail" = some (.ref (He.ga K "BadTail"))
  g_Cut : mg "Cut" = some (.ref (He.ga K "Cut"))
  g_Behind : mg "Behind" = some (.ref (He.ga K "Behind"))
  g_Over : mg "Over" = some (.ref (He.ga K "Over"))
  g_NoRange : mg "NoRange" = some (.ref (He.ga K "NoRange"))
  g_BadLetters : mg "BadLetters" = some (.ref (He.ga K "BadLetters"))
  g_MANY : ∃ t, mg "MANY" = some (.int 272 t)
  g_MOST_LENGTH : ∃ t, mg "MOST_LENGTH" = some (.int 6 t)
  g_MORE_MARK : ∃ t, mg "MORE_MARK" = some (.int 7 t)
  g_LEAST_MORE : ∃ t, mg "LEAST_MORE" = some (.int 3 t)
  g_MOST_MORE : ∃ t, mg "MOST_MORE" = some (.int 66 t)
  g_LENGTH_BITS : ∃ t, mg "LENGTH_BITS" = some (.int 3 t)
  g_MORE_BITS : ∃ t, mg "MORE_BITS" = some (.int 6 t)
  g_is_table : mg "is_table" = some (.ref (He.ga K "is_table"))
  g_alike_from : mg "alike_from" = some (.ref (He.ga K "alike_from"))
  g_put_table : mg "put_table" = some (.ref (He.ga K "put_table"))
  g_items_read : mg "items_read" = some (.ref (He.ga K "items_read"))
  g_take_table : mg "take_table" = some (.ref (He.ga K "take_table"))
  g_MOST_BYTE : ∃ t, mg "MOST_BYTE" = some (.int 255 t)
  g_is_byte : mg "is_byte" = some (.ref (He.ga K "is_byte"))
  g_is_row : mg "is_row" = some (.ref (He.ga K "is_row"))
  g_need_row : mg "need_row" = some (.ref (He.ga K "need_row"))
  g_BYTE : ∃ t, mg "BYTE" = some (.int 8 t)
  g_MOST_SIZE : ∃ t, mg "MOST_SIZE" = some (.int 24 t)
  g_is_number : mg "is_number" = some (.ref (He.ga K "is_number"))
  g_need_size : mg "need_size" = some (.ref (He.ga K "need_size"))
  g_BitRow : mg "BitRow" = some (.ref (He.ga K "BitRow"))
  c_BitRow : Cls K (He.ga K "BitRow")
  n_BitRow_full : NoAttr K (He.ga K "BitRow") "full"
  n_BitRow_part : NoAttr K (He.ga K "BitRow") "part"
  n_BitRow_filled : NoAttr K (He.ga K "BitRow") "filled"
  m_BitRow_put : Meth K (He.ga K "BitRow") "put" (He.ma K (He.ga K "BitRow") "put")
  m_BitRow_many : Meth K (He.ga K "BitRow") "many" (He.ma K (He.ga K "BitRow") "many")
  m_BitRow_row : Meth K (He.ga K "BitRow") "row" (He.ma K (He.ga K "BitRow") "row")
  k_BitRow : Mk K (He.ga K "BitRow") (He.ma K (He.ga K "BitRow") "__init__")
  g_BitReader : mg "BitReader" = some (.ref (He.ga K "BitReader"))
  c_BitReader : Cls K (He.ga K "BitReader")
  n_BitReader_source : NoAttr K (He.ga K "BitReader") "source"
  n_BitReader_taken : NoAttr K (He.ga K "BitReader") "taken"
  m_BitReader_left : Meth K (He.ga K "BitReader") "left" (He.ma K (He.ga K "BitReader") "left")
  m_BitReader_place : Meth K (He.ga K "BitReader") "place" (He.ma K (He.ga K "BitReader") "place")
  m_BitReader_go : Meth K (He.ga K "BitReader") "go" (He.ma K (He.ga K "BitReader") "go")
  m_BitReader_take : Meth K (He.ga K "BitReader") "take" (He.ma K (He.ga K "BitReader") "take")
  k_BitReader : Mk K (He.ga K "BitReader") (He.ma K (He.ga K "BitReader") "__init__")
  g__law_cell_at : mg "_law_cell_at" = some (.ref (He.ga K "_law_cell_at"))
  g__law_mixed : mg "_law_mixed" = some (.ref (He.ga K "_law_mixed"))
  g__law_table : mg "_law_table" = some (.ref (He.ga K "_law_table"))
  g__law_word : mg "_law_word" = some (.ref (He.ga K "_law_word"))
  g__law_put : mg "_law_put" = some (.ref (He.ga K "_law_put"))
  g__law_taken : mg "_law_taken" = some (.ref (He.ga K "_law_taken"))
  g__law_odd : mg "_law_odd" = some (.ref (He.ga K "_law_odd"))
  g__law_put_right : mg "_law_put_right" = some (.ref (He.ga K "_law_put_right"))
  g__law_too_many : mg "_law_too_many" = some (.ref (He.ga K "_law_too_many"))
  g__law_ended : mg "_law_ended" = some (.ref (He.ga K "_law_ended"))
  g__law_taking_right : mg "_law_taking_right" = some (.ref (He.ga K "_law_taking_right"))
  g__law_cut : mg "_law_cut" = some (.ref (He.ga K "_law_cut"))
  g_law : mg "law" = some (.ref (He.ga K "law"))
  f_all : mg "all" = none
  f_bool : mg "bool" = none
  f_divmod : mg "divmod" = none
  f_int : mg "int" = none
  f_isinstance : mg "isinstance" = none
  f_len : mg "len" = none
  f_list : mg "list" = none
  f_max : mg "max" = none
  f_min : mg "min" = none
  f_range : mg "range" = none
  f_repr : mg "repr" = none
  f_sum : mg "sum" = none
  f_tuple : mg "tuple" = none
  f_ValueError : mg "ValueError" = none
  e_BadTable : L2.ExcC K (He.ga K "BadTable")
  y_BadTable_PressError : PySem.W.exmOne K (.ref (He.ga K "BadTable")) (.ref (He.ga K "PressError")) = some true
  s_BadTable_BadBits : PySem.W.kitOne K (.ref (He.ga K "BadTable")) (.ref (He.ga K "BadBits")) = some false
  s_BadTable_BadBody : PySem.W.kitOne K (.ref (He.ga K "BadTable")) (.ref (He.ga K "BadBody")) = some false
  s_BadTable_BadCheck : PySem.W.kitOne K (.ref (He.ga K "BadTable")) (.ref (He.ga K "BadCheck")) = some false
  s_BadTable_BadCode : PySem.W.kitOne K (.ref (He.ga K "BadTable")) (.ref (He.ga K "BadCode")) = some false
  s_BadTable_BadHead : PySem.W.kitOne K (.ref (He.ga K "BadTable")) (.ref (He.ga K "BadHead")) = some false
  s_BadTable_BadLengths : PySem.W.kitOne K (.ref (He.ga K "BadTable")) (.ref (He.ga K "BadLengths")) = some false
  s_BadTable_BadLetters : PySem.W.kitOne K (.ref (He.ga K "BadTable")) (.ref (He.ga K "BadLetters")) = some false
  s_BadTable_BadMark : PySem.W.kitOne K (.ref (He.ga K "BadTable")) (.ref (He.ga K "BadMark")) = some false
  s_BadTable_BadPieces : PySem.W.kitOne K (.ref (He.ga K "BadTable")) (.ref (He.ga K "BadPieces")) = some false
  s_BadTable_BadRow : PySem.W.kitOne K (.ref (He.ga K "BadTable")) (.ref (He.ga K "BadRow")) = some false
  s_BadTable_BadShares : PySem.W.kitOne K (.ref (He.ga K "BadTable")) (.ref (He.ga K "BadShares")) = some false
  s_BadTable_BadTail : PySem.W.kitOne K (.ref (He.ga K "BadTable")) (.ref (He.ga K "BadTail")) = some false
  s_BadTable_Behind : PySem.W.kitOne K (.ref (He.ga K "BadTable")) (.ref (He.ga K "Behind")) = some false
  s_BadTable_Cut : PySem.W.kitOne K (.ref (He.ga K "BadTable")) (.ref (He.ga K "Cut")) = some false
  s_BadTable_NoRange : PySem.W.kitOne K (.ref (He.ga K "BadTable")) (.ref (He.ga K "NoRange")) = some false
  s_BadTable_Over : PySem.W.kitOne K (.ref (He.ga K "BadTable")) (.ref (He.ga K "Over")) = some false
  s_BadTable_BadTable : PySem.W.kitOne K (.ref (He.ga K "BadTable")) (.ref (He.ga K "BadTable")) = some true
  s_BadTable_NoBits : PySem.W.kitOne K (.ref (He.ga K "BadTable")) (.ref (He.ga K "NoBits")) = some false
  v_BadTable_ValueError : PySem.W.kitOne K (.ref (He.ga K "BadTable")) (.type "ValueError") = some true
  e_NoBits : L2.ExcC K (He.ga K "NoBits")
  y_NoBits_NoBits : PySem.W.exmOne K (.ref (He.ga K "NoBits")) (.ref (He.ga K "NoBits")) = some true
  y_NoBits_PressError : PySem.W.exmOne K (.ref (He.ga K "NoBits")) (.ref (He.ga K "PressError")) = some true
  s_NoBits_BadBits : PySem.W.kitOne K (.ref (He.ga K "NoBits")) (.ref (He.ga K "BadBits")) = some false
  s_NoBits_BadBody : PySem.W.kitOne K (.ref (He.ga K "NoBits")) (.ref (He.ga K "BadBody")) = some false
  s_NoBits_BadCheck : PySem.W.kitOne K (.ref (He.ga K "NoBits")) (.ref (He.ga K "BadCheck")) = some false
  s_NoBits_BadCode : PySem.W.kitOne K (.ref (He.ga K "NoBits")) (.ref (He.ga K "BadCode")) = some false
  s_NoBits_BadHead : PySem.W.kitOne K (.ref (He.ga K "NoBits")) (.ref (He.ga K "BadHead")) = some false
  s_NoBits_BadLengths : PySem.W.kitOne K (.ref (He.ga K "NoBits")) (.ref (He.ga K "BadLengths")) = some false
  s_NoBits_BadLetters : PySem.W.kitOne K (.ref (He.ga K "NoBits")) (.ref (He.ga K "BadLetters")) = some false
  s_NoBits_BadMark : PySem.W.kitOne K (.ref (He.ga K "NoBits")) (.ref (He.ga K "BadMark")) = some false
  s_NoBits_BadPieces : PySem.W.kitOne K (.ref (He.ga K "NoBits")) (.ref (He.ga K "BadPieces")) = some false
  s_NoBits_BadRow : PySem.W.kitOne K (.ref (He.ga K "NoBits")) (.ref (He.ga K "BadRow")) = some false
  s_NoBits_BadShares : PySem.W.kitOne K (.ref (He.ga K "NoBits")) (.ref (He.ga K "BadShares")) = some false
  s_NoBits_BadTail : PySem.W.kitOne K (.ref (He.ga K "NoBits")) (.ref (He.ga K "BadTail")) = some false
  s_NoBits_Behind : PySem.W.kitOne K (.ref (He.ga K "NoBits")) (.ref (He.ga K "Behind")) = some false
  s_NoBits_Cut : PySem.W.kitOne K (.ref (He.ga K "NoBits")) (.ref (He.ga K "Cut")) = some false
  s_NoBits_NoRange : PySem.W.kitOne K (.ref (He.ga K "NoBits")) (.ref (He.ga K "NoRange")) = some false
  s_NoBits_Over : PySem.W.kitOne K (.ref (He.ga K "NoBits")) (.ref (He.ga K "Over")) = some false
  s_NoBits_BadTable : PySem.W.kitOne K (.ref (He.ga K "NoBits")) (.ref (He.ga K "BadTable")) = some false
  s_NoBits_NoBits : PySem.W.kitOne K (.ref (He.ga K "NoBits")) (.ref (He.ga K "NoBits")) = some true
  v_NoBits_ValueError : PySem.W.kitOne K (.ref (He.ga K "NoBits")) (.type "ValueError") = some true
  d__law_mixed : ∃ fd, FunD K d__law_mixed.name d__law_mixed.qual d__law_mixed.params d__law_mixed.body d__law_mixed.scope (d__law_mixed.dvs K) (d__law_mixed.kws K) (He.fAd K d__law_mixed.at_) fd
  d__law_cell_at : ∃ fd, FunD K d__law_cell_at.name d__law_cell_at.qual d__law_cell_at.params d__law_cell_at.body d__law_cell_at.scope (d__law_cell_at.dvs K) (d__law_cell_at.kws K) (He.fAd K d__law_cell_at.at_) fd
  d__law_table : ∃ fd, FunD K d__law_table.name d__law_table.qual d__law_table.params d__law_table.body d__law_table.scope (d__law_table.dvs K) (d__law_table.kws K) (He.fAd K d__law_table.at_) fd
  d_BitRow___init__ : ∃ fd, FunD K d_BitRow___init__.name d_BitRow___init__.qual d_BitRow___init__.params d_BitRow___init__.body d_BitRow___init__.scope (d_BitRow___init__.dvs K) (d_BitRow___init__.kws K) (He.fAd K d_BitRow___init__.at_) fd
  d_is_number : ∃ fd, FunD K d_is_number.name d_is_number.qual d_is_number.params d_is_number.body d_is_number.scope (d_is_number.dvs K) (d_is_number.kws K) (He.fAd K d_is_number.at_) fd
  d_need_size : ∃ fd, FunD K d_need_size.name d_need_size.qual d_need_size.params d_need_size.body d_need_size.scope (d_need_size.dvs K) (d_need_size.kws K) (He.fAd K d_need_size.at_) fd
  d_BitRow_put : ∃ fd, FunD K d_BitRow_put.name d_BitRow_put.qual d_BitRow_put.params d_BitRow_put.body d_BitRow_put.scope (d_BitRow_put.dvs K) (d_BitRow_put.kws K) (He.fAd K d_BitRow_put.at_) fd
  d__law_odd : ∃ fd, FunD K d__law_odd.name d__law_odd.qual d__law_odd.params d__law_odd.body d__law_odd.scope (d__law_odd.dvs K) (d__law_odd.kws K) (He.fAd K d__law_odd.at_) fd
  d_BitRow_row : ∃ fd, FunD K d_BitRow_row.name d_BitRow_row.qual d_BitRow_row.params d_BitRow_row.body d_BitRow_row.scope (d_BitRow_row.dvs K) (d_BitRow_row.kws K) (He.fAd K d_BitRow_row.at_) fd
  d_BitRow_many : ∃ fd, FunD K d_BitRow_many.name d_BitRow_many.qual d_BitRow_many.params d_BitRow_many.body d_BitRow_many.scope (d_BitRow_many.dvs K) (d_BitRow_many.kws K) (He.fAd K d_BitRow_many.at_) fd
  d_is_table : ∃ fd, FunD K d_is_table.name d_is_table.qual d_is_table.params d_is_table.body d_is_table.scope (d_is_table.dvs K) (d_is_table.kws K) (He.fAd K d_is_table.at_) fd
  d_alike_from : ∃ fd, FunD K d_alike_from.name d_alike_from.qual d_alike_from.params d_alike_from.body d_alike_from.scope (d_alike_from.dvs K) (d_alike_from.kws K) (He.fAd K d_alike_from.at_) fd
  d_put_table : ∃ fd, FunD K d_put_table.name d_put_table.qual d_put_table.params d_put_table.body d_put_table.scope (d_put_table.dvs K) (d_put_table.kws K) (He.fAd K d_put_table.at_) fd
  d__law_word : ∃ fd, FunD K d__law_word.name d__law_word.qual d__law_word.params d__law_word.body d__law_word.scope (d__law_word.dvs K) (d__law_word.kws K) (He.fAd K d__law_word.at_) fd
  d__law_put : ∃ fd, FunD K d__law_put.name d__law_put.qual d__law_put.params d__law_put.body d__law_put.scope (d__law_put.dvs K) (d__law_put.kws K) (He.fAd K d__law_put.at_) fd
  d__law_put_right : ∃ fd, FunD K d__law_put_right.name d__law_put_right.qual d__law_put_right.params d__law_put_right.body d__law_put_right.scope (d__law_put_right.dvs K) (d__law_put_right.kws K) (He.fAd K d__law_put_right.at_) fd
  d_is_byte : ∃ fd, FunD K d_is_byte.name d_is_byte.qual d_is_byte.params d_is_byte.body d_is_byte.scope (d_is_byte.dvs K) (d_is_byte.kws K) (He.fAd K d_is_byte.at_) fd
  d_is_row : ∃ fd, FunD K d_is_row.name d_is_row.qual d_is_row.params d_is_row.body d_is_row.scope (d_is_row.dvs K) (d_is_row.kws K) (He.fAd K d_is_row.at_) fd
  d_need_row : ∃ fd, FunD K d_need_row.name d_need_row.qual d_need_row.params d_need_row.body d_need_row.scope (d_need_row.dvs K) (d_need_row.kws K) (He.fAd K d_need_row.at_) fd
  d_BitReader___init__ : ∃ fd, FunD K d_BitReader___init__.name d_BitReader___init__.qual d_BitReader___init__.params d_BitReader___init__.body d_BitReader___init__.scope (d_BitReader___init__.dvs K) (d_BitReader___init__.kws K) (He.fAd K d_BitReader___init__.at_) fd
  d_BitReader_left : ∃ fd, FunD K d_BitReader_left.name d_BitReader_left.qual d_BitReader_left.params d_BitReader_left.body d_BitReader_left.scope (d_BitReader_left.dvs K) (d_BitReader_left.kws K) (He.fAd K d_BitReader_left.at_) fd
  d_BitReader_take : ∃ fd, FunD K d_BitReader_take.name d_BitReader_take.qual d_BitReader_take.params d_BitReader_take.body d_BitReader_take.scope (d_BitReader_take.dvs K) (d_BitReader_take.kws K) (He.fAd K d_BitReader_take.at_) fd
  d_BitReader_place : ∃ fd, FunD K d_BitReader_place.name d_BitReader_place.qual d_BitReader_place.params d_BitReader_place.body d_BitReader_place.scope (d_BitReader_place.dvs K) (d_BitReader_place.kws K) (He.fAd K d_BitReader_place.at_) fd
  d_items_read : ∃ fd, FunD K d_items_read.name d_items_read.qual d_items_read.params d_items_read.body d_items_read.scope (d_items_read.dvs K) (d_items_read.kws K) (He.fAd K d_items_read.at_) fd
  d_BitReader_go : ∃ fd, FunD K d_BitReader_go.name d_BitReader_go.qual d_BitReader_go.params d_BitReader_go.body d_BitReader_go.scope (d_BitReader_go.dvs K) (d_BitReader_go.kws K) (He.fAd K d_BitReader_go.at_) fd
  d_take_table : ∃ fd, FunD K d_take_table.name d_take_table.qual d_take_table.params d_take_table.body d_take_table.scope (d_take_table.dvs K) (d_take_table.kws K) (He.fAd K d_take_table.at_) fd
  d__law_taken : ∃ fd, FunD K d__law_taken.name d__law_taken.qual d__law_taken.params d__law_taken.body d__law_taken.scope (d__law_taken.dvs K) (d__law_taken.kws K) (He.fAd K d__law_taken.at_) fd
  d__law_taking_right : ∃ fd, FunD K d__law_taking_right.name d__law_taking_right.qual d__law_taking_right.params d__law_taking_right.body d__law_taking_right.scope (d__law_taking_right.dvs K) (d__law_taking_right.kws K) (He.fAd K d__law_taking_right.at_) fd
  d__law_too_many : ∃ fd, FunD K d__law_too_many.name d__law_too_many.qual d__law_too_many.params d__law_too_many.body d__law_too_many.scope (d__law_too_many.dvs K) (d__law_too_many.kws K) (He.fAd K d__law_too_many.at_) fd
  d__law_cut : ∃ fd, FunD K d__law_cut.name d__law_cut.qual d__law_cut.params d__law_cut.body d__law_cut.scope (d__law_cut.dvs K) (d__law_cut.kws K) (He.fAd K d__law_cut.at_) fd
  d__law_ended : ∃ fd, FunD K d__law_ended.name d__law_ended.qual d__law_ended.params d__law_ended.body d__law_ended.scope (d__law_ended.dvs K) (d__law_ended.kws K) (He.fAd K d__law_ended.at_) fd
  d_law : ∃ fd, FunD K d_law.name d_law.qual d_law.params d_law.body d_law.scope (d_law.dvs K) (d_law.kws K) (He.fAd K d_law.at_) fd
theorem tx_of {K : PySem.W.Frag} {h : Heap} {mg : Str → Option Value} (X : K.In h) (G : h.Ns mainGlobals mg) (c : He.SaysD fa fn K) (ce : ex K = true) : Tx K mg where
  g_PressError := He.glo_ok X G (c.fact 0 (f := .glo "PressError") rfl)
  g_BadRow := He.glo_ok X G (c.fact 1 (f := .glo "BadRow") rfl)
  x_BadRow := He.exc_ok (c.fact 2 (f := .exc "BadRow") rfl)
  g_BadBits := He.glo_ok X G (c.fact 3 (f := .glo "BadBits") rfl)
  x_BadBits := He.exc_ok (c.fact 4 (f := .exc "BadBits") rfl)
  g_NoBits := He.glo_ok X G (c.fact 5 (f := .glo "NoBits") rfl)
  x_NoBits := He.exc_ok (c.fact 6 (f := .exc "NoBits") rfl)
  g_BadShares := He.glo_ok X G (c.fact 7 (f := .glo "BadShares") rfl)
  g_BadLengths := He.glo_ok X G (c.fact 8 (f := .glo "BadLengths") rfl)
  g_BadCode := He.glo_ok X G (c.fact 9 (f := .glo "BadCode") rfl)
  g_BadTable := He.glo_ok X G (c.fact 10 (f := .glo "BadTable") rfl)
  x_BadTable := He.exc_ok (c.fact 11 (f := .exc "BadTable") rfl)
  g_BadPieces := He.glo_ok X G (c.fact 12 (f := .glo "BadPieces") rfl)
  g_BadBody := He.glo_ok X G (c.fact 13 (f := .glo "BadBody") rfl)
  g_BadHead := He.glo_ok X G (c.fact 14 (f := .glo "BadHead") rfl)
  g_BadCheck := He.glo_ok X G (c.fact 15 (f := .glo "BadCheck") rfl)
  g_BadMark := He.glo_ok X G (c.fact 16 (f := .glo "BadMark") rfl)
  g_BadTail := He.glo_ok X G (c.fact 17 (f := .glo "BadTail") rfl)
  g_Cut := He.glo_ok X G (c.fact 18 (f := .glo "Cut") rfl)
  g_Behind := He.glo_ok X G (c.fact 19 (f := .glo "Behind") rfl)
  g_Over := He.glo_ok X G (c.fact 20 (f := .glo "Over") rfl)
  g_NoRange := He.glo_ok X G (c.fact 21 (f := .glo "NoRange") rfl)
  g_BadLetters := He.glo_ok X G (c.fact 22 (f := .glo "BadLetters") rfl)
  g_MANY := He.int_ok X G (c.fact 23 (f := .int "MANY" 272) rfl)
  g_MOST_LENGTH := He.int_ok X G (c.fact 24 (f := .int "MOST_LENGTH" 6) rfl)
  g_MORE_MARK := He.int_ok X G (c.fact 25 (f := .int "MORE_MARK" 7) rfl)
  g_LEAST_MORE := He.int_ok X G (c.fact 26 (f := .int "LEAST_MORE" 3) rfl)
  g_MOST_MORE := He.int_ok X G (c.fact 27 (f := .int "MOST_MORE" 66) rfl)
  g_LENGTH_BITS := He.int_ok X G (c.fact 28 (f := .int "LENGTH_BITS" 3) rfl)
  g_MORE_BITS := He.int_ok X G (c.fact 29 (f := .int "MORE_BITS" 6) rfl)
  g_is_table := He.glo_ok X G (c.fact 30 (f := .glo "is_table") rfl)
  g_alike_from := He.glo_ok X G (c.fact 31 (f := .glo "alike_from") rfl)
  g_put_table := He.glo_ok X G (c.fact 32 (f := .glo "put_table") rfl)
  g_items_read := He.glo_ok X G (c.fact 33 (f := .glo "items_read") rfl)
  g_take_table := He.glo_ok X G (c.fact 34 (f := .glo "take_table") rfl)
  g_MOST_BYTE := He.int_ok X G (c.fact 35 (f := .int "MOST_BYTE" 255) rfl)
  g_is_byte := He.glo_ok X G (c.fact 36 (f := .glo "is_byte") rfl)
  g_is_row := He.glo_ok X G (c.fact 37 (f := .glo "is_row") rfl)
  g_need_row := He.glo_ok X G (c.fact 38 (f := .glo "need_row") rfl)
  g_BYTE := He.int_ok X G (c.fact 39 (f := .int "BYTE" 8) rfl)
  g_MOST_SIZE := He.int_ok X G (c.fact 40 (f := .int "MOST_SIZE" 24) rfl)
  g_is_number := He.glo_ok X G (c.fact 41 (f := .glo "is_number") rfl)
  g_need_size := He.glo_ok X G (c.fact 42 (f := .glo "need_size") rfl)
  g_BitRow := He.glo_ok X G (c.fact 43 (f := .glo "BitRow") rfl)
  c_BitRow := He.cls_ok (c.fact 44 (f := .cls "BitRow") rfl)
  n_BitRow_full := He.noat_ok (c.fact 45 (f := .noat "BitRow" "full") rfl)
  n_BitRow_part := He.noat_ok (c.fact 46 (f := .noat "BitRow" "part") rfl)
  n_BitRow_filled := He.noat_ok (c.fact 47 (f := .noat "BitRow" "filled") rfl)
  m_BitRow_put := He.meth_ok (c.fact 48 (f := .meth "BitRow" "put") rfl)
  m_BitRow_many := He.meth_ok (c.fact 49 (f := .meth "BitRow" "many") rfl)
  m_BitRow_row := He.meth_ok (c.fact 50 (f := .meth "BitRow" "row") rfl)
  k_BitRow := He.mkr_ok (c.fact 51 (f := .mkr "BitRow") rfl)
  g_BitReader := He.glo_ok X G (c.fact 52 (f := .glo "BitReader") rfl)
  c_BitReader := He.cls_ok (c.fact 53 (f := .cls "BitReader") rfl)
  n_BitReader_source := He.noat_ok (c.fact 54 (f := .noat "BitReader" "source") rfl)
  n_BitReader_taken := He.noat_ok (c.fact 55 (f := .noat "BitReader" "taken") rfl)
  m_BitReader_left := He.meth_ok (c.fact 56 (f := .meth "BitReader" "left") rfl)
  m_BitReader_place := He.meth_ok (c.fact 57 (f := .meth "BitReader" "place") rfl)
  m_BitReader_go := He.meth_ok (c.fact 58 (f := .meth "BitReader" "go") rfl)
  m_BitReader_take := He.meth_ok (c.fact 59 (f := .meth "BitReader" "take") rfl)
  k_BitReader := He.mkr_ok (c.fact 60 (f := .mkr "BitReader") rfl)
  g__law_cell_at := He.glo_ok X G (c.fact 61 (f := .glo "_law_cell_at") rfl)
  g__law_mixed := He.glo_ok X G (c.fact 62 (f := .glo "_law_mixed") rfl)
  g__law_table := He.glo_ok X G (c.fact 63 (f := .glo "_law_table") rfl)
  g__law_word := He.glo_ok X G (c.fact 64 (f := .glo "_law_word") rfl)
  g__law_put := He.glo_ok X G (c.fact 65 (f := .glo "_law_put") rfl)
  g__law_taken := He.glo_ok X G (c.fact 66 (f := .glo "_law_taken") rfl)
  g__law_odd := He.glo_ok X G (c.fact 67 (f := .glo "_law_odd") rfl)
  g__law_put_right := He.glo_ok X G (c.fact 68 (f := .glo "_law_put_right") rfl)
  g__law_too_many := He.glo_ok X G (c.fact 69 (f := .glo "_law_too_many") rfl)
  g__law_ended := He.glo_ok X G (c.fact 70 (f := .glo "_law_ended") rfl)
  g__law_taking_right := He.glo_ok X G (c.fact 71 (f := .glo "_law_taking_right") rfl)
  g__law_cut := He.glo_ok X G (c.fact 72 (f := .glo "_law_cut") rfl)
  g_law := He.glo_ok X G (c.fact 73 (f := .glo "law") rfl)
  f_all := He.free_ok X G (c.fact 74 (f := .free "all") rfl)
  f_bool := He.free_ok X G (c.fact 75 (f := .free "bool") rfl)
  f_divmod := He.free_ok X G (c.fact 76 (f := .free "divmod") rfl)
  f_int := He.free_ok X G (c.fact 77 (f := .free "int") rfl)
  f_isinstance := He.free_ok X G (c.fact 78 (f := .free "isinstance") rfl)
  f_len := He.free_ok X G (c.fact 79 (f := .free "len") rfl)
  f_list := He.free_ok X G (c.fact 80 (f := .free "list") rfl)
  f_max := He.free_ok X G (c.fact 81 (f := .free "max") rfl)
  f_min := He.free_ok X G (c.fact 82 (f := .free "min") rfl)
  f_range := He.free_ok X G (c.fact 83 (f := .free "range") rfl)
  f_repr := He.free_ok X G (c.fact 84 (f := .free "repr") rfl)
  f_sum := He.free_ok X G (c.fact 85 (f := .free "sum") rfl)
  f_tuple := He.free_ok X G (c.fact 86 (f := .free "tuple") rfl)
  f_ValueError := He.free_ok X G (c.fact 87 (f := .free "ValueError") rfl)
  e_BadTable := by have h := ex_at ce 0; have z0 := He.ba h; have z1 := He.ba z0.2; have z2 := He.ba z1.2; have z3 := He.ba z2.2; have z4 := He.ba z3.2; have z5 := He.ba z4.2; have z6 := He.ba z5.2; exact ⟨He.eqO_ok z0.1, He.eqO_ok z1.1, of_decide_eq_true z2.1, z3.1, He.eqO_ok z4.1, He.eqO_ok z5.1, of_decide_eq_true z6.1, of_decide_eq_true z6.2⟩
  y_BadTable_PressError := by have h := ex_at ce 1; exact of_decide_eq_true h
  s_BadTable_BadBits := by have h := ex_at ce 2; exact of_decide_eq_true h
  s_BadTable_BadBody := by have h := ex_at ce 3; exact of_decide_eq_true h
  s_BadTable_BadCheck := by have h := ex_at ce 4; exact of_decide_eq_true h
  s_BadTable_BadCode := by have h := ex_at ce 5; exact of_decide_eq_true h
  s_BadTable_BadHead := by have h := ex_at ce 6; exact of_decide_eq_true h
  s_BadTable_BadLengths := by have h := ex_at ce 7; exact of_decide_eq_true h
  s_BadTable_BadLetters := by have h := ex_at ce 8; exact of_decide_eq_true h
  s_BadTable_BadMark := by have h := ex_at ce 9; exact of_decide_eq_true h
  s_BadTable_BadPieces := by have h := ex_at ce 10; exact of_decide_eq_true h
  s_BadTable_BadRow := by have h := ex_at ce 11; exact of_decide_eq_true h
  s_BadTable_BadShares := by have h := ex_at ce 12; exact of_decide_eq_true h
  s_BadTable_BadTail := by have h := ex_at ce 13; exact of_decide_eq_true h
  s_BadTable_Behind := by have h := ex_at ce 14; exact of_decide_eq_true h
  s_BadTable_Cut := by have h := ex_at ce 15; exact of_decide_eq_true h
  s_BadTable_NoRange := by have h := ex_at ce 16; exact of_decide_eq_true h
  s_BadTable_Over := by have h := ex_at ce 17; exact of_decide_eq_true h
  s_BadTable_BadTable := by have h := ex_at ce 18; exact of_decide_eq_true h
  s_BadTable_NoBits := by have h := ex_at ce 19; exact of_decide_eq_true h
  v_BadTable_ValueError := by have h := ex_at ce 20; exact of_decide_eq_true h
  e_NoBits := by have h := ex_at ce 21; have z0 := He.ba h; have z1 := He.ba z0.2; have z2 := He.ba z1.2; have z3 := He.ba z2.2; have z4 := He.ba z3.2; have z5 := He.ba z4.2; have z6 := He.ba z5.2; exact ⟨He.eqO_ok z0.1, He.eqO_ok z1.1, of_decide_eq_true z2.1, z3.1, He.eqO_ok z4.1, He.eqO_ok z5.1, of_decide_eq_true z6.1, of_decide_eq_true z6.2⟩
  y_NoBits_NoBits := by have h := ex_at ce 22; exact of_decide_eq_true h
  y_NoBits_PressError := by have h := ex_at ce 23; exact of_decide_eq_true h
  s_NoBits_BadBits := by have h := ex_at ce 24; exact of_decide_eq_true h
  s_NoBits_BadBody := by have h := ex_at ce 25; exact of_decide_eq_true h
  s_NoBits_BadCheck := by have h := ex_at ce 26; exact of_decide_eq_true h
  s_NoBits_BadCode := by have h := ex_at ce 27; exact of_decide_eq_true h
  s_NoBits_BadHead := by have h := ex_at ce 28; exact of_decide_eq_true h
  s_NoBits_BadLengths := by have h := ex_at ce 29; exact of_decide_eq_true h
  s_NoBits_BadLetters := by have h := ex_at ce 30; exact of_decide_eq_true h
  s_NoBits_BadMark := by have h := ex_at ce 31; exact of_decide_eq_true h
  s_NoBits_BadPieces := by have h := ex_at ce 32; exact of_decide_eq_true h
  s_NoBits_BadRow := by have h := ex_at ce 33; exact of_decide_eq_true h
  s_NoBits_BadShares := by have h := ex_at ce 34; exact of_decide_eq_true h
  s_NoBits_BadTail := by have h := ex_at ce 35; exact of_decide_eq_true h
  s_NoBits_Behind := by have h := ex_at ce 36; exact of_decide_eq_true h
  s_NoBits_Cut := by have h := ex_at ce 37; exact of_decide_eq_true h
  s_NoBits_NoRange := by have h := ex_at ce 38; exact of_decide_eq_true h
  s_NoBits_Over := by have h := ex_at ce 39; exact of_decide_eq_true h
  s_NoBits_BadTable := by have h := ex_at ce 40; exact of_decide_eq_true h
  s_NoBits_NoBits := by have h := ex_at ce 41; exact of_decide_eq_true h
  v_NoBits_ValueError := by have h := ex_at ce 42; exact of_decide_eq_true h
  d__law_mixed := c.def_ 20 (d := d__law_mixed) rfl
  d__law_cell_at := c.def_ 19 (d := d__law_cell_at) rfl
  d__law_table := c.def_ 21 (d := d__law_table) rfl
  d_BitRow___init__ := c.def_ 10 (d := d_BitRow___init__) rfl
  d_is_number := c.def_ 8 (d := d_is_number) rfl
  d_need_size := c.def_ 9 (d := d_need_size) rfl
  d_BitRow_put := c.def_ 11 (d := d_BitRow_put) rfl
  d__law_odd := c.def_ 25 (d := d__law_odd) rfl
  d_BitRow_row := c.def_ 13 (d := d_BitRow_row) rfl
  d_BitRow_many := c.def_ 12 (d := d_BitRow_many) rfl
  d_is_table := c.def_ 0 (d := d_is_table) rfl
  d_alike_from := c.def_ 1 (d := d_alike_from) rfl
  d_put_table := c.def_ 2 (d := d_put_table) rfl
  d__law_word := c.def_ 22 (d := d__law_word) rfl
  d__law_put := c.def_ 23 (d := d__law_put) rfl
  d__law_put_right := c.def_ 26 (d := d__law_put_right) rfl
  d_is_byte := c.def_ 5 (d := d_is_byte) rfl
  d_is_row := c.def_ 6 (d := d_is_row) rfl
  d_need_row := c.def_ 7 (d := d_need_row) rfl
  d_BitReader___init__ := c.def_ 14 (d := d_BitReader___init__) rfl
  d_BitReader_left := c.def_ 15 (d := d_BitReader_left) rfl
  d_BitReader_take := c.def_ 18 (d := d_BitReader_take) rfl
  d_BitReader_place := c.def_ 16 (d := d_BitReader_place) rfl
  d_items_read := c.def_ 3 (d := d_items_read) rfl
  d_BitReader_go := c.def_ 17 (d := d_BitReader_go) rfl
  d_take_table := c.def_ 4 (d := d_take_table) rfl
  d__law_taken := c.def_ 24 (d := d__law_taken) rfl
  d__law_taking_right := c.def_ 29 (d := d__law_taking_right) rfl
  d__law_too_many := c.def_ 27 (d := d__law_too_many) rfl
  d__law_cut := c.def_ 30 (d := d__law_cut) rfl
  d__law_ended := c.def_ 28 (d := d__law_ended) rfl
  d_law := c.def_ 31 (d := d_law) rfl
theorem of_KBitRow {K : PySem.W.Frag} {mg : Str → Option Value} (T : Tx K mg) : KBitRow K := ⟨T.c_BitRow, T.n_BitRow_full, T.n_BitRow_part, T.n_BitRow_filled⟩
theorem of_KWBadTable {K : PySem.W.Frag} {mg : Str → Option Value} (T : Tx K mg) : KWBadTable K := ⟨T.e_BadTable, T.y_BadTable_PressError, T.v_BadTable_ValueError, T.s_BadTable_BadRow, T.s_BadTable_BadBits, T.s_BadTable_NoBits, T.s_BadTable_BadShares, T.s_BadTable_BadLengths, T.s_BadTable_BadCode, T.s_BadTable_BadTable, T.s_BadTable_Cut, T.s_BadTable_BadPieces, T.s_BadTable_BadBody, T.s_BadTable_BadHead, T.s_BadTable_BadCheck, T.s_BadTable_BadMark, T.s_BadTable_BadTail, T.s_BadTable_Behind, T.s_BadTable_Over, T.s_BadTable_NoRange, T.s_BadTable_BadLetters⟩
theorem of_KBitReader {K : PySem.W.Frag} {mg : Str → Option Value} (T : Tx K mg) : KBitReader K := ⟨T.c_BitReader, T.n_BitReader_source, T.n_BitReader_taken⟩
theorem of_KTry1 {K : PySem.W.Frag} {mg : Str → Option Value} (T : Tx K mg) : KTry1 K := ⟨T.y_NoBits_NoBits⟩
theorem of_KWNoBits {K : PySem.W.Frag} {mg : Str → Option Value} (T : Tx K mg) : KWNoBits K := ⟨T.e_NoBits, T.y_NoBits_PressError, T.v_NoBits_ValueError, T.s_NoBits_BadRow, T.s_NoBits_BadBits, T.s_NoBits_NoBits, T.s_NoBits_BadShares, T.s_NoBits_BadLengths, T.s_NoBits_BadCode, T.s_NoBits_BadTable, T.s_NoBits_Cut, T.s_NoBits_BadPieces, T.s_NoBits_BadBody, T.s_NoBits_BadHead, T.s_NoBits_BadCheck, T.s_NoBits_BadMark, T.s_NoBits_BadTail, T.s_NoBits_Behind, T.s_NoBits_Over, T.s_NoBits_NoRange, T.s_NoBits_BadLetters⟩
abbrev N__law_mixed : List Str := ["_law_cell", "_law_k"]
theorem sc__law_mixed : FnScope N__law_mixed ["_law_cell", "_law_k"] (defScope s__law_mixed) := ⟨rfl, rfl, rfl, by decide +kernel, rfl, by decide +kernel, by decide +kernel⟩
theorem wk__law_mixed {P : Program} {w : World} {K : PySem.W.Frag} {mg : Str → Option Value} {base : Heap} (T : Tx K mg)  {f : Addr} {cdv : Value} {A : Around} {outer : List Env} {s : Shared} {H : Hp} {E : XK} 
    (hr : Room 0 (A.deeper (envOfC "_law_mixed" (defScope s__law_mixed) s.heap.objs.size f cdv))) :
    PSs (cxOf (L2M.CX P w) P w K mg base N__law_mixed "_law_mixed" (defScope s__law_mixed) f cdv A outer s H E) (defBody s__law_mixed) (t__law_mixed K (fun c d _ H2 => E c d H2)) := by
  have hu1 := hu_of hr
  have hu64 := hr.units
  have tk : L2M.Takes (cxOf (L2M.CX P w) P w K mg base N__law_mixed "_law_mixed" (defScope s__law_mixed) f cdv A outer s H E) (fun c d _ H2 => E c d H2) := L2M.takes_of rfl rfl rfl rfl
  exact (pss_one (ps_ret (pe_op op_modU (pe_op op_mulU (pe_op op_modU (pe_op op_mulU (pe_op op_addU (pe_op op_addU (pv 0) (pe_op op_mulU (pe_op op_mulU (pe_int) (pv 1)) (pv 1))) (pe_int)) (pe_int)) (pe_int)) (pe_int)) (pe_int))))
theorem fn__law_mixed {P : Program} {w : World} {K : PySem.W.Frag} {mg : Str → Option Value} {base : Heap} (T : Tx K mg) {f : Addr} {fd : FuncData} (F : FunD K d__law_mixed.name d__law_mixed.qual d__law_mixed.params d__law_mixed.body d__law_mixed.scope (d__law_mixed.dvs K) (d__law_mixed.kws K) f fd) :
    FnOk P w K mg base (L2M.CX P w) 1 f fd ["_law_cell", "_law_k"] (sp__law_mixed K) :=
  F.ok sc__law_mixed (fun vs H Q E h => len__law_mixed h) (fun cdv A outer s H vs Q E hr h => ⟨t__law_mixed K (fun c d _ H2 => E c d H2), wk__law_mixed T  hr, rd__law_mixed  h⟩)
theorem ok__law_mixed_2 {P : Program} {w : World} {K : PySem.W.Frag} {mg : Str → Option Value} {base : Heap} (T : Tx K mg) : L2M.DOk P w K mg base 1 (He.fAd K ("_law_mixed", none)) ["_law_cell", "_law_k"] [] (sp__law_mixed K) := by
  obtain ⟨fd, F⟩ := T.d__law_mixed
  exact ⟨fd, [], .nil, FunD.bindsN F fun _ _ _ _ _ _ us hl => match us, hl with | [_, _], _ => rfl, fn__law_mixed T F, F.kp⟩
abbrev N__law_cell_at : List Str := ["_law_script", "_law_k"]
theorem sc__law_cell_at : FnScope N__law_cell_at ["_law_script", "_law_k"] (defScope s__law_cell_at) := ⟨rfl, rfl, rfl, by decide +kernel, rfl, by decide +kernel, by decide +kernel⟩
theorem wk__law_cell_at {P : Program} {w : World} {K : PySem.W.Frag} {mg : Str → Option Value} {base : Heap} (T : Tx K mg)  {f : Addr} {cdv : Value} {A : Around} {outer : List Env} {s : Shared} {H : Hp} {E : XK} 
    (hr : Room 0 (A.deeper (envOfC "_law_cell_at" (defScope s__law_cell_at) s.heap.objs.size f cdv))) :
    PSs (cxOf (L2M.CX P w) P w K mg base N__law_cell_at "_law_cell_at" (defScope s__law_cell_at) f cdv A outer s H E) (defBody s__law_cell_at) (t__law_cell_at K (fun c d _ H2 => E c d H2)) := by
  have hu1 := hu_of hr
  have hu64 := hr.units
  have tk : L2M.Takes (cxOf (L2M.CX P w) P w K mg base N__law_cell_at "_law_cell_at" (defScope s__law_cell_at) f cdv A outer s H E) (fun c d _ H2 => E c d H2) := L2M.takes_of rfl rfl rfl rfl
  exact (pss_cons (ps_if (pt_cmpR op_ltU (pv 1) (pe_callB cr_lenK (by rfl) T.f_len bb_len (pa_cons (pv 0) pa_nil)) (nomark _)) (pss_one (ps_ret (pe_ix ix_seq (pv 0) (pv 1) (fun _ _ => rfl)))) pss_nil)
    (pss_one (ps_ret (pe_int))))
theorem fn__law_cell_at {P : Program} {w : World} {K : PySem.W.Frag} {mg : Str → Option Value} {base : Heap} (T : Tx K mg) {f : Addr} {fd : FuncData} (F : FunD K d__law_cell_at.name d__law_cell_at.qual d__law_cell_at.params d__law_cell_at.body d__law_cell_at.scope (d__law_cell_at.dvs K) (d__law_cell_at.kws K) f fd) :
    FnOk P w K mg base (L2M.CX P w) 1 f fd ["_law_script", "_law_k"] (sp__law_cell_at K) :=
  F.ok sc__law_cell_at (fun vs H Q E h => len__law_cell_at h) (fun cdv A outer s H vs Q E hr h => ⟨t__law_cell_at K (fun c d _ H2 => E c d H2), wk__law_cell_at T  hr, rd__law_cell_at  h⟩)
theorem ok__law_cell_at_2 {P : Program} {w : World} {K : PySem.W.Frag} {mg : Str → Option Value} {base : Heap} (T : Tx K mg) : L2M.DOk P w K mg base 1 (He.fAd K ("_law_cell_at", none)) ["_law_script", "_law_k"] [] (sp__law_cell_at K) := by
  obtain ⟨fd, F⟩ := T.d__law_cell_at
  exact ⟨fd, [], .nil, FunD.bindsN F fun _ _ _ _ _ _ us hl => match us, hl with | [_, _], _ => rfl, fn__law_cell_at T F, F.kp⟩
abbrev N__law_table : List Str := ["_law_script", "_law_first", "_law_found", "_law_k", "_law_number", "_law_more", "_law_size", "_law_length"]
theorem sc__law_table : FnScope N__law_table ["_law_script", "_law_first"] (defScope s__law_table) := ⟨rfl, rfl, rfl, by decide +kernel, rfl, by decide +kernel, by decide +kernel⟩
theorem wk__law_table {P : Program} {w : World} {K : PySem.W.Frag} {mg : Str → Option Value} {base : Heap} (T : Tx K mg) (O0 : L2M.DOk P w K mg base 1 (He.fAd K ("_law_mixed", none)) ["_law_cell", "_law_k"] [] (sp__law_mixed K)) (O1 : L2M.DOk P w K mg base 1 (He.fAd K ("_law_cell_at", none)) ["_law_script", "_law_k"] [] (sp__law_cell_at K)) {f : Addr} {cdv : Value} {A : Around} {outer : List Env} {s : Shared} {H : Hp} {E : XK} 
    (hr : Room 1 (A.deeper (envOfC "_law_table" (defScope s__law_table) s.heap.objs.size f cdv))) :
    PSs (cxOf (L2M.CX P w) P w K mg base N__law_table "_law_table" (defScope s__law_table) f cdv A outer s H E) (defBody s__law_table) (t__law_table K (fun c d _ H2 => E c d H2)) := by
  obtain ⟨fd0, ds0, v0, b0, G0, q0⟩ := O0
  obtain ⟨fd1, ds1, v1, b1, G1, q1⟩ := O1
  have hu1 := hu_of hr
  have hu64 := hr.units
  have tk : L2M.Takes (cxOf (L2M.CX P w) P w K mg base N__law_table "_law_table" (defScope s__law_table) f cdv A outer s H E) (fun c d _ H2 => E c d H2) := L2M.takes_of rfl rfl rfl rfl
  exact (pss_cons (ps_set (i := 2) sc__law_table.nd rfl (Or.inl rfl) (pe_lst pa_nil))
    (pss_cons (ps_set (i := 3) sc__law_table.nd rfl (Or.inl rfl) (pe_int))
    (pss_cons (ps_while (passes_of rfl) (pt_cmpR op_ltU (pe_callB cr_lenK (by rfl) T.f_len bb_len (pa_cons (pv 2) pa_nil)) (pe_int) (nomark _)) (pss_cons (ps_set (i := 4) sc__law_table.nd rfl (Or.inl rfl) (L2M.pe_clM G0 (hr.mono (by decide)) rfl T.g__law_mixed q0 b0 v0 tk (pa_cons (L2M.pe_clM G1 (hr.mono (by decide)) rfl T.g__law_cell_at q1 b1 v1 tk (pa_cons (pv 0) (pa_cons (pe_op op_addU (pv 1) (pe_op op_modU (pv 3) (pe_int))) pa_nil))) (pa_cons (pv 3) pa_nil))))
    (pss_cons (ps_set (i := 5) sc__law_table.nd rfl (Or.inl rfl) (pe_op op_divU (pv 4) (pe_int)))
    (pss_cons (ps_set (i := 6) sc__law_table.nd rfl (Or.inl rfl) (pe_ix ix_seq (pe_lst (pa_cons (pe_int) (pa_cons (pe_int) (pa_cons (pe_int) (pa_cons (pe_int) (pa_cons (pe_op op_addU (pe_int) (pe_op op_modU (pv 5) (pe_int))) (pa_cons (pe_op op_addU (pe_int) (pe_op op_modU (pv 5) (pe_int))) (pa_cons (pe_op op_addU (pe_int) (pe_op op_modU (pv 5) (pe_int))) (pa_cons (pe_op op_addU (pe_int) (pe_op op_modU (pv 5) (pe_int))) pa_nil))))))))) (pe_op op_modU (pv 4) (pe_int)) (fun _ _ => rfl)))
    (pss_cons (ps_set (i := 7) sc__law_table.nd rfl (Or.inl rfl) (pe_ix ix_seq (pe_lst (pa_cons (pe_int) (pa_cons (pe_op op_modU (pe_op op_divU (pv 4) (pe_int)) (pe_int)) (pa_cons (pe_op op_modU (pe_op op_divU (pv 4) (pe_int)) (pe_int)) (pa_cons (pe_int) pa_nil))))) (pe_op op_modU (pe_op op_divU (pv 4) (pe_int)) (pe_int)) (fun _ _ => rfl)))
    (pss_cons (ps_aug (i := 2) sc__law_table.nd rfl (Or.inl rfl) (pe_op op_mulU (pe_lst (pa_cons (pv 7) pa_nil)) (pv 6)) ip_addU)
    (pss_one (ps_aug (i := 3) sc__law_table.nd rfl (Or.inl rfl) (pe_int) ip_addU))))))))
    (pss_one (ps_ret (pe_slice sl_K (pv 2) po_none (po_some (pe_int))))))))
theorem fn__law_table {P : Program} {w : World} {K : PySem.W.Frag} {mg : Str → Option Value} {base : Heap} (T : Tx K mg) {f : Addr} {fd : FuncData} (F : FunD K d__law_table.name d__law_table.qual d__law_table.params d__law_table.body d__law_table.scope (d__law_table.dvs K) (d__law_table.kws K) f fd) :
    FnOk P w K mg base (L2M.CX P w) 2 f fd ["_law_script", "_law_first"] (sp__law_table K) :=
  F.ok sc__law_table (fun vs H Q E h => len__law_table h) (fun cdv A outer s H vs Q E hr h => ⟨t__law_table K (fun c d _ H2 => E c d H2), wk__law_table T (ok__law_mixed_2 T) (ok__law_cell_at_2 T) hr, rd__law_table  h⟩)
theorem ok__law_table_2 {P : Program} {w : World} {K : PySem.W.Frag} {mg : Str → Option Value} {base : Heap} (T : Tx K mg) : L2M.DOk P w K mg base 2 (He.fAd K ("_law_table", none)) ["_law_script", "_law_first"] [] (sp__law_table K) := by
  obtain ⟨fd, F⟩ := T.d__law_table
  exact ⟨fd, [], .nil, FunD.bindsN F fun _ _ _ _ _ _ us hl => match us, hl with | [_, _], _ => rfl, fn__law_table T F, F.kp⟩
abbrev N_BitRow___init__ : List Str := ["self"]
theorem sc_BitRow___init__ : FnScope N_BitRow___init__ ["self"] (defScope s_BitRow___init__) := ⟨rfl, rfl, rfl, by decide +kernel, rfl, by decide +kernel, by decide +kernel⟩
theorem wk_BitRow___init__ {P : Program} {w : World} {K : PySem.W.Frag} {mg : Str → Option Value} {base : Heap} (T : Tx K mg)  {f : Addr} {cdv : Value} {A : Around} {outer : List Env} {s : Shared} {H : Hp} {E : XK} 
    (hr : Room 0 (A.deeper (envOfC "BitRow.__init__" (defScope s_BitRow___init__) s.heap.objs.size f cdv))) :
    PSs (cxOf (L2M.CX P w) P w K mg base N_BitRow___init__ "BitRow.__init__" (defScope s_BitRow___init__) f cdv A outer s H E) (defBody s_BitRow___init__) (t_BitRow___init__ K (fun c d _ H2 => E c d H2)) := by
  have hu1 := hu_of hr
  have hu64 := hr.units
  have tk : L2M.Takes (cxOf (L2M.CX P w) P w K mg base N_BitRow___init__ "BitRow.__init__" (defScope s_BitRow___init__) f cdv A outer s H E) (fun c d _ H2 => E c d H2) := L2M.takes_of rfl rfl rfl rfl
  exact (pss_cons (ps_fld (pv 0) (pe_lst pa_nil) rfl)
    (pss_cons (ps_fld (pv 0) (pe_int) rfl)
    (pss_one (ps_fld (pv 0) (pe_int) rfl))))
theorem fn_BitRow___init__ {P : Program} {w : World} {K : PySem.W.Frag} {mg : Str → Option Value} {base : Heap} (T : Tx K mg) {f : Addr} {fd : FuncData} (F : FunD K d_BitRow___init__.name d_BitRow___init__.qual d_BitRow___init__.params d_BitRow___init__.body d_BitRow___init__.scope (d_BitRow___init__.dvs K) (d_BitRow___init__.kws K) f fd) :
    FnOk P w K mg base (L2M.CX P w) 1 f fd ["self"] (sp_BitRow___init__ K) :=
  F.ok sc_BitRow___init__ (fun vs H Q E h => len_BitRow___init__ h) (fun cdv A outer s H vs Q E hr h => ⟨t_BitRow___init__ K (fun c d _ H2 => E c d H2), wk_BitRow___init__ T  hr, rd_BitRow___init__ (of_KBitRow T) h⟩)
theorem ok_BitRow___init___1 {P : Program} {w : World} {K : PySem.W.Frag} {mg : Str → Option Value} {base : Heap} (T : Tx K mg) : L2M.DOk P w K mg base 1 (He.fAd K ("BitRow", some "__init__")) ["self"] [] (sp_BitRow___init__ K) := by
  obtain ⟨fd, F⟩ := T.d_BitRow___init__
  exact ⟨fd, [], .nil, FunD.bindsN F fun _ _ _ _ _ _ us hl => match us, hl with | [_], _ => rfl, fn_BitRow___init__ T F, F.kp⟩
abbrev N_is_number : List Str := ["thing"]
theorem sc_is_number : FnScope N_is_number ["thing"] (defScope s_is_number) := ⟨rfl, rfl, rfl, by decide +kernel, rfl, by decide +kernel, by decide +kernel⟩
theorem wk_is_number {P : Program} {w : World} {K : PySem.W.Frag} {mg : Str → Option Value} {base : Heap} (T : Tx K mg)  {f : Addr} {cdv : Value} {A : Around} {outer : List Env} {s : Shared} {H : Hp} {E : XK} 
    (hr : Room 0 (A.deeper (envOfC "is_number" (defScope s_is_number) s.heap.objs.size f cdv))) :
    PSs (cxOf (L2M.CX P w) P w K mg base N_is_number "is_number" (defScope s_is_number) f cdv A outer s H E) (defBody s_is_number) (t_is_number K (fun c d _ H2 => E c d H2)) := by
  have hu1 := hu_of hr
  have hu64 := hr.units
  have tk : L2M.Takes (cxOf (L2M.CX P w) P w K mg base N_is_number "is_number" (defScope s_is_number) f cdv A outer s H E) (fun c d _ H2 => E c d H2) := L2M.takes_of rfl rfl rfl rfl
  exact (pss_one (ps_ret ((pe_and (pe_callB call_isi (by rfl) T.f_isinstance bb_isinstance (pa_cons (pv 0) (pa_cons (pe_bty rfl T.f_int bt_int) pa_nil))) (pe_one (pe_not (pe_callB call_isi (by rfl) T.f_isinstance bb_isinstance (pa_cons (pv 0) (pa_cons (pe_bty rfl T.f_bool bt_bool) pa_nil)))))))))
theorem wkH_is_number {P : Program} {w : World} {K : PySem.W.Frag} {mg : Str → Option Value} {base : Heap} (T : Tx K mg)  {f : Addr} {cdv : Value} {A : Around} {outer : List Env} {s : Shared} {H : Hp} {E : XK} {q : Addr × Obj} {qs : List (Addr × Obj)} (hot : L2M.HotL A q qs)
    (hr : RoomH 0 (A.deeper (envOfC "is_number" (defScope s_is_number) s.heap.objs.size f cdv))) :
    PSs (L2M.cxS (L2M.CX P w) P w K mg base N_is_number "is_number" (defScope s_is_number) f cdv A outer s H E (q :: qs)) (defBody s_is_number) (t_is_number K WF) := by
  have hu64 : (A.deeper (envOfC "is_number" (defScope s_is_number) s.heap.objs.size f cdv)).units + 64 < cLine := by
    have z := hr.un
    omega
  exact (pss_one (ps_ret ((pe_and (pe_callB call_isi (by rfl) T.f_isinstance bb_isinstance (pa_cons (pv 0) (pa_cons (pe_bty rfl T.f_int bt_int) pa_nil))) (pe_one (pe_not (pe_callB call_isi (by rfl) T.f_isinstance bb_isinstance (pa_cons (pv 0) (pa_cons (pe_bty rfl T.f_bool bt_bool) pa_nil)))))))))
theorem okH_is_number {P : Program} {w : World} {K : PySem.W.Frag} {mg : Str → Option Value} {base : Heap} (T : Tx K mg) : ∃ fd, Binds K fd ["thing"] [] ∧ L2M.FnE P w K mg base (L2M.CX P w) 1 (He.fAd K ("is_number", none)) fd ["thing"] (fun _ _ _ => sp_is_number K) ∧ PySem.W.keepIn K (.ref (He.fAd K ("is_number", none))) = true := by
  obtain ⟨fd, F⟩ := T.d_is_number
  exact ⟨fd, FunD.bindsN F fun _ _ _ _ _ _ us hl => match us, hl with | [_], _ => rfl, L2M.okE F sc_is_number (fun _ _ _ vs H Q E h => len_is_number h) (fun cdv A outer s H vs Q E q qs _ _ hot _ hr h => ⟨t_is_number K WF, wkH_is_number T  hot hr, rd_is_number (E := fun _ _ _ => False)  h⟩), F.kp⟩
theorem fn_is_number {P : Program} {w : World} {K : PySem.W.Frag} {mg : Str → Option Value} {base : Heap} (T : Tx K mg) {f : Addr} {fd : FuncData} (F : FunD K d_is_number.name d_is_number.qual d_is_number.params d_is_number.body d_is_number.scope (d_is_number.dvs K) (d_is_number.kws K) f fd) :
    FnOk P w K mg base (L2M.CX P w) 1 f fd ["thing"] (sp_is_number K) :=
  F.ok sc_is_number (fun vs H Q E h => len_is_number h) (fun cdv A outer s H vs Q E hr h => ⟨t_is_number K (fun c d _ H2 => E c d H2), wk_is_number T  hr, rd_is_number  h⟩)
theorem ok_is_number_1 {P : Program} {w : World} {K : PySem.W.Frag} {mg : Str → Option Value} {base : Heap} (T : Tx K mg) : L2M.DOk P w K mg base 1 (He.fAd K ("is_number", none)) ["thing"] [] (sp_is_number K) := by
  obtain ⟨fd, F⟩ := T.d_is_number
  exact ⟨fd, [], .nil, FunD.bindsN F fun _ _ _ _ _ _ us hl => match us, hl with | [_], _ => rfl, fn_is_number T F, F.kp⟩
abbrev N_need_size : List Str := ["size"]
theorem sc_need_size : FnScope N_need_size ["size"] (defScope s_need_size) := ⟨rfl, rfl, rfl, by decide +kernel, rfl, by decide +kernel, by decide +kernel⟩
theorem wk_need_size {P : Program} {w : World} {K : PySem.W.Frag} {mg : Str → Option Value} {base : Heap} (T : Tx K mg) (O0 : L2M.DOk P w K mg base 1 (He.fAd K ("is_number", none)) ["thing"] [] (sp_is_number K)) {f : Addr} {cdv : Value} {A : Around} {outer : List Env} {s : Shared} {H : Hp} {E : XK} 
    (hr : Room 1 (A.deeper (envOfC "need_size" (defScope s_need_size) s.heap.objs.size f cdv))) :
    PSs (cxOf (L2M.CX P w) P w K mg base N_need_size "need_size" (defScope s_need_size) f cdv A outer s H E) (defBody s_need_size) (t_need_size K (fun c d _ H2 => E c d H2)) := by
  obtain ⟨fd0, ds0, v0, b0, G0, q0⟩ := O0
  have hu1 := hu_of hr
  have hu64 := hr.units
  have tk : L2M.Takes (cxOf (L2M.CX P w) P w K mg base N_need_size "need_size" (defScope s_need_size) f cdv A outer s H E) (fun c d _ H2 => E c d H2) := L2M.takes_of rfl rfl rfl rfl
  exact (pss_one (ps_if (PW.pt (pw_or (pt_not (pt_val (L2M.pe_clM G0 (hr.mono (by decide)) rfl T.g_is_number q0 b0 v0 tk (pa_cons (pv 0) pa_nil)))) (pw_or1 (pt_not (pt_chain op_leU op_leU (pe_int) (pv 0) (pe_gint rfl T.g_MOST_SIZE)))))) (pss_one (L2M.ps_rz rfl tk T.x_BadBits T.g_BadBits rfl)) pss_nil))
theorem fn_need_size {P : Program} {w : World} {K : PySem.W.Frag} {mg : Str → Option Value} {base : Heap} (T : Tx K mg) {f : Addr} {fd : FuncData} (F : FunD K d_need_size.name d_need_size.qual d_need_size.params d_need_size.body d_need_size.scope (d_need_size.dvs K) (d_need_size.kws K) f fd) :
    FnOk P w K mg base (L2M.CX P w) 2 f fd ["size"] (sp_need_size K) :=
  F.ok sc_need_size (fun vs H Q E h => len_need_size h) (fun cdv A outer s H vs Q E hr h => ⟨t_need_size K (fun c d _ H2 => E c d H2), wk_need_size T (ok_is_number_1 T) hr, rd_need_size  h⟩)
theorem ok_need_size_1 {P : Program} {w : World} {K : PySem.W.Frag} {mg : Str → Option Value} {base : Heap} (T : Tx K mg) : L2M.DOk P w K mg base 2 (He.fAd K ("need_size", none)) ["size"] [] (sp_need_size K) := by
  obtain ⟨fd, F⟩ := T.d_need_size
  exact ⟨fd, [], .nil, FunD.bindsN F fun _ _ _ _ _ _ us hl => match us, hl with | [_], _ => rfl, fn_need_size T F, F.kp⟩
abbrev N_BitRow_put : List Str := ["self", "number", "size"]
theorem sc_BitRow_put : FnScope N_BitRow_put ["self", "number", "size"] (defScope s_BitRow_put) := ⟨rfl, rfl, rfl, by decide +kernel, rfl, by decide +kernel, by decide +kernel⟩
theorem wk_BitRow_put {P : Program} {w : World} {K : PySem.W.Frag} {mg : Str → Option Value} {base : Heap} (T : Tx K mg) (O0 : L2M.DOk P w K mg base 2 (He.fAd K ("need_size", none)) ["size"] [] (sp_need_size K)) (O1 : L2M.DOk P w K mg base 1 (He.fAd K ("is_number", none)) ["thing"] [] (sp_is_number K)) {f : Addr} {cdv : Value} {A : Around} {outer : List Env} {s : Shared} {H : Hp} {E : XK} 
    (hr : Room 2 (A.deeper (envOfC "BitRow.put" (defScope s_BitRow_put) s.heap.objs.size f cdv))) :
    PSs (cxOf (L2M.CX P w) P w K mg base N_BitRow_put "BitRow.put" (defScope s_BitRow_put) f cdv A outer s H E) (defBody s_BitRow_put) (t_BitRow_put K (fun c d _ H2 => E c d H2)) := by
  obtain ⟨fd0, ds0, v0, b0, G0, q0⟩ := O0
  obtain ⟨fd1, ds1, v1, b1, G1, q1⟩ := O1
  have hu1 := hu_of hr
  have hu64 := hr.units
  have tk : L2M.Takes (cxOf (L2M.CX P w) P w K mg base N_BitRow_put "BitRow.put" (defScope s_BitRow_put) f cdv A outer s H E) (fun c d _ H2 => E c d H2) := L2M.takes_of rfl rfl rfl rfl
  exact (pss_cons (ps_expr (L2M.pe_clM G0 (hr.mono (by decide)) rfl T.g_need_size q0 b0 v0 tk (pa_cons (pv 2) pa_nil)))
    (pss_cons (ps_if (PW.pt (pw_or (pt_not (pt_val (L2M.pe_clM G1 (hr.mono (by decide)) rfl T.g_is_number q1 b1 v1 tk (pa_cons (pv 1) pa_nil)))) (pw_or (pt_cmpR op_ltU (pv 1) (pe_int) (nomark _)) (pw_or1 (pt_cmpR op_gtU (pe_op op_shrU (pv 1) (pv 2)) (pe_int) (nomark _)))))) (pss_one (L2M.ps_rz rfl tk T.x_BadBits T.g_BadBits rfl)) pss_nil)
    (pss_cons (ps_fld (pv 0) (pe_op op_orU (pe_op op_shlU (pe_fld (pv 0) rfl) (pv 2)) (pv 1)) rfl)
    (pss_cons (ps_fldaug (pv 0) (pv 2) in_add)
    (pss_one (ps_while (passes_of rfl) (pt_cmpR op_geU (pe_fld (pv 0) rfl) (pe_gint rfl T.g_BYTE) (nomark _)) (pss_cons (ps_fldaug (pv 0) (pe_gint rfl T.g_BYTE) in_sub)
    (pss_cons (ps_expr (pe_bm PySem.F.plainAttrs_list PySem.F.slot_list_append PySem.F.type_list_append mt_append (pe_fld (pv 0) rfl) (pa_cons (pe_op op_shrU (pe_fld (pv 0) rfl) (pe_fld (pv 0) rfl)) pa_nil)))
    (pss_one (ps_fld (pv 0) (pe_op op_andU (pe_fld (pv 0) rfl) (pe_op op_subU (pe_op op_shlU (pe_int) (pe_fld (pv 0) rfl)) (pe_int))) rfl))))))))))
theorem fn_BitRow_put {P : Program} {w : World} {K : PySem.W.Frag} {mg : Str → Option Value} {base : Heap} (T : Tx K mg) {f : Addr} {fd : FuncData} (F : FunD K d_BitRow_put.name d_BitRow_put.qual d_BitRow_put.params d_BitRow_put.body d_BitRow_put.scope (d_BitRow_put.dvs K) (d_BitRow_put.kws K) f fd) :
    FnOk P w K mg base (L2M.CX P w) 3 f fd ["self", "number", "size"] (sp_BitRow_put K) :=
  F.ok sc_BitRow_put (fun vs H Q E h => len_BitRow_put h) (fun cdv A outer s H vs Q E hr h => ⟨t_BitRow_put K (fun c d _ H2 => E c d H2), wk_BitRow_put T (ok_need_size_1 T) (ok_is_number_1 T) hr, rd_BitRow_put (of_KBitRow T) h⟩)
theorem ok_BitRow_put_3 {P : Program} {w : World} {K : PySem.W.Frag} {mg : Str → Option Value} {base : Heap} (T : Tx K mg) : L2M.DOk P w K mg base 3 (He.fAd K ("BitRow", some "put")) ["self", "number", "size"] [] (sp_BitRow_put K) := by
  obtain ⟨fd, F⟩ := T.d_BitRow_put
  exact ⟨fd, [], .nil, FunD.bindsN F fun _ _ _ _ _ _ us hl => match us, hl with | [_, _, _], _ => rfl, fn_BitRow_put T F, F.kp⟩
abbrev N__law_odd : List Str := ["_law_table_here", "_law_number", "_law_at", "_law_wrong", "_law_some"]
theorem sc__law_odd : FnScope N__law_odd ["_law_table_here", "_law_number"] (defScope s__law_odd) := ⟨rfl, rfl, rfl, by decide +kernel, rfl, by decide +kernel, by decide +kernel⟩
theorem wk__law_odd {P : Program} {w : World} {K : PySem.W.Frag} {mg : Str → Option Value} {base : Heap} (T : Tx K mg)  {f : Addr} {cdv : Value} {A : Around} {outer : List Env} {s : Shared} {H : Hp} {E : XK} 
    (hr : Room 0 (A.deeper (envOfC "_law_odd" (defScope s__law_odd) s.heap.objs.size f cdv))) :
    PSs (cxOf (L2M.CX P w) P w K mg base N__law_odd "_law_odd" (defScope s__law_odd) f cdv A outer s H E) (defBody s__law_odd) (t__law_odd K (fun c d _ H2 => E c d H2)) := by
  have hu1 := hu_of hr
  have hu64 := hr.units
  have tk : L2M.Takes (cxOf (L2M.CX P w) P w K mg base N__law_odd "_law_odd" (defScope s__law_odd) f cdv A outer s H E) (fun c d _ H2 => E c d H2) := L2M.takes_of rfl rfl rfl rfl
  exact (pss_cons (ps_set (i := 2) sc__law_odd.nd rfl (Or.inl rfl) (pe_op op_modU (pe_op op_divU (pv 1) (pe_int)) (pe_int)))
    (pss_cons (ps_set (i := 3) sc__law_odd.nd rfl (Or.inl rfl) (pe_ix ix_seq (pe_lst (pa_cons (pe_int) (pa_cons (pe_un un_negU (pe_int)) (pa_cons (pe_bl) (pa_cons (pe_bl) (pa_cons (pe_non) (pa_cons (pe_str) (pa_cons (pe_lst (pa_cons (pe_int) pa_nil)) (pa_cons (pe_tup (pa_cons (pe_int) pa_nil)) (pa_cons (pe_op op_powU (pe_int) (pe_int)) (pa_cons (pe_un un_negU (pe_op op_powU (pe_int) (pe_int))) pa_nil))))))))))) (pe_op op_modU (pe_op op_divU (pv 1) (pe_int)) (pe_int)) (fun _ _ => rfl)))
    (pss_cons (ps_set (i := 4) sc__law_odd.nd rfl (Or.inl rfl) (pe_lst (pa_cons (pe_non) (pa_cons (pe_lst pa_nil) (pa_cons (pe_callTy cr_tupleK (by rfl) T.f_tuple bt_tuple (pa_cons (pv 0) pa_nil)) (pa_cons (pe_slice sl_K (pv 0) po_none (po_some (pe_int))) (pa_cons (pe_op op_addU (pv 0) (pe_lst (pa_cons (pe_int) pa_nil))) (pa_cons (pe_dnewK) (pa_cons (pe_str) (pa_cons (pe_int) (pa_cons (pe_bl) pa_nil)))))))))))
    (pss_cons (ps_if (pt_cmpR (op_eqU hu64) (pe_op op_modU (pv 1) (pe_int)) (pe_int) (nomark _)) (pss_one (ps_ret (pe_ix ix_seq (pv 4) (pe_op op_modU (pe_op op_divU (pv 1) (pe_int)) (pe_int)) (fun _ _ => rfl)))) pss_nil)
    (pss_one (ps_ret (pe_op op_addU (pe_op op_addU (pe_slice sl_K (pv 0) po_none (po_some (pv 2))) (pe_lst (pa_cons (pv 3) pa_nil))) (pe_slice sl_K (pv 0) (po_some (pe_op op_addU (pv 2) (pe_int))) po_none))))))))
theorem fn__law_odd {P : Program} {w : World} {K : PySem.W.Frag} {mg : Str → Option Value} {base : Heap} (T : Tx K mg) {f : Addr} {fd : FuncData} (F : FunD K d__law_odd.name d__law_odd.qual d__law_odd.params d__law_odd.body d__law_odd.scope (d__law_odd.dvs K) (d__law_odd.kws K) f fd) :
    FnOk P w K mg base (L2M.CX P w) 1 f fd ["_law_table_here", "_law_number"] (sp__law_odd K) :=
  F.ok sc__law_odd (fun vs H Q E h => len__law_odd h) (fun cdv A outer s H vs Q E hr h => ⟨t__law_odd K (fun c d _ H2 => E c d H2), wk__law_odd T  hr, rd__law_odd  h⟩)
theorem ok__law_odd_2 {P : Program} {w : World} {K : PySem.W.Frag} {mg : Str → Option Value} {base : Heap} (T : Tx K mg) : L2M.DOk P w K mg base 1 (He.fAd K ("_law_odd", none)) ["_law_table_here", "_law_number"] [] (sp__law_odd K) := by
  obtain ⟨fd, F⟩ := T.d__law_odd
  exact ⟨fd, [], .nil, FunD.bindsN F fun _ _ _ _ _ _ us hl => match us, hl with | [_, _], _ => rfl, fn__law_odd T F, F.kp⟩
abbrev N_BitRow_row : List Str := ["self"]
theorem sc_BitRow_row : FnScope N_BitRow_row ["self"] (defScope s_BitRow_row) := ⟨rfl, rfl, rfl, by decide +kernel, rfl, by decide +kernel, by decide +kernel⟩
theorem wk_BitRow_row {P : Program} {w : World} {K : PySem.W.Frag} {mg : Str → Option Value} {base : Heap} (T : Tx K mg)  {f : Addr} {cdv : Value} {A : Around} {outer : List Env} {s : Shared} {H : Hp} {E : XK} 
    (hr : Room 0 (A.deeper (envOfC "BitRow.row" (defScope s_BitRow_row) s.heap.objs.size f cdv))) :
    PSs (cxOf (L2M.CX P w) P w K mg base N_BitRow_row "BitRow.row" (defScope s_BitRow_row) f cdv A outer s H E) (defBody s_BitRow_row) (t_BitRow_row K (fun c d _ H2 => E c d H2)) := by
  have hu1 := hu_of hr
  have hu64 := hr.units
  have tk : L2M.Takes (cxOf (L2M.CX P w) P w K mg base N_BitRow_row "BitRow.row" (defScope s_BitRow_row) f cdv A outer s H E) (fun c d _ H2 => E c d H2) := L2M.takes_of rfl rfl rfl rfl
  exact (pss_cons (ps_if (pt_cmpR (op_eqU hu64) (pe_fld (pv 0) rfl) (pe_int) (nomark _)) (pss_one (ps_ret (pe_callTy cr_listK (by rfl) T.f_list bt_list (pa_cons (pe_fld (pv 0) rfl) pa_nil)))) pss_nil)
    (pss_one (ps_ret (pe_op op_addU (pe_fld (pv 0) rfl) (pe_lst (pa_cons (pe_op op_shlU (pe_fld (pv 0) rfl) (pe_op op_subU (pe_gint rfl T.g_BYTE) (pe_fld (pv 0) rfl))) pa_nil))))))
theorem fn_BitRow_row {P : Program} {w : World} {K : PySem.W.Frag} {mg : Str → Option Value} {base : Heap} (T : Tx K mg) {f : Addr} {fd : FuncData} (F : FunD K d_BitRow_row.name d_BitRow_row.qual d_BitRow_row.params d_BitRow_row.body d_BitRow_row.scope (d_BitRow_row.dvs K) (d_BitRow_row.kws K) f fd) :
    FnOk P w K mg base (L2M.CX P w) 1 f fd ["self"] (sp_BitRow_row K) :=
  F.ok sc_BitRow_row (fun vs H Q E h => len_BitRow_row h) (fun cdv A outer s H vs Q E hr h => ⟨t_BitRow_row K (fun c d _ H2 => E c d H2), wk_BitRow_row T  hr, rd_BitRow_row (of_KBitRow T) h⟩)
theorem ok_BitRow_row_1 {P : Program} {w : World} {K : PySem.W.Frag} {mg : Str → Option Value} {base : Heap} (T : Tx K mg) : L2M.DOk P w K mg base 1 (He.fAd K ("BitRow", some "row")) ["self"] [] (sp_BitRow_row K) := by
  obtain ⟨fd, F⟩ := T.d_BitRow_row
  exact ⟨fd, [], .nil, FunD.bindsN F fun _ _ _ _ _ _ us hl => match us, hl with | [_], _ => rfl, fn_BitRow_row T F, F.kp⟩
abbrev N_BitRow_many : List Str := ["self"]
theorem sc_BitRow_many : FnScope N_BitRow_many ["self"] (defScope s_BitRow_many) := ⟨rfl, rfl, rfl, by decide +kernel, rfl, by decide +kernel, by decide +kernel⟩
theorem wk_BitRow_many {P : Program} {w : World} {K : PySem.W.Frag} {mg : Str → Option Value} {base : Heap} (T : Tx K mg)  {f : Addr} {cdv : Value} {A : Around} {outer : List Env} {s : Shared} {H : Hp} {E : XK} 
    (hr : Room 0 (A.deeper (envOfC "BitRow.many" (defScope s_BitRow_many) s.heap.objs.size f cdv))) :
    PSs (cxOf (L2M.CX P w) P w K mg base N_BitRow_many "BitRow.many" (defScope s_BitRow_many) f cdv A outer s H E) (defBody s_BitRow_many) (t_BitRow_many K (fun c d _ H2 => E c d H2)) := by
  have hu1 := hu_of hr
  have hu64 := hr.units
  have tk : L2M.Takes (cxOf (L2M.CX P w) P w K mg base N_BitRow_many "BitRow.many" (defScope s_BitRow_many) f cdv A outer s H E) (fun c d _ H2 => E c d H2) := L2M.takes_of rfl rfl rfl rfl
  exact (pss_one (ps_ret (pe_op op_addU (pe_op op_mulU (pe_gint rfl T.g_BYTE) (pe_callB cr_lenK (by rfl) T.f_len bb_len (pa_cons (pe_fld (pv 0) rfl) pa_nil))) (pe_fld (pv 0) rfl))))
theorem fn_BitRow_many {P : Program} {w : World} {K : PySem.W.Frag} {mg : Str → Option Value} {base : Heap} (T : Tx K mg) {f : Addr} {fd : FuncData} (F : FunD K d_BitRow_many.name d_BitRow_many.qual d_BitRow_many.params d_BitRow_many.body d_BitRow_many.scope (d_BitRow_many.dvs K) (d_BitRow_many.kws K) f fd) :
    FnOk P w K mg base (L2M.CX P w) 1 f fd ["self"] (sp_BitRow_many K) :=
  F.ok sc_BitRow_many (fun vs H Q E h => len_BitRow_many h) (fun cdv A outer s H vs Q E hr h => ⟨t_BitRow_many K (fun c d _ H2 => E c d H2), wk_BitRow_many T  hr, rd_BitRow_many (of_KBitRow T) h⟩)
theorem ok_BitRow_many_1 {P : Program} {w : World} {K : PySem.W.Frag} {mg : Str → Option Value} {base : Heap} (T : Tx K mg) : L2M.DOk P w K mg base 1 (He.fAd K ("BitRow", some "many")) ["self"] [] (sp_BitRow_many K) := by
  obtain ⟨fd, F⟩ := T.d_BitRow_many
  exact ⟨fd, [], .nil, FunD.bindsN F fun _ _ _ _ _ _ us hl => match us, hl with | [_], _ => rfl, fn_BitRow_many T F, F.kp⟩
abbrev N_is_table : List Str := ["thing", "one"]
theorem sc_is_table : FnScope N_is_table ["thing"] (defScope s_is_table) := ⟨rfl, rfl, rfl, by decide +kernel, rfl, by decide +kernel, by decide +kernel⟩
theorem wk_is_table {P : Program} {w : World} {K : PySem.W.Frag} {mg : Str → Option Value} {base : Heap} (T : Tx K mg)  {f : Addr} {cdv : Value} {A : Around} {outer : List Env} {s : Shared} {H : Hp} {E : XK} 
    (hr : Room 0 (A.deeper (envOfC "is_table" (defScope s_is_table) s.heap.objs.size f cdv))) :
    PSs (cxOf (L2M.CX P w) P w K mg base N_is_table "is_table" (defScope s_is_table) f cdv A outer s H E) (defBody s_is_table) (t_is_table K (fun c d _ H2 => E c d H2)) := by
  have hu1 := hu_of hr
  have hu64 := hr.units
  have tk : L2M.Takes (cxOf (L2M.CX P w) P w K mg base N_is_table "is_table" (defScope s_is_table) f cdv A outer s H E) (fun c d _ H2 => E c d H2) := L2M.takes_of rfl rfl rfl rfl
  exact (pss_cons (ps_if (PW.pt (pw_or (pt_not (pt_val (pe_callB call_isi (by rfl) T.f_isinstance bb_isinstance (pa_cons (pv 0) (pa_cons (pe_bty rfl T.f_list bt_list) pa_nil))))) (pw_or1 (pt_cmpR (op_neU hu64) (pe_callB cr_lenK (by rfl) T.f_len bb_len (pa_cons (pv 0) pa_nil)) (pe_gint rfl T.g_MANY) (nomark _))))) (pss_one (ps_ret (pe_bl))) pss_nil)
    (pss_one (ps_ret (pe_callB (cr_all rfl) (by rfl) T.f_all bb_all (pa_cons (pe_lc (own := [("one", 1)]) rfl sc_is_table.nd (pi_list (pv 0)) (blkOk_by (own := [("one", 1)]) (N := N_is_table) (sc := defScope s_is_table) (by decide +kernel)) (fun _ _ _ _ _ => (pg_name (i := 1) sc_is_table.nd rfl (Or.inl rfl))) (fun _ _ _ _ _ => pts_nil) (fun _ _ _ _ _ => ((pe_and (pe_callB call_isi (by rfl) T.f_isinstance bb_isinstance (pa_cons (pv 1) (pa_cons (pe_bty rfl T.f_int bt_int) pa_nil))) (pe_and (pe_not (pe_callB call_isi (by rfl) T.f_isinstance bb_isinstance (pa_cons (pv 1) (pa_cons (pe_bty rfl T.f_bool bt_bool) pa_nil)))) (pe_one (pe_chain op_leU op_leU (pe_int) (pv 1) (pe_gint rfl T.g_MOST_LENGTH)))))))) pa_nil)))))
theorem fn_is_table {P : Program} {w : World} {K : PySem.W.Frag} {mg : Str → Option Value} {base : Heap} (T : Tx K mg) {f : Addr} {fd : FuncData} (F : FunD K d_is_table.name d_is_table.qual d_is_table.params d_is_table.body d_is_table.scope (d_is_table.dvs K) (d_is_table.kws K) f fd) :
    FnOk P w K mg base (L2M.CX P w) 1 f fd ["thing"] (sp_is_table K) :=
  F.ok sc_is_table (fun vs H Q E h => len_is_table h) (fun cdv A outer s H vs Q E hr h => ⟨t_is_table K (fun c d _ H2 => E c d H2), wk_is_table T  hr, rd_is_table  h⟩)
theorem ok_is_table_1 {P : Program} {w : World} {K : PySem.W.Frag} {mg : Str → Option Value} {base : Heap} (T : Tx K mg) : L2M.DOk P w K mg base 1 (He.fAd K ("is_table", none)) ["thing"] [] (sp_is_table K) := by
  obtain ⟨fd, F⟩ := T.d_is_table
  exact ⟨fd, [], .nil, FunD.bindsN F fun _ _ _ _ _ _ us hl => match us, hl with | [_], _ => rfl, fn_is_table T F, F.kp⟩
abbrev N_alike_from : List Str := ["lengths", "place", "length", "found"]
theorem sc_alike_from : FnScope N_alike_from ["lengths", "place", "length"] (defScope s_alike_from) := ⟨rfl, rfl, rfl, by decide +kernel, rfl, by decide +kernel, by decide +kernel⟩
theorem wk_alike_from {P : Program} {w : World} {K : PySem.W.Frag} {mg : Str → Option Value} {base : Heap} (T : Tx K mg)  {f : Addr} {cdv : Value} {A : Around} {outer : List Env} {s : Shared} {H : Hp} {E : XK} 
    (hr : Room 0 (A.deeper (envOfC "alike_from" (defScope s_alike_from) s.heap.objs.size f cdv))) :
    PSs (cxOf (L2M.CX P w) P w K mg base N_alike_from "alike_from" (defScope s_alike_from) f cdv A outer s H E) (defBody s_alike_from) (t_alike_from K (fun c d _ H2 => E c d H2)) := by
  have hu1 := hu_of hr
  have hu64 := hr.units
  have tk : L2M.Takes (cxOf (L2M.CX P w) P w K mg base N_alike_from "alike_from" (defScope s_alike_from) f cdv A outer s H E) (fun c d _ H2 => E c d H2) := L2M.takes_of rfl rfl rfl rfl
  exact (pss_cons (ps_set (i := 3) sc_alike_from.nd rfl (Or.inl rfl) (pe_int))
    (pss_cons (ps_while (passes_of rfl) (PW.pt (pw_and (pt_cmpR op_ltU (pv 3) (pe_gint rfl T.g_MOST_MORE) (nomark _)) (pw_and (pt_cmpR op_ltU (pe_op op_addU (pv 1) (pv 3)) (pe_gint rfl T.g_MANY) (nomark _)) (pw_and1 (pt_cmpR (op_eqU hu64) (pe_ix ix_seq (pv 0) (pe_op op_addU (pv 1) (pv 3)) (fun _ _ => rfl)) (pv 2) (nomark _)))))) (pss_one (ps_aug (i := 3) sc_alike_from.nd rfl (Or.inl rfl) (pe_int) ip_addU)))
    (pss_one (ps_ret (pv 3)))))
theorem fn_alike_from {P : Program} {w : World} {K : PySem.W.Frag} {mg : Str → Option Value} {base : Heap} (T : Tx K mg) {f : Addr} {fd : FuncData} (F : FunD K d_alike_from.name d_alike_from.qual d_alike_from.params d_alike_from.body d_alike_from.scope (d_alike_from.dvs K) (d_alike_from.kws K) f fd) :
    FnOk P w K mg base (L2M.CX P w) 1 f fd ["lengths", "place", "length"] (sp_alike_from K) :=
  F.ok sc_alike_from (fun vs H Q E h => len_alike_from h) (fun cdv A outer s H vs Q E hr h => ⟨t_alike_from K (fun c d _ H2 => E c d H2), wk_alike_from T  hr, rd_alike_from  h⟩)
theorem ok_alike_from_3 {P : Program} {w : World} {K : PySem.W.Frag} {mg : Str → Option Value} {base : Heap} (T : Tx K mg) : L2M.DOk P w K mg base 1 (He.fAd K ("alike_from", none)) ["lengths", "place", "length"] [] (sp_alike_from K) := by
  obtain ⟨fd, F⟩ := T.d_alike_from
  exact ⟨fd, [], .nil, FunD.bindsN F fun _ _ _ _ _ _ us hl => match us, hl with | [_, _, _], _ => rfl, fn_alike_from T F, F.kp⟩
abbrev N_put_table : List Str := ["bits", "lengths", "last", "place", "more"]
theorem sc_put_table : FnScope N_put_table ["bits", "lengths"] (defScope s_put_table) := ⟨rfl, rfl, rfl, by decide +kernel, rfl, by decide +kernel, by decide +kernel⟩
theorem wk_put_table {P : Program} {w : World} {K : PySem.W.Frag} {mg : Str → Option Value} {base : Heap} (T : Tx K mg) (O0 : L2M.DOk P w K mg base 1 (He.fAd K ("is_table", none)) ["thing"] [] (sp_is_table K)) (O1 : L2M.DOk P w K mg base 1 (He.fAd K ("alike_from", none)) ["lengths", "place", "length"] [] (sp_alike_from K)) (O2 : L2M.DOk P w K mg base 3 (He.fAd K ("BitRow", some "put")) ["self", "number", "size"] [] (sp_BitRow_put K)) {f : Addr} {cdv : Value} {A : Around} {outer : List Env} {s : Shared} {H : Hp} {E : XK} 
    (hr : Room 3 (A.deeper (envOfC "put_table" (defScope s_put_table) s.heap.objs.size f cdv))) :
    PSs (cxOf (L2M.CX P w) P w K mg base N_put_table "put_table" (defScope s_put_table) f cdv A outer s H E) (defBody s_put_table) (t_put_table K (fun c d _ H2 => E c d H2)) := by
  obtain ⟨fd0, ds0, v0, b0, G0, q0⟩ := O0
  obtain ⟨fd1, ds1, v1, b1, G1, q1⟩ := O1
  obtain ⟨fd2, ds2, v2, b2, G2, q2⟩ := O2
  have hu1 := hu_of hr
  have hu64 := hr.units
  have tk : L2M.Takes (cxOf (L2M.CX P w) P w K mg base N_put_table "put_table" (defScope s_put_table) f cdv A outer s H E) (fun c d _ H2 => E c d H2) := L2M.takes_of rfl rfl rfl rfl
  exact (pss_cons (ps_if (pt_not (pt_val (L2M.pe_clM G0 (hr.mono (by decide)) rfl T.g_is_table q0 b0 v0 tk (pa_cons (pv 1) pa_nil)))) (pss_one (L2M.ps_rz rfl tk T.x_BadTable T.g_BadTable rfl)) pss_nil)
    (pss_cons (ps_set (i := 2) sc_put_table.nd rfl (Or.inl rfl) (pe_int))
    (pss_cons (ps_set (i := 3) sc_put_table.nd rfl (Or.inl rfl) (pe_int))
    (pss_one (ps_while (passes_of rfl) (pt_cmpR op_ltU (pv 3) (pe_gint rfl T.g_MANY) (nomark _)) (pss_cons (ps_set (i := 4) sc_put_table.nd rfl (Or.inl rfl) (L2M.pe_clM G1 (hr.mono (by decide)) rfl T.g_alike_from q1 b1 v1 tk (pa_cons (pv 1) (pa_cons (pv 3) (pa_cons (pv 2) pa_nil)))))
    (pss_cons (ps_if (pt_cmpR op_geU (pv 4) (pe_gint rfl T.g_LEAST_MORE) (nomark _)) (pss_cons (ps_expr (L2M.pe_mtM (pv 0) T.c_BitRow T.m_BitRow_put G2 (hr.mono (by decide)) b2 v2 tk (pa_cons (pe_gint rfl T.g_MORE_MARK) (pa_cons (pe_gint rfl T.g_LENGTH_BITS) pa_nil))))
    (pss_cons (ps_expr (L2M.pe_mtM (pv 0) T.c_BitRow T.m_BitRow_put G2 (hr.mono (by decide)) b2 v2 tk (pa_cons (pe_op op_subU (pv 4) (pe_gint rfl T.g_LEAST_MORE)) (pa_cons (pe_gint rfl T.g_MORE_BITS) pa_nil))))
    (pss_cons (ps_aug (i := 3) sc_put_table.nd rfl (Or.inl rfl) (pv 4) ip_addU)
    (pss_one (ps_continue))))) pss_nil)
    (pss_cons (ps_set (i := 2) sc_put_table.nd rfl (Or.inl rfl) (pe_ix ix_seq (pv 1) (pv 3) (fun _ _ => rfl)))
    (pss_cons (ps_expr (L2M.pe_mtM (pv 0) T.c_BitRow T.m_BitRow_put G2 (hr.mono (by decide)) b2 v2 tk (pa_cons (pv 2) (pa_cons (pe_gint rfl T.g_LENGTH_BITS) pa_nil))))
    (pss_one (ps_aug (i := 3) sc_put_table.nd rfl (Or.inl rfl) (pe_int) ip_addU)))))))))))
theorem fn_put_table {P : Program} {w : World} {K : PySem.W.Frag} {mg : Str → Option Value} {base : Heap} (T : Tx K mg) {f : Addr} {fd : FuncData} (F : FunD K d_put_table.name d_put_table.qual d_put_table.params d_put_table.body d_put_table.scope (d_put_table.dvs K) (d_put_table.kws K) f fd) :
    FnOk P w K mg base (L2M.CX P w) 4 f fd ["bits", "lengths"] (sp_put_table K) :=
  F.ok sc_put_table (fun vs H Q E h => len_put_table h) (fun cdv A outer s H vs Q E hr h => ⟨t_put_table K (fun c d _ H2 => E c d H2), wk_put_table T (ok_is_table_1 T) (ok_alike_from_3 T) (ok_BitRow_put_3 T) hr, rd_put_table  h⟩)
theorem ok_put_table_2 {P : Program} {w : World} {K : PySem.W.Frag} {mg : Str → Option Value} {base : Heap} (T : Tx K mg) : L2M.DOk P w K mg base 4 (He.fAd K ("put_table", none)) ["bits", "lengths"] [] (sp_put_table K) := by
  obtain ⟨fd, F⟩ := T.d_put_table
  exact ⟨fd, [], .nil, FunD.bindsN F fun _ _ _ _ _ _ us hl => match us, hl with | [_, _], _ => rfl, fn_put_table T F, F.kp⟩
abbrev N__law_word : List Str := ["_law_e", "_law_found"]
theorem sc__law_word : FnScope N__law_word ["_law_e"] (defScope s__law_word) := ⟨rfl, rfl, rfl, by decide +kernel, rfl, by decide +kernel, by decide +kernel⟩
theorem wk__law_word {P : Program} {w : World} {K : PySem.W.Frag} {mg : Str → Option Value} {base : Heap} (T : Tx K mg) {f : Addr} {cdv : Value} {A : Around} {outer : List Env} {s : Shared} {H : Hp} {E : XK} {q : Addr × Obj} {qs : List (Addr × Obj)} {cls : Value} {d : Option Addr} (hot : L2M.HotL A q qs) (hz : Zc cls d q.2)
    (hr : RoomH 0 (A.deeper (envOfC "_law_word" (defScope s__law_word) s.heap.objs.size f cdv))) :
    PSs (L2M.cxS (L2M.CX P w) P w K mg base N__law_word "_law_word" (defScope s__law_word) f cdv A outer s H E (q :: qs)) (defBody s__law_word) (t__law_word K q.1 cls d) := by
  have hu64 : (A.deeper (envOfC "_law_word" (defScope s__law_word) s.heap.objs.size f cdv)).units + 64 < cLine := by
    have z := hr.un
    omega
  exact (pss_cons (ps_if (pt_val (pe_callB (call_isPT (.head _) hz (L2M.fields_of hot)) (by rfl) T.f_isinstance bb_isinstance (pa_cons (pv 0) (pa_cons (pe_tup (pa_cons (pe_gref rfl T.g_BadBits) (pa_cons (pe_gref rfl T.g_BadBody) (pa_cons (pe_gref rfl T.g_BadCheck) (pa_cons (pe_gref rfl T.g_BadCode) (pa_cons (pe_gref rfl T.g_BadHead) (pa_cons (pe_gref rfl T.g_BadLengths) (pa_cons (pe_gref rfl T.g_BadLetters) (pa_cons (pe_gref rfl T.g_BadMark) (pa_cons (pe_gref rfl T.g_BadPieces) pa_nil)))))))))) pa_nil)))) (pss_one (ps_ret (pe_lst (pa_cons (pe_str) pa_nil)))) pss_nil)
    (pss_cons (ps_if (pt_val (pe_callB (call_isPT (.head _) hz (L2M.fields_of hot)) (by rfl) T.f_isinstance bb_isinstance (pa_cons (pv 0) (pa_cons (pe_tup (pa_cons (pe_gref rfl T.g_BadRow) (pa_cons (pe_gref rfl T.g_BadShares) (pa_cons (pe_gref rfl T.g_BadTail) (pa_cons (pe_gref rfl T.g_Behind) (pa_cons (pe_gref rfl T.g_Cut) (pa_cons (pe_gref rfl T.g_NoRange) (pa_cons (pe_gref rfl T.g_Over) pa_nil)))))))) pa_nil)))) (pss_one (ps_ret (pe_lst (pa_cons (pe_str) pa_nil)))) pss_nil)
    (pss_cons (ps_set (i := 1) sc__law_word.nd rfl (Or.inl rfl) (pe_op op_addU (pe_op op_mulU (pe_lst (pa_cons (pe_str) pa_nil)) (pe_callTy cr_intK (by rfl) T.f_int bt_int (pa_cons (pe_callB (call_isP (.head _) hz (L2M.fields_of hot)) (by rfl) T.f_isinstance bb_isinstance (pa_cons (pv 0) (pa_cons (pe_gref rfl T.g_BadTable) pa_nil))) pa_nil))) (pe_op op_mulU (pe_lst (pa_cons (pe_str) pa_nil)) (pe_callTy cr_intK (by rfl) T.f_int bt_int (pa_cons (pe_callB (call_isP (.head _) hz (L2M.fields_of hot)) (by rfl) T.f_isinstance bb_isinstance (pa_cons (pv 0) (pa_cons (pe_gref rfl T.g_NoBits) pa_nil))) pa_nil)))))
    (pss_one (ps_ret (pe_op op_addU (pv 1) (pe_op op_mulU (pe_lst (pa_cons (pe_str) pa_nil)) (pe_callTy cr_intK (by rfl) T.f_int bt_int (pa_cons (pe_not (pe_callB (call_isP (.head _) hz (L2M.fields_of hot)) (by rfl) T.f_isinstance bb_isinstance (pa_cons (pv 0) (pa_cons (pe_bty rfl T.f_ValueError bt_ValueError) pa_nil)))) pa_nil)))))))))
theorem ok__law_word_1 {P : Program} {w : World} {K : PySem.W.Frag} {mg : Str → Option Value} {base : Heap} (T : Tx K mg) : ∃ fd, Binds K fd ["_law_e"] [] ∧ L2M.FnE P w K mg base (L2M.CX P w) 1 (He.fAd K ("_law_word", none)) fd ["_law_e"] (sp__law_word K) ∧ PySem.W.keepIn K (.ref (He.fAd K ("_law_word", none))) = true := by
  obtain ⟨fd, F⟩ := T.d__law_word
  exact ⟨fd, FunD.bindsN F fun _ _ _ _ _ _ us hl => match us, hl with | [_], _ => rfl, L2M.okE F sc__law_word (fun a c d vs H Q E h => len__law_word h) (fun cdv A outer s H vs Q E q qs cls d hot hz hr h => ⟨t__law_word K q.1 cls d, wk__law_word T hot hz hr, rd__law_word  h⟩), F.kp⟩
abbrev N__law_put : List Str := ["_law_bits", "_law_table_here", "_law_e"]
theorem sc__law_put : FnScope N__law_put ["_law_bits", "_law_table_here"] (defScope s__law_put) := ⟨rfl, rfl, rfl, by decide +kernel, rfl, by decide +kernel, by decide +kernel⟩
theorem wk__law_put {P : Program} {w : World} {K : PySem.W.Frag} {mg : Str → Option Value} {base : Heap} (T : Tx K mg) (O0 : L2M.DOk P w K mg base 4 (He.fAd K ("put_table", none)) ["bits", "lengths"] [] (sp_put_table K)) (O1 : ∃ fd, Binds K fd ["_law_e"] [] ∧ L2M.FnE P w K mg base (L2M.CX P w) 1 (He.fAd K ("_law_word", none)) fd ["_law_e"] (sp__law_word K) ∧ PySem.W.keepIn K (.ref (He.fAd K ("_law_word", none))) = true) {f : Addr} {cdv : Value} {A : Around} {outer : List Env} {s : Shared} {H : Hp} {E : XK} 
    (hr : Room 4 (A.deeper (envOfC "_law_put" (defScope s__law_put) s.heap.objs.size f cdv))) :
    PSs (cxOf (L2M.CX P w) P w K mg base N__law_put "_law_put" (defScope s__law_put) f cdv A outer s H E) (defBody s__law_put) (t__law_put K (fun c d _ H2 => E c d H2)) := by
  obtain ⟨fd0, ds0, v0, b0, G0, q0⟩ := O0
  obtain ⟨fd1, b1, G1, q1⟩ := O1
  have hu1 := hu_of hr
  have hu64 := hr.units
  have tk : L2M.Takes (cxOf (L2M.CX P w) P w K mg base N__law_put "_law_put" (defScope s__law_put) f cdv A outer s H E) (fun c d _ H2 => E c d H2) := L2M.takes_of rfl rfl rfl rfl
  exact (pss_cons (L2M.ps_tryAs rfl rfl sc__law_put.nd rfl rfl ⟨rfl, by decide, .inl T.g_PressError⟩ tk (fun W pn xe tk po => (pss_one (ps_expr (L2M.pe_clM G0 (hr.mono (by decide)) rfl T.g_put_table q0 b0 v0 tk (pa_cons (pv 0) (pa_cons (pv 1) pa_nil))))))
    (fun a oe cls d qs pn hz hf => (pss_one (ps_ret (L2M.pe_clE G1 (roomH_of (hr.mono (by decide))) hz rfl T.g__law_word q1 b1 (pa_cons (pv 2) pa_nil))))))
    (pss_one (ps_ret (pe_lst pa_nil))))
theorem fn__law_put {P : Program} {w : World} {K : PySem.W.Frag} {mg : Str → Option Value} {base : Heap} (T : Tx K mg) {f : Addr} {fd : FuncData} (F : FunD K d__law_put.name d__law_put.qual d__law_put.params d__law_put.body d__law_put.scope (d__law_put.dvs K) (d__law_put.kws K) f fd) :
    FnOk P w K mg base (L2M.CX P w) 5 f fd ["_law_bits", "_law_table_here"] (sp__law_put K) :=
  F.ok sc__law_put (fun vs H Q E h => len__law_put h) (fun cdv A outer s H vs Q E hr h => ⟨t__law_put K (fun c d _ H2 => E c d H2), wk__law_put T (ok_put_table_2 T) (ok__law_word_1 T) hr, rd__law_put (of_KWBadTable T) h⟩)
theorem ok__law_put_2 {P : Program} {w : World} {K : PySem.W.Frag} {mg : Str → Option Value} {base : Heap} (T : Tx K mg) : L2M.DOk P w K mg base 5 (He.fAd K ("_law_put", none)) ["_law_bits", "_law_table_here"] [] (sp__law_put K) := by
  obtain ⟨fd, F⟩ := T.d__law_put
  exact ⟨fd, [], .nil, FunD.bindsN F fun _ _ _ _ _ _ us hl => match us, hl with | [_, _], _ => rfl, fn__law_put T F, F.kp⟩
abbrev N__law_put_right : List Str := ["_law_table_here", "_law_number", "_law_bits", "_law_odd_here", "_law_kept", "_law_before"]
theorem sc__law_put_right : FnScope N__law_put_right ["_law_table_here", "_law_number"] (defScope s__law_put_right) := ⟨rfl, rfl, rfl, by decide +kernel, rfl, by decide +kernel, by decide +kernel⟩
theorem wk__law_put_right {P : Program} {w : World} {K : PySem.W.Frag} {mg : Str → Option Value} {base : Heap} (T : Tx K mg) (O0 : L2M.DOk P w K mg base 1 (He.fAd K ("BitRow", some "__init__")) ["self"] [] (sp_BitRow___init__ K)) (O1 : L2M.DOk P w K mg base 3 (He.fAd K ("BitRow", some "put")) ["self", "number", "size"] [] (sp_BitRow_put K)) (O2 : L2M.DOk P w K mg base 1 (He.fAd K ("_law_odd", none)) ["_law_table_here", "_law_number"] [] (sp__law_odd K)) (O3 : L2M.DOk P w K mg base 1 (He.fAd K ("BitRow", some "row")) ["self"] [] (sp_BitRow_row K)) (O4 : L2M.DOk P w K mg base 1 (He.fAd K ("BitRow", some "many")) ["self"] [] (sp_BitRow_many K)) (O5 : L2M.DOk P w K mg base 5 (He.fAd K ("_law_put", none)) ["_law_bits", "_law_table_here"] [] (sp__law_put K)) {f : Addr} {cdv : Value} {A : Around} {outer : List Env} {s : Shared} {H : Hp} {E : XK} (hG0 : A.guards = some [])
    (hr : Room 5 (A.deeper (envOfC "_law_put_right" (defScope s__law_put_right) s.heap.objs.size f cdv))) :
    PSs (cxOf (L2M.CX P w) P w K mg base N__law_put_right "_law_put_right" (defScope s__law_put_right) f cdv A outer s H E) (defBody s__law_put_right) (t__law_put_right K (fun c d _ H2 => E c d H2)) := by
  obtain ⟨fd0, ds0, v0, b0, G0, q0⟩ := O0
  obtain ⟨fd1, ds1, v1, b1, G1, q1⟩ := O1
  obtain ⟨fd2, ds2, v2, b2, G2, q2⟩ := O2
  obtain ⟨fd3, ds3, v3, b3, G3, q3⟩ := O3
  obtain ⟨fd4, ds4, v4, b4, G4, q4⟩ := O4
  obtain ⟨fd5, ds5, v5, b5, G5, q5⟩ := O5
  have hu1 := hu_of hr
  have hu64 := hr.units
  have tk : L2M.Takes (cxOf (L2M.CX P w) P w K mg base N__law_put_right "_law_put_right" (defScope s__law_put_right) f cdv A outer s H E) (fun c d _ H2 => E c d H2) := L2M.takes_of rfl rfl rfl rfl
  have hG : (cxOf (L2M.CX P w) P w K mg base N__law_put_right "_law_put_right" (defScope s__law_put_right) f cdv A outer s H E).A.guards = some [] := hG0
  exact (pss_cons (ps_set (i := 2) sc__law_put_right.nd rfl (Or.inl rfl) (L2M.pe_mk0M T.k_BitRow G0 (hr.mono (by decide)) rfl T.g_BitRow b0 v0 tk))
    (pss_cons (ps_expr (L2M.pe_mtM (pv 2) T.c_BitRow T.m_BitRow_put G1 (hr.mono (by decide)) b1 v1 tk (pa_cons (pe_op op_modU (pv 1) (pe_int)) (pa_cons (pe_int) pa_nil))))
    (pss_cons (ps_set (i := 3) sc__law_put_right.nd rfl (Or.inl rfl) (L2M.pe_clM G2 (hr.mono (by decide)) rfl T.g__law_odd q2 b2 v2 tk (pa_cons (pv 0) (pa_cons (pv 1) pa_nil))))
    (pss_cons (ps_set (i := 4) sc__law_put_right.nd rfl (Or.inl rfl) (pe_callB (L2G.cr_repr hG hu64) (by rfl) T.f_repr bb_repr (pa_cons (pv 3) pa_nil)))
    (pss_cons (ps_set (i := 5) sc__law_put_right.nd rfl (Or.inl rfl) (pe_tup (pa_cons (L2M.pe_mt0M (pv 2) T.c_BitRow T.m_BitRow_row G3 (hr.mono (by decide)) b3 v3 tk) (pa_cons (L2M.pe_mt0M (pv 2) T.c_BitRow T.m_BitRow_many G4 (hr.mono (by decide)) b4 v4 tk) pa_nil))))
    (pss_cons (ps_if (PW.pt (pw_or (pt_cmpR (op_neU hu64) (L2M.pe_clM G5 (hr.mono (by decide)) rfl T.g__law_put q5 b5 v5 tk (pa_cons (pv 2) (pa_cons (pv 3) pa_nil))) (pe_lst (pa_cons (pe_str) pa_nil)) (nomark _)) (pw_or (pt_cmpR (op_neU hu64) (pe_tup (pa_cons (L2M.pe_mt0M (pv 2) T.c_BitRow T.m_BitRow_row G3 (hr.mono (by decide)) b3 v3 tk) (pa_cons (L2M.pe_mt0M (pv 2) T.c_BitRow T.m_BitRow_many G4 (hr.mono (by decide)) b4 v4 tk) pa_nil))) (pv 5) (nomark _)) (pw_or1 (pt_cmpR (op_neU hu64) (pe_callB (L2G.cr_repr hG hu64) (by rfl) T.f_repr bb_repr (pa_cons (pv 3) pa_nil)) (pv 4) (nomark _)))))) (pss_one (ps_ret (pe_bl))) pss_nil)
    (pss_cons (ps_if (pt_val (pe_callB call_isi (by rfl) T.f_isinstance bb_isinstance (pa_cons (pv 3) (pa_cons (pe_bty rfl T.f_list bt_list) pa_nil)))) (pss_cons (ps_expr (pe_bm0 PySem.F.plainAttrs_list PySem.F.slot_list_clear PySem.F.type_list_clear mt_clear (pv 3)))
    (pss_cons (ps_expr (pe_bm PySem.F.plainAttrs_list PySem.F.slot_list_extend PySem.F.type_list_extend mt_extend (pv 3) (pa_cons (pv 0) pa_nil)))
    (pss_one (ps_ret ((pe_and (pe_cmpR (op_eqU hu64) (L2M.pe_clM G5 (hr.mono (by decide)) rfl T.g__law_put q5 b5 v5 tk (pa_cons (pv 2) (pa_cons (pv 3) pa_nil))) (pe_lst pa_nil) (nomark _)) (pe_one (pe_cmpR op_gtU (L2M.pe_mt0M (pv 2) T.c_BitRow T.m_BitRow_many G4 (hr.mono (by decide)) b4 v4 tk) (pe_int) (nomark _))))))))) pss_nil)
    (pss_one (ps_ret (pe_bl))))))))))
theorem fn__law_put_right {P : Program} {w : World} {K : PySem.W.Frag} {mg : Str → Option Value} {base : Heap} (T : Tx K mg) {f : Addr} {fd : FuncData} (F : FunD K d__law_put_right.name d__law_put_right.qual d__law_put_right.params d__law_put_right.body d__law_put_right.scope (d__law_put_right.dvs K) (d__law_put_right.kws K) f fd) :
    L2G.FnG P w K mg base (L2M.CX P w) 6 f fd ["_law_table_here", "_law_number"] (sp__law_put_right K) :=
  L2G.okG F sc__law_put_right (fun vs H Q E h => len__law_put_right h) (fun cdv A outer s H vs Q E hG hr h => ⟨t__law_put_right K (fun c d _ H2 => E c d H2), wk__law_put_right T (ok_BitRow___init___1 T) (ok_BitRow_put_3 T) (ok__law_odd_2 T) (ok_BitRow_row_1 T) (ok_BitRow_many_1 T) (ok__law_put_2 T) hG hr, rd__law_put_right  h⟩)
theorem ok__law_put_right_2 {P : Program} {w : World} {K : PySem.W.Frag} {mg : Str → Option Value} {base : Heap} (T : Tx K mg) : L2G.DOk P w K mg base 6 (He.fAd K ("_law_put_right", none)) ["_law_table_here", "_law_number"] [] (sp__law_put_right K) := by
  obtain ⟨fd, F⟩ := T.d__law_put_right
  exact ⟨fd, [], .nil, FunD.bindsN F fun _ _ _ _ _ _ us hl => match us, hl with | [_, _], _ => rfl, fn__law_put_right T F, F.kp⟩
abbrev N_is_byte : List Str := ["thing"]
theorem sc_is_byte : FnScope N_is_byte ["thing"] (defScope s_is_byte) := ⟨rfl, rfl, rfl, by decide +kernel, rfl, by decide +kernel, by decide +kernel⟩
theorem wk_is_byte {P : Program} {w : World} {K : PySem.W.Frag} {mg : Str → Option Value} {base : Heap} (T : Tx K mg)  {f : Addr} {cdv : Value} {A : Around} {outer : List Env} {s : Shared} {H : Hp} {E : XK} 
    (hr : Room 0 (A.deeper (envOfC "is_byte" (defScope s_is_byte) s.heap.objs.size f cdv))) :
    PSs (cxOf (L2M.CX P w) P w K mg base N_is_byte "is_byte" (defScope s_is_byte) f cdv A outer s H E) (defBody s_is_byte) (t_is_byte K (fun c d _ H2 => E c d H2)) := by
  have hu1 := hu_of hr
  have hu64 := hr.units
  have tk : L2M.Takes (cxOf (L2M.CX P w) P w K mg base N_is_byte "is_byte" (defScope s_is_byte) f cdv A outer s H E) (fun c d _ H2 => E c d H2) := L2M.takes_of rfl rfl rfl rfl
  exact (pss_one (ps_ret ((pe_and (pe_callB call_isi (by rfl) T.f_isinstance bb_isinstance (pa_cons (pv 0) (pa_cons (pe_bty rfl T.f_int bt_int) pa_nil))) (pe_and (pe_not (pe_callB call_isi (by rfl) T.f_isinstance bb_isinstance (pa_cons (pv 0) (pa_cons (pe_bty rfl T.f_bool bt_bool) pa_nil)))) (pe_one (pe_chain op_leU op_leU (pe_int) (pv 0) (pe_gint rfl T.g_MOST_BYTE))))))))
theorem fn_is_byte {P : Program} {w : World} {K : PySem.W.Frag} {mg : Str → Option Value} {base : Heap} (T : Tx K mg) {f : Addr} {fd : FuncData} (F : FunD K d_is_byte.name d_is_byte.qual d_is_byte.params d_is_byte.body d_is_byte.scope (d_is_byte.dvs K) (d_is_byte.kws K) f fd) :
    FnOk P w K mg base (L2M.CX P w) 1 f fd ["thing"] (sp_is_byte K) :=
  F.ok sc_is_byte (fun vs H Q E h => len_is_byte h) (fun cdv A outer s H vs Q E hr h => ⟨t_is_byte K (fun c d _ H2 => E c d H2), wk_is_byte T  hr, rd_is_byte  h⟩)
theorem ok_is_byte_1 {P : Program} {w : World} {K : PySem.W.Frag} {mg : Str → Option Value} {base : Heap} (T : Tx K mg) : L2M.DOk P w K mg base 1 (He.fAd K ("is_byte", none)) ["thing"] [] (sp_is_byte K) := by
  obtain ⟨fd, F⟩ := T.d_is_byte
  exact ⟨fd, [], .nil, FunD.bindsN F fun _ _ _ _ _ _ us hl => match us, hl with | [_], _ => rfl, fn_is_byte T F, F.kp⟩
abbrev N_is_row : List Str := ["thing", "number"]
theorem sc_is_row : FnScope N_is_row ["thing"] (defScope s_is_row) := ⟨rfl, rfl, rfl, by decide +kernel, rfl, by decide +kernel, by decide +kernel⟩
theorem wk_is_row {P : Program} {w : World} {K : PySem.W.Frag} {mg : Str → Option Value} {base : Heap} (T : Tx K mg) (O0 : L2M.DOk P w K mg base 1 (He.fAd K ("is_byte", none)) ["thing"] [] (sp_is_byte K)) {f : Addr} {cdv : Value} {A : Around} {outer : List Env} {s : Shared} {H : Hp} {E : XK} 
    (hr : Room 1 (A.deeper (envOfC "is_row" (defScope s_is_row) s.heap.objs.size f cdv))) :
    PSs (cxOf (L2M.CX P w) P w K mg base N_is_row "is_row" (defScope s_is_row) f cdv A outer s H E) (defBody s_is_row) (t_is_row K (fun c d _ H2 => E c d H2)) := by
  obtain ⟨fd0, ds0, v0, b0, G0, q0⟩ := O0
  have hu1 := hu_of hr
  have hu64 := hr.units
  have tk : L2M.Takes (cxOf (L2M.CX P w) P w K mg base N_is_row "is_row" (defScope s_is_row) f cdv A outer s H E) (fun c d _ H2 => E c d H2) := L2M.takes_of rfl rfl rfl rfl
  exact (pss_one (ps_ret ((pe_and (pe_callB call_isi (by rfl) T.f_isinstance bb_isinstance (pa_cons (pv 0) (pa_cons (pe_bty rfl T.f_list bt_list) pa_nil))) (pe_one (pe_callB (cr_all rfl) (by rfl) T.f_all bb_all (pa_cons (pe_lc (own := [("number", 1)]) rfl sc_is_row.nd (pi_list (pv 0)) (blkOk_by (own := [("number", 1)]) (N := N_is_row) (sc := defScope s_is_row) (by decide +kernel)) (fun _ _ _ _ _ => (pg_name (i := 1) sc_is_row.nd rfl (Or.inl rfl))) (fun _ _ _ _ _ => pts_nil) (fun _ _ _ _ _ => (L2M.pe_clM G0 (hr.mono (by decide)) rfl T.g_is_byte q0 b0 v0 L2M.takes0 (pa_cons (pv 1) pa_nil)))) pa_nil)))))))
theorem fn_is_row {P : Program} {w : World} {K : PySem.W.Frag} {mg : Str → Option Value} {base : Heap} (T : Tx K mg) {f : Addr} {fd : FuncData} (F : FunD K d_is_row.name d_is_row.qual d_is_row.params d_is_row.body d_is_row.scope (d_is_row.dvs K) (d_is_row.kws K) f fd) :
    FnOk P w K mg base (L2M.CX P w) 2 f fd ["thing"] (sp_is_row K) :=
  F.ok sc_is_row (fun vs H Q E h => len_is_row h) (fun cdv A outer s H vs Q E hr h => ⟨t_is_row K (fun c d _ H2 => E c d H2), wk_is_row T (ok_is_byte_1 T) hr, rd_is_row  h⟩)
theorem ok_is_row_1 {P : Program} {w : World} {K : PySem.W.Frag} {mg : Str → Option Value} {base : Heap} (T : Tx K mg) : L2M.DOk P w K mg base 2 (He.fAd K ("is_row", none)) ["thing"] [] (sp_is_row K) := by
  obtain ⟨fd, F⟩ := T.d_is_row
  exact ⟨fd, [], .nil, FunD.bindsN F fun _ _ _ _ _ _ us hl => match us, hl with | [_], _ => rfl, fn_is_row T F, F.kp⟩
abbrev N_need_row : List Str := ["thing"]
theorem sc_need_row : FnScope N_need_row ["thing"] (defScope s_need_row) := ⟨rfl, rfl, rfl, by decide +kernel, rfl, by decide +kernel, by decide +kernel⟩
theorem wk_need_row {P : Program} {w : World} {K : PySem.W.Frag} {mg : Str → Option Value} {base : Heap} (T : Tx K mg) (O0 : L2M.DOk P w K mg base 2 (He.fAd K ("is_row", none)) ["thing"] [] (sp_is_row K)) {f : Addr} {cdv : Value} {A : Around} {outer : List Env} {s : Shared} {H : Hp} {E : XK} 
    (hr : Room 2 (A.deeper (envOfC "need_row" (defScope s_need_row) s.heap.objs.size f cdv))) :
    PSs (cxOf (L2M.CX P w) P w K mg base N_need_row "need_row" (defScope s_need_row) f cdv A outer s H E) (defBody s_need_row) (t_need_row K (fun c d _ H2 => E c d H2)) := by
  obtain ⟨fd0, ds0, v0, b0, G0, q0⟩ := O0
  have hu1 := hu_of hr
  have hu64 := hr.units
  have tk : L2M.Takes (cxOf (L2M.CX P w) P w K mg base N_need_row "need_row" (defScope s_need_row) f cdv A outer s H E) (fun c d _ H2 => E c d H2) := L2M.takes_of rfl rfl rfl rfl
  exact (pss_cons (ps_if (pt_not (pt_val (L2M.pe_clM G0 (hr.mono (by decide)) rfl T.g_is_row q0 b0 v0 tk (pa_cons (pv 0) pa_nil)))) (pss_one (L2M.ps_rz rfl tk T.x_BadRow T.g_BadRow rfl)) pss_nil)
    (pss_one (ps_ret (pe_callTy cr_listK (by rfl) T.f_list bt_list (pa_cons (pv 0) pa_nil)))))
theorem fn_need_row {P : Program} {w : World} {K : PySem.W.Frag} {mg : Str → Option Value} {base : Heap} (T : Tx K mg) {f : Addr} {fd : FuncData} (F : FunD K d_need_row.name d_need_row.qual d_need_row.params d_need_row.body d_need_row.scope (d_need_row.dvs K) (d_need_row.kws K) f fd) :
    FnOk P w K mg base (L2M.CX P w) 3 f fd ["thing"] (sp_need_row K) :=
  F.ok sc_need_row (fun vs H Q E h => len_need_row h) (fun cdv A outer s H vs Q E hr h => ⟨t_need_row K (fun c d _ H2 => E c d H2), wk_need_row T (ok_is_row_1 T) hr, rd_need_row  h⟩)
theorem ok_need_row_1 {P : Program} {w : World} {K : PySem.W.Frag} {mg : Str → Option Value} {base : Heap} (T : Tx K mg) : L2M.DOk P w K mg base 3 (He.fAd K ("need_row", none)) ["thing"] [] (sp_need_row K) := by
  obtain ⟨fd, F⟩ := T.d_need_row
  exact ⟨fd, [], .nil, FunD.bindsN F fun _ _ _ _ _ _ us hl => match us, hl with | [_], _ => rfl, fn_need_row T F, F.kp⟩
abbrev N_BitReader___init__ : List Str := ["self", "row"]
theorem sc_BitReader___init__ : FnScope N_BitReader___init__ ["self", "row"] (defScope s_BitReader___init__) := ⟨rfl, rfl, rfl, by decide +kernel, rfl, by decide +kernel, by decide +kernel⟩
theorem wk_BitReader___init__ {P : Program} {w : World} {K : PySem.W.Frag} {mg : Str → Option Value} {base : Heap} (T : Tx K mg) (O0 : L2M.DOk P w K mg base 3 (He.fAd K ("need_row", none)) ["thing"] [] (sp_need_row K)) {f : Addr} {cdv : Value} {A : Around} {outer : List Env} {s : Shared} {H : Hp} {E : XK} 
    (hr : Room 3 (A.deeper (envOfC "BitReader.__init__" (defScope s_BitReader___init__) s.heap.objs.size f cdv))) :
    PSs (cxOf (L2M.CX P w) P w K mg base N_BitReader___init__ "BitReader.__init__" (defScope s_BitReader___init__) f cdv A outer s H E) (defBody s_BitReader___init__) (t_BitReader___init__ K (fun c d _ H2 => E c d H2)) := by
  obtain ⟨fd0, ds0, v0, b0, G0, q0⟩ := O0
  have hu1 := hu_of hr
  have hu64 := hr.units
  have tk : L2M.Takes (cxOf (L2M.CX P w) P w K mg base N_BitReader___init__ "BitReader.__init__" (defScope s_BitReader___init__) f cdv A outer s H E) (fun c d _ H2 => E c d H2) := L2M.takes_of rfl rfl rfl rfl
  exact (pss_cons (ps_fld (pv 0) (L2M.pe_clM G0 (hr.mono (by decide)) rfl T.g_need_row q0 b0 v0 tk (pa_cons (pv 1) pa_nil)) rfl)
    (pss_one (ps_fld (pv 0) (pe_int) rfl)))
theorem fn_BitReader___init__ {P : Program} {w : World} {K : PySem.W.Frag} {mg : Str → Option Value} {base : Heap} (T : Tx K mg) {f : Addr} {fd : FuncData} (F : FunD K d_BitReader___init__.name d_BitReader___init__.qual d_BitReader___init__.params d_BitReader___init__.body d_BitReader___init__.scope (d_BitReader___init__.dvs K) (d_BitReader___init__.kws K) f fd) :
    FnOk P w K mg base (L2M.CX P w) 4 f fd ["self", "row"] (sp_BitReader___init__ K) :=
  F.ok sc_BitReader___init__ (fun vs H Q E h => len_BitReader___init__ h) (fun cdv A outer s H vs Q E hr h => ⟨t_BitReader___init__ K (fun c d _ H2 => E c d H2), wk_BitReader___init__ T (ok_need_row_1 T) hr, rd_BitReader___init__ (of_KBitReader T) h⟩)
theorem ok_BitReader___init___2 {P : Program} {w : World} {K : PySem.W.Frag} {mg : Str → Option Value} {base : Heap} (T : Tx K mg) : L2M.DOk P w K mg base 4 (He.fAd K ("BitReader", some "__init__")) ["self", "row"] [] (sp_BitReader___init__ K) := by
  obtain ⟨fd, F⟩ := T.d_BitReader___init__
  exact ⟨fd, [], .nil, FunD.bindsN F fun _ _ _ _ _ _ us hl => match us, hl with | [_, _], _ => rfl, fn_BitReader___init__ T F, F.kp⟩
abbrev N_BitReader_left : List Str := ["self"]
theorem sc_BitReader_left : FnScope N_BitReader_left ["self"] (defScope s_BitReader_left) := ⟨rfl, rfl, rfl, by decide +kernel, rfl, by decide +kernel, by decide +kernel⟩
theorem wk_BitReader_left {P : Program} {w : World} {K : PySem.W.Frag} {mg : Str → Option Value} {base : Heap} (T : Tx K mg)  {f : Addr} {cdv : Value} {A : Around} {outer : List Env} {s : Shared} {H : Hp} {E : XK} 
    (hr : Room 0 (A.deeper (envOfC "BitReader.left" (defScope s_BitReader_left) s.heap.objs.size f cdv))) :
    PSs (cxOf (L2M.CX P w) P w K mg base N_BitReader_left "BitReader.left" (defScope s_BitReader_left) f cdv A outer s H E) (defBody s_BitReader_left) (t_BitReader_left K (fun c d _ H2 => E c d H2)) := by
  have hu1 := hu_of hr
  have hu64 := hr.units
  have tk : L2M.Takes (cxOf (L2M.CX P w) P w K mg base N_BitReader_left "BitReader.left" (defScope s_BitReader_left) f cdv A outer s H E) (fun c d _ H2 => E c d H2) := L2M.takes_of rfl rfl rfl rfl
  exact (pss_one (ps_ret (pe_op op_subU (pe_op op_mulU (pe_gint rfl T.g_BYTE) (pe_callB cr_lenK (by rfl) T.f_len bb_len (pa_cons (pe_fld (pv 0) rfl) pa_nil))) (pe_fld (pv 0) rfl))))
theorem fn_BitReader_left {P : Program} {w : World} {K : PySem.W.Frag} {mg : Str → Option Value} {base : Heap} (T : Tx K mg) {f : Addr} {fd : FuncData} (F : FunD K d_BitReader_left.name d_BitReader_left.qual d_BitReader_left.params d_BitReader_left.body d_BitReader_left.scope (d_BitReader_left.dvs K) (d_BitReader_left.kws K) f fd) :
    FnOk P w K mg base (L2M.CX P w) 1 f fd ["self"] (sp_BitReader_left K) :=
  F.ok sc_BitReader_left (fun vs H Q E h => len_BitReader_left h) (fun cdv A outer s H vs Q E hr h => ⟨t_BitReader_left K (fun c d _ H2 => E c d H2), wk_BitReader_left T  hr, rd_BitReader_left (of_KBitReader T) h⟩)
theorem ok_BitReader_left_1 {P : Program} {w : World} {K : PySem.W.Frag} {mg : Str → Option Value} {base : Heap} (T : Tx K mg) : L2M.DOk P w K mg base 1 (He.fAd K ("BitReader", some "left")) ["self"] [] (sp_BitReader_left K) := by
  obtain ⟨fd, F⟩ := T.d_BitReader_left
  exact ⟨fd, [], .nil, FunD.bindsN F fun _ _ _ _ _ _ us hl => match us, hl with | [_], _ => rfl, fn_BitReader_left T F, F.kp⟩
abbrev N_BitReader_take : List Str := ["self", "size", "begin", "over", "end", "rest", "number", "byte"]
theorem sc_BitReader_take : FnScope N_BitReader_take ["self", "size"] (defScope s_BitReader_take) := ⟨rfl, rfl, rfl, by decide +kernel, rfl, by decide +kernel, by decide +kernel⟩
theorem wk_BitReader_take {P : Program} {w : World} {K : PySem.W.Frag} {mg : Str → Option Value} {base : Heap} (T : Tx K mg) (O0 : L2M.DOk P w K mg base 2 (He.fAd K ("need_size", none)) ["size"] [] (sp_need_size K)) (O1 : L2M.DOk P w K mg base 1 (He.fAd K ("BitReader", some "left")) ["self"] [] (sp_BitReader_left K)) {f : Addr} {cdv : Value} {A : Around} {outer : List Env} {s : Shared} {H : Hp} {E : XK} 
    (hr : Room 2 (A.deeper (envOfC "BitReader.take" (defScope s_BitReader_take) s.heap.objs.size f cdv))) :
    PSs (cxOf (L2M.CX P w) P w K mg base N_BitReader_take "BitReader.take" (defScope s_BitReader_take) f cdv A outer s H E) (defBody s_BitReader_take) (t_BitReader_take K (fun c d _ H2 => E c d H2)) := by
  obtain ⟨fd0, ds0, v0, b0, G0, q0⟩ := O0
  obtain ⟨fd1, ds1, v1, b1, G1, q1⟩ := O1
  have hu1 := hu_of hr
  have hu64 := hr.units
  have tk : L2M.Takes (cxOf (L2M.CX P w) P w K mg base N_BitReader_take "BitReader.take" (defScope s_BitReader_take) f cdv A outer s H E) (fun c d _ H2 => E c d H2) := L2M.takes_of rfl rfl rfl rfl
  exact (pss_cons (ps_expr (L2M.pe_clM G0 (hr.mono (by decide)) rfl T.g_need_size q0 b0 v0 tk (pa_cons (pv 1) pa_nil)))
    (pss_cons (ps_if (pt_cmpR op_ltU (L2M.pe_mt0M (pv 0) T.c_BitReader T.m_BitReader_left G1 (hr.mono (by decide)) b1 v1 tk) (pv 1) (nomark _)) (pss_one (L2M.ps_rz rfl tk T.x_NoBits T.g_NoBits rfl)) pss_nil)
    (pss_cons (ps_asg (pe_callB cr_divmodK (by rfl) T.f_divmod bb_divmod (pa_cons (pe_fld (pv 0) rfl) (pa_cons (pe_gint rfl T.g_BYTE) pa_nil))) (pg_tup rfl (pgs_cons (pg_name (i := 2) sc_BitReader_take.nd rfl (Or.inl rfl)) (pgs_cons (pg_name (i := 3) sc_BitReader_take.nd rfl (Or.inl rfl)) pgs_nil))))
    (pss_cons (ps_asg (pe_callB cr_divmodK (by rfl) T.f_divmod bb_divmod (pa_cons (pe_op op_subU (pe_op op_addU (pe_op op_addU (pe_fld (pv 0) rfl) (pv 1)) (pe_gint rfl T.g_BYTE)) (pe_int)) (pa_cons (pe_gint rfl T.g_BYTE) pa_nil))) (pg_tup rfl (pgs_cons (pg_name (i := 4) sc_BitReader_take.nd rfl (Or.inl rfl)) (pgs_cons (pg_name (i := 5) sc_BitReader_take.nd rfl (Or.inl rfl)) pgs_nil))))
    (pss_cons (ps_set (i := 6) sc_BitReader_take.nd rfl (Or.inl rfl) (pe_int))
    (pss_cons (ps_for (passes_of rfl) rfl (pi_list (pe_slice sl_K (pe_fld (pv 0) rfl) (po_some (pv 2)) (po_some (pv 4)))) (pg_name (i := 7) sc_BitReader_take.nd rfl (Or.inl rfl)) (pss_one (ps_set (i := 6) sc_BitReader_take.nd rfl (Or.inl rfl) (pe_op op_orU (pe_op op_shlU (pv 6) (pe_gint rfl T.g_BYTE)) (pv 7)))))
    (pss_cons (ps_set (i := 6) sc_BitReader_take.nd rfl (Or.inl rfl) (pe_op op_andU (pv 6) (pe_op op_subU (pe_op op_shlU (pe_int) (pe_op op_subU (pe_op op_mulU (pe_gint rfl T.g_BYTE) (pe_op op_subU (pv 4) (pv 2))) (pv 3))) (pe_int))))
    (pss_cons (ps_fldaug (pv 0) (pv 1) in_add)
    (pss_one (ps_ret (pe_op op_shrU (pv 6) (pe_op op_subU (pe_op op_subU (pe_gint rfl T.g_BYTE) (pe_int)) (pv 5)))))))))))))
theorem fn_BitReader_take {P : Program} {w : World} {K : PySem.W.Frag} {mg : Str → Option Value} {base : Heap} (T : Tx K mg) {f : Addr} {fd : FuncData} (F : FunD K d_BitReader_take.name d_BitReader_take.qual d_BitReader_take.params d_BitReader_take.body d_BitReader_take.scope (d_BitReader_take.dvs K) (d_BitReader_take.kws K) f fd) :
    FnOk P w K mg base (L2M.CX P w) 3 f fd ["self", "size"] (sp_BitReader_take K) :=
  F.ok sc_BitReader_take (fun vs H Q E h => len_BitReader_take h) (fun cdv A outer s H vs Q E hr h => ⟨t_BitReader_take K (fun c d _ H2 => E c d H2), wk_BitReader_take T (ok_need_size_1 T) (ok_BitReader_left_1 T) hr, rd_BitReader_take (of_KBitReader T) h⟩)
theorem ok_BitReader_take_2 {P : Program} {w : World} {K : PySem.W.Frag} {mg : Str → Option Value} {base : Heap} (T : Tx K mg) : L2M.DOk P w K mg base 3 (He.fAd K ("BitReader", some "take")) ["self", "size"] [] (sp_BitReader_take K) := by
  obtain ⟨fd, F⟩ := T.d_BitReader_take
  exact ⟨fd, [], .nil, FunD.bindsN F fun _ _ _ _ _ _ us hl => match us, hl with | [_, _], _ => rfl, fn_BitReader_take T F, F.kp⟩
abbrev N_BitReader_place : List Str := ["self"]
theorem sc_BitReader_place : FnScope N_BitReader_place ["self"] (defScope s_BitReader_place) := ⟨rfl, rfl, rfl, by decide +kernel, rfl, by decide +kernel, by decide +kernel⟩
theorem wk_BitReader_place {P : Program} {w : World} {K : PySem.W.Frag} {mg : Str → Option Value} {base : Heap} (T : Tx K mg)  {f : Addr} {cdv : Value} {A : Around} {outer : List Env} {s : Shared} {H : Hp} {E : XK} 
    (hr : Room 0 (A.deeper (envOfC "BitReader.place" (defScope s_BitReader_place) s.heap.objs.size f cdv))) :
    PSs (cxOf (L2M.CX P w) P w K mg base N_BitReader_place "BitReader.place" (defScope s_BitReader_place) f cdv A outer s H E) (defBody s_BitReader_place) (t_BitReader_place K (fun c d _ H2 => E c d H2)) := by
  have hu1 := hu_of hr
  have hu64 := hr.units
  have tk : L2M.Takes (cxOf (L2M.CX P w) P w K mg base N_BitReader_place "BitReader.place" (defScope s_BitReader_place) f cdv A outer s H E) (fun c d _ H2 => E c d H2) := L2M.takes_of rfl rfl rfl rfl
  exact (pss_one (ps_ret (pe_fld (pv 0) rfl)))
theorem fn_BitReader_place {P : Program} {w : World} {K : PySem.W.Frag} {mg : Str → Option Value} {base : Heap} (T : Tx K mg) {f : Addr} {fd : FuncData} (F : FunD K d_BitReader_place.name d_BitReader_place.qual d_BitReader_place.params d_BitReader_place.body d_BitReader_place.scope (d_BitReader_place.dvs K) (d_BitReader_place.kws K) f fd) :
    FnOk P w K mg base (L2M.CX P w) 1 f fd ["self"] (sp_BitReader_place K) :=
  F.ok sc_BitReader_place (fun vs H Q E h => len_BitReader_place h) (fun cdv A outer s H vs Q E hr h => ⟨t_BitReader_place K (fun c d _ H2 => E c d H2), wk_BitReader_place T  hr, rd_BitReader_place (of_KBitReader T) h⟩)
theorem ok_BitReader_place_1 {P : Program} {w : World} {K : PySem.W.Frag} {mg : Str → Option Value} {base : Heap} (T : Tx K mg) : L2M.DOk P w K mg base 1 (He.fAd K ("BitReader", some "place")) ["self"] [] (sp_BitReader_place K) := by
  obtain ⟨fd, F⟩ := T.d_BitReader_place
  exact ⟨fd, [], .nil, FunD.bindsN F fun _ _ _ _ _ _ us hl => match us, hl with | [_], _ => rfl, fn_BitReader_place T F, F.kp⟩
abbrev N_items_read : List Str := ["reader", "found", "last", "item"]
theorem sc_items_read : FnScope N_items_read ["reader"] (defScope s_items_read) := ⟨rfl, rfl, rfl, by decide +kernel, rfl, by decide +kernel, by decide +kernel⟩
theorem wk_items_read {P : Program} {w : World} {K : PySem.W.Frag} {mg : Str → Option Value} {base : Heap} (T : Tx K mg) (O0 : L2M.DOk P w K mg base 3 (He.fAd K ("BitReader", some "take")) ["self", "size"] [] (sp_BitReader_take K)) {f : Addr} {cdv : Value} {A : Around} {outer : List Env} {s : Shared} {H : Hp} {E : XK} 
    (hr : Room 3 (A.deeper (envOfC "items_read" (defScope s_items_read) s.heap.objs.size f cdv))) :
    PSs (cxOf (L2M.CX P w) P w K mg base N_items_read "items_read" (defScope s_items_read) f cdv A outer s H E) (defBody s_items_read) (t_items_read K (fun c d _ H2 => E c d H2)) := by
  obtain ⟨fd0, ds0, v0, b0, G0, q0⟩ := O0
  have hu1 := hu_of hr
  have hu64 := hr.units
  have tk : L2M.Takes (cxOf (L2M.CX P w) P w K mg base N_items_read "items_read" (defScope s_items_read) f cdv A outer s H E) (fun c d _ H2 => E c d H2) := L2M.takes_of rfl rfl rfl rfl
  exact (pss_cons (ps_set (i := 1) sc_items_read.nd rfl (Or.inl rfl) (pe_lst pa_nil))
    (pss_cons (ps_set (i := 2) sc_items_read.nd rfl (Or.inl rfl) (pe_int))
    (pss_cons (ps_while (passes_of rfl) (pt_cmpR op_ltU (pe_callB cr_lenK (by rfl) T.f_len bb_len (pa_cons (pv 1) pa_nil)) (pe_gint rfl T.g_MANY) (nomark _)) (pss_cons (ps_set (i := 3) sc_items_read.nd rfl (Or.inl rfl) (L2M.pe_mtM (pv 0) T.c_BitReader T.m_BitReader_take G0 (hr.mono (by decide)) b0 v0 tk (pa_cons (pe_gint rfl T.g_LENGTH_BITS) pa_nil)))
    (pss_one (ps_if (pt_cmpR (op_eqU hu64) (pv 3) (pe_gint rfl T.g_MORE_MARK) (nomark _)) (pss_one (ps_aug (i := 1) sc_items_read.nd rfl (Or.inl rfl) (pe_op op_mulU (pe_lst (pa_cons (pv 2) pa_nil)) (pe_op op_addU (L2M.pe_mtM (pv 0) T.c_BitReader T.m_BitReader_take G0 (hr.mono (by decide)) b0 v0 tk (pa_cons (pe_gint rfl T.g_MORE_BITS) pa_nil)) (pe_gint rfl T.g_LEAST_MORE))) ip_addU)) (pss_cons (ps_set (i := 2) sc_items_read.nd rfl (Or.inl rfl) (pv 3))
    (pss_one (ps_expr (pe_bm PySem.F.plainAttrs_list PySem.F.slot_list_append PySem.F.type_list_append mt_append (pv 1) (pa_cons (pv 2) pa_nil)))))))))
    (pss_one (ps_ret (pv 1))))))
theorem fn_items_read {P : Program} {w : World} {K : PySem.W.Frag} {mg : Str → Option Value} {base : Heap} (T : Tx K mg) {f : Addr} {fd : FuncData} (F : FunD K d_items_read.name d_items_read.qual d_items_read.params d_items_read.body d_items_read.scope (d_items_read.dvs K) (d_items_read.kws K) f fd) :
    FnOk P w K mg base (L2M.CX P w) 4 f fd ["reader"] (sp_items_read K) :=
  F.ok sc_items_read (fun vs H Q E h => len_items_read h) (fun cdv A outer s H vs Q E hr h => ⟨t_items_read K (fun c d _ H2 => E c d H2), wk_items_read T (ok_BitReader_take_2 T) hr, rd_items_read  h⟩)
theorem ok_items_read_1 {P : Program} {w : World} {K : PySem.W.Frag} {mg : Str → Option Value} {base : Heap} (T : Tx K mg) : L2M.DOk P w K mg base 4 (He.fAd K ("items_read", none)) ["reader"] [] (sp_items_read K) := by
  obtain ⟨fd, F⟩ := T.d_items_read
  exact ⟨fd, [], .nil, FunD.bindsN F fun _ _ _ _ _ _ us hl => match us, hl with | [_], _ => rfl, fn_items_read T F, F.kp⟩
abbrev N_BitReader_go : List Str := ["self", "place"]
theorem sc_BitReader_go : FnScope N_BitReader_go ["self", "place"] (defScope s_BitReader_go) := ⟨rfl, rfl, rfl, by decide +kernel, rfl, by decide +kernel, by decide +kernel⟩
theorem wk_BitReader_go {P : Program} {w : World} {K : PySem.W.Frag} {mg : Str → Option Value} {base : Heap} (T : Tx K mg) (O0 : L2M.DOk P w K mg base 1 (He.fAd K ("is_number", none)) ["thing"] [] (sp_is_number K)) {f : Addr} {cdv : Value} {A : Around} {outer : List Env} {s : Shared} {H : Hp} {E : XK} 
    (hr : Room 1 (A.deeper (envOfC "BitReader.go" (defScope s_BitReader_go) s.heap.objs.size f cdv))) :
    PSs (cxOf (L2M.CX P w) P w K mg base N_BitReader_go "BitReader.go" (defScope s_BitReader_go) f cdv A outer s H E) (defBody s_BitReader_go) (t_BitReader_go K (fun c d _ H2 => E c d H2)) := by
  obtain ⟨fd0, ds0, v0, b0, G0, q0⟩ := O0
  have hu1 := hu_of hr
  have hu64 := hr.units
  have tk : L2M.Takes (cxOf (L2M.CX P w) P w K mg base N_BitReader_go "BitReader.go" (defScope s_BitReader_go) f cdv A outer s H E) (fun c d _ H2 => E c d H2) := L2M.takes_of rfl rfl rfl rfl
  exact (pss_cons (ps_if (PW.pt (pw_or (pt_not (pt_val (L2M.pe_clM G0 (hr.mono (by decide)) rfl T.g_is_number q0 b0 v0 tk (pa_cons (pv 1) pa_nil)))) (pw_or1 (pt_not (pt_chain op_leU op_leU (pe_int) (pv 1) (pe_op op_mulU (pe_gint rfl T.g_BYTE) (pe_callB cr_lenK (by rfl) T.f_len bb_len (pa_cons (pe_fld (pv 0) rfl) pa_nil)))))))) (pss_one (L2M.ps_rz rfl tk T.x_BadBits T.g_BadBits rfl)) pss_nil)
    (pss_one (ps_fld (pv 0) (pv 1) rfl)))
theorem wkH_BitReader_go {P : Program} {w : World} {K : PySem.W.Frag} {mg : Str → Option Value} {base : Heap} (T : Tx K mg) (O0 : ∃ fd, Binds K fd ["thing"] [] ∧ L2M.FnE P w K mg base (L2M.CX P w) 1 (He.fAd K ("is_number", none)) fd ["thing"] (fun _ _ _ => sp_is_number K) ∧ PySem.W.keepIn K (.ref (He.fAd K ("is_number", none))) = true) {f : Addr} {cdv : Value} {A : Around} {outer : List Env} {s : Shared} {H : Hp} {E : XK} {q : Addr × Obj} {qs : List (Addr × Obj)} (hot : L2M.HotL A q qs)
    (hr : RoomH 1 (A.deeper (envOfC "BitReader.go" (defScope s_BitReader_go) s.heap.objs.size f cdv))) :
    PSs (L2M.cxS (L2M.CX P w) P w K mg base N_BitReader_go "BitReader.go" (defScope s_BitReader_go) f cdv A outer s H E (q :: qs)) (defBody s_BitReader_go) (t_BitReader_go K (fun c d _ H2 => E c d H2)) := by
  have tkH : L2M.Takes (L2M.cxS (L2M.CX P w) P w K mg base N_BitReader_go "BitReader.go" (defScope s_BitReader_go) f cdv A outer s H E (q :: qs)) (fun c d _ H2 => E c d H2) := L2M.takes_of rfl rfl rfl rfl
  obtain ⟨fd0, b0, G0, q0⟩ := O0
  have hu64 : (A.deeper (envOfC "BitReader.go" (defScope s_BitReader_go) s.heap.objs.size f cdv)).units + 64 < cLine := by
    have z := hr.un
    omega
  exact (pss_cons (ps_if (PW.pt (pw_or (pt_not (pt_val (L2M.pe_clSW (fun _ _ _ _ h => h) G0 (hr.mono (by decide)) ⟨q, qs, hot.1, hot.2, fun _ z => z⟩ rfl T.g_is_number q0 b0 (pa_cons (pv 1) pa_nil)))) (pw_or1 (pt_not (pt_chain op_leU op_leU (pe_int) (pv 1) (pe_op op_mulU (pe_gint rfl T.g_BYTE) (pe_callB cr_lenK (by rfl) T.f_len bb_len (pa_cons (pe_fld (pv 0) rfl) pa_nil)))))))) (pss_one (L2M.ps_rzS ⟨q, qs, hot.1, hot.2, fun _ z => z⟩ tkH T.x_BadBits T.g_BadBits rfl)) pss_nil)
    (pss_one (ps_fld (pv 0) (pv 1) rfl)))
theorem okH_BitReader_go {P : Program} {w : World} {K : PySem.W.Frag} {mg : Str → Option Value} {base : Heap} (T : Tx K mg) : ∃ fd, Binds K fd ["self", "place"] [] ∧ L2M.FnE P w K mg base (L2M.CX P w) 2 (He.fAd K ("BitReader", some "go")) fd ["self", "place"] (fun _ _ _ => sp_BitReader_go K) ∧ PySem.W.keepIn K (.ref (He.fAd K ("BitReader", some "go"))) = true := by
  obtain ⟨fd, F⟩ := T.d_BitReader_go
  exact ⟨fd, FunD.bindsN F fun _ _ _ _ _ _ us hl => match us, hl with | [_, _], _ => rfl, L2M.okE F sc_BitReader_go (fun _ _ _ vs H Q E h => len_BitReader_go h) (fun cdv A outer s H vs Q E q qs _ _ hot _ hr h => ⟨t_BitReader_go K (fun c d _ H2 => E c d H2), wkH_BitReader_go T (okH_is_number T) hot hr, rd_BitReader_go (of_KBitReader T) h⟩), F.kp⟩
theorem fn_BitReader_go {P : Program} {w : World} {K : PySem.W.Frag} {mg : Str → Option Value} {base : Heap} (T : Tx K mg) {f : Addr} {fd : FuncData} (F : FunD K d_BitReader_go.name d_BitReader_go.qual d_BitReader_go.params d_BitReader_go.body d_BitReader_go.scope (d_BitReader_go.dvs K) (d_BitReader_go.kws K) f fd) :
    FnOk P w K mg base (L2M.CX P w) 2 f fd ["self", "place"] (sp_BitReader_go K) :=
  F.ok sc_BitReader_go (fun vs H Q E h => len_BitReader_go h) (fun cdv A outer s H vs Q E hr h => ⟨t_BitReader_go K (fun c d _ H2 => E c d H2), wk_BitReader_go T (ok_is_number_1 T) hr, rd_BitReader_go (of_KBitReader T) h⟩)
theorem ok_BitReader_go_2 {P : Program} {w : World} {K : PySem.W.Frag} {mg : Str → Option Value} {base : Heap} (T : Tx K mg) : L2M.DOk P w K mg base 2 (He.fAd K ("BitReader", some "go")) ["self", "place"] [] (sp_BitReader_go K) := by
  obtain ⟨fd, F⟩ := T.d_BitReader_go
  exact ⟨fd, [], .nil, FunD.bindsN F fun _ _ _ _ _ _ us hl => match us, hl with | [_, _], _ => rfl, fn_BitReader_go T F, F.kp⟩
abbrev N_take_table : List Str := ["reader", "place", "found"]
theorem sc_take_table : FnScope N_take_table ["reader"] (defScope s_take_table) := ⟨rfl, rfl, rfl, by decide +kernel, rfl, by decide +kernel, by decide +kernel⟩
theorem wk_take_table {P : Program} {w : World} {K : PySem.W.Frag} {mg : Str → Option Value} {base : Heap} (T : Tx K mg) (O0 : L2M.DOk P w K mg base 1 (He.fAd K ("BitReader", some "place")) ["self"] [] (sp_BitReader_place K)) (O1 : L2M.DOk P w K mg base 4 (He.fAd K ("items_read", none)) ["reader"] [] (sp_items_read K)) (O2 : ∃ fd, Binds K fd ["self", "place"] [] ∧ L2M.FnE P w K mg base (L2M.CX P w) 2 (He.fAd K ("BitReader", some "go")) fd ["self", "place"] (fun _ _ _ => sp_BitReader_go K) ∧ PySem.W.keepIn K (.ref (He.fAd K ("BitReader", some "go"))) = true) (O3 : L2M.DOk P w K mg base 2 (He.fAd K ("BitReader", some "go")) ["self", "place"] [] (sp_BitReader_go K)) {f : Addr} {cdv : Value} {A : Around} {outer : List Env} {s : Shared} {H : Hp} {E : XK} 
    (hr : Room 4 (A.deeper (envOfC "take_table" (defScope s_take_table) s.heap.objs.size f cdv))) :
    PSs (cxOf (L2M.CX P w) P w K mg base N_take_table "take_table" (defScope s_take_table) f cdv A outer s H E) (defBody s_take_table) (t_take_table K (fun c d _ H2 => E c d H2)) := by
  obtain ⟨fd0, ds0, v0, b0, G0, q0⟩ := O0
  obtain ⟨fd1, ds1, v1, b1, G1, q1⟩ := O1
  obtain ⟨fd2, b2, G2, q2⟩ := O2
  obtain ⟨fd3, ds3, v3, b3, G3, q3⟩ := O3
  have hu1 := hu_of hr
  have hu64 := hr.units
  have tk : L2M.Takes (cxOf (L2M.CX P w) P w K mg base N_take_table "take_table" (defScope s_take_table) f cdv A outer s H E) (fun c d _ H2 => E c d H2) := L2M.takes_of rfl rfl rfl rfl
  exact (pss_cons (ps_set (i := 1) sc_take_table.nd rfl (Or.inl rfl) (L2M.pe_mt0M (pv 0) T.c_BitReader T.m_BitReader_place G0 (hr.mono (by decide)) b0 v0 tk))
    (pss_cons (L2M.ps_tryE rfl rfl ⟨rfl, by decide, .inl T.g_NoBits⟩ (fun h => passesAt_of rfl h) tk (fun W pn xe tk po => (pss_one (ps_set (i := 2) sc_take_table.nd rfl (Or.inl rfl) (L2M.pe_clM G1 (hr.mono (by decide)) rfl T.g_items_read q1 b1 v1 tk (pa_cons (pv 0) pa_nil)))))
    (fun a cls d pn hc tkS => (pss_cons (ps_expr (L2M.pe_mtS (pv 0) T.c_BitReader T.m_BitReader_go G2 (roomMark (roomH_of (hr.mono (by decide)))) hc b2 (pa_cons (pv 1) pa_nil)))
    (pss_one (L2M.ps_rzS hc tkS T.x_NoBits T.g_NoBits rfl)))) pss_nil)
    (pss_cons (ps_if (pt_cmpR op_gtU (pe_callB cr_lenK (by rfl) T.f_len bb_len (pa_cons (pv 2) pa_nil)) (pe_gint rfl T.g_MANY) (nomark _)) (pss_cons (ps_expr (L2M.pe_mtM (pv 0) T.c_BitReader T.m_BitReader_go G3 (hr.mono (by decide)) b3 v3 tk (pa_cons (pv 1) pa_nil)))
    (pss_one (L2M.ps_rz rfl tk T.x_BadTable T.g_BadTable rfl))) pss_nil)
    (pss_one (ps_ret (pv 2))))))
theorem fn_take_table {P : Program} {w : World} {K : PySem.W.Frag} {mg : Str → Option Value} {base : Heap} (T : Tx K mg) {f : Addr} {fd : FuncData} (F : FunD K d_take_table.name d_take_table.qual d_take_table.params d_take_table.body d_take_table.scope (d_take_table.dvs K) (d_take_table.kws K) f fd) :
    FnOk P w K mg base (L2M.CX P w) 5 f fd ["reader"] (sp_take_table K) :=
  F.ok sc_take_table (fun vs H Q E h => len_take_table h) (fun cdv A outer s H vs Q E hr h => ⟨t_take_table K (fun c d _ H2 => E c d H2), wk_take_table T (ok_BitReader_place_1 T) (ok_items_read_1 T) (okH_BitReader_go T) (ok_BitReader_go_2 T) hr, rd_take_table (of_KTry1 T) h⟩)
theorem ok_take_table_1 {P : Program} {w : World} {K : PySem.W.Frag} {mg : Str → Option Value} {base : Heap} (T : Tx K mg) : L2M.DOk P w K mg base 5 (He.fAd K ("take_table", none)) ["reader"] [] (sp_take_table K) := by
  obtain ⟨fd, F⟩ := T.d_take_table
  exact ⟨fd, [], .nil, FunD.bindsN F fun _ _ _ _ _ _ us hl => match us, hl with | [_], _ => rfl, fn_take_table T F, F.kp⟩
abbrev N__law_taken : List Str := ["_law_reader", "_law_e"]
theorem sc__law_taken : FnScope N__law_taken ["_law_reader"] (defScope s__law_taken) := ⟨rfl, rfl, rfl, by decide +kernel, rfl, by decide +kernel, by decide +kernel⟩
theorem wk__law_taken {P : Program} {w : World} {K : PySem.W.Frag} {mg : Str → Option Value} {base : Heap} (T : Tx K mg) (O0 : L2M.DOk P w K mg base 5 (He.fAd K ("take_table", none)) ["reader"] [] (sp_take_table K)) (O1 : ∃ fd, Binds K fd ["_law_e"] [] ∧ L2M.FnE P w K mg base (L2M.CX P w) 1 (He.fAd K ("_law_word", none)) fd ["_law_e"] (sp__law_word K) ∧ PySem.W.keepIn K (.ref (He.fAd K ("_law_word", none))) = true) {f : Addr} {cdv : Value} {A : Around} {outer : List Env} {s : Shared} {H : Hp} {E : XK} 
    (hr : Room 5 (A.deeper (envOfC "_law_taken" (defScope s__law_taken) s.heap.objs.size f cdv))) :
    PSs (cxOf (L2M.CX P w) P w K mg base N__law_taken "_law_taken" (defScope s__law_taken) f cdv A outer s H E) (defBody s__law_taken) (t__law_taken K (fun c d _ H2 => E c d H2)) := by
  obtain ⟨fd0, ds0, v0, b0, G0, q0⟩ := O0
  obtain ⟨fd1, b1, G1, q1⟩ := O1
  have hu1 := hu_of hr
  have hu64 := hr.units
  have tk : L2M.Takes (cxOf (L2M.CX P w) P w K mg base N__law_taken "_law_taken" (defScope s__law_taken) f cdv A outer s H E) (fun c d _ H2 => E c d H2) := L2M.takes_of rfl rfl rfl rfl
  exact (pss_one (L2M.ps_tryAs rfl rfl sc__law_taken.nd rfl rfl ⟨rfl, by decide, .inl T.g_PressError⟩ tk (fun W pn xe tk po => (pss_one (ps_ret (L2M.pe_clM G0 (hr.mono (by decide)) rfl T.g_take_table q0 b0 v0 tk (pa_cons (pv 0) pa_nil)))))
    (fun a oe cls d qs pn hz hf => (pss_one (ps_ret (L2M.pe_clE G1 (roomH_of (hr.mono (by decide))) hz rfl T.g__law_word q1 b1 (pa_cons (pv 1) pa_nil)))))))
theorem fn__law_taken {P : Program} {w : World} {K : PySem.W.Frag} {mg : Str → Option Value} {base : Heap} (T : Tx K mg) {f : Addr} {fd : FuncData} (F : FunD K d__law_taken.name d__law_taken.qual d__law_taken.params d__law_taken.body d__law_taken.scope (d__law_taken.dvs K) (d__law_taken.kws K) f fd) :
    FnOk P w K mg base (L2M.CX P w) 6 f fd ["_law_reader"] (sp__law_taken K) :=
  F.ok sc__law_taken (fun vs H Q E h => len__law_taken h) (fun cdv A outer s H vs Q E hr h => ⟨t__law_taken K (fun c d _ H2 => E c d H2), wk__law_taken T (ok_take_table_1 T) (ok__law_word_1 T) hr, rd__law_taken (of_KWBadTable T) (of_KWNoBits T) h⟩)
theorem ok__law_taken_1 {P : Program} {w : World} {K : PySem.W.Frag} {mg : Str → Option Value} {base : Heap} (T : Tx K mg) : L2M.DOk P w K mg base 6 (He.fAd K ("_law_taken", none)) ["_law_reader"] [] (sp__law_taken K) := by
  obtain ⟨fd, F⟩ := T.d__law_taken
  exact ⟨fd, [], .nil, FunD.bindsN F fun _ _ _ _ _ _ us hl => match us, hl with | [_], _ => rfl, fn__law_taken T F, F.kp⟩
abbrev N__law_taking_right : List Str := ["_law_bits", "_law_due", "_law_lead", "_law_row", "_law_reader", "_law_first", "_law_left", "_law_turn", "_law_other", "_law_size"]
theorem sc__law_taking_right : FnScope N__law_taking_right ["_law_bits", "_law_due", "_law_lead"] (defScope s__law_taking_right) := ⟨rfl, rfl, rfl, by decide +kernel, rfl, by decide +kernel, by decide +kernel⟩
theorem wk__law_taking_right {P : Program} {w : World} {K : PySem.W.Frag} {mg : Str → Option Value} {base : Heap} (T : Tx K mg) (O0 : L2M.DOk P w K mg base 1 (He.fAd K ("BitRow", some "row")) ["self"] [] (sp_BitRow_row K)) (O1 : L2M.DOk P w K mg base 4 (He.fAd K ("BitReader", some "__init__")) ["self", "row"] [] (sp_BitReader___init__ K)) (O2 : L2M.DOk P w K mg base 3 (He.fAd K ("BitReader", some "take")) ["self", "size"] [] (sp_BitReader_take K)) (O3 : L2M.DOk P w K mg base 1 (He.fAd K ("BitReader", some "left")) ["self"] [] (sp_BitReader_left K)) (O4 : L2M.DOk P w K mg base 6 (He.fAd K ("_law_taken", none)) ["_law_reader"] [] (sp__law_taken K)) {f : Addr} {cdv : Value} {A : Around} {outer : List Env} {s : Shared} {H : Hp} {E : XK} 
    (hr : Room 6 (A.deeper (envOfC "_law_taking_right" (defScope s__law_taking_right) s.heap.objs.size f cdv))) :
    PSs (cxOf (L2M.CX P w) P w K mg base N__law_taking_right "_law_taking_right" (defScope s__law_taking_right) f cdv A outer s H E) (defBody s__law_taking_right) (t__law_taking_right K (fun c d _ H2 => E c d H2)) := by
  obtain ⟨fd0, ds0, v0, b0, G0, q0⟩ := O0
  obtain ⟨fd1, ds1, v1, b1, G1, q1⟩ := O1
  obtain ⟨fd2, ds2, v2, b2, G2, q2⟩ := O2
  obtain ⟨fd3, ds3, v3, b3, G3, q3⟩ := O3
  obtain ⟨fd4, ds4, v4, b4, G4, q4⟩ := O4
  have hu1 := hu_of hr
  have hu64 := hr.units
  have tk : L2M.Takes (cxOf (L2M.CX P w) P w K mg base N__law_taking_right "_law_taking_right" (defScope s__law_taking_right) f cdv A outer s H E) (fun c d _ H2 => E c d H2) := L2M.takes_of rfl rfl rfl rfl
  exact (pss_cons (ps_set (i := 3) sc__law_taking_right.nd rfl (Or.inl rfl) (L2M.pe_mt0M (pv 0) T.c_BitRow T.m_BitRow_row G0 (hr.mono (by decide)) b0 v0 tk))
    (pss_cons (ps_set (i := 4) sc__law_taking_right.nd rfl (Or.inl rfl) (L2M.pe_mkM T.k_BitReader G1 (hr.mono (by decide)) rfl T.g_BitReader b1 v1 tk (pa_cons (pv 3) pa_nil)))
    (pss_cons (ps_set (i := 5) sc__law_taking_right.nd rfl (Or.inl rfl) (L2M.pe_mtM (pv 4) T.c_BitReader T.m_BitReader_take G2 (hr.mono (by decide)) b2 v2 tk (pa_cons (pv 2) pa_nil)))
    (pss_cons (ps_set (i := 6) sc__law_taking_right.nd rfl (Or.inl rfl) (L2M.pe_mt0M (pv 4) T.c_BitReader T.m_BitReader_left G3 (hr.mono (by decide)) b3 v3 tk))
    (pss_cons (ps_for (passes_of rfl) rfl (pi_range1 rfl T.f_range (pa_cons (pe_int) pa_nil)) (pg_name (i := 7) sc__law_taking_right.nd rfl (Or.inl rfl)) (pss_one (ps_if (PW.pt (pw_or (pt_cmpR (op_neU hu64) (L2M.pe_clM G4 (hr.mono (by decide)) rfl T.g__law_taken q4 b4 v4 tk (pa_cons (pv 4) pa_nil)) (pv 1) (nomark _)) (pw_or1 (pt_cmpR (op_neU hu64) (L2M.pe_mt0M (pv 4) T.c_BitReader T.m_BitReader_left G3 (hr.mono (by decide)) b3 v3 tk) (pv 6) (nomark _))))) (pss_one (ps_ret (pe_bl))) pss_nil)))
    (pss_cons (ps_set (i := 8) sc__law_taking_right.nd rfl (Or.inl rfl) (L2M.pe_mkM T.k_BitReader G1 (hr.mono (by decide)) rfl T.g_BitReader b1 v1 tk (pa_cons (pv 3) pa_nil)))
    (pss_cons (ps_if (pt_cmpR (op_neU hu64) (L2M.pe_mtM (pv 8) T.c_BitReader T.m_BitReader_take G2 (hr.mono (by decide)) b2 v2 tk (pa_cons (pv 2) pa_nil)) (pv 5) (nomark _)) (pss_one (ps_ret (pe_bl))) pss_nil)
    (pss_cons (ps_while (passes_of rfl) (pt_cmpR op_gtU (L2M.pe_mt0M (pv 8) T.c_BitReader T.m_BitReader_left G3 (hr.mono (by decide)) b3 v3 tk) (pe_int) (nomark _)) (pss_cons (ps_set (i := 9) sc__law_taking_right.nd rfl (Or.inl rfl) (pe_callB (cr_min2K rfl) (by rfl) T.f_min bb_min (pa_cons (L2M.pe_mt0M (pv 8) T.c_BitReader T.m_BitReader_left G3 (hr.mono (by decide)) b3 v3 tk) (pa_cons (pe_int) pa_nil))))
    (pss_one (ps_if (pt_cmpR (op_neU hu64) (L2M.pe_mtM (pv 4) T.c_BitReader T.m_BitReader_take G2 (hr.mono (by decide)) b2 v2 tk (pa_cons (pv 9) pa_nil)) (L2M.pe_mtM (pv 8) T.c_BitReader T.m_BitReader_take G2 (hr.mono (by decide)) b2 v2 tk (pa_cons (pv 9) pa_nil)) (nomark _)) (pss_one (ps_ret (pe_bl))) pss_nil))))
    (pss_one (ps_ret (pe_cmpR (op_eqU hu64) (L2M.pe_mt0M (pv 4) T.c_BitReader T.m_BitReader_left G3 (hr.mono (by decide)) b3 v3 tk) (pe_int) (nomark _))))))))))))
theorem fn__law_taking_right {P : Program} {w : World} {K : PySem.W.Frag} {mg : Str → Option Value} {base : Heap} (T : Tx K mg) {f : Addr} {fd : FuncData} (F : FunD K d__law_taking_right.name d__law_taking_right.qual d__law_taking_right.params d__law_taking_right.body d__law_taking_right.scope (d__law_taking_right.dvs K) (d__law_taking_right.kws K) f fd) :
    FnOk P w K mg base (L2M.CX P w) 7 f fd ["_law_bits", "_law_due", "_law_lead"] (sp__law_taking_right K) :=
  F.ok sc__law_taking_right (fun vs H Q E h => len__law_taking_right h) (fun cdv A outer s H vs Q E hr h => ⟨t__law_taking_right K (fun c d _ H2 => E c d H2), wk__law_taking_right T (ok_BitRow_row_1 T) (ok_BitReader___init___2 T) (ok_BitReader_take_2 T) (ok_BitReader_left_1 T) (ok__law_taken_1 T) hr, rd__law_taking_right (of_KBitReader T) h⟩)
theorem ok__law_taking_right_3 {P : Program} {w : World} {K : PySem.W.Frag} {mg : Str → Option Value} {base : Heap} (T : Tx K mg) : L2M.DOk P w K mg base 7 (He.fAd K ("_law_taking_right", none)) ["_law_bits", "_law_due", "_law_lead"] [] (sp__law_taking_right K) := by
  obtain ⟨fd, F⟩ := T.d__law_taking_right
  exact ⟨fd, [], .nil, FunD.bindsN F fun _ _ _ _ _ _ us hl => match us, hl with | [_, _, _], _ => rfl, fn__law_taking_right T F, F.kp⟩
abbrev N__law_too_many : List Str := ["_law_number", "_law_bits", "_law_room", "_law_more"]
theorem sc__law_too_many : FnScope N__law_too_many ["_law_number"] (defScope s__law_too_many) := ⟨rfl, rfl, rfl, by decide +kernel, rfl, by decide +kernel, by decide +kernel⟩
theorem wk__law_too_many {P : Program} {w : World} {K : PySem.W.Frag} {mg : Str → Option Value} {base : Heap} (T : Tx K mg) (O0 : L2M.DOk P w K mg base 1 (He.fAd K ("BitRow", some "__init__")) ["self"] [] (sp_BitRow___init__ K)) (O1 : L2M.DOk P w K mg base 3 (He.fAd K ("BitRow", some "put")) ["self", "number", "size"] [] (sp_BitRow_put K)) {f : Addr} {cdv : Value} {A : Around} {outer : List Env} {s : Shared} {H : Hp} {E : XK} 
    (hr : Room 3 (A.deeper (envOfC "_law_too_many" (defScope s__law_too_many) s.heap.objs.size f cdv))) :
    PSs (cxOf (L2M.CX P w) P w K mg base N__law_too_many "_law_too_many" (defScope s__law_too_many) f cdv A outer s H E) (defBody s__law_too_many) (t__law_too_many K (fun c d _ H2 => E c d H2)) := by
  obtain ⟨fd0, ds0, v0, b0, G0, q0⟩ := O0
  obtain ⟨fd1, ds1, v1, b1, G1, q1⟩ := O1
  have hu1 := hu_of hr
  have hu64 := hr.units
  have tk : L2M.Takes (cxOf (L2M.CX P w) P w K mg base N__law_too_many "_law_too_many" (defScope s__law_too_many) f cdv A outer s H E) (fun c d _ H2 => E c d H2) := L2M.takes_of rfl rfl rfl rfl
  exact (pss_cons (ps_set (i := 1) sc__law_too_many.nd rfl (Or.inl rfl) (L2M.pe_mk0M T.k_BitRow G0 (hr.mono (by decide)) rfl T.g_BitRow b0 v0 tk))
    (pss_cons (ps_expr (L2M.pe_mtM (pv 1) T.c_BitRow T.m_BitRow_put G1 (hr.mono (by decide)) b1 v1 tk (pa_cons (pe_op op_modU (pv 0) (pe_int)) (pa_cons (pe_int) pa_nil))))
    (pss_cons (ps_set (i := 2) sc__law_too_many.nd rfl (Or.inl rfl) (pe_int))
    (pss_cons (ps_while (passes_of rfl) (pt_cmpR op_gtU (pv 2) (pe_op op_addU (pe_int) (pe_op op_modU (pe_op op_divU (pv 0) (pe_int)) (pe_int))) (nomark _)) (pss_cons (ps_set (i := 0) sc__law_too_many.nd rfl (Or.inl rfl) (pe_op op_modU (pe_op op_mulU (pv 0) (pe_int)) (pe_int)))
    (pss_cons (ps_set (i := 3) sc__law_too_many.nd rfl (Or.inl rfl) (pe_callB (cr_min2K rfl) (by rfl) T.f_min bb_min (pa_cons (pe_op op_subU (pv 2) (pe_int)) (pa_cons (pe_op op_addU (pe_int) (pe_op op_modU (pv 0) (pe_int))) pa_nil))))
    (pss_cons (ps_expr (L2M.pe_mtM (pv 1) T.c_BitRow T.m_BitRow_put G1 (hr.mono (by decide)) b1 v1 tk (pa_cons (pe_int) (pa_cons (pe_int) pa_nil))))
    (pss_cons (ps_expr (L2M.pe_mtM (pv 1) T.c_BitRow T.m_BitRow_put G1 (hr.mono (by decide)) b1 v1 tk (pa_cons (pe_op op_subU (pv 3) (pe_int)) (pa_cons (pe_int) pa_nil))))
    (pss_one (ps_aug (i := 2) sc__law_too_many.nd rfl (Or.inl rfl) (pv 3) ip_subU)))))))
    (pss_cons (ps_while (passes_of rfl) (PW.pt (pw_or (pt_cmpR op_gtU (pv 2) (pe_int) (nomark _)) (pw_or1 (PW.pt (pw_and (pt_cmpR op_gtU (pv 2) (pe_int) (nomark _)) (pw_and1 (pt_cmpR op_gtU (pe_op op_modU (pe_op op_divU (pv 0) (pe_int)) (pe_int)) (pe_int) (nomark _)))))))) (pss_cons (ps_expr (L2M.pe_mtM (pv 1) T.c_BitRow T.m_BitRow_put G1 (hr.mono (by decide)) b1 v1 tk (pa_cons (pe_op op_modU (pv 0) (pe_int)) (pa_cons (pe_int) pa_nil))))
    (pss_cons (ps_aug (i := 2) sc__law_too_many.nd rfl (Or.inl rfl) (pe_int) ip_subU)
    (pss_one (ps_set (i := 0) sc__law_too_many.nd rfl (Or.inl rfl) (pe_op op_addU (pe_op op_divU (pv 0) (pe_int)) (pe_int)))))))
    (pss_cons (ps_expr (L2M.pe_mtM (pv 1) T.c_BitRow T.m_BitRow_put G1 (hr.mono (by decide)) b1 v1 tk (pa_cons (pe_int) (pa_cons (pe_int) pa_nil))))
    (pss_cons (ps_expr (L2M.pe_mtM (pv 1) T.c_BitRow T.m_BitRow_put G1 (hr.mono (by decide)) b1 v1 tk (pa_cons (pe_op op_addU (pe_callB (cr_max2K rfl) (by rfl) T.f_max bb_max (pa_cons (pe_op op_subU (pv 2) (pe_int)) (pa_cons (pe_int) pa_nil))) (pe_op op_modU (pe_op op_divU (pv 0) (pe_int)) (pe_op op_subU (pe_int) (pe_callB (cr_max2K rfl) (by rfl) T.f_max bb_max (pa_cons (pe_op op_subU (pv 2) (pe_int)) (pa_cons (pe_int) pa_nil)))))) (pa_cons (pe_int) pa_nil))))
    (pss_one (ps_ret (pv 1))))))))))
theorem fn__law_too_many {P : Program} {w : World} {K : PySem.W.Frag} {mg : Str → Option Value} {base : Heap} (T : Tx K mg) {f : Addr} {fd : FuncData} (F : FunD K d__law_too_many.name d__law_too_many.qual d__law_too_many.params d__law_too_many.body d__law_too_many.scope (d__law_too_many.dvs K) (d__law_too_many.kws K) f fd) :
    FnOk P w K mg base (L2M.CX P w) 4 f fd ["_law_number"] (sp__law_too_many K) :=
  F.ok sc__law_too_many (fun vs H Q E h => len__law_too_many h) (fun cdv A outer s H vs Q E hr h => ⟨t__law_too_many K (fun c d _ H2 => E c d H2), wk__law_too_many T (ok_BitRow___init___1 T) (ok_BitRow_put_3 T) hr, rd__law_too_many  h⟩)
theorem ok__law_too_many_1 {P : Program} {w : World} {K : PySem.W.Frag} {mg : Str → Option Value} {base : Heap} (T : Tx K mg) : L2M.DOk P w K mg base 4 (He.fAd K ("_law_too_many", none)) ["_law_number"] [] (sp__law_too_many K) := by
  obtain ⟨fd, F⟩ := T.d__law_too_many
  exact ⟨fd, [], .nil, FunD.bindsN F fun _ _ _ _ _ _ us hl => match us, hl with | [_], _ => rfl, fn__law_too_many T F, F.kp⟩
abbrev N__law_cut : List Str := ["_law_table_here", "_law_number", "_law_bits", "_law_row", "_law_many", "_law_cut_here", "_law_byte"]
theorem sc__law_cut : FnScope N__law_cut ["_law_table_here", "_law_number"] (defScope s__law_cut) := ⟨rfl, rfl, rfl, by decide +kernel, rfl, by decide +kernel, by decide +kernel⟩
theorem wk__law_cut {P : Program} {w : World} {K : PySem.W.Frag} {mg : Str → Option Value} {base : Heap} (T : Tx K mg) (O0 : L2M.DOk P w K mg base 1 (He.fAd K ("BitRow", some "__init__")) ["self"] [] (sp_BitRow___init__ K)) (O1 : L2M.DOk P w K mg base 4 (He.fAd K ("put_table", none)) ["bits", "lengths"] [] (sp_put_table K)) (O2 : L2M.DOk P w K mg base 1 (He.fAd K ("BitRow", some "row")) ["self"] [] (sp_BitRow_row K)) (O3 : L2M.DOk P w K mg base 3 (He.fAd K ("BitRow", some "put")) ["self", "number", "size"] [] (sp_BitRow_put K)) {f : Addr} {cdv : Value} {A : Around} {outer : List Env} {s : Shared} {H : Hp} {E : XK} 
    (hr : Room 4 (A.deeper (envOfC "_law_cut" (defScope s__law_cut) s.heap.objs.size f cdv))) :
    PSs (cxOf (L2M.CX P w) P w K mg base N__law_cut "_law_cut" (defScope s__law_cut) f cdv A outer s H E) (defBody s__law_cut) (t__law_cut K (fun c d _ H2 => E c d H2)) := by
  obtain ⟨fd0, ds0, v0, b0, G0, q0⟩ := O0
  obtain ⟨fd1, ds1, v1, b1, G1, q1⟩ := O1
  obtain ⟨fd2, ds2, v2, b2, G2, q2⟩ := O2
  obtain ⟨fd3, ds3, v3, b3, G3, q3⟩ := O3
  have hu1 := hu_of hr
  have hu64 := hr.units
  have tk : L2M.Takes (cxOf (L2M.CX P w) P w K mg base N__law_cut "_law_cut" (defScope s__law_cut) f cdv A outer s H E) (fun c d _ H2 => E c d H2) := L2M.takes_of rfl rfl rfl rfl
  exact (pss_cons (ps_set (i := 2) sc__law_cut.nd rfl (Or.inl rfl) (L2M.pe_mk0M T.k_BitRow G0 (hr.mono (by decide)) rfl T.g_BitRow b0 v0 tk))
    (pss_cons (ps_expr (L2M.pe_clM G1 (hr.mono (by decide)) rfl T.g_put_table q1 b1 v1 tk (pa_cons (pv 2) (pa_cons (pv 0) pa_nil))))
    (pss_cons (ps_set (i := 3) sc__law_cut.nd rfl (Or.inl rfl) (L2M.pe_mt0M (pv 2) T.c_BitRow T.m_BitRow_row G2 (hr.mono (by decide)) b2 v2 tk))
    (pss_cons (ps_set (i := 4) sc__law_cut.nd rfl (Or.inl rfl) (pe_op op_modU (pv 1) (pe_callB cr_lenK (by rfl) T.f_len bb_len (pa_cons (pv 3) pa_nil))))
    (pss_cons (ps_set (i := 5) sc__law_cut.nd rfl (Or.inl rfl) (L2M.pe_mk0M T.k_BitRow G0 (hr.mono (by decide)) rfl T.g_BitRow b0 v0 tk))
    (pss_cons (ps_for (passes_of rfl) rfl (pi_list (pe_slice sl_K (pv 3) po_none (po_some (pv 4)))) (pg_name (i := 6) sc__law_cut.nd rfl (Or.inl rfl)) (pss_one (ps_expr (L2M.pe_mtM (pv 5) T.c_BitRow T.m_BitRow_put G3 (hr.mono (by decide)) b3 v3 tk (pa_cons (pv 6) (pa_cons (pe_int) pa_nil))))))
    (pss_one (ps_ret (pv 5)))))))))
theorem fn__law_cut {P : Program} {w : World} {K : PySem.W.Frag} {mg : Str → Option Value} {base : Heap} (T : Tx K mg) {f : Addr} {fd : FuncData} (F : FunD K d__law_cut.name d__law_cut.qual d__law_cut.params d__law_cut.body d__law_cut.scope (d__law_cut.dvs K) (d__law_cut.kws K) f fd) :
    FnOk P w K mg base (L2M.CX P w) 5 f fd ["_law_table_here", "_law_number"] (sp__law_cut K) :=
  F.ok sc__law_cut (fun vs H Q E h => len__law_cut h) (fun cdv A outer s H vs Q E hr h => ⟨t__law_cut K (fun c d _ H2 => E c d H2), wk__law_cut T (ok_BitRow___init___1 T) (ok_put_table_2 T) (ok_BitRow_row_1 T) (ok_BitRow_put_3 T) hr, rd__law_cut  h⟩)
theorem ok__law_cut_2 {P : Program} {w : World} {K : PySem.W.Frag} {mg : Str → Option Value} {base : Heap} (T : Tx K mg) : L2M.DOk P w K mg base 5 (He.fAd K ("_law_cut", none)) ["_law_table_here", "_law_number"] [] (sp__law_cut K) := by
  obtain ⟨fd, F⟩ := T.d__law_cut
  exact ⟨fd, [], .nil, FunD.bindsN F fun _ _ _ _ _ _ us hl => match us, hl with | [_, _], _ => rfl, fn__law_cut T F, F.kp⟩
abbrev N__law_ended : List Str := ["_law_number", "_law_some", "_law_one", "_law_size", "_law_lead", "_law_bits"]
theorem sc__law_ended : FnScope N__law_ended ["_law_number"] (defScope s__law_ended) := ⟨rfl, rfl, rfl, by decide +kernel, rfl, by decide +kernel, by decide +kernel⟩
theorem wk__law_ended {P : Program} {w : World} {K : PySem.W.Frag} {mg : Str → Option Value} {base : Heap} (T : Tx K mg) (O0 : L2M.DOk P w K mg base 1 (He.fAd K ("BitRow", some "__init__")) ["self"] [] (sp_BitRow___init__ K)) (O1 : L2M.DOk P w K mg base 3 (He.fAd K ("BitRow", some "put")) ["self", "number", "size"] [] (sp_BitRow_put K)) {f : Addr} {cdv : Value} {A : Around} {outer : List Env} {s : Shared} {H : Hp} {E : XK} 
    (hr : Room 3 (A.deeper (envOfC "_law_ended" (defScope s__law_ended) s.heap.objs.size f cdv))) :
    PSs (cxOf (L2M.CX P w) P w K mg base N__law_ended "_law_ended" (defScope s__law_ended) f cdv A outer s H E) (defBody s__law_ended) (t__law_ended K (fun c d _ H2 => E c d H2)) := by
  obtain ⟨fd0, ds0, v0, b0, G0, q0⟩ := O0
  obtain ⟨fd1, ds1, v1, b1, G1, q1⟩ := O1
  have hu1 := hu_of hr
  have hu64 := hr.units
  have tk : L2M.Takes (cxOf (L2M.CX P w) P w K mg base N__law_ended "_law_ended" (defScope s__law_ended) f cdv A outer s H E) (fun c d _ H2 => E c d H2) := L2M.takes_of rfl rfl rfl rfl
  exact (pss_cons (ps_set (i := 1) sc__law_ended.nd rfl (Or.inl rfl) (pe_op op_addU (pe_op op_addU (pe_op op_addU (pe_lst (pa_cons (pe_tup (pa_cons (pe_op op_modU (pv 0) (pe_int)) (pa_cons (pe_int) pa_nil))) pa_nil)) (pe_op op_mulU (pe_lst (pa_cons (pe_tup (pa_cons (pe_int) (pa_cons (pe_int) pa_nil))) (pa_cons (pe_tup (pa_cons (pe_int) (pa_cons (pe_int) pa_nil))) pa_nil))) (pe_int))) (pe_op op_mulU (pe_lst (pa_cons (pe_tup (pa_cons (pe_op op_modU (pe_op op_divU (pv 0) (pe_int)) (pe_int)) (pa_cons (pe_int) pa_nil))) pa_nil)) (pe_op op_subU (pe_int) (pe_op op_modU (pe_op op_divU (pv 0) (pe_int)) (pe_int))))) (pe_lst (pa_cons (pe_tup (pa_cons (pe_int) (pa_cons (pe_int) pa_nil))) pa_nil))))
    (pss_cons (ps_aug (i := 1) sc__law_ended.nd rfl (Or.inl rfl) (pe_op op_mulU (pe_lst (pa_cons (pe_tup (pa_cons (pe_op op_modU (pe_op op_divU (pv 0) (pe_int)) (pe_int)) (pa_cons (pe_int) pa_nil))) pa_nil)) (pe_op op_modU (pe_op op_divU (pv 0) (pe_int)) (pe_int))) ip_addU)
    (pss_cons (ps_set (i := 4) sc__law_ended.nd rfl (Or.inl rfl) (pe_op op_modU (pe_un un_negU (pe_callB (cr_sum rfl) (by rfl) T.f_sum bb_sum (pa_cons (pe_lc (own := [("_law_one", 2), ("_law_size", 3)]) rfl sc__law_ended.nd (pi_list (pv 1)) (blkOk_by (own := [("_law_one", 2), ("_law_size", 3)]) (N := N__law_ended) (sc := defScope s__law_ended) (by decide +kernel)) (fun _ _ _ _ _ => (pg_tup rfl (pgs_cons (pg_name (i := 2) sc__law_ended.nd rfl (Or.inl rfl)) (pgs_cons (pg_name (i := 3) sc__law_ended.nd rfl (Or.inl rfl)) pgs_nil)))) (fun _ _ _ _ _ => pts_nil) (fun _ _ _ _ _ => (pv 3))) pa_nil))) (pe_int)))
    (pss_cons (ps_set (i := 5) sc__law_ended.nd rfl (Or.inl rfl) (L2M.pe_mk0M T.k_BitRow G0 (hr.mono (by decide)) rfl T.g_BitRow b0 v0 tk))
    (pss_cons (ps_expr (L2M.pe_mtM (pv 5) T.c_BitRow T.m_BitRow_put G1 (hr.mono (by decide)) b1 v1 tk (pa_cons (pe_int) (pa_cons (pv 4) pa_nil))))
    (pss_cons (ps_for (passes_of rfl) rfl (pi_list (pv 1)) (pg_tup rfl (pgs_cons (pg_name (i := 2) sc__law_ended.nd rfl (Or.inl rfl)) (pgs_cons (pg_name (i := 3) sc__law_ended.nd rfl (Or.inl rfl)) pgs_nil))) (pss_one (ps_expr (L2M.pe_mtM (pv 5) T.c_BitRow T.m_BitRow_put G1 (hr.mono (by decide)) b1 v1 tk (pa_cons (pv 2) (pa_cons (pv 3) pa_nil))))))
    (pss_one (ps_ret (pe_tup (pa_cons (pv 5) (pa_cons (pv 4) pa_nil)))))))))))
theorem fn__law_ended {P : Program} {w : World} {K : PySem.W.Frag} {mg : Str → Option Value} {base : Heap} (T : Tx K mg) {f : Addr} {fd : FuncData} (F : FunD K d__law_ended.name d__law_ended.qual d__law_ended.params d__law_ended.body d__law_ended.scope (d__law_ended.dvs K) (d__law_ended.kws K) f fd) :
    FnOk P w K mg base (L2M.CX P w) 4 f fd ["_law_number"] (sp__law_ended K) :=
  F.ok sc__law_ended (fun vs H Q E h => len__law_ended h) (fun cdv A outer s H vs Q E hr h => ⟨t__law_ended K (fun c d _ H2 => E c d H2), wk__law_ended T (ok_BitRow___init___1 T) (ok_BitRow_put_3 T) hr, rd__law_ended  h⟩)
theorem ok__law_ended_1 {P : Program} {w : World} {K : PySem.W.Frag} {mg : Str → Option Value} {base : Heap} (T : Tx K mg) : L2M.DOk P w K mg base 4 (He.fAd K ("_law_ended", none)) ["_law_number"] [] (sp__law_ended K) := by
  obtain ⟨fd, F⟩ := T.d__law_ended
  exact ⟨fd, [], .nil, FunD.bindsN F fun _ _ _ _ _ _ us hl => match us, hl with | [_], _ => rfl, fn__law_ended T F, F.kp⟩
abbrev N_law : List Str := ["_law_script", "_law_table_here", "_law_k", "_law_number", "_law_bits", "_law_many", "_law_lead", "_law_turn"]
theorem sc_law : FnScope N_law ["_law_script"] (defScope s_law) := ⟨rfl, rfl, rfl, by decide +kernel, rfl, by decide +kernel, by decide +kernel⟩
theorem wk_law {P : Program} {w : World} {K : PySem.W.Frag} {mg : Str → Option Value} {base : Heap} (T : Tx K mg) (O0 : L2M.DOk P w K mg base 2 (He.fAd K ("_law_table", none)) ["_law_script", "_law_first"] [] (sp__law_table K)) (O1 : L2G.DOk P w K mg base 6 (He.fAd K ("_law_put_right", none)) ["_law_table_here", "_law_number"] [] (sp__law_put_right K)) (O2 : L2M.DOk P w K mg base 1 (He.fAd K ("_law_mixed", none)) ["_law_cell", "_law_k"] [] (sp__law_mixed K)) (O3 : L2M.DOk P w K mg base 1 (He.fAd K ("_law_cell_at", none)) ["_law_script", "_law_k"] [] (sp__law_cell_at K)) (O4 : L2M.DOk P w K mg base 7 (He.fAd K ("_law_taking_right", none)) ["_law_bits", "_law_due", "_law_lead"] [] (sp__law_taking_right K)) (O5 : L2M.DOk P w K mg base 4 (He.fAd K ("_law_too_many", none)) ["_law_number"] [] (sp__law_too_many K)) (O6 : L2M.DOk P w K mg base 5 (He.fAd K ("_law_cut", none)) ["_law_table_here", "_law_number"] [] (sp__law_cut K)) (O7 : L2M.DOk P w K mg base 4 (He.fAd K ("_law_ended", none)) ["_law_number"] [] (sp__law_ended K)) (O8 : L2M.DOk P w K mg base 1 (He.fAd K ("BitRow", some "__init__")) ["self"] [] (sp_BitRow___init__ K)) (O9 : L2M.DOk P w K mg base 3 (He.fAd K ("BitRow", some "put")) ["self", "number", "size"] [] (sp_BitRow_put K)) {f : Addr} {cdv : Value} {A : Around} {outer : List Env} {s : Shared} {H : Hp} {E : XK} (hG0 : A.guards = some [])
    (hr : Room 7 (A.deeper (envOfC "law" (defScope s_law) s.heap.objs.size f cdv))) :
    PSs (cxOf (L2M.CX P w) P w K mg base N_law "law" (defScope s_law) f cdv A outer s H E) (defBody s_law) (t_law K (fun c d _ H2 => E c d H2)) := by
  obtain ⟨fd0, ds0, v0, b0, G0, q0⟩ := O0
  obtain ⟨fd1, ds1, v1, b1, G1, q1⟩ := O1
  obtain ⟨fd2, ds2, v2, b2, G2, q2⟩ := O2
  obtain ⟨fd3, ds3, v3, b3, G3, q3⟩ := O3
  obtain ⟨fd4, ds4, v4, b4, G4, q4⟩ := O4
  obtain ⟨fd5, ds5, v5, b5, G5, q5⟩ := O5
  obtain ⟨fd6, ds6, v6, b6, G6, q6⟩ := O6
  obtain ⟨fd7, ds7, v7, b7, G7, q7⟩ := O7
  obtain ⟨fd8, ds8, v8, b8, G8, q8⟩ := O8
  obtain ⟨fd9, ds9, v9, b9, G9, q9⟩ := O9
  have hu1 := hu_of hr
  have hu64 := hr.units
  have tk : L2M.Takes (cxOf (L2M.CX P w) P w K mg base N_law "law" (defScope s_law) f cdv A outer s H E) (fun c d _ H2 => E c d H2) := L2M.takes_of rfl rfl rfl rfl
  have hG : (cxOf (L2M.CX P w) P w K mg base N_law "law" (defScope s_law) f cdv A outer s H E).A.guards = some [] := hG0
  exact (pss_cons (ps_set (i := 1) sc_law.nd rfl (Or.inl rfl) (L2M.pe_clM G0 (hr.mono (by decide)) rfl T.g__law_table q0 b0 v0 tk (pa_cons (pv 0) (pa_cons (pe_int) pa_nil))))
    (pss_cons (ps_for (passes_of rfl) rfl (pi_range1 rfl T.f_range (pa_cons (pe_int) pa_nil)) (pg_name (i := 2) sc_law.nd rfl (Or.inl rfl)) (pss_one (ps_if (pt_not (pt_val (L2G.pe_clG G1 (hr.mono (by decide)) hG rfl T.g__law_put_right q1 b1 v1 tk (pa_cons (pv 1) (pa_cons (L2M.pe_clM G2 (hr.mono (by decide)) rfl T.g__law_mixed q2 b2 v2 tk (pa_cons (L2M.pe_clM G3 (hr.mono (by decide)) rfl T.g__law_cell_at q3 b3 v3 tk (pa_cons (pv 0) (pa_cons (pe_op op_addU (pe_int) (pv 2)) pa_nil))) (pa_cons (pv 2) pa_nil))) pa_nil))))) (pss_one (ps_ret (pe_bl))) pss_nil)))
    (pss_cons (ps_set (i := 3) sc_law.nd rfl (Or.inl rfl) (L2M.pe_clM G2 (hr.mono (by decide)) rfl T.g__law_mixed q2 b2 v2 tk (pa_cons (L2M.pe_clM G3 (hr.mono (by decide)) rfl T.g__law_cell_at q3 b3 v3 tk (pa_cons (pv 0) (pa_cons (pe_int) pa_nil))) (pa_cons (pe_int) pa_nil))))
    (pss_cons (ps_if (pt_not (pt_val (L2M.pe_clM G4 (hr.mono (by decide)) rfl T.g__law_taking_right q4 b4 v4 tk (pa_cons (L2M.pe_clM G5 (hr.mono (by decide)) rfl T.g__law_too_many q5 b5 v5 tk (pa_cons (pv 3) pa_nil)) (pa_cons (pe_lst (pa_cons (pe_str) pa_nil)) (pa_cons (pe_int) pa_nil)))))) (pss_one (ps_ret (pe_bl))) pss_nil)
    (pss_cons (ps_if (pt_not (pt_val (L2M.pe_clM G4 (hr.mono (by decide)) rfl T.g__law_taking_right q4 b4 v4 tk (pa_cons (L2M.pe_clM G6 (hr.mono (by decide)) rfl T.g__law_cut q6 b6 v6 tk (pa_cons (pv 1) (pa_cons (pe_op op_divU (pv 3) (pe_int)) pa_nil))) (pa_cons (pe_lst (pa_cons (pe_str) pa_nil)) (pa_cons (pe_int) pa_nil)))))) (pss_one (ps_ret (pe_bl))) pss_nil)
    (pss_cons (ps_asg (L2M.pe_clM G7 (hr.mono (by decide)) rfl T.g__law_ended q7 b7 v7 tk (pa_cons (pe_op op_divU (pv 3) (pe_int)) pa_nil)) (pg_tup rfl (pgs_cons (pg_name (i := 4) sc_law.nd rfl (Or.inl rfl)) (pgs_cons (pg_name (i := 5) sc_law.nd rfl (Or.inl rfl)) pgs_nil))))
    (pss_cons (ps_if (pt_not (pt_val (L2M.pe_clM G4 (hr.mono (by decide)) rfl T.g__law_taking_right q4 b4 v4 tk (pa_cons (pv 4) (pa_cons (pe_lst (pa_cons (pe_str) pa_nil)) (pa_cons (pv 5) pa_nil)))))) (pss_one (ps_ret (pe_bl))) pss_nil)
    (pss_cons (ps_set (i := 6) sc_law.nd rfl (Or.inl rfl) (L2M.pe_mk0M T.k_BitRow G8 (hr.mono (by decide)) rfl T.g_BitRow b8 v8 tk))
    (pss_cons (ps_expr (L2M.pe_mtM (pv 6) T.c_BitRow T.m_BitRow_put G9 (hr.mono (by decide)) b9 v9 tk (pa_cons (pe_op op_modU (pv 3) (pe_int)) (pa_cons (pe_int) pa_nil))))
    (pss_cons (ps_for (passes_of rfl) rfl (pi_range1 rfl T.f_range (pa_cons (pe_op op_addU (pe_int) (pe_op op_modU (pe_op op_divU (pv 3) (pe_int)) (pe_int))) pa_nil)) (pg_name (i := 7) sc_law.nd rfl (Or.inl rfl)) (pss_one (ps_expr (L2M.pe_mtM (pv 6) T.c_BitRow T.m_BitRow_put G9 (hr.mono (by decide)) b9 v9 tk (pa_cons (pe_ix ix_seq (pe_lst (pa_cons (pe_int) (pa_cons (pe_int) (pa_cons (pe_int) pa_nil)))) (pe_op op_addU (pe_op op_modU (pv 7) (pe_int)) (pe_op op_modU (pe_op op_divU (pv 3) (pe_int)) (pe_int))) (fun _ _ => rfl)) (pa_cons (pe_int) pa_nil))))))
    (pss_one (ps_ret (L2M.pe_clM G4 (hr.mono (by decide)) rfl T.g__law_taking_right q4 b4 v4 tk (pa_cons (pv 6) (pa_cons (pe_lst (pa_cons (pe_str) pa_nil)) (pa_cons (pe_int) pa_nil))))))))))))))))
theorem fn_law {P : Program} {w : World} {K : PySem.W.Frag} {mg : Str → Option Value} {base : Heap} (T : Tx K mg) {f : Addr} {fd : FuncData} (F : FunD K d_law.name d_law.qual d_law.params d_law.body d_law.scope (d_law.dvs K) (d_law.kws K) f fd) :
    L2G.FnG P w K mg base (L2M.CX P w) 8 f fd ["_law_script"] (sp_law K) :=
  L2G.okG F sc_law (fun vs H Q E h => len_law h) (fun cdv A outer s H vs Q E hG hr h => ⟨t_law K (fun c d _ H2 => E c d H2), wk_law T (ok__law_table_2 T) (ok__law_put_right_2 T) (ok__law_mixed_2 T) (ok__law_cell_at_2 T) (ok__law_taking_right_3 T) (ok__law_too_many_1 T) (ok__law_cut_2 T) (ok__law_ended_1 T) (ok_BitRow___init___1 T) (ok_BitRow_put_3 T) hG hr, rd_law  h⟩)
end L2.BW
namespace L2.BW
open PySem PySem.Spec PyProof.Rows
theorem calmly {P : Program} {w : World} {K : PySem.W.Frag} {mg : Str → Option Value} {base : Heap} {k : Nat} {f : Addr} {fd : FuncData} {ps : List Str} {sp : Sp}
    (hE : ∀ vs H Q E, sp vs H Q E → sp vs H Q fun _ _ _ => False) (F : FnOk P w K mg base (L2M.CX P w) k f fd ps sp) : FnOk P w K mg base CX0 k f fd ps sp :=
  ⟨F.len, fun A outer s H args us vs Q E hr he hb hv hs => codeAny_mono (F.run A outer s H args us vs Q _ hr he hb hv (hE _ _ _ _ hs)) fun r s' z => by
    match r, z with
    | .error e, z => exact (L2M.cxNone _ _ _ _ _ z).elim
    | .ok (.ret u), z => exact z⟩
end L2.BW
open PySem PySem.W PySem.Calls PyProof.Rows
theorem PySem.Challenge.cw_balepress_k12_tables_refused_holds : PySem.Challenge.rw_balepress_k12_tables_refused.Holds := by
  w_on; o_law
  refine HandSHeadRun.head_any (r := OpenLaw.row PySem.Challenge.rw_balepress_k12_tables_refused) (q := view (OpenLaw.row PySem.Challenge.rw_balepress_k12_tables_refused).prog [59]) (H := L2.BH.hk) (ob := L2.BH.ob) (M := 40000) (loose := L2.BH.loose) (d := HandSHeadRun.topDef (OpenLaw.row PySem.Challenge.rw_balepress_k12_tables_refused).prog 59) (kwd := [])
    L2.BH.ob_eq (by kernel_rfl) (fun s => by kernel_rfl) L2.BH.run (by kernel_rfl) (by kernel_rfl) (by kernel_rfl) (by rfl) (by first | assumption | decide +kernel) (by decide +kernel)
    ⟨rfl, rfl, rfl, rfl, rfl, by decide +kernel⟩ ?hw ?hc
  case hw => w_witness2
  case hc =>
    refine L2G.walk_ofG (l := PySem.Challenge.rw_balepress_k12_tables_refused) (n := 63) (k := 8) (x := "_law_script") (CX := L2.CX0) rfl (by decide) (by kernel_rfl) ⟨rfl, by decide, by decide⟩ ?F (fun _ _ _ _ z => z)
    intro w mg fa h Y G hmg0
    obtain ⟨K, KX, c⟩ := Y
    have hmg : mg ("law" : PySem.Str) = some (.ref fa) := by
      have e : (HandSHeadRun.topDef (OpenLaw.row PySem.Challenge.rw_balepress_k12_tables_refused).prog 59).name = ("law" : PySem.Str) := by kernel_rfl
      exact e ▸ hmg0
    have T := L2.BW.tx_of KX G c.t.d c.more
    obtain ⟨fd, F⟩ := T.d_law
    have e := hmg.symm.trans T.g_law
    cases e
    have b := L2.FunD.bindsA (ps := ["_law_script"]) F fun _ _ _ _ _ _ us hl => match us, hl with | [_], _ => rfl
    exact ⟨K, fd, L2.BR.sp_law K, KX, fun s v => b s [v] rfl, fun H a ns hl _ hS => ⟨a, ns, rfl, hS, hl, fun _ => rfl⟩, fun base _ _ => L2G.calmlyG (fun _ _ _ _ h => h) (L2.BW.fn_law T F)⟩
