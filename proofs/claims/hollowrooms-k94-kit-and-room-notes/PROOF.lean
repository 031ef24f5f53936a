import PyProof.Rows.All
import HandS.Defaults
import HandS.Evl
import HandS.Flow
import HandS.ForExc
import HandS.ForMost
import HandS.Gcd
import HandS.Head2
import HandS.Head3
import HandS.HeadEnd
import HandS.HeadHook2
import HandS.IsInst
import HandS.Iter
import HandS.OwnEq
import HandS.Style
import HandS.Text
import HandS.TupAny
import HandS.TupMul
import HandS.Wide
import HandS.Zip
import HandS.Zip0
import OpenK.AllK
import PyProof.InstNe
import PyProof.ReprLen
import PyProof.ReprRoads
import Wide.All
import Wide.FinOn
import PySem.Challenge.RW_hollowrooms_k94_kit_and_room_notes
set_option Elab.async false
set_option linter.all false
set_option maxRecDepth 100000
set_option maxHeartbeats 0

/-! Dn23: a head's further facts: classes that isinstance may see, no own __ne__, functions of an imported module. -/
namespace Dn
open PySem PySem.Spec PyProof.Rows L2
inductive Xa where
  | ins (x : Str) | ne (x : Str) | blt (x : Str) (f : String)
def Xa.ok (K : PySem.W.Frag) : Xa → Bool
  | .ins x => He.eqO (PySem.W.findIn K (.ref (He.ga K x)) "__class__") (some (some (.builtin "object.__class__"))) && (He.eqO (PySem.W.specialIn K (.builtin "object.__class__") "__get__") (some (some (.builtin "getset_descriptor.__get__"))) && (decide (PySem.W.takesIn K (.builtin "object.__class__") = some true) && decide (PySem.W.mroIn K (He.ga K x) (.type "object") = some true)))
  | .ne x => He.eqO (PySem.W.findIn K (.ref (He.ga K x)) "__ne__") (some (some (.builtin "object.__ne__"))) && decide (PySem.W.subIn K (.ref (He.ga K x)) (.type "object") = some true)
  | .blt x f => He.eqO (PySem.W.nsIn K mainGlobals x) (some (some (.builtin f)))
def AllX (K : PySem.W.Frag) (xa : List Xa) : Prop := (xa.all fun x => x.ok K) = true
theorem AllX.at {K : PySem.W.Frag} {xa : List Xa} (h : AllX K xa) (i : Nat) {x : Xa} (e : xa[i]? = some x := by rfl) : x.ok K = true := List.all_eq_true.mp h x (List.mem_of_getElem? e)
def obsX (n : Nat) (fa : List He.Fa) (fn : List He.DefD) (xa : List Xa) (g : Addr → Option Obj) : He.AlD × Bool := (He.obsD fa fn (He.frG g (He.asD g n)), xa.all fun x => x.ok (He.frG g (He.asD g n)))
def hookX (n : Nat) (fa : List He.Fa) (fn : List He.DefD) (xa : List Xa) : PySem.W.Hook where
  α := He.AlD × Bool
  obs := fun s => obsX n fa fn xa s.heap.get?
  val := fun _ => (He.valD fn, true)
  says := fun _ h => ∃ K : PySem.W.Frag, K.In h ∧ He.SaysD fa fn K ∧ AllX K xa
  of := fun _ _ e => ⟨_, He.frG_in, congrArg Prod.fst e, congrArg Prod.snd e⟩
  keeps := fun _ _ _ ⟨K, hK, c, x⟩ k => ⟨K, PySem.W.Frag.In.keeps hK k, c, x⟩
theorem obsX_eq {n : Nat} {fa : List He.Fa} {fn : List He.DefD} {xa : List Xa} {g : Addr → Option Obj} {s : Shared} (h : ∀ a, g a = s.heap.get? a) : obsX n fa fn xa g = (hookX n fa fn xa).obs s := by
  have e : g = s.heap.get? := funext h
  rw [e]
  rfl
end Dn

namespace Pf
open PySem PySem.Spec PyProof.Rows L2
def top (i : Nat) : Stmt := PySem.Challenge.pw_hollowrooms_k94_kit_and_room_notes.main.body.getD i (.Pass ⟨0, 0, 0, 0⟩)
def inClass (s : Stmt) (j : Nat) : Stmt := match s with
  | .ClassDef _ _ _ body .. => body.getD j (.Pass ⟨0, 0, 0, 0⟩)
  | _ => .Pass ⟨0, 0, 0, 0⟩
abbrev s_is_whole : Stmt := top 9
theorem sc_is_whole : FnScope ["value"] ["value"] (defScope s_is_whole) := ⟨rfl, rfl, rfl, by decide +kernel, rfl, by decide +kernel, by decide +kernel⟩
abbrev s_is_row : Stmt := top 10
theorem sc_is_row : FnScope ["value"] ["value"] (defScope s_is_row) := ⟨rfl, rfl, rfl, by decide +kernel, rfl, by decide +kernel, by decide +kernel⟩
abbrev s_common_divisor : Stmt := top 11
theorem sc_common_divisor : FnScope ["numbers", "common", "number"] ["numbers"] (defScope s_common_divisor) := ⟨rfl, rfl, rfl, by decide +kernel, rfl, by decide +kernel, by decide +kernel⟩
abbrev s_primitive : Stmt := top 12
theorem sc_primitive : FnScope ["row", "common", "number"] ["row"] (defScope s_primitive) := ⟨rfl, rfl, rfl, by decide +kernel, rfl, by decide +kernel, by decide +kernel⟩
abbrev s_frozen : Stmt := top 14
theorem sc_frozen : FnScope ["value", "item"] ["value"] (defScope s_frozen) := ⟨rfl, rfl, rfl, by decide +kernel, rfl, by decide +kernel, by decide +kernel⟩
abbrev s_is_table : Stmt := top 15
theorem sc_is_table : FnScope ["value", "row", "number"] ["value"] (defScope s_is_table) := ⟨rfl, rfl, rfl, by decide +kernel, rfl, by decide +kernel, by decide +kernel⟩
abbrev s_is_kit_tables : Stmt := top 24
theorem sc_is_kit_tables : FnScope ["tables", "table"] ["tables"] (defScope s_is_kit_tables) := ⟨rfl, rfl, rfl, by decide +kernel, rfl, by decide +kernel, by decide +kernel⟩
abbrev s_is_too_great : Stmt := top 25
theorem sc_is_too_great : FnScope ["tables", "most", "table", "row", "number"] ["tables", "most"] (defScope s_is_too_great) := ⟨rfl, rfl, rfl, by decide +kernel, rfl, by decide +kernel, by decide +kernel⟩
abbrev s_Kit___init__ : Stmt := inClass (top 26) 0
theorem sc_Kit___init__ : FnScope ["self", "tables", "checked"] ["self", "tables", "checked"] (defScope s_Kit___init__) := ⟨rfl, rfl, rfl, by decide +kernel, rfl, by decide +kernel, by decide +kernel⟩
abbrev s_Kit___eq__ : Stmt := inClass (top 26) 1
theorem sc_Kit___eq__ : FnScope ["self", "other"] ["self", "other"] (defScope s_Kit___eq__) := ⟨rfl, rfl, rfl, by decide +kernel, rfl, by decide +kernel, by decide +kernel⟩
abbrev s_first_nonzero : Stmt := top 28
theorem sc_first_nonzero : FnScope ["rows", "start", "column", "k"] ["rows", "start", "column"] (defScope s_first_nonzero) := ⟨rfl, rfl, rfl, by decide +kernel, rfl, by decide +kernel, by decide +kernel⟩
abbrev s_echelon : Stmt := top 30
theorem sc_echelon : FnScope ["rows", "size", "work", "at", "column", "pick", "head", "lead", "k", "row", "own", "j"] ["rows", "size"] (defScope s_echelon) := ⟨rfl, rfl, rfl, by decide +kernel, rfl, by decide +kernel, by decide +kernel⟩
abbrev s_is_vector : Stmt := top 35
theorem sc_is_vector : FnScope ["value", "size", "number"] ["value", "size"] (defScope s_is_vector) := ⟨rfl, rfl, rfl, by decide +kernel, rfl, by decide +kernel, by decide +kernel⟩
abbrev s_Room___init__ : Stmt := inClass (top 36) 0
theorem sc_Room___init__ : FnScope ["self", "size", "rows", "row"] ["self", "size", "rows"] (defScope s_Room___init__) := ⟨rfl, rfl, rfl, by decide +kernel, rfl, by decide +kernel, by decide +kernel⟩
abbrev s_Room___eq__ : Stmt := inClass (top 36) 3
theorem sc_Room___eq__ : FnScope ["self", "other"] ["self", "other"] (defScope s_Room___eq__) := ⟨rfl, rfl, rfl, by decide +kernel, rfl, by decide +kernel, by decide +kernel⟩
abbrev s_number_of : Stmt := top 40
theorem sc_number_of : FnScope ["word", "figures", "sign"] ["word"] (defScope s_number_of) := ⟨rfl, rfl, rfl, by decide +kernel, rfl, by decide +kernel, by decide +kernel⟩
abbrev s_line_at : Stmt := top 41
theorem sc_line_at : FnScope ["lines", "at"] ["lines", "at"] (defScope s_line_at) := ⟨rfl, rfl, rfl, by decide +kernel, rfl, by decide +kernel, by decide +kernel⟩
abbrev s_taken_row : Stmt := top 42
theorem sc_taken_row : FnScope ["lines", "at", "wide", "words", "numbers", "word"] ["lines", "at", "wide"] (defScope s_taken_row) := ⟨rfl, rfl, rfl, by decide +kernel, rfl, by decide +kernel, by decide +kernel⟩
abbrev s_taken_head : Stmt := top 43
theorem sc_taken_head : FnScope ["lines", "at", "word", "bounds", "words", "numbers", "number", "item", "least", "most"] ["lines", "at", "word", "bounds"] (defScope s_taken_head) := ⟨rfl, rfl, rfl, by decide +kernel, rfl, by decide +kernel, by decide +kernel⟩
abbrev s_taken_table : Stmt := top 44
theorem sc_taken_table : FnScope ["lines", "at", "high", "wide", "rows", "k"] ["lines", "at", "high", "wide"] (defScope s_taken_table) := ⟨rfl, rfl, rfl, by decide +kernel, rfl, by decide +kernel, by decide +kernel⟩
abbrev s_check_end : Stmt := top 45
theorem sc_check_end : FnScope ["lines", "at"] ["lines", "at"] (defScope s_check_end) := ⟨rfl, rfl, rfl, by decide +kernel, rfl, by decide +kernel, by decide +kernel⟩
abbrev s_row_line : Stmt := top 46
theorem sc_row_line : FnScope ["row", "number"] ["row"] (defScope s_row_line) := ⟨rfl, rfl, rfl, by decide +kernel, rfl, by decide +kernel, by decide +kernel⟩
abbrev s_table_lines : Stmt := top 47
theorem sc_table_lines : FnScope ["table", "row"] ["table"] (defScope s_table_lines) := ⟨rfl, rfl, rfl, by decide +kernel, rfl, by decide +kernel, by decide +kernel⟩
abbrev s_kit_lines : Stmt := top 48
theorem sc_kit_lines : FnScope ["kit", "lines", "table"] ["kit"] (defScope s_kit_lines) := ⟨rfl, rfl, rfl, by decide +kernel, rfl, by decide +kernel, by decide +kernel⟩
abbrev s_room_lines : Stmt := top 49
theorem sc_room_lines : FnScope ["room", "row"] ["room"] (defScope s_room_lines) := ⟨rfl, rfl, rfl, by decide +kernel, rfl, by decide +kernel, by decide +kernel⟩
abbrev s_taken_kit : Stmt := top 50
theorem sc_taken_kit : FnScope ["lines", "at", "tables", "place", "_", "high", "wide", "many", "table"] ["lines", "at"] (defScope s_taken_kit) := ⟨rfl, rfl, rfl, by decide +kernel, rfl, by decide +kernel, by decide +kernel⟩
abbrev s_taken_room : Stmt := top 51
theorem sc_taken_room : FnScope ["lines", "at", "wanted", "rows", "k", "size", "width"] ["lines", "at", "wanted"] (defScope s_taken_room) := ⟨rfl, rfl, rfl, by decide +kernel, rfl, by decide +kernel, by decide +kernel⟩
abbrev s_kit_text : Stmt := top 52
theorem sc_kit_text : FnScope ["kit"] ["kit"] (defScope s_kit_text) := ⟨rfl, rfl, rfl, by decide +kernel, rfl, by decide +kernel, by decide +kernel⟩
abbrev s_read_kit : Stmt := top 53
theorem sc_read_kit : FnScope ["text", "lines", "kit", "place"] ["text"] (defScope s_read_kit) := ⟨rfl, rfl, rfl, by decide +kernel, rfl, by decide +kernel, by decide +kernel⟩
abbrev s_room_text : Stmt := top 54
theorem sc_room_text : FnScope ["room"] ["room"] (defScope s_room_text) := ⟨rfl, rfl, rfl, by decide +kernel, rfl, by decide +kernel, by decide +kernel⟩
abbrev s_read_room : Stmt := top 55
theorem sc_read_room : FnScope ["text", "lines", "room", "place"] ["text"] (defScope s_read_room) := ⟨rfl, rfl, rfl, by decide +kernel, rfl, by decide +kernel, by decide +kernel⟩
abbrev s__law_cell : Stmt := top 57
theorem sc__law_cell : FnScope ["script", "k", "seed", "cell"] ["script", "k"] (defScope s__law_cell) := ⟨rfl, rfl, rfl, by decide +kernel, rfl, by decide +kernel, by decide +kernel⟩
abbrev s__law_digits : Stmt := top 58
theorem sc__law_digits : FnScope ["cell", "sizes", "row", "rest", "seed", "k", "size", "twice"] ["cell", "sizes"] (defScope s__law_digits) := ⟨rfl, rfl, rfl, by decide +kernel, rfl, by decide +kernel, by decide +kernel⟩
abbrev s__law_gcd : Stmt := top 59
theorem sc__law_gcd : FnScope ["one", "other", "left", "right", "rest"] ["one", "other"] (defScope s__law_gcd) := ⟨rfl, rfl, rfl, by decide +kernel, rfl, by decide +kernel, by decide +kernel⟩
abbrev s__law_lowest : Stmt := top 60
theorem sc__law_lowest : FnScope ["row", "common", "sign", "number"] ["row"] (defScope s__law_lowest) := ⟨rfl, rfl, rfl, by decide +kernel, rfl, by decide +kernel, by decide +kernel⟩
abbrev s__law_reduced : Stmt := top 61
theorem sc__law_reduced : FnScope ["rows", "size", "basis", "at", "column", "pick", "k", "row", "number", "other", "j"] ["rows", "size"] (defScope s__law_reduced) := ⟨rfl, rfl, rfl, by decide +kernel, rfl, by decide +kernel, by decide +kernel⟩
abbrev s__law_product : Stmt := top 62
theorem sc__law_product : FnScope ["left", "right", "out", "row", "line", "j", "total", "k"] ["left", "right"] (defScope s__law_product) := ⟨rfl, rfl, rfl, by decide +kernel, rfl, by decide +kernel, by decide +kernel⟩
abbrev s__law_tuple : Stmt := top 63
theorem sc__law_tuple : FnScope ["table", "row"] ["table"] (defScope s__law_tuple) := ⟨rfl, rfl, rfl, by decide +kernel, rfl, by decide +kernel, by decide +kernel⟩
abbrev s__law_frame : Stmt := top 64
theorem sc__law_frame : FnScope ["size", "row", "frame", "k", "one", "two", "times", "i", "head", "base", "j", "number"] ["size", "row"] (defScope s__law_frame) := ⟨rfl, rfl, rfl, by decide +kernel, rfl, by decide +kernel, by decide +kernel⟩
abbrev s__law_small : Stmt := top 65
theorem sc__law_small : FnScope ["row", "at", "high", "wide", "menu", "i", "j"] ["row", "at", "high", "wide"] (defScope s__law_small) := ⟨rfl, rfl, rfl, by decide +kernel, rfl, by decide +kernel, by decide +kernel⟩
abbrev s__law_turned : Stmt := top 66
theorem sc__law_turned : FnScope ["row", "at", "size", "out", "i", "line", "j", "number", "other"] ["row", "at", "size"] (defScope s__law_turned) := ⟨rfl, rfl, rfl, by decide +kernel, rfl, by decide +kernel, by decide +kernel⟩
abbrev s__law_made : Stmt := top 67
theorem sc__law_made : FnScope ["kind", "t", "row", "high", "wide", "table", "down", "over", "i", "place", "line", "j"] ["kind", "t", "row", "high", "wide"] (defScope s__law_made) := ⟨rfl, rfl, rfl, by decide +kernel, rfl, by decide +kernel, by decide +kernel⟩
abbrev s__law_kit : Stmt := top 68
theorem sc__law_kit : FnScope ["script", "at", "most", "shape", "row", "turn", "kind", "high", "wide", "many", "tables", "left", "right", "line", "place", "t", "table"] ["script", "at", "most"] (defScope s__law_kit) := ⟨rfl, rfl, rfl, by decide +kernel, rfl, by decide +kernel, by decide +kernel⟩
abbrev s__law_row_line : Stmt := top 69
theorem sc__law_row_line : FnScope ["row", "number"] ["row"] (defScope s__law_row_line) := ⟨rfl, rfl, rfl, by decide +kernel, rfl, by decide +kernel, by decide +kernel⟩
abbrev s__law_kit_lines : Stmt := top 70
theorem sc__law_kit_lines : FnScope ["tables", "lines", "table", "row"] ["tables"] (defScope s__law_kit_lines) := ⟨rfl, rfl, rfl, by decide +kernel, rfl, by decide +kernel, by decide +kernel⟩
abbrev s__law_room_lines : Stmt := top 71
theorem sc__law_room_lines : FnScope ["size", "rows", "row"] ["size", "rows"] (defScope s__law_room_lines) := ⟨rfl, rfl, rfl, by decide +kernel, rfl, by decide +kernel, by decide +kernel⟩
abbrev s__law_large : Stmt := top 72
theorem sc__law_large : FnScope ["cell", "figures", "row", "total", "k", "most"] ["cell", "figures"] (defScope s__law_large) := ⟨rfl, rfl, rfl, by decide +kernel, rfl, by decide +kernel, by decide +kernel⟩
abbrev s__law_tables : Stmt := top 73
theorem sc__law_tables : FnScope ["script", "shape", "high", "wide", "many", "row", "tables", "t", "large", "line", "j", "i"] ["script"] (defScope s__law_tables) := ⟨rfl, rfl, rfl, by decide +kernel, rfl, by decide +kernel, by decide +kernel⟩
abbrev s__law_room : Stmt := top 74
theorem sc__law_room : FnScope ["script", "shape", "row", "size", "rows", "k", "line", "most", "i", "j"] ["script"] (defScope s__law_room) := ⟨rfl, rfl, rfl, by decide +kernel, rfl, by decide +kernel, by decide +kernel⟩
abbrev s__law_read : Stmt := top 75
theorem sc__law_read : FnScope ["kind", "text"] ["kind", "text"] (defScope s__law_read) := ⟨rfl, rfl, rfl, by decide +kernel, rfl, by decide +kernel, by decide +kernel⟩
abbrev s_law : Stmt := top 76
theorem sc_law : FnScope ["script", "tables", "kit", "text", "again", "drawn", "size", "due", "room", "back", "table"] ["script"] (defScope s_law) := ⟨rfl, rfl, rfl, by decide +kernel, rfl, by decide +kernel, by decide +kernel⟩
end Pf

namespace Pf
open PySem PySem.Spec PyProof.Rows L2 Dn
def dd_is_whole : He.DefD := ⟨("is_whole", none), "is_whole", "is_whole", defArgs s_is_whole, defBody s_is_whole, defScope s_is_whole, [], []⟩
def dd_is_row : He.DefD := ⟨("is_row", none), "is_row", "is_row", defArgs s_is_row, defBody s_is_row, defScope s_is_row, [], []⟩
def dd_common_divisor : He.DefD := ⟨("common_divisor", none), "common_divisor", "common_divisor", defArgs s_common_divisor, defBody s_common_divisor, defScope s_common_divisor, [], []⟩
def dd_primitive : He.DefD := ⟨("primitive", none), "primitive", "primitive", defArgs s_primitive, defBody s_primitive, defScope s_primitive, [], []⟩
def dd_frozen : He.DefD := ⟨("frozen", none), "frozen", "frozen", defArgs s_frozen, defBody s_frozen, defScope s_frozen, [], []⟩
def dd_is_table : He.DefD := ⟨("is_table", none), "is_table", "is_table", defArgs s_is_table, defBody s_is_table, defScope s_is_table, [], []⟩
def dd_is_kit_tables : He.DefD := ⟨("is_kit_tables", none), "is_kit_tables", "is_kit_tables", defArgs s_is_kit_tables, defBody s_is_kit_tables, defScope s_is_kit_tables, [], []⟩
def dd_is_too_great : He.DefD := ⟨("is_too_great", none), "is_too_great", "is_too_great", defArgs s_is_too_great, defBody s_is_too_great, defScope s_is_too_great, [], []⟩
def dd_Kit___init__ : He.DefD := ⟨("Kit", some "__init__"), "__init__", "Kit.__init__", defArgs s_Kit___init__, defBody s_Kit___init__, defScope s_Kit___init__, [.bl true], []⟩
def dd_Kit___eq__ : He.DefD := ⟨("Kit", some "__eq__"), "__eq__", "Kit.__eq__", defArgs s_Kit___eq__, defBody s_Kit___eq__, defScope s_Kit___eq__, [], []⟩
def dd_first_nonzero : He.DefD := ⟨("first_nonzero", none), "first_nonzero", "first_nonzero", defArgs s_first_nonzero, defBody s_first_nonzero, defScope s_first_nonzero, [], []⟩
def dd_echelon : He.DefD := ⟨("echelon", none), "echelon", "echelon", defArgs s_echelon, defBody s_echelon, defScope s_echelon, [], []⟩
def dd_is_vector : He.DefD := ⟨("is_vector", none), "is_vector", "is_vector", defArgs s_is_vector, defBody s_is_vector, defScope s_is_vector, [], []⟩
def dd_Room___init__ : He.DefD := ⟨("Room", some "__init__"), "__init__", "Room.__init__", defArgs s_Room___init__, defBody s_Room___init__, defScope s_Room___init__, [.adr (He.dflAt ("Room", some "__init__") 0)], []⟩
def dd_Room___eq__ : He.DefD := ⟨("Room", some "__eq__"), "__eq__", "Room.__eq__", defArgs s_Room___eq__, defBody s_Room___eq__, defScope s_Room___eq__, [], []⟩
def dd_number_of : He.DefD := ⟨("number_of", none), "number_of", "number_of", defArgs s_number_of, defBody s_number_of, defScope s_number_of, [], []⟩
def dd_line_at : He.DefD := ⟨("line_at", none), "line_at", "line_at", defArgs s_line_at, defBody s_line_at, defScope s_line_at, [], []⟩
def dd_taken_row : He.DefD := ⟨("taken_row", none), "taken_row", "taken_row", defArgs s_taken_row, defBody s_taken_row, defScope s_taken_row, [], []⟩
def dd_taken_head : He.DefD := ⟨("taken_head", none), "taken_head", "taken_head", defArgs s_taken_head, defBody s_taken_head, defScope s_taken_head, [], []⟩
def dd_taken_table : He.DefD := ⟨("taken_table", none), "taken_table", "taken_table", defArgs s_taken_table, defBody s_taken_table, defScope s_taken_table, [], []⟩
def dd_check_end : He.DefD := ⟨("check_end", none), "check_end", "check_end", defArgs s_check_end, defBody s_check_end, defScope s_check_end, [], []⟩
def dd_row_line : He.DefD := ⟨("row_line", none), "row_line", "row_line", defArgs s_row_line, defBody s_row_line, defScope s_row_line, [], []⟩
def dd_table_lines : He.DefD := ⟨("table_lines", none), "table_lines", "table_lines", defArgs s_table_lines, defBody s_table_lines, defScope s_table_lines, [], []⟩
def dd_kit_lines : He.DefD := ⟨("kit_lines", none), "kit_lines", "kit_lines", defArgs s_kit_lines, defBody s_kit_lines, defScope s_kit_lines, [], []⟩
def dd_room_lines : He.DefD := ⟨("room_lines", none), "room_lines", "room_lines", defArgs s_room_lines, defBody s_room_lines, defScope s_room_lines, [], []⟩
def dd_taken_kit : He.DefD := ⟨("taken_kit", none), "taken_kit", "taken_kit", defArgs s_taken_kit, defBody s_taken_kit, defScope s_taken_kit, [], []⟩
def dd_taken_room : He.DefD := ⟨("taken_room", none), "taken_room", "taken_room", defArgs s_taken_room, defBody s_taken_room, defScope s_taken_room, [.int 0], []⟩
def dd_kit_text : He.DefD := ⟨("kit_text", none), "kit_text", "kit_text", defArgs s_kit_text, defBody s_kit_text, defScope s_kit_text, [], []⟩
def dd_read_kit : He.DefD := ⟨("read_kit", none), "read_kit", "read_kit", defArgs s_read_kit, defBody s_read_kit, defScope s_read_kit, [], []⟩
def dd_room_text : He.DefD := ⟨("room_text", none), "room_text", "room_text", defArgs s_room_text, defBody s_room_text, defScope s_room_text, [], []⟩
def dd_read_room : He.DefD := ⟨("read_room", none), "read_room", "read_room", defArgs s_read_room, defBody s_read_room, defScope s_read_room, [], []⟩
def dd__law_cell : He.DefD := ⟨("_law_cell", none), "_law_cell", "_law_cell", defArgs s__law_cell, defBody s__law_cell, defScope s__law_cell, [], []⟩
def dd__law_digits : He.DefD := ⟨("_law_digits", none), "_law_digits", "_law_digits", defArgs s__law_digits, defBody s__law_digits, defScope s__law_digits, [], []⟩
def dd__law_gcd : He.DefD := ⟨("_law_gcd", none), "_law_gcd", "_law_gcd", defArgs s__law_gcd, defBody s__law_gcd, defScope s__law_gcd, [], []⟩
def dd__law_lowest : He.DefD := ⟨("_law_lowest", none), "_law_lowest", "_law_lowest", defArgs s__law_lowest, defBody s__law_lowest, defScope s__law_lowest, [], []⟩
def dd__law_reduced : He.DefD := ⟨("_law_reduced", none), "_law_reduced", "_law_reduced", defArgs s__law_reduced, defBody s__law_reduced, defScope s__law_reduced, [], []⟩
def dd__law_product : He.DefD := ⟨("_law_product", none), "_law_product", "_law_product", defArgs s__law_product, defBody s__law_product, defScope s__law_product, [], []⟩
def dd__law_tuple : He.DefD := ⟨("_law_tuple", none), "_law_tuple", "_law_tuple", defArgs s__law_tuple, defBody s__law_tuple, defScope s__law_tuple, [], []⟩
def dd__law_frame : He.DefD := ⟨("_law_frame", none), "_law_frame", "_law_frame", defArgs s__law_frame, defBody s__law_frame, defScope s__law_frame, [], []⟩
def dd__law_small : He.DefD := ⟨("_law_small", none), "_law_small", "_law_small", defArgs s__law_small, defBody s__law_small, defScope s__law_small, [], []⟩
def dd__law_turned : He.DefD := ⟨("_law_turned", none), "_law_turned", "_law_turned", defArgs s__law_turned, defBody s__law_turned, defScope s__law_turned, [], []⟩
def dd__law_made : He.DefD := ⟨("_law_made", none), "_law_made", "_law_made", defArgs s__law_made, defBody s__law_made, defScope s__law_made, [], []⟩
def dd__law_kit : He.DefD := ⟨("_law_kit", none), "_law_kit", "_law_kit", defArgs s__law_kit, defBody s__law_kit, defScope s__law_kit, [], []⟩
def dd__law_row_line : He.DefD := ⟨("_law_row_line", none), "_law_row_line", "_law_row_line", defArgs s__law_row_line, defBody s__law_row_line, defScope s__law_row_line, [], []⟩
def dd__law_kit_lines : He.DefD := ⟨("_law_kit_lines", none), "_law_kit_lines", "_law_kit_lines", defArgs s__law_kit_lines, defBody s__law_kit_lines, defScope s__law_kit_lines, [], []⟩
def dd__law_room_lines : He.DefD := ⟨("_law_room_lines", none), "_law_room_lines", "_law_room_lines", defArgs s__law_room_lines, defBody s__law_room_lines, defScope s__law_room_lines, [], []⟩
def dd__law_large : He.DefD := ⟨("_law_large", none), "_law_large", "_law_large", defArgs s__law_large, defBody s__law_large, defScope s__law_large, [], []⟩
def dd__law_tables : He.DefD := ⟨("_law_tables", none), "_law_tables", "_law_tables", defArgs s__law_tables, defBody s__law_tables, defScope s__law_tables, [], []⟩
def dd__law_room : He.DefD := ⟨("_law_room", none), "_law_room", "_law_room", defArgs s__law_room, defBody s__law_room, defScope s__law_room, [], []⟩
def dd__law_read : He.DefD := ⟨("_law_read", none), "_law_read", "_law_read", defArgs s__law_read, defBody s__law_read, defScope s__law_read, [], []⟩
def dd_law : He.DefD := ⟨("law", none), "law", "law", defArgs s_law, defBody s_law, defScope s_law, [], []⟩
def fnT : List He.DefD := [dd_is_whole, dd_is_row, dd_common_divisor, dd_primitive, dd_frozen, dd_is_table, dd_is_kit_tables, dd_is_too_great, dd_Kit___init__, dd_Kit___eq__, dd_first_nonzero, dd_echelon, dd_is_vector, dd_Room___init__, dd_Room___eq__, dd_number_of, dd_line_at, dd_taken_row, dd_taken_head, dd_taken_table, dd_check_end, dd_row_line, dd_table_lines, dd_kit_lines, dd_room_lines, dd_taken_kit, dd_taken_room, dd_kit_text, dd_read_kit, dd_room_text, dd_read_room, dd__law_cell, dd__law_digits, dd__law_gcd, dd__law_lowest, dd__law_reduced, dd__law_product, dd__law_tuple, dd__law_frame, dd__law_small, dd__law_turned, dd__law_made, dd__law_kit, dd__law_row_line, dd__law_kit_lines, dd__law_room_lines, dd__law_large, dd__law_tables, dd__law_room, dd__law_read, dd_law]
def faT : List He.Fa := [.glo "is_whole", .glo "is_row", .glo "common_divisor", .glo "primitive", .glo "frozen", .glo "is_table", .glo "is_kit_tables", .glo "is_too_great", .glo "Kit", .cls "Kit", .mkr "Kit", .meth "Kit" "__eq__", .glo "first_nonzero", .glo "echelon", .glo "is_vector", .glo "Room", .cls "Room", .mkr "Room", .meth "Room" "__eq__", .glo "number_of", .glo "line_at", .glo "taken_row", .glo "taken_head", .glo "taken_table", .glo "check_end", .glo "row_line", .glo "table_lines", .glo "kit_lines", .glo "room_lines", .glo "taken_kit", .glo "taken_room", .glo "kit_text", .glo "read_kit", .glo "room_text", .glo "read_room", .glo "_law_cell", .glo "_law_digits", .glo "_law_gcd", .glo "_law_lowest", .glo "_law_reduced", .glo "_law_product", .glo "_law_tuple", .glo "_law_frame", .glo "_law_small", .glo "_law_turned", .glo "_law_made", .glo "_law_kit", .glo "_law_row_line", .glo "_law_kit_lines", .glo "_law_room_lines", .glo "_law_large", .glo "_law_tables", .glo "_law_room", .glo "_law_read", .glo "law", .noat "Kit" "tables", .noat "Kit" "many", .noat "Kit" "high", .noat "Kit" "wide", .noat "Room" "size", .noat "Room" "rows", .noat "Room" "width", .free "abs", .free "all", .free "bool", .free "int", .free "isinstance", .free "len", .free "list", .free "max", .free "min", .free "range", .free "repr", .free "str", .free "tuple", .free "zip", .int "MOST_SIDE" 8, .int "MOST_TABLES" 40, .int "MOST_NUMBER" 1000000000000000000000000000000000000000000000000000000000000, .int "MOST_SIZE" 64, .str "FIGURES" "0123456789", .int "MOST_FIGURES" 60]
def xaT : List Xa := [.ne "Kit", .ne "Room", .blt "gcd" "math.gcd", .blt "lcm" "math.lcm", .ins "Kit", .ins "Room"]
abbrev hkT : PySem.W.Hook := hookX 4 faT fnT xaT
def obT (s : PySem.W.SharedT) : He.AlD × Bool := obsX 4 faT fnT xaT (HandSHeadRun.getT s)
theorem obT_eq (s : PySem.W.SharedT) : obT s = hkT.obs s.abs := obsX_eq (HandSHeadRun.getT_eq s)
def loose0 : List Str := ["_wall", "KitError", "BadRoom", "BadKit", "TooLarge", "BadNote", "is_whole", "is_row", "common_divisor", "primitive", "frozen", "is_table", "unit_table", "zero_table", "transposed", "block_diagonal", "MOST_SIDE", "MOST_TABLES", "MOST_NUMBER", "is_kit_tables", "is_too_great", "Kit", "first_nonzero", "echelon", "pivot_columns"]
def loose1 : List Str := ["kernel_rows", "MOST_SIZE", "is_vector", "Room", "FIGURES", "MOST_FIGURES", "number_of", "line_at", "taken_row", "taken_head", "taken_table", "check_end", "row_line", "table_lines", "kit_lines", "room_lines", "taken_kit", "taken_room", "kit_text", "read_kit", "room_text", "read_room", "_law_cell", "_law_digits", "_law_gcd"]
def loose2 : List Str := ["_law_lowest", "_law_reduced", "_law_product", "_law_tuple", "_law_frame", "_law_small", "_law_turned", "_law_made", "_law_kit", "_law_row_line", "_law_kit_lines", "_law_room_lines", "_law_large", "_law_tables", "_law_room", "_law_read"]
def looseT : List Str := loose0 ++ loose1 ++ loose2
abbrev RT : PySem.W.OpenRow := PySem.W.OpenLaw.row PySem.Challenge.rw_hollowrooms_k94_kit_and_room_notes
theorem map3 {α β γ δ : Type} {r : Option α} {f : α → β} {g : α → γ} {h : α → δ} {b : β} {c : γ} {d : δ} (e1 : r.map f = some b) (e2 : r.map g = some c) (e3 : r.map h = some d) : r.map (fun x => (f x, g x, h x)) = some (b, c, d) := by
  cases r with
  | none => cases e1
  | some x =>
    injection e1 with e1
    injection e2 with e2
    injection e3 with e3
    subst e1 e2 e3
    rfl
theorem runT1 (w : World) : (HandSHeadRun.wholeF (fun p => HandSHeadRun.stepQ (HandSHeadRun.denQ HandSHeadRun.tabQ) p w) HandSHeadRun.fenceQ 6000 RT.prog).map (fun x => HandSHeadRun.looksF RT.prog x.1.heap x.2.abs) = some true := by kernel_rfl
theorem runT2 (w : World) : (HandSHeadRun.wholeF (fun p => HandSHeadRun.stepQ (HandSHeadRun.denQ HandSHeadRun.tabQ) p w) HandSHeadRun.fenceQ 6000 RT.prog).map (fun x => HandSHeadRun.seenQ (PySem.W.view RT.prog [0, 76]) looseT (PySem.importedModules RT.prog.main.body) (fun s => PySem.W.xlAt (PySem.W.view RT.prog [0, 76]) [] s && PySem.W.recOk RT.toRowW.records s) x.2.abs) = some (PySem.W.openGood (PySem.W.view RT.prog [0, 76]) looseT) := by kernel_rfl
theorem runT3 (w : World) : (HandSHeadRun.wholeF (fun p => HandSHeadRun.stepQ (HandSHeadRun.denQ HandSHeadRun.tabQ) p w) HandSHeadRun.fenceQ 6000 RT.prog).map (fun x => obT x.2) = some (hkT.val w) := by kernel_rfl
theorem runT (w : World) : HandSHeadRun.RunEqI RT (PySem.W.view RT.prog [0, 76]) hkT obT 6000 looseT w := by
  unfold HandSHeadRun.RunEqI
  exact map3 (runT1 w) (runT2 w) (runT3 w)
end Pf

/-! Dn0: deep data D over the abstract heap of the hand layer; expressions, tests, blocks that compute plain functions of data. -/
namespace Dn
open PySem PySem.Spec PyProof.Rows L2

/-- data: what a value is with all that hangs on it -/
inductive D where
  | non | bl (b : Bool) | int (i : Int) | str (x : Str) | ty (n : String)
  | tup (xs : List D) | lst (xs : List D)
  | scr (ns : List Int)
  | obj (C : Addr) (ns : List Str) (ds : List D)
  | cls (C : Addr)

structure Exc where
  C : Addr
  fs : Option (List Str × List D)

inductive Res (α : Type) where
  | ok (a : α) | ex (e : Exc) | no

namespace Res
def bind {α β : Type} (r : Res α) (k : α → Res β) : Res β := match r with
  | .ok a => k a
  | .ex e => .ex e
  | .no => .no
variable {α β : Type}
@[simp] theorem bind_ok (a : α) (k : α → Res β) : (Res.ok a).bind k = k a := rfl
@[simp] theorem bind_ex (e : Exc) (k : α → Res β) : (Res.ex e : Res α).bind k = .ex e := rfl
@[simp] theorem bind_no (k : α → Res β) : (Res.no : Res α).bind k = .no := rfl
theorem bind_ok_iff {r : Res α} {k : α → Res β} {b : β} : r.bind k = .ok b ↔ ∃ a, r = .ok a ∧ k a = .ok b := by
  cases r <;> simp [bind]
theorem bind_ex_of {r : Res α} {k : α → Res β} {e : Exc} (h : r.bind k = .ex e) : r = .ex e ∨ ∃ a, r = .ok a ∧ k a = .ex e := by
  cases r with
  | ok a => exact .inr ⟨a, rfl, h⟩
  | ex e' =>
    have h' : (Res.ex e' : Res β) = .ex e := h
    injection h' with h'
    exact .inl (congrArg Res.ex h')
  | no => cases h
end Res

mutual
inductive Rep (K : PySem.W.Frag) (F : Hp) : V → D → Prop
  | non : Rep K F .non .non
  | bl (b : Bool) : Rep K F (.bl b) (.bl b)
  | int (i : Int) : Rep K F (.int i) (.int i)
  | str (x : Str) : Rep K F (.str x) (.str x)
  | ty (n : String) : Rep K F (.ty n) (.ty n)
  | tup {a : Addr} {xs : List V} {ds : List D} : SqT K F a xs → Reps K F xs ds → Rep K F (.ref a) (.tup ds)
  | lst {a : Addr} {xs : List V} {ds : List D} : F a = some (.lst xs) → Reps K F xs ds → Rep K F (.ref a) (.lst ds)
  | scr {a : Addr} {ns : List Int} : SqL K F a (ns.map V.int) → Rep K F (.ref a) (.scr ns)
  | obj {a C dx : Addr} {fvs : List (Str × V)} {ns : List Str} {ds : List D} : F a = some (.ins C dx fvs) → fvs.map Prod.fst = ns → Reps K F (fvs.map Prod.snd) ds → Rep K F (.ref a) (.obj C ns ds)
  | cls (C : Addr) : Rep K F (.ref C) (.cls C)
inductive Reps (K : PySem.W.Frag) (F : Hp) : List V → List D → Prop
  | nil : Reps K F [] []
  | cons {v : V} {d : D} {vs : List V} {ds : List D} : Rep K F v d → Reps K F vs ds → Reps K F (v :: vs) (d :: ds)
end

section
variable {K : PySem.W.Frag} {F F' : Hp}
theorem sqT_mono (e : Same F F') {a : Addr} {xs : List V} (h : SqT K F a xs) : SqT K F' a xs := by
  rcases h with (h | ⟨o, h⟩) | h
  · exact .inl (.inl (e _ _ h))
  · exact .inl (.inr ⟨o, e _ _ h⟩)
  · exact .inr h
mutual
theorem Rep.mono (e : Same F F') : ∀ {v : V} {d : D}, Rep K F v d → Rep K F' v d
  | _, _, .non => .non
  | _, _, .bl b => .bl b
  | _, _, .int i => .int i
  | _, _, .str x => .str x
  | _, _, .ty n => .ty n
  | _, _, .tup h hs => .tup (sqT_mono e h) (Reps.mono e hs)
  | _, _, .lst h hs => .lst (e _ _ h) (Reps.mono e hs)
  | _, _, .scr h => .scr (e.seq h)
  | _, _, .obj h hn hs => .obj (e _ _ h) hn (Reps.mono e hs)
  | _, _, .cls C => .cls C
theorem Reps.mono (e : Same F F') : ∀ {vs : List V} {ds : List D}, Reps K F vs ds → Reps K F' vs ds
  | _, _, .nil => .nil
  | _, _, .cons h hs => .cons (Rep.mono e h) (Reps.mono e hs)
end
theorem Reps.length : ∀ {vs : List V} {ds : List D}, Reps K F vs ds → vs.length = ds.length
  | _, _, .nil => rfl
  | _, _, .cons _ hs => congrArg (· + 1) (Reps.length hs)
theorem Reps.get : ∀ {vs : List V} {ds : List D} {i : Nat} {d : D}, Reps K F vs ds → ds[i]? = some d → ∃ v, vs[i]? = some v ∧ Rep K F v d
  | _, _, _, _, .nil, e => by simp at e
  | _, _, 0, _, .cons h _, e => by
    simp at e
    subst e
    exact ⟨_, rfl, h⟩
  | _, _, i + 1, d, .cons _ hs, e => by
    obtain ⟨v, h1, h2⟩ := Reps.get (i := i) (d := d) hs (by simpa using e)
    exact ⟨v, by simpa using h1, h2⟩
theorem Reps.getV : ∀ {vs : List V} {ds : List D} {i : Nat} {v : V}, Reps K F vs ds → vs[i]? = some v → ∃ d, ds[i]? = some d ∧ Rep K F v d
  | _, _, _, _, .nil, e => by simp at e
  | _, _, 0, _, .cons h _, e => by
    simp at e
    subst e
    exact ⟨_, rfl, h⟩
  | _, _, i + 1, v, .cons _ hs, e => by
    obtain ⟨d, h1, h2⟩ := Reps.getV (i := i) (v := v) hs (by simpa using e)
    exact ⟨d, by simpa using h1, h2⟩
theorem Reps.append : ∀ {vs ws : List V} {ds es : List D}, Reps K F vs ds → Reps K F ws es → Reps K F (vs ++ ws) (ds ++ es)
  | _, _, _, _, .nil, h => h
  | _, _, _, _, .cons h hs, h' => .cons h (Reps.append hs h')
theorem Reps.take : ∀ {vs : List V} {ds : List D} (n : Nat), Reps K F vs ds → Reps K F (vs.take n) (ds.take n)
  | _, _, 0, _ => .nil
  | _, _, _ + 1, .nil => .nil
  | _, _, n + 1, .cons h hs => .cons h (Reps.take n hs)
theorem Reps.drop : ∀ {vs : List V} {ds : List D} (n : Nat), Reps K F vs ds → Reps K F (vs.drop n) (ds.drop n)
  | _, _, 0, h => h
  | _, _, _ + 1, .nil => .nil
  | _, _, n + 1, .cons _ hs => Reps.drop n hs
theorem Reps.set {v : V} {d : D} (r : Rep K F v d) : ∀ {vs : List V} {ds : List D} (i : Nat), Reps K F vs ds → Reps K F (vs.set i v) (ds.set i d)
  | _, _, _, .nil => .nil
  | _, _, 0, .cons _ hs => .cons r hs
  | _, _, i + 1, .cons h hs => .cons h (Reps.set r i hs)
theorem Reps.one {v : V} {d : D} (r : Rep K F v d) : Reps K F [v] [d] := .cons r .nil
end

/-- what is frozen (F within H) grows; what was tracked stays; what is newly frozen is new -/
structure Step (F H F' H' : Hp) : Prop where
  old : Same H H'
  mono : Same F F'
  sub : Same F' H'
  new : ∀ b o, F' b = some o → F b = none → H b = none
theorem Step.refl {F H : Hp} (s : Same F H) : Step F H F H := ⟨Same.refl _, Same.refl _, s, fun b o e n => by rw [n] at e; cases e⟩
theorem Step.trans {F H F1 H1 F2 H2 : Hp} (a : Step F H F1 H1) (b : Step F1 H1 F2 H2) : Step F H F2 H2 :=
  ⟨a.old.trans b.old, a.mono.trans b.mono, b.sub, fun c o e n => by
    cases q : F1 c with
    | none => exact a.old.free (b.new c o e q)
    | some u => exact a.new c u q n⟩
/-- a new object, frozen -/
theorem Step.push {F H : Hp} {p : Addr} {o : HO} (s : Same F H) (n : H p = none) : Step F H (upd F p o) (upd H p o) := by
  have nF : F p = none := s.free n
  refine ⟨fun b u e => ?_, fun b u e => ?_, fun b u e => ?_, fun b u e nb => ?_⟩
  · rw [upd_ne (ne_of_none e n)]
    exact e
  · rw [upd_ne (ne_of_none e nF)]
    exact e
  · by_cases hb : b = p
    · subst hb
      rw [upd_same] at e ⊢
      exact e
    · rw [upd_ne hb] at e ⊢
      exact s _ _ e
  · by_cases hb : b = p
    · subst hb
      exact n
    · rw [upd_ne hb, nb] at e
      cases e

theorem Reps.ofGet {K : PySem.W.Frag} {F : Hp} : ∀ {vs : List V} {ds : List D}, vs.length = ds.length → (∀ (k : Nat) (x : V) (d : D), vs[k]? = some x → ds[k]? = some d → Rep K F x d) → Reps K F vs ds
  | [], [], _, _ => .nil
  | [], _ :: _, h, _ => by simp at h
  | _ :: _, [], h, _ => by simp at h
  | v :: vs, d :: ds, h, g => .cons (g 0 v d rfl rfl) (Reps.ofGet (by simpa using h) fun k x e hx he => g (k + 1) x e (by simpa using hx) (by simpa using he))
/-- a slot: not told, a datum, an own list (this def alone holds it), an own instance -/
inductive Cell where
  | un | va (d : D) | ow (ds : List D) | ob (b : Addr) (C : Addr) (ns : List Str) (ds : List D)
  | tr (n : Nat) (ds : List D) | al (i : Nat) (p : List Nat)
def Cell.isOw : Cell → Bool
  | .ow _ => true
  | .ob _ _ _ _ => true
  | _ => false
abbrev Sto := List Cell
def CellR (K : PySem.W.Frag) (Hin F H : Hp) (s : Option (Option V)) : Cell → Prop
  | .un => True
  | .va d => ∃ v, s = some (some v) ∧ Rep K F v d
  | .ow ds => ∃ a xs, s = some (some (.ref a)) ∧ H a = some (.lst xs) ∧ F a = none ∧ Hin a = none ∧ Reps K F xs ds
  | .ob b C ns ds => ∃ a dx fvs, s = some (some (.ref a)) ∧ H a = some (.ins C dx fvs) ∧ F a = none ∧ Hin a = none ∧ (fvs.map Prod.fst = ns ∧ a = b) ∧ Reps K F (fvs.map Prod.snd) ds
  | .tr _ _ => True
  | .al _ _ => True
/-- an own tree of lists, n deep, below it data; o tells each node's place -/
def TrR (K : PySem.W.Frag) (F H : Hp) (o : Addr → Option (List Nat)) : Nat → List Nat → V → D → Prop
  | 0, _, v, d => Rep K F v d
  | n + 1, p, v, d => ∃ a xs ds, v = .ref a ∧ d = .lst ds ∧ o a = some p ∧ H a = some (.lst xs) ∧ xs.length = ds.length ∧ ∀ k x d', xs[k]? = some x → ds[k]? = some d' → TrR K F H o n (p ++ [k]) x d'
def oS (o : Addr → Option (Nat × List Nat)) (i : Nat) (a : Addr) : Option (List Nat) := match o a with
  | some (j, p) => if j = i then some p else none
  | none => none
theorem oS_some {o : Addr → Option (Nat × List Nat)} {i : Nat} {a : Addr} {p : List Nat} : oS o i a = some p ↔ o a = some (i, p) := by
  unfold oS
  cases h : o a with
  | none => simp
  | some z =>
    obtain ⟨j, q⟩ := z
    by_cases hj : j = i
    · subst hj
      simp
    · simp [hj]
theorem TrR.mono {K : PySem.W.Frag} {F F' H H' : Hp} {o o' : Addr → Option (List Nat)} (hF : Same F F') (hH : ∀ a p, o a = some p → ∀ xs, H a = some (.lst xs) → H' a = some (.lst xs)) (ho : ∀ a p, o a = some p → o' a = some p) : ∀ (n : Nat) (p : List Nat) (v : V) (d : D), TrR K F H o n p v d → TrR K F' H' o' n p v d
  | 0, p, v, d, h => Rep.mono hF h
  | n + 1, p, v, d, ⟨a, xs, ds, e1, e2, e3, e4, e5, e6⟩ => ⟨a, xs, ds, e1, e2, ho a p e3, hH a p e3 xs e4, e5, fun k x d' hx hd => TrR.mono hF hH ho n (p ++ [k]) x d' (e6 k x d' hx hd)⟩
theorem TrR.frz {K : PySem.W.Frag} {F F' H : Hp} {q : Addr → Option (List Nat)} (hF : Same F F') (hH : ∀ a p, q a = some p → ∀ xs, H a = some (.lst xs) → F' a = some (.lst xs)) : ∀ (n : Nat) (p : List Nat) (v : V) (d : D), TrR K F H q n p v d → Rep K F' v d
  | 0, p, v, d, h => Rep.mono hF h
  | n + 1, p, v, d, ⟨a, xs, ds, e1, e2, e3, e4, e5, e6⟩ => by
    subst e1 e2
    exact .lst (hH a p e3 xs e4) (Reps.ofGet e5 fun k x d' hx hd => TrR.frz hF hH n (p ++ [k]) x d' (e6 k x d' hx hd))
/-- a fresh tree -/
structure FrT (K : PySem.W.Frag) (F H0 H : Hp) (q : Addr → Option (List Nat)) (n : Nat) (v : V) (d : D) : Prop where
  tr : TrR K F H q n [] v d
  nod : ∀ a p, q a = some p → H0 a = none ∧ F a = none ∧ ∃ xs, H a = some (.lst xs)
  inj : ∀ a b p, q a = some p → q b = some p → a = b
  bnd : ∀ ds, d = .lst ds → ∀ a k p, q a = some (k :: p) → k < ds.length
/-- the trees' nodes: who holds them -/
structure Own (K : PySem.W.Frag) (Hin F : Hp) (σ : L2.St) (H : Hp) (δ : Sto) (o : Addr → Option (Nat × List Nat)) : Prop where
  inj : ∀ a b z, o a = some z → o b = some z → a = b
  nod : ∀ a z, o a = some z → Hin a = none ∧ F a = none ∧ ∃ xs, H a = some (.lst xs)
  sep : ∀ (i : Nat) (c : Cell) (a : Addr), δ[i]? = some c → c.isOw = true → σ[i]? = some (some (.ref a)) → o a = none
  tr : ∀ (i n : Nat) (ds : List D), δ[i]? = some (.tr n ds) → ∃ v, σ[i]? = some (some v) ∧ TrR K F H (oS o i) (n + 1) [] v (.lst ds)
  al : ∀ (j i : Nat) (p : List Nat), δ[j]? = some (.al i p) → ∃ a, σ[j]? = some (some (.ref a)) ∧ o a = some (i, p)
  bnd : ∀ (i n : Nat) (ds : List D), δ[i]? = some (.tr n ds) → ∀ a k p, o a = some (i, k :: p) → k < ds.length

structure StL (K : PySem.W.Frag) (Hin Fin F : Hp) (σ : L2.St) (H : Hp) (δ : Sto) : Prop where
  len : σ.length = δ.length
  st : Step Fin Hin F H
  cell : ∀ (i : Nat) (c : Cell), δ[i]? = some c → CellR K Hin F H (σ[i]?) c
  uniq : ∀ (i j : Nat) (ci cj : Cell) (a : Addr), δ[i]? = some ci → δ[j]? = some cj → ci.isOw = true → cj.isOw = true → σ[i]? = some (some (.ref a)) → σ[j]? = some (some (.ref a)) → i = j
  own : ∃ o, Own K Hin F σ H δ o

theorem Own.step {K : PySem.W.Frag} {Hin F F' : Hp} {σ : L2.St} {H H' : Hp} {δ : Sto} {o : Addr → Option (Nat × List Nat)} (x : Own K Hin F σ H δ o) (t : Step F H F' H') : Own K Hin F' σ H' δ o where
  inj := x.inj
  nod := fun a z e => by
    obtain ⟨h1, h2, xs, h3⟩ := x.nod a z e
    refine ⟨h1, ?_, xs, t.old _ _ h3⟩
    cases q : F' a with
    | none => rfl
    | some u =>
      rw [t.new a u q h2] at h3
      cases h3
  sep := x.sep
  tr := fun i n ds e => by
    obtain ⟨v, h1, h2⟩ := x.tr i n ds e
    exact ⟨v, h1, TrR.mono t.mono (fun a _ _ xs h => t.old _ _ h) (fun _ _ h => h) _ _ _ _ h2⟩
  al := x.al
  bnd := x.bnd
/-- a slot changes and holds no tree -/
theorem Own.set {K : PySem.W.Frag} {Hin F : Hp} {σ : L2.St} {H : Hp} {δ : Sto} {o : Addr → Option (Nat × List Nat)} {i : Nat} {s : Option V} {c : Cell} (x : Own K Hin F σ H δ o) (hl : σ.length = δ.length) (nt : ∀ n ds, c ≠ .tr n ds) (na : ∀ j p, c ≠ .al j p) (sp : c.isOw = true → ∀ a, s = some (.ref a) → o a = none) : Own K Hin F (σ.set i s) H (δ.set i c) o where
  inj := x.inj
  nod := x.nod
  sep := fun j cj a e1 e2 e3 => by
    by_cases hj : i = j
    · subst hj
      have hi : i < δ.length := by
        have := (List.getElem?_eq_some_iff.mp e1).1
        simpa using this
      rw [List.getElem?_set_self hi] at e1
      rw [List.getElem?_set_self (by rw [hl]; exact hi)] at e3
      cases e1
      cases e3
      exact sp e2 a rfl
    · rw [List.getElem?_set_ne hj] at e1 e3
      exact x.sep j cj a e1 e2 e3
  tr := fun j n ds e => by
    by_cases hj : i = j
    · subst hj
      have hi : i < δ.length := by
        have := (List.getElem?_eq_some_iff.mp e).1
        simpa using this
      rw [List.getElem?_set_self hi] at e
      cases e
      exact absurd rfl (nt n ds)
    · rw [List.getElem?_set_ne hj] at e
      rw [List.getElem?_set_ne hj]
      exact x.tr j n ds e
  al := fun j k p e => by
    by_cases hj : i = j
    · subst hj
      have hi : i < δ.length := by
        have := (List.getElem?_eq_some_iff.mp e).1
        simpa using this
      rw [List.getElem?_set_self hi] at e
      cases e
      exact absurd rfl (na k p)
    · rw [List.getElem?_set_ne hj] at e
      rw [List.getElem?_set_ne hj]
      exact x.al j k p e
  bnd := fun j n ds e => by
    by_cases hj : i = j
    · subst hj
      have hi : i < δ.length := by
        have := (List.getElem?_eq_some_iff.mp e).1
        simpa using this
      rw [List.getElem?_set_self hi] at e
      cases e
      exact absurd rfl (nt n ds)
    · rw [List.getElem?_set_ne hj] at e
      exact x.bnd j n ds e

section
variable {K : PySem.W.Frag} {Hin Fin F F' : Hp} {σ : L2.St} {H H' : Hp} {δ : Sto}
theorem CellR.step {s : Option (Option V)} {c : Cell} (x : CellR K Hin F H s c) (t : Step F H F' H') : CellR K Hin F' H' s c := by
  have nn : ∀ a o, H a = some o → F a = none → F' a = none := fun a o e n => by
    cases q : F' a with
    | none => rfl
    | some u =>
      have := t.new a u q n
      rw [this] at e
      cases e
  cases c with
  | un => trivial
  | va d =>
    obtain ⟨v, e, r⟩ := x
    exact ⟨v, e, r.mono t.mono⟩
  | ow ds =>
    obtain ⟨a, xs, e, h, n, ni, r⟩ := x
    exact ⟨a, xs, e, t.old _ _ h, nn a _ h n, ni, r.mono t.mono⟩
  | ob b C ns ds =>
    obtain ⟨a, dx, fvs, e, h, n, ni, en, r⟩ := x
    exact ⟨a, dx, fvs, e, t.old _ _ h, nn a _ h n, ni, en, r.mono t.mono⟩
  | tr n ds => trivial
  | al i p => trivial
theorem StL.step (x : StL K Hin Fin F σ H δ) (t : Step F H F' H') : StL K Hin Fin F' σ H' δ :=
  ⟨x.len, x.st.trans t, fun i c e => (x.cell i c e).step t, x.uniq, x.own.imp fun o h => h.step t⟩
theorem StL.sub (x : StL K Hin Fin F σ H δ) : Same F H := x.st.sub
/-- a slot takes a datum -/
theorem StL.set {i : Nat} {v : V} {d : D} (x : StL K Hin Fin F σ H δ) (r : Rep K F v d) : StL K Hin Fin F (σ.set i (some v)) H (δ.set i (.va d)) := by
  refine ⟨by simp [x.len], x.st, fun j c e => ?_, fun j k cj ck a ej ek oj ok sj sk => ?_, x.own.imp fun o h => h.set x.len (fun _ _ z => (nomatch z)) (fun _ _ z => (nomatch z)) (fun z => (nomatch z))⟩
  · by_cases hj : i = j
    · subst hj
      by_cases hl : i < δ.length
      · rw [List.getElem?_set_self hl] at e
        cases e
        exact ⟨v, by rw [List.getElem?_set_self (by rw [x.len]; exact hl)], r⟩
      · rw [List.getElem?_eq_none (by simpa using hl)] at e
        cases e
    · rw [List.getElem?_set_ne hj] at e
      rw [List.getElem?_set_ne hj]
      exact x.cell j c e
  · have nj : ∀ (m : Nat) (cm : Cell), (δ.set i (.va d))[m]? = some cm → cm.isOw = true → i ≠ m := fun m cm e o z => by
      subst z
      by_cases hl : i < δ.length
      · rw [List.getElem?_set_self hl] at e
        cases e
        cases o
      · rw [List.getElem?_eq_none (by simpa using hl)] at e
        cases e
    have h1 := nj j cj ej oj
    have h2 := nj k ck ek ok
    rw [List.getElem?_set_ne h1] at ej sj
    rw [List.getElem?_set_ne h2] at ek sk
    exact x.uniq j k cj ck a ej ek oj ok sj sk
/-- a slot takes a new list, its own -/
theorem StL.setOw {i : Nat} {a : Addr} {xs : List V} {ds : List D} (x : StL K Hin Fin F σ H δ) (h : H a = some (.lst xs)) (nF : F a = none) (ni : Hin a = none) (r : Reps K F xs ds)
    (fr : ∀ (j : Nat) (c : Cell), δ[j]? = some c → c.isOw = true → σ[j]? = some (some (.ref a)) → j = i) (fo : ∃ o, Own K Hin F σ H δ o ∧ o a = none) : StL K Hin Fin F (σ.set i (some (.ref a))) H (δ.set i (.ow ds)) := by
  refine ⟨by simp [x.len], x.st, fun j c e => ?_, fun j k cj ck b ej ek oj ok sj sk => ?_, fo.imp fun o h => h.1.set x.len (fun _ _ z => (nomatch z)) (fun _ _ z => (nomatch z)) (fun _ b z => by cases z; exact h.2)⟩
  · by_cases hj : i = j
    · subst hj
      by_cases hl : i < δ.length
      · rw [List.getElem?_set_self hl] at e
        cases e
        exact ⟨a, xs, by rw [List.getElem?_set_self (by rw [x.len]; exact hl)], h, nF, ni, r⟩
      · rw [List.getElem?_eq_none (by simpa using hl)] at e
        cases e
    · rw [List.getElem?_set_ne hj] at e
      rw [List.getElem?_set_ne hj]
      exact x.cell j c e
  · have self : ∀ (m : Nat), i = m → m < (δ.set i (.ow ds)).length → (σ.set i (some (.ref a)))[m]? = some (some (.ref b)) → b = a := fun m z hl e => by
      subst z
      rw [List.getElem?_set_self (by rw [x.len]; simpa using hl)] at e
      cases e
      rfl
    have lt : ∀ {m : Nat} {cm : Cell}, (δ.set i (.ow ds))[m]? = some cm → m < (δ.set i (.ow ds)).length := fun e => (List.getElem?_eq_some_iff.mp e).1
    by_cases h1 : i = j
    · have eb := self j h1 (lt ej) sj
      by_cases h2 : i = k
      · exact h1.symm.trans h2
      · rw [List.getElem?_set_ne h2] at ek sk
        rw [eb] at sk
        exact h1.symm.trans (fr k ck ek ok sk).symm
    · by_cases h2 : i = k
      · have eb := self k h2 (lt ek) sk
        rw [List.getElem?_set_ne h1] at ej sj
        rw [eb] at sj
        exact (fr j cj ej oj sj).trans h2
      · rw [List.getElem?_set_ne h1] at ej sj
        rw [List.getElem?_set_ne h2] at ek sk
        exact x.uniq j k cj ck b ej ek oj ok sj sk
/-- slots forgotten -/
theorem StL.forget {i : Nat} {s : Option V} (x : StL K Hin Fin F σ H δ) : StL K Hin Fin F (σ.set i s) H (δ.set i .un) := by
  refine ⟨by simp [x.len], x.st, fun j c e => ?_, fun j k cj ck a ej ek oj ok sj sk => ?_, x.own.imp fun o h => h.set x.len (fun _ _ z => (nomatch z)) (fun _ _ z => (nomatch z)) (fun z => (nomatch z))⟩
  · by_cases hj : i = j
    · subst hj
      by_cases hl : i < δ.length
      · rw [List.getElem?_set_self hl] at e
        cases e
        trivial
      · rw [List.getElem?_eq_none (by simpa using hl)] at e
        cases e
    · rw [List.getElem?_set_ne hj] at e
      rw [List.getElem?_set_ne hj]
      exact x.cell j c e
  · have nj : ∀ (m : Nat) (cm : Cell), (δ.set i .un)[m]? = some cm → cm.isOw = true → i ≠ m := fun m cm e o z => by
      subst z
      by_cases hl : i < δ.length
      · rw [List.getElem?_set_self hl] at e
        cases e
        cases o
      · rw [List.getElem?_eq_none (by simpa using hl)] at e
        cases e
    have h1 := nj j cj ej oj
    have h2 := nj k ck ek ok
    rw [List.getElem?_set_ne h1] at ej sj
    rw [List.getElem?_set_ne h2] at ek sk
    exact x.uniq j k cj ck a ej ek oj ok sj sk
end
end Dn

/-! Dn1: the judgements DE (expressions), DA (arguments), DL (a list or tuple that is read), DF (a new list), DT (tests). -/
namespace Dn
open PySem PySem.Spec PyProof.Rows L2

def Res.opt {α : Type} : Option α → Res α
  | some a => .ok a
  | none => .no
@[simp] theorem Res.opt_some {α : Type} (a : α) : Res.opt (some a) = .ok a := rfl
@[simp] theorem Res.opt_none {α : Type} : (Res.opt none : Res α) = .no := rfl
theorem Res.opt_ok {α : Type} {o : Option α} {a : α} (h : Res.opt o = .ok a) : o = some a := by
  cases o with
  | none => cases h
  | some b =>
    injection h with h
    rw [h]

/-- what lies at an exception's dict -/
def ExR (K : PySem.W.Frag) (H : Hp) (x : Exc) (od : Option Addr) : Prop := match x.fs with
  | none => od = none
  | some (ns, ds) => ∃ a fvs, od = some a ∧ H a = some (.xd fvs) ∧ fvs.map Prod.fst = ns ∧ Reps K H (fvs.map Prod.snd) ds
/-- the exception x may leave -/
def ExA (E : XK) (K : PySem.W.Frag) (Hin : Hp) (x : Exc) : Prop := ∀ H' od, Same Hin H' → ExR K H' x od → E (.ref x.C) od H'
/-- a result that is a value, or an exception that may leave -/
structure Fine {α : Type} (E : XK) (K : PySem.W.Frag) (Hin : Hp) (r : Res α) : Prop where
  hx : ∀ x, r = .ex x → ExA E K Hin x
  hn : r ≠ .no
section
variable {α β : Type} {E : XK} {K : PySem.W.Frag} {Hin : Hp} {r : Res α} {k : α → Res β}
theorem Fine.left (h : Fine E K Hin (r.bind k)) : Fine E K Hin r := by
  cases r with
  | ok a => exact ⟨fun x e => (nomatch e), fun e => (nomatch e)⟩
  | ex x => exact ⟨fun y e => h.hx y (by injection e with e; rw [e]; rfl), fun e => (nomatch e)⟩
  | no => exact absurd rfl h.hn
theorem Fine.right {a : α} (h : Fine E K Hin (r.bind k)) (e : r = .ok a) : Fine E K Hin (k a) := by
  rw [e] at h
  exact h
theorem Fine.opt {o : Option α} (h : Fine E K Hin (Res.opt o)) : ∃ a, o = some a := by
  cases o with
  | none => exact absurd rfl h.hn
  | some a => exact ⟨a, rfl⟩
end

section
variable (K : PySem.W.Frag) (E : XK)
def tD (f : Sto → Res D) : TE := fun σ H Q => ∃ Hin Fin F δ, StL K Hin Fin F σ H δ ∧ Fine E K Hin (f δ) ∧ ∀ v F1 H1 d, f δ = .ok d → Step F H F1 H1 → Rep K F1 v d → Q v H1
def tDA (f : Sto → Res (List D)) : TA := fun σ H Q => ∃ Hin Fin F δ, StL K Hin Fin F σ H δ ∧ Fine E K Hin (f δ) ∧ ∀ vs F1 H1 ds, f δ = .ok ds → Step F H F1 H1 → Reps K F1 vs ds → Q vs H1
def tDT (f : Sto → Res Bool) : TT := fun σ H Q => ∃ Hin Fin F δ, StL K Hin Fin F σ H δ ∧ Fine E K Hin (f δ) ∧ ∀ b F1 H1, f δ = .ok b → Step F H F1 H1 → Q b H1
/-- a list (false, at H) or a tuple (true, frozen) that is read -/
def SqB (b : Bool) (F H : Hp) (a : Addr) (xs : List V) : Prop := if b = true then SqT K F a xs else H a = some (.lst xs)
def tDL (f : Sto → Res (Bool × List D)) : TE := fun σ H Q => ∃ Hin Fin F δ, StL K Hin Fin F σ H δ ∧ Fine E K Hin (f δ) ∧ ∀ a xs F1 H1 b ds, f δ = .ok (b, ds) → Step F H F1 H1 → SqB K b F1 H1 a xs → Reps K F1 xs ds → Q (.ref a) H1
def tDF (f : Sto → Res (List D)) : TE := fun σ H Q => ∃ Hin Fin F δ, StL K Hin Fin F σ H δ ∧ Fine E K Hin (f δ) ∧ ∀ a xs F1 H1 ds, f δ = .ok ds → Step F H F1 H1 → H1 a = some (.lst xs) → F1 a = none → H a = none → Reps K F1 xs ds → Q (.ref a) H1
end
abbrev DE (X : Cx) (E : XK) (e : Expr) (f : Sto → Res D) : Prop := PE X e (tD X.K E f)
abbrev DA (X : Cx) (E : XK) (es : List Expr) (f : Sto → Res (List D)) : Prop := PA X es (tDA X.K E f)
abbrev DT (X : Cx) (E : XK) (e : Expr) (f : Sto → Res Bool) : Prop := PT X e (tDT X.K E f)
abbrev DL (X : Cx) (E : XK) (e : Expr) (f : Sto → Res (Bool × List D)) : Prop := PE X e (tDL X.K E f)
abbrev DF (X : Cx) (E : XK) (e : Expr) (f : Sto → Res (List D)) : Prop := PE X e (tDF X.K E f)

theorem PE.imp {X : Cx} {e : Expr} {t t' : TE} (h : PE X e t) (i : ∀ σ H Q, t' σ H Q → t σ H Q) : PE X e t' := ⟨fun pins s σ H Q I hw => h.run pins s σ H Q I (i σ H Q hw)⟩
theorem PT.imp {X : Cx} {e : Expr} {t t' : TT} (h : PT X e t) (i : ∀ σ H Q, t' σ H Q → t σ H Q) : PT X e t' := ⟨fun pins s σ H Q I hw => h.run pins s σ H Q I (i σ H Q hw)⟩
theorem PW.imp {X : Cx} {e : Expr} {t t' : TT} (h : PW X e t) (i : ∀ σ H Q, t' σ H Q → t σ H Q) : PW X e t' := ⟨fun wh pins s σ H Q I hw => h.run wh pins s σ H Q I (i σ H Q hw)⟩
theorem PA.imp {X : Cx} {e : List Expr} {t t' : TA} (h : PA X e t) (i : ∀ σ H Q, t' σ H Q → t σ H Q) : PA X e t' := ⟨fun pos pins s σ H Q I hw => h.run pos pins s σ H Q I (i σ H Q hw)⟩
theorem PS.imp {X : Cx} {e : Stmt} {t t' : TS} (h : PS X e t) (i : ∀ D σ H, t' D σ H → t D σ H) : PS X e t' := ⟨fun pins s σ H D I hw => h.run pins s σ H D I (i D σ H hw)⟩
theorem PSs.imp {X : Cx} {e : List Stmt} {t t' : TS} (h : PSs X e t) (i : ∀ D σ H, t' D σ H → t D σ H) : PSs X e t' := ⟨fun pins s σ H D I hw => h.run pins s σ H D I (i D σ H hw)⟩

section
variable {K : PySem.W.Frag} {E : XK} {Hin Fin F : Hp} {σ : L2.St} {H : Hp} {δ : Sto} {Q : VK}
theorem tD.mk {f : Sto → Res D} (st : StL K Hin Fin F σ H δ) (fi : Fine E K Hin (f δ)) (q : ∀ v F1 H1 d, f δ = .ok d → Step F H F1 H1 → StL K Hin Fin F1 σ H1 δ → Rep K F1 v d → Q v H1) : tD K E f σ H Q :=
  ⟨Hin, Fin, F, δ, st, fi, fun v F1 H1 d e t r => q v F1 H1 d e t (st.step t) r⟩
theorem tDL.mk {f : Sto → Res (Bool × List D)} (st : StL K Hin Fin F σ H δ) (fi : Fine E K Hin (f δ)) (q : ∀ a xs F1 H1 b ds, f δ = .ok (b, ds) → Step F H F1 H1 → StL K Hin Fin F1 σ H1 δ → SqB K b F1 H1 a xs → Reps K F1 xs ds → Q (.ref a) H1) : tDL K E f σ H Q :=
  ⟨Hin, Fin, F, δ, st, fi, fun a xs F1 H1 b ds e t s r => q a xs F1 H1 b ds e t (st.step t) s r⟩
theorem tDA.mk {f : Sto → Res (List D)} {Q : List V → Hp → Prop} (st : StL K Hin Fin F σ H δ) (fi : Fine E K Hin (f δ)) (q : ∀ vs F1 H1 ds, f δ = .ok ds → Step F H F1 H1 → StL K Hin Fin F1 σ H1 δ → Reps K F1 vs ds → Q vs H1) : tDA K E f σ H Q :=
  ⟨Hin, Fin, F, δ, st, fi, fun v F1 H1 d e t r => q v F1 H1 d e t (st.step t) r⟩
theorem tDT.mk {f : Sto → Res Bool} {Q : Bool → Hp → Prop} (st : StL K Hin Fin F σ H δ) (fi : Fine E K Hin (f δ)) (q : ∀ b F1 H1, f δ = .ok b → Step F H F1 H1 → StL K Hin Fin F1 σ H1 δ → Q b H1) : tDT K E f σ H Q :=
  ⟨Hin, Fin, F, δ, st, fi, fun v F1 H1 e t => q v F1 H1 e t (st.step t)⟩
end

section
variable {X : Cx} {E : XK} {pos : Pos} {a b c e : Expr} {es : List Expr} {f g h : Sto → Res D} {fa : Sto → Res (List D)} {fl : Sto → Res (Bool × List D)} {p q r : Sto → Res Bool}

/-! ### names, constants -/
@[simp] def dVar (i : Nat) : Sto → Res D := fun δ => match δ[i]? with
  | some (.va d) => .ok d
  | _ => .no
theorem de_var {i : Nat} {x : Str} (hN : X.N[i]? = some x := by rfl) (hv : Vis X.env.scope x := by first | exact Or.inl rfl | exact Or.inr (Or.inl rfl) | exact Or.inr (Or.inr rfl)) (hd : (x == ("__debug__" : Str)) = false := by decide) (hcd : (x == ("__classdict__" : Str)) = false := by decide) : DE X E (.Name x pos) (dVar i) := by
  refine PE.imp (pe_var hN hv hd hcd) fun σ H Q w => ?_
  obtain ⟨Hin, Fin, F, δ, st, fi, k⟩ := w
  unfold dVar at fi k
  cases q : δ[i]? with
  | none =>
    rw [q] at fi
    exact absurd rfl fi.hn
  | some cl =>
    rw [q] at fi k
    cases cl with
    | va d =>
      obtain ⟨v, e, r⟩ := st.cell i _ q
      exact ⟨v, e, k v F H d rfl (Step.refl st.sub) r⟩
    | un => exact absurd rfl fi.hn
    | ow _ => exact absurd rfl fi.hn
    | ob _ _ _ _ => exact absurd rfl fi.hn
    | tr _ _ => exact absurd rfl fi.hn
    | al _ _ => exact absurd rfl fi.hn
@[simp] def dK (d : D) : Sto → Res D := fun _ => .ok d
theorem de_tC {v : V} {d : D} (h : PE X e (tC v)) (r : ∀ F, Rep X.K F v d) : DE X E e (dK d) := PE.imp h fun σ H Q w => by
  obtain ⟨Hin, Fin, F, δ, st, fi, k⟩ := w
  exact k v F H d rfl (Step.refl st.sub) (r F)
theorem de_int {i j} : DE X E (.Constant (.int i) j pos) (dK (.int i)) := de_tC pe_int fun _ => .int i
theorem de_bl {b j} : DE X E (.Constant (.bool b) j pos) (dK (.bl b)) := de_tC pe_bl fun _ => .bl b
theorem de_non {j} : DE X E (.Constant .none j pos) (dK .non) := de_tC pe_non fun _ => .non
theorem de_str {x j} : DE X E (.Constant (.str x) j pos) (dK (.str x)) := de_tC pe_str fun _ => .str x
/-- a module's constant -/
theorem de_glob {x : Str} {v : V} {u : Value} {d : D} (hg : Gl X x) (hm : X.mg x = some u) (r : RelV v u) (rd : ∀ F, Rep X.K F v d) (hd : (x == ("__debug__" : Str)) = false := by decide) : DE X E (.Name x pos) (dK d) := de_tC (pe_glob hg hm r hd) rd
theorem de_globI {x : Str} {i : Int} (hm : ∃ t, X.mg x = some (.int i t)) (hg : Gl X x := by rfl) (hd : (x == ("__debug__" : Str)) = false := by decide) : DE X E (.Name x pos) (dK (.int i)) := by
  obtain ⟨t, hm⟩ := hm
  exact de_glob (v := .int i) hg hm ⟨t, rfl⟩ (fun _ => .int i) hd
theorem de_globS {x z : Str} (hm : ∃ t, X.mg x = some (.str z t)) (hg : Gl X x := by rfl) (hd : (x == ("__debug__" : Str)) = false := by decide) : DE X E (.Name x pos) (dK (.str z)) := by
  obtain ⟨t, hm⟩ := hm
  exact de_glob (v := .str z) hg hm ⟨t, rfl⟩ (fun _ => .str z) hd
theorem de_globC {x : Str} {C : Addr} (hm : X.mg x = some (.ref C)) (hg : Gl X x := by rfl) (hd : (x == ("__debug__" : Str)) = false := by decide) : DE X E (.Name x pos) (dK (.cls C)) := de_glob hg hm (v := .ref C) rfl (fun _ => .cls C) hd
theorem de_blt {x : Str} {n : String} (hm : X.mg x = none) (hv : bootBuiltins x = some (.type n)) (hg : Gl X x := by rfl) (hn : x ≠ "__name__" := by decide) (hd : (x == ("__debug__" : Str)) = false := by decide) : DE X E (.Name x pos) (dK (.ty n)) :=
  de_tC (pe_bltn hg hm hv (v := .ty n) rfl hn hd) fun _ => .ty n

/-! ### operators on values -/
/-- a reading of two values that does o -/
def Does2 (K : PySem.W.Frag) (r : R2) (o : D → D → Option D) : Prop := ∀ (x y : V) (dx dy d : D) (F H : Hp) (Q : VK), Same F H → Rep K F x dx → Rep K F y dy → o dx dy = some d → (∀ z F' H', Step F H F' H' → Rep K F' z d → Q z H') → r x y H Q
def Does1 (K : PySem.W.Frag) (r : V → Hp → VK → Prop) (o : D → Option D) : Prop := ∀ (x : V) (dx d : D) (F H : Hp) (Q : VK), Same F H → Rep K F x dx → o dx = some d → (∀ z F' H', Step F H F' H' → Rep K F' z d → Q z H') → r x H Q
def DoesN (K : PySem.W.Frag) (r : List V → Hp → VK → Prop) (o : List D → Option D) : Prop := ∀ (xs : List V) (ds : List D) (d : D) (F H : Hp) (Q : VK), Same F H → Reps K F xs ds → o ds = some d → (∀ z F' H', Step F H F' H' → Rep K F' z d → Q z H') → r xs H Q
@[simp] def d2 (o : D → D → Option D) (f g : Sto → Res D) : Sto → Res D := fun δ => (f δ).bind fun x => (g δ).bind fun y => Res.opt (o x y)
@[simp] def d1 (o : D → Option D) (f : Sto → Res D) : Sto → Res D := fun δ => (f δ).bind fun x => Res.opt (o x)
@[simp] def dN (o : List D → Option D) (f : Sto → Res (List D)) : Sto → Res D := fun δ => (f δ).bind fun xs => Res.opt (o xs)
theorem tOp_of {r2 : R2} {o : D → D → Option D} (hr : Does2 X.K r2 o) (σ : L2.St) (H : Hp) (Q : VK) (w : tD X.K E (d2 o f g) σ H Q) : tOp r2 (tD X.K E f) (tD X.K E g) σ H Q := by
  obtain ⟨Hin, Fin, F, δ, st, fi, k⟩ := w
  refine tD.mk st fi.left fun v F1 H1 x ex t1 st1 rv => ?_
  have fi1 := fi.right ex
  refine tD.mk st1 fi1.left fun u F2 H2 y ey t2 st2 ru => ?_
  have fi2 := fi1.right ey
  obtain ⟨d, ed⟩ := fi2.opt
  refine hr v u x y d F2 H2 Q st2.sub (rv.mono t2.mono) ru ed fun z F' H' t3 rz => ?_
  exact k z F' H' d (by show (f δ).bind _ = _; rw [ex]; show (g δ).bind _ = _; rw [ey]; show Res.opt (o x y) = _; rw [ed]; rfl) ((t1.trans t2).trans t3) rz
theorem de_op {op : Operator} {r2 : R2} {o : D → D → Option D} (ho : OpR X (binaryOp op) r2) (hr : Does2 X.K r2 o) (ha : DE X E a f) (hb : DE X E b g) : DE X E (.BinOp a op b pos) (d2 o f g) :=
  PE.imp (pe_op ho ha hb) fun σ H Q w => tOp_of hr σ H Q w
theorem de_cmp {op : CmpOp} {r2 : R2} {o : D → D → Option D} (ho : OpR X (compareOp op) r2) (hr : Does2 X.K r2 o) (ha : DE X E a f) (hb : DE X E b g) (hm : behindInMarks op b = false := by first | exact nomark _ (by decide) (by decide) | (with_unfolding_all rfl)) : DE X E (.Compare a [op] [b] pos) (d2 o f g) :=
  PE.imp (pe_cmpR ho ha hb hm) fun σ H Q w => tOp_of hr σ H Q w
theorem de_ix {r2 : R2} {o : D → D → Option D} (ho : IxR X r2) (hr : Does2 X.K r2 o) (ha : DE X E a f) (hb : DE X E b g) (hs : PlainIx b := by exact fun _ _ => rfl) : DE X E (.Subscript a b pos) (d2 o f g) :=
  PE.imp (pe_ix ho ha hb hs) fun σ H Q w => tOp_of hr σ H Q w
theorem de_un {op : UnaryOp} {r1 : V → Hp → VK → Prop} {o : D → Option D} (ho : UnR X (unaryOp op) r1) (hr : Does1 X.K r1 o) (ha : DE X E a f) : DE X E (.UnaryOp op a pos) (d1 o f) := by
  refine PE.imp (pe_un ho ha) fun σ H Q w => ?_
  obtain ⟨Hin, Fin, F, δ, st, fi, k⟩ := w
  refine tD.mk st fi.left fun v F1 H1 x ex t1 st1 rv => ?_
  obtain ⟨d, ed⟩ := (fi.right ex).opt
  exact hr v x d F1 H1 Q st1.sub rv ed fun z F' H' t3 rz => k z F' H' d (by show (f δ).bind _ = _; rw [ex]; show Res.opt (o x) = _; rw [ed]; rfl) (t1.trans t3) rz

/-! ### arguments -/
@[simp] def dNil : Sto → Res (List D) := fun _ => .ok []
@[simp] def dCons (f : Sto → Res D) (g : Sto → Res (List D)) : Sto → Res (List D) := fun δ => (f δ).bind fun x => (g δ).bind fun xs => .ok (x :: xs)
theorem da_nil : DA X E [] dNil := PA.imp pa_nil fun σ H Q w => by
  obtain ⟨Hin, Fin, F, δ, st, fi, k⟩ := w
  exact k [] F H [] rfl (Step.refl st.sub) .nil
theorem da_cons (ha : DE X E e f) (hr : DA X E es fa) (hs : starEach (e :: es) X.env = (false, eval e X.env) :: starEach es X.env := by rfl) : DA X E (e :: es) (dCons f fa) := by
  refine PA.imp (pa_cons ha hr hs) fun σ H Q w => ?_
  obtain ⟨Hin, Fin, F, δ, st, fi, k⟩ := w
  refine tD.mk st fi.left fun v F1 H1 x ex t1 st1 rv => ?_
  have fi1 := fi.right ex
  refine tDA.mk st1 fi1.left fun us F2 H2 xs exs t2 st2 rs => ?_
  exact k (v :: us) F2 H2 (x :: xs) (by show (f δ).bind _ = _; rw [ex]; show (fa δ).bind _ = _; rw [exs]; rfl) (t1.trans t2) (.cons (rv.mono t2.mono) rs)
/-- a call of a built-in by its name -/
theorem de_callB {id : String} {x : Str} {ppos : Pos} {r1 : List V → Hp → VK → Prop} {o : List D → Option D} (hc : CallR X (.builtin id) r1) (hr : DoesN X.K r1 o) (hm : X.mg x = none) (hv : bootBuiltins x = some (.builtin id)) (ha : DA X E (e :: es) fa)
    (hg : Gl X x := by rfl) (hn : x ≠ "__name__" := by decide) (hdb : (x == ("__debug__" : Str)) = false := by decide)
    (he : starEach (e :: es) X.env = (false, eval e X.env) :: starEach es X.env := by rfl) (hpl : (backTo pos (starEach es X.env)).any (·.1) = false := by rfl) : DE X E (.Call (.Name x ppos) (e :: es) [] pos) (dN o fa) := by
  refine PE.imp (pe_callB hc hg hm hv ha hn hdb he hpl) fun σ H Q w => ?_
  obtain ⟨Hin, Fin, F, δ, st, fi, k⟩ := w
  refine tDA.mk st fi.left fun us F2 H2 xs exs t2 st2 rs => ?_
  obtain ⟨d, ed⟩ := (fi.right exs).opt
  exact hr us xs d F2 H2 Q st2.sub rs ed fun z F' H' t3 rz => k z F' H' d (by show (fa δ).bind _ = _; rw [exs]; show Res.opt (o xs) = _; rw [ed]; rfl) (t2.trans t3) rz
theorem de_callTy {T : String} {x : Str} {ppos : Pos} {r1 : List V → Hp → VK → Prop} {o : List D → Option D} (hc : CallR X (.type T) r1) (hr : DoesN X.K r1 o) (hm : X.mg x = none) (hv : bootBuiltins x = some (.type T)) (ha : DA X E (e :: es) fa)
    (hg : Gl X x := by rfl) (hn : x ≠ "__name__" := by decide) (hdb : (x == ("__debug__" : Str)) = false := by decide)
    (he : starEach (e :: es) X.env = (false, eval e X.env) :: starEach es X.env := by rfl) (hpl : (backTo pos (starEach es X.env)).any (·.1) = false := by rfl) : DE X E (.Call (.Name x ppos) (e :: es) [] pos) (dN o fa) := by
  refine PE.imp (pe_callTy hc hg hm hv ha hn hdb he hpl) fun σ H Q w => ?_
  obtain ⟨Hin, Fin, F, δ, st, fi, k⟩ := w
  refine tDA.mk st fi.left fun us F2 H2 xs exs t2 st2 rs => ?_
  obtain ⟨d, ed⟩ := (fi.right exs).opt
  exact hr us xs d F2 H2 Q st2.sub rs ed fun z F' H' t3 rz => k z F' H' d (by show (fa δ).bind _ = _; rw [exs]; show Res.opt (o xs) = _; rw [ed]; rfl) (t2.trans t3) rz
/-- a function of an imported module, by its name -/
theorem de_callI {id : String} {x : Str} {ppos : Pos} {r1 : List V → Hp → VK → Prop} {o : List D → Option D} (hc : CallR X (.builtin id) r1) (hr : DoesN X.K r1 o) (hm : X.mg x = some (.builtin id)) (ha : DA X E (e :: es) fa)
    (hg : Gl X x := by rfl) (hdb : (x == ("__debug__" : Str)) = false := by decide)
    (he : starEach (e :: es) X.env = (false, eval e X.env) :: starEach es X.env := by rfl) (hpl : (backTo pos (starEach es X.env)).any (·.1) = false := by rfl) : DE X E (.Call (.Name x ppos) (e :: es) [] pos) (dN o fa) := by
  refine PE.imp (pe_callBfun hc hg hm ha hdb he hpl) fun σ H Q w => ?_
  obtain ⟨Hin, Fin, F, δ, st, fi, k⟩ := w
  refine tDA.mk st fi.left fun us F2 H2 xs exs t2 st2 rs => ?_
  obtain ⟨d, ed⟩ := (fi.right exs).opt
  exact hr us xs d F2 H2 Q st2.sub rs ed fun z F' H' t3 rz => k z F' H' d (by show (fa δ).bind _ = _; rw [exs]; show Res.opt (o xs) = _; rw [ed]; rfl) (t2.trans t3) rz

/-! ### displays -/
@[simp] def dTup (g : Sto → Res (List D)) : Sto → Res D := fun δ => (g δ).bind fun xs => if xs.length ≤ sizeLine then .ok (.tup xs) else .no
theorem de_tup {x1} (ha : DA X E es fa) : DE X E (.Tuple es x1 pos) (dTup fa) := by
  refine PE.imp (pe_tup ha) fun σ H Q w => ?_
  obtain ⟨Hin, Fin, F, δ, st, fi, k⟩ := w
  refine tDA.mk st fi.left fun us F2 H2 xs exs t2 st2 rs => ?_
  have fi1 := fi.right exs
  by_cases hl : xs.length ≤ sizeLine
  · refine ⟨by rw [rs.length]; exact hl, fun p np => ?_⟩
    have t3 := Step.push (o := .tup us) st2.sub np
    exact k (.ref p) _ _ (.tup xs) (by show (fa δ).bind _ = _; rw [exs]; exact if_pos hl) (t2.trans t3) (.tup (.inl (.inl upd_same)) (rs.mono t3.mono))
  · exact absurd (if_neg hl) fi1.hn
@[simp] def dFl (g : Sto → Res (List D)) : Sto → Res (List D) := fun δ => (g δ).bind fun xs => if xs.length ≤ sizeLine then .ok xs else .no
theorem df_lst (ha : DA X E es fa) : DF X E (.List es pos) (dFl fa) := by
  refine PE.imp (pe_lst ha) fun σ H Q w => ?_
  obtain ⟨Hin, Fin, F, δ, st, fi, k⟩ := w
  refine tDA.mk st fi.left fun us F2 H2 xs exs t2 st2 rs => ?_
  have fi1 := fi.right exs
  by_cases hl : xs.length ≤ sizeLine
  · refine ⟨by rw [rs.length]; exact hl, fun p np => ?_⟩
    have t3 : Step F2 H2 F2 (upd H2 p (.lst us)) := ⟨fun b o e => by rw [upd_ne (ne_of_none e np)]; exact e, Same.refl _, fun b o e => by rw [upd_ne (ne_of_none (st2.sub _ _ e) np)]; exact st2.sub _ _ e, fun b o e n => by rw [n] at e; cases e⟩
    exact k p us F2 _ xs (by show (fa δ).bind _ = _; rw [exs]; exact if_pos hl) (t2.trans t3) upd_same (st2.sub.free np) (t2.old.free np) rs
  · exact absurd (if_neg hl) fi1.hn
/-- a new list, frozen at once -/
@[simp] def dLst (g : Sto → Res (List D)) : Sto → Res D := fun δ => (g δ).bind fun xs => .ok (.lst xs)
theorem step_freeze {F H F1 H1 : Hp} {a : Addr} {o : HO} (t : Step F H F1 H1) (h : H1 a = some o) (n : F1 a = none) (nH : H a = none) : Step F H (upd F1 a o) H1 := by
  refine ⟨t.old, fun b u e => ?_, fun b u e => ?_, fun b u e nb => ?_⟩
  · have e1 := t.mono _ _ e
    rw [upd_ne (ne_of_none e1 n)]
    exact e1
  · by_cases hb : b = a
    · subst hb
      rw [upd_same] at e
      cases e
      exact h
    · rw [upd_ne hb] at e
      exact t.sub _ _ e
  · by_cases hb : b = a
    · subst hb
      exact nH
    · rw [upd_ne hb] at e
      exact t.new _ _ e nb
theorem same_upd {H : Hp} {p : Addr} {o : HO} (n : H p = none) : Same H (upd H p o) := fun b u e => by
  rw [upd_ne (ne_of_none e n)]
  exact e
theorem de_fz {fa : Sto → Res (List D)} (h : DF X E e fa) : DE X E e (dLst fa) := PE.imp h fun σ H Q w => by
  obtain ⟨Hin, Fin, F, δ, st, fi, k⟩ := w
  refine ⟨Hin, Fin, F, δ, st, fi.left, fun a xs F1 H1 ds e t ha nF nH r => ?_⟩
  exact k (.ref a) (upd F1 a (.lst xs)) H1 (.lst ds) (by show (fa δ).bind _ = _; rw [e]; rfl) (step_freeze t ha nF nH) (.lst upd_same (r.mono (same_upd nF)))

/-! ### a list or tuple that is read -/
@[simp] def dSq (f : Sto → Res D) : Sto → Res (Bool × List D) := fun δ => (f δ).bind fun x => match x with
  | .lst ds => .ok (false, ds)
  | .tup ds => .ok (true, ds)
  | _ => .no
theorem dl_of (h : DE X E e f) : DL X E e (dSq f) := PE.imp h fun σ H Q w => by
  obtain ⟨Hin, Fin, F, δ, st, fi, k⟩ := w
  refine tD.mk st fi.left fun v F1 H1 x ex t1 st1 rv => ?_
  have fi1 := fi.right ex
  cases rv with
  | tup hs hr => exact k _ _ F1 H1 true _ (by show (f δ).bind _ = _; rw [ex]; rfl) t1 hs hr
  | lst hs hr => exact k _ _ F1 H1 false _ (by show (f δ).bind _ = _; rw [ex]; rfl) t1 (t1.sub _ _ hs) hr
  | _ => exact absurd rfl fi1.hn
@[simp] def dOwn (i : Nat) : Sto → Res (Bool × List D) := fun δ => match δ[i]? with
  | some (.ow ds) => .ok (false, ds)
  | some (.va (.lst ds)) => .ok (false, ds)
  | some (.va (.tup ds)) => .ok (true, ds)
  | _ => .no
theorem dl_var {i : Nat} {x : Str} (hN : X.N[i]? = some x := by rfl) (hv : Vis X.env.scope x := by first | exact Or.inl rfl | exact Or.inr (Or.inl rfl) | exact Or.inr (Or.inr rfl)) (hd : (x == ("__debug__" : Str)) = false := by decide) (hcd : (x == ("__classdict__" : Str)) = false := by decide) : DL X E (.Name x pos) (dOwn i) := by
  refine PE.imp (pe_var hN hv hd hcd) fun σ H Q w => ?_
  obtain ⟨Hin, Fin, F, δ, st, fi, k⟩ := w
  unfold dOwn at fi k
  cases q : δ[i]? with
  | none =>
    rw [q] at fi
    exact absurd rfl fi.hn
  | some cl =>
    rw [q] at fi k
    cases cl with
    | va d =>
      obtain ⟨v, e, r⟩ := st.cell i _ q
      cases r with
      | tup hs hr => exact ⟨_, e, k _ _ F H true _ rfl (Step.refl st.sub) hs hr⟩
      | lst hs hr => exact ⟨_, e, k _ _ F H false _ rfl (Step.refl st.sub) (st.sub _ _ hs) hr⟩
      | _ => exact absurd rfl fi.hn
    | ow ds =>
      obtain ⟨p, xs, e, hp, _, _, r⟩ := st.cell i _ q
      exact ⟨_, e, k p xs F H false ds rfl (Step.refl st.sub) hp r⟩
    | un => exact absurd rfl fi.hn
    | ob _ _ _ _ => exact absurd rfl fi.hn
    | tr _ _ => exact absurd rfl fi.hn
    | al _ _ => exact absurd rfl fi.hn
end
end Dn

/-! Dn2: tests, and / or / not, statements, blocks, for, while. -/
namespace Dn
open PySem PySem.Spec PyProof.Rows L2

section
variable {X : Cx} {E : XK} {pos : Pos} {a b c e : Expr} {es : List Expr} {f g h : Sto → Res D} {fa : Sto → Res (List D)} {fl : Sto → Res (Bool × List D)} {p q r : Sto → Res Bool}

/-! ### tests -/
/-- a value's truth -/
def dTru : D → Option Bool
  | .non => some false
  | .bl b => some b
  | .int i => some (i != 0)
  | .str y => if y.length ≤ sizeLine then some ((y.length : Int) != 0) else none
  | .lst ds => some (!ds.isEmpty)
  | .tup ds => some (!ds.isEmpty)
  | _ => none
theorem Reps.isEmpty {K : PySem.W.Frag} {F : Hp} {vs : List V} {ds : List D} (h : Reps K F vs ds) : vs.isEmpty = ds.isEmpty := by
  cases h <;> rfl
theorem truV_of {K : PySem.W.Frag} {F H : Hp} {v : V} {d : D} {k : Bool} (s : Same F H) (r : Rep K F v d) (e : dTru d = some k) : TruV K v H k := by
  cases r with
  | non => cases e; exact rfl
  | bl b => cases e; exact rfl
  | int i => cases e; exact rfl
  | str x =>
    have e : (if x.length ≤ sizeLine then some ((x.length : Int) != 0) else none) = some k := e
    by_cases hl : x.length ≤ sizeLine
    · rw [if_pos hl] at e
      cases e
      exact ⟨hl, rfl⟩
    · rw [if_neg hl] at e
      cases e
  | tup hs hr =>
    cases e
    exact .inr (.inl ⟨_, sqT_mono s hs, by rw [hr.isEmpty]⟩)
  | lst hs hr =>
    cases e
    exact .inl ⟨_, .inl (.inl (s _ _ hs)), by rw [hr.isEmpty]⟩
  | _ => cases e
@[simp] def dTest (f : Sto → Res D) : Sto → Res Bool := fun δ => (f δ).bind fun x => Res.opt (dTru x)
theorem dt_val (ha : DE X E a f) (he : ∀ whole, isTrue a X.env whole = (do let v ← whole; standAt a.pos; holding [v] (truthy v)) := by exact fun _ => rfl) : DT X E a (dTest f) := by
  refine PT.imp (pt_truth ha he) fun σ H Q w => ?_
  obtain ⟨Hin, Fin, F, δ, st, fi, k⟩ := w
  refine tD.mk st fi.left fun v F1 H1 x ex t1 st1 rv => ?_
  obtain ⟨b, eb⟩ := (fi.right ex).opt
  exact ⟨b, truV_of st1.sub rv eb, k b F1 H1 (by show (f δ).bind _ = _; rw [ex]; show Res.opt (dTru x) = _; rw [eb]; rfl) t1⟩
@[simp] def dBool (f : Sto → Res D) : Sto → Res Bool := fun δ => (f δ).bind fun x => match x with
  | .bl b => .ok b
  | _ => .no
theorem dt_cmp {op : CmpOp} {r2 : R2} {o : D → D → Option D} (ho : OpR X (compareOp op) r2) (hr : Does2 X.K r2 o) (ha : DE X E a f) (hb : DE X E b g) (hm : behindInMarks op b = false := by first | exact nomark _ (by decide) (by decide) | (with_unfolding_all rfl)) : DT X E (.Compare a [op] [b] pos) (dBool (d2 o f g)) := by
  refine PT.imp (pt_cmpR ho ha hb hm) fun σ H Q w => ?_
  obtain ⟨Hin, Fin, F, δ, st, fi, k⟩ := w
  refine tOp_of hr σ H _ ⟨Hin, Fin, F, δ, st, fi.left, fun v F1 H1 x ex t rv => ?_⟩
  have fi1 := fi.right ex
  cases rv with
  | bl b => exact ⟨b, rfl, k b F1 H1 (by show (d2 o f g δ).bind _ = _; rw [ex]; rfl) t⟩
  | _ => exact absurd rfl fi1.hn
@[simp] def dNot (p : Sto → Res Bool) : Sto → Res Bool := fun δ => (p δ).bind fun b => .ok (!b)
theorem dt_not (ha : DT X E a p) : DT X E (.UnaryOp .Not a pos) (dNot p) := by
  refine PT.imp (pt_not ha) fun σ H Q w => ?_
  obtain ⟨Hin, Fin, F, δ, st, fi, k⟩ := w
  exact tDT.mk st fi.left fun b F1 H1 eb t st1 => k (!b) F1 H1 (by show (p δ).bind _ = _; rw [eb]; rfl) t
@[simp] def dAnd (p q : Sto → Res Bool) : Sto → Res Bool := fun δ => (p δ).bind fun b => if b = true then q δ else .ok false
@[simp] def dOr (p q : Sto → Res Bool) : Sto → Res Bool := fun δ => (p δ).bind fun b => if b = true then .ok true else q δ
abbrev DW (X : Cx) (E : XK) (e : Expr) (f : Sto → Res Bool) : Prop := PW X e (tDT X.K E f)
theorem dw_and1 (ha : DT X E a p) : DW X E (.BoolOp .And [a] pos) p := pw_and1 ha
theorem dw_or1 (ha : DT X E a p) : DW X E (.BoolOp .Or [a] pos) p := pw_or1 ha
theorem dw_and (ha : DT X E a p) (hb : DW X E (.BoolOp .And (b :: es) pos) q) : DW X E (.BoolOp .And (a :: b :: es) pos) (dAnd p q) := by
  refine PW.imp (pw_and ha hb) fun σ H Q w => ?_
  obtain ⟨Hin, Fin, F, δ, st, fi, k⟩ := w
  refine tDT.mk st fi.left fun b F1 H1 eb t st1 => ?_
  have fi1 := fi.right eb
  have e1 : ∀ z, (if b = true then q δ else .ok false) = .ok z → dAnd p q δ = .ok z := fun z e => by show (p δ).bind _ = _; rw [eb]; exact e
  cases b with
  | true =>
    rw [if_pos rfl] at fi1 ⊢
    exact tDT.mk st1 fi1 fun b2 F2 H2 e2 t2 _ => k b2 F2 H2 (e1 _ (by rw [if_pos rfl]; exact e2)) (t.trans t2)
  | false =>
    rw [if_neg Bool.false_ne_true]
    exact k false F1 H1 (e1 _ rfl) t
theorem dw_or (ha : DT X E a p) (hb : DW X E (.BoolOp .Or (b :: es) pos) q) : DW X E (.BoolOp .Or (a :: b :: es) pos) (dOr p q) := by
  refine PW.imp (pw_or ha hb) fun σ H Q w => ?_
  obtain ⟨Hin, Fin, F, δ, st, fi, k⟩ := w
  refine tDT.mk st fi.left fun b F1 H1 eb t st1 => ?_
  have fi1 := fi.right eb
  have e1 : ∀ z, (if b = true then .ok true else q δ) = .ok z → dOr p q δ = .ok z := fun z e => by show (p δ).bind _ = _; rw [eb]; exact e
  cases b with
  | true =>
    rw [if_pos rfl]
    exact k true F1 H1 (e1 _ rfl) t
  | false =>
    rw [if_neg Bool.false_ne_true] at fi1 ⊢
    exact tDT.mk st1 fi1 fun b2 F2 H2 e2 t2 _ => k b2 F2 H2 (e1 _ (by rw [if_neg Bool.false_ne_true]; exact e2)) (t.trans t2)
theorem dt_w (h : DW X E e p) : DT X E e p := PW.pt h

/-! ### and, or, not of truth values, as values -/
@[simp] def dBl (p : Sto → Res Bool) : Sto → Res D := fun δ => (p δ).bind fun b => .ok (.bl b)
theorem de_one {op} (h : DE X E a f) : DE X E (.BoolOp op [a] pos) f := pe_one h
@[simp] def dAndV (f g : Sto → Res D) : Sto → Res D := fun δ => (dBool f δ).bind fun k => if k = true then g δ else .ok (.bl false)
@[simp] def dOrV (f g : Sto → Res D) : Sto → Res D := fun δ => (dBool f δ).bind fun k => if k = true then .ok (.bl true) else g δ
theorem de_and (ha : DE X E a f) (hb : DE X E (.BoolOp .And (b :: es) pos) g) : DE X E (.BoolOp .And (a :: b :: es) pos) (dAndV f g) := by
  refine PE.imp (pe_and ha hb) fun σ H Q w => ?_
  obtain ⟨Hin, Fin, F, δ, st, fi, k⟩ := w
  refine tD.mk st fi.left.left fun v F1 H1 x ex t st1 rv => ?_
  have fi1 := fi.left.right ex
  cases rv with
  | bl b =>
    have eb : dBool f δ = .ok b := by show (f δ).bind _ = _; rw [ex]; rfl
    have fi2 := fi.right eb
    refine ⟨b, rfl, ?_⟩
    cases b with
    | true =>
      rw [if_pos rfl] at fi2 ⊢
      exact tD.mk st1 fi2 fun v2 F2 H2 d2 e2 t2 _ r2 => k v2 F2 H2 d2 (by show (dBool f δ).bind _ = _; rw [eb, Res.bind_ok, if_pos rfl]; exact e2) (t.trans t2) r2
    | false =>
      rw [if_neg Bool.false_ne_true]
      exact k _ F1 H1 (.bl false) (by show (dBool f δ).bind _ = _; rw [eb]; rfl) t (.bl false)
  | _ => exact absurd rfl fi1.hn
theorem de_or (ha : DE X E a f) (hb : DE X E (.BoolOp .Or (b :: es) pos) g) : DE X E (.BoolOp .Or (a :: b :: es) pos) (dOrV f g) := by
  refine PE.imp (pe_or ha hb) fun σ H Q w => ?_
  obtain ⟨Hin, Fin, F, δ, st, fi, k⟩ := w
  refine tD.mk st fi.left.left fun v F1 H1 x ex t st1 rv => ?_
  have fi1 := fi.left.right ex
  cases rv with
  | bl b =>
    have eb : dBool f δ = .ok b := by show (f δ).bind _ = _; rw [ex]; rfl
    have fi2 := fi.right eb
    refine ⟨b, rfl, ?_⟩
    cases b with
    | true =>
      rw [if_pos rfl]
      exact k _ F1 H1 (.bl true) (by show (dBool f δ).bind _ = _; rw [eb]; rfl) t (.bl true)
    | false =>
      rw [if_neg Bool.false_ne_true] at fi2 ⊢
      exact tD.mk st1 fi2 fun v2 F2 H2 d2 e2 t2 _ r2 => k v2 F2 H2 d2 (by show (dBool f δ).bind _ = _; rw [eb, Res.bind_ok, if_neg Bool.false_ne_true]; exact e2) (t.trans t2) r2
  | _ => exact absurd rfl fi1.hn
theorem de_not (ha : DE X E a f) : DE X E (.UnaryOp .Not a pos) (dBl (dNot (dBool f))) := by
  refine PE.imp (pe_not ha) fun σ H Q w => ?_
  obtain ⟨Hin, Fin, F, δ, st, fi, k⟩ := w
  refine tD.mk st fi.left.left.left fun v F1 H1 x ex t st1 rv => ?_
  have fi1 := fi.left.left.right ex
  cases rv with
  | bl b => 
    have e3 : dNot (dBool f) δ = .ok (!b) := by
      show ((f δ).bind _).bind _ = _
      rw [ex]
      rfl
    exact ⟨b, rfl, k _ F1 H1 (.bl (!b)) (by
      show (dNot (dBool f) δ).bind _ = _
      rw [e3]
      rfl) t (.bl _)⟩
  | _ => exact absurd rfl fi1.hn
@[simp] def dIte {α : Type} (p : Sto → Res Bool) (f g : Sto → Res α) : Sto → Res α := fun δ => (p δ).bind fun b => if b = true then f δ else g δ
theorem de_if (hc : DT X E c p) (ha : DE X E a f) (hb : DE X E b g) : DE X E (.IfExp c a b pos) (dIte p f g) := by
  refine PE.imp (pe_ifExp hc ha hb) fun σ H Q w => ?_
  obtain ⟨Hin, Fin, F, δ, st, fi, k⟩ := w
  refine tDT.mk st fi.left fun b F1 H1 eb t st1 => ?_
  have fi1 := fi.right eb
  have e1 : ∀ z, (if b = true then f δ else g δ) = .ok z → dIte p f g δ = .ok z := fun z e => by show (p δ).bind _ = _; rw [eb]; exact e
  cases b with
  | true =>
    rw [if_pos rfl] at fi1 ⊢
    exact tD.mk st1 fi1 fun v2 F2 H2 d2 e2 t2 _ r2 => k v2 F2 H2 d2 (e1 _ (by rw [if_pos rfl]; exact e2)) (t.trans t2) r2
  | false =>
    rw [if_neg Bool.false_ne_true] at fi1 ⊢
    exact tD.mk st1 fi1 fun v2 F2 H2 d2 e2 t2 _ r2 => k v2 F2 H2 d2 (e1 _ (by rw [if_neg Bool.false_ne_true]; exact e2)) (t.trans t2) r2
end

/-! ### statements -/
inductive Out where
  | nx (δ : Sto) | rt (d : D) | rtT (n : Nat) (ds : List D) | bk (δ : Sto) | ct (δ : Sto) | ex (e : Exc) | no
def Res.out {α : Type} (r : Res α) (k : α → Out) : Out := match r with
  | .ok a => k a
  | .ex e => .ex e
  | .no => .no
@[simp] theorem Res.out_ok {α : Type} (a : α) (k : α → Out) : (Res.ok a).out k = k a := rfl
@[simp] theorem Res.out_ex {α : Type} (e : Exc) (k : α → Out) : (Res.ex e : Res α).out k = .ex e := rfl
@[simp] theorem Res.out_no {α : Type} (k : α → Out) : (Res.no : Res α).out k = .no := rfl
def Out.seq (o : Out) (k : Sto → Out) : Out := match o with
  | .nx δ => k δ
  | o => o
@[simp] theorem Out.seq_nx (δ : Sto) (k : Sto → Out) : (Out.nx δ).seq k = k δ := rfl
@[simp] theorem Out.seq_rt (d : D) (k : Sto → Out) : (Out.rt d).seq k = .rt d := rfl
@[simp] theorem Out.seq_rtT (n : Nat) (d : List D) (k : Sto → Out) : (Out.rtT n d).seq k = .rtT n d := rfl
@[simp] theorem Out.seq_bk (d : Sto) (k : Sto → Out) : (Out.bk d).seq k = .bk d := rfl
@[simp] theorem Out.seq_ct (d : Sto) (k : Sto → Out) : (Out.ct d).seq k = .ct d := rfl
@[simp] theorem Out.seq_ex (d : Exc) (k : Sto → Out) : (Out.ex d).seq k = .ex d := rfl
@[simp] theorem Out.seq_no (k : Sto → Out) : (Out.no).seq k = .no := rfl
structure FineO (E : XK) (K : PySem.W.Frag) (Hin : Hp) (o : Out) : Prop where
  hx : ∀ x, o = .ex x → ExA E K Hin x
  hn : o ≠ .no
structure EndsOk (K : PySem.W.Frag) (Hin Fin F : Hp) (o : Out) (Dd : Ends) : Prop where
  nx : ∀ δ' σ' F' H', o = .nx δ' → StL K Hin Fin F' σ' H' δ' → Same F F' → Dd.nx σ' H'
  rt : ∀ d v F' H', o = .rt d → Step Fin Hin F' H' → Rep K F' v d → Dd.rt v H'
  bk : ∀ δ' σ' F' H', o = .bk δ' → StL K Hin Fin F' σ' H' δ' → Same F F' → Dd.bk σ' H'
  ct : ∀ δ' σ' F' H', o = .ct δ' → StL K Hin Fin F' σ' H' δ' → Same F F' → Dd.ct σ' H'
  rtT : ∀ n ds v F' H' q, o = .rtT n ds → Step Fin Hin F' H' → FrT K F' Hin H' q (n + 1) v (.lst ds) → Dd.rt v H'
section
variable {E : XK} {K : PySem.W.Frag} {Hin Fin F F' : Hp} {o : Out} {Dd : Ends} {α : Type} {r : Res α} {k : α → Out}
theorem FineO.left (h : FineO E K Hin (r.out k)) : Fine E K Hin r := by
  cases r with
  | ok a => exact ⟨fun x e => (nomatch e), fun e => (nomatch e)⟩
  | ex x => exact ⟨fun y e => h.hx y (by injection e with e; rw [e]; rfl), fun e => (nomatch e)⟩
  | no => exact absurd rfl h.hn
theorem FineO.right {a : α} (h : FineO E K Hin (r.out k)) (e : r = .ok a) : FineO E K Hin (k a) := by
  rw [e] at h
  exact h
theorem EndsOk.right {a : α} (h : EndsOk K Hin Fin F (r.out k) Dd) (e : r = .ok a) : EndsOk K Hin Fin F (k a) Dd := by
  rw [e] at h
  exact h
theorem EndsOk.step (h : EndsOk K Hin Fin F o Dd) (s : Same F F') : EndsOk K Hin Fin F' o Dd :=
  ⟨fun δ' σ' F2 H2 e x m => h.nx δ' σ' F2 H2 e x (s.trans m), h.rt, fun δ' σ' F2 H2 e x m => h.bk δ' σ' F2 H2 e x (s.trans m), fun δ' σ' F2 H2 e x m => h.ct δ' σ' F2 H2 e x (s.trans m), h.rtT⟩
theorem FineO.seqL {k : Sto → Out} (h : FineO E K Hin (o.seq k)) : FineO E K Hin o := by
  cases o with
  | nx δ => exact ⟨fun x e => (nomatch e), fun e => (nomatch e)⟩
  | _ => exact h
end
def tDS (K : PySem.W.Frag) (E : XK) (g : Sto → Out) : TS := fun Dd σ H => ∃ Hin Fin F δ, StL K Hin Fin F σ H δ ∧ FineO E K Hin (g δ) ∧ EndsOk K Hin Fin F (g δ) Dd
abbrev DS (X : Cx) (E : XK) (st : Stmt) (g : Sto → Out) : Prop := PS X st (tDS X.K E g)
abbrev DSs (X : Cx) (E : XK) (st : List Stmt) (g : Sto → Out) : Prop := PSs X st (tDS X.K E g)

section
variable {X : Cx} {E : XK} {pos : Pos} {a b c e : Expr} {es : List Expr} {f h : Sto → Res D} {fa : Sto → Res (List D)} {fl : Sto → Res (Bool × List D)} {p q r : Sto → Res Bool} {st : Stmt} {rest body orelse : List Stmt} {g k : Sto → Out}
@[simp] def dSkip : Sto → Out := fun δ => .nx δ
theorem dss_nil : DSs X E [] dSkip := PSs.imp pss_nil fun D σ H w => by
  obtain ⟨Hin, Fin, F, δ, st, fi, en⟩ := w
  exact en.nx δ σ F H rfl st (Same.refl _)
@[simp] def dSeq (g k : Sto → Out) : Sto → Out := fun δ => (g δ).seq k
theorem dss_cons (h1 : DS X E st g) (h2 : DSs X E rest k) : DSs X E (st :: rest) (dSeq g k) := by
  refine PSs.imp (pss_cons h1 h2) fun D σ H w => ?_
  obtain ⟨Hin, Fin, F, δ, s, fi, en⟩ := w
  refine ⟨Hin, Fin, F, δ, s, fi.seqL, ⟨fun δ' σ' F' H' eo s' m => ?_, fun d v F' H' eo t r => ?_, fun δ' σ' F' H' eo s' m => ?_, fun δ' σ' F' H' eo s' m => ?_, fun n ds v F' H' q eo t r => ?_⟩⟩
  · have e1 : dSeq g k δ = k δ' := by show (g δ).seq k = _; rw [eo]; rfl
    rw [e1] at fi en
    exact ⟨Hin, Fin, F', δ', s', fi, en.step m⟩
  · exact en.rt d v F' H' (by show (g δ).seq k = _; rw [eo]; rfl) t r
  · exact en.bk δ' σ' F' H' (by show (g δ).seq k = _; rw [eo]; rfl) s' m
  · exact en.ct δ' σ' F' H' (by show (g δ).seq k = _; rw [eo]; rfl) s' m
  · exact en.rtT n ds v F' H' q (by show (g δ).seq k = _; rw [eo]; rfl) t r
theorem dss_one (h1 : DS X E st g) : DSs X E [st] g := pss_one h1
theorem ds_pass : DS X E (.Pass pos) dSkip := PS.imp ps_pass fun D σ H w => by
  obtain ⟨Hin, Fin, F, δ, st, fi, en⟩ := w
  exact en.nx δ σ F H rfl st (Same.refl _)
theorem ds_break : DS X E (.Break pos) (fun δ => .bk δ) := PS.imp ps_break fun D σ H w => by
  obtain ⟨Hin, Fin, F, δ, st, fi, en⟩ := w
  exact en.bk δ σ F H rfl st (Same.refl _)
theorem ds_continue : DS X E (.Continue pos) (fun δ => .ct δ) := PS.imp ps_continue fun D σ H w => by
  obtain ⟨Hin, Fin, F, δ, st, fi, en⟩ := w
  exact en.ct δ σ F H rfl st (Same.refl _)
/-- a statement that the proof never comes to -/
theorem ds_never : DS X E st (fun _ => .no) := PS.imp ps_never fun D σ H w => by
  obtain ⟨Hin, Fin, F, δ, st, fi, en⟩ := w
  exact absurd rfl fi.hn
theorem dss_never {sts : List Stmt} : DSs X E sts (fun _ => .no) := PSs.imp pss_never fun D σ H w => by
  obtain ⟨Hin, Fin, F, δ, st, fi, en⟩ := w
  exact absurd rfl fi.hn
@[simp] def dExp (f : Sto → Res D) : Sto → Out := fun δ => (f δ).out fun _ => .nx δ
theorem ds_expr (he : DE X E e f) (hs : swapsWith e none pos.line X.env = pure false := by rfl) : DS X E (.Expr e pos) (dExp f) := by
  refine PS.imp (ps_expr he hs) fun D σ H w => ?_
  obtain ⟨Hin, Fin, F, δ, st, fi, en⟩ := w
  exact tD.mk st fi.left fun v F1 H1 x ex t st1 rv => (en.right ex).nx δ σ F1 H1 rfl st1 t.mono
@[simp] def dRet (f : Sto → Res D) : Sto → Out := fun δ => (f δ).out fun d => .rt d
theorem ds_ret (he : DE X E e f) : DS X E (.Return (some e) pos) (dRet f) := by
  refine PS.imp (ps_ret he) fun D σ H w => ?_
  obtain ⟨Hin, Fin, F, δ, st, fi, en⟩ := w
  exact tD.mk st fi.left fun v F1 H1 x ex t st1 rv => (en.right ex).rt x v F1 H1 rfl (st.st.trans t) rv
theorem ds_retN : DS X E (.Return none pos) (fun _ => .rt .non) := by
  refine PS.imp ps_retN fun D σ H w => ?_
  obtain ⟨Hin, Fin, F, δ, st, fi, en⟩ := w
  exact en.rt .non .non F H rfl st.st .non
@[simp] def dIf (p : Sto → Res Bool) (g k : Sto → Out) : Sto → Out := fun δ => (p δ).out fun b => if b = true then g δ else k δ
theorem ds_if (hc : DT X E c p) (ha : DSs X E body g) (hb : DSs X E orelse k) : DS X E (.If c body orelse pos) (dIf p g k) := by
  refine PS.imp (ps_if hc ha hb) fun D σ H w => ?_
  obtain ⟨Hin, Fin, F, δ, st, fi, en⟩ := w
  refine tDT.mk st fi.left fun b F1 H1 eb t st1 => ?_
  have fi1 := fi.right eb
  have en1 := (en.right eb).step t.mono
  cases b with
  | true =>
    rw [if_pos rfl] at fi1 en1 ⊢
    exact ⟨Hin, Fin, F1, δ, st1, fi1, en1⟩
  | false =>
    rw [if_neg Bool.false_ne_true] at fi1 en1 ⊢
    exact ⟨Hin, Fin, F1, δ, st1, fi1, en1⟩
/-- name = value -/
@[simp] def dSet (i : Nat) (f : Sto → Res D) : Sto → Out := fun δ => (f δ).out fun d => .nx (δ.set i (.va d))
theorem ds_set {i : Nat} {x : Str} {pos' : Pos} (hN : X.N.Nodup) (he : DE X E e f) (hi : X.N[i]? = some x := by rfl) (hx : Loc X.env.scope x := by first | exact Or.inl rfl | exact Or.inr rfl) (hs : swapsWith e (some (.Name x pos')) pos.line X.env = pure false := by rfl) (hf : X.fn x = true ∨ X.env.scope.names.lookup x = some .local := by first | exact .inl rfl | exact .inr rfl) :
    DS X E (.Assign [.Name x pos'] e pos) (dSet i f) := by
  refine PS.imp (ps_set hN hi hx he hs hf) fun D σ H w => ?_
  obtain ⟨Hin, Fin, F, δ, st, fi, en⟩ := w
  exact tD.mk st fi.left fun v F1 H1 d ex t st1 rv => (en.right ex).nx _ _ F1 H1 rfl (st1.set rv) t.mono
/-- a new list, own -/
@[simp] def dSetF (i : Nat) (f : Sto → Res (List D)) : Sto → Out := fun δ => (f δ).out fun d => .nx (δ.set i (.ow d))
theorem own_new {K : PySem.W.Frag} {Hin Fin F H F1 H1 : Hp} {σ : L2.St} {δ : Sto} {i : Nat} {p : Addr} {xs : List V} {ds : List D} (st : StL K Hin Fin F σ H δ) (t : Step F H F1 H1) (h : H1 p = some (.lst xs)) (nF : F1 p = none) (nH : H p = none) (r : Reps K F1 xs ds) :
    StL K Hin Fin F1 (σ.set i (some (.ref p))) H1 (δ.set i (.ow ds)) := by
  refine (st.step t).setOw h nF (st.st.old.free nH) r (fun j cl e o s => ?_) ?_
  · have x := st.cell j cl e
    cases cl with
    | ow ds' =>
      obtain ⟨a', xs', e', h', _⟩ := x
      rw [s] at e'
      cases e'
      rw [nH] at h'
      cases h'
    | ob b' C ns ds' =>
      obtain ⟨a', dx, fvs, e', h', _⟩ := x
      rw [s] at e'
      cases e'
      rw [nH] at h'
      cases h'
    | _ => cases o
  · obtain ⟨o, ho⟩ := st.own
    refine ⟨o, ho.step t, ?_⟩
    cases z : o p with
    | none => rfl
    | some w =>
      obtain ⟨_, _, xs', h'⟩ := ho.nod p w z
      rw [nH] at h'
      cases h'
theorem ds_setF {i : Nat} {x : Str} {pos' : Pos} (hN : X.N.Nodup) (he : DF X E e fa) (hi : X.N[i]? = some x := by rfl) (hx : Loc X.env.scope x := by first | exact Or.inl rfl | exact Or.inr rfl) (hs : swapsWith e (some (.Name x pos')) pos.line X.env = pure false := by rfl) (hf : X.fn x = true ∨ X.env.scope.names.lookup x = some .local := by first | exact .inl rfl | exact .inr rfl) :
    DS X E (.Assign [.Name x pos'] e pos) (dSetF i fa) := by
  refine PS.imp (ps_set hN hi hx he hs hf) fun D σ H w => ?_
  obtain ⟨Hin, Fin, F, δ, st, fi, en⟩ := w
  exact ⟨Hin, Fin, F, δ, st, fi.left, fun p xs F1 H1 ds ex t hp nF nH r => (en.right ex).nx _ _ F1 H1 rfl (own_new st t hp nF nH r) t.mono⟩
/-- an own list, an own tree is frozen -/
@[simp] def killC (i : Nat) (c : Cell) : Cell := match c with
  | .al j p => if j = i then .un else .al j p
  | c => c
@[simp] def killAl (i : Nat) (δ : Sto) : Sto := δ.map (killC i)
@[simp] def fz (i : Nat) (δ : Sto) : Sto := match δ[i]? with
  | some (.ow ds) => δ.set i (.va (.lst ds))
  | some (.tr _ ds) => (killAl i δ).set i (.va (.lst ds))
  | _ => δ
theorem killAl_get {i j : Nat} {δ : Sto} {c : Cell} (h : (killAl i δ)[j]? = some c) : ∃ c', δ[j]? = some c' ∧ c = killC i c' := by
  unfold killAl at h
  rw [List.getElem?_map] at h
  cases q : δ[j]? with
  | none =>
    rw [q] at h
    cases h
  | some c' =>
    rw [q] at h
    cases h
    exact ⟨c', rfl, rfl⟩
theorem killC_ow {i : Nat} {c : Cell} (h : (killC i c).isOw = true) : killC i c = c := by
  unfold killC at h ⊢
  cases c with
  | al j p =>
    by_cases hj : j = i
    · simp only [if_pos hj] at h
      cases h
    · simp only [if_neg hj]
  | _ => rfl
theorem killC_tr {i n : Nat} {ds : List D} {c : Cell} (h : killC i c = .tr n ds) : c = .tr n ds := by
  unfold killC at h
  cases c with
  | al j p =>
    by_cases hj : j = i
    · simp only [if_pos hj] at h
      cases h
    · simp only [if_neg hj] at h
      cases h
  | _ => exact h
theorem killC_al {i j : Nat} {p : List Nat} {c : Cell} (h : killC i c = .al j p) : c = .al j p ∧ j ≠ i := by
  unfold killC at h
  cases c with
  | al j' p' =>
    by_cases hj : j' = i
    · simp only [if_pos hj] at h
      cases h
    · simp only [if_neg hj] at h
      cases h
      exact ⟨rfl, hj⟩
  | _ => cases h
theorem killC_cell {K : PySem.W.Frag} {Hin F H : Hp} {s : Option (Option V)} {i : Nat} {c : Cell} (h : CellR K Hin F H s c) : CellR K Hin F H s (killC i c) := by
  unfold killC
  cases c with
  | al j p =>
    by_cases hj : j = i
    · simp only [if_pos hj]
      trivial
    · simp only [if_neg hj]
      trivial
  | _ => exact h
theorem StL.kill {K : PySem.W.Frag} {Hin Fin F : Hp} {σ : L2.St} {H : Hp} {δ : Sto} (i : Nat) (st : StL K Hin Fin F σ H δ) : StL K Hin Fin F σ H (killAl i δ) := by
  refine ⟨by unfold killAl; simp [st.len], st.st, fun j c e => ?_, fun j k cj ck a ej ek oj ok sj sk => ?_, ?_⟩
  · obtain ⟨c', e', rfl⟩ := killAl_get e
    exact killC_cell (st.cell j c' e')
  · obtain ⟨cj', ej', rfl⟩ := killAl_get ej
    obtain ⟨ck', ek', rfl⟩ := killAl_get ek
    rw [killC_ow oj] at oj
    rw [killC_ow ok] at ok
    exact st.uniq j k cj' ck' a ej' ek' oj ok sj sk
  · obtain ⟨o, ho⟩ := st.own
    refine ⟨o, ho.inj, ho.nod, fun j c a e1 e2 e3 => ?_, fun j n ds e => ?_, fun j k p e => ?_, fun j n ds e => ?_⟩
    · obtain ⟨c', e', rfl⟩ := killAl_get e1
      rw [killC_ow e2] at e2
      exact ho.sep j c' a e' e2 e3
    · obtain ⟨c', e', e2⟩ := killAl_get e
      rw [killC_tr e2.symm] at e'
      exact ho.tr j n ds e'
    · obtain ⟨c', e', e2⟩ := killAl_get e
      rw [(killC_al e2.symm).1] at e'
      exact ho.al j k p e'
    · obtain ⟨c', e', e2⟩ := killAl_get e
      rw [killC_tr e2.symm] at e'
      exact ho.bnd j n ds e'
theorem fz_ok {K : PySem.W.Frag} {Hin Fin F : Hp} {σ : L2.St} {H : Hp} {δ : Sto} (i : Nat) (st : StL K Hin Fin F σ H δ) : ∃ F', StL K Hin Fin F' σ H (fz i δ) ∧ Same F F' := by
  unfold fz
  cases q : δ[i]? with
  | none => exact ⟨F, st, Same.refl _⟩
  | some cl =>
    cases cl with
    | ow ds =>
      obtain ⟨p, xs, e, hp, nF, ni, r⟩ := st.cell i _ q
      have hi : i < δ.length := (List.getElem?_eq_some_iff.mp q).1
      have m := same_upd (o := .lst xs) nF
      refine ⟨upd F p (.lst xs), ⟨by simp [st.len], ⟨st.st.old, st.st.mono.trans m, fun b u eb => ?_, fun b u eb nb => ?_⟩, fun j cj ej => ?_, fun j k cj ck a ej ek oj ok sj sk => ?_, ?_⟩, m⟩
      · by_cases hb : b = p
        · subst hb
          rw [upd_same] at eb
          cases eb
          exact hp
        · rw [upd_ne hb] at eb
          exact st.sub _ _ eb
      · by_cases hb : b = p
        · subst hb
          exact ni
        · rw [upd_ne hb] at eb
          exact st.st.new b u eb nb
      · by_cases hj : i = j
        · subst hj
          rw [List.getElem?_set_self hi] at ej
          cases ej
          exact ⟨_, e, .lst upd_same (r.mono m)⟩
        · rw [List.getElem?_set_ne hj] at ej
          have x := st.cell j cj ej
          have far : ∀ {a' : Addr}, cj.isOw = true → σ[j]? = some (some (.ref a')) → a' ≠ p := fun {a'} o s z => by
            subst z
            exact hj (st.uniq i j _ cj a' q ej rfl o e s)
          cases cj with
          | un => trivial
          | va d =>
            obtain ⟨v, e', r'⟩ := x
            exact ⟨v, e', r'.mono m⟩
          | ow ds' =>
            obtain ⟨a', xs', e', h', n', ni', r'⟩ := x
            exact ⟨a', xs', e', h', by rw [upd_ne (far rfl e')]; exact n', ni', r'.mono m⟩
          | ob b' C ns ds' =>
            obtain ⟨a', dx, fvs, e', h', n', ni', en, r'⟩ := x
            exact ⟨a', dx, fvs, e', h', by rw [upd_ne (far rfl e')]; exact n', ni', en, r'.mono m⟩
          | tr n ds' => trivial
          | al j' p' => trivial
      · have nj : ∀ (m' : Nat) (cm : Cell), (δ.set i (.va (.lst ds)))[m']? = some cm → cm.isOw = true → i ≠ m' := fun m' cm e' o z => by
          subst z
          rw [List.getElem?_set_self hi] at e'
          cases e'
          cases o
        rw [List.getElem?_set_ne (nj j cj ej oj)] at ej
        rw [List.getElem?_set_ne (nj k ck ek ok)] at ek
        exact st.uniq j k cj ck a ej ek oj ok sj sk
      · obtain ⟨o, ho⟩ := st.own
        have op := ho.sep i _ p q rfl e
        have h2 : Own K Hin (upd F p (.lst xs)) σ H δ o := ⟨ho.inj, fun a z ea => by
          obtain ⟨h1, h2, h3⟩ := ho.nod a z ea
          refine ⟨h1, ?_, h3⟩
          rw [upd_ne (fun z => by subst z; rw [op] at ea; cases ea)]
          exact h2, ho.sep, fun j n ds' ej => by
          obtain ⟨v, h1, h2⟩ := ho.tr j n ds' ej
          exact ⟨v, h1, TrR.mono m (fun _ _ _ _ h => h) (fun _ _ h => h) _ _ _ _ h2⟩, ho.al, ho.bnd⟩
        have h3 := h2.set (i := i) (s := σ[i]?.getD none) (c := .va (.lst ds)) st.len (fun _ _ z => (nomatch z)) (fun _ _ z => (nomatch z)) (fun z => (nomatch z))
        have es : σ.set i (σ[i]?.getD none) = σ := by
          rw [e]
          apply List.ext_getElem?
          intro j
          by_cases hj : i = j
          · subst hj
            rw [List.getElem?_set_self (by rw [st.len]; exact hi), e]
            rfl
          · rw [List.getElem?_set_ne hj]
        rw [es] at h3
        exact ⟨o, h3⟩
    | tr n ds =>
      have hi : i < δ.length := (List.getElem?_eq_some_iff.mp q).1
      obtain ⟨o, ho⟩ := st.own
      obtain ⟨v0, ev0, tr0⟩ := ho.tr i n ds q
      let F' : Hp := fun a => match oS o i a with
        | some _ => H a
        | none => F a
      have FH : ∀ a p, oS o i a = some p → F' a = H a := fun a p e => by show (match oS o i a with | some _ => H a | none => F a) = _; rw [e]
      have FF : ∀ a, oS o i a = none → F' a = F a := fun a e => by show (match oS o i a with | some _ => H a | none => F a) = _; rw [e]
      have m : Same F F' := fun b u eb => by
        cases z : oS o i b with
        | none => rw [FF b z]; exact eb
        | some p =>
          rw [FH b p z]
          exact st.sub _ _ eb
      have offd : ∀ a, o a = none → oS o i a = none := fun a e => by unfold oS; rw [e]
      refine ⟨F', ⟨by unfold killAl; simp [st.len], ⟨st.st.old, st.st.mono.trans m, fun b u eb => ?_, fun b u eb nb => ?_⟩, fun j cj ej => ?_, fun j k cj ck a ej ek oj ok sj sk => ?_, ?_⟩, m⟩
      · cases z : oS o i b with
        | none =>
          rw [FF b z] at eb
          exact st.sub _ _ eb
        | some p =>
          rw [FH b p z] at eb
          exact eb
      · cases z : oS o i b with
        | none =>
          rw [FF b z] at eb
          exact st.st.new b u eb nb
        | some p => exact (ho.nod b _ (oS_some.mp z)).1
      · by_cases hj : i = j
        · subst hj
          rw [List.getElem?_set_self (by unfold killAl; simpa using hi)] at ej
          cases ej
          exact ⟨v0, ev0, TrR.frz m (fun a p e xs h => by rw [FH a p e]; exact h) _ _ _ _ tr0⟩
        · rw [List.getElem?_set_ne hj] at ej
          obtain ⟨c', ec, rfl⟩ := killAl_get ej
          refine killC_cell ?_
          have x := st.cell j c' ec
          cases c' with
          | un => trivial
          | va d =>
            obtain ⟨v, e', r'⟩ := x
            exact ⟨v, e', r'.mono m⟩
          | ow ds' =>
            obtain ⟨a', xs', e', h', n', ni', r'⟩ := x
            exact ⟨a', xs', e', h', by rw [FF a' (offd a' (ho.sep j _ a' ec rfl e'))]; exact n', ni', r'.mono m⟩
          | ob b' C ns ds' =>
            obtain ⟨a', dx, fvs, e', h', n', ni', en, r'⟩ := x
            exact ⟨a', dx, fvs, e', h', by rw [FF a' (offd a' (ho.sep j _ a' ec rfl e'))]; exact n', ni', en, r'.mono m⟩
          | tr n ds' => trivial
          | al j' p' => trivial
      · have nj : ∀ (m' : Nat) (cm : Cell), ((killAl i δ).set i (.va (.lst ds)))[m']? = some cm → cm.isOw = true → i ≠ m' := fun m' cm e' o z => by
          subst z
          rw [List.getElem?_set_self (by unfold killAl; simpa using hi)] at e'
          cases e'
          cases o
        rw [List.getElem?_set_ne (nj j cj ej oj)] at ej
        rw [List.getElem?_set_ne (nj k ck ek ok)] at ek
        obtain ⟨cj', ej', rfl⟩ := killAl_get ej
        obtain ⟨ck', ek', rfl⟩ := killAl_get ek
        rw [killC_ow oj] at oj
        rw [killC_ow ok] at ok
        exact st.uniq j k cj' ck' a ej' ek' oj ok sj sk
      · let o' : Addr → Option (Nat × List Nat) := fun a => match oS o i a with
          | some _ => none
          | none => o a
        have oo : ∀ a z, o' a = some z → o a = some z ∧ oS o i a = none := fun a z e => by
          have e' : (match oS o i a with | some _ => none | none => o a) = some z := e
          cases w : oS o i a with
          | none =>
            rw [w] at e'
            exact ⟨e', rfl⟩
          | some p =>
            rw [w] at e'
            cases e'
        have oi : ∀ a j p, j ≠ i → o a = some (j, p) → o' a = some (j, p) := fun a j p hj e => by
          show (match oS o i a with | some _ => none | none => o a) = _
          have : oS o i a = none := by
            unfold oS
            rw [e]
            simp [hj]
          rw [this]
          exact e
        refine ⟨o', fun a b z e1 e2 => ho.inj a b z (oo a z e1).1 (oo b z e2).1, fun a z e => ?_, fun j c a e1 e2 e3 => ?_, fun j n' ds' ej => ?_, fun j k p ej => ?_, fun j n' ds' ej => ?_⟩
        · obtain ⟨h1, h2, h3⟩ := ho.nod a z (oo a z e).1
          exact ⟨h1, by rw [FF a (oo a z e).2]; exact h2, h3⟩
        · by_cases hj : i = j
          · subst hj
            rw [List.getElem?_set_self (by unfold killAl; simpa using hi)] at e1
            cases e1
            cases e2
          · rw [List.getElem?_set_ne hj] at e1
            obtain ⟨c', ec, rfl⟩ := killAl_get e1
            rw [killC_ow e2] at e2
            have := ho.sep j c' a ec e2 e3
            show (match oS o i a with | some _ => none | none => o a) = none
            rw [offd a this]
            exact this
        · by_cases hj : i = j
          · subst hj
            rw [List.getElem?_set_self (by unfold killAl; simpa using hi)] at ej
            cases ej
          · rw [List.getElem?_set_ne hj] at ej
            obtain ⟨c', ec, e2⟩ := killAl_get ej
            rw [killC_tr e2.symm] at ec
            obtain ⟨v, h1, h2⟩ := ho.tr j n' ds' ec
            exact ⟨v, h1, TrR.mono m (fun _ _ _ _ h => h) (fun a p e => oS_some.mpr (oi a j p (fun z => hj z.symm) (oS_some.mp e))) _ _ _ _ h2⟩
        · by_cases hj : i = j
          · subst hj
            rw [List.getElem?_set_self (by unfold killAl; simpa using hi)] at ej
            cases ej
          · rw [List.getElem?_set_ne hj] at ej
            obtain ⟨c', ec, e2⟩ := killAl_get ej
            obtain ⟨e3, e4⟩ := killC_al e2.symm
            rw [e3] at ec
            obtain ⟨a, h1, h2⟩ := ho.al j k p ec
            exact ⟨a, h1, oi a k p e4 h2⟩
        · by_cases hj : i = j
          · subst hj
            rw [List.getElem?_set_self (by unfold killAl; simpa using hi)] at ej
            cases ej
          · rw [List.getElem?_set_ne hj] at ej
            obtain ⟨c', ec, e2⟩ := killAl_get ej
            rw [killC_tr e2.symm] at ec
            exact fun a k p e => ho.bnd j n' ds' ec a k p (oo a _ e).1
    | _ => exact ⟨F, st, Same.refl _⟩
end
end Dn

/-! Dn3: own lists, for, while, comprehensions. -/
namespace Dn
open PySem PySem.Spec PyProof.Rows L2

section
variable {X : Cx} {E : XK} {pos : Pos} {a b c e : Expr} {es : List Expr} {f h : Sto → Res D} {fa : Sto → Res (List D)} {fl : Sto → Res (Bool × List D)} {p q r : Sto → Res Bool} {st : Stmt} {rest body orelse : List Stmt} {g k : Sto → Out}

/-- a view shift ahead of a statement: slot i's own list is frozen from here on -/
theorem ds_fz (i : Nat) (h : DS X E st g) : DS X E st (fun δ => g (fz i δ)) := PS.imp h fun D σ H w => by
  obtain ⟨Hin, Fin, F, δ, s, fi, en⟩ := w
  obtain ⟨F', s', m⟩ := fz_ok i s
  exact ⟨Hin, Fin, F', fz i δ, s', fi, en.step m⟩
theorem dss_fz (i : Nat) {sts : List Stmt} (h : DSs X E sts g) : DSs X E sts (fun δ => g (fz i δ)) := PSs.imp h fun D σ H w => by
  obtain ⟨Hin, Fin, F, δ, s, fi, en⟩ := w
  obtain ⟨F', s', m⟩ := fz_ok i s
  exact ⟨Hin, Fin, F', fz i δ, s', fi, en.step m⟩
/-- an own list is written: the list at slot i becomes ds' -/
theorem StL.wr {K : PySem.W.Frag} {Hin Fin F : Hp} {σ : L2.St} {H : Hp} {δ : Sto} {i : Nat} {q : Addr} {ds ds' : List D} {xs' : List V} (x : StL K Hin Fin F σ H δ) (hi : δ[i]? = some (.ow ds)) (hs : σ[i]? = some (some (.ref q)))
    (r : Reps K F xs' ds') : StL K Hin Fin F σ (upd H q (.lst xs')) (δ.set i (.ow ds')) := by
  obtain ⟨q', xs, e, hq, nF, ni, _⟩ := x.cell i _ hi
  rw [hs] at e
  cases e
  have li : i < δ.length := (List.getElem?_eq_some_iff.mp hi).1
  refine ⟨by simp [x.len], ⟨fun b u eb => ?_, x.st.mono, fun b u eb => ?_, x.st.new⟩, fun j cj ej => ?_, fun j k cj ck a' ej ek oj ok sj sk => ?_, ?_⟩
  · rw [upd_ne (ne_of_none eb ni)]
    exact x.st.old b u eb
  · rw [upd_ne (ne_of_none eb nF)]
    exact x.st.sub b u eb
  · by_cases hj : i = j
    · subst hj
      rw [List.getElem?_set_self li] at ej
      cases ej
      exact ⟨q, xs', hs, upd_same, nF, ni, r⟩
    · rw [List.getElem?_set_ne hj] at ej
      have y := x.cell j cj ej
      have far : ∀ {a' : Addr}, cj.isOw = true → σ[j]? = some (some (.ref a')) → a' ≠ q := fun {a'} o s z => by
        subst z
        exact hj (x.uniq i j _ cj a' hi ej rfl o hs s)
      cases cj with
      | un => trivial
      | va d => exact y
      | ow ds2 =>
        obtain ⟨a2, xs2, e2, h2, n2, ni2, r2⟩ := y
        exact ⟨a2, xs2, e2, by rw [upd_ne (far rfl e2)]; exact h2, n2, ni2, r2⟩
      | ob b2 C ns ds2 =>
        obtain ⟨a2, dx, fvs, e2, h2, n2, ni2, en, r2⟩ := y
        exact ⟨a2, dx, fvs, e2, by rw [upd_ne (far rfl e2)]; exact h2, n2, ni2, en, r2⟩
      | tr n ds2 => trivial
      | al j2 p2 => trivial
  · have same : ∀ (m : Nat) (cm : Cell), (δ.set i (.ow ds'))[m]? = some cm → cm.isOw = true → ∃ cm', δ[m]? = some cm' ∧ cm'.isOw = true := fun m cm em om => by
      by_cases hm : i = m
      · subst hm
        exact ⟨_, hi, rfl⟩
      · rw [List.getElem?_set_ne hm] at em
        exact ⟨cm, em, om⟩
    obtain ⟨cj', ej', oj'⟩ := same j cj ej oj
    obtain ⟨ck', ek', ok'⟩ := same k ck ek ok
    exact x.uniq j k cj' ck' a' ej' ek' oj' ok' sj sk
  · obtain ⟨o, ho⟩ := x.own
    have oq := ho.sep i _ q hi rfl hs
    have far : ∀ a z, o a = some z → a ≠ q := fun a z e w => by
      subst w
      rw [oq] at e
      cases e
    have h2 : Own K Hin F σ (upd H q (.lst xs')) δ o := ⟨ho.inj, fun a z e => by
      obtain ⟨h1, h2, xs2, h3⟩ := ho.nod a z e
      exact ⟨h1, h2, xs2, by rw [upd_ne (far a z e)]; exact h3⟩, ho.sep, fun j n ds2 e => by
      obtain ⟨v, h1, h2⟩ := ho.tr j n ds2 e
      exact ⟨v, h1, TrR.mono (Same.refl _) (fun a p e2 ys h => by rw [upd_ne (far a _ (oS_some.mp e2))]; exact h) (fun _ _ h => h) _ _ _ _ h2⟩, ho.al, ho.bnd⟩
    have h3 := h2.set (i := i) (s := some (.ref q)) (c := .ow ds') x.len (fun _ _ z => (nomatch z)) (fun _ _ z => (nomatch z)) (fun _ a z => by cases z; exact oq)
    have es' : σ.set i (some (V.ref q)) = σ := by
      apply List.ext_getElem?
      intro j
      by_cases hj : i = j
      · subst hj
        rw [List.getElem?_set_self (by rw [x.len]; exact li), hs]
      · rw [List.getElem?_set_ne hj]
    rw [es'] at h3
    exact ⟨o, h3⟩
@[simp] def Sto.own (δ : Sto) (i : Nat) : Res (List D) := match δ[i]? with
  | some (.ow ds) => .ok ds
  | _ => .no
theorem own_ok {δ : Sto} {i : Nat} {ds : List D} (h : δ.own i = .ok ds) : δ[i]? = some (.ow ds) := by
  unfold Sto.own at h
  cases q : δ[i]? with
  | none =>
    rw [q] at h
    cases h
  | some cl =>
    rw [q] at h
    cases cl with
    | ow ds' =>
      injection h with h
      rw [h]
    | _ => cases h
theorem own_fine {E : XK} {K : PySem.W.Frag} {Hin : Hp} {δ : Sto} {i : Nat} (h : Fine E K Hin (δ.own i)) : ∃ ds, δ.own i = .ok ds := by
  cases q : δ.own i with
  | ok ds => exact ⟨ds, rfl⟩
  | ex x =>
    unfold Sto.own at q
    split at q <;> cases q
  | no => exact absurd q h.hn
/-- x.append(e), x an own list -/
@[simp] def dApp (i : Nat) (f : Sto → Res D) : Sto → Out := fun δ => (δ.own i).out fun ds => (f δ).out fun d => if ds.length < sizeLine then .nx (δ.set i (.ow (ds ++ [d]))) else .no
theorem ds_app {i : Nat} {x : Str} {xp : Pos} {apos cpos : Pos} (he : DE X E e f) (hN : X.N[i]? = some x := by rfl) (hv : Vis X.env.scope x := by first | exact Or.inl rfl | exact Or.inr (Or.inl rfl) | exact Or.inr (Or.inr rfl)) (hd : (x == ("__debug__" : Str)) = false := by decide) (hcd : (x == ("__classdict__" : Str)) = false := by decide)
    (hst : starEach [e] X.env = (false, eval e X.env) :: starEach [] X.env := by rfl) (hplain : (backTo cpos (starEach [] X.env)).any (·.1) = false := by rfl)
    (hbase : attributeBase (.Name x xp) "append" X.env (eval (.Name x xp) X.env) = eval (.Name x xp) X.env := by rfl)
    (hfew : ((backTo cpos (starEach [e] X.env)).all (fun x => !x.1) && (backToKw cpos (keywordEach [] X.env)).all (fun x => x.1.isSome)
      && decide ([e].length + ([] : List Keyword).length + (if ([] : List Keyword).isEmpty then 0 else 1) < 30)) = true := by rfl)
    (hline : (apos.endLine == cpos.line) = true := by rfl) (hs : swapsWith (.Call (.Attribute (.Name x xp) "append" apos) [e] [] cpos) none pos.line X.env = pure false := by rfl) :
    DS X E (.Expr (.Call (.Attribute (.Name x xp) "append" apos) [e] [] cpos) pos) (dApp i f) := by
  refine PS.imp (ps_expr (pe_bm PySem.F.plainAttrs_list PySem.F.slot_list_append PySem.F.type_list_append mt_append (pe_var hN hv hd hcd) (pa_cons he pa_nil hst) hbase hfew hline hst hplain) hs) fun D σ H w => ?_
  obtain ⟨Hin, Fin, F, δ, st, fi, en⟩ := w
  obtain ⟨ds, eo⟩ := own_fine fi.left
  have fi1 := fi.right eo
  have en1 := en.right eo
  have q := own_ok eo
  obtain ⟨l, xs, e1, hl, nF, ni, r⟩ := st.cell i _ q
  refine ⟨.ref l, e1, .inl ⟨rfl, xs, .inl (.inl hl)⟩, ?_⟩
  refine tD.mk st fi1.left fun v F1 H1 d ed t st1 rv => ?_
  have fi2 := fi1.right ed
  have en2 := en1.right ed
  by_cases hz : ds.length < sizeLine
  · rw [if_pos hz] at en2
    obtain ⟨l', xs', e1', hl', nF', ni', r'⟩ := st1.cell i _ q
    rw [e1] at e1'
    cases e1'
    refine ⟨l, xs', v, rfl, rfl, hl', by rw [r'.length]; exact hz, ?_⟩
    exact en2.nx _ σ F1 _ rfl (st1.wr q e1 (r'.append (.one rv))) t.mono
  · rw [if_neg hz] at fi2
    exact absurd rfl fi2.hn
/-- x[i] = e, x an own list -/
@[simp] def dPut (i : Nat) (g f : Sto → Res D) : Sto → Out := fun δ => (f δ).out fun d => (δ.own i).out fun ds => (g δ).out fun k => match k with
  | .int z => match ixN ds.length z with
    | some j => .nx (δ.set i (.ow (ds.set j d)))
    | none => .no
  | _ => .no
theorem ds_put {i : Nat} {x : Str} {xp tpos : Pos} {ie : Expr} (he : DE X E e f) (hi : DE X E ie h) (hN : X.N[i]? = some x := by rfl) (hv : Vis X.env.scope x := by first | exact Or.inl rfl | exact Or.inr (Or.inl rfl) | exact Or.inr (Or.inr rfl)) (hd : (x == ("__debug__" : Str)) = false := by decide) (hcd : (x == ("__classdict__" : Str)) = false := by decide)
    (ha : ∀ v, assign (.Subscript (.Name x xp) ie tpos) X.env v = (do
      let ov ← holding [v] (eval (.Name x xp) X.env)
      let iv ← holding [v, ov] (eval ie X.env)
      standAt tpos
      holding [v, ov, iv] (setItem ov iv v)
      release [v, ov, iv] []) := by intro _; rfl)
    (hs : swapsWithSole [.Subscript (.Name x xp) ie tpos] e pos.line X.env = pure false := by rfl) (hw : swappedStores [.Subscript (.Name x xp) ie tpos] e X.env = pure none := by rfl)
    (h1 : (assignEach [.Subscript (.Name x xp) ie tpos] X.env).map (·.2) = [assign (.Subscript (.Name x xp) ie tpos) X.env] := by rfl) :
    DS X E (.Assign [.Subscript (.Name x xp) ie tpos] e pos) (dPut i h f) := by
  refine PS.imp (ps_asg he (pg_sub (pe_var hN hv hd hcd) hi set_list ha) hs hw h1) fun D σ H w => ?_
  obtain ⟨Hin, Fin, F, δ, st, fi, en⟩ := w
  refine tD.mk st fi.left fun v F1 H1 d ed t st1 rv => ?_
  have fi1 := fi.right ed
  have en1 := en.right ed
  obtain ⟨ds, eo⟩ := own_fine fi1.left
  have fi2 := fi1.right eo
  have en2 := en1.right eo
  have q := own_ok eo
  obtain ⟨l, xs, e1, hl, nF, ni, r⟩ := st1.cell i _ q
  refine ⟨.ref l, e1, ?_⟩
  refine tD.mk st1 fi2.left fun kv F2 H2 kd ek t2 st2 rk => ?_
  have fi3 := fi2.right ek
  have en3 := en2.right ek
  obtain ⟨l', xs', e1', hl', nF', ni', r'⟩ := st2.cell i _ q
  rw [e1] at e1'
  cases e1'
  cases rk with
  | int z =>
    cases ej : ixN ds.length z with
    | none => exact absurd (by show (match ixN ds.length z with | some j => _ | none => Out.no) = _; rw [ej]) fi3.hn
    | some j =>
      have en4 : EndsOk X.K Hin Fin F (.nx (δ.set i (.ow (ds.set j d)))) D := by
        have e4 : (match ixN ds.length z with | some j => Out.nx (δ.set i (.ow (ds.set j d))) | none => Out.no) = Out.nx (δ.set i (.ow (ds.set j d))) := by rw [ej]
        rw [← e4]
        exact en3
      refine ⟨l, xs', z, j, rfl, rfl, hl', by rw [r'.length]; exact ej, ?_⟩
      exact en4.nx _ σ F2 _ rfl (st2.wr q e1 (r'.set (rv.mono t2.mono) j)) (t.mono.trans t2.mono)
  | _ => exact absurd rfl fi3.hn
/-- name op= e, a datum -/
@[simp] def dAug (i : Nat) (o : D → D → Option D) (f : Sto → Res D) : Sto → Out := fun δ => (dVar i δ).out fun x => (f δ).out fun y => (Res.opt (o x y)).out fun d => .nx (δ.set i (.va d))
theorem dVar_ok {δ : Sto} {i : Nat} {d : D} (h : dVar i δ = .ok d) : δ[i]? = some (.va d) := by
  unfold dVar at h
  cases q : δ[i]? with
  | none =>
    rw [q] at h
    cases h
  | some cl =>
    rw [q] at h
    cases cl with
    | va d' =>
      injection h with h
      rw [h]
    | _ => cases h
theorem dVar_fine {E : XK} {K : PySem.W.Frag} {Hin : Hp} {δ : Sto} {i : Nat} (h : Fine E K Hin (dVar i δ)) : ∃ d, dVar i δ = .ok d := by
  cases q : dVar i δ with
  | ok d => exact ⟨d, rfl⟩
  | ex x =>
    unfold dVar at q
    split at q <;> cases q
  | no => exact absurd q h.hn
theorem ds_aug {i : Nat} {x : Str} {pos' : Pos} {op : Operator} {r2 : R2} {o : D → D → Option D} (ho : OpR X (inplaceOp op) r2) (hr : Does2 X.K r2 o) (hN : X.N.Nodup) (he : DE X E e f) (hi : X.N[i]? = some x := by rfl) (hx : Loc X.env.scope x := by first | exact Or.inl rfl | exact Or.inr rfl)
    (hf : X.fn x = true ∨ X.env.scope.names.lookup x = some .local := by first | exact .inl rfl | exact .inr rfl) : DS X E (.AugAssign (.Name x pos') op e pos) (dAug i o f) := by
  refine PS.imp (ps_aug (ti := r2) hN hi hx he ho hf) fun D σ H w => ?_
  obtain ⟨Hin, Fin, F, δ, st, fi, en⟩ := w
  obtain ⟨dx, ex⟩ := dVar_fine fi.left
  have fi1 := fi.right ex
  have en1 := en.right ex
  obtain ⟨v, ev, rx⟩ := st.cell i _ (dVar_ok ex)
  refine ⟨v, ev, ?_⟩
  refine tD.mk st fi1.left fun u F1 H1 y ey t st1 ry => ?_
  have fi2 := fi1.right ey
  have en2 := en1.right ey
  obtain ⟨d, ed⟩ := fi2.left.opt
  refine hr v u dx y d F1 H1 _ st1.sub (rx.mono t.mono) ry ed fun z F' H' t3 rz => ?_
  have en3 := en2.right (show Res.opt (o dx y) = .ok d by rw [ed]; rfl)
  exact en3.nx _ _ F' H' rfl ((st1.step t3).set rz) (t.mono.trans t3.mono)
/-- x += e, x an own list -/
@[simp] def dExt (i : Nat) (f : Sto → Res (Bool × List D)) : Sto → Out := fun δ => (δ.own i).out fun ds => (f δ).out fun y => match y with
  | (false, es) => if ds.length + es.length ≤ sizeLine then .nx (δ.set i (.ow (ds ++ es))) else .no
  | _ => .no
theorem ds_ext {i : Nat} {x : Str} {pos' : Pos} (hN : X.N.Nodup) (he : DL X E e fl) (hi : X.N[i]? = some x := by rfl) (hx : Loc X.env.scope x := by first | exact Or.inl rfl | exact Or.inr rfl)
    (hf : X.fn x = true ∨ X.env.scope.names.lookup x = some .local := by first | exact .inl rfl | exact .inr rfl) : DS X E (.AugAssign (.Name x pos') .Add e pos) (dExt i fl) := by
  refine PS.imp (ps_aug (ti := rExt2) hN hi hx he iop_ext hf) fun D σ H w => ?_
  obtain ⟨Hin, Fin, F, δ, st, fi, en⟩ := w
  obtain ⟨ds, eo⟩ := own_fine fi.left
  have fi1 := fi.right eo
  have en1 := en.right eo
  have q := own_ok eo
  obtain ⟨l, xs, e1, hl, nF, ni, r⟩ := st.cell i _ q
  refine ⟨.ref l, e1, ?_⟩
  refine tDL.mk st fi1.left fun b ys F1 H1 k es ey t st1 sq ry => ?_
  have fi2 := fi1.right ey
  have en2 := en1.right ey
  obtain ⟨l', xs', e1', hl', nF', ni', r'⟩ := st1.cell i _ q
  rw [e1] at e1'
  cases e1'
  cases k with
  | true => exact absurd rfl fi2.hn
  | false =>
    by_cases hz : ds.length + es.length ≤ sizeLine
    · have en3 : EndsOk X.K Hin Fin F (.nx (δ.set i (.ow (ds ++ es)))) D := by
        have e3 : (if ds.length + es.length ≤ sizeLine then Out.nx (δ.set i (.ow (ds ++ es))) else .no) = Out.nx (δ.set i (.ow (ds ++ es))) := if_pos hz
        rw [← e3]
        exact en2
      refine ⟨l, b, xs', ys, rfl, rfl, hl', sq, by rw [r'.length, ry.length]; exact hz, ?_⟩
      have w1 := st1.wr q e1 (r'.append ry)
      have es' : σ.set i (some (V.ref l)) = σ := by
        apply List.ext_getElem?
        intro j
        by_cases hj : i = j
        · subst hj
          rw [List.getElem?_set_self (by rw [st.len]; exact (List.getElem?_eq_some_iff.mp q).1), e1]
        · rw [List.getElem?_set_ne hj]
      show D.nx (σ.set i (some (V.ref l))) _
      rw [es']
      exact en3.nx _ σ F1 _ rfl w1 t.mono
    · exact absurd (if_neg hz) fi2.hn
end

/-! ### what is walked -/
/-- J walks ds while B stands; F: where ds is frozen -/
structure ItD (K : PySem.W.Frag) (J : It) (B F : Hp) (ds : List D) : Prop where
  len : ds.length ≤ sizeLine
  go : ∀ i H, Same B H → i < ds.length → J.go i H
  stop : ∀ i H, Same B H → ds.length ≤ i → J.stop i H
  yld : ∀ i H x H' F2, Same B H → Same F F2 → Same F2 H → i < ds.length → J.yld i H x H' → ∃ F' d, Step F2 H F' H' ∧ ds[i]? = some d ∧ Rep K F' x d
theorem ItD.up {K : PySem.W.Frag} {J : It} {B B' F : Hp} {ds : List D} (x : ItD K J B F ds) (s : Same B B') : ItD K J B' F ds :=
  ⟨x.len, fun i H e h => x.go i H (s.trans e) h, fun i H e h => x.stop i H (s.trans e) h, fun i H v H' F2 e m s2 h y => x.yld i H v H' F2 (s.trans e) m s2 h y⟩
def tDI (K : PySem.W.Frag) (E : XK) (own : Bool) (f : Sto → Res (List D)) : TI := fun σ H R => ∃ Hin Fin F δ, StL K Hin Fin F σ H δ ∧ Fine E K Hin (f δ) ∧ ∀ J F1 H1 ds, f δ = .ok ds → Step F H F1 H1 → ItD K J (if own = true then H1 else F1) F1 ds → R J H1
/-- what a for walks; own: an own list, that must stand still -/
abbrev DI (X : Cx) (E : XK) (own : Bool) (tg e : Expr) (f : Sto → Res (List D)) : Prop := PI X tg e (tDI X.K E own f)
theorem PI.imp {X : Cx} {tg e : Expr} {t t' : TI} (h : PI X tg e t) (i : ∀ σ H R, t' σ H R → t σ H R) : PI X tg e t' := ⟨fun pins s σ H R I hw => h.run pins s σ H R I (i σ H R hw)⟩
/-- lists and tuples are not too long -/
theorem PI.len {X : Cx} {tg e : Expr} {t : TI} (h : PI X tg e t) : PI X tg e (fun σ H R => t σ H fun J H1 => (∀ a xs, SqL X.K H1 a xs ∨ SqT X.K H1 a xs → xs.length ≤ sizeLine) → R J H1) := ⟨fun pins s σ H R I hw => by
  refine thn (h.run pins s σ H _ I hw) fun v s1 h1 => thn h1 fun itv s2 ⟨it, fp, tn, J, H', e', I', T, t0, fo, q⟩ => ⟨it, fp, tn, J, H', e', I', T, t0, fo, q fun a xs hs => ?_⟩
  rcases hs with hs | hs
  · obtain ⟨_, _, _, z⟩ := I'.list hs
    exact z
  · obtain ⟨_, _, _, z⟩ := I'.tuple hs
    exact z⟩
theorem di_up {X : Cx} {E : XK} {tg e : Expr} {f : Sto → Res (List D)} (h : DI X E false tg e f) : DI X E true tg e f := PI.imp h fun σ H R w => by
  obtain ⟨Hin, Fin, F, δ, st, fi, k⟩ := w
  exact ⟨Hin, Fin, F, δ, st, fi, fun J F1 H1 ds e t x => k J F1 H1 ds e t (x.up t.sub)⟩
end Dn

/-! Dn4: for, while, comprehensions; what they walk. -/
namespace Dn
open PySem PySem.Spec PyProof.Rows L2

/-! ### targets -/
/-- σ' differs from σ at the slots vs alone -/
def Off (vs : List Nat) (σ σ' : L2.St) : Prop := σ'.length = σ.length ∧ ∀ j, j ∉ vs → σ'[j]? = σ[j]?
theorem Off.refl {vs : List Nat} {σ : L2.St} : Off vs σ σ := ⟨rfl, fun _ _ => rfl⟩
theorem Off.trans {vs : List Nat} {σ σ1 σ2 : L2.St} (a : Off vs σ σ1) (b : Off vs σ1 σ2) : Off vs σ σ2 := ⟨b.1.trans a.1, fun j h => (b.2 j h).trans (a.2 j h)⟩
def tDG (K : PySem.W.Frag) (vs : List Nat) (u : D → Sto → Option Sto) : TG := fun v σ H Q => ∃ Hin Fin F δ d δ', StL K Hin Fin F σ H δ ∧ Rep K F v d ∧ u d δ = some δ' ∧ ∀ σ', StL K Hin Fin F σ' H δ' → Off vs σ σ' → Q σ' H
abbrev DG (X : Cx) (vs : List Nat) (tg : Expr) (u : D → Sto → Option Sto) : Prop := PG X tg (tDG X.K vs u)
def tDGs (K : PySem.W.Frag) (vs : List Nat) (u : List D → Sto → Option Sto) : TGs := fun ws σ H Q => ∃ Hin Fin F δ ds δ', StL K Hin Fin F σ H δ ∧ Reps K F ws ds ∧ u ds δ = some δ' ∧ ∀ σ', StL K Hin Fin F σ' H δ' → Off vs σ σ' → Q σ' H
abbrev DGs (X : Cx) (vs : List Nat) (ts : List Expr) (u : List D → Sto → Option Sto) : Prop := PGs X ts (tDGs X.K vs u)
theorem PG.imp {X : Cx} {e : Expr} {t t' : TG} (h : PG X e t) (i : ∀ v σ H Q, t' v σ H Q → t v σ H Q) : PG X e t' := ⟨fun pins s σ H v u Q I r hw => h.run pins s σ H v u Q I r (i v σ H Q hw)⟩
theorem PGs.imp {X : Cx} {e : List Expr} {t t' : TGs} (h : PGs X e t) (i : ∀ v σ H Q, t' v σ H Q → t v σ H Q) : PGs X e t' := ⟨fun pins s σ H v u Q I r hw => h.run pins s σ H v u Q I r (i v σ H Q hw)⟩
section
variable {X : Cx} {E : XK} {pos : Pos} {tg : Expr} {tgs : List Expr} {u : D → Sto → Option Sto} {us : List D → Sto → Option Sto} {vs : List Nat}
@[simp] def uName (i : Nat) : D → Sto → Option Sto := fun d δ => some (δ.set i (.va d))
theorem dg_name {i : Nat} {x : Str} (hN : X.N.Nodup) (hi : X.N[i]? = some x := by rfl) (hm : i ∈ vs := by decide) (hx : Loc X.env.scope x := by first | exact Or.inl rfl | exact Or.inr rfl) (hf : X.fn x = true ∨ X.env.scope.names.lookup x = some .local := by first | exact .inl rfl | exact .inr rfl) : DG X vs (.Name x pos) (uName i) :=
  PG.imp (pg_name hN hi hx hf) fun v σ H Q w => by
    obtain ⟨Hin, Fin, F, δ, d, δ', st, r, e, k⟩ := w
    cases e
    refine k _ (st.set r) ⟨by simp, fun j hj => ?_⟩
    rw [List.getElem?_set_ne (fun z => hj (by rw [← z]; exact hm))]
@[simp] def uNil : List D → Sto → Option Sto := fun ds δ => match ds with
  | [] => some δ
  | _ => none
@[simp] def uCons (u : D → Sto → Option Sto) (us : List D → Sto → Option Sto) : List D → Sto → Option Sto := fun ds δ => match ds with
  | d :: r => (u d δ).bind (us r)
  | [] => none
theorem dgs_nil : DGs X vs [] uNil := PGs.imp pgs_nil fun v σ H Q w => by
  obtain ⟨Hin, Fin, F, δ, d, δ', st, r, e, k⟩ := w
  cases r with
  | nil =>
    cases e
    exact ⟨rfl, k _ st Off.refl⟩
  | cons _ _ => cases e
theorem dgs_cons (h1 : DG X vs tg u) (h2 : DGs X vs tgs us) (hs : (assignEach (tg :: tgs) X.env).map (·.2) = assign tg X.env :: (assignEach tgs X.env).map (·.2) := by rfl) : DGs X vs (tg :: tgs) (uCons u us) := PGs.imp (pgs_cons h1 h2 hs) fun v σ H Q w => by
  obtain ⟨Hin, Fin, F, δ, d, δ', st, r, e, k⟩ := w
  cases r with
  | nil => cases e
  | @cons v d vs ds r rs =>
    obtain ⟨δ1, e1, e2⟩ := Option.bind_eq_some_iff.mp (show (u d δ).bind (us ds) = some δ' from e)
    exact ⟨v, vs, rfl, Hin, Fin, F, δ, d, δ1, st, r, e1, fun σ1 st1 o1 => ⟨Hin, Fin, F, δ1, ds, δ', st1, rs, e2, fun σ2 st2 o2 => k σ2 st2 (o1.trans o2)⟩⟩
@[simp] def uTup (n : Nat) (us : List D → Sto → Option Sto) : D → Sto → Option Sto := fun d δ => match d with
  | .tup ds => if ds.length = n then us ds δ else none
  | _ => none
theorem dg_tup {k : Nat} {n : Nat} (hc : X.calm = true) (h : DGs X vs tgs us) (hn : (assignEach tgs X.env).length = n := by rfl) (hst : (assignEach tgs X.env).findIdx? (·.1) = none := by rfl) : DG X vs (.Tuple tgs k pos) (uTup n us) := PG.imp (pg_tup hc h hn hst) fun v σ H Q w => by
  obtain ⟨Hin, Fin, F, δ, d, δ', st, r, e, k⟩ := w
  cases r with
  | @tup a xs ds hs hr =>
    have e' : (if ds.length = n then us ds δ else none) = some δ' := e
    by_cases hl : ds.length = n
    · rw [if_pos hl] at e'
      exact ⟨a, xs, rfl, sqT_mono st.sub hs, hr.length.trans hl, Hin, Fin, F, δ, ds, δ', st, hr, e', k⟩
    · rw [if_neg hl] at e'
      cases e'
  | _ => cases e
end

section
variable {E : XK} {K : PySem.W.Frag} {Hin Fin F : Hp} {Dd : Ends} {δ : Sto} {d : D} {x : Exc}
theorem fineNx : FineO E K Hin (.nx δ) := ⟨fun _ z => (nomatch z), fun z => (nomatch z)⟩
theorem fineCt : FineO E K Hin (.ct δ) := ⟨fun _ z => (nomatch z), fun z => (nomatch z)⟩
theorem fineBk : FineO E K Hin (.bk δ) := ⟨fun _ z => (nomatch z), fun z => (nomatch z)⟩
theorem fineRt : FineO E K Hin (.rt d) := ⟨fun _ z => (nomatch z), fun z => (nomatch z)⟩
theorem fineEx (h : ExA E K Hin x) : FineO E K Hin (.ex x) := ⟨fun y z => by injection z with z; rw [← z]; exact h, fun z => (nomatch z)⟩
theorem endsNx (h : ∀ σ' F' H', StL K Hin Fin F' σ' H' δ → Same F F' → Dd.nx σ' H') : EndsOk K Hin Fin F (.nx δ) Dd :=
  ⟨fun δ' σ' F' H' z s m => by injection z with z; rw [← z] at s; exact h σ' F' H' s m, fun _ _ _ _ z => (nomatch z), fun _ _ _ _ z => (nomatch z), fun _ _ _ _ z => (nomatch z), fun _ _ _ _ _ _ z => (nomatch z)⟩
theorem endsBk (h : ∀ σ' F' H', StL K Hin Fin F' σ' H' δ → Same F F' → Dd.bk σ' H') : EndsOk K Hin Fin F (.bk δ) Dd :=
  ⟨fun _ _ _ _ z => (nomatch z), fun _ _ _ _ z => (nomatch z), fun δ' σ' F' H' z s m => by injection z with z; rw [← z] at s; exact h σ' F' H' s m, fun _ _ _ _ z => (nomatch z), fun _ _ _ _ _ _ z => (nomatch z)⟩
theorem endsCt (h : ∀ σ' F' H', StL K Hin Fin F' σ' H' δ → Same F F' → Dd.ct σ' H') : EndsOk K Hin Fin F (.ct δ) Dd :=
  ⟨fun _ _ _ _ z => (nomatch z), fun _ _ _ _ z => (nomatch z), fun _ _ _ _ z => (nomatch z), fun δ' σ' F' H' z s m => by injection z with z; rw [← z] at s; exact h σ' F' H' s m, fun _ _ _ _ _ _ z => (nomatch z)⟩
theorem endsRt (h : ∀ v F' H', Step Fin Hin F' H' → Rep K F' v d → Dd.rt v H') : EndsOk K Hin Fin F (.rt d) Dd :=
  ⟨fun _ _ _ _ z => (nomatch z), fun d' v F' H' z s m => by injection z with z; rw [← z] at m; exact h v F' H' s m, fun _ _ _ _ z => (nomatch z), fun _ _ _ _ z => (nomatch z), fun _ _ _ _ _ _ z => (nomatch z)⟩
theorem fineRtT {n : Nat} {ds : List D} : FineO E K Hin (.rtT n ds) := ⟨fun _ z => (nomatch z), fun z => (nomatch z)⟩
theorem endsRtT {n : Nat} {ds : List D} (h : ∀ v F' H' q, Step Fin Hin F' H' → FrT K F' Hin H' q (n + 1) v (.lst ds) → Dd.rt v H') : EndsOk K Hin Fin F (.rtT n ds) Dd :=
  ⟨fun _ _ _ _ z => (nomatch z), fun _ _ _ _ z => (nomatch z), fun _ _ _ _ z => (nomatch z), fun _ _ _ _ z => (nomatch z), fun n' ds' v F' H' q z s m => by injection z with z1 z2; rw [← z1, ← z2] at m; exact h v F' H' q s m⟩
theorem endsEx : EndsOk K Hin Fin F (.ex x) Dd :=
  ⟨fun _ _ _ _ z => (nomatch z), fun _ _ _ _ z => (nomatch z), fun _ _ _ _ z => (nomatch z), fun _ _ _ _ z => (nomatch z), fun _ _ _ _ _ _ z => (nomatch z)⟩
end
section
variable {X : Cx} {E : XK} {pos : Pos} {a b c e tg : Expr} {es : List Expr} {f h : Sto → Res D} {fa : Sto → Res (List D)} {fl : Sto → Res (Bool × List D)} {p q r : Sto → Res Bool} {st : Stmt} {rest body orelse : List Stmt} {g k : Sto → Out} {u : D → Sto → Option Sto} {vs : List Nat}
/-! ### assignment to a target -/
@[simp] def dAsg (u : D → Sto → Option Sto) (f : Sto → Res D) : Sto → Out := fun δ => (f δ).out fun d => match u d δ with
  | some δ' => .nx δ'
  | none => .no
theorem ds_asg (he : DE X E e f) (hg : DG X vs tg u) (hs : swapsWithSole [tg] e pos.line X.env = pure false := by rfl) (hw : swappedStores [tg] e X.env = pure none := by rfl)
    (h1 : (assignEach [tg] X.env).map (·.2) = [assign tg X.env] := by rfl) : DS X E (.Assign [tg] e pos) (dAsg u f) := by
  refine PS.imp (ps_asg he hg hs hw h1) fun D σ H w => ?_
  obtain ⟨Hin, Fin, F, δ, st, fi, en⟩ := w
  refine tD.mk st fi.left fun v F1 H1 d ed t st1 rv => ?_
  have fi1 := fi.right ed
  have en1 := en.right ed
  cases eu : u d δ with
  | none => exact absurd (by show (match u d δ with | some δ' => Out.nx δ' | none => .no) = _; rw [eu]) fi1.hn
  | some δ' =>
    have en2 : EndsOk X.K Hin Fin F (.nx δ') D := by
      have e2 : (match u d δ with | some δ' => Out.nx δ' | none => .no) = .nx δ' := by rw [eu]
      rw [← e2]
      exact en1
    exact ⟨Hin, Fin, F1, δ, d, δ', st1, rv, eu, fun σ' st' _ => en2.nx δ' σ' F1 H1 rfl st' t.mono⟩

/-! ### for -/
def dTurn (o : Out) (k : Sto → Out) : Out := match o with
  | .nx δ => k δ
  | .ct δ => k δ
  | .bk δ => .nx δ
  | o => o
@[simp] theorem dTurn_nx (δ : Sto) (k : Sto → Out) : dTurn (.nx δ) k = k δ := rfl
@[simp] theorem dTurn_ct (δ : Sto) (k : Sto → Out) : dTurn (.ct δ) k = k δ := rfl
@[simp] theorem dTurn_bk (δ : Sto) (k : Sto → Out) : dTurn (.bk δ) k = .nx δ := rfl
@[simp] theorem dTurn_rt (d : D) (k : Sto → Out) : dTurn (.rt d) k = .rt d := rfl
@[simp] theorem dTurn_rtT (n : Nat) (d : List D) (k : Sto → Out) : dTurn (.rtT n d) k = .rtT n d := rfl
@[simp] theorem dTurn_ex (d : Exc) (k : Sto → Out) : dTurn (.ex d) k = .ex d := rfl
@[simp] theorem dTurn_no (k : Sto → Out) : dTurn .no k = .no := rfl
def dLoop (u : D → Sto → Option Sto) (g : Sto → Out) : List D → Sto → Out
  | [], δ => .nx δ
  | d :: ds, δ => match u d δ with
    | some δ1 => dTurn (g δ1) (dLoop u g ds)
    | none => .no
@[simp] theorem dLoop_nil (u : D → Sto → Option Sto) (g : Sto → Out) (δ : Sto) : dLoop u g [] δ = .nx δ := rfl
theorem dLoop_cons (u : D → Sto → Option Sto) (g : Sto → Out) (d : D) (ds : List D) (δ : Sto) : dLoop u g (d :: ds) δ = match u d δ with
    | some δ1 => dTurn (g δ1) (dLoop u g ds)
    | none => .no := rfl
@[simp] def dFor (fa : Sto → Res (List D)) (u : D → Sto → Option Sto) (g : Sto → Out) : Sto → Out := fun δ => (fa δ).out fun ds => dLoop u g ds δ
theorem ds_for (hp : PassesOwn (model X.prog X.w) X.A X.env X.xe) (hc : X.calm = true) (hi : DI X E false tg e fa) (hg : DG X vs tg u) (hb : DSs X E body g) (hs : ∀ x, foldedSetIterable e X.env x = pure x := by intro _; rfl) : DS X E (.For tg e body [] pos) (dFor fa u g) := by
  refine PS.imp (ps_for hp hc hi hg hb hs) fun D σ H w => ?_
  obtain ⟨Hin, Fin, F, δ, st, fi, en⟩ := w
  refine ⟨Hin, Fin, F, δ, st, fi.left, fun J F1 H1 ds ed t it => ?_⟩
  have it : ItD X.K J F1 F1 ds := it
  have fi1 := fi.right ed
  have en1 := (en.right ed).step t.mono
  generalize eo : dLoop u g ds δ = o at fi1 en1
  refine ⟨fun i m σ H => m = ds.length - i ∧ i ≤ ds.length ∧ ∃ Fi δi, StL X.K Hin Fin Fi σ H δi ∧ Same F1 Fi ∧ dLoop u g (ds.drop i) δi = o, ⟨ds.length, by simp, Nat.zero_le _, F1, δ, st.step t, Same.refl _, eo⟩, ?_⟩
  rintro i m σ2 H2 ⟨rfl, hi, Fi, δi, si, mi, ei⟩
  by_cases hlt : i < ds.length
  · refine .inr ⟨it.go i H2 (mi.trans si.sub) hlt, fun σ' H' => ∃ F' δ', StL X.K Hin Fin F' σ' H' δ' ∧ Same F1 F' ∧ dLoop u g (ds.drop (i + 1)) δ' = o, fun σ' H' ⟨F', δ', s', m', e'⟩ => ⟨ds.length - (i + 1), by omega, rfl, hlt, F', δ', s', m', e'⟩, fun x H' y => ?_⟩
    obtain ⟨F', d, t', edi, rd⟩ := it.yld i H2 x H' Fi (mi.trans si.sub) mi si.sub hlt y
    have s1 := si.step t'
    have hd : ds.drop i = d :: ds.drop (i + 1) := by
      obtain ⟨hl, eg⟩ := List.getElem?_eq_some_iff.mp edi
      rw [List.drop_eq_getElem_cons hl, eg]
    rw [hd, dLoop_cons] at ei
    cases eu : u d δi with
    | none =>
      rw [eu] at ei
      exact absurd ei.symm fi1.hn
    | some δ1 =>
      rw [eu] at ei
      have ei : dTurn (g δ1) (dLoop u g (ds.drop (i + 1))) = o := ei
      refine ⟨Hin, Fin, F', δi, d, δ1, s1, rd, eu, fun σ3 st3 _ => ?_⟩
      have mm : Same F1 F' := mi.trans t'.mono
      cases eg : g δ1 with
      | nx δ2 =>
        rw [eg] at ei
        exact ⟨Hin, Fin, F', δ1, st3, by rw [eg]; exact fineNx, by rw [eg]; exact endsNx fun σ' F4 H4 s4 m4 => ⟨F4, δ2, s4, mm.trans m4, ei⟩⟩
      | ct δ2 =>
        rw [eg] at ei
        exact ⟨Hin, Fin, F', δ1, st3, by rw [eg]; exact fineCt, by rw [eg]; exact endsCt fun σ' F4 H4 s4 m4 => ⟨F4, δ2, s4, mm.trans m4, ei⟩⟩
      | bk δ2 =>
        rw [eg] at ei
        exact ⟨Hin, Fin, F', δ1, st3, by rw [eg]; exact fineBk, by rw [eg]; exact endsBk fun σ' F4 H4 s4 m4 => en1.nx δ2 σ' F4 H4 ei.symm s4 (mm.trans m4)⟩
      | rt d2 =>
        rw [eg] at ei
        exact ⟨Hin, Fin, F', δ1, st3, by rw [eg]; exact fineRt, by rw [eg]; exact endsRt fun v' F4 H4 t4 r4 => en1.rt d2 v' F4 H4 ei.symm t4 r4⟩
      | rtT n2 d2 =>
        rw [eg] at ei
        exact ⟨Hin, Fin, F', δ1, st3, by rw [eg]; exact fineRtT, by rw [eg]; exact endsRtT fun v' F4 H4 q4 t4 r4 => en1.rtT n2 d2 v' F4 H4 q4 ei.symm t4 r4⟩
      | ex x2 =>
        rw [eg] at ei
        exact ⟨Hin, Fin, F', δ1, st3, by rw [eg]; exact fineEx (fi1.hx x2 ei.symm), by rw [eg]; exact endsEx⟩
      | no =>
        rw [eg] at ei
        exact absurd ei.symm fi1.hn
  · have e1 : i = ds.length := by omega
    subst e1
    rw [List.drop_length] at ei
    exact .inl ⟨it.stop _ H2 (mi.trans si.sub) (Nat.le_refl _), en1.nx δi σ2 Fi H2 ei.symm si mi⟩

/-! ### while -/
def dWhileN (p : Sto → Res Bool) (g : Sto → Out) : Nat → Sto → Out
  | 0, _ => .no
  | n + 1, δ => (p δ).out fun b => if b = true then dTurn (g δ) (dWhileN p g n) else .nx δ
def dWhile (μ : Sto → Nat) (p : Sto → Res Bool) (g : Sto → Out) : Sto → Out := fun δ => dWhileN p g (μ δ) δ
theorem ds_while (μ : Sto → Nat) (hp : PassesOwn (model X.prog X.w) X.A X.env X.xe) (hc : DT X E c p) (hb : DSs X E body g) : DS X E (.While c body [] pos) (dWhile μ p g) := by
  refine PS.imp (ps_while hp hc hb) fun D σ H w => ?_
  obtain ⟨Hin, Fin, F, δ, st, fi, en⟩ := w
  generalize eo : dWhile μ p g δ = o at fi en
  refine ⟨fun m σ H => ∃ Fi δi, StL X.K Hin Fin Fi σ H δi ∧ Same F Fi ∧ dWhileN p g m δi = o, ⟨μ δ, F, δ, st, Same.refl _, eo⟩, ?_⟩
  rintro m σ2 H2 ⟨Fi, δi, si, mi, ei⟩
  cases m with
  | zero => exact absurd ei.symm fi.hn
  | succ n =>
    have ei : ((p δi).out fun b => if b = true then dTurn (g δi) (dWhileN p g n) else .nx δi) = o := ei
    have fi1 : FineO E X.K Hin ((p δi).out fun b => if b = true then dTurn (g δi) (dWhileN p g n) else .nx δi) := by rw [ei]; exact fi
    refine tDT.mk si fi1.left fun b F1 H1 eb t st1 => ?_
    rw [eb] at ei
    have ei : (if b = true then dTurn (g δi) (dWhileN p g n) else .nx δi) = o := ei
    have mm : Same F F1 := mi.trans t.mono
    cases b with
    | false =>
      rw [if_neg Bool.false_ne_true] at ei ⊢
      exact en.nx δi σ2 F1 H1 ei.symm st1 mm
    | true =>
      rw [if_pos rfl] at ei ⊢
      refine ⟨fun σ' H' => ∃ F' δ', StL X.K Hin Fin F' σ' H' δ' ∧ Same F F' ∧ dWhileN p g n δ' = o, fun σ' H' ⟨F', δ', s', m', e'⟩ => ⟨n, Nat.lt_succ_self n, F', δ', s', m', e'⟩, ?_⟩
      cases eg : g δi with
      | nx δ2 =>
        rw [eg] at ei
        exact ⟨Hin, Fin, F1, δi, st1, by rw [eg]; exact fineNx, by rw [eg]; exact endsNx fun σ' F4 H4 s4 m4 => ⟨F4, δ2, s4, mm.trans m4, ei⟩⟩
      | ct δ2 =>
        rw [eg] at ei
        exact ⟨Hin, Fin, F1, δi, st1, by rw [eg]; exact fineCt, by rw [eg]; exact endsCt fun σ' F4 H4 s4 m4 => ⟨F4, δ2, s4, mm.trans m4, ei⟩⟩
      | bk δ2 =>
        rw [eg] at ei
        exact ⟨Hin, Fin, F1, δi, st1, by rw [eg]; exact fineBk, by rw [eg]; exact endsBk fun σ' F4 H4 s4 m4 => en.nx δ2 σ' F4 H4 ei.symm s4 (mm.trans m4)⟩
      | rt d2 =>
        rw [eg] at ei
        exact ⟨Hin, Fin, F1, δi, st1, by rw [eg]; exact fineRt, by rw [eg]; exact endsRt fun v' F4 H4 t4 r4 => en.rt d2 v' F4 H4 ei.symm t4 r4⟩
      | rtT n2 d2 =>
        rw [eg] at ei
        exact ⟨Hin, Fin, F1, δi, st1, by rw [eg]; exact fineRtT, by rw [eg]; exact endsRtT fun v' F4 H4 q4 t4 r4 => en.rtT n2 d2 v' F4 H4 q4 ei.symm t4 r4⟩
      | ex x2 =>
        rw [eg] at ei
        exact ⟨Hin, Fin, F1, δi, st1, by rw [eg]; exact fineEx (fi.hx x2 ei.symm), by rw [eg]; exact endsEx⟩
      | no =>
        rw [eg] at ei
        exact absurd ei.symm fi.hn
end
end Dn

/-! Dn5: comprehensions; what is walked. -/
namespace Dn
open PySem PySem.Spec PyProof.Rows L2

@[simp] def Res.noex {α : Type} : Res α → Res α
  | .ex _ => .no
  | r => r
@[simp] theorem Res.noex_ok {α : Type} (a : α) : (Res.ok a).noex = .ok a := rfl
@[simp] theorem Res.noex_ex {α : Type} (e : Exc) : (Res.ex e : Res α).noex = .no := rfl
@[simp] theorem Res.noex_no {α : Type} : (Res.no : Res α).noex = .no := rfl
theorem Fine.noex {α : Type} {E E' : XK} {K : PySem.W.Frag} {Hin Hin' : Hp} {r : Res α} (h : Fine E K Hin r.noex) : Fine E' K Hin' r := by
  cases r with
  | ok a => exact ⟨fun _ z => (nomatch z), fun z => (nomatch z)⟩
  | ex e => exact absurd rfl h.hn
  | no => exact absurd rfl h.hn
theorem noex_of {α : Type} {r : Res α} {a : α} (h : r = .ok a) : r.noex = .ok a := by rw [h]; rfl

@[simp] def wipeD (δ : Sto) : List Nat → Sto
  | [] => δ
  | v :: vs => (wipeD δ vs).set v .un
theorem StL.wipe {K : PySem.W.Frag} {Hin Fin F : Hp} {σ : L2.St} {H : Hp} {δ : Sto} (x : StL K Hin Fin F σ H δ) : ∀ vs : List Nat, StL K Hin Fin F (wipe σ vs) H (wipeD δ vs)
  | [] => x
  | v :: vs => (x.wipe vs).forget
theorem wipe_get (σ : L2.St) (j : Nat) : ∀ vs : List Nat, (wipe σ vs)[j]? = if j ∈ vs then (if j < σ.length then some none else none) else σ[j]?
  | [] => by simp [L2.wipe]
  | v :: vs => by
    have ih := wipe_get σ j vs
    have hl := wipe_length σ vs
    show ((L2.wipe σ vs).set v none)[j]? = _
    by_cases hv : v = j
    · subst hv
      rw [if_pos List.mem_cons_self]
      by_cases h : v < σ.length
      · rw [if_pos h, List.getElem?_set_self (by rw [hl]; exact h)]
      · rw [if_neg h, List.getElem?_eq_none (by rw [List.length_set, hl]; omega)]
    · rw [List.getElem?_set_ne hv, ih]
      by_cases hm : j ∈ vs
      · rw [if_pos hm, if_pos (List.mem_cons_of_mem _ hm)]
      · rw [if_neg hm, if_neg (by simp only [List.mem_cons, not_or]; exact ⟨fun z => hv z.symm, hm⟩)]
theorem wipe_off {σ σ' : L2.St} {vs : List Nat} (o : Off vs σ σ') : wipe σ' vs = wipe σ vs := by
  apply List.ext_getElem?
  intro j
  rw [wipe_get, wipe_get, o.1]
  by_cases h : j ∈ vs
  · rw [if_pos h, if_pos h]
  · rw [if_neg h, if_neg h, o.2 j h]
theorem wipe_wipe (σ : L2.St) (vs : List Nat) : wipe (wipe σ vs) vs = wipe σ vs := by
  apply List.ext_getElem?
  intro j
  rw [wipe_get, wipe_get, wipe_length]
  by_cases h : j ∈ vs
  · rw [if_pos h, if_pos h]
  · rw [if_neg h, if_neg h]

section
variable {X : Cx} {E : XK} {pos : Pos} {a b c e tg elt iter : Expr} {es ifs : List Expr} {f h : Sto → Res D} {fa : Sto → Res (List D)} {fl : Sto → Res (Bool × List D)} {p q r : Sto → Res Bool} {u : D → Sto → Option Sto} {vs : List Nat}

def dComp (u : D → Sto → Option Sto) (p : Sto → Res Bool) (f : Sto → Res D) : List D → Sto → Res (List D)
  | [], _ => .ok []
  | d :: ds, δ => match u d δ with
    | none => .no
    | some δ1 => (p δ1).noex.bind fun b => if b = true then (f δ1).noex.bind fun y => (dComp u p f ds δ).bind fun ys => .ok (y :: ys) else dComp u p f ds δ
@[simp] theorem dComp_nil (δ : Sto) : dComp u p f [] δ = .ok [] := rfl
theorem dComp_cons (d : D) (ds : List D) (δ : Sto) : dComp u p f (d :: ds) δ = match u d δ with
    | none => .no
    | some δ1 => (p δ1).noex.bind fun b => if b = true then (f δ1).noex.bind fun y => (dComp u p f ds δ).bind fun ys => .ok (y :: ys) else dComp u p f ds δ := rfl
@[simp] def dLc (fa : Sto → Res (List D)) (u : D → Sto → Option Sto) (p : Sto → Res Bool) (f : Sto → Res D) (vs : List Nat) : Sto → Res (List D) := fun δ => (fa δ).bind fun ds => dComp u p f ds (wipeD δ vs)
@[simp] def dYes : Sto → Res Bool := fun _ => .ok true
abbrev DTs (X : Cx) (E : XK) (ifs : List Expr) (p : Sto → Res Bool) : Prop := PTs X ifs (tDT X.K E p)
theorem PTs.imp {X : Cx} {e : List Expr} {t t' : TT} (h : PTs X e t) (i : ∀ σ H Q, t' σ H Q → t σ H Q) : PTs X e t' := ⟨fun pins s σ H Q I hw => h.run pins s σ H Q I (i σ H Q hw)⟩
theorem dts_nil : DTs X E [] dYes := PTs.imp pts_nil fun σ H Q w => by
  obtain ⟨Hin, Fin, F, δ, st, fi, k⟩ := w
  exact k true F H rfl (Step.refl st.sub)
theorem dts_one (hc : DT X E c p) : DTs X E [c] p := pts_one hc
theorem dComp_len (u : D → Sto → Option Sto) (p : Sto → Res Bool) (f : Sto → Res D) (δ : Sto) : ∀ (ds ys : List D), dComp u p f ds δ = .ok ys → ys.length ≤ ds.length
  | [], ys, e => by
    injection e with e
    rw [← e]
    exact Nat.le_refl _
  | d :: ds, ys, e => by
    rw [dComp_cons] at e
    cases eu : u d δ with
    | none =>
      rw [eu] at e
      cases e
    | some δ1 =>
      rw [eu] at e
      obtain ⟨b, eb, e⟩ := Res.bind_ok_iff.mp e
      cases b with
      | true =>
        rw [if_pos rfl] at e
        obtain ⟨y, ey, e⟩ := Res.bind_ok_iff.mp e
        obtain ⟨zs, ez, e⟩ := Res.bind_ok_iff.mp e
        injection e with e
        rw [← e]
        have := dComp_len u p f δ ds zs ez
        simp only [List.length_cons]
        omega
      | false =>
        rw [if_neg Bool.false_ne_true] at e
        have := dComp_len u p f δ ds ys e
        simp only [List.length_cons]
        omega
/-- the reading of a comprehension -/
theorem lc_read {own : Bool} {σ : L2.St} {H : Hp} {Q : VK} (w : tDF X.K E (dLc fa u p f vs) σ H Q) : tLc (tDI X.K E own fa) (tDG X.K vs u) (tDT X.K E0 p) (tD X.K E0 f) vs σ H Q := by
  obtain ⟨Hin, Fin, F, δ, st, fi, k⟩ := w
  refine ⟨Hin, Fin, F, δ, st, fi.left, fun J F1 H1 ds ed t it D nD => ?_⟩
  have it : ItD X.K J H1 F1 ds := by
    cases own with
    | true => exact it
    | false => exact (show ItD X.K J F1 F1 ds from it).up t.sub
  have fi1 := fi.right ed
  have nDH : H D = none := t.old.free nD
  have nDF1 : F1 D = none := t.sub.free nD
  generalize eo : dComp u p f ds (wipeD δ vs) = o at fi1
  have keep : ∀ {F2 H2 : Hp} {o2 : HO}, Step F H F2 H2 → F2 D = none → Step F H F2 (upd H2 D o2) := fun {F2 H2 o2} x n => ⟨fun b ob eb => by rw [upd_ne (ne_of_none eb nDH)]; exact x.old b ob eb, x.mono, fun b ob eb => by rw [upd_ne (ne_of_none eb n)]; exact x.sub b ob eb, x.new⟩
  have keepH : ∀ {H2 : Hp} {o2 : HO}, Same H1 H2 → Same H1 (upd H2 D o2) := fun {H2 o2} x b ob eb => by rw [upd_ne (ne_of_none eb nD)]; exact x b ob eb
  refine ⟨fun i m Hi => m = ds.length - i ∧ i ≤ ds.length ∧ ∃ Fi acc accD, Step F H Fi Hi ∧ Same F1 Fi ∧ Same H1 Hi ∧ Fi D = none ∧ Hi D = some (.lst acc) ∧ Reps X.K Fi acc accD ∧ acc.length ≤ i ∧ (dComp u p f (ds.drop i) (wipeD δ vs)).bind (fun ys => .ok (accD ++ ys)) = o,
    ⟨ds.length, by simp, Nat.zero_le _, F1, [], [], keep t nDF1, Same.refl _, keepH (Same.refl _), nDF1, upd_same, .nil, Nat.zero_le _, by rw [List.drop_zero, eo]; cases o <;> rfl⟩, ?_⟩
  rintro i m Hi ⟨rfl, hi, Fi, acc, accD, ti, mi, mH, nDi, hD, ra, la, ei⟩
  by_cases hlt : i < ds.length
  · refine .inr ⟨it.go i Hi mH hlt, fun H' => ∃ F' acc' accD', Step F H F' H' ∧ Same F1 F' ∧ Same H1 H' ∧ F' D = none ∧ H' D = some (.lst acc') ∧ Reps X.K F' acc' accD' ∧ acc'.length ≤ i + 1 ∧ (dComp u p f (ds.drop (i + 1)) (wipeD δ vs)).bind (fun ys => .ok (accD' ++ ys)) = o,
      fun H' ⟨F', acc', accD', x⟩ => ⟨ds.length - (i + 1), by omega, rfl, hlt, F', acc', accD', x⟩, fun x H' y => ?_⟩
    obtain ⟨F', d, t', edi, rd⟩ := it.yld i Hi x H' Fi mH mi ti.sub hlt y
    have tH : Step F H F' H' := ti.trans t'
    have sw : StL X.K Hin Fin F' (wipe σ vs) H' (wipeD δ vs) := (st.step tH).wipe vs
    have hdr : ds.drop i = d :: ds.drop (i + 1) := by
      obtain ⟨hl, eg⟩ := List.getElem?_eq_some_iff.mp edi
      rw [List.drop_eq_getElem_cons hl, eg]
    have nD' : F' D = none := by
      cases z : F' D with
      | none => rfl
      | some ob =>
        have := t'.new D ob z nDi
        rw [this] at hD
        cases hD
    have hD' : H' D = some (.lst acc) := t'.old _ _ hD
    rw [hdr, dComp_cons] at ei
    cases eu : u d (wipeD δ vs) with
    | none =>
      rw [eu] at ei
      exact absurd ei.symm fi1.hn
    | some δ1 =>
      rw [eu] at ei
      have ei : (((p δ1).noex.bind fun b => if b = true then (f δ1).noex.bind fun y => (dComp u p f (ds.drop (i + 1)) (wipeD δ vs)).bind fun ys => .ok (y :: ys) else dComp u p f (ds.drop (i + 1)) (wipeD δ vs)).bind fun ys => .ok (accD ++ ys)) = o := ei
      refine ⟨Hin, Fin, F', wipeD δ vs, d, δ1, sw, rd, eu, fun σ3 st3 off3 => ⟨by rw [wipe_off off3, wipe_wipe], ?_⟩⟩
      have fi2 : Fine E X.K Hin (((p δ1).noex.bind fun b => if b = true then (f δ1).noex.bind fun y => (dComp u p f (ds.drop (i + 1)) (wipeD δ vs)).bind fun ys => .ok (y :: ys) else dComp u p f (ds.drop (i + 1)) (wipeD δ vs)).bind fun ys => .ok (accD ++ ys)) := by
        rw [show _ = o from ei]
        exact fi1
      refine tDT.mk st3 (fi2.left.left.noex) fun bb F2 H2 eb t2 st2 => ?_
      have fi3 := fi2.left.right (noex_of eb)
      rw [noex_of eb] at ei
      have mm : Same F1 F2 := (mi.trans t'.mono).trans t2.mono
      have mmH : Same H1 H2 := (mH.trans t'.old).trans t2.old
      have hD2 : H2 D = some (.lst acc) := t2.old _ _ hD'
      have nD2 : F2 D = none := by
        cases z : F2 D with
        | none => rfl
        | some ob =>
          have := t2.new D ob z nD'
          rw [this] at hD'
          cases hD'
      cases bb with
      | false =>
        rw [if_neg Bool.false_ne_true]
        exact ⟨F2, acc, accD, tH.trans t2, mm, mmH, nD2, hD2, (ra.mono t'.mono).mono t2.mono, by omega, ei⟩
      | true =>
        rw [if_pos rfl] at fi3 ⊢
        refine tD.mk st2 (fi3.left.noex) fun yv F3 H3 yd ey t3 st3' ry => ?_
        have ei : (((f δ1).noex.bind fun y => (dComp u p f (ds.drop (i + 1)) (wipeD δ vs)).bind fun ys => .ok (y :: ys)).bind fun ys => .ok (accD ++ ys)) = o := ei
        rw [noex_of ey] at ei
        have nD3 : F3 D = none := by
          cases z : F3 D with
          | none => rfl
          | some ob =>
            have := t3.new D ob z nD2
            rw [this] at hD2
            cases hD2
        have r3 : Reps X.K F3 acc accD := ((ra.mono t'.mono).mono t2.mono).mono t3.mono
        refine ⟨acc, t3.old _ _ hD2, by have := it.len; omega, F3, acc ++ [yv], accD ++ [yd], keep ((tH.trans t2).trans t3) nD3, mm.trans t3.mono, keepH (mmH.trans t3.old), nD3, upd_same, r3.append (.one ry), by simp; omega, ?_⟩
        have ei : ((dComp u p f (ds.drop (i + 1)) (wipeD δ vs)).bind fun ys => .ok (yd :: ys)).bind (fun ys => .ok (accD ++ ys)) = o := ei
        rw [← ei]
        cases dComp u p f (ds.drop (i + 1)) (wipeD δ vs) with
        | ok ys =>
          show Res.ok _ = Res.ok _
          rw [List.append_assoc] <;> rfl
        | ex x => rfl
        | no => rfl
  · have e1 : i = ds.length := by omega
    subst e1
    rw [List.drop_length] at ei
    have ei : Res.ok (accD ++ []) = o := ei
    rw [List.append_nil] at ei
    refine .inl ⟨it.stop _ Hi mH (Nat.le_refl _), ?_⟩
    exact k D acc Fi Hi accD (by show (fa δ).bind _ = _; rw [ed]; exact eo.trans ei.symm) ti hD nDi nDH ra
theorem df_comp {own : Bool} {scope : Scope} (ow : List (Str × Nat)) (hc : X.calm = true) (hN : X.N.Nodup) (hi : DI X E own tg iter fa) (ok : blkC X.N X.env.scope scope ow = true)
    (hg : ∀ (s : Shared) (H : Hp) (C : Addr) (cl : List (Str × Addr)) (fp : List Addr), DG (X.blk s H scope (compEnvC scope cl C X.env) fp) (ow.map (·.2)) tg u)
    (ht : ∀ (s : Shared) (H : Hp) (C : Addr) (cl : List (Str × Addr)) (fp : List Addr), DTs (X.blk s H scope (compEnvC scope cl C X.env) fp) E0 ifs p)
    (he : ∀ (s : Shared) (H : Hp) (C : Addr) (cl : List (Str × Addr)) (fp : List Addr), DE (X.blk s H scope (compEnvC scope cl C X.env) fp) E0 elt f)
    (hs : ∀ x, foldedSetIterable iter X.env x = pure x := by intro _; rfl) : DF X E (.ListComp elt [⟨tg, iter, ifs, 0⟩] scope pos) (dLc fa u p f (ow.map (·.2))) :=
  PE.imp (pe_lc hc hN hi (blkOk_by ok) hg ht he hs) fun σ H Q w => lc_read w
theorem ds_setLc {own : Bool} {i : Nat} {y : Str} {py spos : Pos} {scope : Scope} (ow : List (Str × Nat)) (hc : X.calm = true) (hN : X.N.Nodup) (hi : DI X E own tg iter fa) (ok : blkC X.N X.env.scope scope ow = true)
    (hg : ∀ (s : Shared) (H : Hp) (C : Addr) (cl : List (Str × Addr)) (fp : List Addr), DG (X.blk s H scope (compEnvC scope cl C X.env) fp) (ow.map (·.2)) tg u)
    (ht : ∀ (s : Shared) (H : Hp) (C : Addr) (cl : List (Str × Addr)) (fp : List Addr), DTs (X.blk s H scope (compEnvC scope cl C X.env) fp) E0 ifs p)
    (he : ∀ (s : Shared) (H : Hp) (C : Addr) (cl : List (Str × Addr)) (fp : List Addr), DE (X.blk s H scope (compEnvC scope cl C X.env) fp) E0 elt f)
    (hsw : swapsWith (.ListComp elt [⟨tg, iter, ifs, 0⟩] scope pos) (some (.Name y py)) spos.line X.env = pure true := by exact sw_true rfl rfl rfl (by decide +kernel))
    (hy : X.N[i]? = some y := by rfl) (hyl : X.env.scope.names.lookup y = some .local := by rfl)
    (hs : ∀ x, foldedSetIterable iter X.env x = pure x := by intro _; rfl) : DS X E (.Assign [.Name y py] (.ListComp elt [⟨tg, iter, ifs, 0⟩] scope pos) spos) (dSetF i (dLc fa u p f (ow.map (·.2)))) := by
  refine PS.imp (ps_setLc (te := tD X.K E0 f) (g := tDG X.K (ow.map (·.2)) u) (tt := tDT X.K E0 p) hc hN hy hyl hsw hi (blkOk_by ok) hg ht he hs) fun Dd σ H w => ?_
  obtain ⟨Hin, Fin, F, δ, st, fi, en⟩ := w
  exact lc_read ⟨Hin, Fin, F, δ, st, fi.left, fun p' xs F1 H1 ds ex t hp nF nH r => (en.right ex).nx _ _ F1 H1 rfl (own_new st t hp nF nH r) t.mono⟩
end
end Dn

/-! Dn6: what is walked; what built-in operators and functions do on data. -/
namespace Dn
open PySem PySem.Spec PyProof.Rows L2

section
variable {X : Cx} {E : XK} {pos ppos : Pos} {a b c e e2 tg elt iter : Expr} {es ifs : List Expr} {f g h : Sto → Res D} {fa : Sto → Res (List D)} {fl : Sto → Res (Bool × List D)} {p q r : Sto → Res Bool} {u : D → Sto → Option Sto} {vs : List Nat}

/-! ### what is walked -/
@[simp] def dItems (f : Sto → Res D) : Sto → Res (List D) := fun δ => (f δ).bind fun x => match x with
  | .lst ds => .ok ds
  | .tup ds => .ok ds
  | .scr ns => .ok (ns.map D.int)
  | _ => .no
theorem itd_l {K : PySem.W.Frag} {p : Addr} {xs : List V} {ds : List D} {F B : Hp} (hs : ∀ H, Same B H → SqL K H p xs) (r : Reps K F xs ds) (hl : xs.length ≤ sizeLine) : ItD K (Itl K p) B F ds where
  len := by rw [← r.length]; exact hl
  go := fun i H s h => ⟨xs, xs[i]'(by rw [r.length]; exact h), hs H s, List.getElem?_eq_getElem _⟩
  stop := fun i H s h => ⟨xs, hs H s, by rw [r.length]; exact h⟩
  yld := fun i H x H' F2 s m s2 h y => by
    obtain ⟨e, k⟩ := y
    subst e
    obtain ⟨d, ed, rd⟩ := r.getV (k xs (hs _ s))
    exact ⟨F2, d, Step.refl s2, ed, rd.mono m⟩
theorem itd_t {K : PySem.W.Frag} {p : Addr} {xs : List V} {ds : List D} {F B : Hp} (hs : ∀ H, Same B H → SqT K H p xs) (r : Reps K F xs ds) (hl : xs.length ≤ sizeLine) : ItD K (Itt K p) B F ds where
  len := by rw [← r.length]; exact hl
  go := fun i H s h => ⟨xs, xs[i]'(by rw [r.length]; exact h), hs H s, List.getElem?_eq_getElem _⟩
  stop := fun i H s h => ⟨xs, hs H s, by rw [r.length]; exact h⟩
  yld := fun i H x H' F2 s m s2 h y => by
    obtain ⟨e, k⟩ := y
    subst e
    obtain ⟨d, ed, rd⟩ := r.getV (k xs (hs _ s))
    exact ⟨F2, d, Step.refl s2, ed, rd.mono m⟩
theorem reps_ints {K : PySem.W.Frag} {F : Hp} : ∀ ns : List Int, Reps K F (ns.map V.int) (ns.map D.int)
  | [] => .nil
  | n :: ns => .cons (.int n) (reps_ints ns)
theorem di_sq (he : DE X E e f) : DI X E false tg e (dItems f) := ⟨fun pins s σ H R I w => by
  obtain ⟨Hin, Fin, F, δ, st, fi, k⟩ := w
  cases ef : f δ with
  | ex x =>
    refine (pi_list he).run pins s σ H R I ⟨Hin, Fin, F, δ, st, fi.left, fun v F1 H1 d ed => ?_⟩
    rw [ef] at ed
    cases ed
  | no => exact absurd (by show (f δ).bind _ = _; rw [ef]; rfl) fi.hn
  | ok x =>
    have e1 : ∀ ds, (match x with | .lst ds => Res.ok ds | .tup ds => .ok ds | .scr ns => .ok (ns.map D.int) | _ => .no) = Res.ok ds → dItems f δ = .ok ds := fun ds ed => by
      show (f δ).bind _ = _
      rw [ef]
      exact ed
    cases x with
    | lst ds =>
      refine (PI.len (pi_list he)).run pins s σ H R I ⟨Hin, Fin, F, δ, st, fi.left, fun v F1 H1 d ed t rv => ?_⟩
      rw [ef] at ed
      cases ed
      cases rv with
      | @lst p xs _ hs hr =>
        refine ⟨p, rfl, ⟨xs, .inl (.inl (t.sub _ _ hs))⟩, fun hl => ?_⟩
        exact k _ F1 H1 ds (e1 _ rfl) t (itd_l (xs := xs) (fun H s => .inl (.inl (s _ _ hs))) hr (hl p xs (.inl (.inl (.inl (t.sub _ _ hs))))))
    | tup ds =>
      refine (PI.len (pi_tup he)).run pins s σ H R I ⟨Hin, Fin, F, δ, st, fi.left, fun v F1 H1 d ed t rv => ?_⟩
      rw [ef] at ed
      cases ed
      cases rv with
      | @tup p xs _ hs hr =>
        refine ⟨p, rfl, ⟨xs, sqT_mono t.sub hs⟩, fun hl => ?_⟩
        exact k _ F1 H1 ds (e1 _ rfl) t (itd_t (xs := xs) (fun H s => sqT_mono s hs) hr (hl p xs (.inr (sqT_mono t.sub hs))))
    | scr ns =>
      refine (PI.len (pi_list he)).run pins s σ H R I ⟨Hin, Fin, F, δ, st, fi.left, fun v F1 H1 d ed t rv => ?_⟩
      rw [ef] at ed
      cases ed
      cases rv with
      | @scr p _ hs =>
        refine ⟨p, rfl, ⟨_, t.sub.seq hs⟩, fun hl => ?_⟩
        exact k _ F1 H1 _ (e1 _ rfl) t (itd_l (xs := ns.map V.int) (fun H s => s.seq hs) (reps_ints ns) (hl p _ (.inl (t.sub.seq hs))))
    | _ => exact absurd (by show (f δ).bind _ = _; rw [ef]; rfl) fi.hn⟩
/-- an own list, that stands still -/
@[simp] def dItemsL (fl : Sto → Res (Bool × List D)) : Sto → Res (List D) := fun δ => (fl δ).bind fun x => .ok x.2
theorem di_own (he : DL X E e fl) : DI X E true tg e (dItemsL fl) := ⟨fun pins s σ H R I w => by
  obtain ⟨Hin, Fin, F, δ, st, fi, k⟩ := w
  cases ef : fl δ with
  | ex x =>
    refine (pi_list he).run pins s σ H R I ⟨Hin, Fin, F, δ, st, fi.left, fun p xs F1 H1 b ds ed => ?_⟩
    rw [ef] at ed
    cases ed
  | no => exact absurd (by show (fl δ).bind _ = _; rw [ef]; rfl) fi.hn
  | ok x =>
    obtain ⟨b, ds⟩ := x
    have e1 : dItemsL fl δ = .ok ds := by
      show (fl δ).bind _ = _
      rw [ef]
      rfl
    cases b with
    | false =>
      refine (PI.len (pi_list he)).run pins s σ H R I ⟨Hin, Fin, F, δ, st, fi.left, fun p xs F1 H1 b2 ds2 ed t sq hr => ?_⟩
      rw [ef] at ed
      cases ed
      have sq : H1 p = some (.lst xs) := sq
      refine ⟨p, rfl, ⟨xs, .inl (.inl sq)⟩, fun hl => ?_⟩
      exact k _ F1 H1 ds e1 t (itd_l (xs := xs) (fun H s => .inl (.inl (s _ _ sq))) hr (hl p xs (.inl (.inl (.inl sq)))))
    | true =>
      refine (PI.len (pi_tup he)).run pins s σ H R I ⟨Hin, Fin, F, δ, st, fi.left, fun p xs F1 H1 b2 ds2 ed t sq hr => ?_⟩
      rw [ef] at ed
      cases ed
      have sq : SqT X.K H1 p xs := sqT_mono t.sub (show SqT X.K F1 p xs from sq)
      refine ⟨p, rfl, ⟨xs, sq⟩, fun hl => ?_⟩
      exact k _ F1 H1 ds e1 t (itd_t (xs := xs) (fun H s => sqT_mono s sq) hr (hl p xs (.inr sq)))⟩
/-- whole numbers lo, lo + 1, .. (n of them) -/
def rangeD (lo : Int) (n : Nat) : List D := (List.range n).map fun k => D.int (lo + (k : Nat))
theorem rangeD_length (lo : Int) (n : Nat) : (rangeD lo n).length = n := by simp [rangeD]
theorem rangeD_get {lo : Int} {n i : Nat} (h : i < n) : (rangeD lo n)[i]? = some (.int (lo + (i : Nat))) := by
  simp [rangeD, h]
theorem itd_r {K : PySem.W.Frag} {lo : Int} {n : Nat} {F B : Hp} (hl : n ≤ sizeLine) : ItD K (Itr lo n) B F (rangeD lo n) where
  len := by rw [rangeD_length]; exact hl
  go := fun i H s h => by rw [rangeD_length] at h; exact h
  stop := fun i H s h => by rw [rangeD_length] at h; exact h
  yld := fun i H x H' F2 s m s2 h y => by
    rw [rangeD_length] at h
    obtain ⟨e, k⟩ := y
    subst e k
    exact ⟨F2, _, Step.refl s2, rangeD_get h, .int _⟩
/-- bounds of a range (decided by choice: nothing is to compute here) -/
structure Rng1 (n : Int) : Prop where
  h : n ≤ sizeLine ∧ -(2 ^ 62) ≤ n
noncomputable instance (n : Int) : Decidable (Rng1 n) := Classical.propDecidable _
structure Rng2 (i j : Int) : Prop where
  h : (-(2 ^ 62) ≤ i ∧ i < 2 ^ 62 ∧ -(2 ^ 62) ≤ j ∧ j < 2 ^ 62) ∧ j - i ≤ sizeLine
noncomputable instance (i j : Int) : Decidable (Rng2 i j) := Classical.propDecidable _
noncomputable def rng1 : List D → Option (List D)
  | [.int n] => if Rng1 n then some (rangeD 0 n.toNat) else none
  | _ => none
noncomputable def rng2 : List D → Option (List D)
  | [.int i, .int j] => if Rng2 i j then some (rangeD i (j - i).toNat) else none
  | _ => none
@[simp] def dNL (o : List D → Option (List D)) (f : Sto → Res (List D)) : Sto → Res (List D) := fun δ => (f δ).bind fun xs => Res.opt (o xs)
theorem di_range1 (hm : X.mg "range" = none) (ha : DA X E [a] fa) (hg : Gl X "range" := by rfl) (hs : starEach [a] X.env = [(false, eval a X.env)] := by rfl) : DI X E false tg (.Call (.Name "range" ppos) [a] [] pos) (dNL rng1 fa) :=
  PI.imp (pi_range1 hg hm ha hs) fun σ H R w => by
    obtain ⟨Hin, Fin, F, δ, st, fi, k⟩ := w
    refine tDA.mk st fi.left fun us F2 H2 xs exs t2 st2 rs => ?_
    obtain ⟨ys, ey⟩ := (fi.right exs).opt
    have k1 := fun J it => k J F2 H2 ys (by show (fa δ).bind _ = _; rw [exs]; show Res.opt (rng1 xs) = _; rw [ey]; rfl) t2 it
    unfold rng1 at ey
    split at ey
    · rename_i n
      split at ey
      · rename_i hn
        have hn := hn.h
        cases ey
        have hz : (sizeLine : Int) < 2 ^ 62 := by decide
        cases rs with
        | cons r1 r2 =>
          cases r1
          cases r2
          exact ⟨n, rfl, hn.2, by omega, k1 _ (itd_r (by omega))⟩
      · cases ey
    · cases ey
theorem di_range2 (hm : X.mg "range" = none) (ha : DA X E [a, b] fa) (hg : Gl X "range" := by rfl) (hs : starEach [a, b] X.env = [(false, eval a X.env), (false, eval b X.env)] := by rfl) (hs2 : starEach [b] X.env = [(false, eval b X.env)] := by rfl) : DI X E false tg (.Call (.Name "range" ppos) [a, b] [] pos) (dNL rng2 fa) :=
  PI.imp (pi_range2 hg hm ha hs hs2) fun σ H R w => by
    obtain ⟨Hin, Fin, F, δ, st, fi, k⟩ := w
    refine tDA.mk st fi.left fun us F2 H2 xs exs t2 st2 rs => ?_
    obtain ⟨ys, ey⟩ := (fi.right exs).opt
    have k1 := fun J it => k J F2 H2 ys (by show (fa δ).bind _ = _; rw [exs]; show Res.opt (rng2 xs) = _; rw [ey]; rfl) t2 it
    unfold rng2 at ey
    split at ey
    · rename_i i j
      split at ey
      · rename_i hn
        have hn := hn.h
        cases ey
        cases rs with
        | cons r1 r2 =>
          cases r1
          cases r2 with
          | cons r3 r4 =>
            cases r3
            cases r4
            exact ⟨i, j, rfl, hn.1, k1 _ (itd_r (by omega))⟩
      · cases ey
    · cases ey
/-- the signs of a text -/
def dSigns (f : Sto → Res D) : Sto → Res (List D) := fun δ => (f δ).bind fun x => match x with
  | .str z => if z.cps.size ≤ sizeLine then .ok (z.cps.toList.map fun c => .str ⟨#[c]⟩) else .no
  | _ => .no
theorem di_str (he : DE X E e f) : DI X E false tg e (dSigns f) := PI.imp (pi_str he) fun σ H R w => by
  obtain ⟨Hin, Fin, F, δ, st, fi, k⟩ := w
  refine tD.mk st fi.left fun v F1 H1 x ex t st1 rv => ?_
  have fi1 := fi.right ex
  cases rv with
  | str z =>
    by_cases hz : z.cps.size ≤ sizeLine
    · refine ⟨z, rfl, k _ F1 H1 (z.cps.toList.map fun c => .str ⟨#[c]⟩) (by show (f δ).bind _ = _; rw [ex]; exact if_pos hz) t ⟨by simpa using hz, fun i H s h => ?_, fun i H s h => ?_, fun i H x H' F2 s m s2 h y => ?_⟩⟩
      · have h' : i < z.cps.size := by simpa using h
        exact h'
      · have h' : z.cps.size ≤ i := by simpa using h
        exact h'
      · obtain ⟨e1, ch, e2, e3⟩ := y
        subst e1 e3
        refine ⟨F2, .str ⟨#[ch]⟩, Step.refl s2, ?_, .str _⟩
        rw [List.getElem?_map, Array.getElem?_toList, e2]
        rfl
    · exact absurd (if_neg hz) fi1.hn
  | _ => exact absurd rfl fi1.hn
end
end Dn

/-! Dn7: what built-in operators and functions do on data. -/
namespace Dn
open PySem PySem.Spec PyProof.Rows L2

/-! ### whole numbers -/
section
variable {K : PySem.W.Frag}
@[simp] def o2I (g : Int → Int → D) : D → D → Option D
  | .int i, .int j => some (g i j)
  | _, _ => none
theorem does_rI0 {gV : Int → Int → V} {gD : Int → Int → D} (h : ∀ i j F, Rep K F (gV i j) (gD i j)) : Does2 K (rI0 gV) (o2I gD) := fun x y dx dy d F H Q s rx ry e k => by
  cases rx with
  | int i => cases ry with
    | int j =>
      cases e
      exact ⟨i, j, rfl, rfl, k _ F H (Step.refl s) (h i j F)⟩
    | _ => cases e
  | _ => cases e
@[simp] def o2C (C : Int → Int → Prop) [∀ i j, Decidable (C i j)] (g : Int → Int → D) : D → D → Option D
  | .int i, .int j => if C i j then some (g i j) else none
  | _, _ => none
theorem does_rI {C : Int → Int → Prop} [∀ i j, Decidable (C i j)] {gV : Int → Int → V} {gD : Int → Int → D} (h : ∀ i j F, Rep K F (gV i j) (gD i j)) : Does2 K (rI C gV) (o2C C gD) := fun x y dx dy d F H Q s rx ry e k => by
  cases rx with
  | int i => cases ry with
    | int j =>
      have e' : (if C i j then some (gD i j) else none) = some d := e
      by_cases hc : C i j
      · rw [if_pos hc] at e'
        cases e'
        exact ⟨i, j, rfl, rfl, hc, k _ F H (Step.refl s) (h i j F)⟩
      · rw [if_neg hc] at e'
        cases e'
    | _ => cases e
  | _ => cases e
/-- a product's size -/
def MulOk (i j : Int) : Prop := i.natAbs.log2 + j.natAbs.log2 < 100000000
instance (i j : Int) : Decidable (MulOk i j) := by unfold MulOk; exact inferInstance
theorem MulOk.ok {i j : Int} (h : MulOk i j) : IntMulOk i j := by
  have b : ∀ x : Int, Builtin.Int.intBits x ≤ x.natAbs.log2 + 1 := fun x => by
    unfold Builtin.Int.intBits
    split <;> omega
  have h1 := b i
  have h2 := b j
  have h3 : i.natAbs.log2 + j.natAbs.log2 < 100000000 := h
  unfold IntMulOk
  intro z
  simp only [Bool.and_eq_true, Builtin.Int.intTooBig, decide_eq_true_eq] at z
  have e : bitsLine = 134217728 := by decide
  have z2 := z.2
  rw [e] at z2
  omega
theorem op_mulM {X : Cx} : OpR X (binaryOp .Mult) (rI MulOk fun i j => .int (i * j)) := opI fun _ _ _ _ _ _ _ hc q => mul_int q hc.ok
/-- a quotient's divisor -/
def DivOk (j : Int) : Prop := j ≠ 0 ∧ j.natAbs.log2 < 9000
instance (j : Int) : Decidable (DivOk j) := by unfold DivOk; exact inferInstance
theorem op_fdivM {X : Cx} : OpR X (binaryOp .FloorDiv) (rI (fun _ j => DivOk j) fun i j => .int (i.fdiv j)) := opI fun _ _ _ _ _ _ _ hc q => floordiv_int hc.1 q (.inl (PyProof.noPylong_of_log2 hc.2))
instance (i j : Int) : Decidable (CPow i j) := by unfold CPow; exact inferInstance
/-! ### texts -/
def oCatS : D → D → Option D
  | .str x, .str y => if x.length + y.length ≤ sizeLine then some (.str (x ++ y)) else none
  | _, _ => none
theorem does_catS : Does2 K (fun x y H Q => ∃ i j, x = V.str i ∧ y = V.str j ∧ i.length + j.length ≤ sizeLine ∧ Q (.str (i ++ j)) H) oCatS := fun x y dx dy d F H Q s rx ry e k => by
  cases rx with
  | str i => cases ry with
    | str j =>
      have e' : (if i.length + j.length ≤ sizeLine then some (D.str (i ++ j)) else none) = some d := e
      by_cases hc : i.length + j.length ≤ sizeLine
      · rw [if_pos hc] at e'
        cases e'
        exact ⟨i, j, rfl, rfl, hc, k _ F H (Step.refl s) (.str _)⟩
      · rw [if_neg hc] at e'
        cases e'
    | _ => cases e
  | _ => cases e
/-! ### sequences -/
def oCatL : D → D → Option D
  | .lst x, .lst y => if x.length + y.length ≤ sizeLine then some (.lst (x ++ y)) else none
  | _, _ => none
theorem does_catL : Does2 K rCat oCatL := fun x y dx dy d F H Q s rx ry e k => by
  cases rx with
  | @lst p xs ds hs hr => cases ry with
    | @lst p2 ys es hs2 hr2 =>
      have e' : (if ds.length + es.length ≤ sizeLine then some (D.lst (ds ++ es)) else none) = some d := e
      by_cases hc : ds.length + es.length ≤ sizeLine
      · rw [if_pos hc] at e'
        cases e'
        refine ⟨p, p2, xs, ys, rfl, rfl, s _ _ hs, s _ _ hs2, by rw [hr.length, hr2.length]; exact hc, fun l nl => ?_⟩
        have t := Step.push (o := .lst (xs ++ ys)) s nl
        exact k _ _ _ t (.lst upd_same ((hr.append hr2).mono t.mono))
      · rw [if_neg hc] at e'
        cases e'
    | _ => cases e
  | _ => cases e
def oCatT : D → D → Option D
  | .tup x, .tup y => if x.length + y.length ≤ sizeLine then some (.tup (x ++ y)) else none
  | _, _ => none
theorem does_catT : Does2 K (rCatA K) oCatT := fun x y dx dy d F H Q s rx ry e k => by
  cases rx with
  | @tup p xs ds hs hr => cases ry with
    | @tup p2 ys es hs2 hr2 =>
      have e' : (if ds.length + es.length ≤ sizeLine then some (D.tup (ds ++ es)) else none) = some d := e
      by_cases hc : ds.length + es.length ≤ sizeLine
      · rw [if_pos hc] at e'
        cases e'
        refine ⟨p, p2, xs, ys, rfl, rfl, sqT_mono s hs, sqT_mono s hs2, by rw [hr.length, hr2.length]; exact hc, fun z => ?_, fun _ z => ?_, fun _ _ l nl => ?_⟩
        · subst z
          cases hr
          exact k _ F H (Step.refl s) (.tup hs2 hr2)
        · subst z
          cases hr2
          rw [List.append_nil] at k
          exact k _ F H (Step.refl s) (.tup hs hr)
        · have t := Step.push (o := .tup (xs ++ ys)) s nl
          exact k _ _ _ t (.tup (.inl (.inl upd_same)) ((hr.append hr2).mono t.mono))
      · rw [if_neg hc] at e'
        cases e'
    | _ => cases e
  | _ => cases e
@[simp] def oAdd : D → D → Option D
  | .int i, .int j => some (.int (i + j))
  | .str x, .str y => if x.length + y.length ≤ sizeLine then some (.str (x ++ y)) else none
  | .lst x, .lst y => if x.length + y.length ≤ sizeLine then some (.lst (x ++ y)) else none
  | .tup x, .tup y => if x.length + y.length ≤ sizeLine then some (.tup (x ++ y)) else none
  | _, _ => none
def rAddA (K : PySem.W.Frag) : R2 := fun x y H Q => rI0 (fun i j => .int (i + j)) x y H Q ∨ ((∃ i j, x = V.str i ∧ y = V.str j ∧ i.length + j.length ≤ sizeLine ∧ Q (.str (i ++ j)) H) ∨ (rCat x y H Q ∨ rCatA K x y H Q))
theorem op_addA {X : Cx} : OpR X (binaryOp .Add) (rAddA X.K) := op_add.or (op_add_str.or (op_cat.or op_catA))
theorem does_addA : Does2 K (rAddA K) oAdd := fun x y dx dy d F H Q s rx ry e k => by
  cases dx with
  | int i => cases dy with
    | int j => exact .inl (does_rI0 (gD := fun i j => .int (i + j)) (fun _ _ _ => .int _) x y _ _ d F H Q s rx ry e k)
    | _ => cases e
  | str i => cases dy with
    | str j => exact .inr (.inl (does_catS x y _ _ d F H Q s rx ry e k))
    | _ => cases e
  | lst i => cases dy with
    | lst j => exact .inr (.inr (.inl (does_catL x y _ _ d F H Q s rx ry e k)))
    | _ => cases e
  | tup i => cases dy with
    | tup j => exact .inr (.inr (.inr (does_catT x y _ _ d F H Q s rx ry e k)))
    | _ => cases e
  | _ => cases e
/-- repeated -/
def repD (ds : List D) (k : Int) : List D := (List.replicate k.toNat ds).flatten
theorem reps_rep {F : Hp} {vs : List V} {ds : List D} (r : Reps K F vs ds) : ∀ n : Nat, Reps K F (List.replicate n vs).flatten (List.replicate n ds).flatten
  | 0 => .nil
  | n + 1 => by
    rw [List.replicate_succ, List.replicate_succ, List.flatten_cons, List.flatten_cons]
    exact r.append (reps_rep r n)
@[simp] def oMul : D → D → Option D
  | .int i, .int j => if MulOk i j then some (.int (i * j)) else none
  | .lst ds, .int k => if -(2 ^ 63) ≤ k ∧ k < 2 ^ 63 ∧ ds.length * k.toNat ≤ sizeLine then some (.lst (repD ds k)) else none
  | .tup ds, .int k => if ds ≠ [] ∧ 2 ≤ k ∧ k ≤ 1000 ∧ ds.length ≤ 1000 then some (.tup (repD ds k)) else none
  | _, _ => none
def rMulA (K : PySem.W.Frag) : R2 := fun x y H Q => rI MulOk (fun i j => .int (i * j)) x y H Q ∨ (rRep x y H Q ∨ rRepT K x y H Q)
theorem op_mulA {X : Cx} : OpR X (binaryOp .Mult) (rMulA X.K) := op_mulM.or (op_rep.or op_repT)
theorem does_mulA : Does2 K (rMulA K) oMul := fun x y dx dy d F H Q s rx ry e k => by
  cases dx with
  | int i => cases dy with
    | int j => exact .inl (does_rI (C := MulOk) (gD := fun i j => .int (i * j)) (fun _ _ _ => .int _) x y _ _ d F H Q s rx ry e k)
    | _ => cases e
  | lst ds => cases dy with
    | int j =>
      have e' : (if -(2 ^ 63) ≤ j ∧ j < 2 ^ 63 ∧ ds.length * j.toNat ≤ sizeLine then some (D.lst (repD ds j)) else none) = some d := e
      by_cases hc : -(2 ^ 63) ≤ j ∧ j < 2 ^ 63 ∧ ds.length * j.toNat ≤ sizeLine
      · rw [if_pos hc] at e'
        cases e'
        cases ry
        cases rx with
        | @lst p xs _ hs hr =>
          refine .inr (.inl ⟨p, j, xs, rfl, rfl, s _ _ hs, hc.1, hc.2.1, by rw [hr.length]; exact hc.2.2, fun l nl => ?_⟩)
          have t := Step.push (o := .lst (List.replicate j.toNat xs).flatten) s nl
          exact k _ _ _ t (.lst upd_same ((reps_rep hr _).mono t.mono))
      · rw [if_neg hc] at e'
        cases e'
    | _ => cases e
  | tup ds => cases dy with
    | int j =>
      have e' : (if ds ≠ [] ∧ 2 ≤ j ∧ j ≤ 1000 ∧ ds.length ≤ 1000 then some (D.tup (repD ds j)) else none) = some d := e
      by_cases hc : ds ≠ [] ∧ 2 ≤ j ∧ j ≤ 1000 ∧ ds.length ≤ 1000
      · rw [if_pos hc] at e'
        cases e'
        cases ry
        cases rx with
        | @tup p xs _ hs hr =>
          refine .inr (.inr ⟨p, j, xs, rfl, rfl, sqT_mono s hs, fun z => hc.1 (by subst z; cases hr; rfl), hc.2.1, hc.2.2.1, by rw [hr.length]; exact hc.2.2.2, fun l nl => ?_⟩)
          have t := Step.push (o := .tup (List.replicate j.toNat xs).flatten) s nl
          exact k _ _ _ t (.tup (.inl (.inl upd_same)) ((reps_rep hr _).mono t.mono))
      · rw [if_neg hc] at e'
        cases e'
    | _ => cases e
  | _ => cases e
/-- a subscript -/
@[simp] def oIx : D → D → Option D
  | .lst ds, .int i => atI ds i
  | .tup ds, .int i => atI ds i
  | .scr ns, .int i => (atI ns i).map D.int
  | .str z, .int i => if z.length ≤ sizeLine then (atI z.cps.toList i).map (fun c => .str ⟨#[c]⟩) else none
  | _, _ => none
theorem atI_reps {F : Hp} {vs : List V} {ds : List D} {i : Int} {d : D} (r : Reps K F vs ds) (e : atI ds i = some d) : ∃ v, atI vs i = some v ∧ Rep K F v d := by
  unfold atI at e ⊢
  rw [r.length]
  obtain ⟨j, e1, e2⟩ := Option.bind_eq_some_iff.mp e
  obtain ⟨v, ev, rv⟩ := r.get e2
  exact ⟨v, Option.bind_eq_some_iff.mpr ⟨j, e1, ev⟩, rv⟩
theorem atI_map {α β : Type} (g : α → β) (xs : List α) (i : Int) : atI (xs.map g) i = (atI xs i).map g := by
  unfold atI
  rw [List.length_map]
  cases ixN xs.length i with
  | none => rfl
  | some j => simp
theorem does_ix : Does2 K (rIx K) oIx := fun x y dx dy d F H Q s rx ry e k => by
  cases ry with
  | int i => cases rx with
    | @lst p xs ds hs hr =>
      obtain ⟨v, ev, rv⟩ := atI_reps hr (show atI ds i = some d from e)
      exact .inl ⟨p, xs, i, v, rfl, rfl, .inl (.inl (s _ _ hs)), ev, k v F H (Step.refl s) rv⟩
    | @tup p xs ds hs hr =>
      obtain ⟨v, ev, rv⟩ := atI_reps hr (show atI ds i = some d from e)
      exact .inr (.inl ⟨p, xs, i, v, rfl, rfl, sqT_mono s hs, ev, k v F H (Step.refl s) rv⟩)
    | @scr p ns hs =>
      obtain ⟨n, en, ed⟩ := Option.map_eq_some_iff.mp (show (atI ns i).map D.int = some d from e)
      subst ed
      exact .inl ⟨p, _, i, .int n, rfl, rfl, s.seq hs, by rw [atI_map, en]; rfl, k _ F H (Step.refl s) (.int n)⟩
    | str z =>
      have e' : (if z.length ≤ sizeLine then (atI z.cps.toList i).map (fun c => D.str ⟨#[c]⟩) else none) = some d := e
      by_cases hz : z.length ≤ sizeLine
      · rw [if_pos hz] at e'
        obtain ⟨c, ec, ed⟩ := Option.map_eq_some_iff.mp e'
        subst ed
        exact .inr (.inr ⟨z, i, c, rfl, rfl, hz, ec, k _ F H (Step.refl s) (.str _)⟩)
      · rw [if_neg hz] at e'
        cases e'
    | _ => cases e
  | _ => cases rx <;> cases e
/-! ### is, is not -/
@[simp] def isNon : D → Bool
  | .non => true
  | _ => false
@[simp] def oIsN : D → D → Option D
  | x, .non => some (.bl (isNon x))
  | .bl a, .bl b => some (.bl (decide (a = b)))
  | _, _ => none
@[simp] def oIsNotN : D → D → Option D
  | x, .non => some (.bl (!isNon x))
  | .bl a, .bl b => some (.bl (!decide (a = b)))
  | _, _ => none
def rIsA : R2 := fun x y H Q => (y = .non ∧ Q (.bl (decide (x = .non))) H) ∨ rIsB x y H Q
def rIsNotA : R2 := fun x y H Q => (y = .non ∧ Q (.bl (!decide (x = .non))) H) ∨ rNotB x y H Q
theorem op_isA {X : Cx} : OpR X (compareOp .Is) rIsA := op_isN.or op_isBl
theorem op_isNotA {X : Cx} : OpR X (compareOp .IsNot) rIsNotA := op_notN.or op_notBl
theorem rep_non {F : Hp} {x : V} {d : D} (r : Rep K F x d) : decide (x = .non) = isNon d := by
  cases r <;> simp [isNon]
theorem does_isA : Does2 K rIsA oIsN := fun x y dx dy d F H Q s rx ry e k => by
  cases ry with
  | non =>
    have e' : some (D.bl (isNon dx)) = some d := by cases dx <;> exact e
    cases e'
    refine .inl ⟨rfl, ?_⟩
    rw [rep_non rx]
    exact k _ F H (Step.refl s) (.bl _)
  | bl b => cases rx with
    | bl a =>
      cases e
      exact .inr ⟨a, b, rfl, rfl, k _ F H (Step.refl s) (.bl _)⟩
    | _ => cases e
  | _ => cases rx <;> cases e
theorem does_isNotA : Does2 K rIsNotA oIsNotN := fun x y dx dy d F H Q s rx ry e k => by
  cases ry with
  | non =>
    have e' : some (D.bl (!isNon dx)) = some d := by cases dx <;> exact e
    cases e'
    refine .inl ⟨rfl, ?_⟩
    rw [rep_non rx]
    exact k _ F H (Step.refl s) (.bl _)
  | bl b => cases rx with
    | bl a =>
      cases e
      exact .inr ⟨a, b, rfl, rfl, k _ F H (Step.refl s) (.bl _)⟩
    | _ => cases e
  | _ => cases rx <;> cases e
end
end Dn

/-! Dn8: ==, in, slices, built-in functions on data. -/
namespace Dn
open PySem PySem.Spec PyProof.Rows L2

/-! ### == -/
mutual
def py : D → PyData
  | .non => .none
  | .bl b => .bool b
  | .int i => .int i
  | .str x => .str x
  | .tup xs => .tuple (pys xs)
  | .lst xs => .list (pys xs)
  | _ => .none
def pys : List D → List PyData
  | [] => []
  | x :: xs => py x :: pys xs
end
mutual
def isPy : D → Bool
  | .non => true
  | .bl _ => true
  | .int _ => true
  | .str _ => true
  | .tup xs => arePy xs
  | .lst xs => arePy xs
  | _ => false
def arePy : List D → Bool
  | [] => true
  | x :: xs => isPy x && arePy xs
end
section
variable {K : PySem.W.Frag} {F H : Hp}
mutual
theorem Rep.dp (s : Same F H) : ∀ {v : V} {d : D}, Rep K F v d → isPy d = true → Dp K H v (py d)
  | _, _, .non, _ => by unfold py; exact .non
  | _, _, .bl b, _ => by unfold py; exact .bl b
  | _, _, .int i, _ => by unfold py; exact .int i
  | _, _, .str x, _ => by unfold py; exact .str x
  | _, _, .ty n, h => by unfold isPy at h; cases h
  | _, _, .tup hs hr, h => by
    unfold py
    unfold isPy at h
    exact .tup (sqT_mono s hs) (Reps.dp s hr h)
  | _, _, .lst hs hr, h => by
    unfold py
    unfold isPy at h
    exact .lst (.inl (.inl (s _ _ hs))) (Reps.dp s hr h)
  | _, _, .scr _, h => by unfold isPy at h; cases h
  | _, _, .obj _ _ _, h => by unfold isPy at h; cases h
  | _, _, .cls _, h => by unfold isPy at h; cases h
theorem Reps.dp (s : Same F H) : ∀ {vs : List V} {ds : List D}, Reps K F vs ds → arePy ds = true → DpAll K H vs (pys ds)
  | _, _, .nil, _ => by unfold pys; exact .nil
  | _, _, .cons hv hr, h => by
    unfold pys
    unfold arePy at h
    rw [Bool.and_eq_true] at h
    exact .cons (Rep.dp s hv h.1) (Reps.dp s hr h.2)
end
def flatEq : D → D → Option Bool
  | .non, .non => some true
  | .non, .int _ => some false
  | .int _, .non => some false
  | .non, .bl _ => some false
  | .bl _, .non => some false
  | .non, .str _ => some false
  | .str _, .non => some false
  | .int i, .int j => some (decide (i = j))
  | .bl i, .bl j => some (decide (i = j))
  | .str i, .str j => some (decide (i = j))
  | .int _, .str _ => some false
  | .str _, .int _ => some false
  | .bl _, .str _ => some false
  | .str _, .bl _ => some false
  | _, _ => none
theorem flatEq_ok {x y : V} {dx dy : D} {b : Bool} (rx : Rep K F x dx) (ry : Rep K F y dy) (e : flatEq dx dy = some b) : scal x y = true ∧ decide (x = y) = b := by
  cases rx <;> cases ry <;> first
    | (cases e; exact ⟨rfl, by simp⟩)
    | (cases e)
def shapedD (d : D) : Bool := isPy d && SeqAt.shaped (py d)
def oEq (x y : D) : Option D := match flatEq x y with
  | some b => some (.bl b)
  | none => if shapedD x = true ∧ shapedD y = true then some (.bl (PyData.eqv (py x) (py y))) else none
def oNe (x y : D) : Option D := match flatEq x y with
  | some b => some (.bl (!b))
  | none => if shapedD x = true ∧ shapedD y = true then some (.bl (!PyData.eqv (py x) (py y))) else none
def rEqA (K : PySem.W.Frag) : R2 := fun x y H Q => rEq x y H Q ∨ rEqD K x y H Q
def rNeA (K : PySem.W.Frag) : R2 := fun x y H Q => rNe x y H Q ∨ rNeD K x y H Q
theorem op_eqA {X : Cx} (hu : X.A.units + 64 < cLine) : OpR X (compareOp .Eq) (rEqA X.K) := op_eq.or (op_eqD hu)
theorem op_neA {X : Cx} (hu : X.A.units + 64 < cLine) : OpR X (compareOp .NotEq) (rNeA X.K) := op_ne.or (op_neD hu)
theorem does_eqA : Does2 K (rEqA K) oEq := fun x y dx dy d F H Q s rx ry e k => by
  unfold oEq at e
  cases q : flatEq dx dy with
  | some b =>
    rw [q] at e
    cases e
    obtain ⟨h1, h2⟩ := flatEq_ok rx ry q
    exact .inl ⟨h1, by rw [h2]; exact k _ F H (Step.refl s) (.bl _)⟩
  | none =>
    rw [q] at e
    have e' : (if shapedD dx = true ∧ shapedD dy = true then some (D.bl (PyData.eqv (py dx) (py dy))) else none) = some d := e
    by_cases hc : shapedD dx = true ∧ shapedD dy = true
    · rw [if_pos hc] at e'
      cases e'
      obtain ⟨h1, h2⟩ := hc
      unfold shapedD at h1 h2
      rw [Bool.and_eq_true] at h1 h2
      exact .inr ⟨_, _, rx.dp s h1.1, ry.dp s h2.1, h1.2, h2.2, k _ F H (Step.refl s) (.bl _)⟩
    · rw [if_neg hc] at e'
      cases e'
theorem does_neA : Does2 K (rNeA K) oNe := fun x y dx dy d F H Q s rx ry e k => by
  unfold oNe at e
  cases q : flatEq dx dy with
  | some b =>
    rw [q] at e
    cases e
    obtain ⟨h1, h2⟩ := flatEq_ok rx ry q
    exact .inl ⟨h1, by rw [h2]; exact k _ F H (Step.refl s) (.bl _)⟩
  | none =>
    rw [q] at e
    have e' : (if shapedD dx = true ∧ shapedD dy = true then some (D.bl (!PyData.eqv (py dx) (py dy))) else none) = some d := e
    by_cases hc : shapedD dx = true ∧ shapedD dy = true
    · rw [if_pos hc] at e'
      cases e'
      obtain ⟨h1, h2⟩ := hc
      unfold shapedD at h1 h2
      rw [Bool.and_eq_true] at h1 h2
      exact .inr ⟨_, _, rx.dp s h1.1, ry.dp s h2.1, h1.2, h2.2, k _ F H (Step.refl s) (.bl _)⟩
    · rw [if_neg hc] at e'
      cases e'
/-! ### in -/
def flD : D → Option V
  | .non => some .non
  | .bl b => some (.bl b)
  | .int i => some (.int i)
  | .str x => some (.str x)
  | _ => none
theorem flD_ok {x : V} {d : D} {v : V} (r : Rep K F x d) (e : flD d = some v) : x = v ∧ flatV x = true := by
  cases r <;> first
    | (cases e; exact ⟨rfl, rfl⟩)
    | (cases e)
def flDs : List D → Option (List V)
  | [] => some []
  | d :: ds => (flD d).bind fun v => (flDs ds).bind fun vs => some (v :: vs)
theorem flDs_ok : ∀ {xs : List V} {ds : List D} {vs : List V}, Reps K F xs ds → flDs ds = some vs → xs = vs ∧ xs.all flatV = true
  | _, _, vs, .nil, e => by
    cases e
    exact ⟨rfl, rfl⟩
  | _, _, vs, .cons r rs, e => by
    obtain ⟨v, ev, e⟩ := Option.bind_eq_some_iff.mp e
    obtain ⟨ws, ew, e⟩ := Option.bind_eq_some_iff.mp e
    cases e
    obtain ⟨h1, h2⟩ := flD_ok r ev
    obtain ⟨h3, h4⟩ := flDs_ok rs ew
    subst h1 h3
    exact ⟨rfl, by rw [List.all_cons, h2, h4]; rfl⟩
def inD (x : D) (ds : List D) : Option Bool := (flD x).bind fun v => (flDs ds).bind fun vs => some (inV v vs)
def oIn : D → D → Option D
  | x, .lst ds => (inD x ds).map D.bl
  | x, .tup ds => (inD x ds).map D.bl
  | .str c, .str z => if c.cps.size = 1 then some (.bl (decide (c.cps.getD 0 0 ∈ z.cps.toList))) else none
  | _, _ => none
def oNotIn : D → D → Option D
  | x, .lst ds => (inD x ds).map fun b => D.bl (!b)
  | x, .tup ds => (inD x ds).map fun b => D.bl (!b)
  | .str c, .str z => if c.cps.size = 1 then some (.bl (!decide (c.cps.getD 0 0 ∈ z.cps.toList))) else none
  | _, _ => none
def rInA (K : PySem.W.Frag) : R2 := fun x y H Q => rIn K false x y H Q ∨ (∃ (c : Nat) (z : Str), x = .str ⟨#[c]⟩ ∧ y = .str z ∧ Q (.bl (decide (c ∈ z.cps.toList))) H)
def rNotInA (K : PySem.W.Frag) : R2 := fun x y H Q => rIn K true x y H Q ∨ (∃ (c : Nat) (z : Str), x = .str ⟨#[c]⟩ ∧ y = .str z ∧ Q (.bl (!decide (c ∈ z.cps.toList))) H)
theorem op_inA {X : Cx} : OpR X (compareOp .In) (rInA X.K) := op_in_seq.or op_in_sign
theorem op_notInA {X : Cx} : OpR X (compareOp .NotIn) (rNotInA X.K) := op_notIn_seq.or op_notIn_sign
theorem sign_of {c : Str} (h : c.cps.size = 1) : c = ⟨#[c.cps.getD 0 0]⟩ := by
  obtain ⟨a⟩ := c
  have h : a.size = 1 := h
  congr 1
  apply Array.ext
  · simp [h]
  · intro i h1 h2
    have e : i = 0 := by simp at h2; omega
    subst e
    simp [Array.getD, h]
theorem inD_ok {x : V} {dx : D} {xs : List V} {ds : List D} {b : Bool} (rx : Rep K F x dx) (hr : Reps K F xs ds) (e : inD dx ds = some b) : flatV x = true ∧ xs.all flatV = true ∧ inV x xs = b := by
  obtain ⟨v, ev, e⟩ := Option.bind_eq_some_iff.mp e
  obtain ⟨vs, es, e⟩ := Option.bind_eq_some_iff.mp e
  cases e
  obtain ⟨h1, h2⟩ := flD_ok rx ev
  obtain ⟨h3, h4⟩ := flDs_ok hr es
  subst h1 h3
  exact ⟨h2, h4, rfl⟩
theorem does_inA : Does2 K (rInA K) oIn := fun x y dx dy d F H Q s rx ry e k => by
  cases ry with
  | @lst p xs ds hs hr =>
    obtain ⟨b, eb, ed⟩ := Option.map_eq_some_iff.mp (show (inD dx ds).map D.bl = some d by cases dx <;> exact e)
    subst ed
    obtain ⟨h1, h2, h3⟩ := inD_ok rx hr eb
    exact .inl ⟨p, xs, rfl, .inl (.inl (.inl (s _ _ hs))), h1, h2, by rw [if_neg Bool.false_ne_true, h3]; exact k _ F H (Step.refl s) (.bl _)⟩
  | @tup p xs ds hs hr =>
    obtain ⟨b, eb, ed⟩ := Option.map_eq_some_iff.mp (show (inD dx ds).map D.bl = some d by cases dx <;> exact e)
    subst ed
    obtain ⟨h1, h2, h3⟩ := inD_ok rx hr eb
    exact .inl ⟨p, xs, rfl, .inr (sqT_mono s hs), h1, h2, by rw [if_neg Bool.false_ne_true, h3]; exact k _ F H (Step.refl s) (.bl _)⟩
  | str z => cases rx with
    | str c =>
      have e' : (if c.cps.size = 1 then some (D.bl (decide (c.cps.getD 0 0 ∈ z.cps.toList))) else none) = some d := e
      by_cases hc : c.cps.size = 1
      · rw [if_pos hc] at e'
        cases e'
        exact .inr ⟨_, z, by rw [← sign_of hc], rfl, k _ F H (Step.refl s) (.bl _)⟩
      · rw [if_neg hc] at e'
        cases e'
    | _ => cases e
  | _ => cases rx <;> cases e
theorem does_notInA : Does2 K (rNotInA K) oNotIn := fun x y dx dy d F H Q s rx ry e k => by
  cases ry with
  | @lst p xs ds hs hr =>
    obtain ⟨b, eb, ed⟩ := Option.map_eq_some_iff.mp (show (inD dx ds).map (fun b => D.bl (!b)) = some d by cases dx <;> exact e)
    subst ed
    obtain ⟨h1, h2, h3⟩ := inD_ok rx hr eb
    exact .inl ⟨p, xs, rfl, .inl (.inl (.inl (s _ _ hs))), h1, h2, by rw [if_pos rfl, h3]; exact k _ F H (Step.refl s) (.bl _)⟩
  | @tup p xs ds hs hr =>
    obtain ⟨b, eb, ed⟩ := Option.map_eq_some_iff.mp (show (inD dx ds).map (fun b => D.bl (!b)) = some d by cases dx <;> exact e)
    subst ed
    obtain ⟨h1, h2, h3⟩ := inD_ok rx hr eb
    exact .inl ⟨p, xs, rfl, .inr (sqT_mono s hs), h1, h2, by rw [if_pos rfl, h3]; exact k _ F H (Step.refl s) (.bl _)⟩
  | str z => cases rx with
    | str c =>
      have e' : (if c.cps.size = 1 then some (D.bl (!decide (c.cps.getD 0 0 ∈ z.cps.toList))) else none) = some d := e
      by_cases hc : c.cps.size = 1
      · rw [if_pos hc] at e'
        cases e'
        exact .inr ⟨_, z, by rw [← sign_of hc], rfl, k _ F H (Step.refl s) (.bl _)⟩
      · rw [if_neg hc] at e'
        cases e'
    | _ => cases e
  | _ => cases rx <;> cases e
/-! ### functions -/
@[simp] def oLen : List D → Option D
  | [.lst ds] => some (.int (ds.length : Nat))
  | [.tup ds] => some (.int (ds.length : Nat))
  | [.scr ns] => some (.int (ns.length : Nat))
  | [.str z] => if z.length ≤ sizeLine then some (.int (z.length : Nat)) else none
  | _ => none
theorem does_len : DoesN K (fun xs H Q => ∃ x n, xs = [x] ∧ LenV K x H n ∧ Q (.int (n : Nat)) H) oLen := fun xs ds d F H Q s rs e k => by
  cases rs with
  | nil => cases e
  | cons r rs => cases rs with
    | cons _ _ => cases r <;> cases e
    | nil => cases r with
      | @lst p xs ds hs hr =>
        cases e
        refine ⟨_, ds.length, rfl, .inl ⟨xs, .inl (.inl (s _ _ hs)), hr.length.symm⟩, k _ F H (Step.refl s) (.int _)⟩
      | @tup p xs ds hs hr =>
        cases e
        refine ⟨_, ds.length, rfl, .inr ⟨xs, sqT_mono s hs, hr.length.symm⟩, k _ F H (Step.refl s) (.int _)⟩
      | @scr p ns hs =>
        cases e
        refine ⟨_, ns.length, rfl, .inl ⟨_, s.seq hs, by rw [List.length_map]⟩, k _ F H (Step.refl s) (.int _)⟩
      | str z =>
        have e' : (if z.length ≤ sizeLine then some (D.int (z.length : Nat)) else none) = some d := e
        by_cases hz : z.length ≤ sizeLine
        · rw [if_pos hz] at e'
          cases e'
          exact ⟨_, z.length, rfl, ⟨hz, rfl⟩, k _ F H (Step.refl s) (.int _)⟩
        · rw [if_neg hz] at e'
          cases e'
      | _ => cases e
@[simp] def oAbs : List D → Option D
  | [.int i] => some (.int (if i < 0 then -i else i))
  | _ => none
theorem does_abs : DoesN K (fun xs H Q => ∃ i, xs = [V.int i] ∧ Q (.int (if i < 0 then -i else i)) H) oAbs := fun xs ds d F H Q s rs e k => by
  cases rs with
  | nil => cases e
  | cons r rs => cases rs with
    | cons _ _ => cases r <;> cases e
    | nil => cases r with
      | int i =>
        cases e
        exact ⟨i, rfl, k _ F H (Step.refl s) (.int _)⟩
      | _ => cases e
@[simp] def oInt : List D → Option D
  | [.int i] => some (.int i)
  | [.bl b] => some (.int (if b then 1 else 0))
  | [.str x] => (PySem.intText? x).bind fun n => if x.length ≤ 640 then some (.int n) else none
  | _ => none
def rIntA : List V → Hp → VK → Prop := fun xs H Q => ((∃ i, xs = [V.int i] ∧ Q (.int i) H) ∨ ∃ k, xs = [V.bl k] ∧ Q (.int (if k then 1 else 0)) H) ∨ ∃ a n, xs = [V.str a] ∧ PySem.intText? a = some n ∧ a.length ≤ 640 ∧ Q (.int n) H
theorem call_intA {X : Cx} : CallR X (.type "int") rIntA := call_int1.or call_int_str
theorem does_int : DoesN K rIntA oInt := fun xs ds d F H Q s rs e k => by
  cases rs with
  | nil => cases e
  | cons r rs => cases rs with
    | cons _ _ => cases r <;> cases e
    | nil => cases r with
      | int i =>
        cases e
        exact .inl (.inl ⟨i, rfl, k _ F H (Step.refl s) (.int _)⟩)
      | bl b =>
        cases e
        exact .inl (.inr ⟨b, rfl, k _ F H (Step.refl s) (.int _)⟩)
      | str x =>
        obtain ⟨n, en, e'⟩ := Option.bind_eq_some_iff.mp (show ((PySem.intText? x).bind fun n => if x.length ≤ 640 then some (D.int n) else none) = some d from e)
        by_cases hz : x.length ≤ 640
        · rw [if_pos hz] at e'
          cases e'
          exact .inr ⟨x, n, rfl, en, hz, k _ F H (Step.refl s) (.int _)⟩
        · rw [if_neg hz] at e'
          cases e'
      | _ => cases e
@[simp] def oStr : List D → Option D
  | [.int i] => if i.natAbs.log2 < 1920 then some (.str (toString i)) else none
  | _ => none
theorem does_str : DoesN K (fun xs H Q => ∃ i, xs = [V.int i] ∧ i.natAbs.log2 < 1920 ∧ Q (.str (toString i)) H) oStr := fun xs ds d F H Q s rs e k => by
  cases rs with
  | nil => cases e
  | cons r rs => cases rs with
    | cons _ _ => cases r <;> cases e
    | nil => cases r with
      | int i =>
        have e' : (if i.natAbs.log2 < 1920 then some (D.str (toString i)) else none) = some d := e
        by_cases hz : i.natAbs.log2 < 1920
        · rw [if_pos hz] at e'
          cases e'
          exact ⟨i, rfl, hz, k _ F H (Step.refl s) (.str _)⟩
        · rw [if_neg hz] at e'
          cases e'
      | _ => cases e
@[simp] def oII (g : Int → Int → D) : List D → Option D
  | [.int i, .int j] => some (g i j)
  | _ => none
theorem two_ints {F : Hp} {xs : List V} {ds : List D} {g : Int → Int → D} {d : D} (rs : Reps K F xs ds) (e : oII g ds = some d) : ∃ i j, xs = [V.int i, V.int j] ∧ ds = [.int i, .int j] ∧ d = g i j := by
  cases rs with
  | nil => cases e
  | cons r rs => cases rs with
    | nil => cases r <;> cases e
    | cons r2 rs => cases rs with
      | cons _ _ => cases r <;> cases r2 <;> cases e
      | nil => cases r with
        | int i => cases r2 with
          | int j =>
            cases e
            exact ⟨i, j, rfl, rfl, rfl⟩
          | _ => cases e
        | _ => cases e
@[simp] def oMax2 : List D → Option D := oII fun i j => .int (if j > i then j else i)
@[simp] def oMin2 : List D → Option D := oII fun i j => .int (if j < i then j else i)
theorem does_max2 : DoesN K (fun xs H Q => ∃ i j, xs = [V.int i, V.int j] ∧ Q (.int (if j > i then j else i)) H) oMax2 := fun xs ds d F H Q s rs e k => by
  obtain ⟨i, j, e1, e2, e3⟩ := two_ints rs e
  subst e1 e2 e3
  exact ⟨i, j, rfl, k _ F H (Step.refl s) (.int _)⟩
theorem does_min2 : DoesN K (fun xs H Q => ∃ i j, xs = [V.int i, V.int j] ∧ Q (.int (if j < i then j else i)) H) oMin2 := fun xs ds d F H Q s rs e k => by
  obtain ⟨i, j, e1, e2, e3⟩ := two_ints rs e
  subst e1 e2 e3
  exact ⟨i, j, rfl, k _ F H (Step.refl s) (.int _)⟩
@[simp] def oGcd : List D → Option D := oII fun i j => .int ((Nat.gcd i.natAbs j.natAbs : Nat) : Int)
theorem does_gcd : DoesN K rGcd oGcd := fun xs ds d F H Q s rs e k => by
  obtain ⟨i, j, e1, e2, e3⟩ := two_ints rs e
  subst e1 e2 e3
  exact ⟨i, j, rfl, k _ F H (Step.refl s) (.int _)⟩
/-! ### sum, all, any of a list -/
def intsD : List D → Option (List Int)
  | [] => some []
  | .int i :: ds => (intsD ds).map (i :: ·)
  | _ :: _ => none
theorem intsD_ok {F : Hp} : ∀ {xs : List V} {ds : List D} {ns : List Int}, Reps K F xs ds → intsD ds = some ns → xs = ns.map V.int
  | _, _, _, .nil, e => by
    cases e
    rfl
  | _, _, _, .cons r rs, e => by
    cases r with
    | int i =>
      obtain ⟨ms, em, e⟩ := Option.map_eq_some_iff.mp e
      subst e
      rw [intsD_ok rs em]
      rfl
    | _ => cases e
def blsD : List D → Option (List Bool)
  | [] => some []
  | .bl i :: ds => (blsD ds).map (i :: ·)
  | _ :: _ => none
theorem blsD_ok {F : Hp} : ∀ {xs : List V} {ds : List D} {ns : List Bool}, Reps K F xs ds → blsD ds = some ns → xs = ns.map V.bl
  | _, _, _, .nil, e => by
    cases e
    rfl
  | _, _, _, .cons r rs, e => by
    cases r with
    | bl i =>
      obtain ⟨ms, em, e⟩ := Option.map_eq_some_iff.mp e
      subst e
      rw [blsD_ok rs em]
      rfl
    | _ => cases e
@[simp] theorem intsD_map (ns : List Int) : intsD (ns.map D.int) = some ns := by
  induction ns with
  | nil => rfl
  | cons n ns ih => show (intsD (ns.map D.int)).map (n :: ·) = _; rw [ih]; rfl
@[simp] theorem blsD_map (ns : List Bool) : blsD (ns.map D.bl) = some ns := by
  induction ns with
  | nil => rfl
  | cons n ns ih => show (blsD (ns.map D.bl)).map (n :: ·) = _; rw [ih]; rfl
@[simp] def oLL (g : List D → Option D) : List D → Option D
  | [.lst es] => g es
  | _ => none
theorem one_list {F : Hp} {xs : List V} {ds : List D} {g : List D → Option D} {d : D} (rs : Reps K F xs ds) (e : oLL g ds = some d) : ∃ a ys es, xs = [V.ref a] ∧ ds = [.lst es] ∧ F a = some (.lst ys) ∧ Reps K F ys es ∧ g es = some d := by
  cases rs with
  | nil => cases e
  | cons r rs => cases rs with
    | cons _ _ => cases r <;> cases e
    | nil => cases r with
      | @lst p ys es hs hr => exact ⟨p, ys, es, rfl, rfl, hs, hr, e⟩
      | _ => cases e
@[simp] def oSum : List D → Option D := oLL fun ds => (intsD ds).map fun ns => .int ns.sum
theorem does_sum : DoesN K (rSum K) oSum := fun xs ds d F H Q s rs e k => by
  obtain ⟨a, ys, es, e1, e2, hs, hr, e⟩ := one_list rs e
  obtain ⟨ns, en, e3⟩ := Option.map_eq_some_iff.mp e
  subst e1 e2 e3
  have := intsD_ok hr en
  subst this
  exact ⟨a, ns, rfl, .inl (.inl (s _ _ hs)), k _ F H (Step.refl s) (.int _)⟩
@[simp] def oAll : List D → Option D := oLL fun ds => (blsD ds).map fun ns => .bl (ns.all id)
theorem does_all : DoesN K (rAll K) oAll := fun xs ds d F H Q s rs e k => by
  obtain ⟨a, ys, es, e1, e2, hs, hr, e⟩ := one_list rs e
  obtain ⟨ns, en, e3⟩ := Option.map_eq_some_iff.mp e
  subst e1 e2 e3
  have := blsD_ok hr en
  subst this
  exact ⟨a, ns, rfl, .inl (.inl (s _ _ hs)), k _ F H (Step.refl s) (.bl _)⟩
end
end Dn

/-! Dn9: lists that are read; slices; isinstance; calls of defs, fields, constructors, raise. -/
namespace Dn
open PySem PySem.Spec PyProof.Rows L2

section
variable {X : Cx} {E : XK} {pos ppos apos : Pos} {a b c e e2 o : Expr} {es : List Expr} {f g h : Sto → Res D} {fa : Sto → Res (List D)} {fl : Sto → Res (Bool × List D)}

/-! ### an own list (or any) read -/
@[simp] def dIxL (fl : Sto → Res (Bool × List D)) (g : Sto → Res D) : Sto → Res D := fun δ => (fl δ).bind fun x => (g δ).bind fun k => match k with
  | .int i => Res.opt (atI x.2 i)
  | _ => .no
theorem sqB_ix {K : PySem.W.Frag} {b : Bool} {F H : Hp} {p : Addr} {xs : List V} {i : Int} {v : V} {Q : VK} (s : SqB K b F H p xs) (m : Same F H) (e : atI xs i = some v) (q : Q v H) : rIx K (.ref p) (.int i) H Q := by
  cases b with
  | true => exact .inr (.inl ⟨p, xs, i, v, rfl, rfl, sqT_mono m (show SqT K F p xs from s), e, q⟩)
  | false => exact .inl ⟨p, xs, i, v, rfl, rfl, .inl (.inl (show H p = some (.lst xs) from s)), e, q⟩
theorem SqB.mono {K : PySem.W.Frag} {b : Bool} {F H F' H' : Hp} {p : Addr} {xs : List V} (s : SqB K b F H p xs) (m : Same H H') (mf : Same F F') : SqB K b F' H' p xs := by
  cases b with
  | true => exact sqT_mono mf (show SqT K F p xs from s)
  | false => exact m _ _ (show H p = some (.lst xs) from s)
theorem de_ixL (ha : DL X E a fl) (hb : DE X E b g) (hs : PlainIx b := by exact fun _ _ => rfl) : DE X E (.Subscript a b pos) (dIxL fl g) := by
  refine PE.imp (pe_ix ix_seq ha hb hs) fun σ H Q w => ?_
  obtain ⟨Hin, Fin, F, δ, st, fi, k⟩ := w
  refine tDL.mk st fi.left fun p xs F1 H1 bb ds ed t st1 sq hr => ?_
  have fi1 := fi.right ed
  refine tD.mk st1 fi1.left fun iv F2 H2 kd ek t2 st2 rk => ?_
  have fi2 := fi1.right ek
  cases rk with
  | int i =>
    obtain ⟨d, edd⟩ := fi2.opt
    obtain ⟨v, ev, rv⟩ := atI_reps hr edd
    refine sqB_ix (sq.mono t2.old t2.mono) st2.sub ev (k v F2 H2 d ?_ (t.trans t2) (rv.mono t2.mono))
    show (fl δ).bind _ = _
    rw [ed]
    show (g δ).bind _ = _
    rw [ek]
    show Res.opt (atI ds i) = _
    rw [edd]
    rfl
  | _ => exact absurd rfl fi2.hn
@[simp] def dLenL (fl : Sto → Res (Bool × List D)) : Sto → Res D := fun δ => (fl δ).bind fun x => .ok (.int (x.2.length : Nat))
theorem de_lenL {x : Str} (hm : X.mg x = none) (hv : bootBuiltins x = some (.builtin "len")) (ha : DL X E e fl)
    (hg : Gl X x := by rfl) (hn : x ≠ "__name__" := by decide) (hdb : (x == ("__debug__" : Str)) = false := by decide)
    (he : starEach [e] X.env = (false, eval e X.env) :: starEach [] X.env := by rfl) (hpl : (backTo pos (starEach [] X.env)).any (·.1) = false := by rfl) : DE X E (.Call (.Name x ppos) [e] [] pos) (dLenL fl) := by
  refine PE.imp (pe_callB call_len hg hm hv (pa_cons ha pa_nil he) hn hdb he hpl) fun σ H Q w => ?_
  obtain ⟨Hin, Fin, F, δ, st, fi, k⟩ := w
  unfold tCB tCons tNil
  refine tDL.mk st fi.left fun p xs F1 H1 bb ds ed t st1 sq hr => ?_
  refine ⟨.ref p, ds.length, rfl, ?_, k _ F1 H1 _ (by show (fl δ).bind _ = _; rw [ed]; rfl) t (.int _)⟩
  cases bb with
  | true => exact .inr ⟨xs, sqT_mono st1.sub (show SqT X.K F1 p xs from sq), hr.length.symm⟩
  | false => exact .inl ⟨xs, .inl (.inl sq), hr.length.symm⟩
/-- list(x): a new list -/
theorem df_list {x : Str} (hm : X.mg x = none) (hv : bootBuiltins x = some (.type "list")) (ha : DL X E e fl)
    (hg : Gl X x := by rfl) (hn : x ≠ "__name__" := by decide) (hdb : (x == ("__debug__" : Str)) = false := by decide)
    (he : starEach [e] X.env = (false, eval e X.env) :: starEach [] X.env := by rfl) (hpl : (backTo pos (starEach [] X.env)).any (·.1) = false := by rfl) : DF X E (.Call (.Name x ppos) [e] [] pos) (dItemsL fl) := by
  refine PE.imp (pe_callTy call_list_of hg hm hv (pa_cons ha pa_nil he) hn hdb he hpl) fun σ H Q w => ?_
  obtain ⟨Hin, Fin, F, δ, st, fi, k⟩ := w
  unfold tCB tCons tNil
  refine tDL.mk st fi.left fun p xs F1 H1 bb ds ed t st1 sq hr => ?_
  refine ⟨p, xs, rfl, ?_, fun l nl => ?_⟩
  · cases bb with
    | true => exact .inr (sqT_mono st1.sub (show SqT X.K F1 p xs from sq))
    | false => exact .inl (.inl (.inl sq))
  · have t3 : Step F1 H1 F1 (upd H1 l (.lst xs)) := ⟨same_upd nl, Same.refl _, fun b o eb => by rw [upd_ne (ne_of_none (st1.sub _ _ eb) nl)]; exact st1.sub _ _ eb, fun b o eb n => by rw [n] at eb; cases eb⟩
    exact k l xs F1 _ ds (by show (fl δ).bind _ = _; rw [ed]; rfl) (t.trans t3) upd_same (st1.sub.free nl) (t.old.free nl) hr
/-- tuple(x) -/
@[simp] def dTupL (fl : Sto → Res (Bool × List D)) : Sto → Res D := fun δ => (fl δ).bind fun x => .ok (.tup x.2)
theorem de_tupleL {x : Str} (hm : X.mg x = none) (hv : bootBuiltins x = some (.type "tuple")) (ha : DL X E e fl)
    (hg : Gl X x := by rfl) (hn : x ≠ "__name__" := by decide) (hdb : (x == ("__debug__" : Str)) = false := by decide)
    (he : starEach [e] X.env = (false, eval e X.env) :: starEach [] X.env := by rfl) (hpl : (backTo pos (starEach [] X.env)).any (·.1) = false := by rfl) : DE X E (.Call (.Name x ppos) [e] [] pos) (dTupL fl) := by
  refine PE.imp (pe_callTy call_tuple_of hg hm hv (pa_cons ha pa_nil he) hn hdb he hpl) fun σ H Q w => ?_
  obtain ⟨Hin, Fin, F, δ, st, fi, k⟩ := w
  have fi' := fi.left
  refine ⟨Hin, Fin, F, δ, st, fi', fun p xs F1 H1 bb ds ed t sq hr => ?_⟩
  refine ⟨p, xs, rfl, ?_⟩
  have e1 : dTupL fl δ = .ok (.tup ds) := by
    show (fl δ).bind _ = _
    rw [ed]
    rfl
  cases bb with
  | false =>
    refine .inl ⟨.inl (.inl sq), fun l nl => ?_⟩
    have t3 := Step.push (o := .tup xs) t.sub nl
    exact k _ _ _ _ e1 (t.trans t3) (.tup (.inl (.inl upd_same)) (hr.mono t3.mono))
  | true =>
    have sq : SqT X.K F1 p xs := sq
    exact .inr ⟨sqT_mono t.sub sq, k _ _ _ _ e1 t (.tup sq hr)⟩
/-! ### slices -/
def tDO (K : PySem.W.Frag) (E : XK) (f : Sto → Res (Option Int)) : TO := fun σ H Q => ∃ Hin Fin F δ, StL K Hin Fin F σ H δ ∧ Fine E K Hin (f δ) ∧ ∀ o F1 H1, f δ = .ok o → Step F H F1 H1 → Q o H1
abbrev DO (X : Cx) (E : XK) (e : Option Expr) (f : Sto → Res (Option Int)) : Prop := PO X e (tDO X.K E f)
theorem PO.imp {X : Cx} {e : Option Expr} {t t' : TO} (h : PO X e t) (i : ∀ σ H Q, t' σ H Q → t σ H Q) : PO X e t' := ⟨fun pins s σ H Q I hw => h.run pins s σ H Q I (i σ H Q hw)⟩
@[simp] def dNoO : Sto → Res (Option Int) := fun _ => .ok none
@[simp] def dSoO (f : Sto → Res D) : Sto → Res (Option Int) := fun δ => (f δ).bind fun x => match x with
  | .int i => .ok (some i)
  | _ => .no
theorem do_none : DO X E none dNoO := PO.imp po_none fun σ H Q w => by
  obtain ⟨Hin, Fin, F, δ, st, fi, k⟩ := w
  exact k none F H rfl (Step.refl st.sub)
theorem do_some (ha : DE X E a f) : DO X E (some a) (dSoO f) := PO.imp (po_some ha) fun σ H Q w => by
  obtain ⟨Hin, Fin, F, δ, st, fi, k⟩ := w
  refine tD.mk st fi.left fun v F1 H1 x ex t st1 rv => ?_
  have fi1 := fi.right ex
  cases rv with
  | int i => exact ⟨i, rfl, k (some i) F1 H1 (by show (f δ).bind _ = _; rw [ex]; rfl) t⟩
  | _ => exact absurd rfl fi1.hn
def cutD (ds : List D) (lo hi : Option Int) : List D := (ds.drop (HT.sIx ds.length 0 lo)).take (HT.sIx ds.length ds.length hi - HT.sIx ds.length 0 lo)
theorem reps_cut {K : PySem.W.Frag} {F : Hp} {xs : List V} {ds : List D} (r : Reps K F xs ds) (lo hi : Option Int) : Reps K F (cutV xs lo hi) (cutD ds lo hi) := by
  unfold cutV cutD
  rw [r.length]
  exact (r.drop _).take _
variable {lo hi : Option Expr} {fo fh : Sto → Res (Option Int)} {p2 : Pos}
/-- a list's slice: a new list -/
@[simp] def dCutL (fl : Sto → Res (Bool × List D)) (fo fh : Sto → Res (Option Int)) : Sto → Res (List D) := fun δ => (fl δ).bind fun x => (fo δ).bind fun l => (fh δ).bind fun u => match x with
  | (false, ds) => .ok (cutD ds l u)
  | _ => .no
theorem df_cut (ha : DL X E e fl) (hl : DO X E lo fo) (hh : DO X E hi fh) : DF X E (.Subscript e (.Slice lo hi none p2) pos) (dCutL fl fo fh) := by
  refine PE.imp (pe_slice sl_list ha hl hh) fun σ H Q w => ?_
  obtain ⟨Hin, Fin, F, δ, st, fi, k⟩ := w
  show tDL X.K E fl σ H _
  refine tDL.mk st fi.left fun p xs F1 H1 bb ds ed t st1 sq hr => ?_
  have fi1 := fi.right ed
  refine ⟨Hin, Fin, F1, δ, st1, fi1.left, fun l F2 H2 el t2 => ?_⟩
  have fi2 := fi1.right el
  refine ⟨Hin, Fin, F2, δ, st1.step t2, fi2.left, fun u F3 H3 eu t3 => ?_⟩
  have fi3 := fi2.right eu
  cases bb with
  | true => exact absurd rfl fi3.hn
  | false =>
    have sq : H1 p = some (.lst xs) := sq
    refine ⟨p, xs, rfl, .inl (.inl (t3.old _ _ (t2.old _ _ sq))), fun q nq => ?_⟩
    have s3 := (st1.step t2).step t3
    have t4 : Step F3 H3 F3 (upd H3 q (.lst (cutV xs l u))) := ⟨same_upd nq, Same.refl _, fun b o eb => by rw [upd_ne (ne_of_none (s3.sub _ _ eb) nq)]; exact s3.sub _ _ eb, fun b o eb n => by rw [n] at eb; cases eb⟩
    exact k q _ F3 _ (cutD ds l u) (by show (fl δ).bind _ = _; rw [ed]; show (fo δ).bind _ = _; rw [el]; show (fh δ).bind _ = _; rw [eu]; rfl) (((t.trans t2).trans t3).trans t4) upd_same (s3.sub.free nq) (t.old.free (t2.old.free (t3.old.free nq))) (((reps_cut hr l u).mono t2.mono).mono t3.mono)
/-- a text's, a tuple's slice -/
@[simp] def oCut : D → Option Int → Option Int → Option D
  | .str z, l, u => if z.length ≤ sizeLine then some (.str (cutS z l u)) else none
  | .tup ds, l, u => some (.tup (cutD ds l u))
  | .lst ds, l, u => some (.lst (cutD ds l u))
  | _, _, _ => none
@[simp] def dCut (f : Sto → Res D) (fo fh : Sto → Res (Option Int)) : Sto → Res D := fun δ => (f δ).bind fun x => (fo δ).bind fun l => (fh δ).bind fun u => Res.opt (oCut x l u)
theorem cut_whole {ds : List D} {lo hi : Option Int} (h : HT.sIx ds.length 0 lo = 0 ∧ HT.sIx ds.length ds.length hi = ds.length) : cutD ds lo hi = ds := by
  unfold cutD
  rw [h.1, h.2, List.drop_zero, Nat.sub_zero, List.take_length]
theorem de_cut (ha : DE X E e f) (hl : DO X E lo fo) (hh : DO X E hi fh) : DE X E (.Subscript e (.Slice lo hi none p2) pos) (dCut f fo fh) := by
  refine PE.imp (pe_slice (sl_str.or (sl_tupA.or sl_list)) ha hl hh) fun σ H Q w => ?_
  obtain ⟨Hin, Fin, F, δ, st, fi, k⟩ := w
  refine tD.mk st fi.left fun v F1 H1 x ed t st1 rv => ?_
  have fi1 := fi.right ed
  refine ⟨Hin, Fin, F1, δ, st1, fi1.left, fun l F2 H2 el t2 => ?_⟩
  have fi2 := fi1.right el
  refine ⟨Hin, Fin, F2, δ, st1.step t2, fi2.left, fun u F3 H3 eu t3 => ?_⟩
  have fi3 := fi2.right eu
  have s3 := (st1.step t2).step t3
  obtain ⟨d, edd⟩ := fi3.opt
  have e1 : dCut f fo fh δ = .ok d := by
    show (f δ).bind _ = _
    rw [ed]
    show (fo δ).bind _ = _
    rw [el]
    show (fh δ).bind _ = _
    rw [eu]
    show Res.opt (oCut x l u) = _
    rw [edd]
    rfl
  have t33 := (t.trans t2).trans t3
  cases (rv.mono t2.mono).mono t3.mono with
  | str z =>
    have e' : (if z.length ≤ sizeLine then some (D.str (cutS z l u)) else none) = some d := edd
    by_cases hz : z.length ≤ sizeLine
    · rw [if_pos hz] at e'
      cases e'
      exact .inl ⟨z, rfl, hz, k _ F3 H3 _ e1 t33 (.str _)⟩
    · rw [if_neg hz] at e'
      cases e'
  | @tup p xs ds hs hr =>
    cases edd
    refine .inr (.inl ⟨p, xs, rfl, sqT_mono s3.sub hs, fun hw => ?_, fun hw q nq => ?_⟩)
    · rw [hr.length] at hw
      rw [cut_whole hw] at e1
      exact k _ F3 H3 _ e1 t33 (.tup hs hr)
    · have t4 := Step.push (o := .tup (cutV xs l u)) s3.sub nq
      exact k _ _ _ _ e1 (t33.trans t4) (.tup (.inl (.inl upd_same)) ((reps_cut hr l u).mono t4.mono))
  | @lst p xs ds hs hr =>
    cases edd
    refine .inr (.inr ⟨p, xs, rfl, .inl (.inl (s3.sub _ _ hs)), fun q nq => ?_⟩)
    have t4 := Step.push (o := .lst (cutV xs l u)) s3.sub nq
    exact k _ _ _ _ e1 (t33.trans t4) (.lst upd_same ((reps_cut hr l u).mono t4.mono))
  | _ => cases edd
end
end Dn

/-! Dn10: isinstance, fields, calls of defs, constructors, raise; a def's promise by its body's denotation. -/
namespace Dn
open PySem PySem.Spec PyProof.Rows L2

/-! ### isinstance -/
/-- what isinstance asks of an own class -/
structure InsOk (K : PySem.W.Frag) (C : Addr) : Prop where
  cl : Cls K C
  ha : PySem.W.findIn K (.ref C) "__class__" = some (some (.builtin "object.__class__"))
  hn : PySem.W.specialIn K (.builtin "object.__class__") "__get__" = some (some (.builtin "getset_descriptor.__get__"))
  htk : PySem.W.takesIn K (.builtin "object.__class__") = some true
  hm : PySem.W.mroIn K C (.type "object") = some true
@[simp] def tyD (Cs : List Addr) : D → Option Value
  | .non => some (.type "NoneType")
  | .bl _ => some (.type "bool")
  | .int _ => some (.type "int")
  | .str _ => some (.type "str")
  | .tup _ => some (.type "tuple")
  | .lst _ => some (.type "list")
  | .scr _ => some (.type "list")
  | .obj C _ _ => if C ∈ Cs then some (.ref C) else none
  | _ => none
theorem tyD_ok {K : PySem.W.Frag} {Cs : List Addr} (hC : ∀ C ∈ Cs, InsOk K C) {F H : Hp} {v : V} {d : D} {t : Value} (s : Same F H) (r : Rep K F v d) (e : tyD Cs d = some t) : TyX K H v t := by
  cases r with
  | non => cases e; exact .base .non
  | bl b => cases e; exact .base (.bl b)
  | int i => cases e; exact .base (.int i)
  | str x => cases e; exact .base (.str x)
  | @tup a xs ds hs hr =>
    cases e
    rcases hs with (h | ⟨o, h⟩) | ⟨o, its, n, h, hc, _⟩
    · exact .base (.tup (s _ _ h))
    · exact .fTuple (s _ _ h)
    · exact .kTuple h hc
  | @lst a xs ds hs hr => cases e; exact .base (.lst (s _ _ hs))
  | @scr a ns hs =>
    cases e
    rcases hs with (h | ⟨o, h⟩) | ⟨o, its, n, h, hc, _⟩
    · exact .base (.lst (s _ _ h))
    · exact .base (.frz (s _ _ h))
    · exact .kList h hc
  | @obj a C dx fvs ns ds hs hn hr =>
    have e' : (if C ∈ Cs then some (Value.ref C) else none) = some t := e
    by_cases hm : C ∈ Cs
    · rw [if_pos hm] at e'
      cases e'
      have i := hC C hm
      exact .base (.ins (s _ _ hs) i.cl i.ha i.hn i.htk i.hm)
    · rw [if_neg hm] at e'
      cases e'
  | _ => cases e
@[simp] def oIsi (K : PySem.W.Frag) (Cs : List Addr) : List D → Option D
  | [x, .ty T] => (tyD Cs x).bind fun t => (PySem.W.kitOne K t (.type T)).map D.bl
  | [x, .cls C] => (tyD Cs x).bind fun t => (PySem.W.kitOne K t (.ref C)).map D.bl
  | _ => none
theorem does_isi {K : PySem.W.Frag} {Cs : List Addr} (hC : ∀ C ∈ Cs, InsOk K C) : DoesN K (rIsi K) (oIsi K Cs) := fun xs ds d F H Q s rs e k => by
  cases rs with
  | nil => cases e
  | cons r rs => cases rs with
    | nil => cases r <;> cases e
    | cons r2 rs => cases rs with
      | cons _ _ => cases r <;> cases r2 <;> cases e
      | nil => cases r2 with
        | ty T =>
          obtain ⟨t, et, e⟩ := Option.bind_eq_some_iff.mp (show ((tyD Cs _).bind fun t => (PySem.W.kitOne K t (.type T)).map D.bl) = some d from e)
          obtain ⟨b, eb, e⟩ := Option.map_eq_some_iff.mp e
          subst e
          exact ⟨_, _, t, .type T, b, rfl, .ty T, tyD_ok hC s r et, eb, k _ F H (Step.refl s) (.bl b)⟩
        | cls C =>
          obtain ⟨t, et, e⟩ := Option.bind_eq_some_iff.mp (show ((tyD Cs _).bind fun t => (PySem.W.kitOne K t (.ref C)).map D.bl) = some d from e)
          obtain ⟨b, eb, e⟩ := Option.map_eq_some_iff.mp e
          subst e
          exact ⟨_, _, t, .ref C, b, rfl, .own C, tyD_ok hC s r et, eb, k _ F H (Step.refl s) (.bl b)⟩
        | _ => cases e
@[simp] def clsD : D → Option Value
  | .ty n => some (.type n)
  | .cls C => some (.ref C)
  | _ => none
@[simp] def clssD : List D → Option (List Value)
  | [] => some []
  | d :: ds => (clsD d).bind fun v => (clssD ds).bind fun vs => some (v :: vs)
theorem clsD_ok {K : PySem.W.Frag} {F : Hp} {v : V} {d : D} {u : Value} (r : Rep K F v d) (e : clsD d = some u) : ClsV v u := by
  cases r with
  | ty n => cases e; exact .ty n
  | cls C => cases e; exact .own C
  | _ => cases e
theorem clssD_ok {K : PySem.W.Frag} {F : Hp} : ∀ {vs : List V} {ds : List D} {us : List Value}, Reps K F vs ds → clssD ds = some us → Paired ClsV vs us
  | _, _, _, .nil, e => by cases e; exact .nil
  | _, _, _, .cons r rs, e => by
    obtain ⟨v, ev, e⟩ := Option.bind_eq_some_iff.mp e
    obtain ⟨ws, ew, e⟩ := Option.bind_eq_some_iff.mp e
    cases e
    exact .cons (clsD_ok r ev) (clssD_ok rs ew)
section
variable {X : Cx} {E : XK} {pos ppos apos tpos : Pos} {a b c e e2 o : Expr} {es : List Expr} {f g h : Sto → Res D} {fa : Sto → Res (List D)} {fl : Sto → Res (Bool × List D)}
/-- isinstance(x, (T1, T2)) -/
@[simp] def dIsiT (K : PySem.W.Frag) (Cs : List Addr) (f : Sto → Res D) (fa : Sto → Res (List D)) : Sto → Res D := fun δ => (f δ).bind fun x => (fa δ).bind fun cs => Res.opt ((tyD Cs x).bind fun t => (clssD cs).bind fun us => if cs.length ≤ sizeLine then (PySem.W.kitAny K t us).map D.bl else none)
theorem de_isiT {x : Str} {j : Nat} {Cs : List Addr} (hC : ∀ C ∈ Cs, InsOk X.K C) (hm : X.mg x = none) (hv : bootBuiltins x = some (.builtin "isinstance")) (ha : DE X E e f) (hes : DA X E es fa)
    (hg : Gl X x := by rfl) (hn : x ≠ "__name__" := by decide) (hdb : (x == ("__debug__" : Str)) = false := by decide)
    (he : starEach [e, .Tuple es j tpos] X.env = (false, eval e X.env) :: starEach [.Tuple es j tpos] X.env := by rfl) (he2 : starEach [.Tuple es j tpos] X.env = (false, eval (.Tuple es j tpos) X.env) :: starEach [] X.env := by rfl) (hpl : (backTo pos (starEach [.Tuple es j tpos] X.env)).any (·.1) = false := by rfl) :
    DE X E (.Call (.Name x ppos) [e, .Tuple es j tpos] [] pos) (dIsiT X.K Cs f fa) := by
  refine PE.imp (pe_callB call_isiT hg hm hv (pa_cons ha (pa_cons (pe_tup hes) pa_nil he2) he) hn hdb he hpl) fun σ H Q w => ?_
  obtain ⟨Hin, Fin, F, δ, st, fi, k⟩ := w
  unfold tCB tCons tNil
  refine tD.mk st fi.left fun v F1 H1 d ed t st1 rv => ?_
  have fi1 := fi.right ed
  refine tDA.mk st1 fi1.left fun us F2 H2 cs ecs t2 st2 rs => ?_
  obtain ⟨r, er⟩ := (fi1.right ecs).opt
  have e1 : dIsiT X.K Cs f fa δ = .ok r := by
    show (f δ).bind _ = _
    rw [ed]
    show (fa δ).bind _ = _
    rw [ecs]
    show Res.opt _ = _
    rw [er]
    rfl
  obtain ⟨ty, ety, er⟩ := Option.bind_eq_some_iff.mp er
  obtain ⟨ws, ews, er⟩ := Option.bind_eq_some_iff.mp er
  by_cases hl : cs.length ≤ sizeLine
  · rw [if_pos hl] at er
    obtain ⟨bb, ebb, er⟩ := Option.map_eq_some_iff.mp er
    subst er
    refine ⟨by rw [rs.length]; exact hl, fun p np => ?_⟩
    have t3 := Step.push (o := .tup us) st2.sub np
    exact ⟨v, p, us, ty, ws, bb, rfl, upd_same, clssD_ok rs ews, tyD_ok hC (st2.step t3).sub ((rv.mono t2.mono).mono t3.mono) ety, ebb, k _ _ _ _ e1 ((t.trans t2).trans t3) (.bl bb)⟩
  · rw [if_neg hl] at er
    cases er

/-! ### fields -/
@[simp] def fget (f : Str) : List Str → List D → Option D
  | n :: ns, d :: ds => if f = n then some d else fget f ns ds
  | _, _ => none
theorem fget_ok {K : PySem.W.Frag} {F : Hp} (f : Str) : ∀ {fvs : List (Str × V)} {ns : List Str} {ds : List D} {d : D}, fvs.map Prod.fst = ns → Reps K F (fvs.map Prod.snd) ds → fget f ns ds = some d → ∃ v, fvs.lookup f = some v ∧ Rep K F v d
  | [], _, _, _, e1, r, e => by
    subst e1
    cases e
  | (n, v) :: fvs, _, _, d, e1, r, e => by
    subst e1
    cases r with
    | @cons _ d1 _ ds r rs =>
      have e' : (if f = n then some d1 else fget f (fvs.map Prod.fst) ds) = some d := e
      by_cases hf : f = n
      · rw [if_pos hf] at e'
        cases e'
        exact ⟨v, by simp [List.lookup, hf], r⟩
      · rw [if_neg hf] at e'
        obtain ⟨v2, h1, h2⟩ := fget_ok f rfl rs e'
        exact ⟨v2, by rw [List.lookup, beq_false_of_ne hf]; exact h1, h2⟩
/-- e.f of an instance of the class at C -/
@[simp] def dFld (C : Addr) (f : Str) (g : Sto → Res D) : Sto → Res D := fun δ => (g δ).bind fun x => match x with
  | .obj C' ns ds => if C' = C then Res.opt (fget f ns ds) else .no
  | _ => .no
theorem de_fld {C : Addr} {f : Str} (he : DE X E e g) (hc : Cls X.K C) (hn : NoAttr X.K C f) (hb : attributeBase e f X.env (eval e X.env) = eval e X.env := by rfl) : DE X E (.Attribute e f pos) (dFld C f g) := by
  refine PE.imp (pe_fld he hb) fun σ H Q w => ?_
  obtain ⟨Hin, Fin, F, δ, st, fi, k⟩ := w
  refine tD.mk st fi.left fun v F1 H1 d ed t st1 rv => ?_
  have fi1 := fi.right ed
  cases rv with
  | @obj p C' dx fvs ns ds hs hnm hr =>
    have fi2 : Fine E X.K Hin (if C' = C then Res.opt (fget f ns ds) else .no) := fi1
    by_cases hC : C' = C
    · rw [if_pos hC] at fi2
      subst hC
      obtain ⟨z, ez⟩ := fi2.opt
      obtain ⟨u, eu, ru⟩ := fget_ok f hnm hr ez
      refine ⟨p, C', dx, fvs, u, rfl, st1.sub _ _ hs, hc, hn, eu, k _ F1 H1 z ?_ t ru⟩
      show (g δ).bind _ = _
      rw [ed]
      show (if C' = C' then Res.opt (fget f ns ds) else .no) = _
      rw [if_pos rfl, ez]
      rfl
    · rw [if_neg hC] at fi2
      exact absurd rfl fi2.hn
  | _ => exact absurd rfl fi1.hn
end

/-! ### promises -/
theorem ExA.mono {E : XK} {K : PySem.W.Frag} {H H' : Hp} {x : Exc} (h : ExA E K H x) (s : Same H H') : ExA E K H' x := fun H2 od s2 r => h H2 od (s.trans s2) r
theorem Fine.mono {α : Type} {E : XK} {K : PySem.W.Frag} {H H' : Hp} {r : Res α} (h : Fine E K H r) (s : Same H H') : Fine E K H' r := ⟨fun x e => (h.hx x e).mono s, h.hn⟩
/-- the def computes φ on data -/
def spD (K : PySem.W.Frag) (φ : List D → Res D) : Sp := fun vs H Q E => ∃ F ds, Same F H ∧ Reps K F vs ds ∧ Fine E K H (φ ds) ∧ ∀ d v F' H', φ ds = .ok d → Step F H F' H' → Rep K F' v d → Q v H'
/-- a def that may be called with n arguments, the others by default -/
structure FnC (P : Program) (w : World) (K : PySem.W.Frag) (mg : Str → Option Value) (base : Heap) (k : Nat) (f : Addr) (dds : List D) (φ : List D → Res D) : Prop where
  kp : PySem.W.keepIn K (.ref f) = true
  ok : ∃ fd ps dvs ds, FnOk P w K mg base (CX P w) k f fd ps (spD K φ) ∧ Binds K fd ps ds ∧ Vals dvs ds ∧ ∀ F, Reps K F dvs dds
section
variable {X : Cx} {E : XK} {pos ppos apos : Pos} {a b c e e2 o : Expr} {es : List Expr} {f g h : Sto → Res D} {fa : Sto → Res (List D)} {φ : List D → Res D} {k : Nat} {dds : List D} {p : Addr}
@[simp] def dCall (φ : List D → Res D) (dds : List D) (fa : Sto → Res (List D)) : Sto → Res D := fun δ => (fa δ).bind fun xs => φ (xs ++ dds)
theorem tCall_of {sp : Sp} {dvs : List V} {σ : L2.St} {H : Hp} {Q : VK} (esp : sp = spD X.K φ) (rd : ∀ F, Reps X.K F dvs dds) (w : tD X.K E (dCall φ dds fa) σ H Q) : tCall sp dvs E (tDA X.K E fa) σ H Q := by
  subst esp
  obtain ⟨Hin, Fin, F, δ, st, fi, q⟩ := w
  unfold tCall
  refine tDA.mk st fi.left fun us F2 H2 xs exs t2 st2 rs => ?_
  refine ⟨F2, xs ++ dds, st2.sub, rs.append (rd F2), (fi.right exs).mono st2.st.old, fun d v F' H' ed t3 r => ?_⟩
  exact q v F' H' d (by show (fa δ).bind _ = _; rw [exs]; exact ed) (t2.trans t3) r
theorem de_call {x : Str} (F : FnC X.prog X.w X.K X.mg X.base k p dds φ) (hr : Room k X.A) (hm : X.mg x = some (.ref p)) (tk : Takes X (fun c d _ H => E c d H)) (ha : DA X E (e :: es) fa)
    (hg : Gl X x := by rfl) (hdb : (x == ("__debug__" : Str)) = false := by decide) (he : starEach (e :: es) X.env = (false, eval e X.env) :: starEach es X.env := by rfl) (hpl : (backTo pos (starEach es X.env)).any (·.1) = false := by rfl) :
    DE X E (.Call (.Name x ppos) (e :: es) [] pos) (dCall φ dds fa) := by
  obtain ⟨fd, ps, dvs, ds, F1, hb, hd, rd⟩ := F.ok
  exact PE.imp (pe_call F1 hr hg hm F.kp hb hd (passes_call tk fun _ _ _ _ h => h) ha hdb he hpl) fun σ H Q w => tCall_of rfl rd w
def finO : Out → Res D
  | .nx _ => .ok .non
  | .rt d => .ok d
  | .ex e => .ex e
  | _ => .no
@[simp] def startD (N : List Str) (ds : List D) : Sto := ds.map Cell.va ++ List.replicate (N.length - ds.length) .un
theorem start_ok {K : PySem.W.Frag} {N : List Str} {vs : List V} {ds : List D} {F H : Hp} (s : Same F H) (r : Reps K F vs ds) (hl : ds.length ≤ N.length) : StL K H F F (L2.start N vs) H (startD N ds) := by
  have e := r.length
  have no : ∀ (m : Nat) (cm : Cell), (startD N ds)[m]? = some cm → cm = .un ∨ ∃ d, cm = .va d := fun m cm h => by
    have hm := List.mem_of_getElem? h
    unfold startD at hm
    rcases List.mem_append.mp hm with hm | hm
    · obtain ⟨d, _, rfl⟩ := List.mem_map.mp hm
      exact .inr ⟨d, rfl⟩
    · exact .inl (List.mem_replicate.mp hm).2
  refine ⟨by unfold L2.start startD; simp [e], Step.refl s, fun i c h => ?_, fun i j ci cj a h1 h2 o1 o2 _ _ => ?_, ⟨fun _ => none, fun _ _ _ z => (nomatch z), fun _ _ z => (nomatch z), fun _ _ _ _ _ _ => rfl, fun j n ds' h => ?_, fun j k p h => ?_, fun j n ds' h => ?_⟩⟩
  · unfold startD at h
    by_cases hi : i < ds.length
    · rw [List.getElem?_append_left (by simpa using hi), List.getElem?_map] at h
      cases ed : ds[i]? with
      | none =>
        rw [ed] at h
        cases h
      | some d =>
        rw [ed] at h
        cases h
        obtain ⟨v, ev, rv⟩ := r.get ed
        refine ⟨v, ?_, rv⟩
        unfold L2.start
        rw [List.getElem?_append_left (by simpa [e] using hi), List.getElem?_map, ev]
        rfl
    · rw [List.getElem?_append_right (by simpa using hi), List.getElem?_replicate] at h
      split at h
      · cases h
        trivial
      · cases h
  · rcases no i ci h1 with rfl | ⟨d, rfl⟩ <;> cases o1
  · rcases no j _ h with z | ⟨d, z⟩ <;> cases z
  · rcases no j _ h with z | ⟨d, z⟩ <;> cases z
  · rcases no j _ h with z | ⟨d, z⟩ <;> cases z
end
section
variable {P : Program} {w : World} {K : PySem.W.Frag} {mg : Str → Option Value} {base : Heap} {x qual : Str} {params : Arguments} {body : List Stmt} {scope : Scope} {dvs : List V} {kws : List (Str × V)} {p : Addr} {fd : FuncData} {N ps : List Str} {k : Nat} {φ : List D → Res D} {g : Sto → Out}
/-- THE RULE for a def: its body's denotation, and what that comes to -/
theorem fn_ok (F : FunD K x qual params body scope dvs kws p fd) (S : FnScope N ps scope) (har : ∀ ds, φ ds ≠ .no → ds.length = ps.length)
    (hb : ∀ (cdv : Value) (A : Around) (outer : List Env) (s : Shared) (H : Hp) (E : XK), Room k (A.deeper (envOfC qual scope s.heap.objs.size p cdv)) → DSs (cxOf (CX P w) P w K mg base N qual scope p cdv A outer s H E) E body g)
    (hφ : ∀ ds, φ ds ≠ .no → finO (g (startD N ds)) = φ ds) : FnOk P w K mg base (CX P w) (k + 1) p fd ps (spD K φ) := by
  have pl : ps.length ≤ N.length := by
    have := congrArg List.length S.pre
    rw [List.length_take] at this
    omega
  refine F.ok S (fun vs H Q E h => ?_) (fun cdv A outer s H vs Q E hr h => ?_)
  · obtain ⟨F1, ds, _, r, fi, _⟩ := h
    rw [r.length]
    exact har ds fi.hn
  · obtain ⟨F1, ds, sm, r, fi, q⟩ := h
    have e := hφ ds fi.hn
    have hl : ds.length ≤ N.length := by rw [har ds fi.hn]; exact pl
    refine ⟨_, hb cdv A outer s H E hr, H, F1, F1, startD N ds, start_ok sm r hl, ⟨fun y ey => ?_, fun en => ?_⟩, ⟨fun δ' σ' F' H' en st' m => ?_, fun d v F' H' en t rv => ?_, fun δ' σ' F' H' en st' m => ?_, fun δ' σ' F' H' en st' m => ?_, fun n' ds' v F' H' q' en t rv => ?_⟩⟩
    · rw [ey] at e
      exact fi.hx y e.symm
    · rw [en] at e
      exact fi.hn e.symm
    · rw [en] at e
      exact q .non .non F' H' e.symm st'.st .non
    · rw [en] at e
      exact q d v F' H' e.symm t rv
    · rw [en] at e
      exact absurd e.symm fi.hn
    · rw [en] at e
      exact absurd e.symm fi.hn
    · rw [en] at e
      exact absurd e.symm fi.hn
theorem fnC (F : FunD K x qual params body scope [] kws p fd) (ok : FnOk P w K mg base (CX P w) k p fd ps (spD K φ))
    (hb : ∀ (kV doc pm : Value) (an : Option Addr) (cdv ct : Value) (us : List Value), us.length = ps.length → bindArgs (PySem.W.fnOf x qual params body scope .none kV doc pm an cdv ct) ⟨us, []⟩ = pure (ps.zip us)) : FnC P w K mg base k p [] φ :=
  ⟨F.kp, fd, ps, [], [], ok, F.bindsN hb, .nil, fun _ => .nil⟩
end
end Dn

/-! Dn11: short names for the printed terms. -/
namespace Dn
open PySem PySem.Spec PyProof.Rows L2
section
variable {K : PySem.W.Frag} {X : Cx}
@[simp] def oSub : D → D → Option D := o2I fun i j => .int (i - j)
theorem does_sub : Does2 K (rI0 fun i j => .int (i - j)) oSub := does_rI0 fun _ _ _ => .int _
@[simp] def oLt : D → D → Option D := o2I fun i j => .bl (decide (i < j))
theorem does_lt : Does2 K (rI0 fun i j => .bl (decide (i < j))) oLt := does_rI0 fun _ _ _ => .bl _
@[simp] def oLe : D → D → Option D := o2I fun i j => .bl (decide (i ≤ j))
theorem does_le : Does2 K (rI0 fun i j => .bl (decide (i ≤ j))) oLe := does_rI0 fun _ _ _ => .bl _
@[simp] def oGt : D → D → Option D := o2I fun i j => .bl (decide (j < i))
theorem does_gt : Does2 K (rI0 fun i j => .bl (decide (j < i))) oGt := does_rI0 fun _ _ _ => .bl _
@[simp] def oGe : D → D → Option D := o2I fun i j => .bl (decide (j ≤ i))
theorem does_ge : Does2 K (rI0 fun i j => .bl (decide (j ≤ i))) oGe := does_rI0 fun _ _ _ => .bl _
@[simp] def oMod : D → D → Option D := o2C (fun _ j => 0 < j) fun i j => .int (i % j)
theorem does_mod : Does2 K (rI (fun _ j => 0 < j) fun i j => .int (i % j)) oMod := does_rI fun _ _ _ => .int _
@[simp] def oFdiv : D → D → Option D := o2C (fun _ j => DivOk j) fun i j => .int (i.fdiv j)
theorem does_fdiv : Does2 K (rI (fun _ j => DivOk j) fun i j => .int (i.fdiv j)) oFdiv := does_rI (C := fun _ j => DivOk j) fun _ _ _ => .int _
@[simp] def oPow : D → D → Option D := o2C CPow fun i j => .int (i ^ j.toNat)
theorem does_pow : Does2 K (rI CPow fun i j => .int (i ^ j.toNat)) oPow := does_rI (C := CPow) fun _ _ _ => .int _
@[simp] def oNeg : D → Option D
  | .int i => some (.int (-i))
  | _ => none
theorem does_neg : Does1 K (rU fun i => .int (-i)) oNeg := fun x dx d F H Q s rx e k => by
  cases rx with
  | int i =>
    cases e
    exact ⟨i, rfl, k _ F H (Step.refl s) (.int _)⟩
  | _ => cases e
theorem does_iadd : Does2 K (rI0 fun i j => .int (i + j)) (o2I fun i j => .int (i + j)) := does_rI0 fun _ _ _ => .int _
@[simp] def oIAdd : D → D → Option D := o2I fun i j => .int (i + j)
end
/-! ### a list's sum, new -/
section
variable {X : Cx} {E : XK} {pos : Pos} {a b : Expr} {fl gl : Sto → Res (Bool × List D)}
@[simp] def dCatF (fl gl : Sto → Res (Bool × List D)) : Sto → Res (List D) := fun δ => (fl δ).bind fun x => (gl δ).bind fun y => match x, y with
  | (false, ds), (false, es) => if ds.length + es.length ≤ sizeLine then .ok (ds ++ es) else .no
  | _, _ => .no
theorem df_cat (ha : DL X E a fl) (hb : DL X E b gl) : DF X E (.BinOp a .Add b pos) (dCatF fl gl) := by
  refine PE.imp (pe_op op_cat ha hb) fun σ H Q w => ?_
  obtain ⟨Hin, Fin, F, δ, st, fi, k⟩ := w
  unfold tOp
  refine tDL.mk st fi.left fun p xs F1 H1 bb ds ed t st1 sq hr => ?_
  have fi1 := fi.right ed
  refine tDL.mk st1 fi1.left fun p2 ys F2 H2 b2 es ee t2 st2 sq2 hr2 => ?_
  have fi2 := fi1.right ee
  cases bb with
  | true => cases b2 <;> exact absurd rfl fi2.hn
  | false => cases b2 with
    | true => exact absurd rfl fi2.hn
    | false =>
      by_cases hz : ds.length + es.length ≤ sizeLine
      · have sq : H1 p = some (.lst xs) := sq
        have sq2 : H2 p2 = some (.lst ys) := sq2
        refine ⟨p, p2, xs, ys, rfl, rfl, t2.old _ _ sq, sq2, by rw [hr.length, hr2.length]; exact hz, fun q nq => ?_⟩
        have t4 : Step F2 H2 F2 (upd H2 q (.lst (xs ++ ys))) := ⟨same_upd nq, Same.refl _, fun b o eb => by rw [upd_ne (ne_of_none (st2.sub _ _ eb) nq)]; exact st2.sub _ _ eb, fun b o eb n => by rw [n] at eb; cases eb⟩
        exact k q _ F2 _ (ds ++ es) (by show (fl δ).bind _ = _; rw [ed]; show (gl δ).bind _ = _; rw [ee]; exact if_pos hz) ((t.trans t2).trans t4) upd_same (st2.sub.free nq) (t.old.free (t2.old.free nq)) ((hr.mono t2.mono).append hr2)
      · exact absurd (if_neg hz) fi2.hn
end
end Dn
namespace Dn
open PySem PySem.Spec PyProof.Rows L2
/-! ### an own list lent: a value without objects is worked out while the list stands frozen -/
section
variable {X : Cx} {E : XK} {pos : Pos} {a b e : Expr} {f : Sto → Res D} {p : Sto → Res Bool}
@[simp] def flat0 : D → Bool
  | .non => true
  | .bl _ => true
  | .int _ => true
  | .str _ => true
  | .ty _ => true
  | .cls _ => true
  | _ => false
theorem flat0_rep {K : PySem.W.Frag} {F F' : Hp} {v : V} {d : D} (r : Rep K F v d) (h : flat0 d = true) : Rep K F' v d := by
  cases r with
  | non => exact .non
  | bl b => exact .bl b
  | int i => exact .int i
  | str x => exact .str x
  | ty n => exact .ty n
  | cls C => exact .cls C
  | _ => cases h
@[simp] def dFlat (r : Res D) : Res D := r.bind fun d => if flat0 d = true then .ok d else .no
@[simp] def fzs : List Nat → Sto → Sto
  | [], δ => δ
  | i :: is, δ => fzs is (fz i δ)
theorem fzs_ok {K : PySem.W.Frag} {Hin Fin : Hp} {σ : L2.St} {H : Hp} : ∀ (is : List Nat) {F : Hp} {δ : Sto}, StL K Hin Fin F σ H δ → ∃ F', StL K Hin Fin F' σ H (fzs is δ) ∧ Same F F'
  | [], F, δ, st => ⟨F, st, Same.refl _⟩
  | i :: is, F, δ, st => by
    obtain ⟨F1, st1, m1⟩ := fz_ok i st
    obtain ⟨F2, st2, m2⟩ := fzs_ok is st1
    exact ⟨F2, st2, m1.trans m2⟩
theorem de_bw (is : List Nat) (h : DE X E e f) : DE X E e (fun δ => dFlat (f (fzs is δ))) := PE.imp h fun σ H Q w => by
  obtain ⟨Hin, Fin, F, δ, st, fi, k⟩ := w
  obtain ⟨F', st', m⟩ := fzs_ok is st
  refine ⟨Hin, Fin, F', fzs is δ, st', fi.left, fun v F1 H1 d ed t rv => ?_⟩
  have fi1 := fi.right ed
  by_cases hf : flat0 d = true
  · refine k v F H1 d ?_ ⟨t.old, Same.refl _, st.sub.trans t.old, fun b o eb n => by rw [n] at eb; cases eb⟩ (flat0_rep rv hf)
    show (f (fzs is δ)).bind _ = _
    rw [ed]
    exact if_pos hf
  · exact absurd (if_neg hf) fi1.hn
theorem dt_bw (is : List Nat) (h : DT X E e p) : DT X E e (fun δ => p (fzs is δ)) := PT.imp h fun σ H Q w => by
  obtain ⟨Hin, Fin, F, δ, st, fi, k⟩ := w
  obtain ⟨F', st', m⟩ := fzs_ok is st
  refine ⟨Hin, Fin, F', fzs is δ, st', fi, fun v F1 H1 ed t => ?_⟩
  exact k v F H1 ed ⟨t.old, Same.refl _, st.sub.trans t.old, fun b o eb n => by rw [n] at eb; cases eb⟩
end
end Dn

/-! Dn12: own trees of lists. -/
namespace Dn
open PySem PySem.Spec PyProof.Rows L2

/-! ### paths -/
@[simp] def getL : List Nat → List D → Option (List D)
  | [], ds => some ds
  | k :: p, ds => match ds[k]? with
    | some (.lst es) => getL p es
    | _ => none
@[simp] def putL : List Nat → List D → List D → List D
  | [], _, new => new
  | k :: p, ds, new => match ds[k]? with
    | some (.lst es) => ds.set k (.lst (putL p es new))
    | _ => ds
theorem getL_cons {k : Nat} {p : List Nat} {ds es : List D} (h : getL (k :: p) ds = some es) : ∃ e0, ds[k]? = some (.lst e0) ∧ getL p e0 = some es := by
  unfold getL at h
  split at h
  · rename_i e0 he
    exact ⟨e0, he, h⟩
  · cases h
section
variable {K : PySem.W.Frag} {F F' H H' : Hp} {q q' : Addr → Option (List Nat)}
theorem TrR.node {n : Nat} {p : List Nat} {v : V} {ds : List D} (h : TrR K F H q (n + 1) p v (.lst ds)) : ∃ a xs, v = .ref a ∧ q a = some p ∧ H a = some (.lst xs) ∧ xs.length = ds.length ∧ ∀ k x d', xs[k]? = some x → ds[k]? = some d' → TrR K F H q n (p ++ [k]) x d' := by
  obtain ⟨a, xs, ds', e1, e2, e3, e4, e5, e6⟩ := h
  cases e2
  exact ⟨a, xs, e1, e3, e4, e5, e6⟩
theorem TrR.at : ∀ (r : List Nat) {n : Nat} {p : List Nat} {v : V} {ds es : List D}, TrR K F H q (n + 1) p v (.lst ds) → getL r ds = some es → r.length ≤ n → ∃ v', TrR K F H q (n - r.length + 1) (p ++ r) v' (.lst es)
  | [], n, p, v, ds, es, h, e, l => by
    cases e
    exact ⟨v, by simpa using h⟩
  | k :: r, n, p, v, ds, es, h, e, l => by
    obtain ⟨e0, ek, e⟩ := getL_cons e
    obtain ⟨a, xs, _, _, _, hl, hc⟩ := h.node
    cases n with
    | zero => simp at l
    | succ m =>
      have hk : k < ds.length := (List.getElem?_eq_some_iff.mp ek).1
      obtain ⟨v', h'⟩ := TrR.at r (hc k _ _ (List.getElem?_eq_getElem (by rw [hl]; exact hk)) ek) e (by simpa using l)
      refine ⟨v', ?_⟩
      have e1 : m + 1 - (k :: r).length + 1 = m - r.length + 1 := by simp
      have e2 : p ++ k :: r = p ++ [k] ++ r := by simp
      rw [e1, e2]
      exact h'
theorem putL_len : ∀ (r : List Nat) {ds es es' : List D}, getL r ds = some es → es.length ≤ es'.length → ds.length ≤ (putL r ds es').length
  | [], ds, es, es', e, l => by
    cases e
    exact l
  | k :: r, ds, es, es', e, l => by
    obtain ⟨e0, ek, e⟩ := getL_cons e
    show ds.length ≤ (match ds[k]? with | some (.lst es) => ds.set k (.lst (putL r es es')) | _ => ds).length
    rw [ek]
    simp
theorem TrR.off {a : Addr} {o : HO} : ∀ (n : Nat) (p : List Nat) (v : V) (d : D), TrR K F H q n p v d → (∀ s, q a ≠ some (p ++ s)) → TrR K F (upd H a o) q n p v d
  | 0, p, v, d, h, _ => h
  | n + 1, p, v, d, ⟨b, xs, ds, e1, e2, e3, e4, e5, e6⟩, hs => by
    refine ⟨b, xs, ds, e1, e2, e3, ?_, e5, fun k x d' hx hd => TrR.off n (p ++ [k]) x d' (e6 k x d' hx hd) fun s z => hs (k :: s) (by rw [z]; simp)⟩
    rw [upd_ne (fun z => by subst z; exact hs [] (by rw [e3]; simp))]
    exact e4
theorem TrR.put {a : Addr} {xs' : List V} {es es' : List D} (inj : ∀ a b z, q a = some z → q b = some z → a = b) (rr : Reps K F xs' es') : ∀ (r : List Nat) {n : Nat} {p : List Nat} {v : V} {ds : List D}, TrR K F H q (n + 1) p v (.lst ds) → q a = some (p ++ r) → getL r ds = some es → r.length = n → TrR K F (upd H a (.lst xs')) q (n + 1) p v (.lst (putL r ds es'))
  | [], n, p, v, ds, h, ha, e, l => by
    have l : 0 = n := l
    subst l
    obtain ⟨b, xs, e1, e3, e4, hl, hc⟩ := h.node
    have eb : b = a := inj b a p e3 (by simpa using ha)
    subst eb
    exact ⟨b, xs', es', e1, rfl, e3, upd_same, rr.length, fun k x d' hx hd => by
      obtain ⟨x2, h1, h2⟩ := rr.get hd
      rw [hx] at h1
      cases h1
      exact h2⟩
  | k :: r, n, p, v, ds, h, ha, e, l => by
    obtain ⟨e0, ek, e⟩ := getL_cons e
    obtain ⟨b, xs, e1, e3, e4, hl, hc⟩ := h.node
    cases n with
    | zero => simp at l
    | succ m =>
      have hk : k < ds.length := (List.getElem?_eq_some_iff.mp ek).1
      have nb : b ≠ a := fun z => by
        subst z
        rw [e3] at ha
        have := congrArg List.length (Option.some.inj ha)
        simp at this
      have ep : putL (k :: r) ds es' = ds.set k (.lst (putL r e0 es')) := by
        show (match ds[k]? with | some (.lst es) => ds.set k (.lst (putL r es es')) | _ => ds) = _
        rw [ek]
      rw [ep]
      refine ⟨b, xs, _, e1, rfl, e3, by rw [upd_ne nb]; exact e4, by simpa using hl, fun j x d' hx hd => ?_⟩
      by_cases hj : k = j
      · subst hj
        rw [List.getElem?_set_self hk] at hd
        cases hd
        exact TrR.put inj rr r (hc k x _ hx ek) (by rw [ha]; simp) e (by simpa using l)
      · rw [List.getElem?_set_ne hj] at hd
        refine TrR.off _ _ _ _ (hc j x d' hx hd) fun s z => ?_
        rw [ha] at z
        have z := Option.some.inj z
        rw [List.append_assoc] at z
        have z := List.append_cancel_left z
        simp at z
        exact hj z.1
theorem TrR.shift {c : List Nat} (hq : ∀ a p, q a = some p → q' a = some (c ++ p)) : ∀ (n : Nat) (p : List Nat) (v : V) (d : D), TrR K F H q n p v d → TrR K F H q' n (c ++ p) v d
  | 0, p, v, d, h => h
  | n + 1, p, v, d, ⟨b, xs, ds, e1, e2, e3, e4, e5, e6⟩ => ⟨b, xs, ds, e1, e2, hq b p e3, e4, e5, fun k x d' hx hd => by
    have := TrR.shift hq n (p ++ [k]) x d' (e6 k x d' hx hd)
    rw [List.append_assoc]
    exact this⟩
end

/-! ### the store's trees -/
section
variable {K : PySem.W.Frag} {Hin Fin F F1 H H1 : Hp} {σ : L2.St} {δ : Sto} {q : Addr → Option (List Nat)} {i n : Nat} {v : V} {ds : List D}
theorem StL.own2 (st : StL K Hin Fin F σ H δ) (t : Step F H F1 H1) : ∃ o, Own K Hin F σ H δ o ∧ Own K Hin F1 σ H1 δ o := by
  obtain ⟨o, ho⟩ := st.own
  exact ⟨o, ho, ho.step t⟩
theorem StL.setTr (st : StL K Hin Fin F σ H δ) (t : Step F H F1 H1) (f : FrT K F1 H H1 q (n + 1) v (.lst ds)) : StL K Hin Fin F1 (σ.set i (some v)) H1 ((killAl i δ).set i (.tr n ds)) := by
  obtain ⟨o, ho0, ho⟩ := st.own2 t
  have st1 := (st.step t).kill i
  have lk : (killAl i δ).length = δ.length := by unfold killAl; simp
  have qo : ∀ a z, o a = some z → q a = none := fun a z e => by
    cases w : q a with
    | none => rfl
    | some p =>
      obtain ⟨_, _, xs, h⟩ := ho0.nod a z e
      rw [(f.nod a p w).1] at h
      cases h
  let o' : Addr → Option (Nat × List Nat) := fun a => match q a with
    | some p => some (i, p)
    | none => match o a with
      | some (j, p) => if j = i then none else some (j, p)
      | none => none
  have oq : ∀ a p, q a = some p → o' a = some (i, p) := fun a p e => by
    show (match q a with | some p => _ | none => _) = _
    rw [e]
  have oo : ∀ a j p, j ≠ i → o a = some (j, p) → o' a = some (j, p) := fun a j p hj e => by
    show (match q a with | some p => some (i, p) | none => match o a with | some (j, p) => if j = i then none else some (j, p) | none => none) = _
    rw [qo a _ e, e]
    exact if_neg hj
  have inv : ∀ a j p, o' a = some (j, p) → (q a = some p ∧ j = i) ∨ (o a = some (j, p) ∧ j ≠ i) := fun a j p e => by
    have e : (match q a with | some p => some (i, p) | none => match o a with | some (j, p) => if j = i then none else some (j, p) | none => none) = some (j, p) := e
    cases w : q a with
    | some p2 =>
      rw [w] at e
      cases e
      exact .inl ⟨rfl, rfl⟩
    | none =>
      rw [w] at e
      cases w2 : o a with
      | none =>
        rw [w2] at e
        cases e
      | some z =>
        obtain ⟨j2, p2⟩ := z
        rw [w2] at e
        have e : (if j2 = i then none else some (j2, p2)) = some (j, p) := e
        by_cases hj : j2 = i
        · rw [if_pos hj] at e
          cases e
        · rw [if_neg hj] at e
          cases e
          exact .inr ⟨rfl, hj⟩
  refine ⟨by simp [lk, st.len], st1.st, fun j c e => ?_, fun j k cj ck a ej ek oj ok sj sk => ?_, o', fun a b z e1 e2 => ?_, fun a z e => ?_, fun j c a e1 e2 e3 => ?_, fun j m es e => ?_, fun j k p e => ?_, fun j m es e a k p w => ?_⟩
  · by_cases hj : i = j
    · subst hj
      by_cases hl : i < δ.length
      · rw [List.getElem?_set_self (by rw [lk]; exact hl)] at e
        cases e
        trivial
      · rw [List.getElem?_eq_none (by simpa [lk] using hl)] at e
        cases e
    · rw [List.getElem?_set_ne hj] at e
      rw [List.getElem?_set_ne hj]
      exact st1.cell j c e
  · have nj : ∀ (m : Nat) (cm : Cell), ((killAl i δ).set i (.tr n ds))[m]? = some cm → cm.isOw = true → i ≠ m := fun m cm e o z => by
      subst z
      by_cases hl : i < δ.length
      · rw [List.getElem?_set_self (by rw [lk]; exact hl)] at e
        cases e
        cases o
      · rw [List.getElem?_eq_none (by simpa [lk] using hl)] at e
        cases e
    have h1 := nj j cj ej oj
    have h2 := nj k ck ek ok
    rw [List.getElem?_set_ne h1] at ej sj
    rw [List.getElem?_set_ne h2] at ek sk
    exact st1.uniq j k cj ck a ej ek oj ok sj sk
  · obtain ⟨j, p⟩ := z
    rcases inv a j p e1 with ⟨h1, h2⟩ | ⟨h1, h2⟩ <;> rcases inv b j p e2 with ⟨h3, h4⟩ | ⟨h3, h4⟩
    · exact f.inj a b p h1 h3
    · exact absurd h2 h4
    · exact absurd h4 h2
    · exact ho.inj a b _ h1 h3
  · obtain ⟨j, p⟩ := z
    rcases inv a j p e with ⟨h1, h2⟩ | ⟨h1, h2⟩
    · obtain ⟨z1, z2, z3⟩ := f.nod a p h1
      exact ⟨st.st.old.free z1, z2, z3⟩
    · exact ho.nod a _ h1
  · by_cases hj : i = j
    · subst hj
      have hl : i < δ.length := by
        have := (List.getElem?_eq_some_iff.mp e1).1
        simpa [lk] using this
      rw [List.getElem?_set_self (by rw [lk]; exact hl)] at e1
      cases e1
      cases e2
    · rw [List.getElem?_set_ne hj] at e1 e3
      obtain ⟨c', ec, rfl⟩ := killAl_get e1
      rw [killC_ow e2] at e2
      have e0 := ho0.sep j c' a ec e2 e3
      cases w : o' a with
      | none => rfl
      | some z =>
        obtain ⟨j2, p2⟩ := z
        rcases inv a j2 p2 w with ⟨h1, h2⟩ | ⟨h1, h2⟩
        · have hn := (f.nod a p2 h1).1
          have x := st.cell j c' ec
          cases c' with
          | ow ds' =>
            obtain ⟨a', xs', e', h', _⟩ := x
            rw [e3] at e'
            cases e'
            rw [hn] at h'
            cases h'
          | ob b' C ns ds' =>
            obtain ⟨a', dx, fvs, e', h', _⟩ := x
            rw [e3] at e'
            cases e'
            rw [hn] at h'
            cases h'
          | _ => cases e2
        · rw [e0] at h1
          cases h1
  · by_cases hj : i = j
    · subst hj
      have hl : i < δ.length := by
        have := (List.getElem?_eq_some_iff.mp e).1
        simpa [lk] using this
      rw [List.getElem?_set_self (by rw [lk]; exact hl)] at e
      cases e
      refine ⟨v, by rw [List.getElem?_set_self (by rw [st.len]; exact hl)], TrR.mono (Same.refl _) (fun _ _ _ _ h => h) (fun a p e => oS_some.mpr (oq a p e)) _ _ _ _ f.tr⟩
    · rw [List.getElem?_set_ne hj] at e
      rw [List.getElem?_set_ne hj]
      obtain ⟨c', ec, e2⟩ := killAl_get e
      rw [killC_tr e2.symm] at ec
      obtain ⟨v', h1, h2⟩ := ho.tr j m es ec
      exact ⟨v', h1, TrR.mono (Same.refl _) (fun _ _ _ _ h => h) (fun a p e => oS_some.mpr (oo a j p (fun z => hj z.symm) (oS_some.mp e))) _ _ _ _ h2⟩
  · by_cases hj : i = j
    · subst hj
      have hl : i < δ.length := by
        have := (List.getElem?_eq_some_iff.mp e).1
        simpa [lk] using this
      rw [List.getElem?_set_self (by rw [lk]; exact hl)] at e
      cases e
    · rw [List.getElem?_set_ne hj] at e
      rw [List.getElem?_set_ne hj]
      obtain ⟨c', ec, e2⟩ := killAl_get e
      obtain ⟨e3, e4⟩ := killC_al e2.symm
      rw [e3] at ec
      obtain ⟨a, h1, h2⟩ := ho.al j k p ec
      exact ⟨a, h1, oo a k p e4 h2⟩
  · by_cases hj : i = j
    · subst hj
      have hl : i < δ.length := by
        have := (List.getElem?_eq_some_iff.mp e).1
        simpa [lk] using this
      rw [List.getElem?_set_self (by rw [lk]; exact hl)] at e
      cases e
      rcases inv a i _ w with ⟨h1, _⟩ | ⟨_, h2⟩
      · exact f.bnd _ rfl a k p h1
      · exact absurd rfl h2
    · rw [List.getElem?_set_ne hj] at e
      obtain ⟨c', ec, e2⟩ := killAl_get e
      rw [killC_tr e2.symm] at ec
      rcases inv a j _ w with ⟨_, h2⟩ | ⟨h1, _⟩
      · exact absurd h2.symm hj
      · exact ho.bnd j m es ec a k p h1
/-- a tree's node is written: its children are data -/
theorem StL.wrTr {o : Addr → Option (Nat × List Nat)} {a : Addr} {r : List Nat} {es es' : List D} {xs' : List V} (st : StL K Hin Fin F σ H δ) (ho : Own K Hin F σ H δ o) (hi : δ[i]? = some (.tr n ds)) (ha : o a = some (i, r)) (hg : getL r ds = some es) (hl : r.length = n) (rr : Reps K F xs' es') (hle : es.length ≤ es'.length) :
    StL K Hin Fin F σ (upd H a (.lst xs')) (δ.set i (.tr n (putL r ds es'))) := by
  have li : i < δ.length := (List.getElem?_eq_some_iff.mp hi).1
  obtain ⟨na, nF, xs0, h0⟩ := ho.nod a _ ha
  have back : ∀ (j : Nat) (c : Cell), (δ.set i (.tr n (putL r ds es')))[j]? = some c → (∀ m fs, c ≠ .tr m fs) → δ[j]? = some c := fun j c e nt => by
    by_cases hj : i = j
    · subst hj
      rw [List.getElem?_set_self li] at e
      cases e
      exact absurd rfl (nt _ _)
    · rw [List.getElem?_set_ne hj] at e
      exact e
  have far : ∀ (j : Nat) (c : Cell) (b : Addr), δ[j]? = some c → c.isOw = true → σ[j]? = some (some (.ref b)) → b ≠ a := fun j c b e1 e2 e3 z => by
    subst z
    rw [ho.sep j c b e1 e2 e3] at ha
    cases ha
  have ntr : ∀ c : Cell, c.isOw = true → ∀ m fs, c ≠ .tr m fs := fun c e m fs z => by
    subst z
    cases e
  refine ⟨by simp [st.len], ⟨fun b u eb => ?_, st.st.mono, fun b u eb => ?_, st.st.new⟩, fun j c e => ?_, fun j k cj ck b ej ek oj ok sj sk => st.uniq j k cj ck b (back j cj ej (ntr cj oj)) (back k ck ek (ntr ck ok)) oj ok sj sk, o, ho.inj, fun b z e => ?_, fun j c b e1 e2 e3 => ho.sep j c b (back j c e1 (ntr c e2)) e2 e3, fun j m fs e => ?_, fun j k p e => ho.al j k p (back j _ e fun _ _ z => (nomatch z)), fun j m fs e b k p w => ?_⟩
  · rw [upd_ne (ne_of_none eb na)]
    exact st.st.old b u eb
  · rw [upd_ne (ne_of_none eb nF)]
    exact st.st.sub b u eb
  · cases c with
    | tr m fs => trivial
    | un => trivial
    | al j p => trivial
    | va d => exact st.cell j _ (back j _ e fun _ _ z => (nomatch z))
    | ow ds' =>
      have e' := back j _ e fun _ _ z => (nomatch z)
      obtain ⟨a2, xs2, e2, h2, n2, ni2, r2⟩ := st.cell j _ e'
      exact ⟨a2, xs2, e2, by rw [upd_ne (far j _ a2 e' rfl e2)]; exact h2, n2, ni2, r2⟩
    | ob b' C ns ds' =>
      have e' := back j _ e fun _ _ z => (nomatch z)
      obtain ⟨a2, dx, fvs, e2, h2, n2, ni2, en, r2⟩ := st.cell j _ e'
      exact ⟨a2, dx, fvs, e2, by rw [upd_ne (far j _ a2 e' rfl e2)]; exact h2, n2, ni2, en, r2⟩
  · obtain ⟨h1, h2, xs2, h3⟩ := ho.nod b z e
    by_cases hb : b = a
    · subst hb
      exact ⟨h1, h2, xs', upd_same⟩
    · exact ⟨h1, h2, xs2, by rw [upd_ne hb]; exact h3⟩
  · by_cases hj : i = j
    · subst hj
      rw [List.getElem?_set_self li] at e
      cases e
      obtain ⟨v, h1, h2⟩ := ho.tr i n ds hi
      exact ⟨v, h1, TrR.put (fun a b z e1 e2 => ho.inj a b _ (oS_some.mp e1) (oS_some.mp e2)) rr r h2 (oS_some.mpr (by simpa using ha)) hg hl⟩
    · rw [List.getElem?_set_ne hj] at e
      obtain ⟨v, h1, h2⟩ := ho.tr j m fs e
      exact ⟨v, h1, TrR.off _ _ _ _ h2 fun s z => by
        have := oS_some.mp z
        rw [ha] at this
        cases this
        exact hj rfl⟩
  · by_cases hj : i = j
    · subst hj
      rw [List.getElem?_set_self li] at e
      cases e
      exact Nat.lt_of_lt_of_le (ho.bnd i n ds hi b k p w) (putL_len r hg hle)
    · rw [List.getElem?_set_ne hj] at e
      exact ho.bnd j m fs e b k p w
/-- a fresh tree is put behind a tree's children -/
theorem StL.appTr {o : Addr → Option (Nat × List Nat)} {a : Addr} {x : V} {d : D} {xs : List V} {Hq : Hp} (st : StL K Hin Fin F σ H δ) (ho : Own K Hin F σ H δ o) (hi : δ[i]? = some (.tr n ds)) (hs : σ[i]? = some (some (.ref a))) (hx : H a = some (.lst xs)) (f : FrT K F Hq H q n x d) (fq : ∀ b p, q b = some p → o b = none ∧ Hin b = none)
    (fo : ∀ (j : Nat) (c : Cell) (b : Addr), δ[j]? = some c → c.isOw = true → σ[j]? = some (some (.ref b)) → q b = none) :
    StL K Hin Fin F σ (upd H a (.lst (xs ++ [x]))) (δ.set i (.tr n (ds ++ [d]))) := by
  have li : i < δ.length := (List.getElem?_eq_some_iff.mp hi).1
  obtain ⟨v, h1, h2⟩ := ho.tr i n ds hi
  rw [hs] at h1
  cases h1
  obtain ⟨b, xs2, e1, e3, e4, hl, hc⟩ := h2.node
  have eb : a = b := by
    injection e1 with e1
  subst eb
  rw [hx] at e4
  cases e4
  have ha := oS_some.mp e3
  obtain ⟨na, nF, _⟩ := ho.nod a _ ha
  have back : ∀ (j : Nat) (c : Cell), (δ.set i (.tr n (ds ++ [d])))[j]? = some c → (∀ m fs, c ≠ .tr m fs) → δ[j]? = some c := fun j c e nt => by
    by_cases hj : i = j
    · subst hj
      rw [List.getElem?_set_self li] at e
      cases e
      exact absurd rfl (nt _ _)
    · rw [List.getElem?_set_ne hj] at e
      exact e
  have far : ∀ (j : Nat) (c : Cell) (b : Addr), δ[j]? = some c → c.isOw = true → σ[j]? = some (some (.ref b)) → b ≠ a := fun j c b y1 y2 y3 z => by
    rw [z] at y3
    rw [ho.sep j c a y1 y2 y3] at ha
    cases ha
  have qa : q a = none := by
    cases w : q a with
    | none => rfl
    | some p =>
      rw [(fq a p w).1] at ha
      cases ha
  have ntr : ∀ c : Cell, c.isOw = true → ∀ m fs, c ≠ .tr m fs := fun c e m fs z => by
    subst z
    cases e
  let o' : Addr → Option (Nat × List Nat) := fun b => match q b with
    | some p => some (i, ds.length :: p)
    | none => o b
  have oq : ∀ b p, q b = some p → o' b = some (i, ds.length :: p) := fun b p e => by
    show (match q b with | some p => _ | none => _) = _
    rw [e]
  have oo : ∀ b z, o b = some z → o' b = some z := fun b z e => by
    show (match q b with | some p => some (i, ds.length :: p) | none => o b) = _
    cases w : q b with
    | none => exact e
    | some p =>
      rw [(fq b p w).1] at e
      cases e
  have inv : ∀ b z, o' b = some z → (∃ p, q b = some p ∧ z = (i, ds.length :: p)) ∨ o b = some z := fun b z e => by
    have e : (match q b with | some p => some (i, ds.length :: p) | none => o b) = some z := e
    cases w : q b with
    | some p =>
      rw [w] at e
      cases e
      exact .inl ⟨p, rfl, rfl⟩
    | none =>
      rw [w] at e
      exact .inr e
  refine ⟨by simp [st.len], ⟨fun b u eb => ?_, st.st.mono, fun b u eb => ?_, st.st.new⟩, fun j c e => ?_, fun j k cj ck b ej ek oj ok sj sk => st.uniq j k cj ck b (back j cj ej (ntr cj oj)) (back k ck ek (ntr ck ok)) oj ok sj sk, o', fun b c z e1 e2 => ?_, fun b z e => ?_, fun j c b e1 e2 e3 => ?_, fun j m fs e => ?_, fun j k p e => ?_, fun j m fs e b k p w => ?_⟩
  · rw [upd_ne (ne_of_none eb na)]
    exact st.st.old b u eb
  · rw [upd_ne (ne_of_none eb nF)]
    exact st.st.sub b u eb
  · cases c with
    | tr m fs => trivial
    | un => trivial
    | al j p => trivial
    | va d => exact st.cell j _ (back j _ e fun _ _ z => (nomatch z))
    | ow ds' =>
      have e' := back j _ e fun _ _ z => (nomatch z)
      obtain ⟨a2, xs2, e2, h2, n2, ni2, r2⟩ := st.cell j _ e'
      exact ⟨a2, xs2, e2, by rw [upd_ne (far j _ a2 e' rfl e2)]; exact h2, n2, ni2, r2⟩
    | ob b' C ns ds' =>
      have e' := back j _ e fun _ _ z => (nomatch z)
      obtain ⟨a2, dx, fvs, e2, h2, n2, ni2, en, r2⟩ := st.cell j _ e'
      exact ⟨a2, dx, fvs, e2, by rw [upd_ne (far j _ a2 e' rfl e2)]; exact h2, n2, ni2, en, r2⟩
  · rcases inv b z e1 with ⟨p, h1, h2⟩ | h1 <;> rcases inv c z e2 with ⟨p', h3, h4⟩ | h3
    · subst h2
      cases h4
      exact f.inj b c p h1 h3
    · subst h2
      exact absurd (ho.bnd i n ds hi c _ _ h3) (Nat.lt_irrefl _)
    · subst h4
      exact absurd (ho.bnd i n ds hi b _ _ h1) (Nat.lt_irrefl _)
    · exact ho.inj b c z h1 h3
  · rcases inv b z e with ⟨p, h1, h2⟩ | h1
    · obtain ⟨_, z2, xs2, z3⟩ := f.nod b p h1
      exact ⟨(fq b p h1).2, z2, xs2, by rw [upd_ne (fun z => by subst z; rw [qa] at h1; cases h1)]; exact z3⟩
    · obtain ⟨z1, z2, xs2, z3⟩ := ho.nod b z h1
      by_cases hb : b = a
      · subst hb
        exact ⟨z1, z2, _, upd_same⟩
      · exact ⟨z1, z2, xs2, by rw [upd_ne hb]; exact z3⟩
  · have e1' := back j c e1 (ntr c e2)
    show (match q b with | some p => some (i, ds.length :: p) | none => o b) = none
    rw [fo j c b e1' e2 e3]
    exact ho.sep j c b e1' e2 e3
  · by_cases hj : i = j
    · subst hj
      rw [List.getElem?_set_self li] at e
      cases e
      refine ⟨_, hs, a, _, _, rfl, rfl, oS_some.mpr (oo a _ ha), upd_same, by simp [hl], fun k y d' hy hd => ?_⟩
      by_cases hk : k < ds.length
      · rw [List.getElem?_append_left (by rw [hl]; exact hk)] at hy
        rw [List.getElem?_append_left hk] at hd
        have t1 := hc k y d' hy hd
        refine TrR.mono (Same.refl _) (fun b p e ys h => h) (fun b p e => oS_some.mpr (oo b _ (oS_some.mp e))) _ _ _ _ (TrR.off (a := a) (o := .lst (xs ++ [x])) _ _ _ _ t1 fun s z => ?_)
        have z := oS_some.mp z
        rw [ha] at z
        simp at z
      · rw [List.getElem?_append_right (by rw [hl]; omega)] at hy
        rw [List.getElem?_append_right (by omega)] at hd
        have ek : k - ds.length = 0 := by
          have := (List.getElem?_eq_some_iff.mp hd).1
          simp at this
          omega
        rw [hl, ek] at hy
        rw [ek] at hd
        cases hy
        cases hd
        have ek2 : k = ds.length := by omega
        subst ek2
        have t1 := TrR.off (a := a) (o := .lst (xs ++ [x])) _ _ _ _ f.tr fun s z => by
          rw [qa] at z
          cases z
        have t2 := TrR.shift (q' := oS o' i) (c := [ds.length]) (fun b p e => oS_some.mpr (oq b p e)) _ _ _ _ t1
        exact t2
    · rw [List.getElem?_set_ne hj] at e
      obtain ⟨v, h1, h2⟩ := ho.tr j m fs e
      refine ⟨v, h1, TrR.mono (Same.refl _) (fun b p e ys h => h) (fun b p e => oS_some.mpr (oo b _ (oS_some.mp e))) _ _ _ _ (TrR.off (a := a) (o := .lst (xs ++ [x])) _ _ _ _ h2 fun s z => ?_)⟩
      have := oS_some.mp z
      rw [ha] at this
      cases this
      exact hj rfl
  · obtain ⟨b, h1, h2⟩ := ho.al j k p (back j _ e fun _ _ z => (nomatch z))
    exact ⟨b, h1, oo b _ h2⟩
  · by_cases hj : i = j
    · subst hj
      rw [List.getElem?_set_self li] at e
      cases e
      rcases inv b _ w with ⟨p', h1, h2⟩ | h1
      · cases h2
        simp
      · have := ho.bnd i n ds hi b k p h1
        simp
        omega
    · rw [List.getElem?_set_ne hj] at e
      rcases inv b _ w with ⟨p', h1, h2⟩ | h1
      · cases h2
        exact absurd rfl hj
      · exact ho.bnd j m fs e b k p h1
end
end Dn

/-! Dn13: expressions that give fresh trees; statements on trees. -/
namespace Dn
open PySem PySem.Spec PyProof.Rows L2

/-- the expression gives a fresh tree, n deep -/
def tDV (K : PySem.W.Frag) (E : XK) (n : Nat) (f : Sto → Res D) : TE := fun σ H Q => ∃ Hin Fin F δ, StL K Hin Fin F σ H δ ∧ Fine E K Hin (f δ) ∧ ∀ v F1 H1 d q, f δ = .ok d → Step F H F1 H1 → FrT K F1 H H1 q n v d → Q v H1
abbrev DV (X : Cx) (E : XK) (n : Nat) (e : Expr) (f : Sto → Res D) : Prop := PE X e (tDV X.K E n f)
theorem FrT.lf {K : PySem.W.Frag} {F H0 H : Hp} {v : V} {d : D} (r : Rep K F v d) : FrT K F H0 H (fun _ => none) 0 v d := ⟨r, fun _ _ z => (nomatch z), fun _ _ _ z => (nomatch z), fun _ _ _ _ _ z => (nomatch z)⟩
theorem FrT.node {K : PySem.W.Frag} {F H0 H : Hp} {p : Addr} {xs : List V} {ds : List D} (h0 : H0 p = none) (nF : F p = none) (h : H p = some (.lst xs)) (r : Reps K F xs ds) : FrT K F H0 H (fun a => if a = p then some [] else none) 1 (.ref p) (.lst ds) where
  tr := ⟨p, xs, ds, rfl, rfl, if_pos rfl, h, r.length, fun k x d' hx hd => by
    obtain ⟨y, h1, h2⟩ := r.get hd
    rw [hx] at h1
    cases h1
    exact h2⟩
  nod := fun a z e => by
    have e : (if a = p then some [] else none) = some z := e
    by_cases ha : a = p
    · subst ha
      exact ⟨h0, nF, xs, h⟩
    · rw [if_neg ha] at e
      cases e
  inj := fun a b z e1 e2 => by
    have e1 : (if a = p then some [] else none) = some z := e1
    have e2 : (if b = p then some [] else none) = some z := e2
    by_cases ha : a = p
    · by_cases hb : b = p
      · exact ha.trans hb.symm
      · rw [if_neg hb] at e2
        cases e2
    · rw [if_neg ha] at e1
      cases e1
  bnd := fun ds' e a k z w => by
    have w : (if a = p then some ([] : List Nat) else none) = some (k :: z) := w
    by_cases ha : a = p
    · rw [if_pos ha] at w
      cases w
    · rw [if_neg ha] at w
      cases w
theorem FrT.nil {K : PySem.W.Frag} {F H0 H : Hp} {p : Addr} (n : Nat) (h0 : H0 p = none) (nF : F p = none) (h : H p = some (.lst [])) : FrT K F H0 H (fun a => if a = p then some [] else none) (n + 1) (.ref p) (.lst []) := by
  have f := FrT.node (K := K) h0 nF h (.nil)
  exact ⟨⟨p, [], [], rfl, rfl, if_pos rfl, h, rfl, fun k x d' hx hd => by simp at hx⟩, f.nod, f.inj, f.bnd⟩
theorem FrT.shape {K : PySem.W.Frag} {F H0 H : Hp} {q : Addr → Option (List Nat)} {n : Nat} {v : V} {d : D} (f : FrT K F H0 H q (n + 1) v d) : ∃ ds, d = .lst ds := by
  obtain ⟨a, xs, ds, e1, e2, _⟩ := f.tr
  exact ⟨ds, e2⟩
section
variable {X : Cx} {E : XK} {pos ppos : Pos} {a b c e tg elt iter : Expr} {es ifs : List Expr} {f g h : Sto → Res D} {fa : Sto → Res (List D)} {fl : Sto → Res (Bool × List D)} {p q r : Sto → Res Bool} {u : D → Sto → Option Sto} {vs : List Nat} {n : Nat}
theorem dv_lf (he : DE X E e f) : DV X E 0 e f := PE.imp he fun σ H Q w => by
  obtain ⟨Hin, Fin, F, δ, st, fi, k⟩ := w
  exact ⟨Hin, Fin, F, δ, st, fi, fun v F1 H1 d ed t r => k v F1 H1 d _ ed t (.lf r)⟩
theorem dv_df (he : DF X E e fa) : DV X E 1 e (dLst fa) := PE.imp he fun σ H Q w => by
  obtain ⟨Hin, Fin, F, δ, st, fi, k⟩ := w
  refine ⟨Hin, Fin, F, δ, st, fi.left, fun a xs F1 H1 ds ed t ha nF nH r => ?_⟩
  exact k _ F1 H1 (.lst ds) _ (by show (fa δ).bind _ = _; rw [ed]; rfl) t (.node nH nF ha r)
/-- [] -/
@[simp] def dNilT : Sto → Res D := fun _ => .ok (.lst [])
theorem dv_nil (n : Nat) : DV X E (n + 1) (.List [] pos) dNilT := PE.imp (df_lst (E := E) da_nil) fun σ H Q w => by
  obtain ⟨Hin, Fin, F, δ, st, fi, k⟩ := w
  refine ⟨Hin, Fin, F, δ, st, ⟨fun x z => ?_, fun z => ?_⟩, fun a xs F1 H1 ds ed t ha nF nH r => ?_⟩
  · cases z
  · cases z
  · cases ed
    cases r
    exact k _ F1 H1 (.lst []) _ rfl t (.nil n nH nF ha)
theorem de_ofV (he : DV X E n e f) : DE X E e f := PE.imp he fun σ H Q w => by
  obtain ⟨Hin, Fin, F, δ, st, fi, k⟩ := w
  refine ⟨Hin, Fin, F, δ, st, fi, fun v F1 H1 d q ed t fr => ?_⟩
  let F' : Hp := fun a => match q a with
    | some _ => H1 a
    | none => F1 a
  have FH : ∀ a p, q a = some p → F' a = H1 a := fun a p e => by show (match q a with | some _ => H1 a | none => F1 a) = _; rw [e]
  have FF : ∀ a, q a = none → F' a = F1 a := fun a e => by show (match q a with | some _ => H1 a | none => F1 a) = _; rw [e]
  have s1 := t.sub
  have m : Same F1 F' := fun b u eb => by
    cases z : q b with
    | none => rw [FF b z]; exact eb
    | some p =>
      rw [FH b p z]
      exact s1 _ _ eb
  refine k v F' H1 d ed ⟨t.old, t.mono.trans m, fun b u eb => ?_, fun b u eb nb => ?_⟩ (TrR.frz m (fun a p e xs h => by rw [FH a p e]; exact h) _ _ _ _ fr.tr)
  · cases z : q b with
    | none =>
      rw [FF b z] at eb
      exact s1 _ _ eb
    | some p =>
      rw [FH b p z] at eb
      exact eb
  · cases z : q b with
    | none =>
      rw [FF b z] at eb
      exact t.new b u eb nb
    | some p => exact (fr.nod b p z).1
/-- children gathered so far -/
structure AccT (K : PySem.W.Frag) (F H0 H : Hp) (q : Addr → Option (List Nat)) (n : Nat) (D0 : Addr) (acc : List V) (accD : List D) : Prop where
  len : acc.length = accD.length
  ch : ∀ (k : Nat) (x : V) (d : D), acc[k]? = some x → accD[k]? = some d → TrR K F H q n [k] x d
  nod : ∀ a p, q a = some p → H0 a = none ∧ F a = none ∧ (∃ xs, H a = some (.lst xs)) ∧ a ≠ D0 ∧ ∃ k s, p = k :: s ∧ k < acc.length
  inj : ∀ a b p, q a = some p → q b = some p → a = b
theorem AccT.nil {K : PySem.W.Frag} {F H0 H : Hp} {n : Nat} {D0 : Addr} : AccT K F H0 H (fun _ => none) n D0 [] [] := ⟨rfl, fun _ _ _ z => by simp at z, fun _ _ z => (nomatch z), fun _ _ _ z => (nomatch z)⟩
theorem AccT.step {K : PySem.W.Frag} {F H0 H F' H' : Hp} {q : Addr → Option (List Nat)} {n : Nat} {D0 : Addr} {acc : List V} {accD : List D} (x : AccT K F H0 H q n D0 acc accD) (t : Step F H F' H') : AccT K F' H0 H' q n D0 acc accD where
  len := x.len
  ch := fun k y d h1 h2 => TrR.mono t.mono (fun a _ _ xs h => t.old _ _ h) (fun _ _ h => h) _ _ _ _ (x.ch k y d h1 h2)
  nod := fun a p e => by
    obtain ⟨h1, h2, ⟨xs, h3⟩, h4⟩ := x.nod a p e
    refine ⟨h1, ?_, ⟨xs, t.old _ _ h3⟩, h4⟩
    cases z : F' a with
    | none => rfl
    | some u =>
      rw [t.new a u z h2] at h3
      cases h3
  inj := x.inj
theorem AccT.add {K : PySem.W.Frag} {F H0 H F1 H1 : Hp} {q qe : Addr → Option (List Nat)} {n : Nat} {D0 : Addr} {acc : List V} {accD : List D} {v : V} {d : D} {o : HO} (x : AccT K F H0 H q n D0 acc accD) (t : Step F H F1 H1) (s0 : Same H0 H) (hD : H D0 ≠ none) (f : FrT K F1 H H1 qe n v d) :
    AccT K F1 H0 (upd H1 D0 o) (fun a => match qe a with | some s => some (acc.length :: s) | none => q a) n D0 (acc ++ [v]) (accD ++ [d]) := by
  have x1 := x.step t
  have qn : ∀ a p, q a = some p → qe a = none := fun a p e => by
    cases z : qe a with
    | none => rfl
    | some s =>
      obtain ⟨_, _, ⟨xs, h3⟩, _⟩ := x.nod a p e
      rw [(f.nod a s z).1] at h3
      cases h3
  let q' : Addr → Option (List Nat) := fun a => match qe a with | some s => some (acc.length :: s) | none => q a
  have q1 : ∀ a s, qe a = some s → q' a = some (acc.length :: s) := fun a s e => by show (match qe a with | some s => some (acc.length :: s) | none => q a) = _; rw [e]
  have q2 : ∀ a p, q a = some p → q' a = some p := fun a p e => by show (match qe a with | some s => some (acc.length :: s) | none => q a) = _; rw [qn a p e]; exact e
  have inv : ∀ a p, q' a = some p → (∃ s, qe a = some s ∧ p = acc.length :: s) ∨ q a = some p := fun a p e => by
    have e : (match qe a with | some s => some (acc.length :: s) | none => q a) = some p := e
    cases z : qe a with
    | none =>
      rw [z] at e
      exact .inr e
    | some s =>
      rw [z] at e
      cases e
      exact .inl ⟨s, rfl, rfl⟩
  have neD : ∀ a s, qe a = some s → a ≠ D0 := fun a s e z => by
    subst z
    exact hD (f.nod a s e).1
  refine ⟨by simp [x.len], fun k y d' h1 h2 => ?_, fun a p e => ?_, fun a b p e1 e2 => ?_⟩
  · by_cases hk : k < acc.length
    · rw [List.getElem?_append_left hk] at h1
      rw [List.getElem?_append_left (by rw [← x.len]; exact hk)] at h2
      refine TrR.mono (Same.refl _) (fun a p e xs h => h) (fun a p e => q2 a p e) _ _ _ _ (TrR.off (a := D0) (o := o) _ _ _ _ (x1.ch k y d' h1 h2) fun s z => ?_)
      exact (x.nod D0 _ z).2.2.2.1 rfl
    · rw [List.getElem?_append_right (by omega)] at h1
      rw [List.getElem?_append_right (by rw [← x.len]; omega), ← x.len] at h2
      have ek : k - acc.length = 0 := by
        have := (List.getElem?_eq_some_iff.mp h1).1
        simp at this
        omega
      rw [ek] at h1 h2
      cases h1
      cases h2
      have ek2 : k = acc.length := by omega
      subst ek2
      have t1 := TrR.off (a := D0) (o := o) _ _ _ _ f.tr fun s z => neD D0 _ z rfl
      exact TrR.shift (q' := q') (c := [acc.length]) (fun b p e => q1 b p e) _ _ _ _ t1
  · rcases inv a p e with ⟨s, h1, h2⟩ | h1
    · obtain ⟨z1, z2, xs, z3⟩ := f.nod a s h1
      exact ⟨s0.free z1, z2, ⟨xs, by rw [upd_ne (neD a s h1)]; exact z3⟩, neD a s h1, acc.length, s, h2, by simp⟩
    · obtain ⟨z1, z2, ⟨xs, z3⟩, z4, k, s, z5, z6⟩ := x1.nod a p h1
      exact ⟨z1, z2, ⟨xs, by rw [upd_ne z4]; exact z3⟩, z4, k, s, z5, by simp; omega⟩
  · rcases inv a p e1 with ⟨s, h1, h2⟩ | h1 <;> rcases inv b p e2 with ⟨s', h3, h4⟩ | h3
    · subst h2
      cases h4
      exact f.inj a b s h1 h3
    · obtain ⟨_, _, _, _, k, s2, z5, z6⟩ := x.nod b p h3
      rw [h2] at z5
      cases z5
      omega
    · obtain ⟨_, _, _, _, k, s2, z5, z6⟩ := x.nod a p h1
      rw [h4] at z5
      cases z5
      omega
    · exact x.inj a b p h1 h3
theorem AccT.fin {K : PySem.W.Frag} {F H0 H : Hp} {q : Addr → Option (List Nat)} {n : Nat} {D0 : Addr} {acc : List V} {accD : List D} (x : AccT K F H0 H q n D0 acc accD) (h0 : H0 D0 = none) (nF : F D0 = none) (h : H D0 = some (.lst acc)) : FrT K F H0 H (fun a => if a = D0 then some [] else q a) (n + 1) (.ref D0) (.lst accD) := by
  have q2 : ∀ a p, q a = some p → (if a = D0 then some [] else q a) = some p := fun a p e => by rw [if_neg (x.nod a p e).2.2.2.1]; exact e
  refine ⟨⟨D0, acc, accD, rfl, rfl, if_pos rfl, h, x.len, fun k y d h1 h2 => ?_⟩, fun a p e => ?_, fun a b p e1 e2 => ?_, fun ds' ed a k p e => ?_⟩
  · exact TrR.mono (Same.refl _) (fun a p e xs h => h) (fun a p e => q2 a p e) _ _ _ _ (x.ch k y d h1 h2)
  · have e : (if a = D0 then some [] else q a) = some p := e
    by_cases ha : a = D0
    · subst ha
      exact ⟨h0, nF, acc, h⟩
    · rw [if_neg ha] at e
      obtain ⟨z1, z2, z3, _⟩ := x.nod a p e
      exact ⟨z1, z2, z3⟩
  · have e1 : (if a = D0 then some [] else q a) = some p := e1
    have e2 : (if b = D0 then some [] else q b) = some p := e2
    by_cases ha : a = D0
    · by_cases hb : b = D0
      · exact ha.trans hb.symm
      · rw [if_pos ha] at e1
        rw [if_neg hb] at e2
        cases e1
        obtain ⟨_, _, _, _, k, s, z5, _⟩ := x.nod b [] e2
        cases z5
    · rw [if_neg ha] at e1
      by_cases hb : b = D0
      · rw [if_pos hb] at e2
        cases e2
        obtain ⟨_, _, _, _, k, s, z5, _⟩ := x.nod a [] e1
        cases z5
      · rw [if_neg hb] at e2
        exact x.inj a b p e1 e2
  · cases ed
    have e : (if a = D0 then some [] else q a) = some (k :: p) := e
    by_cases ha : a = D0
    · rw [if_pos ha] at e
      cases e
    · rw [if_neg ha] at e
      obtain ⟨_, _, _, _, k2, s, z5, z6⟩ := x.nod a _ e
      cases z5
      rw [← x.len]
      exact z6
/-- the reading of a comprehension of fresh trees -/
theorem lc_readT {own : Bool} {σ : L2.St} {H : Hp} {Q : VK} (w : tDV X.K E (n + 1) (dLst (dLc fa u p f vs)) σ H Q) : tLc (tDI X.K E own fa) (tDG X.K vs u) (tDT X.K E0 p) (tDV X.K E0 n f) vs σ H Q := by
  obtain ⟨Hin, Fin, F, δ, st, fi, k⟩ := w
  have fi := fi.left
  refine ⟨Hin, Fin, F, δ, st, fi.left, fun J F1 H1 ds ed t it D nD => ?_⟩
  have it : ItD X.K J H1 F1 ds := by
    cases own with
    | true => exact it
    | false => exact (show ItD X.K J F1 F1 ds from it).up t.sub
  have fi1 := fi.right ed
  have nDH : H D = none := t.old.free nD
  have nDF1 : F1 D = none := t.sub.free nD
  generalize eo : dComp u p f ds (wipeD δ vs) = o at fi1
  have keep : ∀ {F2 H2 : Hp} {o2 : HO}, Step F H F2 H2 → F2 D = none → Step F H F2 (upd H2 D o2) := fun {F2 H2 o2} x n => ⟨fun b ob eb => by rw [upd_ne (ne_of_none eb nDH)]; exact x.old b ob eb, x.mono, fun b ob eb => by rw [upd_ne (ne_of_none eb n)]; exact x.sub b ob eb, x.new⟩
  have keepH : ∀ {H2 : Hp} {o2 : HO}, Same H1 H2 → Same H1 (upd H2 D o2) := fun {H2 o2} x b ob eb => by rw [upd_ne (ne_of_none eb nD)]; exact x b ob eb
  refine ⟨fun i m Hi => m = ds.length - i ∧ i ≤ ds.length ∧ ∃ Fi acc accD q, Step F H Fi Hi ∧ Same F1 Fi ∧ Same H1 Hi ∧ Fi D = none ∧ Hi D = some (.lst acc) ∧ AccT X.K Fi H Hi q n D acc accD ∧ acc.length ≤ i ∧ (dComp u p f (ds.drop i) (wipeD δ vs)).bind (fun ys => .ok (accD ++ ys)) = o,
    ⟨ds.length, by simp, Nat.zero_le _, F1, [], [], _, keep t nDF1, Same.refl _, keepH (Same.refl _), nDF1, upd_same, .nil, Nat.zero_le _, by rw [List.drop_zero, eo]; cases o <;> rfl⟩, ?_⟩
  rintro i m Hi ⟨rfl, hi, Fi, acc, accD, qi, ti, mi, mH, nDi, hD, ra, la, ei⟩
  by_cases hlt : i < ds.length
  · refine .inr ⟨it.go i Hi mH hlt, fun H' => ∃ F' acc' accD' q', Step F H F' H' ∧ Same F1 F' ∧ Same H1 H' ∧ F' D = none ∧ H' D = some (.lst acc') ∧ AccT X.K F' H H' q' n D acc' accD' ∧ acc'.length ≤ i + 1 ∧ (dComp u p f (ds.drop (i + 1)) (wipeD δ vs)).bind (fun ys => .ok (accD' ++ ys)) = o,
      fun H' ⟨F', acc', accD', q', x⟩ => ⟨ds.length - (i + 1), by omega, rfl, hlt, F', acc', accD', q', x⟩, fun x H' y => ?_⟩
    obtain ⟨F', d, t', edi, rd⟩ := it.yld i Hi x H' Fi mH mi ti.sub hlt y
    have tH : Step F H F' H' := ti.trans t'
    have sw : StL X.K Hin Fin F' (wipe σ vs) H' (wipeD δ vs) := (st.step tH).wipe vs
    have hdr : ds.drop i = d :: ds.drop (i + 1) := by
      obtain ⟨hl, eg⟩ := List.getElem?_eq_some_iff.mp edi
      rw [List.drop_eq_getElem_cons hl, eg]
    have nD' : F' D = none := by
      cases z : F' D with
      | none => rfl
      | some ob =>
        have := t'.new D ob z nDi
        rw [this] at hD
        cases hD
    have hD' : H' D = some (.lst acc) := t'.old _ _ hD
    rw [hdr, dComp_cons] at ei
    cases eu : u d (wipeD δ vs) with
    | none =>
      rw [eu] at ei
      exact absurd ei.symm fi1.hn
    | some δ1 =>
      rw [eu] at ei
      have ei : (((p δ1).noex.bind fun b => if b = true then (f δ1).noex.bind fun y => (dComp u p f (ds.drop (i + 1)) (wipeD δ vs)).bind fun ys => .ok (y :: ys) else dComp u p f (ds.drop (i + 1)) (wipeD δ vs)).bind fun ys => .ok (accD ++ ys)) = o := ei
      refine ⟨Hin, Fin, F', wipeD δ vs, d, δ1, sw, rd, eu, fun σ3 st3 off3 => ⟨by rw [wipe_off off3, wipe_wipe], ?_⟩⟩
      have fi2 : Fine E X.K Hin (((p δ1).noex.bind fun b => if b = true then (f δ1).noex.bind fun y => (dComp u p f (ds.drop (i + 1)) (wipeD δ vs)).bind fun ys => .ok (y :: ys) else dComp u p f (ds.drop (i + 1)) (wipeD δ vs)).bind fun ys => .ok (accD ++ ys)) := by
        rw [show _ = o from ei]
        exact fi1
      refine tDT.mk st3 (fi2.left.left.noex) fun bb F2 H2 eb t2 st2 => ?_
      have fi3 := fi2.left.right (noex_of eb)
      rw [noex_of eb] at ei
      have mm : Same F1 F2 := (mi.trans t'.mono).trans t2.mono
      have mmH : Same H1 H2 := (mH.trans t'.old).trans t2.old
      have hD2 : H2 D = some (.lst acc) := t2.old _ _ hD'
      have nD2 : F2 D = none := by
        cases z : F2 D with
        | none => rfl
        | some ob =>
          have := t2.new D ob z nD'
          rw [this] at hD'
          cases hD'
      have r2 := (ra.step t').step t2
      cases bb with
      | false =>
        rw [if_neg Bool.false_ne_true]
        exact ⟨F2, acc, accD, qi, tH.trans t2, mm, mmH, nD2, hD2, r2, by omega, ei⟩
      | true =>
        rw [if_pos rfl] at fi3 ⊢
        refine ⟨Hin, Fin, F2, δ1, st2, fi3.left.noex, fun yv F3 H3 yd qe ey t3 fr => ?_⟩
        have ei : (((f δ1).noex.bind fun y => (dComp u p f (ds.drop (i + 1)) (wipeD δ vs)).bind fun ys => .ok (y :: ys)).bind fun ys => .ok (accD ++ ys)) = o := ei
        rw [noex_of ey] at ei
        have nD3 : F3 D = none := by
          cases z : F3 D with
          | none => rfl
          | some ob =>
            have := t3.new D ob z nD2
            rw [this] at hD2
            cases hD2
        refine ⟨acc, t3.old _ _ hD2, by have := it.len; omega, F3, acc ++ [yv], accD ++ [yd], _, keep ((tH.trans t2).trans t3) nD3, mm.trans t3.mono, keepH (mmH.trans t3.old), nD3, upd_same, r2.add t3 (tH.trans t2).old (by rw [hD2]; exact fun z => (nomatch z)) fr, by simp; omega, ?_⟩
        have ei : ((dComp u p f (ds.drop (i + 1)) (wipeD δ vs)).bind fun ys => .ok (yd :: ys)).bind (fun ys => .ok (accD ++ ys)) = o := ei
        rw [← ei]
        cases dComp u p f (ds.drop (i + 1)) (wipeD δ vs) with
        | ok ys =>
          show Res.ok _ = Res.ok _
          rw [List.append_assoc] <;> rfl
        | ex x => rfl
        | no => rfl
  · have e1 : i = ds.length := by omega
    subst e1
    rw [List.drop_length] at ei
    have ei : Res.ok (accD ++ []) = o := ei
    rw [List.append_nil] at ei
    refine .inl ⟨it.stop _ Hi mH (Nat.le_refl _), ?_⟩
    exact k _ Fi Hi (.lst accD) _ (by show ((fa δ).bind _).bind _ = _; rw [ed]; show (dComp u p f ds (wipeD δ vs)).bind _ = _; rw [eo.trans ei.symm]; rfl) ti (ra.fin nDH nDi hD)
theorem dv_lc {own : Bool} {scope : Scope} (ow : List (Str × Nat)) (hc : X.calm = true) (hN : X.N.Nodup) (hi : DI X E own tg iter fa) (ok : blkC X.N X.env.scope scope ow = true)
    (hg : ∀ (s : Shared) (H : Hp) (C : Addr) (cl : List (Str × Addr)) (fp : List Addr), DG (X.blk s H scope (compEnvC scope cl C X.env) fp) (ow.map (·.2)) tg u)
    (ht : ∀ (s : Shared) (H : Hp) (C : Addr) (cl : List (Str × Addr)) (fp : List Addr), DTs (X.blk s H scope (compEnvC scope cl C X.env) fp) E0 ifs p)
    (he : ∀ (s : Shared) (H : Hp) (C : Addr) (cl : List (Str × Addr)) (fp : List Addr), DV (X.blk s H scope (compEnvC scope cl C X.env) fp) E0 n elt f)
    (hs : ∀ x, foldedSetIterable iter X.env x = pure x := by intro _; rfl) : DV X E (n + 1) (.ListComp elt [⟨tg, iter, ifs, 0⟩] scope pos) (dLst (dLc fa u p f (ow.map (·.2)))) :=
  PE.imp (pe_lc hc hN hi (blkOk_by ok) hg ht he hs) fun σ H Q w => lc_readT w

/-! ### statements -/
/-- name = a fresh tree -/
@[simp] def dSetV (i n : Nat) (f : Sto → Res D) : Sto → Out := fun δ => (f δ).out fun d => match d with
  | .lst ds => .nx ((killAl i δ).set i (.tr n ds))
  | _ => .no
theorem ds_setV {i : Nat} {x : Str} {pos' : Pos} (hN : X.N.Nodup) (he : DV X E (n + 1) e f) (hi : X.N[i]? = some x := by rfl) (hx : Loc X.env.scope x := by first | exact Or.inl rfl | exact Or.inr rfl) (hs : swapsWith e (some (.Name x pos')) pos.line X.env = pure false := by rfl) (hf : X.fn x = true ∨ X.env.scope.names.lookup x = some .local := by first | exact .inl rfl | exact .inr rfl) :
    DS X E (.Assign [.Name x pos'] e pos) (dSetV i n f) := by
  refine PS.imp (ps_set hN hi hx he hs hf) fun D σ H w => ?_
  obtain ⟨Hin, Fin, F, δ, st, fi, en⟩ := w
  refine ⟨Hin, Fin, F, δ, st, fi.left, fun v F1 H1 d q ex t fr => ?_⟩
  obtain ⟨ds, rfl⟩ := fr.shape
  exact (en.right ex).nx _ _ F1 H1 rfl (st.setTr t fr) t.mono
theorem ds_setLcV {own : Bool} {i : Nat} {y : Str} {py spos : Pos} {scope : Scope} (ow : List (Str × Nat)) (hc : X.calm = true) (hN : X.N.Nodup) (hi : DI X E own tg iter fa) (ok : blkC X.N X.env.scope scope ow = true)
    (hg : ∀ (s : Shared) (H : Hp) (C : Addr) (cl : List (Str × Addr)) (fp : List Addr), DG (X.blk s H scope (compEnvC scope cl C X.env) fp) (ow.map (·.2)) tg u)
    (ht : ∀ (s : Shared) (H : Hp) (C : Addr) (cl : List (Str × Addr)) (fp : List Addr), DTs (X.blk s H scope (compEnvC scope cl C X.env) fp) E0 ifs p)
    (he : ∀ (s : Shared) (H : Hp) (C : Addr) (cl : List (Str × Addr)) (fp : List Addr), DV (X.blk s H scope (compEnvC scope cl C X.env) fp) E0 n elt f)
    (hsw : swapsWith (.ListComp elt [⟨tg, iter, ifs, 0⟩] scope pos) (some (.Name y py)) spos.line X.env = pure true := by exact sw_true rfl rfl rfl (by decide +kernel))
    (hy : X.N[i]? = some y := by rfl) (hyl : X.env.scope.names.lookup y = some .local := by rfl)
    (hs : ∀ x, foldedSetIterable iter X.env x = pure x := by intro _; rfl) : DS X E (.Assign [.Name y py] (.ListComp elt [⟨tg, iter, ifs, 0⟩] scope pos) spos) (dSetV i n (dLst (dLc fa u p f (ow.map (·.2))))) := by
  refine PS.imp (ps_setLc (te := tDV X.K E0 n f) (g := tDG X.K (ow.map (·.2)) u) (tt := tDT X.K E0 p) hc hN hy hyl hsw hi (blkOk_by ok) hg ht he hs) fun Dd σ H w => ?_
  obtain ⟨Hin, Fin, F, δ, st, fi, en⟩ := w
  refine lc_readT ⟨Hin, Fin, F, δ, st, fi.left, fun v F1 H1 d q ex t fr => ?_⟩
  obtain ⟨ds, rfl⟩ := fr.shape
  exact (en.right ex).nx _ _ F1 H1 rfl (st.setTr t fr) t.mono
/-- return of a fresh tree -/
@[simp] def dRetV (n : Nat) (f : Sto → Res D) : Sto → Out := fun δ => (f δ).out fun d => match d with
  | .lst ds => .rtT n ds
  | _ => .no
theorem ds_retV (he : DV X E (n + 1) e f) : DS X E (.Return (some e) pos) (dRetV n f) := by
  refine PS.imp (ps_ret he) fun D σ H w => ?_
  obtain ⟨Hin, Fin, F, δ, st, fi, en⟩ := w
  refine ⟨Hin, Fin, F, δ, st, fi.left, fun v F1 H1 d q ex t fr => ?_⟩
  obtain ⟨ds, rfl⟩ := fr.shape
  exact (en.right ex).rtT n ds v F1 H1 q rfl (st.st.trans t) ⟨fr.tr, fun a p e => ⟨st.st.old.free (fr.nod a p e).1, (fr.nod a p e).2⟩, fr.inj, fr.bnd⟩
@[simp] def dRetTr (i : Nat) : Sto → Out := fun δ => match δ[i]? with
  | some (.tr n ds) => .rtT n ds
  | _ => .no
theorem ds_retTr {i : Nat} {x : Str} {xp : Pos} (hN : X.N[i]? = some x := by rfl) (hv : Vis X.env.scope x := by first | exact Or.inl rfl | exact Or.inr (Or.inl rfl) | exact Or.inr (Or.inr rfl)) (hd : (x == ("__debug__" : Str)) = false := by decide) (hcd : (x == ("__classdict__" : Str)) = false := by decide) :
    DS X E (.Return (some (.Name x xp)) pos) (dRetTr i) := by
  refine PS.imp (ps_ret (pe_var hN hv hd hcd)) fun D σ H w => ?_
  obtain ⟨Hin, Fin, F, δ, st, fi, en⟩ := w
  unfold dRetTr at fi en
  cases q : δ[i]? with
  | none =>
    rw [q] at fi
    exact absurd rfl fi.hn
  | some cl =>
    rw [q] at fi en
    cases cl with
    | tr n ds =>
      obtain ⟨o, ho⟩ := st.own
      obtain ⟨v, h1, h2⟩ := ho.tr i n ds q
      refine ⟨v, h1, en.rtT n ds v F H (oS o i) rfl st.st ⟨h2, fun a p e => ?_, fun a b p e1 e2 => ho.inj a b _ (oS_some.mp e1) (oS_some.mp e2), fun ds' e a k p w => ?_⟩⟩
      · exact ho.nod a _ (oS_some.mp e)
      · cases e
        exact ho.bnd i n ds q a k p (oS_some.mp w)
    | _ => exact absurd rfl fi.hn
/-- x.append(e): a fresh tree behind an own tree -/
@[simp] def dAppV (i n : Nat) (f : Sto → Res D) : Sto → Out := fun δ => match δ[i]? with
  | some (.tr m ds) => if m = n then (f δ).out fun d => if ds.length < sizeLine then .nx (δ.set i (.tr n (ds ++ [d]))) else .no else .no
  | _ => .no
theorem ds_appV {i : Nat} {x : Str} {xp : Pos} {apos cpos : Pos} (he : DV X E n e f) (hN : X.N[i]? = some x := by rfl) (hv : Vis X.env.scope x := by first | exact Or.inl rfl | exact Or.inr (Or.inl rfl) | exact Or.inr (Or.inr rfl)) (hd : (x == ("__debug__" : Str)) = false := by decide) (hcd : (x == ("__classdict__" : Str)) = false := by decide)
    (hst : starEach [e] X.env = (false, eval e X.env) :: starEach [] X.env := by rfl) (hplain : (backTo cpos (starEach [] X.env)).any (·.1) = false := by rfl)
    (hbase : attributeBase (.Name x xp) "append" X.env (eval (.Name x xp) X.env) = eval (.Name x xp) X.env := by rfl)
    (hfew : ((backTo cpos (starEach [e] X.env)).all (fun x => !x.1) && (backToKw cpos (keywordEach [] X.env)).all (fun x => x.1.isSome)
      && decide ([e].length + ([] : List Keyword).length + (if ([] : List Keyword).isEmpty then 0 else 1) < 30)) = true := by rfl)
    (hline : (apos.endLine == cpos.line) = true := by rfl) (hs : swapsWith (.Call (.Attribute (.Name x xp) "append" apos) [e] [] cpos) none pos.line X.env = pure false := by rfl) :
    DS X E (.Expr (.Call (.Attribute (.Name x xp) "append" apos) [e] [] cpos) pos) (dAppV i n f) := by
  refine PS.imp (ps_expr (pe_bm PySem.F.plainAttrs_list PySem.F.slot_list_append PySem.F.type_list_append mt_append (pe_var hN hv hd hcd) (pa_cons he pa_nil hst) hbase hfew hline hst hplain) hs) fun D σ H w => ?_
  obtain ⟨Hin, Fin, F, δ, st, fi, en⟩ := w
  unfold dAppV at fi en
  cases q : δ[i]? with
  | none =>
    rw [q] at fi
    exact absurd rfl fi.hn
  | some cl =>
    rw [q] at fi en
    cases cl with
    | tr m ds =>
      have fi : FineO E X.K Hin (if m = n then (f δ).out fun d => if ds.length < sizeLine then .nx (δ.set i (.tr n (ds ++ [d]))) else .no else .no) := fi
      have en : EndsOk X.K Hin Fin F (if m = n then (f δ).out fun d => if ds.length < sizeLine then .nx (δ.set i (.tr n (ds ++ [d]))) else .no else .no) D := en
      by_cases hm : m = n
      · subst hm
        rw [if_pos rfl] at fi en
        obtain ⟨o, ho⟩ := st.own
        obtain ⟨v, h1, h2⟩ := ho.tr i m ds q
        obtain ⟨a, xs, rfl, ha, hx, hl, _⟩ := h2.node
        refine ⟨.ref a, h1, .inl ⟨rfl, xs, .inl (.inl hx)⟩, ?_⟩
        refine ⟨Hin, Fin, F, δ, st, fi.left, fun v F1 H1 d qe ed t fr => ?_⟩
        have fi2 := fi.right ed
        have en2 := en.right ed
        by_cases hz : ds.length < sizeLine
        · rw [if_pos hz] at en2
          refine ⟨a, xs, v, rfl, rfl, t.old _ _ hx, by rw [hl]; exact hz, ?_⟩
          refine en2.nx _ σ F1 _ rfl ((st.step t).appTr (ho.step t) q h1 (t.old _ _ hx) fr (fun b p e => ⟨?_, st.st.old.free (fr.nod b p e).1⟩) (fun j c b e1 e2 e3 => ?_)) t.mono
          · cases w : o b with
            | none => rfl
            | some z =>
              obtain ⟨_, _, ys, hy⟩ := ho.nod b z w
              rw [(fr.nod b p e).1] at hy
              cases hy
          · cases w : qe b with
            | none => rfl
            | some p =>
              have hn := (fr.nod b p w).1
              have y := st.cell j c e1
              cases c with
              | ow ds' =>
                obtain ⟨a', xs', e', h', _⟩ := y
                rw [e3] at e'
                cases e'
                rw [hn] at h'
                cases h'
              | ob b' C ns ds' =>
                obtain ⟨a', dx, fvs, e', h', _⟩ := y
                rw [e3] at e'
                cases e'
                rw [hn] at h'
                cases h'
              | _ => cases e2
        · rw [if_neg hz] at fi2
          exact absurd rfl fi2.hn
      · rw [if_neg hm] at fi
        exact absurd rfl fi.hn
    | _ => exact absurd rfl fi.hn
/-- x.append(y): an own list goes behind an own tree -/
@[simp] def dAppO (i j : Nat) : Sto → Out := fun δ => match δ[i]?, δ[j]? with
  | some (.tr 1 ds), some (.ow es) => if i ≠ j ∧ ds.length < sizeLine then .nx ((δ.set j .un).set i (.tr 1 (ds ++ [.lst es]))) else .no
  | _, _ => .no
theorem set_self {α : Type} {l : List α} {i : Nat} {a : α} (h : l[i]? = some a) : l.set i a = l := by
  apply List.ext_getElem?
  intro j
  by_cases hj : i = j
  · subst hj
    rw [List.getElem?_set_self (List.getElem?_eq_some_iff.mp h).1, h]
  · rw [List.getElem?_set_ne hj]
theorem ds_appO {i j : Nat} {x y : Str} {xp yp : Pos} {apos cpos : Pos} (hN : X.N[i]? = some x := by rfl) (hv : Vis X.env.scope x := by first | exact Or.inl rfl | exact Or.inr (Or.inl rfl) | exact Or.inr (Or.inr rfl)) (hd : (x == ("__debug__" : Str)) = false := by decide) (hcd : (x == ("__classdict__" : Str)) = false := by decide)
    (hN2 : X.N[j]? = some y := by rfl) (hv2 : Vis X.env.scope y := by first | exact Or.inl rfl | exact Or.inr (Or.inl rfl) | exact Or.inr (Or.inr rfl)) (hd2 : (y == ("__debug__" : Str)) = false := by decide) (hcd2 : (y == ("__classdict__" : Str)) = false := by decide)
    (hst : starEach [.Name y yp] X.env = (false, eval (.Name y yp) X.env) :: starEach [] X.env := by rfl) (hplain : (backTo cpos (starEach [] X.env)).any (·.1) = false := by rfl)
    (hbase : attributeBase (.Name x xp) "append" X.env (eval (.Name x xp) X.env) = eval (.Name x xp) X.env := by rfl)
    (hfew : ((backTo cpos (starEach [.Name y yp] X.env)).all (fun x => !x.1) && (backToKw cpos (keywordEach [] X.env)).all (fun x => x.1.isSome)
      && decide ([Expr.Name y yp].length + ([] : List Keyword).length + (if ([] : List Keyword).isEmpty then 0 else 1) < 30)) = true := by rfl)
    (hline : (apos.endLine == cpos.line) = true := by rfl) (hs : swapsWith (.Call (.Attribute (.Name x xp) "append" apos) [.Name y yp] [] cpos) none pos.line X.env = pure false := by rfl) :
    DS X E (.Expr (.Call (.Attribute (.Name x xp) "append" apos) [.Name y yp] [] cpos) pos) (dAppO i j) := by
  refine PS.imp (ps_expr (pe_bm PySem.F.plainAttrs_list PySem.F.slot_list_append PySem.F.type_list_append mt_append (pe_var hN hv hd hcd) (pa_cons (pe_var hN2 hv2 hd2 hcd2) pa_nil hst) hbase hfew hline hst hplain) hs) fun D σ H w => ?_
  obtain ⟨Hin, Fin, F, δ, st, fi, en⟩ := w
  unfold dAppO at fi en
  split at fi
  · rename_i ds es e1 e2
    rw [e1, e2] at en
    have en : EndsOk X.K Hin Fin F (if i ≠ j ∧ ds.length < sizeLine then .nx ((δ.set j .un).set i (.tr 1 (ds ++ [.lst es]))) else .no) D := en
    by_cases hz : i ≠ j ∧ ds.length < sizeLine
    · rw [if_pos hz] at en
      obtain ⟨p, ys, e3, hp, nF, ni, r⟩ := st.cell j _ e2
      have st1 : StL X.K Hin Fin F σ H (δ.set j .un) := by
        have := st.forget (i := j) (s := some (.ref p))
        rw [set_self e3] at this
        exact this
      have e1' : (δ.set j .un)[i]? = some (.tr 1 ds) := by rw [List.getElem?_set_ne (Ne.symm hz.1)]; exact e1
      obtain ⟨o, ho⟩ := st.own
      have op := ho.sep j _ p e2 rfl e3
      have ho1 : Own X.K Hin F σ H (δ.set j .un) o := by
        have := ho.set (i := j) (s := some (.ref p)) (c := .un) st.len (fun _ _ z => (nomatch z)) (fun _ _ z => (nomatch z)) (fun z => (nomatch z))
        rw [set_self e3] at this
        exact this
      obtain ⟨v, h1, h2⟩ := ho.tr i 1 ds e1
      obtain ⟨a, xs, rfl, ha, hx, hl, _⟩ := h2.node
      refine ⟨.ref a, h1, .inl ⟨rfl, xs, .inl (.inl hx)⟩, .ref p, e3, a, xs, .ref p, rfl, rfl, hx, by rw [hl]; exact hz.2, ?_⟩
      refine en.nx _ σ F _ rfl (st1.appTr (Hq := Hin) ho1 e1' h1 hx (.node ni nF hp r) (fun b q e => ?_) (fun k c b z1 z2 z3 => ?_)) (Same.refl _)
      · have e : (if b = p then some [] else none) = some q := e
        by_cases hb : b = p
        · subst hb
          exact ⟨op, ni⟩
        · rw [if_neg hb] at e
          cases e
      · show (if b = p then some ([] : List Nat) else none) = none
        refine if_neg fun hb => ?_
        subst hb
        by_cases hk : j = k
        · subst hk
          rw [List.getElem?_set_self (List.getElem?_eq_some_iff.mp e2).1] at z1
          cases z1
          cases z2
        · rw [List.getElem?_set_ne hk] at z1
          exact hk (st.uniq j k _ c b e2 z1 rfl z2 e3 z3)
    · have fi : FineO E X.K Hin (if i ≠ j ∧ ds.length < sizeLine then .nx ((δ.set j .un).set i (.tr 1 (ds ++ [.lst es]))) else .no) := fi
      rw [if_neg hz] at fi
      exact absurd rfl fi.hn
  · exact absurd rfl fi.hn
end
end Dn

/-! Dn14: names for a tree's nodes; reading and writing through them; defs that give fresh trees. -/
namespace Dn
open PySem PySem.Spec PyProof.Rows L2

/-- the expression names the node at a path of a slot's tree -/
def tDP (K : PySem.W.Frag) (E : XK) (f : Sto → Res (Nat × List Nat)) : TE := fun σ H Q => ∃ Hin Fin F δ, StL K Hin Fin F σ H δ ∧ Fine E K Hin (f δ) ∧ ∀ a F1 H1 i p, f δ = .ok (i, p) → Step F H F1 H1 → (∃ o, Own K Hin F1 σ H1 δ o ∧ o a = some (i, p)) → Q (.ref a) H1
abbrev DP (X : Cx) (E : XK) (e : Expr) (f : Sto → Res (Nat × List Nat)) : Prop := PE X e (tDP X.K E f)
/-- the tree at a slot -/
@[simp] def Sto.tree (δ : Sto) (i : Nat) : Option (Nat × List D) := match δ[i]? with
  | some (.tr n ds) => some (n, ds)
  | _ => none
theorem tree_ok {δ : Sto} {i n : Nat} {ds : List D} (h : δ.tree i = some (n, ds)) : δ[i]? = some (.tr n ds) := by
  unfold Sto.tree at h
  split at h
  · rename_i m es e
    cases h
    exact e
  · cases h
section
variable {X : Cx} {E : XK} {pos ppos : Pos} {a b c e tg elt iter : Expr} {es ifs : List Expr} {f h : Sto → Res D} {g : Sto → Res (Nat × List Nat)} {fa : Sto → Res (List D)} {n : Nat}
theorem nodeAt {K : PySem.W.Frag} {Hin F H : Hp} {σ : L2.St} {δ : Sto} {o : Addr → Option (Nat × List Nat)} {i n : Nat} {ds es : List D} {r : List Nat} {a : Addr} (ho : Own K Hin F σ H δ o) (hi : δ[i]? = some (.tr n ds)) (ha : o a = some (i, r)) (hg : getL r ds = some es) (hl : r.length ≤ n) :
    ∃ xs, H a = some (.lst xs) ∧ xs.length = es.length ∧ ∀ k x d', xs[k]? = some x → es[k]? = some d' → TrR K F H (oS o i) (n - r.length) (r ++ [k]) x d' := by
  obtain ⟨v, h1, h2⟩ := ho.tr i n ds hi
  obtain ⟨v', h3⟩ := TrR.at r h2 hg hl
  obtain ⟨b, xs, e1, e2, e3, e4, e5⟩ := h3.node
  have eb : b = a := ho.inj b a _ (oS_some.mp e2) (by simpa using ha)
  subst eb
  exact ⟨xs, e3, e4, fun k x d' hx hd => by simpa using e5 k x d' hx hd⟩
/-- a variable that holds a tree, or names a node -/
@[simp] def dNodeV (i : Nat) : Sto → Res (Nat × List Nat) := fun δ => match δ[i]? with
  | some (.tr _ _) => .ok (i, [])
  | some (.al j p) => .ok (j, p)
  | _ => .no
theorem dp_var {i : Nat} {x : Str} (hN : X.N[i]? = some x := by rfl) (hv : Vis X.env.scope x := by first | exact Or.inl rfl | exact Or.inr (Or.inl rfl) | exact Or.inr (Or.inr rfl)) (hd : (x == ("__debug__" : Str)) = false := by decide) (hcd : (x == ("__classdict__" : Str)) = false := by decide) : DP X E (.Name x pos) (dNodeV i) := by
  refine PE.imp (pe_var hN hv hd hcd) fun σ H Q w => ?_
  obtain ⟨Hin, Fin, F, δ, st, fi, k⟩ := w
  unfold dNodeV at fi k
  cases q : δ[i]? with
  | none =>
    rw [q] at fi
    exact absurd rfl fi.hn
  | some cl =>
    rw [q] at fi k
    obtain ⟨o, ho⟩ := st.own
    cases cl with
    | tr n ds =>
      obtain ⟨v, h1, h2⟩ := ho.tr i n ds q
      obtain ⟨a, xs, rfl, ha, _⟩ := h2.node
      exact ⟨_, h1, k a F H i [] rfl (Step.refl st.sub) ⟨o, ho, oS_some.mp ha⟩⟩
    | al j p =>
      obtain ⟨a, h1, h2⟩ := ho.al i j p q
      exact ⟨_, h1, k a F H j p rfl (Step.refl st.sub) ⟨o, ho, h2⟩⟩
    | _ => exact absurd rfl fi.hn
/-- the inner list at an index -/
@[simp] def dNodeIx (g : Sto → Res (Nat × List Nat)) (h : Sto → Res D) : Sto → Res (Nat × List Nat) := fun δ => (g δ).bind fun z => (h δ).bind fun k => match k with
  | .int j => Res.opt ((δ.tree z.1).bind fun t => if z.2.length < t.1 then (getL z.2 t.2).bind fun es => (ixN es.length j).map fun m => (z.1, z.2 ++ [m]) else none)
  | _ => .no
theorem dp_ix (ha : DP X E a g) (hb : DE X E b h) (hs : PlainIx b := by exact fun _ _ => rfl) : DP X E (.Subscript a b pos) (dNodeIx g h) := by
  refine PE.imp (pe_ix ix_seq ha hb hs) fun σ H Q w => ?_
  obtain ⟨Hin, Fin, F, δ, st, fi, k⟩ := w
  refine ⟨Hin, Fin, F, δ, st, fi.left, fun l F1 H1 i r er t hro => ?_⟩
  have fi1 := fi.right er
  refine tD.mk (st.step t) fi1.left fun kv F2 H2 kd ek t2 st2 rk => ?_
  have fi2 := fi1.right ek
  obtain ⟨o, ho, hl⟩ := hro
  have ho := ho.step t2
  cases rk with
  | int j =>
    obtain ⟨z, ez⟩ := fi2.opt
    have e1 : dNodeIx g h δ = .ok z := by
      show (g δ).bind _ = _
      rw [er]
      show (h δ).bind _ = _
      rw [ek]
      show Res.opt _ = _
      rw [ez]
      rfl
    obtain ⟨⟨m, ds⟩, et, ez⟩ := Option.bind_eq_some_iff.mp ez
    have ez : (if r.length < m then (getL r ds).bind fun es => (ixN es.length j).map fun m => (i, r ++ [m]) else none) = some z := ez
    by_cases hm : r.length < m
    · rw [if_pos hm] at ez
      obtain ⟨es, eg, ez⟩ := Option.bind_eq_some_iff.mp ez
      obtain ⟨m2, em, ez⟩ := Option.map_eq_some_iff.mp ez
      subst ez
      obtain ⟨xs, hx, hlen, hc⟩ := nodeAt ho (tree_ok et) hl eg (by omega)
      have hm2 : m2 < es.length := by
        exact (ixN_seq em).2.1
      have q1 := hc m2 _ _ (List.getElem?_eq_getElem (by rw [hlen]; exact hm2)) (List.getElem?_eq_getElem hm2)
      have e3 : m - r.length = (m - r.length - 1) + 1 := by omega
      rw [e3] at q1
      obtain ⟨a2, xs2, ds2, e4, e5, e6, _⟩ := q1
      refine .inl ⟨l, xs, j, _, rfl, rfl, .inl (.inl hx), by unfold atI; rw [hlen, em]; exact List.getElem?_eq_getElem (by rw [hlen]; exact hm2), ?_⟩
      rw [e4]
      exact k a2 F2 H2 i (r ++ [m2]) e1 (t.trans t2) ⟨o, ho, oS_some.mp e6⟩
    · rw [if_neg hm] at ez
      cases ez
  | _ => exact absurd rfl fi2.hn
/-- a leaf -/
@[simp] def dLeaf (g : Sto → Res (Nat × List Nat)) (h : Sto → Res D) : Sto → Res D := fun δ => (g δ).bind fun z => (h δ).bind fun k => match k with
  | .int j => Res.opt ((δ.tree z.1).bind fun t => if z.2.length = t.1 then (getL z.2 t.2).bind fun es => atI es j else none)
  | _ => .no
theorem de_leaf (ha : DP X E a g) (hb : DE X E b h) (hs : PlainIx b := by exact fun _ _ => rfl) : DE X E (.Subscript a b pos) (dLeaf g h) := by
  refine PE.imp (pe_ix ix_seq ha hb hs) fun σ H Q w => ?_
  obtain ⟨Hin, Fin, F, δ, st, fi, k⟩ := w
  refine ⟨Hin, Fin, F, δ, st, fi.left, fun l F1 H1 i r er t hro => ?_⟩
  have fi1 := fi.right er
  refine tD.mk (st.step t) fi1.left fun kv F2 H2 kd ek t2 st2 rk => ?_
  have fi2 := fi1.right ek
  obtain ⟨o, ho, hl⟩ := hro
  have ho := ho.step t2
  cases rk with
  | int j =>
    obtain ⟨z, ez⟩ := fi2.opt
    have e1 : dLeaf g h δ = .ok z := by
      show (g δ).bind _ = _
      rw [er]
      show (h δ).bind _ = _
      rw [ek]
      show Res.opt _ = _
      rw [ez]
      rfl
    obtain ⟨⟨m, ds⟩, et, ez⟩ := Option.bind_eq_some_iff.mp ez
    have ez : (if r.length = m then (getL r ds).bind fun es => atI es j else none) = some z := ez
    by_cases hm : r.length = m
    · rw [if_pos hm] at ez
      obtain ⟨es, eg, ez⟩ := Option.bind_eq_some_iff.mp ez
      obtain ⟨xs, hx, hlen, hc⟩ := nodeAt ho (tree_ok et) hl eg (by omega)
      have rr : Reps X.K F2 xs es := Reps.ofGet hlen fun k x d h1 h2 => by
        have := hc k x d h1 h2
        rw [hm, Nat.sub_self] at this
        exact this
      obtain ⟨v, ev, rv⟩ := atI_reps rr ez
      exact .inl ⟨l, xs, j, v, rfl, rfl, .inl (.inl hx), ev, k v F2 H2 z e1 (t.trans t2) rv⟩
    · rw [if_neg hm] at ez
      cases ez
  | _ => exact absurd rfl fi2.hn
/-- len(node) -/
@[simp] def dLenN (g : Sto → Res (Nat × List Nat)) : Sto → Res D := fun δ => (g δ).bind fun z => Res.opt ((δ.tree z.1).bind fun t => if z.2.length ≤ t.1 then (getL z.2 t.2).map fun es => .int (es.length : Nat) else none)
theorem de_lenN {x : Str} (hm : X.mg x = none) (hv : bootBuiltins x = some (.builtin "len")) (ha : DP X E e g)
    (hg : Gl X x := by rfl) (hn : x ≠ "__name__" := by decide) (hdb : (x == ("__debug__" : Str)) = false := by decide)
    (he : starEach [e] X.env = (false, eval e X.env) :: starEach [] X.env := by rfl) (hpl : (backTo pos (starEach [] X.env)).any (·.1) = false := by rfl) : DE X E (.Call (.Name x ppos) [e] [] pos) (dLenN g) := by
  refine PE.imp (pe_callB call_len hg hm hv (pa_cons ha pa_nil he) hn hdb he hpl) fun σ H Q w => ?_
  obtain ⟨Hin, Fin, F, δ, st, fi, k⟩ := w
  unfold tCB tCons tNil
  refine ⟨Hin, Fin, F, δ, st, fi.left, fun l F1 H1 i r er t hro => ?_⟩
  have fi1 := fi.right er
  obtain ⟨o, ho, hl⟩ := hro
  obtain ⟨z, ez⟩ := fi1.opt
  have e1 : dLenN g δ = .ok z := by
    show (g δ).bind _ = _
    rw [er]
    show Res.opt _ = _
    rw [ez]
    rfl
  obtain ⟨⟨m, ds⟩, et, ez⟩ := Option.bind_eq_some_iff.mp ez
  have ez : (if r.length ≤ m then (getL r ds).map fun es => D.int (es.length : Nat) else none) = some z := ez
  by_cases hm : r.length ≤ m
  · rw [if_pos hm] at ez
    obtain ⟨es, eg, ez⟩ := Option.map_eq_some_iff.mp ez
    subst ez
    obtain ⟨xs, hx, hlen, hc⟩ := nodeAt ho (tree_ok et) hl eg hm
    exact ⟨.ref l, es.length, rfl, .inl ⟨xs, .inl (.inl hx), hlen.symm⟩, k _ F1 H1 _ e1 t (.int _)⟩
  · rw [if_neg hm] at ez
    cases ez
/-- name = node -/
@[simp] def dSetA (i : Nat) (g : Sto → Res (Nat × List Nat)) : Sto → Out := fun δ => (g δ).out fun z => if z.1 ≠ i then .nx (δ.set i (.al z.1 z.2)) else .no
theorem Own.setAl {K : PySem.W.Frag} {Hin F : Hp} {σ : L2.St} {H : Hp} {δ : Sto} {o : Addr → Option (Nat × List Nat)} {i j : Nat} {p : List Nat} {a : Addr} (x : Own K Hin F σ H δ o) (hl : σ.length = δ.length) (ha : o a = some (j, p)) : Own K Hin F (σ.set i (some (.ref a))) H (δ.set i (.al j p)) o := by
  have h1 := x.set (i := i) (s := some (.ref a)) (c := .un) hl (fun _ _ z => (nomatch z)) (fun _ _ z => (nomatch z)) (fun z => (nomatch z))
  have ln : ∀ (m : Nat) (c : Cell), (δ.set i (.al j p))[m]? = some c → i = m → c = .al j p := fun m c e z => by
    subst z
    have hi : i < δ.length := by simpa using (List.getElem?_eq_some_iff.mp e).1
    rw [List.getElem?_set_self hi] at e
    cases e
    rfl
  have to : ∀ (m : Nat) (c : Cell), (δ.set i (.al j p))[m]? = some c → i ≠ m → (δ.set i .un)[m]? = some c := fun m c e z => by
    rw [List.getElem?_set_ne z] at e ⊢
    exact e
  refine ⟨x.inj, x.nod, fun m c b e1 e2 e3 => ?_, fun m n ds e => ?_, fun m k r e => ?_, fun m n ds e => ?_⟩
  · by_cases hm : i = m
    · have := ln m c e1 hm
      subst this
      cases e2
    · exact h1.sep m c b (to m c e1 hm) e2 e3
  · by_cases hm : i = m
    · have := ln m _ e hm
      cases this
    · exact h1.tr m n ds (to m _ e hm)
  · by_cases hm : i = m
    · have hz := ln m _ e hm
      cases hz
      subst hm
      have hi : i < δ.length := by simpa using (List.getElem?_eq_some_iff.mp e).1
      exact ⟨a, by rw [List.getElem?_set_self (by rw [hl]; exact hi)], ha⟩
    · exact h1.al m k r (to m _ e hm)
  · by_cases hm : i = m
    · have := ln m _ e hm
      cases this
    · exact h1.bnd m n ds (to m _ e hm)
theorem StL.setAl {K : PySem.W.Frag} {Hin Fin F : Hp} {σ : L2.St} {H : Hp} {δ : Sto} {o : Addr → Option (Nat × List Nat)} {i j : Nat} {p : List Nat} {a : Addr} (x : StL K Hin Fin F σ H δ) (ho : Own K Hin F σ H δ o) (ha : o a = some (j, p)) : StL K Hin Fin F (σ.set i (some (.ref a))) H (δ.set i (.al j p)) := by
  have h1 : StL K Hin Fin F (σ.set i (some (.ref a))) H (δ.set i .un) := x.forget
  have to : ∀ (m : Nat) (c : Cell), (δ.set i (.al j p))[m]? = some c → c = .al j p ∨ (δ.set i .un)[m]? = some c := fun m c e => by
    by_cases z : i = m
    · subst z
      have hi : i < δ.length := by simpa using (List.getElem?_eq_some_iff.mp e).1
      rw [List.getElem?_set_self hi] at e
      cases e
      exact .inl rfl
    · rw [List.getElem?_set_ne z] at e ⊢
      exact .inr e
  refine ⟨by simp [x.len], x.st, fun m c e => ?_, fun m k cj ck b ej ek oj ok sj sk => ?_, o, ho.setAl x.len ha⟩
  · rcases to m c e with rfl | e
    · trivial
    · exact h1.cell m c e
  · rcases to m cj ej with rfl | ej
    · cases oj
    · rcases to k ck ek with rfl | ek
      · cases ok
      · exact h1.uniq m k cj ck b ej ek oj ok sj sk
theorem ds_setA {i : Nat} {x : Str} {pos' : Pos} (hN : X.N.Nodup) (he : DP X E e g) (hi : X.N[i]? = some x := by rfl) (hx : Loc X.env.scope x := by first | exact Or.inl rfl | exact Or.inr rfl) (hs : swapsWith e (some (.Name x pos')) pos.line X.env = pure false := by rfl) (hf : X.fn x = true ∨ X.env.scope.names.lookup x = some .local := by first | exact .inl rfl | exact .inr rfl) :
    DS X E (.Assign [.Name x pos'] e pos) (dSetA i g) := by
  refine PS.imp (ps_set hN hi hx he hs hf) fun D σ H w => ?_
  obtain ⟨Hin, Fin, F, δ, st, fi, en⟩ := w
  refine ⟨Hin, Fin, F, δ, st, fi.left, fun a F1 H1 j p ex t hro => ?_⟩
  have fi1 := fi.right ex
  have en1 := en.right ex
  by_cases hz : j ≠ i
  · rw [if_pos hz] at en1
    obtain ⟨o, ho, ha⟩ := hro
    exact en1.nx _ _ F1 H1 rfl ((st.step t).setAl ho ha) t.mono
  · rw [if_neg hz] at fi1
    exact absurd rfl fi1.hn
/-- x[j] = e, x a node whose children are data -/
@[simp] def dPutT (g : Sto → Res (Nat × List Nat)) (h f : Sto → Res D) : Sto → Out := fun δ => (f δ).out fun d => (g δ).out fun z => (h δ).out fun k => match k with
  | .int j => (Res.opt ((δ.tree z.1).bind fun t => if z.2.length = t.1 then (getL z.2 t.2).bind fun es => (ixN es.length j).map fun m => (t, es.set m d) else none)).out fun y => .nx (δ.set z.1 (.tr y.1.1 (putL z.2 y.1.2 y.2)))
  | _ => .no
theorem ds_putT {i : Nat} {x : Str} {xp tpos : Pos} {ie : Expr} (he : DE X E e f) (hi : DE X E ie h) (hN : X.N[i]? = some x := by rfl) (hv : Vis X.env.scope x := by first | exact Or.inl rfl | exact Or.inr (Or.inl rfl) | exact Or.inr (Or.inr rfl)) (hd : (x == ("__debug__" : Str)) = false := by decide) (hcd : (x == ("__classdict__" : Str)) = false := by decide)
    (ha : ∀ v, assign (.Subscript (.Name x xp) ie tpos) X.env v = (do
      let ov ← holding [v] (eval (.Name x xp) X.env)
      let iv ← holding [v, ov] (eval ie X.env)
      standAt tpos
      holding [v, ov, iv] (setItem ov iv v)
      release [v, ov, iv] []) := by intro _; rfl)
    (hs : swapsWithSole [.Subscript (.Name x xp) ie tpos] e pos.line X.env = pure false := by rfl) (hw : swappedStores [.Subscript (.Name x xp) ie tpos] e X.env = pure none := by rfl)
    (h1 : (assignEach [.Subscript (.Name x xp) ie tpos] X.env).map (·.2) = [assign (.Subscript (.Name x xp) ie tpos) X.env] := by rfl) :
    DS X E (.Assign [.Subscript (.Name x xp) ie tpos] e pos) (dPutT (dNodeV i) h f) := by
  refine PS.imp (ps_asg he (pg_sub (dp_var (E := E) hN hv hd hcd) hi set_list ha) hs hw h1) fun D σ H w => ?_
  obtain ⟨Hin, Fin, F, δ, st, fi, en⟩ := w
  refine tD.mk st fi.left fun v F1 H1 d ed t st1 rv => ?_
  have fi1 := fi.right ed
  have en1 := en.right ed
  refine ⟨Hin, Fin, F1, δ, st1, fi1.left, fun l F2 H2 s r er t2 hro => ?_⟩
  have fi2 := fi1.right er
  have en2 := en1.right er
  refine tD.mk (st1.step t2) fi2.left fun kv F3 H3 kd ek t3 st3 rk => ?_
  have fi3 := fi2.right ek
  have en3 := en2.right ek
  obtain ⟨o, ho, hl⟩ := hro
  have ho := ho.step t3
  cases rk with
  | int j =>
    have fi3 : FineO E X.K Hin ((Res.opt ((δ.tree s).bind fun t => if r.length = t.1 then (getL r t.2).bind fun es => (ixN es.length j).map fun m => (t, es.set m d) else none)).out fun y => .nx (δ.set s (.tr y.1.1 (putL r y.1.2 y.2)))) := fi3
    have en3 : EndsOk X.K Hin Fin F ((Res.opt ((δ.tree s).bind fun t => if r.length = t.1 then (getL r t.2).bind fun es => (ixN es.length j).map fun m => (t, es.set m d) else none)).out fun y => .nx (δ.set s (.tr y.1.1 (putL r y.1.2 y.2)))) D := en3
    obtain ⟨y, ey⟩ := fi3.left.opt
    rw [ey] at en3
    obtain ⟨⟨m, ds⟩, et, ey⟩ := Option.bind_eq_some_iff.mp ey
    have ey : (if r.length = m then (getL r ds).bind fun es => (ixN es.length j).map fun m2 => ((m, ds), es.set m2 d) else none) = some y := ey
    by_cases hm : r.length = m
    · rw [if_pos hm] at ey
      obtain ⟨es, eg, ey⟩ := Option.bind_eq_some_iff.mp ey
      obtain ⟨m2, em, ey⟩ := Option.map_eq_some_iff.mp ey
      subst ey
      obtain ⟨xs, hx, hlen, hc⟩ := nodeAt ho (tree_ok et) hl eg (by omega)
      have rr : Reps X.K F3 xs es := Reps.ofGet hlen fun k x d h1 h2 => by
        have := hc k x d h1 h2
        rw [hm, Nat.sub_self] at this
        exact this
      refine ⟨l, xs, j, m2, rfl, rfl, hx, by rw [hlen]; exact em, ?_⟩
      exact en3.nx _ σ F3 _ rfl (st3.wrTr ho (tree_ok et) hl eg hm (rr.set ((rv.mono t2.mono).mono t3.mono) m2) (by simp)) ((t.mono.trans t2.mono).trans t3.mono)
    · rw [if_neg hm] at ey
      cases ey
  | _ => exact absurd rfl fi3.hn
end
/-! ### defs that give fresh trees -/
def spV (K : PySem.W.Frag) (n : Nat) (φ : List D → Res D) : Sp := fun vs H Q E => ∃ F ds, Same F H ∧ Reps K F vs ds ∧ Fine E K H (φ ds) ∧ ∀ d v F' H' q, φ ds = .ok d → Step F H F' H' → FrT K F' H H' q n v d → Q v H'
structure FnV (P : Program) (w : World) (K : PySem.W.Frag) (mg : Str → Option Value) (base : Heap) (k : Nat) (f : Addr) (dds : List D) (n : Nat) (φ : List D → Res D) : Prop where
  kp : PySem.W.keepIn K (.ref f) = true
  ok : ∃ fd ps dvs ds, FnOk P w K mg base (CX P w) k f fd ps (spV K n φ) ∧ Binds K fd ps ds ∧ Vals dvs ds ∧ ∀ F, Reps K F dvs dds
section
variable {X : Cx} {E : XK} {pos ppos : Pos} {e : Expr} {es : List Expr} {fa : Sto → Res (List D)} {φ : List D → Res D} {k n : Nat} {dds : List D} {p : Addr}
theorem dv_call {x : Str} (F : FnV X.prog X.w X.K X.mg X.base k p dds n φ) (hr : Room k X.A) (hm : X.mg x = some (.ref p)) (tk : Takes X (fun c d _ H => E c d H)) (ha : DA X E (e :: es) fa)
    (hg : Gl X x := by rfl) (hdb : (x == ("__debug__" : Str)) = false := by decide) (he : starEach (e :: es) X.env = (false, eval e X.env) :: starEach es X.env := by rfl) (hpl : (backTo pos (starEach es X.env)).any (·.1) = false := by rfl) :
    DV X E n (.Call (.Name x ppos) (e :: es) [] pos) (dCall φ dds fa) := by
  obtain ⟨fd, ps, dvs, ds, F1, hb, hd, rd⟩ := F.ok
  refine PE.imp (pe_call F1 hr hg hm F.kp hb hd (passes_call tk fun _ _ _ _ h => h) ha hdb he hpl) fun σ H Q w => ?_
  obtain ⟨Hin, Fin, F, δ, st, fi, q⟩ := w
  unfold tCall
  refine tDA.mk st fi.left fun us F2 H2 xs exs t2 st2 rs => ?_
  refine ⟨F2, xs ++ dds, st2.sub, rs.append (rd F2), (fi.right exs).mono st2.st.old, fun d v F' H' qe ed t3 r => ?_⟩
  exact q v F' H' d qe (by show (fa δ).bind _ = _; rw [exs]; exact ed) (t2.trans t3) ⟨r.tr, fun a z e => ⟨t2.old.free (r.nod a z e).1, (r.nod a z e).2⟩, r.inj, r.bnd⟩
end
def finV (n : Nat) : Out → Res D
  | .rtT m ds => if m + 1 = n then .ok (.lst ds) else .no
  | .ex e => .ex e
  | _ => .no
section
variable {P : Program} {w : World} {K : PySem.W.Frag} {mg : Str → Option Value} {base : Heap} {x qual : Str} {params : Arguments} {body : List Stmt} {scope : Scope} {dvs : List V} {kws : List (Str × V)} {p : Addr} {fd : FuncData} {N ps : List Str} {k n : Nat} {φ : List D → Res D} {g : Sto → Out}
theorem fn_okV (F : FunD K x qual params body scope dvs kws p fd) (S : FnScope N ps scope) (har : ∀ ds, φ ds ≠ .no → ds.length = ps.length)
    (hb : ∀ (cdv : Value) (A : Around) (outer : List Env) (s : Shared) (H : Hp) (E : XK), Room k (A.deeper (envOfC qual scope s.heap.objs.size p cdv)) → DSs (cxOf (CX P w) P w K mg base N qual scope p cdv A outer s H E) E body g)
    (hφ : ∀ ds, φ ds ≠ .no → finV n (g (startD N ds)) = φ ds) : FnOk P w K mg base (CX P w) (k + 1) p fd ps (spV K n φ) := by
  have pl : ps.length ≤ N.length := by
    have := congrArg List.length S.pre
    rw [List.length_take] at this
    omega
  refine F.ok S (fun vs H Q E h => ?_) (fun cdv A outer s H vs Q E hr h => ?_)
  · obtain ⟨F1, ds, _, r, fi, _⟩ := h
    rw [r.length]
    exact har ds fi.hn
  · obtain ⟨F1, ds, sm, r, fi, q⟩ := h
    have e := hφ ds fi.hn
    have hl : ds.length ≤ N.length := by rw [har ds fi.hn]; exact pl
    refine ⟨_, hb cdv A outer s H E hr, H, F1, F1, startD N ds, start_ok sm r hl, ⟨fun y ey => ?_, fun en => ?_⟩, ⟨fun δ' σ' F' H' en st' m => ?_, fun d v F' H' en t rv => ?_, fun δ' σ' F' H' en st' m => ?_, fun δ' σ' F' H' en st' m => ?_, fun n' ds' v F' H' q' en t rv => ?_⟩⟩
    · rw [ey] at e
      exact fi.hx y e.symm
    · rw [en] at e
      exact fi.hn e.symm
    · rw [en] at e
      exact absurd e.symm fi.hn
    · rw [en] at e
      exact absurd e.symm fi.hn
    · rw [en] at e
      exact absurd e.symm fi.hn
    · rw [en] at e
      exact absurd e.symm fi.hn
    · rw [en] at e
      have e : (if n' + 1 = n then Res.ok (D.lst ds') else .no) = φ ds := e
      by_cases hn : n' + 1 = n
      · rw [if_pos hn] at e
        rw [← hn] at q
        exact q (.lst ds') v F' H' q' e.symm t rv
      · rw [if_neg hn] at e
        exact absurd e.symm fi.hn
theorem fnV (F : FunD K x qual params body scope [] kws p fd) (ok : FnOk P w K mg base (CX P w) k p fd ps (spV K n φ))
    (hb : ∀ (kV doc pm : Value) (an : Option Addr) (cdv ct : Value) (us : List Value), us.length = ps.length → bindArgs (PySem.W.fnOf x qual params body scope .none kV doc pm an cdv ct) ⟨us, []⟩ = pure (ps.zip us)) : FnV P w K mg base k p [] n φ :=
  ⟨F.kp, fd, ps, [], [], ok, F.bindsN hb, .nil, fun _ => .nil⟩
end
end Dn

/-! Dn15: texts' methods; instances in the making; calls of classes and methods. -/
namespace Dn
open PySem PySem.Spec PyProof.Rows L2

section
variable {X : Cx} {E : XK} {pos ppos apos : Pos} {a b c e o : Expr} {es : List Expr} {f g h : Sto → Res D} {fa : Sto → Res (List D)} {fl : Sto → Res (Bool × List D)}
/-! ### texts -/
@[simp] def strsD : List D → Option (List Str)
  | [] => some []
  | .str x :: ds => (strsD ds).map (x :: ·)
  | _ :: _ => none
theorem strsD_ok {K : PySem.W.Frag} {F : Hp} : ∀ {xs : List V} {ds : List D} {ns : List Str}, Reps K F xs ds → strsD ds = some ns → xs = ns.map V.str
  | _, _, _, .nil, e => by
    cases e
    rfl
  | _, _, _, .cons r rs, e => by
    cases r with
    | str i =>
      obtain ⟨ms, em, e⟩ := Option.map_eq_some_iff.mp e
      subst e
      rw [strsD_ok rs em]
      rfl
    | _ => cases e
@[simp] theorem strsD_map (ns : List Str) : strsD (ns.map D.str) = some ns := by
  induction ns with
  | nil => rfl
  | cons n ns ih => show (strsD (ns.map D.str)).map (n :: ·) = _; rw [ih]; rfl
/-- a.join(ys) -/
@[simp] def oJoin (a : Str) (ds : List D) : Option D := (strsD ds).bind fun ys => if (ys.map (·.length)).sum + ys.length * a.length ≤ 16777216 then some (.str (Txt.join a ys)) else none
@[simp] def asStr : D → Res Str
  | .str a => .ok a
  | _ => .no
theorem asStr_fine {E : XK} {K : PySem.W.Frag} {Hin : Hp} {x : D} (h : Fine E K Hin (asStr x)) : ∃ a, x = .str a := by
  cases x with
  | str a => exact ⟨a, rfl⟩
  | _ => exact absurd rfl h.hn
@[simp] def dJoin (f : Sto → Res D) (fl : Sto → Res (Bool × List D)) : Sto → Res D := fun δ => (f δ).bind fun x => (asStr x).bind fun a => (fl δ).bind fun y => Res.opt (oJoin a y.2)
theorem de_join (ho : DE X E o f) (he : DL X E e fl) (hs : starEach [e] X.env = [(false, eval e X.env)] := by rfl) (hbase : attributeBase o "join" X.env (eval o X.env) = eval o X.env := by rfl) (hline : (apos.endLine == pos.line) = true := by rfl) :
    DE X E (.Call (.Attribute o "join" apos) [e] [] pos) (dJoin f fl) := by
  refine PE.imp (pe_join ho he hs hbase hline) fun σ H Q w => ?_
  obtain ⟨Hin, Fin, F, δ, st, fi, k⟩ := w
  unfold tM1
  refine tD.mk st fi.left fun v F1 H1 x ex t st1 rv => ?_
  have fi0 := fi.right ex
  obtain ⟨z, rfl⟩ := asStr_fine fi0.left
  have fi1 := fi0.right (show asStr (.str z) = .ok z from rfl)
  cases rv
  refine ⟨⟨z, rfl⟩, ?_⟩
  refine tDL.mk st1 fi1.left fun p xs F2 H2 bb ds ed t2 st2 sq hr => ?_
  obtain ⟨d, edd⟩ := (fi1.right ed).opt
  have e1 : dJoin f fl δ = .ok d := by
    show (f δ).bind _ = _
    rw [ex]
    show (fl δ).bind _ = _
    rw [ed]
    show Res.opt (oJoin z ds) = _
    rw [edd]
    rfl
  obtain ⟨ys, ey, edd⟩ := Option.bind_eq_some_iff.mp edd
  have exs := strsD_ok hr ey
  subst exs
  by_cases hz : (ys.map (·.length)).sum + ys.length * z.length ≤ 16777216
  · rw [if_pos hz] at edd
    cases edd
    refine ⟨z, p, ys, rfl, rfl, ?_, hz, k _ F2 H2 _ e1 (t.trans t2) (.str _)⟩
    cases bb with
    | true => exact .inr (sqT_mono st2.sub (show SqT X.K F2 p _ from sq))
    | false => exact .inl (.inl (.inl sq))
  · rw [if_neg hz] at edd
    cases edd
/-- a.split(b) -/
theorem reps_strs {K : PySem.W.Frag} {F : Hp} : ∀ ns : List Str, Reps K F (ns.map V.str) (ns.map D.str)
  | [] => .nil
  | n :: ns => .cons (.str n) (reps_strs ns)
@[simp] def dSplit (f g : Sto → Res D) : Sto → Res (List D) := fun δ => (f δ).bind fun x => (asStr x).bind fun a => (g δ).bind fun y => (asStr y).bind fun b => if (b.length == 0) = false ∧ a.length + 2 ≤ sizeLine then .ok ((Txt.split a b).map D.str) else .no
theorem df_split (ho : DE X E o f) (he : DE X E e g) (hs : starEach [e] X.env = [(false, eval e X.env)] := by rfl) (hbase : attributeBase o "split" X.env (eval o X.env) = eval o X.env := by rfl) (hline : (apos.endLine == pos.line) = true := by rfl) :
    DF X E (.Call (.Attribute o "split" apos) [e] [] pos) (dSplit f g) := by
  refine PE.imp (pe_split ho he hs hbase hline) fun σ H Q w => ?_
  obtain ⟨Hin, Fin, F, δ, st, fi, k⟩ := w
  unfold tM1
  refine tD.mk st fi.left fun v F1 H1 x ex t st1 rv => ?_
  have fi0 := fi.right ex
  obtain ⟨z, rfl⟩ := asStr_fine fi0.left
  have fi1 := fi0.right (show asStr (.str z) = .ok z from rfl)
  cases rv
  refine ⟨⟨z, rfl⟩, ?_⟩
  refine tD.mk st1 fi1.left fun v2 F2 H2 y ey t2 st2 rv2 => ?_
  have fi2 := fi1.right ey
  obtain ⟨y, rfl⟩ := asStr_fine fi2.left
  have fi3 := fi2.right (show asStr (.str y) = .ok y from rfl)
  cases rv2
  by_cases hz : (y.length == 0) = false ∧ z.length + 2 ≤ sizeLine
  · have e1 : dSplit f g δ = .ok ((Txt.split z y).map D.str) := by
      show (f δ).bind _ = _
      rw [ex]
      show (g δ).bind _ = _
      rw [ey]
      exact if_pos hz
    refine ⟨z, y, rfl, rfl, hz.1, hz.2, fun p np => ?_⟩
    have t3 : Step F2 H2 F2 (upd H2 p (.lst ((Txt.split z y).map V.str))) := ⟨same_upd np, Same.refl _, fun b o eb => by rw [upd_ne (ne_of_none (st2.sub _ _ eb) np)]; exact st2.sub _ _ eb, fun b o eb n => by rw [n] at eb; cases eb⟩
    exact k p _ F2 _ _ e1 ((t.trans t2).trans t3) upd_same (st2.sub.free np) (t.old.free (t2.old.free np)) (reps_strs _)
  · have fi3 : Fine E X.K Hin (if (y.length == 0) = false ∧ z.length + 2 ≤ sizeLine then .ok ((Txt.split z y).map D.str) else .no) := fi3
    rw [if_neg hz] at fi3
    exact absurd rfl fi3.hn
/-- a.startswith(b) -/
@[simp] def dStarts (f g : Sto → Res D) : Sto → Res D := fun δ => (f δ).bind fun x => (asStr x).bind fun a => (g δ).bind fun y => (asStr y).bind fun b => .ok (.bl (Txt.startswith a b))
theorem de_starts (ho : DE X E o f) (he : DE X E e g) (hs : starEach [e] X.env = [(false, eval e X.env)] := by rfl) (hbase : attributeBase o "startswith" X.env (eval o X.env) = eval o X.env := by rfl) (hline : (apos.endLine == pos.line) = true := by rfl) :
    DE X E (.Call (.Attribute o "startswith" apos) [e] [] pos) (dStarts f g) := by
  refine PE.imp (pe_m1 PySem.F.slot_str_startswith PySem.F.type_str_startswith mt_startswith ho he hs hbase hline) fun σ H Q w => ?_
  obtain ⟨Hin, Fin, F, δ, st, fi, k⟩ := w
  unfold tM1
  refine tD.mk st fi.left fun v F1 H1 x ex t st1 rv => ?_
  have fi0 := fi.right ex
  obtain ⟨z, rfl⟩ := asStr_fine fi0.left
  have fi1 := fi0.right (show asStr (.str z) = .ok z from rfl)
  cases rv
  refine ⟨⟨z, rfl⟩, ?_⟩
  refine tD.mk st1 fi1.left fun v2 F2 H2 y ey t2 st2 rv2 => ?_
  have fi2 := fi1.right ey
  obtain ⟨y, rfl⟩ := asStr_fine fi2.left
  cases rv2
  refine ⟨z, y, rfl, rfl, k _ F2 H2 _ ?_ (t.trans t2) (.bl _)⟩
  show (f δ).bind _ = _
  rw [ex]
  show (g δ).bind _ = _
  rw [ey]
  rfl

/-! ### instances in the making -/
@[simp] def putF2 (f : Str) (d : D) : List Str → List D → List Str × List D
  | n :: ns, x :: ds => if f = n then (n :: ns, d :: ds) else let r := putF2 f d ns ds; (n :: r.1, x :: r.2)
  | _, _ => ([f], [d])
theorem putF_ok {K : PySem.W.Frag} {F : Hp} {f : Str} {v : V} {d : D} (rv : Rep K F v d) : ∀ {fvs : List (Str × V)} {ds : List D}, Reps K F (fvs.map Prod.snd) ds → (putF f v fvs).map Prod.fst = (putF2 f d (fvs.map Prod.fst) ds).1 ∧ Reps K F ((putF f v fvs).map Prod.snd) (putF2 f d (fvs.map Prod.fst) ds).2
  | [], _, r => by
    cases r
    exact ⟨rfl, .cons rv .nil⟩
  | (n, u) :: fvs, _, r => by
    cases r with
    | @cons _ x _ ds r rs =>
      obtain ⟨h1, h2⟩ := putF_ok (f := f) rv rs
      by_cases hf : f = n
      · subst hf
        have e1 : putF f v ((f, u) :: fvs) = (f, v) :: fvs := by simp [putF]
        have e2 : putF2 f d (((f, u) :: fvs).map Prod.fst) (x :: ds) = (f :: fvs.map Prod.fst, d :: ds) := by simp [putF2]
        rw [e1, e2]
        exact ⟨rfl, .cons rv rs⟩
      · have e1 : putF f v ((n, u) :: fvs) = (n, u) :: putF f v fvs := by
          have : ¬ n = f := fun z => hf z.symm
          simp [putF, hf, this]
        have e2 : putF2 f d (((n, u) :: fvs).map Prod.fst) (x :: ds) = (n :: (putF2 f d (fvs.map Prod.fst) ds).1, x :: (putF2 f d (fvs.map Prod.fst) ds).2) := by simp [putF2, hf]
        rw [e1, e2]
        exact ⟨congrArg (n :: ·) h1, .cons r h2⟩
end
end Dn

/-! Dn16: __init__, calls of classes and methods. -/
namespace Dn
open PySem PySem.Spec PyProof.Rows L2

/-- an own instance is written -/
theorem StL.wrOb {K : PySem.W.Frag} {Hin Fin F : Hp} {σ : L2.St} {H : Hp} {δ : Sto} {i : Nat} {q C dx : Addr} {ns ns' : List Str} {ds ds' : List D} {fvs : List (Str × V)} (x : StL K Hin Fin F σ H δ) (hi : δ[i]? = some (.ob q C ns ds)) (hs : σ[i]? = some (some (.ref q)))
    (en : fvs.map Prod.fst = ns') (r : Reps K F (fvs.map Prod.snd) ds') : StL K Hin Fin F σ (upd H q (.ins C dx fvs)) (δ.set i (.ob q C ns' ds')) := by
  obtain ⟨q', dx0, fvs0, e, hq, nF, ni, _⟩ := x.cell i _ hi
  rw [hs] at e
  have e := V.ref.inj (Option.some.inj (Option.some.inj e))
  subst e
  have li : i < δ.length := (List.getElem?_eq_some_iff.mp hi).1
  have far : ∀ (j : Nat) (cj : Cell) (a' : Addr), i ≠ j → δ[j]? = some cj → cj.isOw = true → σ[j]? = some (some (.ref a')) → a' ≠ q := fun j cj a' hj ej o s z => by
    rw [z] at s
    exact hj (x.uniq i j _ cj q hi ej rfl o hs s)
  refine ⟨by simp [x.len], ⟨fun b u eb => ?_, x.st.mono, fun b u eb => ?_, x.st.new⟩, fun j cj ej => ?_, fun j k cj ck a' ej ek oj ok sj sk => ?_, ?_⟩
  · rw [upd_ne (ne_of_none eb ni)]
    exact x.st.old b u eb
  · rw [upd_ne (ne_of_none eb nF)]
    exact x.st.sub b u eb
  · by_cases hj : i = j
    · subst hj
      rw [List.getElem?_set_self li] at ej
      cases ej
      exact ⟨q, dx, fvs, hs, upd_same, nF, ni, ⟨en, rfl⟩, r⟩
    · rw [List.getElem?_set_ne hj] at ej
      have y := x.cell j cj ej
      cases cj with
      | un => trivial
      | va d => exact y
      | ow ds2 =>
        obtain ⟨a2, xs2, e2, h2, n2, ni2, r2⟩ := y
        exact ⟨a2, xs2, e2, by rw [upd_ne (far j _ a2 hj ej rfl e2)]; exact h2, n2, ni2, r2⟩
      | ob b2 C2 ns2 ds2 =>
        obtain ⟨a2, dx2, fvs2, e2, h2, n2, ni2, en2, r2⟩ := y
        exact ⟨a2, dx2, fvs2, e2, by rw [upd_ne (far j _ a2 hj ej rfl e2)]; exact h2, n2, ni2, en2, r2⟩
      | tr n ds2 => trivial
      | al j2 p2 => trivial
  · have same : ∀ (m : Nat) (cm : Cell), (δ.set i (.ob q C ns' ds'))[m]? = some cm → cm.isOw = true → ∃ cm', δ[m]? = some cm' ∧ cm'.isOw = true := fun m cm em om => by
      by_cases hm : i = m
      · subst hm
        exact ⟨_, hi, rfl⟩
      · rw [List.getElem?_set_ne hm] at em
        exact ⟨cm, em, om⟩
    obtain ⟨cj', ej', oj'⟩ := same j cj ej oj
    obtain ⟨ck', ek', ok'⟩ := same k ck ek ok
    exact x.uniq j k cj' ck' a' ej' ek' oj' ok' sj sk
  · obtain ⟨o, ho⟩ := x.own
    have oq := ho.sep i _ q hi rfl hs
    have nq : ∀ a z, o a = some z → a ≠ q := fun a z e w => by
      rw [w, oq] at e
      cases e
    have h2 : Own K Hin F σ (upd H q (.ins C dx fvs)) δ o := ⟨ho.inj, fun a z e => by
      obtain ⟨h1, h2, xs2, h3⟩ := ho.nod a z e
      exact ⟨h1, h2, xs2, by rw [upd_ne (nq a z e)]; exact h3⟩, ho.sep, fun j n ds2 e => by
      obtain ⟨v, h1, h2⟩ := ho.tr j n ds2 e
      exact ⟨v, h1, TrR.mono (Same.refl _) (fun a p e2 ys h => by rw [upd_ne (nq a _ (oS_some.mp e2))]; exact h) (fun _ _ h => h) _ _ _ _ h2⟩, ho.al, ho.bnd⟩
    have h3 := h2.set (i := i) (s := some (.ref q)) (c := .ob q C ns' ds') x.len (fun _ _ z => (nomatch z)) (fun _ _ z => (nomatch z)) (fun _ a z => by cases z; exact oq)
    rw [set_self hs] at h3
    exact ⟨o, h3⟩
section
variable {X : Cx} {E : XK} {pos ppos apos : Pos} {a b c e o value : Expr} {es : List Expr} {f g h : Sto → Res D} {fa : Sto → Res (List D)} {fl : Sto → Res (Bool × List D)}
/-- the own instance at a slot -/
@[simp] def Sto.inst (δ : Sto) (i : Nat) (C : Addr) : Res (Addr × List Str × List D) := match δ[i]? with
  | some (.ob b C' ns ds) => if C' = C then .ok (b, ns, ds) else .no
  | _ => .no
theorem inst_ok {δ : Sto} {i : Nat} {C : Addr} {r : Addr × List Str × List D} (h : δ.inst i C = .ok r) : δ[i]? = some (.ob r.1 C r.2.1 r.2.2) := by
  unfold Sto.inst at h
  split at h
  · rename_i b C' ns ds e
    split at h
    · rename_i hc
      injection h with h
      subst h hc
      exact e
    · cases h
  · cases h
theorem inst_fine {E : XK} {K : PySem.W.Frag} {Hin : Hp} {δ : Sto} {i : Nat} {C : Addr} (h : Fine E K Hin (δ.inst i C)) : ∃ r, δ.inst i C = .ok r := by
  cases q : δ.inst i C with
  | ok r => exact ⟨r, rfl⟩
  | ex x =>
    unfold Sto.inst at q
    split at q
    · split at q <;> cases q
    · cases q
  | no => exact absurd q h.hn
/-- self.f = e -/
@[simp] def dPutf (i : Nat) (C : Addr) (f : Str) (g : Sto → Res D) : Sto → Out := fun δ => (g δ).out fun d => (δ.inst i C).out fun r => if r.2.1.length < 1000 then .nx (δ.set i (.ob r.1 C (putF2 f d r.2.1 r.2.2).1 (putF2 f d r.2.1 r.2.2).2)) else .no
theorem ds_putf {i : Nat} {x f : Str} {xp pos' : Pos} {C : Addr} (hc : Cls X.K C) (hna : NoAttr X.K C f) (he : DE X E value g) (hN : X.N[i]? = some x := by rfl) (hv : Vis X.env.scope x := by first | exact Or.inl rfl | exact Or.inr (Or.inl rfl) | exact Or.inr (Or.inr rfl)) (hd : (x == ("__debug__" : Str)) = false := by decide) (hcd : (x == ("__classdict__" : Str)) = false := by decide)
    (hs : swapsWith value (some (.Attribute (.Name x xp) f pos')) pos.line X.env = pure false := by rfl) : DS X E (.Assign [.Attribute (.Name x xp) f pos'] value pos) (dPutf i C f g) := by
  refine PS.imp (ps_fld (pe_var hN hv hd hcd) he hs) fun D σ H w => ?_
  obtain ⟨Hin, Fin, F, δ, st, fi, en⟩ := w
  refine tD.mk st fi.left fun v F1 H1 d ed t st1 rv => ?_
  have fi1 := fi.right ed
  have en1 := en.right ed
  obtain ⟨⟨q, ns, ds⟩, er⟩ := inst_fine fi1.left
  have fi2 := fi1.right er
  have en2 := en1.right er
  have hi := inst_ok er
  obtain ⟨q', dx, fvs, e1, hq, nF, ni, ⟨en', eq⟩, r⟩ := st1.cell i _ hi
  have eq : q' = q := eq
  subst eq
  have en' : fvs.map Prod.fst = ns := en'
  by_cases hz : ns.length < 1000
  · have en3 : EndsOk X.K Hin Fin F (.nx (δ.set i (.ob q' C (putF2 f d ns ds).1 (putF2 f d ns ds).2))) D := by
      have e3 : (if ns.length < 1000 then Out.nx (δ.set i (.ob q' C (putF2 f d ns ds).1 (putF2 f d ns ds).2)) else .no) = _ := if_pos hz
      rw [← e3]
      exact en2
    obtain ⟨p1, p2⟩ := putF_ok (f := f) rv (fvs := fvs) r
    rw [en'] at p1 p2
    refine ⟨.ref q', e1, q', C, dx, fvs, rfl, hq, hc, hna, by rw [← List.length_map (f := Prod.fst), en']; exact hz, ?_⟩
    exact en3.nx _ σ F1 _ rfl (st1.wrOb hi e1 p1 p2) t.mono
  · exact absurd (if_neg hz) fi2.hn
/-- self.f, read -/
@[simp] def dFldO (i : Nat) (C : Addr) (f : Str) : Sto → Res D := fun δ => (δ.inst i C).bind fun r => Res.opt (fget f r.2.1 r.2.2)
theorem de_fldO {i : Nat} {x f : Str} {xp : Pos} {C : Addr} (hc : Cls X.K C) (hna : NoAttr X.K C f) (hN : X.N[i]? = some x := by rfl) (hv : Vis X.env.scope x := by first | exact Or.inl rfl | exact Or.inr (Or.inl rfl) | exact Or.inr (Or.inr rfl)) (hd : (x == ("__debug__" : Str)) = false := by decide) (hcd : (x == ("__classdict__" : Str)) = false := by decide)
    (hb : attributeBase (.Name x xp) f X.env (eval (.Name x xp) X.env) = eval (.Name x xp) X.env := by rfl) : DE X E (.Attribute (.Name x xp) f pos) (dFldO i C f) := by
  refine PE.imp (pe_fld (pe_var hN hv hd hcd) hb) fun σ H Q w => ?_
  obtain ⟨Hin, Fin, F, δ, st, fi, k⟩ := w
  obtain ⟨⟨q, ns, ds⟩, er⟩ := inst_fine fi.left
  have fi2 := fi.right er
  have hi := inst_ok er
  obtain ⟨q', dx, fvs, e1, hq, nF, ni, ⟨en', eq⟩, r⟩ := st.cell i _ hi
  obtain ⟨z, ez⟩ := fi2.opt
  obtain ⟨u, eu, ru⟩ := fget_ok f en' r ez
  refine ⟨.ref q', e1, q', C, dx, fvs, u, rfl, hq, hc, hna, eu, k u F H z ?_ (Step.refl st.sub) ru⟩
  show (δ.inst i C).bind _ = _
  rw [er]
  show Res.opt (fget f ns ds) = _
  rw [show fget f ns ds = some z from ez]
  rfl
end
/-! ### __init__ -/
def less (H : Hp) (b : Addr) : Hp := fun a => if a = b then none else H a
theorem less_same {H : Hp} {b : Addr} : Same (less H b) H := fun a o e => by
  have e : (if a = b then none else H a) = some o := e
  by_cases h : a = b
  · rw [if_pos h] at e
    cases e
  · rw [if_neg h] at e
    exact e
def spI (K : PySem.W.Frag) (C : Addr) (φ : List D → Res (List Str × List D)) : Sp := fun vs H Q E => ∃ F ds b dx us, vs = .ref b :: us ∧ H b = some (.ins C dx []) ∧ F b = none ∧ Same F H ∧ Reps K F us ds ∧ Fine E K (less H b) (φ ds) ∧
  ∀ ns es fvs dx' F' H', φ ds = .ok (ns, es) → Step F (less H b) F' H' → H' b = some (.ins C dx' fvs) → F' b = none → fvs.map Prod.fst = ns → Reps K F' (fvs.map Prod.snd) es → Q .non H'
structure FnI (P : Program) (w : World) (K : PySem.W.Frag) (mg : Str → Option Value) (base : Heap) (k : Nat) (C f : Addr) (dds : List D) (φ : List D → Res (List Str × List D)) : Prop where
  mkk : Mk K C f
  ok : ∃ fd ps dvs ds, FnOk P w K mg base (CX P w) k f fd ps (spI K C φ) ∧ Binds K fd ps ds ∧ Vals dvs ds ∧ ∀ F, Reps K F dvs dds
section
variable {X : Cx} {E : XK} {pos ppos apos : Pos} {e o : Expr} {es : List Expr} {f g h : Sto → Res D} {fa : Sto → Res (List D)} {φ : List D → Res (List Str × List D)} {ψ : List D → Res D} {k : Nat} {dds : List D} {C p : Addr}
@[simp] def dMake (C : Addr) (φ : List D → Res (List Str × List D)) (dds : List D) (fa : Sto → Res (List D)) : Sto → Res D := fun δ => (fa δ).bind fun xs => (φ (xs ++ dds)).bind fun r => .ok (.obj C r.1 r.2)
theorem de_make {x : Str} (F : FnI X.prog X.w X.K X.mg X.base k C p dds φ) (hr : Room (k + 1) X.A) (hm : X.mg x = some (.ref C)) (tk : Takes X (fun c d _ H => E c d H)) (ha : DA X E (e :: es) fa)
    (hg : Gl X x := by rfl) (hdb : (x == ("__debug__" : Str)) = false := by decide) (he : starEach (e :: es) X.env = (false, eval e X.env) :: starEach es X.env := by rfl) (hpl : (backTo pos (starEach es X.env)).any (·.1) = false := by rfl) :
    DE X E (.Call (.Name x ppos) (e :: es) [] pos) (dMake C φ dds fa) := by
  obtain ⟨fd, ps, dvs, ds, F1, hb, hd, rd⟩ := F.ok
  refine PE.imp (pe_make F.mkk F1 hr hg hm hb hd (passes_call tk fun _ _ _ _ h => h) ha hdb he hpl) fun σ H Q w => ?_
  obtain ⟨Hin, Fin, F, δ, st, fi, q⟩ := w
  unfold tMake
  refine tDA.mk st fi.left fun us F2 H2 xs exs t2 st2 rs => ?_
  intro x dx nx ndx hne
  have fi2 := fi.right exs
  have s1 : Same H2 (less (upd (upd H2 dx (.own x)) x (.ins C dx [])) x) := fun b o eb => by
    have hb : b ≠ x := ne_of_none eb nx
    show (if b = x then none else (upd (upd H2 dx (.own x)) x (.ins C dx [])) b) = some o
    rw [if_neg hb, upd_ne hb, upd_ne (ne_of_none eb ndx)]
    exact eb
  refine ⟨F2, xs ++ dds, x, dx, us ++ dvs, rfl, upd_same, st2.sub.free nx, (st2.sub.trans s1).trans less_same, rs.append (rd F2), (fi2.left).mono (st2.st.old.trans s1), fun ns es' fvs dx' F' H' ed t3 hx nF' en r => ⟨rfl, ?_⟩⟩
  have t4 : Step F2 H2 (upd F' x (.ins C dx' fvs)) H' := by
    refine ⟨s1.trans t3.old, fun b u eb => ?_, fun b u eb => ?_, fun b u eb nb => ?_⟩
    · rw [upd_ne (ne_of_none (t3.mono _ _ eb) nF')]
      exact t3.mono _ _ eb
    · by_cases hb : b = x
      · subst hb
        rw [upd_same] at eb
        cases eb
        exact hx
      · rw [upd_ne hb] at eb
        exact t3.sub _ _ eb
    · by_cases hb : b = x
      · subst hb
        exact nx
      · rw [upd_ne hb] at eb
        exact s1.free (t3.new b u eb nb)
  refine q (.ref x) _ H' (.obj C ns es') ?_ (t2.trans t4) (.obj upd_same en (r.mono (same_upd nF')))
  show (fa δ).bind _ = _
  rw [exs]
  show (φ (xs ++ dds)).bind _ = _
  rw [ed]
  rfl
/-- o.m(..) -/
@[simp] def dMeth (C : Addr) (m : Str) (ψ : List D → Res D) (dds : List D) (g : Sto → Res D) (fa : Sto → Res (List D)) : Sto → Res D := fun δ => (g δ).bind fun x => (match x with
  | .obj C' ns ds => if C' = C ∧ fget m ns ds = none then Res.ok () else .no
  | _ => .no).bind fun _ => (fa δ).bind fun xs => ψ (x :: (xs ++ dds))
theorem fget_no {m : Str} {K : PySem.W.Frag} {F : Hp} : ∀ {fvs : List (Str × V)} {ds : List D}, Reps K F (fvs.map Prod.snd) ds → fget m (fvs.map Prod.fst) ds = none → fvs.lookup m = none
  | [], _, _, _ => rfl
  | (n, v) :: fvs, _, r, h => by
    cases r with
    | @cons _ x _ ds r rs =>
      have h : (if m = n then some x else fget m (fvs.map Prod.fst) ds) = none := h
      by_cases hn : m = n
      · rw [if_pos hn] at h
        cases h
      · rw [if_neg hn] at h
        rw [List.lookup, beq_false_of_ne hn]
        exact fget_no rs h
theorem de_meth {m : Str} {pl : Sem Bool} (hc : Cls X.K C) (hme : Meth X.K C m p) (F : FnC X.prog X.w X.K X.mg X.base k p dds ψ) (hr : Room k X.A) (tk : Takes X (fun c d _ H => E c d H)) (ho : DE X E o g) (ha : DA X E (e :: es) fa)
    (hst : starEach (e :: es) X.env = (false, eval e X.env) :: starEach es X.env := by rfl) (hpl : (backTo pos (starEach es X.env)).any (·.1) = false := by rfl)
    (ht : eval (.Call (.Attribute o m apos) (e :: es) [] pos) X.env = (do
      let ov ← eval o X.env
      standAt apos.atName
      let (f, first) ← holding [ov] (getMethod ov m pl)
      callWith pos f first (backTo pos (starEach (e :: es) X.env)) (backToKw pos (keywordEach [] X.env))) := by rfl) : DE X E (.Call (.Attribute o m apos) (e :: es) [] pos) (dMeth C m ψ dds g fa) := by
  obtain ⟨fd, ps, dvs, ds, F1, hb, hd, rd⟩ := F.ok
  refine PE.imp (pe_meth (pl := pl) ho hc hme F1 hr hb hd (passes_call tk fun _ _ _ _ h => h) ha hst hpl ht) fun σ H Q w => ?_
  obtain ⟨Hin, Fin, F, δ, st, fi, q⟩ := w
  unfold tMeth
  refine tD.mk st fi.left fun v F2 H2 x ex t2 st2 rv => ?_
  have fi2 := fi.right ex
  cases rv with
  | @obj l C' dx fvs ns ds2 hs hn hr2 =>
    have fi2 : Fine E X.K Hin ((if C' = C ∧ fget m ns ds2 = none then Res.ok () else .no).bind fun _ => (fa δ).bind fun xs => ψ (.obj C' ns ds2 :: (xs ++ dds))) := fi2
    by_cases hC : C' = C ∧ fget m ns ds2 = none
    · rw [if_pos hC] at fi2
      obtain ⟨rfl, hm2⟩ := id hC
      subst hn
      refine ⟨l, dx, fvs, rfl, st2.sub _ _ hs, fget_no hr2 hm2, ?_⟩
      have fi3 : Fine E X.K Hin ((fa δ).bind fun xs => ψ (.obj C' (fvs.map Prod.fst) ds2 :: (xs ++ dds))) := by
        have e := fi.right ex
        have e2 : ((if C' = C' ∧ fget m (fvs.map Prod.fst) ds2 = none then Res.ok () else .no).bind fun _ => (fa δ).bind fun xs => ψ (.obj C' (fvs.map Prod.fst) ds2 :: (xs ++ dds))) = (fa δ).bind fun xs => ψ (.obj C' (fvs.map Prod.fst) ds2 :: (xs ++ dds)) := by
          rw [if_pos hC]
          rfl
        rw [← e2]
        exact e
      refine tDA.mk st2 fi3.left fun us F3 H3 xs exs t3 st3 rs => ?_
      refine ⟨F3, _ :: (xs ++ dds), st3.sub, .cons (.obj (t3.mono _ _ hs) rfl (hr2.mono t3.mono)) (rs.append (rd F3)), (fi3.right exs).mono st3.st.old, fun d v F' H' ed t4 r => ?_⟩
      refine q v F' H' d ?_ ((t2.trans t3).trans t4) r
      show (g δ).bind _ = _
      rw [ex]
      show (if C' = C' ∧ fget m (fvs.map Prod.fst) ds2 = none then Res.ok () else .no).bind _ = _
      rw [if_pos hC]
      show (fa δ).bind _ = _
      rw [exs]
      exact ed
    · rw [if_neg hC] at fi2
      exact absurd rfl fi2.hn
  | _ => exact absurd rfl fi2.hn
end
def finI (b C : Addr) : Out → Res (List Str × List D)
  | .nx δ => match δ[(0 : Nat)]? with
    | some (.ob b' C' ns ds) => if b' = b ∧ C' = C then .ok (ns, ds) else .no
    | _ => .no
  | .ex e => .ex e
  | _ => .no
@[simp] def startI (N : List Str) (b C : Addr) (ds : List D) : Sto := .ob b C [] [] :: (ds.map Cell.va ++ List.replicate (N.length - (ds.length + 1)) .un)
theorem startI_ok {K : PySem.W.Frag} {N : List Str} {vs : List V} {ds : List D} {F H : Hp} {b C dx : Addr} (s : Same F H) (nF : F b = none) (hb : H b = some (.ins C dx [])) (r : Reps K F vs ds) (hl : ds.length + 1 ≤ N.length) : StL K (less H b) F F (L2.start N (.ref b :: vs)) H (startI N b C ds) := by
  have e := r.length
  have e0 : L2.start N (.ref b :: vs) = some (.ref b) :: (vs.map some ++ List.replicate (N.length - (vs.length + 1)) none) := by
    unfold L2.start
    simp
  rw [e0]
  have nb : (less H b) b = none := if_pos rfl
  have no : ∀ (m : Nat) (cm : Cell), (startI N b C ds)[m + 1]? = some cm → cm = .un ∨ ∃ d, cm = .va d := fun m cm h => by
    unfold startI at h
    rw [List.getElem?_cons_succ] at h
    have hm := List.mem_of_getElem? h
    rcases List.mem_append.mp hm with hm | hm
    · obtain ⟨d, _, rfl⟩ := List.mem_map.mp hm
      exact .inr ⟨d, rfl⟩
    · exact .inl (List.mem_replicate.mp hm).2
  have zero : ∀ cm, (startI N b C ds)[0]? = some cm → cm = .ob b C [] [] := fun cm h => by
    unfold startI at h
    cases h
    rfl
  refine ⟨by unfold startI; simp [e], ⟨less_same, Same.refl _, s, fun _ _ x y => by rw [y] at x; cases x⟩, fun i c h => ?_, fun i j ci cj a h1 h2 o1 o2 _ _ => ?_, ⟨fun _ => none, fun _ _ _ z => (nomatch z), fun _ _ z => (nomatch z), fun _ _ _ _ _ _ => rfl, fun j n ds' h => ?_, fun j k p h => ?_, fun j n ds' h => ?_⟩⟩
  · cases i with
    | zero =>
      have := zero c h
      subst this
      exact ⟨b, dx, [], rfl, hb, nF, nb, ⟨rfl, rfl⟩, .nil⟩
    | succ i =>
      unfold startI at h
      rw [List.getElem?_cons_succ] at h ⊢
      by_cases hi : i < ds.length
      · rw [List.getElem?_append_left (by simpa using hi), List.getElem?_map] at h
        cases ed : ds[i]? with
        | none =>
          rw [ed] at h
          cases h
        | some d =>
          rw [ed] at h
          cases h
          obtain ⟨v, ev, rv⟩ := r.get ed
          refine ⟨v, ?_, rv⟩
          rw [List.getElem?_append_left (by simpa [e] using hi), List.getElem?_map, ev]
          rfl
      · rw [List.getElem?_append_right (by simpa using hi), List.getElem?_replicate] at h
        split at h
        · cases h
          trivial
        · cases h
  · cases i with
    | zero => cases j with
      | zero => rfl
      | succ j => rcases no j cj h2 with rfl | ⟨d, rfl⟩ <;> cases o2
    | succ i => rcases no i ci h1 with rfl | ⟨d, rfl⟩ <;> cases o1
  · cases j with
    | zero => cases zero _ h
    | succ j => rcases no j _ h with z | ⟨d, z⟩ <;> cases z
  · cases j with
    | zero => cases zero _ h
    | succ j => rcases no j _ h with z | ⟨d, z⟩ <;> cases z
  · cases j with
    | zero => cases zero _ h
    | succ j => rcases no j _ h with z | ⟨d, z⟩ <;> cases z
section
variable {P : Program} {w : World} {K : PySem.W.Frag} {mg : Str → Option Value} {base : Heap} {x qual : Str} {params : Arguments} {body : List Stmt} {scope : Scope} {dvs : List V} {kws : List (Str × V)} {p C : Addr} {fd : FuncData} {N ps : List Str} {k n : Nat} {φ : List D → Res (List Str × List D)} {g : Sto → Out}
/-- THE RULE for an __init__ -/
theorem fn_okI (F : FunD K x qual params body scope dvs kws p fd) (S : FnScope N ps scope) (har : ∀ ds, φ ds ≠ .no → ds.length + 1 = ps.length)
    (hb : ∀ (cdv : Value) (A : Around) (outer : List Env) (s : Shared) (H : Hp) (E : XK), Room k (A.deeper (envOfC qual scope s.heap.objs.size p cdv)) → DSs (cxOf (CX P w) P w K mg base N qual scope p cdv A outer s H E) E body g)
    (hφ : ∀ b ds, φ ds ≠ .no → finI b C (g (startI N b C ds)) = φ ds) : FnOk P w K mg base (CX P w) (k + 1) p fd ps (spI K C φ) := by
  have pl : ps.length ≤ N.length := by
    have := congrArg List.length S.pre
    rw [List.length_take] at this
    omega
  refine F.ok S (fun vs H Q E h => ?_) (fun cdv A outer s H vs Q E hr h => ?_)
  · obtain ⟨F1, ds, b, dx, us, rfl, hb2, nF, sm, r, fi, q⟩ := h
    rw [List.length_cons, r.length]
    exact har ds fi.hn
  · obtain ⟨F1, ds, b, dx, us, rfl, hb2, nF, sm, r, fi, q⟩ := h
    have e := hφ b ds fi.hn
    have hl : ds.length + 1 ≤ N.length := by rw [har ds fi.hn]; exact pl
    refine ⟨_, hb cdv A outer s H E hr, less H b, F1, F1, startI N b C ds, startI_ok sm nF hb2 r hl, ⟨fun y ey => ?_, fun en => ?_⟩, ⟨fun δ' σ' F' H' en st' m => ?_, fun d v F' H' en t rv => ?_, fun δ' σ' F' H' en st' m => ?_, fun δ' σ' F' H' en st' m => ?_, fun n' ds' v F' H' q' en t rv => ?_⟩⟩
    · rw [ey] at e
      exact fi.hx y e.symm
    · rw [en] at e
      exact fi.hn e.symm
    · rw [en] at e
      cases z : δ'[(0 : Nat)]? with
      | none =>
        have e : (match δ'[(0 : Nat)]? with | some (.ob b' C' ns ds) => if b' = b ∧ C' = C then Res.ok (ns, ds) else .no | _ => .no) = φ ds := e
        rw [z] at e
        exact absurd e.symm fi.hn
      | some cl =>
        have e : (match δ'[(0 : Nat)]? with | some (.ob b' C' ns ds) => if b' = b ∧ C' = C then Res.ok (ns, ds) else .no | _ => .no) = φ ds := e
        rw [z] at e
        cases cl with
        | ob b' C' ns ds' =>
          have e9 : (if b' = b ∧ C' = C then Res.ok (ns, ds') else .no) = φ ds := e
          by_cases hc : b' = b ∧ C' = C
          · rw [if_pos hc] at e9
            obtain ⟨rfl, rfl⟩ := hc
            obtain ⟨a, dx', fvs, e1, h1, n1, _, ⟨en1, ea⟩, r1⟩ := st'.cell 0 _ z
            subst ea
            exact q ns ds' fvs dx' F' H' e9.symm st'.st h1 n1 en1 r1
          · rw [if_neg hc] at e9
            exact absurd e9.symm fi.hn
        | _ => exact absurd e.symm fi.hn
    · rw [en] at e
      exact absurd e.symm fi.hn
    · rw [en] at e
      exact absurd e.symm fi.hn
    · rw [en] at e
      exact absurd e.symm fi.hn
    · rw [en] at e
      exact absurd e.symm fi.hn
end
end Dn

/-! Dn17: == and != of instances with the text's own __eq__. -/
namespace Dn
open PySem PySem.Spec PyProof.Rows L2
section
variable {prog : Program} {w : World} {A : Around} {E : Value → Shared → Prop} {s : Shared} {K : PySem.W.Frag} {x y C f : Addr} {ox oy : Obj} {od od' : Option Obj}
/-- what K holds of a class with an own __eq__ and no __ne__ -/
structure NeOk (K : PySem.W.Frag) (C : Addr) : Prop where
  ne : PySem.W.findIn K (.ref C) "__ne__" = some (some (.builtin "object.__ne__"))
  mro : PySem.W.subIn K (.ref C) (.type "object") = some true
theorem ne_own {Q : Value → Shared → Prop} (X : K.In s.heap) (N : NeOk K C) (I : PySem.W.InstAt s.heap x ox C od) (J : PySem.W.InstAt s.heap y oy C od') (hu : A.units + 1 < cLine)
    (heq : PySem.W.findIn K (.ref C) "__eq__" = some (some (.ref f))) (hf : PySem.W.isFn K (.ref f) = true)
    (h : wpAny (model prog w) A.in1 (call (.ref f) [.ref x, .ref y]) (fun v s' => ∃ b, v = .bool b ∧ Q (.bool (!b)) s') E s) : wpAny (model prog w) A (compareOp .NotEq (.ref x) (.ref y)) Q E s := by
  -- object.__ne__ itself
  have body : wpAny (model prog w) A.in1 (Builtin.«object.__ne__» ⟨[.ref x, .ref y], []⟩) (fun r s' => ∃ b, r = .done (.ret (.bool (!b))) ∧ Q (.bool (!b)) s') E s := by
    unfold Builtin.«object.__ne__»
    have hin : A.in1.units < cLine := hu
    have hc : wpAny (model prog w) A.in1 (callSpecialIfBound? (.ref x) (Str.ofString "__eq__") [.ref y]) (fun v s' => ∃ b, v = some (.bool b) ∧ Q (.bool (!b)) s') E s :=
      PySem.W.ifBound_K X I heq hf (wpAny_mono h (fun v s' z => let ⟨b, e, q⟩ := z; ⟨b, congrArg some e, q⟩) fun _ _ e => e)
    repeat (first
      | with_reducible refine wpAny_cRoomFor hin ?_
      | (refine wpAny_bind (m := callSpecialIfBound? (.ref x) (Str.ofString "__eq__") [.ref y]) (wpAny_mono hc (fun v s' z => ?_) fun _ _ e => e)
         obtain ⟨b, rfl, q⟩ := z)
      | exact ⟨_, rfl, q⟩
      | (with_reducible refine wpAny_truthy_bool ?_)
      | wp_step)
  have chk : wpAny (model prog w) A.in1 (checkBuiltinCall "object.__ne__" ⟨[.ref x, .ref y], []⟩) (fun _ s' => s' = s) E s := by
    have ha := F.cmpArgs_ne (.ref x) (.ref y)
    simp only [checkBuiltinCall, F.cmpKind_ne, F.cmpSplit_ne]
    refine wpAny_bind ?_
    have li : PySem.W.Looks (model prog w) s.heap (isInstance (.ref x) (.type "object")) true := by
      unfold isInstance
      exact I.type.andThen (PySem.W.looks_subIn X N.mro)
    refine li.here ?_
    cases hsig : Manifest.signature? "object.__ne__" with
    | none => exact wpAny_pure rfl
    | some sig =>
      simp only [argsOk, hsig] at ha
      have h2 : Bind.checkArgs "object.__ne__" sig ⟨[.ref x, .ref y], []⟩ = pure () := ha
      show wpAny _ _ (Bind.checkArgs "object.__ne__" sig ⟨[.ref x, .ref y], []⟩) _ _ _
      rw [h2]
      exact wpAny_pure rfl
  have calls : wpAny (model prog w) A (call (.builtin "object.__ne__") [.ref x, .ref y]) (fun v s' => ∃ b, v = .bool b ∧ Q (.bool b) s') E s := by
    refine wpAny_call (codeAny_call_builtin F.cmp_object.ne.plain F.cmpEntry_ne (wpAny_mono chk (fun _ s' e => ?_) fun _ _ e => e))
    subst e
    refine wpAny_mono body (fun r s' z => ?_) fun _ _ e => e
    obtain ⟨b, rfl, q⟩ := z
    exact ⟨_, rfl, q⟩
  have spc : wpAny (model prog w) A (callSpecialIfBound? (.ref x) (Str.ofString "__ne__") [.ref y]) (fun v s' => ∃ b, v = some (.bool b) ∧ Q (.bool b) s') E s := by
    have fin : wpAny (model prog w) A (call (.builtin "object.__ne__") ([.ref x] ++ [.ref y]) >>= fun v => pure (some v)) (fun v s' => ∃ b, v = some (.bool b) ∧ Q (.bool b) s') E s := by
      refine wpAny_bind (wpAny_mono calls (fun v s' z => ?_) fun _ _ e => e)
      obtain ⟨b, rfl, q⟩ := z
      exact wpAny_pure ⟨b, rfl, q⟩
    simp only [callSpecialIfBound?, bindSpecialIfBound?]
    refine wpAny_holding (wpAny_bind (wpAny_bind (wpAny_bind (I.type.here ((PySem.W.looks_findIn X N.ne).here ?_)))))
    simp only [F.cmp_object.ne.bind]
    refine wpAny_bind (wpAny_askSetting (wpAny_ite ?_))
    split
    · exact wpAny_bind (wpAny_pure (wpAny_pure fin))
    · exact wpAny_tryCatch (wpAny_bind (wpAny_pure (wpAny_pure fin)))
  unfold compareOp
  show wpAny _ _ (richCompare .NotEq (.ref x) (.ref y)) _ _ _
  unfold richCompare
  simp only [oneThing_ref]
  refine wpAny_holding (wpAny_bind (wpAny_cRoomFor (Nat.lt_of_succ_lt hu) ?_))
  rw [cmpInfo_NotEq]
  refine wpAny_bind (I.type.here (wpAny_bind (J.type.here ?_)))
  rw [show (Value.ref C != Value.ref C) = false from by simp]
  refine wpAny_bind (wpAny_pure ?_)
  simp only [Bool.false_eq_true, if_false]
  unfold tryCompare
  refine wpAny_bind (wpAny_bind (wpAny_mono spc (fun v s' z => ?_) fun _ _ e => e))
  obtain ⟨b, rfl, q⟩ := z
  exact wpAny_pure (wpAny_pure q)
end
section
variable {X : Cx} {E : XK} {k : Nat} {C p : Addr} {φ : List D → Res D}
/-- the two are told equal by the own == -/
def RIns (K : PySem.W.Frag) (φ : List D → Res D) (a b : Addr) (H : Hp) : Prop := ∃ F da db, Same F H ∧ Rep K F (.ref a) da ∧ Rep K F (.ref b) db ∧ φ [da, db] = .ok (.bl true)
theorem fn_eq {P : Program} {w : World} {K : PySem.W.Frag} {mg : Str → Option Value} {base : Heap} {fd : FuncData} {ps : List Str} (F : FnOk P w K mg base (CX P w) k p fd ps (spD K φ)) : FnOk P w K mg base (CX P w) k p fd ps (spEq (RIns K φ)) :=
  F.imp fun vs H Q E h => by
    obtain ⟨a, b, rfl, ⟨F0, da, db, s, ra, rb, e⟩, q⟩ := h
    refine ⟨F0, [da, db], s, .cons ra (.cons rb .nil), ⟨fun x z => (by rw [e] at z; cases z), fun z => (by rw [e] at z; cases z)⟩, fun d v F' H' ed t rv => ?_⟩
    rw [e] at ed
    cases ed
    cases rv
    exact q H' t.old
/-- what is known of a class for == and != -/
structure EqC (P : Program) (w : World) (K : PySem.W.Frag) (mg : Str → Option Value) (base : Heap) (k : Nat) (C f : Addr) (φ : List D → Res D) : Prop where
  fn : FnC P w K mg base k f [] φ
  eq : PySem.W.findIn K (.ref C) "__eq__" = some (some (.ref f))
  isf : PySem.W.isFn K (.ref f) = true
def oEqI (C : Addr) (φ : List D → Res D) : D → D → Option D
  | .obj C1 n1 d1, .obj C2 n2 d2 => if C1 = C ∧ C2 = C then (match φ [.obj C1 n1 d1, .obj C2 n2 d2] with
      | .ok (.bl true) => some (.bl true)
      | _ => none) else none
  | _, _ => none
theorem oEqI_ok {x y d : D} (h : oEqI C φ x y = some d) : (∃ n1 d1, x = .obj C n1 d1) ∧ (∃ n2 d2, y = .obj C n2 d2) ∧ φ [x, y] = .ok (.bl true) ∧ d = .bl true := by
  cases x with
  | obj C1 n1 d1 => cases y with
    | obj C2 n2 d2 =>
      have h2 : (if C1 = C ∧ C2 = C then (match φ [.obj C1 n1 d1, .obj C2 n2 d2] with
        | .ok (.bl true) => some (D.bl true)
        | _ => none) else none) = some d := h
      by_cases hc : C1 = C ∧ C2 = C
      · rw [if_pos hc] at h2
        obtain ⟨hc1, hc2⟩ := hc
        rw [hc1, hc2] at h2 ⊢
        split at h2
        · rename_i e
          cases h2
          exact ⟨⟨_, _, rfl⟩, ⟨_, _, rfl⟩, e, rfl⟩
        · cases h2
      · rw [if_neg hc] at h2
        cases h2
    | _ => cases h
  | _ => cases h
theorem dins_of {F H : Hp} {x y : V} {dx dy : D} {n1 n2 : List Str} {d1 d2 : List D} {K : PySem.W.Frag} (s : Same F H) (rx : Rep K F x (.obj C n1 d1)) (ry : Rep K F y (.obj C n2 d2)) (e : φ [.obj C n1 d1, .obj C n2 d2] = .ok (.bl true)) : DIns C (RIns K φ) x y H := by
  cases rx with
  | @obj a _ dxa fs _ _ hs hn hr => cases ry with
    | @obj b _ dyb gs _ _ hs2 hn2 hr2 => exact ⟨a, b, dxa, dyb, fs, gs, rfl, rfl, s _ _ hs, s _ _ hs2, F, _, _, s, .obj hs hn hr, .obj hs2 hn2 hr2, e⟩
theorem step_ext {F H H' : Hp} (s : Same F H) (e : Same H H') : Step F H F H' := ⟨e, Same.refl _, s.trans e, fun b o x y => by rw [y] at x; cases x⟩
theorem op_eqI (q : EqC X.prog X.w X.K X.mg X.base k C p φ) (hr : Room k X.A) (tk : Takes X (fun c d _ H => E c d H)) : OpR X (compareOp .Eq) (rEqG (DIns C (RIns X.K φ))) := by
  obtain ⟨fd, ps, dvs, ds, F1, hb, hd, rd⟩ := q.fn.ok
  have dn : dvs = [] := by
    have := rd (fun _ => none)
    cases this
    rfl
  subst dn
  cases hd
  exact op_eqG (rcG_ins (fn_eq F1) q.eq q.isf hb (passes_call tk fun _ _ _ _ h => h)) hr
theorem does_eqI {K : PySem.W.Frag} : Does2 K (rEqG (DIns C (RIns K φ))) (oEqI C φ) := fun x y dx dy d F H Q s rx ry e kk => by
  obtain ⟨⟨n1, d1, rfl⟩, ⟨n2, d2, rfl⟩, e2, rfl⟩ := oEqI_ok e
  exact ⟨dins_of (dx := .non) (dy := .non) s rx ry e2, fun H' ex => kk _ F H' (step_ext s ex) (.bl _)⟩
def rNeG (D : Eqv) : R2 := fun x y H Q => D x y H ∧ ∀ H', Ext H H' → Q (.bl false) H'
theorem op_neI (q : EqC X.prog X.w X.K X.mg X.base k C p φ) (N : NeOk X.K C) (hr : Room (k + 1) X.A) (tk : Takes X (fun c d _ H => E c d H)) : OpR X (compareOp .NotEq) (rNeG (DIns C (RIns X.K φ))) := by
  obtain ⟨fd, ps, dvs, ds, F1, hb, hd, rd⟩ := q.fn.ok
  have dn : dvs = [] := by
    have := rd (fun _ => none)
    cases this
    rfl
  subst dn
  cases hd
  intro pins s σ H x y v u Q I rx ry hq
  obtain ⟨d, hq⟩ := hq
  obtain ⟨a, b, dx, dy, fs, gs, rfl, rfl, ha, hb', hR⟩ := d
  cases rx
  cases ry
  obtain ⟨mA, J, _⟩ := ins_get I.hok ha
  obtain ⟨mB, J', _⟩ := ins_get I.hok hb'
  obtain ⟨od, J, _⟩ := J.look
  obtain ⟨od', J', _⟩ := J'.look
  refine ne_own I.kIn N J J' (by have := hr.un; omega) q.eq q.isf ?_
  have F2 := fn_eq F1
  have hsp : spEq (RIns X.K φ) [.ref a, .ref b] H (fun v H' => v = .bl true ∧ Ext H H') E := ⟨a, b, rfl, hR, fun H' e => ⟨rfl, e⟩⟩
  have hl := F2.len _ _ _ _ hsp
  have e0 : Env0 X.prog X.w X.K X.mg X.base X.A.in1 X.stack s H := I.env0.in1
  refine wpAny_call (codeAny_mono (F2.run X.A.in1 X.stack s H ⟨[.ref a, .ref b], []⟩ [.ref a, .ref b] [.ref a, .ref b] _ E hr.in1 e0 (by
    have := hb s [.ref a, .ref b] I.kIn (by simpa using hl)
    simpa using this) (.cons rfl (.cons rfl .nil)) hsp) fun r s' hz => ?_)
  cases r with
  | error e => exact passes_call tk (fun _ _ _ _ h => h) pins σ H s e s' I hz
  | ok fl =>
    cases fl with
    | ret z =>
      obtain ⟨y, H', I', rz, ez, ex⟩ := I.after hz
      subst ez
      cases rz
      exact ⟨true, rfl, .bl false, H', I', rfl, hq H' ex⟩
    | next => exact False.elim hz
    | brk => exact False.elim hz
    | cont => exact False.elim hz
def oNeI (C : Addr) (φ : List D → Res D) : D → D → Option D := fun x y => (oEqI C φ x y).map fun _ => .bl false
theorem does_neI {K : PySem.W.Frag} : Does2 K (rNeG (DIns C (RIns K φ))) (oNeI C φ) := fun x y dx dy d F H Q s rx ry e kk => by
  obtain ⟨d0, e4, e3⟩ := Option.map_eq_some_iff.mp e
  subst e3
  obtain ⟨⟨n1, d1, rfl⟩, ⟨n2, d2, rfl⟩, e2, rfl⟩ := oEqI_ok e4
  exact ⟨dins_of (dx := .non) (dy := .non) s rx ry e2, fun H' ex => kk _ F H' (step_ext s ex) (.bl _)⟩
end
end Dn

/-! Dn18: a try that nothing leaves. -/
namespace Dn
open PySem PySem.Spec PyProof.Rows L2
section
variable {X : Cx} {E : XK} {pos : Pos} {h₀ : ExceptHandler} {hs : List ExceptHandler} {body : List Stmt} {g : Sto → Out}
@[simp] def dNoEx (g : Sto → Out) : Sto → Out := fun δ => match g δ with
  | .ex _ => .no
  | o => o
theorem ds_tryT (hb : DSs X.nox E0 body g) : DS X E (.Try body (h₀ :: hs) [] [] pos) (dNoEx g) := by
  refine PS.imp (ps_try_thru0 hb) fun D σ H w => ?_
  obtain ⟨Hin, Fin, F, δ, st, fi, en⟩ := w
  unfold dNoEx at fi en
  cases e : g δ with
  | ex x =>
    rw [e] at fi
    exact absurd rfl fi.hn
  | no =>
    rw [e] at fi
    exact absurd rfl fi.hn
  | _ =>
    rw [e] at en
    exact ⟨Hin, Fin, F, δ, st, by rw [e]; exact ⟨fun _ z => (nomatch z), fun z => (nomatch z)⟩, by rw [e]; exact en⟩
end
end Dn
namespace Dn
/-- fuel for a loop that takes a whole number down -/
@[simp] def fuelI (i : Nat) : Sto → Nat := fun δ => match dVar i δ with
  | .ok (.int r) => r.natAbs + 1
  | _ => 0
end Dn
namespace Dn
/-- a def of n parameters -/
def fnD {α : Type} (n : Nat) (f : List D → Res α) : List D → Res α := fun ds => if ds.length = n then f ds else .no
theorem fnD_ar {α : Type} {n : Nat} {f : List D → Res α} {ds : List D} (h : fnD n f ds ≠ .no) : ds.length = n := by
  by_cases hl : ds.length = n
  · exact hl
  · exact absurd (if_neg hl) h
theorem fnD_eq {α : Type} {n : Nat} {f : List D → Res α} {ds : List D} (h : ds.length = n) : fnD n f ds = f ds := if_pos h
theorem fnD_den {α : Type} {n : Nat} {f : List D → Res α} {ds : List D} (h : fnD n f ds ≠ .no) : f ds = fnD n f ds := (fnD_eq (fnD_ar h)).symm
end Dn

set_option maxHeartbeats 1000000
/-! Dn19: zip over a list and a tuple in any mix. -/
namespace Dn
open PySem PySem.Spec PyProof.Rows L2 RZ

/-- a list (t false) or a tuple (t true) -/
def Src (t : Bool) (h : Heap) (l : Addr) (xs : Array Value) : Prop := match t with
  | true => h.IsTuple l xs
  | false => h.IsList l xs
/-- its iterator, ahead of item i -/
def SrcIt (t : Bool) (h : Heap) (it l : Addr) (i : Nat) : Prop := match t with
  | true => h.IsTupleIter it l i
  | false => h.IsListIter it l i
def itCls (t : Bool) : String := match t with
  | true => "tuple_iterator"
  | false => "list_iterator"
section
variable {prog : Program} {w : World} {A : Around} {E : Value → Shared → Prop} {s : Shared} {t u : Bool}
theorem SrcIt.move {h h' : Heap} {it l : Addr} {i : Nat} (x : SrcIt t h it l i) (k : ∀ o, h.get? it = some o → h'.get? it = some o) : SrcIt t h' it l i := by
  cases t with
  | true => exact Heap.IsTupleIter.at (show h.IsTupleIter it l i from x) k
  | false => exact Heap.IsListIter.at (show h.IsListIter it l i from x) k
theorem SrcIt.obj {h : Heap} {it l : Addr} {i : Nat} (x : SrcIt t h it l i) : ∃ o, h.get? it = some o ∧ ∀ v, o.data ≠ .cell v := by
  cases t with
  | true =>
    obtain ⟨o, e, _, d⟩ := (show h.IsTupleIter it l i from x)
    exact ⟨o, e, fun v q => by rw [d] at q; cases q⟩
  | false =>
    obtain ⟨o, e, _, d⟩ := (show h.IsListIter it l i from x)
    exact ⟨o, e, fun v q => by rw [d] at q; cases q⟩
theorem Src.move {h h' : Heap} {d l : Addr} {xs : Array Value} (x : Src t h l xs) (k : Heap.ExtBut d h h') (n : l ≠ d) : Src t h' l xs := by
  cases t with
  | true => exact Heap.IsTuple.extBut (show h.IsTuple l xs from x) k n
  | false => exact Heap.IsList.extBut (show h.IsList l xs from x) k n
theorem nextSrc {it l : Addr} {i : Nat} {items : Array Value} {x : Value} {Q : Value → Shared → Prop} (a : SrcIt t s.heap it l i) (b : Src t s.heap l items) (e : items[i]? = some x)
    (q : ∀ h', SrcIt t h' it l (i + 1) → Heap.SameBut it s.heap h' → Q x { s with heap := h' }) : wpAny (model prog w) A (Builtin.SmallTypes.nextOf (.ref it)) Q E s := by
  cases t with
  | true => exact RZ.nextOf_tuple_item a b e q
  | false => exact wpAny_nextOf_list_item a b e q
theorem endSrc {it l : Addr} {i : Nat} {items : Array Value} {Q : Value → Shared → Prop} (hh : A.handled = none) (a : SrcIt t s.heap it l i) (b : Src t s.heap l items) (e : items[i]? = none)
    (q : ∀ h' x, Heap.ExtBut it s.heap h' → (∃ o, h'.get? x = some o ∧ o.cls = .type "StopIteration") → E (.ref x) { s with heap := h' }) : wpAny (model prog w) A (Builtin.SmallTypes.nextOf (.ref it)) Q E s := by
  cases t with
  | true => exact RZ.nextOf_tuple_end hh a b e q
  | false => exact wpAny_nextOf_list_end hh a b e q
theorem pyNextZip {z TI TO i1 i2 l1 l2 : Addr} {k1 k2 : Nat} {xs ys : Array Value} {x y a b : Value} {Q : Option Value → Shared → Prop} (D : ZipApart z TI TO i1 i2 l1 l2)
    (Z : IsZip s.heap z TI TO .none) (In : IsPair s.heap TI (.ref i1) (.ref i2)) (Out : IsPair s.heap TO a b) (n1 : SrcIt t s.heap i1 l1 k1) (n2 : SrcIt u s.heap i2 l2 k2) (c1 : Src t s.heap l1 xs) (c2 : Src u s.heap l2 ys) (e1 : xs[k1]? = some x) (e2 : ys[k2]? = some y)
    (q : ∀ g, IsZip g z TI TO (rawInt s.heap.objs.size) → IsPair g TO x y → SrcIt t g i1 l1 (k1 + 1) → SrcIt u g i2 l2 (k2 + 1) → IsPair g s.heap.objs.size x y →
      (∀ c o, c ≠ z → c ≠ TO → c ≠ i1 → c ≠ i2 → s.heap.get? c = some o → g.get? c = some o) → Q (some (.ref s.heap.objs.size)) { s with heap := g }) : wpAny (model prog w) A (pyNext (.ref z)) Q E s := by
  have ty : s.TypeIs (.ref z) "zip" := ⟨_, Z, rfl⟩
  have body : wpAny (model prog w) A.in1 (Builtin.«zip.__next__» ⟨[.ref z], []⟩) (fun fin s' => ∃ v, fin = .done (.ret v) ∧ Q (some v) s') (fun _ _ => False) s := by
    show wpAny _ _ (field (.ref z) 2 >>= _) _ _ _
    refine wpAny_bind (wpAny_field Z rfl (x := .bool false) rfl (?_ : wpAny _ _ (field (.ref z) 3 >>= _) _ _ _))
    refine wpAny_bind (wpAny_field Z rfl (x := .ref TI) rfl (wpAny_bind (wpAny_seqItems In rfl (?_ : wpAny _ _ (Builtin.SmallTypes.ownedTupleIsFree (.ref z) >>= _) _ _ _))))
    unfold Builtin.SmallTypes.ownedTupleIsFree
    refine wpAny_bind (wpAny_bind (wpAny_field Z rfl (x := .none) rfl (wpAny_pure ?_)))
    simp only [if_true]
    refine wpAny_bind (wpAny_rule (wpAny_bind (wpAny_field Z rfl (x := .ref TO) rfl (wpAny_bind (wpAny_setField_rec Z (by simp) fun g1 Z1 b1 => ?_)))))
    have Z1 : IsZip g1 z TI TO .ellipsis := Z1
    simp only [List.zipIdx_cons, List.zipIdx_nil, List.forIn_cons, List.forIn_nil]
    have ex1 := b1.extBut
    refine wpAny_bind (wpAny_bind (wpAny_bind (wpAny_onRaise (?_ : wpAny _ _ (Builtin.SmallTypes.nextOf (.ref i1) >>= _) _ _ _))))
    refine wpAny_bind (nextSrc (t := t) (n1.move fun o e => ex1 _ o D.i1z e) (c1.move ex1 D.l1z) e1 fun g2 m1 b2 => wpAny_pure ?_)
    have ex2 := b2.extBut
    have Out2 : IsPair g2 TO a b := ex2 _ _ D.TOi1 (ex1 _ _ D.TOz Out)
    refine wpAny_bind (wpAny_seqItems Out2 rfl (wpAny_bind (wpAny_updateSeq_pair Out2 fun g3 Out3 b3 => wpAny_bind (wpAny_letGo (wpAny_pure ?_)))))
    have Out3 : IsPair g3 TO x b := Out3
    have ex3 := b3.extBut
    refine wpAny_bind (wpAny_bind (wpAny_onRaise (?_ : wpAny _ _ (Builtin.SmallTypes.nextOf (.ref i2) >>= _) _ _ _)))
    refine wpAny_bind (nextSrc (t := u) (n2.move fun o e => ex3 _ o D.TOi2.symm (ex2 _ o D.i12.symm (ex1 _ o D.i2z e))) (((c2.move ex1 D.l2z).move ex2 D.l2i1).move ex3 D.l2TO) e2 fun g4 m2 b4 => wpAny_pure ?_)
    have ex4 := b4.extBut
    have Out4 : IsPair g4 TO x b := ex4 _ _ D.TOi2 Out3
    refine wpAny_bind (wpAny_seqItems Out4 rfl (wpAny_bind (wpAny_updateSeq_pair Out4 fun g5 Out5 b5 => wpAny_bind (wpAny_letGo (wpAny_pure (wpAny_pure ?_))))))
    have Out5 : IsPair g5 TO x y := Out5
    have ex5 := b5.extBut
    have far : ∀ c o, c ≠ z → c ≠ TO → c ≠ i1 → c ≠ i2 → s.heap.get? c = some o → g5.get? c = some o := fun c o cz cT ci1 ci2 e => ex5 _ _ cT (ex4 _ _ ci2 (ex3 _ _ cT (ex2 _ _ ci1 (ex1 _ _ cz e))))
    have Z5 : IsZip g5 z TI TO .ellipsis := ex5 _ _ D.TOz.symm (ex4 _ _ D.i2z.symm (ex3 _ _ D.TOz.symm (ex2 _ _ D.i1z.symm Z1)))
    have sz : g5.objs.size = s.heap.objs.size := by rw [b5.1, b4.1, b3.1, b2.1, b1.1]
    have m1' : SrcIt t g5 i1 l1 (k1 + 1) := m1.move fun o e => ex5 _ o D.TOi1.symm (ex4 _ o D.i12 (ex3 _ o D.TOi1.symm e))
    have m2' : SrcIt u g5 i2 l2 (k2 + 1) := m2.move fun o e => ex5 _ o D.TOi2.symm e
    have zlt : z < g5.objs.size := Heap.lt_size Z5
    refine wpAny_bind (wpAny_seqItems Out5 rfl (wpAny_bind (wpAny_newTuple (?_ : wpAny _ _ (Builtin.SmallTypes.ownedTupleHandOut (.ref z) (.ref g5.objs.size) >>= _) _ _ _))))
    unfold Builtin.SmallTypes.ownedTupleHandOut
    have Z6 : IsZip (g5.push { cls := .type "tuple", data := .seq #[x, y] }) z TI TO .ellipsis := Heap.get?_push_of_some _ Z5
    refine wpAny_bind (wpAny_bind (wpAny_setField_rec Z6 (by simp) fun g7 Z7 b7 => ?_))
    have Z7 : IsZip g7 z TI TO (rawInt g5.objs.size) := Z7
    refine wpAny_setField_rec Z7 (by simp) fun g8 Z8 b8 => ?_
    have Z8 : IsZip g8 z TI TO (rawInt g5.objs.size) := Z8
    have last : ∀ c o, c ≠ z → g5.get? c = some o → g8.get? c = some o := fun c o cz e => b8.extBut _ _ cz (b7.extBut _ _ cz (Heap.get?_push_of_some _ e))
    have New : IsPair g8 g5.objs.size x y := b8.extBut _ _ (Nat.ne_of_gt zlt) (b7.extBut _ _ (Nat.ne_of_gt zlt) (Heap.get?_push_size _ rfl))
    rw [sz] at Z8 New
    refine wpAny_pure ⟨.ref g5.objs.size, rfl, ?_⟩
    rw [sz]
    exact q g8 Z8 (last _ _ D.TOz Out5) (m1'.move fun o e => last _ o D.i1z e) (m2'.move fun o e => last _ o D.i2z e) New fun c o cz cT ci1 ci2 e => last c o cz (far c o cz cT ci1 ci2 e)
  unfold pyNext
  refine wpAny_bind (wpAny_attempt (wpAny_callSpecial?_slot (name := Str.ofString "__next__") ty F.slot_zip_next (wpAny_call_entry F.slot_zip_next ty F.entry_zip_next (wpAny_mono body (fun fin s' hv => ?_) fun _ _ e => e.elim) (F.args_zip_next_1 _))))
  obtain ⟨v, rfl, hv⟩ := hv
  exact ⟨v, rfl, wpAny_pure hv⟩
theorem pyEndZip {z TI TO i1 i2 l1 l2 : Addr} {k1 k2 : Nat} {xs ys : Array Value} {a b : Value} {Q : Option Value → Shared → Prop} (hh : A.handled = none) (D : ZipApart z TI TO i1 i2 l1 l2)
    (Z : IsZip s.heap z TI TO .none) (In : IsPair s.heap TI (.ref i1) (.ref i2)) (Out : IsPair s.heap TO a b) (n1 : SrcIt t s.heap i1 l1 k1) (n2 : SrcIt u s.heap i2 l2 k2) (c1 : Src t s.heap l1 xs) (c2 : Src u s.heap l2 ys) (e : xs[k1]? = none ∨ ys[k2]? = none)
    (q : ∀ g, (∀ c o, c ≠ z → c ≠ TO → c ≠ i1 → c ≠ i2 → s.heap.get? c = some o → g.get? c = some o) → Q none { s with heap := g }) : wpAny (model prog w) A (pyNext (.ref z)) Q E s := by
  have ty : s.TypeIs (.ref z) "zip" := ⟨_, Z, rfl⟩
  have body : wpAny (model prog w) A.in1 (Builtin.«zip.__next__» ⟨[.ref z], []⟩) (fun _ _ => False) (fun v s' => ∃ p g, v = .ref p ∧ s' = { s with heap := g } ∧ (∃ o, g.get? p = some o ∧ o.cls = .type "StopIteration") ∧ Q none { s with heap := g }) s := by
    show wpAny _ _ (field (.ref z) 2 >>= _) _ _ _
    refine wpAny_bind (wpAny_field Z rfl (x := .bool false) rfl (?_ : wpAny _ _ (field (.ref z) 3 >>= _) _ _ _))
    refine wpAny_bind (wpAny_field Z rfl (x := .ref TI) rfl (wpAny_bind (wpAny_seqItems In rfl (?_ : wpAny _ _ (Builtin.SmallTypes.ownedTupleIsFree (.ref z) >>= _) _ _ _))))
    unfold Builtin.SmallTypes.ownedTupleIsFree
    refine wpAny_bind (wpAny_bind (wpAny_field Z rfl (x := .none) rfl (wpAny_pure ?_)))
    simp only [if_true]
    refine wpAny_bind (wpAny_rule (wpAny_bind (wpAny_field Z rfl (x := .ref TO) rfl (wpAny_bind (wpAny_setField_rec Z (by simp) fun g1 Z1 b1 => ?_)))))
    have Z1 : IsZip g1 z TI TO .ellipsis := Z1
    simp only [List.zipIdx_cons, List.zipIdx_nil, List.forIn_cons, List.forIn_nil]
    have ex1 := b1.extBut
    have stop : ∀ {g p}, IsZip g z TI TO .ellipsis → (∀ c o, c ≠ z → c ≠ TO → c ≠ i1 → c ≠ i2 → s.heap.get? c = some o → g.get? c = some o) → (∃ o, g.get? p = some o ∧ o.cls = .type "StopIteration") →
        ∀ {g9}, Heap.SameBut z g g9 → ∃ p' g', Value.ref p = .ref p' ∧ ({ s with heap := g9 } : Shared) = { s with heap := g' } ∧ (∃ o, g'.get? p' = some o ∧ o.cls = .type "StopIteration") ∧ Q none { s with heap := g' } := fun {g p} Zg far st {g9} b9 => by
      obtain ⟨oe, he, hc⟩ := st
      have pz : p ≠ z := fun w => by
        subst w
        rw [Zg] at he
        cases he
        simp at hc
      exact ⟨p, g9, rfl, rfl, ⟨oe, b9.extBut _ _ pz he, hc⟩, q g9 fun c o cz cT ci1 ci2 w => b9.extBut _ _ cz (far c o cz cT ci1 ci2 w)⟩
    refine wpAny_bind (wpAny_bind (wpAny_bind (wpAny_onRaise (?_ : wpAny _ _ (Builtin.SmallTypes.nextOf (.ref i1) >>= _) _ _ _))))
    cases e1 : xs[k1]? with
    | none =>
      refine wpAny_bind (endSrc (t := t) hh (n1.move fun o e => ex1 _ o D.i1z e) (c1.move ex1 D.l1z) e1 fun g2 p b2 st => ?_)
      have Z2 : IsZip g2 z TI TO .ellipsis := b2 _ _ D.i1z.symm Z1
      exact wpAny_setField_rec Z2 (by simp) fun g9 _ b9 => stop Z2 (fun c o cz _ ci1 _ w => b2 _ _ ci1 (ex1 _ _ cz w)) st b9
    | some x =>
      have e2 : ys[k2]? = none := by
        rcases e with w | w
        · rw [e1] at w
          cases w
        · exact w
      refine wpAny_bind (nextSrc (t := t) (n1.move fun o e => ex1 _ o D.i1z e) (c1.move ex1 D.l1z) e1 fun g2 m1 b2 => wpAny_pure ?_)
      have ex2 := b2.extBut
      have Out2 : IsPair g2 TO a b := ex2 _ _ D.TOi1 (ex1 _ _ D.TOz Out)
      refine wpAny_bind (wpAny_seqItems Out2 rfl (wpAny_bind (wpAny_updateSeq_pair Out2 fun g3 Out3 b3 => wpAny_bind (wpAny_letGo (wpAny_pure ?_)))))
      have ex3 := b3.extBut
      refine wpAny_bind (wpAny_bind (wpAny_onRaise (?_ : wpAny _ _ (Builtin.SmallTypes.nextOf (.ref i2) >>= _) _ _ _)))
      refine wpAny_bind (endSrc (t := u) hh (n2.move fun o e => ex3 _ o D.TOi2.symm (ex2 _ o D.i12.symm (ex1 _ o D.i2z e))) (((c2.move ex1 D.l2z).move ex2 D.l2i1).move ex3 D.l2TO) e2 fun g4 p b4 st => ?_)
      have Z4 : IsZip g4 z TI TO .ellipsis := b4 _ _ D.i2z.symm (ex3 _ _ D.TOz.symm (ex2 _ _ D.i1z.symm Z1))
      exact wpAny_setField_rec Z4 (by simp) fun g9 _ b9 => stop Z4 (fun c o cz cT ci1 ci2 w => b4 _ _ ci2 (ex3 _ _ cT (ex2 _ _ ci1 (ex1 _ _ cz w)))) st b9
  unfold pyNext
  refine wpAny_bind (wpAny_attempt (wpAny_callSpecial?_slot (name := Str.ofString "__next__") ty F.slot_zip_next (wpAny_call_entry F.slot_zip_next ty F.entry_zip_next (wpAny_mono body (fun _ _ z => z.elim) fun v s' hv => ?_) (F.args_zip_next_1 _))))
  obtain ⟨p, g, rfl, rfl, ⟨o, ho, hc⟩, hq⟩ := hv
  exact wpAny_bind (wpAny_isInstance (T := "StopIteration") (b := true) ⟨o, ho, hc⟩ isSubtype_stop (wpAny_pure hq))
end
end Dn

set_option maxHeartbeats 1000000
/-! Dn20: zip, walked. -/
namespace Dn
open PySem PySem.Spec PyProof.Rows L2 RZ
/-- the heap behind zip(l1, l2) -/
def zipHeap (t u : Bool) (h : Heap) (l1 l2 : Addr) : Heap :=
  ((((h.push { cls := .type (itCls t), data := .fields #[.ref l1, .int 0 0] }).push { cls := .type (itCls u), data := .fields #[.ref l2, .int 0 0] }).push { cls := .type "tuple", data := .seq #[.ref h.objs.size, .ref (h.objs.size + 1)] }).push { cls := .type "tuple", data := .seq #[.none, .none] }).push
    { cls := .type "zip", data := .fields #[.none, .bool false, .bool false, .ref (h.objs.size + 2), .ref (h.objs.size + 3)] }
theorem zip_made (t u : Bool) (l1 l2 : Addr) (xs ys : Array Value) : Meets (Builtin.«zip.__new__» ⟨[.type "zip", .ref l1, .ref l2], []⟩) (fun _ R s => Src t s.heap l1 xs ∧ Src u s.heap l2 ys ∧ R (.ok (.ret (.ref (s.heap.objs.size + 4)))) { s with heap := zipHeap t u s.heap l1 l2 }) :=
  .of_wp fun prog w A R s h => by
    obtain ⟨hp, g, d, tk, os⟩ := s
    obtain ⟨h1, h2, h⟩ := h
    have hsub := sub_zip
    have z1 : ∀ o, (hp.push o).objs.size = hp.objs.size + 1 := fun o => Heap.size_push ..
    have z2 : ∀ o o', ((hp.push o).push o').objs.size = hp.objs.size + 2 := fun o o' => by rw [Heap.size_push, z1]
    have z3 : ∀ o o' o2, (((hp.push o).push o').push o2).objs.size = hp.objs.size + 3 := fun o o' o2 => by rw [Heap.size_push, z2]
    have z4 : ∀ o o' o2 o3, ((((hp.push o).push o').push o2).push o3).objs.size = hp.objs.size + 4 := fun o o' o2 o3 => by rw [Heap.size_push, z3]
    unfold zipHeap at h
    cases t <;> cases u
    · have H1 : Heap.IsList (Shared.heap ⟨hp, g, d, tk, os⟩) l1 xs := h1
      have H2 : Heap.IsList (Shared.heap ⟨hp.push { cls := .type "list_iterator", data := .fields #[.ref l1, .int 0 0] }, g, d, tk, os⟩) l2 ys := Heap.IsList.push h2 _
      wp_walk using wpAny_pyIter_list H1, wpAny_pyIter_list H2
      refine ⟨_, rfl, ?_⟩
      simp only [z1, z2, z3, z4]
      exact h
    · have H1 : Heap.IsList (Shared.heap ⟨hp, g, d, tk, os⟩) l1 xs := h1
      have H2 : Heap.IsTuple (Shared.heap ⟨hp.push { cls := .type "list_iterator", data := .fields #[.ref l1, .int 0 0] }, g, d, tk, os⟩) l2 ys := Heap.IsTuple.push h2 _
      wp_walk using wpAny_pyIter_list H1, wpAny_pyIter_tuple H2
      refine ⟨_, rfl, ?_⟩
      simp only [z1, z2, z3, z4]
      exact h
    · have H1 : Heap.IsTuple (Shared.heap ⟨hp, g, d, tk, os⟩) l1 xs := h1
      have H2 : Heap.IsList (Shared.heap ⟨hp.push { cls := .type "tuple_iterator", data := .fields #[.ref l1, .int 0 0] }, g, d, tk, os⟩) l2 ys := Heap.IsList.push h2 _
      wp_walk using wpAny_pyIter_tuple H1, wpAny_pyIter_list H2
      refine ⟨_, rfl, ?_⟩
      simp only [z1, z2, z3, z4]
      exact h
    · have H1 : Heap.IsTuple (Shared.heap ⟨hp, g, d, tk, os⟩) l1 xs := h1
      have H2 : Heap.IsTuple (Shared.heap ⟨hp.push { cls := .type "tuple_iterator", data := .fields #[.ref l1, .int 0 0] }, g, d, tk, os⟩) l2 ys := Heap.IsTuple.push h2 _
      wp_walk using wpAny_pyIter_tuple H1, wpAny_pyIter_tuple H2
      refine ⟨_, rfl, ?_⟩
      simp only [z1, z2, z3, z4]
      exact h
section
variable {prog : Program} {w : World} {A : Around} {E : Value → Shared → Prop} {s : Shared} {t u : Bool}
theorem call_zipM {l1 l2 : Addr} {xs ys : Array Value} {Q : Value → Shared → Prop} (h1 : Src t s.heap l1 xs) (h2 : Src u s.heap l2 ys)
    (q : ∀ g, IsZip g (s.heap.objs.size + 4) (s.heap.objs.size + 2) (s.heap.objs.size + 3) .none → IsPair g (s.heap.objs.size + 2) (.ref s.heap.objs.size) (.ref (s.heap.objs.size + 1)) → IsPair g (s.heap.objs.size + 3) .none .none →
      SrcIt t g s.heap.objs.size l1 0 → SrcIt u g (s.heap.objs.size + 1) l2 0 → (∀ c o, s.heap.get? c = some o → g.get? c = some o) → Q (.ref (s.heap.objs.size + 4)) { s with heap := g }) :
    wpAny (model prog w) A (call (.type "zip") [.ref l1, .ref l2]) Q E s := by
  refine callType_new F.called_zip (by decide) (F.typeCall_zip_2 _ _) (F.newCall_zip_2 _ _) (fun obj => F.args_object_init_3 obj _ _) F.entry_zip_new (zip_made t u l1 l2 xs ys) ⟨h1, h2, ?_⟩
  have z1 : ∀ o, (s.heap.push o).objs.size = s.heap.objs.size + 1 := fun o => Heap.size_push ..
  have z2 : ∀ o o', ((s.heap.push o).push o').objs.size = s.heap.objs.size + 2 := fun o o' => by rw [Heap.size_push, z1]
  have z3 : ∀ o o' o2, (((s.heap.push o).push o').push o2).objs.size = s.heap.objs.size + 3 := fun o o' o2 => by rw [Heap.size_push, z2]
  have z4 : ∀ o o' o2 o3, ((((s.heap.push o).push o').push o2).push o3).objs.size = s.heap.objs.size + 4 := fun o o' o2 o3 => by rw [Heap.size_push, z3]
  have up : ∀ {h : Heap} {c : Addr} {o o' : Obj}, h.get? c = some o → (h.push o').get? c = some o := fun e => Heap.get?_push_of_some _ e
  have new : ∀ {h : Heap} {o : Obj} {n : Nat}, h.objs.size = n → Obj.isFreed o = false → (h.push o).get? n = some o := fun e f => by
    rw [← e]
    exact Heap.get?_push_size _ f
  have gz : (zipHeap t u s.heap l1 l2).get? (s.heap.objs.size + 4) = some _ := new (z4 _ _ _ _) rfl
  have g3 : (zipHeap t u s.heap l1 l2).get? (s.heap.objs.size + 3) = some _ := up (new (z3 _ _ _) rfl)
  have g2 : (zipHeap t u s.heap l1 l2).get? (s.heap.objs.size + 2) = some _ := up (up (new (z2 _ _) rfl))
  have g1 : (zipHeap t u s.heap l1 l2).get? (s.heap.objs.size + 1) = some _ := up (up (up (new (z1 _) rfl)))
  have g0 : (zipHeap t u s.heap l1 l2).get? s.heap.objs.size = some _ := up (up (up (up (new rfl rfl))))
  have it1 : SrcIt t (zipHeap t u s.heap l1 l2) s.heap.objs.size l1 0 := by
    cases t with
    | true => exact ⟨_, g0, rfl, rfl⟩
    | false => exact ⟨_, g0, rfl, rfl⟩
  have it2 : SrcIt u (zipHeap t u s.heap l1 l2) (s.heap.objs.size + 1) l2 0 := by
    cases u with
    | true => exact ⟨_, g1, rfl, rfl⟩
    | false => exact ⟨_, g1, rfl, rfl⟩
  exact ⟨⟨_, gz, rfl⟩, q _ gz g2 g3 it1 it2 fun c o e => up (up (up (up (up e))))⟩
end
/-! ### the walk -/
def SqX (K : PySem.W.Frag) (t : Bool) (H : Hp) (a : Addr) (xs : List V) : Prop := match t with
  | true => SqT K H a xs
  | false => SqL K H a xs
theorem SqX.mono {K : PySem.W.Frag} {t : Bool} {H H' : Hp} {a : Addr} {xs : List V} (h : SqX K t H a xs) (e : Same H H') : SqX K t H' a xs := by
  cases t with
  | true => exact sqT_mono e (show SqT K H a xs from h)
  | false => exact e.seq (show SqL K H a xs from h)
theorem sqx_src {X : Cx} {pins : List (Addr × Obj)} {σ : L2.St} {H : Hp} {s : Shared} {t : Bool} {a : Addr} {xs : List V} (I : Inv X pins σ H s) (h : SqX X.K t H a xs) : ∃ its : List Value, Vals xs its ∧ Src t s.heap a its.toArray ∧ a < s.heap.objs.size ∧ xs.length ≤ sizeLine := by
  cases t with
  | true =>
    obtain ⟨its, rv, p, z⟩ := I.tuple (show SqT X.K H a xs from h)
    obtain ⟨o, ho, _⟩ := id p
    exact ⟨its, rv, p, Heap.lt_size ho, z⟩
  | false =>
    obtain ⟨its, rv, p, z⟩ := I.list (show SqL X.K H a xs from h)
    exact ⟨its, rv, p.isList, p.lt, z⟩
theorem sqx_inj {X : Cx} {pins : List (Addr × Obj)} {σ : L2.St} {H : Hp} {s : Shared} {t : Bool} {a : Addr} {xs ys : List V} (I : Inv X pins σ H s) (h1 : SqX X.K t H a xs) (h2 : SqX X.K t H a ys) : xs = ys := by
  cases t with
  | true => exact I.tuple_inj (show SqT X.K H a xs from h1) (show SqT X.K H a ys from h2)
  | false => exact I.list_inj (show SqL X.K H a xs from h1) (show SqL X.K H a ys from h2)
def Itm (K : PySem.W.Frag) (t u : Bool) (a b : Addr) : It :=
  ⟨fun i H => ∃ (xs ys : List V) (x y : V), SqX K t H a xs ∧ SqX K u H b ys ∧ xs[i]? = some x ∧ ys[i]? = some y,
    fun i H v H' => ∃ T x y, v = .ref T ∧ H T = none ∧ H' = upd H T (.tup [x, y]) ∧ (∀ xs, SqX K t H a xs → xs[i]? = some x) ∧ ∀ ys, SqX K u H b ys → ys[i]? = some y,
    fun i H => ∃ xs ys : List V, SqX K t H a xs ∧ SqX K u H b ys ∧ (xs.length ≤ i ∨ ys.length ≤ i)⟩
theorem turn_zipM {P : Program} {w : World} {K : PySem.W.Frag} {t u : Bool} {elts : List Expr} {kk : Nat} {tpos : Pos} {a b z TI TO i1 i2 : Addr} (D : ZipApart z TI TO i1 i2 a b) :
    Turn P w K (.Tuple elts kk tpos) (Itm K t u a b) [z, TI, TO, i1, i2] z (fun i h => IsZip h z TI TO .none ∧ IsPair h TI (.ref i1) (.ref i2) ∧ (∃ x y, IsPair h TO x y) ∧ SrcIt t h i1 a i ∧ SrcIt u h i2 b i) where
  mem := List.mem_cons_self ..
  obj := fun i h st c hc => by
    obtain ⟨Z, In, ⟨x, y, Out⟩, n1, n2⟩ := st
    simp only [List.mem_cons, List.not_mem_nil, or_false] at hc
    rcases hc with rfl | rfl | rfl | rfl | rfl
    · exact ⟨_, Z, fun _ e => (nomatch e)⟩
    · exact ⟨_, In, fun _ e => (nomatch e)⟩
    · exact ⟨_, Out, fun _ e => (nomatch e)⟩
    · exact n1.obj
    · exact n2.obj
  keep := fun i h h' st k => by
    obtain ⟨Z, In, ⟨x, y, Out⟩, n1, n2⟩ := st
    exact ⟨k z (by simp) _ Z, k TI (by simp) _ In, ⟨x, y, k TO (by simp) _ Out⟩, n1.move fun o e => k i1 (by simp) o e, n2.move fun o e => k i2 (by simp) o e⟩
  item := by
    intro X hP hw hK hc i pins s σ H E I hf st hg
    subst hP hw hK
    obtain ⟨Z, In, ⟨x0, y0, Out⟩, n1, n2⟩ := st
    obtain ⟨xs, ys, x, y, q1, q2, hx, hy⟩ := hg
    obtain ⟨its, rv, c1, _, _⟩ := sqx_src I q1
    obtain ⟨jts, rw', c2, _, _⟩ := sqx_src I q2
    obtain ⟨v1, e1, r1⟩ := rv.get hx
    obtain ⟨v2, e2, r2⟩ := rw'.get hy
    have zl : z < s.heap.objs.size := Heap.lt_size Z
    refine pyNextZip D Z In Out n1 n2 c1 c2 (x := v1) (y := v2) (by simpa using e1) (by simpa using e2) fun g Zg Og m1 m2 New far => ?_
    refine ⟨_, rfl, wpAny_letOwnedTupleGo_zip (s := { s with heap := g }) Zg fun g' Zg' sb => ?_⟩
    have off : ∀ c o, c ∉ [z, TI, TO, i1, i2] → s.heap.get? c = some o → g'.get? c = some o := fun c o hb e => by
      simp only [List.mem_cons, List.not_mem_nil, or_false, not_or] at hb
      exact (sb.2 c hb.1).trans (far c o hb.1 hb.2.2.1 hb.2.2.2.1 hb.2.2.2.2 e)
    have newO : ObjOk X.prog X.w (upd H s.heap.objs.size (.tup [x, y])) g' s.heap.objs.size (.tup [x, y]) :=
      ⟨show 2 ≤ sizeLine by decide, [v1, v2], .cons r1 (.cons r2 .nil), _, (sb.2 _ (Nat.ne_of_gt zl)).trans New, rfl, _, rfl⟩
    have I1 : Inv X pins σ (upd H s.heap.objs.size (.tup [x, y])) { s with heap := g' } := I.turnedNew (t' := s.toks) (ch := [z, TI, TO, i1, i2]) off hf (Nat.le_refl _) newO
    refine ⟨.ref s.heap.objs.size, _, I1, rfl, ⟨_, x, y, rfl, I.hok.fresh (Nat.le_refl _), rfl, fun l hl => by rw [sqx_inj I hl q1]; exact hx, fun l hl => by rw [sqx_inj I hl q2]; exact hy⟩, ⟨Zg', (sb.2 _ D.TIz).trans (far _ _ D.TIz D.TITO D.TIi1 D.TIi2 In), ⟨v1, v2, (sb.2 _ D.TOz).trans Og⟩, m1.move fun o e => (sb.2 _ D.i1z).trans e, m2.move fun o e => (sb.2 _ D.i2z).trans e⟩, fun c hcm => ?_⟩
    have lt : c < s.heap.objs.size := by
      have hcm' := hcm
      simp only [List.mem_cons, List.not_mem_nil, or_false] at hcm'
      rcases hcm' with w1 | w1 | w1 | w1 | w1 <;> rw [w1]
      · exact zl
      · exact Heap.lt_size In
      · exact Heap.lt_size Out
      · exact Heap.lt_size n1.obj.choose_spec.1
      · exact Heap.lt_size n2.obj.choose_spec.1
    rw [upd_ne (Nat.ne_of_lt lt)]
    exact (hf c hcm).1
  done := by
    intro X hP hw hK hc i pins s σ H E I hf st hg
    subst hP hw hK
    obtain ⟨Z, In, ⟨x0, y0, Out⟩, n1, n2⟩ := st
    obtain ⟨xs, ys, q1, q2, hend⟩ := hg
    obtain ⟨its, rv, c1, _, _⟩ := sqx_src I q1
    obtain ⟨jts, rw', c2, _, _⟩ := sqx_src I q2
    have l1 := rv.length
    have l2 := rw'.length
    have fin : its.toArray[i]? = none ∨ jts.toArray[i]? = none := by
      rcases hend with w1 | w1
      · left
        simp
        omega
      · right
        simp
        omega
    refine pyEndZip (I.ok.hd hc) D Z In Out n1 n2 c1 c2 fin fun g far => ⟨rfl, I.turnedL (t' := s.toks) (ch := [z, TI, TO, i1, i2]) (fun c o hb e => ?_) hf⟩
    simp only [List.mem_cons, List.not_mem_nil, or_false, not_or] at hb
    exact far c o hb.1 hb.2.2.1 hb.2.2.2.1 hb.2.2.2.2 e
  self := fun A i s Q E st h => wpAny_pyIter_zip st.1 h
def iZipM (K : PySem.W.Frag) (ta : TA) : TI := fun σ H R => ta σ H fun vs H1 => ∃ t u a b xs ys, vs = [.ref a, .ref b] ∧ SqX K t H1 a xs ∧ SqX K u H1 b ys ∧ (xs.length ≤ sizeLine → ys.length ≤ sizeLine → R (Itm K t u a b) H1)
theorem pi_zipM {X : Cx} {e e2 : Expr} {ta : TA} {p pos tpos : Pos} {elts : List Expr} {kk : Nat} (hm : X.mg "zip" = none) (ha : PA X [e, e2] ta) (hg : Gl X "zip" := by rfl)
    (hs : starEach [e, e2] X.env = (false, eval e X.env) :: starEach [e2] X.env := by rfl) (hpl : (backTo pos (starEach [e2] X.env)).any (·.1) = false := by rfl) : PI X (.Tuple elts kk tpos) (.Call (.Name "zip" p) [e, e2] [] pos) (iZipM X.K ta) := by
  refine ⟨fun pins s σ H R I h => ?_⟩
  refine Call_ (ld_blt I hg hm PyProof.Rows.boot_zip (PyProof.Rows.callWith_type1 (thn (ha.run pos pins s σ H _ I h) fun us s1 ⟨vs, H1, I1, r1, q1⟩ => ?_) hs hpl))
  obtain ⟨t, u, a, b, xs, ys, rfl, h1, h2, q⟩ := q1
  obtain ⟨v1, v2, rfl, r1, r2⟩ := vals2 r1
  cases r1
  cases r2
  obtain ⟨its, rv, c1, a1, z1⟩ := sqx_src I1 h1
  obtain ⟨jts, rw', c2, a2, z2⟩ := sqx_src I1 h2
  refine call_zipM c1 c2 fun g Z In Out n1 n2 old => wpAny_pyIter_zip Z ?_
  have I2 : Inv X pins σ H1 { s1 with heap := g } := I1.kept (t' := s1.toks) old
  refine ⟨s1.heap.objs.size + 4, [s1.heap.objs.size + 4, s1.heap.objs.size + 2, s1.heap.objs.size + 3, s1.heap.objs.size, s1.heap.objs.size + 1], _, _, H1, rfl, I2, turn_zipM (PySem.W.ktu_apart s1.heap.objs.size a b a1 a2), ⟨Z, In, ⟨_, _, Out⟩, n1, n2⟩, fun c hcm => ?_, q z1 z2⟩
  have hle : s1.heap.objs.size ≤ c := by
    simp only [List.mem_cons, List.not_mem_nil, or_false] at hcm
    rcases hcm with w1 | w1 | w1 | w1 | w1 <;> rw [w1] <;> omega
  exact I1.fpOk hle (I1.hok.fresh hle)
/-! ### on data -/
@[simp] def seqD : D → Option (List D)
  | .lst ds => some ds
  | .tup ds => some ds
  | .scr ns => some (ns.map D.int)
  | _ => none
@[simp] def zipL : List D → List D → List D
  | x :: xs, y :: ys => .tup [x, y] :: zipL xs ys
  | _, _ => []
@[simp] def zipD : List D → Option (List D)
  | [x, y] => (seqD x).bind fun xs => (seqD y).map fun ys => zipL xs ys
  | _ => none
theorem zipL_get : ∀ (xs ys : List D) (i : Nat), (zipL xs ys)[i]? = match xs[i]?, ys[i]? with
    | some x, some y => some (.tup [x, y])
    | _, _ => none
  | [], ys, i => by simp [zipL]
  | x :: xs, [], i => by
    simp only [zipL, List.getElem?_nil]
    cases (x :: xs)[i]? <;> rfl
  | x :: xs, y :: ys, 0 => rfl
  | x :: xs, y :: ys, i + 1 => by
    have := zipL_get xs ys i
    simpa [zipL] using this
theorem zipL_length : ∀ xs ys : List D, (zipL xs ys).length = min xs.length ys.length
  | [], ys => by simp [zipL]
  | x :: xs, [] => by simp [zipL]
  | x :: xs, y :: ys => by
    have := zipL_length xs ys
    simp only [zipL, List.length_cons, this]
    omega
theorem seqD_rep {K : PySem.W.Frag} {F : Hp} {v : V} {d : D} {ds : List D} (r : Rep K F v d) (e : seqD d = some ds) : ∃ t a xs, v = .ref a ∧ SqX K t F a xs ∧ Reps K F xs ds := by
  cases r with
  | @lst a xs _ hs hr =>
    cases e
    exact ⟨false, a, xs, rfl, .inl (.inl hs), hr⟩
  | @tup a xs _ hs hr =>
    cases e
    exact ⟨true, a, xs, rfl, hs, hr⟩
  | @scr a ns hs =>
    cases e
    exact ⟨false, a, _, rfl, hs, reps_ints ns⟩
  | _ => cases e
theorem itd_zip {K : PySem.W.Frag} {t u : Bool} {a b : Addr} {xs ys : List V} {ds es : List D} {F B : Hp} (B0 : Same F B) (h1 : SqX K t F a xs) (h2 : SqX K u F b ys) (r1 : Reps K F xs ds) (r2 : Reps K F ys es) (z1 : xs.length ≤ sizeLine) : ItD K (Itm K t u a b) B F (zipL ds es) where
  len := by
    rw [zipL_length, ← r1.length]
    omega
  go := fun i H s h => by
    rw [zipL_length, ← r1.length, ← r2.length] at h
    exact ⟨xs, ys, xs[i]'(by omega), ys[i]'(by omega), (h1.mono B0).mono s, (h2.mono B0).mono s, List.getElem?_eq_getElem _, List.getElem?_eq_getElem _⟩
  stop := fun i H s h => by
    rw [zipL_length, ← r1.length, ← r2.length] at h
    exact ⟨xs, ys, (h1.mono B0).mono s, (h2.mono B0).mono s, by omega⟩
  yld := fun i H x H' F2 s m s2 h y => by
    obtain ⟨T, x1, y1, rfl, nT, rfl, k1, k2⟩ := y
    obtain ⟨d1, e1, q1⟩ := r1.getV (k1 xs ((h1.mono B0).mono s))
    obtain ⟨d2, e2, q2⟩ := r2.getV (k2 ys ((h2.mono B0).mono s))
    have t4 := Step.push (o := .tup [x1, y1]) s2 nT
    refine ⟨_, .tup [d1, d2], t4, ?_, .tup (.inl (.inl upd_same)) (.cons ((q1.mono m).mono t4.mono) (.cons ((q2.mono m).mono t4.mono) .nil))⟩
    rw [zipL_get, e1, e2]
theorem di_zip {X : Cx} {E : XK} {e e2 : Expr} {fa : Sto → Res (List D)} {p pos tpos : Pos} {elts : List Expr} {kk : Nat} (hm : X.mg "zip" = none) (ha : DA X E [e, e2] fa) (hg : Gl X "zip" := by rfl)
    (hs : starEach [e, e2] X.env = (false, eval e X.env) :: starEach [e2] X.env := by rfl) (hpl : (backTo pos (starEach [e2] X.env)).any (·.1) = false := by rfl) : DI X E false (.Tuple elts kk tpos) (.Call (.Name "zip" p) [e, e2] [] pos) (dNL zipD fa) :=
  PI.imp (pi_zipM hm ha hg hs hpl) fun σ H R w => by
    obtain ⟨Hin, Fin, F, δ, st, fi, k⟩ := w
    refine tDA.mk st fi.left fun us F2 H2 xs exs t2 st2 rs => ?_
    obtain ⟨ys, ey⟩ := (fi.right exs).opt
    have k1 := fun J it => k J F2 H2 ys (by show (fa δ).bind _ = _; rw [exs]; show Res.opt (zipD xs) = _; rw [ey]; rfl) t2 it
    unfold zipD at ey
    split at ey
    · rename_i d1 d2
      obtain ⟨l1, e1, ey⟩ := Option.bind_eq_some_iff.mp ey
      obtain ⟨l2, e2, ey⟩ := Option.map_eq_some_iff.mp ey
      subst ey
      cases rs with
      | cons r1 rs => cases rs with
        | cons r2 rs =>
          cases rs
          obtain ⟨t, a, vs1, rfl, q1, p1⟩ := seqD_rep r1 e1
          obtain ⟨u, b, vs2, rfl, q2, p2⟩ := seqD_rep r2 e2
          exact ⟨t, u, a, b, vs1, vs2, rfl, q1.mono st2.sub, q2.mono st2.sub, fun z1 z2 => k1 _ (itd_zip (Same.refl _) q1 q2 p1 p2 z1)⟩
    · cases ey
end Dn

/-! Dn21: how to work out denotations. -/
namespace Dn
open PySem PySem.Spec PyProof.Rows L2
section
variable {u : D → Sto → Option Sto} {g : Sto → Out} {p : Sto → Res Bool} {f : Sto → Res D}
/-- a for: R says what stands when these items are left; Q what is wanted of the end -/
theorem dLoop_wp (Q : Out → Prop) (R : List D → Sto → Prop) (hs : ∀ d ds δ, R (d :: ds) δ → ∃ δ1, u d δ = some δ1 ∧ ((∃ δ2, (g δ1 = .nx δ2 ∨ g δ1 = .ct δ2) ∧ R ds δ2) ∨ (∃ δ2, g δ1 = .bk δ2 ∧ Q (.nx δ2)) ∨ ∃ v, g δ1 = .rt v ∧ Q (.rt v))) (hd : ∀ δ, R [] δ → Q (.nx δ)) :
    ∀ (ds : List D) (δ : Sto), R ds δ → Q (dLoop u g ds δ)
  | [], δ, h => hd δ h
  | d :: ds, δ, h => by
    obtain ⟨δ1, e1, h2⟩ := hs d ds δ h
    rw [dLoop_cons, e1]
    show Q (dTurn (g δ1) (dLoop u g ds))
    rcases h2 with ⟨δ2, e2 | e2, h3⟩ | ⟨δ2, e2, h3⟩ | ⟨v, e2, h3⟩ <;> rw [e2]
    · exact dLoop_wp Q R hs hd ds δ2 h3
    · exact dLoop_wp Q R hs hd ds δ2 h3
    · exact h3
    · exact h3
/-- a for that runs to its end -/
theorem dLoop_run (R : List D → Sto → Prop) (hs : ∀ d ds δ, R (d :: ds) δ → ∃ δ1 δ2, u d δ = some δ1 ∧ (g δ1 = .nx δ2 ∨ g δ1 = .ct δ2) ∧ R ds δ2) (ds : List D) (δ : Sto) (h : R ds δ) : ∃ δ', dLoop u g ds δ = .nx δ' ∧ R [] δ' := by
  refine dLoop_wp (fun o => ∃ δ', o = .nx δ' ∧ R [] δ') R (fun d ds δ h => ?_) (fun δ h => ⟨δ, rfl, h⟩) ds δ h
  obtain ⟨δ1, δ2, e1, e2, h2⟩ := hs d ds δ h
  exact ⟨δ1, e1, .inl ⟨δ2, e2, h2⟩⟩
/-- a comprehension without a condition -/
theorem dComp_map (δ : Sto) (k : D → D) : ∀ ds : List D, (∀ d ∈ ds, ∃ δ1, u d δ = some δ1 ∧ p δ1 = .ok true ∧ f δ1 = .ok (k d)) → dComp u p f ds δ = .ok (ds.map k)
  | [], _ => rfl
  | d :: ds, h => by
    obtain ⟨δ1, e1, e2, e3⟩ := h d List.mem_cons_self
    rw [dComp_cons, e1]
    show ((p δ1).noex.bind fun b => if b = true then (f δ1).noex.bind fun y => (dComp u p f ds δ).bind fun ys => .ok (y :: ys) else dComp u p f ds δ) = _
    rw [e2, e3, dComp_map δ k ds fun d hd => h d (List.mem_cons_of_mem _ hd)]
    rfl
/-- the same over whole numbers lo, lo + 1, .. -/
theorem dComp_range (δ : Sto) (lo : Int) (n : Nat) (k : Nat → D) (h : ∀ i < n, ∃ δ1, u (.int (lo + (i : Nat))) δ = some δ1 ∧ p δ1 = .ok true ∧ f δ1 = .ok (k i)) : dComp u p f (rangeD lo n) δ = .ok ((List.range n).map k) := by
  have key : ∀ l : List Nat, (∀ i ∈ l, i < n) → dComp u p f (l.map fun i => D.int (lo + (i : Nat))) δ = .ok (l.map k) := by
    intro l
    induction l with
    | nil => intro _; rfl
    | cons i l ih =>
      intro hl
      obtain ⟨δ1, e1, e2, e3⟩ := h i (hl i List.mem_cons_self)
      rw [List.map_cons, dComp_cons, e1]
      show ((p δ1).noex.bind fun b => if b = true then (f δ1).noex.bind fun y => (dComp u p f (l.map fun i => D.int (lo + (i : Nat))) δ).bind fun ys => .ok (y :: ys) else _) = _
      rw [e2, e3, ih fun i hi => hl i (List.mem_cons_of_mem _ hi)]
      rfl
  exact key (List.range n) fun i hi => List.mem_range.mp hi
/-- a while -/
theorem dWhileN_wp (Q : Out → Prop) (R : Nat → Sto → Prop) (hs : ∀ m δ, R m δ → (p δ = .ok false ∧ Q (.nx δ)) ∨ ∃ k δ2, m = k + 1 ∧ p δ = .ok true ∧ (g δ = .nx δ2 ∨ g δ = .ct δ2) ∧ ∃ k' ≤ k, R k' δ2) :
    ∀ (n m : Nat) (δ : Sto), m < n → R m δ → Q (dWhileN p g n δ)
  | 0, m, δ, h, _ => absurd h (Nat.not_lt_zero _)
  | n + 1, m, δ, hm, h => by
    show Q ((p δ).out fun b => if b = true then dTurn (g δ) (dWhileN p g n) else .nx δ)
    rcases hs m δ h with ⟨e, q⟩ | ⟨k, δ2, rfl, e, e2, k', hk, h2⟩
    · rw [e]
      exact q
    · rw [e]
      show Q (dTurn (g δ) (dWhileN p g n))
      rcases e2 with e2 | e2 <;> rw [e2] <;> exact dWhileN_wp Q R hs n k' δ2 (by omega) h2
end
theorem finO_ex (e : Exc) : finO (.ex e) = .ex e := rfl
@[simp] theorem kit_int_int (K : PySem.W.Frag) : PySem.W.kitOne K (Value.type "int") (Value.type "int") = some true := by kernel_rfl
@[simp] theorem kit_int_bool (K : PySem.W.Frag) : PySem.W.kitOne K (Value.type "int") (Value.type "bool") = some false := by kernel_rfl
@[simp] theorem kit_str_str (K : PySem.W.Frag) : PySem.W.kitOne K (Value.type "str") (Value.type "str") = some true := by kernel_rfl
@[simp] theorem kit_list_lt (K : PySem.W.Frag) : PySem.W.kitAny K (Value.type "list") [Value.type "list", Value.type "tuple"] = some true := by kernel_rfl
@[simp] theorem kit_tuple_lt (K : PySem.W.Frag) : PySem.W.kitAny K (Value.type "tuple") [Value.type "list", Value.type "tuple"] = some true := by kernel_rfl
@[simp] theorem kit_int_lt (K : PySem.W.Frag) : PySem.W.kitAny K (Value.type "int") [Value.type "list", Value.type "tuple"] = some false := by kernel_rfl
@[simp] theorem two_line : (2 ≤ sizeLine) = True := by simp [show 2 ≤ sizeLine by decide]
@[simp] theorem finO_nx (δ : Sto) : finO (.nx δ) = .ok .non := rfl
@[simp] theorem finO_rt (d : D) : finO (.rt d) = .ok d := rfl
@[simp] theorem finV_rtT (n m : Nat) (ds : List D) : finV n (.rtT m ds) = if m + 1 = n then .ok (.lst ds) else .no := rfl
@[simp] theorem oEq_int (i j : Int) : oEq (.int i) (.int j) = some (.bl (decide (i = j))) := rfl
@[simp] theorem oNe_int (i j : Int) : oNe (.int i) (.int j) = some (.bl (!decide (i = j))) := rfl
@[simp] theorem oEq_str (i j : Str) : oEq (.str i) (.str j) = some (.bl (decide (i = j))) := rfl
@[simp] theorem oNe_str (i j : Str) : oNe (.str i) (.str j) = some (.bl (!decide (i = j))) := rfl
end Dn
namespace Dn
open PySem PySem.Spec PyProof.Rows L2
/-- a body's end, told -/
def Ends (o : Out) (r : Res D) : Prop := finO o = r
section
variable {g k : Sto → Out} {p : Sto → Res Bool} {δ δ' : Sto} {r : Res D} {v : D}
theorem Ends.seq (h : g δ = .nx δ') (h2 : Ends (k δ') r) : Ends (dSeq g k δ) r := by
  show finO ((g δ).seq k) = r
  rw [h]
  exact h2
theorem Ends.stop (h : g δ = .rt v) (h2 : r = .ok v) : Ends (dSeq g k δ) r := by
  show finO ((g δ).seq k) = r
  rw [h, h2]
  rfl
theorem Ends.ret {f : Sto → Res D} (h : f δ = r) (h2 : ∃ v, r = .ok v) : Ends (dRet f δ) r := by
  obtain ⟨v, rfl⟩ := h2
  show finO ((f δ).out _) = _
  rw [h]
  rfl
theorem seq_nx (h : g δ = .nx δ') : dSeq g k δ = k δ' := by
  show (g δ).seq k = _
  rw [h]
  rfl
theorem if_t {q : Sto → Out} (h : p δ = .ok true) : dIf p g q δ = g δ := by
  show (p δ).out _ = _
  rw [h]
  rfl
theorem if_f {q : Sto → Out} (h : p δ = .ok false) : dIf p g q δ = q δ := by
  show (p δ).out _ = _
  rw [h]
  rfl
theorem for_eq {fa : Sto → Res (List D)} {u : D → Sto → Option Sto} {ds : List D} (h : fa δ = .ok ds) : dFor fa u g δ = dLoop u g ds δ := by
  show (fa δ).out _ = _
  rw [h]
  rfl
end
theorem set_eq {i : Nat} {f : Sto → Res D} {δ : Sto} {d : D} (h : f δ = .ok d) : dSet i f δ = .nx (δ.set i (.va d)) := by
  show (f δ).out _ = _
  rw [h]
  rfl
end Dn
namespace Dn
open PySem PySem.Spec PyProof.Rows L2
section
variable {u : D → Sto → Option Sto} {g : Sto → Out}
/-- a for over lo, lo + 1, ..: R says what stands ahead of turn i -/
theorem dRange_wp (Q : Out → Prop) (lo : Int) (n : Nat) (R : Nat → Sto → Prop)
    (hs : ∀ i < n, ∀ δ, R i δ → ∃ δ1, u (.int (lo + (i : Nat))) δ = some δ1 ∧ ((∃ δ2, (g δ1 = .nx δ2 ∨ g δ1 = .ct δ2) ∧ R (i + 1) δ2) ∨ (∃ δ2, g δ1 = .bk δ2 ∧ Q (.nx δ2)) ∨ ∃ v, g δ1 = .rt v ∧ Q (.rt v)))
    (hd : ∀ δ, R n δ → Q (.nx δ)) (δ : Sto) (h : R 0 δ) : Q (dLoop u g (rangeD lo n) δ) := by
  refine dLoop_wp Q (fun ds δ => ∃ i ≤ n, ds = (rangeD lo n).drop i ∧ R i δ) ?_ ?_ _ _ ⟨0, Nat.zero_le _, by simp, h⟩
  · rintro d ds δ ⟨i, hi, e, r⟩
    have hlt : i < n := by
      rcases Nat.lt_or_ge i n with w | w
      · exact w
      · rw [List.drop_eq_nil_of_le (by rw [rangeD_length]; exact w)] at e
        cases e
    have e2 : (rangeD lo n).drop i = .int (lo + (i : Nat)) :: (rangeD lo n).drop (i + 1) := by
      have hl : i < (rangeD lo n).length := by rw [rangeD_length]; exact hlt
      rw [List.drop_eq_getElem_cons hl]
      have := rangeD_get (lo := lo) hlt
      rw [List.getElem?_eq_getElem hl] at this
      rw [Option.some.inj this]
    rw [e2] at e
    cases e
    obtain ⟨δ1, e1, h2⟩ := hs i hlt δ r
    refine ⟨δ1, e1, ?_⟩
    rcases h2 with ⟨δ2, e3, r2⟩ | h2
    · exact .inl ⟨δ2, e3, i + 1, hlt, rfl, r2⟩
    · exact .inr h2
  · rintro δ ⟨i, hi, e, r⟩
    have : i = n := by
      have := congrArg List.length e
      rw [List.length_drop, rangeD_length] at this
      simp at this
      omega
    subst this
    exact hd δ r
end
@[simp] theorem rng1_nat (n : Nat) (h : n ≤ sizeLine) : rng1 [.int (n : Nat)] = some (rangeD 0 n) := by
  have : Rng1 (n : Nat) := ⟨by omega⟩
  simp only [rng1]
  rw [if_pos this]
  rfl
theorem rng2_nat (i j : Nat) (h : j ≤ sizeLine) (hi : i ≤ j) : rng2 [.int (i : Nat), .int (j : Nat)] = some (rangeD i (j - i)) := by
  have hz : (sizeLine : Int) < 2 ^ 62 := by decide
  have : Rng2 (i : Nat) (j : Nat) := ⟨by omega⟩
  simp only [rng2]
  rw [if_pos this]
  congr 2
  omega
/-- an index within -/
theorem ixN_in {n i : Nat} (h : i < n) : ixN n (i : Int) = some i := Evl.ixN_nat h
theorem atI_in {α : Type} {ds : List α} {i : Nat} {d : α} (h : ds[i]? = some d) : atI ds (i : Int) = some d := by
  unfold atI
  rw [Evl.ixN_nat (List.getElem?_eq_some_iff.mp h).1]
  exact h
end Dn

/-! Dn22: repr of plain data, where nothing is being shown yet; a law's call from there. -/
namespace Dn
open PySem PySem.Spec PyProof.Rows L2
/-- repr(x), x plain data -/
def rShow (K : PySem.W.Frag) : List V → Hp → VK → Prop := fun xs H Q => ∃ a d, xs = [.ref a] ∧ Dp K H (.ref a) d ∧ d.showable = true ∧ d.hasDict = false ∧ d.depth ≤ 64 ∧ d.shown.length ≤ sizeLine ∧ Q (.str d.shown) H
theorem call_show {X : Cx} (hg : X.A.guards = some []) (hu : X.A.units + 66 < cLine) : CallR X (.builtin "repr") (rShow X.K) := by
  intro pins s σ H xs us Q I rv h
  obtain ⟨a, d, rfl, hd, h1, h2, h3, h4, q⟩ := h
  cases rv with
  | cons r1 r2 =>
    cases r2
    obtain ⟨as, rd⟩ := Dp.reads I d _ _ hd r1
    have e := r1
    cases e
    exact repr_of_reads' rd h1 (PyData.noDict_hsm h2) hg (by omega) (fun _ _ z => z) (fun h' u tk hk => ⟨.str d.shown, H, I.kept hk, ⟨u, rfl⟩, q⟩) h4
def okShow (d : D) : Bool := isPy d && ((py d).showable && (!(py d).hasDict && (decide ((py d).depth ≤ 64) && decide ((py d).shown.length ≤ sizeLine))))
def oShow : List D → Option D
  | [.tup ds] => if okShow (.tup ds) = true then some (.str (py (.tup ds)).shown) else none
  | _ => none
theorem does_show {K : PySem.W.Frag} : DoesN K (rShow K) oShow := fun xs ds d F H Q s rs e k => by
  cases rs with
  | nil => cases e
  | cons r rs => cases rs with
    | cons _ _ => cases r <;> cases e
    | nil =>
      rename_i v d0
      cases d0 with
      | tup es =>
        have e' : (if okShow (.tup es) = true then some (D.str (py (.tup es)).shown) else none) = some d := e
        by_cases hc : okShow (.tup es) = true
        · rw [if_pos hc] at e'
          cases e'
          unfold okShow at hc
          simp only [Bool.and_eq_true, Bool.not_eq_true', decide_eq_true_eq] at hc
          obtain ⟨c1, c2, c3, c4, c5⟩ := hc
          have hd := Rep.dp s r c1
          cases r with
          | @tup a xs _ hs hr => exact ⟨a, _, rfl, hd, c2, c3, c4, c5, k _ F H (Step.refl s) (.str _)⟩
        · rw [if_neg hc] at e'
          cases e'
      | _ => cases e
/-- a def called just below the law's caller -/
theorem call_top {P : Program} {w : World} {K : PySem.W.Frag} {mg : Str → Option Value} {base : Heap} {x qual : Str} {params : Arguments} {body : List Stmt} {scope : Scope} {p : Addr} {fd : FuncData} {N ps : List Str} {k : Nat} {g : Sto → Out}
    (F : FunD K x qual params body scope [] [] p fd) (S : FnScope N ps scope) (room : Room (k + 1) callerA)
    (bd : ∀ (cdv : Value) (s : Shared) (H : Hp) (E : XK), DSs (cxOf (CX P w) P w K mg base N qual scope p cdv callerA [] s H E) E body g)
    {s : Shared} {H : Hp} {args : Args} {us : List Value} {vs : List V} {Q : VK} {E : XK} (e0 : Env0 P w K mg base callerA [] s H) (binds : BindsTo s fd args (ps.zip us)) (rv : Vals vs us) {ds : List D} (rd : Reps K H vs ds) (hl : ds.length = ps.length) {d : D} (hd : finO (g (startD N ds)) = .ok d) (hq : ∀ v F' H', Step H H F' H' → Rep K F' v d → Q v H') :
    codeAny (model P w) callerA (.call (.ref p) args) (CR (CX P w) [] P w H s Q E) s := by
  have lv : vs.length = ps.length := by rw [rd.length, hl]
  have pl : ps.length ≤ N.length := by
    have z := congrArg List.length S.pre
    rw [List.length_take] at z
    omega
  obtain ⟨oc, od, dV, kV, doc, pm, an, cdv, ct, osl, rfl, lk, hcd, _, _⟩ := F.ex
  have inK : K.In s.heap := e0.mod.kin.keeps fun b o z => (e0.bs b o z).1
  have free : s.heap.NoLimit := e0.mod.nolimit.keeps fun b o z => (e0.bs b o z).1
  have kinds : ∀ y ∈ ps.zip us, scope.names.lookup y.1 = some .local ∨ (scope.names.lookup y.1 = some .cell ∧ ((cellsFrom (s.heap.objs.size + 1) scope.names []).lookup y.1).isSome = true) := by
    intro y hy
    have hm : y.1 ∈ ps := (List.of_mem_zip (show (y.1, y.2) ∈ ps.zip us from hy)).1
    cases S.par y.1 hm with
    | inl q => exact .inl q
    | inr q => exact .inr ⟨q, PySem.W.cellsFrom_some _ _ _ (.inl q)⟩
  refine codeAny_call_function room.depth (inK _ _ lk) rfl S.co S.gen rfl (PySem.W.codeRec_of inK hcd) (binds _ _ _ _ ?_)
  refine wpAny_newFunctionEnv_cells S.kind kinds fun env henv s1 xx => ?_
  subst henv
  refine ⟨free.keeps xx.toInCall.keep, codeAny_func ?_⟩
  have I := inv_start (CX := CX P w) (E := E) S room.hd e0 lv rv xx
  have run := (bd cdv s H E).run [] s1 (start N vs) H { nx := fun _ H' => Q .non H', rt := Q } I ⟨H, H, H, startD N ds, start_ok (Same.refl _) rd (by omega), ⟨fun y ey => ?_, fun en => ?_⟩, ⟨fun δ' σ' F' H' en st m => ?_, fun d' v F' H' en t r => ?_, fun δ' σ' F' H' en st m => ?_, fun δ' σ' F' H' en st m => ?_, fun n' ds' v F' H' q' en t r => ?_⟩⟩
  · refine wpAny_mono run (fun fl s' hs => ?_) fun e s' hs => hs
    have close : ∀ {σ' : L2.St} {H' : Hp} {v : V} {u : Value}, Inv (cxOf (CX P w) P w K mg base N qual scope p cdv callerA [] s H E) [] σ' H' s' → RelV v u → Q v H' → CE [] P w H s Q u s' := by
      intro σ' H' v u J r q
      exact ⟨v, H', J.os, J.bare, J.base, J.hok, r, q⟩
    cases fl with
    | ret u =>
      obtain ⟨v, σ', H', J, r, q⟩ := hs
      exact close J r q
    | next =>
      obtain ⟨σ', H', J, q⟩ := hs
      exact close (v := V.non) (u := Value.none) J rfl q
    | brk => exact hs.elim fun _ z => z.elim fun _ z => z.2.elim
    | cont => exact hs.elim fun _ z => z.elim fun _ z => z.2.elim
  · rw [ey] at hd
    cases hd
  · rw [en] at hd
    cases hd
  · rw [en] at hd
    cases hd
    exact hq .non F' H' st.st .non
  · rw [en] at hd
    cases hd
    exact hq v F' H' t r
  · rw [en] at hd
    cases hd
  · rw [en] at hd
    cases hd
  · rw [en] at hd
    cases hd
/-- a law that answers True at every script of at most n numbers, walked by such a call -/
theorem walk_top {l : PySem.W.OpenLaw} {n k : Nat} {q : Program} {loose : List Str} {XP : (Str → Option Value) → Heap → Prop} {YP : World → Heap → Prop} {dr : DefRec} {x qual : Str} {params : Arguments} {body : List Stmt} {scope : Scope} {N : List Str} {g : PySem.W.Frag → Sto → Out}
    (hn : l.most = some n) (hn2 : n ≤ sizeLine) (hdf : dr.params.defaults = []) (room : Room (k + 1) callerA) (S : FnScope N ["script"] scope)
    (at_ : ∀ (w : World) (mg : Str → Option Value) (fa : Addr) (h : Heap), YP w h → h.Ns mainGlobals mg → mg dr.name = some (.ref fa) →
      ∃ (K : PySem.W.Frag) (fd : FuncData), K.In h ∧ FunD K x qual params body scope [] [] fa fd ∧ (∀ (s : Shared) (u : Value), BindsTo s fd ⟨[u], []⟩ [("script", u)]) ∧
        ∀ (base : Heap) (cdv : Value) (s : Shared) (H : Hp) (E : XK), DSs (cxOf (CX l.prog w) l.prog w K mg base N qual scope fa cdv callerA [] s H E) E body (g K))
    (good : ∀ (K : PySem.W.Frag) (ns : List Int), ns.length ≤ n → finO (g K (startD N [.scr ns])) = .ok (.bl true))
    (quiet : ∀ (w : World) (H : Hp) (s : Shared) (e : Value) (s' : Shared), CX l.prog w [] H s (fun _ _ _ => False) e s' → False) :
    PySem.W.WalkO q loose XP YP l.row.toRowW dr [] (fun f vs => PySem.call f vs) := by
  refine Att.attach_call hn hdf fun w s₀ s₁ mg mb fa o pm cd doc a vs ns G Y ho hd hcd hmg hobj hints hlen hg => ?_
  obtain ⟨K, fd, KX, F, binds, bd⟩ := at_ w mg fa _ Y G.T.g hmg
  have nz : ns.length ≤ sizeLine := Nat.le_trans hlen hn2
  have lv := hints.length
  have rv := vals_ints hints
  -- once the script is known to an abstract heap H that tracks nothing else
  have go : ∀ H : Hp, Only H → SqL K H a (ns.map V.int) → HOk l.prog w H s₁.heap → (∀ b, H b ≠ none → b = a) → (H a ≠ none → K.lookup a = none) →
      codeAny (model l.prog w) callerA (.call (.ref fa) ⟨[.ref a], []⟩) (fun r s' => r = .ok (.ret (.bool true)) ∧ OldK s₁.heap s'.heap ∧ s'.os = s₁.os ∧ AllBare s'.gens) s₁ := by
    intro H only sq hok just kin
    have seen : ∀ {b : Addr} {ob : Obj}, s₁.heap.get? b = some ob → H b = none → (hidT s₁.heap H).get? b = some ob := fun e n => hidT_get e n
    have notseq : ∀ {b : Addr} {ob : Obj} {es : Array DictEntry} {ep : Nat}, s₁.heap.get? b = some ob → ob.data = .dict es ep → H b = none := by
      intro b ob es ep e d
      refine Classical.byContradiction fun hb => ?_
      have e2 := just b hb
      subst e2
      have e3 := hobj.symm.trans e
      cases e3
      cases d
    have names : ∀ {b : Addr} {m : Str → Option Value}, s₁.heap.Ns b m → (hidT s₁.heap H).Ns b m := by
      intro b m h
      obtain ⟨ob, es, ep, e, d, r⟩ := h
      exact ⟨ob, es, ep, seen e (notseq e d), d, r⟩
    have inB : K.In (hidT s₁.heap H) := by
      intro b ob e
      refine seen (KX b ob e) (Classical.byContradiction fun hb => ?_)
      have e2 := just b hb
      subst e2
      rw [kin hb] at e
      cases e
    obtain ⟨mc, q1, q2⟩ := G.T.nolimit
    have md : Mod K mg (hidT s₁.heap H) := ⟨inB, names G.T.g, ⟨mb, names G.T.b, G.T.builtins⟩, ⟨mc, names q1, q2⟩⟩
    have e0 : Env0 l.prog w K mg (hidT s₁.heap H) callerA [] s₁ H := ⟨rfl, md, fun b ob e => of_hidT e, Nat.le_of_eq (hidT_size _ _), trivial, fun b hb => (nomatch hb), hok, AllBare.of_eq hg⟩
    have c := call_top (E := fun _ _ _ => False) (Q := fun v _ => v = .bl true) F S room (bd _) e0 (binds s₁ (.ref a)) (vs := [.ref a]) (.cons rfl .nil) (ds := [.scr ns]) (.cons (.scr sq) .nil) rfl (good K ns hlen) (fun v F' H' t r => by cases r; rfl)
    refine codeAny_mono c fun r s' h => ?_
    cases r with
    | error e => exact (quiet w H s₁ e s' h).elim
    | ok fl =>
      cases fl with
      | ret u =>
        obtain ⟨v, H', os, bare, un, hok', r', q⟩ := h
        have q' : v = .bl true := q
        subst q'
        obtain rfl : u = Value.bool true := r'
        refine ⟨rfl, OldK.of_keep fun b ob e => ?_, os, bare⟩
        rcases only b with z | ⟨ob2, xs, z⟩
        · exact un.keep b ob e z (fun hm => by cases hm) (fun hm => by cases hm)
        · obtain ⟨k1, _⟩ := hok b _ z
          obtain ⟨k2, _⟩ := hok' b _ (un.frzs b ob2 _ z)
          have k3 := k1.symm.trans e
          cases k3
          exact k2
      | _ => exact h.elim
  cases hk : K.lookup a with
  | some ob =>
    have e := hobj.symm.trans (KX a ob hk)
    cases e
    exact go (fun _ => none) (fun _ => .inl rfl) (.inr ⟨_, vs.toArray, _, hk, rfl, rfl, rfl, by rw [List.size_toArray, lv]; exact nz, by simpa using rv⟩) (fun b u z => nomatch z) (fun b z => absurd rfl z) (fun z => absurd rfl z)
  | none =>
    let H : Hp := fun b => if b = a then some (.frz { cls := .type "list", data := .seq vs.toArray } (.lst (ns.map V.int))) else none
    have hat : H a = some (.frz { cls := .type "list", data := .seq vs.toArray } (.lst (ns.map V.int))) := if_pos rfl
    have hoff : ∀ b, b ≠ a → H b = none := fun b hb => if_neg hb
    refine go H (fun b => ?_) (.inl (.inr ⟨_, hat⟩)) (fun b u z => ?_) (fun b z => Classical.byContradiction fun hb => z (hoff b hb)) fun _ => hk
    · by_cases hb : b = a
      · subst hb
        exact .inr ⟨_, _, hat⟩
      · exact .inl (hoff b hb)
    · by_cases hb : b = a
      · subst hb
        rw [hat] at z
        cases z
        exact ⟨hobj, by rw [List.length_map]; exact nz, vs, _, rv, hobj⟩
      · rw [hoff b hb] at z
        cases z
end Dn

namespace Dn
open PySem PySem.Spec PyProof.Rows L2
section
variable {K : PySem.W.Frag} {h : Heap} {mg : Str → Option Value}
theorem insB_ok {x : Str} (cl : Cls K (He.ga K x)) (c : (Xa.ins x).ok K = true) : InsOk K (He.ga K x) := by
  obtain ⟨h1, c⟩ := Bool.and_eq_true_iff.mp c
  obtain ⟨h2, c⟩ := Bool.and_eq_true_iff.mp c
  obtain ⟨h3, h4⟩ := Bool.and_eq_true_iff.mp c
  exact ⟨cl, He.eqO_ok h1, He.eqO_ok h2, of_decide_eq_true h3, of_decide_eq_true h4⟩
theorem neB_ok {x : Str} (c : (Xa.ne x).ok K = true) : NeOk K (He.ga K x) := by
  obtain ⟨h1, h2⟩ := Bool.and_eq_true_iff.mp c
  exact ⟨He.eqO_ok h1, of_decide_eq_true h2⟩
theorem bltB_ok (X : K.In h) (G : h.Ns mainGlobals mg) {x : Str} {f : String} (c : (Xa.blt x f).ok K = true) : mg x = some (.builtin f) := PySem.W.mg_of X G (He.eqO_ok c)
end
end Dn

namespace Pf
open PySem PySem.Spec PyProof.Rows L2 Dn
def Cs (K : PySem.W.Frag) : List Addr := [He.ga K "Kit", He.ga K "Room"]
/-- a row of whole numbers, as a list or a tuple -/
inductive IsSeq : D → List D → Prop
  | lst (ds : List D) : IsSeq (.lst ds) ds
  | tup (ds : List D) : IsSeq (.tup ds) ds
abbrev Mat := List (List Int)
def rowT (r : List Int) : D := .tup (r.map .int)
def rowL (r : List Int) : D := .lst (r.map .int)
def cel (r : List Int) (c : Nat) : Int := r.getD c 0
def rw_ (w : Mat) (k : Nat) : List Int := w.getD k []
/-- all rows have n numbers -/
def Wide (n : Nat) (w : Mat) : Prop := ∀ r ∈ w, r.length = n
/-- rows, as the program holds them -/
inductive RowsAre : List D → Mat → Prop
  | nil : RowsAre [] []
  | cons {d : D} {r : List Int} {ds : List D} {w : Mat} : IsSeq d (r.map .int) → RowsAre ds w → RowsAre (d :: ds) (r :: w)
/-- a table of whole numbers, in lists or tuples -/
def TabIs (d : D) (w : Mat) : Prop := ∃ ds, IsSeq d ds ∧ RowsAre ds w
/-- tables, as the program holds them -/
inductive TabsAre : List D → List Mat → Prop
  | nil : TabsAre [] []
  | cons {d : D} {w : Mat} {ds : List D} {ws : List Mat} : TabIs d w → TabsAre ds ws → TabsAre (d :: ds) (w :: ws)
/-- a kit's tables: many of them, high times wide -/
structure KitIs (d : D) (ws : List Mat) (h n : Nat) : Prop where
  rep : ∃ ds, IsSeq d ds ∧ TabsAre ds ws
  many : 0 < ws.length
  high : 0 < h
  wide : 0 < n
  hs : ∀ w ∈ ws, w.length = h
  ns : ∀ w ∈ ws, Wide n w
def matT (w : Mat) : D := .tup (w.map rowT)
/-- a kit that __init__ takes -/
structure KitOk (d : D) (ws : List Mat) (h n : Nat) : Prop where
  is : KitIs d ws h n
  m40 : ws.length ≤ 40
  h8 : h ≤ 8
  n8 : n ≤ 8
  big : ∀ w ∈ ws, ∀ r ∈ w, ∀ x ∈ r, (x.natAbs : Int) < 10 ^ 60
def kitF (ws : List Mat) (h n : Nat) : List Str × List D := (["tables", "many", "high", "wide"], [.tup (ws.map matT), .int (ws.length : Nat), .int (h : Nat), .int (n : Nat)])
def gcdF (g : Nat) (ns : List Int) : Nat := ns.foldl (fun g n => Nat.gcd g n.natAbs) g
def gcdL (ns : List Int) : Nat := gcdF 0 ns
/-- the sign of the first number that is not zero -/
def sgnL : List Int → Int
  | [] => 1
  | n :: ns => if n ≠ 0 then (if n < 0 then -1 else 1) else sgnL ns
def prim (ns : List Int) : List Int := if gcdL ns = 0 then ns else ns.map fun n => n.fdiv (sgnL ns * gcdL ns)
def firstFrom (w : Mat) (c : Nat) : Nat → Nat → Option Nat
  | 0, _ => none
  | n + 1, k => if cel (rw_ w k) c ≠ 0 then some k else firstFrom w c n (k + 1)
def firstNZ (w : Mat) (a c : Nat) : Option Nat := firstFrom w c (w.length - a) a
def comb (n : Nat) (head r : List Int) (c : Nat) : List Int := (List.range n).map fun j => cel head c * cel r j - cel r c * cel head j
def elimR (n : Nat) (head : List Int) (a c k : Nat) (r : List Int) : List Int := if k ≠ a ∧ cel r c ≠ 0 then prim (comb n head r c) else r
def elimA (n : Nat) (head : List Int) (a c : Nat) (w : Mat) : Mat := w.mapIdx (elimR n head a c)
def swapT (w : Mat) (a k : Nat) : Mat := (w.set k (rw_ w a)).set a (prim (rw_ w k))
def colS (n : Nat) (s : Mat × Nat) (c : Nat) : Mat × Nat := match firstNZ s.1 s.2 c with
  | none => s
  | some k => (elimA n (prim (rw_ s.1 k)) s.2 c (swapT s.1 s.2 k), s.2 + 1)
def echC (n : Nat) (w : Mat) : Nat → Mat × Nat
  | 0 => (w, 0)
  | c + 1 => colS n (echC n w c) c
def ech (n : Nat) (w : Mat) : Mat := (echC n w n).1.take (echC n w n).2
/-- no number is too large -/
def Small (w : Mat) : Prop := ∀ r ∈ w, ∀ x ∈ r, x.natAbs < 2 ^ 4000
/-- what Room takes: a size and rows -/
structure RoomOk (d : D) (n : Nat) (w : Mat) : Prop where
  rep : ∃ ds, IsSeq d ds ∧ RowsAre ds w
  n1 : 1 ≤ n
  n64 : n ≤ 64
  wd : Wide n w
  len : w.length ≤ sizeLine
  run : ∀ i < n, Small (echC n w i).1
def roomF (n : Nat) (T : Mat) : List Str × List D := (["size", "rows", "width"], [.int (n : Nat), .tup (T.map rowT), .int (T.length : Nat)])
/-! ### is_whole -/
noncomputable def dn_is_whole (K : PySem.W.Frag) : Sto → Out := (dRet (dAndV (dN (oIsi K (Cs K)) (dCons (dVar 0) (dCons (dK (.ty "int")) dNil))) (dBl (dNot (dBool (dN (oIsi K (Cs K)) (dCons (dVar 0) (dCons (dK (.ty "bool")) dNil))))))))
noncomputable def φ_is_whole (K : PySem.W.Frag) : List D → Res D := fnD 1 fun ds => finO (dn_is_whole K (startD ["value"] ds))
theorem den_is_whole (K : PySem.W.Frag) : ∀ ds, φ_is_whole K ds ≠ .no → finO (dn_is_whole K (startD ["value"] ds)) = φ_is_whole K ds := fun ds h => fnD_den h
theorem ar_is_whole (K : PySem.W.Frag) : ∀ ds, φ_is_whole K ds ≠ .no → ds.length = 1 := by
  exact fun _ h => fnD_ar h
/-! ### is_row -/
noncomputable def dn_is_row (K : PySem.W.Frag) : Sto → Out := (dRet (dIsiT K (Cs K) (dVar 0) (dCons (dK (.ty "list")) (dCons (dK (.ty "tuple")) dNil))))
noncomputable def φ_is_row (K : PySem.W.Frag) : List D → Res D := fnD 1 fun ds => finO (dn_is_row K (startD ["value"] ds))
theorem den_is_row (K : PySem.W.Frag) : ∀ ds, φ_is_row K ds ≠ .no → finO (dn_is_row K (startD ["value"] ds)) = φ_is_row K ds := fun ds h => fnD_den h
theorem ar_is_row (K : PySem.W.Frag) : ∀ ds, φ_is_row K ds ≠ .no → ds.length = 1 := by
  exact fun _ h => fnD_ar h
/-! ### common_divisor -/
noncomputable def dn_common_divisor (K : PySem.W.Frag) : Sto → Out := (dSeq (dSet 1 (dK (.int 0))) (dSeq (dFor (dItems (dVar 0)) (uName 2) (dSeq (dSet 1 (dN oGcd (dCons (dVar 1) (dCons (dVar 2) dNil)))) (dIf (dBool (d2 oEq (dVar 1) (dK (.int 1)))) (dRet (dK (.int 1))) dSkip))) (dRet (dVar 1))))
noncomputable def φ_common_divisor (K : PySem.W.Frag) : List D → Res D := fnD 1 fun ds => finO (dn_common_divisor K (startD ["numbers", "common", "number"] ds))
theorem den_common_divisor (K : PySem.W.Frag) : ∀ ds, φ_common_divisor K ds ≠ .no → finO (dn_common_divisor K (startD ["numbers", "common", "number"] ds)) = φ_common_divisor K ds := fun ds h => fnD_den h
theorem ar_common_divisor (K : PySem.W.Frag) : ∀ ds, φ_common_divisor K ds ≠ .no → ds.length = 1 := by
  exact fun _ h => fnD_ar h
/-! ### primitive -/
noncomputable def dn_primitive (K : PySem.W.Frag) : Sto → Out := (dSeq (dSet 1 (dCall (φ_common_divisor K) [] (dCons (dVar 0) dNil))) (dSeq (dIf (dBool (d2 oEq (dVar 1) (dK (.int 0)))) (dRet (dTupL (dSq (dVar 0)))) dSkip) (dSeq (dFor (dItems (dVar 0)) (uName 2) (dIf (dBool (d2 oNe (dVar 2) (dK (.int 0)))) (dSeq (dIf (dBool (d2 oLt (dVar 2) (dK (.int 0)))) (dSet 1 (d1 oNeg (dVar 1))) dSkip) (fun δ => .bk δ)) dSkip)) (dSeq (dIf (dBool (d2 oEq (dVar 1) (dK (.int 1)))) (dRet (dTupL (dSq (dVar 0)))) dSkip) (dRet (dTupL (dSq (dLst (dLc (dItems (dVar 0)) (uName 2) dYes (d2 oFdiv (dVar 2) (dVar 1)) [2])))))))))
noncomputable def φ_primitive (K : PySem.W.Frag) : List D → Res D := fnD 1 fun ds => finO (dn_primitive K (startD ["row", "common", "number"] ds))
theorem den_primitive (K : PySem.W.Frag) : ∀ ds, φ_primitive K ds ≠ .no → finO (dn_primitive K (startD ["row", "common", "number"] ds)) = φ_primitive K ds := fun ds h => fnD_den h
theorem ar_primitive (K : PySem.W.Frag) : ∀ ds, φ_primitive K ds ≠ .no → ds.length = 1 := by
  exact fun _ h => fnD_ar h
/-! ### frozen -/
noncomputable def dn_frozen (K : PySem.W.Frag) (REC : List D → Res D) : Sto → Out := (dSeq (dIf (dTest (dIsiT K (Cs K) (dVar 0) (dCons (dK (.ty "list")) (dCons (dK (.ty "tuple")) dNil)))) (dRet (dTupL (dSq (dLst (dLc (dItems (dVar 0)) (uName 1) dYes (dCall REC [] (dCons (dVar 1) dNil)) [1]))))) dSkip) (dRet (dVar 0)))
def frzs (f : D → Res D) : List D → Res (List D)
  | [] => .ok []
  | d :: ds => (f d).bind fun x => (frzs f ds).bind fun xs => .ok (x :: xs)
def frz (K : PySem.W.Frag) : Nat → D → Res D
  | 0, _ => .no
  | n + 1, .lst ds => (frzs (frz K n) ds).bind fun xs => .ok (.tup xs)
  | n + 1, .tup ds => (frzs (frz K n) ds).bind fun xs => .ok (.tup xs)
  | _, .int i => .ok (.int i)
  | _, _ => .no
def φ_frozenN (K : PySem.W.Frag) (n : Nat) : List D → Res D
  | [x] => frz K n x
  | _ => .no
def φ_frozen (K : PySem.W.Frag) : List D → Res D := φ_frozenN K 6
theorem ar_frozen (K : PySem.W.Frag) (n : Nat) : ∀ ds, φ_frozenN K n ds ≠ .no → ds.length = 1 := by
  intro ds h
  unfold φ_frozenN at h
  split at h <;> first | rfl | exact absurd rfl h
/-! ### is_table -/
noncomputable def dn_is_table (K : PySem.W.Frag) : Sto → Out := (dSeq (dIf (dOr (dNot (dTest (dCall (φ_is_row K) [] (dCons (dVar 0) dNil)))) (dBool (d2 oEq (dN oLen (dCons (dVar 0) dNil)) (dK (.int 0))))) (dRet (dK (.bl false))) dSkip) (dSeq (dFor (dItems (dVar 0)) (uName 1) (dSeq (dIf (dOr (dNot (dTest (dCall (φ_is_row K) [] (dCons (dVar 1) dNil)))) (dOr (dBool (d2 oEq (dN oLen (dCons (dVar 1) dNil)) (dK (.int 0)))) (dBool (d2 oNe (dN oLen (dCons (dVar 1) dNil)) (dN oLen (dCons (d2 oIx (dVar 0) (dK (.int 0))) dNil)))))) (dRet (dK (.bl false))) dSkip) (dFor (dItems (dVar 1)) (uName 2) (dIf (dNot (dTest (dCall (φ_is_whole K) [] (dCons (dVar 2) dNil)))) (dRet (dK (.bl false))) dSkip)))) (dRet (dK (.bl true)))))
noncomputable def φ_is_table (K : PySem.W.Frag) : List D → Res D := fnD 1 fun ds => finO (dn_is_table K (startD ["value", "row", "number"] ds))
theorem den_is_table (K : PySem.W.Frag) : ∀ ds, φ_is_table K ds ≠ .no → finO (dn_is_table K (startD ["value", "row", "number"] ds)) = φ_is_table K ds := fun ds h => fnD_den h
theorem ar_is_table (K : PySem.W.Frag) : ∀ ds, φ_is_table K ds ≠ .no → ds.length = 1 := by
  exact fun _ h => fnD_ar h
/-! ### is_kit_tables -/
noncomputable def dn_is_kit_tables (K : PySem.W.Frag) : Sto → Out := (dSeq (dIf (dOr (dNot (dTest (dCall (φ_is_row K) [] (dCons (dVar 0) dNil)))) (dBool (d2 oEq (dN oLen (dCons (dVar 0) dNil)) (dK (.int 0))))) (dRet (dK (.bl false))) dSkip) (dSeq (dFor (dItems (dVar 0)) (uName 1) (dIf (dOr (dNot (dTest (dCall (φ_is_table K) [] (dCons (dVar 1) dNil)))) (dOr (dBool (d2 oNe (dN oLen (dCons (dVar 1) dNil)) (dN oLen (dCons (d2 oIx (dVar 0) (dK (.int 0))) dNil)))) (dBool (d2 oNe (dN oLen (dCons (d2 oIx (dVar 1) (dK (.int 0))) dNil)) (dN oLen (dCons (d2 oIx (d2 oIx (dVar 0) (dK (.int 0))) (dK (.int 0))) dNil)))))) (dRet (dK (.bl false))) dSkip)) (dRet (dK (.bl true)))))
noncomputable def φ_is_kit_tables (K : PySem.W.Frag) : List D → Res D := fnD 1 fun ds => finO (dn_is_kit_tables K (startD ["tables", "table"] ds))
theorem den_is_kit_tables (K : PySem.W.Frag) : ∀ ds, φ_is_kit_tables K ds ≠ .no → finO (dn_is_kit_tables K (startD ["tables", "table"] ds)) = φ_is_kit_tables K ds := fun ds h => fnD_den h
theorem ar_is_kit_tables (K : PySem.W.Frag) : ∀ ds, φ_is_kit_tables K ds ≠ .no → ds.length = 1 := by
  exact fun _ h => fnD_ar h
/-! ### is_too_great -/
noncomputable def dn_is_too_great (K : PySem.W.Frag) : Sto → Out := (dSeq (dFor (dItems (dVar 0)) (uName 2) (dFor (dItems (dVar 2)) (uName 3) (dFor (dItems (dVar 3)) (uName 4) (dIf (dBool (d2 oGe (dN oAbs (dCons (dVar 4) dNil)) (dVar 1))) (dRet (dK (.bl true))) dSkip)))) (dRet (dK (.bl false))))
noncomputable def φ_is_too_great (K : PySem.W.Frag) : List D → Res D := fnD 2 fun ds => finO (dn_is_too_great K (startD ["tables", "most", "table", "row", "number"] ds))
theorem den_is_too_great (K : PySem.W.Frag) : ∀ ds, φ_is_too_great K ds ≠ .no → finO (dn_is_too_great K (startD ["tables", "most", "table", "row", "number"] ds)) = φ_is_too_great K ds := fun ds h => fnD_den h
theorem ar_is_too_great (K : PySem.W.Frag) : ∀ ds, φ_is_too_great K ds ≠ .no → ds.length = 2 := by
  exact fun _ h => fnD_ar h
/-! ### Kit.__init__ -/
noncomputable def dn_Kit___init__ (K : PySem.W.Frag) : Sto → Out := (dSeq (dIf (dNot (dTest (dCall (φ_is_kit_tables K) [] (dCons (dVar 1) dNil)))) (fun _ => .no) dSkip) (dSeq (dIf (dOr (dBool (d2 oGt (dN oLen (dCons (dVar 1) dNil)) (dK (.int 40)))) (dOr (dBool (d2 oGt (dN oLen (dCons (d2 oIx (dVar 1) (dK (.int 0))) dNil)) (dK (.int 8)))) (dBool (d2 oGt (dN oLen (dCons (d2 oIx (d2 oIx (dVar 1) (dK (.int 0))) (dK (.int 0))) dNil)) (dK (.int 8)))))) (fun _ => .no) dSkip) (dSeq (dIf (dAnd (dTest (dVar 2)) (dTest (dCall (φ_is_too_great K) [] (dCons (dVar 1) (dCons (dK (.int 1000000000000000000000000000000000000000000000000000000000000)) dNil))))) (fun _ => .no) dSkip) (dSeq (dPutf 0 (He.ga K "Kit") "tables" (dCall (φ_frozen K) [] (dCons (dVar 1) dNil))) (dSeq (dPutf 0 (He.ga K "Kit") "many" (dN oLen (dCons (dFldO 0 (He.ga K "Kit") "tables") dNil))) (dSeq (dPutf 0 (He.ga K "Kit") "high" (dN oLen (dCons (d2 oIx (dFldO 0 (He.ga K "Kit") "tables") (dK (.int 0))) dNil))) (dPutf 0 (He.ga K "Kit") "wide" (dN oLen (dCons (d2 oIx (d2 oIx (dFldO 0 (He.ga K "Kit") "tables") (dK (.int 0))) (dK (.int 0))) dNil)))))))))
open Classical in
noncomputable def φ_Kit___init__ (K : PySem.W.Frag) : List D → Res (List Str × List D)
  | [t, .bl true] => if p : ∃ z : List Mat × Nat × Nat, KitOk t z.1 z.2.1 z.2.2 then .ok (kitF p.choose.1 p.choose.2.1 p.choose.2.2) else .no
  | _ => .no

theorem ar_Kit___init__ (K : PySem.W.Frag) : ∀ ds, φ_Kit___init__ K ds ≠ .no → ds.length + 1 = 3 := by
  intro ds h
  unfold φ_Kit___init__ at h
  split at h <;> first | rfl | exact absurd rfl h
def df_Kit_1 : List D := [.bl true]
/-! ### Kit.__eq__ -/
noncomputable def dn_Kit___eq__ (K : PySem.W.Frag) : Sto → Out := (dRet (dAndV (dN (oIsi K (Cs K)) (dCons (dVar 1) (dCons (dK (.cls (He.ga K "Kit"))) dNil))) (d2 oEq (dFld (He.ga K "Kit") "tables" (dVar 0)) (dFld (He.ga K "Kit") "tables" (dVar 1)))))
noncomputable def φ_Kit___eq__ (K : PySem.W.Frag) : List D → Res D := fnD 2 fun ds => finO (dn_Kit___eq__ K (startD ["self", "other"] ds))
theorem den_Kit___eq__ (K : PySem.W.Frag) : ∀ ds, φ_Kit___eq__ K ds ≠ .no → finO (dn_Kit___eq__ K (startD ["self", "other"] ds)) = φ_Kit___eq__ K ds := fun ds h => fnD_den h
theorem ar_Kit___eq__ (K : PySem.W.Frag) : ∀ ds, φ_Kit___eq__ K ds ≠ .no → ds.length = 2 := by
  exact fun _ h => fnD_ar h
/-! ### first_nonzero -/
noncomputable def dn_first_nonzero (K : PySem.W.Frag) : Sto → Out := (dSeq (dFor (dNL rng2 (dCons (dVar 1) (dCons (dN oLen (dCons (dVar 0) dNil)) dNil))) (uName 3) (dIf (dBool (d2 oNe (d2 oIx (d2 oIx (dVar 0) (dVar 3)) (dVar 2)) (dK (.int 0)))) (dRet (dVar 3)) dSkip)) (dRet (dK .non)))
noncomputable def φ_first_nonzero (K : PySem.W.Frag) : List D → Res D := fnD 3 fun ds => finO (dn_first_nonzero K (startD ["rows", "start", "column", "k"] ds))
theorem den_first_nonzero (K : PySem.W.Frag) : ∀ ds, φ_first_nonzero K ds ≠ .no → finO (dn_first_nonzero K (startD ["rows", "start", "column", "k"] ds)) = φ_first_nonzero K ds := fun ds h => fnD_den h
theorem ar_first_nonzero (K : PySem.W.Frag) : ∀ ds, φ_first_nonzero K ds ≠ .no → ds.length = 3 := by
  exact fun _ h => fnD_ar h
/-! ### echelon -/
noncomputable def dn_echelon (K : PySem.W.Frag) : Sto → Out := (dSeq (dSetF 2 (dLc (dItems (dVar 0)) (uName 9) dYes (dTupL (dSq (dVar 9))) [9])) (dSeq (dSet 3 (dK (.int 0))) (dSeq (dFor (dNL rng1 (dCons (dVar 1) dNil)) (uName 4) (dSeq (dSet 5 (fun δ => dFlat ((dCall (φ_first_nonzero K) [] (dCons (dVar 2) (dCons (dVar 3) (dCons (dVar 4) dNil)))) (fzs [2] δ)))) (dSeq (dIf (dBool (d2 oIsN (dVar 5) (dK .non))) (fun δ => .ct δ) dSkip) (dSeq (dSet 6 (dCall (φ_primitive K) [] (dCons (dIxL (dOwn 2) (dVar 5)) dNil))) (dSeq (dPut 2 (dVar 5) (dIxL (dOwn 2) (dVar 3))) (dSeq (dPut 2 (dVar 3) (dVar 6)) (dSeq (dSet 7 (d2 oIx (dVar 6) (dVar 4))) (dSeq (dFor (dNL rng1 (dCons (dLenL (dOwn 2)) dNil)) (uName 8) (dSeq (dSet 9 (dIxL (dOwn 2) (dVar 8))) (dSeq (dSet 10 (d2 oIx (dVar 9) (dVar 4))) (dIf (dAnd (dBool (d2 oNe (dVar 8) (dVar 3))) (dBool (d2 oNe (dVar 10) (dK (.int 0))))) (dPut 2 (dVar 8) (dCall (φ_primitive K) [] (dCons (dLst (dLc (dNL rng1 (dCons (dVar 1) dNil)) (uName 11) dYes (d2 oSub (d2 oMul (dVar 7) (d2 oIx (dVar 9) (dVar 11))) (d2 oMul (dVar 10) (d2 oIx (dVar 6) (dVar 11)))) [11])) dNil))) dSkip)))) (dAug 3 oIAdd (dK (.int 1))))))))))) (dRet (dTupL (dSq (dLst (dCutL (dOwn 2) dNoO (dSoO (dVar 3))))))))))
noncomputable def φ_echelon (K : PySem.W.Frag) : List D → Res D := fnD 2 fun ds => finO (dn_echelon K (startD ["rows", "size", "work", "at", "column", "pick", "head", "lead", "k", "row", "own", "j"] ds))
theorem den_echelon (K : PySem.W.Frag) : ∀ ds, φ_echelon K ds ≠ .no → finO (dn_echelon K (startD ["rows", "size", "work", "at", "column", "pick", "head", "lead", "k", "row", "own", "j"] ds)) = φ_echelon K ds := fun ds h => fnD_den h
theorem ar_echelon (K : PySem.W.Frag) : ∀ ds, φ_echelon K ds ≠ .no → ds.length = 2 := by
  exact fun _ h => fnD_ar h
/-! ### is_vector -/
noncomputable def dn_is_vector (K : PySem.W.Frag) : Sto → Out := (dRet (dAndV (dCall (φ_is_row K) [] (dCons (dVar 0) dNil)) (dAndV (d2 oEq (dN oLen (dCons (dVar 0) dNil)) (dVar 1)) (dN oAll (dCons (dLst (dLc (dItems (dVar 0)) (uName 2) dYes (dCall (φ_is_whole K) [] (dCons (dVar 2) dNil)) [2])) dNil)))))
noncomputable def φ_is_vector (K : PySem.W.Frag) : List D → Res D := fnD 2 fun ds => finO (dn_is_vector K (startD ["value", "size", "number"] ds))
theorem den_is_vector (K : PySem.W.Frag) : ∀ ds, φ_is_vector K ds ≠ .no → finO (dn_is_vector K (startD ["value", "size", "number"] ds)) = φ_is_vector K ds := fun ds h => fnD_den h
theorem ar_is_vector (K : PySem.W.Frag) : ∀ ds, φ_is_vector K ds ≠ .no → ds.length = 2 := by
  exact fun _ h => fnD_ar h
/-! ### Room.__init__ -/
noncomputable def dn_Room___init__ (K : PySem.W.Frag) : Sto → Out := (dSeq (dIf (dOr (dNot (dTest (dCall (φ_is_whole K) [] (dCons (dVar 1) dNil)))) (dOr (dBool (d2 oLt (dVar 1) (dK (.int 1)))) (dOr (dBool (d2 oGt (dVar 1) (dK (.int 64)))) (dNot (dTest (dCall (φ_is_row K) [] (dCons (dVar 2) dNil))))))) (fun _ => .no) dSkip) (dSeq (dFor (dItems (dVar 2)) (uName 3) (dIf (dNot (dTest (dCall (φ_is_vector K) [] (dCons (dVar 3) (dCons (dVar 1) dNil))))) (fun _ => .no) dSkip)) (dSeq (dPutf 0 (He.ga K "Room") "size" (dVar 1)) (dSeq (dPutf 0 (He.ga K "Room") "rows" (dCall (φ_echelon K) [] (dCons (dVar 2) (dCons (dVar 1) dNil)))) (dPutf 0 (He.ga K "Room") "width" (dN oLen (dCons (dFldO 0 (He.ga K "Room") "rows") dNil)))))))
open Classical in
noncomputable def φ_Room___init__ (K : PySem.W.Frag) : List D → Res (List Str × List D)
  | [.int i, d] => if p : ∃ z : Nat × Mat, i = (z.1 : Nat) ∧ RoomOk d z.1 z.2 then .ok (roomF p.choose.1 (ech p.choose.1 p.choose.2)) else .no
  | _ => .no

theorem ar_Room___init__ (K : PySem.W.Frag) : ∀ ds, φ_Room___init__ K ds ≠ .no → ds.length + 1 = 3 := by
  intro ds h
  unfold φ_Room___init__ at h
  split at h <;> first | rfl | exact absurd rfl h
def df_Room_2 : List D := []
/-! ### Room.__eq__ -/
noncomputable def dn_Room___eq__ (K : PySem.W.Frag) : Sto → Out := (dRet (dAndV (dN (oIsi K (Cs K)) (dCons (dVar 1) (dCons (dK (.cls (He.ga K "Room"))) dNil))) (dAndV (d2 oEq (dFld (He.ga K "Room") "size" (dVar 0)) (dFld (He.ga K "Room") "size" (dVar 1))) (d2 oEq (dFld (He.ga K "Room") "rows" (dVar 0)) (dFld (He.ga K "Room") "rows" (dVar 1))))))
noncomputable def φ_Room___eq__ (K : PySem.W.Frag) : List D → Res D := fnD 2 fun ds => finO (dn_Room___eq__ K (startD ["self", "other"] ds))
theorem den_Room___eq__ (K : PySem.W.Frag) : ∀ ds, φ_Room___eq__ K ds ≠ .no → finO (dn_Room___eq__ K (startD ["self", "other"] ds)) = φ_Room___eq__ K ds := fun ds h => fnD_den h
theorem ar_Room___eq__ (K : PySem.W.Frag) : ∀ ds, φ_Room___eq__ K ds ≠ .no → ds.length = 2 := by
  exact fun _ h => fnD_ar h
/-! ### number_of -/
noncomputable def dn_number_of (K : PySem.W.Frag) : Sto → Out := (dSeq (dSet 1 (dIte (dTest (dStarts (dVar 0) (dK (.str "-")))) (dCut (dVar 0) (dSoO (dK (.int 1))) dNoO) (dVar 0))) (dSeq (dIf (dOr (dBool (d2 oLt (dN oLen (dCons (dVar 1) dNil)) (dK (.int 1)))) (dBool (d2 oGt (dN oLen (dCons (dVar 1) dNil)) (dK (.int 60))))) (dRet (dK .non)) dSkip) (dSeq (dIf (dNot (dTest (dN oAll (dCons (dLst (dLc (dSigns (dVar 1)) (uName 2) dYes (d2 oIn (dVar 2) (dK (.str "0123456789"))) [2])) dNil)))) (dRet (dK .non)) dSkip) (dSeq (dIf (dAnd (dBool (d2 oEq (d2 oIx (dVar 1) (dK (.int 0))) (dK (.str "0")))) (dOr (dBool (d2 oGt (dN oLen (dCons (dVar 1) dNil)) (dK (.int 1)))) (dBool (d2 oGt (dN oLen (dCons (dVar 0) dNil)) (dK (.int 1)))))) (dRet (dK .non)) dSkip) (dRet (dN oInt (dCons (dVar 0) dNil)))))))
noncomputable def φ_number_of (K : PySem.W.Frag) : List D → Res D := fnD 1 fun ds => finO (dn_number_of K (startD ["word", "figures", "sign"] ds))
theorem den_number_of (K : PySem.W.Frag) : ∀ ds, φ_number_of K ds ≠ .no → finO (dn_number_of K (startD ["word", "figures", "sign"] ds)) = φ_number_of K ds := fun ds h => fnD_den h
theorem ar_number_of (K : PySem.W.Frag) : ∀ ds, φ_number_of K ds ≠ .no → ds.length = 1 := by
  exact fun _ h => fnD_ar h
/-! ### line_at -/
noncomputable def dn_line_at (K : PySem.W.Frag) : Sto → Out := (dSeq (dIf (dBool (d2 oGe (dVar 1) (dN oLen (dCons (dVar 0) dNil)))) (fun _ => .no) dSkip) (dRet (d2 oIx (dVar 0) (dVar 1))))
noncomputable def φ_line_at (K : PySem.W.Frag) : List D → Res D := fnD 2 fun ds => finO (dn_line_at K (startD ["lines", "at"] ds))
theorem den_line_at (K : PySem.W.Frag) : ∀ ds, φ_line_at K ds ≠ .no → finO (dn_line_at K (startD ["lines", "at"] ds)) = φ_line_at K ds := fun ds h => fnD_den h
theorem ar_line_at (K : PySem.W.Frag) : ∀ ds, φ_line_at K ds ≠ .no → ds.length = 2 := by
  exact fun _ h => fnD_ar h
/-! ### taken_row -/
noncomputable def dn_taken_row (K : PySem.W.Frag) : Sto → Out := (dSeq (dSet 3 (dLst (dSplit (dCall (φ_line_at K) [] (dCons (dVar 0) (dCons (dVar 1) dNil))) (dK (.str " "))))) (dSeq (dSetF 4 (dLc (dItems (dVar 3)) (uName 5) dYes (dCall (φ_number_of K) [] (dCons (dVar 5) dNil)) [5])) (fun δ => (dSeq (dIf (dOr (dBool (d2 oNe (dN oLen (dCons (dVar 4) dNil)) (dVar 2))) (dBool (d2 oIn (dK .non) (dVar 4)))) (fun _ => .no) dSkip) (dRet (dTupL (dSq (dVar 4))))) (fz 4 δ))))
noncomputable def φ_taken_row (K : PySem.W.Frag) : List D → Res D := fnD 3 fun ds => finO (dn_taken_row K (startD ["lines", "at", "wide", "words", "numbers", "word"] ds))
theorem den_taken_row (K : PySem.W.Frag) : ∀ ds, φ_taken_row K ds ≠ .no → finO (dn_taken_row K (startD ["lines", "at", "wide", "words", "numbers", "word"] ds)) = φ_taken_row K ds := fun ds h => fnD_den h
theorem ar_taken_row (K : PySem.W.Frag) : ∀ ds, φ_taken_row K ds ≠ .no → ds.length = 3 := by
  exact fun _ h => fnD_ar h
/-! ### taken_head -/
noncomputable def dn_taken_head (K : PySem.W.Frag) : Sto → Out := (dSeq (dSet 4 (dLst (dSplit (dCall (φ_line_at K) [] (dCons (dVar 0) (dCons (dVar 1) dNil))) (dK (.str " "))))) (dSeq (dSetF 5 (dLc (dItems (dCut (dVar 4) (dSoO (dK (.int 1))) dNoO)) (uName 7) dYes (dCall (φ_number_of K) [] (dCons (dVar 7) dNil)) [7])) (fun δ => (dSeq (dIf (dOr (dBool (d2 oNe (d2 oIx (dVar 4) (dK (.int 0))) (dVar 2))) (dOr (dBool (d2 oNe (dN oLen (dCons (dVar 5) dNil)) (dN oLen (dCons (dVar 3) dNil)))) (dBool (d2 oIn (dK .non) (dVar 5))))) (fun _ => .no) dSkip) (dSeq (dFor (dNL zipD (dCons (dVar 5) (dCons (dVar 3) dNil))) (uTup 2 (uCons (uName 6) (uCons (uTup 2 (uCons (uName 8) (uCons (uName 9) uNil))) uNil))) (dIf (dOr (dBool (d2 oLt (dVar 6) (dVar 8))) (dBool (d2 oGt (dVar 6) (dVar 9)))) (fun _ => .no) dSkip)) (dRet (dTupL (dSq (dVar 5)))))) (fz 5 δ))))
noncomputable def φ_taken_head (K : PySem.W.Frag) : List D → Res D := fnD 4 fun ds => finO (dn_taken_head K (startD ["lines", "at", "word", "bounds", "words", "numbers", "number", "item", "least", "most"] ds))
theorem den_taken_head (K : PySem.W.Frag) : ∀ ds, φ_taken_head K ds ≠ .no → finO (dn_taken_head K (startD ["lines", "at", "word", "bounds", "words", "numbers", "number", "item", "least", "most"] ds)) = φ_taken_head K ds := fun ds h => fnD_den h
theorem ar_taken_head (K : PySem.W.Frag) : ∀ ds, φ_taken_head K ds ≠ .no → ds.length = 4 := by
  exact fun _ h => fnD_ar h
/-! ### taken_table -/
noncomputable def dn_taken_table (K : PySem.W.Frag) : Sto → Out := (dSeq (dIf (dBool (d2 oNe (dCall (φ_line_at K) [] (dCons (dVar 0) (dCons (dVar 1) dNil))) (dK (.str "table")))) (fun _ => .no) dSkip) (dSeq (dSet 4 (dTupL (dSq (dLst (dLc (dNL rng1 (dCons (dVar 2) dNil)) (uName 5) dYes (dCall (φ_taken_row K) [] (dCons (dVar 0) (dCons (d2 oAdd (d2 oAdd (dVar 1) (dK (.int 1))) (dVar 5)) (dCons (dVar 3) dNil)))) [5]))))) (dRet (dTup (dCons (dVar 4) (dCons (d2 oAdd (d2 oAdd (dVar 1) (dK (.int 1))) (dVar 2)) dNil))))))
noncomputable def φ_taken_table (K : PySem.W.Frag) : List D → Res D := fnD 4 fun ds => finO (dn_taken_table K (startD ["lines", "at", "high", "wide", "rows", "k"] ds))
theorem den_taken_table (K : PySem.W.Frag) : ∀ ds, φ_taken_table K ds ≠ .no → finO (dn_taken_table K (startD ["lines", "at", "high", "wide", "rows", "k"] ds)) = φ_taken_table K ds := fun ds h => fnD_den h
theorem ar_taken_table (K : PySem.W.Frag) : ∀ ds, φ_taken_table K ds ≠ .no → ds.length = 4 := by
  exact fun _ h => fnD_ar h
/-! ### check_end -/
noncomputable def dn_check_end (K : PySem.W.Frag) : Sto → Out := (dIf (dBool (d2 oLt (dVar 1) (dN oLen (dCons (dVar 0) dNil)))) (fun _ => .no) dSkip)
noncomputable def φ_check_end (K : PySem.W.Frag) : List D → Res D := fnD 2 fun ds => finO (dn_check_end K (startD ["lines", "at"] ds))
theorem den_check_end (K : PySem.W.Frag) : ∀ ds, φ_check_end K ds ≠ .no → finO (dn_check_end K (startD ["lines", "at"] ds)) = φ_check_end K ds := fun ds h => fnD_den h
theorem ar_check_end (K : PySem.W.Frag) : ∀ ds, φ_check_end K ds ≠ .no → ds.length = 2 := by
  exact fun _ h => fnD_ar h
/-! ### row_line -/
noncomputable def dn_row_line (K : PySem.W.Frag) : Sto → Out := (dRet (dJoin (dK (.str " ")) (dSq (dLst (dLc (dItems (dVar 0)) (uName 1) dYes (dN oStr (dCons (dVar 1) dNil)) [1])))))
noncomputable def φ_row_line (K : PySem.W.Frag) : List D → Res D := fnD 1 fun ds => finO (dn_row_line K (startD ["row", "number"] ds))
theorem den_row_line (K : PySem.W.Frag) : ∀ ds, φ_row_line K ds ≠ .no → finO (dn_row_line K (startD ["row", "number"] ds)) = φ_row_line K ds := fun ds h => fnD_den h
theorem ar_row_line (K : PySem.W.Frag) : ∀ ds, φ_row_line K ds ≠ .no → ds.length = 1 := by
  exact fun _ h => fnD_ar h
/-! ### table_lines -/
noncomputable def dn_table_lines (K : PySem.W.Frag) : Sto → Out := (dRet (d2 oAdd (dLst (dFl (dCons (dK (.str "table")) dNil))) (dLst (dLc (dItems (dVar 0)) (uName 1) dYes (dCall (φ_row_line K) [] (dCons (dVar 1) dNil)) [1]))))
noncomputable def φ_table_lines (K : PySem.W.Frag) : List D → Res D := fnD 1 fun ds => finO (dn_table_lines K (startD ["table", "row"] ds))
theorem den_table_lines (K : PySem.W.Frag) : ∀ ds, φ_table_lines K ds ≠ .no → finO (dn_table_lines K (startD ["table", "row"] ds)) = φ_table_lines K ds := fun ds h => fnD_den h
theorem ar_table_lines (K : PySem.W.Frag) : ∀ ds, φ_table_lines K ds ≠ .no → ds.length = 1 := by
  exact fun _ h => fnD_ar h
/-! ### kit_lines -/
noncomputable def dn_kit_lines (K : PySem.W.Frag) : Sto → Out := (dSeq (dSetF 1 (dFl (dCons (d2 oAdd (dK (.str "kit ")) (dCall (φ_row_line K) [] (dCons (dTup (dCons (dFld (He.ga K "Kit") "high" (dVar 0)) (dCons (dFld (He.ga K "Kit") "wide" (dVar 0)) (dCons (dFld (He.ga K "Kit") "many" (dVar 0)) dNil)))) dNil))) dNil))) (dSeq (dFor (dItems (dFld (He.ga K "Kit") "tables" (dVar 0))) (uName 2) (dExt 1 (dSq (dCall (φ_table_lines K) [] (dCons (dVar 2) dNil))))) (fun δ => (dRet (dVar 1)) (fz 1 δ))))
noncomputable def φ_kit_lines (K : PySem.W.Frag) : List D → Res D := fnD 1 fun ds => finO (dn_kit_lines K (startD ["kit", "lines", "table"] ds))
theorem den_kit_lines (K : PySem.W.Frag) : ∀ ds, φ_kit_lines K ds ≠ .no → finO (dn_kit_lines K (startD ["kit", "lines", "table"] ds)) = φ_kit_lines K ds := fun ds h => fnD_den h
theorem ar_kit_lines (K : PySem.W.Frag) : ∀ ds, φ_kit_lines K ds ≠ .no → ds.length = 1 := by
  exact fun _ h => fnD_ar h
/-! ### room_lines -/
noncomputable def dn_room_lines (K : PySem.W.Frag) : Sto → Out := (dRet (d2 oAdd (dLst (dFl (dCons (d2 oAdd (dK (.str "room ")) (dCall (φ_row_line K) [] (dCons (dTup (dCons (dFld (He.ga K "Room") "size" (dVar 0)) (dCons (dFld (He.ga K "Room") "width" (dVar 0)) dNil))) dNil))) dNil))) (dLst (dLc (dItems (dFld (He.ga K "Room") "rows" (dVar 0))) (uName 1) dYes (dCall (φ_row_line K) [] (dCons (dVar 1) dNil)) [1]))))
noncomputable def φ_room_lines (K : PySem.W.Frag) : List D → Res D := fnD 1 fun ds => finO (dn_room_lines K (startD ["room", "row"] ds))
theorem den_room_lines (K : PySem.W.Frag) : ∀ ds, φ_room_lines K ds ≠ .no → finO (dn_room_lines K (startD ["room", "row"] ds)) = φ_room_lines K ds := fun ds h => fnD_den h
theorem ar_room_lines (K : PySem.W.Frag) : ∀ ds, φ_room_lines K ds ≠ .no → ds.length = 1 := by
  exact fun _ h => fnD_ar h
/-! ### taken_kit -/
noncomputable def dn_taken_kit (K : PySem.W.Frag) : Sto → Out := (dSeq (dAsg (uTup 3 (uCons (uName 5) (uCons (uName 6) (uCons (uName 7) uNil)))) (dCall (φ_taken_head K) [] (dCons (dVar 0) (dCons (dVar 1) (dCons (dK (.str "kit")) (dCons (dTup (dCons (dTup (dCons (dK (.int 1)) (dCons (dK (.int 8)) dNil))) (dCons (dTup (dCons (dK (.int 1)) (dCons (dK (.int 8)) dNil))) (dCons (dTup (dCons (dK (.int 1)) (dCons (dK (.int 40)) dNil))) dNil)))) dNil)))))) (dSeq (dSetF 2 (dFl dNil)) (dSeq (dSet 3 (d2 oAdd (dVar 1) (dK (.int 1)))) (dSeq (dFor (dNL rng1 (dCons (dVar 7) dNil)) (uName 4) (dSeq (dAsg (uTup 2 (uCons (uName 8) (uCons (uName 3) uNil))) (dCall (φ_taken_table K) [] (dCons (dVar 0) (dCons (dVar 3) (dCons (dVar 5) (dCons (dVar 6) dNil)))))) (dApp 2 (dVar 8)))) (fun δ => (dRet (dTup (dCons (dMake (He.ga K "Kit") (φ_Kit___init__ K) (df_Kit_1) (dCons (dVar 2) dNil)) (dCons (dVar 3) dNil)))) (fz 2 δ))))))
noncomputable def φ_taken_kit (K : PySem.W.Frag) : List D → Res D := fnD 2 fun ds => finO (dn_taken_kit K (startD ["lines", "at", "tables", "place", "_", "high", "wide", "many", "table"] ds))
theorem den_taken_kit (K : PySem.W.Frag) : ∀ ds, φ_taken_kit K ds ≠ .no → finO (dn_taken_kit K (startD ["lines", "at", "tables", "place", "_", "high", "wide", "many", "table"] ds)) = φ_taken_kit K ds := fun ds h => fnD_den h
theorem ar_taken_kit (K : PySem.W.Frag) : ∀ ds, φ_taken_kit K ds ≠ .no → ds.length = 2 := by
  exact fun _ h => fnD_ar h
/-! ### taken_room -/
noncomputable def dn_taken_room (K : PySem.W.Frag) : Sto → Out := (dSeq (dAsg (uTup 2 (uCons (uName 5) (uCons (uName 6) uNil))) (dCall (φ_taken_head K) [] (dCons (dVar 0) (dCons (dVar 1) (dCons (dK (.str "room")) (dCons (dTup (dCons (dTup (dCons (dK (.int 1)) (dCons (dK (.int 64)) dNil))) (dCons (dTup (dCons (dK (.int 0)) (dCons (dK (.int 64)) dNil))) dNil))) dNil)))))) (dSeq (dIf (dOr (dBool (d2 oGt (dVar 6) (dVar 5))) (dAnd (dBool (d2 oGt (dVar 2) (dK (.int 0)))) (dBool (d2 oNe (dVar 5) (dVar 2))))) (fun _ => .no) dSkip) (dSeq (dSetF 3 (dFl dNil)) (dSeq (dFor (dNL rng1 (dCons (dVar 6) dNil)) (uName 4) (dSeq (dApp 3 (dCall (φ_taken_row K) [] (dCons (dVar 0) (dCons (d2 oAdd (d2 oAdd (dVar 1) (dK (.int 1))) (dVar 4)) (dCons (dVar 5) dNil))))) (dIf (fun δ => (dBool (d2 oNe (dFld (He.ga K "Room") "rows" (dMake (He.ga K "Room") (φ_Room___init__ K) (df_Room_2) (dCons (dVar 5) (dCons (dVar 3) dNil)))) (dTupL (dSq (dVar 3))))) (fzs [3] δ)) (fun _ => .no) dSkip))) (fun δ => (dRet (dTup (dCons (dMake (He.ga K "Room") (φ_Room___init__ K) (df_Room_2) (dCons (dVar 5) (dCons (dVar 3) dNil))) (dCons (d2 oAdd (d2 oAdd (dVar 1) (dK (.int 1))) (dVar 6)) dNil)))) (fz 3 δ))))))
noncomputable def φ_taken_room (K : PySem.W.Frag) : List D → Res D := fnD 3 fun ds => finO (dn_taken_room K (startD ["lines", "at", "wanted", "rows", "k", "size", "width"] ds))
theorem den_taken_room (K : PySem.W.Frag) : ∀ ds, φ_taken_room K ds ≠ .no → finO (dn_taken_room K (startD ["lines", "at", "wanted", "rows", "k", "size", "width"] ds)) = φ_taken_room K ds := fun ds h => fnD_den h
theorem ar_taken_room (K : PySem.W.Frag) : ∀ ds, φ_taken_room K ds ≠ .no → ds.length = 3 := by
  exact fun _ h => fnD_ar h
/-! ### kit_text -/
noncomputable def dn_kit_text (K : PySem.W.Frag) : Sto → Out := (dRet (dJoin (dK (.str "\n")) (dSq (dCall (φ_kit_lines K) [] (dCons (dVar 0) dNil)))))
noncomputable def φ_kit_text (K : PySem.W.Frag) : List D → Res D := fnD 1 fun ds => finO (dn_kit_text K (startD ["kit"] ds))
theorem den_kit_text (K : PySem.W.Frag) : ∀ ds, φ_kit_text K ds ≠ .no → finO (dn_kit_text K (startD ["kit"] ds)) = φ_kit_text K ds := fun ds h => fnD_den h
theorem ar_kit_text (K : PySem.W.Frag) : ∀ ds, φ_kit_text K ds ≠ .no → ds.length = 1 := by
  exact fun _ h => fnD_ar h
/-! ### read_kit -/
noncomputable def dn_read_kit (K : PySem.W.Frag) : Sto → Out := (dSeq (dSet 1 (dLst (dSplit (dVar 0) (dK (.str "\n"))))) (dSeq (dAsg (uTup 2 (uCons (uName 2) (uCons (uName 3) uNil))) (dCall (φ_taken_kit K) [] (dCons (dVar 1) (dCons (dK (.int 0)) dNil)))) (dSeq (dExp (dCall (φ_check_end K) [] (dCons (dVar 1) (dCons (dVar 3) dNil)))) (dRet (dVar 2)))))
noncomputable def φ_read_kit (K : PySem.W.Frag) : List D → Res D := fnD 1 fun ds => finO (dn_read_kit K (startD ["text", "lines", "kit", "place"] ds))
theorem den_read_kit (K : PySem.W.Frag) : ∀ ds, φ_read_kit K ds ≠ .no → finO (dn_read_kit K (startD ["text", "lines", "kit", "place"] ds)) = φ_read_kit K ds := fun ds h => fnD_den h
theorem ar_read_kit (K : PySem.W.Frag) : ∀ ds, φ_read_kit K ds ≠ .no → ds.length = 1 := by
  exact fun _ h => fnD_ar h
/-! ### room_text -/
noncomputable def dn_room_text (K : PySem.W.Frag) : Sto → Out := (dRet (dJoin (dK (.str "\n")) (dSq (dCall (φ_room_lines K) [] (dCons (dVar 0) dNil)))))
noncomputable def φ_room_text (K : PySem.W.Frag) : List D → Res D := fnD 1 fun ds => finO (dn_room_text K (startD ["room"] ds))
theorem den_room_text (K : PySem.W.Frag) : ∀ ds, φ_room_text K ds ≠ .no → finO (dn_room_text K (startD ["room"] ds)) = φ_room_text K ds := fun ds h => fnD_den h
theorem ar_room_text (K : PySem.W.Frag) : ∀ ds, φ_room_text K ds ≠ .no → ds.length = 1 := by
  exact fun _ h => fnD_ar h
/-! ### read_room -/
noncomputable def dn_read_room (K : PySem.W.Frag) : Sto → Out := (dSeq (dSet 1 (dLst (dSplit (dVar 0) (dK (.str "\n"))))) (dSeq (dAsg (uTup 2 (uCons (uName 2) (uCons (uName 3) uNil))) (dCall (φ_taken_room K) [.int 0] (dCons (dVar 1) (dCons (dK (.int 0)) dNil)))) (dSeq (dExp (dCall (φ_check_end K) [] (dCons (dVar 1) (dCons (dVar 3) dNil)))) (dRet (dVar 2)))))
noncomputable def φ_read_room (K : PySem.W.Frag) : List D → Res D := fnD 1 fun ds => finO (dn_read_room K (startD ["text", "lines", "room", "place"] ds))
theorem den_read_room (K : PySem.W.Frag) : ∀ ds, φ_read_room K ds ≠ .no → finO (dn_read_room K (startD ["text", "lines", "room", "place"] ds)) = φ_read_room K ds := fun ds h => fnD_den h
theorem ar_read_room (K : PySem.W.Frag) : ∀ ds, φ_read_room K ds ≠ .no → ds.length = 1 := by
  exact fun _ h => fnD_ar h
/-! ### _law_cell -/
noncomputable def dn__law_cell (K : PySem.W.Frag) : Sto → Out := (dSeq (dIf (dBool (d2 oLt (dVar 1) (dN oLen (dCons (dVar 0) dNil)))) (dRet (d2 oIx (dVar 0) (dVar 1))) dSkip) (dSeq (dSet 2 (dK (.int 17))) (dSeq (dFor (dItems (dVar 0)) (uName 3) (dSet 2 (d2 oMod (dN oInt (dCons (d2 oAdd (d2 oMul (dVar 2) (dK (.int 31))) (d2 oMod (dN oInt (dCons (dVar 3) dNil)) (dK (.int 1000003)))) dNil)) (dK (.int 1000003))))) (dRet (d2 oMod (dN oInt (dCons (d2 oMul (d2 oMul (d2 oAdd (dVar 2) (dK (.int 7))) (d2 oAdd (dVar 1) (dK (.int 3)))) (dK (.int 69621))) dNil)) (dK (.int 2147483647)))))))
noncomputable def φ__law_cell (K : PySem.W.Frag) : List D → Res D := fnD 2 fun ds => finO (dn__law_cell K (startD ["script", "k", "seed", "cell"] ds))
theorem den__law_cell (K : PySem.W.Frag) : ∀ ds, φ__law_cell K ds ≠ .no → finO (dn__law_cell K (startD ["script", "k", "seed", "cell"] ds)) = φ__law_cell K ds := fun ds h => fnD_den h
theorem ar__law_cell (K : PySem.W.Frag) : ∀ ds, φ__law_cell K ds ≠ .no → ds.length = 2 := by
  exact fun _ h => fnD_ar h
/-! ### _law_digits -/
noncomputable def dn__law_digits (K : PySem.W.Frag) : Sto → Out := (dSeq (dSetF 2 (dFl dNil)) (dSeq (dSet 3 (dN oInt (dCons (dVar 0) dNil))) (dSeq (dIf (dBool (d2 oGe (dVar 3) (d2 oPow (dK (.int 10)) (dK (.int 18))))) (dSeq (dSet 3 (d2 oSub (dVar 3) (d2 oPow (dK (.int 10)) (dK (.int 18))))) (dSeq (dFor (dItems (dVar 1)) (uName 6) (dSeq (dApp 2 (d2 oMod (dN oInt (dCons (dVar 3) dNil)) (dVar 6))) (dSet 3 (d2 oFdiv (dN oInt (dCons (dVar 3) dNil)) (dVar 6))))) (fun δ => (dRet (dVar 2)) (fz 2 δ)))) dSkip) (dSeq (dSet 4 (d2 oMod (dN oInt (dCons (dVar 3) dNil)) (dK (.int 2147483629)))) (dSeq (dFor (dNL rng1 (dCons (dN oLen (dCons (dVar 1) dNil)) dNil)) (uName 5) (dSeq (dSet 4 (d2 oMod (dN oInt (dCons (d2 oAdd (d2 oAdd (d2 oMul (dVar 4) (dK (.int 48271))) (d2 oMul (dK (.int 974711)) (dVar 5))) (dK (.int 12345))) dNil)) (dK (.int 2147483647)))) (dSeq (dSet 7 (d2 oMod (dN oInt (dCons (d2 oMul (dVar 4) (d2 oAdd (d2 oFdiv (dVar 4) (dK (.int 65537))) (dK (.int 3)))) dNil)) (dK (.int 2147483629)))) (dApp 2 (d2 oMod (d2 oFdiv (dVar 7) (dK (.int 19))) (d2 oIx (dVar 1) (dVar 5))))))) (fun δ => (dRet (dVar 2)) (fz 2 δ)))))))
noncomputable def φ__law_digits (K : PySem.W.Frag) : List D → Res D := fnD 2 fun ds => finO (dn__law_digits K (startD ["cell", "sizes", "row", "rest", "seed", "k", "size", "twice"] ds))
theorem den__law_digits (K : PySem.W.Frag) : ∀ ds, φ__law_digits K ds ≠ .no → finO (dn__law_digits K (startD ["cell", "sizes", "row", "rest", "seed", "k", "size", "twice"] ds)) = φ__law_digits K ds := fun ds h => fnD_den h
theorem ar__law_digits (K : PySem.W.Frag) : ∀ ds, φ__law_digits K ds ≠ .no → ds.length = 2 := by
  exact fun _ h => fnD_ar h
/-! ### _law_gcd -/
noncomputable def dn__law_gcd (K : PySem.W.Frag) : Sto → Out := (dSeq (dSet 2 (dN oAbs (dCons (dVar 0) dNil))) (dSeq (dSet 3 (dN oAbs (dCons (dVar 1) dNil))) (dSeq (dWhile (fuelI 3) (dBool (d2 oNe (dVar 3) (dK (.int 0)))) (dSeq (dSet 4 (d2 oMod (dN oInt (dCons (dVar 2) dNil)) (dVar 3))) (dSeq (dSet 2 (dVar 3)) (dSet 3 (dVar 4))))) (dRet (dVar 2)))))
noncomputable def φ__law_gcd (K : PySem.W.Frag) : List D → Res D := fnD 2 fun ds => finO (dn__law_gcd K (startD ["one", "other", "left", "right", "rest"] ds))
theorem den__law_gcd (K : PySem.W.Frag) : ∀ ds, φ__law_gcd K ds ≠ .no → finO (dn__law_gcd K (startD ["one", "other", "left", "right", "rest"] ds)) = φ__law_gcd K ds := fun ds h => fnD_den h
theorem ar__law_gcd (K : PySem.W.Frag) : ∀ ds, φ__law_gcd K ds ≠ .no → ds.length = 2 := by
  exact fun _ h => fnD_ar h
/-! ### _law_lowest -/
noncomputable def dn__law_lowest (K : PySem.W.Frag) : Sto → Out := (dSeq (dSet 1 (dK (.int 0))) (dSeq (dSet 2 (dK (.int 0))) (dSeq (dFor (dItems (dVar 0)) (uName 3) (dSeq (dSet 1 (dCall (φ__law_gcd K) [] (dCons (dVar 1) (dCons (dVar 3) dNil)))) (dIf (dAnd (dBool (d2 oEq (dVar 2) (dK (.int 0)))) (dBool (d2 oNe (dVar 3) (dK (.int 0))))) (dSet 2 (d2 oSub (dK (.int 1)) (d2 oMul (dK (.int 2)) (dN oInt (dCons (d2 oLt (dVar 3) (dK (.int 0))) dNil))))) dSkip))) (dSeq (dIf (dBool (d2 oEq (dVar 1) (dK (.int 0)))) (dRet (dLst (dLc (dItems (dVar 0)) (uName 3) dYes (dVar 3) [3]))) dSkip) (dRet (dLst (dLc (dItems (dVar 0)) (uName 3) dYes (d2 oFdiv (d2 oMul (dVar 2) (dVar 3)) (dVar 1)) [3])))))))
noncomputable def φ__law_lowest (K : PySem.W.Frag) : List D → Res D := fnD 1 fun ds => finO (dn__law_lowest K (startD ["row", "common", "sign", "number"] ds))
theorem den__law_lowest (K : PySem.W.Frag) : ∀ ds, φ__law_lowest K ds ≠ .no → finO (dn__law_lowest K (startD ["row", "common", "sign", "number"] ds)) = φ__law_lowest K ds := fun ds h => fnD_den h
theorem ar__law_lowest (K : PySem.W.Frag) : ∀ ds, φ__law_lowest K ds ≠ .no → ds.length = 1 := by
  exact fun _ h => fnD_ar h
/-! ### _law_reduced -/
noncomputable def dn__law_reduced (K : PySem.W.Frag) : Sto → Out := (dSeq (dSetF 2 (dLc (dItems (dVar 0)) (uName 7) dYes (dLst (dLc (dItems (dVar 7)) (uName 8) dYes (dVar 8) [8])) [7])) (dSeq (dSet 3 (dK (.int 0))) (dSeq (dFor (dNL rng1 (dCons (dVar 1) dNil)) (uName 4) (dSeq (dSet 5 (d1 oNeg (dK (.int 1)))) (dSeq (dFor (dNL rng2 (dCons (dVar 3) (dCons (dLenL (dOwn 2)) dNil))) (uName 6) (dIf (dAnd (dBool (d2 oLt (dVar 5) (dK (.int 0)))) (dBool (d2 oNe (d2 oIx (dIxL (dOwn 2) (dVar 6)) (dVar 4)) (dK (.int 0))))) (dSet 5 (dVar 6)) dSkip)) (dIf (dBool (d2 oGe (dVar 5) (dK (.int 0)))) (dSeq (dSet 7 (dCall (φ__law_lowest K) [] (dCons (dIxL (dOwn 2) (dVar 5)) dNil))) (dSeq (dPut 2 (dVar 5) (dIxL (dOwn 2) (dVar 3))) (dSeq (dPut 2 (dVar 3) (dVar 7)) (dSeq (dFor (dNL rng1 (dCons (dLenL (dOwn 2)) dNil)) (uName 6) (dIf (dAnd (dBool (d2 oNe (dVar 6) (dVar 3))) (dBool (d2 oNe (d2 oIx (dIxL (dOwn 2) (dVar 6)) (dVar 4)) (dK (.int 0))))) (dSeq (dSet 9 (dIxL (dOwn 2) (dVar 6))) (dPut 2 (dVar 6) (dCall (φ__law_lowest K) [] (dCons (dLst (dLc (dNL rng1 (dCons (dVar 1) dNil)) (uName 10) dYes (d2 oSub (d2 oMul (d2 oIx (dVar 7) (dVar 4)) (d2 oIx (dVar 9) (dVar 10))) (d2 oMul (d2 oIx (dVar 9) (dVar 4)) (d2 oIx (dVar 7) (dVar 10)))) [10])) dNil)))) dSkip)) (dSet 3 (d2 oAdd (dVar 3) (dK (.int 1)))))))) dSkip)))) (dRet (dLst (dLc (dNL rng1 (dCons (dVar 3) dNil)) (uName 6) dYes (dIxL (dOwn 2) (dVar 6)) [6]))))))
noncomputable def φ__law_reduced (K : PySem.W.Frag) : List D → Res D := fnD 2 fun ds => finO (dn__law_reduced K (startD ["rows", "size", "basis", "at", "column", "pick", "k", "row", "number", "other", "j"] ds))
theorem den__law_reduced (K : PySem.W.Frag) : ∀ ds, φ__law_reduced K ds ≠ .no → finO (dn__law_reduced K (startD ["rows", "size", "basis", "at", "column", "pick", "k", "row", "number", "other", "j"] ds)) = φ__law_reduced K ds := fun ds h => fnD_den h
theorem ar__law_reduced (K : PySem.W.Frag) : ∀ ds, φ__law_reduced K ds ≠ .no → ds.length = 2 := by
  exact fun _ h => fnD_ar h
/-! ### _law_product -/
noncomputable def dn__law_product (K : PySem.W.Frag) : Sto → Out := (dSeq (dSetV 2 1 dNilT) (dSeq (dFor (dItems (dVar 0)) (uName 3) (dSeq (dSetF 4 (dFl dNil)) (dSeq (dFor (dNL rng1 (dCons (dN oLen (dCons (d2 oIx (dVar 1) (dK (.int 0))) dNil)) dNil)) (uName 5) (dSeq (dSet 6 (dK (.int 0))) (dSeq (dFor (dNL rng1 (dCons (dN oLen (dCons (dVar 1) dNil)) dNil)) (uName 7) (dSet 6 (d2 oAdd (dVar 6) (d2 oMul (d2 oIx (dVar 3) (dVar 7)) (d2 oIx (d2 oIx (dVar 1) (dVar 7)) (dVar 5)))))) (dApp 4 (dVar 6))))) (dAppO 2 4)))) (dRetTr 2)))
noncomputable def φ__law_product (K : PySem.W.Frag) : List D → Res D := fnD 2 fun ds => finV 2 (dn__law_product K (startD ["left", "right", "out", "row", "line", "j", "total", "k"] ds))
theorem den__law_product (K : PySem.W.Frag) : ∀ ds, φ__law_product K ds ≠ .no → finV 2 (dn__law_product K (startD ["left", "right", "out", "row", "line", "j", "total", "k"] ds)) = φ__law_product K ds := fun ds h => fnD_den h
theorem ar__law_product (K : PySem.W.Frag) : ∀ ds, φ__law_product K ds ≠ .no → ds.length = 2 := by
  exact fun _ h => fnD_ar h
/-! ### _law_tuple -/
noncomputable def dn__law_tuple (K : PySem.W.Frag) : Sto → Out := (dRet (dTupL (dSq (dLst (dLc (dItems (dVar 0)) (uName 1) dYes (dTupL (dSq (dVar 1))) [1])))))
noncomputable def φ__law_tuple (K : PySem.W.Frag) : List D → Res D := fnD 1 fun ds => finO (dn__law_tuple K (startD ["table", "row"] ds))
theorem den__law_tuple (K : PySem.W.Frag) : ∀ ds, φ__law_tuple K ds ≠ .no → finO (dn__law_tuple K (startD ["table", "row"] ds)) = φ__law_tuple K ds := fun ds h => fnD_den h
theorem ar__law_tuple (K : PySem.W.Frag) : ∀ ds, φ__law_tuple K ds ≠ .no → ds.length = 1 := by
  exact fun _ h => fnD_ar h
/-! ### _law_frame -/
noncomputable def dn__law_frame (K : PySem.W.Frag) : Sto → Out := (dSeq (dSetF 2 (dLc (dNL rng1 (dCons (dVar 0) dNil)) (uName 7) dYes (dLst (dLc (dNL rng1 (dCons (dVar 0) dNil)) (uName 10) dYes (dN oInt (dCons (d2 oEq (dVar 7) (dVar 10)) dNil)) [10])) [7])) (dSeq (dFor (dNL rng1 (dCons (d2 oFdiv (dN oLen (dCons (dVar 1) dNil)) (dK (.int 3))) dNil)) (uName 3) (dSeq (dSet 4 (d2 oMod (dN oInt (dCons (d2 oIx (dVar 1) (d2 oMul (dK (.int 3)) (dVar 3))) dNil)) (dVar 0))) (dSeq (dSet 5 (d2 oMod (dN oInt (dCons (d2 oIx (dVar 1) (d2 oAdd (d2 oMul (dK (.int 3)) (dVar 3)) (dK (.int 1)))) dNil)) (dVar 0))) (dSeq (dSet 6 (d2 oIx (dLst (dFl (dCons (dK (.int 1)) (dCons (d1 oNeg (dK (.int 1))) (dCons (dK (.int 2)) (dCons (dK (.int 1)) (dCons (d1 oNeg (dK (.int 2))) dNil))))))) (d2 oMod (dN oInt (dCons (d2 oIx (dVar 1) (d2 oAdd (d2 oMul (dK (.int 3)) (dVar 3)) (dK (.int 2)))) dNil)) (dK (.int 5))))) (dSeq (dIf (dBool (d2 oNe (dVar 4) (dVar 5))) (dSeq (dSet 8 (dIxL (dOwn 2) (dVar 4))) (dSeq (dSet 9 (dIxL (dOwn 2) (dVar 5))) (dPut 2 (dVar 4) (dLst (dLc (dNL rng1 (dCons (dVar 0) dNil)) (uName 10) dYes (d2 oAdd (d2 oIx (dVar 8) (dVar 10)) (d2 oMul (dVar 6) (d2 oIx (dVar 9) (dVar 10)))) [10]))))) dSkip) (dIf (dAnd (dBool (d2 oEq (dVar 4) (dVar 5))) (dBool (d2 oGt (dVar 6) (dK (.int 0))))) (dSeq (dSet 8 (dIxL (dOwn 2) (dVar 4))) (dPut 2 (dVar 4) (dLst (dLc (dItems (dVar 8)) (uName 11) dYes (d2 oSub (dK (.int 0)) (d2 oMul (dVar 6) (dVar 11))) [11])))) dSkip)))))) (fun δ => (dRet (dVar 2)) (fz 2 δ))))
noncomputable def φ__law_frame (K : PySem.W.Frag) : List D → Res D := fnD 2 fun ds => finO (dn__law_frame K (startD ["size", "row", "frame", "k", "one", "two", "times", "i", "head", "base", "j", "number"] ds))
theorem den__law_frame (K : PySem.W.Frag) : ∀ ds, φ__law_frame K ds ≠ .no → finO (dn__law_frame K (startD ["size", "row", "frame", "k", "one", "two", "times", "i", "head", "base", "j", "number"] ds)) = φ__law_frame K ds := fun ds h => fnD_den h
theorem ar__law_frame (K : PySem.W.Frag) : ∀ ds, φ__law_frame K ds ≠ .no → ds.length = 2 := by
  exact fun _ h => fnD_ar h
/-! ### _law_small -/
noncomputable def dn__law_small (K : PySem.W.Frag) : Sto → Out := (dSeq (dSet 4 (dLst (dFl (dCons (dK (.int 0)) (dCons (dK (.int 1)) (dCons (dK (.int 0)) (dCons (d1 oNeg (dK (.int 1))) (dCons (dK (.int 2)) (dCons (dK (.int 0)) (dCons (dK (.int 1)) dNil)))))))))) (dRetV 1 (dLst (dLc (dNL rng1 (dCons (dVar 2) dNil)) (uName 5) dYes (dLst (dLc (dNL rng1 (dCons (dVar 3) dNil)) (uName 6) dYes (d2 oIx (dVar 4) (d2 oMod (dN oInt (dCons (d2 oIx (dVar 0) (d2 oMod (d2 oAdd (d2 oAdd (d2 oAdd (dVar 1) (d2 oMul (dK (.int 11)) (dVar 5))) (d2 oMul (dK (.int 5)) (dVar 6))) (d2 oMul (dVar 5) (dVar 6))) (dN oLen (dCons (dVar 0) dNil)))) dNil)) (dK (.int 7)))) [6])) [5]))))
noncomputable def φ__law_small (K : PySem.W.Frag) : List D → Res D := fnD 4 fun ds => finV 2 (dn__law_small K (startD ["row", "at", "high", "wide", "menu", "i", "j"] ds))
theorem den__law_small (K : PySem.W.Frag) : ∀ ds, φ__law_small K ds ≠ .no → finV 2 (dn__law_small K (startD ["row", "at", "high", "wide", "menu", "i", "j"] ds)) = φ__law_small K ds := fun ds h => fnD_den h
theorem ar__law_small (K : PySem.W.Frag) : ∀ ds, φ__law_small K ds ≠ .no → ds.length = 4 := by
  exact fun _ h => fnD_ar h
/-! ### _law_turned -/
noncomputable def dn__law_turned (K : PySem.W.Frag) : Sto → Out := (dSeq (dSetV 3 1 (dLst (dLc (dNL rng1 (dCons (dVar 2) dNil)) (uName 4) dYes (dLst (dLc (dNL rng1 (dCons (dVar 2) dNil)) (uName 6) dYes (dK (.int 0)) [6])) [4]))) (dSeq (dFor (dNL rng1 (dCons (dVar 2) dNil)) (uName 4) (dSeq (dSetA 5 (dNodeIx (dNodeV 3) (dVar 4))) (dFor (dNL rng2 (dCons (d2 oAdd (dVar 4) (dK (.int 1))) (dCons (dVar 2) dNil))) (uName 6) (dSeq (dSet 7 (d2 oIx (dLst (dFl (dCons (dK (.int 0)) (dCons (dK (.int 1)) (dCons (d1 oNeg (dK (.int 1))) (dCons (dK (.int 2)) (dCons (dK (.int 0)) (dCons (dK (.int 1)) (dCons (dK (.int 1)) dNil))))))))) (d2 oMod (dN oInt (dCons (d2 oIx (dVar 0) (d2 oMod (d2 oAdd (d2 oAdd (dVar 1) (d2 oMul (dK (.int 7)) (dVar 4))) (d2 oMul (dK (.int 3)) (dVar 6))) (dN oLen (dCons (dVar 0) dNil)))) dNil)) (dK (.int 7))))) (dSeq (dPutT (dNodeV 5) (dVar 6) (dVar 7)) (dSeq (dSetA 8 (dNodeIx (dNodeV 3) (dVar 6))) (dPutT (dNodeV 8) (dVar 4) (d2 oSub (dK (.int 0)) (dVar 7))))))))) (fun δ => (dRet (dVar 3)) (fz 3 δ))))
noncomputable def φ__law_turned (K : PySem.W.Frag) : List D → Res D := fnD 3 fun ds => finO (dn__law_turned K (startD ["row", "at", "size", "out", "i", "line", "j", "number", "other"] ds))
theorem den__law_turned (K : PySem.W.Frag) : ∀ ds, φ__law_turned K ds ≠ .no → finO (dn__law_turned K (startD ["row", "at", "size", "out", "i", "line", "j", "number", "other"] ds)) = φ__law_turned K ds := fun ds h => fnD_den h
theorem ar__law_turned (K : PySem.W.Frag) : ∀ ds, φ__law_turned K ds ≠ .no → ds.length = 3 := by
  exact fun _ h => fnD_ar h
/-! ### _law_made -/
noncomputable def dn__law_made (K : PySem.W.Frag) : Sto → Out := (dSeq (dSetV 5 1 (dCall (φ__law_small K) [] (dCons (dVar 2) (dCons (d2 oMul (dK (.int 13)) (dVar 1)) (dCons (dVar 3) (dCons (dVar 4) dNil)))))) (dSeq (dIf (dBool (d2 oIn (dVar 0) (dLst (dFl (dCons (dK (.int 2)) (dCons (dK (.int 3)) (dCons (dK (.int 4)) (dCons (dK (.int 5)) dNil)))))))) (dSeq (dSet 6 (d2 oAdd (dK (.int 1)) (d2 oMod (dN oInt (dCons (d2 oIx (dVar 2) (dK (.int 5))) dNil)) (dVar 3)))) (dSeq (dSet 7 (d2 oAdd (dK (.int 1)) (d2 oMod (dN oInt (dCons (d2 oIx (dVar 2) (dK (.int 6))) dNil)) (dVar 4)))) (dFor (dNL rng1 (dCons (dVar 3) dNil)) (uName 8) (dSeq (dSetA 10 (dNodeIx (dNodeV 5) (dVar 8))) (dFor (dNL rng1 (dCons (dVar 4) dNil)) (uName 11) (dIf (dAnd (dBool (d2 oGe (dVar 8) (d2 oSub (dVar 3) (dVar 6)))) (dBool (d2 oLt (dVar 11) (dVar 7)))) (dPutT (dNodeV 10) (dVar 11) (dK (.int 0))) dSkip)))))) dSkip) (dSeq (dIf (dAnd (dBool (d2 oIn (dVar 0) (dLst (dFl (dCons (dK (.int 6)) (dCons (dK (.int 7)) dNil)))))) (dBool (d2 oEq (dVar 3) (dVar 4)))) (dSet 5 (dCall (φ__law_turned K) [] (dCons (dVar 2) (dCons (d2 oMul (dK (.int 9)) (dVar 1)) (dCons (dVar 3) dNil))))) dSkip) (dSeq (dIf (dBool (d2 oEq (dVar 0) (dK (.int 8)))) (fun δ => (dSetF 5 (dLc (dNL rng1 (dCons (dVar 3) dNil)) (uName 8) dYes (dLst (dLc (dNL rng1 (dCons (dVar 4) dNil)) (uName 11) dYes (d2 oMul (d2 oIx (d2 oIx (dVar 5) (dVar 8)) (dK (.int 0))) (d2 oIx (d2 oIx (dVar 5) (dK (.int 0))) (dVar 11))) [11])) [8])) (fz 5 δ)) dSkip) (dSeq (dIf (dBool (d2 oEq (dVar 0) (dK (.int 9)))) (dSeq (dSet 9 (d2 oMod (dN oInt (dCons (d2 oAdd (d2 oAdd (d2 oMul (d2 oIx (dVar 2) (dVar 1)) (dK (.int 7))) (d2 oIx (dVar 2) (d2 oAdd (dVar 1) (dK (.int 1))))) (dVar 1)) dNil)) (d2 oMul (dVar 3) (dVar 4)))) (dSetF 5 (dLc (dNL rng1 (dCons (dVar 3) dNil)) (uName 8) dYes (dLst (dLc (dNL rng1 (dCons (dVar 4) dNil)) (uName 11) dYes (dN oInt (dCons (d2 oEq (d2 oAdd (d2 oMul (dVar 8) (dVar 4)) (dVar 11)) (dVar 9)) dNil)) [11])) [8]))) dSkip) (dSeq (dIf (dBool (d2 oEq (dVar 0) (dK (.int 10)))) (dFor (dNL rng1 (dCons (dVar 3) dNil)) (uName 8) (dSeq (dSetA 10 (dNodeIx (dNodeV 5) (dVar 8))) (dFor (dNL rng1 (dCons (dVar 4) dNil)) (uName 11) (dIf (dOr (dBool (d2 oNe (d2 oLt (dVar 8) (d2 oFdiv (dVar 3) (dK (.int 2)))) (d2 oLt (dVar 11) (d2 oFdiv (dVar 4) (dK (.int 2)))))) (dBool (d2 oEq (d2 oMod (d2 oAdd (dVar 1) (dN oInt (dCons (d2 oLt (dVar 8) (d2 oFdiv (dVar 3) (dK (.int 2)))) dNil))) (dK (.int 2))) (dK (.int 0))))) (dPutT (dNodeV 10) (dVar 11) (dK (.int 0))) dSkip)))) dSkip) (fun δ => (dRet (dVar 5)) (fz 5 δ))))))))
noncomputable def φ__law_made (K : PySem.W.Frag) : List D → Res D := fnD 5 fun ds => finO (dn__law_made K (startD ["kind", "t", "row", "high", "wide", "table", "down", "over", "i", "place", "line", "j"] ds))
theorem den__law_made (K : PySem.W.Frag) : ∀ ds, φ__law_made K ds ≠ .no → finO (dn__law_made K (startD ["kind", "t", "row", "high", "wide", "table", "down", "over", "i", "place", "line", "j"] ds)) = φ__law_made K ds := fun ds h => fnD_den h
theorem ar__law_made (K : PySem.W.Frag) : ∀ ds, φ__law_made K ds ≠ .no → ds.length = 5 := by
  exact fun _ h => fnD_ar h
/-! ### _law_kit -/
noncomputable def dn__law_kit (K : PySem.W.Frag) : Sto → Out := (dSeq (dSet 3 (dCall (φ__law_digits K) [] (dCons (dCall (φ__law_cell K) [] (dCons (dVar 0) (dCons (dVar 1) dNil))) (dCons (dLst (dFl (dCons (dK (.int 12)) (dCons (dK (.int 6)) (dCons (dK (.int 6)) (dCons (dK (.int 4)) (dCons (dK (.int 5)) (dCons (dK (.int 5)) dNil)))))))) dNil)))) (dSeq (dSet 4 (dCall (φ__law_digits K) [] (dCons (dCall (φ__law_cell K) [] (dCons (dVar 0) (dCons (d2 oAdd (dVar 1) (dK (.int 1))) dNil))) (dCons (d2 oMul (dLst (dFl (dCons (dK (.int 7)) dNil))) (dK (.int 40))) dNil)))) (dSeq (dSet 5 (dCall (φ__law_digits K) [] (dCons (dCall (φ__law_cell K) [] (dCons (dVar 0) (dCons (d2 oAdd (dVar 1) (dK (.int 2))) dNil))) (dCons (d2 oMul (dLst (dFl (dCons (dK (.int 4)) (dCons (dK (.int 4)) (dCons (dK (.int 5)) dNil))))) (dK (.int 10))) dNil)))) (dSeq (dSet 6 (d2 oIx (dVar 3) (dK (.int 0)))) (dSeq (dSet 7 (dN oMin2 (dCons (dVar 2) (dCons (d2 oIx (dLst (dFl (dCons (dK (.int 3)) (dCons (dK (.int 3)) (dCons (dK (.int 2)) (dCons (dK (.int 4)) (dCons (dK (.int 3)) (dCons (dK (.int 3)) dNil)))))))) (d2 oIx (dVar 3) (dK (.int 1)))) dNil)))) (dSeq (dSet 8 (dVar 7)) (dSeq (dIf (dAnd (dBool (d2 oEq (d2 oIx (dVar 3) (dK (.int 2))) (dK (.int 5)))) (dBool (d2 oNotIn (dVar 6) (dLst (dFl (dCons (dK (.int 6)) (dCons (dK (.int 7)) dNil))))))) (dSet 8 (dN oMax2 (dCons (dK (.int 1)) (dCons (d2 oSub (dVar 7) (dK (.int 1))) dNil)))) dSkip) (dSeq (dIf (dAnd (dBool (d2 oEq (d2 oIx (dVar 3) (dK (.int 2))) (dK (.int 4)))) (dBool (d2 oNotIn (dVar 6) (dLst (dFl (dCons (dK (.int 6)) (dCons (dK (.int 7)) dNil))))))) (dSet 7 (dN oMax2 (dCons (dK (.int 1)) (dCons (d2 oSub (dVar 7) (dK (.int 1))) dNil)))) dSkip) (dSeq (dSet 9 (d2 oIx (dLst (dFl (dCons (dK (.int 2)) (dCons (dK (.int 3)) (dCons (dK (.int 3)) (dCons (dK (.int 4)) dNil)))))) (d2 oIx (dVar 3) (dK (.int 3))))) (dSeq (dIf (dBool (d2 oIn (dVar 6) (dLst (dFl (dCons (dK (.int 6)) (dCons (dK (.int 7)) (dCons (dK (.int 9)) dNil))))))) (dSet 9 (d2 oAdd (dVar 9) (dK (.int 1)))) dSkip) (dSeq (dSetF 10 (dLc (dNL rng1 (dCons (dVar 9) dNil)) (uName 15) dYes (dCall (φ__law_made K) [] (dCons (dVar 6) (dCons (dVar 15) (dCons (dVar 4) (dCons (dVar 7) (dCons (dVar 8) dNil)))))) [15])) (dSeq (dIf (dBool (d2 oIn (dVar 6) (dLst (dFl (dCons (dK (.int 2)) (dCons (dK (.int 3)) (dCons (dK (.int 4)) (dCons (dK (.int 5)) (dCons (dK (.int 7)) (dCons (dK (.int 10)) (dCons (dK (.int 11)) dNil))))))))))) (dSeq (dSet 11 (dCall (φ__law_frame K) [] (dCons (dVar 7) (dCons (dCut (dVar 5) dNoO (dSoO (dK (.int 12)))) dNil)))) (dSeq (dSet 12 (dCall (φ__law_frame K) [] (dCons (dVar 8) (dCons (dCut (dVar 5) (dSoO (dK (.int 12))) (dSoO (dK (.int 24)))) dNil)))) (fun δ => (dSetV 10 2 (dLst (dLc (dItems (dVar 10)) (uName 16) dYes (dCall (φ__law_product K) [] (dCons (dCall (φ__law_product K) [] (dCons (dVar 11) (dCons (dVar 16) dNil))) (dCons (dVar 12) dNil))) [16]))) (fz 10 δ)))) dSkip) (dSeq (dIf (dBool (d2 oEq (dVar 6) (dK (.int 5)))) (dSeq (dSetA 13 (dNodeIx (dNodeIx (dNodeV 10) (dK (.int 0))) (d2 oMod (dN oInt (dCons (d2 oIx (dVar 4) (dK (.int 7))) dNil)) (dVar 7)))) (dSeq (dSet 14 (d2 oMod (dN oInt (dCons (d2 oIx (dVar 4) (dK (.int 8))) dNil)) (dVar 8))) (dPutT (dNodeV 13) (dVar 14) (d2 oAdd (dLeaf (dNodeV 13) (dVar 14)) (dK (.int 1)))))) dSkip) (fun δ => (dRet (dVar 10)) (fz 10 δ)))))))))))))))
noncomputable def φ__law_kit (K : PySem.W.Frag) : List D → Res D := fnD 3 fun ds => finO (dn__law_kit K (startD ["script", "at", "most", "shape", "row", "turn", "kind", "high", "wide", "many", "tables", "left", "right", "line", "place", "t", "table"] ds))
theorem den__law_kit (K : PySem.W.Frag) : ∀ ds, φ__law_kit K ds ≠ .no → finO (dn__law_kit K (startD ["script", "at", "most", "shape", "row", "turn", "kind", "high", "wide", "many", "tables", "left", "right", "line", "place", "t", "table"] ds)) = φ__law_kit K ds := fun ds h => fnD_den h
theorem ar__law_kit (K : PySem.W.Frag) : ∀ ds, φ__law_kit K ds ≠ .no → ds.length = 3 := by
  exact fun _ h => fnD_ar h
/-! ### _law_row_line -/
noncomputable def dn__law_row_line (K : PySem.W.Frag) : Sto → Out := (dRet (dJoin (dK (.str " ")) (dSq (dLst (dLc (dItems (dVar 0)) (uName 1) dYes (dN oStr (dCons (dVar 1) dNil)) [1])))))
noncomputable def φ__law_row_line (K : PySem.W.Frag) : List D → Res D := fnD 1 fun ds => finO (dn__law_row_line K (startD ["row", "number"] ds))
theorem den__law_row_line (K : PySem.W.Frag) : ∀ ds, φ__law_row_line K ds ≠ .no → finO (dn__law_row_line K (startD ["row", "number"] ds)) = φ__law_row_line K ds := fun ds h => fnD_den h
theorem ar__law_row_line (K : PySem.W.Frag) : ∀ ds, φ__law_row_line K ds ≠ .no → ds.length = 1 := by
  exact fun _ h => fnD_ar h
/-! ### _law_kit_lines -/
noncomputable def dn__law_kit_lines (K : PySem.W.Frag) : Sto → Out := (dSeq (dSet 1 (dLst (dFl (dCons (d2 oAdd (dK (.str "kit ")) (dCall (φ__law_row_line K) [] (dCons (dLst (dFl (dCons (dN oLen (dCons (d2 oIx (dVar 0) (dK (.int 0))) dNil)) (dCons (dN oLen (dCons (d2 oIx (d2 oIx (dVar 0) (dK (.int 0))) (dK (.int 0))) dNil)) (dCons (dN oLen (dCons (dVar 0) dNil)) dNil))))) dNil))) dNil)))) (dSeq (dFor (dItems (dVar 0)) (uName 2) (dSet 1 (d2 oAdd (d2 oAdd (dVar 1) (dLst (dFl (dCons (dK (.str "table")) dNil)))) (dLst (dLc (dItems (dVar 2)) (uName 3) dYes (dCall (φ__law_row_line K) [] (dCons (dVar 3) dNil)) [3]))))) (dRet (dVar 1))))
noncomputable def φ__law_kit_lines (K : PySem.W.Frag) : List D → Res D := fnD 1 fun ds => finO (dn__law_kit_lines K (startD ["tables", "lines", "table", "row"] ds))
theorem den__law_kit_lines (K : PySem.W.Frag) : ∀ ds, φ__law_kit_lines K ds ≠ .no → finO (dn__law_kit_lines K (startD ["tables", "lines", "table", "row"] ds)) = φ__law_kit_lines K ds := fun ds h => fnD_den h
theorem ar__law_kit_lines (K : PySem.W.Frag) : ∀ ds, φ__law_kit_lines K ds ≠ .no → ds.length = 1 := by
  exact fun _ h => fnD_ar h
/-! ### _law_room_lines -/
noncomputable def dn__law_room_lines (K : PySem.W.Frag) : Sto → Out := (dRet (d2 oAdd (dLst (dFl (dCons (d2 oAdd (dK (.str "room ")) (dCall (φ__law_row_line K) [] (dCons (dLst (dFl (dCons (dVar 0) (dCons (dN oLen (dCons (dVar 1) dNil)) dNil)))) dNil))) dNil))) (dLst (dLc (dItems (dVar 1)) (uName 2) dYes (dCall (φ__law_row_line K) [] (dCons (dVar 2) dNil)) [2]))))
noncomputable def φ__law_room_lines (K : PySem.W.Frag) : List D → Res D := fnD 2 fun ds => finO (dn__law_room_lines K (startD ["size", "rows", "row"] ds))
theorem den__law_room_lines (K : PySem.W.Frag) : ∀ ds, φ__law_room_lines K ds ≠ .no → finO (dn__law_room_lines K (startD ["size", "rows", "row"] ds)) = φ__law_room_lines K ds := fun ds h => fnD_den h
theorem ar__law_room_lines (K : PySem.W.Frag) : ∀ ds, φ__law_room_lines K ds ≠ .no → ds.length = 2 := by
  exact fun _ h => fnD_ar h
/-! ### _law_large -/
noncomputable def dn__law_large (K : PySem.W.Frag) : Sto → Out := (dSeq (dSet 2 (dCall (φ__law_digits K) [] (dCons (dVar 0) (dCons (d2 oAdd (dLst (dFl (dCons (dK (.int 2)) dNil))) (d2 oMul (dLst (dFl (dCons (d2 oPow (dK (.int 10)) (dK (.int 10))) dNil))) (dK (.int 6)))) dNil)))) (dSeq (dSet 3 (dK (.int 0))) (dSeq (dFor (dNL rng1 (dCons (dK (.int 6)) dNil)) (uName 4) (dSet 3 (d2 oAdd (d2 oMul (dVar 3) (d2 oPow (dK (.int 10)) (dK (.int 10)))) (d2 oIx (dVar 2) (d2 oAdd (dVar 4) (dK (.int 1))))))) (dSeq (dSet 5 (dK (.int 1))) (dSeq (dFor (dNL rng1 (dCons (dVar 1) dNil)) (uName 4) (dSet 5 (d2 oMul (dVar 5) (dK (.int 10))))) (dSeq (dSet 3 (d2 oMod (dN oInt (dCons (dVar 3) dNil)) (dVar 5))) (dRet (d2 oSub (dVar 3) (d2 oMul (d2 oMul (dK (.int 2)) (d2 oIx (dVar 2) (dK (.int 0)))) (dVar 3))))))))))
noncomputable def φ__law_large (K : PySem.W.Frag) : List D → Res D := fnD 2 fun ds => finO (dn__law_large K (startD ["cell", "figures", "row", "total", "k", "most"] ds))
theorem den__law_large (K : PySem.W.Frag) : ∀ ds, φ__law_large K ds ≠ .no → finO (dn__law_large K (startD ["cell", "figures", "row", "total", "k", "most"] ds)) = φ__law_large K ds := fun ds h => fnD_den h
theorem ar__law_large (K : PySem.W.Frag) : ∀ ds, φ__law_large K ds ≠ .no → ds.length = 2 := by
  exact fun _ h => fnD_ar h
/-! ### _law_tables -/
noncomputable def dn__law_tables (K : PySem.W.Frag) : Sto → Out := (dSeq (dSet 1 (dCall (φ__law_digits K) [] (dCons (dCall (φ__law_cell K) [] (dCons (dVar 0) (dCons (dK (.int 0)) dNil))) (dCons (dLst (dFl (dCons (dK (.int 5)) (dCons (dK (.int 8)) (dCons (dK (.int 8)) (dCons (dK (.int 40)) (dCons (dK (.int 61)) dNil))))))) dNil)))) (dSeq (dIf (dBool (d2 oLt (d2 oIx (dVar 1) (dK (.int 0))) (dK (.int 3)))) (dRet (dCall (φ__law_kit K) [] (dCons (dVar 0) (dCons (dK (.int 1)) (dCons (dK (.int 4)) dNil))))) dSkip) (dSeq (dSet 2 (d2 oAdd (dK (.int 1)) (dN oInt (dCons (d2 oIx (dVar 1) (dK (.int 1))) dNil)))) (dSeq (dSet 3 (d2 oAdd (dK (.int 1)) (dN oInt (dCons (d2 oIx (dVar 1) (dK (.int 2))) dNil)))) (dSeq (dSet 4 (d2 oAdd (dK (.int 1)) (dN oInt (dCons (d2 oIx (dVar 1) (dK (.int 3))) dNil)))) (dSeq (dIf (dBool (d2 oEq (d2 oIx (dVar 1) (dK (.int 0))) (dK (.int 3)))) (dSet 4 (d2 oAdd (dK (.int 1)) (d2 oMod (dN oInt (dCons (d2 oIx (dVar 1) (dK (.int 3))) dNil)) (d2 oAdd (dK (.int 1)) (d2 oFdiv (dK (.int 300)) (d2 oMul (dVar 2) (dVar 3))))))) dSkip) (dSeq (dSet 5 (dCall (φ__law_digits K) [] (dCons (dCall (φ__law_cell K) [] (dCons (dVar 0) (dCons (dK (.int 1)) dNil))) (dCons (d2 oMul (dLst (dFl (dCons (dK (.int 101)) dNil))) (dK (.int 40))) dNil)))) (dSeq (dSetV 6 2 dNilT) (dSeq (dFor (dNL rng1 (dCons (dN oMin2 (dCons (dK (.int 40)) (dCons (dVar 4) dNil))) dNil)) (uName 7) (dAppV 6 2 (dLst (dLc (dNL rng1 (dCons (dVar 2) dNil)) (uName 11) dYes (dLst (dLc (dNL rng1 (dCons (dVar 3) dNil)) (uName 10) dYes (d2 oSub (dN oInt (dCons (d2 oIx (dVar 5) (d2 oMod (d2 oAdd (d2 oAdd (d2 oMul (dK (.int 7)) (dVar 7)) (d2 oMul (dK (.int 3)) (dVar 11))) (dVar 10)) (dK (.int 40)))) dNil)) (dK (.int 50))) [10])) [11])))) (dSeq (dSet 8 (dCall (φ__law_large K) [] (dCons (dCall (φ__law_cell K) [] (dCons (dVar 0) (dCons (dK (.int 2)) dNil))) (dCons (dN oMax2 (dCons (dK (.int 1)) (dCons (dN oInt (dCons (d2 oIx (dVar 1) (dK (.int 4))) dNil)) dNil))) dNil)))) (dSeq (dSetA 9 (dNodeIx (dNodeIx (dNodeV 6) (d2 oMod (dN oInt (dCons (d2 oIx (dVar 1) (dK (.int 4))) dNil)) (dLenN (dNodeV 6)))) (d2 oSub (dVar 2) (dK (.int 1))))) (dSeq (dFor (dNL rng1 (dCons (dVar 3) dNil)) (uName 10) (dPutT (dNodeV 9) (d2 oSub (d2 oSub (dVar 3) (dK (.int 1))) (dVar 10)) (d2 oIx (dLst (dFl (dCons (dVar 8) (dCons (d2 oSub (dK (.int 0)) (d2 oFdiv (dVar 8) (dK (.int 3)))) (dCons (d2 oAdd (d2 oFdiv (dVar 8) (dK (.int 7))) (dVar 10)) dNil))))) (d2 oMod (dVar 10) (dK (.int 3)))))) (fun δ => (dRet (dVar 6)) (fz 6 δ))))))))))))))
noncomputable def φ__law_tables (K : PySem.W.Frag) : List D → Res D := fnD 1 fun ds => finO (dn__law_tables K (startD ["script", "shape", "high", "wide", "many", "row", "tables", "t", "large", "line", "j", "i"] ds))
theorem den__law_tables (K : PySem.W.Frag) : ∀ ds, φ__law_tables K ds ≠ .no → finO (dn__law_tables K (startD ["script", "shape", "high", "wide", "many", "row", "tables", "t", "large", "line", "j", "i"] ds)) = φ__law_tables K ds := fun ds h => fnD_den h
theorem ar__law_tables (K : PySem.W.Frag) : ∀ ds, φ__law_tables K ds ≠ .no → ds.length = 1 := by
  exact fun _ h => fnD_ar h
/-! ### _law_room -/
noncomputable def dn__law_room (K : PySem.W.Frag) : Sto → Out := (dSeq (dSet 1 (dCall (φ__law_digits K) [] (dCons (dCall (φ__law_cell K) [] (dCons (dVar 0) (dCons (dK (.int 4)) dNil))) (dCons (dLst (dFl (dCons (dK (.int 6)) (dCons (dK (.int 64)) (dCons (dK (.int 5)) (dCons (dK (.int 8)) (dCons (dK (.int 13)) dNil))))))) dNil)))) (dSeq (dSet 2 (dCall (φ__law_digits K) [] (dCons (dCall (φ__law_cell K) [] (dCons (dVar 0) (dCons (dK (.int 5)) dNil))) (dCons (d2 oMul (dLst (dFl (dCons (dK (.int 9)) dNil))) (dK (.int 48))) dNil)))) (dSeq (dSet 3 (d2 oAdd (dK (.int 1)) (dN oInt (dCons (d2 oIx (dVar 1) (dK (.int 1))) dNil)))) (dSeq (dIf (dBool (d2 oLt (d2 oIx (dVar 1) (dK (.int 0))) (dK (.int 4)))) (dSet 3 (d2 oAdd (dK (.int 1)) (dN oInt (dCons (d2 oIx (dVar 1) (dK (.int 3))) dNil)))) dSkip) (dSeq (dSetV 4 1 dNilT) (dSeq (dFor (dNL rng1 (dCons (dN oInt (dCons (d2 oIx (dVar 1) (dK (.int 2))) dNil)) dNil)) (uName 5) (dAppV 4 1 (dLst (dLc (dNL rng1 (dCons (dVar 3) dNil)) (uName 9) dYes (d2 oSub (dN oInt (dCons (d2 oIx (dVar 2) (d2 oMod (d2 oAdd (d2 oAdd (d2 oMul (dK (.int 11)) (dVar 5)) (d2 oMul (dK (.int 5)) (dVar 9))) (d2 oFdiv (dVar 9) (dK (.int 7)))) (dK (.int 48)))) dNil)) (dK (.int 4))) [9])))) (dSeq (dIf (dAnd (dBool (d2 oEq (d2 oIx (dVar 1) (dK (.int 0))) (dK (.int 0)))) (dBool (d2 oGt (dLenN (dNodeV 4)) (dK (.int 0))))) (dSeq (dSetA 6 (dNodeIx (dNodeV 4) (dK (.int 0)))) (dPutT (dNodeV 6) (d2 oMod (dN oInt (dCons (d2 oIx (dVar 1) (dK (.int 4))) dNil)) (dVar 3)) (dCall (φ__law_large K) [] (dCons (dCall (φ__law_cell K) [] (dCons (dVar 0) (dCons (dK (.int 6)) dNil))) (dCons (dK (.int 55)) dNil))))) dSkip) (dSeq (dIf (dBool (d2 oEq (d2 oIx (dVar 1) (dK (.int 0))) (dK (.int 1)))) (dSeq (dSet 3 (d2 oAdd (dK (.int 1)) (d2 oMod (dN oInt (dCons (d2 oIx (dVar 1) (dK (.int 1))) dNil)) (d2 oAdd (dK (.int 40)) (d2 oMul (dK (.int 24)) (dN oInt (dCons (d2 oEq (d2 oIx (dVar 1) (dK (.int 4))) (dK (.int 0))) dNil))))))) (dSeq (dSet 7 (d2 oSub (dVar 3) (dN oInt (dCons (d2 oGt (d2 oIx (dVar 1) (dK (.int 2))) (dK (.int 0))) dNil)))) (dSetF 4 (dLc (dNL rng1 (dCons (dVar 7) dNil)) (uName 8) dYes (dLst (dLc (dNL rng1 (dCons (dVar 3) dNil)) (uName 9) dYes (d2 oSub (dN oInt (dCons (d2 oEq (dVar 8) (dVar 9)) dNil)) (d2 oMul (d2 oMul (dN oInt (dCons (d2 oIx (dVar 1) (dK (.int 2))) dNil)) (dN oInt (dCons (d2 oEq (dVar 9) (d2 oSub (dVar 3) (dK (.int 1)))) dNil))) (d2 oSub (dN oInt (dCons (d2 oIx (dVar 2) (d2 oMod (dVar 8) (dK (.int 48)))) dNil)) (dK (.int 4))))) [9])) [8])))) dSkip) (fun δ => (dRet (dLst (dFl (dCons (dVar 3) (dCons (dVar 4) dNil))))) (fz 4 δ))))))))))
noncomputable def φ__law_room (K : PySem.W.Frag) : List D → Res D := fnD 1 fun ds => finO (dn__law_room K (startD ["script", "shape", "row", "size", "rows", "k", "line", "most", "i", "j"] ds))
theorem den__law_room (K : PySem.W.Frag) : ∀ ds, φ__law_room K ds ≠ .no → finO (dn__law_room K (startD ["script", "shape", "row", "size", "rows", "k", "line", "most", "i", "j"] ds)) = φ__law_room K ds := fun ds h => fnD_den h
theorem ar__law_room (K : PySem.W.Frag) : ∀ ds, φ__law_room K ds ≠ .no → ds.length = 1 := by
  exact fun _ h => fnD_ar h
/-! ### _law_read -/
noncomputable def dn__law_read (K : PySem.W.Frag) : Sto → Out := (dNoEx (dSeq (dIf (dBool (d2 oEq (dVar 0) (dK (.int 0)))) (dRet (dCall (φ_read_kit K) [] (dCons (dVar 1) dNil))) dSkip) (dRet (dCall (φ_read_room K) [] (dCons (dVar 1) dNil)))))
noncomputable def φ__law_read (K : PySem.W.Frag) : List D → Res D := fnD 2 fun ds => finO (dn__law_read K (startD ["kind", "text"] ds))
theorem den__law_read (K : PySem.W.Frag) : ∀ ds, φ__law_read K ds ≠ .no → finO (dn__law_read K (startD ["kind", "text"] ds)) = φ__law_read K ds := fun ds h => fnD_den h
theorem ar__law_read (K : PySem.W.Frag) : ∀ ds, φ__law_read K ds ≠ .no → ds.length = 2 := by
  exact fun _ h => fnD_ar h
end Pf

namespace Pf
open PySem PySem.Spec PyProof.Rows L2 Dn
section
variable {K : PySem.W.Frag}
theorem p_is_whole (i : Int) : φ_is_whole K [.int i] = .ok (.bl true) := by
  unfold φ_is_whole
  rw [fnD_eq (by rfl)]
  unfold dn_is_whole
  simp
theorem p_is_row {d : D} {ds : List D} (h : IsSeq d ds) : φ_is_row K [d] = .ok (.bl true) := by
  unfold φ_is_row
  rw [fnD_eq (by rfl)]
  unfold dn_is_row
  cases h <;> simp
/-! ### common divisors -/
theorem gcdF_one : ∀ ns : List Int, gcdF 1 ns = 1
  | [] => rfl
  | n :: ns => by
    show gcdF (Nat.gcd 1 n.natAbs) ns = 1
    rw [Nat.gcd_one_left]
    exact gcdF_one ns
theorem p_common_divisor {d : D} {ns : List Int} (h : IsSeq d (ns.map .int)) : φ_common_divisor K [d] = .ok (.int (gcdL ns)) := by
  unfold φ_common_divisor
  rw [fnD_eq (by rfl)]
  unfold dn_common_divisor
  have key : ∀ (ns : List Int) (g : Nat) (c : Cell), finO ((dLoop (uName 2) (dSeq (dSet 1 (dN oGcd (dCons (dVar 1) (dCons (dVar 2) dNil)))) (dIf (dBool (d2 oEq (dVar 1) (dK (D.int 1)))) (dRet (dK (D.int 1))) dSkip)) (ns.map .int) [.va d, .va (.int g), c]).seq (dRet (dVar 1))) = .ok (.int (gcdF g ns)) := by
    intro ns g c
    refine dLoop_wp (fun o => finO (o.seq (dRet (dVar 1))) = .ok (.int (gcdF g ns))) (fun ds δ => ∃ (ms : List Int) (g' : Nat) (c' : Cell), ds = ms.map .int ∧ δ = [.va d, .va (.int g'), c'] ∧ gcdF g' ms = gcdF g ns) ?_ ?_ _ _ ⟨ns, g, c, rfl, rfl, rfl⟩
    · rintro d2 ds δ ⟨ms, g', c', e1, rfl, e3⟩
      cases ms with
      | nil => cases e1
      | cons m ms =>
        cases e1
        have e4 : gcdF (g'.gcd m.natAbs) ms = gcdF g ns := e3
        refine ⟨_, rfl, ?_⟩
        by_cases hg : g'.gcd m.natAbs = 1
        · rw [hg, gcdF_one] at e4
          right; right
          refine ⟨.int 1, ?_, ?_⟩
          · simp [hg]
          · simp [← e4]
        · left
          refine ⟨[.va d, .va (.int (g'.gcd m.natAbs)), .va (.int m)], .inl ?_, ms, _, _, rfl, rfl, e4⟩
          have hi : ¬ ((g'.gcd m.natAbs : Nat) : Int) = 1 := by omega
          simp [hi]
    · rintro δ ⟨ms, g', c', e1, rfl, e3⟩
      cases ms with
      | nil =>
        simp
        rw [← e3]
        rfl
      | cons m ms => cases e1
  cases h <;> simp <;> exact key ns 0 _
def iD (ns : List Int) : List D := ns.map .int
theorem sgnL_cons (n : Int) (ns : List Int) : sgnL (n :: ns) = if n ≠ 0 then (if n < 0 then -1 else 1) else sgnL ns := rfl
theorem sgn_cases : ∀ ns : List Int, sgnL ns = 1 ∨ sgnL ns = -1
  | [] => .inl rfl
  | n :: ns => by
    unfold sgnL
    by_cases h : n ≠ 0
    · rw [if_pos h]
      by_cases h2 : n < 0
      · rw [if_pos h2]
        exact .inr rfl
      · rw [if_neg h2]
        exact .inl rfl
    · rw [if_neg h]
      exact sgn_cases ns
theorem seq_items {d : D} {ds : List D} (h : IsSeq d ds) {i : Nat} {δ : Sto} (e : δ[i]? = some (.va d)) : dItems (dVar i) δ = .ok ds := by
  cases h <;> simp [e]
theorem seq_tup {d : D} {ds : List D} (h : IsSeq d ds) {i : Nat} {δ : Sto} (e : δ[i]? = some (.va d)) : dTupL (dSq (dVar i)) δ = .ok (.tup ds) := by
  cases h <;> simp [e]
theorem gcd_sgn (ns : List Int) : (sgnL ns * gcdL ns).natAbs = gcdL ns := by
  rcases sgn_cases ns with h | h <;> rw [h] <;> simp
theorem comp_fdiv {g : Int} (hg : DivOk g) (δ : Sto) (hδ : (δ.set 2 (.va .non))[1]? = some (.va (.int g)) ∧ 2 < δ.length) (ns : List Int) : dComp (uName 2) dYes (d2 oFdiv (dVar 2) (dVar 1)) (ns.map .int) δ = .ok ((ns.map fun n => n.fdiv g).map .int) := by
  rw [dComp_map δ (fun d => match d with | .int n => .int (n.fdiv g) | d => d) _ fun d hd => ?_]
  · simp [List.map_map, Function.comp_def]
  · obtain ⟨n, _, rfl⟩ := List.mem_map.mp hd
    refine ⟨_, rfl, rfl, ?_⟩
    have e1 : (δ.set 2 (.va (.int n)))[1]? = some (.va (.int g)) := by
      rw [← hδ.1]
      simp [List.getElem?_set]
    have e2 : (δ.set 2 (.va (.int n)))[2]? = some (.va (.int n)) := List.getElem?_set_self hδ.2
    simp only [d2, dVar, e1, e2, Res.bind_ok]
    simp [hg]
theorem p_primitive {d : D} {ns : List Int} (h : IsSeq d (ns.map .int)) (hl : (gcdL ns).log2 < 9000) : φ_primitive K [d] = .ok (.tup ((prim ns).map .int)) := by
  unfold φ_primitive
  rw [fnD_eq (by rfl)]
  show Ends (dn_primitive K [.va d, .un, .un]) _
  unfold dn_primitive
  refine .seq (δ' := [.va d, .va (.int (gcdL ns)), .un]) (set_eq (by simp [p_common_divisor h])) ?_
  by_cases hz : gcdL ns = 0
  · have e3 : prim ns = ns := if_pos hz
    refine .stop (v := .tup (ns.map .int)) ?_ (by rw [e3])
    rw [if_t (by simp [hz])]
    show (dTupL (dSq (dVar 0)) _).out _ = _
    rw [seq_tup h rfl]
    rfl
  · have hd : DivOk (sgnL ns * gcdL ns) := ⟨fun z => hz (by have := gcd_sgn ns; rw [z] at this; exact this.symm), by rw [gcd_sgn]; exact hl⟩
    have e3 : prim ns = ns.map fun n => n.fdiv (sgnL ns * gcdL ns) := if_neg hz
    refine .seq (by rw [if_f (by simp [hz])]; rfl) ?_
    have lp : ∃ c, dFor (dItems (dVar 0)) (uName 2) (dIf (dBool (d2 oNe (dVar 2) (dK (D.int 0)))) (dSeq (dIf (dBool (d2 oLt (dVar 2) (dK (D.int 0)))) (dSet 1 (d1 oNeg (dVar 1))) dSkip) fun δ => Out.bk δ) dSkip) [.va d, .va (.int (gcdL ns)), .un] = .nx [.va d, .va (.int (sgnL ns * gcdL ns)), c] := by
      rw [for_eq (seq_items h rfl)]
      refine dLoop_wp (fun o => ∃ c, o = .nx [.va d, .va (.int (sgnL ns * gcdL ns)), c]) (fun ds δ => ∃ (ms : List Int) (c : Cell), ds = ms.map .int ∧ δ = [.va d, .va (.int (gcdL ns)), c] ∧ sgnL ms = sgnL ns) ?_ ?_ _ _ ⟨ns, .un, rfl, rfl, rfl⟩
      · rintro d2 ds δ ⟨ms, c, e1, rfl, e3⟩
        cases ms with
        | nil => cases e1
        | cons m ms =>
          cases e1
          refine ⟨_, rfl, ?_⟩
          rw [sgnL_cons] at e3
          by_cases hm : m = 0
          · rw [if_neg (by simpa using hm)] at e3
            left
            exact ⟨[.va d, .va (.int (gcdL ns)), .va (.int m)], .inl (by simp [hm]), ms, _, rfl, rfl, e3⟩
          · rw [if_pos hm] at e3
            right; left
            by_cases hn : m < 0
            · rw [if_pos hn] at e3
              exact ⟨[.va d, .va (.int (-(gcdL ns : Nat))), .va (.int m)], by simp [hm, hn], .va (.int m), by rw [← e3]; simp⟩
            · rw [if_neg hn] at e3
              exact ⟨[.va d, .va (.int (gcdL ns)), .va (.int m)], by simp [hm, hn], .va (.int m), by rw [← e3]; simp⟩
      · rintro δ ⟨ms, c, e1, rfl, e3⟩
        cases ms with
        | nil =>
          have e3 : 1 = sgnL ns := e3
          exact ⟨c, by rw [← e3]; simp⟩
        | cons m ms => cases e1
    obtain ⟨c, lp⟩ := lp
    refine .seq lp ?_
    by_cases h1 : sgnL ns * gcdL ns = 1
    · refine .stop (v := .tup (ns.map .int)) ?_ (by rw [e3, h1]; simp)
      rw [if_t (by simp [h1])]
      show (dTupL (dSq (dVar 0)) _).out _ = _
      rw [seq_tup h rfl]
      rfl
    · refine .seq (by rw [if_f (by simp [h1])]; rfl) (.ret ?_ ⟨_, rfl⟩)
      have it : dItems (dVar 0) [.va d, .va (.int (sgnL ns * gcdL ns)), c] = .ok (ns.map .int) := seq_items h rfl
      simp only [dTupL, dSq, dLst, dLc, it, Res.bind_ok]
      rw [comp_fdiv hd _ (by simp) ns, e3]
      rfl
end
end Pf

namespace Pf
open PySem PySem.Spec PyProof.Rows L2 Dn
section
variable {K : PySem.W.Frag}
theorem p__law_gcd (a b : Int) : φ__law_gcd K [.int a, .int b] = .ok (.int (Nat.gcd a.natAbs b.natAbs)) := by
  unfold φ__law_gcd
  rw [fnD_eq (by rfl)]
  show Ends (dn__law_gcd K [.va (.int a), .va (.int b), .un, .un, .un]) _
  unfold dn__law_gcd
  have ab : ∀ i : Int, (if i < 0 then -i else i) = (i.natAbs : Int) := fun i => by omega
  refine .seq (δ' := [.va (.int a), .va (.int b), .va (.int a.natAbs), .un, .un]) (set_eq (by simp [ab])) ?_
  refine .seq (δ' := [.va (.int a), .va (.int b), .va (.int a.natAbs), .va (.int b.natAbs), .un]) (set_eq (by simp [ab])) ?_
  have lp : ∃ c c', dWhile (fuelI 3) (dBool (d2 oNe (dVar 3) (dK (D.int 0)))) (dSeq (dSet 4 (d2 oMod (dN oInt (dCons (dVar 2) dNil)) (dVar 3))) (dSeq (dSet 2 (dVar 3)) (dSet 3 (dVar 4))))
      [.va (.int a), .va (.int b), .va (.int a.natAbs), .va (.int b.natAbs), .un] = .nx [.va (.int a), .va (.int b), .va (.int (Nat.gcd a.natAbs b.natAbs)), c, c'] := by
    refine dWhileN_wp (fun o => ∃ c c', o = .nx [.va (.int a), .va (.int b), .va (.int (Nat.gcd a.natAbs b.natAbs)), c, c']) (fun m δ => ∃ (l r : Nat) (c : Cell), δ = [.va (.int a), .va (.int b), .va (.int l), .va (.int r), c] ∧ m = r ∧ Nat.gcd l r = Nat.gcd a.natAbs b.natAbs) ?_ _ b.natAbs _ ?_ ⟨_, _, _, rfl, rfl, rfl⟩
    · rintro m δ ⟨l, r, c, rfl, rfl, e⟩
      by_cases hr : m = 0
      · left
        subst hr
        rw [Nat.gcd_zero_right] at e
        exact ⟨by simp, _, _, by rw [e]⟩
      · right
        refine ⟨m - 1, [.va (.int a), .va (.int b), .va (.int m), .va (.int (l % m : Nat)), .va (.int (l % m : Nat))], by omega, by simp [hr], .inl ?_, l % m, ?_, m, l % m, _, rfl, rfl, ?_⟩
        · have hp : 0 < m := by omega
          simp [hp]
        · have := Nat.mod_lt l (Nat.pos_of_ne_zero hr)
          omega
        · rw [← e, Nat.gcd_comm l m, Nat.gcd_rec m l, Nat.gcd_comm]
    · simp
  obtain ⟨c, c', lp⟩ := lp
  exact .seq lp (.ret (by simp) ⟨_, rfl⟩)
theorem gcdF_zero : ∀ (ns : List Int) (g : Nat), gcdF g ns = 0 → g = 0 ∧ ∀ n ∈ ns, n = 0
  | [], g, h => ⟨h, by simp⟩
  | m :: ms, g, h => by
    obtain ⟨h1, h2⟩ := gcdF_zero ms (g.gcd m.natAbs) h
    have h3 := Nat.gcd_eq_zero_iff.mp h1
    refine ⟨h3.1, fun n hn => ?_⟩
    rcases List.mem_cons.mp hn with rfl | hn
    · omega
    · exact h2 n hn
theorem gcdF_all0 : ∀ (ns : List Int) (g : Nat), (∀ n ∈ ns, n = 0) → gcdF g ns = g
  | [], g, h => rfl
  | m :: ms, g, h => by
    have h0 := h m List.mem_cons_self
    subst h0
    show gcdF (g.gcd 0) ms = g
    rw [Nat.gcd_zero_right]
    exact gcdF_all0 ms g fun n hn => h n (List.mem_cons_of_mem _ hn)
theorem comp_copy (i : Nat) (δ : Sto) (hi : i < δ.length) : ∀ ds : List D, dComp (uName i) dYes (dVar i) ds δ = .ok ds := fun ds => by
  rw [dComp_map δ (fun d => d) ds fun d hd => ⟨δ.set i (.va d), rfl, rfl, by simp [List.getElem?_set_self hi]⟩, List.map_id']
/-- what the law's loop leaves as the sign -/
def sgL (s : Int) (ms : List Int) : Int := if s ≠ 0 then s else if ms.all (· = 0) then 0 else sgnL ms
theorem sgL_cons (s m : Int) (ms : List Int) : sgL (if s = 0 ∧ m ≠ 0 then 1 - 2 * (if m < 0 then 1 else 0) else s) ms = sgL s (m :: ms) := by
  unfold sgL
  by_cases hs : s = 0
  · subst hs
    by_cases hm : m = 0
    · subst hm
      simp [sgnL_cons]
    · by_cases hn : m < 0
      · simp [hm, hn, sgnL_cons]
      · simp [hm, hn, sgnL_cons]
  · simp [hs]
theorem p__law_lowest {d : D} {ns : List Int} (h : IsSeq d (ns.map .int)) (hl : (gcdL ns).log2 < 9000) (hm : ∀ n ∈ ns, n.natAbs.log2 < 100000000) : φ__law_lowest K [d] = .ok (.lst ((prim ns).map .int)) := by
  unfold φ__law_lowest
  rw [fnD_eq (by rfl)]
  show Ends (dn__law_lowest K [.va d, .un, .un, .un]) _
  unfold dn__law_lowest
  refine .seq (δ' := [.va d, .va (.int 0), .un, .un]) (set_eq (by simp)) ?_
  refine .seq (δ' := [.va d, .va (.int 0), .va (.int 0), .un]) (set_eq (by simp)) ?_
  have lp : ∃ c, dFor (dItems (dVar 0)) (uName 3) (dSeq (dSet 1 (dCall (φ__law_gcd K) [] (dCons (dVar 1) (dCons (dVar 3) dNil))))
      (dIf (dAnd (dBool (d2 oEq (dVar 2) (dK (D.int 0)))) (dBool (d2 oNe (dVar 3) (dK (D.int 0)))))
        (dSet 2 (d2 oSub (dK (D.int 1)) (d2 oMul (dK (D.int 2)) (dN oInt (dCons (d2 oLt (dVar 3) (dK (D.int 0))) dNil))))) dSkip)) [.va d, .va (.int 0), .va (.int 0), .un] = .nx [.va d, .va (.int (gcdL ns)), .va (.int (sgL 0 ns)), c] := by
    rw [for_eq (seq_items h rfl)]
    refine dLoop_wp (fun o => ∃ c, o = .nx [.va d, .va (.int (gcdL ns)), .va (.int (sgL 0 ns)), c]) (fun ds δ => ∃ (ms : List Int) (g : Nat) (s : Int) (c : Cell), ds = ms.map .int ∧ δ = [.va d, .va (.int g), .va (.int s), c] ∧ gcdF g ms = gcdL ns ∧ sgL s ms = sgL 0 ns) ?_ ?_ _ _ ⟨ns, 0, 0, .un, rfl, rfl, rfl, rfl⟩
    · rintro d2 ds δ ⟨ms, g, s, c, e1, rfl, e2, e3⟩
      cases ms with
      | nil => cases e1
      | cons m ms =>
        cases e1
        refine ⟨[.va d, .va (.int g), .va (.int s), .va (.int m)], rfl, .inl ⟨[.va d, .va (.int (Nat.gcd g m.natAbs)), .va (.int (if s = 0 ∧ m ≠ 0 then 1 - 2 * (if m < 0 then 1 else 0) else s)), .va (.int m)], .inl ?_, ms, _, _, _, rfl, rfl, e2, by rw [← e3]; exact sgL_cons s m ms⟩⟩
        rw [seq_nx (δ' := [.va d, .va (.int (Nat.gcd g m.natAbs)), .va (.int s), .va (.int m)]) (set_eq (by simp [p__law_gcd]))]
        have m2 : MulOk 2 1 := by decide
        have m0 : MulOk 2 0 := by decide
        by_cases hs : s = 0
        · by_cases hm : m = 0
          · rw [if_f (by simp [hs, hm])]
            simp [hs, hm]
          · rw [if_t (by simp [hs, hm])]
            by_cases hn : m < 0
            · simp [hs, hm, hn, m2]
            · simp [hs, hm, hn, m0]
        · rw [if_f (by simp [hs])]
          simp [hs]
    · rintro δ ⟨ms, g, s, c, e1, rfl, e2, e3⟩
      cases ms with
      | nil =>
        have e2 : g = gcdL ns := e2
        have e4 : sgL s [] = s := by
          unfold sgL
          by_cases hs : s = 0 <;> simp [hs]
        rw [e4] at e3
        exact ⟨c, by rw [e2, e3]⟩
      | cons m ms => cases e1
  obtain ⟨c, lp⟩ := lp
  refine .seq lp ?_
  have it : dItems (dVar 0) [.va d, .va (.int (gcdL ns)), .va (.int (sgL 0 ns)), c] = .ok (ns.map .int) := seq_items h rfl
  by_cases hz : gcdL ns = 0
  · have e3 : prim ns = ns := if_pos hz
    refine .stop (v := .lst (ns.map .int)) ?_ (by rw [e3])
    rw [if_t (by simp [hz])]
    simp only [dRet, dLst, dLc, it, Res.bind_ok]
    rw [comp_copy 3 _ (by simp)]
    rfl
  · have e3 : prim ns = ns.map fun n => n.fdiv (sgnL ns * gcdL ns) := if_neg hz
    have e4 : sgL 0 ns = sgnL ns := by
      unfold sgL
      rw [if_neg (by simp), if_neg]
      intro ha
      refine hz (gcdF_all0 ns 0 fun n hn => ?_)
      have := List.all_eq_true.mp ha n hn
      simpa using this
    refine .seq (by rw [if_f (by simp [hz])]; rfl) (.ret ?_ ⟨_, rfl⟩)
    simp only [dLst, dLc, it, Res.bind_ok]
    rw [dComp_map _ (fun d => match d with | .int n => .int (n.fdiv (sgnL ns * gcdL ns)) | d => d) _ fun d hd => ?_]
    · rw [e3]
      simp [List.map_map, Function.comp_def]
    · obtain ⟨n, hn, rfl⟩ := List.mem_map.mp hd
      refine ⟨[.va _, .va (.int (gcdL ns)), .va (.int (sgL 0 ns)), .va (.int n)], rfl, rfl, ?_⟩
      have dv : DivOk (gcdL ns : Nat) := ⟨by omega, by simpa using hl⟩
      have mo : MulOk (sgnL ns) n := by
        have := hm n hn
        have l1 : Nat.log2 1 = 0 := by decide
        rcases sgn_cases ns with w | w <;> rw [w] <;> (show _ + _ < _; simpa [l1] using this)
      have key : (sgnL ns * n).fdiv (gcdL ns : Nat) = n.fdiv (sgnL ns * (gcdL ns : Nat)) := by
        rcases sgn_cases ns with w | w <;> rw [w]
        · simp
        · have := Int.neg_fdiv_neg (-n) (gcdL ns : Nat)
          simp only [Int.neg_neg, Int.neg_mul, Int.one_mul] at this ⊢
          exact this.symm
      simp [e4, mo, dv, key]
end
end Pf

namespace Pf
open PySem PySem.Spec PyProof.Rows L2 Dn
/-! ### tables of whole numbers -/
theorem rw_get {w : Mat} {k : Nat} (h : k < w.length) : w[k]? = some (rw_ w k) := by
  unfold rw_
  rw [List.getD_eq_getElem?_getD, List.getElem?_eq_getElem h]
  rfl
theorem rw_mem {w : Mat} {k : Nat} (h : k < w.length) : rw_ w k ∈ w := List.mem_of_getElem? (rw_get h)
theorem cel_get {r : List Int} {c : Nat} (h : c < r.length) : r[c]? = some (cel r c) := by
  unfold cel
  rw [List.getD_eq_getElem?_getD, List.getElem?_eq_getElem h]
  rfl
theorem ix_row {w : Mat} {k : Nat} (h : k < w.length) : atI (w.map rowT) (k : Int) = some (rowT (rw_ w k)) := atI_in (by rw [List.getElem?_map, rw_get h]; rfl)
theorem ix_rowL {w : Mat} {k : Nat} (h : k < w.length) : atI (w.map rowL) (k : Int) = some (rowL (rw_ w k)) := atI_in (by rw [List.getElem?_map, rw_get h]; rfl)
theorem ix_cel {r : List Int} {c : Nat} (h : c < r.length) : atI (r.map D.int) (c : Int) = some (.int (cel r c)) := atI_in (by rw [List.getElem?_map, cel_get h]; rfl)
theorem firstFrom_some {w : Mat} {c : Nat} : ∀ {n a k : Nat}, firstFrom w c n a = some k → a ≤ k ∧ k < a + n ∧ cel (rw_ w k) c ≠ 0 ∧ ∀ j, a ≤ j → j < k → cel (rw_ w j) c = 0
  | 0, a, k, h => by cases h
  | n + 1, a, k, h => by
    unfold firstFrom at h
    by_cases hc : cel (rw_ w a) c ≠ 0
    · rw [if_pos hc] at h
      cases h
      exact ⟨Nat.le_refl _, by omega, hc, fun j h1 h2 => by omega⟩
    · rw [if_neg hc] at h
      obtain ⟨h1, h2, h3, h4⟩ := firstFrom_some h
      refine ⟨by omega, by omega, h3, fun j j1 j2 => ?_⟩
      by_cases hj : j = a
      · subst hj
        simpa using hc
      · exact h4 j (by omega) j2
theorem firstFrom_none {w : Mat} {c : Nat} : ∀ {n a : Nat}, firstFrom w c n a = none → ∀ j, a ≤ j → j < a + n → cel (rw_ w j) c = 0
  | 0, a, h => fun j h1 h2 => by omega
  | n + 1, a, h => fun j h1 h2 => by
    unfold firstFrom at h
    by_cases hc : cel (rw_ w a) c ≠ 0
    · rw [if_pos hc] at h
      cases h
    · rw [if_neg hc] at h
      by_cases hj : j = a
      · subst hj
        simpa using hc
      · exact firstFrom_none h j (by omega) (by omega)
def optD : Option Nat → D
  | some k => .int k
  | none => .non
section
variable {K : PySem.W.Frag}
theorem p_first_nonzero {w : Mat} {n a c : Nat} (hw : Wide n w) (hc : c < n) (ha : a ≤ w.length) (hz : w.length ≤ sizeLine) : φ_first_nonzero K [.lst (w.map rowT), .int (a : Nat), .int (c : Nat)] = .ok (optD (firstNZ w a c)) := by
  unfold φ_first_nonzero
  rw [fnD_eq (by rfl)]
  show Ends (dn_first_nonzero K [.va (.lst (w.map rowT)), .va (.int a), .va (.int c), .un]) _
  unfold dn_first_nonzero
  show finO ((dFor (dNL rng2 (dCons (dVar 1) (dCons (dN oLen (dCons (dVar 0) dNil)) dNil))) (uName 3) (dIf (dBool (d2 oNe (d2 oIx (d2 oIx (dVar 0) (dVar 3)) (dVar 2)) (dK (.int 0)))) (dRet (dVar 3)) dSkip) [.va (.lst (w.map rowT)), .va (.int a), .va (.int c), .un]).seq (dRet (dK .non))) = _
  rw [for_eq (ds := rangeD a (w.length - a)) (by simp [rng2_nat a w.length hz ha])]
  refine dRange_wp (fun o => finO (o.seq (dRet (dK .non))) = .ok (optD (firstNZ w a c))) a (w.length - a) (fun i δ => (∃ x, δ = [.va (.lst (w.map rowT)), .va (.int a), .va (.int c), x]) ∧ firstFrom w c (w.length - a - i) (a + i) = firstNZ w a c) ?_ ?_ _ ⟨⟨_, rfl⟩, rfl⟩
  · rintro i hi δ ⟨⟨x, rfl⟩, e⟩
    have hk : a + i < w.length := by omega
    have e1 : (((a : Nat) : Int) + (i : Nat)) = ((a + i : Nat) : Int) := by omega
    refine ⟨[.va (.lst (w.map rowT)), .va (.int a), .va (.int c), .va (.int (a + i : Nat))], by rw [e1]; rfl, ?_⟩
    have ix : d2 oIx (d2 oIx (dVar 0) (dVar 3)) (dVar 2) [.va (.lst (w.map rowT)), .va (.int a), .va (.int c), .va (.int (a + i : Nat))] = .ok (.int (cel (rw_ w (a + i)) c)) := by
      have h1 := ix_row hk
      have h2 := ix_cel (r := rw_ w (a + i)) (c := c) (by rw [hw _ (rw_mem hk)]; exact hc)
      simp only [d2, dVar, List.getElem?_cons_zero, List.getElem?_cons_succ, Res.bind_ok, oIx, h1, Res.opt_some, rowT, h2]
    have tst : dBool (d2 oNe (d2 oIx (d2 oIx (dVar 0) (dVar 3)) (dVar 2)) (dK (.int 0))) [.va (.lst (w.map rowT)), .va (.int a), .va (.int c), .va (.int (a + i : Nat))] = .ok (!decide (cel (rw_ w (a + i)) c = 0)) := by
      show ((Res.bind _ _).bind _) = _
      rw [ix]
      rfl
    have e2 : w.length - a - i = (w.length - a - (i + 1)) + 1 := by omega
    rw [e2] at e
    unfold firstFrom at e
    by_cases h0 : cel (rw_ w (a + i)) c = 0
    · left
      rw [if_neg (by simpa using h0)] at e
      refine ⟨[.va (.lst (w.map rowT)), .va (.int a), .va (.int c), .va (.int (a + i : Nat))], .inl ?_, ⟨_, rfl⟩, e⟩
      rw [if_f (by rw [tst]; simp [h0])]
      rfl
    · right; right
      rw [if_pos (by simpa using h0)] at e
      refine ⟨.int (a + i : Nat), ?_, by rw [← e]; rfl⟩
      rw [if_t (by rw [tst]; simp [h0])]
      rfl
  · rintro δ ⟨⟨x, rfl⟩, e⟩
    rw [Nat.sub_self] at e
    rw [← e]
    rfl
end
end Pf

namespace Pf
open PySem PySem.Spec PyProof.Rows L2 Dn
/-! ### elimination -/
theorem prim_len (r : List Int) : (prim r).length = r.length := by
  unfold prim
  split <;> simp
theorem comb_len (n : Nat) (head r : List Int) (c : Nat) : (comb n head r c).length = n := by simp [comb]
theorem gcdF_le : ∀ (ns : List Int) (g B : Nat), g < B → (∀ n ∈ ns, n.natAbs < B) → gcdF g ns < B
  | [], g, B, h, _ => h
  | m :: ms, g, B, h, hb => by
    refine gcdF_le ms (g.gcd m.natAbs) B ?_ fun n hn => hb n (List.mem_cons_of_mem _ hn)
    have hm := hb m List.mem_cons_self
    by_cases hz : g = 0
    · subst hz
      rw [Nat.gcd_zero_left]
      exact hm
    · exact Nat.lt_of_le_of_lt (Nat.gcd_le_left _ (Nat.pos_of_ne_zero hz)) h
theorem gcdL_le {ns : List Int} {B : Nat} (h0 : 0 < B) (h : ∀ n ∈ ns, n.natAbs < B) : gcdL ns < B := gcdF_le ns 0 B h0 h
theorem log2_lt {n k : Nat} (h : n < 2 ^ k) (hk : 0 < k) : n.log2 < k := by
  by_cases hn : n = 0
  · subst hn
    rw [show Nat.log2 0 = 0 by decide]
    exact hk
  · exact (Nat.log2_lt hn).mpr h
theorem small_gcd {w : Mat} (h : Small w) {r : List Int} (hr : r ∈ w) : (gcdL r).log2 < 9000 :=
  Nat.lt_trans (log2_lt (gcdL_le (Nat.two_pow_pos 4000) (h r hr)) (by decide)) (by decide)
theorem cel_mem {r : List Int} {c : Nat} (h : c < r.length) : cel r c ∈ r := List.mem_of_getElem? (cel_get h)
theorem comb_small {n : Nat} {head r : List Int} {c B : Nat} (h1 : ∀ x ∈ head, x.natAbs < B) (h2 : ∀ x ∈ r, x.natAbs < B) (l1 : head.length = n) (l2 : r.length = n) (hc : c < n) : ∀ x ∈ comb n head r c, x.natAbs < 2 * (B * B) := by
  intro x hx
  obtain ⟨j, hj, rfl⟩ := List.mem_map.mp hx
  have hj := List.mem_range.mp hj
  have a1 := h1 _ (cel_mem (r := head) (c := c) (by omega))
  have a2 := h2 _ (cel_mem (r := r) (c := j) (by omega))
  have a3 := h2 _ (cel_mem (r := r) (c := c) (by omega))
  have a4 := h1 _ (cel_mem (r := head) (c := j) (by omega))
  have m1 : (cel head c * cel r j).natAbs < B * B := by rw [Int.natAbs_mul]; exact Nat.mul_lt_mul'' a1 a2
  have m2 : (cel r c * cel head j).natAbs < B * B := by rw [Int.natAbs_mul]; exact Nat.mul_lt_mul'' a3 a4
  omega
theorem gcdF_dvd : ∀ (ns : List Int) (g : Nat), gcdF g ns ∣ g ∧ ∀ n ∈ ns, gcdF g ns ∣ n.natAbs
  | [], g => ⟨Nat.dvd_refl _, by simp⟩
  | m :: ms, g => by
    obtain ⟨h1, h2⟩ := gcdF_dvd ms (g.gcd m.natAbs)
    refine ⟨Nat.dvd_trans h1 (Nat.gcd_dvd_left _ _), fun n hn => ?_⟩
    rcases List.mem_cons.mp hn with rfl | hn
    · exact Nat.dvd_trans h1 (Nat.gcd_dvd_right _ _)
    · exact h2 n hn
theorem prim_dvd {r : List Int} (hz : gcdL r ≠ 0) {x : Int} (hx : x ∈ r) : ∃ q : Int, x = sgnL r * gcdL r * q ∧ x.fdiv (sgnL r * gcdL r) = q := by
  have hd := (gcdF_dvd r 0).2 x hx
  have nz : sgnL r * gcdL r ≠ 0 := fun z => hz (by have := gcd_sgn r; rw [z] at this; exact this.symm)
  have h2 : (sgnL r * gcdL r) ∣ x := by
    rw [← Int.natAbs_dvd_natAbs, gcd_sgn]
    exact hd
  obtain ⟨q, hq⟩ := h2
  exact ⟨q, hq, by rw [hq]; exact Int.mul_fdiv_cancel_left q nz⟩
theorem prim_le {r : List Int} {B : Nat} (h : ∀ x ∈ r, x.natAbs < B) : ∀ x ∈ prim r, x.natAbs < B := by
  intro x hx
  unfold prim at hx
  split at hx
  · exact h x hx
  · rename_i hz
    obtain ⟨y, hy, rfl⟩ := List.mem_map.mp hx
    obtain ⟨q, h1, h2⟩ := prim_dvd hz hy
    rw [h2]
    have hb := h y hy
    have hm : y.natAbs = gcdL r * q.natAbs := by rw [h1, Int.natAbs_mul, gcd_sgn]
    have : q.natAbs ≤ gcdL r * q.natAbs := Nat.le_mul_of_pos_left _ (Nat.pos_of_ne_zero hz)
    omega
theorem wide_swap {n a k : Nat} {w : Mat} (h : Wide n w) (ha : a < w.length) (hk : k < w.length) : Wide n (swapT w a k) := by
  intro r hr
  unfold swapT at hr
  rcases List.mem_or_eq_of_mem_set hr with hr | rfl
  · rcases List.mem_or_eq_of_mem_set hr with hr | rfl
    · exact h r hr
    · exact h _ (rw_mem ha)
  · rw [prim_len]
    exact h _ (rw_mem hk)
theorem small_swap {a k : Nat} {w : Mat} (h : Small w) (ha : a < w.length) (hk : k < w.length) : Small (swapT w a k) := by
  intro r hr
  unfold swapT at hr
  rcases List.mem_or_eq_of_mem_set hr with hr | rfl
  · rcases List.mem_or_eq_of_mem_set hr with hr | rfl
    · exact h r hr
    · exact h _ (rw_mem ha)
  · exact prim_le (h _ (rw_mem hk))
theorem elimA_len (n : Nat) (head : List Int) (a c : Nat) (w : Mat) : (elimA n head a c w).length = w.length := by simp [elimA]
theorem wide_elim {n a c : Nat} {head : List Int} {w : Mat} (h : Wide n w) : Wide n (elimA n head a c w) := by
  intro r hr
  unfold elimA at hr
  obtain ⟨k, hk, rfl⟩ := List.mem_mapIdx.mp hr
  unfold elimR
  split
  · rw [prim_len, comb_len]
  · exact h _ (List.getElem_mem hk)
section
variable {K : PySem.W.Frag}
theorem put_eq {s k : Nat} {h f : Sto → Res D} {δ : Sto} {d : D} {ds : List D} (e1 : f δ = .ok d) (e2 : δ[s]? = some (.ow ds)) (e3 : h δ = .ok (.int (k : Nat))) (hk : k < ds.length) : dPut s h f δ = .nx (δ.set s (.ow (ds.set k d))) := by
  show (f δ).out _ = _
  rw [e1]
  show (δ.own s).out _ = _
  have : δ.own s = .ok ds := by unfold Sto.own; rw [e2]
  rw [this]
  show (h δ).out _ = _
  rw [e3]
  show (match ixN ds.length (k : Nat) with | some j => Out.nx (δ.set s (.ow (ds.set j d))) | none => .no) = _
  rw [ixN_in hk]
/-- rows worked out so far -/
def upTo (f : Nat → List Int → List Int) (i : Nat) (w : Mat) : Mat := w.mapIdx fun k r => if k < i then f k r else r
theorem upTo_zero (f : Nat → List Int → List Int) (w : Mat) : upTo f 0 w = w := by
  apply List.ext_getElem?
  intro k
  simp [upTo, List.getElem?_mapIdx]
theorem upTo_all (f : Nat → List Int → List Int) (w : Mat) : upTo f w.length w = w.mapIdx f := by
  apply List.ext_getElem?
  intro k
  simp only [upTo, List.getElem?_mapIdx]
  cases e : w[k]? with
  | none => rfl
  | some r =>
    have := (List.getElem?_eq_some_iff.mp e).1
    simp [this]
theorem upTo_len (f : Nat → List Int → List Int) (i : Nat) (w : Mat) : (upTo f i w).length = w.length := by simp [upTo]
theorem upTo_rw (f : Nat → List Int → List Int) {i : Nat} {w : Mat} (h : i < w.length) : rw_ (upTo f i w) i = rw_ w i := by
  have h1 := rw_get (w := upTo f i w) (k := i) (by rw [upTo_len]; exact h)
  simp only [upTo, List.getElem?_mapIdx, rw_get h] at h1
  simp at h1
  exact h1.symm
theorem upTo_succ (f : Nat → List Int → List Int) {i : Nat} {w : Mat} (h : i < w.length) : upTo f (i + 1) w = (upTo f i w).set i (f i (rw_ w i)) := by
  apply List.ext_getElem?
  intro k
  by_cases hk : i = k
  · subst hk
    rw [List.getElem?_set_self (by rw [upTo_len]; exact h)]
    simp [upTo, List.getElem?_mapIdx, rw_get h]
  · rw [List.getElem?_set_ne hk]
    simp only [upTo, List.getElem?_mapIdx]
    cases e : w[k]? with
    | none => rfl
    | some r =>
      have : (k < i + 1) ↔ k < i := by omega
      simp [this]
theorem upTo_same (f : Nat → List Int → List Int) {i : Nat} {w : Mat} (h : i < w.length) (hf : f i (rw_ w i) = rw_ w i) : upTo f (i + 1) w = upTo f i w := by
  rw [upTo_succ f h, hf, ← upTo_rw f h]
  exact set_self (rw_get (by rw [upTo_len]; exact h))
/-- the inner loop of echelon -/
theorem ech_inner {d : D} {n a c : Nat} {w : Mat} {head : List Int} {x5 x8 x9 x10 x11 : Cell} (hw : Wide n w) (hs : Small w) (hc : c < n) (ha : a < w.length) (hz : w.length ≤ sizeLine) (hn : n ≤ sizeLine) (hl : head.length = n) (hh : ∀ x ∈ head, x.natAbs < 2 ^ 4000) :
    ∃ y8 y9 y10 y11, dFor (dNL rng1 (dCons (dLenL (dOwn 2)) dNil)) (uName 8)
      (dSeq (dSet 9 (dIxL (dOwn 2) (dVar 8)))
        (dSeq (dSet 10 (d2 oIx (dVar 9) (dVar 4)))
          (dIf (dAnd (dBool (d2 oNe (dVar 8) (dVar 3))) (dBool (d2 oNe (dVar 10) (dK (D.int 0)))))
            (dPut 2 (dVar 8) (dCall (φ_primitive K) [] (dCons (dLst (dLc (dNL rng1 (dCons (dVar 1) dNil)) (uName 11) dYes (d2 oSub (d2 oMul (dVar 7) (d2 oIx (dVar 9) (dVar 11))) (d2 oMul (dVar 10) (d2 oIx (dVar 6) (dVar 11)))) [11])) dNil)))
            dSkip)))
      [.va d, .va (.int (n : Nat)), .ow (w.map rowT), .va (.int (a : Nat)), .va (.int (c : Nat)), x5, .va (rowT head), .va (.int (cel head c)), x8, x9, x10, x11]
      = .nx [.va d, .va (.int (n : Nat)), .ow ((elimA n head a c w).map rowT), .va (.int (a : Nat)), .va (.int (c : Nat)), x5, .va (rowT head), .va (.int (cel head c)), y8, y9, y10, y11] := by
  rw [for_eq (ds := rangeD 0 w.length) (by
    have : dCons (dLenL (dOwn 2)) dNil [.va d, .va (.int (n : Nat)), .ow (w.map rowT), .va (.int (a : Nat)), .va (.int (c : Nat)), x5, .va (rowT head), .va (.int (cel head c)), x8, x9, x10, x11] = .ok [.int (w.length : Nat)] := by simp
    show (dCons (dLenL (dOwn 2)) dNil _).bind _ = _
    rw [this]
    show Res.opt (rng1 _) = _
    rw [rng1_nat _ hz]
    rfl)]
  refine dRange_wp (fun o => ∃ y8 y9 y10 y11, o = .nx [.va d, .va (.int (n : Nat)), .ow ((elimA n head a c w).map rowT), .va (.int (a : Nat)), .va (.int (c : Nat)), x5, .va (rowT head), .va (.int (cel head c)), y8, y9, y10, y11]) 0 w.length
    (fun i δ => ∃ y8 y9 y10 y11, δ = [.va d, .va (.int (n : Nat)), .ow ((upTo (elimR n head a c) i w).map rowT), .va (.int (a : Nat)), .va (.int (c : Nat)), x5, .va (rowT head), .va (.int (cel head c)), y8, y9, y10, y11]) ?_ ?_ _ ⟨x8, x9, x10, x11, by rw [upTo_zero]⟩
  · rintro i hi δ ⟨y8, y9, y10, y11, rfl⟩
    let r := rw_ w i
    have hr : r.length = n := hw _ (rw_mem hi)
    have e0 : ((0 : Int) + (i : Nat)) = (i : Nat) := by omega
    refine ⟨[.va d, .va (.int (n : Nat)), .ow ((upTo (elimR n head a c) i w).map rowT), .va (.int (a : Nat)), .va (.int (c : Nat)), x5, .va (rowT head), .va (.int (cel head c)), .va (.int (i : Nat)), y9, y10, y11], by rw [e0]; rfl, .inl ?_⟩
    have hix : atI ((upTo (elimR n head a c) i w).map rowT) (i : Nat) = some (rowT r) := by
      have := ix_row (w := upTo (elimR n head a c) i w) (k := i) (by rw [upTo_len]; exact hi)
      rw [upTo_rw _ hi] at this
      exact this
    have hcel : atI (r.map D.int) (c : Nat) = some (.int (cel r c)) := ix_cel (by rw [hr]; exact hc)
    have g1 : dSet 9 (dIxL (dOwn 2) (dVar 8)) [.va d, .va (.int (n : Nat)), .ow ((upTo (elimR n head a c) i w).map rowT), .va (.int (a : Nat)), .va (.int (c : Nat)), x5, .va (rowT head), .va (.int (cel head c)), .va (.int (i : Nat)), y9, y10, y11]
        = .nx [.va d, .va (.int (n : Nat)), .ow ((upTo (elimR n head a c) i w).map rowT), .va (.int (a : Nat)), .va (.int (c : Nat)), x5, .va (rowT head), .va (.int (cel head c)), .va (.int (i : Nat)), .va (rowT r), y10, y11] := set_eq (by simp [hix])
    have g2 : dSet 10 (d2 oIx (dVar 9) (dVar 4)) [.va d, .va (.int (n : Nat)), .ow ((upTo (elimR n head a c) i w).map rowT), .va (.int (a : Nat)), .va (.int (c : Nat)), x5, .va (rowT head), .va (.int (cel head c)), .va (.int (i : Nat)), .va (rowT r), y10, y11]
        = .nx [.va d, .va (.int (n : Nat)), .ow ((upTo (elimR n head a c) i w).map rowT), .va (.int (a : Nat)), .va (.int (c : Nat)), x5, .va (rowT head), .va (.int (cel head c)), .va (.int (i : Nat)), .va (rowT r), .va (.int (cel r c)), y11] := set_eq (by simp [rowT, hcel])
    rw [seq_nx g1, seq_nx g2]
    by_cases ht : i ≠ a ∧ cel r c ≠ 0
    · have hsm := hs _ (rw_mem hi)
      have hcb := comb_small hh hsm hl hr hc
      have hp : (gcdL (comb n head r c)).log2 < 9000 := Nat.lt_trans (log2_lt (k := 8001) (gcdL_le (by decide) (fun x hx => by
        have := hcb x hx
        rw [← Nat.pow_add] at this
        have e : 2 * 2 ^ (4000 + 4000) = 2 ^ 8001 := by rw [← Nat.pow_succ']
        omega)) (by decide)) (by decide)
      have mo : ∀ x y : Int, x.natAbs < 2 ^ 4000 → y.natAbs < 2 ^ 4000 → MulOk x y := fun x y hx hy => by
        have h1 := log2_lt hx (by decide)
        have h2 := log2_lt hy (by decide)
        show _ + _ < _
        omega
      have cmp : dLc (dNL rng1 (dCons (dVar 1) dNil)) (uName 11) dYes (d2 oSub (d2 oMul (dVar 7) (d2 oIx (dVar 9) (dVar 11))) (d2 oMul (dVar 10) (d2 oIx (dVar 6) (dVar 11)))) [11]
          [.va d, .va (.int (n : Nat)), .ow ((upTo (elimR n head a c) i w).map rowT), .va (.int (a : Nat)), .va (.int (c : Nat)), x5, .va (rowT head), .va (.int (cel head c)), .va (.int (i : Nat)), .va (rowT r), .va (.int (cel r c)), y11] = .ok ((comb n head r c).map .int) := by
        show (dNL rng1 (dCons (dVar 1) dNil) _).bind _ = _
        have e1 : dNL rng1 (dCons (dVar 1) dNil) [.va d, .va (.int (n : Nat)), .ow ((upTo (elimR n head a c) i w).map rowT), .va (.int (a : Nat)), .va (.int (c : Nat)), x5, .va (rowT head), .va (.int (cel head c)), .va (.int (i : Nat)), .va (rowT r), .va (.int (cel r c)), y11] = .ok (rangeD 0 n) := by
          have : dCons (dVar 1) dNil [.va d, .va (.int (n : Nat)), .ow ((upTo (elimR n head a c) i w).map rowT), .va (.int (a : Nat)), .va (.int (c : Nat)), x5, .va (rowT head), .va (.int (cel head c)), .va (.int (i : Nat)), .va (rowT r), .va (.int (cel r c)), y11] = .ok [.int (n : Nat)] := by simp
          show (dCons (dVar 1) dNil _).bind _ = _
          rw [this]
          show Res.opt (rng1 _) = _
          rw [rng1_nat _ hn]
          rfl
        rw [e1]
        show dComp _ _ _ _ _ = _
        rw [dComp_range _ 0 n (fun j => .int (cel head c * cel r j - cel r c * cel head j)) fun j hj => ?_]
        · simp [comb, List.map_map, Function.comp_def]
        · have e0 : ((0 : Int) + (j : Nat)) = (j : Nat) := by omega
          refine ⟨[.va d, .va (.int (n : Nat)), .ow ((upTo (elimR n head a c) i w).map rowT), .va (.int (a : Nat)), .va (.int (c : Nat)), x5, .va (rowT head), .va (.int (cel head c)), .va (.int (i : Nat)), .va (rowT r), .va (.int (cel r c)), .va (.int (j : Nat))], by rw [e0]; rfl, rfl, ?_⟩
          have i1 : atI (r.map D.int) (j : Nat) = some (.int (cel r j)) := ix_cel (by rw [hr]; exact hj)
          have i2 : atI (head.map D.int) (j : Nat) = some (.int (cel head j)) := ix_cel (by rw [hl]; exact hj)
          have m1 := mo _ _ (hh _ (cel_mem (r := head) (c := c) (by omega))) (hsm _ (cel_mem (r := r) (c := j) (by omega)))
          have m2 := mo _ _ (hsm _ (cel_mem (r := r) (c := c) (by omega))) (hh _ (cel_mem (r := head) (c := j) (by omega)))
          simp [rowT, i1, i2, m1, m2]
      have pr := p_primitive (K := K) (d := .lst ((comb n head r c).map .int)) (.lst _) hp
      refine ⟨_, .inl (by
        rw [if_t (by simp [ht.1, ht.2]; omega)]
        refine put_eq (k := i) (d := rowT (prim (comb n head r c))) (ds := (upTo (elimR n head a c) i w).map rowT) ?_ rfl rfl (by rw [List.length_map, upTo_len]; exact hi)
        show (dCons _ _ _).bind _ = _
        have e2 : dCons (dLst (dLc (dNL rng1 (dCons (dVar 1) dNil)) (uName 11) dYes (d2 oSub (d2 oMul (dVar 7) (d2 oIx (dVar 9) (dVar 11))) (d2 oMul (dVar 10) (d2 oIx (dVar 6) (dVar 11)))) [11])) dNil
            [.va d, .va (.int (n : Nat)), .ow ((upTo (elimR n head a c) i w).map rowT), .va (.int (a : Nat)), .va (.int (c : Nat)), x5, .va (rowT head), .va (.int (cel head c)), .va (.int (i : Nat)), .va (rowT r), .va (.int (cel r c)), y11] = .ok [.lst ((comb n head r c).map .int)] := by
          show ((dLc _ _ _ _ _ _).bind _).bind _ = _
          rw [cmp]
          rfl
        rw [e2]
        exact pr), .va (.int (i : Nat)), .va (rowT r), .va (.int (cel r c)), y11, ?_⟩
      rw [upTo_succ _ hi]
      have e5 : elimR n head a c i (rw_ w i) = prim (comb n head r c) := if_pos ht
      rw [e5, List.map_set]
      rfl
    · refine ⟨_, .inl (if_f ?_), .va (.int (i : Nat)), .va (rowT r), .va (.int (cel r c)), y11, ?_⟩
      · by_cases h1 : i = a
        · simp [h1]
        · have h2 : cel r c = 0 := by
            by_cases h2 : cel r c = 0
            · exact h2
            · exact absurd ⟨h1, h2⟩ ht
          simp [h2]
      · have e5 : elimR n head a c i (rw_ w i) = rw_ w i := if_neg ht
        rw [upTo_same _ hi e5]
  · rintro δ ⟨y8, y9, y10, y11, rfl⟩
    exact ⟨y8, y9, y10, y11, by rw [upTo_all]; rfl⟩
end
end Pf

namespace Pf
open PySem PySem.Spec PyProof.Rows L2 Dn
theorem echC_inv {n : Nat} {w : Mat} (hw : Wide n w) : ∀ i, Wide n (echC n w i).1 ∧ (echC n w i).1.length = w.length ∧ (echC n w i).2 ≤ w.length
  | 0 => ⟨hw, rfl, Nat.zero_le _⟩
  | i + 1 => by
    obtain ⟨h1, h2, h3⟩ := echC_inv hw i
    show Wide n (colS n (echC n w i) i).1 ∧ (colS n (echC n w i) i).1.length = w.length ∧ (colS n (echC n w i) i).2 ≤ w.length
    unfold colS
    cases e : firstNZ (echC n w i).1 (echC n w i).2 i with
    | none => exact ⟨h1, h2, h3⟩
    | some k =>
      obtain ⟨k1, k2, k3, _⟩ := firstFrom_some e
      have ka : (echC n w i).2 < (echC n w i).1.length := by omega
      have kk : k < (echC n w i).1.length := by omega
      refine ⟨wide_elim (wide_swap h1 ka kk), ?_, by show _ + 1 ≤ _; omega⟩
      rw [elimA_len]
      simp [swapT, h2]
theorem cut_take (ds : List D) (a : Nat) (h : a ≤ ds.length) : Dn.cutD ds none (some (a : Nat)) = ds.take a := by
  unfold Dn.cutD
  have h1 : HT.sIx ds.length 0 none = 0 := rfl
  have h2 : HT.sIx ds.length ds.length (some (a : Nat)) = a := by
    rw [HT.sIx_nat]
    omega
  rw [h1, h2]
  simp
theorem swap_len (w : Mat) (a k : Nat) : (swapT w a k).length = w.length := by simp [swapT]
theorem rowsAre_tup {i : Nat} {ds : List D} {w : Mat} (h : RowsAre ds w) (δ : Sto) (hi : i < δ.length) : dComp (uName i) dYes (dTupL (dSq (dVar i))) ds δ = .ok (w.map rowT) := by
  induction h with
  | nil => rfl
  | @cons d r ds w h1 _ ih =>
    rw [dComp_cons]
    show (Res.noex _).bind _ = _
    have e : (dTupL (dSq (dVar i))) (δ.set i (.va d)) = .ok (rowT r) := seq_tup h1 (List.getElem?_set_self hi)
    show (dYes _).noex.bind _ = _
    simp only [dYes, Res.noex_ok, Res.bind_ok, if_true, e, ih]
    rfl
section
variable {K : PySem.W.Frag}
/-- a turn of a loop ends in a state with Q -/
def Turns (Q : Sto → Prop) (o : Out) : Prop := ∃ δ2, (o = .nx δ2 ∨ o = .ct δ2) ∧ Q δ2
theorem Turns.seq {Q : Sto → Prop} {g k : Sto → Out} {δ δ' : Sto} (h : g δ = .nx δ') (h2 : Turns Q (k δ')) : Turns Q (dSeq g k δ) := by
  rw [seq_nx h]
  exact h2
noncomputable def bodyE (K : PySem.W.Frag) : Sto → Out := dSeq (dSet 5 (fun δ => dFlat ((dCall (φ_first_nonzero K) [] (dCons (dVar 2) (dCons (dVar 3) (dCons (dVar 4) dNil)))) (fzs [2] δ)))) (dSeq (dIf (dBool (d2 oIsN (dVar 5) (dK .non))) (fun δ => .ct δ) dSkip) (dSeq (dSet 6 (dCall (φ_primitive K) [] (dCons (dIxL (dOwn 2) (dVar 5)) dNil))) (dSeq (dPut 2 (dVar 5) (dIxL (dOwn 2) (dVar 3))) (dSeq (dPut 2 (dVar 3) (dVar 6)) (dSeq (dSet 7 (d2 oIx (dVar 6) (dVar 4))) (dSeq (dFor (dNL rng1 (dCons (dLenL (dOwn 2)) dNil)) (uName 8) (dSeq (dSet 9 (dIxL (dOwn 2) (dVar 8))) (dSeq (dSet 10 (d2 oIx (dVar 9) (dVar 4))) (dIf (dAnd (dBool (d2 oNe (dVar 8) (dVar 3))) (dBool (d2 oNe (dVar 10) (dK (.int 0))))) (dPut 2 (dVar 8) (dCall (φ_primitive K) [] (dCons (dLst (dLc (dNL rng1 (dCons (dVar 1) dNil)) (uName 11) dYes (d2 oSub (d2 oMul (dVar 7) (d2 oIx (dVar 9) (dVar 11))) (d2 oMul (dVar 10) (d2 oIx (dVar 6) (dVar 11)))) [11])) dNil))) dSkip)))) (dAug 3 oIAdd (dK (.int 1)))))))))
theorem ech_turn {d : D} {n c : Nat} {s : Mat × Nat} {x5 x6 x7 x8 x9 x10 x11 : Cell} (hw : Wide n s.1) (hs : Small s.1) (hc : c < n) (ha : s.2 ≤ s.1.length) (hz : s.1.length ≤ sizeLine) (hn : n ≤ sizeLine) :
    ∃ δ2, (bodyE K [.va d, .va (.int (n : Nat)), .ow (s.1.map rowT), .va (.int (s.2 : Nat)), .va (.int (c : Nat)), x5, x6, x7, x8, x9, x10, x11] = .nx δ2 ∨ bodyE K [.va d, .va (.int (n : Nat)), .ow (s.1.map rowT), .va (.int (s.2 : Nat)), .va (.int (c : Nat)), x5, x6, x7, x8, x9, x10, x11] = .ct δ2) ∧
      ∃ y4 y5 y6 y7 y8 y9 y10 y11, δ2 = [.va d, .va (.int (n : Nat)), .ow ((colS n s c).1.map rowT), .va (.int ((colS n s c).2 : Nat)), y4, y5, y6, y7, y8, y9, y10, y11] := by
  obtain ⟨w, a⟩ := s
  have hw : Wide n w := hw
  have hs : Small w := hs
  have ha : a ≤ w.length := ha
  have hz : w.length ≤ sizeLine := hz
  show Turns (fun δ2 => ∃ y4 y5 y6 y7 y8 y9 y10 y11, δ2 = [.va d, .va (.int (n : Nat)), .ow ((colS n (w, a) c).1.map rowT), .va (.int ((colS n (w, a) c).2 : Nat)), y4, y5, y6, y7, y8, y9, y10, y11]) (bodyE K [.va d, .va (.int (n : Nat)), .ow (w.map rowT), .va (.int (a : Nat)), .va (.int (c : Nat)), x5, x6, x7, x8, x9, x10, x11])
  unfold bodyE
  have fnz := p_first_nonzero (K := K) hw hc ha hz
  have g1 : dSet 5 (fun δ => dFlat ((dCall (φ_first_nonzero K) [] (dCons (dVar 2) (dCons (dVar 3) (dCons (dVar 4) dNil)))) (fzs [2] δ))) [.va d, .va (.int (n : Nat)), .ow (w.map rowT), .va (.int (a : Nat)), .va (.int (c : Nat)), x5, x6, x7, x8, x9, x10, x11]
      = .nx [.va d, .va (.int (n : Nat)), .ow (w.map rowT), .va (.int (a : Nat)), .va (.int (c : Nat)), .va (optD (firstNZ w a c)), x6, x7, x8, x9, x10, x11] := by
    have e0 : dCons (dVar 2) (dCons (dVar 3) (dCons (dVar 4) dNil)) (fzs [2] [.va d, .va (.int (n : Nat)), .ow (w.map rowT), .va (.int (a : Nat)), .va (.int (c : Nat)), x5, x6, x7, x8, x9, x10, x11]) = .ok [.lst (w.map rowT), .int (a : Nat), .int (c : Nat)] := rfl
    refine set_eq ?_
    show dFlat ((dCons _ _ _).bind _) = _
    rw [e0]
    show dFlat (φ_first_nonzero K ([.lst (w.map rowT), .int (a : Nat), .int (c : Nat)] ++ [])) = _
    rw [List.append_nil, fnz]
    cases firstNZ w a c <;> rfl
  refine .seq g1 ?_
  cases ef : firstNZ w a c with
  | none =>
    have e1 : colS n (w, a) c = (w, a) := by
      unfold colS
      show (match firstNZ w a c with | none => _ | some k => _) = _
      rw [ef]
    refine ⟨[.va d, .va (.int (n : Nat)), .ow (w.map rowT), .va (.int (a : Nat)), .va (.int (c : Nat)), .va .non, x6, x7, x8, x9, x10, x11], .inr ?_, _, _, _, _, _, _, _, _, by rw [e1]⟩
    rfl
  | some k =>
    obtain ⟨k1, k2, k3, _⟩ := firstFrom_some ef
    have kk : k < w.length := by omega
    have ka : a < w.length := by omega
    let head := prim (rw_ w k)
    have e1 : colS n (w, a) c = (elimA n head a c (swapT w a k), a + 1) := by
      unfold colS
      show (match firstNZ w a c with | none => _ | some k => _) = _
      rw [ef]
    have hl : head.length = n := by rw [prim_len]; exact hw _ (rw_mem kk)
    have hh : ∀ x ∈ head, x.natAbs < 2 ^ 4000 := prim_le (hs _ (rw_mem kk))
    have pr := p_primitive (K := K) (d := rowT (rw_ w k)) (.tup _) (small_gcd hs (rw_mem kk))
    have ixk := ix_row kk
    have ixa := ix_row ka
    have ixc : atI (head.map D.int) (c : Nat) = some (.int (cel head c)) := ix_cel (by rw [hl]; exact hc)
    refine .seq (δ' := [.va d, .va (.int (n : Nat)), .ow (w.map rowT), .va (.int (a : Nat)), .va (.int (c : Nat)), .va (.int (k : Nat)), x6, x7, x8, x9, x10, x11]) rfl ?_
    refine .seq (δ' := [.va d, .va (.int (n : Nat)), .ow (w.map rowT), .va (.int (a : Nat)), .va (.int (c : Nat)), .va (.int (k : Nat)), .va (rowT head), x7, x8, x9, x10, x11]) (set_eq (by
      have e0 : dCons (dIxL (dOwn 2) (dVar 5)) dNil [.va d, .va (.int (n : Nat)), .ow (w.map rowT), .va (.int (a : Nat)), .va (.int (c : Nat)), .va (.int (k : Nat)), x6, x7, x8, x9, x10, x11] = .ok [rowT (rw_ w k)] := by simp [ixk]
      show (dCons _ _ _).bind _ = _
      rw [e0]
      exact pr)) ?_
    refine .seq (δ' := [.va d, .va (.int (n : Nat)), .ow ((w.map rowT).set k (rowT (rw_ w a))), .va (.int (a : Nat)), .va (.int (c : Nat)), .va (.int (k : Nat)), .va (rowT head), x7, x8, x9, x10, x11]) (put_eq (k := k) (ds := w.map rowT) (by simp [ixa]) rfl rfl (by simpa using kk)) ?_
    refine .seq (δ' := [.va d, .va (.int (n : Nat)), .ow (((w.map rowT).set k (rowT (rw_ w a))).set a (rowT head)), .va (.int (a : Nat)), .va (.int (c : Nat)), .va (.int (k : Nat)), .va (rowT head), x7, x8, x9, x10, x11]) (put_eq (k := a) (ds := (w.map rowT).set k (rowT (rw_ w a))) rfl rfl rfl (by simpa using ka)) ?_
    have es : ((w.map rowT).set k (rowT (rw_ w a))).set a (rowT head) = (swapT w a k).map rowT := by
      unfold swapT
      rw [List.map_set, List.map_set]
    rw [es]
    refine .seq (δ' := [.va d, .va (.int (n : Nat)), .ow ((swapT w a k).map rowT), .va (.int (a : Nat)), .va (.int (c : Nat)), .va (.int (k : Nat)), .va (rowT head), .va (.int (cel head c)), x8, x9, x10, x11]) (set_eq (by simp [rowT, ixc])) ?_
    obtain ⟨y8, y9, y10, y11, inner⟩ := ech_inner (K := K) (d := d) (n := n) (a := a) (c := c) (w := swapT w a k) (head := head) (x5 := .va (.int (k : Nat))) (x8 := x8) (x9 := x9) (x10 := x10) (x11 := x11) (wide_swap hw ka kk) (small_swap hs ka kk) hc (by rw [swap_len]; exact ka) (by rw [swap_len]; exact hz) hn hl hh
    refine .seq inner ?_
    refine ⟨[.va d, .va (.int (n : Nat)), .ow ((elimA n head a c (swapT w a k)).map rowT), .va (.int ((a + 1 : Nat) : Nat)), .va (.int (c : Nat)), .va (.int (k : Nat)), .va (rowT head), .va (.int (cel head c)), y8, y9, y10, y11], .inl ?_, _, _, _, _, _, _, _, _, by rw [e1]⟩
    simp
theorem p_echelon {d : D} {ds : List D} {n : Nat} {w : Mat} (h : IsSeq d ds) (hr : RowsAre ds w) (hw : Wide n w) (hz : w.length ≤ sizeLine) (hn : n ≤ sizeLine) (hs : ∀ i < n, Small (echC n w i).1) : φ_echelon K [d, .int (n : Nat)] = .ok (.tup ((ech n w).map rowT)) := by
  unfold φ_echelon
  rw [fnD_eq (by rfl)]
  show Ends (dn_echelon K [.va d, .va (.int (n : Nat)), .un, .un, .un, .un, .un, .un, .un, .un, .un, .un]) _
  unfold dn_echelon
  refine .seq (δ' := [.va d, .va (.int (n : Nat)), .ow (w.map rowT), .un, .un, .un, .un, .un, .un, .un, .un, .un]) ?_ ?_
  · show (dLc _ _ _ _ _ _).out _ = _
    have it : dItems (dVar 0) [.va d, .va (.int (n : Nat)), .un, .un, .un, .un, .un, .un, .un, .un, .un, .un] = .ok ds := seq_items h rfl
    have : dLc (dItems (dVar 0)) (uName 9) dYes (dTupL (dSq (dVar 9))) [9] [.va d, .va (.int (n : Nat)), .un, .un, .un, .un, .un, .un, .un, .un, .un, .un] = .ok (w.map rowT) := by
      show (dItems (dVar 0) _).bind _ = _
      rw [it]
      exact rowsAre_tup hr _ (by simp)
    rw [this]
    rfl
  refine .seq (δ' := [.va d, .va (.int (n : Nat)), .ow (w.map rowT), .va (.int (0 : Nat)), .un, .un, .un, .un, .un, .un, .un, .un]) (set_eq rfl) ?_
  have lp : ∃ y4 y5 y6 y7 y8 y9 y10 y11, dFor (dNL rng1 (dCons (dVar 1) dNil)) (uName 4) (bodyE K) [.va d, .va (.int (n : Nat)), .ow (w.map rowT), .va (.int (0 : Nat)), .un, .un, .un, .un, .un, .un, .un, .un]
      = .nx [.va d, .va (.int (n : Nat)), .ow ((echC n w n).1.map rowT), .va (.int ((echC n w n).2 : Nat)), y4, y5, y6, y7, y8, y9, y10, y11] := by
    rw [for_eq (ds := rangeD 0 n) (by
      have : dCons (dVar 1) dNil [.va d, .va (.int (n : Nat)), .ow (w.map rowT), .va (.int (0 : Nat)), .un, .un, .un, .un, .un, .un, .un, .un] = .ok [.int (n : Nat)] := by simp
      show (dCons (dVar 1) dNil _).bind _ = _
      rw [this]
      show Res.opt (rng1 _) = _
      rw [rng1_nat _ hn]
      rfl)]
    refine dRange_wp (fun o => ∃ y4 y5 y6 y7 y8 y9 y10 y11, o = .nx [.va d, .va (.int (n : Nat)), .ow ((echC n w n).1.map rowT), .va (.int ((echC n w n).2 : Nat)), y4, y5, y6, y7, y8, y9, y10, y11]) 0 n
      (fun i δ => ∃ y4 y5 y6 y7 y8 y9 y10 y11, δ = [.va d, .va (.int (n : Nat)), .ow ((echC n w i).1.map rowT), .va (.int ((echC n w i).2 : Nat)), y4, y5, y6, y7, y8, y9, y10, y11]) ?_ ?_ _ ⟨_, _, _, _, _, _, _, _, rfl⟩
    · rintro i hi δ ⟨y4, y5, y6, y7, y8, y9, y10, y11, rfl⟩
      obtain ⟨v1, v2, v3⟩ := echC_inv hw i
      have e0 : ((0 : Int) + (i : Nat)) = (i : Nat) := by omega
      refine ⟨[.va d, .va (.int (n : Nat)), .ow ((echC n w i).1.map rowT), .va (.int ((echC n w i).2 : Nat)), .va (.int (i : Nat)), y5, y6, y7, y8, y9, y10, y11], by rw [e0]; rfl, .inl ?_⟩
      exact ech_turn v1 (hs i hi) hi (by omega) (by omega) hn
    · rintro δ ⟨y4, y5, y6, y7, y8, y9, y10, y11, rfl⟩
      exact ⟨_, _, _, _, _, _, _, _, rfl⟩
  obtain ⟨y4, y5, y6, y7, y8, y9, y10, y11, lp⟩ := lp
  refine .seq lp (.ret ?_ ⟨_, rfl⟩)
  have e1 : dCutL (dOwn 2) dNoO (dSoO (dVar 3)) [.va d, .va (.int (n : Nat)), .ow ((echC n w n).1.map rowT), .va (.int ((echC n w n).2 : Nat)), y4, y5, y6, y7, y8, y9, y10, y11] = .ok (((echC n w n).1.map rowT).take (echC n w n).2) := by
    obtain ⟨v1, v2, v3⟩ := echC_inv hw n
    show Res.ok (Dn.cutD ((echC n w n).1.map rowT) none (some ((echC n w n).2 : Nat))) = _
    rw [cut_take _ _ (by rw [List.length_map]; omega)]
  simp only [dTupL, dSq, dLst, e1, Res.bind_ok]
  rw [← List.map_take]
  rfl
end
end Pf

namespace Pf
open PySem PySem.Spec PyProof.Rows L2 Dn
theorem firstFrom_snoc (w : Mat) (c : Nat) : ∀ (i a : Nat), firstFrom w c (i + 1) a = match firstFrom w c i a with
    | some k => some k
    | none => if cel (rw_ w (a + i)) c ≠ 0 then some (a + i) else none
  | 0, a => by
    show (if cel (rw_ w a) c ≠ 0 then some a else firstFrom w c 0 (a + 1)) = _
    rfl
  | i + 1, a => by
    have ih := firstFrom_snoc w c i (a + 1)
    show (if cel (rw_ w a) c ≠ 0 then some a else firstFrom w c (i + 1) (a + 1)) = match (if cel (rw_ w a) c ≠ 0 then some a else firstFrom w c i (a + 1)) with | some k => some k | none => _
    by_cases h : cel (rw_ w a) c ≠ 0
    · rw [if_pos h, if_pos h]
    · rw [if_neg h, if_neg h, ih]
      have e : a + 1 + i = a + (i + 1) := by omega
      rw [e]
def pkI : Option Nat → Int
  | some k => k
  | none => -1
section
variable {K : PySem.W.Frag}
/-- the law's search for a pivot -/
theorem red_pick {d : D} {n a c : Nat} {w : Mat} {x6 x7 x8 x9 x10 : Cell} (hw : Wide n w) (hc : c < n) (ha : a ≤ w.length) (hz : w.length ≤ sizeLine) :
    ∃ y6, dFor (dNL rng2 (dCons (dVar 3) (dCons (dLenL (dOwn 2)) dNil))) (uName 6)
        (dIf (dAnd (dBool (d2 oLt (dVar 5) (dK (D.int 0)))) (dBool (d2 oNe (d2 oIx (dIxL (dOwn 2) (dVar 6)) (dVar 4)) (dK (D.int 0))))) (dSet 5 (dVar 6)) dSkip)
        [.va d, .va (.int (n : Nat)), .ow (w.map rowL), .va (.int (a : Nat)), .va (.int (c : Nat)), .va (.int (-1)), x6, x7, x8, x9, x10]
      = .nx [.va d, .va (.int (n : Nat)), .ow (w.map rowL), .va (.int (a : Nat)), .va (.int (c : Nat)), .va (.int (pkI (firstNZ w a c))), y6, x7, x8, x9, x10] := by
  rw [for_eq (ds := rangeD a (w.length - a)) (by
    have : dCons (dVar 3) (dCons (dLenL (dOwn 2)) dNil) [.va d, .va (.int (n : Nat)), .ow (w.map rowL), .va (.int (a : Nat)), .va (.int (c : Nat)), .va (.int (-1)), x6, x7, x8, x9, x10] = .ok [.int (a : Nat), .int (w.length : Nat)] := by simp
    show (dCons (dVar 3) (dCons (dLenL (dOwn 2)) dNil) _).bind _ = _
    rw [this]
    show Res.opt (rng2 _) = _
    rw [rng2_nat _ _ hz ha]
    rfl)]
  refine dRange_wp (fun o => ∃ y6, o = .nx [.va d, .va (.int (n : Nat)), .ow (w.map rowL), .va (.int (a : Nat)), .va (.int (c : Nat)), .va (.int (pkI (firstNZ w a c))), y6, x7, x8, x9, x10]) a (w.length - a)
    (fun i δ => ∃ y6, δ = [.va d, .va (.int (n : Nat)), .ow (w.map rowL), .va (.int (a : Nat)), .va (.int (c : Nat)), .va (.int (pkI (firstFrom w c i a))), y6, x7, x8, x9, x10]) ?_ ?_ _ ⟨_, rfl⟩
  · rintro i hi δ ⟨y6, rfl⟩
    have hk : a + i < w.length := by omega
    have e1 : (((a : Nat) : Int) + (i : Nat)) = ((a + i : Nat) : Int) := by omega
    refine ⟨[.va d, .va (.int (n : Nat)), .ow (w.map rowL), .va (.int (a : Nat)), .va (.int (c : Nat)), .va (.int (pkI (firstFrom w c i a))), .va (.int (a + i : Nat)), x7, x8, x9, x10], by rw [e1]; rfl, .inl ?_⟩
    have hix := ix_rowL hk
    have hcl : atI ((rw_ w (a + i)).map D.int) (c : Nat) = some (.int (cel (rw_ w (a + i)) c)) := ix_cel (by rw [hw _ (rw_mem hk)]; exact hc)
    rw [firstFrom_snoc]
    cases e : firstFrom w c i a with
    | some k =>
      refine ⟨_, .inl (if_f ?_), .va (.int (a + i : Nat)), rfl⟩
      have : ¬ ((k : Nat) : Int) < 0 := by omega
      simp [pkI, this]
    | none =>
      by_cases h0 : cel (rw_ w (a + i)) c = 0
      · refine ⟨_, .inl (if_f ?_), .va (.int (a + i : Nat)), by simp [h0, dSkip]⟩
        have h1 := hix
        simp only [dAnd, dBool, d2, dVar, dIxL, dOwn, List.getElem?_cons_zero, List.getElem?_cons_succ, Res.bind_ok, pkI, oLt, o2I, dK, Res.opt_some, hix, oIx, rowL, hcl, oNe_int]
        simp [h0]
      · refine ⟨_, .inl ((if_t ?_).trans (set_eq rfl)), .va (.int (a + i : Nat)), by simp [h0, pkI]⟩
        simp only [dAnd, dBool, d2, dVar, dIxL, dOwn, List.getElem?_cons_zero, List.getElem?_cons_succ, Res.bind_ok, pkI, oLt, o2I, dK, Res.opt_some, hix, oIx, rowL, hcl, oNe_int]
        simp [h0]
  · rintro δ ⟨y6, rfl⟩
    exact ⟨y6, rfl⟩
end
end Pf

namespace Pf
open PySem PySem.Spec PyProof.Rows L2 Dn
section
variable {K : PySem.W.Frag}
theorem and_eq {p q : Sto → Res Bool} {δ : Sto} {b1 b2 : Bool} (h1 : p δ = .ok b1) (h2 : q δ = .ok b2) : dAnd p q δ = .ok (b1 && b2) := by
  show (p δ).bind _ = _
  rw [h1]
  cases b1
  · rfl
  · exact h2
/-- the law's elimination -/
theorem red_inner {d : D} {n a c : Nat} {w : Mat} {head : List Int} {x5 x6 x8 x9 x10 : Cell} (hw : Wide n w) (hs : Small w) (hc : c < n) (ha : a < w.length) (hz : w.length ≤ sizeLine) (hn : n ≤ sizeLine) (hl : head.length = n) (hh : ∀ x ∈ head, x.natAbs < 2 ^ 4000) :
    ∃ y6 y9 y10, dFor (dNL rng1 (dCons (dLenL (dOwn 2)) dNil)) (uName 6)
      (dIf (dAnd (dBool (d2 oNe (dVar 6) (dVar 3))) (dBool (d2 oNe (d2 oIx (dIxL (dOwn 2) (dVar 6)) (dVar 4)) (dK (D.int 0)))))
        (dSeq (dSet 9 (dIxL (dOwn 2) (dVar 6)))
          (dPut 2 (dVar 6) (dCall (φ__law_lowest K) [] (dCons (dLst (dLc (dNL rng1 (dCons (dVar 1) dNil)) (uName 10) dYes (d2 oSub (d2 oMul (d2 oIx (dVar 7) (dVar 4)) (d2 oIx (dVar 9) (dVar 10))) (d2 oMul (d2 oIx (dVar 9) (dVar 4)) (d2 oIx (dVar 7) (dVar 10)))) [10])) dNil))))
        dSkip)
      [.va d, .va (.int (n : Nat)), .ow (w.map rowL), .va (.int (a : Nat)), .va (.int (c : Nat)), x5, x6, .va (rowL head), x8, x9, x10]
      = .nx [.va d, .va (.int (n : Nat)), .ow ((elimA n head a c w).map rowL), .va (.int (a : Nat)), .va (.int (c : Nat)), x5, y6, .va (rowL head), x8, y9, y10] := by
  rw [for_eq (ds := rangeD 0 w.length) (by
    have : dCons (dLenL (dOwn 2)) dNil [.va d, .va (.int (n : Nat)), .ow (w.map rowL), .va (.int (a : Nat)), .va (.int (c : Nat)), x5, x6, .va (rowL head), x8, x9, x10] = .ok [.int (w.length : Nat)] := by simp
    show (dCons (dLenL (dOwn 2)) dNil _).bind _ = _
    rw [this]
    show Res.opt (rng1 _) = _
    rw [rng1_nat _ hz]
    rfl)]
  refine dRange_wp (fun o => ∃ y6 y9 y10, o = .nx [.va d, .va (.int (n : Nat)), .ow ((elimA n head a c w).map rowL), .va (.int (a : Nat)), .va (.int (c : Nat)), x5, y6, .va (rowL head), x8, y9, y10]) 0 w.length
    (fun i δ => ∃ y6 y9 y10, δ = [.va d, .va (.int (n : Nat)), .ow ((upTo (elimR n head a c) i w).map rowL), .va (.int (a : Nat)), .va (.int (c : Nat)), x5, y6, .va (rowL head), x8, y9, y10]) ?_ ?_ _ ⟨x6, x9, x10, by rw [upTo_zero]⟩
  · rintro i hi δ ⟨y6, y9, y10, rfl⟩
    let r := rw_ w i
    have hr : r.length = n := hw _ (rw_mem hi)
    have e0 : ((0 : Int) + (i : Nat)) = (i : Nat) := by omega
    refine ⟨[.va d, .va (.int (n : Nat)), .ow ((upTo (elimR n head a c) i w).map rowL), .va (.int (a : Nat)), .va (.int (c : Nat)), x5, .va (.int (i : Nat)), .va (rowL head), x8, y9, y10], by rw [e0]; rfl, .inl ?_⟩
    have hix : atI ((upTo (elimR n head a c) i w).map rowL) (i : Nat) = some (rowL r) := by
      have := ix_rowL (w := upTo (elimR n head a c) i w) (k := i) (by rw [upTo_len]; exact hi)
      rw [upTo_rw _ hi] at this
      exact this
    have hcel : atI (r.map D.int) (c : Nat) = some (.int (cel r c)) := ix_cel (by rw [hr]; exact hc)
    have hcelh : atI (head.map D.int) (c : Nat) = some (.int (cel head c)) := ix_cel (by rw [hl]; exact hc)
    have tst : dBool (d2 oNe (d2 oIx (dIxL (dOwn 2) (dVar 6)) (dVar 4)) (dK (D.int 0))) [.va d, .va (.int (n : Nat)), .ow ((upTo (elimR n head a c) i w).map rowL), .va (.int (a : Nat)), .va (.int (c : Nat)), x5, .va (.int (i : Nat)), .va (rowL head), x8, y9, y10] = .ok (!decide (cel r c = 0)) := by
      simp only [dBool, d2, dVar, dIxL, dOwn, List.getElem?_cons_zero, List.getElem?_cons_succ, Res.bind_ok, dK, Res.opt_some, hix, oIx, rowL, hcel, oNe_int]
    have tst1 : dBool (d2 oNe (dVar 6) (dVar 3)) [.va d, .va (.int (n : Nat)), .ow ((upTo (elimR n head a c) i w).map rowL), .va (.int (a : Nat)), .va (.int (c : Nat)), x5, .va (.int (i : Nat)), .va (rowL head), x8, y9, y10] = .ok (!decide (i = a)) := by
      have : decide (((i : Nat) : Int) = (a : Nat)) = decide (i = a) := by
        by_cases h : i = a
        · simp [h]
        · simp [h]
          omega
      show Res.ok (!decide (((i : Nat) : Int) = (a : Nat))) = _
      rw [this]
    by_cases ht : i ≠ a ∧ cel r c ≠ 0
    · have hsm := hs _ (rw_mem hi)
      have hcb := comb_small hh hsm hl hr hc
      have hcb2 : ∀ x ∈ comb n head r c, x.natAbs < 2 ^ 8001 := fun x hx => by
        have := hcb x hx
        rw [← Nat.pow_add] at this
        have e : 2 * 2 ^ (4000 + 4000) = 2 ^ 8001 := by rw [← Nat.pow_succ']
        omega
      have hp : (gcdL (comb n head r c)).log2 < 9000 := Nat.lt_trans (log2_lt (k := 8001) (gcdL_le (by decide) hcb2) (by decide)) (by decide)
      have mo : ∀ x y : Int, x.natAbs < 2 ^ 4000 → y.natAbs < 2 ^ 4000 → MulOk x y := fun x y hx hy => by
        have h1 := log2_lt hx (by decide)
        have h2 := log2_lt hy (by decide)
        show _ + _ < _
        omega
      have g1 : dSet 9 (dIxL (dOwn 2) (dVar 6)) [.va d, .va (.int (n : Nat)), .ow ((upTo (elimR n head a c) i w).map rowL), .va (.int (a : Nat)), .va (.int (c : Nat)), x5, .va (.int (i : Nat)), .va (rowL head), x8, y9, y10]
          = .nx [.va d, .va (.int (n : Nat)), .ow ((upTo (elimR n head a c) i w).map rowL), .va (.int (a : Nat)), .va (.int (c : Nat)), x5, .va (.int (i : Nat)), .va (rowL head), x8, .va (rowL r), y10] := set_eq (by simp [hix])
      have cmp : dLc (dNL rng1 (dCons (dVar 1) dNil)) (uName 10) dYes (d2 oSub (d2 oMul (d2 oIx (dVar 7) (dVar 4)) (d2 oIx (dVar 9) (dVar 10))) (d2 oMul (d2 oIx (dVar 9) (dVar 4)) (d2 oIx (dVar 7) (dVar 10)))) [10]
          [.va d, .va (.int (n : Nat)), .ow ((upTo (elimR n head a c) i w).map rowL), .va (.int (a : Nat)), .va (.int (c : Nat)), x5, .va (.int (i : Nat)), .va (rowL head), x8, .va (rowL r), y10] = .ok ((comb n head r c).map .int) := by
        show (dNL rng1 (dCons (dVar 1) dNil) _).bind _ = _
        have e1 : dNL rng1 (dCons (dVar 1) dNil) [.va d, .va (.int (n : Nat)), .ow ((upTo (elimR n head a c) i w).map rowL), .va (.int (a : Nat)), .va (.int (c : Nat)), x5, .va (.int (i : Nat)), .va (rowL head), x8, .va (rowL r), y10] = .ok (rangeD 0 n) := by
          have : dCons (dVar 1) dNil [.va d, .va (.int (n : Nat)), .ow ((upTo (elimR n head a c) i w).map rowL), .va (.int (a : Nat)), .va (.int (c : Nat)), x5, .va (.int (i : Nat)), .va (rowL head), x8, .va (rowL r), y10] = .ok [.int (n : Nat)] := by simp
          show (dCons (dVar 1) dNil _).bind _ = _
          rw [this]
          show Res.opt (rng1 _) = _
          rw [rng1_nat _ hn]
          rfl
        rw [e1]
        show dComp _ _ _ _ _ = _
        rw [dComp_range _ 0 n (fun j => .int (cel head c * cel r j - cel r c * cel head j)) fun j hj => ?_]
        · simp [comb, List.map_map, Function.comp_def]
        · have e0 : ((0 : Int) + (j : Nat)) = (j : Nat) := by omega
          refine ⟨[.va d, .va (.int (n : Nat)), .ow ((upTo (elimR n head a c) i w).map rowL), .va (.int (a : Nat)), .va (.int (c : Nat)), x5, .va (.int (i : Nat)), .va (rowL head), x8, .va (rowL r), .va (.int (j : Nat))], by rw [e0]; rfl, rfl, ?_⟩
          have i1 : atI (r.map D.int) (j : Nat) = some (.int (cel r j)) := ix_cel (by rw [hr]; exact hj)
          have i2 : atI (head.map D.int) (j : Nat) = some (.int (cel head j)) := ix_cel (by rw [hl]; exact hj)
          have m1 := mo _ _ (hh _ (cel_mem (r := head) (c := c) (by omega))) (hsm _ (cel_mem (r := r) (c := j) (by omega)))
          have m2 := mo _ _ (hsm _ (cel_mem (r := r) (c := c) (by omega))) (hh _ (cel_mem (r := head) (c := j) (by omega)))
          simp [rowL, i1, i2, m1, m2, hcel, hcelh]
      have pr := p__law_lowest (K := K) (d := .lst ((comb n head r c).map .int)) (.lst _) hp fun x hx => Nat.lt_trans (log2_lt (hcb2 x hx) (by decide)) (by decide)
      refine ⟨_, .inl (by
        rw [if_t (by rw [and_eq tst1 tst]; simp [ht.1, ht.2]), seq_nx g1]
        refine put_eq (k := i) (d := rowL (prim (comb n head r c))) (ds := (upTo (elimR n head a c) i w).map rowL) ?_ rfl rfl (by rw [List.length_map, upTo_len]; exact hi)
        show (dCons _ _ _).bind _ = _
        have e2 : dCons (dLst (dLc (dNL rng1 (dCons (dVar 1) dNil)) (uName 10) dYes (d2 oSub (d2 oMul (d2 oIx (dVar 7) (dVar 4)) (d2 oIx (dVar 9) (dVar 10))) (d2 oMul (d2 oIx (dVar 9) (dVar 4)) (d2 oIx (dVar 7) (dVar 10)))) [10])) dNil
            [.va d, .va (.int (n : Nat)), .ow ((upTo (elimR n head a c) i w).map rowL), .va (.int (a : Nat)), .va (.int (c : Nat)), x5, .va (.int (i : Nat)), .va (rowL head), x8, .va (rowL r), y10] = .ok [.lst ((comb n head r c).map .int)] := by
          show ((dLc _ _ _ _ _ _).bind _).bind _ = _
          rw [cmp]
          rfl
        rw [e2]
        exact pr), .va (.int (i : Nat)), .va (rowL r), y10, ?_⟩
      rw [upTo_succ _ hi]
      have e5 : elimR n head a c i (rw_ w i) = prim (comb n head r c) := if_pos ht
      rw [e5, List.map_set]
      rfl
    · refine ⟨_, .inl (if_f ?_), .va (.int (i : Nat)), y9, y10, ?_⟩
      · rw [and_eq tst1 tst]
        by_cases h1 : i = a
        · simp [h1]
        · have h2 : cel r c = 0 := by
            by_cases h2 : cel r c = 0
            · exact h2
            · exact absurd ⟨h1, h2⟩ ht
          simp [h2]
      · have e5 : elimR n head a c i (rw_ w i) = rw_ w i := if_neg ht
        rw [upTo_same _ hi e5]
  · rintro δ ⟨y6, y9, y10, rfl⟩
    exact ⟨y6, y9, y10, by rw [upTo_all]; rfl⟩
end
end Pf

namespace Pf
open PySem PySem.Spec PyProof.Rows L2 Dn
theorem rowsAre_lst {i j : Nat} {ds : List D} {w : Mat} (h : RowsAre ds w) (δ : Sto) (hi : i < δ.length) (hj : j < δ.length) (hij : i ≠ j) : dComp (uName i) dYes (dLst (dLc (dItems (dVar i)) (uName j) dYes (dVar j) [j])) ds δ = .ok (w.map rowL) := by
  induction h with
  | nil => rfl
  | @cons d r ds w h1 _ ih =>
    rw [dComp_cons]
    have it : dItems (dVar i) (δ.set i (.va d)) = .ok (r.map .int) := seq_items h1 (List.getElem?_set_self hi)
    have e : (dLst (dLc (dItems (dVar i)) (uName j) dYes (dVar j) [j])) (δ.set i (.va d)) = .ok (rowL r) := by
      show ((dItems (dVar i) _).bind _).bind _ = _
      rw [it]
      show (dComp _ _ _ _ _).bind _ = _
      rw [comp_copy j _ (by simpa using hj)]
      rfl
    show (dYes _).noex.bind _ = _
    simp only [dYes, Res.noex_ok, Res.bind_ok, if_true, e, ih]
    rfl
section
variable {K : PySem.W.Frag}
noncomputable def bodyR (K : PySem.W.Frag) : Sto → Out := dSeq (dSet 5 (d1 oNeg (dK (D.int 1))))
  (dSeq (dFor (dNL rng2 (dCons (dVar 3) (dCons (dLenL (dOwn 2)) dNil))) (uName 6) (dIf (dAnd (dBool (d2 oLt (dVar 5) (dK (D.int 0)))) (dBool (d2 oNe (d2 oIx (dIxL (dOwn 2) (dVar 6)) (dVar 4)) (dK (D.int 0))))) (dSet 5 (dVar 6)) dSkip))
    (dIf (dBool (d2 oGe (dVar 5) (dK (D.int 0))))
      (dSeq (dSet 7 (dCall (φ__law_lowest K) [] (dCons (dIxL (dOwn 2) (dVar 5)) dNil)))
        (dSeq (dPut 2 (dVar 5) (dIxL (dOwn 2) (dVar 3)))
          (dSeq (dPut 2 (dVar 3) (dVar 7))
            (dSeq (dFor (dNL rng1 (dCons (dLenL (dOwn 2)) dNil)) (uName 6)
                (dIf (dAnd (dBool (d2 oNe (dVar 6) (dVar 3))) (dBool (d2 oNe (d2 oIx (dIxL (dOwn 2) (dVar 6)) (dVar 4)) (dK (D.int 0)))))
                  (dSeq (dSet 9 (dIxL (dOwn 2) (dVar 6)))
                    (dPut 2 (dVar 6) (dCall (φ__law_lowest K) [] (dCons (dLst (dLc (dNL rng1 (dCons (dVar 1) dNil)) (uName 10) dYes (d2 oSub (d2 oMul (d2 oIx (dVar 7) (dVar 4)) (d2 oIx (dVar 9) (dVar 10))) (d2 oMul (d2 oIx (dVar 9) (dVar 4)) (d2 oIx (dVar 7) (dVar 10)))) [10])) dNil))))
                  dSkip))
              (dSet 3 (d2 oAdd (dVar 3) (dK (D.int 1))))))))
      dSkip))
theorem red_turn {d : D} {n c : Nat} {s : Mat × Nat} {x5 x6 x7 x8 x9 x10 : Cell} (hw : Wide n s.1) (hs : Small s.1) (hc : c < n) (ha : s.2 ≤ s.1.length) (hz : s.1.length ≤ sizeLine) (hn : n ≤ sizeLine) :
    Turns (fun δ2 => ∃ y4 y5 y6 y7 y8 y9 y10, δ2 = [.va d, .va (.int (n : Nat)), .ow ((colS n s c).1.map rowL), .va (.int ((colS n s c).2 : Nat)), y4, y5, y6, y7, y8, y9, y10])
      (bodyR K [.va d, .va (.int (n : Nat)), .ow (s.1.map rowL), .va (.int (s.2 : Nat)), .va (.int (c : Nat)), x5, x6, x7, x8, x9, x10]) := by
  obtain ⟨w, a⟩ := s
  have hw : Wide n w := hw
  have hs : Small w := hs
  have ha : a ≤ w.length := ha
  have hz : w.length ≤ sizeLine := hz
  unfold bodyR
  refine .seq (δ' := [.va d, .va (.int (n : Nat)), .ow (w.map rowL), .va (.int (a : Nat)), .va (.int (c : Nat)), .va (.int (-1)), x6, x7, x8, x9, x10]) rfl ?_
  obtain ⟨y6, pick⟩ := red_pick (d := d) (n := n) (a := a) (c := c) (w := w) (x6 := x6) (x7 := x7) (x8 := x8) (x9 := x9) (x10 := x10) hw hc ha hz
  refine .seq pick ?_
  cases ef : firstNZ w a c with
  | none =>
    have e1 : colS n (w, a) c = (w, a) := by
      unfold colS
      show (match firstNZ w a c with | none => _ | some k => _) = _
      rw [ef]
    refine ⟨[.va d, .va (.int (n : Nat)), .ow (w.map rowL), .va (.int (a : Nat)), .va (.int (c : Nat)), .va (.int (-1)), y6, x7, x8, x9, x10], .inl ?_, _, _, _, _, _, _, _, by rw [e1]⟩
    exact if_f rfl
  | some k =>
    obtain ⟨k1, k2, k3, _⟩ := firstFrom_some ef
    have kk : k < w.length := by omega
    have ka : a < w.length := by omega
    let head := prim (rw_ w k)
    have e1 : colS n (w, a) c = (elimA n head a c (swapT w a k), a + 1) := by
      unfold colS
      show (match firstNZ w a c with | none => _ | some k => _) = _
      rw [ef]
    have hl : head.length = n := by rw [prim_len]; exact hw _ (rw_mem kk)
    have hh : ∀ x ∈ head, x.natAbs < 2 ^ 4000 := prim_le (hs _ (rw_mem kk))
    have pr := p__law_lowest (K := K) (d := rowL (rw_ w k)) (.lst _) (small_gcd hs (rw_mem kk)) fun x hx => Nat.lt_trans (log2_lt (hs _ (rw_mem kk) x hx) (by decide)) (by decide)
    have ixk := ix_rowL kk
    have ixa := ix_rowL ka
    rw [show pkI (some k) = ((k : Nat) : Int) from rfl]
    have tk : dBool (d2 oGe (dVar 5) (dK (D.int 0))) [.va d, .va (.int (n : Nat)), .ow (w.map rowL), .va (.int (a : Nat)), .va (.int (c : Nat)), .va (.int (k : Nat)), y6, x7, x8, x9, x10] = .ok true := by
      have : (0 : Int) ≤ (k : Nat) := by omega
      show Res.ok (decide ((0 : Int) ≤ (k : Nat))) = _
      simp
    rw [if_t tk]
    refine .seq (δ' := [.va d, .va (.int (n : Nat)), .ow (w.map rowL), .va (.int (a : Nat)), .va (.int (c : Nat)), .va (.int (k : Nat)), y6, .va (rowL head), x8, x9, x10]) (set_eq (by
      have e0 : dCons (dIxL (dOwn 2) (dVar 5)) dNil [.va d, .va (.int (n : Nat)), .ow (w.map rowL), .va (.int (a : Nat)), .va (.int (c : Nat)), .va (.int (k : Nat)), y6, x7, x8, x9, x10] = .ok [rowL (rw_ w k)] := by simp [ixk]
      show (dCons _ _ _).bind _ = _
      rw [e0]
      exact pr)) ?_
    refine .seq (δ' := [.va d, .va (.int (n : Nat)), .ow ((w.map rowL).set k (rowL (rw_ w a))), .va (.int (a : Nat)), .va (.int (c : Nat)), .va (.int (k : Nat)), y6, .va (rowL head), x8, x9, x10]) (put_eq (k := k) (ds := w.map rowL) (by simp [ixa]) rfl rfl (by simpa using kk)) ?_
    refine .seq (δ' := [.va d, .va (.int (n : Nat)), .ow (((w.map rowL).set k (rowL (rw_ w a))).set a (rowL head)), .va (.int (a : Nat)), .va (.int (c : Nat)), .va (.int (k : Nat)), y6, .va (rowL head), x8, x9, x10]) (put_eq (k := a) (ds := (w.map rowL).set k (rowL (rw_ w a))) rfl rfl rfl (by simpa using ka)) ?_
    have es : ((w.map rowL).set k (rowL (rw_ w a))).set a (rowL head) = (swapT w a k).map rowL := by
      unfold swapT
      rw [List.map_set, List.map_set]
    rw [es]
    obtain ⟨z6, z9, z10, inner⟩ := red_inner (K := K) (d := d) (n := n) (a := a) (c := c) (w := swapT w a k) (head := head) (x5 := .va (.int (k : Nat))) (x6 := y6) (x8 := x8) (x9 := x9) (x10 := x10) (wide_swap hw ka kk) (small_swap hs ka kk) hc (by rw [swap_len]; exact ka) (by rw [swap_len]; exact hz) hn hl hh
    refine .seq inner ?_
    refine ⟨[.va d, .va (.int (n : Nat)), .ow ((elimA n head a c (swapT w a k)).map rowL), .va (.int ((a + 1 : Nat) : Nat)), .va (.int (c : Nat)), .va (.int (k : Nat)), z6, .va (rowL head), x8, z9, z10], .inl ?_, _, _, _, _, _, _, _, by rw [e1]⟩
    simp
theorem p__law_reduced {d : D} {ds : List D} {n : Nat} {w : Mat} (h : IsSeq d ds) (hr : RowsAre ds w) (hw : Wide n w) (hz : w.length ≤ sizeLine) (hn : n ≤ sizeLine) (hs : ∀ i < n, Small (echC n w i).1) : φ__law_reduced K [d, .int (n : Nat)] = .ok (.lst ((ech n w).map rowL)) := by
  unfold φ__law_reduced
  rw [fnD_eq (by rfl)]
  show Ends (dn__law_reduced K [.va d, .va (.int (n : Nat)), .un, .un, .un, .un, .un, .un, .un, .un, .un]) _
  unfold dn__law_reduced
  refine .seq (δ' := [.va d, .va (.int (n : Nat)), .ow (w.map rowL), .un, .un, .un, .un, .un, .un, .un, .un]) ?_ ?_
  · show (dLc _ _ _ _ _ _).out _ = _
    have it : dItems (dVar 0) [.va d, .va (.int (n : Nat)), .un, .un, .un, .un, .un, .un, .un, .un, .un] = .ok ds := seq_items h rfl
    have : dLc (dItems (dVar 0)) (uName 7) dYes (dLst (dLc (dItems (dVar 7)) (uName 8) dYes (dVar 8) [8])) [7] [.va d, .va (.int (n : Nat)), .un, .un, .un, .un, .un, .un, .un, .un, .un] = .ok (w.map rowL) := by
      show (dItems (dVar 0) _).bind _ = _
      rw [it]
      exact rowsAre_lst hr _ (by simp) (by simp) (by decide)
    rw [this]
    rfl
  refine .seq (δ' := [.va d, .va (.int (n : Nat)), .ow (w.map rowL), .va (.int (0 : Nat)), .un, .un, .un, .un, .un, .un, .un]) (set_eq rfl) ?_
  have lp : ∃ y4 y5 y6 y7 y8 y9 y10, dFor (dNL rng1 (dCons (dVar 1) dNil)) (uName 4) (bodyR K) [.va d, .va (.int (n : Nat)), .ow (w.map rowL), .va (.int (0 : Nat)), .un, .un, .un, .un, .un, .un, .un]
      = .nx [.va d, .va (.int (n : Nat)), .ow ((echC n w n).1.map rowL), .va (.int ((echC n w n).2 : Nat)), y4, y5, y6, y7, y8, y9, y10] := by
    rw [for_eq (ds := rangeD 0 n) (by
      have : dCons (dVar 1) dNil [.va d, .va (.int (n : Nat)), .ow (w.map rowL), .va (.int (0 : Nat)), .un, .un, .un, .un, .un, .un, .un] = .ok [.int (n : Nat)] := by simp
      show (dCons (dVar 1) dNil _).bind _ = _
      rw [this]
      show Res.opt (rng1 _) = _
      rw [rng1_nat _ hn]
      rfl)]
    refine dRange_wp (fun o => ∃ y4 y5 y6 y7 y8 y9 y10, o = .nx [.va d, .va (.int (n : Nat)), .ow ((echC n w n).1.map rowL), .va (.int ((echC n w n).2 : Nat)), y4, y5, y6, y7, y8, y9, y10]) 0 n
      (fun i δ => ∃ y4 y5 y6 y7 y8 y9 y10, δ = [.va d, .va (.int (n : Nat)), .ow ((echC n w i).1.map rowL), .va (.int ((echC n w i).2 : Nat)), y4, y5, y6, y7, y8, y9, y10]) ?_ ?_ _ ⟨_, _, _, _, _, _, _, rfl⟩
    · rintro i hi δ ⟨y4, y5, y6, y7, y8, y9, y10, rfl⟩
      obtain ⟨v1, v2, v3⟩ := echC_inv hw i
      have e0 : ((0 : Int) + (i : Nat)) = (i : Nat) := by omega
      refine ⟨[.va d, .va (.int (n : Nat)), .ow ((echC n w i).1.map rowL), .va (.int ((echC n w i).2 : Nat)), .va (.int (i : Nat)), y5, y6, y7, y8, y9, y10], by rw [e0]; rfl, .inl ?_⟩
      exact red_turn v1 (hs i hi) hi (by omega) (by omega) hn
    · rintro δ ⟨y4, y5, y6, y7, y8, y9, y10, rfl⟩
      exact ⟨_, _, _, _, _, _, _, rfl⟩
  obtain ⟨y4, y5, y6, y7, y8, y9, y10, lp⟩ := lp
  refine .seq lp (.ret ?_ ⟨_, rfl⟩)
  obtain ⟨v1, v2, v3⟩ := echC_inv hw n
  have e1 : dNL rng1 (dCons (dVar 3) dNil) [.va d, .va (.int (n : Nat)), .ow ((echC n w n).1.map rowL), .va (.int ((echC n w n).2 : Nat)), y4, y5, y6, y7, y8, y9, y10] = .ok (rangeD 0 (echC n w n).2) := by
    have : dCons (dVar 3) dNil [.va d, .va (.int (n : Nat)), .ow ((echC n w n).1.map rowL), .va (.int ((echC n w n).2 : Nat)), y4, y5, y6, y7, y8, y9, y10] = .ok [.int ((echC n w n).2 : Nat)] := by simp
    show (dCons (dVar 3) dNil _).bind _ = _
    rw [this]
    show Res.opt (rng1 _) = _
    rw [rng1_nat _ (by omega)]
    rfl
  simp only [dLst, dLc, e1, Res.bind_ok]
  rw [dComp_range _ 0 _ (fun k => rowL (rw_ (echC n w n).1 k)) fun k hk => ?_]
  · show Res.ok (D.lst _) = Res.ok (D.lst _)
    congr 2
    unfold ech
    apply List.ext_getElem?
    intro k
    simp only [List.getElem?_map, List.getElem?_take]
    by_cases hk : k < (echC n w n).2
    · rw [List.getElem?_range hk, if_pos hk, rw_get (by omega)]
      rfl
    · rw [List.getElem?_eq_none (by simpa using hk), if_neg hk]
      rfl
  · have e0 : ((0 : Int) + (k : Nat)) = (k : Nat) := by omega
    refine ⟨[.va d, .va (.int (n : Nat)), .ow ((echC n w n).1.map rowL), .va (.int ((echC n w n).2 : Nat)), y4, y5, .va (.int (k : Nat)), y7, y8, y9, y10], by rw [e0]; rfl, rfl, ?_⟩
    have := ix_rowL (w := (echC n w n).1) (k := k) (by omega)
    simp [this]
end
end Pf

namespace Pf
open PySem PySem.Spec PyProof.Rows L2 Dn
section
variable {K : PySem.W.Frag}
theorem frzs_comp {n : Nat} {δ : Sto} (hδ : 1 < δ.length) : ∀ {ds ys : List D}, frzs (frz K n) ds = .ok ys → dComp (uName 1) dYes (dCall (φ_frozenN K n) [] (dCons (dVar 1) dNil)) ds δ = .ok ys
  | [], ys, h => by
    cases h
    rfl
  | d :: ds, ys, h => by
    obtain ⟨x, hx, h⟩ := Res.bind_ok_iff.mp h
    obtain ⟨xs, hxs, h⟩ := Res.bind_ok_iff.mp h
    cases h
    rw [dComp_cons]
    show (dYes _).noex.bind _ = _
    have e : dCall (φ_frozenN K n) [] (dCons (dVar 1) dNil) (δ.set 1 (.va d)) = .ok x := by
      have e0 : dCons (dVar 1) dNil (δ.set 1 (.va d)) = .ok [d] := by simp [List.getElem?_set_self hδ]
      show (dCons _ _ _).bind _ = _
      rw [e0]
      exact hx
    simp only [dYes, Res.noex_ok, Res.bind_ok, if_true, e, frzs_comp hδ hxs]
theorem frz_noex : ∀ (n : Nat) (d : D) (e : Exc), frz K n d ≠ .ex e := by
  intro n
  induction n with
  | zero => intro d e h; cases h
  | succ n ih =>
    have many : ∀ (ds : List D) (e : Exc), frzs (frz K n) ds ≠ .ex e := by
      intro ds
      induction ds with
      | nil => intro e h; cases h
      | cons d ds ih2 =>
        intro e h
        rcases Res.bind_ex_of h with h | ⟨x, _, h⟩
        · exact ih d e h
        · rcases Res.bind_ex_of h with h | ⟨xs, _, h⟩
          · exact ih2 e h
          · cases h
    intro d e h
    cases d with
    | lst ds =>
      rcases Res.bind_ex_of h with h | ⟨xs, _, h⟩
      · exact many ds e h
      · cases h
    | tup ds =>
      rcases Res.bind_ex_of h with h | ⟨xs, _, h⟩
      · exact many ds e h
      · cases h
    | _ => cases h
theorem den_frozen (K : PySem.W.Frag) (n : Nat) : ∀ ds, φ_frozenN K (n + 1) ds ≠ .no → finO (dn_frozen K (φ_frozenN K n) (startD ["value", "item"] ds)) = φ_frozenN K (n + 1) ds := by
  intro ds h
  have hl := ar_frozen K (n + 1) ds h
  match ds, hl with
  | [d], _ =>
    show Ends (dn_frozen K (φ_frozenN K n) [.va d, .un]) (frz K (n + 1) d)
    have h : frz K (n + 1) d ≠ .no := h
    unfold dn_frozen
    have seq : ∀ es, IsSeq d es → frz K (n + 1) d = ((frzs (frz K n) es).bind fun xs => .ok (.tup xs)) → Ends (dSeq (dIf (dTest (dIsiT K (Cs K) (dVar 0) (dCons (dK (D.ty "list")) (dCons (dK (D.ty "tuple")) dNil)))) (dRet (dTupL (dSq (dLst (dLc (dItems (dVar 0)) (uName 1) dYes (dCall (φ_frozenN K n) [] (dCons (dVar 1) dNil)) [1]))))) dSkip) (dRet (dVar 0)) [.va d, .un]) (frz K (n + 1) d) := by
      intro es hs e
      cases er : frzs (frz K n) es with
      | no =>
        rw [er] at e
        exact absurd e h
      | ex x =>
        rw [er] at e
        exact absurd e (frz_noex _ _ _)
      | ok ys =>
        rw [er] at e
        refine .stop (v := .tup ys) ?_ e
        have it : dItems (dVar 0) [.va d, .un] = .ok es := seq_items hs rfl
        rw [if_t (by cases hs <;> simp [dTru])]
        simp only [dRet, dTupL, dSq, dLst, dLc, it, Res.bind_ok]
        rw [frzs_comp (by simp) er]
        rfl
    cases d with
    | lst es => exact seq es (.lst es) rfl
    | tup es => exact seq es (.tup es) rfl
    | int i =>
      refine .seq (δ' := [.va (.int i), .un]) ?_ (.ret rfl ⟨_, rfl⟩)
      exact (if_f (by simp [dTru])).trans rfl
    | _ => exact absurd rfl h
end
end Pf

namespace Pf
open PySem PySem.Spec PyProof.Rows L2 Dn
theorem RowsAre.len : ∀ {ds : List D} {w : Mat}, RowsAre ds w → ds.length = w.length
  | _, _, .nil => rfl
  | _, _, .cons _ h => congrArg (· + 1) h.len
theorem RowsAre.mem : ∀ {ds : List D} {w : Mat} {d : D}, RowsAre ds w → d ∈ ds → ∃ r ∈ w, IsSeq d (r.map .int)
  | _, _, _, .nil, h => by cases h
  | _, _, _, .cons h1 h2, h => by
    rcases List.mem_cons.mp h with rfl | h
    · exact ⟨_, List.mem_cons_self, h1⟩
    · obtain ⟨r, hr, hs⟩ := h2.mem h
      exact ⟨r, List.mem_cons_of_mem _ hr, hs⟩
theorem seq_len {d : D} {ds : List D} (h : IsSeq d ds) : oLen [d] = some (.int (ds.length : Nat)) := by
  cases h <;> rfl
theorem seq_ix {d x : D} {ds : List D} {i : Nat} (h : IsSeq d ds) (e : ds[i]? = some x) : oIx d (.int (i : Nat)) = some x := by
  cases h <;> exact atI_in e
theorem seq_eq {g k : Sto → Out} {δ δ' : Sto} {o : Out} (h1 : g δ = .nx δ') (h2 : k δ' = o) : dSeq g k δ = o := by
  rw [seq_nx h1]
  exact h2
section
variable {K : PySem.W.Frag}
theorem p_is_table {d : D} {w : Mat} {n : Nat} (h : TabIs d w) (hw : Wide n w) (hn : 0 < n) (hl : 0 < w.length) : φ_is_table K [d] = .ok (.bl true) := by
  obtain ⟨ds, hs, hr⟩ := h
  unfold φ_is_table
  rw [fnD_eq (by rfl)]
  show Ends (dn_is_table K [.va d, .un, .un]) _
  unfold dn_is_table
  have hlen := hr.len
  obtain ⟨d0, ds0, rfl⟩ : ∃ d0 ds0, ds = d0 :: ds0 := by
    cases ds with
    | nil => simp at hlen; omega
    | cons a b => exact ⟨a, b, rfl⟩
  have l0 : oLen [d] = some (.int ((d0 :: ds0).length : Nat)) := seq_len hs
  have ix0 : oIx d (.int 0) = some d0 := seq_ix (i := 0) hs rfl
  obtain ⟨r0, hr0, hs0⟩ := hr.mem (d := d0) List.mem_cons_self
  have ln0 : oLen [d0] = some (.int (n : Nat)) := by rw [seq_len hs0, List.length_map, hw _ hr0]
  refine .seq (δ' := [.va d, .un, .un]) ?_ ?_
  · refine (if_f ?_).trans rfl
    have nz : ¬ ((ds0.length : Int) + 1 = 0) := by omega
    simp [-oLen, p_is_row hs, dTru, l0, nz]
  · have lp : ∃ x y, dFor (dItems (dVar 0)) (uName 1) (dSeq (dIf (dOr (dNot (dTest (dCall (φ_is_row K) [] (dCons (dVar 1) dNil)))) (dOr (dBool (d2 oEq (dN oLen (dCons (dVar 1) dNil)) (dK (.int 0)))) (dBool (d2 oNe (dN oLen (dCons (dVar 1) dNil)) (dN oLen (dCons (d2 oIx (dVar 0) (dK (.int 0))) dNil)))))) (dRet (dK (.bl false))) dSkip) (dFor (dItems (dVar 1)) (uName 2) (dIf (dNot (dTest (dCall (φ_is_whole K) [] (dCons (dVar 2) dNil)))) (dRet (dK (.bl false))) dSkip))) [.va d, .un, .un] = .nx [.va d, x, y] := by
      rw [for_eq (seq_items hs rfl)]
      refine dLoop_wp (fun o => ∃ x y, o = .nx [.va d, x, y]) (fun es δ => (∀ e ∈ es, e ∈ d0 :: ds0) ∧ ∃ x y, δ = [.va d, x, y]) ?_ ?_ _ _ ⟨fun _ h => h, _, _, rfl⟩
      · rintro e es δ ⟨hm, x, y, rfl⟩
        obtain ⟨r, hrw, hsr⟩ := hr.mem (hm e List.mem_cons_self)
        have lne : oLen [e] = some (.int (n : Nat)) := by rw [seq_len hsr, List.length_map, hw _ hrw]
        refine ⟨[.va d, .va e, y], rfl, .inl ?_⟩
        have nz : ¬ n = 0 := by omega
        have inner : ∃ y', dFor (dItems (dVar 1)) (uName 2) (dIf (dNot (dTest (dCall (φ_is_whole K) [] (dCons (dVar 2) dNil)))) (dRet (dK (.bl false))) dSkip) [.va d, .va e, y] = .nx [.va d, .va e, y'] := by
          rw [for_eq (seq_items hsr rfl)]
          refine dLoop_wp (fun o => ∃ y', o = .nx [.va d, .va e, y']) (fun es δ => (∃ ms : List Int, es = ms.map .int) ∧ ∃ y', δ = [.va d, .va e, y']) ?_ ?_ _ _ ⟨⟨r, rfl⟩, y, rfl⟩
          · rintro x2 es2 δ2 ⟨⟨ms, e1⟩, y', rfl⟩
            cases ms with
            | nil => cases e1
            | cons m ms =>
              cases e1
              refine ⟨[.va d, .va e, .va (.int m)], rfl, .inl ⟨[.va d, .va e, .va (.int m)], .inl ((if_f ?_).trans rfl), ⟨ms, rfl⟩, _, rfl⟩⟩
              simp [p_is_whole, dTru]
          · rintro δ2 ⟨_, y', rfl⟩
            exact ⟨y', rfl⟩
        obtain ⟨y', inner⟩ := inner
        refine ⟨[.va d, .va e, y'], .inl ?_, fun e' he' => hm e' (List.mem_cons_of_mem _ he'), _, _, rfl⟩
        refine seq_eq (δ' := [.va d, .va e, y]) ((if_f ?_).trans rfl) inner
        simp [-oLen, -oIx, p_is_row hsr, dTru, lne, ix0, ln0, nz]
      · rintro δ ⟨_, x, y, rfl⟩
        exact ⟨x, y, rfl⟩
    obtain ⟨x, y, lp⟩ := lp
    exact .seq lp (.ret rfl ⟨_, rfl⟩)
end
end Pf

namespace Pf
open PySem PySem.Spec PyProof.Rows L2 Dn
theorem TabsAre.len : ∀ {ds : List D} {ws : List Mat}, TabsAre ds ws → ds.length = ws.length
  | _, _, .nil => rfl
  | _, _, .cons _ h => congrArg (· + 1) h.len
theorem TabsAre.mem : ∀ {ds : List D} {ws : List Mat} {d : D}, TabsAre ds ws → d ∈ ds → ∃ w ∈ ws, TabIs d w
  | _, _, _, .nil, h => by cases h
  | _, _, _, .cons h1 h2, h => by
    rcases List.mem_cons.mp h with rfl | h
    · exact ⟨_, List.mem_cons_self, h1⟩
    · obtain ⟨r, hr, hs⟩ := h2.mem h
      exact ⟨r, List.mem_cons_of_mem _ hr, hs⟩
section
variable {K : PySem.W.Frag}
theorem tab_len {d : D} {w : Mat} (h : TabIs d w) : oLen [d] = some (.int (w.length : Nat)) := by
  obtain ⟨ds, hs, hr⟩ := h
  rw [seq_len hs, hr.len]
theorem tab_row {d : D} {w : Mat} (h : TabIs d w) {i : Nat} (hi : i < w.length) : ∃ x, oIx d (.int (i : Nat)) = some x ∧ IsSeq x ((rw_ w i).map .int) := by
  obtain ⟨ds, hs, hr⟩ := h
  have key : ∀ {ds : List D} {w : Mat} (i : Nat), RowsAre ds w → i < w.length → ∃ x, ds[i]? = some x ∧ IsSeq x ((rw_ w i).map .int) := by
    intro ds w i hr
    induction hr generalizing i with
    | nil => intro h; simp at h
    | cons h1 h2 ih =>
      intro h
      cases i with
      | zero => exact ⟨_, rfl, h1⟩
      | succ i =>
        obtain ⟨x, e1, e2⟩ := ih i (by simpa using h)
        exact ⟨x, by simpa using e1, by simpa [rw_] using e2⟩
  obtain ⟨x, e, hx⟩ := key i hr hi
  exact ⟨x, seq_ix hs e, hx⟩
theorem kit_first {d : D} {ws : List Mat} {h n : Nat} (k : KitIs d ws h n) : ∃ t r, oIx d (.int 0) = some t ∧ oLen [t] = some (.int (h : Nat)) ∧ oIx t (.int 0) = some r ∧ oLen [r] = some (.int (n : Nat)) := by
  obtain ⟨ds, hs, hr⟩ := k.rep
  have hm := k.many
  cases hr with
  | nil => simp at hm
  | @cons t w ds ws h1 h2 =>
    have hw := k.hs w List.mem_cons_self
    obtain ⟨r, e1, e2⟩ := tab_row h1 (i := 0) (by rw [hw]; exact k.high)
    refine ⟨t, r, seq_ix (i := 0) hs rfl, by rw [tab_len h1, hw], e1, ?_⟩
    rw [seq_len e2, List.length_map, k.ns w List.mem_cons_self _ (rw_mem (by rw [hw]; exact k.high))]
theorem p_is_kit_tables {d : D} {ws : List Mat} {h n : Nat} (k : KitIs d ws h n) : φ_is_kit_tables K [d] = .ok (.bl true) := by
  unfold φ_is_kit_tables
  rw [fnD_eq (by rfl)]
  show Ends (dn_is_kit_tables K [.va d, .un]) _
  unfold dn_is_kit_tables
  obtain ⟨t0, r0, i0, l0, i1, l1⟩ := kit_first k
  obtain ⟨ds, hs, hr⟩ := k.rep
  have ld := seq_len hs
  have hlen := hr.len
  have hm := k.many
  refine .seq (δ' := [.va d, .un]) ?_ ?_
  · refine (if_f ?_).trans rfl
    have nz : ¬ ds.length = 0 := by omega
    simp [-oLen, p_is_row hs, dTru, ld, nz]
  · have lp : ∃ x, dFor (dItems (dVar 0)) (uName 1) (dIf (dOr (dNot (dTest (dCall (φ_is_table K) [] (dCons (dVar 1) dNil)))) (dOr (dBool (d2 oNe (dN oLen (dCons (dVar 1) dNil)) (dN oLen (dCons (d2 oIx (dVar 0) (dK (.int 0))) dNil)))) (dBool (d2 oNe (dN oLen (dCons (d2 oIx (dVar 1) (dK (.int 0))) dNil)) (dN oLen (dCons (d2 oIx (d2 oIx (dVar 0) (dK (.int 0))) (dK (.int 0))) dNil)))))) (dRet (dK (.bl false))) dSkip) [.va d, .un] = .nx [.va d, x] := by
      rw [for_eq (seq_items hs rfl)]
      refine dLoop_wp (fun o => ∃ x, o = .nx [.va d, x]) (fun es δ => (∀ e ∈ es, e ∈ ds) ∧ ∃ x, δ = [.va d, x]) ?_ ?_ _ _ ⟨fun _ h => h, _, rfl⟩
      · rintro e es δ ⟨hmem, x, rfl⟩
        obtain ⟨w, hw, ht⟩ := hr.mem (hmem e List.mem_cons_self)
        have le := tab_len ht
        rw [k.hs w hw] at le
        obtain ⟨r, e1, e2⟩ := tab_row ht (i := 0) (by rw [k.hs w hw]; exact k.high)
        have e1 : oIx e (.int 0) = some r := e1
        have lr : oLen [r] = some (.int (n : Nat)) := by rw [seq_len e2, List.length_map, k.ns w hw _ (rw_mem (by rw [k.hs w hw]; exact k.high))]
        have tb := p_is_table (K := K) ht (k.ns w hw) k.wide (by rw [k.hs w hw]; exact k.high)
        refine ⟨[.va d, .va e], rfl, .inl ⟨[.va d, .va e], .inl ((if_f ?_).trans rfl), fun e' he' => hmem e' (List.mem_cons_of_mem _ he'), _, rfl⟩⟩
        simp [-oLen, -oIx, tb, dTru, le, i0, l0, i1, l1, e1, lr]
      · rintro δ ⟨_, x, rfl⟩
        exact ⟨x, rfl⟩
    obtain ⟨x, lp⟩ := lp
    exact .seq lp (.ret rfl ⟨_, rfl⟩)
/-- no number reaches most -/
theorem p_is_too_great {d : D} {ds : List D} {ws : List Mat} {m : Int} (hs : IsSeq d ds) (hr : TabsAre ds ws) (hb : ∀ w ∈ ws, ∀ r ∈ w, ∀ x ∈ r, (x.natAbs : Int) < m) : φ_is_too_great K [d, .int m] = .ok (.bl false) := by
  unfold φ_is_too_great
  rw [fnD_eq (by rfl)]
  show Ends (dn_is_too_great K [.va d, .va (.int m), .un, .un, .un]) _
  unfold dn_is_too_great
  have ab : ∀ i : Int, (if i < 0 then -i else i) = (i.natAbs : Int) := fun i => by omega
  have in1 : ∀ (r : List Int) (e : D) (x y z : Cell), IsSeq e (r.map .int) → (∀ x ∈ r, (x.natAbs : Int) < m) → ∃ z', dFor (dItems (dVar 3)) (uName 4) (dIf (dBool (d2 oGe (dN oAbs (dCons (dVar 4) dNil)) (dVar 1))) (dRet (dK (.bl true))) dSkip) [.va d, .va (.int m), x, .va e, z] = .nx [.va d, .va (.int m), x, .va e, z'] := by
    intro r e x y z he hx
    rw [for_eq (seq_items he rfl)]
    refine dLoop_wp (fun o => ∃ z', o = .nx [.va d, .va (.int m), x, .va e, z']) (fun es δ => (∃ ms : List Int, es = ms.map .int ∧ ∀ i ∈ ms, (i.natAbs : Int) < m) ∧ ∃ z', δ = [.va d, .va (.int m), x, .va e, z']) ?_ ?_ _ _ ⟨⟨r, rfl, hx⟩, z, rfl⟩
    · rintro x2 es δ ⟨⟨ms, e1, hx⟩, z', rfl⟩
      cases ms with
      | nil => cases e1
      | cons i ms =>
        cases e1
        have hi := hx i List.mem_cons_self
        refine ⟨[.va d, .va (.int m), x, .va e, .va (.int i)], rfl, .inl ⟨[.va d, .va (.int m), x, .va e, .va (.int i)], .inl ((if_f ?_).trans rfl), ⟨ms, rfl, fun j hj => hx j (List.mem_cons_of_mem _ hj)⟩, _, rfl⟩⟩
        have : ¬ m ≤ (i.natAbs : Int) := by omega
        simp [ab]
        omega
    · rintro δ ⟨_, z', rfl⟩
      exact ⟨z', rfl⟩
  have in2 : ∀ (w : Mat) (e : D) (y z : Cell), TabIs e w → (∀ r ∈ w, ∀ x ∈ r, (x.natAbs : Int) < m) → ∃ y' z', dFor (dItems (dVar 2)) (uName 3) (dFor (dItems (dVar 3)) (uName 4) (dIf (dBool (d2 oGe (dN oAbs (dCons (dVar 4) dNil)) (dVar 1))) (dRet (dK (.bl true))) dSkip)) [.va d, .va (.int m), .va e, y, z] = .nx [.va d, .va (.int m), .va e, y', z'] := by
    intro w e y z ⟨es0, hes, hrs⟩ hx
    rw [for_eq (seq_items hes rfl)]
    refine dLoop_wp (fun o => ∃ y' z', o = .nx [.va d, .va (.int m), .va e, y', z']) (fun es δ => (∀ x ∈ es, x ∈ es0) ∧ ∃ y' z', δ = [.va d, .va (.int m), .va e, y', z']) ?_ ?_ _ _ ⟨fun _ h => h, y, z, rfl⟩
    · rintro x2 es δ ⟨hm, y', z', rfl⟩
      obtain ⟨r, hr2, hsr⟩ := hrs.mem (hm x2 List.mem_cons_self)
      obtain ⟨z2, e2⟩ := in1 r x2 (.va e) y' z' hsr (hx r hr2)
      exact ⟨[.va d, .va (.int m), .va e, .va x2, z'], rfl, .inl ⟨_, .inl e2, fun x' hx' => hm x' (List.mem_cons_of_mem _ hx'), _, _, rfl⟩⟩
    · rintro δ ⟨_, y', z', rfl⟩
      exact ⟨y', z', rfl⟩
  have lp : ∃ x y z, dFor (dItems (dVar 0)) (uName 2) (dFor (dItems (dVar 2)) (uName 3) (dFor (dItems (dVar 3)) (uName 4) (dIf (dBool (d2 oGe (dN oAbs (dCons (dVar 4) dNil)) (dVar 1))) (dRet (dK (.bl true))) dSkip))) [.va d, .va (.int m), .un, .un, .un] = .nx [.va d, .va (.int m), x, y, z] := by
    rw [for_eq (seq_items hs rfl)]
    refine dLoop_wp (fun o => ∃ x y z, o = .nx [.va d, .va (.int m), x, y, z]) (fun es δ => (∀ x ∈ es, x ∈ ds) ∧ ∃ x y z, δ = [.va d, .va (.int m), x, y, z]) ?_ ?_ _ _ ⟨fun _ h => h, _, _, _, rfl⟩
    · rintro x2 es δ ⟨hm, x, y, z, rfl⟩
      obtain ⟨w, hw, ht⟩ := hr.mem (hm x2 List.mem_cons_self)
      obtain ⟨y2, z2, e2⟩ := in2 w x2 y z ht (hb w hw)
      exact ⟨[.va d, .va (.int m), .va x2, y, z], rfl, .inl ⟨_, .inl e2, fun x' hx' => hm x' (List.mem_cons_of_mem _ hx'), _, _, _, rfl⟩⟩
    · rintro δ ⟨_, x, y, z, rfl⟩
      exact ⟨x, y, z, rfl⟩
  obtain ⟨x, y, z, lp⟩ := lp
  exact .seq lp (.ret rfl ⟨_, rfl⟩)
end
end Pf

namespace Pf
open PySem PySem.Spec PyProof.Rows L2 Dn
section
variable {K : PySem.W.Frag}
theorem frz_seq {n : Nat} {d : D} {ds : List D} (h : IsSeq d ds) : frz K (n + 1) d = (frzs (frz K n) ds).bind fun xs => .ok (.tup xs) := by
  cases h <;> rfl
theorem frzs_ints (n : Nat) : ∀ ns : List Int, frzs (frz K (n + 1)) (ns.map .int) = .ok (ns.map .int)
  | [] => rfl
  | m :: ms => by
    show (frz K (n + 1) (.int m)).bind _ = _
    have : frz K (n + 1) (.int m) = .ok (.int m) := rfl
    rw [this]
    show (frzs (frz K (n + 1)) (ms.map .int)).bind _ = _
    rw [frzs_ints n ms]
    rfl
theorem frzs_rows (n : Nat) : ∀ {ds : List D} {w : Mat}, RowsAre ds w → frzs (frz K (n + 2)) ds = .ok (w.map rowT)
  | _, _, .nil => rfl
  | _, _, @RowsAre.cons d r ds w h1 h2 => by
    show (frz K (n + 2) d).bind _ = _
    rw [frz_seq h1, frzs_ints]
    show (frzs (frz K (n + 2)) ds).bind _ = _
    rw [frzs_rows n h2]
    rfl
theorem frz_tab (n : Nat) {d : D} {w : Mat} (h : TabIs d w) : frz K (n + 3) d = .ok (matT w) := by
  obtain ⟨ds, hs, hr⟩ := h
  rw [frz_seq hs, frzs_rows n hr]
  rfl
theorem frzs_tabs (n : Nat) : ∀ {ds : List D} {ws : List Mat}, TabsAre ds ws → frzs (frz K (n + 3)) ds = .ok (ws.map matT)
  | _, _, .nil => rfl
  | _, _, @TabsAre.cons d w ds ws h1 h2 => by
    show (frz K (n + 3) d).bind _ = _
    rw [frz_tab n h1]
    show (frzs (frz K (n + 3)) ds).bind _ = _
    rw [frzs_tabs n h2]
    rfl
theorem p_frozen {d : D} {ds : List D} {ws : List Mat} (hs : IsSeq d ds) (hr : TabsAre ds ws) : φ_frozen K [d] = .ok (.tup (ws.map matT)) := by
  show frz K 6 d = _
  rw [frz_seq hs, frzs_tabs 2 hr]
  rfl
end
end Pf

namespace Pf
open PySem PySem.Spec PyProof.Rows L2 Dn
theorem putf_eq {i : Nat} {C b : Addr} {f : Str} {g : Sto → Res D} {δ : Sto} {d : D} {ns : List Str} {ds : List D} (e1 : g δ = .ok d) (e2 : δ[i]? = some (.ob b C ns ds)) (hl : ns.length < 1000) : dPutf i C f g δ = .nx (δ.set i (.ob b C (putF2 f d ns ds).1 (putF2 f d ns ds).2)) := by
  show (g δ).out _ = _
  rw [e1]
  show (δ.inst i C).out _ = _
  have : δ.inst i C = .ok (b, ns, ds) := by
    unfold Sto.inst
    rw [e2]
    exact if_pos rfl
  rw [this]
  exact if_pos hl
theorem or_f {p q : Sto → Res Bool} {δ : Sto} (h1 : p δ = .ok false) (h2 : q δ = .ok false) : dOr p q δ = .ok false := by
  show (p δ).bind _ = _
  rw [h1]
  exact h2
/-- an __init__'s end, told -/
def EndsI (b C : Addr) (r : Res (List Str × List D)) (o : Out) : Prop := finI b C o = r
theorem EndsI.seq {b C : Addr} {r : Res (List Str × List D)} {g k : Sto → Out} {δ δ' : Sto} (h : g δ = .nx δ') (h2 : EndsI b C r (k δ')) : EndsI b C r (dSeq g k δ) := by
  rw [seq_nx h]
  exact h2
section
variable {K : PySem.W.Frag}
theorem kit_body {b : Addr} {t : D} {ws : List Mat} {h n : Nat} (k : KitOk t ws h n) : finI b (He.ga K "Kit") (dn_Kit___init__ K [.ob b (He.ga K "Kit") [] [], .va t, .va (.bl true)]) = .ok (kitF ws h n) := by
  obtain ⟨t0, r0, i0, l0, i1, l1⟩ := kit_first k.is
  obtain ⟨ds, hs, hr⟩ := k.is.rep
  have ld : oLen [t] = some (.int (ws.length : Nat)) := by rw [seq_len hs, hr.len]
  have fr := p_frozen (K := K) hs hr
  have ikt := p_is_kit_tables (K := K) k.is
  have itg := p_is_too_great (K := K) (m := 1000000000000000000000000000000000000000000000000000000000000) hs hr (fun w hw r hr x hx => by have := k.big w hw r hr x hx; simpa using this)
  have hm := k.is.many
  have m40 := k.m40
  have h8 := k.h8
  have n8 := k.n8
  show EndsI b (He.ga K "Kit") (.ok (kitF ws h n)) _
  unfold dn_Kit___init__
  have c1 : (h : Int) ≤ 8 := by omega
  have c2 : (n : Int) ≤ 8 := by omega
  have c3 : (ws.length : Int) ≤ 40 := by omega
  have q1 : ¬ (40 : Int) < (ws.length : Nat) := by omega
  have q2 : ¬ (8 : Int) < (h : Nat) := by omega
  have q3 : ¬ (8 : Int) < (n : Nat) := by omega
  refine .seq (δ' := [.ob b (He.ga K "Kit") [] [], .va t, .va (.bl true)]) ((if_f (by simp [ikt, dTru])).trans rfl) ?_
  refine .seq (δ' := [.ob b (He.ga K "Kit") [] [], .va t, .va (.bl true)]) ((if_f (or_f (by simp [-oLen, -oIx, ld, c3]) (or_f (by simp [-oLen, -oIx, i0, l0, c1]) (by simp [-oLen, -oIx, i0, i1, l1, c2])))).trans rfl) ?_
  refine .seq (δ' := [.ob b (He.ga K "Kit") [] [], .va t, .va (.bl true)]) ((if_f (by simp [dTru, itg])).trans rfl) ?_
  refine .seq (δ' := [.ob b (He.ga K "Kit") ["tables"] [.tup (ws.map matT)], .va t, .va (.bl true)]) ((putf_eq (d := .tup (ws.map matT)) (by simp [fr]) rfl (by decide)).trans rfl) ?_
  obtain ⟨w0, ws0, rfl⟩ : ∃ w0 ws0, ws = w0 :: ws0 := by
    cases ws with
    | nil => simp at hm
    | cons a b => exact ⟨a, b, rfl⟩
  have h0 : w0.length = h := k.is.hs w0 List.mem_cons_self
  have n0 := k.is.ns w0 List.mem_cons_self
  obtain ⟨r0', w0', rfl⟩ : ∃ r w, w0 = r :: w := by
    cases w0 with
    | nil =>
      have := k.is.high
      simp at h0
      omega
    | cons a b => exact ⟨a, b, rfl⟩
  have hr0 : r0'.length = n := n0 _ List.mem_cons_self
  refine .seq (δ' := [.ob b (He.ga K "Kit") ["tables", "many"] [.tup (((r0' :: w0') :: ws0).map matT), .int (((r0' :: w0') :: ws0).length : Nat)], .va t, .va (.bl true)]) ((putf_eq (d := .int (((r0' :: w0') :: ws0).length : Nat)) (by simp) rfl (by decide)).trans rfl) ?_
  refine .seq (δ' := [.ob b (He.ga K "Kit") ["tables", "many", "high"] [.tup (((r0' :: w0') :: ws0).map matT), .int (((r0' :: w0') :: ws0).length : Nat), .int (h : Nat)], .va t, .va (.bl true)]) ((putf_eq (d := .int (h : Nat)) ?_ rfl (by decide)).trans rfl) ?_
  · have a0 : atI (matT (r0' :: w0') :: ws0.map matT) ((0 : Nat) : Int) = some (matT (r0' :: w0')) := atI_in rfl
    have a0 : atI (matT (r0' :: w0') :: ws0.map matT) 0 = some (matT (r0' :: w0')) := a0
    simp [a0]
    simp [matT, ← h0]
  show finI b (He.ga K "Kit") (dPutf _ _ _ _ _) = _
  rw [putf_eq (d := .int (n : Nat)) (b := b) (ns := ["tables", "many", "high"]) (ds := [.tup (((r0' :: w0') :: ws0).map matT), .int (((r0' :: w0') :: ws0).length : Nat), .int (h : Nat)]) ?_ rfl (by decide)]
  · show (if b = b ∧ He.ga K "Kit" = He.ga K "Kit" then Res.ok _ else .no) = _
    rw [if_pos ⟨rfl, rfl⟩]
    rfl
  · have a0 : atI (matT (r0' :: w0') :: ws0.map matT) ((0 : Nat) : Int) = some (matT (r0' :: w0')) := atI_in rfl
    have a0 : atI (matT (r0' :: w0') :: ws0.map matT) 0 = some (matT (r0' :: w0')) := a0
    have a1 : atI (rowT r0' :: w0'.map rowT) ((0 : Nat) : Int) = some (rowT r0') := atI_in rfl
    have a1 : atI (rowT r0' :: w0'.map rowT) 0 = some (rowT r0') := a1
    simp [a0]
    simp [matT, a1]
    simp [rowT, ← hr0]
end
end Pf

namespace Pf
open PySem PySem.Spec PyProof.Rows L2 Dn
section
variable {K : PySem.W.Frag}
theorem den_Kit___init__ (K : PySem.W.Frag) : ∀ b ds, φ_Kit___init__ K ds ≠ .no → finI b (He.ga K "Kit") (dn_Kit___init__ K (startI ["self", "tables", "checked"] b (He.ga K "Kit") ds)) = φ_Kit___init__ K ds := by
  intro b ds h
  unfold φ_Kit___init__ at h ⊢
  split at h
  · rename_i t
    by_cases p : ∃ z : List Mat × Nat × Nat, KitOk t z.1 z.2.1 z.2.2
    · simp only [dif_pos p]
      exact kit_body p.choose_spec
    · rw [dif_neg p] at h
      exact absurd rfl h
  · exact absurd rfl h
theorem ints_inj : ∀ {r r2 : List Int}, r.map D.int = r2.map D.int → r = r2
  | [], [], _ => rfl
  | [], _ :: _, h => by simp at h
  | _ :: _, [], h => by simp at h
  | a :: r, b :: r2, h => by
    simp at h
    rw [h.1, ints_inj (r := r) (r2 := r2) (by simpa using h.2)]
theorem seq_inj {d : D} {ds ds2 : List D} (h1 : IsSeq d ds) (h2 : IsSeq d ds2) : ds = ds2 := by
  cases h1 <;> cases h2 <;> rfl
theorem RowsAre.inj : ∀ {ds : List D} {w w2 : Mat}, RowsAre ds w → RowsAre ds w2 → w = w2
  | _, _, _, .nil, .nil => rfl
  | _, _, _, .cons h1 h2, .cons h3 h4 => by
    rw [ints_inj (seq_inj h1 h3), RowsAre.inj h2 h4]
theorem TabIs.inj {d : D} {w w2 : Mat} (h : TabIs d w) (h2 : TabIs d w2) : w = w2 := by
  obtain ⟨ds, hs, hr⟩ := h
  obtain ⟨ds2, hs2, hr2⟩ := h2
  have := seq_inj hs hs2
  subst this
  exact hr.inj hr2
theorem TabsAre.inj : ∀ {ds : List D} {w w2 : List Mat}, TabsAre ds w → TabsAre ds w2 → w = w2
  | _, _, _, .nil, .nil => rfl
  | _, _, _, .cons h1 h2, .cons h3 h4 => by
    rw [h1.inj h3, TabsAre.inj h2 h4]
theorem KitIs.inj {d : D} {ws ws2 : List Mat} {h h2 n n2 : Nat} (k : KitIs d ws h n) (k2 : KitIs d ws2 h2 n2) : ws = ws2 ∧ h = h2 ∧ n = n2 := by
  obtain ⟨ds, hs, hr⟩ := k.rep
  obtain ⟨ds2, hs2, hr2⟩ := k2.rep
  have := seq_inj hs hs2
  subst this
  have e := hr.inj hr2
  subst e
  have hm := k.many
  have m0 : rw_ [] 0 = [] := rfl
  obtain ⟨w0, ws0, rfl⟩ : ∃ w0 ws0, ws = w0 :: ws0 := by
    cases ws with
    | nil => simp at hm
    | cons a b => exact ⟨a, b, rfl⟩
  have e1 := k.hs w0 List.mem_cons_self
  have e2 := k2.hs w0 List.mem_cons_self
  have hh := k.high
  have hl : 0 < w0.length := by omega
  have e3 := k.ns w0 List.mem_cons_self _ (rw_mem hl)
  have e4 := k2.ns w0 List.mem_cons_self _ (rw_mem hl)
  exact ⟨rfl, by omega, by omega⟩
theorem p_Kit {t : D} {ws : List Mat} {h n : Nat} (k : KitOk t ws h n) : φ_Kit___init__ K [t, .bl true] = .ok (kitF ws h n) := by
  have p : ∃ z : List Mat × Nat × Nat, KitOk t z.1 z.2.1 z.2.2 := ⟨(ws, h, n), k⟩
  unfold φ_Kit___init__
  simp only [dif_pos p]
  obtain ⟨e1, e2, e3⟩ := p.choose_spec.is.inj k.is
  rw [e1, e2, e3]
end
end Pf

namespace Pf
open PySem PySem.Spec PyProof.Rows L2 Dn
section
variable {K : PySem.W.Frag}
theorem p_is_vector {d : D} {r : List Int} {n : Nat} (h : IsSeq d (r.map .int)) (hl : r.length = n) : φ_is_vector K [d, .int (n : Nat)] = .ok (.bl true) := by
  unfold φ_is_vector
  rw [fnD_eq (by rfl)]
  show Ends (dn_is_vector K [.va d, .va (.int (n : Nat)), .un]) _
  unfold dn_is_vector
  have ld : oLen [d] = some (.int (n : Nat)) := by rw [seq_len h, List.length_map, hl]
  have it : dItems (dVar 0) [.va d, .va (.int (n : Nat)), .un] = .ok (r.map .int) := seq_items h rfl
  have cmp : dLc (dItems (dVar 0)) (uName 2) dYes (dCall (φ_is_whole K) [] (dCons (dVar 2) dNil)) [2] [.va d, .va (.int (n : Nat)), .un] = .ok (r.map fun _ => D.bl true) := by
    show (dItems (dVar 0) _).bind _ = _
    rw [it]
    show dComp _ _ _ _ _ = _
    rw [dComp_map _ (fun _ => .bl true) _ fun x hx => ?_]
    · simp [List.map_map, Function.comp_def]
    · obtain ⟨m, _, rfl⟩ := List.mem_map.mp hx
      exact ⟨[.va d, .va (.int (n : Nat)), .va (.int m)], rfl, rfl, by simp [p_is_whole]⟩
  have al : oAll [.lst (r.map fun _ => D.bl true)] = some (.bl true) := by
    have e : (r.map fun _ => D.bl true) = (r.map fun _ => true).map D.bl := by simp [List.map_map, Function.comp_def]
    show (blsD _).map _ = _
    rw [e, blsD_map]
    simp
  refine .ret ?_ ⟨_, rfl⟩
  simp [-oLen, -oAll, -dLc, p_is_row h, ld, cmp, al]
end
end Pf

namespace Pf
open PySem PySem.Spec PyProof.Rows L2 Dn
section
variable {K : PySem.W.Frag}
theorem room_body {b : Addr} {d : D} {n : Nat} {w : Mat} (k : RoomOk d n w) : finI b (He.ga K "Room") (dn_Room___init__ K [.ob b (He.ga K "Room") [] [], .va (.int (n : Nat)), .va d, .un]) = .ok (roomF n (ech n w)) := by
  obtain ⟨ds, hs, hr⟩ := k.rep
  have h1 := k.n1
  have h64 := k.n64
  have ec := p_echelon (K := K) hs hr k.wd k.len (by have : 64 ≤ sizeLine := by decide
                                                     omega) k.run
  show EndsI b (He.ga K "Room") (.ok (roomF n (ech n w))) _
  unfold dn_Room___init__
  have c1 : ¬ (n : Int) < 1 := by omega
  have c2 : (n : Int) ≤ 64 := by omega
  refine .seq (δ' := [.ob b (He.ga K "Room") [] [], .va (.int (n : Nat)), .va d, .un]) ((if_f (or_f (by simp [p_is_whole, dTru]) (or_f (by simp [c1]) (or_f (by simp [c2]) (by simp [p_is_row hs, dTru]))))).trans rfl) ?_
  have lp : ∃ x, dFor (dItems (dVar 2)) (uName 3) (dIf (dNot (dTest (dCall (φ_is_vector K) [] (dCons (dVar 3) (dCons (dVar 1) dNil))))) (fun _ => .no) dSkip) [.ob b (He.ga K "Room") [] [], .va (.int (n : Nat)), .va d, .un] = .nx [.ob b (He.ga K "Room") [] [], .va (.int (n : Nat)), .va d, x] := by
    rw [for_eq (seq_items hs rfl)]
    refine dLoop_wp (fun o => ∃ x, o = .nx [.ob b (He.ga K "Room") [] [], .va (.int (n : Nat)), .va d, x]) (fun es δ => (∀ e ∈ es, e ∈ ds) ∧ ∃ x, δ = [.ob b (He.ga K "Room") [] [], .va (.int (n : Nat)), .va d, x]) ?_ ?_ _ _ ⟨fun _ h => h, _, rfl⟩
    · rintro e es δ ⟨hm, x, rfl⟩
      obtain ⟨r, hrw, hsr⟩ := hr.mem (hm e List.mem_cons_self)
      have iv := p_is_vector (K := K) hsr (k.wd r hrw)
      exact ⟨[.ob b (He.ga K "Room") [] [], .va (.int (n : Nat)), .va d, .va e], rfl, .inl ⟨[.ob b (He.ga K "Room") [] [], .va (.int (n : Nat)), .va d, .va e], .inl ((if_f (by simp [iv, dTru])).trans rfl), fun e' he' => hm e' (List.mem_cons_of_mem _ he'), _, rfl⟩⟩
    · rintro δ ⟨_, x, rfl⟩
      exact ⟨x, rfl⟩
  obtain ⟨x, lp⟩ := lp
  refine .seq lp ?_
  refine .seq (δ' := [.ob b (He.ga K "Room") ["size"] [.int (n : Nat)], .va (.int (n : Nat)), .va d, x]) ((putf_eq (d := .int (n : Nat)) rfl rfl (by decide)).trans rfl) ?_
  refine .seq (δ' := [.ob b (He.ga K "Room") ["size", "rows"] [.int (n : Nat), .tup ((ech n w).map rowT)], .va (.int (n : Nat)), .va d, x]) ((putf_eq (d := .tup ((ech n w).map rowT)) (by simp [ec]) rfl (by decide)).trans rfl) ?_
  show finI b (He.ga K "Room") (dPutf _ _ _ _ _) = _
  rw [putf_eq (d := .int ((ech n w).length : Nat)) (b := b) (ns := ["size", "rows"]) (ds := [.int (n : Nat), .tup ((ech n w).map rowT)]) (by
    have ne : ¬ (("rows" : Str) = "size") := by decide
    simp [ne]) rfl (by decide)]
  show (if b = b ∧ He.ga K "Room" = He.ga K "Room" then Res.ok _ else .no) = _
  rw [if_pos ⟨rfl, rfl⟩]
  rfl
theorem den_Room___init__ (K : PySem.W.Frag) : ∀ b ds, φ_Room___init__ K ds ≠ .no → finI b (He.ga K "Room") (dn_Room___init__ K (startI ["self", "size", "rows", "row"] b (He.ga K "Room") ds)) = φ_Room___init__ K ds := by
  intro b ds h
  unfold φ_Room___init__ at h ⊢
  split at h
  · rename_i i d
    by_cases p : ∃ z : Nat × Mat, i = (z.1 : Nat) ∧ RoomOk d z.1 z.2
    · simp only [dif_pos p]
      have := room_body (K := K) (b := b) p.choose_spec.2
      rw [← p.choose_spec.1] at this
      exact this
    · rw [dif_neg p] at h
      exact absurd rfl h
  · exact absurd rfl h
theorem p_Room {d : D} {n : Nat} {w : Mat} (k : RoomOk d n w) : φ_Room___init__ K [.int (n : Nat), d] = .ok (roomF n (ech n w)) := by
  have p : ∃ z : Nat × Mat, ((n : Nat) : Int) = (z.1 : Nat) ∧ RoomOk d z.1 z.2 := ⟨(n, w), rfl, k⟩
  unfold φ_Room___init__
  simp only [dif_pos p]
  obtain ⟨e1, k2⟩ := p.choose_spec
  obtain ⟨ds, hs, hr⟩ := k.rep
  obtain ⟨ds2, hs2, hr2⟩ := k2.rep
  have e2 := seq_inj hs hs2
  subst e2
  have e3 := hr.inj hr2
  have e4 : p.choose.1 = n := by omega
  rw [e4, ← e3]
end
end Pf

namespace Pf
open PySem PySem.Spec PyProof.Rows L2 Dn
/-- plain data of depth k at most -/
structure Sh (k : Nat) (d : D) : Prop where
  p : isPy d = true
  l : (py d).canLay0 = true
  d : (py d).depth ≤ k
theorem Sh.int {k : Nat} (i : Int) : Sh k (.int i) := ⟨rfl, by unfold py; rfl, by unfold py; simp [PyData.depth]⟩
theorem Sh.all {k : Nat} : ∀ {ds : List D}, (∀ d ∈ ds, Sh k d) → arePy ds = true ∧ PyData.canLayAll0 (pys ds) = true ∧ PyData.depthAll (pys ds) ≤ k
  | [], _ => ⟨rfl, by unfold pys; rfl, by unfold pys; simp [PyData.depthAll]⟩
  | d :: ds, h => by
    obtain ⟨h1, h2, h3⟩ := Sh.all (ds := ds) fun d hd => h d (List.mem_cons_of_mem _ hd)
    have h0 := h d List.mem_cons_self
    refine ⟨?_, ?_, ?_⟩
    · unfold arePy
      rw [h0.p, h1]
      rfl
    · unfold pys
      rw [PyData.canLayAll0, h0.l, h2]
      rfl
    · unfold pys
      rw [PyData.depthAll]
      exact Nat.max_le.mpr ⟨h0.d, h3⟩
theorem Sh.tup {k : Nat} {ds : List D} (h : ∀ d ∈ ds, Sh k d) : Sh (k + 1) (.tup ds) := by
  obtain ⟨h1, h2, h3⟩ := Sh.all h
  refine ⟨by unfold isPy; exact h1, ?_, ?_⟩
  · unfold py
    rw [PyData.canLay0]
    exact h2
  · unfold py
    rw [PyData.depth]
    omega
theorem Sh.row (r : List Int) : Sh 1 (rowT r) := Sh.tup fun d hd => by
  obtain ⟨x, _, rfl⟩ := List.mem_map.mp hd
  exact .int x
theorem Sh.mat (w : Mat) : Sh 2 (matT w) := Sh.tup fun d hd => by
  obtain ⟨x, _, rfl⟩ := List.mem_map.mp hd
  exact .row x
theorem Sh.mats (ws : List Mat) : Sh 3 (.tup (ws.map matT)) := Sh.tup fun d hd => by
  obtain ⟨x, _, rfl⟩ := List.mem_map.mp hd
  exact .mat x
theorem Sh.shaped {k : Nat} {d : D} (h : Sh k d) (hk : k ≤ 64) : shapedD d = true := by
  unfold shapedD SeqAt.shaped
  rw [h.p, h.l]
  have := h.d
  simp
  omega
theorem oEq_tup {ds : List D} (h : shapedD (.tup ds) = true) : oEq (.tup ds) (.tup ds) = some (.bl true) := by
  have hl : (py (.tup ds)).canLay0 = true := by
    unfold shapedD at h
    exact SeqAt.canLay_of_shaped (Bool.and_eq_true_iff.mp h).2
  show (if shapedD (.tup ds) = true ∧ shapedD (.tup ds) = true then some (D.bl (PyData.eqv (py (.tup ds)) (py (.tup ds)))) else none) = _
  rw [if_pos ⟨h, h⟩, SeqAt.eqv_refl _ hl]
end Pf

namespace Pf
open PySem PySem.Spec PyProof.Rows L2 Dn
def kitD (K : PySem.W.Frag) (ws : List Mat) (h n : Nat) : D := .obj (He.ga K "Kit") (kitF ws h n).1 (kitF ws h n).2
def roomD (K : PySem.W.Frag) (n : Nat) (T : Mat) : D := .obj (He.ga K "Room") (roomF n T).1 (roomF n T).2
section
variable {K : PySem.W.Frag}
theorem kit_self (C : Addr) : PySem.W.kitOne K (.ref C) (.ref C) = some true := if_pos (beq_self_eq_true _)
theorem kit_tables (ws : List Mat) (h n : Nat) : fget "tables" (kitF ws h n).1 (kitF ws h n).2 = some (.tup (ws.map matT)) := by simp [kitF]
theorem kit_many (ws : List Mat) (h n : Nat) : fget "many" (kitF ws h n).1 (kitF ws h n).2 = some (.int (ws.length : Nat)) := by
  have n1 : ¬ (("many" : Str) = "tables") := by decide
  simp [kitF, n1]
theorem kit_high (ws : List Mat) (h n : Nat) : fget "high" (kitF ws h n).1 (kitF ws h n).2 = some (.int (h : Nat)) := by
  have n1 : ¬ (("high" : Str) = "tables") := by decide
  have n2 : ¬ (("high" : Str) = "many") := by decide
  simp [kitF, n1, n2]
theorem kit_wide (ws : List Mat) (h n : Nat) : fget "wide" (kitF ws h n).1 (kitF ws h n).2 = some (.int (n : Nat)) := by
  have n1 : ¬ (("wide" : Str) = "tables") := by decide
  have n2 : ¬ (("wide" : Str) = "many") := by decide
  have n3 : ¬ (("wide" : Str) = "high") := by decide
  simp [kitF, n1, n2, n3]
theorem room_size (n : Nat) (T : Mat) : fget "size" (roomF n T).1 (roomF n T).2 = some (.int (n : Nat)) := by simp [roomF]
theorem room_rows (n : Nat) (T : Mat) : fget "rows" (roomF n T).1 (roomF n T).2 = some (.tup (T.map rowT)) := by
  have n1 : ¬ (("rows" : Str) = "size") := by decide
  simp [roomF, n1]
theorem room_width (n : Nat) (T : Mat) : fget "width" (roomF n T).1 (roomF n T).2 = some (.int (T.length : Nat)) := by
  have n1 : ¬ (("width" : Str) = "size") := by decide
  have n2 : ¬ (("width" : Str) = "rows") := by decide
  simp [roomF, n1, n2]
theorem fld_obj {C : Addr} {f : Str} {ns : List Str} {ds : List D} {d : D} {i : Nat} {δ : Sto} (e : δ[i]? = some (.va (.obj C ns ds))) (h : fget f ns ds = some d) : dFld C f (dVar i) δ = .ok d := by
  have e1 : dVar i δ = .ok (.obj C ns ds) := by simp [e]
  show (dVar i δ).bind _ = _
  rw [e1]
  show (if C = C then Res.opt (fget f ns ds) else .no) = _
  rw [if_pos rfl, h]
  rfl
theorem isi_own {C : Addr} {ns : List Str} {ds : List D} (hC : C ∈ Cs K) : oIsi K (Cs K) [.obj C ns ds, .cls C] = some (.bl true) := by
  show ((if C ∈ Cs K then some (Value.ref C) else none).bind fun t => (PySem.W.kitOne K t (.ref C)).map D.bl) = _
  rw [if_pos hC]
  show (PySem.W.kitOne K (.ref C) (.ref C)).map D.bl = _
  rw [kit_self]
  rfl
theorem cs_kit : He.ga K "Kit" ∈ Cs K := List.mem_cons_self
theorem cs_room : He.ga K "Room" ∈ Cs K := List.mem_cons_of_mem _ List.mem_cons_self
theorem and_v {p q : Sto → Res D} {δ : Sto} (h1 : p δ = .ok (.bl true)) : dAndV p q δ = q δ := by
  show (dBool p δ).bind _ = _
  have : dBool p δ = .ok true := by
    show (p δ).bind _ = _
    rw [h1]
    rfl
  rw [this]
  rfl
theorem p_Kit_eq (ws : List Mat) (h n : Nat) : φ_Kit___eq__ K [kitD K ws h n, kitD K ws h n] = .ok (.bl true) := by
  unfold φ_Kit___eq__
  rw [fnD_eq (by rfl)]
  show Ends (dn_Kit___eq__ K [.va (kitD K ws h n), .va (kitD K ws h n)]) _
  unfold dn_Kit___eq__
  refine .ret ?_ ⟨_, rfl⟩
  rw [and_v (by
    show Res.opt (oIsi K (Cs K) [kitD K ws h n, .cls (He.ga K "Kit")]) = _
    unfold kitD
    rw [isi_own cs_kit]
    rfl)]
  have e1 : dFld (He.ga K "Kit") "tables" (dVar 0) [.va (kitD K ws h n), .va (kitD K ws h n)] = .ok (.tup (ws.map matT)) := fld_obj rfl (kit_tables ws h n)
  have e2 : dFld (He.ga K "Kit") "tables" (dVar 1) [.va (kitD K ws h n), .va (kitD K ws h n)] = .ok (.tup (ws.map matT)) := fld_obj rfl (kit_tables ws h n)
  show (dFld _ _ _ _).bind _ = _
  rw [e1]
  show (dFld _ _ _ _).bind _ = _
  rw [e2]
  show Res.opt (oEq _ _) = _
  rw [oEq_tup ((Sh.mats ws).shaped (by decide))]
  rfl
theorem p_Room_eq (n : Nat) (T : Mat) : φ_Room___eq__ K [roomD K n T, roomD K n T] = .ok (.bl true) := by
  unfold φ_Room___eq__
  rw [fnD_eq (by rfl)]
  show Ends (dn_Room___eq__ K [.va (roomD K n T), .va (roomD K n T)]) _
  unfold dn_Room___eq__
  refine .ret ?_ ⟨_, rfl⟩
  have s1 : dFld (He.ga K "Room") "size" (dVar 0) [.va (roomD K n T), .va (roomD K n T)] = .ok (.int (n : Nat)) := fld_obj rfl (room_size n T)
  have s2 : dFld (He.ga K "Room") "size" (dVar 1) [.va (roomD K n T), .va (roomD K n T)] = .ok (.int (n : Nat)) := fld_obj rfl (room_size n T)
  have e1 : dFld (He.ga K "Room") "rows" (dVar 0) [.va (roomD K n T), .va (roomD K n T)] = .ok (.tup (T.map rowT)) := fld_obj rfl (room_rows n T)
  have e2 : dFld (He.ga K "Room") "rows" (dVar 1) [.va (roomD K n T), .va (roomD K n T)] = .ok (.tup (T.map rowT)) := fld_obj rfl (room_rows n T)
  rw [and_v (by
    show Res.opt (oIsi K (Cs K) [roomD K n T, .cls (He.ga K "Room")]) = _
    unfold roomD
    rw [isi_own cs_room]
    rfl)]
  rw [and_v (by
    show (dFld _ _ _ _).bind _ = _
    rw [s1]
    show (dFld _ _ _ _).bind _ = _
    rw [s2]
    simp)]
  show (dFld _ _ _ _).bind _ = _
  rw [e1]
  show (dFld _ _ _ _).bind _ = _
  rw [e2]
  show Res.opt (oEq _ _) = _
  have sh : Sh 2 (.tup (T.map rowT)) := Sh.mat T
  rw [oEq_tup (sh.shaped (by decide))]
  rfl
end
end Pf

namespace Pf
open PySem PySem.Spec PyProof.Rows L2 Dn
/-! ### spans -/
inductive Sp (S : List (Nat → Int)) : (Nat → Int) → Prop
  | mem {s : Nat → Int} : s ∈ S → Sp S s
  | zero : Sp S (fun _ => 0)
  | comb {u v : Nat → Int} (a b : Int) : Sp S u → Sp S v → Sp S (fun j => a * u j + b * v j)
  | div {v : Nat → Int} (c : Int) : c ≠ 0 → Sp S (fun j => c * v j) → Sp S v
theorem Sp.cast {S : List (Nat → Int)} {u v : Nat → Int} (h : Sp S u) (e : ∀ j, v j = u j) : Sp S v := by
  have : v = u := funext e
  rw [this]
  exact h
theorem Sp.trans {S T : List (Nat → Int)} {v : Nat → Int} (h : Sp S v) (hs : ∀ s ∈ S, Sp T s) : Sp T v := by
  induction h with
  | mem hm => exact hs _ hm
  | zero => exact .zero
  | comb a b _ _ ih1 ih2 => exact .comb a b ih1 ih2
  | div c hc _ ih => exact .div c hc ih
theorem Sp.mono {S T : List (Nat → Int)} {v : Nat → Int} (h : Sp S v) (hs : ∀ s ∈ S, s ∈ T) : Sp T v := h.trans fun s m => .mem (hs s m)
theorem Sp.scale {S : List (Nat → Int)} {v : Nat → Int} (a : Int) (h : Sp S v) : Sp S (fun j => a * v j) := (Sp.comb a 0 h h).cast fun j => by simp
theorem Sp.cons {S : List (Nat → Int)} {t v : Nat → Int} (h : Sp (t :: S) v) : ∃ a b : Int, b ≠ 0 ∧ Sp S (fun j => b * v j - a * t j) := by
  induction h with
  | mem hm =>
    rcases List.mem_cons.mp hm with rfl | hm
    · exact ⟨1, 1, by decide, Sp.zero.cast fun j => by omega⟩
    · exact ⟨0, 1, by decide, (Sp.mem hm).cast fun j => by omega⟩
  | zero => exact ⟨0, 1, by decide, Sp.zero.cast fun j => by simp⟩
  | @comb u v a b _ _ ih1 ih2 =>
    obtain ⟨a1, b1, n1, h1⟩ := ih1
    obtain ⟨a2, b2, n2, h2⟩ := ih2
    refine ⟨a * a1 * b2 + b * a2 * b1, b1 * b2, Int.mul_ne_zero n1 n2, (Sp.comb (a * b2) (b * b1) h1 h2).cast fun j => ?_⟩
    grind
  | @div v c hc _ ih =>
    obtain ⟨a1, b1, n1, h1⟩ := ih
    exact ⟨a1, b1 * c, Int.mul_ne_zero n1 hc, h1.cast fun j => by rw [Int.mul_assoc]⟩
theorem Sp.at0 {S : List (Nat → Int)} {v : Nat → Int} (h : Sp S v) {p : Nat} (hs : ∀ s ∈ S, s p = 0) : v p = 0 := by
  induction h with
  | mem hm => exact hs _ hm
  | zero => rfl
  | comb a b _ _ ih1 ih2 => simp [ih1, ih2]
  | div c hc _ ih => exact (Int.mul_eq_zero.mp ih).resolve_left hc
/-- rows, each with its pivot column -/
theorem Sp.zero_of : ∀ {L : List ((Nat → Int) × Nat)} {v : Nat → Int}, L.Pairwise (fun x y => x.1 y.2 = 0 ∧ y.1 x.2 = 0) → (∀ x ∈ L, x.1 x.2 ≠ 0) → Sp (L.map Prod.fst) v → (∀ x ∈ L, v x.2 = 0) → ∀ j, v j = 0
  | [], v, _, _, h, _, j => h.at0 (by simp)
  | x :: L, v, pw, hp, h, hz, j => by
    obtain ⟨a, b, nb, h1⟩ := Sp.cons (by simpa using h)
    obtain ⟨pw1, pw2⟩ := List.pairwise_cons.mp pw
    have z := h1.at0 (p := x.2) (by
      intro s hs
      obtain ⟨y, hy, rfl⟩ := List.mem_map.mp hs
      exact (pw1 y hy).2)
    have z : b * v x.2 - a * x.1 x.2 = 0 := z
    rw [hz x List.mem_cons_self] at z
    have a0 : a = 0 := by
      have : a * x.1 x.2 = 0 := by simpa using z
      exact (Int.mul_eq_zero.mp this).resolve_right (hp x List.mem_cons_self)
    subst a0
    exact Sp.zero_of pw2 (fun y hy => hp y (List.mem_cons_of_mem _ hy)) (.div b nb (h1.cast fun j => by omega)) (fun y hy => hz y (List.mem_cons_of_mem _ hy)) j
def Ind : List (Nat → Int) → Prop
  | [] => True
  | s :: S => ¬ Sp S s ∧ Ind S
def lin : List Int → List (Nat → Int) → Nat → Int
  | x :: xs, s :: S, j => x * s j + lin xs S j
  | _, _, _ => 0
theorem lin_sp : ∀ (xs : List Int) (S : List (Nat → Int)), Sp S (lin xs S)
  | [], S => Sp.zero.cast fun j => by unfold lin; rfl
  | x :: xs, [] => Sp.zero.cast fun j => by unfold lin; rfl
  | x :: xs, s :: S => (Sp.comb x 1 (.mem List.mem_cons_self) ((lin_sp xs S).mono fun t ht => List.mem_cons_of_mem _ ht)).cast fun j => by
    show x * s j + lin xs S j = _
    omega
theorem Ind.lin : ∀ {S : List (Nat → Int)} {xs : List Int}, Ind S → xs.length = S.length → (∀ j, Pf.lin xs S j = 0) → ∀ x ∈ xs, x = 0
  | [], [], _, _, _ => by simp
  | [], _ :: _, _, h, _ => by simp at h
  | _ :: _, [], _, h, _ => by simp at h
  | s :: S, x :: xs, hI, hl, hz => by
    have hz : ∀ j, x * s j + Pf.lin xs S j = 0 := hz
    have x0 : x = 0 := Classical.byContradiction fun hx => hI.1 (.div x hx (((lin_sp xs S).scale (-1)).cast fun j => by have := hz j; omega))
    subst x0
    have := Ind.lin hI.2 (by simpa using hl) (fun j => by have := hz j; omega)
    intro y hy
    rcases List.mem_cons.mp hy with rfl | hy
    · rfl
    · exact this y hy
/-! ### prim -/
theorem cel_map {r : List Int} {f : Int → Int} (h0 : f 0 = 0) (j : Nat) : cel (r.map f) j = f (cel r j) := by
  unfold cel
  rw [List.getD_eq_getElem?_getD, List.getD_eq_getElem?_getD, List.getElem?_map]
  cases r[j]? <;> simp [h0]
theorem cel_ge {r : List Int} {j : Nat} (h : r.length ≤ j) : cel r j = 0 := by
  unfold cel
  rw [List.getD_eq_getElem?_getD, List.getElem?_eq_none h]
  rfl
theorem prim_cel (r : List Int) : ∃ g : Int, g ≠ 0 ∧ ∀ j, cel r j = g * cel (prim r) j := by
  by_cases hz : gcdL r = 0
  · exact ⟨1, by decide, fun j => by rw [show prim r = r from if_pos hz]; omega⟩
  · have nz : sgnL r * gcdL r ≠ 0 := fun z => hz (by have := gcd_sgn r; rw [z] at this; exact this.symm)
    refine ⟨sgnL r * gcdL r, nz, fun j => ?_⟩
    rw [show prim r = r.map fun n => n.fdiv (sgnL r * gcdL r) from if_neg hz, cel_map (by simp)]
    by_cases hj : j < r.length
    · obtain ⟨q, h1, h2⟩ := prim_dvd hz (cel_mem hj)
      rw [h2]
      exact h1
    · rw [cel_ge (by omega)]
      simp
theorem sgn_lead : ∀ {r : List Int} {p : Nat}, (∀ j < p, cel r j = 0) → cel r p ≠ 0 → sgnL r = if cel r p < 0 then -1 else 1
  | [], p, _, h => absurd rfl h
  | n :: r, 0, _, h => by
    have h : n ≠ 0 := h
    rw [sgnL_cons, if_pos h]
    rfl
  | n :: r, p + 1, h0, h => by
    have n0 : n = 0 := h0 0 (by omega)
    subst n0
    rw [sgnL_cons, if_neg (by simp)]
    have := sgn_lead (r := r) (p := p) (fun j hj => h0 (j + 1) (by omega)) h
    exact this
theorem gcd_nz {r : List Int} {p : Nat} (h : cel r p ≠ 0) : gcdL r ≠ 0 := fun z => by
  by_cases hp : p < r.length
  · exact h ((gcdF_zero r 0 z).2 _ (cel_mem hp))
  · exact h (cel_ge (by omega))
theorem prim_pos {r : List Int} {p : Nat} (h0 : ∀ j < p, cel r j = 0) (h : cel r p ≠ 0) : 0 < cel (prim r) p := by
  have hz := gcd_nz h
  have hs := sgn_lead h0 h
  have hp : p < r.length := by
    by_cases hp : p < r.length
    · exact hp
    · exact absurd (cel_ge (by omega)) h
  rw [show prim r = r.map fun n => n.fdiv (sgnL r * gcdL r) from if_neg hz, cel_map (by simp)]
  obtain ⟨q, h1, h2⟩ := prim_dvd hz (cel_mem hp)
  rw [h2]
  have hg : 0 < (gcdL r : Int) := by omega
  by_cases hn : cel r p < 0
  · rw [if_pos hn] at hs
    rw [hs] at h1
    rcases Int.lt_trichotomy q 0 with w | w | w
    · have := Int.mul_neg_of_pos_of_neg hg w
      have e : -1 * (gcdL r : Int) * q = - ((gcdL r : Int) * q) := by rw [Int.neg_mul, Int.neg_mul, Int.one_mul]
      omega
    · subst w
      simp at h1
      exact absurd h1 h
    · exact w
  · rw [if_neg hn] at hs
    rw [hs] at h1
    rcases Int.lt_trichotomy q 0 with w | w | w
    · have := Int.mul_neg_of_pos_of_neg hg w
      have e : 1 * (gcdL r : Int) * q = ((gcdL r : Int) * q) := by rw [Int.one_mul]
      omega
    · subst w
      simp at h1
      exact absurd h1 h
    · exact w
theorem dvd_gcdF : ∀ (r : List Int) (g e : Nat), e ∣ g → (∀ x ∈ r, e ∣ x.natAbs) → e ∣ gcdF g r
  | [], g, e, h, _ => h
  | m :: ms, g, e, h, hx => dvd_gcdF ms _ e (Nat.dvd_gcd h (hx m List.mem_cons_self)) fun x hm => hx x (List.mem_cons_of_mem _ hm)
theorem lead_ex {r : List Int} (h : gcdL r ≠ 0) : ∃ p, (∀ j < p, cel r j = 0) ∧ cel r p ≠ 0 := by
  have key : ∀ (r : List Int), (∃ x ∈ r, x ≠ 0) → ∃ p, (∀ j < p, cel r j = 0) ∧ cel r p ≠ 0 := by
    intro r
    induction r with
    | nil => simp
    | cons n r ih =>
      intro ⟨x, hx, hn⟩
      by_cases h0 : n = 0
      · subst h0
        rcases List.mem_cons.mp hx with rfl | hx
        · exact absurd rfl hn
        · obtain ⟨p, h1, h2⟩ := ih ⟨x, hx, hn⟩
          refine ⟨p + 1, fun j hj => ?_, h2⟩
          cases j with
          | zero => rfl
          | succ j => exact h1 j (by omega)
      · exact ⟨0, fun j hj => by omega, h0⟩
  refine key r (Classical.byContradiction fun hn => h (gcdF_all0 r 0 fun x hx => Classical.byContradiction fun h2 => hn ⟨x, hx, h2⟩))
theorem prim_gcd {r : List Int} (hz : gcdL r ≠ 0) : gcdL (prim r) = 1 := by
  have hd : ∀ x ∈ r, gcdL r * gcdL (prim r) ∣ x.natAbs := by
    intro x hx
    obtain ⟨q, h1, h2⟩ := prim_dvd hz hx
    have hq : q ∈ prim r := by
      rw [show prim r = r.map fun n => n.fdiv (sgnL r * gcdL r) from if_neg hz]
      exact List.mem_map.mpr ⟨x, hx, h2⟩
    have := (gcdF_dvd (prim r) 0).2 q hq
    rw [h1, Int.natAbs_mul, gcd_sgn]
    exact Nat.mul_dvd_mul_left _ this
  have h2 : gcdL r * gcdL (prim r) ∣ gcdL r := dvd_gcdF r 0 _ (Nat.dvd_zero _) hd
  have h3 := Nat.le_of_dvd (by omega) h2
  have h4 : gcdL (prim r) ≠ 0 := fun z => by
    rw [z, Nat.mul_zero] at h2
    exact hz (Nat.eq_zero_of_zero_dvd h2)
  have h5 : gcdL r * gcdL (prim r) ≤ gcdL r * 1 := by omega
  have := Nat.le_of_mul_le_mul_left h5 (by omega)
  omega
theorem prim_self {r : List Int} (h1 : gcdL r = 1) (h2 : sgnL r = 1) : prim r = r := by
  rw [show prim r = r.map fun n => n.fdiv (sgnL r * gcdL r) from if_neg (by omega), h1, h2]
  simp
theorem prim_prim (r : List Int) : prim (prim r) = prim r := by
  by_cases hz : gcdL r = 0
  · have : prim r = r := if_pos hz
    rw [this, this]
  · obtain ⟨p, h1, h2⟩ := lead_ex hz
    have hp := prim_pos h1 h2
    obtain ⟨g, ng, hg⟩ := prim_cel r
    have z1 : ∀ j < p, cel (prim r) j = 0 := fun j hj => by
      have := hg j
      rw [h1 j hj] at this
      exact (Int.mul_eq_zero.mp this.symm).resolve_left ng
    exact prim_self (prim_gcd hz) (by rw [sgn_lead z1 (by omega), if_neg (by omega)])
theorem cel_comb {n : Nat} {head r : List Int} {c j : Nat} (l1 : head.length = n) (l2 : r.length = n) : cel (comb n head r c) j = cel head c * cel r j - cel r c * cel head j := by
  by_cases hj : j < n
  · unfold comb
    show ((List.range n).map _).getD j 0 = _
    rw [List.getD_eq_getElem?_getD, List.getElem?_map, List.getElem?_range hj]
    rfl
  · have e1 : cel (comb n head r c) j = 0 := cel_ge (by rw [comb_len]; omega)
    have e2 : cel r j = 0 := cel_ge (by omega)
    have e3 : cel head j = 0 := cel_ge (by omega)
    rw [e1, e2, e3]
    simp
end Pf

namespace Pf
open PySem PySem.Spec PyProof.Rows L2 Dn
/-- the first a rows are told, with the pivots p; the others are zero left of c -/
structure EI (n : Nat) (p : Nat → Nat) (w : Mat) (a c : Nat) : Prop where
  wd : Wide n w
  le : a ≤ w.length
  lt : ∀ i < a, p i < c
  asc : ∀ i k, i < k → k < a → p i < p k
  lead : ∀ i < a, ∀ j < p i, cel (rw_ w i) j = 0
  pos : ∀ i < a, 0 < cel (rw_ w i) (p i)
  pr : ∀ i < a, prim (rw_ w i) = rw_ w i
  col : ∀ i < a, ∀ k < w.length, k ≠ i → cel (rw_ w k) (p i) = 0
  rest : ∀ k, a ≤ k → k < w.length → ∀ j < c, cel (rw_ w k) j = 0
theorem rw_of {w : Mat} {k : Nat} {r : List Int} (h : w[k]? = some r) : rw_ w k = r := by
  unfold rw_
  rw [List.getD_eq_getElem?_getD, h]
  rfl
theorem rw_set_self {w : Mat} {k : Nat} {r : List Int} (h : k < w.length) : rw_ (w.set k r) k = r := rw_of (List.getElem?_set_self h)
theorem rw_set_ne {w : Mat} {k i : Nat} {r : List Int} (h : i ≠ k) : rw_ (w.set i r) k = rw_ w k := by
  unfold rw_
  rw [List.getD_eq_getElem?_getD, List.getD_eq_getElem?_getD, List.getElem?_set_ne h]
theorem rw_swap {w : Mat} {a k i : Nat} (ha : a < w.length) (hk : k < w.length) : rw_ (swapT w a k) i = if i = a then prim (rw_ w k) else if i = k then rw_ w a else rw_ w i := by
  unfold swapT
  by_cases h1 : i = a
  · subst h1
    rw [if_pos rfl, rw_set_self (by simpa using ha)]
  · rw [if_neg h1, rw_set_ne (Ne.symm h1)]
    by_cases h2 : i = k
    · subst h2
      rw [if_pos rfl, rw_set_self hk]
    · rw [if_neg h2, rw_set_ne (Ne.symm h2)]
theorem rw_elim {n : Nat} {head : List Int} {a c : Nat} {w : Mat} {i : Nat} (hi : i < w.length) : rw_ (elimA n head a c w) i = elimR n head a c i (rw_ w i) := by
  refine rw_of ?_
  unfold elimA
  rw [List.getElem?_mapIdx, rw_get hi]
  rfl
theorem elimR_cel {n : Nat} {head r : List Int} {a c k : Nat} (hh : 0 < cel head c) (l1 : head.length = n) (l2 : r.length = n) : ∃ x y z : Int, z ≠ 0 ∧ 0 < x ∧ (k ≠ a → cel (elimR n head a c k r) c = 0) ∧ ∀ j, z * cel (elimR n head a c k r) j = x * cel r j - y * cel head j := by
  unfold elimR
  by_cases h : k ≠ a ∧ cel r c ≠ 0
  · rw [if_pos h]
    obtain ⟨g, ng, hg⟩ := prim_cel (comb n head r c)
    refine ⟨cel head c, cel r c, g, ng, hh, fun _ => ?_, fun j => by rw [← hg, cel_comb l1 l2]⟩
    have := hg c
    rw [cel_comb l1 l2, Int.mul_comm, Int.sub_self] at this
    exact (Int.mul_eq_zero.mp this.symm).resolve_left ng
  · rw [if_neg h]
    refine ⟨1, 0, 1, by decide, by decide, fun hk => ?_, fun j => by simp⟩
    exact Classical.byContradiction fun hc => h ⟨hk, hc⟩
theorem elimR_prim {n : Nat} {head r : List Int} {a c k : Nat} (h : prim r = r) : prim (elimR n head a c k r) = elimR n head a c k r := by
  unfold elimR
  split
  · exact prim_prim _
  · exact h
theorem elimR_at {n : Nat} {head r : List Int} {a c : Nat} : elimR n head a c a r = r := if_neg fun h => h.1 rfl
section
variable {n : Nat} {p : Nat → Nat} {w : Mat} {a c k : Nat}
theorem head_facts (h : EI n p w a c) (e : firstNZ w a c = some k) : a ≤ k ∧ k < w.length ∧ a < w.length ∧ (prim (rw_ w k)).length = n ∧ 0 < cel (prim (rw_ w k)) c ∧ (∀ j < c, cel (prim (rw_ w k)) j = 0) ∧ prim (prim (rw_ w k)) = prim (rw_ w k) := by
  have hle := h.le
  obtain ⟨k1, k2, k3, _⟩ := firstFrom_some e
  have kk : k < w.length := by omega
  have z := h.rest k k1 kk
  refine ⟨k1, kk, by omega, by rw [prim_len]; exact h.wd _ (rw_mem kk), prim_pos z k3, fun j hj => ?_, prim_prim _⟩
  obtain ⟨g, ng, hg⟩ := prim_cel (rw_ w k)
  have := hg j
  rw [z j hj] at this
  exact (Int.mul_eq_zero.mp this.symm).resolve_left ng
def nP (p : Nat → Nat) (a c i : Nat) : Nat := if i = a then c else p i
theorem EI.next (h : EI n p w a c) (e : firstNZ w a c = some k) : EI n (nP p a c) (elimA n (prim (rw_ w k)) a c (swapT w a k)) (a + 1) (c + 1) := by
  obtain ⟨ka, kk, aa, hl, hc, hz, hpp⟩ := head_facts h e
  generalize hh : prim (rw_ w k) = head at *
  have wl : (swapT w a k).length = w.length := by simp [swapT]
  have w1 := wide_swap h.wd aa kk
  have el : (elimA n head a c (swapT w a k)).length = w.length := by rw [elimA_len, wl]
  have r1 : ∀ i, rw_ (swapT w a k) i = if i = a then head else if i = k then rw_ w a else rw_ w i := fun i => by rw [rw_swap aa kk, hh]
  have ra : rw_ (elimA n head a c (swapT w a k)) a = head := by rw [rw_elim (by omega), elimR_at, r1, if_pos rfl]
  have rl : ∀ i < a, rw_ (swapT w a k) i = rw_ w i := fun i hi => by rw [r1, if_neg (by omega), if_neg (by omega)]
  have rg : ∀ i, i < w.length → ∃ x y z : Int, z ≠ 0 ∧ 0 < x ∧ (i ≠ a → cel (rw_ (elimA n head a c (swapT w a k)) i) c = 0) ∧ ∀ j, z * cel (rw_ (elimA n head a c (swapT w a k)) i) j = x * cel (rw_ (swapT w a k) i) j - y * cel head j := fun i hi => by
    rw [rw_elim (by omega)]
    exact elimR_cel hc hl (w1 _ (rw_mem (by omega)))
  have zero : ∀ i j, i < w.length → i ≠ a → cel (rw_ (swapT w a k) i) j = 0 → cel head j = 0 → cel (rw_ (elimA n head a c (swapT w a k)) i) j = 0 := fun i j hi hia e1 e2 => by
    obtain ⟨x, y, z, z1, z2, z3, z4⟩ := rg i hi
    have := z4 j
    rw [e1, e2, Int.mul_zero, Int.mul_zero, Int.sub_zero] at this
    exact (Int.mul_eq_zero.mp this).resolve_left z1
  have np : ∀ i, i < a → nP p a c i = p i := fun i hi => if_neg (by omega)
  have npa : nP p a c a = c := if_pos rfl
  have lead' : ∀ i < a, ∀ j < p i, cel (rw_ (elimA n head a c (swapT w a k)) i) j = 0 := fun i hi j hj => zero i j (by omega) (by omega) (by rw [rl i hi]; exact h.lead i hi j hj) (hz j (by have := h.lt i hi; omega))
  have pr' : ∀ i < a, prim (rw_ (elimA n head a c (swapT w a k)) i) = rw_ (elimA n head a c (swapT w a k)) i := fun i hi => by
    rw [rw_elim (by omega)]
    exact elimR_prim (by rw [rl i hi]; exact h.pr i hi)
  refine ⟨wide_elim w1, by omega, fun i hi => ?_, fun i j hij hj => ?_, fun i hi j hj => ?_, fun i hi => ?_, fun i hi => ?_, fun i hi j hj hji => ?_, fun i hi hi2 j hj => ?_⟩
  · unfold nP
    split
    · omega
    · have := h.lt i (by omega)
      omega
  · have := h.lt i (by omega)
    rw [np i (by omega)]
    unfold nP
    split
    · omega
    · exact h.asc i j hij (by omega)
  · by_cases hia : i = a
    · subst hia
      rw [npa] at hj
      rw [ra]
      exact hz j hj
    · rw [np i (by omega)] at hj
      exact lead' i (by omega) j hj
  · by_cases hia : i = a
    · subst hia
      rw [npa, ra]
      exact hc
    · have hi' : i < a := by omega
      rw [np i hi', ← pr' i hi']
      refine prim_pos (lead' i hi') fun e0 => ?_
      obtain ⟨x, y, z, z1, z2, z3, z4⟩ := rg i (by omega)
      have := z4 (p i)
      rw [e0, rl i hi', hz _ (h.lt i hi'), Int.mul_zero, Int.mul_zero, Int.sub_zero] at this
      have hp := h.pos i hi'
      have := Int.mul_pos z2 hp
      omega
  · by_cases hia : i = a
    · subst hia
      rw [ra, hpp]
    · exact pr' i (by omega)
  · rw [el] at hj
    by_cases hia : i = a
    · subst hia
      rw [npa]
      obtain ⟨x, y, z, z1, z2, z3, z4⟩ := rg j hj
      exact z3 hji
    · have hi' : i < a := by omega
      rw [np i hi']
      by_cases hja : j = a
      · subst hja
        rw [ra]
        exact hz _ (h.lt i hi')
      · refine zero j _ hj hja ?_ (hz _ (h.lt i hi'))
        rw [r1, if_neg hja]
        split
        · exact h.col i hi' a aa (by omega)
        · exact h.col i hi' j hj hji
  · rw [el] at hi2
    by_cases hjc : j = c
    · subst hjc
      obtain ⟨x, y, z, z1, z2, z3, z4⟩ := rg i hi2
      exact z3 (by omega)
    · refine zero i j hi2 (by omega) ?_ (hz j (by omega))
      rw [r1, if_neg (by omega)]
      split
      · exact h.rest a (by omega) aa j (by omega)
      · exact h.rest i (by omega) hi2 j (by omega)
theorem EI.stay (h : EI n p w a c) (e : firstNZ w a c = none) : EI n p w a (c + 1) :=
  ⟨h.wd, h.le, fun i hi => by have := h.lt i hi; omega, h.asc, h.lead, h.pos, h.pr, h.col, fun k hk hk2 j hj => by
    by_cases hjc : j = c
    · subst hjc
      exact firstFrom_none e k hk (by have := h.le; omega)
    · exact h.rest k hk hk2 j (by omega)⟩
theorem EI.start (h : Wide n w) (p : Nat → Nat) : EI n p w 0 0 :=
  ⟨h, Nat.zero_le _, fun i hi => by omega, fun i k _ hk => by omega, fun i hi => by omega, fun i hi => by omega, fun i hi => by omega, fun i hi => by omega, fun k _ _ j hj => by omega⟩
def rowsOf (w0 : Mat) (s : Nat → Nat) : Nat → List (Nat → Int)
  | 0 => []
  | a + 1 => cel (rw_ w0 (s a)) :: rowsOf w0 s a
def topR (w : Mat) (a : Nat) : List (Nat → Int) := (List.range a).map fun i => cel (rw_ w i)
structure EJ (w0 : Mat) (s : Nat → Nat) (w : Mat) (a : Nat) : Prop where
  len : w.length = w0.length
  slt : ∀ i < w.length, s i < w0.length
  inj : ∀ i k, i < w.length → k < w.length → s i = s k → i = k
  ind : Ind (rowsOf w0 s a)
  sub : ∀ i < a, Sp (topR w a) (cel (rw_ w0 (s i)))
  rst : ∀ k, a ≤ k → k < w.length → Sp (cel (rw_ w0 (s k)) :: rowsOf w0 s a) (cel (rw_ w k))
theorem rowsOf_mem {w0 : Mat} {s : Nat → Nat} : ∀ {a : Nat} {v : Nat → Int}, v ∈ rowsOf w0 s a → ∃ i < a, v = cel (rw_ w0 (s i))
  | 0, v, h => by cases h
  | a + 1, v, h => by
    rcases List.mem_cons.mp h with rfl | h
    · exact ⟨a, by omega, rfl⟩
    · obtain ⟨i, hi, e⟩ := rowsOf_mem h
      exact ⟨i, by omega, e⟩
theorem rowsOf_congr {w0 : Mat} {s s' : Nat → Nat} : ∀ {a : Nat}, (∀ i < a, s i = s' i) → rowsOf w0 s a = rowsOf w0 s' a
  | 0, _ => rfl
  | a + 1, h => by
    show _ :: _ = _ :: _
    rw [h a (by omega), rowsOf_congr fun i hi => h i (by omega)]
theorem topR_mem {w : Mat} {a i : Nat} (h : i < a) : cel (rw_ w i) ∈ topR w a := List.mem_map.mpr ⟨i, List.mem_range.mpr h, rfl⟩
/-- what the told rows span and what is 0 at all pivots is 0 -/
theorem EI.zero (h : EI n p w a c) {v : Nat → Int} (hv : Sp (topR w a) v) (hz : ∀ i < a, v (p i) = 0) : ∀ j, v j = 0 := by
  have hle := h.le
  refine Sp.zero_of (L := (List.range a).map fun i => (cel (rw_ w i), p i)) ?_ ?_ ?_ ?_
  · rw [List.pairwise_map]
    refine List.Pairwise.imp_of_mem (R := fun x y => x < y) ?_ List.pairwise_lt_range
    intro x y hx hy hxy
    have hx := List.mem_range.mp hx
    have hy := List.mem_range.mp hy
    exact ⟨h.col y hy x (by omega) (by omega), h.col x hx y (by omega) (by omega)⟩
  · intro x hx
    obtain ⟨i, hi, rfl⟩ := List.mem_map.mp hx
    have := h.pos i (List.mem_range.mp hi)
    show cel (rw_ w i) (p i) ≠ 0
    omega
  · rw [List.map_map]
    exact hv
  · intro x hx
    obtain ⟨i, hi, rfl⟩ := List.mem_map.mp hx
    exact hz i (List.mem_range.mp hi)
def nS (s : Nat → Nat) (a k i : Nat) : Nat := if i = a then s k else if i = k then s a else s i
theorem EJ.next {w0 : Mat} {s : Nat → Nat} (h : EI n p w a c) (g : EJ w0 s w a) (e : firstNZ w a c = some k) : EJ w0 (nS s a k) (elimA n (prim (rw_ w k)) a c (swapT w a k)) (a + 1) := by
  obtain ⟨ka, kk, aa, hl, hc, hz, hpp⟩ := head_facts h e
  obtain ⟨k1, k2, k3, _⟩ := firstFrom_some e
  obtain ⟨g0, ng0, hg0⟩ := prim_cel (rw_ w k)
  generalize hh : prim (rw_ w k) = head at *
  have wl : (swapT w a k).length = w.length := by simp [swapT]
  have w1 := wide_swap h.wd aa kk
  have el : (elimA n head a c (swapT w a k)).length = w.length := by rw [elimA_len, wl]
  have r1 : ∀ i, rw_ (swapT w a k) i = if i = a then head else if i = k then rw_ w a else rw_ w i := fun i => by rw [rw_swap aa kk, hh]
  have ra : rw_ (elimA n head a c (swapT w a k)) a = head := by rw [rw_elim (by omega), elimR_at, r1, if_pos rfl]
  have rl : ∀ i < a, rw_ (swapT w a k) i = rw_ w i := fun i hi => by rw [r1, if_neg (by omega), if_neg (by omega)]
  have rg : ∀ i, i < w.length → ∃ x y z : Int, z ≠ 0 ∧ 0 < x ∧ (i ≠ a → cel (rw_ (elimA n head a c (swapT w a k)) i) c = 0) ∧ ∀ j, z * cel (rw_ (elimA n head a c (swapT w a k)) i) j = x * cel (rw_ (swapT w a k) i) j - y * cel head j := fun i hi => by
    rw [rw_elim (by omega)]
    exact elimR_cel hc hl (w1 _ (rw_mem (by omega)))
  generalize hw' : elimA n head a c (swapT w a k) = w' at *
  have sl : ∀ i < a, nS s a k i = s i := fun i hi => by unfold nS; rw [if_neg (by omega), if_neg (by omega)]
  have sa : nS s a k a = s k := if_pos rfl
  have ro : rowsOf w0 (nS s a k) a = rowsOf w0 s a := rowsOf_congr sl
  have no : ¬ Sp (rowsOf w0 s a) (cel (rw_ w k)) := fun sp => by
    have sp2 := sp.trans (T := topR w a) fun v hv => by
      obtain ⟨i, hi, rfl⟩ := rowsOf_mem hv
      exact g.sub i hi
    exact k3 (h.zero sp2 (fun i hi => h.col i hi k kk (by omega)) c)
  have rk := g.rst k ka kk
  have hd : Sp (topR w' (a + 1)) (cel head) := by
    have := Sp.mem (topR_mem (w := w') (i := a) (a := a + 1) (by omega))
    rw [ra] at this
    exact this
  have old : ∀ i < a, Sp (topR w' (a + 1)) (cel (rw_ w i)) := fun i hi => by
    obtain ⟨x, y, z, z1, z2, z3, z4⟩ := rg i (by omega)
    rw [rl i hi] at z4
    refine .div x (by omega) ((Sp.comb z y (.mem (topR_mem (i := i) (by omega))) hd).cast fun j => ?_)
    have := z4 j
    omega
  have oldS : ∀ i < a, Sp (topR w' (a + 1)) (cel (rw_ w0 (s i))) := fun i hi => (g.sub i hi).trans fun v hv => by
    obtain ⟨l, hl2, rfl⟩ := List.mem_map.mp hv
    exact old l (List.mem_range.mp hl2)
  have hk : Sp (topR w' (a + 1)) (cel (rw_ w k)) := (hd.scale g0).cast hg0
  refine ⟨by rw [el]; exact g.len, fun i hi => ?_, fun i j hi hj eij => ?_, ?_, fun i hi => ?_, fun i hi hi2 => ?_⟩
  · rw [el] at hi
    unfold nS
    split
    · exact g.slt k kk
    · split
      · exact g.slt a aa
      · exact g.slt i hi
  · rw [el] at hi hj
    unfold nS at eij
    have i1 := fun x y hx hy => g.inj x y hx hy
    by_cases q1 : i = a
    · rw [if_pos q1] at eij
      by_cases q2 : j = a
      · omega
      · rw [if_neg q2] at eij
        by_cases q3 : j = k
        · rw [if_pos q3] at eij
          have := i1 k a kk aa eij
          omega
        · rw [if_neg q3] at eij
          have := i1 k j kk hj eij
          omega
    · rw [if_neg q1] at eij
      by_cases q2 : i = k
      · rw [if_pos q2] at eij
        by_cases q3 : j = a
        · rw [if_pos q3] at eij
          have := i1 a k aa kk eij
          omega
        · rw [if_neg q3] at eij
          by_cases q4 : j = k
          · omega
          · rw [if_neg q4] at eij
            have := i1 a j aa hj eij
            omega
      · rw [if_neg q2] at eij
        by_cases q3 : j = a
        · rw [if_pos q3] at eij
          have := i1 i k hi kk eij
          omega
        · rw [if_neg q3] at eij
          by_cases q4 : j = k
          · rw [if_pos q4] at eij
            have := i1 i a hi aa eij
            omega
          · rw [if_neg q4] at eij
            exact i1 i j hi hj eij
  · show ¬ Sp (rowsOf w0 (nS s a k) a) (cel (rw_ w0 (nS s a k a))) ∧ Ind (rowsOf w0 (nS s a k) a)
    rw [ro, sa]
    refine ⟨fun sp => no (rk.trans fun v hv => ?_), g.ind⟩
    rcases List.mem_cons.mp hv with rfl | hv
    · exact sp
    · exact .mem hv
  · by_cases hia : i = a
    · subst hia
      rw [sa]
      obtain ⟨α, β, nb, hs⟩ := rk.cons
      have hs2 := hs.trans (T := topR w' (i + 1)) fun v hv => by
        obtain ⟨l, hl2, rfl⟩ := rowsOf_mem hv
        exact oldS l hl2
      by_cases ha0 : α = 0
      · subst ha0
        exact absurd (Sp.div β nb (hs.cast fun j => by omega)) no
      · refine .div α ha0 ((Sp.comb β (-1) hk hs2).cast fun j => ?_)
        omega
    · rw [sl i (by omega)]
      exact oldS i (by omega)
  · rw [el] at hi2
    show Sp (cel (rw_ w0 (nS s a k i)) :: cel (rw_ w0 (nS s a k a)) :: rowsOf w0 (nS s a k) a) _
    rw [ro, sa]
    have hdk : Sp (cel (rw_ w0 (nS s a k i)) :: cel (rw_ w0 (s k)) :: rowsOf w0 s a) (cel head) := by
      refine .div g0 ng0 ((rk.mono fun v hv => List.mem_cons_of_mem _ hv).cast fun j => (hg0 j).symm)
    have hr : Sp (cel (rw_ w0 (nS s a k i)) :: cel (rw_ w0 (s k)) :: rowsOf w0 s a) (cel (rw_ (swapT w a k) i)) := by
      rw [r1, if_neg (by omega)]
      unfold nS
      rw [if_neg (by omega)]
      by_cases hik : i = k
      · rw [if_pos hik, if_pos hik]
        refine (g.rst a (by omega) aa).mono fun v hv => ?_
        rcases List.mem_cons.mp hv with rfl | hv
        · exact List.mem_cons_self
        · exact List.mem_cons_of_mem _ (List.mem_cons_of_mem _ hv)
      · rw [if_neg hik, if_neg hik]
        refine (g.rst i (by omega) hi2).mono fun v hv => ?_
        rcases List.mem_cons.mp hv with rfl | hv
        · exact List.mem_cons_self
        · exact List.mem_cons_of_mem _ (List.mem_cons_of_mem _ hv)
    obtain ⟨x, y, z, z1, z2, z3, z4⟩ := rg i hi2
    refine .div z z1 ((Sp.comb x (-y) hr hdk).cast fun j => ?_)
    rw [z4 j, Int.neg_mul]
    omega
theorem EJ.start (w : Mat) : EJ w (fun i => i) w 0 :=
  ⟨rfl, fun i hi => hi, fun i k _ _ e => e, trivial, fun i hi => by omega, fun k _ _ => .mem List.mem_cons_self⟩
end
theorem echC_EI {n : Nat} {w : Mat} (hw : Wide n w) : ∀ c, ∃ p s, EI n p (echC n w c).1 (echC n w c).2 c ∧ EJ w s (echC n w c).1 (echC n w c).2
  | 0 => ⟨fun _ => 0, fun i => i, EI.start hw _, EJ.start w⟩
  | c + 1 => by
    obtain ⟨p, s, h1, h2⟩ := echC_EI hw c
    show ∃ p s, EI n p (colS n (echC n w c) c).1 (colS n (echC n w c) c).2 (c + 1) ∧ EJ w s (colS n (echC n w c) c).1 (colS n (echC n w c) c).2
    unfold colS
    cases e : firstNZ (echC n w c).1 (echC n w c).2 c with
    | none => exact ⟨p, s, h1.stay e, h2⟩
    | some k => exact ⟨_, _, h1.next e, EJ.next h1 h2 e⟩
end Pf

namespace Pf
open PySem PySem.Spec PyProof.Rows L2 Dn
/-! ### told forms -/
def Told (n : Nat) (T : Mat) : Prop := ∃ p, EI n p T T.length n
theorem rw_take {w : Mat} {a i : Nat} (h : i < a) : rw_ (w.take a) i = rw_ w i := by
  unfold rw_
  rw [List.getD_eq_getElem?_getD, List.getD_eq_getElem?_getD, List.getElem?_take_of_lt h]
theorem EI.take {n : Nat} {p : Nat → Nat} {w : Mat} {a c m : Nat} (h : EI n p w a c) (hm : m ≤ a) : EI n p (w.take m) (w.take m).length c := by
  have hle := h.le
  have hl : (w.take m).length = m := by rw [List.length_take]; omega
  rw [hl]
  refine ⟨fun r hr => h.wd r (List.mem_of_mem_take hr), by omega, fun i hi => h.lt i (by omega), fun i k hik hk => h.asc i k hik (by omega), fun i hi j hj => ?_, fun i hi => ?_, fun i hi => ?_, fun i hi k hk hki => ?_, fun k hk hk2 => by omega⟩
  · rw [rw_take hi]
    exact h.lead i (by omega) j hj
  · rw [rw_take hi]
    exact h.pos i (by omega)
  · rw [rw_take hi]
    exact h.pr i (by omega)
  · rw [rw_take (by omega)]
    exact h.col i (by omega) k (by omega) hki
theorem ech_told {n : Nat} {w : Mat} (hw : Wide n w) : Told n (ech n w) := by
  obtain ⟨p, s, h1, h2⟩ := echC_EI hw n
  exact ⟨p, h1.take (Nat.le_refl _)⟩
theorem Told.take {n : Nat} {T : Mat} (h : Told n T) (m : Nat) : Told n (T.take m) := by
  obtain ⟨p, h⟩ := h
  by_cases hm : m ≤ T.length
  · exact ⟨p, h.take hm⟩
  · rw [List.take_of_length_le (by omega)]
    exact ⟨p, h⟩
theorem firstNZ_of {w : Mat} {a c : Nat} (ha : a < w.length) (h : cel (rw_ w a) c ≠ 0) : firstNZ w a c = some a := by
  unfold firstNZ
  obtain ⟨m, hm⟩ : ∃ m, w.length - a = m + 1 := ⟨w.length - a - 1, by omega⟩
  rw [hm]
  unfold firstFrom
  rw [if_pos h]
theorem told_self {n : Nat} {p : Nat → Nat} {T : Mat} (h : EI n p T T.length n) : ∀ c, c ≤ n → (echC n T c).1 = T ∧ (echC n T c).2 ≤ T.length ∧ (∀ i < (echC n T c).2, p i < c) ∧ (∀ i, (echC n T c).2 ≤ i → i < T.length → c ≤ p i)
  | 0, _ => ⟨rfl, Nat.zero_le _, fun i hi => by have hi : i < 0 := hi; omega, fun i _ _ => Nat.zero_le _⟩
  | c + 1, hc => by
    obtain ⟨e1, e2, e3, e4⟩ := told_self h c (by omega)
    show (colS n (echC n T c) c).1 = T ∧ (colS n (echC n T c) c).2 ≤ T.length ∧ (∀ i < (colS n (echC n T c) c).2, p i < c + 1) ∧ (∀ i, (colS n (echC n T c) c).2 ≤ i → i < T.length → c + 1 ≤ p i)
    generalize hs : echC n T c = s at *
    obtain ⟨w, a⟩ := s
    simp only at e1 e2 e3 e4
    subst e1
    unfold colS
    by_cases hp : a < w.length ∧ p a = c
    · obtain ⟨ha, hp⟩ := hp
      have hpos := h.pos a ha
      rw [hp] at hpos
      have ef : firstNZ w a c = some a := firstNZ_of ha (by omega)
      simp only [ef]
      have hpr := h.pr a ha
      have sw : swapT w a a = w := by
        unfold swapT
        rw [hpr]
        have : w.set a (rw_ w a) = w := by
          apply List.ext_getElem?
          intro k
          by_cases hk : a = k
          · subst hk
            rw [List.getElem?_set_self ha, rw_get ha]
          · rw [List.getElem?_set_ne hk]
        rw [this, this]
      have el : elimA n (prim (rw_ w a)) a c w = w := by
        unfold elimA
        apply List.ext_getElem?
        intro k
        rw [List.getElem?_mapIdx]
        by_cases hk : k < w.length
        · rw [rw_get hk]
          show some (elimR _ _ _ _ _ _) = _
          unfold elimR
          rw [if_neg]
          intro ⟨q1, q2⟩
          have := h.col a ha k hk q1
          rw [hp] at this
          exact q2 this
        · rw [List.getElem?_eq_none (by omega)]
          rfl
      rw [sw, el]
      refine ⟨rfl, by omega, fun i hi => ?_, fun i hi hi2 => ?_⟩
      · by_cases hia : i = a
        · subst hia
          omega
        · have := e3 i (by omega)
          omega
      · have := h.asc a i (by omega) hi2
        omega
    · have ef : firstNZ w a c = none := by
        cases ef : firstNZ w a c with
        | none => rfl
        | some k =>
          obtain ⟨k1, k2, k3, _⟩ := firstFrom_some ef
          have hk : k < w.length := by omega
          have h1 := e4 a (Nat.le_refl _) (by omega)
          have h2 : c < p a := by
            have : p a ≠ c := fun z => hp ⟨by omega, z⟩
            omega
          have h3 : c < p k := by
            by_cases q : k = a
            · subst q
              exact h2
            · have := h.asc a k (by omega) hk
              omega
          exact absurd (h.lead k hk c h3) k3
      simp only [ef]
      refine ⟨trivial, e2, fun i hi => by have := e3 i hi; omega, fun i hi hi2 => ?_⟩
      have h1 := e4 i hi hi2
      have h2 : p i ≠ c := fun z => by
        by_cases q : i = a
        · subst q
          exact hp ⟨hi2, z⟩
        · have := h.asc a i (by omega) hi2
          have := e4 a (Nat.le_refl _) (by omega)
          omega
      omega
theorem Told.ech {n : Nat} {T : Mat} (h : Told n T) : Pf.ech n T = T ∧ ∀ c, c ≤ n → (echC n T c).1 = T := by
  obtain ⟨p, h⟩ := h
  refine ⟨?_, fun c hc => (told_self h c hc).1⟩
  obtain ⟨e1, e2, e3, e4⟩ := told_self h n (Nat.le_refl _)
  have : (echC n T n).2 = T.length := by
    by_cases q : (echC n T n).2 = T.length
    · exact q
    · have := e4 _ (Nat.le_refl _) (by omega)
      have := h.lt (echC n T n).2 (by omega)
      omega
  unfold Pf.ech
  rw [e1, this, List.take_length]
/-! ### pigeons -/
theorem pigeon : ∀ (M N : Nat) (f : Nat → Nat), M < N → (∀ i < N, f i < M) → ∃ i j, i < j ∧ j < N ∧ f i = f j
  | 0, N, f, h, hf => absurd (hf 0 h) (by omega)
  | M + 1, 0, f, h, hf => by omega
  | M + 1, N + 1, f, h, hf => by
    by_cases hx : ∃ i, i < N ∧ f i = f N
    · obtain ⟨i, hi, e⟩ := hx
      exact ⟨i, N, hi, by omega, e⟩
    · have hne : ∀ i, i < N → f i ≠ f N := fun i hi e => hx ⟨i, hi, e⟩
      obtain ⟨i, j, hij, hj, e⟩ := pigeon M N (fun i => if f i = M then f N else f i) (by omega) (fun i hi => by
        have h1 := hf i (by omega)
        have h2 := hf N (by omega)
        have h3 := hne i hi
        show (if f i = M then f N else f i) < M
        split <;> omega)
      refine ⟨i, j, hij, by omega, ?_⟩
      have e : (if f i = M then f N else f i) = (if f j = M then f N else f j) := e
      have h1 := hne i (by omega)
      have h2 := hne j hj
      split at e <;> split at e <;> omega
def prodS : List Nat → Nat
  | [] => 1
  | X :: Xs => (X + 1) * prodS Xs
def dec : List Nat → Nat → List Int
  | [], _ => []
  | X :: Xs, i => ((i % (X + 1) : Nat) : Int) :: dec Xs (i / (X + 1))
theorem dec_len : ∀ (Xs : List Nat) (i : Nat), (dec Xs i).length = Xs.length
  | [], _ => rfl
  | X :: Xs, i => by
    show _ + 1 = _ + 1
    rw [dec_len Xs]
theorem dec_inj : ∀ {Xs : List Nat} {i j : Nat}, i < prodS Xs → j < prodS Xs → dec Xs i = dec Xs j → i = j
  | [], i, j, hi, hj, _ => by
    have hi : i < 1 := hi
    have hj : j < 1 := hj
    omega
  | X :: Xs, i, j, hi, hj, e => by
    have e : ((i % (X + 1) : Nat) : Int) :: dec Xs (i / (X + 1)) = ((j % (X + 1) : Nat) : Int) :: dec Xs (j / (X + 1)) := e
    injection e with e1 e2
    have hi : i < (X + 1) * prodS Xs := hi
    have hj : j < (X + 1) * prodS Xs := hj
    have q := dec_inj (Nat.div_lt_of_lt_mul hi) (Nat.div_lt_of_lt_mul hj) e2
    have d1 := Nat.div_add_mod i (X + 1)
    have d2 := Nat.div_add_mod j (X + 1)
    rw [q] at d1
    omega
def WW : List Nat → List (Nat → Int) → Nat → Nat
  | X :: Xs, s :: S, j => X * (s j).natAbs + WW Xs S j
  | _, _, _ => 0
def lo : List Nat → List (Nat → Int) → Nat → Int
  | X :: Xs, s :: S, j => X * (if s j < 0 then - s j else 0) + lo Xs S j
  | _, _, _ => 0
theorem lin_box : ∀ (Xs : List Nat) (S : List (Nat → Int)) (i j : Nat), 0 ≤ lin (dec Xs i) S j + lo Xs S j ∧ lin (dec Xs i) S j + lo Xs S j ≤ WW Xs S j
  | [], S, i, j => by
    unfold dec lin lo WW
    simp
  | X :: Xs, [], i, j => by
    unfold dec lin lo WW
    simp
  | X :: Xs, s :: S, i, j => by
    obtain ⟨h1, h2⟩ := lin_box Xs S (i / (X + 1)) j
    show 0 ≤ ((i % (X + 1) : Nat) : Int) * s j + lin (dec Xs (i / (X + 1))) S j + ((X : Int) * (if s j < 0 then - s j else 0) + lo Xs S j) ∧ ((i % (X + 1) : Nat) : Int) * s j + lin (dec Xs (i / (X + 1))) S j + ((X : Int) * (if s j < 0 then - s j else 0) + lo Xs S j) ≤ ((X * (s j).natAbs + WW Xs S j : Nat) : Int)
    have hx : i % (X + 1) ≤ X := by have := Nat.mod_lt i (show 0 < X + 1 by omega); omega
    generalize i % (X + 1) = x at *
    have hX : ((x : Nat) : Int) ≤ X := by omega
    by_cases hs : s j < 0
    · rw [if_pos hs]
      have e : ((s j).natAbs : Int) = - s j := by omega
      have m1 : ((x : Nat) : Int) * (- s j) ≤ X * (- s j) := Int.mul_le_mul_of_nonneg_right hX (by omega)
      have m2 : 0 ≤ ((x : Nat) : Int) * (- s j) := Int.mul_nonneg (by omega) (by omega)
      rw [Int.mul_neg] at m1 m2
      rw [Int.natCast_add, Int.natCast_mul, e]
      omega
    · rw [if_neg hs]
      have e : ((s j).natAbs : Int) = s j := by omega
      have m1 : ((x : Nat) : Int) * s j ≤ X * s j := Int.mul_le_mul_of_nonneg_right hX (by omega)
      have m2 : 0 ≤ ((x : Nat) : Int) * s j := Int.mul_nonneg (by omega) (by omega)
      rw [Int.natCast_add, Int.natCast_mul, e]
      omega
def enc (v : Nat → Nat) (W : Nat → Nat) : List Nat → Nat
  | [] => 0
  | j :: Q => v j + (W j + 1) * enc v W Q
theorem enc_lt {v W : Nat → Nat} (h : ∀ j, v j ≤ W j) : ∀ Q : List Nat, enc v W Q < prodS (Q.map W)
  | [] => by show 0 < 1; omega
  | j :: Q => by
    have ih := enc_lt h Q
    show v j + (W j + 1) * enc v W Q < (W j + 1) * prodS (Q.map W)
    have h1 := h j
    have := Nat.mul_le_mul_left (W j + 1) (show enc v W Q + 1 ≤ prodS (Q.map W) by omega)
    rw [Nat.mul_add] at this
    omega
theorem enc_inj {v u W : Nat → Nat} (hv : ∀ j, v j ≤ W j) (hu : ∀ j, u j ≤ W j) : ∀ {Q : List Nat}, enc v W Q = enc u W Q → ∀ j ∈ Q, v j = u j
  | [], _ => by simp
  | j :: Q, e => by
    have e : v j + (W j + 1) * enc v W Q = u j + (W j + 1) * enc u W Q := e
    have h1 := hv j
    have h2 := hu j
    have m1 : (v j + (W j + 1) * enc v W Q) % (W j + 1) = v j := by rw [Nat.add_mul_mod_self_left, Nat.mod_eq_of_lt (by omega)]
    have m2 : (u j + (W j + 1) * enc u W Q) % (W j + 1) = u j := by rw [Nat.add_mul_mod_self_left, Nat.mod_eq_of_lt (by omega)]
    have ej : v j = u j := by rw [← m1, e, m2]
    have e2 : enc v W Q = enc u W Q := by
      rw [ej] at e
      exact Nat.eq_of_mul_eq_mul_left (show 0 < W j + 1 by omega) (by omega)
    intro i hi
    rcases List.mem_cons.mp hi with rfl | hi
    · exact ej
    · exact enc_inj hv hu e2 i hi
def subL : List Int → List Int → List Int
  | x :: xs, y :: ys => (x - y) :: subL xs ys
  | _, _ => []
theorem subL_len : ∀ {xs ys : List Int}, xs.length = ys.length → (subL xs ys).length = xs.length
  | [], [], _ => rfl
  | [], _ :: _, h => by simp at h
  | _ :: _, [], h => by simp at h
  | x :: xs, y :: ys, h => by
    show _ + 1 = _ + 1
    rw [subL_len (by simpa using h)]
theorem subL_zero : ∀ {xs ys : List Int}, xs.length = ys.length → (∀ x ∈ subL xs ys, x = 0) → xs = ys
  | [], [], _, _ => rfl
  | [], _ :: _, h, _ => by simp at h
  | _ :: _, [], h, _ => by simp at h
  | x :: xs, y :: ys, h, hz => by
    have h0 : x - y = 0 := hz _ List.mem_cons_self
    rw [subL_zero (xs := xs) (ys := ys) (by simpa using h) fun z hm => hz z (List.mem_cons_of_mem _ hm), show x = y by omega]
theorem lin_sub : ∀ {xs ys : List Int} {S : List (Nat → Int)} {j : Nat}, xs.length = ys.length → lin (subL xs ys) S j = lin xs S j - lin ys S j
  | [], [], S, j, _ => by
    unfold subL lin
    simp
  | [], _ :: _, _, _, h => by simp at h
  | _ :: _, [], _, _, h => by simp at h
  | x :: xs, y :: ys, [], j, h => by
    unfold subL lin
    simp
  | x :: xs, y :: ys, s :: S, j, h => by
    show (x - y) * s j + lin (subL xs ys) S j = (x * s j + lin xs S j) - (y * s j + lin ys S j)
    rw [lin_sub (by simpa using h), Int.sub_mul]
    omega
theorem siegel {Xs : List Nat} {S : List (Nat → Int)} {Q : List Nat} (hl : Xs.length = S.length) (h : prodS (Q.map (WW Xs S)) < prodS Xs) :
    ∃ xs : List Int, xs.length = S.length ∧ (∃ x ∈ xs, x ≠ 0) ∧ (∀ j ∈ Q, lin xs S j = 0) ∧ ∀ j, (lin xs S j).natAbs ≤ WW Xs S j := by
  have bx := lin_box Xs S
  let v : Nat → Nat → Nat := fun i j => (lin (dec Xs i) S j + lo Xs S j).toNat
  have hv : ∀ i j, v i j ≤ WW Xs S j := fun i j => by
    have := bx i j
    show (lin (dec Xs i) S j + lo Xs S j).toNat ≤ _
    omega
  have hc : ∀ i j, (v i j : Int) = lin (dec Xs i) S j + lo Xs S j := fun i j => by
    have := bx i j
    show ((lin (dec Xs i) S j + lo Xs S j).toNat : Int) = _
    omega
  obtain ⟨i, k, hik, hk, e⟩ := pigeon _ _ (fun i => enc (v i) (WW Xs S) Q) h (fun i _ => enc_lt (hv i) Q)
  have el : (dec Xs k).length = (dec Xs i).length := by rw [dec_len, dec_len]
  refine ⟨subL (dec Xs k) (dec Xs i), by rw [subL_len el, dec_len, hl], ?_, fun j hj => ?_, fun j => ?_⟩
  · refine Classical.byContradiction fun hn => ?_
    have := subL_zero el fun x hx => Classical.byContradiction fun h0 => hn ⟨x, hx, h0⟩
    have := dec_inj hk (by omega) this
    omega
  · rw [lin_sub el]
    have := enc_inj (hv i) (hv k) e j hj
    have h1 := hc i j
    have h2 := hc k j
    omega
  · rw [lin_sub el]
    have h1 := bx i j
    have h2 := bx k j
    omega
end Pf

namespace Pf
open PySem PySem.Spec PyProof.Rows L2 Dn
/-! ### how great the told rows of few drawn rows are -/
def wB : Nat := 10 ^ 55
def wX0 : Nat := 8192
def wX : Nat := 1024 * wB
def wt (k : Nat) : Nat := if k = 0 then wX0 else wX
def xsOf (s : Nat → Nat) : Nat → List Nat
  | 0 => []
  | a + 1 => wt (s a) :: xsOf s a
theorem xsOf_len (s : Nat → Nat) (w0 : Mat) : ∀ a, (xsOf s a).length = (rowsOf w0 s a).length
  | 0 => rfl
  | a + 1 => congrArg (· + 1) (xsOf_len s w0 a)
theorem wX_ge : wX0 ≤ wX := by unfold wX0 wX wB; omega
theorem prod_pow {s : Nat → Nat} : ∀ {a : Nat}, (∀ i < a, s i ≠ 0) → prodS (xsOf s a) = (wX + 1) ^ a
  | 0, _ => rfl
  | a + 1, h => by
    show (wt (s a) + 1) * prodS (xsOf s a) = _
    rw [prod_pow fun i hi => h i (by omega), show wt (s a) = wX from if_neg (h a (by omega)), Nat.pow_succ, Nat.mul_comm]
theorem prod_ge {s : Nat → Nat} : ∀ {a : Nat}, (∀ i k, i < a → k < a → s i = s k → i = k) → (wX0 + 1) * (wX + 1) ^ a ≤ prodS (xsOf s a) * (wX + 1)
  | 0, _ => by
    show (wX0 + 1) * 1 ≤ 1 * (wX + 1)
    have := wX_ge
    omega
  | a + 1, h => by
    show _ ≤ ((wt (s a) + 1) * prodS (xsOf s a)) * (wX + 1)
    by_cases h0 : s a = 0
    · rw [prod_pow (a := a) (fun i hi z => by have := h i a (by omega) (by omega) (by omega); omega), show wt (s a) = wX0 from if_pos h0, Nat.pow_succ, Nat.mul_assoc]
      exact Nat.le_refl _
    · rw [show wt (s a) = wX from if_neg h0, Nat.mul_assoc]
      have ih := prod_ge (s := s) (a := a) fun i k hi hk => h i k (by omega) (by omega)
      have := Nat.mul_le_mul_left (wX + 1) ih
      refine Nat.le_trans (Nat.le_of_eq ?_) this
      rw [Nat.pow_succ, Nat.mul_comm ((wX + 1) ^ a), Nat.mul_left_comm]
theorem ww_small {w0 : Mat} {s : Nat → Nat} {j : Nat} (hb : ∀ k, k ≠ 0 → (cel (rw_ w0 k) j).natAbs ≤ 4) : ∀ {a : Nat}, (∀ i < a, s i ≠ 0) → WW (xsOf s a) (rowsOf w0 s a) j ≤ a * (4 * wX)
  | 0, _ => Nat.zero_le _
  | a + 1, h => by
    show wt (s a) * (cel (rw_ w0 (s a)) j).natAbs + WW (xsOf s a) (rowsOf w0 s a) j ≤ _
    have ih := ww_small hb (s := s) (a := a) fun i hi => h i (by omega)
    rw [show wt (s a) = wX from if_neg (h a (by omega))]
    have := Nat.mul_le_mul_left wX (hb (s a) (h a (by omega)))
    rw [Nat.add_mul]
    omega
theorem ww_le {w0 : Mat} {s : Nat → Nat} {j b0 : Nat} (h0 : (cel (rw_ w0 0) j).natAbs ≤ b0) (hb : ∀ k, k ≠ 0 → (cel (rw_ w0 k) j).natAbs ≤ 4) : ∀ {a : Nat}, (∀ i k, i < a → k < a → s i = s k → i = k) → WW (xsOf s a) (rowsOf w0 s a) j ≤ wX0 * b0 + a * (4 * wX)
  | 0, _ => Nat.zero_le _
  | a + 1, h => by
    show wt (s a) * (cel (rw_ w0 (s a)) j).natAbs + WW (xsOf s a) (rowsOf w0 s a) j ≤ _
    rw [Nat.add_mul]
    by_cases hz : s a = 0
    · have := ww_small hb (s := s) (a := a) (fun i hi z => by have := h i a (by omega) (by omega) (by omega); omega)
      rw [hz, show wt 0 = wX0 from if_pos rfl]
      have := Nat.mul_le_mul_left wX0 h0
      omega
    · have ih := ww_le h0 hb (s := s) (a := a) fun i k hi hk => h i k (by omega) (by omega)
      rw [show wt (s a) = wX from if_neg hz]
      have := Nat.mul_le_mul_left wX (hb (s a) hz)
      omega
theorem prod_q {W : Nat → Nat} {q b c : Nat} (h1 : ∀ j, j ≠ q → W j ≤ c) (h2 : W q ≤ b) (hcb : c ≤ b) : ∀ {Q : List Nat}, (q ∉ Q → prodS (Q.map W) ≤ (c + 1) ^ Q.length) ∧ (Q.Nodup → prodS (Q.map W) * (c + 1) ≤ (b + 1) * (c + 1) ^ Q.length)
  | [] => ⟨fun _ => Nat.le_refl _, fun _ => by show 1 * (c + 1) ≤ (b + 1) * 1; omega⟩
  | j :: Q => by
    obtain ⟨i1, i2⟩ := prod_q h1 h2 hcb (Q := Q)
    constructor
    · intro hq
      have hj : j ≠ q := fun z => hq (by rw [z]; exact List.mem_cons_self)
      have := Nat.mul_le_mul (show W j + 1 ≤ c + 1 by have := h1 j hj; omega) (i1 fun z => hq (List.mem_cons_of_mem _ z))
      show (W j + 1) * prodS (Q.map W) ≤ (c + 1) ^ (Q.length + 1)
      rw [Nat.pow_succ, Nat.mul_comm ((c + 1) ^ Q.length)]
      exact this
    · intro hn
      obtain ⟨n1, n2⟩ := List.nodup_cons.mp hn
      show (W j + 1) * prodS (Q.map W) * (c + 1) ≤ (b + 1) * (c + 1) ^ (Q.length + 1)
      by_cases hj : j = q
      · subst hj
        have := Nat.mul_le_mul (show W j + 1 ≤ b + 1 by omega) (i1 n1)
        rw [Nat.pow_succ, ← Nat.mul_assoc]
        exact Nat.mul_le_mul_right _ this
      · have := Nat.mul_le_mul (show W j + 1 ≤ c + 1 by have := h1 j hj; omega) (i2 n2)
        rw [Nat.mul_assoc]
        refine Nat.le_trans this (Nat.le_of_eq ?_)
        rw [Nat.pow_succ, Nat.mul_comm ((c + 1) ^ Q.length), Nat.mul_left_comm]
theorem dvd_gcdF_mul : ∀ (r : List Int) (g e m : Nat), e ∣ m * g → (∀ x ∈ r, e ∣ m * x.natAbs) → e ∣ m * gcdF g r
  | [], g, e, m, h, _ => h
  | y :: ys, g, e, m, h, hx => dvd_gcdF_mul ys _ e m (by
      rw [← Nat.gcd_mul_left]
      exact Nat.dvd_gcd h (hx y List.mem_cons_self)) fun x hm => hx x (List.mem_cons_of_mem _ hm)
/-- the numbers of the rows ahead: small, but for one in the first row -/
structure Few (n q : Nat) (w : Mat) : Prop where
  wd : Wide n w
  len : w.length ≤ 4
  big : ∀ k j, (cel (rw_ w k) j).natAbs ≤ if k = 0 ∧ j = q then wB else 4
theorem few_bound {n q : Nat} {w : Mat} (h : Few n q w) {p s : Nat → Nat} {w' : Mat} {a : Nat} (h1 : EI n p w' a n) (h2 : EJ w s w' a) {i : Nat} (hi : i < a) (j : Nat) : (cel (rw_ w' i) j).natAbs ≤ wX0 * wB + 4 * (4 * wX) := by
  have ha : a ≤ w'.length := h1.le
  have h4 : a ≤ 4 := by have := h.len; have := h2.len; omega
  have si : ∀ i k, i < a → k < a → s i = s k → i = k := fun i k hi hk => h2.inj i k (by omega) (by omega)
  have hb0 : ∀ j k, k ≠ 0 → (cel (rw_ w k) j).natAbs ≤ 4 := fun j k hk => by
    have := h.big k j
    rw [if_neg (fun z => hk z.1)] at this
    exact this
  have hw1 : ∀ j, WW (xsOf s a) (rowsOf w s a) j ≤ wX0 * wB + 4 * (4 * wX) := fun j => by
    have h0 : (cel (rw_ w 0) j).natAbs ≤ wB := by
      have := h.big 0 j
      split at this
      · exact this
      · exact Nat.le_trans this (by unfold wB; omega)
    have := ww_le h0 (hb0 j) si
    have := Nat.mul_le_mul_right (4 * wX) h4
    omega
  have hw2 : ∀ j, j ≠ q → WW (xsOf s a) (rowsOf w s a) j ≤ wX0 * 4 + 4 * (4 * wX) := fun j hj => by
    have h0 : (cel (rw_ w 0) j).natAbs ≤ 4 := by
      have := h.big 0 j
      rw [if_neg (fun z => hj z.2)] at this
      exact this
    have := ww_le h0 (hb0 j) si
    have := Nat.mul_le_mul_right (4 * wX) h4
    omega
  let f : Nat → Nat := fun k => if k < i then k else k + 1
  let Q : List Nat := (List.range (a - 1)).map fun k => p (f k)
  have fl : ∀ k, k < a - 1 → f k < a ∧ f k ≠ i := fun k hk => by
    show (if k < i then k else k + 1) < a ∧ (if k < i then k else k + 1) ≠ i
    split <;> omega
  have Ql : Q.length = a - 1 := by simp [Q]
  have Qn : Q.Nodup := by
    show ((List.range (a - 1)).map fun k => p (f k)).Pairwise (· ≠ ·)
    rw [List.pairwise_map]
    refine List.Pairwise.imp_of_mem (R := fun x y => x < y) ?_ List.pairwise_lt_range
    intro x y hx hy hxy
    have hx := List.mem_range.mp hx
    have hy := List.mem_range.mp hy
    have h5 := h1.asc (f x) (f y) (by
      show (if x < i then x else x + 1) < (if y < i then y else y + 1)
      split <;> split <;> omega) (fl y hy).1
    omega
  have Qm : ∀ k, k < a → k ≠ i → p k ∈ Q := fun k hk hki => by
    refine List.mem_map.mpr ⟨if k < i then k else k - 1, List.mem_range.mpr (by split <;> omega), ?_⟩
    have : f (if k < i then k else k - 1) = k := by
      show (if (if k < i then k else k - 1) < i then (if k < i then k else k - 1) else (if k < i then k else k - 1) + 1) = k
      by_cases g : k < i
      · rw [if_pos g, if_pos g]
      · rw [if_neg g, if_neg (by omega)]
        omega
    rw [this]
  have cnt : prodS (Q.map (WW (xsOf s a) (rowsOf w s a))) < prodS (xsOf s a) := by
    have g1 := prod_ge (s := s) (a := a) si
    have g2 := (prod_q (q := q) (b := wX0 * wB + 4 * (4 * wX)) (c := wX0 * 4 + 4 * (4 * wX)) hw2 (hw1 q) (by unfold wX0 wX wB; omega) (Q := Q)).2 Qn
    rw [Ql] at g2
    by_cases a1 : a = 1
    · subst a1
      rw [Nat.pow_one] at g1
      have g1 := Nat.le_of_mul_le_mul_right g1 (by omega)
      show 1 < _
      have : 1 < wX0 + 1 := by decide
      omega
    generalize prodS (Q.map (WW (xsOf s a) (rowsOf w s a))) = M at *
    generalize prodS (xsOf s a) = N at *
    have key : ¬ (wX0 + 1) * (wX + 1) ^ a * ((wX0 * 4 + 4 * (4 * wX)) + 1) ≤ ((wX0 * wB + 4 * (4 * wX)) + 1) * ((wX0 * 4 + 4 * (4 * wX)) + 1) ^ (a - 1) * (wX + 1) := by
      obtain rfl | rfl | rfl : a = 2 ∨ a = 3 ∨ a = 4 := by omega
      · decide +kernel
      · decide +kernel
      · decide +kernel
    refine Classical.byContradiction fun hn => key ?_
    have hn : N ≤ M := by omega
    have m1 := Nat.mul_le_mul_right ((wX0 * 4 + 4 * (4 * wX)) + 1) g1
    have m2 := Nat.mul_le_mul_right (wX + 1) g2
    have m3 := Nat.mul_le_mul_right ((wX + 1) * ((wX0 * 4 + 4 * (4 * wX)) + 1)) hn
    refine Nat.le_trans m1 (Nat.le_trans (Nat.le_of_eq (Nat.mul_assoc _ _ _)) (Nat.le_trans m3 (Nat.le_trans (Nat.le_of_eq ?_) m2)))
    rw [Nat.mul_comm (wX + 1), Nat.mul_assoc]
  obtain ⟨xs, x1, x2, x3, x4⟩ := siegel (xsOf_len s w a) cnt
  have vT : Sp (topR w' a) (lin xs (rowsOf w s a)) := (lin_sp xs _).trans fun v hv => by
    obtain ⟨l, hl, rfl⟩ := rowsOf_mem hv
    exact h2.sub l hl
  have vnz : ∃ j, lin xs (rowsOf w s a) j ≠ 0 := Classical.byContradiction fun hn => by
    obtain ⟨x, hx, x0⟩ := x2
    exact x0 (h2.ind.lin x1 (fun j => Classical.byContradiction fun hj => hn ⟨j, hj⟩) x hx)
  generalize lin xs (rowsOf w s a) = v at *
  have vT2 : Sp (cel (rw_ w' i) :: ((List.range a).filter (· ≠ i)).map fun k => cel (rw_ w' k)) v := vT.mono fun u hu => by
    obtain ⟨k, hk, rfl⟩ := List.mem_map.mp hu
    by_cases hki : k = i
    · subst hki
      exact List.mem_cons_self
    · exact List.mem_cons_of_mem _ (List.mem_map.mpr ⟨k, List.mem_filter.mpr ⟨hk, by simpa using hki⟩, rfl⟩)
  obtain ⟨α, β, nb, hs⟩ := vT2.cons
  have pm : ∀ k, k ∈ (List.range a).filter (· ≠ i) → k < a ∧ k ≠ i := fun k hk => by
    obtain ⟨q1, q2⟩ := List.mem_filter.mp hk
    exact ⟨List.mem_range.mp q1, by simpa using q2⟩
  have hz : ∀ j, β * v j - α * cel (rw_ w' i) j = 0 := by
    refine Sp.zero_of (L := ((List.range a).filter (· ≠ i)).map fun k => (cel (rw_ w' k), p k)) ?_ ?_ ?_ ?_
    · rw [List.pairwise_map]
      refine List.Pairwise.imp_of_mem (R := fun x y => x < y) ?_ (List.Pairwise.filter _ List.pairwise_lt_range)
      intro x y hx hy hxy
      have hx := pm x hx
      have hy := pm y hy
      exact ⟨h1.col y hy.1 x (by omega) (by omega), h1.col x hx.1 y (by omega) (by omega)⟩
    · intro x hx
      obtain ⟨k, hk, rfl⟩ := List.mem_map.mp hx
      have := h1.pos k (pm k hk).1
      show cel (rw_ w' k) (p k) ≠ 0
      omega
    · rw [List.map_map]
      exact hs
    · intro x hx
      obtain ⟨k, hk, rfl⟩ := List.mem_map.mp hx
      have hk := pm k hk
      show β * v (p k) - α * cel (rw_ w' i) (p k) = 0
      rw [x3 _ (Qm k hk.1 hk.2), h1.col k hk.1 i (by omega) (by omega)]
      simp
  have na : α ≠ 0 := fun z => by
    obtain ⟨j, hj⟩ := vnz
    have := hz j
    rw [z, Int.zero_mul, Int.sub_zero] at this
    exact (Int.mul_eq_zero.mp this).elim nb hj
  have g0 : gcdL (rw_ w' i) ≠ 0 := gcd_nz (p := p i) (by have := h1.pos i hi; omega)
  have g1 : gcdL (rw_ w' i) = 1 := by
    have := prim_gcd g0
    rw [h1.pr i hi] at this
    exact this
  have dv : β.natAbs ∣ α.natAbs * gcdL (rw_ w' i) := dvd_gcdF_mul _ 0 _ _ (by rw [Nat.mul_zero]; exact Nat.dvd_zero _) fun x hx => by
    obtain ⟨l, hl, e⟩ := List.getElem_of_mem hx
    have ec : cel (rw_ w' i) l = x := by
      unfold cel
      rw [List.getD_eq_getElem?_getD, List.getElem?_eq_getElem hl, e]
      rfl
    have := hz l
    rw [ec] at this
    rw [← Int.natAbs_mul, show α * x = β * v l by omega, Int.natAbs_mul]
    exact Nat.dvd_mul_right _ _
  rw [g1, Nat.mul_one] at dv
  have le := Nat.le_of_dvd (by omega) dv
  have e := hz j
  have e : (β * v j).natAbs = (α * cel (rw_ w' i) j).natAbs := by rw [show β * v j = α * cel (rw_ w' i) j by omega]
  rw [Int.natAbs_mul, Int.natAbs_mul] at e
  refine Nat.le_trans ?_ (Nat.le_trans (x4 j) (hw1 j))
  have := Nat.mul_le_mul_right (cel (rw_ w' i) j).natAbs le
  have e' : β.natAbs * (cel (rw_ w' i) j).natAbs ≤ β.natAbs * (v j).natAbs := by omega
  exact Nat.le_of_mul_le_mul_left e' (by omega)
theorem few_ech {n q : Nat} {w : Mat} (h : Few n q w) : ∀ r ∈ ech n w, ∀ x ∈ r, x.natAbs < 10 ^ 60 := by
  intro r hr x hx
  obtain ⟨p, s, h1, h2⟩ := echC_EI h.wd n
  obtain ⟨i, hi, e⟩ := List.getElem_of_mem hr
  obtain ⟨j, hj, e2⟩ := List.getElem_of_mem hx
  have hle := h1.le
  have hi2 : i < (echC n w n).2 := by
    have : (ech n w).length ≤ (echC n w n).2 := by
      unfold ech
      rw [List.length_take]
      omega
    omega
  have er : rw_ (echC n w n).1 i = r := by
    rw [← rw_take hi2]
    refine rw_of ?_
    show (ech n w)[i]? = _
    rw [List.getElem?_eq_getElem hi, e]
  have := few_bound h h1 h2 hi2 j
  rw [er] at this
  have ec : cel r j = x := by
    unfold cel
    rw [List.getD_eq_getElem?_getD, List.getElem?_eq_getElem hj, e2]
    rfl
  rw [ec] at this
  refine Nat.lt_of_le_of_lt this ?_
  unfold wX0 wX wB
  omega
/-! ### how great numbers grow on the way -/
def gE : Nat → Nat
  | 0 => 2 ^ 184
  | a + 1 => 2 * (gE a * gE a)
theorem gE_le : ∀ a, gE a ≤ gE (a + 1)
  | 0 => by decide
  | a + 1 => by
    have := gE_le a
    show 2 * (gE a * gE a) ≤ 2 * (gE (a + 1) * gE (a + 1))
    exact Nat.mul_le_mul_left _ (Nat.mul_le_mul this this)
theorem grow {n : Nat} {w : Mat} (hw : Wide n w) (h0 : ∀ r ∈ w, ∀ x ∈ r, x.natAbs < 2 ^ 184) : ∀ c, c ≤ n → ∀ r ∈ (echC n w c).1, ∀ x ∈ r, x.natAbs < gE (echC n w c).2
  | 0, _ => h0
  | c + 1, hc => by
    have ih := grow hw h0 c (by omega)
    obtain ⟨v1, v2, v3⟩ := echC_inv hw c
    show ∀ r ∈ (colS n (echC n w c) c).1, ∀ x ∈ r, x.natAbs < gE (colS n (echC n w c) c).2
    unfold colS
    cases e : firstNZ (echC n w c).1 (echC n w c).2 c with
    | none => exact ih
    | some k =>
      obtain ⟨k1, k2, k3, _⟩ := firstFrom_some e
      generalize echC n w c = s at *
      obtain ⟨w1, a⟩ := s
      simp only at ih v1 v2 v3 k1 k2 k3 e ⊢
      have kk : k < w1.length := by omega
      have aa : a < w1.length := by omega
      have hh : ∀ x ∈ prim (rw_ w1 k), x.natAbs < gE a := prim_le (ih _ (rw_mem kk))
      have hsw : ∀ r ∈ swapT w1 a k, ∀ x ∈ r, x.natAbs < gE a := by
        intro r hr
        unfold swapT at hr
        rcases List.mem_or_eq_of_mem_set hr with hr | rfl
        · rcases List.mem_or_eq_of_mem_set hr with hr | rfl
          · exact ih r hr
          · exact ih _ (rw_mem aa)
        · exact hh
      intro r hr x hx
      unfold elimA at hr
      obtain ⟨l, hl, rfl⟩ := List.mem_mapIdx.mp hr
      have hrm := List.getElem_mem hl
      have wl := wide_swap v1 aa kk _ hrm
      unfold elimR at hx
      split at hx
      · exact prim_le (comb_small hh (hsw _ hrm) (by rw [prim_len]; exact v1 _ (rw_mem kk)) wl (by omega)) x hx
      · exact Nat.lt_of_lt_of_le (hsw _ hrm x hx) (gE_le a)
theorem gE_mono {a b : Nat} (h : a ≤ b) : gE a ≤ gE b := by
  induction h with
  | refl => exact Nat.le_refl _
  | step _ ih => exact Nat.le_trans ih (gE_le _)
theorem few_run {n q : Nat} {w : Mat} (h : Few n q w) : ∀ i < n, Small (echC n w i).1 := by
  intro i hi r hr x hx
  have h0 : ∀ r ∈ w, ∀ x ∈ r, x.natAbs < 2 ^ 184 := by
    intro r hr x hx
    obtain ⟨k, hk, e⟩ := List.getElem_of_mem hr
    obtain ⟨j, hj, e2⟩ := List.getElem_of_mem hx
    have := h.big k j
    have er : rw_ w k = r := rw_of (by rw [List.getElem?_eq_getElem hk, e])
    have ec : cel r j = x := by
      unfold cel
      rw [List.getD_eq_getElem?_getD, List.getElem?_eq_getElem hj, e2]
      rfl
    rw [er, ec] at this
    have b1 : wB < 2 ^ 184 := by decide
    split at this <;> omega
  have := grow h.wd h0 i (by omega) r hr x hx
  obtain ⟨v1, v2, v3⟩ := echC_inv h.wd i
  have h4 := h.len
  have := gE_mono (show (echC n w i).2 ≤ 4 by omega)
  have b4 : gE 4 < 2 ^ 4000 := by decide +kernel
  omega
end Pf

namespace Pf
open PySem PySem.Spec PyProof.Rows L2 Dn
theorem mulOk_lt {x y : Int} (hx : x.natAbs < 2 ^ 200) (hy : y.natAbs < 2 ^ 200) : Dn.MulOk x y := by
  have h1 := log2_lt hx (by decide)
  have h2 := log2_lt hy (by decide)
  show _ + _ < _
  omega
theorem divOk_lt {x : Int} (hx : x.natAbs < 2 ^ 200) (h0 : x ≠ 0) : DivOk x := by
  have h1 := log2_lt hx (by decide)
  exact ⟨h0, by omega⟩
section
variable {K : PySem.W.Frag}
theorem p__law_cell {ns : List Int} (k : Nat) (hk : k < 64) (hn : ns.length ≤ 63) : ∃ x : Int, φ__law_cell K [.scr ns, .int (k : Nat)] = .ok (.int x) := by
  unfold φ__law_cell
  rw [fnD_eq (by rfl)]
  show ∃ x : Int, Ends (dn__law_cell K [.va (.scr ns), .va (.int (k : Nat)), .un, .un]) (.ok (.int x))
  unfold dn__law_cell
  by_cases hl : k < ns.length
  · refine ⟨ns[k], .stop (v := .int ns[k]) ?_ rfl⟩
    have ha : atI ns (k : Int) = some ns[k] := atI_in (List.getElem?_eq_getElem hl)
    rw [if_t (by simp [hl])]
    simp [ha]
  · have lp : ∃ (s : Int) (c : Cell), 0 ≤ s ∧ s < 1000003 ∧ dFor (dItems (dVar 0)) (uName 3) (dSet 2 (d2 oMod (dN oInt (dCons (d2 oAdd (d2 oMul (dVar 2) (dK (.int 31))) (d2 oMod (dN oInt (dCons (dVar 3) dNil)) (dK (.int 1000003)))) dNil)) (dK (.int 1000003)))) [.va (.scr ns), .va (.int (k : Nat)), .va (.int 17), .un] = .nx [.va (.scr ns), .va (.int (k : Nat)), .va (.int s), c] := by
      rw [for_eq (ds := ns.map D.int) (by simp)]
      refine dLoop_wp (fun o => ∃ (s : Int) (c : Cell), 0 ≤ s ∧ s < 1000003 ∧ o = .nx [.va (.scr ns), .va (.int (k : Nat)), .va (.int s), c]) (fun ds δ => (∃ ms : List Int, ds = ms.map .int) ∧ ∃ (s : Int) (c : Cell), 0 ≤ s ∧ s < 1000003 ∧ δ = [.va (.scr ns), .va (.int (k : Nat)), .va (.int s), c]) ?_ ?_ _ _ ⟨⟨ns, rfl⟩, 17, .un, by decide, by decide, rfl⟩
      · rintro d2 ds δ ⟨⟨ms, e1⟩, s, c, h0, h1, rfl⟩
        cases ms with
        | nil => cases e1
        | cons m ms =>
          cases e1
          have mo : Dn.MulOk s 31 := mulOk_lt (by omega) (by decide)
          refine ⟨[.va (.scr ns), .va (.int (k : Nat)), .va (.int s), .va (.int m)], rfl, .inl ⟨_, .inl (set_eq (d := .int ((s * 31 + m % 1000003) % 1000003)) (by simp [mo])), ⟨ms, rfl⟩, _, _, ?_, ?_, rfl⟩⟩ <;> omega
      · rintro δ ⟨_, s, c, h0, h1, rfl⟩
        exact ⟨s, c, h0, h1, rfl⟩
    obtain ⟨s, c, h0, h1, lp⟩ := lp
    have mo : Dn.MulOk (s + 7) ((k : Int) + 3) := mulOk_lt (by omega) (by omega)
    have b1 : ((s + 7) * ((k : Int) + 3)).natAbs < 2 ^ 200 := by
      rw [Int.natAbs_mul]
      have := Nat.mul_lt_mul'' (show (s + 7).natAbs < 2000000 by omega) (show ((k : Int) + 3).natAbs < 100 by omega)
      omega
    have mo2 : Dn.MulOk ((s + 7) * ((k : Int) + 3)) 69621 := mulOk_lt b1 (by decide)
    refine ⟨_, .seq (δ' := [.va (.scr ns), .va (.int (k : Nat)), .un, .un]) ((if_f (by simp [hl])).trans rfl) (.seq (set_eq rfl) (.seq lp (.ret (by simp [mo, mo2]; rfl) ⟨_, rfl⟩)))⟩
/-- numbers, each within its size -/
def DigsOf (ds sizes : List Int) : Prop := ds.length = sizes.length ∧ ∀ k, k < sizes.length → 0 ≤ cel ds k ∧ cel ds k < cel sizes k
theorem cel_append {ds : List Int} {x : Int} {k : Nat} : cel (ds ++ [x]) k = if k < ds.length then cel ds k else if k = ds.length then x else 0 := by
  unfold cel
  rw [List.getD_eq_getElem?_getD, List.getD_eq_getElem?_getD]
  by_cases h : k < ds.length
  · rw [if_pos h, List.getElem?_append_left h]
  · rw [if_neg h]
    by_cases h2 : k = ds.length
    · subst h2
      rw [if_pos rfl]
      simp
    · rw [if_neg h2, List.getElem?_eq_none (by simp; omega)]
      rfl
/-- the first m are there -/
def DigsTo (m : Nat) (ds sizes : List Int) : Prop := ds.length = m ∧ ∀ k, k < m → 0 ≤ cel ds k ∧ cel ds k < cel sizes k
theorem DigsTo.push {m : Nat} {ds sizes : List Int} {x : Int} (h : DigsTo m ds sizes) (h0 : 0 ≤ x) (h1 : x < cel sizes m) : DigsTo (m + 1) (ds ++ [x]) sizes := by
  refine ⟨by simp [h.1], fun k hk => ?_⟩
  rw [cel_append, h.1]
  by_cases h2 : k < m
  · rw [if_pos h2]
    exact h.2 k h2
  · rw [if_neg h2, if_pos (by omega)]
    have : k = m := by omega
    subst this
    exact ⟨h0, h1⟩
theorem app_eq {i : Nat} {f : Sto → Res D} {δ : Sto} {d : D} {ds : List D} (e1 : δ[i]? = some (.ow ds)) (e2 : f δ = .ok d) (hl : ds.length < sizeLine) : dApp i f δ = .nx (δ.set i (.ow (ds ++ [d]))) := by
  show (δ.own i).out _ = _
  have : δ.own i = .ok ds := by unfold Sto.own; rw [e1]
  rw [this]
  show (f δ).out _ = _
  rw [e2]
  exact if_pos hl
theorem p__law_digits {c : Int} {sizes : List Int} (hs : ∀ s ∈ sizes, 0 < s ∧ s ≤ 10 ^ 10) (hl : sizes.length ≤ 100) : ∃ ds : List Int, φ__law_digits K [.int c, .lst (sizes.map .int)] = .ok (.lst (ds.map .int)) ∧ DigsOf ds sizes := by
  unfold φ__law_digits
  rw [fnD_eq (by rfl)]
  show ∃ ds : List Int, Ends (dn__law_digits K [.va (.int c), .va (.lst (sizes.map .int)), .un, .un, .un, .un, .un, .un]) (.ok (.lst (ds.map .int))) ∧ _
  unfold dn__law_digits
  have z100 : 1000 ≤ sizeLine := by decide
  have pw : CPow 10 18 := by decide
  have dv : ∀ s ∈ sizes, DivOk s := fun s h => by have := hs s h; exact divOk_lt (by omega) (by omega)
  by_cases hc : 10 ^ 18 ≤ c
  · have lp : ∃ (ds : List Int) (y3 y6 : Cell), DigsOf ds sizes ∧ dFor (dItems (dVar 1)) (uName 6) (dSeq (dApp 2 (d2 oMod (dN oInt (dCons (dVar 3) dNil)) (dVar 6))) (dSet 3 (d2 oFdiv (dN oInt (dCons (dVar 3) dNil)) (dVar 6)))) [.va (.int c), .va (.lst (sizes.map .int)), .ow [], .va (.int (c - 10 ^ 18)), .un, .un, .un, .un]
        = .nx [.va (.int c), .va (.lst (sizes.map .int)), .ow (ds.map .int), y3, .un, .un, y6, .un] := by
      rw [for_eq (ds := sizes.map D.int) (by simp)]
      refine dLoop_wp (fun o => ∃ (ds : List Int) (y3 y6 : Cell), DigsOf ds sizes ∧ o = .nx [.va (.int c), .va (.lst (sizes.map .int)), .ow (ds.map .int), y3, .un, .un, y6, .un])
        (fun es δ => ∃ (m : Nat) (ds : List Int) (r : Int) (y6 : Cell), es = (sizes.drop m).map .int ∧ m ≤ sizes.length ∧ DigsTo m ds sizes ∧ δ = [.va (.int c), .va (.lst (sizes.map .int)), .ow (ds.map .int), .va (.int r), .un, .un, y6, .un]) ?_ ?_ _ _ ⟨0, [], _, .un, rfl, Nat.zero_le _, ⟨rfl, fun k hk => by omega⟩, rfl⟩
      · rintro d2 es δ ⟨m, ds, r, y6, e1, hm, hd, rfl⟩
        have hlt : m < sizes.length := by
          rcases Nat.lt_or_ge m sizes.length with w | w
          · exact w
          · rw [List.drop_eq_nil_of_le w] at e1
            cases e1
        rw [List.drop_eq_getElem_cons hlt] at e1
        cases e1
        have hsm := hs _ (List.getElem_mem hlt)
        have hdv := dv _ (List.getElem_mem hlt)
        have hce : cel sizes m = sizes[m] := by
          unfold cel
          rw [List.getD_eq_getElem?_getD, List.getElem?_eq_getElem hlt]
          rfl
        generalize sizes[m] = sz at *
        refine ⟨[.va (.int c), .va (.lst (sizes.map .int)), .ow (ds.map .int), .va (.int r), .un, .un, .va (.int sz), .un], rfl, .inl ⟨[.va (.int c), .va (.lst (sizes.map .int)), .ow ((ds ++ [r % sz]).map .int), .va (.int (r.fdiv sz)), .un, .un, .va (.int sz), .un], .inl ?_, m + 1, ds ++ [r % sz], _, _, rfl, hlt, hd.push (Int.emod_nonneg _ (by omega)) (by rw [hce]; exact Int.emod_lt_of_pos _ (by omega)), rfl⟩⟩
        refine seq_eq (app_eq (d := .int (r % sz)) (ds := ds.map .int) rfl (by simp [hsm.1]) (by rw [List.length_map, hd.1]; omega)) ?_
        rw [List.map_append]
        exact set_eq (by simp [hdv])
      · rintro δ ⟨m, ds, r, y6, e1, hm, hd, rfl⟩
        have : m = sizes.length := by
          have := congrArg List.length e1
          simp at this
          omega
        subst this
        exact ⟨ds, _, _, hd, rfl⟩
    obtain ⟨ds, y3, y6, hd, lp⟩ := lp
    refine ⟨ds, ?_, hd⟩
    refine .seq (δ' := [.va (.int c), .va (.lst (sizes.map .int)), .ow [], .un, .un, .un, .un, .un]) (by simp) ?_
    refine .seq (δ' := [.va (.int c), .va (.lst (sizes.map .int)), .ow [], .va (.int c), .un, .un, .un, .un]) (set_eq (by simp)) ?_
    refine .stop (v := .lst (ds.map .int)) ?_ rfl
    rw [if_t (by simp [pw]; omega)]
    rw [seq_nx (δ' := [.va (.int c), .va (.lst (sizes.map .int)), .ow [], .va (.int (c - 10 ^ 18)), .un, .un, .un, .un]) (set_eq (by simp [pw]))]
    rw [seq_nx lp]
    simp
  · have lp : ∃ (ds : List Int) (y4 y5 y7 : Cell), DigsOf ds sizes ∧ dFor (dNL rng1 (dCons (dN oLen (dCons (dVar 1) dNil)) dNil)) (uName 5) (dSeq (dSet 4 (d2 oMod (dN oInt (dCons (d2 oAdd (d2 oAdd (d2 oMul (dVar 4) (dK (.int 48271))) (d2 oMul (dK (.int 974711)) (dVar 5))) (dK (.int 12345))) dNil)) (dK (.int 2147483647)))) (dSeq (dSet 7 (d2 oMod (dN oInt (dCons (d2 oMul (dVar 4) (d2 oAdd (d2 oFdiv (dVar 4) (dK (.int 65537))) (dK (.int 3)))) dNil)) (dK (.int 2147483629)))) (dApp 2 (d2 oMod (d2 oFdiv (dVar 7) (dK (.int 19))) (d2 oIx (dVar 1) (dVar 5))))))
          [.va (.int c), .va (.lst (sizes.map .int)), .ow [], .va (.int c), .va (.int (c % 2147483629)), .un, .un, .un]
        = .nx [.va (.int c), .va (.lst (sizes.map .int)), .ow (ds.map .int), .va (.int c), y4, y5, .un, y7] := by
      rw [for_eq (ds := rangeD 0 sizes.length) (by
        have : dCons (dN oLen (dCons (dVar 1) dNil)) dNil [.va (.int c), .va (.lst (sizes.map .int)), .ow [], .va (.int c), .va (.int (c % 2147483629)), .un, .un, .un] = .ok [.int (sizes.length : Nat)] := by simp
        show (dCons _ dNil _).bind _ = _
        rw [this]
        show Res.opt (rng1 _) = _
        rw [rng1_nat _ (by omega)]
        rfl)]
      refine dRange_wp (fun o => ∃ (ds : List Int) (y4 y5 y7 : Cell), DigsOf ds sizes ∧ o = .nx [.va (.int c), .va (.lst (sizes.map .int)), .ow (ds.map .int), .va (.int c), y4, y5, .un, y7]) 0 sizes.length
        (fun m δ => ∃ (ds : List Int) (s : Int) (y5 y7 : Cell), DigsTo m ds sizes ∧ 0 ≤ s ∧ s < 2147483647 ∧ δ = [.va (.int c), .va (.lst (sizes.map .int)), .ow (ds.map .int), .va (.int c), .va (.int s), y5, .un, y7]) ?_ ?_ _ ⟨[], _, .un, .un, ⟨rfl, fun k hk => by omega⟩, by omega, by omega, rfl⟩
      · rintro m hm δ ⟨ds, s, y5, y7, hd, h0, h1, rfl⟩
        have e0 : ((0 : Int) + (m : Nat)) = (m : Nat) := by omega
        have hsm := hs _ (cel_mem hm)
        have hix : atI (sizes.map D.int) (m : Nat) = some (.int (cel sizes m)) := ix_cel hm
        have m1 : Dn.MulOk s 48271 := mulOk_lt (by omega) (by decide)
        have m2 : Dn.MulOk 974711 (m : Int) := mulOk_lt (by decide) (by omega)
        have d1 : DivOk 65537 := by decide
        have d2 : DivOk 19 := by decide
        generalize ht : (s * 48271 + 974711 * (m : Int) + 12345) % 2147483647 = t
        have t0 : 0 ≤ t ∧ t < 2147483647 := by omega
        have m3 : Dn.MulOk t (t.fdiv 65537 + 3) := mulOk_lt (by omega) (by
          rw [Int.fdiv_eq_ediv_of_nonneg _ (by decide)]
          omega)
        refine ⟨[.va (.int c), .va (.lst (sizes.map .int)), .ow (ds.map .int), .va (.int c), .va (.int s), .va (.int (m : Nat)), .un, y7], by rw [e0]; rfl, .inl ⟨[.va (.int c), .va (.lst (sizes.map .int)), .ow ((ds ++ [((t * (t.fdiv 65537 + 3)) % 2147483629).fdiv 19 % cel sizes m]).map .int), .va (.int c), .va (.int t), .va (.int (m : Nat)), .un, .va (.int ((t * (t.fdiv 65537 + 3)) % 2147483629))], .inl ?_, _, t, _, _, hd.push (Int.emod_nonneg _ (by omega)) (Int.emod_lt_of_pos _ (by omega)), t0.1, t0.2, rfl⟩⟩
        refine seq_eq (δ' := [.va (.int c), .va (.lst (sizes.map .int)), .ow (ds.map .int), .va (.int c), .va (.int t), .va (.int (m : Nat)), .un, y7]) (set_eq (by simp [m1, m2, ht])) ?_
        refine seq_eq (δ' := [.va (.int c), .va (.lst (sizes.map .int)), .ow (ds.map .int), .va (.int c), .va (.int t), .va (.int (m : Nat)), .un, .va (.int ((t * (t.fdiv 65537 + 3)) % 2147483629))]) (set_eq (by simp [d1, m3])) ?_
        rw [List.map_append]
        refine (app_eq (d := .int (((t * (t.fdiv 65537 + 3)) % 2147483629).fdiv 19 % cel sizes m)) (ds := ds.map .int) rfl (by simp [d2, hix, hsm.1]) (by rw [List.length_map, hd.1]; omega)).trans rfl
      · rintro δ ⟨ds, s, y5, y7, hd, h0, h1, rfl⟩
        exact ⟨ds, _, _, _, hd, rfl⟩
    obtain ⟨ds, y4, y5, y7, hd, lp⟩ := lp
    refine ⟨ds, ?_, hd⟩
    refine .seq (δ' := [.va (.int c), .va (.lst (sizes.map .int)), .ow [], .un, .un, .un, .un, .un]) (by simp) ?_
    refine .seq (δ' := [.va (.int c), .va (.lst (sizes.map .int)), .ow [], .va (.int c), .un, .un, .un, .un]) (set_eq (by simp)) ?_
    refine .seq (δ' := [.va (.int c), .va (.lst (sizes.map .int)), .ow [], .va (.int c), .un, .un, .un, .un]) ((if_f (by simp [pw]; omega)).trans rfl) ?_
    refine .seq (δ' := [.va (.int c), .va (.lst (sizes.map .int)), .ow [], .va (.int c), .va (.int (c % 2147483629)), .un, .un, .un]) (set_eq (by simp)) ?_
    refine .seq lp ?_
    rfl
end
end Pf

namespace Pf
open PySem PySem.Spec PyProof.Rows L2 Dn
@[simp] theorem szl {n : Nat} (h : n ≤ 1000) : (n ≤ sizeLine) = True := by
  have : 1000 ≤ sizeLine := by decide
  simp
  omega
section
variable {K : PySem.W.Frag}
theorem rng1_eq {f : Sto → Res D} {δ : Sto} {n : Nat} (e : f δ = .ok (.int (n : Nat))) (h : n ≤ sizeLine) : dNL rng1 (dCons f dNil) δ = .ok (rangeD 0 n) := by
  show ((f δ).bind _).bind _ = _
  rw [e]
  show Res.opt (rng1 _) = _
  rw [rng1_nat _ h]
  rfl
theorem rng2_eq {f g : Sto → Res D} {δ : Sto} {i n : Nat} (e1 : f δ = .ok (.int (i : Nat))) (e : g δ = .ok (.int (n : Nat))) (h : n ≤ sizeLine) (hi : i ≤ n) : dNL rng2 (dCons f (dCons g dNil)) δ = .ok (rangeD (i : Nat) (n - i)) := by
  show ((f δ).bind _).bind _ = _
  rw [e1]
  show ((((g δ).bind _)).bind _).bind _ = _
  rw [e]
  show Res.opt (rng2 _) = _
  rw [rng2_nat _ _ h hi]
  rfl
/-- a comprehension over a range; what it gives is told by P -/
theorem lc_any {α : Type} (g : α → D) (P : α → Prop) {δ : Sto} {i n : Nat} {fa : Sto → Res (List D)} {f : Sto → Res D} (hfa : fa δ = .ok (rangeD 0 n))
    (h : ∀ k < n, ∃ a, f (δ.set i (.va (.int (k : Nat)))) = .ok (g a) ∧ P a) : ∃ l : List α, dLc fa (uName i) dYes f [i] δ = .ok (l.map g) ∧ l.length = n ∧ ∀ a ∈ l, P a := by
  by_cases hn0 : n = 0
  · subst hn0
    refine ⟨[], ?_, rfl, by simp⟩
    show (fa δ).bind _ = _
    rw [hfa]
    rfl
  have h0 : 0 < n := by omega
  have h2 : ∃ k : Nat → α, ∀ j < n, f (δ.set i (.va (.int (j : Nat)))) = .ok (g (k j)) ∧ P (k j) := by
    obtain ⟨a0, _, _⟩ := h 0 h0
    refine ⟨fun j => if hj : j < n then (h j hj).choose else a0, fun j hj => ?_⟩
    simp only [dif_pos hj]
    exact (h j hj).choose_spec
  obtain ⟨k, hk⟩ := h2
  refine ⟨(List.range n).map k, ?_, by simp, fun a ha => ?_⟩
  · show (fa δ).bind _ = _
    rw [hfa]
    show dComp _ _ _ _ _ = _
    rw [dComp_range _ 0 n (fun j => g (k j)) fun j hj => ?_]
    · simp [List.map_map, Function.comp_def]
    · have e0 : ((0 : Int) + (j : Nat)) = (j : Nat) := by omega
      refine ⟨δ.set i (.va (.int (j : Nat))), by rw [e0]; simp, rfl, (hk j hj).1⟩
  · obtain ⟨j, hj, rfl⟩ := List.mem_map.mp ha
    exact (hk j (List.mem_range.mp hj)).2
/-- all numbers at most b -/
def Bd (b : Nat) (w : Mat) : Prop := ∀ r ∈ w, ∀ x ∈ r, x.natAbs ≤ b
theorem p__law_large {c : Int} {m : Nat} (hm : m ≤ 60) : ∃ x : Int, φ__law_large K [.int c, .int (m : Nat)] = .ok (.int x) ∧ x.natAbs < 10 ^ m := by
  unfold φ__law_large
  rw [fnD_eq (by rfl)]
  show ∃ x : Int, Dn.Ends (dn__law_large K [.va (.int c), .va (.int (m : Nat)), .un, .un, .un, .un]) (.ok (.int x)) ∧ _
  unfold dn__law_large
  have pw : CPow 10 10 := by decide
  obtain ⟨ds, e1, hd⟩ := p__law_digits (K := K) (c := c) (sizes := [2, 10 ^ 10, 10 ^ 10, 10 ^ 10, 10 ^ 10, 10 ^ 10, 10 ^ 10]) (by simp) (by simp)
  have e1 : φ__law_digits K [.int c, .lst [.int 2, .int 10000000000, .int 10000000000, .int 10000000000, .int 10000000000, .int 10000000000, .int 10000000000]] = .ok (.lst (ds.map .int)) := e1
  have rp : repD [D.int 10000000000] 6 = [.int 10000000000, .int 10000000000, .int 10000000000, .int 10000000000, .int 10000000000, .int 10000000000] := rfl
  have hl : ds.length = 7 := hd.1
  have z7 : 7 ≤ sizeLine := by decide
  have z6 : 6 ≤ sizeLine := by decide
  have z60 : 60 ≤ sizeLine := by decide
  have d0 := hd.2 0 (by simp)
  have c0 : cel [2, 10 ^ 10, 10 ^ 10, 10 ^ 10, 10 ^ 10, 10 ^ 10, 10 ^ 10] 0 = 2 := rfl
  rw [c0] at d0
  have dk : ∀ k : Nat, k < 6 → 0 ≤ cel ds (k + 1) ∧ cel ds (k + 1) < 10 ^ 10 := fun k hk => by
    have := hd.2 (k + 1) (by simp; omega)
    have e : cel [2, 10 ^ 10, 10 ^ 10, 10 ^ 10, 10 ^ 10, 10 ^ 10, 10 ^ 10] (k + 1) = 10 ^ 10 := by
      obtain rfl | rfl | rfl | rfl | rfl | rfl : k = 0 ∨ k = 1 ∨ k = 2 ∨ k = 3 ∨ k = 4 ∨ k = 5 := by omega
      all_goals rfl
    rw [e] at this
    exact this
  have lp1 : ∃ (t : Int) (y : Cell), 0 ≤ t ∧ t < 10 ^ 60 ∧ dFor (dNL rng1 (dCons (dK (.int 6)) dNil)) (uName 4) (dSet 3 (d2 oAdd (d2 oMul (dVar 3) (d2 oPow (dK (.int 10)) (dK (.int 10)))) (d2 oIx (dVar 2) (d2 oAdd (dVar 4) (dK (.int 1)))))) [.va (.int c), .va (.int (m : Nat)), .va (.lst (ds.map .int)), .va (.int 0), .un, .un]
      = .nx [.va (.int c), .va (.int (m : Nat)), .va (.lst (ds.map .int)), .va (.int t), y, .un] := by
    rw [for_eq (ds := rangeD 0 6) (rng1_eq (n := 6) rfl z6)]
    refine dRange_wp (fun o => ∃ (t : Int) (y : Cell), 0 ≤ t ∧ t < 10 ^ 60 ∧ o = .nx [.va (.int c), .va (.int (m : Nat)), .va (.lst (ds.map .int)), .va (.int t), y, .un]) 0 6
      (fun i δ => ∃ (t : Int) (y : Cell), 0 ≤ t ∧ t < 10 ^ (10 * i) ∧ δ = [.va (.int c), .va (.int (m : Nat)), .va (.lst (ds.map .int)), .va (.int t), y, .un]) ?_ ?_ _ ⟨0, .un, by decide, by decide, rfl⟩
    · rintro i hi δ ⟨t, y, h0, h1, rfl⟩
      have hdk := dk i hi
      have e0 : ((0 : Int) + (i : Nat)) = (i : Nat) := by omega
      have e5 : ((i : Nat) : Int) + 1 = ((i + 1 : Nat) : Int) := by omega
      have hix : atI (ds.map D.int) ((i : Int) + 1) = some (.int (cel ds (i + 1))) := by rw [e5]; exact ix_cel (by omega)
      have tb : t < 10 ^ 60 := by
        obtain rfl | rfl | rfl | rfl | rfl | rfl : i = 0 ∨ i = 1 ∨ i = 2 ∨ i = 3 ∨ i = 4 ∨ i = 5 := by omega
        all_goals (simp at h1; omega)
      have mo : Dn.MulOk t 10000000000 := mulOk_lt (by omega) (by decide)
      refine ⟨[.va (.int c), .va (.int (m : Nat)), .va (.lst (ds.map .int)), .va (.int t), .va (.int (i : Nat)), .un], by rw [e0]; rfl, .inl ⟨_, .inl (set_eq (d := .int (t * 10000000000 + cel ds (i + 1))) (by simp [pw, mo, hix])), _, _, by omega, ?_, rfl⟩⟩
      have : (10 : Int) ^ (10 * (i + 1)) = 10 ^ (10 * i) * 10 ^ 10 := by rw [← Int.pow_add]; rfl
      rw [this]
      omega
    · rintro δ ⟨t, y, h0, h1, rfl⟩
      exact ⟨t, y, h0, h1, rfl⟩
  obtain ⟨t, y4, t0, t1, lp1⟩ := lp1
  have lp2 : ∃ (y : Cell), dFor (dNL rng1 (dCons (dVar 1) dNil)) (uName 4) (dSet 5 (d2 oMul (dVar 5) (dK (.int 10)))) [.va (.int c), .va (.int (m : Nat)), .va (.lst (ds.map .int)), .va (.int t), y4, .va (.int 1)]
      = .nx [.va (.int c), .va (.int (m : Nat)), .va (.lst (ds.map .int)), .va (.int t), y, .va (.int (10 ^ m))] := by
    rw [for_eq (ds := rangeD 0 m) (rng1_eq (n := m) rfl (by omega))]
    refine dRange_wp (fun o => ∃ (y : Cell), o = .nx [.va (.int c), .va (.int (m : Nat)), .va (.lst (ds.map .int)), .va (.int t), y, .va (.int (10 ^ m))]) 0 m
      (fun i δ => ∃ (y : Cell), δ = [.va (.int c), .va (.int (m : Nat)), .va (.lst (ds.map .int)), .va (.int t), y, .va (.int (10 ^ i))]) ?_ ?_ _ ⟨y4, rfl⟩
    · rintro i hi δ ⟨y, rfl⟩
      have hb : (10 : Int) ^ i ≤ 10 ^ 60 := by
        have : (10 : Nat) ^ i ≤ 10 ^ 60 := Nat.pow_le_pow_right (by decide) (by omega)
        have e : ((10 ^ i : Nat) : Int) = 10 ^ i := Int.natCast_pow 10 i
        omega
      have hp : (0 : Int) < 10 ^ i := Int.pow_pos (by decide)
      have mo : Dn.MulOk (10 ^ i) 10 := mulOk_lt (by omega) (by decide)
      refine ⟨[.va (.int c), .va (.int (m : Nat)), .va (.lst (ds.map .int)), .va (.int t), .va (.int (0 + (i : Nat))), .va (.int (10 ^ i))], rfl, .inl ⟨_, .inl (set_eq (d := .int (10 ^ i * 10)) (by simp [mo])), _, by rw [Int.pow_succ]; rfl⟩⟩
    · rintro δ ⟨y, rfl⟩
      exact ⟨y, rfl⟩
  obtain ⟨y5, lp2⟩ := lp2
  have hp : (0 : Int) < 10 ^ m := Int.pow_pos (by decide)
  have ix0 : atI (ds.map D.int) 0 = some (.int (cel ds 0)) := ix_cel (c := 0) (by omega)
  generalize ht : t % (10 : Int) ^ m = u
  have u0 : 0 ≤ u := by rw [← ht]; exact Int.emod_nonneg _ (by omega)
  have u1 : u < 10 ^ m := by rw [← ht]; exact Int.emod_lt_of_pos _ hp
  have u2 : u < 10 ^ 60 := by
    rw [← ht]
    have h1 := Int.mul_ediv_add_emod t (10 ^ m)
    have h2 : 0 ≤ 10 ^ m * (t / 10 ^ m) := Int.mul_nonneg (by omega) (Int.ediv_nonneg t0 (by omega))
    omega
  have m1 : Dn.MulOk 2 (cel ds 0) := mulOk_lt (by decide) (by omega)
  have m2 : Dn.MulOk (2 * cel ds 0) u := mulOk_lt (by omega) (by omega)
  refine ⟨u - 2 * cel ds 0 * u, ?_, ?_⟩
  · refine .seq (δ' := [.va (.int c), .va (.int (m : Nat)), .va (.lst (ds.map .int)), .un, .un, .un]) (set_eq (by simp [pw, rp, z7, z6, e1])) ?_
    refine .seq (set_eq rfl) ?_
    refine .seq lp1 ?_
    refine .seq (set_eq rfl) ?_
    refine .seq lp2 ?_
    refine .seq (δ' := [.va (.int c), .va (.int (m : Nat)), .va (.lst (ds.map .int)), .va (.int u), y5, .va (.int (10 ^ m))]) (set_eq (by simp [hp, ht])) ?_
    exact .ret (by simp [ix0, m1, m2]) ⟨_, rfl⟩
  · have e : ((10 ^ m : Nat) : Int) = 10 ^ m := Int.natCast_pow 10 m
    have hc : cel ds 0 = 0 ∨ cel ds 0 = 1 := by omega
    rcases hc with w | w <;> rw [w] <;> omega
end
end Pf

namespace Pf
open PySem PySem.Spec PyProof.Rows L2 Dn
/-! ### ends and states that are told by a property -/
def Got (Q : D → Prop) (o : Out) : Prop := ∃ d, finO o = .ok d ∧ Q d
def GotV (n : Nat) (Q : D → Prop) (o : Out) : Prop := ∃ d, finV n o = .ok d ∧ Q d
def Nxt (R : Sto → Prop) (o : Out) : Prop := ∃ δ', o = .nx δ' ∧ R δ'
section
variable {Q : D → Prop} {R R1 : Sto → Prop} {g k q : Sto → Out} {p : Sto → Res Bool} {f : Sto → Res D} {δ δ' : Sto} {n : Nat}
theorem Nxt.at (h : g δ = .nx δ') (r : R δ') : Nxt R (g δ) := ⟨δ', h, r⟩
theorem Nxt.mono (h : Nxt R1 (g δ)) (i : ∀ δ', R1 δ' → R δ') : Nxt R (g δ) := by
  obtain ⟨d, e, r⟩ := h
  exact ⟨d, e, i d r⟩
theorem Got.seq (h : Nxt R (g δ)) (h2 : ∀ δ', R δ' → Got Q (k δ')) : Got Q (dSeq g k δ) := by
  obtain ⟨d, e, r⟩ := h
  rw [seq_nx e]
  exact h2 d r
theorem Got.seq1 (h : g δ = .nx δ') (h2 : Got Q (k δ')) : Got Q (dSeq g k δ) := by
  rw [seq_nx h]
  exact h2
theorem GotV.seq (h : Nxt R (g δ)) (h2 : ∀ δ', R δ' → GotV n Q (k δ')) : GotV n Q (dSeq g k δ) := by
  obtain ⟨d, e, r⟩ := h
  rw [seq_nx e]
  exact h2 d r
theorem GotV.seq1 (h : g δ = .nx δ') (h2 : GotV n Q (k δ')) : GotV n Q (dSeq g k δ) := by
  rw [seq_nx h]
  exact h2
theorem Nxt.seq (h : Nxt R1 (g δ)) (h2 : ∀ δ', R1 δ' → Nxt R (k δ')) : Nxt R (dSeq g k δ) := by
  obtain ⟨d, e, r⟩ := h
  rw [seq_nx e]
  exact h2 d r
theorem Nxt.seq1 (h : g δ = .nx δ') (h2 : Nxt R (k δ')) : Nxt R (dSeq g k δ) := by
  rw [seq_nx h]
  exact h2
theorem Got.ret (h : ∃ d, f δ = .ok d ∧ Q d) : Got Q (dRet f δ) := by
  obtain ⟨d, e, r⟩ := h
  refine ⟨d, ?_, r⟩
  show finO ((f δ).out _) = _
  rw [e]
  rfl
theorem Got.stop (h : ∃ d, g δ = .rt d ∧ Q d) : Got Q (dSeq g k δ) := by
  obtain ⟨d, e, r⟩ := h
  refine ⟨d, ?_, r⟩
  show finO ((g δ).seq k) = _
  rw [e]
  rfl
theorem Nxt.ifT (h : p δ = .ok true) (h2 : Nxt R (g δ)) : Nxt R (dIf p g q δ) := by
  rw [if_t h]
  exact h2
theorem Nxt.ifF (h : p δ = .ok false) (h2 : Nxt R (q δ)) : Nxt R (dIf p g q δ) := by
  rw [if_f h]
  exact h2
theorem Got.ifT (h : p δ = .ok true) (h2 : Got Q (g δ)) : Got Q (dIf p g q δ) := by
  rw [if_t h]
  exact h2
theorem Got.ifF (h : p δ = .ok false) (h2 : Got Q (q δ)) : Got Q (dIf p g q δ) := by
  rw [if_f h]
  exact h2
theorem Nxt.skip (h : R δ) : Nxt R (dSkip δ) := ⟨δ, rfl, h⟩
theorem Nxt.set {i : Nat} (h : ∃ d, f δ = .ok d ∧ R (δ.set i (.va d))) : Nxt R (dSet i f δ) := by
  obtain ⟨d, e, r⟩ := h
  exact ⟨_, set_eq e, r⟩
theorem Nxt.setF {i : Nat} {fl : Sto → Res (List D)} (h : ∃ d, fl δ = .ok d ∧ R (δ.set i (.ow d))) : Nxt R (dSetF i fl δ) := by
  obtain ⟨d, e, r⟩ := h
  refine ⟨_, ?_, r⟩
  show (fl δ).out _ = _
  rw [e]
  rfl
theorem Nxt.forR {fa : Sto → Res (List D)} {u : D → Sto → Option Sto} {lo : Int} (I : Nat → Sto → Prop) (hfa : fa δ = .ok (rangeD lo n)) (h0 : I 0 δ)
    (hs : ∀ i < n, ∀ δ, I i δ → ∃ δ1, u (.int (lo + (i : Nat))) δ = some δ1 ∧ Nxt (I (i + 1)) (g δ1)) : Nxt (I n) (dFor fa u g δ) := by
  rw [for_eq hfa]
  refine dRange_wp (fun o => Nxt (I n) o) lo n I ?_ (fun δ h => ⟨δ, rfl, h⟩) _ h0
  intro i hi δ h
  obtain ⟨δ1, e1, δ2, e2, h2⟩ := hs i hi δ h
  exact ⟨δ1, e1, .inl ⟨δ2, .inl e2, h2⟩⟩
theorem Nxt.for {fa : Sto → Res (List D)} {u : D → Sto → Option Sto} {ds : List D} (I : List D → Sto → Prop) (hfa : fa δ = .ok ds) (h0 : I ds δ)
    (hs : ∀ d ds δ, I (d :: ds) δ → ∃ δ1, u d δ = some δ1 ∧ Nxt (I ds) (g δ1)) : Nxt (I []) (dFor fa u g δ) := by
  rw [for_eq hfa]
  refine dLoop_wp (fun o => Nxt (I []) o) I ?_ (fun δ h => ⟨δ, rfl, h⟩) _ _ h0
  intro d ds δ h
  obtain ⟨δ1, e1, δ2, e2, h2⟩ := hs d ds δ h
  exact ⟨δ1, e1, .inl ⟨δ2, .inl e2, h2⟩⟩
/-- rows by comprehensions over ranges -/
theorem lc_mat (P : Int → Prop) {i j h n : Nat} {fa fb : Sto → Res (List D)} (hfa : fa δ = .ok (rangeD 0 h)) (hfb : ∀ k < h, fb (δ.set i (.va (.int (k : Nat)))) = .ok (rangeD 0 n))
    (hf : ∀ k < h, ∀ l < n, ∃ x, f ((δ.set i (.va (.int (k : Nat)))).set j (.va (.int (l : Nat)))) = .ok (.int x) ∧ P x) :
    ∃ w : Mat, dLc fa (uName i) dYes (dLst (dLc fb (uName j) dYes f [j])) [i] δ = .ok (w.map rowL) ∧ w.length = h ∧ ∀ r ∈ w, r.length = n ∧ ∀ x ∈ r, P x := by
  refine lc_any rowL (fun r => r.length = n ∧ ∀ x ∈ r, P x) hfa fun k hk => ?_
  obtain ⟨r, e1, e2, e3⟩ := lc_any D.int P (hfb k hk) fun l hl => hf k hk l hl
  refine ⟨r, ?_, e2, e3⟩
  show (dLc _ _ _ _ _ _).bind _ = _
  rw [e1]
  rfl
theorem lst_ex {α : Type} {g : α → List D} {P : α → Prop} {fl : Sto → Res (List D)} (h : ∃ w : α, fl δ = .ok (g w) ∧ P w) : ∃ w : α, dLst fl δ = .ok (.lst (g w)) ∧ P w := by
  obtain ⟨w, e, hw⟩ := h
  refine ⟨w, ?_, hw⟩
  show (fl δ).bind _ = _
  rw [e]
  rfl
end
theorem ix_modL {rs : List Int} (h : 0 < rs.length) (z : Int) : ∃ x ∈ rs, atI (rs.map D.int) (z % (rs.length : Nat)) = some (.int x) := by
  have h0 := Int.emod_nonneg z (show ((rs.length : Nat) : Int) ≠ 0 by omega)
  have h1 := Int.emod_lt_of_pos z (show (0 : Int) < (rs.length : Nat) by omega)
  obtain ⟨k, hk⟩ : ∃ k : Nat, z % (rs.length : Nat) = (k : Nat) := ⟨(z % (rs.length : Nat)).toNat, by omega⟩
  have hk2 : k < rs.length := by omega
  exact ⟨cel rs k, cel_mem hk2, by rw [hk]; exact ix_cel hk2⟩
/-- h rows of n numbers, none above b -/
structure IsM (b h n : Nat) (w : Mat) : Prop where
  len : w.length = h
  wd : Wide n w
  bd : Bd b w
theorem isM_of {b h n : Nat} {w : Mat} (h1 : w.length = h) (h2 : ∀ r ∈ w, r.length = n ∧ ∀ x ∈ r, x.natAbs ≤ b) : IsM b h n w := ⟨h1, fun r hr => (h2 r hr).1, fun r hr => (h2 r hr).2⟩
section
variable {K : PySem.W.Frag}
theorem p__law_small {rs : List Int} {a h n : Nat} (hr : 0 < rs.length) (hr2 : rs.length ≤ 100) (ha : a ≤ 1000) (hh : h ≤ 8) (hn : n ≤ 8) : ∃ w, φ__law_small K [.lst (rs.map .int), .int (a : Nat), .int (h : Nat), .int (n : Nat)] = .ok (.lst (w.map rowL)) ∧ IsM 2 h n w := by
  unfold φ__law_small
  rw [fnD_eq (by rfl)]
  have z8 : 8 ≤ sizeLine := by decide
  suffices GotV 2 (fun d => ∃ w, d = .lst (w.map rowL) ∧ IsM 2 h n w) (dn__law_small K [.va (.lst (rs.map .int)), .va (.int (a : Nat)), .va (.int (h : Nat)), .va (.int (n : Nat)), .un, .un, .un]) by
    obtain ⟨d, e, w, rfl, hw⟩ := this
    exact ⟨w, e, hw⟩
  unfold dn__law_small
  refine GotV.seq1 (set_eq (d := .lst [.int 0, .int 1, .int 0, .int (-1), .int 2, .int 0, .int 1]) (by simp)) ?_
  have key : ∀ {f : Sto → Res D} {δ : Sto}, (∃ w : Mat, f δ = .ok (.lst (w.map rowL)) ∧ w.length = h ∧ ∀ r ∈ w, r.length = n ∧ ∀ x ∈ r, x.natAbs ≤ 2) → GotV 2 (fun d => ∃ w, d = .lst (w.map rowL) ∧ IsM 2 h n w) (dRetV 1 f δ) := by
    intro f δ ⟨w, e1, e2, e3⟩
    refine ⟨_, ?_, w, rfl, isM_of e2 e3⟩
    show finV 2 ((f δ).out _) = _
    rw [e1]
    rfl
  refine key (lst_ex (lc_mat (fun x => x.natAbs ≤ 2) (rng1_eq (n := h) rfl (by omega)) (fun k _ => rng1_eq (n := n) rfl (by omega)) fun i hi j hj => ?_))
  have m1 : Dn.MulOk 11 (i : Int) := mulOk_lt (by decide) (by omega)
  have m2 : Dn.MulOk 5 (j : Int) := mulOk_lt (by decide) (by omega)
  have m3 : Dn.MulOk (i : Int) (j : Int) := mulOk_lt (by omega) (by omega)
  obtain ⟨x, _, ex⟩ := ix_modL hr ((a : Int) + 11 * (i : Int) + 5 * (j : Int) + (i : Int) * (j : Int))
  obtain ⟨y, hy, ey⟩ := ix_modL (rs := [0, 1, 0, -1, 2, 0, 1]) (by decide) x
  have ey : atI [D.int 0, .int 1, .int 0, .int (-1), .int 2, .int 0, .int 1] (x % 7) = some (.int y) := ey
  have hl : (0 : Int) < (rs.length : Nat) := by omega
  refine ⟨y, by simp [m1, m2, m3, ex, ey, hr], ?_⟩
  simp at hy
  omega
end
end Pf

namespace Pf
open PySem PySem.Spec PyProof.Rows L2 Dn
theorem isM_row {b h n : Nat} {w : Mat} (m : IsM b h n w) {k : Nat} (hk : k < h) : (rw_ w k).length = n ∧ ∀ x ∈ rw_ w k, x.natAbs ≤ b := by
  have h1 := rw_mem (w := w) (k := k) (by rw [m.len]; exact hk)
  exact ⟨m.wd _ h1, m.bd _ h1⟩
theorem isM_cel {b h n : Nat} {w : Mat} (m : IsM b h n w) {k c : Nat} (hk : k < h) (hc : c < n) : (cel (rw_ w k) c).natAbs ≤ b := by
  obtain ⟨h1, h2⟩ := isM_row m hk
  exact h2 _ (cel_mem (by omega))
theorem IsM.mono {b b' h n : Nat} {w : Mat} (m : IsM b h n w) (hb : b ≤ b') : IsM b' h n w := ⟨m.len, m.wd, fun r hr x hx => Nat.le_trans (m.bd r hr x hx) hb⟩
theorem mem_set_or {α : Type} {l : List α} {i : Nat} {a x : α} (h : x ∈ l.set i a) : x ∈ l ∨ x = a := List.mem_or_eq_of_mem_set h
theorem IsM.set {b h n : Nat} {w : Mat} (m : IsM b h n w) (k : Nat) {r : List Int} (hl : r.length = n) (hb : ∀ x ∈ r, x.natAbs ≤ b) : IsM b h n (w.set k r) := by
  refine ⟨by rw [List.length_set, m.len], fun x hx => ?_, fun x hx => ?_⟩
  · rcases mem_set_or hx with q | rfl
    · exact m.wd _ q
    · exact hl
  · rcases mem_set_or hx with q | rfl
    · exact m.bd _ q
    · exact hb
section
variable {K : PySem.W.Frag}
theorem p__law_product {bl br h m n : Nat} {l r : Mat} (hl : IsM bl h m l) (hr : IsM br m n r) (h8 : h ≤ 8) (m0 : 0 < m) (m8 : m ≤ 8) (n8 : n ≤ 8) (b1 : bl < 2 ^ 190) (b2 : br < 2 ^ 190) :
    ∃ w, φ__law_product K [.lst (l.map rowL), .lst (r.map rowL)] = .ok (.lst (w.map rowL)) ∧ IsM (m * (bl * br)) h n w := by
  unfold φ__law_product
  rw [fnD_eq (by rfl)]
  have z8 : 8 ≤ sizeLine := by decide
  have rw0 := isM_row hr (k := 0) m0
  have ix0 : atI (r.map rowL) ((0 : Nat) : Int) = some (rowL (rw_ r 0)) := ix_rowL (by rw [hr.len]; exact m0)
  have ix0 : atI (r.map rowL) 0 = some (rowL (rw_ r 0)) := ix0
  have hrl : (r.map rowL).length = m := by rw [List.length_map, hr.len]
  have hr0l : ((rw_ r 0).map D.int).length = n := by rw [List.length_map, rw0.1]
  suffices GotV 2 (fun d => ∃ w, d = .lst (w.map rowL) ∧ IsM (m * (bl * br)) h n w) (dn__law_product K [.va (.lst (l.map rowL)), .va (.lst (r.map rowL)), .un, .un, .un, .un, .un, .un]) by
    obtain ⟨d, e, w, rfl, hw⟩ := this
    exact ⟨w, e, hw⟩
  unfold dn__law_product
  refine GotV.seq1 (δ' := [.va (.lst (l.map rowL)), .va (.lst (r.map rowL)), .tr 1 [], .un, .un, .un, .un, .un]) (by simp) ?_
  refine GotV.seq (R := fun δ' => ∃ (w : Mat) (y3 y4 y5 y6 y7 : Cell), δ' = [.va (.lst (l.map rowL)), .va (.lst (r.map rowL)), .tr 1 (w.map rowL), y3, y4, y5, y6, y7] ∧ IsM (m * (bl * br)) h n w) ?_ ?_
  · refine Nxt.mono (Nxt.for (ds := l.map rowL) (fun ds δ => ∃ (k : Nat) (w : Mat) (y3 y4 y5 y6 y7 : Cell), ds = (l.drop k).map rowL ∧ k ≤ h ∧ δ = [.va (.lst (l.map rowL)), .va (.lst (r.map rowL)), .tr 1 (w.map rowL), y3, y4, y5, y6, y7] ∧ IsM (m * (bl * br)) k n w) (by simp) ?_ ?_) ?_
    · exact ⟨0, [], .un, .un, .un, .un, .un, rfl, Nat.zero_le _, rfl, rfl, fun x hx => by simp at hx, fun x hx => by simp at hx⟩
    · rintro d ds δ ⟨k, w, y3, y4, y5, y6, y7, e1, hk, rfl, hw⟩
      have hkl : k < l.length := by
        rcases Nat.lt_or_ge k l.length with q | q
        · exact q
        · rw [List.drop_eq_nil_of_le q] at e1
          cases e1
      have hkh : k < h := by rw [← hl.len]; exact hkl
      rw [List.drop_eq_getElem_cons hkl] at e1
      have er : l[k] = rw_ l k := by
        have := rw_get hkl
        rw [List.getElem?_eq_getElem hkl] at this
        exact Option.some.inj this
      rw [er] at e1
      cases e1
      obtain ⟨lw, lb⟩ := isM_row hl hkh
      refine ⟨[.va (.lst (l.map rowL)), .va (.lst (r.map rowL)), .tr 1 (w.map rowL), .va (rowL (rw_ l k)), y4, y5, y6, y7], rfl, ?_⟩
      refine Nxt.seq1 (δ' := [.va (.lst (l.map rowL)), .va (.lst (r.map rowL)), .tr 1 (w.map rowL), .va (rowL (rw_ l k)), .ow [], y5, y6, y7]) (by simp) ?_
      refine Nxt.seq (R1 := fun δ' => ∃ (t : List Int) (y5 y6 y7 : Cell), δ' = [.va (.lst (l.map rowL)), .va (.lst (r.map rowL)), .tr 1 (w.map rowL), .va (rowL (rw_ l k)), .ow (t.map .int), y5, y6, y7] ∧ t.length = n ∧ ∀ x ∈ t, x.natAbs ≤ m * (bl * br)) ?_ ?_
      · refine Nxt.forR (n := n) (fun i δ => ∃ (t : List Int) (y5 y6 y7 : Cell), δ = [.va (.lst (l.map rowL)), .va (.lst (r.map rowL)), .tr 1 (w.map rowL), .va (rowL (rw_ l k)), .ow (t.map .int), y5, y6, y7] ∧ t.length = i ∧ ∀ x ∈ t, x.natAbs ≤ m * (bl * br)) (rng1_eq (n := n) (by simp [ix0, rowL, rw0.1]) (by omega)) ⟨[], y5, y6, y7, rfl, rfl, by simp⟩ ?_
        rintro i hi δ ⟨t, y5, y6, y7, rfl, tl, tb⟩
        have e0 : ((0 : Int) + (i : Nat)) = (i : Nat) := by omega
        refine ⟨[.va (.lst (l.map rowL)), .va (.lst (r.map rowL)), .tr 1 (w.map rowL), .va (rowL (rw_ l k)), .ow (t.map .int), .va (.int (i : Nat)), y6, y7], by rw [e0]; rfl, ?_⟩
        refine Nxt.seq1 (set_eq rfl) ?_
        refine Nxt.seq (R1 := fun δ' => ∃ (s : Int) (y7 : Cell), δ' = [.va (.lst (l.map rowL)), .va (.lst (r.map rowL)), .tr 1 (w.map rowL), .va (rowL (rw_ l k)), .ow (t.map .int), .va (.int (i : Nat)), .va (.int s), y7] ∧ s.natAbs ≤ m * (bl * br)) ?_ ?_
        · refine Nxt.forR (n := m) (fun j δ => ∃ (s : Int) (y7 : Cell), δ = [.va (.lst (l.map rowL)), .va (.lst (r.map rowL)), .tr 1 (w.map rowL), .va (rowL (rw_ l k)), .ow (t.map .int), .va (.int (i : Nat)), .va (.int s), y7] ∧ s.natAbs ≤ j * (bl * br)) (rng1_eq (n := m) (by simp [hr.len]) (by omega)) ⟨0, y7, rfl, by simp⟩ ?_
          rintro j hj δ ⟨s, y7, rfl, hs⟩
          have e0 : ((0 : Int) + (j : Nat)) = (j : Nat) := by omega
          refine ⟨[.va (.lst (l.map rowL)), .va (.lst (r.map rowL)), .tr 1 (w.map rowL), .va (rowL (rw_ l k)), .ow (t.map .int), .va (.int (i : Nat)), .va (.int s), .va (.int (j : Nat))], by rw [e0]; rfl, ?_⟩
          have i1 : atI ((rw_ l k).map D.int) (j : Nat) = some (.int (cel (rw_ l k) j)) := ix_cel (by omega)
          have i2 : atI (r.map rowL) (j : Nat) = some (rowL (rw_ r j)) := ix_rowL (by rw [hr.len]; exact hj)
          have i3 : atI ((rw_ r j).map D.int) (i : Nat) = some (.int (cel (rw_ r j) i)) := ix_cel (by rw [(isM_row hr hj).1]; exact hi)
          have c1 := isM_cel hl hkh hj
          have c2 := isM_cel hr hj hi
          have mo : Dn.MulOk (cel (rw_ l k) j) (cel (rw_ r j) i) := mulOk_lt (by omega) (by omega)
          refine Nxt.set ⟨.int (s + cel (rw_ l k) j * cel (rw_ r j) i), by simp [rowL, i1, i2, i3, mo], _, _, rfl, ?_⟩
          have := Nat.mul_le_mul c1 c2
          have e4 := Int.natAbs_mul (cel (rw_ l k) j) (cel (rw_ r j) i)
          rw [Nat.add_mul]
          omega
        · rintro δ ⟨s, y7, rfl, hs⟩
          refine Nxt.at (app_eq (d := .int s) (ds := t.map .int) rfl rfl (by simp; omega)) ⟨t ++ [s], _, _, _, by rw [List.map_append]; rfl, by simp [tl], fun x hx => ?_⟩
          rcases List.mem_append.mp hx with hx | hx
          · exact tb x hx
          · simp at hx
            subst hx
            exact hs
      · rintro δ ⟨t, y5, y6, y7, rfl, tl, tb⟩
        refine ⟨[.va (.lst (l.map rowL)), .va (.lst (r.map rowL)), .tr 1 ((w ++ [t]).map rowL), .va (rowL (rw_ l k)), .un, y5, y6, y7], ?_, k + 1, w ++ [t], _, _, _, _, _, rfl, hkh, rfl, ?_⟩
        · have hwl : w.length < sizeLine := by rw [hw.len]; omega
          simp [hwl, rowL]
        · refine ⟨by simp [hw.len], fun x hx => ?_, fun x hx => ?_⟩
          · rcases List.mem_append.mp hx with hx | hx
            · exact hw.wd x hx
            · simp at hx
              subst hx
              exact tl
          · rcases List.mem_append.mp hx with hx | hx
            · exact hw.bd x hx
            · simp at hx
              subst hx
              exact tb
    · rintro δ ⟨k, w, y3, y4, y5, y6, y7, e1, hk, rfl, hw⟩
      have : k = h := by
        have := congrArg List.length e1
        have := hl.len
        simp at *
        omega
      subst this
      exact ⟨w, y3, y4, y5, y6, y7, rfl, hw⟩
  · rintro δ ⟨w, y3, y4, y5, y6, y7, rfl, hw⟩
    exact ⟨.lst (w.map rowL), by simp, w, rfl, hw⟩
/-- a frame -/
theorem p__law_frame {s : Nat} {rs : List Int} (h0 : 0 < s) (h8 : s ≤ 8) (hr : rs.length = 12) : ∃ w, φ__law_frame K [.int (s : Nat), .lst (rs.map .int)] = .ok (.lst (w.map rowL)) ∧ IsM 81 s s w := by
  unfold φ__law_frame
  rw [fnD_eq (by rfl)]
  have z8 : 8 ≤ sizeLine := by decide
  suffices Got (fun d => ∃ w, d = .lst (w.map rowL) ∧ IsM 81 s s w) (dn__law_frame K [.va (.int (s : Nat)), .va (.lst (rs.map .int)), .un, .un, .un, .un, .un, .un, .un, .un, .un, .un]) by
    obtain ⟨d, e, w, rfl, hw⟩ := this
    exact ⟨w, e, hw⟩
  unfold dn__law_frame
  refine Got.seq (R := fun δ' => ∃ w : Mat, δ' = [.va (.int (s : Nat)), .va (.lst (rs.map .int)), .ow (w.map rowL), .un, .un, .un, .un, .un, .un, .un, .un, .un] ∧ IsM 1 s s w) ?_ ?_
  · obtain ⟨w, e1, e2, e3⟩ := lc_mat (δ := [.va (.int (s : Nat)), .va (.lst (rs.map .int)), .un, .un, .un, .un, .un, .un, .un, .un, .un, .un]) (fun x => x.natAbs ≤ 1) (i := 7) (j := 10) (h := s) (n := s) (fa := dNL rng1 (dCons (dVar 0) dNil)) (fb := dNL rng1 (dCons (dVar 0) dNil)) (f := (dN oInt (dCons (d2 oEq (dVar 7) (dVar 10)) dNil))) (rng1_eq rfl (by omega)) (fun k _ => rng1_eq rfl (by omega)) fun i hi j hj => by
      refine ⟨if (i : Int) = (j : Int) then 1 else 0, by simp, ?_⟩
      split <;> decide
    exact Nxt.setF ⟨_, e1, w, rfl, isM_of e2 e3⟩
  rintro δ ⟨w, rfl, hw⟩
  refine Got.seq (R := fun δ' => ∃ (w : Mat) (y3 y4 y5 y6 y7 y8 y9 y10 y11 : Cell), δ' = [.va (.int (s : Nat)), .va (.lst (rs.map .int)), .ow (w.map rowL), y3, y4, y5, y6, y7, y8, y9, y10, y11] ∧ IsM 81 s s w) ?_ ?_
  · refine Nxt.forR (n := 4) (fun i δ => ∃ (w : Mat) (y3 y4 y5 y6 y7 y8 y9 y10 y11 : Cell), δ = [.va (.int (s : Nat)), .va (.lst (rs.map .int)), .ow (w.map rowL), y3, y4, y5, y6, y7, y8, y9, y10, y11] ∧ IsM (3 ^ i) s s w) (rng1_eq (n := 4) (by
      have d3 : DivOk 3 := by decide
      simp [hr, d3]) (by omega)) ⟨w, _, _, _, _, _, _, _, _, _, rfl, hw⟩ ?_
    rintro i hi δ ⟨w, y3, y4, y5, y6, y7, y8, y9, y10, y11, rfl, hw⟩
    have e0 : ((0 : Int) + (i : Nat)) = (i : Nat) := by omega
    have b27 : 3 ^ i ≤ 27 := by
      obtain rfl | rfl | rfl | rfl : i = 0 ∨ i = 1 ∨ i = 2 ∨ i = 3 := by omega
      all_goals decide
    have b3 : 3 ^ (i + 1) = 3 ^ i * 3 := Nat.pow_succ ..
    refine ⟨[.va (.int (s : Nat)), .va (.lst (rs.map .int)), .ow (w.map rowL), .va (.int (i : Nat)), y4, y5, y6, y7, y8, y9, y10, y11], by rw [e0]; rfl, ?_⟩
    have m1 : Dn.MulOk 3 (i : Int) := mulOk_lt (by decide) (by omega)
    have x0 : atI (rs.map D.int) (3 * (i : Int)) = some (.int (cel rs (3 * i))) := by
      have := ix_cel (r := rs) (c := 3 * i) (by omega)
      rw [← this]
      congr 1
    have x1 : atI (rs.map D.int) (3 * (i : Int) + 1) = some (.int (cel rs (3 * i + 1))) := by
      have := ix_cel (r := rs) (c := 3 * i + 1) (by omega)
      rw [← this]
      congr 1
    have x2 : atI (rs.map D.int) (3 * (i : Int) + 2) = some (.int (cel rs (3 * i + 2))) := by
      have := ix_cel (r := rs) (c := 3 * i + 2) (by omega)
      rw [← this]
      congr 1
    have sp : (0 : Int) < (s : Nat) := by omega
    obtain ⟨p, hp, ep⟩ : ∃ p : Nat, p < s ∧ cel rs (3 * i) % (s : Nat) = (p : Nat) := ⟨(cel rs (3 * i) % (s : Nat)).toNat, by have := Int.emod_lt_of_pos (cel rs (3 * i)) sp; have := Int.emod_nonneg (cel rs (3 * i)) (show ((s : Nat) : Int) ≠ 0 by omega); omega, by have := Int.emod_nonneg (cel rs (3 * i)) (show ((s : Nat) : Int) ≠ 0 by omega); omega⟩
    obtain ⟨q, hq, eq⟩ : ∃ p : Nat, p < s ∧ cel rs (3 * i + 1) % (s : Nat) = (p : Nat) := ⟨(cel rs (3 * i + 1) % (s : Nat)).toNat, by have := Int.emod_lt_of_pos (cel rs (3 * i + 1)) sp; have := Int.emod_nonneg (cel rs (3 * i + 1)) (show ((s : Nat) : Int) ≠ 0 by omega); omega, by have := Int.emod_nonneg (cel rs (3 * i + 1)) (show ((s : Nat) : Int) ≠ 0 by omega); omega⟩
    obtain ⟨t, ht, et⟩ := ix_modL (rs := [1, -1, 2, 1, -2]) (by decide) (cel rs (3 * i + 2))
    have et : atI [D.int 1, .int (-1), .int 2, .int 1, .int (-2)] (cel rs (3 * i + 2) % 5) = some (.int t) := et
    have tb : t.natAbs ≤ 2 := by
      simp at ht
      omega
    refine Nxt.seq1 (δ' := [.va (.int (s : Nat)), .va (.lst (rs.map .int)), .ow (w.map rowL), .va (.int (i : Nat)), .va (.int (p : Nat)), y5, y6, y7, y8, y9, y10, y11]) (set_eq (by simp [m1, x0, sp, h0, ep])) ?_
    refine Nxt.seq1 (δ' := [.va (.int (s : Nat)), .va (.lst (rs.map .int)), .ow (w.map rowL), .va (.int (i : Nat)), .va (.int (p : Nat)), .va (.int (q : Nat)), y6, y7, y8, y9, y10, y11]) (set_eq (by simp [m1, x1, sp, h0, eq])) ?_
    refine Nxt.seq1 (δ' := [.va (.int (s : Nat)), .va (.lst (rs.map .int)), .ow (w.map rowL), .va (.int (i : Nat)), .va (.int (p : Nat)), .va (.int (q : Nat)), .va (.int t), y7, y8, y9, y10, y11]) (set_eq (by simp [m1, x2, et])) ?_
    obtain ⟨pl, pb⟩ := isM_row hw hp
    obtain ⟨ql, qb⟩ := isM_row hw hq
    have ixp : atI (w.map rowL) (p : Nat) = some (rowL (rw_ w p)) := ix_rowL (by rw [hw.len]; exact hp)
    have ixq : atI (w.map rowL) (q : Nat) = some (rowL (rw_ w q)) := ix_rowL (by rw [hw.len]; exact hq)
    by_cases hpq : p = q
    · subst hpq
      refine Nxt.seq1 (δ' := [.va (.int (s : Nat)), .va (.lst (rs.map .int)), .ow (w.map rowL), .va (.int (i : Nat)), .va (.int (p : Nat)), .va (.int (p : Nat)), .va (.int t), y7, y8, y9, y10, y11]) ((if_f (by simp)).trans rfl) ?_
      by_cases h0t : 0 < t
      · refine Nxt.ifT (by simp [h0t]) ?_
        refine Nxt.seq1 (δ' := [.va (.int (s : Nat)), .va (.lst (rs.map .int)), .ow (w.map rowL), .va (.int (i : Nat)), .va (.int (p : Nat)), .va (.int (p : Nat)), .va (.int t), y7, .va (rowL (rw_ w p)), y9, y10, y11]) (set_eq (by simp [ixp])) ?_
        refine Nxt.at (put_eq (k := p) (d := rowL ((rw_ w p).map fun x => 0 - t * x)) (ds := w.map rowL) ?_ rfl rfl (by rw [List.length_map, hw.len]; exact hp)) ⟨w.set p ((rw_ w p).map fun x => 0 - t * x), _, _, _, _, _, _, _, _, _, by rw [List.map_set]; rfl, ?_⟩
        · show ((Res.bind _ _)).bind _ = _
          have it : dItems (dVar 8) [.va (.int (s : Nat)), .va (.lst (rs.map .int)), .ow (w.map rowL), .va (.int (i : Nat)), .va (.int (p : Nat)), .va (.int (p : Nat)), .va (.int t), y7, .va (rowL (rw_ w p)), y9, y10, y11] = .ok ((rw_ w p).map .int) := by simp [rowL]
          rw [it]
          show (dComp _ _ _ _ _).bind _ = _
          rw [dComp_map _ (fun d => match d with | .int x => .int (0 - t * x) | d => d) _ fun d hd => ?_]
          · simp [rowL, List.map_map, Function.comp_def]
          · obtain ⟨x, hx, rfl⟩ := List.mem_map.mp hd
            have := pb x hx
            have mo : Dn.MulOk t x := mulOk_lt (by omega) (by omega)
            exact ⟨[.va (.int (s : Nat)), .va (.lst (rs.map .int)), .ow (w.map rowL), .va (.int (i : Nat)), .va (.int (p : Nat)), .va (.int (p : Nat)), .va (.int t), y7, .va (rowL (rw_ w p)), y9, y10, .va (.int x)], rfl, rfl, by simp [mo]⟩
        · refine (hw.mono (b' := 3 ^ (i + 1)) (by omega)).set p (by simp [pl]) fun x hx => ?_
          obtain ⟨y, hy, rfl⟩ := List.mem_map.mp hx
          have h1 := pb y hy
          have h2 := Nat.mul_le_mul tb h1
          have e4 := Int.natAbs_mul t y
          omega
      · exact Nxt.ifF (by simp [h0t]) (Nxt.skip ⟨w, _, _, _, _, _, _, _, _, _, rfl, hw.mono (by omega)⟩)
    · have hpi : ¬ ((p : Nat) : Int) = (q : Nat) := by omega
      refine Nxt.seq (R1 := fun δ' => ∃ (w : Mat) (y8 y9 y10 : Cell), δ' = [.va (.int (s : Nat)), .va (.lst (rs.map .int)), .ow (w.map rowL), .va (.int (i : Nat)), .va (.int (p : Nat)), .va (.int (q : Nat)), .va (.int t), y7, y8, y9, y10, y11] ∧ IsM (3 ^ (i + 1)) s s w) ?_ ?_
      · refine Nxt.ifT (by simp [hpi]) ?_
        refine Nxt.seq1 (δ' := [.va (.int (s : Nat)), .va (.lst (rs.map .int)), .ow (w.map rowL), .va (.int (i : Nat)), .va (.int (p : Nat)), .va (.int (q : Nat)), .va (.int t), y7, .va (rowL (rw_ w p)), y9, y10, y11]) (set_eq (by simp [ixp])) ?_
        refine Nxt.seq1 (δ' := [.va (.int (s : Nat)), .va (.lst (rs.map .int)), .ow (w.map rowL), .va (.int (i : Nat)), .va (.int (p : Nat)), .va (.int (q : Nat)), .va (.int t), y7, .va (rowL (rw_ w p)), .va (rowL (rw_ w q)), y10, y11]) (set_eq (by simp [ixq])) ?_
        obtain ⟨r, e1, e2, e3⟩ := lst_ex (lc_any (δ := [.va (.int (s : Nat)), .va (.lst (rs.map .int)), .ow (w.map rowL), .va (.int (i : Nat)), .va (.int (p : Nat)), .va (.int (q : Nat)), .va (.int t), y7, .va (rowL (rw_ w p)), .va (rowL (rw_ w q)), y10, y11]) D.int (fun x => x.natAbs ≤ 3 ^ (i + 1)) (i := 10) (n := s) (fa := dNL rng1 (dCons (dVar 0) dNil)) (f := (d2 oAdd (d2 oIx (dVar 8) (dVar 10)) (d2 oMul (dVar 6) (d2 oIx (dVar 9) (dVar 10))))) (rng1_eq rfl (by omega)) fun j hj => by
          have j1 : atI ((rw_ w p).map D.int) (j : Nat) = some (.int (cel (rw_ w p) j)) := ix_cel (by omega)
          have j2 : atI ((rw_ w q).map D.int) (j : Nat) = some (.int (cel (rw_ w q) j)) := ix_cel (by omega)
          have c1 := isM_cel hw hp hj
          have c2 := isM_cel hw hq hj
          have mo : Dn.MulOk t (cel (rw_ w q) j) := mulOk_lt (by omega) (by omega)
          refine ⟨cel (rw_ w p) j + t * cel (rw_ w q) j, by simp [rowL, j1, j2, mo], ?_⟩
          have h2 := Nat.mul_le_mul tb c2
          have e4 := Int.natAbs_mul t (cel (rw_ w q) j)
          omega)
        exact Nxt.at (put_eq (k := p) (d := rowL r) (ds := w.map rowL) e1 rfl rfl (by rw [List.length_map, hw.len]; exact hp)) ⟨w.set p r, _, _, _, by rw [List.map_set]; rfl, (hw.mono (b' := 3 ^ (i + 1)) (by omega)).set p e2 e3⟩
      · rintro δ ⟨w, y8, y9, y10, rfl, hw⟩
        exact Nxt.ifF (by simp [hpi]) (Nxt.skip ⟨w, _, _, _, _, _, _, _, _, _, rfl, hw⟩)
  · rintro δ ⟨w, y3, y4, y5, y6, y7, y8, y9, y10, y11, rfl, hw⟩
    exact Got.ret ⟨_, rfl, w, rfl, hw⟩
end
end Pf

namespace Pf
open PySem PySem.Spec PyProof.Rows L2 Dn
section
variable {Q : D → Prop} {R R1 : Sto → Prop} {g k q : Sto → Out} {p p2 : Sto → Res Bool} {f h : Sto → Res D} {δ δ' : Sto} {n : Nat}
theorem Nxt.ifA (h : ∃ b, p δ = .ok b) (h1 : p δ = .ok true → Nxt R (g δ)) (h2 : p δ = .ok false → Nxt R (q δ)) : Nxt R (dIf p g q δ) := by
  obtain ⟨b, e⟩ := h
  cases b with
  | true => exact .ifT e (h1 e)
  | false => exact .ifF e (h2 e)
theorem and_ex (h1 : ∃ b, p δ = .ok b) (h2 : ∃ b, p2 δ = .ok b) : ∃ b, dAnd p p2 δ = .ok b := by
  obtain ⟨b1, e1⟩ := h1
  obtain ⟨b2, e2⟩ := h2
  exact ⟨_, and_eq e1 e2⟩
theorem or_ex (h1 : ∃ b, p δ = .ok b) (h2 : ∃ b, p2 δ = .ok b) : ∃ b, dOr p p2 δ = .ok b := by
  obtain ⟨b1, e1⟩ := h1
  obtain ⟨b2, e2⟩ := h2
  cases b1 with
  | true =>
    refine ⟨true, ?_⟩
    show (p δ).bind _ = _
    rw [e1]
    rfl
  | false => exact ⟨b2, by
      show (p δ).bind _ = _
      rw [e1]
      exact e2⟩
@[simp] theorem oNe_bl (a b : Bool) : oNe (.bl a) (.bl b) = some (.bl (!decide (a = b))) := rfl
@[simp] theorem oEq_bl (a b : Bool) : oEq (.bl a) (.bl b) = some (.bl (decide (a = b))) := rfl
theorem setA_ix {s a i : Nat} {w : Mat} (hs : δ[s]? = some (.tr 1 (w.map rowL))) (hh : h δ = .ok (.int (i : Nat))) (hi : i < w.length) (ha : s ≠ a) : dSetA a (dNodeIx (dNodeV s) h) δ = .nx (δ.set a (.al s [i])) := by
  have e1 : dNodeV s δ = .ok (s, []) := by simp [hs]
  have e2 : dNodeIx (dNodeV s) h δ = .ok (s, [i]) := by
    show (dNodeV s δ).bind _ = _
    rw [e1]
    show (h δ).bind _ = _
    rw [hh]
    have e3 : δ.tree s = some (1, w.map rowL) := by unfold Sto.tree; rw [hs]
    show Res.opt ((δ.tree s).bind _) = _
    rw [e3]
    have e4 : ixN w.length (i : Nat) = some i := ixN_in hi
    simp [e4]
  show (dNodeIx (dNodeV s) h δ).out _ = _
  rw [e2]
  exact if_pos ha
theorem putT_al {gn : Sto → Res (Nat × List Nat)} {s i j : Nat} {x : Int} {w : Mat} (hs : δ[s]? = some (.tr 1 (w.map rowL))) (hg : gn δ = .ok (s, [i])) (hh : h δ = .ok (.int (j : Nat))) (hf : f δ = .ok (.int x)) (hi : i < w.length) (hj : j < (rw_ w i).length) :
    dPutT gn h f δ = .nx (δ.set s (.tr 1 ((w.set i ((rw_ w i).set j x)).map rowL))) := by
  show (f δ).out _ = _
  rw [hf]
  show (gn δ).out _ = _
  rw [hg]
  show (h δ).out _ = _
  rw [hh]
  have e3 : δ.tree s = some (1, w.map rowL) := by unfold Sto.tree; rw [hs]
  have e5 : (w.map rowL)[i]? = some (.lst ((rw_ w i).map .int)) := by rw [List.getElem?_map, rw_get hi]; rfl
  have e6 : getL [i] (w.map rowL) = some ((rw_ w i).map .int) := by
    show (match (w.map rowL)[i]? with | some (.lst es) => getL [] es | _ => none) = _
    rw [e5]
    rfl
  have e4 : ixN ((rw_ w i).map D.int).length (j : Nat) = some j := ixN_in (by simpa using hj)
  show (Res.opt ((δ.tree s).bind _)).out _ = _
  rw [e3]
  have e8 : (if ([i] : List Nat).length = 1 then (getL [i] (w.map rowL)).bind (fun es => (ixN es.length (j : Nat)).map fun m => ((1, w.map rowL), es.set m (D.int x))) else none) = some ((1, w.map rowL), ((rw_ w i).map D.int).set j (.int x)) := by
    rw [if_pos (show ([i] : List Nat).length = 1 from rfl), e6]
    show (ixN ((rw_ w i).map D.int).length (j : Nat)).map _ = _
    rw [e4]
    rfl
  refine (congrArg (fun z => (Res.opt z).out _) e8).trans ?_
  show Out.nx (δ.set s (.tr 1 (putL [i] (w.map rowL) (((rw_ w i).map D.int).set j (.int x))))) = _
  have e7 : putL [i] (w.map rowL) (((rw_ w i).map D.int).set j (.int x)) = (w.set i ((rw_ w i).set j x)).map rowL := by
    show (match (w.map rowL)[i]? with | some (.lst es) => (w.map rowL).set i (.lst (putL [] es _)) | _ => w.map rowL) = _
    rw [e5, List.map_set]
    show (w.map rowL).set i (.lst (((rw_ w i).map D.int).set j (.int x))) = _
    rw [rowL, List.map_set]
  rw [e7]
end
theorem IsM.put {b h n : Nat} {w : Mat} (m : IsM b h n w) {i j : Nat} {x : Int} (hi : i < h) (hx : x.natAbs ≤ b) : IsM b h n (w.set i ((rw_ w i).set j x)) := by
  obtain ⟨h1, h2⟩ := isM_row m hi
  refine m.set i (by rw [List.length_set, h1]) fun y hy => ?_
  rcases mem_set_or hy with q | rfl
  · exact h2 y q
  · exact hx
section
variable {K : PySem.W.Frag}
theorem p__law_turned {rs : List Int} {a s : Nat} (hr : 0 < rs.length) (hr2 : rs.length ≤ 100) (ha : a ≤ 1000) (h0 : 0 < s) (h8 : s ≤ 8) : ∃ w, φ__law_turned K [.lst (rs.map .int), .int (a : Nat), .int (s : Nat)] = .ok (.lst (w.map rowL)) ∧ IsM 2 s s w := by
  unfold φ__law_turned
  rw [fnD_eq (by rfl)]
  have z8 : 8 ≤ sizeLine := by decide
  suffices Got (fun d => ∃ w, d = .lst (w.map rowL) ∧ IsM 2 s s w) (dn__law_turned K [.va (.lst (rs.map .int)), .va (.int (a : Nat)), .va (.int (s : Nat)), .un, .un, .un, .un, .un, .un]) by
    obtain ⟨d, e, w, rfl, hw⟩ := this
    exact ⟨w, e, hw⟩
  unfold dn__law_turned
  refine Got.seq (R := fun δ' => ∃ w : Mat, δ' = [.va (.lst (rs.map .int)), .va (.int (a : Nat)), .va (.int (s : Nat)), .tr 1 (w.map rowL), .un, .un, .un, .un, .un] ∧ IsM 2 s s w) ?_ ?_
  · obtain ⟨w, e1, e2, e3⟩ := lst_ex (lc_mat (δ := [.va (.lst (rs.map .int)), .va (.int (a : Nat)), .va (.int (s : Nat)), .un, .un, .un, .un, .un, .un]) (fun x => x.natAbs ≤ 2) (i := 4) (j := 6) (h := s) (n := s) (fa := dNL rng1 (dCons (dVar 2) dNil)) (fb := dNL rng1 (dCons (dVar 2) dNil)) (f := dK (.int 0)) (rng1_eq rfl (by omega)) (fun k _ => rng1_eq rfl (by omega)) fun i hi j hj => ⟨0, rfl, by decide⟩)
    refine ⟨_, ?_, w, rfl, isM_of e2 e3⟩
    show (dLst _ _).out _ = _
    rw [e1]
    rfl
  rintro δ ⟨w, rfl, hw⟩
  refine Got.seq (R := fun δ' => ∃ (w : Mat) (y4 y5 y6 y7 y8 : Cell), δ' = [.va (.lst (rs.map .int)), .va (.int (a : Nat)), .va (.int (s : Nat)), .tr 1 (w.map rowL), y4, y5, y6, y7, y8] ∧ IsM 2 s s w) ?_ ?_
  · refine Nxt.forR (n := s) (fun i δ => ∃ (w : Mat) (y4 y5 y6 y7 y8 : Cell), δ = [.va (.lst (rs.map .int)), .va (.int (a : Nat)), .va (.int (s : Nat)), .tr 1 (w.map rowL), y4, y5, y6, y7, y8] ∧ IsM 2 s s w) (rng1_eq (n := s) rfl (by omega)) ⟨w, _, _, _, _, _, rfl, hw⟩ ?_
    rintro i hi δ ⟨w, y4, y5, y6, y7, y8, rfl, hw⟩
    have e0 : ((0 : Int) + (i : Nat)) = (i : Nat) := by omega
    refine ⟨[.va (.lst (rs.map .int)), .va (.int (a : Nat)), .va (.int (s : Nat)), .tr 1 (w.map rowL), .va (.int (i : Nat)), y5, y6, y7, y8], by rw [e0]; rfl, ?_⟩
    refine Nxt.seq1 (δ' := [.va (.lst (rs.map .int)), .va (.int (a : Nat)), .va (.int (s : Nat)), .tr 1 (w.map rowL), .va (.int (i : Nat)), .al 3 [i], y6, y7, y8]) (setA_ix rfl rfl (by rw [hw.len]; exact hi) (by decide)) ?_
    refine Nxt.mono (Nxt.forR (lo := ((i + 1 : Nat) : Int)) (n := s - (i + 1)) (fun _ δ => ∃ (w : Mat) (y6 y7 y8 : Cell), δ = [.va (.lst (rs.map .int)), .va (.int (a : Nat)), .va (.int (s : Nat)), .tr 1 (w.map rowL), .va (.int (i : Nat)), .al 3 [i], y6, y7, y8] ∧ IsM 2 s s w) (rng2_eq (i := i + 1) (n := s) (by simp) rfl (by omega) (by omega)) ⟨w, _, _, _, rfl, hw⟩ ?_) ?_
    · rintro j hj δ ⟨w, y6, y7, y8, rfl, hw⟩
      have hj2 : i + 1 + j < s := by omega
      have e0 : (((i + 1 : Nat) : Int) + (j : Nat)) = (i + 1 + j : Nat) := by omega
      rw [e0]
      generalize i + 1 + j = jj at *
      have m1 : Dn.MulOk 7 (i : Int) := mulOk_lt (by decide) (by omega)
      have m2 : Dn.MulOk 3 (jj : Int) := mulOk_lt (by decide) (by omega)
      obtain ⟨x, _, ex⟩ := ix_modL hr ((a : Int) + 7 * (i : Int) + 3 * (jj : Int))
      obtain ⟨y, hy, ey⟩ := ix_modL (rs := [0, 1, -1, 2, 0, 1, 1]) (by decide) x
      have ey : atI [D.int 0, .int 1, .int (-1), .int 2, .int 0, .int 1, .int 1] (x % 7) = some (.int y) := ey
      have yb : y.natAbs ≤ 2 := by
        simp at hy
        omega
      refine ⟨[.va (.lst (rs.map .int)), .va (.int (a : Nat)), .va (.int (s : Nat)), .tr 1 (w.map rowL), .va (.int (i : Nat)), .al 3 [i], .va (.int (jj : Nat)), y7, y8], rfl, ?_⟩
      refine Nxt.seq1 (δ' := [.va (.lst (rs.map .int)), .va (.int (a : Nat)), .va (.int (s : Nat)), .tr 1 (w.map rowL), .va (.int (i : Nat)), .al 3 [i], .va (.int (jj : Nat)), .va (.int y), y8]) (set_eq (by simp [m1, m2, ex, ey, hr])) ?_
      have hw2 := hw.put (i := i) (j := jj) hi yb
      refine Nxt.seq1 (putT_al (s := 3) (i := i) (j := jj) (x := y) (w := w) rfl rfl rfl rfl (by rw [hw.len]; exact hi) (by rw [(isM_row hw hi).1]; exact hj2)) ?_
      generalize w.set i ((rw_ w i).set jj y) = w2 at *
      refine Nxt.seq1 (δ' := [.va (.lst (rs.map .int)), .va (.int (a : Nat)), .va (.int (s : Nat)), .tr 1 (w2.map rowL), .va (.int (i : Nat)), .al 3 [i], .va (.int (jj : Nat)), .va (.int y), .al 3 [jj]]) (setA_ix (w := w2) rfl rfl (by rw [hw2.len]; exact hj2) (by decide)) ?_
      exact Nxt.at (putT_al (s := 3) (i := jj) (j := i) (x := 0 - y) (w := w2) rfl rfl rfl (by simp) (by rw [hw2.len]; exact hj2) (by rw [(isM_row hw2 hj2).1]; exact hi)) ⟨_, _, _, _, rfl, hw2.put (j := i) hj2 (by omega)⟩
    · rintro δ ⟨w, y6, y7, y8, rfl, hw⟩
      exact ⟨w, _, _, _, _, _, rfl, hw⟩
  · rintro δ ⟨w, y4, y5, y6, y7, y8, rfl, hw⟩
    exact Got.ret ⟨_, rfl, w, rfl, hw⟩
/-- the cell of the table in the making -/
def C5 (k : Nat) (w : Mat) (c : Cell) : Prop := c = .tr 1 (w.map rowL) ∨ ((c = .va (.lst (w.map rowL)) ∨ c = .ow (w.map rowL)) ∧ k ≠ 10)
theorem p__law_made {k t h n : Nat} {rs : List Int} (hk : k < 12) (ht : t < 6) (hr : rs.length = 40) (hb : ∀ x ∈ rs, x.natAbs < 7) (h0 : 0 < h) (h4 : h ≤ 4) (n0 : 0 < n) (n4 : n ≤ 4) :
    ∃ w, φ__law_made K [.int (k : Nat), .int (t : Nat), .lst (rs.map .int), .int (h : Nat), .int (n : Nat)] = .ok (.lst (w.map rowL)) ∧ IsM 4 h n w := by
  unfold φ__law_made
  rw [fnD_eq (by rfl)]
  have z8 : 8 ≤ sizeLine := by decide
  suffices Got (fun d => ∃ w, d = .lst (w.map rowL) ∧ IsM 4 h n w) (dn__law_made K [.va (.int (k : Nat)), .va (.int (t : Nat)), .va (.lst (rs.map .int)), .va (.int (h : Nat)), .va (.int (n : Nat)), .un, .un, .un, .un, .un, .un, .un]) by
    obtain ⟨d, e, w, rfl, hw⟩ := this
    exact ⟨w, e, hw⟩
  unfold dn__law_made
  have kc : k = 0 ∨ k = 1 ∨ k = 2 ∨ k = 3 ∨ k = 4 ∨ k = 5 ∨ k = 6 ∨ k = 7 ∨ k = 8 ∨ k = 9 ∨ k = 10 ∨ k = 11 := by omega
  have in1 : ∃ b, oIn (.int (k : Nat)) (.lst [.int 2, .int 3, .int 4, .int 5]) = some (.bl b) := by
    rcases kc with rfl | rfl | rfl | rfl | rfl | rfl | rfl | rfl | rfl | rfl | rfl | rfl <;> exact ⟨_, rfl⟩
  have in2 : oIn (.int (k : Nat)) (.lst [.int 6, .int 7]) = some (.bl (decide (k = 6 ∨ k = 7))) := by
    rcases kc with rfl | rfl | rfl | rfl | rfl | rfl | rfl | rfl | rfl | rfl | rfl | rfl <;> rfl
  have hp : (0 : Int) < (h : Nat) := by omega
  have np : (0 : Int) < (n : Nat) := by omega
  obtain ⟨w, e1, hw⟩ := p__law_small (K := K) (rs := rs) (a := 13 * t) (h := h) (n := n) (by omega) (by omega) (by omega) (by omega) (by omega)
  have e13 : ((13 * t : Nat) : Int) = 13 * (t : Int) := by omega
  rw [e13] at e1
  have m13 : Dn.MulOk 13 (t : Int) := mulOk_lt (by decide) (by omega)
  refine Got.seq1 (δ' := [.va (.int (k : Nat)), .va (.int (t : Nat)), .va (.lst (rs.map .int)), .va (.int (h : Nat)), .va (.int (n : Nat)), .tr 1 (w.map rowL), .un, .un, .un, .un, .un, .un]) (by simp [m13, e1]) ?_
  have x5 : atI (rs.map D.int) 5 = some (.int (cel rs 5)) := ix_cel (c := 5) (by omega)
  have x6 : atI (rs.map D.int) 6 = some (.int (cel rs 6)) := ix_cel (c := 6) (by omega)
  refine Got.seq (R := fun δ' => ∃ (w : Mat) (y6 y7 y8 y10 y11 : Cell), δ' = [.va (.int (k : Nat)), .va (.int (t : Nat)), .va (.lst (rs.map .int)), .va (.int (h : Nat)), .va (.int (n : Nat)), .tr 1 (w.map rowL), y6, y7, y8, .un, y10, y11] ∧ IsM 2 h n w) ?_ ?_
  · refine Nxt.ifA (by obtain ⟨b, e⟩ := in1; exact ⟨b, by simp [e]⟩) (fun _ => ?_) fun _ => Nxt.skip ⟨w, _, _, _, _, _, rfl, hw⟩
    refine Nxt.seq1 (set_eq (d := .int (1 + cel rs 5 % (h : Nat))) (by simp [x5, hp, h0])) ?_
    refine Nxt.seq1 (set_eq (d := .int (1 + cel rs 6 % (n : Nat))) (by simp [x6, np, n0])) ?_
    generalize 1 + cel rs 5 % (h : Nat) = u
    generalize 1 + cel rs 6 % (n : Nat) = v
    refine Nxt.mono (Nxt.forR (n := h) (fun i δ => ∃ (w : Mat) (y8 y10 y11 : Cell), δ = [.va (.int (k : Nat)), .va (.int (t : Nat)), .va (.lst (rs.map .int)), .va (.int (h : Nat)), .va (.int (n : Nat)), .tr 1 (w.map rowL), .va (.int u), .va (.int v), y8, .un, y10, y11] ∧ IsM 2 h n w) (rng1_eq (n := h) rfl (by omega)) ⟨w, _, _, _, rfl, hw⟩ ?_) ?_
    · rintro i hi δ ⟨w, y8, y10, y11, rfl, hw⟩
      have e0 : ((0 : Int) + (i : Nat)) = (i : Nat) := by omega
      refine ⟨[.va (.int (k : Nat)), .va (.int (t : Nat)), .va (.lst (rs.map .int)), .va (.int (h : Nat)), .va (.int (n : Nat)), .tr 1 (w.map rowL), .va (.int u), .va (.int v), .va (.int (i : Nat)), .un, y10, y11], by rw [e0]; rfl, ?_⟩
      refine Nxt.seq1 (δ' := [.va (.int (k : Nat)), .va (.int (t : Nat)), .va (.lst (rs.map .int)), .va (.int (h : Nat)), .va (.int (n : Nat)), .tr 1 (w.map rowL), .va (.int u), .va (.int v), .va (.int (i : Nat)), .un, .al 5 [i], y11]) (setA_ix rfl rfl (by rw [hw.len]; exact hi) (by decide)) ?_
      refine Nxt.mono (Nxt.forR (n := n) (fun j δ => ∃ (w : Mat) (y11 : Cell), δ = [.va (.int (k : Nat)), .va (.int (t : Nat)), .va (.lst (rs.map .int)), .va (.int (h : Nat)), .va (.int (n : Nat)), .tr 1 (w.map rowL), .va (.int u), .va (.int v), .va (.int (i : Nat)), .un, .al 5 [i], y11] ∧ IsM 2 h n w) (rng1_eq (n := n) rfl (by omega)) ⟨w, _, rfl, hw⟩ ?_) ?_
      · rintro j hj δ ⟨w, y11, rfl, hw⟩
        have e0 : ((0 : Int) + (j : Nat)) = (j : Nat) := by omega
        refine ⟨[.va (.int (k : Nat)), .va (.int (t : Nat)), .va (.lst (rs.map .int)), .va (.int (h : Nat)), .va (.int (n : Nat)), .tr 1 (w.map rowL), .va (.int u), .va (.int v), .va (.int (i : Nat)), .un, .al 5 [i], .va (.int (j : Nat))], by rw [e0]; rfl, ?_⟩
        refine Nxt.ifA (and_ex ⟨_, by simp; rfl⟩ ⟨_, by simp; rfl⟩) (fun _ => ?_) fun _ => Nxt.skip ⟨w, _, rfl, hw⟩
        exact Nxt.at (putT_al (s := 5) (i := i) (j := j) (x := 0) (w := w) rfl rfl rfl rfl (by rw [hw.len]; exact hi) (by rw [(isM_row hw hi).1]; exact hj)) ⟨_, _, rfl, hw.put (j := j) hi (by decide)⟩
      · rintro δ ⟨w, y11, rfl, hw⟩
        exact ⟨w, _, _, _, rfl, hw⟩
    · rintro δ ⟨w, y8, y10, y11, rfl, hw⟩
      exact ⟨w, _, _, _, _, _, rfl, hw⟩
  rintro δ ⟨w, y6, y7, y8, y10, y11, rfl, hw⟩
  refine Got.seq (R := fun δ' => ∃ (w : Mat) (c : Cell), δ' = [.va (.int (k : Nat)), .va (.int (t : Nat)), .va (.lst (rs.map .int)), .va (.int (h : Nat)), .va (.int (n : Nat)), c, y6, y7, y8, .un, y10, y11] ∧ IsM 2 h n w ∧ C5 k w c) ?_ ?_
  · refine Nxt.ifA (and_ex ⟨_, by simp [in2]; rfl⟩ ⟨_, by simp; rfl⟩) (fun hc => ?_) fun _ => Nxt.skip ⟨w, _, rfl, hw, .inl rfl⟩
    have hc2 : (k = 6 ∨ k = 7) ∧ h = n := by
      rw [and_eq (b1 := decide (k = 6 ∨ k = 7)) (b2 := decide ((h : Int) = (n : Int))) (by simp [in2]) (by simp)] at hc
      have hc := Bool.and_eq_true_iff.mp (by injection hc)
      have q2 := of_decide_eq_true hc.2
      exact ⟨of_decide_eq_true hc.1, by omega⟩
    obtain ⟨hk67, rfl⟩ := hc2
    obtain ⟨w2, e2, hw2⟩ := p__law_turned (K := K) (rs := rs) (a := 9 * t) (s := h) (by omega) (by omega) (by omega) (by omega) (by omega)
    have e9 : ((9 * t : Nat) : Int) = 9 * (t : Int) := by omega
    rw [e9] at e2
    have m9 : Dn.MulOk 9 (t : Int) := mulOk_lt (by decide) (by omega)
    exact Nxt.set ⟨.lst (w2.map rowL), by simp [m9, e2], w2, _, rfl, hw2, .inr ⟨.inl rfl, by omega⟩⟩
  rintro δ ⟨w, c, rfl, hw, hc⟩
  have hfz : ∀ (w : Mat) (c y6 y7 y8 y9 y10 y11 : Cell), C5 k w c → ∃ z6 z7 z8 z9 z10 z11, fz 5 [.va (.int (k : Nat)), .va (.int (t : Nat)), .va (.lst (rs.map .int)), .va (.int (h : Nat)), .va (.int (n : Nat)), c, y6, y7, y8, y9, y10, y11] = [.va (.int (k : Nat)), .va (.int (t : Nat)), .va (.lst (rs.map .int)), .va (.int (h : Nat)), .va (.int (n : Nat)), .va (.lst (w.map rowL)), z6, z7, z8, z9, z10, z11] := by
    intro w c y6 y7 y8 y9 y10 y11 hc
    rcases hc with rfl | ⟨rfl | rfl, _⟩
    · exact ⟨_, _, _, _, _, _, rfl⟩
    · exact ⟨_, _, _, _, _, _, rfl⟩
    · exact ⟨_, _, _, _, _, _, rfl⟩
  refine Got.seq (R := fun δ' => ∃ (w : Mat) (c y6 y7 y8 y9 y10 y11 : Cell), δ' = [.va (.int (k : Nat)), .va (.int (t : Nat)), .va (.lst (rs.map .int)), .va (.int (h : Nat)), .va (.int (n : Nat)), c, y6, y7, y8, y9, y10, y11] ∧ IsM 4 h n w ∧ C5 k w c) ?_ ?_
  · by_cases hk8 : k = 8
    · refine Nxt.ifT (by simp [hk8]) ?_
      obtain ⟨z6, z7, z8, z9, z10, z11, e⟩ := hfz w c y6 y7 y8 .un y10 y11 hc
      show Nxt _ (dSetF 5 _ (fz 5 _))
      rw [e]
      have hr0 := isM_row hw (k := 0) h0
      have ix0 : atI (w.map rowL) ((0 : Nat) : Int) = some (rowL (rw_ w 0)) := ix_rowL (by rw [hw.len]; exact h0)
      have ix0 : atI (w.map rowL) 0 = some (rowL (rw_ w 0)) := ix0
      obtain ⟨w2, e1, e2, e3⟩ := lc_mat (δ := [.va (.int (k : Nat)), .va (.int (t : Nat)), .va (.lst (rs.map .int)), .va (.int (h : Nat)), .va (.int (n : Nat)), .va (.lst (w.map rowL)), z6, z7, z8, z9, z10, z11]) (fun x => x.natAbs ≤ 4) (i := 8) (j := 11) (h := h) (n := n) (fa := dNL rng1 (dCons (dVar 3) dNil)) (fb := dNL rng1 (dCons (dVar 4) dNil)) (f := (d2 oMul (d2 oIx (d2 oIx (dVar 5) (dVar 8)) (dK (.int 0))) (d2 oIx (d2 oIx (dVar 5) (dK (.int 0))) (dVar 11)))) (rng1_eq rfl (by omega)) (fun k _ => rng1_eq rfl (by omega)) fun i hi j hj => by
        have i1 : atI (w.map rowL) (i : Nat) = some (rowL (rw_ w i)) := ix_rowL (by rw [hw.len]; exact hi)
        have i2 : atI ((rw_ w i).map D.int) ((0 : Nat) : Int) = some (.int (cel (rw_ w i) 0)) := ix_cel (by rw [(isM_row hw hi).1]; exact n0)
        have i2 : atI ((rw_ w i).map D.int) 0 = some (.int (cel (rw_ w i) 0)) := i2
        have i3 : atI ((rw_ w 0).map D.int) (j : Nat) = some (.int (cel (rw_ w 0) j)) := ix_cel (by rw [hr0.1]; exact hj)
        have c1 := isM_cel hw hi n0
        have c2 := isM_cel hw h0 hj
        have mo : Dn.MulOk (cel (rw_ w i) 0) (cel (rw_ w 0) j) := mulOk_lt (by omega) (by omega)
        refine ⟨cel (rw_ w i) 0 * cel (rw_ w 0) j, by simp [rowL, i1, i2, i3, ix0, mo], ?_⟩
        have := Nat.mul_le_mul c1 c2
        rw [Int.natAbs_mul]
        omega
      exact Nxt.setF ⟨_, e1, w2, _, _, _, _, _, _, _, rfl, isM_of e2 e3, .inr ⟨.inr rfl, by omega⟩⟩
    · exact Nxt.ifF (by simp; omega) (Nxt.skip ⟨w, c, _, _, _, _, _, _, rfl, hw.mono (by decide), hc⟩)
  rintro δ ⟨w, c, y6, y7, y8, y9, y10, y11, rfl, hw, hc⟩
  refine Got.seq (R := fun δ' => ∃ (w : Mat) (c y6 y7 y8 y9 y10 y11 : Cell), δ' = [.va (.int (k : Nat)), .va (.int (t : Nat)), .va (.lst (rs.map .int)), .va (.int (h : Nat)), .va (.int (n : Nat)), c, y6, y7, y8, y9, y10, y11] ∧ IsM 4 h n w ∧ C5 k w c) ?_ ?_
  · by_cases hk9 : k = 9
    · refine Nxt.ifT (by simp [hk9]) ?_
      have q1 : atI (rs.map D.int) (t : Nat) = some (.int (cel rs t)) := ix_cel (by omega)
      have q2 : atI (rs.map D.int) ((t : Int) + 1) = some (.int (cel rs (t + 1))) := ix_cel (c := t + 1) (by omega)
      have b1 := hb _ (cel_mem (r := rs) (c := t) (by omega))
      have m1 : Dn.MulOk (cel rs t) 7 := mulOk_lt (by omega) (by decide)
      have m2 : Dn.MulOk (h : Int) (n : Int) := mulOk_lt (by omega) (by omega)
      have hn : (0 : Int) < (h : Int) * (n : Int) := Int.mul_pos hp np
      refine Nxt.seq1 (set_eq (d := .int ((cel rs t * 7 + cel rs (t + 1) + (t : Int)) % ((h : Int) * (n : Int)))) (by simp [q1, q2, m1, m2, hn])) ?_
      generalize (cel rs t * 7 + cel rs (t + 1) + (t : Int)) % ((h : Int) * (n : Int)) = pl
      obtain ⟨w2, e1, e2, e3⟩ := lc_mat (δ := [.va (.int (k : Nat)), .va (.int (t : Nat)), .va (.lst (rs.map .int)), .va (.int (h : Nat)), .va (.int (n : Nat)), c, y6, y7, y8, .va (.int pl), y10, y11]) (fun x => x.natAbs ≤ 4) (i := 8) (j := 11) (h := h) (n := n) (fa := dNL rng1 (dCons (dVar 3) dNil)) (fb := dNL rng1 (dCons (dVar 4) dNil)) (f := (dN oInt (dCons (d2 oEq (d2 oAdd (d2 oMul (dVar 8) (dVar 4)) (dVar 11)) (dVar 9)) dNil))) (rng1_eq rfl (by omega)) (fun k _ => rng1_eq rfl (by omega)) fun i hi j hj => by
        have mo : Dn.MulOk (i : Int) (n : Int) := mulOk_lt (by omega) (by omega)
        refine ⟨if (i : Int) * (n : Int) + (j : Int) = pl then 1 else 0, by simp [mo], ?_⟩
        split <;> decide
      exact Nxt.setF ⟨_, e1, w2, _, _, _, _, _, _, _, rfl, isM_of e2 e3, .inr ⟨.inr rfl, by omega⟩⟩
    · exact Nxt.ifF (by simp; omega) (Nxt.skip ⟨w, c, _, _, _, _, _, _, rfl, hw, hc⟩)
  rintro δ ⟨w, c, y6, y7, y8, y9, y10, y11, rfl, hw, hc⟩
  refine Got.seq (R := fun δ' => ∃ (w : Mat) (c y6 y7 y8 y9 y10 y11 : Cell), δ' = [.va (.int (k : Nat)), .va (.int (t : Nat)), .va (.lst (rs.map .int)), .va (.int (h : Nat)), .va (.int (n : Nat)), c, y6, y7, y8, y9, y10, y11] ∧ IsM 4 h n w ∧ C5 k w c) ?_ ?_
  · by_cases hk10 : k = 10
    · refine Nxt.ifT (by simp [hk10]) ?_
      obtain rfl : c = .tr 1 (w.map rowL) := hc.elim (fun e => e) fun e => absurd hk10 e.2
      have dv2 : DivOk 2 := by decide
      refine Nxt.mono (Nxt.forR (n := h) (fun i δ => ∃ (w : Mat) (y8 y10 y11 : Cell), δ = [.va (.int (k : Nat)), .va (.int (t : Nat)), .va (.lst (rs.map .int)), .va (.int (h : Nat)), .va (.int (n : Nat)), .tr 1 (w.map rowL), y6, y7, y8, y9, y10, y11] ∧ IsM 4 h n w) (rng1_eq (n := h) rfl (by omega)) ⟨w, _, _, _, rfl, hw⟩ ?_) ?_
      · rintro i hi δ ⟨w, y8, y10, y11, rfl, hw⟩
        have e0 : ((0 : Int) + (i : Nat)) = (i : Nat) := by omega
        refine ⟨[.va (.int (k : Nat)), .va (.int (t : Nat)), .va (.lst (rs.map .int)), .va (.int (h : Nat)), .va (.int (n : Nat)), .tr 1 (w.map rowL), y6, y7, .va (.int (i : Nat)), y9, y10, y11], by rw [e0]; rfl, ?_⟩
        refine Nxt.seq1 (δ' := [.va (.int (k : Nat)), .va (.int (t : Nat)), .va (.lst (rs.map .int)), .va (.int (h : Nat)), .va (.int (n : Nat)), .tr 1 (w.map rowL), y6, y7, .va (.int (i : Nat)), y9, .al 5 [i], y11]) (setA_ix rfl rfl (by rw [hw.len]; exact hi) (by decide)) ?_
        refine Nxt.mono (Nxt.forR (n := n) (fun j δ => ∃ (w : Mat) (y11 : Cell), δ = [.va (.int (k : Nat)), .va (.int (t : Nat)), .va (.lst (rs.map .int)), .va (.int (h : Nat)), .va (.int (n : Nat)), .tr 1 (w.map rowL), y6, y7, .va (.int (i : Nat)), y9, .al 5 [i], y11] ∧ IsM 4 h n w) (rng1_eq (n := n) rfl (by omega)) ⟨w, _, rfl, hw⟩ ?_) ?_
        · rintro j hj δ ⟨w, y11, rfl, hw⟩
          have e0 : ((0 : Int) + (j : Nat)) = (j : Nat) := by omega
          refine ⟨[.va (.int (k : Nat)), .va (.int (t : Nat)), .va (.lst (rs.map .int)), .va (.int (h : Nat)), .va (.int (n : Nat)), .tr 1 (w.map rowL), y6, y7, .va (.int (i : Nat)), y9, .al 5 [i], .va (.int (j : Nat))], by rw [e0]; rfl, ?_⟩
          refine Nxt.ifA (or_ex (by simp [dv2]; exact Classical.em _) (by simp [dv2])) (fun _ => ?_) fun _ => Nxt.skip ⟨w, _, rfl, hw⟩
          exact Nxt.at (putT_al (s := 5) (i := i) (j := j) (x := 0) (w := w) rfl rfl rfl rfl (by rw [hw.len]; exact hi) (by rw [(isM_row hw hi).1]; exact hj)) ⟨_, _, rfl, hw.put (j := j) hi (by decide)⟩
        · rintro δ ⟨w, y11, rfl, hw⟩
          exact ⟨w, _, _, _, rfl, hw⟩
      · rintro δ ⟨w, y8, y10, y11, rfl, hw⟩
        exact ⟨w, _, _, _, _, _, _, _, rfl, hw, .inl rfl⟩
    · exact Nxt.ifF (by simp; omega) (Nxt.skip ⟨w, c, _, _, _, _, _, _, rfl, hw, hc⟩)
  rintro δ ⟨w, c, y6, y7, y8, y9, y10, y11, rfl, hw, hc⟩
  obtain ⟨z6, z7, z8, z9, z10, z11, e⟩ := hfz w c y6 y7 y8 y9 y10 y11 hc
  show Got _ (dRet (dVar 5) (fz 5 _))
  rw [e]
  exact Got.ret ⟨_, rfl, w, rfl, hw⟩
end
end Pf

namespace Pf
open PySem PySem.Spec PyProof.Rows L2 Dn
def matL (w : Mat) : D := .lst (w.map rowL)
def mt (ws : List Mat) (i : Nat) : Mat := ws.getD i []
theorem mt_get {ws : List Mat} {i : Nat} (h : i < ws.length) : ws[i]? = some (mt ws i) := by
  unfold mt
  rw [List.getD_eq_getElem?_getD, List.getElem?_eq_getElem h]
  rfl
theorem mt_mem {ws : List Mat} {i : Nat} (h : i < ws.length) : mt ws i ∈ ws := List.mem_of_getElem? (mt_get h)
def IsK (b h n : Nat) (ws : List Mat) : Prop := ∀ w ∈ ws, IsM b h n w
theorem IsK.set {b h n : Nat} {ws : List Mat} (k : IsK b h n ws) (i : Nat) {w : Mat} (hw : IsM b h n w) : IsK b h n (ws.set i w) := fun x hx => by
  rcases mem_set_or hx with q | rfl
  · exact k x q
  · exact hw
theorem IsK.mono {b b' h n : Nat} {ws : List Mat} (k : IsK b h n ws) (hb : b ≤ b') : IsK b' h n ws := fun w hw => (k w hw).mono hb
section
variable {δ : Sto} {f h h1 h2 : Sto → Res D} {gn : Sto → Res (Nat × List Nat)} {ws : List Mat} {s a i j l : Nat} {x : Int}
theorem setA2 (hs : δ[s]? = some (.tr 2 (ws.map matL))) (e1 : h1 δ = .ok (.int (i : Nat))) (e2 : h2 δ = .ok (.int (j : Nat))) (hi : i < ws.length) (hj : j < (mt ws i).length) (ha : s ≠ a) :
    dSetA a (dNodeIx (dNodeIx (dNodeV s) h1) h2) δ = .nx (δ.set a (.al s [i, j])) := by
  have q1 : dNodeV s δ = .ok (s, []) := by simp [hs]
  have e3 : δ.tree s = some (2, ws.map matL) := by unfold Sto.tree; rw [hs]
  have q2 : dNodeIx (dNodeV s) h1 δ = .ok (s, [i]) := by
    show (dNodeV s δ).bind _ = _
    rw [q1]
    show (h1 δ).bind _ = _
    rw [e1]
    show Res.opt ((δ.tree s).bind _) = _
    rw [e3]
    have e4 : ixN ws.length (i : Nat) = some i := ixN_in hi
    simp [e4]
  have q3 : dNodeIx (dNodeIx (dNodeV s) h1) h2 δ = .ok (s, [i, j]) := by
    show (dNodeIx (dNodeV s) h1 δ).bind _ = _
    rw [q2]
    show (h2 δ).bind _ = _
    rw [e2]
    show Res.opt ((δ.tree s).bind _) = _
    rw [e3]
    have e4 : ixN (mt ws i).length (j : Nat) = some j := ixN_in hj
    have e5 : ws[i]? = some (mt ws i) := mt_get hi
    simp [e5, matL, e4]
  show (dNodeIx (dNodeIx (dNodeV s) h1) h2 δ).out _ = _
  rw [q3]
  exact if_pos ha
theorem leaf2 (hs : δ[s]? = some (.tr 2 (ws.map matL))) (hg : gn δ = .ok (s, [i, j])) (hh : h δ = .ok (.int (l : Nat))) (hi : i < ws.length) (hj : j < (mt ws i).length) (hl : l < (rw_ (mt ws i) j).length) : dLeaf gn h δ = .ok (.int (cel (rw_ (mt ws i) j) l)) := by
  have e3 : δ.tree s = some (2, ws.map matL) := by unfold Sto.tree; rw [hs]
  have e5 : ws[i]? = some (mt ws i) := mt_get hi
  have e6 : (mt ws i)[j]? = some (rw_ (mt ws i) j) := rw_get hj
  have e7 : atI ((rw_ (mt ws i) j).map D.int) (l : Nat) = some (.int (cel (rw_ (mt ws i) j) l)) := ix_cel hl
  show (gn δ).bind _ = _
  rw [hg]
  show (h δ).bind _ = _
  rw [hh]
  show Res.opt ((δ.tree s).bind _) = _
  rw [e3]
  simp [e5, matL, e6, rowL, e7]
theorem putT2 (hs : δ[s]? = some (.tr 2 (ws.map matL))) (hg : gn δ = .ok (s, [i, j])) (hh : h δ = .ok (.int (l : Nat))) (hf : f δ = .ok (.int x)) (hi : i < ws.length) (hj : j < (mt ws i).length) (hl : l < (rw_ (mt ws i) j).length) :
    dPutT gn h f δ = .nx (δ.set s (.tr 2 ((ws.set i ((mt ws i).set j ((rw_ (mt ws i) j).set l x))).map matL))) := by
  have e3 : δ.tree s = some (2, ws.map matL) := by unfold Sto.tree; rw [hs]
  have e5 : (ws.map matL)[i]? = some (.lst ((mt ws i).map rowL)) := by rw [List.getElem?_map, mt_get hi]; rfl
  have e6 : ((mt ws i).map rowL)[j]? = some (.lst ((rw_ (mt ws i) j).map .int)) := by rw [List.getElem?_map, rw_get hj]; rfl
  have e4 : ixN ((rw_ (mt ws i) j).map D.int).length (l : Nat) = some l := ixN_in (by simpa using hl)
  have g2 : getL [i, j] (ws.map matL) = some ((rw_ (mt ws i) j).map .int) := by
    show (match (ws.map matL)[i]? with | some (.lst es) => getL [j] es | _ => none) = _
    rw [e5]
    show (match ((mt ws i).map rowL)[j]? with | some (.lst es) => getL [] es | _ => none) = _
    rw [e6]
    rfl
  show (f δ).out _ = _
  rw [hf]
  show (gn δ).out _ = _
  rw [hg]
  show (h δ).out _ = _
  rw [hh]
  show (Res.opt ((δ.tree s).bind _)).out _ = _
  rw [e3]
  have e8 : (if ([i, j] : List Nat).length = 2 then (getL [i, j] (ws.map matL)).bind (fun es => (ixN es.length (l : Nat)).map fun m => ((2, ws.map matL), es.set m (D.int x))) else none) = some ((2, ws.map matL), ((rw_ (mt ws i) j).map D.int).set l (.int x)) := by
    rw [if_pos (show ([i, j] : List Nat).length = 2 from rfl), g2]
    show (ixN ((rw_ (mt ws i) j).map D.int).length (l : Nat)).map _ = _
    rw [e4]
    rfl
  refine (congrArg (fun z => (Res.opt z).out _) e8).trans ?_
  show Out.nx (δ.set s (.tr 2 (putL [i, j] (ws.map matL) (((rw_ (mt ws i) j).map D.int).set l (.int x))))) = _
  have e9 : putL [i, j] (ws.map matL) (((rw_ (mt ws i) j).map D.int).set l (.int x)) = (ws.set i ((mt ws i).set j ((rw_ (mt ws i) j).set l x))).map matL := by
    show (match (ws.map matL)[i]? with | some (.lst es) => (ws.map matL).set i (.lst (putL [j] es _)) | _ => ws.map matL) = _
    rw [e5, List.map_set]
    show (ws.map matL).set i (.lst (match ((mt ws i).map rowL)[j]? with | some (.lst es) => ((mt ws i).map rowL).set j (.lst (putL [] es _)) | _ => (mt ws i).map rowL)) = _
    rw [e6]
    show (ws.map matL).set i (.lst (((mt ws i).map rowL).set j (.lst (((rw_ (mt ws i) j).map D.int).set l (.int x))))) = _
    rw [matL, List.map_set, rowL, List.map_set]
  rw [e9]
end
theorem ix_dig {rs : List Int} {d : Int} (h0 : 0 ≤ d) (h : d < (rs.length : Nat)) : ∃ x ∈ rs, atI (rs.map D.int) d = some (.int x) := by
  obtain ⟨k, hk⟩ : ∃ k : Nat, d = (k : Nat) := ⟨d.toNat, by omega⟩
  have hk2 : k < rs.length := by omega
  exact ⟨cel rs k, cel_mem hk2, by rw [hk]; exact ix_cel hk2⟩
theorem cut_lo (ds : List D) (a b : Nat) (h : a ≤ b) (h2 : b ≤ ds.length) : Dn.cutD ds (some (a : Nat)) (some (b : Nat)) = (ds.drop a).take (b - a) := by
  unfold Dn.cutD
  rw [HT.sIx_nat, HT.sIx_nat, Nat.min_eq_left h2, Nat.min_eq_left (by omega)]
theorem digs_bd {ds : List Int} {m s : Nat} (h : DigsOf ds (List.replicate m (s : Int))) : ds.length = m ∧ ∀ x ∈ ds, 0 ≤ x ∧ x < s := by
  have hl : ds.length = m := by rw [h.1, List.length_replicate]
  refine ⟨hl, fun x hx => ?_⟩
  obtain ⟨k, hk, e⟩ := List.getElem_of_mem hx
  have h1 := h.2 k (by rw [List.length_replicate]; omega)
  have e1 : cel ds k = x := by
    unfold cel
    rw [List.getD_eq_getElem?_getD, List.getElem?_eq_getElem hk, e]
    rfl
  have e2 : cel (List.replicate m (s : Int)) k = s := by
    unfold cel
    rw [List.getD_eq_getElem?_getD, List.getElem?_replicate, if_pos (by omega)]
    rfl
  rw [e1, e2] at h1
  exact h1
theorem repD_one (d : D) (m : Nat) : repD [d] (m : Nat) = List.replicate m d := by
  unfold repD
  rw [Int.toNat_natCast]
  induction m with
  | zero => rfl
  | succ m ih => rw [List.replicate_succ, List.flatten_cons, ih]; rfl
section
variable {K : PySem.W.Frag}
/-- a comprehension over tables -/
theorem lc_items {α β : Type} (g0 : β → D) (g : α → D) (P : α → Prop) {δ : Sto} {i : Nat} {bs : List β} {fa : Sto → Res (List D)} {f : Sto → Res D} (hfa : fa δ = .ok (bs.map g0))
    (h : ∀ b ∈ bs, ∃ a, f (δ.set i (.va (g0 b))) = .ok (g a) ∧ P a) : ∃ l : List α, dLc fa (uName i) dYes f [i] δ = .ok (l.map g) ∧ l.length = bs.length ∧ ∀ a ∈ l, P a := by
  have key : ∀ bs : List β, (∀ b ∈ bs, ∃ a, f (δ.set i (.va (g0 b))) = .ok (g a) ∧ P a) → ∃ l : List α, dComp (uName i) dYes f (bs.map g0) (δ.set i .un) = .ok (l.map g) ∧ l.length = bs.length ∧ ∀ a ∈ l, P a := by
    intro bs
    induction bs with
    | nil => intro _; exact ⟨[], rfl, rfl, by simp⟩
    | cons b bs ih =>
      intro h
      obtain ⟨a, ea, pa⟩ := h b List.mem_cons_self
      obtain ⟨l, el, hl, pl⟩ := ih fun b hb => h b (List.mem_cons_of_mem _ hb)
      refine ⟨a :: l, ?_, by simp [hl], fun x hx => ?_⟩
      · rw [List.map_cons, dComp_cons]
        show ((dYes _).noex.bind fun c => if c = true then (f ((δ.set i .un).set i (.va (g0 b)))).noex.bind fun y => (dComp (uName i) dYes f (bs.map g0) (δ.set i .un)).bind fun ys => .ok (y :: ys) else _) = _
        rw [List.set_set, ea, el]
        rfl
      · rcases List.mem_cons.mp hx with rfl | hx
        · exact pa
        · exact pl x hx
  obtain ⟨l, el, hl, pl⟩ := key bs h
  refine ⟨l, ?_, hl, pl⟩
  show (fa δ).bind _ = _
  rw [hfa]
  exact el
end
end Pf

namespace Pf
open PySem PySem.Spec PyProof.Rows L2 Dn
theorem mod_nat (z : Int) {s : Nat} (h : 0 < s) : ∃ p : Nat, p < s ∧ z % (s : Nat) = (p : Nat) := by
  have h1 := Int.emod_lt_of_pos z (show (0 : Int) < (s : Nat) by omega)
  have h2 := Int.emod_nonneg z (show ((s : Nat) : Int) ≠ 0 by omega)
  exact ⟨(z % (s : Nat)).toNat, by omega, by omega⟩
section
variable {K : PySem.W.Frag}
theorem dig_replicate {c : Int} (m s : Nat) (hs : 0 < s) (hs2 : s ≤ 10 ^ 10) (hm : m ≤ 100) : ∃ ds : List Int, φ__law_digits K [.int c, .lst (repD [.int (s : Nat)] (m : Nat))] = .ok (.lst (ds.map .int)) ∧ ds.length = m ∧ ∀ x ∈ ds, 0 ≤ x ∧ x < s := by
  obtain ⟨ds, e, h⟩ := p__law_digits (K := K) (c := c) (sizes := List.replicate m (s : Int)) (fun x hx => by
    have := List.eq_of_mem_replicate hx
    omega) (by simpa using hm)
  rw [List.map_replicate] at e
  obtain ⟨h1, h2⟩ := digs_bd h
  exact ⟨ds, by rw [repD_one]; exact e, h1, h2⟩
theorem p__law_kit {ns : List Int} (hns : ns.length ≤ 63) : ∃ ws h n, φ__law_kit K [.scr ns, .int 1, .int 4] = .ok (.lst (ws.map matL)) ∧ 0 < ws.length ∧ ws.length ≤ 5 ∧ 0 < h ∧ h ≤ 4 ∧ 0 < n ∧ n ≤ 4 ∧ IsK (10 ^ 6) h n ws := by
  unfold φ__law_kit
  rw [fnD_eq (by rfl)]
  have z8 : 100 ≤ sizeLine := by decide
  suffices Got (fun d => ∃ ws h n, d = .lst (ws.map matL) ∧ 0 < ws.length ∧ ws.length ≤ 5 ∧ 0 < h ∧ h ≤ 4 ∧ 0 < n ∧ n ≤ 4 ∧ IsK (10 ^ 6) h n ws) (dn__law_kit K [.va (.scr ns), .va (.int 1), .va (.int 4), .un, .un, .un, .un, .un, .un, .un, .un, .un, .un, .un, .un, .un, .un]) by
    obtain ⟨d, e, ws, h, n, rfl, r⟩ := this
    exact ⟨ws, h, n, e, r⟩
  unfold dn__law_kit
  obtain ⟨c1, e1⟩ := p__law_cell (K := K) (ns := ns) 1 (by decide) hns
  obtain ⟨c2, e2⟩ := p__law_cell (K := K) (ns := ns) 2 (by decide) hns
  obtain ⟨c3, e3⟩ := p__law_cell (K := K) (ns := ns) 3 (by decide) hns
  have e1 : φ__law_cell K [.scr ns, .int 1] = .ok (.int c1) := e1
  have e2 : φ__law_cell K [.scr ns, .int 2] = .ok (.int c2) := e2
  have e3 : φ__law_cell K [.scr ns, .int 3] = .ok (.int c3) := e3
  obtain ⟨sh, f1, hsh⟩ := p__law_digits (K := K) (c := c1) (sizes := [12, 6, 6, 4, 5, 5]) (by simp) (by simp)
  have f1 : φ__law_digits K [.int c1, .lst [.int 12, .int 6, .int 6, .int 4, .int 5, .int 5]] = .ok (.lst (sh.map .int)) := f1
  obtain ⟨rs, f2, hrl, hrb⟩ := dig_replicate (K := K) (c := c2) 40 7 (by decide) (by decide) (by decide)
  have f2 : φ__law_digits K [.int c2, .lst (repD [.int 7] 40)] = .ok (.lst (rs.map .int)) := f2
  obtain ⟨tu, f3, htu⟩ := p__law_digits (K := K) (c := c3) (sizes := (List.replicate 10 [4, 4, 5]).flatten) (by simp) (by simp)
  have f3 : φ__law_digits K [.int c3, .lst (repD [.int 4, .int 4, .int 5] 10)] = .ok (.lst (tu.map .int)) := f3
  have htl : tu.length = 30 := htu.1
  have shl : sh.length = 6 := hsh.1
  have s0 := hsh.2 0 (by simp)
  have s1 := hsh.2 1 (by simp)
  have s3 := hsh.2 3 (by simp)
  have k0 : cel [12, 6, 6, 4, 5, 5] 0 = 12 := rfl
  have k1 : cel [12, 6, 6, 4, 5, 5] 1 = 6 := rfl
  have k3 : cel [12, 6, 6, 4, 5, 5] 3 = 4 := rfl
  rw [k0] at s0
  rw [k1] at s1
  rw [k3] at s3
  have i0 : atI (sh.map D.int) 0 = some (.int (cel sh 0)) := ix_cel (c := 0) (by omega)
  have i1 : atI (sh.map D.int) 1 = some (.int (cel sh 1)) := ix_cel (c := 1) (by omega)
  have i2 : atI (sh.map D.int) 2 = some (.int (cel sh 2)) := ix_cel (c := 2) (by omega)
  have i3 : atI (sh.map D.int) 3 = some (.int (cel sh 3)) := ix_cel (c := 3) (by omega)
  obtain ⟨k, hk, ek⟩ : ∃ k : Nat, k < 12 ∧ cel sh 0 = k := ⟨(cel sh 0).toNat, by omega, by omega⟩
  rw [ek] at i0
  obtain ⟨x, hx, ex⟩ := ix_dig (rs := [3, 3, 2, 4, 3, 3]) s1.1 s1.2
  have ex : atI [D.int 3, .int 3, .int 2, .int 4, .int 3, .int 3] (cel sh 1) = some (.int x) := ex
  have xb : 2 ≤ x ∧ x ≤ 4 := by
    simp at hx
    omega
  obtain ⟨h0, hh0, eh0⟩ : ∃ h : Nat, (2 ≤ h ∧ h ≤ 4) ∧ (if x < 4 then x else 4) = (h : Int) := ⟨(if x < 4 then x else 4).toNat, by split <;> omega, by split <;> omega⟩
  obtain ⟨y, hy, ey⟩ := ix_dig (rs := [2, 3, 3, 4]) s3.1 s3.2
  have ey : atI [D.int 2, .int 3, .int 3, .int 4] (cel sh 3) = some (.int y) := ey
  obtain ⟨m0, hm0, em0⟩ : ∃ m : Nat, (2 ≤ m ∧ m ≤ 4) ∧ y = (m : Int) := by
    simp at hy
    exact ⟨y.toNat, by omega, by omega⟩
  subst em0
  have kc : k = 0 ∨ k = 1 ∨ k = 2 ∨ k = 3 ∨ k = 4 ∨ k = 5 ∨ k = 6 ∨ k = 7 ∨ k = 8 ∨ k = 9 ∨ k = 10 ∨ k = 11 := by omega
  have n67 : ∃ b, oNotIn (.int (k : Nat)) (.lst [.int 6, .int 7]) = some (.bl b) := by
    rcases kc with rfl | rfl | rfl | rfl | rfl | rfl | rfl | rfl | rfl | rfl | rfl | rfl <;> exact ⟨_, rfl⟩
  have n679 : ∃ b, oIn (.int (k : Nat)) (.lst [.int 6, .int 7, .int 9]) = some (.bl b) := by
    rcases kc with rfl | rfl | rfl | rfl | rfl | rfl | rfl | rfl | rfl | rfl | rfl | rfl <;> exact ⟨_, rfl⟩
  have nfr : ∃ b, oIn (.int (k : Nat)) (.lst [.int 2, .int 3, .int 4, .int 5, .int 7, .int 10, .int 11]) = some (.bl b) ∧ (b = false → k ≠ 5) := by
    rcases kc with rfl | rfl | rfl | rfl | rfl | rfl | rfl | rfl | rfl | rfl | rfl | rfl <;> exact ⟨_, rfl, by decide⟩
  obtain ⟨b67, n67⟩ := n67
  obtain ⟨b679, n679⟩ := n679
  refine Got.seq1 (set_eq (d := .lst (sh.map .int)) (by simp [e1, f1])) ?_
  refine Got.seq1 (set_eq (d := .lst (rs.map .int)) (by simp [e2, f2])) ?_
  refine Got.seq1 (set_eq (d := .lst (tu.map .int)) (by simp [e3, f3])) ?_
  refine Got.seq1 (set_eq (d := .int (k : Nat)) (by simp [i0])) ?_
  refine Got.seq1 (set_eq (d := .int (h0 : Nat)) (by simp [i1, ex, eh0])) ?_
  refine Got.seq1 (set_eq (d := .int (h0 : Nat)) (by simp)) ?_
  refine Got.seq (R := fun δ' => ∃ n : Nat, (0 < n ∧ n ≤ 4) ∧ δ' = [.va (.scr ns), .va (.int 1), .va (.int 4), .va (.lst (sh.map .int)), .va (.lst (rs.map .int)), .va (.lst (tu.map .int)), .va (.int (k : Nat)), .va (.int (h0 : Nat)), .va (.int (n : Nat)), .un, .un, .un, .un, .un, .un, .un, .un]) ?_ ?_
  · refine Nxt.ifA (and_ex (by simp [i2]) (by simp [n67])) (fun _ => ?_) fun _ => Nxt.skip ⟨h0, by omega, rfl⟩
    refine Nxt.set ⟨.int ((if ((h0 : Int) - 1) > 1 then (h0 : Int) - 1 else 1)), by simp, (if ((h0 : Int) - 1) > 1 then (h0 : Int) - 1 else 1).toNat, by split <;> omega, ?_⟩
    have : (((if ((h0 : Int) - 1) > 1 then (h0 : Int) - 1 else 1).toNat : Nat) : Int) = (if ((h0 : Int) - 1) > 1 then (h0 : Int) - 1 else 1) := by split <;> omega
    rw [this]
    rfl
  rintro δ ⟨n, hn, rfl⟩
  refine Got.seq (R := fun δ' => ∃ h : Nat, (0 < h ∧ h ≤ 4) ∧ δ' = [.va (.scr ns), .va (.int 1), .va (.int 4), .va (.lst (sh.map .int)), .va (.lst (rs.map .int)), .va (.lst (tu.map .int)), .va (.int (k : Nat)), .va (.int (h : Nat)), .va (.int (n : Nat)), .un, .un, .un, .un, .un, .un, .un, .un]) ?_ ?_
  · refine Nxt.ifA (and_ex (by simp [i2]) (by simp [n67])) (fun _ => ?_) fun _ => Nxt.skip ⟨h0, by omega, rfl⟩
    refine Nxt.set ⟨.int ((if ((h0 : Int) - 1) > 1 then (h0 : Int) - 1 else 1)), by simp, (if ((h0 : Int) - 1) > 1 then (h0 : Int) - 1 else 1).toNat, by split <;> omega, ?_⟩
    have : (((if ((h0 : Int) - 1) > 1 then (h0 : Int) - 1 else 1).toNat : Nat) : Int) = (if ((h0 : Int) - 1) > 1 then (h0 : Int) - 1 else 1) := by split <;> omega
    rw [this]
    rfl
  rintro δ ⟨h, hh, rfl⟩
  refine Got.seq1 (set_eq (d := .int (m0 : Nat)) (by simp [i3, ey])) ?_
  refine Got.seq (R := fun δ' => ∃ m : Nat, (0 < m ∧ m ≤ 5) ∧ δ' = [.va (.scr ns), .va (.int 1), .va (.int 4), .va (.lst (sh.map .int)), .va (.lst (rs.map .int)), .va (.lst (tu.map .int)), .va (.int (k : Nat)), .va (.int (h : Nat)), .va (.int (n : Nat)), .va (.int (m : Nat)), .un, .un, .un, .un, .un, .un, .un]) ?_ ?_
  · exact Nxt.ifA (by simp [n679]) (fun _ => Nxt.set ⟨.int (m0 + 1 : Nat), by simp, m0 + 1, by omega, rfl⟩) fun _ => Nxt.skip ⟨m0, by omega, rfl⟩
  rintro δ ⟨m, hm, rfl⟩
  refine Got.seq (R := fun δ' => ∃ ws : List Mat, δ' = [.va (.scr ns), .va (.int 1), .va (.int 4), .va (.lst (sh.map .int)), .va (.lst (rs.map .int)), .va (.lst (tu.map .int)), .va (.int (k : Nat)), .va (.int (h : Nat)), .va (.int (n : Nat)), .va (.int (m : Nat)), .ow (ws.map matL), .un, .un, .un, .un, .un, .un] ∧ ws.length = m ∧ IsK 4 h n ws) ?_ ?_
  · obtain ⟨ws, q1, q2, q3⟩ := lc_any (δ := [.va (.scr ns), .va (.int 1), .va (.int 4), .va (.lst (sh.map .int)), .va (.lst (rs.map .int)), .va (.lst (tu.map .int)), .va (.int (k : Nat)), .va (.int (h : Nat)), .va (.int (n : Nat)), .va (.int (m : Nat)), .un, .un, .un, .un, .un, .un, .un]) matL (fun w => IsM 4 h n w) (i := 15) (n := m) (fa := dNL rng1 (dCons (dVar 9) dNil)) (f := (dCall (φ__law_made K) [] (dCons (dVar 6) (dCons (dVar 15) (dCons (dVar 4) (dCons (dVar 7) (dCons (dVar 8) dNil))))))) (rng1_eq rfl (by omega)) fun t ht => by
      obtain ⟨w, g1, g2⟩ := p__law_made (K := K) (k := k) (t := t) (h := h) (n := n) (rs := rs) hk (by omega) hrl (fun x hx => by have := hrb x hx; omega) hh.1 hh.2 hn.1 hn.2
      exact ⟨w, by simp [g1, matL], g2⟩
    exact Nxt.setF ⟨_, q1, ws, rfl, q2, q3⟩
  rintro δ ⟨ws, rfl, hwl, hws⟩
  refine Got.seq (R := fun δ' => ∃ (ws : List Mat) (c y11 y12 y16 : Cell), δ' = [.va (.scr ns), .va (.int 1), .va (.int 4), .va (.lst (sh.map .int)), .va (.lst (rs.map .int)), .va (.lst (tu.map .int)), .va (.int (k : Nat)), .va (.int (h : Nat)), .va (.int (n : Nat)), .va (.int (m : Nat)), c, y11, y12, .un, .un, .un, y16] ∧ ws.length = m ∧ IsK 419904 h n ws ∧ (c = .tr 2 (ws.map matL) ∨ (c = .ow (ws.map matL) ∧ k ≠ 5))) ?_ ?_
  · obtain ⟨b, nfr, nb⟩ := nfr
    refine Nxt.ifA (by simp [nfr]) (fun _ => ?_) fun hf => Nxt.skip ⟨ws, _, _, _, _, rfl, hwl, hws.mono (by decide), .inr ⟨rfl, nb (by simp [nfr] at hf; exact hf)⟩⟩
    obtain ⟨fl, g1, g2⟩ := p__law_frame (K := K) (s := h) (rs := tu.take 12) hh.1 (by omega) (by simp [htl])
    obtain ⟨fr, g3, g4⟩ := p__law_frame (K := K) (s := n) (rs := (tu.drop 12).take 12) hn.1 (by omega) (by simp [htl])
    have u1 : Dn.cutD (tu.map D.int) none (some 12) = (tu.take 12).map D.int := by
      have := cut_take (tu.map D.int) 12 (by simp [htl])
      rw [List.map_take]
      exact this
    have u2 : Dn.cutD (tu.map D.int) (some 12) (some 24) = ((tu.drop 12).take 12).map D.int := by
      have := cut_lo (tu.map D.int) 12 24 (by decide) (by simp [htl])
      rw [List.map_take, List.map_drop]
      exact this
    rw [List.map_take] at g1 u1
    rw [List.map_take, List.map_drop] at g3 u2
    refine Nxt.seq1 (set_eq (d := .lst (fl.map rowL)) (by simp [u1, g1])) ?_
    refine Nxt.seq1 (set_eq (d := .lst (fr.map rowL)) (by simp [u2, g3])) ?_
    obtain ⟨ws2, q1, q2, q3⟩ := lst_ex (lc_items (δ := [.va (.scr ns), .va (.int 1), .va (.int 4), .va (.lst (sh.map .int)), .va (.lst (rs.map .int)), .va (.lst (tu.map .int)), .va (.int (k : Nat)), .va (.int (h : Nat)), .va (.int (n : Nat)), .va (.int (m : Nat)), .va (.lst (ws.map matL)), .va (.lst (fl.map rowL)), .va (.lst (fr.map rowL)), .un, .un, .un, .un]) matL matL (fun w => IsM 419904 h n w) (i := 16) (bs := ws) (fa := dItems (dVar 10)) (f := (dCall (φ__law_product K) [] (dCons (dCall (φ__law_product K) [] (dCons (dVar 11) (dCons (dVar 16) dNil))) (dCons (dVar 12) dNil)))) (by simp) fun w hw => by
      obtain ⟨w1, v1, v2⟩ := p__law_product (K := K) (l := fl) (r := w) g2 (hws w hw) (by omega) hh.1 (by omega) (by omega) (by decide) (by decide)
      have v2 : IsM 1296 h n w1 := v2.mono (by have := hh.2; omega)
      obtain ⟨w2, v3, v4⟩ := p__law_product (K := K) (l := w1) (r := fr) v2 g4 (by omega) hn.1 (by omega) (by omega) (by decide) (by decide)
      exact ⟨w2, by simp [matL, v1, v3], v4.mono (by have := hn.2; omega)⟩)
    refine ⟨[.va (.scr ns), .va (.int 1), .va (.int 4), .va (.lst (sh.map .int)), .va (.lst (rs.map .int)), .va (.lst (tu.map .int)), .va (.int (k : Nat)), .va (.int (h : Nat)), .va (.int (n : Nat)), .va (.int (m : Nat)), .tr 2 (ws2.map matL), .va (.lst (fl.map rowL)), .va (.lst (fr.map rowL)), .un, .un, .un, .un], ?_, ws2, _, _, _, _, rfl, by omega, q3, .inl rfl⟩
    show (dLst _ _).out _ = _
    refine (congrArg (fun z => Res.out z _) q1).trans ?_
    rfl
  rintro δ ⟨ws, c, y11, y12, y16, rfl, hwl, hws, hc⟩
  refine Got.seq (R := fun δ' => ∃ (ws : List Mat) (c y11 y12 y13 y14 y16 : Cell), δ' = [.va (.scr ns), .va (.int 1), .va (.int 4), .va (.lst (sh.map .int)), .va (.lst (rs.map .int)), .va (.lst (tu.map .int)), .va (.int (k : Nat)), .va (.int (h : Nat)), .va (.int (n : Nat)), .va (.int (m : Nat)), c, y11, y12, y13, y14, .un, y16] ∧ ws.length = m ∧ IsK (10 ^ 6) h n ws ∧ (c = .tr 2 (ws.map matL) ∨ c = .ow (ws.map matL))) ?_ ?_
  · by_cases hk5 : k = 5
    · refine Nxt.ifT (by simp [hk5]) ?_
      obtain rfl : c = .tr 2 (ws.map matL) := hc.elim (fun e => e) fun e => absurd hk5 e.2
      have j7 : atI (rs.map D.int) 7 = some (.int (cel rs 7)) := ix_cel (c := 7) (by omega)
      have j8 : atI (rs.map D.int) 8 = some (.int (cel rs 8)) := ix_cel (c := 8) (by omega)
      have hp : (0 : Int) < (h : Nat) := by omega
      have np : (0 : Int) < (n : Nat) := by omega
      obtain ⟨p, hp1, hp2⟩ := mod_nat (cel rs 7) hh.1
      obtain ⟨q, hq1, hq2⟩ := mod_nat (cel rs 8) hn.1
      have w0 := hws _ (mt_mem (i := 0) (by omega))
      have rp := isM_row w0 hp1
      refine Nxt.seq1 (setA2 (i := 0) (j := p) (ws := ws) rfl rfl (by simp [j7, hp, hh.1, hp2]) (by omega) (by rw [w0.len]; exact hp1) (by decide)) ?_
      refine Nxt.seq1 (set_eq (d := .int (q : Nat)) (by simp [j8, np, hn.1, hq2])) ?_
      have cb := isM_cel w0 hp1 hq1
      refine Nxt.at (putT2 (s := 10) (i := 0) (j := p) (l := q) (ws := ws) (x := cel (rw_ (mt ws 0) p) q + 1) rfl rfl rfl ?_ (by omega) (by rw [w0.len]; exact hp1) (by rw [rp.1]; exact hq1)) ⟨_, _, _, _, _, _, _, rfl, by rw [List.length_set]; exact hwl, (hws.mono (b' := 10 ^ 6) (by decide)).set 0 ((w0.mono (b' := 10 ^ 6) (by decide)).put (j := q) hp1 (by omega)), .inl rfl⟩
      have lf : ∀ δ : Sto, δ[10]? = some (.tr 2 (ws.map matL)) → δ[13]? = some (.al 10 [0, p]) → δ[14]? = some (.va (.int (q : Nat))) → d2 oAdd (dLeaf (dNodeV 13) (dVar 14)) (dK (.int 1)) δ = .ok (.int (cel (rw_ (mt ws 0) p) q + 1)) := fun δ d1 d2 d3 => by
        have := leaf2 (δ := δ) (gn := dNodeV 13) (h := dVar 14) (s := 10) (i := 0) (j := p) (l := q) (ws := ws) d1 (by simp [d2]) (by simp [d3]) (by omega) (by rw [w0.len]; exact hp1) (by rw [rp.1]; exact hq1)
        show (dLeaf _ _ δ).bind _ = _
        rw [this]
        rfl
      exact lf _ rfl rfl rfl
    · exact Nxt.ifF (by simp; omega) (Nxt.skip ⟨ws, c, _, _, _, _, _, rfl, hwl, hws.mono (by decide), hc.imp (fun e => e) fun e => e.1⟩)
  rintro δ ⟨ws, c, y11, y12, y13, y14, y16, rfl, hwl, hws, hc⟩
  show Got _ (dRet (dVar 10) (fz 10 _))
  rcases hc with rfl | rfl
  · exact Got.ret ⟨_, rfl, ws, h, n, rfl, by omega, by omega, hh.1, hh.2, hn.1, hn.2, hws⟩
  · exact Got.ret ⟨_, rfl, ws, h, n, rfl, by omega, by omega, hh.1, hh.2, hn.1, hn.2, hws⟩
end
end Pf

namespace Pf
open PySem PySem.Spec PyProof.Rows L2 Dn
theorem appV_eq {s n : Nat} {f : Sto → Res D} {δ : Sto} {d : D} {ds : List D} (e1 : δ[s]? = some (.tr n ds)) (e2 : f δ = .ok d) (hl : ds.length < sizeLine) : dAppV s n f δ = .nx (δ.set s (.tr n (ds ++ [d]))) := by
  have : dAppV s n f δ = (match (some (Cell.tr n ds) : Option Cell) with | some (.tr m ds) => if m = n then (f δ).out fun d => if ds.length < sizeLine then .nx (δ.set s (.tr n (ds ++ [d]))) else .no else .no | _ => .no) := by
    rw [← e1]
    rfl
  rw [this]
  show (if n = n then (f δ).out _ else Out.no) = _
  rw [if_pos rfl, e2]
  exact if_pos hl
theorem cel_lit {ds sizes : List Int} (h : DigsOf ds sizes) (k : Nat) (hk : k < sizes.length) : 0 ≤ cel ds k ∧ cel ds k < cel sizes k := h.2 k hk
section
variable {K : PySem.W.Frag}
theorem p__law_tables {ns : List Int} (hns : ns.length ≤ 63) : ∃ ws h n, φ__law_tables K [.scr ns] = .ok (.lst (ws.map matL)) ∧ 0 < ws.length ∧ ws.length ≤ 40 ∧ 0 < h ∧ h ≤ 8 ∧ 0 < n ∧ n ≤ 8 ∧ IsK (10 ^ 60 - 1) h n ws := by
  unfold φ__law_tables
  rw [fnD_eq (by rfl)]
  have z8 : 100 ≤ sizeLine := by decide
  suffices Got (fun d => ∃ ws h n, d = .lst (ws.map matL) ∧ 0 < ws.length ∧ ws.length ≤ 40 ∧ 0 < h ∧ h ≤ 8 ∧ 0 < n ∧ n ≤ 8 ∧ IsK (10 ^ 60 - 1) h n ws) (dn__law_tables K [.va (.scr ns), .un, .un, .un, .un, .un, .un, .un, .un, .un, .un, .un]) by
    obtain ⟨d, e, ws, h, n, rfl, r⟩ := this
    exact ⟨ws, h, n, e, r⟩
  unfold dn__law_tables
  obtain ⟨c0, e0⟩ := p__law_cell (K := K) (ns := ns) 0 (by decide) hns
  obtain ⟨c1, e1⟩ := p__law_cell (K := K) (ns := ns) 1 (by decide) hns
  obtain ⟨c2, e2⟩ := p__law_cell (K := K) (ns := ns) 2 (by decide) hns
  have e0 : φ__law_cell K [.scr ns, .int 0] = .ok (.int c0) := e0
  have e1 : φ__law_cell K [.scr ns, .int 1] = .ok (.int c1) := e1
  have e2 : φ__law_cell K [.scr ns, .int 2] = .ok (.int c2) := e2
  obtain ⟨sh, f1, hsh⟩ := p__law_digits (K := K) (c := c0) (sizes := [5, 8, 8, 40, 61]) (by simp) (by simp)
  have f1 : φ__law_digits K [.int c0, .lst [.int 5, .int 8, .int 8, .int 40, .int 61]] = .ok (.lst (sh.map .int)) := f1
  obtain ⟨rs, f2, hrl, hrb⟩ := dig_replicate (K := K) (c := c1) 40 101 (by decide) (by decide) (by decide)
  have f2 : φ__law_digits K [.int c1, .lst (repD [.int 101] 40)] = .ok (.lst (rs.map .int)) := f2
  have shl : sh.length = 5 := hsh.1
  have s1 := hsh.2 1 (by simp)
  have s2 := hsh.2 2 (by simp)
  have s3 := hsh.2 3 (by simp)
  have s4 := hsh.2 4 (by simp)
  have k1 : cel [5, 8, 8, 40, 61] 1 = 8 := rfl
  have k2 : cel [5, 8, 8, 40, 61] 2 = 8 := rfl
  have k3 : cel [5, 8, 8, 40, 61] 3 = 40 := rfl
  have k4 : cel [5, 8, 8, 40, 61] 4 = 61 := rfl
  rw [k1] at s1
  rw [k2] at s2
  rw [k3] at s3
  rw [k4] at s4
  have i0 : atI (sh.map D.int) 0 = some (.int (cel sh 0)) := ix_cel (c := 0) (by omega)
  have i1 : atI (sh.map D.int) 1 = some (.int (cel sh 1)) := ix_cel (c := 1) (by omega)
  have i2 : atI (sh.map D.int) 2 = some (.int (cel sh 2)) := ix_cel (c := 2) (by omega)
  have i3 : atI (sh.map D.int) 3 = some (.int (cel sh 3)) := ix_cel (c := 3) (by omega)
  have i4 : atI (sh.map D.int) 4 = some (.int (cel sh 4)) := ix_cel (c := 4) (by omega)
  obtain ⟨h, hh, eh⟩ : ∃ h : Nat, (0 < h ∧ h ≤ 8) ∧ 1 + cel sh 1 = h := ⟨(1 + cel sh 1).toNat, by omega, by omega⟩
  obtain ⟨n, hn, en⟩ : ∃ h : Nat, (0 < h ∧ h ≤ 8) ∧ 1 + cel sh 2 = h := ⟨(1 + cel sh 2).toNat, by omega, by omega⟩
  obtain ⟨m1, hm1, em1⟩ : ∃ h : Nat, (0 < h ∧ h ≤ 40) ∧ 1 + cel sh 3 = h := ⟨(1 + cel sh 3).toNat, by omega, by omega⟩
  refine Got.seq1 (set_eq (d := .lst (sh.map .int)) (by simp [e0, f1])) ?_
  by_cases hs3 : cel sh 0 < 3
  · obtain ⟨ws, h, n, q1, q2, q3, q4, q5, q6, q7, q8⟩ := p__law_kit (K := K) hns
    refine Got.stop ⟨.lst (ws.map matL), ?_, ws, h, n, rfl, q2, by omega, q4, by omega, q6, by omega, q8.mono (by decide)⟩
    rw [if_t (by simp [i0, hs3])]
    show (dCall _ _ _ _).out _ = _
    have : dCall (φ__law_kit K) [] (dCons (dVar 0) (dCons (dK (.int 1)) (dCons (dK (.int 4)) dNil))) [.va (.scr ns), .va (.lst (sh.map .int)), .un, .un, .un, .un, .un, .un, .un, .un, .un, .un] = .ok (.lst (ws.map matL)) := by simp [q1]
    refine (congrArg (fun z => Res.out z _) this).trans rfl
  refine Got.seq1 ((if_f (by simp [i0, hs3])).trans rfl) ?_
  refine Got.seq1 (set_eq (d := .int (h : Nat)) (by simp [i1, eh])) ?_
  refine Got.seq1 (set_eq (d := .int (n : Nat)) (by simp [i2, en])) ?_
  refine Got.seq1 (set_eq (d := .int (m1 : Nat)) (by simp [i3, em1])) ?_
  refine Got.seq (R := fun δ' => ∃ m : Nat, 0 < m ∧ δ' = [.va (.scr ns), .va (.lst (sh.map .int)), .va (.int (h : Nat)), .va (.int (n : Nat)), .va (.int (m : Nat)), .un, .un, .un, .un, .un, .un, .un]) ?_ ?_
  · refine Nxt.ifA (by simp [i0]) (fun _ => ?_) fun _ => Nxt.skip ⟨m1, hm1.1, rfl⟩
    have mo : Dn.MulOk (h : Int) (n : Int) := mulOk_lt (by omega) (by omega)
    have hp : (0 : Int) < (h : Int) * (n : Int) := Int.mul_pos (by omega) (by omega)
    have hb : (h : Int) * (n : Int) ≤ 64 := by
      have := Nat.mul_le_mul hh.2 hn.2
      have e : ((h * n : Nat) : Int) = (h : Int) * (n : Int) := Int.natCast_mul _ _
      omega
    have dv : DivOk ((h : Int) * (n : Int)) := divOk_lt (by omega) (by omega)
    have d0 : 0 ≤ (300 : Int).fdiv ((h : Int) * (n : Int)) := by
      rw [Int.fdiv_eq_ediv_of_nonneg _ (by omega)]
      exact Int.ediv_nonneg (by decide) (by omega)
    generalize hd : (300 : Int).fdiv ((h : Int) * (n : Int)) = dd at *
    have dp : (0 : Int) < 1 + dd := by omega
    have r0 := Int.emod_nonneg (cel sh 3) (show 1 + dd ≠ 0 by omega)
    refine Nxt.set ⟨.int (1 + cel sh 3 % (1 + dd)), by simp [i3, mo, dv, hd, dp], (1 + cel sh 3 % (1 + dd)).toNat, by omega, ?_⟩
    have : (((1 + cel sh 3 % (1 + dd)).toNat : Nat) : Int) = 1 + cel sh 3 % (1 + dd) := by omega
    rw [this]
    rfl
  rintro δ ⟨m, hm, rfl⟩
  refine Got.seq1 (set_eq (d := .lst (rs.map .int)) (by simp [e1, f2])) ?_
  refine Got.seq1 (δ' := [.va (.scr ns), .va (.lst (sh.map .int)), .va (.int (h : Nat)), .va (.int (n : Nat)), .va (.int (m : Nat)), .va (.lst (rs.map .int)), .tr 2 [], .un, .un, .un, .un, .un]) (by simp) ?_
  obtain ⟨mm, hmm, emm⟩ : ∃ mm : Nat, (0 < mm ∧ mm ≤ 40) ∧ (if (m : Int) < 40 then (m : Int) else 40) = mm := ⟨(if (m : Int) < 40 then (m : Int) else 40).toNat, by split <;> omega, by split <;> omega⟩
  refine Got.seq (R := fun δ' => ∃ (ws : List Mat) (y7 y10 y11 : Cell), δ' = [.va (.scr ns), .va (.lst (sh.map .int)), .va (.int (h : Nat)), .va (.int (n : Nat)), .va (.int (m : Nat)), .va (.lst (rs.map .int)), .tr 2 (ws.map matL), y7, .un, .un, y10, y11] ∧ ws.length = mm ∧ IsK 100 h n ws) ?_ ?_
  · refine Nxt.forR (n := mm) (fun i δ => ∃ (ws : List Mat) (y7 y10 y11 : Cell), δ = [.va (.scr ns), .va (.lst (sh.map .int)), .va (.int (h : Nat)), .va (.int (n : Nat)), .va (.int (m : Nat)), .va (.lst (rs.map .int)), .tr 2 (ws.map matL), y7, .un, .un, y10, y11] ∧ ws.length = i ∧ IsK 100 h n ws) (rng1_eq (n := mm) (by simp [emm]) (by omega)) ⟨[], .un, .un, .un, rfl, rfl, fun w hw => by simp at hw⟩ ?_
    rintro i hi δ ⟨ws, y7, y10, y11, rfl, hwl, hws⟩
    have e0 : ((0 : Int) + (i : Nat)) = (i : Nat) := by omega
    refine ⟨[.va (.scr ns), .va (.lst (sh.map .int)), .va (.int (h : Nat)), .va (.int (n : Nat)), .va (.int (m : Nat)), .va (.lst (rs.map .int)), .tr 2 (ws.map matL), .va (.int (i : Nat)), .un, .un, y10, y11], by rw [e0]; rfl, ?_⟩
    obtain ⟨w, g1, g2, g3⟩ := lst_ex (lc_mat (δ := [.va (.scr ns), .va (.lst (sh.map .int)), .va (.int (h : Nat)), .va (.int (n : Nat)), .va (.int (m : Nat)), .va (.lst (rs.map .int)), .tr 2 (ws.map matL), .va (.int (i : Nat)), .un, .un, y10, y11]) (fun x => x.natAbs ≤ 100) (i := 11) (j := 10) (h := h) (n := n) (fa := dNL rng1 (dCons (dVar 2) dNil)) (fb := dNL rng1 (dCons (dVar 3) dNil)) (f := (d2 oSub (dN oInt (dCons (d2 oIx (dVar 5) (d2 oMod (d2 oAdd (d2 oAdd (d2 oMul (dK (.int 7)) (dVar 7)) (d2 oMul (dK (.int 3)) (dVar 11))) (dVar 10)) (dK (.int 40)))) dNil)) (dK (.int 50)))) (rng1_eq rfl (by omega)) (fun k _ => rng1_eq rfl (by omega)) fun a ha b hb => by
      have mo1 : Dn.MulOk 7 (i : Int) := mulOk_lt (by decide) (by omega)
      have mo2 : Dn.MulOk 3 (a : Int) := mulOk_lt (by decide) (by omega)
      obtain ⟨x, hx, ex⟩ := ix_modL (rs := rs) (by omega) (7 * (i : Int) + 3 * (a : Int) + (b : Int))
      rw [hrl] at ex
      have ex : atI (rs.map D.int) ((7 * (i : Int) + 3 * (a : Int) + (b : Int)) % 40) = some (.int x) := ex
      have := hrb x hx
      exact ⟨x - 50, by simp [mo1, mo2, ex], by omega⟩)
    refine Nxt.at (appV_eq (s := 6) (n := 2) (d := matL w) (ds := ws.map matL) rfl g1 (by rw [List.length_map]; omega)) ⟨ws ++ [w], _, _, _, by rw [List.map_append]; rfl, by simp [hwl], fun x hx => ?_⟩
    rcases List.mem_append.mp hx with hx | hx
    · exact hws x hx
    · simp at hx
      subst hx
      exact isM_of g2 g3
  rintro δ ⟨ws, y7, y10, y11, rfl, hwl, hws⟩
  obtain ⟨fg, hfg, efg⟩ : ∃ fg : Nat, fg ≤ 60 ∧ (if cel sh 4 > 1 then cel sh 4 else 1) = fg := ⟨(if cel sh 4 > 1 then cel sh 4 else 1).toNat, by split <;> omega, by split <;> omega⟩
  obtain ⟨L, l1, l2⟩ := p__law_large (K := K) (c := c2) hfg
  have lb : L.natAbs < 10 ^ 60 := Nat.lt_of_lt_of_le l2 (Nat.pow_le_pow_right (by decide) hfg)
  have efg : (if 1 < cel sh 4 then cel sh 4 else 1) = (fg : Int) := efg
  refine Got.seq1 (set_eq (d := .int L) (by simp [e2, i4, efg, l1])) ?_
  obtain ⟨p, hp1, hp2⟩ := mod_nat (cel sh 4) (s := ws.length) (by omega)
  have w0 := hws _ (mt_mem (i := p) hp1)
  have hwp : (0 : Int) < (ws.length : Nat) := by omega
  have eh1 : ((h : Int) - 1) = ((h - 1 : Nat) : Int) := by omega
  refine Got.seq1 (setA2 (s := 6) (a := 9) (i := p) (j := h - 1) (ws := ws) rfl (by
    have hwp2 : 0 < ws.length := by omega
    simp [i4, hwp, hp2, hwp2]) (by simp [eh1]) hp1 (by rw [w0.len]; omega) (by decide)) ?_
  refine Got.seq (R := fun δ' => ∃ (ws : List Mat) (y10 : Cell), δ' = [.va (.scr ns), .va (.lst (sh.map .int)), .va (.int (h : Nat)), .va (.int (n : Nat)), .va (.int (m : Nat)), .va (.lst (rs.map .int)), .tr 2 (ws.map matL), y7, .va (.int L), .al 6 [p, h - 1], y10, y11] ∧ ws.length = mm ∧ IsK (10 ^ 60 - 1) h n ws) ?_ ?_
  · refine Nxt.forR (n := n) (fun i δ => ∃ (ws : List Mat) (y10 : Cell), δ = [.va (.scr ns), .va (.lst (sh.map .int)), .va (.int (h : Nat)), .va (.int (n : Nat)), .va (.int (m : Nat)), .va (.lst (rs.map .int)), .tr 2 (ws.map matL), y7, .va (.int L), .al 6 [p, h - 1], y10, y11] ∧ ws.length = mm ∧ IsK (10 ^ 60 - 1) h n ws) (rng1_eq (n := n) rfl (by omega)) ⟨ws, _, rfl, hwl, hws.mono (by decide)⟩ ?_
    rintro j hj δ ⟨ws2, y10, rfl, hwl2, hws2⟩
    have e0 : ((0 : Int) + (j : Nat)) = (j : Nat) := by omega
    refine ⟨[.va (.scr ns), .va (.lst (sh.map .int)), .va (.int (h : Nat)), .va (.int (n : Nat)), .va (.int (m : Nat)), .va (.lst (rs.map .int)), .tr 2 (ws2.map matL), y7, .va (.int L), .al 6 [p, h - 1], .va (.int (j : Nat)), y11], by rw [e0]; rfl, ?_⟩
    have w1 := hws2 _ (mt_mem (i := p) (by omega))
    have r1 := isM_row w1 (k := h - 1) (by omega)
    have ej : (n : Int) - 1 - (j : Int) = ((n - 1 - j : Nat) : Int) := by omega
    have d3 : DivOk 3 := by decide
    have d7 : DivOk 7 := by decide
    obtain ⟨v, hv, ev⟩ := ix_modL (rs := [L, 0 - L.fdiv 3, L.fdiv 7 + (j : Int)]) (by simp) (j : Int)
    have ev : atI [D.int L, .int (0 - L.fdiv 3), .int (L.fdiv 7 + (j : Int))] ((j : Int) % 3) = some (.int v) := ev
    have f3 : L.fdiv 3 = L / 3 := Int.fdiv_eq_ediv_of_nonneg _ (by decide)
    have f7 : L.fdiv 7 = L / 7 := Int.fdiv_eq_ediv_of_nonneg _ (by decide)
    have vb : v.natAbs ≤ 10 ^ 60 - 1 := by
      rw [f3, f7] at hv
      simp only [List.mem_cons, List.not_mem_nil, or_false] at hv
      rcases hv with rfl | rfl | rfl <;> omega
    have ev2 : atI [D.int L, .int (- L.fdiv 3), .int (L.fdiv 7 + (j : Int))] ((j : Int) % 3) = some (.int v) := by
      rw [← ev, Int.zero_sub]
    exact Nxt.at (putT2 (s := 6) (i := p) (j := h - 1) (l := n - 1 - j) (x := v) (ws := ws2) rfl rfl (by simp [ej]) (by simp [d3, d7, ev2]) (by omega) (by rw [w1.len]; omega) (by rw [r1.1]; omega)) ⟨_, _, rfl, by rw [List.length_set]; exact hwl2, hws2.set p (w1.put (by omega) vb)⟩
  rintro δ ⟨ws2, y10, rfl, hwl2, hws2⟩
  show Got _ (dRet (dVar 6) (fz 6 _))
  exact Got.ret ⟨_, rfl, ws2, h, n, rfl, by omega, by omega, hh.1, hh.2, hn.1, hn.2, hws2⟩
end
end Pf

namespace Pf
open PySem PySem.Spec PyProof.Rows L2 Dn
theorem rowOf_lc {δ : Sto} {i n : Nat} {fa : Sto → Res (List D)} {f : Sto → Res D} (a : Nat → D) (hfa : fa δ = .ok (rangeD 0 n)) (h : ∀ k < n, f (δ.set i (.va (.int (k : Nat)))) = .ok (a k)) : dLc fa (uName i) dYes f [i] δ = .ok ((List.range n).map a) := by
  show (fa δ).bind _ = _
  rw [hfa]
  show dComp _ _ _ _ _ = _
  refine dComp_range _ 0 n a fun j hj => ?_
  have e0 : ((0 : Int) + (j : Nat)) = (j : Nat) := by omega
  exact ⟨δ.set i (.va (.int (j : Nat))), by rw [e0]; simp, rfl, h j hj⟩
/-- an upright room's rows -/
def uprV (n : Nat) (t : Nat → Int) (i j : Nat) : Int := (if i = j then 1 else 0) - (if j = n - 1 then t i else 0)
def uprW (m n : Nat) (t : Nat → Int) : Mat := (List.range m).map fun i => (List.range n).map fun j => uprV n t i j
theorem upr_row {m n : Nat} {t : Nat → Int} {i : Nat} (hi : i < m) : rw_ (uprW m n t) i = (List.range n).map fun j => uprV n t i j := by
  refine rw_of ?_
  unfold uprW
  rw [List.getElem?_map, List.getElem?_range hi]
  rfl
theorem upr_cel {m n : Nat} {t : Nat → Int} {i j : Nat} (hi : i < m) (hj : j < n) : cel (rw_ (uprW m n t) i) j = uprV n t i j := by
  rw [upr_row hi]
  unfold cel
  rw [List.getD_eq_getElem?_getD, List.getElem?_map, List.getElem?_range hj]
  rfl
theorem upr_told {m n : Nat} {t : Nat → Int} (hn : 1 ≤ n) (h : (m = n ∧ ∀ i, t i = 0) ∨ m = n - 1) : Told n (uprW m n t) := by
  have hl : (uprW m n t).length = m := by simp [uprW]
  have wd : Wide n (uprW m n t) := fun r hr => by
    obtain ⟨i, _, rfl⟩ := List.mem_map.mp hr
    simp
  have off : ∀ i j, i < m → j < m → i ≠ j → uprV n t i j = 0 := fun i j hi hj hij => by
    unfold uprV
    rw [if_neg hij]
    rcases h with ⟨_, h0⟩ | h1
    · rw [h0]
      simp
    · rw [if_neg (by omega)]
      rfl
  have on : ∀ i, i < m → uprV n t i i = 1 := fun i hi => by
    unfold uprV
    rw [if_pos rfl]
    rcases h with ⟨_, h0⟩ | h1
    · rw [h0]
      simp
    · rw [if_neg (by omega)]
      rfl
  have ce : ∀ i j, i < m → j < m → cel (rw_ (uprW m n t) i) j = uprV n t i j := fun i j hi hj => upr_cel hi (by omega)
  refine ⟨fun i => i, ?_⟩
  rw [hl]
  refine ⟨wd, by omega, fun i hi => by omega, fun i k hik _ => hik, fun i hi j hj => ?_, fun i hi => ?_, fun i hi => ?_, fun i hi k hk hki => ?_, fun k hk hk2 => by omega⟩
  · rw [ce i j hi (by omega)]
    exact off i j hi (by omega) (by omega)
  · show 0 < cel (rw_ (uprW m n t) i) i
    rw [ce i i hi hi, on i hi]
    decide
  · have c1 : cel (rw_ (uprW m n t) i) i = 1 := by rw [ce i i hi hi, on i hi]
    have hil : i < (rw_ (uprW m n t) i).length := by
      rw [wd _ (rw_mem (by omega))]
      omega
    have m1 : (1 : Int) ∈ rw_ (uprW m n t) i := by
      have := cel_mem (r := rw_ (uprW m n t) i) (c := i) hil
      rw [c1] at this
      exact this
    have g1 := (gcdF_dvd (rw_ (uprW m n t) i) 0).2 1 m1
    refine prim_self (Nat.eq_one_of_dvd_one g1) ?_
    rw [sgn_lead (p := i) (fun j hj => by rw [ce i j hi (by omega)]; exact off i j hi (by omega) (by omega)) (by rw [c1]; decide), c1]
    rfl
  · rw [hl] at hk
    show cel (rw_ (uprW m n t) k) i = 0
    rw [ce k i hk hi]
    exact off k i hk hi hki
theorem upr_bd {m n B : Nat} {t : Nat → Int} (ht : ∀ i, i < m → (t i).natAbs ≤ B) : Bd (B + 1) (uprW m n t) := by
  intro r hr x hx
  obtain ⟨i, hi, rfl⟩ := List.mem_map.mp hr
  obtain ⟨j, _, rfl⟩ := List.mem_map.mp hx
  have := ht i (List.mem_range.mp hi)
  show (uprV n t i j).natAbs ≤ B + 1
  unfold uprV
  split <;> split <;> omega
/-- a drawn room's size and vectors -/
structure Drawn (n : Nat) (w : Mat) : Prop where
  n1 : 1 ≤ n
  n64 : n ≤ 64
  wd : Wide n w
  len : w.length ≤ 64
  kind : (∃ q, Few n q w) ∨ (Told n w ∧ Bd 20 w)
theorem few_of {n m q : Nat} {w : Mat} (h : IsM 4 m n w) (hm : m ≤ 4) : Few n q w := by
  refine ⟨h.wd, by rw [h.len]; exact hm, fun k j => ?_⟩
  have : (cel (rw_ w k) j).natAbs ≤ 4 := by
    by_cases hk : k < m
    · by_cases hj : j < n
      · exact isM_cel h hk hj
      · rw [cel_ge (by rw [(isM_row h hk).1]; omega)]
        decide
    · have : rw_ w k = [] := by
        unfold rw_
        rw [List.getD_eq_getElem?_getD, List.getElem?_eq_none (by rw [h.len]; omega)]
        rfl
      rw [this]
      exact Nat.zero_le _
  split
  · exact Nat.le_trans this (by unfold wB; omega)
  · exact this
theorem cel_set {r : List Int} {q j : Nat} {x : Int} (hq : q < r.length) : cel (r.set q x) j = if j = q then x else cel r j := by
  unfold cel
  rw [List.getD_eq_getElem?_getD, List.getD_eq_getElem?_getD]
  by_cases h : q = j
  · subst h
    rw [List.getElem?_set_self hq, if_pos rfl]
    rfl
  · rw [List.getElem?_set_ne h, if_neg (fun z => h z.symm)]
theorem few_set {n m q : Nat} {w : Mat} {x : Int} (h : IsM 4 m n w) (hm : m ≤ 4) (h0 : 0 < m) (hq : q < n) (hx : x.natAbs ≤ wB) : Few n q (w.set 0 ((rw_ w 0).set q x)) := by
  have hf := few_of (q := q) h hm
  have r0 := isM_row h h0
  refine ⟨fun r hr => ?_, by rw [List.length_set]; exact hf.len, fun k j => ?_⟩
  · rcases mem_set_or hr with z | rfl
    · exact h.wd r z
    · rw [List.length_set, r0.1]
  · by_cases hk : k = 0
    · subst hk
      rw [rw_set_self (by rw [h.len]; exact h0), cel_set (by rw [r0.1]; exact hq)]
      by_cases hj : j = q
      · rw [if_pos hj, if_pos ⟨rfl, hj⟩]
        exact hx
      · rw [if_neg hj]
        exact hf.big 0 j
    · rw [rw_set_ne (fun z => hk z.symm)]
      exact hf.big k j
section
variable {K : PySem.W.Frag}
theorem p__law_room {ns : List Int} (hns : ns.length ≤ 63) : ∃ n w, φ__law_room K [.scr ns] = .ok (.lst [.int (n : Nat), .lst (w.map rowL)]) ∧ Drawn n w := by
  unfold φ__law_room
  rw [fnD_eq (by rfl)]
  have z8 : 100 ≤ sizeLine := by decide
  suffices Got (fun d => ∃ (n : Nat) (w : Mat), d = .lst [.int (n : Nat), .lst (w.map rowL)] ∧ Drawn n w) (dn__law_room K [.va (.scr ns), .un, .un, .un, .un, .un, .un, .un, .un, .un]) by
    obtain ⟨d, e, n, w, rfl, r⟩ := this
    exact ⟨n, w, e, r⟩
  unfold dn__law_room
  obtain ⟨c4, e4⟩ := p__law_cell (K := K) (ns := ns) 4 (by decide) hns
  obtain ⟨c5, e5⟩ := p__law_cell (K := K) (ns := ns) 5 (by decide) hns
  obtain ⟨c6, e6⟩ := p__law_cell (K := K) (ns := ns) 6 (by decide) hns
  have e4 : φ__law_cell K [.scr ns, .int 4] = .ok (.int c4) := e4
  have e5 : φ__law_cell K [.scr ns, .int 5] = .ok (.int c5) := e5
  have e6 : φ__law_cell K [.scr ns, .int 6] = .ok (.int c6) := e6
  obtain ⟨sh, f1, hsh⟩ := p__law_digits (K := K) (c := c4) (sizes := [6, 64, 5, 8, 13]) (by simp) (by simp)
  have f1 : φ__law_digits K [.int c4, .lst [.int 6, .int 64, .int 5, .int 8, .int 13]] = .ok (.lst (sh.map .int)) := f1
  obtain ⟨rs, f2, hrl, hrb⟩ := dig_replicate (K := K) (c := c5) 48 9 (by decide) (by decide) (by decide)
  have f2 : φ__law_digits K [.int c5, .lst (repD [.int 9] 48)] = .ok (.lst (rs.map .int)) := f2
  have shl : sh.length = 5 := hsh.1
  have s1 := hsh.2 1 (by simp)
  have s2 := hsh.2 2 (by simp)
  have s3 := hsh.2 3 (by simp)
  have s4 := hsh.2 4 (by simp)
  have k1 : cel [6, 64, 5, 8, 13] 1 = 64 := rfl
  have k2 : cel [6, 64, 5, 8, 13] 2 = 5 := rfl
  have k3 : cel [6, 64, 5, 8, 13] 3 = 8 := rfl
  have k4 : cel [6, 64, 5, 8, 13] 4 = 13 := rfl
  rw [k1] at s1
  rw [k2] at s2
  rw [k3] at s3
  rw [k4] at s4
  have i0 : atI (sh.map D.int) 0 = some (.int (cel sh 0)) := ix_cel (c := 0) (by omega)
  have i1 : atI (sh.map D.int) 1 = some (.int (cel sh 1)) := ix_cel (c := 1) (by omega)
  have i2 : atI (sh.map D.int) 2 = some (.int (cel sh 2)) := ix_cel (c := 2) (by omega)
  have i3 : atI (sh.map D.int) 3 = some (.int (cel sh 3)) := ix_cel (c := 3) (by omega)
  have i4 : atI (sh.map D.int) 4 = some (.int (cel sh 4)) := ix_cel (c := 4) (by omega)
  obtain ⟨d2, hd2, ed2⟩ : ∃ d2 : Nat, d2 ≤ 4 ∧ cel sh 2 = d2 := ⟨(cel sh 2).toNat, by omega, by omega⟩
  rw [ed2] at i2
  refine Got.seq1 (set_eq (d := .lst (sh.map .int)) (by simp [e4, f1])) ?_
  refine Got.seq1 (set_eq (d := .lst (rs.map .int)) (by simp [e5, f2])) ?_
  refine Got.seq1 (set_eq (d := .int (1 + cel sh 1)) (by simp [i1])) ?_
  refine Got.seq (R := fun δ' => ∃ n : Nat, (1 ≤ n ∧ n ≤ 64) ∧ δ' = [.va (.scr ns), .va (.lst (sh.map .int)), .va (.lst (rs.map .int)), .va (.int (n : Nat)), .un, .un, .un, .un, .un, .un]) ?_ ?_
  · refine Nxt.ifA (by simp [i0]) (fun _ => Nxt.set ⟨.int (1 + cel sh 3), by simp [i3], (1 + cel sh 3).toNat, by omega, ?_⟩) fun _ => Nxt.skip ⟨(1 + cel sh 1).toNat, by omega, ?_⟩
    · rw [show (((1 + cel sh 3).toNat : Nat) : Int) = 1 + cel sh 3 by omega]
      rfl
    · rw [show (((1 + cel sh 1).toNat : Nat) : Int) = 1 + cel sh 1 by omega]
      rfl
  rintro δ ⟨n, hn, rfl⟩
  refine Got.seq1 (δ' := [.va (.scr ns), .va (.lst (sh.map .int)), .va (.lst (rs.map .int)), .va (.int (n : Nat)), .tr 1 [], .un, .un, .un, .un, .un]) (by simp) ?_
  refine Got.seq (R := fun δ' => ∃ (w : Mat) (y5 y9 : Cell), δ' = [.va (.scr ns), .va (.lst (sh.map .int)), .va (.lst (rs.map .int)), .va (.int (n : Nat)), .tr 1 (w.map rowL), y5, .un, .un, .un, y9] ∧ IsM 4 d2 n w) ?_ ?_
  · refine Nxt.forR (n := d2) (fun i δ => ∃ (w : Mat) (y5 y9 : Cell), δ = [.va (.scr ns), .va (.lst (sh.map .int)), .va (.lst (rs.map .int)), .va (.int (n : Nat)), .tr 1 (w.map rowL), y5, .un, .un, .un, y9] ∧ IsM 4 i n w) (rng1_eq (n := d2) (by simp [i2]) (by omega)) ⟨[], .un, .un, rfl, rfl, fun r hr => by simp at hr, fun r hr => by simp at hr⟩ ?_
    rintro i hi δ ⟨w, y5, y9, rfl, hw⟩
    have e0 : ((0 : Int) + (i : Nat)) = (i : Nat) := by omega
    refine ⟨[.va (.scr ns), .va (.lst (sh.map .int)), .va (.lst (rs.map .int)), .va (.int (n : Nat)), .tr 1 (w.map rowL), .va (.int (i : Nat)), .un, .un, .un, y9], by rw [e0]; rfl, ?_⟩
    obtain ⟨r, g1, g2, g3⟩ := lst_ex (lc_any (δ := [.va (.scr ns), .va (.lst (sh.map .int)), .va (.lst (rs.map .int)), .va (.int (n : Nat)), .tr 1 (w.map rowL), .va (.int (i : Nat)), .un, .un, .un, y9]) D.int (fun x => x.natAbs ≤ 4) (i := 9) (n := n) (fa := dNL rng1 (dCons (dVar 3) dNil)) (f := (Dn.d2 oSub (dN oInt (dCons (Dn.d2 oIx (dVar 2) (Dn.d2 oMod (Dn.d2 oAdd (Dn.d2 oAdd (Dn.d2 oMul (dK (.int 11)) (dVar 5)) (Dn.d2 oMul (dK (.int 5)) (dVar 9))) (Dn.d2 oFdiv (dVar 9) (dK (.int 7)))) (dK (.int 48)))) dNil)) (dK (.int 4)))) (rng1_eq rfl (by omega)) fun b hb => by
      have mo1 : Dn.MulOk 11 (i : Int) := mulOk_lt (by decide) (by omega)
      have mo2 : Dn.MulOk 5 (b : Int) := mulOk_lt (by decide) (by omega)
      have d7 : DivOk 7 := by decide
      obtain ⟨x, hx, ex⟩ := ix_modL (rs := rs) (by omega) (11 * (i : Int) + 5 * (b : Int) + (b : Int).fdiv 7)
      rw [hrl] at ex
      have ex : atI (rs.map D.int) ((11 * (i : Int) + 5 * (b : Int) + (b : Int).fdiv 7) % 48) = some (.int x) := ex
      have := hrb x hx
      exact ⟨x - 4, by simp [mo1, mo2, d7, ex], by omega⟩)
    refine Nxt.at (appV_eq (s := 4) (n := 1) (d := rowL r) (ds := w.map rowL) rfl g1 (by rw [List.length_map, hw.len]; omega)) ⟨w ++ [r], _, _, by rw [List.map_append]; rfl, by simp [hw.len], fun x hx => ?_, fun x hx => ?_⟩
    · rcases List.mem_append.mp hx with hx | hx
      · exact hw.wd x hx
      · simp at hx
        subst hx
        exact g2
    · rcases List.mem_append.mp hx with hx | hx
      · exact hw.bd x hx
      · simp at hx
        subst hx
        exact g3
  rintro δ ⟨w, y5, y9, rfl, hw⟩
  refine Got.seq (R := fun δ' => ∃ (w : Mat) (y6 : Cell), δ' = [.va (.scr ns), .va (.lst (sh.map .int)), .va (.lst (rs.map .int)), .va (.int (n : Nat)), .tr 1 (w.map rowL), y5, y6, .un, .un, y9] ∧ ∃ q, Few n q w) ?_ ?_
  · by_cases hc : cel sh 0 = 0 ∧ 0 < d2
    · refine Nxt.ifT (by simp [i0, hc.1, hw.len, hc.2]) ?_
      obtain ⟨q, hq1, hq2⟩ := mod_nat (cel sh 4) (s := n) (by omega)
      obtain ⟨L, l1, l2⟩ := p__law_large (K := K) (c := c6) (m := 55) (by decide)
      have l1 : φ__law_large K [.int c6, .int 55] = .ok (.int L) := l1
      have np : (0 : Int) < (n : Nat) := by omega
      have np2 : 0 < n := by omega
      refine Nxt.seq1 (setA_ix (s := 4) (a := 6) (i := 0) (w := w) rfl rfl (by rw [hw.len]; exact hc.2) (by decide)) ?_
      exact Nxt.at (putT_al (s := 4) (i := 0) (j := q) (x := L) (w := w) rfl rfl (by simp [i4, np, np2, hq2]) (by simp [e6, l1]) (by rw [hw.len]; exact hc.2) (by rw [(isM_row hw hc.2).1]; exact hq1)) ⟨_, _, rfl, q, few_set hw hd2 hc.2 hq1 (by unfold wB; omega)⟩
    · refine Nxt.ifF ?_ (Nxt.skip ⟨w, _, rfl, 0, few_of hw hd2⟩)
      by_cases h0 : cel sh 0 = 0
      · have : ¬ 0 < d2 := fun z => hc ⟨h0, z⟩
        simp [i0, h0, hw.len]
        omega
      · simp [i0, h0]
  rintro δ ⟨w, y6, rfl, q, hf⟩
  by_cases hc1 : cel sh 0 = 1
  · obtain ⟨n2, hn2, en2⟩ : ∃ n2 : Nat, (1 ≤ n2 ∧ n2 ≤ 64) ∧ 1 + cel sh 1 % (40 + 24 * (if cel sh 4 = 0 then 1 else 0)) = n2 := by
      refine ⟨(1 + cel sh 1 % (40 + 24 * (if cel sh 4 = 0 then 1 else 0))).toNat, ?_, ?_⟩
      · split <;> omega
      · split <;> omega
    have mo1 : Dn.MulOk 24 1 := by decide
    have mo0 : Dn.MulOk 24 0 := by decide
    have hlast : (n2 : Int) - 1 = ((n2 - 1 : Nat) : Int) := by omega
    let t : Nat → Int := fun i => (d2 : Int) * (cel rs (i % 48) - 4)
    let m := if 0 < d2 then n2 - 1 else n2
    have hm : m ≤ n2 := by
      show (if 0 < d2 then n2 - 1 else n2) ≤ n2
      split <;> omega
    refine Got.seq (R := fun δ' => ∃ (y7 : Cell), δ' = [.va (.scr ns), .va (.lst (sh.map .int)), .va (.lst (rs.map .int)), .va (.int (n2 : Nat)), .ow ((uprW m n2 t).map rowL), y5, y6, y7, .un, y9]) ?_ ?_
    · refine Nxt.ifT (by simp [i0, hc1]) ?_
      refine Nxt.seq1 (set_eq (d := .int (n2 : Nat)) ?_) ?_
      · rw [← en2]
        by_cases h4 : cel sh 4 = 0
        · simp [i1, i4, h4, mo1]
        · simp [i1, i4, h4, mo0]
      refine Nxt.seq1 (set_eq (d := .int (m : Nat)) ?_) ?_
      · have em : (m : Int) = (n2 : Int) - (if 0 < d2 then 1 else 0) := by
          show (((if 0 < d2 then n2 - 1 else n2) : Nat) : Int) = _
          split <;> omega
        rw [em]
        by_cases h2 : 0 < d2
        · simp [i2, h2]
        · simp [i2, h2]
      refine Nxt.setF ⟨(uprW m n2 t).map rowL, ?_, _, rfl⟩
      refine (rowOf_lc (n := m) (fun i => rowL ((List.range n2).map fun j => uprV n2 t i j)) (rng1_eq (n := m) rfl (by omega)) fun i hi => ?_).trans (by simp [uprW, List.map_map, Function.comp_def])
      show (dLc _ _ _ _ _ _).bind _ = _
      rw [rowOf_lc (n := n2) (fun j => .int (uprV n2 t i j)) (rng1_eq (n := n2) rfl (by omega)) fun j hj => ?_]
      · simp [rowL, List.map_map, Function.comp_def]
      · obtain ⟨x, hx, ex⟩ := ix_modL (rs := rs) (by omega) (i : Int)
        rw [hrl] at ex
        have e48 : (i : Int) % (48 : Nat) = ((i % 48 : Nat) : Int) := by omega
        have exq : atI (rs.map D.int) ((i % 48 : Nat) : Int) = some (.int (cel rs (i % 48))) := ix_cel (by omega)
        have exq : atI (rs.map D.int) ((i : Int) % 48) = some (.int (cel rs (i % 48))) := by
          rw [← exq]
          congr 1
        have hxb := hrb _ (cel_mem (r := rs) (c := i % 48) (by omega))
        have mo2 : Dn.MulOk (d2 : Int) (if (j : Int) = (n2 : Int) - 1 then 1 else 0) := mulOk_lt (by omega) (by split <;> decide)
        have mo4 : Dn.MulOk ((d2 : Int) * (if (j : Int) = (n2 : Int) - 1 then 1 else 0)) (cel rs (i % 48) - 4) := mulOk_lt (by split <;> omega) (by omega)
        refine Eq.trans (b := Res.ok (.int ((if (i : Int) = (j : Int) then 1 else 0) - ((d2 : Int) * (if (j : Int) = (n2 : Int) - 1 then 1 else 0)) * (cel rs (i % 48) - 4)))) (by simp [i2, exq, mo2, mo4]) ?_
        refine congrArg (fun z => Res.ok (D.int z)) ?_
        show _ = (if i = j then 1 else 0) - (if j = n2 - 1 then (d2 : Int) * (cel rs (i % 48) - 4) else 0)
        have q1 : (if (i : Int) = (j : Int) then (1 : Int) else 0) = if i = j then 1 else 0 := by
          by_cases z : i = j
          · rw [if_pos z, if_pos (by omega)]
          · rw [if_neg z, if_neg (by omega)]
        rw [q1]
        by_cases hl : j = n2 - 1
        · rw [if_pos hl, if_pos (show (j : Int) = (n2 : Int) - 1 by omega), Int.mul_one]
        · rw [if_neg hl, if_neg (show ¬ (j : Int) = (n2 : Int) - 1 by omega), Int.mul_zero, Int.zero_mul]
    · rintro δ ⟨y7, rfl⟩
      show Got _ (dRet _ (fz 4 _))
      refine Got.ret ⟨_, rfl, n2, uprW m n2 t, rfl, hn2.1, hn2.2, fun r hr => ?_, ?_, .inr ⟨upr_told hn2.1 ?_, ?_⟩⟩
      · obtain ⟨i, _, rfl⟩ := List.mem_map.mp hr
        simp
      · simp [uprW]
        omega
      · by_cases h2 : 0 < d2
        · exact .inr (if_pos h2)
        · refine .inl ⟨if_neg h2, fun i => ?_⟩
          show (d2 : Int) * _ = 0
          have : d2 = 0 := by omega
          rw [this]
          simp
      · have := upr_bd (m := m) (n := n2) (B := 19) (t := t) fun i hi => by
          have hxb := hrb _ (cel_mem (r := rs) (c := i % 48) (by omega))
          show ((d2 : Int) * (cel rs (i % 48) - 4)).natAbs ≤ 19
          rw [Int.natAbs_mul]
          have := Nat.mul_le_mul (show (d2 : Int).natAbs ≤ 4 by omega) (show (cel rs (i % 48) - 4).natAbs ≤ 4 by omega)
          omega
        exact this
  · refine Got.seq1 ((if_f (by simp [i0, hc1])).trans rfl) ?_
    show Got _ (dRet _ (fz 4 _))
    exact Got.ret ⟨_, rfl, n, w, rfl, hn.1, hn.2, hf.wd, by have := hf.len; omega, .inl ⟨q, hf⟩⟩
end
end Pf

namespace Pf
open PySem PySem.Spec PyProof.Rows L2 Dn
/-! ### numbers as texts -/
def istr (i : Int) : Str := Str.ofString (toString i)
def numT (i : Int) : List Nat := if i < 0 then 45 :: TL.numL i.natAbs else TL.numL i.natAbs
theorem tl_istr (i : Int) : TL.tl (istr i) = numT i := by
  unfold istr numT
  cases i with
  | ofNat n =>
    rw [if_neg (show ¬ Int.ofNat n < 0 from Int.not_lt.mpr (Int.natCast_nonneg n))]
    exact TL.tl_num n
  | negSucc n =>
    rw [if_pos (by omega)]
    have e1 : toString (Int.negSucc n) = "-" ++ toString (n + 1) := rfl
    have e2 := TL.tl_num (n + 1)
    have e3 : toString ((n + 1 : Nat) : Int) = toString (n + 1) := rfl
    rw [e3, TL.tl_ofString] at e2
    rw [e1, TL.tl_ofString, String.toList_append, List.map_append, e2]
    rfl
theorem numL_pos (n : Nat) : 0 < (TL.numL n).length := List.length_pos_iff.mpr (TL.numL_ne n)
theorem numL_60 {n : Nat} (h : n < 10 ^ 60) : (TL.numL n).length ≤ 60 := TL.numL_len (by decide) h
theorem istr_len {i : Int} (h : i.natAbs < 10 ^ 60) : (istr i).length ≤ 61 := by
  rw [TL.len_tl, tl_istr]
  have := numL_60 h
  unfold numT
  split
  · simp
    omega
  · omega
theorem numL_head : ∀ {n : Nat}, 0 < n → ∃ c r, TL.numL n = c :: r ∧ c ≠ 48 := by
  intro n
  induction n using Nat.strongRecOn with
  | ind n ih =>
    intro h
    by_cases hn : n < 10
    · exact ⟨48 + n, [], TL.numL_lt hn, by omega⟩
    · obtain ⟨c, r, e, hc⟩ := ih (n / 10) (by omega) (by omega)
      refine ⟨c, r ++ [48 + n % 10], ?_, hc⟩
      rw [TL.numL_step (by omega), e]
      rfl
theorem istr_int {i : Int} (h : i.natAbs < 10 ^ 60) : intText? (istr i) = some i := by
  have hl := istr_len h
  have et := tl_istr i
  unfold numT at et
  by_cases hi : i < 0
  · rw [if_pos hi] at et
    have := PySem.intText_neg (x := istr i) (cs := TL.numL i.natAbs) et (TL.numL_digits _) (TL.numL_ne _) (by omega)
    rw [this, TL.numL_val]
    congr 1
    omega
  · rw [if_neg hi] at et
    have e1 : (istr i).cps.toList = TL.numL i.natAbs := et
    have := PySem.intText_digits (x := istr i) (by rw [e1]; exact TL.numL_digits _) (by rw [e1]; exact TL.numL_ne _) (by omega)
    rw [this, e1, TL.numL_val]
    congr 1
    omega
theorem istr_free {i : Int} {s : Nat} (h : s ≠ 45) (h2 : s < 48 ∨ 57 < s) : s ∉ TL.tl (istr i) := by
  rw [tl_istr]
  unfold numT
  split
  · intro hm
    rcases List.mem_cons.mp hm with e | hm
    · exact h e
    · exact TL.numL_free h2 hm
  · exact TL.numL_free h2
theorem starts_minus (x : Str) : Txt.startswith x "-" = decide ((TL.tl x)[0]? = some 45) := by
  have e : ("-" : Str) = ⟨#[45]⟩ := by decide
  rw [e]
  have h := PySem.StrLaws.subAt_one x 45 0
  unfold Txt.startswith
  by_cases hc : (TL.tl x)[0]? = some 45
  · obtain ⟨h1, h2⟩ := h.mpr hc
    rw [h2, decide_eq_true hc, decide_eq_true h1]
    rfl
  · rw [decide_eq_false hc]
    cases hb : (decide (0 + (⟨#[45]⟩ : Str).length ≤ x.length) && Builtin.Str.subAt x ⟨#[45]⟩ 0) with
    | false => rfl
    | true =>
      obtain ⟨b1, b2⟩ := Bool.and_eq_true_iff.mp hb
      exact absurd (h.mp ⟨of_decide_eq_true b1, b2⟩) hc
theorem cut_one (x : Str) : TL.tl (cutS x (some 1) none) = (TL.tl x).drop 1 := by
  unfold cutS
  show (((x.cps.toList.drop (HT.sIx x.length 0 (some ((1 : Nat) : Int)))).take (HT.sIx x.length x.length none - HT.sIx x.length 0 (some ((1 : Nat) : Int))))).toArray.toList = _
  have e1 : HT.sIx x.length x.length none = x.length := rfl
  have hl : (TL.tl x).length = x.length := (TL.len_tl x).symm
  rw [e1, HT.sIx_nat, List.toList_toArray]
  by_cases h : 1 ≤ x.length
  · rw [Nat.min_eq_left h, List.take_of_length_le (by rw [List.length_drop]; show (TL.tl x).length - 1 ≤ _; omega)]
  · rw [Nat.min_eq_right (by omega)]
    have h0 : TL.tl x = [] := List.eq_nil_of_length_eq_zero (by omega)
    show ((TL.tl x).drop _).take _ = (TL.tl x).drop 1
    rw [h0]
    simp
section
variable {K : PySem.W.Frag}
theorem p_number_of {i : Int} (h : i.natAbs < 10 ^ 60) : φ_number_of K [.str (istr i)] = .ok (.int i) := by
  unfold φ_number_of
  rw [fnD_eq (by rfl)]
  show Dn.Ends (dn_number_of K [.va (.str (istr i)), .un, .un]) _
  unfold dn_number_of
  have hl := istr_len h
  have zl : 1000 ≤ sizeLine := by decide
  have hsz : (istr i).length ≤ sizeLine := by omega
  have l60 := numL_60 h
  have lp := numL_pos i.natAbs
  obtain ⟨y, ey, ely, esy⟩ : ∃ y : Str, dIte (dTest (dStarts (dVar 0) (dK (.str "-")))) (dCut (dVar 0) (dSoO (dK (.int 1))) dNoO) (dVar 0) [.va (.str (istr i)), .un, .un] = .ok (.str y) ∧ TL.tl y = TL.numL i.natAbs ∧ y.length = (TL.numL i.natAbs).length := by
    have et := tl_istr i
    unfold numT at et
    by_cases hi : i < 0
    · rw [if_pos hi] at et
      have sw : Txt.startswith (istr i) "-" = true := by rw [starts_minus, et]; rfl
      have hc := cut_one (istr i)
      rw [et] at hc
      refine ⟨cutS (istr i) (some 1) none, by simp [dTru, sw, hsz], hc, ?_⟩
      rw [TL.len_tl, hc]
      rfl
    · rw [if_neg hi] at et
      have sw : Txt.startswith (istr i) "-" = false := by
        rw [starts_minus, et]
        refine decide_eq_false fun z => ?_
        have hm : 45 ∈ TL.numL i.natAbs := List.mem_of_getElem? z
        exact TL.numL_free (by omega) hm
      exact ⟨istr i, by simp [dTru, sw], et, by rw [TL.len_tl, et]⟩
  have ysz : y.length ≤ sizeLine := by omega
  refine .seq (set_eq ey) ?_
  refine .seq (δ' := [.va (.str (istr i)), .va (.str y), .un]) ((if_f (or_f (by simp [ysz]; omega) (by simp [ysz]; omega))).trans rfl) ?_
  have cmp : dLc (dSigns (dVar 1)) (uName 2) dYes (d2 oIn (dVar 2) (dK (.str "0123456789"))) [2] [.va (.str (istr i)), .va (.str y), .un] = .ok ((TL.numL i.natAbs).map fun _ => D.bl true) := by
    have it : dSigns (dVar 1) [.va (.str (istr i)), .va (.str y), .un] = .ok ((TL.numL i.natAbs).map fun c => .str ⟨#[c]⟩) := by
      have e1 : dVar 1 [.va (.str (istr i)), .va (.str y), .un] = .ok (.str y) := rfl
      show (dVar 1 _).bind _ = _
      rw [e1]
      show (if y.cps.size ≤ sizeLine then Res.ok ((TL.tl y).map fun c => D.str ⟨#[c]⟩) else .no) = _
      rw [if_pos (show y.cps.size ≤ sizeLine from ysz), ely]
    show (dSigns (dVar 1) _).bind _ = _
    rw [it]
    show dComp _ _ _ _ _ = _
    rw [dComp_map _ (fun _ => .bl true) _ fun d hd => ?_]
    · simp [List.map_map, Function.comp_def]
    · obtain ⟨c, hc, rfl⟩ := List.mem_map.mp hd
      refine ⟨[.va (.str (istr i)), .va (.str y), .va (.str ⟨#[c]⟩)], rfl, rfl, ?_⟩
      have dg := TL.numL_digits _ c hc
      have hin : oIn (.str ⟨#[c]⟩) (.str "0123456789") = some (.bl true) := by
        have : c = 48 ∨ c = 49 ∨ c = 50 ∨ c = 51 ∨ c = 52 ∨ c = 53 ∨ c = 54 ∨ c = 55 ∨ c = 56 ∨ c = 57 := by omega
        rcases this with rfl | rfl | rfl | rfl | rfl | rfl | rfl | rfl | rfl | rfl <;> rfl
      simp [hin]
  have al : oAll [.lst ((TL.numL i.natAbs).map fun _ => D.bl true)] = some (.bl true) := by
    have e : ((TL.numL i.natAbs).map fun _ => D.bl true) = ((TL.numL i.natAbs).map fun _ => true).map D.bl := by simp [List.map_map, Function.comp_def]
    show (blsD _).map _ = _
    rw [e, blsD_map]
    simp
  refine .seq (δ' := [.va (.str (istr i)), .va (.str y), .un]) ((if_f (by simp [-oAll, -dLc, cmp, al, dTru])).trans rfl) ?_
  refine .seq (δ' := [.va (.str (istr i)), .va (.str y), .un]) ((if_f ?_).trans rfl) ?_
  · by_cases h0 : i = 0
    · subst h0
      have e0 : TL.numL (Int.natAbs 0) = [48] := TL.numL_lt (by decide)
      rw [e0] at esy ely
      have l0 : (istr 0).length = 1 := by
        rw [TL.len_tl, tl_istr]
        rfl
      have a0 : atI y.cps.toList 0 = some 48 := by
        have : y.cps.toList = [48] := ely
        rw [this]
        rfl
      have e1 : dBool (d2 oEq (d2 oIx (dVar 1) (dK (.int 0))) (dK (.str "0"))) [.va (.str (istr 0)), .va (.str y), .un] = .ok true := by
        have e2 : ((⟨#[48]⟩ : Str) = "0") = True := by
          simp
          decide
        simp [ysz, a0, e2]
      rw [and_eq e1 (or_f (by simp [ysz, esy]) (by simp [l0]))]
      rfl
    · obtain ⟨c, r, ec, hc⟩ := numL_head (n := i.natAbs) (by omega)
      have a0 : atI y.cps.toList 0 = some c := by
        have : y.cps.toList = c :: r := by rw [← ec]; exact ely
        rw [this]
        exact atI_in (i := 0) rfl
      have e1 : dBool (d2 oEq (d2 oIx (dVar 1) (dK (.int 0))) (dK (.str "0"))) [.va (.str (istr i)), .va (.str y), .un] = .ok false := by
        have e2 : ((⟨#[c]⟩ : Str) = "0") = False := by
          simp only [eq_iff_iff, iff_false]
          intro z
          have := congrArg (fun s : Str => s.cps.toList) z
          have : [c] = [48] := this
          injection this with this
          exact hc this
        simp [ysz, a0, e2]
      show (dBool _ _).bind _ = _
      rw [e1]
      rfl
  · have := istr_int h
    exact .ret (by simp [this]; rw [if_pos (by omega)]; rfl) ⟨_, rfl⟩
end
end Pf

namespace Pf
open PySem PySem.Spec PyProof.Rows L2 Dn
/-! ### lines -/
def rowS (r : List Int) : Str := Txt.join " " (r.map istr)
def headS (word : Str) (r : List Int) : Str := word ++ rowS r
def tabS (w : Mat) : List Str := "table" :: w.map rowS
def kitS (ws : List Mat) (h n : Nat) : List Str := headS "kit " [(h : Nat), (n : Nat), (ws.length : Nat)] :: (ws.map tabS).flatten
def roomS (n : Nat) (T : Mat) : List Str := headS "room " [(n : Nat), (T.length : Nat)] :: T.map rowS
/-- numbers that have at most sixty figures -/
def Fit (r : List Int) : Prop := ∀ x ∈ r, x.natAbs < 10 ^ 60
theorem join_len (y : Str) : ∀ parts : List Str, (Txt.join y parts).length ≤ (parts.map (·.length)).sum + parts.length * y.length
  | [] => by
    rw [TL.len_tl, TL.join_eq, TL.tl_join]
    exact Nat.zero_le _
  | [p] => by
    rw [TL.len_tl, TL.join_eq, TL.tl_join]
    show (TL.tl p).length ≤ _
    rw [← TL.len_tl]
    simp
  | p :: q :: r => by
    have ih := join_len y (q :: r)
    rw [TL.len_tl, TL.join_eq, TL.tl_join] at ih ⊢
    show (TL.tl p ++ (TL.tl y ++ TL.joinL (TL.tl y) ((q :: r).map TL.tl))).length ≤ _
    rw [List.length_append, List.length_append, ← TL.len_tl, ← TL.len_tl]
    show _ ≤ p.length + ((q :: r).map (·.length)).sum + ((q :: r).length + 1) * y.length
    rw [Nat.add_mul]
    omega
theorem sum_le {α : Type} (f : α → Nat) (B : Nat) : ∀ l : List α, (∀ x ∈ l, f x ≤ B) → (l.map f).sum ≤ l.length * B
  | [], _ => by simp
  | x :: l, h => by
    have := sum_le f B l fun y hy => h y (List.mem_cons_of_mem _ hy)
    have := h x List.mem_cons_self
    rw [List.map_cons, List.sum_cons, List.length_cons, Nat.add_mul]
    omega
theorem sp_len : (" " : Str).length = 1 := by decide
theorem nl_len : ("\n" : Str).length = 1 := by decide
theorem row_sum {r : List Int} (h : Fit r) : ((r.map istr).map (·.length)).sum ≤ r.length * 61 := by
  rw [List.map_map]
  exact sum_le _ 61 r fun x hx => istr_len (h x hx)
theorem rowS_len {r : List Int} (h : Fit r) : (rowS r).length ≤ r.length * 62 := by
  have h1 := join_len " " (r.map istr)
  have h2 := row_sum h
  rw [sp_len, List.length_map] at h1
  show (Txt.join " " (r.map istr)).length ≤ _
  omega
theorem tl_sp : TL.tl (" " : Str) = [32] := by decide
theorem tl_nl : TL.tl ("\n" : Str) = [10] := by decide
theorem joinL_mem {S : List Nat} {c : Nat} : ∀ {parts : List (List Nat)}, c ∈ TL.joinL S parts → c ∈ S ∨ ∃ p ∈ parts, c ∈ p
  | [], h => by cases h
  | [p], h => .inr ⟨p, List.mem_cons_self, h⟩
  | p :: q :: r, h => by
    have h : c ∈ p ++ (S ++ TL.joinL S (q :: r)) := h
    rcases List.mem_append.mp h with h | h
    · exact .inr ⟨p, List.mem_cons_self, h⟩
    · rcases List.mem_append.mp h with h | h
      · exact .inl h
      · rcases joinL_mem h with h | ⟨z, hz, h⟩
        · exact .inl h
        · exact .inr ⟨z, List.mem_cons_of_mem _ hz, h⟩
theorem rowS_free {r : List Int} : 10 ∉ TL.tl (rowS r) := by
  intro h
  unfold rowS at h
  rw [TL.join_eq, TL.tl_join, tl_sp] at h
  rcases joinL_mem h with h | ⟨p, hp, h⟩
  · simp at h
  · obtain ⟨s, hs, rfl⟩ := List.mem_map.mp hp
    obtain ⟨i, _, rfl⟩ := List.mem_map.mp hs
    exact istr_free (by decide) (by decide) h
theorem split_row {r : List Int} (hr : r ≠ []) : Txt.split (rowS r) " " = r.map istr :=
  TL.split_join (s := 32) (S := []) tl_sp (by decide +kernel) (by simpa using hr) fun p hp => by
    obtain ⟨i, _, rfl⟩ := List.mem_map.mp hp
    exact istr_free (by decide) (by decide)
/-- a head's line: the word, then the numbers -/
theorem head_join {word w0 : Str} {r : List Int} (hr : r ≠ []) (hw : word = w0 ++ " ") : headS word r = Txt.join " " (w0 :: r.map istr) := by
  refine TL.ext_tl ?_
  unfold headS rowS
  rw [TL.tl_append, hw, TL.tl_append, TL.join_eq, TL.join_eq, TL.tl_join, TL.tl_join, List.map_cons]
  cases r with
  | nil => exact absurd rfl hr
  | cons a r =>
    show TL.tl w0 ++ TL.tl " " ++ TL.joinL (TL.tl " ") _ = TL.tl w0 ++ (TL.tl " " ++ TL.joinL (TL.tl " ") _)
    rw [List.append_assoc]
    rfl
theorem split_head {word w0 : Str} {r : List Int} (hr : r ≠ []) (hw : word = w0 ++ " ") (h0 : 32 ∉ TL.tl w0) : Txt.split (headS word r) " " = w0 :: r.map istr := by
  rw [head_join hr hw]
  refine TL.split_join (s := 32) (S := []) tl_sp (by decide +kernel) (by simp) fun p hp => ?_
  rcases List.mem_cons.mp hp with rfl | hp
  · exact h0
  · obtain ⟨i, _, rfl⟩ := List.mem_map.mp hp
    exact istr_free (by decide) (by decide)
theorem head_free {word : Str} {r : List Int} (hw : 10 ∉ TL.tl word) : 10 ∉ TL.tl (headS word r) := by
  unfold headS
  rw [TL.tl_append]
  intro h
  rcases List.mem_append.mp h with h | h
  · exact hw h
  · exact rowS_free h
theorem str_app_len (x y : Str) : (x ++ y).length = x.length + y.length := by
  rw [TL.len_tl, TL.tl_append, List.length_append, ← TL.len_tl, ← TL.len_tl]
theorem kitS_free {ws : List Mat} {h n : Nat} : ∀ l ∈ kitS ws h n, 10 ∉ TL.tl l := by
  intro l hl
  rcases List.mem_cons.mp hl with rfl | hl
  · exact head_free (by decide)
  · obtain ⟨b, hb, hl⟩ := List.mem_flatten.mp hl
    obtain ⟨w, _, rfl⟩ := List.mem_map.mp hb
    rcases List.mem_cons.mp hl with rfl | hl
    · decide
    · obtain ⟨r, _, rfl⟩ := List.mem_map.mp hl
      exact rowS_free
theorem roomS_free {n : Nat} {T : Mat} : ∀ l ∈ roomS n T, 10 ∉ TL.tl l := by
  intro l hl
  rcases List.mem_cons.mp hl with rfl | hl
  · exact head_free (by decide)
  · obtain ⟨r, _, rfl⟩ := List.mem_map.mp hl
    exact rowS_free
/-- the whole text -/
def txt (ls : List Str) : Str := Txt.join "\n" ls
theorem split_txt {ls : List Str} (h0 : ls ≠ []) (h : ∀ l ∈ ls, 10 ∉ TL.tl l) : Txt.split (txt ls) "\n" = ls := TL.split_join (s := 10) (S := []) tl_nl (by decide +kernel) h0 h
/-- few enough lines, short enough -/
def Short (ls : List Str) : Prop := ls.length ≤ 400 ∧ ∀ l ∈ ls, l.length ≤ 5000
theorem Short.sum {ls : List Str} (h : Short ls) : (ls.map (·.length)).sum + ls.length * ("\n" : Str).length ≤ 16777216 := by
  have := sum_le (fun l : Str => l.length) 5000 ls h.2
  have h1 := h.1
  rw [nl_len]
  omega
theorem Short.len {ls : List Str} (h : Short ls) : (txt ls).length + 2 ≤ sizeLine := by
  have h1 := join_len "\n" ls
  have h2 := sum_le (fun l : Str => l.length) 5000 ls h.2
  have h3 := h.1
  rw [nl_len] at h1
  have : 3000000 ≤ sizeLine := by decide
  show (Txt.join "\n" ls).length + 2 ≤ _
  omega
theorem fit_nats {r : List Int} (h : ∀ x ∈ r, x.natAbs ≤ 1000) : Fit r := fun x hx => Nat.lt_of_le_of_lt (h x hx) (by decide)
theorem sum_blocks {ws : List Mat} {h : Nat} (hh : ∀ w ∈ ws, w.length = h) : ((ws.map tabS).flatten).length = ws.length * (h + 1) := by
  induction ws with
  | nil => simp
  | cons w ws ih =>
    rw [List.map_cons, List.flatten_cons, List.length_append, ih fun x hx => hh x (List.mem_cons_of_mem _ hx), List.length_cons, Nat.add_mul]
    have : (tabS w).length = h + 1 := by simp [tabS, hh w List.mem_cons_self]
    rw [this]
    omega
section
variable {K : PySem.W.Frag}
theorem lst_strs (ls : List Str) : strsD (ls.map D.str) = some ls := strsD_map ls
theorem p_row_line' {d : D} {r : List Int} (hs : IsSeq d (r.map .int)) (hf : Fit r) (hl : r.length ≤ 64) {f : Sto → Out} {N : List Str} (e : f = dRet (dJoin (dK (.str " ")) (dSq (dLst (dLc (dItems (dVar 0)) (uName 1) dYes (dN oStr (dCons (dVar 1) dNil)) [1]))))) : finO (f [.va d, .un]) = .ok (.str (rowS r)) := by
  subst e
  have cmp : dLc (dItems (dVar 0)) (uName 1) dYes (dN oStr (dCons (dVar 1) dNil)) [1] [.va d, .un] = .ok ((r.map istr).map .str) := by
    have it : dItems (dVar 0) [.va d, .un] = .ok (r.map .int) := seq_items hs rfl
    show (dItems (dVar 0) _).bind _ = _
    rw [it]
    show dComp _ _ _ _ _ = _
    rw [dComp_map _ (fun d => match d with | .int i => .str (istr i) | d => d) _ fun d2 hd => ?_]
    · simp [List.map_map, Function.comp_def]
    · obtain ⟨i, hi, rfl⟩ := List.mem_map.mp hd
      have h1 := hf i hi
      have h2 : i.natAbs.log2 < 1920 := Nat.lt_trans (log2_lt (k := 200) (by omega) (by decide)) (by decide)
      exact ⟨[.va d, .va (.int i)], rfl, rfl, by simp [h2, istr]⟩
  have hj : (((r.map istr).map (·.length)).sum + (r.map istr).length * (" " : Str).length ≤ 16777216) = True := by
    have := row_sum hf
    simp only [eq_iff_iff, iff_true]
    rw [sp_len, List.length_map]
    omega
  have e2 : dSq (dLst (dLc (dItems (dVar 0)) (uName 1) dYes (dN oStr (dCons (dVar 1) dNil)) [1])) [.va d, .un] = .ok (false, (r.map istr).map .str) := by
    show ((dLc _ _ _ _ _ _).bind _).bind _ = _
    rw [cmp]
    rfl
  show finO ((Res.bind _ _).out _) = _
  have e3 : dK (.str " ") [.va d, .un] = .ok (.str " ") := rfl
  rw [e3]
  show finO (((dSq _ _).bind _).out _) = _
  rw [e2]
  show finO ((Res.opt ((strsD ((r.map istr).map D.str)).bind _)).out _) = _
  rw [lst_strs]
  show finO ((Res.opt (if ((r.map istr).map (·.length)).sum + (r.map istr).length * (" " : Str).length ≤ 16777216 then _ else none)).out _) = _
  rw [if_pos (of_eq_true hj)]
  rfl
theorem p_row_line {d : D} {r : List Int} (hs : IsSeq d (r.map .int)) (hf : Fit r) (hl : r.length ≤ 64) : φ_row_line K [d] = .ok (.str (rowS r)) := by
  unfold φ_row_line
  rw [fnD_eq (by rfl)]
  exact p_row_line' (N := []) hs hf hl rfl
theorem p__law_row_line {d : D} {r : List Int} (hs : IsSeq d (r.map .int)) (hf : Fit r) (hl : r.length ≤ 64) : φ__law_row_line K [d] = .ok (.str (rowS r)) := by
  unfold φ__law_row_line
  rw [fnD_eq (by rfl)]
  exact p_row_line' (N := []) hs hf hl rfl
/-- lines of rows -/
theorem lines_rows {φ : List D → Res D} (hφ : ∀ {d : D} {r : List Int}, IsSeq d (r.map .int) → Fit r → r.length ≤ 64 → φ [d] = .ok (.str (rowS r))) {δ : Sto} {i : Nat} (hi : i < δ.length) : ∀ {ds : List D} {w : Mat}, RowsAre ds w → (∀ r ∈ w, Fit r ∧ r.length ≤ 64) → dComp (uName i) dYes (dCall φ [] (dCons (dVar i) dNil)) ds δ = .ok ((w.map rowS).map .str)
  | _, _, .nil, _ => rfl
  | _, _, @RowsAre.cons d r ds w h1 h2, hf => by
    rw [dComp_cons]
    have hr := hf r List.mem_cons_self
    have e0 : dCons (dVar i) dNil (δ.set i (.va d)) = .ok [d] := by simp [List.getElem?_set_self hi]
    have e : dCall φ [] (dCons (dVar i) dNil) (δ.set i (.va d)) = .ok (.str (rowS r)) := by
      show (dCons _ _ _).bind _ = _
      rw [e0]
      exact hφ h1 hr.1 hr.2
    show (dYes _).noex.bind _ = _
    simp only [dYes, Res.noex_ok, Res.bind_ok, if_true, e, lines_rows hφ hi h2 fun r hr => hf r (List.mem_cons_of_mem _ hr)]
    rfl
theorem rowsAre_T (w : Mat) : RowsAre (w.map rowT) w := by
  induction w with
  | nil => exact .nil
  | cons r w ih => exact .cons (.tup _) ih
theorem rowsAre_L (w : Mat) : RowsAre (w.map rowL) w := by
  induction w with
  | nil => exact .nil
  | cons r w ih => exact .cons (.lst _) ih
end
end Pf

namespace Pf
open PySem PySem.Spec PyProof.Rows L2 Dn
/-- a kit's tables that are well -/
structure KitG (ws : List Mat) (h n : Nat) : Prop where
  m0 : 0 < ws.length
  m40 : ws.length ≤ 40
  h0 : 0 < h
  h8 : h ≤ 8
  n0 : 0 < n
  n8 : n ≤ 8
  k : IsK (10 ^ 60 - 1) h n ws
theorem tabsAre_L (ws : List Mat) : TabsAre (ws.map matL) ws := by
  induction ws with
  | nil => exact .nil
  | cons w ws ih => exact .cons ⟨_, .lst _, rowsAre_L w⟩ ih
theorem tabsAre_T (ws : List Mat) : TabsAre (ws.map matT) ws := by
  induction ws with
  | nil => exact .nil
  | cons w ws ih => exact .cons ⟨_, .tup _, rowsAre_T w⟩ ih
theorem KitG.ok {ws : List Mat} {h n : Nat} (g : KitG ws h n) {d : D} {ds : List D} (hs : IsSeq d ds) (hr : TabsAre ds ws) : KitOk d ws h n where
  is := ⟨⟨ds, hs, hr⟩, g.m0, g.h0, g.n0, fun w hw => (g.k w hw).len, fun w hw => (g.k w hw).wd⟩
  m40 := g.m40
  h8 := g.h8
  n8 := g.n8
  big := fun w hw r hr x hx => by have := (g.k w hw).bd r hr x hx; omega
theorem KitG.fit {ws : List Mat} {h n : Nat} (g : KitG ws h n) : ∀ w ∈ ws, ∀ r ∈ w, Fit r ∧ r.length ≤ 64 := fun w hw r hr => by
  refine ⟨fun x hx => ?_, ?_⟩
  · have := (g.k w hw).bd r hr x hx
    omega
  · have := (g.k w hw).wd r hr
    have := g.n8
    omega
theorem KitG.short {ws : List Mat} {h n : Nat} (g : KitG ws h n) : Short (kitS ws h n) := by
  have h8 := g.h8
  have n8 := g.n8
  have m40 := g.m40
  refine ⟨?_, fun l hl => ?_⟩
  · show ((ws.map tabS).flatten).length + 1 ≤ 400
    rw [sum_blocks fun w hw => (g.k w hw).len]
    have := Nat.mul_le_mul m40 (show h + 1 ≤ 9 by omega)
    omega
  · rcases List.mem_cons.mp hl with rfl | hl
    · unfold headS
      rw [str_app_len]
      have := rowS_len (r := [(h : Int), (n : Int), (ws.length : Int)]) (fit_nats (by simp; omega))
      have e : ("kit " : Str).length = 4 := by decide
      simp only [List.length_cons, List.length_nil] at this
      omega
    · obtain ⟨b, hb, hl⟩ := List.mem_flatten.mp hl
      obtain ⟨w, hw, rfl⟩ := List.mem_map.mp hb
      rcases List.mem_cons.mp hl with rfl | hl
      · decide
      · obtain ⟨r, hr, rfl⟩ := List.mem_map.mp hl
        have := rowS_len (g.fit w hw r hr).1
        have := (g.k w hw).wd r hr
        omega
/-- a room's rows that are well -/
structure RoomG (n : Nat) (T : Mat) : Prop where
  n1 : 1 ≤ n
  n64 : n ≤ 64
  told : Told n T
  fit : ∀ r ∈ T, Fit r
theorem RoomG.wd {n : Nat} {T : Mat} (g : RoomG n T) : Wide n T := by
  obtain ⟨p, h⟩ := g.told
  exact h.wd
theorem told_len {n : Nat} {T : Mat} (h : Told n T) : T.length ≤ n := by
  obtain ⟨p, h⟩ := h
  have key : ∀ i, i < T.length → i ≤ p i := by
    intro i
    induction i with
    | zero => intro _; exact Nat.zero_le _
    | succ i ih =>
      intro hi
      have h1 := ih (by omega)
      have h2 := h.asc i (i + 1) (by omega) hi
      omega
  by_cases h0 : T.length = 0
  · omega
  · have h1 := key (T.length - 1) (by omega)
    have h2 := h.lt (T.length - 1) (by omega)
    omega
theorem RoomG.short {n : Nat} {T : Mat} (g : RoomG n T) : Short (roomS n T) := by
  have h1 := g.n64
  have h2 := told_len g.told
  refine ⟨?_, fun l hl => ?_⟩
  · show (T.map rowS).length + 1 ≤ 400
    rw [List.length_map]
    omega
  · rcases List.mem_cons.mp hl with rfl | hl
    · unfold headS
      rw [str_app_len]
      have := rowS_len (r := [(n : Int), (T.length : Int)]) (fit_nats (by simp; omega))
      have e : ("room " : Str).length = 5 := by decide
      simp only [List.length_cons, List.length_nil] at this
      omega
    · obtain ⟨r, hr, rfl⟩ := List.mem_map.mp hl
      have := rowS_len (g.fit r hr)
      have := g.wd r hr
      omega
theorem lst_of_lc' {f : Sto → Res (List D)} {δ : Sto} {ds : List D} (h : f δ = .ok ds) : dLst f δ = .ok (.lst ds) := by
  show (f δ).bind _ = _
  rw [h]
  rfl
theorem big_line : 100000 ≤ sizeLine := by decide
section
variable {K : PySem.W.Frag}
theorem lst_add {x y : List D} (h : x.length + y.length ≤ 1000) : oAdd (.lst x) (.lst y) = some (.lst (x ++ y)) := by
  have := big_line
  exact if_pos (by omega)
theorem str_add {x y : Str} (h : x.length + y.length ≤ 10000) : oAdd (.str x) (.str y) = some (.str (x ++ y)) := by
  have := big_line
  exact if_pos (by omega)
theorem p_table_lines {d : D} {ds : List D} {w : Mat} (hs : IsSeq d ds) (hr : RowsAre ds w) (hf : ∀ r ∈ w, Fit r ∧ r.length ≤ 64) (hl : w.length ≤ 64) : φ_table_lines K [d] = .ok (.lst ((tabS w).map .str)) := by
  unfold φ_table_lines
  rw [fnD_eq (by rfl)]
  show Dn.Ends (dn_table_lines K [.va d, .un]) _
  unfold dn_table_lines
  refine .ret ?_ ⟨_, rfl⟩
  have e1 : dLst (dFl (dCons (dK (.str "table")) dNil)) [.va d, .un] = .ok (.lst [.str "table"]) := by simp
  have e2 : dLst (dLc (dItems (dVar 0)) (uName 1) dYes (dCall (φ_row_line K) [] (dCons (dVar 1) dNil)) [1]) [.va d, .un] = .ok (.lst ((w.map rowS).map .str)) := by
    refine lst_of_lc' ?_
    have it : dItems (dVar 0) [.va d, .un] = .ok ds := seq_items hs rfl
    show (dItems (dVar 0) _).bind _ = _
    rw [it]
    exact lines_rows (fun h1 h2 h3 => p_row_line h1 h2 h3) (by simp) hr hf
  show (dLst _ _).bind _ = _
  rw [e1]
  show (dLst _ _).bind _ = _
  rw [e2]
  show Res.opt (oAdd _ _) = _
  rw [lst_add (by simp; omega)]
  rfl
end
end Pf

namespace Pf
open PySem PySem.Spec PyProof.Rows L2 Dn
section
variable {K : PySem.W.Frag}
theorem ext_eq {i : Nat} {f : Sto → Res (Bool × List D)} {δ : Sto} {ds es : List D} (e1 : δ[i]? = some (.ow ds)) (e2 : f δ = .ok (false, es)) (hl : ds.length + es.length ≤ 1000) : dExt i f δ = .nx (δ.set i (.ow (ds ++ es))) := by
  show (δ.own i).out _ = _
  have : δ.own i = .ok ds := by unfold Sto.own; rw [e1]
  rw [this]
  show (f δ).out _ = _
  rw [e2]
  have := big_line
  exact if_pos (by omega)
theorem joined {f : Sto → Res (Bool × List D)} {g : Sto → Res D} {δ : Sto} {b : Bool} {ls : List Str} (eg : g δ = .ok (.str "\n")) (e : f δ = .ok (b, ls.map .str)) (h : Short ls) : dJoin g f δ = .ok (.str (txt ls)) := by
  show (g δ).bind _ = _
  rw [eg]
  show ((f δ).bind _) = _
  rw [e]
  show Res.opt ((strsD (ls.map D.str)).bind _) = _
  rw [strsD_map]
  show Res.opt (if (ls.map (·.length)).sum + ls.length * ("\n" : Str).length ≤ 16777216 then _ else none) = _
  rw [if_pos h.sum]
  rfl
theorem flat_len {ws : List Mat} {h : Nat} (hh : ∀ w ∈ ws, w.length = h) (h8 : h ≤ 8) (m : ws.length ≤ 40) : ((ws.map tabS).flatten).length ≤ 360 := by
  rw [sum_blocks hh]
  have := Nat.mul_le_mul m (show h + 1 ≤ 9 by omega)
  omega
theorem p_kit_lines {ws : List Mat} {h n : Nat} (g : KitG ws h n) : φ_kit_lines K [kitD K ws h n] = .ok (.lst ((kitS ws h n).map .str)) := by
  unfold φ_kit_lines
  rw [fnD_eq (by rfl)]
  have h8 := g.h8
  have n8 := g.n8
  have m40 := g.m40
  show Dn.Ends (dn_kit_lines K [.va (kitD K ws h n), .un, .un]) _
  unfold dn_kit_lines
  have f1 : dFld (He.ga K "Kit") "high" (dVar 0) [.va (kitD K ws h n), .un, .un] = .ok (.int (h : Nat)) := fld_obj rfl (kit_high ws h n)
  have f2 : dFld (He.ga K "Kit") "wide" (dVar 0) [.va (kitD K ws h n), .un, .un] = .ok (.int (n : Nat)) := fld_obj rfl (kit_wide ws h n)
  have f3 : dFld (He.ga K "Kit") "many" (dVar 0) [.va (kitD K ws h n), .un, .un] = .ok (.int (ws.length : Nat)) := fld_obj rfl (kit_many ws h n)
  have rl : φ_row_line K [.tup [.int (h : Nat), .int (n : Nat), .int (ws.length : Nat)]] = .ok (.str (rowS [(h : Int), (n : Int), (ws.length : Int)])) := p_row_line (r := [(h : Int), (n : Int), (ws.length : Int)]) (.tup _) (fit_nats (by simp; omega)) (by simp)
  have sa : oAdd (.str "kit ") (.str (rowS [(h : Int), (n : Int), (ws.length : Int)])) = some (.str (headS "kit " [(h : Int), (n : Int), (ws.length : Int)])) := str_add (by
    have := rowS_len (r := [(h : Int), (n : Int), (ws.length : Int)]) (fit_nats (by simp; omega))
    have e : ("kit " : Str).length = 4 := by decide
    simp only [List.length_cons, List.length_nil] at this
    omega)
  refine .seq (δ' := [.va (kitD K ws h n), .ow [.str (headS "kit " [(h : Int), (n : Int), (ws.length : Int)])], .un]) ?_ ?_
  · have e : dFl (dCons (d2 oAdd (dK (.str "kit ")) (dCall (φ_row_line K) [] (dCons (dTup (dCons (dFld (He.ga K "Kit") "high" (dVar 0)) (dCons (dFld (He.ga K "Kit") "wide" (dVar 0)) (dCons (dFld (He.ga K "Kit") "many" (dVar 0)) dNil)))) dNil))) dNil) [.va (kitD K ws h n), .un, .un] = .ok [.str (headS "kit " [(h : Int), (n : Int), (ws.length : Int)])] := by
      simp [-dFld, -oAdd, f1, f2, f3, rl, sa]
    show (dFl _ _).out _ = _
    rw [e]
    rfl
  have lp : ∃ y, dFor (dItems (dFld (He.ga K "Kit") "tables" (dVar 0))) (uName 2) (dExt 1 (dSq (dCall (φ_table_lines K) [] (dCons (dVar 2) dNil)))) [.va (kitD K ws h n), .ow [.str (headS "kit " [(h : Int), (n : Int), (ws.length : Int)])], .un] = .nx [.va (kitD K ws h n), .ow ((kitS ws h n).map .str), y] := by
    have it : dItems (dFld (He.ga K "Kit") "tables" (dVar 0)) [.va (kitD K ws h n), .ow [.str (headS "kit " [(h : Int), (n : Int), (ws.length : Int)])], .un] = .ok (ws.map matT) := by
      have f4 : dFld (He.ga K "Kit") "tables" (dVar 0) [.va (kitD K ws h n), .ow [.str (headS "kit " [(h : Int), (n : Int), (ws.length : Int)])], .un] = .ok (.tup (ws.map matT)) := fld_obj rfl (kit_tables ws h n)
      show (dFld _ _ _ _).bind _ = _
      rw [f4]
      rfl
    rw [for_eq it]
    have hlen := fun w hw => (g.k w hw).len
    refine dLoop_wp (fun o => ∃ y, o = .nx [.va (kitD K ws h n), .ow ((kitS ws h n).map .str), y]) (fun ds δ => ∃ (us vs : List Mat) (y : Cell), ws = us ++ vs ∧ ds = vs.map matT ∧ δ = [.va (kitD K ws h n), .ow ((headS "kit " [(h : Int), (n : Int), (ws.length : Int)] :: (us.map tabS).flatten).map .str), y]) ?_ ?_ _ _ ⟨[], ws, .un, rfl, rfl, rfl⟩
    · rintro d ds δ ⟨us, vs, y, e1, e2, rfl⟩
      cases vs with
      | nil => cases e2
      | cons v vs =>
        cases e2
        have hv : v ∈ ws := by rw [e1]; simp
        have tl := p_table_lines (K := K) (d := matT v) (.tup _) (rowsAre_T v) (g.fit v hv) (by rw [hlen v hv]; omega)
        refine ⟨[.va (kitD K ws h n), .ow ((headS "kit " [(h : Int), (n : Int), (ws.length : Int)] :: (us.map tabS).flatten).map .str), .va (matT v)], rfl, .inl ⟨_, .inl (ext_eq (ds := (headS "kit " [(h : Int), (n : Int), (ws.length : Int)] :: (us.map tabS).flatten).map .str) (es := (tabS v).map .str) rfl ?_ ?_), us ++ [v], vs, .va (matT v), by rw [e1]; simp, rfl, ?_⟩⟩
        · simp [tl]
        · have h1 : ((us.map tabS).flatten).length ≤ 360 := flat_len (fun w hw => hlen w (by rw [e1]; exact List.mem_append_left _ hw)) h8 (by have := congrArg List.length e1; simp at this; omega)
          have h2 : (tabS v).length = h + 1 := by simp [tabS, hlen v hv]
          rw [List.length_map, List.length_map, List.length_cons, h2]
          omega
        · simp [List.map_append, List.flatten_append]
    · rintro δ ⟨us, vs, y, e1, e2, rfl⟩
      cases vs with
      | nil =>
        rw [List.append_nil] at e1
        subst e1
        exact ⟨y, rfl⟩
      | cons v vs => cases e2
  obtain ⟨y, lp⟩ := lp
  refine .seq lp ?_
  show Dn.Ends (dRet (dVar 1) (fz 1 _)) _
  exact .ret rfl ⟨_, rfl⟩
theorem p_kit_text {ws : List Mat} {h n : Nat} (g : KitG ws h n) : φ_kit_text K [kitD K ws h n] = .ok (.str (txt (kitS ws h n))) := by
  unfold φ_kit_text
  rw [fnD_eq (by rfl)]
  show Dn.Ends (dn_kit_text K [.va (kitD K ws h n)]) _
  unfold dn_kit_text
  have := p_kit_lines (K := K) g
  exact .ret (joined rfl (b := false) (by simp [this]) g.short) ⟨_, rfl⟩
theorem p_room_lines {n : Nat} {T : Mat} (g : RoomG n T) : φ_room_lines K [roomD K n T] = .ok (.lst ((roomS n T).map .str)) := by
  unfold φ_room_lines
  rw [fnD_eq (by rfl)]
  have n64 := g.n64
  have tl := told_len g.told
  show Dn.Ends (dn_room_lines K [.va (roomD K n T), .un]) _
  unfold dn_room_lines
  have f1 : dFld (He.ga K "Room") "size" (dVar 0) [.va (roomD K n T), .un] = .ok (.int (n : Nat)) := fld_obj rfl (room_size n T)
  have f2 : dFld (He.ga K "Room") "width" (dVar 0) [.va (roomD K n T), .un] = .ok (.int (T.length : Nat)) := fld_obj rfl (room_width n T)
  have rl : φ_row_line K [.tup [.int (n : Nat), .int (T.length : Nat)]] = .ok (.str (rowS [(n : Int), (T.length : Int)])) := p_row_line (r := [(n : Int), (T.length : Int)]) (.tup _) (fit_nats (by simp; omega)) (by simp)
  have sa : oAdd (.str "room ") (.str (rowS [(n : Int), (T.length : Int)])) = some (.str (headS "room " [(n : Int), (T.length : Int)])) := str_add (by
    have := rowS_len (r := [(n : Int), (T.length : Int)]) (fit_nats (by simp; omega))
    have e : ("room " : Str).length = 5 := by decide
    simp only [List.length_cons, List.length_nil] at this
    omega)
  have e1 : dLst (dFl (dCons (d2 oAdd (dK (.str "room ")) (dCall (φ_row_line K) [] (dCons (dTup (dCons (dFld (He.ga K "Room") "size" (dVar 0)) (dCons (dFld (He.ga K "Room") "width" (dVar 0)) dNil))) dNil))) dNil)) [.va (roomD K n T), .un] = .ok (.lst [.str (headS "room " [(n : Int), (T.length : Int)])]) := by
    simp [-dFld, -oAdd, f1, f2, rl, sa]
  have e2 : dLst (dLc (dItems (dFld (He.ga K "Room") "rows" (dVar 0))) (uName 1) dYes (dCall (φ_row_line K) [] (dCons (dVar 1) dNil)) [1]) [.va (roomD K n T), .un] = .ok (.lst ((T.map rowS).map .str)) := by
    refine lst_of_lc' ?_
    have it : dItems (dFld (He.ga K "Room") "rows" (dVar 0)) [.va (roomD K n T), .un] = .ok (T.map rowT) := by
      have f4 : dFld (He.ga K "Room") "rows" (dVar 0) [.va (roomD K n T), .un] = .ok (.tup (T.map rowT)) := fld_obj rfl (room_rows n T)
      show (dFld _ _ _ _).bind _ = _
      rw [f4]
      rfl
    show (dItems _ _).bind _ = _
    rw [it]
    exact lines_rows (fun h1 h2 h3 => p_row_line h1 h2 h3) (by simp) (rowsAre_T T) fun r hr => ⟨g.fit r hr, by rw [g.wd r hr]; exact n64⟩
  refine .ret ?_ ⟨_, rfl⟩
  show (dLst _ _).bind _ = _
  rw [e1]
  show (dLst _ _).bind _ = _
  rw [e2]
  show Res.opt (oAdd _ _) = _
  rw [lst_add (by simp; omega)]
  rfl
theorem p_room_text {n : Nat} {T : Mat} (g : RoomG n T) : φ_room_text K [roomD K n T] = .ok (.str (txt (roomS n T))) := by
  unfold φ_room_text
  rw [fnD_eq (by rfl)]
  show Dn.Ends (dn_room_text K [.va (roomD K n T)]) _
  unfold dn_room_text
  have := p_room_lines (K := K) g
  exact .ret (joined rfl (b := false) (by simp [this]) g.short) ⟨_, rfl⟩
/-! ### the law's own lines -/
theorem p__law_room_lines {n : Nat} {T : Mat} (g : RoomG n T) : φ__law_room_lines K [.int (n : Nat), .lst (T.map rowL)] = .ok (.lst ((roomS n T).map .str)) := by
  unfold φ__law_room_lines
  rw [fnD_eq (by rfl)]
  have n64 := g.n64
  have tl := told_len g.told
  show Dn.Ends (dn__law_room_lines K [.va (.int (n : Nat)), .va (.lst (T.map rowL)), .un]) _
  unfold dn__law_room_lines
  have rl : φ__law_row_line K [.lst [.int (n : Nat), .int (T.length : Nat)]] = .ok (.str (rowS [(n : Int), (T.length : Int)])) := p__law_row_line (r := [(n : Int), (T.length : Int)]) (.lst _) (fit_nats (by simp; omega)) (by simp)
  have sa : oAdd (.str "room ") (.str (rowS [(n : Int), (T.length : Int)])) = some (.str (headS "room " [(n : Int), (T.length : Int)])) := str_add (by
    have := rowS_len (r := [(n : Int), (T.length : Int)]) (fit_nats (by simp; omega))
    have e : ("room " : Str).length = 5 := by decide
    simp only [List.length_cons, List.length_nil] at this
    omega)
  have e1 : dLst (dFl (dCons (d2 oAdd (dK (.str "room ")) (dCall (φ__law_row_line K) [] (dCons (dLst (dFl (dCons (dVar 0) (dCons (dN oLen (dCons (dVar 1) dNil)) dNil)))) dNil))) dNil)) [.va (.int (n : Nat)), .va (.lst (T.map rowL)), .un] = .ok (.lst [.str (headS "room " [(n : Int), (T.length : Int)])]) := by
    simp [-oAdd, rl, sa]
  have e2 : dLst (dLc (dItems (dVar 1)) (uName 2) dYes (dCall (φ__law_row_line K) [] (dCons (dVar 2) dNil)) [2]) [.va (.int (n : Nat)), .va (.lst (T.map rowL)), .un] = .ok (.lst ((T.map rowS).map .str)) := by
    refine lst_of_lc' ?_
    have it : dItems (dVar 1) [.va (.int (n : Nat)), .va (.lst (T.map rowL)), .un] = .ok (T.map rowL) := by simp
    show (dItems _ _).bind _ = _
    rw [it]
    exact lines_rows (fun h1 h2 h3 => p__law_row_line h1 h2 h3) (by simp) (rowsAre_L T) fun r hr => ⟨g.fit r hr, by rw [g.wd r hr]; exact n64⟩
  refine .ret ?_ ⟨_, rfl⟩
  show (dLst _ _).bind _ = _
  rw [e1]
  show (dLst _ _).bind _ = _
  rw [e2]
  show Res.opt (oAdd _ _) = _
  rw [lst_add (by simp; omega)]
  rfl
theorem p__law_kit_lines {ws : List Mat} {h n : Nat} (g : KitG ws h n) : φ__law_kit_lines K [.lst (ws.map matL)] = .ok (.lst ((kitS ws h n).map .str)) := by
  unfold φ__law_kit_lines
  rw [fnD_eq (by rfl)]
  have h8 := g.h8
  have n8 := g.n8
  have m40 := g.m40
  have m0 := g.m0
  show Dn.Ends (dn__law_kit_lines K [.va (.lst (ws.map matL)), .un, .un, .un]) _
  unfold dn__law_kit_lines
  have w0 := g.k _ (mt_mem (i := 0) m0)
  have i0 : atI (ws.map matL) ((0 : Nat) : Int) = some (matL (mt ws 0)) := atI_in (by rw [List.getElem?_map, mt_get m0]; rfl)
  have i0 : atI (ws.map matL) 0 = some (matL (mt ws 0)) := i0
  have i1 : atI ((mt ws 0).map rowL) ((0 : Nat) : Int) = some (rowL (rw_ (mt ws 0) 0)) := ix_rowL (by rw [w0.len]; exact g.h0)
  have i1 : atI ((mt ws 0).map rowL) 0 = some (rowL (rw_ (mt ws 0) 0)) := i1
  have l0 := w0.len
  have l1 := (isM_row w0 g.h0).1
  have rl : φ__law_row_line K [.lst [.int (h : Nat), .int (n : Nat), .int (ws.length : Nat)]] = .ok (.str (rowS [(h : Int), (n : Int), (ws.length : Int)])) := p__law_row_line (r := [(h : Int), (n : Int), (ws.length : Int)]) (.lst _) (fit_nats (by simp; omega)) (by simp)
  have sa : oAdd (.str "kit ") (.str (rowS [(h : Int), (n : Int), (ws.length : Int)])) = some (.str (headS "kit " [(h : Int), (n : Int), (ws.length : Int)])) := str_add (by
    have := rowS_len (r := [(h : Int), (n : Int), (ws.length : Int)]) (fit_nats (by simp; omega))
    have e : ("kit " : Str).length = 4 := by decide
    simp only [List.length_cons, List.length_nil] at this
    omega)
  refine .seq (δ' := [.va (.lst (ws.map matL)), .va (.lst [.str (headS "kit " [(h : Int), (n : Int), (ws.length : Int)])]), .un, .un]) (set_eq (by simp [-oAdd, i0, matL, i1, rowL, l0, l1, rl, sa])) ?_
  have lp : ∃ y z, dFor (dItems (dVar 0)) (uName 2) (dSet 1 (d2 oAdd (d2 oAdd (dVar 1) (dLst (dFl (dCons (dK (.str "table")) dNil)))) (dLst (dLc (dItems (dVar 2)) (uName 3) dYes (dCall (φ__law_row_line K) [] (dCons (dVar 3) dNil)) [3])))) [.va (.lst (ws.map matL)), .va (.lst [.str (headS "kit " [(h : Int), (n : Int), (ws.length : Int)])]), .un, .un] = .nx [.va (.lst (ws.map matL)), .va (.lst ((kitS ws h n).map .str)), y, z] := by
    rw [for_eq (ds := ws.map matL) (by simp)]
    have hlen := fun w hw => (g.k w hw).len
    refine dLoop_wp (fun o => ∃ y z, o = .nx [.va (.lst (ws.map matL)), .va (.lst ((kitS ws h n).map .str)), y, z]) (fun ds δ => ∃ (us vs : List Mat) (y z : Cell), ws = us ++ vs ∧ ds = vs.map matL ∧ δ = [.va (.lst (ws.map matL)), .va (.lst ((headS "kit " [(h : Int), (n : Int), (ws.length : Int)] :: (us.map tabS).flatten).map .str)), y, z]) ?_ ?_ _ _ ⟨[], ws, .un, .un, rfl, rfl, rfl⟩
    · rintro d ds δ ⟨us, vs, y, z, e1, e2, rfl⟩
      cases vs with
      | nil => cases e2
      | cons v vs =>
        cases e2
        have hv : v ∈ ws := by rw [e1]; simp
        have h1 : ((us.map tabS).flatten).length ≤ 360 := flat_len (fun w hw => hlen w (by rw [e1]; exact List.mem_append_left _ hw)) h8 (by have := congrArg List.length e1; simp at this; omega)
        have h2 := hlen v hv
        have q1 : dLst (dFl (dCons (dK (.str "table")) dNil)) [.va (.lst (ws.map matL)), .va (.lst ((headS "kit " [(h : Int), (n : Int), (ws.length : Int)] :: (us.map tabS).flatten).map .str)), .va (matL v), z] = .ok (.lst [.str "table"]) := by simp
        have q2 : dLst (dLc (dItems (dVar 2)) (uName 3) dYes (dCall (φ__law_row_line K) [] (dCons (dVar 3) dNil)) [3]) [.va (.lst (ws.map matL)), .va (.lst ((headS "kit " [(h : Int), (n : Int), (ws.length : Int)] :: (us.map tabS).flatten).map .str)), .va (matL v), z] = .ok (.lst ((v.map rowS).map .str)) := by
          refine lst_of_lc' ?_
          have it : dItems (dVar 2) [.va (.lst (ws.map matL)), .va (.lst ((headS "kit " [(h : Int), (n : Int), (ws.length : Int)] :: (us.map tabS).flatten).map .str)), .va (matL v), z] = .ok (v.map rowL) := by simp [matL]
          show (dItems _ _).bind _ = _
          rw [it]
          exact lines_rows (fun h1 h2 h3 => p__law_row_line h1 h2 h3) (by simp) (rowsAre_L v) (g.fit v hv)
        refine ⟨[.va (.lst (ws.map matL)), .va (.lst ((headS "kit " [(h : Int), (n : Int), (ws.length : Int)] :: (us.map tabS).flatten).map .str)), .va (matL v), z], rfl, .inl ⟨_, .inl (set_eq (d := .lst ((headS "kit " [(h : Int), (n : Int), (ws.length : Int)] :: ((us ++ [v]).map tabS).flatten).map .str)) ?_), us ++ [v], vs, _, _, by rw [e1]; simp, rfl, rfl⟩⟩
        show (d2 oAdd (dVar 1) _ _).bind _ = _
        have q3 : d2 oAdd (dVar 1) (dLst (dFl (dCons (dK (.str "table")) dNil))) [.va (.lst (ws.map matL)), .va (.lst ((headS "kit " [(h : Int), (n : Int), (ws.length : Int)] :: (us.map tabS).flatten).map .str)), .va (matL v), z] = .ok (.lst ((headS "kit " [(h : Int), (n : Int), (ws.length : Int)] :: (us.map tabS).flatten).map .str ++ [.str "table"])) := by
          show (dVar 1 _).bind _ = _
          have q0 : dVar 1 [.va (.lst (ws.map matL)), .va (.lst ((headS "kit " [(h : Int), (n : Int), (ws.length : Int)] :: (us.map tabS).flatten).map .str)), .va (matL v), z] = .ok (.lst ((headS "kit " [(h : Int), (n : Int), (ws.length : Int)] :: (us.map tabS).flatten).map .str)) := rfl
          rw [q0, Res.bind_ok, q1, Res.bind_ok]
          show Res.opt (oAdd _ _) = _
          rw [lst_add (by rw [List.length_map, List.length_cons, List.length_cons, List.length_nil]; omega)]
          rfl
        rw [q3]
        show (dLst _ _).bind _ = _
        rw [q2]
        show Res.opt (oAdd _ _) = _
        rw [lst_add (by rw [List.length_append, List.length_map, List.length_cons, List.length_cons, List.length_nil, List.length_map, List.length_map]; omega)]
        simp [List.map_append, List.flatten_append, tabS]
    · rintro δ ⟨us, vs, y, z, e1, e2, rfl⟩
      cases vs with
      | nil =>
        rw [List.append_nil] at e1
        subst e1
        exact ⟨y, z, rfl⟩
      | cons v vs => cases e2
  obtain ⟨y, z, lp⟩ := lp
  exact .seq lp (.ret rfl ⟨_, rfl⟩)
theorem p__law_tuple {d : D} {ds : List D} {w : Mat} (hs : IsSeq d ds) (hr : RowsAre ds w) : φ__law_tuple K [d] = .ok (matT w) := by
  unfold φ__law_tuple
  rw [fnD_eq (by rfl)]
  show Dn.Ends (dn__law_tuple K [.va d, .un]) _
  unfold dn__law_tuple
  have e2 : dLst (dLc (dItems (dVar 0)) (uName 1) dYes (dTupL (dSq (dVar 1))) [1]) [.va d, .un] = .ok (.lst (w.map rowT)) := by
    refine lst_of_lc' ?_
    have it : dItems (dVar 0) [.va d, .un] = .ok ds := seq_items hs rfl
    show (dItems (dVar 0) _).bind _ = _
    rw [it]
    exact rowsAre_tup hr _ (by simp)
  refine .ret ?_ ⟨_, rfl⟩
  show ((dLst _ _).bind _).bind _ = _
  rw [e2]
  rfl
end
end Pf

namespace Pf
open PySem PySem.Spec PyProof.Rows L2 Dn
def bD (b : Int × Int) : D := .tup [.int b.1, .int b.2]
inductive In2 : List Int → List (Int × Int) → Prop
  | nil : In2 [] []
  | cons {x l m : Int} {r : List Int} {bs : List (Int × Int)} : l ≤ x → x ≤ m → In2 r bs → In2 (x :: r) ((l, m) :: bs)
theorem In2.len : ∀ {r : List Int} {bs : List (Int × Int)}, In2 r bs → r.length = bs.length
  | _, _, .nil => rfl
  | _, _, .cons _ _ h => congrArg (· + 1) h.len
theorem flDs_ints : ∀ r : List Int, flDs (r.map .int) = some (r.map V.int)
  | [] => rfl
  | x :: r => by
    show (flD (.int x)).bind _ = _
    have := flDs_ints r
    simp [flD, this]
theorem none_in (r : List Int) : oIn .non (.lst (r.map .int)) = some (.bl false) := by
  show (inD .non (r.map .int)).map D.bl = _
  unfold inD
  rw [flDs_ints]
  have : inV .non (r.map V.int) = false := by
    unfold inV
    simp
    intro x _
    rfl
  simp [flD, this]
section
variable {K : PySem.W.Frag}
theorem p_line_at {ls : List Str} {a : Nat} {l : Str} (h : ls[a]? = some l) : φ_line_at K [.lst (ls.map .str), .int (a : Nat)] = .ok (.str l) := by
  unfold φ_line_at
  rw [fnD_eq (by rfl)]
  show Dn.Ends (dn_line_at K [.va (.lst (ls.map .str)), .va (.int (a : Nat))]) _
  unfold dn_line_at
  have hl := (List.getElem?_eq_some_iff.mp h).1
  have ha : atI (ls.map D.str) (a : Nat) = some (.str l) := atI_in (by rw [List.getElem?_map, h]; rfl)
  refine .seq (δ' := [.va (.lst (ls.map .str)), .va (.int (a : Nat))]) ((if_f (by simp; omega)).trans rfl) ?_
  exact .ret (by simp [ha]) ⟨_, rfl⟩
theorem split_of {f : Sto → Res D} {δ : Sto} {x : Str} {ys : List Str} (e : f δ = .ok (.str x)) (hx : x.length ≤ 10000) (h : Txt.split x " " = ys) : dLst (dSplit f (dK (.str " "))) δ = .ok (.lst (ys.map .str)) := by
  refine lst_of_lc' ?_
  show (f δ).bind _ = _
  rw [e]
  have hz := big_line
  have e1 : ((" " : Str).length == 0) = false := by decide
  show (if ((" " : Str).length == 0) = false ∧ x.length + 2 ≤ sizeLine then Res.ok ((Txt.split x " ").map D.str) else .no) = _
  rw [if_pos ⟨e1, by omega⟩, h]
theorem nums_of {δ : Sto} {i : Nat} (hi : i < δ.length) : ∀ {r : List Int}, Fit r → dComp (uName i) dYes (dCall (φ_number_of K) [] (dCons (dVar i) dNil)) ((r.map istr).map .str) δ = .ok (r.map .int)
  | [], _ => rfl
  | x :: r, h => by
    have e0 : dCons (dVar i) dNil (δ.set i (.va (.str (istr x)))) = .ok [.str (istr x)] := by simp [List.getElem?_set_self hi]
    have e : dCall (φ_number_of K) [] (dCons (dVar i) dNil) (δ.set i (.va (.str (istr x)))) = .ok (.int x) := by
      show (dCons _ _ _).bind _ = _
      rw [e0]
      exact p_number_of (h x List.mem_cons_self)
    show dComp _ _ _ (D.str (istr x) :: (r.map istr).map .str) δ = _
    rw [dComp_cons]
    show (dYes _).noex.bind _ = _
    simp only [dYes, Res.noex_ok, Res.bind_ok, if_true, e, nums_of hi fun y hy => h y (List.mem_cons_of_mem _ hy)]
    rfl
theorem p_taken_row {ls : List Str} {a n : Nat} {r : List Int} (h : ls[a]? = some (rowS r)) (hf : Fit r) (hn : r.length = n) (n0 : 0 < n) (n64 : n ≤ 64) : φ_taken_row K [.lst (ls.map .str), .int (a : Nat), .int (n : Nat)] = .ok (rowT r) := by
  unfold φ_taken_row
  rw [fnD_eq (by rfl)]
  show Dn.Ends (dn_taken_row K [.va (.lst (ls.map .str)), .va (.int (a : Nat)), .va (.int (n : Nat)), .un, .un, .un]) _
  unfold dn_taken_row
  have hne : r ≠ [] := fun z => by rw [z] at hn; simp at hn; omega
  have hl := rowS_len hf
  have la := p_line_at (K := K) h
  refine .seq (set_eq (split_of (x := rowS r) (ys := r.map istr) (by simp [la]) (by omega) (split_row hne))) ?_
  refine .seq (δ' := [.va (.lst (ls.map .str)), .va (.int (a : Nat)), .va (.int (n : Nat)), .va (.lst ((r.map istr).map .str)), .ow (r.map .int), .un]) ?_ ?_
  · have : dLc (dItems (dVar 3)) (uName 5) dYes (dCall (φ_number_of K) [] (dCons (dVar 5) dNil)) [5] [.va (.lst (ls.map .str)), .va (.int (a : Nat)), .va (.int (n : Nat)), .va (.lst ((r.map istr).map .str)), .un, .un] = .ok (r.map .int) := by
      show (dItems (dVar 3) _).bind _ = _
      have it : dItems (dVar 3) [.va (.lst (ls.map .str)), .va (.int (a : Nat)), .va (.int (n : Nat)), .va (.lst ((r.map istr).map .str)), .un, .un] = .ok ((r.map istr).map .str) := rfl
      rw [it]
      exact nums_of (by simp) hf
    show (dLc _ _ _ _ _ _).out _ = _
    refine (congrArg (fun z => Res.out z _) this).trans rfl
  show Dn.Ends (dSeq _ _ (fz 4 _)) _
  have ef : fz 4 [.va (.lst (ls.map .str)), .va (.int (a : Nat)), .va (.int (n : Nat)), .va (.lst ((r.map istr).map .str)), .ow (r.map .int), .un] = [.va (.lst (ls.map .str)), .va (.int (a : Nat)), .va (.int (n : Nat)), .va (.lst ((r.map istr).map .str)), .va (.lst (r.map .int)), .un] := rfl
  rw [ef]
  refine .seq (δ' := [.va (.lst (ls.map .str)), .va (.int (a : Nat)), .va (.int (n : Nat)), .va (.lst ((r.map istr).map .str)), .va (.lst (r.map .int)), .un]) ((if_f (or_f (by simp [hn]) (by simp [none_in]))).trans rfl) ?_
  exact .ret rfl ⟨_, rfl⟩
theorem p_taken_head {ls : List Str} {a : Nat} {w0 word : Str} {r : List Int} {bs : List (Int × Int)} (h : ls[a]? = some (headS word r)) (hf : Fit r) (hr : r ≠ []) (r64 : r.length ≤ 64) (hw : word = w0 ++ " ") (h0 : 32 ∉ TL.tl w0) (wl : word.length ≤ 100) (hb : In2 r bs) :
    φ_taken_head K [.lst (ls.map .str), .int (a : Nat), .str w0, .tup (bs.map bD)] = .ok (rowT r) := by
  unfold φ_taken_head
  rw [fnD_eq (by rfl)]
  show Dn.Ends (dn_taken_head K [.va (.lst (ls.map .str)), .va (.int (a : Nat)), .va (.str w0), .va (.tup (bs.map bD)), .un, .un, .un, .un, .un, .un]) _
  unfold dn_taken_head
  have hl := rowS_len hf
  have la := p_line_at (K := K) h
  have hln := hb.len
  refine .seq (set_eq (split_of (x := headS word r) (ys := w0 :: r.map istr) (by simp [la]) (by unfold headS; rw [str_app_len]; omega) (split_head hr hw h0))) ?_
  refine .seq (δ' := [.va (.lst (ls.map .str)), .va (.int (a : Nat)), .va (.str w0), .va (.tup (bs.map bD)), .va (.lst ((w0 :: r.map istr).map .str)), .ow (r.map .int), .un, .un, .un, .un]) ?_ ?_
  · have : dLc (dItems (dCut (dVar 4) (dSoO (dK (.int 1))) dNoO)) (uName 7) dYes (dCall (φ_number_of K) [] (dCons (dVar 7) dNil)) [7] [.va (.lst (ls.map .str)), .va (.int (a : Nat)), .va (.str w0), .va (.tup (bs.map bD)), .va (.lst ((w0 :: r.map istr).map .str)), .un, .un, .un, .un, .un] = .ok (r.map .int) := by
      have it : dItems (dCut (dVar 4) (dSoO (dK (.int 1))) dNoO) [.va (.lst (ls.map .str)), .va (.int (a : Nat)), .va (.str w0), .va (.tup (bs.map bD)), .va (.lst ((w0 :: r.map istr).map .str)), .un, .un, .un, .un, .un] = .ok ((r.map istr).map .str) := by
        have ec : Dn.cutD ((w0 :: r.map istr).map D.str) (some ((1 : Nat) : Int)) none = (r.map istr).map .str := by
          unfold Dn.cutD
          have e1 : HT.sIx ((w0 :: r.map istr).map D.str).length ((w0 :: r.map istr).map D.str).length none = ((w0 :: r.map istr).map D.str).length := rfl
          rw [e1, HT.sIx_nat, Nat.min_eq_left (by simp)]
          simp
          rw [List.take_of_length_le (by simp)]
        have ec : Dn.cutD ((w0 :: r.map istr).map D.str) (some 1) none = (r.map istr).map .str := ec
        show ((Res.opt (some (D.lst (Dn.cutD ((w0 :: r.map istr).map D.str) (some 1) none)))).bind _) = _
        rw [ec]
        rfl
      show (dItems _ _).bind _ = _
      rw [it]
      exact nums_of (by simp) hf
    show (dLc _ _ _ _ _ _).out _ = _
    refine (congrArg (fun z => Res.out z _) this).trans rfl
  show Dn.Ends (dSeq _ _ (fz 5 _)) _
  have ef : fz 5 [.va (.lst (ls.map .str)), .va (.int (a : Nat)), .va (.str w0), .va (.tup (bs.map bD)), .va (.lst ((w0 :: r.map istr).map .str)), .ow (r.map .int), .un, .un, .un, .un] = [.va (.lst (ls.map .str)), .va (.int (a : Nat)), .va (.str w0), .va (.tup (bs.map bD)), .va (.lst ((w0 :: r.map istr).map .str)), .va (.lst (r.map .int)), .un, .un, .un, .un] := rfl
  rw [ef]
  have a0 : atI ((w0 :: r.map istr).map D.str) ((0 : Nat) : Int) = some (.str w0) := atI_in rfl
  have a0 : atI (D.str w0 :: (r.map istr).map D.str) 0 = some (.str w0) := a0
  refine .seq (δ' := [.va (.lst (ls.map .str)), .va (.int (a : Nat)), .va (.str w0), .va (.tup (bs.map bD)), .va (.lst ((w0 :: r.map istr).map .str)), .va (.lst (r.map .int)), .un, .un, .un, .un]) ((if_f (or_f ?_ (or_f (by simp [hln]) (by simp [none_in])))).trans rfl) ?_
  · have : d2 oIx (dVar 4) (dK (.int 0)) [.va (.lst (ls.map .str)), .va (.int (a : Nat)), .va (.str w0), .va (.tup (bs.map bD)), .va (.lst ((w0 :: r.map istr).map .str)), .va (.lst (r.map .int)), .un, .un, .un, .un] = .ok (.str w0) := by
      show Res.opt (atI (D.str w0 :: (r.map istr).map D.str) 0) = _
      rw [a0]
      rfl
    show (Res.bind _ _).bind _ = _
    rw [this]
    simp
  have lp : ∃ y6 y8 y9, dFor (dNL zipD (dCons (dVar 5) (dCons (dVar 3) dNil))) (uTup 2 (uCons (uName 6) (uCons (uTup 2 (uCons (uName 8) (uCons (uName 9) uNil))) uNil))) (dIf (dOr (dBool (d2 oLt (dVar 6) (dVar 8))) (dBool (d2 oGt (dVar 6) (dVar 9)))) (fun _ => .no) dSkip)
      [.va (.lst (ls.map .str)), .va (.int (a : Nat)), .va (.str w0), .va (.tup (bs.map bD)), .va (.lst ((w0 :: r.map istr).map .str)), .va (.lst (r.map .int)), .un, .un, .un, .un] = .nx [.va (.lst (ls.map .str)), .va (.int (a : Nat)), .va (.str w0), .va (.tup (bs.map bD)), .va (.lst ((w0 :: r.map istr).map .str)), .va (.lst (r.map .int)), y6, .un, y8, y9] := by
    rw [for_eq (ds := zipL (r.map .int) (bs.map bD)) (by simp)]
    refine dLoop_wp (fun o => ∃ y6 y8 y9, o = .nx [.va (.lst (ls.map .str)), .va (.int (a : Nat)), .va (.str w0), .va (.tup (bs.map bD)), .va (.lst ((w0 :: r.map istr).map .str)), .va (.lst (r.map .int)), y6, .un, y8, y9]) (fun ds δ => ∃ (r2 : List Int) (b2 : List (Int × Int)) (y6 y8 y9 : Cell), In2 r2 b2 ∧ ds = zipL (r2.map .int) (b2.map bD) ∧ δ = [.va (.lst (ls.map .str)), .va (.int (a : Nat)), .va (.str w0), .va (.tup (bs.map bD)), .va (.lst ((w0 :: r.map istr).map .str)), .va (.lst (r.map .int)), y6, .un, y8, y9]) ?_ ?_ _ _ ⟨r, bs, .un, .un, .un, hb, rfl, rfl⟩
    · rintro d ds δ ⟨r2, b2, y6, y8, y9, hb2, e1, rfl⟩
      cases hb2 with
      | nil => cases e1
      | @cons x l m r3 b3 q1 q2 q3 =>
        cases e1
        refine ⟨[.va (.lst (ls.map .str)), .va (.int (a : Nat)), .va (.str w0), .va (.tup (bs.map bD)), .va (.lst ((w0 :: r.map istr).map .str)), .va (.lst (r.map .int)), .va (.int x), .un, .va (.int l), .va (.int m)], by simp [bD], .inl ⟨[.va (.lst (ls.map .str)), .va (.int (a : Nat)), .va (.str w0), .va (.tup (bs.map bD)), .va (.lst ((w0 :: r.map istr).map .str)), .va (.lst (r.map .int)), .va (.int x), .un, .va (.int l), .va (.int m)], .inl ((if_f (or_f ?_ ?_)).trans rfl), r3, b3, _, _, _, q3, rfl, rfl⟩⟩
        · have : ¬ x < l := by omega
          simp [this]
        · have : ¬ m < x := by omega
          simp [this]
    · rintro δ ⟨r2, b2, y6, y8, y9, hb2, e1, rfl⟩
      exact ⟨y6, y8, y9, rfl⟩
  obtain ⟨y6, y8, y9, lp⟩ := lp
  exact .seq lp (.ret rfl ⟨_, rfl⟩)
theorem p_taken_table {ls : List Str} {a h n : Nat} {w : Mat} (e0 : ls[a]? = some "table") (e1 : ∀ k < h, ls[a + 1 + k]? = some (rowS (rw_ w k))) (hl : w.length = h) (hw : Wide n w) (hf : ∀ r ∈ w, Fit r) (h8 : h ≤ 64) (n0 : 0 < n) (n64 : n ≤ 64) :
    φ_taken_table K [.lst (ls.map .str), .int (a : Nat), .int (h : Nat), .int (n : Nat)] = .ok (.tup [matT w, .int (a + 1 + h : Nat)]) := by
  unfold φ_taken_table
  rw [fnD_eq (by rfl)]
  show Dn.Ends (dn_taken_table K [.va (.lst (ls.map .str)), .va (.int (a : Nat)), .va (.int (h : Nat)), .va (.int (n : Nat)), .un, .un]) _
  unfold dn_taken_table
  have la := p_line_at (K := K) e0
  have hz := big_line
  refine .seq (δ' := [.va (.lst (ls.map .str)), .va (.int (a : Nat)), .va (.int (h : Nat)), .va (.int (n : Nat)), .un, .un]) ((if_f (by simp [la])).trans rfl) ?_
  have rows : dLc (dNL rng1 (dCons (dVar 2) dNil)) (uName 5) dYes (dCall (φ_taken_row K) [] (dCons (dVar 0) (dCons (d2 oAdd (d2 oAdd (dVar 1) (dK (.int 1))) (dVar 5)) (dCons (dVar 3) dNil)))) [5] [.va (.lst (ls.map .str)), .va (.int (a : Nat)), .va (.int (h : Nat)), .va (.int (n : Nat)), .un, .un] = .ok (w.map rowT) := by
    rw [rowOf_lc (n := h) (fun k => rowT (rw_ w k)) (rng1_eq rfl (by omega)) fun k hk => ?_]
    · congr 1
      apply List.ext_getElem?
      intro k
      rw [List.getElem?_map, List.getElem?_map]
      by_cases hk : k < h
      · rw [List.getElem?_range hk, rw_get (by omega)]
        rfl
      · rw [List.getElem?_eq_none (by simpa using hk), List.getElem?_eq_none (by omega)]
        rfl
    · have rm := rw_mem (w := w) (k := k) (by omega)
      have := p_taken_row (K := K) (e1 k hk) (hf _ rm) (hw _ rm) n0 n64
      have ea : ((a + 1 + k : Nat) : Int) = (a : Int) + 1 + (k : Int) := by omega
      rw [ea] at this
      simp [this]
  refine .seq (δ' := [.va (.lst (ls.map .str)), .va (.int (a : Nat)), .va (.int (h : Nat)), .va (.int (n : Nat)), .va (matT w), .un]) (set_eq ?_) ?_
  · show ((dLst _ _).bind _).bind _ = _
    rw [lst_of_lc' rows]
    rfl
  · refine .ret ?_ ⟨_, rfl⟩
    have ea : ((a + 1 + h : Nat) : Int) = (a : Int) + 1 + (h : Int) := by omega
    rw [ea]
    simp
theorem p_check_end {ls : List Str} {a : Nat} (h : ls.length = a) : φ_check_end K [.lst (ls.map .str), .int (a : Nat)] = .ok .non := by
  unfold φ_check_end
  rw [fnD_eq (by rfl)]
  show finO (dn_check_end K [.va (.lst (ls.map .str)), .va (.int (a : Nat))]) = _
  unfold dn_check_end
  rw [if_f (by simp [h])]
  rfl
end
end Pf

namespace Pf
open PySem PySem.Spec PyProof.Rows L2 Dn
theorem flat_get {α : Type} {L j : Nat} (hj : j < L) : ∀ {bs : List (List α)} {i : Nat} {b : List α}, (∀ b ∈ bs, b.length = L) → bs[i]? = some b → bs.flatten[i * L + j]? = b[j]?
  | [], i, b, _, h => by simp at h
  | c :: bs, 0, b, hL, h => by
    have e : c = b := by simpa using h
    subst e
    rw [List.flatten_cons, Nat.zero_mul, Nat.zero_add, List.getElem?_append_left (by rw [hL c List.mem_cons_self]; exact hj)]
  | c :: bs, i + 1, b, hL, h => by
    have hc := hL c List.mem_cons_self
    have ih := flat_get hj (bs := bs) (i := i) (b := b) (fun x hx => hL x (List.mem_cons_of_mem _ hx)) (by simpa using h)
    rw [List.flatten_cons, List.getElem?_append_right (by rw [hc, Nat.add_mul]; omega), ← ih, hc, Nat.add_mul]
    congr 1
    omega
theorem kitS_at {ws : List Mat} {h n : Nat} (g : KitG ws h n) {i j : Nat} (hi : i < ws.length) (hj : j < h + 1) : (kitS ws h n)[1 + i * (h + 1) + j]? = (tabS (mt ws i))[j]? := by
  unfold kitS
  have e : 1 + i * (h + 1) + j = (i * (h + 1) + j) + 1 := by omega
  rw [e, List.getElem?_cons_succ]
  refine flat_get hj (fun b hb => ?_) (by rw [List.getElem?_map, mt_get hi]; rfl)
  obtain ⟨w, hw, rfl⟩ := List.mem_map.mp hb
  simp [tabS, (g.k w hw).len]
theorem RoomG.ok {n : Nat} {T : Mat} (g : RoomG n T) {d : D} {ds : List D} (hs : IsSeq d ds) (hr : RowsAre ds T) : RoomOk d n T := by
  have tl := told_len g.told
  have n64 := g.n64
  have hz := big_line
  refine ⟨⟨ds, hs, hr⟩, g.n1, n64, g.wd, by omega, fun i hi => ?_⟩
  rw [(g.told.ech).2 i (by omega)]
  intro r hr x hx
  have := g.fit r hr x hx
  exact Nat.lt_trans this (by decide +kernel)
theorem RoomG.take {n : Nat} {T : Mat} (g : RoomG n T) (k : Nat) : RoomG n (T.take k) := ⟨g.n1, g.n64, g.told.take k, fun r hr => g.fit r (List.mem_of_mem_take hr)⟩
theorem oNe_tup {ds : List D} (h : shapedD (.tup ds) = true) : oNe (.tup ds) (.tup ds) = some (.bl false) := by
  have hl : (py (.tup ds)).canLay0 = true := by
    unfold shapedD at h
    exact SeqAt.canLay_of_shaped (Bool.and_eq_true_iff.mp h).2
  show (if shapedD (.tup ds) = true ∧ shapedD (.tup ds) = true then some (D.bl (!PyData.eqv (py (.tup ds)) (py (.tup ds)))) else none) = _
  rw [if_pos ⟨h, h⟩, SeqAt.eqv_refl _ hl]
  rfl
theorem take_snoc {w : Mat} {i : Nat} (h : i < w.length) : w.take (i + 1) = w.take i ++ [rw_ w i] := by
  rw [List.take_succ, rw_get h]
  rfl
theorem take_snocM {w : List Mat} {i : Nat} (h : i < w.length) : w.take (i + 1) = w.take i ++ [mt w i] := by
  rw [List.take_succ, mt_get h]
  rfl
theorem asg_eq {u : D → Sto → Option Sto} {f : Sto → Res D} {δ δ' : Sto} {d : D} (e : f δ = .ok d) (e2 : u d δ = some δ') : dAsg u f δ = .nx δ' := by
  show (f δ).out _ = _
  rw [e]
  show (match u d δ with | some δ' => Out.nx δ' | none => .no) = _
  rw [e2]
section
variable {K : PySem.W.Frag}
theorem p_taken_kit {ws : List Mat} {h n : Nat} (g : KitG ws h n) : φ_taken_kit K [.lst ((kitS ws h n).map .str), .int 0] = .ok (.tup [kitD K ws h n, .int ((kitS ws h n).length : Nat)]) := by
  unfold φ_taken_kit
  rw [fnD_eq (by rfl)]
  have h0 := g.h0
  have h8 := g.h8
  have n0 := g.n0
  have n8 := g.n8
  have m0 := g.m0
  have m40 := g.m40
  have hz := big_line
  suffices Got (fun d => d = .tup [kitD K ws h n, .int ((kitS ws h n).length : Nat)]) (dn_taken_kit K [.va (.lst ((kitS ws h n).map .str)), .va (.int 0), .un, .un, .un, .un, .un, .un, .un]) by
    obtain ⟨d, e, rfl⟩ := this
    exact e
  unfold dn_taken_kit
  have hd := p_taken_head (K := K) (ls := kitS ws h n) (a := 0) (w0 := "kit") (word := "kit ") (r := [(h : Int), (n : Int), (ws.length : Int)]) (bs := [(1, 8), (1, 8), (1, 40)]) rfl (fit_nats (by simp; omega)) (by simp) (by simp) (by decide) (by decide) (by decide) (.cons (by omega) (by omega) (.cons (by omega) (by omega) (.cons (by omega) (by omega) .nil)))
  have hd : φ_taken_head K [.lst ((kitS ws h n).map .str), .int 0, .str "kit", .tup [.tup [.int 1, .int 8], .tup [.int 1, .int 8], .tup [.int 1, .int 40]]] = .ok (.tup [.int (h : Nat), .int (n : Nat), .int (ws.length : Nat)]) := hd
  refine Got.seq1 (asg_eq (d := .tup [.int (h : Nat), .int (n : Nat), .int (ws.length : Nat)]) (δ' := [.va (.lst ((kitS ws h n).map .str)), .va (.int 0), .un, .un, .un, .va (.int (h : Nat)), .va (.int (n : Nat)), .va (.int (ws.length : Nat)), .un]) (by simp [hd]) (by simp)) ?_
  refine Got.seq1 (δ' := [.va (.lst ((kitS ws h n).map .str)), .va (.int 0), .ow [], .un, .un, .va (.int (h : Nat)), .va (.int (n : Nat)), .va (.int (ws.length : Nat)), .un]) (by simp) ?_
  refine Got.seq1 (set_eq (d := .int 1) (by simp)) ?_
  refine Got.seq (R := fun δ' => ∃ (y4 y8 : Cell), δ' = [.va (.lst ((kitS ws h n).map .str)), .va (.int 0), .ow (ws.map matT), .va (.int (1 + ws.length * (h + 1) : Nat)), y4, .va (.int (h : Nat)), .va (.int (n : Nat)), .va (.int (ws.length : Nat)), y8]) ?_ ?_
  · refine Nxt.mono (Nxt.forR (n := ws.length) (fun i δ => ∃ (y4 y8 : Cell), δ = [.va (.lst ((kitS ws h n).map .str)), .va (.int 0), .ow ((ws.take i).map matT), .va (.int (1 + i * (h + 1) : Nat)), y4, .va (.int (h : Nat)), .va (.int (n : Nat)), .va (.int (ws.length : Nat)), y8]) (rng1_eq (n := ws.length) rfl (by omega)) ⟨.un, .un, by simp⟩ ?_) ?_
    · rintro i hi δ ⟨y4, y8, rfl⟩
      have wi := g.k _ (mt_mem hi)
      have tt := p_taken_table (K := K) (ls := kitS ws h n) (a := 1 + i * (h + 1)) (h := h) (n := n) (w := mt ws i) (by rw [show 1 + i * (h + 1) = 1 + i * (h + 1) + 0 by omega, kitS_at g hi (by omega)]; rfl) (fun k hk => by
        rw [show 1 + i * (h + 1) + 1 + k = 1 + i * (h + 1) + (k + 1) by omega, kitS_at g hi (by omega)]
        show ((mt ws i).map rowS)[k]? = _
        rw [List.getElem?_map, rw_get (by rw [wi.len]; exact hk)]
        rfl) wi.len wi.wd (fun r hr => (g.fit _ (mt_mem hi) r hr).1) (by omega) n0 (by omega)
      have ep : 1 + i * (h + 1) + 1 + h = 1 + (i + 1) * (h + 1) := by rw [Nat.add_mul]; omega
      rw [ep] at tt
      refine ⟨[.va (.lst ((kitS ws h n).map .str)), .va (.int 0), .ow ((ws.take i).map matT), .va (.int (1 + i * (h + 1) : Nat)), .va (.int (0 + (i : Nat))), .va (.int (h : Nat)), .va (.int (n : Nat)), .va (.int (ws.length : Nat)), y8], rfl, ?_⟩
      refine Nxt.seq1 (asg_eq (d := .tup [matT (mt ws i), .int (1 + (i + 1) * (h + 1) : Nat)]) (δ' := [.va (.lst ((kitS ws h n).map .str)), .va (.int 0), .ow ((ws.take i).map matT), .va (.int (1 + (i + 1) * (h + 1) : Nat)), .va (.int (0 + (i : Nat))), .va (.int (h : Nat)), .va (.int (n : Nat)), .va (.int (ws.length : Nat)), .va (matT (mt ws i))]) ?_ (by simp)) ?_
      · show (dCons _ _ _).bind _ = _
        exact tt
      · exact Nxt.at (app_eq (d := matT (mt ws i)) (ds := (ws.take i).map matT) rfl rfl (by rw [List.length_map, List.length_take]; omega)) ⟨_, _, by rw [take_snocM hi, List.map_append]; rfl⟩
    · rintro δ ⟨y4, y8, rfl⟩
      rw [List.take_length]
      exact ⟨y4, y8, rfl⟩
  rintro δ ⟨y4, y8, rfl⟩
  show Got _ (dRet _ (fz 2 _))
  have mk := p_Kit (K := K) (g.ok (d := .lst (ws.map matT)) (.lst _) (tabsAre_T ws))
  have el : (kitS ws h n).length = 1 + ws.length * (h + 1) := by
    show ((ws.map tabS).flatten).length + 1 = _
    rw [sum_blocks fun w hw => (g.k w hw).len]
    omega
  refine Got.ret ⟨_, ?_, rfl⟩
  rw [el]
  simp [df_Kit_1, mk]
  rfl
theorem p_read_kit {ws : List Mat} {h n : Nat} (g : KitG ws h n) : φ_read_kit K [.str (txt (kitS ws h n))] = .ok (kitD K ws h n) := by
  unfold φ_read_kit
  rw [fnD_eq (by rfl)]
  show Dn.Ends (dn_read_kit K [.va (.str (txt (kitS ws h n))), .un, .un, .un]) _
  unfold dn_read_kit
  have sp := split_txt (ls := kitS ws h n) (by simp [kitS]) kitS_free
  have sl := g.short.len
  have tk := p_taken_kit (K := K) g
  have ce := p_check_end (K := K) (ls := kitS ws h n) rfl
  have e1 : dLst (dSplit (dVar 0) (dK (.str "\n"))) [.va (.str (txt (kitS ws h n))), .un, .un, .un] = .ok (.lst ((kitS ws h n).map .str)) := by
    refine lst_of_lc' ?_
    have e1 : (("\n" : Str).length == 0) = false := by decide
    show (if (("\n" : Str).length == 0) = false ∧ (txt (kitS ws h n)).length + 2 ≤ sizeLine then Res.ok ((Txt.split (txt (kitS ws h n)) "\n").map D.str) else .no) = _
    rw [if_pos ⟨e1, sl⟩, sp]
  refine .seq (set_eq e1) ?_
  refine .seq (asg_eq (d := .tup [kitD K ws h n, .int ((kitS ws h n).length : Nat)]) (δ' := [.va (.str (txt (kitS ws h n))), .va (.lst ((kitS ws h n).map .str)), .va (kitD K ws h n), .va (.int ((kitS ws h n).length : Nat))]) (by simp [tk]) (by simp)) ?_
  refine .seq (δ' := [.va (.str (txt (kitS ws h n))), .va (.lst ((kitS ws h n).map .str)), .va (kitD K ws h n), .va (.int ((kitS ws h n).length : Nat))]) (by simp [ce]) ?_
  exact .ret rfl ⟨_, rfl⟩
theorem p_taken_room {n : Nat} {T : Mat} (g : RoomG n T) : φ_taken_room K [.lst ((roomS n T).map .str), .int 0, .int 0] = .ok (.tup [roomD K n T, .int ((roomS n T).length : Nat)]) := by
  unfold φ_taken_room
  rw [fnD_eq (by rfl)]
  have n1 := g.n1
  have n64 := g.n64
  have tl := told_len g.told
  have hz := big_line
  suffices Got (fun d => d = .tup [roomD K n T, .int ((roomS n T).length : Nat)]) (dn_taken_room K [.va (.lst ((roomS n T).map .str)), .va (.int 0), .va (.int 0), .un, .un, .un, .un]) by
    obtain ⟨d, e, rfl⟩ := this
    exact e
  unfold dn_taken_room
  have hd := p_taken_head (K := K) (ls := roomS n T) (a := 0) (w0 := "room") (word := "room ") (r := [(n : Int), (T.length : Int)]) (bs := [(1, 64), (0, 64)]) rfl (fit_nats (by simp; omega)) (by simp) (by simp) (by decide) (by decide) (by decide) (.cons (by omega) (by omega) (.cons (by omega) (by omega) .nil))
  have hd : φ_taken_head K [.lst ((roomS n T).map .str), .int 0, .str "room", .tup [.tup [.int 1, .int 64], .tup [.int 0, .int 64]]] = .ok (.tup [.int (n : Nat), .int (T.length : Nat)]) := hd
  refine Got.seq1 (asg_eq (d := .tup [.int (n : Nat), .int (T.length : Nat)]) (δ' := [.va (.lst ((roomS n T).map .str)), .va (.int 0), .va (.int 0), .un, .un, .va (.int (n : Nat)), .va (.int (T.length : Nat))]) (by simp [hd]) (by simp)) ?_
  refine Got.seq1 (δ' := [.va (.lst ((roomS n T).map .str)), .va (.int 0), .va (.int 0), .un, .un, .va (.int (n : Nat)), .va (.int (T.length : Nat))]) ((if_f (or_f (by simp; omega) (by simp))).trans rfl) ?_
  refine Got.seq1 (δ' := [.va (.lst ((roomS n T).map .str)), .va (.int 0), .va (.int 0), .ow [], .un, .va (.int (n : Nat)), .va (.int (T.length : Nat))]) (by simp) ?_
  have mk : ∀ k, φ_Room___init__ K [.int (n : Nat), .lst ((T.take k).map rowT)] = .ok (roomF n (T.take k)) := fun k => by
    have := p_Room (K := K) ((g.take k).ok (d := .lst ((T.take k).map rowT)) (.lst _) (rowsAre_T _))
    rw [((g.take k).told.ech).1] at this
    exact this
  refine Got.seq (R := fun δ' => ∃ (y4 : Cell), δ' = [.va (.lst ((roomS n T).map .str)), .va (.int 0), .va (.int 0), .ow (T.map rowT), y4, .va (.int (n : Nat)), .va (.int (T.length : Nat))]) ?_ ?_
  · refine Nxt.mono (Nxt.forR (n := T.length) (fun i δ => ∃ (y4 : Cell), δ = [.va (.lst ((roomS n T).map .str)), .va (.int 0), .va (.int 0), .ow ((T.take i).map rowT), y4, .va (.int (n : Nat)), .va (.int (T.length : Nat))]) (rng1_eq (n := T.length) rfl (by omega)) ⟨.un, by simp⟩ ?_) ?_
    · rintro i hi δ ⟨y4, rfl⟩
      have e0 : ((0 : Int) + (i : Nat)) = (i : Nat) := by omega
      have rm := rw_mem hi
      have tr := p_taken_row (K := K) (ls := roomS n T) (a := 0 + 1 + i) (n := n) (r := rw_ T i) (by
        rw [show 0 + 1 + i = i + 1 by omega]
        show (T.map rowS)[i]? = _
        rw [List.getElem?_map, rw_get hi]
        rfl) (g.fit _ rm) (g.wd _ rm) (by omega) n64
      have ei : ((0 + 1 + i : Nat) : Int) = 1 + (i : Int) := by omega
      rw [ei] at tr
      refine ⟨[.va (.lst ((roomS n T).map .str)), .va (.int 0), .va (.int 0), .ow ((T.take i).map rowT), .va (.int (i : Nat)), .va (.int (n : Nat)), .va (.int (T.length : Nat))], by rw [e0]; rfl, ?_⟩
      refine Nxt.seq1 (δ' := [.va (.lst ((roomS n T).map .str)), .va (.int 0), .va (.int 0), .ow ((T.take (i + 1)).map rowT), .va (.int (i : Nat)), .va (.int (n : Nat)), .va (.int (T.length : Nat))]) ((app_eq (d := rowT (rw_ T i)) (ds := (T.take i).map rowT) rfl (by simp [tr]) (by rw [List.length_map, List.length_take]; omega)).trans (by rw [take_snoc hi, List.map_append]; rfl)) ?_
      refine Nxt.ifF ?_ (Nxt.skip ⟨_, rfl⟩)
      have ef : fzs [3] [.va (.lst ((roomS n T).map .str)), .va (.int 0), .va (.int 0), .ow ((T.take (i + 1)).map rowT), .va (.int (i : Nat)), .va (.int (n : Nat)), .va (.int (T.length : Nat))] = [.va (.lst ((roomS n T).map .str)), .va (.int 0), .va (.int 0), .va (.lst ((T.take (i + 1)).map rowT)), .va (.int (i : Nat)), .va (.int (n : Nat)), .va (.int (T.length : Nat))] := rfl
      show dBool _ (fzs [3] _) = _
      rw [ef]
      have q1 : dFld (He.ga K "Room") "rows" (dMake (He.ga K "Room") (φ_Room___init__ K) (df_Room_2) (dCons (dVar 5) (dCons (dVar 3) dNil))) [.va (.lst ((roomS n T).map .str)), .va (.int 0), .va (.int 0), .va (.lst ((T.take (i + 1)).map rowT)), .va (.int (i : Nat)), .va (.int (n : Nat)), .va (.int (T.length : Nat))] = .ok (.tup ((T.take (i + 1)).map rowT)) := by
        have e : dMake (He.ga K "Room") (φ_Room___init__ K) (df_Room_2) (dCons (dVar 5) (dCons (dVar 3) dNil)) [.va (.lst ((roomS n T).map .str)), .va (.int 0), .va (.int 0), .va (.lst ((T.take (i + 1)).map rowT)), .va (.int (i : Nat)), .va (.int (n : Nat)), .va (.int (T.length : Nat))] = .ok (roomD K n (T.take (i + 1))) := by
          show (φ_Room___init__ K [.int (n : Nat), .lst ((T.take (i + 1)).map rowT)]).bind _ = _
          rw [mk]
          rfl
        show (dMake _ _ _ _ _).bind _ = _
        rw [e]
        show (if He.ga K "Room" = He.ga K "Room" then Res.opt (fget "rows" (roomF n (T.take (i + 1))).1 (roomF n (T.take (i + 1))).2) else .no) = _
        rw [if_pos rfl, room_rows]
        rfl
      have q2 : dTupL (dSq (dVar 3)) [.va (.lst ((roomS n T).map .str)), .va (.int 0), .va (.int 0), .va (.lst ((T.take (i + 1)).map rowT)), .va (.int (i : Nat)), .va (.int (n : Nat)), .va (.int (T.length : Nat))] = .ok (.tup ((T.take (i + 1)).map rowT)) := rfl
      show (Res.bind (dFld _ _ _ _) _).bind _ = _
      rw [q1, Res.bind_ok, q2, Res.bind_ok]
      have sh : Sh 2 (.tup ((T.take (i + 1)).map rowT)) := Sh.mat _
      rw [oNe_tup (sh.shaped (by decide))]
      rfl
    · rintro δ ⟨y4, rfl⟩
      rw [List.take_length]
      exact ⟨y4, rfl⟩
  rintro δ ⟨y4, rfl⟩
  show Got _ (dRet _ (fz 3 _))
  have mk2 := mk T.length
  rw [List.take_length] at mk2
  have el : (roomS n T).length = 1 + T.length := by
    show (T.map rowS).length + 1 = _
    rw [List.length_map]
    omega
  refine Got.ret ⟨_, ?_, rfl⟩
  rw [el]
  simp [df_Room_2, mk2]
  rfl
theorem p_read_room {n : Nat} {T : Mat} (g : RoomG n T) : φ_read_room K [.str (txt (roomS n T))] = .ok (roomD K n T) := by
  unfold φ_read_room
  rw [fnD_eq (by rfl)]
  show Dn.Ends (dn_read_room K [.va (.str (txt (roomS n T))), .un, .un, .un]) _
  unfold dn_read_room
  have sp := split_txt (ls := roomS n T) (by simp [roomS]) roomS_free
  have sl := g.short.len
  have tk := p_taken_room (K := K) g
  have ce := p_check_end (K := K) (ls := roomS n T) rfl
  have e1 : dLst (dSplit (dVar 0) (dK (.str "\n"))) [.va (.str (txt (roomS n T))), .un, .un, .un] = .ok (.lst ((roomS n T).map .str)) := by
    refine lst_of_lc' ?_
    have e1 : (("\n" : Str).length == 0) = false := by decide
    show (if (("\n" : Str).length == 0) = false ∧ (txt (roomS n T)).length + 2 ≤ sizeLine then Res.ok ((Txt.split (txt (roomS n T)) "\n").map D.str) else .no) = _
    rw [if_pos ⟨e1, sl⟩, sp]
  refine .seq (set_eq e1) ?_
  refine .seq (asg_eq (d := .tup [roomD K n T, .int ((roomS n T).length : Nat)]) (δ' := [.va (.str (txt (roomS n T))), .va (.lst ((roomS n T).map .str)), .va (roomD K n T), .va (.int ((roomS n T).length : Nat))]) (by simp [tk]) (by simp)) ?_
  refine .seq (δ' := [.va (.str (txt (roomS n T))), .va (.lst ((roomS n T).map .str)), .va (roomD K n T), .va (.int ((roomS n T).length : Nat))]) (by simp [ce]) ?_
  exact .ret rfl ⟨_, rfl⟩
theorem p__law_read0 {ws : List Mat} {h n : Nat} (g : KitG ws h n) : φ__law_read K [.int 0, .str (txt (kitS ws h n))] = .ok (kitD K ws h n) := by
  unfold φ__law_read
  rw [fnD_eq (by rfl)]
  show finO (dn__law_read K [.va (.int 0), .va (.str (txt (kitS ws h n)))]) = _
  unfold dn__law_read
  have := p_read_kit (K := K) g
  simp [this]
theorem p__law_read1 {n : Nat} {T : Mat} (g : RoomG n T) : φ__law_read K [.int 1, .str (txt (roomS n T))] = .ok (roomD K n T) := by
  unfold φ__law_read
  rw [fnD_eq (by rfl)]
  show finO (dn__law_read K [.va (.int 1), .va (.str (txt (roomS n T)))]) = _
  unfold dn__law_read
  have := p_read_room (K := K) g
  simp [this]
end
end Pf

namespace Pf
open PySem PySem.Spec PyProof.Rows L2 Dn
/-! ### what repr shows -/
theorem shown_tup (ds : List D) : (py (.tup ds)).shown = tupleText ((pys ds).map PyData.shown) := by
  have e : ∀ xs : List PyData, PyData.shownAll xs = xs.map PyData.shown := by
    intro xs
    induction xs with
    | nil => simp only [PyData.shownAll, List.map_nil]
    | cons x xs ih => simp only [PyData.shownAll, List.map_cons, ih]
  unfold py
  simp only [PyData.shown, e]
theorem tupleText_len (ts : List Str) : (tupleText ts).length ≤ (ts.map (·.length)).sum + ts.length * 2 + 3 := by
  have h := join_len ", " ts
  rw [TL.join_eq] at h
  have e : (", " : Str).length = 2 := by decide
  have e1 : ("(" : Str).length = 1 := by decide
  have e2 : (Str.ofString ",)").length = 2 := by decide
  have e3 : (Str.ofString ")").length = 1 := by decide
  unfold tupleText
  rw [str_app_len, str_app_len]
  rw [e] at h
  split
  · show ("(" : Str).length + (Str.join ", " ts).length + (Str.ofString ",)").length ≤ _
    omega
  · show ("(" : Str).length + (Str.join ", " ts).length + (Str.ofString ")").length ≤ _
    omega
theorem pys_map (ds : List D) : pys ds = ds.map py := by
  induction ds with
  | nil => rfl
  | cons d ds ih =>
    show py d :: pys ds = _
    rw [ih]
    rfl
/-- data whose text has at most B signs -/
structure Shw (B k : Nat) (d : D) : Prop where
  sh : Sh k d
  ok : (py d).showable = true
  len : (py d).shown.length ≤ B
theorem Shw.int {i : Int} (k : Nat) (h : i.natAbs < 10 ^ 60) : Shw 61 k (.int i) := by
  refine ⟨.int i, ?_, ?_⟩
  · show PyData.showable (.int i) = true
    simp only [PyData.showable]
    exact decide_eq_true (Nat.lt_trans (log2_lt (k := 200) (by omega) (by decide)) (by decide))
  · have : (py (.int i)).shown = istr i := by
      show PyData.shown (.int i) = _
      simp only [PyData.shown]
      rfl
    rw [this]
    exact istr_len h
theorem Shw.tup {B k m : Nat} {ds : List D} (h : ∀ d ∈ ds, Shw B k d) (hm : ds.length ≤ m) : Shw (m * (B + 2) + 3) (k + 1) (.tup ds) := by
  refine ⟨.tup fun d hd => (h d hd).sh, ?_, ?_⟩
  · have e : ∀ xs : List D, (∀ d ∈ xs, Shw B k d) → PyData.showableAll (pys xs) = true := by
      intro xs
      induction xs with
      | nil => intro _; rfl
      | cons x xs ih =>
        intro h
        show PyData.showableAll (py x :: pys xs) = true
        simp only [PyData.showableAll, (h x List.mem_cons_self).ok, ih fun d hd => h d (List.mem_cons_of_mem _ hd), Bool.and_self]
    show PyData.showable (.tuple (pys ds)) = true
    simp only [PyData.showable, e ds h]
  · rw [shown_tup, pys_map, List.map_map]
    have h1 := tupleText_len (ds.map (PyData.shown ∘ py))
    rw [List.map_map, List.length_map] at h1
    have h2 := sum_le ((fun s : Str => s.length) ∘ (PyData.shown ∘ py)) B ds fun d hd => (h d hd).len
    have h3 := Nat.mul_le_mul_right (B + 2) hm
    rw [Nat.mul_add] at h3
    omega
theorem Shw.okShow {B k : Nat} {d : D} (h : Shw B k d) (hB : B ≤ 1000000) (hk : k ≤ 64) : Dn.okShow d = true := by
  have z : 1000000 ≤ sizeLine := by decide
  have h1 := h.len
  have h2 := h.sh.d
  unfold Dn.okShow
  rw [h.sh.p, h.ok, PyData.hasDict_of_canLay _ h.sh.l, decide_eq_true (show (py d).depth ≤ 64 by omega), decide_eq_true (show (py d).shown.length ≤ sizeLine by omega)]
  rfl
theorem shw_row {r : List Int} {m : Nat} (h : Fit r) (hm : r.length ≤ m) : Shw (m * 63 + 3) 1 (rowT r) := Shw.tup (B := 61) (k := 0) (fun d hd => by
  obtain ⟨x, hx, rfl⟩ := List.mem_map.mp hd
  exact .int 0 (h x hx)) (by simpa using hm)
theorem shw_mat {w : Mat} {m k : Nat} (h : ∀ r ∈ w, Fit r ∧ r.length ≤ m) (hk : w.length ≤ k) : Shw (k * ((m * 63 + 3) + 2) + 3) 2 (matT w) := Shw.tup (B := m * 63 + 3) (k := 1) (fun d hd => by
  obtain ⟨x, hx, rfl⟩ := List.mem_map.mp hd
  exact shw_row (h x hx).1 (h x hx).2) (by simpa using hk)
theorem KitG.show_ {ws : List Mat} {h n : Nat} (g : KitG ws h n) : Dn.okShow (.tup (ws.map matT)) = true := by
  have n8 := g.n8
  have h8 := g.h8
  have m40 := g.m40
  refine (Shw.tup (B := 8 * ((8 * 63 + 3) + 2) + 3) (k := 2) (m := 40) (fun d hd => ?_) (by simpa using m40)).okShow (by decide) (by decide)
  obtain ⟨w, hw, rfl⟩ := List.mem_map.mp hd
  exact shw_mat (fun r hr => ⟨(g.fit w hw r hr).1, by rw [(g.k w hw).wd r hr]; exact n8⟩) (by rw [(g.k w hw).len]; exact h8)
theorem RoomG.show_ {n : Nat} {T : Mat} (g : RoomG n T) : Dn.okShow (matT T) = true := by
  have n64 := g.n64
  have tl := told_len g.told
  exact (shw_mat (w := T) (m := 64) (k := 64) (fun r hr => ⟨g.fit r hr, by rw [g.wd r hr]; exact n64⟩) (by omega)).okShow (by decide) (by decide)
theorem show_eq {ds : List D} (h : Dn.okShow (.tup ds) = true) : Dn.oShow [.tup ds] = some (.str (py (.tup ds)).shown) := if_pos h
end Pf

namespace Pf
open PySem PySem.Spec PyProof.Rows L2 Dn
noncomputable def dn_law (K : PySem.W.Frag) : Sto → Out := (dSeq (dSet 1 (dCall (φ__law_tables K) [] (dCons (dVar 0) dNil))) (dSeq (dSet 2 (dMake (He.ga K "Kit") (φ_Kit___init__ K) (df_Kit_1) (dCons (dVar 1) dNil))) (dSeq (dSet 3 (dCall (φ_kit_text K) [] (dCons (dVar 2) dNil))) (dSeq (dIf (dOr (dNot (dTest (dN (oIsi K (Cs K)) (dCons (dVar 3) (dCons (dK (.ty "str")) dNil))))) (dBool (d2 oNe (dVar 3) (dJoin (dK (.str "\n")) (dSq (dCall (φ__law_kit_lines K) [] (dCons (dVar 1) dNil))))))) (dRet (dK (.bl false))) dSkip) (dSeq (dSet 4 (dCall (φ__law_read K) [] (dCons (dK (.int 0)) (dCons (dVar 3) dNil)))) (dSeq (dIf (dOr (dNot (dTest (dN (oIsi K (Cs K)) (dCons (dVar 4) (dCons (dK (.cls (He.ga K "Kit"))) dNil))))) (dOr (dBool (d2 (oNeI (He.ga K "Kit") (φ_Kit___eq__ K)) (dVar 4) (dVar 2))) (dNot (dBool (d2 (oEqI (He.ga K "Kit") (φ_Kit___eq__ K)) (dVar 4) (dVar 2)))))) (dRet (dK (.bl false))) dSkip) (dSeq (dIf (dOr (dBool (d2 oNe (dN oShow (dCons (dFld (He.ga K "Kit") "tables" (dVar 4)) dNil)) (dN oShow (dCons (dTupL (dSq (dLst (dLc (dItems (dVar 1)) (uName 10) dYes (dCall (φ__law_tuple K) [] (dCons (dVar 10) dNil)) [10])))) dNil)))) (dBool (d2 oNe (dFld (He.ga K "Kit") "many" (dVar 4)) (dN oLen (dCons (dVar 1) dNil))))) (dRet (dK (.bl false))) dSkip) (dSeq (dIf (dOr (dBool (d2 oNe (dFld (He.ga K "Kit") "high" (dVar 4)) (dN oLen (dCons (d2 oIx (dVar 1) (dK (.int 0))) dNil)))) (dOr (dBool (d2 oNe (dFld (He.ga K "Kit") "wide" (dVar 4)) (dN oLen (dCons (d2 oIx (d2 oIx (dVar 1) (dK (.int 0))) (dK (.int 0))) dNil)))) (dBool (d2 oNe (dCall (φ_kit_text K) [] (dCons (dVar 4) dNil)) (dVar 3))))) (dRet (dK (.bl false))) dSkip) (dSeq (dSet 5 (dCall (φ__law_room K) [] (dCons (dVar 0) dNil))) (dSeq (dSet 6 (d2 oIx (dVar 5) (dK (.int 0)))) (dSeq (dSet 7 (dCall (φ__law_reduced K) [] (dCons (d2 oIx (dVar 5) (dK (.int 1))) (dCons (dVar 6) dNil)))) (dSeq (dSet 8 (dMake (He.ga K "Room") (φ_Room___init__ K) (df_Room_2) (dCons (dVar 6) (dCons (d2 oIx (dVar 5) (dK (.int 1))) dNil)))) (dSeq (dSet 3 (dCall (φ_room_text K) [] (dCons (dVar 8) dNil))) (dSeq (dIf (dOr (dNot (dTest (dN (oIsi K (Cs K)) (dCons (dVar 3) (dCons (dK (.ty "str")) dNil))))) (dBool (d2 oNe (dVar 3) (dJoin (dK (.str "\n")) (dSq (dCall (φ__law_room_lines K) [] (dCons (dVar 6) (dCons (dVar 7) dNil)))))))) (dRet (dK (.bl false))) dSkip) (dSeq (dSet 9 (dCall (φ__law_read K) [] (dCons (dK (.int 1)) (dCons (dVar 3) dNil)))) (dSeq (dIf (dOr (dNot (dTest (dN (oIsi K (Cs K)) (dCons (dVar 9) (dCons (dK (.cls (He.ga K "Room"))) dNil))))) (dOr (dBool (d2 (oNeI (He.ga K "Room") (φ_Room___eq__ K)) (dVar 9) (dVar 8))) (dOr (dBool (d2 oNe (dFld (He.ga K "Room") "size" (dVar 9)) (dVar 6))) (dBool (d2 oNe (dFld (He.ga K "Room") "width" (dVar 9)) (dN oLen (dCons (dVar 7) dNil))))))) (dRet (dK (.bl false))) dSkip) (dRet (dAndV (d2 oEq (dN oShow (dCons (dFld (He.ga K "Room") "rows" (dVar 9)) dNil)) (dN oShow (dCons (dCall (φ__law_tuple K) [] (dCons (dVar 7) dNil)) dNil))) (d2 oEq (dCall (φ_room_text K) [] (dCons (dVar 9) dNil)) (dVar 3))))))))))))))))))))
end Pf

namespace Pf
open PySem PySem.Spec PyProof.Rows L2 Dn
theorem Drawn.run {n : Nat} {w : Mat} (h : Drawn n w) : ∀ i < n, Small (echC n w i).1 := by
  rcases h.kind with ⟨q, hf⟩ | ⟨ht, hb⟩
  · exact few_run hf
  · intro i hi r hr x hx
    rw [ht.ech.2 i (by omega)] at hr
    have := hb r hr x hx
    exact Nat.lt_of_le_of_lt this (by decide +kernel)
theorem Drawn.room {n : Nat} {w : Mat} (h : Drawn n w) : RoomG n (ech n w) := by
  refine ⟨h.n1, h.n64, ech_told h.wd, ?_⟩
  rcases h.kind with ⟨q, hf⟩ | ⟨ht, hb⟩
  · exact few_ech hf
  · rw [ht.ech.1]
    intro r hr x hx
    have := hb r hr x hx
    exact Nat.lt_of_le_of_lt this (by decide)
section
variable {K : PySem.W.Frag}
theorem eqi_true {C : Addr} {φ : List D → Res D} {ns ms : List Str} {ds es : List D} (h : φ [.obj C ns ds, .obj C ms es] = .ok (.bl true)) : oEqI C φ (.obj C ns ds) (.obj C ms es) = some (.bl true) := by
  unfold oEqI
  simp [h]
theorem comp_tuples {δ : Sto} {i : Nat} (hi : i < δ.length) : ∀ ws : List Mat, dComp (uName i) dYes (dCall (φ__law_tuple K) [] (dCons (dVar i) dNil)) (ws.map matL) δ = .ok (ws.map matT)
  | [] => rfl
  | w :: ws => by
    have e0 : dCons (dVar i) dNil (δ.set i (.va (matL w))) = .ok [matL w] := by simp [List.getElem?_set_self hi]
    have e : dCall (φ__law_tuple K) [] (dCons (dVar i) dNil) (δ.set i (.va (matL w))) = .ok (matT w) := by
      show (dCons _ _ _).bind _ = _
      rw [e0]
      exact p__law_tuple (.lst _) (rowsAre_L w)
    rw [List.map_cons, dComp_cons]
    show (dYes _).noex.bind _ = _
    simp only [dYes, Res.noex_ok, Res.bind_ok, if_true, e, comp_tuples hi ws]
    rfl
theorem shows_ne {f g : Sto → Res D} {δ : Sto} {ds : List D} (e1 : f δ = .ok (.tup ds)) (e2 : g δ = .ok (.tup ds)) (h : Dn.okShow (.tup ds) = true) : dBool (d2 oNe (dN oShow (dCons f dNil)) (dN oShow (dCons g dNil))) δ = .ok false := by
  have s1 : dN oShow (dCons f dNil) δ = .ok (.str (py (.tup ds)).shown) := by
    show ((f δ).bind _).bind _ = _
    rw [e1]
    show Res.opt (oShow [.tup ds]) = _
    rw [show_eq h]
    rfl
  have s2 : dN oShow (dCons g dNil) δ = .ok (.str (py (.tup ds)).shown) := by
    show ((g δ).bind _).bind _ = _
    rw [e2]
    show Res.opt (oShow [.tup ds]) = _
    rw [show_eq h]
    rfl
  show (Res.bind _ _).bind _ = _
  rw [s1, Res.bind_ok, s2, Res.bind_ok]
  simp
theorem shows_eq {f g : Sto → Res D} {δ : Sto} {ds : List D} (e1 : f δ = .ok (.tup ds)) (e2 : g δ = .ok (.tup ds)) (h : Dn.okShow (.tup ds) = true) : d2 oEq (dN oShow (dCons f dNil)) (dN oShow (dCons g dNil)) δ = .ok (.bl true) := by
  have s1 : dN oShow (dCons f dNil) δ = .ok (.str (py (.tup ds)).shown) := by
    show ((f δ).bind _).bind _ = _
    rw [e1]
    show Res.opt (oShow [.tup ds]) = _
    rw [show_eq h]
    rfl
  have s2 : dN oShow (dCons g dNil) δ = .ok (.str (py (.tup ds)).shown) := by
    show ((g δ).bind _).bind _ = _
    rw [e2]
    show Res.opt (oShow [.tup ds]) = _
    rw [show_eq h]
    rfl
  show Res.bind _ _ = _
  rw [s1, Res.bind_ok, s2, Res.bind_ok]
  simp
theorem law_good (ns : List Int) (hns : ns.length ≤ 63) : finO (dn_law K (startD ["script", "tables", "kit", "text", "again", "drawn", "size", "due", "room", "back", "table"] [.scr ns])) = .ok (.bl true) := by
  show Dn.Ends (dn_law K [.va (.scr ns), .un, .un, .un, .un, .un, .un, .un, .un, .un, .un]) (.ok (.bl true))
  unfold dn_law
  obtain ⟨ws, h, n, e1, m0, m40, h0, h8, n0, n8, hk⟩ := p__law_tables (K := K) hns
  have g : KitG ws h n := ⟨m0, m40, h0, h8, n0, n8, hk⟩
  have mk := p_Kit (K := K) (g.ok (d := .lst (ws.map matL)) (.lst _) (tabsAre_L ws))
  have kt := p_kit_text (K := K) g
  have kl := p__law_kit_lines (K := K) g
  have rd := p__law_read0 (K := K) g
  have ke := eqi_true (C := He.ga K "Kit") (φ := φ_Kit___eq__ K) (p_Kit_eq (K := K) ws h n)
  have ke : oEqI (He.ga K "Kit") (φ_Kit___eq__ K) (kitD K ws h n) (kitD K ws h n) = some (.bl true) := ke
  have kn : oNeI (He.ga K "Kit") (φ_Kit___eq__ K) (kitD K ws h n) (kitD K ws h n) = some (.bl false) := by
    unfold oNeI
    rw [ke]
    rfl
  have ks := show_eq g.show_
  obtain ⟨m, w, e2, hd⟩ := p__law_room (K := K) hns
  have n64 := hd.n64
  have hz := big_line
  have rg := hd.room
  have lr := p__law_reduced (K := K) (d := .lst (w.map rowL)) (.lst _) (rowsAre_L w) hd.wd (by have := hd.len; omega) (by omega) hd.run
  have rk : RoomOk (.lst (w.map rowL)) m w := ⟨⟨_, .lst _, rowsAre_L w⟩, hd.n1, hd.n64, hd.wd, by have := hd.len; omega, hd.run⟩
  have mr := p_Room (K := K) rk
  generalize hT : ech m w = T at *
  have rt := p_room_text (K := K) rg
  have rl := p__law_room_lines (K := K) rg
  have rr := p__law_read1 (K := K) rg
  have re := eqi_true (C := He.ga K "Room") (φ := φ_Room___eq__ K) (p_Room_eq (K := K) m T)
  have re : oEqI (He.ga K "Room") (φ_Room___eq__ K) (roomD K m T) (roomD K m T) = some (.bl true) := re
  have rn : oNeI (He.ga K "Room") (φ_Room___eq__ K) (roomD K m T) (roomD K m T) = some (.bl false) := by
    unfold oNeI
    rw [re]
    rfl
  have rs := show_eq rg.show_
  have tu := p__law_tuple (K := K) (d := .lst (T.map rowL)) (.lst _) (rowsAre_L T)
  have w0 := hk _ (mt_mem (i := 0) m0)
  have i0 : atI (ws.map matL) ((0 : Nat) : Int) = some (matL (mt ws 0)) := atI_in (by rw [List.getElem?_map, mt_get m0]; rfl)
  have i0 : atI (ws.map matL) 0 = some (matL (mt ws 0)) := i0
  have i1 : atI ((mt ws 0).map rowL) ((0 : Nat) : Int) = some (rowL (rw_ (mt ws 0) 0)) := ix_rowL (by rw [w0.len]; exact h0)
  have i1 : atI ((mt ws 0).map rowL) 0 = some (rowL (rw_ (mt ws 0) 0)) := i1
  have l0 := w0.len
  have l1 := (isM_row w0 h0).1
  refine .seq (set_eq (d := .lst (ws.map matL)) (by simp [e1])) ?_
  refine .seq (set_eq (d := kitD K ws h n) (by simp [df_Kit_1, mk]; rfl)) ?_
  refine .seq (set_eq (d := .str (txt (kitS ws h n))) (by simp [kt])) ?_
  refine .seq (δ' := [.va (.scr ns), .va (.lst (ws.map matL)), .va (kitD K ws h n), .va (.str (txt (kitS ws h n))), .un, .un, .un, .un, .un, .un, .un]) ((if_f (or_f (by simp [dTru]) ?_)).trans rfl) ?_
  · have j := joined (δ := [.va (.scr ns), .va (.lst (ws.map matL)), .va (kitD K ws h n), .va (.str (txt (kitS ws h n))), .un, .un, .un, .un, .un, .un, .un]) (f := dSq (dCall (φ__law_kit_lines K) [] (dCons (dVar 1) dNil))) (g := dK (.str "\n")) (b := false) (ls := kitS ws h n) rfl (by simp [kl]) g.short
    simp [-dJoin, j]
  refine .seq (set_eq (d := kitD K ws h n) (by simp [rd])) ?_
  refine .seq (δ' := [.va (.scr ns), .va (.lst (ws.map matL)), .va (kitD K ws h n), .va (.str (txt (kitS ws h n))), .va (kitD K ws h n), .un, .un, .un, .un, .un, .un]) ((if_f (or_f ?_ (or_f (by simp [kn]) (by simp [ke])))).trans rfl) ?_
  · have : oIsi K (Cs K) [kitD K ws h n, .cls (He.ga K "Kit")] = some (.bl true) := isi_own cs_kit
    simp [-oIsi, this, dTru]
  refine .seq (δ' := [.va (.scr ns), .va (.lst (ws.map matL)), .va (kitD K ws h n), .va (.str (txt (kitS ws h n))), .va (kitD K ws h n), .un, .un, .un, .un, .un, .un]) ((if_f (or_f ?_ ?_)).trans rfl) ?_
  · refine shows_ne (ds := ws.map matT) (fld_obj rfl (kit_tables ws h n)) ?_ g.show_
    have it : dItems (dVar 1) [.va (.scr ns), .va (.lst (ws.map matL)), .va (kitD K ws h n), .va (.str (txt (kitS ws h n))), .va (kitD K ws h n), .un, .un, .un, .un, .un, .un] = .ok (ws.map matL) := rfl
    have cm : dLc (dItems (dVar 1)) (uName 10) dYes (dCall (φ__law_tuple K) [] (dCons (dVar 10) dNil)) [10] [.va (.scr ns), .va (.lst (ws.map matL)), .va (kitD K ws h n), .va (.str (txt (kitS ws h n))), .va (kitD K ws h n), .un, .un, .un, .un, .un, .un] = .ok (ws.map matT) := by
      show (dItems _ _).bind _ = _
      rw [it]
      exact comp_tuples (by simp) ws
    show ((dLst _ _).bind _).bind _ = _
    rw [lst_of_lc' cm]
    rfl
  · have f3 : dFld (He.ga K "Kit") "many" (dVar 4) [.va (.scr ns), .va (.lst (ws.map matL)), .va (kitD K ws h n), .va (.str (txt (kitS ws h n))), .va (kitD K ws h n), .un, .un, .un, .un, .un, .un] = .ok (.int (ws.length : Nat)) := fld_obj rfl (kit_many ws h n)
    simp [-dFld, f3]
  refine .seq (δ' := [.va (.scr ns), .va (.lst (ws.map matL)), .va (kitD K ws h n), .va (.str (txt (kitS ws h n))), .va (kitD K ws h n), .un, .un, .un, .un, .un, .un]) ((if_f (or_f ?_ (or_f ?_ (by simp [kt])))).trans rfl) ?_
  · have f3 : dFld (He.ga K "Kit") "high" (dVar 4) [.va (.scr ns), .va (.lst (ws.map matL)), .va (kitD K ws h n), .va (.str (txt (kitS ws h n))), .va (kitD K ws h n), .un, .un, .un, .un, .un, .un] = .ok (.int (h : Nat)) := fld_obj rfl (kit_high ws h n)
    simp [-dFld, f3, i0, matL, l0]
  · have f3 : dFld (He.ga K "Kit") "wide" (dVar 4) [.va (.scr ns), .va (.lst (ws.map matL)), .va (kitD K ws h n), .va (.str (txt (kitS ws h n))), .va (kitD K ws h n), .un, .un, .un, .un, .un, .un] = .ok (.int (n : Nat)) := fld_obj rfl (kit_wide ws h n)
    simp [-dFld, f3, i0, matL, i1, rowL, l1]
  have d0 : atI [D.int (m : Nat), .lst (w.map rowL)] 0 = some (.int (m : Nat)) := atI_in (i := 0) rfl
  have d1 : atI [D.int (m : Nat), .lst (w.map rowL)] 1 = some (.lst (w.map rowL)) := atI_in (i := 1) rfl
  refine .seq (set_eq (d := .lst [.int (m : Nat), .lst (w.map rowL)]) (by simp [e2])) ?_
  refine .seq (set_eq (d := .int (m : Nat)) (by simp [d0])) ?_
  refine .seq (set_eq (d := .lst (T.map rowL)) (by simp [d1, lr])) ?_
  refine .seq (set_eq (d := roomD K m T) (by simp [d1, df_Room_2, mr]; rfl)) ?_
  refine .seq (set_eq (d := .str (txt (roomS m T))) (by simp [rt])) ?_
  refine .seq (δ' := [.va (.scr ns), .va (.lst (ws.map matL)), .va (kitD K ws h n), .va (.str (txt (roomS m T))), .va (kitD K ws h n), .va (.lst [.int (m : Nat), .lst (w.map rowL)]), .va (.int (m : Nat)), .va (.lst (T.map rowL)), .va (roomD K m T), .un, .un]) ((if_f (or_f (by simp [dTru]) ?_)).trans rfl) ?_
  · have j := joined (δ := [.va (.scr ns), .va (.lst (ws.map matL)), .va (kitD K ws h n), .va (.str (txt (roomS m T))), .va (kitD K ws h n), .va (.lst [.int (m : Nat), .lst (w.map rowL)]), .va (.int (m : Nat)), .va (.lst (T.map rowL)), .va (roomD K m T), .un, .un]) (f := dSq (dCall (φ__law_room_lines K) [] (dCons (dVar 6) (dCons (dVar 7) dNil)))) (g := dK (.str "\n")) (b := false) (ls := roomS m T) rfl (by simp [rl]) rg.short
    simp [-dJoin, j]
  refine .seq (set_eq (d := roomD K m T) (by simp [rr])) ?_
  refine .seq (δ' := [.va (.scr ns), .va (.lst (ws.map matL)), .va (kitD K ws h n), .va (.str (txt (roomS m T))), .va (kitD K ws h n), .va (.lst [.int (m : Nat), .lst (w.map rowL)]), .va (.int (m : Nat)), .va (.lst (T.map rowL)), .va (roomD K m T), .va (roomD K m T), .un]) ((if_f (or_f ?_ (or_f (by simp [rn]) (or_f ?_ ?_)))).trans rfl) ?_
  · have : oIsi K (Cs K) [roomD K m T, .cls (He.ga K "Room")] = some (.bl true) := isi_own cs_room
    simp [-oIsi, this, dTru]
  · have f3 : dFld (He.ga K "Room") "size" (dVar 9) [.va (.scr ns), .va (.lst (ws.map matL)), .va (kitD K ws h n), .va (.str (txt (roomS m T))), .va (kitD K ws h n), .va (.lst [.int (m : Nat), .lst (w.map rowL)]), .va (.int (m : Nat)), .va (.lst (T.map rowL)), .va (roomD K m T), .va (roomD K m T), .un] = .ok (.int (m : Nat)) := fld_obj rfl (room_size m T)
    simp [-dFld, f3]
  · have f3 : dFld (He.ga K "Room") "width" (dVar 9) [.va (.scr ns), .va (.lst (ws.map matL)), .va (kitD K ws h n), .va (.str (txt (roomS m T))), .va (kitD K ws h n), .va (.lst [.int (m : Nat), .lst (w.map rowL)]), .va (.int (m : Nat)), .va (.lst (T.map rowL)), .va (roomD K m T), .va (roomD K m T), .un] = .ok (.int (T.length : Nat)) := fld_obj rfl (room_width m T)
    simp [-dFld, f3]
  refine .ret ?_ ⟨_, rfl⟩
  rw [and_v]
  · simp [rt]
  · exact shows_eq (ds := T.map rowT) (fld_obj rfl (room_rows m T)) (by simp [tu, matT]) rg.show_
end
end Pf

set_option maxHeartbeats 0
namespace Pf
open PySem PySem.Spec PyProof.Rows L2 Dn
/-- what the top leaves -/
structure Top (K : PySem.W.Frag) (mg : Str → Option Value) : Prop where
  g_is_whole : mg "is_whole" = some (.ref (He.ga K "is_whole"))
  f_is_whole : ∃ fd, FunD K "is_whole" "is_whole" (defArgs s_is_whole) (defBody s_is_whole) (defScope s_is_whole) [] [] (He.ga K "is_whole") fd
  g_is_row : mg "is_row" = some (.ref (He.ga K "is_row"))
  f_is_row : ∃ fd, FunD K "is_row" "is_row" (defArgs s_is_row) (defBody s_is_row) (defScope s_is_row) [] [] (He.ga K "is_row") fd
  g_common_divisor : mg "common_divisor" = some (.ref (He.ga K "common_divisor"))
  f_common_divisor : ∃ fd, FunD K "common_divisor" "common_divisor" (defArgs s_common_divisor) (defBody s_common_divisor) (defScope s_common_divisor) [] [] (He.ga K "common_divisor") fd
  g_primitive : mg "primitive" = some (.ref (He.ga K "primitive"))
  f_primitive : ∃ fd, FunD K "primitive" "primitive" (defArgs s_primitive) (defBody s_primitive) (defScope s_primitive) [] [] (He.ga K "primitive") fd
  g_frozen : mg "frozen" = some (.ref (He.ga K "frozen"))
  f_frozen : ∃ fd, FunD K "frozen" "frozen" (defArgs s_frozen) (defBody s_frozen) (defScope s_frozen) [] [] (He.ga K "frozen") fd
  g_is_table : mg "is_table" = some (.ref (He.ga K "is_table"))
  f_is_table : ∃ fd, FunD K "is_table" "is_table" (defArgs s_is_table) (defBody s_is_table) (defScope s_is_table) [] [] (He.ga K "is_table") fd
  g_is_kit_tables : mg "is_kit_tables" = some (.ref (He.ga K "is_kit_tables"))
  f_is_kit_tables : ∃ fd, FunD K "is_kit_tables" "is_kit_tables" (defArgs s_is_kit_tables) (defBody s_is_kit_tables) (defScope s_is_kit_tables) [] [] (He.ga K "is_kit_tables") fd
  g_is_too_great : mg "is_too_great" = some (.ref (He.ga K "is_too_great"))
  f_is_too_great : ∃ fd, FunD K "is_too_great" "is_too_great" (defArgs s_is_too_great) (defBody s_is_too_great) (defScope s_is_too_great) [] [] (He.ga K "is_too_great") fd
  g_Kit : mg "Kit" = some (.ref (He.ga K "Kit"))
  k_Kit : Cls K (He.ga K "Kit")
  f_Kit___init__ : ∃ fd, FunD K "__init__" "Kit.__init__" (defArgs s_Kit___init__) (defBody s_Kit___init__) (defScope s_Kit___init__) [.bl true] [] (He.ma K (He.ga K "Kit") "__init__") fd
  mk_Kit : Mk K (He.ga K "Kit") (He.ma K (He.ga K "Kit") "__init__")
  f_Kit___eq__ : ∃ fd, FunD K "__eq__" "Kit.__eq__" (defArgs s_Kit___eq__) (defBody s_Kit___eq__) (defScope s_Kit___eq__) [] [] (He.ma K (He.ga K "Kit") "__eq__") fd
  me_Kit___eq__ : Meth K (He.ga K "Kit") "__eq__" (He.ma K (He.ga K "Kit") "__eq__")
  g_first_nonzero : mg "first_nonzero" = some (.ref (He.ga K "first_nonzero"))
  f_first_nonzero : ∃ fd, FunD K "first_nonzero" "first_nonzero" (defArgs s_first_nonzero) (defBody s_first_nonzero) (defScope s_first_nonzero) [] [] (He.ga K "first_nonzero") fd
  g_echelon : mg "echelon" = some (.ref (He.ga K "echelon"))
  f_echelon : ∃ fd, FunD K "echelon" "echelon" (defArgs s_echelon) (defBody s_echelon) (defScope s_echelon) [] [] (He.ga K "echelon") fd
  g_is_vector : mg "is_vector" = some (.ref (He.ga K "is_vector"))
  f_is_vector : ∃ fd, FunD K "is_vector" "is_vector" (defArgs s_is_vector) (defBody s_is_vector) (defScope s_is_vector) [] [] (He.ga K "is_vector") fd
  g_Room : mg "Room" = some (.ref (He.ga K "Room"))
  k_Room : Cls K (He.ga K "Room")
  f_Room___init__ : ∃ fd d0, FunD K "__init__" "Room.__init__" (defArgs s_Room___init__) (defBody s_Room___init__) (defScope s_Room___init__) [d0] [] (He.ma K (He.ga K "Room") "__init__") fd
  mk_Room : Mk K (He.ga K "Room") (He.ma K (He.ga K "Room") "__init__")
  f_Room___eq__ : ∃ fd, FunD K "__eq__" "Room.__eq__" (defArgs s_Room___eq__) (defBody s_Room___eq__) (defScope s_Room___eq__) [] [] (He.ma K (He.ga K "Room") "__eq__") fd
  me_Room___eq__ : Meth K (He.ga K "Room") "__eq__" (He.ma K (He.ga K "Room") "__eq__")
  g_number_of : mg "number_of" = some (.ref (He.ga K "number_of"))
  f_number_of : ∃ fd, FunD K "number_of" "number_of" (defArgs s_number_of) (defBody s_number_of) (defScope s_number_of) [] [] (He.ga K "number_of") fd
  g_line_at : mg "line_at" = some (.ref (He.ga K "line_at"))
  f_line_at : ∃ fd, FunD K "line_at" "line_at" (defArgs s_line_at) (defBody s_line_at) (defScope s_line_at) [] [] (He.ga K "line_at") fd
  g_taken_row : mg "taken_row" = some (.ref (He.ga K "taken_row"))
  f_taken_row : ∃ fd, FunD K "taken_row" "taken_row" (defArgs s_taken_row) (defBody s_taken_row) (defScope s_taken_row) [] [] (He.ga K "taken_row") fd
  g_taken_head : mg "taken_head" = some (.ref (He.ga K "taken_head"))
  f_taken_head : ∃ fd, FunD K "taken_head" "taken_head" (defArgs s_taken_head) (defBody s_taken_head) (defScope s_taken_head) [] [] (He.ga K "taken_head") fd
  g_taken_table : mg "taken_table" = some (.ref (He.ga K "taken_table"))
  f_taken_table : ∃ fd, FunD K "taken_table" "taken_table" (defArgs s_taken_table) (defBody s_taken_table) (defScope s_taken_table) [] [] (He.ga K "taken_table") fd
  g_check_end : mg "check_end" = some (.ref (He.ga K "check_end"))
  f_check_end : ∃ fd, FunD K "check_end" "check_end" (defArgs s_check_end) (defBody s_check_end) (defScope s_check_end) [] [] (He.ga K "check_end") fd
  g_row_line : mg "row_line" = some (.ref (He.ga K "row_line"))
  f_row_line : ∃ fd, FunD K "row_line" "row_line" (defArgs s_row_line) (defBody s_row_line) (defScope s_row_line) [] [] (He.ga K "row_line") fd
  g_table_lines : mg "table_lines" = some (.ref (He.ga K "table_lines"))
  f_table_lines : ∃ fd, FunD K "table_lines" "table_lines" (defArgs s_table_lines) (defBody s_table_lines) (defScope s_table_lines) [] [] (He.ga K "table_lines") fd
  g_kit_lines : mg "kit_lines" = some (.ref (He.ga K "kit_lines"))
  f_kit_lines : ∃ fd, FunD K "kit_lines" "kit_lines" (defArgs s_kit_lines) (defBody s_kit_lines) (defScope s_kit_lines) [] [] (He.ga K "kit_lines") fd
  g_room_lines : mg "room_lines" = some (.ref (He.ga K "room_lines"))
  f_room_lines : ∃ fd, FunD K "room_lines" "room_lines" (defArgs s_room_lines) (defBody s_room_lines) (defScope s_room_lines) [] [] (He.ga K "room_lines") fd
  g_taken_kit : mg "taken_kit" = some (.ref (He.ga K "taken_kit"))
  f_taken_kit : ∃ fd, FunD K "taken_kit" "taken_kit" (defArgs s_taken_kit) (defBody s_taken_kit) (defScope s_taken_kit) [] [] (He.ga K "taken_kit") fd
  g_taken_room : mg "taken_room" = some (.ref (He.ga K "taken_room"))
  f_taken_room : ∃ fd, FunD K "taken_room" "taken_room" (defArgs s_taken_room) (defBody s_taken_room) (defScope s_taken_room) [.int 0] [] (He.ga K "taken_room") fd
  g_kit_text : mg "kit_text" = some (.ref (He.ga K "kit_text"))
  f_kit_text : ∃ fd, FunD K "kit_text" "kit_text" (defArgs s_kit_text) (defBody s_kit_text) (defScope s_kit_text) [] [] (He.ga K "kit_text") fd
  g_read_kit : mg "read_kit" = some (.ref (He.ga K "read_kit"))
  f_read_kit : ∃ fd, FunD K "read_kit" "read_kit" (defArgs s_read_kit) (defBody s_read_kit) (defScope s_read_kit) [] [] (He.ga K "read_kit") fd
  g_room_text : mg "room_text" = some (.ref (He.ga K "room_text"))
  f_room_text : ∃ fd, FunD K "room_text" "room_text" (defArgs s_room_text) (defBody s_room_text) (defScope s_room_text) [] [] (He.ga K "room_text") fd
  g_read_room : mg "read_room" = some (.ref (He.ga K "read_room"))
  f_read_room : ∃ fd, FunD K "read_room" "read_room" (defArgs s_read_room) (defBody s_read_room) (defScope s_read_room) [] [] (He.ga K "read_room") fd
  g__law_cell : mg "_law_cell" = some (.ref (He.ga K "_law_cell"))
  f__law_cell : ∃ fd, FunD K "_law_cell" "_law_cell" (defArgs s__law_cell) (defBody s__law_cell) (defScope s__law_cell) [] [] (He.ga K "_law_cell") fd
  g__law_digits : mg "_law_digits" = some (.ref (He.ga K "_law_digits"))
  f__law_digits : ∃ fd, FunD K "_law_digits" "_law_digits" (defArgs s__law_digits) (defBody s__law_digits) (defScope s__law_digits) [] [] (He.ga K "_law_digits") fd
  g__law_gcd : mg "_law_gcd" = some (.ref (He.ga K "_law_gcd"))
  f__law_gcd : ∃ fd, FunD K "_law_gcd" "_law_gcd" (defArgs s__law_gcd) (defBody s__law_gcd) (defScope s__law_gcd) [] [] (He.ga K "_law_gcd") fd
  g__law_lowest : mg "_law_lowest" = some (.ref (He.ga K "_law_lowest"))
  f__law_lowest : ∃ fd, FunD K "_law_lowest" "_law_lowest" (defArgs s__law_lowest) (defBody s__law_lowest) (defScope s__law_lowest) [] [] (He.ga K "_law_lowest") fd
  g__law_reduced : mg "_law_reduced" = some (.ref (He.ga K "_law_reduced"))
  f__law_reduced : ∃ fd, FunD K "_law_reduced" "_law_reduced" (defArgs s__law_reduced) (defBody s__law_reduced) (defScope s__law_reduced) [] [] (He.ga K "_law_reduced") fd
  g__law_product : mg "_law_product" = some (.ref (He.ga K "_law_product"))
  f__law_product : ∃ fd, FunD K "_law_product" "_law_product" (defArgs s__law_product) (defBody s__law_product) (defScope s__law_product) [] [] (He.ga K "_law_product") fd
  g__law_tuple : mg "_law_tuple" = some (.ref (He.ga K "_law_tuple"))
  f__law_tuple : ∃ fd, FunD K "_law_tuple" "_law_tuple" (defArgs s__law_tuple) (defBody s__law_tuple) (defScope s__law_tuple) [] [] (He.ga K "_law_tuple") fd
  g__law_frame : mg "_law_frame" = some (.ref (He.ga K "_law_frame"))
  f__law_frame : ∃ fd, FunD K "_law_frame" "_law_frame" (defArgs s__law_frame) (defBody s__law_frame) (defScope s__law_frame) [] [] (He.ga K "_law_frame") fd
  g__law_small : mg "_law_small" = some (.ref (He.ga K "_law_small"))
  f__law_small : ∃ fd, FunD K "_law_small" "_law_small" (defArgs s__law_small) (defBody s__law_small) (defScope s__law_small) [] [] (He.ga K "_law_small") fd
  g__law_turned : mg "_law_turned" = some (.ref (He.ga K "_law_turned"))
  f__law_turned : ∃ fd, FunD K "_law_turned" "_law_turned" (defArgs s__law_turned) (defBody s__law_turned) (defScope s__law_turned) [] [] (He.ga K "_law_turned") fd
  g__law_made : mg "_law_made" = some (.ref (He.ga K "_law_made"))
  f__law_made : ∃ fd, FunD K "_law_made" "_law_made" (defArgs s__law_made) (defBody s__law_made) (defScope s__law_made) [] [] (He.ga K "_law_made") fd
  g__law_kit : mg "_law_kit" = some (.ref (He.ga K "_law_kit"))
  f__law_kit : ∃ fd, FunD K "_law_kit" "_law_kit" (defArgs s__law_kit) (defBody s__law_kit) (defScope s__law_kit) [] [] (He.ga K "_law_kit") fd
  g__law_row_line : mg "_law_row_line" = some (.ref (He.ga K "_law_row_line"))
  f__law_row_line : ∃ fd, FunD K "_law_row_line" "_law_row_line" (defArgs s__law_row_line) (defBody s__law_row_line) (defScope s__law_row_line) [] [] (He.ga K "_law_row_line") fd
  g__law_kit_lines : mg "_law_kit_lines" = some (.ref (He.ga K "_law_kit_lines"))
  f__law_kit_lines : ∃ fd, FunD K "_law_kit_lines" "_law_kit_lines" (defArgs s__law_kit_lines) (defBody s__law_kit_lines) (defScope s__law_kit_lines) [] [] (He.ga K "_law_kit_lines") fd
  g__law_room_lines : mg "_law_room_lines" = some (.ref (He.ga K "_law_room_lines"))
  f__law_room_lines : ∃ fd, FunD K "_law_room_lines" "_law_room_lines" (defArgs s__law_room_lines) (defBody s__law_room_lines) (defScope s__law_room_lines) [] [] (He.ga K "_law_room_lines") fd
  g__law_large : mg "_law_large" = some (.ref (He.ga K "_law_large"))
  f__law_large : ∃ fd, FunD K "_law_large" "_law_large" (defArgs s__law_large) (defBody s__law_large) (defScope s__law_large) [] [] (He.ga K "_law_large") fd
  g__law_tables : mg "_law_tables" = some (.ref (He.ga K "_law_tables"))
  f__law_tables : ∃ fd, FunD K "_law_tables" "_law_tables" (defArgs s__law_tables) (defBody s__law_tables) (defScope s__law_tables) [] [] (He.ga K "_law_tables") fd
  g__law_room : mg "_law_room" = some (.ref (He.ga K "_law_room"))
  f__law_room : ∃ fd, FunD K "_law_room" "_law_room" (defArgs s__law_room) (defBody s__law_room) (defScope s__law_room) [] [] (He.ga K "_law_room") fd
  g__law_read : mg "_law_read" = some (.ref (He.ga K "_law_read"))
  f__law_read : ∃ fd, FunD K "_law_read" "_law_read" (defArgs s__law_read) (defBody s__law_read) (defScope s__law_read) [] [] (He.ga K "_law_read") fd
  g_law : mg "law" = some (.ref (He.ga K "law"))
  f_law : ∃ fd, FunD K "law" "law" (defArgs s_law) (defBody s_law) (defScope s_law) [] [] (He.ga K "law") fd
  na_Kit_tables : NoAttr K (He.ga K "Kit") "tables"
  na_Kit_many : NoAttr K (He.ga K "Kit") "many"
  na_Kit_high : NoAttr K (He.ga K "Kit") "high"
  na_Kit_wide : NoAttr K (He.ga K "Kit") "wide"
  na_Room_size : NoAttr K (He.ga K "Room") "size"
  na_Room_rows : NoAttr K (He.ga K "Room") "rows"
  na_Room_width : NoAttr K (He.ga K "Room") "width"
  ne_Kit : NeOk K (He.ga K "Kit")
  ne_Room : NeOk K (He.ga K "Room")
  n_abs : mg "abs" = none
  n_all : mg "all" = none
  n_bool : mg "bool" = none
  n_int : mg "int" = none
  n_isinstance : mg "isinstance" = none
  n_len : mg "len" = none
  n_list : mg "list" = none
  n_max : mg "max" = none
  n_min : mg "min" = none
  n_range : mg "range" = none
  n_repr : mg "repr" = none
  n_str : mg "str" = none
  n_tuple : mg "tuple" = none
  n_zip : mg "zip" = none
  m_gcd : mg "gcd" = some (.builtin "math.gcd")
  m_lcm : mg "lcm" = some (.builtin "math.lcm")
  v_MOST_SIDE : ∃ t, mg "MOST_SIDE" = some (.int 8 t)
  v_MOST_TABLES : ∃ t, mg "MOST_TABLES" = some (.int 40 t)
  v_MOST_NUMBER : ∃ t, mg "MOST_NUMBER" = some (.int 1000000000000000000000000000000000000000000000000000000000000 t)
  v_MOST_SIZE : ∃ t, mg "MOST_SIZE" = some (.int 64 t)
  v_FIGURES : ∃ t, mg "FIGURES" = some (.str "0123456789" t)
  v_MOST_FIGURES : ∃ t, mg "MOST_FIGURES" = some (.int 60 t)
  insOk : ∀ C ∈ Cs K, InsOk K C
section
variable {P : Program} {w : World} {K : PySem.W.Frag} {mg : Str → Option Value} {base : Heap}
theorem c_is_whole (T : Top K mg) : FnC P w K mg base 1 (He.ga K "is_whole") [] (φ_is_whole K) := by
  obtain ⟨fd, F⟩ := T.f_is_whole
  have ok := fn_ok (P := P) (w := w) (mg := mg) (base := base) (k := 0) (g := dn_is_whole K) F sc_is_whole (ar_is_whole K) (fun cdv A outer s H E hr => (dss_one (ds_ret (de_and (de_callB call_isi (does_isi (Cs := Cs K) T.insOk) T.n_isinstance (by decide +kernel) (da_cons (de_var (i := 0)) (da_cons (de_blt T.n_int (by decide +kernel)) da_nil))) (de_one (de_not (de_callB call_isi (does_isi (Cs := Cs K) T.insOk) T.n_isinstance (by decide +kernel) (da_cons (de_var (i := 0)) (da_cons (de_blt T.n_bool (by decide +kernel)) da_nil))))))))) (den_is_whole K)
  exact ⟨F.kp, fd, _, [], [], ok, (F.bindsN (fun _ _ _ _ _ _ us hl => match us, hl with | [_], _ => rfl)), .nil, fun _ => .nil⟩
theorem c_is_row (T : Top K mg) : FnC P w K mg base 1 (He.ga K "is_row") [] (φ_is_row K) := by
  obtain ⟨fd, F⟩ := T.f_is_row
  have ok := fn_ok (P := P) (w := w) (mg := mg) (base := base) (k := 0) (g := dn_is_row K) F sc_is_row (ar_is_row K) (fun cdv A outer s H E hr => (dss_one (ds_ret (de_isiT (Cs := Cs K) T.insOk T.n_isinstance (by decide +kernel) (de_var (i := 0)) (da_cons (de_blt T.n_list (by decide +kernel)) (da_cons (de_blt T.n_tuple (by decide +kernel)) da_nil)))))) (den_is_row K)
  exact ⟨F.kp, fd, _, [], [], ok, (F.bindsN (fun _ _ _ _ _ _ us hl => match us, hl with | [_], _ => rfl)), .nil, fun _ => .nil⟩
theorem c_common_divisor (T : Top K mg) : FnC P w K mg base 1 (He.ga K "common_divisor") [] (φ_common_divisor K) := by
  obtain ⟨fd, F⟩ := T.f_common_divisor
  have ok := fn_ok (P := P) (w := w) (mg := mg) (base := base) (k := 0) (g := dn_common_divisor K) F sc_common_divisor (ar_common_divisor K) (fun cdv A outer s H E hr => (dss_cons (ds_set (i := 1) sc_common_divisor.nd de_int) (dss_cons (ds_for (passes_of rfl) rfl (di_sq (de_var (i := 0))) (dg_name (vs := [2]) (i := 2) sc_common_divisor.nd) (dss_cons (ds_set (i := 1) sc_common_divisor.nd (de_callI cr_gcd does_gcd T.m_gcd (da_cons (de_var (i := 1)) (da_cons (de_var (i := 2)) da_nil)))) (dss_one (ds_if (dt_cmp (op_eqA hr.units) does_eqA (de_var (i := 1)) de_int) (dss_one (ds_ret de_int)) dss_nil)))) (dss_one (ds_ret (de_var (i := 1))))))) (den_common_divisor K)
  exact ⟨F.kp, fd, _, [], [], ok, (F.bindsN (fun _ _ _ _ _ _ us hl => match us, hl with | [_], _ => rfl)), .nil, fun _ => .nil⟩
theorem c_primitive (T : Top K mg) : FnC P w K mg base 2 (He.ga K "primitive") [] (φ_primitive K) := by
  obtain ⟨fd, F⟩ := T.f_primitive
  have ok := fn_ok (P := P) (w := w) (mg := mg) (base := base) (k := 1) (g := dn_primitive K) F sc_primitive (ar_primitive K) (fun cdv A outer s H E hr => (dss_cons (ds_set (i := 1) sc_primitive.nd (de_call (c_common_divisor T) (hr.mono (by decide)) T.g_common_divisor (takes_of rfl rfl rfl rfl) (da_cons (de_var (i := 0)) da_nil))) (dss_cons (ds_if (dt_cmp (op_eqA hr.units) does_eqA (de_var (i := 1)) de_int) (dss_one (ds_ret (de_tupleL T.n_tuple (by decide +kernel) (dl_of (de_var (i := 0)))))) dss_nil) (dss_cons (ds_for (passes_of rfl) rfl (di_sq (de_var (i := 0))) (dg_name (vs := [2]) (i := 2) sc_primitive.nd) (dss_one (ds_if (dt_cmp (op_neA hr.units) does_neA (de_var (i := 2)) de_int) (dss_cons (ds_if (dt_cmp op_lt does_lt (de_var (i := 2)) de_int) (dss_one (ds_set (i := 1) sc_primitive.nd (de_un un_neg does_neg (de_var (i := 1))))) dss_nil) (dss_one ds_break)) dss_nil))) (dss_cons (ds_if (dt_cmp (op_eqA hr.units) does_eqA (de_var (i := 1)) de_int) (dss_one (ds_ret (de_tupleL T.n_tuple (by decide +kernel) (dl_of (de_var (i := 0)))))) dss_nil) (dss_one (ds_ret (de_tupleL T.n_tuple (by decide +kernel) (dl_of (de_fz (df_comp [("number", 2)] rfl sc_primitive.nd (di_sq (de_var (i := 0))) (by kernel_rfl) (fun _ _ _ _ _ => (dg_name (vs := (([("number", 2)] : List (Str × Nat)).map (·.2))) (i := 2) sc_primitive.nd)) (fun _ _ _ _ _ => dts_nil) (fun _ _ _ _ _ => (de_op op_fdivM does_fdiv (de_var (i := 2)) (de_var (i := 1))))))))))))))) (den_primitive K)
  exact ⟨F.kp, fd, _, [], [], ok, (F.bindsN (fun _ _ _ _ _ _ us hl => match us, hl with | [_], _ => rfl)), .nil, fun _ => .nil⟩
theorem c_frozenN (T : Top K mg) : ∀ d, FnC P w K mg base (d + 1) (He.ga K "frozen") [] (φ_frozenN K d)
  | 0 => by
    obtain ⟨fd, F⟩ := T.f_frozen
    exact fnC F (fn_ok (k := 0) (g := fun _ => .no) F sc_frozen (fun ds h => absurd (by unfold φ_frozenN; split <;> rfl) h) (fun cdv A outer s H E hr => dss_never) (fun ds h => absurd (by unfold φ_frozenN; split <;> rfl) h)) (fun _ _ _ _ _ _ us hl => match us, hl with | [_], _ => rfl)
  | d + 1 => by
    obtain ⟨fd, F⟩ := T.f_frozen
    have IH := c_frozenN T d
    exact fnC F (fn_ok (k := d + 1) (g := dn_frozen K (φ_frozenN K d)) F sc_frozen (ar_frozen K (d + 1)) (fun cdv A outer s H E hr => (dss_cons (ds_if (dt_val (de_isiT (Cs := Cs K) T.insOk T.n_isinstance (by decide +kernel) (de_var (i := 0)) (da_cons (de_blt T.n_list (by decide +kernel)) (da_cons (de_blt T.n_tuple (by decide +kernel)) da_nil)))) (dss_one (ds_ret (de_tupleL T.n_tuple (by decide +kernel) (dl_of (de_fz (df_comp [("item", 1)] rfl sc_frozen.nd (di_sq (de_var (i := 0))) (by kernel_rfl) (fun _ _ _ _ _ => (dg_name (vs := (([("item", 1)] : List (Str × Nat)).map (·.2))) (i := 1) sc_frozen.nd)) (fun _ _ _ _ _ => dts_nil) (fun _ _ _ _ _ => (de_call IH (hr.mono (by omega)) T.g_frozen takes0 (da_cons (de_var (i := 1)) da_nil))))))))) dss_nil) (dss_one (ds_ret (de_var (i := 0)))))) (den_frozen K d)) (fun _ _ _ _ _ _ us hl => match us, hl with | [_], _ => rfl)
theorem c_frozen (T : Top K mg) : FnC P w K mg base 7 (He.ga K "frozen") [] (φ_frozen K) := c_frozenN T 6
theorem c_is_table (T : Top K mg) : FnC P w K mg base 2 (He.ga K "is_table") [] (φ_is_table K) := by
  obtain ⟨fd, F⟩ := T.f_is_table
  have ok := fn_ok (P := P) (w := w) (mg := mg) (base := base) (k := 1) (g := dn_is_table K) F sc_is_table (ar_is_table K) (fun cdv A outer s H E hr => (dss_cons (ds_if (dt_w (dw_or (dt_not (dt_val (de_call (c_is_row T) (hr.mono (by decide)) T.g_is_row (takes_of rfl rfl rfl rfl) (da_cons (de_var (i := 0)) da_nil)))) (dw_or1 (dt_cmp (op_eqA hr.units) does_eqA (de_callB call_len does_len T.n_len PySem.boot_len (da_cons (de_var (i := 0)) da_nil)) de_int)))) (dss_one (ds_ret de_bl)) dss_nil) (dss_cons (ds_for (passes_of rfl) rfl (di_sq (de_var (i := 0))) (dg_name (vs := [1]) (i := 1) sc_is_table.nd) (dss_cons (ds_if (dt_w (dw_or (dt_not (dt_val (de_call (c_is_row T) (hr.mono (by decide)) T.g_is_row (takes_of rfl rfl rfl rfl) (da_cons (de_var (i := 1)) da_nil)))) (dw_or (dt_cmp (op_eqA hr.units) does_eqA (de_callB call_len does_len T.n_len PySem.boot_len (da_cons (de_var (i := 1)) da_nil)) de_int) (dw_or1 (dt_cmp (op_neA hr.units) does_neA (de_callB call_len does_len T.n_len PySem.boot_len (da_cons (de_var (i := 1)) da_nil)) (de_callB call_len does_len T.n_len PySem.boot_len (da_cons (de_ix ix_seq does_ix (de_var (i := 0)) de_int) da_nil))))))) (dss_one (ds_ret de_bl)) dss_nil) (dss_one (ds_for (passes_of rfl) rfl (di_sq (de_var (i := 1))) (dg_name (vs := [2]) (i := 2) sc_is_table.nd) (dss_one (ds_if (dt_not (dt_val (de_call (c_is_whole T) (hr.mono (by decide)) T.g_is_whole (takes_of rfl rfl rfl rfl) (da_cons (de_var (i := 2)) da_nil)))) (dss_one (ds_ret de_bl)) dss_nil)))))) (dss_one (ds_ret de_bl))))) (den_is_table K)
  exact ⟨F.kp, fd, _, [], [], ok, (F.bindsN (fun _ _ _ _ _ _ us hl => match us, hl with | [_], _ => rfl)), .nil, fun _ => .nil⟩
theorem c_is_kit_tables (T : Top K mg) : FnC P w K mg base 3 (He.ga K "is_kit_tables") [] (φ_is_kit_tables K) := by
  obtain ⟨fd, F⟩ := T.f_is_kit_tables
  have ok := fn_ok (P := P) (w := w) (mg := mg) (base := base) (k := 2) (g := dn_is_kit_tables K) F sc_is_kit_tables (ar_is_kit_tables K) (fun cdv A outer s H E hr => (dss_cons (ds_if (dt_w (dw_or (dt_not (dt_val (de_call (c_is_row T) (hr.mono (by decide)) T.g_is_row (takes_of rfl rfl rfl rfl) (da_cons (de_var (i := 0)) da_nil)))) (dw_or1 (dt_cmp (op_eqA hr.units) does_eqA (de_callB call_len does_len T.n_len PySem.boot_len (da_cons (de_var (i := 0)) da_nil)) de_int)))) (dss_one (ds_ret de_bl)) dss_nil) (dss_cons (ds_for (passes_of rfl) rfl (di_sq (de_var (i := 0))) (dg_name (vs := [1]) (i := 1) sc_is_kit_tables.nd) (dss_one (ds_if (dt_w (dw_or (dt_not (dt_val (de_call (c_is_table T) (hr.mono (by decide)) T.g_is_table (takes_of rfl rfl rfl rfl) (da_cons (de_var (i := 1)) da_nil)))) (dw_or (dt_cmp (op_neA hr.units) does_neA (de_callB call_len does_len T.n_len PySem.boot_len (da_cons (de_var (i := 1)) da_nil)) (de_callB call_len does_len T.n_len PySem.boot_len (da_cons (de_ix ix_seq does_ix (de_var (i := 0)) de_int) da_nil))) (dw_or1 (dt_cmp (op_neA hr.units) does_neA (de_callB call_len does_len T.n_len PySem.boot_len (da_cons (de_ix ix_seq does_ix (de_var (i := 1)) de_int) da_nil)) (de_callB call_len does_len T.n_len PySem.boot_len (da_cons (de_ix ix_seq does_ix (de_ix ix_seq does_ix (de_var (i := 0)) de_int) de_int) da_nil))))))) (dss_one (ds_ret de_bl)) dss_nil))) (dss_one (ds_ret de_bl))))) (den_is_kit_tables K)
  exact ⟨F.kp, fd, _, [], [], ok, (F.bindsN (fun _ _ _ _ _ _ us hl => match us, hl with | [_], _ => rfl)), .nil, fun _ => .nil⟩
theorem c_is_too_great (T : Top K mg) : FnC P w K mg base 1 (He.ga K "is_too_great") [] (φ_is_too_great K) := by
  obtain ⟨fd, F⟩ := T.f_is_too_great
  have ok := fn_ok (P := P) (w := w) (mg := mg) (base := base) (k := 0) (g := dn_is_too_great K) F sc_is_too_great (ar_is_too_great K) (fun cdv A outer s H E hr => (dss_cons (ds_for (passes_of rfl) rfl (di_sq (de_var (i := 0))) (dg_name (vs := [2]) (i := 2) sc_is_too_great.nd) (dss_one (ds_for (passes_of rfl) rfl (di_sq (de_var (i := 2))) (dg_name (vs := [3]) (i := 3) sc_is_too_great.nd) (dss_one (ds_for (passes_of rfl) rfl (di_sq (de_var (i := 3))) (dg_name (vs := [4]) (i := 4) sc_is_too_great.nd) (dss_one (ds_if (dt_cmp op_ge does_ge (de_callB call_abs does_abs T.n_abs (by decide +kernel) (da_cons (de_var (i := 4)) da_nil)) (de_var (i := 1))) (dss_one (ds_ret de_bl)) dss_nil))))))) (dss_one (ds_ret de_bl)))) (den_is_too_great K)
  exact ⟨F.kp, fd, _, [], [], ok, (F.bindsN (fun _ _ _ _ _ _ us hl => match us, hl with | [_, _], _ => rfl)), .nil, fun _ => .nil⟩
theorem i_Kit_1 (T : Top K mg) : FnI P w K mg base 8 (He.ga K "Kit") (He.ma K (He.ga K "Kit") "__init__") df_Kit_1 (φ_Kit___init__ K) := by
  obtain ⟨fd, F⟩ := T.f_Kit___init__
  have ok := fn_okI (P := P) (w := w) (mg := mg) (base := base) (k := 7) (C := He.ga K "Kit") (g := dn_Kit___init__ K) F sc_Kit___init__ (ar_Kit___init__ K) (fun cdv A outer s H E hr => (dss_cons (ds_if (dt_not (dt_val (de_call (c_is_kit_tables T) (hr.mono (by decide)) T.g_is_kit_tables (takes_of rfl rfl rfl rfl) (da_cons (de_var (i := 1)) da_nil)))) (dss_one ds_never) dss_nil) (dss_cons (ds_if (dt_w (dw_or (dt_cmp op_gt does_gt (de_callB call_len does_len T.n_len PySem.boot_len (da_cons (de_var (i := 1)) da_nil)) (de_globI T.v_MOST_TABLES)) (dw_or (dt_cmp op_gt does_gt (de_callB call_len does_len T.n_len PySem.boot_len (da_cons (de_ix ix_seq does_ix (de_var (i := 1)) de_int) da_nil)) (de_globI T.v_MOST_SIDE)) (dw_or1 (dt_cmp op_gt does_gt (de_callB call_len does_len T.n_len PySem.boot_len (da_cons (de_ix ix_seq does_ix (de_ix ix_seq does_ix (de_var (i := 1)) de_int) de_int) da_nil)) (de_globI T.v_MOST_SIDE)))))) (dss_one ds_never) dss_nil) (dss_cons (ds_if (dt_w (dw_and (dt_val (de_var (i := 2))) (dw_and1 (dt_val (de_call (c_is_too_great T) (hr.mono (by decide)) T.g_is_too_great (takes_of rfl rfl rfl rfl) (da_cons (de_var (i := 1)) (da_cons (de_globI T.v_MOST_NUMBER) da_nil))))))) (dss_one ds_never) dss_nil) (dss_cons (ds_putf (i := 0) T.k_Kit T.na_Kit_tables (de_call (c_frozen T) (hr.mono (by decide)) T.g_frozen (takes_of rfl rfl rfl rfl) (da_cons (de_var (i := 1)) da_nil))) (dss_cons (ds_putf (i := 0) T.k_Kit T.na_Kit_many (de_callB call_len does_len T.n_len PySem.boot_len (da_cons (de_fldO (i := 0) T.k_Kit T.na_Kit_tables) da_nil))) (dss_cons (ds_putf (i := 0) T.k_Kit T.na_Kit_high (de_callB call_len does_len T.n_len PySem.boot_len (da_cons (de_ix ix_seq does_ix (de_fldO (i := 0) T.k_Kit T.na_Kit_tables) de_int) da_nil))) (dss_one (ds_putf (i := 0) T.k_Kit T.na_Kit_wide (de_callB call_len does_len T.n_len PySem.boot_len (da_cons (de_ix ix_seq does_ix (de_ix ix_seq does_ix (de_fldO (i := 0) T.k_Kit T.na_Kit_tables) de_int) de_int) da_nil))))))))))) (den_Kit___init__ K)
  obtain ⟨ds, hd, hb⟩ := (F.binds1 (ps := ["self", "tables", "checked"]) 2 0 (by simp) rfl (fun _ _ _ _ _ _ _ us its h1 h2 => match us, its, h1, h2 with | [_, _], [_], _, _ => ⟨_, rfl, rfl⟩))
  exact ⟨T.mk_Kit, fd, _, [.bl true], ds, ok, hb, hd, fun _ => (.cons (.bl true) .nil)⟩
theorem c_Kit___eq__ (T : Top K mg) : FnC P w K mg base 1 (He.ma K (He.ga K "Kit") "__eq__") [] (φ_Kit___eq__ K) := by
  obtain ⟨fd, F⟩ := T.f_Kit___eq__
  have ok := fn_ok (P := P) (w := w) (mg := mg) (base := base) (k := 0) (g := dn_Kit___eq__ K) F sc_Kit___eq__ (ar_Kit___eq__ K) (fun cdv A outer s H E hr => (dss_one (ds_ret (de_and (de_callB call_isi (does_isi (Cs := Cs K) T.insOk) T.n_isinstance (by decide +kernel) (da_cons (de_var (i := 1)) (da_cons (de_globC T.g_Kit) da_nil))) (de_one (de_cmp (op_eqA hr.units) does_eqA (de_fld (de_var (i := 0)) T.k_Kit T.na_Kit_tables) (de_fld (de_var (i := 1)) T.k_Kit T.na_Kit_tables))))))) (den_Kit___eq__ K)
  exact ⟨F.kp, fd, _, [], [], ok, (F.bindsN (fun _ _ _ _ _ _ us hl => match us, hl with | [_, _], _ => rfl)), .nil, fun _ => .nil⟩
theorem q_Kit (T : Top K mg) : EqC P w K mg base 1 (He.ga K "Kit") (He.ma K (He.ga K "Kit") "__eq__") (φ_Kit___eq__ K) := ⟨c_Kit___eq__ T, T.me_Kit___eq__.at_, T.me_Kit___eq__.fn⟩
theorem c_first_nonzero (T : Top K mg) : FnC P w K mg base 1 (He.ga K "first_nonzero") [] (φ_first_nonzero K) := by
  obtain ⟨fd, F⟩ := T.f_first_nonzero
  have ok := fn_ok (P := P) (w := w) (mg := mg) (base := base) (k := 0) (g := dn_first_nonzero K) F sc_first_nonzero (ar_first_nonzero K) (fun cdv A outer s H E hr => (dss_cons (ds_for (passes_of rfl) rfl (di_range2 T.n_range (da_cons (de_var (i := 1)) (da_cons (de_callB call_len does_len T.n_len PySem.boot_len (da_cons (de_var (i := 0)) da_nil)) da_nil))) (dg_name (vs := [3]) (i := 3) sc_first_nonzero.nd) (dss_one (ds_if (dt_cmp (op_neA hr.units) does_neA (de_ix ix_seq does_ix (de_ix ix_seq does_ix (de_var (i := 0)) (de_var (i := 3))) (de_var (i := 2))) de_int) (dss_one (ds_ret (de_var (i := 3)))) dss_nil))) (dss_one (ds_ret de_non)))) (den_first_nonzero K)
  exact ⟨F.kp, fd, _, [], [], ok, (F.bindsN (fun _ _ _ _ _ _ us hl => match us, hl with | [_, _, _], _ => rfl)), .nil, fun _ => .nil⟩
theorem c_echelon (T : Top K mg) : FnC P w K mg base 3 (He.ga K "echelon") [] (φ_echelon K) := by
  obtain ⟨fd, F⟩ := T.f_echelon
  have ok := fn_ok (P := P) (w := w) (mg := mg) (base := base) (k := 2) (g := dn_echelon K) F sc_echelon (ar_echelon K) (fun cdv A outer s H E hr => (dss_cons (ds_setLc (i := 2) [("row", 9)] rfl sc_echelon.nd (di_sq (de_var (i := 0))) (by kernel_rfl) (fun _ _ _ _ _ => (dg_name (vs := (([("row", 9)] : List (Str × Nat)).map (·.2))) (i := 9) sc_echelon.nd)) (fun _ _ _ _ _ => dts_nil) (fun _ _ _ _ _ => (de_tupleL T.n_tuple (by decide +kernel) (dl_of (de_var (i := 9)))))) (dss_cons (ds_set (i := 3) sc_echelon.nd de_int) (dss_cons (ds_for (passes_of rfl) rfl (di_range1 T.n_range (da_cons (de_var (i := 1)) da_nil)) (dg_name (vs := [4]) (i := 4) sc_echelon.nd) (dss_cons (ds_set (i := 5) sc_echelon.nd (de_bw [2] (de_call (c_first_nonzero T) (hr.mono (by decide)) T.g_first_nonzero (takes_of rfl rfl rfl rfl) (da_cons (de_var (i := 2)) (da_cons (de_var (i := 3)) (da_cons (de_var (i := 4)) da_nil)))))) (dss_cons (ds_if (dt_cmp op_isA does_isA (de_var (i := 5)) de_non) (dss_one ds_continue) dss_nil) (dss_cons (ds_set (i := 6) sc_echelon.nd (de_call (c_primitive T) (hr.mono (by decide)) T.g_primitive (takes_of rfl rfl rfl rfl) (da_cons (de_ixL (dl_var (i := 2)) (de_var (i := 5))) da_nil))) (dss_cons (ds_put (i := 2) (de_ixL (dl_var (i := 2)) (de_var (i := 3))) (de_var (i := 5))) (dss_cons (ds_put (i := 2) (de_var (i := 6)) (de_var (i := 3))) (dss_cons (ds_set (i := 7) sc_echelon.nd (de_ix ix_seq does_ix (de_var (i := 6)) (de_var (i := 4)))) (dss_cons (ds_for (passes_of rfl) rfl (di_range1 T.n_range (da_cons (de_lenL T.n_len PySem.boot_len (dl_var (i := 2))) da_nil)) (dg_name (vs := [8]) (i := 8) sc_echelon.nd) (dss_cons (ds_set (i := 9) sc_echelon.nd (de_ixL (dl_var (i := 2)) (de_var (i := 8)))) (dss_cons (ds_set (i := 10) sc_echelon.nd (de_ix ix_seq does_ix (de_var (i := 9)) (de_var (i := 4)))) (dss_one (ds_if (dt_w (dw_and (dt_cmp (op_neA hr.units) does_neA (de_var (i := 8)) (de_var (i := 3))) (dw_and1 (dt_cmp (op_neA hr.units) does_neA (de_var (i := 10)) de_int)))) (dss_one (ds_put (i := 2) (de_call (c_primitive T) (hr.mono (by decide)) T.g_primitive (takes_of rfl rfl rfl rfl) (da_cons (de_fz (df_comp [("j", 11)] rfl sc_echelon.nd (di_range1 T.n_range (da_cons (de_var (i := 1)) da_nil)) (by kernel_rfl) (fun _ _ _ _ _ => (dg_name (vs := (([("j", 11)] : List (Str × Nat)).map (·.2))) (i := 11) sc_echelon.nd)) (fun _ _ _ _ _ => dts_nil) (fun _ _ _ _ _ => (de_op op_sub does_sub (de_op op_mulA does_mulA (de_var (i := 7)) (de_ix ix_seq does_ix (de_var (i := 9)) (de_var (i := 11)))) (de_op op_mulA does_mulA (de_var (i := 10)) (de_ix ix_seq does_ix (de_var (i := 6)) (de_var (i := 11)))))))) da_nil)) (de_var (i := 8)))) dss_nil))))) (dss_one (ds_aug (i := 3) iop_add does_iadd sc_echelon.nd de_int)))))))))) (dss_one (ds_ret (de_tupleL T.n_tuple (by decide +kernel) (dl_of (de_fz (df_cut (dl_var (i := 2)) do_none (do_some (de_var (i := 3))))))))))))) (den_echelon K)
  exact ⟨F.kp, fd, _, [], [], ok, (F.bindsN (fun _ _ _ _ _ _ us hl => match us, hl with | [_, _], _ => rfl)), .nil, fun _ => .nil⟩
theorem c_is_vector (T : Top K mg) : FnC P w K mg base 2 (He.ga K "is_vector") [] (φ_is_vector K) := by
  obtain ⟨fd, F⟩ := T.f_is_vector
  have ok := fn_ok (P := P) (w := w) (mg := mg) (base := base) (k := 1) (g := dn_is_vector K) F sc_is_vector (ar_is_vector K) (fun cdv A outer s H E hr => (dss_one (ds_ret (de_and (de_call (c_is_row T) (hr.mono (by decide)) T.g_is_row (takes_of rfl rfl rfl rfl) (da_cons (de_var (i := 0)) da_nil)) (de_and (de_cmp (op_eqA hr.units) does_eqA (de_callB call_len does_len T.n_len PySem.boot_len (da_cons (de_var (i := 0)) da_nil)) (de_var (i := 1))) (de_one (de_callB (cr_all rfl) does_all T.n_all (by decide +kernel) (da_cons (de_fz (df_comp [("number", 2)] rfl sc_is_vector.nd (di_sq (de_var (i := 0))) (by kernel_rfl) (fun _ _ _ _ _ => (dg_name (vs := (([("number", 2)] : List (Str × Nat)).map (·.2))) (i := 2) sc_is_vector.nd)) (fun _ _ _ _ _ => dts_nil) (fun _ _ _ _ _ => (de_call (c_is_whole T) (hr.mono (by decide)) T.g_is_whole takes0 (da_cons (de_var (i := 2)) da_nil))))) da_nil)))))))) (den_is_vector K)
  exact ⟨F.kp, fd, _, [], [], ok, (F.bindsN (fun _ _ _ _ _ _ us hl => match us, hl with | [_, _], _ => rfl)), .nil, fun _ => .nil⟩
theorem i_Room_2 (T : Top K mg) : FnI P w K mg base 4 (He.ga K "Room") (He.ma K (He.ga K "Room") "__init__") df_Room_2 (φ_Room___init__ K) := by
  obtain ⟨fd, d0, F⟩ := T.f_Room___init__
  have ok := fn_okI (P := P) (w := w) (mg := mg) (base := base) (k := 3) (C := He.ga K "Room") (g := dn_Room___init__ K) F sc_Room___init__ (ar_Room___init__ K) (fun cdv A outer s H E hr => (dss_cons (ds_if (dt_w (dw_or (dt_not (dt_val (de_call (c_is_whole T) (hr.mono (by decide)) T.g_is_whole (takes_of rfl rfl rfl rfl) (da_cons (de_var (i := 1)) da_nil)))) (dw_or (dt_cmp op_lt does_lt (de_var (i := 1)) de_int) (dw_or (dt_cmp op_gt does_gt (de_var (i := 1)) (de_globI T.v_MOST_SIZE)) (dw_or1 (dt_not (dt_val (de_call (c_is_row T) (hr.mono (by decide)) T.g_is_row (takes_of rfl rfl rfl rfl) (da_cons (de_var (i := 2)) da_nil))))))))) (dss_one ds_never) dss_nil) (dss_cons (ds_for (passes_of rfl) rfl (di_sq (de_var (i := 2))) (dg_name (vs := [3]) (i := 3) sc_Room___init__.nd) (dss_one (ds_if (dt_not (dt_val (de_call (c_is_vector T) (hr.mono (by decide)) T.g_is_vector (takes_of rfl rfl rfl rfl) (da_cons (de_var (i := 3)) (da_cons (de_var (i := 1)) da_nil))))) (dss_one ds_never) dss_nil))) (dss_cons (ds_putf (i := 0) T.k_Room T.na_Room_size (de_var (i := 1))) (dss_cons (ds_putf (i := 0) T.k_Room T.na_Room_rows (de_call (c_echelon T) (hr.mono (by decide)) T.g_echelon (takes_of rfl rfl rfl rfl) (da_cons (de_var (i := 2)) (da_cons (de_var (i := 1)) da_nil)))) (dss_one (ds_putf (i := 0) T.k_Room T.na_Room_width (de_callB call_len does_len T.n_len PySem.boot_len (da_cons (de_fldO (i := 0) T.k_Room T.na_Room_rows) da_nil))))))))) (den_Room___init__ K)
  obtain ⟨ds, hd, hb⟩ := (F.binds1 (ps := ["self", "size", "rows"]) 3 1 (by simp) rfl (fun _ _ _ _ _ _ _ us its h1 h2 => match us, its, h1, h2 with | [_, _, _], [_], _, _ => ⟨_, rfl, rfl⟩))
  exact ⟨T.mk_Room, fd, _, [], ds, ok, hb, hd, fun _ => .nil⟩
theorem c_Room___eq__ (T : Top K mg) : FnC P w K mg base 1 (He.ma K (He.ga K "Room") "__eq__") [] (φ_Room___eq__ K) := by
  obtain ⟨fd, F⟩ := T.f_Room___eq__
  have ok := fn_ok (P := P) (w := w) (mg := mg) (base := base) (k := 0) (g := dn_Room___eq__ K) F sc_Room___eq__ (ar_Room___eq__ K) (fun cdv A outer s H E hr => (dss_one (ds_ret (de_and (de_callB call_isi (does_isi (Cs := Cs K) T.insOk) T.n_isinstance (by decide +kernel) (da_cons (de_var (i := 1)) (da_cons (de_globC T.g_Room) da_nil))) (de_and (de_cmp (op_eqA hr.units) does_eqA (de_fld (de_var (i := 0)) T.k_Room T.na_Room_size) (de_fld (de_var (i := 1)) T.k_Room T.na_Room_size)) (de_one (de_cmp (op_eqA hr.units) does_eqA (de_fld (de_var (i := 0)) T.k_Room T.na_Room_rows) (de_fld (de_var (i := 1)) T.k_Room T.na_Room_rows)))))))) (den_Room___eq__ K)
  exact ⟨F.kp, fd, _, [], [], ok, (F.bindsN (fun _ _ _ _ _ _ us hl => match us, hl with | [_, _], _ => rfl)), .nil, fun _ => .nil⟩
theorem q_Room (T : Top K mg) : EqC P w K mg base 1 (He.ga K "Room") (He.ma K (He.ga K "Room") "__eq__") (φ_Room___eq__ K) := ⟨c_Room___eq__ T, T.me_Room___eq__.at_, T.me_Room___eq__.fn⟩
theorem c_number_of (T : Top K mg) : FnC P w K mg base 1 (He.ga K "number_of") [] (φ_number_of K) := by
  obtain ⟨fd, F⟩ := T.f_number_of
  have ok := fn_ok (P := P) (w := w) (mg := mg) (base := base) (k := 0) (g := dn_number_of K) F sc_number_of (ar_number_of K) (fun cdv A outer s H E hr => (dss_cons (ds_set (i := 1) sc_number_of.nd (de_if (dt_val (de_starts (de_var (i := 0)) de_str)) (de_cut (de_var (i := 0)) (do_some de_int) do_none) (de_var (i := 0)))) (dss_cons (ds_if (dt_w (dw_or (dt_cmp op_lt does_lt (de_callB call_len does_len T.n_len PySem.boot_len (da_cons (de_var (i := 1)) da_nil)) de_int) (dw_or1 (dt_cmp op_gt does_gt (de_callB call_len does_len T.n_len PySem.boot_len (da_cons (de_var (i := 1)) da_nil)) (de_globI T.v_MOST_FIGURES))))) (dss_one (ds_ret de_non)) dss_nil) (dss_cons (ds_if (dt_not (dt_val (de_callB (cr_all rfl) does_all T.n_all (by decide +kernel) (da_cons (de_fz (df_comp [("sign", 2)] rfl sc_number_of.nd (di_str (de_var (i := 1))) (by kernel_rfl) (fun _ _ _ _ _ => (dg_name (vs := (([("sign", 2)] : List (Str × Nat)).map (·.2))) (i := 2) sc_number_of.nd)) (fun _ _ _ _ _ => dts_nil) (fun _ _ _ _ _ => (de_cmp op_inA does_inA (de_var (i := 2)) (de_globS T.v_FIGURES))))) da_nil)))) (dss_one (ds_ret de_non)) dss_nil) (dss_cons (ds_if (dt_w (dw_and (dt_cmp (op_eqA hr.units) does_eqA (de_ix ix_seq does_ix (de_var (i := 1)) de_int) de_str) (dw_and1 (dt_w (dw_or (dt_cmp op_gt does_gt (de_callB call_len does_len T.n_len PySem.boot_len (da_cons (de_var (i := 1)) da_nil)) de_int) (dw_or1 (dt_cmp op_gt does_gt (de_callB call_len does_len T.n_len PySem.boot_len (da_cons (de_var (i := 0)) da_nil)) de_int))))))) (dss_one (ds_ret de_non)) dss_nil) (dss_one (ds_ret (de_callTy call_intA does_int T.n_int (by decide +kernel) (da_cons (de_var (i := 0)) da_nil))))))))) (den_number_of K)
  exact ⟨F.kp, fd, _, [], [], ok, (F.bindsN (fun _ _ _ _ _ _ us hl => match us, hl with | [_], _ => rfl)), .nil, fun _ => .nil⟩
theorem c_line_at (T : Top K mg) : FnC P w K mg base 1 (He.ga K "line_at") [] (φ_line_at K) := by
  obtain ⟨fd, F⟩ := T.f_line_at
  have ok := fn_ok (P := P) (w := w) (mg := mg) (base := base) (k := 0) (g := dn_line_at K) F sc_line_at (ar_line_at K) (fun cdv A outer s H E hr => (dss_cons (ds_if (dt_cmp op_ge does_ge (de_var (i := 1)) (de_callB call_len does_len T.n_len PySem.boot_len (da_cons (de_var (i := 0)) da_nil))) (dss_one ds_never) dss_nil) (dss_one (ds_ret (de_ix ix_seq does_ix (de_var (i := 0)) (de_var (i := 1))))))) (den_line_at K)
  exact ⟨F.kp, fd, _, [], [], ok, (F.bindsN (fun _ _ _ _ _ _ us hl => match us, hl with | [_, _], _ => rfl)), .nil, fun _ => .nil⟩
theorem c_taken_row (T : Top K mg) : FnC P w K mg base 2 (He.ga K "taken_row") [] (φ_taken_row K) := by
  obtain ⟨fd, F⟩ := T.f_taken_row
  have ok := fn_ok (P := P) (w := w) (mg := mg) (base := base) (k := 1) (g := dn_taken_row K) F sc_taken_row (ar_taken_row K) (fun cdv A outer s H E hr => (dss_cons (ds_set (i := 3) sc_taken_row.nd (de_fz (df_split (de_call (c_line_at T) (hr.mono (by decide)) T.g_line_at (takes_of rfl rfl rfl rfl) (da_cons (de_var (i := 0)) (da_cons (de_var (i := 1)) da_nil))) de_str))) (dss_cons (ds_setLc (i := 4) [("word", 5)] rfl sc_taken_row.nd (di_sq (de_var (i := 3))) (by kernel_rfl) (fun _ _ _ _ _ => (dg_name (vs := (([("word", 5)] : List (Str × Nat)).map (·.2))) (i := 5) sc_taken_row.nd)) (fun _ _ _ _ _ => dts_nil) (fun _ _ _ _ _ => (de_call (c_number_of T) (hr.mono (by decide)) T.g_number_of takes0 (da_cons (de_var (i := 5)) da_nil)))) (dss_fz 4 (dss_cons (ds_if (dt_w (dw_or (dt_cmp (op_neA hr.units) does_neA (de_callB call_len does_len T.n_len PySem.boot_len (da_cons (de_var (i := 4)) da_nil)) (de_var (i := 2))) (dw_or1 (dt_cmp op_inA does_inA de_non (de_var (i := 4)))))) (dss_one ds_never) dss_nil) (dss_one (ds_ret (de_tupleL T.n_tuple (by decide +kernel) (dl_of (de_var (i := 4))))))))))) (den_taken_row K)
  exact ⟨F.kp, fd, _, [], [], ok, (F.bindsN (fun _ _ _ _ _ _ us hl => match us, hl with | [_, _, _], _ => rfl)), .nil, fun _ => .nil⟩
theorem c_taken_head (T : Top K mg) : FnC P w K mg base 2 (He.ga K "taken_head") [] (φ_taken_head K) := by
  obtain ⟨fd, F⟩ := T.f_taken_head
  have ok := fn_ok (P := P) (w := w) (mg := mg) (base := base) (k := 1) (g := dn_taken_head K) F sc_taken_head (ar_taken_head K) (fun cdv A outer s H E hr => (dss_cons (ds_set (i := 4) sc_taken_head.nd (de_fz (df_split (de_call (c_line_at T) (hr.mono (by decide)) T.g_line_at (takes_of rfl rfl rfl rfl) (da_cons (de_var (i := 0)) (da_cons (de_var (i := 1)) da_nil))) de_str))) (dss_cons (ds_setLc (i := 5) [("item", 7)] rfl sc_taken_head.nd (di_sq (de_cut (de_var (i := 4)) (do_some de_int) do_none)) (by kernel_rfl) (fun _ _ _ _ _ => (dg_name (vs := (([("item", 7)] : List (Str × Nat)).map (·.2))) (i := 7) sc_taken_head.nd)) (fun _ _ _ _ _ => dts_nil) (fun _ _ _ _ _ => (de_call (c_number_of T) (hr.mono (by decide)) T.g_number_of takes0 (da_cons (de_var (i := 7)) da_nil)))) (dss_fz 5 (dss_cons (ds_if (dt_w (dw_or (dt_cmp (op_neA hr.units) does_neA (de_ix ix_seq does_ix (de_var (i := 4)) de_int) (de_var (i := 2))) (dw_or (dt_cmp (op_neA hr.units) does_neA (de_callB call_len does_len T.n_len PySem.boot_len (da_cons (de_var (i := 5)) da_nil)) (de_callB call_len does_len T.n_len PySem.boot_len (da_cons (de_var (i := 3)) da_nil))) (dw_or1 (dt_cmp op_inA does_inA de_non (de_var (i := 5))))))) (dss_one ds_never) dss_nil) (dss_cons (ds_for (passes_of rfl) rfl (di_zip T.n_zip (da_cons (de_var (i := 5)) (da_cons (de_var (i := 3)) da_nil))) (dg_tup (vs := [6, 8, 9]) rfl (dgs_cons (dg_name (vs := [6, 8, 9]) (i := 6) sc_taken_head.nd) (dgs_cons (dg_tup (vs := [6, 8, 9]) rfl (dgs_cons (dg_name (vs := [6, 8, 9]) (i := 8) sc_taken_head.nd) (dgs_cons (dg_name (vs := [6, 8, 9]) (i := 9) sc_taken_head.nd) dgs_nil))) dgs_nil))) (dss_one (ds_if (dt_w (dw_or (dt_cmp op_lt does_lt (de_var (i := 6)) (de_var (i := 8))) (dw_or1 (dt_cmp op_gt does_gt (de_var (i := 6)) (de_var (i := 9)))))) (dss_one ds_never) dss_nil))) (dss_one (ds_ret (de_tupleL T.n_tuple (by decide +kernel) (dl_of (de_var (i := 5)))))))))))) (den_taken_head K)
  exact ⟨F.kp, fd, _, [], [], ok, (F.bindsN (fun _ _ _ _ _ _ us hl => match us, hl with | [_, _, _, _], _ => rfl)), .nil, fun _ => .nil⟩
theorem c_taken_table (T : Top K mg) : FnC P w K mg base 3 (He.ga K "taken_table") [] (φ_taken_table K) := by
  obtain ⟨fd, F⟩ := T.f_taken_table
  have ok := fn_ok (P := P) (w := w) (mg := mg) (base := base) (k := 2) (g := dn_taken_table K) F sc_taken_table (ar_taken_table K) (fun cdv A outer s H E hr => (dss_cons (ds_if (dt_cmp (op_neA hr.units) does_neA (de_call (c_line_at T) (hr.mono (by decide)) T.g_line_at (takes_of rfl rfl rfl rfl) (da_cons (de_var (i := 0)) (da_cons (de_var (i := 1)) da_nil))) de_str) (dss_one ds_never) dss_nil) (dss_cons (ds_set (i := 4) sc_taken_table.nd (de_tupleL T.n_tuple (by decide +kernel) (dl_of (de_fz (df_comp [("k", 5)] rfl sc_taken_table.nd (di_range1 T.n_range (da_cons (de_var (i := 2)) da_nil)) (by kernel_rfl) (fun _ _ _ _ _ => (dg_name (vs := (([("k", 5)] : List (Str × Nat)).map (·.2))) (i := 5) sc_taken_table.nd)) (fun _ _ _ _ _ => dts_nil) (fun _ _ _ _ _ => (de_call (c_taken_row T) (hr.mono (by decide)) T.g_taken_row takes0 (da_cons (de_var (i := 0)) (da_cons (de_op op_addA does_addA (de_op op_addA does_addA (de_var (i := 1)) de_int) (de_var (i := 5))) (da_cons (de_var (i := 3)) da_nil)))))))))) (dss_one (ds_ret (de_tup (da_cons (de_var (i := 4)) (da_cons (de_op op_addA does_addA (de_op op_addA does_addA (de_var (i := 1)) de_int) (de_var (i := 2))) da_nil)))))))) (den_taken_table K)
  exact ⟨F.kp, fd, _, [], [], ok, (F.bindsN (fun _ _ _ _ _ _ us hl => match us, hl with | [_, _, _, _], _ => rfl)), .nil, fun _ => .nil⟩
theorem c_check_end (T : Top K mg) : FnC P w K mg base 1 (He.ga K "check_end") [] (φ_check_end K) := by
  obtain ⟨fd, F⟩ := T.f_check_end
  have ok := fn_ok (P := P) (w := w) (mg := mg) (base := base) (k := 0) (g := dn_check_end K) F sc_check_end (ar_check_end K) (fun cdv A outer s H E hr => (dss_one (ds_if (dt_cmp op_lt does_lt (de_var (i := 1)) (de_callB call_len does_len T.n_len PySem.boot_len (da_cons (de_var (i := 0)) da_nil))) (dss_one ds_never) dss_nil))) (den_check_end K)
  exact ⟨F.kp, fd, _, [], [], ok, (F.bindsN (fun _ _ _ _ _ _ us hl => match us, hl with | [_, _], _ => rfl)), .nil, fun _ => .nil⟩
theorem c_row_line (T : Top K mg) : FnC P w K mg base 1 (He.ga K "row_line") [] (φ_row_line K) := by
  obtain ⟨fd, F⟩ := T.f_row_line
  have ok := fn_ok (P := P) (w := w) (mg := mg) (base := base) (k := 0) (g := dn_row_line K) F sc_row_line (ar_row_line K) (fun cdv A outer s H E hr => (dss_one (ds_ret (de_join de_str (dl_of (de_fz (df_comp [("number", 1)] rfl sc_row_line.nd (di_sq (de_var (i := 0))) (by kernel_rfl) (fun _ _ _ _ _ => (dg_name (vs := (([("number", 1)] : List (Str × Nat)).map (·.2))) (i := 1) sc_row_line.nd)) (fun _ _ _ _ _ => dts_nil) (fun _ _ _ _ _ => (de_callTy call_str_int does_str T.n_str (by decide +kernel) (da_cons (de_var (i := 1)) da_nil)))))))))) (den_row_line K)
  exact ⟨F.kp, fd, _, [], [], ok, (F.bindsN (fun _ _ _ _ _ _ us hl => match us, hl with | [_], _ => rfl)), .nil, fun _ => .nil⟩
theorem c_table_lines (T : Top K mg) : FnC P w K mg base 2 (He.ga K "table_lines") [] (φ_table_lines K) := by
  obtain ⟨fd, F⟩ := T.f_table_lines
  have ok := fn_ok (P := P) (w := w) (mg := mg) (base := base) (k := 1) (g := dn_table_lines K) F sc_table_lines (ar_table_lines K) (fun cdv A outer s H E hr => (dss_one (ds_ret (de_op op_addA does_addA (de_fz (df_lst (da_cons de_str da_nil))) (de_fz (df_comp [("row", 1)] rfl sc_table_lines.nd (di_sq (de_var (i := 0))) (by kernel_rfl) (fun _ _ _ _ _ => (dg_name (vs := (([("row", 1)] : List (Str × Nat)).map (·.2))) (i := 1) sc_table_lines.nd)) (fun _ _ _ _ _ => dts_nil) (fun _ _ _ _ _ => (de_call (c_row_line T) (hr.mono (by decide)) T.g_row_line takes0 (da_cons (de_var (i := 1)) da_nil))))))))) (den_table_lines K)
  exact ⟨F.kp, fd, _, [], [], ok, (F.bindsN (fun _ _ _ _ _ _ us hl => match us, hl with | [_], _ => rfl)), .nil, fun _ => .nil⟩
theorem c_kit_lines (T : Top K mg) : FnC P w K mg base 3 (He.ga K "kit_lines") [] (φ_kit_lines K) := by
  obtain ⟨fd, F⟩ := T.f_kit_lines
  have ok := fn_ok (P := P) (w := w) (mg := mg) (base := base) (k := 2) (g := dn_kit_lines K) F sc_kit_lines (ar_kit_lines K) (fun cdv A outer s H E hr => (dss_cons (ds_setF (i := 1) sc_kit_lines.nd (df_lst (da_cons (de_op op_addA does_addA de_str (de_call (c_row_line T) (hr.mono (by decide)) T.g_row_line (takes_of rfl rfl rfl rfl) (da_cons (de_tup (da_cons (de_fld (de_var (i := 0)) T.k_Kit T.na_Kit_high) (da_cons (de_fld (de_var (i := 0)) T.k_Kit T.na_Kit_wide) (da_cons (de_fld (de_var (i := 0)) T.k_Kit T.na_Kit_many) da_nil)))) da_nil))) da_nil))) (dss_cons (ds_for (passes_of rfl) rfl (di_sq (de_fld (de_var (i := 0)) T.k_Kit T.na_Kit_tables)) (dg_name (vs := [2]) (i := 2) sc_kit_lines.nd) (dss_one (ds_ext (i := 1) sc_kit_lines.nd (dl_of (de_call (c_table_lines T) (hr.mono (by decide)) T.g_table_lines (takes_of rfl rfl rfl rfl) (da_cons (de_var (i := 2)) da_nil)))))) (dss_one (ds_fz 1 (ds_ret (de_var (i := 1)))))))) (den_kit_lines K)
  exact ⟨F.kp, fd, _, [], [], ok, (F.bindsN (fun _ _ _ _ _ _ us hl => match us, hl with | [_], _ => rfl)), .nil, fun _ => .nil⟩
theorem c_room_lines (T : Top K mg) : FnC P w K mg base 2 (He.ga K "room_lines") [] (φ_room_lines K) := by
  obtain ⟨fd, F⟩ := T.f_room_lines
  have ok := fn_ok (P := P) (w := w) (mg := mg) (base := base) (k := 1) (g := dn_room_lines K) F sc_room_lines (ar_room_lines K) (fun cdv A outer s H E hr => (dss_one (ds_ret (de_op op_addA does_addA (de_fz (df_lst (da_cons (de_op op_addA does_addA de_str (de_call (c_row_line T) (hr.mono (by decide)) T.g_row_line (takes_of rfl rfl rfl rfl) (da_cons (de_tup (da_cons (de_fld (de_var (i := 0)) T.k_Room T.na_Room_size) (da_cons (de_fld (de_var (i := 0)) T.k_Room T.na_Room_width) da_nil))) da_nil))) da_nil))) (de_fz (df_comp [("row", 1)] rfl sc_room_lines.nd (di_sq (de_fld (de_var (i := 0)) T.k_Room T.na_Room_rows)) (by kernel_rfl) (fun _ _ _ _ _ => (dg_name (vs := (([("row", 1)] : List (Str × Nat)).map (·.2))) (i := 1) sc_room_lines.nd)) (fun _ _ _ _ _ => dts_nil) (fun _ _ _ _ _ => (de_call (c_row_line T) (hr.mono (by decide)) T.g_row_line takes0 (da_cons (de_var (i := 1)) da_nil))))))))) (den_room_lines K)
  exact ⟨F.kp, fd, _, [], [], ok, (F.bindsN (fun _ _ _ _ _ _ us hl => match us, hl with | [_], _ => rfl)), .nil, fun _ => .nil⟩
theorem c_taken_kit (T : Top K mg) : FnC P w K mg base 10 (He.ga K "taken_kit") [] (φ_taken_kit K) := by
  obtain ⟨fd, F⟩ := T.f_taken_kit
  have ok := fn_ok (P := P) (w := w) (mg := mg) (base := base) (k := 9) (g := dn_taken_kit K) F sc_taken_kit (ar_taken_kit K) (fun cdv A outer s H E hr => (dss_cons (ds_asg (de_call (c_taken_head T) (hr.mono (by decide)) T.g_taken_head (takes_of rfl rfl rfl rfl) (da_cons (de_var (i := 0)) (da_cons (de_var (i := 1)) (da_cons de_str (da_cons (de_tup (da_cons (de_tup (da_cons de_int (da_cons (de_globI T.v_MOST_SIDE) da_nil))) (da_cons (de_tup (da_cons de_int (da_cons (de_globI T.v_MOST_SIDE) da_nil))) (da_cons (de_tup (da_cons de_int (da_cons (de_globI T.v_MOST_TABLES) da_nil))) da_nil)))) da_nil))))) (dg_tup (vs := [5, 6, 7]) rfl (dgs_cons (dg_name (vs := [5, 6, 7]) (i := 5) sc_taken_kit.nd) (dgs_cons (dg_name (vs := [5, 6, 7]) (i := 6) sc_taken_kit.nd) (dgs_cons (dg_name (vs := [5, 6, 7]) (i := 7) sc_taken_kit.nd) dgs_nil))))) (dss_cons (ds_setF (i := 2) sc_taken_kit.nd (df_lst da_nil)) (dss_cons (ds_set (i := 3) sc_taken_kit.nd (de_op op_addA does_addA (de_var (i := 1)) de_int)) (dss_cons (ds_for (passes_of rfl) rfl (di_range1 T.n_range (da_cons (de_var (i := 7)) da_nil)) (dg_name (vs := [4]) (i := 4) sc_taken_kit.nd) (dss_cons (ds_asg (de_call (c_taken_table T) (hr.mono (by decide)) T.g_taken_table (takes_of rfl rfl rfl rfl) (da_cons (de_var (i := 0)) (da_cons (de_var (i := 3)) (da_cons (de_var (i := 5)) (da_cons (de_var (i := 6)) da_nil))))) (dg_tup (vs := [8, 3]) rfl (dgs_cons (dg_name (vs := [8, 3]) (i := 8) sc_taken_kit.nd) (dgs_cons (dg_name (vs := [8, 3]) (i := 3) sc_taken_kit.nd) dgs_nil)))) (dss_one (ds_app (i := 2) (de_var (i := 8)))))) (dss_one (ds_fz 2 (ds_ret (de_tup (da_cons (de_make (i_Kit_1 T) (hr.mono (by decide)) T.g_Kit (takes_of rfl rfl rfl rfl) (da_cons (de_var (i := 2)) da_nil)) (da_cons (de_var (i := 3)) da_nil))))))))))) (den_taken_kit K)
  exact ⟨F.kp, fd, _, [], [], ok, (F.bindsN (fun _ _ _ _ _ _ us hl => match us, hl with | [_, _], _ => rfl)), .nil, fun _ => .nil⟩
theorem c_taken_room_2 (T : Top K mg) : FnC P w K mg base 6 (He.ga K "taken_room") [.int 0] (φ_taken_room K) := by
  obtain ⟨fd, F⟩ := T.f_taken_room
  have ok := fn_ok (P := P) (w := w) (mg := mg) (base := base) (k := 5) (g := dn_taken_room K) F sc_taken_room (ar_taken_room K) (fun cdv A outer s H E hr => (dss_cons (ds_asg (de_call (c_taken_head T) (hr.mono (by decide)) T.g_taken_head (takes_of rfl rfl rfl rfl) (da_cons (de_var (i := 0)) (da_cons (de_var (i := 1)) (da_cons de_str (da_cons (de_tup (da_cons (de_tup (da_cons de_int (da_cons (de_globI T.v_MOST_SIZE) da_nil))) (da_cons (de_tup (da_cons de_int (da_cons (de_globI T.v_MOST_SIZE) da_nil))) da_nil))) da_nil))))) (dg_tup (vs := [5, 6]) rfl (dgs_cons (dg_name (vs := [5, 6]) (i := 5) sc_taken_room.nd) (dgs_cons (dg_name (vs := [5, 6]) (i := 6) sc_taken_room.nd) dgs_nil)))) (dss_cons (ds_if (dt_w (dw_or (dt_cmp op_gt does_gt (de_var (i := 6)) (de_var (i := 5))) (dw_or1 (dt_w (dw_and (dt_cmp op_gt does_gt (de_var (i := 2)) de_int) (dw_and1 (dt_cmp (op_neA hr.units) does_neA (de_var (i := 5)) (de_var (i := 2))))))))) (dss_one ds_never) dss_nil) (dss_cons (ds_setF (i := 3) sc_taken_room.nd (df_lst da_nil)) (dss_cons (ds_for (passes_of rfl) rfl (di_range1 T.n_range (da_cons (de_var (i := 6)) da_nil)) (dg_name (vs := [4]) (i := 4) sc_taken_room.nd) (dss_cons (ds_app (i := 3) (de_call (c_taken_row T) (hr.mono (by decide)) T.g_taken_row (takes_of rfl rfl rfl rfl) (da_cons (de_var (i := 0)) (da_cons (de_op op_addA does_addA (de_op op_addA does_addA (de_var (i := 1)) de_int) (de_var (i := 4))) (da_cons (de_var (i := 5)) da_nil))))) (dss_one (ds_if (dt_bw [3] (dt_cmp (op_neA hr.units) does_neA (de_fld (de_make (i_Room_2 T) (hr.mono (by decide)) T.g_Room (takes_of rfl rfl rfl rfl) (da_cons (de_var (i := 5)) (da_cons (de_var (i := 3)) da_nil))) T.k_Room T.na_Room_rows) (de_tupleL T.n_tuple (by decide +kernel) (dl_of (de_var (i := 3)))))) (dss_one ds_never) dss_nil)))) (dss_one (ds_fz 3 (ds_ret (de_tup (da_cons (de_make (i_Room_2 T) (hr.mono (by decide)) T.g_Room (takes_of rfl rfl rfl rfl) (da_cons (de_var (i := 5)) (da_cons (de_var (i := 3)) da_nil))) (da_cons (de_op op_addA does_addA (de_op op_addA does_addA (de_var (i := 1)) de_int) (de_var (i := 6))) da_nil))))))))))) (den_taken_room K)
  obtain ⟨ds, hd, hb⟩ := (F.binds1 (ps := ["lines", "at", "wanted"]) 2 0 (by simp) rfl (fun _ _ _ _ _ _ _ us its h1 h2 => match us, its, h1, h2 with | [_, _], [_], _, _ => ⟨_, rfl, rfl⟩))
  exact ⟨F.kp, fd, _, [.int 0], ds, ok, hb, hd, fun _ => (.cons (.int 0) .nil)⟩
theorem c_kit_text (T : Top K mg) : FnC P w K mg base 4 (He.ga K "kit_text") [] (φ_kit_text K) := by
  obtain ⟨fd, F⟩ := T.f_kit_text
  have ok := fn_ok (P := P) (w := w) (mg := mg) (base := base) (k := 3) (g := dn_kit_text K) F sc_kit_text (ar_kit_text K) (fun cdv A outer s H E hr => (dss_one (ds_ret (de_join de_str (dl_of (de_call (c_kit_lines T) (hr.mono (by decide)) T.g_kit_lines (takes_of rfl rfl rfl rfl) (da_cons (de_var (i := 0)) da_nil))))))) (den_kit_text K)
  exact ⟨F.kp, fd, _, [], [], ok, (F.bindsN (fun _ _ _ _ _ _ us hl => match us, hl with | [_], _ => rfl)), .nil, fun _ => .nil⟩
theorem c_read_kit (T : Top K mg) : FnC P w K mg base 11 (He.ga K "read_kit") [] (φ_read_kit K) := by
  obtain ⟨fd, F⟩ := T.f_read_kit
  have ok := fn_ok (P := P) (w := w) (mg := mg) (base := base) (k := 10) (g := dn_read_kit K) F sc_read_kit (ar_read_kit K) (fun cdv A outer s H E hr => (dss_cons (ds_set (i := 1) sc_read_kit.nd (de_fz (df_split (de_var (i := 0)) de_str))) (dss_cons (ds_asg (de_call (c_taken_kit T) (hr.mono (by decide)) T.g_taken_kit (takes_of rfl rfl rfl rfl) (da_cons (de_var (i := 1)) (da_cons de_int da_nil))) (dg_tup (vs := [2, 3]) rfl (dgs_cons (dg_name (vs := [2, 3]) (i := 2) sc_read_kit.nd) (dgs_cons (dg_name (vs := [2, 3]) (i := 3) sc_read_kit.nd) dgs_nil)))) (dss_cons (ds_expr (de_call (c_check_end T) (hr.mono (by decide)) T.g_check_end (takes_of rfl rfl rfl rfl) (da_cons (de_var (i := 1)) (da_cons (de_var (i := 3)) da_nil)))) (dss_one (ds_ret (de_var (i := 2)))))))) (den_read_kit K)
  exact ⟨F.kp, fd, _, [], [], ok, (F.bindsN (fun _ _ _ _ _ _ us hl => match us, hl with | [_], _ => rfl)), .nil, fun _ => .nil⟩
theorem c_room_text (T : Top K mg) : FnC P w K mg base 3 (He.ga K "room_text") [] (φ_room_text K) := by
  obtain ⟨fd, F⟩ := T.f_room_text
  have ok := fn_ok (P := P) (w := w) (mg := mg) (base := base) (k := 2) (g := dn_room_text K) F sc_room_text (ar_room_text K) (fun cdv A outer s H E hr => (dss_one (ds_ret (de_join de_str (dl_of (de_call (c_room_lines T) (hr.mono (by decide)) T.g_room_lines (takes_of rfl rfl rfl rfl) (da_cons (de_var (i := 0)) da_nil))))))) (den_room_text K)
  exact ⟨F.kp, fd, _, [], [], ok, (F.bindsN (fun _ _ _ _ _ _ us hl => match us, hl with | [_], _ => rfl)), .nil, fun _ => .nil⟩
theorem c_read_room (T : Top K mg) : FnC P w K mg base 7 (He.ga K "read_room") [] (φ_read_room K) := by
  obtain ⟨fd, F⟩ := T.f_read_room
  have ok := fn_ok (P := P) (w := w) (mg := mg) (base := base) (k := 6) (g := dn_read_room K) F sc_read_room (ar_read_room K) (fun cdv A outer s H E hr => (dss_cons (ds_set (i := 1) sc_read_room.nd (de_fz (df_split (de_var (i := 0)) de_str))) (dss_cons (ds_asg (de_call (c_taken_room_2 T) (hr.mono (by decide)) T.g_taken_room (takes_of rfl rfl rfl rfl) (da_cons (de_var (i := 1)) (da_cons de_int da_nil))) (dg_tup (vs := [2, 3]) rfl (dgs_cons (dg_name (vs := [2, 3]) (i := 2) sc_read_room.nd) (dgs_cons (dg_name (vs := [2, 3]) (i := 3) sc_read_room.nd) dgs_nil)))) (dss_cons (ds_expr (de_call (c_check_end T) (hr.mono (by decide)) T.g_check_end (takes_of rfl rfl rfl rfl) (da_cons (de_var (i := 1)) (da_cons (de_var (i := 3)) da_nil)))) (dss_one (ds_ret (de_var (i := 2)))))))) (den_read_room K)
  exact ⟨F.kp, fd, _, [], [], ok, (F.bindsN (fun _ _ _ _ _ _ us hl => match us, hl with | [_], _ => rfl)), .nil, fun _ => .nil⟩
theorem c__law_cell (T : Top K mg) : FnC P w K mg base 1 (He.ga K "_law_cell") [] (φ__law_cell K) := by
  obtain ⟨fd, F⟩ := T.f__law_cell
  have ok := fn_ok (P := P) (w := w) (mg := mg) (base := base) (k := 0) (g := dn__law_cell K) F sc__law_cell (ar__law_cell K) (fun cdv A outer s H E hr => (dss_cons (ds_if (dt_cmp op_lt does_lt (de_var (i := 1)) (de_callB call_len does_len T.n_len PySem.boot_len (da_cons (de_var (i := 0)) da_nil))) (dss_one (ds_ret (de_ix ix_seq does_ix (de_var (i := 0)) (de_var (i := 1))))) dss_nil) (dss_cons (ds_set (i := 2) sc__law_cell.nd de_int) (dss_cons (ds_for (passes_of rfl) rfl (di_sq (de_var (i := 0))) (dg_name (vs := [3]) (i := 3) sc__law_cell.nd) (dss_one (ds_set (i := 2) sc__law_cell.nd (de_op op_mod does_mod (de_callTy call_intA does_int T.n_int (by decide +kernel) (da_cons (de_op op_addA does_addA (de_op op_mulA does_mulA (de_var (i := 2)) de_int) (de_op op_mod does_mod (de_callTy call_intA does_int T.n_int (by decide +kernel) (da_cons (de_var (i := 3)) da_nil)) de_int)) da_nil)) de_int)))) (dss_one (ds_ret (de_op op_mod does_mod (de_callTy call_intA does_int T.n_int (by decide +kernel) (da_cons (de_op op_mulA does_mulA (de_op op_mulA does_mulA (de_op op_addA does_addA (de_var (i := 2)) de_int) (de_op op_addA does_addA (de_var (i := 1)) de_int)) de_int) da_nil)) de_int))))))) (den__law_cell K)
  exact ⟨F.kp, fd, _, [], [], ok, (F.bindsN (fun _ _ _ _ _ _ us hl => match us, hl with | [_, _], _ => rfl)), .nil, fun _ => .nil⟩
theorem c__law_digits (T : Top K mg) : FnC P w K mg base 1 (He.ga K "_law_digits") [] (φ__law_digits K) := by
  obtain ⟨fd, F⟩ := T.f__law_digits
  have ok := fn_ok (P := P) (w := w) (mg := mg) (base := base) (k := 0) (g := dn__law_digits K) F sc__law_digits (ar__law_digits K) (fun cdv A outer s H E hr => (dss_cons (ds_setF (i := 2) sc__law_digits.nd (df_lst da_nil)) (dss_cons (ds_set (i := 3) sc__law_digits.nd (de_callTy call_intA does_int T.n_int (by decide +kernel) (da_cons (de_var (i := 0)) da_nil))) (dss_cons (ds_if (dt_cmp op_ge does_ge (de_var (i := 3)) (de_op op_pow does_pow de_int de_int)) (dss_cons (ds_set (i := 3) sc__law_digits.nd (de_op op_sub does_sub (de_var (i := 3)) (de_op op_pow does_pow de_int de_int))) (dss_cons (ds_for (passes_of rfl) rfl (di_sq (de_var (i := 1))) (dg_name (vs := [6]) (i := 6) sc__law_digits.nd) (dss_cons (ds_app (i := 2) (de_op op_mod does_mod (de_callTy call_intA does_int T.n_int (by decide +kernel) (da_cons (de_var (i := 3)) da_nil)) (de_var (i := 6)))) (dss_one (ds_set (i := 3) sc__law_digits.nd (de_op op_fdivM does_fdiv (de_callTy call_intA does_int T.n_int (by decide +kernel) (da_cons (de_var (i := 3)) da_nil)) (de_var (i := 6))))))) (dss_one (ds_fz 2 (ds_ret (de_var (i := 2))))))) dss_nil) (dss_cons (ds_set (i := 4) sc__law_digits.nd (de_op op_mod does_mod (de_callTy call_intA does_int T.n_int (by decide +kernel) (da_cons (de_var (i := 3)) da_nil)) de_int)) (dss_cons (ds_for (passes_of rfl) rfl (di_range1 T.n_range (da_cons (de_callB call_len does_len T.n_len PySem.boot_len (da_cons (de_var (i := 1)) da_nil)) da_nil)) (dg_name (vs := [5]) (i := 5) sc__law_digits.nd) (dss_cons (ds_set (i := 4) sc__law_digits.nd (de_op op_mod does_mod (de_callTy call_intA does_int T.n_int (by decide +kernel) (da_cons (de_op op_addA does_addA (de_op op_addA does_addA (de_op op_mulA does_mulA (de_var (i := 4)) de_int) (de_op op_mulA does_mulA de_int (de_var (i := 5)))) de_int) da_nil)) de_int)) (dss_cons (ds_set (i := 7) sc__law_digits.nd (de_op op_mod does_mod (de_callTy call_intA does_int T.n_int (by decide +kernel) (da_cons (de_op op_mulA does_mulA (de_var (i := 4)) (de_op op_addA does_addA (de_op op_fdivM does_fdiv (de_var (i := 4)) de_int) de_int)) da_nil)) de_int)) (dss_one (ds_app (i := 2) (de_op op_mod does_mod (de_op op_fdivM does_fdiv (de_var (i := 7)) de_int) (de_ix ix_seq does_ix (de_var (i := 1)) (de_var (i := 5))))))))) (dss_one (ds_fz 2 (ds_ret (de_var (i := 2))))))))))) (den__law_digits K)
  exact ⟨F.kp, fd, _, [], [], ok, (F.bindsN (fun _ _ _ _ _ _ us hl => match us, hl with | [_, _], _ => rfl)), .nil, fun _ => .nil⟩
theorem c__law_gcd (T : Top K mg) : FnC P w K mg base 1 (He.ga K "_law_gcd") [] (φ__law_gcd K) := by
  obtain ⟨fd, F⟩ := T.f__law_gcd
  have ok := fn_ok (P := P) (w := w) (mg := mg) (base := base) (k := 0) (g := dn__law_gcd K) F sc__law_gcd (ar__law_gcd K) (fun cdv A outer s H E hr => (dss_cons (ds_set (i := 2) sc__law_gcd.nd (de_callB call_abs does_abs T.n_abs (by decide +kernel) (da_cons (de_var (i := 0)) da_nil))) (dss_cons (ds_set (i := 3) sc__law_gcd.nd (de_callB call_abs does_abs T.n_abs (by decide +kernel) (da_cons (de_var (i := 1)) da_nil))) (dss_cons (ds_while (fuelI 3) (passes_of rfl) (dt_cmp (op_neA hr.units) does_neA (de_var (i := 3)) de_int) (dss_cons (ds_set (i := 4) sc__law_gcd.nd (de_op op_mod does_mod (de_callTy call_intA does_int T.n_int (by decide +kernel) (da_cons (de_var (i := 2)) da_nil)) (de_var (i := 3)))) (dss_cons (ds_set (i := 2) sc__law_gcd.nd (de_var (i := 3))) (dss_one (ds_set (i := 3) sc__law_gcd.nd (de_var (i := 4))))))) (dss_one (ds_ret (de_var (i := 2)))))))) (den__law_gcd K)
  exact ⟨F.kp, fd, _, [], [], ok, (F.bindsN (fun _ _ _ _ _ _ us hl => match us, hl with | [_, _], _ => rfl)), .nil, fun _ => .nil⟩
theorem c__law_lowest (T : Top K mg) : FnC P w K mg base 2 (He.ga K "_law_lowest") [] (φ__law_lowest K) := by
  obtain ⟨fd, F⟩ := T.f__law_lowest
  have ok := fn_ok (P := P) (w := w) (mg := mg) (base := base) (k := 1) (g := dn__law_lowest K) F sc__law_lowest (ar__law_lowest K) (fun cdv A outer s H E hr => (dss_cons (ds_set (i := 1) sc__law_lowest.nd de_int) (dss_cons (ds_set (i := 2) sc__law_lowest.nd de_int) (dss_cons (ds_for (passes_of rfl) rfl (di_sq (de_var (i := 0))) (dg_name (vs := [3]) (i := 3) sc__law_lowest.nd) (dss_cons (ds_set (i := 1) sc__law_lowest.nd (de_call (c__law_gcd T) (hr.mono (by decide)) T.g__law_gcd (takes_of rfl rfl rfl rfl) (da_cons (de_var (i := 1)) (da_cons (de_var (i := 3)) da_nil)))) (dss_one (ds_if (dt_w (dw_and (dt_cmp (op_eqA hr.units) does_eqA (de_var (i := 2)) de_int) (dw_and1 (dt_cmp (op_neA hr.units) does_neA (de_var (i := 3)) de_int)))) (dss_one (ds_set (i := 2) sc__law_lowest.nd (de_op op_sub does_sub de_int (de_op op_mulA does_mulA de_int (de_callTy call_intA does_int T.n_int (by decide +kernel) (da_cons (de_cmp op_lt does_lt (de_var (i := 3)) de_int) da_nil)))))) dss_nil)))) (dss_cons (ds_if (dt_cmp (op_eqA hr.units) does_eqA (de_var (i := 1)) de_int) (dss_one (ds_ret (de_fz (df_comp [("number", 3)] rfl sc__law_lowest.nd (di_sq (de_var (i := 0))) (by kernel_rfl) (fun _ _ _ _ _ => (dg_name (vs := (([("number", 3)] : List (Str × Nat)).map (·.2))) (i := 3) sc__law_lowest.nd)) (fun _ _ _ _ _ => dts_nil) (fun _ _ _ _ _ => (de_var (i := 3))))))) dss_nil) (dss_one (ds_ret (de_fz (df_comp [("number", 3)] rfl sc__law_lowest.nd (di_sq (de_var (i := 0))) (by kernel_rfl) (fun _ _ _ _ _ => (dg_name (vs := (([("number", 3)] : List (Str × Nat)).map (·.2))) (i := 3) sc__law_lowest.nd)) (fun _ _ _ _ _ => dts_nil) (fun _ _ _ _ _ => (de_op op_fdivM does_fdiv (de_op op_mulA does_mulA (de_var (i := 2)) (de_var (i := 3))) (de_var (i := 1))))))))))))) (den__law_lowest K)
  exact ⟨F.kp, fd, _, [], [], ok, (F.bindsN (fun _ _ _ _ _ _ us hl => match us, hl with | [_], _ => rfl)), .nil, fun _ => .nil⟩
theorem c__law_reduced (T : Top K mg) : FnC P w K mg base 3 (He.ga K "_law_reduced") [] (φ__law_reduced K) := by
  obtain ⟨fd, F⟩ := T.f__law_reduced
  have ok := fn_ok (P := P) (w := w) (mg := mg) (base := base) (k := 2) (g := dn__law_reduced K) F sc__law_reduced (ar__law_reduced K) (fun cdv A outer s H E hr => (dss_cons (ds_setF (i := 2) sc__law_reduced.nd (df_comp [("row", 7)] rfl sc__law_reduced.nd (di_sq (de_var (i := 0))) (by kernel_rfl) (fun _ _ _ _ _ => (dg_name (vs := (([("row", 7)] : List (Str × Nat)).map (·.2))) (i := 7) sc__law_reduced.nd)) (fun _ _ _ _ _ => dts_nil) (fun _ _ _ _ _ => (de_fz (df_comp [("number", 8)] rfl sc__law_reduced.nd (di_sq (de_var (i := 7))) (by kernel_rfl) (fun _ _ _ _ _ => (dg_name (vs := (([("number", 8)] : List (Str × Nat)).map (·.2))) (i := 8) sc__law_reduced.nd)) (fun _ _ _ _ _ => dts_nil) (fun _ _ _ _ _ => (de_var (i := 8)))))))) (dss_cons (ds_set (i := 3) sc__law_reduced.nd de_int) (dss_cons (ds_for (passes_of rfl) rfl (di_range1 T.n_range (da_cons (de_var (i := 1)) da_nil)) (dg_name (vs := [4]) (i := 4) sc__law_reduced.nd) (dss_cons (ds_set (i := 5) sc__law_reduced.nd (de_un un_neg does_neg de_int)) (dss_cons (ds_for (passes_of rfl) rfl (di_range2 T.n_range (da_cons (de_var (i := 3)) (da_cons (de_lenL T.n_len PySem.boot_len (dl_var (i := 2))) da_nil))) (dg_name (vs := [6]) (i := 6) sc__law_reduced.nd) (dss_one (ds_if (dt_w (dw_and (dt_cmp op_lt does_lt (de_var (i := 5)) de_int) (dw_and1 (dt_cmp (op_neA hr.units) does_neA (de_ix ix_seq does_ix (de_ixL (dl_var (i := 2)) (de_var (i := 6))) (de_var (i := 4))) de_int)))) (dss_one (ds_set (i := 5) sc__law_reduced.nd (de_var (i := 6)))) dss_nil))) (dss_one (ds_if (dt_cmp op_ge does_ge (de_var (i := 5)) de_int) (dss_cons (ds_set (i := 7) sc__law_reduced.nd (de_call (c__law_lowest T) (hr.mono (by decide)) T.g__law_lowest (takes_of rfl rfl rfl rfl) (da_cons (de_ixL (dl_var (i := 2)) (de_var (i := 5))) da_nil))) (dss_cons (ds_put (i := 2) (de_ixL (dl_var (i := 2)) (de_var (i := 3))) (de_var (i := 5))) (dss_cons (ds_put (i := 2) (de_var (i := 7)) (de_var (i := 3))) (dss_cons (ds_for (passes_of rfl) rfl (di_range1 T.n_range (da_cons (de_lenL T.n_len PySem.boot_len (dl_var (i := 2))) da_nil)) (dg_name (vs := [6]) (i := 6) sc__law_reduced.nd) (dss_one (ds_if (dt_w (dw_and (dt_cmp (op_neA hr.units) does_neA (de_var (i := 6)) (de_var (i := 3))) (dw_and1 (dt_cmp (op_neA hr.units) does_neA (de_ix ix_seq does_ix (de_ixL (dl_var (i := 2)) (de_var (i := 6))) (de_var (i := 4))) de_int)))) (dss_cons (ds_set (i := 9) sc__law_reduced.nd (de_ixL (dl_var (i := 2)) (de_var (i := 6)))) (dss_one (ds_put (i := 2) (de_call (c__law_lowest T) (hr.mono (by decide)) T.g__law_lowest (takes_of rfl rfl rfl rfl) (da_cons (de_fz (df_comp [("j", 10)] rfl sc__law_reduced.nd (di_range1 T.n_range (da_cons (de_var (i := 1)) da_nil)) (by kernel_rfl) (fun _ _ _ _ _ => (dg_name (vs := (([("j", 10)] : List (Str × Nat)).map (·.2))) (i := 10) sc__law_reduced.nd)) (fun _ _ _ _ _ => dts_nil) (fun _ _ _ _ _ => (de_op op_sub does_sub (de_op op_mulA does_mulA (de_ix ix_seq does_ix (de_var (i := 7)) (de_var (i := 4))) (de_ix ix_seq does_ix (de_var (i := 9)) (de_var (i := 10)))) (de_op op_mulA does_mulA (de_ix ix_seq does_ix (de_var (i := 9)) (de_var (i := 4))) (de_ix ix_seq does_ix (de_var (i := 7)) (de_var (i := 10)))))))) da_nil)) (de_var (i := 6))))) dss_nil))) (dss_one (ds_set (i := 3) sc__law_reduced.nd (de_op op_addA does_addA (de_var (i := 3)) de_int))))))) dss_nil))))) (dss_one (ds_ret (de_fz (df_comp [("k", 6)] rfl sc__law_reduced.nd (di_range1 T.n_range (da_cons (de_var (i := 3)) da_nil)) (by kernel_rfl) (fun _ _ _ _ _ => (dg_name (vs := (([("k", 6)] : List (Str × Nat)).map (·.2))) (i := 6) sc__law_reduced.nd)) (fun _ _ _ _ _ => dts_nil) (fun _ _ _ _ _ => (de_ixL (dl_var (i := 2)) (de_var (i := 6)))))))))))) (den__law_reduced K)
  exact ⟨F.kp, fd, _, [], [], ok, (F.bindsN (fun _ _ _ _ _ _ us hl => match us, hl with | [_, _], _ => rfl)), .nil, fun _ => .nil⟩
theorem c__law_product (T : Top K mg) : FnV P w K mg base 1 (He.ga K "_law_product") [] 2 (φ__law_product K) := by
  obtain ⟨fd, F⟩ := T.f__law_product
  exact fnV F (fn_okV (k := 0) (g := dn__law_product K) F sc__law_product (ar__law_product K) (fun cdv A outer s H E hr => (dss_cons (ds_setV (n := 1) (i := 2) sc__law_product.nd (dv_nil 1)) (dss_cons (ds_for (passes_of rfl) rfl (di_sq (de_var (i := 0))) (dg_name (vs := [3]) (i := 3) sc__law_product.nd) (dss_cons (ds_setF (i := 4) sc__law_product.nd (df_lst da_nil)) (dss_cons (ds_for (passes_of rfl) rfl (di_range1 T.n_range (da_cons (de_callB call_len does_len T.n_len PySem.boot_len (da_cons (de_ix ix_seq does_ix (de_var (i := 1)) de_int) da_nil)) da_nil)) (dg_name (vs := [5]) (i := 5) sc__law_product.nd) (dss_cons (ds_set (i := 6) sc__law_product.nd de_int) (dss_cons (ds_for (passes_of rfl) rfl (di_range1 T.n_range (da_cons (de_callB call_len does_len T.n_len PySem.boot_len (da_cons (de_var (i := 1)) da_nil)) da_nil)) (dg_name (vs := [7]) (i := 7) sc__law_product.nd) (dss_one (ds_set (i := 6) sc__law_product.nd (de_op op_addA does_addA (de_var (i := 6)) (de_op op_mulA does_mulA (de_ix ix_seq does_ix (de_var (i := 3)) (de_var (i := 7))) (de_ix ix_seq does_ix (de_ix ix_seq does_ix (de_var (i := 1)) (de_var (i := 7))) (de_var (i := 5)))))))) (dss_one (ds_app (i := 4) (de_var (i := 6))))))) (dss_one (ds_appO (i := 2) (j := 4)))))) (dss_one (ds_retTr (i := 2)))))) (den__law_product K)) (fun _ _ _ _ _ _ us hl => match us, hl with | [_, _], _ => rfl)
theorem c__law_tuple (T : Top K mg) : FnC P w K mg base 1 (He.ga K "_law_tuple") [] (φ__law_tuple K) := by
  obtain ⟨fd, F⟩ := T.f__law_tuple
  have ok := fn_ok (P := P) (w := w) (mg := mg) (base := base) (k := 0) (g := dn__law_tuple K) F sc__law_tuple (ar__law_tuple K) (fun cdv A outer s H E hr => (dss_one (ds_ret (de_tupleL T.n_tuple (by decide +kernel) (dl_of (de_fz (df_comp [("row", 1)] rfl sc__law_tuple.nd (di_sq (de_var (i := 0))) (by kernel_rfl) (fun _ _ _ _ _ => (dg_name (vs := (([("row", 1)] : List (Str × Nat)).map (·.2))) (i := 1) sc__law_tuple.nd)) (fun _ _ _ _ _ => dts_nil) (fun _ _ _ _ _ => (de_tupleL T.n_tuple (by decide +kernel) (dl_of (de_var (i := 1)))))))))))) (den__law_tuple K)
  exact ⟨F.kp, fd, _, [], [], ok, (F.bindsN (fun _ _ _ _ _ _ us hl => match us, hl with | [_], _ => rfl)), .nil, fun _ => .nil⟩
theorem c__law_frame (T : Top K mg) : FnC P w K mg base 1 (He.ga K "_law_frame") [] (φ__law_frame K) := by
  obtain ⟨fd, F⟩ := T.f__law_frame
  have ok := fn_ok (P := P) (w := w) (mg := mg) (base := base) (k := 0) (g := dn__law_frame K) F sc__law_frame (ar__law_frame K) (fun cdv A outer s H E hr => (dss_cons (ds_setLc (i := 2) [("i", 7)] rfl sc__law_frame.nd (di_range1 T.n_range (da_cons (de_var (i := 0)) da_nil)) (by kernel_rfl) (fun _ _ _ _ _ => (dg_name (vs := (([("i", 7)] : List (Str × Nat)).map (·.2))) (i := 7) sc__law_frame.nd)) (fun _ _ _ _ _ => dts_nil) (fun _ _ _ _ _ => (de_fz (df_comp [("j", 10)] rfl sc__law_frame.nd (di_range1 T.n_range (da_cons (de_var (i := 0)) da_nil)) (by kernel_rfl) (fun _ _ _ _ _ => (dg_name (vs := (([("j", 10)] : List (Str × Nat)).map (·.2))) (i := 10) sc__law_frame.nd)) (fun _ _ _ _ _ => dts_nil) (fun _ _ _ _ _ => (de_callTy call_intA does_int T.n_int (by decide +kernel) (da_cons (de_cmp (op_eqA hr.units) does_eqA (de_var (i := 7)) (de_var (i := 10))) da_nil))))))) (dss_cons (ds_for (passes_of rfl) rfl (di_range1 T.n_range (da_cons (de_op op_fdivM does_fdiv (de_callB call_len does_len T.n_len PySem.boot_len (da_cons (de_var (i := 1)) da_nil)) de_int) da_nil)) (dg_name (vs := [3]) (i := 3) sc__law_frame.nd) (dss_cons (ds_set (i := 4) sc__law_frame.nd (de_op op_mod does_mod (de_callTy call_intA does_int T.n_int (by decide +kernel) (da_cons (de_ix ix_seq does_ix (de_var (i := 1)) (de_op op_mulA does_mulA de_int (de_var (i := 3)))) da_nil)) (de_var (i := 0)))) (dss_cons (ds_set (i := 5) sc__law_frame.nd (de_op op_mod does_mod (de_callTy call_intA does_int T.n_int (by decide +kernel) (da_cons (de_ix ix_seq does_ix (de_var (i := 1)) (de_op op_addA does_addA (de_op op_mulA does_mulA de_int (de_var (i := 3))) de_int)) da_nil)) (de_var (i := 0)))) (dss_cons (ds_set (i := 6) sc__law_frame.nd (de_ix ix_seq does_ix (de_fz (df_lst (da_cons de_int (da_cons (de_un un_neg does_neg de_int) (da_cons de_int (da_cons de_int (da_cons (de_un un_neg does_neg de_int) da_nil))))))) (de_op op_mod does_mod (de_callTy call_intA does_int T.n_int (by decide +kernel) (da_cons (de_ix ix_seq does_ix (de_var (i := 1)) (de_op op_addA does_addA (de_op op_mulA does_mulA de_int (de_var (i := 3))) de_int)) da_nil)) de_int))) (dss_cons (ds_if (dt_cmp (op_neA hr.units) does_neA (de_var (i := 4)) (de_var (i := 5))) (dss_cons (ds_set (i := 8) sc__law_frame.nd (de_ixL (dl_var (i := 2)) (de_var (i := 4)))) (dss_cons (ds_set (i := 9) sc__law_frame.nd (de_ixL (dl_var (i := 2)) (de_var (i := 5)))) (dss_one (ds_put (i := 2) (de_fz (df_comp [("j", 10)] rfl sc__law_frame.nd (di_range1 T.n_range (da_cons (de_var (i := 0)) da_nil)) (by kernel_rfl) (fun _ _ _ _ _ => (dg_name (vs := (([("j", 10)] : List (Str × Nat)).map (·.2))) (i := 10) sc__law_frame.nd)) (fun _ _ _ _ _ => dts_nil) (fun _ _ _ _ _ => (de_op op_addA does_addA (de_ix ix_seq does_ix (de_var (i := 8)) (de_var (i := 10))) (de_op op_mulA does_mulA (de_var (i := 6)) (de_ix ix_seq does_ix (de_var (i := 9)) (de_var (i := 10)))))))) (de_var (i := 4)))))) dss_nil) (dss_one (ds_if (dt_w (dw_and (dt_cmp (op_eqA hr.units) does_eqA (de_var (i := 4)) (de_var (i := 5))) (dw_and1 (dt_cmp op_gt does_gt (de_var (i := 6)) de_int)))) (dss_cons (ds_set (i := 8) sc__law_frame.nd (de_ixL (dl_var (i := 2)) (de_var (i := 4)))) (dss_one (ds_put (i := 2) (de_fz (df_comp [("number", 11)] rfl sc__law_frame.nd (di_sq (de_var (i := 8))) (by kernel_rfl) (fun _ _ _ _ _ => (dg_name (vs := (([("number", 11)] : List (Str × Nat)).map (·.2))) (i := 11) sc__law_frame.nd)) (fun _ _ _ _ _ => dts_nil) (fun _ _ _ _ _ => (de_op op_sub does_sub de_int (de_op op_mulA does_mulA (de_var (i := 6)) (de_var (i := 11))))))) (de_var (i := 4))))) dss_nil))))))) (dss_one (ds_fz 2 (ds_ret (de_var (i := 2)))))))) (den__law_frame K)
  exact ⟨F.kp, fd, _, [], [], ok, (F.bindsN (fun _ _ _ _ _ _ us hl => match us, hl with | [_, _], _ => rfl)), .nil, fun _ => .nil⟩
theorem c__law_small (T : Top K mg) : FnV P w K mg base 1 (He.ga K "_law_small") [] 2 (φ__law_small K) := by
  obtain ⟨fd, F⟩ := T.f__law_small
  exact fnV F (fn_okV (k := 0) (g := dn__law_small K) F sc__law_small (ar__law_small K) (fun cdv A outer s H E hr => (dss_cons (ds_set (i := 4) sc__law_small.nd (de_fz (df_lst (da_cons de_int (da_cons de_int (da_cons de_int (da_cons (de_un un_neg does_neg de_int) (da_cons de_int (da_cons de_int (da_cons de_int da_nil)))))))))) (dss_one (ds_retV (dv_lc (n := 1) [("i", 5)] rfl sc__law_small.nd (di_range1 T.n_range (da_cons (de_var (i := 2)) da_nil)) (by kernel_rfl) (fun _ _ _ _ _ => (dg_name (vs := (([("i", 5)] : List (Str × Nat)).map (·.2))) (i := 5) sc__law_small.nd)) (fun _ _ _ _ _ => dts_nil) (fun _ _ _ _ _ => (dv_lc (n := 0) [("j", 6)] rfl sc__law_small.nd (di_range1 T.n_range (da_cons (de_var (i := 3)) da_nil)) (by kernel_rfl) (fun _ _ _ _ _ => (dg_name (vs := (([("j", 6)] : List (Str × Nat)).map (·.2))) (i := 6) sc__law_small.nd)) (fun _ _ _ _ _ => dts_nil) (fun _ _ _ _ _ => (dv_lf (de_ix ix_seq does_ix (de_var (i := 4)) (de_op op_mod does_mod (de_callTy call_intA does_int T.n_int (by decide +kernel) (da_cons (de_ix ix_seq does_ix (de_var (i := 0)) (de_op op_mod does_mod (de_op op_addA does_addA (de_op op_addA does_addA (de_op op_addA does_addA (de_var (i := 1)) (de_op op_mulA does_mulA de_int (de_var (i := 5)))) (de_op op_mulA does_mulA de_int (de_var (i := 6)))) (de_op op_mulA does_mulA (de_var (i := 5)) (de_var (i := 6)))) (de_callB call_len does_len T.n_len PySem.boot_len (da_cons (de_var (i := 0)) da_nil)))) da_nil)) de_int))))))))))) (den__law_small K)) (fun _ _ _ _ _ _ us hl => match us, hl with | [_, _, _, _], _ => rfl)
theorem c__law_turned (T : Top K mg) : FnC P w K mg base 1 (He.ga K "_law_turned") [] (φ__law_turned K) := by
  obtain ⟨fd, F⟩ := T.f__law_turned
  have ok := fn_ok (P := P) (w := w) (mg := mg) (base := base) (k := 0) (g := dn__law_turned K) F sc__law_turned (ar__law_turned K) (fun cdv A outer s H E hr => (dss_cons (ds_setLcV (n := 1) (i := 3) [("i", 4)] rfl sc__law_turned.nd (di_range1 T.n_range (da_cons (de_var (i := 2)) da_nil)) (by kernel_rfl) (fun _ _ _ _ _ => (dg_name (vs := (([("i", 4)] : List (Str × Nat)).map (·.2))) (i := 4) sc__law_turned.nd)) (fun _ _ _ _ _ => dts_nil) (fun _ _ _ _ _ => (dv_lc (n := 0) [("j", 6)] rfl sc__law_turned.nd (di_range1 T.n_range (da_cons (de_var (i := 2)) da_nil)) (by kernel_rfl) (fun _ _ _ _ _ => (dg_name (vs := (([("j", 6)] : List (Str × Nat)).map (·.2))) (i := 6) sc__law_turned.nd)) (fun _ _ _ _ _ => dts_nil) (fun _ _ _ _ _ => (dv_lf de_int))))) (dss_cons (ds_for (passes_of rfl) rfl (di_range1 T.n_range (da_cons (de_var (i := 2)) da_nil)) (dg_name (vs := [4]) (i := 4) sc__law_turned.nd) (dss_cons (ds_setA (i := 5) sc__law_turned.nd (dp_ix (dp_var (i := 3)) (de_var (i := 4)))) (dss_one (ds_for (passes_of rfl) rfl (di_range2 T.n_range (da_cons (de_op op_addA does_addA (de_var (i := 4)) de_int) (da_cons (de_var (i := 2)) da_nil))) (dg_name (vs := [6]) (i := 6) sc__law_turned.nd) (dss_cons (ds_set (i := 7) sc__law_turned.nd (de_ix ix_seq does_ix (de_fz (df_lst (da_cons de_int (da_cons de_int (da_cons (de_un un_neg does_neg de_int) (da_cons de_int (da_cons de_int (da_cons de_int (da_cons de_int da_nil))))))))) (de_op op_mod does_mod (de_callTy call_intA does_int T.n_int (by decide +kernel) (da_cons (de_ix ix_seq does_ix (de_var (i := 0)) (de_op op_mod does_mod (de_op op_addA does_addA (de_op op_addA does_addA (de_var (i := 1)) (de_op op_mulA does_mulA de_int (de_var (i := 4)))) (de_op op_mulA does_mulA de_int (de_var (i := 6)))) (de_callB call_len does_len T.n_len PySem.boot_len (da_cons (de_var (i := 0)) da_nil)))) da_nil)) de_int))) (dss_cons (ds_putT (i := 5) (de_var (i := 7)) (de_var (i := 6))) (dss_cons (ds_setA (i := 8) sc__law_turned.nd (dp_ix (dp_var (i := 3)) (de_var (i := 6)))) (dss_one (ds_putT (i := 8) (de_op op_sub does_sub de_int (de_var (i := 7))) (de_var (i := 4))))))))))) (dss_one (ds_fz 3 (ds_ret (de_var (i := 3)))))))) (den__law_turned K)
  exact ⟨F.kp, fd, _, [], [], ok, (F.bindsN (fun _ _ _ _ _ _ us hl => match us, hl with | [_, _, _], _ => rfl)), .nil, fun _ => .nil⟩
theorem c__law_made (T : Top K mg) : FnC P w K mg base 2 (He.ga K "_law_made") [] (φ__law_made K) := by
  obtain ⟨fd, F⟩ := T.f__law_made
  have ok := fn_ok (P := P) (w := w) (mg := mg) (base := base) (k := 1) (g := dn__law_made K) F sc__law_made (ar__law_made K) (fun cdv A outer s H E hr => (dss_cons (ds_setV (n := 1) (i := 5) sc__law_made.nd (dv_call (c__law_small T) (hr.mono (by decide)) T.g__law_small (takes_of rfl rfl rfl rfl) (da_cons (de_var (i := 2)) (da_cons (de_op op_mulA does_mulA de_int (de_var (i := 1))) (da_cons (de_var (i := 3)) (da_cons (de_var (i := 4)) da_nil)))))) (dss_cons (ds_if (dt_cmp op_inA does_inA (de_var (i := 0)) (de_fz (df_lst (da_cons de_int (da_cons de_int (da_cons de_int (da_cons de_int da_nil))))))) (dss_cons (ds_set (i := 6) sc__law_made.nd (de_op op_addA does_addA de_int (de_op op_mod does_mod (de_callTy call_intA does_int T.n_int (by decide +kernel) (da_cons (de_ix ix_seq does_ix (de_var (i := 2)) de_int) da_nil)) (de_var (i := 3))))) (dss_cons (ds_set (i := 7) sc__law_made.nd (de_op op_addA does_addA de_int (de_op op_mod does_mod (de_callTy call_intA does_int T.n_int (by decide +kernel) (da_cons (de_ix ix_seq does_ix (de_var (i := 2)) de_int) da_nil)) (de_var (i := 4))))) (dss_one (ds_for (passes_of rfl) rfl (di_range1 T.n_range (da_cons (de_var (i := 3)) da_nil)) (dg_name (vs := [8]) (i := 8) sc__law_made.nd) (dss_cons (ds_setA (i := 10) sc__law_made.nd (dp_ix (dp_var (i := 5)) (de_var (i := 8)))) (dss_one (ds_for (passes_of rfl) rfl (di_range1 T.n_range (da_cons (de_var (i := 4)) da_nil)) (dg_name (vs := [11]) (i := 11) sc__law_made.nd) (dss_one (ds_if (dt_w (dw_and (dt_cmp op_ge does_ge (de_var (i := 8)) (de_op op_sub does_sub (de_var (i := 3)) (de_var (i := 6)))) (dw_and1 (dt_cmp op_lt does_lt (de_var (i := 11)) (de_var (i := 7)))))) (dss_one (ds_putT (i := 10) de_int (de_var (i := 11)))) dss_nil))))))))) dss_nil) (dss_cons (ds_if (dt_w (dw_and (dt_cmp op_inA does_inA (de_var (i := 0)) (de_fz (df_lst (da_cons de_int (da_cons de_int da_nil))))) (dw_and1 (dt_cmp (op_eqA hr.units) does_eqA (de_var (i := 3)) (de_var (i := 4)))))) (dss_one (ds_set (i := 5) sc__law_made.nd (de_call (c__law_turned T) (hr.mono (by decide)) T.g__law_turned (takes_of rfl rfl rfl rfl) (da_cons (de_var (i := 2)) (da_cons (de_op op_mulA does_mulA de_int (de_var (i := 1))) (da_cons (de_var (i := 3)) da_nil)))))) dss_nil) (dss_cons (ds_if (dt_cmp (op_eqA hr.units) does_eqA (de_var (i := 0)) de_int) (dss_one (ds_fz 5 (ds_setF (i := 5) sc__law_made.nd (df_comp [("i", 8)] rfl sc__law_made.nd (di_range1 T.n_range (da_cons (de_var (i := 3)) da_nil)) (by kernel_rfl) (fun _ _ _ _ _ => (dg_name (vs := (([("i", 8)] : List (Str × Nat)).map (·.2))) (i := 8) sc__law_made.nd)) (fun _ _ _ _ _ => dts_nil) (fun _ _ _ _ _ => (de_fz (df_comp [("j", 11)] rfl sc__law_made.nd (di_range1 T.n_range (da_cons (de_var (i := 4)) da_nil)) (by kernel_rfl) (fun _ _ _ _ _ => (dg_name (vs := (([("j", 11)] : List (Str × Nat)).map (·.2))) (i := 11) sc__law_made.nd)) (fun _ _ _ _ _ => dts_nil) (fun _ _ _ _ _ => (de_op op_mulA does_mulA (de_ix ix_seq does_ix (de_ix ix_seq does_ix (de_var (i := 5)) (de_var (i := 8))) de_int) (de_ix ix_seq does_ix (de_ix ix_seq does_ix (de_var (i := 5)) de_int) (de_var (i := 11)))))))))))) dss_nil) (dss_cons (ds_if (dt_cmp (op_eqA hr.units) does_eqA (de_var (i := 0)) de_int) (dss_cons (ds_set (i := 9) sc__law_made.nd (de_op op_mod does_mod (de_callTy call_intA does_int T.n_int (by decide +kernel) (da_cons (de_op op_addA does_addA (de_op op_addA does_addA (de_op op_mulA does_mulA (de_ix ix_seq does_ix (de_var (i := 2)) (de_var (i := 1))) de_int) (de_ix ix_seq does_ix (de_var (i := 2)) (de_op op_addA does_addA (de_var (i := 1)) de_int))) (de_var (i := 1))) da_nil)) (de_op op_mulA does_mulA (de_var (i := 3)) (de_var (i := 4))))) (dss_one (ds_setF (i := 5) sc__law_made.nd (df_comp [("i", 8)] rfl sc__law_made.nd (di_range1 T.n_range (da_cons (de_var (i := 3)) da_nil)) (by kernel_rfl) (fun _ _ _ _ _ => (dg_name (vs := (([("i", 8)] : List (Str × Nat)).map (·.2))) (i := 8) sc__law_made.nd)) (fun _ _ _ _ _ => dts_nil) (fun _ _ _ _ _ => (de_fz (df_comp [("j", 11)] rfl sc__law_made.nd (di_range1 T.n_range (da_cons (de_var (i := 4)) da_nil)) (by kernel_rfl) (fun _ _ _ _ _ => (dg_name (vs := (([("j", 11)] : List (Str × Nat)).map (·.2))) (i := 11) sc__law_made.nd)) (fun _ _ _ _ _ => dts_nil) (fun _ _ _ _ _ => (de_callTy call_intA does_int T.n_int (by decide +kernel) (da_cons (de_cmp (op_eqA hr.units) does_eqA (de_op op_addA does_addA (de_op op_mulA does_mulA (de_var (i := 8)) (de_var (i := 4))) (de_var (i := 11))) (de_var (i := 9))) da_nil)))))))))) dss_nil) (dss_cons (ds_if (dt_cmp (op_eqA hr.units) does_eqA (de_var (i := 0)) de_int) (dss_one (ds_for (passes_of rfl) rfl (di_range1 T.n_range (da_cons (de_var (i := 3)) da_nil)) (dg_name (vs := [8]) (i := 8) sc__law_made.nd) (dss_cons (ds_setA (i := 10) sc__law_made.nd (dp_ix (dp_var (i := 5)) (de_var (i := 8)))) (dss_one (ds_for (passes_of rfl) rfl (di_range1 T.n_range (da_cons (de_var (i := 4)) da_nil)) (dg_name (vs := [11]) (i := 11) sc__law_made.nd) (dss_one (ds_if (dt_w (dw_or (dt_cmp (op_neA hr.units) does_neA (de_cmp op_lt does_lt (de_var (i := 8)) (de_op op_fdivM does_fdiv (de_var (i := 3)) de_int)) (de_cmp op_lt does_lt (de_var (i := 11)) (de_op op_fdivM does_fdiv (de_var (i := 4)) de_int))) (dw_or1 (dt_cmp (op_eqA hr.units) does_eqA (de_op op_mod does_mod (de_op op_addA does_addA (de_var (i := 1)) (de_callTy call_intA does_int T.n_int (by decide +kernel) (da_cons (de_cmp op_lt does_lt (de_var (i := 8)) (de_op op_fdivM does_fdiv (de_var (i := 3)) de_int)) da_nil))) de_int) de_int)))) (dss_one (ds_putT (i := 10) de_int (de_var (i := 11)))) dss_nil))))))) dss_nil) (dss_one (ds_fz 5 (ds_ret (de_var (i := 5)))))))))))) (den__law_made K)
  exact ⟨F.kp, fd, _, [], [], ok, (F.bindsN (fun _ _ _ _ _ _ us hl => match us, hl with | [_, _, _, _, _], _ => rfl)), .nil, fun _ => .nil⟩
theorem c__law_kit (T : Top K mg) : FnC P w K mg base 3 (He.ga K "_law_kit") [] (φ__law_kit K) := by
  obtain ⟨fd, F⟩ := T.f__law_kit
  have ok := fn_ok (P := P) (w := w) (mg := mg) (base := base) (k := 2) (g := dn__law_kit K) F sc__law_kit (ar__law_kit K) (fun cdv A outer s H E hr => (dss_cons (ds_set (i := 3) sc__law_kit.nd (de_call (c__law_digits T) (hr.mono (by decide)) T.g__law_digits (takes_of rfl rfl rfl rfl) (da_cons (de_call (c__law_cell T) (hr.mono (by decide)) T.g__law_cell (takes_of rfl rfl rfl rfl) (da_cons (de_var (i := 0)) (da_cons (de_var (i := 1)) da_nil))) (da_cons (de_fz (df_lst (da_cons de_int (da_cons de_int (da_cons de_int (da_cons de_int (da_cons de_int (da_cons de_int da_nil)))))))) da_nil)))) (dss_cons (ds_set (i := 4) sc__law_kit.nd (de_call (c__law_digits T) (hr.mono (by decide)) T.g__law_digits (takes_of rfl rfl rfl rfl) (da_cons (de_call (c__law_cell T) (hr.mono (by decide)) T.g__law_cell (takes_of rfl rfl rfl rfl) (da_cons (de_var (i := 0)) (da_cons (de_op op_addA does_addA (de_var (i := 1)) de_int) da_nil))) (da_cons (de_op op_mulA does_mulA (de_fz (df_lst (da_cons de_int da_nil))) de_int) da_nil)))) (dss_cons (ds_set (i := 5) sc__law_kit.nd (de_call (c__law_digits T) (hr.mono (by decide)) T.g__law_digits (takes_of rfl rfl rfl rfl) (da_cons (de_call (c__law_cell T) (hr.mono (by decide)) T.g__law_cell (takes_of rfl rfl rfl rfl) (da_cons (de_var (i := 0)) (da_cons (de_op op_addA does_addA (de_var (i := 1)) de_int) da_nil))) (da_cons (de_op op_mulA does_mulA (de_fz (df_lst (da_cons de_int (da_cons de_int (da_cons de_int da_nil))))) de_int) da_nil)))) (dss_cons (ds_set (i := 6) sc__law_kit.nd (de_ix ix_seq does_ix (de_var (i := 3)) de_int)) (dss_cons (ds_set (i := 7) sc__law_kit.nd (de_callB (call_min2 rfl) does_min2 T.n_min (by decide +kernel) (da_cons (de_var (i := 2)) (da_cons (de_ix ix_seq does_ix (de_fz (df_lst (da_cons de_int (da_cons de_int (da_cons de_int (da_cons de_int (da_cons de_int (da_cons de_int da_nil)))))))) (de_ix ix_seq does_ix (de_var (i := 3)) de_int)) da_nil)))) (dss_cons (ds_set (i := 8) sc__law_kit.nd (de_var (i := 7))) (dss_cons (ds_if (dt_w (dw_and (dt_cmp (op_eqA hr.units) does_eqA (de_ix ix_seq does_ix (de_var (i := 3)) de_int) de_int) (dw_and1 (dt_cmp op_notInA does_notInA (de_var (i := 6)) (de_fz (df_lst (da_cons de_int (da_cons de_int da_nil)))))))) (dss_one (ds_set (i := 8) sc__law_kit.nd (de_callB (call_max2 rfl) does_max2 T.n_max (by decide +kernel) (da_cons de_int (da_cons (de_op op_sub does_sub (de_var (i := 7)) de_int) da_nil))))) dss_nil) (dss_cons (ds_if (dt_w (dw_and (dt_cmp (op_eqA hr.units) does_eqA (de_ix ix_seq does_ix (de_var (i := 3)) de_int) de_int) (dw_and1 (dt_cmp op_notInA does_notInA (de_var (i := 6)) (de_fz (df_lst (da_cons de_int (da_cons de_int da_nil)))))))) (dss_one (ds_set (i := 7) sc__law_kit.nd (de_callB (call_max2 rfl) does_max2 T.n_max (by decide +kernel) (da_cons de_int (da_cons (de_op op_sub does_sub (de_var (i := 7)) de_int) da_nil))))) dss_nil) (dss_cons (ds_set (i := 9) sc__law_kit.nd (de_ix ix_seq does_ix (de_fz (df_lst (da_cons de_int (da_cons de_int (da_cons de_int (da_cons de_int da_nil)))))) (de_ix ix_seq does_ix (de_var (i := 3)) de_int))) (dss_cons (ds_if (dt_cmp op_inA does_inA (de_var (i := 6)) (de_fz (df_lst (da_cons de_int (da_cons de_int (da_cons de_int da_nil)))))) (dss_one (ds_set (i := 9) sc__law_kit.nd (de_op op_addA does_addA (de_var (i := 9)) de_int))) dss_nil) (dss_cons (ds_setLc (i := 10) [("t", 15)] rfl sc__law_kit.nd (di_range1 T.n_range (da_cons (de_var (i := 9)) da_nil)) (by kernel_rfl) (fun _ _ _ _ _ => (dg_name (vs := (([("t", 15)] : List (Str × Nat)).map (·.2))) (i := 15) sc__law_kit.nd)) (fun _ _ _ _ _ => dts_nil) (fun _ _ _ _ _ => (de_call (c__law_made T) (hr.mono (by decide)) T.g__law_made takes0 (da_cons (de_var (i := 6)) (da_cons (de_var (i := 15)) (da_cons (de_var (i := 4)) (da_cons (de_var (i := 7)) (da_cons (de_var (i := 8)) da_nil)))))))) (dss_cons (ds_if (dt_cmp op_inA does_inA (de_var (i := 6)) (de_fz (df_lst (da_cons de_int (da_cons de_int (da_cons de_int (da_cons de_int (da_cons de_int (da_cons de_int (da_cons de_int da_nil)))))))))) (dss_cons (ds_set (i := 11) sc__law_kit.nd (de_call (c__law_frame T) (hr.mono (by decide)) T.g__law_frame (takes_of rfl rfl rfl rfl) (da_cons (de_var (i := 7)) (da_cons (de_cut (de_var (i := 5)) do_none (do_some de_int)) da_nil)))) (dss_cons (ds_set (i := 12) sc__law_kit.nd (de_call (c__law_frame T) (hr.mono (by decide)) T.g__law_frame (takes_of rfl rfl rfl rfl) (da_cons (de_var (i := 8)) (da_cons (de_cut (de_var (i := 5)) (do_some de_int) (do_some de_int)) da_nil)))) (dss_one (ds_fz 10 (ds_setLcV (n := 2) (i := 10) [("table", 16)] rfl sc__law_kit.nd (di_sq (de_var (i := 10))) (by kernel_rfl) (fun _ _ _ _ _ => (dg_name (vs := (([("table", 16)] : List (Str × Nat)).map (·.2))) (i := 16) sc__law_kit.nd)) (fun _ _ _ _ _ => dts_nil) (fun _ _ _ _ _ => (dv_call (c__law_product T) (hr.mono (by decide)) T.g__law_product takes0 (da_cons (de_ofV (dv_call (c__law_product T) (hr.mono (by decide)) T.g__law_product takes0 (da_cons (de_var (i := 11)) (da_cons (de_var (i := 16)) da_nil)))) (da_cons (de_var (i := 12)) da_nil))))))))) dss_nil) (dss_cons (ds_if (dt_cmp (op_eqA hr.units) does_eqA (de_var (i := 6)) de_int) (dss_cons (ds_setA (i := 13) sc__law_kit.nd (dp_ix (dp_ix (dp_var (i := 10)) de_int) (de_op op_mod does_mod (de_callTy call_intA does_int T.n_int (by decide +kernel) (da_cons (de_ix ix_seq does_ix (de_var (i := 4)) de_int) da_nil)) (de_var (i := 7))))) (dss_cons (ds_set (i := 14) sc__law_kit.nd (de_op op_mod does_mod (de_callTy call_intA does_int T.n_int (by decide +kernel) (da_cons (de_ix ix_seq does_ix (de_var (i := 4)) de_int) da_nil)) (de_var (i := 8)))) (dss_one (ds_putT (i := 13) (de_op op_addA does_addA (de_leaf (dp_var (i := 13)) (de_var (i := 14))) de_int) (de_var (i := 14)))))) dss_nil) (dss_one (ds_fz 10 (ds_ret (de_var (i := 10))))))))))))))))))) (den__law_kit K)
  exact ⟨F.kp, fd, _, [], [], ok, (F.bindsN (fun _ _ _ _ _ _ us hl => match us, hl with | [_, _, _], _ => rfl)), .nil, fun _ => .nil⟩
theorem c__law_row_line (T : Top K mg) : FnC P w K mg base 1 (He.ga K "_law_row_line") [] (φ__law_row_line K) := by
  obtain ⟨fd, F⟩ := T.f__law_row_line
  have ok := fn_ok (P := P) (w := w) (mg := mg) (base := base) (k := 0) (g := dn__law_row_line K) F sc__law_row_line (ar__law_row_line K) (fun cdv A outer s H E hr => (dss_one (ds_ret (de_join de_str (dl_of (de_fz (df_comp [("number", 1)] rfl sc__law_row_line.nd (di_sq (de_var (i := 0))) (by kernel_rfl) (fun _ _ _ _ _ => (dg_name (vs := (([("number", 1)] : List (Str × Nat)).map (·.2))) (i := 1) sc__law_row_line.nd)) (fun _ _ _ _ _ => dts_nil) (fun _ _ _ _ _ => (de_callTy call_str_int does_str T.n_str (by decide +kernel) (da_cons (de_var (i := 1)) da_nil)))))))))) (den__law_row_line K)
  exact ⟨F.kp, fd, _, [], [], ok, (F.bindsN (fun _ _ _ _ _ _ us hl => match us, hl with | [_], _ => rfl)), .nil, fun _ => .nil⟩
theorem c__law_kit_lines (T : Top K mg) : FnC P w K mg base 2 (He.ga K "_law_kit_lines") [] (φ__law_kit_lines K) := by
  obtain ⟨fd, F⟩ := T.f__law_kit_lines
  have ok := fn_ok (P := P) (w := w) (mg := mg) (base := base) (k := 1) (g := dn__law_kit_lines K) F sc__law_kit_lines (ar__law_kit_lines K) (fun cdv A outer s H E hr => (dss_cons (ds_set (i := 1) sc__law_kit_lines.nd (de_fz (df_lst (da_cons (de_op op_addA does_addA de_str (de_call (c__law_row_line T) (hr.mono (by decide)) T.g__law_row_line (takes_of rfl rfl rfl rfl) (da_cons (de_fz (df_lst (da_cons (de_callB call_len does_len T.n_len PySem.boot_len (da_cons (de_ix ix_seq does_ix (de_var (i := 0)) de_int) da_nil)) (da_cons (de_callB call_len does_len T.n_len PySem.boot_len (da_cons (de_ix ix_seq does_ix (de_ix ix_seq does_ix (de_var (i := 0)) de_int) de_int) da_nil)) (da_cons (de_callB call_len does_len T.n_len PySem.boot_len (da_cons (de_var (i := 0)) da_nil)) da_nil))))) da_nil))) da_nil)))) (dss_cons (ds_for (passes_of rfl) rfl (di_sq (de_var (i := 0))) (dg_name (vs := [2]) (i := 2) sc__law_kit_lines.nd) (dss_one (ds_set (i := 1) sc__law_kit_lines.nd (de_op op_addA does_addA (de_op op_addA does_addA (de_var (i := 1)) (de_fz (df_lst (da_cons de_str da_nil)))) (de_fz (df_comp [("row", 3)] rfl sc__law_kit_lines.nd (di_sq (de_var (i := 2))) (by kernel_rfl) (fun _ _ _ _ _ => (dg_name (vs := (([("row", 3)] : List (Str × Nat)).map (·.2))) (i := 3) sc__law_kit_lines.nd)) (fun _ _ _ _ _ => dts_nil) (fun _ _ _ _ _ => (de_call (c__law_row_line T) (hr.mono (by decide)) T.g__law_row_line takes0 (da_cons (de_var (i := 3)) da_nil))))))))) (dss_one (ds_ret (de_var (i := 1))))))) (den__law_kit_lines K)
  exact ⟨F.kp, fd, _, [], [], ok, (F.bindsN (fun _ _ _ _ _ _ us hl => match us, hl with | [_], _ => rfl)), .nil, fun _ => .nil⟩
theorem c__law_room_lines (T : Top K mg) : FnC P w K mg base 2 (He.ga K "_law_room_lines") [] (φ__law_room_lines K) := by
  obtain ⟨fd, F⟩ := T.f__law_room_lines
  have ok := fn_ok (P := P) (w := w) (mg := mg) (base := base) (k := 1) (g := dn__law_room_lines K) F sc__law_room_lines (ar__law_room_lines K) (fun cdv A outer s H E hr => (dss_one (ds_ret (de_op op_addA does_addA (de_fz (df_lst (da_cons (de_op op_addA does_addA de_str (de_call (c__law_row_line T) (hr.mono (by decide)) T.g__law_row_line (takes_of rfl rfl rfl rfl) (da_cons (de_fz (df_lst (da_cons (de_var (i := 0)) (da_cons (de_callB call_len does_len T.n_len PySem.boot_len (da_cons (de_var (i := 1)) da_nil)) da_nil)))) da_nil))) da_nil))) (de_fz (df_comp [("row", 2)] rfl sc__law_room_lines.nd (di_sq (de_var (i := 1))) (by kernel_rfl) (fun _ _ _ _ _ => (dg_name (vs := (([("row", 2)] : List (Str × Nat)).map (·.2))) (i := 2) sc__law_room_lines.nd)) (fun _ _ _ _ _ => dts_nil) (fun _ _ _ _ _ => (de_call (c__law_row_line T) (hr.mono (by decide)) T.g__law_row_line takes0 (da_cons (de_var (i := 2)) da_nil))))))))) (den__law_room_lines K)
  exact ⟨F.kp, fd, _, [], [], ok, (F.bindsN (fun _ _ _ _ _ _ us hl => match us, hl with | [_, _], _ => rfl)), .nil, fun _ => .nil⟩
theorem c__law_large (T : Top K mg) : FnC P w K mg base 2 (He.ga K "_law_large") [] (φ__law_large K) := by
  obtain ⟨fd, F⟩ := T.f__law_large
  have ok := fn_ok (P := P) (w := w) (mg := mg) (base := base) (k := 1) (g := dn__law_large K) F sc__law_large (ar__law_large K) (fun cdv A outer s H E hr => (dss_cons (ds_set (i := 2) sc__law_large.nd (de_call (c__law_digits T) (hr.mono (by decide)) T.g__law_digits (takes_of rfl rfl rfl rfl) (da_cons (de_var (i := 0)) (da_cons (de_op op_addA does_addA (de_fz (df_lst (da_cons de_int da_nil))) (de_op op_mulA does_mulA (de_fz (df_lst (da_cons (de_op op_pow does_pow de_int de_int) da_nil))) de_int)) da_nil)))) (dss_cons (ds_set (i := 3) sc__law_large.nd de_int) (dss_cons (ds_for (passes_of rfl) rfl (di_range1 T.n_range (da_cons de_int da_nil)) (dg_name (vs := [4]) (i := 4) sc__law_large.nd) (dss_one (ds_set (i := 3) sc__law_large.nd (de_op op_addA does_addA (de_op op_mulA does_mulA (de_var (i := 3)) (de_op op_pow does_pow de_int de_int)) (de_ix ix_seq does_ix (de_var (i := 2)) (de_op op_addA does_addA (de_var (i := 4)) de_int)))))) (dss_cons (ds_set (i := 5) sc__law_large.nd de_int) (dss_cons (ds_for (passes_of rfl) rfl (di_range1 T.n_range (da_cons (de_var (i := 1)) da_nil)) (dg_name (vs := [4]) (i := 4) sc__law_large.nd) (dss_one (ds_set (i := 5) sc__law_large.nd (de_op op_mulA does_mulA (de_var (i := 5)) de_int)))) (dss_cons (ds_set (i := 3) sc__law_large.nd (de_op op_mod does_mod (de_callTy call_intA does_int T.n_int (by decide +kernel) (da_cons (de_var (i := 3)) da_nil)) (de_var (i := 5)))) (dss_one (ds_ret (de_op op_sub does_sub (de_var (i := 3)) (de_op op_mulA does_mulA (de_op op_mulA does_mulA de_int (de_ix ix_seq does_ix (de_var (i := 2)) de_int)) (de_var (i := 3))))))))))))) (den__law_large K)
  exact ⟨F.kp, fd, _, [], [], ok, (F.bindsN (fun _ _ _ _ _ _ us hl => match us, hl with | [_, _], _ => rfl)), .nil, fun _ => .nil⟩
theorem c__law_tables (T : Top K mg) : FnC P w K mg base 4 (He.ga K "_law_tables") [] (φ__law_tables K) := by
  obtain ⟨fd, F⟩ := T.f__law_tables
  have ok := fn_ok (P := P) (w := w) (mg := mg) (base := base) (k := 3) (g := dn__law_tables K) F sc__law_tables (ar__law_tables K) (fun cdv A outer s H E hr => (dss_cons (ds_set (i := 1) sc__law_tables.nd (de_call (c__law_digits T) (hr.mono (by decide)) T.g__law_digits (takes_of rfl rfl rfl rfl) (da_cons (de_call (c__law_cell T) (hr.mono (by decide)) T.g__law_cell (takes_of rfl rfl rfl rfl) (da_cons (de_var (i := 0)) (da_cons de_int da_nil))) (da_cons (de_fz (df_lst (da_cons de_int (da_cons de_int (da_cons de_int (da_cons de_int (da_cons de_int da_nil))))))) da_nil)))) (dss_cons (ds_if (dt_cmp op_lt does_lt (de_ix ix_seq does_ix (de_var (i := 1)) de_int) de_int) (dss_one (ds_ret (de_call (c__law_kit T) (hr.mono (by decide)) T.g__law_kit (takes_of rfl rfl rfl rfl) (da_cons (de_var (i := 0)) (da_cons de_int (da_cons de_int da_nil)))))) dss_nil) (dss_cons (ds_set (i := 2) sc__law_tables.nd (de_op op_addA does_addA de_int (de_callTy call_intA does_int T.n_int (by decide +kernel) (da_cons (de_ix ix_seq does_ix (de_var (i := 1)) de_int) da_nil)))) (dss_cons (ds_set (i := 3) sc__law_tables.nd (de_op op_addA does_addA de_int (de_callTy call_intA does_int T.n_int (by decide +kernel) (da_cons (de_ix ix_seq does_ix (de_var (i := 1)) de_int) da_nil)))) (dss_cons (ds_set (i := 4) sc__law_tables.nd (de_op op_addA does_addA de_int (de_callTy call_intA does_int T.n_int (by decide +kernel) (da_cons (de_ix ix_seq does_ix (de_var (i := 1)) de_int) da_nil)))) (dss_cons (ds_if (dt_cmp (op_eqA hr.units) does_eqA (de_ix ix_seq does_ix (de_var (i := 1)) de_int) de_int) (dss_one (ds_set (i := 4) sc__law_tables.nd (de_op op_addA does_addA de_int (de_op op_mod does_mod (de_callTy call_intA does_int T.n_int (by decide +kernel) (da_cons (de_ix ix_seq does_ix (de_var (i := 1)) de_int) da_nil)) (de_op op_addA does_addA de_int (de_op op_fdivM does_fdiv de_int (de_op op_mulA does_mulA (de_var (i := 2)) (de_var (i := 3))))))))) dss_nil) (dss_cons (ds_set (i := 5) sc__law_tables.nd (de_call (c__law_digits T) (hr.mono (by decide)) T.g__law_digits (takes_of rfl rfl rfl rfl) (da_cons (de_call (c__law_cell T) (hr.mono (by decide)) T.g__law_cell (takes_of rfl rfl rfl rfl) (da_cons (de_var (i := 0)) (da_cons de_int da_nil))) (da_cons (de_op op_mulA does_mulA (de_fz (df_lst (da_cons de_int da_nil))) de_int) da_nil)))) (dss_cons (ds_setV (n := 2) (i := 6) sc__law_tables.nd (dv_nil 2)) (dss_cons (ds_for (passes_of rfl) rfl (di_range1 T.n_range (da_cons (de_callB (call_min2 rfl) does_min2 T.n_min (by decide +kernel) (da_cons de_int (da_cons (de_var (i := 4)) da_nil))) da_nil)) (dg_name (vs := [7]) (i := 7) sc__law_tables.nd) (dss_one (ds_appV (n := 2) (i := 6) (dv_lc (n := 1) [("i", 11)] rfl sc__law_tables.nd (di_range1 T.n_range (da_cons (de_var (i := 2)) da_nil)) (by kernel_rfl) (fun _ _ _ _ _ => (dg_name (vs := (([("i", 11)] : List (Str × Nat)).map (·.2))) (i := 11) sc__law_tables.nd)) (fun _ _ _ _ _ => dts_nil) (fun _ _ _ _ _ => (dv_lc (n := 0) [("j", 10)] rfl sc__law_tables.nd (di_range1 T.n_range (da_cons (de_var (i := 3)) da_nil)) (by kernel_rfl) (fun _ _ _ _ _ => (dg_name (vs := (([("j", 10)] : List (Str × Nat)).map (·.2))) (i := 10) sc__law_tables.nd)) (fun _ _ _ _ _ => dts_nil) (fun _ _ _ _ _ => (dv_lf (de_op op_sub does_sub (de_callTy call_intA does_int T.n_int (by decide +kernel) (da_cons (de_ix ix_seq does_ix (de_var (i := 5)) (de_op op_mod does_mod (de_op op_addA does_addA (de_op op_addA does_addA (de_op op_mulA does_mulA de_int (de_var (i := 7))) (de_op op_mulA does_mulA de_int (de_var (i := 11)))) (de_var (i := 10))) de_int)) da_nil)) de_int))))))))) (dss_cons (ds_set (i := 8) sc__law_tables.nd (de_call (c__law_large T) (hr.mono (by decide)) T.g__law_large (takes_of rfl rfl rfl rfl) (da_cons (de_call (c__law_cell T) (hr.mono (by decide)) T.g__law_cell (takes_of rfl rfl rfl rfl) (da_cons (de_var (i := 0)) (da_cons de_int da_nil))) (da_cons (de_callB (call_max2 rfl) does_max2 T.n_max (by decide +kernel) (da_cons de_int (da_cons (de_callTy call_intA does_int T.n_int (by decide +kernel) (da_cons (de_ix ix_seq does_ix (de_var (i := 1)) de_int) da_nil)) da_nil))) da_nil)))) (dss_cons (ds_setA (i := 9) sc__law_tables.nd (dp_ix (dp_ix (dp_var (i := 6)) (de_op op_mod does_mod (de_callTy call_intA does_int T.n_int (by decide +kernel) (da_cons (de_ix ix_seq does_ix (de_var (i := 1)) de_int) da_nil)) (de_lenN T.n_len PySem.boot_len (dp_var (i := 6))))) (de_op op_sub does_sub (de_var (i := 2)) de_int))) (dss_cons (ds_for (passes_of rfl) rfl (di_range1 T.n_range (da_cons (de_var (i := 3)) da_nil)) (dg_name (vs := [10]) (i := 10) sc__law_tables.nd) (dss_one (ds_putT (i := 9) (de_ix ix_seq does_ix (de_fz (df_lst (da_cons (de_var (i := 8)) (da_cons (de_op op_sub does_sub de_int (de_op op_fdivM does_fdiv (de_var (i := 8)) de_int)) (da_cons (de_op op_addA does_addA (de_op op_fdivM does_fdiv (de_var (i := 8)) de_int) (de_var (i := 10))) da_nil))))) (de_op op_mod does_mod (de_var (i := 10)) de_int)) (de_op op_sub does_sub (de_op op_sub does_sub (de_var (i := 3)) de_int) (de_var (i := 10)))))) (dss_one (ds_fz 6 (ds_ret (de_var (i := 6)))))))))))))))))) (den__law_tables K)
  exact ⟨F.kp, fd, _, [], [], ok, (F.bindsN (fun _ _ _ _ _ _ us hl => match us, hl with | [_], _ => rfl)), .nil, fun _ => .nil⟩
theorem c__law_room (T : Top K mg) : FnC P w K mg base 3 (He.ga K "_law_room") [] (φ__law_room K) := by
  obtain ⟨fd, F⟩ := T.f__law_room
  have ok := fn_ok (P := P) (w := w) (mg := mg) (base := base) (k := 2) (g := dn__law_room K) F sc__law_room (ar__law_room K) (fun cdv A outer s H E hr => (dss_cons (ds_set (i := 1) sc__law_room.nd (de_call (c__law_digits T) (hr.mono (by decide)) T.g__law_digits (takes_of rfl rfl rfl rfl) (da_cons (de_call (c__law_cell T) (hr.mono (by decide)) T.g__law_cell (takes_of rfl rfl rfl rfl) (da_cons (de_var (i := 0)) (da_cons de_int da_nil))) (da_cons (de_fz (df_lst (da_cons de_int (da_cons de_int (da_cons de_int (da_cons de_int (da_cons de_int da_nil))))))) da_nil)))) (dss_cons (ds_set (i := 2) sc__law_room.nd (de_call (c__law_digits T) (hr.mono (by decide)) T.g__law_digits (takes_of rfl rfl rfl rfl) (da_cons (de_call (c__law_cell T) (hr.mono (by decide)) T.g__law_cell (takes_of rfl rfl rfl rfl) (da_cons (de_var (i := 0)) (da_cons de_int da_nil))) (da_cons (de_op op_mulA does_mulA (de_fz (df_lst (da_cons de_int da_nil))) de_int) da_nil)))) (dss_cons (ds_set (i := 3) sc__law_room.nd (de_op op_addA does_addA de_int (de_callTy call_intA does_int T.n_int (by decide +kernel) (da_cons (de_ix ix_seq does_ix (de_var (i := 1)) de_int) da_nil)))) (dss_cons (ds_if (dt_cmp op_lt does_lt (de_ix ix_seq does_ix (de_var (i := 1)) de_int) de_int) (dss_one (ds_set (i := 3) sc__law_room.nd (de_op op_addA does_addA de_int (de_callTy call_intA does_int T.n_int (by decide +kernel) (da_cons (de_ix ix_seq does_ix (de_var (i := 1)) de_int) da_nil))))) dss_nil) (dss_cons (ds_setV (n := 1) (i := 4) sc__law_room.nd (dv_nil 1)) (dss_cons (ds_for (passes_of rfl) rfl (di_range1 T.n_range (da_cons (de_callTy call_intA does_int T.n_int (by decide +kernel) (da_cons (de_ix ix_seq does_ix (de_var (i := 1)) de_int) da_nil)) da_nil)) (dg_name (vs := [5]) (i := 5) sc__law_room.nd) (dss_one (ds_appV (n := 1) (i := 4) (dv_lc (n := 0) [("j", 9)] rfl sc__law_room.nd (di_range1 T.n_range (da_cons (de_var (i := 3)) da_nil)) (by kernel_rfl) (fun _ _ _ _ _ => (dg_name (vs := (([("j", 9)] : List (Str × Nat)).map (·.2))) (i := 9) sc__law_room.nd)) (fun _ _ _ _ _ => dts_nil) (fun _ _ _ _ _ => (dv_lf (de_op op_sub does_sub (de_callTy call_intA does_int T.n_int (by decide +kernel) (da_cons (de_ix ix_seq does_ix (de_var (i := 2)) (de_op op_mod does_mod (de_op op_addA does_addA (de_op op_addA does_addA (de_op op_mulA does_mulA de_int (de_var (i := 5))) (de_op op_mulA does_mulA de_int (de_var (i := 9)))) (de_op op_fdivM does_fdiv (de_var (i := 9)) de_int)) de_int)) da_nil)) de_int))))))) (dss_cons (ds_if (dt_w (dw_and (dt_cmp (op_eqA hr.units) does_eqA (de_ix ix_seq does_ix (de_var (i := 1)) de_int) de_int) (dw_and1 (dt_cmp op_gt does_gt (de_lenN T.n_len PySem.boot_len (dp_var (i := 4))) de_int)))) (dss_cons (ds_setA (i := 6) sc__law_room.nd (dp_ix (dp_var (i := 4)) de_int)) (dss_one (ds_putT (i := 6) (de_call (c__law_large T) (hr.mono (by decide)) T.g__law_large (takes_of rfl rfl rfl rfl) (da_cons (de_call (c__law_cell T) (hr.mono (by decide)) T.g__law_cell (takes_of rfl rfl rfl rfl) (da_cons (de_var (i := 0)) (da_cons de_int da_nil))) (da_cons de_int da_nil))) (de_op op_mod does_mod (de_callTy call_intA does_int T.n_int (by decide +kernel) (da_cons (de_ix ix_seq does_ix (de_var (i := 1)) de_int) da_nil)) (de_var (i := 3)))))) dss_nil) (dss_cons (ds_if (dt_cmp (op_eqA hr.units) does_eqA (de_ix ix_seq does_ix (de_var (i := 1)) de_int) de_int) (dss_cons (ds_set (i := 3) sc__law_room.nd (de_op op_addA does_addA de_int (de_op op_mod does_mod (de_callTy call_intA does_int T.n_int (by decide +kernel) (da_cons (de_ix ix_seq does_ix (de_var (i := 1)) de_int) da_nil)) (de_op op_addA does_addA de_int (de_op op_mulA does_mulA de_int (de_callTy call_intA does_int T.n_int (by decide +kernel) (da_cons (de_cmp (op_eqA hr.units) does_eqA (de_ix ix_seq does_ix (de_var (i := 1)) de_int) de_int) da_nil))))))) (dss_cons (ds_set (i := 7) sc__law_room.nd (de_op op_sub does_sub (de_var (i := 3)) (de_callTy call_intA does_int T.n_int (by decide +kernel) (da_cons (de_cmp op_gt does_gt (de_ix ix_seq does_ix (de_var (i := 1)) de_int) de_int) da_nil)))) (dss_one (ds_setLc (i := 4) [("i", 8)] rfl sc__law_room.nd (di_range1 T.n_range (da_cons (de_var (i := 7)) da_nil)) (by kernel_rfl) (fun _ _ _ _ _ => (dg_name (vs := (([("i", 8)] : List (Str × Nat)).map (·.2))) (i := 8) sc__law_room.nd)) (fun _ _ _ _ _ => dts_nil) (fun _ _ _ _ _ => (de_fz (df_comp [("j", 9)] rfl sc__law_room.nd (di_range1 T.n_range (da_cons (de_var (i := 3)) da_nil)) (by kernel_rfl) (fun _ _ _ _ _ => (dg_name (vs := (([("j", 9)] : List (Str × Nat)).map (·.2))) (i := 9) sc__law_room.nd)) (fun _ _ _ _ _ => dts_nil) (fun _ _ _ _ _ => (de_op op_sub does_sub (de_callTy call_intA does_int T.n_int (by decide +kernel) (da_cons (de_cmp (op_eqA hr.units) does_eqA (de_var (i := 8)) (de_var (i := 9))) da_nil)) (de_op op_mulA does_mulA (de_op op_mulA does_mulA (de_callTy call_intA does_int T.n_int (by decide +kernel) (da_cons (de_ix ix_seq does_ix (de_var (i := 1)) de_int) da_nil)) (de_callTy call_intA does_int T.n_int (by decide +kernel) (da_cons (de_cmp (op_eqA hr.units) does_eqA (de_var (i := 9)) (de_op op_sub does_sub (de_var (i := 3)) de_int)) da_nil))) (de_op op_sub does_sub (de_callTy call_intA does_int T.n_int (by decide +kernel) (da_cons (de_ix ix_seq does_ix (de_var (i := 2)) (de_op op_mod does_mod (de_var (i := 8)) de_int)) da_nil)) de_int))))))))))) dss_nil) (dss_one (ds_fz 4 (ds_ret (de_fz (df_lst (da_cons (de_var (i := 3)) (da_cons (de_var (i := 4)) da_nil)))))))))))))))) (den__law_room K)
  exact ⟨F.kp, fd, _, [], [], ok, (F.bindsN (fun _ _ _ _ _ _ us hl => match us, hl with | [_], _ => rfl)), .nil, fun _ => .nil⟩
theorem c__law_read (T : Top K mg) : FnC P w K mg base 12 (He.ga K "_law_read") [] (φ__law_read K) := by
  obtain ⟨fd, F⟩ := T.f__law_read
  have ok := fn_ok (P := P) (w := w) (mg := mg) (base := base) (k := 11) (g := dn__law_read K) F sc__law_read (ar__law_read K) (fun cdv A outer s H E hr => (dss_one (ds_tryT (dss_cons (ds_if (dt_cmp (op_eqA hr.units) does_eqA (de_var (i := 0)) de_int) (dss_one (ds_ret (de_call (c_read_kit T) (hr.mono (by decide)) T.g_read_kit takes0 (da_cons (de_var (i := 1)) da_nil)))) dss_nil) (dss_one (ds_ret (de_call (c_read_room T) (hr.mono (by decide)) T.g_read_room takes0 (da_cons (de_var (i := 1)) da_nil)))))))) (den__law_read K)
  exact ⟨F.kp, fd, _, [], [], ok, (F.bindsN (fun _ _ _ _ _ _ us hl => match us, hl with | [_, _], _ => rfl)), .nil, fun _ => .nil⟩
theorem bd_law (T : Top K mg) (room : Room 13 callerA) (fa : Addr) (cdv : Value) (s : Shared) (H : Hp) (E : XK) : DSs (cxOf (CX P w) P w K mg base ["script", "tables", "kit", "text", "again", "drawn", "size", "due", "room", "back", "table"] "law" (defScope s_law) fa cdv callerA [] s H E) E (defBody s_law) (dn_law K) := by
  have hr : Room 12 (callerA.deeper (envOfC "law" (defScope s_law) s.heap.objs.size fa cdv)) := Room.deeper room _
  have hgd : (callerA.deeper (envOfC "law" (defScope s_law) s.heap.objs.size fa cdv)).guards = some [] := rfl
  have hun : (callerA.deeper (envOfC "law" (defScope s_law) s.heap.objs.size fa cdv)).units + 66 < cLine := by have := hr.un; omega
  exact (dss_cons (ds_set (i := 1) sc_law.nd (de_call (c__law_tables T) (hr.mono (by decide)) T.g__law_tables (takes_of rfl rfl rfl rfl) (da_cons (de_var (i := 0)) da_nil))) (dss_cons (ds_set (i := 2) sc_law.nd (de_make (i_Kit_1 T) (hr.mono (by decide)) T.g_Kit (takes_of rfl rfl rfl rfl) (da_cons (de_var (i := 1)) da_nil))) (dss_cons (ds_set (i := 3) sc_law.nd (de_call (c_kit_text T) (hr.mono (by decide)) T.g_kit_text (takes_of rfl rfl rfl rfl) (da_cons (de_var (i := 2)) da_nil))) (dss_cons (ds_if (dt_w (dw_or (dt_not (dt_val (de_callB call_isi (does_isi (Cs := Cs K) T.insOk) T.n_isinstance (by decide +kernel) (da_cons (de_var (i := 3)) (da_cons (de_blt T.n_str (by decide +kernel)) da_nil))))) (dw_or1 (dt_cmp (op_neA hr.units) does_neA (de_var (i := 3)) (de_join de_str (dl_of (de_call (c__law_kit_lines T) (hr.mono (by decide)) T.g__law_kit_lines (takes_of rfl rfl rfl rfl) (da_cons (de_var (i := 1)) da_nil)))))))) (dss_one (ds_ret de_bl)) dss_nil) (dss_cons (ds_set (i := 4) sc_law.nd (de_call (c__law_read T) (hr.mono (by decide)) T.g__law_read (takes_of rfl rfl rfl rfl) (da_cons de_int (da_cons (de_var (i := 3)) da_nil)))) (dss_cons (ds_if (dt_w (dw_or (dt_not (dt_val (de_callB call_isi (does_isi (Cs := Cs K) T.insOk) T.n_isinstance (by decide +kernel) (da_cons (de_var (i := 4)) (da_cons (de_globC T.g_Kit) da_nil))))) (dw_or (dt_cmp (op_neI (q_Kit T) T.ne_Kit (hr.mono (by decide)) (takes_of rfl rfl rfl rfl)) does_neI (de_var (i := 4)) (de_var (i := 2))) (dw_or1 (dt_not (dt_cmp (op_eqI (q_Kit T) (hr.mono (by decide)) (takes_of rfl rfl rfl rfl)) does_eqI (de_var (i := 4)) (de_var (i := 2)))))))) (dss_one (ds_ret de_bl)) dss_nil) (dss_cons (ds_if (dt_w (dw_or (dt_cmp (op_neA hr.units) does_neA (de_callB (call_show hgd hun) does_show T.n_repr (by decide +kernel) (da_cons (de_fld (de_var (i := 4)) T.k_Kit T.na_Kit_tables) da_nil)) (de_callB (call_show hgd hun) does_show T.n_repr (by decide +kernel) (da_cons (de_tupleL T.n_tuple (by decide +kernel) (dl_of (de_fz (df_comp [("table", 10)] rfl sc_law.nd (di_sq (de_var (i := 1))) (by kernel_rfl) (fun _ _ _ _ _ => (dg_name (vs := (([("table", 10)] : List (Str × Nat)).map (·.2))) (i := 10) sc_law.nd)) (fun _ _ _ _ _ => dts_nil) (fun _ _ _ _ _ => (de_call (c__law_tuple T) (hr.mono (by decide)) T.g__law_tuple takes0 (da_cons (de_var (i := 10)) da_nil))))))) da_nil))) (dw_or1 (dt_cmp (op_neA hr.units) does_neA (de_fld (de_var (i := 4)) T.k_Kit T.na_Kit_many) (de_callB call_len does_len T.n_len PySem.boot_len (da_cons (de_var (i := 1)) da_nil)))))) (dss_one (ds_ret de_bl)) dss_nil) (dss_cons (ds_if (dt_w (dw_or (dt_cmp (op_neA hr.units) does_neA (de_fld (de_var (i := 4)) T.k_Kit T.na_Kit_high) (de_callB call_len does_len T.n_len PySem.boot_len (da_cons (de_ix ix_seq does_ix (de_var (i := 1)) de_int) da_nil))) (dw_or (dt_cmp (op_neA hr.units) does_neA (de_fld (de_var (i := 4)) T.k_Kit T.na_Kit_wide) (de_callB call_len does_len T.n_len PySem.boot_len (da_cons (de_ix ix_seq does_ix (de_ix ix_seq does_ix (de_var (i := 1)) de_int) de_int) da_nil))) (dw_or1 (dt_cmp (op_neA hr.units) does_neA (de_call (c_kit_text T) (hr.mono (by decide)) T.g_kit_text (takes_of rfl rfl rfl rfl) (da_cons (de_var (i := 4)) da_nil)) (de_var (i := 3))))))) (dss_one (ds_ret de_bl)) dss_nil) (dss_cons (ds_set (i := 5) sc_law.nd (de_call (c__law_room T) (hr.mono (by decide)) T.g__law_room (takes_of rfl rfl rfl rfl) (da_cons (de_var (i := 0)) da_nil))) (dss_cons (ds_set (i := 6) sc_law.nd (de_ix ix_seq does_ix (de_var (i := 5)) de_int)) (dss_cons (ds_set (i := 7) sc_law.nd (de_call (c__law_reduced T) (hr.mono (by decide)) T.g__law_reduced (takes_of rfl rfl rfl rfl) (da_cons (de_ix ix_seq does_ix (de_var (i := 5)) de_int) (da_cons (de_var (i := 6)) da_nil)))) (dss_cons (ds_set (i := 8) sc_law.nd (de_make (i_Room_2 T) (hr.mono (by decide)) T.g_Room (takes_of rfl rfl rfl rfl) (da_cons (de_var (i := 6)) (da_cons (de_ix ix_seq does_ix (de_var (i := 5)) de_int) da_nil)))) (dss_cons (ds_set (i := 3) sc_law.nd (de_call (c_room_text T) (hr.mono (by decide)) T.g_room_text (takes_of rfl rfl rfl rfl) (da_cons (de_var (i := 8)) da_nil))) (dss_cons (ds_if (dt_w (dw_or (dt_not (dt_val (de_callB call_isi (does_isi (Cs := Cs K) T.insOk) T.n_isinstance (by decide +kernel) (da_cons (de_var (i := 3)) (da_cons (de_blt T.n_str (by decide +kernel)) da_nil))))) (dw_or1 (dt_cmp (op_neA hr.units) does_neA (de_var (i := 3)) (de_join de_str (dl_of (de_call (c__law_room_lines T) (hr.mono (by decide)) T.g__law_room_lines (takes_of rfl rfl rfl rfl) (da_cons (de_var (i := 6)) (da_cons (de_var (i := 7)) da_nil))))))))) (dss_one (ds_ret de_bl)) dss_nil) (dss_cons (ds_set (i := 9) sc_law.nd (de_call (c__law_read T) (hr.mono (by decide)) T.g__law_read (takes_of rfl rfl rfl rfl) (da_cons de_int (da_cons (de_var (i := 3)) da_nil)))) (dss_cons (ds_if (dt_w (dw_or (dt_not (dt_val (de_callB call_isi (does_isi (Cs := Cs K) T.insOk) T.n_isinstance (by decide +kernel) (da_cons (de_var (i := 9)) (da_cons (de_globC T.g_Room) da_nil))))) (dw_or (dt_cmp (op_neI (q_Room T) T.ne_Room (hr.mono (by decide)) (takes_of rfl rfl rfl rfl)) does_neI (de_var (i := 9)) (de_var (i := 8))) (dw_or (dt_cmp (op_neA hr.units) does_neA (de_fld (de_var (i := 9)) T.k_Room T.na_Room_size) (de_var (i := 6))) (dw_or1 (dt_cmp (op_neA hr.units) does_neA (de_fld (de_var (i := 9)) T.k_Room T.na_Room_width) (de_callB call_len does_len T.n_len PySem.boot_len (da_cons (de_var (i := 7)) da_nil)))))))) (dss_one (ds_ret de_bl)) dss_nil) (dss_one (ds_ret (de_and (de_cmp (op_eqA hr.units) does_eqA (de_callB (call_show hgd hun) does_show T.n_repr (by decide +kernel) (da_cons (de_fld (de_var (i := 9)) T.k_Room T.na_Room_rows) da_nil)) (de_callB (call_show hgd hun) does_show T.n_repr (by decide +kernel) (da_cons (de_call (c__law_tuple T) (hr.mono (by decide)) T.g__law_tuple (takes_of rfl rfl rfl rfl) (da_cons (de_var (i := 7)) da_nil)) da_nil))) (de_one (de_cmp (op_eqA hr.units) does_eqA (de_call (c_room_text T) (hr.mono (by decide)) T.g_room_text (takes_of rfl rfl rfl rfl) (da_cons (de_var (i := 9)) da_nil)) (de_var (i := 3)))))))))))))))))))))))
end
end Pf

namespace Pf
open PySem PySem.Spec PyProof.Rows L2 Dn
theorem topFacts {K : PySem.W.Frag} {h : Heap} {mg : Str → Option Value} (X : K.In h) (G : h.Ns mainGlobals mg) (c : He.SaysD faT fnT K) (x : AllX K xaT) : Top K mg where
  g_is_whole := He.glo_ok X G (c.fact 0 rfl)
  f_is_whole := c.def_ 0 (d := dd_is_whole) rfl
  g_is_row := He.glo_ok X G (c.fact 1 rfl)
  f_is_row := c.def_ 1 (d := dd_is_row) rfl
  g_common_divisor := He.glo_ok X G (c.fact 2 rfl)
  f_common_divisor := c.def_ 2 (d := dd_common_divisor) rfl
  g_primitive := He.glo_ok X G (c.fact 3 rfl)
  f_primitive := c.def_ 3 (d := dd_primitive) rfl
  g_frozen := He.glo_ok X G (c.fact 4 rfl)
  f_frozen := c.def_ 4 (d := dd_frozen) rfl
  g_is_table := He.glo_ok X G (c.fact 5 rfl)
  f_is_table := c.def_ 5 (d := dd_is_table) rfl
  g_is_kit_tables := He.glo_ok X G (c.fact 6 rfl)
  f_is_kit_tables := c.def_ 6 (d := dd_is_kit_tables) rfl
  g_is_too_great := He.glo_ok X G (c.fact 7 rfl)
  f_is_too_great := c.def_ 7 (d := dd_is_too_great) rfl
  g_Kit := He.glo_ok X G (c.fact 8 rfl)
  k_Kit := He.cls_ok (c.fact 9 rfl)
  f_Kit___init__ := c.def_ 8 (d := dd_Kit___init__) rfl
  mk_Kit := He.mkr_ok (c.fact 10 rfl)
  f_Kit___eq__ := c.def_ 9 (d := dd_Kit___eq__) rfl
  me_Kit___eq__ := He.meth_ok (c.fact 11 rfl)
  g_first_nonzero := He.glo_ok X G (c.fact 12 rfl)
  f_first_nonzero := c.def_ 10 (d := dd_first_nonzero) rfl
  g_echelon := He.glo_ok X G (c.fact 13 rfl)
  f_echelon := c.def_ 11 (d := dd_echelon) rfl
  g_is_vector := He.glo_ok X G (c.fact 14 rfl)
  f_is_vector := c.def_ 12 (d := dd_is_vector) rfl
  g_Room := He.glo_ok X G (c.fact 15 rfl)
  k_Room := He.cls_ok (c.fact 16 rfl)
  f_Room___init__ := (by obtain ⟨fd, F⟩ := c.def_ 13 (d := dd_Room___init__) rfl; exact ⟨fd, _, F⟩)
  mk_Room := He.mkr_ok (c.fact 17 rfl)
  f_Room___eq__ := c.def_ 14 (d := dd_Room___eq__) rfl
  me_Room___eq__ := He.meth_ok (c.fact 18 rfl)
  g_number_of := He.glo_ok X G (c.fact 19 rfl)
  f_number_of := c.def_ 15 (d := dd_number_of) rfl
  g_line_at := He.glo_ok X G (c.fact 20 rfl)
  f_line_at := c.def_ 16 (d := dd_line_at) rfl
  g_taken_row := He.glo_ok X G (c.fact 21 rfl)
  f_taken_row := c.def_ 17 (d := dd_taken_row) rfl
  g_taken_head := He.glo_ok X G (c.fact 22 rfl)
  f_taken_head := c.def_ 18 (d := dd_taken_head) rfl
  g_taken_table := He.glo_ok X G (c.fact 23 rfl)
  f_taken_table := c.def_ 19 (d := dd_taken_table) rfl
  g_check_end := He.glo_ok X G (c.fact 24 rfl)
  f_check_end := c.def_ 20 (d := dd_check_end) rfl
  g_row_line := He.glo_ok X G (c.fact 25 rfl)
  f_row_line := c.def_ 21 (d := dd_row_line) rfl
  g_table_lines := He.glo_ok X G (c.fact 26 rfl)
  f_table_lines := c.def_ 22 (d := dd_table_lines) rfl
  g_kit_lines := He.glo_ok X G (c.fact 27 rfl)
  f_kit_lines := c.def_ 23 (d := dd_kit_lines) rfl
  g_room_lines := He.glo_ok X G (c.fact 28 rfl)
  f_room_lines := c.def_ 24 (d := dd_room_lines) rfl
  g_taken_kit := He.glo_ok X G (c.fact 29 rfl)
  f_taken_kit := c.def_ 25 (d := dd_taken_kit) rfl
  g_taken_room := He.glo_ok X G (c.fact 30 rfl)
  f_taken_room := c.def_ 26 (d := dd_taken_room) rfl
  g_kit_text := He.glo_ok X G (c.fact 31 rfl)
  f_kit_text := c.def_ 27 (d := dd_kit_text) rfl
  g_read_kit := He.glo_ok X G (c.fact 32 rfl)
  f_read_kit := c.def_ 28 (d := dd_read_kit) rfl
  g_room_text := He.glo_ok X G (c.fact 33 rfl)
  f_room_text := c.def_ 29 (d := dd_room_text) rfl
  g_read_room := He.glo_ok X G (c.fact 34 rfl)
  f_read_room := c.def_ 30 (d := dd_read_room) rfl
  g__law_cell := He.glo_ok X G (c.fact 35 rfl)
  f__law_cell := c.def_ 31 (d := dd__law_cell) rfl
  g__law_digits := He.glo_ok X G (c.fact 36 rfl)
  f__law_digits := c.def_ 32 (d := dd__law_digits) rfl
  g__law_gcd := He.glo_ok X G (c.fact 37 rfl)
  f__law_gcd := c.def_ 33 (d := dd__law_gcd) rfl
  g__law_lowest := He.glo_ok X G (c.fact 38 rfl)
  f__law_lowest := c.def_ 34 (d := dd__law_lowest) rfl
  g__law_reduced := He.glo_ok X G (c.fact 39 rfl)
  f__law_reduced := c.def_ 35 (d := dd__law_reduced) rfl
  g__law_product := He.glo_ok X G (c.fact 40 rfl)
  f__law_product := c.def_ 36 (d := dd__law_product) rfl
  g__law_tuple := He.glo_ok X G (c.fact 41 rfl)
  f__law_tuple := c.def_ 37 (d := dd__law_tuple) rfl
  g__law_frame := He.glo_ok X G (c.fact 42 rfl)
  f__law_frame := c.def_ 38 (d := dd__law_frame) rfl
  g__law_small := He.glo_ok X G (c.fact 43 rfl)
  f__law_small := c.def_ 39 (d := dd__law_small) rfl
  g__law_turned := He.glo_ok X G (c.fact 44 rfl)
  f__law_turned := c.def_ 40 (d := dd__law_turned) rfl
  g__law_made := He.glo_ok X G (c.fact 45 rfl)
  f__law_made := c.def_ 41 (d := dd__law_made) rfl
  g__law_kit := He.glo_ok X G (c.fact 46 rfl)
  f__law_kit := c.def_ 42 (d := dd__law_kit) rfl
  g__law_row_line := He.glo_ok X G (c.fact 47 rfl)
  f__law_row_line := c.def_ 43 (d := dd__law_row_line) rfl
  g__law_kit_lines := He.glo_ok X G (c.fact 48 rfl)
  f__law_kit_lines := c.def_ 44 (d := dd__law_kit_lines) rfl
  g__law_room_lines := He.glo_ok X G (c.fact 49 rfl)
  f__law_room_lines := c.def_ 45 (d := dd__law_room_lines) rfl
  g__law_large := He.glo_ok X G (c.fact 50 rfl)
  f__law_large := c.def_ 46 (d := dd__law_large) rfl
  g__law_tables := He.glo_ok X G (c.fact 51 rfl)
  f__law_tables := c.def_ 47 (d := dd__law_tables) rfl
  g__law_room := He.glo_ok X G (c.fact 52 rfl)
  f__law_room := c.def_ 48 (d := dd__law_room) rfl
  g__law_read := He.glo_ok X G (c.fact 53 rfl)
  f__law_read := c.def_ 49 (d := dd__law_read) rfl
  g_law := He.glo_ok X G (c.fact 54 rfl)
  f_law := c.def_ 50 (d := dd_law) rfl
  na_Kit_tables := He.noat_ok (c.fact 55 rfl)
  na_Kit_many := He.noat_ok (c.fact 56 rfl)
  na_Kit_high := He.noat_ok (c.fact 57 rfl)
  na_Kit_wide := He.noat_ok (c.fact 58 rfl)
  na_Room_size := He.noat_ok (c.fact 59 rfl)
  na_Room_rows := He.noat_ok (c.fact 60 rfl)
  na_Room_width := He.noat_ok (c.fact 61 rfl)
  ne_Kit := neB_ok (x.at 0 rfl)
  ne_Room := neB_ok (x.at 1 rfl)
  n_abs := He.free_ok X G (c.fact 62 rfl)
  n_all := He.free_ok X G (c.fact 63 rfl)
  n_bool := He.free_ok X G (c.fact 64 rfl)
  n_int := He.free_ok X G (c.fact 65 rfl)
  n_isinstance := He.free_ok X G (c.fact 66 rfl)
  n_len := He.free_ok X G (c.fact 67 rfl)
  n_list := He.free_ok X G (c.fact 68 rfl)
  n_max := He.free_ok X G (c.fact 69 rfl)
  n_min := He.free_ok X G (c.fact 70 rfl)
  n_range := He.free_ok X G (c.fact 71 rfl)
  n_repr := He.free_ok X G (c.fact 72 rfl)
  n_str := He.free_ok X G (c.fact 73 rfl)
  n_tuple := He.free_ok X G (c.fact 74 rfl)
  n_zip := He.free_ok X G (c.fact 75 rfl)
  m_gcd := bltB_ok X G (x.at 2 rfl)
  m_lcm := bltB_ok X G (x.at 3 rfl)
  v_MOST_SIDE := He.int_ok X G (c.fact 76 rfl)
  v_MOST_TABLES := He.int_ok X G (c.fact 77 rfl)
  v_MOST_NUMBER := He.int_ok X G (c.fact 78 rfl)
  v_MOST_SIZE := He.int_ok X G (c.fact 79 rfl)
  v_FIGURES := He.str_ok X G (c.fact 80 rfl)
  v_MOST_FIGURES := He.int_ok X G (c.fact 81 rfl)
  insOk := fun C hC => by
      rcases List.mem_cons.mp hC with rfl | hC
      · exact insB_ok (He.cls_ok (c.fact 9 rfl)) (x.at 4 rfl)
      rcases List.mem_cons.mp hC with rfl | hC
      · exact insB_ok (He.cls_ok (c.fact 16 rfl)) (x.at 5 rfl)
      cases hC
end Pf
open PySem PySem.W PySem.Calls PyProof.Rows
theorem PySem.Challenge.cw_hollowrooms_k94_kit_and_room_notes_holds : PySem.Challenge.rw_hollowrooms_k94_kit_and_room_notes.Holds := by
  w_on; o_law
  refine HandSHeadRun.head_imp (r := OpenLaw.row PySem.Challenge.rw_hollowrooms_k94_kit_and_room_notes) (q := view (OpenLaw.row PySem.Challenge.rw_hollowrooms_k94_kit_and_room_notes).prog [0, 76]) (H := Pf.hkT) (ob := Pf.obT) (M := 6000) (loose := Pf.looseT) (d := HandSHeadRun.topDef (OpenLaw.row PySem.Challenge.rw_hollowrooms_k94_kit_and_room_notes).prog 76) (kwd := []) Pf.obT_eq
    Pf.runT (by kernel_rfl) (by kernel_rfl) (by kernel_rfl) (by rfl) (by first | assumption | decide +kernel) (by decide +kernel) ⟨rfl, rfl, rfl, rfl, rfl, by decide +kernel⟩ ?hw ?hc
  case hw => w_witness2
  case hc =>
    refine Dn.walk_top (l := PySem.Challenge.rw_hollowrooms_k94_kit_and_room_notes) (n := 63) (k := 12) (x := "law") (qual := "law") (params := L2.defArgs Pf.s_law) (body := L2.defBody Pf.s_law) (scope := L2.defScope Pf.s_law) (N := ["script", "tables", "kit", "text", "again", "drawn", "size", "due", "room", "back", "table"]) (g := fun K => Pf.dn_law K) rfl (by decide) (by kernel_rfl) ⟨rfl, by decide, by decide⟩ Pf.sc_law ?aa (fun K ns hn => Pf.law_good ns hn) (fun w H s e s' z => z.elim fun _ z => z.elim fun _ z => z.elim fun _ z => z.elim fun _ z => z.elim fun _ z => z.2.2.2.2.2.2.2)
    intro w mg fa h Y G hmg0
    obtain ⟨K, KX, c, xx⟩ := Y
    have T := Pf.topFacts KX G c xx
    have hmg : mg ("law" : PySem.Str) = some (.ref fa) := by
      have e : (HandSHeadRun.topDef (OpenLaw.row PySem.Challenge.rw_hollowrooms_k94_kit_and_room_notes).prog 76).name = ("law" : PySem.Str) := by kernel_rfl
      rw [← e]
      exact hmg0
    have ef := hmg.symm.trans T.g_law
    cases ef
    obtain ⟨fd, F⟩ := T.f_law
    have b := L2.FunD.bindsA (ps := ["script"]) F fun _ _ _ _ _ _ us hl => match us, hl with | [_], _ => rfl
    exact ⟨K, fd, KX, F, fun s u => b s [u] rfl, fun base cdv s H E => Pf.bd_law T ⟨rfl, by decide, by decide⟩ _ cdv s H E⟩

