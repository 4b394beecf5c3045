import PyProof.Rows.All
import Wide.All
import OpenK.AllK
import Wide.FinOn
import KE.KStateDown
import KE.KDictKeyed
import KE.KeyNested
import KE.KDictWalk
import KE.GoesNewDict
import KE.SortData
import KE.KSortedAny
import HandS.ForMost
import HandS.WordsExc
import HandS.Defaults
import HandS.Walk
import HandS.Flow
import HandS.Style
import HandS.IsInst
import HandS.CallLocal
import HandS.ClsMeth
import HandS.DictComp
import HandS.OwnEq
import HandS.Conv
import HandS.SetKeys
import HandS.Strs
import HandS.SetFor
import HandS.TupAny
import HandS.NoneIn
import HandS.Wide
import HandS.Codes
import HandS.Head0
import HandS.Head1
import HandS.Head2
import HandS.HeadEnd
import HandS.HeadHook1
import HandS.HeadHook2
import HandS.HeadNt
import PySem.Challenge.RW_endrows_k11_whole_patterns
import KE.KDictDisplayH
set_option autoImplicit true
set_option maxHeartbeats 4000000
set_option Elab.async false
set_option linter.all false
set_option maxRecDepth 100000
set_option maxHeartbeats 4000000
/-! The text by places and the facts of the top, by names (printed by gen0.py). -/
namespace E
open PySem PySem.Spec PyProof.Rows L2

def top (i : Nat) : Stmt := PySem.Challenge.pw_endrows_k11_whole_patterns.main.body.getD i (.Pass ⟨0, 0, 0, 0⟩)
abbrev s_is_number : Stmt := top 3
abbrev s_is_list : Stmt := top 4
abbrev s_found_states : Stmt := top 18
abbrev s_come_to : Stmt := top 19
abbrev s_useful_form : Stmt := top 20
abbrev s_future_kinds : Stmt := top 21
abbrev s_least_form : Stmt := top 22
abbrev s_PatternReader_init : Stmt := inClass (top 24) 0
abbrev s_PatternReader_sign : Stmt := inClass (top 24) 1
abbrev s_PatternReader_rows : Stmt := inClass (top 24) 2
abbrev s_PatternReader_row : Stmt := inClass (top 24) 3
abbrev s_PatternReader_item : Stmt := inClass (top 24) 4
abbrev s_PatternReader_plain_item : Stmt := inClass (top 24) 5
abbrev s_Spots_init : Stmt := inClass (top 25) 0
abbrev s_Spots_link : Stmt := inClass (top 25) 1
abbrev s_Spots_next_state : Stmt := inClass (top 25) 2
abbrev s_Spots_laid : Stmt := inClass (top 25) 3
abbrev s_Spots_laid_row : Stmt := inClass (top 25) 4
abbrev s_Spots_laid_rows : Stmt := inClass (top 25) 5
abbrev s_pattern_form : Stmt := top 26
abbrev s_is_lane : Stmt := top 29
abbrev s_frozen_lanes : Stmt := top 32
abbrev s_frozen_ends : Stmt := top 33
abbrev s_Machine_init : Stmt := inClass (top 34) 0
abbrev s_Machine_check_idle : Stmt := inClass (top 34) 1
abbrev s_Machine_read : Stmt := inClass (top 34) 2
abbrev s_Machine_go : Stmt := inClass (top 34) 3
abbrev s_Machine_walked : Stmt := inClass (top 34) 7
abbrev s_Machine_contains : Stmt := inClass (top 34) 9
abbrev s_Machine_least : Stmt := inClass (top 34) 11
abbrev s_are_letters : Stmt := top 36
abbrev s_Order_init : Stmt := inClass (top 37) 0
abbrev s_Order_contains : Stmt := inClass (top 37) 2
abbrev s_Order_eq : Stmt := inClass (top 37) 6
abbrev s_Order_is_word : Stmt := inClass (top 37) 7
abbrev s_L_cell : Stmt := top 39
abbrev s_L_pool : Stmt := top 40
abbrev s_L_take : Stmt := top 41
abbrev s_L_mixed : Stmt := top 42
abbrev s_L_letters : Stmt := top 43
abbrev s_L_all_words : Stmt := top 44
abbrev s_L_pattern : Stmt := top 45
abbrev s_L_pattern_text : Stmt := top 46
abbrev s_L_plain_stops : Stmt := top 47
abbrev s_L_item_stops : Stmt := top 48
abbrev s_L_stops : Stmt := top 49
abbrev s_L_small_pattern : Stmt := top 50
abbrev s_law : Stmt := top 51
def d_is_number : He5.DefA := ⟨fun K => He.ga K "is_number", "is_number", "is_number", defArgs s_is_number, defBody s_is_number, defScope s_is_number, [], []⟩
def d_is_list : He5.DefA := ⟨fun K => He.ga K "is_list", "is_list", "is_list", defArgs s_is_list, defBody s_is_list, defScope s_is_list, [], []⟩
def d_found_states : He5.DefA := ⟨fun K => He.ga K "found_states", "found_states", "found_states", defArgs s_found_states, defBody s_found_states, defScope s_found_states, [], []⟩
def d_come_to : He5.DefA := ⟨fun K => He.ga K "come_to", "come_to", "come_to", defArgs s_come_to, defBody s_come_to, defScope s_come_to, [], []⟩
def d_useful_form : He5.DefA := ⟨fun K => He.ga K "useful_form", "useful_form", "useful_form", defArgs s_useful_form, defBody s_useful_form, defScope s_useful_form, [], []⟩
def d_future_kinds : He5.DefA := ⟨fun K => He.ga K "future_kinds", "future_kinds", "future_kinds", defArgs s_future_kinds, defBody s_future_kinds, defScope s_future_kinds, [], []⟩
def d_least_form : He5.DefA := ⟨fun K => He.ga K "least_form", "least_form", "least_form", defArgs s_least_form, defBody s_least_form, defScope s_least_form, [], []⟩
def d_PatternReader_init : He5.DefA := ⟨fun K => He.ma K (He.ga K "PatternReader") "__init__", "__init__", "PatternReader.__init__", defArgs s_PatternReader_init, defBody s_PatternReader_init, defScope s_PatternReader_init, [], []⟩
def d_PatternReader_sign : He5.DefA := ⟨fun K => He.ma K (He.ga K "PatternReader") "sign", "sign", "PatternReader.sign", defArgs s_PatternReader_sign, defBody s_PatternReader_sign, defScope s_PatternReader_sign, [], []⟩
def d_PatternReader_rows : He5.DefA := ⟨fun K => He.ma K (He.ga K "PatternReader") "rows", "rows", "PatternReader.rows", defArgs s_PatternReader_rows, defBody s_PatternReader_rows, defScope s_PatternReader_rows, [], []⟩
def d_PatternReader_row : He5.DefA := ⟨fun K => He.ma K (He.ga K "PatternReader") "row", "row", "PatternReader.row", defArgs s_PatternReader_row, defBody s_PatternReader_row, defScope s_PatternReader_row, [], []⟩
def d_PatternReader_item : He5.DefA := ⟨fun K => He.ma K (He.ga K "PatternReader") "item", "item", "PatternReader.item", defArgs s_PatternReader_item, defBody s_PatternReader_item, defScope s_PatternReader_item, [], []⟩
def d_PatternReader_plain_item : He5.DefA := ⟨fun K => He.ma K (He.ga K "PatternReader") "plain_item", "plain_item", "PatternReader.plain_item", defArgs s_PatternReader_plain_item, defBody s_PatternReader_plain_item, defScope s_PatternReader_plain_item, [], []⟩
def d_Spots_init : He5.DefA := ⟨fun K => He.ma K (He.ga K "Spots") "__init__", "__init__", "Spots.__init__", defArgs s_Spots_init, defBody s_Spots_init, defScope s_Spots_init, [], []⟩
def d_Spots_link : He5.DefA := ⟨fun K => He.ma K (He.ga K "Spots") "link", "link", "Spots.link", defArgs s_Spots_link, defBody s_Spots_link, defScope s_Spots_link, [], []⟩
def d_Spots_next_state : He5.DefA := ⟨fun K => He.ma K (He.ga K "Spots") "next_state", "next_state", "Spots.next_state", defArgs s_Spots_next_state, defBody s_Spots_next_state, defScope s_Spots_next_state, [], []⟩
def d_Spots_laid : He5.DefA := ⟨fun K => He.ma K (He.ga K "Spots") "laid", "laid", "Spots.laid", defArgs s_Spots_laid, defBody s_Spots_laid, defScope s_Spots_laid, [], []⟩
def d_Spots_laid_row : He5.DefA := ⟨fun K => He.ma K (He.ga K "Spots") "laid_row", "laid_row", "Spots.laid_row", defArgs s_Spots_laid_row, defBody s_Spots_laid_row, defScope s_Spots_laid_row, [], []⟩
def d_Spots_laid_rows : He5.DefA := ⟨fun K => He.ma K (He.ga K "Spots") "laid_rows", "laid_rows", "Spots.laid_rows", defArgs s_Spots_laid_rows, defBody s_Spots_laid_rows, defScope s_Spots_laid_rows, [], []⟩
def d_pattern_form : He5.DefA := ⟨fun K => He.ga K "pattern_form", "pattern_form", "pattern_form", defArgs s_pattern_form, defBody s_pattern_form, defScope s_pattern_form, [], []⟩
def d_is_lane : He5.DefA := ⟨fun K => He.ga K "is_lane", "is_lane", "is_lane", defArgs s_is_lane, defBody s_is_lane, defScope s_is_lane, [], []⟩
def d_frozen_lanes : He5.DefA := ⟨fun K => He.ga K "frozen_lanes", "frozen_lanes", "frozen_lanes", defArgs s_frozen_lanes, defBody s_frozen_lanes, defScope s_frozen_lanes, [], []⟩
def d_frozen_ends : He5.DefA := ⟨fun K => He.ga K "frozen_ends", "frozen_ends", "frozen_ends", defArgs s_frozen_ends, defBody s_frozen_ends, defScope s_frozen_ends, [], []⟩
def d_Machine_init : He5.DefA := ⟨fun K => He.ma K (He.ga K "Machine") "__init__", "__init__", "Machine.__init__", defArgs s_Machine_init, defBody s_Machine_init, defScope s_Machine_init, [], []⟩
def d_Machine_check_idle : He5.DefA := ⟨fun K => He.ma K (He.ga K "Machine") "check_idle", "check_idle", "Machine.check_idle", defArgs s_Machine_check_idle, defBody s_Machine_check_idle, defScope s_Machine_check_idle, [], []⟩
def d_Machine_read : He5.DefA := ⟨fun K => He5.wf K (He.ga K "Machine") "classmethod" "read", "read", "Machine.read", defArgs s_Machine_read, defBody s_Machine_read, defScope s_Machine_read, [], []⟩
def d_Machine_go : He5.DefA := ⟨fun K => He.ma K (He.ga K "Machine") "go", "go", "Machine.go", defArgs s_Machine_go, defBody s_Machine_go, defScope s_Machine_go, [], []⟩
def d_Machine_walked : He5.DefA := ⟨fun K => He.ma K (He.ga K "Machine") "walked", "walked", "Machine.walked", defArgs s_Machine_walked, defBody s_Machine_walked, defScope s_Machine_walked, [], []⟩
def d_Machine_contains : He5.DefA := ⟨fun K => He.ma K (He.ga K "Machine") "__contains__", "__contains__", "Machine.__contains__", defArgs s_Machine_contains, defBody s_Machine_contains, defScope s_Machine_contains, [], []⟩
def d_Machine_least : He5.DefA := ⟨fun K => He.ma K (He.ga K "Machine") "least", "least", "Machine.least", defArgs s_Machine_least, defBody s_Machine_least, defScope s_Machine_least, [], []⟩
def d_are_letters : He5.DefA := ⟨fun K => He.ga K "are_letters", "are_letters", "are_letters", defArgs s_are_letters, defBody s_are_letters, defScope s_are_letters, [], []⟩
def d_Order_init : He5.DefA := ⟨fun K => He.ma K (He.ga K "Order") "__init__", "__init__", "Order.__init__", defArgs s_Order_init, defBody s_Order_init, defScope s_Order_init, [], []⟩
def d_Order_contains : He5.DefA := ⟨fun K => He.ma K (He.ga K "Order") "__contains__", "__contains__", "Order.__contains__", defArgs s_Order_contains, defBody s_Order_contains, defScope s_Order_contains, [], []⟩
def d_Order_eq : He5.DefA := ⟨fun K => He.ma K (He.ga K "Order") "__eq__", "__eq__", "Order.__eq__", defArgs s_Order_eq, defBody s_Order_eq, defScope s_Order_eq, [], []⟩
def d_Order_is_word : He5.DefA := ⟨fun K => He.ma K (He.ga K "Order") "is_word", "is_word", "Order.is_word", defArgs s_Order_is_word, defBody s_Order_is_word, defScope s_Order_is_word, [], []⟩
def d_L_cell : He5.DefA := ⟨fun K => He.ga K "_law_cell", "_law_cell", "_law_cell", defArgs s_L_cell, defBody s_L_cell, defScope s_L_cell, [], []⟩
def d_L_pool : He5.DefA := ⟨fun K => He.ga K "_law_pool", "_law_pool", "_law_pool", defArgs s_L_pool, defBody s_L_pool, defScope s_L_pool, [], []⟩
def d_L_take : He5.DefA := ⟨fun K => He.ga K "_law_take", "_law_take", "_law_take", defArgs s_L_take, defBody s_L_take, defScope s_L_take, [], []⟩
def d_L_mixed : He5.DefA := ⟨fun K => He.ga K "_law_mixed", "_law_mixed", "_law_mixed", defArgs s_L_mixed, defBody s_L_mixed, defScope s_L_mixed, [], []⟩
def d_L_letters : He5.DefA := ⟨fun K => He.ga K "_law_letters", "_law_letters", "_law_letters", defArgs s_L_letters, defBody s_L_letters, defScope s_L_letters, [], []⟩
def d_L_all_words : He5.DefA := ⟨fun K => He.ga K "_law_all_words", "_law_all_words", "_law_all_words", defArgs s_L_all_words, defBody s_L_all_words, defScope s_L_all_words, [], []⟩
def d_L_pattern : He5.DefA := ⟨fun K => He.ga K "_law_pattern", "_law_pattern", "_law_pattern", defArgs s_L_pattern, defBody s_L_pattern, defScope s_L_pattern, [], []⟩
def d_L_pattern_text : He5.DefA := ⟨fun K => He.ga K "_law_pattern_text", "_law_pattern_text", "_law_pattern_text", defArgs s_L_pattern_text, defBody s_L_pattern_text, defScope s_L_pattern_text, [], []⟩
def d_L_plain_stops : He5.DefA := ⟨fun K => He.ga K "_law_plain_stops", "_law_plain_stops", "_law_plain_stops", defArgs s_L_plain_stops, defBody s_L_plain_stops, defScope s_L_plain_stops, [], []⟩
def d_L_item_stops : He5.DefA := ⟨fun K => He.ga K "_law_item_stops", "_law_item_stops", "_law_item_stops", defArgs s_L_item_stops, defBody s_L_item_stops, defScope s_L_item_stops, [], []⟩
def d_L_stops : He5.DefA := ⟨fun K => He.ga K "_law_stops", "_law_stops", "_law_stops", defArgs s_L_stops, defBody s_L_stops, defScope s_L_stops, [], []⟩
def d_L_small_pattern : He5.DefA := ⟨fun K => He.ga K "_law_small_pattern", "_law_small_pattern", "_law_small_pattern", defArgs s_L_small_pattern, defBody s_L_small_pattern, defScope s_L_small_pattern, [], []⟩
def d_law : He5.DefA := ⟨fun K => He.ga K "law", "law", "law", defArgs s_law, defBody s_law, defScope s_law, [], []⟩
def fn : List He5.DefA := [d_is_number, d_is_list, d_found_states, d_come_to, d_useful_form, d_future_kinds, d_least_form, d_PatternReader_init, d_PatternReader_sign, d_PatternReader_rows, d_PatternReader_row, d_PatternReader_item, d_PatternReader_plain_item, d_Spots_init, d_Spots_link, d_Spots_next_state, d_Spots_laid, d_Spots_laid_row, d_Spots_laid_rows, d_pattern_form, d_is_lane, d_frozen_lanes, d_frozen_ends, d_Machine_init, d_Machine_check_idle, d_Machine_read, d_Machine_go, d_Machine_walked, d_Machine_contains, d_Machine_least, d_are_letters, d_Order_init, d_Order_contains, d_Order_eq, d_Order_is_word, d_L_cell, d_L_pool, d_L_take, d_L_mixed, d_L_letters, d_L_all_words, d_L_pattern, d_L_pattern_text, d_L_plain_stops, d_L_item_stops, d_L_stops, d_L_small_pattern, d_law]
def fa : List He.Fa := [.glo "is_number", .glo "is_list", .glo "found_states", .glo "come_to", .glo "useful_form", .glo "future_kinds", .glo "least_form", .glo "PatternReader", .glo "Spots", .glo "pattern_form", .glo "is_lane", .glo "frozen_lanes", .glo "frozen_ends", .glo "Machine", .glo "are_letters", .glo "Order", .glo "_law_cell", .glo "_law_pool", .glo "_law_take", .glo "_law_mixed", .glo "_law_letters", .glo "_law_all_words", .glo "_law_pattern", .glo "_law_pattern_text", .glo "_law_plain_stops", .glo "_law_item_stops", .glo "_law_stops", .glo "_law_small_pattern", .glo "law", .free "len", .free "isinstance", .free "int", .free "str", .free "bool", .free "list", .free "tuple", .free "range", .free "set", .free "sorted", .free "enumerate", .free "any", .free "all", .free "dict", .cls "PatternReader", .mkr "PatternReader", .noat "PatternReader" "order", .noat "PatternReader" "signs", .noat "PatternReader" "at", .meth "PatternReader" "__init__", .meth "PatternReader" "sign", .meth "PatternReader" "rows", .meth "PatternReader" "row", .meth "PatternReader" "item", .meth "PatternReader" "plain_item", .cls "Spots", .mkr "Spots", .noat "Spots" "letters", .noat "Spots" "follow", .meth "Spots" "__init__", .meth "Spots" "link", .meth "Spots" "next_state", .meth "Spots" "laid", .meth "Spots" "laid_row", .meth "Spots" "laid_rows", .cls "Machine", .mkr "Machine", .noat "Machine" "order", .noat "Machine" "targets", .noat "Machine" "ends", .noat "Machine" "lanes", .noat "Machine" "places", .meth "Machine" "__init__", .meth "Machine" "check_idle", .meth "Machine" "go", .meth "Machine" "walked", .meth "Machine" "__contains__", .meth "Machine" "least", .cls "Order", .mkr "Order", .noat "Order" "letters", .noat "Order" "ranks", .meth "Order" "__init__", .meth "Order" "__contains__", .meth "Order" "__eq__", .meth "Order" "is_word", .str "SIGNS" "abcdefghijklmnopqrstuvwxyz"]
abbrev Fd (K : PySem.W.Frag) (x q : Str) (st : Stmt) (f : Addr) (fd : FuncData) : Prop := FunD K x q (defArgs st) (defBody st) (defScope st) [] [] f fd
/-- further facts: isinstance of own classes, the inherited !=, the classmethod -/
def insB (K : PySem.W.Frag) (C : Addr) : Bool := He.eqO (PySem.W.findIn K (.ref C) "__class__") (some (some (.builtin "object.__class__"))) && (decide (PySem.W.mroIn K C (.type "object") = some true) && decide (PySem.W.kitOne K (.ref C) (.ref C) = some true))
def more (K : PySem.W.Frag) : Bool := insB K (He.ga K "Order") && (insB K (He.ga K "Machine") && (He.eqO (PySem.W.specialIn K (.builtin "object.__class__") "__get__") (some (some (.builtin "getset_descriptor.__get__"))) &&
  (decide (PySem.W.takesIn K (.builtin "object.__class__") = some true) && (He.eqO (PySem.W.findIn K (.ref (He.ga K "Order")) "__ne__") (some (some (.builtin "object.__ne__"))) &&
  (He5.wrapB K (He.ga K "Machine") "classmethod" "classmethod.__get__" "read" && (PySem.W.fnIn K (He5.wf K (He.ga K "Machine") "classmethod" "read") && (PySem.W.readsIn K (He.ga K "Machine") (.type "type") &&
  (He.eqO (PySem.W.specialIn K (.ref (He.ga K "Machine")) "__getattribute__") (some (some (.builtin "type.__getattribute__"))) && PySem.W.keepIn K (.ref (He.ga K "Machine"))))))))))
/-- what the walks lean on -/
structure Tx (K : PySem.W.Frag) (mg : Str → Option Value) : Prop where
  ex : ∃ h : Heap, K.In h ∧ h.Ns mainGlobals mg
  says : He5.SaysA fa fn K
  more : more K = true
section
variable {K : PySem.W.Frag} {mg : Str → Option Value}
theorem Tx.g_is_number (T : Tx K mg) : mg "is_number" = some (.ref (He.ga K "is_number")) := by
  obtain ⟨⟨h, X, G⟩, c⟩ := T
  exact He.glo_ok X G (c.fact 0 rfl)
theorem Tx.g_is_list (T : Tx K mg) : mg "is_list" = some (.ref (He.ga K "is_list")) := by
  obtain ⟨⟨h, X, G⟩, c⟩ := T
  exact He.glo_ok X G (c.fact 1 rfl)
theorem Tx.g_found_states (T : Tx K mg) : mg "found_states" = some (.ref (He.ga K "found_states")) := by
  obtain ⟨⟨h, X, G⟩, c⟩ := T
  exact He.glo_ok X G (c.fact 2 rfl)
theorem Tx.g_come_to (T : Tx K mg) : mg "come_to" = some (.ref (He.ga K "come_to")) := by
  obtain ⟨⟨h, X, G⟩, c⟩ := T
  exact He.glo_ok X G (c.fact 3 rfl)
theorem Tx.g_useful_form (T : Tx K mg) : mg "useful_form" = some (.ref (He.ga K "useful_form")) := by
  obtain ⟨⟨h, X, G⟩, c⟩ := T
  exact He.glo_ok X G (c.fact 4 rfl)
theorem Tx.g_future_kinds (T : Tx K mg) : mg "future_kinds" = some (.ref (He.ga K "future_kinds")) := by
  obtain ⟨⟨h, X, G⟩, c⟩ := T
  exact He.glo_ok X G (c.fact 5 rfl)
theorem Tx.g_least_form (T : Tx K mg) : mg "least_form" = some (.ref (He.ga K "least_form")) := by
  obtain ⟨⟨h, X, G⟩, c⟩ := T
  exact He.glo_ok X G (c.fact 6 rfl)
theorem Tx.g_PatternReader (T : Tx K mg) : mg "PatternReader" = some (.ref (He.ga K "PatternReader")) := by
  obtain ⟨⟨h, X, G⟩, c⟩ := T
  exact He.glo_ok X G (c.fact 7 rfl)
theorem Tx.g_Spots (T : Tx K mg) : mg "Spots" = some (.ref (He.ga K "Spots")) := by
  obtain ⟨⟨h, X, G⟩, c⟩ := T
  exact He.glo_ok X G (c.fact 8 rfl)
theorem Tx.g_pattern_form (T : Tx K mg) : mg "pattern_form" = some (.ref (He.ga K "pattern_form")) := by
  obtain ⟨⟨h, X, G⟩, c⟩ := T
  exact He.glo_ok X G (c.fact 9 rfl)
theorem Tx.g_is_lane (T : Tx K mg) : mg "is_lane" = some (.ref (He.ga K "is_lane")) := by
  obtain ⟨⟨h, X, G⟩, c⟩ := T
  exact He.glo_ok X G (c.fact 10 rfl)
theorem Tx.g_frozen_lanes (T : Tx K mg) : mg "frozen_lanes" = some (.ref (He.ga K "frozen_lanes")) := by
  obtain ⟨⟨h, X, G⟩, c⟩ := T
  exact He.glo_ok X G (c.fact 11 rfl)
theorem Tx.g_frozen_ends (T : Tx K mg) : mg "frozen_ends" = some (.ref (He.ga K "frozen_ends")) := by
  obtain ⟨⟨h, X, G⟩, c⟩ := T
  exact He.glo_ok X G (c.fact 12 rfl)
theorem Tx.g_Machine (T : Tx K mg) : mg "Machine" = some (.ref (He.ga K "Machine")) := by
  obtain ⟨⟨h, X, G⟩, c⟩ := T
  exact He.glo_ok X G (c.fact 13 rfl)
theorem Tx.g_are_letters (T : Tx K mg) : mg "are_letters" = some (.ref (He.ga K "are_letters")) := by
  obtain ⟨⟨h, X, G⟩, c⟩ := T
  exact He.glo_ok X G (c.fact 14 rfl)
theorem Tx.g_Order (T : Tx K mg) : mg "Order" = some (.ref (He.ga K "Order")) := by
  obtain ⟨⟨h, X, G⟩, c⟩ := T
  exact He.glo_ok X G (c.fact 15 rfl)
theorem Tx.g_L_cell (T : Tx K mg) : mg "_law_cell" = some (.ref (He.ga K "_law_cell")) := by
  obtain ⟨⟨h, X, G⟩, c⟩ := T
  exact He.glo_ok X G (c.fact 16 rfl)
theorem Tx.g_L_pool (T : Tx K mg) : mg "_law_pool" = some (.ref (He.ga K "_law_pool")) := by
  obtain ⟨⟨h, X, G⟩, c⟩ := T
  exact He.glo_ok X G (c.fact 17 rfl)
theorem Tx.g_L_take (T : Tx K mg) : mg "_law_take" = some (.ref (He.ga K "_law_take")) := by
  obtain ⟨⟨h, X, G⟩, c⟩ := T
  exact He.glo_ok X G (c.fact 18 rfl)
theorem Tx.g_L_mixed (T : Tx K mg) : mg "_law_mixed" = some (.ref (He.ga K "_law_mixed")) := by
  obtain ⟨⟨h, X, G⟩, c⟩ := T
  exact He.glo_ok X G (c.fact 19 rfl)
theorem Tx.g_L_letters (T : Tx K mg) : mg "_law_letters" = some (.ref (He.ga K "_law_letters")) := by
  obtain ⟨⟨h, X, G⟩, c⟩ := T
  exact He.glo_ok X G (c.fact 20 rfl)
theorem Tx.g_L_all_words (T : Tx K mg) : mg "_law_all_words" = some (.ref (He.ga K "_law_all_words")) := by
  obtain ⟨⟨h, X, G⟩, c⟩ := T
  exact He.glo_ok X G (c.fact 21 rfl)
theorem Tx.g_L_pattern (T : Tx K mg) : mg "_law_pattern" = some (.ref (He.ga K "_law_pattern")) := by
  obtain ⟨⟨h, X, G⟩, c⟩ := T
  exact He.glo_ok X G (c.fact 22 rfl)
theorem Tx.g_L_pattern_text (T : Tx K mg) : mg "_law_pattern_text" = some (.ref (He.ga K "_law_pattern_text")) := by
  obtain ⟨⟨h, X, G⟩, c⟩ := T
  exact He.glo_ok X G (c.fact 23 rfl)
theorem Tx.g_L_plain_stops (T : Tx K mg) : mg "_law_plain_stops" = some (.ref (He.ga K "_law_plain_stops")) := by
  obtain ⟨⟨h, X, G⟩, c⟩ := T
  exact He.glo_ok X G (c.fact 24 rfl)
theorem Tx.g_L_item_stops (T : Tx K mg) : mg "_law_item_stops" = some (.ref (He.ga K "_law_item_stops")) := by
  obtain ⟨⟨h, X, G⟩, c⟩ := T
  exact He.glo_ok X G (c.fact 25 rfl)
theorem Tx.g_L_stops (T : Tx K mg) : mg "_law_stops" = some (.ref (He.ga K "_law_stops")) := by
  obtain ⟨⟨h, X, G⟩, c⟩ := T
  exact He.glo_ok X G (c.fact 26 rfl)
theorem Tx.g_L_small_pattern (T : Tx K mg) : mg "_law_small_pattern" = some (.ref (He.ga K "_law_small_pattern")) := by
  obtain ⟨⟨h, X, G⟩, c⟩ := T
  exact He.glo_ok X G (c.fact 27 rfl)
theorem Tx.g_law (T : Tx K mg) : mg "law" = some (.ref (He.ga K "law")) := by
  obtain ⟨⟨h, X, G⟩, c⟩ := T
  exact He.glo_ok X G (c.fact 28 rfl)
theorem Tx.f_len (T : Tx K mg) : mg "len" = none := by
  obtain ⟨⟨h, X, G⟩, c⟩ := T
  exact He.free_ok X G (c.fact 29 rfl)
theorem Tx.f_isinstance (T : Tx K mg) : mg "isinstance" = none := by
  obtain ⟨⟨h, X, G⟩, c⟩ := T
  exact He.free_ok X G (c.fact 30 rfl)
theorem Tx.f_int (T : Tx K mg) : mg "int" = none := by
  obtain ⟨⟨h, X, G⟩, c⟩ := T
  exact He.free_ok X G (c.fact 31 rfl)
theorem Tx.f_str (T : Tx K mg) : mg "str" = none := by
  obtain ⟨⟨h, X, G⟩, c⟩ := T
  exact He.free_ok X G (c.fact 32 rfl)
theorem Tx.f_bool (T : Tx K mg) : mg "bool" = none := by
  obtain ⟨⟨h, X, G⟩, c⟩ := T
  exact He.free_ok X G (c.fact 33 rfl)
theorem Tx.f_list (T : Tx K mg) : mg "list" = none := by
  obtain ⟨⟨h, X, G⟩, c⟩ := T
  exact He.free_ok X G (c.fact 34 rfl)
theorem Tx.f_tuple (T : Tx K mg) : mg "tuple" = none := by
  obtain ⟨⟨h, X, G⟩, c⟩ := T
  exact He.free_ok X G (c.fact 35 rfl)
theorem Tx.f_range (T : Tx K mg) : mg "range" = none := by
  obtain ⟨⟨h, X, G⟩, c⟩ := T
  exact He.free_ok X G (c.fact 36 rfl)
theorem Tx.f_set (T : Tx K mg) : mg "set" = none := by
  obtain ⟨⟨h, X, G⟩, c⟩ := T
  exact He.free_ok X G (c.fact 37 rfl)
theorem Tx.f_sorted (T : Tx K mg) : mg "sorted" = none := by
  obtain ⟨⟨h, X, G⟩, c⟩ := T
  exact He.free_ok X G (c.fact 38 rfl)
theorem Tx.f_enumerate (T : Tx K mg) : mg "enumerate" = none := by
  obtain ⟨⟨h, X, G⟩, c⟩ := T
  exact He.free_ok X G (c.fact 39 rfl)
theorem Tx.f_any (T : Tx K mg) : mg "any" = none := by
  obtain ⟨⟨h, X, G⟩, c⟩ := T
  exact He.free_ok X G (c.fact 40 rfl)
theorem Tx.f_all (T : Tx K mg) : mg "all" = none := by
  obtain ⟨⟨h, X, G⟩, c⟩ := T
  exact He.free_ok X G (c.fact 41 rfl)
theorem Tx.f_dict (T : Tx K mg) : mg "dict" = none := by
  obtain ⟨⟨h, X, G⟩, c⟩ := T
  exact He.free_ok X G (c.fact 42 rfl)
theorem Tx.c_PatternReader (T : Tx K mg) : Cls K (He.ga K "PatternReader") := He.cls_ok (T.says.fact 43 rfl)
theorem Tx.mk_PatternReader (T : Tx K mg) : Mk K (He.ga K "PatternReader") (He.ma K (He.ga K "PatternReader") "__init__") := He.mkr_ok (T.says.fact 44 rfl)
theorem Tx.n_PatternReader_order (T : Tx K mg) : NoAttr K (He.ga K "PatternReader") "order" := He.noat_ok (T.says.fact 45 rfl)
theorem Tx.n_PatternReader_signs (T : Tx K mg) : NoAttr K (He.ga K "PatternReader") "signs" := He.noat_ok (T.says.fact 46 rfl)
theorem Tx.n_PatternReader_at (T : Tx K mg) : NoAttr K (He.ga K "PatternReader") "at" := He.noat_ok (T.says.fact 47 rfl)
theorem Tx.m_PatternReader_init (T : Tx K mg) : Meth K (He.ga K "PatternReader") "__init__" (He.ma K (He.ga K "PatternReader") "__init__") := He.meth_ok (T.says.fact 48 rfl)
theorem Tx.m_PatternReader_sign (T : Tx K mg) : Meth K (He.ga K "PatternReader") "sign" (He.ma K (He.ga K "PatternReader") "sign") := He.meth_ok (T.says.fact 49 rfl)
theorem Tx.m_PatternReader_rows (T : Tx K mg) : Meth K (He.ga K "PatternReader") "rows" (He.ma K (He.ga K "PatternReader") "rows") := He.meth_ok (T.says.fact 50 rfl)
theorem Tx.m_PatternReader_row (T : Tx K mg) : Meth K (He.ga K "PatternReader") "row" (He.ma K (He.ga K "PatternReader") "row") := He.meth_ok (T.says.fact 51 rfl)
theorem Tx.m_PatternReader_item (T : Tx K mg) : Meth K (He.ga K "PatternReader") "item" (He.ma K (He.ga K "PatternReader") "item") := He.meth_ok (T.says.fact 52 rfl)
theorem Tx.m_PatternReader_plain_item (T : Tx K mg) : Meth K (He.ga K "PatternReader") "plain_item" (He.ma K (He.ga K "PatternReader") "plain_item") := He.meth_ok (T.says.fact 53 rfl)
theorem Tx.c_Spots (T : Tx K mg) : Cls K (He.ga K "Spots") := He.cls_ok (T.says.fact 54 rfl)
theorem Tx.mk_Spots (T : Tx K mg) : Mk K (He.ga K "Spots") (He.ma K (He.ga K "Spots") "__init__") := He.mkr_ok (T.says.fact 55 rfl)
theorem Tx.n_Spots_letters (T : Tx K mg) : NoAttr K (He.ga K "Spots") "letters" := He.noat_ok (T.says.fact 56 rfl)
theorem Tx.n_Spots_follow (T : Tx K mg) : NoAttr K (He.ga K "Spots") "follow" := He.noat_ok (T.says.fact 57 rfl)
theorem Tx.m_Spots_init (T : Tx K mg) : Meth K (He.ga K "Spots") "__init__" (He.ma K (He.ga K "Spots") "__init__") := He.meth_ok (T.says.fact 58 rfl)
theorem Tx.m_Spots_link (T : Tx K mg) : Meth K (He.ga K "Spots") "link" (He.ma K (He.ga K "Spots") "link") := He.meth_ok (T.says.fact 59 rfl)
theorem Tx.m_Spots_next_state (T : Tx K mg) : Meth K (He.ga K "Spots") "next_state" (He.ma K (He.ga K "Spots") "next_state") := He.meth_ok (T.says.fact 60 rfl)
theorem Tx.m_Spots_laid (T : Tx K mg) : Meth K (He.ga K "Spots") "laid" (He.ma K (He.ga K "Spots") "laid") := He.meth_ok (T.says.fact 61 rfl)
theorem Tx.m_Spots_laid_row (T : Tx K mg) : Meth K (He.ga K "Spots") "laid_row" (He.ma K (He.ga K "Spots") "laid_row") := He.meth_ok (T.says.fact 62 rfl)
theorem Tx.m_Spots_laid_rows (T : Tx K mg) : Meth K (He.ga K "Spots") "laid_rows" (He.ma K (He.ga K "Spots") "laid_rows") := He.meth_ok (T.says.fact 63 rfl)
theorem Tx.c_Machine (T : Tx K mg) : Cls K (He.ga K "Machine") := He.cls_ok (T.says.fact 64 rfl)
theorem Tx.mk_Machine (T : Tx K mg) : Mk K (He.ga K "Machine") (He.ma K (He.ga K "Machine") "__init__") := He.mkr_ok (T.says.fact 65 rfl)
theorem Tx.n_Machine_order (T : Tx K mg) : NoAttr K (He.ga K "Machine") "order" := He.noat_ok (T.says.fact 66 rfl)
theorem Tx.n_Machine_targets (T : Tx K mg) : NoAttr K (He.ga K "Machine") "targets" := He.noat_ok (T.says.fact 67 rfl)
theorem Tx.n_Machine_ends (T : Tx K mg) : NoAttr K (He.ga K "Machine") "ends" := He.noat_ok (T.says.fact 68 rfl)
theorem Tx.n_Machine_lanes (T : Tx K mg) : NoAttr K (He.ga K "Machine") "lanes" := He.noat_ok (T.says.fact 69 rfl)
theorem Tx.n_Machine_places (T : Tx K mg) : NoAttr K (He.ga K "Machine") "places" := He.noat_ok (T.says.fact 70 rfl)
theorem Tx.m_Machine_init (T : Tx K mg) : Meth K (He.ga K "Machine") "__init__" (He.ma K (He.ga K "Machine") "__init__") := He.meth_ok (T.says.fact 71 rfl)
theorem Tx.m_Machine_check_idle (T : Tx K mg) : Meth K (He.ga K "Machine") "check_idle" (He.ma K (He.ga K "Machine") "check_idle") := He.meth_ok (T.says.fact 72 rfl)
theorem Tx.m_Machine_go (T : Tx K mg) : Meth K (He.ga K "Machine") "go" (He.ma K (He.ga K "Machine") "go") := He.meth_ok (T.says.fact 73 rfl)
theorem Tx.m_Machine_walked (T : Tx K mg) : Meth K (He.ga K "Machine") "walked" (He.ma K (He.ga K "Machine") "walked") := He.meth_ok (T.says.fact 74 rfl)
theorem Tx.m_Machine_contains (T : Tx K mg) : Meth K (He.ga K "Machine") "__contains__" (He.ma K (He.ga K "Machine") "__contains__") := He.meth_ok (T.says.fact 75 rfl)
theorem Tx.m_Machine_least (T : Tx K mg) : Meth K (He.ga K "Machine") "least" (He.ma K (He.ga K "Machine") "least") := He.meth_ok (T.says.fact 76 rfl)
theorem Tx.c_Order (T : Tx K mg) : Cls K (He.ga K "Order") := He.cls_ok (T.says.fact 77 rfl)
theorem Tx.mk_Order (T : Tx K mg) : Mk K (He.ga K "Order") (He.ma K (He.ga K "Order") "__init__") := He.mkr_ok (T.says.fact 78 rfl)
theorem Tx.n_Order_letters (T : Tx K mg) : NoAttr K (He.ga K "Order") "letters" := He.noat_ok (T.says.fact 79 rfl)
theorem Tx.n_Order_ranks (T : Tx K mg) : NoAttr K (He.ga K "Order") "ranks" := He.noat_ok (T.says.fact 80 rfl)
theorem Tx.m_Order_init (T : Tx K mg) : Meth K (He.ga K "Order") "__init__" (He.ma K (He.ga K "Order") "__init__") := He.meth_ok (T.says.fact 81 rfl)
theorem Tx.m_Order_contains (T : Tx K mg) : Meth K (He.ga K "Order") "__contains__" (He.ma K (He.ga K "Order") "__contains__") := He.meth_ok (T.says.fact 82 rfl)
theorem Tx.m_Order_eq (T : Tx K mg) : Meth K (He.ga K "Order") "__eq__" (He.ma K (He.ga K "Order") "__eq__") := He.meth_ok (T.says.fact 83 rfl)
theorem Tx.m_Order_is_word (T : Tx K mg) : Meth K (He.ga K "Order") "is_word" (He.ma K (He.ga K "Order") "is_word") := He.meth_ok (T.says.fact 84 rfl)
theorem Tx.str_SIGNS (T : Tx K mg) : ∃ t, mg "SIGNS" = some (.str "abcdefghijklmnopqrstuvwxyz" t) := by
  obtain ⟨⟨h, X, G⟩, c⟩ := T
  exact He.str_ok X G (c.fact 85 rfl)
theorem Tx.fn_is_number (T : Tx K mg) : ∃ fd, Fd K "is_number" "is_number" s_is_number (He.ga K "is_number") fd := T.says.def_ 0 (d := d_is_number) rfl
theorem Tx.fn_is_list (T : Tx K mg) : ∃ fd, Fd K "is_list" "is_list" s_is_list (He.ga K "is_list") fd := T.says.def_ 1 (d := d_is_list) rfl
theorem Tx.fn_found_states (T : Tx K mg) : ∃ fd, Fd K "found_states" "found_states" s_found_states (He.ga K "found_states") fd := T.says.def_ 2 (d := d_found_states) rfl
theorem Tx.fn_come_to (T : Tx K mg) : ∃ fd, Fd K "come_to" "come_to" s_come_to (He.ga K "come_to") fd := T.says.def_ 3 (d := d_come_to) rfl
theorem Tx.fn_useful_form (T : Tx K mg) : ∃ fd, Fd K "useful_form" "useful_form" s_useful_form (He.ga K "useful_form") fd := T.says.def_ 4 (d := d_useful_form) rfl
theorem Tx.fn_future_kinds (T : Tx K mg) : ∃ fd, Fd K "future_kinds" "future_kinds" s_future_kinds (He.ga K "future_kinds") fd := T.says.def_ 5 (d := d_future_kinds) rfl
theorem Tx.fn_least_form (T : Tx K mg) : ∃ fd, Fd K "least_form" "least_form" s_least_form (He.ga K "least_form") fd := T.says.def_ 6 (d := d_least_form) rfl
theorem Tx.fn_PatternReader_init (T : Tx K mg) : ∃ fd, Fd K "__init__" "PatternReader.__init__" s_PatternReader_init (He.ma K (He.ga K "PatternReader") "__init__") fd := T.says.def_ 7 (d := d_PatternReader_init) rfl
theorem Tx.fn_PatternReader_sign (T : Tx K mg) : ∃ fd, Fd K "sign" "PatternReader.sign" s_PatternReader_sign (He.ma K (He.ga K "PatternReader") "sign") fd := T.says.def_ 8 (d := d_PatternReader_sign) rfl
theorem Tx.fn_PatternReader_rows (T : Tx K mg) : ∃ fd, Fd K "rows" "PatternReader.rows" s_PatternReader_rows (He.ma K (He.ga K "PatternReader") "rows") fd := T.says.def_ 9 (d := d_PatternReader_rows) rfl
theorem Tx.fn_PatternReader_row (T : Tx K mg) : ∃ fd, Fd K "row" "PatternReader.row" s_PatternReader_row (He.ma K (He.ga K "PatternReader") "row") fd := T.says.def_ 10 (d := d_PatternReader_row) rfl
theorem Tx.fn_PatternReader_item (T : Tx K mg) : ∃ fd, Fd K "item" "PatternReader.item" s_PatternReader_item (He.ma K (He.ga K "PatternReader") "item") fd := T.says.def_ 11 (d := d_PatternReader_item) rfl
theorem Tx.fn_PatternReader_plain_item (T : Tx K mg) : ∃ fd, Fd K "plain_item" "PatternReader.plain_item" s_PatternReader_plain_item (He.ma K (He.ga K "PatternReader") "plain_item") fd := T.says.def_ 12 (d := d_PatternReader_plain_item) rfl
theorem Tx.fn_Spots_init (T : Tx K mg) : ∃ fd, Fd K "__init__" "Spots.__init__" s_Spots_init (He.ma K (He.ga K "Spots") "__init__") fd := T.says.def_ 13 (d := d_Spots_init) rfl
theorem Tx.fn_Spots_link (T : Tx K mg) : ∃ fd, Fd K "link" "Spots.link" s_Spots_link (He.ma K (He.ga K "Spots") "link") fd := T.says.def_ 14 (d := d_Spots_link) rfl
theorem Tx.fn_Spots_next_state (T : Tx K mg) : ∃ fd, Fd K "next_state" "Spots.next_state" s_Spots_next_state (He.ma K (He.ga K "Spots") "next_state") fd := T.says.def_ 15 (d := d_Spots_next_state) rfl
theorem Tx.fn_Spots_laid (T : Tx K mg) : ∃ fd, Fd K "laid" "Spots.laid" s_Spots_laid (He.ma K (He.ga K "Spots") "laid") fd := T.says.def_ 16 (d := d_Spots_laid) rfl
theorem Tx.fn_Spots_laid_row (T : Tx K mg) : ∃ fd, Fd K "laid_row" "Spots.laid_row" s_Spots_laid_row (He.ma K (He.ga K "Spots") "laid_row") fd := T.says.def_ 17 (d := d_Spots_laid_row) rfl
theorem Tx.fn_Spots_laid_rows (T : Tx K mg) : ∃ fd, Fd K "laid_rows" "Spots.laid_rows" s_Spots_laid_rows (He.ma K (He.ga K "Spots") "laid_rows") fd := T.says.def_ 18 (d := d_Spots_laid_rows) rfl
theorem Tx.fn_pattern_form (T : Tx K mg) : ∃ fd, Fd K "pattern_form" "pattern_form" s_pattern_form (He.ga K "pattern_form") fd := T.says.def_ 19 (d := d_pattern_form) rfl
theorem Tx.fn_is_lane (T : Tx K mg) : ∃ fd, Fd K "is_lane" "is_lane" s_is_lane (He.ga K "is_lane") fd := T.says.def_ 20 (d := d_is_lane) rfl
theorem Tx.fn_frozen_lanes (T : Tx K mg) : ∃ fd, Fd K "frozen_lanes" "frozen_lanes" s_frozen_lanes (He.ga K "frozen_lanes") fd := T.says.def_ 21 (d := d_frozen_lanes) rfl
theorem Tx.fn_frozen_ends (T : Tx K mg) : ∃ fd, Fd K "frozen_ends" "frozen_ends" s_frozen_ends (He.ga K "frozen_ends") fd := T.says.def_ 22 (d := d_frozen_ends) rfl
theorem Tx.fn_Machine_init (T : Tx K mg) : ∃ fd, Fd K "__init__" "Machine.__init__" s_Machine_init (He.ma K (He.ga K "Machine") "__init__") fd := T.says.def_ 23 (d := d_Machine_init) rfl
theorem Tx.fn_Machine_check_idle (T : Tx K mg) : ∃ fd, Fd K "check_idle" "Machine.check_idle" s_Machine_check_idle (He.ma K (He.ga K "Machine") "check_idle") fd := T.says.def_ 24 (d := d_Machine_check_idle) rfl
theorem Tx.fn_Machine_read (T : Tx K mg) : ∃ fd, Fd K "read" "Machine.read" s_Machine_read (He5.wf K (He.ga K "Machine") "classmethod" "read") fd := T.says.def_ 25 (d := d_Machine_read) rfl
theorem Tx.fn_Machine_go (T : Tx K mg) : ∃ fd, Fd K "go" "Machine.go" s_Machine_go (He.ma K (He.ga K "Machine") "go") fd := T.says.def_ 26 (d := d_Machine_go) rfl
theorem Tx.fn_Machine_walked (T : Tx K mg) : ∃ fd, Fd K "walked" "Machine.walked" s_Machine_walked (He.ma K (He.ga K "Machine") "walked") fd := T.says.def_ 27 (d := d_Machine_walked) rfl
theorem Tx.fn_Machine_contains (T : Tx K mg) : ∃ fd, Fd K "__contains__" "Machine.__contains__" s_Machine_contains (He.ma K (He.ga K "Machine") "__contains__") fd := T.says.def_ 28 (d := d_Machine_contains) rfl
theorem Tx.fn_Machine_least (T : Tx K mg) : ∃ fd, Fd K "least" "Machine.least" s_Machine_least (He.ma K (He.ga K "Machine") "least") fd := T.says.def_ 29 (d := d_Machine_least) rfl
theorem Tx.fn_are_letters (T : Tx K mg) : ∃ fd, Fd K "are_letters" "are_letters" s_are_letters (He.ga K "are_letters") fd := T.says.def_ 30 (d := d_are_letters) rfl
theorem Tx.fn_Order_init (T : Tx K mg) : ∃ fd, Fd K "__init__" "Order.__init__" s_Order_init (He.ma K (He.ga K "Order") "__init__") fd := T.says.def_ 31 (d := d_Order_init) rfl
theorem Tx.fn_Order_contains (T : Tx K mg) : ∃ fd, Fd K "__contains__" "Order.__contains__" s_Order_contains (He.ma K (He.ga K "Order") "__contains__") fd := T.says.def_ 32 (d := d_Order_contains) rfl
theorem Tx.fn_Order_eq (T : Tx K mg) : ∃ fd, Fd K "__eq__" "Order.__eq__" s_Order_eq (He.ma K (He.ga K "Order") "__eq__") fd := T.says.def_ 33 (d := d_Order_eq) rfl
theorem Tx.fn_Order_is_word (T : Tx K mg) : ∃ fd, Fd K "is_word" "Order.is_word" s_Order_is_word (He.ma K (He.ga K "Order") "is_word") fd := T.says.def_ 34 (d := d_Order_is_word) rfl
theorem Tx.fn_L_cell (T : Tx K mg) : ∃ fd, Fd K "_law_cell" "_law_cell" s_L_cell (He.ga K "_law_cell") fd := T.says.def_ 35 (d := d_L_cell) rfl
theorem Tx.fn_L_pool (T : Tx K mg) : ∃ fd, Fd K "_law_pool" "_law_pool" s_L_pool (He.ga K "_law_pool") fd := T.says.def_ 36 (d := d_L_pool) rfl
theorem Tx.fn_L_take (T : Tx K mg) : ∃ fd, Fd K "_law_take" "_law_take" s_L_take (He.ga K "_law_take") fd := T.says.def_ 37 (d := d_L_take) rfl
theorem Tx.fn_L_mixed (T : Tx K mg) : ∃ fd, Fd K "_law_mixed" "_law_mixed" s_L_mixed (He.ga K "_law_mixed") fd := T.says.def_ 38 (d := d_L_mixed) rfl
theorem Tx.fn_L_letters (T : Tx K mg) : ∃ fd, Fd K "_law_letters" "_law_letters" s_L_letters (He.ga K "_law_letters") fd := T.says.def_ 39 (d := d_L_letters) rfl
theorem Tx.fn_L_all_words (T : Tx K mg) : ∃ fd, Fd K "_law_all_words" "_law_all_words" s_L_all_words (He.ga K "_law_all_words") fd := T.says.def_ 40 (d := d_L_all_words) rfl
theorem Tx.fn_L_pattern (T : Tx K mg) : ∃ fd, Fd K "_law_pattern" "_law_pattern" s_L_pattern (He.ga K "_law_pattern") fd := T.says.def_ 41 (d := d_L_pattern) rfl
theorem Tx.fn_L_pattern_text (T : Tx K mg) : ∃ fd, Fd K "_law_pattern_text" "_law_pattern_text" s_L_pattern_text (He.ga K "_law_pattern_text") fd := T.says.def_ 42 (d := d_L_pattern_text) rfl
theorem Tx.fn_L_plain_stops (T : Tx K mg) : ∃ fd, Fd K "_law_plain_stops" "_law_plain_stops" s_L_plain_stops (He.ga K "_law_plain_stops") fd := T.says.def_ 43 (d := d_L_plain_stops) rfl
theorem Tx.fn_L_item_stops (T : Tx K mg) : ∃ fd, Fd K "_law_item_stops" "_law_item_stops" s_L_item_stops (He.ga K "_law_item_stops") fd := T.says.def_ 44 (d := d_L_item_stops) rfl
theorem Tx.fn_L_stops (T : Tx K mg) : ∃ fd, Fd K "_law_stops" "_law_stops" s_L_stops (He.ga K "_law_stops") fd := T.says.def_ 45 (d := d_L_stops) rfl
theorem Tx.fn_L_small_pattern (T : Tx K mg) : ∃ fd, Fd K "_law_small_pattern" "_law_small_pattern" s_L_small_pattern (He.ga K "_law_small_pattern") fd := T.says.def_ 46 (d := d_L_small_pattern) rfl
theorem Tx.fn_law (T : Tx K mg) : ∃ fd, Fd K "law" "law" s_law (He.ga K "law") fd := T.says.def_ 47 (d := d_law) rfl
theorem ins_of {C : Addr} (h : insB K C = true) (c : Cls K C) (h1 : PySem.W.specialIn K (.builtin "object.__class__") "__get__" = some (some (.builtin "getset_descriptor.__get__"))) (h2 : PySem.W.takesIn K (.builtin "object.__class__") = some true) : C8.InsC K C := by
  obtain ⟨a1, a⟩ := He.ba h
  obtain ⟨a2, a3⟩ := He.ba a
  exact ⟨c, He.eqO_ok a1, h1, h2, of_decide_eq_true a2, of_decide_eq_true a3⟩
theorem Tx.all (T : Tx K mg) : C8.InsC K (He.ga K "Order") ∧ C8.InsC K (He.ga K "Machine") ∧ PySem.W.findIn K (.ref (He.ga K "Order")) "__ne__" = some (some (.builtin "object.__ne__")) ∧
    ClX.CRead K (He.ga K "Machine") (.type "type") ∧ ClX.CMet K (He.ga K "Machine") (.type "type") "read" (He.ma K (He.ga K "Machine") "read") (He5.wf K (He.ga K "Machine") "classmethod" "read") ∧ PySem.W.keepIn K (.ref (He.ga K "Machine")) = true := by
  obtain ⟨a1, a⟩ := He.ba T.more
  obtain ⟨a2, a⟩ := He.ba a
  obtain ⟨a3, a⟩ := He.ba a
  obtain ⟨a4, a⟩ := He.ba a
  obtain ⟨a5, a⟩ := He.ba a
  obtain ⟨a6, a⟩ := He.ba a
  obtain ⟨a7, a⟩ := He.ba a
  obtain ⟨a8, a⟩ := He.ba a
  obtain ⟨a9, a10⟩ := He.ba a
  have h1 := He.eqO_ok a3
  have h2 := of_decide_eq_true a4
  exact ⟨ins_of a1 T.c_Order h1 h2, ins_of a2 T.c_Machine h1 h2, He.eqO_ok a5, ⟨a8, He.eqO_ok a9⟩, He5.cmet_of a6 a7, a10⟩
end
end E

set_option autoImplicit true
set_option maxHeartbeats 4000000
set_option Elab.async false
set_option linter.all false
set_option maxRecDepth 100000
set_option maxHeartbeats 0
namespace E
open PySem PySem.Spec PyProof.Rows L2
abbrev R : PySem.W.OpenRow := PySem.W.OpenLaw.row PySem.Challenge.rw_endrows_k11_whole_patterns
abbrev AlX : Type := He.AlD × Bool
def obsX (K : PySem.W.Frag) : AlX := (He5.obsA fa fn K, more K)
def obsXG (n : Nat) (g : Addr → Option Obj) : AlX := obsX (He.frG g (List.range n))
def hk : PySem.W.Hook where
  α := AlX
  obs := fun s => obsXG s.heap.objs.size s.heap.get?
  val := fun _ => (He5.valA fn, true)
  says := fun _ h => ∃ K : PySem.W.Frag, K.In h ∧ obsX K = (He5.valA fn, true)
  of := fun _ _ e => ⟨_, He.frG_in, e⟩
  keeps := fun _ _ _ ⟨K, hK, c⟩ k => ⟨K, PySem.W.Frag.In.keeps hK k, c⟩
def ob (s : PySem.W.SharedT) : AlX := obsXG s.n (HandSHeadRun.getT s)
theorem ob_eq (s : PySem.W.SharedT) : ob s = hk.obs s.abs := by
  have e : HandSHeadRun.getT s = s.abs.heap.get? := funext fun a => HandSHeadRun.getT_eq s a
  have n : s.n = s.abs.heap.objs.size := (PySem.W.absHeap_size s.tree s.n s.life).symm
  unfold ob
  rw [e, n]
  all_goals rfl
def loose1 : List PySem.Str := ["_wall", "SIGNS", "is_number", "is_list", "RowError", "BadOrder", "NoLetter", "BadWord", "BadLane", "TwoLanes", "BadEnd", "IdlePlace", "OtherOrder", "BadNumber", "BadText",
  "found_states", "come_to", "useful_form", "future_kinds", "least_form"]
def loose2 : List PySem.Str := ["PatternReader", "Spots", "pattern_form", "NOWHERE", "is_lane", "is_wanted", "check_number", "frozen_lanes", "frozen_ends", "Machine", "are_letters", "Order",
  "_law_cell", "_law_pool", "_law_take", "_law_mixed", "_law_letters", "_law_all_words", "_law_pattern", "_law_pattern_text", "_law_plain_stops", "_law_item_stops", "_law_stops", "_law_small_pattern"]
def loose : List PySem.Str := loose1 ++ loose2
theorem run (w : World) : HandSHeadRun.RunEq R (PySem.W.view R.prog [51]) hk ob 7000 loose w := by
  intro os
  kernel_rfl
end E

set_option autoImplicit true
set_option maxHeartbeats 4000000
set_option autoImplicit false
set_option linter.all false
/-! Plain laws 1: languages of patterns, spans (the law's own way of matching), position automata. No program here. -/
namespace EM
abbrev Lang := List Nat → Prop
inductive Star (L : Lang) : Lang
  | nil : Star L []
  | app {u v : List Nat} : L u → Star L v → Star L (u ++ v)
inductive Sg where
  | one | star | opt
  deriving DecidableEq
def sgL (L : Lang) : Sg → Lang
  | .one => L
  | .star => Star L
  | .opt => fun w => w = [] ∨ L w
section
variable {α : Type} (L : α → Lang)
def rowL : List (α × Sg) → Lang
  | [] => fun w => w = []
  | (x, s) :: r => fun w => ∃ u v, w = u ++ v ∧ sgL (L x) s u ∧ rowL r v
def patL (p : List (List (α × Sg))) : Lang := fun w => ∃ r, r ∈ p ∧ rowL L r w
end
inductive Atom where
  | sym (c : Nat) | dot
def Inner : Nat → Type
  | 0 => Atom
  | n + 1 => Atom ⊕ List (List (Inner n × Sg))
abbrev Pat (n : Nat) := List (List (Inner n × Sg))
def atomL (A : List Nat) : Atom → Lang
  | .sym c => fun w => w = [c]
  | .dot => fun w => ∃ c, c ∈ A ∧ w = [c]
def innL (A : List Nat) : (n : Nat) → Inner n → Lang
  | 0, x => atomL A x
  | _ + 1, .inl x => atomL A x
  | n + 1, .inr p => patL (innL A n) p

/-! ### rows from the right -/
section
variable {α : Type} {L : α → Lang}
theorem rowL_append (r1 r2 : List (α × Sg)) (w : List Nat) : rowL L (r1 ++ r2) w ↔ ∃ u v, w = u ++ v ∧ rowL L r1 u ∧ rowL L r2 v := by
  induction r1 generalizing w with
  | nil =>
    constructor
    · intro h; exact ⟨[], w, rfl, rfl, h⟩
    · rintro ⟨u, v, rfl, rfl, h⟩; exact h
  | cons x r ih =>
    obtain ⟨x, s⟩ := x
    constructor
    · rintro ⟨u, v, rfl, h1, h2⟩
      obtain ⟨v1, v2, rfl, h3, h4⟩ := (ih v).mp h2
      exact ⟨u ++ v1, v2, by simp, ⟨u, v1, rfl, h1, h3⟩, h4⟩
    · rintro ⟨u, v, rfl, ⟨u1, u2, rfl, h1, h2⟩, h3⟩
      exact ⟨u1, u2 ++ v, by simp, h1, (ih _).mpr ⟨u2, v, rfl, h2, h3⟩⟩
theorem rowL_one (x : α) (s : Sg) (w : List Nat) : rowL L [(x, s)] w ↔ sgL (L x) s w := by
  constructor
  · rintro ⟨u, v, rfl, h, rfl⟩; simpa using h
  · intro h; exact ⟨w, [], by simp, h, rfl⟩
theorem patL_nil (w : List Nat) : ¬ patL L [] w := by rintro ⟨r, h, _⟩; cases h
theorem patL_append (p q : List (List (α × Sg))) (w : List Nat) : patL L (p ++ q) w ↔ patL L p w ∨ patL L q w := by
  constructor
  · rintro ⟨r, h, k⟩
    rcases List.mem_append.mp h with h | h
    · exact .inl ⟨r, h, k⟩
    · exact .inr ⟨r, h, k⟩
  · rintro (⟨r, h, k⟩ | ⟨r, h, k⟩)
    · exact ⟨r, List.mem_append.mpr (.inl h), k⟩
    · exact ⟨r, List.mem_append.mpr (.inr h), k⟩
theorem patL_one (r : List (α × Sg)) (w : List Nat) : patL L [r] w ↔ rowL L r w := by
  constructor
  · rintro ⟨r', h, k⟩; cases List.mem_singleton.mp h; exact k
  · intro h; exact ⟨r, List.mem_singleton.mpr rfl, h⟩
end
theorem Star.snoc {L : Lang} {u v : List Nat} (h : Star L u) (k : L v) : Star L (u ++ v) := by
  induction h with
  | nil => have := Star.app k Star.nil; simpa using this
  | app h1 _ ih => rw [List.append_assoc]; exact .app h1 ih
theorem Star.one {L : Lang} {v : List Nat} (k : L v) : Star L v := by simpa using Star.app k Star.nil
theorem Star.append {L : Lang} {u v : List Nat} (h : Star L u) (k : Star L v) : Star L (u ++ v) := by
  induction h with
  | nil => exact k
  | app h1 _ ih => rw [List.append_assoc]; exact .app h1 ih
/-- a star's word that is not empty begins with one that is not empty -/
theorem Star.cases' {L : Lang} {w : List Nat} (h : Star L w) : w = [] ∨ ∃ u v, u ≠ [] ∧ w = u ++ v ∧ L u ∧ Star L v := by
  induction h with
  | nil => exact .inl rfl
  | @app u v h1 h2 ih =>
    by_cases e : u = []
    · subst e; simpa using ih
    · exact .inr ⟨u, v, e, rfl, h1, h2⟩

/-! ### letters -/
def Over (A : List Nat) (w : List Nat) : Prop := ∀ c, c ∈ w → c ∈ A
theorem over_app {A u v : List Nat} : Over A (u ++ v) ↔ Over A u ∧ Over A v := by
  constructor
  · intro h; exact ⟨fun c m => h c (List.mem_append.mpr (.inl m)), fun c m => h c (List.mem_append.mpr (.inr m))⟩
  · rintro ⟨h, k⟩ c m
    rcases List.mem_append.mp m with m | m
    · exact h c m
    · exact k c m

/-! ### spans: the part of w from i to j is in L -/
def Sp (L : Lang) (w : List Nat) (i j : Nat) : Prop := i ≤ j ∧ j ≤ w.length ∧ L ((w.drop i).take (j - i))
theorem seg_split (w : List Nat) {i k j : Nat} (h1 : i ≤ k) (h2 : k ≤ j) : (w.drop i).take (j - i) = (w.drop i).take (k - i) ++ (w.drop k).take (j - k) := by
  have e : w.drop k = (w.drop i).drop (k - i) := by rw [List.drop_drop]; congr 1; omega
  rw [e]
  have e2 : j - i = (k - i) + (j - k) := by omega
  rw [e2, List.take_add]
theorem seg_len (w : List Nat) {i j : Nat} (h1 : i ≤ j) (h2 : j ≤ w.length) : ((w.drop i).take (j - i)).length = j - i := by
  rw [List.length_take, List.length_drop]; omega
/-- a cut of the part is a place between -/
theorem seg_cut {w : List Nat} {i j : Nat} (h1 : i ≤ j) (h2 : j ≤ w.length) {u v : List Nat} (e : (w.drop i).take (j - i) = u ++ v) :
    ∃ k, i ≤ k ∧ k ≤ j ∧ u = (w.drop i).take (k - i) ∧ v = (w.drop k).take (j - k) := by
  have hl : u.length + v.length = j - i := by rw [← List.length_append, ← e, seg_len w h1 h2]
  refine ⟨i + u.length, by omega, by omega, ?_, ?_⟩
  · have e1 := seg_split w (i := i) (k := i + u.length) (j := j) (by omega) (by omega)
    rw [e] at e1
    have := List.append_inj e1 (by rw [seg_len w (by omega) (by omega)]; omega)
    exact this.1
  · have e1 := seg_split w (i := i) (k := i + u.length) (j := j) (by omega) (by omega)
    rw [e] at e1
    have := List.append_inj e1 (by rw [seg_len w (by omega) (by omega)]; omega)
    exact this.2
theorem sp_nil {w : List Nat} {i j : Nat} : Sp (fun w => w = []) w i j ↔ i = j ∧ j ≤ w.length := by
  constructor
  · rintro ⟨h1, h2, h3⟩
    have := seg_len w h1 h2
    rw [h3] at this
    simp at this
    exact ⟨by omega, h2⟩
  · rintro ⟨rfl, h⟩; exact ⟨Nat.le_refl _, h, by simp⟩
theorem sp_row_cons {α : Type} {L : α → Lang} {x : α} {s : Sg} {r : List (α × Sg)} {w : List Nat} {i j : Nat} :
    Sp (rowL L ((x, s) :: r)) w i j ↔ ∃ k, Sp (sgL (L x) s) w i k ∧ Sp (rowL L r) w k j := by
  constructor
  · rintro ⟨h1, h2, u, v, e, h3, h4⟩
    obtain ⟨k, k1, k2, rfl, rfl⟩ := seg_cut h1 h2 e
    exact ⟨k, ⟨k1, by omega, h3⟩, ⟨k2, h2, h4⟩⟩
  · rintro ⟨k, ⟨h1, h2, h3⟩, ⟨k1, k2, k3⟩⟩
    exact ⟨by omega, k2, _, _, seg_split w h1 k1, h3, k3⟩
theorem sp_pat {α : Type} {L : α → Lang} {p : List (List (α × Sg))} {w : List Nat} {i j : Nat} : Sp (patL L p) w i j ↔ ∃ r, r ∈ p ∧ Sp (rowL L r) w i j := by
  constructor
  · rintro ⟨h1, h2, r, hr, h3⟩; exact ⟨r, hr, h1, h2, h3⟩
  · rintro ⟨r, hr, h1, h2, h3⟩; exact ⟨h1, h2, r, hr, h3⟩
theorem sp_opt {L : Lang} {w : List Nat} {i j : Nat} (hi : i ≤ w.length) : Sp (sgL L .opt) w i j ↔ j = i ∨ Sp L w i j := by
  constructor
  · rintro ⟨h1, h2, h3 | h3⟩
    · have := seg_len w h1 h2
      rw [h3] at this
      simp at this
      left; omega
    · exact .inr ⟨h1, h2, h3⟩
  · rintro (rfl | ⟨h1, h2, h3⟩)
    · exact ⟨Nat.le_refl _, hi, .inl (by simp)⟩
    · exact ⟨h1, h2, .inr h3⟩
theorem sp_star_here {L : Lang} {w : List Nat} {i : Nat} (hi : i ≤ w.length) : Sp (Star L) w i i := ⟨Nat.le_refl _, hi, by simpa using Star.nil⟩
theorem sp_star_step {L : Lang} {w : List Nat} {i k j : Nat} (h : Sp (Star L) w i k) (h' : Sp L w k j) : Sp (Star L) w i j := by
  obtain ⟨h1, h2, h3⟩ := h
  obtain ⟨k1, k2, k3⟩ := h'
  exact ⟨by omega, k2, by rw [seg_split w h1 k1]; exact h3.snoc k3⟩
/-- what is closed under the steps has all that the star reaches -/
theorem sp_star_closed {L : Lang} {w : List Nat} (P : Nat → Prop) (hP : ∀ k j, P k → Sp L w k j → P j) : ∀ (x : List Nat), Star L x → ∀ i j, i ≤ j → j ≤ w.length → (w.drop i).take (j - i) = x → P i → P j := by
  intro x h
  induction h with
  | nil =>
    intro i j h1 h2 e hi
    have := seg_len w h1 h2
    rw [e] at this
    simp at this
    have : i = j := by omega
    exact this ▸ hi
  | @app u v hu hv ih =>
    intro i j h1 h2 e hi
    obtain ⟨k, k1, k2, e1, e2⟩ := seg_cut h1 h2 e
    exact ih k j k2 h2 e2.symm (hP i k hi ⟨k1, by omega, e1 ▸ hu⟩)
theorem sp_whole {L : Lang} {w : List Nat} : Sp L w 0 w.length ↔ L w := by
  unfold Sp
  simp
theorem sp_atom {A : List Nat} {x : Atom} {w : List Nat} {i j : Nat} (hw : Over A w) :
    Sp (atomL A x) w i j ↔ j = i + 1 ∧ ∃ c, w[i]? = some c ∧ (x = .dot ∨ x = .sym c) := by
  constructor
  · rintro ⟨h1, h2, h3⟩
    have hl := seg_len w h1 h2
    have h4 : ∃ c, (w.drop i).take (j - i) = [c] ∧ (x = .dot ∨ x = .sym c) := by
      cases x with
      | sym c => exact ⟨c, h3, .inr rfl⟩
      | dot => obtain ⟨c, _, e⟩ := h3; exact ⟨c, e, .inl rfl⟩
    obtain ⟨c, e, hx⟩ := h4
    rw [e] at hl
    simp at hl
    refine ⟨by omega, c, ?_, hx⟩
    have e1 : ((w.drop i).take (j - i))[0]? = some c := by rw [e]; rfl
    rw [List.getElem?_take, if_pos (by omega), List.getElem?_drop] at e1
    simpa using e1
  · rintro ⟨rfl, c, hc, hx⟩
    obtain ⟨hi, e⟩ := List.getElem?_eq_some_iff.mp hc
    have e1 : (w.drop i).take (i + 1 - i) = [c] := by
      have : i + 1 - i = 1 := by omega
      rw [this, List.drop_eq_getElem_cons hi, e]
      rfl
    refine ⟨by omega, by omega, ?_⟩
    rw [e1]
    rcases hx with rfl | rfl
    · exact ⟨c, hw c (List.mem_of_getElem? hc), rfl⟩
    · exact rfl

/-! ### position automata -/
section
variable (lt fw : Nat → List Nat)
def Run (La : List Nat) : List Nat → Nat → Prop
  | [], p => p ∈ La
  | a :: w, p => ∃ q, q ∈ fw p ∧ a ∈ lt q ∧ Run La w q
def Acc (b : Bool) (F La : List Nat) : List Nat → Prop
  | [] => b = true
  | a :: w => ∃ q, q ∈ F ∧ a ∈ lt q ∧ Run lt fw La w q
/-- the places m + 1 .. m' with the letters lt and the followers fw are an automaton of L -/
structure Gl (m m' : Nat) (b : Bool) (F La : List Nat) (L : Lang) : Prop where
  le : m ≤ m'
  fin : ∀ p, p ∈ F → m < p ∧ p ≤ m'
  lin : ∀ p, p ∈ La → m < p ∧ p ≤ m'
  fnd : F.Nodup
  lnd : La.Nodup
  win : ∀ p, m < p → p ≤ m' → ∀ q, q ∈ fw p → m < q ∧ q ≤ m'
  wnd : ∀ p, m < p → p ≤ m' → (fw p).Nodup
  use : ∀ p, m < p → p ≤ m' → ∃ w, Run lt fw La w p
  lang : ∀ w, L w ↔ Acc lt fw b F La w
end
section
variable {lt fw lt' fw' : Nat → List Nat} {m m' m1 m2 : Nat} {b b1 b2 : Bool} {F La F1 La1 F2 La2 : List Nat} {L L1 L2 : Lang}
theorem run_mono {lt fw fw' : Nat → List Nat} {La La' : List Nat} (hf : ∀ p q, q ∈ fw p → q ∈ fw' p) (hL : ∀ p, p ∈ La → p ∈ La') : ∀ w p, Run lt fw La w p → Run lt fw' La' w p := by
  intro w
  induction w with
  | nil => intro p h; exact hL p h
  | cons a w ih => rintro p ⟨q, hq, ha, hr⟩; exact ⟨q, hf p q hq, ha, ih q hr⟩
theorem run_app {lt fw : Nat → List Nat} {La La' : List Nat} {v : List Nat} (h : ∀ p, p ∈ La → Run lt fw La' v p) : ∀ w p, Run lt fw La w p → Run lt fw La' (w ++ v) p := by
  intro w
  induction w with
  | nil => intro p k; exact h p k
  | cons a w ih => rintro p ⟨q, hq, ha, hr⟩; exact ⟨q, hq, ha, ih q hr⟩
theorem run_congr (hl : ∀ p, m < p → p ≤ m' → lt' p = lt p) (hf : ∀ p, m < p → p ≤ m' → fw' p = fw p) (win : ∀ p, m < p → p ≤ m' → ∀ q, q ∈ fw p → m < q ∧ q ≤ m') :
    ∀ w p, m < p → p ≤ m' → (Run lt' fw' La w p ↔ Run lt fw La w p) := by
  intro w
  induction w with
  | nil => intro p _ _; exact Iff.rfl
  | cons a w ih =>
    intro p h1 h2
    constructor
    · rintro ⟨q, hq, ha, hr⟩
      rw [hf p h1 h2] at hq
      obtain ⟨q1, q2⟩ := win p h1 h2 q hq
      exact ⟨q, hq, hl q q1 q2 ▸ ha, (ih q q1 q2).mp hr⟩
    · rintro ⟨q, hq, ha, hr⟩
      obtain ⟨q1, q2⟩ := win p h1 h2 q hq
      exact ⟨q, by rw [hf p h1 h2]; exact hq, by rw [hl q q1 q2]; exact ha, (ih q q1 q2).mpr hr⟩
theorem acc_congr (hl : ∀ p, m < p → p ≤ m' → lt' p = lt p) (hf : ∀ p, m < p → p ≤ m' → fw' p = fw p) (win : ∀ p, m < p → p ≤ m' → ∀ q, q ∈ fw p → m < q ∧ q ≤ m') (fin : ∀ p, p ∈ F → m < p ∧ p ≤ m') :
    ∀ w, Acc lt' fw' b F La w ↔ Acc lt fw b F La w := by
  intro w
  cases w with
  | nil => exact Iff.rfl
  | cons a w =>
    constructor
    · rintro ⟨q, hq, ha, hr⟩
      obtain ⟨q1, q2⟩ := fin q hq
      exact ⟨q, hq, hl q q1 q2 ▸ ha, (run_congr hl hf win w q q1 q2).mp hr⟩
    · rintro ⟨q, hq, ha, hr⟩
      obtain ⟨q1, q2⟩ := fin q hq
      exact ⟨q, hq, by rw [hl q q1 q2]; exact ha, (run_congr hl hf win w q q1 q2).mpr hr⟩
theorem Gl.congr (g : Gl lt fw m m' b F La L) (hl : ∀ p, m < p → p ≤ m' → lt' p = lt p) (hf : ∀ p, m < p → p ≤ m' → fw' p = fw p) : Gl lt' fw' m m' b F La L :=
  ⟨g.le, g.fin, g.lin, g.fnd, g.lnd, fun p h1 h2 => by rw [hf p h1 h2]; exact g.win p h1 h2, fun p h1 h2 => by rw [hf p h1 h2]; exact g.wnd p h1 h2,
    fun p h1 h2 => by obtain ⟨w, h⟩ := g.use p h1 h2; exact ⟨w, (run_congr hl hf g.win w p h1 h2).mpr h⟩, fun w => (g.lang w).trans (acc_congr hl hf g.win g.fin w).symm⟩
theorem Gl.of_iff {L' : Lang} (g : Gl lt fw m m' b F La L) (h : ∀ w, L' w ↔ L w) : Gl lt fw m m' b F La L' :=
  ⟨g.le, g.fin, g.lin, g.fnd, g.lnd, g.win, g.wnd, g.use, fun w => (h w).trans (g.lang w)⟩
theorem gl_atom {A cs : List Nat} {x : Atom} (hx : ∀ c, atomL A x [c] ↔ c ∈ cs) (h0 : lt (m + 1) = cs) (h1 : fw (m + 1) = []) : Gl lt fw m (m + 1) false [m + 1] [m + 1] (atomL A x) := by
  refine ⟨Nat.le_succ _, fun p h => ?_, fun p h => ?_, by simp, by simp, fun p h1' h2 => ?_, fun p h1' h2 => ?_, fun p h1' h2 => ⟨[], List.mem_singleton.mpr (by omega)⟩, fun w => ?_⟩
  · rw [List.mem_singleton] at h; omega
  · rw [List.mem_singleton] at h; omega
  · have : p = m + 1 := by omega
    subst this; rw [h1]; intro q hq; cases hq
  · have : p = m + 1 := by omega
    subst this; rw [h1]; exact List.nodup_nil
  · have one : ∀ w, atomL A x w → ∃ c, w = [c] := by
      intro w h
      cases x with
      | sym c => exact ⟨c, h⟩
      | dot => obtain ⟨c, _, e⟩ := h; exact ⟨c, e⟩
    constructor
    · intro h
      obtain ⟨c, rfl⟩ := one w h
      exact ⟨m + 1, by simp, by rw [h0]; exact (hx c).mp h, by show m + 1 ∈ [m + 1]; simp⟩
    · intro h
      cases w with
      | nil => cases h
      | cons a w =>
        obtain ⟨q, hq, ha, hr⟩ := h
        rw [List.mem_singleton] at hq
        subst hq
        cases w with
        | nil => rw [h0] at ha; exact (hx a).mpr ha
        | cons c w => obtain ⟨q, hq, _⟩ := hr; rw [h1] at hq; cases hq
theorem gl_opt (g : Gl lt fw m m' b F La L) : Gl lt fw m m' true F La (sgL L .opt) := by
  refine ⟨g.le, g.fin, g.lin, g.fnd, g.lnd, g.win, g.wnd, g.use, fun w => ?_⟩
  cases w with
  | nil => exact ⟨fun _ => rfl, fun _ => .inl rfl⟩
  | cons a w =>
    constructor
    · rintro (h | h)
      · cases h
      · exact (g.lang _).mp h
    · intro h; exact .inr ((g.lang (a :: w)).mpr h)
/-- followers joined: each of La also has F behind it -/
def Joined (fw fw' : Nat → List Nat) (F La : List Nat) : Prop := (∀ p q, q ∈ fw' p ↔ q ∈ fw p ∨ (p ∈ La ∧ q ∈ F)) ∧ ∀ p, (fw p).Nodup → (fw' p).Nodup
theorem gl_star (g : Gl lt fw m m' b F La L) (j : Joined fw fw' F La) : Gl lt fw' m m' true F La (Star L) := by
  have key : ∀ w p, m < p → p ≤ m' → (Run lt fw' La w p ↔ ∃ u v, w = u ++ v ∧ Run lt fw La u p ∧ Star L v) := by
    have aux : ∀ n w p, w.length ≤ n → m < p → p ≤ m' → (Run lt fw' La w p ↔ ∃ u v, w = u ++ v ∧ Run lt fw La u p ∧ Star L v) := by
      intro n
      induction n with
      | zero =>
        intro w p hn h1 h2
        have : w = [] := List.eq_nil_of_length_eq_zero (by omega)
        subst this
        constructor
        · intro h; exact ⟨[], [], rfl, h, .nil⟩
        · rintro ⟨u, v, e, hr, _⟩
          have := List.append_eq_nil_iff.mp e.symm
          rw [this.1] at hr
          exact hr
      | succ n ih =>
        intro w p hn h1 h2
        cases w with
        | nil =>
          constructor
          · intro h; exact ⟨[], [], rfl, h, .nil⟩
          · rintro ⟨u, v, e, hr, _⟩
            have := List.append_eq_nil_iff.mp e.symm
            rw [this.1] at hr
            exact hr
        | cons a w =>
          have hw : w.length ≤ n := by simpa using hn
          constructor
          · rintro ⟨q, hq, ha, hr⟩
            rcases (j.1 p q).mp hq with hq | ⟨hp, hq⟩
            · obtain ⟨q1, q2⟩ := g.win p h1 h2 q hq
              obtain ⟨u, v, rfl, hu, hv⟩ := (ih w q hw q1 q2).mp hr
              exact ⟨a :: u, v, rfl, ⟨q, hq, ha, hu⟩, hv⟩
            · obtain ⟨q1, q2⟩ := g.fin q hq
              obtain ⟨u, v, rfl, hu, hv⟩ := (ih w q hw q1 q2).mp hr
              refine ⟨[], a :: (u ++ v), rfl, hp, ?_⟩
              exact Star.app (u := a :: u) ((g.lang _).mpr ⟨q, hq, ha, hu⟩) hv
          · rintro ⟨u, v, e, hu, hv⟩
            cases u with
            | cons c u =>
              obtain ⟨rfl, rfl⟩ : a = c ∧ w = u ++ v := by simpa using e
              obtain ⟨q, hq, ha, hr⟩ := hu
              obtain ⟨q1, q2⟩ := g.win p h1 h2 q hq
              exact ⟨q, (j.1 p q).mpr (.inl hq), ha, (ih _ q hw q1 q2).mpr ⟨u, v, rfl, hr, hv⟩⟩
            | nil =>
              have e' : a :: w = v := e
              subst e'
              rcases hv.cases' with z | ⟨x, y, hx, e2, hL, hy⟩
              · cases z
              · cases x with
                | nil => exact absurd rfl hx
                | cons c x =>
                  obtain ⟨rfl, rfl⟩ : a = c ∧ w = x ++ y := by simpa using e2
                  obtain ⟨q, hq, ha, hr⟩ := (g.lang _).mp hL
                  obtain ⟨q1, q2⟩ := g.fin q hq
                  exact ⟨q, (j.1 p q).mpr (.inr ⟨hu, hq⟩), ha, (ih _ q hw q1 q2).mpr ⟨x, y, rfl, hr, hy⟩⟩
    exact fun w p => aux w.length w p (Nat.le_refl _)
  refine ⟨g.le, g.fin, g.lin, g.fnd, g.lnd, fun p h1 h2 q hq => ?_, fun p h1 h2 => j.2 p (g.wnd p h1 h2), fun p h1 h2 => ?_, fun w => ?_⟩
  · rcases (j.1 p q).mp hq with hq | ⟨_, hq⟩
    · exact g.win p h1 h2 q hq
    · exact g.fin q hq
  · obtain ⟨w, h⟩ := g.use p h1 h2
    exact ⟨w, run_mono (fun p q h => (j.1 p q).mpr (.inl h)) (fun _ h => h) w p h⟩
  · cases w with
    | nil => exact ⟨fun _ => rfl, fun _ => .nil⟩
    | cons a w =>
      constructor
      · intro h
        rcases h.cases' with z | ⟨x, y, hx, e2, hL, hy⟩
        · cases z
        · cases x with
          | nil => exact absurd rfl hx
          | cons c x =>
            obtain ⟨rfl, rfl⟩ : a = c ∧ w = x ++ y := by simpa using e2
            obtain ⟨q, hq, ha, hr⟩ := (g.lang _).mp hL
            obtain ⟨q1, q2⟩ := g.fin q hq
            exact ⟨q, hq, ha, (key _ q q1 q2).mpr ⟨x, y, rfl, hr, hy⟩⟩
      · rintro ⟨q, hq, ha, hr⟩
        obtain ⟨q1, q2⟩ := g.fin q hq
        obtain ⟨u, v, rfl, hu, hv⟩ := (key _ q q1 q2).mp hr
        exact Star.app (u := a :: u) ((g.lang _).mpr ⟨q, hq, ha, hu⟩) hv
theorem gl_nil : Gl lt fw m m true [] [] (fun w => w = []) := by
  refine ⟨Nat.le_refl _, fun p h => (by cases h), fun p h => (by cases h), List.nodup_nil, List.nodup_nil, fun p h1 h2 => by omega, fun p h1 h2 => by omega, fun p h1 h2 => by omega, fun w => ?_⟩
  cases w with
  | nil => exact ⟨fun _ => rfl, fun _ => rfl⟩
  | cons a w => exact ⟨fun h => (by cases h), fun ⟨q, hq, _⟩ => (by cases hq)⟩
theorem gl_none : Gl lt fw m m false [] [] (fun _ => False) := by
  refine ⟨Nat.le_refl _, fun p h => (by cases h), fun p h => (by cases h), List.nodup_nil, List.nodup_nil, fun p h1 h2 => by omega, fun p h1 h2 => by omega, fun p h1 h2 => by omega, fun w => ?_⟩
  cases w with
  | nil => exact ⟨fun h => h.elim, fun h => (by cases h)⟩
  | cons a w => exact ⟨fun h => h.elim, fun ⟨q, hq, _⟩ => by cases hq⟩
theorem nodup_app2 {l1 l2 : List Nat} (h1 : l1.Nodup) (h2 : l2.Nodup) (d : ∀ p, p ∈ l1 → p ∈ l2 → False) : (l1 ++ l2).Nodup :=
  List.nodup_append.mpr ⟨h1, h2, fun a ha b hb e => d a ha (e ▸ hb)⟩
/-- one behind the other -/
theorem gl_cat (g1 : Gl lt fw m m1 b1 F1 La1 L1) (g2 : Gl lt fw m1 m2 b2 F2 La2 L2) (j : Joined fw fw' F2 La1) (n2 : ∃ w, L2 w) :
    Gl lt fw' m m2 (b1 && b2) (if b1 = true then F1 ++ F2 else F1) (if b2 = true then La1 ++ La2 else La2) (fun w => ∃ u v, w = u ++ v ∧ L1 u ∧ L2 v) := by
  have le1 := g1.le
  have le2 := g2.le
  have mF : ∀ p, p ∈ (if b1 = true then F1 ++ F2 else F1) ↔ p ∈ F1 ∨ (b1 = true ∧ p ∈ F2) := by
    intro p
    cases b1 <;> simp
  have mL : ∀ p, p ∈ (if b2 = true then La1 ++ La2 else La2) ↔ p ∈ La2 ∨ (b2 = true ∧ p ∈ La1) := by
    intro p
    cases b2 <;> simp [or_comm]
  have fw2 : ∀ p, m1 < p → p ≤ m2 → ∀ q, q ∈ fw' p ↔ q ∈ fw p := by
    intro p h1 h2 q
    rw [j.1 p q]
    constructor
    · rintro (h | ⟨h, _⟩)
      · exact h
      · have := g1.lin p h; omega
    · exact .inl
  have run2 : ∀ w p, m1 < p → p ≤ m2 → (Run lt fw' (if b2 = true then La1 ++ La2 else La2) w p ↔ Run lt fw La2 w p) := by
    intro w
    induction w with
    | nil =>
      intro p h1 h2
      show p ∈ _ ↔ p ∈ _
      rw [mL]
      constructor
      · rintro (h | ⟨_, h⟩)
        · exact h
        · have := g1.lin p h; omega
      · exact .inl
    | cons a w ih =>
      intro p h1 h2
      constructor
      · rintro ⟨q, hq, ha, hr⟩
        have hq' := (fw2 p h1 h2 q).mp hq
        obtain ⟨q1, q2⟩ := g2.win p h1 h2 q hq'
        exact ⟨q, hq', ha, (ih q q1 q2).mp hr⟩
      · rintro ⟨q, hq, ha, hr⟩
        obtain ⟨q1, q2⟩ := g2.win p h1 h2 q hq
        exact ⟨q, (fw2 p h1 h2 q).mpr hq, ha, (ih q q1 q2).mpr hr⟩
  have run1 : ∀ w p, m < p → p ≤ m1 → (Run lt fw' (if b2 = true then La1 ++ La2 else La2) w p ↔ ∃ u v, w = u ++ v ∧ Run lt fw La1 u p ∧ L2 v) := by
    intro w
    induction w with
    | nil =>
      intro p h1 h2
      show p ∈ _ ↔ _
      rw [mL]
      constructor
      · rintro (h | ⟨hb, h⟩)
        · have := g2.lin p h; omega
        · exact ⟨[], [], rfl, h, (g2.lang []).mpr hb⟩
      · rintro ⟨u, v, e, hu, hv⟩
        have := List.append_eq_nil_iff.mp e.symm
        rw [this.1] at hu
        rw [this.2] at hv
        exact .inr ⟨(g2.lang []).mp hv, hu⟩
    | cons a w ih =>
      intro p h1 h2
      constructor
      · rintro ⟨q, hq, ha, hr⟩
        rcases (j.1 p q).mp hq with hq | ⟨hp, hq⟩
        · obtain ⟨q1, q2⟩ := g1.win p h1 h2 q hq
          obtain ⟨u, v, rfl, hu, hv⟩ := (ih q q1 q2).mp hr
          exact ⟨a :: u, v, rfl, ⟨q, hq, ha, hu⟩, hv⟩
        · obtain ⟨q1, q2⟩ := g2.fin q hq
          exact ⟨[], a :: w, rfl, hp, (g2.lang _).mpr ⟨q, hq, ha, (run2 w q q1 q2).mp hr⟩⟩
      · rintro ⟨u, v, e, hu, hv⟩
        cases u with
        | cons c u =>
          obtain ⟨rfl, rfl⟩ : a = c ∧ w = u ++ v := by simpa using e
          obtain ⟨q, hq, ha, hr⟩ := hu
          obtain ⟨q1, q2⟩ := g1.win p h1 h2 q hq
          exact ⟨q, (j.1 p q).mpr (.inl hq), ha, (ih q q1 q2).mpr ⟨u, v, rfl, hr, hv⟩⟩
        | nil =>
          have e' : a :: w = v := e
          subst e'
          obtain ⟨q, hq, ha, hr⟩ := (g2.lang _).mp hv
          obtain ⟨q1, q2⟩ := g2.fin q hq
          exact ⟨q, (j.1 p q).mpr (.inr ⟨hu, hq⟩), ha, (run2 w q q1 q2).mpr hr⟩
  refine ⟨by omega, fun p h => ?_, fun p h => ?_, ?_, ?_, fun p h1 h2 q hq => ?_, fun p h1 h2 => ?_, fun p h1 h2 => ?_, fun w => ?_⟩
  · rcases (mF p).mp h with h | ⟨_, h⟩
    · have := g1.fin p h; omega
    · have := g2.fin p h; omega
  · rcases (mL p).mp h with h | ⟨_, h⟩
    · have := g2.lin p h; omega
    · have := g1.lin p h; omega
  · split
    · exact nodup_app2 g1.fnd g2.fnd fun p h1 h2 => by have := g1.fin p h1; have := g2.fin p h2; omega
    · exact g1.fnd
  · split
    · exact nodup_app2 g1.lnd g2.lnd fun p h1 h2 => by have := g1.lin p h1; have := g2.lin p h2; omega
    · exact g2.lnd
  · by_cases hp : p ≤ m1
    · rcases (j.1 p q).mp hq with hq | ⟨_, hq⟩
      · have := g1.win p h1 hp q hq; omega
      · have := g2.fin q hq; omega
    · have := g2.win p (by omega) h2 q ((fw2 p (by omega) h2 q).mp hq); omega
  · by_cases hp : p ≤ m1
    · exact j.2 p (g1.wnd p h1 hp)
    · exact j.2 p (g2.wnd p (by omega) h2)
  · by_cases hp : p ≤ m1
    · obtain ⟨u, hu⟩ := g1.use p h1 hp
      obtain ⟨v, hv⟩ := n2
      exact ⟨u ++ v, (run1 _ p h1 hp).mpr ⟨u, v, rfl, hu, hv⟩⟩
    · obtain ⟨w, h⟩ := g2.use p (by omega) h2
      exact ⟨w, (run2 _ p (by omega) h2).mpr h⟩
  · cases w with
    | nil =>
      constructor
      · rintro ⟨u, v, e, hu, hv⟩
        have := List.append_eq_nil_iff.mp e.symm
        rw [this.1] at hu
        rw [this.2] at hv
        have h1 : b1 = true := (g1.lang []).mp hu
        have h2 : b2 = true := (g2.lang []).mp hv
        show (b1 && b2) = true
        rw [h1, h2]; rfl
      · intro h
        have h : (b1 && b2) = true := h
        rw [Bool.and_eq_true] at h
        exact ⟨[], [], rfl, (g1.lang []).mpr h.1, (g2.lang []).mpr h.2⟩
    | cons a w =>
      constructor
      · rintro ⟨u, v, e, hu, hv⟩
        cases u with
        | cons c u =>
          obtain ⟨rfl, rfl⟩ : a = c ∧ w = u ++ v := by simpa using e
          obtain ⟨q, hq, ha, hr⟩ := (g1.lang _).mp hu
          obtain ⟨q1, q2⟩ := g1.fin q hq
          exact ⟨q, (mF q).mpr (.inl hq), ha, (run1 _ q q1 q2).mpr ⟨u, v, rfl, hr, hv⟩⟩
        | nil =>
          have e' : a :: w = v := e
          subst e'
          obtain ⟨q, hq, ha, hr⟩ := (g2.lang _).mp hv
          obtain ⟨q1, q2⟩ := g2.fin q hq
          exact ⟨q, (mF q).mpr (.inr ⟨(g1.lang []).mp hu, hq⟩), ha, (run2 w q q1 q2).mpr hr⟩
      · rintro ⟨q, hq, ha, hr⟩
        rcases (mF q).mp hq with hq | ⟨hb, hq⟩
        · obtain ⟨q1, q2⟩ := g1.fin q hq
          obtain ⟨u, v, rfl, hu, hv⟩ := (run1 w q q1 q2).mp hr
          exact ⟨a :: u, v, rfl, (g1.lang _).mpr ⟨q, hq, ha, hu⟩, hv⟩
        · obtain ⟨q1, q2⟩ := g2.fin q hq
          exact ⟨[], a :: w, rfl, (g1.lang []).mpr hb, (g2.lang _).mpr ⟨q, hq, ha, (run2 w q q1 q2).mp hr⟩⟩
/-- one of two -/
theorem gl_or (g1 : Gl lt fw m m1 b1 F1 La1 L1) (g2 : Gl lt fw m1 m2 b2 F2 La2 L2) : Gl lt fw m m2 (b1 || b2) (F1 ++ F2) (La1 ++ La2) (fun w => L1 w ∨ L2 w) := by
  have le1 := g1.le
  have le2 := g2.le
  have run1 : ∀ w p, m < p → p ≤ m1 → (Run lt fw (La1 ++ La2) w p ↔ Run lt fw La1 w p) := by
    intro w
    induction w with
    | nil =>
      intro p h1 h2
      show p ∈ La1 ++ La2 ↔ p ∈ La1
      rw [List.mem_append]
      constructor
      · rintro (h | h)
        · exact h
        · have := g2.lin p h; omega
      · exact .inl
    | cons a w ih =>
      intro p h1 h2
      constructor
      · rintro ⟨q, hq, ha, hr⟩
        obtain ⟨q1, q2⟩ := g1.win p h1 h2 q hq
        exact ⟨q, hq, ha, (ih q q1 q2).mp hr⟩
      · rintro ⟨q, hq, ha, hr⟩
        obtain ⟨q1, q2⟩ := g1.win p h1 h2 q hq
        exact ⟨q, hq, ha, (ih q q1 q2).mpr hr⟩
  have run2 : ∀ w p, m1 < p → p ≤ m2 → (Run lt fw (La1 ++ La2) w p ↔ Run lt fw La2 w p) := by
    intro w
    induction w with
    | nil =>
      intro p h1 h2
      show p ∈ La1 ++ La2 ↔ p ∈ La2
      rw [List.mem_append]
      constructor
      · rintro (h | h)
        · have := g1.lin p h; omega
        · exact h
      · exact .inr
    | cons a w ih =>
      intro p h1 h2
      constructor
      · rintro ⟨q, hq, ha, hr⟩
        obtain ⟨q1, q2⟩ := g2.win p h1 h2 q hq
        exact ⟨q, hq, ha, (ih q q1 q2).mp hr⟩
      · rintro ⟨q, hq, ha, hr⟩
        obtain ⟨q1, q2⟩ := g2.win p h1 h2 q hq
        exact ⟨q, hq, ha, (ih q q1 q2).mpr hr⟩
  refine ⟨by omega, fun p h => ?_, fun p h => ?_, ?_, ?_, fun p h1 h2 q hq => ?_, fun p h1 h2 => ?_, fun p h1 h2 => ?_, fun w => ?_⟩
  · rcases List.mem_append.mp h with h | h
    · have := g1.fin p h; omega
    · have := g2.fin p h; omega
  · rcases List.mem_append.mp h with h | h
    · have := g1.lin p h; omega
    · have := g2.lin p h; omega
  · exact nodup_app2 g1.fnd g2.fnd fun p h1 h2 => by have := g1.fin p h1; have := g2.fin p h2; omega
  · exact nodup_app2 g1.lnd g2.lnd fun p h1 h2 => by have := g1.lin p h1; have := g2.lin p h2; omega
  · by_cases hp : p ≤ m1
    · have := g1.win p h1 hp q hq; omega
    · have := g2.win p (by omega) h2 q hq; omega
  · by_cases hp : p ≤ m1
    · exact g1.wnd p h1 hp
    · exact g2.wnd p (by omega) h2
  · by_cases hp : p ≤ m1
    · obtain ⟨w, h⟩ := g1.use p h1 hp
      exact ⟨w, (run1 _ p h1 hp).mpr h⟩
    · obtain ⟨w, h⟩ := g2.use p (by omega) h2
      exact ⟨w, (run2 _ p (by omega) h2).mpr h⟩
  · cases w with
    | nil =>
      show _ ↔ (b1 || b2) = true
      rw [Bool.or_eq_true, g1.lang, g2.lang]
      exact Iff.rfl
    | cons a w =>
      rw [g1.lang, g2.lang]
      constructor
      · rintro (⟨q, hq, ha, hr⟩ | ⟨q, hq, ha, hr⟩)
        · obtain ⟨q1, q2⟩ := g1.fin q hq
          exact ⟨q, List.mem_append.mpr (.inl hq), ha, (run1 w q q1 q2).mpr hr⟩
        · obtain ⟨q1, q2⟩ := g2.fin q hq
          exact ⟨q, List.mem_append.mpr (.inr hq), ha, (run2 w q q1 q2).mpr hr⟩
      · rintro ⟨q, hq, ha, hr⟩
        rcases List.mem_append.mp hq with hq | hq
        · obtain ⟨q1, q2⟩ := g1.fin q hq
          exact .inl ⟨q, hq, ha, (run1 w q q1 q2).mp hr⟩
        · obtain ⟨q1, q2⟩ := g2.fin q hq
          exact .inr ⟨q, hq, ha, (run2 w q q1 q2).mp hr⟩
end
end EM

set_option autoImplicit true
set_option maxHeartbeats 4000000
set_option autoImplicit false
set_option linter.all false
/-! Plain laws 2: machines as lists of lanes; scanned machines; one least machine only. No program here. -/
namespace EM
abbrev Lane := Nat × Nat × Nat
/-- the words in the future of a place -/
def Fu (ls : List Lane) (en : List Nat) : List Nat → Nat → Prop
  | [], p => p ∈ en
  | c :: w, p => ∃ q, (p, c, q) ∈ ls ∧ Fu ls en w q
def Lt (A : List Nat) (l l' : Lane) : Prop := l.1 < l'.1 ∨ (l.1 = l'.1 ∧ A.idxOf l.2.1 < A.idxOf l'.2.1)
/-- the lanes of places 0 .. n-1 in the order of scanning -/
structure Sc (A : List Nat) (n : Nat) (ls : List Lane) : Prop where
  pos : 0 < n
  bnd : ∀ l, l ∈ ls → l.1 < n ∧ l.2.1 ∈ A ∧ l.2.2 < n
  srt : ls.Pairwise (Lt A)
  src : ∀ pre l post, ls = pre ++ l :: post → l.1 = 0 ∨ ∃ l', l' ∈ pre ∧ l'.2.2 = l.1
  tgt : ∀ pre l post, ls = pre ++ l :: post → ∀ t, 0 < t → t < l.2.2 → ∃ l', l' ∈ pre ∧ l'.2.2 = t
  all : ∀ t, 0 < t → t < n → ∃ l, l ∈ ls ∧ l.2.2 = t
/-- a machine in the numbers of scanning, without idle places -/
structure Form (A : List Nat) (n : Nat) (ls : List Lane) (en : List Nat) : Prop where
  sc : Sc A n ls
  ens : en.Pairwise (· < ·)
  enb : ∀ e, e ∈ en → e < n
  use : ∀ p, p < n → ∃ w, Fu ls en w p
def Red (n : Nat) (ls : List Lane) (en : List Nat) : Prop := ∀ p q, p < n → q < n → (∀ w, Fu ls en w p ↔ Fu ls en w q) → p = q

theorem idx_inj {A : List Nat} {c d : Nat} (hc : c ∈ A) (h : A.idxOf c = A.idxOf d) : c = d := by
  have h1 : A.idxOf c < A.length := List.idxOf_lt_length_of_mem hc
  have h2 : A.idxOf d < A.length := h ▸ h1
  have e1 : A[A.idxOf c] = c := List.getElem_idxOf h1
  have e2 : A[A.idxOf d] = d := List.getElem_idxOf h2
  rw [← e1, ← e2]
  congr 1
theorem lt_irr {A : List Nat} {l : Lane} : ¬ Lt A l l := by
  rintro (h | ⟨_, h⟩) <;> omega
theorem lt_trans {A : List Nat} {a b c : Lane} (h : Lt A a b) (k : Lt A b c) : Lt A a c := by
  rcases h with h | ⟨h1, h2⟩ <;> rcases k with k | ⟨k1, k2⟩
  · exact .inl (by omega)
  · exact .inl (by omega)
  · exact .inl (by omega)
  · exact .inr ⟨by omega, by omega⟩
theorem srt_det {A : List Nat} {ls : List Lane} (h : ls.Pairwise (Lt A)) {p c q q' : Nat} (h1 : (p, c, q) ∈ ls) (h2 : (p, c, q') ∈ ls) : q = q' := by
  induction ls with
  | nil => cases h1
  | cons l r ih =>
    rw [List.pairwise_cons] at h
    rcases List.mem_cons.mp h1 with e1 | m1 <;> rcases List.mem_cons.mp h2 with e2 | m2
    · rw [← e1] at e2; injection e2 with _ e2; injection e2 with _ e2; exact e2.symm
    · subst e1
      rcases h.1 _ m2 with k | ⟨_, k⟩ <;> simp at k
    · subst e2
      rcases h.1 _ m1 with k | ⟨_, k⟩ <;> simp at k
    · exact ih h.2 m1 m2
theorem sorted_ext {l1 l2 : List Nat} (h1 : l1.Pairwise (· < ·)) (h2 : l2.Pairwise (· < ·)) (h : ∀ x, x ∈ l1 ↔ x ∈ l2) : l1 = l2 := by
  induction l1 generalizing l2 with
  | nil =>
    cases l2 with
    | nil => rfl
    | cons b r => exact absurd ((h b).mpr (List.mem_cons_self ..)) (by simp)
  | cons a r ih =>
    cases l2 with
    | nil => exact absurd ((h a).mp (List.mem_cons_self ..)) (by simp)
    | cons b s =>
      rw [List.pairwise_cons] at h1 h2
      have ab : a = b := by
        rcases List.mem_cons.mp ((h a).mp (List.mem_cons_self ..)) with e | m
        · exact e
        · rcases List.mem_cons.mp ((h b).mpr (List.mem_cons_self ..)) with e | m'
          · exact e.symm
          · have := h1.1 b m'; have := h2.1 a m; omega
      subst ab
      congr 1
      apply ih h1.2 h2.2
      intro x
      constructor
      · intro m
        rcases List.mem_cons.mp ((h x).mp (List.mem_cons_of_mem _ m)) with e | m'
        · subst e; have := h1.1 x m; omega
        · exact m'
      · intro m
        rcases List.mem_cons.mp ((h x).mpr (List.mem_cons_of_mem _ m)) with e | m'
        · subst e; have := h2.1 x m; omega
        · exact m'
theorem nodup_of_lt {l : List Nat} (h : l.Pairwise (· < ·)) : l.Nodup := h.imp (fun {a b} k e => by omega)

/-! ### one least machine -/
section
variable {A : List Nat} {n1 n2 : Nat} {ls1 ls2 : List Lane} {en1 en2 : List Nat}
theorem no_lane {pre rest : List Lane} {l : Lane} (hs : (pre ++ rest).Pairwise (Lt A)) (hp : ∀ x, x ∈ pre → Lt A x l) (hr : ∀ x, x ∈ rest → Lt A l x) (q : Nat) :
    (l.1, l.2.1, q) ∉ pre ++ rest := by
  intro m
  rcases List.mem_append.mp m with m | m
  · rcases hp _ m with k | ⟨_, k⟩ <;> simp at k
  · rcases hr _ m with k | ⟨_, k⟩ <;> simp at k
theorem fut_step {ls : List Lane} {en : List Nat} (hs : ls.Pairwise (Lt A)) {p c q : Nat} (h : (p, c, q) ∈ ls) (w : List Nat) : Fu ls en (c :: w) p ↔ Fu ls en w q := by
  constructor
  · rintro ⟨q', h', k⟩; rw [srt_det hs h h']; exact k
  · intro k; exact ⟨q, h, k⟩
theorem Form.step_in (f1 : Form A n1 ls1 en1) (f2 : Form A n2 ls2 en2) {pre r1 r2 : List Lane} {l : Lane} (e1 : ls1 = pre ++ l :: r1) (e2 : ls2 = pre ++ r2) (hr : ∀ x, x ∈ r2 → Lt A l x)
    (hf : ∀ w, Fu ls1 en1 w l.1 ↔ Fu ls2 en2 w l.1) : False := by
  have hl : l ∈ ls1 := by rw [e1]; simp
  obtain ⟨b1, b2, b3⟩ := f1.sc.bnd l hl
  obtain ⟨w, hw⟩ := f1.use _ b3
  have h1 : Fu ls1 en1 (l.2.1 :: w) l.1 := ⟨l.2.2, hl, hw⟩
  obtain ⟨q, hq, _⟩ := (hf _).mp h1
  have hs1 := f1.sc.srt
  have hs2 := f2.sc.srt
  rw [e1] at hs1
  rw [e2] at hs2 hq
  exact no_lane hs2 (fun x m => (List.pairwise_append.mp hs1).2.2 x m l (List.mem_cons_self ..)) hr q hq
theorem same_lanes (f1 : Form A n1 ls1 en1) (f2 : Form A n2 ls2 en2) (d1 : Red n1 ls1 en1) (d2 : Red n2 ls2 en2) :
    ∀ (r1 r2 pre : List Lane) (c : Nat), ls1 = pre ++ r1 → ls2 = pre ++ r2 → (∀ t, t < c ↔ (t = 0 ∨ ∃ l, l ∈ pre ∧ l.2.2 = t)) →
      (∀ p, p < c → ∀ w, Fu ls1 en1 w p ↔ Fu ls2 en2 w p) → ls1 = ls2 ∧ n1 = n2 ∧ ∀ p, p < n1 → ∀ w, Fu ls1 en1 w p ↔ Fu ls2 en2 w p := by
  intro r1
  induction r1 with
  | nil =>
    intro r2 pre c e1 e2 hc hf
    cases r2 with
    | cons l r2 =>
      exfalso
      refine f2.step_in f1 e2 e1 (fun x m => by cases m) fun w => (hf l.1 ?_ w).symm
      exact (hc _).mpr (f2.sc.src _ _ _ e2)
    | nil =>
      rw [List.append_nil] at e1 e2
      have N1 : n1 = c := by
        have p1 := f1.sc.pos
        have c0 : 0 < c := (hc 0).mpr (.inl rfl)
        apply Nat.le_antisymm
        · have : n1 - 1 < c := by
            by_cases z : n1 - 1 = 0
            · omega
            · obtain ⟨l, m, e⟩ := f1.sc.all (n1 - 1) (by omega) (by omega)
              exact (hc _).mpr (.inr ⟨l, e1 ▸ m, e⟩)
          omega
        · have : c - 1 < n1 := by
            rcases (hc (c - 1)).mp (by omega) with z | ⟨l, m, e⟩
            · omega
            · have := (f1.sc.bnd l (e1 ▸ m)).2.2; omega
          omega
      have N2 : n2 = c := by
        have p1 := f2.sc.pos
        have c0 : 0 < c := (hc 0).mpr (.inl rfl)
        apply Nat.le_antisymm
        · have : n2 - 1 < c := by
            by_cases z : n2 - 1 = 0
            · omega
            · obtain ⟨l, m, e⟩ := f2.sc.all (n2 - 1) (by omega) (by omega)
              exact (hc _).mpr (.inr ⟨l, e2 ▸ m, e⟩)
          omega
        · have : c - 1 < n2 := by
            rcases (hc (c - 1)).mp (by omega) with z | ⟨l, m, e⟩
            · omega
            · have := (f2.sc.bnd l (e2 ▸ m)).2.2; omega
          omega
      exact ⟨e1.trans e2.symm, N1.trans N2.symm, fun p hp => hf p (N1 ▸ hp)⟩
  | cons l r1 ih =>
    intro r2 pre c e1 e2 hc hf
    cases r2 with
    | nil =>
      exfalso
      refine f1.step_in f2 e1 e2 (fun x m => by cases m) (hf l.1 ?_)
      exact (hc _).mpr (f1.sc.src _ _ _ e1)
    | cons l' r2 =>
      have m1 : l ∈ ls1 := by rw [e1]; simp
      have m2 : l' ∈ ls2 := by rw [e2]; simp
      have p1 : l.1 < c := (hc _).mpr (f1.sc.src _ _ _ e1)
      have p2 : l'.1 < c := (hc _).mpr (f2.sc.src _ _ _ e2)
      have s1 := f1.sc.srt
      have s2 := f2.sc.srt
      rw [e1, List.pairwise_append, List.pairwise_cons] at s1
      rw [e2, List.pairwise_append, List.pairwise_cons] at s2
      have n12 : ¬ Lt A l l' := fun k => f1.step_in f2 e1 e2 (fun x m => by
        rcases List.mem_cons.mp m with e | m
        · exact e ▸ k
        · exact lt_trans k (s2.2.1.1 x m)) (hf _ p1)
      have n21 : ¬ Lt A l' l := fun k => f2.step_in f1 e2 e1 (fun x m => by
        rcases List.mem_cons.mp m with e | m
        · exact e ▸ k
        · exact lt_trans k (s1.2.1.1 x m)) (fun w => (hf _ p2 w).symm)
      have ep : l.1 = l'.1 := by
        apply Nat.le_antisymm
        · exact Nat.le_of_not_lt fun h => n21 (.inl h)
        · exact Nat.le_of_not_lt fun h => n12 (.inl h)
      have ec : l.2.1 = l'.2.1 := by
        apply idx_inj (f1.sc.bnd l m1).2.1
        apply Nat.le_antisymm
        · exact Nat.le_of_not_lt fun h => n21 (.inr ⟨ep.symm, h⟩)
        · exact Nat.le_of_not_lt fun h => n12 (.inr ⟨ep, h⟩)
      have ft : ∀ w, Fu ls1 en1 w l.2.2 ↔ Fu ls2 en2 w l'.2.2 := by
        intro w
        have a1 := fut_step (en := en1) f1.sc.srt (p := l.1) (c := l.2.1) (q := l.2.2) m1 w
        have a2 := fut_step (en := en2) f2.sc.srt (p := l'.1) (c := l'.2.1) (q := l'.2.2) m2 w
        rw [← a1, ← a2, hf _ p1, ep, ec]
      have t1 : l.2.2 ≤ c := by
        rcases Nat.lt_or_ge c l.2.2 with k | k
        · have c0 : 0 < c := (hc 0).mpr (.inl rfl)
          have := (hc c).mpr (.inr (f1.sc.tgt _ _ _ e1 c c0 k)); omega
        · exact k
      have t2 : l'.2.2 ≤ c := by
        rcases Nat.lt_or_ge c l'.2.2 with k | k
        · have c0 : 0 < c := (hc 0).mpr (.inl rfl)
          have := (hc c).mpr (.inr (f2.sc.tgt _ _ _ e2 c c0 k)); omega
        · exact k
      have in1 : ∀ t, t < c → t < n1 := by
        intro t ht
        rcases (hc t).mp ht with z | ⟨x, m, e⟩
        · rw [z]; exact f1.sc.pos
        · rw [← e]; exact (f1.sc.bnd x (by rw [e1]; simp [m])).2.2
      have in2 : ∀ t, t < c → t < n2 := by
        intro t ht
        rcases (hc t).mp ht with z | ⟨x, m, e⟩
        · rw [z]; exact f2.sc.pos
        · rw [← e]; exact (f2.sc.bnd x (by rw [e2]; simp [m])).2.2
      have et : l.2.2 = l'.2.2 := by
        rcases Nat.lt_or_ge l.2.2 c with k | k
        · apply d2 _ _ (in2 _ k) (f2.sc.bnd l' m2).2.2
          intro w; rw [← hf _ k, ft]
        · rcases Nat.lt_or_ge l'.2.2 c with k' | k'
          · apply d1 _ _ (f1.sc.bnd l m1).2.2 (in1 _ k')
            intro w; rw [hf _ k', ft]
          · omega
      have el : l = l' := Prod.ext ep (Prod.ext ec et)
      subst el
      refine ih r2 (pre ++ [l]) (if l.2.2 < c then c else c + 1) (by rw [e1]; simp) (by rw [e2]; simp) (fun t => ?_) fun p hp => ?_
      · have m1' : (∃ x, x ∈ pre ++ [l] ∧ x.2.2 = t) ↔ (∃ x, x ∈ pre ∧ x.2.2 = t) ∨ l.2.2 = t := by
          constructor
          · rintro ⟨x, m, e⟩
            rcases List.mem_append.mp m with m | m
            · exact .inl ⟨x, m, e⟩
            · exact .inr (List.mem_singleton.mp m ▸ e)
          · rintro (⟨x, m, e⟩ | e)
            · exact ⟨x, List.mem_append.mpr (.inl m), e⟩
            · exact ⟨l, by simp, e⟩
        rw [m1', ← or_assoc, ← hc t]
        split <;> omega
      · by_cases k : p < c
        · exact hf p k
        · have : p = l.2.2 := by split at hp <;> omega
          rw [this]; exact ft
theorem same_form (f1 : Form A n1 ls1 en1) (f2 : Form A n2 ls2 en2) (d1 : Red n1 ls1 en1) (d2 : Red n2 ls2 en2) (h : ∀ w, Fu ls1 en1 w 0 ↔ Fu ls2 en2 w 0) : ls1 = ls2 ∧ en1 = en2 := by
  obtain ⟨e, en, hf⟩ := same_lanes f1 f2 d1 d2 ls1 ls2 [] 1 rfl rfl (fun t => by simp) (fun p hp => (show p = 0 by omega) ▸ h)
  refine ⟨e, sorted_ext f1.ens f2.ens fun x => ?_⟩
  constructor
  · intro m; exact (hf x (f1.enb x m) []).mp m
  · intro m; exact (hf x (en ▸ f2.enb x m) []).mpr m
end

/-! ### scanning a table of states -/
section
variable {σ : Type} (A : List Nat) (δ : σ → Nat → Option σ)
def DR (fin : σ → Prop) : List Nat → σ → Prop
  | [], s => fin s
  | c :: w, s => ∃ t, δ s c = some t ∧ DR fin w t
structure FSI (s0 : σ) (S : List σ) (ls : List Lane) (i : Nat) (D : List Nat) : Prop where
  nd : S.Nodup
  hd : S[0]? = some s0
  bnd : ∀ l, l ∈ ls → l.1 < S.length ∧ l.2.1 ∈ A ∧ l.2.2 < S.length
  srt : ls.Pairwise (Lt A)
  src : ∀ pre l post, ls = pre ++ l :: post → l.1 = 0 ∨ ∃ l', l' ∈ pre ∧ l'.2.2 = l.1
  tgt : ∀ pre l post, ls = pre ++ l :: post → ∀ t, 0 < t → t < l.2.2 → ∃ l', l' ∈ pre ∧ l'.2.2 = t
  all : ∀ t, 0 < t → t < S.length → ∃ l, l ∈ ls ∧ l.2.2 = t
  last : ∀ l, l ∈ ls → l.1 < i ∨ (l.1 = i ∧ l.2.1 ∈ D)
  clo : ∀ a c s t, ((a < i ∧ c ∈ A) ∨ (a = i ∧ c ∈ D)) → S[a]? = some s → δ s c = some t → t ∈ S
  ok : ∀ a c j, (a, c, j) ∈ ls ↔ ((a < i ∧ c ∈ A) ∨ (a = i ∧ c ∈ D)) ∧ ∃ s t, S[a]? = some s ∧ δ s c = some t ∧ S[j]? = some t
structure FS (s0 : σ) (S : List σ) (ls : List Lane) : Prop where
  nd : S.Nodup
  hd : S[0]? = some s0
  sc : Sc A S.length ls
  ok : ∀ a c j, (a, c, j) ∈ ls ↔ c ∈ A ∧ ∃ s t, S[a]? = some s ∧ δ s c = some t ∧ S[j]? = some t
end
section
variable {σ : Type} {A : List Nat} {δ : σ → Nat → Option σ} {s0 : σ} {S S' : List σ} {ls : List Lane} {i j c : Nat} {D R : List Nat} {s t : σ}
theorem FSI.start : FSI A δ s0 [s0] [] 0 [] := by
  refine ⟨by simp, rfl, fun l h => (by cases h), List.Pairwise.nil, fun pre l post h => by simp at h, fun pre l post h => by simp at h, fun t h1 h2 => ?_, fun l h => (by cases h), fun a c s t h => ?_, fun a c j => ?_⟩
  · simp at h2; omega
  · rcases h with h | ⟨_, h⟩
    · exact absurd h.1 (Nat.not_lt_zero _)
    · cases h
  · constructor
    · intro h; cases h
    · rintro ⟨h | ⟨_, h⟩, _⟩
      · exact absurd h.1 (Nat.not_lt_zero _)
      · cases h
theorem FSI.next (f : FSI A δ s0 S ls i A) : FSI A δ s0 S ls (i + 1) [] := by
  refine ⟨f.nd, f.hd, f.bnd, f.srt, f.src, f.tgt, f.all, fun l h => ?_, fun a c s t h => f.clo a c s t ?_, fun a c j => ?_⟩
  · rcases f.last l h with h | ⟨h, _⟩ <;> exact .inl (by omega)
  · rcases h with h | h
    · by_cases e : a = i
      · exact .inr ⟨e, h.2⟩
      · exact .inl ⟨by omega, h.2⟩
    · cases h.2
  · rw [f.ok]
    constructor
    · rintro ⟨h | h, k⟩
      · exact ⟨.inl ⟨by omega, h.2⟩, k⟩
      · exact ⟨.inl ⟨by omega, h.2⟩, k⟩
    · rintro ⟨h | h, k⟩
      · by_cases e : a = i
        · exact ⟨.inr ⟨e, h.2⟩, k⟩
        · exact ⟨.inl ⟨by omega, h.2⟩, k⟩
      · cases h.2
theorem FSI.skip (f : FSI A δ s0 S ls i D) (hs : S[i]? = some s) (hn : δ s c = none) : FSI A δ s0 S ls i (D ++ [c]) := by
  refine ⟨f.nd, f.hd, f.bnd, f.srt, f.src, f.tgt, f.all, fun l h => ?_, fun a d s' t h e1 e2 => ?_, fun a d j => ?_⟩
  · rcases f.last l h with h | ⟨h, k⟩
    · exact .inl h
    · exact .inr ⟨h, List.mem_append.mpr (.inl k)⟩
  · rcases h with h | h
    · exact f.clo a d s' t (.inl h) e1 e2
    · rcases List.mem_append.mp h.2 with m | m
      · exact f.clo a d s' t (.inr ⟨h.1, m⟩) e1 e2
      · exfalso
        rw [List.mem_singleton] at m
        rw [h.1, hs] at e1
        cases e1
        rw [m, hn] at e2
        cases e2
  · rw [f.ok]
    constructor
    · rintro ⟨h | h, k⟩
      · exact ⟨.inl h, k⟩
      · exact ⟨.inr ⟨h.1, List.mem_append.mpr (.inl h.2)⟩, k⟩
    · rintro ⟨h | h, k⟩
      · exact ⟨.inl h, k⟩
      · rcases List.mem_append.mp h.2 with m | m
        · exact ⟨.inr ⟨h.1, m⟩, k⟩
        · exfalso
          obtain ⟨s', t', e1, e2, _⟩ := k
          rw [List.mem_singleton] at m
          rw [h.1, hs] at e1
          cases e1
          rw [m, hn] at e2
          cases e2
/-- one more lane, to a state met before or to a new one -/
theorem FSI.lane (f : FSI A δ s0 S ls i D) (eA : A = D ++ c :: R) (nA : A.Nodup) (hs : S[i]? = some s) (ht : δ s c = some t)
    (hS : S' = S ∨ (S' = S ++ [t] ∧ t ∉ S ∧ j = S.length)) (hj : S'[j]? = some t) : FSI A δ s0 S' (ls ++ [(i, c, j)]) i (D ++ [c]) := by
  have iS : i < S.length := (List.getElem?_eq_some_iff.mp hs).1
  have jS : j < S'.length := (List.getElem?_eq_some_iff.mp hj).1
  have cA : c ∈ A := by rw [eA]; simp
  have cD : c ∉ D := by
    intro m
    rw [eA] at nA
    exact (List.nodup_append.mp nA).2.2 c m c (List.mem_cons_self ..) rfl
  have le : S.length ≤ S'.length := by
    rcases hS with h | ⟨h, _⟩ <;> rw [h] <;> simp
  have jle : j ≤ S.length := by
    rcases hS with h | ⟨_, _, h⟩
    · rw [h] at jS; omega
    · omega
  have old : ∀ (a : Nat) x, S[a]? = some x → S'[a]? = some x := by
    intro a x h
    rcases hS with e | ⟨e, _⟩
    · rw [e]; exact h
    · rw [e, List.getElem?_append_left (List.getElem?_eq_some_iff.mp h).1]; exact h
  have sub : ∀ x, x ∈ S → x ∈ S' := by
    intro x h
    rcases hS with e | ⟨e, _⟩
    · rw [e]; exact h
    · rw [e]; exact List.mem_append.mpr (.inl h)
  have back : ∀ (a d : Nat) x, ((a < i ∧ d ∈ A) ∨ (a = i ∧ d ∈ D)) → S'[a]? = some x → S[a]? = some x := by
    intro a d x ha h
    have al : a < S.length := by rcases ha with h | h <;> omega
    have o := old a _ (List.getElem?_eq_getElem al)
    rw [h] at o
    rw [List.getElem?_eq_getElem al]
    exact o.symm
  have dec : ∀ pre l post, ls ++ [(i, c, j)] = pre ++ l :: post → (∃ post', post = post' ++ [(i, c, j)] ∧ ls = pre ++ l :: post') ∨ (l = (i, c, j) ∧ pre = ls ∧ post = []) := by
    intro pre l post e
    rcases List.eq_nil_or_concat post with z | ⟨post', b, z⟩ <;> (try simp only [List.concat_eq_append] at z)
    · subst z
      have := List.append_inj' e rfl
      exact .inr ⟨by simpa using this.2.symm, this.1.symm, rfl⟩
    · subst z
      rw [← List.cons_append, ← List.append_assoc] at e
      have := List.append_inj' e rfl
      refine .inl ⟨post', ?_, by simpa using this.1⟩
      simpa using this.2.symm
  refine ⟨?_, ?_, fun l h => ?_, ?_, fun pre l post e => ?_, fun pre l post e u h1 h2 => ?_, fun u h1 h2 => ?_, fun l h => ?_, fun a d s' t' h e1 e2 => ?_, fun a d b => ?_⟩
  · rcases hS with e | ⟨e, m, _⟩
    · rw [e]; exact f.nd
    · rw [e]
      exact List.nodup_append.mpr ⟨f.nd, by simp, fun a ha b hb e => m (by rw [List.mem_singleton] at hb; rw [← hb, ← e]; exact ha)⟩
  · exact old _ _ f.hd
  · rcases List.mem_append.mp h with h | h
    · obtain ⟨k1, k2, k3⟩ := f.bnd l h
      exact ⟨by omega, k2, by omega⟩
    · rw [List.mem_singleton] at h
      rw [h]
      exact ⟨by show i < _; omega, cA, jS⟩
  · refine List.pairwise_append.mpr ⟨f.srt, by simp, fun a ha b hb => ?_⟩
    rw [List.mem_singleton] at hb
    rw [hb]
    rcases f.last a ha with k | ⟨k, m⟩
    · exact .inl k
    · refine .inr ⟨k, ?_⟩
      show A.idxOf a.2.1 < A.idxOf c
      rw [eA, List.idxOf_append, if_pos m, List.idxOf_append, if_neg cD]
      have := List.idxOf_lt_length_of_mem m
      omega
  · rcases dec pre l post e with ⟨post', _, e'⟩ | ⟨rfl, rfl, _⟩
    · exact f.src _ _ _ e'
    · show i = 0 ∨ _
      by_cases z : i = 0
      · exact .inl z
      · obtain ⟨l', m, e'⟩ := f.all i (by omega) iS
        exact .inr ⟨l', m, e'⟩
  · rcases dec pre l post e with ⟨post', _, e'⟩ | ⟨rfl, rfl, _⟩
    · exact f.tgt _ _ _ e' u h1 h2
    · have h2 : u < j := h2
      exact f.all u h1 (by omega)
  · by_cases k : u < S.length
    · obtain ⟨l, m, e⟩ := f.all u h1 k
      exact ⟨l, List.mem_append.mpr (.inl m), e⟩
    · rcases hS with e | ⟨e, _, e'⟩
      · rw [e] at h2; omega
      · rw [e, List.length_append] at h2
        simp at h2
        exact ⟨(i, c, j), by simp, by show j = u; omega⟩
  · rcases List.mem_append.mp h with h | h
    · rcases f.last l h with k | ⟨k, m⟩
      · exact .inl k
      · exact .inr ⟨k, List.mem_append.mpr (.inl m)⟩
    · rw [List.mem_singleton] at h
      rw [h]
      exact .inr ⟨rfl, by simp⟩
  · by_cases hd : (a < i ∧ d ∈ A) ∨ (a = i ∧ d ∈ D)
    · exact sub _ (f.clo a d s' t' hd (back a d _ hd e1) e2)
    · have ha : a = i ∧ d = c := by
        rcases h with h | ⟨h1, h2⟩
        · exact absurd (.inl h) hd
        · rcases List.mem_append.mp h2 with m | m
          · exact absurd (.inr ⟨h1, m⟩) hd
          · exact ⟨h1, List.mem_singleton.mp m⟩
      obtain ⟨rfl, rfl⟩ := ha
      rw [old _ _ hs] at e1
      cases e1
      rw [ht] at e2
      cases e2
      exact List.mem_of_getElem? hj
  · have hin : (a, d, b) ∈ ls ++ [(i, c, j)] ↔ (a, d, b) ∈ ls ∨ (a = i ∧ d = c ∧ b = j) := by simp
    rw [hin, f.ok]
    constructor
    · rintro (⟨h, s', t', e1, e2, e3⟩ | ⟨rfl, rfl, rfl⟩)
      · refine ⟨?_, s', t', old _ _ e1, e2, old _ _ e3⟩
        rcases h with h | h
        · exact .inl h
        · exact .inr ⟨h.1, List.mem_append.mpr (.inl h.2)⟩
      · exact ⟨.inr ⟨rfl, by simp⟩, s, t, old _ _ hs, ht, hj⟩
    · rintro ⟨h, s', t', e1, e2, e3⟩
      by_cases hd : (a < i ∧ d ∈ A) ∨ (a = i ∧ d ∈ D)
      · have e1' := back a d _ hd e1
        refine .inl ⟨hd, s', t', e1', e2, ?_⟩
        rcases hS with e | ⟨e, m, ej⟩
        · rw [← e]; exact e3
        · rcases Nat.lt_or_ge b S.length with k | k
          · rw [e, List.getElem?_append_left k] at e3; exact e3
          · exfalso
            have tS := f.clo a d s' t' hd e1' e2
            rw [e, List.getElem?_append_right k] at e3
            have : t = t' := by
              cases z : b - S.length with
              | zero => rw [z] at e3; simpa using e3
              | succ n => rw [z] at e3; simp at e3
            exact m (this ▸ tS)
      · refine .inr ?_
        have ha : a = i ∧ d = c := by
          rcases h with h | ⟨h1, h2⟩
          · exact absurd (.inl h) hd
          · rcases List.mem_append.mp h2 with m | m
            · exact absurd (.inr ⟨h1, m⟩) hd
            · exact ⟨h1, List.mem_singleton.mp m⟩
        obtain ⟨rfl, rfl⟩ := ha
        have : S'[a]? = some s := old _ _ hs
        rw [this] at e1
        cases e1
        rw [ht] at e2
        cases e2
        refine ⟨rfl, rfl, ?_⟩
        have nd' : S'.Nodup := by
          rcases hS with e | ⟨e, m, _⟩
          · rw [e]; exact f.nd
          · rw [e]
            exact List.nodup_append.mpr ⟨f.nd, by simp, fun a ha b hb e => m (by rw [List.mem_singleton] at hb; rw [← hb, ← e]; exact ha)⟩
        exact (List.getElem?_inj (List.getElem?_eq_some_iff.mp e3).1 nd').mp (e3.trans hj.symm)
theorem FSI.clo' (f : FSI A δ s0 S ls i []) (h : i = S.length) (hA : ∀ s c t, δ s c = some t → c ∈ A) : ∀ s c t, s ∈ S → δ s c = some t → t ∈ S := by
  intro s c t hs e
  obtain ⟨a, al, ea⟩ := List.getElem_of_mem hs
  exact f.clo a c s t (.inl ⟨by omega, hA _ _ _ e⟩) (by rw [List.getElem?_eq_getElem al, ea]) e
theorem FSI.done (f : FSI A δ s0 S ls i []) (h : i = S.length) : FS A δ s0 S ls := by
  have p0 : 0 < S.length := (List.getElem?_eq_some_iff.mp f.hd).1
  refine ⟨f.nd, f.hd, ⟨p0, f.bnd, f.srt, f.src, f.tgt, f.all⟩, fun a c j => ?_⟩
  rw [f.ok]
  constructor
  · rintro ⟨h | h, k⟩
    · exact ⟨h.2, k⟩
    · cases h.2
  · rintro ⟨hc, s, t, e1, e2, e3⟩
    have := (List.getElem?_eq_some_iff.mp e1).1
    exact ⟨.inl ⟨by omega, hc⟩, s, t, e1, e2, e3⟩
/-- all states lie in a list that holds the start and is closed -/
theorem FSI.mem_of (f : FSI A δ s0 S ls i D) {P : σ → Prop} (h0 : P s0) (hc : ∀ s c t, P s → c ∈ A → δ s c = some t → P t) : ∀ s, s ∈ S → P s := by
  have key : ∀ (k a : Nat) x, a < k → S[a]? = some x → P x := by
    have low : ∀ (pre post : List Lane), ls = pre ++ post → ∀ (a : Nat) x, (a = 0 ∨ ∃ l, l ∈ pre ∧ l.2.2 = a) → S[a]? = some x → P x := by
      intro pre
      induction h : pre.length generalizing pre with
      | zero =>
        intro post e a x ha ex
        have : pre = [] := List.eq_nil_of_length_eq_zero h
        subst this
        rcases ha with z | ⟨_, m, _⟩
        · rw [z, f.hd] at ex; cases ex; exact h0
        · cases m
      | succ n ih =>
        intro post e a x ha ex
        rcases List.eq_nil_or_concat pre with z | ⟨pre', l, z⟩ <;> (try simp only [List.concat_eq_append] at z)
        · rw [z] at h; cases h
        · subst z
          have hn : pre'.length = n := by simpa using h
          have e' : ls = pre' ++ l :: post := by rw [e]; simp
          rcases ha with z | ⟨l', m, el⟩
          · exact ih pre' hn (l :: post) e' a x (.inl z) ex
          · rcases List.mem_append.mp m with m | m
            · exact ih pre' hn (l :: post) e' a x (.inr ⟨l', m, el⟩) ex
            · rw [List.mem_singleton] at m
              subst m
              have ml : (l'.1, l'.2.1, l'.2.2) ∈ ls := by rw [e']; simp
              obtain ⟨_, s, t, e1, e2, e3⟩ := (f.ok _ _ _).mp ml
              rw [el, ex] at e3
              cases e3
              exact hc s _ _ (ih pre' hn (l' :: post) e' _ _ (f.src _ _ _ e') e1) (f.bnd _ ml).2.1 e2
    intro k a x _ ex
    have al := (List.getElem?_eq_some_iff.mp ex).1
    refine low ls [] (by simp) a x ?_ ex
    by_cases z : a = 0
    · exact .inl z
    · exact .inr (f.all a (by omega) al)
  intro s hs
  obtain ⟨a, al, e⟩ := List.getElem_of_mem hs
  exact key (a + 1) a s (Nat.lt_succ_self _) (by rw [List.getElem?_eq_getElem al, e])
theorem FS.fut (f : FS A δ s0 S ls) {fin : σ → Prop} {en : List Nat} (hen : ∀ a x, S[a]? = some x → (a ∈ en ↔ fin x)) (hA : ∀ s c t, δ s c = some t → c ∈ A)
    (clo : ∀ s c t, s ∈ S → δ s c = some t → t ∈ S) : ∀ w a x, S[a]? = some x → (Fu ls en w a ↔ DR δ fin w x) := by
  intro w
  induction w with
  | nil => intro a x e; exact hen a x e
  | cons c w ih =>
    intro a x e
    constructor
    · rintro ⟨q, hq, hw⟩
      obtain ⟨_, s, t, e1, e2, e3⟩ := (f.ok _ _ _).mp hq
      rw [e] at e1
      cases e1
      exact ⟨t, e2, (ih q t e3).mp hw⟩
    · rintro ⟨t, e2, hw⟩
      obtain ⟨b, bl, eb⟩ := List.getElem_of_mem (clo x c t (List.mem_of_getElem? e) e2)
      have e3 : S[b]? = some t := by rw [List.getElem?_eq_getElem bl, eb]
      exact ⟨b, (f.ok _ _ _).mpr ⟨hA _ _ _ e2, x, t, e, e2, e3⟩, (ih b t e3).mpr hw⟩
end
end EM

set_option autoImplicit true
set_option maxHeartbeats 4000000
set_option autoImplicit false
set_option linter.all false
/-! Plain laws 3: the machine of sets of spots. No program here. -/
namespace EM
/-! ### sublists: how many -/
def subs : List Nat → List (List Nat)
  | [] => [[]]
  | x :: r => subs r ++ (subs r).map (x :: ·)
theorem subs_len (l : List Nat) : (subs l).length = 2 ^ l.length := by
  induction l with
  | nil => rfl
  | cons x r ih => simp [subs, ih, Nat.pow_succ]; omega
theorem mem_subs {X l : List Nat} (h : X.Sublist l) : X ∈ subs l := by
  induction h with
  | slnil => exact List.mem_singleton.mpr rfl
  | cons a _ ih => exact List.mem_append.mpr (.inl ih)
  | cons_cons a _ ih => exact List.mem_append.mpr (.inr (List.mem_map.mpr ⟨_, ih, rfl⟩))
theorem subs_bound {S : List (List Nat)} {n : Nat} (nd : S.Nodup) (h : ∀ X, X ∈ S → X.Sublist (List.range n)) : S.length ≤ 2 ^ n := by
  have := List.Nodup.length_le_of_subset nd (l₂ := subs (List.range n)) fun X m => mem_subs (h X m)
  rwa [subs_len, List.length_range] at this
theorem range_sorted (n : Nat) : (List.range n).Pairwise (· < ·) := List.pairwise_lt_range

/-! ### sets of spots -/
section
variable (A : List Nat) (lt fw : Nat → List Nat) (M : Nat)
def nxt (X : List Nat) (c : Nat) : List Nat := (List.range (M + 1)).filter fun q => X.any fun p => decide (q ∈ fw p ∧ c ∈ lt q)
def sd (X : List Nat) (c : Nat) : Option (List Nat) := if c ∈ A ∧ nxt lt fw M X c ≠ [] then some (nxt lt fw M X c) else none
def sfin (b : Bool) (La : List Nat) (X : List Nat) : Prop := (∃ p, p ∈ X ∧ p ∈ La) ∨ (b = true ∧ X = [0])
end
section
variable {A : List Nat} {lt fw : Nat → List Nat} {M : Nat} {b : Bool} {F La : List Nat} {L : Lang}
theorem mem_nxt {X : List Nat} {c q : Nat} : q ∈ nxt lt fw M X c ↔ q ≤ M ∧ ∃ p, p ∈ X ∧ q ∈ fw p ∧ c ∈ lt q := by
  unfold nxt
  rw [List.mem_filter, List.mem_range, List.any_eq_true]
  constructor
  · rintro ⟨h, p, hp, k⟩; exact ⟨by omega, p, hp, by simpa using k⟩
  · rintro ⟨h, p, hp, k⟩; exact ⟨by omega, p, hp, by simpa using k⟩
theorem nxt_sub {X : List Nat} {c : Nat} : (nxt lt fw M X c).Sublist (List.range (M + 1)) := List.filter_sublist
theorem nxt_srt {X : List Nat} {c : Nat} : (nxt lt fw M X c).Pairwise (· < ·) := (range_sorted _).sublist nxt_sub
theorem sd_some {X Y : List Nat} {c : Nat} : sd A lt fw M X c = some Y ↔ c ∈ A ∧ Y ≠ [] ∧ Y = nxt lt fw M X c := by
  unfold sd
  split
  · next h =>
    constructor
    · intro e; cases e; exact ⟨h.1, h.2, rfl⟩
    · rintro ⟨_, _, rfl⟩; rfl
  · next h =>
    constructor
    · intro e; cases e
    · rintro ⟨h1, h2, rfl⟩; exact absurd ⟨h1, h2⟩ h
/-- a state's spots: not empty, each from 1 to M -/
def SpotsOk (M : Nat) (X : List Nat) : Prop := X ≠ [] ∧ ∀ p, p ∈ X → 0 < p ∧ p ≤ M
theorem sd_ok (g : Gl lt fw 0 M b F La L) (h0 : fw 0 = F) {X Y : List Nat} {c : Nat} (hX : X = [0] ∨ SpotsOk M X) (h : sd A lt fw M X c = some Y) : SpotsOk M Y := by
  obtain ⟨_, h2, rfl⟩ := sd_some.mp h
  refine ⟨h2, fun q hq => ?_⟩
  obtain ⟨k, p, hp, hf, _⟩ := mem_nxt.mp hq
  refine ⟨?_, k⟩
  rcases hX with rfl | hX
  · rw [List.mem_singleton] at hp
    rw [hp, h0] at hf
    exact (g.fin q hf).1
  · exact (g.win p (hX.2 p hp).1 (hX.2 p hp).2 q hf).1
theorem sd_run (g : Gl lt fw 0 M b F La L) (h0 : fw 0 = F) (hA : ∀ q c, c ∈ lt q → c ∈ A) : ∀ w X, SpotsOk M X → (DR (sd A lt fw M) (sfin b La) w X ↔ ∃ p, p ∈ X ∧ Run lt fw La w p) := by
  intro w
  induction w with
  | nil =>
    intro X hX
    show (_ ∨ _) ↔ _
    constructor
    · rintro (h | ⟨_, rfl⟩)
      · exact h
      · have := hX.2 0 (by simp); omega
    · exact .inl
  | cons c w ih =>
    intro X hX
    constructor
    · rintro ⟨Y, hY, hw⟩
      have oY := sd_ok g h0 (.inr hX) hY
      obtain ⟨q, hq, hr⟩ := (ih Y oY).mp hw
      obtain ⟨_, _, rfl⟩ := sd_some.mp hY
      obtain ⟨_, p, hp, hf, hc⟩ := mem_nxt.mp hq
      exact ⟨p, hp, q, hf, hc, hr⟩
    · rintro ⟨p, hp, q, hf, hc, hr⟩
      have hq : q ∈ nxt lt fw M X c := mem_nxt.mpr ⟨(g.win p (hX.2 p hp).1 (hX.2 p hp).2 q hf).2, p, hp, hf, hc⟩
      have hY : sd A lt fw M X c = some (nxt lt fw M X c) := sd_some.mpr ⟨hA q c hc, fun e => (by rw [e] at hq; cases hq), rfl⟩
      exact ⟨_, hY, (ih _ (sd_ok g h0 (.inr hX) hY)).mpr ⟨q, hq, hr⟩⟩
theorem sd_start (g : Gl lt fw 0 M b F La L) (h0 : fw 0 = F) (hA : ∀ q c, c ∈ lt q → c ∈ A) (w : List Nat) : DR (sd A lt fw M) (sfin b La) w [0] ↔ L w := by
  rw [g.lang]
  cases w with
  | nil =>
    show (_ ∨ _) ↔ b = true
    constructor
    · rintro (⟨p, hp, hl⟩ | ⟨h, _⟩)
      · rw [List.mem_singleton] at hp
        have := (g.lin p hl).1; omega
      · exact h
    · intro h; exact .inr ⟨h, rfl⟩
  | cons c w =>
    constructor
    · rintro ⟨Y, hY, hw⟩
      have oY := sd_ok g h0 (.inl rfl) hY
      obtain ⟨q, hq, hr⟩ := (sd_run g h0 hA w Y oY).mp hw
      obtain ⟨_, _, rfl⟩ := sd_some.mp hY
      obtain ⟨_, p, hp, hf, hc⟩ := mem_nxt.mp hq
      rw [List.mem_singleton] at hp
      rw [hp, h0] at hf
      exact ⟨q, hf, hc, hr⟩
    · rintro ⟨q, hf, hc, hr⟩
      have hq : q ∈ nxt lt fw M [0] c := mem_nxt.mpr ⟨(g.fin q hf).2, 0, by simp, h0 ▸ hf, hc⟩
      have hY : sd A lt fw M [0] c = some (nxt lt fw M [0] c) := sd_some.mpr ⟨hA q c hc, fun e => (by rw [e] at hq; cases hq), rfl⟩
      exact ⟨_, hY, (sd_run g h0 hA w _ (sd_ok g h0 (.inl rfl) hY)).mpr ⟨q, hq, hr⟩⟩
theorem sd_use (g : Gl lt fw 0 M b F La L) (h0 : fw 0 = F) (hA : ∀ q c, c ∈ lt q → c ∈ A) (ne : ∃ w, L w) (X : List Nat) (hX : X = [0] ∨ SpotsOk M X) : ∃ w, DR (sd A lt fw M) (sfin b La) w X := by
  rcases hX with rfl | hX
  · obtain ⟨w, h⟩ := ne
    exact ⟨w, (sd_start g h0 hA w).mpr h⟩
  · obtain ⟨p, hp⟩ := List.exists_mem_of_ne_nil X hX.1
    obtain ⟨w, h⟩ := g.use p (hX.2 p hp).1 (hX.2 p hp).2
    exact ⟨w, (sd_run g h0 hA w X hX).mpr ⟨p, hp, h⟩⟩
end

/-! ### from a scan to a machine -/
section
variable {σ : Type} {A : List Nat} {δ : σ → Nat → Option σ} {s0 : σ} {S : List σ} {ls : List Lane} {fin : σ → Prop} {en : List Nat}
theorem FS.form (f : FS A δ s0 S ls) (hens : en.Pairwise (· < ·)) (henb : ∀ e, e ∈ en → e < S.length) (hen : ∀ a x, S[a]? = some x → (a ∈ en ↔ fin x)) (hA : ∀ s c t, δ s c = some t → c ∈ A)
    (clo : ∀ s c t, s ∈ S → δ s c = some t → t ∈ S) (use : ∀ x, x ∈ S → ∃ w, DR δ fin w x) : Form A S.length ls en :=
  ⟨f.sc, hens, henb, fun p hp => by
    obtain ⟨w, h⟩ := use S[p] (List.getElem_mem hp)
    exact ⟨w, (f.fut hen hA clo w p _ (List.getElem?_eq_getElem hp)).mpr h⟩⟩
end

/-! ### kinds -/
section
variable (A : List Nat) (n : Nat) (ls : List Lane) (en : List Nat)
/-- where a lane leads, or nowhere -/
def tg (p c : Nat) : Option Nat := (ls.find? fun l => l.1 == p && l.2.1 == c).map (·.2.2)
def FE (p q : Nat) : Prop := ∀ w, Fu ls en w p ↔ Fu ls en w q
/-- the kinds behind the letters: the same -/
def SgE (κ : Nat → Nat) (p q : Nat) : Prop := κ p = κ q ∧ ∀ c, c ∈ A → (tg ls p c).map κ = (tg ls q c).map κ
def Refd (κ κ' : Nat → Nat) : Prop := ∀ p q, p < n → q < n → (κ' p = κ' q ↔ SgE A ls κ p q)
/-- coarser than the futures, finer than the ends -/
structure Kd (κ : Nat → Nat) : Prop where
  co : ∀ p q, p < n → q < n → FE ls en p q → κ p = κ q
  ed : ∀ p q, p < n → q < n → κ p = κ q → (p ∈ en ↔ q ∈ en)
def reps (κ : Nat → Nat) : List Nat := (List.range n).filter fun p => decide (∀ q, q < p → κ q ≠ κ p)
end
section
variable {A : List Nat} {n : Nat} {ls : List Lane} {en : List Nat} {κ κ' : Nat → Nat}
theorem tg_some (h : ls.Pairwise (Lt A)) {p c q : Nat} : tg ls p c = some q ↔ (p, c, q) ∈ ls := by
  unfold tg
  constructor
  · intro e
    rw [Option.map_eq_some_iff] at e
    obtain ⟨l, hl, rfl⟩ := e
    have h1 := List.find?_some hl
    simp at h1
    have := List.mem_of_find?_eq_some hl
    rw [← h1.1, ← h1.2]
    exact this
  · intro m
    cases e : ls.find? fun l => l.1 == p && l.2.1 == c with
    | none =>
      have := List.find?_eq_none.mp e _ m
      simp at this
    | some l =>
      have h1 := List.find?_some e
      simp at h1
      have m' := List.mem_of_find?_eq_some e
      have : l.2.2 = q := srt_det h (p := p) (c := c) (by rw [← h1.1, ← h1.2]; exact m') m
      rw [Option.map_some, this]
theorem Form.fe_step (f : Form A n ls en) {p q : Nat} (h : FE ls en p q) (c : Nat) :
    (tg ls p c = none ∧ tg ls q c = none) ∨ ∃ p' q', tg ls p c = some p' ∧ tg ls q c = some q' ∧ p' < n ∧ q' < n ∧ FE ls en p' q' := by
  have one : ∀ {p q : Nat}, FE ls en p q → ∀ p', tg ls p c = some p' → ∃ q', tg ls q c = some q' ∧ p' < n ∧ q' < n ∧ FE ls en p' q' := by
    intro p q h p' e
    have m := (tg_some f.sc.srt).mp e
    obtain ⟨w, hw⟩ := f.use p' (f.sc.bnd _ m).2.2
    obtain ⟨q', m', _⟩ := (h (c :: w)).mp ⟨p', m, hw⟩
    refine ⟨q', (tg_some f.sc.srt).mpr m', (f.sc.bnd _ m).2.2, (f.sc.bnd _ m').2.2, fun w => ?_⟩
    rw [← fut_step f.sc.srt m, ← fut_step f.sc.srt m']
    exact h _
  cases e : tg ls p c with
  | some p' =>
    obtain ⟨q', e', h1, h2, h3⟩ := one h p' e
    exact .inr ⟨p', q', rfl, e', h1, h2, h3⟩
  | none =>
    cases e' : tg ls q c with
    | none => exact .inl ⟨rfl, rfl⟩
    | some q' =>
      obtain ⟨p', e'', _⟩ := one (fun w => (h w).symm) q' e'
      rw [e] at e''; cases e''
theorem Kd.ref (f : Form A n ls en) (k : Kd n ls en κ) (r : Refd A n ls κ κ') : Kd n ls en κ' := by
  refine ⟨fun p q hp hq h => ?_, fun p q hp hq e => k.ed p q hp hq ((r p q hp hq).mp e).1⟩
  rw [r p q hp hq]
  refine ⟨k.co p q hp hq h, fun c _ => ?_⟩
  rcases f.fe_step h c with ⟨e1, e2⟩ | ⟨p', q', e1, e2, h1, h2, h3⟩
  · rw [e1, e2]
  · rw [e1, e2, Option.map_some, Option.map_some, k.co p' q' h1 h2 h3]
theorem mem_reps {p : Nat} : p ∈ reps n κ ↔ p < n ∧ ∀ q, q < p → κ q ≠ κ p := by
  unfold reps
  rw [List.mem_filter, List.mem_range]
  simp
theorem rep_of {p : Nat} (hp : p < n) : ∃ q, q ∈ reps n κ ∧ κ q = κ p := by
  induction p using Nat.strongRecOn with
  | ind p ih =>
    by_cases h : ∀ q, q < p → κ q ≠ κ p
    · exact ⟨p, mem_reps.mpr ⟨hp, h⟩, rfl⟩
    · have ⟨q, hq⟩ := Classical.not_forall.mp h
      have ⟨h1, h2⟩ := Classical.not_imp.mp hq
      have h3 := Classical.not_not.mp h2
      obtain ⟨q', m, e⟩ := ih q h1 (by omega)
      exact ⟨q', m, e.trans h3⟩
theorem reps_inj {p q : Nat} (hp : p ∈ reps n κ) (hq : q ∈ reps n κ) (e : κ p = κ q) : p = q := by
  have h1 := (mem_reps.mp hp).2
  have h2 := (mem_reps.mp hq).2
  apply Nat.le_antisymm
  · exact Nat.le_of_not_lt fun k => h1 q k e.symm
  · exact Nat.le_of_not_lt fun k => h2 p k e
theorem reps_nd : (reps n κ).Nodup := (nodup_of_lt (range_sorted n)).sublist List.filter_sublist
/-- the number of kinds -/
theorem reps_len {es : List Nat} (nd : es.Nodup) (h : ∀ k, k ∈ es ↔ ∃ p, p < n ∧ κ p = k) : es.length = (reps n κ).length := by
  have e : es.Perm ((reps n κ).map κ) := by
    rw [List.perm_ext_iff_of_nodup nd]
    · intro k
      rw [h, List.mem_map]
      constructor
      · rintro ⟨p, hp, rfl⟩
        obtain ⟨q, m, e⟩ := rep_of (κ := κ) hp
        exact ⟨q, m, e⟩
      · rintro ⟨p, m, rfl⟩; exact ⟨p, (mem_reps.mp m).1, rfl⟩
    · exact List.pairwise_map.mpr (List.Pairwise.imp_of_mem (fun {a b} ha hb ne e => ne (reps_inj ha hb e)) reps_nd)
  rw [e.length_eq, List.length_map]
theorem reps_le : (reps n κ).length ≤ n := by
  have := (List.filter_sublist (l := List.range n) (p := fun p => decide (∀ q, q < p → κ q ≠ κ p))).length_le
  rwa [List.length_range] at this
theorem reps_sub (r : ∀ p q, p < n → q < n → κ' p = κ' q → κ p = κ q) : (reps n κ).Sublist (reps n κ') := by
  have e : reps n κ = (reps n κ').filter fun p => decide (∀ q, q < p → κ q ≠ κ p) := by
    unfold reps
    rw [List.filter_filter]
    apply List.filter_congr
    intro p hp
    rw [List.mem_range] at hp
    rw [Bool.eq_iff_iff, Bool.and_eq_true, decide_eq_true_eq, decide_eq_true_eq]
    constructor
    · intro h; exact ⟨h, fun q hq e => h q hq (r q p (by omega) hp e)⟩
    · exact fun h => h.1
  rw [e]
  exact List.filter_sublist
theorem refd_le (r : Refd A n ls κ κ') : (reps n κ).length ≤ (reps n κ').length := (reps_sub fun p q hp hq e => ((r p q hp hq).mp e).1).length_le
/-- when the number does not grow, the kinds are the same -/
theorem refd_same (r : Refd A n ls κ κ') (h : (reps n κ').length ≤ (reps n κ).length) {p q : Nat} (hp : p < n) (hq : q < n) : κ' p = κ' q ↔ κ p = κ q := by
  have fin : ∀ p q, p < n → q < n → κ' p = κ' q → κ p = κ q := fun p q hp hq e => ((r p q hp hq).mp e).1
  refine ⟨fin p q hp hq, fun e => ?_⟩
  have es : reps n κ = reps n κ' := (reps_sub fin).eq_of_length_le h
  obtain ⟨p', mp, ep⟩ := rep_of (κ := κ') hp
  obtain ⟨q', mq, eq⟩ := rep_of (κ := κ') hq
  have mp' := mp
  have mq' := mq
  rw [← es] at mp' mq'
  have hp' := (mem_reps.mp mp).1
  have hq' := (mem_reps.mp mq).1
  have : p' = q' := reps_inj mp' mq' (by rw [fin _ _ hp' hp ep, fin _ _ hq' hq eq, e])
  rw [← ep, ← eq, this]
theorem Kd.final (f : Form A n ls en) (k : Kd n ls en κ) (r : Refd A n ls κ κ') (h : (reps n κ').length ≤ (reps n κ).length) {p q : Nat} (hp : p < n) (hq : q < n) : κ' p = κ' q ↔ FE ls en p q := by
  have k' := k.ref f r
  refine ⟨fun e w => ?_, k'.co p q hp hq⟩
  induction w generalizing p q with
  | nil => exact k'.ed p q hp hq e
  | cons c w ih =>
    have st := ((r p q hp hq).mp e).2
    have one : ∀ {p q : Nat}, p < n → q < n → κ' p = κ' q → Fu ls en (c :: w) p → Fu ls en (c :: w) q := by
      rintro p q hp hq e ⟨p', m, hw⟩
      have st := ((r p q hp hq).mp e).2 c (f.sc.bnd _ m).2.1
      rw [(tg_some f.sc.srt).mpr m, Option.map_some] at st
      obtain ⟨q', e', eq⟩ := Option.map_eq_some_iff.mp st.symm
      have m' := (tg_some f.sc.srt).mp e'
      have b1 := (f.sc.bnd _ m).2.2
      have b2 := (f.sc.bnd _ m').2.2
      exact ⟨q', m', (ih b1 b2 ((refd_same r h b1 b2).mpr eq.symm)).mp hw⟩
    exact ⟨one hp hq e, one hq hp e.symm⟩
end

/-! ### the least machine -/
section
variable {A : List Nat} {n : Nat} {ls : List Lane} {en : List Nat} {κ : Nat → Nat}
/-- the table of kinds -/
def Quo (ls : List Lane) (κ : Nat → Nat) (δ : Nat → Nat → Option Nat) : Prop := ∀ k c m, δ k c = some m ↔ ∃ p q, (p, c, q) ∈ ls ∧ κ p = k ∧ κ q = m
theorem quo_fut (f : Form A n ls en) (hκ : ∀ p q, p < n → q < n → (κ p = κ q ↔ FE ls en p q)) {δ : Nat → Nat → Option Nat} (hδ : Quo ls κ δ) {fin : Nat → Prop}
    (hf : ∀ k, fin k ↔ ∃ e, e ∈ en ∧ κ e = k) : ∀ w p, p < n → (DR δ fin w (κ p) ↔ Fu ls en w p) := by
  intro w
  induction w with
  | nil =>
    intro p hp
    show fin _ ↔ p ∈ en
    rw [hf]
    constructor
    · rintro ⟨e, m, h⟩
      exact ((hκ e p (f.enb e m) hp).mp h []).mp m
    · intro m; exact ⟨p, m, rfl⟩
  | cons c w ih =>
    intro p hp
    constructor
    · rintro ⟨m, e, hw⟩
      obtain ⟨p', q', ml, e1, rfl⟩ := (hδ _ _ _).mp e
      obtain ⟨b1, _, b3⟩ := f.sc.bnd _ ml
      have hw' := (ih q' b3).mp hw
      exact ((hκ p' p b1 hp).mp e1 (c :: w)).mp ⟨q', ml, hw'⟩
    · rintro ⟨q, ml, hw⟩
      exact ⟨κ q, (hδ _ _ _).mpr ⟨p, q, ml, rfl, rfl⟩, (ih q (f.sc.bnd _ ml).2.2).mpr hw⟩
/-- the scan of the table of kinds is the least machine -/
theorem least_ok (f : Form A n ls en) (hκ : ∀ p q, p < n → q < n → (κ p = κ q ↔ FE ls en p q)) {δ : Nat → Nat → Option Nat} (hδ : Quo ls κ δ) {fin : Nat → Prop}
    (hf : ∀ k, fin k ↔ ∃ e, e ∈ en ∧ κ e = k) {S : List Nat} {ls' : List Lane} {en' : List Nat} (fs : FS A δ (κ 0) S ls') (hS : ∀ s, s ∈ S → ∃ p, p < n ∧ s = κ p)
    (clo : ∀ s c t, s ∈ S → δ s c = some t → t ∈ S)
    (hens : en'.Pairwise (· < ·)) (henb : ∀ e, e ∈ en' → e < S.length) (hen : ∀ a x, S[a]? = some x → (a ∈ en' ↔ fin x)) :
    Form A S.length ls' en' ∧ Red S.length ls' en' ∧ ∀ w, Fu ls' en' w 0 ↔ Fu ls en w 0 := by
  have hA : ∀ s c t, δ s c = some t → c ∈ A := by
    intro s c t e
    obtain ⟨p, q, m, _⟩ := (hδ _ _ _).mp e
    exact (f.sc.bnd _ m).2.1
  have fut := fs.fut hen hA clo
  refine ⟨fs.form hens henb hen hA clo fun x hx => ?_, fun p q hp hq h => ?_, fun w => ?_⟩
  · obtain ⟨p, hp, rfl⟩ := hS x hx
    obtain ⟨w, hw⟩ := f.use p hp
    exact ⟨w, (quo_fut f hκ hδ hf w p hp).mpr hw⟩
  · have ep := List.getElem?_eq_getElem hp
    have eq := List.getElem?_eq_getElem hq
    obtain ⟨a, ha, e1⟩ := hS _ (List.getElem_mem hp)
    obtain ⟨b, hb, e2⟩ := hS _ (List.getElem_mem hq)
    have : κ a = κ b := (hκ a b ha hb).mpr fun w => by
      rw [← quo_fut f hκ hδ hf w a ha, ← quo_fut f hκ hδ hf w b hb, ← e1, ← e2, ← fut w p _ ep, ← fut w q _ eq]
      exact h w
    have e3 : S[p] = S[q] := by rw [e1, e2, this]
    exact (List.getElem?_inj hp fs.nd).mp (by rw [ep, eq, e3])
  · rw [fut w 0 _ fs.hd, quo_fut f hκ hδ hf w 0 f.sc.pos]
end
end EM

set_option autoImplicit true
set_option maxHeartbeats 4000000
set_option autoImplicit false
set_option linter.all false
/-! Plain laws 4: patterns as texts. No program here. -/
namespace EM
def atomT : Atom → List Nat
  | .sym c => [c]
  | .dot => [46]
def sgT : Sg → List Nat
  | .one => []
  | .star => [42]
  | .opt => [63]
/-- parts with | between -/
def barred : List (List Nat) → List Nat
  | [] => []
  | [p] => p
  | p :: q :: r => p ++ (124 :: barred (q :: r))
section
variable {α : Type} (t : α → List Nat)
def itemT (x : α × Sg) : List Nat := t x.1 ++ sgT x.2
def rowT (r : List (α × Sg)) : List Nat := (r.map (itemT t)).flatten
def patT (p : List (List (α × Sg))) : List Nat := barred (p.map (rowT t))
end
def innT : (n : Nat) → Inner n → List Nat
  | 0, x => atomT x
  | _ + 1, .inl x => atomT x
  | n + 1, .inr p => 40 :: (patT (innT n) p ++ [41])
def atomOk (A : List Nat) : Atom → Prop
  | .sym c => c ∈ A
  | .dot => True
def PatOk {α : Type} (W : α → Prop) (p : List (List (α × Sg))) : Prop := p ≠ [] ∧ p.length ≤ 2 ∧ ∀ r, r ∈ p → r.length ≤ 3 ∧ ∀ x, x ∈ r → W x.1
def Wf (A : List Nat) : (n : Nat) → Inner n → Prop
  | 0, x => atomOk A x
  | _ + 1, .inl x => atomOk A x
  | n + 1, .inr p => PatOk (Wf A n) p
/-- how many letters and dots -/
def sumBy {β : Type} (f : β → Nat) (l : List β) : Nat := (l.map f).sum
def patN {α : Type} (f : α → Nat) (p : List (List (α × Sg))) : Nat := sumBy (fun r => sumBy (fun x : α × Sg => f x.1) r) p
def innN : (n : Nat) → Inner n → Nat
  | 0, _ => 1
  | _ + 1, .inl _ => 1
  | n + 1, .inr p => patN (innN n) p
theorem barred_cons (p : List Nat) {l : List (List Nat)} (h : l ≠ []) : barred (p :: l) = p ++ (124 :: barred l) := by
  cases l with
  | nil => exact absurd rfl h
  | cons q r => rfl
theorem sgL_ne {L : Lang} (h : ∃ w, L w) (s : Sg) : ∃ w, sgL L s w := by
  cases s with
  | one => exact h
  | star => exact ⟨[], .nil⟩
  | opt => exact ⟨[], .inl rfl⟩
theorem rowL_ne {α : Type} {L : α → Lang} : ∀ (r : List (α × Sg)), (∀ x, x ∈ r → ∃ w, L x.1 w) → ∃ w, rowL L r w := by
  intro r
  induction r with
  | nil => intro _; exact ⟨[], rfl⟩
  | cons x r ih =>
    intro h
    obtain ⟨x, s⟩ := x
    obtain ⟨u, hu⟩ := sgL_ne (h (x, s) (List.mem_cons_self ..)) s
    obtain ⟨v, hv⟩ := ih fun y m => h y (List.mem_cons_of_mem _ m)
    exact ⟨u ++ v, u, v, rfl, hu, hv⟩
theorem patL_ne {α : Type} {L : α → Lang} {p : List (List (α × Sg))} (h0 : p ≠ []) (h : ∀ r, r ∈ p → ∀ x, x ∈ r → ∃ w, L x.1 w) : ∃ w, patL L p w := by
  obtain ⟨r, hr⟩ := List.exists_mem_of_ne_nil p h0
  obtain ⟨w, hw⟩ := rowL_ne r (h r hr)
  exact ⟨w, r, hr, hw⟩
theorem innL_ne {A : List Nat} (hA : A ≠ []) : ∀ (n : Nat) (x : Inner n), Wf A n x → ∃ w, innL A n x w := by
  have at' : ∀ x : Atom, ∃ w, atomL A x w := by
    intro x
    cases x with
    | sym c => exact ⟨[c], rfl⟩
    | dot =>
      obtain ⟨c, hc⟩ := List.exists_mem_of_ne_nil A hA
      exact ⟨[c], c, hc, rfl⟩
  intro n
  induction n with
  | zero => intro x _; exact at' x
  | succ n ih =>
    intro x h
    cases x with
    | inl x => exact at' x
    | inr p => exact patL_ne h.1 fun r hr x hx => ih x.1 ((h.2.2 r hr).2 x hx)
theorem patOk_ne {A : List Nat} (hA : A ≠ []) {n : Nat} {p : Pat n} (h : PatOk (Wf A n) p) : ∃ w, patL (innL A n) p w :=
  patL_ne h.1 fun r hr x hx => innL_ne hA n x.1 ((h.2.2 r hr).2 x hx)

/-! ### how many signs stand for letters -/
/-- a letter or a dot -/
def isL (A : List Nat) (c : Nat) : Bool := decide (c ∈ A) || c == 46
def cnt (A : List Nat) (l : List Nat) : Nat := (l.filter (isL A)).length
theorem cnt_app (A a b : List Nat) : cnt A (a ++ b) = cnt A a + cnt A b := by simp [cnt]
section
variable {A : List Nat} (hA : ∀ c, c ∈ A → 97 ≤ c ∧ c ≤ 122)
include hA
theorem isL_no {c : Nat} (h : c < 97 ∨ 122 < c) (h' : c ≠ 46) : isL A c = false := by
  unfold isL
  have : c ∉ A := fun m => by have := hA c m; omega
  simp [this, h']
theorem cnt_atom {x : Atom} (h : atomOk A x) : cnt A (atomT x) = 1 := by
  cases x with
  | sym c =>
    have h : c ∈ A := h
    simp [cnt, atomT, isL, h]
  | dot => simp [cnt, atomT, isL]
theorem cnt_sg (s : Sg) : cnt A (sgT s) = 0 := by
  have h1 := isL_no hA (c := 42) (by omega) (by omega)
  have h2 := isL_no hA (c := 63) (by omega) (by omega)
  cases s <;> simp [cnt, sgT, h1, h2]
theorem cnt_row {α : Type} {t : α → List Nat} {f : α → Nat} : ∀ (r : List (α × Sg)), (∀ x, x ∈ r → cnt A (t x.1) = f x.1) → cnt A (rowT t r) = sumBy (fun x : α × Sg => f x.1) r := by
  intro r
  induction r with
  | nil => intro _; rfl
  | cons x r ih =>
    intro h
    have e : rowT t (x :: r) = itemT t x ++ rowT t r := rfl
    rw [e, cnt_app, ih fun y m => h y (List.mem_cons_of_mem _ m)]
    show cnt A (t x.1 ++ sgT x.2) + _ = _
    rw [cnt_app, cnt_sg hA, h x (List.mem_cons_self ..)]
    simp [sumBy]
theorem cnt_pat {α : Type} {t : α → List Nat} {f : α → Nat} : ∀ (p : List (List (α × Sg))), (∀ r, r ∈ p → ∀ x, x ∈ r → cnt A (t x.1) = f x.1) → cnt A (patT t p) = patN f p := by
  intro p
  induction p with
  | nil => intro _; rfl
  | cons r p ih =>
    intro h
    have h1 := cnt_row hA r (h r (List.mem_cons_self ..))
    have h2 := ih fun r m => h r (List.mem_cons_of_mem _ m)
    have bar : cnt A [124] = 0 := by simp [cnt, isL_no hA (c := 124) (by omega) (by omega)]
    cases p with
    | nil =>
      show cnt A (rowT t r) = _
      rw [h1]; simp [patN, sumBy]
    | cons q p =>
      have e : patT t (r :: q :: p) = rowT t r ++ ([124] ++ patT t (q :: p)) := rfl
      rw [e, cnt_app, cnt_app, h1, h2, bar]
      simp [patN, sumBy]
theorem cnt_in : ∀ (n : Nat) (x : Inner n), Wf A n x → cnt A (innT n x) = innN n x := by
  intro n
  induction n with
  | zero => intro x h; exact cnt_atom hA h
  | succ n ih =>
    intro x h
    cases x with
    | inl x => exact cnt_atom hA h
    | inr p =>
      have e : innT (n + 1) (.inr p) = [40] ++ (patT (innT n) p ++ [41]) := rfl
      have l : cnt A [40] = 0 := by simp [cnt, isL_no hA (c := 40) (by omega) (by omega)]
      have r : cnt A [41] = 0 := by simp [cnt, isL_no hA (c := 41) (by omega) (by omega)]
      rw [e, cnt_app, cnt_app, l, r, cnt_pat hA p fun r hr x hx => ih x.1 ((h.2.2 r hr).2 x hx)]
      show 0 + (_ + 0) = patN (innN n) p
      omega
theorem cnt_patOk {n : Nat} {p : Pat n} (h : PatOk (Wf A n) p) : cnt A (patT (innT n) p) = patN (innN n) p := cnt_pat hA p fun r hr x hx => cnt_in hA n x.1 ((h.2.2 r hr).2 x hx)
end
theorem sumBy_le {β : Type} {f : β → Nat} {k : Nat} : ∀ (l : List β), (∀ x, x ∈ l → f x ≤ k) → sumBy f l ≤ l.length * k := by
  intro l
  induction l with
  | nil => intro _; exact Nat.zero_le _
  | cons x r ih =>
    intro h
    have h1 := h x (List.mem_cons_self ..)
    have h2 := ih fun y m => h y (List.mem_cons_of_mem _ m)
    show f x + sumBy f r ≤ (r.length + 1) * k
    rw [Nat.add_mul]; omega
theorem patN0 {A : List Nat} {p : Pat 0} (h : PatOk (Wf A 0) p) : patN (innN 0) p ≤ 6 := by
  have h1 : ∀ r, r ∈ p → sumBy (fun x : Inner 0 × Sg => innN 0 x.1) r ≤ 3 := by
    intro r hr
    have := sumBy_le (f := fun x : Inner 0 × Sg => innN 0 x.1) (k := 1) r fun x _ => Nat.le_refl _
    have := (h.2.2 r hr).1
    omega
  have := sumBy_le (f := fun r => sumBy (fun x : Inner 0 × Sg => innN 0 x.1) r) (k := 3) p h1
  have := h.2.1
  show sumBy _ p ≤ 6
  omega
/-- the length of a pattern's text -/
def Tb : Nat → Nat
  | 0 => 13
  | n + 1 => 6 * (Tb n + 3) + 1
def Ib : Nat → Nat
  | 0 => 1
  | n + 1 => Tb n + 2
theorem rowT_le {α : Type} {t : α → List Nat} {k : Nat} : ∀ (r : List (α × Sg)), (∀ x, x ∈ r → (t x.1).length ≤ k) → (rowT t r).length ≤ r.length * (k + 1) := by
  intro r
  induction r with
  | nil => intro _; exact Nat.zero_le _
  | cons x r ih =>
    intro h
    have h1 := h x (List.mem_cons_self ..)
    have h2 := ih fun y m => h y (List.mem_cons_of_mem _ m)
    have e : rowT t (x :: r) = (t x.1 ++ sgT x.2) ++ rowT t r := rfl
    have h3 : (sgT x.2).length ≤ 1 := by cases x.2 <;> simp [sgT]
    rw [e, List.length_append, List.length_append]
    show _ ≤ (r.length + 1) * (k + 1)
    rw [Nat.add_mul r.length 1]
    omega
theorem patT_le {α : Type} {t : α → List Nat} {k : Nat} {W : α → Prop} {p : List (List (α × Sg))} (h : PatOk W p) (ht : ∀ x, W x → (t x).length ≤ k) : (patT t p).length ≤ 6 * (k + 1) + 1 := by
  have hr : ∀ r, r ∈ p → (rowT t r).length ≤ 3 * (k + 1) := by
    intro r m
    obtain ⟨l, w⟩ := h.2.2 r m
    have := rowT_le r fun x hx => ht x.1 (w x hx)
    exact Nat.le_trans this (Nat.mul_le_mul l (Nat.le_refl _))
  have two := h.2.1
  match p, two, hr with
  | [], _, _ => exact Nat.zero_le _
  | [a], _, hr =>
    have := hr a (by simp)
    show (rowT t a).length ≤ _
    omega
  | [a, b], _, hr =>
    have h1 := hr a (by simp)
    have h2 := hr b (by simp)
    have e : patT t [a, b] = rowT t a ++ (124 :: rowT t b) := rfl
    rw [e, List.length_append, List.length_cons]
    omega
theorem innT_le {A : List Nat} : ∀ (n : Nat) (x : Inner n), Wf A n x → (innT n x).length ≤ Ib n := by
  intro n
  induction n with
  | zero => intro x _; cases x <;> exact Nat.le_refl _
  | succ n ih =>
    intro x h
    cases x with
    | inl x =>
      have : (innT (n + 1) (.inl x)).length = 1 := by cases x <;> rfl
      rw [this]; show 1 ≤ Tb n + 2; omega
    | inr p =>
      have e : innT (n + 1) (.inr p) = 40 :: (patT (innT n) p ++ [41]) := rfl
      have := patT_le h fun x hx => ih x hx
      rw [e, List.length_cons, List.length_append]
      have t : 6 * (Ib n + 1) + 1 ≤ Tb n := by cases n <;> simp [Ib, Tb]
      show _ ≤ Tb n + 2
      simp; omega
theorem patT_lb {A : List Nat} {n : Nat} {p : Pat n} (h : PatOk (Wf A n) p) : (patT (innT n) p).length ≤ Tb n := by
  have := patT_le h fun x hx => innT_le n x hx
  have t : 6 * (Ib n + 1) + 1 ≤ Tb n := by cases n <;> simp [Ib, Tb]
  omega
end EM

set_option autoImplicit true
set_option maxHeartbeats 4000000
set_option autoImplicit false
set_option linter.all false
/-! Plain laws 5: every place is come to. No program here. -/
namespace EM
theorem Sc.reach {A : List Nat} {n : Nat} {ls : List Lane} (sc : Sc A n ls) {P : Nat → Prop} (h0 : P 0) (hc : ∀ l, l ∈ ls → P l.1 → P l.2.2) : ∀ t, t < n → P t := by
  have low : ∀ (pre post : List Lane), ls = pre ++ post → ∀ l, l ∈ pre → P l.2.2 := by
    intro pre
    induction h : pre.length generalizing pre with
    | zero =>
      intro post e l hl
      have : pre = [] := List.eq_nil_of_length_eq_zero h
      subst this; cases hl
    | succ k ih =>
      intro post e l hl
      rcases List.eq_nil_or_concat pre with z | ⟨pre', x, z⟩ <;> (try simp only [List.concat_eq_append] at z)
      · rw [z] at h; cases h
      · subst z
        have hk : pre'.length = k := by simpa using h
        have e' : ls = pre' ++ x :: post := by rw [e]; simp
        rcases List.mem_append.mp hl with m | m
        · exact ih pre' hk (x :: post) e' l m
        · rw [List.mem_singleton] at m
          subst m
          refine hc l (by rw [e']; simp) ?_
          rcases sc.src _ _ _ e' with z | ⟨l', m', el⟩
          · rw [z]; exact h0
          · rw [← el]; exact ih pre' hk (l :: post) e' l' m'
  intro t ht
  by_cases z : t = 0
  · rw [z]; exact h0
  · obtain ⟨l, m, e⟩ := sc.all t (by omega) ht
    rw [← e]
    exact low ls [] (by simp) l m
end EM

set_option autoImplicit true
set_option maxHeartbeats 4000000
set_option Elab.async false
set_option linter.all false
set_option maxRecDepth 100000
set_option maxHeartbeats 4000000
/-! Each def's names by slots (printed by gensc.py). -/
namespace E
open PySem PySem.Spec PyProof.Rows L2
-- is_number: 0 thing
abbrev N_is_number : List Str := ["thing"]
theorem sc_is_number : FnScope N_is_number ["thing"] (defScope s_is_number) := ⟨rfl, rfl, rfl, by decide +kernel, rfl, by decide +kernel, by decide +kernel⟩
-- is_list: 0 thing
abbrev N_is_list : List Str := ["thing"]
theorem sc_is_list : FnScope N_is_list ["thing"] (defScope s_is_list) := ⟨rfl, rfl, rfl, by decide +kernel, rfl, by decide +kernel, by decide +kernel⟩
-- found_states: 0 order  1 start  2 table  3 states  4 numbers  5 lanes  6 at  7 letter  8 then
abbrev N_found_states : List Str := ["order", "start", "table", "states", "numbers", "lanes", "at", "letter", "then"]
theorem sc_found_states : FnScope N_found_states ["order", "start", "table"] (defScope s_found_states) := ⟨rfl, rfl, rfl, by decide +kernel, rfl, by decide +kernel, by decide +kernel⟩
-- come_to: 0 lanes  1 ends  2 newest  3 elder  4 at  5 lane  6 end  7 useful  8 waiting  9 p
abbrev N_come_to : List Str := ["lanes", "ends", "newest", "elder", "at", "lane", "end", "useful", "waiting", "p"]
theorem sc_come_to : FnScope N_come_to ["lanes", "ends"] (defScope s_come_to) := ⟨rfl, rfl, rfl, by decide +kernel, rfl, by decide +kernel, by decide +kernel⟩
-- useful_form: 0 order  1 start  2 table  3 ends  4 met  5 lanes  6 at  7 state  8 stops  9 useful  10 numbers  11 p  12 letter  13 q  14 found  15 stop
abbrev N_useful_form : List Str := ["order", "start", "table", "ends", "met", "lanes", "at", "state", "stops", "useful", "numbers", "p", "letter", "q", "found", "stop"]
theorem sc_useful_form : FnScope N_useful_form ["order", "start", "table", "ends"] (defScope s_useful_form) := ⟨rfl, rfl, rfl, by decide +kernel, rfl, by decide +kernel, by decide +kernel⟩
-- future_kinds: 0 places  1 letters  2 targets  3 ends  4 p  5 kinds  6 count  7 signs  8 letter  9 numbers
abbrev N_future_kinds : List Str := ["places", "letters", "targets", "ends", "p", "kinds", "count", "signs", "letter", "numbers"]
theorem sc_future_kinds : FnScope N_future_kinds ["places", "letters", "targets", "ends"] (defScope s_future_kinds) := ⟨rfl, rfl, rfl, by decide +kernel, rfl, by decide +kernel, by decide +kernel⟩
-- least_form: 0 order  1 places  2 targets  3 ends  4 kinds  5 p  6 letter  7 q  8 table  9 end
abbrev N_least_form : List Str := ["order", "places", "targets", "ends", "kinds", "p", "letter", "q", "table", "end"]
theorem sc_least_form : FnScope N_least_form ["order", "places", "targets", "ends"] (defScope s_least_form) := ⟨rfl, rfl, rfl, by decide +kernel, rfl, by decide +kernel, by decide +kernel⟩
-- PatternReader.__init__: 0 self  1 order  2 text
abbrev N_PatternReader_init : List Str := ["self", "order", "text"]
theorem sc_PatternReader_init : FnScope N_PatternReader_init ["self", "order", "text"] (defScope s_PatternReader_init) := ⟨rfl, rfl, rfl, by decide +kernel, rfl, by decide +kernel, by decide +kernel⟩
-- PatternReader.sign: 0 self
abbrev N_PatternReader_sign : List Str := ["self"]
theorem sc_PatternReader_sign : FnScope N_PatternReader_sign ["self"] (defScope s_PatternReader_sign) := ⟨rfl, rfl, rfl, by decide +kernel, rfl, by decide +kernel, by decide +kernel⟩
-- PatternReader.rows: 0 self  1 found
abbrev N_PatternReader_rows : List Str := ["self", "found"]
theorem sc_PatternReader_rows : FnScope N_PatternReader_rows ["self"] (defScope s_PatternReader_rows) := ⟨rfl, rfl, rfl, by decide +kernel, rfl, by decide +kernel, by decide +kernel⟩
-- PatternReader.row: 0 self  1 found
abbrev N_PatternReader_row : List Str := ["self", "found"]
theorem sc_PatternReader_row : FnScope N_PatternReader_row ["self"] (defScope s_PatternReader_row) := ⟨rfl, rfl, rfl, by decide +kernel, rfl, by decide +kernel, by decide +kernel⟩
-- PatternReader.item: 0 self  1 found
abbrev N_PatternReader_item : List Str := ["self", "found"]
theorem sc_PatternReader_item : FnScope N_PatternReader_item ["self"] (defScope s_PatternReader_item) := ⟨rfl, rfl, rfl, by decide +kernel, rfl, by decide +kernel, by decide +kernel⟩
-- PatternReader.plain_item: 0 self  1 sign  2 found
abbrev N_PatternReader_plain_item : List Str := ["self", "sign", "found"]
theorem sc_PatternReader_plain_item : FnScope N_PatternReader_plain_item ["self"] (defScope s_PatternReader_plain_item) := ⟨rfl, rfl, rfl, by decide +kernel, rfl, by decide +kernel, by decide +kernel⟩
-- Spots.__init__: 0 self
abbrev N_Spots_init : List Str := ["self"]
theorem sc_Spots_init : FnScope N_Spots_init ["self"] (defScope s_Spots_init) := ⟨rfl, rfl, rfl, by decide +kernel, rfl, by decide +kernel, by decide +kernel⟩
-- Spots.link: 0 self  1 firsts  2 lasts  3 last  4 first
abbrev N_Spots_link : List Str := ["self", "firsts", "lasts", "last", "first"]
theorem sc_Spots_link : FnScope N_Spots_link ["self", "firsts", "lasts"] (defScope s_Spots_link) := ⟨rfl, rfl, rfl, by decide +kernel, rfl, by decide +kernel, by decide +kernel⟩
-- Spots.next_state: 0 self  1 state  2 letter  3 found  4 spot  5 then
abbrev N_Spots_next_state : List Str := ["self", "state", "letter", "found", "spot", "then"]
theorem sc_Spots_next_state : FnScope N_Spots_next_state ["self", "state", "letter"] (defScope s_Spots_next_state) := ⟨rfl, rfl, rfl, by decide +kernel, rfl, by decide +kernel, by decide +kernel⟩
-- Spots.laid: 0 self  1 tree  2 kind  3 inner  4 spot  5 has_empty  6 firsts  7 lasts
abbrev N_Spots_laid : List Str := ["self", "tree", "kind", "inner", "spot", "has_empty", "firsts", "lasts"]
theorem sc_Spots_laid : FnScope N_Spots_laid ["self", "tree"] (defScope s_Spots_laid) := ⟨rfl, rfl, rfl, by decide +kernel, rfl, by decide +kernel, by decide +kernel⟩
-- Spots.laid_row: 0 self  1 items  2 has_empty  3 firsts  4 lasts  5 item  6 may_lack  7 heads  8 tails
abbrev N_Spots_laid_row : List Str := ["self", "items", "has_empty", "firsts", "lasts", "item", "may_lack", "heads", "tails"]
theorem sc_Spots_laid_row : FnScope N_Spots_laid_row ["self", "items"] (defScope s_Spots_laid_row) := ⟨rfl, rfl, rfl, by decide +kernel, rfl, by decide +kernel, by decide +kernel⟩
-- Spots.laid_rows: 0 self  1 rows  2 row  3 found  4 spot  5 firsts
abbrev N_Spots_laid_rows : List Str := ["self", "rows", "row", "found", "spot", "firsts"]
theorem sc_Spots_laid_rows : FnScope N_Spots_laid_rows ["self", "rows"] (defScope s_Spots_laid_rows) := ⟨rfl, rfl, rfl, by decide +kernel, rfl, by decide +kernel, by decide +kernel⟩
-- pattern_form: 0 order  1 text  2 reader  3 tree  4 spots  5 has_empty  6 firsts  7 lasts  8 states  9 known  10 table  11 at  12 letter  13 then  14 state  15 spot  16 ends
abbrev N_pattern_form : List Str := ["order", "text", "reader", "tree", "spots", "has_empty", "firsts", "lasts", "states", "known", "table", "at", "letter", "then", "state", "spot", "ends"]
theorem sc_pattern_form : FnScope N_pattern_form ["order", "text"] (defScope s_pattern_form) := ⟨rfl, rfl, rfl, by decide +kernel, rfl, by decide +kernel, by decide +kernel⟩
-- is_lane: 0 order  1 thing
abbrev N_is_lane : List Str := ["order", "thing"]
theorem sc_is_lane : FnScope N_is_lane ["order", "thing"] (defScope s_is_lane) := ⟨rfl, rfl, rfl, by decide +kernel, rfl, by decide +kernel, by decide +kernel⟩
-- frozen_lanes: 0 order  1 lanes  2 index  3 lane  4 found  5 p  6 letter  7 q
abbrev N_frozen_lanes : List Str := ["order", "lanes", "index", "lane", "found", "p", "letter", "q"]
theorem sc_frozen_lanes : FnScope N_frozen_lanes ["order", "lanes"] (defScope s_frozen_lanes) := ⟨rfl, rfl, rfl, by decide +kernel, rfl, by decide +kernel, by decide +kernel⟩
-- frozen_ends: 0 ends  1 index  2 end
abbrev N_frozen_ends : List Str := ["ends", "index", "end"]
theorem sc_frozen_ends : FnScope N_frozen_ends ["ends"] (defScope s_frozen_ends) := ⟨rfl, rfl, rfl, by decide +kernel, rfl, by decide +kernel, by decide +kernel⟩
-- Machine.__init__: 0 self  1 order  2 lanes  3 ends  4 p  5 letter  6 q  7 told  8 at  9 numbers
abbrev N_Machine_init : List Str := ["self", "order", "lanes", "ends", "p", "letter", "q", "told", "at", "numbers"]
theorem sc_Machine_init : FnScope N_Machine_init ["self", "order", "lanes", "ends"] (defScope s_Machine_init) := ⟨rfl, rfl, rfl, by decide +kernel, rfl, by decide +kernel, by decide +kernel⟩
-- Machine.check_idle: 0 self  1 waiting  2 met  3 here  4 letter  5 then  6 useful  7 p
abbrev N_Machine_check_idle : List Str := ["self", "waiting", "met", "here", "letter", "then", "useful", "p"]
theorem sc_Machine_check_idle : FnScope N_Machine_check_idle ["self"] (defScope s_Machine_check_idle) := ⟨rfl, rfl, rfl, by decide +kernel, rfl, by decide +kernel, by decide +kernel⟩
-- Machine.read: 0 cls  1 order  2 text  3 lanes  4 ends
abbrev N_Machine_read : List Str := ["cls", "order", "text", "lanes", "ends"]
theorem sc_Machine_read : FnScope N_Machine_read ["cls", "order", "text"] (defScope s_Machine_read) := ⟨rfl, rfl, rfl, by decide +kernel, rfl, by decide +kernel, by decide +kernel⟩
-- Machine.go: 0 self  1 p  2 letter
abbrev N_Machine_go : List Str := ["self", "p", "letter"]
theorem sc_Machine_go : FnScope N_Machine_go ["self", "p", "letter"] (defScope s_Machine_go) := ⟨rfl, rfl, rfl, by decide +kernel, rfl, by decide +kernel, by decide +kernel⟩
-- Machine.walked: 0 self  1 p  2 word  3 letter
abbrev N_Machine_walked : List Str := ["self", "p", "word", "letter"]
theorem sc_Machine_walked : FnScope N_Machine_walked ["self", "p", "word"] (defScope s_Machine_walked) := ⟨rfl, rfl, rfl, by decide +kernel, rfl, by decide +kernel, by decide +kernel⟩
-- Machine.__contains__: 0 self  1 thing
abbrev N_Machine_contains : List Str := ["self", "thing"]
theorem sc_Machine_contains : FnScope N_Machine_contains ["self", "thing"] (defScope s_Machine_contains) := ⟨rfl, rfl, rfl, by decide +kernel, rfl, by decide +kernel, by decide +kernel⟩
-- Machine.least: 0 self  1 lanes  2 ends
abbrev N_Machine_least : List Str := ["self", "lanes", "ends"]
theorem sc_Machine_least : FnScope N_Machine_least ["self"] (defScope s_Machine_least) := ⟨rfl, rfl, rfl, by decide +kernel, rfl, by decide +kernel, by decide +kernel⟩
-- are_letters: 0 thing  1 sign
abbrev N_are_letters : List Str := ["thing", "sign"]
theorem sc_are_letters : FnScope N_are_letters ["thing"] (defScope s_are_letters) := ⟨rfl, rfl, rfl, by decide +kernel, rfl, by decide +kernel, by decide +kernel⟩
-- Order.__init__: 0 self  1 letters  2 at  3 letter
abbrev N_Order_init : List Str := ["self", "letters", "at", "letter"]
theorem sc_Order_init : FnScope N_Order_init ["self", "letters"] (defScope s_Order_init) := ⟨rfl, rfl, rfl, by decide +kernel, rfl, by decide +kernel, by decide +kernel⟩
-- Order.__contains__: 0 self  1 thing
abbrev N_Order_contains : List Str := ["self", "thing"]
theorem sc_Order_contains : FnScope N_Order_contains ["self", "thing"] (defScope s_Order_contains) := ⟨rfl, rfl, rfl, by decide +kernel, rfl, by decide +kernel, by decide +kernel⟩
-- Order.__eq__: 0 self  1 other
abbrev N_Order_eq : List Str := ["self", "other"]
theorem sc_Order_eq : FnScope N_Order_eq ["self", "other"] (defScope s_Order_eq) := ⟨rfl, rfl, rfl, by decide +kernel, rfl, by decide +kernel, by decide +kernel⟩
-- Order.is_word: 0 self  1 thing  2 sign
abbrev N_Order_is_word : List Str := ["self", "thing", "sign"]
theorem sc_Order_is_word : FnScope N_Order_is_word ["self", "thing"] (defScope s_Order_is_word) := ⟨rfl, rfl, rfl, by decide +kernel, rfl, by decide +kernel, by decide +kernel⟩
-- _law_cell: 0 _law_script  1 _law_k
abbrev N_L_cell : List Str := ["_law_script", "_law_k"]
theorem sc_L_cell : FnScope N_L_cell ["_law_script", "_law_k"] (defScope s_L_cell) := ⟨rfl, rfl, rfl, by decide +kernel, rfl, by decide +kernel, by decide +kernel⟩
-- _law_pool: 0 _law_cell_here  1 _law_folded
abbrev N_L_pool : List Str := ["_law_cell_here", "_law_folded"]
theorem sc_L_pool : FnScope N_L_pool ["_law_cell_here"] (defScope s_L_pool) := ⟨rfl, rfl, rfl, by decide +kernel, rfl, by decide +kernel, by decide +kernel⟩
-- _law_take: 0 _law_pool_here  1 _law_many  2 _law_draw  3 _law_mixed_here
abbrev N_L_take : List Str := ["_law_pool_here", "_law_many", "_law_draw", "_law_mixed_here"]
theorem sc_L_take : FnScope N_L_take ["_law_pool_here", "_law_many"] (defScope s_L_take) := ⟨rfl, rfl, rfl, by decide +kernel, rfl, by decide +kernel, by decide +kernel⟩
-- _law_mixed: 0 _law_pool_here  1 _law_things  2 _law_left  3 _law_found  4 _law_k  5 _law_at
abbrev N_L_mixed : List Str := ["_law_pool_here", "_law_things", "_law_left", "_law_found", "_law_k", "_law_at"]
theorem sc_L_mixed : FnScope N_L_mixed ["_law_pool_here", "_law_things"] (defScope s_L_mixed) := ⟨rfl, rfl, rfl, by decide +kernel, rfl, by decide +kernel, by decide +kernel⟩
-- _law_letters: 0 _law_pool_here  1 _law_most  2 _law_some
abbrev N_L_letters : List Str := ["_law_pool_here", "_law_most", "_law_some"]
theorem sc_L_letters : FnScope N_L_letters ["_law_pool_here", "_law_most"] (defScope s_L_letters) := ⟨rfl, rfl, rfl, by decide +kernel, rfl, by decide +kernel, by decide +kernel⟩
-- _law_all_words: 0 _law_letters_here  1 _law_most  2 _law_found  3 _law_level  4 _law_turn  5 _law_further  6 _law_word  7 _law_letter
abbrev N_L_all_words : List Str := ["_law_letters_here", "_law_most", "_law_found", "_law_level", "_law_turn", "_law_further", "_law_word", "_law_letter"]
theorem sc_L_all_words : FnScope N_L_all_words ["_law_letters_here", "_law_most"] (defScope s_L_all_words) := ⟨rfl, rfl, rfl, by decide +kernel, rfl, by decide +kernel, by decide +kernel⟩
-- _law_pattern: 0 _law_pool_here  1 _law_letters_here  2 _law_depth  3 _law_found  4 _law_turn  5 _law_row  6 _law_step  7 _law_inner
abbrev N_L_pattern : List Str := ["_law_pool_here", "_law_letters_here", "_law_depth", "_law_found", "_law_turn", "_law_row", "_law_step", "_law_inner"]
theorem sc_L_pattern : FnScope N_L_pattern ["_law_pool_here", "_law_letters_here", "_law_depth"] (defScope s_L_pattern) := ⟨rfl, rfl, rfl, by decide +kernel, rfl, by decide +kernel, by decide +kernel⟩
-- _law_pattern_text: 0 _law_pattern_here  1 _law_found  2 _law_row  3 _law_text  4 _law_inner  5 _law_sign
abbrev N_L_pattern_text : List Str := ["_law_pattern_here", "_law_found", "_law_row", "_law_text", "_law_inner", "_law_sign"]
theorem sc_L_pattern_text : FnScope N_L_pattern_text ["_law_pattern_here"] (defScope s_L_pattern_text) := ⟨rfl, rfl, rfl, by decide +kernel, rfl, by decide +kernel, by decide +kernel⟩
-- _law_plain_stops: 0 _law_inner  1 _law_word  2 _law_at
abbrev N_L_plain_stops : List Str := ["_law_inner", "_law_word", "_law_at"]
theorem sc_L_plain_stops : FnScope N_L_plain_stops ["_law_inner", "_law_word", "_law_at"] (defScope s_L_plain_stops) := ⟨rfl, rfl, rfl, by decide +kernel, rfl, by decide +kernel, by decide +kernel⟩
-- _law_item_stops: 0 _law_item  1 _law_word  2 _law_at  3 _law_inner  4 _law_sign  5 _law_found  6 _law_stop  7 _law_k
abbrev N_L_item_stops : List Str := ["_law_item", "_law_word", "_law_at", "_law_inner", "_law_sign", "_law_found", "_law_stop", "_law_k"]
theorem sc_L_item_stops : FnScope N_L_item_stops ["_law_item", "_law_word", "_law_at"] (defScope s_L_item_stops) := ⟨rfl, rfl, rfl, by decide +kernel, rfl, by decide +kernel, by decide +kernel⟩
-- _law_stops: 0 _law_pattern_here  1 _law_word  2 _law_at  3 _law_found  4 _law_row  5 _law_spots  6 _law_item  7 _law_further  8 _law_spot  9 _law_stop
abbrev N_L_stops : List Str := ["_law_pattern_here", "_law_word", "_law_at", "_law_found", "_law_row", "_law_spots", "_law_item", "_law_further", "_law_spot", "_law_stop"]
theorem sc_L_stops : FnScope N_L_stops ["_law_pattern_here", "_law_word", "_law_at"] (defScope s_L_stops) := ⟨rfl, rfl, rfl, by decide +kernel, rfl, by decide +kernel, by decide +kernel⟩
-- _law_small_pattern: 0 _law_pool_here  1 _law_letters_here  2 _law_depth  3 _law_pattern_here  4 _law_text  5 _law_sign
abbrev N_L_small_pattern : List Str := ["_law_pool_here", "_law_letters_here", "_law_depth", "_law_pattern_here", "_law_text", "_law_sign"]
theorem sc_L_small_pattern : FnScope N_L_small_pattern ["_law_pool_here", "_law_letters_here"] (defScope s_L_small_pattern) := ⟨rfl, rfl, rfl, by decide +kernel, rfl, by decide +kernel, by decide +kernel⟩
-- law: 0 _law_script  1 _law_k  2 _law_pool_here  3 _law_letters_here  4 _law_pattern_here  5 _law_text  6 _law_order  7 _law_machine  8 _law_word  9 _law_least  10 _law_again
abbrev N_law : List Str := ["_law_script", "_law_k", "_law_pool_here", "_law_letters_here", "_law_pattern_here", "_law_text", "_law_order", "_law_machine", "_law_word", "_law_least", "_law_again"]
theorem sc_law : FnScope N_law ["_law_script"] (defScope s_law) := ⟨rfl, rfl, rfl, by decide +kernel, rfl, by decide +kernel, by decide +kernel⟩
end E

set_option autoImplicit true
set_option maxHeartbeats 4000000
set_option Elab.async false
set_option linter.all false
set_option maxRecDepth 100000
set_option maxHeartbeats 4000000
/-! Helpers: heaps that keep, new objects, texts as lists of codes, a def and its promise in one. -/
namespace E
open PySem PySem.Spec PyProof.Rows L2
/-! ### heaps: all but M is as it was -/
abbrev AP := Addr → Prop
def Kp (M : AP) (H H' : Hp) : Prop := ∀ b o, H b = some o → ¬ M b → H' b = some o
abbrev none' : AP := fun _ => False
abbrev only (a : Addr) : AP := fun b => b = a
section
variable {M M' M1 M2 : AP} {H H0 H1 H2 H' : Hp} {a p : Addr} {o u : HO}
theorem Kp.refl (H : Hp) : Kp M H H := fun _ _ h _ => h
theorem Kp.trans (h : Kp M H H1) (k : Kp M H1 H2) : Kp M H H2 := fun b o e n => k b o (h b o e n) n
theorem Kp.mono (h : Kp M H H1) (k : ∀ b, M b → M' b) : Kp M' H H1 := fun b o e n => h b o e fun m => n (k b m)
theorem Kp.new (h : H p = none) : Kp M H (upd H p o) := fun b u e _ => by rw [upd_ne (ne_of_none e h)]; exact e
theorem Kp.put (h : M a) : Kp M H (upd H a o) := fun b u e n => by rw [upd_ne (show b ≠ a from fun z => n (by rw [z]; exact h))]; exact e
/-- what was changed between was fresh before, or is in M -/
theorem Kp.step (h : Kp M H H1) (k : Kp M1 H1 H2) (d : ∀ b, M1 b → M b ∨ H b = none) : Kp M H H2 := fun b o e n =>
  k b o (h b o e n) fun m => (d b m).elim n fun z => by rw [z] at e; cases e
theorem Kp.free (h : Kp M H H') (e : H' a = none) (n : ¬ M a) : H a = none := by
  cases q : H a with
  | none => rfl
  | some o => rw [h a o q n] at e; cases e
theorem Kp.same (h : Kp none' H H') : Same H H' := fun b o e => h b o e fun z => z
theorem Same.kp (h : Same H H') : Kp M H H' := fun b o e _ => h b o e
theorem Kp.at (h : Kp (only a) H H') {b : Addr} (e : H b = some o) (n : b ≠ a) : H' b = some o := h b o e n
theorem Kp.sql {K : PySem.W.Frag} {xs : List V} (h : Kp M H H') (e : SqL K H a xs) (n : ¬ M a) : SqL K H' a xs := by
  rcases e with (e | ⟨o, e⟩) | e
  · exact .inl (.inl (h _ _ e n))
  · exact .inl (.inr ⟨o, h _ _ e n⟩)
  · exact .inr e
theorem Kp.sqt {K : PySem.W.Frag} {xs : List V} (h : Kp M H H') (e : SqT K H a xs) (n : ¬ M a) : SqT K H' a xs := by
  rcases e with (e | ⟨o, e⟩) | e
  · exact .inl (.inl (h _ _ e n))
  · exact .inl (.inr ⟨o, h _ _ e n⟩)
  · exact .inr e
theorem Same.up (h : H p = none) : Same H (upd H p o) := fun b u e => by rw [upd_ne (ne_of_none e h)]; exact e
theorem kp_only_same (h : Kp (only a) H1 H2) (s : Same H H1) (f : H a = none) : Same H H2 := fun b o e => h b o (s b o e) (ne_of_none e f)
/-- a new object, told by what stays -/
theorem newI {Q : V → Hp → Prop} (k : ∀ p H', H p = none → Same H H' → H' p = some o → (∀ b, b ≠ p → H' b = H b) → Q (.ref p) H') : ∀ p, H p = none → Q (.ref p) (upd H p o) :=
  fun p hp => k p _ hp (Same.up hp) upd_same fun b n => upd_ne n
/-- a changed object, told by what stays -/
theorem putI {Q : Hp → Prop} (k : ∀ H', (∀ b, b ≠ a → H' b = H b) → H' a = some o → Q H') : Q (upd H a o) := k _ (fun b n => upd_ne n) upd_same
end

/-! ### texts -/
def sOf (l : List Nat) : Str := ⟨l.toArray⟩
theorem sOf_len (l : List Nat) : (sOf l).length = l.length := by show l.toArray.size = _; simp
theorem sOf_toList (l : List Nat) : (sOf l).cps.toList = l := by show l.toArray.toList = l; simp
theorem sOf_self (z : Str) : sOf z.cps.toList = z := by cases z; simp [sOf]
theorem sOf_app (a b : List Nat) : sOf a ++ sOf b = sOf (a ++ b) := by
  show (⟨a.toArray ++ b.toArray⟩ : Str) = ⟨(a ++ b).toArray⟩
  simp
theorem sOf_inj {a b : List Nat} (h : sOf a = sOf b) : a = b := by
  have := congrArg (fun z : Str => z.cps.toList) h
  simpa [sOf] using this
theorem sOf_one (c : Nat) : (⟨#[c]⟩ : Str) = sOf [c] := rfl
theorem sOf_nil : ("" : Str) = sOf [] := rfl

/-! ### a def and its promise -/
section
variable (P : Program) (w : World) (K : PySem.W.Frag) (mg : Str → Option Value) (base : Heap)
/-- the def at f keeps the promise sp at level k, binds its parameters ps, and stands -/
def Ok (k : Nat) (f : Addr) (ps : List Str) (sp : Sp) : Prop := ∃ fd, FnOk P w K mg base CX0 k f fd ps sp ∧ Binds K fd ps [] ∧ PySem.W.keepIn K (.ref f) = true
end
section
variable {P : Program} {w : World} {K : PySem.W.Frag} {mg : Str → Option Value} {base : Heap}
theorem Ok.mono {j k : Nat} {f : Addr} {ps : List Str} {sp : Sp} (h : Ok P w K mg base j f ps sp) (l : j ≤ k) : Ok P w K mg base k f ps sp := by
  obtain ⟨fd, F, b, kp⟩ := h
  exact ⟨fd, F.mono l, b, kp⟩
/-- THE RULE for a def of the text -/
theorem ok_mk {x q : Str} {st : Stmt} {f : Addr} {N ps : List Str} {k : Nat} {sp : Sp} (F : ∃ fd, Fd K x q st f fd) (S : FnScope N ps (defScope st))
    (hb : ∀ (kV doc pm : Value) (an : Option Addr) (cdv ct : Value) (us : List Value), us.length = ps.length → bindArgs (PySem.W.fnOf x q (defArgs st) (defBody st) (defScope st) .none kV doc pm an cdv ct) ⟨us, []⟩ = pure (ps.zip us))
    (len : ∀ vs H Q E, sp vs H Q E → vs.length = ps.length)
    (hbody : ∀ (cdv : Value) (A : Around) (outer : List Env) (s : Shared) (H : Hp) (vs : List V) (Q : VK) (E : XK), Room k (A.deeper (envOfC q (defScope st) s.heap.objs.size f cdv)) → sp vs H Q E →
      ∃ t, PSs (cxOf CX0 P w K mg base N q (defScope st) f cdv A outer s H E).nox (defBody st) t ∧ t { nx := fun _ H' => Q .non H', rt := Q } (start N vs) H) : Ok P w K mg base (k + 1) f ps sp := by
  obtain ⟨fd, F⟩ := F
  refine ⟨fd, F.ok S len fun cdv A outer s H vs Q E hr h => ?_, F.bindsN hb, F.kp⟩
  obtain ⟨t, h1, h2⟩ := hbody cdv A outer s H vs Q E hr h
  exact ⟨t, h1.nox, h2⟩
end
end E

set_option autoImplicit true
set_option maxHeartbeats 4000000
set_option Elab.async false
set_option linter.all false
set_option maxRecDepth 100000
set_option maxHeartbeats 4000000
/-! Rules: list(text); set(..) of whatever is walked; len and sorted of a set. -/
namespace E
open PySem PySem.Spec PyProof.Rows L2
section
variable {X : Cx}
/-- list(text): its signs -/
def signsV (l : List Nat) : List V := l.map fun c => V.str (sOf [c])
theorem cr_listStr (hc : X.calm = true) : CallR X (.type "list") (fun xs H Q => ∃ l : List Nat, xs = [.str (sOf l)] ∧ l.length ≤ sizeLine ∧ ∀ p, H p = none → Q (.ref p) (upd H p (.lst (signsV l)))) := by
  intro pins s σ H xs us Q I r h
  obtain ⟨l, rfl, hl, q⟩ := h
  obtain ⟨u, rfl, rx⟩ := vals1 r
  obtain ⟨t, rfl⟩ := rx
  have hsz : (sOf l).cps.size = l.length := by show l.toArray.size = _; simp
  refine PySem.call_list_str (I.ok.hd hc) (sOf l) t (fun h' tk acc' c' kp e it => ?_) (by rw [hsz]; exact hl)
  refine ⟨.ref s.heap.objs.size, _, I.laid (t' := tk) kp (Nat.le_refl _) (show ObjOk X.prog X.w _ h' _ (.lst (signsV l)) from ⟨by simpa [signsV] using hl, acc'.toList, c', ?_, by simpa using e⟩), rfl, q _ (I.hok.fresh (Nat.le_refl _))⟩
  have hlen : (signsV l).length = acc'.toList.length := by rw [Array.length_toList (xs := acc'), it.1, hsz]; simp [signsV]
  refine vals_of_at hlen fun j x u hx hu => ?_
  obtain ⟨c, t', hc', rfl⟩ := it.2 j u (by simpa using hu)
  have e2 : l[j]? = some c := by
    have : (sOf l).cps[j]? = l[j]? := by show l.toArray[j]? = _; simp
    rw [← this]; exact hc'
  unfold signsV at hx
  rw [List.getElem?_map, e2] at hx
  cases hx
  exact ⟨t', rfl⟩
end
/-! ### set(v) of anything that is walked -/
section
variable {P : Program} {w : World} {A : Around} {Er : Value → Shared → Prop} {s : Shared}
abbrev freshSet (w : World) : Obj := { cls := .type "set", dict := none, data := .set #[] 0 (.fresh 0 0 (!w.params.followText "set-order")) }
theorem set_loop_gen {I : Addr} {fp wr : List Addr} {G : Array GenState → Array GenState → Prop} {n : Nat} {Pv : Nat → Value → Prop} {St : Nat → Shared → Prop} {R : Result → Shared → Prop} (W : WalksS P w A.in1 I fp wr G n Pv St) (S : Addr) (hSf : S ∉ fp)
    (J : Nat → Heap → Prop) (hJ : ∀ i h h', J i h → (∀ o, h.get? S = some o → h'.get? S = some o) → J i h')
    (hadd : ∀ i v (s : Shared) (Q : Bool → Shared → Prop) (A' : Around) (E' : Value → Shared → Prop), i < n → Pv i v → J i s.heap → (∀ r h' tk, Heap.SameBut S s.heap h' → J (i + 1) h' → s.toks ≤ tk → Q r { s with heap := h', toks := tk }) → wpAny (model P w) A' (setAdd S v) Q E' s) :
    ∀ (k i : Nat) (s : Shared), n - i = k → i ≤ n → St i s → J i s.heap → (∀ s', Moved (S :: wr) G s s' → J n s'.heap → R (.ok (.ret .none)) s') →
      codeAny (model P w) A (.builtin "set.update.loop" ⟨[.ref S, .ref I], []⟩) R s := by
  have notw : S ∉ wr := fun h => hSf (W.sub _ h)
  have more : ∀ b ∈ wr, b ∈ S :: wr := fun b hb => List.mem_cons_of_mem _ hb
  intro k
  induction k with
  | zero =>
    intro i s hk hi hst hj hR
    obtain rfl : i = n := by omega
    refine codeAny_builtin F.entry_set_update_loop ?_
    rw [Around.under_plainId F.plain_set_update_loop _]
    show wpAny _ A.in1 (pyNext (.ref I) >>= _) _ _ s
    exact wpAny_bind (W.done s _ _ hst fun s' hm => wpAny_pure (hR s' (hm.mono more) (hJ _ _ _ hj fun o e => hm.heap S o notw e)))
  | succ k ih =>
    intro i s hk hi hst hj hR
    have lt : i < n := by omega
    refine codeAny_builtin F.entry_set_update_loop ?_
    rw [Around.under_plainId F.plain_set_update_loop _]
    show wpAny _ A.in1 (pyNext (.ref I) >>= _) _ _ s
    refine wpAny_bind (W.item i s _ _ lt hst fun v s' hP hst' hm => ?_)
    have hj' := hJ _ _ _ hj fun o e => hm.heap S o notw e
    show wpAny _ A.in1 (holding [v] (setAdd S v) >>= _) _ _ s'
    refine wpAny_bind (wpAny_holding (hadd i v s' _ _ _ lt hP hj' fun r h' tk hsb hj2 htk => ?_))
    refine wpAny_pure ⟨plainId_quiet F.plain_set_update_loop _, ih (i + 1) _ (by omega) lt (W.frame _ s' _ _ hst' htk fun b hb o e => ?_) hj2 fun s'' hm2 hj3 => ?_⟩
    · rw [hsb.2 b (fun z : b = S => hSf (z ▸ hb))]; exact e
    · refine hR s'' (Moved.trans W.gtrans ((hm.mono more).then_heap htk fun b o hb e => ?_) hm2) hj3
      rw [hsb.2 b (fun z : b = S => hb (by rw [z]; exact List.mem_cons_self))]; exact e
set_option maxHeartbeats 8000000 in
theorem call_set_gen {v : Value} {T : String} {n : Nat} {Pv : Nat → Value → Prop} {Q : Value → Shared → Prop} (hh : A.handled = none) (sub1 : isSubtype (.type T) (.type "set") = pure false) (sub2 : isSubtype (.type T) (.type "frozenset") = pure false)
    (hne : (Value.type T == Value.type "dict") = false) (hT : ∀ s1 : Shared, (∀ b o, s.heap.get? b = some o → s1.heap.get? b = some o) → s1.TypeIs v T)
    (hit : ∀ (s1 : Shared) (A' : Around) (Q' : Value → Shared → Prop) (E' : Value → Shared → Prop), (∀ b o, s.heap.get? b = some o → s1.heap.get? b = some o) → s.heap.objs.size < s1.heap.objs.size →
      (∀ (o : Obj) (fp : List Addr) (St : Nat → Heap → Prop), s.heap.objs.size ∉ fp → (∀ A'' : Around, A''.handled = none → Walks P w A'' s1.heap.objs.size fp [s1.heap.objs.size] n Pv St) → St 0 (s1.heap.push o) → Q' (.ref s1.heap.objs.size) { s1 with heap := s1.heap.push o }) → wpAny (model P w) A' (pyIter v) Q' E' s1)
    (J : Nat → Heap → Prop) (hJ : ∀ i h h', J i h → (∀ o, h.get? s.heap.objs.size = some o → h'.get? s.heap.objs.size = some o) → J i h') (h0 : ∀ h, h.get? s.heap.objs.size = some (freshSet w) → J 0 h)
    (hadd : ∀ i u (s1 : Shared) (Q : Bool → Shared → Prop) (A' : Around) (E' : Value → Shared → Prop), i < n → Pv i u → J i s1.heap → (∀ r h' tk, Heap.SameBut s.heap.objs.size s1.heap h' → J (i + 1) h' → s1.toks ≤ tk → Q r { s1 with heap := h', toks := tk }) → wpAny (model P w) A' (setAdd s.heap.objs.size u) Q E' s1)
    (h : ∀ (h' : Heap) (tk : Nat), J n h' → (∀ b o, s.heap.get? b = some o → h'.get? b = some o) → Q (.ref s.heap.objs.size) { s with heap := h', toks := tk }) : wpAny (model P w) A (call (.type "set") [v]) Q Er s := by
  obtain ⟨c, tl, hmro⟩ := F.called_set.mro
  have hmade := F.called_set.made
  have hsub := F.called_set.sub
  refine wpAny_call (codeAny_of_tree ?_)
  show wpAny _ _ (callAny (.type "set") _) _ _ _
  refine wpAny_pure ⟨Code.quiet_builtin _ (by decide +kernel), codeAny_builtin F.entry_type_call ?_⟩
  rw [Around.under_plain (weight_type_call_type "set" [v] []) rfl]
  have k1 := F.called_set.notType
  have k2 := F.called_set.canCreate
  have k3 := F.typeCall_set_1 v
  repeat (any_goals (first | assumption | wp_step))
  refine codeAny_mono (code_set_led1 v (E := Er) (Q₁ := fun obj s₁ => obj = .ref s.heap.objs.size ∧ s₁ = { s with heap := s.heap.push (freshSet w) }) ⟨rfl, rfl⟩) fun r s₁ hr => ?_
  cases r with
  | error e => exact hr
  | ok fl =>
    cases fl with
    | ret obj =>
      obtain ⟨rfl, rfl⟩ := hr
      have hS : (s.heap.push (freshSet w)).get? s.heap.objs.size = some (freshSet w) := Heap.get?_push_size _ rfl
      have tS : Shared.TypeIs { s with heap := s.heap.push (freshSet w) } (.ref s.heap.objs.size) "set" := ⟨_, hS, rfl⟩
      have hli := F.called_set.init.lookup
      have hbi := F.called_set.init.bind (.ref s.heap.objs.size)
      repeat (any_goals (first | assumption | wp_step))
      refine codeAny_mono (codeAny_call_builtin (R := wants (fun r s₂ => r = .none ∧ ∃ h' tk, s₂ = { s with heap := h', toks := tk } ∧ J n h' ∧ (∀ b o, s.heap.get? b = some o → h'.get? b = some o)) Er) F.called_set.init.plain F.entry_set_init (check_set_init_1 tS ?_)) fun r₂ s₂ hr₂ => ?_
      · have hk1 : ∀ b o, s.heap.get? b = some o → (s.heap.push (freshSet w)).get? b = some o := fun b o e => Heap.get?_push_of_some _ e
        have hTv := hT { s with heap := s.heap.push (freshSet w) } hk1
        unfold Builtin.«set.__init__» noKeywords Builtin.Frozenset.updateFrom
        generalize hPI : pyIter = PI
        wp_walk
        subst hPI
        have hz1 : (s.heap.push (freshSet w)).objs.size = s.heap.objs.size + 1 := Heap.size_push ..
        refine hit _ _ _ _ hk1 (by show s.heap.objs.size < (s.heap.push (freshSet w)).objs.size; rw [hz1]; exact Nat.lt_succ_self _) fun o fp St hfp W hst => ?_
        refine wpAny_bind (wpAny_runValue ?_)
        refine set_loop_gen (W _ (by simp [hh])).toS s.heap.objs.size hfp J hJ (fun i u s1 Q A' E' a b c d => hadd i u s1 Q A' E' a b c d) (n - 0) 0 _ (by omega) (Nat.zero_le _) hst (h0 _ (Heap.get?_push_of_some _ hS)) fun s' hm hj => ?_
        obtain ⟨h', g2, d', tk', os'⟩ := s'
        have eg : g2 = s.gens := hm.gens
        have ed : d' = s.drawn := hm.drawn
        have eo : os' = s.os := hm.os
        subst eg; subst ed; subst eo
        refine wpAny_pure ?_
        show wpAny _ _ (ret Value.none) _ _ _
        refine wpAny_pure ⟨rfl, h', tk', rfl, hj, fun b o2 e => ?_⟩
        have lt : b < s.heap.objs.size := Heap.lt_size e
        refine hm.heap b o2 (fun z => ?_) (Heap.get?_push_of_some _ (hk1 _ _ e))
        rcases List.mem_cons.mp z with z | z
        · exact absurd lt (by rw [z]; exact Nat.lt_irrefl _)
        · have z := List.mem_singleton.mp z
          have z : b = (s.heap.push (freshSet w)).objs.size := z
          rw [hz1] at z
          exact absurd lt (by rw [z]; exact Nat.not_lt.mpr (Nat.le_succ _))
      · cases r₂ with
        | error e => exact hr₂
        | ok fl₂ =>
          cases fl₂ with
          | ret r =>
            obtain ⟨rfl, h', tk, rfl, hj, hk⟩ := hr₂
            repeat (any_goals (first | assumption | wp_step))
            exact h _ _ hj hk
          | _ => exact hr₂.elim
    | _ => exact hr.elim
end
end E

set_option autoImplicit true
set_option maxHeartbeats 4000000
set_option Elab.async false
set_option linter.all false
set_option maxRecDepth 100000
set_option maxHeartbeats 4000000
/-! Rules: set of ints, set of a text's signs, len of a set, sorted of a set of ints. -/
namespace E
open PySem PySem.Spec PyProof.Rows L2
/-- the members, each once -/
def Mem1 (ns es : List Int) : Prop := es.Nodup ∧ (∀ k, k ∈ es ↔ k ∈ ns)
section
variable {X : Cx}
theorem setR_mem {w : World} {h : Heap} {a : Addr} {S : Int → Bool} {n : Nat} (R : SetR w h a S n) : ∃ es : List Int, es.Nodup ∧ (∀ k, k ∈ es ↔ S k = true) ∧ es.length = n := by
  obtain ⟨o, es, ep, t, ho, hx, hd, g, nd, hm, hb, hf, hn, _⟩ := R
  exact ⟨_, nd, fun k => (hm k).symm, by rw [List.length_map, Array.length_toList]; exact hn⟩
/-- set(a list or tuple of ints) -/
theorem cr_setInts (hc : X.calm = true) : CallR X (.type "set") (fun xs H Q => ∃ (a : Addr) (ns : List Int), xs = [.ref a] ∧ SqL X.K H a (ns.map V.int) ∧ ns.length ≤ 4000 ∧
    ∀ p n (es : List Int), H p = none → es.Nodup → (∀ k, k ∈ es ↔ k ∈ ns) → es.length = n → Q (.ref p) (upd H p (SetO X.w p (fun k => decide (k ∈ ns)) n))) := by
  intro pins s σ H xs us Q I r h
  obtain ⟨a, ns, rfl, hs, hl, q⟩ := h
  obtain ⟨its, rv, pl, _⟩ := I.list hs
  rw [Vals.ref1 r]
  have hi : IntsAre its ns := rv.ints
  have hsz : its.toArray.size = ns.length := by rw [List.size_toArray, ← rv.length, List.length_map]
  have hil := pl.isList
  have alt : a < s.heap.objs.size := by obtain ⟨o, ho, _⟩ := hil; exact Heap.lt_size ho
  have up : ∀ s1 : Shared, (∀ b o, s.heap.get? b = some o → s1.heap.get? b = some o) → s1.heap.IsList a its.toArray := fun s1 k => by
    obtain ⟨o, ho, r⟩ := hil
    exact ⟨o, k a o ho, r⟩
  refine call_set_gen (T := "list") (n := its.toArray.size) (Pv := fun i v => its.toArray[i]? = some v) (I.ok.hd hc) F.sub_list_set F.sub_list_frozenset (by decide) (fun s1 k => (up s1 k).typeIs) (fun s1 A' Q' E' k hlt hq => ?_)
    (fun i h => ∃ c, c ≤ i ∧ SetR X.w h s.heap.objs.size (fun j => decide (j ∈ ns.take i)) c) (fun i h h' ⟨c, hc, R⟩ k => ⟨c, hc, R.at k⟩) (fun h hf => ⟨0, Nat.le_refl _, setR_new_at hf⟩) (fun i v s1 Q1 A' E' hlt hv ⟨c, hc', R⟩ hq => ?_) (fun h' tk ⟨c, hc', R⟩ k => ?_)
  · have nI : a ≠ s1.heap.objs.size := fun z => absurd (Nat.lt_trans alt hlt) (by rw [z]; exact Nat.lt_irrefl _)
    refine wpAny_pyIter_list (up s1 k) (hq _ [s1.heap.objs.size, a] _ (fun z => ?_) (fun A'' hh => Walks.list hh _ a nI its.toArray) ⟨⟨_, Heap.get?_push_size _ rfl, rfl, rfl⟩, (up s1 k).push _⟩)
    rcases List.mem_cons.mp z with z | z
    · exact absurd hlt (by rw [z]; exact Nat.lt_irrefl _)
    · exact absurd alt (by rw [List.mem_singleton.mp z]; exact Nat.lt_irrefl _)
  · have hlt' : i < ns.length := by rw [← hsz]; exact hlt
    obtain ⟨t, e⟩ := PyProof.Rows.IntsAre.int_at hi i v (by simpa using hv)
    have e2 : ns.getD i 0 = ns[i] := by rw [List.getD_eq_getElem?_getD, List.getElem?_eq_getElem hlt']; rfl
    rw [e2] at e
    subst e
    unfold setAdd
    refine wpAny_holding ?_
    refine wpAny_bind ((intKind X.prog X.w).pyHash (k := ns[i]) (intKind_is _ _ _ _) ?_)
    refine setR_add_hashed (s := { s1 with toks := s1.toks + 1 }) R (by unfold scanBound; omega) fun h' hsb R2 => ?_
    refine hq _ h' (s1.toks + 1) hsb ⟨_, ?_, R2.congr fun j => ?_⟩ (Nat.le_succ _)
    · split <;> omega
    · rw [List.take_add_one, List.getElem?_eq_getElem hlt', Bool.eq_iff_iff]
      simp only [Bool.or_eq_true, decide_eq_true_eq, List.mem_append, Option.toList, List.mem_singleton]
  · rw [hsz, List.take_length] at R
    obtain ⟨es, nd, hm, hn⟩ := setR_mem R
    have hp : H s.heap.objs.size = none := I.hok.fresh (Nat.le_refl _)
    exact ⟨.ref _, _, I.laid (t' := tk) k (Nat.le_refl _) (setO_new R), rfl, q _ c es hp nd (fun k => (hm k).trans decide_eq_true_iff) hn⟩
/-- set(a text of different signs): by its length alone -/
def SetS (P : Program) (w : World) (a : Addr) (n : Nat) : HO := .ext fun h => ∃ S, h.SetOf (strKind P w) a S n
theorem setOf_keep {P : Program} {w : World} {h h' : Heap} {a : Addr} {S : Str → Bool} {n : Nat} (R : h.SetOf (strKind P w) a S n) (k : ∀ o, h.get? a = some o → h'.get? a = some o) : h'.SetOf (strKind P w) a S n := by
  obtain ⟨o, es, ep, t, ho, r⟩ := R
  exact ⟨o, es, ep, t, k o ho, r⟩
theorem cr_setText (hc : X.calm = true) : CallR X (.type "set") (fun xs H Q => ∃ l : List Nat, xs = [.str (sOf l)] ∧ l.Nodup ∧ l.length ≤ 100 ∧ ∀ p, H p = none → Q (.ref p) (upd H p (SetS X.prog X.w p l.length))) := by
  intro pins s σ H xs us Q I r h
  obtain ⟨l, rfl, nd, hl, q⟩ := h
  obtain ⟨u, rfl, rx⟩ := vals1 r
  obtain ⟨t, rfl⟩ := rx
  have hsz : (sOf l).cps.size = l.length := by show l.toArray.size = _; simp
  refine call_set_gen (T := "str") (n := (sOf l).cps.size) (Pv := SignAt (sOf l)) (I.ok.hd hc) F.sub_str_set F.sub_str_frozenset (by decide) (fun s1 k => rfl)
    (fun s1 A' Q' E' k hlt hq => wpAny_pyIter_str fun o St W hst => hq o [s1.heap.objs.size] St (fun z => absurd hlt (by rw [List.mem_singleton.mp z]; exact Nat.lt_irrefl _)) W hst)
    (fun i h => h.SetOf (strKind X.prog X.w) s.heap.objs.size (fun x => decide (x ∈ (l.take i).map fun c => sOf [c])) (min i l.length)) (fun i h h' R k => setOf_keep R k) (fun h hf => ?_) (fun i v s1 Q1 A' E' hlt hv R hq => ?_) (fun h' tk R k => ?_)
  · exact PyProof.Rows.SetOf_congr ((PyProof.Rows.setObjOf_fresh (knd := strKind X.prog X.w) _).setOf hf (by unfold scanBound; omega)) (fun _ => rfl) (by simp)
  · obtain ⟨c, t', hc', rfl⟩ := hv
    have hlt' : i < l.length := by rw [← hsz]; exact hlt
    have e2 : l[i]? = some c := by
      have : (sOf l).cps[i]? = l[i]? := by show l.toArray[i]? = _; simp
      rw [← this]; exact hc'
    have hci : l[i] = c := by rw [List.getElem?_eq_getElem hlt'] at e2; exact Option.some.inj e2
    have nin : ¬ (sOf [c] ∈ (l.take i).map fun c => sOf [c]) := fun m => by
      obtain ⟨d, hd, e⟩ := List.mem_map.mp m
      have : d = c := by have := sOf_inj e; simpa using this
      subst this
      obtain ⟨j, hj, ej⟩ := List.getElem_of_mem hd
      have hj' : j < i := by rw [List.length_take] at hj; omega
      rw [List.getElem_take] at ej
      have := (List.getElem_inj nd).mp (ej.trans hci.symm)
      omega
    unfold setAdd
    refine wpAny_holding ?_
    refine wpAny_bind ((strKind X.prog X.w).pyHash (k := sOf [c]) (strKind_is _ _ _ _) ?_)
    refine wpAny_setAddHashed_of (knd := strKind X.prog X.w) (s := { s1 with toks := s1.toks + 1 }) (strKind_is _ _ _ _) rfl R (by unfold scanBound; omega) fun h' hsb R2 => ?_
    refine hq _ h' (s1.toks + 1) hsb (PyProof.Rows.SetOf_congr R2 (fun x => ?_) ?_) (Nat.le_succ _)
    · rw [List.take_add_one, e2, List.map_append]
      simp [List.mem_append]
    · rw [decide_eq_false nin]
      have : min i l.length = i := by omega
      have h2 : min (i + 1) l.length = i + 1 := by omega
      rw [this, h2]
      rfl
  · rw [hsz, Nat.min_self] at R
    have hp : H s.heap.objs.size = none := I.hok.fresh (Nat.le_refl _)
    have ok : ObjOk X.prog X.w (upd H s.heap.objs.size (SetS X.prog X.w s.heap.objs.size l.length)) h' s.heap.objs.size (SetS X.prog X.w s.heap.objs.size l.length) := by
      have ⟨o, _, _, _, ho, _⟩ := R
      exact ⟨⟨_, R⟩, ⟨o, ho⟩, fun h1 h2 ⟨S, p⟩ k => ⟨S, setOf_keep p k⟩⟩
    exact ⟨.ref _, _, I.laid (t' := tk) k (Nat.le_refl _) ok, rfl, q _ hp⟩
/-- len of a set -/
theorem cr_lenSet : CallR X (.builtin "len") (fun xs H Q => ∃ a n, xs = [.ref a] ∧ ((∃ S, H a = some (SetO X.w a S n)) ∨ H a = some (SetS X.prog X.w a n)) ∧ Q (.int (n : Nat)) H) := by
  intro pins s σ H xs us Q I r h
  obtain ⟨a, n, rfl, ha, q⟩ := h
  rw [Vals.ref1 r]
  have go : ∀ (κ : Type) (_ : DecidableEq κ) (knd : KeyKind X.prog X.w κ) (S : κ → Bool), s.heap.SetOf knd a S n → wpAny (model X.prog X.w) X.A (call (.builtin "len") [.ref a]) (EP X pins σ Q) X.xe s := fun κ _ knd S R => by
    obtain ⟨o, es, ep, t, ho, hex, hd, _, _, hb, hf, hn⟩ := R
    exact call_len_set ho hex hd hf (by unfold scanBound at hb; omega) ⟨.int (es.size : Nat), H, I.tok _, ⟨_, rfl⟩, by rw [hn]; exact q⟩
  rcases ha with ⟨S, ha⟩ | ha
  · exact go Int inferInstance (intKind X.prog X.w) S (setO_get I ha).setOf
  · obtain ⟨⟨S, R⟩, _⟩ := I.hok a _ ha
    exact go Str inferInstance (strKind X.prog X.w) S R
/-- sorted(a set of ints), any number -/
theorem cr_sortedSetA (hc : X.calm = true) : CallR X (.builtin "sorted") (fun vs H Q => ∃ (a : Addr) (S : Int → Bool) (n : Nat), vs = [V.ref a] ∧ H a = some (SetO X.w a S n) ∧
    ∀ (ns : List Int) (p : Addr), ns.Pairwise (· < ·) → (∀ k : Int, k ∈ ns ↔ S k = true) → ns.length = n → H p = none → Q (.ref p) (upd H p (.lst (ns.map V.int)))) := by
  intro pins s σ H vs us Q I r h
  obtain ⟨a, S, n, rfl, ha, q⟩ := h
  rw [Vals.ref1 r]
  obtain ⟨o, es, ep, t, ho, hex, hd, g, nd, hm, hb, hf, hn, hr, hl⟩ := setO_get I ha
  refine Calls.call_function_entry kind_sorted plain_sorted entry_sorted (args_sorted1 _) ?_
  unfold Builtin.«sorted»
  refine wpAny_bind (m := checkCount "sorted" 1 1 _) (wpAny_pure ?_)
  refine wpAny_bind (collect_set (P := X.prog) (A := X.A.in1) (by simpa using I.ok.hd hc) ⟨o, ho, hex.1, hd⟩ hf hb hr hl fun s1 ws k1 hz g1 o1 pm => ?_)
  have wl : ws.length = n := by rw [pm.length_eq, List.length_map, Array.length_toList]; exact hn
  have wsz : ws.length ≤ sizeLine := by rw [wl, sizeLine_eq, ← hn]; unfold scanBound at hb; omega
  have hI : IntsAre ws (ws.map Builtin.Re.reRawOf) := L2.ints_of ws fun v hv => by
    obtain ⟨e, he, q⟩ := List.mem_map.mp (pm.mem_iff.mp hv)
    obtain ⟨k, tk, e1, _⟩ := g e he
    exact ⟨k, tk, q ▸ e1⟩
  have pk : (ws.map Builtin.Re.reRawOf).Perm (es.toList.map L2.keyOf) := by
    have z := pm.map Builtin.Re.reRawOf
    rw [List.map_map] at z
    exact z
  refine wpAny_bind (wpAny_newList ?_ wsz)
  have hoL : (s1.heap.push (seqObj "list" ws.toArray 0)).get? s1.heap.objs.size = some (seqObj "list" ws.toArray 0) := Heap.get?_push_size _ rfl
  refine wpAny_bind (wpAny_holding (wpAny_call_entry slot_list_sort ⟨_, hoL, rfl⟩ entry_list_sort (list_sort_treeAny hoL hI wsz fun out ns' a1 a2 a3 => ⟨_, rfl, ?_⟩) (args_list_sort _)))
  obtain ⟨c, hc'⟩ := sortedHeap_at (vs := ws) (out := out) hoL
  have pn := a2.trans pk
  have lt := L2.lt_of_le_nodup ns' a3 (pn.nodup_iff.mpr nd)
  have ln : ns'.length = n := by rw [pn.length_eq, List.length_map, Array.length_toList]; exact hn
  have mem : ∀ k, k ∈ ns' ↔ S k = true := fun k => by rw [pn.mem_iff, ← hm k]
  have kp : ∀ b u, s.heap.get? b = some u → (sortedHeap (s1.heap.push (seqObj "list" ws.toArray 0)) s1.heap.objs.size ws out).get? b = some u := fun b u e => by
    have z := k1 b u e
    have l := Heap.lt_size z
    rw [sortedHeap_old (Nat.ne_of_lt l) (by rw [size_push']; exact Nat.lt_succ_of_lt l)]
    exact Heap.get?_push_of_some _ z
  have fr : H s1.heap.objs.size = none := I.hok.fresh hz
  have J : Inv X pins σ (upd H s1.heap.objs.size (.lst (ns'.map V.int))) { s with heap := sortedHeap (s1.heap.push (seqObj "list" ws.toArray 0)) s1.heap.objs.size ws out, gens := s1.gens, drawn := s1.drawn, toks := s1.toks } :=
    I.call (ch := []) (Un.laid kp hz fr) (I.hok.laid kp hz ⟨by rw [List.length_map, ln, ← wl]; exact wsz, out.toList, c, vals_of_ints a1, hc'⟩) (by rw [g1]; exact I.bare) (fun _ z => nomatch z)
  have fin := q ns' s1.heap.objs.size lt mem ln fr
  have eo : s1.os = s.os := o1
  refine wpAny_pure ⟨_, rfl, ⟨.ref s1.heap.objs.size, _, ?_, rfl, fin⟩⟩
  have e2 : ({ s1 with heap := sortedHeap (s1.heap.push (seqObj "list" ws.toArray 0)) s1.heap.objs.size ws out } : Shared) = { s with heap := sortedHeap (s1.heap.push (seqObj "list" ws.toArray 0)) s1.heap.objs.size ws out, gens := s1.gens, drawn := s1.drawn, toks := s1.toks } := by
    rw [← eo]
  exact e2 ▸ J
end
end E

set_option autoImplicit true
set_option maxHeartbeats 4000000
set_option Elab.async false
set_option linter.all false
set_option maxRecDepth 100000
set_option maxHeartbeats 4000000
/-! Rules: sorted of triples of ints that stand in order already. -/
namespace E
open PySem PySem.Spec PyProof.Rows L2
abbrev Tri := Int × Int × Int
def triV (t : Tri) : List V := [.int t.1, .int t.2.1, .int t.2.2]
def triI (t : Tri) : List Int := [t.1, t.2.1, t.2.2]
def triD (b : Addr × Tri) : PyData := .tuple ((triI b.2).map .int)
def TriLe (a b : Tri) : Prop := ¬ (triI b < triI a)
theorem triLe_data (a b : Addr × Tri) : PySem.W.dataLe false triD a b = true ↔ TriLe a.2 b.2 := by
  rw [PySem.W.dataLe_eq]
  show (!PySem.W.dataLt (triD b) (triD a)) = true ↔ _
  have e : PySem.W.dataLt (triD b) (triD a) = PySem.W.rowLt ((triI b.2).map .int) ((triI a.2).map .int) := rfl
  rw [e, PySem.W.dataLt_ints]
  unfold TriLe
  by_cases h : triI b.2 < triI a.2
  · simp [h]
  · simp [h]
/-- a list whose items are tuples of three ints: their addresses, their ints -/
def TriAt (K : PySem.W.Frag) (H : Hp) (bs : List (Addr × Tri)) : Prop := ∀ b, b ∈ bs → SqT K H b.1 (triV b.2)
section
variable {X : Cx}
theorem vals_ref {bs : List (Addr × Tri)} : ∀ {us : List Value}, Vals (bs.map fun b => V.ref b.1) us → us = bs.map fun b => Value.ref b.1 := by
  induction bs with
  | nil => intro us r; cases r; rfl
  | cons b bs ih =>
    intro us r
    cases r with
    | cons h t =>
      cases h
      rw [ih t]
      rfl
theorem vals_ref' (bs : List (Addr × Tri)) : Vals (bs.map fun b => V.ref b.1) (bs.map fun b => Value.ref b.1) := by
  induction bs with
  | nil => exact .nil
  | cons b bs ih => exact .cons rfl ih
theorem each_of {α β : Type} {R : α → β → Prop} {f : β → α} {bs : List β} (h : ∀ b, b ∈ bs → R (f b) b) : PySem.W.EachIs R (bs.map f) bs := by
  induction bs with
  | nil => exact .nil
  | cons b bs ih => exact .cons (h b (List.mem_cons_self)) (ih fun c hc => h c (List.mem_cons_of_mem _ hc))
theorem each_eq {α β : Type} {f : β → α} {bs : List β} : ∀ {as : List α}, PySem.W.EachIs (fun v b => v = f b) as bs → as = bs.map f := by
  induction bs with
  | nil => intro as h; cases h; rfl
  | cons b bs ih =>
    intro as h
    cases h with
    | cons h t => rw [h, ih t]; rfl
theorem cr_sortedTri : CallR X (.builtin "sorted") (fun vs H Q => ∃ (a : Addr) (bs : List (Addr × Tri)), vs = [V.ref a] ∧ SqL X.K H a (bs.map fun b => V.ref b.1) ∧ TriAt X.K H bs ∧ (bs.map (·.2)).Pairwise TriLe ∧
    X.A.units + 10 < cLine ∧ ∀ p, H p = none → Q (.ref p) (upd H p (.lst (bs.map fun b => V.ref b.1)))) := by
  intro pins s σ H vs us Q I r h
  obtain ⟨a, bs, rfl, hs, ht, hp, hu, q⟩ := h
  obtain ⟨its, rv, hl, hz⟩ := I.list hs
  rw [Vals.ref1 r]
  have e := vals_ref rv
  subst e
  have hz' : bs.length ≤ sizeLine := by simpa using hz
  have hsort : bs.mergeSort (PySem.W.dataLe false triD) = bs := List.mergeSort_of_pairwise ((List.pairwise_map.mp hp).imp fun h => (triLe_data _ _).mpr h)
  refine PySem.W.sorted_data (β := Addr × Tri) (enc := triD) (R := fun v b => v = Value.ref b.1) hl.isList (each_of fun b _ => rfl) (each_of fun b hb => ?_) (PySem.W.AllAlike.of fun b b' => PySem.W.alike_ints _ _) (PySem.W.Sortable.tuples fun b => ⟨_, _, rfl⟩) hz' (fun b _ => ?_) fun out ho hout => ?_
  · obtain ⟨ts, rt, ⟨o, h1, h2, n, h3⟩, _⟩ := I.tuple (ht b hb)
    have hi : ∃ as, ReadsAll s.heap ts ((triI b.2).map .int) as := by
      show ∃ as, ReadsAll s.heap ts [.int b.2.1, .int b.2.2.1, .int b.2.2.2] as
      cases rt with
      | cons r1 rt =>
        cases rt with
        | cons r2 rt =>
          cases rt with
          | cons r3 rt =>
            cases rt
            obtain ⟨t1, rfl⟩ := r1
            obtain ⟨t2, rfl⟩ := r2
            obtain ⟨t3, rfl⟩ := r3
            exact ⟨_, .cons (.int _ _) (.cons (.int _ _) (.cons (.int _ _) .nil))⟩
    obtain ⟨as, hi⟩ := hi
    exact ⟨as, .tuple h1 h2 h3 (by simpa using hi)⟩
  · have : (triD b).depth = 1 := by
      show PyData.depthAll _ + 1 = 1
      rw [PySem.W.depth_ints]
    rw [this]; omega
  · rw [hsort] at hout
    have e := each_eq hout
    subst e
    obtain ⟨ep, he'⟩ := PyProof.Rows.sortedAll_at s.heap (bs.map fun b => Value.ref b.1) (bs.map fun b => Value.ref b.1).toArray
    exact ⟨.ref _, upd H (s.heap.objs.size + 1) (.lst (bs.map fun b => V.ref b.1)), I.laid (t' := s.toks) (fun _ _ => PyProof.Rows.sortedAll_old) (Nat.le_succ _) ⟨by simpa using hz', _, ep, vals_ref' bs, he'⟩, rfl, q _ (I.hok.fresh (Nat.le_succ _))⟩
end
end E

set_option autoImplicit true
set_option maxHeartbeats 4000000
set_option Elab.async false
set_option linter.all false
set_option maxRecDepth 100000
set_option maxHeartbeats 4000000
/-! Dicts whose keys are (a tuple of ints, a text): get and store; get of a key None; setdefault of a tuple key. -/
namespace E
open PySem PySem.Spec PyProof.Rows L2
abbrev NK := List Int × Str
def encK (k : NK) : NestedKey := .tup [.tup (k.1.map .num), .text k.2]
theorem num_inj : ∀ {a b : List Int}, a.map NestedKey.num = b.map NestedKey.num → a = b
  | [], [], _ => rfl
  | [], _ :: _, h => by cases h
  | _ :: _, [], h => by cases h
  | x :: a, y :: b, h => by
    injection h with h1 h2
    injection h1 with h3
    rw [h3, num_inj h2]
theorem encK_inj {a b : NK} (h : encK a = encK b) : a = b := by
  obtain ⟨a1, a2⟩ := a
  obtain ⟨b1, b2⟩ := b
  unfold encK at h
  injection h with h
  injection h with h1 h2
  injection h1 with h3
  injection h2 with h4 _
  injection h4 with h5
  have h6 := num_inj h3
  simp only at h5 h6
  rw [h5, h6]
/-- at b stands such a key -/
def KeyS (H : Hp) (b : Addr) (k : NK) : Prop := ∃ c, H b = some (.tup [.ref c, .str k.2]) ∧ H c = some (.tup (k.1.map V.int))
theorem KeyS.kp {H H' : Hp} {b : Addr} {k : NK} (h : KeyS H b k) (t : ∀ c xs, H c = some (.tup xs) → H' c = some (.tup xs)) : KeyS H' b k := by
  obtain ⟨c, h1, h2⟩ := h
  exact ⟨c, t _ _ h1, t _ _ h2⟩
section
variable (P : Program) (w : World)
abbrev NRel (kas : List (NK × Addr × V)) (xs : List (NestedKey × Addr × Value)) : Prop := Paired (fun (p : NK × Addr × V) (q : NestedKey × Addr × Value) => q.1 = encK p.1 ∧ q.2.1 = p.2.1 ∧ RelV p.2.2 q.2.2) kas xs
def NDict (a : Addr) (kas : List (NK × Addr × V)) : HO := .ext fun h => ∃ xs, NRel kas xs ∧ (∃ o es ep, h.get? a = some o ∧ o.ExactDict ∧ o.data = .dict es ep ∧ es.toList = xs.map (entryOfKey (nestedKind P w))) ∧ (xs.map (·.1)).Nodup ∧ kas.length ≤ sizeLine ∧ (a == sysModules) = false
/-- a dict of such keys, by its pairs -/
def DictN (H : Hp) (a : Addr) (kvs : List (NK × V)) : Prop := ∃ kas, H a = some (NDict P w a kas) ∧ kas.map (fun x => (x.1, x.2.2)) = kvs ∧ ∀ x, x ∈ kas → KeyS H x.2.1 x.1
end
section
variable {P : Program} {w : World} {H H' : Hp} {h : Heap} {a b : Addr}
theorem DictN.kp {kvs : List (NK × V)} (d : DictN P w H a kvs) (e : H' a = H a) (t : ∀ c xs, H c = some (.tup xs) → H' c = some (.tup xs)) : DictN P w H' a kvs := by
  obtain ⟨kas, h1, h2, h3⟩ := d
  exact ⟨kas, by rw [e]; exact h1, h2, fun x hx => (h3 x hx).kp t⟩
theorem nest_ints : ∀ {ns : List Int} {us : List Value}, Vals (ns.map V.int) us → NestedAll h (ns.map NestedKey.num) us
  | [], _, r => by cases r; exact .nil
  | n :: ns, _, r => by
    cases r with
    | cons r1 r2 =>
      obtain ⟨t, rfl⟩ := r1
      exact .cons (.int _ _) (nest_ints r2)
theorem nest_depth : ∀ ns : List Int, NestedKey.depthAll (ns.map NestedKey.num) = 0
  | [] => by simp [NestedKey.depthAll]
  | n :: ns => by simp [NestedKey.depthAll, NestedKey.depth, nest_depth ns]
theorem keyS_is {k : NK} (ok : HOk P w H h) (e : KeyS H b k) : (nestedKind P w).is h (encK k) b := by
  obtain ⟨c, e1, e2⟩ := e
  obtain ⟨_, its, r, o, h1, h2, n, h3⟩ := (show ObjOk P w H h b (.tup [.ref c, .str k.2]) from ok b _ e1)
  obtain ⟨_, its', r', o', h1', h2', n', h3'⟩ := (show ObjOk P w H h c (.tup (k.1.map V.int)) from ok c _ e2)
  refine ⟨.tup h1 h2 h3 ?_, ?_⟩
  · cases r with
    | cons r1 r2 =>
      cases r2 with
      | cons r3 r4 =>
        cases r4
        cases r1
        obtain ⟨t, rfl⟩ := r3
        exact .cons (.tup h1' h2' h3' (by simpa using nest_ints r')) (.cons (.text _ _) .nil)
  · show (NestedKey.depth (.tup [.tup (k.1.map .num), .text k.2])) ≤ 8
    simp [NestedKey.depth, NestedKey.depthAll, nest_depth]
theorem NRel.val {kas : List (NK × Addr × V)} {xs : List (NestedKey × Addr × Value)} (r : NRel kas xs) (k : NK) : RelO (valV (kas.map fun x => (x.1, x.2.2)) k) ((atKey xs (encK k)).map (·.2)) := by
  induction r with
  | nil => exact True.intro
  | @cons p q ps qs hq t ih =>
    obtain ⟨e1, e2, e3⟩ := hq
    rw [List.map_cons]
    by_cases e : p.1 = k
    · rw [valV_pos (p := (p.1, p.2.2)) e]
      have : atKey (q :: qs) (encK k) = some q.2 := by simp [atKey, List.find?_cons, e1, e]
      rw [this]
      exact e3
    · rw [valV_neg (p := (p.1, p.2.2)) e]
      have ne : ¬ q.1 = encK k := fun z => e (encK_inj (e1.symm.trans z))
      have : atKey (q :: qs) (encK k) = atKey qs (encK k) := by simp [atKey, List.find?_cons, ne]
      rw [this]
      exact ih
/-- the list behind a store -/
def putN (kas : List (NK × Addr × V)) (k : NK) (b : Addr) (v : V) : List (NK × Addr × V) :=
  if (kas.any fun x => decide (x.1 = k)) = true then kas.map (fun x => if x.1 = k then (x.1, x.2.1, v) else x) else kas ++ [(k, b, v)]
theorem putN_pairs (kas : List (NK × Addr × V)) (k : NK) (b : Addr) (v : V) : (putN kas k b v).map (fun x => (x.1, x.2.2)) = putK (kas.map fun x => (x.1, x.2.2)) k v := by
  unfold putN putK
  have e : ((kas.map fun x => (x.1, x.2.2)).any fun kv => decide (kv.1 = k)) = kas.any fun x => decide (x.1 = k) := by rw [List.any_map]; rfl
  rw [e]
  split
  · rw [List.map_map, List.map_map]
    refine List.map_congr_left fun x _ => ?_
    show (fun x : NK × Addr × V => (x.1, x.2.2)) (if x.1 = k then (x.1, x.2.1, v) else x) = if x.1 = k then (x.1, v) else (x.1, x.2.2)
    split <;> rfl
  · rw [List.map_append]; rfl
theorem putN_mem {kas : List (NK × Addr × V)} {k : NK} {b : Addr} {v : V} {x : NK × Addr × V} (hx : x ∈ putN kas k b v) : (∃ y, y ∈ kas ∧ x.1 = y.1 ∧ x.2.1 = y.2.1) ∨ (x.1 = k ∧ x.2.1 = b) := by
  unfold putN at hx
  split at hx
  · obtain ⟨y, hy, e⟩ := List.mem_map.mp hx
    refine .inl ⟨y, hy, ?_⟩
    split at e <;> (subst e; exact ⟨rfl, rfl⟩)
  · rcases List.mem_append.mp hx with h | h
    · exact .inl ⟨x, h, rfl, rfl⟩
    · rw [List.mem_singleton.mp h]; exact .inr ⟨rfl, rfl⟩
theorem NRel.isSome {kas : List (NK × Addr × V)} {xs : List (NestedKey × Addr × Value)} (r : NRel kas xs) (k : NK) : (atKey xs (encK k)).isSome = kas.any fun x => decide (x.1 = k) := by
  induction r with
  | nil => rfl
  | @cons p q ps qs hq t ih =>
    obtain ⟨e1, e2, e3⟩ := hq
    rw [List.any_cons]
    by_cases e : p.1 = k
    · have : atKey (q :: qs) (encK k) = some q.2 := by simp [atKey, List.find?_cons, e1, e]
      rw [this, decide_eq_true e]; rfl
    · have ne : ¬ q.1 = encK k := fun z => e (encK_inj (e1.symm.trans z))
      have : atKey (q :: qs) (encK k) = atKey qs (encK k) := by simp [atKey, List.find?_cons, ne]
      rw [this, decide_eq_false e, Bool.false_or]
      exact ih
theorem NRel.put {kas : List (NK × Addr × V)} {xs : List (NestedKey × Addr × Value)} (r : NRel kas xs) (k : NK) (b : Addr) {v : V} {u : Value} (rv : RelV v u) : NRel (putN kas k b v) (storedH xs (encK k) b u) := by
  unfold putN storedH
  rw [r.isSome k]
  split
  · induction r with
    | nil => exact .nil
    | @cons p q ps qs hq t ih =>
      obtain ⟨e1, e2, e3⟩ := hq
      rw [List.map_cons, List.map_cons]
      refine .cons ?_ ?_
      · by_cases e : p.1 = k
        · have e' : q.1 = encK k := by rw [e1, e]
          simp only [putAt, e, e', if_true]
          exact ⟨trivial, e2, rv⟩
        · have ne : ¬ q.1 = encK k := fun z => e (encK_inj (e1.symm.trans z))
          simp only [putAt, e, ne, if_false]
          exact ⟨e1, e2, e3⟩
      · have all : ∀ {l : List (NK × Addr × V)} {m : List (NestedKey × Addr × Value)}, NRel l m → NRel (l.map fun x => if x.1 = k then (x.1, x.2.1, v) else x) (m.map (putAt (encK k) u)) := by
          intro l m z
          induction z with
          | nil => exact .nil
          | @cons p q ps qs hq t ih =>
            obtain ⟨e1, e2, e3⟩ := hq
            rw [List.map_cons, List.map_cons]
            refine .cons ?_ ih
            by_cases e : p.1 = k
            · have e' : q.1 = encK k := by rw [e1, e]
              simp only [putAt, e, e', if_true]
              exact ⟨trivial, e2, rv⟩
            · have ne : ¬ q.1 = encK k := fun z => e (encK_inj (e1.symm.trans z))
              simp only [putAt, e, ne, if_false]
              exact ⟨e1, e2, e3⟩
        exact all t
  · have app : ∀ {l : List (NK × Addr × V)} {m : List (NestedKey × Addr × Value)}, NRel l m → NRel (l ++ [(k, b, v)]) (m ++ [(encK k, b, u)]) := by
      intro l m z
      induction z with
      | nil => exact .cons ⟨rfl, rfl, rv⟩ .nil
      | cons h _ ih => exact .cons h ih
    exact app r
theorem putN_len (kas : List (NK × Addr × V)) (k : NK) (b : Addr) (v : V) : (putN kas k b v).length ≤ kas.length + 1 := by
  unfold putN
  split
  · rw [List.length_map]; omega
  · rw [List.length_append]; exact Nat.le_refl _
end
section
variable {X : Cx} {pins : List (Addr × Obj)} {σ : L2.St} {H : Hp} {s : Shared} {a : Addr} {A : Around} {Er : Value → Shared → Prop}
theorem dictN_of {kvs : List (NK × V)} (I : Inv X pins σ H s) (d : DictN X.prog X.w H a kvs) : ∃ kas xs, H a = some (NDict X.prog X.w a kas) ∧ kas.map (fun x => (x.1, x.2.2)) = kvs ∧ (∀ x, x ∈ kas → KeyS H x.2.1 x.1) ∧ NRel kas xs ∧
    s.heap.DictOfH (nestedKind X.prog X.w) a xs ∧ kas.length ≤ sizeLine ∧ (a == sysModules) = false := by
  obtain ⟨kas, h1, h2, h3⟩ := d
  obtain ⟨⟨xs, r, ⟨o, es, ep, k1, k2, k3, k4⟩, nd, hl, hs⟩, _⟩ := I.hok a _ h1
  refine ⟨kas, xs, h1, h2, h3, r, ⟨o, es, ep, k1, k2, k3, k4, ?_, nd⟩, hl, hs⟩
  have all : ∀ {l : List (NK × Addr × V)} {m : List (NestedKey × Addr × Value)}, NRel l m → (∀ x, x ∈ l → KeyS H x.2.1 x.1) → ∀ y, y ∈ m → (nestedKind X.prog X.w).is s.heap y.1 y.2.1 := by
    intro l m z
    induction z with
    | nil => intro _ y hy; cases hy
    | @cons p q ps qs hq t ih =>
      obtain ⟨e1, e2, e3⟩ := hq
      intro hk y hy
      rcases List.mem_cons.mp hy with e | hy
      · rw [e, e1, e2]; exact keyS_is I.hok (hk p List.mem_cons_self)
      · exact ih (fun x hx => hk x (List.mem_cons_of_mem _ hx)) y hy
  exact all r h3
/-- what a[y] is, whatever the keys -/
def DGetN (P : Program) (w : World) (H : Hp) (a : Addr) (y : V) (o : Option V) : Prop := DGet H a y o ∨ ∃ kvs k b, DictN P w H a kvs ∧ y = .ref b ∧ KeyS H b k ∧ o = valV kvs k
def IsDN (P : Program) (w : World) (H : Hp) (a : Addr) : Prop := IsD H a ∨ ∃ kvs, DictN P w H a kvs
theorem isDN_at (I : Inv X pins σ H s) (d : IsDN X.prog X.w H a) : s.TypeIs (.ref a) "dict" ∧ (∀ b, Value.ref a = .ref b → ∃ ob, s.heap.get? b = some ob ∧ ob.dict = none) ∧ (a == sysModules) = false := by
  rcases d with d | ⟨kvs, d⟩
  · exact isD_at I d
  · obtain ⟨kas, xs, _, _, _, _, dd, _, hs⟩ := dictN_of I d
    refine ⟨dd.typeIs, fun b q => ?_, hs⟩
    cases q
    obtain ⟨ob, _, _, h1, h2, _⟩ := dd
    exact ⟨ob, h1, h2.2.1⟩
theorem d_getN {y : V} {u : Value} {o : Option V} {Q : Value → Shared → Prop} (hu : A.units + 9 < cLine) (I : Inv X pins σ H s) (g : DGetN X.prog X.w H a y o) (ry : RelV y u) (h : ∀ w' s', Inv X pins σ H s' → RelV (o.getD .non) w' → Q w' s') :
    wpAny (model X.prog X.w) A (call (.builtin "dict.get") [.ref a, u]) Q Er s := by
  rcases g with g | ⟨kvs, k, b, d, rfl, ks, rfl⟩
  · exact d_get1 (by omega) I g ry h
  · cases (show u = Value.ref b from ry)
    obtain ⟨kas, xs, h1, h2, h3, r, dd, hl, hs⟩ := dictN_of I d
    refine call_meetsIn PySem.F.slot_dict_get dd.typeIs PySem.F.entry_dict_get (PySem.F.args_dict_get_2 _ _) (meetsH_dict_get (nestedKind X.prog X.w) a b hs) ⟨hu, encK k, xs, keyS_is I.hok ks, dd, h _ _ (I.tok _) ?_⟩
    have z := r.val k
    rw [h2] at z
    exact z.getD rfl
def tDGetN (P : Program) (w : World) (td ty : TE) : TE := fun σ H Q => td σ H fun x H1 => ∃ a, x = .ref a ∧ IsDN P w H1 a ∧ ty σ H1 fun y H2 => ∃ o, DGetN P w H2 a y o ∧ Q (o.getD .non) H2
variable {o e : Expr} {apos cpos : Pos} {td ty : TE}
theorem pe_dgetN (hu : X.A.units + 9 < cLine) (ho : PE X o td) (he : PE X e ty) (m : M1 X o "get" apos e cpos) : PE X (.Call (.Attribute o "get" apos) [e] [] cpos) (tDGetN X.prog X.w td ty) := by
  refine ⟨fun pins s σ H Q I h => ?_⟩
  refine wpAny_Call_method m.base m.few m.line PySem.F.plainAttrs_dict PySem.F.slot_dict_get PySem.F.type_dict_get (thn (ho.run pins s σ H _ I h) fun u s1 ⟨x, H1, I1, rx, a, ex, d, q1⟩ => ?_)
  subst ex
  obtain rfl : u = Value.ref a := rx
  obtain ⟨t1, t2, _⟩ := isDN_at I1 d
  refine ⟨t1, t2, ?_⟩
  rw [m.trees]
  refine Calls.callWith_builtin rfl (Calls.evalArgs_plain (Calls.spliced_cons (thn (he.run pins s1 σ H1 _ I1 q1) fun iv s2 ⟨y, H2, I2, ry, ov, g, q2⟩ => Calls.spliced_nil ?_)))
  exact d_getN hu I2 g ry fun w' s3 I3 rw' => ⟨_, H2, I3, rw', q2⟩
/-- a[y] = v of such a dict -/
def sDPutN (P : Program) (w : World) (td ty tv : TE) : TS := fun D σ H => tv σ H fun v H1 => td σ H1 fun x H2 => ty σ H2 fun y H3 => ∃ a kvs k b, x = .ref a ∧ y = .ref b ∧ DictN P w H3 a kvs ∧ KeyS H3 b k ∧ kvs.length < sizeLine ∧
  ∀ H4, (∀ c, c ≠ a → H4 c = H3 c) → DictN P w H4 a (putK kvs k v) → D.nx σ H4
theorem ps_dputN {i value : Expr} {ti tv : TE} {pos pos' : Pos} (hu : X.A.units + 9 < cLine) (ho : PE X o td) (hi : PE X i ti) (hv : PE X value tv) (hs : swapsWith value (some (.Subscript o i pos')) pos.line X.env = pure false) :
    PS X (.Assign [.Subscript o i pos'] value pos) (sDPutN X.prog X.w td ti tv) := by
  refine ⟨fun pins s σ H D I h => ?_⟩
  refine wpAny_Assign_Subscript (thn (hv.run pins s σ H _ I h) fun r s1 ⟨v, H1, I1, rv, q1⟩ => thn (ho.run pins s1 σ H1 _ I1 q1) fun u s2 ⟨x, H2, I2, rx, q2⟩ => thn (hi.run pins s2 σ H2 _ I2 q2) fun iv s3 ⟨y, H3, I3, ry, a, kvs, k, b, ex, ey, d, ks, hl, q3⟩ => ?_) hs
  subst ex ey
  obtain rfl : u = Value.ref a := rx
  obtain rfl : iv = Value.ref b := ry
  obtain ⟨kas, xs, h1, h2, h3, rel, dd, hz, hsys⟩ := dictN_of I3 d
  have lx : xs.length = kas.length := (Paired.length rel).symm
  have lk : kas.length = kvs.length := by rw [← h2, List.length_map]
  refine wpAny_setItem_heap (hsz := by rw [lx]; exact hz) hu (keyS_is I3.hok ks) dd fun h' dd' hsb => ?_
  obtain ⟨q, es, ep, hq, k2, k3, k4, _, k5⟩ := dd'
  have ne : ∀ c ys, H3 c = some (.tup ys) → c ≠ a := fun c ys ec => ne_of ec h1 (fun z => nomatch z)
  refine ⟨σ, upd H3 a (NDict X.prog X.w a (putN kas k b v)), ?_, q3 _ (fun c hc => upd_ne hc) ⟨putN kas k b v, upd_same, by rw [putN_pairs, h2], fun x hx => ?_⟩⟩
  · have z := rel.put k b rv
    refine d_write I3 (by rw [h1]; exact True.intro) hsb ⟨q, hq⟩ ⟨⟨_, z, ⟨q, es, ep, hq, k2, k3, k4⟩, k5, ?_, hsys⟩, ⟨q, hq⟩, ?_⟩
    · have := putN_len kas k b v; omega
    · rintro g1 g2 ⟨ys, z1, ⟨o1, es1, ep1, j1, j2⟩, z3⟩ kk
      exact ⟨ys, z1, ⟨o1, es1, ep1, kk _ j1, j2⟩, z3⟩
  · rcases putN_mem hx with ⟨y, hy, e1, e2⟩ | ⟨e1, e2⟩
    · rw [e1, e2]
      exact (h3 y hy).kp fun c ys ec => by rw [upd_ne (ne c ys ec)]; exact ec
    · rw [e1, e2]
      exact ks.kp fun c ys ec => by rw [upd_ne (ne c ys ec)]; exact ec
/-- {} whose keys will be such -/
def tDNewN (P : Program) (w : World) : TE := fun _ H Q => ∀ p H', H p = none → Same H H' → (∀ c, c ≠ p → H' c = H c) → DictN P w H' p [] → Q (.ref p) H'
theorem pe_dnewN {pos : Pos} : PE X (.Dict [] [] pos) (tDNewN X.prog X.w) := by
  refine ⟨fun pins s σ H Q I h => ?_⟩
  have hp : H s.heap.objs.size = none := I.hok.fresh (Nat.le_refl _)
  refine wpAny_Dict_empty ⟨.ref s.heap.objs.size, _, I.laid (a := s.heap.objs.size) (o := NDict X.prog X.w s.heap.objs.size []) (t' := s.toks) (fun _ _ q => Heap.get?_push_of_some _ q) (Nat.le_refl _) ?_, rfl,
    h _ (upd H s.heap.objs.size (NDict X.prog X.w s.heap.objs.size [])) hp (Same.up hp) (fun c hc => upd_ne hc) ⟨[], upd_same, rfl, fun x hx => by cases hx⟩⟩
  obtain ⟨z, hd, xs, r, o, es, ep, k1, k2, k3, k4, k5⟩ := (dt_empty s.heap I.big : ObjOk X.prog X.w (upd H s.heap.objs.size (.dT [])) _ s.heap.objs.size (.dT []))
  cases r
  refine ⟨⟨[], .nil, ⟨o, es, ep, k1, k2, k3, k4⟩, List.nodup_nil, Nat.zero_le _, hd⟩, ⟨o, k1⟩, ?_⟩
  rintro g1 g2 ⟨ys, z1, ⟨o1, es1, ep1, j1, j2⟩, z3⟩ kk
  exact ⟨ys, z1, ⟨o1, es1, ep1, kk _ j1, j2⟩, z3⟩
end
end E

set_option autoImplicit true
set_option maxHeartbeats 4000000
set_option Elab.async false
set_option linter.all false
set_option maxRecDepth 100000
set_option maxHeartbeats 4000000
/-! Rules: x in o by an own __contains__; o != q by an own __eq__; a class held by a local name, called; d.get(None, x); setdefault of a tuple key. -/
namespace E
open PySem PySem.Spec PyProof.Rows L2
section
variable {X : Cx} {k : Nat} {f C : Addr} {fd : FuncData} {ps : List Str} {sp : Sp}
/-- x in o, x not in o -/
def rInOwn (C : Addr) (sp : Sp) (neg : Bool) : R2 := fun x y H Q => ∃ a dx fs, y = .ref a ∧ H a = some (.ins C dx fs) ∧ sp [.ref a, x] H (fun v H' => ∃ b, v = .bl b ∧ Q (.bl (if neg then !b else b)) H') E0
theorem op_inOwn (M : Meth X.K C "__contains__" f) (F : FnOk X.prog X.w X.K X.mg X.base CX0 k f fd ps sp) (hr : Room k X.A) (hb : Binds X.K fd ps []) : OpR X (compareOp .In) (rInOwn C sp false) := by
  intro pins s σ H x y v u Q I rx ry h
  obtain ⟨a, dx, fs, rfl, ha, q⟩ := h
  obtain rfl : u = Value.ref a := ry
  obtain ⟨mA, J, _⟩ := ins_get I.hok ha
  obtain ⟨od, J, _⟩ := J.look
  obtain ⟨m, hF⟩ := I.fr
  refine PySem.W.in_K hF I.ok.mod.kin J M.at_ M.fn (thn (run_fn (us := [.ref a, v]) (vs := [.ref a, x]) F hr hb .nil pass0 I (.cons rfl (.cons rx .nil)) q) fun r s1 ⟨z, H1, I1, rz, b, ez, q1⟩ => ?_)
  subst ez
  cases rz
  exact wpAny_truthy_bool ⟨.bl b, H1, I1, rfl, q1⟩
theorem op_notInOwn (M : Meth X.K C "__contains__" f) (F : FnOk X.prog X.w X.K X.mg X.base CX0 k f fd ps sp) (hr : Room k X.A) (hb : Binds X.K fd ps []) : OpR X (compareOp .NotIn) (rInOwn C sp true) := by
  intro pins s σ H x y v u Q I rx ry h
  obtain ⟨a, dx, fs, rfl, ha, q⟩ := h
  obtain rfl : u = Value.ref a := ry
  obtain ⟨mA, J, _⟩ := ins_get I.hok ha
  obtain ⟨od, J, _⟩ := J.look
  obtain ⟨m, hF⟩ := I.fr
  refine PySem.W.notIn_K hF I.ok.mod.kin J M.at_ M.fn (thn (run_fn (us := [.ref a, v]) (vs := [.ref a, x]) F hr hb .nil pass0 I (.cons rfl (.cons rx .nil)) q) fun r s1 ⟨z, H1, I1, rz, b, ez, q1⟩ => ?_)
  subst ez
  cases rz
  exact wpAny_truthy_bool ⟨.bl (!b), H1, I1, rfl, q1⟩
/-- o != q, both of the class C, by its own __eq__ -/
def rNeOwn (C : Addr) (sp : Sp) : R2 := fun x y H Q => ∃ a b dx dy fs gs, x = .ref a ∧ y = .ref b ∧ H a = some (.ins C dx fs) ∧ H b = some (.ins C dy gs) ∧ sp [.ref a, .ref b] H (fun v H' => ∃ r, v = .bl r ∧ Q (.bl (!r)) H') E0
theorem op_neOwn (M : Meth X.K C "__eq__" f) (hne : PySem.W.findIn X.K (.ref C) "__ne__" = some (some (.builtin "object.__ne__"))) (hob : PySem.W.mroIn X.K C (.type "object") = some true) (F : FnOk X.prog X.w X.K X.mg X.base CX0 k f fd ps sp) (hr : Room (k + 1) X.A) (hb : Binds X.K fd ps []) :
    OpR X (compareOp .NotEq) (rNeOwn C sp) := by
  intro pins s σ H x y v u Q I rx ry h
  obtain ⟨a, b, dx, dy, fs, gs, rfl, rfl, ha, hb', q⟩ := h
  obtain rfl : v = Value.ref a := rx
  obtain rfl : u = Value.ref b := ry
  obtain ⟨mA, J, _⟩ := ins_get I.hok ha
  obtain ⟨mB, J', _⟩ := ins_get I.hok hb'
  obtain ⟨od, J, _⟩ := J.look
  obtain ⟨od', J', _⟩ := J'.look
  have X' := I.kIn
  have hu := hr.units0
  have hu1 : X.A.in1.units < cLine := (hr.in1).units0
  have call : ∀ (R : Value → Shared → Prop), (∀ r s', EP X pins σ Q (.bool (!r)) s' → R (.bool r) s') → wpAny (model X.prog X.w) X.A.in1 (call (.ref f) [.ref a, .ref b]) R X.xe s := fun R hR => by
    have r2 : Vals [V.ref a, V.ref b] [Value.ref a, Value.ref b] := .cons rfl (.cons rfl .nil)
    have hl := F.len _ _ _ _ q
    refine wpAny_call (codeAny_mono (F.run X.A.in1 X.stack s H ⟨[.ref a, .ref b], []⟩ [.ref a, .ref b] [.ref a, .ref b] _ E0 hr.in1 I.env0.in1 (by
      have := hb s [.ref a, .ref b] I.kIn (by simpa using hl)
      simpa using this) r2 q) fun r s' hq => ?_)
    cases r with
    | error e => exact hq.elim
    | ok fl =>
      cases fl with
      | ret w =>
        obtain ⟨z, H', I', rz, r, ez, q'⟩ := I.after hq
        subst ez
        cases rz
        exact hR r s' ⟨.bl (!r), H', I', rfl, q'⟩
      | next => exact False.elim hq
      | brk => exact False.elim hq
      | cont => exact False.elim hq
  show wpAny (model X.prog X.w) X.A (richCompare .NotEq (.ref a) (.ref b)) (EP X pins σ Q) X.xe s
  unfold richCompare
  simp only [oneThing_ref]
  refine wpAny_holding (wpAny_bind (wpAny_cRoomFor hu ?_))
  refine wpAny_bind (J.type.here (wpAny_bind (J'.type.here ?_)))
  rw [show (Value.ref C != Value.ref C) = false from by simp]
  simp only [Bool.false_eq_true, if_false]
  refine wpAny_bind (wpAny_pure ?_)
  simp only [Bool.false_eq_true, if_false]
  have inst : PySem.W.Looks (model X.prog X.w) s.heap (isInstance (.ref a) (.type "object")) true := J.type.andThen (PySem.W.looks_subIn X' (t := .ref C) hob)
  have body : ∀ (R : Fin → Shared → Prop), (∀ (r : Bool) s', EP X pins σ Q (.bool r) s' → R (.done (.ret (.bool r))) s') → wpAny (model X.prog X.w) X.A.in1 (Builtin.«object.__ne__» ⟨[.ref a, .ref b], []⟩) R X.xe s := fun R hR => by
    unfold Builtin.«object.__ne__»
    repeat (first
      | with_reducible refine wpAny_cRoomFor hu1 ?_
      | refine wpAny_bind (m := callSpecialIfBound? (.ref a) (Str.ofString "__eq__") [.ref b]) (PySem.W.ifBound_K X' J M.at_ M.fn (call _ fun r s' h => wpAny_bind (wpAny_truthy_bool (wpAny_pure (hR _ _ h)))))
      | wp_step)
  have one : wpAny (model X.prog X.w) X.A (tryCompare (.ref a) "__ne__" (.ref b)) (fun r s' => ∃ v, r = some v ∧ EP X pins σ Q v s') X.xe s := by
    unfold tryCompare
    have fin : ∀ (R : Option Value → Shared → Prop), (∀ (r : Bool) s', EP X pins σ Q (.bool r) s' → R (some (.bool r)) s') → wpAny (model X.prog X.w) X.A (PySem.call (.builtin "object.__ne__") ([.ref a] ++ [.ref b]) >>= fun v => pure (some v)) R X.xe s := fun R hR =>
      wpAny_bind (wpAny_call (codeAny_call_builtin PySem.F.slot_object_ne.plain PySem.F.cmpEntry_ne (PySem.W.check_slot PySem.F.cmpKind_ne PySem.F.cmpSplit_ne inst (PySem.F.cmpArgs_ne _ _) (body _ fun r s' h => wpAny_pure (hR r s' h)))))
    refine wpAny_bind ?_
    simp only [callSpecialIfBound?, bindSpecialIfBound?]
    refine wpAny_holding (wpAny_bind (wpAny_bind (wpAny_bind (J.type.here ((PySem.W.looks_findIn X' hne).here ?_)))))
    refine wpAny_bind (wpAny_askSetting (wpAny_ite ?_))
    split
    · refine wpAny_bind ?_
      rw [PySem.F.slot_object_ne.bind]
      exact wpAny_pure (wpAny_pure (fin _ fun r s' h => wpAny_pure ⟨_, rfl, h⟩))
    · refine wpAny_tryCatch (wpAny_bind ?_)
      rw [PySem.F.slot_object_ne.bind]
      exact wpAny_pure (wpAny_pure (fin _ fun r s' h => wpAny_pure ⟨_, rfl, h⟩))
  refine wpAny_bind (thn one fun r s' ⟨v, e, h⟩ => ?_)
  subst e
  exact wpAny_pure h
/-- a name of the def that holds an own class, called: C(e, ..) -/
def tMakeL (i : Nat) (C : Addr) (sp : Sp) (t : TA) : TE := fun σ H Q => σ[i]? = some (some (.ref C)) ∧ tMake C sp [] E0 t σ H Q
theorem pe_makeL {i : Nat} {x : Str} {e : Expr} {es : List Expr} {t : TA} {p pos : Pos} (M : Mk X.K C f) (F : FnOk X.prog X.w X.K X.mg X.base CX0 k f fd ps sp) (hr : Room (k + 1) X.A) (hN : X.N[i]? = some x) (hv : Vis X.env.scope x) (hb : Binds X.K fd ps [])
    (ha : PA X (e :: es) t) (hdb : (x == ("__debug__" : Str)) = false := by decide) (hcd : (x == ("__classdict__" : Str)) = false := by decide)
    (he : starEach (e :: es) X.env = (false, eval e X.env) :: starEach es X.env := by rfl) (hpl : (backTo pos (starEach es X.env)).any (·.1) = false := by rfl) : PE X (.Call (.Name x p) (e :: es) [] pos) (tMakeL i C sp t) := by
  refine ⟨fun pins s σ H Q I h => ?_⟩
  obtain ⟨hs, ht⟩ := h
  refine wpAny_Call_Name_kw (thn ((pe_var (pos := p) hN hv hdb hcd).run pins s σ H (fun v H1 => v = .ref C ∧ H1 = H) I ⟨.ref C, hs, rfl, rfl⟩) fun u s1 ⟨v, H1, I1, r1, q1⟩ => ?_)
  obtain ⟨rfl, rfl⟩ := q1
  cases r1
  refine PySem.W.callWith_K (h₀ := X.base) I.ok.mod.kin M.kp (thn (ha.run pos pins s1 σ _ _ I1 ht) fun us s2 ⟨vs, H2, I2, r, q⟩ => ⟨I2.kIn, ?_⟩) he hpl
  exact run_make M F hr hb .nil pass0 I2 r q
end
section
variable {X : Cx} {pins : List (Addr × Obj)} {σ : L2.St} {H : Hp} {s : Shared} {a : Addr} {A : Around} {Er : Value → Shared → Prop}
/-- d.get(y, x); y may be None (d's keys ints and texts then) -/
theorem d_get2None {kvs : List (Key × V)} {d : V} {r : Value} {Q : Value → Shared → Prop} (I : Inv X pins σ H s) (e : Rd H a (.dK kvs)) (rd : RelV d r) (h : ∀ s', Inv X pins σ H s' → Q r s') : wpAny (model X.prog X.w) A (call (.builtin "dict.get") [.ref a, .none, r]) Q Er s := by
  obtain ⟨z, hd, vs, rel, dd⟩ := dk_rd I.hok e
  obtain ⟨f, hm, hf⟩ := none_map dd
  refine call_meetsIn PySem.F.slot_dict_get dd.typeIs PySem.F.entry_dict_get (PySem.F.args_dict_get_3 _ _ _) (meets_dict_get_default (knd := noneKind X.prog X.w) (k := none) a rfl hd r) ⟨f, hm, ?_⟩
  rw [hf]
  exact h _ (I.tok _)
def tDGet2N (td ty tx : TE) : TE := fun σ H Q => td σ H fun x H1 => ∃ a, x = .ref a ∧ IsD H1 a ∧ ty σ H1 fun y H2 => tx σ H2 fun z H3 => (∃ o, DGet H3 a y o ∧ Q (o.getD z) H3) ∨ (y = .non ∧ (∃ kvs, Rd H3 a (.dK kvs)) ∧ Q z H3)
variable {o e f : Expr} {apos cpos : Pos} {td ty tx : TE}
theorem pe_dget2N (hu : X.A.units + 1 < cLine) (ho : PE X o td) (he : PE X e ty) (hf : PE X f tx) (m : M2 X o "get" apos e f cpos) : PE X (.Call (.Attribute o "get" apos) [e, f] [] cpos) (tDGet2N td ty tx) := by
  refine ⟨fun pins s σ H Q I h => ?_⟩
  refine wpAny_Call_method m.base m.few m.line PySem.F.plainAttrs_dict PySem.F.slot_dict_get PySem.F.type_dict_get (thn (ho.run pins s σ H _ I h) fun u s1 ⟨x, H1, I1, rx, a, ex, d, q1⟩ => ?_)
  subst ex
  obtain rfl : u = Value.ref a := rx
  obtain ⟨t1, t2, _⟩ := isD_at I1 d
  refine ⟨t1, t2, ?_⟩
  rw [m.trees]
  refine Calls.callWith_builtin rfl (Calls.evalArgs_plain (Calls.spliced_cons (thn (he.run pins s1 σ H1 _ I1 q1) fun iv s2 ⟨y, H2, I2, ry, q2⟩ =>
    Calls.spliced_cons (thn (hf.run pins s2 σ H2 _ I2 q2) fun fv s3 ⟨z, H3, I3, rz, q3⟩ => Calls.spliced_nil ?_))))
  rcases q3 with ⟨ov, g, q3⟩ | ⟨rfl, ⟨kvs, g⟩, q3⟩
  · exact d_get2 hu I3 g ry rz fun w' s4 I4 rw' => ⟨_, H3, I4, rw', q3⟩
  · obtain rfl : iv = Value.none := ry
    exact d_get2None I3 g rz fun s4 I4 => ⟨_, H3, I4, rz, q3⟩
/-- d.setdefault(t, x), t a tuple of ints and texts -/
def tDSetdT (td ty tx : TE) : TE := fun σ H Q => td σ H fun x H1 => ∃ a, x = .ref a ∧ IsD H1 a ∧ ty σ H1 fun y H2 => tx σ H2 fun z H3 => ∃ (kvs : List (List Key × V)) (k : List Key) (b : Addr), H3 a = some (.dT kvs) ∧ y = .ref b ∧ H3 b = some (.tup (k.map kV)) ∧ kvs.length < sizeLine ∧
  (∀ v, valV kvs k = some v → Q v H3) ∧ (valV kvs k = none → Q z (upd H3 a (.dT (putK kvs k z))))
theorem d_setdT {kvs : List (List Key × V)} {k : List Key} {b : Addr} {d : V} {r : Value} {Q : Value → Shared → Prop} (hu : A.units + 1 < cLine) (I : Inv X pins σ H s) (e : H a = some (.dT kvs)) (eb : H b = some (.tup (k.map kV))) (rd : RelV d r) (hl : kvs.length < sizeLine)
    (h1 : ∀ v, valV kvs k = some v → ∀ (w' : Value) (s' : Shared), Inv X pins σ H s' → RelV v w' → Q w' s') (h2 : valV kvs k = none → ∀ (w' : Value) (s' : Shared), Inv X pins σ (upd H a (.dT (putK kvs k d))) s' → RelV d w' → Q w' s') :
    wpAny (model X.prog X.w) A (call (.builtin "dict.setdefault") [.ref a, .ref b, r]) Q Er s := by
  obtain ⟨z, hd, xs, rel, dd⟩ := dt_of I.hok e
  have lx : xs.length ≤ sizeLine := by rw [← Paired.length rel]; exact z
  refine call_setdefault_heap (hsz := lx) (tupleKind_room_in1 hu) (key_of I.hok eb) hd dd (fun p hp => ?_) fun hn h' dd' hs => ?_
  · have q := rel.val k
    rw [hp] at q
    cases q0 : valV kvs k with
    | none => rw [q0] at q; exact q.elim
    | some v0 => rw [q0] at q; exact h1 v0 q0 _ _ (I.tok _) q
  · have q := rel.val k
    rw [hn] at q
    cases q0 : valV kvs k with
    | some v0 => rw [q0] at q; exact q.elim
    | none =>
      obtain ⟨g, es, ep, hq, k2, k3, k4, _, k5⟩ := dd'
      have l2 : (putK kvs k d).length ≤ sizeLine := by have := length_putK kvs k d; omega
      refine h2 q0 _ _ (d_write I (by rw [e]; exact True.intro) hs ⟨g, hq⟩ ⟨l2, hd, _, (rel.put k eb rd).keeps fun c ys ec => ?_, g, es, ep, hq, k2, k3, k4, k5⟩) rd
      rw [upd_ne (ne_of ec e (fun z => nomatch z))]
      exact ec
theorem pe_dsetdT (hu : X.A.units + 1 < cLine) (ho : PE X o td) (he : PE X e ty) (hf : PE X f tx) (m : M2 X o "setdefault" apos e f cpos) : PE X (.Call (.Attribute o "setdefault" apos) [e, f] [] cpos) (tDSetdT td ty tx) := by
  refine ⟨fun pins s σ H Q I h => ?_⟩
  refine wpAny_Call_method m.base m.few m.line PySem.F.plainAttrs_dict PySem.F.slot_dict_setdefault PySem.F.type_dict_setdefault (thn (ho.run pins s σ H _ I h) fun u s1 ⟨x, H1, I1, rx, a, ex, d, q1⟩ => ?_)
  subst ex
  obtain rfl : u = Value.ref a := rx
  obtain ⟨t1, t2, _⟩ := isD_at I1 d
  refine ⟨t1, t2, ?_⟩
  rw [m.trees]
  refine Calls.callWith_builtin rfl (Calls.evalArgs_plain (Calls.spliced_cons (thn (he.run pins s1 σ H1 _ I1 q1) fun iv s2 ⟨y, H2, I2, ry, q2⟩ =>
    Calls.spliced_cons (thn (hf.run pins s2 σ H2 _ I2 q2) fun fv s3 ⟨z, H3, I3, rz, kvs, k, b, ea, ey, eb, hl, q3, q4⟩ => Calls.spliced_nil ?_))))
  subst ey
  obtain rfl : iv = Value.ref b := ry
  exact d_setdT hu I3 ea eb rz hl (fun v hv w' s4 I4 rw' => ⟨v, _, I4, rw', q3 v hv⟩) fun hn w' s4 I4 rw' => ⟨z, _, I4, rw', q4 hn⟩
end
end E

set_option autoImplicit true
set_option maxHeartbeats 4000000
set_option Elab.async false
set_option linter.all false
set_option maxRecDepth 100000
set_option maxHeartbeats 4000000
/-! A dict comprehension with keys that are tuples (of ints and texts): the new dict is told as .dT. -/
namespace E
open PySem PySem.Spec PyProof.Rows L2
section
variable {X : Cx}
theorem d_dictSetT {pins : List (Addr × Obj)} {σ : L2.St} {H : Hp} {s : Shared} {Er : Value → Shared → Prop} {D b : Addr} {kvs : List (List Key × V)} {k : List Key} {v : V} {r : Value} {Q : Unit → Shared → Prop} (hu : X.A.units + 1 < cLine) (I : Inv X pins σ H s)
    (hD : H D = some (.dT kvs)) (hb : H b = some (.tup (k.map kV))) (hz : kvs.length < sizeLine) (rv : RelV v r) (h : ∀ s', Inv X pins σ (upd H D (.dT (putK kvs k v))) s' → Q () s') : wpAny (model X.prog X.w) X.A (dictSet D (.ref b) r) Q Er s := by
  obtain ⟨z, hd, xs, rel, dd⟩ := dt_of I.hok hD
  have lx : xs.length ≤ sizeLine := by rw [← Paired.length rel]; exact z
  have l2 : (putK kvs k v).length ≤ sizeLine := by have := length_putK kvs k v; omega
  refine wpAny_dictSet_heap (hsz := lx) (knd := tupleKind (mixKind X.prog X.w)) (A := X.A) (by show X.A.units < cLine; omega) (key_of I.hok hb) dd fun h' dd' hs => h _ ?_
  obtain ⟨g, es, ep, hq, k2, k3, k4, _, k5⟩ := dd'
  refine d_write I (by rw [hD]; exact True.intro) hs ⟨g, hq⟩ ⟨l2, hd, _, (rel.put k hb rv).keeps fun c ys ec => ?_, g, es, ep, hq, k2, k3, k4, k5⟩
  rw [upd_ne (ne_of ec hD (fun z => nomatch z))]
  exact ec
/-- {k: v for target in iter if ..}: D the new dict, its keys tuples -/
def tDcT (wi : TI) (g : TG) (tt : TT) (tk tv : TE) (vs : List Nat) : TE := fun σ H Q => wi σ H fun J H1 => ∀ D, H1 D = none → ∃ W : Nat → Nat → Hp → Prop, (∃ m, W 0 m (upd H1 D (.dT []))) ∧ ∀ i m H, W i m H →
  (J.stop i H ∧ Q (.ref D) H) ∨ (J.go i H ∧ ∃ Nx : Hp → Prop, (∀ H', Nx H' → ∃ m', m' < m ∧ W (i + 1) m' H') ∧ ∀ x H', J.yld i H x H' → g x (wipe σ vs) H' fun σ2 H2 => wipe σ2 vs = wipe σ vs ∧ tt σ2 H2 fun b H3 =>
    if b = true then tk σ2 H3 fun y H4 => tv σ2 H4 fun z H5 => ∃ kvs k a, y = .ref a ∧ H5 a = some (.tup (k.map kV)) ∧ H5 D = some (.dT kvs) ∧ kvs.length < sizeLine ∧ Nx (upd H5 D (.dT (putK kvs k z))) else Nx H3)
abbrev emptyD : Obj := { cls := .type "dict", data := .dict #[] }
theorem dcT_core {pins : List (Addr × Obj)} {s : Shared} {σ : L2.St} {H : Hp} {Q : VK} {use : Option (Value → Sem Unit)} {Qf : Value → Shared → Prop} {pos' : Pos} {kx vx tg iter : Expr} {ifs : List Expr} {scope : Scope} {own : List (Str × Nat)} {pos : Pos} {wi : TI} {g : TG} {tt : TT} {tk tv : TE} (hu : X.A.units + 1 < cLine) (hc : X.calm = true) (hN : X.N.Nodup) (hi : PI X tg iter wi) (ok : BlkOk X.N X.env.scope scope own)
    (hg : ∀ (s : Shared) (H : Hp) (C : Addr) (cl : List (Str × Addr)) (fp : List Addr), PG (X.blk s H scope (compEnvC scope cl C X.env) fp) tg g) (ht : ∀ (s : Shared) (H : Hp) (C : Addr) (cl : List (Str × Addr)) (fp : List Addr), PTs (X.blk s H scope (compEnvC scope cl C X.env) fp) ifs tt)
    (hk : ∀ (s : Shared) (H : Hp) (C : Addr) (cl : List (Str × Addr)) (fp : List Addr), PE (X.blk s H scope (compEnvC scope cl C X.env) fp) kx tk)
    (he : ∀ (s : Shared) (H : Hp) (C : Addr) (cl : List (Str × Addr)) (fp : List Addr), PE (X.blk s H scope (compEnvC scope cl C X.env) fp) vx tv) (hs : ∀ x, foldedSetIterable iter X.env x = pure x) (I : Inv X pins σ H s) (h : tDcT wi g tt tk tv (own.map (·.2)) σ H Q)
    (hRR : ∀ D C s' m H', Inv X pins σ H' s' → Q (.ref D) H' → s'.heap.Ns C m → FpOk X pins H' C → compPost (model X.prog X.w) X.A X.xe use Qf (.ref D) C (.ok .next) s') :
    wpAny (model X.prog X.w) X.A (comprehension (.DictComp kx vx [⟨tg, iter, ifs, 0⟩] scope pos) scope X.env pos' newDict false (eval iter X.env) use) Qf X.xe s := by
  have cells : ∀ y ∈ scope.names, y.2 = .free → ∃ c, X.env.cells.lookup y.1 = some c := fun y hy e => (ok.free y hy e).elim (fun k => I.ok.has _ (.inl k)) fun k => I.ok.has _ (.inr k)
  refine wpAny_comprehension_free (use := use) rfl hs (closure_ok cells) ok.kind (fun y hy e => by rw [ok.uniq y hy, e]) (thn (hi.run pins s σ H _ I h) fun xv s1 hx => thn hx fun itv s2 h2 => ?_)
  obtain ⟨it, fp, tn, J, H2, e, I2, T, st2, f2, q⟩ := h2
  subst e
  refine wpAny_newObj_type (newEnv_comp ?_)
  -- the new dict
  generalize hD : s2.heap.objs.size = D
  obtain ⟨W, ⟨m0, w0⟩, turn⟩ := q D (I2.hok.fresh (Nat.le_of_eq hD))
  generalize hs3 : ({ s2 with heap := s2.heap.push emptyD } : Shared) = s3
  have h3 : s3.heap = s2.heap.push emptyD := by rw [← hs3]
  have I3 : Inv X pins σ (upd H2 D (.dT [])) s3 := by
    rw [← hs3]
    exact I2.laid (t' := s2.toks) (fun b o e => Heap.get?_push_of_some _ e) (Nat.le_of_eq hD) (by rw [← hD]; exact dt_empty s2.heap I2.big)
  have f3 : ∀ b ∈ fp, FpOk X pins (upd H2 D (.dT [])) b ∧ b < s3.heap.objs.size := fun b hb => by
    obtain ⟨o, e, _⟩ := T.obj _ _ st2 b hb
    have lt := Heap.lt_size e
    refine ⟨⟨?_, (f2 b hb).2⟩, by rw [h3, Heap.size_push]; exact Nat.lt_succ_of_lt lt⟩
    rw [upd_ne (by rw [← hD]; exact Nat.ne_of_lt lt)]
    exact (f2 b hb).1
  have st3 : tn 0 s3.heap := T.keep _ _ _ st2 fun b _ o e => by rw [h3]; exact Heap.get?_push_of_some _ e
  have I4 := block_start I3 ok hN f3
  have pg := hg s3 (upd H2 D (.dT [])) s3.heap.objs.size (cellsFrom (s3.heap.objs.size + 1) scope.names (cloFrom X.env.cells scope.names [])) fp
  have pt := ht s3 (upd H2 D (.dT [])) s3.heap.objs.size (cellsFrom (s3.heap.objs.size + 1) scope.names (cloFrom X.env.cells scope.names [])) fp
  have pk := hk s3 (upd H2 D (.dT [])) s3.heap.objs.size (cellsFrom (s3.heap.objs.size + 1) scope.names (cloFrom X.env.cells scope.names [])) fp
  have pv := he s3 (upd H2 D (.dT [])) s3.heap.objs.size (cellsFrom (s3.heap.objs.size + 1) scope.names (cloFrom X.env.cells scope.names [])) fp
  have free3 : ∀ b ∈ fp, (upd H2 D (.dT [])) b = none := fun b hb => (f3 b hb).1.1
  have back : ∀ (s' : Shared) (H' : Hp) (m : Str → Option Value), Inv X pins σ H' s' → Q (.ref D) H' → s'.heap.Ns s3.heap.objs.size m → FpOk X pins H' s3.heap.objs.size →
      compPost (model X.prog X.w) X.A X.xe use Qf (.ref D) s3.heap.objs.size (.ok .next) s' := fun s' H' m I' q' hn f => hRR D s3.heap.objs.size s' m H' I' q' hn f
  show codeAny _ _ (.compStart (.DictComp kx vx [⟨tg, iter, ifs, 0⟩] scope pos) 0 (.ref it) (.ref D) (compEnvC scope (cellsFrom (s3.heap.objs.size + 1) scope.names (cloFrom X.env.cells scope.names [])) s3.heap.objs.size X.env)) (compPost (model X.prog X.w) X.A X.xe use Qf (.ref D) s3.heap.objs.size) { s3 with heap := pushCells (s3.heap.push emptyD) scope.names }
  generalize hce : compEnvC scope (cellsFrom (s3.heap.objs.size + 1) scope.names (cloFrom X.env.cells scope.names [])) s3.heap.objs.size X.env = ce at I4 pg pt pk pv ⊢
  have cL : ce.locals = s3.heap.objs.size := by subst hce; rfl
  generalize hH3 : upd H2 D (.dT []) = H3 at I3 I4 pg pt pk pv w0 free3 f3
  generalize hs4 : ({ s3 with heap := pushCells (s3.heap.push emptyD) scope.names } : Shared) = s4 at I4 ⊢
  have st4 : tn 0 s4.heap := T.keep _ _ _ st3 fun b _ o e => by rw [← hs4]; exact pushCells_keeps _ _ _ _ (Heap.get?_push_of_some _ e)
  have walked : ∀ {σ' : L2.St} {H' : Hp} {s' : Shared}, Inv (X.blk s3 H3 scope ce fp) [] σ' H' s' → (∀ b ∈ fp, H' b = none) → ∀ b ∈ fp, FpOk (X.blk s3 H3 scope ce fp) [] H' b := fun {σ' H' s'} I' hn b hb =>
    ⟨hn b hb, (I'.ok.exf b hb).1, I'.ok.exfs b hb, .inl hb, fun x c e => (I'.ok.exf b hb).2 x c e, fun p hp => absurd (show p ∈ ([] : List (Addr × Obj)) ++ [] from hp) (by simp)⟩
  have loop : codeAny (model X.prog X.w) X.A (.compLoop (.DictComp kx vx [⟨tg, iter, ifs, 0⟩] scope pos) 0 (.ref it) (.ref D) ce) (compPost (model X.prog X.w) X.A X.xe use Qf (.ref D) s3.heap.objs.size) s4 := by
    refine compLoop_anyD (fun n s' => ∃ i H', Inv (X.blk s3 H3 scope ce fp) [] (wipe σ (own.map (·.2))) H' s' ∧ tn i s'.heap ∧ (∀ b ∈ fp, H' b = none) ∧ W i n H') ?_ m0 ⟨0, H3, I4, st4, free3, w0⟩
    rintro n s5 ⟨i, H5, I5, st5, n5, w5⟩
    rcases turn i n H5 w5 with ⟨stop, done⟩ | ⟨go, Nx, hNx, step⟩
    · refine thnF (T.done (X.blk s3 H3 scope ce fp) rfl rfl rfl hc i [] s5 _ H5 (fun _ _ => False) I5 (walked I5 n5) st5 stop) fun r s6 ⟨hr, I6⟩ => ?_
      subst hr
      have I7 : Inv X pins σ H5 s6 := I3.call' (ch := fp) I6.os I6.base I6.hok I6.bare fun b hb => ⟨(f3 b hb).1.2.2.2.1, (f3 b hb).1.2.1, (f3 b hb).1.2.2.2.2.1, (f3 b hb).1.2.2.2.2.2⟩
      have nC : H5 ce.locals = none := I6.free
      obtain ⟨m, hn, _⟩ := I6.loc
      have hn : s6.heap.Ns ce.locals m := hn
      rw [cL] at nC hn
      exact back s6 H5 m I7 done hn (I3.fpOk (Nat.le_refl _) nC)
    · refine thnF (T.item (X.blk s3 H3 scope ce fp) rfl rfl rfl hc i [] s5 _ H5 (fun _ _ => False) I5 (walked I5 n5) st5 go) fun r s6 ⟨u, hr, h6⟩ => ?_
      subst hr
      refine thnF h6 fun _ s7 ⟨x, H7, I7, r7, y7, st7, n7⟩ => ?_
      refine thnF (pg.run _ s7 _ H7 x u _ (I7.pinned (walked I7 n7) (T.obj _ _ st7)) r7 (step x H7 y7)) fun _ s8 ⟨σ8, H8, I8, hw8, q8⟩ => ?_
      refine thnF (pt.run _ s8 σ8 H8 _ I8 q8) fun b s9 ⟨H9, I9, q9⟩ => ?_
      have fin : ∀ {s' : Shared} {H' : Hp}, Inv (X.blk s3 H3 scope ce fp) ([] ++ pinsAt fp s7.heap) σ8 H' s' → Nx H' → ∃ m, m < n ∧ ∃ i H', Inv (X.blk s3 H3 scope ce fp) [] (wipe σ (own.map (·.2))) H' s' ∧ tn i s'.heap ∧ (∀ b ∈ fp, H' b = none) ∧ W i m H' := fun {s' H'} I' nx => by
        obtain ⟨m', hm, w'⟩ := hNx H' nx
        have still : ∀ b ∈ fp, ∀ o, s7.heap.get? b = some o → s'.heap.get? b = some o ∧ H' b = none := fun b hb o e =>
          let z := I'.pin (b, o) (List.mem_append_right _ (List.mem_append_right _ (mem_pinsAt hb e)))
          ⟨z.1, z.2.1⟩
        refine ⟨m', hm, i + 1, H', (I'.unpinned (pins := [])).weak (by rw [← hw8, wipe_length]) (fun j v e => by rw [← hw8] at e; exact (wipe_some e).1), T.keep _ _ _ st7 fun b hb o e => (still b hb o e).1, fun b hb => ?_, w'⟩
        obtain ⟨o, e, _⟩ := T.obj _ _ st7 b hb
        exact (still b hb o e).2
      cases b with
      | false => exact fin I9 q9
      | true =>
        refine thnF (pk.run _ s9 σ8 H9 _ I9 q9) fun z s10 ⟨yk, H10, I10, r10, q10⟩ => ?_
        refine thnF (pv.run _ s10 σ8 H10 _ I10 q10) fun z2 s11 ⟨yv, H11, I11, r11, kvs, k, a, ek, ha, hD11, hz11, nx⟩ => ?_
        subst ek
        obtain rfl : z = Value.ref a := r10
        exact d_dictSetT (X := X.blk s3 H3 scope ce fp) hu I11 hD11 ha hz11 r11 fun s12 I12 => fin I12 nx
  exact codeAny_compStart_dict loop (T.self X.A 0 _ _ _ st4 loop)
theorem pe_dcT {kx vx tg iter : Expr} {ifs : List Expr} {scope : Scope} {own : List (Str × Nat)} {pos : Pos} {wi : TI} {g : TG} {tt : TT} {tk tv : TE} (hu : X.A.units + 1 < cLine) (hc : X.calm = true) (hN : X.N.Nodup) (hi : PI X tg iter wi) (ok : BlkOk X.N X.env.scope scope own)
    (hg : ∀ (s : Shared) (H : Hp) (C : Addr) (cl : List (Str × Addr)) (fp : List Addr), PG (X.blk s H scope (compEnvC scope cl C X.env) fp) tg g) (ht : ∀ (s : Shared) (H : Hp) (C : Addr) (cl : List (Str × Addr)) (fp : List Addr), PTs (X.blk s H scope (compEnvC scope cl C X.env) fp) ifs tt)
    (hk : ∀ (s : Shared) (H : Hp) (C : Addr) (cl : List (Str × Addr)) (fp : List Addr), PE (X.blk s H scope (compEnvC scope cl C X.env) fp) kx tk)
    (he : ∀ (s : Shared) (H : Hp) (C : Addr) (cl : List (Str × Addr)) (fp : List Addr), PE (X.blk s H scope (compEnvC scope cl C X.env) fp) vx tv) (hs : ∀ x, foldedSetIterable iter X.env x = pure x := by intro _; rfl) :
    PE X (.DictComp kx vx [⟨tg, iter, ifs, 0⟩] scope pos) (tDcT wi g tt tk tv (own.map (·.2))) := by
  refine ⟨fun pins s σ H Q I h => ?_⟩
  rw [arm_eval_DictComp]
  refine dcT_core hu hc hN hi ok hg ht hk he hs I h fun D C s' m H' I' q hn f => ⟨m, hn, fun h'' sb => ?_⟩
  obtain ⟨f0, f1, f2, f3, f4, f5⟩ := f
  exact ⟨.ref D, H', I'.turned (t' := s'.toks) (fun b o hb e => (sb.2 b hb).trans e) f0 f1 f3 f4 f5, rfl, q⟩
/-- name = {k: v for ..} on one line, the name a local -/
theorem ps_setDcT {i : Nat} {y : Str} {py spos : Pos} {kx vx tg iter : Expr} {ifs : List Expr} {scope : Scope} {own : List (Str × Nat)} {pos : Pos} {wi : TI} {g : TG} {tt : TT} {tk tv : TE} (hu : X.A.units + 1 < cLine) (hc : X.calm = true) (hN : X.N.Nodup) (hy : X.N[i]? = some y) (hyl : X.env.scope.names.lookup y = some .local)
    (hsw : swapsWith (.DictComp kx vx [⟨tg, iter, ifs, 0⟩] scope pos) (some (.Name y py)) spos.line X.env = pure true) (hi : PI X tg iter wi) (ok : BlkOk X.N X.env.scope scope own)
    (hg : ∀ (s : Shared) (H : Hp) (C : Addr) (cl : List (Str × Addr)) (fp : List Addr), PG (X.blk s H scope (compEnvC scope cl C X.env) fp) tg g) (ht : ∀ (s : Shared) (H : Hp) (C : Addr) (cl : List (Str × Addr)) (fp : List Addr), PTs (X.blk s H scope (compEnvC scope cl C X.env) fp) ifs tt)
    (hk : ∀ (s : Shared) (H : Hp) (C : Addr) (cl : List (Str × Addr)) (fp : List Addr), PE (X.blk s H scope (compEnvC scope cl C X.env) fp) kx tk)
    (he : ∀ (s : Shared) (H : Hp) (C : Addr) (cl : List (Str × Addr)) (fp : List Addr), PE (X.blk s H scope (compEnvC scope cl C X.env) fp) vx tv) (hs : ∀ x, foldedSetIterable iter X.env x = pure x := by intro _; rfl) :
    PS X (.Assign [.Name y py] (.DictComp kx vx [⟨tg, iter, ifs, 0⟩] scope pos) spos) (tAsg (tDcT wi g tt tk tv (own.map (·.2))) (gName i)) := by
  refine ⟨fun pins s σ H D I h => ?_⟩
  rw [exec_Assign_Name_used _ _ _ _ hsw]
  refine wpAny_bind (wpAny_standAt (wpAny_bind ?_))
  have h : tDcT wi g tt tk tv (own.map (·.2)) σ H (fun x H1 => gName i x σ H1 D.nx) := h
  show wpAny _ X.A (do let _ ← comprehension (.DictComp kx vx [⟨tg, iter, ifs, 0⟩] scope pos) scope X.env (firstIterPos [⟨tg, iter, ifs, 0⟩] pos) newDict false (eval iter X.env) (some (assign (.Name y py) X.env))) _ _ s
  refine wpAny_bind (thn (dcT_core (Qf := fun _ s' => SP X pins D .next s') hu hc hN hi ok hg ht hk he hs I h fun L C s' m H' I' q hn f => ?_) fun _ s' hq => wpAny_pure (wpAny_pure hq))
  show wpAny _ _ (assign (.Name y py) X.env (.ref L)) _ _ _
  refine wpAny_assign_Name (store_ok2 (v := V.ref L) I' hN hy (.inl hyl) rfl (fun s2 I2 hst => ?_) (.inr hyl))
  obtain ⟨a, sb, ha⟩ := hst
  obtain ⟨g0, g1, g2, g3, g4, g5⟩ := f
  have nCa : C ≠ a := ha.elim (fun z => z ▸ g1) fun z e => g4 y a z e.symm
  refine ⟨m, hn.sameBut sb nCa, fun h3 sb3 => ⟨_, H', ?_, q⟩⟩
  exact I2.turned (t' := s2.toks) (fun b o hb e => (sb3.2 b hb).trans e) g0 g1 g3 g4 g5
theorem swD_true {kx vx : Expr} {gs : List Comprehension} {scope : Scope} {pos py : Pos} {y : Str} {l : Nat} {env : Env} (hk : env.scope.kind = .function) (hy : env.scope.names.lookup y = some .local) (hl : (py.line == pos.line) = true)
    (ha : (scope.names.any fun (n, k) => n == y && (k == .local || k == .cell)) = false) : swapsWith (.DictComp kx vx gs scope pos) (some (.Name y py)) l env = pure true := by
  have e1 : env.kindOf y = some .local := hy
  have e2 : env.blockKind = .function := by unfold Env.blockKind; rw [hk]; rfl
  unfold swapsWith
  simp only [e2, e1, ha, Expr.pos, hl]
  rfl
end
end E

set_option autoImplicit true
set_option maxHeartbeats 4000000
set_option Elab.async false
set_option linter.all false
set_option maxRecDepth 100000
set_option maxHeartbeats 4000000
/-! Walks that hand out new pairs: enumerate of a list, a tuple, a text; the items of a dict with tuple keys. -/
namespace E
open PySem PySem.Spec PyProof.Rows L2
/-- n turns while G holds, each gives a new pair (x, y) with R -/
def JP (G : Hp → Prop) (n : Nat) (R : Nat → Hp → V → V → Prop) : It :=
  ⟨fun i H => G H ∧ i < n, fun i H v H' => ∃ T x y, v = .ref T ∧ H T = none ∧ H' = upd H T (.tup [x, y]) ∧ R i H x y, fun i H => G H ∧ i = n⟩
/-- what a turn of it gives -/
def YP (R : Nat → Hp → V → V → Prop) : Nat → Hp → V → Hp → Prop := fun i H v H' => ∃ T x y, v = .ref T ∧ H T = none ∧ H' = upd H T (.tup [x, y]) ∧ R i H x y
theorem walk_pairs {G : Hp → Prop} {n : Nat} {R : Nat → Hp → V → V → Prop} : Walk (JP G n R) n G (YP R) := ⟨fun i H hi h => ⟨h, hi⟩, fun H h => ⟨h, rfl⟩, fun i H x H' _ _ y => y⟩
section
variable {P : Program} {w : World} {K : PySem.W.Frag}
theorem turn_pairs {ι : Type} {elts : List Expr} {x1 : Nat} {tpos : Pos} {G : Hp → Prop} {n : Nat} {R : Nat → Hp → V → V → Prop} {I : Addr} {fp src wr : List Addr} {Own : Nat → Heap → Prop} {Src : ι → Heap → Prop} {PV : ι → Nat → Value → Value → Prop}
    (hI : I ∈ fp) (hw : ∀ b ∈ wr, b ∈ fp) (hobj : ∀ i h, Own i h → ∀ b ∈ fp, ∃ o, h.get? b = some o ∧ ∀ v, o.data ≠ .cell v) (hkeep : ∀ i h h', Own i h → (∀ b ∈ fp, ∀ o, h.get? b = some o → h'.get? b = some o) → Own i h')
    (W : ∀ (A : Around) (z : ι), A.handled = none → GoesN P w A (.Tuple elts x1 tpos) I (fp ++ src) wr n (fun i h₀ v h => ∃ T a b, v = .ref T ∧ h₀.objs.size ≤ T ∧ PV z i a b ∧ h.IsTuple T #[a, b]) (fun i h => Own i h ∧ Src z h))
    (hself : ∀ (A : Around) (i : Nat) (s : Shared) (Q : Value → Shared → Prop) (E' : Value → Shared → Prop), Own i s.heap → Q (.ref I) s → wpAny (model P w) A (pyIter (.ref I)) Q E' s)
    (hsrc : ∀ (X : Cx), X.prog = P → X.w = w → X.K = K → ∀ (pins : List (Addr × Obj)) (σ : L2.St) (H : Hp) (s : Shared), Inv X pins σ H s → G H → ∃ z, Src z s.heap ∧ ∀ i a b, PV z i a b → ∃ x y, RelV x a ∧ RelV y b ∧ R i H x y) :
    Turn P w K (.Tuple elts x1 tpos) (JP G n R) fp I Own where
  mem := hI
  obj := hobj
  keep := hkeep
  item := by
    intro X hP hw' hK hc i pins s σ H E' J hf st hg
    obtain ⟨z, hz, rel⟩ := hsrc X hP hw' hK pins σ H s J hg.1
    subst hP hw'
    refine (W X.A z (J.ok.hd hc)).goes i s _ E' hg.2 ⟨st, hz⟩ fun v h' tk hY st' hk htk => ?_
    obtain ⟨T, a, b, rfl, hnew, hpv, hT⟩ := hY
    obtain ⟨x, y, rx, ry, hr⟩ := rel i a b hpv
    obtain ⟨o, ho, hoc, m, hod⟩ := hT
    have new : ObjOk X.prog X.w (upd H T (.tup [x, y])) h' T (.tup [x, y]) := ⟨by show 2 ≤ sizeLine; decide, [a, b], .cons rx (.cons ry .nil), ⟨o, ho, hoc, m, hod⟩⟩
    have hTn : H T = none := J.hok.fresh hnew
    refine ⟨.ref T, _, J.turnedNew (t' := tk) (ch := wr) hk (fun c hc' => hf c (hw c hc')) hnew new, rfl, ⟨T, x, y, rfl, hTn, rfl, hr⟩, st'.1, fun c hc' => ?_⟩
    obtain ⟨oc, e, _⟩ := hobj i s.heap st c hc'
    rw [upd_ne (Nat.ne_of_lt (Nat.lt_of_lt_of_le (Heap.lt_size e) hnew))]
    exact (hf c hc').1
  done := by
    intro X hP hw' hK hc i pins s σ H E' J hf st hg
    obtain ⟨z, hz, rel⟩ := hsrc X hP hw' hK pins σ H s J hg.1
    subst hP hw'
    obtain ⟨hg, rfl⟩ := hg
    exact (W X.A z (J.ok.hd hc)).stops s _ E' ⟨st, hz⟩ fun h' tk hk htk => J.turnedL (t' := tk) (ch := wr) hk fun c hc' => hf c (hw c hc')
  self := hself
end
/-! ### enumerate -/
set_option maxHeartbeats 2000000 in
theorem meets_enum1 {v : Value} {o : Obj} {Hd : Heap → Prop} (B : Begins v o Hd) :
    Meets (Builtin.«enumerate.__new__» ⟨[.type "enumerate", v], []⟩) (fun _ R s => Hd s.heap ∧
      R (.ok (.ret (.ref (s.heap.push o).objs.size))) { s with heap := (s.heap.push o).push { cls := .type "enumerate", data := .fields #[.none, .bool false, .ref s.heap.objs.size, rawInt 0, .none, .none] } }) :=
  .of_wp fun prog w A R s h => by
    obtain ⟨hp, g, d, tk, os⟩ := s
    obtain ⟨h1, h⟩ := h
    have hsub := sub_enumerate
    have it : ∀ {A' : Around} {E' : Value → Shared → Prop} {Q : Value → Shared → Prop}, Q (.ref hp.objs.size) ⟨hp.push o, g, d, tk, os⟩ → wpAny (model prog w) A' (pyIter v) Q E' ⟨hp, g, d, tk, os⟩ := fun q => B.iter prog w _ _ ⟨hp, g, d, tk, os⟩ _ h1 q
    wp_walk using it
    refine wpAny_stack_any fun st => wpAny_pure ?_
    split
    · rename_i c _ _ _ _ _
      cases (c == Value.type "enumerate") <;> (wp_walk using it; exact ⟨_, rfl, h⟩)
    · wp_walk using it
      exact ⟨_, rfl, h⟩
theorem call_enum1 {prog : Program} {w : World} {A : Around} {Er : Value → Shared → Prop} {s : Shared} {v : Value} {o : Obj} {Hd : Heap → Prop} {Q : Value → Shared → Prop} (B : Begins v o Hd) (h1 : Hd s.heap)
    (h : ∀ h', IsEnum h' (s.heap.objs.size + 1) s.heap.objs.size 0 .none → h'.get? s.heap.objs.size = some o → h'.objs.size = s.heap.objs.size + 2 → (∀ b u, s.heap.get? b = some u → h'.get? b = some u) → Q (.ref (s.heap.objs.size + 1)) { s with heap := h' }) :
    wpAny (model prog w) A (call (.type "enumerate") [v]) Q Er s := by
  refine callType_new F.called_enumerate (by decide) (F.typeCall_enumerate_1 _) (F.newCall_enumerate_1 _) (fun obj => F.args_object_init_2 obj _) F.entry_enumerate_new (meets_enum1 B) ⟨h1, ?_⟩
  have hz : (s.heap.push o).objs.size = s.heap.objs.size + 1 := Heap.size_push ..
  show _ ∧ _
  rw [hz]
  have he : IsEnum ((s.heap.push o).push { cls := .type "enumerate", data := .fields #[.none, .bool false, .ref s.heap.objs.size, rawInt 0, .none, .none] }) (s.heap.objs.size + 1) s.heap.objs.size 0 .none := by
    have z := Heap.get?_push_size (s.heap.push o) (o := { cls := .type "enumerate", data := .fields #[.none, .bool false, .ref s.heap.objs.size, rawInt 0, .none, .none] }) rfl
    rw [hz] at z
    exact z
  exact ⟨⟨_, he, rfl⟩, h _ he (Heap.get?_push_of_some _ (Heap.get?_push_size _ B.free)) (by rw [Heap.size_push, hz]) fun b u x => Heap.get?_push_of_some _ (Heap.get?_push_of_some _ x)⟩
section
variable {X : Cx}
/-- the i-th of xs, counted -/
def RNum (xs : List V) : Nat → Hp → V → V → Prop := fun i _ x y => x = .int (i : Nat) ∧ xs[i]? = some y
def iEnumA (K : PySem.W.Frag) (ta : TA) : TI := fun σ H R => ta σ H fun vs H1 => (∃ a xs, vs = [.ref a] ∧ SqL K H1 a xs ∧ R (JP (fun H => SqL K H a xs) xs.length (RNum xs)) H1) ∨
  (∃ a xs, vs = [.ref a] ∧ SqT K H1 a xs ∧ R (JP (fun H => SqT K H a xs) xs.length (RNum xs)) H1) ∨ ∃ l : List Nat, vs = [.str (sOf l)] ∧ R (JP (fun _ => True) l.length (RNum (signsV l))) H1
theorem enum_pie {elts : List Expr} {x1 : Nat} {tpos : Pos} {ι : Type} {G : Hp → Prop} {xs : List V} {v : Value} {o : Obj} {Hd : Heap → Prop} {src : List Addr} {OwnI : Addr → Nat → Heap → Prop} {Src : ι → Heap → Prop} {PVx : ι → Nat → Value → Prop} (B : Begins v o Hd)
    {pins : List (Addr × Obj)} {s : Shared} {σ : L2.St} {H : Hp} {R : It → Hp → Prop} (J : Inv X pins σ H s) (h1 : Hd s.heap) (hlt : ∀ b ∈ src, b < s.heap.objs.size)
    (o0 : ∀ h' it, h'.get? it = some o → OwnI it 0 h')
    (hobj : ∀ it i h, OwnI it i h → ∃ o, h.get? it = some o ∧ ∀ v, o.data ≠ .cell v)
    (D : ∀ (A : Around) (z : ι) (it : Addr), A.handled = none → s.heap.objs.size ≤ it → Draws X.prog X.w A it (it :: src) xs.length (PVx z) (fun i h => OwnI it i h ∧ Src z h))
    (hk : ∀ it i h h', OwnI it i h → (∀ u, h.get? it = some u → h'.get? it = some u) → OwnI it i h')
    (hsrc : ∀ (X' : Cx), X'.prog = X.prog → X'.w = X.w → X'.K = X.K → ∀ (pins : List (Addr × Obj)) (σ : L2.St) (H : Hp) (s : Shared), Inv X' pins σ H s → G H → ∃ z, Src z s.heap ∧ ∀ i b, PVx z i b → ∃ y, RelV y b ∧ xs[i]? = some y)
    (q : R (JP G xs.length (RNum xs)) H) : wpAny (model X.prog X.w) X.A (call (.type "enumerate") [v]) (fun v s1 => wpAny (model X.prog X.w) X.A (pyIter v) (PIE X pins σ (.Tuple elts x1 tpos) R) X.xe s1) X.xe s := by
  refine call_enum1 B h1 fun h' he hit hsz hkp => wpAny_pyIter_enum he ?_
  have I2 : Inv X pins σ H { s with heap := h' } := J.kept (t' := s.toks) hkp
  have hne : s.heap.objs.size + 1 ≠ s.heap.objs.size := Nat.succ_ne_self _
  have nin : s.heap.objs.size + 1 ∉ s.heap.objs.size :: src := fun hm => by
    rcases List.mem_cons.mp hm with z | z
    · exact hne z
    · exact absurd (hlt _ z) (Nat.not_lt.mpr (Nat.le_succ _))
  refine ⟨s.heap.objs.size + 1, [s.heap.objs.size + 1, s.heap.objs.size], fun i h => (∃ old, IsEnum h (s.heap.objs.size + 1) s.heap.objs.size ((i : Nat) : Int) old) ∧ OwnI s.heap.objs.size i h, _, H, rfl, I2,
    turn_pairs (src := src) (wr := [s.heap.objs.size + 1, s.heap.objs.size]) (PV := fun z i a b => (∃ t, a = Value.int ((i : Nat) : Int) t) ∧ PVx z i b) (Src := Src) (by simp) (fun b hb => hb) (fun i h st b hb => ?_) (fun i h h2 st k => ?_) (fun A z hh => ?_) (fun A i s2 Q2 E2 st hq => ?_) (fun X' e1 e2 e3 pins' σ' H' s' J' hG => ?_), ⟨⟨.none, he⟩, o0 _ _ hit⟩, fun b hb => ?_, q⟩
  · obtain ⟨⟨old, st1⟩, st2⟩ := st
    rcases List.mem_cons.mp hb with z | z
    · rw [z]; exact ⟨_, st1, fun v q => nomatch q⟩
    · rw [List.mem_singleton.mp z]; exact hobj _ _ _ st2
  · obtain ⟨⟨old, st1⟩, st2⟩ := st
    exact ⟨⟨old, k _ (by simp) _ st1⟩, hk _ _ _ _ st2 fun u e => k _ (by simp) u e⟩
  · have W := GoesN.enumFrom (elts := elts) (x1 := x1) (pos := tpos) 0 (D A.in1 z s.heap.objs.size (by simpa using hh) (Nat.le_refl _)) (s.heap.objs.size + 1) hne nin (by simp)
    have e0 : ∀ i : Nat, (0 : Int) + (i : Int) = ((i : Nat) : Int) := fun i => by omega
    exact ⟨W.sub, fun i h h2 st k => let z := W.frame i h h2 ⟨by rw [e0]; exact st.1.1, st.1.2, st.2⟩ k; ⟨⟨by rw [← e0]; exact z.1, z.2.1⟩, z.2.2⟩,
      fun i s2 Q2 E2 hi st hq => W.goes i s2 Q2 E2 hi ⟨by rw [e0]; exact st.1.1, st.1.2, st.2⟩ fun v h2 tk ⟨T, t, x, ev, hn, hx, hT⟩ st' hkk htk => hq v h2 tk ⟨T, _, x, ev, hn, ⟨⟨t, by rw [e0]⟩, hx⟩, hT⟩ ⟨⟨by rw [← e0]; exact st'.1, st'.2.1⟩, st'.2.2⟩ hkk htk,
      fun s2 Q2 E2 st hq => W.stops s2 Q2 E2 ⟨by rw [e0]; exact st.1.1, st.1.2, st.2⟩ hq,
      fun i s2 Q2 E2 st hq => W.self i s2 Q2 E2 ⟨by rw [e0]; exact st.1.1, st.1.2, st.2⟩ hq⟩
  · obtain ⟨⟨old, st1⟩, _⟩ := st
    exact wpAny_pyIter_enum st1 hq
  · obtain ⟨z, hz, rel⟩ := hsrc X' e1 e2 e3 pins' σ' H' s' J' hG
    refine ⟨z, hz, fun i a b ⟨⟨t, ea⟩, hb⟩ => ?_⟩
    obtain ⟨y, ry, hy⟩ := rel i b hb
    exact ⟨.int (i : Nat), y, ⟨t, ea⟩, ry, rfl, hy⟩
  · have hle : s.heap.objs.size ≤ b := by
      rcases List.mem_cons.mp hb with z | z
      · rw [z]; exact Nat.le_succ _
      · rw [List.mem_singleton.mp z]; exact Nat.le_refl _
    exact J.fpOk hle (J.hok.fresh hle)
theorem pi_enumA {e : Expr} {ta : TA} {p pos tpos : Pos} {elts : List Expr} {x1 : Nat} (hg : Gl X "enumerate") (hm : X.mg "enumerate" = none) (ha : PA X [e] ta) (hs : starEach [e] X.env = [(false, eval e X.env)] := by rfl) :
    PI X (.Tuple elts x1 tpos) (.Call (.Name "enumerate" p) [e] [] pos) (iEnumA X.K ta) := by
  refine ⟨fun pins s σ H R I h => ?_⟩
  refine Call_ (ld_blt I hg hm boot_enumerate (PyProof.Rows.callWith_type1 (thn (ha.run pos pins s σ H _ I h) fun us s1 ⟨vs, H1, I1, r1, q1⟩ => ?_) hs rfl))
  rcases q1 with ⟨a, xs, ex, hq, q⟩ | ⟨a, xs, ex, hq, q⟩ | ⟨l, ex, q⟩
  · subst ex
    rw [Vals.ref1 r1]
    obtain ⟨its, rv, pl, _⟩ := I1.list hq
    have alt : a < s1.heap.objs.size := pl.lt
    refine enum_pie (ι := { z : List Value // Vals xs z }) (G := fun H => SqL X.K H a xs) (xs := xs) (src := [a]) (OwnI := fun it i h => h.IsListIter it a i) (Src := fun z h => h.IsList a z.1.toArray) (PVx := fun z i v => z.1.toArray[i]? = some v) (begins_list a its.toArray) I1 pl.isList
      (fun b hb => by rw [List.mem_singleton.mp hb]; exact alt) (fun h' it e => ⟨_, e, rfl, rfl⟩) (fun it i h ⟨o, e, _, d⟩ => ⟨o, e, fun v z => by rw [d] at z; cases z⟩) (fun A z it hh hle => ?_) (fun it i h h' st k => st.at k) (fun X' e1 e2 e3 pins' σ' H' s' J' hG => ?_) q
    · have hz : z.1.toArray.size = xs.length := by rw [List.size_toArray, ← z.2.length]
      rw [← hz]
      exact Draws.list hh it a (fun e => absurd (Nat.lt_of_lt_of_le alt hle) (by rw [e]; exact Nat.lt_irrefl _)) z.1.toArray
    · obtain ⟨its', rv', pl', _⟩ := J'.list (e3 ▸ hG)
      refine ⟨⟨its', rv'⟩, pl'.isList, fun i b hb => ?_⟩
      have hi : i < xs.length := by rw [rv'.length]; simpa using (Array.getElem?_eq_some_iff.mp hb).1
      obtain ⟨u, hu, ru⟩ := rv'.get (List.getElem?_eq_getElem hi)
      have e : u = b := by
        have h1 : its'[i]? = some b := by simpa using hb
        rw [h1] at hu
        exact (Option.some.inj hu).symm
      exact ⟨xs[i], e ▸ ru, List.getElem?_eq_getElem hi⟩
  · subst ex
    rw [Vals.ref1 r1]
    obtain ⟨its, rv, pl, _⟩ := I1.tuple hq
    have alt : a < s1.heap.objs.size := pl.lt
    refine enum_pie (ι := { z : List Value // Vals xs z }) (G := fun H => SqT X.K H a xs) (xs := xs) (src := [a]) (OwnI := fun it i h => h.IsTupleIter it a i) (Src := fun z h => h.IsTuple a z.1.toArray) (PVx := fun z i v => z.1.toArray[i]? = some v) (begins_tuple a its.toArray) I1 pl
      (fun b hb => by rw [List.mem_singleton.mp hb]; exact alt) (fun h' it e => ⟨_, e, rfl, rfl⟩) (fun it i h ⟨o, e, _, d⟩ => ⟨o, e, fun v z => by rw [d] at z; cases z⟩) (fun A z it hh hle => ?_) (fun it i h h' st k => st.at k) (fun X' e1 e2 e3 pins' σ' H' s' J' hG => ?_) q
    · have hz : z.1.toArray.size = xs.length := by rw [List.size_toArray, ← z.2.length]
      rw [← hz]
      exact Draws.tuple hh it a (fun e => absurd (Nat.lt_of_lt_of_le alt hle) (by rw [e]; exact Nat.lt_irrefl _)) z.1.toArray
    · obtain ⟨its', rv', pl', _⟩ := J'.tuple (e3 ▸ hG)
      refine ⟨⟨its', rv'⟩, pl', fun i b hb => ?_⟩
      have hi : i < xs.length := by rw [rv'.length]; simpa using (Array.getElem?_eq_some_iff.mp hb).1
      obtain ⟨u, hu, ru⟩ := rv'.get (List.getElem?_eq_getElem hi)
      have e : u = b := by
        have h1 : its'[i]? = some b := by simpa using hb
        rw [h1] at hu
        exact (Option.some.inj hu).symm
      exact ⟨xs[i], e ▸ ru, List.getElem?_eq_getElem hi⟩
  · subst ex
    obtain ⟨u, rfl, rx⟩ := vals1 r1
    obtain ⟨t, rfl⟩ := rx
    have hsz : (sOf l).cps.size = l.length := by show l.toArray.size = _; simp
    have hsl : (signsV l).length = l.length := by simp [signsV]
    rw [← hsl] at q
    refine enum_pie (ι := Unit) (G := fun _ => True) (xs := signsV l) (src := []) (OwnI := fun it i h => h.IsStrIter it (strIterType (sOf l)) (sOf l) t i) (Src := fun _ _ => True) (PVx := fun _ i v => ∃ c u, (sOf l).cps[i]? = some c ∧ v = .str ⟨#[c]⟩ u) (begins_text (sOf l) t) I1 trivial
      (fun b hb => by cases hb) (fun h' it e => ⟨_, e, rfl, rfl⟩) (fun it i h ⟨o, e, _, d⟩ => ⟨o, e, fun v z => by rw [d] at z; cases z⟩) (fun A z it hh hle => ?_) (fun it i h h' st k => ?_) (fun X' e1 e2 e3 pins' σ' H' s' J' hG => ⟨(), trivial, fun i b ⟨c, u, hc, hb⟩ => ?_⟩) q
    · rw [hsl, ← hsz]
      have D := Draws.text (prog := X.prog) (w := X.w) hh it (sOf l) t
      exact ⟨fun i h st => D.live i h st.1, fun i h h' st k => ⟨D.frame i h h' st.1 k, trivial⟩, fun i s Q E' hi st hq => D.item i s Q E' hi st.1 fun x h' tk a b c => hq x h' tk a ⟨b, trivial⟩ c, fun s Q E' st hq => D.done s Q E' st.1 hq⟩
    · obtain ⟨o, e, r⟩ := st
      exact ⟨o, k o e, r⟩
    · have e2 : l[i]? = some c := by
        have : (sOf l).cps[i]? = l[i]? := by show l.toArray[i]? = _; simp
        rw [← this]; exact hc
      subst hb
      exact ⟨.str (sOf [c]), ⟨u, rfl⟩, by unfold signsV; rw [List.getElem?_map, e2]; rfl⟩
end
end E

set_option autoImplicit true
set_option maxHeartbeats 4000000
set_option Elab.async false
set_option linter.all false
set_option maxRecDepth 100000
set_option maxHeartbeats 4000000
/-! The items of a dict with tuple keys (locked); a walk over one of two kinds of things; comprehensions over any walk. -/
namespace E
open PySem PySem.Spec PyProof.Rows L2
section
variable {X : Cx}
/-- the i-th entry: its key's own tuple, its value -/
def RItemT (kvs : List (List Key × V)) : Nat → Hp → V → V → Prop := fun i H x y => ∃ k q, kvs[i]? = some (k, y) ∧ x = .ref q ∧ H q = some (.tup (k.map kV))
theorem frz_items {pins : List (Addr × Obj)} {σ : L2.St} {H : Hp} {s : Shared} {d : Addr} {o : Obj} {kvs : List (List Key × V)} (I : Inv X pins σ H s) (h : H d = some (.frz o (.dT kvs))) :
    (d == sysModules) = false ∧ s.heap.get? d = some o ∧ o.ExactDict ∧ ∃ (es : Array DictEntry) (ep : Nat), o.data = .dict es ep ∧ es.size = kvs.length ∧
      ∀ (i : Nat) (hi : i < es.size), ∃ x y, RelV x es[i].key ∧ RelV y es[i].val ∧ RItemT kvs i H x y := by
  obtain ⟨hd, z, hs, xs, pr, o', es, ep, ho, hx, hdt, he, _⟩ := I.hok d _ h
  rw [hd] at ho
  cases ho
  have l1 : kvs.length = xs.length := Paired.length pr
  have l2 : es.size = xs.length := by rw [← Array.length_toList, he, List.length_map]
  refine ⟨hs, hd, hx, es, ep, hdt, by rw [l1, l2], fun i hi => ?_⟩
  have all : ∀ {l : List (List Key × V)} {m : List (List Key × Addr × Value)}, Paired (fun (p : List Key × V) (q : List Key × Addr × Value) => p.1 = q.1 ∧ H q.2.1 = some (.tup (p.1.map kV)) ∧ RelV p.2 q.2.2) l m →
      ∀ (i : Nat) (q : List Key × Addr × Value), m[i]? = some q → ∃ p, l[i]? = some p ∧ H q.2.1 = some (.tup (p.1.map kV)) ∧ RelV p.2 q.2.2 := by
    intro l m r
    induction r with
    | nil => intro i q e; simp at e
    | @cons p q ps qs hq t ih =>
      intro i q' e
      cases i with
      | zero =>
        obtain rfl : q = q' := by simpa using e
        exact ⟨p, rfl, hq.2.1, hq.2.2⟩
      | succ i => exact ih i q' (by simpa using e)
  have hx2 : i < xs.length := by rw [← l2]; exact hi
  obtain ⟨p, hp, hq, hr⟩ := all pr i xs[i] (List.getElem?_eq_getElem hx2)
  have een : es[i] = entryOfKey (tupleKind (mixKind X.prog X.w)) xs[i] := by
    have e1 : es.toList[i]? = some es[i] := by rw [Array.getElem?_toList, Array.getElem?_eq_getElem hi]
    rw [he, List.getElem?_map, List.getElem?_eq_getElem hx2] at e1
    exact (Option.some.inj e1).symm
  refine ⟨.ref xs[i].2.1, p.2, by rw [een]; rfl, by rw [een]; exact hr, p.1, xs[i].2.1, ?_, rfl, hq⟩
  rw [hp]
def iItemsT (td : TE) : TI := fun σ H R => td σ H fun x H1 => ∃ d o kvs, x = .ref d ∧ H1 d = some (.frz o (.dT kvs)) ∧ R (JP (fun H => H d = some (.frz o (.dT kvs))) kvs.length (RItemT kvs)) H1
theorem pi_itemsT {elts : List Expr} {x1 : Nat} {tpos apos cpos : Pos} {e : Expr} {td : TE} (he : PE X e td) (hbase : attributeBase e "items" X.env (eval e X.env) = eval e X.env := by rfl) (hline : (apos.endLine == cpos.line) = true := by rfl) :
    PI X (.Tuple elts x1 tpos) (.Call (.Attribute e "items" apos) [] [] cpos) (iItemsT td) := by
  refine ⟨fun pins s σ H R I h => ?_⟩
  refine wpAny_Call_method (T := "dict") (id := "dict.items") hbase rfl hline F.plainAttrs_dict F.slot_dict_items F.type_dict_items (thn (he.run pins s σ H _ I h) fun u s1 ⟨x, H1, I1, rx, d, o, kvs, ex, hd, q⟩ => ?_)
  subst ex
  obtain rfl : u = Value.ref d := rx
  obtain ⟨hs, hgd, hx, es, ep, hdt, hsz, ent⟩ := frz_items I1 hd
  refine ⟨⟨o, hgd, hx.1⟩, fun b z => by cases z; exact ⟨o, hgd, hx.2.1⟩, ?_⟩
  have raw : s1.heap.DictRaw d es ep := ⟨o, hgd, hx, hdt⟩
  have I2 : Inv X pins σ H1 { s1 with heap := s1.heap.push { cls := .type "dict_items", data := .fields #[.ref d] } } := I1.kept (t' := s1.toks) fun b ob z => Heap.get?_push_of_some _ z
  have dlt : d < s1.heap.objs.size := Heap.lt_size hgd
  have fin : wpAny (model X.prog X.w) X.A (pyIter (.ref s1.heap.objs.size)) (PIE X pins σ (.Tuple elts x1 tpos) R) X.xe { s1 with heap := s1.heap.push { cls := .type "dict_items", data := .fields #[.ref d] } } := by
    refine wpAny_pyIter_items_raw (d := d) (es := es) (ep := ep) ⟨_, Heap.get?_push_size _ rfl, rfl, rfl⟩ (raw.at fun o e => Heap.get?_push_of_some _ e) ?_
    have hz : (s1.heap.push { cls := .type "dict_items", data := .fields #[.ref d] }).objs.size = s1.heap.objs.size + 1 := Heap.size_push ..
    have hne : d ≠ (s1.heap.push { cls := .type "dict_items", data := .fields #[.ref d] }).objs.size := by rw [hz]; exact Nat.ne_of_lt (Nat.lt_succ_of_lt dlt)
    refine pi_one (tk := s1.toks) I2 _ (turn_pairs (ι := Unit) (fp := [_]) (src := [d]) (wr := [_]) (Own := fun i h => ∃ ok ov, IsItemIter h _ d i es.size ep ok ov) (Src := fun _ h => h.DictRaw d es ep) (PV := fun _ i a b => ∃ hi : i < es.size, a = es[i].key ∧ b = es[i].val)
      (List.mem_singleton.mpr rfl) (fun b hb => hb) (fun i h st b hb => ?_) (fun i h h' st k => ?_) (fun A z hh => ?_) (fun A i s Q E' st hq => ?_) (fun X' e1 e2 e3 pins' σ' H' s' J hG => ?_)) ⟨.none, .none, Heap.get?_push_size _ rfl⟩ q
    · obtain ⟨ok, ov, e⟩ := st
      rw [List.mem_singleton.mp hb]
      exact ⟨_, e, fun v z => nomatch z⟩
    · obtain ⟨ok, ov, e⟩ := st
      exact ⟨ok, ov, k _ (List.mem_singleton.mpr rfl) _ e⟩
    · rw [← hsz]
      refine (GoesN.rawItems hh _ d hne es ep).mono fun i h₀ v h _ ⟨T, hi, ev, hn, hT⟩ => ⟨T, _, _, ev, hn, ⟨hi, rfl, rfl⟩, hT⟩
    · obtain ⟨ok, ov, e⟩ := st
      exact PySem.W.kcp_self e hq
    · obtain ⟨_, hgd', hx', es', ep', hdt', _, ent'⟩ := frz_items J hG
      rw [hdt] at hdt'
      injection hdt' with e4 e5
      subst e4 e5
      exact ⟨(), ⟨o, hgd', hx', hdt⟩, fun i a b ⟨hi, ea, eb⟩ => by
        obtain ⟨x, y, rx, ry, r⟩ := ent' i hi
        exact ⟨x, y, ea ▸ rx, eb ▸ ry, r⟩⟩
  show wpAny _ _ (callWith cpos (.builtin "dict.items") [.ref d] [] []) _ X.xe s1
  exact method_meetsIn F.slot_dict_items F.entry_dict_items rfl (PySem.evalArgs_none ⟨rfl, ⟨o, hgd, hx.1⟩, F.args_dict_items_1 _, _, meets_dict_items_raw d hs, ⟨es, ep, raw⟩, fin⟩)
/-- a thing walked in one of two ways -/
theorem PI.or {tg iter : Expr} {wi wi' : TI} (h : PI X tg iter wi) (h' : PI X tg iter wi') : PI X tg iter (fun σ H R => wi σ H R ∨ wi' σ H R) :=
  ⟨fun pins s σ H R I q => q.elim (fun q => h.run pins s σ H R I q) fun q => h'.run pins s σ H R I q⟩
theorem PE.or {e : Expr} {t t' : TE} (h : PE X e t) (h' : PE X e t') : PE X e (fun σ H Q => t σ H Q ∨ t' σ H Q) :=
  ⟨fun pins s σ H Q I q => q.elim (fun q => h.run pins s σ H Q I q) fun q => h'.run pins s σ H Q I q⟩
end
/-! ### dict comprehensions over a walk -/
section
variable {J : It} {n : Nat} {G : Hp → Prop} {Y : Nat → Hp → V → Hp → Prop}
theorem dc_it (w : Walk J n G Y) {g : TG} {tt : TT} {tk tv : TE} {vs : List Nat} {σ : L2.St} {H1 : Hp} {D : Addr} {Qd : Hp → Prop} (Pv : Nat → Hp → Prop) (h0 : Pv 0 (upd H1 D (.dK []))) (hG : ∀ i H, i ≤ n → Pv i H → G H)
    (hs : ∀ i x H H', i < n → Pv i H → Y i H x H' → g x (wipe σ vs) H' fun σ2 H2 => wipe σ2 vs = wipe σ vs ∧ tt σ2 H2 fun b H3 =>
      if b = true then tk σ2 H3 fun y H4 => tv σ2 H4 fun z H5 => ∃ kvs k, y = kV k ∧ H5 D = some (.dK kvs) ∧ kvs.length < sizeLine ∧ Pv (i + 1) (upd H5 D (.dK (putK kvs k z))) else Pv (i + 1) H3) (hd : ∀ H, Pv n H → Qd H) :
    ∃ W : Nat → Nat → Hp → Prop, (∃ m, W 0 m (upd H1 D (.dK []))) ∧ ∀ i m H, W i m H →
      (J.stop i H ∧ Qd H) ∨ (J.go i H ∧ ∃ Nx : Hp → Prop, (∀ H', Nx H' → ∃ m', m' < m ∧ W (i + 1) m' H') ∧ ∀ x H', J.yld i H x H' → g x (wipe σ vs) H' fun σ2 H2 => wipe σ2 vs = wipe σ vs ∧ tt σ2 H2 fun b H3 =>
        if b = true then tk σ2 H3 fun y H4 => tv σ2 H4 fun z H5 => ∃ kvs k, y = kV k ∧ H5 D = some (.dK kvs) ∧ kvs.length < sizeLine ∧ Nx (upd H5 D (.dK (putK kvs k z))) else Nx H3) := by
  refine ⟨fun i m H => m = n - i ∧ i ≤ n ∧ Pv i H, ⟨n, rfl, Nat.zero_le _, h0⟩, ?_⟩
  rintro i m H ⟨rfl, hi, p⟩
  by_cases hlt : i < n
  · exact .inr ⟨w.goes i H hlt (hG i H hi p), Pv (i + 1), fun H' p' => ⟨n - (i + 1), by omega, rfl, hlt, p'⟩, fun x H' y => hs i x H H' hlt p (w.yields i H x H' hlt (hG i H hi p) y)⟩
  · obtain rfl : i = n := by omega
    exact .inl ⟨w.stops H (hG i H hi p), hd H p⟩
theorem dcT_it (w : Walk J n G Y) {g : TG} {tt : TT} {tk tv : TE} {vs : List Nat} {σ : L2.St} {H1 : Hp} {D : Addr} {Qd : Hp → Prop} (Pv : Nat → Hp → Prop) (h0 : Pv 0 (upd H1 D (.dT []))) (hG : ∀ i H, i ≤ n → Pv i H → G H)
    (hs : ∀ i x H H', i < n → Pv i H → Y i H x H' → g x (wipe σ vs) H' fun σ2 H2 => wipe σ2 vs = wipe σ vs ∧ tt σ2 H2 fun b H3 =>
      if b = true then tk σ2 H3 fun y H4 => tv σ2 H4 fun z H5 => ∃ kvs k a, y = .ref a ∧ H5 a = some (.tup (k.map kV)) ∧ H5 D = some (.dT kvs) ∧ kvs.length < sizeLine ∧ Pv (i + 1) (upd H5 D (.dT (putK kvs k z))) else Pv (i + 1) H3) (hd : ∀ H, Pv n H → Qd H) :
    ∃ W : Nat → Nat → Hp → Prop, (∃ m, W 0 m (upd H1 D (.dT []))) ∧ ∀ i m H, W i m H →
      (J.stop i H ∧ Qd H) ∨ (J.go i H ∧ ∃ Nx : Hp → Prop, (∀ H', Nx H' → ∃ m', m' < m ∧ W (i + 1) m' H') ∧ ∀ x H', J.yld i H x H' → g x (wipe σ vs) H' fun σ2 H2 => wipe σ2 vs = wipe σ vs ∧ tt σ2 H2 fun b H3 =>
        if b = true then tk σ2 H3 fun y H4 => tv σ2 H4 fun z H5 => ∃ kvs k a, y = .ref a ∧ H5 a = some (.tup (k.map kV)) ∧ H5 D = some (.dT kvs) ∧ kvs.length < sizeLine ∧ Nx (upd H5 D (.dT (putK kvs k z))) else Nx H3) := by
  refine ⟨fun i m H => m = n - i ∧ i ≤ n ∧ Pv i H, ⟨n, rfl, Nat.zero_le _, h0⟩, ?_⟩
  rintro i m H ⟨rfl, hi, p⟩
  by_cases hlt : i < n
  · exact .inr ⟨w.goes i H hlt (hG i H hi p), Pv (i + 1), fun H' p' => ⟨n - (i + 1), by omega, rfl, hlt, p'⟩, fun x H' y => hs i x H H' hlt p (w.yields i H x H' hlt (hG i H hi p) y)⟩
  · obtain rfl : i = n := by omega
    exact .inl ⟨w.stops H (hG i H hi p), hd H p⟩
end
end E

set_option autoImplicit true
set_option maxHeartbeats 4000000
set_option Elab.async false
set_option linter.all false
set_option maxRecDepth 100000
set_option maxHeartbeats 4000000
/-! The law's cell, pool and take. -/
namespace E
open PySem PySem.Spec PyProof.Rows L2
section
variable {P : Program} {w : World} {K : PySem.W.Frag} {mg : Str → Option Value} {base : Heap}
def spCell (K : PySem.W.Frag) : Sp := fun vs H Q _ => ∃ (a : Addr) (ns : List Int) (k : Nat), vs = [.ref a, .int k] ∧ SqL K H a (ns.map V.int) ∧ ∀ c : Int, Q (.int c) H
theorem ok_cell (T : Tx K mg) : Ok P w K mg base 1 (He.ga K "_law_cell") ["_law_script", "_law_k"] (spCell K) := by
  refine ok_mk T.fn_L_cell sc_L_cell (fun _ _ _ _ _ _ us hl => match us, hl with | [_, _], _ => rfl) (fun vs H Q E h => ?_) (fun cdv A outer s H vs Q E hr h => ?_)
  · obtain ⟨a, ns, k, rfl, _⟩ := h
    rfl
  · obtain ⟨a, ns, k, rfl, hs, q⟩ := h
    refine ⟨_, pss_cons (ps_if (pt_cmpR op_lt (pv 1) (pe_callB call_len_seq (by rfl) T.f_len PySem.boot_len (pa_cons (pv 0) pa_nil)) (nomark _)) (pss_one (ps_ret (pe_ix ix_list (pv 0) (pv 1) (fun _ _ => rfl)))) pss_nil)
      (pss_one (ps_ret pe_int)), ?_⟩
    refine ⟨_, rfl, _, rfl, a, ns.map V.int, rfl, .inl hs, _, _, rfl, rfl, _, rfl, ?_⟩
    refine ite2 (fun h => ?_) (fun h => ?_)
    · rw [decide_eq_true_eq] at h
      have hk : k < ns.length := by simpa using h
      refine ⟨_, rfl, _, rfl, a, _, _, .int ns[k], rfl, rfl, hs, atI_nat (j := k) (by simp [hk]), q _⟩
    · exact q 0
/-- a pool: a rest, a seed, a count of at most n draws -/
def PoolAt (H : Hp) (p : Addr) (n : Nat) : Prop := ∃ a b c : Int, H p = some (.lst [.int a, .int b, .int c]) ∧ 0 ≤ a ∧ 0 ≤ b ∧ b < 1000000007 ∧ 0 ≤ c ∧ c ≤ n
theorem PoolAt.mono {H : Hp} {p : Addr} {n m : Nat} (h : PoolAt H p n) (l : n ≤ m) : PoolAt H p m := by
  obtain ⟨a, b, c, h1, h2, h3, h4, h5, h6⟩ := h
  exact ⟨a, b, c, h1, h2, h3, h4, h5, by omega⟩
def spPool : Sp := fun vs H Q _ => ∃ c : Int, vs = [.int c] ∧ ∀ p H', H p = none → Same H H' → PoolAt H' p 0 → Q (.ref p) H'
theorem ok_pool (T : Tx K mg) : Ok P w K mg base 1 (He.ga K "_law_pool") ["_law_cell_here"] spPool := by
  refine ok_mk T.fn_L_pool sc_L_pool (fun _ _ _ _ _ _ us hl => match us, hl with | [_], _ => rfl) (fun vs H Q E h => ?_) (fun cdv A outer s H vs Q E hr h => ?_)
  · obtain ⟨c, rfl, _⟩ := h
    rfl
  · obtain ⟨c, rfl, q⟩ := h
    refine ⟨_, pss_cons (ps_set (i := 1) sc_L_pool.nd rfl (Or.inl rfl) (pe_op op_mul pe_int (pv 0)))
      (C8.pss_cut (ps_if (pt_cmpR op_lt (pv 0) pe_int (nomark _)) (pss_one (ps_set (i := 1) sc_L_pool.nd rfl (Or.inl rfl) (pe_op op_sub (pe_op op_sub pe_int (pe_op op_mul pe_int (pv 0))) pe_int))) pss_nil)
      (pss_cons (ps_if (pt_cmpR op_ge (pv 1) (pe_op op_pow pe_int pe_int) (nomark _))
        (pss_one (ps_ret (pe_lst (pa_cons (pv 1) (pa_cons (pe_op op_mod (pe_callTy call_int1 (by rfl) T.f_int (by decide +kernel) (pa_cons (pv 1) pa_nil)) pe_int) (pa_cons pe_int pa_nil)))))) pss_nil)
      (pss_one (ps_ret (pe_lst (pa_cons pe_int (pa_cons (pe_op op_mod (pe_callTy call_int1 (by rfl) T.f_int (by decide +kernel) (pa_cons (pv 1) pa_nil)) pe_int) (pa_cons pe_int pa_nil)))))))), ?_⟩
    have fin : ∀ f : Int, 0 ≤ f → ∀ a : Int, 0 ≤ a → ∀ p, H p = none → Q (.ref p) (upd H p (.lst [.int a, .int (f % 1000000007), .int 0])) := fun f hf a ha p hp =>
      q p _ hp (Same.up hp) ⟨a, _, 0, upd_same, ha, Int.emod_nonneg _ (by decide), Int.emod_lt_of_pos _ (by decide), by decide, by decide⟩
    refine ⟨_, rfl, _, _, rfl, rfl, .inl ⟨by decide, by decide⟩, ?_⟩
    refine ⟨fun σ' H' => H' = H ∧ ∃ f : Int, 0 ≤ f ∧ σ' = [some (.int c), some (.int f)], ?_, ?_⟩
    · refine ⟨_, rfl, _, _, rfl, rfl, _, rfl, ?_⟩
      refine ite2 (fun h => ?_) (fun h => ?_)
      · rw [decide_eq_true_eq] at h
        refine ⟨_, rfl, _, _, rfl, rfl, .inl ⟨by decide, by decide⟩, _, _, rfl, rfl, _, _, rfl, rfl, rfl, 0 - 2 * c - 1, by omega, rfl⟩
      · rw [decide_eq_true_eq] at h
        exact ⟨rfl, 2 * c, by omega, rfl⟩
    · rintro σ' H' ⟨rfl, f, hf, rfl⟩
      refine ⟨_, rfl, _, _, rfl, rfl, ⟨by decide, by decide, by decide⟩, _, _, rfl, rfl, _, rfl, ?_⟩
      refine ite2 (fun h => ?_) (fun h => ?_)
      · exact ⟨_, rfl, _, rfl, .inl ⟨_, rfl, _, _, rfl, rfl, (by show (0 : Int) < 1000000007; decide), (by show 3 ≤ sizeLine; decide), fin f hf f hf⟩⟩
      · exact ⟨_, rfl, .inl ⟨_, rfl, _, _, rfl, rfl, (by show (0 : Int) < 1000000007; decide), (by show 3 ≤ sizeLine; decide), fin f hf 0 (by decide)⟩⟩
def spTake : Sp := fun vs H Q _ => ∃ (p : Addr) (n : Nat) (m : Int), vs = [.ref p, .int m] ∧ PoolAt H p n ∧ n ≤ 1000000 ∧ 0 < m ∧ m < 1000 ∧
  ∀ (r : Int) H', 0 ≤ r → r < m → (∀ b, b ≠ p → H' b = H b) → PoolAt H' p (n + 1) → Q (.int r) H'
theorem ok_take (T : Tx K mg) : Ok P w K mg base 1 (He.ga K "_law_take") ["_law_pool_here", "_law_many"] spTake := by
  refine ok_mk T.fn_L_take sc_L_take (fun _ _ _ _ _ _ us hl => match us, hl with | [_, _], _ => rfl) (fun vs H Q E h => ?_) (fun cdv A outer s H vs Q E hr h => ?_)
  · obtain ⟨p, n, m, rfl, _⟩ := h
    rfl
  · obtain ⟨p, n, m, rfl, ⟨a, b, c, hp, a0, b0, b1, c0, c1⟩, hn, m0, m1, q⟩ := h
    refine ⟨_, pss_cons (ps_if (pt_cmpR op_gt (pe_ix ix_list (pv 0) pe_int (fun _ _ => rfl)) pe_int (nomark _))
        (pss_cons (ps_set (i := 2) sc_L_take.nd rfl (Or.inl rfl) (pe_op op_mod (pe_callTy call_int1 (by rfl) T.f_int (by decide +kernel) (pa_cons (pe_ix ix_list (pv 0) pe_int (fun _ _ => rfl)) pa_nil)) (pv 1)))
        (pss_cons (ps_asg (pe_op op_fdiv (pe_ix ix_list (pv 0) pe_int (fun _ _ => rfl)) (pv 1)) (pg_sub (pv 0) pe_int set_list))
        (pss_one (ps_ret (pv 2))))) pss_nil)
      (pss_cons (ps_asg (pe_op op_add (pe_ix ix_list (pv 0) pe_int (fun _ _ => rfl)) pe_int) (pg_sub (pv 0) pe_int set_list))
      (pss_cons (ps_set (i := 3) sc_L_take.nd rfl (Or.inl rfl) (pe_op op_mod (pe_callTy call_int1 (by rfl) T.f_int (by decide +kernel) (pa_cons (pe_op op_pow (pe_op op_add (pe_op op_add (pe_ix ix_list (pv 0) pe_int (fun _ _ => rfl))
        (pe_op op_mul pe_int (pe_ix ix_list (pv 0) pe_int (fun _ _ => rfl)))) pe_int) pe_int) pa_nil)) pe_int))
      (pss_one (ps_ret (pe_op op_mod (pe_op op_mod (pe_callTy call_int1 (by rfl) T.f_int (by decide +kernel) (pa_cons (pe_op op_mul (pe_op op_add (pv 3) (pe_ix ix_list (pv 0) pe_int (fun _ _ => rfl))) pe_int) pa_nil)) pe_int) (pv 1)))))), ?_⟩
    refine ⟨_, rfl, _, _, _, _, rfl, rfl, SqL.of hp, rfl, _, _, rfl, rfl, _, rfl, ?_⟩
    refine ite2 (fun h => ?_) (fun h => ?_)
    · rw [decide_eq_true_eq] at h
      refine ⟨_, rfl, _, _, _, _, rfl, rfl, SqL.of hp, rfl, .inl ⟨_, rfl, _, rfl, _, _, rfl, rfl, m0, ?_⟩⟩
      refine ⟨_, rfl, _, _, _, _, rfl, rfl, SqL.of hp, rfl, _, rfl, _, _, rfl, rfl, ⟨m0, by omega⟩, _, rfl, _, _, _, 0, rfl, rfl, hp, rfl, ?_⟩
      refine putI fun H' k h' => ?_
      exact ⟨_, rfl, q _ H' (Int.emod_nonneg _ (by omega)) (Int.emod_lt_of_pos _ m0) k ⟨a / m, b, c, h', Int.ediv_nonneg a0 (by omega), b0, b1, c0, by omega⟩⟩
    · refine ⟨_, rfl, _, _, _, _, rfl, rfl, SqL.of hp, rfl, _, _, rfl, rfl, _, rfl, _, _, _, 2, rfl, rfl, hp, rfl, ?_⟩
      refine putI fun H' k h' => ?_
      refine ⟨_, rfl, _, _, _, _, rfl, rfl, SqL.of h', rfl, _, rfl, _, _, _, _, rfl, rfl, SqL.of h', rfl, _, _, rfl, rfl, .inl ⟨by decide, by decide⟩, _, _, rfl, rfl, _, _, rfl, rfl, _, _, rfl, rfl, ⟨by decide, by decide, ?_⟩, ?_⟩
      · omega
      refine .inl ⟨_, rfl, _, _, rfl, rfl, (by show (0 : Int) < 2147483647; decide), ?_⟩
      refine ⟨_, rfl, _, rfl, _, _, _, _, rfl, rfl, SqL.of h', rfl, _, _, rfl, rfl, _, _, rfl, rfl, .inr ⟨by decide, by decide⟩, ?_⟩
      refine .inl ⟨_, rfl, _, _, rfl, rfl, (by show (0 : Int) < 2147483629; decide), _, rfl, _, _, rfl, rfl, m0, ?_⟩
      exact q _ H' (Int.emod_nonneg _ (by omega)) (Int.emod_lt_of_pos _ m0) k ⟨a, b, c + 1, h', a0, b0, b1, by omega, by omega⟩
end
end E

set_option autoImplicit true
set_option maxHeartbeats 4000000
set_option Elab.async false
set_option linter.all false
set_option maxRecDepth 100000
set_option maxHeartbeats 4000000
/-! The law's shuffles, letters and words. -/
namespace E
open PySem PySem.Spec PyProof.Rows L2
/-! ### a list that is being made at D -/
def Bl (H0 : Hp) (D : Addr) (H : Hp) (acc : List V) : Prop := Same H0 H ∧ H D = some (.lst acc)
section
variable {H0 H H' : Hp} {D : Addr} {acc : List V} {y : V}
theorem Bl.start (h : H0 D = none) : Bl H0 D (upd H0 D (.lst [])) [] := ⟨Same.up h, upd_same⟩
theorem Bl.push (b : Bl H0 D H acc) (h : H0 D = none) : Bl H0 D (upd H D (.lst (acc ++ [y]))) (acc ++ [y]) := ⟨fun a o e => by rw [upd_ne (ne_of_none e h)]; exact b.1 a o e, upd_same⟩
theorem Bl.mid (b : Bl H0 D H acc) (s : Same H H') : Bl H0 D H' acc := ⟨fun a o e => s a o (b.1 a o e), s D _ b.2⟩
end
theorem same_trans {H H1 H2 : Hp} (a : Same H H1) (b : Same H1 H2) : Same H H2 := fun x o e => b x o (a x o e)
theorem same_free {H H1 : Hp} {a : Addr} (s : Same H H1) (h : H1 a = none) : H a = none := by
  cases e : H a with
  | none => rfl
  | some o => rw [s a o e] at h; cases h
theorem newJ {H : Hp} {p : Addr} {o : HO} {Q : Hp → Prop} (hp : H p = none) (k : ∀ H', Same H H' → H' p = some o → (∀ b, b ≠ p → H' b = H b) → Q H') : Q (upd H p o) := k _ (Same.up hp) upd_same fun b n => upd_ne n
theorem newE {H H' : Hp} {p : Addr} {o : HO} (hp : H p = none) (e : upd H p o = H') : Same H H' ∧ H' p = some o ∧ ∀ b, b ≠ p → H' b = H b := by
  subst e
  exact ⟨Same.up hp, upd_same, fun b n => upd_ne n⟩
theorem putE {H H' : Hp} {p : Addr} {o : HO} (e : upd H p o = H') : H' p = some o ∧ ∀ b, b ≠ p → H' b = H b := by
  subst e
  exact ⟨upd_same, fun b n => upd_ne n⟩
/-- a comprehension's word: the list at D, and R of it -/
def PB (H1 : Hp) (D : Addr) (R : Nat → List V → Hp → Prop) (i : Nat) (H : Hp) : Prop := ∃ acc, Bl H1 D H acc ∧ R i acc H
theorem PB.start {H1 : Hp} {D : Addr} {R : Nat → List V → Hp → Prop} (h : H1 D = none) (r : ∀ H, Same H1 H → R 0 [] H) : PB H1 D R 0 (upd H1 D (.lst [])) := ⟨[], Bl.start h, r _ (Same.up h)⟩
theorem PB.add {H1 H H4 : Hp} {D : Addr} {R : Nat → List V → Hp → Prop} {i : Nat} {acc : List V} {y : V} (b : Bl H1 D H acc) (h : H1 D = none) (s : Same H H4) (l : acc.length < sizeLine)
    (r : ∀ H5, Same H1 H5 → (∀ b, b ≠ D → H5 b = H4 b) → R (i + 1) (acc ++ [y]) H5) : ∃ acc, H4 D = some (.lst acc) ∧ acc.length < sizeLine ∧ PB H1 D R (i + 1) (upd H4 D (.lst (acc ++ [y]))) :=
  have b4 := b.mid s
  ⟨acc, b4.2, l, acc ++ [y], b4.push h, r _ (b4.push h).1 fun _ n => upd_ne n⟩
theorem PB.stay {H1 H H3 : Hp} {D : Addr} {R : Nat → List V → Hp → Prop} {i : Nat} {acc : List V} (b : Bl H1 D H acc) (s : Same H H3) (r : R (i + 1) acc H3) : PB H1 D R (i + 1) H3 := ⟨acc, b.mid s, r⟩
theorem yesI {σ : L2.St} {H : Hp} {A B : Hp → Prop} (h : A H) : tYes σ H (fun b H3 => if b = true then A H3 else B H3) := by
  show if true = true then A H else B H
  rw [if_pos rfl]
  exact h
theorem same_refl (H : Hp) : Same H H := fun _ _ h => h
theorem join_sOf (y : List Nat) (ls : List (List Nat)) : Txt.join (sOf y) (ls.map sOf) = sOf (TL.joinL y ls) := by
  have e : TL.tl (Txt.join (sOf y) (ls.map sOf)) = TL.joinL y ls := by
    rw [TL.join_eq, TL.tl_join]
    rw [List.map_map]
    have h : (TL.tl ∘ sOf) = id := funext fun a => sOf_toList a
    rw [h, List.map_id]
    exact congrArg (fun z => TL.joinL z ls) (sOf_toList y)
  rw [← sOf_self (Txt.join (sOf y) (ls.map sOf))]
  exact congrArg sOf e
theorem joinL_nil (ls : List (List Nat)) : TL.joinL [] ls = ls.flatten := by
  induction ls with
  | nil => rfl
  | cons a r ih =>
    cases r with
    | nil => simp [TL.joinL]
    | cons b r => rw [TL.joinL, List.nil_append, ih]; rfl
theorem joinL_signs (l : List Nat) : TL.joinL [] (l.map fun c => [c]) = l := by
  rw [joinL_nil]
  induction l with
  | nil => rfl
  | cons a r ih => simp_all
theorem cutV_to (xs : List V) (k : Nat) : cutV xs none (some (k : Int)) = xs.take k := by
  unfold cutV
  rw [HT.sIx_none, HT.sIx_nat]
  simp [List.take_eq_take_iff]
theorem cutV_from (xs : List V) (k : Nat) : cutV xs (some (k : Int)) none = xs.drop k := by
  unfold cutV
  rw [HT.sIx_none, HT.sIx_nat]
  rcases Nat.le_total k xs.length with h | h
  · rw [Nat.min_eq_left h, List.take_of_length_le (by simp)]
  · rw [Nat.min_eq_right h, List.drop_of_length_le (Nat.le_refl _), List.drop_of_length_le h]; simp
section
variable {P : Program} {w : World} {K : PySem.W.Frag} {mg : Str → Option Value} {base : Heap}
/-- list(l) in a drawn order; at most 4 signs -/
def spMixed : Sp := fun vs H Q _ => ∃ (p : Addr) (n : Nat) (l : List Nat), vs = [.ref p, .str (sOf l)] ∧ PoolAt H p n ∧ n + l.length ≤ 1000000 ∧ l.length ≤ 100 ∧
  ∀ (f : Addr) (l' : List Nat) H', l'.Perm l → Kp (only p) H H' → H f = none → H' f = some (.lst (signsV l')) → PoolAt H' p (n + l.length) → Q (.ref f) H'
theorem ok_mixed (T : Tx K mg) (ht : Ok P w K mg base 1 (He.ga K "_law_take") ["_law_pool_here", "_law_many"] spTake) : Ok P w K mg base 2 (He.ga K "_law_mixed") ["_law_pool_here", "_law_things"] spMixed := by
  obtain ⟨_, Ft, bt, kt⟩ := ht
  refine ok_mk T.fn_L_mixed sc_L_mixed (fun _ _ _ _ _ _ us hl => match us, hl with | [_, _], _ => rfl) (fun vs H Q E h => ?_) (fun cdv A outer s H vs Q E hr h => ?_)
  · obtain ⟨p, n, l, rfl, _⟩ := h
    rfl
  · obtain ⟨p, n, l, rfl, hp, hn, hl, q⟩ := h
    refine ⟨_, pss_cons (ps_set (i := 2) sc_L_mixed.nd rfl (Or.inl rfl) (pe_callTy (cr_listStr rfl) (by rfl) T.f_list (by decide +kernel) (pa_cons (pv 1) pa_nil)))
      (pss_cons (ps_set (i := 3) sc_L_mixed.nd rfl (Or.inl rfl) (pe_lst pa_nil))
      (pss_cons (ps_for PassesOwn.never rfl (pi_range1 rfl T.f_range (pa_cons (pe_callB call_len_str (by rfl) T.f_len PySem.boot_len (pa_cons (pv 1) pa_nil)) pa_nil)) (pg_name (i := 4) sc_L_mixed.nd rfl (Or.inl rfl))
        (pss_cons (ps_set (i := 5) sc_L_mixed.nd rfl (Or.inl rfl) (pe_call Ft hr rfl T.g_L_take kt bt .nil pass0 (pa_cons (pv 0) (pa_cons (pe_callB call_len_seq (by rfl) T.f_len PySem.boot_len (pa_cons (pv 2) pa_nil)) pa_nil))))
        (pss_cons (ps_expr (pe_bm PySem.F.plainAttrs_list PySem.F.slot_list_append PySem.F.type_list_append mt_append (pv 3) (pa_cons (pe_ix ix_list (pv 2) (pv 5) (fun _ _ => rfl)) pa_nil)))
        (pss_one (ps_set (i := 2) sc_L_mixed.nd rfl (Or.inl rfl) (pe_op op_cat (pe_slice sl_list (pv 2) po_none (po_some (pv 5))) (pe_slice sl_list (pv 2) (po_some (pe_op op_add (pv 5) pe_int)) po_none)))))))
      (pss_one (ps_ret (pv 3))))), ?_⟩
    obtain ⟨a, b, c, hp0, hpr⟩ := id hp
    refine ⟨_, rfl, l, rfl, by unfold sizeLine; omega, fun x x0 => newJ x0 fun H1 s1 x1 f1 => ?_⟩
    refine ⟨by decide, fun y y0 => newJ y0 fun H2 s2 y1 f2 => ?_⟩
    have np : x ≠ p := fun z => by rw [z, hp0] at x0; cases x0
    have pp1 := s1 _ _ hp0
    have npy : y ≠ p := fun z => by rw [z, pp1] at y0; cases y0
    have nxy : x ≠ y := fun z => by rw [z, y0] at x1; cases x1
    refine ⟨_, rfl, _, rfl, by rw [sOf_len]; unfold sizeLine; omega, _, rfl, (by omega), (by rw [sOf_len]; omega), ?_⟩
    refine for_range (n := l.length) (fun i σ H' => ∃ lf fl ll x4 x5, σ = [some (.ref p), some (.str (sOf l)), some (.ref lf), some (.ref y), x4, x5] ∧ (fl ++ ll).Perm l ∧ fl.length = i ∧
      H' lf = some (.lst (signsV ll)) ∧ H' y = some (.lst (signsV fl)) ∧ lf ≠ y ∧ lf ≠ p ∧ Kp (only p) H H' ∧ PoolAt H' p (n + i)) ?_ (fun i σ H' hi hI => ?_) (fun σ H' hI => ?_)
    · exact ⟨x, [], l, none, none, rfl, by simp, rfl, s2 _ _ x1, y1, nxy, np, Same.kp (same_trans s1 s2), ⟨a, b, c, s2 _ _ pp1, hpr⟩⟩
    · obtain ⟨lf, fl, ll, x4, x5, rfl, pm, hfl, h1, h2, d1, d2, kp, hP⟩ := hI
      have hll : fl.length + ll.length = l.length := by rw [← List.length_append]; exact pm.length_eq
      obtain ⟨a', b', c', hp', _⟩ := id hP
      refine ⟨_, rfl, _, rfl, _, _, rfl, .inl (SqL.of h1), ?_⟩
      have el : (signsV ll).length = ll.length := by simp [signsV]
      refine ⟨p, n + i, _, rfl, hP, by omega, by rw [el]; omega, by rw [el]; omega, fun r H3 r0 r1 k3 P3 => ?_⟩
      rw [el] at r1
      obtain ⟨j, rfl⟩ := Int.eq_ofNat_of_zero_le r0
      have hj : j < ll.length := by omega
      have h1' : H3 lf = some (.lst (signsV ll)) := (k3 _ d2).trans h1
      have h2' : H3 y = some (.lst (signsV fl)) := (k3 _ npy).trans h2
      refine ⟨_, rfl, .inl ⟨rfl, _, SqL.of h2'⟩, _, rfl, _, rfl, lf, _, _, V.str (sOf [ll[j]]), rfl, rfl, SqL.of h1', atI_nat (by simp [signsV, hj]), y, _, _, rfl, rfl, h2', by simp [signsV]; unfold sizeLine; omega, ?_⟩
      refine putI fun H4 k4 h4 => ?_
      have h1'' : H4 lf = some (.lst (signsV ll)) := (k4 _ d1).trans h1'
      refine ⟨_, rfl, _, rfl, _, rfl, lf, _, rfl, SqL.of h1'', fun u u0 => ?_⟩

      generalize eH5 : upd H4 u _ = H5
      have s5 := eH5 ▸ Same.up u0
      have u1 := eH5 ▸ upd_same
      rw [cutV_to] at u1
      refine ⟨_, rfl, _, rfl, _, _, rfl, rfl, _, rfl, lf, _, rfl, SqL.of (s5 _ _ h1''), fun x x0 => ?_⟩

      generalize eH6 : upd H5 x _ = H6
      have s6 := eH6 ▸ Same.up x0
      have x1 := eH6 ▸ upd_same
      rw [show (j : Int) + 1 = ((j + 1 : Nat) : Int) from rfl, cutV_from] at x1
      refine ⟨_, _, _, _, rfl, rfl, s6 _ _ u1, x1, by simp [signsV]; unfold sizeLine; omega, fun v v0 => ?_⟩

      generalize eH7 : upd H6 v _ = H7
      have s7 := eH7 ▸ Same.up v0
      have v1 := eH7 ▸ upd_same
      have nv : v ≠ y := fun z => by rw [z, s6 _ _ (s5 _ _ h4)] at v0; cases v0
      have pH4 : H4 p = H3 p := k4 p fun z => npy z.symm
      obtain ⟨a3, b3, c3, hp3, hpr3⟩ := P3
      have hp4 : H4 p = _ := pH4.trans hp3
      have nvp : v ≠ p := fun z => by rw [z, s6 _ _ (s5 _ _ hp4)] at v0; cases v0
      refine ⟨v, fl ++ [ll[j]], ll.take j ++ ll.drop (j + 1), _, _, rfl, ?_, by simp [hfl], ?_, ?_, nv, nvp, ?_, ⟨a3, b3, c3, s7 _ _ (s6 _ _ (s5 _ _ hp4)), hpr3⟩⟩
      · refine List.Perm.trans ?_ pm
        rw [List.append_assoc]
        refine List.Perm.append_left _ ?_
        have e : ll = ll.take j ++ ll[j] :: ll.drop (j + 1) := by rw [← List.drop_eq_getElem_cons hj, List.take_append_drop]
        rw [List.singleton_append]
        refine (List.perm_middle (l₁ := ll.take j) (l₂ := ll.drop (j + 1)) (a := ll[j])).symm.trans ?_
        rw [← e]
      · rw [v1]; simp [signsV, List.map_take, List.map_drop]
      · rw [s7 _ _ (s6 _ _ (s5 _ _ h4))]; simp [signsV]
      · intro b o e nb
        have e3 := kp b o e nb
        have nby : b ≠ y := fun z => by rw [z, same_free s1 y0] at e; cases e
        exact s7 _ _ (s6 _ _ (s5 _ _ ((k4 b nby).trans ((k3 b nb).trans e3))))
    · obtain ⟨lf, fl, ll, x4, x5, rfl, pm, hfl, h1, h2, d1, d2, kp, hP⟩ := hI
      have hll : fl.length + ll.length = l.length := by rw [← List.length_append]; exact pm.length_eq
      have : ll = [] := List.eq_nil_of_length_eq_zero (by omega)
      subst this
      refine ⟨_, rfl, q y fl H' (by simpa using pm) kp (same_free s1 y0) h2 hP⟩
/-- some different letters, 1 to 4 -/
def LetOk (l : List Nat) : Prop := l.Nodup ∧ 1 ≤ l.length ∧ ∀ c, c ∈ l → 97 ≤ c ∧ c ≤ 122
def spLetters : Sp := fun vs H Q _ => ∃ (p : Addr) (n : Nat), vs = [.ref p, .int 4] ∧ PoolAt H p n ∧ n + 10 ≤ 1000000 ∧
  ∀ (l : List Nat) H', LetOk l → l.length ≤ 4 → 103 ∉ l → Kp (only p) H H' → PoolAt H' p (n + 6) → Q (.str (sOf l)) H'
theorem ok_letters (T : Tx K mg) (ht : Ok P w K mg base 1 (He.ga K "_law_take") ["_law_pool_here", "_law_many"] spTake) (hm : Ok P w K mg base 2 (He.ga K "_law_mixed") ["_law_pool_here", "_law_things"] spMixed) :
    Ok P w K mg base 3 (He.ga K "_law_letters") ["_law_pool_here", "_law_most"] spLetters := by
  obtain ⟨_, Ft, bt, kt⟩ := ht
  obtain ⟨_, Fm, bm, km⟩ := hm
  refine ok_mk T.fn_L_letters sc_L_letters (fun _ _ _ _ _ _ us hl => match us, hl with | [_, _], _ => rfl) (fun vs H Q E h => ?_) (fun cdv A outer s H vs Q E hr h => ?_)
  · obtain ⟨p, n, rfl, _⟩ := h
    rfl
  · obtain ⟨p, n, rfl, hp, hn, q⟩ := h
    have hr1 : Room 1 (A.deeper (envOfC "_law_letters" (defScope s_L_letters) s.heap.objs.size (He.ga K "_law_letters") cdv)) := hr.mono (by decide)
    refine ⟨_, pss_cons (ps_set (i := 2) sc_L_letters.nd rfl (Or.inl rfl) (pe_call Fm hr rfl T.g_L_mixed km bm .nil pass0 (pa_cons (pv 0) (pa_cons (pe_ix ix_list (pe_lst (pa_cons pe_str (pa_cons pe_str (pa_cons pe_str (pa_cons pe_str pa_nil)))))
        (pe_call Ft hr1 rfl T.g_L_take kt bt .nil pass0 (pa_cons (pv 0) (pa_cons pe_int pa_nil))) (fun _ _ => rfl)) pa_nil))))
      (pss_one (ps_ret (pe_join pe_str (pe_slice sl_list (pv 2) po_none (po_some (pe_op op_add pe_int (pe_call Ft hr1 rfl T.g_L_take kt bt .nil pass0 (pa_cons (pv 0) (pa_cons (pv 1) pa_nil))))))))), ?_⟩
    obtain ⟨a, b, c, hp0, hpr⟩ := id hp
    refine ⟨_, rfl, (by show 4 ≤ sizeLine; decide), fun x x0 => ?_⟩
    generalize e1 : upd H x _ = H1
    obtain ⟨s1, x1, f1⟩ := newE x0 e1
    refine ⟨_, rfl, p, n, _, rfl, ⟨a, b, c, s1 _ _ hp0, hpr⟩, by omega, by decide, by decide, fun r H2 r0 r1 k2 P2 => ?_⟩
    have nx : x ≠ p := fun z => by rw [z, hp0] at x0; cases x0
    have x2 := (k2 x nx).trans x1
    obtain ⟨l, al, nd, l4, ab, n3⟩ : ∃ l : List Nat, atI [V.str "abcd", V.str "zyxw", V.str "qmbe", V.str "tkaz"] r = some (V.str (sOf l)) ∧ l.Nodup ∧ l.length = 4 ∧ (∀ c, c ∈ l → 97 ≤ c ∧ c ≤ 122) ∧ 103 ∉ l := by
      have cs : r = 0 ∨ r = 1 ∨ r = 2 ∨ r = 3 := by omega
      rcases cs with rfl | rfl | rfl | rfl
      · exact ⟨[97, 98, 99, 100], rfl, by decide, rfl, by decide, by decide⟩
      · exact ⟨[122, 121, 120, 119], rfl, by decide, rfl, by decide, by decide⟩
      · exact ⟨[113, 109, 98, 101], rfl, by decide, rfl, by decide, by decide⟩
      · exact ⟨[116, 107, 97, 122], rfl, by decide, rfl, by decide, by decide⟩
    refine ⟨x, _, r, _, rfl, rfl, SqL.of x2, al, ?_⟩
    refine ⟨p, n + 1, l, rfl, P2, by omega, by omega, fun f l' H3 pm kp f0 h3 P3 => ?_⟩
    · refine ⟨⟨_, rfl⟩, _, rfl, _, rfl, _, rfl, p, n + 1 + l.length, 4, rfl, P3, by omega, by decide, by decide, fun r2 H4 q0 q1 k4 P4 => ?_⟩
      obtain ⟨j, rfl⟩ := Int.eq_ofNat_of_zero_le q0
      have nf : f ≠ p := fun z => by
        obtain ⟨_, _, _, z1, _⟩ := P2
        rw [z, z1] at f0; cases f0
      refine ⟨_, _, rfl, rfl, _, rfl, f, _, rfl, SqL.of ((k4 f nf).trans h3), fun u u0 => ?_⟩
      generalize e5 : upd H4 u _ = H5
      obtain ⟨s5, u1, f5⟩ := newE u0 e5
      rw [show (1 : Int) + (j : Int) = ((1 + j : Nat) : Int) by omega, cutV_to] at u1
      have e6 : (signsV l').take (1 + j) = ((l'.take (1 + j)).map fun c => sOf [c]).map V.str := by
        unfold signsV
        rw [List.map_map, List.map_take]; rfl
      rw [e6] at u1
      have ll : l'.length = 4 := pm.length_eq.trans l4
      refine ⟨sOf [], u, _, rfl, rfl, .inl (SqL.of u1), ?_, ?_⟩
      · have : ∀ m : List Nat, ((m.map fun c => sOf [c]).map fun z : Str => z.length).sum = m.length := by
          intro m
          induction m with
          | nil => rfl
          | cons a r ih => simp only [List.map_cons, List.sum_cons, ih, List.length_cons, sOf_len]; simp; omega
        rw [this, sOf_len]
        simp [ll]; omega
      · have e7 : ((l'.take (1 + j)).map fun c => sOf [c]) = ((l'.take (1 + j)).map fun c => [c]).map sOf := by rw [List.map_map]; rfl
        rw [e7, join_sOf, joinL_signs]
        have sub : (l'.take (1 + j)).Sublist l' := List.take_sublist _ _
        refine q _ H5 ⟨(pm.nodup_iff.mpr nd).sublist sub, by rw [List.length_take, ll]; omega, fun c hc => ab c (pm.mem_iff.mp (sub.subset hc))⟩ (by rw [List.length_take, ll]; omega) (fun hc => n3 (pm.mem_iff.mp (sub.subset hc))) ?_ ?_
        · intro b o e nb
          exact s5 _ _ ((k4 b nb).trans (kp b o ((k2 b nb).trans (s1 _ _ e)) nb))
        · obtain ⟨a4, b4, c4, hp4, z1, z2, z3, z4, z5⟩ := P4
          exact ⟨a4, b4, c4, s5 _ _ hp4, z1, z2, z3, z4, by rw [l4] at z5; omega⟩
end
end E

set_option autoImplicit true
set_option maxHeartbeats 4000000
set_option Elab.async false
set_option linter.all false
set_option maxRecDepth 100000
set_option maxHeartbeats 4000000
/-! Rules told with K said outright: for use within a comprehension's block. -/
namespace E
open PySem PySem.Spec PyProof.Rows L2
section
variable {X : Cx} {K : PySem.W.Frag} {o e l tg : Expr} {f : Str} {pos : Pos} {ta te tl : TE} {es : List Expr}
theorem op_in_seqK (h : X.K = K) : OpR X (compareOp .In) (rIn K false) := h ▸ op_in_seq
theorem op_notIn_seqK (h : X.K = K) : OpR X (compareOp .NotIn) (rIn K true) := h ▸ op_notIn_seq
theorem ix_listK (h : X.K = K) : IxR X (rIxL K) := h ▸ ix_list
theorem ix_tupK (h : X.K = K) : IxR X (rIxT K) := h ▸ ix_tup
theorem pe_fldK (h : X.K = K) (he : PE X e ta) (hb : attributeBase e f X.env (eval e X.env) = eval e X.env) : PE X (.Attribute e f pos) (tFld K ta f) := h ▸ pe_fld he hb
theorem pi_listK (h : X.K = K) (hl : PE X l tl) : PI X tg l (iList K tl) := h ▸ pi_list hl
theorem pi_tupK (h : X.K = K) (hl : PE X l tl) : PI X tg l (iTup K tl) := h ▸ pi_tup hl
theorem pg_tupK {k : Nat} {t : TGs} {n : Nat} (hK : X.K = K) (hc : X.calm = true) (h : PGs X es t) (hn : (assignEach es X.env).length = n := by rfl) (hst : (assignEach es X.env).findIdx? (·.1) = none := by rfl) : PG X (.Tuple es k pos) (gTup K n t) := hK ▸ pg_tup hc h hn hst
theorem call_len_seqK (h : X.K = K) : CallR X (.builtin "len") (fun xs H Q => ∃ p ys, xs = [.ref p] ∧ (SqL K H p ys ∨ SqT K H p ys) ∧ Q (.int ys.length) H) := h ▸ call_len_seq
theorem call_tuple_ofK (h : X.K = K) : CallR X (.type "tuple") (fun xs H Q => ∃ p ys, xs = [.ref p] ∧ ((SqL K H p ys ∧ ∀ l, H l = none → Q (.ref l) (upd H l (.tup ys))) ∨ (SqT K H p ys ∧ Q (.ref p) H))) := h ▸ call_tuple_of
theorem cr_anyK (h : X.K = K) (hc : X.calm = true) : CallR X (.builtin "any") (rAny K) := h ▸ cr_any hc
theorem cr_allK (h : X.K = K) (hc : X.calm = true) : CallR X (.builtin "all") (rAll K) := h ▸ cr_all hc
theorem op_catAK (h : X.K = K) : OpR X (binaryOp .Add) (rCatA K) := h ▸ op_catA
end
end E

set_option autoImplicit true
set_option maxHeartbeats 4000000
set_option Elab.async false
set_option linter.all false
set_option maxRecDepth 100000
set_option maxHeartbeats 4000000
/-! The law's words. -/
namespace E
open PySem PySem.Spec PyProof.Rows L2
def txts (ws : List (List Nat)) : List V := ws.map fun u => V.str (sOf u)
theorem txts_app (a b : List (List Nat)) : txts (a ++ b) = txts a ++ txts b := by simp [txts]
theorem txts_len (a : List (List Nat)) : (txts a).length = a.length := by simp [txts]
theorem sOf_get (l : List Nat) (i : Nat) : (sOf l).cps[i]? = l[i]? := by show l.toArray[i]? = _; simp
theorem sOf_size (l : List Nat) : (sOf l).cps.size = l.length := by show l.toArray.size = _; simp
section
variable {P : Program} {w : World} {K : PySem.W.Frag} {mg : Str → Option Value} {base : Heap}
def spWords : Sp := fun vs H Q _ => ∃ (l : List Nat) (m : Nat), vs = [.str (sOf l), .int m] ∧ l.length ≤ 5 ∧ m ≤ 5 ∧
  ∀ (f : Addr) (ws : List (List Nat)) H', (∀ u, u ∈ ws → EM.Over l u ∧ u.length ≤ m) → Same H H' → H f = none → H' f = some (.lst (txts ws)) → Q (.ref f) H'
theorem one0 {l : List Nat} {i : Nat} : ∀ u, u ∈ [([] : List Nat)] → EM.Over l u ∧ u.length ≤ i := by
  intro u hu
  rw [List.mem_singleton] at hu
  subst hu
  exact ⟨fun c hc => (by cases hc), Nat.zero_le _⟩
theorem pow5 {i : Nat} (h : i ≤ 5) : 5 ^ i ≤ 3125 := by
  have : i = 0 ∨ i = 1 ∨ i = 2 ∨ i = 3 ∨ i = 4 ∨ i = 5 := by omega
  rcases this with rfl | rfl | rfl | rfl | rfl | rfl <;> decide
theorem ok_words (T : Tx K mg) : Ok P w K mg base 1 (He.ga K "_law_all_words") ["_law_letters_here", "_law_most"] spWords := by
  refine ok_mk T.fn_L_all_words sc_L_all_words (fun _ _ _ _ _ _ us hl => match us, hl with | [_, _], _ => rfl) (fun vs H Q E h => ?_) (fun cdv A outer s H vs Q E hr h => ?_)
  · obtain ⟨l, m, rfl, _⟩ := h
    rfl
  · obtain ⟨l, m, rfl, l5, m5, q⟩ := h
    have nd := sc_L_all_words.nd
    refine ⟨_, (pss_cons (ps_set (i := 2) sc_L_all_words.nd rfl (by first | exact Or.inl rfl | exact Or.inr rfl) (pe_lst (pa_cons pe_str pa_nil)))
      (pss_cons (ps_set (i := 3) sc_L_all_words.nd rfl (by first | exact Or.inl rfl | exact Or.inr rfl) (pe_lst (pa_cons pe_str pa_nil)))
      (pss_cons (ps_for PassesOwn.never rfl (pi_range1 rfl T.f_range (pa_cons (pv 1) pa_nil)) (pg_name (i := 4) sc_L_all_words.nd rfl (by first | exact Or.inl rfl | exact Or.inr rfl)) (pss_cons (ps_set (i := 5) sc_L_all_words.nd rfl (by first | exact Or.inl rfl | exact Or.inr rfl) (pe_lst pa_nil))
      (pss_cons (ps_for PassesOwn.never rfl (pi_list (pv 3)) (pg_name (i := 6) sc_L_all_words.nd rfl (by first | exact Or.inl rfl | exact Or.inr rfl)) (pss_one (ps_expr (pe_bm PySem.F.plainAttrs_list PySem.F.slot_list_extend PySem.F.type_list_extend mt_extend (pv 5) (pa_cons (pe_lc (own := [("_law_letter", 7)]) (g := gName 7) (tt := tYes) (by rfl) sc_L_all_words.nd (pi_str (pv 0)) (blkOk_by (own := [("_law_letter", 7)]) (N := N_L_all_words) (sc := defScope s_L_all_words) (by decide +kernel)) (fun _ _ _ _ _ => (pg_name (i := 7) sc_L_all_words.nd rfl (Or.inl rfl))) (fun _ _ _ _ _ => pts_nil) (fun _ _ _ _ _ => (pe_op op_add_str (pv 6) (pv 7)))) pa_nil)))))
      (pss_cons (ps_expr (pe_bm PySem.F.plainAttrs_list PySem.F.slot_list_extend PySem.F.type_list_extend mt_extend (pv 2) (pa_cons (pv 5) pa_nil)))
      (pss_one (ps_set (i := 3) sc_L_all_words.nd rfl (by first | exact Or.inl rfl | exact Or.inr rfl) (pe_callTy call_list_of (by rfl) T.f_list (by decide +kernel) (pa_cons (pv 5) pa_nil))))))))
      (pss_one (ps_ret (pv 2)))))), ?_⟩
    refine ⟨(by show 1 ≤ sizeLine; decide), fun x x0 => ?_⟩
    generalize e1 : upd H x _ = H1
    obtain ⟨s1, x1, f1⟩ := newE x0 e1
    refine ⟨(by show 1 ≤ sizeLine; decide), fun y y0 => ?_⟩
    generalize e2 : upd H1 y _ = H2
    obtain ⟨s2, y1, f2⟩ := newE y0 e2
    have nxy : x ≠ y := ne_of_none x1 y0
    refine ⟨_, rfl, _, rfl, (by omega), (by omega), ?_⟩
    refine for_range (n := m) (fun i σ H' => ∃ lv ws ls x4 x5 x6 x7, σ = [some (.str (sOf l)), some (.int m), some (.ref x), some (.ref lv), x4, x5, x6, x7] ∧ H' x = some (.lst (txts ws)) ∧ H' lv = some (.lst (txts ls)) ∧
      x ≠ lv ∧ ls.length ≤ 5 ^ i ∧ ws.length ≤ (i + 1) * 5 ^ i ∧ (∀ u, u ∈ ws → EM.Over l u ∧ u.length ≤ i) ∧ (∀ u, u ∈ ls → EM.Over l u ∧ u.length ≤ i) ∧ Kp (only x) H1 H') ?_ (fun i σ H' hi hI => ?_) (fun σ H' hI => ?_)
    · exact ⟨y, [[]], [[]], _, _, _, _, rfl, s2 _ _ x1, y1, nxy, by simp, by simp, one0, one0, Same.kp s2⟩
    · obtain ⟨lv, ws, ls, x4, x5, x6, x7, rfl, h1, h2, d1, b1, b2, o1, o2, kp⟩ := hI
      have p5 := pow5 (i := i) (by omega)
      refine ⟨by decide, fun z z0 => ?_⟩
      generalize e3 : upd H' z _ = H3
      obtain ⟨s3, z1, f3⟩ := newE z0 e3
      have nzx : x ≠ z := ne_of_none h1 z0
      have nzl : lv ≠ z := ne_of_none h2 z0
      refine ⟨_, rfl, lv, rfl, ⟨_, SqL.of (s3 _ _ h2)⟩, ?_⟩
      refine for_list (xs := txts ls) (fun j σ H4 => ∃ fs x6 x7, σ = [some (.str (sOf l)), some (.int m), some (.ref x), some (.ref lv), some (.int (0 + (i : Nat))), some (.ref z), x6, x7] ∧ H4 z = some (.lst (txts fs)) ∧
        fs.length ≤ 5 * j ∧ (∀ u, u ∈ fs → EM.Over l u ∧ u.length ≤ i + 1) ∧ Kp (only z) H3 H4) ?_ (fun j σ H4 _ hJ => ?_) (fun j v σ H4 hv hJ => ?_) (fun σ H4 hJ => ?_)
      · exact ⟨[], _, _, rfl, z1, by simp, fun u hu => (by cases hu), Kp.refl _⟩
      · obtain ⟨fs, x6, x7, rfl, g1, _, _, k4⟩ := hJ
        exact k4.sql (SqL.of (s3 _ _ h2)) nzl
      · obtain ⟨fs, x6, x7, rfl, g1, g2, g3, k4⟩ := hJ
        have hj : j < ls.length := by
          rcases Nat.lt_or_ge j ls.length with h | h
          · exact h
          · rw [List.getElem?_eq_none (by rw [txts_len]; exact h)] at hv; cases hv
        have hv' : v = .str (sOf ls[j]) := by
          simp [txts, hj] at hv
          exact hv.symm
        subst hv'
        obtain ⟨oj, lj⟩ := o2 _ (List.getElem_mem hj)
        refine ⟨_, rfl, .inl ⟨rfl, _, SqL.of g1⟩, _, rfl, _, rfl, fun D D0 => ?_⟩
        refine lc_it (walk_str (z := sOf l)) (PB H4 D fun t acc _ => acc = txts ((l.take t).map fun c => ls[j] ++ [c])) (PB.start D0 fun _ _ => rfl) (fun _ _ _ _ => trivial) (fun t v H5 H6 ht hP hy => ?_) (fun H5 hP => ?_)
        · obtain ⟨rfl, c, hc, rfl⟩ := hy
          obtain ⟨acc, b, rfl⟩ := hP
          rw [sOf_get] at hc
          rw [sOf_size] at ht
          refine ⟨rfl, ?_⟩
          refine yesI ?_
          refine ⟨_, rfl, _, rfl, _, _, rfl, rfl, ?_, ?_⟩
          · rw [sOf_len]; show _ + 1 ≤ _; unfold sizeLine; omega
          · rw [sOf_one, sOf_app]
            refine PB.add b D0 (same_refl _) ?_ fun H7 _ _ => ?_
            · rw [txts_len]; simp; unfold sizeLine; omega
            · have : l.take (t + 1) = l.take t ++ [c] := by rw [List.take_succ, hc]; rfl
              rw [this, List.map_append, txts_app]; rfl
        · obtain ⟨acc, b, rfl⟩ := hP
          rw [sOf_size, List.take_length] at b
          refine ⟨z, D, _, _, rfl, rfl, b.1 _ _ g1, b.2, ?_, ?_⟩
          · rw [txts_len, txts_len, List.length_map]
            have : j ≤ 3125 := by omega
            unfold sizeLine; omega
          · generalize e6 : upd H5 z _ = H6
            obtain ⟨z6, f6⟩ := putE e6
            refine ⟨fs ++ l.map fun c => ls[j] ++ [c], _, _, rfl, ?_, ?_, fun u hu => ?_, ?_⟩
            · rw [z6, txts_app]
            · rw [List.length_append, List.length_map]; omega
            · rcases List.mem_append.mp hu with hu | hu
              · exact g3 u hu
              · obtain ⟨c, hc, rfl⟩ := List.mem_map.mp hu
                refine ⟨EM.over_app.mpr ⟨oj, fun d hd => ?_⟩, ?_⟩
                · rw [List.mem_singleton] at hd; subst hd; exact hc
                · simp; exact lj
            · exact fun c o e n => (f6 c n).trans (b.1 _ _ (k4 c o e n))
      · obtain ⟨fs, x6, x7, rfl, g1, g2, g3, k4⟩ := hJ
        have h1' := k4 _ _ (s3 _ _ h1) nzx
        rw [txts_len] at g2
        refine ⟨_, rfl, .inl ⟨rfl, _, SqL.of h1'⟩, _, rfl, x, z, _, _, rfl, rfl, h1', g1, ?_, ?_⟩
        · rw [txts_len, txts_len]
          have : (i + 1) * 5 ^ i ≤ 6 * 3125 := Nat.mul_le_mul (by omega) p5
          unfold sizeLine; omega
        · generalize e5 : upd H4 x _ = H5
          obtain ⟨x5', f5⟩ := putE e5
          have g1' := (f5 z (fun e => nzx e.symm)).trans g1
          refine ⟨_, rfl, z, _, rfl, .inl (SqL.of g1'), fun v v0 => ?_⟩
          generalize e6 : upd H5 v _ = H6
          obtain ⟨s6, v6, f6⟩ := newE v0 e6
          refine ⟨v, ws ++ fs, fs, _, _, _, _, rfl, ?_, v6, ne_of_none x5' v0, ?_, ?_, ?_, fun u hu => ?_, ?_⟩
          · rw [s6 _ _ x5', txts_app]
          · rw [Nat.pow_succ]; omega
          · rw [List.length_append, Nat.pow_succ]
            have e : (i + 1 + 1) * (5 ^ i * 5) = (i + 1) * 5 ^ i * 5 + 5 ^ i * 5 := by rw [Nat.add_mul (i + 1) 1, Nat.one_mul, Nat.mul_assoc]
            omega
          · intro u hu
            rcases List.mem_append.mp hu with hu | hu
            · exact ⟨(o1 u hu).1, by have := (o1 u hu).2; omega⟩
            · exact g3 u hu
          · exact g3 u hu
          · intro c o e n
            have e3 := s3 _ _ (kp c o e n)
            have nz : c ≠ z := fun q => by rw [q] at e; rw [kp z o e (fun q' => nzx q'.symm)] at z0; cases z0
            exact s6 _ _ ((f5 c n).trans (k4 c o e3 nz))
    · obtain ⟨lv, ws, ls, x4, x5, x6, x7, rfl, h1, h2, d1, b1, b2, o1, o2, kp⟩ := hI
      exact ⟨_, rfl, q x ws H' o1 (kp_only_same kp s1 x0) x0 h1⟩
end
end E

set_option autoImplicit true
set_option maxHeartbeats 4000000
set_option Elab.async false
set_option linter.all false
set_option maxRecDepth 100000
set_option maxHeartbeats 4000000
/-! Patterns in the heap; the law's drawn pattern. -/
namespace E
open PySem PySem.Spec PyProof.Rows L2
/-! ### the heap without some places -/
open Classical in
noncomputable def hide (M : AP) (H : Hp) : Hp := fun b => if M b then none else H b
abbrev old (H : Hp) : AP := fun b => ∃ o, H b = some o
section
variable {M M' : AP} {H H' : Hp} {b : Addr} {o : HO}
theorem hide_some : hide M H b = some o ↔ ¬ M b ∧ H b = some o := by
  unfold hide
  split
  · next h => exact ⟨fun e => (by cases e), fun e => absurd h e.1⟩
  · next h => exact ⟨fun e => ⟨h, e⟩, fun e => e.2⟩
theorem hide_same (h : ∀ b o, H b = some o → ¬ M b → H' b = some o ∧ ¬ M' b) : Same (hide M H) (hide M' H') := fun b o e => by
  obtain ⟨n, e⟩ := hide_some.mp e
  obtain ⟨e', n'⟩ := h b o e n
  exact hide_some.mpr ⟨n', e'⟩
theorem hide_kp (h : Kp M H H') : Same (hide M H) (hide M H') := hide_same fun b o e n => ⟨h b o e n, n⟩
theorem hide_less (h : ∀ b, M' b → M b) : Same (hide M H) (hide M' H) := hide_same fun b o e n => ⟨e, fun m => n (h b m)⟩
theorem hide_sub : Same (hide M H) H := fun b o e => (hide_some.mp e).2
end
/-- two lists, part by part -/
def Each {α β : Type} (R : α → β → Prop) (as : List α) (bs : List β) : Prop := as.length = bs.length ∧ ∀ (i : Nat) a b, as[i]? = some a → bs[i]? = some b → R a b
section
variable {α β : Type} {R R' : α → β → Prop} {as : List α} {bs : List β}
theorem Each.nil : Each R [] [] := ⟨rfl, fun i a b h => by simp at h⟩
theorem Each.snoc (h : Each R as bs) {a : α} {b : β} (k : R a b) : Each R (as ++ [a]) (bs ++ [b]) := by
  refine ⟨by simp [h.1], fun i x y hx hy => ?_⟩
  rcases Nat.lt_or_ge i as.length with l | l
  · rw [List.getElem?_append_left l] at hx
    rw [List.getElem?_append_left (h.1 ▸ l)] at hy
    exact h.2 i x y hx hy
  · rw [List.getElem?_append_right l] at hx
    rw [List.getElem?_append_right (h.1 ▸ l)] at hy
    cases z : i - as.length with
    | zero => rw [z] at hx; rw [← h.1, z] at hy; simp at hx hy; subst hx; subst hy; exact k
    | succ n => rw [z] at hx; simp at hx
theorem Each.mono (h : Each R as bs) (k : ∀ a b, R a b → R' a b) : Each R' as bs := ⟨h.1, fun i a b ha hb => k a b (h.2 i a b ha hb)⟩
theorem Each.get (h : Each R as bs) {i : Nat} {a : α} (ha : as[i]? = some a) : ∃ b, bs[i]? = some b ∧ R a b := by
  obtain ⟨l, _⟩ := List.getElem?_eq_some_iff.mp ha
  have l' : i < bs.length := h.1 ▸ l
  exact ⟨bs[i], List.getElem?_eq_getElem l', h.2 i a _ ha (List.getElem?_eq_getElem l')⟩
end
def refs (rs : List Addr) : List V := rs.map V.ref
theorem refs_app (a b : List Addr) : refs (a ++ b) = refs a ++ refs b := by simp [refs]
theorem refs_len (a : List Addr) : (refs a).length = a.length := by simp [refs]
theorem refs_get {rs : List Addr} {i : Nat} {v : V} (h : (refs rs)[i]? = some v) : ∃ r, rs[i]? = some r ∧ v = .ref r := by
  unfold refs at h
  rw [List.getElem?_map, Option.map_eq_some_iff] at h
  obtain ⟨r, h1, h2⟩ := h
  exact ⟨r, h1, h2.symm⟩
/-! ### patterns in the heap -/
section
variable {α : Type} (R : Hp → V → α → Prop)
def ItA (H : Hp) (t : Addr) (x : α × EM.Sg) : Prop := ∃ v, H t = some (.tup [v, .str (sOf (EM.sgT x.2))]) ∧ R H v x.1
def RwA (H : Hp) (r : Addr) (row : List (α × EM.Sg)) : Prop := ∃ ts, H r = some (.lst (refs ts)) ∧ Each (ItA R H) ts row
def PtA (H : Hp) (a : Addr) (p : List (List (α × EM.Sg))) : Prop := ∃ rs, H a = some (.lst (refs rs)) ∧ Each (RwA R H) rs p
end
def InA : (n : Nat) → Hp → V → EM.Inner n → Prop
  | 0, _, v, x => v = .str (sOf (EM.atomT x))
  | _ + 1, _, v, .inl x => v = .str (sOf (EM.atomT x))
  | n + 1, H, v, .inr p => ∃ a, v = .ref a ∧ PtA (InA n) H a p
section
variable {H H' : Hp}
theorem ItA.mono {α : Type} {R : Hp → V → α → Prop} (k : ∀ v x, R H v x → R H' v x) (s : Same H H') {t : Addr} {x : α × EM.Sg} (h : ItA R H t x) : ItA R H' t x := by
  obtain ⟨v, h1, h2⟩ := h
  exact ⟨v, s _ _ h1, k _ _ h2⟩
theorem RwA.mono {α : Type} {R : Hp → V → α → Prop} (k : ∀ v x, R H v x → R H' v x) (s : Same H H') {r : Addr} {x : List (α × EM.Sg)} (h : RwA R H r x) : RwA R H' r x := by
  obtain ⟨ts, h1, h2⟩ := h
  exact ⟨ts, s _ _ h1, h2.mono fun a b => ItA.mono k s⟩
theorem PtA.mono' {α : Type} {R : Hp → V → α → Prop} (k : ∀ v x, R H v x → R H' v x) (s : Same H H') {a : Addr} {p : List (List (α × EM.Sg))} (h : PtA R H a p) : PtA R H' a p := by
  obtain ⟨rs, h1, h2⟩ := h
  exact ⟨rs, s _ _ h1, h2.mono fun a b => RwA.mono k s⟩
theorem InA.mono (s : Same H H') : ∀ (n : Nat) v x, InA n H v x → InA n H' v x := by
  intro n
  induction n with
  | zero => intro v x h; exact h
  | succ n ih =>
    intro v x h
    cases x with
    | inl x => exact h
    | inr p =>
      obtain ⟨a, e, h⟩ := h
      exact ⟨a, e, h.mono' ih s⟩
theorem PtA.mono {n : Nat} (s : Same H H') {a : Addr} {p : EM.Pat n} (h : PtA (InA n) H a p) : PtA (InA n) H' a p := h.mono' (InA.mono s n) s
end
theorem PoolAt.same {H H' : Hp} {p : Addr} {n : Nat} (h : PoolAt H p n) (s : Same H H') : PoolAt H' p n := by
  obtain ⟨a, b, c, h1, h2⟩ := h
  exact ⟨a, b, c, s _ _ h1, h2⟩
theorem PoolAt.ne {H : Hp} {p x : Addr} {n : Nat} (h : PoolAt H p n) (e : H x = none) : x ≠ p := by
  obtain ⟨a, b, c, h1, h2⟩ := h
  exact fun z => by rw [z, h1] at e; cases e
theorem kp_of {p : Addr} {H H' : Hp} (k : ∀ b, b ≠ p → H' b = H b) : Kp (only p) H H' := fun b o e n => (k b n).trans e
/-- how many draws -/
def Cb : Nat → Nat
  | 0 => 27
  | n + 1 => 1 + 2 * (1 + 3 * (4 + Cb n))
def Ci : Nat → Nat
  | 0 => 0
  | n + 1 => Cb n
section
variable {P : Program} {w : World} {K : PySem.W.Frag} {mg : Str → Option Value} {base : Heap}
/-- a drawn pattern of depth d; at 0: nothing is said -/
def spPat : Nat → Sp
  | 0 => fun _ _ _ _ => False
  | d + 1 => fun vs H Q _ => ∃ (p : Addr) (n : Nat) (l : List Nat), vs = [.ref p, .str (sOf l), .int d] ∧ LetOk l ∧ l.length ≤ 5 ∧ PoolAt H p n ∧ n + Cb d ≤ 1000000 ∧
      ∀ (f : Addr) (pt : EM.Pat d) H', EM.PatOk (EM.Wf l d) pt → Kp (only p) H H' → PoolAt H' p (n + Cb d) → PtA (InA d) (hide (old H) H') f pt → Q (.ref f) H'
theorem b2i_lt (b : Bool) : b2i b = 0 ∨ b2i b = 1 := by cases b <;> simp [b2i]
theorem ok_pattern (T : Tx K mg) (ht : Ok P w K mg base 1 (He.ga K "_law_take") ["_law_pool_here", "_law_many"] spTake) :
    ∀ d, Ok P w K mg base (d + 1) (He.ga K "_law_pattern") ["_law_pool_here", "_law_letters_here", "_law_depth"] (spPat d) := by
  obtain ⟨_, F_L_take, b_L_take, k_L_take⟩ := ht
  intro d
  induction d with
  | zero => exact ok_mk T.fn_L_pattern sc_L_pattern (fun _ _ _ _ _ _ us hl => match us, hl with | [_, _, _], _ => rfl) (fun vs H Q E h => h.elim) (fun cdv A outer s H vs Q E hr h => h.elim)
  | succ d ih =>
    obtain ⟨_, F_L_pattern, b_L_pattern, k_L_pattern⟩ := ih
    refine ok_mk T.fn_L_pattern sc_L_pattern (fun _ _ _ _ _ _ us hl => match us, hl with | [_, _, _], _ => rfl) (fun vs H Q E h => ?_) (fun cdv A outer s H vs Q E hr h => ?_)
    · obtain ⟨p, n, l, rfl, _⟩ := h
      rfl
    · obtain ⟨p, n, l, rfl, lok, l5, hp, hn, q⟩ := h
      have hr1 := hr.mono (show 1 ≤ d + 1 by omega)
      refine ⟨_, (pss_cons (ps_set (i := 3) sc_L_pattern.nd rfl (by first | exact Or.inl rfl | exact Or.inr rfl) (pe_lst pa_nil))
      (pss_cons (ps_for PassesOwn.never rfl (pi_range1 rfl T.f_range (pa_cons (pe_op op_add pe_int (pe_call F_L_take hr1 rfl T.g_L_take k_L_take b_L_take .nil pass0 (pa_cons (pv 0) (pa_cons pe_int pa_nil)))) pa_nil)) (pg_name (i := 4) sc_L_pattern.nd rfl (by first | exact Or.inl rfl | exact Or.inr rfl)) (pss_cons (ps_set (i := 5) sc_L_pattern.nd rfl (by first | exact Or.inl rfl | exact Or.inr rfl) (pe_lst pa_nil))
      (pss_cons (ps_for PassesOwn.never rfl (pi_range1 rfl T.f_range (pa_cons (pe_call F_L_take hr1 rfl T.g_L_take k_L_take b_L_take .nil pass0 (pa_cons (pv 0) (pa_cons pe_int pa_nil))) pa_nil)) (pg_name (i := 6) sc_L_pattern.nd rfl (by first | exact Or.inl rfl | exact Or.inr rfl)) (pss_cons (ps_set (i := 7) sc_L_pattern.nd rfl (by first | exact Or.inl rfl | exact Or.inr rfl) (pe_ix ix_list (pe_lst (pa_cons (pe_ix ix_str (pv 1) (pe_call F_L_take hr1 rfl T.g_L_take k_L_take b_L_take .nil pass0 (pa_cons (pv 0) (pa_cons (pe_callB call_len_str (by rfl) T.f_len (by decide +kernel) (pa_cons (pv 1) pa_nil)) pa_nil))) (fun _ _ => rfl)) (pa_cons pe_str pa_nil))) (pe_callTy call_int1 (by rfl) T.f_int (by decide +kernel) (pa_cons (pe_cmpR op_eq (pe_call F_L_take hr1 rfl T.g_L_take k_L_take b_L_take .nil pass0 (pa_cons (pv 0) (pa_cons pe_int pa_nil))) pe_int (nomark _)) pa_nil)) (fun _ _ => rfl)))
      (C8.pss_cut (ps_if (PW.pt (pw_and (pt_cmpR op_gt (pv 2) pe_int (nomark _)) (pw_and1 (pt_cmpR op_eq (pe_call F_L_take hr1 rfl T.g_L_take k_L_take b_L_take .nil pass0 (pa_cons (pv 0) (pa_cons pe_int pa_nil))) pe_int (nomark _))))) (pss_one (ps_set (i := 7) sc_L_pattern.nd rfl (by first | exact Or.inl rfl | exact Or.inr rfl) (pe_call F_L_pattern hr rfl T.g_L_pattern k_L_pattern b_L_pattern .nil pass0 (pa_cons (pv 0) (pa_cons (pv 1) (pa_cons (pe_op op_sub (pv 2) pe_int) pa_nil)))))) pss_nil)
      (pss_one (ps_expr (pe_bm PySem.F.plainAttrs_list PySem.F.slot_list_append PySem.F.type_list_append mt_append (pv 5) (pa_cons (pe_tup (pa_cons (pv 7) (pa_cons (pe_ix ix_list (pe_lst (pa_cons pe_str (pa_cons pe_str (pa_cons pe_str (pa_cons pe_str pa_nil))))) (pe_call F_L_take hr1 rfl T.g_L_take k_L_take b_L_take .nil pass0 (pa_cons (pv 0) (pa_cons pe_int pa_nil))) (fun _ _ => rfl)) pa_nil))) pa_nil)))))))
      (pss_one (ps_expr (pe_bm PySem.F.plainAttrs_list PySem.F.slot_list_append PySem.F.type_list_append mt_append (pv 3) (pa_cons (pv 5) pa_nil)))))))
      (pss_one (ps_ret (pv 3))))), ?_⟩
      obtain ⟨a0, b0, c0, hp0, hpr⟩ := id hp
      refine ⟨by decide, fun x x0 => ?_⟩
      generalize e1 : upd H x _ = H1
      obtain ⟨s1, x1, f1⟩ := newE x0 e1
      have nxp : x ≠ p := fun z => by rw [z, hp0] at x0; cases x0
      refine ⟨_, rfl, p, n, 2, rfl, ⟨a0, b0, c0, s1 _ _ hp0, hpr⟩, by omega, by decide, by decide, fun r H2 r0 r1 k2 P2 => ?_⟩
      obtain ⟨m, rfl⟩ := Int.eq_ofNat_of_zero_le r0
      refine ⟨_, _, rfl, rfl, _, rfl, (by omega), (by omega), ?_⟩
      have em : (1 + (m : Int)).toNat = 1 + m := by omega
      rw [em]
      have cb : Cb d = 1 + 2 * (1 + 3 * (4 + Ci d)) := by cases d <;> rfl
      refine for_range (n := 1 + m) (fun i σ H' => ∃ rs pt x4 x5 x6 x7, σ = [some (.ref p), some (.str (sOf l)), some (.int d), some (.ref x), x4, x5, x6, x7] ∧ H' x = some (.lst (refs rs)) ∧
        Each (RwA (InA d) (hide (fun b => b = x ∨ old H b) H')) rs pt ∧ pt.length = i ∧ (∀ r, r ∈ pt → r.length ≤ 3 ∧ ∀ x, x ∈ r → EM.Wf l d x.1) ∧ Kp (only p) H H' ∧ PoolAt H' p (n + 1 + i * (1 + 3 * (4 + Ci d)))) ?_ (fun i σ H' hi hI => ?_) (fun σ H' hI => ?_)
      · refine ⟨[], [], _, _, _, _, rfl, (k2 x nxp).trans x1, .nil, rfl, fun r h => (by cases h), fun b o e nb => (k2 b nb).trans (s1 _ _ e), by simpa using P2⟩
      · obtain ⟨rs, pt, x4, x5, x6, x7, rfl, h1, h2, h3, h4, kp, hP⟩ := hI
        refine ⟨by decide, fun y y0 => ?_⟩
        generalize e3 : upd H' y _ = H3
        obtain ⟨s3, y1, f3⟩ := newE y0 e3
        have nyp : y ≠ p := hP.ne y0
        have nxy : x ≠ y := ne_of_none h1 y0
        have bi : i * (1 + 3 * (4 + Ci d)) ≤ 1 * (1 + 3 * (4 + Ci d)) := Nat.mul_le_mul (by omega) (Nat.le_refl _)
        refine ⟨_, rfl, p, _, 4, rfl, hP.same s3, by omega, by decide, by decide, fun r4 H4 r40 r41 k4 P4 => ?_⟩
        obtain ⟨m4, rfl⟩ := Int.eq_ofNat_of_zero_le r40
        refine ⟨_, rfl, (by omega), (by omega), ?_⟩
        refine for_range (n := m4) (fun j σ H5 => ∃ ts row x6 x7, σ = [some (.ref p), some (.str (sOf l)), some (.int d), some (.ref x), some (.int (0 + (i : Nat))), some (.ref y), x6, x7] ∧ H5 y = some (.lst (refs ts)) ∧
          Each (ItA (InA d) (hide (fun b => b = x ∨ b = y ∨ old H b) H5)) ts row ∧ row.length = j ∧ (∀ x, x ∈ row → EM.Wf l d x.1) ∧ H5 x = some (.lst (refs rs)) ∧ Each (RwA (InA d) (hide (fun b => b = x ∨ b = y ∨ old H b) H5)) rs pt ∧
          Kp (only p) H H5 ∧ PoolAt H5 p (n + 1 + i * (1 + 3 * (4 + Ci d)) + 1 + j * (4 + Ci d))) ?_ (fun j σ H5 hj hJ => ?_) (fun σ H5 hJ => ?_)
        · refine ⟨[], [], _, _, rfl, (k4 y nyp).trans y1, .nil, rfl, fun r h => (by cases h), (k4 x nxp).trans (s3 _ _ h1), ?_, fun b o e nb => (k4 b nb).trans (s3 _ _ (kp b o e nb)), by simpa using P4⟩
          have sm : Same (hide (fun b => b = x ∨ old H b) H') (hide (fun b => b = x ∨ b = y ∨ old H b) H4) := hide_same fun b o e n => by
            have nb : b ≠ p := fun z => n (.inr ⟨_, z ▸ hp0⟩)
            exact ⟨(k4 b nb).trans (s3 _ _ e), fun m => by
              rcases m with m | m | m
              · exact n (.inl m)
              · exact (ne_of_none e y0) m
              · exact n (.inr m)⟩
          exact h2.mono fun a b => RwA.mono (InA.mono sm d) sm
        · obtain ⟨ts, row, x6, x7, rfl, g1, g2, g3, g4, g5, g6, kp5, P5⟩ := hJ
          have bj : j * (4 + Ci d) ≤ 2 * (4 + Ci d) := Nat.mul_le_mul (by omega) (Nat.le_refl _)
          have l1 := lok.2.1
          have sl : (sOf l).length = l.length := sOf_len l
          refine ⟨_, rfl, _, rfl, _, rfl, _, rfl, by rw [sl]; unfold sizeLine; omega, p, _, _, rfl, P5, by omega, by rw [sl]; omega, by rw [sl]; omega, fun r6 H6 r60 r61 k6 P6 => ?_⟩
          obtain ⟨u, rfl⟩ := Int.eq_ofNat_of_zero_le r60
          have ul : u < l.length := by rw [sl] at r61; omega
          refine ⟨_, _, l[u], rfl, rfl, by rw [sl]; unfold sizeLine; omega, atI_nat (by rw [sOf_toList]; exact List.getElem?_eq_getElem ul), (by show 2 ≤ sizeLine; decide), fun z z0 => ?_⟩
          generalize e7 : upd H6 z _ = H7
          obtain ⟨s7, z1, f7⟩ := newE z0 e7
          have nzp : z ≠ p := P6.ne z0
          refine ⟨_, rfl, p, _, 6, rfl, P6.same s7, by omega, by decide, by decide, fun r8 H8 r80 r81 k8 P8 => ?_⟩
          refine ⟨rfl, .inr ⟨_, rfl, ?_⟩⟩
          have z8 := (k8 z nzp).trans z1
          -- what stands in the heap so far
          have kp8 : Kp (only p) H5 H8 := fun b o e nb => (k8 b nb).trans (s7 _ _ ((k6 b nb).trans e))
          have sm8 : Same (hide (fun b => b = x ∨ b = y ∨ old H b) H5) (hide (fun b => b = x ∨ b = y ∨ old H b) H8) := hide_same fun b o e n => ⟨kp8 b o e fun z => n (.inr (.inr ⟨_, z ▸ hp0⟩)), n⟩
          obtain ⟨v, xi, hv, wv, iv⟩ : ∃ (v : V) (xi : EM.Inner d), atI [V.str ⟨#[l[u]]⟩, V.str "."] (if decide (V.int r8 = V.int 0) = true then 1 else 0) = some v ∧ EM.Wf l d xi ∧ ∀ Hx, InA d Hx v xi := by
            have wf : ∀ a : EM.Atom, EM.atomOk l a → ∃ xi : EM.Inner d, EM.Wf l d xi ∧ ∀ Hx, InA d Hx (.str (sOf (EM.atomT a))) xi := by
              intro a ha
              cases d with
              | zero => exact ⟨a, ha, fun _ => rfl⟩
              | succ d => exact ⟨.inl a, ha, fun _ => rfl⟩
            by_cases e : r8 = 0
            · subst e
              obtain ⟨xi, w1, w2⟩ := wf .dot trivial
              exact ⟨_, xi, rfl, w1, w2⟩
            · obtain ⟨xi, w1, w2⟩ := wf (.sym l[u]) (List.getElem_mem ul)
              refine ⟨_, xi, ?_, w1, w2⟩
              rw [if_neg (by simpa using e)]; rfl
          refine ⟨z, _, _, v, rfl, rfl, SqL.of z8, hv, ?_⟩
          refine ⟨fun σ' H9 => ∃ v xi, σ' = [some (.ref p), some (.str (sOf l)), some (.int d), some (.ref x), some (.int (0 + (i : Nat))), some (.ref y), some (.int (0 + (j : Nat))), some v] ∧ EM.Wf l d xi ∧ InA d (hide (fun b => b = x ∨ b = y ∨ old H b) H9) v xi ∧
            Kp (only p) H5 H9 ∧ PoolAt H9 p (n + 1 + i * (1 + 3 * (4 + Ci d)) + 1 + j * (4 + Ci d) + 3 + Ci d), ?_, ?_⟩
          · refine ⟨_, rfl, _, _, rfl, rfl, _, rfl, ?_⟩
            refine ite2 (fun hd => ?_) (fun hd => ?_)
            · refine ⟨_, rfl, p, _, 3, rfl, P8, by omega, by decide, by decide, fun r9 H9 r90 r91 k9 P9 => ?_⟩
              refine ⟨rfl, _, rfl, ?_⟩
              have kp9 : Kp (only p) H5 H9 := fun b o e nb => (k9 b nb).trans (kp8 b o e nb)
              refine ite2 (fun hc => ?_) (fun hc => ?_)
              · cases d with
                | zero => simp at hd
                | succ d =>
                  have ed : ((d + 1 : Nat) : Int) - 1 = (d : Nat) := by omega
                  refine ⟨_, rfl, _, rfl, _, rfl, _, _, rfl, rfl, p, _, l, by show [V.ref p, V.str (sOf l), V.int (((d + 1 : Nat) : Int) - 1)] = _; rw [ed], lok, l5, P9, ?_, fun f pt' H10 ok10 k10 P10 A10 => ?_⟩
                  · show _ + 1 + 1 + 1 + Cb d ≤ 1000000
                    have : Ci (d + 1) = Cb d := rfl
                    omega
                  · refine ⟨.ref f, .inr pt', rfl, ok10, ⟨f, rfl, A10.mono ?_⟩, kp9.trans k10, P10.mono ?_⟩
                    · refine hide_less fun b m => ?_
                      rcases m with m | m | ⟨o, m⟩
                      · exact ⟨_, m ▸ kp9 x _ g5 nxp⟩
                      · exact ⟨_, m ▸ kp9 y _ g1 nyp⟩
                      · by_cases nb : b = p
                        · obtain ⟨a, b', c, e, _⟩ := P9
                          exact ⟨_, nb ▸ e⟩
                        · exact ⟨_, kp9 b o (kp5 b o m nb) nb⟩
                    · have : Ci (d + 1) = Cb d := rfl
                      omega
              · exact ⟨v, xi, rfl, wv, iv _, kp9, P9.mono (by omega)⟩
            · exact ⟨v, xi, rfl, wv, iv _, kp8, P8.mono (by omega)⟩
          · rintro σ' H9 ⟨v, xi, rfl, wv, iv, kp9, P9⟩
            have sm9 : Same (hide (fun b => b = x ∨ b = y ∨ old H b) H5) (hide (fun b => b = x ∨ b = y ∨ old H b) H9) := hide_same fun b o e n => ⟨kp9 b o e fun z => n (.inr (.inr ⟨_, z ▸ hp0⟩)), n⟩
            have y9 := kp9 y _ g1 nyp
            have x9 := kp9 x _ g5 nxp
            refine ⟨_, rfl, .inl ⟨rfl, _, SqL.of y9⟩, _, rfl, (by show 4 ≤ sizeLine; decide), fun a a0 => ?_⟩
            generalize e10 : upd H9 a _ = H10
            obtain ⟨s10, a1, f10⟩ := newE a0 e10
            have nap : a ≠ p := P9.ne a0
            refine ⟨_, rfl, p, _, 4, rfl, P9.same s10, by omega, by decide, by decide, fun r11 H11 r110 r111 k11 P11 => ?_⟩
            obtain ⟨sg, hsg⟩ : ∃ sg : EM.Sg, atI [V.str "", V.str "", V.str "*", V.str "?"] r11 = some (.str (sOf (EM.sgT sg))) := by
              have : r11 = 0 ∨ r11 = 1 ∨ r11 = 2 ∨ r11 = 3 := by omega
              rcases this with rfl | rfl | rfl | rfl
              · exact ⟨.one, rfl⟩
              · exact ⟨.one, rfl⟩
              · exact ⟨.star, rfl⟩
              · exact ⟨.opt, rfl⟩
            refine ⟨a, _, _, _, rfl, rfl, SqL.of ((k11 a nap).trans a1), hsg, (by show 2 ≤ sizeLine; decide), fun t t0 => ?_⟩
            generalize e12 : upd H11 t _ = H12
            obtain ⟨s12, t1, f12⟩ := newE t0 e12
            have kp12 : Kp (only p) H9 H12 := fun b o e nb => s12 _ _ ((k11 b nb).trans (s10 _ _ e))
            have y12 := kp12 y _ y9 nyp
            have x12 := kp12 x _ x9 nxp
            refine ⟨y, _, _, rfl, rfl, y12, ?_, ?_⟩
            · rw [refs_len, g2.1]; unfold sizeLine; omega
            · generalize e13 : upd H12 y _ = H13
              obtain ⟨y13, f13⟩ := putE e13
              have sm13 : Same (hide (fun b => b = x ∨ b = y ∨ old H b) H9) (hide (fun b => b = x ∨ b = y ∨ old H b) H13) := hide_same fun b o e n =>
                ⟨(f13 b fun z => n (.inr (.inl z))).trans (kp12 b o e fun z => n (.inr (.inr ⟨_, z ▸ hp0⟩))), n⟩
              have smA := same_trans sm9 sm13
              have nty : t ≠ y := fun z => by rw [z, (k11 y nyp).trans (s10 _ _ y9)] at t0; cases t0
              have ntx : t ≠ x := fun z => by rw [z, (k11 x nxp).trans (s10 _ _ x9)] at t0; cases t0
              refine ⟨ts ++ [t], row ++ [(xi, sg)], _, _, rfl, ?_, ?_, ?_, ?_, ?_, ?_, ?_, ?_⟩
              · rw [y13, refs_app]; rfl
              · refine (g2.mono fun a b => ItA.mono (InA.mono smA d) smA).snoc ⟨v, hide_some.mpr ⟨fun m => ?_, (f13 t nty).trans t1⟩, InA.mono sm13 d _ _ iv⟩
                rcases m with m | m | ⟨o, m⟩
                · exact ntx m
                · exact nty m
                · have ntp : t ≠ p := fun z => by
                    obtain ⟨_, _, _, e, _⟩ := P11
                    rw [z, e] at t0; cases t0
                  rw [(k11 t ntp).trans (s10 _ _ (kp9 t o (kp5 t o m ntp) ntp))] at t0; cases t0
              · simp [g3]
              · intro q hq
                rcases List.mem_append.mp hq with hq | hq
                · exact g4 q hq
                · rw [List.mem_singleton] at hq
                  subst hq
                  exact wv
              · exact (f13 x nxy).trans x12
              · exact g6.mono fun a b => RwA.mono (InA.mono smA d) smA
              · exact fun b o e nb => (f13 b fun z => by rw [z] at e; rw [kp y o e nyp] at y0; cases y0).trans (kp12 b o (kp9 b o (kp5 b o e nb) nb) nb)
              · obtain ⟨a', b', c', e', z'⟩ := P11
                refine PoolAt.mono (show PoolAt H13 p _ from ⟨a', b', c', (f13 p fun z => nyp z.symm).trans (s12 _ _ e'), z'⟩) ?_
                rw [Nat.add_mul j 1, Nat.one_mul]
                omega
        · obtain ⟨ts, row, x6, x7, rfl, g1, g2, g3, g4, g5, g6, kp5, P5⟩ := hJ
          refine ⟨_, rfl, .inl ⟨rfl, _, SqL.of g5⟩, _, rfl, x, _, _, rfl, rfl, g5, ?_, ?_⟩
          · rw [refs_len, g6.1]; unfold sizeLine; omega
          · generalize e6 : upd H5 x _ = H6
            obtain ⟨x6', f6⟩ := putE e6
            have sm : Same (hide (fun b => b = x ∨ b = y ∨ old H b) H5) (hide (fun b => b = x ∨ old H b) H6) := hide_same fun b o e n => by
              have nb : b ≠ x := fun z => n (.inl z)
              exact ⟨(f6 b nb).trans e, fun m => m.elim nb fun m => n (.inr (.inr m))⟩
            refine ⟨rs ++ [y], pt ++ [row], _, _, _, _, rfl, ?_, ?_, ?_, ?_, ?_, ?_⟩
            · rw [x6', refs_app]; rfl
            · refine (g6.mono fun a b => RwA.mono (InA.mono sm d) sm).snoc ⟨ts, hide_some.mpr ⟨fun m => ?_, (f6 y fun z => nxy z.symm).trans g1⟩, g2.mono fun a b => ItA.mono (InA.mono sm d) sm⟩
              rcases m with m | ⟨o, m⟩
              · exact nxy m.symm
              · rw [kp y o m nyp] at y0; cases y0
            · simp [h3]
            · intro r hr
              rcases List.mem_append.mp hr with hr | hr
              · exact h4 r hr
              · rw [List.mem_singleton] at hr
                subst hr
                exact ⟨by omega, g4⟩
            · exact fun b o e nb => (f6 b fun z => by rw [z, x0] at e; cases e).trans (kp5 b o e nb)
            · obtain ⟨a, b, c, e, z⟩ := P5
              have bm : m4 * (4 + Ci d) ≤ 3 * (4 + Ci d) := Nat.mul_le_mul (by omega) (Nat.le_refl _)
              refine PoolAt.mono (show PoolAt H6 p _ from ⟨a, b, c, (f6 p fun z => nxp z.symm).trans e, z⟩) ?_
              rw [Nat.add_mul i 1, Nat.one_mul]
              omega
      · obtain ⟨rs, pt, x4, x5, x6, x7, rfl, h1, h2, h3, h4, kp, hP⟩ := hI
        refine ⟨_, rfl, q x pt H' ⟨fun e => (by rw [e] at h3; simp at h3; omega), by omega, h4⟩ kp (hP.mono ?_) ?_⟩
        · rw [cb]
          have := Nat.mul_le_mul (show 1 + m ≤ 2 by omega) (Nat.le_refl (1 + 3 * (4 + Ci d)))
          omega
        · refine ⟨rs, hide_some.mpr ⟨fun ⟨o, e⟩ => (by rw [x0] at e; cases e), h1⟩, h2.mono fun a b => RwA.mono (InA.mono ?_ d) ?_⟩ <;> exact hide_less fun b m => .inr m
end
end E

set_option autoImplicit true
set_option maxHeartbeats 4000000
set_option Elab.async false
set_option linter.all false
set_option maxRecDepth 100000
set_option maxHeartbeats 4000000
/-! A pattern's text. -/
namespace E
open PySem PySem.Spec PyProof.Rows L2
theorem join_bar (ls : List (List Nat)) : TL.joinL [124] ls = EM.barred ls := by
  induction ls with
  | nil => rfl
  | cons a r ih =>
    cases r with
    | nil => rfl
    | cons b r =>
      show a ++ ([124] ++ TL.joinL [124] (b :: r)) = a ++ (124 :: EM.barred (b :: r))
      rw [ih]; rfl
theorem Bl.put {H0 H H' : Hp} {D : Addr} {acc acc' : List V} (b : Bl H0 D H acc) (h : H0 D = none) (e : upd H D (.lst acc') = H') : Bl H0 D H' acc' := by
  subst e
  exact ⟨fun a o e => by rw [upd_ne (ne_of_none e h)]; exact b.1 a o e, upd_same⟩
section
variable {P : Program} {w : World} {K : PySem.W.Frag} {mg : Str → Option Value} {base : Heap}
theorem sum_le {k : Nat} : ∀ (ls : List (List Nat)), (∀ y, y ∈ ls → y.length ≤ k) → ((ls.map sOf).map (·.length)).sum ≤ ls.length * k := by
  intro ls
  induction ls with
  | nil => intro _; exact Nat.zero_le _
  | cons a r ih =>
    intro h
    have h1 := h a (List.mem_cons_self ..)
    have h2 := ih fun y m => h y (List.mem_cons_of_mem _ m)
    show (sOf a).length + ((r.map sOf).map (·.length)).sum ≤ (r.length + 1) * k
    rw [Nat.add_mul, sOf_len]; omega
theorem tb2 {d : Nat} (h : d ≤ 2) : EM.Tb d ≤ 601 := by
  have : d = 0 ∨ d = 1 ∨ d = 2 := by omega
  rcases this with rfl | rfl | rfl <;> decide
theorem ib2 {d : Nat} (h : d ≤ 2) : EM.Ib d ≤ 601 := by
  have : d = 0 ∨ d = 1 ∨ d = 2 := by omega
  rcases this with rfl | rfl | rfl <;> decide
def spPtx : Nat → Sp
  | 0 => fun _ _ _ _ => False
  | d + 1 => fun vs H Q _ => ∃ (a : Addr) (pt : EM.Pat d) (l : List Nat), vs = [.ref a] ∧ PtA (InA d) H a pt ∧ EM.PatOk (EM.Wf l d) pt ∧ d ≤ 2 ∧ ∀ H', Same H H' → Q (.str (sOf (EM.patT (EM.innT d) pt))) H'
/-- an inner part is a text, or a pattern -/
theorem InA.is {l : List Nat} : ∀ {d : Nat} {H : Hp} {v : V} {x : EM.Inner d}, InA d H v x → EM.Wf l d x → v = .str (sOf (EM.innT d x)) ∨ ∃ e a pt, d = e + 1 ∧ v = .ref a ∧ PtA (InA e) H a pt ∧ EM.PatOk (EM.Wf l e) pt ∧
    EM.innT d x = 40 :: (EM.patT (EM.innT e) pt ++ [41]) := by
  intro d H v x h wf
  cases d with
  | zero => exact .inl h
  | succ d =>
    cases x with
    | inl x => exact .inl h
    | inr p =>
      obtain ⟨a, e, h⟩ := h
      exact .inr ⟨d, a, p, rfl, e, h, wf, rfl⟩
theorem ok_ptext (T : Tx K mg) : ∀ d, Ok P w K mg base (d + 1) (He.ga K "_law_pattern_text") ["_law_pattern_here"] (spPtx d) := by
  intro d
  induction d with
  | zero => exact ok_mk T.fn_L_pattern_text sc_L_pattern_text (fun _ _ _ _ _ _ us hl => match us, hl with | [_], _ => rfl) (fun vs H Q E h => h.elim) (fun cdv A outer s H vs Q E hr h => h.elim)
  | succ d ih =>
    obtain ⟨_, F_L_pattern_text, b_L_pattern_text, k_L_pattern_text⟩ := ih
    refine ok_mk T.fn_L_pattern_text sc_L_pattern_text (fun _ _ _ _ _ _ us hl => match us, hl with | [_], _ => rfl) (fun vs H Q E h => ?_) (fun cdv A outer s H vs Q E hr h => ?_)
    · obtain ⟨a, pt, l, rfl, _⟩ := h
      rfl
    · obtain ⟨a, pt, l, rfl, hA, wf, d2, q⟩ := h
      have tl := EM.patT_lb wf
      have tb := tb2 d2
      have ib := ib2 d2
      refine ⟨_, (pss_cons (ps_set (i := 1) sc_L_pattern_text.nd rfl (by first | exact Or.inl rfl | exact Or.inr rfl) (pe_lst pa_nil))
      (pss_cons (ps_for PassesOwn.never rfl (pi_list (pv 0)) (pg_name (i := 2) sc_L_pattern_text.nd rfl (by first | exact Or.inl rfl | exact Or.inr rfl)) (pss_cons (ps_set (i := 3) sc_L_pattern_text.nd rfl (by first | exact Or.inl rfl | exact Or.inr rfl) pe_str)
      (pss_cons (ps_for PassesOwn.never rfl (pi_list (pv 2)) (pg_tup (by rfl) (pgs_cons (pg_name (i := 4) sc_L_pattern_text.nd rfl (by first | exact Or.inl rfl | exact Or.inr rfl)) (pgs_cons (pg_name (i := 5) sc_L_pattern_text.nd rfl (by first | exact Or.inl rfl | exact Or.inr rfl)) pgs_nil))) (C8.pss_cut (ps_if (pt_not (pt_val (pe_callB call_isi (by rfl) T.f_isinstance (by decide +kernel) (pa_cons (pv 4) (pa_cons (pe_bltn (v := .ty "str") (by rfl) T.f_str (by decide +kernel) rfl) pa_nil))))) (pss_one (ps_set (i := 4) sc_L_pattern_text.nd rfl (by first | exact Or.inl rfl | exact Or.inr rfl) (pe_op op_add_str (pe_op op_add_str pe_str (pe_call F_L_pattern_text hr rfl T.g_L_pattern_text k_L_pattern_text b_L_pattern_text .nil pass0 (pa_cons (pv 4) pa_nil))) pe_str))) pss_nil)
      (pss_one (ps_set (i := 3) sc_L_pattern_text.nd rfl (by first | exact Or.inl rfl | exact Or.inr rfl) (pe_op op_add_str (pe_op op_add_str (pv 3) (pv 4)) (pv 5))))))
      (pss_one (ps_expr (pe_bm PySem.F.plainAttrs_list PySem.F.slot_list_append PySem.F.type_list_append mt_append (pv 1) (pa_cons (pv 3) pa_nil)))))))
      (pss_one (ps_ret (pe_join pe_str (pv 1)))))), ?_⟩
      obtain ⟨rs, ha, eac⟩ := id hA
      have wlen := eac.1
      refine ⟨by decide, fun x x0 => ?_⟩
      generalize e1 : upd H x _ = H1
      have b1 : Bl H x H1 [] := e1 ▸ Bl.start x0
      refine ⟨_, rfl, a, rfl, ⟨_, SqL.of (b1.1 _ _ ha)⟩, ?_⟩
      refine for_list (xs := refs rs) (fun i σ H' => ∃ x2 x3 x4 x5, σ = [some (.ref a), some (.ref x), x2, x3, x4, x5] ∧ Bl H x H' (txts ((pt.take i).map (EM.rowT (EM.innT d))))) ?_ (fun i σ H' _ hI => ?_) (fun i v σ H' hv hI => ?_) (fun σ H' hI => ?_)
      · exact ⟨_, _, _, _, rfl, b1⟩
      · obtain ⟨_, _, _, _, rfl, b⟩ := hI
        exact SqL.of (b.1 _ _ ha)
      · obtain ⟨x2, x3, x4, x5, rfl, b⟩ := hI
        obtain ⟨r, hr0, rfl⟩ := refs_get hv
        obtain ⟨row, hrow, ts, hr1, et⟩ := eac.get hr0
        have rowm : row ∈ pt := List.mem_of_getElem? hrow
        obtain ⟨rl, rwf⟩ := wf.2.2 row rowm
        refine ⟨_, rfl, r, rfl, ⟨_, SqL.of (b.1 _ _ hr1)⟩, ?_⟩
        refine for_list (xs := refs ts) (fun j σ H' => ∃ x4 x5, σ = [some (.ref a), some (.ref x), some (.ref r), some (.str (sOf (EM.rowT (EM.innT d) (row.take j)))), x4, x5] ∧ Bl H x H' (txts ((pt.take i).map (EM.rowT (EM.innT d))))) ?_ (fun j σ H' _ hJ => ?_) (fun j v σ H' hv' hJ => ?_) (fun σ H' hJ => ?_)
        · exact ⟨_, _, rfl, b⟩
        · obtain ⟨_, _, rfl, b⟩ := hJ
          exact SqL.of (b.1 _ _ hr1)
        · obtain ⟨y4, y5, rfl, b⟩ := hJ
          obtain ⟨t, ht0, rfl⟩ := refs_get hv'
          obtain ⟨⟨xi, sg⟩, hit, v, ht1, hin⟩ := et.get ht0
          have itm : (xi, sg) ∈ row := List.mem_of_getElem? hit
          have xwf := rwf _ itm
          have hin' := InA.mono b.1 d _ _ hin
          have ln := EM.innT_le d xi xwf
          have rn : (EM.rowT (EM.innT d) (row.take j)).length ≤ 3 * (602) := by
            have := EM.rowT_le (t := EM.innT d) (k := 601) (row.take j) fun y hy => by have := EM.innT_le d y.1 (rwf y (List.mem_of_mem_take hy)); omega
            have l3 : (row.take j).length ≤ 3 := by rw [List.length_take]; omega
            exact Nat.le_trans this (Nat.mul_le_mul l3 (Nat.le_refl _))
          refine ⟨t, _, rfl, SqT.of (b.1 _ _ ht1), rfl, _, _, rfl, _, _, rfl, rfl, ?_⟩
          refine ⟨fun σ' H'' => σ' = [some (.ref a), some (.ref x), some (.ref r), some (.str (sOf (EM.rowT (EM.innT d) (row.take j)))), some (.str (sOf (EM.innT d xi))), some (.str (sOf (EM.sgT sg)))] ∧ Bl H x H'' (txts ((pt.take i).map (EM.rowT (EM.innT d)))), ?_, ?_⟩
          · rcases hin'.is xwf with e | ⟨e, a', pt', rfl, rfl, hA', wf', e2⟩
            · subst e
              refine ⟨_, rfl, _, _, _, _, _, rfl, .ty "str", .base (.str _), kit_ty (r := true) (by decide +kernel), ?_⟩
              exact ⟨_, rfl, iteF ⟨rfl, b⟩⟩
            · obtain ⟨rs', ha', _⟩ := id hA'
              refine ⟨_, rfl, _, _, _, _, _, rfl, .ty "str", .base (.lst ha'), kit_ty (r := false) (by decide +kernel), ?_⟩
              refine ⟨_, rfl, iteT ?_⟩
              refine ⟨_, rfl, a', pt', l, rfl, hA', wf', by omega, fun H6 s6 => ?_⟩
              have lp := EM.patT_lb wf'
              have tb' := tb2 (d := e) (by omega)
              have e7 : sOf (40 :: (EM.patT (EM.innT e) pt' ++ [41])) = (sOf [40] ++ sOf (EM.patT (EM.innT e) pt')) ++ sOf [41] := by rw [sOf_app, sOf_app]; rfl
              refine ⟨_, _, rfl, rfl, ?_, _, _, rfl, rfl, ?_, ?_⟩
              · rw [sOf_len]; show 1 + _ ≤ _; unfold sizeLine; omega
              · show (sOf [40] ++ sOf (EM.patT (EM.innT e) pt')).length + 1 ≤ _
                rw [sOf_app, sOf_len, List.length_append, List.length_singleton]; unfold sizeLine; omega
              · refine ⟨?_, b.mid s6⟩
                rw [e2, e7]; rfl
          · rintro σ' H'' ⟨rfl, b'⟩
            have sl : (EM.sgT sg).length ≤ 1 := by cases sg <;> simp [EM.sgT]
            refine ⟨_, rfl, _, rfl, _, _, rfl, rfl, ?_, _, rfl, _, _, rfl, rfl, ?_, some (.str (sOf (EM.innT d xi))), some (.str (sOf (EM.sgT sg))), ?_, b'⟩
            · rw [sOf_len, sOf_len]; unfold sizeLine; omega
            · rw [sOf_app, sOf_len, sOf_len, List.length_append]; unfold sizeLine; omega
            · rw [sOf_app, sOf_app]
              have e8 : EM.rowT (EM.innT d) (row.take (j + 1)) = EM.rowT (EM.innT d) (row.take j) ++ EM.innT d xi ++ EM.sgT sg := by
                rw [List.take_succ, hit]
                simp [EM.rowT, EM.itemT]
              rw [e8]; rfl
        · obtain ⟨y4, y5, rfl, b⟩ := hJ
          refine ⟨_, rfl, .inl ⟨rfl, _, SqL.of b.2⟩, _, rfl, x, _, _, rfl, rfl, b.2, ?_, ?_⟩
          · rw [txts_len, List.length_map, List.length_take]; have := wf.2.1; unfold sizeLine; omega
          · refine ⟨_, _, _, _, rfl, ?_⟩
            have e8 : txts ((pt.take (i + 1)).map (EM.rowT (EM.innT d))) = txts ((pt.take i).map (EM.rowT (EM.innT d))) ++ [V.str (sOf (EM.rowT (EM.innT d) row))] := by
              rw [List.take_succ, hrow, List.map_append, txts_app]; rfl
            rw [e8]
            refine b.put x0 ?_
            rw [refs_len, et.1, List.take_length]
      · obtain ⟨x2, x3, x4, x5, rfl, b⟩ := hI
        rw [refs_len, eac.1, List.take_length] at b
        have e9 : txts (pt.map (EM.rowT (EM.innT d))) = ((pt.map (EM.rowT (EM.innT d))).map sOf).map V.str := by simp [txts, Function.comp_def]
        refine ⟨⟨_, rfl⟩, _, rfl, sOf [124], x, _, rfl, rfl, .inl (SqL.of (e9 ▸ b.2)), ?_, ?_⟩
        · have hs := sum_le (k := 1806) (pt.map (EM.rowT (EM.innT d))) fun y hy => by
            obtain ⟨r, hr, rfl⟩ := List.mem_map.mp hy
            obtain ⟨rl, rwf⟩ := wf.2.2 r hr
            have := EM.rowT_le (t := EM.innT d) (k := 601) r fun z hz => by have := EM.innT_le d z.1 (rwf z hz); omega
            exact Nat.le_trans this (Nat.mul_le_mul rl (Nat.le_refl 602))
          have w2 := wf.2.1
          rw [List.length_map] at hs
          have := Nat.mul_le_mul w2 (Nat.le_refl 1806)
          rw [List.length_map, List.length_map, sOf_len, List.length_singleton]
          omega
        · rw [join_sOf, join_bar]
          exact q _ b.1
end
end E

set_option autoImplicit true
set_option maxHeartbeats 4000000
set_option Elab.async false
set_option linter.all false
set_option maxRecDepth 100000
set_option maxHeartbeats 4000000
/-! The law's own way of matching. -/
namespace E
open PySem PySem.Spec PyProof.Rows L2
def natsV (ns : List Nat) : List V := ns.map fun j => V.int (j : Nat)
theorem natsV_app (a b : List Nat) : natsV (a ++ b) = natsV a ++ natsV b := by simp [natsV]
theorem natsV_len (a : List Nat) : (natsV a).length = a.length := by simp [natsV]
theorem natsV_get {ns : List Nat} {i : Nat} {v : V} (h : (natsV ns)[i]? = some v) : ∃ j, ns[i]? = some j ∧ v = .int (j : Nat) := by
  unfold natsV at h
  rw [List.getElem?_map, Option.map_eq_some_iff] at h
  obtain ⟨r, h1, h2⟩ := h
  exact ⟨r, h1, h2.symm⟩
theorem inV_nat (ns : List Nat) (k : Nat) : inV (.int (k : Nat)) (natsV ns) = decide (k ∈ ns) := by
  unfold inV natsV
  rw [List.any_map, Bool.eq_iff_iff, List.any_eq_true, decide_eq_true_eq]
  constructor
  · rintro ⟨x, m, e⟩
    have e : ((x : Int) == (k : Int)) = true := e
    rw [beq_iff_eq] at e
    have : x = k := by omega
    exact this ▸ m
  · intro m
    exact ⟨k, m, by show ((k : Int) == (k : Int)) = true; simp⟩
theorem flat_nats (ns : List Nat) : (natsV ns).all flatV = true := by
  unfold natsV
  rw [List.all_map, List.all_eq_true]
  intro _ _; rfl
/-- where a word of L can end that begins at i -/
def StL (L : EM.Lang) (w : List Nat) (i : Nat) (ns : List Nat) : Prop := ns.Nodup ∧ ∀ j, j ∈ ns ↔ EM.Sp L w i j
theorem StL.len {L : EM.Lang} {w : List Nat} {i : Nat} {ns : List Nat} (h : StL L w i ns) : ns.length ≤ w.length + 1 := by
  have := List.Nodup.length_le_of_subset h.1 (l₂ := List.range (w.length + 1)) fun j m => List.mem_range.mpr (by have := ((h.2 j).mp m).2.1; omega)
  rwa [List.length_range] at this
theorem StL.le {L : EM.Lang} {w : List Nat} {i j : Nat} {ns : List Nat} (h : StL L w i ns) (m : j ∈ ns) : j ≤ w.length := ((h.2 j).mp m).2.1
theorem filter_snoc {ns : List Nat} {i j : Nat} (p : Nat → Bool) (h : ns[i]? = some j) : (ns.take (i + 1)).filter p = (ns.take i).filter p ++ (if p j = true then [j] else []) := by
  rw [List.take_succ, h, List.filter_append]
  congr 1
  simp only [Option.toList_some, List.filter_cons, List.filter_nil]
theorem filter_take_len (ns : List Nat) (p : Nat → Bool) (i : Nat) : ((ns.take i).filter p).length ≤ ns.length := by
  have := List.length_filter_le p (ns.take i)
  have := List.length_take_le i ns
  have h3 : (ns.take i).length ≤ ns.length := by rw [List.length_take]; omega
  omega
theorem sgf1 : ¬ decide (V.str (sOf (EM.sgT .opt)) = V.str "") = true := by decide
theorem sgf2 : ¬ decide (V.str (sOf (EM.sgT .star)) = V.str "") = true := by decide
theorem sgf3 : ¬ decide (V.str (sOf (EM.sgT .star)) = V.str "?") = true := by decide
theorem sgt1 : decide (V.str (sOf (EM.sgT .opt)) = V.str "?") = true := by decide
/-- a list's part that passes a test, made by a comprehension -/
def filR (ns : List Nat) (p : Nat → Bool) : Nat → List V → Hp → Prop := fun i acc _ => acc = natsV ((ns.take i).filter p)
theorem filt_step {ns : List Nat} {p : Nat → Bool} {H1 H : Hp} {D : Addr} {i j s : Nat} {σ2 : L2.St} {acc : List V} (hs : σ2[s]? = some (some (.int (j : Nat)))) (b : Bl H1 D H acc) (r : filR ns p i acc H) (D0 : H1 D = none) (hj : ns[i]? = some j) (hl : ns.length < sizeLine) :
    if p j = true then tVar s σ2 H (fun y H4 => ∃ acc, H4 D = some (.lst acc) ∧ acc.length < sizeLine ∧ PB H1 D (filR ns p) (i + 1) (upd H4 D (.lst (acc ++ [y])))) else PB H1 D (filR ns p) (i + 1) H := by
  have e := filter_snoc p hj
  have r : acc = natsV ((ns.take i).filter p) := r
  subst r
  refine ite2 (fun h => ?_) (fun h => ?_)
  · refine ⟨_, hs, PB.add b D0 (same_refl _) ?_ fun H5 _ _ => ?_⟩
    · rw [natsV_len]; have := filter_take_len ns p i; omega
    · show _ = natsV _
      rw [e, if_pos h, natsV_app]; rfl
  · refine PB.stay b (same_refl _) ?_
    show _ = natsV _
    rw [e, if_neg h, List.append_nil]
theorem filR_end {ns : List Nat} {p : Nat → Bool} {H1 H : Hp} {D : Addr} (h : PB H1 D (filR ns p) (natsV ns).length H) : Bl H1 D H (natsV (ns.filter p)) := by
  obtain ⟨acc, b, e⟩ := h
  have e : acc = natsV ((ns.take (natsV ns).length).filter p) := e
  rw [natsV_len, List.take_length] at e
  exact e ▸ b
theorem filt_lst {K : PySem.W.Frag} {a : Addr} {ns : List Nat} {p : Nat → Bool} {H1 : Hp} {D : Addr} (e : H1 a = some (.lst (natsV ns))) : ∀ i H, i ≤ (natsV ns).length → PB H1 D (filR ns p) i H → SqL K H a (natsV ns) := fun i H _ h => by
  obtain ⟨acc, b, _⟩ := h
  exact SqL.of (b.1 _ _ e)
section
variable {P : Program} {w : World} {K : PySem.W.Frag} {mg : Str → Option Value} {base : Heap}
def spStops : Nat → Sp
  | 0 => fun _ _ _ _ => False
  | d + 1 => fun vs H Q _ => ∃ (a : Addr) (pt : EM.Pat d) (l wd : List Nat) (i : Nat), vs = [.ref a, .str (sOf wd), .int i] ∧ PtA (InA d) H a pt ∧ EM.PatOk (EM.Wf l d) pt ∧ LetOk l ∧ EM.Over l wd ∧ wd.length ≤ 5 ∧ i ≤ wd.length ∧
      ∀ (f : Addr) (ns : List Nat) H', Same H H' → H' f = some (.lst (natsV ns)) → StL (EM.patL (EM.innL l d) pt) wd i ns → Q (.ref f) H'
def spPlain (d : Nat) : Sp := fun vs H Q _ => ∃ (v : V) (x : EM.Inner d) (l wd : List Nat) (i : Nat), vs = [v, .str (sOf wd), .int i] ∧ InA d H v x ∧ EM.Wf l d x ∧ LetOk l ∧ EM.Over l wd ∧ wd.length ≤ 5 ∧ i ≤ wd.length ∧
      ∀ (f : Addr) (ns : List Nat) H', Same H H' → H' f = some (.lst (natsV ns)) → StL (EM.innL l d x) wd i ns → Q (.ref f) H'
def spItem (d : Nat) : Sp := fun vs H Q _ => ∃ (t : Addr) (x : EM.Inner d × EM.Sg) (l wd : List Nat) (i : Nat), vs = [.ref t, .str (sOf wd), .int i] ∧ ItA (InA d) H t x ∧ EM.Wf l d x.1 ∧ LetOk l ∧ EM.Over l wd ∧ wd.length ≤ 5 ∧ i ≤ wd.length ∧
      ∀ (f : Addr) (ns : List Nat) H', Same H H' → H' f = some (.lst (natsV ns)) → StL (EM.sgL (EM.innL l d x.1) x.2) wd i ns → Q (.ref f) H'
/-- an inner part is a letter, a dot or a pattern -/
theorem InA.is2 {l : List Nat} : ∀ {d : Nat} {H : Hp} {v : V} {x : EM.Inner d}, InA d H v x → EM.Wf l d x → (∃ y : EM.Atom, v = .str (sOf (EM.atomT y)) ∧ EM.atomOk l y ∧ EM.innL l d x = EM.atomL l y) ∨
    ∃ e a pt, d = e + 1 ∧ v = .ref a ∧ PtA (InA e) H a pt ∧ EM.PatOk (EM.Wf l e) pt ∧ EM.innL l d x = EM.patL (EM.innL l e) pt := by
  intro d H v x h wf
  cases d with
  | zero => exact .inl ⟨x, h, wf, rfl⟩
  | succ d =>
    cases x with
    | inl x => exact .inl ⟨x, h, wf, rfl⟩
    | inr p =>
      obtain ⟨a, e, h⟩ := h
      exact .inr ⟨d, a, p, rfl, e, h, wf, rfl⟩
theorem ok_plain (T : Tx K mg) {d : Nat} (hst : Ok P w K mg base (3 * d + 1) (He.ga K "_law_stops") ["_law_pattern_here", "_law_word", "_law_at"] (spStops d)) :
    Ok P w K mg base (3 * d + 2) (He.ga K "_law_plain_stops") ["_law_inner", "_law_word", "_law_at"] (spPlain d) := by
  obtain ⟨_, F_L_stops, b_L_stops, k_L_stops⟩ := hst
  refine ok_mk T.fn_L_plain_stops sc_L_plain_stops (fun _ _ _ _ _ _ us hl => match us, hl with | [_, _, _], _ => rfl) (fun vs H Q E h => ?_) (fun cdv A outer s H vs Q E hr h => ?_)
  · obtain ⟨v, x, l, wd, i, rfl, _⟩ := h
    rfl
  · obtain ⟨v, x, l, wd, i, rfl, hin, wf, lok, ov, w5, iw, q⟩ := h
    refine ⟨_, (pss_cons (ps_if (pt_not (pt_val (pe_callB call_isi (by rfl) T.f_isinstance (by decide +kernel) (pa_cons (pv 0) (pa_cons (pe_bltn (v := .ty "str") (by rfl) T.f_str (by decide +kernel) rfl) pa_nil))))) (pss_one (ps_ret (pe_call F_L_stops hr rfl T.g_L_stops k_L_stops b_L_stops .nil pass0 (pa_cons (pv 0) (pa_cons (pv 1) (pa_cons (pv 2) pa_nil)))))) pss_nil)
      (pss_one (ps_ret (pe_ifExp (PW.pt (pw_and (pt_cmpR op_lt (pv 2) (pe_callB call_len_str (by rfl) T.f_len (by decide +kernel) (pa_cons (pv 1) pa_nil)) (nomark _)) (pw_and1 (pt_cmpR op_in_seq (pv 0) (pe_tup (pa_cons pe_str (pa_cons (pe_ix ix_str (pv 1) (pv 2) (fun _ _ => rfl)) pa_nil))) rfl)))) (pe_lst (pa_cons (pe_op op_add (pv 2) pe_int) pa_nil)) (pe_lst pa_nil))))), ?_⟩
    rcases hin.is2 wf with ⟨y, rfl, yok, eL⟩ | ⟨e, a, pt, rfl, rfl, hA, wf', eL⟩
    · refine ⟨_, rfl, _, _, _, _, _, rfl, .ty "str", .base (.str _), kit_ty (r := true) (by decide +kernel), ?_⟩
      refine ⟨_, rfl, iteF ?_⟩
      have sl : (sOf wd).length = wd.length := sOf_len wd
      refine ⟨_, rfl, _, rfl, _, rfl, by rw [sl]; unfold sizeLine; omega, _, _, rfl, rfl, _, rfl, ?_⟩
      have finT : ∀ (Hx : Hp), Same H Hx → i < wd.length → (∃ c, wd[i]? = some c ∧ (y = .dot ∨ y = .sym c)) → ∀ f, Hx f = none → Q (.ref f) (upd Hx f (.lst [.int ((i : Int) + 1)])) := by
        intro Hx sx hi hc f f0
        refine q f [i + 1] _ (same_trans sx (Same.up f0)) upd_same ⟨by simp, fun j => ?_⟩
        rw [eL, EM.sp_atom ov, List.mem_singleton]
        exact ⟨fun e => ⟨e, hc⟩, fun e => e.1⟩
      have finF : ∀ (Hx : Hp), Same H Hx → (¬ ∃ c, wd[i]? = some c ∧ (y = .dot ∨ y = .sym c)) → ∀ f, Hx f = none → Q (.ref f) (upd Hx f (.lst [])) := by
        intro Hx sx hc f f0
        refine q f [] _ (same_trans sx (Same.up f0)) upd_same ⟨by simp, fun j => ?_⟩
        rw [eL, EM.sp_atom ov]
        exact ⟨fun e => (by cases e), fun e => absurd e.2 hc⟩
      refine ite2 (fun h => ?_) (fun h => ?_)
      · rw [decide_eq_true_eq] at h
        have hi : i < wd.length := by rw [sl] at h; omega
        refine ⟨_, rfl, _, rfl, _, rfl, _, _, wd[i], rfl, rfl, by rw [sl]; unfold sizeLine; omega, atI_nat (by rw [sOf_toList]; exact List.getElem?_eq_getElem hi), (by show 2 ≤ sizeLine; decide), fun t t0 => ?_⟩
        generalize e1 : upd H t _ = H1
        obtain ⟨s1, t1, f1⟩ := newE t0 e1
        refine ⟨t, _, rfl, .inr (SqT.of t1), rfl, rfl, _, rfl, ?_⟩
        have eI : inV (.str (sOf (EM.atomT y))) [.str ".", .str ⟨#[wd[i]]⟩] = true ↔ ∃ c, wd[i]? = some c ∧ (y = .dot ∨ y = .sym c) := by
          have e1 : inV (.str (sOf (EM.atomT y))) [.str ".", .str ⟨#[wd[i]]⟩] = ((sOf [46] == sOf (EM.atomT y)) || (sOf [wd[i]] == sOf (EM.atomT y))) := by
            show ((sOf [46] == sOf (EM.atomT y)) || ((sOf [wd[i]] == sOf (EM.atomT y)) || false)) = _
            rw [Bool.or_false]
          rw [e1, Bool.or_eq_true, beq_iff_eq, beq_iff_eq, List.getElem?_eq_getElem hi]
          cases y with
          | dot => exact ⟨fun _ => ⟨_, rfl, .inl rfl⟩, fun _ => .inl rfl⟩
          | sym c =>
            have cl := lok.2.2 c yok
            constructor
            · rintro (e | e)
              · have := sOf_inj e
                have : 46 = c := by simpa [EM.atomT] using this
                omega
              · have := sOf_inj e
                have : wd[i] = c := by simpa [EM.atomT] using this
                exact ⟨_, rfl, .inr (this ▸ rfl)⟩
            · rintro ⟨c', e, e' | e'⟩
              · cases e'
              · cases e; cases e'; exact .inr rfl
        refine ite2 (fun h2 => ?_) (fun h2 => ?_)
        · exact ⟨_, rfl, _, _, rfl, rfl, (by show 1 ≤ sizeLine; decide), finT H1 s1 hi (eI.mp h2)⟩
        · exact ⟨by decide, finF H1 s1 fun k => h2 (eI.mpr k)⟩
      · rw [decide_eq_true_eq] at h
        refine ⟨by decide, finF H (same_refl H) fun ⟨c, hc, _⟩ => h ?_⟩
        have := (List.getElem?_eq_some_iff.mp hc).1
        rw [sl]; omega
    · obtain ⟨rs', ha', _⟩ := id hA
      refine ⟨_, rfl, _, _, _, _, _, rfl, .ty "str", .base (.lst ha'), kit_ty (r := false) (by decide +kernel), ?_⟩
      refine ⟨_, rfl, iteT ?_⟩
      refine ⟨_, rfl, _, rfl, _, rfl, a, pt, l, wd, i, rfl, hA, wf', lok, ov, w5, iw, fun f ns H' s' hf hst => q f ns H' s' hf ?_⟩
      rw [eL]; exact hst
theorem ok_item (T : Tx K mg) {d : Nat} (hst : Ok P w K mg base (3 * d + 2) (He.ga K "_law_plain_stops") ["_law_inner", "_law_word", "_law_at"] (spPlain d)) :
    Ok P w K mg base (3 * d + 3) (He.ga K "_law_item_stops") ["_law_item", "_law_word", "_law_at"] (spItem d) := by
  obtain ⟨_, F_L_plain_stops, b_L_plain_stops, k_L_plain_stops⟩ := hst
  refine ok_mk T.fn_L_item_stops sc_L_item_stops (fun _ _ _ _ _ _ us hl => match us, hl with | [_, _, _], _ => rfl) (fun vs H Q E h => ?_) (fun cdv A outer s H vs Q E hr h => ?_)
  · obtain ⟨t, x, l, wd, i, rfl, _⟩ := h
    rfl
  · obtain ⟨t, ⟨x, sg⟩, l, wd, i, rfl, ⟨v, ht, hin⟩, wf, lok, ov, w5, iw, q⟩ := h
    refine ⟨_, (pss_cons (ps_asg (pv 0) (pg_tup (by rfl) (pgs_cons (pg_name (i := 3) sc_L_item_stops.nd rfl (by first | exact Or.inl rfl | exact Or.inr rfl)) (pgs_cons (pg_name (i := 4) sc_L_item_stops.nd rfl (by first | exact Or.inl rfl | exact Or.inr rfl)) pgs_nil))))
      (pss_cons (ps_if (pt_cmpR op_eq (pv 4) pe_str (nomark _)) (pss_one (ps_ret (pe_call F_L_plain_stops hr rfl T.g_L_plain_stops k_L_plain_stops b_L_plain_stops .nil pass0 (pa_cons (pv 3) (pa_cons (pv 1) (pa_cons (pv 2) pa_nil)))))) pss_nil)
      (pss_cons (ps_set (i := 5) sc_L_item_stops.nd rfl (by first | exact Or.inl rfl | exact Or.inr rfl) (pe_lst (pa_cons (pv 2) pa_nil)))
      (pss_cons (ps_if (pt_cmpR op_eq (pv 4) pe_str (nomark _)) (pss_one (ps_ret (pe_op op_cat (pv 5) (pe_lc (own := [("_law_stop", 6)]) (g := gName 6)  (by rfl) sc_L_item_stops.nd (pi_list (pe_call F_L_plain_stops hr rfl T.g_L_plain_stops k_L_plain_stops b_L_plain_stops .nil pass0 (pa_cons (pv 3) (pa_cons (pv 1) (pa_cons (pv 2) pa_nil))))) (blkOk_by (own := [("_law_stop", 6)]) (N := N_L_item_stops) (sc := defScope s_L_item_stops) (by decide +kernel)) (fun _ _ _ _ _ => (pg_name (i := 6) sc_L_item_stops.nd rfl (Or.inl rfl))) (fun _ _ _ _ _ => pts_one (pt_cmpR op_ne (pv 6) (pv 2) (nomark _))) (fun _ _ _ _ _ => (pv 6)))))) pss_nil)
      (pss_cons (ps_set (i := 7) sc_L_item_stops.nd rfl (by first | exact Or.inl rfl | exact Or.inr rfl) pe_int)
      (pss_cons (ps_while PassesOwn.never (pt_cmpR op_lt (pv 7) (pe_callB call_len_seq (by rfl) T.f_len (by decide +kernel) (pa_cons (pv 5) pa_nil)) (nomark _)) (pss_cons (ps_expr (pe_bm PySem.F.plainAttrs_list PySem.F.slot_list_extend PySem.F.type_list_extend mt_extend (pv 5) (pa_cons (pe_lc (own := [("_law_stop", 6)]) (g := gName 6)  (by rfl) sc_L_item_stops.nd (pi_list (pe_call F_L_plain_stops hr rfl T.g_L_plain_stops k_L_plain_stops b_L_plain_stops .nil pass0 (pa_cons (pv 3) (pa_cons (pv 1) (pa_cons (pe_ix ix_list (pv 5) (pv 7) (fun _ _ => rfl)) pa_nil))))) (blkOk_by (own := [("_law_stop", 6)]) (N := N_L_item_stops) (sc := defScope s_L_item_stops) (by decide +kernel)) (fun _ _ _ _ _ => (pg_name (i := 6) sc_L_item_stops.nd rfl (Or.inl rfl))) (fun _ _ _ _ _ => pts_one (pt_cmpR (op_notIn_seqK rfl) (pv 6) (pv 5) rfl)) (fun _ _ _ _ _ => (pv 6))) pa_nil)))
      (pss_one (ps_set (i := 7) sc_L_item_stops.nd rfl (by first | exact Or.inl rfl | exact Or.inr rfl) (pe_op op_add (pv 7) pe_int)))))
      (pss_one (ps_ret (pv 5))))))))), ?_⟩
    refine ⟨_, rfl, t, _, rfl, SqT.of ht, rfl, _, _, rfl, _, _, rfl, rfl, ?_⟩
    refine ⟨_, rfl, rfl, _, rfl, ?_⟩
    cases sg with
    | one =>
      refine ite2 (fun _ => ?_) (fun h => absurd rfl h)
      refine ⟨_, rfl, _, rfl, _, rfl, v, x, l, wd, i, rfl, hin, wf, lok, ov, w5, iw, fun f ns H' s' hf hst => q f ns H' s' hf hst⟩
    | opt =>
      refine ite2 (fun h => absurd h sgf1) (fun _ => ?_)
      refine ⟨_, rfl, (by show 1 ≤ sizeLine; decide), fun y y0 => ?_⟩
      generalize e1 : upd H y _ = H1
      obtain ⟨s1, y1, f1⟩ := newE y0 e1
      refine ⟨_, rfl, rfl, _, rfl, ?_⟩
      refine ite2 (fun _ => ?_) (fun h => absurd sgt1 h)
      refine ⟨_, rfl, _, rfl, _, rfl, _, rfl, v, x, l, wd, i, rfl, InA.mono s1 d _ _ hin, wf, lok, ov, w5, iw, fun f ns H2 s2 hf hst => ?_⟩
      have nl := hst.len
      refine ⟨f, rfl, ⟨_, SqL.of hf⟩, fun D D0 => ?_⟩
      refine lc_list (xs := natsV ns) (PB H2 D (filR ns fun j => !decide (V.int (j : Nat) = V.int (i : Nat)))) (PB.start D0 fun _ _ => rfl) (filt_lst hf) (fun k z H3 hz hP => ?_) (fun H3 hP => ?_)
      · obtain ⟨j, hj, rfl⟩ := natsV_get hz
        obtain ⟨acc, b, r⟩ := hP
        refine ⟨rfl, _, rfl, _, rfl, rfl, _, rfl, ?_⟩
        exact filt_step rfl b r D0 hj (by unfold sizeLine; omega)
      · have b := filR_end hP
        have ff : (ns.filter fun j => !decide (V.int (j : Nat) = V.int (i : Nat))).length ≤ ns.length := List.length_filter_le _ _
        refine ⟨_, _, _, _, rfl, rfl, b.1 _ _ (s2 _ _ y1), b.2, ?_, fun u u0 => ?_⟩
        · rw [natsV_len]; show 1 + _ ≤ _; unfold sizeLine; omega
        · have e4 : [V.int (i : Nat)] ++ natsV (ns.filter fun j => !decide (V.int (j : Nat) = V.int (i : Nat))) = natsV (i :: ns.filter fun j => !decide (V.int (j : Nat) = V.int (i : Nat))) := rfl
          refine q u _ _ (same_trans (same_trans s1 (same_trans s2 b.1)) (Same.up u0)) (upd_same.trans (by rw [← e4])) ⟨?_, fun j => ?_⟩
          · refine List.nodup_cons.mpr ⟨fun m => ?_, hst.1.filter _⟩
            have := (List.mem_filter.mp m).2
            simp at this
          · rw [EM.sp_opt iw, List.mem_cons, List.mem_filter, hst.2]
            constructor
            · rintro (e | e)
              · exact .inl e
              · exact .inr e.1
            · rintro (e | e)
              · exact .inl e
              · by_cases z : j = i
                · exact .inl z
                · refine .inr ⟨e, ?_⟩
                  rw [Bool.not_eq_true', decide_eq_false_iff_not]
                  intro k
                  injection k with k
                  omega
    | star =>
      refine ite2 (fun h => absurd h sgf2) (fun _ => ?_)
      refine ⟨_, rfl, (by show 1 ≤ sizeLine; decide), fun y y0 => ?_⟩
      generalize e1 : upd H y _ = H1
      obtain ⟨s1, y1, f1⟩ := newE y0 e1
      refine ⟨_, rfl, rfl, _, rfl, ?_⟩
      refine ite2 (fun h => absurd h sgf3) (fun _ => ?_)
      refine ⟨fun m σ H' => ∃ fs k x6, σ = [some (.ref t), some (.str (sOf wd)), some (.int i), some v, some (.str (sOf (EM.sgT .star))), some (.ref y), x6, some (.int (k : Nat))] ∧ Bl H y H' (natsV fs) ∧ fs.Nodup ∧ (∀ j, j ∈ fs → EM.Sp (EM.Star (EM.innL l d x)) wd i j) ∧ i ∈ fs ∧
        k ≤ fs.length ∧ (∀ a j b, a < k → fs[a]? = some j → EM.Sp (EM.innL l d x) wd j b → b ∈ fs) ∧ m + k = wd.length + 1, ⟨wd.length + 1, [i], 0, _, rfl, ⟨s1, y1⟩, by simp, fun j hj => ?_, by simp, by simp, fun a j b h => absurd h (by omega), rfl⟩, fun m σ H' hP => ?_⟩
      · rw [List.mem_singleton] at hj
        subst hj
        exact EM.sp_star_here iw
      · obtain ⟨fs, k, x6, rfl, b, nd, sp, im, kl, cl, me⟩ := hP
        have fl : fs.length ≤ wd.length + 1 := by
          have := List.Nodup.length_le_of_subset nd (l₂ := List.range (wd.length + 1)) fun j m => List.mem_range.mpr (by have := (sp j m).2.1; omega)
          rwa [List.length_range] at this
        refine ⟨_, rfl, _, rfl, _, _, rfl, .inl (SqL.of b.2), _, _, rfl, rfl, _, rfl, ?_⟩
        refine ite2 (fun h => ?_) (fun h => ?_)
        · rw [decide_eq_true_eq, natsV_len] at h
          have hk : k < fs.length := by omega
          refine ⟨fun σ' H' => ∃ m', m' < m ∧ ∃ fs k x6, σ' = [some (.ref t), some (.str (sOf wd)), some (.int i), some v, some (.str (sOf (EM.sgT .star))), some (.ref y), x6, some (.int (k : Nat))] ∧ Bl H y H' (natsV fs) ∧ fs.Nodup ∧ (∀ j, j ∈ fs → EM.Sp (EM.Star (EM.innL l d x)) wd i j) ∧ i ∈ fs ∧
            k ≤ fs.length ∧ (∀ a j b, a < k → fs[a]? = some j → EM.Sp (EM.innL l d x) wd j b → b ∈ fs) ∧ m' + k = wd.length + 1, fun _ _ h => h, ?_⟩
          have fk := List.getElem?_eq_getElem hk
          have spk := sp _ (List.getElem_mem hk)
          refine ⟨_, rfl, .inl ⟨rfl, _, SqL.of b.2⟩, _, rfl, _, rfl, _, rfl, _, rfl, y, _, _, .int (fs[k] : Nat), rfl, rfl, SqL.of b.2, atI_nat (by simp [natsV, hk]), v, x, l, wd, fs[k], rfl, InA.mono b.1 d _ _ hin, wf, lok, ov, w5, spk.2.1, fun f ns H2 s2 hf hst => ?_⟩
          have nl := hst.len
          refine ⟨f, rfl, ⟨_, SqL.of hf⟩, fun D D0 => ?_⟩
          refine lc_list (xs := natsV ns) (PB H2 D (filR ns fun j => !inV (V.int (j : Nat)) (natsV fs))) (PB.start D0 fun _ _ => rfl) (filt_lst hf) (fun k z H3 hz hP => ?_) (fun H3 hP => ?_)
          · obtain ⟨j, hj, rfl⟩ := natsV_get hz
            obtain ⟨acc, b', r⟩ := hP
            refine ⟨rfl, _, rfl, _, rfl, y, _, rfl, .inl (SqL.of (b'.1 _ _ (s2 _ _ b.2))), rfl, flat_nats fs, _, rfl, ?_⟩
            exact filt_step rfl b' r D0 hj (by unfold sizeLine; omega)
          · have b' := filR_end hP
            have ff : (ns.filter fun j => !inV (V.int (j : Nat)) (natsV fs)).length ≤ ns.length := List.length_filter_le _ _
            refine ⟨y, D, _, _, rfl, rfl, b'.1 _ _ (s2 _ _ b.2), b'.2, by rw [natsV_len, natsV_len]; unfold sizeLine; omega, ?_⟩
            have mf : ∀ j, j ∈ (ns.filter fun j => !inV (V.int (j : Nat)) (natsV fs)) ↔ j ∈ ns ∧ j ∉ fs := by
              intro j
              rw [List.mem_filter, inV_nat]
              simp
            refine ⟨_, rfl, _, _, rfl, rfl, m - 1, by omega, fs ++ ns.filter (fun j => !inV (V.int (j : Nat)) (natsV fs)), k + 1, _, rfl, ?_, ?_, fun j hj => ?_, List.mem_append.mpr (.inl im), ?_, fun a j b2 ha hj hb => ?_, by omega⟩
            · rw [← natsV_app]
              exact (b.mid (same_trans s2 b'.1)).put y0 rfl
            · exact List.nodup_append.mpr ⟨nd, hst.1.filter _, fun a ha c hc e => ((mf c).mp hc).2 (e ▸ ha)⟩
            · rcases List.mem_append.mp hj with hj | hj
              · exact sp j hj
              · exact EM.sp_star_step spk ((hst.2 j).mp ((mf j).mp hj).1)
            · rw [List.length_append]; omega
            · by_cases hb2 : b2 ∈ fs
              · exact List.mem_append.mpr (.inl hb2)
              · refine List.mem_append.mpr (.inr ((mf b2).mpr ⟨?_, hb2⟩))
                rcases Nat.lt_or_ge a k with z | z
                · rw [List.getElem?_append_left (by omega)] at hj
                  exact absurd (cl a j b2 z hj hb) hb2
                · have : a = k := by omega
                  subst this
                  rw [List.getElem?_append_left hk, fk] at hj
                  cases hj
                  exact (hst.2 b2).mpr hb
        · rw [decide_eq_true_eq, natsV_len] at h
          have ek : k = fs.length := by omega
          refine ⟨_, rfl, q y fs H' b.1 b.2 ⟨nd, fun j => ⟨sp j, fun hj => ?_⟩⟩⟩
          refine EM.sp_star_closed (w := wd) (fun j => j ∈ fs) (fun a b' ha hb => ?_) _ hj.2.2 i j hj.1 hj.2.1 rfl im
          obtain ⟨c, hc, e⟩ := List.getElem_of_mem ha
          exact cl c a b' (by omega) (by rw [List.getElem?_eq_getElem hc, e]) hb
theorem sp_row_snoc {α : Type} {L : α → EM.Lang} {r : List (α × EM.Sg)} {x : α} {sg : EM.Sg} {wd : List Nat} {i j : Nat} :
    EM.Sp (EM.rowL L (r ++ [(x, sg)])) wd i j ↔ ∃ k, EM.Sp (EM.rowL L r) wd i k ∧ EM.Sp (EM.sgL (L x) sg) wd k j := by
  constructor
  · rintro ⟨h1, h2, h3⟩
    obtain ⟨u, v, e, k1, k2⟩ := (EM.rowL_append _ _ _).mp h3
    obtain ⟨k, a1, a2, rfl, rfl⟩ := EM.seg_cut h1 h2 e
    exact ⟨k, ⟨a1, by omega, k1⟩, ⟨a2, h2, (EM.rowL_one _ _ _).mp k2⟩⟩
  · rintro ⟨k, ⟨h1, h2, h3⟩, ⟨k1, k2, k3⟩⟩
    exact ⟨by omega, k2, (EM.rowL_append _ _ _).mpr ⟨_, _, EM.seg_split wd h1 k1, h3, (EM.rowL_one _ _ _).mpr k3⟩⟩
theorem bound6 {fs wd : List Nat} (nd : fs.Nodup) (h : ∀ j, j ∈ fs → j ≤ wd.length) (w5 : wd.length ≤ 5) : fs.length ≤ 6 := by
  have := List.Nodup.length_le_of_subset nd (l₂ := List.range (wd.length + 1)) fun j m => List.mem_range.mpr (by have := h j m; omega)
  rw [List.length_range] at this
  omega
theorem ok_stops1 (T : Tx K mg) {d : Nat} (hst : Ok P w K mg base (3 * d + 3) (He.ga K "_law_item_stops") ["_law_item", "_law_word", "_law_at"] (spItem d)) :
    Ok P w K mg base (3 * (d + 1) + 1) (He.ga K "_law_stops") ["_law_pattern_here", "_law_word", "_law_at"] (spStops (d + 1)) := by
  obtain ⟨_, F_L_item_stops, b_L_item_stops, k_L_item_stops⟩ := hst
  refine ok_mk T.fn_L_stops sc_L_stops (fun _ _ _ _ _ _ us hl => match us, hl with | [_, _, _], _ => rfl) (fun vs H Q E h => ?_) (fun cdv A outer s H vs Q E hr h => ?_)
  · obtain ⟨t, x, l, wd, i, rfl, _⟩ := h
    rfl
  · obtain ⟨a, pt, l, wd, i, rfl, hA, wf, lok, ov, w5, iw, q⟩ := h
    refine ⟨_, (pss_cons (ps_set (i := 3) sc_L_stops.nd rfl (by first | exact Or.inl rfl | exact Or.inr rfl) (pe_lst pa_nil))
      (pss_cons (ps_for PassesOwn.never rfl (pi_list (pv 0)) (pg_name (i := 4) sc_L_stops.nd rfl (by first | exact Or.inl rfl | exact Or.inr rfl)) (pss_cons (ps_set (i := 5) sc_L_stops.nd rfl (by first | exact Or.inl rfl | exact Or.inr rfl) (pe_lst (pa_cons (pv 2) pa_nil)))
      (pss_cons (ps_for PassesOwn.never rfl (pi_list (pv 4)) (pg_name (i := 6) sc_L_stops.nd rfl (by first | exact Or.inl rfl | exact Or.inr rfl)) (pss_cons (ps_set (i := 7) sc_L_stops.nd rfl (by first | exact Or.inl rfl | exact Or.inr rfl) (pe_lst pa_nil))
      (pss_cons (ps_for PassesOwn.never rfl (pi_list (pv 5)) (pg_name (i := 8) sc_L_stops.nd rfl (by first | exact Or.inl rfl | exact Or.inr rfl)) (pss_one (ps_expr (pe_bm PySem.F.plainAttrs_list PySem.F.slot_list_extend PySem.F.type_list_extend mt_extend (pv 7) (pa_cons (pe_lc (own := [("_law_stop", 9)]) (g := gName 9)  (by rfl) sc_L_stops.nd (pi_list (pe_call F_L_item_stops hr rfl T.g_L_item_stops k_L_item_stops b_L_item_stops .nil pass0 (pa_cons (pv 6) (pa_cons (pv 1) (pa_cons (pv 8) pa_nil))))) (blkOk_by (own := [("_law_stop", 9)]) (N := N_L_stops) (sc := defScope s_L_stops) (by decide +kernel)) (fun _ _ _ _ _ => (pg_name (i := 9) sc_L_stops.nd rfl (Or.inl rfl))) (fun _ _ _ _ _ => pts_one (pt_cmpR (op_notIn_seqK rfl) (pv 9) (pv 7) rfl)) (fun _ _ _ _ _ => (pv 9))) pa_nil)))))
      (pss_one (ps_set (i := 5) sc_L_stops.nd rfl (by first | exact Or.inl rfl | exact Or.inr rfl) (pe_callTy call_list_of (by rfl) T.f_list (by decide +kernel) (pa_cons (pv 7) pa_nil)))))))
      (pss_one (ps_expr (pe_bm PySem.F.plainAttrs_list PySem.F.slot_list_extend PySem.F.type_list_extend mt_extend (pv 3) (pa_cons (pe_lc (own := [("_law_spot", 8)]) (g := gName 8)  (by rfl) sc_L_stops.nd (pi_list (pv 5)) (blkOk_by (own := [("_law_spot", 8)]) (N := N_L_stops) (sc := defScope s_L_stops) (by decide +kernel)) (fun _ _ _ _ _ => (pg_name (i := 8) sc_L_stops.nd rfl (Or.inl rfl))) (fun _ _ _ _ _ => pts_one (pt_cmpR (op_notIn_seqK rfl) (pv 8) (pv 3) rfl)) (fun _ _ _ _ _ => (pv 8))) pa_nil)))))))
      (pss_one (ps_ret (pv 3))))), ?_⟩
    obtain ⟨rs, ha, eac⟩ := id hA
    refine ⟨by decide, fun x x0 => ?_⟩
    generalize e1 : upd H x _ = H1
    have b1 : Bl H x H1 [] := e1 ▸ Bl.start x0
    refine ⟨_, rfl, a, rfl, ⟨_, SqL.of (b1.1 _ _ ha)⟩, ?_⟩
    refine for_list (xs := refs rs) (fun n σ H' => ∃ fs x4 x5 x6 x7 x8 x9, σ = [some (.ref a), some (.str (sOf wd)), some (.int i), some (.ref x), x4, x5, x6, x7, x8, x9] ∧ Bl H x H' (natsV fs) ∧ fs.Nodup ∧
      ∀ j, j ∈ fs ↔ ∃ r, r ∈ pt.take n ∧ EM.Sp (EM.rowL (EM.innL l d) r) wd i j) ?_ (fun n σ H' _ hI => ?_) (fun n v σ H' hv hI => ?_) (fun σ H' hI => ?_)
    · exact ⟨[], _, _, _, _, _, _, rfl, b1, List.nodup_nil, fun j => by simp⟩
    · obtain ⟨fs, _, _, _, _, _, _, rfl, b, _⟩ := hI
      exact SqL.of (b.1 _ _ ha)
    · obtain ⟨fs, x4, x5, x6, x7, x8, x9, rfl, b, nd, mem⟩ := hI
      obtain ⟨r, hr0, rfl⟩ := refs_get hv
      obtain ⟨row, hrow, ts, hr1, et⟩ := eac.get hr0
      have rowm : row ∈ pt := List.mem_of_getElem? hrow
      obtain ⟨rl, rwf⟩ := wf.2.2 row rowm
      refine ⟨_, rfl, (by show 1 ≤ sizeLine; decide), fun y y0 => ?_⟩
      generalize e2 : upd H' y _ = H2
      obtain ⟨s2, y1, f2⟩ := newE y0 e2
      have nxy : x ≠ y := ne_of_none b.2 y0
      refine ⟨_, rfl, r, rfl, ⟨_, SqL.of (s2 _ _ (b.1 _ _ hr1))⟩, ?_⟩
      refine for_list (xs := refs ts) (fun k σ H' => ∃ y ss x6 x7 x8 x9, σ = [some (.ref a), some (.str (sOf wd)), some (.int i), some (.ref x), some (.ref r), some (.ref y), x6, x7, x8, x9] ∧ Bl H x H' (natsV fs) ∧ x ≠ y ∧ H' y = some (.lst (natsV ss)) ∧
        StL (EM.rowL (EM.innL l d) (row.take k)) wd i ss) ?_ (fun k σ H' _ hJ => ?_) (fun k v σ H3 hv' hJ => ?_) (fun σ H3 hJ => ?_)
      · refine ⟨y, [i], _, _, _, _, rfl, b.mid s2, nxy, y1, by simp, fun j => ?_⟩
        show _ ↔ EM.Sp (fun w => w = []) wd i j
        rw [EM.sp_nil, List.mem_singleton]
        constructor
        · rintro rfl; exact ⟨rfl, iw⟩
        · exact fun e => e.1.symm
      · obtain ⟨_, _, _, _, _, _, rfl, b, _⟩ := hJ
        exact SqL.of (b.1 _ _ hr1)
      · obtain ⟨y, ss, x6, x7, x8, x9, rfl, b, nxy, hy, st⟩ := hJ
        obtain ⟨t, ht0, rfl⟩ := refs_get hv'
        obtain ⟨⟨xi, sg⟩, hit, hti⟩ := et.get ht0
        have xwf := rwf _ (List.mem_of_getElem? hit)
        refine ⟨by decide, fun z z0 => ?_⟩
        generalize e4 : upd H3 z _ = H4
        obtain ⟨s4, z1, f4⟩ := newE z0 e4
        have nxz : x ≠ z := ne_of_none b.2 z0
        have nyz : y ≠ z := ne_of_none hy z0
        refine ⟨_, rfl, y, rfl, ⟨_, SqL.of (s4 _ _ hy)⟩, ?_⟩
        refine for_list (xs := natsV ss) (fun m σ H5 => ∃ gs x8 x9, σ = [some (.ref a), some (.str (sOf wd)), some (.int i), some (.ref x), some (.ref r), some (.ref y), some (.ref t), some (.ref z), x8, x9] ∧ Bl H3 z H5 (natsV gs) ∧ gs.Nodup ∧
          ∀ j, j ∈ gs ↔ ∃ c, c ∈ ss.take m ∧ EM.Sp (EM.sgL (EM.innL l d xi) sg) wd c j) ?_ (fun m σ H5 _ hK => ?_) (fun m v σ H5 hv2 hK => ?_) (fun σ H5 hK => ?_)
        · exact ⟨[], _, _, rfl, ⟨s4, z1⟩, List.nodup_nil, fun j => by simp⟩
        · obtain ⟨gs, _, _, rfl, b5, _⟩ := hK
          exact SqL.of (b5.1 _ _ hy)
        · obtain ⟨gs, x8, x9, rfl, b5, gnd, gm⟩ := hK
          obtain ⟨c, hc, rfl⟩ := natsV_get hv2
          have cin : c ∈ ss := List.mem_of_getElem? hc
          have cw := st.le cin
          have g6 := bound6 gnd (fun j hj => by obtain ⟨_, _, k⟩ := (gm j).mp hj; exact k.2.1) w5
          have sm5 := same_trans b.1 b5.1
          refine ⟨_, rfl, .inl ⟨rfl, _, SqL.of b5.2⟩, _, rfl, _, rfl, _, rfl, t, (xi, sg), l, wd, c, rfl, hti.mono (InA.mono sm5 d) sm5, xwf, lok, ov, w5, cw, fun f ns H6 s6 hf hst => ?_⟩
          have nl := hst.len
          refine ⟨f, rfl, ⟨_, SqL.of hf⟩, fun D D0 => ?_⟩
          refine lc_list (xs := natsV ns) (PB H6 D (filR ns fun j => !inV (V.int (j : Nat)) (natsV gs))) (PB.start D0 fun _ _ => rfl) (filt_lst hf) (fun k z' H7 hz hP => ?_) (fun H7 hP => ?_)
          · obtain ⟨j, hj, rfl⟩ := natsV_get hz
            obtain ⟨acc, b', r'⟩ := hP
            refine ⟨rfl, _, rfl, _, rfl, z, _, rfl, .inl (SqL.of (b'.1 _ _ (s6 _ _ b5.2))), rfl, flat_nats gs, _, rfl, ?_⟩
            exact filt_step rfl b' r' D0 hj (by unfold sizeLine; omega)
          · have b' := filR_end hP
            have ff : (ns.filter fun j => !inV (V.int (j : Nat)) (natsV gs)).length ≤ ns.length := List.length_filter_le _ _
            refine ⟨z, D, _, _, rfl, rfl, b'.1 _ _ (s6 _ _ b5.2), b'.2, by rw [natsV_len, natsV_len]; unfold sizeLine; omega, ?_⟩
            have mf : ∀ j, j ∈ (ns.filter fun j => !inV (V.int (j : Nat)) (natsV gs)) ↔ j ∈ ns ∧ j ∉ gs := by
              intro j
              rw [List.mem_filter, inV_nat]
              simp
            refine ⟨gs ++ ns.filter (fun j => !inV (V.int (j : Nat)) (natsV gs)), _, _, rfl, ?_, ?_, fun j => ?_⟩
            · rw [natsV_app]
              exact (b5.mid (same_trans s6 b'.1)).put z0 rfl
            · exact List.nodup_append.mpr ⟨gnd, hst.1.filter _, fun a ha c hc e => ((mf c).mp hc).2 (e ▸ ha)⟩
            · rw [List.mem_append, mf, hst.2, gm, List.take_succ, hc]
              constructor
              · rintro (⟨c', m', k'⟩ | ⟨k', _⟩)
                · exact ⟨c', List.mem_append.mpr (.inl m'), k'⟩
                · exact ⟨c, by simp, k'⟩
              · rintro ⟨c', m', k'⟩
                rcases List.mem_append.mp m' with m' | m'
                · exact .inl ⟨c', m', k'⟩
                · have : c' = c := by simpa using m'
                  subst this
                  by_cases hg : ∃ c, c ∈ ss.take m ∧ EM.Sp (EM.sgL (EM.innL l d xi) sg) wd c j
                  · exact .inl hg
                  · exact .inr ⟨k', hg⟩
        · obtain ⟨gs, x8, x9, rfl, b5, gnd, gm⟩ := hK
          refine ⟨_, rfl, z, _, rfl, .inl (SqL.of b5.2), fun u u0 => ?_⟩
          generalize e6 : upd H5 u _ = H6
          obtain ⟨s6, u1, f6⟩ := newE u0 e6
          have bx := (b.mid b5.1).mid s6
          refine ⟨u, gs, _, _, _, _, rfl, bx, ne_of_none (b.mid b5.1).2 u0, u1, gnd, fun j => ?_⟩
          rw [natsV_len, List.take_length] at gm
          rw [gm, List.take_succ, hit, Option.toList_some, sp_row_snoc]
          constructor
          · rintro ⟨c, m, k⟩; exact ⟨c, (st.2 c).mp m, k⟩
          · rintro ⟨c, m, k⟩; exact ⟨c, (st.2 c).mpr m, k⟩
      · obtain ⟨y, ss, x6, x7, x8, x9, rfl, b, nxy, hy, st⟩ := hJ
        have st : StL (EM.rowL (EM.innL l d) row) wd i ss := by
          have e : (refs ts).length = row.length := by rw [refs_len, et.1]
          rw [e, List.take_length] at st
          exact st
        have g6 := bound6 nd (fun j hj => by obtain ⟨_, _, k⟩ := (mem j).mp hj; exact k.2.1) w5
        have nl := st.len
        refine ⟨_, rfl, .inl ⟨rfl, _, SqL.of b.2⟩, _, rfl, y, rfl, ⟨_, SqL.of hy⟩, fun D D0 => ?_⟩
        refine lc_list (xs := natsV ss) (PB H3 D (filR ss fun j => !inV (V.int (j : Nat)) (natsV fs))) (PB.start D0 fun _ _ => rfl) (filt_lst hy) (fun k z' H7 hz hP => ?_) (fun H7 hP => ?_)
        · obtain ⟨j, hj, rfl⟩ := natsV_get hz
          obtain ⟨acc, b', r'⟩ := hP
          refine ⟨rfl, _, rfl, _, rfl, x, _, rfl, .inl (SqL.of (b'.1 _ _ b.2)), rfl, flat_nats fs, _, rfl, ?_⟩
          exact filt_step rfl b' r' D0 hj (by unfold sizeLine; omega)
        · have b' := filR_end hP
          have ff : (ss.filter fun j => !inV (V.int (j : Nat)) (natsV fs)).length ≤ ss.length := List.length_filter_le _ _
          refine ⟨x, D, _, _, rfl, rfl, b'.1 _ _ b.2, b'.2, by rw [natsV_len, natsV_len]; unfold sizeLine; omega, ?_⟩
          have mf : ∀ j, j ∈ (ss.filter fun j => !inV (V.int (j : Nat)) (natsV fs)) ↔ j ∈ ss ∧ j ∉ fs := by
            intro j
            rw [List.mem_filter, inV_nat]
            simp
          refine ⟨fs ++ ss.filter (fun j => !inV (V.int (j : Nat)) (natsV fs)), _, _, _, _, _, _, rfl, ?_, ?_, fun j => ?_⟩
          · rw [natsV_app]
            exact (b.mid b'.1).put x0 rfl
          · exact List.nodup_append.mpr ⟨nd, st.1.filter _, fun a ha c hc e => ((mf c).mp hc).2 (e ▸ ha)⟩
          · rw [List.mem_append, mf, st.2, mem, List.take_succ, hrow]
            constructor
            · rintro (⟨c', m', k'⟩ | ⟨k', _⟩)
              · exact ⟨c', List.mem_append.mpr (.inl m'), k'⟩
              · exact ⟨row, by simp, k'⟩
            · rintro ⟨c', m', k'⟩
              rcases List.mem_append.mp m' with m' | m'
              · exact .inl ⟨c', m', k'⟩
              · have : c' = row := by simpa using m'
                subst this
                by_cases hg : ∃ r, r ∈ pt.take n ∧ EM.Sp (EM.rowL (EM.innL l d) r) wd i j
                · exact .inl hg
                · exact .inr ⟨k', hg⟩
    · obtain ⟨fs, x4, x5, x6, x7, x8, x9, rfl, b, nd, mem⟩ := hI
      refine ⟨_, rfl, q x fs H' b.1 b.2 ⟨nd, fun j => ?_⟩⟩
      have e : (refs rs).length = pt.length := by rw [refs_len, eac.1]
      rw [mem, e, List.take_length, EM.sp_pat]
theorem ok_stops (T : Tx K mg) : ∀ d, Ok P w K mg base (3 * d + 1) (He.ga K "_law_stops") ["_law_pattern_here", "_law_word", "_law_at"] (spStops d) := by
  intro d
  induction d with
  | zero => exact ok_mk T.fn_L_stops sc_L_stops (fun _ _ _ _ _ _ us hl => match us, hl with | [_, _, _], _ => rfl) (fun vs H Q E h => h.elim) (fun cdv A outer s H vs Q E hr h => h.elim)
  | succ d ih => exact ok_stops1 T (ok_item T (ok_plain T ih))
end
end E

set_option autoImplicit true
set_option maxHeartbeats 4000000
set_option Elab.async false
set_option linter.all false
set_option maxRecDepth 100000
set_option maxHeartbeats 4000000
/-! A drawn pattern of at most seven letters and dots. -/
namespace E
open PySem PySem.Spec PyProof.Rows L2
section
variable {P : Program} {w : World} {K : PySem.W.Frag} {mg : Str → Option Value} {base : Heap}
def spSmall : Sp := fun vs H Q _ => ∃ (p : Addr) (n : Nat) (l : List Nat), vs = [.ref p, .str (sOf l)] ∧ LetOk l ∧ l.length ≤ 5 ∧ PoolAt H p n ∧ n + 3000 ≤ 1000000 ∧
      ∀ (f : Addr) (d : Nat) (pt : EM.Pat d) H', d ≤ 2 → EM.PatOk (EM.Wf l d) pt → EM.patN (EM.innN d) pt ≤ 7 → Kp (only p) H H' → PoolAt H' p (n + 3000) → PtA (InA d) (hide (old H) H') f pt → Q (.ref f) H'
theorem ok_small (T : Tx K mg) (hp : ∀ d, Ok P w K mg base (d + 1) (He.ga K "_law_pattern") ["_law_pool_here", "_law_letters_here", "_law_depth"] (spPat d)) (ht : ∀ d, Ok P w K mg base (d + 1) (He.ga K "_law_pattern_text") ["_law_pattern_here"] (spPtx d)) :
    Ok P w K mg base 5 (He.ga K "_law_small_pattern") ["_law_pool_here", "_law_letters_here"] spSmall := by
  obtain ⟨_, F1, b1, k1⟩ := hp 1
  obtain ⟨_, F2, b2, k2⟩ := hp 2
  obtain ⟨_, F3, b3, k3⟩ := hp 3
  obtain ⟨_, G2, c2, l2⟩ := ht 2
  obtain ⟨_, G3, c3, l3⟩ := ht 3
  refine ok_mk T.fn_L_small_pattern sc_L_small_pattern (fun _ _ _ _ _ _ us hl => match us, hl with | [_, _], _ => rfl) (fun vs H Q E h => ?_) (fun cdv A outer s H vs Q E hr h => ?_)
  · obtain ⟨p, n, l, rfl, _⟩ := h
    rfl
  · obtain ⟨p, n, l, rfl, lok, l5, hp, hn, q⟩ := h
    have hr3 := hr.mono (show 3 ≤ 4 by omega)
    have hr2 := hr.mono (show 2 ≤ 4 by omega)
    refine ⟨_, (pss_cons (ps_for PassesOwn.never rfl (pi_tup (pe_tup (pa_cons pe_int (pa_cons pe_int pa_nil)))) (pg_name (i := 2) sc_L_small_pattern.nd rfl (by first | exact Or.inl rfl | exact Or.inr rfl)) (C8.pss_cut (ps_set (i := 3) sc_L_small_pattern.nd rfl (by first | exact Or.inl rfl | exact Or.inr rfl) (PE.or (pe_call F3 hr rfl T.g_L_pattern k3 b3 .nil pass0 (pa_cons (pv 0) (pa_cons (pv 1) (pa_cons (pv 2) pa_nil)))) (pe_call F2 hr3 rfl T.g_L_pattern k2 b2 .nil pass0 (pa_cons (pv 0) (pa_cons (pv 1) (pa_cons (pv 2) pa_nil))))))
      (C8.pss_cut (ps_set (i := 4) sc_L_small_pattern.nd rfl (by first | exact Or.inl rfl | exact Or.inr rfl) (PE.or (pe_call G3 hr rfl T.g_L_pattern_text l3 c3 .nil pass0 (pa_cons (pv 3) pa_nil)) (pe_call G2 hr3 rfl T.g_L_pattern_text l2 c2 .nil pass0 (pa_cons (pv 3) pa_nil))))
      (pss_one (ps_if (PW.pt (pw_and (pt_cmpR op_le (pe_callB call_len_str (by rfl) T.f_len (by decide +kernel) (pa_cons (pv 4) pa_nil)) pe_int (nomark _)) (pw_and1 (pt_cmpR op_lt (pe_callB call_len_seq (by rfl) T.f_len (by decide +kernel) (pa_cons (pe_lc (own := [("_law_sign", 5)]) (g := gName 5)  (by rfl) sc_L_small_pattern.nd (pi_str (pv 4)) (blkOk_by (own := [("_law_sign", 5)]) (N := N_L_small_pattern) (sc := defScope s_L_small_pattern) (by decide +kernel)) (fun _ _ _ _ _ => (pg_name (i := 5) sc_L_small_pattern.nd rfl (Or.inl rfl))) (fun _ _ _ _ _ => pts_one (pt_cmpR op_in_sign (pv 5) (pe_op op_add_str (pv 1) pe_str) rfl)) (fun _ _ _ _ _ => (pv 5))) pa_nil)) pe_int (nomark _))))) (pss_one (ps_ret (pv 3))) pss_nil)))))
      (pss_one (ps_ret (pe_call F1 hr2 rfl T.g_L_pattern k1 b1 .nil pass0 (pa_cons (pv 0) (pa_cons (pv 1) (pa_cons pe_int pa_nil))))))), ?_⟩
    obtain ⟨a0, b0, c0, hp0, hpr⟩ := id hp
    refine ⟨(by show 2 ≤ sizeLine; decide), fun x x0 => ?_⟩
    generalize e1 : upd H x _ = H1
    obtain ⟨s1, x1, f1⟩ := newE x0 e1
    have nxp : x ≠ p := hp.ne x0
    refine ⟨x, rfl, ⟨_, SqT.of x1⟩, ?_⟩
    refine for_tup (xs := [.int 2, .int 1]) (fun i σ H' => ∃ x2 x3 x4 x5, σ = [some (.ref p), some (.str (sOf l)), x2, x3, x4, x5] ∧ Kp (only p) H1 H' ∧ PoolAt H' p (n + i * 1200)) ?_ (fun i σ H' _ hI => ?_) (fun i v σ H' hv hI => ?_) (fun σ H' hI => ?_)
    · exact ⟨_, _, _, _, rfl, Kp.refl _, by simpa using hp.same s1⟩
    · obtain ⟨_, _, _, _, rfl, kp, _⟩ := hI
      exact kp.sqt (SqT.of x1) nxp
    · obtain ⟨x2, x3, x4, x5, rfl, kp, hP⟩ := hI
      have hi : i < 2 := by
        rcases Nat.lt_or_ge i 2 with h | h
        · exact h
        · rw [List.getElem?_eq_none (by simpa using h)] at hv; cases hv
      refine ⟨fun σ' H2 => ∃ d f pt x4 x5, σ' = [some (.ref p), some (.str (sOf l)), some v, some (.ref f), x4, x5] ∧ d ≤ 2 ∧ 1 ≤ d ∧ EM.PatOk (EM.Wf l d) pt ∧ Kp (only p) H' H2 ∧ PoolAt H2 p (n + i * 1200 + 1161) ∧ PtA (InA d) (hide (old H') H2) f pt, ?_, ?_⟩
      · have iv : (i = 0 ∧ v = .int 2) ∨ (i = 1 ∧ v = .int 1) := by
          have : i = 0 ∨ i = 1 := by omega
          rcases this with rfl | rfl
          · simp at hv; exact .inl ⟨rfl, hv.symm⟩
          · simp at hv; exact .inr ⟨rfl, hv.symm⟩
        rcases iv with ⟨e, rfl⟩ | ⟨e, rfl⟩
        · refine .inl ⟨_, rfl, _, rfl, _, rfl, p, n + i * 1200, l, rfl, lok, l5, hP, (by show _ + 1161 ≤ _; omega), fun f pt H2 ok2 k2 P2 A2 => ?_⟩
          exact ⟨2, f, pt, _, _, rfl, by decide, by decide, ok2, k2, P2, A2⟩
        · refine .inr ⟨_, rfl, _, rfl, _, rfl, p, n + i * 1200, l, rfl, lok, l5, hP, (by show _ + 189 ≤ _; omega), fun f pt H2 ok2 k2 P2 A2 => ?_⟩
          exact ⟨1, f, pt, _, _, rfl, by decide, by decide, ok2, k2, P2.mono (by show _ + 189 ≤ _; omega), A2⟩
      · rintro σ' H2 ⟨d, f, pt, x4, x5, rfl, d2, d1, ok2, k2, P2, A2⟩
        have A2' := A2.mono hide_sub
        have tlb := EM.patT_lb ok2
        have tb := tb2 d2
        refine ⟨fun σ' H3 => σ' = [some (.ref p), some (.str (sOf l)), some v, some (.ref f), some (.str (sOf (EM.patT (EM.innT d) pt))), x5] ∧ Same H2 H3, ?_, ?_⟩
        · have dd : d = 1 ∨ d = 2 := by omega
          rcases dd with rfl | rfl
          · exact .inr ⟨_, rfl, f, pt, l, rfl, A2', ok2, d2, fun H3 s3 => ⟨rfl, s3⟩⟩
          · exact .inl ⟨_, rfl, f, pt, l, rfl, A2', ok2, d2, fun H3 s3 => ⟨rfl, s3⟩⟩
        · rintro σ' H3 ⟨rfl, s3⟩
          refine ⟨_, rfl, _, rfl, by rw [sOf_len]; unfold sizeLine; omega, _, _, rfl, rfl, _, rfl, ?_⟩
          have no : ∀ H4, Same H3 H4 → ∃ x2 x3 x4 x5', [some (.ref p), some (.str (sOf l)), some v, some (.ref f), some (.str (sOf (EM.patT (EM.innT d) pt))), x5] = [some (.ref p), some (.str (sOf l)), x2, x3, x4, x5'] ∧ Kp (only p) H1 H4 ∧ PoolAt H4 p (n + (i + 1) * 1200) := fun H4 s4 =>
            ⟨_, _, _, _, rfl, fun b o e nb => s4 _ _ (s3 _ _ (k2 b o (kp b o e nb) nb)), ((P2.same s3).same s4).mono (by omega)⟩
          refine ite2 (fun h60 => ?_) (fun h60 => no H3 (same_refl _))
          refine ⟨_, rfl, _, rfl, fun D D0 => ?_⟩
          refine lc_it (walk_str (z := sOf (EM.patT (EM.innT d) pt))) (PB H3 D fun t acc _ => acc.length = EM.cnt l ((EM.patT (EM.innT d) pt).take t)) (PB.start D0 fun _ _ => rfl) (fun _ _ _ _ => trivial) (fun t z H5 H6 ht hPB hy => ?_) (fun H5 hPB => ?_)
          · obtain ⟨rfl, c, hc, rfl⟩ := hy
            obtain ⟨acc, b, ea⟩ := hPB
            rw [sOf_get] at hc
            rw [sOf_size] at ht
            have ec : EM.cnt l ((EM.patT (EM.innT d) pt).take (t + 1)) = acc.length + (if EM.isL l c = true then 1 else 0) := by
              rw [List.take_succ, hc, EM.cnt_app, ← ea]
              congr 1
              by_cases h : EM.isL l c = true <;> simp [EM.cnt, h]
            have el : decide (c ∈ (sOf (l ++ [46])).cps.toList) = EM.isL l c := by
              rw [sOf_toList]
              unfold EM.isL
              rw [Bool.eq_iff_iff, decide_eq_true_eq, Bool.or_eq_true, decide_eq_true_eq, beq_iff_eq]
              simp
            have al : acc.length < sizeLine := by
              have : acc.length ≤ (EM.patT (EM.innT d) pt).length := by
                rw [ea]
                unfold EM.cnt
                have h1 := List.length_filter_le (EM.isL l) ((EM.patT (EM.innT d) pt).take t)
                rw [List.length_take] at h1; omega
              unfold sizeLine; omega
            refine ⟨rfl, _, rfl, _, rfl, _, _, rfl, rfl, by rw [sOf_len]; show _ + 1 ≤ _; unfold sizeLine; omega, c, sOf (l ++ [46]), rfl, by rw [← sOf_app]; rfl, _, rfl, ?_⟩
            rw [el]
            refine ite2 (fun h => ?_) (fun h => ?_)
            · refine ⟨_, rfl, PB.add b D0 (same_refl _) al fun H7 _ _ => ?_⟩
              show (acc ++ _).length = _
              rw [ec, if_pos h]; simp
            · refine PB.stay b (same_refl _) ?_
              show acc.length = _
              rw [ec, if_neg h]; rfl
          · obtain ⟨acc, b, ea⟩ := hPB
            have ea : acc.length = EM.cnt l ((EM.patT (EM.innT d) pt).take (sOf (EM.patT (EM.innT d) pt)).cps.size) := ea
            rw [sOf_size, List.take_length, EM.cnt_patOk lok.2.2 ok2] at ea
            refine ⟨D, _, rfl, .inl (SqL.of b.2), _, _, rfl, rfl, _, rfl, ?_⟩
            refine ite2 (fun h8 => ?_) (fun h8 => no H5 b.1)
            rw [decide_eq_true_eq] at h8
            have s5 := same_trans s3 b.1
            refine ⟨_, rfl, q f d pt H5 d2 ok2 (by omega) (fun b o e nb => s5 _ _ (k2 b o (kp b o (s1 _ _ e) nb) nb)) ((P2.same s5).mono (by omega)) (A2.mono (hide_same fun b o e nb => ⟨s5 _ _ e, fun ⟨o', e'⟩ => nb ?_⟩))⟩
            by_cases np : b = p
            · obtain ⟨a, b', c, e, _⟩ := hP
              exact ⟨_, np ▸ e⟩
            · exact ⟨o', kp b o' (s1 _ _ e') np⟩
    · obtain ⟨x2, x3, x4, x5, rfl, kp, hP⟩ := hI
      refine ⟨_, rfl, _, rfl, p, n + 2 * 1200, l, rfl, lok, l5, hP, (by show _ + 27 ≤ _; omega), fun f pt H2 ok2 k2 P2 A2 => ?_⟩
      have n0 := EM.patN0 ok2
      refine q f 0 pt H2 (by omega) ok2 (by omega) (fun b o e nb => k2 b o (kp b o (s1 _ _ e) nb) nb) (P2.mono (by show _ + 27 ≤ _; omega)) (A2.mono ?_)
      refine hide_less fun b ⟨o, e⟩ => ?_
      by_cases nb : b = p
      · obtain ⟨a, b', c, e, _⟩ := hP
        exact ⟨_, nb ▸ e⟩
      · exact ⟨o, kp b o (s1 _ _ e) nb⟩
end
end E

set_option autoImplicit true
set_option maxHeartbeats 4000000
set_option Elab.async false
set_option linter.all false
set_option maxRecDepth 100000
set_option maxHeartbeats 4000000
/-! {k: v} with one key that is a tuple. -/
namespace E
open PySem PySem.Spec PyProof.Rows L2
def tDispT1 (tk tv : TE) : TE := fun σ H Q => ∀ p, H p = none → tk σ (upd H p (.dT [])) fun x H1 => tv σ H1 fun y H2 => H2 p = some (.dT []) ∧ ∃ b ks, x = .ref b ∧ H2 b = some (.tup (ks.map kV)) ∧ Q (.ref p) (upd H2 p (.dT [(ks, y)]))
theorem pe_dispT1 {X : Cx} {k v : Expr} {pos : Pos} {tk tv : TE} (hu : X.A.units + 1 < cLine) (hk : PE X k tk) (hv : PE X v tv) : PE X (.Dict [some k] [v] pos) (tDispT1 tk tv) := by
  refine ⟨fun pins s σ H Q I q => ?_⟩
  have hn := I.hok.fresh (Nat.le_refl s.heap.objs.size)
  have I1 := I.laid (a := s.heap.objs.size) (o := .dT []) (h' := s.heap.push { cls := .type "dict", data := .dict #[] }) (t' := s.toks) (fun _ _ q => Heap.get?_push_of_some _ q) (Nat.le_refl _) (dt_empty s.heap I.big)
  have hp : PPs X pos [some k] [v] [(tk, tv)] := pps_cons hk hv pps_nil
  rw [arm_eval_Dict, zip_pairTrees [some k] [v] X.env pos rfl rfl, dictDisplay_pairs (pairTrees [some k] [v] X.env pos) (by rw [← List.length_pos_iff, pairTrees_length _ _ _ _ rfl rfl]; show 0 < 1; decide) (by rw [pairTrees_length _ _ _ _ rfl rfl]; show 1 < 17; decide)]
  refine wpAny_bind (wpAny_standAt (wpAny_bind (wpAny_subDictH (knd := tupleKind (mixKind X.prog X.w)) (by show X.A.units < cLine; omega) (by rw [pairTrees_length _ _ _ _ rfl rfl]; show 1 ≤ 15; decide) ?_)))
  have q := q _ hn
  refine thn (hp.run pins _ σ _ (fun ps H2 => match ps with
    | [(x, y)] => H2 s.heap.objs.size = some (.dT []) ∧ ∃ b ks, x = .ref b ∧ H2 b = some (.tup (ks.map kV)) ∧ Q (.ref s.heap.objs.size) (upd H2 s.heap.objs.size (.dT [(ks, y)]))
    | _ => False) I1 q) fun ws s2 hw => ?_
  obtain ⟨ps, H2, I2, rel, hm⟩ := hw
  match ps, rel, hm with
  | [(x, y)], rel, ⟨e, b, ks, ex, hb, q2⟩ =>
    subst ex
    cases rel with
    | @cons _ u _ us hd tl =>
      cases tl
      obtain ⟨u1, r⟩ := u
      obtain ⟨ru, rr⟩ := hd
      have ru : u1 = Value.ref b := ru
      subst ru
      obtain ⟨z, hsys, xs, kt, dd⟩ := dt_of I2.hok e
      cases kt
      refine ⟨[(ks, b, r)], ⟨rfl, rfl, key_of I2.hok hb, trivial⟩, dd, fun h' tk dd' hs => wpAny_pure ⟨.ref s.heap.objs.size, _, ?_, rfl, q2⟩⟩
      obtain ⟨g, es, ep, hq, k2, k3, k4, k5, k6⟩ := dd'
      have kt2 : KT H2 [(ks, y)] (storedAllH [] [(ks, b, r)]) := KT.put (H := H2) (kvs := []) (xs := []) .nil ks hb rr
      refine d_write I2 (by rw [e]; exact True.intro) hs ⟨g, hq⟩ ⟨by show 1 ≤ sizeLine; decide, hsys, _, kt2.keeps fun c ys ec => ?_, g, es, ep, hq, k2, k3, k4, k6⟩
      rw [upd_ne (ne_of ec e (fun z => nomatch z))]
      exact ec
end E

set_option autoImplicit true
set_option maxHeartbeats 4000000
set_option Elab.async false
set_option linter.all false
set_option maxRecDepth 100000
set_option maxHeartbeats 4000000
/-! Numbers, lists, orders. -/
namespace E
open PySem PySem.Spec PyProof.Rows L2
/-- the code of a sign -/
def sg1 (c : Nat) : Str := sOf [c]
theorem all_lower : ∀ c : Nat, c ∈ (("abcdefghijklmnopqrstuvwxyz" : Str).cps.toList) ↔ 97 ≤ c ∧ c ≤ 122 := by
  intro c
  have e : ("abcdefghijklmnopqrstuvwxyz" : Str).cps.toList = (List.range 26).map (· + 97) := by decide +kernel
  rw [e, List.mem_map]
  constructor
  · rintro ⟨a, m, rfl⟩; rw [List.mem_range] at m; omega
  · intro h; exact ⟨c - 97, List.mem_range.mpr (by omega), by omega⟩
/-- ranks of letters -/
def RkAt (H : Hp) (a : Addr) (l : List Nat) : Prop := ∃ kvs : List (Key × V), H a = some (.dK kvs) ∧ ∀ c, valV kvs (.inr (sOf [c])) = if c ∈ l then some (.int (l.idxOf c : Nat)) else none
/-- an order of letters -/
def OrAt (K : PySem.W.Frag) (H : Hp) (o : Addr) (l : List Nat) : Prop := ∃ dx rk, H o = some (.ins (He.ga K "Order") dx [("letters", .str (sOf l)), ("ranks", .ref rk)]) ∧ RkAt H rk l
theorem RkAt.mono {H H' : Hp} {a : Addr} {l : List Nat} (s : Same H H') (h : RkAt H a l) : RkAt H' a l := by
  obtain ⟨kvs, h1, h2⟩ := h
  exact ⟨kvs, s _ _ h1, h2⟩
theorem OrAt.mono {K : PySem.W.Frag} {H H' : Hp} {o : Addr} {l : List Nat} (s : Same H H') (h : OrAt K H o l) : OrAt K H' o l := by
  obtain ⟨dx, rk, h1, h2⟩ := h
  exact ⟨dx, rk, s _ _ h1, h2.mono s⟩
section
variable {P : Program} {w : World} {K : PySem.W.Frag} {mg : Str → Option Value} {base : Heap}
def spNum : Sp := fun vs H Q _ => ∃ i : Nat, vs = [.int i] ∧ Q (.bl true) H
theorem ok_num (T : Tx K mg) : Ok P w K mg base 1 (He.ga K "is_number") ["thing"] spNum := by
  refine ok_mk T.fn_is_number sc_is_number (fun _ _ _ _ _ _ us hl => match us, hl with | [_], _ => rfl) (fun vs H Q E h => ?_) (fun cdv A outer s H vs Q E hr h => ?_)
  · obtain ⟨i, rfl, _⟩ := h
    rfl
  · obtain ⟨i, rfl, q⟩ := h
    refine ⟨_, (pss_one (ps_ret (pe_and (pe_callB call_isi (by rfl) T.f_isinstance (by decide +kernel) (pa_cons (pv 0) (pa_cons (pe_bltn (v := .ty "int") (by rfl) T.f_int (by decide +kernel) rfl) pa_nil))) (pe_and (pe_not (pe_callB call_isi (by rfl) T.f_isinstance (by decide +kernel) (pa_cons (pv 0) (pa_cons (pe_bltn (v := .ty "bool") (by rfl) T.f_bool (by decide +kernel) rfl) pa_nil)))) (pe_one (pe_cmpR op_ge (pv 0) pe_int (nomark _))))))), ?_⟩
    refine ⟨_, rfl, _, _, _, _, _, rfl, .ty "int", .base (.int _), kit_ty (r := true) (by decide +kernel), _, rfl, ?_⟩
    refine iteT ?_
    refine ⟨_, rfl, _, _, _, _, _, rfl, .ty "bool", .base (.int _), kit_ty (r := false) (by decide +kernel), _, rfl, _, rfl, ?_⟩
    refine iteT ?_
    refine ⟨_, rfl, _, _, rfl, rfl, ?_⟩
    have : decide ((0 : Int) ≤ (i : Int)) = true := by rw [decide_eq_true_eq]; omega
    show Q (V.bl (decide ((0 : Int) ≤ (i : Int)))) H
    rw [this]
    exact q
def spList : Sp := fun vs H Q _ => ∃ (a : Addr) (xs : List V), vs = [.ref a] ∧ (H a = some (.lst xs) ∨ H a = some (.tup xs)) ∧ ∀ H', Same H H' → Q (.bl true) H'
theorem ok_list (T : Tx K mg) : Ok P w K mg base 1 (He.ga K "is_list") ["thing"] spList := by
  refine ok_mk T.fn_is_list sc_is_list (fun _ _ _ _ _ _ us hl => match us, hl with | [_], _ => rfl) (fun vs H Q E h => ?_) (fun cdv A outer s H vs Q E hr h => ?_)
  · obtain ⟨a, xs, rfl, _⟩ := h
    rfl
  · obtain ⟨a, xs, rfl, ha, q⟩ := h
    refine ⟨_, (pss_one (ps_ret (pe_callB call_isiT (by rfl) T.f_isinstance (by decide +kernel) (pa_cons (pv 0) (pa_cons (pe_tup (pa_cons (pe_bltn (v := .ty "list") (by rfl) T.f_list (by decide +kernel) rfl) (pa_cons (pe_bltn (v := .ty "tuple") (by rfl) T.f_tuple (by decide +kernel) rfl) pa_nil))) pa_nil))))), ?_⟩
    refine ⟨_, rfl, (by show 2 ≤ sizeLine; decide), fun t t0 => ?_⟩
    generalize e1 : upd H t _ = H1
    obtain ⟨s1, t1, f1⟩ := newE t0 e1
    rcases ha with ha | ha
    · exact ⟨_, t, _, _, _, _, rfl, t1, .cons (.ty "list") (.cons (.ty "tuple") .nil), .base (.lst (s1 _ _ ha)), kitAny_cons (kit_ty (r := true) (by decide +kernel)) (fun z => nomatch z) (fun _ => rfl), q H1 s1⟩
    · exact ⟨_, t, _, _, _, _, rfl, t1, .cons (.ty "list") (.cons (.ty "tuple") .nil), .base (.tup (s1 _ _ ha)), kitAny_cons (kit_ty (r := false) (by decide +kernel)) (fun _ => kitAny_cons (kit_ty (r := true) (by decide +kernel)) (fun z => nomatch z) (fun _ => rfl)) (fun z => nomatch z), q H1 s1⟩
/-- a list of Trues -/
def trueR : Nat → List V → Hp → Prop := fun i acc _ => acc = (List.replicate i true).map V.bl
def spLets : Sp := fun vs H Q _ => ∃ l : List Nat, vs = [.str (sOf l)] ∧ LetOk l ∧ l.length ≤ 100 ∧ ∀ H', Same H H' → Q (.bl true) H'
theorem ok_lets (T : Tx K mg) : Ok P w K mg base 1 (He.ga K "are_letters") ["thing"] spLets := by
  obtain ⟨tk, mSIGNS⟩ := T.str_SIGNS
  refine ok_mk T.fn_are_letters sc_are_letters (fun _ _ _ _ _ _ us hl => match us, hl with | [_], _ => rfl) (fun vs H Q E h => ?_) (fun cdv A outer s H vs Q E hr h => ?_)
  · obtain ⟨l, rfl, _⟩ := h
    rfl
  · obtain ⟨l, rfl, lok, l100, q⟩ := h
    refine ⟨_, (pss_cons (ps_if (PW.pt (pw_or (pt_not (pt_val (pe_callB call_isi (by rfl) T.f_isinstance (by decide +kernel) (pa_cons (pv 0) (pa_cons (pe_bltn (v := .ty "str") (by rfl) T.f_str (by decide +kernel) rfl) pa_nil))))) (pw_or (pt_cmpR op_eq (pv 0) pe_str (nomark _)) (pw_or1 (pt_not (pt_val (pe_callB (cr_all (by rfl)) (by rfl) T.f_all (by decide +kernel) (pa_cons (pe_lc (own := [("sign", 1)]) (g := gName 1) (tt := tYes) (by rfl) sc_are_letters.nd (pi_str (pv 0)) (blkOk_by (own := [("sign", 1)]) (N := N_are_letters) (sc := defScope s_are_letters) (by decide +kernel)) (fun _ _ _ _ _ => (pg_name (i := 1) sc_are_letters.nd rfl (Or.inl rfl))) (fun _ _ _ _ _ => pts_nil) (fun _ _ _ _ _ => (pe_cmpR op_in_sign (pv 1) (pe_glob (v := .str "abcdefghijklmnopqrstuvwxyz") (by rfl) mSIGNS ⟨_, rfl⟩) rfl))) pa_nil)))))))) (pss_one (ps_ret pe_bl)) pss_nil)
      (pss_one (ps_ret (pe_cmpR op_eq (pe_callB cr_lenSet (by rfl) T.f_len (by decide +kernel) (pa_cons (pe_callTy (cr_setText (by rfl)) (by rfl) T.f_set (by decide +kernel) (pa_cons (pv 0) pa_nil)) pa_nil)) (pe_callB call_len_str (by rfl) T.f_len (by decide +kernel) (pa_cons (pv 0) pa_nil)) (nomark _))))), ?_⟩
    refine ⟨_, rfl, _, _, _, _, _, rfl, .ty "str", .base (.str _), kit_ty (r := true) (by decide +kernel), _, rfl, ?_⟩
    refine iteF ?_
    refine ⟨_, rfl, rfl, _, rfl, ?_⟩
    refine ite2 (fun h => ?_) (fun _ => ?_)
    · exfalso
      rw [decide_eq_true_eq] at h
      injection h with h
      have := sOf_inj (show sOf l = sOf [] from h)
      have := lok.2.1
      simp_all
    · refine ⟨_, rfl, _, rfl, fun D D0 => ?_⟩
      refine lc_it (walk_str (z := sOf l)) (PB H D trueR) (PB.start D0 fun _ _ => rfl) (fun _ _ _ _ => trivial) (fun t z H5 H6 ht hPB hy => ?_) (fun H5 hPB => ?_)
      · obtain ⟨rfl, c, hc, rfl⟩ := hy
        obtain ⟨acc, b, ea⟩ := hPB
        rw [sOf_get] at hc
        rw [sOf_size] at ht
        have ea : acc = (List.replicate t true).map V.bl := ea
        subst ea
        refine ⟨rfl, ?_⟩
        refine yesI ?_
        refine ⟨_, rfl, c, _, rfl, rfl, PB.add b D0 (same_refl _) (by simp; unfold sizeLine; omega) fun H7 _ _ => ?_⟩
        have cl := lok.2.2 c (List.mem_of_getElem? hc)
        have : decide (c ∈ (("abcdefghijklmnopqrstuvwxyz" : Str).cps.toList)) = true := by rw [decide_eq_true_eq, all_lower]; exact cl
        rw [this]
        show _ = (List.replicate (t + 1) true).map V.bl
        rw [List.replicate_succ', List.map_append]; rfl
      · obtain ⟨acc, b, ea⟩ := hPB
        have ea : acc = (List.replicate (sOf l).cps.size true).map V.bl := ea
        subst ea
        refine ⟨D, _, rfl, SqL.of b.2, _, rfl, ?_⟩
        have : (List.replicate (sOf l).cps.size true).all id = true := by simp
        rw [this]
        refine iteF ?_
        refine ⟨_, rfl, l, rfl, lok.1, l100, fun u u0 => ?_⟩
        generalize e6 : upd H5 u _ = H6
        obtain ⟨s6, u1, f6⟩ := newE u0 e6
        refine ⟨u, _, rfl, .inr u1, _, rfl, _, rfl, by rw [sOf_len]; unfold sizeLine; omega, rfl, ?_⟩
        rw [sOf_len, decide_eq_true rfl]
        exact q H6 (same_trans b.1 s6)
def spHas (K : PySem.W.Frag) : Sp := fun vs H Q _ => ∃ (o : Addr) (l : List Nat) (c : Nat), vs = [.ref o, .str (sOf [c])] ∧ OrAt K H o l ∧ Q (.bl (decide (c ∈ l))) H
theorem ok_has (T : Tx K mg) : Ok P w K mg base 1 (He.ma K (He.ga K "Order") "__contains__") ["self", "thing"] (spHas K) := by
  refine ok_mk T.fn_Order_contains sc_Order_contains (fun _ _ _ _ _ _ us hl => match us, hl with | [_, _], _ => rfl) (fun vs H Q E h => ?_) (fun cdv A outer s H vs Q E hr h => ?_)
  · obtain ⟨o, l, c, rfl, _⟩ := h
    rfl
  · obtain ⟨o, l, c, rfl, ⟨dx, rk, ho, kvs, hk, hv⟩, q⟩ := h
    have hu := hu_of hr
    refine ⟨_, (pss_one (ps_ret (pe_and (pe_callB call_isi (by rfl) T.f_isinstance (by decide +kernel) (pa_cons (pv 1) (pa_cons (pe_bltn (v := .ty "str") (by rfl) T.f_str (by decide +kernel) rfl) pa_nil))) (pe_one (pe_cmp (pc_din hu (pv 1) (pe_fld (pv 0) rfl)) rfl))))), ?_⟩
    refine ⟨_, rfl, _, _, _, _, _, rfl, .ty "str", .base (.str _), kit_ty (r := true) (by decide +kernel), _, rfl, ?_⟩
    refine iteT ?_
    refine ⟨_, rfl, _, rfl, o, _, dx, _, _, rfl, ho, T.c_Order, T.n_Order_ranks, rfl, rk, _, rfl, DGet.k (k := .inr (sOf [c])) hk, ?_⟩
    rw [hv c]
    by_cases h : c ∈ l
    · rw [if_pos h]
      rw [decide_eq_true h] at q
      exact q
    · rw [if_neg h]
      rw [decide_eq_false h] at q
      exact q
def spIsW (K : PySem.W.Frag) : Sp := fun vs H Q _ => ∃ (o : Addr) (l u : List Nat), vs = [.ref o, .str (sOf u)] ∧ OrAt K H o l ∧ EM.Over l u ∧ u.length ≤ 100 ∧ ∀ H', Same H H' → Q (.bl true) H'
theorem ok_isw (T : Tx K mg) : Ok P w K mg base 1 (He.ma K (He.ga K "Order") "is_word") ["self", "thing"] (spIsW K) := by
  refine ok_mk T.fn_Order_is_word sc_Order_is_word (fun _ _ _ _ _ _ us hl => match us, hl with | [_, _], _ => rfl) (fun vs H Q E h => ?_) (fun cdv A outer s H vs Q E hr h => ?_)
  · obtain ⟨o, l, u, rfl, _⟩ := h
    rfl
  · obtain ⟨o, l, u, rfl, ⟨dx, rk, ho, kvs, hk, hv⟩, ov, l100, q⟩ := h
    have hu := hu_of hr
    refine ⟨_, (pss_one (ps_ret (pe_and (pe_callB call_isi (by rfl) T.f_isinstance (by decide +kernel) (pa_cons (pv 1) (pa_cons (pe_bltn (v := .ty "str") (by rfl) T.f_str (by decide +kernel) rfl) pa_nil))) (pe_one (pe_callB (cr_all (by rfl)) (by rfl) T.f_all (by decide +kernel) (pa_cons (pe_lc (own := [("sign", 2)]) (g := gName 2) (tt := tYes) (by rfl) sc_Order_is_word.nd (pi_str (pv 1)) (blkOk_by (own := [("sign", 2)]) (N := N_Order_is_word) (sc := defScope s_Order_is_word) (by decide +kernel)) (fun _ _ _ _ _ => (pg_name (i := 2) sc_Order_is_word.nd rfl (Or.inl rfl))) (fun _ _ _ _ _ => pts_nil) (fun _ _ _ _ _ => (pe_cmp (pc_din hu (pv 2) (pe_fldK rfl (pv 0) rfl)) rfl))) pa_nil)))))), ?_⟩
    refine ⟨_, rfl, _, _, _, _, _, rfl, .ty "str", .base (.str _), kit_ty (r := true) (by decide +kernel), _, rfl, ?_⟩
    refine iteT ?_
    refine ⟨_, rfl, _, rfl, fun D D0 => ?_⟩
    refine lc_it (walk_str (z := sOf u)) (PB H D trueR) (PB.start D0 fun _ _ => rfl) (fun _ _ _ _ => trivial) (fun t z H5 H6 ht hPB hy => ?_) (fun H5 hPB => ?_)
    · obtain ⟨rfl, c, hc, rfl⟩ := hy
      obtain ⟨acc, b, ea⟩ := hPB
      rw [sOf_get] at hc
      rw [sOf_size] at ht
      have ea : acc = (List.replicate t true).map V.bl := ea
      subst ea
      refine ⟨rfl, ?_⟩
      refine yesI ?_
      refine ⟨_, rfl, _, rfl, o, _, dx, _, _, rfl, b.1 _ _ ho, T.c_Order, T.n_Order_ranks, rfl, rk, _, rfl, DGet.k (k := .inr (sOf [c])) (b.1 _ _ hk), ?_⟩
      refine PB.add b D0 (same_refl _) (by simp; unfold sizeLine; omega) fun H7 _ _ => ?_
      rw [hv c, if_pos (ov c (List.mem_of_getElem? hc))]
      show _ = (List.replicate (t + 1) true).map V.bl
      rw [List.replicate_succ', List.map_append]; rfl
    · obtain ⟨acc, b, ea⟩ := hPB
      have ea : acc = (List.replicate (sOf u).cps.size true).map V.bl := ea
      subst ea
      refine ⟨D, _, rfl, SqL.of b.2, ?_⟩
      have : (List.replicate (sOf u).cps.size true).all id = true := by simp
      rw [this]
      exact q H5 b.1
def spEq (K : PySem.W.Frag) : Sp := fun vs H Q _ => ∃ (o o' : Addr) (l : List Nat), vs = [.ref o, .ref o'] ∧ OrAt K H o l ∧ OrAt K H o' l ∧ Q (.bl true) H
theorem ok_eq (T : Tx K mg) : Ok P w K mg base 1 (He.ma K (He.ga K "Order") "__eq__") ["self", "other"] (spEq K) := by
  refine ok_mk T.fn_Order_eq sc_Order_eq (fun _ _ _ _ _ _ us hl => match us, hl with | [_, _], _ => rfl) (fun vs H Q E h => ?_) (fun cdv A outer s H vs Q E hr h => ?_)
  · obtain ⟨o, o', l, rfl, _⟩ := h
    rfl
  · obtain ⟨o, o', l, rfl, ⟨dx, rk, ho, _⟩, ⟨dx', rk', ho', _⟩, q⟩ := h
    refine ⟨_, (pss_one (ps_ret (pe_and (pe_callB (C8.call_isC T.all.1) (by rfl) T.f_isinstance (by decide +kernel) (pa_cons (pv 1) (pa_cons (pe_glob (v := .ref (He.ga K "Order")) (by rfl) T.g_Order rfl) pa_nil))) (pe_one (pe_cmpR op_eq (pe_fld (pv 0) rfl) (pe_fld (pv 1) rfl) (nomark _)))))), ?_⟩
    refine ⟨_, rfl, o', dx', _, rfl, ho', _, rfl, ?_⟩
    refine iteT ?_
    refine ⟨_, rfl, o, _, dx, _, _, rfl, ho, T.c_Order, T.n_Order_letters, rfl, _, rfl, o', _, dx', _, _, rfl, ho', T.c_Order, T.n_Order_letters, rfl, rfl, ?_⟩
    rw [decide_eq_true rfl]
    exact q
def spLane (K : PySem.W.Frag) : Sp := fun vs H Q _ => ∃ (o t : Addr) (l : List Nat) (a c b : Nat), vs = [.ref o, .ref t] ∧ OrAt K H o l ∧ H t = some (.tup [.int a, .str (sOf [c]), .int b]) ∧ c ∈ l ∧ ∀ H', Same H H' → Q (.bl true) H'
theorem ok_lane (T : Tx K mg) (hn : Ok P w K mg base 1 (He.ga K "is_number") ["thing"] spNum) (hl : Ok P w K mg base 1 (He.ga K "is_list") ["thing"] spList)
    (hh : Ok P w K mg base 1 (He.ma K (He.ga K "Order") "__contains__") ["self", "thing"] (spHas K)) : Ok P w K mg base 2 (He.ga K "is_lane") ["order", "thing"] (spLane K) := by
  obtain ⟨_, F_is_number, b_is_number, k_is_number⟩ := hn
  obtain ⟨_, F_is_list, b_is_list, k_is_list⟩ := hl
  obtain ⟨_, F_Order_contains, b_Order_contains, _⟩ := hh
  refine ok_mk T.fn_is_lane sc_is_lane (fun _ _ _ _ _ _ us hl => match us, hl with | [_, _], _ => rfl) (fun vs H Q E h => ?_) (fun cdv A outer s H vs Q E hr h => ?_)
  · obtain ⟨o, t, l, a, c, b, rfl, _⟩ := h
    rfl
  · obtain ⟨o, t, l, a, c, b, rfl, ho, ht, hc, q⟩ := h
    refine ⟨_, (pss_one (ps_ret (pe_and (pe_call F_is_list hr rfl T.g_is_list k_is_list b_is_list .nil pass0 (pa_cons (pv 1) pa_nil)) (pe_and (pe_cmpR op_eq (pe_callB call_len_seq (by rfl) T.f_len (by decide +kernel) (pa_cons (pv 1) pa_nil)) pe_int (nomark _)) (pe_and (pe_call F_is_number hr rfl T.g_is_number k_is_number b_is_number .nil pass0 (pa_cons (pe_ix ix_tup (pv 1) pe_int (fun _ _ => rfl)) pa_nil)) (pe_and (pe_cmpR (op_inOwn T.m_Order_contains F_Order_contains hr b_Order_contains) (pe_ix ix_tup (pv 1) pe_int (fun _ _ => rfl)) (pv 0) rfl) (pe_one (pe_call F_is_number hr rfl T.g_is_number k_is_number b_is_number .nil pass0 (pa_cons (pe_ix ix_tup (pv 1) pe_int (fun _ _ => rfl)) pa_nil))))))))), ?_⟩
    refine ⟨_, rfl, t, _, rfl, .inr ht, fun H1 s1 => ⟨_, rfl, ?_⟩⟩
    have ht1 := s1 _ _ ht
    have ho1 := ho.mono s1
    refine iteT ?_
    refine ⟨_, rfl, t, _, rfl, .inr (SqT.of ht1), rfl, _, rfl, ?_⟩
    rw [decide_eq_true (by rfl)]
    refine iteT ?_
    refine ⟨_, rfl, t, _, 0, _, rfl, rfl, SqT.of ht1, rfl, a, rfl, _, rfl, ?_⟩
    refine iteT ?_
    obtain ⟨dx, rk, hi, hk⟩ := id ho1
    refine ⟨_, rfl, t, _, 1, _, rfl, rfl, SqT.of ht1, rfl, _, rfl, o, dx, _, rfl, hi, o, l, c, rfl, ho1, _, rfl, _, rfl, ?_⟩
    rw [decide_eq_true hc]
    refine iteT ?_
    exact ⟨_, rfl, t, _, 2, _, rfl, rfl, SqT.of ht1, rfl, b, rfl, q H1 s1⟩
end
end E

set_option autoImplicit true
set_option maxHeartbeats 4000000
set_option Elab.async false
set_option linter.all false
set_option maxRecDepth 100000
set_option maxHeartbeats 4000000
/-! An order's making. -/
namespace E
open PySem PySem.Spec PyProof.Rows L2
/-! ### a dict that is being made at D -/
def Dl (H0 : Hp) (D : Addr) (H : Hp) (kvs : List (Key × V)) : Prop := Same H0 H ∧ H D = some (.dK kvs)
def PD (H1 : Hp) (D : Addr) (R : Nat → List (Key × V) → Prop) (i : Nat) (H : Hp) : Prop := ∃ kvs, Dl H1 D H kvs ∧ R i kvs
section
variable {H0 H H' H1 H4 : Hp} {D : Addr} {kvs : List (Key × V)} {R : Nat → List (Key × V) → Prop} {i : Nat}
theorem Dl.mid (b : Dl H0 D H kvs) (s : Same H H') : Dl H0 D H' kvs := ⟨fun a o e => s a o (b.1 a o e), s D _ b.2⟩
theorem PD.start (h : H1 D = none) (r : R 0 []) : PD H1 D R 0 (upd H1 D (.dK [])) := ⟨[], ⟨Same.up h, upd_same⟩, r⟩
theorem PD.add {k : Key} {v : V} (b : Dl H1 D H kvs) (h : H1 D = none) (s : Same H H4) (l : kvs.length < sizeLine) (r : R (i + 1) (putK kvs k v)) : ∃ kvs' k', kV k = kV k' ∧ H4 D = some (.dK kvs') ∧ kvs'.length < sizeLine ∧ PD H1 D R (i + 1) (upd H4 D (.dK (putK kvs' k' v))) :=
  have b4 := b.mid s
  ⟨kvs, k, rfl, b4.2, l, putK kvs k v, ⟨fun a o e => by rw [upd_ne (ne_of_none e h)]; exact b4.1 a o e, upd_same⟩, r⟩
end
theorem putK_len {κ : Type} [DecidableEq κ] (kvs : List (κ × V)) (k : κ) (v : V) : (putK kvs k v).length ≤ kvs.length + 1 := by
  unfold putK
  split <;> simp
section
variable {P : Program} {w : World} {K : PySem.W.Frag} {mg : Str → Option Value} {base : Heap}
def rkR (l : List Nat) : Nat → List (Key × V) → Prop := fun i kvs => kvs.length ≤ i ∧ ∀ c, valV kvs (.inr (sOf [c])) = if c ∈ l.take i then some (.int (l.idxOf c : Nat)) else none
def spOrd (K : PySem.W.Frag) : Sp := fun vs H Q _ => ∃ (x dx : Addr) (l : List Nat), vs = [.ref x, .str (sOf l)] ∧ H x = some (.ins (He.ga K "Order") dx []) ∧ LetOk l ∧ l.length ≤ 100 ∧ ∀ H', Kp (only x) H H' → OrAt K H' x l → Q .non H'
theorem ok_ord (T : Tx K mg) (hl : Ok P w K mg base 1 (He.ga K "are_letters") ["thing"] spLets) : Ok P w K mg base 2 (He.ma K (He.ga K "Order") "__init__") ["self", "letters"] (spOrd K) := by
  obtain ⟨_, F_are_letters, b_are_letters, k_are_letters⟩ := hl
  refine ok_mk T.fn_Order_init sc_Order_init (fun _ _ _ _ _ _ us hl => match us, hl with | [_, _], _ => rfl) (fun vs H Q E h => ?_) (fun cdv A outer s H vs Q E hr h => ?_)
  · obtain ⟨x, dx, l, rfl, _⟩ := h
    rfl
  · obtain ⟨x, dx, l, rfl, hx, lok, l100, q⟩ := h
    refine ⟨_, (pss_cons (ps_if (pt_not (pt_val (pe_call F_are_letters hr rfl T.g_are_letters k_are_letters b_are_letters .nil pass0 (pa_cons (pv 1) pa_nil)))) (pss_one ps_never) pss_nil)
      (pss_cons (ps_fld (pv 0) (pv 1) rfl)
      (pss_one (ps_fld (pv 0) (pe_dc (own := [("at", 2), ("letter", 3)])  (tt := tYes) (by rfl) sc_Order_init.nd (pi_enumA (by rfl) T.f_enumerate (pa_cons (pv 1) pa_nil)) (blkOk_by (own := [("at", 2), ("letter", 3)]) (N := N_Order_init) (sc := defScope s_Order_init) (by decide +kernel)) (fun _ _ _ _ _ => (pg_tupK (n := 2) rfl (by rfl) (pgs_cons (pg_name (i := 2) sc_Order_init.nd rfl (Or.inl rfl)) (pgs_cons (pg_name (i := 3) sc_Order_init.nd rfl (Or.inl rfl)) pgs_nil)))) (fun _ _ _ _ _ => pts_nil) (fun _ _ _ _ _ => (pv 3)) (fun _ _ _ _ _ => (pv 2))) rfl)))), ?_⟩
    refine ⟨_, rfl, l, rfl, lok, l100, fun H1 s1 => ⟨_, rfl, iteF ?_⟩⟩
    have hx1 := s1 _ _ hx
    refine ⟨_, rfl, _, rfl, x, _, dx, _, rfl, hx1, T.c_Order, T.n_Order_letters, by decide, ?_⟩
    generalize e2 : upd H1 x _ = H2
    obtain ⟨x2, f2⟩ := putE e2
    refine ⟨_, rfl, .inr (.inr ⟨l, rfl, fun D D0 => ?_⟩)⟩
    refine dc_it walk_pairs (PD H2 D (rkR l)) (PD.start D0 ⟨by simp, fun c => by simp [valV_nil]⟩) (fun _ _ _ _ => trivial) (fun t z H5 H6 ht hPD hy => ?_) (fun H5 hPD => ?_)
    · obtain ⟨Tp, a, b, rfl, T0, rfl, rfl, hb⟩ := hy
      obtain ⟨kvs, bl, kl, kr⟩ := hPD
      obtain ⟨c, hc, rfl⟩ : ∃ c, l[t]? = some c ∧ b = .str (sOf [c]) := by
        unfold signsV at hb
        rw [List.getElem?_map, Option.map_eq_some_iff] at hb
        obtain ⟨c, h1, h2⟩ := hb
        exact ⟨c, h1, h2.symm⟩
      refine ⟨Tp, _, rfl, SqT.of upd_same, rfl, _, _, rfl, _, _, rfl, rfl, rfl, ?_⟩
      refine yesI ?_
      refine ⟨_, rfl, _, rfl, ?_⟩
      refine PD.add (k := .inr (sOf [c])) bl D0 (Same.up T0) (by unfold sizeLine; omega) ⟨Nat.le_trans (putK_len _ _ _) (by omega), fun c' => ?_⟩
      rw [valV_put, List.take_succ, hc]
      by_cases e : c' = c
      · subst e
        rw [if_pos rfl, if_pos (by simp)]
        have : l.idxOf c' = t := by
          have h1 : l.idxOf c' < l.length := List.idxOf_lt_length_of_mem (List.mem_of_getElem? hc)
          have h2 : l[l.idxOf c']? = some c' := by rw [List.getElem?_eq_getElem h1, List.getElem_idxOf h1]
          exact (List.getElem?_inj h1 lok.1).mp (h2.trans hc.symm)
        rw [this]
      · have ne : ¬ (Sum.inr (sOf [c']) : Key) = .inr (sOf [c]) := fun h => e (by injection h with h; have := sOf_inj h; simpa using this)
        rw [if_neg ne, kr]
        have : c' ∈ l.take t ++ (some c).toList ↔ c' ∈ l.take t := by simp [e]
        by_cases m : c' ∈ l.take t
        · rw [if_pos m, if_pos (this.mpr m)]
        · rw [if_neg m, if_neg fun z => m (this.mp z)]
    · obtain ⟨kvs, bl, kl, kr⟩ := hPD
      rw [List.take_length] at kr
      refine ⟨_, rfl, x, _, dx, _, rfl, bl.1 _ _ x2, T.c_Order, T.n_Order_ranks, by show 1 < 1000; decide, ?_⟩
      generalize e6 : upd H5 x _ = H6
      obtain ⟨x6, f6⟩ := putE e6
      refine q H6 (fun b o e n => (f6 b n).trans (bl.1 _ _ ((f2 b n).trans (s1 _ _ e)))) ⟨dx, D, x6, kvs, (f6 D ?_).trans bl.2, kr⟩
      exact fun z => ne_of_none x2 D0 z.symm
end
end E

set_option autoImplicit true
set_option maxHeartbeats 4000000
set_option Elab.async false
set_option linter.all false
set_option maxRecDepth 100000
set_option maxHeartbeats 4000000
/-! The reader of patterns. -/
namespace E
open PySem PySem.Spec PyProof.Rows L2
/-! ### trees in the heap -/
def atC (l : List Nat) : EM.Atom → List Nat
  | .sym c => [c]
  | .dot => l
section
variable {α : Type} (R : Hp → V → α → Prop)
def ItT (H : Hp) (v : V) (x : α × EM.Sg) : Prop := (x.2 = .one ∧ R H v x.1) ∨ ∃ t u, v = .ref t ∧ ((x.2 = .star ∧ H t = some (.tup [.str "*", u])) ∨ (x.2 = .opt ∧ H t = some (.tup [.str "?", u]))) ∧ R H u x.1
def RwT (H : Hp) (v : V) (row : List (α × EM.Sg)) : Prop := ∃ t g vs, v = .ref t ∧ H t = some (.tup [.str "row", .ref g]) ∧ H g = some (.lst vs) ∧ Each (ItT R H) vs row
def RsT (H : Hp) (v : V) (p : List (List (α × EM.Sg))) : Prop := ∃ t g vs, v = .ref t ∧ H t = some (.tup [.str "rows", .ref g]) ∧ H g = some (.lst vs) ∧ Each (RwT R H) vs p
end
def AtT (l : List Nat) (H : Hp) (v : V) (x : EM.Atom) : Prop := ∃ t, v = .ref t ∧ H t = some (.tup [.str "letter", .str (sOf (atC l x))])
def TrT (l : List Nat) : (n : Nat) → Hp → V → EM.Inner n → Prop
  | 0, H, v, x => AtT l H v x
  | _ + 1, H, v, .inl x => AtT l H v x
  | n + 1, H, v, .inr p => RsT (TrT l n) H v p
section
variable {H H' : Hp}
theorem ItT.mono {α : Type} {R : Hp → V → α → Prop} (k : ∀ v x, R H v x → R H' v x) (s : Same H H') {v : V} {x : α × EM.Sg} (h : ItT R H v x) : ItT R H' v x := by
  rcases h with ⟨h1, h2⟩ | ⟨t, u, e, h1 | h1, h2⟩
  · exact .inl ⟨h1, k _ _ h2⟩
  · exact .inr ⟨t, u, e, .inl ⟨h1.1, s _ _ h1.2⟩, k _ _ h2⟩
  · exact .inr ⟨t, u, e, .inr ⟨h1.1, s _ _ h1.2⟩, k _ _ h2⟩
theorem RwT.mono {α : Type} {R : Hp → V → α → Prop} (k : ∀ v x, R H v x → R H' v x) (s : Same H H') {v : V} {x : List (α × EM.Sg)} (h : RwT R H v x) : RwT R H' v x := by
  obtain ⟨t, g, vs, e, h1, h2, h3⟩ := h
  exact ⟨t, g, vs, e, s _ _ h1, s _ _ h2, h3.mono fun a b => ItT.mono k s⟩
theorem RsT.mono' {α : Type} {R : Hp → V → α → Prop} (k : ∀ v x, R H v x → R H' v x) (s : Same H H') {v : V} {x : List (List (α × EM.Sg))} (h : RsT R H v x) : RsT R H' v x := by
  obtain ⟨t, g, vs, e, h1, h2, h3⟩ := h
  exact ⟨t, g, vs, e, s _ _ h1, s _ _ h2, h3.mono fun a b => RwT.mono k s⟩
theorem TrT.mono {l : List Nat} (s : Same H H') : ∀ (n : Nat) v x, TrT l n H v x → TrT l n H' v x := by
  have at' : ∀ v x, AtT l H v x → AtT l H' v x := fun v x ⟨t, e, h⟩ => ⟨t, e, s _ _ h⟩
  intro n
  induction n with
  | zero => exact at'
  | succ n ih =>
    intro v x h
    cases x with
    | inl x => exact at' v x h
    | inr p => exact RsT.mono' ih s h
theorem RsT.mono {l : List Nat} {n : Nat} (s : Same H H') {v : V} {p : EM.Pat n} (h : RsT (TrT l n) H v p) : RsT (TrT l n) H' v p := h.mono' (TrT.mono s n) s
end
/-! ### what the signs begin with -/
def Good (c : Nat) : Prop := c = 46 ∨ c = 40 ∨ (97 ≤ c ∧ c ≤ 122)
theorem head_inn {l : List Nat} (lok : LetOk l) : ∀ (n : Nat) (x : EM.Inner n), EM.Wf l n x → ∃ c r, EM.innT n x = c :: r ∧ Good c := by
  have at' : ∀ x : EM.Atom, EM.atomOk l x → ∃ c r, EM.atomT x = c :: r ∧ Good c := by
    intro x h
    cases x with
    | sym c => exact ⟨c, [], rfl, .inr (.inr (lok.2.2 c h))⟩
    | dot => exact ⟨46, [], rfl, .inl rfl⟩
  intro n
  cases n with
  | zero => exact at'
  | succ n =>
    intro x h
    cases x with
    | inl x => exact at' x h
    | inr p => exact ⟨40, _, rfl, .inr (.inl rfl)⟩
theorem cut1 (txt : List Nat) (i : Nat) (h : i ≤ txt.length) : cutS (sOf txt) (some (i : Int)) (some ((i : Int) + 1)) = sOf ((txt.drop i).take 1) := by
  unfold cutS
  rw [sOf_toList, sOf_len, HT.sIx_nat, show (i : Int) + 1 = ((i + 1 : Nat) : Int) from rfl, HT.sIx_nat, Nat.min_eq_left h]
  show sOf _ = _
  congr 1
  rcases Nat.lt_or_ge i txt.length with k | k
  · rw [Nat.min_eq_left (by omega)]; congr 1; omega
  · rw [List.drop_eq_nil_of_le k]; simp
section
variable (K : PySem.W.Frag)
/-- a reader at place i -/
def RdAt (H : Hp) (x o : Addr) (txt : List Nat) (i : Nat) : Prop := ∃ dx, H x = some (.ins (He.ga K "PatternReader") dx [("order", .ref o), ("signs", .str (sOf txt)), ("at", .int (i : Nat))])
end
section
variable {P : Program} {w : World} {K : PySem.W.Frag} {mg : Str → Option Value} {base : Heap}
theorem RdAt.same {H H' : Hp} {x o : Addr} {txt : List Nat} {i : Nat} (h : RdAt K H x o txt i) (s : Same H H') : RdAt K H' x o txt i := by
  obtain ⟨dx, h⟩ := h
  exact ⟨dx, s _ _ h⟩
theorem RdAt.ne {H : Hp} {x o y : Addr} {txt : List Nat} {i : Nat} (h : RdAt K H x o txt i) (e : H y = none) : y ≠ x := by
  obtain ⟨dx, h⟩ := h
  exact fun z => by rw [z, h] at e; cases e
def spRdInit (K : PySem.W.Frag) : Sp := fun vs H Q _ => ∃ (x o dx : Addr) (txt : List Nat), vs = [.ref x, .ref o, .str (sOf txt)] ∧ H x = some (.ins (He.ga K "PatternReader") dx []) ∧ ∀ H', Kp (only x) H H' → RdAt K H' x o txt 0 → Q .non H'
theorem ok_rdinit (T : Tx K mg) : Ok P w K mg base 1 (He.ma K (He.ga K "PatternReader") "__init__") ["self", "order", "text"] (spRdInit K) := by
  refine ok_mk T.fn_PatternReader_init sc_PatternReader_init (fun _ _ _ _ _ _ us hl => match us, hl with | [_, _, _], _ => rfl) (fun vs H Q E h => ?_) (fun cdv A outer s H vs Q E hr h => ?_)
  · obtain ⟨x, o, dx, txt, rfl, _⟩ := h
    rfl
  · obtain ⟨x, o, dx, txt, rfl, hx, q⟩ := h
    refine ⟨_, (pss_cons (ps_fld (pv 0) (pv 1) rfl)
      (pss_cons (ps_fld (pv 0) (pv 2) rfl)
      (pss_one (ps_fld (pv 0) pe_int rfl)))), ?_⟩
    refine ⟨_, rfl, _, rfl, x, _, dx, _, rfl, hx, T.c_PatternReader, T.n_PatternReader_order, by decide, ?_⟩
    refine ⟨_, rfl, _, rfl, x, _, dx, _, rfl, upd_same, T.c_PatternReader, T.n_PatternReader_signs, (by show 1 < 1000; decide), ?_⟩
    refine ⟨_, rfl, x, _, dx, _, rfl, upd_same, T.c_PatternReader, T.n_PatternReader_at, (by show 2 < 1000; decide), ?_⟩
    have m : (only x) x := rfl
    exact q _ (((Kp.put m).trans (Kp.put m)).trans (Kp.put m)) ⟨dx, upd_same⟩
def spSign (K : PySem.W.Frag) : Sp := fun vs H Q _ => ∃ (x o : Addr) (txt : List Nat) (i : Nat), vs = [.ref x] ∧ RdAt K H x o txt i ∧ i ≤ txt.length ∧ txt.length ≤ 700 ∧ Q (.str (sOf ((txt.drop i).take 1))) H
theorem ok_sign (T : Tx K mg) : Ok P w K mg base 1 (He.ma K (He.ga K "PatternReader") "sign") ["self"] (spSign K) := by
  refine ok_mk T.fn_PatternReader_sign sc_PatternReader_sign (fun _ _ _ _ _ _ us hl => match us, hl with | [_], _ => rfl) (fun vs H Q E h => ?_) (fun cdv A outer s H vs Q E hr h => ?_)
  · obtain ⟨x, o, txt, i, rfl, _⟩ := h
    rfl
  · obtain ⟨x, o, txt, i, rfl, ⟨dx, hx⟩, il, tl, q⟩ := h
    refine ⟨_, (pss_one (ps_ret (pe_slice sl_str (pe_fld (pv 0) rfl) (po_some (pe_fld (pv 0) rfl)) (po_some (pe_op op_add (pe_fld (pv 0) rfl) pe_int))))), ?_⟩
    refine ⟨_, rfl, x, _, dx, _, _, rfl, hx, T.c_PatternReader, T.n_PatternReader_signs, rfl, ?_⟩
    refine ⟨_, rfl, x, _, dx, _, _, rfl, hx, T.c_PatternReader, T.n_PatternReader_at, rfl, _, rfl, ?_⟩
    refine ⟨_, rfl, x, _, dx, _, _, rfl, hx, T.c_PatternReader, T.n_PatternReader_at, rfl, _, _, rfl, rfl, _, rfl, ?_⟩
    refine ⟨_, rfl, by rw [sOf_len]; unfold sizeLine; omega, ?_⟩
    show Q (.str (cutS (sOf txt) (some (i : Int)) (some ((i : Int) + 1)))) H
    rw [cut1 txt i il]
    exact q
/-- the promises of the reader's parts: depth d (rows: d + 1, at 0 nothing is said) -/
def spRows (K : PySem.W.Frag) : Nat → Sp
  | 0 => fun _ _ _ _ => False
  | d + 1 => fun vs H Q _ => ∃ (x o : Addr) (txt l post : List Nat) (i : Nat) (p : EM.Pat d), vs = [.ref x] ∧ RdAt K H x o txt i ∧ OrAt K H o l ∧ LetOk l ∧ txt.length ≤ 700 ∧ txt.drop i = EM.patT (EM.innT d) p ++ post ∧ i ≤ txt.length ∧ EM.PatOk (EM.Wf l d) p ∧ (∀ c, post.head? = some c → c = 41) ∧
      ∀ v H', Kp (only x) H H' → RdAt K H' x o txt (i + (EM.patT (EM.innT d) p).length) → RsT (TrT l d) (hide (old H) H') v p → Q v H'
def spRow (K : PySem.W.Frag) (d : Nat) : Sp := fun vs H Q _ => ∃ (x o : Addr) (txt l post : List Nat) (i : Nat) (r : List (EM.Inner d × EM.Sg)), vs = [.ref x] ∧ RdAt K H x o txt i ∧ OrAt K H o l ∧ LetOk l ∧ txt.length ≤ 700 ∧ txt.drop i = EM.rowT (EM.innT d) r ++ post ∧ i ≤ txt.length ∧ r.length ≤ 3 ∧ (∀ y, y ∈ r → EM.Wf l d y.1) ∧
      (∀ c, post.head? = some c → c = 124 ∨ c = 41) ∧ ∀ v H', Kp (only x) H H' → RdAt K H' x o txt (i + (EM.rowT (EM.innT d) r).length) → RwT (TrT l d) (hide (old H) H') v r → Q v H'
def spRItem (K : PySem.W.Frag) (d : Nat) : Sp := fun vs H Q _ => ∃ (x o : Addr) (txt l post : List Nat) (i : Nat) (y : EM.Inner d × EM.Sg), vs = [.ref x] ∧ RdAt K H x o txt i ∧ OrAt K H o l ∧ LetOk l ∧ txt.length ≤ 700 ∧ txt.drop i = EM.itemT (EM.innT d) y ++ post ∧ i ≤ txt.length ∧ EM.Wf l d y.1 ∧
      (∀ c, post.head? = some c → c ≠ 42 ∧ c ≠ 63) ∧ ∀ v H', Kp (only x) H H' → RdAt K H' x o txt (i + (EM.itemT (EM.innT d) y).length) → ItT (TrT l d) (hide (old H) H') v y → Q v H'
def spRPlain (K : PySem.W.Frag) (d : Nat) : Sp := fun vs H Q _ => ∃ (x o : Addr) (txt l post : List Nat) (i : Nat) (y : EM.Inner d), vs = [.ref x] ∧ RdAt K H x o txt i ∧ OrAt K H o l ∧ LetOk l ∧ txt.length ≤ 700 ∧ txt.drop i = EM.innT d y ++ post ∧ i ≤ txt.length ∧ EM.Wf l d y ∧
      ∀ v H', Kp (only x) H H' → RdAt K H' x o txt (i + (EM.innT d y).length) → TrT l d (hide (old H) H') v y → Q v H'
theorem drop_add {txt a b : List Nat} {i : Nat} (h : txt.drop i = a ++ b) : txt.drop (i + a.length) = b := by
  rw [← List.drop_drop, h, List.drop_left]
theorem drop_le {txt a b : List Nat} {i : Nat} (h : txt.drop i = a ++ b) (il : i ≤ txt.length) : i + a.length ≤ txt.length := by
  have := congrArg List.length h
  rw [List.length_drop, List.length_append] at this
  omega
theorem ok_rplain (T : Tx K mg) {d : Nat} (hs : Ok P w K mg base 1 (He.ma K (He.ga K "PatternReader") "sign") ["self"] (spSign K)) (hh : Ok P w K mg base 1 (He.ma K (He.ga K "Order") "__contains__") ["self", "thing"] (spHas K))
    (hr' : Ok P w K mg base (4 * d + 2) (He.ma K (He.ga K "PatternReader") "rows") ["self"] (spRows K d)) : Ok P w K mg base (4 * d + 3) (He.ma K (He.ga K "PatternReader") "plain_item") ["self"] (spRPlain K d) := by
  obtain ⟨_, F_PatternReader_sign, b_PatternReader_sign, _⟩ := hs
  obtain ⟨_, F_Order_contains, b_Order_contains, _⟩ := hh
  obtain ⟨_, F_PatternReader_rows, b_PatternReader_rows, _⟩ := hr'
  refine ok_mk T.fn_PatternReader_plain_item sc_PatternReader_plain_item (fun _ _ _ _ _ _ us hl => match us, hl with | [_], _ => rfl) (fun vs H Q E h => ?_) (fun cdv A outer s H vs Q E hr h => ?_)
  · obtain ⟨x, o, txt, l, post, i, y, rfl, _⟩ := h
    rfl
  · obtain ⟨x, o, txt, l, post, i, y, rfl, hx, ho, lok, tl, hd, il, wf, q⟩ := h
    have hr1 := hr.mono (show 1 ≤ 4 * d + 2 by omega)
    obtain ⟨dx, hx0⟩ := id hx
    refine ⟨_, (pss_cons (ps_set (i := 1) sc_PatternReader_plain_item.nd rfl (by first | exact Or.inl rfl | exact Or.inr rfl) (pe_meth0 (pv 0) T.c_PatternReader T.m_PatternReader_sign F_PatternReader_sign hr1 b_PatternReader_sign .nil pass0))
      (C8.pss_cut (ps_if (PW.pt (pw_and (pt_cmpR op_ne (pv 1) pe_str (nomark _)) (pw_and (pt_cmpR op_ne (pv 1) pe_str (nomark _)) (pw_and1 (pt_cmpR (op_notInOwn T.m_Order_contains F_Order_contains hr1 b_Order_contains) (pv 1) (pe_fld (pv 0) rfl) rfl))))) (pss_one ps_never) pss_nil)
      (pss_cons (ps_fldaug (pv 0) pe_int in_add)
      (pss_cons (ps_if (pt_cmpR op_ne (pv 1) pe_str (nomark _)) (pss_one (ps_ret (pe_tup (pa_cons pe_str (pa_cons (pe_ifExp (pt_cmpR op_eq (pv 1) pe_str (nomark _)) (pe_fld (pe_fld (pv 0) rfl) rfl) (pv 1)) pa_nil))))) pss_nil)
      (pss_cons (ps_set (i := 2) sc_PatternReader_plain_item.nd rfl (by first | exact Or.inl rfl | exact Or.inr rfl) (pe_meth0 (pv 0) T.c_PatternReader T.m_PatternReader_rows F_PatternReader_rows hr b_PatternReader_rows .nil pass0))
      (pss_cons (ps_if (pt_cmpR op_ne (pe_meth0 (pv 0) T.c_PatternReader T.m_PatternReader_sign F_PatternReader_sign hr1 b_PatternReader_sign .nil pass0) pe_str (nomark _)) (pss_one ps_never) pss_nil)
      (pss_cons (ps_fldaug (pv 0) pe_int in_add)
      (pss_one (ps_ret (pv 2)))))))))), ?_⟩
    obtain ⟨c, r, ec, good⟩ := head_inn lok d y wf
    have hd1 : (txt.drop i).take 1 = [c] := by rw [hd, ec]; rfl
    refine ⟨_, rfl, x, dx, _, rfl, hx0, rfl, x, o, txt, i, rfl, hx, il, tl, ?_⟩
    rw [hd1]
    -- the first sign, told
    have kind : (c = 40 ∧ ∃ e p, d = e + 1 ∧ EM.innT d y = 40 :: (EM.patT (EM.innT e) p ++ [41]) ∧ EM.PatOk (EM.Wf l e) p ∧ ∀ Hx v, RsT (TrT l e) Hx v p → TrT l d Hx v y) ∨ (c ≠ 40 ∧ ∃ a : EM.Atom, EM.atomOk l a ∧ EM.innT d y = EM.atomT a ∧ ∀ Hx v, AtT l Hx v a → TrT l d Hx v y) := by
      have at' : ∀ a : EM.Atom, EM.atomOk l a → EM.innT d y = EM.atomT a → (∀ Hx v, AtT l Hx v a → TrT l d Hx v y) → (c = 40 ∧ ∃ e p, d = e + 1 ∧ EM.innT d y = 40 :: (EM.patT (EM.innT e) p ++ [41]) ∧ EM.PatOk (EM.Wf l e) p ∧ ∀ Hx v, RsT (TrT l e) Hx v p → TrT l d Hx v y) ∨ (c ≠ 40 ∧ ∃ a : EM.Atom, EM.atomOk l a ∧ EM.innT d y = EM.atomT a ∧ ∀ Hx v, AtT l Hx v a → TrT l d Hx v y) := by
        intro a ha e f
        refine .inr ⟨?_, a, ha, e, f⟩
        rw [e] at ec
        cases a with
        | sym c' => simp [EM.atomT] at ec; have := lok.2.2 c' ha; omega
        | dot => simp [EM.atomT] at ec; omega
      cases d with
      | zero => exact at' y wf rfl fun _ _ h => h
      | succ d =>
        cases y with
        | inl a => exact at' a wf rfl fun _ _ h => h
        | inr p =>
          refine .inl ⟨?_, d, p, rfl, rfl, wf, fun _ _ h => h⟩
          have e : EM.innT (d + 1) (.inr p) = 40 :: (EM.patT (EM.innT d) p ++ [41]) := rfl
          rw [e] at ec
          injection ec with ec
          exact ec.symm
    have inc : ∀ (Hx : Hp) (dy : Addr) (j : Nat), Hx x = some (.ins (He.ga K "PatternReader") dy [("order", .ref o), ("signs", .str (sOf txt)), ("at", .int (j : Nat))]) → RdAt K (upd Hx x (.ins (He.ga K "PatternReader") dy (putF "at" (.int ((j : Int) + 1)) [("order", .ref o), ("signs", .str (sOf txt)), ("at", .int (j : Nat))]))) x o txt (j + 1) :=
      fun Hx dy j _ => ⟨dy, upd_same⟩
    refine ⟨fun σ' H' => σ' = [some (.ref x), some (.str (sOf [c])), none] ∧ H' = H, ?_, ?_⟩
    · refine ⟨_, rfl, rfl, _, rfl, ?_⟩
      rcases kind with ⟨rfl, _⟩ | ⟨c40, a, ha, e, _⟩
      · refine ite2 (fun h => absurd h (by decide)) (fun _ => iteF ⟨rfl, rfl⟩)
      · refine ite2 (fun _ => ?_) (fun _ => iteF ⟨rfl, rfl⟩)
        refine ⟨_, rfl, rfl, _, rfl, ?_⟩
        refine ite2 (fun h46 => ?_) (fun _ => iteF ⟨rfl, rfl⟩)
        obtain ⟨dxo, rk, hoi, hrk⟩ := id ho
        refine ⟨_, rfl, _, rfl, x, _, dx, _, _, rfl, hx0, T.c_PatternReader, T.n_PatternReader_order, rfl, o, dxo, _, rfl, hoi, o, l, c, rfl, ho, _, rfl, _, rfl, ?_⟩
        have cl : c ∈ l := by
          rw [e] at ec
          cases a with
          | sym c' => simp [EM.atomT] at ec; exact ec.1 ▸ ha
          | dot =>
            simp [EM.atomT] at ec
            rw [← ec.1] at h46
            exact absurd h46 (by decide)
        rw [decide_eq_true cl]
        exact iteF ⟨rfl, rfl⟩
    · rintro σ' H' ⟨rfl, rfl⟩
      refine ⟨_, rfl, x, _, dx, _, _, rfl, hx0, T.c_PatternReader, T.n_PatternReader_at, rfl, _, _, rfl, rfl, dx, _, hx0, (by show 3 < 1000; decide), ?_⟩
      have hx2 := inc H' dx i hx0
      have kp2 : Kp (only x) H' (upd H' x (.ins (He.ga K "PatternReader") dx (putF "at" (.int ((i : Int) + 1)) [("order", .ref o), ("signs", .str (sOf txt)), ("at", .int (i : Nat))]))) := Kp.put rfl
      generalize upd H' x _ = H2 at hx2 kp2
      obtain ⟨dx2, hx20⟩ := id hx2
      refine ⟨_, rfl, rfl, _, rfl, ?_⟩
      rcases kind with ⟨rfl, e, p, rfl, e2, wf', bk⟩ | ⟨c40, a, ha, e, bk⟩
      · refine ite2 (fun h => absurd h (by decide)) (fun _ => ?_)
        have hd2 : txt.drop (i + 1) = EM.patT (EM.innT e) p ++ (41 :: post) := by
          rw [← List.drop_drop, hd, e2]
          simp
        have nxo : o ≠ x := fun z => by
          obtain ⟨dxo, rk, hoi, _⟩ := ho
          rw [z, hx0] at hoi
          injection hoi with hoi
          injection hoi with _ _ h3
          cases h3
        have ho2 : OrAt K H2 o l := by
          obtain ⟨dxo, rk, hoi, kvs, hk, hv⟩ := ho
          refine ⟨dxo, rk, kp2 _ _ hoi nxo, kvs, kp2 _ _ hk fun z => ?_, hv⟩
          have z : rk = x := z
          rw [z, hx0] at hk; cases hk
        have il2 : i + 1 ≤ txt.length := by
          have := congrArg List.length hd
          rw [List.length_drop, List.length_append, e2, List.length_cons] at this
          omega
        refine ⟨_, rfl, x, dx2, _, rfl, hx20, rfl, x, o, txt, l, 41 :: post, i + 1, p, rfl, hx2, ho2, lok, tl, hd2, il2, wf', fun c h => by simp at h; exact h.symm, fun v H3 k3 h3 tr => ?_⟩
        obtain ⟨dx3, h30⟩ := id h3
        have il3 := drop_le hd2 il2
        refine ⟨_, rfl, x, dx3, _, rfl, h30, rfl, x, o, txt, _, rfl, h3, il3, tl, ?_⟩
        rw [drop_add hd2]
        refine ⟨rfl, _, rfl, ?_⟩
        refine ite2 (fun h => absurd h (by show ¬ (!decide (V.str (sOf [41]) = V.str ")")) = true; decide)) (fun _ => ?_)
        refine ⟨_, rfl, x, _, dx3, _, _, rfl, h30, T.c_PatternReader, T.n_PatternReader_at, rfl, _, _, rfl, rfl, dx3, _, h30, (by show 3 < 1000; decide), ?_⟩
        have hx4 := inc H3 dx3 _ h30
        have kp4 : Kp (only x) H3 (upd H3 x (.ins (He.ga K "PatternReader") dx3 (putF "at" (.int (((i + 1 + (EM.patT (EM.innT e) p).length : Nat) : Int) + 1)) [("order", .ref o), ("signs", .str (sOf txt)), ("at", .int ((i + 1 + (EM.patT (EM.innT e) p).length : Nat)))]))) := Kp.put rfl
        refine ⟨_, rfl, q v _ ((kp2.trans k3).trans kp4) ?_ (bk _ _ (tr.mono ?_))⟩
        · have e5 : (EM.innT (e + 1) y).length = (EM.patT (EM.innT e) p).length + 2 := by rw [e2]; simp
          rw [e5]
          have e6 : i + ((EM.patT (EM.innT e) p).length + 2) = i + 1 + (EM.patT (EM.innT e) p).length + 1 := by omega
          rw [e6]
          exact hx4
        · refine hide_same fun b o' e' n => ⟨kp4 b o' e' fun z => n ⟨_, z ▸ hx20⟩, fun ⟨o'', m⟩ => n ?_⟩
          by_cases nb : b = x
          · exact ⟨_, nb ▸ hx20⟩
          · exact ⟨o'', kp2 _ _ m nb⟩
      · refine ite2 (fun _ => ?_) (fun h => ?_)
        · have len1 : (EM.innT d y).length = 1 := by rw [e]; cases a <;> rfl
          have fin : ∀ (z : List Nat), z = atC l a → ∀ t, H2 t = none → Q (.ref t) (upd H2 t (.tup [.str "letter", .str (sOf z)])) := by
            intro z ez t t0
            have s3 : Same H2 (upd H2 t (.tup [.str "letter", .str (sOf z)])) := Same.up t0
            refine q _ _ (fun b o' e' n => s3 _ _ (kp2 b o' e' n)) ?_ (bk _ _ ⟨t, rfl, hide_some.mpr ⟨fun ⟨o', m⟩ => ?_, by rw [← ez]; exact upd_same⟩⟩)
            · rw [len1]; exact hx2.same s3
            · by_cases nb : t = x
              · rw [nb, hx20] at t0; cases t0
              · rw [kp2 _ _ m nb] at t0; cases t0
          refine ⟨_, rfl, rfl, _, rfl, ?_⟩
          rw [e] at ec
          cases a with
          | dot =>
            have c46 : 46 = c := by simp [EM.atomT] at ec; exact ec.1
            subst c46
            refine ite2 (fun _ => ?_) (fun h => absurd (by decide) h)
            obtain ⟨dxo, rk, hoi, _⟩ := id ho
            have nxo : o ≠ x := fun z => by
              rw [z, hx0] at hoi
              injection hoi with hoi
              injection hoi with _ _ h3
              cases h3
            exact ⟨_, rfl, x, _, dx2, _, _, rfl, hx20, T.c_PatternReader, T.n_PatternReader_order, rfl, o, _, dxo, _, _, rfl, kp2 _ _ hoi nxo, T.c_Order, T.n_Order_letters, rfl, (by show 2 ≤ sizeLine; decide), fin l rfl⟩
          | sym c' =>
            have ecc : c' = c := by simp [EM.atomT] at ec; exact ec.1
            subst ecc
            refine ite2 (fun h => ?_) (fun _ => ?_)
            · exfalso
              rw [decide_eq_true_eq] at h
              injection h with h
              have := sOf_inj (show sOf [c'] = sOf [46] from h)
              have := lok.2.2 c' ha
              simp at *
              omega
            · exact ⟨_, rfl, (by show 2 ≤ sizeLine; decide), fin [c'] rfl⟩
        · exfalso
          refine h ?_
          rw [Bool.not_eq_true', decide_eq_false_iff_not]
          intro z
          injection z with z
          have := sOf_inj (show sOf [c] = sOf [40] from z)
          exact c40 (by simpa using this)
theorem inV_strs (z : List Nat) (zs : List (List Nat)) : inV (.str (sOf z)) (txts zs) = decide (z ∈ zs) := by
  unfold inV txts
  rw [List.any_map, Bool.eq_iff_iff, List.any_eq_true, decide_eq_true_eq]
  constructor
  · rintro ⟨x, m, e⟩
    have e : (sOf x == sOf z) = true := e
    rw [beq_iff_eq] at e
    exact sOf_inj e ▸ m
  · intro m
    exact ⟨z, m, by show (sOf z == sOf z) = true; simp⟩
theorem ok_ritem (T : Tx K mg) {d : Nat} (hs : Ok P w K mg base 1 (He.ma K (He.ga K "PatternReader") "sign") ["self"] (spSign K))
    (hp : Ok P w K mg base (4 * d + 3) (He.ma K (He.ga K "PatternReader") "plain_item") ["self"] (spRPlain K d)) : Ok P w K mg base (4 * d + 4) (He.ma K (He.ga K "PatternReader") "item") ["self"] (spRItem K d) := by
  obtain ⟨_, F_PatternReader_sign, b_PatternReader_sign, _⟩ := hs
  obtain ⟨_, F_PatternReader_plain_item, b_PatternReader_plain_item, _⟩ := hp
  refine ok_mk T.fn_PatternReader_item sc_PatternReader_item (fun _ _ _ _ _ _ us hl => match us, hl with | [_], _ => rfl) (fun vs H Q E h => ?_) (fun cdv A outer s H vs Q E hr h => ?_)
  · obtain ⟨x, o, txt, l, post, i, y, rfl, _⟩ := h
    rfl
  · obtain ⟨x, o, txt, l, post, i, ⟨y, sg⟩, rfl, hx, ho, lok, tl, hd, il, wf, hpost, q⟩ := h
    have hr1 := hr.mono (show 1 ≤ 4 * d + 3 by omega)
    obtain ⟨dx, hx0⟩ := id hx
    refine ⟨_, (pss_cons (ps_set (i := 1) sc_PatternReader_item.nd rfl (by first | exact Or.inl rfl | exact Or.inr rfl) (pe_meth0 (pv 0) T.c_PatternReader T.m_PatternReader_plain_item F_PatternReader_plain_item hr b_PatternReader_plain_item .nil pass0))
      (pss_cons (ps_if (pt_cmpR op_in_seq (pe_meth0 (pv 0) T.c_PatternReader T.m_PatternReader_sign F_PatternReader_sign hr1 b_PatternReader_sign .nil pass0) (pe_tup (pa_cons pe_str (pa_cons pe_str pa_nil))) rfl) (pss_cons (ps_set (i := 1) sc_PatternReader_item.nd rfl (by first | exact Or.inl rfl | exact Or.inr rfl) (pe_tup (pa_cons (pe_meth0 (pv 0) T.c_PatternReader T.m_PatternReader_sign F_PatternReader_sign hr1 b_PatternReader_sign .nil pass0) (pa_cons (pv 1) pa_nil))))
      (pss_one (ps_fldaug (pv 0) pe_int in_add))) pss_nil)
      (pss_one (ps_ret (pv 1))))), ?_⟩
    have hd1 : txt.drop i = EM.innT d y ++ (EM.sgT sg ++ post) := by rw [hd]; simp [EM.itemT]
    refine ⟨_, rfl, x, dx, _, rfl, hx0, rfl, x, o, txt, l, _, i, y, rfl, hx, ho, lok, tl, hd1, il, wf, fun v H1 k1 h1 tr => ?_⟩
    obtain ⟨dx1, h10⟩ := id h1
    have il1 := drop_le hd1 il
    have hd2 := drop_add hd1
    have el : (EM.itemT (EM.innT d) (y, sg)).length = (EM.innT d y).length + (EM.sgT sg).length := by simp [EM.itemT]
    refine ⟨_, rfl, x, dx1, _, rfl, h10, rfl, x, o, txt, _, rfl, h1, il1, tl, ?_⟩
    rw [hd2]
    refine ⟨(by show 2 ≤ sizeLine; decide), fun t t0 => ?_⟩
    generalize e3 : upd H1 t _ = H2
    obtain ⟨s2, t1, f2⟩ := newE t0 e3
    refine ⟨t, _, rfl, .inr (SqT.of t1), rfl, rfl, _, rfl, ?_⟩
    have eI : inV (V.str (sOf ((EM.sgT sg ++ post).take 1))) [V.str "*", V.str "?"] = decide ((EM.sgT sg ++ post).take 1 ∈ [[42], [63]]) := inV_strs _ [[42], [63]]
    refine ite2 (fun h => ?_) (fun h => ?_)
    · have h : inV (V.str (sOf ((EM.sgT sg ++ post).take 1))) [V.str "*", V.str "?"] = true := h
      rw [eI, decide_eq_true_eq] at h
      have sgn : sg ≠ .one ∧ (EM.sgT sg ++ post).take 1 = EM.sgT sg ∧ (EM.sgT sg).length = 1 := by
        cases sg with
        | one =>
          exfalso
          cases post with
          | nil => simp [EM.sgT] at h
          | cons c r => have := hpost c rfl; simp [EM.sgT] at h; omega
        | star => exact ⟨by simp, rfl, rfl⟩
        | opt => exact ⟨by simp, rfl, rfl⟩
      have h2 := h1.same s2
      obtain ⟨dx2, h20⟩ := id h2
      refine ⟨_, rfl, x, dx2, _, rfl, h20, rfl, x, o, txt, _, rfl, h2, il1, tl, ?_⟩
      rw [hd2, sgn.2.1]
      refine ⟨_, rfl, (by show 2 ≤ sizeLine; decide), fun u u0 => ?_⟩
      generalize e4 : upd H2 u _ = H3
      obtain ⟨s3, u1, f3⟩ := newE u0 e4
      have h30 := s3 _ _ h20
      refine ⟨_, rfl, x, _, dx2, _, _, rfl, h30, T.c_PatternReader, T.n_PatternReader_at, rfl, _, _, rfl, rfl, dx2, _, h30, (by show 3 < 1000; decide), ?_⟩
      have nux : u ≠ x := h2.ne u0
      have k4 : Kp (only x) H3 (upd H3 x (.ins (He.ga K "PatternReader") dx2 (putF "at" (.int (((i + (EM.innT d y).length : Nat) : Int) + 1)) [("order", .ref o), ("signs", .str (sOf txt)), ("at", .int ((i + (EM.innT d y).length : Nat)))]))) := Kp.put rfl
      refine ⟨_, rfl, q (.ref u) _ (fun b o' e n => k4 _ _ (s3 _ _ (s2 _ _ (k1 b o' e n))) n) ⟨dx2, ?_⟩ (.inr ⟨u, v, rfl, ?_, TrT.mono (hide_same fun b o' e n => ?_) d _ _ tr⟩)⟩
      · rw [el, sgn.2.2]; exact upd_same
      · have u4 : (upd H3 x (.ins (He.ga K "PatternReader") dx2 (putF "at" (.int (((i + (EM.innT d y).length : Nat) : Int) + 1)) [("order", .ref o), ("signs", .str (sOf txt)), ("at", .int ((i + (EM.innT d y).length : Nat)))]))) u = some (.tup [.str (sOf (EM.sgT sg)), v]) := (upd_ne nux).trans u1
        have nu : ¬ old H u := fun ⟨o', m⟩ => by rw [s2 _ _ (k1 u o' m nux)] at u0; cases u0
        cases sg with
        | one => exact absurd rfl sgn.1
        | star => exact .inl ⟨rfl, hide_some.mpr ⟨nu, u4⟩⟩
        | opt => exact .inr ⟨rfl, hide_some.mpr ⟨nu, u4⟩⟩
      · exact ⟨k4 _ _ (s3 _ _ (s2 _ _ e)) fun z => n ⟨_, z ▸ hx0⟩, n⟩
    · have h : ¬ inV (V.str (sOf ((EM.sgT sg ++ post).take 1))) [V.str "*", V.str "?"] = true := h
      rw [eI, decide_eq_true_eq] at h
      have sgn : sg = .one := by
        cases sg with
        | one => rfl
        | star => exact absurd (by simp [EM.sgT]) h
        | opt => exact absurd (by simp [EM.sgT]) h
      subst sgn
      refine ⟨_, rfl, q v H2 (fun b o' e n => s2 _ _ (k1 b o' e n)) ?_ (.inl ⟨rfl, TrT.mono (hide_same fun b o' e n => ⟨s2 _ _ e, n⟩) d _ _ tr⟩)⟩
      rw [el]
      exact h1.same s2
theorem ok_rrow (T : Tx K mg) {d : Nat} (hs : Ok P w K mg base 1 (He.ma K (He.ga K "PatternReader") "sign") ["self"] (spSign K))
    (hp : Ok P w K mg base (4 * d + 4) (He.ma K (He.ga K "PatternReader") "item") ["self"] (spRItem K d)) : Ok P w K mg base (4 * d + 5) (He.ma K (He.ga K "PatternReader") "row") ["self"] (spRow K d) := by
  obtain ⟨_, F_PatternReader_sign, b_PatternReader_sign, _⟩ := hs
  obtain ⟨_, F_PatternReader_item, b_PatternReader_item, _⟩ := hp
  refine ok_mk T.fn_PatternReader_row sc_PatternReader_row (fun _ _ _ _ _ _ us hl => match us, hl with | [_], _ => rfl) (fun vs H Q E h => ?_) (fun cdv A outer s H vs Q E hr h => ?_)
  · obtain ⟨x, o, txt, l, post, i, y, rfl, _⟩ := h
    rfl
  · obtain ⟨x, o, txt, l, post, i, row, rfl, hx, ho, lok, tl, hd, il, r3, wf, hpost, q⟩ := h
    have hr1 := hr.mono (show 1 ≤ 4 * d + 4 by omega)
    obtain ⟨dx, hx0⟩ := id hx
    refine ⟨_, (pss_cons (ps_set (i := 1) sc_PatternReader_row.nd rfl (by first | exact Or.inl rfl | exact Or.inr rfl) (pe_lst pa_nil))
      (pss_cons (ps_while PassesOwn.never (pt_cmpR op_notIn_seq (pe_meth0 (pv 0) T.c_PatternReader T.m_PatternReader_sign F_PatternReader_sign hr1 b_PatternReader_sign .nil pass0) (pe_tup (pa_cons pe_str (pa_cons pe_str (pa_cons pe_str pa_nil)))) rfl) (pss_one (ps_expr (pe_bm PySem.F.plainAttrs_list PySem.F.slot_list_append PySem.F.type_list_append mt_append (pv 1) (pa_cons (pe_meth0 (pv 0) T.c_PatternReader T.m_PatternReader_item F_PatternReader_item hr b_PatternReader_item .nil pass0) pa_nil)))))
      (pss_one (ps_ret (pe_tup (pa_cons pe_str (pa_cons (pv 1) pa_nil))))))), ?_⟩
    refine ⟨by decide, fun f f0 => ?_⟩
    generalize e1 : upd H f _ = H1
    obtain ⟨s1, f1, g1⟩ := newE f0 e1
    have nfx : f ≠ x := hx.ne f0
    refine ⟨fun m σ H' => ∃ k vs i', σ = [some (.ref x), some (.ref f)] ∧ m + k = row.length ∧ H' f = some (.lst vs) ∧ Each (ItT (TrT l d) (hide (fun b => b = f ∨ old H b) H')) vs (row.take k) ∧ Kp (only x) H H' ∧
      RdAt K H' x o txt i' ∧ i' + (EM.rowT (EM.innT d) (row.drop k)).length = i + (EM.rowT (EM.innT d) row).length ∧ txt.drop i' = EM.rowT (EM.innT d) (row.drop k) ++ post ∧ i' ≤ txt.length, ⟨row.length, 0, [], i, rfl, rfl, f1, .nil, Same.kp s1, hx.same s1, rfl, hd, il⟩, fun m σ H2 hP => ?_⟩
    obtain ⟨k, vs, i', rfl, mk, hf, eac, kp, hx2, ei, hd2, il2⟩ := hP
    obtain ⟨dx2, hx20⟩ := id hx2
    refine ⟨_, rfl, x, dx2, _, rfl, hx20, rfl, x, o, txt, i', rfl, hx2, il2, tl, ?_⟩
    rw [hd2]
    refine ⟨(by show 3 ≤ sizeLine; decide), fun t t0 => ?_⟩
    generalize e3 : upd H2 t _ = H3
    obtain ⟨s3, t1, f3⟩ := newE t0 e3
    refine ⟨t, _, rfl, .inr (SqT.of t1), rfl, rfl, _, rfl, ?_⟩
    have eI : inV (V.str (sOf ((EM.rowT (EM.innT d) (row.drop k) ++ post).take 1))) [V.str "", V.str "|", V.str ")"] = decide ((EM.rowT (EM.innT d) (row.drop k) ++ post).take 1 ∈ [[], [124], [41]]) := inV_strs _ [[], [124], [41]]
    have hx3 := hx2.same s3
    obtain ⟨dx3, hx30⟩ := id hx3
    have sm3 : Same (hide (fun b => b = f ∨ old H b) H2) (hide (fun b => b = f ∨ old H b) H3) := hide_same fun b o' e n => ⟨s3 _ _ e, n⟩
    by_cases kl : k < row.length
    · -- one more item
      have ed : row.drop k = row[k] :: row.drop (k + 1) := List.drop_eq_getElem_cons kl
      have er : EM.rowT (EM.innT d) (row.drop k) = EM.itemT (EM.innT d) row[k] ++ EM.rowT (EM.innT d) (row.drop (k + 1)) := by rw [ed]; rfl
      have wk := wf _ (List.getElem_mem kl)
      obtain ⟨c, r, ec, good⟩ := head_inn lok d row[k].1 wk
      have nI : ¬ inV (V.str (sOf ((EM.rowT (EM.innT d) (row.drop k) ++ post).take 1))) [V.str "", V.str "|", V.str ")"] = true := by
        rw [eI, decide_eq_true_eq, er]
        have : (EM.itemT (EM.innT d) row[k] ++ EM.rowT (EM.innT d) (row.drop (k + 1)) ++ post).take 1 = [c] := by
          show ((EM.innT d row[k].1 ++ _) ++ _ ++ _).take 1 = _
          rw [ec]; rfl
        rw [this]
        unfold Good at good
        simp
        omega
      have nI' := Bool.eq_false_iff.mpr nI
      refine ite2 (fun _ => ?_) (fun h => absurd (by show (!inV (V.str (sOf ((EM.rowT (EM.innT d) (row.drop k) ++ post).take 1))) [V.str "", V.str "|", V.str ")"]) = true; rw [nI']; rfl) h)
      refine ⟨fun σ' H' => ∃ m', m' < m ∧ ∃ k vs i', σ' = [some (.ref x), some (.ref f)] ∧ m' + k = row.length ∧ H' f = some (.lst vs) ∧ Each (ItT (TrT l d) (hide (fun b => b = f ∨ old H b) H')) vs (row.take k) ∧ Kp (only x) H H' ∧
        RdAt K H' x o txt i' ∧ i' + (EM.rowT (EM.innT d) (row.drop k)).length = i + (EM.rowT (EM.innT d) row).length ∧ txt.drop i' = EM.rowT (EM.innT d) (row.drop k) ++ post ∧ i' ≤ txt.length, fun _ _ h => h, ?_⟩
      have hd3 : txt.drop i' = EM.itemT (EM.innT d) row[k] ++ (EM.rowT (EM.innT d) (row.drop (k + 1)) ++ post) := by rw [hd2, er, List.append_assoc]
      have ho3 : OrAt K H3 o l := by
        obtain ⟨dxo, rk, hoi, kvs, hk, hv⟩ := ho
        have nxo : o ≠ x := fun z => by
          rw [z, hx0] at hoi
          injection hoi with hoi
          injection hoi with _ _ h3
          cases h3
        refine ⟨dxo, rk, s3 _ _ (kp _ _ hoi nxo), kvs, s3 _ _ (kp _ _ hk fun z => ?_), hv⟩
        have z : rk = x := z
        rw [z, hx0] at hk; cases hk
      refine ⟨_, rfl, .inl ⟨rfl, _, SqL.of (s3 _ _ hf)⟩, _, rfl, x, dx3, _, rfl, hx30, rfl, x, o, txt, l, _, i', row[k], rfl, hx3, ho3, lok, tl, hd3, il2, wk, fun c' hc' => ?_, fun v H4 k4 h4 tr => ?_⟩
      · rcases Nat.lt_or_ge (k + 1) row.length with kl2 | kl2
        · have ed2 : row.drop (k + 1) = row[k + 1] :: row.drop (k + 2) := List.drop_eq_getElem_cons kl2
          obtain ⟨c2, r2, ec2, good2⟩ := head_inn lok d row[k + 1].1 (wf _ (List.getElem_mem kl2))
          have : (EM.rowT (EM.innT d) (row.drop (k + 1)) ++ post).head? = some c2 := by
            rw [ed2]
            show ((EM.innT d row[k + 1].1 ++ _) ++ _ ++ _).head? = _
            rw [ec2]; rfl
          rw [this] at hc'
          injection hc' with hc'
          unfold Good at good2
          omega
        · rw [List.drop_eq_nil_of_le kl2] at hc'
          rcases hpost c' hc' with e | e <;> omega
      · have hf4 := k4 f _ (s3 _ _ hf) nfx
        have sm4 : Same (hide (fun b => b = f ∨ old H b) H3) (hide (fun b => b = f ∨ old H b) H4) := hide_same fun b o' e n => ⟨k4 b o' e fun z => n (.inr ⟨_, z ▸ hx0⟩), n⟩
        refine ⟨f, _, _, rfl, rfl, hf4, by have := eac.1; rw [List.length_take] at this; unfold sizeLine; omega, ?_⟩
        generalize e5 : upd H4 f _ = H5
        obtain ⟨f5, g5⟩ := putE e5
        have sm5 : Same (hide (fun b => b = f ∨ old H b) H4) (hide (fun b => b = f ∨ old H b) H5) := hide_same fun b o' e n => ⟨(g5 b fun z => n (.inl z)).trans e, n⟩
        have sm := same_trans sm3 (same_trans sm4 sm5)
        refine ⟨m - 1, by omega, k + 1, vs ++ [v], i' + (EM.itemT (EM.innT d) row[k]).length, rfl, by omega, f5, ?_, ?_, ?_, ?_, drop_add hd3, drop_le hd3 il2⟩
        · rw [List.take_succ, List.getElem?_eq_getElem kl]
          refine (eac.mono fun a b => ItT.mono (TrT.mono sm d) sm).snoc (tr.mono (TrT.mono ?_ d) ?_) <;>
          · refine hide_same fun b o' e n => ⟨(g5 b fun z => n ⟨_, z ▸ s3 _ _ hf⟩).trans e, fun mm => n ?_⟩
            rcases mm with z | ⟨o'', z⟩
            · exact ⟨_, z ▸ s3 _ _ hf⟩
            · by_cases nb : b = x
              · exact ⟨_, nb ▸ hx30⟩
              · exact ⟨o'', s3 _ _ (kp b o'' z nb)⟩
        · intro b o' e n
          have nbf : b ≠ f := fun z => by rw [z, f0] at e; cases e
          exact (g5 b nbf).trans (k4 b _ (s3 _ _ (kp b o' e n)) n)
        · obtain ⟨dx4, h40⟩ := h4
          exact ⟨dx4, (g5 x fun z => nfx z.symm).trans h40⟩
        · have := congrArg List.length er
          rw [List.length_append] at this
          omega
    · have ek : k = row.length := by omega
      have en : row.drop k = [] := List.drop_eq_nil_of_le (by omega)
      have yI : inV (V.str (sOf ((EM.rowT (EM.innT d) (row.drop k) ++ post).take 1))) [V.str "", V.str "|", V.str ")"] = true := by
        rw [eI, decide_eq_true_eq, en]
        show (post.take 1) ∈ _
        cases post with
        | nil => simp
        | cons c r => rcases hpost c rfl with e | e <;> simp [e]
      refine ite2 (fun h => absurd h (by show ¬ (!inV (V.str (sOf ((EM.rowT (EM.innT d) (row.drop k) ++ post).take 1))) [V.str "", V.str "|", V.str ")"]) = true; rw [yI]; decide)) (fun _ => ?_)
      refine ⟨_, rfl, (by show 2 ≤ sizeLine; decide), fun u u0 => ?_⟩
      generalize e4 : upd H3 u _ = H4
      obtain ⟨s4, u1, g4⟩ := newE u0 e4
      have s34 := same_trans s3 s4
      have e0 : (EM.rowT (EM.innT d) (row.drop k)).length = 0 := by rw [en]; rfl
      have ei' : i + (EM.rowT (EM.innT d) row).length = i' := by omega
      rw [ek, List.take_length] at eac
      have sm : Same (hide (fun b => b = f ∨ old H b) H2) (hide (old H) H4) := hide_same fun b o' e n => ⟨s34 _ _ e, fun z => n (.inr z)⟩
      refine q (.ref u) H4 (fun b o' e n => s34 _ _ (kp b o' e n)) ?_ ⟨u, f, vs, rfl, hide_some.mpr ⟨fun ⟨o', z⟩ => ?_, u1⟩, hide_some.mpr ⟨fun ⟨o', z⟩ => (by rw [f0] at z; cases z), s34 _ _ hf⟩, eac.mono fun a b => ItT.mono (TrT.mono sm d) sm⟩
      · rw [ei']; exact hx2.same s34
      · have nux : u ≠ x := hx3.ne u0
        rw [s3 _ _ (kp u o' z nux)] at u0; cases u0
/-- further rows, each behind a bar -/
def tlR {α : Type} (t : α → List Nat) : List (List (α × EM.Sg)) → List Nat
  | [] => []
  | r :: rs => 124 :: EM.patT t (r :: rs)
theorem patT_cons {α : Type} {t : α → List Nat} (r : List (α × EM.Sg)) (rs : List (List (α × EM.Sg))) : EM.patT t (r :: rs) = EM.rowT t r ++ tlR t rs := by
  cases rs with
  | nil => show EM.rowT t r = _; simp [tlR]
  | cons q rs => rfl
theorem tlR_head {α : Type} {t : α → List Nat} {rs : List (List (α × EM.Sg))} {post : List Nat} (h : ∀ c, post.head? = some c → c = 41) : ∀ c, (tlR t rs ++ post).head? = some c → c = 124 ∨ c = 41 := by
  intro c e
  cases rs with
  | nil => exact .inr (h c e)
  | cons r rs => simp [tlR] at e; exact .inl e.symm
theorem or_kp {H H' : Hp} {x o : Addr} {txt l : List Nat} {i : Nat} (hx : RdAt K H x o txt i) (ho : OrAt K H o l) (k : Kp (only x) H H') : OrAt K H' o l := by
  obtain ⟨dx, hx⟩ := hx
  obtain ⟨dxo, rk, hoi, kvs, hk, hv⟩ := ho
  have nxo : o ≠ x := fun z => by
    rw [z, hx] at hoi
    injection hoi with hoi
    injection hoi with _ _ h3
    cases h3
  refine ⟨dxo, rk, k _ _ hoi nxo, kvs, k _ _ hk fun z => ?_, hv⟩
  have z : rk = x := z
  rw [z, hx] at hk; cases hk
theorem ok_rrows (T : Tx K mg) {d : Nat} (hs : Ok P w K mg base 1 (He.ma K (He.ga K "PatternReader") "sign") ["self"] (spSign K))
    (hp : Ok P w K mg base (4 * d + 5) (He.ma K (He.ga K "PatternReader") "row") ["self"] (spRow K d)) : Ok P w K mg base (4 * (d + 1) + 2) (He.ma K (He.ga K "PatternReader") "rows") ["self"] (spRows K (d + 1)) := by
  obtain ⟨_, F_PatternReader_sign, b_PatternReader_sign, _⟩ := hs
  obtain ⟨_, F_PatternReader_row, b_PatternReader_row, _⟩ := hp
  refine ok_mk (k := 4 * d + 5) T.fn_PatternReader_rows sc_PatternReader_rows (fun _ _ _ _ _ _ us hl => match us, hl with | [_], _ => rfl) (fun vs H Q E h => ?_) (fun cdv A outer s H vs Q E hr h => ?_)
  · obtain ⟨x, o, txt, l, post, i, y, rfl, _⟩ := h
    rfl
  · obtain ⟨x, o, txt, l, post, i, p, rfl, hx, ho, lok, tl, hd, il, wf, hpost, q⟩ := h
    have hr1 := hr.mono (show 1 ≤ 4 * d + 5 by omega)
    obtain ⟨dx, hx0⟩ := id hx
    refine ⟨_, (pss_cons (ps_set (i := 1) sc_PatternReader_rows.nd rfl (by first | exact Or.inl rfl | exact Or.inr rfl) (pe_lst (pa_cons (pe_meth0 (pv 0) T.c_PatternReader T.m_PatternReader_row F_PatternReader_row hr b_PatternReader_row .nil pass0) pa_nil)))
      (pss_cons (ps_while PassesOwn.never (pt_cmpR op_eq (pe_meth0 (pv 0) T.c_PatternReader T.m_PatternReader_sign F_PatternReader_sign hr1 b_PatternReader_sign .nil pass0) pe_str (nomark _)) (pss_cons (ps_fldaug (pv 0) pe_int in_add)
      (pss_one (ps_expr (pe_bm PySem.F.plainAttrs_list PySem.F.slot_list_append PySem.F.type_list_append mt_append (pv 1) (pa_cons (pe_meth0 (pv 0) T.c_PatternReader T.m_PatternReader_row F_PatternReader_row hr b_PatternReader_row .nil pass0) pa_nil))))))
      (pss_one (ps_ret (pe_tup (pa_cons pe_str (pa_cons (pv 1) pa_nil))))))), ?_⟩
    obtain ⟨wne, w2, wrow⟩ := wf
    have p0 : 0 < p.length := List.length_pos_iff.mpr wne
    have e0 : p = p[0] :: p.drop 1 := by have := List.drop_eq_getElem_cons p0; simpa using this
    have eT : EM.patT (EM.innT d) p = EM.rowT (EM.innT d) p[0] ++ tlR (EM.innT d) (p.drop 1) := by
      conv => lhs; rw [e0]
      exact patT_cons _ _
    have hd1 : txt.drop i = EM.rowT (EM.innT d) p[0] ++ (tlR (EM.innT d) (p.drop 1) ++ post) := by rw [hd, eT, List.append_assoc]
    obtain ⟨r3, rwf⟩ := wrow _ (List.getElem_mem p0)
    refine ⟨_, rfl, x, dx, _, rfl, hx0, rfl, x, o, txt, l, _, i, p[0], rfl, hx, ho, lok, tl, hd1, il, r3, rwf, tlR_head hpost, fun v H1 k1 h1 tr => ?_⟩
    refine ⟨(by show 1 ≤ sizeLine; decide), fun f f0 => ?_⟩
    generalize e2 : upd H1 f _ = H2
    obtain ⟨s2, f2, g2⟩ := newE f0 e2
    have nfx : f ≠ x := h1.ne f0
    have fH : H f = none := by
      cases e : H f with
      | none => rfl
      | some o' => rw [k1 f o' e nfx] at f0; cases f0
    have sm2 : Same (hide (old H) H1) (hide (fun b => b = f ∨ old H b) H2) := hide_same fun b o' e n => ⟨s2 _ _ e, fun m => m.elim (ne_of_none e f0) n⟩
    refine ⟨fun m σ H' => ∃ k vs i', σ = [some (.ref x), some (.ref f)] ∧ m + k = p.length ∧ H' f = some (.lst vs) ∧ Each (RwT (TrT l d) (hide (fun b => b = f ∨ old H b) H')) vs (p.take k) ∧ Kp (only x) H H' ∧
      RdAt K H' x o txt i' ∧ i' + (tlR (EM.innT d) (p.drop k)).length = i + (EM.patT (EM.innT d) p).length ∧ txt.drop i' = tlR (EM.innT d) (p.drop k) ++ post ∧ i' ≤ txt.length, ⟨p.length - 1, 1, [v], i + (EM.rowT (EM.innT d) p[0]).length, rfl, by omega, f2, ?_, fun b o' e n => s2 _ _ (k1 b o' e n), h1.same s2, ?_, drop_add hd1, drop_le hd1 il⟩, fun m σ H3 hP => ?_⟩
    · have : p.take 1 = [] ++ [p[0]] := by conv => lhs; rw [e0]
                                           rfl
      rw [this]
      exact Each.nil.snoc (as := []) (tr.mono (TrT.mono sm2 d) sm2)
    · rw [eT, List.length_append]; omega
    · obtain ⟨k, vs, i', rfl, mk, hf, eac, kp, hx3, ei, hd3, il3⟩ := hP
      obtain ⟨dx3, hx30⟩ := id hx3
      refine ⟨_, rfl, x, dx3, _, rfl, hx30, rfl, x, o, txt, i', rfl, hx3, il3, tl, ?_⟩
      rw [hd3]
      refine ⟨rfl, _, rfl, ?_⟩
      by_cases kl : k < p.length
      · have ed : p.drop k = p[k] :: p.drop (k + 1) := List.drop_eq_getElem_cons kl
        have er : tlR (EM.innT d) (p.drop k) = 124 :: (EM.rowT (EM.innT d) p[k] ++ tlR (EM.innT d) (p.drop (k + 1))) := by
          rw [ed]
          show 124 :: EM.patT (EM.innT d) (p[k] :: p.drop (k + 1)) = _
          rw [patT_cons]
        obtain ⟨r3, rwf⟩ := wrow _ (List.getElem_mem kl)
        have hs1 : (tlR (EM.innT d) (p.drop k) ++ post).take 1 = [124] := by rw [er]; rfl
        rw [hs1]
        refine ite2 (fun _ => ?_) (fun h => absurd (by decide) h)
        refine ⟨fun σ' H' => ∃ m', m' < m ∧ ∃ k vs i', σ' = [some (.ref x), some (.ref f)] ∧ m' + k = p.length ∧ H' f = some (.lst vs) ∧ Each (RwT (TrT l d) (hide (fun b => b = f ∨ old H b) H')) vs (p.take k) ∧ Kp (only x) H H' ∧
          RdAt K H' x o txt i' ∧ i' + (tlR (EM.innT d) (p.drop k)).length = i + (EM.patT (EM.innT d) p).length ∧ txt.drop i' = tlR (EM.innT d) (p.drop k) ++ post ∧ i' ≤ txt.length, fun _ _ h => h, ?_⟩
        refine ⟨_, rfl, x, _, dx3, _, _, rfl, hx30, T.c_PatternReader, T.n_PatternReader_at, rfl, _, _, rfl, rfl, dx3, _, hx30, (by show 3 < 1000; decide), ?_⟩
        have k4 : Kp (only x) H3 (upd H3 x (.ins (He.ga K "PatternReader") dx3 (putF "at" (.int (((i' : Nat) : Int) + 1)) [("order", .ref o), ("signs", .str (sOf txt)), ("at", .int (i' : Nat))]))) := Kp.put rfl
        have hx4 : RdAt K (upd H3 x (.ins (He.ga K "PatternReader") dx3 (putF "at" (.int (((i' : Nat) : Int) + 1)) [("order", .ref o), ("signs", .str (sOf txt)), ("at", .int (i' : Nat))]))) x o txt (i' + 1) := ⟨dx3, upd_same⟩
        generalize upd H3 x _ = H4 at k4 hx4
        obtain ⟨dx4, hx40⟩ := id hx4
        have hf4 := k4 f _ hf nfx
        have hd4' : txt.drop (i' + 1) = EM.rowT (EM.innT d) p[k] ++ (tlR (EM.innT d) (p.drop (k + 1)) ++ post) := by
          rw [← List.drop_drop, hd3, er]
          simp
        have il4 : i' + 1 ≤ txt.length := by
          have := congrArg List.length hd3
          rw [List.length_drop, List.length_append, er, List.length_cons] at this
          omega
        have kp4 := kp.trans k4
        refine ⟨_, rfl, .inl ⟨rfl, _, SqL.of hf4⟩, _, rfl, x, dx4, _, rfl, hx40, rfl, x, o, txt, l, _, i' + 1, p[k], rfl, hx4, or_kp hx ho kp4, lok, tl, hd4', il4, r3, rwf, tlR_head hpost, fun v H5 k5 h5 tr => ?_⟩
        have hf5 := k5 f _ hf4 nfx
        have sm45 : Same (hide (fun b => b = f ∨ old H b) H3) (hide (fun b => b = f ∨ old H b) H5) := hide_same fun b o' e n =>
          have nb : b ≠ x := fun z => n (.inr ⟨_, z ▸ hx0⟩)
          ⟨k5 b _ (k4 b o' e nb) nb, n⟩
        refine ⟨f, _, _, rfl, rfl, hf5, by have := eac.1; rw [List.length_take] at this; unfold sizeLine; omega, ?_⟩
        generalize e6 : upd H5 f _ = H6
        obtain ⟨f6, g6⟩ := putE e6
        have sm6 : Same (hide (fun b => b = f ∨ old H b) H5) (hide (fun b => b = f ∨ old H b) H6) := hide_same fun b o' e n => ⟨(g6 b fun z => n (.inl z)).trans e, n⟩
        have sm := same_trans sm45 sm6
        refine ⟨m - 1, by omega, k + 1, vs ++ [v], i' + 1 + (EM.rowT (EM.innT d) p[k]).length, rfl, by omega, f6, ?_, ?_, ?_, ?_, drop_add hd4', drop_le hd4' il4⟩
        · rw [List.take_succ, List.getElem?_eq_getElem kl]
          refine (eac.mono fun a b => RwT.mono (TrT.mono sm d) sm).snoc (tr.mono (TrT.mono ?_ d) ?_) <;>
          · refine hide_same fun b o' e n => ⟨(g6 b fun z => n ⟨_, z ▸ hf4⟩).trans e, fun mm => n ?_⟩
            rcases mm with z | ⟨o'', z⟩
            · exact ⟨_, z ▸ hf4⟩
            · by_cases nb : b = x
              · exact ⟨_, nb ▸ hx40⟩
              · exact ⟨o'', kp4 b o'' z nb⟩
        · intro b o' e n
          have nbf : b ≠ f := fun z => by rw [z, fH] at e; cases e
          exact (g6 b nbf).trans (k5 b _ (kp4 b o' e n) n)
        · obtain ⟨dx5, h50⟩ := h5
          exact ⟨dx5, (g6 x fun z => nfx z.symm).trans h50⟩
        · have := congrArg List.length er
          rw [List.length_cons, List.length_append] at this
          omega
      · have ek : k = p.length := by omega
        have en : p.drop k = [] := List.drop_eq_nil_of_le (by omega)
        have hs1 : ¬ decide (V.str (sOf ((tlR (EM.innT d) (p.drop k) ++ post).take 1)) = V.str "|") = true := by
          rw [en, decide_eq_true_eq]
          intro z
          injection z with z
          have z := sOf_inj (show sOf (post.take 1) = sOf [124] from z)
          cases post with
          | nil => simp at z
          | cons c r => have := hpost c rfl; simp at z; omega
        refine ite2 (fun h => absurd h hs1) (fun _ => ?_)
        refine ⟨_, rfl, (by show 2 ≤ sizeLine; decide), fun u u0 => ?_⟩
        generalize e4 : upd H3 u _ = H4
        obtain ⟨s4, u1, g4⟩ := newE u0 e4
        have e0' : (tlR (EM.innT d) (p.drop k)).length = 0 := by rw [en]; rfl
        have ei' : i + (EM.patT (EM.innT d) p).length = i' := by omega
        rw [ek, List.take_length] at eac
        have sm : Same (hide (fun b => b = f ∨ old H b) H3) (hide (old H) H4) := hide_same fun b o' e n => ⟨s4 _ _ e, fun z => n (.inr z)⟩
        refine q (.ref u) H4 (fun b o' e n => s4 _ _ (kp b o' e n)) ?_ ⟨u, f, vs, rfl, hide_some.mpr ⟨fun ⟨o', z⟩ => ?_, u1⟩, hide_some.mpr ⟨fun ⟨o', z⟩ => (by rw [fH] at z; cases z), s4 _ _ hf⟩, eac.mono fun a b => RwT.mono (TrT.mono sm d) sm⟩
        · rw [ei']; exact hx3.same s4
        · have nux : u ≠ x := hx3.ne u0
          rw [kp u o' z nux] at u0; cases u0
theorem ok_reader (T : Tx K mg) (hs : Ok P w K mg base 1 (He.ma K (He.ga K "PatternReader") "sign") ["self"] (spSign K)) (hh : Ok P w K mg base 1 (He.ma K (He.ga K "Order") "__contains__") ["self", "thing"] (spHas K)) :
    ∀ d, Ok P w K mg base (4 * d + 2) (He.ma K (He.ga K "PatternReader") "rows") ["self"] (spRows K d) := by
  intro d
  induction d with
  | zero => exact ok_mk T.fn_PatternReader_rows sc_PatternReader_rows (fun _ _ _ _ _ _ us hl => match us, hl with | [_], _ => rfl) (fun vs H Q E h => h.elim) (fun cdv A outer s H vs Q E hr h => h.elim)
  | succ d ih => exact ok_rrows T hs (ok_rrow T hs (ok_ritem T hs (ok_rplain T hs hh ih)))
end
end E

set_option autoImplicit true
set_option maxHeartbeats 4000000
set_option Elab.async false
set_option linter.all false
set_option maxRecDepth 100000
set_option maxHeartbeats 4000000
/-! The spots of a pattern. -/
namespace E
open PySem PySem.Spec PyProof.Rows L2
/-- what a Spots object holds: its list of letters, its dict of followers, the followers' lists -/
structure St where
  L : Addr
  Fo : Addr
  ltl : List (List Nat)
  fas : List Addr
  fws : List (List Nat)
namespace St
def lt (st : St) (q : Nat) : List Nat := st.ltl.getD q []
def fw (st : St) (q : Nat) : List Nat := st.fws.getD q []
def m (st : St) : Nat := st.ltl.length - 1
def M (st : St) : AP := fun b => b = st.L ∨ b = st.Fo ∨ b ∈ st.fas
end St
structure SpAt (K : PySem.W.Frag) (H : Hp) (x : Addr) (st : St) : Prop where
  obj : ∃ dx, H x = some (.ins (He.ga K "Spots") dx [("letters", .ref st.L), ("follow", .ref st.Fo)])
  let' : H st.L = some (.lst (txts st.ltl))
  fol : ∃ kvs : List (Key × V), H st.Fo = some (.dK kvs) ∧ kvs.length ≤ st.ltl.length ∧ ∀ (q : Nat) a, st.fas[q]? = some a → valV kvs (.inl (q : Nat)) = some (.ref a)
  lsts : ∀ (q : Nat) a f, st.fas[q]? = some a → st.fws[q]? = some f → H a = some (.lst (natsV f))
  nd : st.fas.Nodup
  nL : st.L ∉ st.fas
  fl : st.fas.length = st.ltl.length
  wl : st.fws.length = st.ltl.length
  pos : 0 < st.ltl.length
theorem SpAt.kp {K : PySem.W.Frag} {H H' : Hp} {x : Addr} {st : St} {N : AP} (h : SpAt K H x st) (k : Kp N H H') (n : ∀ b, N b → b = x ∨ st.M b → False) : SpAt K H' x st := by
  obtain ⟨⟨dx, h1⟩, h2, ⟨kvs, h3, h4, h5⟩, h6, h7, h8, h9, h10, h11⟩ := h
  refine ⟨⟨dx, k _ _ h1 fun z => n _ z (.inl rfl)⟩, k _ _ h2 fun z => n _ z (.inr (.inl rfl)), ⟨kvs, k _ _ h3 fun z => n _ z (.inr (.inr (.inl rfl))), h4, h5⟩, fun q a f ha hf => k _ _ (h6 q a f ha hf) fun z => n _ z (.inr (.inr (.inr (List.mem_of_getElem? ha)))), h7, h8, h9, h10, h11⟩
theorem SpAt.same {K : PySem.W.Frag} {H H' : Hp} {x : Addr} {st : St} (h : SpAt K H x st) (s : Same H H') : SpAt K H' x st := h.kp (N := none') (Same.kp s) fun _ z => z.elim
theorem SpAt.has {K : PySem.W.Frag} {H : Hp} {x : Addr} {st : St} (h : SpAt K H x st) {b : Addr} (hb : st.M b) : ∃ o, H b = some o := by
  rcases hb with e | e | e
  · exact ⟨_, e ▸ h.let'⟩
  · obtain ⟨kvs, h3, _⟩ := h.fol
    exact ⟨_, e ▸ h3⟩
  · obtain ⟨q, hq, e⟩ := List.getElem_of_mem e
    have h1 : st.fas[q]? = some b := by rw [List.getElem?_eq_getElem hq, e]
    have hq' : q < st.fws.length := by rw [h.wl, ← h.fl]; exact hq
    exact ⟨_, h.lsts q b _ h1 (List.getElem?_eq_getElem hq')⟩
theorem SpAt.nx {K : PySem.W.Frag} {H : Hp} {x : Addr} {st : St} (h : SpAt K H x st) : ¬ st.M x := by
  obtain ⟨dx, h1⟩ := h.obj
  rintro (e | e | e)
  · have := h.let'; rw [← e, h1] at this; cases this
  · obtain ⟨kvs, h3, _⟩ := h.fol; rw [← e, h1] at h3; cases h3
  · obtain ⟨q, hq, e⟩ := List.getElem_of_mem e
    have h2 : st.fas[q]? = some x := by rw [List.getElem?_eq_getElem hq, e]
    have hq' : q < st.fws.length := by rw [h.wl, ← h.fl]; exact hq
    have := h.lsts q x _ h2 (List.getElem?_eq_getElem hq')
    rw [h1] at this; cases this
theorem SpAt.here {K : PySem.W.Frag} {H : Hp} {x : Addr} {st : St} (h : SpAt K H x st) {q : Nat} (hq : q ≤ st.m) : ∃ a, st.fas[q]? = some a ∧ st.fws[q]? = some (st.fw q) ∧ H a = some (.lst (natsV (st.fw q))) := by
  have p := h.pos
  have q1 : q < st.fas.length := by rw [h.fl]; unfold St.m at hq; omega
  have q2 : q < st.fws.length := by rw [h.wl]; unfold St.m at hq; omega
  have e : st.fws[q]? = some (st.fw q) := by
    unfold St.fw
    rw [List.getD_eq_getElem?_getD, List.getElem?_eq_getElem q2]; rfl
  exact ⟨st.fas[q], List.getElem?_eq_getElem q1, e, h.lsts q _ _ (List.getElem?_eq_getElem q1) e⟩
section
variable {P : Program} {w : World} {K : PySem.W.Frag} {mg : Str → Option Value} {base : Heap}
def spSpInit (K : PySem.W.Frag) : Sp := fun vs H Q _ => ∃ (x dx : Addr), vs = [.ref x] ∧ H x = some (.ins (He.ga K "Spots") dx []) ∧ ∀ st H', Kp (only x) H H' → SpAt K H' x st → st.ltl = [[]] → st.fws = [[]] → (∀ b, st.M b → H b = none) → Q .non H'
theorem ok_spinit (T : Tx K mg) : Ok P w K mg base 1 (He.ma K (He.ga K "Spots") "__init__") ["self"] (spSpInit K) := by
  refine ok_mk T.fn_Spots_init sc_Spots_init (fun _ _ _ _ _ _ us hl => match us, hl with | [_], _ => rfl) (fun vs H Q E h => ?_) (fun cdv A outer s H vs Q E hr h => ?_)
  · obtain ⟨x, dx, rfl, _⟩ := h
    rfl
  · obtain ⟨x, dx, rfl, hx, q⟩ := h
    refine ⟨_, (pss_cons (ps_fld (pv 0) (pe_lst (pa_cons pe_str pa_nil)) rfl)
      (pss_one (ps_fld (pv 0) (pe_disp (pps_cons pe_int (pe_lst pa_nil) pps_nil) (by rfl) (by rfl) (fun z => by cases z) (by decide)) rfl))), ?_⟩
    refine ⟨(by show 1 ≤ sizeLine; decide), fun L L0 => ?_⟩
    generalize e1 : upd H L _ = H1
    obtain ⟨s1, L1, f1⟩ := newE L0 e1
    have nLx : x ≠ L := ne_of_none hx L0
    refine ⟨_, rfl, x, _, dx, _, rfl, s1 _ _ hx, T.c_Spots, T.n_Spots_letters, by decide, ?_⟩
    generalize e2 : upd H1 x _ = H2
    obtain ⟨x2, f2⟩ := putE e2
    refine fun D D0 => ?_
    generalize e3 : upd H2 D _ = H3
    obtain ⟨s3, D3, f3⟩ := newE D0 e3
    refine ⟨by decide, fun a a0 => ?_⟩
    generalize e4 : upd H3 a _ = H4
    obtain ⟨s4, a4, f4⟩ := newE a0 e4
    refine ⟨s4 _ _ D3, [(.inl 0, .ref a)], rfl, (by show 1 ≤ 15; decide), ?_⟩
    generalize e5 : upd H4 D _ = H5
    obtain ⟨D5, f5⟩ := putE e5
    have nDx : x ≠ D := ne_of_none x2 D0
    have nax : x ≠ a := ne_of_none (s3 _ _ x2) a0
    have naD : D ≠ a := ne_of_none D3 a0
    have L2' : H2 L = some (.lst [.str ""]) := (f2 L fun z => nLx z.symm).trans L1
    have nLD : L ≠ D := ne_of_none L2' D0
    have nLa : L ≠ a := ne_of_none (s3 _ _ L2') a0
    refine ⟨_, rfl, x, _, dx, _, rfl, (f5 x nDx).trans (s4 _ _ (s3 _ _ x2)), T.c_Spots, T.n_Spots_follow, (by show 1 < 1000; decide), ?_⟩
    generalize e6 : upd H5 x _ = H6
    obtain ⟨x6, f6⟩ := putE e6
    have pre : ∀ b, b ≠ x → b ≠ D → H6 b = H4 b := fun b n1 n2 => (f6 b n1).trans (f5 b n2)
    refine q ⟨L, D, [[]], [a], [[]]⟩ H6 (fun b o e n => ?_) ⟨⟨dx, x6⟩, ?_, ⟨_, (f6 D fun z => nDx z.symm).trans D5, Nat.le_refl 1, fun i b hb => ?_⟩, fun i b f hb hf => ?_, by simp, fun m => nLa (List.mem_singleton.mp m), rfl, rfl, Nat.one_pos⟩ rfl rfl (fun b hb => ?_)
    · have e2' : H2 b = some o := (f2 b n).trans (s1 _ _ e)
      exact (pre b n (ne_of_none e2' D0)).trans (s4 _ _ (s3 _ _ e2'))
    · exact (pre L (fun z => nLx z.symm) nLD).trans (s4 _ _ (s3 _ _ L2'))
    · cases i with
      | zero => cases hb; rfl
      | succ i => cases hb
    · cases i with
      | zero => cases hb; cases hf; exact (pre a (fun z => nax z.symm) (fun z => naD z.symm)).trans a4
      | succ i => cases hb
    · have low : ∀ c, H2 c = none → c ≠ x → H c = none := fun c hc n => by
        have := (f2 c n).symm.trans hc
        exact same_free s1 this
      rcases hb with e | e | e
      · exact e ▸ L0
      · exact e ▸ low D D0 (fun z => nDx z.symm)
      · have e := List.mem_singleton.mp e
        exact e ▸ low a (same_free s3 a0) (fun z => nax z.symm)
/-- followers: each once, all there -/
def Bd (st : St) : Prop := st.m ≤ 7 ∧ ∀ p, (st.fw p).Nodup ∧ ∀ q, q ∈ st.fw p → q ≤ st.m
theorem nodup_le {l : List Nat} {m : Nat} (nd : l.Nodup) (h : ∀ q, q ∈ l → q ≤ m) : l.length ≤ m + 1 := by
  have := List.Nodup.length_le_of_subset nd (l₂ := List.range (m + 1)) fun j hj => List.mem_range.mpr (by have := h j hj; omega)
  rwa [List.length_range] at this
def spLink (K : PySem.W.Frag) : Sp := fun vs H Q _ => ∃ (x F La : Addr) (st : St) (fs las : List Nat), vs = [.ref x, .ref F, .ref La] ∧ SpAt K H x st ∧ Bd st ∧ hide st.M H F = some (.lst (natsV fs)) ∧ hide st.M H La = some (.lst (natsV las)) ∧ fs.Nodup ∧ (∀ q, q ∈ las → q ≤ st.m) ∧ (∀ q, q ∈ fs → q ≤ st.m) ∧
  ∀ fws' H', SpAt K H' x { st with fws := fws' } → Bd { st with fws := fws' } → Kp st.M H H' → EM.Joined st.fw (St.fw { st with fws := fws' }) fs las → (∀ q, q ∉ las → St.fw { st with fws := fws' } q = st.fw q) → Q .non H'
theorem getD_set (l : List (List Nat)) (k q : Nat) (f : List Nat) (h : k < l.length) : (l.set k f).getD q [] = if q = k then f else l.getD q [] := by
  rw [List.getD_eq_getElem?_getD, List.getD_eq_getElem?_getD, List.getElem?_set]
  by_cases e : k = q
  · subst e; rw [if_pos rfl, if_pos h, if_pos rfl]; rfl
  · rw [if_neg e, if_neg fun z => e z.symm]
theorem ok_link (T : Tx K mg) : Ok P w K mg base 1 (He.ma K (He.ga K "Spots") "link") ["self", "firsts", "lasts"] (spLink K) := by
  refine ok_mk T.fn_Spots_link sc_Spots_link (fun _ _ _ _ _ _ us hl => match us, hl with | [_, _, _], _ => rfl) (fun vs H Q E h => ?_) (fun cdv A outer s H vs Q E hr h => ?_)
  · obtain ⟨x, F, La, st, fs, las, rfl, _⟩ := h
    rfl
  · obtain ⟨x, F, La, st, fs, las, rfl, hx, bd, hF, hLa, fnd, lm, fm, q⟩ := h
    have hu := hu_of hr
    refine ⟨_, (pss_one (ps_for PassesOwn.never rfl (pi_list (pv 2)) (pg_name (i := 3) sc_Spots_link.nd rfl (by first | exact Or.inl rfl | exact Or.inr rfl)) (pss_one (ps_expr (pe_bm PySem.F.plainAttrs_list PySem.F.slot_list_extend PySem.F.type_list_extend mt_extend (pe_dget hu (pe_fld (pv 0) rfl) (pv 3) (fun _ _ => rfl)) (pa_cons (pe_lc (own := [("first", 4)]) (g := gName 4)  (by rfl) sc_Spots_link.nd (pi_list (pv 1)) (blkOk_by (own := [("first", 4)]) (N := N_Spots_link) (sc := defScope s_Spots_link) (by decide +kernel)) (fun _ _ _ _ _ => (pg_name (i := 4) sc_Spots_link.nd rfl (Or.inl rfl))) (fun _ _ _ _ _ => pts_one (pt_cmpR (op_notIn_seqK rfl) (pv 4) (pe_dget hu (pe_fldK rfl (pv 0) rfl) (pv 3) (fun _ _ => rfl)) rfl)) (fun _ _ _ _ _ => (pv 4))) pa_nil)))))), ?_⟩
    obtain ⟨nF, hF0⟩ := hide_some.mp hF
    obtain ⟨nLa, hLa0⟩ := hide_some.mp hLa
    have fl8 := nodup_le fnd fm
    have m7 := bd.1
    refine ⟨_, rfl, La, rfl, ⟨_, SqL.of hLa0⟩, ?_⟩
    refine for_list (xs := natsV las) (fun i σ H' => ∃ x3 x4 fws', σ = [some (.ref x), some (.ref F), some (.ref La), x3, x4] ∧ SpAt K H' x { st with fws := fws' } ∧ Bd { st with fws := fws' } ∧ Kp st.M H H' ∧
      EM.Joined st.fw (St.fw { st with fws := fws' }) fs (las.take i) ∧ ∀ q, q ∉ las.take i → St.fw { st with fws := fws' } q = st.fw q) ?_ (fun i σ H' _ hI => ?_) (fun i v σ H' hv hI => ?_) (fun σ H' hI => ?_)
    · exact ⟨_, _, st.fws, rfl, hx, bd, Kp.refl _, ⟨fun p q => by simp, fun p h => h⟩, fun q _ => rfl⟩
    · obtain ⟨_, _, _, rfl, _, _, kp, _⟩ := hI
      exact SqL.of (kp _ _ hLa0 nLa)
    · obtain ⟨x3, x4, fws', rfl, hx', bd', kp, jn, eqn⟩ := hI
      obtain ⟨p, hp, rfl⟩ := natsV_get hv
      have pm := lm p (List.mem_of_getElem? hp)
      obtain ⟨a, ha, hf, haL⟩ := hx'.here (q := p) pm
      obtain ⟨dx, hobj⟩ := hx'.obj
      obtain ⟨kvs, hFo, kl, kv⟩ := hx'.fol
      have hF' := kp _ _ hF0 nF
      have ha : st.fas[p]? = some a := ha
      have aM : st.M a := .inr (.inr (List.mem_of_getElem? ha))
      generalize eg : St.fw { st with fws := fws' } p = g at hf haL
      have gnd := eg ▸ (bd'.2 p).1
      have gm : ∀ q, q ∈ g → q ≤ st.m := eg ▸ (bd'.2 p).2
      have gl8 := nodup_le gnd gm
      refine ⟨_, rfl, x, _, dx, _, _, rfl, hobj, T.c_Spots, T.n_Spots_follow, rfl, _, rfl, st.Fo, .ref a, rfl, kv p a ha ▸ DGet.k (k := .inl (p : Nat)) hFo, .inl ⟨rfl, _, SqL.of haL⟩, _, rfl, F, rfl, ⟨_, SqL.of hF'⟩, fun D D0 => ?_⟩
      refine lc_list (xs := natsV fs) (PB H' D (filR fs fun j => !inV (V.int (j : Nat)) (natsV g))) (PB.start D0 fun _ _ => rfl) (filt_lst hF') (fun k z H3 hz hP => ?_) (fun H3 hP => ?_)
      · obtain ⟨j, hj, rfl⟩ := natsV_get hz
        obtain ⟨acc, b', r⟩ := hP
        refine ⟨rfl, _, rfl, _, rfl, x, _, dx, _, _, rfl, b'.1 _ _ hobj, T.c_Spots, T.n_Spots_follow, rfl, _, rfl, st.Fo, .ref a, rfl, kv p a ha ▸ DGet.k (k := .inl (p : Nat)) (b'.1 _ _ hFo), ?_⟩
        refine ⟨a, _, rfl, .inl (SqL.of (b'.1 _ _ haL)), rfl, flat_nats g, _, rfl, ?_⟩
        exact filt_step rfl b' r D0 hj (by unfold sizeLine; omega)
      · have b' := filR_end hP
        have ff : (fs.filter fun j => !inV (V.int (j : Nat)) (natsV g)).length ≤ fs.length := List.length_filter_le _ _
        refine ⟨a, D, _, _, rfl, rfl, b'.1 _ _ haL, b'.2, by rw [natsV_len, natsV_len]; unfold sizeLine; omega, ?_⟩
        generalize e4 : upd H3 a _ = H4
        obtain ⟨a4, f4⟩ := putE e4
        have mf : ∀ j, j ∈ (fs.filter fun j => !inV (V.int (j : Nat)) (natsV g)) ↔ j ∈ fs ∧ j ∉ g := by
          intro j
          rw [List.mem_filter, inV_nat]
          simp
        generalize ez : (fs.filter fun j => !inV (V.int (j : Nat)) (natsV g)) = z at mf a4
        have znd : z.Nodup := ez ▸ fnd.filter _
        have pl : p < fws'.length := (List.getElem?_eq_some_iff.mp hf).1
        have efw : ∀ c, St.fw { st with fws := fws'.set p (g ++ z) } c = if c = p then g ++ z else St.fw { st with fws := fws' } c := fun c => getD_set _ _ _ _ pl
        have kp3 : Kp st.M H' H4 := fun b o e n => (f4 b fun y => n (y ▸ aM)).trans (b'.1 _ _ e)
        have bd4 : Bd { st with fws := fws'.set p (g ++ z) } := by
          refine ⟨bd.1, fun c => ?_⟩
          rw [efw c]
          by_cases ec : c = p
          · rw [if_pos ec]
            refine ⟨List.nodup_append.mpr ⟨gnd, znd, fun a ha c hc e => ((mf c).mp hc).2 (e ▸ ha)⟩, fun q hq => ?_⟩
            rcases List.mem_append.mp hq with hq | hq
            · exact gm q hq
            · exact fm q ((mf q).mp hq).1
          · rw [if_neg ec]; exact bd'.2 c
        refine ⟨_, _, fws'.set p (g ++ z), rfl, ?_, bd4, kp.trans kp3, ⟨fun c d => ?_, fun c hc => (bd4.2 c).1⟩, fun c hc => ?_⟩
        · have hs3 := hx'.same b'.1
          refine ⟨⟨dx, (f4 x fun y => hx'.nx (y ▸ aM)).trans (b'.1 _ _ hobj)⟩, (f4 st.L fun y : st.L = a => hx'.nL (show st.L ∈ st.fas by rw [y]; exact List.mem_of_getElem? ha)).trans hs3.let', ⟨kvs, (f4 st.Fo fun y : st.Fo = a => (by rw [show ({ st with fws := fws' } : St).Fo = st.Fo from rfl, y, haL] at hFo; cases hFo)).trans (b'.1 _ _ hFo), kl, kv⟩, fun c b f hb hf' => ?_, hx'.nd, hx'.nL, hx'.fl, ?_, hx'.pos⟩
          · have hb : st.fas[c]? = some b := hb
            have hf' : (fws'.set p (g ++ z))[c]? = some f := hf'
            rw [List.getElem?_set] at hf'
            by_cases ec : p = c
            · subst ec
              rw [ha] at hb
              cases hb
              rw [if_pos rfl, if_pos pl] at hf'
              cases hf'
              rw [a4, natsV_app]
            · rw [if_neg ec] at hf'
              have nb : b ≠ a := fun y => ec ((List.getElem?_inj (List.getElem?_eq_some_iff.mp ha).1 hx'.nd).mp (by show st.fas[p]? = st.fas[c]?; rw [ha, hb, y]))
              exact (f4 b nb).trans (hs3.lsts c b f hb hf')
          · show (fws'.set p (g ++ z)).length = _
            rw [List.length_set]; exact hx'.wl
        · rw [efw c, List.take_succ, hp]
          have base := jn.1 c d
          by_cases ec : c = p
          · subst ec
            rw [if_pos rfl, List.mem_append, mf]
            rw [eg] at base
            rw [base]
            constructor
            · rintro ((k | ⟨k1, k2⟩) | ⟨k1, _⟩)
              · exact .inl k
              · exact .inr ⟨List.mem_append.mpr (.inl k1), k2⟩
              · exact .inr ⟨by simp, k1⟩
            · rintro (k | ⟨k1, k2⟩)
              · exact .inl (.inl k)
              · by_cases hg : d ∈ g
                · exact .inl (base.mp hg)
                · refine .inr ⟨k2, ?_⟩
                  rw [← base]; exact hg
          · rw [if_neg ec, base]
            have : c ∈ las.take i ++ (some p).toList ↔ c ∈ las.take i := by simp [ec]
            rw [this]
        · rw [List.take_succ, hp] at hc
          have h1 : c ≠ p := fun z => hc (by rw [z]; simp)
          rw [efw c, if_neg h1]
          exact eqn c fun z => hc (List.mem_append.mpr (.inl z))
    · obtain ⟨x3, x4, fws', rfl, hx', bd', kp, jn, eqn⟩ := hI
      rw [natsV_len, List.take_length] at jn eqn
      exact q fws' H' hx' bd' kp jn eqn
theorem natsV_ints (gs : List Nat) : natsV gs = (gs.map fun j : Nat => (j : Int)).map V.int := by simp [natsV, Function.comp_def]
theorem natsV_sorted {ns : List Int} {l : List Nat} (h1 : ns.Pairwise (· < ·)) (h2 : l.Pairwise (· < ·)) (h : ∀ k : Int, k ∈ ns ↔ ∃ j, j ∈ l ∧ (j : Int) = k) : ns.map V.int = natsV l := by
  have e : ns.map Int.toNat = l := by
    refine EM.sorted_ext ?_ h2 fun x => ?_
    · refine List.pairwise_map.mpr (List.Pairwise.imp_of_mem (fun {a b} ha hb hab => ?_) h1)
      obtain ⟨i, _, rfl⟩ := (h a).mp ha
      obtain ⟨j, _, rfl⟩ := (h b).mp hb
      simp; omega
    · rw [List.mem_map]
      constructor
      · rintro ⟨k, hk, rfl⟩
        obtain ⟨j, hj, rfl⟩ := (h k).mp hk
        simpa using hj
      · intro hx
        exact ⟨(x : Int), (h _).mpr ⟨x, hx, rfl⟩, by simp⟩
  have e2 : ns = l.map fun j : Nat => (j : Int) := by
    rw [← e, List.map_map]
    conv => lhs; rw [← List.map_id ns]
    refine List.map_congr_left fun k hk => ?_
    obtain ⟨j, _, rfl⟩ := (h k).mp hk
    simp
  rw [e2, natsV_ints]
def spNext (K : PySem.W.Frag) : Sp := fun vs H Q _ => ∃ (x s : Addr) (st : St) (X : List Nat) (c : Nat), vs = [.ref x, .ref s, .str (sOf [c])] ∧ SpAt K H x st ∧ Bd st ∧ H s = some (.tup (natsV X)) ∧ X.length ≤ 8 ∧ (∀ p, p ∈ X → p ≤ st.m) ∧
  ∀ t H', Same H H' → H' t = some (.tup (natsV (EM.nxt st.lt st.fw st.m X c))) → Q (.ref t) H'
theorem ok_next (T : Tx K mg) : Ok P w K mg base 1 (He.ma K (He.ga K "Spots") "next_state") ["self", "state", "letter"] (spNext K) := by
  refine ok_mk T.fn_Spots_next_state sc_Spots_next_state (fun _ _ _ _ _ _ us hl => match us, hl with | [_, _, _], _ => rfl) (fun vs H Q E h => ?_) (fun cdv A outer s H vs Q E hr h => ?_)
  · obtain ⟨x, s, st, X, c, rfl, _⟩ := h
    rfl
  · obtain ⟨x, s, st, X, c, rfl, hx, bd, hs, X8, Xm, q⟩ := h
    have hu := hu_of hr
    refine ⟨_, (pss_cons (ps_set (i := 3) sc_Spots_next_state.nd rfl (by first | exact Or.inl rfl | exact Or.inr rfl) (pe_lst pa_nil))
      (pss_cons (ps_for PassesOwn.never rfl (pi_tup (pv 1)) (pg_name (i := 4) sc_Spots_next_state.nd rfl (by first | exact Or.inl rfl | exact Or.inr rfl)) (pss_one (ps_expr (pe_bm PySem.F.plainAttrs_list PySem.F.slot_list_extend PySem.F.type_list_extend mt_extend (pv 3) (pa_cons (pe_lc (own := [("then", 5)]) (g := gName 5)  (by rfl) sc_Spots_next_state.nd (pi_list (pe_dget hu (pe_fld (pv 0) rfl) (pv 4) (fun _ _ => rfl))) (blkOk_by (own := [("then", 5)]) (N := N_Spots_next_state) (sc := defScope s_Spots_next_state) (by decide +kernel)) (fun _ _ _ _ _ => (pg_name (i := 5) sc_Spots_next_state.nd rfl (Or.inl rfl))) (fun _ _ _ _ _ => pts_one (pt_cmpR op_in_sign (pv 2) (pe_ix (ix_listK rfl) (pe_fldK rfl (pv 0) rfl) (pv 5) (fun _ _ => rfl)) rfl)) (fun _ _ _ _ _ => (pv 5))) pa_nil)))))
      (pss_one (ps_ret (pe_callTy call_tuple_of (by rfl) T.f_tuple (by decide +kernel) (pa_cons (pe_callB (cr_sortedSetA (by rfl)) (by rfl) T.f_sorted (by decide +kernel) (pa_cons (pe_callTy (cr_setInts (by rfl)) (by rfl) T.f_set (by decide +kernel) (pa_cons (pv 3) pa_nil)) pa_nil)) pa_nil)))))), ?_⟩
    have m7 := bd.1
    refine ⟨by decide, fun f f0 => ?_⟩
    generalize e1 : upd H f _ = H1
    have b1 : Bl H f H1 [] := e1 ▸ Bl.start f0
    obtain ⟨dx, hobj⟩ := hx.obj
    obtain ⟨kvs, hFo, kl, kv⟩ := hx.fol
    refine ⟨_, rfl, s, rfl, ⟨_, SqT.of (b1.1 _ _ hs)⟩, ?_⟩
    refine for_tup (xs := natsV X) (fun i σ H' => ∃ x4 x5 gs, σ = [some (.ref x), some (.ref s), some (.str (sOf [c])), some (.ref f), x4, x5] ∧ Bl H f H' (natsV gs) ∧ gs.length ≤ 8 * i ∧ ∀ q, q ∈ gs ↔ ∃ p, p ∈ X.take i ∧ q ∈ st.fw p ∧ c ∈ st.lt q) ?_ (fun i σ H' _ hI => ?_) (fun i v σ H' hv hI => ?_) (fun σ H' hI => ?_)
    · exact ⟨_, _, [], rfl, b1, by simp, fun q => by simp⟩
    · obtain ⟨_, _, _, rfl, b, _⟩ := hI
      exact SqT.of (b.1 _ _ hs)
    · obtain ⟨x4, x5, gs, rfl, b, gl, gm⟩ := hI
      obtain ⟨p, hp, rfl⟩ := natsV_get hv
      have il : i < X.length := (List.getElem?_eq_some_iff.mp hp).1
      have pm := Xm p (List.mem_of_getElem? hp)
      obtain ⟨a, ha, hf, haL⟩ := hx.here pm
      have fl := nodup_le (bd.2 p).1 (bd.2 p).2
      have haL' := b.1 _ _ haL
      refine ⟨_, rfl, .inl ⟨rfl, _, SqL.of b.2⟩, _, rfl, x, _, dx, _, _, rfl, b.1 _ _ hobj, T.c_Spots, T.n_Spots_follow, rfl, _, rfl, st.Fo, .ref a, rfl, kv p a ha ▸ DGet.k (k := .inl (p : Nat)) (b.1 _ _ hFo), a, rfl, ⟨_, SqL.of haL'⟩, fun D D0 => ?_⟩
      refine lc_list (xs := natsV (st.fw p)) (PB H' D (filR (st.fw p) fun j => decide (c ∈ (sOf (st.lt j)).cps.toList))) (PB.start D0 fun _ _ => rfl) (filt_lst haL') (fun k z H3 hz hP => ?_) (fun H3 hP => ?_)
      · obtain ⟨j, hj, rfl⟩ := natsV_get hz
        obtain ⟨acc, b', r⟩ := hP
        have jm := (bd.2 p).2 j (List.mem_of_getElem? hj)
        have jl : j < st.ltl.length := by have := hx.pos; unfold St.m at jm; omega
        have ej : st.ltl[j]? = some (st.lt j) := by
          unfold St.lt
          rw [List.getD_eq_getElem?_getD, List.getElem?_eq_getElem jl]; rfl
        refine ⟨rfl, _, rfl, _, rfl, x, _, dx, _, _, rfl, b'.1 _ _ (b.1 _ _ hobj), T.c_Spots, T.n_Spots_letters, rfl, _, rfl, st.L, _, _, .str (sOf (st.lt j)), rfl, rfl, SqL.of (b'.1 _ _ (b.1 _ _ hx.let')), atI_nat (by unfold txts; rw [List.getElem?_map, ej]; rfl), c, _, rfl, rfl, _, rfl, ?_⟩
        exact filt_step (p := fun j => decide (c ∈ (sOf (st.lt j)).cps.toList)) rfl b' r D0 hj (by unfold sizeLine; omega)
      · have b' := filR_end hP
        have ff : ((st.fw p).filter fun j => decide (c ∈ (sOf (st.lt j)).cps.toList)).length ≤ (st.fw p).length := List.length_filter_le _ _
        refine ⟨f, D, _, _, rfl, rfl, b'.1 _ _ b.2, b'.2, by rw [natsV_len, natsV_len]; unfold sizeLine; omega, ?_⟩
        refine ⟨_, _, gs ++ (st.fw p).filter (fun j => decide (c ∈ (sOf (st.lt j)).cps.toList)), rfl, ?_, ?_, fun q => ?_⟩
        · rw [natsV_app]
          exact (b.mid b'.1).put f0 rfl
        · rw [List.length_append]; omega
        · rw [List.mem_append, gm, List.mem_filter, List.take_succ, hp, decide_eq_true_eq, sOf_toList]
          constructor
          · rintro (⟨p', k1, k2⟩ | k)
            · exact ⟨p', List.mem_append.mpr (.inl k1), k2⟩
            · exact ⟨p, by simp, k⟩
          · rintro ⟨p', k1, k2⟩
            rcases List.mem_append.mp k1 with k1 | k1
            · exact .inl ⟨p', k1, k2⟩
            · have : p' = p := by simpa using k1
              exact .inr (this ▸ k2)
    · obtain ⟨x4, x5, gs, rfl, b, gl, gm⟩ := hI
      rw [natsV_len] at gl
      rw [natsV_len, List.take_length] at gm
      refine ⟨_, rfl, f, gs.map (fun j : Nat => (j : Int)), rfl, SqL.of (by rw [← natsV_ints]; exact b.2), by rw [List.length_map]; omega, fun u n es u0 end' em en => ?_⟩
      generalize e2 : upd H' u _ = H2
      obtain ⟨s2, u2, _⟩ := newE u0 e2
      refine ⟨u, _, n, rfl, u2, fun ns v nsrt nmem nlen v0 => ?_⟩
      generalize e3 : upd H2 v _ = H3
      obtain ⟨s3, v3, _⟩ := newE v0 e3
      refine ⟨v, _, rfl, .inl ⟨SqL.of v3, fun t t0 => ?_⟩⟩
      have ens : ns.map V.int = natsV (EM.nxt st.lt st.fw st.m X c) := natsV_sorted nsrt EM.nxt_srt fun k => by
        rw [nmem, decide_eq_true_eq, List.mem_map]
        constructor
        · rintro ⟨j, hj, e⟩
          obtain ⟨p, hp, h1, h2⟩ := (gm j).mp hj
          exact ⟨j, EM.mem_nxt.mpr ⟨(bd.2 p).2 j h1, p, hp, h1, h2⟩, e⟩
        · rintro ⟨j, hj, e⟩
          obtain ⟨_, p, hp, h1, h2⟩ := EM.mem_nxt.mp hj
          exact ⟨j, (gm j).mpr ⟨p, hp, h1, h2⟩, e⟩
      rw [ens]
      exact q t _ (same_trans b.1 (same_trans s2 (same_trans s3 (Same.up t0)))) upd_same
end
end E

set_option autoImplicit true
set_option maxHeartbeats 4000000
set_option Elab.async false
set_option linter.all false
set_option maxRecDepth 100000
set_option maxHeartbeats 4000000
/-! Laying the spots of a tree. -/
namespace E
open PySem PySem.Spec PyProof.Rows L2
def catL : List EM.Lang → EM.Lang
  | [] => fun w => w = []
  | L :: r => fun w => ∃ u v, w = u ++ v ∧ L u ∧ catL r v
def orL (ls : List EM.Lang) : EM.Lang := fun w => ∃ L, L ∈ ls ∧ L w
def sumN (ls : List (EM.Lang × Nat)) : Nat := (ls.map (·.2)).sum
/-- a tree of height below k, of a language, with n letters and dots -/
def Tree (l : List Nat) (Hh : Hp) : Nat → V → EM.Lang → Nat → Prop
  | 0 => fun _ _ _ => False
  | k + 1 => fun v L n => ∃ t, v = .ref t ∧
      ((∃ (cs : List Nat) (y : EM.Atom), Hh t = some (.tup [.str "letter", .str (sOf cs)]) ∧ (∀ c, EM.atomL l y [c] ↔ c ∈ cs) ∧ (∀ c, c ∈ cs → c ∈ l) ∧ (∀ w, L w ↔ EM.atomL l y w) ∧ n = 1) ∨
       (∃ u L0, Hh t = some (.tup [.str "*", u]) ∧ Tree l Hh k u L0 n ∧ ∀ w, L w ↔ EM.Star L0 w) ∨
       (∃ u L0, Hh t = some (.tup [.str "?", u]) ∧ Tree l Hh k u L0 n ∧ ∀ w, L w ↔ EM.sgL L0 .opt w) ∨
       (∃ (g : Addr) (vs : List V) (ls : List (EM.Lang × Nat)), Hh t = some (.tup [.str "row", .ref g]) ∧ Hh g = some (.lst vs) ∧ Each (fun v y => Tree l Hh k v y.1 y.2) vs ls ∧ (∀ w, L w ↔ catL (ls.map (·.1)) w) ∧ n = sumN ls ∧ vs.length ≤ 100 ∧ ∀ y, y ∈ ls → ∃ w, y.1 w) ∨
       (∃ (g : Addr) (vs : List V) (ls : List (EM.Lang × Nat)), Hh t = some (.tup [.str "rows", .ref g]) ∧ Hh g = some (.lst vs) ∧ Each (fun v y => Tree l Hh k v y.1 y.2) vs ls ∧ (∀ w, L w ↔ orL (ls.map (·.1)) w) ∧ n = sumN ls ∧ vs.length ≤ 100))
theorem Tree.mono {l : List Nat} {H H' : Hp} (s : Same H H') : ∀ (k : Nat) v L n, Tree l H k v L n → Tree l H' k v L n := by
  intro k
  induction k with
  | zero => intro v L n h; exact h.elim
  | succ k ih =>
    rintro v L n ⟨t, e, h⟩
    refine ⟨t, e, ?_⟩
    rcases h with ⟨cs, y, h1, h2⟩ | ⟨u, L0, h1, h2, h3⟩ | ⟨u, L0, h1, h2, h3⟩ | ⟨g, vs, ls, h1, h2, h3, h4⟩ | ⟨g, vs, ls, h1, h2, h3, h4⟩
    · exact .inl ⟨cs, y, s _ _ h1, h2⟩
    · exact .inr (.inl ⟨u, L0, s _ _ h1, ih _ _ _ h2, h3⟩)
    · exact .inr (.inr (.inl ⟨u, L0, s _ _ h1, ih _ _ _ h2, h3⟩))
    · exact .inr (.inr (.inr (.inl ⟨g, vs, ls, s _ _ h1, s _ _ h2, h3.mono fun a b => ih _ _ _, h4⟩)))
    · exact .inr (.inr (.inr (.inr ⟨g, vs, ls, s _ _ h1, s _ _ h2, h3.mono fun a b => ih _ _ _, h4⟩)))
/-- the letters stand in l -/
def Lb (l : List Nat) (st : St) : Prop := ∀ q c, c ∈ st.lt q → c ∈ l
/-- what a laying gives -/
structure Rs (K : PySem.W.Frag) (l : List Nat) (x : Addr) (st : St) (H : Hp) (L : EM.Lang) (n : Nat) (u F La : Addr) (st' : St) (b : Bool) (fs las : List Nat) (H' : Hp) : Prop where
  sp : SpAt K H' x st'
  bd : Bd st'
  lb : Lb l st'
  eL : st'.L = st.L
  eF : st'.Fo = st.Fo
  old : ∀ q, q ≤ st.m → st'.lt q = st.lt q ∧ st'.fw q = st.fw q
  m : st'.m = st.m + n
  kp : Kp st.M H H'
  gr : ∀ b, st'.M b → st.M b ∨ H b = none
  t : hide st'.M H' u = some (.tup [.bl b, .ref F, .ref La])
  f : hide st'.M H' F = some (.lst (natsV fs))
  a : hide st'.M H' La = some (.lst (natsV las))
  gl : EM.Gl st'.lt st'.fw st.m st'.m b fs las L
  up : ∀ b, st.M b → st'.M b
  nt : H u = none
  nf : H F = none
  na : H La = none
theorem grow_hide {H H' : Hp} {M M' : AP} (k : Kp M H H') (g : ∀ b, M' b → M b ∨ H b = none) : Same (hide M H) (hide M' H') := hide_same fun b o e n => ⟨k b o e n, fun m => (g b m).elim n fun z => by rw [z] at e; cases e⟩
theorem getD_app (l : List (List Nat)) (a : List Nat) (q : Nat) : (l ++ [a]).getD q [] = if q = l.length then a else l.getD q [] := by
  rw [List.getD_eq_getElem?_getD, List.getD_eq_getElem?_getD]
  rcases Nat.lt_trichotomy q l.length with h | h | h
  · rw [List.getElem?_append_left h, if_neg (by omega)]
  · subst h; rw [if_pos rfl, List.getElem?_append_right (Nat.le_refl _)]; simp
  · rw [if_neg (by omega), List.getElem?_eq_none (by simp; omega), List.getElem?_eq_none (by omega)]
theorem getD_out (l : List (List Nat)) {q : Nat} (h : l.length ≤ q) : l.getD q [] = [] := by
  rw [List.getD_eq_getElem?_getD, List.getElem?_eq_none h]; rfl
theorem Rs.pre {K : PySem.W.Frag} {l : List Nat} {x : Addr} {st : St} {H H1 : Hp} {L L' : EM.Lang} {n : Nat} {t F La : Addr} {st' : St} {b : Bool} {fs las : List Nat} {H' : Hp} (r : Rs K l x st H1 L n t F La st' b fs las H') (s : Same H H1) (e : ∀ w, L' w ↔ L w) : Rs K l x st H L' n t F La st' b fs las H' :=
  ⟨r.sp, r.bd, r.lb, r.eL, r.eF, r.old, r.m, fun b o h n => r.kp b o (s b o h) n, fun b h => (r.gr b h).imp id (same_free s), r.t, r.f, r.a, r.gl.of_iff e, r.up, same_free s r.nt, same_free s r.nf, same_free s r.na⟩
/-- what is free now was free before -/
theorem free_up {K : PySem.W.Frag} {x : Addr} {st st' : St} {H H' : Hp} (sp : SpAt K H' x st') (kp : Kp st.M H H') (up : ∀ b, st.M b → st'.M b) {b : Addr} (e : H' b = none) : H b = none := by
  cases z : H b with
  | none => rfl
  | some o =>
    by_cases m : st.M b
    · obtain ⟨o', h⟩ := sp.has (up b m)
      rw [h] at e; cases e
    · rw [kp b o z m] at e; cases e
/-- one more spot -/
def St.add (st : St) (cs : List Nat) (a : Addr) : St := ⟨st.L, st.Fo, st.ltl ++ [cs], st.fas ++ [a], st.fws ++ [[]]⟩
theorem St.add_m (st : St) (cs : List Nat) (a : Addr) (h : 0 < st.ltl.length) : (st.add cs a).m = st.m + 1 := by
  show (st.ltl ++ [cs]).length - 1 = st.ltl.length - 1 + 1
  rw [List.length_append, List.length_singleton]; omega
section
variable {P : Program} {w : World} {K : PySem.W.Frag} {mg : Str → Option Value} {base : Heap}
def spLaid (K : PySem.W.Frag) (k : Nat) : Sp := fun vs H Q _ => ∃ (x : Addr) (v : V) (st : St) (l : List Nat) (L : EM.Lang) (n : Nat), vs = [.ref x, v] ∧ SpAt K H x st ∧ Bd st ∧ Lb l st ∧ Tree l (hide st.M H) k v L n ∧ st.m + n ≤ 7 ∧
  ∀ t F La st' b fs las H', Rs K l x st H L n t F La st' b fs las H' → Q (.ref t) H'
def spLRow (K : PySem.W.Frag) (k : Nat) : Sp := fun vs H Q _ => ∃ (x g : Addr) (us : List V) (ls : List (EM.Lang × Nat)) (st : St) (l : List Nat), vs = [.ref x, .ref g] ∧ SpAt K H x st ∧ Bd st ∧ Lb l st ∧ hide st.M H g = some (.lst us) ∧ Each (fun v y => Tree l (hide st.M H) k v y.1 y.2) us ls ∧ us.length ≤ 100 ∧
  (∀ y, y ∈ ls → ∃ w, y.1 w) ∧ st.m + sumN ls ≤ 7 ∧ ∀ t F La st' b fs las H', Rs K l x st H (catL (ls.map (·.1))) (sumN ls) t F La st' b fs las H' → Q (.ref t) H'
def spLRows (K : PySem.W.Frag) (k : Nat) : Sp := fun vs H Q _ => ∃ (x g : Addr) (us : List V) (ls : List (EM.Lang × Nat)) (st : St) (l : List Nat), vs = [.ref x, .ref g] ∧ SpAt K H x st ∧ Bd st ∧ Lb l st ∧ hide st.M H g = some (.lst us) ∧ Each (fun v y => Tree l (hide st.M H) k v y.1 y.2) us ls ∧ us.length ≤ 100 ∧
  st.m + sumN ls ≤ 7 ∧ ∀ t F La st' b fs las H', Rs K l x st H (orL (ls.map (·.1))) (sumN ls) t F La st' b fs las H' → Q (.ref t) H'
theorem ok_laid1 (T : Tx K mg) {k : Nat} (h0 : Ok P w K mg base (2 * k + 2) (He.ma K (He.ga K "Spots") "laid") ["self", "tree"] (spLaid K k)) (h1 : Ok P w K mg base (2 * k + 3) (He.ma K (He.ga K "Spots") "laid_row") ["self", "items"] (spLRow K k))
    (h2 : Ok P w K mg base (2 * k + 3) (He.ma K (He.ga K "Spots") "laid_rows") ["self", "rows"] (spLRows K k)) (h3 : Ok P w K mg base 1 (He.ma K (He.ga K "Spots") "link") ["self", "firsts", "lasts"] (spLink K)) :
    Ok P w K mg base (2 * (k + 1) + 2) (He.ma K (He.ga K "Spots") "laid") ["self", "tree"] (spLaid K (k + 1)) := by
  obtain ⟨_, F_Spots_laid, b_Spots_laid, _⟩ := h0
  obtain ⟨_, F_Spots_laid_row, b_Spots_laid_row, _⟩ := h1
  obtain ⟨_, F_Spots_laid_rows, b_Spots_laid_rows, _⟩ := h2
  obtain ⟨_, F_Spots_link, b_Spots_link, _⟩ := h3
  refine ok_mk (k := 2 * k + 3) T.fn_Spots_laid sc_Spots_laid (fun _ _ _ _ _ _ us hl => match us, hl with | [_, _], _ => rfl) (fun vs H Q E h => ?_) (fun cdv A outer s H vs Q E hr h => ?_)
  · obtain ⟨x, v, st, l, L, n, rfl, _⟩ := h
    rfl
  · obtain ⟨x, v, st, l, L, n, rfl, hx, bd, lb, ⟨t, rfl, tr⟩, m7, q⟩ := h
    have hu := hu_of hr
    have hr1 := hr.mono (show 1 ≤ 2 * k + 3 by omega)
    have hr2 := hr.mono (show 2 * k + 2 ≤ 2 * k + 3 by omega)
    obtain ⟨dx, hobj⟩ := hx.obj
    refine ⟨_, (pss_cons (ps_asg (pv 1) (pg_tup (by rfl) (pgs_cons (pg_name (i := 2) sc_Spots_laid.nd rfl (by first | exact Or.inl rfl | exact Or.inr rfl)) (pgs_cons (pg_name (i := 3) sc_Spots_laid.nd rfl (by first | exact Or.inl rfl | exact Or.inr rfl)) pgs_nil))))
      (pss_cons (ps_if (pt_cmpR op_eq (pv 2) pe_str (nomark _)) (pss_cons (ps_expr (pe_bm PySem.F.plainAttrs_list PySem.F.slot_list_append PySem.F.type_list_append mt_append (pe_fld (pv 0) rfl) (pa_cons (pv 3) pa_nil)))
      (pss_cons (ps_set (i := 4) sc_Spots_laid.nd rfl (by first | exact Or.inl rfl | exact Or.inr rfl) (pe_op op_sub (pe_callB call_len_seq (by rfl) T.f_len (by decide +kernel) (pa_cons (pe_fld (pv 0) rfl) pa_nil)) pe_int))
      (pss_cons (ps_dput hu (pe_fld (pv 0) rfl) (pv 4) (pe_lst pa_nil) rfl)
      (pss_one (ps_ret (pe_tup (pa_cons pe_bl (pa_cons (pe_lst (pa_cons (pv 4) pa_nil)) (pa_cons (pe_lst (pa_cons (pv 4) pa_nil)) pa_nil))))))))) pss_nil)
      (pss_cons (ps_if (pt_cmpR op_in_seq (pv 2) (pe_tup (pa_cons pe_str (pa_cons pe_str pa_nil))) rfl) (pss_cons (ps_asg (pe_meth (pv 0) T.c_Spots T.m_Spots_laid F_Spots_laid hr2 b_Spots_laid .nil pass0 (pa_cons (pv 3) pa_nil)) (pg_tup (by rfl) (pgs_cons (pg_name (i := 5) sc_Spots_laid.nd rfl (by first | exact Or.inl rfl | exact Or.inr rfl)) (pgs_cons (pg_name (i := 6) sc_Spots_laid.nd rfl (by first | exact Or.inl rfl | exact Or.inr rfl)) (pgs_cons (pg_name (i := 7) sc_Spots_laid.nd rfl (by first | exact Or.inl rfl | exact Or.inr rfl)) pgs_nil)))))
      (pss_cons (ps_if (pt_cmpR op_eq (pv 2) pe_str (nomark _)) (pss_one (ps_expr (pe_meth (pv 0) T.c_Spots T.m_Spots_link F_Spots_link hr1 b_Spots_link .nil pass0 (pa_cons (pv 6) (pa_cons (pv 7) pa_nil))))) pss_nil)
      (pss_one (ps_ret (pe_tup (pa_cons pe_bl (pa_cons (pv 6) (pa_cons (pv 7) pa_nil)))))))) pss_nil)
      (pss_one (ps_ret (pe_ifExp (pt_cmpR op_eq (pv 2) pe_str (nomark _)) (pe_meth (pv 0) T.c_Spots T.m_Spots_laid_row F_Spots_laid_row hr b_Spots_laid_row .nil pass0 (pa_cons (pv 3) pa_nil)) (pe_meth (pv 0) T.c_Spots T.m_Spots_laid_rows F_Spots_laid_rows hr b_Spots_laid_rows .nil pass0 (pa_cons (pv 3) pa_nil)))))))), ?_⟩
    rcases tr with ⟨cs, y, h1, h2, h3, h4, rfl⟩ | ⟨u, L0, h1, h2, h3⟩ | ⟨u, L0, h1, h2, h3⟩ | ⟨g, us, ls, h1, h2, h3, h4, rfl, h5, h6⟩ | ⟨g, us, ls, h1, h2, h3, h4, rfl, h5⟩
    · obtain ⟨nt, h1⟩ := hide_some.mp h1
      refine ⟨_, rfl, t, _, rfl, SqT.of h1, rfl, _, _, rfl, _, _, rfl, rfl, ?_⟩
      refine ⟨_, rfl, rfl, _, rfl, ?_⟩
      refine ite2 (fun _ => ?_) (fun h => absurd (by decide) h)
      refine ⟨_, rfl, x, _, dx, _, _, rfl, hobj, T.c_Spots, T.n_Spots_letters, rfl, .inl ⟨rfl, _, SqL.of hx.let'⟩, _, rfl, st.L, _, _, rfl, rfl, hx.let', ?_, ?_⟩
      · rw [txts_len]; have := bd.1; unfold St.m at this; unfold sizeLine; omega
      · generalize e1 : upd H st.L _ = H1
        obtain ⟨L1, f1⟩ := putE e1
        have p0 := hx.pos
        obtain ⟨kvs, hFo, kl, kv⟩ := hx.fol
        have nxL : x ≠ st.L := fun z => hx.nx (.inl z)
        have nFL : st.Fo ≠ st.L := fun z => by rw [z, hx.let'] at hFo; cases hFo
        have hobj1 := (f1 x nxL).trans hobj
        have hFo1 := (f1 _ nFL).trans hFo
        have lm1 : (fun i j : Int => V.int (i - j)) ((txts st.ltl ++ [V.str (sOf cs)]).length : Nat) 1 = V.int (st.ltl.length : Nat) := by
          show V.int (((txts st.ltl ++ [V.str (sOf cs)]).length : Nat) - 1) = _
          rw [List.length_append, txts_len, List.length_singleton]
          congr 1
          omega
        refine ⟨_, rfl, x, _, dx, _, _, rfl, hobj1, T.c_Spots, T.n_Spots_letters, rfl, st.L, _, rfl, .inl (SqL.of L1), _, _, rfl, rfl, ?_⟩
        rw [lm1]
        refine ⟨by decide, fun a a0 => ?_⟩
        generalize e2 : upd H1 a _ = H2
        obtain ⟨s2, a2, f2⟩ := newE a0 e2
        have nax : x ≠ a := ne_of_none hobj1 a0
        have naF : st.Fo ≠ a := ne_of_none hFo1 a0
        have naL : st.L ≠ a := ne_of_none L1 a0
        have naM : ∀ b, st.M b → b ≠ a := by
          rintro b hb rfl
          obtain ⟨o, ho⟩ := hx.has hb
          by_cases e : b = st.L
          · exact naL e.symm
          · rw [f1 b e, ho] at a0; cases a0
        refine ⟨_, rfl, x, _, dx, _, _, rfl, s2 _ _ hobj1, T.c_Spots, T.n_Spots_follow, rfl, _, rfl, st.Fo, _, rfl, DPut.k (k := .inl (st.ltl.length : Nat)) (s2 _ _ hFo1) (by have := bd.1; unfold St.m at this; unfold sizeLine; omega), ?_⟩
        generalize e3 : upd H2 st.Fo _ = H3
        obtain ⟨F3, f3⟩ := putE e3
        have nxF : x ≠ st.Fo := fun z => hx.nx (.inr (.inl z))
        refine ⟨_, rfl, (by show 1 ≤ sizeLine; decide), fun F F0 => ?_⟩
        generalize e4 : upd H3 F _ = H4
        obtain ⟨s4, F4, f4⟩ := newE F0 e4
        refine ⟨_, rfl, (by show 1 ≤ sizeLine; decide), fun La La0 => ?_⟩
        generalize e5 : upd H4 La _ = H5
        obtain ⟨s5, La5, f5⟩ := newE La0 e5
        refine ⟨(by show 3 ≤ sizeLine; decide), fun tt tt0 => ?_⟩
        generalize e6 : upd H5 tt _ = H6
        obtain ⟨s6, tt6, f6⟩ := newE tt0 e6
        have s36 : Same H3 H6 := same_trans s4 (same_trans s5 s6)
        have a3 : H3 a = some (.lst (natsV [])) := (f3 a fun z => naF z.symm).trans a2
        have L3 : H3 st.L = some (.lst (txts (st.ltl ++ [cs]))) := (f3 _ fun z => nFL z.symm).trans ((s2 _ _ L1).trans (by rw [txts_app]; rfl))
        have kp : Kp st.M H H6 := fun b o e n => s36 _ _ ((f3 b fun z => n (.inr (.inl z))).trans (s2 _ _ ((f1 b fun z => n (.inl z)).trans e)))
        have em := st.add_m cs a p0
        have eln : st.ltl.length = st.m + 1 := by unfold St.m; omega
        have elt : ∀ c, (st.add cs a).lt c = if c = st.m + 1 then cs else st.lt c := fun c => by rw [← eln]; exact getD_app _ _ _
        have efw : ∀ c, (st.add cs a).fw c = if c = st.m + 1 then [] else st.fw c := fun c => by rw [← eln, ← hx.wl]; exact getD_app _ _ _
        have new : ∀ b o, H3 b = some o → b ≠ F ∧ b ≠ La ∧ b ≠ tt := fun b o e => ⟨ne_of_none e F0, ne_of_none (s4 _ _ e) La0, ne_of_none (s5 _ _ (s4 _ _ e)) tt0⟩
        have M3 : ∀ b, (st.add cs a).M b → ∃ o, H3 b = some o := by
          rintro b (e | e | e)
          · exact ⟨_, e ▸ L3⟩
          · exact ⟨_, e ▸ F3⟩
          · rcases List.mem_append.mp e with e | e
            · obtain ⟨o, ho⟩ := hx.has (.inr (.inr e))
              have e1 : b ≠ st.L := fun z => hx.nL (z ▸ e)
              by_cases e2 : b = st.Fo
              · exact ⟨_, e2 ▸ F3⟩
              · exact ⟨o, (f3 b e2).trans (s2 _ _ ((f1 b e1).trans ho))⟩
            · exact ⟨_, List.mem_singleton.mp e ▸ a3⟩
        have low : ∀ b, H3 b = none → H b = none := fun b e => by
          cases z : H b with
          | none => rfl
          | some o =>
            by_cases eL : b = st.L
            · rw [eL, L3] at e; cases e
            · by_cases eF : b = st.Fo
              · rw [eF, F3] at e; cases e
              · rw [(f3 b eF).trans (s2 _ _ ((f1 b eL).trans z))] at e; cases e
        refine q tt F La (st.add cs a) false [st.m + 1] [st.m + 1] H6 ⟨⟨⟨dx, ?_⟩, s36 _ _ L3, ⟨_, s36 _ _ F3, ?_, fun c b hb => ?_⟩, fun c b f hb hf => ?_, ?_, ?_, ?_, ?_, ?_⟩, ⟨by rw [em]; exact m7, fun c => ?_⟩, fun c d hd => ?_, rfl, rfl, fun c hc => ?_, em, kp, fun b hb => ?_, ?_, ?_, ?_, ?_, fun b hb => ?_, low tt (same_free (same_trans s4 s5) tt0), low F F0, low La (same_free s4 La0)⟩
        · exact s36 _ _ ((f3 x nxF).trans (s2 _ _ hobj1))
        · have := putK_len kvs (.inl (st.ltl.length : Nat)) (.ref a)
          show _ ≤ (st.ltl ++ [cs]).length
          rw [List.length_append, List.length_singleton]; omega
        · have hb : (st.fas ++ [a])[c]? = some b := hb
          rw [valV_put]
          by_cases ec : c < st.fas.length
          · rw [List.getElem?_append_left ec] at hb
            rw [if_neg fun z => by injection z with z; have := hx.fl; omega]
            exact kv c b hb
          · rw [List.getElem?_append_right (by omega)] at hb
            have : c = st.fas.length := by
              have := (List.getElem?_eq_some_iff.mp hb).1
              simp at this; omega
            subst this
            rw [Nat.sub_self] at hb
            cases hb
            rw [if_pos (by rw [hx.fl])]
        · have hb : (st.fas ++ [a])[c]? = some b := hb
          have hf : (st.fws ++ [[]])[c]? = some f := hf
          have wl := hx.wl
          have fl := hx.fl
          by_cases ec : c < st.fas.length
          · rw [List.getElem?_append_left ec] at hb
            rw [List.getElem?_append_left (by omega)] at hf
            have hbb := hx.lsts c b f hb hf
            have hm := List.mem_of_getElem? hb
            exact s36 _ _ ((f3 b fun z => by rw [z, hFo] at hbb; cases hbb).trans (s2 _ _ ((f1 b fun z => hx.nL (z ▸ hm)).trans hbb)))
          · rw [List.getElem?_append_right (by omega)] at hb
            rw [List.getElem?_append_right (by omega)] at hf
            have : c = st.fas.length := by
              have := (List.getElem?_eq_some_iff.mp hb).1
              simp at this; omega
            subst this
            rw [Nat.sub_self] at hb
            cases hb
            rw [fl, wl, Nat.sub_self] at hf
            cases hf
            exact s36 _ _ a3
        · exact List.nodup_append.mpr ⟨hx.nd, by simp, fun b hb c hc e => naM b (.inr (.inr hb)) (by rw [List.mem_singleton] at hc; rw [e, hc])⟩
        · intro z
          rcases List.mem_append.mp z with z | z
          · exact hx.nL z
          · exact naL (List.mem_singleton.mp z)
        · show (st.fas ++ [a]).length = (st.ltl ++ [cs]).length
          rw [List.length_append, List.length_append, hx.fl]; rfl
        · show (st.fws ++ [[]]).length = (st.ltl ++ [cs]).length
          rw [List.length_append, List.length_append, hx.wl]; rfl
        · show 0 < (st.ltl ++ [cs]).length
          rw [List.length_append]; omega
        · rw [efw c]
          split
          · exact ⟨List.nodup_nil, fun z hz => by cases hz⟩
          · exact ⟨(bd.2 c).1, fun z hz => by have := (bd.2 c).2 z hz; omega⟩
        · rw [elt c] at hd
          split at hd
          · exact h3 d hd
          · exact lb c d hd
        · rw [elt c, efw c, if_neg (by omega), if_neg (by omega)]; exact ⟨rfl, rfl⟩
        · rcases hb with e | e | e
          · exact .inl (.inl e)
          · exact .inl (.inr (.inl e))
          · rcases List.mem_append.mp e with e | e
            · exact .inl (.inr (.inr e))
            · rw [List.mem_singleton] at e
              rw [e]
              right
              have := f1 a fun z => naL z.symm
              rw [← this]; exact a0
        · refine hide_some.mpr ⟨fun m => ?_, tt6⟩
          obtain ⟨o, ho⟩ := M3 tt m
          exact (new tt o ho).2.2 rfl
        · refine hide_some.mpr ⟨fun m => ?_, s6 _ _ (s5 _ _ (F4.trans (by rw [eln]; rfl)))⟩
          obtain ⟨o, ho⟩ := M3 F m
          exact (new F o ho).1 rfl
        · refine hide_some.mpr ⟨fun m => ?_, s6 _ _ (La5.trans (by rw [eln]; rfl))⟩
          obtain ⟨o, ho⟩ := M3 La m
          exact (new La o ho).2.1 rfl
        · rw [em]
          exact (EM.gl_atom (A := l) (x := y) (cs := cs) h2 (by rw [elt, if_pos rfl]) (by rw [efw, if_pos rfl])).of_iff h4
        · exact hb.imp id fun z => z.imp id fun z => List.mem_append.mpr (.inl z)
    · obtain ⟨nt, h1⟩ := hide_some.mp h1
      refine ⟨_, rfl, t, _, rfl, SqT.of h1, rfl, _, _, rfl, _, _, rfl, rfl, ?_⟩
      refine ⟨_, rfl, rfl, _, rfl, ?_⟩
      refine ite2 (fun h => absurd h (by decide)) (fun _ => ?_)
      refine ⟨_, rfl, (by show 2 ≤ sizeLine; decide), fun p p0 => ?_⟩
      generalize e1 : upd H p _ = H1
      obtain ⟨s1, p1, f1⟩ := newE p0 e1
      have sh1 : Same (hide st.M H) (hide st.M H1) := hide_kp (Same.kp s1)
      refine ⟨p, _, rfl, .inr (SqT.of p1), rfl, rfl, _, rfl, ?_⟩
      refine ite2 (fun _ => ?_) (fun h => absurd (by decide) h)
      refine ⟨_, rfl, x, dx, _, rfl, s1 _ _ hobj, rfl, _, rfl, x, u, st, l, L0, n, rfl, hx.same s1, bd, lb, h2.mono sh1, m7, fun t1 F La st1 b fs las H2 R => ?_⟩
      refine ⟨t1, _, rfl, SqT.of (hide_sub _ _ R.t), rfl, _, _, rfl, _, _, rfl, _, _, rfl, rfl, ?_⟩
      refine ⟨_, rfl, rfl, _, rfl, ?_⟩
      refine ite2 (fun _ => ?_) (fun h => absurd (by decide) h)
      obtain ⟨dx2, hobj2⟩ := R.sp.obj
      have em := R.m
      refine ⟨_, rfl, x, dx2, _, rfl, hobj2, rfl, _, rfl, _, rfl, x, F, La, st1, fs, las, rfl, R.sp, R.bd, R.f, R.a, R.gl.fnd, fun z hz => (R.gl.lin z hz).2, fun z hz => (R.gl.fin z hz).2, fun fws' H3 sp3 bd3 k3 jn eqn => ?_⟩
      refine ⟨_, rfl, _, rfl, (by show 3 ≤ sizeLine; decide), fun tt tt0 => ?_⟩
      generalize e4 : upd H3 tt _ = H4
      obtain ⟨s4, tt4, f4⟩ := newE tt0 e4
      have R' := R.pre s1 (fun _ => Iff.rfl)
      have nM3 : ∀ b, St.M { st1 with fws := fws' } b → st1.M b := fun b h => h
      have k34 : Kp st1.M H2 H4 := fun b o e n => s4 _ _ (k3 b o e n)
      have gl4 := EM.gl_star R'.gl jn
      refine q tt F La { st1 with fws := fws' } true fs las H4 ⟨sp3.same s4, bd3, fun c d hd => R'.lb c d hd, R'.eL, R'.eF, fun c hc => ⟨(R'.old c hc).1, (eqn c fun z => ?_).trans (R'.old c hc).2⟩, em, ?_, fun b hb => R'.gr b hb, ?_, ?_, ?_, gl4.of_iff h3, R'.up, free_up (st' := { st1 with fws := fws' }) sp3 (R'.kp.step k3 fun b hb => R'.gr b hb) R'.up tt0, R'.nf, R'.na⟩
      · have := (R'.gl.lin c z).1; omega
      · exact R'.kp.step k34 fun b hb => R'.gr b hb
      · refine hide_some.mpr ⟨fun m => ?_, tt4⟩
        obtain ⟨o, ho⟩ := sp3.has m
        rw [ho] at tt0; cases tt0
      · exact hide_kp k34 _ _ R'.f
      · exact hide_kp k34 _ _ R'.a
    · obtain ⟨nt, h1⟩ := hide_some.mp h1
      refine ⟨_, rfl, t, _, rfl, SqT.of h1, rfl, _, _, rfl, _, _, rfl, rfl, ?_⟩
      refine ⟨_, rfl, rfl, _, rfl, ?_⟩
      refine ite2 (fun h => absurd h (by decide)) (fun _ => ?_)
      refine ⟨_, rfl, (by show 2 ≤ sizeLine; decide), fun p p0 => ?_⟩
      generalize e1 : upd H p _ = H1
      obtain ⟨s1, p1, f1⟩ := newE p0 e1
      have sh1 : Same (hide st.M H) (hide st.M H1) := hide_kp (Same.kp s1)
      refine ⟨p, _, rfl, .inr (SqT.of p1), rfl, rfl, _, rfl, ?_⟩
      refine ite2 (fun _ => ?_) (fun h => absurd (by decide) h)
      refine ⟨_, rfl, x, dx, _, rfl, s1 _ _ hobj, rfl, _, rfl, x, u, st, l, L0, n, rfl, hx.same s1, bd, lb, h2.mono sh1, m7, fun t1 F La st1 b fs las H2 R => ?_⟩
      refine ⟨t1, _, rfl, SqT.of (hide_sub _ _ R.t), rfl, _, _, rfl, _, _, rfl, _, _, rfl, rfl, ?_⟩
      refine ⟨_, rfl, rfl, _, rfl, ?_⟩
      refine ite2 (fun h => absurd h (by decide)) (fun _ => ?_)
      refine ⟨_, rfl, _, rfl, (by show 3 ≤ sizeLine; decide), fun tt tt0 => ?_⟩
      generalize e4 : upd H2 tt _ = H4
      obtain ⟨s4, tt4, f4⟩ := newE tt0 e4
      have R' := R.pre s1 (fun _ => Iff.rfl)
      have k34 : Kp st1.M H2 H4 := Same.kp s4
      refine q tt F La st1 true fs las H4 ⟨R'.sp.same s4, R'.bd, R'.lb, R'.eL, R'.eF, R'.old, R'.m, R'.kp.step k34 fun b hb => R'.gr b hb, R'.gr, ?_, hide_kp k34 _ _ R'.f, hide_kp k34 _ _ R'.a, (EM.gl_opt R'.gl).of_iff h3, R'.up, free_up R'.sp R'.kp R'.up tt0, R'.nf, R'.na⟩
      refine hide_some.mpr ⟨fun m => ?_, tt4⟩
      obtain ⟨o, ho⟩ := R'.sp.has m
      rw [ho] at tt0; cases tt0
    · obtain ⟨nt, h1⟩ := hide_some.mp h1
      refine ⟨_, rfl, t, _, rfl, SqT.of h1, rfl, _, _, rfl, _, _, rfl, rfl, ?_⟩
      refine ⟨_, rfl, rfl, _, rfl, ?_⟩
      refine ite2 (fun h => absurd h (by decide)) (fun _ => ?_)
      refine ⟨_, rfl, (by show 2 ≤ sizeLine; decide), fun p p0 => ?_⟩
      generalize e1 : upd H p _ = H1
      obtain ⟨s1, p1, f1⟩ := newE p0 e1
      have sh1 : Same (hide st.M H) (hide st.M H1) := hide_kp (Same.kp s1)
      refine ⟨p, _, rfl, .inr (SqT.of p1), rfl, rfl, _, rfl, ?_⟩
      refine ite2 (fun h => absurd h (by decide)) (fun _ => ?_)
      refine ⟨_, rfl, rfl, _, rfl, ?_⟩
      refine ite2 (fun _ => ?_) (fun h => absurd (by decide) h)
      exact ⟨_, rfl, x, dx, _, rfl, s1 _ _ hobj, rfl, _, rfl, x, g, us, ls, st, l, rfl, hx.same s1, bd, lb, sh1 _ _ h2, h3.mono fun a b => Tree.mono sh1 k _ _ _, h5, h6, m7, fun t1 F La st1 b fs las H2 R => q t1 F La st1 b fs las H2 (R.pre s1 h4)⟩
    · obtain ⟨nt, h1⟩ := hide_some.mp h1
      refine ⟨_, rfl, t, _, rfl, SqT.of h1, rfl, _, _, rfl, _, _, rfl, rfl, ?_⟩
      refine ⟨_, rfl, rfl, _, rfl, ?_⟩
      refine ite2 (fun h => absurd h (by decide)) (fun _ => ?_)
      refine ⟨_, rfl, (by show 2 ≤ sizeLine; decide), fun p p0 => ?_⟩
      generalize e1 : upd H p _ = H1
      obtain ⟨s1, p1, f1⟩ := newE p0 e1
      have sh1 : Same (hide st.M H) (hide st.M H1) := hide_kp (Same.kp s1)
      refine ⟨p, _, rfl, .inr (SqT.of p1), rfl, rfl, _, rfl, ?_⟩
      refine ite2 (fun h => absurd h (by decide)) (fun _ => ?_)
      refine ⟨_, rfl, rfl, _, rfl, ?_⟩
      refine ite2 (fun h => absurd h (by decide)) (fun _ => ?_)
      exact ⟨_, rfl, x, dx, _, rfl, s1 _ _ hobj, rfl, _, rfl, x, g, us, ls, st, l, rfl, hx.same s1, bd, lb, sh1 _ _ h2, h3.mono fun a b => Tree.mono sh1 k _ _ _, h5, m7, fun t1 F La st1 b fs las H2 R => q t1 F La st1 b fs las H2 (R.pre s1 h4)⟩
theorem catL_snoc {L : EM.Lang} : ∀ (ls : List EM.Lang) (w : List Nat), catL (ls ++ [L]) w ↔ ∃ u v, w = u ++ v ∧ catL ls u ∧ L v := by
  intro ls
  induction ls with
  | nil =>
    intro w
    constructor
    · rintro ⟨u, v, rfl, h, rfl⟩; exact ⟨[], u, by simp, rfl, h⟩
    · rintro ⟨u, v, rfl, rfl, h⟩; exact ⟨v, [], by simp, h, rfl⟩
  | cons a r ih =>
    intro w
    constructor
    · rintro ⟨u, v, rfl, h1, h2⟩
      obtain ⟨v1, v2, rfl, h3, h4⟩ := (ih v).mp h2
      exact ⟨u ++ v1, v2, by simp, ⟨u, v1, rfl, h1, h3⟩, h4⟩
    · rintro ⟨u, v, rfl, ⟨u1, u2, rfl, h1, h2⟩, h3⟩
      exact ⟨u1, u2 ++ v, by simp, h1, (ih _).mpr ⟨u2, v, rfl, h2, h3⟩⟩
/-- a laying, but for its tuple -/
structure R0 (K : PySem.W.Frag) (l : List Nat) (x : Addr) (st : St) (H : Hp) (L : EM.Lang) (n : Nat) (F La : Addr) (st' : St) (b : Bool) (fs las : List Nat) (H' : Hp) : Prop where
  sp : SpAt K H' x st'
  bd : Bd st'
  lb : Lb l st'
  eL : st'.L = st.L
  eF : st'.Fo = st.Fo
  old : ∀ q, q ≤ st.m → st'.lt q = st.lt q ∧ st'.fw q = st.fw q
  m : st'.m = st.m + n
  kp : Kp st.M H H'
  gr : ∀ b, st'.M b → st.M b ∨ H b = none
  f : hide st'.M H' F = some (.lst (natsV fs))
  a : hide st'.M H' La = some (.lst (natsV las))
  gl : EM.Gl st'.lt st'.fw st.m st'.m b fs las L
  up : ∀ b, st.M b → st'.M b
  nf : H F = none
  na : H La = none
theorem R0.rs {l : List Nat} {x : Addr} {st : St} {H : Hp} {L : EM.Lang} {n : Nat} {t F La : Addr} {st' : St} {b : Bool} {fs las : List Nat} {H' : Hp} (r : R0 K l x st H L n F La st' b fs las H') (t' : hide st'.M H' t = some (.tup [.bl b, .ref F, .ref La])) (nt : H t = none) : Rs K l x st H L n t F La st' b fs las H' :=
  ⟨r.sp, r.bd, r.lb, r.eL, r.eF, r.old, r.m, r.kp, r.gr, t', r.f, r.a, r.gl, r.up, nt, r.nf, r.na⟩
theorem R0.more {l : List Nat} {x : Addr} {st : St} {H : Hp} {L : EM.Lang} {n : Nat} {F La : Addr} {st' : St} {b : Bool} {fs las : List Nat} {H' H2 : Hp} (r : R0 K l x st H L n F La st' b fs las H') (s : Same H' H2) : R0 K l x st H L n F La st' b fs las H2 :=
  ⟨r.sp.same s, r.bd, r.lb, r.eL, r.eF, r.old, r.m, fun b o h n => s _ _ (r.kp b o h n), r.gr, hide_kp (Same.kp s) _ _ r.f, hide_kp (Same.kp s) _ _ r.a, r.gl, r.up, r.nf, r.na⟩
theorem sumN_app (a b : List (EM.Lang × Nat)) : sumN (a ++ b) = sumN a + sumN b := by simp [sumN]
theorem sumN_take (ls : List (EM.Lang × Nat)) (i : Nat) : sumN (ls.take i) ≤ sumN ls := by
  have : sumN ls = sumN (ls.take i) + sumN (ls.drop i) := by rw [← sumN_app, List.take_append_drop]
  omega
theorem ok_lrow (T : Tx K mg) {k : Nat} (h0 : Ok P w K mg base (2 * k + 2) (He.ma K (He.ga K "Spots") "laid") ["self", "tree"] (spLaid K k)) (h3 : Ok P w K mg base 1 (He.ma K (He.ga K "Spots") "link") ["self", "firsts", "lasts"] (spLink K)) :
    Ok P w K mg base (2 * k + 3) (He.ma K (He.ga K "Spots") "laid_row") ["self", "items"] (spLRow K k) := by
  obtain ⟨_, F_Spots_laid, b_Spots_laid, _⟩ := h0
  obtain ⟨_, F_Spots_link, b_Spots_link, _⟩ := h3
  refine ok_mk (k := 2 * k + 2) T.fn_Spots_laid_row sc_Spots_laid_row (fun _ _ _ _ _ _ us hl => match us, hl with | [_, _], _ => rfl) (fun vs H Q E h => ?_) (fun cdv A outer s H vs Q E hr h => ?_)
  · obtain ⟨x, g, us, ls, st, l, rfl, _⟩ := h
    rfl
  · obtain ⟨x, g, us, ls, st, l, rfl, hx, bd, lb, hg, tr, u100, ne, m7, q⟩ := h
    have hr1 := hr.mono (show 1 ≤ 2 * k + 2 by omega)
    refine ⟨_, (pss_cons (ps_par3 (i := 2) (j := 3) (l := 4) (by rfl) sc_Spots_laid_row.nd rfl rfl rfl (by decide) (by decide) (by decide) rfl rfl rfl (pa_cons pe_bl (pa_cons (pe_lst pa_nil) (pa_cons (pe_lst pa_nil) pa_nil))) (by rfl))
      (pss_cons (ps_for PassesOwn.never rfl (pi_list (pv 1)) (pg_name (i := 5) sc_Spots_laid_row.nd rfl (by first | exact Or.inl rfl | exact Or.inr rfl)) (pss_cons (ps_asg (pe_meth (pv 0) T.c_Spots T.m_Spots_laid F_Spots_laid hr b_Spots_laid .nil pass0 (pa_cons (pv 5) pa_nil)) (pg_tup (by rfl) (pgs_cons (pg_name (i := 6) sc_Spots_laid_row.nd rfl (by first | exact Or.inl rfl | exact Or.inr rfl)) (pgs_cons (pg_name (i := 7) sc_Spots_laid_row.nd rfl (by first | exact Or.inl rfl | exact Or.inr rfl)) (pgs_cons (pg_name (i := 8) sc_Spots_laid_row.nd rfl (by first | exact Or.inl rfl | exact Or.inr rfl)) pgs_nil)))))
      (pss_cons (ps_expr (pe_meth (pv 0) T.c_Spots T.m_Spots_link F_Spots_link hr1 b_Spots_link .nil pass0 (pa_cons (pv 7) (pa_cons (pv 4) pa_nil))))
      (C8.pss_cut (ps_set (i := 3) sc_Spots_laid_row.nd rfl (by first | exact Or.inl rfl | exact Or.inr rfl) (pe_ifExp (pt_val (pv 2)) (pe_op op_cat (pv 3) (pv 7)) (pv 3)))
      (C8.pss_cut (ps_set (i := 4) sc_Spots_laid_row.nd rfl (by first | exact Or.inl rfl | exact Or.inr rfl) (pe_ifExp (pt_val (pv 6)) (pe_op op_cat (pv 4) (pv 8)) (pv 8)))
      (pss_one (ps_set (i := 2) sc_Spots_laid_row.nd rfl (by first | exact Or.inl rfl | exact Or.inr rfl) (pe_and (pv 2) (pe_one (pv 6))))))))))
      (pss_one (ps_ret (pe_tup (pa_cons (pv 2) (pa_cons (pv 3) (pa_cons (pv 4) pa_nil)))))))), ?_⟩
    refine ⟨by decide, fun F F0 => ?_⟩
    generalize e1 : upd H F _ = H1
    obtain ⟨s1, F1, f1⟩ := newE F0 e1
    refine ⟨by decide, fun La La0 => ?_⟩
    generalize e2 : upd H1 La _ = H2
    obtain ⟨s2, La2, f2⟩ := newE La0 e2
    refine ⟨_, _, _, rfl, ?_⟩
    have s03 := same_trans s1 s2
    have hx3 := hx.same s03
    have frs : ∀ b, H b = none → ¬ st.M b := fun b e m => by
      obtain ⟨o, ho⟩ := hx.has m
      rw [ho] at e; cases e
    have hg3 : ∀ {st1 : St} {H' : Hp}, Kp st.M H H' → (∀ b, st1.M b → st.M b ∨ H b = none) → H' g = some (.lst us) ∧ hide st1.M H' g = some (.lst us) := fun k gr => ⟨hide_sub _ _ (grow_hide k gr _ _ hg), grow_hide k gr _ _ hg⟩
    refine ⟨_, rfl, g, rfl, ⟨_, SqL.of (hg3 (st1 := st) (Same.kp s03) fun b h => .inl h).1⟩, ?_⟩
    refine for_list (xs := us) (fun i σ H' => ∃ F La st1 b fs las x5 x6 x7 x8, σ = [some (.ref x), some (.ref g), some (.bl b), some (.ref F), some (.ref La), x5, x6, x7, x8] ∧
      R0 K l x st H (catL ((ls.take i).map (·.1))) (sumN (ls.take i)) F La st1 b fs las H') ?_ (fun i σ H' _ hI => ?_) (fun i v σ H' hv hI => ?_) (fun σ H' hI => ?_)
    · refine ⟨F, La, st, true, [], [], _, _, _, _, rfl, hx3, bd, lb, rfl, rfl, fun q _ => ⟨rfl, rfl⟩, rfl, Same.kp s03, fun b h => .inl h, ?_, ?_, EM.gl_nil, fun _ h => h, F0, same_free s1 La0⟩
      · exact hide_some.mpr ⟨frs F F0, s2 _ _ F1⟩
      · exact hide_some.mpr ⟨frs La (same_free s1 La0), La2⟩
    · obtain ⟨F, La, st1, b, fs, las, _, _, _, _, rfl, R⟩ := hI
      exact SqL.of (hg3 R.kp R.gr).1
    · obtain ⟨F, La, st1, b1, fs, las, x5, x6, x7, x8, rfl, R⟩ := hI
      obtain ⟨⟨L0, n0⟩, hl, trv⟩ := tr.get hv
      have trv := Tree.mono (grow_hide R.kp R.gr) k _ _ _ trv
      obtain ⟨dx, hobj⟩ := R.sp.obj
      have em := R.m
      have stk : sumN (ls.take (i + 1)) = sumN (ls.take i) + n0 := by
        rw [List.take_succ, hl, sumN_app]; simp [sumN]
      have le := sumN_take ls (i + 1)
      refine ⟨_, rfl, x, dx, _, rfl, hobj, rfl, _, rfl, x, v, st1, l, L0, n0, rfl, R.sp, R.bd, R.lb, trv, by omega, fun t2 F2 La2 st2 b2 fs2 las2 H4 R2 => ?_⟩
      refine ⟨t2, _, rfl, SqT.of (hide_sub _ _ R2.t), rfl, _, _, rfl, _, _, rfl, _, _, rfl, rfl, ?_⟩
      obtain ⟨dx2, hobj2⟩ := R2.sp.obj
      have hF4 := grow_hide R2.kp R2.gr _ _ R.f
      have hLa4 := grow_hide R2.kp R2.gr _ _ R.a
      have em2 := R2.m
      refine ⟨_, rfl, x, dx2, _, rfl, hobj2, rfl, _, rfl, _, rfl, x, F2, La, st2, fs2, las, rfl, R2.sp, R2.bd, R2.f, hLa4, R2.gl.fnd, fun z hz => by have := (R.gl.lin z hz).2; omega, fun z hz => (R2.gl.fin z hz).2, fun fws' H5 sp5 bd5 k5 jn eqn => ?_⟩
      have g1 : EM.Gl st2.lt st2.fw st.m st1.m b1 fs las _ := R.gl.congr (fun p h1 h2 => (R2.old p h2).1) (fun p h1 h2 => (R2.old p h2).2)
      have gc := EM.gl_cat g1 R2.gl jn (ne _ (List.mem_of_getElem? hl))
      -- what the two behind it leave
      have hF5 := hide_kp k5 _ _ hF4
      have hF25 := hide_kp k5 _ _ R2.f
      have hLa5 := hide_kp k5 _ _ hLa4
      have hLa25 := hide_kp k5 _ _ R2.a
      have f100 : fs.length ≤ 8 := nodup_le (m := 7) R.gl.fnd fun z hz => by have := (R.gl.fin z hz).2; have := R.bd.1; omega
      have f200 : fs2.length ≤ 8 := nodup_le (m := 7) R2.gl.fnd fun z hz => by have := (R2.gl.fin z hz).2; have := R2.bd.1; omega
      have l100 : las.length ≤ 8 := nodup_le (m := 7) R.gl.lnd fun z hz => by have := (R.gl.lin z hz).2; have := R.bd.1; omega
      have l200 : las2.length ≤ 8 := nodup_le (m := 7) R2.gl.lnd fun z hz => by have := (R2.gl.lin z hz).2; have := R2.bd.1; omega
      have sub : ∀ {H' : Hp}, Same H5 H' → Same (hide st2.M H5) (hide st2.M H') := fun s => hide_kp (Same.kp s)
      have low : ∀ b, H5 b = none → H b = none := fun b e => free_up (st := st) (st' := { st2 with fws := fws' }) sp5 (R.kp.step (R2.kp.step k5 R2.gr) R.gr) (fun b h => R2.up b (R.up b h)) e
      have frs2 : ∀ {H' : Hp}, Same H5 H' → ∀ b, H' b = none → ¬ st2.M b := fun s b e m => by
        obtain ⟨o, ho⟩ := sp5.has m
        rw [s _ _ ho] at e; cases e
      refine ⟨fun σ' H6 => ∃ F', σ' = [some (.ref x), some (.ref g), some (.bl b1), some (.ref F'), some (.ref La), some v, some (.bl b2), some (.ref F2), some (.ref La2)] ∧ Same H5 H6 ∧ hide st2.M H6 F' = some (.lst (natsV (if b1 = true then fs ++ fs2 else fs))) ∧ H F' = none, ?_, ?_⟩
      · refine ⟨_, rfl, _, rfl, ?_⟩
        cases b1 with
        | true =>
          refine iteT ?_
          refine ⟨_, rfl, _, rfl, F, F2, _, _, rfl, rfl, hide_sub _ _ hF5, hide_sub _ _ hF25, by rw [natsV_len, natsV_len]; unfold sizeLine; omega, fun u u0 => ?_⟩
          generalize e6 : upd H5 u _ = H6
          obtain ⟨s6, u6, f6⟩ := newE u0 e6
          exact ⟨u, rfl, s6, hide_some.mpr ⟨frs2 (same_refl _) u u0, by rw [if_pos rfl, natsV_app]; exact u6⟩, low u u0⟩
        | false => exact iteF ⟨_, rfl, F, rfl, same_refl _, hF5, R.nf⟩
      · rintro σ' H6 ⟨F', rfl, s6, hF6, nF6⟩
        refine ⟨fun σ' H7 => ∃ La', σ' = [some (.ref x), some (.ref g), some (.bl b1), some (.ref F'), some (.ref La'), some v, some (.bl b2), some (.ref F2), some (.ref La2)] ∧ Same H6 H7 ∧ hide st2.M H7 La' = some (.lst (natsV (if b2 = true then las ++ las2 else las2))) ∧ H La' = none, ?_, ?_⟩
        · refine ⟨_, rfl, _, rfl, ?_⟩
          cases b2 with
          | true =>
            refine iteT ?_
            refine ⟨_, rfl, _, rfl, La, La2, _, _, rfl, rfl, s6 _ _ (hide_sub _ _ hLa5), s6 _ _ (hide_sub _ _ hLa25), by rw [natsV_len, natsV_len]; unfold sizeLine; omega, fun u u0 => ?_⟩
            generalize e7 : upd H6 u _ = H7
            obtain ⟨s7, u7, f7⟩ := newE u0 e7
            exact ⟨u, rfl, s7, hide_some.mpr ⟨frs2 s6 u u0, by rw [if_pos rfl, natsV_app]; exact u7⟩, low u (same_free s6 u0)⟩
          | false => exact iteF ⟨_, rfl, La2, rfl, same_refl _, sub s6 _ _ hLa25, free_up R.sp R.kp R.up R2.na⟩
        · rintro σ' H7 ⟨La', rfl, s7, hLa7, nLa7⟩
          have s57 := same_trans s6 s7
          have fin : R0 K l x st H (catL ((ls.take (i + 1)).map (·.1))) (sumN (ls.take (i + 1))) F' La' { st2 with fws := fws' } (b1 && b2) (if b1 = true then fs ++ fs2 else fs) (if b2 = true then las ++ las2 else las2) H7 := by
            refine ⟨sp5.same s57, bd5, fun c d hd => R2.lb c d hd, R2.eL.trans R.eL, R2.eF.trans R.eF, fun c hc => ?_, ?_, ?_, fun b hb => ?_, ?_, hLa7, gc.of_iff fun w => ?_, fun b h => R2.up b (R.up b h), nF6, nLa7⟩
            · have h1 := R.old c hc
              have h2 := R2.old c (by omega)
              refine ⟨h2.1.trans h1.1, (eqn c fun z => ?_).trans (h2.2.trans h1.2)⟩
              have := (R.gl.lin c z).1; omega
            · show st2.m = _
              rw [stk]; omega
            · refine R.kp.step (R2.kp.step (fun b o e n => s57 _ _ (k5 b o e n)) R2.gr) R.gr
            · rcases R2.gr b hb with z | z
              · exact R.gr b z
              · by_cases sm : st.M b
                · exact .inl sm
                · right
                  cases e : H b with
                  | none => rfl
                  | some o => rw [R.kp b o e sm] at z; cases z
            · exact hide_kp (Same.kp s7) _ _ hF6
            · rw [List.take_succ, hl, List.map_append]
              exact catL_snoc _ w
          refine ⟨_, rfl, _, rfl, ?_⟩
          cases b1 with
          | true => exact iteT ⟨_, rfl, F', La', _, b2, _, _, _, _, _, _, rfl, fin⟩
          | false => exact iteF ⟨F', La', _, false, _, _, _, _, _, _, rfl, fin⟩
    · obtain ⟨F, La, st1, b, fs, las, x5, x6, x7, x8, rfl, R⟩ := hI
      have e : us.length = ls.length := tr.1
      rw [e, List.take_length] at R
      refine ⟨_, rfl, _, rfl, _, rfl, (by show 3 ≤ sizeLine; decide), fun tt tt0 => ?_⟩
      generalize e4 : upd H' tt _ = H4
      obtain ⟨s4, tt4, f4⟩ := newE tt0 e4
      refine q tt F La st1 b fs las H4 ((R.more s4).rs (hide_some.mpr ⟨fun m => ?_, tt4⟩) (free_up R.sp R.kp R.up tt0))
      obtain ⟨o, ho⟩ := R.sp.has m
      rw [ho] at tt0; cases tt0
/-- [y for x in xs for y in x[j]], the lists of spots -/
theorem lc2_flat {σ : L2.St} {H : Hp} {Qd : Hp → Prop} {r sp : Nat} {j : Int} {a D : Addr} {ts : List Addr} {xss : List (List Nat)} {vs vs1 : List Nat} (D0 : H D = none) (ha : H a = some (.lst (refs ts)))
    (he : Each (fun t xs => ∃ tv b, H t = some (.tup tv) ∧ atI tv j = some (.ref b) ∧ H b = some (.lst (natsV xs))) ts xss) (hz : xss.flatten.length < sizeLine)
    (w1 : ∀ x, wipe ((wipe σ vs).set r (some x)) vs = wipe σ vs) (w2 : ∀ x y, wipe ((wipe ((wipe σ vs).set r (some x)) vs1).set sp (some y)) vs1 = wipe ((wipe σ vs).set r (some x)) vs1)
    (w3 : ∀ x, ((wipe σ vs).set r (some x))[r]? = some (some x)) (w4 : ∀ x y, ((wipe ((wipe σ vs).set r (some x)) vs1).set sp (some y))[sp]? = some (some y))
    (q : ∀ H', Same H H' → H' D = some (.lst (natsV xss.flatten)) → Qd H') :
    ∃ W : Nat → Nat → Hp → Prop, (∃ m, W 0 m (upd H D (.lst []))) ∧ ∀ i m H, W i m H →
      ((Itl K a).stop i H ∧ Qd H) ∨ ((Itl K a).go i H ∧ ∃ Nx : Hp → Prop, (∀ H', Nx H' → ∃ m', m' < m ∧ W (i + 1) m' H') ∧ ∀ x H', (Itl K a).yld i H x H' → gName r x (wipe σ vs) H' fun σ2 H2 => wipe σ2 vs = wipe σ vs ∧ tYes σ2 H2 fun b H3 =>
        if b = true then iList K (tOp (rIxT K) (tVar r) (tC (.int j))) σ2 H3 fun J1 H4 => ∃ W1 : Nat → Nat → Hp → Prop, (∃ m, W1 0 m H4) ∧ ∀ j k H, W1 j k H →
          (J1.stop j H ∧ Nx H) ∨ (J1.go j H ∧ ∃ Nx1 : Hp → Prop, (∀ H', Nx1 H' → ∃ k', k' < k ∧ W1 (j + 1) k' H') ∧ ∀ x H', J1.yld j H x H' → gName sp x (wipe σ2 vs1) H' fun σ3 H5 => wipe σ3 vs1 = wipe σ2 vs1 ∧ tYes σ3 H5 fun b H6 =>
            if b = true then tVar sp σ3 H6 fun y H7 => ∃ acc, H7 D = some (.lst acc) ∧ acc.length < sizeLine ∧ Nx1 (upd H7 D (.lst (acc ++ [y]))) else Nx1 H6)
        else Nx H3) := by
  refine ⟨fun i m H' => m = ts.length - i ∧ i ≤ ts.length ∧ Bl H D H' (natsV (xss.take i).flatten), ⟨ts.length, by simp, Nat.zero_le _, Bl.start D0⟩, ?_⟩
  rintro i m H1 ⟨rfl, hi, b⟩
  have qa := b.1 _ _ ha
  have rl := refs_len ts
  by_cases hlt : i < ts.length
  · right
    have gi : (refs ts)[i]? = some (.ref ts[i]) := by simp [refs, hlt]
    refine ⟨⟨_, _, SqL.of qa, gi⟩, fun H' => Bl H D H' (natsV (xss.take (i + 1)).flatten), fun H' p => ⟨ts.length - (i + 1), by omega, rfl, hlt, p⟩, fun x H2 y => ?_⟩
    obtain ⟨rfl, y⟩ := y
    have := y _ (SqL.of qa)
    rw [gi] at this
    cases this
    obtain ⟨xs, hx, tv, c, ht, hc, hb⟩ := he.get (List.getElem?_eq_getElem hlt)
    have fl : (xss.take (i + 1)).flatten = (xss.take i).flatten ++ xs := by rw [List.take_succ, hx]; simp
    have flz : (xss.take i).flatten.length + xs.length ≤ xss.flatten.length := by
      have e : xss = xss.take (i + 1) ++ xss.drop (i + 1) := (List.take_append_drop _ _).symm
      have := congrArg (fun z => z.flatten.length) e
      simp only [List.flatten_append, List.length_append, fl] at this
      omega
    refine ⟨w1 _, yesI ?_⟩
    refine ⟨_, w3 _, ts[i], _, j, _, rfl, rfl, SqT.of (b.1 _ _ ht), hc, c, rfl, ⟨_, SqL.of (b.1 _ _ hb)⟩, ?_⟩
    refine ⟨fun k m H' => m = xs.length - k ∧ k ≤ xs.length ∧ Bl H D H' (natsV ((xss.take i).flatten ++ xs.take k)), ⟨xs.length, by simp, Nat.zero_le _, by simpa using b⟩, ?_⟩
    rintro k m H3 ⟨rfl, hk, b3⟩
    have qc := b3.1 _ _ hb
    by_cases hkl : k < xs.length
    · right
      have gk : (natsV xs)[k]? = some (.int (xs[k] : Nat)) := by simp [natsV, hkl]
      refine ⟨⟨_, _, SqL.of qc, gk⟩, fun H' => Bl H D H' (natsV ((xss.take i).flatten ++ xs.take (k + 1))), fun H' p => ⟨xs.length - (k + 1), by omega, rfl, hkl, p⟩, fun z H4 y => ?_⟩
      obtain ⟨rfl, y⟩ := y
      have := y _ (SqL.of qc)
      rw [gk] at this
      cases this
      refine ⟨w2 _ _, yesI ?_⟩
      refine ⟨_, w4 _ _, _, b3.2, ?_, ?_⟩
      · rw [natsV_len, List.length_append, List.length_take]; omega
      · have e : natsV ((xss.take i).flatten ++ xs.take (k + 1)) = natsV ((xss.take i).flatten ++ xs.take k) ++ [.int (xs[k] : Nat)] := by
          rw [List.take_succ, List.getElem?_eq_getElem hkl, ← List.append_assoc, natsV_app]; rfl
        rw [e]
        exact b3.push D0
    · left
      have e : k = xs.length := by omega
      subst e
      refine ⟨⟨_, SqL.of qc, by rw [natsV_len]; exact Nat.le_refl _⟩, ?_⟩
      rw [fl]
      rw [List.take_length] at b3
      exact b3
  · left
    have e : i = ts.length := by omega
    subst e
    refine ⟨⟨_, SqL.of qa, by rw [refs_len]; exact Nat.le_refl _⟩, q H1 b.1 ?_⟩
    have := b.2
    rw [he.1, List.take_length] at this
    exact this
abbrev Part := Bool × List Nat × List Nat
def RowRes (Hh : Hp) (t : Addr) (p : Part) : Prop := ∃ F La, Hh t = some (.tup [.bl p.1, .ref F, .ref La]) ∧ Hh F = some (.lst (natsV p.2.1)) ∧ Hh La = some (.lst (natsV p.2.2))
theorem RowRes.mono {H H' : Hp} (s : Same H H') {t : Addr} {p : Part} (h : RowRes H t p) : RowRes H' t p := by
  obtain ⟨F, La, h1, h2, h3⟩ := h
  exact ⟨F, La, s _ _ h1, s _ _ h2, s _ _ h3⟩
theorem orL_snoc {L : EM.Lang} {ls : List EM.Lang} (w : List Nat) : orL (ls ++ [L]) w ↔ orL ls w ∨ L w := by
  constructor
  · rintro ⟨M, m, h⟩
    rcases List.mem_append.mp m with m | m
    · exact .inl ⟨M, m, h⟩
    · exact .inr (List.mem_singleton.mp m ▸ h)
  · rintro (⟨M, m, h⟩ | h)
    · exact ⟨M, List.mem_append.mpr (.inl m), h⟩
    · exact ⟨L, by simp, h⟩
theorem ok_lrows (T : Tx K mg) {k : Nat} (h0 : Ok P w K mg base (2 * k + 2) (He.ma K (He.ga K "Spots") "laid") ["self", "tree"] (spLaid K k)) :
    Ok P w K mg base (2 * k + 3) (He.ma K (He.ga K "Spots") "laid_rows") ["self", "rows"] (spLRows K k) := by
  obtain ⟨_, F_Spots_laid, b_Spots_laid, _⟩ := h0
  refine ok_mk (k := 2 * k + 2) T.fn_Spots_laid_rows sc_Spots_laid_rows (fun _ _ _ _ _ _ us hl => match us, hl with | [_, _], _ => rfl) (fun vs H Q E h => ?_) (fun cdv A outer s H vs Q E hr h => ?_)
  · obtain ⟨x, g, us, ls, st, l, rfl, _⟩ := h
    rfl
  · obtain ⟨x, g, us, ls, st, l, rfl, hx, bd, lb, hg, tr, u100, m7, q⟩ := h
    refine ⟨_, (pss_cons (ps_setLc (i := 3) (own := [("row", 2)]) (g := gName 2) (tt := tYes) (by rfl) sc_Spots_laid_rows.nd rfl rfl (sw_true rfl rfl rfl (by decide +kernel)) (pi_list (pv 1)) (blkOk_by (own := [("row", 2)]) (N := N_Spots_laid_rows) (sc := defScope s_Spots_laid_rows) (by decide +kernel)) (fun _ _ _ _ _ => (pg_name (i := 2) sc_Spots_laid_rows.nd rfl (Or.inl rfl))) (fun _ _ _ _ _ => pts_nil) (fun _ _ _ _ _ => (pe_meth (pv 0) T.c_Spots T.m_Spots_laid F_Spots_laid hr b_Spots_laid .nil pass0 (pa_cons (pv 2) pa_nil))))
      (pss_cons (ps_setLc2 (i := 5) (own := [("row", 2), ("spot", 4)]) (g := gName 2) (tt := tYes) (by rfl) sc_Spots_laid_rows.nd rfl rfl (sw_true rfl rfl rfl (by decide +kernel)) (pi_list (pv 3)) (blkOk_by (own := [("row", 2), ("spot", 4)]) (N := N_Spots_laid_rows) (sc := defScope s_Spots_laid_rows) (by decide +kernel)) (vs1 := [4]) (by decide) (fun _ _ _ _ _ => (pg_name (i := 2) sc_Spots_laid_rows.nd rfl (Or.inl rfl))) (fun _ _ _ _ _ => pts_nil) (fun _ _ _ _ _ => (pi_listK rfl (pe_ix (ix_tupK rfl) (pv 2) pe_int (fun _ _ => rfl)))) (fun _ _ _ _ _ => (pg_name (i := 4) sc_Spots_laid_rows.nd rfl (Or.inl rfl))) (fun _ _ _ _ _ => pts_nil) (fun _ _ _ _ _ => (pv 4)))
      (pss_one (ps_ret (pe_tup (pa_cons (pe_callB (cr_any (by rfl)) (by rfl) T.f_any (by decide +kernel) (pa_cons (pe_lc (own := [("row", 2)]) (g := gName 2) (tt := tYes) (by rfl) sc_Spots_laid_rows.nd (pi_list (pv 3)) (blkOk_by (own := [("row", 2)]) (N := N_Spots_laid_rows) (sc := defScope s_Spots_laid_rows) (by decide +kernel)) (fun _ _ _ _ _ => (pg_name (i := 2) sc_Spots_laid_rows.nd rfl (Or.inl rfl))) (fun _ _ _ _ _ => pts_nil) (fun _ _ _ _ _ => (pe_ix (ix_tupK rfl) (pv 2) pe_int (fun _ _ => rfl)))) pa_nil)) (pa_cons (pv 5) (pa_cons (pe_lc2 (own := [("row", 2), ("spot", 4)]) (g := gName 2) (tt := tYes) (by rfl) sc_Spots_laid_rows.nd (pi_list (pv 3)) (blkOk_by (own := [("row", 2), ("spot", 4)]) (N := N_Spots_laid_rows) (sc := defScope s_Spots_laid_rows) (by decide +kernel)) (vs1 := [4]) (by decide) (fun _ _ _ _ _ => (pg_name (i := 2) sc_Spots_laid_rows.nd rfl (Or.inl rfl))) (fun _ _ _ _ _ => pts_nil) (fun _ _ _ _ _ => (pi_listK rfl (pe_ix (ix_tupK rfl) (pv 2) pe_int (fun _ _ => rfl)))) (fun _ _ _ _ _ => (pg_name (i := 4) sc_Spots_laid_rows.nd rfl (Or.inl rfl))) (fun _ _ _ _ _ => pts_nil) (fun _ _ _ _ _ => (pv 4))) pa_nil)))))))), ?_⟩
    refine ⟨_, rfl, g, rfl, ⟨_, SqL.of (hide_sub _ _ hg)⟩, fun D D0 => ?_⟩
    have nDM : ¬ st.M D := fun m => by
      obtain ⟨o, ho⟩ := hx.has m
      rw [ho] at D0; cases D0
    refine lc_list (xs := us) (fun i H' => ∃ ts ps st1, H' D = some (.lst (refs ts)) ∧ ts.length = i ∧ Each (RowRes (hide (fun b => st1.M b ∨ b = D) H')) ts ps ∧ SpAt K H' x st1 ∧ Bd st1 ∧ Lb l st1 ∧ st1.L = st.L ∧ st1.Fo = st.Fo ∧
      (∀ q, q ≤ st.m → st1.lt q = st.lt q ∧ st1.fw q = st.fw q) ∧ st1.m = st.m + sumN (ls.take i) ∧ Kp st.M H H' ∧ (∀ b, st1.M b → st.M b ∨ H b = none) ∧ ¬ st1.M D ∧ (∀ b, st.M b → st1.M b) ∧
      EM.Gl st1.lt st1.fw st.m st1.m (ps.any (·.1)) (ps.map (·.2.1)).flatten (ps.map (·.2.2)).flatten (orL ((ls.take i).map (·.1)))) ?_ (fun i H' _ hI => ?_) (fun i v H' hv hI => ?_) (fun H' hI => ?_)
    · refine ⟨[], [], st, upd_same, rfl, .nil, hx.same (Same.up D0), bd, lb, rfl, rfl, fun _ _ => ⟨rfl, rfl⟩, rfl, Same.kp (Same.up D0), fun b h => .inl h, nDM, fun _ h => h, EM.gl_none.of_iff fun w => ?_⟩
      constructor
      · rintro ⟨M, m, _⟩; cases m
      · exact fun z => z.elim
    · obtain ⟨ts, ps, st1, hD, tl, eac, sp, _, _, _, _, _, _, kp, gr, _⟩ := hI
      exact SqL.of (hide_sub _ _ (grow_hide kp gr _ _ hg))
    · obtain ⟨ts, ps, st1, hD, tl, eac, sp, bd1, lb1, eL, eF, old1, em, kp, gr, nD1, up, gl1⟩ := hI
      obtain ⟨⟨L0, n0⟩, hl, trv⟩ := tr.get hv
      have trv := Tree.mono (grow_hide kp gr) k _ _ _ trv
      obtain ⟨dx, hobj⟩ := sp.obj
      have stk : sumN (ls.take (i + 1)) = sumN (ls.take i) + n0 := by
        rw [List.take_succ, hl, sumN_app]; simp [sumN]
      have le := sumN_take ls (i + 1)
      refine ⟨rfl, yesI ?_⟩
      refine ⟨_, rfl, x, dx, _, rfl, hobj, rfl, _, rfl, x, v, st1, l, L0, n0, rfl, sp, bd1, lb1, trv, by omega, fun t2 F2 La2 st2 b2 fs2 las2 H4 R2 => ?_⟩
      have hD4 := R2.kp _ _ hD nD1
      have nD2 : ¬ st2.M D := fun m => by
        rcases R2.gr D m with z | z
        · exact nD1 z
        · rw [hD] at z; cases z
      refine ⟨_, hD4, by rw [refs_len]; have := eac.1; have : i < us.length := (List.getElem?_eq_some_iff.mp hv).1; unfold sizeLine; omega, ?_⟩
      generalize e5 : upd H4 D _ = H5
      obtain ⟨D5, f5⟩ := putE e5
      have kD : Kp (fun b => b = D) H4 H5 := fun b o e n => (f5 b n).trans e
      have em2 := R2.m
      have g1 : EM.Gl st2.lt st2.fw st.m st1.m _ _ _ _ := gl1.congr (fun p h1 h2 => (R2.old p h2).1) (fun p h1 h2 => (R2.old p h2).2)
      have go := EM.gl_or g1 R2.gl
      have smA : Same (hide (fun b => st1.M b ∨ b = D) H') (hide (fun b => st2.M b ∨ b = D) H5) := hide_same fun b o e n => by
        have n1 : ¬ st1.M b := fun z => n (.inl z)
        have n2 : b ≠ D := fun z => n (.inr z)
        refine ⟨(f5 b n2).trans (R2.kp b o e n1), fun z => z.elim (fun z => ?_) n2⟩
        rcases R2.gr b z with z | z
        · exact n1 z
        · rw [e] at z; cases z
      have nD' : ∀ b, H' b = none → b ≠ D := fun b e z => by rw [z, hD] at e; cases e
      have hide5 : ∀ b o, hide st2.M H4 b = some o → b ≠ D → hide (fun b => st2.M b ∨ b = D) H5 b = some o := fun b o e n => by
        obtain ⟨e1, e2⟩ := hide_some.mp e
        exact hide_some.mpr ⟨fun z => z.elim e1 n, (f5 b n).trans e2⟩
      have kpA : Kp st.M H H5 := fun b o e n => (f5 b (ne_of_none e D0)).trans ((kp.step R2.kp gr) b o e n)
      refine ⟨ts ++ [t2], ps ++ [(b2, fs2, las2)], st2, by rw [D5, refs_app]; rfl, by simp [tl], (eac.mono fun a b => RowRes.mono smA).snoc ⟨F2, La2, hide5 _ _ R2.t (nD' _ R2.nt), hide5 _ _ R2.f (nD' _ R2.nf), hide5 _ _ R2.a (nD' _ R2.na)⟩,
        R2.sp.kp kD fun b e m => ?_, R2.bd, R2.lb, R2.eL.trans eL, R2.eF.trans eF, fun c hc => ?_, by rw [stk]; omega, kpA, fun b hb => ?_, nD2, fun b h => R2.up b (up b h), ?_⟩
      · subst e
        rcases m with m | m
        · rw [← m, hD] at hobj; cases hobj
        · exact nD2 m
      · have h1 := old1 c hc
        have h2 := R2.old c (by omega)
        exact ⟨h2.1.trans h1.1, h2.2.trans h1.2⟩
      · rcases R2.gr b hb with z | z
        · exact gr b z
        · by_cases sm : st.M b
          · exact .inl sm
          · right
            cases e : H b with
            | none => rfl
            | some o => rw [kp b o e sm] at z; cases z
      · rw [List.take_succ, hl, List.map_append, List.any_append, List.map_append, List.map_append, List.flatten_append, List.flatten_append]
        have e1 : (ps.any (·.1) || [((b2, fs2, las2) : Part)].any (·.1)) = (ps.any (·.1) || b2) := by simp
        have e2 : ([((b2, fs2, las2) : Part)].map (·.2.1)).flatten = fs2 := by simp
        have e3 : ([((b2, fs2, las2) : Part)].map (·.2.2)).flatten = las2 := by simp
        rw [e1, e2, e3]
        exact go.of_iff fun w => orL_snoc w
    · obtain ⟨ts, ps, st1, hD, tl, eac, sp, bd1, lb1, eL, eF, old1, em, kp, gr, nD1, up, gl1⟩ := hI
      have e : us.length = ls.length := tr.1
      rw [e, List.take_length] at em gl1
      have eac := eac.mono (fun a b => RowRes.mono (hide_less (M' := st1.M) fun b m => .inl m))
      have bl := bd1.1
      have fz : (ps.map (·.2.1)).flatten.length ≤ 8 := nodup_le (m := 7) gl1.fnd fun z hz => by have := (gl1.fin z hz).2; omega
      have az : (ps.map (·.2.2)).flatten.length ≤ 8 := nodup_le (m := 7) gl1.lnd fun z hz => by have := (gl1.lin z hz).2; omega
      refine ⟨_, rfl, D, rfl, ⟨_, SqL.of hD⟩, fun F F0 => ?_⟩
      refine lc2_flat (xss := ps.map (·.2.1)) F0 hD ?_ (by unfold sizeLine; omega) (by intros; rfl) (by intros; rfl) (by intros; rfl) (by intros; rfl) fun H4 s4 F4 => ?_
      · refine ⟨by rw [List.length_map]; exact eac.1, fun i a xs ha hxs => ?_⟩
        rw [List.getElem?_map, Option.map_eq_some_iff] at hxs
        obtain ⟨p, hp, rfl⟩ := hxs
        obtain ⟨F, La, h1, h2, h3⟩ := eac.2 i a p ha hp
        exact ⟨_, F, hide_sub _ _ h1, rfl, hide_sub _ _ h2⟩
      · refine ⟨_, rfl, D, rfl, ⟨_, SqL.of (s4 _ _ hD)⟩, fun E0' E00 => ?_⟩
        refine lc_list (xs := refs ts) (PB H4 E0' fun i acc _ => acc = ((ps.take i).map (·.1)).map V.bl) (PB.start E00 fun _ _ => rfl) (fun i H _ h => ?_) (fun i v H5 hv h => ?_) (fun H5 h => ?_)
        · obtain ⟨acc, b, _⟩ := h
          exact SqL.of (b.1 _ _ (s4 _ _ hD))
        · obtain ⟨acc, b, rfl⟩ := h
          obtain ⟨t, ht, rfl⟩ := refs_get hv
          obtain ⟨p, hp, F', La', h1, h2, h3⟩ := eac.get ht
          refine ⟨rfl, yesI ?_⟩
          refine ⟨_, rfl, t, _, 0, _, rfl, rfl, SqT.of (b.1 _ _ (s4 _ _ (hide_sub _ _ h1))), rfl, PB.add b E00 (same_refl _) ?_ fun H6 _ _ => ?_⟩
          · have := eac.1
            rw [List.length_map, List.length_map, List.length_take]; unfold sizeLine; omega
          · show _ = ((ps.take (i + 1)).map (·.1)).map V.bl
            rw [List.take_succ, hp, List.map_append, List.map_append]; rfl
        · obtain ⟨acc, b, ea⟩ := h
          have ea : acc = ((ps.take (refs ts).length).map (·.1)).map V.bl := ea
          rw [refs_len, eac.1, List.take_length] at ea
          subst ea
          refine ⟨E0', _, rfl, SqL.of b.2, _, rfl, ?_⟩
          have s45 := same_trans s4 b.1
          refine ⟨_, rfl, D, rfl, ⟨_, SqL.of (s45 _ _ hD)⟩, fun La La0 => ?_⟩
          refine lc2_flat (xss := ps.map (·.2.2)) La0 (s45 _ _ hD) ?_ (by unfold sizeLine; omega) (by intros; rfl) (by intros; rfl) (by intros; rfl) (by intros; rfl) fun H6 s6 La6 => ?_
          · refine ⟨by rw [List.length_map]; exact eac.1, fun i a xs ha hxs => ?_⟩
            rw [List.getElem?_map, Option.map_eq_some_iff] at hxs
            obtain ⟨p, hp, rfl⟩ := hxs
            obtain ⟨F', La', h1, h2, h3⟩ := eac.2 i a p ha hp
            exact ⟨_, La', s45 _ _ (hide_sub _ _ h1), rfl, s45 _ _ (hide_sub _ _ h3)⟩
          · refine ⟨(by show 3 ≤ sizeLine; decide), fun tt tt0 => ?_⟩
            generalize e7 : upd H6 tt _ = H7
            obtain ⟨s7, tt7, f7⟩ := newE tt0 e7
            have sAll : Same H' H7 := same_trans s45 (same_trans s6 s7)
            have frs : ∀ {Hx : Hp} {b : Addr}, Same H' Hx → Hx b = none → ¬ st1.M b := fun s e m => by
              obtain ⟨o, ho⟩ := sp.has m
              rw [s _ _ ho] at e; cases e
            have upM : ∀ b, st.M b → H b = none → False := fun b m e => by
              obtain ⟨o, ho⟩ := hx.has m
              rw [ho] at e; cases e
            have ea : ((ps.map (·.1)).any id) = ps.any (·.1) := by rw [List.any_map]; rfl
            refine q tt F La st1 (ps.any (·.1)) _ _ H7 ⟨sp.same sAll, bd1, lb1, eL, eF, old1, em, fun b o e n => sAll _ _ (kp b o e n), gr, hide_some.mpr ⟨frs (same_trans s45 s6) tt0, by rw [← ea]; exact tt7⟩, hide_some.mpr ⟨frs (same_refl _) F0, s7 _ _ (s6 _ _ (b.1 _ _ F4))⟩,
              hide_some.mpr ⟨frs s45 La0, s7 _ _ La6⟩, gl1, ?_, ?_, ?_, ?_⟩
            · exact up
            · exact free_up sp kp up (same_free (same_trans s45 s6) tt0)
            · exact free_up sp kp up F0
            · exact free_up sp kp up (same_free s45 La0)
theorem ok_laid (T : Tx K mg) (h3 : Ok P w K mg base 1 (He.ma K (He.ga K "Spots") "link") ["self", "firsts", "lasts"] (spLink K)) : ∀ k, Ok P w K mg base (2 * k + 2) (He.ma K (He.ga K "Spots") "laid") ["self", "tree"] (spLaid K k) := by
  intro k
  induction k with
  | zero => exact ok_mk T.fn_Spots_laid sc_Spots_laid (fun _ _ _ _ _ _ us hl => match us, hl with | [_, _], _ => rfl) (fun vs H Q E h => by obtain ⟨_, _, _, _, _, _, _, _, _, _, h, _⟩ := h; exact h.elim) (fun cdv A outer s H vs Q E hr h => by obtain ⟨_, _, _, _, _, _, _, _, _, _, h, _⟩ := h; exact h.elim)
  | succ k ih => exact ok_laid1 T ih (ok_lrow T ih h3) (ok_lrows T ih) h3
end
end E

set_option autoImplicit true
set_option maxHeartbeats 4000000
set_option Elab.async false
set_option linter.all false
set_option maxRecDepth 100000
set_option maxHeartbeats 4000000
/-! From the reader's trees to the spots' trees; which places lead to an end. -/
namespace E
open PySem PySem.Spec PyProof.Rows L2
theorem Tree.up {l : List Nat} {H : Hp} : ∀ (k : Nat) v L n, Tree l H k v L n → Tree l H (k + 1) v L n := by
  intro k
  induction k with
  | zero => intro v L n h; exact h.elim
  | succ k ih =>
    rintro v L n ⟨t, e, h⟩
    refine ⟨t, e, ?_⟩
    rcases h with h | ⟨u, L0, h1, h2, h3⟩ | ⟨u, L0, h1, h2, h3⟩ | ⟨g, vs, ls, h1, h2, h3, h4⟩ | ⟨g, vs, ls, h1, h2, h3, h4⟩
    · exact .inl h
    · exact .inr (.inl ⟨u, L0, h1, ih _ _ _ h2, h3⟩)
    · exact .inr (.inr (.inl ⟨u, L0, h1, ih _ _ _ h2, h3⟩))
    · exact .inr (.inr (.inr (.inl ⟨g, vs, ls, h1, h2, h3.mono fun a b => ih _ _ _, h4⟩)))
    · exact .inr (.inr (.inr (.inr ⟨g, vs, ls, h1, h2, h3.mono fun a b => ih _ _ _, h4⟩)))
theorem rowL_cat {α : Type} {L : α → EM.Lang} : ∀ (r : List (α × EM.Sg)) (w : List Nat), EM.rowL L r w ↔ catL (r.map fun x => EM.sgL (L x.1) x.2) w := by
  intro r
  induction r with
  | nil => intro w; exact Iff.rfl
  | cons x r ih =>
    intro w
    constructor
    · rintro ⟨u, v, e, h1, h2⟩; exact ⟨u, v, e, h1, (ih v).mp h2⟩
    · rintro ⟨u, v, e, h1, h2⟩; exact ⟨u, v, e, h1, (ih v).mpr h2⟩
theorem patL_or {α : Type} {L : α → EM.Lang} (p : List (List (α × EM.Sg))) (w : List Nat) : EM.patL L p w ↔ orL (p.map fun r => EM.rowL L r) w := by
  constructor
  · rintro ⟨r, m, h⟩; exact ⟨_, List.mem_map.mpr ⟨r, m, rfl⟩, h⟩
  · rintro ⟨M, m, h⟩
    obtain ⟨r, m', rfl⟩ := List.mem_map.mp m
    exact ⟨r, m', h⟩
section
variable {l : List Nat} {H : Hp}
theorem atT_tree (lok : LetOk l) {v : V} {x : EM.Atom} (h : AtT l H v x) (w : EM.atomOk l x) {L : EM.Lang} (hL : ∀ w, L w ↔ EM.atomL l x w) : Tree l H 1 v L 1 := by
  obtain ⟨t, e, h⟩ := h
  refine ⟨t, e, .inl ⟨atC l x, x, h, fun c => ?_, fun c hc => ?_, hL, rfl⟩⟩
  · cases x with
    | sym c' =>
      show [c] = [c'] ↔ c ∈ [c']
      simp
    | dot =>
      show (∃ d, d ∈ l ∧ [c] = [d]) ↔ c ∈ l
      constructor
      · rintro ⟨d, hd, e⟩; cases e; exact hd
      · intro h; exact ⟨c, h, rfl⟩
  · cases x with
    | sym c' => rw [List.mem_singleton.mp hc]; exact w
    | dot => exact hc
/-- the trees of an abstract layer, then of all layers -/
theorem rsT_tree {α : Type} {R : Hp → V → α → Prop} {L : α → EM.Lang} {f : α → Nat} {W : α → Prop} {k : Nat} (hR : ∀ v x, R H v x → W x → Tree l H k v (L x) (f x)) (hne : ∀ x, W x → ∃ w, L x w) {v : V} {p : List (List (α × EM.Sg))} (h : RsT R H v p) (w : EM.PatOk W p) :
    Tree l H (k + 3) v (EM.patL L p) (EM.patN f p) := by
  have item : ∀ v x, ItT R H v x → W x.1 → Tree l H (k + 1) v (EM.sgL (L x.1) x.2) (f x.1) := by
    rintro v ⟨x, sg⟩ h wx
    rcases h with ⟨e, h⟩ | ⟨t, u, rfl, ⟨e, h1⟩ | ⟨e, h1⟩, h2⟩
    · have e : sg = .one := e
      subst e
      exact (hR v x h wx).up
    · have e : sg = .star := e
      subst e
      exact ⟨t, rfl, .inr (.inl ⟨u, L x, h1, hR u x h2 wx, fun _ => Iff.rfl⟩)⟩
    · have e : sg = .opt := e
      subst e
      exact ⟨t, rfl, .inr (.inr (.inl ⟨u, L x, h1, hR u x h2 wx, fun _ => Iff.rfl⟩))⟩
  have row : ∀ v r, RwT R H v r → (r.length ≤ 3 ∧ ∀ x, x ∈ r → W x.1) → Tree l H (k + 2) v (EM.rowL L r) (EM.sumBy (fun x : α × EM.Sg => f x.1) r) := by
    rintro v r ⟨t, g, vs, rfl, h1, h2, h3⟩ ⟨r3, wr⟩
    refine ⟨t, rfl, .inr (.inr (.inr (.inl ⟨g, vs, r.map fun x => (EM.sgL (L x.1) x.2, f x.1), h1, h2, ⟨by rw [List.length_map]; exact h3.1, fun i a b ha hb => ?_⟩, fun w => ?_, ?_, by have := h3.1; omega, fun y hy => ?_⟩)))⟩
    · rw [List.getElem?_map, Option.map_eq_some_iff] at hb
      obtain ⟨x, hx, rfl⟩ := hb
      exact item a x (h3.2 i a x ha hx) (wr x (List.mem_of_getElem? hx))
    · rw [List.map_map]; exact rowL_cat r w
    · unfold sumN EM.sumBy; rw [List.map_map]; rfl
    · obtain ⟨x, hx, rfl⟩ := List.mem_map.mp hy
      exact EM.sgL_ne (hne _ (wr x hx)) _
  obtain ⟨t, g, vs, rfl, h1, h2, h3⟩ := h
  obtain ⟨w1, w2, w3⟩ := w
  refine ⟨t, rfl, .inr (.inr (.inr (.inr ⟨g, vs, p.map fun r => (EM.rowL L r, EM.sumBy (fun x : α × EM.Sg => f x.1) r), h1, h2, ⟨by rw [List.length_map]; exact h3.1, fun i a b ha hb => ?_⟩, fun w => ?_, ?_, by have := h3.1; omega⟩)))⟩
  · rw [List.getElem?_map, Option.map_eq_some_iff] at hb
    obtain ⟨x, hx, rfl⟩ := hb
    exact row a x (h3.2 i a x ha hx) (w3 x (List.mem_of_getElem? hx))
  · rw [List.map_map]; exact patL_or p w
  · unfold sumN EM.patN; unfold EM.sumBy; rw [List.map_map]; rfl
theorem trT_tree (lok : LetOk l) : ∀ (d : Nat) v (x : EM.Inner d), TrT l d H v x → EM.Wf l d x → Tree l H (3 * d + 1) v (EM.innL l d x) (EM.innN d x) := by
  have hl : l ≠ [] := fun e => by have := lok.2.1; rw [e] at this; simp at this
  intro d
  induction d with
  | zero => intro v x h w; exact atT_tree lok h w fun _ => Iff.rfl
  | succ d ih =>
    intro v x h w
    cases x with
    | inl x =>
      have up : ∀ k, Tree l H (k + 1) v (EM.atomL l x) 1 := by
        intro k
        induction k with
        | zero => exact atT_tree lok h w fun _ => Iff.rfl
        | succ k ih => exact ih.up
      exact up (3 * (d + 1))
    | inr p => exact rsT_tree (k := 3 * d + 1) (fun v x => ih v x) (fun x wx => EM.innL_ne hl d x wx) h w
theorem rs_tree (lok : LetOk l) {d : Nat} {v : V} {p : EM.Pat d} (h : RsT (TrT l d) H v p) (w : EM.PatOk (EM.Wf l d) p) : Tree l H (3 * d + 4) v (EM.patL (EM.innL l d) p) (EM.patN (EM.innN d) p) := by
  have hl : l ≠ [] := fun e => by have := lok.2.1; rw [e] at this; simp at this
  exact rsT_tree (k := 3 * d + 1) (fun v x => trT_tree lok d v x) (fun x wx => EM.innL_ne hl d x wx) h w
end
end E

set_option autoImplicit true
set_option maxHeartbeats 4000000
set_option Elab.async false
set_option linter.all false
set_option maxRecDepth 100000
set_option maxHeartbeats 4000000
/-! Which places lead to an end. -/
namespace E
open PySem PySem.Spec PyProof.Rows L2
/-! ### data told -/
theorem dp_nats {K : PySem.W.Frag} {H : Hp} : ∀ ns : List Nat, DpAll K H (natsV ns) (ns.map fun j : Nat => PyData.int j)
  | [] => .nil
  | n :: r => .cons (.int n) (dp_nats r)
theorem shaped_nats (ns : List Nat) : SeqAt.shaped (.list (ns.map fun j : Nat => PyData.int j)) = true ∧ SeqAt.shaped (.tuple (ns.map fun j : Nat => PyData.int j)) = true := by
  have h1 : ∀ ns : List Nat, PyData.canLayAll0 (ns.map fun j : Nat => PyData.int j) = true := by
    intro ns
    induction ns with
    | nil => rfl
    | cons a r ih => show (true && _) = true; rw [ih]; rfl
  have h2 : ∀ ns : List Nat, PyData.depthAll (ns.map fun j : Nat => PyData.int j) = 0 := by
    intro ns
    induction ns with
    | nil => rfl
    | cons a r ih => show max (PyData.depth (.int a)) (PyData.depthAll _) = 0; rw [ih]; rfl
  constructor
  · show (PyData.canLayAll0 _ && decide (PyData.depth _ ≤ 64)) = true
    rw [h1, Bool.true_and, decide_eq_true_eq]
    show PyData.depthAll _ + 1 ≤ 64
    rw [h2]; decide
  · show (PyData.canLayAll0 _ && decide (PyData.depth _ ≤ 64)) = true
    rw [h1, Bool.true_and, decide_eq_true_eq]
    show PyData.depthAll _ + 1 ≤ 64
    rw [h2]; decide
theorem eqv_nil (ns : List Nat) : PyData.eqv (.list (ns.map fun j : Nat => PyData.int j)) (.list []) = decide (ns = []) := by
  cases ns <;> rfl
/-- xs != [], a list of numbers -/
theorem ne_nil {K : PySem.W.Frag} {H : Hp} {a b : Addr} {ns : List Nat} {Q : VK} (ha : H a = some (.lst (natsV ns))) (hb : H b = some (.lst [])) (q : Q (.bl (!decide (ns = []))) H) : rNeD K (.ref a) (.ref b) H Q :=
  ⟨_, _, .lst (SqL.of ha) (dp_nats ns), .lst (SqL.of hb) .nil, (shaped_nats ns).1, rfl, by rw [eqv_nil]; exact q⟩
/-! ### lanes in the heap -/
def laneV (l : EM.Lane) : List V := [.int (l.1 : Nat), .str (sOf [l.2.1]), .int (l.2.2 : Nat)]
def LnAt (H : Hp) (ts : List Addr) (ls : List EM.Lane) : Prop := Each (fun t l => H t = some (.tup (laneV l))) ts ls
theorem LnAt.mono {H H' : Hp} {ts : List Addr} {ls : List EM.Lane} (s : Same H H') (h : LnAt H ts ls) : LnAt H' ts ls := Each.mono h fun _ _ e => s _ _ e
def SeqA (H : Hp) (a : Addr) (xs : List V) : Prop := H a = some (.lst xs) ∨ H a = some (.tup xs)
theorem SeqA.mono {H H' : Hp} {a : Addr} {xs : List V} (s : Same H H') (h : SeqA H a xs) : SeqA H' a xs := h.imp (s _ _) (s _ _)
/-! ### the newest lane to a place -/
def lastI (ls : List EM.Lane) (t : Nat) : Nat → Int
  | 0 => -1
  | i + 1 => if (ls[i]?.map (·.2.2)) = some t then (i : Nat) else lastI ls t i
theorem lastI_spec (ls : List EM.Lane) (t : Nat) : ∀ k, (lastI ls t k = -1 ∧ ∀ j l, j < k → ls[j]? = some l → l.2.2 ≠ t) ∨ ∃ a : Nat, lastI ls t k = (a : Nat) ∧ a < k ∧ (∃ l, ls[a]? = some l ∧ l.2.2 = t) ∧ ∀ j l, a < j → j < k → ls[j]? = some l → l.2.2 ≠ t := by
  intro k
  induction k with
  | zero => exact .inl ⟨rfl, fun j l h => by omega⟩
  | succ k ih =>
    unfold lastI
    split
    · next h =>
      obtain ⟨l, hl, e⟩ := Option.map_eq_some_iff.mp h
      exact .inr ⟨k, rfl, by omega, ⟨l, hl, e⟩, fun j l' h1 h2 => by omega⟩
    · next h =>
      have ne : ∀ l, ls[k]? = some l → l.2.2 ≠ t := fun l hl e => h (by rw [hl, Option.map_some, e])
      rcases ih with ⟨e, h1⟩ | ⟨a, e, h1, h2, h3⟩
      · refine .inl ⟨e, fun j l hj hl => ?_⟩
        by_cases z : j = k
        · subst z; exact ne l hl
        · exact h1 j l (by omega) hl
      · refine .inr ⟨a, e, by omega, h2, fun j l h4 h5 hl => ?_⟩
        by_cases z : j = k
        · subst z; exact ne l hl
        · exact h3 j l h4 (by omega) hl
/-! ### numbers as a dict's keys -/
def uK (us : List Nat) : List (Key × V) := us.map fun p => (.inl (p : Nat), .bl true)
theorem uK_val (us : List Nat) (p : Nat) : (valV (uK us) (.inl (p : Nat))).isSome = decide (p ∈ us) := by
  rw [← valV_any, Bool.eq_iff_iff, List.any_eq_true, decide_eq_true_eq]
  constructor
  · rintro ⟨kv, m, e⟩
    obtain ⟨q, hq, rfl⟩ := List.mem_map.mp m
    have e : (Sum.inl (q : Int) : Key) = .inl (p : Int) := by simpa using e
    injection e with e
    have : q = p := by omega
    exact this ▸ hq
  · intro m
    exact ⟨_, List.mem_map.mpr ⟨p, m, rfl⟩, by simp⟩
theorem uK_len (us : List Nat) : (uK us).length = us.length := by simp [uK]
theorem uK_put {us : List Nat} {p : Nat} (h : p ∉ us) : putK (uK us) (.inl (p : Nat)) (.bl true) = uK (us ++ [p]) := by
  unfold putK
  have : ((uK us).any fun kv => decide (kv.1 = (.inl (p : Nat) : Key))) = false := by
    rw [valV_any, uK_val, decide_eq_false h]
  rw [this, if_neg (by decide)]
  simp [uK]
theorem uK_merge {en : List Nat} (nd : en.Nodup) : mergeK [] (uK en) = uK en := by
  have key : ∀ (a b : List Nat), (a ++ b).Nodup → mergeK (uK a) (uK b) = uK (a ++ b) := by
    intro a b
    induction b generalizing a with
    | nil => intro _; simp [uK, mergeK]
    | cons p r ih =>
      intro h
      have hp : p ∉ a := fun m => (List.nodup_append.mp h).2.2 p m p (List.mem_cons_self ..) rfl
      have e : mergeK (uK a) (uK (p :: r)) = mergeK (putK (uK a) (.inl (p : Nat)) (.bl true)) (uK r) := rfl
      rw [e, uK_put hp, ih (a ++ [p]) (by simpa using h)]
      simp
  exact key [] en (by simpa using nd)
theorem paired_of {α β : Type} {R : α → β → Prop} : ∀ {as : List α} {bs : List β}, Each R as bs → Paired R as bs := by
  intro as
  induction as with
  | nil =>
    intro bs h
    have : bs = [] := List.eq_nil_of_length_eq_zero h.1.symm
    subst this
    exact .nil
  | cons a r ih =>
    intro bs h
    cases bs with
    | nil => have := h.1; simp at this
    | cons b s =>
      exact .cons (h.2 0 a b rfl rfl) (ih ⟨by have := h.1; simpa using this, fun i x y hx hy => h.2 (i + 1) x y hx hy⟩)
theorem ix_seqA {K : PySem.W.Frag} {H : Hp} {a : Addr} {ts : List Addr} {i : Nat} {t : Addr} {Q : VK} (h : SeqA H a (refs ts)) (ht : ts[i]? = some t) (q : Q (.ref t) H) : rIx K (.ref a) (.int (i : Nat)) H Q := by
  have e : (refs ts)[i]? = some (.ref t) := by unfold refs; rw [List.getElem?_map, ht]; rfl
  rcases h with h | h
  · exact .inl ⟨a, _, _, _, rfl, rfl, SqL.of h, atI_nat e, q⟩
  · exact .inr (.inl ⟨a, _, _, _, rfl, rfl, SqT.of h, atI_nat e, q⟩)
/-- the newest lanes so far -/
def NwOk (ls : List EM.Lane) (i : Nat) (kvs : List (Key × V)) : Prop := kvs.length ≤ i ∧ ∀ t : Nat, (valV kvs (.inl (t : Nat))).getD (.int (-1)) = .int (lastI ls t i)
def elV (ls : List EM.Lane) (i : Nat) : List V := (List.range i).map fun j => V.int (lastI ls ((ls[j]?.map (·.2.2)).getD 0) j)
theorem elV_succ (ls : List EM.Lane) (i : Nat) : elV ls (i + 1) = elV ls i ++ [V.int (lastI ls ((ls[i]?.map (·.2.2)).getD 0) i)] := by
  unfold elV
  rw [List.range_succ, List.map_append]; rfl
/-- what is useful so far, and what waits -/
structure CI (ls : List EM.Lane) (en : List Nat) (n : Nat) (us W : List Nat) : Prop where
  nd : us.Nodup
  lt : ∀ p, p ∈ us → p < n
  wu : ∀ p, p ∈ W → p ∈ us
  eu : ∀ e, e ∈ en → e ∈ us
  so : ∀ p, p ∈ us → ∃ w, EM.Fu ls en w p
  wn : W.Nodup
theorem CI.fin {ls : List EM.Lane} {en : List Nat} {n : Nat} {us : List Nat} (c : CI ls en n us []) (cl : ∀ l, l ∈ ls → l.2.2 ∈ us → l.1 ∈ us) (p : Nat) : p ∈ us ↔ ∃ w, EM.Fu ls en w p := by
  refine ⟨c.so p, ?_⟩
  rintro ⟨w, h⟩
  induction w generalizing p with
  | nil => exact c.eu p h
  | cons a w ih =>
    obtain ⟨q, hq, hw⟩ := h
    exact cl _ hq (ih q hw)
section
variable {P : Program} {w : World} {K : PySem.W.Frag} {mg : Str → Option Value} {base : Heap}
def spCome : Sp := fun vs H Q _ => ∃ (la ea : Addr) (ts : List Addr) (ls : List EM.Lane) (en : List Nat) (n : Nat), vs = [.ref la, .ref ea] ∧ SeqA H la (refs ts) ∧ LnAt H ts ls ∧ SeqA H ea (natsV en) ∧ en.Nodup ∧ ls.length ≤ 3000 ∧ n ≤ 3000 ∧
  (∀ l, l ∈ ls → l.1 < n) ∧ (∀ e, e ∈ en → e < n) ∧ ∀ u us H', Same H H' → H' u = some (.dK (uK us)) → (∀ p, p ∈ us ↔ ∃ w, EM.Fu ls en w p) → Q (.ref u) H'
theorem ok_come (T : Tx K mg) : Ok P w K mg base 1 (He.ga K "come_to") ["lanes", "ends"] spCome := by
  refine ok_mk T.fn_come_to sc_come_to (fun _ _ _ _ _ _ us hl => match us, hl with | [_, _], _ => rfl) (fun vs H Q E h => ?_) (fun cdv A outer s H vs Q E hr h => ?_)
  · obtain ⟨la, ea, ts, ls, en, n, rfl, _⟩ := h
    rfl
  · obtain ⟨la, ea, ts, ls, en, n, rfl, hla, hln, hea, end', l3, n3, lb, eb, q⟩ := h
    have hu := hu_of hr
    refine ⟨_, (pss_cons (ps_set (i := 2) sc_come_to.nd rfl (by first | exact Or.inl rfl | exact Or.inr rfl) pe_dnewK)
      (pss_cons (ps_set (i := 3) sc_come_to.nd rfl (by first | exact Or.inl rfl | exact Or.inr rfl) (pe_lst pa_nil))
      (C8.pss_cut (ps_for PassesOwn.never rfl (pi_enumA (by rfl) T.f_enumerate (pa_cons (pv 0) pa_nil)) (pg_tup (by rfl) (pgs_cons (pg_name (i := 4) sc_come_to.nd rfl (by first | exact Or.inl rfl | exact Or.inr rfl)) (pgs_cons (pg_name (i := 5) sc_come_to.nd rfl (by first | exact Or.inl rfl | exact Or.inr rfl)) pgs_nil))) (pss_cons (ps_expr (pe_bm PySem.F.plainAttrs_list PySem.F.slot_list_append PySem.F.type_list_append mt_append (pv 3) (pa_cons (pe_dget2 hu (pv 2) (pe_ix ix_tup (pv 5) pe_int (fun _ _ => rfl)) (pe_un un_neg pe_int) ⟨rfl, rfl, rfl, rfl⟩) pa_nil)))
      (pss_one (ps_dput hu (pv 2) (pe_ix ix_tup (pv 5) pe_int (fun _ _ => rfl)) (pv 4) rfl))))
      (C8.pss_cut (ps_set (i := 7) sc_come_to.nd rfl (by first | exact Or.inl rfl | exact Or.inr rfl) (pe_callTy (call_dictP (by rfl)) (by rfl) T.f_dict (by decide +kernel) (pa_cons (pe_lc (own := [("end", 6)]) (g := gName 6) (tt := tYes) (by rfl) sc_come_to.nd (PI.or (pi_list (pv 1)) (pi_tup (pv 1))) (blkOk_by (own := [("end", 6)]) (N := N_come_to) (sc := defScope s_come_to) (by decide +kernel)) (fun _ _ _ _ _ => (pg_name (i := 6) sc_come_to.nd rfl (Or.inl rfl))) (fun _ _ _ _ _ => pts_nil) (fun _ _ _ _ _ => (pe_tup (pa_cons (pv 6) (pa_cons pe_bl pa_nil))))) pa_nil)))
      (C8.pss_cut (ps_lock (ps_setLc (i := 8) (own := [("end", 6)]) (g := gName 6) (tt := tYes) (by rfl) sc_come_to.nd rfl rfl (sw_true rfl rfl rfl (by decide +kernel)) (pi_keys (pv 7)) (blkOk_by (own := [("end", 6)]) (N := N_come_to) (sc := defScope s_come_to) (by decide +kernel)) (fun _ _ _ _ _ => (pg_name (i := 6) sc_come_to.nd rfl (Or.inl rfl))) (fun _ _ _ _ _ => pts_nil) (fun _ _ _ _ _ => (pv 6))))
      (pss_cons (ps_while PassesOwn.never (pt_cmpR (op_neD hr.units) (pv 8) (pe_lst pa_nil) (nomark _)) (pss_cons (ps_set (i := 4) sc_come_to.nd rfl (by first | exact Or.inl rfl | exact Or.inr rfl) (pe_dget2 hu (pv 2) (pe_bm0 PySem.F.plainAttrs_list PySem.F.slot_list_pop PySem.F.type_list_pop mt_pop (pv 8)) (pe_un un_neg pe_int) ⟨rfl, rfl, rfl, rfl⟩))
      (pss_one (ps_while PassesOwn.never (pt_cmpR op_ge (pv 4) pe_int (nomark _)) (pss_cons (ps_set (i := 9) sc_come_to.nd rfl (by first | exact Or.inl rfl | exact Or.inr rfl) (pe_ix ix_tup (pe_ix ix_seq (pv 0) (pv 4) (fun _ _ => rfl)) pe_int (fun _ _ => rfl)))
      (pss_cons (ps_if (pt_cmp (pc_dnotin hu (pv 9) (pv 7))) (pss_cons (ps_dput hu (pv 7) (pv 9) pe_bl rfl)
      (pss_one (ps_expr (pe_bm PySem.F.plainAttrs_list PySem.F.slot_list_append PySem.F.type_list_append mt_append (pv 8) (pa_cons (pv 9) pa_nil))))) pss_nil)
      (pss_one (ps_set (i := 4) sc_come_to.nd rfl (by first | exact Or.inl rfl | exact Or.inr rfl) (pe_ix ix_list (pv 3) (pv 4) (fun _ _ => rfl))))))))))
      (pss_one (ps_ret (pv 7))))))))), ?_⟩
    refine fun nw nw0 => ?_
    generalize e1 : upd H nw _ = H1
    obtain ⟨s1, nw1, f1⟩ := newE nw0 e1
    refine ⟨by decide, fun el el0 => ?_⟩
    generalize e2 : upd H1 el _ = H2
    obtain ⟨s2, el2, f2⟩ := newE el0 e2
    have nne : nw ≠ el := ne_of_none nw1 el0
    have s02 := same_trans s1 s2
    have elen := hln.1
    have ixL : ∀ {Hx : Hp}, Same H Hx → ∀ i l, ls[i]? = some l → ∃ t, ts[i]? = some t ∧ Hx t = some (.tup (laneV l)) := fun s i l hl => by
      have hi : i < ts.length := by have := (List.getElem?_eq_some_iff.mp hl).1; omega
      exact ⟨ts[i], List.getElem?_eq_getElem hi, s _ _ (hln.2 i _ l (List.getElem?_eq_getElem hi) hl)⟩
    refine ⟨fun σ' H' => ∃ x4 x5 kvs, σ' = [some (.ref la), some (.ref ea), some (.ref nw), some (.ref el), x4, x5, none, none, none, none] ∧ Same H H' ∧ H' nw = some (.dK kvs) ∧ H' el = some (.lst (elV ls ls.length)) ∧ NwOk ls ls.length kvs, ?_, ?_⟩
    · refine ⟨_, rfl, ?_⟩
      rcases hla with hla | hla
      all_goals first | refine .inl ⟨la, _, rfl, SqL.of (s02 _ _ hla), ?_⟩ | refine .inr (.inl ⟨la, _, rfl, SqT.of (s02 _ _ hla), ?_⟩)
      all_goals
        refine for_it walk_pairs (fun i σ H' => ∃ x4 x5 kvs, σ = [some (.ref la), some (.ref ea), some (.ref nw), some (.ref el), x4, x5, none, none, none, none] ∧ Same H H' ∧ H' nw = some (.dK kvs) ∧ H' el = some (.lst (elV ls i)) ∧ NwOk ls i kvs) ?_ (fun i σ H' _ hI => ?_) (fun i v σ H' H'' hi hI hy => ?_) (fun σ H' hI => ?_)
        · exact ⟨_, _, [], rfl, s02, s2 _ _ nw1, el2, by simp, fun t => rfl⟩
        · obtain ⟨_, _, _, rfl, sm, _⟩ := hI
          first | exact SqL.of (sm _ _ hla) | exact SqT.of (sm _ _ hla)
        · obtain ⟨x4, x5, kvs, rfl, sm, hnw, hel, nk⟩ := hI
          obtain ⟨Tp, a, b, rfl, T0, rfl, rfl, hb⟩ := hy
          obtain ⟨t, ht, rfl⟩ := refs_get hb
          rw [refs_len] at hi
          have hil : i < ls.length := by omega
          have hl := List.getElem?_eq_getElem hil
          have htl := hln.2 i t _ ht hl
          generalize e3 : upd H' Tp _ = H3
          obtain ⟨s3, T3, f3⟩ := newE T0 e3
          have sm3 := same_trans sm s3
          have hel3 := s3 _ _ hel
          have hnw3 := s3 _ _ hnw
          have ht3 := sm3 _ _ htl
          refine ⟨Tp, _, rfl, SqT.of T3, rfl, _, _, rfl, _, _, rfl, rfl, ?_⟩
          refine ⟨_, rfl, .inl ⟨rfl, _, SqL.of hel3⟩, _, rfl, nw, rfl, .inl ⟨_, .inl hnw3⟩, _, rfl, t, _, 2, _, rfl, rfl, SqT.of ht3, rfl, _, rfl, _, DGet.k (k := .inl (ls[i].2.2 : Nat)) hnw3, ?_⟩
          refine ⟨el, _, _, rfl, rfl, hel3, by unfold elV; rw [List.length_map, List.length_range]; unfold sizeLine; omega, ?_⟩
          generalize e4 : upd H3 el _ = H4
          obtain ⟨el4, f4⟩ := putE e4
          have hnw4 := (f4 nw nne).trans hnw3
          have nte : t ≠ el := fun z => by rw [z, hel3] at ht3; cases ht3
          have ht4 := (f4 t nte).trans ht3
          refine ⟨_, rfl, _, rfl, _, rfl, t, _, 2, _, rfl, rfl, SqT.of ht4, rfl, nw, _, rfl, DPut.k (k := .inl (ls[i].2.2 : Nat)) hnw4 (by have := nk.1; unfold sizeLine; omega), ?_⟩
          generalize e5 : upd H4 nw _ = H5
          obtain ⟨nw5, f5⟩ := putE e5
          have fresh : ∀ b, H b ≠ none → b ≠ nw ∧ b ≠ el := fun b hb => ⟨fun z => hb (z ▸ nw0), fun z => hb (z ▸ same_free s1 el0)⟩
          refine ⟨_, _, _, rfl, fun b o e => ?_, nw5, ?_, Nat.le_trans (putK_len _ _ _) (by have := nk.1; omega), fun c => ?_⟩
          · have := fresh b (by rw [e]; exact fun z => nomatch z)
            exact (f5 b this.1).trans ((f4 b this.2).trans (sm3 _ _ e))
          · rw [f5 el fun z => nne z.symm, el4, elV_succ, hl]
            show some (HO.lst (elV ls i ++ [_])) = some (HO.lst (elV ls i ++ [V.int (lastI ls ls[i].2.2 i)]))
            rw [← nk.2]
          · rw [valV_put]
            unfold lastI
            rw [hl]
            by_cases ec : c = ls[i].2.2
            · rw [if_pos (by rw [ec]), if_pos (by rw [ec]; rfl)]
              simp
            · rw [if_neg fun z => ec (by injection z with z; omega), if_neg fun z => ec (by simpa using z.symm)]
              exact nk.2 c
        · obtain ⟨x4, x5, kvs, rfl, sm, hnw, hel, nk⟩ := hI
          rw [refs_len, elen] at hel nk
          exact ⟨_, _, kvs, rfl, sm, hnw, hel, nk⟩
    · rintro σ' H3 ⟨x4, x5, kvs, rfl, s3, hnw, hel, nk⟩
      have hea3 := hea.mono s3
      have en3 : en.length ≤ 3000 := by
        have := List.Nodup.length_le_of_subset end' (l₂ := List.range n) fun j m => List.mem_range.mpr (eb j m)
        rw [List.length_range] at this; omega
      -- the ends as keys
      have step : ∀ (D : Addr), H3 D = none → ∀ (i e : Nat) (Hx : Hp) (ps : List Addr), Bl H3 D Hx (refs ps) → Each (fun p (e : Nat) => Hx p = some (.tup [.int e, .bl true])) ps (en.take i) → en[i]? = some e → ∀ t, Hx t = none →
          ∃ acc, (upd Hx t (.tup [.int (e : Nat), .bl true])) D = some (.lst acc) ∧ acc.length < sizeLine ∧ PB H3 D (fun i acc Hx => ∃ ps, acc = refs ps ∧ Each (fun p (e : Nat) => Hx p = some (.tup [.int e, .bl true])) ps (en.take i)) (i + 1) (upd (upd Hx t (.tup [.int (e : Nat), .bl true])) D (.lst (acc ++ [.ref t]))) := by
        intro D D0 i e Hx ps b ep he t t0
        refine PB.add b D0 (Same.up t0) ?_ fun H5 s5 f5 => ⟨ps ++ [t], by rw [refs_app]; rfl, ?_⟩
        · have := ep.1
          rw [List.length_take] at this
          rw [refs_len]; unfold sizeLine; omega
        · rw [List.take_succ, he]
          refine (Each.mono ep fun p e' hp => ?_).snoc ?_
          · have npD : p ≠ D := fun z => by rw [z, b.2] at hp; cases hp
            rw [f5 p npD, upd_ne (ne_of_none hp t0)]; exact hp
          · have ntD : t ≠ D := fun z => by rw [z, b.2] at t0; cases t0
            rw [f5 t ntD]; exact upd_same
      refine ⟨fun σ' H4 => ∃ u, σ' = [some (.ref la), some (.ref ea), some (.ref nw), some (.ref el), x4, x5, none, some (.ref u), none, none] ∧ Same H3 H4 ∧ H3 u = none ∧ H4 u = some (.dK (uK en)), ?_, ?_⟩
      · rcases hea3 with hea3 | hea3
        all_goals first | refine .inl ⟨_, rfl, ea, rfl, ⟨_, SqL.of hea3⟩, fun D D0 => ?_⟩ | refine .inr ⟨_, rfl, ea, rfl, ⟨_, SqT.of hea3⟩, fun D D0 => ?_⟩
        all_goals first
          | refine lc_list (xs := natsV en) (PB H3 D fun i acc Hx => ∃ ps, acc = refs ps ∧ Each (fun p (e : Nat) => Hx p = some (.tup [.int e, .bl true])) ps (en.take i)) (PB.start D0 fun _ _ => ⟨[], rfl, .nil⟩) (fun i Hx _ h => ?_) (fun i v Hx hv h => ?_) (fun Hx h => ?_)
          | refine lc_tup (xs := natsV en) (PB H3 D fun i acc Hx => ∃ ps, acc = refs ps ∧ Each (fun p (e : Nat) => Hx p = some (.tup [.int e, .bl true])) ps (en.take i)) (PB.start D0 fun _ _ => ⟨[], rfl, .nil⟩) (fun i Hx _ h => ?_) (fun i v Hx hv h => ?_) (fun Hx h => ?_)
        all_goals obtain ⟨acc, b, ps, rfl, ep⟩ := h
        · exact SqL.of (b.1 _ _ hea3)
        · obtain ⟨e, he, rfl⟩ := natsV_get hv
          exact ⟨rfl, yesI ⟨_, rfl, (by show 2 ≤ sizeLine; decide), fun t t0 => step D D0 i e Hx ps b ep he t t0⟩⟩
        · rw [natsV_len, List.take_length] at ep
          refine ⟨D, ps, uK en, rfl, SqL.of b.2, paired_of ⟨by rw [uK_len]; exact ep.1, fun i p kv hp hk => ?_⟩, fun u u0 => ?_⟩
          · unfold uK at hk
            rw [List.getElem?_map, Option.map_eq_some_iff] at hk
            obtain ⟨e, he, rfl⟩ := hk
            exact SqT.of (ep.2 i p e hp he)
          · rw [uK_merge end']
            exact ⟨u, rfl, same_trans b.1 (Same.up u0), same_free b.1 u0, upd_same⟩
        · exact SqT.of (b.1 _ _ hea3)
        · obtain ⟨e, he, rfl⟩ := natsV_get hv
          exact ⟨rfl, yesI ⟨_, rfl, (by show 2 ≤ sizeLine; decide), fun t t0 => step D D0 i e Hx ps b ep he t t0⟩⟩
        · rw [natsV_len, List.take_length] at ep
          refine ⟨D, ps, uK en, rfl, SqL.of b.2, paired_of ⟨by rw [uK_len]; exact ep.1, fun i p kv hp hk => ?_⟩, fun u u0 => ?_⟩
          · unfold uK at hk
            rw [List.getElem?_map, Option.map_eq_some_iff] at hk
            obtain ⟨e, he, rfl⟩ := hk
            exact SqT.of (ep.2 i p e hp he)
          · rw [uK_merge end']
            exact ⟨u, rfl, same_trans b.1 (Same.up u0), same_free b.1 u0, upd_same⟩
      · rintro σ' H4 ⟨u, rfl, s4, u0, u4⟩
        refine ⟨fun σ' H5 => ∃ wt, σ' = [some (.ref la), some (.ref ea), some (.ref nw), some (.ref el), x4, x5, none, some (.ref u), some (.ref wt), none] ∧ Same H4 H5 ∧ H4 wt = none ∧ H5 wt = some (.lst (natsV en)), ?_, ?_⟩
        · refine ⟨u, _, u4, trivial, fun od => ?_⟩
          generalize e5 : upd H4 u _ = H5
          obtain ⟨u5, f5⟩ := putE e5
          refine ⟨_, rfl, u, od, rfl, .inl ⟨_, u5, fun D D0 => ?_⟩⟩
          have nDu : D ≠ u := fun z => by rw [z, u5] at D0; cases D0
          refine lc_it walk_keys (PB H5 D fun i acc _ => acc = natsV (en.take i)) (PB.start D0 fun _ _ => rfl) (fun i Hx _ h => ?_) (fun i v Hx H6 hi h hy => ?_) (fun Hx h => ?_)
          · obtain ⟨acc, b, _⟩ := h
            exact b.1 _ _ u5
          · obtain ⟨rfl, k, v', hk, rfl⟩ := hy
            obtain ⟨acc, b, rfl⟩ := h
            unfold uK at hk
            rw [List.getElem?_map, Option.map_eq_some_iff] at hk
            obtain ⟨e, he, hk⟩ := hk
            cases hk
            refine ⟨rfl, yesI ⟨_, rfl, PB.add b D0 (same_refl _) ?_ fun H7 _ _ => ?_⟩⟩
            · rw [natsV_len, List.length_take]; unfold sizeLine; omega
            · show _ = natsV _
              rw [List.take_succ, he, natsV_app]; rfl
          · obtain ⟨acc, b, ea'⟩ := h
            have ea' : acc = natsV (en.take (uK en).length) := ea'
            rw [uK_len, List.take_length] at ea'
            subst ea'
            refine ⟨b.1 _ _ u5, D, rfl, fun c o e => ?_, ?_, ?_⟩
            · by_cases ec : c = u
              · subst ec
                rw [u4] at e; cases e
                exact upd_same
              · rw [upd_ne ec]
                exact b.1 _ _ ((f5 c ec).trans e)
            · rw [← f5 D nDu]; exact D0
            · rw [upd_ne nDu]; exact b.2
        · rintro σ' H5 ⟨wt, rfl, s5, w0, w5⟩
          have nuw : u ≠ wt := ne_of_none u4 w0
          have uw : ∀ b o, H3 b = some o → b ≠ u ∧ b ≠ wt := fun b o e => ⟨ne_of_none e u0, ne_of_none (s4 _ _ e) w0⟩
          have uln : ∀ {us W}, CI ls en n us W → us.length ≤ n := fun c => by
            have := List.Nodup.length_le_of_subset c.nd (l₂ := List.range n) fun j m => List.mem_range.mpr (c.lt j m)
            rwa [List.length_range] at this
          have hla3 := hla.mono s3
          have hln3 := hln.mono s3
          refine ⟨fun m σ H' => ∃ us W x4 x9, σ = [some (.ref la), some (.ref ea), some (.ref nw), some (.ref el), x4, x5, none, some (.ref u), some (.ref wt), x9] ∧ Same H3 H' ∧ H' u = some (.dK (uK us)) ∧ H' wt = some (.lst (natsV W)) ∧
            CI ls en n us W ∧ (∀ q, q ∈ us → q ∈ W ∨ ∀ l, l ∈ ls → l.2.2 = q → l.1 ∈ us) ∧ m + us.length = n + W.length, ⟨n, en, en, _, _, rfl, same_trans s4 s5, s5 _ _ u4, w5, ⟨end', eb, fun p h => h, fun e h => h, fun p h => ⟨[], h⟩, end'⟩, fun q h => .inl h, by omega⟩, fun m σ H6 hP => ?_⟩
          obtain ⟨us, W, y4, y9, rfl, s6, u6, w6, ci, cl, me⟩ := hP
          have ul := uln ci
          refine ⟨_, rfl, by decide, fun z z0 => ?_⟩
          generalize e7 : upd H6 z _ = H7
          obtain ⟨s7, z7, f7⟩ := newE z0 e7
          refine ne_nil (s7 _ _ w6) z7 ?_
          refine ⟨_, rfl, ?_⟩
          by_cases hW : W = []
          · rw [decide_eq_true hW]
            refine iteF ?_
            subst hW
            exact ⟨_, rfl, q u us H7 (same_trans s3 (same_trans s6 s7)) (s7 _ _ u6) (ci.fin fun l hl ht => by
              rcases cl _ ht with h | h
              · cases h
              · exact h l hl rfl)⟩
          · rw [decide_eq_false hW]
            refine iteT ?_
            refine ⟨fun σ' H' => ∃ m', m' < m ∧ ∃ us W x4 x9, σ' = [some (.ref la), some (.ref ea), some (.ref nw), some (.ref el), x4, x5, none, some (.ref u), some (.ref wt), x9] ∧ Same H3 H' ∧ H' u = some (.dK (uK us)) ∧ H' wt = some (.lst (natsV W)) ∧
              CI ls en n us W ∧ (∀ q, q ∈ us → q ∈ W ∨ ∀ l, l ∈ ls → l.2.2 = q → l.1 ∈ us) ∧ m' + us.length = n + W.length, fun _ _ h => h, ?_⟩
            have s37 := same_trans s6 s7
            obtain ⟨W', t, rfl⟩ : ∃ W' t, W = W' ++ [t] := ⟨W.dropLast, W.getLast hW, (List.dropLast_concat_getLast hW).symm⟩
            have hnw7 := s37 _ _ hnw
            have hel7 := s37 _ _ hel
            have nwn := uw nw _ hnw
            have eln := uw el _ hel
            refine ⟨_, rfl, nw, rfl, .inl ⟨_, .inl hnw7⟩, _, rfl, .inl ⟨rfl, _, SqL.of (s7 _ _ w6)⟩, wt, _, .int (t : Nat), rfl, rfl, s7 _ _ w6, by rw [natsV_len, natsV_app]; simp [natsV], ?_⟩
            have edl : (natsV (W' ++ [t])).dropLast = natsV W' := by rw [natsV_app]; simp [natsV]
            rw [edl]
            generalize e8 : upd H7 wt _ = H8
            obtain ⟨w8, f8⟩ := putE e8
            have s38 : Same H3 H8 := fun b o e => (f8 b (uw b o e).2).trans (s37 _ _ e)
            have u8 := (f8 u nuw).trans (s7 _ _ u6)
            refine ⟨_, rfl, _, DGet.k (k := .inl (t : Nat)) (s38 _ _ hnw), ?_⟩
            rw [nk.2]
            have tu : t ∈ us := ci.wu t (by simp)
            -- along the lanes to t
            refine ⟨fun k' σ H' => ∃ us W x9 k, k' = k ∧ σ = [some (.ref la), some (.ref ea), some (.ref nw), some (.ref el), some (.int (lastI ls t k)), x5, none, some (.ref u), some (.ref wt), x9] ∧ k ≤ ls.length ∧ Same H3 H' ∧ H' u = some (.dK (uK us)) ∧ H' wt = some (.lst (natsV W)) ∧
              CI ls en n us W ∧ t ∈ us ∧ (∀ q, q ∈ us → q ∈ W ∨ q = t ∨ ∀ l, l ∈ ls → l.2.2 = q → l.1 ∈ us) ∧ (∀ j l, k ≤ j → ls[j]? = some l → l.2.2 = t → l.1 ∈ us) ∧ m + us.length = n + W.length + 1, ⟨ls.length, us, W', y9, ls.length, rfl, rfl, Nat.le_refl _, s38, u8, w8,
                ⟨ci.nd, ci.lt, fun p hp => ci.wu p (List.mem_append.mpr (.inl hp)), ci.eu, ci.so, (List.nodup_append.mp ci.wn).1⟩, tu, fun q hq => ?_, fun j l hj hl => ?_, by rw [List.length_append, List.length_singleton] at me; omega⟩, fun k' σ H9 hQ => ?_⟩
            · rcases cl q hq with h | h
              · rcases List.mem_append.mp h with h | h
                · exact .inl h
                · exact .inr (.inl (List.mem_singleton.mp h))
              · exact .inr (.inr h)
            · have := (List.getElem?_eq_some_iff.mp hl).1; omega
            · obtain ⟨us, W, x9, k, rfl, rfl, kl, s9, u9, w9, ci, tu, cl, cp, me⟩ := hQ
              refine ⟨_, rfl, _, _, rfl, rfl, _, rfl, ?_⟩
              rcases lastI_spec ls t k' with ⟨e, no⟩ | ⟨a, e, ak, ⟨l, hl, lt'⟩, no⟩
              · rw [e]
                refine ite2 (fun h => absurd h (by decide)) (fun _ => ?_)
                refine ⟨m - 1, ?_, us, W, _, _, rfl, s9, u9, w9, ci, fun q hq => ?_, ?_⟩
                · have := uln ci; omega
                · rcases cl q hq with h | h | h
                  · exact .inl h
                  · refine .inr fun l hl hq' => ?_
                    obtain ⟨j, hj, ej⟩ := List.getElem_of_mem hl
                    have hlj : ls[j]? = some l := by rw [List.getElem?_eq_getElem hj, ej]
                    rcases Nat.lt_or_ge j k' with z | z
                    · exact absurd (hq'.trans h) (no j l z hlj)
                    · exact cp j l z hlj (hq'.trans h)
                  · exact .inr h
                · have := uln ci; omega
              · rw [e]
                refine ite2 (fun _ => ?_) (fun h => absurd (by rw [decide_eq_true_eq]; omega) h)
                refine ⟨fun σ' H' => ∃ k'', k'' < k' ∧ ∃ us W x9 k, k'' = k ∧ σ' = [some (.ref la), some (.ref ea), some (.ref nw), some (.ref el), some (.int (lastI ls t k)), x5, none, some (.ref u), some (.ref wt), x9] ∧ k ≤ ls.length ∧ Same H3 H' ∧ H' u = some (.dK (uK us)) ∧ H' wt = some (.lst (natsV W)) ∧
                  CI ls en n us W ∧ t ∈ us ∧ (∀ q, q ∈ us → q ∈ W ∨ q = t ∨ ∀ l, l ∈ ls → l.2.2 = q → l.1 ∈ us) ∧ (∀ j l, k ≤ j → ls[j]? = some l → l.2.2 = t → l.1 ∈ us) ∧ m + us.length = n + W.length + 1, fun _ _ h => h, ?_⟩
                have al : a < ls.length := (List.getElem?_eq_some_iff.mp hl).1
                obtain ⟨tl, htl, hlt⟩ := ixL (same_trans s3 s9) a l hl
                have lm : l ∈ ls := List.mem_of_getElem? hl
                have ela : (elV ls ls.length)[a]? = some (.int (lastI ls t a)) := by
                  unfold elV
                  rw [List.getElem?_map, List.getElem?_range al, Option.map_some, hl]
                  show some (V.int (lastI ls l.2.2 a)) = _
                  rw [lt']
                refine ⟨_, rfl, _, rfl, ix_seqA (hla3.mono s9) htl ?_⟩
                refine ⟨tl, _, 0, _, rfl, rfl, SqT.of hlt, rfl, ?_⟩
                refine ⟨_, rfl, _, rfl, u, _, rfl, DGet.k (k := .inl (l.1 : Nat)) u9, _, rfl, ?_⟩
                rw [uK_val]
                have cpn : ∀ us' : List Nat, (∀ p, p ∈ us → p ∈ us') → l.1 ∈ us' → ∀ j l2, a ≤ j → ls[j]? = some l2 → l2.2.2 = t → l2.1 ∈ us' := by
                  intro us' sub hin j l2 hj hl2 ht2
                  by_cases z : j = a
                  · subst z; rw [hl] at hl2; cases hl2; exact hin
                  · rcases Nat.lt_or_ge j k' with y | y
                    · exact absurd ht2 (no j l2 (by omega) y hl2)
                    · exact sub _ (cp j l2 y hl2 ht2)
                by_cases hin : l.1 ∈ us
                · rw [decide_eq_true hin]
                  refine iteF ?_
                  refine ⟨_, rfl, _, rfl, el, _, _, _, rfl, rfl, SqL.of (s9 _ _ hel), atI_nat ela, ?_⟩
                  exact ⟨a, ak, us, W, _, a, rfl, rfl, by omega, s9, u9, w9, ci, tu, cl, cpn us (fun _ h => h) hin, me⟩
                · rw [decide_eq_false hin]
                  refine iteT ?_
                  have us3 := uln ci
                  refine ⟨_, rfl, _, rfl, u, _, rfl, DPut.k (k := .inl (l.1 : Nat)) u9 (by rw [uK_len]; unfold sizeLine; omega), ?_⟩
                  rw [uK_put hin]
                  generalize e10 : upd H9 u _ = H10
                  obtain ⟨u10, f10⟩ := putE e10
                  have w10 := (f10 wt fun z => nuw z.symm).trans w9
                  refine ⟨_, rfl, .inl ⟨rfl, _, SqL.of w10⟩, _, rfl, wt, _, _, rfl, rfl, w10, ?_, ?_⟩
                  · have wl : W.length ≤ us.length := List.Nodup.length_le_of_subset ci.wn fun p hp => ci.wu p hp
                    rw [natsV_len]; unfold sizeLine; omega
                  · generalize e11 : upd H10 wt _ = H11
                    obtain ⟨w11, f11⟩ := putE e11
                    have s11 : Same H3 H11 := fun b o e => (f11 b (uw b o e).2).trans ((f10 b (uw b o e).1).trans (s9 _ _ e))
                    refine ⟨_, rfl, _, rfl, el, _, _, _, rfl, rfl, SqL.of (s11 _ _ hel), atI_nat ela, ?_⟩
                    refine ⟨a, ak, us ++ [l.1], W ++ [l.1], _, a, rfl, rfl, by omega, s11, (f11 u nuw).trans u10, by rw [w11, natsV_app]; rfl, ⟨?_, fun p hp => ?_, fun p hp => ?_, fun e he => List.mem_append.mpr (.inl (ci.eu e he)), fun p hp => ?_, ?_⟩, List.mem_append.mpr (.inl tu), fun q hq => ?_, cpn _ (fun _ h => List.mem_append.mpr (.inl h)) (by simp), by simp only [List.length_append, List.length_singleton]; omega⟩
                    · exact List.nodup_append.mpr ⟨ci.nd, by simp, fun x hx y hy e => hin (by rw [List.mem_singleton] at hy; rw [← hy, ← e]; exact hx)⟩
                    · rcases List.mem_append.mp hp with hp | hp
                      · exact ci.lt p hp
                      · rw [List.mem_singleton.mp hp]; exact lb l lm
                    · rcases List.mem_append.mp hp with hp | hp
                      · exact List.mem_append.mpr (.inl (ci.wu p hp))
                      · exact List.mem_append.mpr (.inr hp)
                    · rcases List.mem_append.mp hp with hp | hp
                      · exact ci.so p hp
                      · rw [List.mem_singleton.mp hp]
                        obtain ⟨w', hw'⟩ := ci.so t tu
                        exact ⟨l.2.1 :: w', t, by rw [← lt']; exact lm, hw'⟩
                    · exact List.nodup_append.mpr ⟨ci.wn, by simp, fun x hx y hy e => hin (by rw [List.mem_singleton] at hy; rw [← hy, ← e]; exact ci.wu x hx)⟩
                    · rcases List.mem_append.mp hq with hq | hq
                      · rcases cl q hq with h | h | h
                        · exact .inl (List.mem_append.mpr (.inl h))
                        · exact .inr (.inl h)
                        · exact .inr (.inr fun l2 m2 e2 => List.mem_append.mpr (.inl (h l2 m2 e2)))
                      · exact .inl (List.mem_append.mpr (.inr hq))
end
end E

set_option autoImplicit true
set_option maxHeartbeats 4000000
set_option Elab.async false
set_option linter.all false
set_option maxRecDepth 100000
set_option maxHeartbeats 4000000
/-! Kinds of states (numbers, tuples of numbers); scanning a table of states. -/
namespace E
open PySem PySem.Spec PyProof.Rows L2
/-- a kind of states: how a state, the numbers of states, a table and a set of states stand in the heap -/
structure SK (P : Program) (w : World) where
  σ : Type
  dec : DecidableEq σ
  Rp : Hp → V → σ → Prop
  Num : Hp → Addr → List σ → Prop
  Tab : Hp → Addr → (σ → Nat → Option σ) → Prop
  Set' : Hp → Addr → (σ → Prop) → Prop
  rpt : ∀ {H H' : Hp} {v s}, (∀ b xs, H b = some (.tup xs) → H' b = some (.tup xs)) → Rp H v s → Rp H' v s
  non : ∀ {H v s}, Rp H v s → v ≠ .non
  keep : ∀ {H H' d S}, Num H d S → H' d = H d → Num H' d S
  obj : ∀ {H d S}, Num H d S → ∃ o, H d = some o ∧ (∀ xs, o ≠ .lst xs) ∧ (∀ xs, o ≠ .tup xs)
  one : ∀ {H v s σ' i Q}, Rp H v s → σ'[i]? = some (some v) → (∀ p H', H p = none → Same H H' → Num H' p [s] → Q (.ref p) H') → (tDisp [(tVar i, tC (.int 0))] σ' H Q ∨ tDispT1 (tVar i) (tC (.int 0)) σ' H Q)
  get : ∀ {H d S v s}, Num H d S → Rp H v s → ∃ o, DGet H d v o ∧ ∀ j : Nat, S[j]? = some s → S.Nodup → o = some (.int (j : Nat))
  miss : ∀ {H d S v s}, Num H d S → Rp H v s → s ∉ S → DGet H d v none
  put : ∀ {H d S v s}, Num H d S → Rp H v s → s ∉ S → S.length < 3000 → ∃ H', DPut H d v (.int (S.length : Nat)) H' ∧ Num H' d (S ++ [s]) ∧ ∀ b, b ≠ d → H' b = H b
  tab : ∀ {H t δ v s b c}, Tab H t δ → Rp H v s → H b = some (.tup [v, .str (sOf [c])]) → ∃ o, DGetN P w H t (.ref b) o ∧ (δ s c = none → o = none) ∧ ∀ s', δ s c = some s' → ∃ v', o = some v' ∧ Rp H v' s'
  isd : ∀ {H t δ}, Tab H t δ → IsDN P w H t
  tsame : ∀ {H H' t δ}, Same H H' → Tab H t δ → Tab H' t δ
  mem : ∀ {H e f v s}, Set' H e f → Rp H v s → ∃ o, DGet H e v o ∧ (o.isSome = true ↔ f s)
  ssame : ∀ {H H' e f}, Same H H' → Set' H e f → Set' H' e f
theorem SK.rp {P : Program} {w : World} (k : SK P w) {H H' : Hp} {v : V} {s : k.σ} (h : Same H H') (r : k.Rp H v s) : k.Rp H' v s := k.rpt (fun b xs e => h _ _ e) r
section
variable {P : Program} {w : World} {K : PySem.W.Frag} {mg : Str → Option Value} {base : Heap}
/-- what a scan gives -/
structure FsOut (k : SK P w) (l : List Nat) (δ : k.σ → Nat → Option k.σ) (s0 : k.σ) (Hh : Hp) (t : Addr) (S : List k.σ) (ls : List EM.Lane) : Prop where
  fs : EM.FS l δ s0 S ls
  clo : ∀ s c t, s ∈ S → c ∈ l → δ s c = some t → t ∈ S
  ex : ∃ (sa la : Addr) (svs : List V) (ts : List Addr), Hh t = some (.tup [.ref sa, .ref la]) ∧ Hh sa = some (.lst svs) ∧ Each (k.Rp Hh) svs S ∧ Hh la = some (.lst (refs ts)) ∧ LnAt Hh ts ls
def spFound (K : PySem.W.Frag) (k : SK P w) : Sp := fun vs H Q _ => ∃ (o ta : Addr) (v : V) (l : List Nat) (δ : k.σ → Nat → Option k.σ) (s0 : k.σ) (U : List k.σ), vs = [.ref o, v, .ref ta] ∧ OrAt K H o l ∧ LetOk l ∧ l.length ≤ 5 ∧ k.Rp H v s0 ∧ k.Tab H ta δ ∧
  s0 ∈ U ∧ (∀ s c t, s ∈ U → c ∈ l → δ s c = some t → t ∈ U) ∧ U.length ≤ 300 ∧ ∀ t S ls H', Same H H' → FsOut k l δ s0 H' t S ls → (∀ s, s ∈ S → s ∈ U) → S.length ≤ 300 → ls.length ≤ 5 * S.length → Q (.ref t) H'
theorem ok_found (T : Tx K mg) (k : SK P w) : Ok P w K mg base 1 (He.ga K "found_states") ["order", "start", "table"] (spFound K k) := by
  refine ok_mk T.fn_found_states sc_found_states (fun _ _ _ _ _ _ us hl => match us, hl with | [_, _, _], _ => rfl) (fun vs H Q E h => ?_) (fun cdv A outer s H vs Q E hr h => ?_)
  · obtain ⟨o, ta, v, l, δ, s0, U, rfl, _⟩ := h
    rfl
  · obtain ⟨o, ta, v, l, δ, s0, U, rfl, ho, lok, l5, hv, htab, u0, uc, ul, q⟩ := h
    have hu := hu_of hr
    have hu9 : (A.deeper (envOfC "found_states" (defScope s_found_states) s.heap.objs.size (He.ga K "found_states") cdv)).units + 9 < cLine := by have := hr.un; omega
    refine ⟨_, (pss_cons (ps_set (i := 3) sc_found_states.nd rfl (by first | exact Or.inl rfl | exact Or.inr rfl) (pe_lst (pa_cons (pv 1) pa_nil)))
      (pss_cons (ps_set (i := 4) sc_found_states.nd rfl (by first | exact Or.inl rfl | exact Or.inr rfl) (PE.or (pe_disp (pps_cons (pv 1) pe_int pps_nil) (by rfl) (by rfl) (fun z => by cases z) (by decide)) (pe_dispT1 hu (pv 1) pe_int)))
      (pss_cons (ps_set (i := 5) sc_found_states.nd rfl (by first | exact Or.inl rfl | exact Or.inr rfl) (pe_lst pa_nil))
      (pss_cons (ps_set (i := 6) sc_found_states.nd rfl (by first | exact Or.inl rfl | exact Or.inr rfl) pe_int)
      (pss_cons (ps_while PassesOwn.never (pt_cmpR op_lt (pv 6) (pe_callB call_len_seq (by rfl) T.f_len (by decide +kernel) (pa_cons (pv 3) pa_nil)) (nomark _)) (pss_cons (ps_for PassesOwn.never rfl (pi_str (pe_fld (pv 0) rfl)) (pg_name (i := 7) sc_found_states.nd rfl (by first | exact Or.inl rfl | exact Or.inr rfl)) (pss_cons (ps_set (i := 8) sc_found_states.nd rfl (by first | exact Or.inl rfl | exact Or.inr rfl) (pe_dgetN hu9 (pv 2) (pe_tup (pa_cons (pe_ix ix_list (pv 3) (pv 6) (fun _ _ => rfl)) (pa_cons (pv 7) pa_nil))) ⟨rfl, rfl, rfl, rfl⟩))
      (pss_cons (ps_if (pt_cmpR op_isN (pv 8) pe_non (nomark _)) (pss_one ps_continue) pss_nil)
      (C8.pss_cut (ps_if (pt_cmp (pc_dnotin hu (pv 8) (pv 4))) (pss_cons (ps_dput hu (pv 4) (pv 8) (pe_callB call_len_seq (by rfl) T.f_len (by decide +kernel) (pa_cons (pv 3) pa_nil)) rfl)
      (pss_one (ps_expr (pe_bm PySem.F.plainAttrs_list PySem.F.slot_list_append PySem.F.type_list_append mt_append (pv 3) (pa_cons (pv 8) pa_nil))))) pss_nil)
      (pss_one (ps_expr (pe_bm PySem.F.plainAttrs_list PySem.F.slot_list_append PySem.F.type_list_append mt_append (pv 5) (pa_cons (pe_tup (pa_cons (pv 6) (pa_cons (pv 7) (pa_cons (pe_dget hu (pv 4) (pv 8) (fun _ _ => rfl)) pa_nil)))) pa_nil))))))))
      (pss_one (ps_set (i := 6) sc_found_states.nd rfl (by first | exact Or.inl rfl | exact Or.inr rfl) (pe_op op_add (pv 6) pe_int)))))
      (pss_one (ps_ret (pe_tup (pa_cons (pv 3) (pa_cons (pv 5) pa_nil)))))))))), ?_⟩
    obtain ⟨dxo, rk, hoi, hrk⟩ := id ho
    refine ⟨_, rfl, (by show 1 ≤ sizeLine; decide), fun sa sa0 => ?_⟩
    generalize e1 : upd H sa _ = H1
    obtain ⟨s1, sa1, f1⟩ := newE sa0 e1
    refine k.one (k.rp s1 hv) rfl fun nu H2 nu0 s2 hnu => ?_
    refine ⟨by decide, fun la la0 => ?_⟩
    generalize e3 : upd H2 la _ = H3
    obtain ⟨s3, la3, f3⟩ := newE la0 e3
    have s13 := same_trans s2 s3
    obtain ⟨onu, hnu0, nnl, nnt⟩ := k.obj hnu
    have sa2 := s2 _ _ sa1
    have ns1 : sa ≠ nu := ne_of_none sa1 nu0
    have ns2 : sa ≠ la := ne_of_none sa2 la0
    have ns3 : nu ≠ la := ne_of_none hnu0 la0
    have ult := ul
    -- the words of both loops
    have new0 : ∀ b o, H b = some o → b ≠ sa ∧ b ≠ nu ∧ b ≠ la := fun b o e => ⟨ne_of_none e sa0, ne_of_none (s1 _ _ e) nu0, ne_of_none (s2 _ _ (s1 _ _ e)) la0⟩
    refine ⟨fun m σ H' => ∃ i S ls svs ts x7 x8, σ = [some (.ref o), some v, some (.ref ta), some (.ref sa), some (.ref nu), some (.ref la), some (.int (i : Nat)), x7, x8] ∧ i ≤ S.length ∧ EM.FSI l δ s0 S ls i [] ∧ Same H H' ∧ H' sa = some (.lst svs) ∧ Each (k.Rp H') svs S ∧
      k.Num H' nu S ∧ H' la = some (.lst (refs ts)) ∧ LnAt H' ts ls ∧ (∀ s, s ∈ S → s ∈ U) ∧ ls.length ≤ 5 * i ∧ m + i = U.length, ⟨U.length, 0, [s0], [], [v], [], _, _, rfl, by simp, EM.FSI.start, same_trans s1 s13, s3 _ _ sa2, ?_, k.keep hnu (f3 nu ns3), la3, ⟨rfl, fun i a b h => by simp at h⟩, fun s hs => by rw [List.mem_singleton] at hs; rw [hs]; exact u0, by simp, rfl⟩, fun m σ H4 hP => ?_⟩
    · exact Each.nil.snoc (as := []) (k.rp (same_trans s1 s13) hv)
    · obtain ⟨i, S, ls, svs, ts, x7, x8, rfl, iS, fsi, s4, sa4, hsv, hnu4, la4, hln, hU, ll, me⟩ := hP
      have Sl : S.length ≤ 300 := by
        have := List.Nodup.length_le_of_subset fsi.nd (l₂ := U) hU; omega
      refine ⟨_, rfl, _, rfl, sa, _, rfl, .inl (SqL.of sa4), _, _, rfl, rfl, _, rfl, ?_⟩
      rw [hsv.1]
      refine ite2 (fun h => ?_) (fun h => ?_)
      · rw [decide_eq_true_eq] at h
        have hi : i < S.length := by omega
        refine ⟨fun σ' H' => ∃ m', m' < m ∧ ∃ i S ls svs ts x7 x8, σ' = [some (.ref o), some v, some (.ref ta), some (.ref sa), some (.ref nu), some (.ref la), some (.int (i : Nat)), x7, x8] ∧ i ≤ S.length ∧ EM.FSI l δ s0 S ls i [] ∧ Same H H' ∧ H' sa = some (.lst svs) ∧ Each (k.Rp H') svs S ∧
          k.Num H' nu S ∧ H' la = some (.lst (refs ts)) ∧ LnAt H' ts ls ∧ (∀ s, s ∈ S → s ∈ U) ∧ ls.length ≤ 5 * i ∧ m' + i = U.length, fun _ _ h => h, ?_⟩
        refine ⟨_, rfl, o, _, dxo, _, _, rfl, s4 _ _ hoi, T.c_Order, T.n_Order_letters, rfl, _, rfl, ?_⟩
        refine for_it (walk_str (z := sOf l)) (fun d σ H' => ∃ S ls svs ts x7 x8, σ = [some (.ref o), some v, some (.ref ta), some (.ref sa), some (.ref nu), some (.ref la), some (.int (i : Nat)), x7, x8] ∧ i < S.length ∧ EM.FSI l δ s0 S ls i (l.take d) ∧ Same H H' ∧ H' sa = some (.lst svs) ∧ Each (k.Rp H') svs S ∧
          k.Num H' nu S ∧ H' la = some (.lst (refs ts)) ∧ LnAt H' ts ls ∧ (∀ s, s ∈ S → s ∈ U) ∧ ls.length ≤ 5 * i + d) ?_ (fun _ _ _ _ _ => trivial) (fun d x σ H5 H6 hd hI hy => ?_) (fun σ H5 hI => ?_)
        · exact ⟨S, ls, svs, ts, _, _, rfl, hi, fsi, s4, sa4, hsv, hnu4, la4, hln, hU, ll⟩
        · obtain ⟨rfl, c, hc, rfl⟩ := hy
          obtain ⟨S, ls, svs, ts, x7, x8, rfl, hi, fsi, s5, sa5, hsv, hnu5, la5, hln, hU, ll⟩ := hI
          rw [sOf_get] at hc
          have dl : d < l.length := (List.getElem?_eq_some_iff.mp hc).1
          have eA : l = l.take d ++ c :: l.drop (d + 1) := by
            have := List.take_append_drop d l
            rw [List.drop_eq_getElem_cons dl] at this
            have e2 : l[d] = c := by rw [List.getElem?_eq_getElem dl] at hc; injection hc
            rw [e2] at this
            exact this.symm
          have etk : l.take (d + 1) = l.take d ++ [c] := by rw [List.take_succ, hc]; rfl
          have cl : c ∈ l := List.mem_of_getElem? hc
          have Sl : S.length ≤ 300 := by
            have := List.Nodup.length_le_of_subset fsi.nd (l₂ := U) hU; omega
          have hsi := List.getElem?_eq_getElem hi
          obtain ⟨vi, hvi, hri⟩ : ∃ vi, svs[i]? = some vi ∧ k.Rp H6 vi S[i] := by
            have hl : i < svs.length := by rw [hsv.1]; exact hi
            exact ⟨svs[i], List.getElem?_eq_getElem hl, hsv.2 i _ _ (List.getElem?_eq_getElem hl) hsi⟩
          refine ⟨_, rfl, ta, rfl, k.isd (k.tsame s5 htab), _, rfl, _, rfl, sa, _, _, vi, rfl, rfl, SqL.of sa5, atI_nat hvi, _, rfl, (by show 2 ≤ sizeLine; decide), fun b b0 => ?_⟩
          generalize e7 : upd H6 b _ = H7
          obtain ⟨s7, b7, f7⟩ := newE b0 e7
          have s57 := same_trans s5 s7
          have sa7 := s7 _ _ sa5
          have la7 := s7 _ _ la5
          obtain ⟨onu', hnu0', _⟩ := k.obj hnu5
          have nub : nu ≠ b := ne_of_none hnu0' b0
          have hnu7 := k.keep hnu5 (f7 nu nub)
          have hsv7 : Each (k.Rp H7) svs S := hsv.mono fun a b h => k.rp s7 h
          have hln7 := hln.mono s7
          obtain ⟨og, hg, hgn, hgs⟩ := k.tab (k.tsame s57 htab) (k.rp s7 hri) (c := c) b7
          refine ⟨og, hg, ?_⟩
          cases hδ : δ S[i] c with
          | none =>
            rw [hgn hδ]
            refine ⟨_, rfl, rfl, _, rfl, ?_⟩
            refine ite2 (fun _ => ?_) (fun h => absurd rfl h)
            exact ⟨S, ls, svs, ts, _, _, rfl, hi, by rw [etk]; exact fsi.skip hsi hδ, s57, sa7, hsv7, hnu7, la7, hln7, hU, by omega⟩
          | some t =>
            obtain ⟨v', rfl, hv'⟩ := hgs t hδ
            have tU : t ∈ U := uc _ _ _ (hU _ (List.getElem_mem hi)) cl hδ
            refine ⟨_, rfl, rfl, _, rfl, ?_⟩
            refine ite2 (fun h => ?_) (fun _ => ?_)
            · exfalso
              have := k.non hv'
              cases v' <;> first | exact this rfl | exact absurd h (by decide) | (simp at h; try exact this h)
            refine ⟨fun σ' H8 => ∃ S' svs' j, σ' = [some (.ref o), some v, some (.ref ta), some (.ref sa), some (.ref nu), some (.ref la), some (.int (i : Nat)), some (.str (sOf [c])), some v'] ∧ Same H H8 ∧ H8 sa = some (.lst svs') ∧ Each (k.Rp H8) svs' S' ∧ k.Num H8 nu S' ∧
              (S' = S ∨ (S' = S ++ [t] ∧ t ∉ S ∧ j = S.length)) ∧ S'[j]? = some t ∧ H8 la = some (.lst (refs ts)) ∧ LnAt H8 ts ls ∧ k.Rp H8 v' t, ?_, ?_⟩
            · by_cases tS : t ∈ S
              · obtain ⟨j, hj, ej⟩ := List.getElem_of_mem tS
                have hjt : S[j]? = some t := by rw [List.getElem?_eq_getElem hj, ej]
                obtain ⟨og', hg', hgj⟩ := k.get hnu7 hv'
                rw [hgj j hjt fsi.nd] at hg'
                refine ⟨_, rfl, _, rfl, nu, _, rfl, hg', _, rfl, ?_⟩
                refine iteF ?_
                exact ⟨S, svs, j, rfl, s57, sa7, hsv7, hnu7, .inl rfl, hjt, la7, hln7, hv'⟩
              · refine ⟨_, rfl, _, rfl, nu, _, rfl, k.miss hnu7 hv' tS, _, rfl, ?_⟩
                refine iteT ?_
                obtain ⟨H8, hp, hnu8, f8⟩ := k.put hnu7 hv' tS (by omega)
                rw [← hsv.1] at hp
                refine ⟨_, rfl, sa, _, rfl, .inl (SqL.of sa7), _, rfl, _, rfl, nu, H8, rfl, hp, ?_⟩
                have sa8 := (f8 sa ns1).trans sa7
                refine ⟨_, rfl, .inl ⟨rfl, _, SqL.of sa8⟩, _, rfl, sa, _, _, rfl, rfl, sa8, by rw [hsv.1]; unfold sizeLine; omega, ?_⟩
                generalize e9 : upd H8 sa _ = H9
                obtain ⟨sa9, f9⟩ := putE e9
                have s79 : ∀ b o, H b = some o → H9 b = some o := fun b o e => by
                  obtain ⟨n1, n2, n3⟩ := new0 b o e
                  exact (f9 b n1).trans ((f8 b n2).trans (s57 _ _ e))
                have keepT : ∀ {v s}, k.Rp H7 v s → k.Rp H9 v s := fun h => k.rpt (fun b xs e => by
                  have n1 : b ≠ sa := fun z => by rw [z, sa7] at e; cases e
                  have n2 : b ≠ nu := fun z => by
                    obtain ⟨o', h', _, nt⟩ := k.obj hnu7
                    rw [z, h'] at e
                    injection e with e
                    exact nt _ e
                  exact (f9 b n1).trans ((f8 b n2).trans e)) h
                refine ⟨S ++ [t], svs ++ [v'], S.length, rfl, s79, sa9, (hsv7.mono fun a b h => keepT h).snoc (keepT hv'), k.keep hnu8 (f9 nu fun z => ns1 z.symm), .inr ⟨rfl, tS, rfl⟩, by simp, ?_, ?_, keepT hv'⟩
                · exact (f9 la fun z => ns2 z.symm).trans ((f8 la fun z => ns3 z.symm).trans la7)
                · exact Each.mono hln7 fun a b h => by
                    have n1 : a ≠ sa := fun z => by rw [z, sa7] at h; cases h
                    have n2 : a ≠ nu := fun z => by
                      obtain ⟨o', h', _, nt⟩ := k.obj hnu7
                      rw [z, h'] at h
                      injection h with h
                      exact nt _ h
                    exact (f9 a n1).trans ((f8 a n2).trans h)
            · rintro σ' H8 ⟨S', svs', j, rfl, s8, sa8, hsv8, hnu8, hS, hj, la8, hln8, hv8⟩
              have fsi' := fsi.lane eA lok.1 hsi hδ hS hj
              have nd' := fsi'.nd
              obtain ⟨og', hg', hgj⟩ := k.get hnu8 hv8
              rw [hgj j hj nd'] at hg'
              refine ⟨_, rfl, .inl ⟨rfl, _, SqL.of la8⟩, _, rfl, _, rfl, _, rfl, _, rfl, nu, _, rfl, hg', (by show 3 ≤ sizeLine; decide), fun u u0 => ?_⟩
              generalize e10 : upd H8 u _ = H10
              obtain ⟨s10, u10, f10⟩ := newE u0 e10
              obtain ⟨onu8, hnu80, _⟩ := k.obj hnu8
              have la10 := s10 _ _ la8
              refine ⟨la, _, _, rfl, rfl, la10, by rw [refs_len, hln8.1]; unfold sizeLine; omega, ?_⟩
              generalize e11 : upd H10 la _ = H11
              obtain ⟨la11, f11⟩ := putE e11
              have nula : u ≠ la := fun z => by rw [z, la8] at u0; cases u0
              have s11 : ∀ b o, H b = some o → H11 b = some o := fun b o e => (f11 b (new0 b o e).2.2).trans (s10 _ _ (s8 _ _ e))
              have keepT : ∀ {v s}, k.Rp H8 v s → k.Rp H11 v s := fun h => k.rpt (fun b xs e => by
                have n1 : b ≠ la := fun z => by rw [z, la8] at e; cases e
                exact (f11 b n1).trans (s10 _ _ e)) h
              refine ⟨S', ls ++ [(i, c, j)], svs', ts ++ [u], _, _, rfl, ?_, by rw [etk]; exact fsi', s11, (f11 sa ns2).trans (s10 _ _ sa8), hsv8.mono fun a b h => keepT h, k.keep hnu8 ((f11 nu ns3).trans (f10 nu (ne_of_none hnu80 u0))), by rw [la11, refs_app]; rfl, ?_, ?_, ?_⟩
              · rcases hS with e | ⟨e, _⟩ <;> rw [e]
                · exact hi
                · rw [List.length_append]; omega
              · refine (Each.mono hln8 fun a b h => ?_).snoc ?_
                · have n1 : a ≠ la := fun z => by rw [z, la8] at h; cases h
                  exact (f11 a n1).trans (s10 _ _ h)
                · exact (f11 u nula).trans u10
              · intro s hs
                rcases hS with e | ⟨e, _⟩
                · exact hU s (e ▸ hs)
                · rw [e] at hs
                  rcases List.mem_append.mp hs with hs | hs
                  · exact hU s hs
                  · rw [List.mem_singleton.mp hs]; exact tU
              · rw [List.length_append, List.length_singleton]; omega
        · obtain ⟨S, ls, svs, ts, x7, x8, rfl, hi, fsi, s5, sa5, hsv, hnu5, la5, hln, hU, ll⟩ := hI
          rw [sOf_size] at fsi ll
          rw [List.take_length] at fsi
          refine ⟨_, rfl, _, _, rfl, rfl, m - 1, ?_, i + 1, S, ls, svs, ts, _, _, rfl, hi, fsi.next, s5, sa5, hsv, hnu5, la5, hln, hU, by omega, ?_⟩
          · have := List.Nodup.length_le_of_subset fsi.nd (l₂ := U) hU; omega
          · have := List.Nodup.length_le_of_subset fsi.nd (l₂ := U) hU; omega
      · rw [decide_eq_true_eq] at h
        have ei : i = S.length := by omega
        refine ⟨_, rfl, _, rfl, (by show 2 ≤ sizeLine; decide), fun t t0 => ?_⟩
        generalize e5 : upd H4 t _ = H5
        obtain ⟨s5, t5, f5⟩ := newE t0 e5
        refine q t S ls H5 (same_trans s4 s5) ⟨fsi.done ei, fun s c t hs hc e => ?_, sa, la, svs, ts, t5, s5 _ _ sa4, hsv.mono fun a b h => k.rp s5 h, s5 _ _ la4, hln.mono s5⟩ hU Sl (by omega)
        obtain ⟨a, al, ea⟩ := List.getElem_of_mem hs
        exact fsi.clo a c s t (.inl ⟨by omega, hc⟩) (by rw [List.getElem?_eq_getElem al, ea]) e
end
end E

set_option autoImplicit true
set_option maxHeartbeats 4000000
set_option Elab.async false
set_option linter.all false
set_option maxRecDepth 100000
set_option maxHeartbeats 4000000
/-! The two kinds of states. -/
namespace E
open PySem PySem.Spec PyProof.Rows L2
section
variable {τ : Type} [DecidableEq τ] {S : List τ} {s : τ}
/-- a state's number -/
def ixV (S : List τ) (s : τ) : Option V := if s ∈ S then some (.int (S.idxOf s : Nat)) else none
theorem ixV_at {j : Nat} (h : S[j]? = some s) (nd : S.Nodup) : ixV S s = some (.int (j : Nat)) := by
  have m := List.mem_of_getElem? h
  unfold ixV
  rw [if_pos m]
  have h1 := List.idxOf_lt_length_of_mem m
  have h2 : S[S.idxOf s]? = some s := by rw [List.getElem?_eq_getElem h1, List.getElem_idxOf h1]
  have : S.idxOf s = j := (List.getElem?_inj h1 nd).mp (h2.trans h.symm)
  rw [this]
theorem ixV_snoc {t : τ} (h : t ∉ S) (u : τ) : ixV (S ++ [t]) u = if u = t then some (.int (S.length : Nat)) else ixV S u := by
  unfold ixV
  by_cases e : u = t
  · subst e
    rw [if_pos (by simp), if_pos rfl, List.idxOf_append, if_neg h]
    simp
  · rw [if_neg e]
    by_cases m : u ∈ S
    · rw [if_pos m, if_pos (List.mem_append.mpr (.inl m)), List.idxOf_append, if_pos m]
    · rw [if_neg m, if_neg]
      intro z
      rcases List.mem_append.mp z with z | z
      · exact m z
      · exact e (List.mem_singleton.mp z)
theorem ixV_one (t u : τ) : ixV [t] u = if u = t then some (.int 0) else none := by
  have := ixV_snoc (S := []) (t := t) (by simp) u
  simpa [ixV] using this
end
section
variable {P : Program} {w : World}
theorem inl_inj {a b : Nat} : (Sum.inl (a : Int) : Key) = .inl (b : Int) ↔ a = b := by
  constructor
  · intro h; injection h with h; omega
  · rintro rfl; rfl
/-- states that are numbers -/
def kI (P : Program) (w : World) : SK P w where
  σ := Nat
  dec := inferInstance
  Rp := fun _ v s => v = .int (s : Nat)
  Num := fun H d S => ∃ kvs : List (Key × V), H d = some (.dK kvs) ∧ kvs.length ≤ S.length ∧ ∀ s : Nat, valV kvs (.inl (s : Nat)) = ixV S s
  Tab := fun H t δ => ∃ kvs : List (List Key × V), H t = some (.dT kvs) ∧ ∀ s c : Nat, valV kvs [.inl (s : Nat), .inr (sOf [c])] = (δ s c).map fun j : Nat => V.int j
  Set' := fun H e f => ∃ kvs : List (Key × V), H e = some (.dK kvs) ∧ ∀ s : Nat, ((valV kvs (.inl (s : Nat))).isSome = true ↔ f s)
  rpt := fun _ r => r
  non := fun r => by rw [r]; exact fun z => nomatch z
  keep := fun ⟨kvs, h, r⟩ e => ⟨kvs, e.trans h, r⟩
  obj := fun ⟨kvs, h, _⟩ => ⟨_, h, fun _ z => (nomatch z), fun _ z => (nomatch z)⟩
  one := by
    intro H v s σ' i Q r hi q
    subst r
    refine .inl fun p p0 => ?_
    refine ⟨_, hi, upd_same, [(.inl (s : Nat), .int 0)], rfl, (by show 1 ≤ 15; decide), ?_⟩
    have e : upd (upd H p (.dK [])) p (.dK (mergeK [] [((.inl (s : Nat) : Key), V.int 0)])) = upd H p (.dK (mergeK [] [((.inl (s : Nat) : Key), V.int 0)])) := by
      funext b
      unfold upd
      split <;> rfl
    rw [e]
    refine q p _ p0 (Same.up p0) ⟨_, upd_same, Nat.le_refl 1, fun u => ?_⟩
    rw [ixV_one]
    show valV [((.inl (s : Nat) : Key), V.int 0)] (.inl (u : Nat)) = _
    by_cases e : u = s
    · rw [if_pos e, valV_pos (p := ((.inl (s : Nat) : Key), V.int 0)) (by rw [e])]
    · rw [if_neg e, valV_neg (p := ((.inl (s : Nat) : Key), V.int 0)) (fun z => e (inl_inj.mp z).symm)]; rfl
  get := by
    rintro H d S v s ⟨kvs, h, _, r⟩ rfl
    exact ⟨_, DGet.k (k := .inl (s : Nat)) h, fun j hj nd => (r s).trans (ixV_at hj nd)⟩
  miss := by
    rintro H d S v s ⟨kvs, h, _, r⟩ rfl m
    have e : valV kvs (.inl (s : Nat)) = none := (r s).trans (if_neg m)
    exact e ▸ DGet.k (k := .inl (s : Nat)) h
  put := by
    rintro H d S v s ⟨kvs, h, hl, r⟩ rfl m l3
    refine ⟨_, DPut.k (k := .inl (s : Nat)) h (by unfold sizeLine; omega), ⟨_, upd_same, Nat.le_trans (putK_len _ _ _) (by rw [List.length_append, List.length_singleton]; omega), fun u => ?_⟩, fun b n => upd_ne n⟩
    rw [valV_put, ixV_snoc m]
    by_cases e : u = s
    · rw [if_pos e, if_pos (by rw [e])]
    · rw [if_neg e, if_neg (fun z => e (inl_inj.mp z)), r]
  tab := by
    rintro H t δ v s b c ⟨kvs, h, r⟩ rfl hb
    refine ⟨_, .inl (DGet.t (k := [.inl (s : Nat), .inr (sOf [c])]) h hb), fun e => ?_, fun s' e => ⟨.int (s' : Nat), ?_, rfl⟩⟩
    · rw [r, e]; rfl
    · rw [r, e]; rfl
  isd := fun ⟨kvs, h, _⟩ => .inl (.inr ⟨kvs, .inl h⟩)
  tsame := fun s ⟨kvs, h, r⟩ => ⟨kvs, s _ _ h, r⟩
  mem := by
    rintro H e f v s ⟨kvs, h, r⟩ rfl
    exact ⟨_, DGet.k (k := .inl (s : Nat)) h, r s⟩
  ssame := fun s ⟨kvs, h, r⟩ => ⟨kvs, s _ _ h, r⟩
def kX (X : List Nat) : List Key := X.map fun j : Nat => Sum.inl (j : Int)
theorem kX_V (X : List Nat) : (kX X).map kV = natsV X := by unfold kX natsV; rw [List.map_map]; rfl
theorem kX_inj {X Y : List Nat} : kX X = kX Y ↔ X = Y := by
  constructor
  · intro h
    have := congrArg (fun l : List Key => l.map fun k => match k with | .inl i => i.toNat | .inr _ => 0) h
    simpa [kX, Function.comp_def] using this
  · rintro rfl; rfl
/-- states that are tuples of numbers -/
def kT (P : Program) (w : World) : SK P w where
  σ := List Nat
  dec := inferInstance
  Rp := fun H v X => ∃ b, v = .ref b ∧ H b = some (.tup (natsV X))
  Num := fun H d S => ∃ kvs : List (List Key × V), H d = some (.dT kvs) ∧ kvs.length ≤ S.length ∧ ∀ X : List Nat, valV kvs (kX X) = ixV S X
  Tab := fun H t δ => ∃ kvs : List (NK × V), DictN P w H t kvs ∧ ∀ (X : List Nat) (c : Nat), (δ X c = none → valV kvs (X.map (fun j : Nat => (j : Int)), sOf [c]) = none) ∧
    ∀ Y, δ X c = some Y → ∃ b, valV kvs (X.map (fun j : Nat => (j : Int)), sOf [c]) = some (.ref b) ∧ H b = some (.tup (natsV Y))
  Set' := fun H e f => ∃ kvs : List (List Key × V), H e = some (.dT kvs) ∧ ∀ X : List Nat, ((valV kvs (kX X)).isSome = true ↔ f X)
  rpt := fun k ⟨b, e, h⟩ => ⟨b, e, k _ _ h⟩
  non := fun ⟨b, e, _⟩ => by rw [e]; exact fun z => nomatch z
  keep := fun ⟨kvs, h, r⟩ e => ⟨kvs, e.trans h, r⟩
  obj := fun ⟨kvs, h, _⟩ => ⟨_, h, fun _ z => (nomatch z), fun _ z => (nomatch z)⟩
  one := by
    rintro H v X σ' i Q ⟨b, rfl, hb⟩ hi q
    refine .inr fun p p0 => ?_
    have nbp : b ≠ p := ne_of_none hb p0
    refine ⟨_, hi, upd_same, b, kX X, rfl, (upd_ne nbp).trans (by rw [kX_V]; exact hb), ?_⟩
    have e : upd (upd H p (.dT [])) p (.dT [(kX X, V.int 0)]) = upd H p (.dT [(kX X, V.int 0)]) := by
      funext b
      unfold upd
      split <;> rfl
    rw [e]
    refine q p _ p0 (Same.up p0) ⟨_, upd_same, Nat.le_refl 1, fun u => ?_⟩
    rw [ixV_one]
    by_cases e : u = X
    · rw [if_pos e, valV_pos (p := (kX X, V.int 0)) (by rw [e])]
    · rw [if_neg e, valV_neg (p := (kX X, V.int 0)) (fun z => e (kX_inj.mp z).symm)]; rfl
  get := by
    rintro H d S v X ⟨kvs, h, _, r⟩ ⟨b, rfl, hb⟩
    exact ⟨_, DGet.t (k := kX X) h (by rw [kX_V]; exact hb), fun j hj nd => (r X).trans (ixV_at hj nd)⟩
  miss := by
    rintro H d S v X ⟨kvs, h, _, r⟩ ⟨b, rfl, hb⟩ m
    have e : valV kvs (kX X) = none := (r X).trans (if_neg m)
    exact e ▸ DGet.t (k := kX X) h (by rw [kX_V]; exact hb)
  put := by
    rintro H d S v X ⟨kvs, h, hl, r⟩ ⟨b, rfl, hb⟩ m l3
    refine ⟨_, .inr ⟨kvs, kX X, b, h, rfl, by rw [kX_V]; exact hb, by unfold sizeLine; omega, rfl⟩, ⟨_, upd_same, Nat.le_trans (putK_len _ _ _) (by rw [List.length_append, List.length_singleton]; omega), fun u => ?_⟩, fun b n => upd_ne n⟩
    rw [valV_put, ixV_snoc m]
    by_cases e : u = X
    · rw [if_pos e, if_pos (by rw [e])]
    · rw [if_neg e, if_neg (fun z => e (kX_inj.mp z)), r]
  tab := by
    rintro H t δ v X b c ⟨kvs, h, r⟩ ⟨d, rfl, hd⟩ hb
    refine ⟨_, .inr ⟨kvs, (X.map (fun j : Nat => (j : Int)), sOf [c]), b, h, rfl, ⟨d, hb, by rw [← natsV_ints]; exact hd⟩, rfl⟩, (r X c).1, fun Y e => ?_⟩
    obtain ⟨y, h1, h2⟩ := (r X c).2 Y e
    exact ⟨_, h1, y, rfl, h2⟩
  isd := fun ⟨kvs, h, _⟩ => .inr ⟨kvs, h⟩
  tsame := by
    rintro H H' t δ s ⟨kvs, h, r⟩
    obtain ⟨kas, h1, h2, h3⟩ := h
    refine ⟨kvs, ⟨kas, s _ _ h1, h2, fun x hx => (h3 x hx).kp fun c xs e => s _ _ e⟩, fun X c => ⟨(r X c).1, fun Y e => ?_⟩⟩
    obtain ⟨b, h1, h2⟩ := (r X c).2 Y e
    exact ⟨b, h1, s _ _ h2⟩
  mem := by
    rintro H e f v X ⟨kvs, h, r⟩ ⟨b, rfl, hb⟩
    exact ⟨_, DGet.t (k := kX X) h (by rw [kX_V]; exact hb), r X⟩
  ssame := fun s ⟨kvs, h, r⟩ => ⟨kvs, s _ _ h, r⟩
end
end E

set_option autoImplicit true
set_option maxHeartbeats 4000000
set_option Elab.async false
set_option linter.all false
set_option maxRecDepth 100000
set_option maxHeartbeats 4000000
/-! The machine of a table of states. -/
namespace E
open PySem PySem.Spec PyProof.Rows L2
/-- numbers that are their own keys -/
def idK (n : Nat) : List (Key × V) := (List.range n).map fun p : Nat => (.inl (p : Nat), .int (p : Nat))
theorem idK_len (n : Nat) : (idK n).length = n := by simp [idK]
theorem idK_val (n : Nat) (p : Nat) : valV (idK n) (.inl (p : Nat)) = if p < n then some (.int (p : Nat)) else none := by
  induction n with
  | zero => rfl
  | succ n ih =>
    have e : idK (n + 1) = idK n ++ [((.inl (n : Nat) : Key), V.int (n : Nat))] := by unfold idK; rw [List.range_succ, List.map_append]; rfl
    rw [e]
    by_cases h : p < n
    · have h1 : valV (idK n) (.inl (p : Nat)) = some (.int (p : Nat)) := by rw [ih, if_pos h]
      rw [if_pos (by omega)]
      unfold valV at h1 ⊢
      rw [List.find?_append]
      obtain ⟨kv, hk, _⟩ := Option.map_eq_some_iff.mp h1
      rw [hk] at h1 ⊢
      exact h1
    · have h1 : valV (idK n) (.inl (p : Nat)) = none := by rw [ih, if_neg h]
      unfold valV at h1 ⊢
      rw [List.find?_append]
      have h2 := Option.map_eq_none_iff.mp h1
      rw [h2]
      by_cases z : p = n
      · subst z; simp
      · rw [if_neg (by omega)]
        have : ¬ (Sum.inl (n : Int) : Key) = .inl (p : Int) := fun y => z (inl_inj.mp y).symm
        simp [List.find?_cons, this]
theorem idK_put (n : Nat) : putK (idK n) (.inl (n : Nat)) (.int (n : Nat)) = idK (n + 1) := by
  unfold putK
  have : ((idK n).any fun kv => decide (kv.1 = (.inl (n : Nat) : Key))) = false := by
    rw [valV_any, idK_val, if_neg (by omega)]; rfl
  rw [this, if_neg (by decide)]
  unfold idK
  rw [List.range_succ, List.map_append]; rfl
def UfAt (H : Hp) (t : Addr) (ls : List EM.Lane) (en : List Nat) : Prop := ∃ (la ea : Addr) (ts : List Addr), H t = some (.tup [.ref la, .ref ea]) ∧ H la = some (.lst (refs ts)) ∧ LnAt H ts ls ∧ H ea = some (.lst (natsV en))
section
variable {P : Program} {w : World} {K : PySem.W.Frag} {mg : Str → Option Value} {base : Heap}
def spUseful (K : PySem.W.Frag) (k : SK P w) : Sp := fun vs H Q _ => ∃ (o ta ea : Addr) (v : V) (l : List Nat) (δ : k.σ → Nat → Option k.σ) (f : k.σ → Prop) (s0 : k.σ) (U : List k.σ), vs = [.ref o, v, .ref ta, .ref ea] ∧ OrAt K H o l ∧ LetOk l ∧ l.length ≤ 5 ∧ k.Rp H v s0 ∧ k.Tab H ta δ ∧ k.Set' H ea f ∧
  s0 ∈ U ∧ (∀ s c t, s ∈ U → δ s c = some t → t ∈ U) ∧ U.length ≤ 300 ∧ (∀ s c t, δ s c = some t → c ∈ l) ∧ (∀ s, s ∈ U → ∃ w, EM.DR δ f w s) ∧
  ∀ t S ls en H', Same H H' → EM.FS l δ s0 S ls → (∀ s c t, s ∈ S → δ s c = some t → t ∈ S) → (∀ s, s ∈ S → s ∈ U) → en.Pairwise (· < ·) → (∀ e, e ∈ en → e < S.length) → (∀ a x, S[a]? = some x → (a ∈ en ↔ f x)) → S.length ≤ 300 → ls.length ≤ 1500 → UfAt H' t ls en → Q (.ref t) H'
theorem ok_useful (T : Tx K mg) (k : SK P w) (hf : Ok P w K mg base 1 (He.ga K "found_states") ["order", "start", "table"] (spFound K k)) (hc : Ok P w K mg base 1 (He.ga K "come_to") ["lanes", "ends"] spCome) :
    Ok P w K mg base 2 (He.ga K "useful_form") ["order", "start", "table", "ends"] (spUseful K k) := by
  obtain ⟨_, F_found_states, b_found_states, k_found_states⟩ := hf
  obtain ⟨_, F_come_to, b_come_to, k_come_to⟩ := hc
  refine ok_mk T.fn_useful_form sc_useful_form (fun _ _ _ _ _ _ us hl => match us, hl with | [_, _, _, _], _ => rfl) (fun vs H Q E h => ?_) (fun cdv A outer s H vs Q E hr h => ?_)
  · obtain ⟨o, ta, ea, v, l, δ, f, s0, U, rfl, _⟩ := h
    rfl
  · obtain ⟨o, ta, ea, v, l, δ, f, s0, U, rfl, ho, lok, l5, hv, htab, hset, u0, uc, ul, hA, use, q⟩ := h
    have hu := hu_of hr
    refine ⟨_, (pss_cons (ps_asg (pe_call F_found_states hr rfl T.g_found_states k_found_states b_found_states .nil pass0 (pa_cons (pv 0) (pa_cons (pv 1) (pa_cons (pv 2) pa_nil)))) (pg_tup (by rfl) (pgs_cons (pg_name (i := 4) sc_useful_form.nd rfl (by first | exact Or.inl rfl | exact Or.inr rfl)) (pgs_cons (pg_name (i := 5) sc_useful_form.nd rfl (by first | exact Or.inl rfl | exact Or.inr rfl)) pgs_nil))))
      (pss_cons (ps_setLc (i := 8) (own := [("at", 6), ("state", 7)])   (by rfl) sc_useful_form.nd rfl rfl (sw_true rfl rfl rfl (by decide +kernel)) (pi_enumA (by rfl) T.f_enumerate (pa_cons (pv 4) pa_nil)) (blkOk_by (own := [("at", 6), ("state", 7)]) (N := N_useful_form) (sc := defScope s_useful_form) (by decide +kernel)) (fun _ _ _ _ _ => (pg_tupK (n := 2) rfl (by rfl) (pgs_cons (pg_name (i := 6) sc_useful_form.nd rfl (Or.inl rfl)) (pgs_cons (pg_name (i := 7) sc_useful_form.nd rfl (Or.inl rfl)) pgs_nil)))) (fun _ _ _ _ _ => pts_one (pt_cmp (pc_din hu (pv 7) (pv 3)))) (fun _ _ _ _ _ => (pv 6)))
      (pss_cons (ps_set (i := 9) sc_useful_form.nd rfl (by first | exact Or.inl rfl | exact Or.inr rfl) (pe_call F_come_to hr rfl T.g_come_to k_come_to b_come_to .nil pass0 (pa_cons (pv 5) (pa_cons (pv 8) pa_nil))))
      (pss_cons (ps_if (pt_cmp (pc_dnotin hu pe_int (pv 9))) (pss_one (ps_ret (pe_tup (pa_cons (pe_lst pa_nil) (pa_cons (pe_lst pa_nil) pa_nil))))) pss_nil)
      (pss_cons (ps_set (i := 10) sc_useful_form.nd rfl (by first | exact Or.inl rfl | exact Or.inr rfl) pe_dnewK)
      (pss_cons (ps_for PassesOwn.never rfl (pi_range1 rfl T.f_range (pa_cons (pe_callB call_len_seq (by rfl) T.f_len (by decide +kernel) (pa_cons (pv 4) pa_nil)) pa_nil)) (pg_name (i := 6) sc_useful_form.nd rfl (by first | exact Or.inl rfl | exact Or.inr rfl)) (pss_one (ps_if (pt_cmp (pc_din hu (pv 6) (pv 9))) (pss_one (ps_dput hu (pv 10) (pv 6) (pe_callB call_lenD (by rfl) T.f_len (by decide +kernel) (pa_cons (pv 10) pa_nil)) rfl)) pss_nil)))
      (pss_cons (ps_setLc (i := 14) (own := [("p", 11), ("letter", 12), ("q", 13)])   (by rfl) sc_useful_form.nd rfl rfl (sw_true rfl rfl rfl (by decide +kernel)) (pi_list (pv 5)) (blkOk_by (own := [("p", 11), ("letter", 12), ("q", 13)]) (N := N_useful_form) (sc := defScope s_useful_form) (by decide +kernel)) (fun _ _ _ _ _ => (pg_tupK (n := 3) rfl (by rfl) (pgs_cons (pg_name (i := 11) sc_useful_form.nd rfl (Or.inl rfl)) (pgs_cons (pg_name (i := 12) sc_useful_form.nd rfl (Or.inl rfl)) (pgs_cons (pg_name (i := 13) sc_useful_form.nd rfl (Or.inl rfl)) pgs_nil))))) (fun _ _ _ _ _ => pts_one (PW.pt (pw_and (pt_cmp (pc_din hu (pv 11) (pv 9))) (pw_and1 (pt_cmp (pc_din hu (pv 13) (pv 9))))))) (fun _ _ _ _ _ => (pe_tup (pa_cons (pe_dget hu (pv 10) (pv 11) (fun _ _ => rfl)) (pa_cons (pv 12) (pa_cons (pe_dget hu (pv 10) (pv 13) (fun _ _ => rfl)) pa_nil))))))
      (pss_one (ps_ret (pe_tup (pa_cons (pv 14) (pa_cons (pe_lc (own := [("stop", 15)]) (g := gName 15) (tt := tYes) (by rfl) sc_useful_form.nd (pi_list (pv 8)) (blkOk_by (own := [("stop", 15)]) (N := N_useful_form) (sc := defScope s_useful_form) (by decide +kernel)) (fun _ _ _ _ _ => (pg_name (i := 15) sc_useful_form.nd rfl (Or.inl rfl))) (fun _ _ _ _ _ => pts_nil) (fun _ _ _ _ _ => (pe_dget hu (pv 10) (pv 15) (fun _ _ => rfl)))) pa_nil)))))))))))), ?_⟩
    refine ⟨_, rfl, _, rfl, _, rfl, o, ta, v, l, δ, s0, U, rfl, ho, lok, l5, hv, htab, u0, fun s c t hs _ e => uc s c t hs e, ul, fun t S ls H1 s1 out hU Sl ll => ?_⟩
    obtain ⟨fs, clo, sa, la, svs, ts, ht, hsa, hsv, hla, hln⟩ := out
    have clo' : ∀ s c t, s ∈ S → δ s c = some t → t ∈ S := fun s c t hs e => clo s c t hs (hA s c t e) e
    refine ⟨t, _, rfl, SqT.of ht, rfl, _, _, rfl, _, _, rfl, rfl, ?_⟩
    refine ⟨_, rfl, .inl ⟨sa, _, rfl, SqL.of hsa, fun D D0 => ?_⟩⟩
    refine lc_it walk_pairs (PB H1 D fun i acc _ => ∃ en, acc = natsV en ∧ en.Pairwise (· < ·) ∧ (∀ a, a ∈ en → a < i) ∧ ∀ a x, a < i → S[a]? = some x → (a ∈ en ↔ f x)) (PB.start D0 fun _ _ => ⟨[], rfl, .nil, fun a h => (by cases h), fun a x h => by omega⟩) (fun i Hx _ h => ?_) (fun i z Hx H2 hi h hy => ?_) (fun H2 h => ?_)
    · obtain ⟨acc, b, _⟩ := h
      exact SqL.of (b.1 _ _ hsa)
    · obtain ⟨acc, b, en, rfl, e1, e2, e3⟩ := h
      obtain ⟨Tp, x, y, rfl, T0, rfl, rfl, hy⟩ := hy
      have hiS : i < S.length := by rw [← hsv.1]; exact hi
      have hSi := List.getElem?_eq_getElem hiS
      have ry := hsv.2 i y _ hy hSi
      generalize e4 : upd Hx Tp _ = H3
      obtain ⟨s3, T3, f3⟩ := newE T0 e4
      have s13 := same_trans b.1 s3
      refine ⟨Tp, _, rfl, SqT.of T3, rfl, _, _, rfl, _, _, rfl, rfl, rfl, ?_⟩
      obtain ⟨og, hg, hgf⟩ := k.mem (k.ssame (same_trans s1 s13) hset) (k.rp s13 ry)
      refine ⟨_, rfl, _, rfl, ea, og, rfl, hg, _, rfl, ?_⟩
      refine ite2 (fun h => ?_) (fun h => ?_)
      · have fx := hgf.mp h
        refine ⟨_, rfl, PB.add b D0 s3 ?_ fun H5 _ _ => ⟨en ++ [i], by rw [natsV_app]; rfl, ?_, fun a ha => ?_, fun a x ha hx => ?_⟩⟩
        · have := nodup_le (m := i) (EM.nodup_of_lt e1) fun a ha => by have := e2 a ha; omega
          rw [natsV_len]; unfold sizeLine; omega
        · exact List.pairwise_append.mpr ⟨e1, by simp, fun a ha c hc => by rw [List.mem_singleton] at hc; rw [hc]; exact e2 a ha⟩
        · rcases List.mem_append.mp ha with ha | ha
          · have := e2 a ha; omega
          · have := List.mem_singleton.mp ha; omega
        · rw [List.mem_append, List.mem_singleton]
          by_cases z : a = i
          · subst z
            rw [hSi] at hx
            cases hx
            exact ⟨fun _ => fx, fun _ => .inr rfl⟩
          · rw [← e3 a x (by omega) hx]
            exact ⟨fun y => y.elim id fun y => absurd y z, .inl⟩
      · have nfx : ¬ f S[i] := fun y => h (hgf.mpr y)
        refine PB.stay b s3 ⟨en, rfl, e1, fun a ha => by have := e2 a ha; omega, fun a x ha hx => ?_⟩
        by_cases z : a = i
        · subst z
          rw [hSi] at hx
          cases hx
          exact ⟨fun y => absurd (e2 a y) (by omega), fun y => absurd y nfx⟩
        · exact e3 a x (by omega) hx
    · obtain ⟨acc, b, en, rfl, e1, e2, e3⟩ := h
      rw [hsv.1] at e2 e3
      have hen : ∀ a x, S[a]? = some x → (a ∈ en ↔ f x) := fun a x hx => e3 a x (List.getElem?_eq_some_iff.mp hx).1 hx
      have enl := nodup_le (m := 300) (EM.nodup_of_lt e1) fun a ha => by have := e2 a ha; omega
      have hsa2 := b.1 _ _ hsa
      refine ⟨_, rfl, _, rfl, la, D, ts, ls, en, S.length, rfl, .inl (b.1 _ _ hla), hln.mono b.1, .inl b.2, EM.nodup_of_lt e1, by omega, by omega, fun y hy => (fs.sc.bnd y hy).1, e2, fun u us H3 s3 hus mus => ?_⟩
      have all : ∀ p, p < S.length → p ∈ us := fun p hp => by
        rw [mus]
        obtain ⟨w', hw'⟩ := use _ (hU _ (List.getElem_mem hp))
        exact ⟨w', (fs.fut hen hA clo' w' p _ (List.getElem?_eq_getElem hp)).mpr hw'⟩
      refine ⟨_, rfl, u, _, rfl, DGet.k (k := .inl ((0 : Nat) : Int)) hus, _, rfl, ?_⟩
      rw [uK_val, decide_eq_true (all 0 fs.sc.pos)]
      refine iteF ?_
      refine fun nu nu0 => ?_
      generalize e5 : upd H3 nu _ = H4
      obtain ⟨s4, nu4, f4⟩ := newE nu0 e5
      have s24 := same_trans s3 s4
      refine ⟨_, rfl, sa, _, rfl, .inl (SqL.of (s24 _ _ hsa2)), _, rfl, by rw [hsv.1]; omega, by rw [hsv.1]; omega, ?_⟩
      refine for_range (n := svs.length) (fun i σ H5 => ∃ x6, σ = [some (.ref o), some v, some (.ref ta), some (.ref ea), some (.ref sa), some (.ref la), x6, none, some (.ref D), some (.ref u), some (.ref nu), none, none, none, none, none] ∧ Same H3 H5 ∧ H5 nu = some (.dK (idK i))) ?_ (fun i σ H5 hi hI => ?_) (fun σ H5 hI => ?_)
      · exact ⟨_, rfl, s4, nu4⟩
      · obtain ⟨x6, rfl, s5, nu5⟩ := hI
        rw [hsv.1] at hi
        rw [show (0 : Int) + (i : Int) = (i : Int) by omega]
        refine ⟨_, rfl, _, rfl, u, _, rfl, DGet.k (k := .inl (i : Nat)) (s5 _ _ hus), _, rfl, ?_⟩
        rw [uK_val, decide_eq_true (all i hi)]
        refine iteT ?_
        refine ⟨_, rfl, nu, _, rfl, nu5, ?_⟩
        rw [idK_len]
        refine ⟨_, rfl, _, rfl, nu, _, rfl, DPut.k (k := .inl (i : Nat)) nu5 (by rw [idK_len]; unfold sizeLine; omega), ?_⟩
        rw [idK_put]
        generalize e6 : upd H5 nu _ = H6
        obtain ⟨nu6, f6⟩ := putE e6
        exact ⟨_, rfl, fun b o e => (f6 b (ne_of_none e nu0)).trans (s5 _ _ e), nu6⟩
      · obtain ⟨x6, rfl, s5, nu5⟩ := hI
        rw [hsv.1] at nu5
        have gnum : ∀ {Hx : Hp}, Same H5 Hx → ∀ p, p < S.length → DGet Hx nu (.int (p : Nat)) (some (.int (p : Nat))) := fun sx p hp => by
          have := DGet.k (k := .inl (p : Nat)) (sx _ _ nu5)
          rw [idK_val, if_pos hp] at this
          exact this
        have s25 := same_trans s3 s5
        have hla5 := s25 _ _ (b.1 _ _ hla)
        have hln5 : LnAt H5 ts ls := hln.mono (same_trans b.1 s25)
        have hD5 := s25 _ _ b.2
        have hus5 := s5 _ _ hus
        refine ⟨_, rfl, la, rfl, ⟨_, SqL.of hla5⟩, fun D2 D20 => ?_⟩
        refine lc_list (xs := refs ts) (PB H5 D2 fun i acc Hx => ∃ ts', acc = refs ts' ∧ LnAt Hx ts' (ls.take i)) (PB.start D20 fun _ _ => ⟨[], rfl, .nil⟩) (fun i Hx _ h => ?_) (fun i z Hx hz h => ?_) (fun H6 h => ?_)
        · obtain ⟨acc, b', _⟩ := h
          exact SqL.of (b'.1 _ _ hla5)
        · obtain ⟨acc, b', ts', rfl, ln'⟩ := h
          obtain ⟨tl, htl, rfl⟩ := refs_get hz
          obtain ⟨y, hy, hty⟩ := Each.get hln5 htl
          obtain ⟨y1, y2, y3⟩ := fs.sc.bnd y (List.mem_of_getElem? hy)
          have il := (List.getElem?_eq_some_iff.mp hy).1
          refine ⟨tl, _, rfl, SqT.of (b'.1 _ _ hty), rfl, _, _, rfl, _, _, rfl, _, _, rfl, rfl, rfl, ?_⟩
          refine ⟨_, rfl, _, rfl, u, _, rfl, DGet.k (k := .inl (y.1 : Nat)) (b'.1 _ _ hus5), _, rfl, ?_⟩
          rw [uK_val, decide_eq_true (all _ y1)]
          refine iteT ?_
          refine ⟨_, rfl, _, rfl, u, _, rfl, DGet.k (k := .inl (y.2.2 : Nat)) (b'.1 _ _ hus5), _, rfl, ?_⟩
          rw [uK_val, decide_eq_true (all _ y3)]
          refine iteT ?_
          refine ⟨_, rfl, _, rfl, nu, _, rfl, gnum b'.1 _ y1, _, rfl, _, rfl, _, rfl, nu, _, rfl, gnum b'.1 _ y3, (by show 3 ≤ sizeLine; decide), fun tn tn0 => ?_⟩
          refine PB.add b' D20 (Same.up tn0) ?_ fun H7 _ f7 => ⟨ts' ++ [tn], by rw [refs_app]; rfl, ?_⟩
          · have := ln'.1
            rw [List.length_take] at this
            rw [refs_len]; unfold sizeLine; omega
          · rw [List.take_succ, hy]
            have ntD : tn ≠ D2 := fun z => by rw [z, b'.2] at tn0; cases tn0
            refine (Each.mono ln' fun a c hac => ?_).snoc ?_
            · have n1 : a ≠ D2 := fun z => by rw [z, b'.2] at hac; cases hac
              rw [f7 a n1, upd_ne (ne_of_none hac tn0)]; exact hac
            · rw [f7 tn ntD]; exact upd_same
        · obtain ⟨acc, b', ts', rfl, ln'⟩ := h
          have ln' : LnAt H6 ts' (ls.take (refs ts).length) := ln'
          rw [refs_len, hln.1, List.take_length] at ln'
          have hD6 := b'.1 _ _ hD5
          refine ⟨_, rfl, _, rfl, D, rfl, ⟨_, SqL.of hD6⟩, fun D3 D30 => ?_⟩
          refine lc_list (xs := natsV en) (PB H6 D3 fun i acc _ => acc = natsV (en.take i)) (PB.start D30 fun _ _ => rfl) (fun i Hx _ h => ?_) (fun i z Hx hz h => ?_) (fun H7 h => ?_)
          · obtain ⟨acc, b3, _⟩ := h
            exact SqL.of (b3.1 _ _ hD6)
          · obtain ⟨acc, b3, rfl⟩ := h
            obtain ⟨e, he, rfl⟩ := natsV_get hz
            refine ⟨rfl, yesI ?_⟩
            refine ⟨_, rfl, _, rfl, nu, _, rfl, gnum (same_trans b'.1 b3.1) e (e2 e (List.mem_of_getElem? he)), PB.add b3 D30 (same_refl _) ?_ fun H8 _ _ => ?_⟩
            · rw [natsV_len, List.length_take]; unfold sizeLine; omega
            · show _ = natsV _
              rw [List.take_succ, he, natsV_app]; rfl
          · obtain ⟨acc, b3, ea'⟩ := h
            have ea' : acc = natsV (en.take (natsV en).length) := ea'
            rw [natsV_len, List.take_length] at ea'
            subst ea'
            refine ⟨(by show 2 ≤ sizeLine; decide), fun tr tr0 => ?_⟩
            have s8 : Same H7 (upd H7 tr (.tup [.ref D2, .ref D3])) := Same.up tr0
            exact q tr S ls en _ (same_trans s1 (same_trans b.1 (same_trans s25 (same_trans b'.1 (same_trans b3.1 s8))))) fs clo' hU e1 e2 hen Sl (by omega)
              ⟨D2, D3, ts', upd_same, s8 _ _ (b3.1 _ _ b'.2), ln'.mono (same_trans b3.1 s8), s8 _ _ b3.2⟩
end
end E

set_option autoImplicit true
set_option maxHeartbeats 4000000
set_option Elab.async false
set_option linter.all false
set_option maxRecDepth 100000
set_option maxHeartbeats 4000000
/-! len of a dict whose keys are tuples. -/
namespace E
open PySem PySem.Spec PyProof.Rows L2
/-- a dict with z entries, of whatever keys -/
def HasN (h : Heap) (d : Addr) (z : Nat) : Prop := ∃ o es ep, h.get? d = some o ∧ o.ExactDict ∧ o.data = .dict es ep ∧ es.size = z
theorem HasN.ty {s : Shared} {d : Addr} {z : Nat} (h : HasN s.heap d z) : s.TypeIs (.ref d) "dict" := by
  obtain ⟨o, es, ep, h1, h2, _⟩ := h
  exact ⟨o, h1, h2.1⟩
theorem len_code {prog : Program} {w : World} {d : Addr} (hd : (d == sysModules) = false) : MeetsIn prog w (Builtin.«dict.__len__» ⟨[.ref d], []⟩) (fun _ R s => ∃ z : Nat, HasN s.heap d z ∧ R (.ok (.ret (.int z s.toks))) { s with toks := s.toks + 1 }) :=
  .of_wp fun A R s ⟨z, ⟨o, es, ep, g1, _, g3, g4⟩, q⟩ => by
    show wpAny _ _ (dictSize d >>= _) _ _ s
    unfold dictSize
    refine wpAny_bind (wpAny_bind (wpAny_dictEntries g1 g3 (wpAny_pure ?_)))
    show wpAny _ _ (Builtin.Dict.pendingCount d >>= _) _ _ s
    refine wpAny_bind (wpAny_pendingCount_other hd (wpAny_ret_mkInt ?_))
    rw [Nat.add_zero, g4]
    exact q
theorem len_any {prog : Program} {w : World} {A : Around} {Er : Value → Shared → Prop} {s : Shared} {d : Addr} {z : Nat} {Q : Value → Shared → Prop} (hd : (d == sysModules) = false) (hz : HasN s.heap d z) (fit : (z : Int) < 2 ^ 63) (q : Q (.int z (s.toks + 1)) { s with toks := s.toks + 1 + 1 }) :
    wpAny (model prog w) A (call (.builtin "len") [.ref d]) Q Er s := by
  refine Calls.call_function_entry kind_len plain_len entry_len (args_len1 _) ?_
  unfold Builtin.«len»
  refine wpAny_bind (m := oneArg "len" _) (wpAny_pure ?_)
  refine wpAny_bind (m := callSpecial? (.ref d) (Str.ofString "__len__")) (wpAny_callSpecial?_slot (name := Str.ofString "__len__") hz.ty F.slot_dict_len (call_meetsIn F.slot_dict_len hz.ty F.entry_dict_len (F.args_dict_len_1 _) (len_code hd) ⟨z, hz, ?_⟩))
  show wpAny _ _ _ _ _ { s with toks := s.toks + 1 }
  refine wpAny_bind (wpAny_holding (wpAny_pure (wpAny_bind (wpAny_letGo ?_))))
  show wpAny _ _ (if (z : Int) < 0 then _ else _) _ _ _
  rw [if_neg (by omega)]
  show wpAny _ _ (if (z : Int) ≥ 2 ^ 63 then _ else _) _ _ _
  rw [if_neg (by omega)]
  exact wpAny_bind (wpAny_mkInt (wpAny_pure ⟨_, rfl, q⟩))
theorem call_lenT {X : Cx} : CallR X (.builtin "len") (fun xs H Q => ∃ a kvs, xs = [V.ref a] ∧ H a = some (.dT kvs) ∧ Q (.int kvs.length) H) := by
  intro pins s σ H xs us Q I r h
  obtain ⟨a, kvs, rfl, ha, q⟩ := h
  obtain ⟨u, rfl, ru⟩ := vals1 r
  cases ru
  obtain ⟨hl, hsys, xs, kt, o, es, ep, h1, h2, h3, h4, _⟩ := dt_of I.hok ha
  have e : es.size = kvs.length := by
    have e1 := congrArg List.length h4
    rw [List.length_map, ← Paired.length kt] at e1
    simpa using e1
  exact len_any hsys ⟨o, es, ep, h1, h2, h3, e⟩ (by rw [sizeLine_eq] at hl; omega) ⟨.int kvs.length, H, I.tok _, ⟨_, rfl⟩, q⟩
end E

set_option autoImplicit true
set_option maxHeartbeats 4000000
set_option Elab.async false
set_option linter.all false
set_option maxRecDepth 100000
set_option maxHeartbeats 4000000
/-! Places with the same future. -/
namespace E
open PySem PySem.Spec PyProof.Rows L2
/-- numbers by places -/
def kdK (κ : Nat → Nat) (n : Nat) : List (Key × V) := (List.range n).map fun p : Nat => (.inl (p : Nat), .int (κ p : Nat))
theorem kdK_len (κ : Nat → Nat) (n : Nat) : (kdK κ n).length = n := by simp [kdK]
theorem kdK_succ (κ : Nat → Nat) (n : Nat) : kdK κ (n + 1) = kdK κ n ++ [((.inl (n : Nat) : Key), V.int (κ n : Nat))] := by unfold kdK; rw [List.range_succ, List.map_append]; rfl
theorem kdK_val (κ : Nat → Nat) (n p : Nat) : valV (kdK κ n) (.inl (p : Nat)) = if p < n then some (.int (κ p : Nat)) else none := by
  induction n with
  | zero => rfl
  | succ n ih =>
    rw [kdK_succ]
    by_cases h : p < n
    · have h1 : valV (kdK κ n) (.inl (p : Nat)) = some (.int (κ p : Nat)) := by rw [ih, if_pos h]
      rw [if_pos (by omega)]
      unfold valV at h1 ⊢
      rw [List.find?_append]
      obtain ⟨kv, hk, _⟩ := Option.map_eq_some_iff.mp h1
      rw [hk] at h1 ⊢
      exact h1
    · have h1 : valV (kdK κ n) (.inl (p : Nat)) = none := by rw [ih, if_neg h]
      unfold valV at h1 ⊢
      rw [List.find?_append]
      have h2 := Option.map_eq_none_iff.mp h1
      rw [h2]
      by_cases z : p = n
      · subst z; simp
      · rw [if_neg (by omega)]
        have : ¬ (Sum.inl (n : Int) : Key) = .inl (p : Int) := fun y => z (inl_inj.mp y).symm
        simp [List.find?_cons, this]
theorem kdK_put (κ : Nat → Nat) (n : Nat) : putK (kdK κ n) (.inl (n : Nat)) (.int (κ n : Nat)) = kdK κ (n + 1) := by
  unfold putK
  have : ((kdK κ n).any fun kv => decide (kv.1 = (.inl (n : Nat) : Key))) = false := by
    rw [valV_any, kdK_val, if_neg (by omega)]; rfl
  rw [this, if_neg (by decide), kdK_succ]
/-- lanes as a dict -/
def tgK (ls : List EM.Lane) : List (List Key × V) := ls.map fun l => ([.inl (l.1 : Nat), .inr (sOf [l.2.1])], .int (l.2.2 : Nat))
theorem tgKey {p c a b : Nat} : ([.inl (p : Int), .inr (sOf [c])] : List Key) = [.inl (a : Int), .inr (sOf [b])] ↔ p = a ∧ c = b := by
  constructor
  · intro h
    injection h with h1 h2
    injection h2 with h2 _
    injection h1 with h1
    injection h2 with h2
    have := sOf_inj h2
    exact ⟨by omega, by simpa using this⟩
  · rintro ⟨rfl, rfl⟩; rfl
theorem tgK_val (ls : List EM.Lane) (p c : Nat) : valV (tgK ls) [.inl (p : Nat), .inr (sOf [c])] = (EM.tg ls p c).map fun q : Nat => V.int q := by
  unfold tgK EM.tg valV
  rw [List.find?_map]
  have e : ((fun kv : List Key × V => decide (kv.1 = [.inl (p : Nat), .inr (sOf [c])])) ∘ fun l : EM.Lane => (([.inl (l.1 : Nat), .inr (sOf [l.2.1])] : List Key), V.int (l.2.2 : Nat))) = fun l => l.1 == p && l.2.1 == c := by
    funext l
    show decide (([.inl (l.1 : Nat), .inr (sOf [l.2.1])] : List Key) = [.inl (p : Nat), .inr (sOf [c])]) = _
    rw [Bool.eq_iff_iff, decide_eq_true_eq, tgKey, Bool.and_eq_true, beq_iff_eq, beq_iff_eq]
  rw [e, Option.map_map, Option.map_map]
  rfl
/-- the kinds behind a place's letters -/
def sgn (l : List Nat) (ls : List EM.Lane) (κ : Nat → Nat) (p : Nat) : List Int := (κ p : Int) :: l.map fun c => match EM.tg ls p c with | some q => (κ q : Int) | none => -1
theorem sgn_eq {l : List Nat} {ls : List EM.Lane} {κ : Nat → Nat} {p q : Nat} : sgn l ls κ p = sgn l ls κ q ↔ EM.SgE l ls κ p q := by
  unfold sgn EM.SgE
  rw [List.cons_eq_cons]
  refine and_congr (by omega) ?_
  rw [List.map_inj_left]
  constructor
  · intro h c hc
    have := h c hc
    cases e1 : EM.tg ls p c <;> cases e2 : EM.tg ls q c <;> rw [e1, e2] at this <;> simp at this ⊢ <;> omega
  · intro h c hc
    have := h c hc
    cases e1 : EM.tg ls p c <;> cases e2 : EM.tg ls q c <;> rw [e1, e2] at this <;> simp at this ⊢
    omega
theorem reps_lenI {n : Nat} {κ : Nat → Nat} {es : List Int} (nd : es.Nodup) (h : ∀ k, k ∈ es ↔ ∃ p, p < n ∧ ((κ p : Nat) : Int) = k) : es.length = (EM.reps n κ).length := by
  have e : es.Perm ((EM.reps n κ).map fun p => ((κ p : Nat) : Int)) := by
    rw [List.perm_ext_iff_of_nodup nd]
    · intro k
      rw [h, List.mem_map]
      constructor
      · rintro ⟨p, hp, rfl⟩
        obtain ⟨q, m, e⟩ := EM.rep_of (κ := κ) hp
        exact ⟨q, m, by rw [e]⟩
      · rintro ⟨p, m, rfl⟩; exact ⟨p, (EM.mem_reps.mp m).1, rfl⟩
    · exact List.pairwise_map.mpr (List.Pairwise.imp_of_mem (fun {a b} ha hb ne e => ne (EM.reps_inj ha hb (by omega))) EM.reps_nd)
  rw [e.length_eq, List.length_map]
section
variable {τ : Type} [DecidableEq τ]
def ixG (D : List τ) (s : τ) : Nat := D.idxOf s
theorem ixG_lt {D : List τ} {s : τ} (h : s ∈ D) : ixG D s < D.length := List.idxOf_lt_length_of_mem h
theorem ixG_get {D : List τ} {s : τ} (h : s ∈ D) : D[ixG D s]'(ixG_lt h) = s := List.getElem_idxOf (ixG_lt h)
end
def ixP (D : List (List Int)) (s : List Int) : Nat := ixG D s
theorem ixP_lt {D : List (List Int)} {s : List Int} (h : s ∈ D) : ixP D s < D.length := ixG_lt h
theorem ixP_get {D : List (List Int)} {s : List Int} (h : s ∈ D) : D[ixP D s]'(ixP_lt h) = s := ixG_get h
/-- a tuple key of numbers -/
def kI' (s : List Int) : List Key := s.map Sum.inl
theorem kI'_V (s : List Int) : (kI' s).map kV = s.map V.int := by unfold kI'; rw [List.map_map]; rfl
theorem kI'_inj {a b : List Int} : kI' a = kI' b ↔ a = b := by
  constructor
  · intro h
    have := congrArg (fun l : List Key => l.map fun k => match k with | .inl i => i | .inr _ => 0) h
    simpa [kI', Function.comp_def] using this
  · rintro rfl; rfl
def SgOk (l : List Nat) (ls : List EM.Lane) (κ : Nat → Nat) (Hx : Hp) (kvs : List (Key × V)) (i : Nat) : Prop := kvs.length ≤ i ∧ ∀ p : Nat, p < i → ∃ a, valV kvs (.inl (p : Nat)) = some (.ref a) ∧ Hx a = some (.tup ((sgn l ls κ p).map V.int))
def NmOk (l : List Nat) (ls : List EM.Lane) (κ : Nat → Nat) (kvs : List (List Key × V)) (D : List (List Int)) (i : Nat) : Prop := kvs.length = D.length ∧ D.Nodup ∧ D.length ≤ i ∧ (∀ s, s ∈ D ↔ ∃ p, p < i ∧ sgn l ls κ p = s) ∧ ∀ s : List Int, valV kvs (kI' s) = ixV D s
section
variable {P : Program} {w : World} {K : PySem.W.Frag} {mg : Str → Option Value} {base : Heap}
def spKinds : Sp := fun vs H Q _ => ∃ (pl td ea : Addr) (l : List Nat) (n : Nat) (ls : List EM.Lane) (en : List Nat), vs = [.ref pl, .str (sOf l), .ref td, .ref ea] ∧ H pl = some (.tup (natsV (List.range n))) ∧ H td = some (.dT (tgK ls)) ∧ H ea = some (.tup (natsV en)) ∧
  EM.Form l n ls en ∧ n ≤ 300 ∧ l.length ≤ 5 ∧ ∀ u κ H', Same H H' → H' u = some (.dK (kdK κ n)) → (∀ p q, p < n → q < n → (κ p = κ q ↔ EM.FE ls en p q)) → (∀ p, p < n → κ p < n) → Q (.ref u) H'
theorem ok_kinds (T : Tx K mg) : Ok P w K mg base 1 (He.ga K "future_kinds") ["places", "letters", "targets", "ends"] spKinds := by
  refine ok_mk T.fn_future_kinds sc_future_kinds (fun _ _ _ _ _ _ us hl => match us, hl with | [_, _, _, _], _ => rfl) (fun vs H Q E h => ?_) (fun cdv A outer s H vs Q E hr h => ?_)
  · obtain ⟨pl, td, ea, l, n, ls, en, rfl, _⟩ := h
    rfl
  · obtain ⟨pl, td, ea, l, n, ls, en, rfl, hpl, htd, hea, fm, n3, l5, q⟩ := h
    have hu := hu_of hr
    refine ⟨_, (pss_cons (ps_set (i := 5) sc_future_kinds.nd rfl (by first | exact Or.inl rfl | exact Or.inr rfl) (pe_dc (own := [("p", 4)]) (g := gName 4) (tt := tYes) (by rfl) sc_future_kinds.nd (pi_tup (pv 0)) (blkOk_by (own := [("p", 4)]) (N := N_future_kinds) (sc := defScope s_future_kinds) (by decide +kernel)) (fun _ _ _ _ _ => (pg_name (i := 4) sc_future_kinds.nd rfl (Or.inl rfl))) (fun _ _ _ _ _ => pts_nil) (fun _ _ _ _ _ => (pv 4)) (fun _ _ _ _ _ => (pe_callTy call_int1 (by rfl) T.f_int (by decide +kernel) (pa_cons (pe_cmpR (op_in_seqK rfl) (pv 4) (pv 3) rfl) pa_nil)))))
      (pss_cons (ps_set (i := 6) sc_future_kinds.nd rfl (by first | exact Or.inl rfl | exact Or.inr rfl) pe_int)
      (pss_cons (ps_while PassesOwn.never (pt_cmpR op_lt (pv 6) (pe_callB cr_lenSet (by rfl) T.f_len (by decide +kernel) (pa_cons (pe_callTy (cr_setInts (by rfl)) (by rfl) T.f_set (by decide +kernel) (pa_cons (pe_lc (own := [("p", 4)]) (g := gName 4) (tt := tYes) (by rfl) sc_future_kinds.nd (pi_tup (pv 0)) (blkOk_by (own := [("p", 4)]) (N := N_future_kinds) (sc := defScope s_future_kinds) (by decide +kernel)) (fun _ _ _ _ _ => (pg_name (i := 4) sc_future_kinds.nd rfl (Or.inl rfl))) (fun _ _ _ _ _ => pts_nil) (fun _ _ _ _ _ => (pe_dget hu (pv 5) (pv 4) (fun _ _ => rfl)))) pa_nil)) pa_nil)) (nomark _)) (pss_cons (ps_set (i := 6) sc_future_kinds.nd rfl (by first | exact Or.inl rfl | exact Or.inr rfl) (pe_callB cr_lenSet (by rfl) T.f_len (by decide +kernel) (pa_cons (pe_callTy (cr_setInts (by rfl)) (by rfl) T.f_set (by decide +kernel) (pa_cons (pe_lc (own := [("p", 4)]) (g := gName 4) (tt := tYes) (by rfl) sc_future_kinds.nd (pi_tup (pv 0)) (blkOk_by (own := [("p", 4)]) (N := N_future_kinds) (sc := defScope s_future_kinds) (by decide +kernel)) (fun _ _ _ _ _ => (pg_name (i := 4) sc_future_kinds.nd rfl (Or.inl rfl))) (fun _ _ _ _ _ => pts_nil) (fun _ _ _ _ _ => (pe_dget hu (pv 5) (pv 4) (fun _ _ => rfl)))) pa_nil)) pa_nil)))
      (pss_cons (ps_set (i := 7) sc_future_kinds.nd rfl (by first | exact Or.inl rfl | exact Or.inr rfl) pe_dnewK)
      (pss_cons (ps_for PassesOwn.never rfl (pi_tup (pv 0)) (pg_name (i := 4) sc_future_kinds.nd rfl (by first | exact Or.inl rfl | exact Or.inr rfl)) (pss_one (ps_dput hu (pv 7) (pv 4) (pe_op op_catA (pe_tup (pa_cons (pe_dget hu (pv 5) (pv 4) (fun _ _ => rfl)) pa_nil)) (pe_callTy call_tuple_of (by rfl) T.f_tuple (by decide +kernel) (pa_cons (pe_lc (own := [("letter", 8)]) (g := gName 8) (tt := tYes) (by rfl) sc_future_kinds.nd (pi_str (pv 1)) (blkOk_by (own := [("letter", 8)]) (N := N_future_kinds) (sc := defScope s_future_kinds) (by decide +kernel)) (fun _ _ _ _ _ => (pg_name (i := 8) sc_future_kinds.nd rfl (Or.inl rfl))) (fun _ _ _ _ _ => pts_nil) (fun _ _ _ _ _ => (pe_dget2N hu (pv 5) (pe_dget1 hu (pv 2) (pe_tup (pa_cons (pv 4) (pa_cons (pv 8) pa_nil))) ⟨rfl, rfl, rfl, rfl⟩) (pe_un un_neg pe_int) ⟨rfl, rfl, rfl, rfl⟩))) pa_nil))) rfl)))
      (pss_cons (ps_set (i := 9) sc_future_kinds.nd rfl (by first | exact Or.inl rfl | exact Or.inr rfl) pe_dnewT)
      (pss_cons (ps_for PassesOwn.never rfl (pi_tup (pv 0)) (pg_name (i := 4) sc_future_kinds.nd rfl (by first | exact Or.inl rfl | exact Or.inr rfl)) (pss_one (ps_expr (pe_dsetdT hu (pv 9) (pe_dget hu (pv 7) (pv 4) (fun _ _ => rfl)) (pe_callB call_lenT (by rfl) T.f_len (by decide +kernel) (pa_cons (pv 9) pa_nil)) ⟨rfl, rfl, rfl, rfl⟩))))
      (pss_one (ps_set (i := 5) sc_future_kinds.nd rfl (by first | exact Or.inl rfl | exact Or.inr rfl) (pe_dc (own := [("p", 4)]) (g := gName 4) (tt := tYes) (by rfl) sc_future_kinds.nd (pi_tup (pv 0)) (blkOk_by (own := [("p", 4)]) (N := N_future_kinds) (sc := defScope s_future_kinds) (by decide +kernel)) (fun _ _ _ _ _ => (pg_name (i := 4) sc_future_kinds.nd rfl (Or.inl rfl))) (fun _ _ _ _ _ => pts_nil) (fun _ _ _ _ _ => (pv 4)) (fun _ _ _ _ _ => (pe_dget hu (pv 9) (pe_dget hu (pv 7) (pv 4) (fun _ _ => rfl)) (fun _ _ => rfl))))))))))))
      (pss_one (ps_ret (pv 5)))))), ?_⟩
    have nat_at : ∀ {i : Nat} {v : V}, (natsV (List.range n))[i]? = some v → i < n ∧ v = .int (i : Nat) := fun h => by
      obtain ⟨j, hj, rfl⟩ := natsV_get h
      have := (List.getElem?_eq_some_iff.mp hj)
      obtain ⟨h1, h2⟩ := this
      rw [List.length_range] at h1
      rw [List.getElem_range] at h2
      exact ⟨h1, by rw [h2]⟩
    have nlen : (natsV (List.range n)).length = n := by rw [natsV_len, List.length_range]
    refine ⟨_, rfl, pl, rfl, ⟨_, SqT.of hpl⟩, fun D D0 => ?_⟩
    refine dc_it (walk_tup (xs := natsV (List.range n))) (PD H D fun i kvs => kvs = kdK (fun p => if p ∈ en then 1 else 0) i) (PD.start D0 rfl) (fun i Hx _ h => ?_) (fun i z Hx H2 hi h hy => ?_) (fun H1 h => ?_)
    · obtain ⟨kvs, b, _⟩ := h
      exact SqT.of (b.1 _ _ hpl)
    · obtain ⟨kvs, b, rfl⟩ := h
      obtain ⟨rfl, hz⟩ := hy
      obtain ⟨hin, rfl⟩ := nat_at hz
      refine ⟨rfl, yesI ?_⟩
      refine ⟨_, rfl, _, rfl, _, rfl, ea, _, rfl, .inr (SqT.of (b.1 _ _ hea)), rfl, flat_nats en, .inr ⟨_, rfl, ?_⟩⟩
      refine PD.add (k := .inl (i : Nat)) b D0 (same_refl _) (by rw [kdK_len]; unfold sizeLine; omega) ?_
      rw [inV_nat]
      show putK _ _ _ = kdK _ (i + 1)
      rw [← kdK_put]
      congr 1
      by_cases m : i ∈ en <;> simp [m]
    · obtain ⟨kvs, b, ek⟩ := h
      rw [nlen] at ek
      subst ek
      have bse : ∀ {b : Addr} {o : HO}, H b = some o → H1 b = some o := fun e => b.1 _ _ e
      refine ⟨fun m σ H' => ∃ κ kd x4 x7 x8 x9, ∃ cv : Nat, σ = [some (.ref pl), some (.str (sOf l)), some (.ref td), some (.ref ea), x4, some (.ref kd), some (.int (cv : Nat)), x7, x8, x9] ∧ Same H H' ∧ H' kd = some (.dK (kdK κ n)) ∧ EM.Kd n ls en κ ∧
        (cv = 0 ∨ ∃ κ0, EM.Kd n ls en κ0 ∧ EM.Refd l n ls κ0 κ ∧ cv = (EM.reps n κ0).length ∧ ∀ p, p < n → κ p < n) ∧ m + cv = n, ⟨n, _, D, _, _, _, _, 0, rfl, b.1, b.2, ⟨fun p q' hp hq h => ?_, fun p q' hp hq h => ?_⟩, .inl rfl, rfl⟩, fun m σ H2 hP => ?_⟩
      · have := h []
        have : p ∈ en ↔ q' ∈ en := this
        by_cases m : p ∈ en
        · rw [if_pos m, if_pos (this.mp m)]
        · rw [if_neg m, if_neg fun z => m (this.mpr z)]
      · constructor
        · intro m
          rw [if_pos m] at h
          by_cases z : q' ∈ en
          · exact z
          · rw [if_neg z] at h; cases h
        · intro m
          rw [if_pos m] at h
          by_cases z : p ∈ en
          · exact z
          · rw [if_neg z] at h; cases h
      · obtain ⟨κ, kd, x4, x7, x8, x9, cv, rfl, s2, hkd, kk, hcv, me⟩ := hP
        have np := fm.sc.pos
        have kget : ∀ {Hx : Hp}, Same H2 Hx → ∀ p, p < n → DGet Hx kd (.int (p : Nat)) (some (.int (κ p : Nat))) := fun sx p hp => by
          have := DGet.k (k := .inl (p : Nat)) (sx _ _ hkd)
          rw [kdK_val, if_pos hp] at this
          exact this
        have cvn : cv ≤ n := by omega
        -- the number of kinds
        refine ⟨_, rfl, _, rfl, pl, rfl, ⟨_, SqT.of (s2 _ _ hpl)⟩, fun D1 D10 => ?_⟩
        refine lc_tup (xs := natsV (List.range n)) (PB H2 D1 fun i acc _ => acc = ((List.range i).map fun p => ((κ p : Nat) : Int)).map V.int) (PB.start D10 fun _ _ => rfl) (fun i Hx _ h => ?_) (fun i z Hx hz h => ?_) (fun H3 h => ?_)
        · obtain ⟨acc, b', _⟩ := h
          exact SqT.of (b'.1 _ _ (s2 _ _ hpl))
        · obtain ⟨acc, b', rfl⟩ := h
          obtain ⟨hin, rfl⟩ := nat_at hz
          refine ⟨rfl, yesI ⟨_, rfl, _, rfl, kd, _, rfl, kget b'.1 i hin, PB.add b' D10 (same_refl _) (by simp; unfold sizeLine; omega) fun H5 _ _ => ?_⟩⟩
          show _ = ((List.range (i + 1)).map _).map V.int
          rw [List.range_succ, List.map_append, List.map_append]; rfl
        · obtain ⟨acc, b', ea'⟩ := h
          rw [nlen] at ea'
          subst ea'
          refine ⟨D1, _, rfl, SqL.of b'.2, by simp; omega, fun u1 k1 es u10 nd1 mem1 len1 => ?_⟩
          have ecnt : k1 = (EM.reps n κ).length := by
            rw [← len1]
            refine reps_lenI nd1 fun k => ?_
            rw [mem1, List.mem_map]
            constructor
            · rintro ⟨p, hp, e⟩; exact ⟨p, List.mem_range.mp hp, e⟩
            · rintro ⟨p, hp, e⟩; exact ⟨p, List.mem_range.mpr hp, e⟩
          generalize e4 : upd H3 u1 _ = H4
          obtain ⟨s4, u14, f4⟩ := newE u10 e4
          refine ⟨u1, k1, rfl, .inl ⟨_, u14⟩, _, _, rfl, rfl, _, rfl, ?_⟩
          have s24 := same_trans b'.1 s4
          refine ite2 (fun h => ?_) (fun h => ?_)
          · rw [decide_eq_true_eq] at h
            refine ⟨fun σ' H' => ∃ m', m' < m ∧ ∃ κ kd x4 x7 x8 x9, ∃ cv : Nat, σ' = [some (.ref pl), some (.str (sOf l)), some (.ref td), some (.ref ea), x4, some (.ref kd), some (.int (cv : Nat)), x7, x8, x9] ∧ Same H H' ∧ H' kd = some (.dK (kdK κ n)) ∧ EM.Kd n ls en κ ∧
              (cv = 0 ∨ ∃ κ0, EM.Kd n ls en κ0 ∧ EM.Refd l n ls κ0 κ ∧ cv = (EM.reps n κ0).length ∧ ∀ p, p < n → κ p < n) ∧ m' + cv = n, fun _ _ h => h, ?_⟩
            have s04 := same_trans s2 s24
            -- count, once more
            refine ⟨_, rfl, pl, rfl, ⟨_, SqT.of (s04 _ _ hpl)⟩, fun D2 D20 => ?_⟩
            refine lc_tup (xs := natsV (List.range n)) (PB H4 D2 fun i acc _ => acc = ((List.range i).map fun p => ((κ p : Nat) : Int)).map V.int) (PB.start D20 fun _ _ => rfl) (fun i Hx _ h => ?_) (fun i z Hx hz h => ?_) (fun H5 h => ?_)
            · obtain ⟨acc, b5, _⟩ := h
              exact SqT.of (b5.1 _ _ (s04 _ _ hpl))
            · obtain ⟨acc, b5, rfl⟩ := h
              obtain ⟨hin, rfl⟩ := nat_at hz
              refine ⟨rfl, yesI ⟨_, rfl, _, rfl, kd, _, rfl, kget (same_trans s24 b5.1) i hin, PB.add b5 D20 (same_refl _) (by simp; unfold sizeLine; omega) fun H6 _ _ => ?_⟩⟩
              show _ = ((List.range (i + 1)).map _).map V.int
              rw [List.range_succ, List.map_append, List.map_append]; rfl
            · obtain ⟨acc, b5, ea'⟩ := h
              rw [nlen] at ea'
              subst ea'
              refine ⟨D2, _, rfl, SqL.of b5.2, by simp; omega, fun u2 k2 es2 u20 nd2 mem2 len2 => ?_⟩
              have ecnt2 : k2 = (EM.reps n κ).length := by
                rw [← len2]
                refine reps_lenI nd2 fun k => ?_
                rw [mem2, List.mem_map]
                constructor
                · rintro ⟨p, hp, e⟩; exact ⟨p, List.mem_range.mp hp, e⟩
                · rintro ⟨p, hp, e⟩; exact ⟨p, List.mem_range.mpr hp, e⟩
              generalize e6 : upd H5 u2 _ = H6
              obtain ⟨s6, u26, f6⟩ := newE u20 e6
              refine ⟨u2, k2, rfl, .inl ⟨_, u26⟩, ?_⟩
              have s26 := same_trans s24 (same_trans b5.1 s6)
              have s06 := same_trans s2 s26
              -- signs
              refine fun sg sg0 => ?_
              generalize e7 : upd H6 sg _ = H7
              obtain ⟨s7, sg7, f7⟩ := newE sg0 e7
              have s27 := same_trans s26 s7
              have s07 := same_trans s06 s7
              refine ⟨_, rfl, pl, rfl, ⟨_, SqT.of (s07 _ _ hpl)⟩, ?_⟩
              refine for_tup (xs := natsV (List.range n)) (fun i σ H' => ∃ x4 x8 kvs, σ = [some (.ref pl), some (.str (sOf l)), some (.ref td), some (.ref ea), x4, some (.ref kd), some (.int (k2 : Nat)), some (.ref sg), x8, x9] ∧ Same H6 H' ∧ H' sg = some (.dK kvs) ∧ SgOk l ls κ H' kvs i) ?_ (fun i σ H' _ hI => ?_) (fun i v σ H8 hv hI => ?_) (fun σ H8 hI => ?_)
              · exact ⟨_, _, [], rfl, s7, sg7, by simp, fun p hp => by omega⟩
              · obtain ⟨_, _, _, rfl, sm, _⟩ := hI
                exact SqT.of (sm _ _ (s06 _ _ hpl))
              · obtain ⟨y4, y8, kvs, rfl, s8, sg8, so⟩ := hI
                obtain ⟨hin, rfl⟩ := nat_at hv
                have s28 := same_trans s26 s8
                refine ⟨_, rfl, _, rfl, kd, _, rfl, kget s28 i hin, (by show 1 ≤ sizeLine; decide), fun a a0 => ?_⟩
                generalize e9 : upd H8 a _ = H9
                obtain ⟨s9, a9, f9⟩ := newE a0 e9
                have s29 := same_trans s28 s9
                have s09 := same_trans s2 s29
                refine ⟨_, rfl, _, rfl, fun D3 D30 => ?_⟩
                refine lc_it (walk_str (z := sOf l)) (PB H9 D3 fun t acc _ => acc = (((l.take t).map fun c => match EM.tg ls i c with | some q => (κ q : Int) | none => -1) : List Int).map V.int) (PB.start D30 fun _ _ => rfl) (fun _ _ _ _ => trivial) (fun t z H10 H11 ht hPB hy => ?_) (fun H10 hPB => ?_)
                · obtain ⟨rfl, c, hc, rfl⟩ := hy
                  obtain ⟨acc, b', rfl⟩ := hPB
                  rw [sOf_get] at hc
                  rw [sOf_size] at ht
                  refine ⟨rfl, yesI ?_⟩
                  refine ⟨_, rfl, kd, rfl, .inl ⟨_, .inl (b'.1 _ _ (s29 _ _ hkd))⟩, _, rfl, td, rfl, .inr ⟨_, .inl (b'.1 _ _ (s09 _ _ htd))⟩, _, rfl, _, rfl, (by show 2 ≤ sizeLine; decide), fun b0 b00 => ?_⟩
                  generalize e12 : upd H11 b0 _ = H12
                  obtain ⟨s12, b12, f12⟩ := newE b00 e12
                  have s9c := same_trans b'.1 s12
                  refine ⟨_, DGet.t (k := [.inl (i : Nat), .inr (sOf [c])]) (s9c _ _ (s09 _ _ htd)) b12, ?_⟩
                  rw [tgK_val]
                  have fin : ∀ v : Int, v = (match EM.tg ls i c with | some q => (κ q : Int) | none => -1) → ∃ acc', H12 D3 = some (.lst acc') ∧ acc'.length < sizeLine ∧ PB H9 D3 (fun t acc _ => acc = (((l.take t).map fun c => match EM.tg ls i c with | some q => (κ q : Int) | none => -1) : List Int).map V.int) (t + 1) (upd H12 D3 (.lst (acc' ++ [.int v]))) := by
                    intro v ev
                    refine PB.add b' D30 s12 (by simp; unfold sizeLine; omega) fun H13 _ _ => ?_
                    rw [List.take_succ, hc, ev, List.map_append, List.map_append]; rfl
                  refine ⟨_, rfl, ?_⟩
                  cases et : EM.tg ls i c with
                  | none => exact .inr ⟨rfl, ⟨_, .inl (s9c _ _ (s29 _ _ hkd))⟩, fin (-1) (by rw [et])⟩
                  | some q' =>
                    have qn : q' < n := (fm.sc.bnd _ ((EM.tg_some fm.sc.srt).mp et)).2.2
                    exact .inl ⟨_, kget (same_trans s29 s9c) q' qn, fin (κ q' : Nat) (by rw [et])⟩
                · obtain ⟨acc, b', ea'⟩ := hPB
                  have ea' : acc = (((l.take (sOf l).cps.size).map fun c => match EM.tg ls i c with | some q => (κ q : Int) | none => -1) : List Int).map V.int := ea'
                  rw [sOf_size, List.take_length] at ea'
                  subst ea'
                  refine ⟨D3, _, rfl, .inl ⟨SqL.of b'.2, fun t t0 => ?_⟩⟩
                  generalize e13 : upd H10 t _ = H13
                  obtain ⟨s13, t13, f13⟩ := newE t0 e13
                  have s8d := same_trans s9 (same_trans b'.1 s13)
                  have sgd := s8d _ _ sg8
                  have fin : ∀ (r : Addr) (Hy : Hp), Same H13 Hy → Hy r = some (.tup ((sgn l ls κ i).map V.int)) → ∃ a' H', V.ref sg = .ref a' ∧ DPut Hy a' (.int (i : Nat)) (.ref r) H' ∧ ∃ x4 x8 kvs, [some (.ref pl), some (.str (sOf l)), some (.ref td), some (.ref ea), some (.int (i : Nat)), some (.ref kd), some (.int (k2 : Nat)), some (.ref sg), y8, x9] = [some (.ref pl), some (.str (sOf l)), some (.ref td), some (.ref ea), x4, some (.ref kd), some (.int (k2 : Nat)), some (.ref sg), x8, x9] ∧ Same H6 H' ∧ H' sg = some (.dK kvs) ∧ SgOk l ls κ H' kvs (i + 1) := by
                    intro r Hy sy hr'
                    have sgy := sy _ _ sgd
                    refine ⟨sg, _, rfl, DPut.k (k := .inl (i : Nat)) sgy (by have := so.1; unfold sizeLine; omega), _, _, _, rfl, fun b o e => ?_, upd_same, Nat.le_trans (putK_len _ _ _) (by have := so.1; omega), fun p hp => ?_⟩
                    · rw [upd_ne (ne_of_none e sg0)]
                      exact sy _ _ (s8d _ _ (s8 _ _ e))
                    · have tupk : ∀ {b : Addr} {xs : List V}, Hy b = some (.tup xs) → (upd Hy sg (.dK (putK kvs (.inl (i : Nat)) (.ref r)))) b = some (.tup xs) := fun e => by
                        rw [upd_ne fun z => by rw [z, sgy] at e; cases e]; exact e
                      by_cases z : p = i
                      · subst z
                        exact ⟨r, by rw [valV_put, if_pos rfl], tupk hr'⟩
                      · obtain ⟨a', h1, h2⟩ := so.2 p (by omega)
                        exact ⟨a', by rw [valV_put, if_neg fun y => z (inl_inj.mp y)]; exact h1, tupk (sy _ _ (s8d _ _ h2))⟩
                  refine ⟨a, t, _, _, rfl, rfl, SqT.of (b'.1 _ _ a9 |> s13 _ _), SqT.of t13, by simp; unfold sizeLine; omega, fun z => (by cases z), fun _ hnil => ?_, fun _ _ r r0 => ?_⟩
                  · refine ⟨_, rfl, _, rfl, fin a H13 (same_refl _) ?_⟩
                    have e0 : sgn l ls κ i = [(κ i : Int)] := by
                      unfold sgn
                      have : (l.map fun c => match EM.tg ls i c with | some q => (κ q : Int) | none => -1) = [] := by simpa using hnil
                      rw [this]
                    rw [e0]
                    exact s13 _ _ (b'.1 _ _ a9)
                  · generalize e14 : upd H13 r _ = H14
                    obtain ⟨s14, r14, f14⟩ := newE r0 e14
                    exact ⟨_, rfl, _, rfl, fin r H14 s14 r14⟩
              · obtain ⟨y4, y8, kvs, rfl, s8, sg8, so⟩ := hI
                rw [nlen] at so
                have s08 := same_trans s06 s8
                refine fun nm nm0 => ?_
                generalize e9 : upd H8 nm _ = H9
                obtain ⟨s9, nm9, f9⟩ := newE nm0 e9
                have s09 := same_trans s08 s9
                have sgn9 := s9 _ _ sg8
                refine ⟨_, rfl, pl, rfl, ⟨_, SqT.of (s09 _ _ hpl)⟩, ?_⟩
                refine for_tup (xs := natsV (List.range n)) (fun i σ H' => ∃ x4 kvs' D', σ = [some (.ref pl), some (.str (sOf l)), some (.ref td), some (.ref ea), x4, some (.ref kd), some (.int (k2 : Nat)), some (.ref sg), y8, some (.ref nm)] ∧ Same H8 H' ∧ H' nm = some (.dT kvs') ∧ NmOk l ls κ kvs' D' i) ?_ (fun i σ H' _ hI => ?_) (fun i v σ H10 hv hI => ?_) (fun σ H10 hI => ?_)
                · exact ⟨_, [], [], rfl, s9, nm9, rfl, List.nodup_nil, Nat.le_refl _, fun s => by simp, fun s => rfl⟩
                · obtain ⟨_, _, _, rfl, sm, _⟩ := hI
                  exact SqT.of (sm _ _ (s08 _ _ hpl))
                · obtain ⟨y4', kvs', D', rfl, s10, nm10, no⟩ := hI
                  obtain ⟨hin, rfl⟩ := nat_at hv
                  obtain ⟨a, ha1, ha2⟩ := so.2 i hin
                  have sg10 := s10 _ _ sg8
                  have ha10 := s10 _ _ ha2
                  obtain ⟨no1, no2, no3, no4, no5⟩ := no
                  have dg : DGet H10 sg (.int (i : Nat)) (some (.ref a)) := by
                    have := DGet.k (k := .inl (i : Nat)) sg10
                    rw [ha1] at this
                    exact this
                  refine ⟨_, rfl, nm, rfl, .inr ⟨_, .inl nm10⟩, _, rfl, _, rfl, sg, _, rfl, dg, _, rfl, nm, _, rfl, nm10, kvs', kI' (sgn l ls κ i), a, nm10, rfl, by rw [kI'_V]; exact ha10, by unfold sizeLine; omega, fun v hv' => ?_, fun hv' => ?_⟩
                  · have hin' : sgn l ls κ i ∈ D' := by
                      rw [no5] at hv'
                      unfold ixV at hv'
                      split at hv'
                      · assumption
                      · cases hv'
                    refine ⟨_, kvs', D', rfl, s10, nm10, no1, no2, by omega, fun s => ?_, no5⟩
                    rw [no4]
                    constructor
                    · rintro ⟨p, hp, e⟩; exact ⟨p, by omega, e⟩
                    · rintro ⟨p, hp, e⟩
                      by_cases z : p = i
                      · subst z; exact (no4 s).mp (e ▸ hin')
                      · exact ⟨p, by omega, e⟩
                  · have nin : sgn l ls κ i ∉ D' := fun m => by
                      rw [no5] at hv'
                      unfold ixV at hv'
                      rw [if_pos m] at hv'; cases hv'
                    generalize e11 : upd H10 nm _ = H11
                    obtain ⟨nm11, f11⟩ := putE e11
                    refine ⟨_, _, D' ++ [sgn l ls κ i], rfl, fun b o e => (f11 b (ne_of_none e nm0)).trans (s10 _ _ e), nm11, ?_, ?_, by rw [List.length_append, List.length_singleton]; omega, fun s => ?_, fun s => ?_⟩
                    · rw [putK_new _ hv', List.length_append, List.length_append, no1]; rfl
                    · exact List.nodup_append.mpr ⟨no2, by simp, fun x hx y hy e => nin (by rw [List.mem_singleton] at hy; rw [← hy, ← e]; exact hx)⟩
                    · rw [List.mem_append, no4, List.mem_singleton]
                      constructor
                      · rintro (⟨p, hp, e⟩ | e)
                        · exact ⟨p, by omega, e⟩
                        · exact ⟨i, by omega, e.symm⟩
                      · rintro ⟨p, hp, e⟩
                        by_cases z : p = i
                        · subst z; exact .inr e.symm
                        · exact .inl ⟨p, by omega, e⟩
                    · rw [valV_put, ixV_snoc nin]
                      by_cases z : s = sgn l ls κ i
                      · rw [if_pos (kI'_inj.mpr z), if_pos z, no1]
                      · rw [if_neg fun y => z (kI'_inj.mp y), if_neg z, no5]
                · obtain ⟨y4', kvs', D', rfl, s10, nm10, no1, no2, no3, no4, no5⟩ := hI
                  rw [nlen] at no3 no4
                  have s0a := same_trans s08 s10
                  have inD : ∀ p, p < n → sgn l ls κ p ∈ D' := fun p hp => (no4 _).mpr ⟨p, hp, rfl⟩
                  -- the new kinds
                  refine ⟨_, rfl, pl, rfl, ⟨_, SqT.of (s0a _ _ hpl)⟩, fun D5 D50 => ?_⟩
                  refine dc_it (walk_tup (xs := natsV (List.range n))) (PD H10 D5 fun i kvs => kvs = kdK (fun p => ixP D' (sgn l ls κ p)) i) (PD.start D50 rfl) (fun i Hx _ h => ?_) (fun i z Hx H12 hi h hy => ?_) (fun H11 h => ?_)
                  · obtain ⟨kvs, b', _⟩ := h
                    exact SqT.of (b'.1 _ _ (s0a _ _ hpl))
                  · obtain ⟨kvs5, b', rfl⟩ := h
                    obtain ⟨rfl, hz⟩ := hy
                    obtain ⟨hin, rfl⟩ := nat_at hz
                    obtain ⟨a, ha1, ha2⟩ := so.2 i hin
                    have dg : DGet H12 sg (.int (i : Nat)) (some (.ref a)) := by
                      have := DGet.k (k := .inl (i : Nat)) (b'.1 _ _ (s10 _ _ sg8))
                      rw [ha1] at this
                      exact this
                    have dn : DGet H12 nm (.ref a) (some (.int (ixP D' (sgn l ls κ i) : Nat))) := by
                      have := DGet.t (k := kI' (sgn l ls κ i)) (b := a) (b'.1 _ _ nm10) (by rw [kI'_V]; exact b'.1 _ _ (s10 _ _ ha2))
                      rw [no5] at this
                      unfold ixV at this
                      rw [if_pos (inD i hin)] at this
                      exact this
                    refine ⟨rfl, yesI ?_⟩
                    refine ⟨_, rfl, _, rfl, _, rfl, _, rfl, sg, _, rfl, dg, nm, _, rfl, dn, ?_⟩
                    refine PD.add (k := .inl (i : Nat)) b' D50 (same_refl _) (by rw [kdK_len]; unfold sizeLine; omega) ?_
                    exact kdK_put (fun p => ixP D' (sgn l ls κ p)) i
                  · obtain ⟨kvs5, b', ek⟩ := h
                    rw [nlen] at ek
                    subst ek
                    have rf : EM.Refd l n ls κ (fun p => ixP D' (sgn l ls κ p)) := fun p q' hp hq => by
                      rw [← sgn_eq]
                      constructor
                      · intro e
                        have e : ixP D' (sgn l ls κ p) = ixP D' (sgn l ls κ q') := e
                        rw [← ixP_get (inD p hp), ← ixP_get (inD q' hq)]
                        congr 1
                      · intro e
                        show ixP D' _ = ixP D' _
                        rw [e]
                    have le2 := EM.reps_le (n := n) (κ := κ)
                    refine ⟨m - (k2 - cv), by omega, _, D5, _, _, _, _, k2, rfl, same_trans s0a b'.1, b'.2, kk.ref fm rf, .inr ⟨κ, kk, rf, ecnt2, fun p hp => ?_⟩, ?_⟩
                    · have := ixP_lt (inD p hp)
                      show ixP D' _ < n
                      omega
                    · have := EM.reps_le (n := n) (κ := κ)
                      omega
          · rw [decide_eq_true_eq] at h
            have h1 : 1 ≤ (EM.reps n κ).length := by
              have : 0 ∈ EM.reps n κ := EM.mem_reps.mpr ⟨np, fun q hq => by omega⟩
              exact List.length_pos_of_mem this
            rcases hcv with z | ⟨κ0, kk0, rf, ecv, kb⟩
            · omega
            · exact ⟨_, rfl, q kd κ H4 (same_trans s2 s24) (s24 _ _ hkd) (fun p q' hp hq => kk0.final fm rf (by omega) hp hq) kb⟩
end
end E

set_option autoImplicit true
set_option maxHeartbeats 4000000
set_option Elab.async false
set_option linter.all false
set_option maxRecDepth 100000
set_option maxHeartbeats 4000000
/-! The least form. -/
namespace E
open PySem PySem.Spec PyProof.Rows L2
section
variable {P : Program} {w : World} {K : PySem.W.Frag} {mg : Str → Option Value} {base : Heap}
def spLeast (K : PySem.W.Frag) : Sp := fun vs H Q _ => ∃ (o pl td ea : Addr) (l : List Nat) (n : Nat) (ls : List EM.Lane) (en : List Nat), vs = [.ref o, .ref pl, .ref td, .ref ea] ∧ OrAt K H o l ∧ LetOk l ∧ l.length ≤ 5 ∧ H pl = some (.tup (natsV (List.range n))) ∧ H td = some (.dT (tgK ls)) ∧ H ea = some (.tup (natsV en)) ∧
  EM.Form l n ls en ∧ n ≤ 300 ∧ ls.length ≤ 1500 ∧ ∀ t n' ls' en' H', Same H H' → EM.Form l n' ls' en' → EM.Red n' ls' en' → (∀ w, EM.Fu ls' en' w 0 ↔ EM.Fu ls en w 0) → n' ≤ 300 → ls'.length ≤ 1500 → UfAt H' t ls' en' → Q (.ref t) H'
theorem kk2 (k c : Nat) : ([.inl (k : Nat), .inr (sOf [c])] : List Key).map kV = [.int (k : Nat), .str (sOf [c])] := rfl
theorem ok_least (T : Tx K mg) (hk : Ok P w K mg base 1 (He.ga K "future_kinds") ["places", "letters", "targets", "ends"] spKinds) (hf : Ok P w K mg base 2 (He.ga K "useful_form") ["order", "start", "table", "ends"] (spUseful K (kI P w))) :
    Ok P w K mg base 3 (He.ga K "least_form") ["order", "places", "targets", "ends"] (spLeast K) := by
  obtain ⟨_, F_future_kinds, b_future_kinds, k_future_kinds⟩ := hk
  obtain ⟨_, F_useful_form, b_useful_form, k_useful_form⟩ := hf
  refine ok_mk T.fn_least_form sc_least_form (fun _ _ _ _ _ _ us hl => match us, hl with | [_, _, _, _], _ => rfl) (fun vs H Q E h => ?_) (fun cdv A outer s H vs Q E hr h => ?_)
  · obtain ⟨o, pl, td, ea, l, n, ls, en, rfl, _⟩ := h
    rfl
  · obtain ⟨o, pl, td, ea, l, n, ls, en, rfl, ho, lok, l5, hpl, htd, hea, fm, n3, lsl, q⟩ := h
    have hu := hu_of hr
    have hr1 := hr.mono (show 1 ≤ 2 by omega)
    obtain ⟨dxo, rk, hoi, hrk⟩ := id ho
    refine ⟨_, (pss_cons (ps_set (i := 4) sc_least_form.nd rfl (by first | exact Or.inl rfl | exact Or.inr rfl) (pe_call F_future_kinds hr1 rfl T.g_future_kinds k_future_kinds b_future_kinds .nil pass0 (pa_cons (pv 1) (pa_cons (pe_fld (pv 0) rfl) (pa_cons (pv 2) (pa_cons (pv 3) pa_nil))))))
      (pss_cons (ps_lock (ps_setDcT hu (i := 8) (own := [("p", 5), ("letter", 6), ("q", 7)])  (tt := tYes) (by rfl) sc_least_form.nd rfl rfl (swD_true rfl rfl rfl (by decide +kernel)) (pi_itemsT (pv 2)) (blkOk_by (own := [("p", 5), ("letter", 6), ("q", 7)]) (N := N_least_form) (sc := defScope s_least_form) (by decide +kernel)) (fun _ _ _ _ _ => (pg_tupK (n := 2) rfl (by rfl) (pgs_cons (pg_tupK (n := 2) rfl (by rfl) (pgs_cons (pg_name (i := 5) sc_least_form.nd rfl (Or.inl rfl)) (pgs_cons (pg_name (i := 6) sc_least_form.nd rfl (Or.inl rfl)) pgs_nil))) (pgs_cons (pg_name (i := 7) sc_least_form.nd rfl (Or.inl rfl)) pgs_nil)))) (fun _ _ _ _ _ => pts_nil) (fun _ _ _ _ _ => (pe_tup (pa_cons (pe_dget hu (pv 4) (pv 5) (fun _ _ => rfl)) (pa_cons (pv 6) pa_nil)))) (fun _ _ _ _ _ => (pe_dget hu (pv 4) (pv 7) (fun _ _ => rfl)))))
      (pss_one (ps_ret (pe_call F_useful_form hr rfl T.g_useful_form k_useful_form b_useful_form .nil pass0 (pa_cons (pv 0) (pa_cons (pe_dget hu (pv 4) pe_int (fun _ _ => rfl)) (pa_cons (pv 8) (pa_cons (pe_dc (own := [("end", 9)]) (g := gName 9) (tt := tYes) (by rfl) sc_least_form.nd (pi_tup (pv 3)) (blkOk_by (own := [("end", 9)]) (N := N_least_form) (sc := defScope s_least_form) (by decide +kernel)) (fun _ _ _ _ _ => (pg_name (i := 9) sc_least_form.nd rfl (Or.inl rfl))) (fun _ _ _ _ _ => pts_nil) (fun _ _ _ _ _ => (pe_dget hu (pv 4) (pv 9) (fun _ _ => rfl))) (fun _ _ _ _ _ => pe_bl)) pa_nil))))))))), ?_⟩
    refine ⟨_, rfl, _, rfl, o, _, dxo, _, _, rfl, hoi, T.c_Order, T.n_Order_letters, rfl, _, rfl, _, rfl, pl, td, ea, l, n, ls, en, rfl, hpl, htd, hea, fm, n3, l5, fun kd κ H1 s1 hkd hκ hκn => ?_⟩
    have np := fm.sc.pos
    have htd1 := s1 _ _ htd
    have nkd : kd ≠ td := fun z => by rw [z, htd1] at hkd; cases hkd
    refine ⟨td, _, htd1, trivial, fun od => ?_⟩
    generalize e2 : upd H1 td _ = H2
    obtain ⟨td2, f2⟩ := putE e2
    have kget : ∀ {Hx : Hp}, (∀ o, H2 kd = some o → Hx kd = some o) → ∀ p, p < n → DGet Hx kd (.int (p : Nat)) (some (.int (κ p : Nat))) := fun sx p hp => by
      have := DGet.k (k := .inl (p : Nat)) (sx _ ((f2 kd nkd).trans hkd))
      rw [kdK_val, if_pos hp] at this
      exact this
    have tlen : (tgK ls).length = ls.length := by simp [tgK]
    refine ⟨_, rfl, td, od, _, rfl, td2, fun D D0 => ?_⟩
    have nDt : D ≠ td := fun z => by rw [z, td2] at D0; cases D0
    refine dcT_it walk_pairs (fun i Hx => Same H2 Hx ∧ ∃ kvs, Hx D = some (.dT kvs) ∧ kvs.length ≤ i ∧ ∀ s c : Nat, (∀ v, valV kvs [.inl (s : Nat), .inr (sOf [c])] = some v → ∃ p q, (p, c, q) ∈ ls.take i ∧ κ p = s ∧ v = .int (κ q : Nat)) ∧ ((∃ p q, (p, c, q) ∈ ls.take i ∧ κ p = s) → (valV kvs [.inl (s : Nat), .inr (sOf [c])]).isSome = true)) ?_ (fun i Hx _ h => ?_) (fun i z Hx H3 hi h hy => ?_) (fun H3 h => ?_)
    · refine ⟨Same.up D0, [], upd_same, Nat.le_refl _, fun s c => ⟨fun v h => (by cases h), fun ⟨p, q', m, _⟩ => (by simp at m)⟩⟩
    · exact h.1 _ _ td2
    · obtain ⟨sx, kvs, hD, kl, kc⟩ := h
      obtain ⟨Tp, x, y, rfl, T0, rfl, key, qa, hk', rfl, hqa⟩ := hy
      rw [tlen] at hi
      have hli := List.getElem?_eq_getElem hi
      obtain ⟨ek, ey⟩ : key = [.inl ((ls[i].1 : Nat) : Int), .inr (sOf [ls[i].2.1])] ∧ y = .int (ls[i].2.2 : Nat) := by
        unfold tgK at hk'
        rw [List.getElem?_map, hli] at hk'
        cases hk'
        exact ⟨rfl, rfl⟩
      subst ek ey
      obtain ⟨b1, b2, b3⟩ := fm.sc.bnd _ (List.getElem_mem hi)
      generalize e4 : upd Hx Tp _ = H4
      obtain ⟨s4, T4, f4⟩ := newE T0 e4
      have sx4 := same_trans sx s4
      refine ⟨Tp, _, rfl, SqT.of T4, rfl, _, _, rfl, ⟨qa, _, rfl, SqT.of (s4 _ _ hqa), rfl, _, _, rfl, _, _, rfl, rfl, _, _, rfl, rfl, ?_⟩⟩
      have kd4 : ∀ o, H2 kd = some o → H4 kd = some o := fun o e => sx4 _ _ e
      refine ⟨rfl, yesI ?_⟩
      refine ⟨_, rfl, _, rfl, kd, _, rfl, kget kd4 _ b1, _, rfl, (by show 2 ≤ sizeLine; decide), fun a a0 => ?_⟩
      generalize e5 : upd H4 a _ = H5
      obtain ⟨s5, a5, f5⟩ := newE a0 e5
      have hD5 := s5 _ _ (s4 _ _ hD)
      refine ⟨_, rfl, _, rfl, kd, _, rfl, kget (fun o e => s5 _ _ (kd4 o e)) _ b3, kvs, [.inl ((κ ls[i].1 : Nat) : Int), .inr (sOf [ls[i].2.1])], a, rfl, a5, hD5, by unfold sizeLine; omega, ?_⟩
      have tk : ls.take (i + 1) = ls.take i ++ [ls[i]] := by rw [List.take_succ, hli]; rfl
      refine ⟨fun b o e => ?_, _, upd_same, Nat.le_trans (putK_len _ _ _) (by omega), fun s c => ?_⟩
      · rw [upd_ne (ne_of_none e D0)]
        exact s5 _ _ (sx4 _ _ e)
      · rw [valV_put, tk]
        by_cases z : ([.inl (s : Int), .inr (sOf [c])] : List Key) = [.inl ((κ ls[i].1 : Nat) : Int), .inr (sOf [ls[i].2.1])]
        · rw [if_pos z]
          obtain ⟨z1, z2⟩ := tgKey.mp z
          refine ⟨fun v hv => ?_, fun _ => rfl⟩
          cases hv
          exact ⟨ls[i].1, ls[i].2.2, by rw [z2]; exact List.mem_append.mpr (.inr (List.mem_singleton.mpr rfl)), z1.symm, rfl⟩
        · rw [if_neg z]
          refine ⟨fun v hv => ?_, fun hm => ?_⟩
          · obtain ⟨p, q', m, h1, h2⟩ := (kc s c).1 v hv
            exact ⟨p, q', List.mem_append.mpr (.inl m), h1, h2⟩
          · obtain ⟨p, q', m, h1⟩ := hm
            refine (kc s c).2 ⟨p, q', ?_, h1⟩
            rcases List.mem_append.mp m with m | m
            · exact m
            · exfalso
              rw [List.mem_singleton] at m
              refine z (tgKey.mpr ⟨?_, ?_⟩)
              · rw [← m]; exact h1.symm
              · rw [← m]
    · obtain ⟨sx, kvs, hD, kl, kc⟩ := h
      rw [tlen] at kl kc
      rw [List.take_length] at kc
      have td3 := sx _ _ td2
      refine ⟨td3, ?_⟩
      have nDt' : D ≠ td := nDt
      generalize e6 : upd H3 td _ = H6
      obtain ⟨td6, f6⟩ := putE e6
      have s16 : Same H1 H6 := fun b o e => by
        by_cases z : b = td
        · subst z
          rw [htd1] at e; cases e
          exact td6
        · exact (f6 b z).trans (sx _ _ ((f2 b z).trans e))
      have s06 := same_trans s1 s16
      have hD6 := (f6 D nDt).trans hD
      have hkd6 := s16 _ _ hkd
      have kget6 : ∀ {Hx : Hp}, Same H6 Hx → ∀ p, p < n → DGet Hx kd (.int (p : Nat)) (some (.int (κ p : Nat))) := fun sy p hp => by
        have := DGet.k (k := .inl (p : Nat)) (sy _ _ hkd6)
        rw [kdK_val, if_pos hp] at this
        exact this
      -- the table, told
      have wd : ∀ p q' p' q'' c, (p, c, q') ∈ ls → (p', c, q'') ∈ ls → κ p = κ p' → κ q' = κ q'' := by
        intro p q' p' q'' c m1 m2 e
        have b1 := fm.sc.bnd _ m1
        have b2 := fm.sc.bnd _ m2
        have fe := (hκ p p' b1.1 b2.1).mp e
        refine (hκ q' q'' b1.2.2 b2.2.2).mpr fun w => ?_
        rw [← EM.fut_step fm.sc.srt m1, ← EM.fut_step fm.sc.srt m2]
        exact fe _
      let δ : Nat → Nat → Option Nat := fun s c => match valV kvs [.inl (s : Nat), .inr (sOf [c])] with
        | some (.int j) => some j.toNat
        | _ => none
      have hδ : EM.Quo ls κ δ := by
        intro s c m
        show (match valV kvs [.inl (s : Nat), .inr (sOf [c])] with
          | some (.int j) => some j.toNat
          | _ => none) = some m ↔ _
        constructor
        · intro h
          cases hv : valV kvs [.inl (s : Nat), .inr (sOf [c])] with
          | none => rw [hv] at h; cases h
          | some v =>
            obtain ⟨p, q', m1, h1, h2⟩ := (kc s c).1 v hv
            rw [hv, h2] at h
            refine ⟨p, q', m1, h1, ?_⟩
            simpa using h
        · rintro ⟨p, q', m1, h1, h2⟩
          obtain ⟨v, hv⟩ := Option.isSome_iff_exists.mp ((kc s c).2 ⟨p, q', m1, h1⟩)
          obtain ⟨p', q'', m2, h3, h4⟩ := (kc s c).1 v hv
          rw [hv, h4]
          show some _ = some m
          have := wd p' q'' p q' c m2 m1 (h3.trans h1.symm)
          rw [this, h2]; simp
      have htab : (kI P w).Tab H6 D δ := ⟨kvs, hD6, fun s c => by
        show _ = (match valV kvs [.inl (s : Nat), .inr (sOf [c])] with
          | some (.int j) => some j.toNat
          | _ => none).map _
        cases hv : valV kvs [.inl (s : Nat), .inr (sOf [c])] with
        | none => rfl
        | some v =>
          obtain ⟨p, q', m1, h1, h2⟩ := (kc s c).1 v hv
          rw [h2]; rfl⟩
      -- the call
      refine ⟨_, rfl, _, rfl, kd, _, rfl, kget6 (same_refl _) 0 np, _, rfl, _, rfl, ea, rfl, ⟨_, SqT.of (s06 _ _ hea)⟩, fun D2 D20 => ?_⟩
      refine dc_it (walk_tup (xs := natsV en)) (PD H6 D2 fun i kvs => kvs.length ≤ i ∧ ∀ s : Nat, ((valV kvs (.inl (s : Nat))).isSome = true ↔ ∃ e, e ∈ en.take i ∧ κ e = s)) (PD.start D20 ⟨Nat.le_refl _, fun s => by simp [valV_nil]⟩) (fun i Hx _ h => ?_) (fun i z Hx H7 hi h hy => ?_) (fun H7 h => ?_)
      · obtain ⟨kv2, b, _⟩ := h
        exact SqT.of (b.1 _ _ (s06 _ _ hea))
      · obtain ⟨kv2, b, kl2, kc2⟩ := h
        obtain ⟨rfl, hz⟩ := hy
        obtain ⟨e, he, rfl⟩ := natsV_get hz
        have en' : e < n := fm.enb e (List.mem_of_getElem? he)
        have enl := nodup_le (m := n) (EM.nodup_of_lt fm.ens) fun a ha => by have := fm.enb a ha; omega
        rw [natsV_len] at hi
        refine ⟨rfl, yesI ?_⟩
        refine ⟨_, rfl, _, rfl, kd, _, rfl, kget6 b.1 e en', ?_⟩
        refine PD.add (k := .inl ((κ e : Nat) : Int)) b D20 (same_refl _) (by unfold sizeLine; omega) ⟨Nat.le_trans (putK_len _ _ _) (by omega), fun s => ?_⟩
        rw [valV_put, List.take_succ, he]
        by_cases z : s = κ e
        · rw [if_pos (by rw [z])]
          exact ⟨fun _ => ⟨e, by simp, z.symm⟩, fun _ => rfl⟩
        · rw [if_neg fun y => z (inl_inj.mp y), kc2]
          constructor
          · rintro ⟨a, m, h⟩; exact ⟨a, List.mem_append.mpr (.inl m), h⟩
          · rintro ⟨a, m, h⟩
            rcases List.mem_append.mp m with m | m
            · exact ⟨a, m, h⟩
            · have : a = e := by simpa using m
              exact absurd (this ▸ h.symm) z
      · obtain ⟨kv2, b, kl2, kc2⟩ := h
        rw [natsV_len, List.take_length] at kc2
        have s07 := same_trans s06 b.1
        have hfin : ∀ k, (fun k => ∃ e, e ∈ en ∧ κ e = k) k ↔ ∃ e, e ∈ en ∧ κ e = k := fun _ => Iff.rfl
        have hA : ∀ s c t, δ s c = some t → c ∈ l := fun s c t e => by
          obtain ⟨p, q', m, _⟩ := (hδ _ _ _).mp e
          exact (fm.sc.bnd _ m).2.1
        refine ⟨o, D, D2, .int (κ 0 : Nat), l, δ, fun k => ∃ e, e ∈ en ∧ κ e = k, κ 0, (List.range n).map κ, rfl, ho.mono s07, lok, l5, rfl, (kI P w).tsame b.1 htab, ⟨kv2, b.2, kc2⟩, List.mem_map.mpr ⟨0, List.mem_range.mpr np, rfl⟩, fun s c t hs e => ?_, Nat.le_trans (Nat.le_of_eq (show ((List.range n).map κ).length = n by simp)) n3, hA, fun s hs => ?_, fun t S ls' en' H8 s8 fs clo hU e1 e2 e3 Sl ll uf => ?_⟩
        · obtain ⟨p, q', m, _, h2⟩ := (hδ _ _ _).mp e
          exact List.mem_map.mpr ⟨q', List.mem_range.mpr (fm.sc.bnd _ m).2.2, h2⟩
        · obtain ⟨p, hp, rfl⟩ := List.mem_map.mp hs
          obtain ⟨w', hw'⟩ := fm.use p (List.mem_range.mp hp)
          exact ⟨w', (EM.quo_fut fm hκ hδ hfin w' p (List.mem_range.mp hp)).mpr hw'⟩
        · have hS : ∀ s, s ∈ S → ∃ p, p < n ∧ s = κ p := fun s hs => by
            obtain ⟨p, hp, e⟩ := List.mem_map.mp (hU s hs)
            exact ⟨p, List.mem_range.mp hp, e.symm⟩
          obtain ⟨g1, g2, g3⟩ := EM.least_ok fm hκ hδ hfin fs hS clo e1 e2 e3
          exact q t S.length ls' en' H8 (same_trans s07 s8) g1 g2 g3 Sl ll uf
end
end E

set_option autoImplicit true
set_option maxHeartbeats 4000000
set_option Elab.async false
set_option linter.all false
set_option maxRecDepth 100000
set_option maxHeartbeats 4000000
/-! Machines: frozen lanes and ends, steps. -/
namespace E
open PySem PySem.Spec PyProof.Rows L2
theorem tgK_snoc (ls : List EM.Lane) (x : EM.Lane) : tgK (ls ++ [x]) = tgK ls ++ [([.inl (x.1 : Nat), .inr (sOf [x.2.1])], .int (x.2.2 : Nat))] := by simp [tgK]
/-- a machine in the heap -/
def MAt (K : PySem.W.Frag) (H : Hp) (m o : Addr) (n : Nat) (ls : List EM.Lane) (en : List Nat) : Prop := ∃ (dx td ea la pl : Addr) (ts : List Addr), H m = some (.ins (He.ga K "Machine") dx [("order", .ref o), ("targets", .ref td), ("ends", .ref ea), ("lanes", .ref la), ("places", .ref pl)]) ∧
  H td = some (.dT (tgK ls)) ∧ H ea = some (.tup (natsV en)) ∧ H la = some (.tup (refs ts)) ∧ LnAt H ts ls ∧ H pl = some (.tup (natsV (List.range n)))
theorem MAt.mono {K : PySem.W.Frag} {H H' : Hp} {m o : Addr} {n : Nat} {ls : List EM.Lane} {en : List Nat} (s : Same H H') (h : MAt K H m o n ls en) : MAt K H' m o n ls en := by
  obtain ⟨dx, td, ea, la, pl, ts, h1, h2, h3, h4, h5, h6⟩ := h
  exact ⟨dx, td, ea, la, pl, ts, s _ _ h1, s _ _ h2, s _ _ h3, s _ _ h4, h5.mono s, s _ _ h6⟩
/-- where a word leads -/
def wkO (ls : List EM.Lane) : Option Nat → List Nat → Option Nat
  | p, [] => p
  | p, c :: w => wkO ls (p.bind fun p => EM.tg ls p c) w
theorem wkO_none (ls : List EM.Lane) (w : List Nat) : wkO ls none w = none := by
  induction w with
  | nil => rfl
  | cons c w ih => exact ih
theorem wkO_fu {A : List Nat} {ls : List EM.Lane} {en : List Nat} (h : ls.Pairwise (EM.Lt A)) : ∀ (w : List Nat) (p : Nat), EM.Fu ls en w p ↔ ∃ q, wkO ls (some p) w = some q ∧ q ∈ en := by
  intro w
  induction w with
  | nil =>
    intro p
    constructor
    · intro m; exact ⟨p, rfl, m⟩
    · rintro ⟨q, e, m⟩; cases e; exact m
  | cons c w ih =>
    intro p
    show (∃ q, (p, c, q) ∈ ls ∧ EM.Fu ls en w q) ↔ ∃ q, wkO ls (EM.tg ls p c) w = some q ∧ q ∈ en
    constructor
    · rintro ⟨q, m, hw⟩
      rw [(EM.tg_some h).mpr m]
      exact (ih q).mp hw
    · rintro ⟨q, e, m⟩
      cases et : EM.tg ls p c with
      | none => rw [et, wkO_none] at e; cases e
      | some r =>
        rw [et] at e
        exact ⟨r, (EM.tg_some h).mp et, (ih r).mpr ⟨q, e, m⟩⟩
theorem wkO_app (ls : List EM.Lane) : ∀ (u v : List Nat) (p : Option Nat), wkO ls p (u ++ v) = wkO ls (wkO ls p u) v := by
  intro u
  induction u with
  | nil => intro v p; rfl
  | cons c u ih => intro v p; exact ih v _
/-- a place or None -/
def oV : Option Nat → V
  | some p => .int (p : Nat)
  | none => .non
section
variable {P : Program} {w : World} {K : PySem.W.Frag} {mg : Str → Option Value} {base : Heap}
def spFrozen (K : PySem.W.Frag) : Sp := fun vs H Q _ => ∃ (o la : Addr) (l : List Nat) (n : Nat) (ts : List Addr) (ls : List EM.Lane), vs = [.ref o, .ref la] ∧ OrAt K H o l ∧ H la = some (.lst (refs ts)) ∧ LnAt H ts ls ∧ EM.Sc l n ls ∧ ls.length ≤ 1500 ∧ ∀ u H', Same H H' → H' u = some (.dT (tgK ls)) → Q (.ref u) H'
theorem ok_frozen (T : Tx K mg) (hl : Ok P w K mg base 2 (He.ga K "is_lane") ["order", "thing"] (spLane K)) : Ok P w K mg base 3 (He.ga K "frozen_lanes") ["order", "lanes"] (spFrozen K) := by
  obtain ⟨_, F_is_lane, b_is_lane, k_is_lane⟩ := hl
  refine ok_mk T.fn_frozen_lanes sc_frozen_lanes (fun _ _ _ _ _ _ us hl => match us, hl with | [_, _], _ => rfl) (fun vs H Q E h => ?_) (fun cdv A outer s H vs Q E hr h => ?_)
  · obtain ⟨o, la, l, n, ts, ls, rfl, _⟩ := h
    rfl
  · obtain ⟨o, la, l, n, ts, ls, rfl, ho, hla, hln, sc, lsl, q⟩ := h
    have hu := hu_of hr
    refine ⟨_, (pss_cons (ps_for PassesOwn.never rfl (pi_enumA (by rfl) T.f_enumerate (pa_cons (pv 1) pa_nil)) (pg_tup (by rfl) (pgs_cons (pg_name (i := 2) sc_frozen_lanes.nd rfl (by first | exact Or.inl rfl | exact Or.inr rfl)) (pgs_cons (pg_name (i := 3) sc_frozen_lanes.nd rfl (by first | exact Or.inl rfl | exact Or.inr rfl)) pgs_nil))) (pss_one (ps_if (pt_not (pt_val (pe_call F_is_lane hr rfl T.g_is_lane k_is_lane b_is_lane .nil pass0 (pa_cons (pv 0) (pa_cons (pv 3) pa_nil))))) (pss_one ps_never) pss_nil)))
      (pss_cons (ps_set (i := 4) sc_frozen_lanes.nd rfl (by first | exact Or.inl rfl | exact Or.inr rfl) pe_dnewT)
      (pss_cons (ps_for PassesOwn.never rfl (pi_list (pv 1)) (pg_tup (by rfl) (pgs_cons (pg_name (i := 5) sc_frozen_lanes.nd rfl (by first | exact Or.inl rfl | exact Or.inr rfl)) (pgs_cons (pg_name (i := 6) sc_frozen_lanes.nd rfl (by first | exact Or.inl rfl | exact Or.inr rfl)) (pgs_cons (pg_name (i := 7) sc_frozen_lanes.nd rfl (by first | exact Or.inl rfl | exact Or.inr rfl)) pgs_nil)))) (pss_cons (ps_if (pt_cmp (pc_din hu (pe_tup (pa_cons (pv 5) (pa_cons (pv 6) pa_nil))) (pv 4))) (pss_one ps_never) pss_nil)
      (pss_one (ps_dput hu (pv 4) (pe_tup (pa_cons (pv 5) (pa_cons (pv 6) pa_nil))) (pv 7) rfl))))
      (pss_one (ps_ret (pv 4)))))), ?_⟩
    have rl := refs_len ts
    have el := hln.1
    refine ⟨_, rfl, .inl ⟨la, _, rfl, SqL.of hla, ?_⟩⟩
    refine for_it walk_pairs (fun i σ H' => ∃ x2 x3, σ = [some (.ref o), some (.ref la), x2, x3, none, none, none, none] ∧ Same H H') ?_ (fun i σ H' _ hI => ?_) (fun i v σ H' H'' hi hI hy => ?_) (fun σ H1 hI => ?_)
    · exact ⟨_, _, rfl, same_refl _⟩
    · obtain ⟨_, _, rfl, sm⟩ := hI
      exact SqL.of (sm _ _ hla)
    · obtain ⟨x2, x3, rfl, sm⟩ := hI
      obtain ⟨Tp, a, b, rfl, T0, rfl, rfl, hb⟩ := hy
      obtain ⟨t, ht, rfl⟩ := refs_get hb
      obtain ⟨x, hx, hxt⟩ := Each.get hln ht
      generalize e1 : upd H' Tp _ = H1
      obtain ⟨s1, T1, f1⟩ := newE T0 e1
      have s01 := same_trans sm s1
      obtain ⟨b1, b2, b3⟩ := sc.bnd x (List.mem_of_getElem? hx)
      refine ⟨Tp, _, rfl, SqT.of T1, rfl, _, _, rfl, _, _, rfl, rfl, ?_⟩
      refine ⟨_, rfl, _, rfl, o, t, l, x.1, x.2.1, x.2.2, rfl, ho.mono s01, s01 _ _ hxt, b2, fun H2 s2 => ⟨_, rfl, iteF ?_⟩⟩
      exact ⟨_, _, rfl, same_trans s01 s2⟩
    · obtain ⟨x2, x3, rfl, sm⟩ := hI
      refine fun fo fo0 => ?_
      generalize e2 : upd H1 fo _ = H2
      obtain ⟨s2, fo2, f2⟩ := newE fo0 e2
      have s02 := same_trans sm s2
      refine ⟨_, rfl, la, rfl, ⟨_, SqL.of (s02 _ _ hla)⟩, ?_⟩
      refine for_list (xs := refs ts) (fun i σ H' => ∃ x5 x6 x7, σ = [some (.ref o), some (.ref la), x2, x3, some (.ref fo), x5, x6, x7] ∧ Same H1 H' ∧ H' fo = some (.dT (tgK (ls.take i)))) ?_ (fun i σ H' _ hI => ?_) (fun i v σ H' hv hI => ?_) (fun σ H3 hI => ?_)
      · exact ⟨_, _, _, rfl, s2, fo2⟩
      · obtain ⟨_, _, _, rfl, s3, _⟩ := hI
        exact SqL.of (same_trans sm s3 _ _ hla)
      · obtain ⟨x5, x6, x7, rfl, s3, hfo⟩ := hI
        obtain ⟨t, ht, rfl⟩ := refs_get hv
        obtain ⟨x, hx, hxt⟩ := Each.get hln ht
        have s03 := same_trans sm s3
        have il := (List.getElem?_eq_some_iff.mp hx).1
        refine ⟨t, _, rfl, SqT.of (s03 _ _ hxt), rfl, _, _, rfl, _, _, rfl, _, _, rfl, rfl, ?_⟩
        have newk : valV (tgK (ls.take i)) [.inl (x.1 : Nat), .inr (sOf [x.2.1])] = none := by
          rw [tgK_val]
          cases et : EM.tg (ls.take i) x.1 x.2.1 with
          | none => rfl
          | some r =>
            exfalso
            have m := (EM.tg_some (A := l) (sc.srt.sublist (List.take_sublist i ls))).mp et
            have e : ls = ls.take i ++ ls.drop i := (List.take_append_drop i ls).symm
            have sp := sc.srt
            rw [e, List.pairwise_append] at sp
            have xd : x ∈ ls.drop i := by
              rw [List.drop_eq_getElem_cons il]
              rw [List.getElem?_eq_getElem il] at hx
              cases hx
              exact List.mem_cons_self ..
            rcases sp.2.2 _ m x xd with z | ⟨_, z⟩ <;> simp at z
        refine ⟨_, rfl, _, rfl, (by show 2 ≤ sizeLine; decide), fun a a0 => ?_⟩
        generalize e4 : upd H' a _ = H4
        obtain ⟨s4, a4, f4⟩ := newE a0 e4
        have hfo4 := s4 _ _ hfo
        have dg := DGet.t (k := [.inl (x.1 : Nat), .inr (sOf [x.2.1])]) hfo4 a4
        rw [newk] at dg
        refine ⟨_, rfl, fo, _, rfl, dg, _, rfl, ?_⟩
        refine iteF ?_
        refine ⟨_, rfl, _, rfl, _, rfl, _, rfl, (by show 2 ≤ sizeLine; decide), fun b b0 => ?_⟩
        generalize e5 : upd H4 b _ = H5
        obtain ⟨s5, b5, f5⟩ := newE b0 e5
        have hfo5 := s5 _ _ hfo4
        refine ⟨fo, _, rfl, .inr ⟨_, [.inl (x.1 : Nat), .inr (sOf [x.2.1])], b, hfo5, rfl, b5, by simp [tgK]; unfold sizeLine; omega, rfl⟩, ?_⟩
        generalize e6 : upd H5 fo _ = H6
        obtain ⟨fo6, f6⟩ := putE e6
        refine ⟨_, _, _, rfl, fun c o' e => (f6 c (ne_of_none e fo0)).trans (s5 _ _ (s4 _ _ (s3 _ _ e))), ?_⟩
        rw [fo6, putK_new _ newk, List.take_succ, hx]
        show _ = some (HO.dT (tgK (ls.take i ++ [x])))
        rw [tgK_snoc]
      · obtain ⟨x5, x6, x7, rfl, s3, hfo⟩ := hI
        rw [rl, el, List.take_length] at hfo
        exact ⟨_, rfl, q fo H3 (same_trans sm s3) hfo⟩
def spFEnds : Sp := fun vs H Q _ => ∃ (ea : Addr) (en : List Nat), vs = [.ref ea] ∧ H ea = some (.lst (natsV en)) ∧ en.Pairwise (· < ·) ∧ en.length ≤ 400 ∧ ∀ u H', Same H H' → H' u = some (.tup (natsV en)) → Q (.ref u) H'
theorem ok_fends (T : Tx K mg) (hn : Ok P w K mg base 1 (He.ga K "is_number") ["thing"] spNum) : Ok P w K mg base 2 (He.ga K "frozen_ends") ["ends"] spFEnds := by
  obtain ⟨_, F_is_number, b_is_number, k_is_number⟩ := hn
  refine ok_mk T.fn_frozen_ends sc_frozen_ends (fun _ _ _ _ _ _ us hl => match us, hl with | [_], _ => rfl) (fun vs H Q E h => ?_) (fun cdv A outer s H vs Q E hr h => ?_)
  · obtain ⟨ea, en, rfl, _⟩ := h
    rfl
  · obtain ⟨ea, en, rfl, hea, es, el, q⟩ := h
    refine ⟨_, (pss_cons (ps_for PassesOwn.never rfl (pi_enumA (by rfl) T.f_enumerate (pa_cons (pv 0) pa_nil)) (pg_tup (by rfl) (pgs_cons (pg_name (i := 1) sc_frozen_ends.nd rfl (by first | exact Or.inl rfl | exact Or.inr rfl)) (pgs_cons (pg_name (i := 2) sc_frozen_ends.nd rfl (by first | exact Or.inl rfl | exact Or.inr rfl)) pgs_nil))) (pss_one (ps_if (pt_not (pt_val (pe_call F_is_number hr rfl T.g_is_number k_is_number b_is_number .nil pass0 (pa_cons (pv 2) pa_nil)))) (pss_one ps_never) pss_nil)))
      (pss_one (ps_ret (pe_callTy call_tuple_of (by rfl) T.f_tuple (by decide +kernel) (pa_cons (pe_callB (cr_sortedSetA (by rfl)) (by rfl) T.f_sorted (by decide +kernel) (pa_cons (pe_callTy (cr_setInts (by rfl)) (by rfl) T.f_set (by decide +kernel) (pa_cons (pv 0) pa_nil)) pa_nil)) pa_nil))))), ?_⟩
    refine ⟨_, rfl, .inl ⟨ea, _, rfl, SqL.of hea, ?_⟩⟩
    refine for_it walk_pairs (fun i σ H' => ∃ x1 x2, σ = [some (.ref ea), x1, x2] ∧ Same H H') ?_ (fun i σ H' _ hI => ?_) (fun i v σ H' H'' hi hI hy => ?_) (fun σ H1 hI => ?_)
    · exact ⟨_, _, rfl, same_refl _⟩
    · obtain ⟨_, _, rfl, sm⟩ := hI
      exact SqL.of (sm _ _ hea)
    · obtain ⟨x1, x2, rfl, sm⟩ := hI
      obtain ⟨Tp, a, b, rfl, T0, rfl, rfl, hb⟩ := hy
      obtain ⟨e, he, rfl⟩ := natsV_get hb
      generalize e1 : upd H' Tp _ = H1
      obtain ⟨s1, T1, f1⟩ := newE T0 e1
      refine ⟨Tp, _, rfl, SqT.of T1, rfl, _, _, rfl, _, _, rfl, rfl, ?_⟩
      refine ⟨_, rfl, e, rfl, _, rfl, iteF ?_⟩
      exact ⟨_, _, rfl, same_trans sm s1⟩
    · obtain ⟨x1, x2, rfl, sm⟩ := hI
      refine ⟨_, rfl, ea, en.map (fun j : Nat => (j : Int)), rfl, SqL.of (by rw [← natsV_ints]; exact sm _ _ hea), by rw [List.length_map]; omega, fun u n es' u0 nd mem len => ?_⟩
      generalize e2 : upd H1 u _ = H2
      obtain ⟨s2, u2, _⟩ := newE u0 e2
      refine ⟨u, _, n, rfl, u2, fun ns v nsrt nmem nlen v0 => ?_⟩
      generalize e3 : upd H2 v _ = H3
      obtain ⟨s3, v3, _⟩ := newE v0 e3
      refine ⟨v, _, rfl, .inl ⟨SqL.of v3, fun t t0 => ?_⟩⟩
      have ens : ns.map V.int = natsV en := natsV_sorted nsrt es fun k => by
        rw [nmem, decide_eq_true_eq, List.mem_map]
      rw [ens]
      exact q t _ (same_trans sm (same_trans s2 (same_trans s3 (Same.up t0)))) upd_same
def spGo (K : PySem.W.Frag) : Sp := fun vs H Q _ => ∃ (m td dx : Addr) (fs : List (Str × V)) (ls : List EM.Lane) (p c : Nat), vs = [.ref m, .int p, .str (sOf [c])] ∧ H m = some (.ins (He.ga K "Machine") dx fs) ∧ fs.lookup ("targets" : Str) = some (.ref td) ∧ H td = some (.dT (tgK ls)) ∧
  ∀ H', Same H H' → Q (oV (EM.tg ls p c)) H'
theorem ok_go (T : Tx K mg) : Ok P w K mg base 1 (He.ma K (He.ga K "Machine") "go") ["self", "p", "letter"] (spGo K) := by
  refine ok_mk T.fn_Machine_go sc_Machine_go (fun _ _ _ _ _ _ us hl => match us, hl with | [_, _, _], _ => rfl) (fun vs H Q E h => ?_) (fun cdv A outer s H vs Q E hr h => ?_)
  · obtain ⟨m, td, dx, fs, ls, p, c, rfl, _⟩ := h
    rfl
  · obtain ⟨m, td, dx, fs, ls, p, c, rfl, hm, hf, htd, q⟩ := h
    have hu := hu_of hr
    refine ⟨_, (pss_one (ps_ret (pe_dget1 hu (pe_fld (pv 0) rfl) (pe_tup (pa_cons (pv 1) (pa_cons (pv 2) pa_nil))) ⟨rfl, rfl, rfl, rfl⟩))), ?_⟩
    refine ⟨_, rfl, m, _, dx, _, _, rfl, hm, T.c_Machine, T.n_Machine_targets, hf, td, rfl, .inr ⟨_, .inl htd⟩, _, rfl, _, rfl, (by show 2 ≤ sizeLine; decide), fun a a0 => ?_⟩
    generalize e1 : upd H a _ = H1
    obtain ⟨s1, a1, f1⟩ := newE a0 e1
    refine ⟨_, DGet.t (k := [.inl (p : Nat), .inr (sOf [c])]) (s1 _ _ htd) a1, ?_⟩
    rw [tgK_val]
    have q := q H1 s1
    cases et : EM.tg ls p c with
    | none => rw [et] at q; exact q
    | some r => rw [et] at q; exact q
def spWalk (K : PySem.W.Frag) : Sp := fun vs H Q _ => ∃ (m td dx : Addr) (fs : List (Str × V)) (ls : List EM.Lane) (p : Nat) (u : List Nat), vs = [.ref m, .int p, .str (sOf u)] ∧ H m = some (.ins (He.ga K "Machine") dx fs) ∧ fs.lookup ("targets" : Str) = some (.ref td) ∧ fs.lookup ("go" : Str) = none ∧ H td = some (.dT (tgK ls)) ∧
  ∀ H', Same H H' → Q (oV (wkO ls (some p) u)) H'
theorem ok_walk (T : Tx K mg) (hg : Ok P w K mg base 1 (He.ma K (He.ga K "Machine") "go") ["self", "p", "letter"] (spGo K)) : Ok P w K mg base 2 (He.ma K (He.ga K "Machine") "walked") ["self", "p", "word"] (spWalk K) := by
  obtain ⟨_, F_Machine_go, b_Machine_go, _⟩ := hg
  refine ok_mk T.fn_Machine_walked sc_Machine_walked (fun _ _ _ _ _ _ us hl => match us, hl with | [_, _, _], _ => rfl) (fun vs H Q E h => ?_) (fun cdv A outer s H vs Q E hr h => ?_)
  · obtain ⟨m, td, dx, fs, ls, p, u, rfl, _⟩ := h
    rfl
  · obtain ⟨m, td, dx, fs, ls, p, u, rfl, hm, hf, hgo, htd, q⟩ := h
    refine ⟨_, (pss_cons (ps_for PassesOwn.never rfl (pi_str (pv 2)) (pg_name (i := 3) sc_Machine_walked.nd rfl (by first | exact Or.inl rfl | exact Or.inr rfl)) (pss_one (ps_if (pt_cmpR op_notN (pv 1) pe_non (nomark _)) (pss_one (ps_set (i := 1) sc_Machine_walked.nd rfl (by first | exact Or.inl rfl | exact Or.inr rfl) (pe_meth (pv 0) T.c_Machine T.m_Machine_go F_Machine_go hr b_Machine_go .nil pass0 (pa_cons (pv 1) (pa_cons (pv 3) pa_nil))))) pss_nil)))
      (pss_one (ps_ret (pv 1)))), ?_⟩
    refine ⟨_, rfl, _, rfl, ?_⟩
    refine for_it (walk_str (z := sOf u)) (fun i σ H' => ∃ x3, σ = [some (.ref m), some (oV (wkO ls (some p) (u.take i))), some (.str (sOf u)), x3] ∧ Same H H') ?_ (fun _ _ _ _ _ => trivial) (fun i v σ H' H'' hi hI hy => ?_) (fun σ H1 hI => ?_)
    · exact ⟨_, rfl, same_refl _⟩
    · obtain ⟨rfl, c, hc, rfl⟩ := hy
      obtain ⟨x3, rfl, sm⟩ := hI
      rw [sOf_get] at hc
      have es : wkO ls (some p) (u.take (i + 1)) = (wkO ls (some p) (u.take i)).bind fun p => EM.tg ls p c := by
        rw [List.take_succ, hc, wkO_app]; rfl
      cases eo : wkO ls (some p) (u.take i) with
      | none =>
        rw [eo] at es
        refine ⟨_, rfl, rfl, _, rfl, ?_⟩
        refine ite2 (fun h => absurd h (by decide)) (fun _ => ?_)
        exact ⟨_, by rw [es]; rfl, sm⟩
      | some r =>
        rw [eo] at es
        refine ⟨_, rfl, rfl, _, rfl, ?_⟩
        refine ite2 (fun _ => ?_) (fun h => absurd (by rfl) h)
        refine ⟨_, rfl, m, dx, _, rfl, sm _ _ hm, hgo, _, rfl, _, rfl, m, td, dx, fs, ls, r, c, rfl, sm _ _ hm, hf, sm _ _ htd, fun H2 s2 => ?_⟩
        exact ⟨_, by rw [es]; rfl, same_trans sm s2⟩
    · obtain ⟨x3, rfl, sm⟩ := hI
      refine ⟨_, rfl, ?_⟩
      rw [sOf_size, List.take_length]
      exact q H1 sm
end
end E

set_option autoImplicit true
set_option maxHeartbeats 4000000
set_option Elab.async false
set_option linter.all false
set_option maxRecDepth 100000
set_option maxHeartbeats 4000000
/-! A machine without idle places. -/
namespace E
open PySem PySem.Spec PyProof.Rows L2
theorem upd2 {H : Hp} {p : Addr} {a b : HO} : upd (upd H p a) p b = upd H p b := by
  funext c
  unfold upd
  split <;> rfl
section
variable {P : Program} {w : World} {K : PySem.W.Frag} {mg : Str → Option Value} {base : Heap}
def spIdle (K : PySem.W.Frag) : Sp := fun vs H Q _ => ∃ (m o : Addr) (l : List Nat) (n : Nat) (ls : List EM.Lane) (en : List Nat), vs = [.ref m] ∧ MAt K H m o n ls en ∧ OrAt K H o l ∧ EM.Form l n ls en ∧ n ≤ 300 ∧ ls.length ≤ 1500 ∧ ∀ H', Same H H' → Q .non H'
theorem ok_idle (T : Tx K mg) (hg : Ok P w K mg base 1 (He.ma K (He.ga K "Machine") "go") ["self", "p", "letter"] (spGo K)) (hc : Ok P w K mg base 1 (He.ga K "come_to") ["lanes", "ends"] spCome) :
    Ok P w K mg base 2 (He.ma K (He.ga K "Machine") "check_idle") ["self"] (spIdle K) := by
  obtain ⟨_, F_Machine_go, b_Machine_go, _⟩ := hg
  obtain ⟨_, F_come_to, b_come_to, k_come_to⟩ := hc
  refine ok_mk T.fn_Machine_check_idle sc_Machine_check_idle (fun _ _ _ _ _ _ us hl => match us, hl with | [_], _ => rfl) (fun vs H Q E h => ?_) (fun cdv A outer s H vs Q E hr h => ?_)
  · obtain ⟨m, o, l, n, ls, en, rfl, _⟩ := h
    rfl
  · obtain ⟨m, o, l, n, ls, en, rfl, hm, ho, fm, n3, lsl, q⟩ := h
    have hu := hu_of hr
    obtain ⟨dx, td, ea, la, pl, ts, h1, h2, h3, h4, h5, h6⟩ := id hm
    obtain ⟨dxo, rk, hoi, hrk⟩ := id ho
    have np := fm.sc.pos
    refine ⟨_, (pss_cons (ps_set (i := 1) sc_Machine_check_idle.nd rfl (by first | exact Or.inl rfl | exact Or.inr rfl) (pe_lst (pa_cons pe_int pa_nil)))
      (pss_cons (ps_set (i := 2) sc_Machine_check_idle.nd rfl (by first | exact Or.inl rfl | exact Or.inr rfl) (pe_disp (pps_cons pe_int pe_bl pps_nil) (by rfl) (by rfl) (fun z => by cases z) (by decide)))
      (pss_cons (ps_while PassesOwn.never (pt_cmpR (op_neD hr.units) (pv 1) (pe_lst pa_nil) (nomark _)) (pss_cons (ps_set (i := 3) sc_Machine_check_idle.nd rfl (by first | exact Or.inl rfl | exact Or.inr rfl) (pe_bm0 PySem.F.plainAttrs_list PySem.F.slot_list_pop PySem.F.type_list_pop mt_pop (pv 1)))
      (pss_one (ps_for PassesOwn.never rfl (pi_str (pe_fld (pe_fld (pv 0) rfl) rfl)) (pg_name (i := 4) sc_Machine_check_idle.nd rfl (by first | exact Or.inl rfl | exact Or.inr rfl)) (pss_cons (ps_set (i := 5) sc_Machine_check_idle.nd rfl (by first | exact Or.inl rfl | exact Or.inr rfl) (pe_meth (pv 0) T.c_Machine T.m_Machine_go F_Machine_go hr b_Machine_go .nil pass0 (pa_cons (pv 3) (pa_cons (pv 4) pa_nil))))
      (pss_one (ps_if (PW.pt (pw_and (pt_cmpR op_notN (pv 5) pe_non (nomark _)) (pw_and1 (pt_cmp (pc_dnotin hu (pv 5) (pv 2)))))) (pss_cons (ps_dput hu (pv 2) (pv 5) pe_bl rfl)
      (pss_one (ps_expr (pe_bm PySem.F.plainAttrs_list PySem.F.slot_list_append PySem.F.type_list_append mt_append (pv 1) (pa_cons (pv 5) pa_nil))))) pss_nil)))))))
      (pss_cons (ps_set (i := 6) sc_Machine_check_idle.nd rfl (by first | exact Or.inl rfl | exact Or.inr rfl) (pe_call F_come_to hr rfl T.g_come_to k_come_to b_come_to .nil pass0 (pa_cons (pe_fld (pv 0) rfl) (pa_cons (pe_fld (pv 0) rfl) pa_nil))))
      (pss_one (ps_for PassesOwn.never rfl (pi_tup (pe_fld (pv 0) rfl)) (pg_name (i := 7) sc_Machine_check_idle.nd rfl (by first | exact Or.inl rfl | exact Or.inr rfl)) (pss_one (ps_if (PW.pt (pw_or (pt_cmp (pc_dnotin hu (pv 7) (pv 2))) (pw_or1 (pt_cmp (pc_dnotin hu (pv 7) (pv 6)))))) (pss_one ps_never) pss_nil)))))))), ?_⟩
    refine ⟨(by show 1 ≤ sizeLine; decide), fun wt wt0 => ?_⟩
    generalize e1 : upd H wt _ = H1
    obtain ⟨s1, wt1, f1⟩ := newE wt0 e1
    refine fun me me0 => ?_
    refine ⟨upd_same, [(.inl ((0 : Nat) : Int), .bl true)], rfl, (by show 1 ≤ 15; decide), ?_⟩
    have em : mergeK [] [((.inl ((0 : Nat) : Int) : Key), V.bl true)] = uK [0] := uK_merge (en := [0]) (by simp)
    rw [em, upd2]
    generalize e2 : upd H1 me _ = H2
    obtain ⟨s2, me2, f2⟩ := newE me0 e2
    have wt2 := s2 _ _ wt1
    have nwm : wt ≠ me := ne_of_none wt1 me0
    have s02 := same_trans s1 s2
    have fr : ∀ b o, H b = some o → b ≠ wt ∧ b ≠ me := fun b o e => ⟨ne_of_none e wt0, ne_of_none (s1 _ _ e) me0⟩
    have uln : ∀ {us : List Nat}, us.Nodup → (∀ p, p ∈ us → p < n) → us.length ≤ n := fun nd h => by
      have := List.Nodup.length_le_of_subset nd (l₂ := List.range n) fun j m => List.mem_range.mpr (h j m)
      rwa [List.length_range] at this
    refine ⟨fun k σ H' => ∃ us W x3 x4 x5, σ = [some (.ref m), some (.ref wt), some (.ref me), x3, x4, x5, none, none] ∧ Same H H' ∧ H' wt = some (.lst (natsV W)) ∧ H' me = some (.dK (uK us)) ∧ us.Nodup ∧ (∀ p, p ∈ us → p < n) ∧ (∀ p, p ∈ W → p ∈ us) ∧ W.Nodup ∧ 0 ∈ us ∧
      (∀ p, p ∈ us → p ∈ W ∨ ∀ x, x ∈ ls → x.1 = p → x.2.2 ∈ us) ∧ k + us.length = n + W.length, ⟨n, [0], [0], _, _, _, rfl, s02, wt2, me2, by simp, fun p hp => by rw [List.mem_singleton] at hp; rw [hp]; exact np, fun p hp => hp, by simp, by simp, fun p hp => .inl hp, rfl⟩, fun k σ H3 hP => ?_⟩
    obtain ⟨us, W, x3, x4, x5, rfl, s3, wt3, me3, und, ult, wu, wnd, u0, cl, mk⟩ := hP
    have ul := uln und ult
    refine ⟨_, rfl, by decide, fun z z0 => ?_⟩
    generalize e4 : upd H3 z _ = H4
    obtain ⟨s4, z4, f4⟩ := newE z0 e4
    refine ne_nil (s4 _ _ wt3) z4 ?_
    refine ⟨_, rfl, ?_⟩
    have s04 := same_trans s3 s4
    by_cases hW : W = []
    · rw [decide_eq_true hW]
      refine iteF ?_
      subst hW
      have allr : ∀ t, t < n → t ∈ us := fm.sc.reach u0 fun x hx hp => by
        rcases cl _ hp with h | h
        · cases h
        · exact h x hx rfl
      refine ⟨_, rfl, m, _, dx, _, _, rfl, s04 _ _ h1, T.c_Machine, T.n_Machine_lanes, rfl, _, rfl, m, _, dx, _, _, rfl, s04 _ _ h1, T.c_Machine, T.n_Machine_ends, rfl, la, ea, ts, ls, en, n, rfl, .inr (s04 _ _ h4), h5.mono s04, .inr (s04 _ _ h3), EM.nodup_of_lt fm.ens, by omega, by omega, fun x hx => (fm.sc.bnd x hx).1, fm.enb, fun u us' H5 s5 hus mus => ?_⟩
      have s05 := same_trans s04 s5
      have allu : ∀ t, t < n → t ∈ us' := fun t ht => (mus t).mpr (fm.use t ht)
      have me5 := s5 _ _ (s4 _ _ me3)
      refine ⟨_, rfl, m, _, dx, _, _, rfl, s05 _ _ h1, T.c_Machine, T.n_Machine_places, rfl, pl, rfl, ⟨_, SqT.of (s05 _ _ h6)⟩, ?_⟩
      refine for_tup (xs := natsV (List.range n)) (fun i σ H' => ∃ x7, σ = [some (.ref m), some (.ref wt), some (.ref me), x3, x4, x5, some (.ref u), x7] ∧ H' = H5) ?_ (fun i σ H' _ hI => ?_) (fun i v σ H' hv hI => ?_) (fun σ H' hI => ?_)
      · exact ⟨_, rfl, rfl⟩
      · obtain ⟨_, rfl, rfl⟩ := hI
        exact SqT.of (s05 _ _ h6)
      · obtain ⟨x7, rfl, rfl⟩ := hI
        obtain ⟨j, hj, rfl⟩ := natsV_get hv
        have jn : j < n := by
          have := List.mem_of_getElem? hj
          exact List.mem_range.mp this
        refine ⟨_, rfl, _, rfl, me, _, rfl, DGet.k (k := .inl (j : Nat)) me5, _, rfl, ?_⟩
        rw [uK_val, decide_eq_true (allr j jn)]
        refine iteF ?_
        refine ⟨_, rfl, _, rfl, u, _, rfl, DGet.k (k := .inl (j : Nat)) hus, _, rfl, ?_⟩
        rw [uK_val, decide_eq_true (allu j jn)]
        exact iteF ⟨_, rfl, rfl⟩
      · obtain ⟨x7, rfl, rfl⟩ := hI
        exact q H' s05
    · rw [decide_eq_false hW]
      refine iteT ?_
      refine ⟨fun σ' H' => ∃ k', k' < k ∧ ∃ us W x3 x4 x5, σ' = [some (.ref m), some (.ref wt), some (.ref me), x3, x4, x5, none, none] ∧ Same H H' ∧ H' wt = some (.lst (natsV W)) ∧ H' me = some (.dK (uK us)) ∧ us.Nodup ∧ (∀ p, p ∈ us → p < n) ∧ (∀ p, p ∈ W → p ∈ us) ∧ W.Nodup ∧ 0 ∈ us ∧
        (∀ p, p ∈ us → p ∈ W ∨ ∀ x, x ∈ ls → x.1 = p → x.2.2 ∈ us) ∧ k' + us.length = n + W.length, fun _ _ h => h, ?_⟩
      obtain ⟨W', t, rfl⟩ : ∃ W' t, W = W' ++ [t] := ⟨W.dropLast, W.getLast hW, (List.dropLast_concat_getLast hW).symm⟩
      have wt4 := s4 _ _ wt3
      refine ⟨_, rfl, .inl ⟨rfl, _, SqL.of wt4⟩, wt, _, .int (t : Nat), rfl, rfl, wt4, by rw [natsV_len, natsV_app]; simp [natsV], ?_⟩
      have edl : (natsV (W' ++ [t])).dropLast = natsV W' := by rw [natsV_app]; simp [natsV]
      rw [edl]
      generalize e5 : upd H4 wt _ = H5
      obtain ⟨wt5, f5⟩ := putE e5
      have s05 : Same H H5 := fun b o e => (f5 b (fr b o e).1).trans (s04 _ _ e)
      have me5 := (f5 me fun z => nwm z.symm).trans (s4 _ _ me3)
      have tu : t ∈ us := wu t (by simp)
      refine ⟨_, rfl, m, _, dx, _, _, rfl, s05 _ _ h1, T.c_Machine, T.n_Machine_order, rfl, o, _, dxo, _, _, rfl, s05 _ _ hoi, T.c_Order, T.n_Order_letters, rfl, _, rfl, ?_⟩
      refine for_it (walk_str (z := sOf l)) (fun d σ H' => ∃ us W x4 x5, σ = [some (.ref m), some (.ref wt), some (.ref me), some (.int (t : Nat)), x4, x5, none, none] ∧ Same H H' ∧ H' wt = some (.lst (natsV W)) ∧ H' me = some (.dK (uK us)) ∧ us.Nodup ∧ (∀ p, p ∈ us → p < n) ∧ (∀ p, p ∈ W → p ∈ us) ∧ W.Nodup ∧ 0 ∈ us ∧ t ∈ us ∧
        (∀ p, p ∈ us → p ∈ W ∨ p = t ∨ ∀ x, x ∈ ls → x.1 = p → x.2.2 ∈ us) ∧ (∀ x, x ∈ ls → x.1 = t → x.2.1 ∈ l.take d → x.2.2 ∈ us) ∧ k + us.length = n + W.length + 1) ?_ (fun _ _ _ _ _ => trivial) (fun d v σ H6 H7 hd hI hy => ?_) (fun σ H6 hI => ?_)
      · refine ⟨us, W', _, _, rfl, s05, wt5, me5, und, ult, fun p hp => wu p (List.mem_append.mpr (.inl hp)), (List.nodup_append.mp wnd).1, u0, tu, fun p hp => ?_, fun x _ _ hx => by simp at hx, by rw [List.length_append, List.length_singleton] at mk; omega⟩
        rcases cl p hp with h | h
        · rcases List.mem_append.mp h with h | h
          · exact .inl h
          · exact .inr (.inl (List.mem_singleton.mp h))
        · exact .inr (.inr h)
      · obtain ⟨rfl, c, hc, rfl⟩ := hy
        obtain ⟨us, W, y4, y5, rfl, s6, wt6, me6, und, ult, wu, wnd, u0, tu, cl, cd, mk⟩ := hI
        rw [sOf_get] at hc
        have etk : l.take (d + 1) = l.take d ++ [c] := by rw [List.take_succ, hc]; rfl
        refine ⟨_, rfl, m, dx, _, rfl, s6 _ _ h1, rfl, _, rfl, _, rfl, m, td, dx, _, ls, t, c, rfl, s6 _ _ h1, rfl, s6 _ _ h2, fun H8 s8 => ?_⟩
        have s08 := same_trans s6 s8
        have wt8 := s8 _ _ wt6
        have me8 := s8 _ _ me6
        have lanes : ∀ us' : List Nat, (∀ p, p ∈ us → p ∈ us') → (∀ r, EM.tg ls t c = some r → r ∈ us') → ∀ x, x ∈ ls → x.1 = t → x.2.1 ∈ l.take (d + 1) → x.2.2 ∈ us' := by
          intro us' sub hr' x hx ht hxd
          rw [etk] at hxd
          rcases List.mem_append.mp hxd with z | z
          · exact sub _ (cd x hx ht z)
          · refine hr' _ ((EM.tg_some fm.sc.srt).mpr ?_)
            rw [← ht, ← List.mem_singleton.mp z]; exact hx
        cases et : EM.tg ls t c with
        | none =>
          refine ⟨_, rfl, rfl, _, rfl, ?_⟩
          refine ite2 (fun h => absurd h (by decide)) (fun _ => iteF ?_)
          exact ⟨us, W, _, _, rfl, s08, wt8, me8, und, ult, wu, wnd, u0, tu, cl, lanes us (fun _ h => h) (fun r e => by rw [et] at e; cases e), mk⟩
        | some r =>
          have mr := (EM.tg_some fm.sc.srt).mp et
          have rn := (fm.sc.bnd _ mr).2.2
          refine ⟨_, rfl, rfl, _, rfl, ?_⟩
          refine ite2 (fun _ => ?_) (fun h => absurd (by rfl) h)
          refine ⟨_, rfl, _, rfl, me, _, rfl, DGet.k (k := .inl (r : Nat)) me8, _, rfl, ?_⟩
          rw [uK_val]
          by_cases hin : r ∈ us
          · rw [decide_eq_true hin]
            exact iteF ⟨us, W, _, _, rfl, s08, wt8, me8, und, ult, wu, wnd, u0, tu, cl, lanes us (fun _ h => h) (fun r' e => by rw [et] at e; cases e; exact hin), mk⟩
          · rw [decide_eq_false hin]
            refine iteT ?_
            have ul := uln und ult
            refine ⟨_, rfl, _, rfl, me, _, rfl, DPut.k (k := .inl (r : Nat)) me8 (by rw [uK_len]; unfold sizeLine; omega), ?_⟩
            rw [uK_put hin]
            generalize e9 : upd H8 me _ = H9
            obtain ⟨me9, f9⟩ := putE e9
            have wt9 := (f9 wt nwm).trans wt8
            have wl : W.length ≤ us.length := List.Nodup.length_le_of_subset wnd fun p hp => wu p hp
            refine ⟨_, rfl, .inl ⟨rfl, _, SqL.of wt9⟩, _, rfl, wt, _, _, rfl, rfl, wt9, by rw [natsV_len]; unfold sizeLine; omega, ?_⟩
            generalize e10 : upd H9 wt _ = H10
            obtain ⟨wt10, f10⟩ := putE e10
            refine ⟨us ++ [r], W ++ [r], _, _, rfl, fun b o e => (f10 b (fr b o e).1).trans ((f9 b (fr b o e).2).trans (s08 _ _ e)), by rw [wt10, natsV_app]; rfl, (f10 me fun z => nwm z.symm).trans me9, ?_, fun p hp => ?_, fun p hp => ?_, ?_, List.mem_append.mpr (.inl u0), List.mem_append.mpr (.inl tu), fun p hp => ?_, lanes _ (fun _ h => List.mem_append.mpr (.inl h)) (fun r' e => by rw [et] at e; cases e; simp), by simp only [List.length_append, List.length_singleton]; omega⟩
            · exact List.nodup_append.mpr ⟨und, by simp, fun x hx y hy e => hin (by rw [List.mem_singleton] at hy; rw [← hy, ← e]; exact hx)⟩
            · rcases List.mem_append.mp hp with hp | hp
              · exact ult p hp
              · rw [List.mem_singleton.mp hp]; exact rn
            · rcases List.mem_append.mp hp with hp | hp
              · exact List.mem_append.mpr (.inl (wu p hp))
              · exact List.mem_append.mpr (.inr hp)
            · exact List.nodup_append.mpr ⟨wnd, by simp, fun x hx y hy e => hin (by rw [List.mem_singleton] at hy; rw [← hy, ← e]; exact wu x hx)⟩
            · rcases List.mem_append.mp hp with hp | hp
              · rcases cl p hp with h | h | h
                · exact .inl (List.mem_append.mpr (.inl h))
                · exact .inr (.inl h)
                · exact .inr (.inr fun x m e => List.mem_append.mpr (.inl (h x m e)))
              · exact .inl (List.mem_append.mpr (.inr hp))
      · obtain ⟨us, W, y4, y5, rfl, s6, wt6, me6, und, ult, wu, wnd, u0, tu, cl, cd, mk⟩ := hI
        rw [sOf_size, List.take_length] at cd
        have ul := uln und ult
        refine ⟨k - 1, by omega, us, W, _, _, _, rfl, s6, wt6, me6, und, ult, wu, wnd, u0, fun p hp => ?_, by omega⟩
        rcases cl p hp with h | h | h
        · exact .inl h
        · exact .inr fun x hx e => cd x hx (e.trans h) (fm.sc.bnd x hx).2.1
        · exact .inr h
end
end E

set_option autoImplicit true
set_option maxHeartbeats 4000000
set_option Elab.async false
set_option linter.all false
set_option maxRecDepth 100000
set_option maxHeartbeats 4000000
/-! A machine's making. -/
namespace E
open PySem PySem.Spec PyProof.Rows L2
/-! ### lanes as data -/
def laneD (x : EM.Lane) : PyData := .tuple [.int (x.1 : Nat), .str (sOf [x.2.1]), .int (x.2.2 : Nat)]
theorem dp_lane {K : PySem.W.Frag} {H : Hp} {t : Addr} {x : EM.Lane} (h : H t = some (.tup (laneV x))) : Dp K H (.ref t) (laneD x) := .tup (SqT.of h) (.cons (.int _) (.cons (.str _) (.cons (.int _) .nil)))
theorem dp_lanes {K : PySem.W.Frag} {H : Hp} : ∀ {ts : List Addr} {ls : List EM.Lane}, LnAt H ts ls → DpAll K H (refs ts) (ls.map laneD) := by
  intro ts
  induction ts with
  | nil =>
    intro ls h
    have : ls = [] := List.eq_nil_of_length_eq_zero h.1.symm
    subst this
    exact .nil
  | cons t r ih =>
    intro ls h
    cases ls with
    | nil => have := h.1; simp at this
    | cons x s => exact .cons (dp_lane (h.2 0 t x rfl rfl)) (ih ⟨by have := h.1; simpa using this, fun i a b ha hb => h.2 (i + 1) a b ha hb⟩)
theorem lanes_ok {ls : List EM.Lane} (h : ∀ x, x ∈ ls → x.2.1 ≤ 122) : PyData.canLayAll0 (ls.map laneD) = true ∧ PyData.depthAll (ls.map laneD) ≤ 1 := by
  induction ls with
  | nil => exact ⟨rfl, Nat.zero_le _⟩
  | cons x r ih =>
    obtain ⟨i1, i2⟩ := ih fun y m => h y (List.mem_cons_of_mem _ m)
    have hx := h x (List.mem_cons_self ..)
    have so : PyData.strOk (sOf [x.2.1]) = true := by
      show (([x.2.1] : List Nat).toArray.all (· < 0x110000)) = true
      simp
      omega
    constructor
    · show (PyData.canLay0 (laneD x) && PyData.canLayAll0 (r.map laneD)) = true
      rw [i1, Bool.and_true]
      show (true && (PyData.strOk (sOf [x.2.1]) && (true && true))) = true
      rw [so]; rfl
    · show max (PyData.depth (laneD x)) (PyData.depthAll (r.map laneD)) ≤ 1
      have : PyData.depth (laneD x) = 1 := rfl
      omega
theorem shaped_lanes {ls : List EM.Lane} (h : ∀ x, x ∈ ls → x.2.1 ≤ 122) : SeqAt.shaped (.tuple (ls.map laneD)) = true := by
  obtain ⟨h1, h2⟩ := lanes_ok h
  show (PyData.canLayAll0 _ && decide (PyData.depthAll _ + 1 ≤ 64)) = true
  rw [h1, Bool.true_and, decide_eq_true_eq]
  omega
theorem eqv_nil2 {α : Type} (f : α → PyData) (ls : List α) : PyData.eqv (.tuple (ls.map f)) (.tuple []) = decide (ls.map f = []) := by
  cases ls <;> simp [PyData.eqv, PyData.eqvAll]
def rankT (l : List Nat) (x : EM.Lane) : Tri := ((x.1 : Nat), ((l.idxOf x.2.1 : Nat) : Int), (x.2.2 : Nat))
theorem rank_le {l : List Nat} {a b : EM.Lane} (h : EM.Lt l a b) : TriLe (rankT l a) (rankT l b) := by
  intro z
  have z : ([(b.1 : Int), ((l.idxOf b.2.1 : Nat) : Int), (b.2.2 : Int)] : List Int) < [(a.1 : Int), ((l.idxOf a.2.1 : Nat) : Int), (a.2.2 : Int)] := z
  rw [List.cons_lt_cons_iff, List.cons_lt_cons_iff] at z
  rcases h with h | ⟨h1, h2⟩
  · rcases z with z | ⟨z, _⟩ <;> omega
  · rcases z with z | ⟨_, z | ⟨z, _⟩⟩ <;> omega
section
variable {P : Program} {w : World} {K : PySem.W.Frag} {mg : Str → Option Value} {base : Heap}
def spMInit (K : PySem.W.Frag) : Sp := fun vs H Q _ => ∃ (m dx o la ea : Addr) (l : List Nat) (n : Nat) (ts : List Addr) (ls : List EM.Lane) (en : List Nat), vs = [.ref m, .ref o, .ref la, .ref ea] ∧ H m = some (.ins (He.ga K "Machine") dx []) ∧ OrAt K H o l ∧ LetOk l ∧ H la = some (.lst (refs ts)) ∧ LnAt H ts ls ∧ H ea = some (.lst (natsV en)) ∧
  EM.Form l n ls en ∧ n ≤ 300 ∧ ls.length ≤ 1500 ∧ ∀ H', Kp (only m) H H' → MAt K H' m o n ls en → Q .non H'
theorem ok_minit (T : Tx K mg) (hf : Ok P w K mg base 3 (He.ga K "frozen_lanes") ["order", "lanes"] (spFrozen K)) (he : Ok P w K mg base 2 (He.ga K "frozen_ends") ["ends"] spFEnds) (hi : Ok P w K mg base 2 (He.ma K (He.ga K "Machine") "check_idle") ["self"] (spIdle K)) :
    Ok P w K mg base 4 (He.ma K (He.ga K "Machine") "__init__") ["self", "order", "lanes", "ends"] (spMInit K) := by
  obtain ⟨_, F_frozen_lanes, b_frozen_lanes, k_frozen_lanes⟩ := hf
  obtain ⟨_, F_frozen_ends, b_frozen_ends, k_frozen_ends⟩ := he
  obtain ⟨_, F_Machine_check_idle, b_Machine_check_idle, _⟩ := hi
  refine ok_mk T.fn_Machine_init sc_Machine_init (fun _ _ _ _ _ _ us hl => match us, hl with | [_, _, _, _], _ => rfl) (fun vs H Q E h => ?_) (fun cdv A outer s H vs Q E hr h => ?_)
  · obtain ⟨m, dx, o, la, ea, l, n, ts, ls, en, rfl, _⟩ := h
    rfl
  · obtain ⟨m, dx, o, la, ea, l, n, ts, ls, en, rfl, hm, ho, lok, hla, hln, hea, fm, n3, lsl, q⟩ := h
    have hu := hu_of hr
    have hr2 := hr.mono (show 2 ≤ 3 by omega)
    obtain ⟨dxo, rk, hoi, kvr, hrk, hrv⟩ := id ho
    have np := fm.sc.pos
    have enl := nodup_le (m := n) (EM.nodup_of_lt fm.ens) fun a ha => by have := fm.enb a ha; omega
    refine ⟨_, (pss_cons (ps_fld (pv 0) (pv 1) rfl)
      (pss_cons (ps_fld (pv 0) (pe_call F_frozen_lanes hr rfl T.g_frozen_lanes k_frozen_lanes b_frozen_lanes .nil pass0 (pa_cons (pv 1) (pa_cons (pv 2) pa_nil))) rfl)
      (pss_cons (ps_fld (pv 0) (pe_call F_frozen_ends hr2 rfl T.g_frozen_ends k_frozen_ends b_frozen_ends .nil pass0 (pa_cons (pv 3) pa_nil)) rfl)
      (pss_cons (ps_lock (ps_setLc (i := 7) (own := [("p", 4), ("letter", 5), ("q", 6)])  (tt := tYes) (by rfl) sc_Machine_init.nd rfl rfl (sw_true rfl rfl rfl (by decide +kernel)) (pi_itemsT (pe_fld (pv 0) rfl)) (blkOk_by (own := [("p", 4), ("letter", 5), ("q", 6)]) (N := N_Machine_init) (sc := defScope s_Machine_init) (by decide +kernel)) (fun _ _ _ _ _ => (pg_tupK (n := 2) rfl (by rfl) (pgs_cons (pg_tupK (n := 2) rfl (by rfl) (pgs_cons (pg_name (i := 4) sc_Machine_init.nd rfl (Or.inl rfl)) (pgs_cons (pg_name (i := 5) sc_Machine_init.nd rfl (Or.inl rfl)) pgs_nil))) (pgs_cons (pg_name (i := 6) sc_Machine_init.nd rfl (Or.inl rfl)) pgs_nil)))) (fun _ _ _ _ _ => pts_nil) (fun _ _ _ _ _ => (pe_tup (pa_cons (pv 4) (pa_cons (pe_dget hu (pe_fldK rfl (pv 1) rfl) (pv 5) (fun _ _ => rfl)) (pa_cons (pv 6) pa_nil)))))))
      (pss_cons (ps_fld (pv 0) (pe_callTy call_tuple_of (by rfl) T.f_tuple (by decide +kernel) (pa_cons (pe_lc (own := [("p", 4), ("at", 8), ("q", 6)])  (tt := tYes) (by rfl) sc_Machine_init.nd (pi_list (pe_callB cr_sortedTri (by rfl) T.f_sorted (by decide +kernel) (pa_cons (pv 7) pa_nil))) (blkOk_by (own := [("p", 4), ("at", 8), ("q", 6)]) (N := N_Machine_init) (sc := defScope s_Machine_init) (by decide +kernel)) (fun _ _ _ _ _ => (pg_tupK (n := 3) rfl (by rfl) (pgs_cons (pg_name (i := 4) sc_Machine_init.nd rfl (Or.inl rfl)) (pgs_cons (pg_name (i := 8) sc_Machine_init.nd rfl (Or.inl rfl)) (pgs_cons (pg_name (i := 6) sc_Machine_init.nd rfl (Or.inl rfl)) pgs_nil))))) (fun _ _ _ _ _ => pts_nil) (fun _ _ _ _ _ => (pe_tup (pa_cons (pv 4) (pa_cons (pe_ix ix_str (pe_fldK rfl (pv 1) rfl) (pv 8) (fun _ _ => rfl)) (pa_cons (pv 6) pa_nil)))))) pa_nil)) rfl)
      (pss_cons (ps_set (i := 9) sc_Machine_init.nd rfl (by first | exact Or.inl rfl | exact Or.inr rfl) (pe_op op_cat (pe_op op_cat (pe_op op_cat (pe_lst (pa_cons pe_int pa_nil)) (pe_lc (own := [("p", 4), ("at", 8), ("q", 6)])  (tt := tYes) (by rfl) sc_Machine_init.nd (pi_list (pv 7)) (blkOk_by (own := [("p", 4), ("at", 8), ("q", 6)]) (N := N_Machine_init) (sc := defScope s_Machine_init) (by decide +kernel)) (fun _ _ _ _ _ => (pg_tupK (n := 3) rfl (by rfl) (pgs_cons (pg_name (i := 4) sc_Machine_init.nd rfl (Or.inl rfl)) (pgs_cons (pg_name (i := 8) sc_Machine_init.nd rfl (Or.inl rfl)) (pgs_cons (pg_name (i := 6) sc_Machine_init.nd rfl (Or.inl rfl)) pgs_nil))))) (fun _ _ _ _ _ => pts_nil) (fun _ _ _ _ _ => (pv 4)))) (pe_lc (own := [("p", 4), ("at", 8), ("q", 6)])  (tt := tYes) (by rfl) sc_Machine_init.nd (pi_list (pv 7)) (blkOk_by (own := [("p", 4), ("at", 8), ("q", 6)]) (N := N_Machine_init) (sc := defScope s_Machine_init) (by decide +kernel)) (fun _ _ _ _ _ => (pg_tupK (n := 3) rfl (by rfl) (pgs_cons (pg_name (i := 4) sc_Machine_init.nd rfl (Or.inl rfl)) (pgs_cons (pg_name (i := 8) sc_Machine_init.nd rfl (Or.inl rfl)) (pgs_cons (pg_name (i := 6) sc_Machine_init.nd rfl (Or.inl rfl)) pgs_nil))))) (fun _ _ _ _ _ => pts_nil) (fun _ _ _ _ _ => (pv 6)))) (pe_callTy call_list_of (by rfl) T.f_list (by decide +kernel) (pa_cons (pe_fld (pv 0) rfl) pa_nil))))
      (pss_cons (ps_fld (pv 0) (pe_callTy call_tuple_of (by rfl) T.f_tuple (by decide +kernel) (pa_cons (pe_callB (cr_sortedSetA (by rfl)) (by rfl) T.f_sorted (by decide +kernel) (pa_cons (pe_callTy (cr_setInts (by rfl)) (by rfl) T.f_set (by decide +kernel) (pa_cons (pv 9) pa_nil)) pa_nil)) pa_nil)) rfl)
      (pss_one (ps_if (PW.pt (pw_or (pt_cmpR (op_neD hr.units) (pe_fld (pv 0) rfl) (pe_tup pa_nil) (nomark _)) (pw_or1 (pt_cmpR (op_neD hr.units) (pe_fld (pv 0) rfl) (pe_tup pa_nil) (nomark _))))) (pss_one (ps_expr (pe_meth0 (pv 0) T.c_Machine T.m_Machine_check_idle F_Machine_check_idle hr2 b_Machine_check_idle .nil pass0))) pss_nil))))))))), ?_⟩
    refine ⟨_, rfl, _, rfl, m, _, dx, _, rfl, hm, T.c_Machine, T.n_Machine_order, by decide, ?_⟩
    generalize e1 : upd H m _ = H1
    obtain ⟨m1, f1⟩ := putE e1
    have k1 : Kp (only m) H H1 := e1 ▸ Kp.put rfl
    have nom : ∀ {b : Addr} {u : HO}, H b = some u → u ≠ .ins (He.ga K "Machine") dx [] → b ≠ m := fun e n z => by
      rw [z, hm] at e
      injection e with e
      exact n e.symm
    have nlst : ∀ {b : Addr} {xs : List V}, H b = some (.lst xs) → b ≠ m := fun e => nom e (fun z => nomatch z)
    have ntup : ∀ {b : Addr} {xs : List V}, H b = some (.tup xs) → b ≠ m := fun e => nom e (fun z => nomatch z)
    have no : o ≠ m := nom hoi fun z => by injection z with _ _ z; cases z
    have nr : rk ≠ m := nom hrk (fun z => nomatch z)
    have orK : ∀ {Hx : Hp}, Kp (only m) H Hx → OrAt K Hx o l := fun k => ⟨dxo, rk, k _ _ hoi no, kvr, k _ _ hrk nr, hrv⟩
    have lnK : ∀ {Hx : Hp}, Kp (only m) H Hx → LnAt Hx ts ls := fun k => Each.mono hln fun a b e => k _ _ e (ntup e)
    -- targets
    refine ⟨_, rfl, _, rfl, o, la, l, n, ts, ls, rfl, orK k1, k1 _ _ hla (nlst hla), lnK k1, fm.sc, lsl, fun td H2 s2 td2 => ?_⟩
    have m2 := s2 _ _ m1
    have ntd : td ≠ m := fun z => by rw [z, m2] at td2; cases td2
    refine ⟨_, rfl, m, _, dx, _, rfl, m2, T.c_Machine, T.n_Machine_targets, (by show 1 < 1000; decide), ?_⟩
    generalize e3 : upd H2 m _ = H3
    obtain ⟨m3, f3⟩ := putE e3
    have k3 : Kp (only m) H H3 := fun b u e n => (f3 b n).trans (s2 _ _ (k1 b u e n))
    have td3 := (f3 td ntd).trans td2
    -- ends
    refine ⟨_, rfl, ea, en, rfl, k3 _ _ hea (nlst hea), fm.ens, by omega, fun ea2 H4 s4 ea4 => ?_⟩
    have m4 := s4 _ _ m3
    have nea : ea2 ≠ m := fun z => by rw [z, m4] at ea4; cases ea4
    refine ⟨_, rfl, m, _, dx, _, rfl, m4, T.c_Machine, T.n_Machine_ends, (by show 2 < 1000; decide), ?_⟩
    generalize e5 : upd H4 m _ = H5
    obtain ⟨m5, f5⟩ := putE e5
    have k5 : Kp (only m) H H5 := fun b u e n => (f5 b n).trans (s4 _ _ (k3 b u e n))
    have td5 := (f5 td ntd).trans (s4 _ _ td3)
    have ea5 := (f5 ea2 nea).trans ea4
    -- told
    refine ⟨td, _, td5, trivial, fun od => ?_⟩
    generalize e6 : upd H5 td _ = H6
    obtain ⟨td6, f6⟩ := putE e6
    have m6 := (f6 m fun z => ntd z.symm).trans m5
    have hoi6 := (f6 o (ne_of (k5 _ _ hoi no) td5 (fun z => nomatch z))).trans (k5 _ _ hoi no)
    have hrk6 := (f6 rk (ne_of (k5 _ _ hrk nr) td5 (fun z => nomatch z))).trans (k5 _ _ hrk nr)
    have tlen : (tgK ls).length = ls.length := by simp [tgK]
    refine ⟨_, rfl, m, _, dx, _, _, rfl, m6, T.c_Machine, T.n_Machine_targets, rfl, td, od, _, rfl, td6, fun D D0 => ?_⟩
    have nDt : D ≠ td := fun z => by rw [z, td6] at D0; cases D0
    refine lc_it walk_pairs (PB H6 D fun i acc Hx => ∃ bs : List (Addr × Tri), acc = (bs.map fun b => V.ref b.1) ∧ bs.map (·.2) = (ls.take i).map (rankT l) ∧ ∀ b, b ∈ bs → Hx b.1 = some (.tup (triV b.2))) (PB.start D0 fun _ _ => ⟨[], rfl, rfl, fun b h => (by cases h)⟩) (fun i Hx _ h => ?_) (fun i z Hx H7 hi h hy => ?_) (fun H7 h => ?_)
    · obtain ⟨acc, b, _⟩ := h
      exact b.1 _ _ td6
    · obtain ⟨acc, b, bs, rfl, hbs, hbt⟩ := h
      obtain ⟨Tp, x, y, rfl, T0, rfl, key, qa, hk', rfl, hqa⟩ := hy
      rw [tlen] at hi
      have hli := List.getElem?_eq_getElem hi
      obtain ⟨ek, ey⟩ : key = [.inl ((ls[i].1 : Nat) : Int), .inr (sOf [ls[i].2.1])] ∧ y = .int (ls[i].2.2 : Nat) := by
        unfold tgK at hk'
        rw [List.getElem?_map, hli] at hk'
        cases hk'
        exact ⟨rfl, rfl⟩
      subst ek ey
      obtain ⟨b1, b2, b3⟩ := fm.sc.bnd _ (List.getElem_mem hi)
      generalize e8 : upd Hx Tp _ = H8
      obtain ⟨s8, T8, f8⟩ := newE T0 e8
      have sx8 := same_trans b.1 s8
      have tk : ls.take (i + 1) = ls.take i ++ [ls[i]] := by rw [List.take_succ, hli]; rfl
      have dg : DGet H8 rk (.str (sOf [ls[i].2.1])) (some (.int (l.idxOf ls[i].2.1 : Nat))) := by
        have := DGet.k (k := .inr (sOf [ls[i].2.1])) (sx8 _ _ hrk6)
        rw [hrv, if_pos b2] at this
        exact this
      refine ⟨Tp, _, rfl, SqT.of T8, rfl, _, _, rfl, ⟨qa, _, rfl, SqT.of (s8 _ _ hqa), rfl, _, _, rfl, _, _, rfl, rfl, _, _, rfl, rfl, ?_⟩⟩
      refine ⟨rfl, yesI ?_⟩
      refine ⟨_, rfl, _, rfl, o, _, dxo, _, _, rfl, sx8 _ _ hoi6, T.c_Order, T.n_Order_ranks, rfl, _, rfl, rk, _, rfl, dg, _, rfl, (by show 3 ≤ sizeLine; decide), fun a a0 => ?_⟩
      refine PB.add b D0 (same_trans s8 (Same.up a0)) ?_ fun H9 s9 f9 => ⟨bs ++ [(a, rankT l ls[i])], by simp, by rw [List.map_append, hbs, tk, List.map_append]; rfl, fun c hc => ?_⟩
      · have := congrArg List.length hbs
        rw [List.length_map, List.length_map, List.length_take] at this
        rw [List.length_map]; unfold sizeLine; omega
      · have bD := s8 _ _ b.2
        rcases List.mem_append.mp hc with hc | hc
        · have hcx := s8 _ _ (hbt c hc)
          have n1 : c.1 ≠ D := fun z => by rw [z, bD] at hcx; cases hcx
          rw [f9 _ n1, upd_ne (ne_of_none hcx a0)]; exact hcx
        · rw [List.mem_singleton] at hc
          subst hc
          have n1 : a ≠ D := fun z => by rw [z, bD] at a0; cases a0
          show H9 a = _
          rw [f9 _ n1]; exact upd_same
    · obtain ⟨acc, b, bs, rfl, hbs, hbt⟩ := h
      rw [tlen, List.take_length] at hbs
      refine ⟨b.1 _ _ td6, ?_⟩
      generalize e8 : upd H7 td _ = H8
      obtain ⟨td8, f8⟩ := putE e8
      have s58 : Same H5 H8 := fun c u e => by
        by_cases z : c = td
        · subst z
          rw [td5] at e; cases e
          exact td8
        · exact (f8 c z).trans (b.1 _ _ ((f6 c z).trans e))
      have D8 := (f8 D nDt).trans b.2
      have bs8 : ∀ c, c ∈ bs → H8 c.1 = some (.tup (triV c.2)) := fun c hc => by
        have := hbt c hc
        exact (f8 c.1 (ne_of this (b.1 _ _ td6) (fun z => nomatch z))).trans this
      have k8 : Kp (only m) H H8 := fun b u e n => s58 _ _ (k5 b u e n)
      have m8 := s58 _ _ m5
      have blen : bs.length = ls.length := by
        have := congrArg List.length hbs
        rwa [List.length_map, List.length_map] at this
      have bat : ∀ i x, ls[i]? = some x → ∃ a, bs[i]? = some (a, rankT l x) := fun i x hx => by
        have hi : i < bs.length := by rw [blen]; exact (List.getElem?_eq_some_iff.mp hx).1
        have := congrArg (fun z => z[i]?) hbs
        simp only [List.getElem?_map] at this
        rw [List.getElem?_eq_getElem hi, hx] at this
        simp only [Option.map_some, Option.some.injEq] at this
        exact ⟨bs[i].1, by rw [List.getElem?_eq_getElem hi, ← this]⟩
      -- the lanes, sorted
      refine ⟨_, rfl, D, bs, rfl, SqL.of D8, fun c hc => SqT.of (bs8 c hc), ?_, ?_, fun p p0 => ?_⟩
      · rw [hbs]
        exact List.pairwise_map.mpr (fm.sc.srt.imp fun h => rank_le h)
      · have := hr.un
        show (A.deeper _).units + 10 < cLine
        omega
      · generalize e9 : upd H8 p _ = H9
        obtain ⟨s9, p9, f9⟩ := newE p0 e9
        have s59 := same_trans s58 s9
        have k9 : Kp (only m) H H9 := fun b u e n => s9 _ _ (k8 b u e n)
        refine ⟨p, rfl, ⟨_, SqL.of p9⟩, fun D2 D20 => ?_⟩
        refine lc_list (xs := bs.map fun b => V.ref b.1) (PB H9 D2 fun i acc Hx => ∃ ts', acc = refs ts' ∧ LnAt Hx ts' (ls.take i)) (PB.start D20 fun _ _ => ⟨[], rfl, .nil⟩) (fun i Hx _ h => ?_) (fun i z Hx hz h => ?_) (fun H10 h => ?_)
        · obtain ⟨acc, b', _⟩ := h
          exact SqL.of (b'.1 _ _ p9)
        · obtain ⟨acc, b', ts', rfl, ln'⟩ := h
          have hib : i < bs.length := by
            have := (List.getElem?_eq_some_iff.mp hz).1
            rwa [List.length_map] at this
          have hi : i < ls.length := by omega
          have hli := List.getElem?_eq_getElem hi
          obtain ⟨a, ha⟩ := bat i _ hli
          rw [List.getElem?_map, ha] at hz
          cases hz
          have b2 := (fm.sc.bnd _ (List.getElem_mem hi)).2.1
          have ht := b'.1 _ _ (s9 _ _ (bs8 _ (List.mem_of_getElem? ha)))
          have il := List.idxOf_lt_length_of_mem b2
          have gl : atI (sOf l).cps.toList ((l.idxOf ls[i].2.1 : Nat) : Int) = some ls[i].2.1 := by
            rw [sOf_toList]
            exact atI_nat (by rw [List.getElem?_eq_getElem il, List.getElem_idxOf il])
          have l100 : l.length ≤ 100 := by
            have := List.Nodup.length_le_of_subset lok.1 (l₂ := List.range 123) fun c hc => List.mem_range.mpr (by have := lok.2.2 c hc; omega)
            rw [List.length_range] at this
            have h26 : l.length ≤ 26 := by
              have := List.Nodup.length_le_of_subset lok.1 (l₂ := (List.range 26).map (· + 97)) fun c hc => List.mem_map.mpr ⟨c - 97, List.mem_range.mpr (by have := lok.2.2 c hc; omega), by have := lok.2.2 c hc; omega⟩
              simpa using this
            omega
          refine ⟨a, _, rfl, SqT.of ht, rfl, _, _, rfl, _, _, rfl, _, _, rfl, rfl, rfl, yesI ?_⟩
          refine ⟨_, rfl, _, rfl, o, _, dxo, _, _, rfl, b'.1 _ _ (k9 _ _ hoi no), T.c_Order, T.n_Order_letters, rfl, _, rfl, _, _, ls[i].2.1, rfl, rfl, by rw [sOf_len]; unfold sizeLine; omega, gl, _, rfl, (by show 3 ≤ sizeLine; decide), fun tn tn0 => ?_⟩
          have tk : ls.take (i + 1) = ls.take i ++ [ls[i]] := by rw [List.take_succ, hli]; rfl
          refine PB.add b' D20 (Same.up tn0) ?_ fun H11 _ f11 => ⟨ts' ++ [tn], by rw [refs_app]; rfl, ?_⟩
          · have := ln'.1
            rw [List.length_take] at this
            rw [refs_len]; unfold sizeLine; omega
          · rw [tk]
            have ntD : tn ≠ D2 := fun z => by rw [z, b'.2] at tn0; cases tn0
            refine (Each.mono ln' fun a c hac => ?_).snoc ?_
            · have n1 : a ≠ D2 := fun z => by rw [z, b'.2] at hac; cases hac
              rw [f11 a n1, upd_ne (ne_of_none hac tn0)]; exact hac
            · rw [f11 tn ntD]; exact upd_same
        · obtain ⟨acc, b', ts', rfl, ln'⟩ := h
          rw [List.length_map, blen, List.take_length] at ln'
          refine ⟨D2, _, rfl, .inl ⟨SqL.of b'.2, fun la2 la20 => ?_⟩⟩
          generalize e11 : upd H10 la2 _ = H11
          obtain ⟨s11, la11, f11⟩ := newE la20 e11
          have s5b := same_trans s59 (same_trans b'.1 s11)
          have m11 := s5b _ _ m5
          have ln11 := ln'.mono s11
          have nla : la2 ≠ m := fun z => by rw [z, m11] at la11; cases la11
          refine ⟨_, rfl, m, _, dx, _, rfl, m11, T.c_Machine, T.n_Machine_lanes, (by show 3 < 1000; decide), ?_⟩
          generalize e12 : upd H11 m _ = H12
          obtain ⟨m12, f12⟩ := putE e12
          have k11 : Kp (only m) H H11 := fun b u e n => s5b _ _ (k5 b u e n)
          have k12 : Kp (only m) H H12 := fun b u e n => (f12 b n).trans (k11 b u e n)
          have td12 := (f12 td ntd).trans (s5b _ _ td5)
          have ea12 := (f12 ea2 nea).trans (s5b _ _ ea5)
          have la12 := (f12 la2 nla).trans la11
          have ln12 : LnAt H12 ts' ls := Each.mono ln11 fun a c h => (f12 a fun z => by rw [z, m11] at h; cases h).trans h
          have nDm : D ≠ m := fun z => by rw [z, m8] at D8; cases D8
          have D12 := (f12 D nDm).trans ((same_trans s9 (same_trans b'.1 s11)) _ _ D8)
          have bs12 : ∀ c, c ∈ bs → H12 c.1 = some (.tup (triV c.2)) := fun c hc => by
            have := bs8 c hc
            exact (f12 c.1 fun z => by rw [z, m8] at this; cases this).trans ((same_trans s9 (same_trans b'.1 s11)) _ _ this)
          -- all the numbers
          refine ⟨(by show 1 ≤ sizeLine; decide), fun z z0 => ?_⟩
          generalize e13 : upd H12 z _ = H13
          obtain ⟨s13, z13, f13⟩ := newE z0 e13
          have told : ∀ {Hx : Hp}, Same H12 Hx → ∀ i v, (bs.map fun b => V.ref b.1)[i]? = some v → ∃ x a, ls[i]? = some x ∧ v = V.ref a ∧ Hx a = some (.tup (triV (rankT l x))) := fun sx i v hv => by
            have hib : i < bs.length := by
              have := (List.getElem?_eq_some_iff.mp hv).1
              rwa [List.length_map] at this
            have hli := List.getElem?_eq_getElem (show i < ls.length by omega)
            obtain ⟨a, ha⟩ := bat i _ hli
            rw [List.getElem?_map, ha] at hv
            cases hv
            exact ⟨_, a, hli, rfl, sx _ _ (bs12 _ (List.mem_of_getElem? ha))⟩
          refine ⟨_, rfl, D, rfl, ⟨_, SqL.of (s13 _ _ D12)⟩, fun D3 D30 => ?_⟩
          refine lc_list (xs := bs.map fun b => V.ref b.1) (PB H13 D3 fun i acc _ => acc = natsV ((ls.take i).map (·.1))) (PB.start D30 fun _ _ => rfl) (fun i Hx _ h => ?_) (fun i v Hx hv h => ?_) (fun H14 h => ?_)
          · obtain ⟨acc, b3, _⟩ := h
            exact SqL.of (b3.1 _ _ (s13 _ _ D12))
          · obtain ⟨acc, b3, rfl⟩ := h
            obtain ⟨x, a, hx, rfl, ha⟩ := told (same_trans s13 b3.1) i v hv
            refine ⟨a, _, rfl, SqT.of ha, rfl, _, _, rfl, _, _, rfl, _, _, rfl, rfl, rfl, yesI ⟨_, rfl, PB.add b3 D30 (same_refl _) ?_ fun H15 _ _ => ?_⟩⟩
            · rw [natsV_len, List.length_map, List.length_take]; unfold sizeLine; omega
            · show _ = natsV _
              rw [List.take_succ, hx, List.map_append, natsV_app]; rfl
          · obtain ⟨acc, b3, ea3⟩ := h
            have ea3 : acc = natsV ((ls.take (bs.map fun b => V.ref b.1).length).map (·.1)) := ea3
            rw [List.length_map, blen, List.take_length] at ea3
            subst ea3
            refine ⟨z, D3, natsV [0], _, rfl, rfl, b3.1 _ _ z13, b3.2, by rw [natsV_len, natsV_len, List.length_map]; show 1 + _ ≤ _; unfold sizeLine; omega, fun c1 c10 => ?_⟩
            rw [← natsV_app]
            generalize e15 : upd H14 c1 _ = H15
            obtain ⟨s15, c15, f15⟩ := newE c10 e15
            have sA := same_trans s13 (same_trans b3.1 s15)
            refine ⟨_, rfl, D, rfl, ⟨_, SqL.of (sA _ _ D12)⟩, fun D4 D40 => ?_⟩
            refine lc_list (xs := bs.map fun b => V.ref b.1) (PB H15 D4 fun i acc _ => acc = natsV ((ls.take i).map (·.2.2))) (PB.start D40 fun _ _ => rfl) (fun i Hx _ h => ?_) (fun i v Hx hv h => ?_) (fun H16 h => ?_)
            · obtain ⟨acc, b4, _⟩ := h
              exact SqL.of (b4.1 _ _ (sA _ _ D12))
            · obtain ⟨acc, b4, rfl⟩ := h
              obtain ⟨x, a, hx, rfl, ha⟩ := told (same_trans sA b4.1) i v hv
              refine ⟨a, _, rfl, SqT.of ha, rfl, _, _, rfl, _, _, rfl, _, _, rfl, rfl, rfl, yesI ⟨_, rfl, PB.add b4 D40 (same_refl _) ?_ fun H15 _ _ => ?_⟩⟩
              · rw [natsV_len, List.length_map, List.length_take]; unfold sizeLine; omega
              · show _ = natsV _
                rw [List.take_succ, hx, List.map_append, natsV_app]; rfl
            · obtain ⟨acc, b4, ea4'⟩ := h
              have ea4' : acc = natsV ((ls.take (bs.map fun b => V.ref b.1).length).map (·.2.2)) := ea4'
              rw [List.length_map, blen, List.take_length] at ea4'
              subst ea4'
              refine ⟨c1, D4, _, _, rfl, rfl, b4.1 _ _ c15, b4.2, by simp only [natsV_len, List.length_append, List.length_map, List.length_singleton]; unfold sizeLine; omega, fun c2 c20 => ?_⟩
              rw [← natsV_app]
              generalize e17 : upd H16 c2 _ = H17
              obtain ⟨s17, c17, f17⟩ := newE c20 e17
              have sB := same_trans sA (same_trans b4.1 s17)
              refine ⟨_, rfl, m, _, dx, _, _, rfl, sB _ _ m12, T.c_Machine, T.n_Machine_ends, rfl, ea2, _, rfl, .inr (SqT.of (sB _ _ ea12)), fun e3' e30 => ?_⟩
              generalize e18 : upd H17 e3' _ = H18
              obtain ⟨s18, e3v, f18⟩ := newE e30 e18
              refine ⟨c2, e3', _, _, rfl, rfl, s18 _ _ c17, e3v, by simp only [natsV_len, List.length_append, List.length_map, List.length_singleton]; unfold sizeLine; omega, fun nb nb0 => ?_⟩
              rw [← natsV_app]
              generalize e19 : upd H18 nb _ = H19
              obtain ⟨s19, nb19, f19⟩ := newE nb0 e19
              have sC := same_trans sB (same_trans s18 s19)
              -- the places
              refine ⟨_, rfl, nb, _, rfl, SqL.of (by rw [← natsV_ints]; exact nb19), by simp only [List.length_append, List.length_map, List.length_singleton]; omega, fun u k es' u0 nd' mem' len' => ?_⟩
              generalize e20 : upd H19 u _ = H20
              obtain ⟨s20, u20, _⟩ := newE u0 e20
              refine ⟨u, _, k, rfl, u20, fun ns v nsrt nmem nlen v0 => ?_⟩
              generalize e21 : upd H20 v _ = H21
              obtain ⟨s21, v21, _⟩ := newE v0 e21
              refine ⟨v, _, rfl, .inl ⟨SqL.of v21, fun pl pl0 => ?_⟩⟩
              have ens : ns.map V.int = natsV (List.range n) := natsV_sorted nsrt (EM.range_sorted n) fun k => by
                rw [nmem, decide_eq_true_eq, List.mem_map]
                refine exists_congr fun j => and_congr_left fun _ => ?_
                rw [List.mem_range, List.mem_append, List.mem_append, List.mem_append, List.mem_singleton, List.mem_map, List.mem_map]
                constructor
                · rintro (((e | ⟨x, hx, e⟩) | ⟨x, hx, e⟩) | hj)
                  · omega
                  · rw [← e]; exact (fm.sc.bnd x hx).1
                  · rw [← e]; exact (fm.sc.bnd x hx).2.2
                  · exact fm.enb j hj
                · intro hj
                  by_cases j0 : j = 0
                  · exact .inl (.inl (.inl j0))
                  · obtain ⟨x, hx, e⟩ := fm.sc.all j (by omega) hj
                    exact .inl (.inr ⟨x, hx, e⟩)
              rw [ens]
              generalize e22 : upd H21 pl _ = H22
              obtain ⟨s22, pl22, _⟩ := newE pl0 e22
              have sD := same_trans sC (same_trans s20 (same_trans s21 s22))
              have m22 := sD _ _ m12
              have npl : pl ≠ m := fun z => by rw [z, m22] at pl22; cases pl22
              refine ⟨_, rfl, m, _, dx, _, rfl, m22, T.c_Machine, T.n_Machine_places, (by show 4 < 1000; decide), ?_⟩
              generalize e23 : upd H22 m _ = H23
              obtain ⟨m23, f23⟩ := putE e23
              have k23 : Kp (only m) H H23 := fun b u e n => (f23 b n).trans (sD _ _ (k12 b u e n))
              have M23 : MAt K H23 m o n ls en := ⟨dx, td, ea2, la2, pl, ts', m23, (f23 td ntd).trans (sD _ _ td12), (f23 ea2 nea).trans (sD _ _ ea12), (f23 la2 nla).trans (sD _ _ la12),
                Each.mono ln12 fun a c h => (f23 a fun z => by rw [z, m12] at h; cases h).trans (sD _ _ h), (f23 pl npl).trans pl22⟩
              have lc : ∀ x, x ∈ ls → x.2.1 ≤ 122 := fun x hx => (lok.2.2 _ (fm.sc.bnd x hx).2.1).2
              have la23 := (f23 la2 nla).trans (sD _ _ la12)
              have ln23 : LnAt H23 ts' ls := Each.mono ln12 fun a c h => (f23 a fun z => by rw [z, m12] at h; cases h).trans (sD _ _ h)
              have ea23 := (f23 ea2 nea).trans (sD _ _ ea12)
              have idle : ∀ {Hx : Hp} {Q' : VK} {E' : XK}, Same H23 Hx → (∀ H', Q .non H' → Q' .non H') → spIdle K [V.ref m] Hx Q' E' := fun sx qq =>
                ⟨m, o, l, n, ls, en, rfl, M23.mono sx, (orK k23).mono sx, fm, n3, lsl, fun H' s' => qq _ (q H' (fun b u e n => s' _ _ (sx _ _ (k23 b u e n))) (M23.mono (same_trans sx s')))⟩
              refine ⟨_, rfl, m, _, dx, _, _, rfl, m23, T.c_Machine, T.n_Machine_lanes, rfl, (by decide), fun z1 z10 => ?_⟩
              generalize e24 : upd H23 z1 _ = H24
              obtain ⟨s24, z24, _⟩ := newE z10 e24
              refine ⟨_, _, .tup (SqT.of (s24 _ _ la23)) (dp_lanes (ln23.mono s24)), .tup (SqT.of z24) .nil, shaped_lanes lc, rfl, ?_⟩
              rw [eqv_nil2]
              refine ⟨_, rfl, ?_⟩
              by_cases hls : ls = []
              · subst hls
                refine iteF ?_
                refine ⟨_, rfl, m, _, dx, _, _, rfl, s24 _ _ m23, T.c_Machine, T.n_Machine_ends, rfl, (by decide), fun z2 z20 => ?_⟩
                generalize e25 : upd H24 z2 _ = H25
                obtain ⟨s25, z25, _⟩ := newE z20 e25
                have ds := shaped_nats en
                refine ⟨_, _, .tup (SqT.of (s25 _ _ (s24 _ _ ea23))) (dp_nats en), .tup (SqT.of z25) .nil, ds.2, rfl, ?_⟩
                rw [eqv_nil2]
                refine ⟨_, rfl, ?_⟩
                have ne : en ≠ [] := fun z => by
                  obtain ⟨w, hw⟩ := fm.use 0 np
                  subst z
                  cases w with
                  | nil => exact absurd hw (List.not_mem_nil)
                  | cons c r => obtain ⟨q', hq', _⟩ := hw; exact absurd hq' (List.not_mem_nil)
                rw [decide_eq_false (show ¬ _ = [] from fun z => ne (List.map_eq_nil_iff.mp z))]
                exact iteT ⟨_, rfl, m, dx, _, rfl, s25 _ _ (s24 _ _ m23), rfl, idle (E' := E0) (same_trans s24 s25) fun _ h => h⟩
              · rw [decide_eq_false (show ¬ _ = [] from fun z => hls (List.map_eq_nil_iff.mp z))]
                refine iteT (iteT ?_)
                exact ⟨_, rfl, m, dx, _, rfl, s24 _ _ m23, rfl, idle (E' := E0) s24 fun _ h => h⟩
end
end E

set_option autoImplicit true
set_option maxHeartbeats 4000000
set_option Elab.async false
set_option linter.all false
set_option maxRecDepth 100000
set_option maxHeartbeats 4000000
/-! A word in a machine; the least machine. -/
namespace E
open PySem PySem.Spec PyProof.Rows L2
theorem inV_oV (q : Option Nat) (ns : List Nat) : inV (oV q) (natsV ns) = true ↔ ∃ p, q = some p ∧ p ∈ ns := by
  unfold inV natsV
  rw [List.any_map, List.any_eq_true]
  cases q with
  | none => simp [oV, eqV]
  | some p =>
    constructor
    · rintro ⟨x, hx, e⟩
      have e : ((x : Int) == (p : Int)) = true := e
      have : (x : Int) = p := eq_of_beq e
      exact ⟨p, rfl, by rw [show p = x by omega]; exact hx⟩
    · rintro ⟨p', e, hp⟩
      cases e
      exact ⟨p, hp, show ((p : Int) == (p : Int)) = true from beq_self_eq_true _⟩
theorem flat_oV (q : Option Nat) : flatV (oV q) = true := by cases q <;> rfl
section
variable {P : Program} {w : World} {K : PySem.W.Frag} {mg : Str → Option Value} {base : Heap}
def spMIn (K : PySem.W.Frag) : Sp := fun vs H Q _ => ∃ (m o : Addr) (l : List Nat) (n : Nat) (ls : List EM.Lane) (en u : List Nat), vs = [.ref m, .str (sOf u)] ∧ MAt K H m o n ls en ∧ OrAt K H o l ∧ EM.Over l u ∧ u.length ≤ 100 ∧ ls.Pairwise (EM.Lt l) ∧
  ∀ b H', Same H H' → (b = true ↔ EM.Fu ls en u 0) → Q (.bl b) H'
theorem ok_min (T : Tx K mg) (hi : Ok P w K mg base 1 (He.ma K (He.ga K "Order") "is_word") ["self", "thing"] (spIsW K)) (hw : Ok P w K mg base 2 (He.ma K (He.ga K "Machine") "walked") ["self", "p", "word"] (spWalk K)) :
    Ok P w K mg base 3 (He.ma K (He.ga K "Machine") "__contains__") ["self", "thing"] (spMIn K) := by
  obtain ⟨_, F_Order_is_word, b_Order_is_word, _⟩ := hi
  obtain ⟨_, F_Machine_walked, b_Machine_walked, _⟩ := hw
  refine ok_mk T.fn_Machine_contains sc_Machine_contains (fun _ _ _ _ _ _ us hl => match us, hl with | [_, _], _ => rfl) (fun vs H Q E h => ?_) (fun cdv A outer s H vs Q E hr h => ?_)
  · obtain ⟨m, o, l, n, ls, en, u, rfl, _⟩ := h
    rfl
  · obtain ⟨m, o, l, n, ls, en, u, rfl, hm, ho, ov, u100, srt, q⟩ := h
    have hu := hu_of hr
    have hr1 := hr.mono (show 1 ≤ 2 by omega)
    refine ⟨_, (pss_one (ps_ret (pe_and (pe_meth (pe_fld (pv 0) rfl) T.c_Order T.m_Order_is_word F_Order_is_word hr1 b_Order_is_word .nil pass0 (pa_cons (pv 1) pa_nil)) (pe_one (pe_cmpR op_in_seq (pe_meth (pv 0) T.c_Machine T.m_Machine_walked F_Machine_walked hr b_Machine_walked .nil pass0 (pa_cons pe_int (pa_cons (pv 1) pa_nil))) (pe_fld (pv 0) rfl) rfl))))), ?_⟩
    obtain ⟨dx, td, ea, la, pl, ts, hm, htd, hea, hla, hln, hpl⟩ := hm
    obtain ⟨dxo, rk, hoi, kvr, hrk, hrv⟩ := id ho
    refine ⟨_, rfl, m, _, dx, _, _, rfl, hm, T.c_Machine, T.n_Machine_order, rfl, o, dxo, _, rfl, hoi, rfl, _, rfl, o, l, u, rfl, ho, ov, u100, fun H1 s1 => ?_⟩
    refine ⟨_, rfl, iteT ?_⟩
    refine ⟨_, rfl, m, dx, _, rfl, s1 _ _ hm, rfl, _, rfl, m, td, dx, _, ls, 0, u, rfl, s1 _ _ hm, rfl, rfl, s1 _ _ htd, fun H2 s2 => ?_⟩
    have s12 := same_trans s1 s2
    refine ⟨_, rfl, m, _, dx, _, _, rfl, s12 _ _ hm, T.c_Machine, T.n_Machine_ends, rfl, ea, _, rfl, .inr (SqT.of (s12 _ _ hea)), flat_oV _, flat_nats _, ?_⟩
    exact q _ _ s12 ((inV_oV _ _).trans (wkO_fu srt u 0).symm)
def spMLeast (K : PySem.W.Frag) : Sp := fun vs H Q _ => ∃ (m o : Addr) (l : List Nat) (n : Nat) (ls : List EM.Lane) (en : List Nat), vs = [.ref m] ∧ MAt K H m o n ls en ∧ OrAt K H o l ∧ LetOk l ∧ l.length ≤ 5 ∧ EM.Form l n ls en ∧ n ≤ 300 ∧ ls.length ≤ 1500 ∧
  ∀ m' n' ls' en' H', Same H H' → EM.Form l n' ls' en' → EM.Red n' ls' en' → (∀ w, EM.Fu ls' en' w 0 ↔ EM.Fu ls en w 0) → n' ≤ 300 → ls'.length ≤ 1500 → MAt K H' m' o n' ls' en' → Q (.ref m') H'
theorem ok_mleast (T : Tx K mg) (hl : Ok P w K mg base 3 (He.ga K "least_form") ["order", "places", "targets", "ends"] (spLeast K)) (hm : Ok P w K mg base 4 (He.ma K (He.ga K "Machine") "__init__") ["self", "order", "lanes", "ends"] (spMInit K)) :
    Ok P w K mg base 6 (He.ma K (He.ga K "Machine") "least") ["self"] (spMLeast K) := by
  obtain ⟨_, F_least_form, b_least_form, k_least_form⟩ := hl
  obtain ⟨_, F_Machine_init, b_Machine_init, _⟩ := hm
  refine ok_mk T.fn_Machine_least sc_Machine_least (fun _ _ _ _ _ _ us hl => match us, hl with | [_], _ => rfl) (fun vs H Q E h => ?_) (fun cdv A outer s H vs Q E hr h => ?_)
  · obtain ⟨m, o, l, n, ls, en, rfl, _⟩ := h
    rfl
  · obtain ⟨m, o, l, n, ls, en, rfl, ⟨dx, td, ea, la, pl, ts, hm, htd, hea, hla, hln, hpl⟩, ho, lok, l5, fm, n3, lsl, q⟩ := h
    have hu := hu_of hr
    have hr3 := hr.mono (show 3 ≤ 5 by omega)
    refine ⟨_, (pss_cons (ps_asg (pe_call F_least_form hr3 rfl T.g_least_form k_least_form b_least_form .nil pass0 (pa_cons (pe_fld (pv 0) rfl) (pa_cons (pe_fld (pv 0) rfl) (pa_cons (pe_fld (pv 0) rfl) (pa_cons (pe_fld (pv 0) rfl) pa_nil))))) (pg_tup (by rfl) (pgs_cons (pg_name (i := 1) sc_Machine_least.nd rfl (by first | exact Or.inl rfl | exact Or.inr rfl)) (pgs_cons (pg_name (i := 2) sc_Machine_least.nd rfl (by first | exact Or.inl rfl | exact Or.inr rfl)) pgs_nil))))
      (pss_one (ps_ret (pe_make T.mk_Machine F_Machine_init hr (by rfl) T.g_Machine b_Machine_init .nil pass0 (pa_cons (pe_fld (pv 0) rfl) (pa_cons (pv 1) (pa_cons (pv 2) pa_nil))))))), ?_⟩
    refine ⟨_, rfl, m, _, dx, _, _, rfl, hm, T.c_Machine, T.n_Machine_order, rfl, _, rfl, m, _, dx, _, _, rfl, hm, T.c_Machine, T.n_Machine_places, rfl, _, rfl, m, _, dx, _, _, rfl, hm, T.c_Machine, T.n_Machine_targets, rfl, _, rfl, m, _, dx, _, _, rfl, hm, T.c_Machine, T.n_Machine_ends, rfl, ?_⟩
    refine ⟨o, pl, td, ea, l, n, ls, en, rfl, ho, lok, l5, hpl, htd, hea, fm, n3, lsl, fun t n' ls' en' H1 s1 fm' rd' lang n3' lsl' ⟨la', ea', ts', ht, hla', hln', hea'⟩ => ?_⟩
    refine ⟨t, _, rfl, SqT.of ht, rfl, _, _, rfl, _, _, rfl, rfl, ?_⟩
    refine ⟨_, rfl, m, _, dx, _, _, rfl, s1 _ _ hm, T.c_Machine, T.n_Machine_order, rfl, _, rfl, _, rfl, fun x dx' x0 dx0 nx => ?_⟩
    generalize e2 : upd H1 dx' _ = H2
    obtain ⟨s2, d2, f2⟩ := newE dx0 e2
    have x2 : H2 x = none := (f2 x nx.symm).trans x0
    generalize e3 : upd H2 x _ = H3
    obtain ⟨s3, x3, f3⟩ := newE x2 e3
    have s13 := same_trans s2 s3
    refine ⟨x, dx', o, la', ea', l, n', ts', ls', en', rfl, x3, (ho.mono s1).mono s13, lok, s13 _ _ hla', hln'.mono s13, s13 _ _ hea', fm', n3', lsl', fun H4 k4 M4 => ⟨rfl, ?_⟩⟩
    refine q x n' ls' en' H4 (fun b u e => ?_) fm' rd' lang n3' lsl' M4
    have e1 := s1 _ _ e
    exact k4 _ _ (s13 _ _ e1) (fun z => by rw [z, x0] at e1; cases e1)
end
end E

set_option autoImplicit true
set_option maxHeartbeats 4000000
set_option Elab.async false
set_option linter.all false
set_option maxRecDepth 100000
set_option maxHeartbeats 4000000
/-! The search over the states of a pattern: its objects and its plain law. -/
namespace E
open PySem PySem.Spec PyProof.Rows L2
theorem none_back {H H' : Hp} {b : Addr} (s : Same H H') (h : H' b = none) : H b = none := by
  cases e : H b with
  | none => rfl
  | some u => have := s _ _ e; rw [h] at this; cases this
def nkX (X : List Nat) (c : Nat) : NK := (X.map (fun j : Nat => (j : Int)), sOf [c])
theorem nk_inj {X Y : List Nat} {c d : Nat} : nkX X c = nkX Y d ↔ X = Y ∧ c = d := by
  constructor
  · intro h
    have h1 : X.map (fun j : Nat => (j : Int)) = Y.map (fun j : Nat => (j : Int)) := congrArg Prod.fst h
    have h2 : sOf [c] = sOf [d] := congrArg Prod.snd h
    have h3 := congrArg (fun l : List Int => l.map Int.toNat) h1
    have h4 := sOf_inj h2
    refine ⟨by simpa [Function.comp_def] using h3, by simpa using h4⟩
  · rintro ⟨rfl, rfl⟩; rfl
section
variable {P : Program} {w : World}
def TabN (P : Program) (w : World) (H : Hp) (tb : Addr) (kvs : List (NK × V)) (δp : List Nat → Nat → Option (List Nat)) : Prop := DictN P w H tb kvs ∧ ∀ X c, (δp X c = none → valV kvs (nkX X c) = none) ∧ ∀ Y, δp X c = some Y → ∃ b, valV kvs (nkX X c) = some (.ref b) ∧ H b = some (.tup (natsV Y))
/-- the objects of the search: states, known, table -/
structure Bq (P : Program) (w : World) (H0 H : Hp) (sl kn tb : Addr) (sa : List Addr) (S : List (List Nat)) (δp : List Nat → Nat → Option (List Nat)) (cnt : Nat) : Prop where
  old : Same H0 H
  sl : H sl = some (.lst (refs sa))
  st : Each (fun a X => H a = some (.tup (natsV X))) sa S
  kn : ∃ kvs : List (List Key × V), H kn = some (.dT kvs) ∧ kvs.length ≤ S.length ∧ ∀ X, (valV kvs (kX X)).isSome = true ↔ X ∈ S
  tb : ∃ kvs : List (NK × V), TabN P w H tb kvs δp ∧ kvs.length ≤ cnt
variable {H0 H H' : Hp} {sl kn tb : Addr} {sa : List Addr} {S : List (List Nat)} {δp : List Nat → Nat → Option (List Nat)} {cnt : Nat}
theorem TabN.mono {kvs : List (NK × V)} (s : Same H H') (h : TabN P w H tb kvs δp) : TabN P w H' tb kvs δp := by
  obtain ⟨d, r⟩ := h
  refine ⟨d.kp ?_ fun c xs e => s _ _ e, fun X c => ⟨(r X c).1, fun Y e => ?_⟩⟩
  · obtain ⟨kas, h1, _⟩ := d
    rw [s _ _ h1, h1]
  · obtain ⟨b, h1, h2⟩ := (r X c).2 Y e
    exact ⟨b, h1, s _ _ h2⟩
theorem Bq.mono (s : Same H H') (h : Bq P w H0 H sl kn tb sa S δp cnt) : Bq P w H0 H' sl kn tb sa S δp cnt := by
  obtain ⟨kvs, k1, k2⟩ := h.kn
  obtain ⟨kvt, t1, t2⟩ := h.tb
  exact ⟨same_trans h.old s, s _ _ h.sl, h.st.mono fun a X e => s _ _ e, ⟨kvs, s _ _ k1, k2⟩, kvt, t1.mono s, t2⟩
theorem Bq.tbo (h : Bq P w H0 H sl kn tb sa S δp cnt) : ∃ u, H tb = some u ∧ (∀ xs, u ≠ .tup xs) ∧ (∀ xs, u ≠ .lst xs) ∧ ∀ kvs, u ≠ .dT kvs := by
  obtain ⟨kvt, ⟨⟨kas, h1, _⟩, _⟩, _⟩ := h.tb
  exact ⟨_, h1, fun _ z => (nomatch z), fun _ z => (nomatch z), fun _ z => (nomatch z)⟩
theorem Bq.cn {c' : Nat} (h : Bq P w H0 H sl kn tb sa S δp cnt) (l : cnt ≤ c') : Bq P w H0 H sl kn tb sa S δp c' := by
  obtain ⟨kvt, t1, t2⟩ := h.tb
  exact ⟨h.old, h.sl, h.st, h.kn, kvt, t1, Nat.le_trans t2 l⟩
theorem Bq.tup (h : Bq P w H0 H sl kn tb sa S δp cnt) (g : ∀ c, c ≠ tb → H' c = H c) {a : Addr} {xs : List V} (e : H a = some (.tup xs)) : H' a = some (.tup xs) := by
  obtain ⟨u, hu, u1, _⟩ := h.tbo
  exact (g _ fun z => by rw [z, hu] at e; cases e; exact u1 _ rfl).trans e
/-- the table with one key more -/
theorem Bq.put (h : Bq P w H0 H sl kn tb sa S δp cnt) (n0 : H0 tb = none) {kvs : List (NK × V)} (dn : TabN P w H tb kvs δp) (kl : kvs.length ≤ cnt) {X Y : List Nat} {c : Nat} {t : Addr} (ht : H t = some (.tup (natsV Y))) (g : ∀ c, c ≠ tb → H' c = H c)
    (dn' : DictN P w H' tb (putK kvs (nkX X c) (.ref t))) : Bq P w H0 H' sl kn tb sa S (fun X' c' => if X' = X ∧ c' = c then some Y else δp X' c') (cnt + 1) := by
  obtain ⟨u, hu, u1, u2, u3⟩ := h.tbo
  have ntup : ∀ {a : Addr} {xs : List V}, H a = some (.tup xs) → H' a = some (.tup xs) := fun e => (g _ fun z => by rw [z, hu] at e; cases e; exact u1 _ rfl).trans e
  obtain ⟨kvk, k1, k2⟩ := h.kn
  refine ⟨fun b o e => (g b (ne_of_none e n0)).trans (h.old _ _ e), (g _ fun z => by have e := h.sl; rw [z, hu] at e; cases e; exact u2 _ rfl).trans h.sl, h.st.mono fun a X e => ntup e, ⟨kvk, (g _ fun z => by rw [z, hu] at k1; cases k1; exact u3 _ rfl).trans k1, k2⟩, _, ⟨dn', fun X' c' => ?_⟩, Nat.le_trans (putK_len _ _ _) (by omega)⟩
  rw [valV_put]
  show ((if X' = X ∧ c' = c then some Y else δp X' c') = none → (if nkX X' c' = nkX X c then some (V.ref t) else valV kvs (nkX X' c')) = none) ∧ ∀ Y', (if X' = X ∧ c' = c then some Y else δp X' c') = some Y' → ∃ b, (if nkX X' c' = nkX X c then some (V.ref t) else valV kvs (nkX X' c')) = some (.ref b) ∧ H' b = some (.tup (natsV Y'))
  by_cases e : X' = X ∧ c' = c
  · rw [if_pos e, if_pos (nk_inj.mpr e)]
    refine ⟨fun z => (nomatch z), fun Y' e' => ?_⟩
    cases e'
    exact ⟨t, rfl, ntup ht⟩
  · rw [if_neg e, if_neg (fun z => e (nk_inj.mp z))]
    refine ⟨(dn.2 X' c').1, fun Y' e' => ?_⟩
    obtain ⟨b, h1, h2⟩ := (dn.2 X' c').2 Y' e'
    exact ⟨b, h1, ntup h2⟩
/-- one state more -/
theorem Bq.add (h : Bq P w H0 H sl kn tb sa S δp cnt) (n1 : H0 sl = none) (n2 : H0 kn = none) {kvs : List (List Key × V)} (hk : H kn = some (.dT kvs)) (kl : kvs.length ≤ S.length) (kv : ∀ X, (valV kvs (kX X)).isSome = true ↔ X ∈ S) {Y : List Nat} {t : Addr} (ht : H t = some (.tup (natsV Y)))
    (e1 : H' sl = some (.lst (refs (sa ++ [t])))) (e2 : H' kn = some (.dT (putK kvs (kX Y) (.bl true)))) (g : ∀ c, c ≠ sl → c ≠ kn → H' c = H c) : Bq P w H0 H' sl kn tb (sa ++ [t]) (S ++ [Y]) δp cnt := by
  obtain ⟨u, hu, u1, u2, u3⟩ := h.tbo
  have ntup : ∀ {a : Addr} {xs : List V}, H a = some (.tup xs) → H' a = some (.tup xs) := fun e => (g _ (ne_of e h.sl fun z => nomatch z) (ne_of e hk fun z => nomatch z)).trans e
  obtain ⟨kvt, t1, t2⟩ := h.tb
  refine ⟨fun b o e => (g b (ne_of_none e n1) (ne_of_none e n2)).trans (h.old _ _ e), e1, (h.st.mono fun a X e => ntup e).snoc (ntup ht), ⟨_, e2, Nat.le_trans (putK_len _ _ _) (by rw [List.length_append, List.length_singleton]; omega), fun X => ?_⟩, kvt, ⟨t1.1.kp (g _ ?_ ?_) fun c xs e => ntup e, fun X c => ⟨(t1.2 X c).1, fun Y' e' => ?_⟩⟩, t2⟩
  · rw [valV_put]
    by_cases e : X = Y
    · rw [if_pos (by rw [e]), e]; simp
    · rw [if_neg (fun z => e (kX_inj.mp z)), kv X, List.mem_append, List.mem_singleton]
      exact ⟨.inl, fun h => h.elim id fun z => absurd z e⟩
  · intro z
    have e := h.sl
    rw [← z, hu] at e; cases e; exact u2 _ rfl
  · intro z
    rw [← z, hu] at hk; cases hk; exact u3 _ rfl
  · obtain ⟨b, h1, h2⟩ := (t1.2 X c).2 Y' e'
    exact ⟨b, h1, ntup h2⟩
end
/-! ### the plain law of the search -/
structure Bs (m : Nat) (δ : List Nat → Nat → Option (List Nat)) (S : List (List Nat)) (δp : List Nat → Nat → Option (List Nat)) : Prop where
  nd : S.Nodup
  ok : ∀ X, X ∈ S → X = [0] ∨ EM.SpotsOk m X
  sub : ∀ X, X ∈ S → X.Sublist (List.range (m + 1))
  z : [0] ∈ S
  s1 : ∀ X c Y, δp X c = some Y → δ X c = some Y ∧ Y ∈ S
section
variable {m : Nat} {δ δp : List Nat → Nat → Option (List Nat)} {S : List (List Nat)}
theorem Bs.len (h : Bs m δ S δp) (m7 : m ≤ 7) : S.length ≤ 256 := by
  have := EM.subs_bound h.nd h.sub
  have : 2 ^ (m + 1) ≤ 2 ^ 8 := Nat.pow_le_pow_right (by decide) (by omega)
  have : (2 : Nat) ^ 8 = 256 := rfl
  omega
theorem Bs.len8 (h : Bs m δ S δp) (m7 : m ≤ 7) {X : List Nat} (hX : X ∈ S) : X.length ≤ 8 ∧ ∀ p, p ∈ X → p ≤ m := by
  have := h.sub X hX
  have l := this.length_le
  rw [List.length_range] at l
  exact ⟨by omega, fun p hp => by have := List.mem_range.mp (this.subset hp); omega⟩
theorem Bs.put (h : Bs m δ S δp) {X Y : List Nat} {c : Nat} (e : δ X c = some Y) (hY : Y ∈ S) : Bs m δ S (fun X' c' => if X' = X ∧ c' = c then some Y else δp X' c') := by
  refine ⟨h.nd, h.ok, h.sub, h.z, fun X' c' Y' e' => ?_⟩
  have e' : (if X' = X ∧ c' = c then some Y else δp X' c') = some Y' := e'
  by_cases z : X' = X ∧ c' = c
  · rw [if_pos z] at e'
    cases e'
    rw [z.1, z.2]
    exact ⟨e, hY⟩
  · rw [if_neg z] at e'
    exact h.s1 _ _ _ e'
theorem Bs.add (h : Bs m δ S δp) {Y : List Nat} (hY : Y ∉ S) (h1 : EM.SpotsOk m Y) (h2 : Y.Sublist (List.range (m + 1))) : Bs m δ (S ++ [Y]) δp := by
  refine ⟨List.nodup_append.mpr ⟨h.nd, by simp, fun a ha b hb e => hY (by rw [List.mem_singleton] at hb; rw [← hb, ← e]; exact ha)⟩, fun X hX => ?_, fun X hX => ?_, List.mem_append.mpr (.inl h.z), fun X c Y' e => ⟨(h.s1 _ _ _ e).1, List.mem_append.mpr (.inl (h.s1 _ _ _ e).2)⟩⟩
  · rcases List.mem_append.mp hX with hX | hX
    · exact h.ok X hX
    · rw [List.mem_singleton.mp hX]; exact .inr h1
  · rcases List.mem_append.mp hX with hX | hX
    · exact h.sub X hX
    · rw [List.mem_singleton.mp hX]; exact h2
theorem done_put {R : List Nat → Nat → Prop} {X0 Y : List Nat} {c0 : Nat} (h : ∀ X c Y', R X c → δ X c = some Y' → δp X c = some Y') (e : δ X0 c0 = some Y) (X : List Nat) (c : Nat) (Y' : List Nat) (r : R X c ∨ (X = X0 ∧ c = c0)) (k : δ X c = some Y') : (if X = X0 ∧ c = c0 then some Y else δp X c) = some Y' := by
  by_cases z : X = X0 ∧ c = c0
  · rw [if_pos z, ← e, ← k, z.1, z.2]
  · rw [if_neg z]
    exact h X c Y' (r.resolve_right z) k
/-- a language by two tables that agree -/
theorem dr_agree {f g : List Nat → Prop} (h : Bs m δ S δp) (hf : ∀ X, X ∈ S → (f X ↔ g X)) (dn : ∀ X, X ∈ S → ∀ c Y, δ X c = some Y → δp X c = some Y) : ∀ w X, X ∈ S → (EM.DR δp f w X ↔ EM.DR δ g w X) := by
  intro w
  induction w with
  | nil => intro X hX; exact hf X hX
  | cons c w ih =>
    intro X hX
    show (∃ t, δp X c = some t ∧ EM.DR δp f w t) ↔ ∃ t, δ X c = some t ∧ EM.DR δ g w t
    constructor
    · rintro ⟨t, e, k⟩
      have := h.s1 _ _ _ e
      exact ⟨t, this.1, (ih t this.2).mp k⟩
    · rintro ⟨t, e, k⟩
      have e' := dn X hX c t e
      exact ⟨t, e', (ih t (h.s1 _ _ _ e').2).mpr k⟩
end
end E

set_option autoImplicit true
set_option maxHeartbeats 4000000
set_option Elab.async false
set_option linter.all false
set_option maxRecDepth 100000
set_option maxHeartbeats 4000000
/-! The form of a pattern. -/
namespace E
open PySem PySem.Spec PyProof.Rows L2
theorem putK_old {κ : Type} [DecidableEq κ] {kvs : List (κ × V)} {k : κ} {u v : V} (h : valV kvs k = some u) : (putK kvs k v).length = kvs.length := by
  have : (kvs.any fun kv => decide (kv.1 = k)) = true := by
    induction kvs with
    | nil => cases h
    | cons p r ih =>
      rw [List.any_cons]
      by_cases e : p.1 = k
      · rw [decide_eq_true e]; rfl
      · rw [valV_neg e] at h
        rw [ih h, Bool.or_true]
  unfold putK
  rw [if_pos this, List.length_map]
/-- a text's followers, told anew -/
theorem sp_set0 {K : PySem.W.Frag} {H H' : Hp} {x F : Addr} {st : St} {f : List Nat} {kvs : List (Key × V)} (h : SpAt K H x st) (hF : H F = some (.lst (natsV f))) (nF : ¬ st.M F) (hk : H st.Fo = some (.dK kvs)) (hk2 : ∀ (q : Nat) a, st.fas[q]? = some a → valV kvs (.inl (q : Nat)) = some (.ref a))
    (hk3 : (putK kvs (.inl 0) (.ref F)).length ≤ st.ltl.length) (e : H' st.Fo = some (.dK (putK kvs (.inl 0) (.ref F)))) (g : ∀ b, b ≠ st.Fo → H' b = H b) : SpAt K H' x { st with fas := st.fas.set 0 F, fws := st.fws.set 0 f } := by
  obtain ⟨⟨dx, h1⟩, h2, _, h6, h7, h8, h9, h10, h11⟩ := h
  refine ⟨⟨dx, ?_⟩, ?_, ⟨_, e, hk3, fun q a hq => ?_⟩, fun q a f' ha hf => ?_, ?_, fun z => ?_, by show (st.fas.set 0 F).length = _; rw [List.length_set]; exact h9, by show (st.fws.set 0 f).length = _; rw [List.length_set]; exact h10, h11⟩
  · rw [g x (ne_of h1 hk (fun z => nomatch z))]; exact h1
  · show H' st.L = _
    rw [g _ (ne_of h2 hk (fun z => nomatch z))]; exact h2
  · have hq : (st.fas.set 0 F)[q]? = some a := hq
    rw [List.getElem?_set] at hq
    rw [valV_put]
    by_cases z : 0 = q
    · subst z
      rw [if_pos rfl] at hq
      split at hq
      · cases hq; exact if_pos rfl
      · cases hq
    · rw [if_neg z] at hq
      exact (if_neg (fun e => z (inl_inj (a := q) (b := 0) |>.mp e).symm)).trans (hk2 q a hq)
  · have ha : (st.fas.set 0 F)[q]? = some a := ha
    have hf : (st.fws.set 0 f)[q]? = some f' := hf
    rw [List.getElem?_set] at ha hf
    have old : ∀ {a f'}, H a = some (.lst (natsV f')) → H' a = some (.lst (natsV f')) := fun e => by rw [g _ (ne_of e hk (fun z => nomatch z))]; exact e
    by_cases z : 0 = q
    · subst z
      rw [if_pos rfl] at ha hf
      split at ha
      · cases ha
        split at hf
        · cases hf; exact old hF
        · cases hf
      · cases ha
    · rw [if_neg z] at ha hf
      exact old (h6 q a f' ha hf)
  · show (st.fas.set 0 F).Nodup
    cases hfa : st.fas with
    | nil => exact .nil
    | cons a r =>
      rw [hfa] at h7
      exact List.nodup_cons.mpr ⟨fun m => nF (.inr (.inr (by rw [hfa]; exact List.mem_cons_of_mem _ m))), (List.nodup_cons.mp h7).2⟩
  · have z : st.L ∈ st.fas.set 0 F := z
    rcases List.mem_or_eq_of_mem_set z with z | z
    · exact h8 z
    · exact nF (.inl z.symm)
/-- the names within {state: True for state in states ..} -/
abbrev sc_in : Scope := relS { kind := .function, names := [(".0", .local), ("state", .local), ("any", .globalImplicit), ("lasts", .free)], isGenerator := false, isCoroutine := false } (defScope s_pattern_form)
section
variable {P : Program} {w : World} {K : PySem.W.Frag} {mg : Str → Option Value} {base : Heap}
def spPForm (K : PySem.W.Frag) : Sp := fun vs H Q _ => ∃ (o : Addr) (l txt : List Nat) (d : Nat) (p : EM.Pat d), d ≤ 2 ∧ vs = [.ref o, .str (sOf txt)] ∧ OrAt K H o l ∧ LetOk l ∧ l.length ≤ 5 ∧ txt = EM.patT (EM.innT d) p ∧ txt.length ≤ 700 ∧ EM.PatOk (EM.Wf l d) p ∧ EM.patN (EM.innN d) p ≤ 7 ∧
  ∀ t n ls en H', Same H H' → EM.Form l n ls en → (∀ w, EM.Fu ls en w 0 ↔ EM.patL (EM.innL l d) p w) → n ≤ 300 → ls.length ≤ 1500 → UfAt H' t ls en → Q (.ref t) H'
theorem ok_pform (T : Tx K mg) (hri : Ok P w K mg base 1 (He.ma K (He.ga K "PatternReader") "__init__") ["self", "order", "text"] (spRdInit K)) (hrr : ∀ d, Ok P w K mg base (4 * d + 2) (He.ma K (He.ga K "PatternReader") "rows") ["self"] (spRows K d))
    (hsi : Ok P w K mg base 1 (He.ma K (He.ga K "Spots") "__init__") ["self"] (spSpInit K)) (hsl : ∀ k, Ok P w K mg base (2 * k + 2) (He.ma K (He.ga K "Spots") "laid") ["self", "tree"] (spLaid K k))
    (hsn : Ok P w K mg base 1 (He.ma K (He.ga K "Spots") "next_state") ["self", "state", "letter"] (spNext K)) (huf : Ok P w K mg base 2 (He.ga K "useful_form") ["order", "start", "table", "ends"] (spUseful K (kT P w))) :
    Ok P w K mg base 23 (He.ga K "pattern_form") ["order", "text"] (spPForm K) := by
  obtain ⟨_, F_PatternReader_init, b_PatternReader_init, _⟩ := hri
  obtain ⟨_, F_Spots_init, b_Spots_init, _⟩ := hsi
  obtain ⟨_, F_Spots_next_state, b_Spots_next_state, _⟩ := hsn
  obtain ⟨_, F_useful_form, b_useful_form, k_useful_form⟩ := huf
  refine ok_mk T.fn_pattern_form sc_pattern_form (fun _ _ _ _ _ _ us hl => match us, hl with | [_, _], _ => rfl) (fun vs H Q E h => ?_) (fun cdv A outer s H vs Q E hr h => ?_)
  · obtain ⟨o, l, txt, d, p, _, rfl, _⟩ := h
    rfl
  · obtain ⟨o, l, txt, d, p, d2, rfl, ho, lok, l5, et, t7, pok, pn7, q⟩ := h
    have hu := hu_of hr
    have hu9 : (A.deeper (envOfC (Str.ofString "pattern_form") (defScope s_pattern_form) s.heap.objs.size (He.ga K "pattern_form") cdv)).units + 9 < cLine := by have := hr.un; omega
    obtain ⟨_, F_PatternReader_rows, b_PatternReader_rows, _⟩ := hrr (d + 1)
    obtain ⟨_, F_Spots_laid, b_Spots_laid, _⟩ := hsl (3 * d + 4)
    have hr2 := hr.mono (show 2 ≤ 22 by omega)
    have hr1 := hr.mono (show 1 ≤ 22 by omega)
    have hrA := hr.mono (show 4 * (d + 1) + 2 ≤ 22 by omega)
    have hrB := hr.mono (show 2 * (3 * d + 4) + 2 ≤ 22 by omega)
    refine ⟨_, (pss_cons (ps_set (i := 2) sc_pattern_form.nd rfl (by first | exact Or.inl rfl | exact Or.inr rfl) (pe_make T.mk_PatternReader F_PatternReader_init hr2 (by rfl) T.g_PatternReader b_PatternReader_init .nil pass0 (pa_cons (pv 0) (pa_cons (pv 1) pa_nil))))
      (pss_cons (ps_set (i := 3) sc_pattern_form.nd rfl (by first | exact Or.inl rfl | exact Or.inr rfl) (pe_meth0 (pv 2) T.c_PatternReader T.m_PatternReader_rows F_PatternReader_rows hrA b_PatternReader_rows .nil pass0))
      (pss_cons (ps_if (pt_cmpR op_lt (pe_fld (pv 2) rfl) (pe_callB call_len_str (by rfl) T.f_len (by decide +kernel) (pa_cons (pv 1) pa_nil)) (nomark _)) (pss_one ps_never) pss_nil)
      (pss_cons (ps_set (i := 4) sc_pattern_form.nd rfl (by first | exact Or.inl rfl | exact Or.inr rfl) (pe_make0 T.mk_Spots F_Spots_init hr2 rfl T.g_Spots b_Spots_init .nil pass0))
      (pss_cons (ps_asg (pe_meth (pv 4) T.c_Spots T.m_Spots_laid F_Spots_laid hrB b_Spots_laid .nil pass0 (pa_cons (pv 3) pa_nil)) (pg_tup (by rfl) (pgs_cons (pg_name (i := 5) sc_pattern_form.nd rfl (by first | exact Or.inl rfl | exact Or.inr rfl)) (pgs_cons (pg_name (i := 6) sc_pattern_form.nd rfl (by first | exact Or.inl rfl | exact Or.inr rfl)) (pgs_cons (pg_name (i := 7) sc_pattern_form.nd rfl (by first | exact Or.inl rfl | exact Or.inr rfl)) pgs_nil)))))
      (pss_cons (ps_dput hu (pe_fld (pv 4) rfl) pe_int (pv 6) rfl)
      (pss_cons (ps_set (i := 8) sc_pattern_form.nd rfl (by first | exact Or.inl rfl | exact Or.inr rfl) (pe_lst (pa_cons (pe_tup (pa_cons pe_int pa_nil)) pa_nil)))
      (pss_cons (ps_set (i := 9) sc_pattern_form.nd rfl (by first | exact Or.inl rfl | exact Or.inr rfl) (pe_dispT1 hu (pe_tup (pa_cons pe_int pa_nil)) pe_bl))
      (pss_cons (ps_set (i := 10) sc_pattern_form.nd rfl (by first | exact Or.inl rfl | exact Or.inr rfl) pe_dnewN)
      (pss_cons (ps_set (i := 11) sc_pattern_form.nd rfl (by first | exact Or.inl rfl | exact Or.inr rfl) pe_int)
      (pss_cons (ps_while PassesOwn.never (pt_cmpR op_lt (pv 11) (pe_callB call_len_seq (by rfl) T.f_len (by decide +kernel) (pa_cons (pv 8) pa_nil)) (nomark _)) (pss_cons (ps_for PassesOwn.never rfl (pi_str (pe_fld (pv 0) rfl)) (pg_name (i := 12) sc_pattern_form.nd rfl (by first | exact Or.inl rfl | exact Or.inr rfl)) (pss_cons (ps_set (i := 13) sc_pattern_form.nd rfl (by first | exact Or.inl rfl | exact Or.inr rfl) (pe_meth (pv 4) T.c_Spots T.m_Spots_next_state F_Spots_next_state hr1 b_Spots_next_state .nil pass0 (pa_cons (pe_ix ix_list (pv 8) (pv 11) (fun _ _ => rfl)) (pa_cons (pv 12) pa_nil))))
      (pss_one (ps_if (pt_cmpR (op_neD hr.units) (pv 13) (pe_tup pa_nil) (nomark _)) (pss_cons (ps_dputN hu9 (pv 10) (pe_tup (pa_cons (pe_ix ix_list (pv 8) (pv 11) (fun _ _ => rfl)) (pa_cons (pv 12) pa_nil))) (pv 13) rfl)
      (pss_one (ps_if (pt_cmp (pc_dnotin hu (pv 13) (pv 9))) (pss_cons (ps_dput hu (pv 9) (pv 13) pe_bl rfl)
      (pss_one (ps_expr (pe_bm PySem.F.plainAttrs_list PySem.F.slot_list_append PySem.F.type_list_append mt_append (pv 8) (pa_cons (pv 13) pa_nil))))) pss_nil))) pss_nil))))
      (pss_one (ps_aug (i := 11) sc_pattern_form.nd rfl (by first | exact Or.inl rfl | exact Or.inr rfl) pe_int ip_add))))
      (pss_cons (ps_setDcT hu (i := 16) (own := [("state", 14)]) (g := gName 14)  (by rfl) sc_pattern_form.nd rfl rfl (swD_true rfl rfl rfl (by decide +kernel)) (pi_list (pv 8)) (blkOk_by (own := [("state", 14)]) (N := N_pattern_form) (sc := defScope s_pattern_form) (by decide +kernel)) (fun _ _ _ _ _ => (pg_name (i := 14) sc_pattern_form.nd rfl (Or.inl rfl))) (fun _ _ _ _ _ => pts_one (pt_val (pe_callB (cr_anyK rfl (by rfl)) (by rfl) T.f_any (by decide +kernel) (pa_cons (pe_lc (own := [("spot", 15)]) (g := gName 15) (tt := tYes) (by rfl) sc_pattern_form.nd (pi_tupK rfl (pv 14)) (blkOk_by (own := [("spot", 15)]) (N := N_pattern_form) (sc := sc_in) (by decide +kernel)) (fun _ _ _ _ _ => (pg_name (i := 15) sc_pattern_form.nd rfl (Or.inl rfl))) (fun _ _ _ _ _ => pts_nil) (fun _ _ _ _ _ => (pe_cmpR (op_in_seqK rfl) (pv 15) (pv 7) rfl))) pa_nil)))) (fun _ _ _ _ _ => (pv 14)) (fun _ _ _ _ _ => pe_bl))
      (pss_cons (ps_if (pt_val (pv 5)) (pss_one (ps_dput hu (pv 16) (pe_tup (pa_cons pe_int pa_nil)) pe_bl rfl)) pss_nil)
      (pss_one (ps_ret (pe_call F_useful_form hr2 rfl T.g_useful_form k_useful_form b_useful_form .nil pass0 (pa_cons (pv 0) (pa_cons (pe_tup (pa_cons pe_int pa_nil)) (pa_cons (pv 10) (pa_cons (pv 16) pa_nil)))))))))))))))))))), ?_⟩
    obtain ⟨dxo, rk, hoi, hork⟩ := id ho
    -- the reader
    refine ⟨_, rfl, _, rfl, fun x dx x0 dx0 nx => ?_⟩
    generalize e1 : upd H dx _ = H1
    obtain ⟨s1, dx1, f1⟩ := newE dx0 e1
    have x1 : H1 x = none := (f1 x nx.symm).trans x0
    generalize e2 : upd H1 x _ = H2
    obtain ⟨s2, x2, f2⟩ := newE x1 e2
    refine ⟨x, o, dx, txt, rfl, x2, fun H3 k3 R3 => ⟨rfl, ?_⟩⟩
    have s02 := same_trans s1 s2
    have s03 : Same H H3 := fun b u e => k3 _ _ (s02 _ _ e) (ne_of_none e x0)
    obtain ⟨dx3, hx3⟩ := id R3
    refine ⟨_, rfl, x, dx3, _, rfl, hx3, rfl, ?_⟩
    refine ⟨x, o, txt, l, [], 0, p, rfl, R3, ho.mono s03, lok, t7, by rw [List.drop_zero, List.append_nil]; exact et, Nat.zero_le _, pok, fun c h => (by cases h), fun v H4 k4 R4 tr => ?_⟩
    have s04 : Same H H4 := fun b u e => k4 _ _ (s03 _ _ e) (ne_of_none e x0)
    obtain ⟨dx4, hx4⟩ := id R4
    have ln : 0 + (EM.patT (EM.innT d) p).length = txt.length := by rw [← et]; omega
    rw [ln] at hx4
    refine ⟨_, rfl, x, _, dx4, _, _, rfl, hx4, T.c_PatternReader, T.n_PatternReader_at, rfl, _, rfl, sOf txt, rfl, by rw [sOf_len]; unfold sizeLine; omega, _, _, rfl, rfl, _, rfl, ?_⟩
    rw [sOf_len, decide_eq_false (by omega)]
    refine iteF ?_
    -- the spots
    refine fun y dy y0 dy0 ny => ?_
    generalize e5 : upd H4 dy _ = H5
    obtain ⟨s5, dy5, f5⟩ := newE dy0 e5
    have y5 : H5 y = none := (f5 y ny.symm).trans y0
    generalize e6 : upd H5 y _ = H6
    obtain ⟨s6, y6, f6⟩ := newE y5 e6
    refine ⟨y, dy, rfl, y6, fun st H7 k7 S7 l0 f0 nM => ⟨rfl, ?_⟩⟩
    have s46 := same_trans s5 s6
    have s47 : Same H4 H7 := fun b u e => k7 _ _ (s46 _ _ e) (ne_of_none e y0)
    have m0 : st.m = 0 := by unfold St.m; rw [l0]; rfl
    have fw0 : ∀ q, st.fw q = [] := fun q => by
      unfold St.fw
      rw [f0]
      cases q <;> rfl
    have lt0 : ∀ q, st.lt q = [] := fun q => by
      unfold St.lt
      rw [l0]
      cases q <;> rfl
    have bd7 : Bd st := ⟨by omega, fun q => by rw [fw0]; exact ⟨.nil, fun _ h => (by cases h)⟩⟩
    have lb7 : Lb l st := fun q c h => by rw [lt0] at h; cases h
    have tr7 : RsT (TrT l d) (hide st.M H7) v p := RsT.mono (hide_same fun b u e _ => ⟨s47 _ _ e, fun m => by
      have := nM b m
      rw [s46 _ _ e] at this; cases this⟩) tr
    obtain ⟨dy7, hy7⟩ := S7.obj
    refine ⟨_, rfl, y, dy7, _, rfl, hy7, rfl, _, rfl, y, v, st, l, _, _, rfl, S7, bd7, lb7, rs_tree lok tr7 pok, by omega, fun t F La st' b fs las H8 R => ?_⟩
    have s48 : Same H4 H8 := fun c u e => R.kp _ _ (s47 _ _ e) fun m => by
      have := nM c m
      rw [s46 _ _ e] at this; cases this
    have ht8 := (hide_some.mp R.t).2
    have hF8 := hide_some.mp R.f
    have ha8 := hide_some.mp R.a
    refine ⟨t, _, rfl, SqT.of ht8, rfl, _, _, rfl, _, _, rfl, _, _, rfl, rfl, ?_⟩
    obtain ⟨dy8, hy8⟩ := R.sp.obj
    obtain ⟨kvs, hk8, hkl, hkv⟩ := R.sp.fol
    have m8 : st'.m = EM.patN (EM.innN d) p := by rw [R.m, m0]; omega
    have lp := R.sp.pos
    refine ⟨_, rfl, _, rfl, y, _, dy8, _, _, rfl, hy8, T.c_Spots, T.n_Spots_follow, rfl, st'.Fo, _, rfl, DPut.k (k := .inl 0) hk8 (by unfold St.m at m8; unfold sizeLine; omega), ?_⟩
    generalize e9 : upd H8 st'.Fo _ = H9
    obtain ⟨fo9, f9⟩ := putE e9
    have fa0 : st'.fas[0]? = some (st'.fas[0]'(by rw [R.sp.fl]; exact lp)) := List.getElem?_eq_getElem _
    have S9 := sp_set0 R.sp hF8.2 hF8.1 hk8 hkv (Nat.le_trans (Nat.le_of_eq (putK_old (k := (.inl 0 : Key)) (hkv 0 _ fa0))) hkl) fo9 f9
    generalize est : ({ st' with fas := st'.fas.set 0 F, fws := st'.fws.set 0 fs } : St) = st9 at S9
    have lt9 : ∀ q, st9.lt q = st'.lt q := fun q => by rw [← est]; rfl
    have fw9 : ∀ q, st9.fw q = if q = 0 then fs else st'.fw q := fun q => by
      rw [← est]
      exact getD_set _ 0 q fs (by rw [R.sp.wl]; exact lp)
    have m9 : st9.m = st'.m := by rw [← est]; rfl
    have gl8 := R.gl
    rw [m0] at gl8
    have gl9 : EM.Gl st9.lt st9.fw 0 st9.m b fs las (EM.patL (EM.innL l d) p) := by
      rw [m9]
      exact gl8.congr (fun q _ _ => lt9 q) (fun q h _ => by rw [fw9, if_neg (by omega)])
    have h09 : st9.fw 0 = fs := by rw [fw9, if_pos rfl]
    have bd9 : Bd st9 := ⟨by rw [m9]; omega, fun q => by
      rw [fw9, m9]
      by_cases z : q = 0
      · rw [if_pos z]; exact ⟨gl8.fnd, fun j hj => (gl8.fin j hj).2⟩
      · rw [if_neg z]; exact R.bd.2 q⟩
    have hA9 : ∀ q c, c ∈ st9.lt q → c ∈ l := fun q c h => R.lb q c (by rw [← lt9]; exact h)
    have s49 : Same H4 H9 := fun c u e => by
      have := s48 _ _ e
      refine (f9 c fun z => ?_).trans this
      have : st.M c := .inr (.inl (z.trans R.eF))
      have := nM c this
      rw [s46 _ _ e] at this; cases this
    have la9 : H9 La = some (.lst (natsV las)) := (f9 La (ne_of ha8.2 hk8 (fun z => nomatch z))).trans ha8.2
    -- the first state
    refine ⟨(by show 1 ≤ sizeLine; decide), fun z z0 => ?_⟩
    generalize e10 : upd H9 z _ = H10
    obtain ⟨s10, z10, f10⟩ := newE z0 e10
    refine ⟨(by show 1 ≤ sizeLine; decide), fun sl sl0 => ?_⟩
    generalize e11 : upd H10 sl _ = H11
    obtain ⟨s11, sl11, f11⟩ := newE sl0 e11
    refine fun kn kn0 => ?_
    have nkn0 := kn0
    generalize e12 : upd H11 kn _ = H12
    obtain ⟨s12, kn12, f12⟩ := newE kn0 e12
    refine ⟨(by show 1 ≤ sizeLine; decide), fun a a0 => ?_⟩
    generalize e13 : upd H12 a _ = H13
    obtain ⟨s13, a13, f13⟩ := newE a0 e13
    refine ⟨s13 _ _ kn12, a, [.inl 0], rfl, a13, ?_⟩
    generalize e14 : upd H13 kn _ = H14
    obtain ⟨kn14, f14⟩ := putE e14
    refine fun tb H15 tb0 s15 f15 dn => ?_
    have kn0' : H9 kn = none := none_back s10 (none_back s11 kn0)
    have sl0' : H9 sl = none := none_back s10 sl0
    have s9d : Same H9 H13 := same_trans s10 (same_trans s11 (same_trans s12 s13))
    have s9e : Same H9 H14 := fun b u e => (f14 b (ne_of_none e kn0')).trans (s9d _ _ e)
    have tb0' : H9 tb = none := none_back s9e tb0
    have sl14 : H14 sl = some (.lst (refs [z])) := (f14 sl fun e => by rw [e, kn0] at sl11; cases sl11).trans (s13 _ _ (s12 _ _ sl11))
    have z14 : H14 z = some (.tup (natsV [0])) := (f14 z fun e => by
      have := s11 _ _ z10
      rw [e, kn0] at this; cases this).trans (s13 _ _ (s12 _ _ (s11 _ _ z10)))
    have B15 : Bq P w H9 H15 sl kn tb [z] [[0]] (fun _ _ => none) 0 := ⟨same_trans s9e s15, s15 _ _ sl14, ⟨rfl, fun i a X ha hX => by
      cases i with
      | zero => cases ha; cases hX; exact s15 _ _ z14
      | succ i => cases ha⟩, ⟨_, s15 _ _ kn14, Nat.le_refl 1, fun X => by
        show (valV [(kX [0], V.bl true)] (kX X)).isSome = true ↔ _
        by_cases e : X = [0]
        · rw [valV_pos (p := (kX [0], V.bl true)) (by rw [e]), e]; simp
        · rw [valV_neg (p := (kX [0], V.bl true)) (fun z => e (kX_inj.mp z).symm)]; simp [e, valV_nil]⟩, [], ⟨dn, fun X c => ⟨fun _ => rfl, fun Y e => (nomatch e)⟩⟩, Nat.le_refl 0⟩
    have m7 : st9.m ≤ 7 := bd9.1
    let δ := EM.sd l st9.lt st9.fw st9.m
    have bs0 : Bs st9.m δ [[0]] (fun _ _ => none) := ⟨by simp, fun X h => .inl (List.mem_singleton.mp h), fun X h => by
      rw [List.mem_singleton.mp h]
      exact List.singleton_sublist.mpr (List.mem_range.mpr (by omega)), by simp, fun X c Y e => (nomatch e)⟩
    have hoi9 : H9 o = some (.ins (He.ga K "Order") dxo [("letters", .str (sOf l)), ("ranks", .ref rk)]) := s49 _ _ (s04 _ _ hoi)
    obtain ⟨dy9, hy9⟩ := S9.obj
    refine ⟨fun k σ H' => ∃ (at' : Nat) (sa : List Addr) (S : List (List Nat)) (δp : List Nat → Nat → Option (List Nat)) (y12 y13 : Option V), σ = [some (.ref o), some (.str (sOf txt)), some (.ref x), some v, some (.ref y), some (.bl b), some (.ref F), some (.ref La), some (.ref sl), some (.ref kn), some (.ref tb), some (.int (at' : Nat)), y12, y13, none, none, none] ∧
      Bq P w H9 H' sl kn tb sa S δp (5 * at') ∧ Bs st9.m δ S δp ∧ (∀ X, X ∈ S.take at' → ∀ c Y, δ X c = some Y → δp X c = some Y) ∧ at' ≤ S.length ∧ k + at' = 256, ⟨256, 0, [z], [[0]], _, _, _, rfl, B15, bs0, fun X h => by simp at h, by simp, rfl⟩, fun k σ Hx hP => ?_⟩
    obtain ⟨at', sa, S, δp, y12, y13, rfl, B, bs, dn', atS, ek⟩ := hP
    have sal : sa.length = S.length := B.st.1
    have S256 := bs.len m7
    refine ⟨_, rfl, _, rfl, sl, refs sa, rfl, .inl (SqL.of B.sl), _, _, rfl, rfl, _, rfl, ?_⟩
    rw [refs_len]
    by_cases hat : at' < S.length
    · rw [decide_eq_true (by omega)]
      refine iteT ?_
      refine ⟨fun σ' H' => ∃ m', m' < k ∧ _, fun _ _ h => h, ?_⟩
      obtain ⟨X0, hX0⟩ : ∃ X0, S[at']? = some X0 := ⟨_, List.getElem?_eq_getElem hat⟩
      refine ⟨_, rfl, o, _, dxo, _, _, rfl, B.old _ _ hoi9, T.c_Order, T.n_Order_letters, rfl, _, rfl, ?_⟩
      refine for_it (walk_str (z := sOf l)) (fun i σ H' => ∃ (sa : List Addr) (S : List (List Nat)) (δp : List Nat → Nat → Option (List Nat)) (y12 y13 : Option V), σ = [some (.ref o), some (.str (sOf txt)), some (.ref x), some v, some (.ref y), some (.bl b), some (.ref F), some (.ref La), some (.ref sl), some (.ref kn), some (.ref tb), some (.int (at' : Nat)), y12, y13, none, none, none] ∧
        Bq P w H9 H' sl kn tb sa S δp (5 * at' + i) ∧ Bs st9.m δ S δp ∧ (∀ X, X ∈ S.take at' → ∀ c Y, δ X c = some Y → δp X c = some Y) ∧ at' < S.length ∧ S[at']? = some X0 ∧ (∀ c, c ∈ l.take i → ∀ Y, δ X0 c = some Y → δp X0 c = some Y)) ?_ (fun _ _ _ _ _ => trivial) (fun i v σ H' H'' hi hI hy => ?_) (fun σ H1 hI => ?_)
      · exact ⟨sa, S, δp, _, _, rfl, B, bs, dn', hat, hX0, fun c h => by simp at h⟩
      · obtain ⟨rfl, c, hc, rfl⟩ := hy
        obtain ⟨sa, S, δp, y12, y13, rfl, B, bs, dn', hat, hX0, dl⟩ := hI
        have hc' : l[i]? = some c := by rw [← Array.getElem?_toList, sOf_toList] at hc; exact hc
        have hcl := List.mem_of_getElem? hc'
        have hil : i < l.length := (List.getElem?_eq_some_iff.mp hc').1
        have tk : l.take (i + 1) = l.take i ++ [c] := by rw [List.take_succ, hc']; rfl
        obtain ⟨a, ha⟩ : ∃ a, sa[at']? = some a := ⟨_, List.getElem?_eq_getElem (by rw [B.st.1]; exact hat)⟩
        have hra : (refs sa)[at']? = some (.ref a) := by
          show (sa.map V.ref)[at']? = _
          rw [List.getElem?_map, ha]; rfl
        have haX := B.st.2 at' a X0 ha hX0
        have X0m := List.mem_of_getElem? hX0
        have X8 := bs.len8 m7 X0m
        have S256 := bs.len m7
        refine ⟨_, rfl, y, dy9, _, rfl, B.old _ _ hy9, rfl, _, rfl, _, rfl, sl, refs sa, (at' : Nat), .ref a, rfl, rfl, SqL.of B.sl, atI_nat hra, _, rfl, y, a, st9, X0, c, rfl, S9.same B.old, bd9, haX, X8.1, X8.2, fun t H2 s2 ht => ?_⟩
        refine ⟨_, rfl, by decide, fun z1 z10 => ?_⟩
        generalize e3 : upd H2 z1 _ = H3
        obtain ⟨s3, z13, f3⟩ := newE z10 e3
        refine ⟨_, _, .tup (SqT.of (s3 _ _ ht)) (dp_nats _), .tup (SqT.of z13) .nil, (shaped_nats _).2, rfl, ?_⟩
        rw [eqv_nil2]
        refine ⟨_, rfl, ?_⟩
        have B3 := B.mono (same_trans s2 s3)
        by_cases hn : EM.nxt st9.lt st9.fw st9.m X0 c = []
        · rw [decide_eq_true (by rw [hn]; rfl)]
          refine iteF ?_
          refine ⟨sa, S, δp, _, _, rfl, B3.cn (by omega), bs, dn', hat, hX0, fun c' hc' Y e => ?_⟩
          rw [tk] at hc'
          rcases List.mem_append.mp hc' with h | h
          · exact dl c' h Y e
          · rw [List.mem_singleton.mp h] at e
            obtain ⟨_, h2, rfl⟩ := EM.sd_some.mp e
            exact absurd hn h2
        · rw [decide_eq_false (fun z => hn (List.map_eq_nil_iff.mp z))]
          refine iteT ?_
          have eY : δ X0 c = some (EM.nxt st9.lt st9.fw st9.m X0 c) := EM.sd_some.mpr ⟨hcl, hn, rfl⟩
          have sok := EM.sd_ok gl9 h09 (bs.ok X0 X0m) eY
          have ssub : (EM.nxt st9.lt st9.fw st9.m X0 c).Sublist (List.range (st9.m + 1)) := List.filter_sublist
          generalize EM.nxt st9.lt st9.fw st9.m X0 c = Y at ht hn eY sok ssub
          obtain ⟨kvt, tN, tl⟩ := B3.tb
          refine ⟨_, rfl, _, rfl, _, rfl, _, rfl, sl, refs sa, (at' : Nat), .ref a, rfl, rfl, SqL.of B3.sl, atI_nat hra, _, rfl, (by show 2 ≤ sizeLine; decide), fun kt kt0 => ?_⟩
          generalize e4 : upd H3 kt _ = H4
          obtain ⟨s4, kt4, f4⟩ := newE kt0 e4
          have s04 := same_trans (same_trans s2 s3) s4
          refine ⟨tb, kvt, nkX X0 c, kt, rfl, rfl, (tN.mono s4).1, ⟨a, kt4, by rw [s04 _ _ haX, natsV_ints]; rfl⟩, by unfold sizeLine; omega, fun H5 g5 dn5 => ?_⟩
          have B4 := B3.mono s4
          have ht4 := s4 _ _ (s3 _ _ ht)
          have B5 := B4.put tb0' (tN.mono s4) tl ht4 g5 dn5
          have ht5 := B4.tup g5 ht4
          obtain ⟨kvk, hk5, kl5, kv5⟩ := B5.kn
          refine ⟨_, rfl, _, rfl, kn, _, rfl, DGet.t (k := kX Y) hk5 (by rw [kX_V]; exact ht5), _, rfl, ?_⟩
          have dn2 : ∀ X, X ∈ S.take at' → ∀ c' Y', δ X c' = some Y' → (if X = X0 ∧ c' = c then some Y else δp X c') = some Y' := fun X hX c' Y' k => done_put (R := fun X _ => X ∈ S.take at') (fun X c Y r => dn' X r c Y) eY X c' Y' (.inl hX) k
          have dl2 : ∀ c', c' ∈ l.take (i + 1) → ∀ Y', δ X0 c' = some Y' → (if X0 = X0 ∧ c' = c then some Y else δp X0 c') = some Y' := fun c' hc' Y' k => done_put (R := fun X c => X = X0 ∧ c ∈ l.take i) (fun X c Y r => by rw [r.1]; exact dl c r.2 Y) eY X0 c' Y' (by
            rw [tk] at hc'
            rcases List.mem_append.mp hc' with h | h
            · exact .inl ⟨rfl, h⟩
            · exact .inr ⟨rfl, List.mem_singleton.mp h⟩) k
          by_cases hin : Y ∈ S
          · rw [(kv5 Y).mpr hin]
            exact iteF ⟨sa, S, _, _, _, rfl, B5, bs.put eY hin, dn2, hat, hX0, dl2⟩
          · rw [Bool.eq_false_iff.mpr (fun z => hin ((kv5 Y).mp z))]
            refine iteT ?_
            refine ⟨_, rfl, _, rfl, kn, _, rfl, DPut.t (k := kX Y) hk5 (by rw [kX_V]; exact ht5) (by unfold sizeLine; omega), ?_⟩
            generalize e6 : upd H5 kn _ = H6
            obtain ⟨kn6, f6⟩ := putE e6
            have nsk : sl ≠ kn := ne_of B5.sl hk5 (fun z => nomatch z)
            have sl6 := (f6 sl nsk).trans B5.sl
            refine ⟨_, rfl, .inl ⟨rfl, _, SqL.of sl6⟩, _, rfl, sl, _, _, rfl, rfl, sl6, by rw [refs_len, B5.st.1]; unfold sizeLine; omega, ?_⟩
            generalize e7 : upd H6 sl _ = H7
            obtain ⟨sl7, f7⟩ := putE e7
            refine ⟨sa ++ [t], S ++ [Y], _, _, _, rfl, B5.add sl0' kn0' hk5 kl5 kv5 ht5 (by rw [sl7, refs_app]; rfl) ((f7 kn nsk.symm).trans kn6) (fun b n1 n2 => (f7 b n1).trans (f6 b n2)), (bs.add hin sok ssub).put eY (by simp), ?_, by simp; omega, ?_, dl2⟩
            · rw [List.take_append_of_le_length (by omega)]
              exact dn2
            · rw [List.getElem?_append_left hat]; exact hX0
      · obtain ⟨sa, S, δp, y12, y13, rfl, B, bs, dn', hat, hX0, dl⟩ := hI
        rw [sOf_size, List.take_length] at dl
        have S256 := bs.len m7
        refine ⟨_, rfl, _, _, rfl, rfl, k - 1, by omega, at' + 1, sa, S, δp, _, _, rfl, B.cn (by rw [sOf_size]; omega), bs, fun X hX c Y e => ?_, by omega, by omega⟩
        rw [List.take_succ, hX0] at hX
        rcases List.mem_append.mp hX with h | h
        · exact dn' X h c Y e
        · have h : X = X0 := by simpa using h
          rw [h] at e ⊢
          exact dl c (EM.sd_some.mp e).1 Y e
    · rw [decide_eq_false (by omega)]
      refine iteF ?_
      have ate : at' = S.length := by omega
      subst ate
      rw [List.take_length] at dn'
      have ne := EM.patOk_ne (A := l) (fun e => by have := lok.2.1; rw [e] at this; simp at this) pok
      have hA : ∀ s c t, δp s c = some t → c ∈ l := fun s c t e => (EM.sd_some.mp (bs.s1 _ _ _ e).1).1
      have la_x := B.old _ _ la9
      -- the end: useful_form
      have tail : ∀ {Hw : Hp} {zz D : Addr} {kvs' : List (List Key × V)} {E' : XK}, Same Hx Hw → Hw zz = some (.tup (natsV [0])) → Hw D = some (.dT kvs') → (∀ X, (valV kvs' (kX X)).isSome = true ↔ (X ∈ S ∧ ∃ p, p ∈ X ∧ p ∈ las) ∨ (b = true ∧ X = [0])) → spUseful K (kT P w) [.ref o, .ref zz, .ref tb, .ref D] Hw Q E' := fun {Hw zz D kvs' E'} sw hz hD hkv => by
        obtain ⟨kvt, t1, t2⟩ := (B.mono sw).tb
        have s0w : Same H Hw := same_trans s04 (same_trans s49 (same_trans B.old sw))
        have hag : ∀ w X, X ∈ S → (EM.DR δp (fun X => (X ∈ S ∧ ∃ p, p ∈ X ∧ p ∈ las) ∨ (b = true ∧ X = [0])) w X ↔ EM.DR δ (EM.sfin b las) w X) := dr_agree bs (fun X hX => ⟨fun h => h.imp (fun h => h.2) id, fun h => h.imp (fun h => ⟨hX, h⟩) id⟩) dn'
        have use : ∀ s, s ∈ S → ∃ w, EM.DR δp (fun X => (X ∈ S ∧ ∃ p, p ∈ X ∧ p ∈ las) ∨ (b = true ∧ X = [0])) w s := fun s hs => by
          obtain ⟨w', hw'⟩ := EM.sd_use gl9 h09 hA9 ne s (bs.ok s hs)
          exact ⟨w', (hag w' s hs).mpr hw'⟩
        refine ⟨o, tb, D, .ref zz, l, δp, fun X : List Nat => (X ∈ S ∧ ∃ p, p ∈ X ∧ p ∈ las) ∨ (b = true ∧ X = [0]), [0], S, rfl, ho.mono s0w, lok, l5, ⟨zz, rfl, hz⟩, ⟨kvt, t1.1, t1.2⟩, ⟨kvs', hD, hkv⟩, bs.z, fun s c t _ e => (bs.s1 _ _ _ e).2, Nat.le_trans S256 (by decide), hA, use, fun t S' ls en H' s' fs clo hU e1 e2 e3 Sl ll uf => ?_⟩
        refine q t S'.length ls en H' (same_trans s0w s') (fs.form e1 e2 e3 hA clo fun x hx => use x (hU x hx)) (fun w' => ?_) Sl ll uf
        exact (fs.fut e3 hA clo w' 0 [0] fs.hd).trans ((hag w' [0] bs.z).trans (EM.sd_start gl9 h09 hA9 w'))
      refine ⟨_, rfl, sl, rfl, ⟨_, SqL.of B.sl⟩, fun D D0 => ?_⟩
      refine dcT_it (walk_list (xs := refs sa)) (fun i Hy => Same Hx Hy ∧ ∃ kvs, Hy D = some (.dT kvs) ∧ kvs.length ≤ i ∧ ∀ X, (valV kvs (kX X)).isSome = true ↔ X ∈ S.take i ∧ ∃ p, p ∈ X ∧ p ∈ las) ?_ (fun i Hy _ h => ?_) (fun i v' Hy H3 hi h hy => ?_) (fun H3 h => ?_)
      · exact ⟨Same.up D0, [], upd_same, Nat.le_refl _, fun X => by simp [valV_nil]⟩
      · exact SqL.of (h.1 _ _ B.sl)
      · obtain ⟨rfl, hv⟩ := hy
        obtain ⟨sx, kvs, hD, kl, kc⟩ := h
        rw [refs_len] at hi
        have ha : sa[i]? = some sa[i] := List.getElem?_eq_getElem hi
        obtain ⟨X, hX, haX⟩ := B.st.get ha
        have hv' : v' = .ref sa[i] := by
          have : (refs sa)[i]? = some (.ref sa[i]) := by
            show (sa.map V.ref)[i]? = _
            rw [List.getElem?_map, ha]; rfl
          rw [this] at hv
          cases hv; rfl
        subst hv'
        have haX := sx _ _ haX
        have X8 := bs.len8 m7 (List.mem_of_getElem? hX)
        have tk : S.take (i + 1) = S.take i ++ [X] := by rw [List.take_succ, hX]; rfl
        refine ⟨rfl, ?_⟩
        refine ⟨_, rfl, sa[i], rfl, ⟨_, SqT.of haX⟩, fun D2 D20 => ?_⟩
        refine lc_tup (xs := natsV X) (PB H3 D2 fun j acc _ => acc = ((X.take j).map fun p => decide (p ∈ las)).map V.bl) (PB.start D20 fun _ _ => rfl) (fun j Hz _ h => ?_) (fun j pv Hz hp h => ?_) (fun Hz h => ?_)
        · obtain ⟨acc, b', _⟩ := h
          exact SqT.of (b'.1 _ _ haX)
        · obtain ⟨acc, b', rfl⟩ := h
          obtain ⟨p', hp', rfl⟩ : ∃ p', X[j]? = some p' ∧ pv = .int (p' : Nat) := by
            have hp : (X.map fun j : Nat => V.int j)[j]? = some pv := hp
            rw [List.getElem?_map] at hp
            cases e : X[j]? with
            | none => rw [e] at hp; cases hp
            | some p' => rw [e] at hp; cases hp; exact ⟨p', rfl, rfl⟩
          refine ⟨rfl, yesI ?_⟩
          refine ⟨_, rfl, _, rfl, La, natsV las, rfl, .inl (SqL.of (b'.1 _ _ (sx _ _ la_x))), rfl, flat_nats _, ?_⟩
          have ei : inV (.int (p' : Nat)) (natsV las) = decide (p' ∈ las) := by
            rw [Bool.eq_iff_iff, decide_eq_true_eq]
            exact (inV_oV (some p') las).trans ⟨fun ⟨q', e, m⟩ => by cases e; exact m, fun m => ⟨p', rfl, m⟩⟩
          refine PB.add b' D20 (same_refl _) ?_ fun H5 _ _ => ?_
          · rw [List.length_map, List.length_map, List.length_take]; unfold sizeLine; omega
          · show _ ++ [V.bl (inV (.int (p' : Nat)) (natsV las))] = _
            rw [ei, List.take_succ, hp', List.map_append, List.map_append]; rfl
        · obtain ⟨acc, b', ea⟩ := h
          have ea : acc = ((X.take (natsV X).length).map fun p => decide (p ∈ las)).map V.bl := ea
          rw [natsV_len, List.take_length] at ea
          subst ea
          refine ⟨D2, _, rfl, SqL.of b'.2, _, rfl, ?_⟩
          have hDz := b'.1 _ _ hD
          have S256 : i < 257 := by omega
          by_cases hf : ∃ p, p ∈ X ∧ p ∈ las
          · have : ((X.map fun p => decide (p ∈ las)).any id) = true := by
              obtain ⟨p', h1, h2⟩ := hf
              exact List.any_eq_true.mpr ⟨true, List.mem_map.mpr ⟨p', h1, decide_eq_true h2⟩, rfl⟩
            rw [this]
            refine iteT ?_
            refine ⟨_, rfl, kvs, kX X, sa[i], rfl, by rw [kX_V]; exact b'.1 _ _ haX, hDz, by unfold sizeLine; omega, fun c u e => ?_, _, upd_same, Nat.le_trans (putK_len _ _ _) (by omega), fun X' => ?_⟩
            · rw [upd_ne (ne_of_none e D0)]
              exact b'.1 _ _ (sx _ _ e)
            · rw [valV_put, tk]
              by_cases z' : X' = X
              · rw [if_pos (by rw [z']), z']
                exact ⟨fun _ => ⟨by simp, hf⟩, fun _ => rfl⟩
              · rw [if_neg (fun y => z' (kX_inj.mp y)), kc]
                simp [z']
          · have : ((X.map fun p => decide (p ∈ las)).any id) = false := by
              rw [Bool.eq_false_iff]
              intro z'
              obtain ⟨t', h1, h2⟩ := List.any_eq_true.mp z'
              obtain ⟨p', h3, h4⟩ := List.mem_map.mp h1
              exact hf ⟨p', h3, by rw [← h4] at h2; exact of_decide_eq_true h2⟩
            rw [this]
            refine iteF ?_
            refine ⟨same_trans sx b'.1, kvs, hDz, by omega, fun X' => ?_⟩
            rw [kc, tk]
            constructor
            · rintro ⟨h1, h2⟩; exact ⟨List.mem_append.mpr (.inl h1), h2⟩
            · rintro ⟨h1, h2⟩
              rcases List.mem_append.mp h1 with h1 | h1
              · exact ⟨h1, h2⟩
              · rw [List.mem_singleton.mp h1] at h2
                exact absurd h2 hf
      · obtain ⟨sx, kvs, hD, kl, kc⟩ := h
        rw [refs_len, sal] at kl kc
        rw [List.take_length] at kc
        refine ⟨_, rfl, _, rfl, ?_⟩
        cases b with
        | false =>
          refine iteF ?_
          refine ⟨_, rfl, (by show 1 ≤ sizeLine; decide), fun zz zz0 => ?_⟩
          generalize ew : upd H3 zz _ = Hw
          obtain ⟨sw, zw, fw⟩ := newE zz0 ew
          refine ⟨_, rfl, _, rfl, ?_⟩
          exact tail (E' := E0) (same_trans sx sw) zw (sw _ _ hD) fun X => by rw [kc]; simp
        | true =>
          refine iteT ?_
          refine ⟨_, rfl, (by show 1 ≤ sizeLine; decide), fun z2 z20 => ?_⟩
          generalize e4 : upd H3 z2 _ = H4
          obtain ⟨s4', z24, f4'⟩ := newE z20 e4
          have hD4 := s4' _ _ hD
          refine ⟨D, _, rfl, DPut.t (k := kX [0]) hD4 z24 (by unfold sizeLine; omega), ?_⟩
          generalize e5 : upd H4 D _ = H5'
          obtain ⟨D5, f5'⟩ := putE e5
          have s5' : Same Hx H5' := fun c u e => (f5' c (ne_of_none e D0)).trans (s4' _ _ (sx _ _ e))
          refine ⟨_, rfl, (by show 1 ≤ sizeLine; decide), fun zz zz0 => ?_⟩
          generalize ew : upd H5' zz _ = Hw
          obtain ⟨sw, zw, fw⟩ := newE zz0 ew
          refine ⟨_, rfl, _, rfl, ?_⟩
          exact tail (E' := E0) (same_trans s5' sw) zw (sw _ _ D5) fun X => by
            rw [valV_put]
            by_cases z' : X = [0]
            · rw [if_pos (by rw [z']), z']; simp
            · rw [if_neg (fun y => z' (kX_inj.mp y)), kc]; simp [z']
end
end E

set_option autoImplicit true
set_option maxHeartbeats 4000000
set_option Elab.async false
set_option linter.all false
set_option maxRecDepth 100000
set_option maxHeartbeats 4000000
/-! A pattern, read. -/
namespace E
open PySem PySem.Spec PyProof.Rows L2
section
variable {P : Program} {w : World} {K : PySem.W.Frag} {mg : Str → Option Value} {base : Heap}
def spRead (K : PySem.W.Frag) : Sp := fun vs H Q _ => ∃ (o : Addr) (l txt : List Nat) (d : Nat) (p : EM.Pat d), d ≤ 2 ∧ vs = [.ref (He.ga K "Machine"), .ref o, .str (sOf txt)] ∧ OrAt K H o l ∧ LetOk l ∧ l.length ≤ 5 ∧ txt = EM.patT (EM.innT d) p ∧ txt.length ≤ 700 ∧ EM.PatOk (EM.Wf l d) p ∧ EM.patN (EM.innN d) p ≤ 7 ∧
  ∀ m n ls en H', Same H H' → EM.Form l n ls en → EM.Red n ls en → (∀ w, EM.Fu ls en w 0 ↔ EM.patL (EM.innL l d) p w) → n ≤ 300 → ls.length ≤ 1500 → MAt K H' m o n ls en → Q (.ref m) H'
theorem ok_read (T : Tx K mg) (hp : Ok P w K mg base 23 (He.ga K "pattern_form") ["order", "text"] (spPForm K)) (hm : Ok P w K mg base 4 (He.ma K (He.ga K "Machine") "__init__") ["self", "order", "lanes", "ends"] (spMInit K)) (hl : Ok P w K mg base 6 (He.ma K (He.ga K "Machine") "least") ["self"] (spMLeast K)) :
    Ok P w K mg base 24 (He5.wf K (He.ga K "Machine") "classmethod" "read") ["cls", "order", "text"] (spRead K) := by
  obtain ⟨_, F_pattern_form, b_pattern_form, k_pattern_form⟩ := hp
  obtain ⟨_, F_Machine_init, b_Machine_init, _⟩ := hm
  obtain ⟨_, F_Machine_least, b_Machine_least, _⟩ := hl
  refine ok_mk T.fn_Machine_read sc_Machine_read (fun _ _ _ _ _ _ us hl => match us, hl with | [_, _, _], _ => rfl) (fun vs H Q E h => ?_) (fun cdv A outer s H vs Q E hr h => ?_)
  · obtain ⟨o, l, txt, d, p, _, rfl, _⟩ := h
    rfl
  · obtain ⟨o, l, txt, d, p, d2, rfl, ho, lok, l5, et, t7, pok, pn7, q⟩ := h
    have hu := hu_of hr
    have hr5 := hr.mono (show 5 ≤ 23 by omega)
    have hr6 := hr.mono (show 6 ≤ 23 by omega)
    refine ⟨_, (pss_cons (ps_asg (pe_call F_pattern_form hr rfl T.g_pattern_form k_pattern_form b_pattern_form .nil pass0 (pa_cons (pv 1) (pa_cons (pv 2) pa_nil))) (pg_tup (by rfl) (pgs_cons (pg_name (i := 3) sc_Machine_read.nd rfl (by first | exact Or.inl rfl | exact Or.inr rfl)) (pgs_cons (pg_name (i := 4) sc_Machine_read.nd rfl (by first | exact Or.inl rfl | exact Or.inr rfl)) pgs_nil))))
      (pss_one (ps_ret (pe_meth0 (pe_makeL (i := 0) T.mk_Machine F_Machine_init hr5 rfl (by first | exact Or.inl rfl | exact Or.inr rfl) b_Machine_init (pa_cons (pv 1) (pa_cons (pv 3) (pa_cons (pv 4) pa_nil)))) T.c_Machine T.m_Machine_least F_Machine_least hr6 b_Machine_least .nil pass0)))), ?_⟩
    refine ⟨_, rfl, _, rfl, o, l, txt, d, p, d2, rfl, ho, lok, l5, et, t7, pok, pn7, fun t n ls en H1 s1 fm lang n3 lsl ⟨la, ea, ts, ht, hla, hln, hea⟩ => ?_⟩
    refine ⟨t, _, rfl, SqT.of ht, rfl, _, _, rfl, _, _, rfl, rfl, ?_⟩
    refine ⟨rfl, ?_⟩
    refine ⟨_, rfl, _, rfl, _, rfl, fun x dx x0 dx0 nx => ?_⟩
    generalize e2 : upd H1 dx _ = H2
    obtain ⟨s2, d2', f2⟩ := newE dx0 e2
    have x2 : H2 x = none := (f2 x nx.symm).trans x0
    generalize e3 : upd H2 x _ = H3
    obtain ⟨s3, x3, f3⟩ := newE x2 e3
    have s13 := same_trans s2 s3
    refine ⟨x, dx, o, la, ea, l, n, ts, ls, en, rfl, x3, (ho.mono s1).mono s13, lok, s13 _ _ hla, hln.mono s13, s13 _ _ hea, fm, n3, lsl, fun H4 k4 M4 => ⟨rfl, ?_⟩⟩
    have s14 : Same H1 H4 := fun b u e => k4 _ _ (s13 _ _ e) (ne_of_none e x0)
    obtain ⟨dm, _, _, _, _, _, hm4, _⟩ := id M4
    refine ⟨x, dm, _, rfl, hm4, rfl, ?_⟩
    refine ⟨x, o, l, n, ls, en, rfl, M4, (ho.mono s1).mono s14, lok, l5, fm, n3, lsl, fun m' n' ls' en' H5 s5 fm' rd' lang' n3' lsl' M5 => ?_⟩
    exact q m' n' ls' en' H5 (same_trans s1 (same_trans s14 s5)) fm' rd' (fun w' => (lang' w').trans (lang w')) n3' lsl' M5
end
end E

set_option autoImplicit true
set_option maxHeartbeats 4000000
set_option Elab.async false
set_option linter.all false
set_option maxRecDepth 100000
set_option maxHeartbeats 4000000
/-! The law. -/
namespace E
open PySem PySem.Spec PyProof.Rows L2
theorem pe_exs {X : Cx} {e : Expr} {t : Nat → TE} (h : ∀ d, d ≤ 2 → PE X e (t d)) : PE X e (fun σ H Q => ∃ d, d ≤ 2 ∧ t d σ H Q) := ⟨fun pins s σ H Q I ⟨d, l, q⟩ => (h d l).run pins s σ H Q I q⟩
theorem dp_seq2 {K : PySem.W.Frag} {H : Hp} {z la ea : Addr} {ts : List Addr} {ls : List EM.Lane} {en : List Nat} (hz : H z = some (.lst [.ref la, .ref ea])) (hla : H la = some (.tup (refs ts))) (hln : LnAt H ts ls) (hea : H ea = some (.tup (natsV en))) :
    Dp K H (.ref z) (.list [.tuple (ls.map laneD), .tuple (en.map fun j : Nat => PyData.int j)]) :=
  .lst (SqL.of hz) (.cons (.tup (SqT.of hla) (dp_lanes hln)) (.cons (.tup (SqT.of hea) (dp_nats en)) .nil))
theorem shaped_two {ls : List EM.Lane} {en : List Nat} (h : ∀ x, x ∈ ls → x.2.1 ≤ 122) : SeqAt.shaped (.list [.tuple (ls.map laneD), .tuple (en.map fun j : Nat => PyData.int j)]) = true := by
  have h1 := shaped_lanes h
  have h2 := (shaped_nats en).2
  have h1 : (PyData.canLayAll0 (ls.map laneD) && decide (PyData.depthAll (ls.map laneD) + 1 ≤ 64)) = true := h1
  have h2 : (PyData.canLayAll0 (en.map fun j : Nat => PyData.int j) && decide (PyData.depthAll (en.map fun j : Nat => PyData.int j) + 1 ≤ 64)) = true := h2
  obtain ⟨i1, i2⟩ := lanes_ok h
  rw [Bool.and_eq_true] at h2
  obtain ⟨j1, j2⟩ := h2
  have j3 : ∀ ns : List Nat, PyData.depthAll (ns.map fun j : Nat => PyData.int j) = 0 := by
    intro ns
    induction ns with
    | nil => rfl
    | cons a r ih => show max (PyData.depth (.int a)) (PyData.depthAll _) = 0; rw [ih]; rfl
  show ((PyData.canLayAll0 (ls.map laneD) && (PyData.canLayAll0 (en.map fun j : Nat => PyData.int j) && true)) && decide (max (PyData.depthAll (ls.map laneD) + 1) (max (PyData.depthAll (en.map fun j : Nat => PyData.int j) + 1) 0) + 1 ≤ 64)) = true
  rw [i1, j1, j3]
  simp only [Bool.and_true, Bool.true_and, decide_eq_true_eq]
  omega
theorem shaped_lay {d : List PyData} (h : SeqAt.shaped (.list d) = true) : PyData.canLay0 (.list d) = true := by
  have h : (PyData.canLayAll0 d && decide (PyData.depthAll d + 1 ≤ 64)) = true := h
  rw [Bool.and_eq_true] at h
  exact h.1
theorem same_data {ls : List EM.Lane} {en : List Nat} (h : ∀ x, x ∈ ls → x.2.1 ≤ 122) : PyData.eqv (.list [.tuple (ls.map laneD), .tuple (en.map fun j : Nat => PyData.int j)]) (.list [.tuple (ls.map laneD), .tuple (en.map fun j : Nat => PyData.int j)]) = true := PySem.SeqAt.eqv_refl _ (shaped_lay (shaped_two h))
theorem most_of {l : List Nat} (h1 : 1 ≤ l.length) (h5 : l.length ≤ 5) : ∃ mw : Nat, atI [V.int 5, V.int 5, V.int 4, V.int 3, V.int 3] (((sOf l).length : Int) - 1) = some (.int (mw : Nat)) ∧ mw ≤ 5 := by
  rw [sOf_len]
  have : l.length = 1 ∨ l.length = 2 ∨ l.length = 3 ∨ l.length = 4 ∨ l.length = 5 := by omega
  rcases this with h | h | h | h | h <;> rw [h]
  · exact ⟨5, rfl, by decide⟩
  · exact ⟨5, rfl, by decide⟩
  · exact ⟨4, rfl, by decide⟩
  · exact ⟨3, rfl, by decide⟩
  · exact ⟨3, rfl, by decide⟩
theorem iteNe {x : V} {A B : Prop} (h : B) : if (!decide (x = x)) = true then A else B := by
  rw [decide_eq_true rfl]
  exact h
theorem sp_whole {L : EM.Lang} {u : List Nat} : EM.Sp L u 0 u.length ↔ L u := by
  unfold EM.Sp
  simp
section
variable {P : Program} {w : World} {K : PySem.W.Frag} {mg : Str → Option Value} {base : Heap}
theorem oex {k : Nat} {f : Addr} {ps : List Str} {sp : Sp} {R : Prop} (h : Ok P w K mg base k f ps sp) (r : ∀ fd, FnOk P w K mg base CX0 k f fd ps sp → Binds K fd ps [] → PySem.W.keepIn K (.ref f) = true → R) : R := by
  obtain ⟨fd, F, b, k⟩ := h
  exact r fd F b k
/-- the rule for a def of the text, its record given -/
theorem ok_mkF {x q : Str} {st : Stmt} {f : Addr} {N ps : List Str} {k : Nat} {sp : Sp} {fd : FuncData} (F : Fd K x q st f fd) (S : FnScope N ps (defScope st)) (len : ∀ vs H Q E, sp vs H Q E → vs.length = ps.length)
    (hbody : ∀ (cdv : Value) (A : Around) (outer : List Env) (s : Shared) (H : Hp) (vs : List V) (Q : VK) (E : XK), Room k (A.deeper (envOfC q (defScope st) s.heap.objs.size f cdv)) → sp vs H Q E →
      ∃ t, PSs (cxOf CX0 P w K mg base N q (defScope st) f cdv A outer s H E).nox (defBody st) t ∧ t { nx := fun _ H' => Q .non H', rt := Q } (start N vs) H) : FnOk P w K mg base CX0 (k + 1) f fd ps sp := F.ok S len fun cdv A outer s H vs Q E hr h => by
  obtain ⟨t, h1, h2⟩ := hbody cdv A outer s H vs Q E hr h
  exact ⟨t, h1.nox, h2⟩
def spLaw (K : PySem.W.Frag) : Sp := fun vs H Q _ => ∃ (a : Addr) (ns : List Int), vs = [.ref a] ∧ SqL K H a (ns.map V.int) ∧ ∀ H', Q (.bl true) H'
theorem ok_law {fd : FuncData} (Fl : Fd K "law" "law" s_law (He.ga K "law") fd) (T : Tx K mg) (hce : Ok P w K mg base 1 (He.ga K "_law_cell") ["_law_script", "_law_k"] (spCell K)) (hpo : Ok P w K mg base 1 (He.ga K "_law_pool") ["_law_cell_here"] spPool) (hta : Ok P w K mg base 1 (He.ga K "_law_take") ["_law_pool_here", "_law_many"] spTake)
    (hle : Ok P w K mg base 3 (He.ga K "_law_letters") ["_law_pool_here", "_law_most"] spLetters) (hwo : Ok P w K mg base 1 (He.ga K "_law_all_words") ["_law_letters_here", "_law_most"] spWords)
    (htx : ∀ d, Ok P w K mg base (d + 1) (He.ga K "_law_pattern_text") ["_law_pattern_here"] (spPtx d)) (hst : ∀ d, Ok P w K mg base (3 * d + 1) (He.ga K "_law_stops") ["_law_pattern_here", "_law_word", "_law_at"] (spStops d))
    (hsm : Ok P w K mg base 5 (He.ga K "_law_small_pattern") ["_law_pool_here", "_law_letters_here"] spSmall) (hor : Ok P w K mg base 2 (He.ma K (He.ga K "Order") "__init__") ["self", "letters"] (spOrd K)) (heq : Ok P w K mg base 1 (He.ma K (He.ga K "Order") "__eq__") ["self", "other"] (spEq K))
    (hrd : Ok P w K mg base 24 (He5.wf K (He.ga K "Machine") "classmethod" "read") ["cls", "order", "text"] (spRead K)) (hmi : Ok P w K mg base 3 (He.ma K (He.ga K "Machine") "__contains__") ["self", "thing"] (spMIn K)) (hml : Ok P w K mg base 6 (He.ma K (He.ga K "Machine") "least") ["self"] (spMLeast K)) :
    FnOk P w K mg base CX0 25 (He.ga K "law") fd ["_law_script"] (spLaw K) := by
  obtain ⟨_, F_L_cell, b_L_cell, k_L_cell⟩ := hce
  obtain ⟨_, F_L_pool, b_L_pool, k_L_pool⟩ := hpo
  obtain ⟨_, F_L_take, b_L_take, k_L_take⟩ := hta
  obtain ⟨_, F_L_letters, b_L_letters, k_L_letters⟩ := hle
  obtain ⟨_, F_L_all_words, b_L_all_words, k_L_all_words⟩ := hwo
  obtain ⟨_, F_L_small_pattern, b_L_small_pattern, k_L_small_pattern⟩ := hsm
  obtain ⟨_, F_Order_init, b_Order_init, _⟩ := hor
  obtain ⟨_, F_Order_eq, b_Order_eq, _⟩ := heq
  obtain ⟨_, F_read, b_read, _⟩ := hrd
  obtain ⟨_, F_Machine_contains, b_Machine_contains, _⟩ := hmi
  obtain ⟨_, F_Machine_least, b_Machine_least, _⟩ := hml
  obtain ⟨insO, insM, hne, crd, cmt, kpM⟩ := T.all
  have hob := insO.hm
  refine ok_mkF Fl sc_law (fun vs H Q E h => ?_) (fun cdv A outer s H vs Q E hr h => ?_)
  · obtain ⟨a, ns, rfl, _⟩ := h
    rfl
  · obtain ⟨a, ns, rfl, ha, q⟩ := h
    have hu := hu_of hr
    have hr1 := hr.mono (show 1 ≤ 24 by omega)
    have hr2 := hr.mono (show 2 ≤ 24 by omega)
    have hr3 := hr.mono (show 3 ≤ 24 by omega)
    have hr5 := hr.mono (show 5 ≤ 24 by omega)
    have hr6 := hr.mono (show 6 ≤ 24 by omega)
    have hrT := fun (d : Nat) (ld : d ≤ 2) => hr.mono (show d + 1 + 1 ≤ 24 by omega)
    have hrS := fun (d : Nat) (ld : d ≤ 2) => hr.mono (show 3 * (d + 1) + 1 ≤ 24 by omega)
    refine ⟨_, (pss_cons (ps_for PassesOwn.never rfl (pi_range1 rfl T.f_range (pa_cons pe_int pa_nil)) (pg_name (i := 1) sc_law.nd rfl (by first | exact Or.inl rfl | exact Or.inr rfl)) (pss_cons (ps_set (i := 2) sc_law.nd rfl (by first | exact Or.inl rfl | exact Or.inr rfl) (pe_call F_L_pool hr1 rfl T.g_L_pool k_L_pool b_L_pool .nil pass0 (pa_cons (pe_op op_add (pe_call F_L_cell hr1 rfl T.g_L_cell k_L_cell b_L_cell .nil pass0 (pa_cons (pv 0) (pa_cons (pv 1) pa_nil))) (pv 1)) pa_nil)))
      (pss_cons (ps_set (i := 3) sc_law.nd rfl (by first | exact Or.inl rfl | exact Or.inr rfl) (pe_op op_add_str (pe_call F_L_letters hr3 rfl T.g_L_letters k_L_letters b_L_letters .nil pass0 (pa_cons (pv 2) (pa_cons pe_int pa_nil))) (pe_ix ix_list (pe_lst (pa_cons pe_str (pa_cons pe_str pa_nil))) (pe_callTy call_int1 (by rfl) T.f_int (by decide +kernel) (pa_cons (pe_cmpR op_eq (pe_call F_L_take hr1 rfl T.g_L_take k_L_take b_L_take .nil pass0 (pa_cons (pv 2) (pa_cons pe_int pa_nil))) pe_int (nomark _)) pa_nil)) (fun _ _ => rfl))))
      (pss_cons (ps_set (i := 4) sc_law.nd rfl (by first | exact Or.inl rfl | exact Or.inr rfl) (pe_call F_L_small_pattern hr5 rfl T.g_L_small_pattern k_L_small_pattern b_L_small_pattern .nil pass0 (pa_cons (pv 2) (pa_cons (pv 3) pa_nil))))
      (pss_cons (ps_set (i := 5) sc_law.nd rfl (by first | exact Or.inl rfl | exact Or.inr rfl) (pe_exs fun d ld => oex (htx (d + 1)) fun _ F b k => pe_call F (hrT d ld) rfl T.g_L_pattern_text k b .nil pass0 (pa_cons (pv 4) pa_nil)))
      (pss_cons (ps_set (i := 6) sc_law.nd rfl (by first | exact Or.inl rfl | exact Or.inr rfl) (pe_make T.mk_Order F_Order_init hr3 (by rfl) T.g_Order b_Order_init .nil pass0 (pa_cons (pv 3) pa_nil)))
      (pss_cons (ps_set (i := 7) sc_law.nd rfl (by first | exact Or.inl rfl | exact Or.inr rfl) (ClX.pe_cmeth (pe_glob (v := .ref (He.ga K "Machine")) rfl T.g_Machine rfl) crd cmt (F_read.raw b_read .nil) hr pass0 (pa_cons (pv 6) (pa_cons (pv 5) pa_nil))))
      (pss_cons (ps_if (PW.pt (pw_or (pt_not (pt_val (pe_callB (C8.call_isC insM) (by rfl) T.f_isinstance (by decide +kernel) (pa_cons (pv 7) (pa_cons (pe_glob (v := .ref (He.ga K "Machine")) rfl T.g_Machine rfl) pa_nil))))) (pw_or1 (pt_cmpR (op_neOwn T.m_Order_eq hne hob F_Order_eq hr2 b_Order_eq) (pe_fld (pv 7) rfl) (pv 6) (nomark _))))) (pss_one (ps_ret pe_bl)) pss_nil)
      (pss_cons (ps_for PassesOwn.never rfl (pi_list (pe_call F_L_all_words hr1 rfl T.g_L_all_words k_L_all_words b_L_all_words .nil pass0 (pa_cons (pv 3) (pa_cons (pe_ix ix_list (pe_lst (pa_cons pe_int (pa_cons pe_int (pa_cons pe_int (pa_cons pe_int (pa_cons pe_int pa_nil)))))) (pe_op op_sub (pe_callB call_len_str (by rfl) T.f_len (by decide +kernel) (pa_cons (pv 3) pa_nil)) pe_int) (fun _ _ => rfl)) pa_nil)))) (pg_name (i := 8) sc_law.nd rfl (by first | exact Or.inl rfl | exact Or.inr rfl)) (pss_one (ps_if (pt_cmpR op_ne (pe_cmpR (op_inOwn T.m_Machine_contains F_Machine_contains hr3 b_Machine_contains) (pv 8) (pv 7) rfl) (pe_cmpR op_in_seq (pe_callB call_len_str (by rfl) T.f_len (by decide +kernel) (pa_cons (pv 8) pa_nil)) (pe_exs fun d ld => oex (hst (d + 1)) fun _ F b k => pe_call F (hrS d ld) rfl T.g_L_stops k b .nil pass0 (pa_cons (pv 4) (pa_cons (pv 8) (pa_cons pe_int pa_nil)))) rfl) (nomark _)) (pss_one (ps_ret pe_bl)) pss_nil)))
      (pss_cons (ps_set (i := 9) sc_law.nd rfl (by first | exact Or.inl rfl | exact Or.inr rfl) (pe_meth0 (pv 7) T.c_Machine T.m_Machine_least F_Machine_least hr6 b_Machine_least .nil pass0))
      (pss_cons (ps_set (i := 10) sc_law.nd rfl (by first | exact Or.inl rfl | exact Or.inr rfl) (ClX.pe_cmeth (pe_glob (v := .ref (He.ga K "Machine")) rfl T.g_Machine rfl) crd cmt (F_read.raw b_read .nil) hr pass0 (pa_cons (pv 6) (pa_cons (pv 5) pa_nil))))
      (pss_cons (ps_if (pt_cmpR (op_neD hr.units) (pe_lst (pa_cons (pe_fld (pv 7) rfl) (pa_cons (pe_fld (pv 7) rfl) pa_nil))) (pe_lst (pa_cons (pe_fld (pv 9) rfl) (pa_cons (pe_fld (pv 9) rfl) pa_nil))) (nomark _)) (pss_one (ps_ret pe_bl)) pss_nil)
      (pss_one (ps_if (pt_cmpR (op_neD hr.units) (pe_lst (pa_cons (pe_fld (pv 7) rfl) (pa_cons (pe_fld (pv 7) rfl) pa_nil))) (pe_lst (pa_cons (pe_fld (pv 10) rfl) (pa_cons (pe_fld (pv 10) rfl) pa_nil))) (nomark _)) (pss_one (ps_ret pe_bl)) pss_nil))))))))))))))
      (pss_one (ps_ret pe_bl))), ?_⟩
    have ha' : ∀ {Hx : Hp}, Same H Hx → SqL K Hx a (ns.map V.int) := fun sx => Kp.sql (M := none') (Same.kp sx) ha id
    refine ⟨_, rfl, by decide, by decide, ?_⟩
    refine for_range (n := 3) (fun i σ H' => ∃ y1 y2 y3 y4 y5 y6 y7 y8 y9 y10, σ = [some (.ref a), y1, y2, y3, y4, y5, y6, y7, y8, y9, y10] ∧ Same H H') ?_ (fun i σ H' hi hI => ?_) (fun σ H' hI => ?_)
    · exact ⟨_, _, _, _, _, _, _, _, _, _, rfl, same_refl _⟩
    · obtain ⟨y1, y2, y3, y4, y5, y6, y7, y8, y9, y10, rfl, s0⟩ := hI
      refine ⟨_, rfl, _, rfl, a, ns, i, by show [V.ref a, V.int (0 + (i : Int))] = _; rw [Int.zero_add], ha' s0, fun c => ?_⟩
      refine ⟨_, rfl, _, _, rfl, rfl, _, rfl, fun p H1 p0 s1 P1 => ?_⟩
      -- the letters
      refine ⟨_, rfl, p, 0, rfl, P1, by decide, fun l0 H2 lok0 l4 l103 k2 P2 => ?_⟩
      have s02 : Same H H2 := same_trans s0 (fun b u e => k2 b u (s1 _ _ e) (ne_of_none e p0))
      refine ⟨(by show 2 ≤ sizeLine; decide), fun z z0 => ?_⟩
      generalize e3 : upd H2 z _ = H3
      obtain ⟨s3, z3, f3⟩ := newE z0 e3
      refine ⟨_, rfl, p, _, 4, rfl, P2.same s3, by decide, by decide, by decide, fun r H4 r0 r4 k4 P4 => ?_⟩
      have npz : z ≠ p := P2.ne z0
      have p02 : H p = none := none_back s0 p0
      have s04 : Same H H4 := fun b u e => (k4 b (ne_of_none e p02)).trans (s3 _ _ (s02 _ _ e))
      refine ⟨rfl, .inr ⟨_, rfl, ?_⟩⟩
      obtain ⟨tl, htl, htl2⟩ : ∃ tl : List Nat, atI [V.str "", V.str "g"] (if decide (V.int r = V.int 0) = true then 1 else 0) = some (.str (sOf tl)) ∧ (tl = [] ∨ tl = [103]) := by
        by_cases e : r = 0
        · subst e
          exact ⟨[103], rfl, .inr rfl⟩
        · refine ⟨[], ?_, .inl rfl⟩
          rw [if_neg (by simpa using e)]; rfl
      refine ⟨z, _, _, .str (sOf tl), rfl, rfl, SqL.of ((k4 z npz).trans z3), htl, ?_⟩
      have tl1 : tl.length ≤ 1 := by rcases htl2 with e | e <;> rw [e] <;> decide
      refine ⟨_, _, rfl, rfl, by rw [sOf_len, sOf_len]; unfold sizeLine; omega, ?_⟩
      rw [sOf_app]
      have lok : LetOk (l0 ++ tl) := by
        rcases htl2 with e | e
        · rw [e, List.append_nil]; exact lok0
        · rw [e]
          refine ⟨List.nodup_append.mpr ⟨lok0.1, by simp, fun x hx y hy e => l103 (by rw [List.mem_singleton] at hy; rw [← hy, ← e]; exact hx)⟩, by have := lok0.2.1; simp, fun x hx => ?_⟩
          rcases List.mem_append.mp hx with hx | hx
          · exact lok0.2.2 x hx
          · rw [List.mem_singleton.mp hx]; decide
      have l5 : (l0 ++ tl).length ≤ 5 := by rw [List.length_append]; omega
      generalize l0 ++ tl = l at lok l5
      have l1 := lok.2.1
      have sl : (sOf l).length = l.length := sOf_len l
      -- the pattern, its text, its order
      refine ⟨_, rfl, _, rfl, p, _, l, rfl, lok, l5, P4, by decide, fun f d pt H5 d2 pok pn7 k5 P5 A5 => ?_⟩
      have s05 : Same H H5 := fun b u e => k5 b u (s04 _ _ e) (ne_of_none e p02)
      have A5 := A5.mono hide_sub
      refine ⟨d, d2, _, rfl, f, pt, l, rfl, A5, pok, d2, fun H6 s6 => ?_⟩
      have t7 : (EM.patT (EM.innT d) pt).length ≤ 700 := by
        have := EM.patT_lb pok
        have dd : d = 0 ∨ d = 1 ∨ d = 2 := by omega
        have : EM.Tb d ≤ 601 := by rcases dd with rfl | rfl | rfl <;> decide
        omega
      refine ⟨_, rfl, fun o dx o0 dx0 no => ?_⟩
      generalize e7 : upd H6 dx _ = H7
      obtain ⟨s7, dx7, f7⟩ := newE dx0 e7
      have o7 : H7 o = none := (f7 o no.symm).trans o0
      generalize e8 : upd H7 o _ = H8
      obtain ⟨s8, o8, f8⟩ := newE o7 e8
      refine ⟨o, dx, l, rfl, o8, lok, by omega, fun H9 k9 O9 => ⟨rfl, ?_⟩⟩
      have s69 : Same H6 H9 := fun b u e => k9 b u (s8 _ _ (s7 _ _ e)) (ne_of_none e o0)
      have s09 := same_trans s05 (same_trans s6 s69)
      have A9 := A5.mono (same_trans s6 s69)
      -- read
      refine ⟨rfl, _, rfl, _, rfl, o, l, _, d, pt, d2, rfl, O9, lok, l5, rfl, t7, pok, pn7, fun m n ls en HA sA fm rd lang n3 lsl M => ?_⟩
      obtain ⟨dm, td, ea, la, pl, ts, hm, htd, hea, hla, hln, hpl⟩ := id M
      have OA := O9.mono sA
      obtain ⟨dxo, rk, hoA, _⟩ := id OA
      refine ⟨_, rfl, m, dm, _, rfl, hm, _, rfl, iteF ?_⟩
      refine ⟨_, rfl, m, _, dm, _, _, rfl, hm, T.c_Machine, T.n_Machine_order, rfl, _, rfl, o, o, dxo, dxo, _, _, rfl, rfl, hoA, hoA, o, o, l, rfl, OA, OA, true, rfl, ?_⟩
      refine ⟨_, rfl, iteF ?_⟩
      have A10 := A9.mono sA
      -- all words
      obtain ⟨mw, hmw, mw5⟩ := most_of l1 l5
      refine ⟨_, rfl, (by show 5 ≤ sizeLine; decide), fun z2 z20 => ?_⟩
      generalize eB : upd HA z2 _ = HB
      obtain ⟨sB, z2B, fB⟩ := newE z20 eB
      refine ⟨_, rfl, sOf l, rfl, by rw [sl]; unfold sizeLine; omega, _, _, rfl, rfl, z2, _, _, _, rfl, rfl, SqL.of z2B, hmw, ?_⟩
      refine ⟨l, mw, rfl, l5, mw5, fun fw ws HC hws sC fw0 hfw => ?_⟩
      refine ⟨fw, rfl, ⟨_, SqL.of hfw⟩, ?_⟩
      have sAC := same_trans sB sC
      refine for_list (xs := txts ws) (fun i σ H' => ∃ y1 y8 y9 y10, σ = [some (.ref a), y1, some (.ref p), some (.str (sOf l)), some (.ref f), some (.str (sOf (EM.patT (EM.innT d) pt))), some (.ref o), some (.ref m), y8, y9, y10] ∧ Same HC H') ?_ (fun i σ H' _ hI => ?_) (fun i v σ H' hv hI => ?_) (fun σ H' hI => ?_)
      · exact ⟨_, _, _, _, rfl, same_refl _⟩
      · obtain ⟨_, _, _, _, rfl, sx⟩ := hI
        exact SqL.of (sx _ _ hfw)
      · obtain ⟨y1', y8', y9', y10', rfl, sx⟩ := hI
        obtain ⟨u, hu', rfl⟩ : ∃ u, ws[i]? = some u ∧ v = .str (sOf u) := by
          have hv : (ws.map fun u => V.str (sOf u))[i]? = some v := hv
          rw [List.getElem?_map] at hv
          cases e : ws[i]? with
          | none => rw [e] at hv; cases hv
          | some u => rw [e] at hv; cases hv; exact ⟨u, rfl, rfl⟩
        obtain ⟨ov, ul⟩ := hws u (List.mem_of_getElem? hu')
        have sAx := same_trans sAC sx
        refine ⟨_, rfl, _, rfl, m, dm, _, rfl, sAx _ _ hm, m, o, l, n, ls, en, u, rfl, M.mono sAx, OA.mono sAx, ov, by omega, fm.sc.srt, fun b HD sD hb => ⟨b, rfl, ?_⟩⟩
        refine ⟨_, rfl, sOf u, rfl, by rw [sOf_len]; unfold sizeLine; omega, d, d2, _, rfl, _, rfl, f, pt, l, u, 0, rfl, A10.mono (same_trans sAx sD), pok, lok, ov, by omega, Nat.zero_le _, fun f2 nums HE sE hf2 st => ?_⟩
        refine ⟨f2, natsV nums, rfl, .inl (SqL.of hf2), rfl, flat_nats _, rfl, ?_⟩
        have eb : b = inV (.int ((sOf u).length : Nat)) (natsV nums) := by
          rw [Bool.eq_iff_iff, hb, lang u, sOf_len, ← sp_whole (L := EM.patL (EM.innL l d) pt)]
          exact (st.2 u.length).symm.trans ((inV_oV (some u.length) nums).trans ⟨fun ⟨q', e, h⟩ => by cases e; exact h, fun h => ⟨_, rfl, h⟩⟩).symm
        refine ⟨_, rfl, ?_⟩
        subst eb
        refine iteNe ?_
        exact ⟨_, _, _, _, rfl, same_trans sx (same_trans sD sE)⟩
      · obtain ⟨y1', y8', y9', y10', rfl, sx⟩ := hI
        have sAx := same_trans sAC sx
        refine ⟨_, rfl, m, dm, _, rfl, sAx _ _ hm, rfl, m, o, l, n, ls, en, rfl, M.mono sAx, OA.mono sAx, lok, l5, fm, n3, lsl, fun m2 n2 ls2 en2 HF sF fm2 rd2 lang2 _ _ M2 => ?_⟩
        obtain ⟨e1, e2⟩ := EM.same_form fm2 fm rd2 rd lang2
        rw [e1, e2] at M2
        refine ⟨rfl, _, rfl, _, rfl, o, l, _, d, pt, d2, rfl, (OA.mono sAx).mono sF, lok, l5, rfl, t7, pok, pn7, fun m3 n3' ls3 en3 HG sG fm3 rd3 lang3 _ _ M3 => ?_⟩
        obtain ⟨e3, e4⟩ := EM.same_form fm3 fm rd3 rd fun w' => (lang3 w').trans (lang w').symm
        rw [e3, e4] at M3
        have lc : ∀ x, x ∈ ls → x.2.1 ≤ 122 := fun x hx => (lok.2.2 _ (fm.sc.bnd x hx).2.1).2
        have sAG := same_trans sAx (same_trans sF sG)
        obtain ⟨dm1, td1, ea1, la1, pl1, ts1, hm1, _, hea1, hla1, hln1, _⟩ := M.mono sAG
        obtain ⟨dm2, td2, ea2, la2, pl2, ts2, hm2, _, hea2, hla2, hln2, _⟩ := M2.mono sG
        obtain ⟨dm3, td3, ea3, la3, pl3, ts3, hm3, _, hea3, hla3, hln3, _⟩ := M3
        -- the least machine
        refine ⟨_, rfl, m, _, dm1, _, _, rfl, hm1, T.c_Machine, T.n_Machine_lanes, rfl, _, rfl, m, _, dm1, _, _, rfl, hm1, T.c_Machine, T.n_Machine_ends, rfl, (by show 2 ≤ sizeLine; decide), fun z3 z30 => ?_⟩
        generalize eH : upd HG z3 _ = HH
        obtain ⟨sH, z3H, fH⟩ := newE z30 eH
        refine ⟨_, rfl, m2, _, dm2, _, _, rfl, sH _ _ hm2, T.c_Machine, T.n_Machine_lanes, rfl, _, rfl, m2, _, dm2, _, _, rfl, sH _ _ hm2, T.c_Machine, T.n_Machine_ends, rfl, (by show 2 ≤ sizeLine; decide), fun z4 z40 => ?_⟩
        generalize eI : upd HH z4 _ = HI
        obtain ⟨sI, z4I, fI⟩ := newE z40 eI
        have sGI := same_trans sH sI
        refine ⟨_, _, dp_seq2 (sI _ _ z3H) (sGI _ _ hla1) (hln1.mono sGI) (sGI _ _ hea1), dp_seq2 z4I (sGI _ _ hla2) (hln2.mono sGI) (sGI _ _ hea2), shaped_two lc, shaped_two lc, ?_⟩
        rw [same_data lc]
        refine ⟨_, rfl, iteF ?_⟩
        -- the same again
        refine ⟨_, rfl, m, _, dm1, _, _, rfl, sGI _ _ hm1, T.c_Machine, T.n_Machine_lanes, rfl, _, rfl, m, _, dm1, _, _, rfl, sGI _ _ hm1, T.c_Machine, T.n_Machine_ends, rfl, (by show 2 ≤ sizeLine; decide), fun z5 z50 => ?_⟩
        generalize eJ : upd HI z5 _ = HJ
        obtain ⟨sJ, z5J, fJ⟩ := newE z50 eJ
        have sGJ := same_trans sGI sJ
        refine ⟨_, rfl, m3, _, dm3, _, _, rfl, sGJ _ _ hm3, T.c_Machine, T.n_Machine_lanes, rfl, _, rfl, m3, _, dm3, _, _, rfl, sGJ _ _ hm3, T.c_Machine, T.n_Machine_ends, rfl, (by show 2 ≤ sizeLine; decide), fun z6 z60 => ?_⟩
        generalize eK : upd HJ z6 _ = HK
        obtain ⟨sK, z6K, fK⟩ := newE z60 eK
        have sGK := same_trans sGJ sK
        refine ⟨_, _, dp_seq2 (sK _ _ z5J) (sGK _ _ hla1) (hln1.mono sGK) (sGK _ _ hea1), dp_seq2 z6K (sGK _ _ hla3) (hln3.mono sGK) (sGK _ _ hea3), shaped_two lc, shaped_two lc, ?_⟩
        rw [same_data lc]
        refine ⟨_, rfl, iteF ?_⟩
        exact ⟨_, _, _, _, _, _, _, _, _, _, rfl, same_trans s09 (same_trans sA (same_trans sAG sGK))⟩
    · obtain ⟨y1, y2, y3, y4, y5, y6, y7, y8, y9, y10, rfl, s0⟩ := hI
      exact q _
end
end E

set_option autoImplicit true
set_option maxHeartbeats 4000000
set_option Elab.async false
set_option linter.all false
set_option maxRecDepth 100000
set_option maxHeartbeats 0
/-! All promises, joined; the law at every input. -/
namespace E
open PySem PySem.Spec PyProof.Rows L2
section
variable {P : Program} {w : World} {K : PySem.W.Frag} {mg : Str → Option Value} {base : Heap}
theorem all_ok {fd : FuncData} (Fl : Fd K "law" "law" s_law (He.ga K "law") fd) (T : Tx K mg) : FnOk P w K mg base CX0 25 (He.ga K "law") fd ["_law_script"] (spLaw K) := by
  have take := ok_take (P := P) (w := w) (base := base) T
  have txt := ok_ptext (P := P) (w := w) (base := base) T
  have has := ok_has (P := P) (w := w) (base := base) T
  have num := ok_num (P := P) (w := w) (base := base) T
  have come := ok_come (P := P) (w := w) (base := base) T
  have go := ok_go (P := P) (w := w) (base := base) T
  have useful := fun k => ok_useful (P := P) (w := w) (base := base) T k (ok_found T k) come
  have minit := ok_minit T (ok_frozen T (ok_lane T num (ok_list T) has)) (ok_fends T num) (ok_idle T go come)
  have mleast := ok_mleast T (ok_least T (ok_kinds T) (useful _)) minit
  have rd := ok_read T (ok_pform T (ok_rdinit T) (ok_reader T (ok_sign T) has) (ok_spinit T) (ok_laid T (ok_link T)) (ok_next T) (useful _)) minit mleast
  exact ok_law Fl T (ok_cell T) (ok_pool T) take (ok_letters T take (ok_mixed T take)) (ok_words T) txt (ok_stops T) (ok_small T (ok_pattern T take) txt) (ok_ord T (ok_lets T)) (ok_eq T) rd (ok_min T (ok_isw T) (ok_walk T go)) mleast
end
end E
open PySem PySem.W PySem.Calls PyProof.Rows
theorem PySem.Challenge.cw_endrows_k11_whole_patterns_holds : PySem.Challenge.rw_endrows_k11_whole_patterns.Holds := by
  w_on; o_law
  refine HandSHeadRun.head_any (r := E.R) (q := view E.R.prog [51]) (H := E.hk) (ob := E.ob) (M := 7000) (loose := E.loose) (d := HandSHeadRun.topDef E.R.prog 51) (kwd := []) E.ob_eq
    (by kernel_rfl) (fun s => by kernel_rfl) E.run (by kernel_rfl) (by kernel_rfl) (by kernel_rfl) (by rfl) (by first | assumption | decide +kernel) (by decide +kernel) ⟨rfl, rfl, rfl, rfl, rfl, by decide +kernel⟩ ?hw ?hc
  case hw => w_witness2
  case hc =>
    refine L2.walk_ofE (l := PySem.Challenge.rw_endrows_k11_whole_patterns) (n := 63) (k := 25) (x := "_law_script") (CX := L2.CX0) rfl (by decide) (by kernel_rfl) ⟨rfl, by decide, by decide⟩ ?F (fun _ _ _ _ z => z)
    intro w mg fa h Y G hmg0
    obtain ⟨K, KX, c⟩ := Y
    have T : E.Tx K mg := ⟨⟨h, KX, G⟩, congrArg Prod.fst c, congrArg Prod.snd c⟩
    have hmg : mg ("law" : PySem.Str) = some (.ref fa) := by
      have e : (HandSHeadRun.topDef E.R.prog 51).name = ("law" : PySem.Str) := by kernel_rfl
      rw [← e]
      exact hmg0
    have e := hmg.symm.trans T.g_law
    cases e
    obtain ⟨fd, F⟩ := T.fn_law
    have b := L2.FunD.bindsA (ps := ["_law_script"]) F fun _ _ _ _ _ _ us hl => match us, hl with | [_], _ => rfl
    exact ⟨K, fd, E.spLaw K, KX, fun s v => b s [v] rfl, fun H a ns hl _ hS => ⟨a, ns, rfl, hS, fun _ => rfl⟩, fun base _ _ => E.all_ok F T⟩

