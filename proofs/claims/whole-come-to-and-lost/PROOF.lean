import PyProof.Rows.All
import HandS.ForMost
import HandS.More
import HandS.Defaults
import HandS.HeadHook1
import HandS.HeadHook2
import PySem.Challenge.RW_deepfall_k23_whole_come_to_and_lost
import HandS.Head0
import HandS.Head1
import HandS.Head2
import HandS.HeadEnd
import HandS.IsInst
import HandS.Walk
import HandS.Deep
import HandS.SetFor
import HandS.Conv
import HandS.Style
import HandS.Flow
import KE.DataFind
import HandS.DictComp
import HandS.SortRule
import HandS.WideBits
import HandS.NoneIn
import HandS.Strs
import HandS.ListItems
import HandS.DictTup
import KE.SortData
import PyProof.ReprRoads
import PyProof.ReprLen
set_option Elab.async false
set_option linter.all false
set_option maxRecDepth 100000
set_option maxHeartbeats 4000000
/-! The text by places, one datum a def, what the top leaves. -/
namespace Df
open PySem PySem.Spec PyProof.Rows L2
def top (i : Nat) : Stmt := PySem.Challenge.pw_deepfall_k23_whole_come_to_and_lost.main.body.getD i (.Pass ⟨0, 0, 0, 0⟩)
abbrev s_holds_of : Stmt := top 11
abbrev s_hold_within : Stmt := top 13
abbrev s_ways_known : Stmt := top 14
abbrev s_come_to : Stmt := top 15
abbrev s_lost : Stmt := top 16
abbrev s_is_name : Stmt := top 20
abbrev s_is_whole : Stmt := top 21
abbrev s_is_count : Stmt := top 22
abbrev s_want_hands : Stmt := top 31
abbrev s_want_name : Stmt := top 32
abbrev s_want_word : Stmt := top 33
abbrev s_joint : Stmt := top 34
abbrev s_L_pot : Stmt := top 37
abbrev s_L_take : Stmt := top 38
abbrev s_L_among : Stmt := top 39
abbrev s_L_name : Stmt := top 40
abbrev s_L_names : Stmt := top 41
abbrev s_L_begun : Stmt := top 42
abbrev s_L_deed : Stmt := top 43
abbrev s_L_ring : Stmt := top 44
abbrev s_L_row_in : Stmt := top 45
abbrev s_L_is_let : Stmt := top 46
abbrev s_L_less : Stmt := top 47
abbrev s_L_own_done : Stmt := top 48
abbrev s_L_store_done : Stmt := top 49
abbrev s_L_all_done : Stmt := top 50
abbrev s_L_next : Stmt := top 51
abbrev s_L_holds : Stmt := top 52
abbrev s_L_left : Stmt := top 53
abbrev s_L_right : Stmt := top 54
abbrev s_L_chain_right : Stmt := top 55
abbrev s_law : Stmt := top 56
abbrev m_init : Stmt := inClass (top 35) 0
abbrev m_sort_word : Stmt := inClass (top 35) 1
abbrev m_marks_of : Stmt := inClass (top 35) 4
abbrev m_come_in : Stmt := inClass (top 35) 5
abbrev m_done : Stmt := inClass (top 35) 6
abbrev m_add_hold : Stmt := inClass (top 35) 7
abbrev m_end_hold : Stmt := inClass (top 35) 8
abbrev m_holds_by : Stmt := inClass (top 35) 9
abbrev m_things : Stmt := inClass (top 35) 11
abbrev m_has_thing : Stmt := inClass (top 35) 13
abbrev m_want_thing : Stmt := inClass (top 35) 14
abbrev m_want_hand : Stmt := inClass (top 35) 15
abbrev m_want_had : Stmt := inClass (top 35) 16
abbrev m_want_room : Stmt := inClass (top 35) 17
abbrev m_want_owner : Stmt := inClass (top 35) 18
abbrev m_have : Stmt := inClass (top 35) 23
abbrev m_lose : Stmt := inClass (top 35) 24
abbrev m_clear_slot : Stmt := inClass (top 35) 25
abbrev m_fill : Stmt := inClass (top 35) 26
abbrev m_make : Stmt := inClass (top 35) 27
abbrev m_put : Stmt := inClass (top 35) 28
abbrev m_show : Stmt := inClass (top 35) 29
abbrev m_tie : Stmt := inClass (top 35) 30
abbrev m_empty : Stmt := inClass (top 35) 31
abbrev m_take : Stmt := inClass (top 35) 32
abbrev m_give : Stmt := inClass (top 35) 33
abbrev m_drop : Stmt := inClass (top 35) 34
abbrev m_shape_of : Stmt := inClass (top 35) 36
abbrev m_shape : Stmt := inClass (top 35) 37
def d_holds_of : He.DefD := ⟨("holds_of", none), "holds_of", "holds_of", defArgs s_holds_of, defBody s_holds_of, defScope s_holds_of, [], []⟩
def d_hold_within : He.DefD := ⟨("hold_within", none), "hold_within", "hold_within", defArgs s_hold_within, defBody s_hold_within, defScope s_hold_within, [], []⟩
def d_ways_known : He.DefD := ⟨("ways_known", none), "ways_known", "ways_known", defArgs s_ways_known, defBody s_ways_known, defScope s_ways_known, [], []⟩
def d_come_to : He.DefD := ⟨("come_to", none), "come_to", "come_to", defArgs s_come_to, defBody s_come_to, defScope s_come_to, [], []⟩
def d_lost : He.DefD := ⟨("lost", none), "lost", "lost", defArgs s_lost, defBody s_lost, defScope s_lost, [], []⟩
def d_is_name : He.DefD := ⟨("is_name", none), "is_name", "is_name", defArgs s_is_name, defBody s_is_name, defScope s_is_name, [], []⟩
def d_is_whole : He.DefD := ⟨("is_whole", none), "is_whole", "is_whole", defArgs s_is_whole, defBody s_is_whole, defScope s_is_whole, [], []⟩
def d_is_count : He.DefD := ⟨("is_count", none), "is_count", "is_count", defArgs s_is_count, defBody s_is_count, defScope s_is_count, [], []⟩
def d_want_hands : He.DefD := ⟨("want_hands", none), "want_hands", "want_hands", defArgs s_want_hands, defBody s_want_hands, defScope s_want_hands, [], []⟩
def d_want_name : He.DefD := ⟨("want_name", none), "want_name", "want_name", defArgs s_want_name, defBody s_want_name, defScope s_want_name, [], []⟩
def d_want_word : He.DefD := ⟨("want_word", none), "want_word", "want_word", defArgs s_want_word, defBody s_want_word, defScope s_want_word, [], []⟩
def d_joint : He.DefD := ⟨("joint", none), "joint", "joint", defArgs s_joint, defBody s_joint, defScope s_joint, [], []⟩
def d_L_pot : He.DefD := ⟨("_law_pot", none), "_law_pot", "_law_pot", defArgs s_L_pot, defBody s_L_pot, defScope s_L_pot, [], []⟩
def d_L_take : He.DefD := ⟨("_law_take", none), "_law_take", "_law_take", defArgs s_L_take, defBody s_L_take, defScope s_L_take, [], []⟩
def d_L_among : He.DefD := ⟨("_law_among", none), "_law_among", "_law_among", defArgs s_L_among, defBody s_L_among, defScope s_L_among, [], []⟩
def d_L_name : He.DefD := ⟨("_law_name", none), "_law_name", "_law_name", defArgs s_L_name, defBody s_L_name, defScope s_L_name, [], []⟩
def d_L_names : He.DefD := ⟨("_law_names", none), "_law_names", "_law_names", defArgs s_L_names, defBody s_L_names, defScope s_L_names, [], []⟩
def d_L_begun : He.DefD := ⟨("_law_begun", none), "_law_begun", "_law_begun", defArgs s_L_begun, defBody s_L_begun, defScope s_L_begun, [], []⟩
def d_L_deed : He.DefD := ⟨("_law_deed", none), "_law_deed", "_law_deed", defArgs s_L_deed, defBody s_L_deed, defScope s_L_deed, [], []⟩
def d_L_ring : He.DefD := ⟨("_law_ring", none), "_law_ring", "_law_ring", defArgs s_L_ring, defBody s_L_ring, defScope s_L_ring, [], []⟩
def d_L_row_in : He.DefD := ⟨("_law_row_in", none), "_law_row_in", "_law_row_in", defArgs s_L_row_in, defBody s_L_row_in, defScope s_L_row_in, [], []⟩
def d_L_is_let : He.DefD := ⟨("_law_is_let", none), "_law_is_let", "_law_is_let", defArgs s_L_is_let, defBody s_L_is_let, defScope s_L_is_let, [], []⟩
def d_L_less : He.DefD := ⟨("_law_less", none), "_law_less", "_law_less", defArgs s_L_less, defBody s_L_less, defScope s_L_less, [], []⟩
def d_L_own_done : He.DefD := ⟨("_law_own_done", none), "_law_own_done", "_law_own_done", defArgs s_L_own_done, defBody s_L_own_done, defScope s_L_own_done, [], []⟩
def d_L_store_done : He.DefD := ⟨("_law_store_done", none), "_law_store_done", "_law_store_done", defArgs s_L_store_done, defBody s_L_store_done, defScope s_L_store_done, [], []⟩
def d_L_all_done : He.DefD := ⟨("_law_all_done", none), "_law_all_done", "_law_all_done", defArgs s_L_all_done, defBody s_L_all_done, defScope s_L_all_done, [], []⟩
def d_L_next : He.DefD := ⟨("_law_next", none), "_law_next", "_law_next", defArgs s_L_next, defBody s_L_next, defScope s_L_next, [], []⟩
def d_L_holds : He.DefD := ⟨("_law_holds", none), "_law_holds", "_law_holds", defArgs s_L_holds, defBody s_L_holds, defScope s_L_holds, [], []⟩
def d_L_left : He.DefD := ⟨("_law_left", none), "_law_left", "_law_left", defArgs s_L_left, defBody s_L_left, defScope s_L_left, [], []⟩
def d_L_right : He.DefD := ⟨("_law_right", none), "_law_right", "_law_right", defArgs s_L_right, defBody s_L_right, defScope s_L_right, [], []⟩
def d_L_chain_right : He.DefD := ⟨("_law_chain_right", none), "_law_chain_right", "_law_chain_right", defArgs s_L_chain_right, defBody s_L_chain_right, defScope s_L_chain_right, [], []⟩
def d_law : He.DefD := ⟨("law", none), "law", "law", defArgs s_law, defBody s_law, defScope s_law, [], []⟩
def e_init : He.DefD := ⟨("Store", some "__init__"), "__init__", "Store.__init__", defArgs m_init, defBody m_init, defScope m_init, [], []⟩
def e_sort_word : He.DefD := ⟨("Store", some "sort_word"), "sort_word", "Store.sort_word", defArgs m_sort_word, defBody m_sort_word, defScope m_sort_word, [], []⟩
def e_marks_of : He.DefD := ⟨("Store", some "marks_of"), "marks_of", "Store.marks_of", defArgs m_marks_of, defBody m_marks_of, defScope m_marks_of, [], []⟩
def e_come_in : He.DefD := ⟨("Store", some "come_in"), "come_in", "Store.come_in", defArgs m_come_in, defBody m_come_in, defScope m_come_in, [], []⟩
def e_done : He.DefD := ⟨("Store", some "done"), "done", "Store.done", defArgs m_done, defBody m_done, defScope m_done, [], []⟩
def e_add_hold : He.DefD := ⟨("Store", some "add_hold"), "add_hold", "Store.add_hold", defArgs m_add_hold, defBody m_add_hold, defScope m_add_hold, [], []⟩
def e_end_hold : He.DefD := ⟨("Store", some "end_hold"), "end_hold", "Store.end_hold", defArgs m_end_hold, defBody m_end_hold, defScope m_end_hold, [], []⟩
def e_holds_by : He.DefD := ⟨("Store", some "holds_by"), "holds_by", "Store.holds_by", defArgs m_holds_by, defBody m_holds_by, defScope m_holds_by, [], []⟩
def e_things : He.DefD := ⟨("Store", some "things"), "things", "Store.things", defArgs m_things, defBody m_things, defScope m_things, [], []⟩
def e_has_thing : He.DefD := ⟨("Store", some "has_thing"), "has_thing", "Store.has_thing", defArgs m_has_thing, defBody m_has_thing, defScope m_has_thing, [], []⟩
def e_want_thing : He.DefD := ⟨("Store", some "want_thing"), "want_thing", "Store.want_thing", defArgs m_want_thing, defBody m_want_thing, defScope m_want_thing, [], []⟩
def e_want_hand : He.DefD := ⟨("Store", some "want_hand"), "want_hand", "Store.want_hand", defArgs m_want_hand, defBody m_want_hand, defScope m_want_hand, [], []⟩
def e_want_had : He.DefD := ⟨("Store", some "want_had"), "want_had", "Store.want_had", defArgs m_want_had, defBody m_want_had, defScope m_want_had, [], []⟩
def e_want_room : He.DefD := ⟨("Store", some "want_room"), "want_room", "Store.want_room", defArgs m_want_room, defBody m_want_room, defScope m_want_room, [], []⟩
def e_want_owner : He.DefD := ⟨("Store", some "want_owner"), "want_owner", "Store.want_owner", defArgs m_want_owner, defBody m_want_owner, defScope m_want_owner, [], []⟩
def e_have : He.DefD := ⟨("Store", some "have"), "have", "Store.have", defArgs m_have, defBody m_have, defScope m_have, [], []⟩
def e_lose : He.DefD := ⟨("Store", some "lose"), "lose", "Store.lose", defArgs m_lose, defBody m_lose, defScope m_lose, [], []⟩
def e_clear_slot : He.DefD := ⟨("Store", some "clear_slot"), "clear_slot", "Store.clear_slot", defArgs m_clear_slot, defBody m_clear_slot, defScope m_clear_slot, [], []⟩
def e_fill : He.DefD := ⟨("Store", some "fill"), "fill", "Store.fill", defArgs m_fill, defBody m_fill, defScope m_fill, [], []⟩
def e_make : He.DefD := ⟨("Store", some "make"), "make", "Store.make", defArgs m_make, defBody m_make, defScope m_make, [], [("word", .str "")]⟩
def e_put : He.DefD := ⟨("Store", some "put"), "put", "Store.put", defArgs m_put, defBody m_put, defScope m_put, [], []⟩
def e_show : He.DefD := ⟨("Store", some "show"), "show", "Store.show", defArgs m_show, defBody m_show, defScope m_show, [], []⟩
def e_tie : He.DefD := ⟨("Store", some "tie"), "tie", "Store.tie", defArgs m_tie, defBody m_tie, defScope m_tie, [], []⟩
def e_empty : He.DefD := ⟨("Store", some "empty"), "empty", "Store.empty", defArgs m_empty, defBody m_empty, defScope m_empty, [], []⟩
def e_take : He.DefD := ⟨("Store", some "take"), "take", "Store.take", defArgs m_take, defBody m_take, defScope m_take, [], []⟩
def e_give : He.DefD := ⟨("Store", some "give"), "give", "Store.give", defArgs m_give, defBody m_give, defScope m_give, [], []⟩
def e_drop : He.DefD := ⟨("Store", some "drop"), "drop", "Store.drop", defArgs m_drop, defBody m_drop, defScope m_drop, [], []⟩
def e_shape_of : He.DefD := ⟨("Store", some "shape_of"), "shape_of", "Store.shape_of", defArgs m_shape_of, defBody m_shape_of, defScope m_shape_of, [], []⟩
def e_shape : He.DefD := ⟨("Store", some "shape"), "shape", "Store.shape", defArgs m_shape, defBody m_shape, defScope m_shape, [], []⟩
def fn : List He.DefD := [d_holds_of, d_hold_within, d_ways_known, d_come_to, d_lost, d_is_name, d_is_whole, d_is_count, d_want_hands, d_want_name, d_want_word, d_joint, d_L_pot, d_L_take, d_L_among, d_L_name, d_L_names, d_L_begun, d_L_deed, d_L_ring, d_L_row_in, d_L_is_let, d_L_less, d_L_own_done, d_L_store_done, d_L_all_done, d_L_next, d_L_holds, d_L_left, d_L_right, d_L_chain_right, d_law, e_init, e_sort_word, e_marks_of, e_come_in, e_done, e_add_hold, e_end_hold, e_holds_by, e_things, e_has_thing, e_want_thing, e_want_hand, e_want_had, e_want_room, e_want_owner, e_have, e_lose, e_clear_slot, e_fill, e_make, e_put, e_show, e_tie, e_empty, e_take, e_give, e_drop, e_shape_of, e_shape]
def fa : List He.Fa := [.glo "holds_of", .glo "hold_within", .glo "ways_known", .glo "come_to", .glo "lost", .glo "is_name", .glo "is_whole", .glo "is_count", .glo "want_hands", .glo "want_name", .glo "want_word", .glo "joint", .glo "_law_pot", .glo "_law_take", .glo "_law_among", .glo "_law_name", .glo "_law_names", .glo "_law_begun", .glo "_law_deed", .glo "_law_ring", .glo "_law_row_in", .glo "_law_is_let", .glo "_law_less", .glo "_law_own_done", .glo "_law_store_done", .glo "_law_all_done", .glo "_law_next", .glo "_law_holds", .glo "_law_left", .glo "_law_right", .glo "_law_chain_right", .glo "law", .free "len", .free "sorted", .free "all", .free "any", .free "isinstance", .free "str", .free "int", .free "bool", .free "list", .free "tuple", .free "dict", .free "set", .free "range", .free "max", .free "min", .free "abs", .free "divmod", .free "zip", .free "enumerate", .free "repr", .int "LONGEST" 8, .int "MOST_HANDS" 6, .int "MOST_THINGS" 40, .int "MOST_HAD" 30, .int "MOST_SLOTS" 8, .str "LETTERS" "abcdefghijklmnopqrstuvwxyz", .str "PLAIN" "plain", .str "WEAK" "weak", .str "KEYED" "keyed", .glo "Store", .cls "Store", .mkr "Store", .noat "Store" "rows", .noat "Store" "filled", .noat "Store" "last", .noat "Store" "kept", .noat "Store" "many", .meth "Store" "__init__", .meth "Store" "sort_word", .meth "Store" "marks_of", .meth "Store" "come_in", .meth "Store" "done", .meth "Store" "add_hold", .meth "Store" "end_hold", .meth "Store" "holds_by", .meth "Store" "things", .meth "Store" "has_thing", .meth "Store" "want_thing", .meth "Store" "want_hand", .meth "Store" "want_had", .meth "Store" "want_room", .meth "Store" "want_owner", .meth "Store" "have", .meth "Store" "lose", .meth "Store" "clear_slot", .meth "Store" "fill", .meth "Store" "make", .meth "Store" "put", .meth "Store" "show", .meth "Store" "tie", .meth "Store" "empty", .meth "Store" "take", .meth "Store" "give", .meth "Store" "drop", .meth "Store" "shape_of", .meth "Store" "shape"]
/-- what the top leaves -/
structure Tx (K : PySem.W.Frag) (mg : Str → Option Value) : Prop where
  c : He.SaysD fa fn K
  ex : ∃ h : Heap, K.In h ∧ h.Ns mainGlobals mg
section
variable {K : PySem.W.Frag} {mg : Str → Option Value}
noncomputable def Tx.hp (T : Tx K mg) : Heap := Classical.choose T.ex
theorem Tx.kin (T : Tx K mg) : K.In T.hp := (Classical.choose_spec T.ex).1
theorem Tx.ns (T : Tx K mg) : T.hp.Ns mainGlobals mg := (Classical.choose_spec T.ex).2
theorem Tx.gl_holds_of (T : Tx K mg) : mg "holds_of" = some (.ref (He.ga K "holds_of")) := He.glo_ok T.kin T.ns (T.c.fact 0 (f := .glo "holds_of") rfl)
theorem Tx.gl_hold_within (T : Tx K mg) : mg "hold_within" = some (.ref (He.ga K "hold_within")) := He.glo_ok T.kin T.ns (T.c.fact 1 (f := .glo "hold_within") rfl)
theorem Tx.gl_ways_known (T : Tx K mg) : mg "ways_known" = some (.ref (He.ga K "ways_known")) := He.glo_ok T.kin T.ns (T.c.fact 2 (f := .glo "ways_known") rfl)
theorem Tx.gl_come_to (T : Tx K mg) : mg "come_to" = some (.ref (He.ga K "come_to")) := He.glo_ok T.kin T.ns (T.c.fact 3 (f := .glo "come_to") rfl)
theorem Tx.gl_lost (T : Tx K mg) : mg "lost" = some (.ref (He.ga K "lost")) := He.glo_ok T.kin T.ns (T.c.fact 4 (f := .glo "lost") rfl)
theorem Tx.gl_is_name (T : Tx K mg) : mg "is_name" = some (.ref (He.ga K "is_name")) := He.glo_ok T.kin T.ns (T.c.fact 5 (f := .glo "is_name") rfl)
theorem Tx.gl_is_whole (T : Tx K mg) : mg "is_whole" = some (.ref (He.ga K "is_whole")) := He.glo_ok T.kin T.ns (T.c.fact 6 (f := .glo "is_whole") rfl)
theorem Tx.gl_is_count (T : Tx K mg) : mg "is_count" = some (.ref (He.ga K "is_count")) := He.glo_ok T.kin T.ns (T.c.fact 7 (f := .glo "is_count") rfl)
theorem Tx.gl_want_hands (T : Tx K mg) : mg "want_hands" = some (.ref (He.ga K "want_hands")) := He.glo_ok T.kin T.ns (T.c.fact 8 (f := .glo "want_hands") rfl)
theorem Tx.gl_want_name (T : Tx K mg) : mg "want_name" = some (.ref (He.ga K "want_name")) := He.glo_ok T.kin T.ns (T.c.fact 9 (f := .glo "want_name") rfl)
theorem Tx.gl_want_word (T : Tx K mg) : mg "want_word" = some (.ref (He.ga K "want_word")) := He.glo_ok T.kin T.ns (T.c.fact 10 (f := .glo "want_word") rfl)
theorem Tx.gl_joint (T : Tx K mg) : mg "joint" = some (.ref (He.ga K "joint")) := He.glo_ok T.kin T.ns (T.c.fact 11 (f := .glo "joint") rfl)
theorem Tx.gl_L_pot (T : Tx K mg) : mg "_law_pot" = some (.ref (He.ga K "_law_pot")) := He.glo_ok T.kin T.ns (T.c.fact 12 (f := .glo "_law_pot") rfl)
theorem Tx.gl_L_take (T : Tx K mg) : mg "_law_take" = some (.ref (He.ga K "_law_take")) := He.glo_ok T.kin T.ns (T.c.fact 13 (f := .glo "_law_take") rfl)
theorem Tx.gl_L_among (T : Tx K mg) : mg "_law_among" = some (.ref (He.ga K "_law_among")) := He.glo_ok T.kin T.ns (T.c.fact 14 (f := .glo "_law_among") rfl)
theorem Tx.gl_L_name (T : Tx K mg) : mg "_law_name" = some (.ref (He.ga K "_law_name")) := He.glo_ok T.kin T.ns (T.c.fact 15 (f := .glo "_law_name") rfl)
theorem Tx.gl_L_names (T : Tx K mg) : mg "_law_names" = some (.ref (He.ga K "_law_names")) := He.glo_ok T.kin T.ns (T.c.fact 16 (f := .glo "_law_names") rfl)
theorem Tx.gl_L_begun (T : Tx K mg) : mg "_law_begun" = some (.ref (He.ga K "_law_begun")) := He.glo_ok T.kin T.ns (T.c.fact 17 (f := .glo "_law_begun") rfl)
theorem Tx.gl_L_deed (T : Tx K mg) : mg "_law_deed" = some (.ref (He.ga K "_law_deed")) := He.glo_ok T.kin T.ns (T.c.fact 18 (f := .glo "_law_deed") rfl)
theorem Tx.gl_L_ring (T : Tx K mg) : mg "_law_ring" = some (.ref (He.ga K "_law_ring")) := He.glo_ok T.kin T.ns (T.c.fact 19 (f := .glo "_law_ring") rfl)
theorem Tx.gl_L_row_in (T : Tx K mg) : mg "_law_row_in" = some (.ref (He.ga K "_law_row_in")) := He.glo_ok T.kin T.ns (T.c.fact 20 (f := .glo "_law_row_in") rfl)
theorem Tx.gl_L_is_let (T : Tx K mg) : mg "_law_is_let" = some (.ref (He.ga K "_law_is_let")) := He.glo_ok T.kin T.ns (T.c.fact 21 (f := .glo "_law_is_let") rfl)
theorem Tx.gl_L_less (T : Tx K mg) : mg "_law_less" = some (.ref (He.ga K "_law_less")) := He.glo_ok T.kin T.ns (T.c.fact 22 (f := .glo "_law_less") rfl)
theorem Tx.gl_L_own_done (T : Tx K mg) : mg "_law_own_done" = some (.ref (He.ga K "_law_own_done")) := He.glo_ok T.kin T.ns (T.c.fact 23 (f := .glo "_law_own_done") rfl)
theorem Tx.gl_L_store_done (T : Tx K mg) : mg "_law_store_done" = some (.ref (He.ga K "_law_store_done")) := He.glo_ok T.kin T.ns (T.c.fact 24 (f := .glo "_law_store_done") rfl)
theorem Tx.gl_L_all_done (T : Tx K mg) : mg "_law_all_done" = some (.ref (He.ga K "_law_all_done")) := He.glo_ok T.kin T.ns (T.c.fact 25 (f := .glo "_law_all_done") rfl)
theorem Tx.gl_L_next (T : Tx K mg) : mg "_law_next" = some (.ref (He.ga K "_law_next")) := He.glo_ok T.kin T.ns (T.c.fact 26 (f := .glo "_law_next") rfl)
theorem Tx.gl_L_holds (T : Tx K mg) : mg "_law_holds" = some (.ref (He.ga K "_law_holds")) := He.glo_ok T.kin T.ns (T.c.fact 27 (f := .glo "_law_holds") rfl)
theorem Tx.gl_L_left (T : Tx K mg) : mg "_law_left" = some (.ref (He.ga K "_law_left")) := He.glo_ok T.kin T.ns (T.c.fact 28 (f := .glo "_law_left") rfl)
theorem Tx.gl_L_right (T : Tx K mg) : mg "_law_right" = some (.ref (He.ga K "_law_right")) := He.glo_ok T.kin T.ns (T.c.fact 29 (f := .glo "_law_right") rfl)
theorem Tx.gl_L_chain_right (T : Tx K mg) : mg "_law_chain_right" = some (.ref (He.ga K "_law_chain_right")) := He.glo_ok T.kin T.ns (T.c.fact 30 (f := .glo "_law_chain_right") rfl)
theorem Tx.gl_law (T : Tx K mg) : mg "law" = some (.ref (He.ga K "law")) := He.glo_ok T.kin T.ns (T.c.fact 31 (f := .glo "law") rfl)
theorem Tx.b_len (T : Tx K mg) : mg "len" = none := He.free_ok T.kin T.ns (T.c.fact 32 (f := .free "len") rfl)
theorem Tx.b_sorted (T : Tx K mg) : mg "sorted" = none := He.free_ok T.kin T.ns (T.c.fact 33 (f := .free "sorted") rfl)
theorem Tx.b_all (T : Tx K mg) : mg "all" = none := He.free_ok T.kin T.ns (T.c.fact 34 (f := .free "all") rfl)
theorem Tx.b_any (T : Tx K mg) : mg "any" = none := He.free_ok T.kin T.ns (T.c.fact 35 (f := .free "any") rfl)
theorem Tx.b_isinstance (T : Tx K mg) : mg "isinstance" = none := He.free_ok T.kin T.ns (T.c.fact 36 (f := .free "isinstance") rfl)
theorem Tx.b_str (T : Tx K mg) : mg "str" = none := He.free_ok T.kin T.ns (T.c.fact 37 (f := .free "str") rfl)
theorem Tx.b_int (T : Tx K mg) : mg "int" = none := He.free_ok T.kin T.ns (T.c.fact 38 (f := .free "int") rfl)
theorem Tx.b_bool (T : Tx K mg) : mg "bool" = none := He.free_ok T.kin T.ns (T.c.fact 39 (f := .free "bool") rfl)
theorem Tx.b_list (T : Tx K mg) : mg "list" = none := He.free_ok T.kin T.ns (T.c.fact 40 (f := .free "list") rfl)
theorem Tx.b_tuple (T : Tx K mg) : mg "tuple" = none := He.free_ok T.kin T.ns (T.c.fact 41 (f := .free "tuple") rfl)
theorem Tx.b_dict (T : Tx K mg) : mg "dict" = none := He.free_ok T.kin T.ns (T.c.fact 42 (f := .free "dict") rfl)
theorem Tx.b_set (T : Tx K mg) : mg "set" = none := He.free_ok T.kin T.ns (T.c.fact 43 (f := .free "set") rfl)
theorem Tx.b_range (T : Tx K mg) : mg "range" = none := He.free_ok T.kin T.ns (T.c.fact 44 (f := .free "range") rfl)
theorem Tx.b_max (T : Tx K mg) : mg "max" = none := He.free_ok T.kin T.ns (T.c.fact 45 (f := .free "max") rfl)
theorem Tx.b_min (T : Tx K mg) : mg "min" = none := He.free_ok T.kin T.ns (T.c.fact 46 (f := .free "min") rfl)
theorem Tx.b_abs (T : Tx K mg) : mg "abs" = none := He.free_ok T.kin T.ns (T.c.fact 47 (f := .free "abs") rfl)
theorem Tx.b_divmod (T : Tx K mg) : mg "divmod" = none := He.free_ok T.kin T.ns (T.c.fact 48 (f := .free "divmod") rfl)
theorem Tx.b_zip (T : Tx K mg) : mg "zip" = none := He.free_ok T.kin T.ns (T.c.fact 49 (f := .free "zip") rfl)
theorem Tx.b_enumerate (T : Tx K mg) : mg "enumerate" = none := He.free_ok T.kin T.ns (T.c.fact 50 (f := .free "enumerate") rfl)
theorem Tx.b_repr (T : Tx K mg) : mg "repr" = none := He.free_ok T.kin T.ns (T.c.fact 51 (f := .free "repr") rfl)
theorem Tx.i_LONGEST (T : Tx K mg) : ∃ t, mg "LONGEST" = some (.int 8 t) := He.int_ok T.kin T.ns (T.c.fact 52 (f := .int "LONGEST" 8) rfl)
theorem Tx.i_MOST_HANDS (T : Tx K mg) : ∃ t, mg "MOST_HANDS" = some (.int 6 t) := He.int_ok T.kin T.ns (T.c.fact 53 (f := .int "MOST_HANDS" 6) rfl)
theorem Tx.i_MOST_THINGS (T : Tx K mg) : ∃ t, mg "MOST_THINGS" = some (.int 40 t) := He.int_ok T.kin T.ns (T.c.fact 54 (f := .int "MOST_THINGS" 40) rfl)
theorem Tx.i_MOST_HAD (T : Tx K mg) : ∃ t, mg "MOST_HAD" = some (.int 30 t) := He.int_ok T.kin T.ns (T.c.fact 55 (f := .int "MOST_HAD" 30) rfl)
theorem Tx.i_MOST_SLOTS (T : Tx K mg) : ∃ t, mg "MOST_SLOTS" = some (.int 8 t) := He.int_ok T.kin T.ns (T.c.fact 56 (f := .int "MOST_SLOTS" 8) rfl)
theorem Tx.z_LETTERS (T : Tx K mg) : ∃ t, mg "LETTERS" = some (.str "abcdefghijklmnopqrstuvwxyz" t) := He.str_ok T.kin T.ns (T.c.fact 57 (f := .str "LETTERS" "abcdefghijklmnopqrstuvwxyz") rfl)
theorem Tx.z_PLAIN (T : Tx K mg) : ∃ t, mg "PLAIN" = some (.str "plain" t) := He.str_ok T.kin T.ns (T.c.fact 58 (f := .str "PLAIN" "plain") rfl)
theorem Tx.z_WEAK (T : Tx K mg) : ∃ t, mg "WEAK" = some (.str "weak" t) := He.str_ok T.kin T.ns (T.c.fact 59 (f := .str "WEAK" "weak") rfl)
theorem Tx.z_KEYED (T : Tx K mg) : ∃ t, mg "KEYED" = some (.str "keyed" t) := He.str_ok T.kin T.ns (T.c.fact 60 (f := .str "KEYED" "keyed") rfl)
theorem Tx.g_Store (T : Tx K mg) : mg "Store" = some (.ref (He.ga K "Store")) := He.glo_ok T.kin T.ns (T.c.fact 61 (f := .glo "Store") rfl)
theorem Tx.cl (T : Tx K mg) : Cls K (He.ga K "Store") := He.cls_ok (T.c.fact 62 (f := .cls "Store") rfl)
theorem Tx.mkS (T : Tx K mg) : Mk K (He.ga K "Store") (He.ma K (He.ga K "Store") "__init__") := He.mkr_ok (T.c.fact 63 (f := .mkr "Store") rfl)
theorem Tx.n_rows (T : Tx K mg) : NoAttr K (He.ga K "Store") "rows" := He.noat_ok (T.c.fact 64 (f := .noat "Store" "rows") rfl)
theorem Tx.n_filled (T : Tx K mg) : NoAttr K (He.ga K "Store") "filled" := He.noat_ok (T.c.fact 65 (f := .noat "Store" "filled") rfl)
theorem Tx.n_last (T : Tx K mg) : NoAttr K (He.ga K "Store") "last" := He.noat_ok (T.c.fact 66 (f := .noat "Store" "last") rfl)
theorem Tx.n_kept (T : Tx K mg) : NoAttr K (He.ga K "Store") "kept" := He.noat_ok (T.c.fact 67 (f := .noat "Store" "kept") rfl)
theorem Tx.n_many (T : Tx K mg) : NoAttr K (He.ga K "Store") "many" := He.noat_ok (T.c.fact 68 (f := .noat "Store" "many") rfl)
theorem Tx.me_init (T : Tx K mg) : Meth K (He.ga K "Store") "__init__" (He.ma K (He.ga K "Store") "__init__") := He.meth_ok (T.c.fact 69 (f := .meth "Store" "__init__") rfl)
theorem Tx.me_sort_word (T : Tx K mg) : Meth K (He.ga K "Store") "sort_word" (He.ma K (He.ga K "Store") "sort_word") := He.meth_ok (T.c.fact 70 (f := .meth "Store" "sort_word") rfl)
theorem Tx.me_marks_of (T : Tx K mg) : Meth K (He.ga K "Store") "marks_of" (He.ma K (He.ga K "Store") "marks_of") := He.meth_ok (T.c.fact 71 (f := .meth "Store" "marks_of") rfl)
theorem Tx.me_come_in (T : Tx K mg) : Meth K (He.ga K "Store") "come_in" (He.ma K (He.ga K "Store") "come_in") := He.meth_ok (T.c.fact 72 (f := .meth "Store" "come_in") rfl)
theorem Tx.me_done (T : Tx K mg) : Meth K (He.ga K "Store") "done" (He.ma K (He.ga K "Store") "done") := He.meth_ok (T.c.fact 73 (f := .meth "Store" "done") rfl)
theorem Tx.me_add_hold (T : Tx K mg) : Meth K (He.ga K "Store") "add_hold" (He.ma K (He.ga K "Store") "add_hold") := He.meth_ok (T.c.fact 74 (f := .meth "Store" "add_hold") rfl)
theorem Tx.me_end_hold (T : Tx K mg) : Meth K (He.ga K "Store") "end_hold" (He.ma K (He.ga K "Store") "end_hold") := He.meth_ok (T.c.fact 75 (f := .meth "Store" "end_hold") rfl)
theorem Tx.me_holds_by (T : Tx K mg) : Meth K (He.ga K "Store") "holds_by" (He.ma K (He.ga K "Store") "holds_by") := He.meth_ok (T.c.fact 76 (f := .meth "Store" "holds_by") rfl)
theorem Tx.me_things (T : Tx K mg) : Meth K (He.ga K "Store") "things" (He.ma K (He.ga K "Store") "things") := He.meth_ok (T.c.fact 77 (f := .meth "Store" "things") rfl)
theorem Tx.me_has_thing (T : Tx K mg) : Meth K (He.ga K "Store") "has_thing" (He.ma K (He.ga K "Store") "has_thing") := He.meth_ok (T.c.fact 78 (f := .meth "Store" "has_thing") rfl)
theorem Tx.me_want_thing (T : Tx K mg) : Meth K (He.ga K "Store") "want_thing" (He.ma K (He.ga K "Store") "want_thing") := He.meth_ok (T.c.fact 79 (f := .meth "Store" "want_thing") rfl)
theorem Tx.me_want_hand (T : Tx K mg) : Meth K (He.ga K "Store") "want_hand" (He.ma K (He.ga K "Store") "want_hand") := He.meth_ok (T.c.fact 80 (f := .meth "Store" "want_hand") rfl)
theorem Tx.me_want_had (T : Tx K mg) : Meth K (He.ga K "Store") "want_had" (He.ma K (He.ga K "Store") "want_had") := He.meth_ok (T.c.fact 81 (f := .meth "Store" "want_had") rfl)
theorem Tx.me_want_room (T : Tx K mg) : Meth K (He.ga K "Store") "want_room" (He.ma K (He.ga K "Store") "want_room") := He.meth_ok (T.c.fact 82 (f := .meth "Store" "want_room") rfl)
theorem Tx.me_want_owner (T : Tx K mg) : Meth K (He.ga K "Store") "want_owner" (He.ma K (He.ga K "Store") "want_owner") := He.meth_ok (T.c.fact 83 (f := .meth "Store" "want_owner") rfl)
theorem Tx.me_have (T : Tx K mg) : Meth K (He.ga K "Store") "have" (He.ma K (He.ga K "Store") "have") := He.meth_ok (T.c.fact 84 (f := .meth "Store" "have") rfl)
theorem Tx.me_lose (T : Tx K mg) : Meth K (He.ga K "Store") "lose" (He.ma K (He.ga K "Store") "lose") := He.meth_ok (T.c.fact 85 (f := .meth "Store" "lose") rfl)
theorem Tx.me_clear_slot (T : Tx K mg) : Meth K (He.ga K "Store") "clear_slot" (He.ma K (He.ga K "Store") "clear_slot") := He.meth_ok (T.c.fact 86 (f := .meth "Store" "clear_slot") rfl)
theorem Tx.me_fill (T : Tx K mg) : Meth K (He.ga K "Store") "fill" (He.ma K (He.ga K "Store") "fill") := He.meth_ok (T.c.fact 87 (f := .meth "Store" "fill") rfl)
theorem Tx.me_make (T : Tx K mg) : Meth K (He.ga K "Store") "make" (He.ma K (He.ga K "Store") "make") := He.meth_ok (T.c.fact 88 (f := .meth "Store" "make") rfl)
theorem Tx.me_put (T : Tx K mg) : Meth K (He.ga K "Store") "put" (He.ma K (He.ga K "Store") "put") := He.meth_ok (T.c.fact 89 (f := .meth "Store" "put") rfl)
theorem Tx.me_show (T : Tx K mg) : Meth K (He.ga K "Store") "show" (He.ma K (He.ga K "Store") "show") := He.meth_ok (T.c.fact 90 (f := .meth "Store" "show") rfl)
theorem Tx.me_tie (T : Tx K mg) : Meth K (He.ga K "Store") "tie" (He.ma K (He.ga K "Store") "tie") := He.meth_ok (T.c.fact 91 (f := .meth "Store" "tie") rfl)
theorem Tx.me_empty (T : Tx K mg) : Meth K (He.ga K "Store") "empty" (He.ma K (He.ga K "Store") "empty") := He.meth_ok (T.c.fact 92 (f := .meth "Store" "empty") rfl)
theorem Tx.me_take (T : Tx K mg) : Meth K (He.ga K "Store") "take" (He.ma K (He.ga K "Store") "take") := He.meth_ok (T.c.fact 93 (f := .meth "Store" "take") rfl)
theorem Tx.me_give (T : Tx K mg) : Meth K (He.ga K "Store") "give" (He.ma K (He.ga K "Store") "give") := He.meth_ok (T.c.fact 94 (f := .meth "Store" "give") rfl)
theorem Tx.me_drop (T : Tx K mg) : Meth K (He.ga K "Store") "drop" (He.ma K (He.ga K "Store") "drop") := He.meth_ok (T.c.fact 95 (f := .meth "Store" "drop") rfl)
theorem Tx.me_shape_of (T : Tx K mg) : Meth K (He.ga K "Store") "shape_of" (He.ma K (He.ga K "Store") "shape_of") := He.meth_ok (T.c.fact 96 (f := .meth "Store" "shape_of") rfl)
theorem Tx.me_shape (T : Tx K mg) : Meth K (He.ga K "Store") "shape" (He.ma K (He.ga K "Store") "shape") := He.meth_ok (T.c.fact 97 (f := .meth "Store" "shape") rfl)
theorem Tx.f_holds_of (T : Tx K mg) : ∃ fd, FunD K "holds_of" "holds_of" (defArgs s_holds_of) (defBody s_holds_of) (defScope s_holds_of) [] [] (He.ga K "holds_of") fd := T.c.def_ 0 (d := d_holds_of) rfl
theorem Tx.f_hold_within (T : Tx K mg) : ∃ fd, FunD K "hold_within" "hold_within" (defArgs s_hold_within) (defBody s_hold_within) (defScope s_hold_within) [] [] (He.ga K "hold_within") fd := T.c.def_ 1 (d := d_hold_within) rfl
theorem Tx.f_ways_known (T : Tx K mg) : ∃ fd, FunD K "ways_known" "ways_known" (defArgs s_ways_known) (defBody s_ways_known) (defScope s_ways_known) [] [] (He.ga K "ways_known") fd := T.c.def_ 2 (d := d_ways_known) rfl
theorem Tx.f_come_to (T : Tx K mg) : ∃ fd, FunD K "come_to" "come_to" (defArgs s_come_to) (defBody s_come_to) (defScope s_come_to) [] [] (He.ga K "come_to") fd := T.c.def_ 3 (d := d_come_to) rfl
theorem Tx.f_lost (T : Tx K mg) : ∃ fd, FunD K "lost" "lost" (defArgs s_lost) (defBody s_lost) (defScope s_lost) [] [] (He.ga K "lost") fd := T.c.def_ 4 (d := d_lost) rfl
theorem Tx.f_is_name (T : Tx K mg) : ∃ fd, FunD K "is_name" "is_name" (defArgs s_is_name) (defBody s_is_name) (defScope s_is_name) [] [] (He.ga K "is_name") fd := T.c.def_ 5 (d := d_is_name) rfl
theorem Tx.f_is_whole (T : Tx K mg) : ∃ fd, FunD K "is_whole" "is_whole" (defArgs s_is_whole) (defBody s_is_whole) (defScope s_is_whole) [] [] (He.ga K "is_whole") fd := T.c.def_ 6 (d := d_is_whole) rfl
theorem Tx.f_is_count (T : Tx K mg) : ∃ fd, FunD K "is_count" "is_count" (defArgs s_is_count) (defBody s_is_count) (defScope s_is_count) [] [] (He.ga K "is_count") fd := T.c.def_ 7 (d := d_is_count) rfl
theorem Tx.f_want_hands (T : Tx K mg) : ∃ fd, FunD K "want_hands" "want_hands" (defArgs s_want_hands) (defBody s_want_hands) (defScope s_want_hands) [] [] (He.ga K "want_hands") fd := T.c.def_ 8 (d := d_want_hands) rfl
theorem Tx.f_want_name (T : Tx K mg) : ∃ fd, FunD K "want_name" "want_name" (defArgs s_want_name) (defBody s_want_name) (defScope s_want_name) [] [] (He.ga K "want_name") fd := T.c.def_ 9 (d := d_want_name) rfl
theorem Tx.f_want_word (T : Tx K mg) : ∃ fd, FunD K "want_word" "want_word" (defArgs s_want_word) (defBody s_want_word) (defScope s_want_word) [] [] (He.ga K "want_word") fd := T.c.def_ 10 (d := d_want_word) rfl
theorem Tx.f_joint (T : Tx K mg) : ∃ fd, FunD K "joint" "joint" (defArgs s_joint) (defBody s_joint) (defScope s_joint) [] [] (He.ga K "joint") fd := T.c.def_ 11 (d := d_joint) rfl
theorem Tx.f_L_pot (T : Tx K mg) : ∃ fd, FunD K "_law_pot" "_law_pot" (defArgs s_L_pot) (defBody s_L_pot) (defScope s_L_pot) [] [] (He.ga K "_law_pot") fd := T.c.def_ 12 (d := d_L_pot) rfl
theorem Tx.f_L_take (T : Tx K mg) : ∃ fd, FunD K "_law_take" "_law_take" (defArgs s_L_take) (defBody s_L_take) (defScope s_L_take) [] [] (He.ga K "_law_take") fd := T.c.def_ 13 (d := d_L_take) rfl
theorem Tx.f_L_among (T : Tx K mg) : ∃ fd, FunD K "_law_among" "_law_among" (defArgs s_L_among) (defBody s_L_among) (defScope s_L_among) [] [] (He.ga K "_law_among") fd := T.c.def_ 14 (d := d_L_among) rfl
theorem Tx.f_L_name (T : Tx K mg) : ∃ fd, FunD K "_law_name" "_law_name" (defArgs s_L_name) (defBody s_L_name) (defScope s_L_name) [] [] (He.ga K "_law_name") fd := T.c.def_ 15 (d := d_L_name) rfl
theorem Tx.f_L_names (T : Tx K mg) : ∃ fd, FunD K "_law_names" "_law_names" (defArgs s_L_names) (defBody s_L_names) (defScope s_L_names) [] [] (He.ga K "_law_names") fd := T.c.def_ 16 (d := d_L_names) rfl
theorem Tx.f_L_begun (T : Tx K mg) : ∃ fd, FunD K "_law_begun" "_law_begun" (defArgs s_L_begun) (defBody s_L_begun) (defScope s_L_begun) [] [] (He.ga K "_law_begun") fd := T.c.def_ 17 (d := d_L_begun) rfl
theorem Tx.f_L_deed (T : Tx K mg) : ∃ fd, FunD K "_law_deed" "_law_deed" (defArgs s_L_deed) (defBody s_L_deed) (defScope s_L_deed) [] [] (He.ga K "_law_deed") fd := T.c.def_ 18 (d := d_L_deed) rfl
theorem Tx.f_L_ring (T : Tx K mg) : ∃ fd, FunD K "_law_ring" "_law_ring" (defArgs s_L_ring) (defBody s_L_ring) (defScope s_L_ring) [] [] (He.ga K "_law_ring") fd := T.c.def_ 19 (d := d_L_ring) rfl
theorem Tx.f_L_row_in (T : Tx K mg) : ∃ fd, FunD K "_law_row_in" "_law_row_in" (defArgs s_L_row_in) (defBody s_L_row_in) (defScope s_L_row_in) [] [] (He.ga K "_law_row_in") fd := T.c.def_ 20 (d := d_L_row_in) rfl
theorem Tx.f_L_is_let (T : Tx K mg) : ∃ fd, FunD K "_law_is_let" "_law_is_let" (defArgs s_L_is_let) (defBody s_L_is_let) (defScope s_L_is_let) [] [] (He.ga K "_law_is_let") fd := T.c.def_ 21 (d := d_L_is_let) rfl
theorem Tx.f_L_less (T : Tx K mg) : ∃ fd, FunD K "_law_less" "_law_less" (defArgs s_L_less) (defBody s_L_less) (defScope s_L_less) [] [] (He.ga K "_law_less") fd := T.c.def_ 22 (d := d_L_less) rfl
theorem Tx.f_L_own_done (T : Tx K mg) : ∃ fd, FunD K "_law_own_done" "_law_own_done" (defArgs s_L_own_done) (defBody s_L_own_done) (defScope s_L_own_done) [] [] (He.ga K "_law_own_done") fd := T.c.def_ 23 (d := d_L_own_done) rfl
theorem Tx.f_L_store_done (T : Tx K mg) : ∃ fd, FunD K "_law_store_done" "_law_store_done" (defArgs s_L_store_done) (defBody s_L_store_done) (defScope s_L_store_done) [] [] (He.ga K "_law_store_done") fd := T.c.def_ 24 (d := d_L_store_done) rfl
theorem Tx.f_L_all_done (T : Tx K mg) : ∃ fd, FunD K "_law_all_done" "_law_all_done" (defArgs s_L_all_done) (defBody s_L_all_done) (defScope s_L_all_done) [] [] (He.ga K "_law_all_done") fd := T.c.def_ 25 (d := d_L_all_done) rfl
theorem Tx.f_L_next (T : Tx K mg) : ∃ fd, FunD K "_law_next" "_law_next" (defArgs s_L_next) (defBody s_L_next) (defScope s_L_next) [] [] (He.ga K "_law_next") fd := T.c.def_ 26 (d := d_L_next) rfl
theorem Tx.f_L_holds (T : Tx K mg) : ∃ fd, FunD K "_law_holds" "_law_holds" (defArgs s_L_holds) (defBody s_L_holds) (defScope s_L_holds) [] [] (He.ga K "_law_holds") fd := T.c.def_ 27 (d := d_L_holds) rfl
theorem Tx.f_L_left (T : Tx K mg) : ∃ fd, FunD K "_law_left" "_law_left" (defArgs s_L_left) (defBody s_L_left) (defScope s_L_left) [] [] (He.ga K "_law_left") fd := T.c.def_ 28 (d := d_L_left) rfl
theorem Tx.f_L_right (T : Tx K mg) : ∃ fd, FunD K "_law_right" "_law_right" (defArgs s_L_right) (defBody s_L_right) (defScope s_L_right) [] [] (He.ga K "_law_right") fd := T.c.def_ 29 (d := d_L_right) rfl
theorem Tx.f_L_chain_right (T : Tx K mg) : ∃ fd, FunD K "_law_chain_right" "_law_chain_right" (defArgs s_L_chain_right) (defBody s_L_chain_right) (defScope s_L_chain_right) [] [] (He.ga K "_law_chain_right") fd := T.c.def_ 30 (d := d_L_chain_right) rfl
theorem Tx.f_law (T : Tx K mg) : ∃ fd, FunD K "law" "law" (defArgs s_law) (defBody s_law) (defScope s_law) [] [] (He.ga K "law") fd := T.c.def_ 31 (d := d_law) rfl
theorem Tx.fm_init (T : Tx K mg) : ∃ fd, FunD K "__init__" "Store.__init__" (defArgs m_init) (defBody m_init) (defScope m_init) [] [] (He.ma K (He.ga K "Store") "__init__") fd := T.c.def_ 32 (d := e_init) rfl
theorem Tx.fm_sort_word (T : Tx K mg) : ∃ fd, FunD K "sort_word" "Store.sort_word" (defArgs m_sort_word) (defBody m_sort_word) (defScope m_sort_word) [] [] (He.ma K (He.ga K "Store") "sort_word") fd := T.c.def_ 33 (d := e_sort_word) rfl
theorem Tx.fm_marks_of (T : Tx K mg) : ∃ fd, FunD K "marks_of" "Store.marks_of" (defArgs m_marks_of) (defBody m_marks_of) (defScope m_marks_of) [] [] (He.ma K (He.ga K "Store") "marks_of") fd := T.c.def_ 34 (d := e_marks_of) rfl
theorem Tx.fm_come_in (T : Tx K mg) : ∃ fd, FunD K "come_in" "Store.come_in" (defArgs m_come_in) (defBody m_come_in) (defScope m_come_in) [] [] (He.ma K (He.ga K "Store") "come_in") fd := T.c.def_ 35 (d := e_come_in) rfl
theorem Tx.fm_done (T : Tx K mg) : ∃ fd, FunD K "done" "Store.done" (defArgs m_done) (defBody m_done) (defScope m_done) [] [] (He.ma K (He.ga K "Store") "done") fd := T.c.def_ 36 (d := e_done) rfl
theorem Tx.fm_add_hold (T : Tx K mg) : ∃ fd, FunD K "add_hold" "Store.add_hold" (defArgs m_add_hold) (defBody m_add_hold) (defScope m_add_hold) [] [] (He.ma K (He.ga K "Store") "add_hold") fd := T.c.def_ 37 (d := e_add_hold) rfl
theorem Tx.fm_end_hold (T : Tx K mg) : ∃ fd, FunD K "end_hold" "Store.end_hold" (defArgs m_end_hold) (defBody m_end_hold) (defScope m_end_hold) [] [] (He.ma K (He.ga K "Store") "end_hold") fd := T.c.def_ 38 (d := e_end_hold) rfl
theorem Tx.fm_holds_by (T : Tx K mg) : ∃ fd, FunD K "holds_by" "Store.holds_by" (defArgs m_holds_by) (defBody m_holds_by) (defScope m_holds_by) [] [] (He.ma K (He.ga K "Store") "holds_by") fd := T.c.def_ 39 (d := e_holds_by) rfl
theorem Tx.fm_things (T : Tx K mg) : ∃ fd, FunD K "things" "Store.things" (defArgs m_things) (defBody m_things) (defScope m_things) [] [] (He.ma K (He.ga K "Store") "things") fd := T.c.def_ 40 (d := e_things) rfl
theorem Tx.fm_has_thing (T : Tx K mg) : ∃ fd, FunD K "has_thing" "Store.has_thing" (defArgs m_has_thing) (defBody m_has_thing) (defScope m_has_thing) [] [] (He.ma K (He.ga K "Store") "has_thing") fd := T.c.def_ 41 (d := e_has_thing) rfl
theorem Tx.fm_want_thing (T : Tx K mg) : ∃ fd, FunD K "want_thing" "Store.want_thing" (defArgs m_want_thing) (defBody m_want_thing) (defScope m_want_thing) [] [] (He.ma K (He.ga K "Store") "want_thing") fd := T.c.def_ 42 (d := e_want_thing) rfl
theorem Tx.fm_want_hand (T : Tx K mg) : ∃ fd, FunD K "want_hand" "Store.want_hand" (defArgs m_want_hand) (defBody m_want_hand) (defScope m_want_hand) [] [] (He.ma K (He.ga K "Store") "want_hand") fd := T.c.def_ 43 (d := e_want_hand) rfl
theorem Tx.fm_want_had (T : Tx K mg) : ∃ fd, FunD K "want_had" "Store.want_had" (defArgs m_want_had) (defBody m_want_had) (defScope m_want_had) [] [] (He.ma K (He.ga K "Store") "want_had") fd := T.c.def_ 44 (d := e_want_had) rfl
theorem Tx.fm_want_room (T : Tx K mg) : ∃ fd, FunD K "want_room" "Store.want_room" (defArgs m_want_room) (defBody m_want_room) (defScope m_want_room) [] [] (He.ma K (He.ga K "Store") "want_room") fd := T.c.def_ 45 (d := e_want_room) rfl
theorem Tx.fm_want_owner (T : Tx K mg) : ∃ fd, FunD K "want_owner" "Store.want_owner" (defArgs m_want_owner) (defBody m_want_owner) (defScope m_want_owner) [] [] (He.ma K (He.ga K "Store") "want_owner") fd := T.c.def_ 46 (d := e_want_owner) rfl
theorem Tx.fm_have (T : Tx K mg) : ∃ fd, FunD K "have" "Store.have" (defArgs m_have) (defBody m_have) (defScope m_have) [] [] (He.ma K (He.ga K "Store") "have") fd := T.c.def_ 47 (d := e_have) rfl
theorem Tx.fm_lose (T : Tx K mg) : ∃ fd, FunD K "lose" "Store.lose" (defArgs m_lose) (defBody m_lose) (defScope m_lose) [] [] (He.ma K (He.ga K "Store") "lose") fd := T.c.def_ 48 (d := e_lose) rfl
theorem Tx.fm_clear_slot (T : Tx K mg) : ∃ fd, FunD K "clear_slot" "Store.clear_slot" (defArgs m_clear_slot) (defBody m_clear_slot) (defScope m_clear_slot) [] [] (He.ma K (He.ga K "Store") "clear_slot") fd := T.c.def_ 49 (d := e_clear_slot) rfl
theorem Tx.fm_fill (T : Tx K mg) : ∃ fd, FunD K "fill" "Store.fill" (defArgs m_fill) (defBody m_fill) (defScope m_fill) [] [] (He.ma K (He.ga K "Store") "fill") fd := T.c.def_ 50 (d := e_fill) rfl
theorem Tx.fm_make (T : Tx K mg) : ∃ fd, FunD K "make" "Store.make" (defArgs m_make) (defBody m_make) (defScope m_make) [] [("word", V.str "")] (He.ma K (He.ga K "Store") "make") fd := T.c.def_ 51 (d := e_make) rfl
theorem Tx.fm_put (T : Tx K mg) : ∃ fd, FunD K "put" "Store.put" (defArgs m_put) (defBody m_put) (defScope m_put) [] [] (He.ma K (He.ga K "Store") "put") fd := T.c.def_ 52 (d := e_put) rfl
theorem Tx.fm_show (T : Tx K mg) : ∃ fd, FunD K "show" "Store.show" (defArgs m_show) (defBody m_show) (defScope m_show) [] [] (He.ma K (He.ga K "Store") "show") fd := T.c.def_ 53 (d := e_show) rfl
theorem Tx.fm_tie (T : Tx K mg) : ∃ fd, FunD K "tie" "Store.tie" (defArgs m_tie) (defBody m_tie) (defScope m_tie) [] [] (He.ma K (He.ga K "Store") "tie") fd := T.c.def_ 54 (d := e_tie) rfl
theorem Tx.fm_empty (T : Tx K mg) : ∃ fd, FunD K "empty" "Store.empty" (defArgs m_empty) (defBody m_empty) (defScope m_empty) [] [] (He.ma K (He.ga K "Store") "empty") fd := T.c.def_ 55 (d := e_empty) rfl
theorem Tx.fm_take (T : Tx K mg) : ∃ fd, FunD K "take" "Store.take" (defArgs m_take) (defBody m_take) (defScope m_take) [] [] (He.ma K (He.ga K "Store") "take") fd := T.c.def_ 56 (d := e_take) rfl
theorem Tx.fm_give (T : Tx K mg) : ∃ fd, FunD K "give" "Store.give" (defArgs m_give) (defBody m_give) (defScope m_give) [] [] (He.ma K (He.ga K "Store") "give") fd := T.c.def_ 57 (d := e_give) rfl
theorem Tx.fm_drop (T : Tx K mg) : ∃ fd, FunD K "drop" "Store.drop" (defArgs m_drop) (defBody m_drop) (defScope m_drop) [] [] (He.ma K (He.ga K "Store") "drop") fd := T.c.def_ 58 (d := e_drop) rfl
theorem Tx.fm_shape_of (T : Tx K mg) : ∃ fd, FunD K "shape_of" "Store.shape_of" (defArgs m_shape_of) (defBody m_shape_of) (defScope m_shape_of) [] [] (He.ma K (He.ga K "Store") "shape_of") fd := T.c.def_ 59 (d := e_shape_of) rfl
theorem Tx.fm_shape (T : Tx K mg) : ∃ fd, FunD K "shape" "Store.shape" (defArgs m_shape) (defBody m_shape) (defScope m_shape) [] [] (He.ma K (He.ga K "Store") "shape") fd := T.c.def_ 60 (d := e_shape) rfl
end
end Df
set_option maxHeartbeats 0
/-! The head: the top run once. -/
namespace Df
open PySem PySem.Spec PyProof.Rows L2
abbrev R : PySem.W.OpenRow := PySem.W.OpenLaw.row PySem.Challenge.rw_deepfall_k23_whole_come_to_and_lost
abbrev hk : PySem.W.Hook := He.hookD 5 fa fn
def ob (s : PySem.W.SharedT) : He.AlD := He.obsDG 5 fa fn (HandSHeadRun.getT s)
theorem ob_eq (s : PySem.W.SharedT) : ob s = hk.obs s.abs := He.obsDG_eq (HandSHeadRun.getT_eq s)
def names0 : List Str := ["_wall", "StoreError", "NoStore", "NoName", "NoHand", "NotHad", "NoThing", "NoSlot", "Full", "holds_of", "hold_within", "ways_known", "come_to", "lost", "LETTERS", "LONGEST", "is_name", "is_whole", "is_count", "MOST_HANDS", "MOST_THINGS", "MOST_HAD", "MOST_SLOTS", "PLAIN", "WEAK", "KEYED", "want_hands", "want_name", "want_word", "joint"]
def names1 : List Str := ["Store", "_law_pot", "_law_take", "_law_among", "_law_name", "_law_names", "_law_begun", "_law_deed", "_law_ring", "_law_row_in", "_law_is_let", "_law_less", "_law_own_done", "_law_store_done", "_law_all_done", "_law_next", "_law_holds", "_law_left", "_law_right", "_law_chain_right"]
def names : List Str := names0 ++ names1
theorem run (w : World) : HandSHeadRun.RunEq R (PySem.W.view R.prog [56]) hk ob 60000 names w := by
  intro os
  kernel_rfl
end Df
/-! What a def of the text keeps, by its name: Cl a module's def, Mt a method of Store; how such are made and called. -/
namespace Df
open PySem PySem.Spec PyProof.Rows L2
abbrev stC (K : PySem.W.Frag) : Addr := He.ga K "Store"
structure Cl (P : Program) (w : World) (K : PySem.W.Frag) (mg : Str → Option Value) (base : Heap) (x : Str) (k : Nat) (ps : List Str) (sp : Sp) : Prop where
  ex : ∃ (f : Addr) (fd : FuncData), FnOk P w K mg base CX0 k f fd ps sp ∧ mg x = some (.ref f) ∧ PySem.W.keepIn K (.ref f) = true ∧ Binds K fd ps []
structure Mt (P : Program) (w : World) (K : PySem.W.Frag) (mg : Str → Option Value) (base : Heap) (m : Str) (k : Nat) (ps : List Str) (sp : Sp) : Prop where
  cl : Cls K (stC K)
  ex : ∃ (f : Addr) (fd : FuncData), FnOk P w K mg base CX0 k f fd ps sp ∧ Meth K (stC K) m f ∧ Binds K fd ps []
section
variable {P : Program} {w : World} {K : PySem.W.Frag} {mg : Str → Option Value} {base : Heap}
abbrev BodyOk (P : Program) (w : World) (K : PySem.W.Frag) (mg : Str → Option Value) (base : Heap) (qual : Str) (st : Stmt) (N : List Str) (k : Nat) (sp : Sp) (f : Addr) : Prop :=
  ∀ (cdv : Value) (A : Around) (outer : List Env) (s : Shared) (H : Hp) (vs : List V) (Q : VK) (E : XK), Room k (A.deeper (envOfC qual (defScope st) s.heap.objs.size f cdv)) → sp vs H Q E →
    ∃ t, PSs (cxOf CX0 P w K mg base N qual (defScope st) f cdv A outer s H E).nox (defBody st) t ∧ t { nx := fun _ H' => Q .non H', rt := Q } (start N vs) H
theorem Cl.of {x : Str} {st : Stmt} {N ps : List Str} {k : Nat} {sp : Sp} {f : Addr} (hf : ∃ fd, FunD K x x (defArgs st) (defBody st) (defScope st) [] [] f fd) (hg : mg x = some (.ref f))
    (S : FnScope N ps (defScope st)) (hb : ∀ (kV doc pm : Value) (an : Option Addr) (cdv ct : Value) (us : List Value), us.length = ps.length → bindArgs (PySem.W.fnOf x x (defArgs st) (defBody st) (defScope st) .none kV doc pm an cdv ct) ⟨us, []⟩ = pure (ps.zip us))
    (len : ∀ vs H Q E, sp vs H Q E → vs.length = ps.length) (h : BodyOk P w K mg base x st N k sp f) : Cl P w K mg base x (k + 1) ps sp := by
  obtain ⟨fd, F⟩ := hf
  refine ⟨f, fd, F.ok S len fun cdv A outer s H vs Q E hr hs => ?_, hg, F.kp, F.bindsN hb⟩
  obtain ⟨t, h1, h2⟩ := h cdv A outer s H vs Q E hr hs
  exact ⟨t, h1.nox, h2⟩
theorem Mt.of {m qual : Str} {st : Stmt} {N ps : List Str} {k : Nat} {sp : Sp} {f : Addr} (hf : ∃ fd, FunD K m qual (defArgs st) (defBody st) (defScope st) [] [] f fd) (hc : Cls K (stC K)) (hm : Meth K (stC K) m f)
    (S : FnScope N ps (defScope st)) (hb : ∀ (kV doc pm : Value) (an : Option Addr) (cdv ct : Value) (us : List Value), us.length = ps.length → bindArgs (PySem.W.fnOf m qual (defArgs st) (defBody st) (defScope st) .none kV doc pm an cdv ct) ⟨us, []⟩ = pure (ps.zip us))
    (len : ∀ vs H Q E, sp vs H Q E → vs.length = ps.length) (h : BodyOk P w K mg base qual st N k sp f) : Mt P w K mg base m (k + 1) ps sp := by
  obtain ⟨fd, F⟩ := hf
  refine ⟨hc, f, fd, F.ok S len fun cdv A outer s H vs Q E hr hs => ?_, hm, F.bindsN hb⟩
  obtain ⟨t, h1, h2⟩ := h cdv A outer s H vs Q E hr hs
  exact ⟨t, h1.nox, h2⟩
end
section
variable {X : Cx} {k j : Nat} {ps : List Str} {sp : Sp} {x m : Str} {p pos apos : Pos} {e o : Expr} {es : List Expr} {ta : TE} {t : TA}
/-- f(e, ..) -/
theorem pe_cl (h : Cl X.prog X.w X.K X.mg X.base x k ps sp) (hr : Room j X.A) (ha : PA X (e :: es) t) (hkj : k ≤ j := by decide) (hg : Gl X x := by rfl) (hdb : (x == ("__debug__" : Str)) = false := by decide)
    (he : starEach (e :: es) X.env = (false, eval e X.env) :: starEach es X.env := by rfl) (hpl : (backTo pos (starEach es X.env)).any (·.1) = false := by rfl) : PE X (.Call (.Name x p) (e :: es) [] pos) (tCall sp [] E0 t) := by
  obtain ⟨f, fd, F, mgf, kp, b⟩ := h.ex
  exact pe_call F (hr.mono hkj) hg mgf kp b .nil pass0 ha hdb he hpl
/-- o.m(e, ..) -/
theorem pe_mt {pl : Sem Bool} (h : Mt X.prog X.w X.K X.mg X.base m k ps sp) (hr : Room j X.A) (ho : PE X o ta) (ha : PA X (e :: es) t) (hkj : k ≤ j := by decide)
    (hst : starEach (e :: es) X.env = (false, eval e X.env) :: starEach es X.env := by rfl) (hpl : (backTo pos (starEach es X.env)).any (·.1) = false := by rfl)
    (ht : eval (.Call (.Attribute o m apos) (e :: es) [] pos) X.env = (do
      let ov ← eval o X.env
      standAt apos.atName
      let (f, first) ← holding [ov] (getMethod ov m pl)
      callWith pos f first (backTo pos (starEach (e :: es) X.env)) (backToKw pos (keywordEach [] X.env))) := by rfl) :
    PE X (.Call (.Attribute o m apos) (e :: es) [] pos) (tMeth (stC X.K) m sp [] E0 ta t) := by
  obtain ⟨f, fd, F, M, b⟩ := h.ex
  exact pe_meth ho h.cl M F (hr.mono hkj) b .nil pass0 ha hst hpl ht
/-- o.m() -/
theorem pe_mt0 {pl : Sem Bool} (h : Mt X.prog X.w X.K X.mg X.base m k ps sp) (hr : Room j X.A) (ho : PE X o ta) (hkj : k ≤ j := by decide)
    (ht : eval (.Call (.Attribute o m apos) [] [] pos) X.env = (do
      let ov ← eval o X.env
      standAt apos.atName
      let (f, first) ← holding [ov] (getMethod ov m pl)
      callWith pos f first (backTo pos (starEach [] X.env)) (backToKw pos (keywordEach [] X.env))) := by rfl) :
    PE X (.Call (.Attribute o m apos) [] [] pos) (tMeth (stC X.K) m sp [] E0 ta tNil) := by
  obtain ⟨f, fd, F, M, b⟩ := h.ex
  exact pe_meth0 ho h.cl M F (hr.mono hkj) b .nil pass0 ht
end
/-! ### with defaults, by keywords -/
structure MtD (P : Program) (w : World) (K : PySem.W.Frag) (mg : Str → Option Value) (base : Heap) (m : Str) (k : Nat) (ps : List Str) (dvs : List V) (sp : Sp) : Prop where
  cl : Cls K (stC K)
  ex : ∃ (f : Addr) (fd : FuncData) (ds : List Value), FnOk P w K mg base CX0 k f fd ps sp ∧ Meth K (stC K) m f ∧ Vals dvs ds ∧ Binds K fd ps ds
/-- a call with keywords: n the written values (self among them), ks the keywords' names, gV how they come to the parameters -/
structure MtK (P : Program) (w : World) (K : PySem.W.Frag) (mg : Str → Option Value) (base : Heap) (m : Str) (k : Nat) (ps : List Str) (n : Nat) (ks : List Str) (gV : List V → List V → List V) (sp : Sp) : Prop where
  cl : Cls K (stC K)
  ex : ∃ (f : Addr) (fd : FuncData) (g : List Value → List Value → List Value), FnOk P w K mg base CX0 k f fd ps sp ∧ Meth K (stC K) m f ∧ KBn K fd ps n ks g gV
structure ClK (P : Program) (w : World) (K : PySem.W.Frag) (mg : Str → Option Value) (base : Heap) (x : Str) (k : Nat) (ps : List Str) (ks : List Str) (gV : List V → List V → List V) (sp : Sp) : Prop where
  ex : ∃ (f : Addr) (fd : FuncData) (g : List Value → List Value → List Value), FnOk P w K mg base CX0 k f fd ps sp ∧ mg x = some (.ref f) ∧ PySem.W.keepIn K (.ref f) = true ∧ KBn K fd ps 0 ks g gV
def tMethK (C : Addr) (m : Str) (n nk : Nat) (sp : Sp) (gV : List V → List V → List V) (ta : TE) (t tk : TA) : TE := fun σ H Q => ta σ H fun x H1 => ∃ a dx fs, x = .ref a ∧ H1 a = some (.ins C dx fs) ∧ fs.lookup m = none ∧
  t σ H1 fun vs H2 => tk σ H2 fun zs H3 => (x :: vs).length = n ∧ zs.length = nk ∧ sp (gV (x :: vs) zs) H3 Q E0
def tClK (nk : Nat) (sp : Sp) (gV : List V → List V → List V) (tk : TA) : TE := fun σ H Q => tk σ H fun zs H3 => zs.length = nk ∧ sp (gV [] zs) H3 Q E0
section
variable {X : Cx} {k j n : Nat} {ps ks : List Str} {sp : Sp} {dvs : List V} {x m : Str} {p pos apos : Pos} {e o : Expr} {es : List Expr} {kws : List Keyword} {ta : TE} {t tk : TA} {gV : List V → List V → List V}
theorem pe_mtD {pl : Sem Bool} (h : MtD X.prog X.w X.K X.mg X.base m k ps dvs sp) (hr : Room j X.A) (ho : PE X o ta) (ha : PA X (e :: es) t) (hkj : k ≤ j := by decide)
    (hst : starEach (e :: es) X.env = (false, eval e X.env) :: starEach es X.env := by rfl) (hpl : (backTo pos (starEach es X.env)).any (·.1) = false := by rfl)
    (ht : eval (.Call (.Attribute o m apos) (e :: es) [] pos) X.env = (do
      let ov ← eval o X.env
      standAt apos.atName
      let (f, first) ← holding [ov] (getMethod ov m pl)
      callWith pos f first (backTo pos (starEach (e :: es) X.env)) (backToKw pos (keywordEach [] X.env))) := by rfl) :
    PE X (.Call (.Attribute o m apos) (e :: es) [] pos) (tMeth (stC X.K) m sp dvs E0 ta t) := by
  obtain ⟨f, fd, ds, F, M, r, b⟩ := h.ex
  exact pe_meth ho h.cl M F (hr.mono hkj) b r pass0 ha hst hpl ht
theorem pe_mtK {pl : Sem Bool} (h : MtK X.prog X.w X.K X.mg X.base m k ps n ks gV sp) (hr : Room j X.A) (ho : PE X o ta) (ha : PA X (e :: es) t) (hkw : PK X kws tk) (hkj : k ≤ j := by decide)
    (hall : (backToKw pos (keywordEach kws X.env)).all (·.1.isSome) = true := by rfl) (hks : (backToKw pos (keywordEach kws X.env)).filterMap (·.1) = ks := by rfl)
    (hst : starEach (e :: es) X.env = (false, eval e X.env) :: starEach es X.env := by rfl) (hpl : ((backTo pos (starEach (e :: es) X.env)).any (·.1) || (backToKw pos (keywordEach kws X.env)).any (·.1.isNone)) = false := by rfl)
    (ht : eval (.Call (.Attribute o m apos) (e :: es) kws pos) X.env = (do
      let ov ← eval o X.env
      standAt apos.atName
      let (f, first) ← holding [ov] (getMethod ov m pl)
      callWith pos f first (backTo pos (starEach (e :: es) X.env)) (backToKw pos (keywordEach kws X.env))) := by rfl) :
    PE X (.Call (.Attribute o m apos) (e :: es) kws pos) (tMethK (stC X.K) m n ks.length sp gV ta t tk) := by
  obtain ⟨f, fd, g, F, M, b⟩ := h.ex
  refine ⟨fun pins s σ H Q I hw => ?_⟩
  refine PySem.W.methodCall_KW (pl := pl) (thn (ho.run pins s σ H _ I hw) fun u s1 ⟨y, H1, I1, ry, a, dx, fs, ey, ea, l, q⟩ => ?_) ht
  subst ey
  obtain rfl : u = Value.ref a := ry
  refine getmeth_ok I1 ea h.cl M l ?_
  refine PySem.W.callWith_KW (first := [.ref a]) (h₀ := X.base) I.ok.mod.kin M.kp hall (thn (ha.run pos pins s1 σ H1 _ I1 q) fun us s2 ⟨vs, H2, I2, r, q2⟩ => ?_) hpl hst
  refine thn (hkw.run pos pins s2 σ H2 _ I2 q2) fun ws s3 ⟨zs, H3, I3, rz, l1, l2, q3⟩ => ⟨I3.kIn, ?_⟩
  rw [hks]
  exact run_fnN (us := .ref a :: us) (vs := .ref a :: vs) F (hr.mono hkj) b pass0 I3 (.cons rfl r) rz l1 l2 q3
theorem pe_clK (h : ClK X.prog X.w X.K X.mg X.base x k ps ks gV sp) (hr : Room j X.A) (hkw : PK X kws tk) (hkj : k ≤ j := by decide) (hg : Gl X x := by rfl)
    (hall : (backToKw pos (keywordEach kws X.env)).all (·.1.isSome) = true := by rfl) (hks : (backToKw pos (keywordEach kws X.env)).filterMap (·.1) = ks := by rfl) (hdb : (x == ("__debug__" : Str)) = false := by decide)
    (hpl : ((backTo pos (starEach [] X.env)).any (·.1) || (backToKw pos (keywordEach kws X.env)).any (·.1.isNone)) = false := by rfl) :
    PE X (.Call (.Name x p) [] kws pos) (tClK ks.length sp gV tk) := by
  obtain ⟨f, fd, g, F, mgf, kp, b⟩ := h.ex
  refine ⟨fun pins s σ H Q I hw => ?_⟩
  refine wpAny_Call_Name_kw (ld_glob I hg mgf ?_ hdb)
  refine PySem.W.callWith_KW0 (h₀ := X.base) I.ok.mod.kin kp hall ?_ hpl
  refine thn (hkw.run pos pins s σ H _ I hw) fun ws s2 ⟨zs, H2, I2, rz, l2, q2⟩ => ⟨I2.kIn, ?_⟩
  rw [hks]
  exact run_fnN (us := []) (vs := []) F (hr.mono hkj) b pass0 I2 .nil rz rfl l2 q2
end
section
variable {P : Program} {w : World} {K : PySem.W.Frag} {mg : Str → Option Value} {base : Heap}
theorem MtK.of {m qual : Str} {st : Stmt} {N ps ks : List Str} {k n : Nat} {sp : Sp} {f : Addr} (hf : ∃ fd, FunD K m qual (defArgs st) (defBody st) (defScope st) [] [] f fd) (hc : Cls K (stC K)) (hm : Meth K (stC K) m f)
    (S : FnScope N ps (defScope st)) (hb : ∀ (kV doc pm : Value) (an : Option Addr) (cdv ct : Value) (us ws : List Value), us.length = n → ws.length = ks.length → bindArgs (PySem.W.fnOf m qual (defArgs st) (defBody st) (defScope st) .none kV doc pm an cdv ct) ⟨us, ks.zip ws⟩ = pure (ps.zip (us ++ ws)))
    (len : ∀ vs H Q E, sp vs H Q E → vs.length = ps.length) (h : BodyOk P w K mg base qual st N k sp f) : MtK P w K mg base m (k + 1) ps n ks (fun vs zs => vs ++ zs) sp := by
  obtain ⟨fd, F⟩ := hf
  refine ⟨hc, f, fd, fun us ws => us ++ ws, F.ok S len fun cdv A outer s H vs Q E hr hs => ?_, hm, ⟨fun s us ws X l1 l2 => ?_, fun r1 r2 => r1.append r2⟩⟩
  · obtain ⟨t, h1, h2⟩ := h cdv A outer s H vs Q E hr hs
    exact ⟨t, h1.nox, h2⟩
  · obtain ⟨oc, od, dV, kV, doc, pm, an, cdv, ct, osl, rfl, lk, hcd, hD, hK⟩ := F.ex
    rcases hD with ⟨_, rfl⟩ | ⟨e, _⟩
    · exact .of_eq (hb kV doc pm an cdv ct us ws l1 l2)
    · exact absurd rfl e
theorem ClK.of {x : Str} {st : Stmt} {N ps ks : List Str} {k : Nat} {sp : Sp} {f : Addr} (hf : ∃ fd, FunD K x x (defArgs st) (defBody st) (defScope st) [] [] f fd) (hg : mg x = some (.ref f))
    (S : FnScope N ps (defScope st)) (hb : ∀ (kV doc pm : Value) (an : Option Addr) (cdv ct : Value) (ws : List Value), ws.length = ks.length → bindArgs (PySem.W.fnOf x x (defArgs st) (defBody st) (defScope st) .none kV doc pm an cdv ct) ⟨[], ks.zip ws⟩ = pure (ps.zip ws))
    (len : ∀ vs H Q E, sp vs H Q E → vs.length = ps.length) (h : BodyOk P w K mg base x st N k sp f) : ClK P w K mg base x (k + 1) ps ks (fun _ zs => zs) sp := by
  obtain ⟨fd, F⟩ := hf
  refine ⟨f, fd, fun _ ws => ws, F.ok S len fun cdv A outer s H vs Q E hr hs => ?_, hg, F.kp, ⟨fun s us ws X l1 l2 => ?_, fun r1 r2 => r2⟩⟩
  · obtain ⟨t, h1, h2⟩ := h cdv A outer s H vs Q E hr hs
    exact ⟨t, h1.nox, h2⟩
  · obtain ⟨oc, od, dV, kV, doc, pm, an, cdv, ct, osl, rfl, lk, hcd, hD, hK⟩ := F.ex
    have e : us = [] := List.length_eq_zero_iff.mp l1
    subst e
    rcases hD with ⟨_, rfl⟩ | ⟨e, _⟩
    · exact .of_eq (hb kV doc pm an cdv ct ws l2)
    · exact absurd rfl e
theorem MtD.of {m qual : Str} {st : Stmt} {N ps : List Str} {k n : Nat} {kws : List (Str × V)} {sp : Sp} {f : Addr} (hf : ∃ fd, FunD K m qual (defArgs st) (defBody st) (defScope st) [] kws f fd) (hc : Cls K (stC K)) (hm : Meth K (stC K) m f)
    (S : FnScope N ps (defScope st)) (hk : kws ≠ []) (hn : n + kws.length = ps.length)
    (hb : ∀ (D : Addr) (doc pm : Value) (an : Option Addr) (cdv ct : Value) (us ks : List Value), us.length = n → ks.length = kws.length →
      KwChain D ((kws.map (·.1)).zip ks) (bindArgs (PySem.W.fnOf m qual (defArgs st) (defBody st) (defScope st) .none (.ref D) doc pm an cdv ct) ⟨us, []⟩) (ps.zip (us ++ ks)))
    (len : ∀ vs H Q E, sp vs H Q E → vs.length = ps.length) (h : BodyOk P w K mg base qual st N k sp f) : MtD P w K mg base m (k + 1) ps (kws.map (·.2)) sp := by
  obtain ⟨fd, F⟩ := hf
  obtain ⟨ds, r, b⟩ := F.binds0 n hk hn hb
  refine ⟨hc, f, fd, ds, F.ok S len fun cdv A outer s H vs Q E hr hs => ?_, hm, r, b⟩
  obtain ⟨t, h1, h2⟩ := h cdv A outer s H vs Q E hr hs
  exact ⟨t, h1.nox, h2⟩
end
/-- what is never asked -/
theorem pe_never {X : Cx} {e : Expr} : PE X e (fun _ _ _ => False) := ⟨fun _ _ _ _ _ _ h => h.elim⟩
theorem rel_int (i : Int) (t : Tok) : RelV (.int i) (.int i t) := ⟨t, rfl⟩
theorem rel_str (x : Str) (t : Tok) : RelV (.str x) (.str x t) := ⟨t, rfl⟩
theorem same_upd {H : Hp} {p : Addr} {o : HO} (h : H p = none) : Same H (upd H p o) := fun b x e => by
  rw [upd_ne (ne_of_none e h)]
  exact e
theorem same_new {H H' : Hp} {p : Addr} {o : HO} (s : Same H H') (h : H' p = none) : Same H (upd H' p o) := s.trans (same_upd h)
/-- a new object, changed -/
theorem same_put {H H' : Hp} {p : Addr} {o : HO} (s : Same H H') (h : H p = none) : Same H (upd H' p o) := fun b x e => by
  rw [upd_ne (ne_of_none e h)]
  exact s b x e
section
variable {J : It} {n : Nat} {G : Hp → Prop} {Y : Nat → Hp → V → Hp → Prop}
/-- a comprehension over a walk: I by the turn, what is made so far, the heap; K, B: what follows an item, a turn without one -/
theorem lc_cps (w : Walk J n G Y) (hn : n ≤ sizeLine) {g : TG} {tt : TT} {te : TE} {vs : List Nat} {σ : L2.St} {H1 : Hp} {D : Addr} {Qd : Hp → Prop} (I : Nat → List V → Hp → Prop) (h0 : I 0 [] (upd H1 D (.lst [])))
    (hu : ∀ i l H o, H D = some (.lst l) → I i (l ++ [o]) H → I i (l ++ [o]) (upd H D (.lst (l ++ [o])))) (hG : ∀ i l H, i ≤ n → I i l H → G H)
    (hs : ∀ i l x H H', i < n → I i l H → H D = some (.lst l) → Y i H x H' → ∀ (K : V → Hp → Prop) (B : Hp → Prop), (∀ v H4, H4 D = some (.lst l) → I (i + 1) (l ++ [v]) H4 → K v H4) → (∀ H4, H4 D = some (.lst l) → I (i + 1) l H4 → B H4) →
      g x (wipe σ vs) H' fun σ2 H2 => wipe σ2 vs = wipe σ vs ∧ tt σ2 H2 fun b H3 => if b = true then te σ2 H3 K else B H3)
    (hd : ∀ l H, l.length ≤ n → I n l H → H D = some (.lst l) → Qd H) :
    ∃ W : Nat → Nat → Hp → Prop, (∃ m, W 0 m (upd H1 D (.lst []))) ∧ ∀ i m H, W i m H →
      (J.stop i H ∧ Qd H) ∨ (J.go i H ∧ ∃ Nx : Hp → Prop, (∀ H', Nx H' → ∃ m', m' < m ∧ W (i + 1) m' H') ∧ ∀ x H', J.yld i H x H' → g x (wipe σ vs) H' fun σ2 H2 => wipe σ2 vs = wipe σ vs ∧ tt σ2 H2 fun b H3 =>
        if b = true then te σ2 H3 fun y H4 => ∃ acc, H4 D = some (.lst acc) ∧ acc.length < sizeLine ∧ Nx (upd H4 D (.lst (acc ++ [y]))) else Nx H3) := by
  refine lc_it w (fun i H => ∃ l, l.length ≤ i ∧ I i l H ∧ H D = some (.lst l)) ⟨[], Nat.le_refl _, h0, upd_same⟩ (fun i H hi ⟨l, _, h, _⟩ => hG i l H hi h) (fun i x H H' hi ⟨l, hl, h, hD⟩ y => ?_) fun H ⟨l, hl, h, hD⟩ => hd l H hl h hD
  refine hs i l x H H' hi h hD y _ _ (fun v H4 h4 h5 => ⟨l, h4, Nat.lt_of_lt_of_le (Nat.lt_of_le_of_lt hl hi) hn, l ++ [v], ?_, hu _ _ _ _ h4 h5, upd_same⟩) fun H4 h4 h5 => ⟨l, Nat.le_succ_of_le hl, h5, h4⟩
  rw [List.length_append]
  exact Nat.succ_le_succ hl
theorem fm_succ (f : Nat → Option V) (i : Nat) : (List.range (i + 1)).filterMap f = (List.range i).filterMap f ++ (f i).toList := by
  rw [List.range_succ, List.filterMap_append]
  cases h : f i <;> simp [h]
/-- .. where what is made is known: f i the item of turn i, or none -/
theorem lc_pure (w : Walk J n G Y) (hn : n ≤ sizeLine) {g : TG} {tt : TT} {te : TE} {vs : List Nat} {σ : L2.St} {H1 : Hp} {D : Addr} {Qd : Hp → Prop} (f : Nat → Option V) (hD : H1 D = none) (hG : ∀ H, Same H1 H → G H)
    (hs : ∀ i x H H', i < n → Same H1 H → Y i H x H' → ∀ (K : V → Hp → Prop) (B : Hp → Prop), (∀ v H4, f i = some v → Same H H4 → K v H4) → (f i = none → ∀ H4, Same H H4 → B H4) →
      g x (wipe σ vs) H' fun σ2 H2 => wipe σ2 vs = wipe σ vs ∧ tt σ2 H2 fun b H3 => if b = true then te σ2 H3 K else B H3)
    (hd : ∀ H, Same H1 H → H D = some (.lst ((List.range n).filterMap f)) → Qd H) :
    ∃ W : Nat → Nat → Hp → Prop, (∃ m, W 0 m (upd H1 D (.lst []))) ∧ ∀ i m H, W i m H →
      (J.stop i H ∧ Qd H) ∨ (J.go i H ∧ ∃ Nx : Hp → Prop, (∀ H', Nx H' → ∃ m', m' < m ∧ W (i + 1) m' H') ∧ ∀ x H', J.yld i H x H' → g x (wipe σ vs) H' fun σ2 H2 => wipe σ2 vs = wipe σ vs ∧ tt σ2 H2 fun b H3 =>
        if b = true then te σ2 H3 fun y H4 => ∃ acc, H4 D = some (.lst acc) ∧ acc.length < sizeLine ∧ Nx (upd H4 D (.lst (acc ++ [y]))) else Nx H3) := by
  refine lc_cps w hn (fun i l H => Same H1 H ∧ l = (List.range i).filterMap f) ⟨same_upd hD, rfl⟩ (fun i l H o _ h => ⟨same_put h.1 hD, h.2⟩) (fun i l H _ h => hG H h.1) (fun i l x H H' hi h hl y K B hK hB => ?_) fun l H _ h hl => hd H h.1 (by rw [hl, h.2])
  refine hs i x H H' hi h.1 y K B (fun v H4 e s => hK v H4 (s _ _ hl) ⟨h.1.trans s, ?_⟩) fun e H4 s => hB H4 (s _ _ hl) ⟨h.1.trans s, ?_⟩
  · rw [fm_succ, e, h.2]
    rfl
  · rw [fm_succ, e, h.2, Option.toList_none, List.append_nil]
/-- .. without a test -/
theorem lc_cps0 (w : Walk J n G Y) (hn : n ≤ sizeLine) {g : TG} {te : TE} {vs : List Nat} {σ : L2.St} {H1 : Hp} {D : Addr} {Qd : Hp → Prop} (I : Nat → List V → Hp → Prop) (h0 : I 0 [] (upd H1 D (.lst [])))
    (hu : ∀ i l H o, H D = some (.lst l) → I i (l ++ [o]) H → I i (l ++ [o]) (upd H D (.lst (l ++ [o])))) (hG : ∀ i l H, i ≤ n → I i l H → G H)
    (hs : ∀ i l x H H', i < n → I i l H → H D = some (.lst l) → Y i H x H' → ∀ (K : V → Hp → Prop), (∀ v H4, H4 D = some (.lst l) → I (i + 1) (l ++ [v]) H4 → K v H4) →
      g x (wipe σ vs) H' fun σ2 H2 => wipe σ2 vs = wipe σ vs ∧ te σ2 H2 K)
    (hd : ∀ l H, l.length ≤ n → I n l H → H D = some (.lst l) → Qd H) :
    ∃ W : Nat → Nat → Hp → Prop, (∃ m, W 0 m (upd H1 D (.lst []))) ∧ ∀ i m H, W i m H →
      (J.stop i H ∧ Qd H) ∨ (J.go i H ∧ ∃ Nx : Hp → Prop, (∀ H', Nx H' → ∃ m', m' < m ∧ W (i + 1) m' H') ∧ ∀ x H', J.yld i H x H' → g x (wipe σ vs) H' fun σ2 H2 => wipe σ2 vs = wipe σ vs ∧ tYes σ2 H2 fun b H3 =>
        if b = true then te σ2 H3 fun y H4 => ∃ acc, H4 D = some (.lst acc) ∧ acc.length < sizeLine ∧ Nx (upd H4 D (.lst (acc ++ [y]))) else Nx H3) :=
  lc_cps w hn (tt := tYes) I h0 hu hG (fun i l x H H' hi h hl y K B hK _ => hs i l x H H' hi h hl y K hK) hd
theorem lc_pure0 (w : Walk J n G Y) (hn : n ≤ sizeLine) {g : TG} {te : TE} {vs : List Nat} {σ : L2.St} {H1 : Hp} {D : Addr} {Qd : Hp → Prop} (f : Nat → V) (hD : H1 D = none) (hG : ∀ H, Same H1 H → G H)
    (hs : ∀ i x H H', i < n → Same H1 H → Y i H x H' → ∀ (K : V → Hp → Prop), (∀ H4, Same H H4 → K (f i) H4) → g x (wipe σ vs) H' fun σ2 H2 => wipe σ2 vs = wipe σ vs ∧ te σ2 H2 K)
    (hd : ∀ H, Same H1 H → H D = some (.lst ((List.range n).map f)) → Qd H) :
    ∃ W : Nat → Nat → Hp → Prop, (∃ m, W 0 m (upd H1 D (.lst []))) ∧ ∀ i m H, W i m H →
      (J.stop i H ∧ Qd H) ∨ (J.go i H ∧ ∃ Nx : Hp → Prop, (∀ H', Nx H' → ∃ m', m' < m ∧ W (i + 1) m' H') ∧ ∀ x H', J.yld i H x H' → g x (wipe σ vs) H' fun σ2 H2 => wipe σ2 vs = wipe σ vs ∧ tYes σ2 H2 fun b H3 =>
        if b = true then te σ2 H3 fun y H4 => ∃ acc, H4 D = some (.lst acc) ∧ acc.length < sizeLine ∧ Nx (upd H4 D (.lst (acc ++ [y]))) else Nx H3) :=
  lc_pure w hn (tt := tYes) (fun i => some (f i)) hD hG (fun i x H H' hi s y K B hK _ => hs i x H H' hi s y K fun H4 s4 => hK _ _ rfl s4) fun H s h => hd H s (by rw [h, List.filterMap_eq_map'])
end
end Df
/-! names.py, and the small defs of stores.py -/
namespace Df
open PySem PySem.Spec PyProof.Rows L2
def letters : Str := "abcdefghijklmnopqrstuvwxyz"
/-- a text of one to eight small letters -/
structure NameOk (z : Str) : Prop where
  lo : 1 ≤ z.length
  hi : z.length ≤ 8
  all : ∀ c ∈ z.cps.toList, c ∈ letters.cps.toList
theorem all_rep (n : Nat) : (List.replicate n true).all id = true := by
  rw [List.all_eq_true]
  exact fun b hb => List.eq_of_mem_replicate hb
section
variable {P : Program} {w : World} {K : PySem.W.Frag} {mg : Str → Option Value} {base : Heap}
/-- a thing that is an int -/
def spInt : Sp := fun vs H Q _ => ∃ i : Int, vs = [.int i] ∧ Q (.bl true) H
abbrev N_is_whole : List Str := ["thing"]
theorem sc_is_whole : FnScope N_is_whole ["thing"] (defScope s_is_whole) := ⟨rfl, rfl, rfl, by decide +kernel, rfl, by decide +kernel, by decide +kernel⟩
theorem ok_is_whole (T : Tx K mg) : Cl P w K mg base "is_whole" 1 ["thing"] spInt := by
  refine Cl.of T.f_is_whole T.gl_is_whole sc_is_whole (fun _ _ _ _ _ _ us hl => match us, hl with | [_], _ => rfl) (fun vs H Q E h => ?_) (fun cdv A outer s H vs Q E hr h => ?_)
  · obtain ⟨i, rfl, _⟩ := h
    rfl
  · obtain ⟨i, rfl, q⟩ := h
    refine ⟨_, (pss_one (ps_ret (pe_and (pe_callB call_isi (by rfl) T.b_isinstance (by decide +kernel) (pa_cons (pv 0) (pa_cons (pe_bltn (by rfl) T.b_int (by decide +kernel) (v := .ty "int") rfl) pa_nil))) (pe_one (pe_not (pe_callB call_isi (by rfl) T.b_isinstance (by decide +kernel) (pa_cons (pv 0) (pa_cons (pe_bltn (by rfl) T.b_bool (by decide +kernel) (v := .ty "bool") rfl) pa_nil)))))))), ?_⟩
    refine ⟨_, rfl, _, _, .type "int", .type "int", true, rfl, .ty _, .base (.int _), kit_ty (by decide +kernel), true, rfl, iteT ?_⟩
    exact ⟨_, rfl, _, _, .type "int", .type "bool", false, rfl, .ty _, .base (.int _), kit_ty (by decide +kernel), false, rfl, q⟩
abbrev N_is_count : List Str := ["thing"]
theorem sc_is_count : FnScope N_is_count ["thing"] (defScope s_is_count) := ⟨rfl, rfl, rfl, by decide +kernel, rfl, by decide +kernel, by decide +kernel⟩
def spCount : Sp := fun vs H Q _ => ∃ i : Int, vs = [.int i] ∧ 0 ≤ i ∧ Q (.bl true) H
theorem ok_is_count (T : Tx K mg) (h_is_whole : Cl P w K mg base "is_whole" 1 ["thing"] spInt) : Cl P w K mg base "is_count" 2 ["thing"] spCount := by
  refine Cl.of T.f_is_count T.gl_is_count sc_is_count (fun _ _ _ _ _ _ us hl => match us, hl with | [_], _ => rfl) (fun vs H Q E h => ?_) (fun cdv A outer s H vs Q E hr h => ?_)
  · obtain ⟨i, rfl, _⟩ := h
    rfl
  · obtain ⟨i, rfl, h0, q⟩ := h
    refine ⟨_, (pss_one (ps_ret (pe_and (pe_cl h_is_whole hr (pa_cons (pv 0) pa_nil)) (pe_one (pe_cmpR op_ge (pv 0) pe_int (nomark _)))))), ?_⟩
    refine ⟨_, rfl, i, rfl, true, rfl, iteT ⟨_, rfl, _, _, rfl, rfl, ?_⟩⟩
    show Q (.bl (decide (i ≥ 0))) H
    rw [decide_eq_true h0]
    exact q
abbrev N_is_name : List Str := ["thing", "sign"]
theorem sc_is_name : FnScope N_is_name ["thing"] (defScope s_is_name) := ⟨rfl, rfl, rfl, by decide +kernel, rfl, by decide +kernel, by decide +kernel⟩
def spName : Sp := fun vs H Q _ => ∃ z : Str, vs = [.str z] ∧ NameOk z ∧ ∀ H', Same H H' → Q (.bl true) H'
theorem ok_is_name (T : Tx K mg) : Cl P w K mg base "is_name" 1 ["thing"] spName := by
  obtain ⟨t1, z_LETTERS⟩ := T.z_LETTERS
  obtain ⟨t2, z_LONGEST⟩ := T.i_LONGEST
  refine Cl.of T.f_is_name T.gl_is_name sc_is_name (fun _ _ _ _ _ _ us hl => match us, hl with | [_], _ => rfl) (fun vs H Q E h => ?_) (fun cdv A outer s H vs Q E hr h => ?_)
  · obtain ⟨i, rfl, _⟩ := h
    rfl
  · obtain ⟨z, rfl, hz, q⟩ := h
    refine ⟨_, (pss_one (ps_ret (pe_and (pe_callB call_isi (by rfl) T.b_isinstance (by decide +kernel) (pa_cons (pv 0) (pa_cons (pe_bltn (by rfl) T.b_str (by decide +kernel) (v := .ty "str") rfl) pa_nil))) (pe_and (pe_chain op_le op_le pe_int (pe_callB call_len_str (by rfl) T.b_len (by decide +kernel) (pa_cons (pv 0) pa_nil)) (pe_glob rfl z_LONGEST (rel_int _ _))) (pe_one (pe_callB (cr_all rfl) (by rfl) T.b_all (by decide +kernel) (pa_cons (pe_lc (own := [("sign", 1)]) rfl sc_is_name.nd (pi_str (pv 0)) (blkOk_by (own := [("sign", 1)]) (N := N_is_name) (sc := defScope s_is_name) (by decide +kernel)) (fun _ _ _ _ _ => pg_name (i := 1) sc_is_name.nd rfl (Or.inl rfl)) (fun _ _ _ _ _ => pts_nil) (fun _ _ _ _ _ => pe_cmpR op_in_sign (pv 1) (pe_glob rfl z_LETTERS (rel_str _ _)) rfl)) pa_nil))))))), ?_⟩
    refine ⟨_, rfl, _, _, .type "str", .type "str", true, rfl, .ty _, .base (.str _), kit_ty (by decide +kernel), true, rfl, iteT ?_⟩
    have h8 : z.length ≤ sizeLine := Nat.le_trans hz.hi (by decide)
    refine ⟨_, rfl, _, rfl, h8, _, _, rfl, rfl, true, ?_, iteT ⟨_, _, rfl, rfl, true, ?_, iteT ?_⟩⟩
    · exact congrArg V.bl (decide_eq_true (Int.ofNat_le.mpr hz.lo))
    · exact congrArg V.bl (decide_eq_true (Int.ofNat_le.mpr hz.hi))
    refine ⟨_, rfl, _, rfl, fun D hD => ?_⟩
    refine lc_pure0 walk_str h8 (fun _ => .bl true) hD (fun _ _ => trivial) (fun i x H1 H2 hi s1 y K hK => ?_) fun H1 s1 h1 => ?_
    · obtain ⟨rfl, c, hc, rfl⟩ := y
      refine ⟨rfl, _, rfl, c, letters, rfl, rfl, ?_⟩
      have hm : c ∈ z.cps.toList := Array.mem_toList_iff.mpr (Array.mem_of_getElem? hc)
      rw [decide_eq_true (hz.all c hm)]
      exact hK _ (Same.refl _)
    · refine ⟨D, List.replicate z.cps.size true, rfl, SqL.of ?_, ?_⟩
      · rw [h1, List.map_replicate, List.map_const', List.length_range]
      · rw [all_rep]
        exact q _ (fun b o e => s1 b o e)
abbrev N_want_name : List Str := ["thing"]
theorem sc_want_name : FnScope N_want_name ["thing"] (defScope s_want_name) := ⟨rfl, rfl, rfl, by decide +kernel, rfl, by decide +kernel, by decide +kernel⟩
def spWName : Sp := fun vs H Q _ => ∃ z : Str, vs = [.str z] ∧ NameOk z ∧ ∀ H', Same H H' → Q .non H'
theorem ok_want_name (T : Tx K mg) (h_is_name : Cl P w K mg base "is_name" 1 ["thing"] spName) : Cl P w K mg base "want_name" 2 ["thing"] spWName := by
  refine Cl.of T.f_want_name T.gl_want_name sc_want_name (fun _ _ _ _ _ _ us hl => match us, hl with | [_], _ => rfl) (fun vs H Q E h => ?_) (fun cdv A outer s H vs Q E hr h => ?_)
  · obtain ⟨i, rfl, _⟩ := h
    rfl
  · obtain ⟨z, rfl, hz, q⟩ := h
    refine ⟨_, (pss_one (ps_if (pt_not (pt_val (pe_cl h_is_name hr (pa_cons (pv 0) pa_nil)))) (pss_one ps_never) pss_nil)), ?_⟩
    refine ⟨_, rfl, z, rfl, hz, fun H1 s1 => ⟨true, rfl, ?_⟩⟩
    refine iteF ?_
    exact q H1 s1
abbrev N_want_word : List Str := ["thing"]
theorem sc_want_word : FnScope N_want_word ["thing"] (defScope s_want_word) := ⟨rfl, rfl, rfl, by decide +kernel, rfl, by decide +kernel, by decide +kernel⟩
/-- a last word that is none -/
def spWWord : Sp := fun vs H Q _ => vs = [.str ""] ∧ Q .non H
theorem ok_want_word (T : Tx K mg) (h_is_name : Cl P w K mg base "is_name" 1 ["thing"] spName) : Cl P w K mg base "want_word" 2 ["thing"] spWWord := by
  refine Cl.of T.f_want_word T.gl_want_word sc_want_word (fun _ _ _ _ _ _ us hl => match us, hl with | [_], _ => rfl) (fun vs H Q E h => ?_) (fun cdv A outer s H vs Q E hr h => ?_)
  · obtain ⟨rfl, _⟩ := h
    rfl
  · obtain ⟨rfl, q⟩ := h
    refine ⟨_, (pss_one (ps_if (PW.pt (pw_and (pt_cmpR op_ne (pv 0) pe_str (nomark _)) (pw_and1 (pt_not (pt_val (pe_cl h_is_name hr (pa_cons (pv 0) pa_nil))))))) (pss_one ps_never) pss_nil)), ?_⟩
    refine ⟨_, rfl, rfl, _, rfl, ?_⟩
    refine iteNS rfl ?_
    refine iteF ?_
    exact q
abbrev N_want_hands : List Str := ["hands", "place", "hand", "who"]
theorem sc_want_hands : FnScope N_want_hands ["hands"] (defScope s_want_hands) := ⟨rfl, rfl, rfl, by decide +kernel, rfl, by decide +kernel, by decide +kernel⟩
/-- a list of one to six unlike names -/
def spWHands : Sp := fun vs H Q _ => ∃ (a : Addr) (hs : List Str), vs = [.ref a] ∧ H a = some (.lst (hs.map V.str)) ∧ 1 ≤ hs.length ∧ hs.length ≤ 6 ∧ (∀ z ∈ hs, NameOk z) ∧ hs.Nodup ∧ ∀ H', Same H H' → Q .non H'
theorem inV_str {z : Str} {l : List Str} (h : ¬ z ∈ l) : inV (.str z) (l.map V.str) = false := by
  unfold inV
  rw [List.any_map, List.any_eq_false]
  intro y hy e
  have e2 : (y == z) = true := e
  exact h (eq_of_beq e2 ▸ hy)
theorem flat_strs (l : List Str) : (l.map V.str).all flatV = true := by
  rw [List.all_map, List.all_eq_true]
  exact fun _ _ => rfl
theorem cutV_to (xs : List V) (i : Nat) : cutV xs none (some (i : Int)) = xs.take i := by
  unfold cutV
  rw [HT.sIx_none, HT.sIx_nat, List.drop_zero, Nat.sub_zero]
  by_cases h : i ≤ xs.length
  · rw [Nat.min_eq_left h]
  · rw [Nat.min_eq_right (by omega), List.take_length, List.take_of_length_le (by omega)]
theorem nd_take : ∀ {l : List Str} {i : Nat} {z : Str}, l.Nodup → l[i]? = some z → ¬ z ∈ l.take i
  | [], _, _, _, h => by simp at h
  | a :: l, 0, z, _, _ => by simp
  | a :: l, i + 1, z, n, h => by
    have h2 : l[i]? = some z := by simpa using h
    obtain ⟨n1, n2⟩ := List.nodup_cons.mp n
    rw [List.take_succ_cons]
    intro m
    rcases List.mem_cons.mp m with e | m
    · exact n1 (e ▸ List.mem_of_getElem? h2)
    · exact nd_take n2 h2 m
theorem ok_want_hands (T : Tx K mg) (h_is_name : Cl P w K mg base "is_name" 1 ["thing"] spName) : Cl P w K mg base "want_hands" 2 ["hands"] spWHands := by
  obtain ⟨t1, z_MOST_HANDS⟩ := T.i_MOST_HANDS
  refine Cl.of T.f_want_hands T.gl_want_hands sc_want_hands (fun _ _ _ _ _ _ us hl => match us, hl with | [_], _ => rfl) (fun vs H Q E h => ?_) (fun cdv A outer s H vs Q E hr h => ?_)
  · obtain ⟨a, hs, rfl, _⟩ := h
    rfl
  · obtain ⟨a, hs, rfl, ha, h1, h6, hN, nd, q⟩ := h
    refine ⟨_, (pss_cons (ps_if (PW.pt (pw_or (pt_not (pt_val (pe_callB call_isi (by rfl) T.b_isinstance (by decide +kernel) (pa_cons (pv 0) (pa_cons (pe_bltn (by rfl) T.b_list (by decide +kernel) (v := .ty "list") rfl) pa_nil))))) (pw_or1 (pt_not (pt_chain op_le op_le pe_int (pe_callB call_len_seq (by rfl) T.b_len (by decide +kernel) (pa_cons (pv 0) pa_nil)) (pe_glob rfl z_MOST_HANDS (rel_int _ _))))))) (pss_one ps_never) pss_nil)
      (pss_one (ps_for PassesOwn.never rfl (pi_enum rfl T.b_enumerate (pa_cons (pv 0) pa_nil)) (pg_tup (by rfl) (pgs_cons (pg_name (i := 1) sc_want_hands.nd rfl (Or.inl rfl)) (pgs_cons (pg_name (i := 2) sc_want_hands.nd rfl (Or.inl rfl)) pgs_nil))) (pss_cons (ps_set (i := 3) sc_want_hands.nd rfl (Or.inl rfl) (pe_ifExp (pt_val (pe_callB call_isi (by rfl) T.b_isinstance (by decide +kernel) (pa_cons (pv 2) (pa_cons (pe_bltn (by rfl) T.b_str (by decide +kernel) (v := .ty "str") rfl) pa_nil)))) (pv 2) (pe_callTy call_str_int (by rfl) T.b_str (by decide +kernel) (pa_cons (pv 1) pa_nil))))
      (pss_cons (ps_if (pt_not (pt_val (pe_cl h_is_name hr (pa_cons (pv 2) pa_nil)))) (pss_one ps_never) pss_nil)
      (pss_one (ps_if (pt_cmpR op_in_seq (pv 2) (pe_slice sl_list (pv 0) po_none (po_some (pv 1))) rfl) (pss_one ps_never) pss_nil))))))), ?_⟩
    refine ⟨_, rfl, _, _, .type "list", .type "list", true, rfl, .ty _, .base (.lst ha), kit_ty (by decide +kernel), true, rfl, ?_⟩
    refine iteF ?_
    refine ⟨_, rfl, a, _, rfl, .inl (SqL.of ha), _, _, rfl, rfl, true, ?_, iteT ⟨_, _, rfl, rfl, true, ?_, ?_⟩⟩
    · exact congrArg V.bl (decide_eq_true (Int.ofNat_le.mpr (by rw [List.length_map]; exact h1)))
    · exact congrArg V.bl (decide_eq_true (Int.ofNat_le.mpr (by rw [List.length_map]; exact h6)))
    refine iteF ?_
    refine ⟨_, rfl, a, _, rfl, SqL.of ha, ?_⟩
    refine for_it (walk_enum (xs := hs.map V.str)) (fun i σ H1 => Same H H1 ∧ ∃ x y z, σ = [some (.ref a), x, y, z]) ⟨Same.refl _, none, none, none, rfl⟩ (fun i σ H1 _ h => SqL.of (h.1 _ _ ha)) (fun i x σ H1 H2 hi hp y => ?_) (fun σ H1 hp => q H1 hp.1)
    obtain ⟨s1, x1, x2, x3, rfl⟩ := hp
    obtain ⟨p, x, v, rfl, hn, rfl, ex, ev⟩ := y
    cases ex
    have hi' : i < hs.length := by rw [List.length_map] at hi; exact hi
    obtain ⟨z, hz⟩ : ∃ z, hs[i]? = some z := ⟨_, List.getElem?_eq_getElem hi'⟩
    have ev2 : v = .str z := by
      have e : (hs.map V.str)[i]? = some v := ev
      rw [List.getElem?_map, hz] at e
      exact (Option.some.inj e).symm
    subst ev2
    have s2 : Same H (upd H1 p (.tup [.int (i : Int), .str z])) := same_new s1 hn
    refine ⟨p, _, rfl, SqT.of upd_same, rfl, _, _, rfl, _, _, rfl, rfl, ?_⟩
    refine ⟨_, rfl, _, _, .type "str", .type "str", true, rfl, .ty _, .base (.str _), kit_ty (by decide +kernel), true, rfl, ?_⟩
    refine iteT ⟨_, rfl, _, rfl, z, rfl, hN z (List.mem_of_getElem? hz), fun H3 s3 => ⟨true, rfl, ?_⟩⟩
    refine iteF ?_
    refine ⟨_, rfl, .ref a, rfl, _, rfl, _, rfl, a, _, rfl, SqL.of (s3 _ _ (s2 _ _ ha)), fun c hc => ?_⟩
    rw [cutV_to, ← List.map_take]
    refine ⟨c, _, rfl, .inl (SqL.of upd_same), rfl, flat_strs _, _, rfl, ?_⟩
    rw [inV_str (nd_take nd hz)]
    refine iteF ?_
    exact ⟨same_new (s2.trans s3) hc, _, _, _, rfl⟩
end
end Df
/-! A store: what it holds (PS), how the heap bears it (SA). -/
namespace Df
open PySem PySem.Spec PyProof.Rows L2
def fset {α β : Type} [DecidableEq α] (f : α → β) (k : α) (v : β) : α → β := fun x => if x = k then v else f x
theorem fset_same {α β : Type} [DecidableEq α] {f : α → β} {k : α} {v : β} : fset f k v k = v := by unfold fset; rw [if_pos rfl]
theorem fset_ne {α β : Type} [DecidableEq α] {f : α → β} {k x : α} {v : β} (h : x ≠ k) : fset f k v x = f x := by unfold fset; rw [if_neg h]
/-- what is in a slot -/
inductive Slot where
  | pl (t : Nat) | wk (t : Nat) | ky (k v : Nat)
  deriving DecidableEq
def vi (t : Nat) : V := .int (t : Int)
def Slot.v : Slot → List V
  | .pl t => [.str "plain", vi t]
  | .wk t => [.str "weak", vi t]
  | .ky k t => [.str "keyed", vi k, vi t]
/-- what a slot's row ends with -/
def Slot.last : Slot → Nat
  | .pl t => t
  | .wk t => t
  | .ky _ t => t
abbrev Hold := List Nat
def joint (o k : Nat) : Hold := if o = k then [o] else if o ≤ k then [o, k] else [k, o]
/-- what is held by what is in a slot of o -/
def Slot.holds (o : Nat) : Slot → List (Nat × Hold)
  | .pl t => [(t, [o])]
  | .wk _ => []
  | .ky k t => [(t, joint o k)]
/-- a store: its hands, how many were made, rows, slots, holds -/
structure PS where
  hs : List Str
  n : Nat
  R : Str → List Nat
  S : Nat → List (Str × Slot)
  K : Nat → List Hold
def PS.addK (s : PS) (t : Nat) (h : Hold) : PS := { s with K := fset s.K t (s.K t ++ [h]) }
def PS.delK (s : PS) (t : Nat) (h : Hold) : PS := { s with K := fset s.K t ((s.K t).erase h) }
def PS.setR (s : PS) (h : Str) (r : List Nat) : PS := { s with R := fset s.R h r }
def PS.setS (s : PS) (o : Nat) (r : List (Str × Slot)) : PS := { s with S := fset s.S o r }
/-- the last one that is t goes -/
def lessL (l : List Nat) (t : Nat) : List Nat := (l.reverse.erase t).reverse
def PS.have_ (s : PS) (h : Str) (t : Nat) : PS := (s.setR h (s.R h ++ [t])).addK t []
def PS.lose (s : PS) (h : Str) (t : Nat) : PS := (s.setR h (lessL (s.R h) t)).delK t []
def look (l : List (Str × Slot)) (k : Str) : Option Slot := (l.find? fun e => decide (e.1 = k)).map (·.2)
def dropS (l : List (Str × Slot)) (k : Str) : List (Str × Slot) := l.filter fun e => decide (e.1 ≠ k)
def PS.addAll (s : PS) (l : List (Nat × Hold)) : PS := l.foldl (fun s e => s.addK e.1 e.2) s
def PS.delAll (s : PS) (l : List (Nat × Hold)) : PS := l.foldl (fun s e => s.delK e.1 e.2) s
def PS.clear (s : PS) (o : Nat) (k : Str) : PS := match look (s.S o) k with
  | none => s
  | some sl => (s.setS o (dropS (s.S o) k)).delAll (sl.holds o)
def PS.fill (s : PS) (o : Nat) (k : Str) (sl : Slot) : PS := let s1 := s.clear o k; (s1.setS o (s1.S o ++ [(k, sl)])).addAll (sl.holds o)
def PS.make (s : PS) (h : Str) : PS := ({ s with n := s.n + 1, S := fset s.S s.n [], K := fset s.K s.n [] } : PS).have_ h s.n
/-! ### on the heap -/
inductive Rl where
  | den | rows | row (h : Str) | fil | slo (t : Nat) | las | kep | kpl (t : Nat)
  deriving DecidableEq
def live (hs : List Str) (n : Nat) : Rl → Prop
  | .row h => h ∈ hs
  | .slo t => t < n
  | .kpl t => t < n
  | _ => True
abbrev SV := Rl → Addr
def flds (a b c d : Addr) (z : Nat) : List (Str × V) := [("rows", .ref a), ("filled", .ref b), ("last", .ref c), ("kept", .ref d), ("many", vi z)]
theorem flds_rows (a b c d : Addr) (z : Nat) : (flds a b c d z).lookup ("rows" : Str) = some (V.ref a) := by kernel_rfl
theorem flds_filled (a b c d : Addr) (z : Nat) : (flds a b c d z).lookup ("filled" : Str) = some (V.ref b) := by kernel_rfl
theorem flds_last (a b c d : Addr) (z : Nat) : (flds a b c d z).lookup ("last" : Str) = some (V.ref c) := by kernel_rfl
theorem flds_kept (a b c d : Addr) (z : Nat) : (flds a b c d z).lookup ("kept" : Str) = some (V.ref d) := by kernel_rfl
theorem flds_many (a b c d : Addr) (z : Nat) : (flds a b c d z).lookup ("many" : Str) = some (vi z) := by kernel_rfl
theorem flds_put (a b c d : Addr) (z y : Nat) : putF "many" (vi y) (flds a b c d z) = flds a b c d y := by kernel_rfl
def Mth (m : Str) : Prop := ∀ (a b c d : Addr) (z : Nat), (flds a b c d z).lookup m = none
def kH (hs : List Str) (f : Str → Addr) : List (Key × V) := hs.map fun h => (Sum.inr h, V.ref (f h))
def kT (n : Nat) (f : Nat → V) : List (Key × V) := (List.range n).map fun (t : Nat) => (Sum.inl (t : Int), f t)
/-- what stands at a role's address -/
def Ct (C dx : Addr) (α : SV) (s : PS) (H : Hp) : Rl → HO → Prop
  | .den, o => o = .ins C dx (flds (α .rows) (α .fil) (α .las) (α .kep) s.n)
  | .rows, o => o = .dK (kH s.hs fun h => α (.row h))
  | .row h, o => o = .lst ((s.R h).map vi)
  | .fil, o => o = .dK (kT s.n fun t => .ref (α (.slo t)))
  | .slo t, o => ∃ es : List (Str × Addr × Slot), es.map (fun e => (e.1, e.2.2)) = s.S t ∧ o = .dK (es.map fun e => (Sum.inr e.1, V.ref e.2.1)) ∧ ∀ e ∈ es, H e.2.1 = some (.tup e.2.2.v)
  | .las, o => o = .dK (kT s.n fun _ => .str "")
  | .kep, o => o = .dK (kT s.n fun t => .ref (α (.kpl t)))
  | .kpl t, o => ∃ es : List (Addr × Hold), es.map (·.2) = s.K t ∧ o = .lst (es.map fun e => V.ref e.1) ∧ ∀ e ∈ es, H e.1 = some (.tup (e.2.map vi))
structure SA (C dx : Addr) (α : SV) (s : PS) (H : Hp) : Prop where
  at_ : ∀ r, live s.hs s.n r → ∃ o, H (α r) = some o ∧ Ct C dx α s H r o
  inj : ∀ r r', live s.hs s.n r → live s.hs s.n r' → α r = α r' → r = r'
  /-- lists are no longer than what is let -/
  sm : ∀ t, t < s.n → (s.K t).length ≤ 100000
/-- the addresses that a store's deeds may change -/
def Foot (α : SV) (s : PS) (c : Addr) : Prop := ∃ r, live s.hs s.n r ∧ α r = c
/-- all but F is as it was -/
def Chg (F : Addr → Prop) (H H' : Hp) : Prop := ∀ c o, H c = some o → ¬ F c → H' c = some o
section
variable {C dx : Addr} {α : SV} {s s' : PS} {H H' : Hp}
theorem Chg.of_same {F : Addr → Prop} (h : Same H H') : Chg F H H' := fun c o e _ => h c o e
theorem Chg.trans {F : Addr → Prop} {H1 H2 : Hp} (a : Chg F H H1) (b : Chg F H1 H2) : Chg F H H2 := fun c o e n => b c o (a c o e n) n
theorem Chg.upd {F : Addr → Prop} {H1 : Hp} {a : Addr} {o : HO} (h : Chg F H H1) (ha : F a ∨ H a = none) : Chg F H (upd H1 a o) := fun c u e n => by
  have ne : c ≠ a := fun z => by
    subst z
    rcases ha with f | f
    · exact n f
    · rw [f] at e
      cases e
  rw [upd_ne ne]
  exact h c u e n
theorem Chg.same {F : Addr → Prop} {H1 H2 : Hp} (h : Chg F H H1) (e : Same H1 H2) : Chg F H H2 := fun c o q n => e _ _ (h c o q n)
def HO.isTup : HO → Bool
  | .tup _ => true
  | _ => false
theorem Ct.no_tup {r : Rl} {o : HO} (h : Ct C dx α s H r o) : HO.isTup o = false := by
  cases r <;> first
    | (have e : o = _ := h; rw [e]; rfl)
    | (obtain ⟨es, _, e, _⟩ := h; rw [e]; rfl)
theorem SA.tup_keep (A : SA C dx α s H) {a : Addr} {xs : List V} (h : H a = some (.tup xs)) : ¬ Foot α s a := fun ⟨r, l, e⟩ => by
  obtain ⟨o, h1, h2⟩ := A.at_ r l
  rw [e, h] at h1
  have := h2.no_tup
  rw [← Option.some.inj h1] at this
  cases this
/-- the same at a role -/
def Alike (s s' : PS) : Rl → Prop
  | .row h => s.R h = s'.R h
  | .slo t => s.S t = s'.S t
  | .kpl t => s.K t = s'.K t
  | _ => True
theorem Ct.mono {r : Rl} {o : HO} (hh : s'.hs = s.hs) (hn : s'.n = s.n) (a : Alike s s' r) (k : ∀ e xs, H e = some (.tup xs) → H' e = some (.tup xs)) (h : Ct C dx α s H r o) : Ct C dx α s' H' r o := by
  cases r with
  | den => exact (show o = _ from h).trans (by rw [hn])
  | rows => exact (show o = _ from h).trans (by rw [hh])
  | row x => exact (show o = _ from h).trans (by rw [show s.R x = s'.R x from a])
  | fil => exact (show o = _ from h).trans (by rw [hn])
  | las => exact (show o = _ from h).trans (by rw [hn])
  | kep => exact (show o = _ from h).trans (by rw [hn])
  | slo t =>
    obtain ⟨es, e1, e2, e3⟩ := h
    exact ⟨es, e1.trans a, e2, fun e he => k _ _ (e3 e he)⟩
  | kpl t =>
    obtain ⟨es, e1, e2, e3⟩ := h
    exact ⟨es, e1.trans a, e2, fun e he => k _ _ (e3 e he)⟩
/-- more stands in the heap -/
theorem SA.same (A : SA C dx α s H) (e : Same H H') : SA C dx α s H' :=
  ⟨fun r l => let ⟨o, h1, h2⟩ := A.at_ r l; ⟨o, e _ _ h1, h2.mono rfl rfl (by cases r <;> first | exact trivial | rfl) fun b xs q => e b _ q⟩, A.inj, A.sm⟩
/-- one that is changed elsewhere -/
theorem SA.keep (A : SA C dx α s H) {F : Addr → Prop} (c : Chg F H H') (d : ∀ b, F b → ¬ Foot α s b) (dt : ∀ b xs, F b → H b ≠ some (.tup xs)) : SA C dx α s H' :=
  ⟨fun r l => let ⟨o, h1, h2⟩ := A.at_ r l; ⟨o, c _ _ h1 (fun f => d _ f ⟨r, l, rfl⟩), h2.mono rfl rfl (by cases r <;> first | exact trivial | rfl) fun b xs q => c b _ q fun f => dt b xs f q⟩, A.inj, A.sm⟩
/-- the object at a role is changed -/
theorem SA.put (A : SA C dx α s H) {r : Rl} {o : HO} (hr : live s.hs s.n r) (hh : s'.hs = s.hs) (hn : s'.n = s.n) (al : ∀ r', r' ≠ r → Alike s s' r') (sm : ∀ t, t < s'.n → (s'.K t).length ≤ 100000) (new : Ct C dx α s' H r o) : SA C dx α s' (upd H (α r) o) := by
  have nt : ∀ e xs, H e = some (.tup xs) → upd H (α r) o e = some (.tup xs) := fun e xs q => by
    have ne : e ≠ α r := fun z => A.tup_keep q ⟨r, hr, z.symm⟩
    rw [upd_ne ne]
    exact q
  refine ⟨fun r' l => ?_, fun r1 r2 l1 l2 => A.inj r1 r2 (by rw [← hh, ← hn]; exact l1) (by rw [← hh, ← hn]; exact l2), sm⟩
  by_cases e : r' = r
  · subst e
    refine ⟨o, upd_same, new.mono rfl rfl ?_ nt⟩
    cases r' <;> first | exact trivial | rfl
  · have l' : live s.hs s.n r' := by rw [← hh, ← hn]; exact l
    obtain ⟨u, h1, h2⟩ := A.at_ r' l'
    refine ⟨u, ?_, h2.mono hh hn (al r' e) nt⟩
    rw [upd_ne fun z => e (A.inj _ _ l' hr z)]
    exact h1
theorem SA.den (A : SA C dx α s H) : H (α .den) = some (.ins C dx (flds (α .rows) (α .fil) (α .las) (α .kep) s.n)) := by
  obtain ⟨o, h1, h2⟩ := A.at_ .den trivial
  rw [h1]
  exact congrArg some h2
theorem SA.rows (A : SA C dx α s H) : H (α .rows) = some (.dK (kH s.hs fun h => α (.row h))) := by
  obtain ⟨o, h1, h2⟩ := A.at_ .rows trivial
  rw [h1]
  exact congrArg some h2
theorem SA.row (A : SA C dx α s H) {h : Str} (hm : h ∈ s.hs) : H (α (.row h)) = some (.lst ((s.R h).map vi)) := by
  obtain ⟨o, h1, h2⟩ := A.at_ (.row h) hm
  rw [h1]
  exact congrArg some h2
theorem SA.fil (A : SA C dx α s H) : H (α .fil) = some (.dK (kT s.n fun t => .ref (α (.slo t)))) := by
  obtain ⟨o, h1, h2⟩ := A.at_ .fil trivial
  rw [h1]
  exact congrArg some h2
theorem SA.las (A : SA C dx α s H) : H (α .las) = some (.dK (kT s.n fun _ => .str "")) := by
  obtain ⟨o, h1, h2⟩ := A.at_ .las trivial
  rw [h1]
  exact congrArg some h2
theorem SA.kep (A : SA C dx α s H) : H (α .kep) = some (.dK (kT s.n fun t => .ref (α (.kpl t)))) := by
  obtain ⟨o, h1, h2⟩ := A.at_ .kep trivial
  rw [h1]
  exact congrArg some h2
end
/-! ### looking up -/
theorem val_kH {hs : List Str} {f : Str → Addr} {h : Str} : valV (kH hs f) (Sum.inr h : Key) = if h ∈ hs then some (.ref (f h)) else none := by
  induction hs with
  | nil => rfl
  | cons a l ih =>
    show valV ((Sum.inr a, V.ref (f a)) :: kH l f) _ = _
    by_cases e : a = h
    · subst e
      rw [valV_pos rfl, if_pos List.mem_cons_self]
    · rw [valV_neg (fun z => e (Sum.inr.inj z)), ih]
      by_cases m : h ∈ l
      · rw [if_pos m, if_pos (List.mem_cons_of_mem _ m)]
      · rw [if_neg m, if_neg (fun z => (List.mem_cons.mp z).elim (fun q => e q.symm) m)]
theorem val_kT_aux {f : Nat → V} {t : Nat} : ∀ l : List Nat, valV (l.map fun (t : Nat) => ((Sum.inl (t : Int) : Key), f t)) (Sum.inl (t : Int) : Key) = if t ∈ l then some (f t) else none
  | [] => rfl
  | a :: l => by
    rw [List.map_cons]
    by_cases e : a = t
    · subst e
      rw [valV_pos rfl, if_pos List.mem_cons_self]
    · rw [valV_neg (fun z => e (Int.ofNat.inj (Sum.inl.inj z))), val_kT_aux l]
      by_cases m : t ∈ l
      · rw [if_pos m, if_pos (List.mem_cons_of_mem _ m)]
      · rw [if_neg m, if_neg (fun z => (List.mem_cons.mp z).elim (fun q => e q.symm) m)]
theorem val_kT {n : Nat} {f : Nat → V} {t : Nat} : valV (kT n f) (Sum.inl (t : Int) : Key) = if t < n then some (f t) else none := by
  unfold kT
  rw [val_kT_aux]
  by_cases h : t < n
  · rw [if_pos h, if_pos (List.mem_range.mpr h)]
  · rw [if_neg h, if_neg (fun z => h (List.mem_range.mp z))]
theorem put_kT {n : Nat} {f : Nat → V} {v : V} : putK (kT n f) (Sum.inl (n : Int) : Key) v = kT (n + 1) (fset f n v) := by
  rw [putK_new v (by rw [val_kT, if_neg (Nat.lt_irrefl n)])]
  unfold kT
  rw [List.range_succ, List.map_append, List.map_singleton, fset_same]
  congr 1
  refine List.map_congr_left fun t ht => ?_
  rw [fset_ne (Nat.ne_of_lt (List.mem_range.mp ht))]
theorem len_kT {n : Nat} {f : Nat → V} : (kT n f).length = n := by
  unfold kT
  rw [List.length_map, List.length_range]
theorem dget_row {hs : List Str} {f : Str → Addr} {h : Str} {H : Hp} {a : Addr} (e : H a = some (.dK (kH hs f))) (m : h ∈ hs) : DGet H a (.str h) (some (.ref (f h))) := by
  have q := DGet.k (k := Sum.inr h) e
  rw [val_kH, if_pos m] at q
  exact q
theorem dget_t {n : Nat} {f : Nat → V} {t : Nat} {H : Hp} {a : Addr} (e : H a = some (.dK (kT n f))) (m : t < n) : DGet H a (vi t) (some (f t)) := by
  have q := DGet.k (k := Sum.inl (t : Int)) e
  rw [val_kT, if_pos m] at q
  exact q
theorem dput_t {n : Nat} {f : Nat → V} {v : V} {H : Hp} {a : Addr} (e : H a = some (.dK (kT n f))) (hn : n ≤ 1000) : DPut H a (vi n) v (upd H a (.dK (kT (n + 1) (fset f n v)))) := by
  have q := DPut.k (k := Sum.inl (n : Int)) (v := v) e (by rw [len_kT]; exact small1000 hn)
  rw [put_kT] at q
  exact q
section
variable {C dx : Addr} {α : SV} {s : PS} {H : Hp}
theorem SA.kpl (A : SA C dx α s H) {t : Nat} (ht : t < s.n) : ∃ es : List (Addr × Hold), es.map (·.2) = s.K t ∧ H (α (.kpl t)) = some (.lst (es.map fun e => V.ref e.1)) ∧ ∀ e ∈ es, H e.1 = some (.tup (e.2.map vi)) := by
  obtain ⟨o, h1, es, e1, e2, e3⟩ := A.at_ (.kpl t) ht
  exact ⟨es, e1, by rw [h1, e2], e3⟩
theorem SA.slo (A : SA C dx α s H) {t : Nat} (ht : t < s.n) : ∃ es : List (Str × Addr × Slot), es.map (fun e => (e.1, e.2.2)) = s.S t ∧ H (α (.slo t)) = some (.dK (es.map fun e => (Sum.inr e.1, V.ref e.2.1))) ∧ ∀ e ∈ es, H e.2.1 = some (.tup e.2.2.v) := by
  obtain ⟨o, h1, es, e1, e2, e3⟩ := A.at_ (.slo t) ht
  exact ⟨es, e1, by rw [h1, e2], e3⟩
theorem SA.newK (A : SA C dx α s H) {t : Nat} (ht : t < s.n) {k : List Hold} (es : List (Addr × Hold)) (hm : es.map (·.2) = k) (hk : k.length ≤ 100000) (hT : ∀ e ∈ es, H e.1 = some (.tup (e.2.map vi))) :
    SA C dx α { s with K := fset s.K t k } (upd H (α (.kpl t)) (.lst (es.map fun e => V.ref e.1))) := by
  refine A.put (r := .kpl t) ht rfl rfl (fun r' ne => ?_) (fun u hu => ?_) ⟨es, by rw [hm]; exact fset_same.symm, rfl, hT⟩
  · cases r' <;> first | exact trivial | rfl | skip
    rename_i u
    exact (fset_ne fun e => ne (by rw [e])).symm
  · show (fset s.K t k u).length ≤ 100000
    by_cases e : u = t
    · rw [e, fset_same]
      exact hk
    · rw [fset_ne e]
      exact A.sm u hu
theorem SA.newR (A : SA C dx α s H) {h : Str} (hh : h ∈ s.hs) (r : List Nat) : SA C dx α (s.setR h r) (upd H (α (.row h)) (.lst (r.map vi))) := by
  refine A.put (r := .row h) hh rfl rfl (fun r' ne => ?_) A.sm (show HO.lst (r.map vi) = HO.lst ((fset s.R h r h).map vi) by rw [fset_same])
  cases r' <;> first | exact trivial | rfl | skip
  rename_i u
  exact (fset_ne fun e => ne (by rw [e])).symm
theorem SA.newS (A : SA C dx α s H) {o : Nat} (ho : o < s.n) {r : List (Str × Slot)} (es : List (Str × Addr × Slot)) (hm : es.map (fun e => (e.1, e.2.2)) = r) (hT : ∀ e ∈ es, H e.2.1 = some (.tup e.2.2.v)) :
    SA C dx α (s.setS o r) (upd H (α (.slo o)) (.dK (es.map fun e => (Sum.inr e.1, V.ref e.2.1)))) := by
  refine A.put (r := .slo o) ho rfl rfl (fun r' ne => ?_) A.sm ⟨es, by rw [hm]; exact fset_same.symm, rfl, hT⟩
  cases r' <;> first | exact trivial | rfl | skip
  rename_i u
  exact (fset_ne fun e => ne (by rw [e])).symm
end
theorem look_val {es : List (Str × Addr × Slot)} {k : Str} : (valV (es.map fun e => ((Sum.inr e.1 : Key), V.ref e.2.1)) (Sum.inr k : Key) = none ∧ look (es.map fun e => (e.1, e.2.2)) k = none) ∨
    ∃ a sl, valV (es.map fun e => ((Sum.inr e.1 : Key), V.ref e.2.1)) (Sum.inr k : Key) = some (.ref a) ∧ look (es.map fun e => (e.1, e.2.2)) k = some sl ∧ (k, a, sl) ∈ es := by
  induction es with
  | nil => exact .inl ⟨rfl, rfl⟩
  | cons e l ih =>
    obtain ⟨x, a, sl⟩ := e
    by_cases h : x = k
    · subst h
      refine .inr ⟨a, sl, valV_pos rfl, ?_, List.mem_cons_self⟩
      simp [look]
    · have e1 : valV (List.map (fun e => ((Sum.inr e.1 : Key), V.ref e.2.1)) ((x, a, sl) :: l)) (Sum.inr k : Key) = valV (l.map fun e => ((Sum.inr e.1 : Key), V.ref e.2.1)) (Sum.inr k : Key) := valV_neg fun z => h (Sum.inr.inj z)
      have e2 : look (List.map (fun e => (e.1, e.2.2)) ((x, a, sl) :: l)) k = look (l.map fun e => (e.1, e.2.2)) k := by simp [look, h]
      rw [e1, e2]
      rcases ih with q | ⟨a', sl', q1, q2, q3⟩
      · exact .inl q
      · exact .inr ⟨a', sl', q1, q2, List.mem_cons_of_mem _ q3⟩
theorem drop_es (es : List (Str × Addr × Slot)) (k : Str) : dropK (es.map fun e => ((Sum.inr e.1 : Key), V.ref e.2.1)) (Sum.inr k : Key) = (es.filter fun e => decide (e.1 ≠ k)).map fun e => (Sum.inr e.1, V.ref e.2.1) := by
  unfold dropK
  rw [List.filter_map]
  congr 1
  refine List.filter_congr fun e _ => ?_
  show decide ((Sum.inr e.1 : Key) ≠ Sum.inr k) = decide (e.1 ≠ k)
  exact decide_eq_decide.mpr ⟨fun z q => z (by rw [q]), fun z q => z (Sum.inr.inj q)⟩
theorem drop_es2 (es : List (Str × Addr × Slot)) (k : Str) : (es.filter fun e => decide (e.1 ≠ k)).map (fun e => (e.1, e.2.2)) = dropS (es.map fun e => (e.1, e.2.2)) k := by
  unfold dropS
  rw [List.filter_map]
  rfl
/-! ### holds as data -/
def dH (h : Hold) : PyData := .tuple (h.map fun (t : Nat) => .int (t : Int))
theorem lay_ints : ∀ h : Hold, PyData.canLayAll0 (h.map fun (t : Nat) => .int (t : Int)) = true
  | [] => by simp [PyData.canLayAll0]
  | t :: h => by simp [PyData.canLayAll0, PyData.canLay0, lay_ints h]
theorem depth_ints : ∀ h : Hold, PyData.depthAll (h.map fun (t : Nat) => .int (t : Int)) = 0
  | [] => by simp [PyData.depthAll]
  | t :: h => by simp [PyData.depthAll, PyData.depth, depth_ints h]
theorem dH_depth (h : Hold) : (dH h).depth = 1 := by simp [dH, PyData.depth, depth_ints]
theorem dH_lay (h : Hold) : (dH h).canLay0 = true := by simp [dH, PyData.canLay0, lay_ints]
theorem dH_shaped (h : Hold) : SeqAt.shaped (dH h) = true := by
  show (PyData.canLay0 (dH h) && decide (PyData.depth (dH h) ≤ 64)) = true
  rw [dH_lay, dH_depth]
  rfl
theorem dHs_lay : ∀ l : List Hold, PyData.canLayAll0 (l.map dH) = true
  | [] => by simp [PyData.canLayAll0]
  | h :: l => by simp [PyData.canLayAll0, dH_lay, dHs_lay l]
theorem dHs_depth : ∀ l : List Hold, PyData.depthAll (l.map dH) ≤ 1
  | [] => by simp [PyData.depthAll]
  | h :: l => by
    have := dHs_depth l
    simp only [List.map_cons, PyData.depthAll, dH_depth]
    omega
theorem dHs_shaped (l : List Hold) : SeqAt.shaped (.list (l.map dH)) = true := by
  have h1 := dHs_depth l
  show (PyData.canLay0 (.list (l.map dH)) && decide (PyData.depth (.list (l.map dH)) ≤ 64)) = true
  have h2 : PyData.canLay0 (.list (l.map dH)) = true := by simp only [PyData.canLay0]; exact dHs_lay l
  have h3 : PyData.depth (.list (l.map dH)) ≤ 64 := by simp only [PyData.depth]; omega
  rw [h2, decide_eq_true h3]
  rfl
theorem eqv_ints : ∀ a b : Hold, PyData.eqvAll (a.map fun (t : Nat) => .int (t : Int)) (b.map fun (t : Nat) => .int (t : Int)) = decide (a = b)
  | [], [] => by simp [PyData.eqvAll]
  | [], t :: b => by simp [PyData.eqvAll]
  | t :: a, [] => by simp [PyData.eqvAll]
  | t :: a, u :: b => by
    have ih := eqv_ints a b
    simp only [List.map_cons, PyData.eqvAll, PyData.eqv, ih]
    by_cases h : t = u
    · subst h
      simp
    · have : ((t : Int) == (u : Int)) = false := beq_eq_false_iff_ne.mpr (by omega)
      simp [this, h]
theorem eqv_dH (a b : Hold) : PyData.eqv (dH a) (dH b) = decide (a = b) := by
  simp only [dH, PyData.eqv]
  exact eqv_ints a b
theorem dp_ints {K : PySem.W.Frag} {H : Hp} : ∀ h : Hold, DpAll K H (h.map vi) (h.map fun (t : Nat) => .int (t : Int))
  | [] => .nil
  | t :: h => .cons (.int _) (dp_ints h)
theorem dp_hold {K : PySem.W.Frag} {H : Hp} {a : Addr} {h : Hold} (e : H a = some (.tup (h.map vi))) : Dp K H (.ref a) (dH h) := .tup (SqT.of e) (dp_ints h)
theorem dp_holds {K : PySem.W.Frag} {H : Hp} : ∀ es : List (Addr × Hold), (∀ e ∈ es, H e.1 = some (.tup (e.2.map vi))) → DpAll K H (es.map fun e => V.ref e.1) ((es.map (·.2)).map dH)
  | [], _ => .nil
  | e :: es, h => .cons (dp_hold (h e List.mem_cons_self)) (dp_holds es fun f hf => h f (List.mem_cons_of_mem _ hf))
end Df
/-! own rules: list.remove of data -/
namespace Df
open PySem PySem.Spec PyProof.Rows L2
/-- l.remove(x): x and the items are data of any depth -/
def rRemD (K : PySem.W.Frag) : V → List V → Hp → VK → Prop := fun x xs H Q => ∃ (l : Addr) (y : V) (vs : List V) (d : PyData) (ds : List PyData) (j : Nat) (z : PyData), x = .ref l ∧ xs = [y] ∧ H l = some (.lst vs) ∧ DpAll K H vs ds ∧ Dp K H y d ∧
  SeqAt.shaped (.list ds) = true ∧ SeqAt.shaped d = true ∧ ds[j]? = some z ∧ PyData.eqv z d = true ∧ (∀ (m : Nat) (z' : PyData), m < j → ds[m]? = some z' → PyData.eqv z' d = false) ∧ Q .non (upd H l (.lst (vs.eraseIdx j)))
theorem mt_removeD {X : Cx} (hu : X.A.units + 65 < cLine) : MtR X "list.remove" (rRemD X.K) := by
  intro pins s σ H x xs v us Q I rx rxs h
  obtain ⟨l, y, vs, d, ds, j, z, rfl, rfl, hH, ha, hy, sl, sd, hz, hzj, hno, q⟩ := h
  cases rx
  obtain ⟨uy, rfl, ry⟩ := rxs.one
  obtain ⟨bs, r1⟩ := Dp.reads I d y uy hy ry
  have lay := SeqAt.canLay_of_shaped sl
  have roomy : X.A.units + 1 + min (PyData.depthAll ds) d.depth < cLine := by
    have := SeqAt.depth_of_shaped sd
    omega
  obtain ⟨wz, its, n, r, hl, e⟩ := I.lstM hH
  obtain ⟨as, r2⟩ := Dp.readsAll I ds _ its ha r
  have same : its.map (SeqAt.readOf s.heap) = ds := SeqAt.readsAll_map ds its as lay r2
  obtain ⟨jd, _⟩ := List.getElem?_eq_some_iff.mp hz
  have il : its.length = ds.length := by rw [← same, List.length_map]
  have back : ∀ (m : Nat) (hm : m < its.toArray.size) (z' : PyData), ds[m]? = some z' → SeqAt.readOf s.heap its.toArray[m] = z' := fun m hm z' e' => by
    have hm2 : m < its.length := by simpa using hm
    rw [← same, List.getElem?_map, List.getElem?_eq_getElem hm2] at e'
    simpa using Option.some.inj e'
  have jl : j < its.toArray.size := by simp only [List.size_toArray]; omega
  have ll : its.toArray.size ≤ sizeLine := by simp only [List.size_toArray]; omega
  refine call_meets PySem.F.slot_list_remove ⟨_, e, rfl⟩ PySem.F.entry_list_remove (PySem.F.args_list_remove_2 _ _)
    (SeqAt.list_removeAt l its.toArray n _ _ uy (fun u => PyData.eqv (SeqAt.readOf s.heap u) d) j jl ?_ ?_ ll) ⟨e, SeqAt.items_eqAt (vs := its.toArray) (show ReadsAll s.heap its.toArray.toList ds as from r2) r1 lay (SeqAt.canLay_of_shaped sd) roomy, ?_⟩
  · show PyData.eqv (SeqAt.readOf s.heap its.toArray[j]) d = true
    rw [back j jl z hz]
    exact hzj
  · intro m hm hmj
    show PyData.eqv (SeqAt.readOf s.heap its.toArray[m]) d = false
    have hm' : m < ds.length := by rw [← il]; simpa using hm
    rw [back m hm _ (List.getElem?_eq_getElem hm')]
    exact hno m _ hmj (List.getElem?_eq_getElem hm')
  · refine ⟨.non, _, I.lset (its' := its.eraseIdx j) (t' := s.toks) hH e ?_ (r.eraseIdx j) ?_, rfl, q⟩
    · show its.toArray.eraseIdxIfInBounds j = (its.eraseIdx j).toArray
      rw [List.eraseIdxIfInBounds_toArray]
    · have le := List.length_eraseIdx_le vs j
      omega
end Df
/-! Store's small methods -/
namespace Df
open PySem PySem.Spec PyProof.Rows L2
/-- every method's promise speaks of a store at a place -/
def Rm (s : PS) : Prop := ∀ t, t < s.n → (s.K t).length < 100000
theorem hu65_of {k : Nat} {A : Around} (hr : Room k A) : A.units + 65 < cLine := by
  have := hr.un
  omega
theorem sorted2 {a b : Nat} {l : List Int} (p : l.Perm [(a : Int), (b : Int)]) (w : l.Pairwise (· ≤ ·)) : l = if a ≤ b then [(a : Int), (b : Int)] else [(b : Int), (a : Int)] := by
  match l, p, w with
  | [], p, _ => exact absurd p.length_eq (by simp)
  | [x], p, _ => exact absurd p.length_eq (by simp)
  | x :: y :: z :: r, p, _ => exact absurd p.length_eq (by simp)
  | [x, y], p, w =>
    have hxy : x ≤ y := by
      have := (List.pairwise_cons.mp w).1 y (by simp)
      exact this
    have hx : x = a ∨ x = b := by have := p.mem_iff (a := x); simp at this; exact this
    have hy : (x = a ∧ y = b) ∨ (x = b ∧ y = a) := by
      rcases hx with e | e
      · subst e
        exact .inl ⟨rfl, by have := List.perm_singleton.mp p.cons_inv; simpa using this⟩
      · subst e
        exact .inr ⟨rfl, by have := List.perm_singleton.mp (p.trans (List.Perm.swap _ _ [])).cons_inv; simpa using this⟩
    by_cases h : a ≤ b
    · rw [if_pos h]
      have h1 : x = a := by omega
      have h2 : y = b := by omega
      rw [h1, h2]
    · rw [if_neg h]
      have h1 : x = b := by omega
      have h2 : y = a := by omega
      rw [h1, h2]
theorem joint_eq (o k : Nat) (h : o ≠ k) : joint o k = if o ≤ k then [o, k] else [k, o] := by
  unfold joint
  rw [if_neg h]
section
variable {P : Program} {w : World} {K : PySem.W.Frag} {mg : Str → Option Value} {base : Heap}
abbrev N_joint : List Str := ["owner", "key"]
theorem sc_joint : FnScope N_joint ["owner", "key"] (defScope s_joint) := ⟨rfl, rfl, rfl, by decide +kernel, rfl, by decide +kernel, by decide +kernel⟩
def spJoint : Sp := fun vs H Q _ => ∃ o k : Nat, vs = [vi o, vi k] ∧ ∀ H' q, Same H H' → H q = none → H' q = some (.tup ((joint o k).map vi)) → Q (.ref q) H'
theorem ok_joint (T : Tx K mg) : Cl P w K mg base "joint" 1 ["owner", "key"] spJoint := by
  refine Cl.of T.f_joint T.gl_joint sc_joint (fun _ _ _ _ _ _ us hl => match us, hl with | [_, _], _ => rfl) (fun vs H Q E h => ?_) (fun cdv A outer s H vs Q E hr h => ?_)
  · obtain ⟨o, k, rfl, _⟩ := h
    rfl
  · obtain ⟨o, k, rfl, q⟩ := h
    refine ⟨_, (pss_one (ps_ret (pe_ifExp (pt_cmpR op_eq (pv 0) (pv 1) (nomark _)) (pe_tup (pa_cons (pv 0) pa_nil)) (pe_tupleOf (by rfl) T.b_tuple (pe_callB cr_sorted (by rfl) T.b_sorted (by decide +kernel) (pa_cons (pe_lst (pa_cons (pv 0) (pa_cons (pv 1) pa_nil))) pa_nil)))))), ?_⟩
    refine ⟨_, rfl, _, rfl, rfl, _, rfl, ?_⟩
    refine ite2 (fun e => ?_) (fun e => ?_)
    · have e' : o = k := Int.ofNat.inj (V.int.inj (of_decide_eq_true e))
      refine ⟨_, rfl, by show 1 ≤ sizeLine; decide, fun p np => ?_⟩
      refine q _ p (same_upd np) np ?_
      rw [upd_same, e']
      unfold joint
      rw [if_pos rfl]
      rfl
    · have e' : o ≠ k := fun z => e (decide_eq_true (by rw [z]))
      refine ⟨_, rfl, _, rfl, by show 2 ≤ sizeLine; decide, fun p np => ?_⟩
      refine ⟨p, [(o : Int), (k : Int)], rfl, SqL.of upd_same, by show 2 < 64; decide, fun l l2 pm pw nl => ?_⟩
      refine .inl ⟨l2, _, rfl, SqL.of upd_same, fun r nr => ?_⟩
      have s2 : Same H (upd (upd H p (.lst [vi o, vi k])) l2 (.lst (l.map V.int))) := same_new (same_upd np) nl
      refine q _ r (same_new s2 nr) (s2.free nr) ?_
      rw [upd_same, sorted2 pm pw, joint_eq o k e']
      by_cases h : o ≤ k
      · rw [if_pos h, if_pos h]
        rfl
      · rw [if_neg h, if_neg h]
        rfl
abbrev N_done : List Str := ["self"]
theorem sc_done : FnScope N_done ["self"] (defScope m_done) := ⟨rfl, rfl, rfl, by decide +kernel, rfl, by decide +kernel, by decide +kernel⟩
def spSelf : Sp := fun vs H Q _ => ∃ p : V, vs = [p] ∧ Q .non H
theorem ok_done (T : Tx K mg) : Mt P w K mg base "done" 1 ["self"] spSelf := by
  refine Mt.of T.fm_done T.cl T.me_done sc_done (fun _ _ _ _ _ _ us hl => match us, hl with | [_], _ => rfl) (fun vs H Q E h => ?_) (fun cdv A outer s H vs Q E hr h => ?_)
  · obtain ⟨p, rfl, _⟩ := h
    rfl
  · obtain ⟨p, rfl, q⟩ := h
    exact ⟨_, (pss_one ps_pass), q⟩
abbrev N_come_in : List Str := ["self", "thing"]
theorem sc_come_in : FnScope N_come_in ["self", "thing"] (defScope m_come_in) := ⟨rfl, rfl, rfl, by decide +kernel, rfl, by decide +kernel, by decide +kernel⟩
def spSelf2 : Sp := fun vs H Q _ => ∃ p x : V, vs = [p, x] ∧ Q .non H
theorem ok_come_in (T : Tx K mg) : Mt P w K mg base "come_in" 1 ["self", "thing"] spSelf2 := by
  refine Mt.of T.fm_come_in T.cl T.me_come_in sc_come_in (fun _ _ _ _ _ _ us hl => match us, hl with | [_, _], _ => rfl) (fun vs H Q E h => ?_) (fun cdv A outer s H vs Q E hr h => ?_)
  · obtain ⟨p, x, rfl, _⟩ := h
    rfl
  · obtain ⟨p, x, rfl, q⟩ := h
    exact ⟨_, (pss_one ps_pass), q⟩
abbrev N_add_hold : List Str := ["self", "thing", "hold"]
theorem sc_add_hold : FnScope N_add_hold ["self", "thing", "hold"] (defScope m_add_hold) := ⟨rfl, rfl, rfl, by decide +kernel, rfl, by decide +kernel, by decide +kernel⟩
def spAddHold (K : PySem.W.Frag) : Sp := fun vs H Q _ => ∃ (dx : Addr) (α : SV) (s : PS) (t : Nat) (hd : Addr) (h : Hold), vs = [.ref (α .den), vi t, .ref hd] ∧ SA (stC K) dx α s H ∧ t < s.n ∧ H hd = some (.tup (h.map vi)) ∧ (s.K t).length < 100000 ∧
  ∀ H', SA (stC K) dx α (s.addK t h) H' → Chg (Foot α s) H H' → Q .non H'
theorem ok_add_hold (T : Tx K mg) : Mt P w K mg base "add_hold" 1 ["self", "thing", "hold"] (spAddHold K) := by
  refine Mt.of T.fm_add_hold T.cl T.me_add_hold sc_add_hold (fun _ _ _ _ _ _ us hl => match us, hl with | [_, _, _], _ => rfl) (fun vs H Q E h => ?_) (fun cdv A outer s H vs Q E hr h => ?_)
  · obtain ⟨dx, α, s, t, hd, hh, rfl, _⟩ := h
    rfl
  · obtain ⟨dx, α, s, t, hd, hh, rfl, a, ht, hH, hl, q⟩ := h
    have hu := hu_of hr
    refine ⟨_, (pss_one (ps_expr (pe_bm PySem.F.plainAttrs_list PySem.F.slot_list_append PySem.F.type_list_append mt_append (pe_dget hu (pe_fld (pv 0) rfl) (pv 1) (fun _ _ => rfl)) (pa_cons (pv 2) pa_nil)))), ?_⟩
    obtain ⟨es, e1, e2, e3⟩ := a.kpl ht
    have le : es.length = (s.K t).length := by rw [← e1, List.length_map]
    refine ⟨_, rfl, _, _, _, _, _, rfl, a.den, T.cl, T.n_kept, flds_kept _ _ _ _ _, _, rfl, _, _, rfl, dget_t a.kep ht, .inl ⟨rfl, _, SqL.of e2⟩, _, rfl, _, _, _, rfl, rfl, e2, ?_, ?_⟩
    · rw [List.length_map, le]
      exact Nat.lt_trans hl (by decide)
    · have n := a.newK ht (k := s.K t ++ [hh]) (es ++ [(hd, hh)]) (by rw [List.map_append, e1]; rfl) (by rw [List.length_append]; exact hl) (fun e he => ?_)
      · rw [List.map_append] at n
        exact q _ n ((Chg.of_same (Same.refl _)).upd (.inl ⟨.kpl t, ht, rfl⟩))
      · rcases List.mem_append.mp he with z | z
        · exact e3 e z
        · rw [List.mem_singleton.mp z]
          exact hH
abbrev N_end_hold : List Str := ["self", "thing", "hold"]
theorem sc_end_hold : FnScope N_end_hold ["self", "thing", "hold"] (defScope m_end_hold) := ⟨rfl, rfl, rfl, by decide +kernel, rfl, by decide +kernel, by decide +kernel⟩
def spEndHold (K : PySem.W.Frag) : Sp := fun vs H Q _ => ∃ (dx : Addr) (α : SV) (s : PS) (t : Nat) (hd : Addr) (h : Hold), vs = [.ref (α .den), vi t, .ref hd] ∧ SA (stC K) dx α s H ∧ t < s.n ∧ H hd = some (.tup (h.map vi)) ∧ h ∈ s.K t ∧
  ∀ H', SA (stC K) dx α (s.delK t h) H' → Chg (Foot α s) H H' → Q .non H'
theorem idx_first {l : List Hold} {h : Hold} {m : Nat} (hm : m < l.idxOf h) : l[m]? ≠ some h := by
  induction l generalizing m with
  | nil => simp
  | cons a l ih =>
    rw [List.idxOf_cons] at hm
    cases e : (a == h) with
    | true =>
      rw [e] at hm
      exact absurd hm (Nat.not_lt_zero _)
    | false =>
      rw [e] at hm
      have hm : m < l.idxOf h + 1 := hm
      cases m with
      | zero =>
        intro z
        have z2 : a = h := Option.some.inj z
        rw [z2, beq_self_eq_true] at e
        cases e
      | succ m =>
        have := ih (m := m) (by omega)
        simpa using this
theorem map_erase {α β : Type} (f : α → β) : ∀ (l : List α) (j : Nat), (l.eraseIdx j).map f = (l.map f).eraseIdx j
  | [], j => by simp
  | a :: r, 0 => by simp
  | a :: r, j + 1 => by simp [map_erase f r j]
theorem ok_end_hold (T : Tx K mg) : Mt P w K mg base "end_hold" 1 ["self", "thing", "hold"] (spEndHold K) := by
  refine Mt.of T.fm_end_hold T.cl T.me_end_hold sc_end_hold (fun _ _ _ _ _ _ us hl => match us, hl with | [_, _, _], _ => rfl) (fun vs H Q E h => ?_) (fun cdv A outer s H vs Q E hr h => ?_)
  · obtain ⟨dx, α, s, t, hd, hh, rfl, _⟩ := h
    rfl
  · obtain ⟨dx, α, s, t, hd, hh, rfl, a, ht, hH, hm, q⟩ := h
    have hu := hu_of hr
    have hu65 := hu65_of hr
    refine ⟨_, (pss_one (ps_expr (pe_bm PySem.F.plainAttrs_list PySem.F.slot_list_remove PySem.F.type_list_remove (mt_removeD hu65) (pe_dget hu (pe_fld (pv 0) rfl) (pv 1) (fun _ _ => rfl)) (pa_cons (pv 2) pa_nil)))), ?_⟩
    obtain ⟨es, e1, e2, e3⟩ := a.kpl ht
    have hj : (s.K t).idxOf hh < (s.K t).length := List.idxOf_lt_length_iff.mpr hm
    have gj : (s.K t)[(s.K t).idxOf hh]? = some hh := by rw [List.getElem?_eq_getElem hj, List.getElem_idxOf]
    refine ⟨_, rfl, _, _, _, _, _, rfl, a.den, T.cl, T.n_kept, flds_kept _ _ _ _ _, _, rfl, _, _, rfl, dget_t a.kep ht, .inl ⟨rfl, _, SqL.of e2⟩, _, rfl, _, _, _, dH hh, (s.K t).map dH, (s.K t).idxOf hh, dH hh, rfl, rfl, e2, ?_, dp_hold hH, dHs_shaped _, dH_shaped _, ?_, ?_, ?_, ?_⟩
    · have z := dp_holds (K := K) es e3
      rw [e1] at z
      exact z
    · rw [List.getElem?_map, gj]
      rfl
    · rw [eqv_dH]
      exact decide_eq_true rfl
    · intro m z' hm' hz
      rw [List.getElem?_map] at hz
      cases e : (s.K t)[m]? with
      | none =>
        rw [e] at hz
        cases hz
      | some x =>
        rw [e] at hz
        have hz : dH x = z' := Option.some.inj hz
        rw [← hz, eqv_dH]
        refine decide_eq_false fun z => idx_first hm' ?_
        rw [e, z]
    · have n := a.newK ht (k := (s.K t).erase hh) (es.eraseIdx ((s.K t).idxOf hh)) (by rw [map_erase, e1]; exact (List.erase_eq_eraseIdx_of_idxOf rfl).symm) (Nat.le_trans List.length_erase_le (a.sm t ht)) (fun e he => e3 e (List.mem_of_mem_eraseIdx he))
      rw [map_erase] at n
      exact q _ n ((Chg.of_same (Same.refl _)).upd (.inl ⟨.kpl t, ht, rfl⟩))
end
end Df
namespace Df
open PySem PySem.Spec PyProof.Rows L2
theorem vi_in {t : Nat} {l : List Nat} (h : t ∈ l) : inV (vi t) (l.map vi) = true := by
  unfold inV
  rw [List.any_map, List.any_eq_true]
  exact ⟨t, h, beq_self_eq_true (t : Int)⟩
theorem vi_inV {t : Nat} {l : List Nat} : inV (vi t) (l.map vi) = decide (t ∈ l) := by
  by_cases h : t ∈ l
  · rw [vi_in h, decide_eq_true h]
  · rw [decide_eq_false h]
    unfold inV
    rw [List.any_map, List.any_eq_false]
    intro y hy e
    have e2 : ((y : Int) == (t : Int)) = true := e
    have e3 : y = t := Int.ofNat.inj (eq_of_beq e2)
    exact h (e3 ▸ hy)
theorem flat_vi (l : List Nat) : (l.map vi).all flatV = true := by
  rw [List.all_map, List.all_eq_true]
  exact fun _ _ => rfl
/-- a sorted rearrangement of 0, 1, .. is that -/
theorem sorted_range : ∀ (n : Nat) (l : List Int), l.Perm ((List.range n).map fun (t : Nat) => (t : Int)) → l.Pairwise (· ≤ ·) → l = (List.range n).map fun (t : Nat) => (t : Int) := by
  intro n l p w
  refine List.Perm.eq_of_pairwise (le := fun a b : Int => a ≤ b) (fun a b _ _ h1 h2 => Int.le_antisymm h1 h2) w ?_ p
  rw [List.pairwise_map]
  refine List.pairwise_lt_range.imp fun h => ?_
  exact Int.ofNat_le.mpr (Nat.le_of_lt h)
section
variable {P : Program} {w : World} {K : PySem.W.Frag} {mg : Str → Option Value} {base : Heap}
abbrev N_holds_by : List Str := ["self", "owner", "row"]
theorem sc_holds_by : FnScope N_holds_by ["self", "owner", "row"] (defScope m_holds_by) := ⟨rfl, rfl, rfl, by decide +kernel, rfl, by decide +kernel, by decide +kernel⟩
/-- pairs of a thing and a hold, each a tuple of an int and a tuple of ints -/
def Prs (H : Hp) (l : Addr) (ps : List (Nat × Hold)) : Prop := ∃ es : List (Addr × Addr × Nat × Hold), es.map (·.2.2) = ps ∧ H l = some (.lst (es.map fun e => V.ref e.1)) ∧ ∀ e ∈ es, H e.1 = some (.tup [vi e.2.2.1, .ref e.2.1]) ∧ H e.2.1 = some (.tup (e.2.2.2.map vi))
def spHoldsBy : Sp := fun vs H Q _ => ∃ (p : V) (o : Nat) (r : Addr) (sl : Slot), vs = [p, vi o, .ref r] ∧ H r = some (.tup sl.v) ∧ ∀ H' l, Same H H' → H l = none → Prs H' l (sl.holds o) → Q (.ref l) H'
theorem ok_holds_by (T : Tx K mg) (h_joint : Cl P w K mg base "joint" 1 ["owner", "key"] spJoint) : Mt P w K mg base "holds_by" 2 ["self", "owner", "row"] spHoldsBy := by
  obtain ⟨t1, z_PLAIN⟩ := T.z_PLAIN
  obtain ⟨t2, z_KEYED⟩ := T.z_KEYED
  refine Mt.of T.fm_holds_by T.cl T.me_holds_by sc_holds_by (fun _ _ _ _ _ _ us hl => match us, hl with | [_, _, _], _ => rfl) (fun vs H Q E h => ?_) (fun cdv A outer s H vs Q E hr h => ?_)
  · obtain ⟨p, o, r, sl, rfl, _⟩ := h
    rfl
  · obtain ⟨p, o, r, sl, rfl, hH, q⟩ := h
    refine ⟨_, (pss_cons (ps_if (pt_cmpR op_eq (pe_ix ix_tup (pv 2) pe_int (fun _ _ => rfl)) (pe_glob rfl z_PLAIN (rel_str _ _)) (nomark _)) (pss_one (ps_ret (pe_lst (pa_cons (pe_tup (pa_cons (pe_ix ix_tup (pv 2) pe_int (fun _ _ => rfl)) (pa_cons (pe_tup (pa_cons (pv 1) pa_nil)) pa_nil))) pa_nil)))) pss_nil)
      (pss_one (ps_ret (pe_ifExp (pt_cmpR op_eq (pe_ix ix_tup (pv 2) pe_int (fun _ _ => rfl)) (pe_glob rfl z_KEYED (rel_str _ _)) (nomark _)) (pe_lst (pa_cons (pe_tup (pa_cons (pe_ix ix_tup (pv 2) pe_int (fun _ _ => rfl)) (pa_cons (pe_cl h_joint hr (pa_cons (pv 1) (pa_cons (pe_ix ix_tup (pv 2) pe_int (fun _ _ => rfl)) pa_nil))) pa_nil))) pa_nil)) (pe_lst pa_nil))))), ?_⟩
    cases sl with
    | pl t =>
      have hH : H r = some (.tup [.str "plain", vi t]) := hH
      refine ⟨_, rfl, _, _, _, _, rfl, rfl, SqT.of hH, rfl, rfl, _, rfl, ?_⟩
      refine iteT ?_
      refine ⟨_, rfl, _, _, _, _, rfl, rfl, SqT.of hH, rfl, _, rfl, by show 1 ≤ sizeLine; decide, fun a na => ?_⟩
      refine ⟨by show 2 ≤ sizeLine; decide, fun b nb => ?_⟩
      refine ⟨by show 1 ≤ sizeLine; decide, fun l nl => ?_⟩
      have s1 := same_upd (o := .tup [vi o]) na
      have s2 := same_new (o := .tup [vi t, .ref a]) s1 nb
      have s3 := same_new (o := .lst [.ref b]) s2 nl
      refine q _ l s3 (s2.free nl) ⟨[(b, a, t, [o])], rfl, upd_same, fun e he => ?_⟩
      rw [List.mem_singleton.mp he]
      have nlb : b ≠ l := ne_of_none (upd_same (H := upd H a (.tup [vi o]))) nl
      have nba : a ≠ b := ne_of_none (upd_same (H := H)) nb
      have nla : a ≠ l := ne_of_none (H := upd (upd H a (.tup [vi o])) b (.tup [vi t, .ref a])) (by rw [upd_ne nba]; exact upd_same) nl
      exact ⟨by rw [upd_ne nlb]; exact upd_same, by rw [upd_ne nla, upd_ne nba]; exact upd_same⟩
    | wk t =>
      have hH : H r = some (.tup [.str "weak", vi t]) := hH
      refine ⟨_, rfl, _, _, _, _, rfl, rfl, SqT.of hH, rfl, rfl, _, rfl, ?_⟩
      refine iteF ?_
      refine ⟨_, rfl, _, _, _, _, rfl, rfl, SqT.of hH, rfl, rfl, _, rfl, ?_⟩
      refine iteF ?_
      refine ⟨Nat.zero_le _, fun l nl => ?_⟩
      exact q _ l (same_upd nl) nl ⟨[], rfl, upd_same, fun e he => absurd he List.not_mem_nil⟩
    | ky k t =>
      have hH : H r = some (.tup [.str "keyed", vi k, vi t]) := hH
      refine ⟨_, rfl, _, _, _, _, rfl, rfl, SqT.of hH, rfl, rfl, _, rfl, ?_⟩
      refine iteF ?_
      refine ⟨_, rfl, _, _, _, _, rfl, rfl, SqT.of hH, rfl, rfl, _, rfl, ?_⟩
      refine iteT ?_
      refine ⟨_, rfl, _, _, _, _, rfl, rfl, SqT.of hH, rfl, _, rfl, _, rfl, _, _, _, _, rfl, rfl, SqT.of hH, rfl, o, k, rfl, fun H1 a s1 na ha => ?_⟩
      refine ⟨by show 2 ≤ sizeLine; decide, fun b nb => ?_⟩
      refine ⟨by show 1 ≤ sizeLine; decide, fun l nl => ?_⟩
      have s2 := same_new (o := .tup [vi t, .ref a]) s1 nb
      have s3 := same_new (o := .lst [.ref b]) s2 nl
      refine q _ l s3 (s2.free nl) ⟨[(b, a, t, joint o k)], rfl, upd_same, fun e he => ?_⟩
      rw [List.mem_singleton.mp he]
      have nlb : b ≠ l := ne_of_none (upd_same (H := H1)) nl
      have nba : a ≠ b := ne_of_none ha nb
      have nla : a ≠ l := ne_of_none (H := upd H1 b (.tup [vi t, .ref a])) (by rw [upd_ne nba]; exact ha) nl
      exact ⟨by rw [upd_ne nlb]; exact upd_same, by rw [upd_ne nla, upd_ne nba]; exact ha⟩
abbrev N_things : List Str := ["self"]
theorem sc_things : FnScope N_things ["self"] (defScope m_things) := ⟨rfl, rfl, rfl, by decide +kernel, rfl, by decide +kernel, by decide +kernel⟩
def spThings (K : PySem.W.Frag) : Sp := fun vs H Q _ => ∃ (dx : Addr) (α : SV) (s : PS), vs = [.ref (α .den)] ∧ SA (stC K) dx α s H ∧ s.n ≤ 40 ∧ ∀ H' l, Same H H' → H l = none → H' l = some (.lst ((List.range s.n).map vi)) → Q (.ref l) H'
theorem ok_things (T : Tx K mg) : Mt P w K mg base "things" 1 ["self"] (spThings K) := by
  refine Mt.of T.fm_things T.cl T.me_things sc_things (fun _ _ _ _ _ _ us hl => match us, hl with | [_], _ => rfl) (fun vs H Q E h => ?_) (fun cdv A outer s H vs Q E hr h => ?_)
  · obtain ⟨dx, α, s, rfl, _⟩ := h
    rfl
  · obtain ⟨dx, α, s, rfl, a, hn, q⟩ := h
    refine ⟨_, (pss_one (ps_ret (pe_callB (call_sortedDI rfl) (by rfl) T.b_sorted (by decide +kernel) (pa_cons (pe_fld (pv 0) rfl) pa_nil)))), ?_⟩
    refine ⟨_, rfl, _, _, _, _, _, rfl, a.den, T.cl, T.n_filled, flds_filled _ _ _ _ _, _, _, (List.range s.n).map fun (t : Nat) => (t : Int), rfl, .inl a.fil, ?_, ?_, fun ys l pm pw nl => ?_⟩
    · unfold kT
      rw [List.map_map, List.map_map]
      rfl
    · rw [List.length_map, List.length_range]
      omega
    · refine q _ l (same_upd nl) nl ?_
      rw [upd_same, sorted_range _ _ pm pw, List.map_map]
      rfl
abbrev N_has_thing : List Str := ["self", "thing"]
theorem sc_has_thing : FnScope N_has_thing ["self", "thing"] (defScope m_has_thing) := ⟨rfl, rfl, rfl, by decide +kernel, rfl, by decide +kernel, by decide +kernel⟩
def spHas (K : PySem.W.Frag) : Sp := fun vs H Q _ => ∃ (dx : Addr) (α : SV) (s : PS) (t : Nat), vs = [.ref (α .den), vi t] ∧ SA (stC K) dx α s H ∧ t < s.n ∧ Q (.bl true) H
theorem ok_has_thing (T : Tx K mg) (h_is_count : Cl P w K mg base "is_count" 2 ["thing"] spCount) : Mt P w K mg base "has_thing" 3 ["self", "thing"] (spHas K) := by
  refine Mt.of T.fm_has_thing T.cl T.me_has_thing sc_has_thing (fun _ _ _ _ _ _ us hl => match us, hl with | [_, _], _ => rfl) (fun vs H Q E h => ?_) (fun cdv A outer s H vs Q E hr h => ?_)
  · obtain ⟨dx, α, s, t, rfl, _⟩ := h
    rfl
  · obtain ⟨dx, α, s, t, rfl, a, ht, q⟩ := h
    have hu := hu_of hr
    refine ⟨_, (pss_one (ps_ret (pe_and (pe_cl h_is_count hr (pa_cons (pv 1) pa_nil)) (pe_one (pe_cmp (pc_din hu (pv 1) (pe_fld (pv 0) rfl))))))), ?_⟩
    exact ⟨_, rfl, _, rfl, Int.natCast_nonneg t, true, rfl, iteT ⟨_, rfl, _, rfl, _, _, _, _, _, rfl, a.den, T.cl, T.n_filled, flds_filled _ _ _ _ _, _, _, rfl, dget_t a.fil ht, q⟩⟩
abbrev N_want_thing : List Str := ["self", "thing"]
theorem sc_want_thing : FnScope N_want_thing ["self", "thing"] (defScope m_want_thing) := ⟨rfl, rfl, rfl, by decide +kernel, rfl, by decide +kernel, by decide +kernel⟩
def spWThing (K : PySem.W.Frag) : Sp := fun vs H Q _ => ∃ (dx : Addr) (α : SV) (s : PS) (t : Nat), vs = [.ref (α .den), vi t] ∧ SA (stC K) dx α s H ∧ t < s.n ∧ Q .non H
theorem nomt {α : SV} {s : PS} {m : Str} (h1 : ¬ m = "rows" := by decide +kernel) (h2 : ¬ m = "filled" := by decide +kernel) (h3 : ¬ m = "last" := by decide +kernel) (h4 : ¬ m = "kept" := by decide +kernel) (h5 : ¬ m = "many" := by decide +kernel) : (flds (α .rows) (α .fil) (α .las) (α .kep) s.n).lookup m = none := by
  unfold flds
  simp only [List.lookup, beq_eq_false_iff_ne.mpr h1, beq_eq_false_iff_ne.mpr h2, beq_eq_false_iff_ne.mpr h3, beq_eq_false_iff_ne.mpr h4, beq_eq_false_iff_ne.mpr h5]
theorem ok_want_thing (T : Tx K mg) (h_has_thing : Mt P w K mg base "has_thing" 3 ["self", "thing"] (spHas K)) : Mt P w K mg base "want_thing" 4 ["self", "thing"] (spWThing K) := by
  refine Mt.of T.fm_want_thing T.cl T.me_want_thing sc_want_thing (fun _ _ _ _ _ _ us hl => match us, hl with | [_, _], _ => rfl) (fun vs H Q E h => ?_) (fun cdv A outer s H vs Q E hr h => ?_)
  · obtain ⟨dx, α, s, t, rfl, _⟩ := h
    rfl
  · obtain ⟨dx, α, s, t, rfl, a, ht, q⟩ := h
    refine ⟨_, (pss_one (ps_if (pt_not (pt_val (pe_mt h_has_thing hr (pv 0) (pa_cons (pv 1) pa_nil)))) (pss_one ps_never) pss_nil)), ?_⟩
    refine ⟨_, rfl, _, _, _, rfl, a.den, nomt, _, rfl, dx, α, s, t, rfl, a, ht, true, rfl, ?_⟩
    refine iteF ?_
    exact q
abbrev N_want_hand : List Str := ["self", "hand"]
theorem sc_want_hand : FnScope N_want_hand ["self", "hand"] (defScope m_want_hand) := ⟨rfl, rfl, rfl, by decide +kernel, rfl, by decide +kernel, by decide +kernel⟩
def spWHand (K : PySem.W.Frag) : Sp := fun vs H Q _ => ∃ (dx : Addr) (α : SV) (s : PS) (h : Str), vs = [.ref (α .den), .str h] ∧ SA (stC K) dx α s H ∧ h ∈ s.hs ∧ NameOk h ∧ ∀ H', Same H H' → Q .non H'
theorem ok_want_hand (T : Tx K mg) (h_is_name : Cl P w K mg base "is_name" 1 ["thing"] spName) : Mt P w K mg base "want_hand" 2 ["self", "hand"] (spWHand K) := by
  refine Mt.of T.fm_want_hand T.cl T.me_want_hand sc_want_hand (fun _ _ _ _ _ _ us hl => match us, hl with | [_, _], _ => rfl) (fun vs H Q E h => ?_) (fun cdv A outer s H vs Q E hr h => ?_)
  · obtain ⟨dx, α, s, h, rfl, _⟩ := h
    rfl
  · obtain ⟨dx, α, s, h, rfl, a, hh, hN, q⟩ := h
    have hu := hu_of hr
    refine ⟨_, (pss_one (ps_if (PW.pt (pw_or (pt_not (pt_val (pe_cl h_is_name hr (pa_cons (pv 1) pa_nil)))) (pw_or1 (pt_cmp (pc_dnotin hu (pv 1) (pe_fld (pv 0) rfl)))))) (pss_one ps_never) pss_nil)), ?_⟩
    refine ⟨_, rfl, _, rfl, hN, fun H1 s1 => ⟨true, rfl, ?_⟩⟩
    refine iteF ?_
    have a1 := a.same s1
    refine ⟨_, rfl, _, rfl, _, _, _, _, _, rfl, a1.den, T.cl, T.n_rows, flds_rows _ _ _ _ _, _, _, rfl, dget_row a1.rows hh, _, rfl, ?_⟩
    refine iteF ?_
    exact q H1 s1
abbrev N_want_had : List Str := ["self", "hand", "thing"]
theorem sc_want_had : FnScope N_want_had ["self", "hand", "thing"] (defScope m_want_had) := ⟨rfl, rfl, rfl, by decide +kernel, rfl, by decide +kernel, by decide +kernel⟩
def spWHad (K : PySem.W.Frag) : Sp := fun vs H Q _ => ∃ (dx : Addr) (α : SV) (s : PS) (h : Str) (t : Nat), vs = [.ref (α .den), .str h, vi t] ∧ SA (stC K) dx α s H ∧ h ∈ s.hs ∧ t ∈ s.R h ∧ Q .non H
theorem ok_want_had (T : Tx K mg) (h_is_count : Cl P w K mg base "is_count" 2 ["thing"] spCount) : Mt P w K mg base "want_had" 3 ["self", "hand", "thing"] (spWHad K) := by
  refine Mt.of T.fm_want_had T.cl T.me_want_had sc_want_had (fun _ _ _ _ _ _ us hl => match us, hl with | [_, _, _], _ => rfl) (fun vs H Q E h => ?_) (fun cdv A outer s H vs Q E hr h => ?_)
  · obtain ⟨dx, α, s, h, t, rfl, _⟩ := h
    rfl
  · obtain ⟨dx, α, s, h, t, rfl, a, hh, ht, q⟩ := h
    have hu := hu_of hr
    refine ⟨_, (pss_one (ps_if (PW.pt (pw_or (pt_not (pt_val (pe_cl h_is_count hr (pa_cons (pv 2) pa_nil)))) (pw_or1 (pt_cmpR op_notIn_seq (pv 2) (pe_dget hu (pe_fld (pv 0) rfl) (pv 1) (fun _ _ => rfl)) rfl)))) (pss_one ps_never) pss_nil)), ?_⟩
    refine ⟨_, rfl, _, rfl, Int.natCast_nonneg t, true, rfl, ?_⟩
    refine iteF ?_
    refine ⟨_, rfl, _, rfl, _, _, _, _, _, rfl, a.den, T.cl, T.n_rows, flds_rows _ _ _ _ _, _, rfl, _, _, rfl, dget_row a.rows hh, _, _, rfl, .inl (SqL.of (a.row hh)), rfl, flat_vi _, _, rfl, ?_⟩
    rw [vi_in ht]
    refine iteF ?_
    exact q
abbrev N_want_room : List Str := ["self", "hand"]
theorem sc_want_room : FnScope N_want_room ["self", "hand"] (defScope m_want_room) := ⟨rfl, rfl, rfl, by decide +kernel, rfl, by decide +kernel, by decide +kernel⟩
def spWRoom (K : PySem.W.Frag) : Sp := fun vs H Q _ => ∃ (dx : Addr) (α : SV) (s : PS) (h : Str), vs = [.ref (α .den), .str h] ∧ SA (stC K) dx α s H ∧ h ∈ s.hs ∧ (s.R h).length < 30 ∧ Q .non H
theorem ok_want_room (T : Tx K mg) : Mt P w K mg base "want_room" 1 ["self", "hand"] (spWRoom K) := by
  obtain ⟨t1, z_MOST_HAD⟩ := T.i_MOST_HAD
  refine Mt.of T.fm_want_room T.cl T.me_want_room sc_want_room (fun _ _ _ _ _ _ us hl => match us, hl with | [_, _], _ => rfl) (fun vs H Q E h => ?_) (fun cdv A outer s H vs Q E hr h => ?_)
  · obtain ⟨dx, α, s, h, rfl, _⟩ := h
    rfl
  · obtain ⟨dx, α, s, h, rfl, a, hh, hl, q⟩ := h
    have hu := hu_of hr
    refine ⟨_, (pss_one (ps_if (pt_cmpR op_ge (pe_callB call_len_seq (by rfl) T.b_len (by decide +kernel) (pa_cons (pe_dget hu (pe_fld (pv 0) rfl) (pv 1) (fun _ _ => rfl)) pa_nil)) (pe_glob rfl z_MOST_HAD (rel_int _ _)) (nomark _)) (pss_one ps_never) pss_nil)), ?_⟩
    refine ⟨_, rfl, _, _, _, _, _, rfl, a.den, T.cl, T.n_rows, flds_rows _ _ _ _ _, _, rfl, _, _, rfl, dget_row a.rows hh, _, _, rfl, .inl (SqL.of (a.row hh)), _, _, rfl, rfl, _, rfl, ?_⟩
    have e : decide ((((s.R h).map vi).length : Int) ≥ 30) = false := decide_eq_false (by rw [List.length_map]; omega)
    rw [e]
    refine iteF ?_
    exact q
abbrev N_want_owner : List Str := ["self", "hand", "owner", "slot"]
theorem sc_want_owner : FnScope N_want_owner ["self", "hand", "owner", "slot"] (defScope m_want_owner) := ⟨rfl, rfl, rfl, by decide +kernel, rfl, by decide +kernel, by decide +kernel⟩
def spWOwner (K : PySem.W.Frag) : Sp := fun vs H Q _ => ∃ (dx : Addr) (α : SV) (s : PS) (h : Str) (o : Nat) (k : Str), vs = [.ref (α .den), .str h, vi o, .str k] ∧ SA (stC K) dx α s H ∧ h ∈ s.hs ∧ NameOk h ∧ o ∈ s.R h ∧ NameOk k ∧ ∀ H', Same H H' → Q .non H'
theorem ok_want_owner (T : Tx K mg) (h_want_hand : Mt P w K mg base "want_hand" 2 ["self", "hand"] (spWHand K)) (h_want_had : Mt P w K mg base "want_had" 3 ["self", "hand", "thing"] (spWHad K)) (h_want_name : Cl P w K mg base "want_name" 2 ["thing"] spWName) :
    Mt P w K mg base "want_owner" 4 ["self", "hand", "owner", "slot"] (spWOwner K) := by
  refine Mt.of T.fm_want_owner T.cl T.me_want_owner sc_want_owner (fun _ _ _ _ _ _ us hl => match us, hl with | [_, _, _, _], _ => rfl) (fun vs H Q E h => ?_) (fun cdv A outer s H vs Q E hr h => ?_)
  · obtain ⟨dx, α, s, h, o, k, rfl, _⟩ := h
    rfl
  · obtain ⟨dx, α, s, h, o, k, rfl, a, hh, hN, ho, hk, q⟩ := h
    refine ⟨_, (pss_cons (ps_expr (pe_mt h_want_hand hr (pv 0) (pa_cons (pv 1) pa_nil)))
      (pss_cons (ps_expr (pe_mt h_want_had hr (pv 0) (pa_cons (pv 1) (pa_cons (pv 2) pa_nil))))
      (pss_one (ps_expr (pe_cl h_want_name hr (pa_cons (pv 3) pa_nil)))))), ?_⟩
    refine ⟨_, rfl, _, _, _, rfl, a.den, nomt, _, rfl, dx, α, s, h, rfl, a, hh, hN, fun H1 s1 => ?_⟩
    have a1 := a.same s1
    refine ⟨_, rfl, _, _, _, rfl, a1.den, nomt, _, rfl, _, rfl, dx, α, s, h, o, rfl, a1, hh, ho, ?_⟩
    exact ⟨_, rfl, k, rfl, hk, fun H2 s2 => q H2 (s1.trans s2)⟩
abbrev N_have : List Str := ["self", "hand", "thing"]
theorem sc_have : FnScope N_have ["self", "hand", "thing"] (defScope m_have) := ⟨rfl, rfl, rfl, by decide +kernel, rfl, by decide +kernel, by decide +kernel⟩
def spHave (K : PySem.W.Frag) : Sp := fun vs H Q _ => ∃ (dx : Addr) (α : SV) (s : PS) (h : Str) (t : Nat), vs = [.ref (α .den), .str h, vi t] ∧ SA (stC K) dx α s H ∧ h ∈ s.hs ∧ t < s.n ∧ (s.R h).length ≤ 1000 ∧ (s.K t).length < 100000 ∧
  ∀ H', SA (stC K) dx α (s.have_ h t) H' → Chg (Foot α s) H H' → Q .non H'
theorem ok_have (T : Tx K mg) (h_add_hold : Mt P w K mg base "add_hold" 1 ["self", "thing", "hold"] (spAddHold K)) : Mt P w K mg base "have" 2 ["self", "hand", "thing"] (spHave K) := by
  refine Mt.of T.fm_have T.cl T.me_have sc_have (fun _ _ _ _ _ _ us hl => match us, hl with | [_, _, _], _ => rfl) (fun vs H Q E h => ?_) (fun cdv A outer s H vs Q E hr h => ?_)
  · obtain ⟨dx, α, s, h, t, rfl, _⟩ := h
    rfl
  · obtain ⟨dx, α, s, h, t, rfl, a, hh, ht, hl, hk, q⟩ := h
    have hu := hu_of hr
    refine ⟨_, (pss_cons (ps_expr (pe_bm PySem.F.plainAttrs_list PySem.F.slot_list_append PySem.F.type_list_append mt_append (pe_dget hu (pe_fld (pv 0) rfl) (pv 1) (fun _ _ => rfl)) (pa_cons (pv 2) pa_nil)))
      (pss_one (ps_expr (pe_mt h_add_hold hr (pv 0) (pa_cons (pv 2) (pa_cons (pe_tup pa_nil) pa_nil)))))), ?_⟩
    refine ⟨_, rfl, _, _, _, _, _, rfl, a.den, T.cl, T.n_rows, flds_rows _ _ _ _ _, _, rfl, _, _, rfl, dget_row a.rows hh, .inl ⟨rfl, _, SqL.of (a.row hh)⟩, _, rfl, _, _, _, rfl, rfl, a.row hh, ?_, ?_⟩
    · rw [List.length_map]
      exact small1000 hl
    · have a1 := a.newR hh (s.R h ++ [t])
      rw [List.map_append] at a1
      refine ⟨_, rfl, _, _, _, rfl, a1.den, nomt, _, rfl, Nat.zero_le _, fun p np => ?_⟩
      refine ⟨dx, α, s.setR h (s.R h ++ [t]), t, p, [], rfl, a1.same (same_upd np), ht, upd_same, hk, fun H2 a2 c2 => ?_⟩
      refine q H2 a2 (Chg.trans ?_ c2)
      exact (Chg.upd (Chg.of_same (Same.refl _)) (.inl ⟨.row h, hh, rfl⟩)).same (same_upd np)
end
end Df
namespace Df
open PySem PySem.Spec PyProof.Rows L2
/-! ### plain -/
theorem erase_back {α : Type} (l : List α) (j : Nat) (h : j < l.length) : (l.reverse.eraseIdx j).reverse = l.eraseIdx (l.length - 1 - j) := by
  rw [List.eraseIdx_eq_take_drop_succ, List.eraseIdx_eq_take_drop_succ, List.reverse_append, List.drop_reverse, List.take_reverse, List.reverse_reverse, List.reverse_reverse]
  rw [show l.length - (j + 1) = l.length - 1 - j by omega, show l.length - j = l.length - 1 - j + 1 by omega]
theorem lessL_eq {l : List Nat} {t : Nat} (h : t ∈ l) : lessL l t = l.eraseIdx (l.length - 1 - l.reverse.idxOf t) := by
  have hj : l.reverse.idxOf t < l.length := by
    have := List.idxOf_lt_length_iff.mpr (List.mem_reverse.mpr h)
    rwa [List.length_reverse] at this
  unfold lessL
  rw [List.erase_eq_eraseIdx_of_idxOf rfl, erase_back l _ hj]
theorem idx_firstN {l : List Nat} {h : Nat} {m : Nat} (hm : m < l.idxOf h) : l[m]? ≠ some h := by
  induction l generalizing m with
  | nil => simp
  | cons a l ih =>
    rw [List.idxOf_cons] at hm
    cases e : (a == h) with
    | true =>
      rw [e] at hm
      exact absurd hm (Nat.not_lt_zero _)
    | false =>
      rw [e] at hm
      have hm : m < l.idxOf h + 1 := hm
      cases m with
      | zero =>
        intro z
        have z2 : a = h := Option.some.inj z
        rw [z2, beq_self_eq_true] at e
        cases e
      | succ m =>
        have := ih (m := m) (by omega)
        simpa using this
theorem delAll_n : ∀ (l : List (Nat × Hold)) (s : PS), (s.delAll l).n = s.n ∧ (s.delAll l).hs = s.hs ∧ (s.delAll l).R = s.R ∧ (s.delAll l).S = s.S
  | [], _ => ⟨rfl, rfl, rfl, rfl⟩
  | e :: l, s => delAll_n l (s.delK e.1 e.2)
theorem addAll_n : ∀ (l : List (Nat × Hold)) (s : PS), (s.addAll l).n = s.n ∧ (s.addAll l).hs = s.hs ∧ (s.addAll l).R = s.R ∧ (s.addAll l).S = s.S
  | [], _ => ⟨rfl, rfl, rfl, rfl⟩
  | e :: l, s => addAll_n l (s.addK e.1 e.2)
theorem holds_le1 (o : Nat) (sl : Slot) : (sl.holds o).length ≤ 1 := by
  cases sl <;> first | exact Nat.le_refl _ | exact Nat.zero_le _
theorem clear_n (s : PS) (o : Nat) (k : Str) : (s.clear o k).n = s.n ∧ (s.clear o k).hs = s.hs ∧ (s.clear o k).R = s.R := by
  unfold PS.clear
  cases look (s.S o) k with
  | none => exact ⟨rfl, rfl, rfl⟩
  | some sl =>
    obtain ⟨h1, h2, h3, _⟩ := delAll_n (sl.holds o) (s.setS o (dropS (s.S o) k))
    exact ⟨h1, h2, h3⟩
theorem look_drop : ∀ (l : List (Str × Slot)) (k : Str), look (dropS l k) k = none
  | [], _ => rfl
  | (x, sl) :: l, k => by
    have ih := look_drop l k
    by_cases h : x = k
    · simp only [dropS, List.filter_cons, h] at ih ⊢
      simpa using ih
    · have e : dropS ((x, sl) :: l) k = (x, sl) :: dropS l k := by simp [dropS, List.filter_cons, h]
      rw [e]
      simp only [look, List.find?_cons, h, decide_false]
      exact ih
theorem look_clear (s : PS) (o : Nat) (k : Str) : look ((s.clear o k).S o) k = none := by
  unfold PS.clear
  cases e : look (s.S o) k with
  | none => exact e
  | some sl =>
    show look (((s.setS o (dropS (s.S o) k)).delAll (sl.holds o)).S o) k = none
    rw [(delAll_n _ _).2.2.2]
    show look (fset s.S o (dropS (s.S o) k) o) k = none
    rw [fset_same]
    exact look_drop _ _
theorem delK_le {s : PS} {t u : Nat} {h : Hold} : ((s.delK t h).K u).length ≤ (s.K u).length := by
  unfold PS.delK fset
  show (if u = t then (s.K t).erase h else s.K u).length ≤ _
  split
  · rename_i e
    rw [e]
    exact List.length_erase_le
  · exact Nat.le_refl _
theorem delAll_le : ∀ (l : List (Nat × Hold)) (s : PS) (u : Nat), ((s.delAll l).K u).length ≤ (s.K u).length
  | [], _, _ => Nat.le_refl _
  | e :: l, s, u => Nat.le_trans (delAll_le l (s.delK e.1 e.2) u) delK_le
theorem clear_le (s : PS) (o : Nat) (k : Str) (u : Nat) : ((s.clear o k).K u).length ≤ (s.K u).length := by
  unfold PS.clear
  cases look (s.S o) k with
  | none => exact Nat.le_refl _
  | some sl => exact delAll_le (sl.holds o) (s.setS o (dropS (s.S o) k)) u
/-- a slot's row may be cleared: what it holds is among the holds -/
def Clr (s : PS) (o : Nat) (k : Str) : Prop := ∀ sl, look (s.S o) k = some sl → ∀ e ∈ sl.holds o, e.1 < s.n ∧ e.2 ∈ s.K e.1
theorem foot_eq {α : SV} {s s' : PS} (h1 : s'.hs = s.hs) (h2 : s'.n = s.n) (c : Addr) : Foot α s' c ↔ Foot α s c := by
  unfold Foot
  rw [h1, h2]
theorem Chg.foot {α : SV} {s s' : PS} {H H' : Hp} (h1 : s'.hs = s.hs) (h2 : s'.n = s.n) (c : Chg (Foot α s') H H') : Chg (Foot α s) H H' := fun a o e n => c a o e fun f => n ((foot_eq h1 h2 a).mp f)
theorem Prs.keep {F : Addr → Prop} {H H' : Hp} {l : Addr} {ps : List (Nat × Hold)} (h : Prs H l ps) (c : Chg F H H') (nl : ¬ F l) (nt : ∀ a xs, H a = some (.tup xs) → ¬ F a) : Prs H' l ps := by
  obtain ⟨es, e1, e2, e3⟩ := h
  exact ⟨es, e1, c _ _ e2 nl, fun e he => ⟨c _ _ (e3 e he).1 (nt _ _ (e3 e he).1), c _ _ (e3 e he).2 (nt _ _ (e3 e he).2)⟩⟩
theorem SA.not_foot {C dx : Addr} {α : SV} {s : PS} {H : Hp} (A : SA C dx α s H) {l : Addr} (h : H l = none) : ¬ Foot α s l := fun ⟨r, hr, e⟩ => by
  obtain ⟨o, h1, _⟩ := A.at_ r hr
  rw [e, h] at h1
  cases h1
section
variable {P : Program} {w : World} {K : PySem.W.Frag} {mg : Str → Option Value} {base : Heap}
abbrev N_lose : List Str := ["self", "hand", "thing", "row"]
theorem sc_lose : FnScope N_lose ["self", "hand", "thing"] (defScope m_lose) := ⟨rfl, rfl, rfl, by decide +kernel, rfl, by decide +kernel, by decide +kernel⟩
def spLose (K : PySem.W.Frag) : Sp := fun vs H Q _ => ∃ (dx : Addr) (α : SV) (s : PS) (h : Str) (t : Nat), vs = [.ref (α .den), .str h, vi t] ∧ SA (stC K) dx α s H ∧ h ∈ s.hs ∧ t < s.n ∧ t ∈ s.R h ∧ (s.R h).length ≤ 1000 ∧ [] ∈ s.K t ∧
  ∀ H', SA (stC K) dx α (s.lose h t) H' → Chg (Foot α s) H H' → Q .non H'
theorem ok_lose (T : Tx K mg) (h_end_hold : Mt P w K mg base "end_hold" 1 ["self", "thing", "hold"] (spEndHold K)) : Mt P w K mg base "lose" 2 ["self", "hand", "thing"] (spLose K) := by
  refine Mt.of T.fm_lose T.cl T.me_lose sc_lose (fun _ _ _ _ _ _ us hl => match us, hl with | [_, _, _], _ => rfl) (fun vs H Q E h => ?_) (fun cdv A outer s H vs Q E hr h => ?_)
  · obtain ⟨dx, α, s, h, t, rfl, _⟩ := h
    rfl
  · obtain ⟨dx, α, s, h, t, rfl, a, hh, ht, hm, hl, hk, q⟩ := h
    have hu := hu_of hr
    refine ⟨_, (pss_cons (ps_set (i := 3) sc_lose.nd rfl (Or.inl rfl) (pe_dget hu (pe_fld (pv 0) rfl) (pv 1) (fun _ _ => rfl)))
      (pss_cons (ps_delL (pv 3) (pe_op op_sub (pe_op op_sub (pe_callB call_len_seq (by rfl) T.b_len (by decide +kernel) (pa_cons (pv 3) pa_nil)) pe_int) (pe_bm PySem.F.plainAttrs_list PySem.F.slot_list_index PySem.F.type_list_index mt_index (pe_revL (pv 3)) (pa_cons (pv 2) pa_nil))))
      (pss_one (ps_expr (pe_mt h_end_hold hr (pv 0) (pa_cons (pv 2) (pa_cons (pe_tup pa_nil) pa_nil))))))), ?_⟩
    have hj : (s.R h).reverse.idxOf t < (s.R h).length := by
      have := List.idxOf_lt_length_iff.mpr (List.mem_reverse.mpr hm)
      rwa [List.length_reverse] at this
    have gj : (s.R h).reverse[(s.R h).reverse.idxOf t]? = some t := by
      rw [List.getElem?_eq_getElem (by rw [List.length_reverse]; exact hj), List.getElem_idxOf]
    have rrow := a.row hh
    refine ⟨_, rfl, _, _, _, _, _, rfl, a.den, T.cl, T.n_rows, flds_rows _ _ _ _ _, _, rfl, _, _, rfl, dget_row a.rows hh, ?_⟩
    refine ⟨_, rfl, _, rfl, _, _, rfl, .inl (SqL.of rrow), _, _, rfl, rfl, _, rfl, _, _, rfl, SqL.of rrow, fun p np => ?_⟩
    have nrp : α (.row h) ≠ p := ne_of_none rrow np
    refine ⟨.inl ⟨rfl, _, SqL.of upd_same⟩, _, rfl, p, _, _, (s.R h).reverse.idxOf t, vi t, rfl, rfl, SqL.of upd_same, rfl, ?_, ?_, ?_, ?_, _, _, rfl, rfl, _, (s.R h).map vi, _, (s.R h).length - 1 - (s.R h).reverse.idxOf t, rfl, rfl, ?_, ?_, ?_, ?_, ?_⟩
    · rw [← List.map_reverse]
      exact flat_vi _
    · rw [← List.map_reverse, List.getElem?_map, gj]
      rfl
    · exact beq_self_eq_true (t : Int)
    · intro m z' hm' hz
      rw [← List.map_reverse, List.getElem?_map] at hz
      cases e : (s.R h).reverse[m]? with
      | none =>
        rw [e] at hz
        cases hz
      | some x =>
        rw [e] at hz
        have hz : vi x = z' := Option.some.inj hz
        rw [← hz]
        refine beq_eq_false_iff_ne.mpr fun z => idx_firstN hm' ?_
        rw [e, Int.ofNat.inj z]
    · rw [upd_ne nrp]
      exact rrow
    · rw [List.length_map]
      omega
    · rw [List.length_map]
      omega
    · rw [List.length_map]
      have e : (((s.R h).length : Int) - 1 - (((s.R h).reverse.idxOf t : Nat) : Int)) = (((s.R h).length - 1 - (s.R h).reverse.idxOf t : Nat) : Int) := by omega
      rw [e]
      unfold seqIndex?
      have n1 : ¬ ((((s.R h).length - 1 - (s.R h).reverse.idxOf t : Nat) : Int) < 0) := by omega
      simp only [n1, if_false]
      rw [if_pos (by simp only [Bool.and_eq_true, decide_eq_true_eq]; omega)]
      rfl
    · have a0 := a.same (same_upd (o := .lst ((s.R h).map vi).reverse) np)
      have a1 := a0.newR hh (lessL (s.R h) t)
      rw [lessL_eq hm, map_erase, ← lessL_eq hm] at a1
      refine ⟨_, rfl, _, _, _, rfl, a1.den, nomt, _, rfl, Nat.zero_le _, fun p2 np2 => ?_⟩
      refine ⟨dx, α, s.setR h (lessL (s.R h) t), t, p2, [], rfl, a1.same (same_upd np2), ht, upd_same, hk, fun H2 a2 c2 => ?_⟩
      refine q H2 a2 (Chg.trans ?_ c2)
      exact (Chg.upd (Chg.of_same (same_upd np)) (.inl ⟨.row h, hh, rfl⟩)).same (same_upd np2)
abbrev N_clear_slot : List Str := ["self", "owner", "slot", "thing", "hold"]
theorem sc_clear_slot : FnScope N_clear_slot ["self", "owner", "slot"] (defScope m_clear_slot) := ⟨rfl, rfl, rfl, by decide +kernel, rfl, by decide +kernel, by decide +kernel⟩
def spClear (K : PySem.W.Frag) : Sp := fun vs H Q _ => ∃ (dx : Addr) (α : SV) (s : PS) (o : Nat) (k : Str), vs = [.ref (α .den), vi o, .str k] ∧ SA (stC K) dx α s H ∧ o < s.n ∧ Clr s o k ∧
  ∀ H', SA (stC K) dx α (s.clear o k) H' → Chg (Foot α s) H H' → Q .non H'
theorem ok_clear_slot (T : Tx K mg) (h_end_hold : Mt P w K mg base "end_hold" 1 ["self", "thing", "hold"] (spEndHold K)) (h_holds_by : Mt P w K mg base "holds_by" 2 ["self", "owner", "row"] spHoldsBy) : Mt P w K mg base "clear_slot" 3 ["self", "owner", "slot"] (spClear K) := by
  refine Mt.of T.fm_clear_slot T.cl T.me_clear_slot sc_clear_slot (fun _ _ _ _ _ _ us hl => match us, hl with | [_, _, _], _ => rfl) (fun vs H Q E h => ?_) (fun cdv A outer s H vs Q E hr h => ?_)
  · obtain ⟨dx, α, s, o, k, rfl, _⟩ := h
    rfl
  · obtain ⟨dx, α, s, o, k, rfl, a, ho, hc, q⟩ := h
    have hu := hu_of hr
    refine ⟨_, (pss_one (ps_if (pt_cmp (pc_din hu (pv 2) (pe_dget hu (pe_fld (pv 0) rfl) (pv 1) (fun _ _ => rfl)))) (pss_one (ps_for PassesOwn.never rfl (pi_list (pe_mt h_holds_by hr (pv 0) (pa_cons (pv 1) (pa_cons (pe_dpop1 (pe_dget hu (pe_fld (pv 0) rfl) (pv 1) (fun _ _ => rfl)) (pv 2) ⟨rfl, rfl, rfl, rfl⟩) pa_nil)))) (pg_tup (by rfl) (pgs_cons (pg_name (i := 3) sc_clear_slot.nd rfl (Or.inl rfl)) (pgs_cons (pg_name (i := 4) sc_clear_slot.nd rfl (Or.inl rfl)) pgs_nil))) (pss_one (ps_expr (pe_mt h_end_hold hr (pv 0) (pa_cons (pv 3) (pa_cons (pv 4) pa_nil))))))) pss_nil)), ?_⟩
    obtain ⟨es, e1, e2, e3⟩ := a.slo ho
    refine ⟨_, rfl, _, rfl, _, _, _, _, _, rfl, a.den, T.cl, T.n_filled, flds_filled _ _ _ _ _, _, rfl, _, _, rfl, dget_t a.fil ho, _, _, rfl, DGet.k (k := Sum.inr k) e2, _, rfl, ?_⟩
    rcases look_val (es := es) (k := k) with ⟨v1, v2⟩ | ⟨ra, sl, v1, v2, v3⟩
    · rw [v1]
      refine iteF ?_
      have e : s.clear o k = s := by
        unfold PS.clear
        rw [← e1, v2]
      exact q H (by rw [e]; exact a) (Chg.of_same (Same.refl _))
    · rw [v1]
      refine iteT ?_
      have hlk : look (s.S o) k = some sl := by rw [← e1]; exact v2
      have hra := e3 _ v3
      refine ⟨_, rfl, _, _, _, rfl, a.den, nomt, _, rfl, _, rfl, _, _, _, _, _, rfl, a.den, T.cl, T.n_filled, flds_filled _ _ _ _ _, _, rfl, _, _, rfl, dget_t a.fil ho, _, rfl, .inl ⟨_, .inl e2⟩, _, rfl, _, Sum.inr k, _, e2, rfl, v1, ?_⟩
      have a1 := a.newS ho (es.filter fun e => decide (e.1 ≠ k)) (drop_es2 es k) (fun e he => e3 e (List.mem_filter.mp he).1)
      rw [← drop_es, e1] at a1
      have nt : ¬ ra = α (.slo o) := fun z => a.tup_keep hra ⟨.slo o, ho, z.symm⟩
      refine ⟨_, o, ra, sl, rfl, by rw [upd_ne nt]; exact hra, fun H2 l s2 nl pr => ?_⟩
      have c2 : Chg (Foot α s) H H2 := (Chg.upd (Chg.of_same (Same.refl _)) (.inl ⟨.slo o, ho, rfl⟩)).same s2
      have a2 := a1.same s2
      have nfl : ¬ Foot α s l := a1.not_foot nl
      obtain ⟨ps, p1, p2, p3⟩ := id pr
      have hlen : ps.length ≤ 1 := by
        have := holds_le1 o sl
        rw [← p1, List.length_map] at this
        exact this
      have ec : s.clear o k = (s.setS o (dropS (s.S o) k)).delAll (sl.holds o) := by
        unfold PS.clear
        rw [hlk]
      refine ⟨l, rfl, ⟨_, SqL.of p2⟩, ?_⟩
      refine for_it (walk_list (xs := ps.map fun e => V.ref e.1)) (fun i σ H' => ∃ x3 x4, σ = [some (.ref (α .den)), some (vi o), some (.str k), x3, x4] ∧ SA (stC K) dx α ((s.setS o (dropS (s.S o) k)).delAll ((sl.holds o).take i)) H' ∧ Chg (Foot α s) H2 H') ⟨none, none, rfl, a2, Chg.of_same (Same.refl _)⟩ (fun i σ H' _ h => ?_) (fun i x σ H' H'' hi hp y => ?_) (fun σ H' hp => ?_)
      · obtain ⟨x3, x4, _, _, c⟩ := h
        exact SqL.of (c _ _ p2 nfl)
      · obtain ⟨x3, x4, rfl, a3, c3⟩ := hp
        obtain ⟨rfl, hx⟩ := y
        have i0 : i = 0 := by
          rw [List.length_map] at hi
          omega
        subst i0
        match ps, hx, hlen, p1, p3 with
        | [e], hx, _, p1, p3 =>
          have ex : V.ref e.1 = x := Option.some.inj hx
          subst ex
          have em : e ∈ [e] := List.mem_singleton.mpr rfl
          have hs : sl.holds o = [(e.2.2.1, e.2.2.2)] := p1.symm
          have t1 := c3 _ _ (p3 e em).1 (a2.tup_keep (p3 e em).1)
          have t2 := c3 _ _ (p3 e em).2 (a2.tup_keep (p3 e em).2)
          obtain ⟨b1, b2⟩ := hc sl hlk _ (by rw [hs]; exact List.mem_singleton.mpr rfl)
          refine ⟨e.1, _, rfl, SqT.of t1, rfl, _, _, rfl, _, _, rfl, rfl, ?_⟩
          refine ⟨_, rfl, _, _, _, rfl, a3.den, nomt, _, rfl, _, rfl, dx, α, _, e.2.2.1, e.2.1, e.2.2.2, rfl, a3, b1, t2, b2, fun H4 a4 c4 => ?_⟩
          refine ⟨_, _, rfl, ?_, c3.trans c4⟩
          rw [hs]
          exact a4
      · obtain ⟨x3, x4, rfl, a3, c3⟩ := hp
        refine q H' ?_ (c2.trans c3)
        rw [ec]
        have e : (sl.holds o).take (List.map (fun e => V.ref e.1) ps).length = sl.holds o := by
          rw [List.length_map]
          refine List.take_of_length_le ?_
          rw [← p1, List.length_map]
          exact Nat.le_refl _
        rw [e] at a3
        exact a3
end
end Df
namespace Df
open PySem PySem.Spec PyProof.Rows L2
theorem put_es {es : List (Str × Addr × Slot)} {k : Str} {a : Addr} {sl : Slot} (h : look (es.map fun e => (e.1, e.2.2)) k = none) :
    putK (es.map fun e => ((Sum.inr e.1 : Key), V.ref e.2.1)) (Sum.inr k : Key) (.ref a) = (es ++ [(k, a, sl)]).map fun e => (Sum.inr e.1, V.ref e.2.1) := by
  have v : valV (es.map fun e => ((Sum.inr e.1 : Key), V.ref e.2.1)) (Sum.inr k : Key) = none := by
    rcases look_val (es := es) (k := k) with ⟨v1, _⟩ | ⟨_, _, _, v2, _⟩
    · exact v1
    · rw [h] at v2
      cases v2
  rw [putK_new _ v, List.map_append]
  rfl
theorem len_clear (s : PS) (o : Nat) (k : Str) : ((s.clear o k).S o).length ≤ (s.S o).length := by
  unfold PS.clear
  cases look (s.S o) k with
  | none => exact Nat.le_refl _
  | some sl =>
    show ((((s.setS o (dropS (s.S o) k)).delAll (sl.holds o)).S o).length) ≤ _
    rw [(delAll_n _ _).2.2.2]
    show (fset s.S o (dropS (s.S o) k) o).length ≤ _
    rw [fset_same]
    exact List.length_filter_le _ _
section
variable {P : Program} {w : World} {K : PySem.W.Frag} {mg : Str → Option Value} {base : Heap}
abbrev N_fill : List Str := ["self", "owner", "slot", "row", "thing", "hold"]
theorem sc_fill : FnScope N_fill ["self", "owner", "slot", "row"] (defScope m_fill) := ⟨rfl, rfl, rfl, by decide +kernel, rfl, by decide +kernel, by decide +kernel⟩
def spFill (K : PySem.W.Frag) : Sp := fun vs H Q _ => ∃ (dx : Addr) (α : SV) (s : PS) (o : Nat) (k : Str) (r : Addr) (sl : Slot), vs = [.ref (α .den), vi o, .str k, .ref r] ∧ SA (stC K) dx α s H ∧ o < s.n ∧ Clr s o k ∧ (look (s.S o) k = none → (s.S o).length < 8) ∧ (s.S o).length ≤ 8 ∧
  H r = some (.tup sl.v) ∧ (∀ e ∈ sl.holds o, e.1 < s.n) ∧ Rm s ∧ ∀ H', SA (stC K) dx α (s.fill o k sl) H' → Chg (Foot α s) H H' → Q .non H'
theorem ok_fill (T : Tx K mg) (h_clear_slot : Mt P w K mg base "clear_slot" 3 ["self", "owner", "slot"] (spClear K)) (h_add_hold : Mt P w K mg base "add_hold" 1 ["self", "thing", "hold"] (spAddHold K))
    (h_holds_by : Mt P w K mg base "holds_by" 2 ["self", "owner", "row"] spHoldsBy) (h_done : Mt P w K mg base "done" 1 ["self"] spSelf) : Mt P w K mg base "fill" 4 ["self", "owner", "slot", "row"] (spFill K) := by
  obtain ⟨t1, z_MOST_SLOTS⟩ := T.i_MOST_SLOTS
  refine Mt.of T.fm_fill T.cl T.me_fill sc_fill (fun _ _ _ _ _ _ us hl => match us, hl with | [_, _, _, _], _ => rfl) (fun vs H Q E h => ?_) (fun cdv A outer s H vs Q E hr h => ?_)
  · obtain ⟨dx, α, s, o, k, r, sl, rfl, _⟩ := h
    rfl
  · obtain ⟨dx, α, s, o, k, r, sl, rfl, a, ho, hc, h8, h88, hrow, hth, hrm, q⟩ := h
    have hu := hu_of hr
    refine ⟨_, (pss_cons (ps_if (PW.pt (pw_and (pt_cmp (pc_dnotin hu (pv 2) (pe_dget hu (pe_fld (pv 0) rfl) (pv 1) (fun _ _ => rfl)))) (pw_and1 (pt_cmpR op_ge (pe_callB call_lenD (by rfl) T.b_len (by decide +kernel) (pa_cons (pe_dget hu (pe_fld (pv 0) rfl) (pv 1) (fun _ _ => rfl)) pa_nil)) (pe_glob rfl z_MOST_SLOTS (rel_int _ _)) (nomark _))))) (pss_one ps_never) pss_nil)
      (pss_cons (ps_expr (pe_mt h_clear_slot hr (pv 0) (pa_cons (pv 1) (pa_cons (pv 2) pa_nil))))
      (pss_cons (ps_dput hu (pe_dget hu (pe_fld (pv 0) rfl) (pv 1) (fun _ _ => rfl)) (pv 2) (pv 3) rfl)
      (pss_cons (ps_for PassesOwn.never rfl (pi_list (pe_mt h_holds_by hr (pv 0) (pa_cons (pv 1) (pa_cons (pv 3) pa_nil)))) (pg_tup (by rfl) (pgs_cons (pg_name (i := 4) sc_fill.nd rfl (Or.inl rfl)) (pgs_cons (pg_name (i := 5) sc_fill.nd rfl (Or.inl rfl)) pgs_nil))) (pss_one (ps_expr (pe_mt h_add_hold hr (pv 0) (pa_cons (pv 4) (pa_cons (pv 5) pa_nil))))))
      (pss_one (ps_expr (pe_mt0 h_done hr (pv 0)))))))), ?_⟩
    refine (fun (go : (?G : Prop)) => ?a) ?b
    case a =>
      obtain ⟨es, e1, e2, e3⟩ := a.slo ho
      have el : es.length = (s.S o).length := by rw [← e1, List.length_map]
      refine ⟨_, rfl, _, rfl, _, _, _, _, _, rfl, a.den, T.cl, T.n_filled, flds_filled _ _ _ _ _, _, rfl, _, _, rfl, dget_t a.fil ho, _, _, rfl, DGet.k (k := Sum.inr k) e2, _, rfl, ?_⟩
      rcases look_val (es := es) (k := k) with ⟨v1, v2⟩ | ⟨ra, sl', v1, v2, v3⟩
      · rw [v1]
        refine iteT ?_
        refine ⟨_, rfl, _, _, _, _, _, rfl, a.den, T.cl, T.n_filled, flds_filled _ _ _ _ _, _, rfl, _, _, rfl, dget_t a.fil ho, _, _, rfl, e2, _, _, rfl, rfl, _, rfl, ?_⟩
        have e : decide (((es.map fun e => ((Sum.inr e.1 : Key), V.ref e.2.1)).length : Int) ≥ 8) = false := decide_eq_false (by
          rw [e1] at v2
          have := h8 v2
          rw [List.length_map]
          omega)
        rw [e]
        refine iteF ?_
        exact go
      · rw [v1]
        refine iteF ?_
        refine iteF ?_
        exact go
    case b =>
      refine ⟨_, rfl, _, _, _, rfl, a.den, nomt, _, rfl, _, rfl, dx, α, s, o, k, rfl, a, ho, hc, fun H1 a1 c1 => ?_⟩
      obtain ⟨cn, ch, cr⟩ := clear_n s o k
      have ho1 : o < (s.clear o k).n := by rw [cn]; exact ho
      have hr1 : H1 r = some (.tup sl.v) := c1 _ _ hrow (a.tup_keep hrow)
      obtain ⟨es, e1, e2, e3⟩ := a1.slo ho1
      have el : es.length ≤ 8 := by
        have := len_clear s o k
        rw [← e1, List.length_map] at this
        omega
      have nl : look (es.map fun e => (e.1, e.2.2)) k = none := by rw [e1]; exact look_clear s o k
      refine ⟨_, rfl, _, rfl, _, _, _, _, _, rfl, a1.den, T.cl, T.n_filled, flds_filled _ _ _ _ _, _, rfl, _, _, rfl, dget_t a1.fil ho1, _, rfl, _, _, rfl, DPut.k (k := Sum.inr k) e2 (small1000 (by rw [List.length_map]; omega)), ?_⟩
      have a2 := a1.newS ho1 (r := (s.clear o k).S o ++ [(k, sl)]) (es ++ [(k, r, sl)]) (by rw [List.map_append, e1]; rfl) (fun e he => (List.mem_append.mp he).elim (e3 e) fun z => by rw [List.mem_singleton.mp z]; exact hr1)
      rw [← put_es nl] at a2
      have c2 : Chg (Foot α s) H (upd H1 (α (.slo o)) (.dK (putK (es.map fun e => ((Sum.inr e.1 : Key), V.ref e.2.1)) (Sum.inr k : Key) (.ref r)))) := c1.upd (.inl ⟨.slo o, ho, rfl⟩)
      have hr2 := c2 _ _ hrow (a.tup_keep hrow)
      refine ⟨_, rfl, _, _, _, rfl, a2.den, nomt, _, rfl, _, rfl, _, o, r, sl, rfl, hr2, fun H3 l s3 nl3 pr => ?_⟩
      have a3 := a2.same s3
      have nfl := a2.not_foot nl3
      obtain ⟨ps, p1, p2, p3⟩ := id pr
      have hlen : ps.length ≤ 1 := by
        have := holds_le1 o sl
        rw [← p1, List.length_map] at this
        exact this
      have fe : ∀ c, Foot α ((s.clear o k).setS o ((s.clear o k).S o ++ [(k, sl)])) c ↔ Foot α s c := foot_eq ch cn
      refine ⟨l, rfl, ⟨_, SqL.of p2⟩, ?_⟩
      refine for_it (walk_list (xs := ps.map fun e => V.ref e.1)) (fun i σ H' => ∃ x4 x5, σ = [some (.ref (α .den)), some (vi o), some (.str k), some (.ref r), x4, x5] ∧ SA (stC K) dx α (((s.clear o k).setS o ((s.clear o k).S o ++ [(k, sl)])).addAll ((sl.holds o).take i)) H' ∧ Chg (Foot α s) H3 H') ⟨none, none, rfl, a3, Chg.of_same (Same.refl _)⟩ (fun i σ H' _ h => ?_) (fun i x σ H' H'' hi hp y => ?_) (fun σ H' hp => ?_)
      · obtain ⟨x3, x4, _, _, c⟩ := h
        exact SqL.of (c _ _ p2 fun f => nfl ((fe _).mpr f))
      · obtain ⟨x3, x4, rfl, a4, c4⟩ := hp
        obtain ⟨rfl, hx⟩ := y
        have i0 : i = 0 := by
          rw [List.length_map] at hi
          omega
        subst i0
        match ps, hx, hlen, p1, p3 with
        | [e], hx, _, p1, p3 =>
          have ex : V.ref e.1 = x := Option.some.inj hx
          subst ex
          have em : e ∈ [e] := List.mem_singleton.mpr rfl
          have hs : sl.holds o = [(e.2.2.1, e.2.2.2)] := p1.symm
          have k1 := (p3 e em).1
          have k2 := (p3 e em).2
          have t1 := c4 _ _ k1 (fun f => a3.tup_keep k1 ((fe _).mpr f))
          have t2 := c4 _ _ k2 (fun f => a3.tup_keep k2 ((fe _).mpr f))
          have b1 := hth _ (by rw [hs]; exact List.mem_singleton.mpr rfl)
          have b2 : ((s.clear o k).K e.2.2.1).length < 100000 := Nat.lt_of_le_of_lt (clear_le s o k e.2.2.1) (hrm _ b1)
          refine ⟨e.1, _, rfl, SqT.of t1, rfl, _, _, rfl, _, _, rfl, rfl, ?_⟩
          refine ⟨_, rfl, _, _, _, rfl, a4.den, nomt, _, rfl, _, rfl, dx, α, _, e.2.2.1, e.2.1, e.2.2.2, rfl, a4, by show e.2.2.1 < (s.clear o k).n; rw [cn]; exact b1, t2, b2, fun H5 a5 c5 => ?_⟩
          refine ⟨_, _, rfl, ?_, c4.trans (Chg.foot ch cn c5)⟩
          rw [hs]
          exact a5
      · obtain ⟨x3, x4, rfl, a4, c4⟩ := hp
        have e : (sl.holds o).take (List.map (fun e => V.ref e.1) ps).length = sl.holds o := by
          rw [List.length_map]
          refine List.take_of_length_le ?_
          rw [← p1, List.length_map]
          exact Nat.le_refl _
        rw [e] at a4
        exact ⟨_, rfl, _, _, _, rfl, a4.den, nomt, _, rfl, q H' a4 ((c2.same s3).trans c4)⟩
abbrev N_put : List Str := ["self", "hand", "owner", "slot", "thing"]
theorem sc_put : FnScope N_put ["self", "hand", "owner", "slot", "thing"] (defScope m_put) := ⟨rfl, rfl, rfl, by decide +kernel, rfl, by decide +kernel, by decide +kernel⟩
/-- what a deed may lean on -/
def spPut (K : PySem.W.Frag) : Sp := fun vs H Q _ => ∃ (dx : Addr) (α : SV) (s : PS) (h : Str) (o : Nat) (k : Str) (t : Nat), vs = [.ref (α .den), .str h, vi o, .str k, vi t] ∧ SA (stC K) dx α s H ∧ h ∈ s.hs ∧ NameOk h ∧ NameOk k ∧ o ∈ s.R h ∧ t ∈ s.R h ∧ o < s.n ∧ t < s.n ∧ Clr s o k ∧ (look (s.S o) k = none → (s.S o).length < 8) ∧ (s.S o).length ≤ 8 ∧ Rm s ∧
  ∀ H', SA (stC K) dx α (s.fill o k (.pl t)) H' → Chg (Foot α s) H H' → Q .non H'
theorem ok_put (T : Tx K mg) (h_want_owner : Mt P w K mg base "want_owner" 4 ["self", "hand", "owner", "slot"] (spWOwner K)) (h_want_had : Mt P w K mg base "want_had" 3 ["self", "hand", "thing"] (spWHad K)) (h_fill : Mt P w K mg base "fill" 4 ["self", "owner", "slot", "row"] (spFill K)) :
    Mt P w K mg base "put" 5 ["self", "hand", "owner", "slot", "thing"] (spPut K) := by
  obtain ⟨t1, z_PLAIN⟩ := T.z_PLAIN
  refine Mt.of T.fm_put T.cl T.me_put sc_put (fun _ _ _ _ _ _ us hl => match us, hl with | [_, _, _, _, _], _ => rfl) (fun vs H Q E h => ?_) (fun cdv A outer s H vs Q E hr h => ?_)
  · obtain ⟨dx, α, s, h, o, k, t, rfl, _⟩ := h
    rfl
  · obtain ⟨dx, α, s, h, o, k, t, rfl, a, hh, hN, kN, om, tm, ho, ht, hc, h8, h88, hrm, q⟩ := h
    refine ⟨_, (pss_cons (ps_expr (pe_mt h_want_owner hr (pv 0) (pa_cons (pv 1) (pa_cons (pv 2) (pa_cons (pv 3) pa_nil)))))
      (pss_cons (ps_expr (pe_mt h_want_had hr (pv 0) (pa_cons (pv 1) (pa_cons (pv 4) pa_nil))))
      (pss_one (ps_expr (pe_mt h_fill hr (pv 0) (pa_cons (pv 2) (pa_cons (pv 3) (pa_cons (pe_tup (pa_cons (pe_glob rfl z_PLAIN (rel_str _ _)) (pa_cons (pv 4) pa_nil))) pa_nil)))))))), ?_⟩
    refine ⟨_, rfl, _, _, _, rfl, a.den, nomt, _, rfl, _, rfl, _, rfl, dx, α, s, h, o, k, rfl, a, hh, hN, om, kN, fun H1 s1 => ?_⟩
    have a1 := a.same s1
    refine ⟨_, rfl, _, _, _, rfl, a1.den, nomt, _, rfl, _, rfl, dx, α, s, h, t, rfl, a1, hh, tm, ?_⟩
    refine ⟨_, rfl, _, _, _, rfl, a1.den, nomt, _, rfl, _, rfl, _, rfl, by show 2 ≤ sizeLine; decide, fun r nr => ?_⟩
    have a2 := a1.same (same_upd (o := .tup [.str "plain", vi t]) nr)
    refine ⟨dx, α, s, o, k, r, .pl t, rfl, a2, ho, hc, h8, h88, upd_same, fun e he => ?_, hrm, fun H3 a3 c3 => ?_⟩
    · rw [List.mem_singleton.mp he]
      exact ht
    · exact q H3 a3 (Chg.trans (Chg.of_same (same_new s1 nr)) c3)
abbrev N_show : List Str := ["self", "hand", "owner", "slot", "thing"]
theorem sc_show : FnScope N_show ["self", "hand", "owner", "slot", "thing"] (defScope m_show) := ⟨rfl, rfl, rfl, by decide +kernel, rfl, by decide +kernel, by decide +kernel⟩
def spShow (K : PySem.W.Frag) : Sp := fun vs H Q _ => ∃ (dx : Addr) (α : SV) (s : PS) (h : Str) (o : Nat) (k : Str) (t : Nat), vs = [.ref (α .den), .str h, vi o, .str k, vi t] ∧ SA (stC K) dx α s H ∧ h ∈ s.hs ∧ NameOk h ∧ NameOk k ∧ o ∈ s.R h ∧ t ∈ s.R h ∧ o < s.n ∧ t < s.n ∧ Clr s o k ∧ (look (s.S o) k = none → (s.S o).length < 8) ∧ (s.S o).length ≤ 8 ∧ Rm s ∧
  ∀ H', SA (stC K) dx α (s.fill o k (.wk t)) H' → Chg (Foot α s) H H' → Q .non H'
theorem ok_show (T : Tx K mg) (h_want_owner : Mt P w K mg base "want_owner" 4 ["self", "hand", "owner", "slot"] (spWOwner K)) (h_want_had : Mt P w K mg base "want_had" 3 ["self", "hand", "thing"] (spWHad K)) (h_fill : Mt P w K mg base "fill" 4 ["self", "owner", "slot", "row"] (spFill K)) :
    Mt P w K mg base "show" 5 ["self", "hand", "owner", "slot", "thing"] (spShow K) := by
  obtain ⟨t1, z_WEAK⟩ := T.z_WEAK
  refine Mt.of T.fm_show T.cl T.me_show sc_show (fun _ _ _ _ _ _ us hl => match us, hl with | [_, _, _, _, _], _ => rfl) (fun vs H Q E h => ?_) (fun cdv A outer s H vs Q E hr h => ?_)
  · obtain ⟨dx, α, s, h, o, k, t, rfl, _⟩ := h
    rfl
  · obtain ⟨dx, α, s, h, o, k, t, rfl, a, hh, hN, kN, om, tm, ho, ht, hc, h8, h88, hrm, q⟩ := h
    refine ⟨_, (pss_cons (ps_expr (pe_mt h_want_owner hr (pv 0) (pa_cons (pv 1) (pa_cons (pv 2) (pa_cons (pv 3) pa_nil)))))
      (pss_cons (ps_expr (pe_mt h_want_had hr (pv 0) (pa_cons (pv 1) (pa_cons (pv 4) pa_nil))))
      (pss_one (ps_expr (pe_mt h_fill hr (pv 0) (pa_cons (pv 2) (pa_cons (pv 3) (pa_cons (pe_tup (pa_cons (pe_glob rfl z_WEAK (rel_str _ _)) (pa_cons (pv 4) pa_nil))) pa_nil)))))))), ?_⟩
    refine ⟨_, rfl, _, _, _, rfl, a.den, nomt, _, rfl, _, rfl, _, rfl, dx, α, s, h, o, k, rfl, a, hh, hN, om, kN, fun H1 s1 => ?_⟩
    have a1 := a.same s1
    refine ⟨_, rfl, _, _, _, rfl, a1.den, nomt, _, rfl, _, rfl, dx, α, s, h, t, rfl, a1, hh, tm, ?_⟩
    refine ⟨_, rfl, _, _, _, rfl, a1.den, nomt, _, rfl, _, rfl, _, rfl, by show 2 ≤ sizeLine; decide, fun r nr => ?_⟩
    have a2 := a1.same (same_upd (o := .tup [.str "weak", vi t]) nr)
    refine ⟨dx, α, s, o, k, r, .wk t, rfl, a2, ho, hc, h8, h88, upd_same, fun e he => absurd he List.not_mem_nil, hrm, fun H3 a3 c3 => ?_⟩
    exact q H3 a3 (Chg.trans (Chg.of_same (same_new s1 nr)) c3)
abbrev N_tie : List Str := ["self", "hand", "owner", "slot", "key", "value"]
theorem sc_tie : FnScope N_tie ["self", "hand", "owner", "slot", "key", "value"] (defScope m_tie) := ⟨rfl, rfl, rfl, by decide +kernel, rfl, by decide +kernel, by decide +kernel⟩
def spTie (K : PySem.W.Frag) : Sp := fun vs H Q _ => ∃ (dx : Addr) (α : SV) (s : PS) (h : Str) (o : Nat) (k : Str) (y t : Nat), vs = [.ref (α .den), .str h, vi o, .str k, vi y, vi t] ∧ SA (stC K) dx α s H ∧ h ∈ s.hs ∧ NameOk h ∧ NameOk k ∧ o ∈ s.R h ∧ y ∈ s.R h ∧ t ∈ s.R h ∧ o < s.n ∧ t < s.n ∧ Clr s o k ∧ (look (s.S o) k = none → (s.S o).length < 8) ∧ (s.S o).length ≤ 8 ∧ Rm s ∧
  ∀ H', SA (stC K) dx α (s.fill o k (.ky y t)) H' → Chg (Foot α s) H H' → Q .non H'
theorem ok_tie (T : Tx K mg) (h_want_owner : Mt P w K mg base "want_owner" 4 ["self", "hand", "owner", "slot"] (spWOwner K)) (h_want_had : Mt P w K mg base "want_had" 3 ["self", "hand", "thing"] (spWHad K)) (h_fill : Mt P w K mg base "fill" 4 ["self", "owner", "slot", "row"] (spFill K)) :
    Mt P w K mg base "tie" 5 ["self", "hand", "owner", "slot", "key", "value"] (spTie K) := by
  obtain ⟨t1, z_KEYED⟩ := T.z_KEYED
  refine Mt.of T.fm_tie T.cl T.me_tie sc_tie (fun _ _ _ _ _ _ us hl => match us, hl with | [_, _, _, _, _, _], _ => rfl) (fun vs H Q E h => ?_) (fun cdv A outer s H vs Q E hr h => ?_)
  · obtain ⟨dx, α, s, h, o, k, y, t, rfl, _⟩ := h
    rfl
  · obtain ⟨dx, α, s, h, o, k, y, t, rfl, a, hh, hN, kN, om, ym, tm, ho, ht, hc, h8, h88, hrm, q⟩ := h
    refine ⟨_, (pss_cons (ps_expr (pe_mt h_want_owner hr (pv 0) (pa_cons (pv 1) (pa_cons (pv 2) (pa_cons (pv 3) pa_nil)))))
      (pss_cons (ps_expr (pe_mt h_want_had hr (pv 0) (pa_cons (pv 1) (pa_cons (pv 4) pa_nil))))
      (pss_cons (ps_expr (pe_mt h_want_had hr (pv 0) (pa_cons (pv 1) (pa_cons (pv 5) pa_nil))))
      (pss_one (ps_expr (pe_mt h_fill hr (pv 0) (pa_cons (pv 2) (pa_cons (pv 3) (pa_cons (pe_tup (pa_cons (pe_glob rfl z_KEYED (rel_str _ _)) (pa_cons (pv 4) (pa_cons (pv 5) pa_nil)))) pa_nil))))))))), ?_⟩
    refine ⟨_, rfl, _, _, _, rfl, a.den, nomt, _, rfl, _, rfl, _, rfl, dx, α, s, h, o, k, rfl, a, hh, hN, om, kN, fun H1 s1 => ?_⟩
    have a1 := a.same s1
    refine ⟨_, rfl, _, _, _, rfl, a1.den, nomt, _, rfl, _, rfl, dx, α, s, h, y, rfl, a1, hh, ym, ?_⟩
    refine ⟨_, rfl, _, _, _, rfl, a1.den, nomt, _, rfl, _, rfl, dx, α, s, h, t, rfl, a1, hh, tm, ?_⟩
    refine ⟨_, rfl, _, _, _, rfl, a1.den, nomt, _, rfl, _, rfl, _, rfl, _, rfl, by show 3 ≤ sizeLine; decide, fun r nr => ?_⟩
    have a2 := a1.same (same_upd (o := .tup [.str "keyed", vi y, vi t]) nr)
    refine ⟨dx, α, s, o, k, r, .ky y t, rfl, a2, ho, hc, h8, h88, upd_same, fun e he => ?_, hrm, fun H3 a3 c3 => ?_⟩
    · rw [List.mem_singleton.mp he]
      exact ht
    · exact q H3 a3 (Chg.trans (Chg.of_same (same_new s1 nr)) c3)
abbrev N_empty : List Str := ["self", "hand", "owner", "slot"]
theorem sc_empty : FnScope N_empty ["self", "hand", "owner", "slot"] (defScope m_empty) := ⟨rfl, rfl, rfl, by decide +kernel, rfl, by decide +kernel, by decide +kernel⟩
def spEmpty (K : PySem.W.Frag) : Sp := fun vs H Q _ => ∃ (dx : Addr) (α : SV) (s : PS) (h : Str) (o : Nat) (k : Str), vs = [.ref (α .den), .str h, vi o, .str k] ∧ SA (stC K) dx α s H ∧ h ∈ s.hs ∧ NameOk h ∧ NameOk k ∧ o ∈ s.R h ∧ o < s.n ∧ Clr s o k ∧ look (s.S o) k ≠ none ∧
  ∀ H', SA (stC K) dx α (s.clear o k) H' → Chg (Foot α s) H H' → Q .non H'
theorem ok_empty (T : Tx K mg) (h_want_owner : Mt P w K mg base "want_owner" 4 ["self", "hand", "owner", "slot"] (spWOwner K)) (h_clear_slot : Mt P w K mg base "clear_slot" 3 ["self", "owner", "slot"] (spClear K)) (h_done : Mt P w K mg base "done" 1 ["self"] spSelf) :
    Mt P w K mg base "empty" 5 ["self", "hand", "owner", "slot"] (spEmpty K) := by
  refine Mt.of T.fm_empty T.cl T.me_empty sc_empty (fun _ _ _ _ _ _ us hl => match us, hl with | [_, _, _, _], _ => rfl) (fun vs H Q E h => ?_) (fun cdv A outer s H vs Q E hr h => ?_)
  · obtain ⟨dx, α, s, h, o, k, rfl, _⟩ := h
    rfl
  · obtain ⟨dx, α, s, h, o, k, rfl, a, hh, hN, kN, om, ho, hc, hne, q⟩ := h
    have hu := hu_of hr
    refine ⟨_, (pss_cons (ps_expr (pe_mt h_want_owner hr (pv 0) (pa_cons (pv 1) (pa_cons (pv 2) (pa_cons (pv 3) pa_nil)))))
      (pss_cons (ps_if (pt_cmp (pc_dnotin hu (pv 3) (pe_dget hu (pe_fld (pv 0) rfl) (pv 2) (fun _ _ => rfl)))) (pss_one ps_never) pss_nil)
      (pss_cons (ps_expr (pe_mt h_clear_slot hr (pv 0) (pa_cons (pv 2) (pa_cons (pv 3) pa_nil))))
      (pss_one (ps_expr (pe_mt0 h_done hr (pv 0))))))), ?_⟩
    refine ⟨_, rfl, _, _, _, rfl, a.den, nomt, _, rfl, _, rfl, _, rfl, dx, α, s, h, o, k, rfl, a, hh, hN, om, kN, fun H1 s1 => ?_⟩
    have a1 := a.same s1
    obtain ⟨es, e1, e2, e3⟩ := a1.slo ho
    refine ⟨_, rfl, _, rfl, _, _, _, _, _, rfl, a1.den, T.cl, T.n_filled, flds_filled _ _ _ _ _, _, rfl, _, _, rfl, dget_t a1.fil ho, _, _, rfl, DGet.k (k := Sum.inr k) e2, _, rfl, ?_⟩
    rcases look_val (es := es) (k := k) with ⟨v1, v2⟩ | ⟨ra, sl', v1, v2, v3⟩
    · rw [e1] at v2
      exact absurd v2 hne
    · rw [v1]
      refine iteF ?_
      refine ⟨_, rfl, _, _, _, rfl, a1.den, nomt, _, rfl, _, rfl, dx, α, s, o, k, rfl, a1, ho, hc, fun H2 a2 c2 => ?_⟩
      exact ⟨_, rfl, _, _, _, rfl, a2.den, nomt, _, rfl, q H2 a2 (Chg.trans (Chg.of_same s1) c2)⟩
abbrev N_take : List Str := ["self", "hand", "owner", "slot", "row"]
theorem sc_take : FnScope N_take ["self", "hand", "owner", "slot"] (defScope m_take) := ⟨rfl, rfl, rfl, by decide +kernel, rfl, by decide +kernel, by decide +kernel⟩
def spTake (K : PySem.W.Frag) : Sp := fun vs H Q _ => ∃ (dx : Addr) (α : SV) (s : PS) (h : Str) (o : Nat) (k : Str) (sl : Slot), vs = [.ref (α .den), .str h, vi o, .str k] ∧ SA (stC K) dx α s H ∧ h ∈ s.hs ∧ NameOk h ∧ NameOk k ∧ o ∈ s.R h ∧ o < s.n ∧ look (s.S o) k = some sl ∧ (∀ y t, sl = .ky y t → y ∈ s.R h) ∧ sl.last < s.n ∧ (s.R h).length < 30 ∧ Rm s ∧
  ∀ H', SA (stC K) dx α (s.have_ h sl.last) H' → Chg (Foot α s) H H' → Q (vi sl.last) H'
theorem ok_take (T : Tx K mg) (h_want_owner : Mt P w K mg base "want_owner" 4 ["self", "hand", "owner", "slot"] (spWOwner K)) (h_want_had : Mt P w K mg base "want_had" 3 ["self", "hand", "thing"] (spWHad K)) (h_want_room : Mt P w K mg base "want_room" 1 ["self", "hand"] (spWRoom K))
    (h_have : Mt P w K mg base "have" 2 ["self", "hand", "thing"] (spHave K)) (h_done : Mt P w K mg base "done" 1 ["self"] spSelf) : Mt P w K mg base "take" 5 ["self", "hand", "owner", "slot"] (spTake K) := by
  obtain ⟨t1, z_KEYED⟩ := T.z_KEYED
  refine Mt.of T.fm_take T.cl T.me_take sc_take (fun _ _ _ _ _ _ us hl => match us, hl with | [_, _, _, _], _ => rfl) (fun vs H Q E h => ?_) (fun cdv A outer s H vs Q E hr h => ?_)
  · obtain ⟨dx, α, s, h, o, k, sl, rfl, _⟩ := h
    rfl
  · obtain ⟨dx, α, s, h, o, k, sl, rfl, a, hh, hN, kN, om, ho, hl, hk, hlt, h30, hrm, q⟩ := h
    have hu := hu_of hr
    refine ⟨_, (pss_cons (ps_expr (pe_mt h_want_owner hr (pv 0) (pa_cons (pv 1) (pa_cons (pv 2) (pa_cons (pv 3) pa_nil)))))
      (pss_cons (ps_if (pt_cmp (pc_dnotin hu (pv 3) (pe_dget hu (pe_fld (pv 0) rfl) (pv 2) (fun _ _ => rfl)))) (pss_one ps_never) pss_nil)
      (pss_cons (ps_set (i := 4) sc_take.nd rfl (Or.inl rfl) (pe_dget hu (pe_dget hu (pe_fld (pv 0) rfl) (pv 2) (fun _ _ => rfl)) (pv 3) (fun _ _ => rfl)))
      (pss_cons (ps_if (pt_cmpR op_eq (pe_ix ix_tup (pv 4) pe_int (fun _ _ => rfl)) (pe_glob rfl z_KEYED (rel_str _ _)) (nomark _)) (pss_one (ps_expr (pe_mt h_want_had hr (pv 0) (pa_cons (pv 1) (pa_cons (pe_ix ix_tup (pv 4) pe_int (fun _ _ => rfl)) pa_nil))))) pss_nil)
      (pss_cons (ps_expr (pe_mt h_want_room hr (pv 0) (pa_cons (pv 1) pa_nil)))
      (pss_cons (ps_expr (pe_mt h_have hr (pv 0) (pa_cons (pv 1) (pa_cons (pe_ix ix_tup (pv 4) (pe_un un_neg pe_int) (fun _ _ => rfl)) pa_nil))))
      (pss_cons (ps_expr (pe_mt0 h_done hr (pv 0)))
      (pss_one (ps_ret (pe_ix ix_tup (pv 4) (pe_un un_neg pe_int) (fun _ _ => rfl))))))))))), ?_⟩
    refine ⟨_, rfl, _, _, _, rfl, a.den, nomt, _, rfl, _, rfl, _, rfl, dx, α, s, h, o, k, rfl, a, hh, hN, om, kN, fun H1 s1 => ?_⟩
    have a1 := a.same s1
    obtain ⟨es, e1, e2, e3⟩ := a1.slo ho
    refine ⟨_, rfl, _, rfl, _, _, _, _, _, rfl, a1.den, T.cl, T.n_filled, flds_filled _ _ _ _ _, _, rfl, _, _, rfl, dget_t a1.fil ho, _, _, rfl, DGet.k (k := Sum.inr k) e2, _, rfl, ?_⟩
    rcases look_val (es := es) (k := k) with ⟨v1, v2⟩ | ⟨ra, sl', v1, v2, v3⟩
    · rw [e1, hl] at v2
      cases v2
    rw [e1, hl] at v2
    have esl : sl = sl' := Option.some.inj v2
    subst esl
    have hrow : H1 ra = some (.tup sl.v) := e3 _ v3
    have g2 := DGet.k (k := Sum.inr k) e2
    rw [v1] at g2 ⊢
    refine iteF ?_
    refine ⟨_, rfl, _, _, _, _, _, rfl, a1.den, T.cl, T.n_filled, flds_filled _ _ _ _ _, _, rfl, _, _, rfl, dget_t a1.fil ho, _, rfl, _, _, rfl, g2, ?_⟩
    refine (fun (fin : (?G : Prop)) => ?a) ?b
    case a =>
      cases sl with
      | pl t =>
        refine ⟨_, rfl, _, _, _, _, rfl, rfl, SqT.of hrow, rfl, rfl, _, rfl, ?_⟩
        refine iteF ?_
        exact fin
      | wk t =>
        refine ⟨_, rfl, _, _, _, _, rfl, rfl, SqT.of hrow, rfl, rfl, _, rfl, ?_⟩
        refine iteF ?_
        exact fin
      | ky y t =>
        refine ⟨_, rfl, _, _, _, _, rfl, rfl, SqT.of hrow, rfl, rfl, _, rfl, ?_⟩
        refine iteT ?_
        exact ⟨_, rfl, _, _, _, rfl, a1.den, nomt, _, rfl, _, rfl, _, _, _, _, rfl, rfl, SqT.of hrow, rfl, dx, α, s, h, y, rfl, a1, hh, hk y t rfl, fin⟩
    case b =>
      refine ⟨_, rfl, _, _, _, rfl, a1.den, nomt, _, rfl, dx, α, s, h, rfl, a1, hh, h30, ?_⟩
      have hat : atI sl.v (-1) = some (vi sl.last) := by cases sl <;> rfl
      refine ⟨_, rfl, _, _, _, rfl, a1.den, nomt, _, rfl, _, rfl, _, rfl, _, _, _, _, rfl, rfl, SqT.of hrow, hat, dx, α, s, h, sl.last, rfl, a1, hh, hlt, by omega, hrm _ hlt, fun H2 a2 c2 => ?_⟩
      have hrow2 := c2 _ _ hrow (a1.tup_keep hrow)
      exact ⟨_, rfl, _, _, _, rfl, a2.den, nomt, _, rfl, _, rfl, _, rfl, _, _, _, _, rfl, rfl, SqT.of hrow2, hat, q H2 a2 (Chg.trans (Chg.of_same s1) c2)⟩
abbrev N_drop : List Str := ["self", "hand", "thing"]
theorem sc_drop : FnScope N_drop ["self", "hand", "thing"] (defScope m_drop) := ⟨rfl, rfl, rfl, by decide +kernel, rfl, by decide +kernel, by decide +kernel⟩
def spDrop (K : PySem.W.Frag) : Sp := fun vs H Q _ => ∃ (dx : Addr) (α : SV) (s : PS) (h : Str) (t : Nat), vs = [.ref (α .den), .str h, vi t] ∧ SA (stC K) dx α s H ∧ h ∈ s.hs ∧ NameOk h ∧ t < s.n ∧ t ∈ s.R h ∧ (s.R h).length ≤ 1000 ∧ [] ∈ s.K t ∧
  ∀ H', SA (stC K) dx α (s.lose h t) H' → Chg (Foot α s) H H' → Q .non H'
theorem ok_drop (T : Tx K mg) (h_want_hand : Mt P w K mg base "want_hand" 2 ["self", "hand"] (spWHand K)) (h_want_had : Mt P w K mg base "want_had" 3 ["self", "hand", "thing"] (spWHad K)) (h_lose : Mt P w K mg base "lose" 2 ["self", "hand", "thing"] (spLose K)) (h_done : Mt P w K mg base "done" 1 ["self"] spSelf) :
    Mt P w K mg base "drop" 4 ["self", "hand", "thing"] (spDrop K) := by
  refine Mt.of T.fm_drop T.cl T.me_drop sc_drop (fun _ _ _ _ _ _ us hl => match us, hl with | [_, _, _], _ => rfl) (fun vs H Q E h => ?_) (fun cdv A outer s H vs Q E hr h => ?_)
  · obtain ⟨dx, α, s, h, t, rfl, _⟩ := h
    rfl
  · obtain ⟨dx, α, s, h, t, rfl, a, hh, hN, ht, hm, hl, hk, q⟩ := h
    refine ⟨_, (pss_cons (ps_expr (pe_mt h_want_hand hr (pv 0) (pa_cons (pv 1) pa_nil)))
      (pss_cons (ps_expr (pe_mt h_want_had hr (pv 0) (pa_cons (pv 1) (pa_cons (pv 2) pa_nil))))
      (pss_cons (ps_expr (pe_mt h_lose hr (pv 0) (pa_cons (pv 1) (pa_cons (pv 2) pa_nil))))
      (pss_one (ps_expr (pe_mt0 h_done hr (pv 0))))))), ?_⟩
    refine ⟨_, rfl, _, _, _, rfl, a.den, nomt, _, rfl, dx, α, s, h, rfl, a, hh, hN, fun H1 s1 => ?_⟩
    have a1 := a.same s1
    refine ⟨_, rfl, _, _, _, rfl, a1.den, nomt, _, rfl, _, rfl, dx, α, s, h, t, rfl, a1, hh, hm, ?_⟩
    refine ⟨_, rfl, _, _, _, rfl, a1.den, nomt, _, rfl, _, rfl, dx, α, s, h, t, rfl, a1, hh, ht, hm, hl, hk, fun H2 a2 c2 => ?_⟩
    exact ⟨_, rfl, _, _, _, rfl, a2.den, nomt, _, rfl, q H2 a2 (Chg.trans (Chg.of_same s1) c2)⟩
end
end Df
namespace Df
open PySem PySem.Spec PyProof.Rows L2
/-- the roles' addresses behind a make -/
def grow (α : SV) (n : Nat) (p1 p2 : Addr) : SV
  | .slo t => if t = n then p1 else α (.slo t)
  | .kpl t => if t = n then p2 else α (.kpl t)
  | r => α r
def PS.more (s : PS) : PS := { s with n := s.n + 1, S := fset s.S s.n [], K := fset s.K s.n [] }
theorem grow_fil (α : SV) (n : Nat) (p1 p2 : Addr) : (fun t => V.ref (grow α n p1 p2 (.slo t))) = fset (fun t => V.ref (α (.slo t))) n (.ref p1) := funext fun t => by
  show V.ref (if t = n then p1 else α (.slo t)) = if t = n then V.ref p1 else V.ref (α (.slo t))
  split <;> rfl
theorem grow_kep (α : SV) (n : Nat) (p1 p2 : Addr) : (fun t => V.ref (grow α n p1 p2 (.kpl t))) = fset (fun t => V.ref (α (.kpl t))) n (.ref p2) := funext fun t => by
  show V.ref (if t = n then p2 else α (.kpl t)) = if t = n then V.ref p2 else V.ref (α (.kpl t))
  split <;> rfl
theorem fset_const {β : Type} (n : Nat) (v : β) : fset (fun _ : Nat => v) n v = fun _ => v := funext fun t => by
  unfold fset
  split <;> rfl
section
variable {C dx : Addr} {α : SV} {s : PS} {H H' : Hp} {p1 p2 : Addr}
theorem SA.grow (A : SA C dx α s H) (n1 : H p1 = none) (n2 : H p2 = none) (n12 : p1 ≠ p2) (hd : H' (α .den) = some (.ins C dx (flds (α .rows) (α .fil) (α .las) (α .kep) (s.n + 1))))
    (hf : H' (α .fil) = some (.dK (kT (s.n + 1) (fset (fun t => V.ref (α (.slo t))) s.n (.ref p1))))) (hl : H' (α .las) = some (.dK (kT (s.n + 1) fun _ => .str ""))) (hk : H' (α .kep) = some (.dK (kT (s.n + 1) (fset (fun t => V.ref (α (.kpl t))) s.n (.ref p2)))))
    (h1 : H' p1 = some (.dK [])) (h2 : H' p2 = some (.lst [])) (c : ∀ a o, H a = some o → a ≠ α .den → a ≠ α .fil → a ≠ α .las → a ≠ α .kep → H' a = some o) : SA C dx (grow α s.n p1 p2) s.more H' := by
  have nt : ∀ e xs, H e = some (.tup xs) → H' e = some (.tup xs) := fun e xs q => by
    have nf := A.tup_keep q
    exact c e _ q (fun z => nf ⟨.den, trivial, z.symm⟩) (fun z => nf ⟨.fil, trivial, z.symm⟩) (fun z => nf ⟨.las, trivial, z.symm⟩) (fun z => nf ⟨.kep, trivial, z.symm⟩)
  have old : ∀ r, live s.hs s.n r → r ≠ .den → r ≠ .fil → r ≠ .las → r ≠ .kep → ∃ o, H' (α r) = some o ∧ Ct C dx α s H r o := fun r l a1 a2 a3 a4 => by
    obtain ⟨o, e1, e2⟩ := A.at_ r l
    exact ⟨o, c _ _ e1 (fun z => a1 (A.inj _ _ l trivial z)) (fun z => a2 (A.inj _ _ l trivial z)) (fun z => a3 (A.inj _ _ l trivial z)) (fun z => a4 (A.inj _ _ l trivial z)), e2⟩
  refine ⟨fun r l => ?_, fun r r' l l' e => ?_, fun t ht => ?_⟩
  · cases r with
    | den => exact ⟨_, hd, rfl⟩
    | fil => exact ⟨_, hf, by show _ = HO.dK (kT (s.n + 1) fun t => V.ref (Df.grow α s.n p1 p2 (.slo t))); rw [grow_fil]⟩
    | las => exact ⟨_, hl, rfl⟩
    | kep => exact ⟨_, hk, by show _ = HO.dK (kT (s.n + 1) fun t => V.ref (Df.grow α s.n p1 p2 (.kpl t))); rw [grow_kep]⟩
    | rows =>
      obtain ⟨o, e1, e2⟩ := old .rows trivial (by nofun) (by nofun) (by nofun) (by nofun)
      exact ⟨o, e1, e2⟩
    | row h =>
      obtain ⟨o, e1, e2⟩ := old (.row h) l (by nofun) (by nofun) (by nofun) (by nofun)
      exact ⟨o, e1, e2⟩
    | slo t =>
      by_cases e : t = s.n
      · subst e
        exact ⟨_, by show H' (if s.n = s.n then p1 else _) = _; rw [if_pos rfl]; exact h1, [], by show [] = fset s.S s.n [] s.n; rw [fset_same], rfl, fun _ z => absurd z List.not_mem_nil⟩
      · have l : t < s.n + 1 := l
        obtain ⟨o, e1, es, b1, b2, b3⟩ := old (.slo t) (show t < s.n by omega) (by nofun) (by nofun) (by nofun) (by nofun)
        exact ⟨o, by show H' (if t = s.n then p1 else _) = _; rw [if_neg e]; exact e1, es, by show _ = fset s.S s.n [] t; rw [fset_ne e]; exact b1, b2, fun e he => nt _ _ (b3 e he)⟩
    | kpl t =>
      by_cases e : t = s.n
      · subst e
        exact ⟨_, by show H' (if s.n = s.n then p2 else _) = _; rw [if_pos rfl]; exact h2, [], by show [] = fset s.K s.n [] s.n; rw [fset_same], rfl, fun _ z => absurd z List.not_mem_nil⟩
      · have l : t < s.n + 1 := l
        obtain ⟨o, e1, es, b1, b2, b3⟩ := old (.kpl t) (show t < s.n by omega) (by nofun) (by nofun) (by nofun) (by nofun)
        exact ⟨o, by show H' (if t = s.n then p2 else _) = _; rw [if_neg e]; exact e1, es, by show _ = fset s.K s.n [] t; rw [fset_ne e]; exact b1, b2, fun e he => nt _ _ (b3 e he)⟩
  · have key : ∀ r, live s.more.hs s.more.n r → (r = .slo s.n ∧ Df.grow α s.n p1 p2 r = p1) ∨ (r = .kpl s.n ∧ Df.grow α s.n p1 p2 r = p2) ∨ (live s.hs s.n r ∧ Df.grow α s.n p1 p2 r = α r) := fun r l => by
      cases r with
      | slo t =>
        by_cases e : t = s.n
        · subst e
          exact .inl ⟨rfl, if_pos rfl⟩
        · have l : t < s.n + 1 := l
          exact .inr (.inr ⟨show t < s.n by omega, if_neg e⟩)
      | kpl t =>
        by_cases e : t = s.n
        · subst e
          exact .inr (.inl ⟨rfl, if_pos rfl⟩)
        · have l : t < s.n + 1 := l
          exact .inr (.inr ⟨show t < s.n by omega, if_neg e⟩)
      | row h => exact .inr (.inr ⟨l, rfl⟩)
      | _ => exact .inr (.inr ⟨trivial, rfl⟩)
    have fr : ∀ r p, live s.hs s.n r → H p = none → α r ≠ p := fun r p l n z => by
      obtain ⟨o, e1, _⟩ := A.at_ r l
      rw [z, n] at e1
      cases e1
    rcases key r l with ⟨a1, a2⟩ | ⟨a1, a2⟩ | ⟨a1, a2⟩ <;> rcases key r' l' with ⟨b1, b2⟩ | ⟨b1, b2⟩ | ⟨b1, b2⟩ <;> rw [a2, b2] at e
    · rw [a1, b1]
    · exact absurd e n12
    · exact absurd e.symm (fr _ _ b1 n1)
    · exact absurd e.symm n12
    · rw [a1, b1]
    · exact absurd e.symm (fr _ _ b1 n2)
    · exact absurd e (fr _ _ a1 n1)
    · exact absurd e (fr _ _ a1 n2)
    · exact A.inj _ _ a1 b1 e
  · show (fset s.K s.n [] t).length ≤ 100000
    by_cases e : t = s.n
    · rw [e, fset_same]
      exact Nat.zero_le _
    · rw [fset_ne e]
      have ht : t < s.n + 1 := ht
      exact A.sm t (by omega)
theorem foot_grow (c : Addr) (h : Foot (grow α s.n p1 p2) s.more c) : Foot α s c ∨ c = p1 ∨ c = p2 := by
  obtain ⟨r, l, e⟩ := h
  cases r with
  | slo t =>
    by_cases q : t = s.n
    · subst q
      exact .inr (.inl (e.symm.trans (if_pos rfl)))
    · have l : t < s.n + 1 := l
      exact .inl ⟨.slo t, show t < s.n by omega, (if_neg q).symm.trans e⟩
  | kpl t =>
    by_cases q : t = s.n
    · subst q
      exact .inr (.inr (e.symm.trans (if_pos rfl)))
    · have l : t < s.n + 1 := l
      exact .inl ⟨.kpl t, show t < s.n by omega, (if_neg q).symm.trans e⟩
  | row h => exact .inl ⟨.row h, l, e⟩
  | den => exact .inl ⟨.den, trivial, e⟩
  | rows => exact .inl ⟨.rows, trivial, e⟩
  | fil => exact .inl ⟨.fil, trivial, e⟩
  | las => exact .inl ⟨.las, trivial, e⟩
  | kep => exact .inl ⟨.kep, trivial, e⟩
end
section
variable {P : Program} {w : World} {K : PySem.W.Frag} {mg : Str → Option Value} {base : Heap}
abbrev N_give : List Str := ["self", "hand", "thing", "to"]
theorem sc_give : FnScope N_give ["self", "hand", "thing", "to"] (defScope m_give) := ⟨rfl, rfl, rfl, by decide +kernel, rfl, by decide +kernel, by decide +kernel⟩
def spGive (K : PySem.W.Frag) : Sp := fun vs H Q _ => ∃ (dx : Addr) (α : SV) (s : PS) (h : Str) (t : Nat) (g : Str), vs = [.ref (α .den), .str h, vi t, .str g] ∧ SA (stC K) dx α s H ∧ h ∈ s.hs ∧ NameOk h ∧ g ∈ s.hs ∧ NameOk g ∧ t < s.n ∧ t ∈ s.R h ∧ (g ≠ h → (s.R g).length < 30) ∧ (∀ x ∈ s.hs, (s.R x).length ≤ 1000) ∧ [] ∈ s.K t ∧ Rm s ∧
  ∀ H', SA (stC K) dx α ((s.lose h t).have_ g t) H' → Chg (Foot α s) H H' → Q .non H'
theorem lessL_le (l : List Nat) (t : Nat) : (lessL l t).length ≤ l.length := by
  unfold lessL
  rw [List.length_reverse]
  have := List.length_erase_le (a := t) (l := l.reverse)
  rwa [List.length_reverse] at this
theorem ok_give (T : Tx K mg) (h_want_hand : Mt P w K mg base "want_hand" 2 ["self", "hand"] (spWHand K)) (h_want_had : Mt P w K mg base "want_had" 3 ["self", "hand", "thing"] (spWHad K)) (h_want_room : Mt P w K mg base "want_room" 1 ["self", "hand"] (spWRoom K))
    (h_lose : Mt P w K mg base "lose" 2 ["self", "hand", "thing"] (spLose K)) (h_have : Mt P w K mg base "have" 2 ["self", "hand", "thing"] (spHave K)) (h_done : Mt P w K mg base "done" 1 ["self"] spSelf) :
    MtK P w K mg base "give" 4 ["self", "hand", "thing", "to"] 3 ["to"] (fun vs zs => vs ++ zs) (spGive K) := by
  refine MtK.of T.fm_give T.cl T.me_give sc_give (fun _ _ _ _ _ _ us ws l1 l2 => match us, ws, l1, l2 with | [_, _, _], [_], _, _ => rfl) (fun vs H Q E h => ?_) (fun cdv A outer s H vs Q E hr h => ?_)
  · obtain ⟨dx, α, s, h, t, g, rfl, _⟩ := h
    rfl
  · obtain ⟨dx, α, s, h, t, g, rfl, a, hh, hN, gh, gN, ht, hm, h30, hl, hk, hrm, q⟩ := h
    refine ⟨_, (pss_cons (ps_expr (pe_mt h_want_hand hr (pv 0) (pa_cons (pv 1) pa_nil)))
      (pss_cons (ps_expr (pe_mt h_want_had hr (pv 0) (pa_cons (pv 1) (pa_cons (pv 2) pa_nil))))
      (pss_cons (ps_expr (pe_mt h_want_hand hr (pv 0) (pa_cons (pv 3) pa_nil)))
      (pss_cons (ps_if (pt_cmpR op_ne (pv 3) (pv 1) (nomark _)) (pss_one (ps_expr (pe_mt h_want_room hr (pv 0) (pa_cons (pv 3) pa_nil)))) pss_nil)
      (pss_cons (ps_expr (pe_mt h_lose hr (pv 0) (pa_cons (pv 1) (pa_cons (pv 2) pa_nil))))
      (pss_cons (ps_expr (pe_mt h_have hr (pv 0) (pa_cons (pv 3) (pa_cons (pv 2) pa_nil))))
      (pss_one (ps_expr (pe_mt0 h_done hr (pv 0)))))))))), ?_⟩
    refine ⟨_, rfl, _, _, _, rfl, a.den, nomt, _, rfl, dx, α, s, h, rfl, a, hh, hN, fun H1 s1 => ?_⟩
    have a1 := a.same s1
    refine ⟨_, rfl, _, _, _, rfl, a1.den, nomt, _, rfl, _, rfl, dx, α, s, h, t, rfl, a1, hh, hm, ?_⟩
    refine ⟨_, rfl, _, _, _, rfl, a1.den, nomt, _, rfl, dx, α, s, g, rfl, a1, gh, gN, fun H2 s2 => ?_⟩
    have a2 := a1.same s2
    refine (fun (fin : (?G : Prop)) => ?a) ?b
    case a =>
      refine ⟨_, rfl, _, rfl, rfl, _, rfl, ?_⟩
      by_cases e : g = h
      · rw [show (!decide (V.str g = V.str h)) = false by rw [e]; simp]
        refine iteF ?_
        exact fin
      · rw [show (!decide (V.str g = V.str h)) = true by simp [e]]
        refine iteT ?_
        exact ⟨_, rfl, _, _, _, rfl, a2.den, nomt, _, rfl, dx, α, s, g, rfl, a2, gh, h30 e, fin⟩
    case b =>
      refine ⟨_, rfl, _, _, _, rfl, a2.den, nomt, _, rfl, _, rfl, dx, α, s, h, t, rfl, a2, hh, ht, hm, hl h hh, hk, fun H3 a3 c3 => ?_⟩
      have lg : ((s.lose h t).R g).length ≤ 1000 := by
        show (fset s.R h (lessL (s.R h) t) g).length ≤ 1000
        by_cases e : g = h
        · rw [e, fset_same]
          exact Nat.le_trans (lessL_le _ _) (hl h hh)
        · rw [fset_ne e]
          exact hl g gh
      refine ⟨_, rfl, _, _, _, rfl, a3.den, nomt, _, rfl, _, rfl, dx, α, _, g, t, rfl, a3, gh, ht, lg, Nat.lt_of_le_of_lt delK_le (hrm t ht), fun H4 a4 c4 => ?_⟩
      exact ⟨_, rfl, _, _, _, rfl, a4.den, nomt, _, rfl, q H4 a4 (Chg.trans (Chg.of_same (s1.trans s2)) (c3.trans c4))⟩
abbrev N_make : List Str := ["self", "hand", "word", "thing"]
theorem sc_make : FnScope N_make ["self", "hand", "word"] (defScope m_make) := ⟨rfl, rfl, rfl, by decide +kernel, rfl, by decide +kernel, by decide +kernel⟩
def spMake (K : PySem.W.Frag) : Sp := fun vs H Q _ => ∃ (dx : Addr) (α : SV) (s : PS) (h : Str), vs = [.ref (α .den), .str h, .str ""] ∧ SA (stC K) dx α s H ∧ h ∈ s.hs ∧ NameOk h ∧ s.n < 40 ∧ (s.R h).length < 30 ∧
  ∀ α' H', SA (stC K) dx α' (s.make h) H' → α' .den = α .den → Chg (Foot α s) H H' → (∀ c, Foot α' (s.make h) c → Foot α s c ∨ H c = none) → Q (vi s.n) H'
theorem ok_make (T : Tx K mg) (h_want_hand : Mt P w K mg base "want_hand" 2 ["self", "hand"] (spWHand K)) (h_want_word : Cl P w K mg base "want_word" 2 ["thing"] spWWord) (h_want_room : Mt P w K mg base "want_room" 1 ["self", "hand"] (spWRoom K))
    (h_come_in : Mt P w K mg base "come_in" 1 ["self", "thing"] spSelf2) (h_have : Mt P w K mg base "have" 2 ["self", "hand", "thing"] (spHave K)) (h_done : Mt P w K mg base "done" 1 ["self"] spSelf) :
    MtD P w K mg base "make" 3 ["self", "hand", "word"] [.str ""] (spMake K) := by
  obtain ⟨t1, z_MOST_THINGS⟩ := T.i_MOST_THINGS
  refine MtD.of (n := 2) (kws := [("word", V.str "")]) T.fm_make T.cl T.me_make sc_make (by nofun) rfl (fun D doc pm an cdv ct us ks l1 l2 => match us, ks, l1, l2 with | [_, _], [_], _, _ => ⟨_, _, _, _, _, _, rfl, rfl, rfl⟩) (fun vs H Q E h => ?_) (fun cdv A outer s H vs Q E hr h => ?_)
  · obtain ⟨dx, α, s, h, rfl, _⟩ := h
    rfl
  · obtain ⟨dx, α, s, h, rfl, a, hh, hN, h40, h30, q⟩ := h
    have hu := hu_of hr
    refine ⟨_, (pss_cons (ps_expr (pe_mt h_want_hand hr (pv 0) (pa_cons (pv 1) pa_nil)))
      (pss_cons (ps_expr (pe_cl h_want_word hr (pa_cons (pv 2) pa_nil)))
      (pss_cons (ps_if (pt_cmpR op_ge (pe_callB call_lenD (by rfl) T.b_len (by decide +kernel) (pa_cons (pe_fld (pv 0) rfl) pa_nil)) (pe_glob rfl z_MOST_THINGS (rel_int _ _)) (nomark _)) (pss_one ps_never) pss_nil)
      (pss_cons (ps_expr (pe_mt h_want_room hr (pv 0) (pa_cons (pv 1) pa_nil)))
      (pss_cons (ps_set (i := 3) sc_make.nd rfl (Or.inl rfl) (pe_fld (pv 0) rfl))
      (pss_cons (ps_fldaug (pv 0) pe_int in_add)
      (pss_cons (ps_dput hu (pe_fld (pv 0) rfl) (pv 3) pe_dnewK rfl)
      (pss_cons (ps_dput hu (pe_fld (pv 0) rfl) (pv 3) (pv 2) rfl)
      (pss_cons (ps_dput hu (pe_fld (pv 0) rfl) (pv 3) (pe_lst pa_nil) rfl)
      (pss_cons (ps_expr (pe_mt h_come_in hr (pv 0) (pa_cons (pv 3) pa_nil)))
      (pss_cons (ps_expr (pe_mt h_have hr (pv 0) (pa_cons (pv 1) (pa_cons (pv 3) pa_nil))))
      (pss_cons (ps_expr (pe_mt0 h_done hr (pv 0)))
      (pss_one (ps_ret (pv 3))))))))))))))), ?_⟩
    refine ⟨_, rfl, _, _, _, rfl, a.den, nomt, _, rfl, dx, α, s, h, rfl, a, hh, hN, fun H1 s1 => ?_⟩
    have a1 := a.same s1
    refine ⟨_, rfl, rfl, ?_⟩
    refine ⟨_, rfl, _, _, _, _, _, rfl, a1.den, T.cl, T.n_filled, flds_filled _ _ _ _ _, _, _, rfl, a1.fil, _, _, rfl, rfl, _, rfl, ?_⟩
    have e40 : decide (((kT s.n fun t => V.ref (α (.slo t))).length : Int) ≥ 40) = false := decide_eq_false (by
      rw [len_kT]
      omega)
    rw [e40]
    refine iteF ?_
    refine ⟨_, rfl, _, _, _, rfl, a1.den, nomt, _, rfl, dx, α, s, h, rfl, a1, hh, h30, ?_⟩
    refine ⟨_, rfl, _, _, _, _, _, rfl, a1.den, T.cl, T.n_many, flds_many _ _ _ _ _, ?_⟩
    refine ⟨_, rfl, _, _, _, _, _, rfl, a1.den, T.cl, T.n_many, flds_many _ _ _ _ _, _, _, rfl, rfl, _, _, a1.den, by show 5 < 1000; decide, ?_⟩
    have ev : V.int ((s.n : Int) + 1) = vi (s.n + 1) := congrArg V.int (by omega)
    rw [show putF "many" (V.int ((s.n : Int) + 1)) (flds (α .rows) (α .fil) (α .las) (α .kep) s.n) = flds (α .rows) (α .fil) (α .las) (α .kep) (s.n + 1) by rw [ev, flds_put]]
    have nf : α .fil ≠ α .den := fun z => by have := a1.inj .fil .den trivial trivial z; cases this
    have nl : α .las ≠ α .den := fun z => by have := a1.inj .las .den trivial trivial z; cases this
    have nk : α .kep ≠ α .den := fun z => by have := a1.inj .kep .den trivial trivial z; cases this
    have nlf : α .las ≠ α .fil := fun z => by have := a1.inj .las .fil trivial trivial z; cases this
    have nkf : α .kep ≠ α .fil := fun z => by have := a1.inj .kep .fil trivial trivial z; cases this
    have nkl : α .kep ≠ α .las := fun z => by have := a1.inj .kep .las trivial trivial z; cases this
    intro p1 np1
    have np1' : H1 p1 = none := by
      by_cases e : p1 = α .den
      · rw [e, upd_same] at np1
        cases np1
      · rwa [upd_ne e] at np1
    have d1 : α .den ≠ p1 := ne_of_none a1.den np1'
    have f1 : α .fil ≠ p1 := ne_of_none a1.fil np1'
    have l1 : α .las ≠ p1 := ne_of_none a1.las np1'
    have k1 : α .kep ≠ p1 := ne_of_none a1.kep np1'
    refine ⟨_, rfl, _, _, _, _, _, rfl, by rw [upd_ne d1, upd_same], T.cl, T.n_filled, flds_filled _ _ _ _ _, _, rfl, _, _, rfl, dput_t (by rw [upd_ne f1, upd_ne nf]; exact a1.fil) (by omega), ?_⟩
    refine ⟨_, rfl, _, rfl, _, _, _, _, _, rfl, by rw [upd_ne nf.symm, upd_ne d1, upd_same], T.cl, T.n_last, flds_last _ _ _ _ _, _, rfl, _, _, rfl, dput_t (by rw [upd_ne nlf, upd_ne l1, upd_ne nl]; exact a1.las) (by omega), ?_⟩
    rw [fset_const]
    refine ⟨Nat.zero_le _, fun p2 np2 => ?_⟩
    have o2 : p2 ≠ α .las ∧ p2 ≠ α .fil ∧ p2 ≠ p1 ∧ p2 ≠ α .den := by
      refine ⟨fun e => ?_, fun e => ?_, fun e => ?_, fun e => ?_⟩
      · rw [e, upd_same] at np2
        cases np2
      · rw [e, upd_ne nlf.symm, upd_same] at np2
        cases np2
      · rw [e, upd_ne l1.symm, upd_ne f1.symm, upd_same] at np2
        cases np2
      · rw [e, upd_ne nl.symm, upd_ne nf.symm, upd_ne d1, upd_same] at np2
        cases np2
    have np2' : H1 p2 = none := by
      rwa [upd_ne o2.1, upd_ne o2.2.1, upd_ne o2.2.2.1, upd_ne o2.2.2.2] at np2
    have k2 : α .kep ≠ p2 := ne_of_none a1.kep np2'
    refine ⟨_, rfl, _, _, _, _, _, rfl, by rw [upd_ne o2.2.2.2.symm, upd_ne nl.symm, upd_ne nf.symm, upd_ne d1, upd_same], T.cl, T.n_kept, flds_kept _ _ _ _ _, _, rfl, _, _, rfl, dput_t (by rw [upd_ne k2, upd_ne nkl, upd_ne nkf, upd_ne k1, upd_ne nk]; exact a1.kep) (by omega), ?_⟩
    have fin : ∀ H2, SA (stC K) dx (grow α s.n p1 p2) s.more H2 → Chg (Foot α s) H1 H2 → (tSeq (tDrop (tMeth (stC K) "come_in" spSelf2 [] E0 (tVar 0) (tCons (tVar 3) tNil))) (tSeq (tDrop (tMeth (stC K) "have" (spHave K) [] E0 (tVar 0) (tCons (tVar 1) (tCons (tVar 3) tNil)))) (tSeq (tDrop (tMeth (stC K) "done" spSelf [] E0 (tVar 0) tNil)) (tRet (tVar 3))))) { nx := fun _ H' => Q .non H', rt := Q } [some (.ref (α .den)), some (.str h), some (.str ""), some (vi s.n)] H2 := by
      intro H2 a2 c2
      refine ⟨_, rfl, _, _, _, rfl, a2.den, nomt, _, rfl, _, _, rfl, ?_⟩
      have kn : (s.more.K s.n).length < 100000 := by
        show (fset s.K s.n [] s.n).length < 100000
        rw [fset_same]
        decide
      refine ⟨_, rfl, _, _, _, rfl, a2.den, nomt, _, rfl, _, rfl, dx, grow α s.n p1 p2, s.more, h, s.n, rfl, a2, hh, Nat.lt_succ_self _, by show (s.R h).length ≤ 1000; omega, kn, fun H3 a3 c3 => ?_⟩
      refine ⟨_, rfl, _, _, _, rfl, a3.den, nomt, _, rfl, ?_⟩
      have fr : ∀ c, Foot (grow α s.n p1 p2) s.more c → Foot α s c ∨ H c = none := fun c f => by
        rcases foot_grow c f with z | z | z
        · exact .inl z
        · rw [z]
          exact .inr (s1.free np1')
        · rw [z]
          exact .inr (s1.free np2')
      refine ⟨_, rfl, q (grow α s.n p1 p2) H3 a3 rfl (fun c o e nf => ?_) fr⟩
      exact c3 _ _ (c2 _ _ (s1 _ _ e) nf) fun f => (fr c f).elim nf fun z => by
        rw [z] at e
        cases e
    refine fin _ (a1.grow np1' np2' o2.2.2.1.symm ?_ ?_ ?_ ?_ ?_ ?_ ?_) ?_
    · rw [upd_ne nk.symm, upd_ne o2.2.2.2.symm, upd_ne nl.symm, upd_ne nf.symm, upd_ne d1, upd_same]
    · rw [upd_ne nkf.symm, upd_ne o2.2.1.symm, upd_ne nlf.symm, upd_same]
    · rw [upd_ne nkl.symm, upd_ne o2.1.symm, upd_same]
    · exact upd_same
    · rw [upd_ne k1.symm, upd_ne o2.2.2.1.symm, upd_ne l1.symm, upd_ne f1.symm, upd_same]
    · rw [upd_ne k2.symm, upd_same]
    · intro c o e z1 z2 z3 z4
      rw [upd_ne z4, upd_ne (ne_of_none e np2'), upd_ne z3, upd_ne z2, upd_ne (ne_of_none e np1'), upd_ne z1]
      exact e
    · exact (((((Chg.of_same (Same.refl _)).upd (.inl ⟨.den, trivial, rfl⟩)).upd (.inr np1')).upd (.inl ⟨.fil, trivial, rfl⟩)).upd (.inl ⟨.las, trivial, rfl⟩)).upd (.inr np2') |>.upd (.inl ⟨.kep, trivial, rfl⟩)
end
end Df
namespace Df
open PySem PySem.Spec PyProof.Rows L2
section
variable {J : It} {n : Nat} {G : Hp → Prop} {Y : Nat → Hp → V → Hp → Prop}
/-- a dict comprehension over a walk, without a test -/
theorem dc_cps0 (w : Walk J n G Y) {g : TG} {tk tv : TE} {vs : List Nat} {σ : L2.St} {H1 : Hp} {D : Addr} {Qd : Hp → Prop} (I : Nat → Hp → Prop) (h0 : I 0 (upd H1 D (.dK []))) (hG : ∀ i H, i ≤ n → I i H → G H)
    (hs : ∀ i x H H', i < n → I i H → Y i H x H' → g x (wipe σ vs) H' fun σ2 H2 => wipe σ2 vs = wipe σ vs ∧ tk σ2 H2 fun y H4 => tv σ2 H4 fun z H5 => ∃ kvs k, y = kV k ∧ H5 D = some (.dK kvs) ∧ kvs.length < sizeLine ∧ I (i + 1) (upd H5 D (.dK (putK kvs k z))))
    (hd : ∀ H, I n H → Qd H) :
    ∃ W : Nat → Nat → Hp → Prop, (∃ m, W 0 m (upd H1 D (.dK []))) ∧ ∀ i m H, W i m H →
      (J.stop i H ∧ Qd H) ∨ (J.go i H ∧ ∃ Nx : Hp → Prop, (∀ H', Nx H' → ∃ m', m' < m ∧ W (i + 1) m' H') ∧ ∀ x H', J.yld i H x H' → g x (wipe σ vs) H' fun σ2 H2 => wipe σ2 vs = wipe σ vs ∧ tYes σ2 H2 fun b H3 =>
        if b = true then tk σ2 H3 fun y H4 => tv σ2 H4 fun z H5 => ∃ kvs k, y = kV k ∧ H5 D = some (.dK kvs) ∧ kvs.length < sizeLine ∧ Nx (upd H5 D (.dK (putK kvs k z))) else Nx H3) := by
  refine ⟨fun i m H => m = n - i ∧ i ≤ n ∧ I i H, ⟨n, by simp, Nat.zero_le _, h0⟩, ?_⟩
  rintro i m H ⟨rfl, hi, p⟩
  have q := hG i H hi p
  by_cases hlt : i < n
  · exact .inr ⟨w.goes i H hlt q, I (i + 1), fun H' p' => ⟨n - (i + 1), by omega, rfl, hlt, p'⟩, fun x H' y => hs i x H H' hlt p (w.yields i H x H' hlt q y)⟩
  · have e : i = n := by omega
    subst e
    exact .inl ⟨w.stops H q, hd H p⟩
end
def PS0 (hs : List Str) : PS := ⟨hs, 0, fun _ => [], fun _ => [], fun _ => []⟩
theorem flds_build (a b c d : Addr) : putF "many" (vi 0) (putF "kept" (.ref d) (putF "last" (.ref c) (putF "filled" (.ref b) (putF "rows" (.ref a) [])))) = flds a b c d 0 := by kernel_rfl
theorem len_putF (f : Str) (v : V) : ∀ l : List (Str × V), (putF f v l).length ≤ l.length + 1
  | [] => Nat.le_refl _
  | (g, x) :: l => by
    unfold putF
    split
    · exact Nat.le_succ _
    · exact Nat.succ_le_succ (len_putF f v l)
theorem ne_mem {α : Type} {a b : α} {l : List α} (h : a ∈ l) (n : ¬ b ∈ l) : a ≠ b := fun e => n (by rw [← e]; exact h)
theorem put_kH {hs : List Str} {f : Str → Addr} {z : Str} {p : Addr} (h : ¬ z ∈ hs) : putK (kH hs f) (Sum.inr z : Key) (.ref p) = kH (hs ++ [z]) (fset f z p) := by
  rw [putK_new _ (by rw [val_kH, if_neg h])]
  unfold kH
  rw [List.map_append, List.map_singleton, fset_same]
  congr 1
  refine List.map_congr_left fun t ht => ?_
  show (Sum.inr t, V.ref (f t)) = (Sum.inr t, V.ref (fset f z p t))
  rw [fset_ne (ne_mem ht h)]
def role0 (p D b c d : Addr) (f : Str → Addr) : SV
  | .den => p
  | .rows => D
  | .row h => f h
  | .fil => b
  | .las => c
  | .kep => d
  | _ => 0
section
variable {P : Program} {w : World} {K : PySem.W.Frag} {mg : Str → Option Value} {base : Heap}
abbrev N_init : List Str := ["self", "hands", "hand"]
theorem sc_init : FnScope N_init ["self", "hands"] (defScope m_init) := ⟨rfl, rfl, rfl, by decide +kernel, rfl, by decide +kernel, by decide +kernel⟩
def spInit (K : PySem.W.Frag) : Sp := fun vs H Q _ => ∃ (p dx a : Addr) (hs : List Str), vs = [.ref p, .ref a] ∧ H p = some (.ins (stC K) dx []) ∧ H a = some (.lst (hs.map V.str)) ∧ 1 ≤ hs.length ∧ hs.length ≤ 6 ∧ (∀ z ∈ hs, NameOk z) ∧ hs.Nodup ∧
  ∀ α H', SA (stC K) dx α (PS0 hs) H' → α .den = p → (∀ c o, H c = some o → c ≠ p → H' c = some o) → (∀ c, Foot α (PS0 hs) c → c = p ∨ H c = none) → Q .non H'
theorem ok_init (T : Tx K mg) (h_want_hands : Cl P w K mg base "want_hands" 2 ["hands"] spWHands) : ∃ fd, FnOk P w K mg base CX0 3 (He.ma K (stC K) "__init__") fd ["self", "hands"] (spInit K) ∧ Binds K fd ["self", "hands"] [] := by
  obtain ⟨fd, F⟩ := T.fm_init
  refine ⟨fd, F.ok sc_init (fun vs H Q E h => ?_) (fun cdv A outer s H vs Q E hr h => ?_), F.bindsN fun _ _ _ _ _ _ us hl => match us, hl with | [_, _], _ => rfl⟩
  · obtain ⟨p, dx, a, hs, rfl, _⟩ := h
    rfl
  · obtain ⟨p, dx, a, hs, rfl, hp, ha, h1, h6, hN, nd, q⟩ := h
    refine ⟨_, PSs.nox (pss_cons (ps_expr (pe_cl h_want_hands hr (pa_cons (pv 1) pa_nil)))
      (pss_cons (ps_fld (pv 0) (pe_dc (own := [("hand", 2)]) rfl sc_init.nd (pi_list (pv 1)) (blkOk_by (own := [("hand", 2)]) (N := N_init) (sc := defScope m_init) (by decide +kernel)) (fun _ _ _ _ _ => pg_name (i := 2) sc_init.nd rfl (Or.inl rfl)) (fun _ _ _ _ _ => pts_nil) (fun _ _ _ _ _ => pv 2) (fun _ _ _ _ _ => pe_lst pa_nil)) rfl)
      (pss_cons (ps_fld (pv 0) pe_dnewK rfl)
      (pss_cons (ps_fld (pv 0) pe_dnewK rfl)
      (pss_cons (ps_fld (pv 0) pe_dnewK rfl)
      (pss_one (ps_fld (pv 0) pe_int rfl))))))), ?_⟩
    refine ⟨_, rfl, a, hs, rfl, ha, h1, h6, hN, nd, fun H1 s1 => ?_⟩
    have hp1 := s1 _ _ hp
    have ha1 := s1 _ _ ha
    refine ⟨_, rfl, a, rfl, ⟨_, SqL.of ha1⟩, fun D nD => ?_⟩
    refine dc_cps0 (walk_list (xs := hs.map V.str)) (fun i H' => Same H1 H' ∧ ∃ f : Str → Addr, H' D = some (.dK (kH (hs.take i) f)) ∧ (∀ z ∈ hs.take i, H' (f z) = some (.lst []) ∧ H1 (f z) = none) ∧ ∀ y ∈ hs.take i, ∀ z ∈ hs.take i, f y = f z → y = z) ⟨same_upd nD, fun _ => 0, upd_same, fun _ z => absurd z List.not_mem_nil, fun _ z => absurd z List.not_mem_nil⟩
      (fun i H' _ h => SqL.of (h.1 _ _ ha1)) (fun i x H' H'' hi hI y => ?_) (fun H' hI => ?_)
    · obtain ⟨s2, f, f1, f2, f3⟩ := hI
      obtain ⟨rfl, hx⟩ := y
      have hi' : i < hs.length := by rw [List.length_map] at hi; exact hi
      obtain ⟨z, hz⟩ : ∃ z, hs[i]? = some z := ⟨_, List.getElem?_eq_getElem hi'⟩
      have ex : x = .str z := by
        rw [List.getElem?_map, hz] at hx
        exact (Option.some.inj hx).symm
      subst ex
      have nz := nd_take nd hz
      refine ⟨rfl, _, rfl, Nat.zero_le _, fun l nl => ?_⟩
      have nDl : D ≠ l := ne_of_none f1 nl
      have et : hs.take (i + 1) = hs.take i ++ [z] := by rw [List.take_add_one, hz]; rfl
      refine ⟨_, Sum.inr z, rfl, by rw [upd_ne nDl]; exact f1, ?_, same_put (same_new s2 nl) nD, fset f z l, ?_, fun y hy => ?_, fun y hy y' hy' e => ?_⟩
      · unfold kH
        rw [List.length_map, List.length_take]
        exact small1000 (by omega)
      · rw [upd_same, put_kH nz, et]
      · rw [et] at hy
        rcases List.mem_append.mp hy with m | m
        · have ne : y ≠ z := ne_mem m nz
          obtain ⟨g1, g2⟩ := f2 y m
          rw [fset_ne ne]
          refine ⟨?_, g2⟩
          have n1 : f y ≠ D := ne_of g1 f1 (by nofun)
          rw [upd_ne n1, upd_ne (ne_of_none g1 nl)]
          exact g1
        · rw [List.mem_singleton.mp m, fset_same]
          exact ⟨by rw [upd_ne nDl.symm, upd_same], s2.free nl⟩
      · rw [et] at hy hy'
        rcases List.mem_append.mp hy with m | m <;> rcases List.mem_append.mp hy' with m' | m'
        · rw [fset_ne (ne_mem m nz), fset_ne (ne_mem m' nz)] at e
          exact f3 y m y' m' e
        · rw [List.mem_singleton.mp m', fset_same, fset_ne (ne_mem m nz)] at e
          exact absurd e (ne_of_none (f2 y m).1 nl)
        · rw [List.mem_singleton.mp m, fset_same, fset_ne (ne_mem m' nz)] at e
          exact absurd e.symm (ne_of_none (f2 y' m').1 nl)
        · rw [List.mem_singleton.mp m, List.mem_singleton.mp m']
    · obtain ⟨s2, f, f1, f2, f3⟩ := hI
      rw [List.length_map, List.take_length] at f1 f2 f3
      have pD : p ≠ D := ne_of_none hp1 nD
      have hp2 := s2 _ _ hp1
      refine ⟨_, rfl, p, _, dx, [], rfl, hp2, T.cl, T.n_rows, by decide, ?_⟩
      intro b nb
      have nb2 : b ≠ p ∧ H' b = none := by
        by_cases e : b = p
        · rw [e, upd_same] at nb
          cases nb
        · exact ⟨e, by rwa [upd_ne e] at nb⟩
      refine ⟨_, rfl, p, _, dx, _, rfl, by rw [upd_ne nb2.1.symm, upd_same], T.cl, T.n_filled, Nat.lt_of_le_of_lt (len_putF _ _ _) (by decide), ?_⟩
      intro c nc
      have nc2 : c ≠ p ∧ c ≠ b ∧ H' c = none := by
        by_cases e : c = p
        · rw [e, upd_same] at nc
          cases nc
        · rw [upd_ne e] at nc
          by_cases e2 : c = b
          · rw [e2, upd_same] at nc
            cases nc
          · exact ⟨e, e2, by rwa [upd_ne e2, upd_ne e] at nc⟩
      refine ⟨_, rfl, p, _, dx, _, rfl, by rw [upd_ne nc2.1.symm, upd_same], T.cl, T.n_last, Nat.lt_of_le_of_lt (Nat.le_trans (len_putF _ _ _) (Nat.succ_le_succ (len_putF _ _ _))) (by decide), ?_⟩
      intro d nd'
      have nd2 : d ≠ p ∧ d ≠ c ∧ d ≠ b ∧ H' d = none := by
        by_cases e : d = p
        · rw [e, upd_same] at nd'
          cases nd'
        · rw [upd_ne e] at nd'
          by_cases e3 : d = c
          · rw [e3, upd_same] at nd'
            cases nd'
          · rw [upd_ne e3, upd_ne e] at nd'
            by_cases e2 : d = b
            · rw [e2, upd_same] at nd'
              cases nd'
            · exact ⟨e, e3, e2, by rwa [upd_ne e2, upd_ne e] at nd'⟩
      refine ⟨_, rfl, p, _, dx, _, rfl, by rw [upd_ne nd2.1.symm, upd_same], T.cl, T.n_kept, Nat.lt_of_le_of_lt (Nat.le_trans (len_putF _ _ _) (Nat.succ_le_succ (Nat.le_trans (len_putF _ _ _) (Nat.succ_le_succ (len_putF _ _ _))))) (by decide), ?_⟩
      refine ⟨_, rfl, p, _, dx, _, rfl, upd_same, T.cl, T.n_many, Nat.lt_of_le_of_lt (Nat.le_trans (len_putF _ _ _) (Nat.succ_le_succ (Nat.le_trans (len_putF _ _ _) (Nat.succ_le_succ (Nat.le_trans (len_putF _ _ _) (Nat.succ_le_succ (len_putF _ _ _))))))) (by decide), ?_⟩
      rw [show putF "many" (V.int 0) (putF "kept" (.ref d) (putF "last" (.ref c) (putF "filled" (.ref b) (putF "rows" (.ref D) [])))) = flds D b c d 0 from flds_build D b c d]
      have Db : D ≠ b := ne_of_none f1 nb2.2
      have Dc : D ≠ c := ne_of_none f1 nc2.2.2
      have Dd : D ≠ d := ne_of_none f1 nd2.2.2.2
      have old : ∀ x o, H' x = some o → x ≠ p → upd (upd (upd (upd (upd (upd (upd (upd H' p (.ins (stC K) dx (putF "rows" (.ref D) []))) b (.dK [])) p (.ins (stC K) dx (putF "filled" (.ref b) (putF "rows" (.ref D) [])))) c (.dK [])) p (.ins (stC K) dx (putF "last" (.ref c) (putF "filled" (.ref b) (putF "rows" (.ref D) []))))) d (.dK [])) p (.ins (stC K) dx (putF "kept" (.ref d) (putF "last" (.ref c) (putF "filled" (.ref b) (putF "rows" (.ref D) [])))))) p (.ins (stC K) dx (flds D b c d 0)) x = some o := fun x o e ne => by
        rw [upd_ne ne, upd_ne ne, upd_ne (ne_of_none e nd2.2.2.2), upd_ne ne, upd_ne (ne_of_none e nc2.2.2), upd_ne ne, upd_ne (ne_of_none e nb2.2), upd_ne ne]
        exact e
      refine q (role0 p D b c d f) _ ⟨fun r l => ?_, fun r r' l l' e => ?_, fun t ht => absurd ht (Nat.not_lt_zero _)⟩ rfl (fun x o e ne => old x o (s2 _ _ (s1 _ _ e)) ne) (fun x hx => ?_)
      · cases r with
        | den => exact ⟨_, upd_same, rfl⟩
        | rows => exact ⟨_, old _ _ f1 pD.symm, rfl⟩
        | row h =>
          have hf : f h ≠ p := fun e => by
            have z := (f2 h l).2
            rw [e, hp1] at z
            cases z
          exact ⟨_, old _ _ (f2 h l).1 hf, rfl⟩
        | fil => exact ⟨.dK [], by show upd _ _ _ b = _; rw [upd_ne nb2.1, upd_ne nb2.1, upd_ne nd2.2.2.1.symm, upd_ne nb2.1, upd_ne nc2.2.1.symm, upd_ne nb2.1, upd_same], rfl⟩
        | las => exact ⟨.dK [], by show upd _ _ _ c = _; rw [upd_ne nc2.1, upd_ne nc2.1, upd_ne nd2.2.1.symm, upd_ne nc2.1, upd_same], rfl⟩
        | kep => exact ⟨.dK [], by show upd _ _ _ d = _; rw [upd_ne nd2.1, upd_ne nd2.1, upd_same], rfl⟩
        | slo t => exact absurd l (Nat.not_lt_zero _)
        | kpl t => exact absurd l (Nat.not_lt_zero _)
      · have fp : ∀ h ∈ hs, f h ≠ p ∧ f h ≠ D ∧ f h ≠ b ∧ f h ≠ c ∧ f h ≠ d := fun h hm => by
          obtain ⟨g1, g2⟩ := f2 h hm
          refine ⟨fun e => ?_, ne_of g1 f1 (by nofun), ne_of_none g1 nb2.2, ne_of_none g1 nc2.2.2, ne_of_none g1 nd2.2.2.2⟩
          rw [e, hp1] at g2
          cases g2
        cases r <;> cases r' <;> first
          | rfl
          | exact absurd l (Nat.not_lt_zero _)
          | exact absurd l' (Nat.not_lt_zero _)
          | exact congrArg Rl.row (f3 _ l _ l' e)
          | exact absurd e (fp _ l).1
          | exact absurd e (fp _ l).2.1
          | exact absurd e (fp _ l).2.2.1
          | exact absurd e (fp _ l).2.2.2.1
          | exact absurd e (fp _ l).2.2.2.2
          | exact absurd e.symm (fp _ l').1
          | exact absurd e.symm (fp _ l').2.1
          | exact absurd e.symm (fp _ l').2.2.1
          | exact absurd e.symm (fp _ l').2.2.2.1
          | exact absurd e.symm (fp _ l').2.2.2.2
          | exact absurd e pD
          | exact absurd e.symm pD
          | exact absurd e nb2.1
          | exact absurd e.symm nb2.1
          | exact absurd e nc2.1
          | exact absurd e.symm nc2.1
          | exact absurd e nd2.1
          | exact absurd e.symm nd2.1
          | exact absurd e Db
          | exact absurd e.symm Db
          | exact absurd e Dc
          | exact absurd e.symm Dc
          | exact absurd e Dd
          | exact absurd e.symm Dd
          | exact absurd e nc2.2.1
          | exact absurd e.symm nc2.2.1
          | exact absurd e nd2.2.1
          | exact absurd e.symm nd2.2.1
          | exact absurd e nd2.2.2.1
          | exact absurd e.symm nd2.2.2.1
      · obtain ⟨r, l, e⟩ := hx
        have fr : ∀ x, H' x = none → H x = none := fun x z => (s1.trans s2).free z
        cases r with
        | den => exact .inl e.symm
        | rows => exact .inr (e ▸ s1.free nD)
        | row h => exact .inr (e ▸ s1.free (f2 h l).2)
        | fil => exact .inr (e ▸ fr b nb2.2)
        | las => exact .inr (e ▸ fr c nc2.2.2)
        | kep => exact .inr (e ▸ fr d nd2.2.2.2)
        | slo t => exact absurd l (Nat.not_lt_zero _)
        | kpl t => exact absurd l (Nat.not_lt_zero _)
end
end Df
/-! own rule: sorted of tuples of ints of any lengths (the empty one too), any number of them: some arrangement -/
namespace Df
open PySem PySem.Spec PyProof.Rows L2
/-! ### the order of rows of ints -/
theorem lex_asym : ∀ x y : List Int, HT.lexLt x y = true → HT.lexLt y x = false
  | [], [], h => rfl
  | [], _ :: _, _ => rfl
  | _ :: _, [], h => by cases h
  | a :: x, b :: y, h => by
    rw [HT.lexLt_cons] at h ⊢
    by_cases e : a = b
    · subst e
      rw [if_pos rfl] at h ⊢
      exact lex_asym x y h
    · rw [if_neg e] at h
      rw [if_neg (fun z => e z.symm)]
      have := of_decide_eq_true h
      exact decide_eq_false (by omega)
theorem lex_tr : ∀ x y z : List Int, HT.lexLt y x = false → HT.lexLt z y = false → HT.lexLt z x = false
  | [], [], [], _, _ => rfl
  | [], [], _ :: _, _, _ => rfl
  | [], _ :: _, [], _, _ => rfl
  | [], _ :: _, _ :: _, _, _ => rfl
  | _ :: _, [], _, h, _ => by cases h
  | _ :: _, _ :: _, [], _, h => by cases h
  | a :: x, b :: y, c :: z, h1, h2 => by
    rw [HT.lexLt_cons] at h1 h2 ⊢
    by_cases e1 : b = a
    · subst e1
      rw [if_pos rfl] at h1
      by_cases e2 : c = b
      · subst e2
        rw [if_pos rfl] at h2 ⊢
        exact lex_tr x y z h1 h2
      · rw [if_neg e2] at h2 ⊢
        exact h2
    · rw [if_neg e1] at h1
      have g1 := of_decide_eq_false h1
      by_cases e2 : c = b
      · subst e2
        rw [if_neg e1]
        exact h1
      · rw [if_neg e2] at h2
        have g2 := of_decide_eq_false h2
        rw [if_neg (by omega)]
        exact decide_eq_false (by omega)
theorem swo_rows (k : Value → List Int) : SrtO.Swo fun v u => HT.lexLt (k v) (k u) := ⟨fun x y h => lex_asym _ _ h, fun x y z h1 h2 => lex_tr _ _ _ h1 h2⟩
/-! ### the values -/
/-- v is a tuple of these ints -/
def IsRow (h : Heap) (v : Value) (ns : List Int) : Prop := ∃ (a : Addr) (o : Obj) (xs : Array Value) (n : Nat), v = .ref a ∧ h.get? a = some o ∧ o.cls = .type "tuple" ∧ o.data = .seq xs n ∧ IntsAre xs.toList ns
theorem IsRow.keeps {h h' : Heap} {v : Value} {ns : List Int} (x : IsRow h v ns) (k : ∀ b o, h.get? b = some o → o.cls = .type "tuple" → h'.get? b = some o) : IsRow h' v ns := by
  obtain ⟨a, o, xs, n, e, ho, hc, hd, i⟩ := x
  exact ⟨a, o, xs, n, e, k _ _ ho hc, hc, hd, i⟩
section
variable {prog : Program} {w : World} {A : Around} {E : Value → Shared → Prop} {s : Shared}
theorem rows_lex {Q : Bool → Shared → Prop} : ∀ {xs ys : List Value} {ns ms : List Int} (i : Nat), IntsAre xs ns → IntsAre ys ms → Q (HT.lexLt ns ms) s → PySem.W.KatLex prog w A true (decide (ns.length < ms.length)) Q (xs.zip ys) i s := by
  intro xs ys ns ms i hx
  induction hx generalizing ys ms i with
  | nil =>
    intro hy h
    cases hy with
    | nil => exact PySem.W.kat_nil h
    | cons q u hy => exact PySem.W.kat_nil h
  | @cons p t xs ns hx ih =>
    intro hy h
    cases hy with
    | nil => exact PySem.W.kat_nil h
    | @cons q u ys ms hy =>
      show PySem.W.KatLex prog w A true _ Q ((Value.int p t, Value.int q u) :: xs.zip ys) i s
      rw [HT.lexLt_cons] at h
      refine PySem.W.kat_cons (wpAny_eqBool_int ?_)
      by_cases e : p = q
      · subst e
        rw [beq_self_eq_true]
        rw [if_pos rfl] at h
        refine PySem.W.kat_yes ?_
        have z := ih (i + 1) hy h
        rw [show decide ((p :: ns).length < (p :: ms).length) = decide (ns.length < ms.length) from decide_eq_decide.mpr (by simp)]
        exact z
      · rw [if_neg e] at h
        rw [show (p == q) = false from beq_eq_false_iff_ne.mpr e]
        exact PySem.W.kat_no (TS.oneLt_ints _ h)
theorem row_lt {v u : Value} {ns ms : List Int} {Q : Value → Shared → Prop} (hv : IsRow s.heap v ns) (hu : IsRow s.heap u ms) (hr : A.units < cLine) (h : Q (.bool (HT.lexLt ns ms)) s) : wpAny (model prog w) A (compareOp .Lt v u) Q E s := by
  obtain ⟨a, o, xs, n, rfl, ho, hc, hd, i⟩ := hv
  obtain ⟨b, p, ys, m, rfl, hp, hc2, hd2, j⟩ := hu
  exact HT.lt_tupInts ⟨o, ho, hc, n, hd⟩ ⟨p, hp, hc2, m, hd2⟩ i j hr h
/-- all tuples with an item -/
theorem cmp_tuples {vs : List Value} {k : Value → List Int} (hp : ∀ v ∈ vs, IsRow s.heap v (k v)) : SrtO.Cmp prog w A s (tuples' true) (fun p => p.1 ∈ vs) (SrtO.lt2 fun v u => HT.lexLt (k v) (k u)) := by
  intro p q hm hm'
  show wpAny (model prog w) A (keyLt' (tuples' true) p.1 q.1) (fun r s' => s' = s ∧ r = HT.lexLt (k p.1) (k q.1)) (fun _ _ => False) s
  have h1 := hp _ hm
  have h2 := hp _ hm'
  generalize k p.1 = ns at h1 ⊢
  generalize k q.1 = ms at h2 ⊢
  obtain ⟨a, o, xs, n, e, ho, hc, hd, i⟩ := h1
  obtain ⟨b, u, ys, m, e', hu, hc2, hd2, j⟩ := h2
  rw [e, e']
  refine PySem.W.kat_lt ho hd hu hd2 ?_
  have l1 := i.length
  have l2 := j.length
  rw [Array.length_toList] at l1 l2
  rw [l1, l2]
  exact rows_lex 0 i j ⟨rfl, rfl⟩
theorem cmp_general {vs : List Value} {k : Value → List Int} (hr : A.units < cLine) (hp : ∀ v ∈ vs, IsRow s.heap v (k v)) : SrtO.Cmp prog w A s general' (fun p => p.1 ∈ vs) (SrtO.lt2 fun v u => HT.lexLt (k v) (k u)) := by
  intro p q hm hm'
  show wpAny (model prog w) A (oneLt' false p.1 q.1) (fun r s' => s' = s ∧ r = HT.lexLt (k p.1) (k q.1)) (fun _ _ => False) s
  exact PySem.W.kat_one _ _ (row_lt (hp _ hm) (hp _ hm') hr (show PySem.W.BoolBack _ _ _ from ⟨rfl, rfl⟩))
theorem cmp_oneType {vs : List Value} {k : Value → List Int} (hr : A.units < cLine) (hp : ∀ v ∈ vs, IsRow s.heap v (k v)) : SrtO.Cmp prog w A s oneType' (fun p => p.1 ∈ vs) (SrtO.lt2 fun v u => HT.lexLt (k v) (k u)) := by
  intro p q hm hm'
  show wpAny (model prog w) A (oneLt' true p.1 q.1) (fun r s' => s' = s ∧ r = HT.lexLt (k p.1) (k q.1)) (fun _ _ => False) s
  have h1 := hp _ hm
  have h2 := hp _ hm'
  generalize k p.1 = ns at h1 ⊢
  generalize k q.1 = ms at h2 ⊢
  obtain ⟨a, ⟨cls, dd, data, sl⟩, xs, n, e, ho, hc, hd, i⟩ := h1
  obtain ⟨b, ⟨cls2, dd2, data2, sl2⟩, ys, m, e', hu, hc2, hd2, j⟩ := h2
  simp only at hc hd hc2 hd2
  subst hc hd hc2 hd2
  rw [e, e', oneLt'_eq]
  simp only [if_true]
  refine wpAny_bind (wpAny_cRoomFor hr ?_)
  refine wpAny_bind (wpAny_callSpecialIfBound?_slot ⟨_, ho, rfl⟩ PySem.F.slot_tuple_lt ?_)
  refine call_meets PySem.F.slot_tuple_lt ⟨_, ho, rfl⟩ PySem.F.entry_tuple_lt (PySem.F.args_tuple_lt_2 _ _) (HT.tuple_lt_ints a b xs ys n m dd dd2 sl sl2 ns ms i j) ⟨ho, hu, ?_⟩
  exact wpAny_truthy_bool ⟨rfl, rfl⟩
end
section
variable {prog : Program} {w : World} {A : Around} {E : Value → Shared → Prop} {s : Shared}
/-- the first items, where there are such -/
def FstO (h : Heap) : List Value → List (Option Value) → Prop
  | [], [] => True
  | v :: vs, f :: fs => (∃ a o xs n, v = .ref a ∧ h.get? a = some o ∧ o.cls = .type "tuple" ∧ o.data = .seq xs n ∧ xs[0]? = f) ∧ FstO h vs fs
  | _, _ => False
theorem fstO_len {h : Heap} : ∀ {vs : List Value} {fs : List (Option Value)}, FstO h vs fs → fs.length = vs.length
  | [], [], _ => rfl
  | [], _ :: _, t => t.elim
  | _ :: _, [], t => t.elim
  | _ :: _, _ :: _, t => congrArg Nat.succ (fstO_len t.2)
theorem fstO_run {M : Model} : ∀ (vs : List Value) (fs : List (Option Value)) {Q : List (Option Value) → Shared → Prop}, FstO s.heap vs fs → Q fs s → wpAny M A (vs.mapM firstOfTuple') Q E s
  | [], [], _, _, h => by rw [List.mapM_nil]; exact wpAny_pure h
  | [], _ :: _, _, t, _ => t.elim
  | _ :: _, [], _, t, _ => t.elim
  | v :: vs, f :: fs, Q, t, h => by
    obtain ⟨⟨a, o, xs, n, rfl, ho, hc, hd, hf⟩, t⟩ := t
    have ty : PySem.W.Looks M s.heap (typeOf (.ref a)) (.type "tuple") := by
      rw [← hc]
      exact (PySem.W.Looks.ld ho).andThen .now
    rw [List.mapM_cons, PySem.W.kas_first_eq]
    refine wpAny_bind (wpAny_bind (ty.here ?_))
    rw [if_neg (by simp)]
    refine wpAny_bind (listItems_at ho hd (wpAny_pure ?_))
    rw [hf]
    exact wpAny_bind (fstO_run vs fs (Q := fun bs s' => wpAny M A (pure (f :: bs)) Q E s') t (wpAny_pure h))
theorem rows_first {h : Heap} {k : Value → List Int} : ∀ vs : List Value, (∀ v ∈ vs, IsRow h v (k v)) → ∃ fs, FstO h vs fs ∧ (∀ f ∈ fs, f = none ∨ ∃ n t, f = some (Value.int n t)) ∧ ((∀ v ∈ vs, k v ≠ []) → ∀ f ∈ fs, f ≠ none) ∧ ((∃ v ∈ vs, k v = []) → none ∈ fs)
  | [], _ => ⟨[], trivial, fun _ z => absurd z List.not_mem_nil, fun _ _ z => absurd z List.not_mem_nil, fun ⟨_, z, _⟩ => absurd z List.not_mem_nil⟩
  | v :: vs, hv => by
    obtain ⟨fs, h1, h2, h3, h4⟩ := rows_first vs fun u hu => hv u (List.mem_cons_of_mem _ hu)
    obtain ⟨a, o, xs, n, e, ho, hc, hd, i⟩ := hv v List.mem_cons_self
    have e0 : xs[0]? = xs.toList[0]? := by rw [Array.getElem?_toList]
    have key : (xs[0]? = none ∧ k v = []) ∨ (∃ n t, xs[0]? = some (Value.int n t)) ∧ k v ≠ [] := by
      rw [e0]
      generalize xs.toList = l at i
      generalize k v = ns at i
      cases i with
      | nil => exact .inl ⟨rfl, rfl⟩
      | cons q u _ => exact .inr ⟨⟨q, u, rfl⟩, by nofun⟩
    refine ⟨xs[0]? :: fs, ⟨⟨a, o, xs, n, e, ho, hc, hd, rfl⟩, h1⟩, fun f hf => ?_, fun ha f hf => ?_, fun ⟨u, hu, eu⟩ => ?_⟩
    · rcases List.mem_cons.mp hf with z | z
      · rw [z]
        rcases key with q | q
        · exact .inl q.1
        · exact .inr q.1
      · exact h2 f z
    · rcases List.mem_cons.mp hf with z | z
      · rw [z]
        rcases key with q | ⟨⟨n, t, q⟩, _⟩
        · exact absurd q.2 (ha v List.mem_cons_self)
        · rw [q]
          nofun
      · exact h3 (fun u hu => ha u (List.mem_cons_of_mem _ hu)) f z
    · rcases List.mem_cons.mp hu with z | z
      · subst z
        rcases key with q | q
        · exact List.mem_cons.mpr (.inl q.1.symm)
        · exact absurd eu q.2
      · exact List.mem_cons_of_mem _ (h4 ⟨u, z, eu⟩)
theorem tups_of {h : Heap} : ∀ {vs : List Value} {fs : List (Option Value)}, FstO h vs fs → (∀ f ∈ fs, ∃ n t, f = some (Value.int n t)) → ∃ gs, PySem.W.KatTups h vs gs ∧ gs.length = vs.length ∧ ∀ g ∈ gs, ∃ n t, g = Value.int n t
  | [], [], _, _ => ⟨[], trivial, rfl, fun _ z => absurd z List.not_mem_nil⟩
  | [], _ :: _, t, _ => t.elim
  | _ :: _, [], t, _ => t.elim
  | v :: vs, f :: fs, t, hf => by
    obtain ⟨⟨a, o, xs, n, e, ho, hc, hd, e0⟩, t⟩ := t
    obtain ⟨gs, g1, g2, g3⟩ := tups_of t fun u hu => hf u (List.mem_cons_of_mem _ hu)
    obtain ⟨m, u, em⟩ := hf f List.mem_cons_self
    refine ⟨.int m u :: gs, ?_, congrArg Nat.succ g2, fun g hg => ?_⟩
    · rw [e]
      exact PySem.W.KatTups.cons ho hc hd (by rw [e0, em]) g1
    · rcases List.mem_cons.mp hg with z | z
      · exact ⟨m, u, z⟩
      · exact g3 g z
/-- their kind is found -/
theorem rows_kind {vs : List Value} {k : Value → List Int} (h0 : 0 < vs.length) (hr : A.units < cLine) (hp : ∀ v ∈ vs, IsRow s.heap v (k v)) : ∃ κ, (∀ (Q : SortKind → Shared → Prop) (E : Value → Shared → Prop), Q κ s → wpAny (model prog w) A (keyKind' vs.toArray) Q E s) ∧
    SrtO.Cmp prog w A s κ (fun p => p.1 ∈ vs) (SrtO.lt2 fun v u => HT.lexLt (k v) (k u)) := by
  obtain ⟨fs, h1, h2, h3, h4⟩ := rows_first vs hp
  by_cases ha : ∀ v ∈ vs, k v ≠ []
  · have hf : ∀ f ∈ fs, ∃ n t, f = some (Value.int n t) := fun f hf => (h2 f hf).elim (fun z => absurd z (h3 ha f hf)) id
    obtain ⟨gs, g1, g2, g3⟩ := tups_of h1 hf
    refine ⟨tuples' true, fun Q E hq => ?_, cmp_tuples hp⟩
    refine PySem.W.kat_kind (T := .type "int") g1 (by omega) (fun f hm => ?_) (by rfl) ?_
    · obtain ⟨x, t, rfl⟩ := g3 f hm
      exact PySem.W.Looks.now
    · have e : (Value.type "int" != Value.type "tuple") = true := by first | decide +kernel | rfl | decide
      rw [e]
      exact hq
  · have hn : none ∈ fs := h4 (Classical.byContradiction fun z => ha fun v hv e => z ⟨v, hv, e⟩)
    have hall : (fs.toArray.all fun x => x.isSome) = false := by
      rw [List.all_toArray, List.all_eq_false]
      exact ⟨none, hn, by simp⟩
    cases e0 : (fs.toArray[0]?.bind id).isSome with
    | true =>
      refine ⟨general', fun Q E hq => ?_, cmp_general hr hp⟩
      rw [kat_kind_eq, List.mapM_toArray, map_eq_pure_bind]
      refine wpAny_bind (wpAny_bind (fstO_run vs fs h1 (wpAny_pure ?_)))
      rw [hall, if_neg (by simp), e0, if_pos rfl]
      exact wpAny_pure hq
    | false =>
      refine ⟨oneType', fun Q E hq => ?_, cmp_oneType hr hp⟩
      rw [kat_kind_eq, List.mapM_toArray, map_eq_pure_bind]
      refine wpAny_bind (wpAny_bind (fstO_run vs fs h1 (wpAny_pure ?_)))
      rw [hall, if_neg (by simp), e0, if_neg (by simp), oneTypeOnly'_eq, List.mapM_toArray, map_eq_pure_bind]
      have hT : ∀ v ∈ vs, PySem.W.Looks (model prog w) s.heap (typeOf v) (.type "tuple") := fun v hv => by
        obtain ⟨a, o, xs, n, e, ho, hc, hd, i⟩ := hp v hv
        rw [e, ← hc]
        exact (PySem.W.Looks.ld ho).andThen .now
      refine wpAny_bind (wpAny_bind (wpAny_bind (PySem.W.kas_mapM (r := Value.type "tuple") _ (fun v hv Q' hq => (hT v hv).here hq) (wpAny_pure ?_))))
      obtain ⟨v, r, rfl⟩ : ∃ v r, vs = v :: r := by
        match vs, h0 with
        | v :: r, _ => exact ⟨v, r, rfl⟩
      have hall2 : ((List.map (fun _ => Value.type "tuple") (v :: r)).toArray.all fun x => x == Value.type "tuple") = true := by
        simp only [List.all_toArray, List.all_map, List.all_eq_true]
        intro _ _
        rfl
      have h00 : (List.map (fun _ => Value.type "tuple") (v :: r)).toArray[0]? = some (Value.type "tuple") := by simp
      rw [h00]
      simp only [hall2, if_true]
      exact wpAny_pure (wpAny_pure hq)
end
theorem perm_map_back {α β : Type} {f : α → β} {l m : List β} (p : l.Perm m) : ∀ es : List α, m = es.map f → ∃ es' : List α, es'.Perm es ∧ l = es'.map f := by
  induction p with
  | nil => intro es e; cases es with
    | nil => exact ⟨[], .refl _, rfl⟩
    | cons _ _ => cases e
  | cons x _ ih => intro es e; cases es with
    | nil => cases e
    | cons a es =>
      obtain ⟨e1, e2⟩ := List.cons.inj e
      obtain ⟨es', p', q⟩ := ih es e2
      exact ⟨a :: es', p'.cons a, by rw [List.map_cons, ← q, ← e1]⟩
  | swap x y l => intro es e; match es, e with
    | a :: b :: es, e =>
      obtain ⟨e1, e2⟩ := List.cons.inj e
      obtain ⟨e3, e4⟩ := List.cons.inj e2
      exact ⟨b :: a :: es, List.Perm.swap _ _ _, by rw [List.map_cons, List.map_cons, ← e1, ← e3, ← e4]⟩
  | trans _ _ ih1 ih2 =>
    intro es e
    obtain ⟨es2, p2, q2⟩ := ih2 es e
    obtain ⟨es1, p1, q1⟩ := ih1 es2 q2
    exact ⟨es1, p1.trans p2, q1⟩
/-- sorted(xs), xs a list of tuples of ints: a new list of these, in some order -/
def rSortedH (K : PySem.W.Frag) : List V → Hp → VK → Prop := fun vs H Q => ∃ (a : Addr) (es : List (Addr × Hold)), vs = [V.ref a] ∧ SqL K H a (es.map fun e => V.ref e.1) ∧ (∀ e ∈ es, H e.1 = some (.tup (e.2.map vi))) ∧
  ∀ (es' : List (Addr × Hold)) (p : Addr), es'.Perm es → H p = none → Q (.ref p) (upd H p (.lst (es'.map fun e => V.ref e.1)))
theorem cr_sortedH {X : Cx} (hu : X.A.units + 64 < cLine) : CallR X (.builtin "sorted") (rSortedH X.K) := by
  intro pins s σ H vs us Q I r h
  obtain ⟨a, es, rfl, hs, hx, q⟩ := h
  obtain ⟨its, rv, hl, hz⟩ := I.list hs
  obtain ⟨u, rfl, ru⟩ := vals1 r
  obtain rfl : u = Value.ref a := ru
  obtain ⟨e1, e2⟩ := refs_back rv fun x m => by
    obtain ⟨e, _, z⟩ := List.mem_map.mp m
    exact ⟨e.1, z.symm⟩
  -- which ints a value's tuple has
  have hrow : ∀ v ∈ its, ∃ ns, IsRow s.heap v ns := fun v hv => by
    obtain ⟨b, rfl⟩ := e2 v hv
    have hm : V.ref b ∈ es.map fun e => V.ref e.1 := by rw [e1]; exact List.mem_map.mpr ⟨_, hv, rfl⟩
    obtain ⟨e, he, z⟩ := List.mem_map.mp hm
    have ht := hx e he
    rw [V.ref.inj z] at ht
    obtain ⟨_, its2, r2, o, ho, hc, n, hd⟩ := I.hok _ _ ht
    have r3 : Vals ((e.2.map fun (t : Nat) => (t : Int)).map V.int) its2 := by
      rw [List.map_map]
      exact r2
    exact ⟨_, b, o, its2.toArray, n, rfl, ho, hc, hd, ints_of_vals r3⟩
  obtain ⟨k, hk⟩ : ∃ k : Value → List Int, ∀ v ∈ its, IsRow s.heap v (k v) := ⟨fun v => Classical.epsilon fun ns => IsRow s.heap v ns, fun v hv => Classical.epsilon_spec (hrow v hv)⟩
  refine SrtO.sorted_ord (swo_rows k) hl.isList (by rw [← rv.length]; exact hz) (fun h2 h₁ a' ha' kk => ?_) fun out h1 h2 => ?_
  · intro h' keep
    refine rows_kind (s := { s with heap := h' }) (A := X.A.in1.in1) (by omega) (by show X.A.units + 1 + 1 < cLine; omega) fun v hv => (hk v hv).keeps fun b o e c => keep b o (kk b o e).1 (kk b o e).2
  · obtain ⟨ep, he'⟩ := PyProof.Rows.sortedAll_at s.heap its out.toArray
    have h3 : ∀ u ∈ out, ∃ a, u = Value.ref a := fun u hu => e2 u (h2.perm.mem_iff.mp hu)
    have pm : (out.map backV).Perm (its.map backV) := h2.perm.map backV
    obtain ⟨es', p', q'⟩ := perm_map_back pm es (by rw [← e1])
    have hlen : (es'.map fun e => V.ref e.1).length ≤ sizeLine := by
      rw [List.length_map, p'.length_eq]
      rw [List.length_map] at hz
      exact hz
    refine ⟨.ref _, upd H (s.heap.objs.size + 1) (.lst (es'.map fun e => V.ref e.1)), I.laid (t' := s.toks) (fun _ _ => PyProof.Rows.sortedAll_old) (Nat.le_succ _) ⟨hlen, out, ep, by rw [← q']; exact vals_back h3, he'⟩, rfl, q _ _ p' (I.hok.fresh (Nat.le_succ _))⟩
end Df
/-! what can be come to: plain -/
namespace Df
inductive Come (K : Nat → List Hold) (n : Nat) : Nat → Prop
  | mk {t : Nat} {h : Hold} : t < n → h ∈ K t → (∀ x ∈ h, Come K n x) → Come K n t
def okB (K : Nat → List Hold) (kn : List Nat) (t : Nat) : Bool := (K t).any fun h => h.all fun x => decide (x ∈ kn)
theorem okB_iff {K : Nat → List Hold} {kn : List Nat} {t : Nat} : okB K kn t = true ↔ ∃ h ∈ K t, ∀ x ∈ h, x ∈ kn := by
  unfold okB
  rw [List.any_eq_true]
  constructor
  · rintro ⟨h, h1, h2⟩
    exact ⟨h, h1, fun x hx => of_decide_eq_true (List.all_eq_true.mp h2 x hx)⟩
  · rintro ⟨h, h1, h2⟩
    exact ⟨h, h1, List.all_eq_true.mpr fun x hx => decide_eq_true (h2 x hx)⟩
def Closed (K : Nat → List Hold) (n : Nat) (kn : List Nat) : Prop := ∀ t, t < n → okB K kn t = true → t ∈ kn
theorem Come.lt {K : Nat → List Hold} {n t : Nat} (c : Come K n t) : t < n := by
  cases c with
  | mk h1 _ _ => exact h1
theorem Come.in_closed {K : Nat → List Hold} {n : Nat} {kn : List Nat} (hc : Closed K n kn) {t : Nat} (c : Come K n t) : t ∈ kn := by
  induction c with
  | mk h1 h2 _ ih => exact hc _ h1 (okB_iff.mpr ⟨_, h2, ih⟩)
theorem nodup_le : ∀ (n : Nat) (l : List Nat), l.Nodup → (∀ x ∈ l, x < n) → l.length ≤ n
  | 0, l, _, h => by
    cases l with
    | nil => exact Nat.le_refl _
    | cons a l => exact absurd (h a List.mem_cons_self) (Nat.not_lt_zero _)
  | n + 1, l, nd, h => by
    have h1 : (l.erase n).length ≤ n := nodup_le n (l.erase n) (nd.erase n) fun x hx => by
      obtain ⟨h2, h3⟩ := (nd.mem_erase_iff).mp hx
      have := h x h3
      omega
    have h2 : l.length ≤ (l.erase n).length + 1 := by
      by_cases m : n ∈ l
      · rw [List.length_erase_of_mem m]
        omega
      · rw [List.erase_of_not_mem m]
        omega
    omega
theorem okB_mono {K : Nat → List Hold} {kn kn' : List Nat} {t : Nat} (h : ∀ x ∈ kn, x ∈ kn') (o : okB K kn t = true) : okB K kn' t = true := by
  obtain ⟨a, h1, h2⟩ := okB_iff.mp o
  exact okB_iff.mpr ⟨a, h1, fun x hx => h x (h2 x hx)⟩
open Classical in
noncomputable def comeL (K : Nat → List Hold) (n : Nat) : List Nat := (List.range n).filter fun t => decide (Come K n t)
open Classical in
noncomputable def lostL (K : Nat → List Hold) (n : Nat) : List Nat := (List.range n).filter fun t => decide (¬ Come K n t)
open Classical in
theorem mem_comeL {K : Nat → List Hold} {n t : Nat} : t ∈ comeL K n ↔ Come K n t := by
  unfold comeL
  rw [List.mem_filter, decide_eq_true_eq]
  exact ⟨fun z => z.2, fun z => ⟨List.mem_range.mpr z.lt, z⟩⟩
open Classical in
theorem mem_lostL {K : Nat → List Hold} {n t : Nat} : t ∈ lostL K n ↔ t < n ∧ ¬ Come K n t := by
  unfold lostL
  rw [List.mem_filter, decide_eq_true_eq, List.mem_range]
theorem comeL_lt {K : Nat → List Hold} {n : Nat} : (comeL K n).Pairwise (· < ·) := by
  unfold comeL
  exact List.pairwise_lt_range.filter _
open Classical in
theorem lostL_eq {β : Type} {K : Nat → List Hold} {n : Nat} {kn : List Nat} (f : Nat → β) (h : ∀ t, t ∈ kn ↔ Come K n t) : (List.range n).filterMap (fun i => if i ∈ kn then none else some (f i)) = (lostL K n).map f := by
  unfold lostL
  induction List.range n with
  | nil => rfl
  | cons t r ih =>
    rw [List.filterMap_cons, List.filter_cons]
    by_cases mem : t ∈ kn
    · rw [if_pos mem, decide_eq_false (fun z => z ((h t).mp mem)), if_neg (by simp)]
      exact ih
    · rw [if_neg mem, decide_eq_true (show ¬ Come K n t from fun z => mem ((h t).mpr z)), if_pos rfl, List.map_cons, ← ih]
end Df
namespace Df
open PySem PySem.Spec PyProof.Rows L2
/-- a dict whose keys are these things -/
def KD (H : Hp) (d : Addr) (kn : List Nat) : Prop := ∃ kvs : List (Key × V), H d = some (.dK kvs) ∧ kvs.map (·.1) = kn.map fun (t : Nat) => (Sum.inl (t : Int) : Key)
theorem valV_key {kvs : List (Key × V)} {kn : List Nat} (h : kvs.map (·.1) = kn.map fun (t : Nat) => (Sum.inl (t : Int) : Key)) (t : Nat) : (valV kvs (Sum.inl (t : Int) : Key)).isSome = decide (t ∈ kn) := by
  cases e : valV kvs (Sum.inl (t : Int) : Key) with
  | none =>
    have n := valV_not e
    rw [h] at n
    exact (decide_eq_false fun m => n (List.mem_map.mpr ⟨t, m, rfl⟩)).symm
  | some v =>
    have n := valV_in e
    rw [h] at n
    obtain ⟨u, h1, h2⟩ := List.mem_map.mp n
    have eu : u = t := Int.ofNat.inj (Sum.inl.inj h2)
    exact (decide_eq_true (eu ▸ h1)).symm
theorem range_getD {α β : Type} (g : α → β) (d : α) : ∀ l : List α, (List.range l.length).map (fun i => g (l.getD i d)) = l.map g := fun l => by
  refine List.ext_getElem (by simp) fun i h1 h2 => ?_
  simp only [List.length_map, List.length_range] at h1
  simp [h1]
section
variable {P : Program} {w : World} {K : PySem.W.Frag} {mg : Str → Option Value} {base : Heap}
abbrev N_holds_of : List Str := ["store", "thing"]
theorem sc_holds_of : FnScope N_holds_of ["store", "thing"] (defScope s_holds_of) := ⟨rfl, rfl, rfl, by decide +kernel, rfl, by decide +kernel, by decide +kernel⟩
def spHoldsOf (K : PySem.W.Frag) : Sp := fun vs H Q _ => ∃ (dx : Addr) (α : SV) (s : PS) (t : Nat), vs = [.ref (α .den), vi t] ∧ SA (stC K) dx α s H ∧ t < s.n ∧ ∀ (H' : Hp) (l : Addr) (es : List (Addr × Hold)), Same H H' → H l = none → H' l = some (.lst (es.map fun e => V.ref e.1)) → (∀ e ∈ es, H' e.1 = some (.tup (e.2.map vi))) → (es.map (·.2)).Perm (s.K t) → Q (.ref l) H'
theorem ok_holds_of (T : Tx K mg) (h_want_thing : Mt P w K mg base "want_thing" 4 ["self", "thing"] (spWThing K)) : Cl P w K mg base "holds_of" 5 ["store", "thing"] (spHoldsOf K) := by
  refine Cl.of T.f_holds_of T.gl_holds_of sc_holds_of (fun _ _ _ _ _ _ us hl => match us, hl with | [_, _], _ => rfl) (fun vs H Q E h => ?_) (fun cdv A outer s H vs Q E hr h => ?_)
  · obtain ⟨dx, α, s, t, rfl, _⟩ := h
    rfl
  · obtain ⟨dx, α, s, t, rfl, a, ht, q⟩ := h
    have hu := hu_of hr
    refine ⟨_, (pss_cons (ps_expr (pe_mt h_want_thing hr (pv 0) (pa_cons (pv 1) pa_nil)))
      (pss_one (ps_ret (pe_callB (cr_sortedH hr.units) (by rfl) T.b_sorted (by decide +kernel) (pa_cons (pe_dget hu (pe_fld (pv 0) rfl) (pv 1) (fun _ _ => rfl)) pa_nil))))), ?_⟩
    obtain ⟨es, e1, e2, e3⟩ := a.kpl ht
    refine ⟨_, rfl, _, _, _, rfl, a.den, nomt, _, rfl, dx, α, s, t, rfl, a, ht, ?_⟩
    refine ⟨_, rfl, _, _, _, _, _, rfl, a.den, T.cl, T.n_kept, flds_kept _ _ _ _ _, _, rfl, _, _, rfl, dget_t a.kep ht, _, es, rfl, SqL.of e2, e3, fun es' l pm nl => ?_⟩
    exact q _ l es' (same_upd nl) nl upd_same (fun e he => by rw [upd_ne (ne_of_none (e3 e (pm.mem_iff.mp he)) nl)]; exact e3 e (pm.mem_iff.mp he)) (by rw [← e1]; exact pm.map _)
abbrev N_hold_within : List Str := ["store", "thing", "known", "hold", "holder"]
theorem sc_hold_within : FnScope N_hold_within ["store", "thing", "known"] (defScope s_hold_within) := ⟨rfl, rfl, rfl, by decide +kernel, rfl, by decide +kernel, by decide +kernel⟩
def spWithin (K : PySem.W.Frag) : Sp := fun vs H Q _ => ∃ (dx : Addr) (α : SV) (s : PS) (t : Nat) (d : Addr) (kn : List Nat), vs = [.ref (α .den), vi t, .ref d] ∧ SA (stC K) dx α s H ∧ t < s.n ∧ KD H d kn ∧ (∀ h ∈ s.K t, h.length ≤ 1000) ∧ ∀ H', Same H H' → (okB s.K kn t = true → ∀ r, Q (.ref r) H') ∧ (okB s.K kn t = false → Q .non H')
theorem ok_hold_within (T : Tx K mg) (h_holds_of : Cl P w K mg base "holds_of" 5 ["store", "thing"] (spHoldsOf K)) : Cl P w K mg base "hold_within" 6 ["store", "thing", "known"] (spWithin K) := by
  refine Cl.of T.f_hold_within T.gl_hold_within sc_hold_within (fun _ _ _ _ _ _ us hl => match us, hl with | [_, _, _], _ => rfl) (fun vs H Q E h => ?_) (fun cdv A outer s H vs Q E hr h => ?_)
  · obtain ⟨dx, α, s, t, d, kn, rfl, _⟩ := h
    rfl
  · obtain ⟨dx, α, s, t, d, kn, rfl, a, ht, ⟨kvs, k1, k2⟩, hsm, q⟩ := h
    have hu := hu_of hr
    refine ⟨_, (pss_cons (ps_for PassesOwn.never rfl (pi_list (pe_cl h_holds_of hr (pa_cons (pv 0) (pa_cons (pv 1) pa_nil)))) (pg_name (i := 3) sc_hold_within.nd rfl (Or.inl rfl)) (pss_one (ps_if (pt_val (pe_callB (cr_all rfl) (by rfl) T.b_all (by decide +kernel) (pa_cons (pe_lc (own := [("holder", 4)]) rfl sc_hold_within.nd (pi_tup (pv 3)) (blkOk_by (own := [("holder", 4)]) (N := N_hold_within) (sc := defScope s_hold_within) (by decide +kernel)) (fun _ _ _ _ _ => pg_name (i := 4) sc_hold_within.nd rfl (Or.inl rfl)) (fun _ _ _ _ _ => pts_nil) (fun _ _ _ _ _ => pe_cmp (pc_din hu (pv 4) (pv 2)))) pa_nil))) (pss_one (ps_ret (pv 3))) pss_nil)))
      (pss_one (ps_ret pe_non))), ?_⟩
    refine ⟨_, rfl, _, rfl, dx, α, s, t, rfl, a, ht, fun H1 l es s1 nl hl hes pm => ?_⟩
    refine ⟨l, rfl, ⟨_, SqL.of hl⟩, ?_⟩
    refine for_it (walk_list (xs := es.map fun e => V.ref e.1)) (fun i σ H' => ∃ x3 x4, σ = [some (.ref (α .den)), some (vi t), some (.ref d), x3, x4] ∧ Same H1 H' ∧ ∀ e ∈ es.take i, ¬ ∀ x ∈ e.2, x ∈ kn) ⟨none, none, rfl, Same.refl _, fun _ z => absurd z List.not_mem_nil⟩ (fun i σ H' _ h => ?_) (fun i x σ H' H'' hi hp y => ?_) (fun σ H' hp => ?_)
    · obtain ⟨_, _, _, s2, _⟩ := h
      exact SqL.of (s2 _ _ hl)
    · obtain ⟨x3, x4, rfl, s2, hno⟩ := hp
      obtain ⟨rfl, hx⟩ := y
      have hi' : i < es.length := by rw [List.length_map] at hi; exact hi
      obtain ⟨e, he⟩ : ∃ e, es[i]? = some e := ⟨_, List.getElem?_eq_getElem hi'⟩
      have ex : x = .ref e.1 := by
        rw [List.getElem?_map, he] at hx
        exact (Option.some.inj hx).symm
      subst ex
      have em := List.mem_of_getElem? he
      have eK : e.2 ∈ s.K t := pm.mem_iff.mp (List.mem_map.mpr ⟨e, em, rfl⟩)
      have hT := s2 _ _ (hes e em)
      have kd := s2 _ _ (s1 _ _ k1)
      have len : (e.2.map vi).length ≤ sizeLine := by
        rw [List.length_map]
        exact Nat.le_trans (hsm _ eK) (by decide)
      refine ⟨_, rfl, e.1, rfl, ⟨_, SqT.of hT⟩, fun D nD => ?_⟩
      refine lc_pure0 (walk_tup (xs := e.2.map vi)) len (fun i => .bl (decide (e.2.getD i 0 ∈ kn))) nD (fun H3 s3 => SqT.of (s3 _ _ hT)) (fun j z H3 H4 hj s3 y K hK => ?_) fun H3 s3 hD => ?_
      · obtain ⟨rfl, hz⟩ := y
        have hj' : j < e.2.length := by rw [List.length_map] at hj; exact hj
        have ez : z = vi (e.2.getD j 0) := by
          rw [List.getElem?_map, List.getElem?_eq_getElem hj'] at hz
          rw [← Option.some.inj hz]
          simp [hj']
        subst ez
        refine ⟨rfl, _, rfl, _, rfl, _, _, rfl, DGet.k (k := Sum.inl ((e.2.getD j 0 : Nat) : Int)) (s3 _ _ kd), ?_⟩
        rw [valV_key k2]
        exact hK _ (Same.refl _)
      · rw [List.length_map, range_getD (fun x => V.bl (decide (x ∈ kn))) 0 e.2] at hD
        have hD2 : H3 D = some (.lst ((e.2.map fun x => decide (x ∈ kn)).map V.bl)) := by
          rw [hD, List.map_map]
          rfl
        refine ⟨D, _, rfl, SqL.of hD2, _, rfl, ?_⟩
        have ea : (e.2.map fun x => decide (x ∈ kn)).all id = e.2.all fun x => decide (x ∈ kn) := by
          rw [List.all_map]
          rfl
        rw [ea]
        cases hb : e.2.all fun x => decide (x ∈ kn) with
        | true =>
          refine iteT ?_
          refine ⟨_, rfl, (q H3 (s1.trans (s2.trans s3))).1 ?_ e.1⟩
          exact List.any_eq_true.mpr ⟨e.2, eK, hb⟩
        | false =>
          refine iteF ?_
          refine ⟨_, _, rfl, s2.trans s3, fun f hf => ?_⟩
          rw [List.take_add_one, he] at hf
          rcases List.mem_append.mp hf with m | m
          · exact hno f m
          · rw [List.mem_singleton.mp m]
            intro z
            have : (e.2.all fun x => decide (x ∈ kn)) = true := List.all_eq_true.mpr fun x hx => decide_eq_true (z x hx)
            rw [hb] at this
            cases this
    · obtain ⟨x3, x4, rfl, s2, hno⟩ := hp
      rw [List.length_map, List.take_length] at hno
      refine (q H' (s1.trans s2)).2 ?_
      cases ho : okB s.K kn t with
      | false => rfl
      | true =>
        obtain ⟨h, h1, h2⟩ := okB_iff.mp ho
        obtain ⟨e, e1, e2⟩ := List.mem_map.mp (pm.mem_iff.mpr h1)
        exact absurd (by rw [e2]; exact h2) (hno e e1)
end
end Df
namespace Df
open PySem PySem.Spec PyProof.Rows L2
theorem KD.put {H : Hp} {d : Addr} {kn : List Nat} {kvs : List (Key × V)} {t : Nat} {v : V} (k2 : kvs.map (·.1) = kn.map fun (t : Nat) => (Sum.inl (t : Int) : Key)) (n : ¬ t ∈ kn) : KD (upd H d (.dK (putK kvs (Sum.inl (t : Int) : Key) v))) d (kn ++ [t]) := by
  have e : valV kvs (Sum.inl (t : Int) : Key) = none := by
    have := valV_key k2 t
    rw [decide_eq_false n] at this
    cases q : valV kvs (Sum.inl (t : Int) : Key) with
    | none => rfl
    | some x =>
      rw [q] at this
      cases this
  refine ⟨_, upd_same, ?_⟩
  rw [putK_new _ e, List.map_append, List.map_append, k2]
  rfl
theorem kd_len {kn : List Nat} {kvs : List (Key × V)} (k2 : kvs.map (·.1) = kn.map fun (t : Nat) => (Sum.inl (t : Int) : Key)) : kvs.length = kn.length := by
  have := congrArg List.length k2
  rwa [List.length_map, List.length_map] at this
structure Kn (s : PS) (kn : List Nat) : Prop where
  nd : kn.Nodup
  come : ∀ t ∈ kn, Come s.K s.n t
theorem Kn.le {s : PS} {kn : List Nat} (k : Kn s kn) : kn.length ≤ s.n := nodup_le s.n kn k.nd fun x hx => (k.come x hx).lt
theorem Kn.more {s : PS} {kn : List Nat} (k : Kn s kn) {t : Nat} (n : ¬ t ∈ kn) (ht : t < s.n) (o : okB s.K kn t = true) : Kn s (kn ++ [t]) := by
  obtain ⟨h, h1, h2⟩ := okB_iff.mp o
  refine ⟨nd_snoc k.nd n, fun x hx => ?_⟩
  rcases List.mem_append.mp hx with m | m
  · exact k.come x m
  · rw [List.mem_singleton.mp m]
    exact .mk ht h1 fun y hy => k.come y (h2 y hy)
section
variable {P : Program} {w : World} {K : PySem.W.Frag} {mg : Str → Option Value} {base : Heap}
abbrev N_ways_known : List Str := ["store", "known", "many", "thing", "hold"]
theorem sc_ways_known : FnScope N_ways_known ["store"] (defScope s_ways_known) := ⟨rfl, rfl, rfl, by decide +kernel, rfl, by decide +kernel, by decide +kernel⟩
/-- a store to be asked: few things, short holds -/
structure Ask (C dx : Addr) (α : SV) (s : PS) (H : Hp) : Prop where
  a : SA C dx α s H
  n : s.n ≤ 40
  h : ∀ t, t < s.n → ∀ h ∈ s.K t, h.length ≤ 1000
theorem Ask.same {C dx : Addr} {α : SV} {s : PS} {H H' : Hp} (A : Ask C dx α s H) (e : Same H H') : Ask C dx α s H' := ⟨A.a.same e, A.n, A.h⟩
def spWays (K : PySem.W.Frag) : Sp := fun vs H Q _ => ∃ (dx : Addr) (α : SV) (s : PS), vs = [.ref (α .den)] ∧ Ask (stC K) dx α s H ∧ ∀ (H' : Hp) (d : Addr) (kn : List Nat), Same H H' → H d = none → KD H' d kn → Kn s kn → Closed s.K s.n kn → Q (.ref d) H'
theorem ok_ways_known (T : Tx K mg) (h_things : Mt P w K mg base "things" 1 ["self"] (spThings K)) (h_hold_within : Cl P w K mg base "hold_within" 6 ["store", "thing", "known"] (spWithin K)) : Cl P w K mg base "ways_known" 7 ["store"] (spWays K) := by
  refine Cl.of T.f_ways_known T.gl_ways_known sc_ways_known (fun _ _ _ _ _ _ us hl => match us, hl with | [_], _ => rfl) (fun vs H Q E h => ?_) (fun cdv A outer s H vs Q E hr h => ?_)
  · obtain ⟨dx, α, s, rfl, _⟩ := h
    rfl
  · obtain ⟨dx, α, s, rfl, a, q⟩ := h
    have hu := hu_of hr
    refine ⟨_, (pss_cons (ps_set (i := 1) sc_ways_known.nd rfl (Or.inl rfl) pe_dnewK)
      (pss_cons (ps_set (i := 2) sc_ways_known.nd rfl (Or.inl rfl) (pe_un un_neg pe_int))
      (pss_cons (ps_while PassesOwn.never (pt_cmpR op_lt (pv 2) (pe_callB call_lenD (by rfl) T.b_len (by decide +kernel) (pa_cons (pv 1) pa_nil)) (nomark _)) (pss_cons (ps_set (i := 2) sc_ways_known.nd rfl (Or.inl rfl) (pe_callB call_lenD (by rfl) T.b_len (by decide +kernel) (pa_cons (pv 1) pa_nil)))
      (pss_one (ps_for PassesOwn.never rfl (pi_list (pe_mt0 h_things hr (pv 0))) (pg_name (i := 3) sc_ways_known.nd rfl (Or.inl rfl)) (pss_cons (ps_set (i := 4) sc_ways_known.nd rfl (Or.inl rfl) (pe_cl h_hold_within hr (pa_cons (pv 0) (pa_cons (pv 3) (pa_cons (pv 1) pa_nil)))))
      (pss_one (ps_if (PW.pt (pw_and (pt_cmp (pc_dnotin hu (pv 3) (pv 1))) (pw_and1 (pt_cmpR op_notN (pv 4) pe_non (nomark _))))) (pss_one (ps_dput hu (pv 1) (pv 3) (pv 4) rfl)) pss_nil)))))))
      (pss_one (ps_ret (pv 1)))))), ?_⟩
    intro d nd
    have s0 : Same H (upd H d (.dK [])) := same_upd nd
    refine ⟨_, rfl, ?_⟩
    refine ⟨fun k σ H' => ∃ (m : Int) (kn : List Nat) (x3 x4 : Option V), σ = [some (.ref (α .den)), some (.ref d), some (.int m), x3, x4] ∧ Same H H' ∧ KD H' d kn ∧ Kn s kn ∧ ((m = -1 ∧ kn = []) ∨ (0 ≤ m ∧ m ≤ kn.length ∧ (m = kn.length → Closed s.K s.n kn))) ∧ k = ((s.n : Int) - m).toNat,
      ⟨_, -1, [], none, none, rfl, s0, ⟨[], upd_same, rfl⟩, ⟨List.nodup_nil, fun _ z => absurd z List.not_mem_nil⟩, .inl ⟨rfl, rfl⟩, rfl⟩, fun k σ H1 hW => ?_⟩
    obtain ⟨m, kn, x3, x4, rfl, s1, ⟨kvs, k1, k2⟩, hk, hm, rfl⟩ := hW
    have kl := kd_len k2
    have kle := hk.le
    refine ⟨_, rfl, _, rfl, d, kvs, rfl, k1, _, _, rfl, rfl, _, rfl, ?_⟩
    rw [kl]
    refine ite2 (fun e => ?_) (fun e => ?_)
    · have e' : m < (kn.length : Int) := of_decide_eq_true e
      refine ⟨fun σ' H' => ∃ m', m' < ((s.n : Int) - m).toNat ∧ _, fun σ' H' h => h, ?_⟩
      refine ⟨_, rfl, d, kvs, rfl, k1, ?_⟩
      rw [kl]
      have a1 := a.same s1
      refine ⟨_, rfl, _, _, _, rfl, a1.a.den, nomt, dx, α, s, rfl, a1.a, a1.n, fun H2 l s2 nl hl => ?_⟩
      refine ⟨l, rfl, ⟨_, SqL.of hl⟩, ?_⟩
      have nl2 : l ≠ d := fun z => by
        rw [z, k1] at nl
        cases nl
      refine for_it (walk_list (xs := (List.range s.n).map vi)) (fun i σ H' => ∃ (kn' : List Nat) (x3 x4 : Option V), σ = [some (.ref (α .den)), some (.ref d), some (.int (kn.length : Int)), x3, x4] ∧ Same H H' ∧ H' l = some (.lst ((List.range s.n).map vi)) ∧ KD H' d kn' ∧ Kn s kn' ∧ kn.length ≤ kn'.length ∧
        (kn'.length = kn.length → kn' = kn ∧ ∀ t, t < i → okB s.K kn t = true → t ∈ kn)) ⟨kn, _, _, rfl, s1.trans s2, hl, ⟨kvs, s2 _ _ k1, k2⟩, hk, Nat.le_refl _, fun _ => ⟨rfl, fun t z => absurd z (Nat.not_lt_zero _)⟩⟩ (fun i σ H' _ h => ?_) (fun i x σ H' H'' hi hp y => ?_) (fun σ H' hp => ?_)
      · obtain ⟨_, _, _, _, _, h, _⟩ := h
        exact SqL.of h
      · obtain ⟨kn', y3, y4, rfl, s3, hl3, ⟨kvs', j1, j2⟩, hk', hle, hq⟩ := hp
        obtain ⟨rfl, hx⟩ := y
        have hi' : i < s.n := by rw [List.length_map, List.length_range] at hi; exact hi
        have ex : x = vi i := by
          rw [List.getElem?_map, List.getElem?_range hi'] at hx
          exact (Option.some.inj hx).symm
        subst ex
        have a3 := a.same s3
        have jl := kd_len j2
        have jle := hk'.le
        have aN := a.n
        refine ⟨_, rfl, _, rfl, _, rfl, dx, α, s, i, d, kn', rfl, a3.a, hi', ⟨kvs', j1, j2⟩, a.h i hi', fun H5 s5 => ⟨fun ho r => ?_, fun ho => ?_⟩⟩
        · refine ⟨_, rfl, _, rfl, d, _, rfl, DGet.k (k := Sum.inl (i : Int)) (s5 _ _ j1), _, rfl, ?_⟩
          rw [valV_key j2]
          by_cases mem : i ∈ kn'
          · rw [decide_eq_true mem]
            refine iteF ?_
            refine iteF ?_
            refine ⟨kn', _, _, rfl, s3.trans s5, s5 _ _ hl3, ⟨kvs', s5 _ _ j1, j2⟩, hk', hle, fun z => ?_⟩
            obtain ⟨z1, z2⟩ := hq z
            refine ⟨z1, fun t ht ho => ?_⟩
            by_cases et : t = i
            · rw [et, ← z1]
              exact mem
            · exact z2 t (by omega) ho
          · rw [decide_eq_false mem]
            refine iteT ?_
            refine ⟨_, rfl, rfl, _, rfl, ?_⟩
            refine iteT ?_
            refine ⟨_, rfl, _, rfl, _, rfl, d, _, rfl, DPut.k (k := Sum.inl (i : Int)) (s5 _ _ j1) (small1000 (by omega)), ?_⟩
            refine ⟨kn' ++ [i], _, _, rfl, same_put (s3.trans s5) nd, by rw [upd_ne nl2]; exact s5 _ _ hl3, KD.put j2 mem, hk'.more mem hi' ho, by rw [List.length_append]; exact Nat.le_trans hle (Nat.le_add_right _ _), fun z => ?_⟩
            rw [List.length_append, List.length_singleton] at z
            omega
        · refine ⟨_, rfl, _, rfl, d, _, rfl, DGet.k (k := Sum.inl (i : Int)) (s5 _ _ j1), _, rfl, ?_⟩
          have fin : ∃ (kn' : List Nat) (x3 x4 : Option V), [some (.ref (α .den)), some (.ref d), some (.int (kn.length : Int)), some (vi i), some V.non] = [some (.ref (α .den)), some (.ref d), some (.int (kn.length : Int)), x3, x4] ∧ Same H H5 ∧ H5 l = some (.lst ((List.range s.n).map vi)) ∧ KD H5 d kn' ∧ Kn s kn' ∧ kn.length ≤ kn'.length ∧
              (kn'.length = kn.length → kn' = kn ∧ ∀ t, t < i + 1 → okB s.K kn t = true → t ∈ kn) := by
            refine ⟨kn', _, _, rfl, s3.trans s5, s5 _ _ hl3, ⟨kvs', s5 _ _ j1, j2⟩, hk', hle, fun z => ?_⟩
            obtain ⟨z1, z2⟩ := hq z
            refine ⟨z1, fun t ht hto => ?_⟩
            by_cases et : t = i
            · rw [et, ← z1, ho] at hto
              cases hto
            · exact z2 t (by omega) hto
          rw [valV_key j2]
          by_cases mem : i ∈ kn'
          · rw [decide_eq_true mem]
            refine iteF ?_
            refine iteF ?_
            exact fin
          · rw [decide_eq_false mem]
            refine iteT ?_
            refine ⟨_, rfl, rfl, _, rfl, ?_⟩
            refine iteF ?_
            exact fin
      · obtain ⟨kn', y3, y4, rfl, s3, hl3, kd3, hk', hle, hq⟩ := hp
        rw [List.length_map, List.length_range] at hq
        refine ⟨_, ?_, (kn.length : Int), kn', y3, y4, rfl, s3, kd3, hk', .inr ⟨by omega, by omega, fun z => ?_⟩, rfl⟩
        · have := hk'.le
          omega
        · obtain ⟨z1, z2⟩ := hq (by omega)
          intro t ht ho
          rw [z1] at ho ⊢
          exact z2 t ht ho
    · have e' : ¬ m < (kn.length : Int) := fun z => e (decide_eq_true z)
      have hc : Closed s.K s.n kn := by
        rcases hm with ⟨h1, h2⟩ | ⟨h1, h2, h3⟩
        · rw [h1] at e'
          omega
        · exact h3 (by omega)
      exact ⟨_, rfl, q H1 d kn s1 nd ⟨kvs, k1, k2⟩ hk hc⟩
abbrev N_come_to : List Str := ["store"]
theorem sc_come_to : FnScope N_come_to ["store"] (defScope s_come_to) := ⟨rfl, rfl, rfl, by decide +kernel, rfl, by decide +kernel, by decide +kernel⟩
def spComeTo (K : PySem.W.Frag) : Sp := fun vs H Q _ => ∃ (dx : Addr) (α : SV) (s : PS), vs = [.ref (α .den)] ∧ Ask (stC K) dx α s H ∧ ∀ (H' : Hp) (l : Addr), Same H H' → H l = none → H' l = some (.lst ((comeL s.K s.n).map vi)) → Q (.ref l) H'
theorem sorted_of {kn : List Nat} {l : List Int} {m : List Nat} (p : l.Perm (kn.map fun (t : Nat) => (t : Int))) (w : l.Pairwise (· ≤ ·)) (nd : kn.Nodup) (ms : m.Pairwise (· < ·)) (h : ∀ t, t ∈ m ↔ t ∈ kn) : l = m.map fun (t : Nat) => (t : Int) := by
  refine List.Perm.eq_of_pairwise (le := fun a b : Int => a ≤ b) (fun a b _ _ h1 h2 => Int.le_antisymm h1 h2) w ?_ (p.trans (List.Perm.map _ ?_))
  · rw [List.pairwise_map]
    exact ms.imp fun h => Int.ofNat_le.mpr (Nat.le_of_lt h)
  · exact (List.perm_ext_iff_of_nodup nd (ms.imp fun h => Nat.ne_of_lt h)).mpr fun t => (h t).symm
theorem ok_come_to (T : Tx K mg) (h_ways_known : Cl P w K mg base "ways_known" 7 ["store"] (spWays K)) : Cl P w K mg base "come_to" 8 ["store"] (spComeTo K) ∧ ClK P w K mg base "come_to" 8 ["store"] ["store"] (fun _ zs => zs) (spComeTo K) := by
  have body : BodyOk P w K mg base "come_to" s_come_to N_come_to 7 (spComeTo K) (He.ga K "come_to") := fun cdv A outer s H vs Q E hr h => by
    obtain ⟨dx, α, s, rfl, a, q⟩ := h
    refine ⟨_, (pss_one (ps_ret (pe_callB (call_sortedDI rfl) (by rfl) T.b_sorted (by decide +kernel) (pa_cons (pe_cl h_ways_known hr (pa_cons (pv 0) pa_nil)) pa_nil)))), ?_⟩
    refine ⟨_, rfl, dx, α, s, rfl, a, fun H1 d kn s1 nd kd hk hc => ?_⟩
    obtain ⟨kvs, k1, k2⟩ := kd
    have kle := hk.le
    have aN := a.n
    refine ⟨d, kvs, kn.map fun (t : Nat) => (t : Int), rfl, .inl k1, by rw [k2, List.map_map]; rfl, by rw [List.length_map]; omega, fun ys l pm pw nl => ?_⟩
    refine q _ l (same_new s1 nl) (s1.free nl) ?_
    rw [upd_same, sorted_of (m := comeL s.K s.n) pm pw hk.nd ?_ fun t => ?_, List.map_map]
    · rfl
    · exact comeL_lt
    · rw [mem_comeL]
      exact ⟨fun z => z.in_closed hc, fun z => hk.come t z⟩
  have len : ∀ vs H Q E, spComeTo K vs H Q E → vs.length = 1 := fun vs H Q E h => by
    obtain ⟨dx, α, s, rfl, _⟩ := h
    rfl
  exact ⟨Cl.of T.f_come_to T.gl_come_to sc_come_to (fun _ _ _ _ _ _ us hl => match us, hl with | [_], _ => rfl) len body, ClK.of T.f_come_to T.gl_come_to sc_come_to (fun _ _ _ _ _ _ us hl => match us, hl with | [_], _ => rfl) len body⟩
abbrev N_lost : List Str := ["store", "known", "thing"]
theorem sc_lost : FnScope N_lost ["store"] (defScope s_lost) := ⟨rfl, rfl, rfl, by decide +kernel, rfl, by decide +kernel, by decide +kernel⟩
def spLost (K : PySem.W.Frag) : Sp := fun vs H Q _ => ∃ (dx : Addr) (α : SV) (s : PS), vs = [.ref (α .den)] ∧ Ask (stC K) dx α s H ∧ ∀ (H' : Hp) (l : Addr), Same H H' → H l = none → H' l = some (.lst ((lostL s.K s.n).map vi)) → Q (.ref l) H'
theorem ok_lost (T : Tx K mg) (h_ways_known : Cl P w K mg base "ways_known" 7 ["store"] (spWays K)) (h_things : Mt P w K mg base "things" 1 ["self"] (spThings K)) : Cl P w K mg base "lost" 8 ["store"] (spLost K) ∧ ClK P w K mg base "lost" 8 ["store"] ["store"] (fun _ zs => zs) (spLost K) := by
  have body : BodyOk P w K mg base "lost" s_lost N_lost 7 (spLost K) (He.ga K "lost") := fun cdv A outer s H vs Q E hr h => by
    obtain ⟨dx, α, s, rfl, a, q⟩ := h
    have hu := hu_of hr
    refine ⟨_, (pss_cons (ps_set (i := 1) sc_lost.nd rfl (Or.inr rfl) (pe_cl h_ways_known hr (pa_cons (pv 0) pa_nil)))
      (pss_one (ps_ret (pe_lc (own := [("thing", 2)]) rfl sc_lost.nd (pi_list (pe_mt0 h_things hr (pv 0))) (blkOk_by (own := [("thing", 2)]) (N := N_lost) (sc := defScope s_lost) (by decide +kernel)) (fun _ _ _ _ _ => pg_name (i := 2) sc_lost.nd rfl (Or.inl rfl)) (fun _ _ _ _ _ => pts_one (pt_cmp (pc_dnotin hu (pv 2) (pv 1)))) (fun _ _ _ _ _ => pv 2))))), ?_⟩
    refine ⟨_, rfl, dx, α, s, rfl, a, fun H1 d kn s1 nd kd hk hc => ?_⟩
    obtain ⟨kvs, k1, k2⟩ := kd
    have a1 := a.same s1
    refine ⟨_, rfl, _, _, _, rfl, a1.a.den, nomt, dx, α, s, rfl, a1.a, a1.n, fun H2 l s2 nl hl => ?_⟩
    refine ⟨l, rfl, ⟨_, SqL.of hl⟩, fun D nD => ?_⟩
    refine lc_pure (walk_list (xs := (List.range s.n).map vi)) (by rw [List.length_map, List.length_range]; exact Nat.le_trans a.n (by decide)) (fun i => if i ∈ kn then none else some (vi i)) nD (fun H3 s3 => SqL.of (s3 _ _ hl)) (fun i x H3 H4 hi s3 y Kk B hK hB => ?_) fun H3 s3 hD => ?_
    · obtain ⟨rfl, hx⟩ := y
      have hi' : i < s.n := by rw [List.length_map, List.length_range] at hi; exact hi
      have ex : x = vi i := by
        rw [List.getElem?_map, List.getElem?_range hi'] at hx
        exact (Option.some.inj hx).symm
      subst ex
      refine ⟨rfl, _, rfl, _, rfl, d, _, rfl, DGet.k (k := Sum.inl (i : Int)) (s3 _ _ (s2 _ _ k1)), _, rfl, ?_⟩
      rw [valV_key k2]
      by_cases mem : i ∈ kn
      · rw [decide_eq_true mem]
        refine iteF ?_
        exact hB (if_pos mem) _ (Same.refl _)
      · rw [decide_eq_false mem]
        refine iteT ?_
        exact ⟨_, rfl, hK _ _ (if_neg mem) (Same.refl _)⟩
    · refine q H3 D (s1.trans (s2.trans s3)) (s1.free (s2.free nD)) ?_
      rw [hD]
      rw [List.length_map, List.length_range, lostL_eq vi fun t => ⟨hk.come t, fun z => z.in_closed hc⟩]
  have len : ∀ vs H Q E, spLost K vs H Q E → vs.length = 1 := fun vs H Q E h => by
    obtain ⟨dx, α, s, rfl, _⟩ := h
    rfl
  exact ⟨Cl.of T.f_lost T.gl_lost sc_lost (fun _ _ _ _ _ _ us hl => match us, hl with | [_], _ => rfl) len body, ClK.of T.f_lost T.gl_lost sc_lost (fun _ _ _ _ _ _ us hl => match us, hl with | [_], _ => rfl) len body⟩
end
end Df
/-! The law's pot. -/
namespace Df
open PySem PySem.Spec PyProof.Rows L2
/-- what is drawn from: a list of two ints -/
def Pot (p : Addr) (H : Hp) : Prop := ∃ a b : Int, H p = some (.lst [.int a, .int b]) ∧ 0 ≤ b ∧ b ≤ 2147483587
/-- all but the pot is as it was -/
abbrev Cp (p : Addr) : Hp → Hp → Prop := Chg (fun c => c = p)
theorem Cp.free {p : Addr} {H H' : Hp} (h : Cp p H H') (hp : Pot p H') {c : Addr} (n : H' c = none) : H c = none := by
  obtain ⟨a, b, e, _⟩ := hp
  cases q : H c with
  | none => rfl
  | some o =>
    have ne : ¬ c = p := fun z => by
      rw [z, e] at n
      cases n
    rw [h c o q ne] at n
    cases n
theorem Cp.refl {p : Addr} {H : Hp} : Cp p H H := fun _ _ e _ => e
theorem Pot.same {p : Addr} {H H' : Hp} (h : Pot p H) (s : Same H H') : Pot p H' := by
  obtain ⟨a, b, e, r⟩ := h
  exact ⟨a, b, s _ _ e, r⟩
theorem Pot.upd {p q : Addr} {H : Hp} {o : HO} (h : Pot p H) (n : p ≠ q) : Pot p (upd H q o) := by
  obtain ⟨a, b, e, r⟩ := h
  exact ⟨a, b, by rw [upd_ne n]; exact e, r⟩
theorem Pot.ne {p q : Addr} {H : Hp} (h : Pot p H) (n : H q = none) : p ≠ q := fun z => by
  obtain ⟨a, b, e, _⟩ := h
  rw [z, n] at e
  cases e
theorem cdivp {a : Int} {m : Nat} (h0 : 0 < m) (h1 : m < 1000000) : CDivP a (m : Int) := ⟨by omega, PyProof.noPylong_small (by omega)⟩
/-- a name that is made of a letter and q -/
theorem nq_ok {c : Nat} (h : c ∈ letters.cps.toList) : NameOk ((⟨#[c]⟩ : Str) ++ ("q" : Str)) := by
  have e : ((⟨#[c]⟩ : Str) ++ ("q" : Str)).cps.toList = [c, 113] := by
    show ((#[c] : Array Nat) ++ ("q" : Str).cps).toList = _
    rw [show ("q" : Str).cps = #[113] by kernel_rfl]
    simp
  have l : ((⟨#[c]⟩ : Str) ++ ("q" : Str)).length = 2 := by
    show ((⟨#[c]⟩ : Str) ++ ("q" : Str)).cps.size = 2
    rw [← Array.length_toList, e]
    rfl
  refine ⟨by omega, by omega, fun x hx => ?_⟩
  rw [e] at hx
  rcases List.mem_cons.mp hx with z | z
  · rw [z]
    exact h
  · rw [List.mem_singleton.mp z]
    exact List.mem_of_getElem? (i := 16) (by decide +kernel)
theorem let_len : letters.cps.size = 26 := by kernel_rfl
theorem let_nd : letters.cps.toList.Nodup := by decide +kernel
theorem str_one (c : Nat) : (⟨#[c]⟩ : Str).length = 1 := rfl
/-- signs put together -/
theorem join_signs (cs : List Nat) : (Txt.join ("" : Str) (cs.map fun c => (⟨#[c]⟩ : Str))).cps.toList = cs := by
  show (PySem.Builtin.Str.glued _ _).cps.toList = cs
  have e : ("" : Str).cps = #[] := by kernel_rfl
  unfold PySem.Builtin.Str.glued
  rw [e]
  have h : ∀ (l : List Nat) (acc : Array Nat), (l.map fun c => (⟨#[c]⟩ : Str)).foldl (fun acc p => acc ++ (#[] : Array Nat) ++ p.cps) acc = acc ++ l.toArray := by
    intro l
    induction l with
    | nil => intro acc; simp
    | cons c l ih =>
      intro acc
      rw [List.map_cons, List.foldl_cons, ih]
      simp
  cases cs with
  | nil => rfl
  | cons c cs =>
    rw [List.map_cons, List.drop_one, List.tail_cons, List.headD_cons, h]
    simp
theorem pot_lo (x : Int) : -(2 ^ 64) < x % 2147483549 + 1 ∧ x % 2147483549 + 1 < 2 ^ 64 := by
  have h1 := Int.emod_nonneg x (b := 2147483549) (by decide)
  have h2 := Int.emod_lt_of_pos x (b := 2147483549) (by decide)
  omega
theorem pot_hi (x : Int) : 0 ≤ x % 2147483587 + 1 ∧ x % 2147483587 + 1 ≤ 2147483587 := by
  have h1 := Int.emod_nonneg x (b := 2147483587) (by decide)
  have h2 := Int.emod_lt_of_pos x (b := 2147483587) (by decide)
  omega
theorem nat_mod (a : Int) {m : Nat} (h : 0 < m) : ∃ d : Nat, a % (m : Int) = d ∧ d < m := by
  have h1 := Int.emod_nonneg a (b := (m : Int)) (by omega)
  have h2 := Int.emod_lt_of_pos a (b := (m : Int)) (by omega)
  exact ⟨(a % (m : Int)).toNat, by omega, by omega⟩
theorem nodup_len {α : Type} [DecidableEq α] : ∀ {l m : List α}, l.Nodup → (∀ x ∈ l, x ∈ m) → l.length ≤ m.length
  | [], m, _, _ => Nat.zero_le _
  | a :: l, m, n, h => by
    obtain ⟨n1, n2⟩ := List.nodup_cons.mp n
    have ha := h a List.mem_cons_self
    have ih := nodup_len (l := l) (m := m.erase a) n2 fun x hx => (List.mem_erase_of_ne fun e => n1 (by rw [← e]; exact hx)).mpr (h x (List.mem_cons_of_mem _ hx))
    rw [List.length_erase_of_mem ha] at ih
    have := List.length_pos_of_mem ha
    rw [List.length_cons]
    omega
/-! rules that stand in a comprehension's block -/
section
variable (K : PySem.W.Frag) {X : Cx}
theorem op_in_seqK (e : X.K = K := by rfl) : OpR X (compareOp .In) (rIn K false) := by
  subst e
  exact op_in_seq
theorem op_notIn_seqK (e : X.K = K := by rfl) : OpR X (compareOp .NotIn) (rIn K true) := by
  subst e
  exact op_notIn_seq
theorem ix_listK (e : X.K = K := by rfl) : IxR X (rIxL K) := by
  subst e
  exact ix_list
theorem ix_tupK (e : X.K = K := by rfl) : IxR X (rIxT K) := by
  subst e
  exact ix_tup
end
theorem inV_str_t {z : Str} {l : List Str} (h : z ∈ l) : inV (.str z) (l.map V.str) = true := by
  unfold inV
  rw [List.any_map, List.any_eq_true]
  exact ⟨z, h, (show (z == z) = true from beq_self_eq_true z)⟩
section
variable {P : Program} {w : World} {K : PySem.W.Frag} {mg : Str → Option Value} {base : Heap}
abbrev N_L_pot : List Str := ["_law_script", "_law_k", "_law_cell"]
theorem sc_L_pot : FnScope N_L_pot ["_law_script", "_law_k"] (defScope s_L_pot) := ⟨rfl, rfl, rfl, by decide +kernel, rfl, by decide +kernel, by decide +kernel⟩
def spPot (K : PySem.W.Frag) : Sp := fun vs H Q _ => ∃ (a : Addr) (cs : List Int) (k : Nat), vs = [.ref a, vi k] ∧ SqL K H a (cs.map V.int) ∧ k ≤ 3 ∧ ∀ p H', H p = none → Pot p H' → Same H H' → Q (.ref p) H'
theorem ok_L_pot (T : Tx K mg) : Cl P w K mg base "_law_pot" 1 ["_law_script", "_law_k"] (spPot K) := by
  refine Cl.of T.f_L_pot T.gl_L_pot sc_L_pot (fun _ _ _ _ _ _ us hl => match us, hl with | [_, _], _ => rfl) (fun vs H Q E h => ?_) (fun cdv A outer s H vs Q E hr h => ?_)
  · obtain ⟨a, cs, k, rfl, _⟩ := h
    rfl
  · obtain ⟨a, cs, k, rfl, ha, hk, q⟩ := h
    refine ⟨_, (pss_cons (ps_set (i := 2) sc_L_pot.nd rfl (Or.inl rfl) (pe_ifExp (pt_cmpR op_lt (pv 1) (pe_callB call_len_seq (by rfl) T.b_len (by decide +kernel) (pa_cons (pv 0) pa_nil)) (nomark _)) (pe_ix ix_list (pv 0) (pv 1) (fun _ _ => rfl)) pe_int))
      (pss_one (ps_ret (pe_lst (pa_cons (pe_callB (call_max2 rfl) (by rfl) T.b_max (by decide +kernel) (pa_cons pe_int (pa_cons (pe_op op_sub (pe_callB call_abs (by rfl) T.b_abs (by decide +kernel) (pa_cons (pv 2) pa_nil)) (pe_op op_pow pe_int pe_int)) pa_nil))) (pa_cons (pe_op op_add (pe_op op_mod (pe_op op_mul (pe_op op_add (pe_op op_mod (pe_callB call_abs (by rfl) T.b_abs (by decide +kernel) (pa_cons (pv 2) pa_nil)) pe_int) pe_int) (pe_op op_pow (pe_op op_add (pv 1) pe_int) pe_int)) pe_int) pe_int) pa_nil)))))), ?_⟩
    refine ⟨_, rfl, _, rfl, _, _, rfl, .inl ha, _, _, rfl, rfl, _, rfl, ?_⟩
    refine ite2 (fun e => ?_) (fun e => ?_)
    · have e' := of_decide_eq_true e
      refine ⟨_, rfl, _, rfl, a, _, _, V.int (cellOf cs k), rfl, rfl, ha, atI_cell (by simpa [vi] using e'), ?_⟩
      refine ⟨_, rfl, _, rfl, _, _, rfl, rfl, ⟨by decide, by decide, by decide⟩, _, _, rfl, rfl, _, _, rfl, ?_⟩
      refine ⟨_, rfl, _, rfl, _, _, rfl, rfl, (show (0 : Int) < 2147483549 by decide), _, _, rfl, rfl, _, rfl, _, _, rfl, rfl, _, _, rfl, rfl, ⟨by decide, by decide, by omega⟩, _, _, rfl, rfl, .inl (pot_lo _), _, _, rfl, rfl, (show (0 : Int) < 2147483587 by decide), _, _, rfl, rfl, by show 2 ≤ sizeLine; decide, fun r nr => ?_⟩
      exact q r _ nr ⟨_, _, upd_same, (pot_hi _).1, (pot_hi _).2⟩ (same_upd nr)
    · refine ?_
      refine ⟨_, rfl, _, rfl, _, _, rfl, rfl, ⟨by decide, by decide, by decide⟩, _, _, rfl, rfl, _, _, rfl, ?_⟩
      refine ⟨_, rfl, _, rfl, _, _, rfl, rfl, (show (0 : Int) < 2147483549 by decide), _, _, rfl, rfl, _, rfl, _, _, rfl, rfl, _, _, rfl, rfl, ⟨by decide, by decide, by omega⟩, _, _, rfl, rfl, .inl (pot_lo _), _, _, rfl, rfl, (show (0 : Int) < 2147483587 by decide), _, _, rfl, rfl, by show 2 ≤ sizeLine; decide, fun r nr => ?_⟩
      exact q r _ nr ⟨_, _, upd_same, (pot_hi _).1, (pot_hi _).2⟩ (same_upd nr)
abbrev N_L_take : List Str := ["_law_pot_here", "_law_many", "_law_digit"]
theorem sc_L_take : FnScope N_L_take ["_law_pot_here", "_law_many"] (defScope s_L_take) := ⟨rfl, rfl, rfl, by decide +kernel, rfl, by decide +kernel, by decide +kernel⟩
def spLTake : Sp := fun vs H Q _ => ∃ (p : Addr) (m : Nat), vs = [.ref p, vi m] ∧ Pot p H ∧ 0 < m ∧ m < 1000000 ∧ ∀ (d : Nat) H', d < m → Pot p H' → Cp p H H' → Q (vi d) H'
theorem ok_L_take (T : Tx K mg) : Cl P w K mg base "_law_take" 1 ["_law_pot_here", "_law_many"] spLTake := by
  refine Cl.of T.f_L_take T.gl_L_take sc_L_take (fun _ _ _ _ _ _ us hl => match us, hl with | [_, _], _ => rfl) (fun vs H Q E h => ?_) (fun cdv A outer s H vs Q E hr h => ?_)
  · obtain ⟨p, m, rfl, _⟩ := h
    rfl
  · obtain ⟨p, m, rfl, ⟨a, b, hp, b0, b1⟩, m0, m1, q⟩ := h
    refine ⟨_, (pss_cons (ps_if (pt_cmpR op_gt (pe_ix ix_list (pv 0) pe_int (fun _ _ => rfl)) pe_int (nomark _)) (pss_cons (ps_asg (pe_callB call_divmodW (by rfl) T.b_divmod (by decide +kernel) (pa_cons (pe_ix ix_list (pv 0) pe_int (fun _ _ => rfl)) (pa_cons (pv 1) pa_nil))) (pg_tup (by rfl) (pgs_cons (pg_sub (pv 0) pe_int set_list) (pgs_cons (pg_name (i := 2) sc_L_take.nd rfl (Or.inl rfl)) pgs_nil))))
      (pss_one (ps_ret (pv 2)))) pss_nil)
      (pss_cons (ps_asg (pe_op op_mod (pe_op op_add (pe_op op_mul (pe_ix ix_list (pv 0) pe_int (fun _ _ => rfl)) pe_int) pe_int) pe_int) (pg_sub (pv 0) pe_int set_list))
      (pss_one (ps_ret (pe_op op_mod (pe_op op_fdiv (pe_op op_mod (pe_op op_mul (pe_ix ix_list (pv 0) pe_int (fun _ _ => rfl)) (pe_ix ix_list (pv 0) pe_int (fun _ _ => rfl))) pe_int) pe_int) (pv 1)))))), ?_⟩
    refine ⟨_, rfl, p, _, _, _, rfl, rfl, SqL.of hp, rfl, _, _, rfl, rfl, _, rfl, ?_⟩
    refine ite2 (fun e => ?_) (fun e => ?_)
    · refine ⟨_, rfl, p, _, _, _, rfl, rfl, SqL.of hp, rfl, _, rfl, _, _, rfl, cdivp m0 m1, fun u nu => ?_⟩
      have np : p ≠ u := fun z => by
        rw [z, nu] at hp
        cases hp
      refine ⟨u, _, rfl, SqT.of upd_same, rfl, _, _, rfl, _, rfl, p, _, _, 0, rfl, rfl, (by rw [upd_ne np]; exact hp), rfl, ?_⟩
      refine ⟨_, _, rfl, rfl, _, rfl, ?_⟩
      obtain ⟨d, hd, dl⟩ := nat_mod a m0
      rw [hd]
      exact q d _ dl ⟨_, b, upd_same, b0, b1⟩ ((Cp.refl.upd (.inr nu)).upd (.inl rfl))
    · refine ⟨_, rfl, p, _, _, _, rfl, rfl, SqL.of hp, rfl, _, _, rfl, rfl, .inr (by decide), _, _, rfl, rfl, _, _, rfl, rfl, (show (0 : Int) < 2147483587 by decide), ?_⟩
      refine ⟨_, rfl, p, _, _, 1, rfl, rfl, hp, rfl, ?_⟩
      have e1 := Int.emod_nonneg (b * 39373 + 7919) (b := 2147483587) (by decide)
      have e2 := Int.emod_lt_of_pos (b * 39373 + 7919) (b := 2147483587) (by decide)
      refine ⟨_, rfl, p, _, _, _, rfl, rfl, SqL.of upd_same, rfl, _, rfl, p, _, _, _, rfl, rfl, SqL.of upd_same, rfl, _, _, rfl, rfl, .inl ⟨by omega, by omega⟩, _, _, rfl, rfl, (show (0 : Int) < 2147483549 by decide), _, _, rfl, rfl, ⟨by decide, by decide⟩, _, rfl, _, _, rfl, rfl, by show (0 : Int) < (m : Int); omega, ?_⟩
      obtain ⟨d, hd, dl⟩ := nat_mod ((b * 39373 + 7919) % 2147483587 * ((b * 39373 + 7919) % 2147483587) % 2147483549 / 11) m0
      have z := q d _ dl ⟨a, _, upd_same, e1, by omega⟩ (Cp.refl.upd (.inl rfl))
      unfold vi at z
      rw [← hd] at z
      exact z
abbrev N_L_among : List Str := ["_law_pot_here", "_law_some"]
theorem sc_L_among : FnScope N_L_among ["_law_pot_here", "_law_some"] (defScope s_L_among) := ⟨rfl, rfl, rfl, by decide +kernel, rfl, by decide +kernel, by decide +kernel⟩
def spAmong : Sp := fun vs H Q _ => ∃ (p l : Addr) (xs : List V), vs = [.ref p, .ref l] ∧ Pot p H ∧ H l = some (.lst xs) ∧ l ≠ p ∧ 0 < xs.length ∧ xs.length < 1000000 ∧ ∀ (j : Nat) x H', xs[j]? = some x → Pot p H' → Cp p H H' → Q x H'
theorem ok_L_among (T : Tx K mg) (h_L_take : Cl P w K mg base "_law_take" 1 ["_law_pot_here", "_law_many"] spLTake) : Cl P w K mg base "_law_among" 2 ["_law_pot_here", "_law_some"] spAmong := by
  refine Cl.of T.f_L_among T.gl_L_among sc_L_among (fun _ _ _ _ _ _ us hl => match us, hl with | [_, _], _ => rfl) (fun vs H Q E h => ?_) (fun cdv A outer s H vs Q E hr h => ?_)
  · obtain ⟨p, l, xs, rfl, _⟩ := h
    rfl
  · obtain ⟨p, l, xs, rfl, hp, hl, ne, x0, x1, q⟩ := h
    refine ⟨_, (pss_one (ps_ret (pe_ix ix_list (pv 1) (pe_cl h_L_take hr (pa_cons (pv 0) (pa_cons (pe_callB call_len_seq (by rfl) T.b_len (by decide +kernel) (pa_cons (pv 1) pa_nil)) pa_nil))) (fun _ _ => rfl)))), ?_⟩
    refine ⟨_, rfl, _, rfl, _, rfl, l, _, rfl, .inl (SqL.of hl), p, xs.length, rfl, hp, x0, x1, fun d H1 hd hp1 hc => ?_⟩
    exact ⟨l, _, _, _, rfl, rfl, SqL.of (hc _ _ hl ne), atI_nat (List.getElem?_eq_getElem hd), q d _ _ (List.getElem?_eq_getElem hd) hp1 hc⟩
abbrev N_L_name : List Str := ["_law_pot_here", "_law_taken", "_law_letters", "_law_name_here", "_law_k", "_law_one", "_law_letter"]
theorem sc_L_name : FnScope N_L_name ["_law_pot_here", "_law_taken"] (defScope s_L_name) := ⟨rfl, rfl, rfl, by decide +kernel, rfl, by decide +kernel, by decide +kernel⟩
def spLName : Sp := fun vs H Q _ => ∃ (p l : Addr) (ts : List Str), vs = [.ref p, .ref l] ∧ Pot p H ∧ H l = some (.lst (ts.map V.str)) ∧ l ≠ p ∧ ts.length ≤ 25 ∧ ∀ (z : Str) H', NameOk z → ¬ z ∈ ts → Pot p H' → Cp p H H' → Q (.str z) H'
theorem few {d : Nat} (h : d < 4) : ∃ c : Nat, 1 ≤ c ∧ c ≤ 8 ∧ atI [V.int 1, .int 1, .int 3, .int 8] (d : Int) = some (.int c) := by
  match d, h with
  | 0, _ => exact ⟨1, by omega, by omega, rfl⟩
  | 1, _ => exact ⟨1, by omega, by omega, rfl⟩
  | 2, _ => exact ⟨3, by omega, by omega, rfl⟩
  | 3, _ => exact ⟨8, by omega, by omega, rfl⟩
theorem sum_ones (cs : List Nat) : ((cs.map fun c => (⟨#[c]⟩ : Str)).map (·.length)).sum = cs.length := by
  induction cs with
  | nil => rfl
  | cons c cs ih =>
    rw [List.map_cons, List.map_cons, List.sum_cons, ih, str_one, List.length_cons]
    omega
theorem q_inj : ∀ c d : Nat, (⟨#[c]⟩ : Str) ++ ("q" : Str) = (⟨#[d]⟩ : Str) ++ ("q" : Str) → c = d := fun c d h => by
  have e : ∀ c : Nat, ((⟨#[c]⟩ : Str) ++ ("q" : Str)).cps.toList = [c, 113] := fun c => by
    show ((#[c] : Array Nat) ++ ("q" : Str).cps).toList = _
    rw [show ("q" : Str).cps = #[113] by kernel_rfl]
    simp
  have h2 := congrArg (fun z : Str => z.cps.toList) h
  simp only [e] at h2
  exact (List.cons.inj h2).1
/-- the names of a letter and q -/
def qL : List Str := letters.cps.toList.map fun c => (⟨#[c]⟩ : Str) ++ ("q" : Str)
/-- of 26 one is left -/
theorem one_left {ts : List Str} (h : ts.length ≤ 25) : ∃ c ∈ letters.cps.toList, ¬ ((⟨#[c]⟩ : Str) ++ ("q" : Str)) ∈ ts := by
  refine Classical.byContradiction fun no => ?_
  have sub : ∀ z ∈ letters.cps.toList.map (fun c => (⟨#[c]⟩ : Str) ++ ("q" : Str)), z ∈ ts := fun z hz => by
    obtain ⟨c, hc, rfl⟩ := List.mem_map.mp hz
    exact Classical.byContradiction fun n => no ⟨c, hc, n⟩
  have nd : (letters.cps.toList.map (fun c => (⟨#[c]⟩ : Str) ++ ("q" : Str))).Nodup := List.Pairwise.map _ (fun a b ne e => ne (q_inj a b e)) let_nd
  have := nodup_len nd sub
  rw [List.length_map, Array.length_toList, let_len] at this
  omega
theorem ok_L_name (T : Tx K mg) (h_L_take : Cl P w K mg base "_law_take" 1 ["_law_pot_here", "_law_many"] spLTake) : Cl P w K mg base "_law_name" 2 ["_law_pot_here", "_law_taken"] spLName := by
  refine Cl.of T.f_L_name T.gl_L_name sc_L_name (fun _ _ _ _ _ _ us hl => match us, hl with | [_, _], _ => rfl) (fun vs H Q E h => ?_) (fun cdv A outer s H vs Q E hr h => ?_)
  · obtain ⟨p, l, ts, rfl, _⟩ := h
    rfl
  · obtain ⟨p, l, ts, rfl, hp, hl, ne, tl, q⟩ := h
    refine ⟨_, (pss_cons (ps_set (i := 2) sc_L_name.nd rfl (Or.inr rfl) pe_str)
      (pss_cons (ps_set (i := 3) sc_L_name.nd rfl (Or.inl rfl) (pe_join pe_str (pe_lc (own := [("_law_k", 4)]) rfl sc_L_name.nd (pi_range1 rfl T.b_range (pa_cons (pe_ix ix_list (pe_lst (pa_cons pe_int (pa_cons pe_int (pa_cons pe_int (pa_cons pe_int pa_nil))))) (pe_cl h_L_take hr (pa_cons (pv 0) (pa_cons pe_int pa_nil))) (fun _ _ => rfl)) pa_nil)) (blkOk_by (own := [("_law_k", 4)]) (N := N_L_name) (sc := defScope s_L_name) (by decide +kernel)) (fun _ _ _ _ _ => pg_name (i := 4) sc_L_name.nd rfl (Or.inl rfl)) (fun _ _ _ _ _ => pts_nil) (fun _ _ _ _ _ => pe_ix ix_str (pv 2) (pe_cl h_L_take hr (pa_cons (pv 0) (pa_cons pe_int pa_nil))) (fun _ _ => rfl)))))
      (pss_cons (ps_if (pt_cmpR op_in_seq (pv 3) (pv 1) rfl) (pss_one (ps_set (i := 3) sc_L_name.nd rfl (Or.inl rfl) (pe_ix ix_list (pe_lc (own := [("_law_one", 5)]) rfl sc_L_name.nd (pi_list (pe_lc (own := [("_law_letter", 6)]) rfl sc_L_name.nd (pi_str (pv 2)) (blkOk_by (own := [("_law_letter", 6)]) (N := N_L_name) (sc := defScope s_L_name) (by decide +kernel)) (fun _ _ _ _ _ => pg_name (i := 6) sc_L_name.nd rfl (Or.inl rfl)) (fun _ _ _ _ _ => pts_nil) (fun _ _ _ _ _ => pe_op op_add_str (pv 6) pe_str))) (blkOk_by (own := [("_law_one", 5)]) (N := N_L_name) (sc := defScope s_L_name) (by decide +kernel)) (fun _ _ _ _ _ => pg_name (i := 5) sc_L_name.nd rfl (Or.inl rfl)) (fun _ _ _ _ _ => pts_one (pt_cmpR (op_notIn_seqK K) (pv 5) (pv 1) rfl)) (fun _ _ _ _ _ => pv 5)) pe_int (fun _ _ => rfl)))) pss_nil)
      (pss_one (ps_ret (pv 3)))))), ?_⟩
    refine ⟨⟨_, rfl⟩, by show 4 ≤ sizeLine; decide, fun c nc => ?_⟩
    have hp1 := hp.upd (hp.ne nc) (o := .lst [V.int 1, .int 1, .int 3, .int 8])
    refine ⟨_, rfl, p, 4, rfl, hp1, by decide, by decide, fun d H1 hd hp2 hc => ?_⟩
    obtain ⟨n, n1, n8, hn⟩ := few hd
    have c1 : Cp p H H1 := ((Cp.refl (p := p)).upd (.inr nc)).trans hc
    refine ⟨c, _, _, _, rfl, rfl, SqL.of (hc _ _ upd_same (hp.ne nc).symm), hn, _, rfl, by omega, by omega, fun D nD => ?_⟩
    have nD0 := c1.free hp2 nD
    refine lc_cps0 (walk_range (lo := 0)) (by rw [sizeLine_eq]; omega) (fun i l H' => Pot p H' ∧ Cp p H H' ∧ ∃ cs : List Nat, cs.length = i ∧ (∀ c ∈ cs, c ∈ letters.cps.toList) ∧ l = (cs.map fun c => (⟨#[c]⟩ : Str)).map V.str) ⟨hp2.upd (hp2.ne nD), c1.upd (.inr nD0), [], rfl, (fun _ z => absurd z List.not_mem_nil), rfl⟩ (fun i l H' o e h => ⟨h.1.upd (hp2.ne nD), h.2.1.upd (.inr nD0), h.2.2⟩) (fun _ _ _ _ _ => trivial) (fun i l x H' H'' hi hI hD y Kk hK => ?_) (fun l H' hl' hI hD => ?_)
    · obtain ⟨p3, c3, cs, e1, e2, rfl⟩ := hI
      obtain ⟨rfl, rfl⟩ := y
      refine ⟨rfl, _, rfl, _, rfl, p, 26, rfl, p3, by decide, by decide, fun d2 H4 hd2 p4 c4 => ?_⟩
      have hz : letters.cps.toList[d2]? = some (letters.cps.toList[d2]'(by rw [Array.length_toList, let_len]; exact hd2)) := List.getElem?_eq_getElem _
      refine ⟨letters, _, _, rfl, rfl, by decide +kernel, atI_nat hz, ?_⟩
      have nDp : D ≠ p := (hp2.ne nD).symm
      refine hK _ _ (c4 _ _ hD nDp) ⟨p4, c3.trans c4, cs ++ [_], by rw [List.length_append, e1]; rfl, fun c hc => ?_, by rw [List.map_append, List.map_append]; rfl⟩
      rcases List.mem_append.mp hc with z | z
      · exact e2 c z
      · rw [List.mem_singleton.mp z]
        exact List.mem_of_getElem? hz
    · obtain ⟨p3, c3, cs, e1, e2, rfl⟩ := hI
      have e1' : cs.length = n := by simpa using e1
      have jl : (Txt.join ("" : Str) (cs.map fun c => (⟨#[c]⟩ : Str))).length = n := by
        show (Txt.join ("" : Str) (cs.map fun c => (⟨#[c]⟩ : Str))).cps.size = n
        rw [← Array.length_toList, join_signs, e1']
      refine ⟨_, D, cs.map fun c => (⟨#[c]⟩ : Str), rfl, rfl, .inl (SqL.of hD), ?_, ?_⟩
      · rw [sum_ones, List.length_map]
        have : ("" : Str).length = 0 := by kernel_rfl
        rw [this]
        omega
      have zok : NameOk (Txt.join ("" : Str) (cs.map fun c => (⟨#[c]⟩ : Str))) := ⟨by omega, by omega, by rw [join_signs]; exact e2⟩
      generalize Txt.join ("" : Str) (cs.map fun c => (⟨#[c]⟩ : Str)) = z at zok
      have hl3 := c3 _ _ hl ne
      refine ⟨_, rfl, _, rfl, l, _, rfl, .inl (SqL.of hl3), rfl, flat_strs _, _, rfl, ?_⟩
      by_cases m : z ∈ ts
      · rw [if_neg (show ¬ false = true by decide), inV_str_t m]
        refine iteT ?_
        refine ⟨_, rfl, letters, rfl, fun D2 nD2 => ?_⟩
        refine lc_pure0 walk_str (by rw [let_len]; decide) (fun i => .str (qL.getD i ("" : Str))) nD2 (fun _ _ => trivial) (fun i x H3 H4 hi s3 y Kk hK => ?_) fun H3 s3 hD2 => ?_
        · obtain ⟨rfl, c, hc, rfl⟩ := y
          refine ⟨rfl, _, rfl, _, _, rfl, rfl, by rw [str_one]; decide +kernel, ?_⟩
          have e : qL.getD i ("" : Str) = (⟨#[c]⟩ : Str) ++ ("q" : Str) := by
            unfold qL
            rw [List.getD_eq_getElem?_getD, List.getElem?_map, Array.getElem?_toList, hc]
            rfl
          have z := hK H4 (Same.refl _)
          rw [e] at z
          exact z
        · rw [show letters.cps.size = qL.length by unfold qL; rw [List.length_map, Array.length_toList], range_getD V.str ("" : Str) qL] at hD2
          have qlen : qL.length = 26 := by
            unfold qL
            rw [List.length_map, Array.length_toList, let_len]
          refine ⟨D2, rfl, ⟨_, SqL.of hD2⟩, fun D3 nD3 => ?_⟩
          refine lc_pure (walk_list (xs := qL.map V.str)) (by rw [List.length_map, qlen]; decide) (fun i => if qL.getD i ("" : Str) ∈ ts then none else some (.str (qL.getD i ("" : Str)))) nD3 (fun H5 s5 => SqL.of (s5 _ _ hD2)) (fun i x H5 H6 hi s5 y Kk B hK hB => ?_) fun H5 s5 hD3 => ?_
          · obtain ⟨rfl, hx⟩ := y
            have hi' : i < qL.length := by rw [List.length_map] at hi; exact hi
            have ex : x = .str (qL.getD i ("" : Str)) := by
              rw [List.getElem?_map, List.getElem?_eq_getElem hi'] at hx
              rw [← Option.some.inj hx]
              simp [hi']
            subst ex
            refine ⟨rfl, _, rfl, _, rfl, l, _, rfl, .inl (SqL.of (s5 _ _ (s3 _ _ hl3))), rfl, flat_strs _, _, rfl, ?_⟩
            by_cases m2 : qL.getD i ("" : Str) ∈ ts
            · rw [if_pos (show true = true from rfl), inV_str_t m2]
              refine iteF ?_
              exact hB (if_pos m2) _ (Same.refl _)
            · rw [if_pos (show true = true from rfl), inV_str m2]
              refine iteT ?_
              exact ⟨_, rfl, hK _ _ (if_neg m2) (Same.refl _)⟩
          · have hf : (List.range (qL.map V.str).length).filterMap (fun i => if qL.getD i ("" : Str) ∈ ts then none else some (V.str (qL.getD i ("" : Str)))) = (qL.filter fun z => decide (¬ z ∈ ts)).map V.str := by
              rw [List.length_map]
              have h1 := range_getD (fun z : Str => z) ("" : Str) qL
              rw [List.map_id'] at h1
              have h2 : (List.range qL.length).filterMap (fun i => if qL.getD i ("" : Str) ∈ ts then none else some (V.str (qL.getD i ("" : Str)))) = ((List.range qL.length).map fun i => qL.getD i ("" : Str)).filterMap (fun z => if z ∈ ts then none else some (V.str z)) := by
                rw [List.filterMap_map]
                rfl
              rw [h2, h1]
              clear h1 h2 hD3 hD2 qlen
              generalize qL = ql
              induction ql with
              | nil => rfl
              | cons z r ih =>
                by_cases m3 : z ∈ ts
                · rw [List.filterMap_cons, if_pos m3, List.filter_cons_of_neg (by simpa using m3)]
                  exact ih
                · rw [List.filterMap_cons, if_neg m3, List.filter_cons_of_pos (by simpa using m3), List.map_cons, ← ih]
            rw [hf] at hD3
            obtain ⟨c, hc, hn⟩ := one_left tl
            cases hq : qL.filter fun z => decide (¬ z ∈ ts) with
            | nil =>
              have : (⟨#[c]⟩ : Str) ++ ("q" : Str) ∈ qL.filter fun z => decide (¬ z ∈ ts) := List.mem_filter.mpr ⟨List.mem_map.mpr ⟨c, hc, rfl⟩, decide_eq_true hn⟩
              rw [hq] at this
              exact absurd this List.not_mem_nil
            | cons z0 r =>
              rw [hq] at hD3
              have z0m : z0 ∈ qL.filter fun z => decide (¬ z ∈ ts) := by rw [hq]; exact List.mem_cons_self
              obtain ⟨m4, m5⟩ := List.mem_filter.mp z0m
              have zok : NameOk z0 := by
                obtain ⟨c0, hc0, rfl⟩ := List.mem_map.mp m4
                exact nq_ok hc0
              refine ⟨D3, _, 0, .str z0, rfl, rfl, SqL.of hD3, atI_nat (j := 0) rfl, ?_⟩
              exact ⟨_, rfl, q z0 H5 zok (of_decide_eq_true m5) (p3.same (s3.trans s5)) (c3.same (s3.trans s5))⟩
      · rw [if_neg (show ¬ false = true by decide), inV_str m]
        refine iteF ?_
        exact ⟨_, rfl, q z H' zok m p3 c3⟩
abbrev N_L_names : List Str := ["_law_pot_here", "_law_many", "_law_found", "_law_k"]
theorem sc_L_names : FnScope N_L_names ["_law_pot_here", "_law_many"] (defScope s_L_names) := ⟨rfl, rfl, rfl, by decide +kernel, rfl, by decide +kernel, by decide +kernel⟩
def spLNames : Sp := fun vs H Q _ => ∃ (p : Addr) (m : Nat), vs = [.ref p, vi m] ∧ Pot p H ∧ m ≤ 20 ∧ ∀ (l : Addr) (ts : List Str) H', ts.length = m → ts.Nodup → (∀ z ∈ ts, NameOk z) → Pot p H' → H l = none → H' l = some (.lst (ts.map V.str)) → Cp p H H' → Q (.ref l) H'
theorem ok_L_names (T : Tx K mg) (h_L_name : Cl P w K mg base "_law_name" 2 ["_law_pot_here", "_law_taken"] spLName) : Cl P w K mg base "_law_names" 3 ["_law_pot_here", "_law_many"] spLNames := by
  refine Cl.of T.f_L_names T.gl_L_names sc_L_names (fun _ _ _ _ _ _ us hl => match us, hl with | [_, _], _ => rfl) (fun vs H Q E h => ?_) (fun cdv A outer s H vs Q E hr h => ?_)
  · obtain ⟨p, m, rfl, _⟩ := h
    rfl
  · obtain ⟨p, m, rfl, hp, hm, q⟩ := h
    refine ⟨_, (pss_cons (ps_set (i := 2) sc_L_names.nd rfl (Or.inl rfl) (pe_lst pa_nil))
      (pss_cons (ps_for PassesOwn.never rfl (pi_range1 rfl T.b_range (pa_cons (pv 1) pa_nil)) (pg_name (i := 3) sc_L_names.nd rfl (Or.inl rfl)) (pss_one (ps_expr (pe_bm PySem.F.plainAttrs_list PySem.F.slot_list_append PySem.F.type_list_append mt_append (pv 2) (pa_cons (pe_cl h_L_name hr (pa_cons (pv 0) (pa_cons (pv 2) pa_nil))) pa_nil)))))
      (pss_one (ps_ret (pv 2))))), ?_⟩
    refine ⟨by show 0 ≤ sizeLine; decide, fun l nl => ?_⟩
    refine ⟨_, rfl, _, rfl, by omega, by omega, ?_⟩
    have nlp := hp.ne nl
    refine for_it (walk_range (lo := 0)) (fun i σ H' => ∃ (ts : List Str) (x3 : Option V), σ = [some (.ref p), some (vi m), some (.ref l), x3] ∧ ts.length = i ∧ ts.Nodup ∧ (∀ z ∈ ts, NameOk z) ∧ Pot p H' ∧ H' l = some (.lst (ts.map V.str)) ∧ Cp p H H') ⟨[], none, rfl, rfl, List.nodup_nil, fun _ z => absurd z List.not_mem_nil, hp.upd nlp, upd_same, Cp.refl.upd (.inr nl)⟩ (fun _ _ _ _ _ => trivial) (fun i x σ H' H'' hi hI y => ?_) (fun σ H' hI => ?_)
    · obtain ⟨ts, x3, rfl, e1, nd, hok, p1, hl, c1⟩ := hI
      obtain ⟨rfl, rfl⟩ := y
      have hi' : i < m := by simpa [vi] using hi
      refine ⟨_, rfl, .inl ⟨rfl, _, SqL.of hl⟩, _, rfl, _, rfl, p, l, ts, rfl, p1, hl, nlp.symm, by omega, fun z H2 z1 z2 p2 c2 => ?_⟩
      have hl2 := c2 _ _ hl nlp.symm
      refine ⟨_, _, _, rfl, rfl, hl2, by rw [List.length_map, sizeLine_eq]; omega, ?_⟩
      refine ⟨ts ++ [z], _, rfl, by rw [List.length_append, e1]; rfl, nd_snoc nd z2, fun y hy => ?_, p2.upd nlp, by rw [upd_same, List.map_append]; rfl, (c1.trans c2).upd (.inr nl)⟩
      rcases List.mem_append.mp hy with h | h
      · exact hok y h
      · rw [List.mem_singleton.mp h]
        exact z1
    · obtain ⟨ts, x3, rfl, e1, nd, hok, p1, hl, c1⟩ := hI
      exact ⟨_, rfl, q l ts H' (by simpa [vi] using e1) nd hok p1 nl hl c1⟩
end
end Df
/-! The law's own state: what it holds (OS), how the heap bears it (OA). -/
namespace Df
open PySem PySem.Spec PyProof.Rows L2
/-- n: how many have slots, md: how many are made (the same but within a deed) -/
structure OS where
  hs : List Str
  pool : List Str
  n : Nat
  md : Nat
  R : Str → List Nat
  S : Nat → List (Str × Slot)
def OS.setR (s : OS) (h : Str) (r : List Nat) : OS := { s with R := fset s.R h r }
def OS.setS (s : OS) (o : Nat) (r : List (Str × Slot)) : OS := { s with S := fset s.S o r }
/-- a slot is filled in its place, or as the last -/
def putS (l : List (Str × Slot)) (k : Str) (v : Slot) : List (Str × Slot) := if l.any (fun e => decide (e.1 = k)) = true then l.map (fun e => (e.1, if e.1 = k then v else e.2)) else l ++ [(k, v)]
inductive Deed where
  | mk (h : Str) | put (h : Str) (o : Nat) (k : Str) (t : Nat) | show_ (h : Str) (o : Nat) (k : Str) (t : Nat) | tie (h : Str) (o : Nat) (k : Str) (a b : Nat)
  | empty (h : Str) (o : Nat) (k : Str) | take (h : Str) (o : Nat) (k : Str) | give (h : Str) (t : Nat) (g : Str) | drop (h : Str) (t : Nat)
def Deed.v : Deed → List V
  | .mk h => [.str "make", .str h]
  | .put h o k t => [.str "put", .str h, vi o, .str k, vi t]
  | .show_ h o k t => [.str "show", .str h, vi o, .str k, vi t]
  | .tie h o k a b => [.str "tie", .str h, vi o, .str k, vi a, vi b]
  | .empty h o k => [.str "empty", .str h, vi o, .str k]
  | .take h o k => [.str "take", .str h, vi o, .str k]
  | .give h t g => [.str "give", .str h, vi t, .str g]
  | .drop h t => [.str "drop", .str h, vi t]
def Deed.hand : Deed → Str
  | .mk h => h
  | .put h _ _ _ => h
  | .show_ h _ _ _ => h
  | .tie h _ _ _ _ => h
  | .empty h _ _ => h
  | .take h _ _ => h
  | .give h _ _ => h
  | .drop h _ => h
/-- whose hands and slots are those of a state -/
def Deed.of (hs pool : List Str) : Deed → Prop
  | .mk h => h ∈ hs
  | .put h _ k _ => h ∈ hs ∧ k ∈ pool
  | .show_ h _ k _ => h ∈ hs ∧ k ∈ pool
  | .tie h _ k _ _ => h ∈ hs ∧ k ∈ pool
  | .empty h _ k => h ∈ hs ∧ k ∈ pool
  | .take h _ k => h ∈ hs ∧ k ∈ pool
  | .give h _ g => h ∈ hs ∧ g ∈ hs
  | .drop h _ => h ∈ hs
theorem Deed.of.hand {hs pool : List Str} {d : Deed} (h : d.of hs pool) : d.hand ∈ hs := by
  cases d <;> first | exact h | exact h.1
def Slot.keyOk (r : List Nat) : Slot → Bool
  | .ky k _ => decide (k ∈ r)
  | _ => true
/-- the thing a deed is done to -/
def Deed.th : Deed → Nat
  | .mk _ => 0
  | .put _ o _ _ => o
  | .show_ _ o _ _ => o
  | .tie _ o _ _ _ => o
  | .empty _ o _ => o
  | .take _ o _ => o
  | .give _ t _ => t
  | .drop _ t => t
def Deed.isMk : Deed → Bool
  | .mk _ => true
  | _ => false
/-- what is asked besides -/
def OS.rest (s : OS) : Deed → Bool
  | .mk h => decide (s.md < 40) && decide ((s.R h).length < 30)
  | .put h _ _ t => decide (t ∈ s.R h)
  | .show_ h _ _ t => decide (t ∈ s.R h)
  | .tie h _ _ a b => decide (a ∈ s.R h) && decide (b ∈ s.R h)
  | .empty _ o k => (look (s.S o) k).isSome
  | .take h o k => match look (s.S o) k with
    | none => false
    | some sl => decide ((s.R h).length < 30) && sl.keyOk (s.R h)
  | .give h _ g => decide (g = h) || decide ((s.R g).length < 30)
  | .drop _ _ => true
def OS.isLet (s : OS) (d : Deed) : Bool := (d.isMk || decide (d.th ∈ s.R d.hand)) && s.rest d
def OS.lessR (s : OS) (h : Str) (t : Nat) : OS := s.setR h (lessL (s.R h) t)
def OS.addR (s : OS) (h : Str) (t : Nat) : OS := s.setR h (s.R h ++ [t])
def OS.done (s : OS) : Deed → OS
  | .mk h => { s.addR h s.md with S := fset s.S s.n [], n := s.n + 1, md := s.md + 1 }
  | .put _ o k t => s.setS o (putS (s.S o) k (.pl t))
  | .show_ _ o k t => s.setS o (putS (s.S o) k (.wk t))
  | .tie _ o k a b => s.setS o (putS (s.S o) k (.ky a b))
  | .empty _ o k => s.setS o (dropS (s.S o) k)
  | .take h o k => match look (s.S o) k with
    | none => s
    | some sl => s.addR h sl.last
  | .give h t g => (s.lessR h t).addR g t
  | .drop h t => s.lessR h t
/-! ### on the heap -/
inductive OR where
  | own | hands | pool | rows | row (h : Str) | slots | slo (t : Nat)
  deriving DecidableEq
def olive (hs : List Str) (n : Nat) : OR → Prop
  | .row h => h ∈ hs
  | .slo t => t < n
  | _ => True
abbrev OV := OR → Addr
def okv (a b c : Addr) (z : Nat) (d : Addr) : List (Key × V) := [(Sum.inr "hands", .ref a), (Sum.inr "rows", .ref b), (Sum.inr "slots", .ref c), (Sum.inr "made", vi z), (Sum.inr "pool", .ref d)]
theorem okv_hands (a b c d : Addr) (z : Nat) : valV (okv a b c z d) (Sum.inr "hands" : Key) = some (V.ref a) := by kernel_rfl
theorem okv_rows (a b c d : Addr) (z : Nat) : valV (okv a b c z d) (Sum.inr "rows" : Key) = some (V.ref b) := by kernel_rfl
theorem okv_slots (a b c d : Addr) (z : Nat) : valV (okv a b c z d) (Sum.inr "slots" : Key) = some (V.ref c) := by kernel_rfl
theorem okv_made (a b c d : Addr) (z : Nat) : valV (okv a b c z d) (Sum.inr "made" : Key) = some (vi z) := by kernel_rfl
theorem okv_pool (a b c d : Addr) (z : Nat) : valV (okv a b c z d) (Sum.inr "pool" : Key) = some (V.ref d) := by kernel_rfl
theorem okv_put (a b c d : Addr) (z y : Nat) : putK (okv a b c z d) (Sum.inr "made" : Key) (vi y) = okv a b c y d := by kernel_rfl
def OCt (β : OV) (s : OS) (H : Hp) : OR → HO → Prop
  | .own, o => o = .dK (okv (β .hands) (β .rows) (β .slots) s.md (β .pool))
  | .hands, o => o = .lst (s.hs.map V.str)
  | .pool, o => o = .lst (s.pool.map V.str)
  | .rows, o => o = .dK (kH s.hs fun h => β (.row h))
  | .row h, o => o = .lst ((s.R h).map vi)
  | .slots, o => o = .dK (kT s.n fun t => .ref (β (.slo t)))
  | .slo t, o => ∃ es : List (Str × Addr × Slot), es.map (fun e => (e.1, e.2.2)) = s.S t ∧ o = .dK (es.map fun e => (Sum.inr e.1, V.ref e.2.1)) ∧ ∀ e ∈ es, H e.2.1 = some (.tup e.2.2.v)
structure OA (β : OV) (s : OS) (H : Hp) : Prop where
  at_ : ∀ r, olive s.hs s.n r → ∃ o, H (β r) = some o ∧ OCt β s H r o
  inj : ∀ r r', olive s.hs s.n r → olive s.hs s.n r' → β r = β r' → r = r'
def OFoot (β : OV) (s : OS) (c : Addr) : Prop := ∃ r, olive s.hs s.n r ∧ β r = c
/-- what is not F is as it was, and is not F' -/
def Kp (F F' : Addr → Prop) (H H' : Hp) : Prop := ∀ c o, H c = some o → ¬ F c → H' c = some o ∧ ¬ F' c
theorem Kp.refl {F : Addr → Prop} {H : Hp} : Kp F F H H := fun _ _ e n => ⟨e, n⟩
theorem Kp.trans {F F' F'' : Addr → Prop} {H H' H'' : Hp} (a : Kp F F' H H') (b : Kp F' F'' H' H'') : Kp F F'' H H'' := fun c o e n => b c o (a c o e n).1 (a c o e n).2
theorem Kp.chg {F F' : Addr → Prop} {H H' : Hp} (a : Kp F F' H H') : Chg F H H' := fun c o e n => (a c o e n).1
theorem Kp.of_same {F : Addr → Prop} {H H' : Hp} (s : Same H H') : Kp F F H H' := fun c o e n => ⟨s c o e, n⟩
theorem Kp.of_chg {F F' : Addr → Prop} {H H' : Hp} (c : Chg F H H') (f : ∀ b, F' b → F b ∨ H b = none) : Kp F F' H H' := fun b o e n => ⟨c b o e n, fun z => (f b z).elim n fun q => by
  rw [q] at e
  cases e⟩
section
variable {β β' : OV} {s s' : OS} {H H' : Hp}
theorem OCt.no_tup {r : OR} {o : HO} (h : OCt β s H r o) : HO.isTup o = false := by
  cases r <;> first
    | (have e : o = _ := h; rw [e]; rfl)
    | (obtain ⟨es, _, e, _⟩ := h; rw [e]; rfl)
theorem OA.tup_keep (A : OA β s H) {a : Addr} {xs : List V} (h : H a = some (.tup xs)) : ¬ OFoot β s a := fun ⟨r, l, e⟩ => by
  obtain ⟨o, h1, h2⟩ := A.at_ r l
  rw [e, h] at h1
  have := h2.no_tup
  rw [← Option.some.inj h1] at this
  cases this
theorem OA.foot_some (A : OA β s H) {a : Addr} (h : H a = none) : ¬ OFoot β s a := fun ⟨r, l, e⟩ => by
  obtain ⟨o, h1, h2⟩ := A.at_ r l
  rw [e, h] at h1
  cases h1
theorem OA.no_tup (A : OA β s H) {b : Addr} {xs : List V} (f : OFoot β s b) : H b ≠ some (.tup xs) := fun z => A.tup_keep z f
theorem OCt.mono {r : OR} {o : HO} (k : ∀ e xs, H e = some (.tup xs) → H' e = some (.tup xs)) (h : OCt β s H r o) : OCt β s H' r o := by
  cases r with
  | slo t =>
    obtain ⟨es, e1, e2, e3⟩ := h
    exact ⟨es, e1, e2, fun e he => k _ _ (e3 e he)⟩
  | _ => exact h
theorem OA.same (A : OA β s H) (e : Same H H') : OA β s H' :=
  ⟨fun r l => let ⟨o, h1, h2⟩ := A.at_ r l; ⟨o, e _ _ h1, h2.mono fun b xs q => e b _ q⟩, A.inj⟩
theorem OA.keep (A : OA β s H) {F : Addr → Prop} (c : Chg F H H') (d : ∀ b, F b → ¬ OFoot β s b) (dt : ∀ b xs, F b → H b ≠ some (.tup xs)) : OA β s H' :=
  ⟨fun r l => let ⟨o, h1, h2⟩ := A.at_ r l; ⟨o, c _ _ h1 (fun f => d _ f ⟨r, l, rfl⟩), h2.mono fun b xs q => c b _ q fun f => dt b xs f q⟩, A.inj⟩
theorem OA.own (A : OA β s H) : H (β .own) = some (.dK (okv (β .hands) (β .rows) (β .slots) s.md (β .pool))) := by
  obtain ⟨o, h1, h2⟩ := A.at_ .own trivial
  rw [h1]
  exact congrArg some h2
theorem OA.hands (A : OA β s H) : H (β .hands) = some (.lst (s.hs.map V.str)) := by
  obtain ⟨o, h1, h2⟩ := A.at_ .hands trivial
  rw [h1]
  exact congrArg some h2
theorem OA.pool (A : OA β s H) : H (β .pool) = some (.lst (s.pool.map V.str)) := by
  obtain ⟨o, h1, h2⟩ := A.at_ .pool trivial
  rw [h1]
  exact congrArg some h2
theorem OA.rows (A : OA β s H) : H (β .rows) = some (.dK (kH s.hs fun h => β (.row h))) := by
  obtain ⟨o, h1, h2⟩ := A.at_ .rows trivial
  rw [h1]
  exact congrArg some h2
theorem OA.row (A : OA β s H) {h : Str} (hm : h ∈ s.hs) : H (β (.row h)) = some (.lst ((s.R h).map vi)) := by
  obtain ⟨o, h1, h2⟩ := A.at_ (.row h) hm
  rw [h1]
  exact congrArg some h2
theorem OA.slots (A : OA β s H) : H (β .slots) = some (.dK (kT s.n fun t => .ref (β (.slo t)))) := by
  obtain ⟨o, h1, h2⟩ := A.at_ .slots trivial
  rw [h1]
  exact congrArg some h2
theorem OA.slo (A : OA β s H) {t : Nat} (ht : t < s.n) : ∃ es : List (Str × Addr × Slot), es.map (fun e => (e.1, e.2.2)) = s.S t ∧ H (β (.slo t)) = some (.dK (es.map fun e => (Sum.inr e.1, V.ref e.2.1))) ∧ ∀ e ∈ es, H e.2.1 = some (.tup e.2.2.v) := by
  obtain ⟨o, h1, es, e1, e2, e3⟩ := A.at_ (.slo t) ht
  exact ⟨es, e1, by rw [h1, e2], e3⟩
theorem OA.g_hands (A : OA β s H) : DGet H (β .own) (.str "hands") (some (.ref (β .hands))) := by
  have q := DGet.k (k := Sum.inr "hands") A.own
  rw [okv_hands] at q
  exact q
theorem OA.g_rows (A : OA β s H) : DGet H (β .own) (.str "rows") (some (.ref (β .rows))) := by
  have q := DGet.k (k := Sum.inr "rows") A.own
  rw [okv_rows] at q
  exact q
theorem OA.g_slots (A : OA β s H) : DGet H (β .own) (.str "slots") (some (.ref (β .slots))) := by
  have q := DGet.k (k := Sum.inr "slots") A.own
  rw [okv_slots] at q
  exact q
theorem OA.g_made (A : OA β s H) : DGet H (β .own) (.str "made") (some (vi s.md)) := by
  have q := DGet.k (k := Sum.inr "made") A.own
  rw [okv_made] at q
  exact q
theorem OA.g_pool (A : OA β s H) : DGet H (β .own) (.str "pool") (some (.ref (β .pool))) := by
  have q := DGet.k (k := Sum.inr "pool") A.own
  rw [okv_pool] at q
  exact q
theorem putK_kH {hs : List Str} {f : Str → Addr} {h : Str} {c : Addr} (m : h ∈ hs) : putK (kH hs f) (Sum.inr h : Key) (.ref c) = kH hs (fset f h c) := by
  unfold putK
  rw [if_pos (by
    rw [valV_any, val_kH, if_pos m]
    rfl)]
  unfold kH
  rw [List.map_map]
  refine List.map_congr_left fun x hx => ?_
  by_cases e : x = h
  · subst e
    simp [fset]
  · simp [fset, e]
/-- a hand's row is another list -/
theorem OA.newRow (A : OA β s H) {h : Str} (hh : h ∈ s.hs) (r : List Nat) {c : Addr} (hc : H c = some (.lst (r.map vi))) (nc : ¬ OFoot β s c) :
    OA (fset β (.row h) c) (s.setR h r) (upd H (β .rows) (.dK (kH s.hs (fset (fun h => β (.row h)) h c)))) := by
  have live : ∀ x, olive (s.setR h r).hs (s.setR h r).n x = olive s.hs s.n x := fun x => rfl
  have nr : ∀ x, olive s.hs s.n x → x ≠ .rows → β x ≠ β .rows := fun x l ne z => ne (A.inj _ _ l trivial z)
  have cr : c ≠ β .rows := fun z => nc ⟨.rows, trivial, z.symm⟩
  have kt : ∀ e xs, H e = some (.tup xs) → upd H (β .rows) (.dK (kH s.hs (fset (fun h => β (.row h)) h c))) e = some (.tup xs) := fun e xs q => by
    rw [upd_ne fun z => A.tup_keep q ⟨.rows, trivial, z.symm⟩]
    exact q
  have fk : (fun x => fset β (.row h) c (.row x)) = fset (fun x => β (.row x)) h c := by
    funext x
    unfold fset
    by_cases e : x = h
    · rw [if_pos e, if_pos (by rw [e])]
    · rw [if_neg e, if_neg (fun z => e (OR.row.inj z))]
  refine ⟨fun x l => ?_, fun x y lx ly e => ?_⟩
  · by_cases e : x = .row h
    · subst e
      refine ⟨.lst (r.map vi), by rw [fset_same, upd_ne cr]; exact hc, ?_⟩
      show HO.lst (r.map vi) = .lst ((fset s.R h r h).map vi)
      rw [fset_same]
    · rw [fset_ne e]
      by_cases e2 : x = .rows
      · subst e2
        refine ⟨_, upd_same, ?_⟩
        show HO.dK _ = .dK (kH s.hs fun x => fset β (.row h) c (.row x))
        rw [fk]
      · obtain ⟨u, h1, h2⟩ := A.at_ x l
        refine ⟨u, by rw [upd_ne (nr x l e2)]; exact h1, ?_⟩
        have h3 := h2.mono kt
        cases x with
        | own => exact (show u = _ from h3).trans (by rw [fset_ne (fun z => by cases z), fset_ne (fun z => by cases z), fset_ne (fun z => by cases z), fset_ne (fun z => by cases z)]; rfl)
        | hands => exact h3
        | pool => exact h3
        | rows => exact absurd rfl e2
        | row y => exact (show u = _ from h3).trans (by show HO.lst _ = .lst ((fset s.R h r y).map vi); rw [fset_ne (fun z => e (by rw [z]))])
        | slots => exact (show u = _ from h3).trans (by
            show HO.dK _ = .dK _
            congr 2)
        | slo t => exact h3
  · by_cases ex : x = .row h
    · by_cases ey : y = .row h
      · rw [ex, ey]
      · rw [ex, fset_same, fset_ne ey] at e
        exact absurd ⟨y, ly, e.symm⟩ nc
    · by_cases ey : y = .row h
      · rw [ey, fset_same, fset_ne ex] at e
        exact absurd ⟨x, lx, e⟩ nc
      · rw [fset_ne ex, fset_ne ey] at e
        exact A.inj x y lx ly e
theorem OFoot.newRow {h : Str} {r : List Nat} {c b : Addr} (f : OFoot (fset β (.row h) c) (s.setR h r) b) : OFoot β s b ∨ b = c := by
  obtain ⟨x, l, e⟩ := f
  by_cases ex : x = .row h
  · rw [ex, fset_same] at e
    exact .inr e.symm
  · rw [fset_ne ex] at e
    exact .inl ⟨x, l, e⟩
/-- an owner's slots -/
theorem OA.newS (A : OA β s H) {o : Nat} (ho : o < s.n) {r : List (Str × Slot)} (es : List (Str × Addr × Slot)) (hm : es.map (fun e => (e.1, e.2.2)) = r) (hT : ∀ e ∈ es, H e.2.1 = some (.tup e.2.2.v)) :
    OA β (s.setS o r) (upd H (β (.slo o)) (.dK (es.map fun e => (Sum.inr e.1, V.ref e.2.1)))) := by
  have kt : ∀ e xs, H e = some (.tup xs) → upd H (β (.slo o)) (.dK (es.map fun e => (Sum.inr e.1, V.ref e.2.1))) e = some (.tup xs) := fun e xs q => by
    rw [upd_ne fun z => A.tup_keep q ⟨.slo o, ho, z.symm⟩]
    exact q
  refine ⟨fun x l => ?_, A.inj⟩
  by_cases e : x = .slo o
  · subst e
    exact ⟨_, upd_same, es, by rw [hm]; exact fset_same.symm, rfl, fun e he => kt _ _ (hT e he)⟩
  · obtain ⟨u, h1, h2⟩ := A.at_ x l
    refine ⟨u, by rw [upd_ne fun z => e (A.inj _ _ l ho z)]; exact h1, ?_⟩
    have h3 := h2.mono kt
    cases x with
    | slo t =>
      obtain ⟨es', e1, e2⟩ := h3
      exact ⟨es', e1.trans (fset_ne fun z => e (by rw [z])).symm, e2⟩
    | _ => exact h3
/-- one more has slots -/
theorem OA.more (A : OA β s H) {c : Addr} (hc : H c = some (.dK [])) (nc : ¬ OFoot β s c) :
    OA (fset β (.slo s.n) c) { s with S := fset s.S s.n [], n := s.n + 1 } (upd H (β .slots) (.dK (kT (s.n + 1) (fset (fun t => V.ref (β (.slo t))) s.n (.ref c))))) := by
  have lv : ∀ x, olive s.hs (s.n + 1) x → x ≠ .slo s.n → olive s.hs s.n x := fun x l ne => by
    cases x with
    | slo t =>
      have l' : t < s.n + 1 := l
      have : t ≠ s.n := fun z => ne (by rw [z])
      show t < s.n
      omega
    | _ => exact l
  have cr : c ≠ β .slots := fun z => nc ⟨.slots, trivial, z.symm⟩
  have kt : ∀ e xs, H e = some (.tup xs) → upd H (β .slots) (.dK (kT (s.n + 1) (fset (fun t => V.ref (β (.slo t))) s.n (.ref c)))) e = some (.tup xs) := fun e xs q => by
    rw [upd_ne fun z => A.tup_keep q ⟨.slots, trivial, z.symm⟩]
    exact q
  have fk : (fun t => V.ref (fset β (.slo s.n) c (.slo t))) = fset (fun t => V.ref (β (.slo t))) s.n (.ref c) := by
    funext x
    unfold fset
    by_cases e : x = s.n
    · rw [if_pos e, if_pos (by rw [e])]
    · rw [if_neg e, if_neg (fun z => e (OR.slo.inj z))]
  refine ⟨fun x l => ?_, fun x y lx ly e => ?_⟩
  · by_cases e : x = .slo s.n
    · subst e
      exact ⟨.dK [], by rw [fset_same, upd_ne cr]; exact hc, [], fset_same.symm, rfl, fun _ z => absurd z List.not_mem_nil⟩
    · rw [fset_ne e]
      have l' := lv x l e
      by_cases e2 : x = .slots
      · subst e2
        refine ⟨_, upd_same, ?_⟩
        show HO.dK _ = .dK (kT (s.n + 1) fun t => V.ref (fset β (.slo s.n) c (.slo t)))
        rw [fk]
      · obtain ⟨u, h1, h2⟩ := A.at_ x l'
        refine ⟨u, by rw [upd_ne fun z => e2 (A.inj _ _ l' trivial z)]; exact h1, ?_⟩
        have h3 := h2.mono kt
        cases x with
        | own => exact (show u = _ from h3).trans (by rw [fset_ne (fun z => by cases z), fset_ne (fun z => by cases z), fset_ne (fun z => by cases z), fset_ne (fun z => by cases z)])
        | hands => exact h3
        | pool => exact h3
        | slots => exact absurd rfl e2
        | row y => exact h3
        | rows => exact (show u = _ from h3).trans (by
            show HO.dK _ = .dK _
            congr 2)
        | slo t =>
          obtain ⟨es', e1, e2⟩ := h3
          exact ⟨es', e1.trans (fset_ne fun z => e (by rw [z])).symm, e2⟩
  · by_cases ex : x = .slo s.n
    · by_cases ey : y = .slo s.n
      · rw [ex, ey]
      · rw [ex, fset_same, fset_ne ey] at e
        exact absurd ⟨y, lv y ly ey, e.symm⟩ nc
    · by_cases ey : y = .slo s.n
      · rw [ey, fset_same, fset_ne ex] at e
        exact absurd ⟨x, lv x lx ex, e⟩ nc
      · rw [fset_ne ex, fset_ne ey] at e
        exact A.inj x y (lv x lx ex) (lv y ly ey) e
theorem OFoot.more {c b : Addr} (f : OFoot (fset β (.slo s.n) c) { s with S := fset s.S s.n [], n := s.n + 1 } b) : OFoot β s b ∨ b = c := by
  obtain ⟨x, l, e⟩ := f
  by_cases ex : x = .slo s.n
  · rw [ex, fset_same] at e
    exact .inr e.symm
  · rw [fset_ne ex] at e
    refine .inl ⟨x, ?_, e⟩
    cases x with
    | slo t =>
      have l' : t < s.n + 1 := l
      have : t ≠ s.n := fun z => ex (by rw [z])
      show t < s.n
      omega
    | _ => exact l
/-- one more is made -/
theorem OA.made (A : OA β s H) (m : Nat) : OA β { s with md := m } (upd H (β .own) (.dK (okv (β .hands) (β .rows) (β .slots) m (β .pool)))) := by
  have kt : ∀ e xs, H e = some (.tup xs) → upd H (β .own) (.dK (okv (β .hands) (β .rows) (β .slots) m (β .pool))) e = some (.tup xs) := fun e xs q => by
    rw [upd_ne fun z => A.tup_keep q ⟨.own, trivial, z.symm⟩]
    exact q
  refine ⟨fun x l => ?_, A.inj⟩
  by_cases e : x = .own
  · subst e
    exact ⟨_, upd_same, rfl⟩
  · obtain ⟨u, h1, h2⟩ := A.at_ x l
    refine ⟨u, by rw [upd_ne fun z => e (A.inj _ _ l trivial z)]; exact h1, ?_⟩
    have h3 := h2.mono kt
    cases x with
    | own => exact absurd rfl e
    | _ => exact h3
end
/-! ### slots -/
theorem any_es (es : List (Str × Addr × Slot)) (k : Str) : ((es.map fun e => ((Sum.inr e.1 : Key), V.ref e.2.1)).any fun kv => decide (kv.1 = (Sum.inr k : Key))) = ((es.map fun e => (e.1, e.2.2)).any fun e => decide (e.1 = k)) := by
  rw [List.any_map, List.any_map]
  refine congrArg (fun f => es.any f) ?_
  funext e
  show decide ((Sum.inr e.1 : Key) = Sum.inr k) = decide (e.1 = k)
  exact decide_eq_decide.mpr ⟨fun z => Sum.inr.inj z, fun z => by rw [z]⟩
theorem own_es (es : List (Str × Addr × Slot)) (k : Str) (a : Addr) (sl : Slot) : ∃ es' : List (Str × Addr × Slot), putK (es.map fun e => ((Sum.inr e.1 : Key), V.ref e.2.1)) (Sum.inr k : Key) (.ref a) = es'.map (fun e => (Sum.inr e.1, V.ref e.2.1)) ∧
    es'.map (fun e => (e.1, e.2.2)) = putS (es.map fun e => (e.1, e.2.2)) k sl ∧ ∀ e ∈ es', e ∈ es ∨ e.2 = (a, sl) := by
  unfold putK putS
  rw [any_es]
  by_cases h : ((es.map fun e => (e.1, e.2.2)).any fun e => decide (e.1 = k)) = true
  · rw [if_pos h, if_pos h]
    refine ⟨es.map fun e => (e.1, if e.1 = k then (a, sl) else e.2), ?_, ?_, fun e he => ?_⟩
    · rw [List.map_map, List.map_map]
      refine List.map_congr_left fun e _ => ?_
      by_cases z : e.1 = k
      · simp [z]
      · simp [z]
    · rw [List.map_map, List.map_map]
      refine List.map_congr_left fun e _ => ?_
      by_cases z : e.1 = k
      · simp [z]
      · simp [z]
    · obtain ⟨e0, h0, rfl⟩ := List.mem_map.mp he
      by_cases z : e0.1 = k
      · exact .inr (by simp [z])
      · exact .inl (by simpa [z] using h0)
  · rw [if_neg h, if_neg h]
    refine ⟨es ++ [(k, a, sl)], by rw [List.map_append]; rfl, by rw [List.map_append]; rfl, fun e he => ?_⟩
    rcases List.mem_append.mp he with z | z
    · exact .inl z
    · exact .inr (by rw [List.mem_singleton.mp z])
theorem len_putS (l : List (Str × Slot)) (k : Str) (sl : Slot) : (putS l k sl).length ≤ l.length + 1 := by
  unfold putS
  split
  · rw [List.length_map]
    omega
  · rw [List.length_append, List.length_singleton]
    exact Nat.le_refl _
end Df
/-! Which deeds are let. -/
namespace Df
open PySem PySem.Spec PyProof.Rows L2
def Deed.word : Deed → Str
  | .mk _ => "make"
  | .put _ _ _ _ => "put"
  | .show_ _ _ _ _ => "show"
  | .tie _ _ _ _ _ => "tie"
  | .empty _ _ _ => "empty"
  | .take _ _ _ => "take"
  | .give _ _ _ => "give"
  | .drop _ _ => "drop"
theorem Deed.a0 (d : Deed) : atI d.v 0 = some (.str d.word) := by cases d <;> rfl
theorem Deed.a1 (d : Deed) : atI d.v 1 = some (.str d.hand) := by cases d <;> rfl
theorem Deed.a2 {d : Deed} (h : d.isMk = false) : atI d.v 2 = some (vi d.th) := by cases d <;> first | rfl | cases h
theorem Deed.c2 {d : Deed} (h : d.isMk = false) : cutV d.v (some 2) (some 3) = [vi d.th] ∧ ¬ (HT.sIx d.v.length 0 (some 2) = 0 ∧ HT.sIx d.v.length d.v.length (some 3) = d.v.length) := by
  cases d <;> first | (cases h; done) | exact ⟨rfl, fun z => absurd (show (2 : Nat) = 0 from z.1) (by decide)⟩
theorem Deed.w2 {d : Deed} (h : d.isMk = false) : decide (V.str d.word = V.str "make") = false := by cases d <;> first | rfl | cases h
theorem OS.let_no {o : OS} {d : Deed} (h : d.isMk = false) (n : ¬ d.th ∈ o.R d.hand) : o.isLet d = false := by
  unfold OS.isLet
  rw [decide_eq_false n, h]
  rfl
theorem OS.let_yes {o : OS} {d : Deed} (h : d.isMk = false) (n : d.th ∈ o.R d.hand) : o.isLet d = o.rest d := by
  unfold OS.isLet
  rw [decide_eq_true n, h]
  rfl
theorem look_none_of {es : List (Str × Addr × Slot)} {k : Str} {l : List (Str × Slot)} (e : es.map (fun e => (e.1, e.2.2)) = l) : (valV (es.map fun e => ((Sum.inr e.1 : Key), V.ref e.2.1)) (Sum.inr k : Key) = none ∧ look l k = none) ∨
    ∃ a sl, valV (es.map fun e => ((Sum.inr e.1 : Key), V.ref e.2.1)) (Sum.inr k : Key) = some (.ref a) ∧ look l k = some sl ∧ (k, a, sl) ∈ es := by
  rw [← e]
  exact look_val
section
variable {P : Program} {w : World} {K : PySem.W.Frag} {mg : Str → Option Value} {base : Heap}
abbrev N_L_row_in : List Str := ["_law_own", "_law_deed_here"]
theorem sc_L_row_in : FnScope N_L_row_in ["_law_own", "_law_deed_here"] (defScope s_L_row_in) := ⟨rfl, rfl, rfl, by decide +kernel, rfl, by decide +kernel, by decide +kernel⟩
def spRowIn : Sp := fun vs H Q _ => ∃ (β : OV) (o : OS) (d : Addr) (xs : List V) (t : Nat) (k : Str), vs = [.ref (β .own), .ref d] ∧ OA β o H ∧ H d = some (.tup xs) ∧ atI xs 2 = some (vi t) ∧ atI xs 3 = some (.str k) ∧ t < o.n ∧
  (look (o.S t) k = none → Q .non H) ∧ ∀ a sl, look (o.S t) k = some sl → H a = some (.tup sl.v) → Q (.ref a) H
theorem ok_L_row_in (T : Tx K mg) : Cl P w K mg base "_law_row_in" 1 ["_law_own", "_law_deed_here"] spRowIn := by
  refine Cl.of T.f_L_row_in T.gl_L_row_in sc_L_row_in (fun _ _ _ _ _ _ us hl => match us, hl with | [_, _], _ => rfl) (fun vs H Q E h => ?_) (fun cdv A outer s H vs Q E hr h => ?_)
  · obtain ⟨β, o, d, xs, t, k, rfl, _⟩ := h
    rfl
  · obtain ⟨β, o, d, xs, t, k, rfl, a, hd, h2, h3, ht, q0, q1⟩ := h
    have hu := hu_of hr
    refine ⟨_, (pss_one (ps_ret (pe_dget2 hu (pe_dget hu (pe_dget hu (pv 0) pe_str (fun _ _ => rfl)) (pe_ix ix_tup (pv 1) pe_int (fun _ _ => rfl)) (fun _ _ => rfl)) (pe_ix ix_tup (pv 1) pe_int (fun _ _ => rfl)) pe_non ⟨rfl, rfl, rfl, rfl⟩))), ?_⟩
    obtain ⟨es, e1, e2, e3⟩ := a.slo ht
    refine ⟨_, rfl, _, _, rfl, a.g_slots, _, rfl, _, _, _, _, rfl, rfl, SqT.of hd, h2, _, _, rfl, dget_t a.slots ht, _, rfl, .inl ⟨_, Rd.of e2⟩, _, rfl, _, _, _, _, rfl, rfl, SqT.of hd, h3, _, DGet.k (k := Sum.inr k) e2, ?_⟩
    rcases look_none_of e1 with ⟨h1, h4⟩ | ⟨b, sl, h1, h4, h5⟩
    · rw [h1]
      exact q0 h4
    · rw [h1]
      exact q1 b sl h4 (e3 _ h5)
abbrev N_L_is_let : List Str := ["_law_own", "_law_deed_here", "_law_row", "_law_had", "_law_piece"]
theorem sc_L_is_let : FnScope N_L_is_let ["_law_own", "_law_deed_here"] (defScope s_L_is_let) := ⟨rfl, rfl, rfl, by decide +kernel, rfl, by decide +kernel, by decide +kernel⟩
def spIsLet : Sp := fun vs H Q _ => ∃ (β : OV) (o : OS) (d : Addr) (dd : Deed), vs = [.ref (β .own), .ref d] ∧ OA β o H ∧ H d = some (.tup dd.v) ∧ dd.of o.hs o.pool ∧ (∀ h ∈ o.hs, ∀ t ∈ o.R h, t < o.n) ∧ (∀ h ∈ o.hs, (o.R h).length ≤ 1000) ∧ ∀ H', Same H H' → Q (.bl (o.isLet dd)) H'
theorem ok_L_is_let (T : Tx K mg) (h_L_row_in : Cl P w K mg base "_law_row_in" 1 ["_law_own", "_law_deed_here"] spRowIn) : Cl P w K mg base "_law_is_let" 2 ["_law_own", "_law_deed_here"] spIsLet := by
  refine Cl.of T.f_L_is_let T.gl_L_is_let sc_L_is_let (fun _ _ _ _ _ _ us hl => match us, hl with | [_, _], _ => rfl) (fun vs H Q E h => ?_) (fun cdv A outer s H vs Q E hr h => ?_)
  · obtain ⟨β, o, d, dd, rfl, _⟩ := h
    rfl
  · obtain ⟨β, o, d, dd, rfl, a, hd, hof, hlt, hln, q⟩ := h
    have hu := hu_of hr
    refine ⟨_, (pss_cons (ps_set (i := 2) sc_L_is_let.nd rfl (Or.inr rfl) (pe_dget hu (pe_dget hu (pv 0) pe_str (fun _ _ => rfl)) (pe_ix ix_tup (pv 1) pe_int (fun _ _ => rfl)) (fun _ _ => rfl)))
      (pss_cons (ps_if (pt_cmpR op_eq (pe_ix ix_tup (pv 1) pe_int (fun _ _ => rfl)) pe_str (nomark _)) (pss_one (ps_ret (pe_and (pe_cmpR op_lt (pe_dget hu (pv 0) pe_str (fun _ _ => rfl)) pe_int (nomark _)) (pe_one (pe_cmpR op_lt (pe_callB call_len_seq (by rfl) T.b_len (by decide +kernel) (pa_cons (pv 2) pa_nil)) pe_int (nomark _)))))) pss_nil)
      (pss_cons (ps_if (pt_not (pt_val (pe_callB (cr_all rfl) (by rfl) T.b_all (by decide +kernel) (pa_cons (pe_lc (own := [("_law_piece", 4)]) rfl sc_L_is_let.nd (pi_tup (pe_slice sl_tup (pv 1) (po_some pe_int) (po_some pe_int))) (blkOk_by (own := [("_law_piece", 4)]) (N := N_L_is_let) (sc := defScope s_L_is_let) (by decide +kernel)) (fun _ _ _ _ _ => pg_name (i := 4) sc_L_is_let.nd rfl (Or.inl rfl)) (fun _ _ _ _ _ => pts_nil) (fun _ _ _ _ _ => pe_cmpR (op_in_seqK K) (pv 4) (pv 2) rfl)) pa_nil)))) (pss_one (ps_ret pe_bl)) pss_nil)
      (pss_cons (ps_if (pt_cmpR op_in_seq (pe_ix ix_tup (pv 1) pe_int (fun _ _ => rfl)) (pe_tup (pa_cons pe_str (pa_cons pe_str pa_nil))) rfl) (pss_one (ps_ret (pe_cmpR op_in_seq (pe_ix ix_tup (pv 1) pe_int (fun _ _ => rfl)) (pv 2) rfl))) pss_nil)
      (pss_cons (ps_if (pt_cmpR op_eq (pe_ix ix_tup (pv 1) pe_int (fun _ _ => rfl)) pe_str (nomark _)) (pss_one (ps_ret (pe_and (pe_cmpR op_in_seq (pe_ix ix_tup (pv 1) pe_int (fun _ _ => rfl)) (pv 2) rfl) (pe_one (pe_cmpR op_in_seq (pe_ix ix_tup (pv 1) pe_int (fun _ _ => rfl)) (pv 2) rfl))))) pss_nil)
      (pss_cons (ps_if (pt_cmpR op_eq (pe_ix ix_tup (pv 1) pe_int (fun _ _ => rfl)) pe_str (nomark _)) (pss_one (ps_ret (pe_cmpR op_notN (pe_cl h_L_row_in hr (pa_cons (pv 0) (pa_cons (pv 1) pa_nil))) pe_non (nomark _)))) pss_nil)
      (pss_cons (ps_if (pt_cmpR op_eq (pe_ix ix_tup (pv 1) pe_int (fun _ _ => rfl)) pe_str (nomark _)) (pss_cons (ps_set (i := 3) sc_L_is_let.nd rfl (Or.inl rfl) (pe_cl h_L_row_in hr (pa_cons (pv 0) (pa_cons (pv 1) pa_nil))))
      (pss_one (ps_ret (pe_and (pe_cmpR op_notN (pv 3) pe_non (nomark _)) (pe_and (pe_cmpR op_lt (pe_callB call_len_seq (by rfl) T.b_len (by decide +kernel) (pa_cons (pv 2) pa_nil)) pe_int (nomark _)) (pe_one (pe_or (pe_cmpR op_ne (pe_ix ix_tup (pv 3) pe_int (fun _ _ => rfl)) pe_str (nomark _)) (pe_one (pe_cmpR op_in_seq (pe_ix ix_tup (pv 3) pe_int (fun _ _ => rfl)) (pv 2) rfl))))))))) pss_nil)
      (pss_one (ps_ret (pe_or (pe_cmpR op_eq (pe_ix ix_tup (pv 1) pe_int (fun _ _ => rfl)) pe_str (nomark _)) (pe_or (pe_cmpR op_eq (pe_ix ix_tup (pv 1) pe_int (fun _ _ => rfl)) (pe_ix ix_tup (pv 1) pe_int (fun _ _ => rfl)) (nomark _)) (pe_one (pe_cmpR op_lt (pe_callB call_len_seq (by rfl) T.b_len (by decide +kernel) (pa_cons (pe_dget hu (pe_dget hu (pv 0) pe_str (fun _ _ => rfl)) (pe_ix ix_tup (pv 1) pe_int (fun _ _ => rfl)) (fun _ _ => rfl)) pa_nil)) pe_int (nomark _)))))))))))))), ?_⟩
    have hm := hof.hand
    have hR := a.row hm
    refine ⟨_, rfl, _, _, rfl, a.g_rows, _, rfl, _, _, _, _, rfl, rfl, SqT.of hd, dd.a1, _, _, rfl, dget_row a.rows hm, ?_⟩
    refine ⟨_, rfl, _, _, _, _, rfl, rfl, SqT.of hd, dd.a0, rfl, _, rfl, ?_⟩
    cases hk : dd.isMk with
    | true =>
      cases dd with
      | mk h =>
        refine iteT ?_
        refine ⟨_, rfl, _, _, rfl, a.g_made, _, _, rfl, rfl, _, rfl, ?_⟩
        have q' : Q (.bl (decide (o.md < 40) && decide ((o.R h).length < 30))) H := q H (Same.refl _)
        have e1 : decide ((o.md : Int) < 40) = decide (o.md < 40) := decide_eq_decide.mpr (by omega)
        rw [e1]
        cases hc : decide (o.md < 40) with
        | false =>
          refine iteF ?_
          rw [hc] at q'
          exact q'
        | true =>
          refine iteT ?_
          rw [hc] at q'
          refine ⟨_, rfl, _, _, rfl, .inl (SqL.of hR), _, _, rfl, rfl, ?_⟩
          rw [List.length_map]
          have e2 : decide (((o.R h).length : Int) < 30) = decide ((o.R h).length < 30) := decide_eq_decide.mpr (by omega)
          have e3 : (if ((o.R h).length : Int) < 30 then true else false) = decide ((o.R h).length < 30) := by
            by_cases z : (o.R h).length < 30
            · rw [decide_eq_true z, if_pos (by omega)]
            · rw [decide_eq_false z, if_neg (by omega)]
          show Q (.bl (decide (((o.R h).length : Int) < 30))) H
          rw [e2]
          exact q'
      | _ => cases hk
    | false =>
      have w2 := Deed.w2 hk
      rw [w2]
      refine iteF ?_
      obtain ⟨c2, nw⟩ := Deed.c2 hk
      refine ⟨_, rfl, _, rfl, _, rfl, _, _, rfl, SqT.of hd, nw, fun r nr => ?_⟩
      rw [c2]
      have s1 := same_upd (o := .tup [vi dd.th]) nr
      refine ⟨r, rfl, ⟨_, SqT.of upd_same⟩, fun D nD => ?_⟩
      refine lc_pure0 (walk_tup (xs := [vi dd.th])) (by show 1 ≤ sizeLine; decide) (fun _ => .bl (decide (dd.th ∈ o.R dd.hand))) nD (fun H3 s3 => SqT.of (s3 _ _ upd_same)) (fun i x H3 H4 hi s3 y Kk hK => ?_) fun H3 s3 hD => ?_
      · obtain ⟨rfl, hx⟩ := y
        have ex : x = vi dd.th := by
          have i0 : i = 0 := by
            have : i < 1 := hi
            omega
          subst i0
          exact (Option.some.inj hx).symm
        subst ex
        refine ⟨rfl, _, rfl, _, rfl, _, _, rfl, .inl (SqL.of (s3 _ _ (s1 _ _ hR))), rfl, flat_vi _, ?_⟩
        rw [if_neg (show ¬ false = true by decide), vi_inV]
        exact hK _ (Same.refl _)
      · have hD2 : H3 D = some (.lst ([decide (dd.th ∈ o.R dd.hand)].map V.bl)) := hD
        have s4 := s1.trans s3
        have hR3 := s4 _ _ hR
        have hd3 := s4 _ _ hd
        have a3 := a.same s4
        refine ⟨D, _, rfl, SqL.of hD2, _, rfl, ?_⟩
        by_cases hth : dd.th ∈ o.R dd.hand
        · rw [decide_eq_true hth]
          refine iteF ?_
          have q4 : ∀ H', Same H H' → Q (.bl (o.rest dd)) H' := fun H' s => by
            have := q H' s
            rw [OS.let_yes hk hth] at this
            exact this
          have hton := hlt _ hm _ hth
          clear nr nD s1 s3 hD hD2 w2 c2 nw q
          cases dd with
          | mk h => cases hk
          | put h ow k t =>
            have hd3 : H3 d = some (.tup [.str "put", .str h, vi ow, .str k, vi t]) := hd3
            refine ⟨_, rfl, _, _, _, _, rfl, rfl, SqT.of hd3, rfl, by show 2 ≤ sizeLine; decide, fun u nu => ?_⟩
            refine ⟨u, _, rfl, .inr (SqT.of upd_same), rfl, rfl, _, rfl, ?_⟩
            have s5 := same_new (o := .tup [.str "put", .str "show"]) s4 nu
            have s6 := same_upd (o := .tup [.str "put", .str "show"]) nu
            have hd4 := s6 _ _ hd3
            have hR4 : _ = some (HO.lst ((o.R h).map vi)) := s6 _ _ hR3
            have a4 := a3.same s6
            refine iteT ?_
            refine ⟨_, rfl, _, _, _, _, rfl, rfl, SqT.of hd4, rfl, _, rfl, _, _, rfl, .inl (SqL.of hR4), rfl, flat_vi _, ?_⟩
            rw [if_neg (show ¬ false = true by decide), vi_inV]
            exact q4 _ s5
          | show_ h ow k t =>
            have hd3 : H3 d = some (.tup [.str "show", .str h, vi ow, .str k, vi t]) := hd3
            refine ⟨_, rfl, _, _, _, _, rfl, rfl, SqT.of hd3, rfl, by show 2 ≤ sizeLine; decide, fun u nu => ?_⟩
            refine ⟨u, _, rfl, .inr (SqT.of upd_same), rfl, rfl, _, rfl, ?_⟩
            have s5 := same_new (o := .tup [.str "put", .str "show"]) s4 nu
            have s6 := same_upd (o := .tup [.str "put", .str "show"]) nu
            have hd4 := s6 _ _ hd3
            have hR4 : _ = some (HO.lst ((o.R h).map vi)) := s6 _ _ hR3
            have a4 := a3.same s6
            refine iteT ?_
            refine ⟨_, rfl, _, _, _, _, rfl, rfl, SqT.of hd4, rfl, _, rfl, _, _, rfl, .inl (SqL.of hR4), rfl, flat_vi _, ?_⟩
            rw [if_neg (show ¬ false = true by decide), vi_inV]
            exact q4 _ s5
          | tie h ow k x y =>
            have hd3 : H3 d = some (.tup [.str "tie", .str h, vi ow, .str k, vi x, vi y]) := hd3
            refine ⟨_, rfl, _, _, _, _, rfl, rfl, SqT.of hd3, rfl, by show 2 ≤ sizeLine; decide, fun u nu => ?_⟩
            refine ⟨u, _, rfl, .inr (SqT.of upd_same), rfl, rfl, _, rfl, ?_⟩
            have s5 := same_new (o := .tup [.str "put", .str "show"]) s4 nu
            have s6 := same_upd (o := .tup [.str "put", .str "show"]) nu
            have hd4 := s6 _ _ hd3
            have hR4 : _ = some (HO.lst ((o.R h).map vi)) := s6 _ _ hR3
            have a4 := a3.same s6
            refine iteF ?_
            refine ⟨_, rfl, _, _, _, _, rfl, rfl, SqT.of hd4, rfl, rfl, _, rfl, ?_⟩
            refine iteT ?_
            refine ⟨_, rfl, _, _, _, _, rfl, rfl, SqT.of hd4, rfl, _, rfl, _, _, rfl, .inl (SqL.of hR4), rfl, flat_vi _, ?_⟩
            rw [if_neg (show ¬ false = true by decide), vi_inV]
            have q5 : Q (.bl (decide (x ∈ o.R h) && decide (y ∈ o.R h))) _ := q4 _ s5
            cases hx : decide (x ∈ o.R h) with
            | false =>
              rw [hx] at q5
              exact ⟨_, rfl, iteF q5⟩
            | true =>
              rw [hx] at q5
              refine ⟨_, rfl, iteT ?_⟩
              refine ⟨_, rfl, _, _, _, _, rfl, rfl, SqT.of hd4, rfl, _, rfl, _, _, rfl, .inl (SqL.of hR4), rfl, flat_vi _, ?_⟩
              rw [if_neg (show ¬ false = true by decide), vi_inV]
              exact q5
          | empty h ow k =>
            have hd3 : H3 d = some (.tup [.str "empty", .str h, vi ow, .str k]) := hd3
            refine ⟨_, rfl, _, _, _, _, rfl, rfl, SqT.of hd3, rfl, by show 2 ≤ sizeLine; decide, fun u nu => ?_⟩
            refine ⟨u, _, rfl, .inr (SqT.of upd_same), rfl, rfl, _, rfl, ?_⟩
            have s5 := same_new (o := .tup [.str "put", .str "show"]) s4 nu
            have s6 := same_upd (o := .tup [.str "put", .str "show"]) nu
            have hd4 := s6 _ _ hd3
            have hR4 : _ = some (HO.lst ((o.R h).map vi)) := s6 _ _ hR3
            have a4 := a3.same s6
            refine iteF ?_
            refine ⟨_, rfl, _, _, _, _, rfl, rfl, SqT.of hd4, rfl, rfl, _, rfl, ?_⟩
            refine iteF ?_
            refine ⟨_, rfl, _, _, _, _, rfl, rfl, SqT.of hd4, rfl, rfl, _, rfl, ?_⟩
            refine iteT ?_
            have q5 : Q (.bl (look (o.S ow) k).isSome) _ := q4 _ s5
            refine ⟨_, rfl, _, rfl, β, o, d, _, ow, k, rfl, a4, hd4, rfl, rfl, hton, fun n => ?_, fun b sl n _ => ?_⟩
            · rw [n] at q5
              exact ⟨rfl, q5⟩
            · rw [n] at q5
              exact ⟨rfl, q5⟩
          | take h ow k =>
            have hd3 : H3 d = some (.tup [.str "take", .str h, vi ow, .str k]) := hd3
            refine ⟨_, rfl, _, _, _, _, rfl, rfl, SqT.of hd3, rfl, by show 2 ≤ sizeLine; decide, fun u nu => ?_⟩
            refine ⟨u, _, rfl, .inr (SqT.of upd_same), rfl, rfl, _, rfl, ?_⟩
            have s5 := same_new (o := .tup [.str "put", .str "show"]) s4 nu
            have s6 := same_upd (o := .tup [.str "put", .str "show"]) nu
            have hd4 := s6 _ _ hd3
            have hR4 : _ = some (HO.lst ((o.R h).map vi)) := s6 _ _ hR3
            have a4 := a3.same s6
            refine iteF ?_
            refine ⟨_, rfl, _, _, _, _, rfl, rfl, SqT.of hd4, rfl, rfl, _, rfl, ?_⟩
            refine iteF ?_
            refine ⟨_, rfl, _, _, _, _, rfl, rfl, SqT.of hd4, rfl, rfl, _, rfl, ?_⟩
            refine iteF ?_
            refine ⟨_, rfl, _, _, _, _, rfl, rfl, SqT.of hd4, rfl, rfl, _, rfl, ?_⟩
            refine iteT ?_
            have q5 : Q (.bl (match look (o.S ow) k with | none => false | some sl => decide ((o.R h).length < 30) && sl.keyOk (o.R h))) _ := q4 _ s5
            refine ⟨_, rfl, _, rfl, β, o, d, _, ow, k, rfl, a4, hd4, rfl, rfl, hton, fun n => ?_, fun b sl n hb => ?_⟩
            · rw [n] at q5
              exact ⟨_, rfl, rfl, _, rfl, iteF q5⟩
            · rw [n] at q5
              refine ⟨_, rfl, rfl, _, rfl, iteT ?_⟩
              refine ⟨_, rfl, _, _, rfl, .inl (SqL.of hR4), _, _, rfl, rfl, ?_⟩
              have e2 : decide (((((o.R h).map vi).length : Nat) : Int) < 30) = decide ((o.R h).length < 30) := decide_eq_decide.mpr (by rw [List.length_map]; omega)
              have q6 : Q (.bl (decide ((o.R h).length < 30) && sl.keyOk (o.R h))) _ := q5
              refine ⟨decide ((o.R h).length < 30), congrArg V.bl e2, ?_⟩
              cases hx : decide ((o.R h).length < 30) with
              | false =>
                rw [hx] at q6
                exact iteF q6
              | true =>
                rw [hx] at q6
                refine iteT ?_
                cases sl with
                | pl t =>
                  have hb : _ = some (HO.tup [.str "plain", vi t]) := hb
                  exact ⟨_, rfl, _, _, _, _, rfl, rfl, SqT.of hb, rfl, rfl, _, rfl, iteT q6⟩
                | wk t =>
                  have hb : _ = some (HO.tup [.str "weak", vi t]) := hb
                  exact ⟨_, rfl, _, _, _, _, rfl, rfl, SqT.of hb, rfl, rfl, _, rfl, iteT q6⟩
                | ky c t =>
                  have hb : _ = some (HO.tup [.str "keyed", vi c, vi t]) := hb
                  refine ⟨_, rfl, _, _, _, _, rfl, rfl, SqT.of hb, rfl, rfl, _, rfl, iteF ?_⟩
                  refine ⟨_, rfl, _, _, _, _, rfl, rfl, SqT.of hb, rfl, _, rfl, _, _, rfl, .inl (SqL.of hR4), rfl, flat_vi _, ?_⟩
                  rw [if_neg (show ¬ false = true by decide), vi_inV]
                  exact q6
          | give h x g =>
            have hd3 : H3 d = some (.tup [.str "give", .str h, vi x, .str g]) := hd3
            refine ⟨_, rfl, _, _, _, _, rfl, rfl, SqT.of hd3, rfl, by show 2 ≤ sizeLine; decide, fun u nu => ?_⟩
            refine ⟨u, _, rfl, .inr (SqT.of upd_same), rfl, rfl, _, rfl, ?_⟩
            have s5 := same_new (o := .tup [.str "put", .str "show"]) s4 nu
            have s6 := same_upd (o := .tup [.str "put", .str "show"]) nu
            have hd4 := s6 _ _ hd3
            have hR4 : _ = some (HO.lst ((o.R h).map vi)) := s6 _ _ hR3
            have a4 := a3.same s6
            refine iteF ?_
            refine ⟨_, rfl, _, _, _, _, rfl, rfl, SqT.of hd4, rfl, rfl, _, rfl, ?_⟩
            refine iteF ?_
            refine ⟨_, rfl, _, _, _, _, rfl, rfl, SqT.of hd4, rfl, rfl, _, rfl, ?_⟩
            refine iteF ?_
            refine ⟨_, rfl, _, _, _, _, rfl, rfl, SqT.of hd4, rfl, rfl, _, rfl, ?_⟩
            refine iteF ?_
            refine ⟨_, rfl, _, _, _, _, rfl, rfl, SqT.of hd4, rfl, rfl, _, rfl, iteF ?_⟩
            have q5 : Q (.bl (decide (g = h) || decide ((o.R g).length < 30))) _ := q4 _ s5
            refine ⟨_, rfl, _, _, _, _, rfl, rfl, SqT.of hd4, rfl, _, rfl, _, _, _, _, rfl, rfl, SqT.of hd4, rfl, rfl, ?_⟩
            have e1 : decide (V.str g = V.str h) = decide (g = h) := decide_eq_decide.mpr ⟨fun z => V.str.inj z, fun z => by rw [z]⟩
            refine ⟨decide (g = h), congrArg V.bl e1, ?_⟩
            cases hx : decide (g = h) with
            | true =>
              rw [hx] at q5
              exact iteT q5
            | false =>
              rw [hx] at q5
              refine iteF ?_
              have hg : g ∈ o.hs := hof.2
              refine ⟨_, rfl, _, _, rfl, a4.g_rows, _, rfl, _, _, _, _, rfl, rfl, SqT.of hd4, rfl, _, _, rfl, dget_row a4.rows hg, _, _, rfl, .inl (SqL.of (a4.row hg)), _, _, rfl, rfl, ?_⟩
              rw [List.length_map]
              have e2 : decide (((o.R g).length : Int) < 30) = decide ((o.R g).length < 30) := decide_eq_decide.mpr (by omega)
              have q6 : Q (V.bl (decide (((o.R g).length : Int) < 30))) (upd H3 u (.tup [.str "put", .str "show"])) := by rw [e2]; exact q5
              exact q6
          | drop h x =>
            have hd3 : H3 d = some (.tup [.str "drop", .str h, vi x]) := hd3
            refine ⟨_, rfl, _, _, _, _, rfl, rfl, SqT.of hd3, rfl, by show 2 ≤ sizeLine; decide, fun u nu => ?_⟩
            refine ⟨u, _, rfl, .inr (SqT.of upd_same), rfl, rfl, _, rfl, ?_⟩
            have s5 := same_new (o := .tup [.str "put", .str "show"]) s4 nu
            have s6 := same_upd (o := .tup [.str "put", .str "show"]) nu
            have hd4 := s6 _ _ hd3
            have hR4 : _ = some (HO.lst ((o.R h).map vi)) := s6 _ _ hR3
            have a4 := a3.same s6
            refine iteF ?_
            refine ⟨_, rfl, _, _, _, _, rfl, rfl, SqT.of hd4, rfl, rfl, _, rfl, ?_⟩
            refine iteF ?_
            refine ⟨_, rfl, _, _, _, _, rfl, rfl, SqT.of hd4, rfl, rfl, _, rfl, ?_⟩
            refine iteF ?_
            refine ⟨_, rfl, _, _, _, _, rfl, rfl, SqT.of hd4, rfl, rfl, _, rfl, ?_⟩
            refine iteF ?_
            exact ⟨_, rfl, _, _, _, _, rfl, rfl, SqT.of hd4, rfl, rfl, _, rfl, iteT (q4 _ s5)⟩
        · rw [decide_eq_false hth]
          refine iteT ?_
          have q3 := q H3 s4
          rw [OS.let_no hk hth] at q3
          exact q3
end
end Df
/-! The law's own deeds. -/
namespace Df
open PySem PySem.Spec PyProof.Rows L2
theorem cutV_from (xs : List V) (i : Nat) : cutV xs (some (i : Int)) none = xs.drop i := by
  unfold cutV
  rw [HT.sIx_none, HT.sIx_nat]
  by_cases h : i ≤ xs.length
  · rw [Nat.min_eq_left h, List.take_of_length_le (by rw [List.length_drop]; exact Nat.le_refl _)]
  · rw [Nat.min_eq_right (by omega), Nat.sub_self, List.take_zero, List.drop_eq_nil_of_le (by omega)]
theorem vi_eq (a b : Nat) : decide (vi a = vi b) = decide (a = b) := decide_eq_decide.mpr ⟨fun z => Int.ofNat.inj (V.int.inj z), fun z => by rw [z]⟩
theorem fm_filter {α : Type} (f : α → V) (p : α → Prop) [DecidablePred p] (l : List α) : l.filterMap (fun i => if p i then some (f i) else none) = (l.filter fun i => decide (p i)).map f := by
  induction l with
  | nil => rfl
  | cons a l ih =>
    by_cases h : p a
    · rw [List.filterMap_cons, if_pos h, List.filter_cons_of_pos (by simpa using h), List.map_cons, ih]
    · rw [List.filterMap_cons, if_neg h, List.filter_cons_of_neg (by simpa using h), ih]
/-- the last place of t -/
theorem last_at {l : List Nat} {t : Nat} (h : t ∈ l) : ∃ (m : Nat) (pre : List Nat), m < l.length ∧ lessL l t = l.take m ++ l.drop (m + 1) ∧ (List.range l.length).filter (fun k => decide (l.getD k 0 = t)) = pre ++ [m] := by
  have hi : l.reverse.idxOf t < l.length := by
    have := List.idxOf_lt_length_iff.mpr (List.mem_reverse.mpr h)
    rwa [List.length_reverse] at this
  have g : l.reverse[l.reverse.idxOf t]? = some t := by
    rw [List.getElem?_eq_getElem (by rw [List.length_reverse]; exact hi), List.getElem_idxOf]
  generalize hj : l.reverse.idxOf t = j at hi g
  rw [List.getElem?_reverse hi] at g
  have no : ∀ k, l.length - 1 - j < k → k < l.length → l[k]? ≠ some t := fun k k1 k2 z => by
    have e : l.reverse[l.length - 1 - k]? = some t := by
      rw [List.getElem?_reverse (by omega), show l.length - 1 - (l.length - 1 - k) = k by omega]
      exact z
    obtain ⟨h1, h2⟩ := List.getElem?_eq_some_iff.mp e
    exact idx_firstN (by omega) e
  refine ⟨l.length - 1 - j, (List.range (l.length - 1 - j)).filter (fun k => decide (l.getD k 0 = t)), by omega, ?_, ?_⟩
  · rw [lessL_eq h, hj, List.eraseIdx_eq_take_drop_succ]
  · have e : l.length = (l.length - 1 - j + 1) + j := by omega
    have e2 : List.range l.length = List.range (l.length - 1 - j + 1) ++ (List.range j).map (fun x => l.length - 1 - j + 1 + x) := by
      conv => lhs; rw [e]
      exact List.range_add
    rw [e2, List.filter_append, List.range_succ, List.filter_append]
    have f1 : List.filter (fun k => decide (l.getD k 0 = t)) [l.length - 1 - j] = [l.length - 1 - j] := by
      rw [List.filter_cons_of_pos, List.filter_nil]
      rw [List.getD_eq_getElem?_getD, g]
      exact decide_eq_true rfl
    have f2 : List.filter (fun k => decide (l.getD k 0 = t)) ((List.range j).map (fun x => l.length - 1 - j + 1 + x)) = [] := by
      rw [List.filter_eq_nil_iff]
      intro k hk z
      obtain ⟨x, hx, rfl⟩ := List.mem_map.mp hk
      have hx := List.mem_range.mp hx
      have lt : l.length - 1 - j + 1 + x < l.length := by omega
      have z := of_decide_eq_true z
      rw [List.getD_eq_getElem?_getD, List.getElem?_eq_getElem lt] at z
      exact no _ (by omega) lt (by rw [List.getElem?_eq_getElem lt]; exact congrArg some z)
    rw [f1, f2, List.append_nil]
section
variable {P : Program} {w : World} {K : PySem.W.Frag} {mg : Str → Option Value} {base : Heap}
abbrev N_L_less : List Str := ["_law_row", "_law_piece", "_law_at", "_law_k"]
theorem sc_L_less : FnScope N_L_less ["_law_row", "_law_piece"] (defScope s_L_less) := ⟨rfl, rfl, rfl, by decide +kernel, rfl, by decide +kernel, by decide +kernel⟩
def spLess : Sp := fun vs H Q _ => ∃ (a : Addr) (l : List Nat) (t : Nat), vs = [.ref a, vi t] ∧ H a = some (.lst (l.map vi)) ∧ t ∈ l ∧ l.length ≤ 1000 ∧ ∀ (r : Addr) H', Same H H' → H r = none → H' r = some (.lst ((lessL l t).map vi)) → Q (.ref r) H'
theorem ok_L_less (T : Tx K mg) : Cl P w K mg base "_law_less" 1 ["_law_row", "_law_piece"] spLess := by
  refine Cl.of T.f_L_less T.gl_L_less sc_L_less (fun _ _ _ _ _ _ us hl => match us, hl with | [_, _], _ => rfl) (fun vs H Q E h => ?_) (fun cdv A outer s H vs Q E hr h => ?_)
  · obtain ⟨a, l, t, rfl, _⟩ := h
    rfl
  · obtain ⟨a, l, t, rfl, ha, ht, hl, q⟩ := h
    refine ⟨_, (pss_cons (ps_set (i := 2) sc_L_less.nd rfl (Or.inl rfl) (pe_ix ix_list (pe_lc (own := [("_law_k", 3)]) rfl sc_L_less.nd (pi_range1 rfl T.b_range (pa_cons (pe_callB call_len_seq (by rfl) T.b_len (by decide +kernel) (pa_cons (pv 0) pa_nil)) pa_nil)) (blkOk_by (own := [("_law_k", 3)]) (N := N_L_less) (sc := defScope s_L_less) (by decide +kernel)) (fun _ _ _ _ _ => pg_name (i := 3) sc_L_less.nd rfl (Or.inl rfl)) (fun _ _ _ _ _ => pts_one (pt_cmpR op_eq (pe_ix (ix_listK K) (pv 0) (pv 3) (fun _ _ => rfl)) (pv 1) (nomark _))) (fun _ _ _ _ _ => pv 3)) (pe_un un_neg pe_int) (fun _ _ => rfl)))
      (pss_one (ps_ret (pe_op op_cat (pe_slice sl_list (pv 0) po_none (po_some (pv 2))) (pe_slice sl_list (pv 0) (po_some (pe_op op_add (pv 2) pe_int)) po_none))))), ?_⟩
    obtain ⟨m, pre, m1, m2, m3⟩ := last_at ht
    refine ⟨_, rfl, _, _, rfl, .inl (SqL.of ha), _, rfl, ?_, ?_, fun D nD => ?_⟩
    · rw [List.length_map]
      omega
    · rw [List.length_map]
      omega
    have hb : (l.map vi).length = l.length := List.length_map _
    refine lc_pure (walk_range (lo := 0)) (by rw [hb, sizeLine_eq]; omega) (fun i => if l.getD i 0 = t then some (vi i) else none) nD (fun _ _ => trivial) (fun i x H3 H4 hi s3 y Kk B hK hB => ?_) fun H3 s3 hD => ?_
    · obtain ⟨rfl, hx⟩ := y
      have ex : x = vi i := by
        rw [hx]
        exact congrArg V.int (Int.zero_add _)
      subst ex
      have hi' : i < l.length := by
        have z : i < (l.map vi).length := hi
        rwa [hb] at z
      have gi : (l.map vi)[i]? = some (vi (l.getD i 0)) := by
        rw [List.getElem?_map, List.getElem?_eq_getElem hi']
        simp [hi']
      refine ⟨rfl, _, rfl, _, rfl, a, _, _, _, rfl, rfl, SqL.of (s3 _ _ ha), atI_nat gi, _, rfl, rfl, _, rfl, ?_⟩
      rw [vi_eq]
      by_cases z : l.getD i 0 = t
      · rw [decide_eq_true z]
        exact iteT ⟨_, rfl, hK _ _ (if_pos z) (Same.refl _)⟩
      · rw [decide_eq_false z]
        exact iteF (hB (if_neg z) _ (Same.refl _))
    · rw [show ((((l.map vi).length : Nat) : Int)).toNat = l.length by rw [hb]; rfl, fm_filter vi (fun i => l.getD i 0 = t), m3, List.map_append] at hD
      refine ⟨_, rfl, D, _, _, vi m, rfl, rfl, SqL.of hD, atI_last _ _, ?_⟩
      refine ⟨_, rfl, _, rfl, _, rfl, _, _, rfl, SqL.of (s3 _ _ ha), fun p1 n1 => ?_⟩
      have s4 := same_upd (o := .lst (cutV (l.map vi) none (some (m : Int)))) n1
      refine ⟨_, rfl, _, rfl, _, _, rfl, rfl, _, rfl, _, _, rfl, SqL.of (s4 _ _ (s3 _ _ ha)), fun p2 n2 => ?_⟩
      have n12 : p1 ≠ p2 := ne_of_none (H := upd H3 p1 (.lst (cutV (l.map vi) none (some (m : Int))))) upd_same n2
      refine ⟨_, _, _, _, rfl, rfl, by rw [upd_ne n12]; exact upd_same, upd_same, ?_, fun r nr => ?_⟩
      · rw [sizeLine_eq, cutV_to, show cutV (l.map vi) (some ((m : Int) + 1)) none = (l.map vi).drop (m + 1) from cutV_from _ (m + 1), List.length_take, List.length_drop, List.length_map]
        omega
      · refine q r _ (s3.trans (s4.trans (same_new (same_upd n2) nr))) ((s3.trans s4).free ((same_upd n2).free nr)) ?_
        rw [upd_same, cutV_to, show cutV (l.map vi) (some ((m : Int) + 1)) none = (l.map vi).drop (m + 1) from cutV_from _ (m + 1), m2, List.map_append, List.map_take, List.map_drop]
end
end Df
/-! The law's own deeds: done. -/
namespace Df
open PySem PySem.Spec PyProof.Rows L2
section
variable {β : OV} {s : OS} {H H1 : Hp}
theorem OA.step_row (A : OA β s H) (s1 : Same H H1) {h : Str} (hh : h ∈ s.hs) (r : List Nat) {c : Addr} (hc : H1 c = some (.lst (r.map vi))) (nc : H c = none) :
    OA (fset β (.row h) c) (s.setR h r) (upd H1 (β .rows) (.dK (putK (kH s.hs fun h => β (.row h)) (Sum.inr h : Key) (.ref c)))) ∧
    Kp (OFoot β s) (OFoot (fset β (.row h) c) (s.setR h r)) H (upd H1 (β .rows) (.dK (putK (kH s.hs fun h => β (.row h)) (Sum.inr h : Key) (.ref c)))) := by
  have nf := A.foot_some nc
  rw [putK_kH hh]
  refine ⟨(A.same s1).newRow hh r hc nf, Kp.of_chg ((Chg.of_same s1).upd (.inl ⟨.rows, trivial, rfl⟩)) fun b f => ?_⟩
  rcases f.newRow with z | z
  · exact .inl z
  · exact .inr (by rw [z]; exact nc)
theorem OA.step_slot (A : OA β s H) (s1 : Same H H1) {o : Nat} (ho : o < s.n) {es : List (Str × Addr × Slot)} (e1 : es.map (fun e => (e.1, e.2.2)) = s.S o) (e3 : ∀ e ∈ es, H e.2.1 = some (.tup e.2.2.v)) (k : Str) {c : Addr} {sl : Slot} (hc : H1 c = some (.tup sl.v)) :
    OA β (s.setS o (putS (s.S o) k sl)) (upd H1 (β (.slo o)) (.dK (putK (es.map fun e => ((Sum.inr e.1 : Key), V.ref e.2.1)) (Sum.inr k : Key) (.ref c)))) ∧
    Kp (OFoot β s) (OFoot β (s.setS o (putS (s.S o) k sl))) H (upd H1 (β (.slo o)) (.dK (putK (es.map fun e => ((Sum.inr e.1 : Key), V.ref e.2.1)) (Sum.inr k : Key) (.ref c)))) := by
  obtain ⟨es', h1, h2, h3⟩ := own_es es k c sl
  rw [h1, ← e1, ← h2]
  refine ⟨(A.same s1).newS ho es' rfl fun e he => ?_, Kp.of_chg ((Chg.of_same s1).upd (.inl ⟨.slo o, ho, rfl⟩)) fun b f => .inl f⟩
  rcases h3 e he with z | z
  · exact s1 _ _ (e3 e z)
  · rw [z]
    exact hc
end
theorem len_kH {hs : List Str} {f : Str → Addr} (h : hs.length ≤ 1000) : (kH hs f).length < sizeLine := by
  unfold kH
  rw [List.length_map, sizeLine_eq]
  omega
theorem OA.p_made {β : OV} {s : OS} {H : Hp} (A : OA β s H) (m : Nat) : DPut H (β .own) (.str "made") (vi m) (upd H (β .own) (.dK (okv (β .hands) (β .rows) (β .slots) m (β .pool)))) := by
  have q := DPut.k (k := Sum.inr "made") (v := vi m) A.own (by rw [sizeLine_eq]; show 5 < _; omega)
  rw [okv_put] at q
  exact q
section
variable {P : Program} {w : World} {K : PySem.W.Frag} {mg : Str → Option Value} {base : Heap}
/-- an own state at hand: few things, short rows, few slots -/
structure OOk (s : OS) : Prop where
  md : s.md = s.n
  n : s.n ≤ 40
  lt : ∀ h ∈ s.hs, ∀ t ∈ s.R h, t < s.n
  len : ∀ h ∈ s.hs, (s.R h).length ≤ 1000
  sl : ∀ t, (s.S t).length ≤ 1000
  hl : s.hs.length ≤ 1000
theorem OS.let_th {o : OS} {d : Deed} (h : d.isMk = false) (l : o.isLet d = true) : d.th ∈ o.R d.hand ∧ o.rest d = true := by
  by_cases m : d.th ∈ o.R d.hand
  · rw [OS.let_yes h m] at l
    exact ⟨m, l⟩
  · rw [OS.let_no h m] at l
    cases l
theorem Slot.at_last (sl : Slot) : atI sl.v (-1) = some (vi sl.last) := by cases sl <;> rfl
theorem len_es {es : List (Str × Addr × Slot)} {l : List (Str × Slot)} (h : l.length ≤ 1000) (e : es.map (fun e => (e.1, e.2.2)) = l) : (es.map fun e => ((Sum.inr e.1 : Key), V.ref e.2.1)).length < sizeLine := by
  have := congrArg List.length e
  rw [List.length_map] at this
  rw [List.length_map, sizeLine_eq]
  omega
theorem len_lessL (l : List Nat) (t : Nat) : (lessL l t).length ≤ l.length := by
  unfold lessL
  rw [List.length_reverse]
  have := List.length_erase_le (a := t) (l := l.reverse)
  rw [List.length_reverse] at this
  exact this
theorem len_less {o : OS} (ok : OOk o) {h g : Str} (hh : h ∈ o.hs) (hg : g ∈ o.hs) (x : Nat) : ((o.setR h (lessL (o.R h) x)).R g).length ≤ 1000 := by
  show (fset o.R h (lessL (o.R h) x) g).length ≤ 1000
  by_cases e : g = h
  · rw [e, fset_same]
    exact Nat.le_trans (len_lessL _ _) (ok.len h hh)
  · rw [fset_ne e]
    exact ok.len g hg
abbrev N_L_own_done : List Str := ["_law_own", "_law_deed_here", "_law_rows", "_law_hand"]
theorem sc_L_own_done : FnScope N_L_own_done ["_law_own", "_law_deed_here"] (defScope s_L_own_done) := ⟨rfl, rfl, rfl, by decide +kernel, rfl, by decide +kernel, by decide +kernel⟩
def spOwnDone : Sp := fun vs H Q _ => ∃ (β : OV) (o : OS) (d : Addr) (dd : Deed), vs = [.ref (β .own), .ref d] ∧ OA β o H ∧ H d = some (.tup dd.v) ∧ dd.of o.hs o.pool ∧ OOk o ∧ o.isLet dd = true ∧
  ∀ (β' : OV) H', OA β' (o.done dd) H' → Kp (OFoot β o) (OFoot β' (o.done dd)) H H' → β' .own = β .own → Q .non H'
theorem ok_L_own_done (T : Tx K mg) (h_L_row_in : Cl P w K mg base "_law_row_in" 1 ["_law_own", "_law_deed_here"] spRowIn) (h_L_less : Cl P w K mg base "_law_less" 1 ["_law_row", "_law_piece"] spLess) : Cl P w K mg base "_law_own_done" 2 ["_law_own", "_law_deed_here"] spOwnDone := by
  refine Cl.of T.f_L_own_done T.gl_L_own_done sc_L_own_done (fun _ _ _ _ _ _ us hl => match us, hl with | [_, _], _ => rfl) (fun vs H Q E h => ?_) (fun cdv A outer s H vs Q E hr h => ?_)
  · obtain ⟨β, o, d, dd, rfl, _⟩ := h
    rfl
  · obtain ⟨β, o, d, dd, rfl, a, hd, hof, ok, hlet, q⟩ := h
    have hu := hu_of hr
    refine ⟨_, (pss_cons (ps_par (i := 2) (j := 3) (by rfl) sc_L_own_done.nd rfl rfl (by decide) rfl rfl (pa_cons (pe_dget hu (pv 0) pe_str (fun _ _ => rfl)) (pa_cons (pe_ix ix_tup (pv 1) pe_int (fun _ _ => rfl)) pa_nil)) (by rfl))
      (pss_one (ps_if (pt_cmpR op_eq (pe_ix ix_tup (pv 1) pe_int (fun _ _ => rfl)) pe_str (nomark _)) (pss_cons (ps_dput hu (pv 2) (pv 3) (pe_op op_cat (pe_dget hu (pv 2) (pv 3) (fun _ _ => rfl)) (pe_lst (pa_cons (pe_dget hu (pv 0) pe_str (fun _ _ => rfl)) pa_nil))) rfl)
      (pss_cons (ps_dput hu (pe_dget hu (pv 0) pe_str (fun _ _ => rfl)) (pe_dget hu (pv 0) pe_str (fun _ _ => rfl)) pe_dnewK rfl)
      (pss_one (ps_dput hu (pv 0) pe_str (pe_op op_add (pe_dget hu (pv 0) pe_str (fun _ _ => rfl)) pe_int) rfl)))) (pss_one (ps_if (pt_cmpR op_eq (pe_ix ix_tup (pv 1) pe_int (fun _ _ => rfl)) pe_str (nomark _)) (pss_one (ps_dput hu (pe_dget hu (pe_dget hu (pv 0) pe_str (fun _ _ => rfl)) (pe_ix ix_tup (pv 1) pe_int (fun _ _ => rfl)) (fun _ _ => rfl)) (pe_ix ix_tup (pv 1) pe_int (fun _ _ => rfl)) (pe_tup (pa_cons pe_str (pa_cons (pe_ix ix_tup (pv 1) pe_int (fun _ _ => rfl)) pa_nil))) rfl)) (pss_one (ps_if (pt_cmpR op_eq (pe_ix ix_tup (pv 1) pe_int (fun _ _ => rfl)) pe_str (nomark _)) (pss_one (ps_dput hu (pe_dget hu (pe_dget hu (pv 0) pe_str (fun _ _ => rfl)) (pe_ix ix_tup (pv 1) pe_int (fun _ _ => rfl)) (fun _ _ => rfl)) (pe_ix ix_tup (pv 1) pe_int (fun _ _ => rfl)) (pe_tup (pa_cons pe_str (pa_cons (pe_ix ix_tup (pv 1) pe_int (fun _ _ => rfl)) pa_nil))) rfl)) (pss_one (ps_if (pt_cmpR op_eq (pe_ix ix_tup (pv 1) pe_int (fun _ _ => rfl)) pe_str (nomark _)) (pss_one (ps_dput hu (pe_dget hu (pe_dget hu (pv 0) pe_str (fun _ _ => rfl)) (pe_ix ix_tup (pv 1) pe_int (fun _ _ => rfl)) (fun _ _ => rfl)) (pe_ix ix_tup (pv 1) pe_int (fun _ _ => rfl)) (pe_tup (pa_cons pe_str (pa_cons (pe_ix ix_tup (pv 1) pe_int (fun _ _ => rfl)) (pa_cons (pe_ix ix_tup (pv 1) pe_int (fun _ _ => rfl)) pa_nil)))) rfl)) (pss_one (ps_if (pt_cmpR op_eq (pe_ix ix_tup (pv 1) pe_int (fun _ _ => rfl)) pe_str (nomark _)) (pss_one (ps_expr (pe_dpop1 (pe_dget hu (pe_dget hu (pv 0) pe_str (fun _ _ => rfl)) (pe_ix ix_tup (pv 1) pe_int (fun _ _ => rfl)) (fun _ _ => rfl)) (pe_ix ix_tup (pv 1) pe_int (fun _ _ => rfl)) ⟨rfl, rfl, rfl, rfl⟩))) (pss_one (ps_if (pt_cmpR op_eq (pe_ix ix_tup (pv 1) pe_int (fun _ _ => rfl)) pe_str (nomark _)) (pss_one (ps_dput hu (pv 2) (pv 3) (pe_op op_cat (pe_dget hu (pv 2) (pv 3) (fun _ _ => rfl)) (pe_lst (pa_cons (pe_ix ix_tup (pe_cl h_L_row_in hr (pa_cons (pv 0) (pa_cons (pv 1) pa_nil))) (pe_un un_neg pe_int) (fun _ _ => rfl)) pa_nil))) rfl)) (pss_cons (ps_dput hu (pv 2) (pv 3) (pe_cl h_L_less hr (pa_cons (pe_dget hu (pv 2) (pv 3) (fun _ _ => rfl)) (pa_cons (pe_ix ix_tup (pv 1) pe_int (fun _ _ => rfl)) pa_nil))) rfl)
      (pss_one (ps_if (pt_cmpR op_eq (pe_ix ix_tup (pv 1) pe_int (fun _ _ => rfl)) pe_str (nomark _)) (pss_one (ps_dput hu (pv 2) (pe_ix ix_tup (pv 1) pe_int (fun _ _ => rfl)) (pe_op op_cat (pe_dget hu (pv 2) (pe_ix ix_tup (pv 1) pe_int (fun _ _ => rfl)) (fun _ _ => rfl)) (pe_lst (pa_cons (pe_ix ix_tup (pv 1) pe_int (fun _ _ => rfl)) pa_nil))) rfl)) pss_nil)))))))))))))))), ?_⟩
    have hm := hof.hand
    refine ⟨_, rfl, _, _, rfl, a.g_rows, _, rfl, _, _, _, _, rfl, rfl, SqT.of hd, dd.a1, _, _, rfl, ?_⟩
    cases dd with
    | mk h =>
      obtain ⟨hs, pool, n, md, R, S⟩ := o
      have emd : md = n := ok.md
      subst emd
      have hd : H d = some (.tup [.str "make", .str h]) := hd
      have hm : h ∈ hs := hm
      have hR := a.row hm
      refine ⟨_, rfl, _, _, _, _, rfl, rfl, SqT.of hd, rfl, rfl, _, rfl, ?_⟩
      refine iteT ?_
      refine ⟨_, rfl, _, rfl, _, _, rfl, dget_row a.rows hm, _, rfl, _, _, rfl, a.g_made, by show 1 ≤ sizeLine; decide, fun c nc => ?_⟩
      have s1 := same_upd (o := .lst [vi md]) nc
      refine ⟨_, _, _, _, rfl, rfl, s1 _ _ hR, upd_same, ?_, fun c2 nc2 => ?_⟩
      · have := ok.len h hm
        rw [List.length_map, sizeLine_eq]
        show _ + 1 ≤ _
        omega
      have s2 : Same H (upd (upd H c (.lst [vi md])) c2 (.lst ((R h).map vi ++ [vi md]))) := same_new s1 nc2
      refine ⟨_, rfl, _, rfl, _, _, rfl, DPut.k (k := Sum.inr h) (s2 _ _ a.rows) (len_kH ok.hl), ?_⟩
      obtain ⟨a2, k2⟩ := a.step_row s2 hm (R h ++ [md]) (c := c2) (by rw [upd_same, List.map_append]; rfl) (s1.free nc2)
      refine fun D nD => ?_
      have s3 := same_upd (o := .dK []) nD
      have a3 := a2.same s3
      refine ⟨_, rfl, _, _, rfl, a3.g_slots, _, rfl, _, _, rfl, a3.g_made, _, _, rfl, dput_t a3.slots (Nat.le_trans ok.n (by decide)), ?_⟩
      have a4 := a3.more (c := D) upd_same (a2.same (Same.refl _) |>.foot_some nD)
      refine ⟨_, rfl, _, _, rfl, a4.g_made, _, _, rfl, rfl, _, rfl, _, _, rfl, a4.p_made (md + 1), ?_⟩
      refine q _ _ (a4.made (md + 1)) (k2.trans (Kp.of_chg (((Chg.of_same (Same.refl _) |>.upd (.inr nD)).upd (.inl ⟨.slots, trivial, rfl⟩)).upd (.inl ⟨.own, trivial, rfl⟩)) fun b f => ?_)) ?_
      · rcases OFoot.more (s := OS.setR ⟨hs, pool, md, md, R, S⟩ h (R h ++ [md])) f with z | z
        · exact .inl z
        · exact .inr (by rw [z]; exact nD)
      · rw [fset_ne (fun z => by cases z), fset_ne (fun z => by cases z)]
    | put h ow k t =>
      have hd : H d = some (.tup [.str "put", .str h, vi ow, .str k, vi t]) := hd
      obtain ⟨hth, hrest⟩ := OS.let_th rfl hlet
      have hm : h ∈ o.hs := hm
      have hton : ow < o.n := ok.lt _ hm _ hth
      refine ⟨_, rfl, _, _, _, _, rfl, rfl, SqT.of hd, rfl, rfl, _, rfl, ?_⟩
      refine iteF ?_
      refine ⟨_, rfl, _, _, _, _, rfl, rfl, SqT.of hd, rfl, rfl, _, rfl, ?_⟩
      refine iteT ?_
      obtain ⟨es, e1, e2, e3⟩ := a.slo hton
      refine ⟨_, rfl, _, _, _, _, rfl, rfl, SqT.of hd, rfl, by show 2 ≤ sizeLine; decide, fun c nc => ?_⟩
      have s1 := same_upd (o := .tup [.str "plain", vi t]) nc
      refine ⟨_, rfl, _, _, rfl, (a.same s1).g_slots, _, rfl, _, _, _, _, rfl, rfl, SqT.of (s1 _ _ hd), rfl, _, _, rfl, dget_t (a.same s1).slots hton, _, rfl, _, _, _, _, rfl, rfl, SqT.of (s1 _ _ hd), rfl, _, _, rfl, DPut.k (k := Sum.inr k) (s1 _ _ e2) (len_es (ok.sl ow) e1), ?_⟩
      obtain ⟨a2, k2⟩ := a.step_slot s1 hton e1 e3 k (c := c) (sl := .pl t) upd_same
      exact q β _ a2 k2 rfl
    | show_ h ow k t =>
      have hd : H d = some (.tup [.str "show", .str h, vi ow, .str k, vi t]) := hd
      obtain ⟨hth, hrest⟩ := OS.let_th rfl hlet
      have hm : h ∈ o.hs := hm
      have hton : ow < o.n := ok.lt _ hm _ hth
      refine ⟨_, rfl, _, _, _, _, rfl, rfl, SqT.of hd, rfl, rfl, _, rfl, ?_⟩
      refine iteF ?_
      refine ⟨_, rfl, _, _, _, _, rfl, rfl, SqT.of hd, rfl, rfl, _, rfl, ?_⟩
      refine iteF ?_
      refine ⟨_, rfl, _, _, _, _, rfl, rfl, SqT.of hd, rfl, rfl, _, rfl, ?_⟩
      refine iteT ?_
      obtain ⟨es, e1, e2, e3⟩ := a.slo hton
      refine ⟨_, rfl, _, _, _, _, rfl, rfl, SqT.of hd, rfl, by show 2 ≤ sizeLine; decide, fun c nc => ?_⟩
      have s1 := same_upd (o := .tup [.str "weak", vi t]) nc
      refine ⟨_, rfl, _, _, rfl, (a.same s1).g_slots, _, rfl, _, _, _, _, rfl, rfl, SqT.of (s1 _ _ hd), rfl, _, _, rfl, dget_t (a.same s1).slots hton, _, rfl, _, _, _, _, rfl, rfl, SqT.of (s1 _ _ hd), rfl, _, _, rfl, DPut.k (k := Sum.inr k) (s1 _ _ e2) (len_es (ok.sl ow) e1), ?_⟩
      obtain ⟨a2, k2⟩ := a.step_slot s1 hton e1 e3 k (c := c) (sl := .wk t) upd_same
      exact q β _ a2 k2 rfl
    | tie h ow k x y =>
      have hd : H d = some (.tup [.str "tie", .str h, vi ow, .str k, vi x, vi y]) := hd
      obtain ⟨hth, hrest⟩ := OS.let_th rfl hlet
      have hm : h ∈ o.hs := hm
      have hton : ow < o.n := ok.lt _ hm _ hth
      refine ⟨_, rfl, _, _, _, _, rfl, rfl, SqT.of hd, rfl, rfl, _, rfl, ?_⟩
      refine iteF ?_
      refine ⟨_, rfl, _, _, _, _, rfl, rfl, SqT.of hd, rfl, rfl, _, rfl, ?_⟩
      refine iteF ?_
      refine ⟨_, rfl, _, _, _, _, rfl, rfl, SqT.of hd, rfl, rfl, _, rfl, ?_⟩
      refine iteF ?_
      refine ⟨_, rfl, _, _, _, _, rfl, rfl, SqT.of hd, rfl, rfl, _, rfl, ?_⟩
      refine iteT ?_
      obtain ⟨es, e1, e2, e3⟩ := a.slo hton
      refine ⟨_, rfl, _, _, _, _, rfl, rfl, SqT.of hd, rfl, _, rfl, _, _, _, _, rfl, rfl, SqT.of hd, rfl, by show 3 ≤ sizeLine; decide, fun c nc => ?_⟩
      have s1 := same_upd (o := .tup [.str "keyed", vi x, vi y]) nc
      refine ⟨_, rfl, _, _, rfl, (a.same s1).g_slots, _, rfl, _, _, _, _, rfl, rfl, SqT.of (s1 _ _ hd), rfl, _, _, rfl, dget_t (a.same s1).slots hton, _, rfl, _, _, _, _, rfl, rfl, SqT.of (s1 _ _ hd), rfl, _, _, rfl, DPut.k (k := Sum.inr k) (s1 _ _ e2) (len_es (ok.sl ow) e1), ?_⟩
      obtain ⟨a2, k2⟩ := a.step_slot s1 hton e1 e3 k (c := c) (sl := .ky x y) upd_same
      exact q β _ a2 k2 rfl
    | empty h ow k =>
      have hd : H d = some (.tup [.str "empty", .str h, vi ow, .str k]) := hd
      obtain ⟨hth, hrest⟩ := OS.let_th rfl hlet
      have hm : h ∈ o.hs := hm
      have hton : ow < o.n := ok.lt _ hm _ hth
      refine ⟨_, rfl, _, _, _, _, rfl, rfl, SqT.of hd, rfl, rfl, _, rfl, ?_⟩
      refine iteF ?_
      refine ⟨_, rfl, _, _, _, _, rfl, rfl, SqT.of hd, rfl, rfl, _, rfl, ?_⟩
      refine iteF ?_
      refine ⟨_, rfl, _, _, _, _, rfl, rfl, SqT.of hd, rfl, rfl, _, rfl, ?_⟩
      refine iteF ?_
      refine ⟨_, rfl, _, _, _, _, rfl, rfl, SqT.of hd, rfl, rfl, _, rfl, ?_⟩
      refine iteF ?_
      refine ⟨_, rfl, _, _, _, _, rfl, rfl, SqT.of hd, rfl, rfl, _, rfl, ?_⟩
      refine iteT ?_
      obtain ⟨es, e1, e2, e3⟩ := a.slo hton
      have hr2 : (look (o.S ow) k).isSome = true := hrest
      rcases look_none_of (k := k) e1 with ⟨_, h4⟩ | ⟨b, sl, h1, h4, h5⟩
      · rw [h4] at hr2
        cases hr2
      refine ⟨_, rfl, _, _, rfl, a.g_slots, _, rfl, _, _, _, _, rfl, rfl, SqT.of hd, rfl, _, _, rfl, dget_t a.slots hton, _, rfl, .inl ⟨_, Rd.of e2⟩, _, rfl, _, _, _, _, rfl, rfl, SqT.of hd, rfl, _, Sum.inr k, _, e2, rfl, h1, ?_⟩
      have a2 := a.newS hton (r := dropS (o.S ow) k) (es.filter fun e => decide (e.1 ≠ k)) (by rw [drop_es2, e1]) fun e he => e3 e (List.mem_filter.mp he).1
      rw [drop_es]
      exact q β _ a2 (Kp.of_chg (Chg.of_same (Same.refl _) |>.upd (.inl ⟨.slo ow, hton, rfl⟩)) fun b f => .inl f) rfl
    | take h ow k =>
      have hd : H d = some (.tup [.str "take", .str h, vi ow, .str k]) := hd
      obtain ⟨hth, hrest⟩ := OS.let_th rfl hlet
      have hm : h ∈ o.hs := hm
      have hton : ow < o.n := ok.lt _ hm _ hth
      refine ⟨_, rfl, _, _, _, _, rfl, rfl, SqT.of hd, rfl, rfl, _, rfl, ?_⟩
      refine iteF ?_
      refine ⟨_, rfl, _, _, _, _, rfl, rfl, SqT.of hd, rfl, rfl, _, rfl, ?_⟩
      refine iteF ?_
      refine ⟨_, rfl, _, _, _, _, rfl, rfl, SqT.of hd, rfl, rfl, _, rfl, ?_⟩
      refine iteF ?_
      refine ⟨_, rfl, _, _, _, _, rfl, rfl, SqT.of hd, rfl, rfl, _, rfl, ?_⟩
      refine iteF ?_
      refine ⟨_, rfl, _, _, _, _, rfl, rfl, SqT.of hd, rfl, rfl, _, rfl, ?_⟩
      refine iteF ?_
      refine ⟨_, rfl, _, _, _, _, rfl, rfl, SqT.of hd, rfl, rfl, _, rfl, ?_⟩
      refine iteT ?_
      have hr2 : (match look (o.S ow) k with | none => false | some sl => decide ((o.R h).length < 30) && sl.keyOk (o.R h)) = true := hrest
      have hR := a.row hm
      refine ⟨_, rfl, _, rfl, _, _, rfl, dget_row a.rows hm, _, rfl, _, rfl, β, o, d, _, ow, k, rfl, a, hd, rfl, rfl, hton, fun n => ?_, fun b sl n hb => ?_⟩
      · rw [n] at hr2
        cases hr2
      have hdone : o.done (.take h ow k) = o.addR h sl.last := by
        show (match look (o.S ow) k with | none => o | some sl => o.addR h sl.last) = _
        rw [n]
      rw [hdone] at q
      refine ⟨_, rfl, _, _, _, _, rfl, rfl, SqT.of hb, sl.at_last, by show 1 ≤ sizeLine; decide, fun c nc => ?_⟩
      have s1 := same_upd (o := .lst [vi sl.last]) nc
      refine ⟨_, _, _, _, rfl, rfl, s1 _ _ hR, upd_same, ?_, fun c2 nc2 => ?_⟩
      · have := ok.len h hm
        rw [List.length_map, sizeLine_eq]
        show _ + 1 ≤ _
        omega
      have s2 : Same H (upd (upd H c (.lst [vi sl.last])) c2 (.lst ((o.R h).map vi ++ [vi sl.last]))) := same_new s1 nc2
      refine ⟨_, rfl, _, rfl, _, _, rfl, DPut.k (k := Sum.inr h) (s2 _ _ a.rows) (len_kH ok.hl), ?_⟩
      obtain ⟨a2, k2⟩ := a.step_row s2 hm (o.R h ++ [sl.last]) (c := c2) (by rw [upd_same, List.map_append]; rfl) (s1.free nc2)
      exact q _ _ a2 k2 (fset_ne fun z => by cases z)
    | give h x g =>
      have hd : H d = some (.tup [.str "give", .str h, vi x, .str g]) := hd
      obtain ⟨hth, hrest⟩ := OS.let_th rfl hlet
      have hm : h ∈ o.hs := hm
      have hton : x < o.n := ok.lt _ hm _ hth
      refine ⟨_, rfl, _, _, _, _, rfl, rfl, SqT.of hd, rfl, rfl, _, rfl, ?_⟩
      refine iteF ?_
      refine ⟨_, rfl, _, _, _, _, rfl, rfl, SqT.of hd, rfl, rfl, _, rfl, ?_⟩
      refine iteF ?_
      refine ⟨_, rfl, _, _, _, _, rfl, rfl, SqT.of hd, rfl, rfl, _, rfl, ?_⟩
      refine iteF ?_
      refine ⟨_, rfl, _, _, _, _, rfl, rfl, SqT.of hd, rfl, rfl, _, rfl, ?_⟩
      refine iteF ?_
      refine ⟨_, rfl, _, _, _, _, rfl, rfl, SqT.of hd, rfl, rfl, _, rfl, ?_⟩
      refine iteF ?_
      refine ⟨_, rfl, _, _, _, _, rfl, rfl, SqT.of hd, rfl, rfl, _, rfl, ?_⟩
      refine iteF ?_
      have hR := a.row hm
      refine ⟨_, rfl, _, rfl, _, _, rfl, dget_row a.rows hm, _, rfl, _, _, _, _, rfl, rfl, SqT.of hd, rfl, _, o.R h, x, rfl, hR, hth, ok.len h hm, fun c H1 s1 nc hc => ?_⟩
      refine ⟨_, rfl, _, rfl, _, _, rfl, DPut.k (k := Sum.inr h) (s1 _ _ a.rows) (len_kH ok.hl), ?_⟩
      obtain ⟨a2, k2⟩ := a.step_row s1 hm (lessL (o.R h) x) (c := c) hc nc
      have hd2 := (k2 _ _ hd (a.tup_keep hd)).1
      refine ⟨_, rfl, _, _, _, _, rfl, rfl, SqT.of hd2, rfl, rfl, _, rfl, ?_⟩
      refine iteT ?_
      have hg : g ∈ o.hs := hof.2
      have hR2 := a2.row (h := g) hg
      refine ⟨_, rfl, _, rfl, _, _, _, _, rfl, rfl, SqT.of hd2, rfl, _, _, rfl, dget_row a2.rows hg, _, rfl, _, _, _, _, rfl, rfl, SqT.of hd2, rfl, by show 1 ≤ sizeLine; decide, fun c1 nc1 => ?_⟩
      have t1 := same_upd (o := .lst [vi x]) nc1
      refine ⟨_, _, _, _, rfl, rfl, t1 _ _ hR2, upd_same, ?_, fun c2 nc2 => ?_⟩
      · have := len_less ok hm hg x
        rw [List.length_map, sizeLine_eq]
        show _ + 1 ≤ _
        omega
      have t2 := same_new (o := .lst (((o.setR h (lessL (o.R h) x)).R g).map vi ++ [vi x])) t1 nc2
      refine ⟨_, rfl, _, rfl, _, _, _, _, rfl, rfl, SqT.of (t2 _ _ hd2), rfl, _, _, rfl, DPut.k (k := Sum.inr g) (t2 _ _ a2.rows) (len_kH ok.hl), ?_⟩
      obtain ⟨a3, k3⟩ := a2.step_row t2 hg ((o.setR h (lessL (o.R h) x)).R g ++ [x]) (c := c2) (by rw [upd_same, List.map_append]; rfl) (t1.free nc2)
      exact q _ _ a3 (k2.trans k3) (by rw [fset_ne (fun z => by cases z), fset_ne (fun z => by cases z)])
    | drop h x =>
      have hd : H d = some (.tup [.str "drop", .str h, vi x]) := hd
      obtain ⟨hth, hrest⟩ := OS.let_th rfl hlet
      have hm : h ∈ o.hs := hm
      have hton : x < o.n := ok.lt _ hm _ hth
      refine ⟨_, rfl, _, _, _, _, rfl, rfl, SqT.of hd, rfl, rfl, _, rfl, ?_⟩
      refine iteF ?_
      refine ⟨_, rfl, _, _, _, _, rfl, rfl, SqT.of hd, rfl, rfl, _, rfl, ?_⟩
      refine iteF ?_
      refine ⟨_, rfl, _, _, _, _, rfl, rfl, SqT.of hd, rfl, rfl, _, rfl, ?_⟩
      refine iteF ?_
      refine ⟨_, rfl, _, _, _, _, rfl, rfl, SqT.of hd, rfl, rfl, _, rfl, ?_⟩
      refine iteF ?_
      refine ⟨_, rfl, _, _, _, _, rfl, rfl, SqT.of hd, rfl, rfl, _, rfl, ?_⟩
      refine iteF ?_
      refine ⟨_, rfl, _, _, _, _, rfl, rfl, SqT.of hd, rfl, rfl, _, rfl, ?_⟩
      refine iteF ?_
      have hR := a.row hm
      refine ⟨_, rfl, _, rfl, _, _, rfl, dget_row a.rows hm, _, rfl, _, _, _, _, rfl, rfl, SqT.of hd, rfl, _, o.R h, x, rfl, hR, hth, ok.len h hm, fun c H1 s1 nc hc => ?_⟩
      refine ⟨_, rfl, _, rfl, _, _, rfl, DPut.k (k := Sum.inr h) (s1 _ _ a.rows) (len_kH ok.hl), ?_⟩
      obtain ⟨a2, k2⟩ := a.step_row s1 hm (lessL (o.R h) x) (c := c) hc nc
      have hd2 := (k2 _ _ hd (a.tup_keep hd)).1
      refine ⟨_, rfl, _, _, _, _, rfl, rfl, SqT.of hd2, rfl, rfl, _, rfl, ?_⟩
      refine iteF ?_
      exact q _ _ a2 k2 (fset_ne fun z => by cases z)
end
end Df
/-! A store and the law's own state, side by side: plain. -/
namespace Df
open PySem PySem.Spec PyProof.Rows L2
/-! ### slots -/
theorem look_drop_k (l : List (Str × Slot)) (k k' : Str) : look (dropS l k) k' = if k' = k then none else look l k' := by
  by_cases h : k' = k
  · rw [if_pos h, h, look_drop]
  · rw [if_neg h]
    unfold look dropS
    congr 1
    rw [List.find?_filter]
    congr 1
    funext e
    by_cases z : e.1 = k'
    · simp [z, h]
    · simp [z]
theorem look_snoc (l : List (Str × Slot)) (k : Str) (v : Slot) (k' : Str) : look (l ++ [(k, v)]) k' = (look l k').or (if k' = k then some v else none) := by
  unfold look
  rw [List.find?_append]
  cases List.find? (fun e => decide (e.1 = k')) l with
  | some e => rfl
  | none =>
    by_cases h : k' = k
    · simp [h]
    · rw [if_neg h, List.find?_cons_of_neg (by simpa using fun z : k = k' => h z.symm)]
      rfl
theorem look_none {l : List (Str × Slot)} {k : Str} : look l k = none ↔ ¬ k ∈ l.map (·.1) := by
  unfold look
  rw [Option.map_eq_none_iff, List.find?_eq_none]
  constructor
  · intro h m
    obtain ⟨e, h1, h2⟩ := List.mem_map.mp m
    exact h e h1 (decide_eq_true h2)
  · intro h e he z
    exact h (List.mem_map.mpr ⟨e, he, of_decide_eq_true z⟩)
theorem look_mem {l : List (Str × Slot)} {k : Str} {v : Slot} (h : look l k = some v) : (k, v) ∈ l := by
  unfold look at h
  obtain ⟨e, h1, h2⟩ := Option.map_eq_some_iff.mp h
  have h3 := List.find?_some h1
  have h4 := List.mem_of_find?_eq_some h1
  have h5 : e.1 = k := of_decide_eq_true h3
  rw [← h5, ← h2]
  exact h4
theorem mem_look : ∀ {l : List (Str × Slot)} {k : Str} {v : Slot}, (l.map (·.1)).Nodup → (k, v) ∈ l → look l k = some v
  | [], _, _, _, h => absurd h List.not_mem_nil
  | e :: l, k, v, nd, h => by
    rw [List.map_cons] at nd
    obtain ⟨n1, n2⟩ := List.nodup_cons.mp nd
    rcases List.mem_cons.mp h with z | z
    · subst z
      simp [look]
    · have ne : e.1 ≠ k := fun w => n1 (by rw [w]; exact List.mem_map.mpr ⟨_, z, rfl⟩)
      have := mem_look n2 z
      unfold look at this ⊢
      rw [List.find?_cons_of_neg (by simpa using ne)]
      exact this
theorem look_put (l : List (Str × Slot)) (k : Str) (v : Slot) (k' : Str) : look (putS l k v) k' = if k' = k then some v else look l k' := by
  unfold putS
  by_cases h : (l.any fun e => decide (e.1 = k)) = true
  · rw [if_pos h]
    induction l with
    | nil => cases h
    | cons e l ih =>
      unfold look
      rw [List.map_cons]
      by_cases z : e.1 = k'
      · rw [List.find?_cons_of_pos (by simpa using z), List.find?_cons_of_pos (by simpa using z)]
        by_cases w : k' = k
        · rw [if_pos w]
          simp [z, w]
        · rw [if_neg w]
          simp [z, w]
      · rw [List.find?_cons_of_neg (by simpa using z), List.find?_cons_of_neg (by simpa using z)]
        by_cases a : (l.any fun e => decide (e.1 = k)) = true
        · exact ih a
        · have ek : e.1 = k := by
            rw [List.any_cons, Bool.or_eq_true] at h
            rcases h with h | h
            · exact of_decide_eq_true h
            · exact absurd h a
          have w : ¬ k' = k := fun q => z (by rw [ek, q])
          rw [if_neg w]
          have id : l.map (fun e => (e.1, if e.1 = k then v else e.2)) = l := by
            conv => rhs; rw [← List.map_id l]
            refine List.map_congr_left fun x hx => ?_
            have : ¬ x.1 = k := fun q => a (List.any_eq_true.mpr ⟨x, hx, decide_eq_true q⟩)
            simp [this]
          rw [id]
  · rw [if_neg h, look_snoc]
    by_cases w : k' = k
    · rw [if_pos w, if_pos w]
      have : look l k' = none := look_none.mpr fun m => by
        obtain ⟨e, h1, h2⟩ := List.mem_map.mp m
        exact h (List.any_eq_true.mpr ⟨e, h1, decide_eq_true (h2.trans w)⟩)
      rw [this]
      rfl
    · rw [if_neg w, if_neg w, Option.or_none]
def Slot.ok (n : Nat) : Slot → Prop
  | .pl t => t < n
  | .wk t => t < n
  | .ky y t => y < n ∧ t < n
theorem Slot.ok.last {n : Nat} {sl : Slot} (h : sl.ok n) : sl.last < n := by
  cases sl <;> first | exact h | exact h.2
theorem Slot.ok.mono {n m : Nat} {sl : Slot} (h : sl.ok n) (l : n ≤ m) : sl.ok m := by
  cases sl <;> first | exact Nat.lt_of_lt_of_le h l | exact ⟨Nat.lt_of_lt_of_le h.1 l, Nat.lt_of_lt_of_le h.2 l⟩
/-- a thing's slots: each named once, from the pool -/
structure Sl (n : Nat) (pool : List Str) (l : List (Str × Slot)) : Prop where
  nd : (l.map (·.1)).Nodup
  of : ∀ e ∈ l, e.1 ∈ pool
  ok : ∀ e ∈ l, e.2.ok n
section
variable {n : Nat} {pool : List Str} {l : List (Str × Slot)}
theorem Sl.nil : Sl n pool [] := ⟨List.nodup_nil, fun _ z => absurd z List.not_mem_nil, fun _ z => absurd z List.not_mem_nil⟩
theorem Sl.mono {m : Nat} (h : Sl n pool l) (le : n ≤ m) : Sl m pool l := ⟨h.nd, h.of, fun e he => (h.ok e he).mono le⟩
theorem Sl.drop (h : Sl n pool l) (k : Str) : Sl n pool (dropS l k) := by
  unfold dropS
  exact ⟨(List.filter_sublist.map _).nodup h.nd, fun e he => h.of e (List.mem_filter.mp he).1, fun e he => h.ok e (List.mem_filter.mp he).1⟩
theorem Sl.snoc (h : Sl n pool l) {k : Str} {v : Slot} (hk : k ∈ pool) (hv : v.ok n) (no : look l k = none) : Sl n pool (l ++ [(k, v)]) := by
  refine ⟨?_, fun e he => ?_, fun e he => ?_⟩
  · rw [List.map_append]
    exact nd_snoc h.nd (look_none.mp no)
  · rcases List.mem_append.mp he with z | z
    · exact h.of e z
    · rw [List.mem_singleton.mp z]
      exact hk
  · rcases List.mem_append.mp he with z | z
    · exact h.ok e z
    · rw [List.mem_singleton.mp z]
      exact hv
theorem Sl.put (h : Sl n pool l) {k : Str} {v : Slot} (hk : k ∈ pool) (hv : v.ok n) : Sl n pool (putS l k v) := by
  by_cases a : (l.any fun e => decide (e.1 = k)) = true
  · unfold putS
    rw [if_pos a]
    refine ⟨?_, fun e he => ?_, fun e he => ?_⟩
    · rw [List.map_map]
      exact h.nd
    · obtain ⟨x, h1, rfl⟩ := List.mem_map.mp he
      exact h.of x h1
    · obtain ⟨x, h1, rfl⟩ := List.mem_map.mp he
      by_cases z : x.1 = k
      · simp only [z, if_pos]
        exact hv
      · simp only [z, if_neg, not_false_eq_true]
        exact h.ok x h1
  · have e : putS l k v = l ++ [(k, v)] := by
      unfold putS
      rw [if_neg a]
    rw [e]
    exact h.snoc hk hv (look_none.mpr fun m => by
      obtain ⟨e, h1, h2⟩ := List.mem_map.mp m
      exact a (List.any_eq_true.mpr ⟨e, h1, decide_eq_true h2⟩))
theorem Sl.len (h : Sl n pool l) : l.length ≤ pool.length := by
  have := nodup_len h.nd (m := pool) fun k hk => by
    obtain ⟨e, h1, rfl⟩ := List.mem_map.mp hk
    exact h.of e h1
  rwa [List.length_map] at this
theorem Sl.room (h : Sl n pool l) {k : Str} (hk : k ∈ pool) (no : look l k = none) : l.length < pool.length := by
  have := nodup_len (l := k :: l.map (·.1)) (List.nodup_cons.mpr ⟨look_none.mp no, h.nd⟩) (m := pool) fun x hx => by
    rcases List.mem_cons.mp hx with z | z
    · rw [z]
      exact hk
    · obtain ⟨e, h1, rfl⟩ := List.mem_map.mp z
      exact h.of e h1
  rw [List.length_cons, List.length_map] at this
  exact this
end
/-! ### counts of holds -/
abbrev Pr := Nat × Hold
def cR (hs : List Str) (R : Str → List Nat) (p : Pr) : Nat := (hs.flatMap fun h => (R h).map fun t => ((t, []) : Pr)).count p
def hS (o : Nat) (l : List (Str × Slot)) : List Pr := l.flatMap fun e => e.2.holds o
def cS (n : Nat) (S : Nat → List (Str × Slot)) (p : Pr) : Nat := ((List.range n).flatMap fun o => hS o (S o)).count p
theorem cnt_upd {α β : Type} [DecidableEq β] [BEq β] [LawfulBEq β] {a : α} (f g : α → List β) (p : β) : ∀ {l : List α}, l.Nodup → a ∈ l → (∀ b ∈ l, b ≠ a → g b = f b) → (l.flatMap g).count p + (f a).count p = (l.flatMap f).count p + (g a).count p
  | [], _, h, _ => absurd h List.not_mem_nil
  | b :: l, nd, h, hf => by
    obtain ⟨n1, n2⟩ := List.nodup_cons.mp nd
    rw [List.flatMap_cons, List.flatMap_cons, List.count_append, List.count_append]
    rcases List.mem_cons.mp h with z | z
    · subst z
      have e : l.flatMap g = l.flatMap f := by
        rw [List.flatMap_def, List.flatMap_def]
        congr 1
        exact List.map_congr_left fun x hx => hf x (List.mem_cons_of_mem _ hx) fun q => n1 (q ▸ hx)
      rw [e]
      omega
    · have e : g b = f b := hf b List.mem_cons_self fun q => n1 (q ▸ z)
      have ih := cnt_upd f g p n2 z fun x hx => hf x (List.mem_cons_of_mem _ hx)
      rw [e]
      omega
theorem cR_upd {hs : List Str} {R : Str → List Nat} {h : Str} (r : List Nat) (nd : hs.Nodup) (m : h ∈ hs) (p : Pr) : cR hs (fset R h r) p + ((R h).map fun t => ((t, []) : Pr)).count p = cR hs R p + (r.map fun t => ((t, []) : Pr)).count p := by
  have := cnt_upd (a := h) (fun h => (R h).map fun t => ((t, []) : Pr)) (fun x => (fset R h r x).map fun t => ((t, []) : Pr)) p nd m fun b _ ne => by rw [fset_ne ne]
  rw [fset_same] at this
  exact this
theorem cR_add {hs : List Str} {R : Str → List Nat} {h : Str} {t : Nat} (nd : hs.Nodup) (m : h ∈ hs) (p : Pr) : cR hs (fset R h (R h ++ [t])) p = cR hs R p + [((t, []) : Pr)].count p := by
  have := cR_upd (R h ++ [t]) nd m p (R := R)
  rw [List.map_append, List.count_append] at this
  have e : (List.map (fun t => ((t, []) : Pr)) [t]) = [(t, [])] := rfl
  rw [e] at this
  omega
theorem perm_less {l : List Nat} {t : Nat} (h : t ∈ l) : l.Perm (t :: lessL l t) := by
  have h1 : l.reverse.Perm (t :: l.reverse.erase t) := List.perm_cons_erase (List.mem_reverse.mpr h)
  exact (List.reverse_perm l).symm.trans (h1.trans (List.Perm.cons _ (List.reverse_perm _).symm))
theorem cR_less {hs : List Str} {R : Str → List Nat} {h : Str} {t : Nat} (nd : hs.Nodup) (m : h ∈ hs) (ht : t ∈ R h) (p : Pr) : cR hs (fset R h (lessL (R h) t)) p + [((t, []) : Pr)].count p = cR hs R p := by
  have h1 := cR_upd (lessL (R h) t) nd m p (R := R)
  have h2 := ((perm_less ht).map fun t => ((t, []) : Pr)).count_eq p
  rw [List.map_cons, List.count_cons] at h2
  have h3 : [((t, []) : Pr)].count p = if ((t, []) : Pr) == p then 1 else 0 := by
    rw [List.count_cons, List.count_nil, Nat.zero_add]
  rw [h3]
  omega
theorem cS_upd {n : Nat} {S : Nat → List (Str × Slot)} {o : Nat} (l : List (Str × Slot)) (ho : o < n) (p : Pr) : cS n (fset S o l) p + (hS o (S o)).count p = cS n S p + (hS o l).count p := by
  have := cnt_upd (a := o) (fun o => hS o (S o)) (fun x => hS x (fset S o l x)) p List.nodup_range (List.mem_range.mpr ho) fun b _ ne => by rw [fset_ne ne]
  rw [fset_same] at this
  exact this
theorem cS_more {n : Nat} {S : Nat → List (Str × Slot)} (p : Pr) : cS (n + 1) (fset S n []) p = cS n S p := by
  unfold cS
  rw [List.range_succ, List.flatMap_append, List.count_append]
  have e1 : (List.range n).flatMap (fun o => hS o (fset S n [] o)) = (List.range n).flatMap (fun o => hS o (S o)) := by
    rw [List.flatMap_def, List.flatMap_def]
    congr 1
    exact List.map_congr_left fun x hx => by rw [fset_ne (Nat.ne_of_lt (List.mem_range.mp hx))]
  rw [e1]
  simp [fset_same, hS]
theorem hS_snoc (o : Nat) (l : List (Str × Slot)) (k : Str) (v : Slot) (p : Pr) : (hS o (l ++ [(k, v)])).count p = (hS o l).count p + (v.holds o).count p := by
  unfold hS
  rw [List.flatMap_append, List.count_append]
  simp
theorem hS_drop (o : Nat) {k : Str} {v : Slot} (p : Pr) : ∀ {l : List (Str × Slot)}, (l.map (·.1)).Nodup → look l k = some v → (hS o (dropS l k)).count p + (v.holds o).count p = (hS o l).count p
  | [], _, h => by cases h
  | e :: l, nd, h => by
    rw [List.map_cons] at nd
    obtain ⟨n1, n2⟩ := List.nodup_cons.mp nd
    by_cases z : e.1 = k
    · have hv : e.2 = v := by
        unfold look at h
        rw [List.find?_cons_of_pos (by simpa using z)] at h
        exact Option.some.inj h
      have hd : dropS (e :: l) k = l := by
        unfold dropS
        rw [List.filter_cons_of_neg (by simpa using z), List.filter_eq_self]
        intro x hx
        exact decide_eq_true fun q => n1 (by rw [z, ← q]; exact List.mem_map.mpr ⟨x, hx, rfl⟩)
      rw [hd]
      unfold hS
      rw [List.flatMap_cons, List.count_append, hv]
      omega
    · have h' : look l k = some v := by
        unfold look at h ⊢
        rw [List.find?_cons_of_neg (by simpa using z)] at h
        exact h
      have ih := hS_drop o p n2 h'
      have hd : dropS (e :: l) k = e :: dropS l k := by
        unfold dropS
        rw [List.filter_cons_of_pos (by simpa using z)]
      rw [hd]
      unfold hS at ih ⊢
      rw [List.flatMap_cons, List.flatMap_cons, List.count_append, List.count_append]
      omega
theorem pr_beq (e : Pr) (h : Hold) : (e == (e.1, h)) = (e.2 == h) := by
  obtain ⟨a, b⟩ := e
  rw [Bool.eq_iff_iff, beq_iff_eq, beq_iff_eq]
  exact ⟨fun z => (Prod.mk.inj z).2, fun z => by rw [show b = h from z]⟩
theorem cnt_addAll (t : Nat) (h : Hold) : ∀ (l : List Pr) (s : PS), ((s.addAll l).K t).count h = (s.K t).count h + l.count (t, h)
  | [], s => rfl
  | e :: l, s => by
    have ih := cnt_addAll t h l (s.addK e.1 e.2)
    have e1 : s.addAll (e :: l) = (s.addK e.1 e.2).addAll l := rfl
    rw [e1, ih, List.count_cons]
    have e2 : ((s.addK e.1 e.2).K t).count h = (s.K t).count h + if (e == (t, h)) = true then 1 else 0 := by
      show (fset s.K e.1 (s.K e.1 ++ [e.2]) t).count h = _
      by_cases z : t = e.1
      · rw [z, fset_same, List.count_append, List.count_cons, List.count_nil, Nat.zero_add]
        rw [pr_beq]
      · rw [fset_ne z]
        have : (e == (t, h)) = false := beq_eq_false_iff_ne.mpr fun q => z (by rw [q])
        rw [this]
        simp
    rw [e2]
    omega
theorem cnt_delAll (t : Nat) (h : Hold) : ∀ (l : List Pr) (s : PS), ((s.delAll l).K t).count h = (s.K t).count h - l.count (t, h)
  | [], s => rfl
  | e :: l, s => by
    have ih := cnt_delAll t h l (s.delK e.1 e.2)
    have e1 : s.delAll (e :: l) = (s.delK e.1 e.2).delAll l := rfl
    rw [e1, ih, List.count_cons]
    have e2 : ((s.delK e.1 e.2).K t).count h = (s.K t).count h - if (e == (t, h)) = true then 1 else 0 := by
      show (fset s.K e.1 ((s.K e.1).erase e.2) t).count h = _
      by_cases z : t = e.1
      · rw [z, fset_same, List.count_erase]
        rw [pr_beq]
      · rw [fset_ne z]
        have : (e == (t, h)) = false := beq_eq_false_iff_ne.mpr fun q => z (by rw [q])
        rw [this]
        simp
    rw [e2]
    omega
theorem len_of_count {α : Type} [BEq α] [LawfulBEq α] : ∀ {l m : List α}, (∀ x, l.count x ≤ m.count x) → l.length ≤ m.length
  | [], m, _ => Nat.zero_le _
  | a :: l, m, h => by
    have ha : a ∈ m := List.count_pos_iff.mp (by
      have := h a
      rw [List.count_cons_self] at this
      omega)
    have ih := len_of_count (l := l) (m := m.erase a) fun x => by
      have := h x
      rw [List.count_cons] at this
      rw [List.count_erase]
      omega
    rw [List.length_erase_of_mem ha] at ih
    have := List.length_pos_of_mem ha
    rw [List.length_cons]
    omega
end Df
/-! Each deed keeps a store and the law's own state alike. -/
namespace Df
open PySem PySem.Spec PyProof.Rows L2
/-- as many holds as rows and slots make -/
def KI (s : PS) : Prop := ∀ t h, (s.K t).count h = cR s.hs s.R (t, h) + cS s.n s.S (t, h)
structure Rel (s : PS) (o : OS) : Prop where
  hs : s.hs = o.hs
  nd : o.hs.Nodup
  h1 : 1 ≤ o.hs.length
  h6 : o.hs.length ≤ 6
  hn : ∀ h ∈ o.hs, NameOk h
  pn : ∀ k ∈ o.pool, NameOk k
  p1 : 1 ≤ o.pool.length
  p8 : o.pool.length ≤ 8
  n : s.n = o.n
  md : o.md = o.n
  n40 : o.n ≤ 40
  R : ∀ h ∈ o.hs, s.R h = o.R h
  lt : ∀ h ∈ o.hs, ∀ t ∈ o.R h, t < o.n
  len : ∀ h ∈ o.hs, (o.R h).length ≤ 30
  S : ∀ t, t < o.n → ∀ k, look (s.S t) k = look (o.S t) k
  sS : ∀ t, t < o.n → Sl o.n o.pool (s.S t)
  oS : ∀ t, t < o.n → Sl o.n o.pool (o.S t)
  z : ∀ t, o.n ≤ t → o.S t = []
  K : KI s
theorem PS.ext_of {s : PS} {n : Nat} {hs : List Str} {R : Str → List Nat} {S : Nat → List (Str × Slot)} (h1 : s.n = n) (h2 : s.hs = hs) (h3 : s.R = R) (h4 : s.S = S) : s = ⟨hs, n, R, S, s.K⟩ := by
  obtain ⟨_, _, _, _, _⟩ := s
  subst h1
  subst h2
  subst h3
  subst h4
  rfl
theorem drop_none {l : List (Str × Slot)} {k : Str} (h : look l k = none) : dropS l k = l := by
  unfold dropS
  rw [List.filter_eq_self]
  intro e he
  exact decide_eq_true fun q => look_none.mp h (List.mem_map.mpr ⟨e, he, q⟩)
theorem fset_id {β : Type} (f : Nat → β) (a : Nat) : fset f a (f a) = f := by
  funext x
  by_cases h : x = a
  · rw [h, fset_same]
  · rw [fset_ne h]
theorem clear_eq (s : PS) (o : Nat) (k : Str) : s.clear o k = ⟨s.hs, s.n, s.R, fset s.S o (dropS (s.S o) k), (s.clear o k).K⟩ := by
  obtain ⟨h1, h2, h3⟩ := clear_n s o k
  refine PS.ext_of h1 h2 h3 ?_
  unfold PS.clear
  cases e : look (s.S o) k with
  | none =>
    rw [drop_none e, fset_id]
  | some sl =>
    exact (delAll_n _ _).2.2.2
theorem fill_eq (s : PS) (o : Nat) (k : Str) (sl : Slot) : s.fill o k sl = ⟨s.hs, s.n, s.R, fset s.S o (dropS (s.S o) k ++ [(k, sl)]), (s.fill o k sl).K⟩ := by
  unfold PS.fill
  obtain ⟨h1, h2, h3, h4⟩ := addAll_n (sl.holds o) ((s.clear o k).setS o ((s.clear o k).S o ++ [(k, sl)]))
  have c := clear_eq s o k
  refine PS.ext_of (h1.trans ?_) (h2.trans ?_) (h3.trans ?_) (h4.trans ?_)
  · exact (clear_n s o k).1
  · exact (clear_n s o k).2.1
  · exact (clear_n s o k).2.2
  · show fset (s.clear o k).S o ((s.clear o k).S o ++ [(k, sl)]) = _
    rw [c]
    show fset (fset s.S o (dropS (s.S o) k)) o (fset s.S o (dropS (s.S o) k) o ++ [(k, sl)]) = _
    rw [fset_same]
    funext x
    by_cases h : x = o
    · rw [h, fset_same, fset_same]
    · rw [fset_ne h, fset_ne h, fset_ne h]
section
variable {s : PS} {o : OS}
theorem KI.have_ (k : KI s) (nd : s.hs.Nodup) {h : Str} (hm : h ∈ s.hs) (t : Nat) : KI (s.have_ h t) := fun u g => by
  have e : s.have_ h t = (s.setR h (s.R h ++ [t])).addAll [(t, [])] := rfl
  rw [e, cnt_addAll]
  have k1 := k u g
  have c1 := cR_add (R := s.R) (t := t) nd hm (u, g)
  show (s.K u).count g + [((t, []) : Pr)].count (u, g) = cR s.hs (fset s.R h (s.R h ++ [t])) (u, g) + cS s.n s.S (u, g)
  omega
theorem KI.lose (k : KI s) (nd : s.hs.Nodup) {h : Str} (hm : h ∈ s.hs) {t : Nat} (ht : t ∈ s.R h) : KI (s.lose h t) := fun u g => by
  have e : s.lose h t = (s.setR h (lessL (s.R h) t)).delAll [(t, [])] := rfl
  rw [e, cnt_delAll]
  have k1 := k u g
  have c1 := cR_less (R := s.R) (t := t) nd hm ht (u, g)
  show (s.K u).count g - [((t, []) : Pr)].count (u, g) = cR s.hs (fset s.R h (lessL (s.R h) t)) (u, g) + cS s.n s.S (u, g)
  omega
theorem KI.clear (k : KI s) {ow : Nat} (ho : ow < s.n) (nd : ((s.S ow).map (·.1)).Nodup) (q : Str) : KI (s.clear ow q) := fun u g => by
  cases e : look (s.S ow) q with
  | none =>
    have e1 : s.clear ow q = s := by
      unfold PS.clear
      rw [e]
    rw [e1]
    exact k u g
  | some sl =>
    have e1 : s.clear ow q = (s.setS ow (dropS (s.S ow) q)).delAll (sl.holds ow) := by
      unfold PS.clear
      rw [e]
    have c2 := clear_eq s ow q
    have k1 := k u g
    have c1 := cS_upd (S := s.S) (dropS (s.S ow) q) ho (u, g)
    have c3 := hS_drop ow (u, g) nd e
    have lhs : ((s.clear ow q).K u).count g = (s.K u).count g - (sl.holds ow).count (u, g) := by
      rw [e1, cnt_delAll]
      rfl
    rw [lhs, c2]
    show _ = cR s.hs s.R (u, g) + cS s.n (fset s.S ow (dropS (s.S ow) q)) (u, g)
    omega
theorem KI.fill (k : KI s) {ow : Nat} (ho : ow < s.n) (nd : ((s.S ow).map (·.1)).Nodup) (q : Str) (sl : Slot) : KI (s.fill ow q sl) := fun u g => by
  have k1 := k.clear ho nd q u g
  have c2 := clear_eq s ow q
  have lhs : ((s.fill ow q sl).K u).count g = ((s.clear ow q).K u).count g + (sl.holds ow).count (u, g) := by
    unfold PS.fill
    rw [cnt_addAll]
    rfl
  rw [lhs, k1, fill_eq, c2]
  show cR s.hs s.R (u, g) + cS s.n (fset s.S ow (dropS (s.S ow) q)) (u, g) + _ = cR s.hs s.R (u, g) + cS s.n (fset s.S ow (dropS (s.S ow) q ++ [(q, sl)])) (u, g)
  have c3 := cS_upd (S := s.S) (dropS (s.S ow) q) ho (u, g)
  have c4 := cS_upd (S := s.S) (dropS (s.S ow) q ++ [(q, sl)]) ho (u, g)
  have c5 := hS_snoc ow (dropS (s.S ow) q) q sl (u, g)
  omega
theorem cnt_nil {α : Type} [BEq α] [LawfulBEq α] {l : List α} (h : ∀ x, l.count x = 0) : l = [] := by
  cases l with
  | nil => rfl
  | cons a l =>
    have := h a
    rw [List.count_cons_self] at this
    omega
theorem mem_cR {hs : List Str} {R : Str → List Nat} {t : Nat} {g : Hold} : 0 < cR hs R (t, g) ↔ g = [] ∧ ∃ h ∈ hs, t ∈ R h := by
  unfold cR
  rw [List.count_pos_iff, List.mem_flatMap]
  constructor
  · rintro ⟨h, h1, h2⟩
    obtain ⟨x, h3, h4⟩ := List.mem_map.mp h2
    obtain ⟨rfl, rfl⟩ := Prod.mk.inj h4
    exact ⟨rfl, h, h1, h3⟩
  · rintro ⟨rfl, h, h1, h2⟩
    exact ⟨h, h1, List.mem_map.mpr ⟨t, h2, rfl⟩⟩
theorem mem_cS {n : Nat} {S : Nat → List (Str × Slot)} {t : Nat} {g : Hold} : 0 < cS n S (t, g) ↔ ∃ ow < n, ∃ e ∈ S ow, (t, g) ∈ e.2.holds ow := by
  unfold cS
  rw [List.count_pos_iff, List.mem_flatMap]
  constructor
  · rintro ⟨ow, h1, h2⟩
    obtain ⟨e, h3, h4⟩ := List.mem_flatMap.mp h2
    exact ⟨ow, List.mem_range.mp h1, e, h3, h4⟩
  · rintro ⟨ow, h1, e, h3, h4⟩
    exact ⟨ow, List.mem_range.mpr h1, List.mem_flatMap.mpr ⟨e, h3, h4⟩⟩
theorem holds_last {sl : Slot} {ow t : Nat} {g : Hold} (h : (t, g) ∈ sl.holds ow) : t = sl.last := by
  cases sl with
  | pl x =>
    rw [show Slot.holds ow (.pl x) = [(x, [ow])] from rfl, List.mem_singleton] at h
    exact (Prod.mk.inj h).1
  | wk x => cases h
  | ky y x =>
    rw [show Slot.holds ow (.ky y x) = [(x, joint ow y)] from rfl, List.mem_singleton] at h
    exact (Prod.mk.inj h).1
/-- what holds a thing -/
theorem KI.mem (k : KI s) {t : Nat} {g : Hold} : g ∈ s.K t ↔ (g = [] ∧ ∃ h ∈ s.hs, t ∈ s.R h) ∨ ∃ ow < s.n, ∃ e ∈ s.S ow, (t, g) ∈ e.2.holds ow := by
  rw [← List.count_pos_iff, k t g, ← mem_cR, ← mem_cS]
  omega
theorem Rel.out (r : Rel s o) {t : Nat} (h : o.n ≤ t) : s.K t = [] := by
  refine List.eq_nil_iff_forall_not_mem.mpr fun g hg => ?_
  rcases r.K.mem.mp hg with ⟨_, x, h1, h2⟩ | ⟨ow, h1, e, h2, h3⟩
  · rw [r.hs] at h1
    rw [r.R x h1] at h2
    have := r.lt x h1 t h2
    omega
  · rw [r.n] at h1
    have := ((r.sS ow h1).ok e h2).last
    rw [← holds_last h3] at this
    omega
theorem KI.make (r : Rel s o) {h : Str} (hm : h ∈ o.hs) : KI (s.make h) := by
  have k0 : KI { s with n := s.n + 1, S := fset s.S s.n [], K := fset s.K s.n [] } := fun u g => by
    show (fset s.K s.n [] u).count g = cR s.hs s.R (u, g) + cS (s.n + 1) (fset s.S s.n []) (u, g)
    rw [cS_more]
    have e : fset s.K s.n [] = s.K := by
      have := r.out (t := s.n) (by rw [r.n]; exact Nat.le_refl _)
      rw [← this, fset_id]
    rw [e]
    exact r.K u g
  exact k0.have_ (by rw [show PS.hs _ = s.hs from rfl, r.hs]; exact r.nd) (by rw [show PS.hs _ = s.hs from rfl, r.hs]; exact hm) s.n
/-- a row is another -/
theorem Rel.setR (r : Rel s o) {h : Str} (hm : h ∈ o.hs) {l : List Nat} {K' : Nat → List Hold} (h1 : ∀ t ∈ l, t < o.n) (h2 : l.length ≤ 30) (k : KI ⟨s.hs, s.n, fset s.R h l, s.S, K'⟩) : Rel ⟨s.hs, s.n, fset s.R h l, s.S, K'⟩ (o.setR h l) := by
  refine ⟨r.hs, r.nd, r.h1, r.h6, r.hn, r.pn, r.p1, r.p8, r.n, r.md, r.n40, fun x hx => ?_, fun x hx => ?_, fun x hx => ?_, r.S, r.sS, r.oS, r.z, k⟩
  · show fset s.R h l x = fset o.R h l x
    by_cases e : x = h
    · rw [e, fset_same, fset_same]
    · rw [fset_ne e, fset_ne e]
      exact r.R x hx
  · show ∀ t ∈ fset o.R h l x, t < o.n
    by_cases e : x = h
    · rw [e, fset_same]
      exact h1
    · rw [fset_ne e]
      exact r.lt x hx
  · show (fset o.R h l x).length ≤ 30
    by_cases e : x = h
    · rw [e, fset_same]
      exact h2
    · rw [fset_ne e]
      exact r.len x hx
/-- an owner's slots are others -/
theorem Rel.setS (r : Rel s o) {ow : Nat} (ho : ow < o.n) {l l' : List (Str × Slot)} {K' : Nat → List Hold} (h0 : ∀ k, look l k = look l' k) (h1 : Sl o.n o.pool l) (h2 : Sl o.n o.pool l') (k : KI ⟨s.hs, s.n, s.R, fset s.S ow l, K'⟩) : Rel ⟨s.hs, s.n, s.R, fset s.S ow l, K'⟩ (o.setS ow l') := by
  refine ⟨r.hs, r.nd, r.h1, r.h6, r.hn, r.pn, r.p1, r.p8, r.n, r.md, r.n40, r.R, r.lt, r.len, fun t ht => ?_, fun t ht => ?_, fun t ht => ?_, fun t ht => ?_, k⟩
  · show ∀ k, look (fset s.S ow l t) k = look (fset o.S ow l' t) k
    by_cases e : t = ow
    · rw [e, fset_same, fset_same]
      exact h0
    · rw [fset_ne e, fset_ne e]
      exact r.S t ht
  · show Sl o.n o.pool (fset s.S ow l t)
    by_cases e : t = ow
    · rw [e, fset_same]
      exact h1
    · rw [fset_ne e]
      exact r.sS t ht
  · show Sl o.n o.pool (fset o.S ow l' t)
    by_cases e : t = ow
    · rw [e, fset_same]
      exact h2
    · rw [fset_ne e]
      exact r.oS t ht
  · show fset o.S ow l' t = []
    have ht : o.n ≤ t := ht
    rw [fset_ne (by omega)]
    exact r.z t ht
theorem mem_less {l : List Nat} {t x : Nat} (h : x ∈ lessL l t) : x ∈ l := by
  unfold lessL at h
  exact List.mem_reverse.mp (List.mem_of_mem_erase (List.mem_reverse.mp h))
theorem Rel.ndS (r : Rel s o) : s.hs.Nodup := by
  rw [r.hs]
  exact r.nd
theorem Rel.have_ (r : Rel s o) {h : Str} (hm : h ∈ o.hs) {t : Nat} (ht : t < o.n) (l : (o.R h).length < 30) : Rel (s.have_ h t) (o.addR h t) := by
  have k := r.K.have_ r.ndS (by rw [r.hs]; exact hm) t (h := h)
  have e := r.R h hm
  have := r.setR hm (l := o.R h ++ [t]) (K' := (s.have_ h t).K) (fun x hx => ?_) (by rw [List.length_append, List.length_singleton]; omega) (by rw [← e]; exact k)
  · rw [← e] at this
    unfold OS.addR
    rw [← e]
    exact this
  · rcases List.mem_append.mp hx with z | z
    · exact r.lt h hm x z
    · rw [List.mem_singleton.mp z]
      exact ht
theorem Rel.lose (r : Rel s o) {h : Str} (hm : h ∈ o.hs) {t : Nat} (ht : t ∈ o.R h) : Rel (s.lose h t) (o.lessR h t) := by
  have e := r.R h hm
  have k := r.K.lose r.ndS (by rw [r.hs]; exact hm) (h := h) (t := t) (by rw [e]; exact ht)
  have := r.setR hm (l := lessL (o.R h) t) (K' := (s.lose h t).K) (fun x hx => r.lt h hm x (mem_less hx)) (Nat.le_trans (len_lessL _ _) (r.len h hm)) (by rw [← e]; exact k)
  rw [← e] at this
  unfold OS.lessR
  rw [← e]
  exact this
theorem Rel.fill (r : Rel s o) {ow : Nat} (ho : ow < o.n) {k : Str} (hk : k ∈ o.pool) {sl : Slot} (hv : sl.ok o.n) : Rel (s.fill ow k sl) (o.setS ow (putS (o.S ow) k sl)) := by
  have ki := r.K.fill (ow := ow) (by rw [r.n]; exact ho) (r.sS ow ho).nd k sl
  rw [fill_eq] at ki ⊢
  refine r.setS ho (fun k' => ?_) (((r.sS ow ho).drop k).snoc hk hv (look_drop _ _)) ((r.oS ow ho).put hk hv) ki
  rw [look_snoc, look_drop_k, look_put]
  by_cases e : k' = k
  · rw [if_pos e, if_pos e, if_pos e]
    rfl
  · rw [if_neg e, if_neg e, if_neg e, Option.or_none]
    exact r.S ow ho k'
theorem Rel.clear (r : Rel s o) {ow : Nat} (ho : ow < o.n) (k : Str) : Rel (s.clear ow k) (o.setS ow (dropS (o.S ow) k)) := by
  have ki := r.K.clear (ow := ow) (by rw [r.n]; exact ho) (r.sS ow ho).nd k
  rw [clear_eq] at ki ⊢
  refine r.setS ho (fun k' => ?_) ((r.sS ow ho).drop k) ((r.oS ow ho).drop k) ki
  rw [look_drop_k, look_drop_k]
  by_cases e : k' = k
  · rw [if_pos e, if_pos e]
  · rw [if_neg e, if_neg e]
    exact r.S ow ho k'
theorem Rel.make (r : Rel s o) {h : Str} (hm : h ∈ o.hs) (n40 : o.n < 40) (l : (o.R h).length < 30) : Rel (s.make h) (o.done (.mk h)) := by
  have ki := KI.make r hm
  have e := r.R h hm
  have emd := r.md
  have en := r.n
  have R' : ∀ x ∈ o.hs, fset s.R h (s.R h ++ [s.n]) x = fset o.R h (o.R h ++ [o.md]) x := fun x hx => by
    by_cases z : x = h
    · rw [z, fset_same, fset_same, e, en, emd]
    · rw [fset_ne z, fset_ne z]
      exact r.R x hx
  refine ⟨r.hs, r.nd, r.h1, r.h6, r.hn, r.pn, r.p1, r.p8, ?_, ?_, ?_, R', fun x hx => ?_, fun x hx => ?_, fun t ht => ?_, fun t ht => ?_, fun t ht => ?_, fun t ht => ?_, ki⟩
  · show s.n + 1 = o.n + 1
    rw [en]
  · show o.md + 1 = o.n + 1
    rw [emd]
  · show o.n + 1 ≤ 40
    omega
  · show ∀ t ∈ fset o.R h (o.R h ++ [o.md]) x, t < o.n + 1
    intro t ht
    by_cases z : x = h
    · rw [z, fset_same] at ht
      rcases List.mem_append.mp ht with q | q
      · have := r.lt h hm t q
        omega
      · rw [List.mem_singleton.mp q]
        omega
    · rw [fset_ne z] at ht
      have := r.lt x hx t ht
      omega
  · show (fset o.R h (o.R h ++ [o.md]) x).length ≤ 30
    by_cases z : x = h
    · rw [z, fset_same, List.length_append, List.length_singleton]
      omega
    · rw [fset_ne z]
      exact r.len x hx
  · have ht : t < o.n + 1 := ht
    show ∀ k, look (fset s.S s.n [] t) k = look (fset o.S o.n [] t) k
    rw [en]
    by_cases z : t = o.n
    · rw [z, fset_same, fset_same]
      exact fun _ => rfl
    · rw [fset_ne z, fset_ne z]
      exact r.S t (by omega)
  · have ht : t < o.n + 1 := ht
    show Sl (o.n + 1) o.pool (fset s.S s.n [] t)
    rw [en]
    by_cases z : t = o.n
    · rw [z, fset_same]
      exact Sl.nil
    · rw [fset_ne z]
      exact (r.sS t (by omega)).mono (Nat.le_succ _)
  · have ht : t < o.n + 1 := ht
    show Sl (o.n + 1) o.pool (fset o.S o.n [] t)
    by_cases z : t = o.n
    · rw [z, fset_same]
      exact Sl.nil
    · rw [fset_ne z]
      exact (r.oS t (by omega)).mono (Nat.le_succ _)
  · have ht : o.n + 1 ≤ t := ht
    show fset o.S o.n [] t = []
    rw [fset_ne (by omega)]
    exact r.z t (by omega)
/-! ### what the store's deeds ask -/
theorem Rel.len_K (r : Rel s o) (t : Nat) : (s.K t).length ≤ 1000 := by
  have h : ∀ x, ((s.K t).map fun g => ((t, g) : Pr)).count x ≤ ((s.hs.flatMap fun h => (s.R h).map fun t => ((t, []) : Pr)) ++ (List.range s.n).flatMap fun o => hS o (s.S o)).count x := fun x => by
    obtain ⟨u, g⟩ := x
    rw [List.count_append]
    by_cases e : u = t
    · subst e
      have k := r.K u g
      have c : ((s.K u).map fun g => ((u, g) : Pr)).count (u, g) = (s.K u).count g := by
        rw [List.count_eq_countP, List.countP_map, List.count_eq_countP]
        refine List.countP_congr fun x _ => ?_
        show ((u, x) == (u, g)) = true ↔ (x == g) = true
        rw [beq_iff_eq, beq_iff_eq]
        exact ⟨fun z => (Prod.mk.inj z).2, fun z => by rw [z]⟩
      rw [c, k]
      exact Nat.le_refl _
    · have : ((s.K t).map fun g => ((t, g) : Pr)).count (u, g) = 0 := by
        rw [List.count_eq_zero]
        intro m
        obtain ⟨x, _, h2⟩ := List.mem_map.mp m
        exact e (Prod.mk.inj h2).1.symm
      omega
  have h2 := len_of_count h
  rw [List.length_map, List.length_append] at h2
  have a1 : ∀ l : List Str, (∀ x ∈ l, (s.R x).length ≤ 30) → (l.flatMap fun h => (s.R h).map fun t => ((t, []) : Pr)).length ≤ 30 * l.length := by
    intro l
    induction l with
    | nil => intro _; exact Nat.le_refl _
    | cons a l ih =>
      intro hl
      rw [List.flatMap_cons, List.length_append, List.length_map, List.length_cons]
      have h3 := ih fun x hx => hl x (List.mem_cons_of_mem _ hx)
      have h4 := hl a List.mem_cons_self
      omega
  have a2 : ∀ (o : Nat) (l : List (Str × Slot)), (hS o l).length ≤ l.length := by
    intro ow l
    induction l with
    | nil => exact Nat.le_refl _
    | cons e l ih =>
      unfold hS at ih ⊢
      rw [List.flatMap_cons, List.length_append, List.length_cons]
      have := holds_le1 ow e.2
      omega
  have a3 : ∀ l : List Nat, (∀ x ∈ l, (s.S x).length ≤ 8) → (l.flatMap fun o => hS o (s.S o)).length ≤ 8 * l.length := by
    intro l
    induction l with
    | nil => intro _; exact Nat.le_refl _
    | cons a l ih =>
      intro hl
      rw [List.flatMap_cons, List.length_append, List.length_cons]
      have h3 := ih fun x hx => hl x (List.mem_cons_of_mem _ hx)
      have h4 := hl a List.mem_cons_self
      have h5 := a2 a (s.S a)
      omega
  have b1 := a1 s.hs fun x hx => by
    rw [r.hs] at hx
    rw [r.R x hx]
    exact r.len x hx
  have b2 := a3 (List.range s.n) fun x hx => by
    have hx := List.mem_range.mp hx
    rw [r.n] at hx
    exact Nat.le_trans (r.sS x hx).len r.p8
  rw [List.length_range] at b2
  have h6 := r.h6
  have n40 := r.n40
  rw [r.hs] at b1 h2
  rw [r.n] at b2 h2
  omega
theorem Rel.rm (r : Rel s o) : Rm s := fun t _ => Nat.lt_of_le_of_lt (r.len_K t) (by decide)
theorem Rel.nil_mem (r : Rel s o) {h : Str} (hm : h ∈ o.hs) {t : Nat} (ht : t ∈ o.R h) : [] ∈ s.K t := r.K.mem.mpr (.inl ⟨rfl, h, by rw [r.hs]; exact hm, by rw [r.R h hm]; exact ht⟩)
theorem Rel.clr (r : Rel s o) {ow : Nat} (ho : ow < o.n) (k : Str) : Clr s ow k := fun sl hl e he => by
  have m := look_mem hl
  have ok := (r.sS ow ho).ok _ m
  obtain ⟨t, g⟩ := e
  refine ⟨?_, r.K.mem.mpr (.inr ⟨ow, by rw [r.n]; exact ho, _, m, he⟩)⟩
  rw [show (t, g).1 = t from rfl, holds_last he, r.n]
  exact ok.last
theorem Rel.room (r : Rel s o) {ow : Nat} (ho : ow < o.n) {k : Str} (hk : k ∈ o.pool) (no : look (s.S ow) k = none) : (s.S ow).length < 8 := Nat.lt_of_lt_of_le ((r.sS ow ho).room hk no) r.p8
theorem Rel.len8 (r : Rel s o) {ow : Nat} (ho : ow < o.n) : (s.S ow).length ≤ 8 := Nat.le_trans (r.sS ow ho).len r.p8
theorem Rel.ook (r : Rel s o) : OOk o := ⟨r.md, r.n40, r.lt, fun h hm => Nat.le_trans (r.len h hm) (by decide), fun t => by
  by_cases h : t < o.n
  · exact Nat.le_trans (r.oS t h).len (Nat.le_trans r.p8 (by decide))
  · rw [r.z t (by omega)]
    exact Nat.zero_le _, Nat.le_trans r.h6 (by decide)⟩
theorem hold_len {sl : Slot} {ow t : Nat} {g : Hold} (h : (t, g) ∈ sl.holds ow) : g.length ≤ 2 := by
  cases sl with
  | pl x =>
    rw [show Slot.holds ow (.pl x) = [(x, [ow])] from rfl, List.mem_singleton] at h
    rw [(Prod.mk.inj h).2]
    exact Nat.le_succ 1
  | wk x => cases h
  | ky y x =>
    rw [show Slot.holds ow (.ky y x) = [(x, joint ow y)] from rfl, List.mem_singleton] at h
    rw [(Prod.mk.inj h).2]
    unfold joint
    split
    · exact Nat.le_succ 1
    · split <;> exact Nat.le_refl 2
theorem Rel.short (r : Rel s o) {t : Nat} {g : Hold} (h : g ∈ s.K t) : g.length ≤ 1000 := by
  rcases r.K.mem.mp h with ⟨rfl, _⟩ | ⟨ow, _, e, _, h3⟩
  · exact Nat.zero_le _
  · exact Nat.le_trans (hold_len h3) (by decide)
end
/-- a store's deed -/
def PS.step (s : PS) : Deed → PS
  | .mk h => s.make h
  | .put _ o k t => s.fill o k (.pl t)
  | .show_ _ o k t => s.fill o k (.wk t)
  | .tie _ o k a b => s.fill o k (.ky a b)
  | .empty _ o k => s.clear o k
  | .take h o k => match look (s.S o) k with
    | none => s
    | some sl => s.have_ h sl.last
  | .give h t g => (s.lose h t).have_ g t
  | .drop h t => s.lose h t
theorem Rel.step {s : PS} {o : OS} (r : Rel s o) {d : Deed} (hof : d.of o.hs o.pool) (l : o.isLet d = true) : Rel (s.step d) (o.done d) := by
  cases d with
  | mk h =>
    have l2 : (decide (o.md < 40) && decide ((o.R h).length < 30)) = true := l
    rw [Bool.and_eq_true] at l2
    have := of_decide_eq_true l2.1
    rw [r.md] at this
    exact r.make hof this (of_decide_eq_true l2.2)
  | put h ow k t =>
    obtain ⟨h1, h2⟩ := OS.let_th rfl l
    have ho := r.lt h hof.1 ow h1
    exact r.fill ho hof.2 (sl := .pl t) (r.lt h hof.1 t (of_decide_eq_true h2))
  | show_ h ow k t =>
    obtain ⟨h1, h2⟩ := OS.let_th rfl l
    have ho := r.lt h hof.1 ow h1
    exact r.fill ho hof.2 (sl := .wk t) (r.lt h hof.1 t (of_decide_eq_true h2))
  | tie h ow k a b =>
    obtain ⟨h1, h2⟩ := OS.let_th rfl l
    have ho := r.lt h hof.1 ow h1
    have h2 : (decide (a ∈ o.R h) && decide (b ∈ o.R h)) = true := h2
    rw [Bool.and_eq_true] at h2
    exact r.fill ho hof.2 (sl := .ky a b) ⟨r.lt h hof.1 a (of_decide_eq_true h2.1), r.lt h hof.1 b (of_decide_eq_true h2.2)⟩
  | empty h ow k =>
    obtain ⟨h1, h2⟩ := OS.let_th rfl l
    exact r.clear (r.lt h hof.1 ow h1) k
  | take h ow k =>
    obtain ⟨h1, h2⟩ := OS.let_th rfl l
    have ho := r.lt h hof.1 ow h1
    have h2 : (match look (o.S ow) k with | none => false | some sl => decide ((o.R h).length < 30) && sl.keyOk (o.R h)) = true := h2
    show Rel (match look (s.S ow) k with | none => s | some sl => s.have_ h sl.last) (match look (o.S ow) k with | none => o | some sl => o.addR h sl.last)
    rw [r.S ow ho k]
    cases e : look (o.S ow) k with
    | none => exact r
    | some sl =>
      rw [e] at h2
      have h2 : (decide ((o.R h).length < 30) && sl.keyOk (o.R h)) = true := h2
      rw [Bool.and_eq_true] at h2
      exact r.have_ hof.1 ((r.oS ow ho).ok _ (look_mem e)).last (of_decide_eq_true h2.1)
  | give h t g =>
    obtain ⟨h1, h2⟩ := OS.let_th rfl l
    have h2 : (decide (g = h) || decide ((o.R g).length < 30)) = true := h2
    have r1 := r.lose hof.1 h1
    refine r1.have_ hof.2 (r.lt h hof.1 t h1) ?_
    show (fset o.R h (lessL (o.R h) t) g).length < 30
    by_cases e : g = h
    · rw [e, fset_same]
      have p := (perm_less (show t ∈ o.R h from h1)).length_eq
      rw [List.length_cons] at p
      have := r.len h hof.1
      omega
    · rw [fset_ne e]
      rw [decide_eq_false e, Bool.false_or] at h2
      exact of_decide_eq_true h2
  | drop h t =>
    obtain ⟨h1, h2⟩ := OS.let_th rfl l
    exact r.lose hof h1
end Df
/-! The law's deeds, done to the store. -/
namespace Df
open PySem PySem.Spec PyProof.Rows L2
section
variable {P : Program} {w : World} {K : PySem.W.Frag} {mg : Str → Option Value} {base : Heap}
/-- but for making, as many as there were -/
theorem done_n {o : OS} {d : Deed} (h : d.isMk = false := by rfl) : (o.done d).n = o.n := by
  cases d with
  | mk h => cases h
  | take x ow k =>
    show OS.n (match look (o.S ow) k with | none => o | some sl => o.addR x sl.last) = o.n
    cases look (o.S ow) k <;> rfl
  | _ => rfl
theorem done_hs {o : OS} {d : Deed} : (o.done d).hs = o.hs := by
  cases d with
  | take x ow k =>
    show OS.hs (match look (o.S ow) k with | none => o | some sl => o.addR x sl.last) = o.hs
    cases look (o.S ow) k <;> rfl
  | _ => rfl
theorem done_pool {o : OS} {d : Deed} : (o.done d).pool = o.pool := by
  cases d with
  | take x ow k =>
    show OS.pool (match look (o.S ow) k with | none => o | some sl => o.addR x sl.last) = o.pool
    cases look (o.S ow) k <;> rfl
  | _ => rfl
abbrev N_L_store_done : List Str := ["_law_den", "_law_deed_here", "_law_word", "_law_hand"]
theorem sc_L_store_done : FnScope N_L_store_done ["_law_den", "_law_deed_here"] (defScope s_L_store_done) := ⟨rfl, rfl, rfl, by decide +kernel, rfl, by decide +kernel, by decide +kernel⟩
def spStoreDone (K : PySem.W.Frag) : Sp := fun vs H Q _ => ∃ (dx : Addr) (α : SV) (s : PS) (o : OS) (d : Addr) (dd : Deed), vs = [.ref (α .den), .ref d] ∧ SA (stC K) dx α s H ∧ H d = some (.tup dd.v) ∧ Rel s o ∧ dd.of o.hs o.pool ∧ o.isLet dd = true ∧
  ∀ (α' : SV) H' v, SA (stC K) dx α' (s.step dd) H' → α' .den = α .den → Kp (Foot α s) (Foot α' (s.step dd)) H H' → Q v H'
theorem ok_L_store_done (T : Tx K mg) (h_make : MtD P w K mg base "make" 3 ["self", "hand", "word"] [.str ""] (spMake K)) (h_put : Mt P w K mg base "put" 5 ["self", "hand", "owner", "slot", "thing"] (spPut K)) (h_show : Mt P w K mg base "show" 5 ["self", "hand", "owner", "slot", "thing"] (spShow K)) (h_tie : Mt P w K mg base "tie" 5 ["self", "hand", "owner", "slot", "key", "value"] (spTie K))
    (h_empty : Mt P w K mg base "empty" 5 ["self", "hand", "owner", "slot"] (spEmpty K)) (h_take : Mt P w K mg base "take" 5 ["self", "hand", "owner", "slot"] (spTake K)) (h_give : MtK P w K mg base "give" 4 ["self", "hand", "thing", "to"] 3 ["to"] (fun vs zs => vs ++ zs) (spGive K)) (h_drop : Mt P w K mg base "drop" 4 ["self", "hand", "thing"] (spDrop K)) :
    Cl P w K mg base "_law_store_done" 6 ["_law_den", "_law_deed_here"] (spStoreDone K) := by
  refine Cl.of T.f_L_store_done T.gl_L_store_done sc_L_store_done (fun _ _ _ _ _ _ us hl => match us, hl with | [_, _], _ => rfl) (fun vs H Q E h => ?_) (fun cdv A outer s H vs Q E hr h => ?_)
  · obtain ⟨dx, α, s, o, d, dd, rfl, _⟩ := h
    rfl
  · obtain ⟨dx, α, s, o, d, dd, rfl, a, hd, r, hof, hlet, q⟩ := h
    have hu := hu_of hr
    refine ⟨_, (pss_cons (ps_par (i := 2) (j := 3) (by rfl) sc_L_store_done.nd rfl rfl (by decide) rfl rfl (pa_cons (pe_ix ix_tup (pv 1) pe_int (fun _ _ => rfl)) (pa_cons (pe_ix ix_tup (pv 1) pe_int (fun _ _ => rfl)) pa_nil)) (by rfl))
      (pss_cons (ps_if (pt_cmpR op_eq (pv 2) pe_str (nomark _)) (pss_one (ps_ret (pe_mtD h_make hr (pv 0) (pa_cons (pv 3) pa_nil)))) pss_nil)
      (pss_cons (ps_if (pt_cmpR op_eq (pv 2) pe_str (nomark _)) (pss_one (ps_ret (pe_mt h_put hr (pv 0) (pa_cons (pv 3) (pa_cons (pe_ix ix_tup (pv 1) pe_int (fun _ _ => rfl)) (pa_cons (pe_ix ix_tup (pv 1) pe_int (fun _ _ => rfl)) (pa_cons (pe_ix ix_tup (pv 1) pe_int (fun _ _ => rfl)) pa_nil))))))) pss_nil)
      (pss_cons (ps_if (pt_cmpR op_eq (pv 2) pe_str (nomark _)) (pss_one (ps_ret (pe_mt h_show hr (pv 0) (pa_cons (pv 3) (pa_cons (pe_ix ix_tup (pv 1) pe_int (fun _ _ => rfl)) (pa_cons (pe_ix ix_tup (pv 1) pe_int (fun _ _ => rfl)) (pa_cons (pe_ix ix_tup (pv 1) pe_int (fun _ _ => rfl)) pa_nil))))))) pss_nil)
      (pss_cons (ps_if (pt_cmpR op_eq (pv 2) pe_str (nomark _)) (pss_one (ps_ret (pe_mt h_tie hr (pv 0) (pa_cons (pv 3) (pa_cons (pe_ix ix_tup (pv 1) pe_int (fun _ _ => rfl)) (pa_cons (pe_ix ix_tup (pv 1) pe_int (fun _ _ => rfl)) (pa_cons (pe_ix ix_tup (pv 1) pe_int (fun _ _ => rfl)) (pa_cons (pe_ix ix_tup (pv 1) pe_int (fun _ _ => rfl)) pa_nil)))))))) pss_nil)
      (pss_cons (ps_if (pt_cmpR op_eq (pv 2) pe_str (nomark _)) (pss_one (ps_ret (pe_mt h_empty hr (pv 0) (pa_cons (pv 3) (pa_cons (pe_ix ix_tup (pv 1) pe_int (fun _ _ => rfl)) (pa_cons (pe_ix ix_tup (pv 1) pe_int (fun _ _ => rfl)) pa_nil)))))) pss_nil)
      (pss_cons (ps_if (pt_cmpR op_eq (pv 2) pe_str (nomark _)) (pss_one (ps_ret (pe_mt h_take hr (pv 0) (pa_cons (pv 3) (pa_cons (pe_ix ix_tup (pv 1) pe_int (fun _ _ => rfl)) (pa_cons (pe_ix ix_tup (pv 1) pe_int (fun _ _ => rfl)) pa_nil)))))) pss_nil)
      (pss_cons (ps_if (pt_cmpR op_eq (pv 2) pe_str (nomark _)) (pss_one (ps_ret (pe_mtK h_give hr (pv 0) (pa_cons (pv 3) (pa_cons (pe_ix ix_tup (pv 1) pe_int (fun _ _ => rfl)) pa_nil)) (pk_cons (pe_ix ix_tup (pv 1) pe_int (fun _ _ => rfl)) pk_nil)))) pss_nil)
      (pss_one (ps_ret (pe_mt h_drop hr (pv 0) (pa_cons (pv 3) (pa_cons (pe_ix ix_tup (pv 1) pe_int (fun _ _ => rfl)) pa_nil))))))))))))), ?_⟩
    have hm := hof.hand
    have hms : dd.hand ∈ s.hs := by rw [r.hs]; exact hm
    have hN := r.hn _ hm
    have hR := r.R _ hm
    have r' := r.step hof hlet
    refine ⟨_, rfl, _, _, _, _, rfl, rfl, SqT.of hd, dd.a0, _, rfl, _, _, _, _, rfl, rfl, SqT.of hd, dd.a1, _, _, rfl, ?_⟩
    cases dd with
    | mk h =>
      have hd : H d = some (.tup [.str "make", .str h]) := hd
      have hm : h ∈ o.hs := hm
      have hms : h ∈ s.hs := hms
      have hN : NameOk h := hN
      have hR : s.R h = o.R h := hR
      refine ⟨_, rfl, rfl, _, rfl, ?_⟩
      refine iteT ?_
      have l2 : (decide (o.md < 40) && decide ((o.R h).length < 30)) = true := hlet
      rw [Bool.and_eq_true] at l2
      have n40 := of_decide_eq_true l2.1
      rw [r.md, ← r.n] at n40
      have l30 := of_decide_eq_true l2.2
      rw [← hR] at l30
      refine ⟨_, rfl, _, _, _, rfl, a.den, nomt, _, rfl, dx, α, s, h, rfl, a, hms, hN, n40, l30, fun α' H' a' ed c f => ?_⟩
      exact q α' H' _ a' ed (Kp.of_chg c f)
    | put h ow k t =>
      have hd : H d = some (.tup [.str "put", .str h, vi ow, .str k, vi t]) := hd
      have hm : h ∈ o.hs := hm
      have hms : h ∈ s.hs := hms
      have hN : NameOk h := hN
      have hR : s.R h = o.R h := hR
      obtain ⟨hth, hrest⟩ := OS.let_th rfl hlet
      have hth : ow ∈ o.R h := hth
      have hon := r.lt _ hm _ hth
      have hsn := hon
      rw [← r.n] at hsn
      have kp : ∀ H', Chg (Foot α s) H H' → Kp (Foot α s) (Foot α (s.step (.put h ow k t))) H H' := fun H' c => Kp.of_chg c fun b f => .inl ((foot_eq (r'.hs.trans (Eq.trans done_hs r.hs.symm)) (r'.n.trans (Eq.trans done_n r.n.symm)) b).mp f)
      refine ⟨_, rfl, rfl, _, rfl, ?_⟩
      refine iteF ?_
      refine ⟨_, rfl, rfl, _, rfl, ?_⟩
      refine iteT ?_
      have hk := r.pn _ hof.2
      have ht : t ∈ o.R h := of_decide_eq_true hrest
      have htn := r.lt _ hm _ ht
      rw [← r.n] at htn
      rw [← hR] at ht hth
      refine ⟨_, rfl, _, _, _, rfl, a.den, nomt, _, rfl, _, rfl, _, _, _, _, rfl, rfl, SqT.of hd, rfl, _, rfl, _, _, _, _, rfl, rfl, SqT.of hd, rfl, _, rfl, _, _, _, _, rfl, rfl, SqT.of hd, rfl, dx, α, s, h, ow, k, t, rfl, a, hms, hN, hk, hth, ht, hsn, htn, r.clr hon k, r.room hon hof.2, r.len8 hon, r.rm, fun H' a' c => ?_⟩
      exact q α H' _ a' rfl (kp H' c)
    | show_ h ow k t =>
      have hd : H d = some (.tup [.str "show", .str h, vi ow, .str k, vi t]) := hd
      have hm : h ∈ o.hs := hm
      have hms : h ∈ s.hs := hms
      have hN : NameOk h := hN
      have hR : s.R h = o.R h := hR
      obtain ⟨hth, hrest⟩ := OS.let_th rfl hlet
      have hth : ow ∈ o.R h := hth
      have hon := r.lt _ hm _ hth
      have hsn := hon
      rw [← r.n] at hsn
      have kp : ∀ H', Chg (Foot α s) H H' → Kp (Foot α s) (Foot α (s.step (.show_ h ow k t))) H H' := fun H' c => Kp.of_chg c fun b f => .inl ((foot_eq (r'.hs.trans (Eq.trans done_hs r.hs.symm)) (r'.n.trans (Eq.trans done_n r.n.symm)) b).mp f)
      refine ⟨_, rfl, rfl, _, rfl, ?_⟩
      refine iteF ?_
      refine ⟨_, rfl, rfl, _, rfl, ?_⟩
      refine iteF ?_
      refine ⟨_, rfl, rfl, _, rfl, ?_⟩
      refine iteT ?_
      have hk := r.pn _ hof.2
      have ht : t ∈ o.R h := of_decide_eq_true hrest
      have htn := r.lt _ hm _ ht
      rw [← r.n] at htn
      rw [← hR] at ht hth
      refine ⟨_, rfl, _, _, _, rfl, a.den, nomt, _, rfl, _, rfl, _, _, _, _, rfl, rfl, SqT.of hd, rfl, _, rfl, _, _, _, _, rfl, rfl, SqT.of hd, rfl, _, rfl, _, _, _, _, rfl, rfl, SqT.of hd, rfl, dx, α, s, h, ow, k, t, rfl, a, hms, hN, hk, hth, ht, hsn, htn, r.clr hon k, r.room hon hof.2, r.len8 hon, r.rm, fun H' a' c => ?_⟩
      exact q α H' _ a' rfl (kp H' c)
    | tie h ow k x y =>
      have hd : H d = some (.tup [.str "tie", .str h, vi ow, .str k, vi x, vi y]) := hd
      have hm : h ∈ o.hs := hm
      have hms : h ∈ s.hs := hms
      have hN : NameOk h := hN
      have hR : s.R h = o.R h := hR
      obtain ⟨hth, hrest⟩ := OS.let_th rfl hlet
      have hth : ow ∈ o.R h := hth
      have hon := r.lt _ hm _ hth
      have hsn := hon
      rw [← r.n] at hsn
      have kp : ∀ H', Chg (Foot α s) H H' → Kp (Foot α s) (Foot α (s.step (.tie h ow k x y))) H H' := fun H' c => Kp.of_chg c fun b f => .inl ((foot_eq (r'.hs.trans (Eq.trans done_hs r.hs.symm)) (r'.n.trans (Eq.trans done_n r.n.symm)) b).mp f)
      refine ⟨_, rfl, rfl, _, rfl, ?_⟩
      refine iteF ?_
      refine ⟨_, rfl, rfl, _, rfl, ?_⟩
      refine iteF ?_
      refine ⟨_, rfl, rfl, _, rfl, ?_⟩
      refine iteF ?_
      refine ⟨_, rfl, rfl, _, rfl, ?_⟩
      refine iteT ?_
      have hk := r.pn _ hof.2
      have h2 : (decide (x ∈ o.R h) && decide (y ∈ o.R h)) = true := hrest
      rw [Bool.and_eq_true] at h2
      have hx := of_decide_eq_true h2.1
      have hy := of_decide_eq_true h2.2
      have htn := r.lt _ hm _ hy
      rw [← r.n] at htn
      rw [← hR] at hx hy hth
      refine ⟨_, rfl, _, _, _, rfl, a.den, nomt, _, rfl, _, rfl, _, _, _, _, rfl, rfl, SqT.of hd, rfl, _, rfl, _, _, _, _, rfl, rfl, SqT.of hd, rfl, _, rfl, _, _, _, _, rfl, rfl, SqT.of hd, rfl, _, rfl, _, _, _, _, rfl, rfl, SqT.of hd, rfl, dx, α, s, h, ow, k, x, y, rfl, a, hms, hN, hk, hth, hx, hy, hsn, htn, r.clr hon k, r.room hon hof.2, r.len8 hon, r.rm, fun H' a' c => ?_⟩
      exact q α H' _ a' rfl (kp H' c)
    | empty h ow k =>
      have hd : H d = some (.tup [.str "empty", .str h, vi ow, .str k]) := hd
      have hm : h ∈ o.hs := hm
      have hms : h ∈ s.hs := hms
      have hN : NameOk h := hN
      have hR : s.R h = o.R h := hR
      obtain ⟨hth, hrest⟩ := OS.let_th rfl hlet
      have hth : ow ∈ o.R h := hth
      have hon := r.lt _ hm _ hth
      have hsn := hon
      rw [← r.n] at hsn
      have kp : ∀ H', Chg (Foot α s) H H' → Kp (Foot α s) (Foot α (s.step (.empty h ow k))) H H' := fun H' c => Kp.of_chg c fun b f => .inl ((foot_eq (r'.hs.trans (Eq.trans done_hs r.hs.symm)) (r'.n.trans (Eq.trans done_n r.n.symm)) b).mp f)
      refine ⟨_, rfl, rfl, _, rfl, ?_⟩
      refine iteF ?_
      refine ⟨_, rfl, rfl, _, rfl, ?_⟩
      refine iteF ?_
      refine ⟨_, rfl, rfl, _, rfl, ?_⟩
      refine iteF ?_
      refine ⟨_, rfl, rfl, _, rfl, ?_⟩
      refine iteF ?_
      refine ⟨_, rfl, rfl, _, rfl, ?_⟩
      refine iteT ?_
      have hk := r.pn _ hof.2
      have hne : look (s.S ow) k ≠ none := fun z => by
        have z2 : (look (o.S ow) k).isSome = true := hrest
        rw [← r.S ow hon, z] at z2
        cases z2
      rw [← hR] at hth
      refine ⟨_, rfl, _, _, _, rfl, a.den, nomt, _, rfl, _, rfl, _, _, _, _, rfl, rfl, SqT.of hd, rfl, _, rfl, _, _, _, _, rfl, rfl, SqT.of hd, rfl, dx, α, s, h, ow, k, rfl, a, hms, hN, hk, hth, hsn, r.clr hon k, hne, fun H' a' c => ?_⟩
      exact q α H' _ a' rfl (kp H' c)
    | take h ow k =>
      have hd : H d = some (.tup [.str "take", .str h, vi ow, .str k]) := hd
      have hm : h ∈ o.hs := hm
      have hms : h ∈ s.hs := hms
      have hN : NameOk h := hN
      have hR : s.R h = o.R h := hR
      obtain ⟨hth, hrest⟩ := OS.let_th rfl hlet
      have hth : ow ∈ o.R h := hth
      have hon := r.lt _ hm _ hth
      have hsn := hon
      rw [← r.n] at hsn
      have kp : ∀ H', Chg (Foot α s) H H' → Kp (Foot α s) (Foot α (s.step (.take h ow k))) H H' := fun H' c => Kp.of_chg c fun b f => .inl ((foot_eq (r'.hs.trans (Eq.trans done_hs r.hs.symm)) (r'.n.trans (Eq.trans done_n r.n.symm)) b).mp f)
      refine ⟨_, rfl, rfl, _, rfl, ?_⟩
      refine iteF ?_
      refine ⟨_, rfl, rfl, _, rfl, ?_⟩
      refine iteF ?_
      refine ⟨_, rfl, rfl, _, rfl, ?_⟩
      refine iteF ?_
      refine ⟨_, rfl, rfl, _, rfl, ?_⟩
      refine iteF ?_
      refine ⟨_, rfl, rfl, _, rfl, ?_⟩
      refine iteF ?_
      refine ⟨_, rfl, rfl, _, rfl, ?_⟩
      refine iteT ?_
      have hk := r.pn _ hof.2
      have h2 : (match look (o.S ow) k with | none => false | some sl => decide ((o.R h).length < 30) && sl.keyOk (o.R h)) = true := hrest
      have es := r.S ow hon k
      have est : s.step (.take h ow k) = match look (s.S ow) k with | none => s | some sl => s.have_ h sl.last := rfl
      cases e : look (o.S ow) k with
      | none =>
        rw [e] at h2
        cases h2
      | some sl =>
        rw [e] at h2 es
        rw [es] at est
        have h2 : (decide ((o.R h).length < 30) && sl.keyOk (o.R h)) = true := h2
        rw [Bool.and_eq_true] at h2
        have l30 := of_decide_eq_true h2.1
        have hky : ∀ y t, sl = .ky y t → y ∈ s.R h := fun y t z => by
          have h3 := h2.2
          rw [z] at h3
          rw [hR]
          exact of_decide_eq_true h3
        have hl := ((r.oS ow hon).ok _ (look_mem e)).last
        rw [← r.n] at hl
        rw [← hR] at hth l30
        refine ⟨_, rfl, _, _, _, rfl, a.den, nomt, _, rfl, _, rfl, _, _, _, _, rfl, rfl, SqT.of hd, rfl, _, rfl, _, _, _, _, rfl, rfl, SqT.of hd, rfl, dx, α, s, h, ow, k, sl, rfl, a, hms, hN, hk, hth, hsn, es, hky, hl, l30, r.rm, fun H' a' c => ?_⟩
        exact q α H' _ (by rw [est]; exact a') rfl (kp H' c)
    | give h x g =>
      have hd : H d = some (.tup [.str "give", .str h, vi x, .str g]) := hd
      have hm : h ∈ o.hs := hm
      have hms : h ∈ s.hs := hms
      have hN : NameOk h := hN
      have hR : s.R h = o.R h := hR
      obtain ⟨hth, hrest⟩ := OS.let_th rfl hlet
      have hth : x ∈ o.R h := hth
      have hon := r.lt _ hm _ hth
      have hsn := hon
      rw [← r.n] at hsn
      have kp : ∀ H', Chg (Foot α s) H H' → Kp (Foot α s) (Foot α (s.step (.give h x g))) H H' := fun H' c => Kp.of_chg c fun b f => .inl ((foot_eq (r'.hs.trans (Eq.trans done_hs r.hs.symm)) (r'.n.trans (Eq.trans done_n r.n.symm)) b).mp f)
      refine ⟨_, rfl, rfl, _, rfl, ?_⟩
      refine iteF ?_
      refine ⟨_, rfl, rfl, _, rfl, ?_⟩
      refine iteF ?_
      refine ⟨_, rfl, rfl, _, rfl, ?_⟩
      refine iteF ?_
      refine ⟨_, rfl, rfl, _, rfl, ?_⟩
      refine iteF ?_
      refine ⟨_, rfl, rfl, _, rfl, ?_⟩
      refine iteF ?_
      refine ⟨_, rfl, rfl, _, rfl, ?_⟩
      refine iteF ?_
      refine ⟨_, rfl, rfl, _, rfl, ?_⟩
      refine iteT ?_
      have hg : g ∈ o.hs := hof.2
      have h2 : (decide (g = h) || decide ((o.R g).length < 30)) = true := hrest
      have hgl : g ≠ h → (s.R g).length < 30 := fun ne => by
        rw [decide_eq_false ne, Bool.false_or] at h2
        rw [r.R g hg]
        exact of_decide_eq_true h2
      have hnil := r.nil_mem hm hth
      have hl : ∀ y ∈ s.hs, (s.R y).length ≤ 1000 := fun y hy => by
        rw [r.hs] at hy
        rw [r.R y hy]
        exact Nat.le_trans (r.len y hy) (by decide)
      rw [← hR] at hth
      refine ⟨_, rfl, _, _, _, rfl, a.den, nomt, _, rfl, _, rfl, _, _, _, _, rfl, rfl, SqT.of hd, rfl, _, rfl, _, _, _, _, rfl, rfl, SqT.of hd, rfl, rfl, rfl, dx, α, s, h, x, g, rfl, a, hms, hN, by rw [r.hs]; exact hg, r.hn _ hg, hsn, hth, hgl, hl, hnil, r.rm, fun H' a' c => ?_⟩
      exact q α H' _ a' rfl (kp H' c)
    | drop h x =>
      have hd : H d = some (.tup [.str "drop", .str h, vi x]) := hd
      have hm : h ∈ o.hs := hm
      have hms : h ∈ s.hs := hms
      have hN : NameOk h := hN
      have hR : s.R h = o.R h := hR
      obtain ⟨hth, hrest⟩ := OS.let_th rfl hlet
      have hth : x ∈ o.R h := hth
      have hon := r.lt _ hm _ hth
      have hsn := hon
      rw [← r.n] at hsn
      have kp : ∀ H', Chg (Foot α s) H H' → Kp (Foot α s) (Foot α (s.step (.drop h x))) H H' := fun H' c => Kp.of_chg c fun b f => .inl ((foot_eq (r'.hs.trans (Eq.trans done_hs r.hs.symm)) (r'.n.trans (Eq.trans done_n r.n.symm)) b).mp f)
      refine ⟨_, rfl, rfl, _, rfl, ?_⟩
      refine iteF ?_
      refine ⟨_, rfl, rfl, _, rfl, ?_⟩
      refine iteF ?_
      refine ⟨_, rfl, rfl, _, rfl, ?_⟩
      refine iteF ?_
      refine ⟨_, rfl, rfl, _, rfl, ?_⟩
      refine iteF ?_
      refine ⟨_, rfl, rfl, _, rfl, ?_⟩
      refine iteF ?_
      refine ⟨_, rfl, rfl, _, rfl, ?_⟩
      refine iteF ?_
      refine ⟨_, rfl, rfl, _, rfl, ?_⟩
      refine iteF ?_
      have hnil := r.nil_mem hm hth
      have hl : (s.R h).length ≤ 1000 := by
        rw [hR]
        exact Nat.le_trans (r.len h hm) (by decide)
      rw [← hR] at hth
      refine ⟨_, rfl, _, _, _, rfl, a.den, nomt, _, rfl, _, rfl, _, _, _, _, rfl, rfl, SqT.of hd, rfl, dx, α, s, h, x, rfl, a, hms, hN, hsn, hth, hl, hnil, fun H' a' c => ?_⟩
      exact q α H' _ a' rfl (kp H' c)
end
end Df
/-! Deeds, all done: to the store and to the law's own state. -/
namespace Df
open PySem PySem.Spec PyProof.Rows L2
/-- a store and the law's own state, apart from each other -/
structure Bo (C dx : Addr) (α : SV) (s : PS) (β : OV) (o : OS) (H : Hp) : Prop where
  a : SA C dx α s H
  b : OA β o H
  d : ∀ c, Foot α s c → ¬ OFoot β o c
  r : Rel s o
def BF (α : SV) (s : PS) (β : OV) (o : OS) (c : Addr) : Prop := Foot α s c ∨ OFoot β o c
section
variable {C dx : Addr} {α α' : SV} {s s' : PS} {β β' : OV} {o o' : OS} {H H1 H2 : Hp}
theorem SA.foot_some (A : SA C dx α s H) {a : Addr} (f : Foot α s a) : H a ≠ none := fun z => by
  obtain ⟨r, l, e⟩ := f
  obtain ⟨u, h1, _⟩ := A.at_ r l
  rw [e, z] at h1
  cases h1
theorem OA.f_some (A : OA β o H) {a : Addr} (f : OFoot β o a) : ∃ u, H a = some u := by
  obtain ⟨r, l, e⟩ := f
  obtain ⟨u, h1, _⟩ := A.at_ r l
  exact ⟨u, by rw [← e]; exact h1⟩
theorem SA.f_some (A : SA C dx α s H) {a : Addr} (f : Foot α s a) : ∃ u, H a = some u := by
  obtain ⟨r, l, e⟩ := f
  obtain ⟨u, h1, _⟩ := A.at_ r l
  exact ⟨u, by rw [← e]; exact h1⟩
theorem Bo.same (B : Bo C dx α s β o H) (e : Same H H1) : Bo C dx α s β o H1 := ⟨B.a.same e, B.b.same e, B.d, B.r⟩
theorem Bo.no_tup (B : Bo C dx α s β o H) {a : Addr} {xs : List V} (h : H a = some (.tup xs)) : ¬ BF α s β o a := fun f => f.elim (B.a.tup_keep h) (B.b.tup_keep h)
theorem Bo.keep (B : Bo C dx α s β o H) {F : Addr → Prop} (c : Chg F H H1) (d : ∀ b, F b → ¬ BF α s β o b) (dt : ∀ b xs, F b → H b ≠ some (.tup xs)) : Bo C dx α s β o H1 :=
  ⟨B.a.keep c (fun b f z => d b f (.inl z)) dt, B.b.keep c (fun b f z => d b f (.inr z)) dt, B.d, B.r⟩
/-- the store's deed, then the law's own -/
theorem Bo.own_keep (B : Bo C dx α s β o H) (k : Kp (Foot α s) (Foot α' s') H H1) : OA β o H1 := B.b.keep k.chg (fun b f => B.d b f) fun b xs f z => B.a.tup_keep z f
theorem Bo.step (B : Bo C dx α s β o H) (a1 : SA C dx α' s' H1) (k1 : Kp (Foot α s) (Foot α' s') H H1) (b2 : OA β' o' H2) (k2 : Kp (OFoot β o) (OFoot β' o') H1 H2) (r : Rel s' o') :
    Bo C dx α' s' β' o' H2 ∧ Kp (BF α s β o) (BF α' s' β' o') H H2 := by
  have d1 : ∀ c, OFoot β o c → ¬ Foot α' s' c := fun c f z => by
    obtain ⟨u, hu⟩ := B.b.f_some f
    exact (k1 c u hu fun q => B.d c q f).2 z
  have bm := B.own_keep k1
  refine ⟨⟨a1.keep k2.chg d1 (fun b xs f z => bm.tup_keep z f), b2, fun c f z => ?_, r⟩, fun c u hu n => ?_⟩
  · obtain ⟨u, hu⟩ := a1.f_some f
    exact (k2 c u hu fun q => d1 c q f).2 z
  · obtain ⟨h1, h2⟩ := k1 c u hu fun f => n (.inl f)
    obtain ⟨h3, h4⟩ := k2 c u h1 fun f => n (.inr f)
    exact ⟨h3, fun f => f.elim h2 h4⟩
end
section
variable {P : Program} {w : World} {K : PySem.W.Frag} {mg : Str → Option Value} {base : Heap}
/-- deeds in a list -/
def Dds (H : Hp) (hs pool : List Str) (ds : List (Addr × Deed)) : Prop := ∀ e ∈ ds, H e.1 = some (.tup e.2.v) ∧ e.2.of hs pool
abbrev N_L_all_done : List Str := ["_law_den", "_law_own", "_law_deeds", "_law_deed_here"]
theorem sc_L_all_done : FnScope N_L_all_done ["_law_den", "_law_own", "_law_deeds"] (defScope s_L_all_done) := ⟨rfl, rfl, rfl, by decide +kernel, rfl, by decide +kernel, by decide +kernel⟩
def spAllDone (K : PySem.W.Frag) : Sp := fun vs H Q _ => ∃ (dx : Addr) (α : SV) (s : PS) (β : OV) (o : OS) (l : Addr) (ds : List (Addr × Deed)), vs = [.ref (α .den), .ref (β .own), .ref l] ∧ Bo (stC K) dx α s β o H ∧ H l = some (.lst (ds.map fun e => V.ref e.1)) ∧ Dds H o.hs o.pool ds ∧ ¬ BF α s β o l ∧
  ∀ (α' : SV) (s' : PS) (β' : OV) (o' : OS) H', Bo (stC K) dx α' s' β' o' H' → α' .den = α .den → β' .own = β .own → o'.hs = o.hs → o'.pool = o.pool → Kp (BF α s β o) (BF α' s' β' o') H H' → Q .non H'
theorem ok_L_all_done (T : Tx K mg) (h_L_is_let : Cl P w K mg base "_law_is_let" 2 ["_law_own", "_law_deed_here"] spIsLet) (h_L_store_done : Cl P w K mg base "_law_store_done" 6 ["_law_den", "_law_deed_here"] (spStoreDone K)) (h_L_own_done : Cl P w K mg base "_law_own_done" 2 ["_law_own", "_law_deed_here"] spOwnDone) :
    Cl P w K mg base "_law_all_done" 7 ["_law_den", "_law_own", "_law_deeds"] (spAllDone K) := by
  refine Cl.of T.f_L_all_done T.gl_L_all_done sc_L_all_done (fun _ _ _ _ _ _ us hl => match us, hl with | [_, _, _], _ => rfl) (fun vs H Q E h => ?_) (fun cdv A outer s H vs Q E hr h => ?_)
  · obtain ⟨dx, α, s, β, o, l, ds, rfl, _⟩ := h
    rfl
  · obtain ⟨dx, α, s, β, o, l, ds, rfl, B, hl, hds, nl, q⟩ := h
    refine ⟨_, (pss_one (ps_for PassesOwn.never rfl (pi_list (pv 2)) (pg_name (i := 3) sc_L_all_done.nd rfl (Or.inl rfl)) (pss_one (ps_if (pt_val (pe_cl h_L_is_let hr (pa_cons (pv 1) (pa_cons (pv 3) pa_nil)))) (pss_cons (ps_expr (pe_cl h_L_store_done hr (pa_cons (pv 0) (pa_cons (pv 3) pa_nil))))
      (pss_one (ps_expr (pe_cl h_L_own_done hr (pa_cons (pv 1) (pa_cons (pv 3) pa_nil)))))) pss_nil)))), ?_⟩
    refine ⟨_, rfl, l, rfl, ⟨_, SqL.of hl⟩, ?_⟩
    refine for_it (walk_list (xs := ds.map fun e => V.ref e.1)) (fun i σ H' => ∃ (α' : SV) (s' : PS) (β' : OV) (o' : OS) (x3 : Option V), σ = [some (.ref (α .den)), some (.ref (β .own)), some (.ref l), x3] ∧ Bo (stC K) dx α' s' β' o' H' ∧ α' .den = α .den ∧ β' .own = β .own ∧ o'.hs = o.hs ∧ o'.pool = o.pool ∧ Kp (BF α s β o) (BF α' s' β' o') H H')
      ⟨α, s, β, o, none, rfl, B, rfl, rfl, rfl, rfl, Kp.refl⟩ (fun i σ H' _ h => ?_) (fun i x σ H' H'' hi hp y => ?_) (fun σ H' hp => ?_)
    · obtain ⟨_, _, _, _, _, _, _, _, _, _, _, k⟩ := h
      exact SqL.of (k _ _ hl nl).1
    · obtain ⟨α1, s1, β1, o1, x3, rfl, B1, e1, e2, e3, e4, k1⟩ := hp
      obtain ⟨rfl, hx⟩ := y
      have hi' : i < ds.length := by rw [List.length_map] at hi; exact hi
      obtain ⟨e, he⟩ : ∃ e, ds[i]? = some e := ⟨_, List.getElem?_eq_getElem hi'⟩
      have ex : x = .ref e.1 := by
        rw [List.getElem?_map, he] at hx
        exact (Option.some.inj hx).symm
      subst ex
      obtain ⟨hT, hof⟩ := hds e (List.mem_of_getElem? he)
      have hT1 := (k1 _ _ hT (B.no_tup hT)).1
      rw [← e3, ← e4] at hof
      have ok := B1.r.ook
      refine ⟨_, rfl, _, rfl, β1, o1, e.1, e.2, by rw [e2]; rfl, B1.b, hT1, hof, ok.lt, ok.len, fun H2 s2 => ⟨_, rfl, ?_⟩⟩
      cases hlet : o1.isLet e.2 with
      | false =>
        refine iteF ?_
        exact ⟨α1, s1, β1, o1, _, rfl, B1.same s2, e1, e2, e3, e4, k1.trans (Kp.of_same s2)⟩
      | true =>
        refine iteT ?_
        have B2 := B1.same s2
        have hT2 := s2 _ _ hT1
        refine ⟨_, rfl, _, rfl, dx, α1, s1, o1, e.1, e.2, by rw [e1]; rfl, B2.a, hT2, B2.r, hof, hlet, fun α2 H3 v a3 ed k3 => ?_⟩
        have b3 := B2.own_keep k3
        have hT3 := (k3 _ _ hT2 (B2.a.tup_keep hT2)).1
        refine ⟨_, rfl, _, rfl, β1, o1, e.1, e.2, by rw [e2]; rfl, b3, hT3, hof, ok, hlet, fun β2 H4 b4 k4 eo => ?_⟩
        obtain ⟨B4, k5⟩ := B2.step a3 k3 b4 k4 (B2.r.step hof hlet)
        exact ⟨α2, _, β2, _, _, rfl, B4, ed.trans e1, eo.trans e2, done_hs.trans e3, done_pool.trans e4, (k1.trans (Kp.of_same s2)).trans k5⟩
    · obtain ⟨α1, s1, β1, o1, x3, rfl, B1, e1, e2, e3, e4, k1⟩ := hp
      exact q α1 s1 β1 o1 H' B1 e1 e2 e3 e4 k1
end
end Df
/-! Which deeds are drawn. -/
namespace Df
open PySem PySem.Spec PyProof.Rows L2
/-! ints in a list, as data -/
def dL (l : List Nat) : PyData := .list (l.map fun (t : Nat) => .int (t : Int))
theorem dL_lay (l : List Nat) : (dL l).canLay0 = true := by simp [dL, PyData.canLay0, lay_ints]
theorem dL_depth (l : List Nat) : (dL l).depth = 1 := by simp [dL, PyData.depth, depth_ints]
theorem dL_shaped (l : List Nat) : SeqAt.shaped (dL l) = true := by
  show (PyData.canLay0 (dL l) && decide (PyData.depth (dL l) ≤ 64)) = true
  rw [dL_lay, dL_depth]
  rfl
theorem eqv_dL (a b : List Nat) : PyData.eqv (dL a) (dL b) = decide (a = b) := by
  simp only [dL, PyData.eqv]
  exact eqv_ints a b
theorem dp_list {K : PySem.W.Frag} {H : Hp} {a : Addr} {l : List Nat} (e : H a = some (.lst (l.map vi))) : Dp K H (.ref a) (dL l) := .lst (SqL.of e) (dp_ints l)
theorem tup_upd {H : Hp} {a l : Addr} {xs : List V} {o : HO} (h : H a = some (.tup xs)) (n : H l = none ∨ ∃ ys, H l = some (.lst ys)) : upd H l o a = some (.tup xs) := by
  rw [upd_ne fun z => ?_]
  · exact h
  · rw [← z, h] at n
    rcases n with n | ⟨ys, n⟩ <;> cases n
theorem OA.pot {β : OV} {o : OS} {H H' : Hp} {p : Addr} (A : OA β o H) (c : Cp p H H') (hp : Pot p H) (n : ¬ OFoot β o p) : OA β o H' := A.keep c (fun b f => by rw [f]; exact n) fun b xs f z => by
  obtain ⟨x, y, e, _⟩ := hp
  rw [f, e] at z
  cases z
theorem Cp.tup {H H' : Hp} {p a : Addr} {xs : List V} (c : Cp p H H') (hp : Pot p H) (h : H a = some (.tup xs)) : H' a = some (.tup xs) := c _ _ h fun z => by
  obtain ⟨x, y, e, _⟩ := hp
  rw [z, e] at h
  cases h
theorem pot_new {p : Addr} {H0 H : Hp} (hp : Pot p H) (c : Cp p H0 H) {a : Addr} (n : H a = none) (o : HO) : Pot p (upd H a o) ∧ Cp p H0 (upd H a o) := ⟨hp.upd (hp.ne n), c.upd (.inr (Cp.free c hp n))⟩
section
variable {P : Program} {w : World} {K : PySem.W.Frag} {mg : Str → Option Value} {base : Heap}
abbrev N_L_deed : List Str := ["_law_pot_here", "_law_own", "_law_hand", "_law_way", "_law_row", "_law_owner", "_law_one", "_law_other", "_law_slot", "_law_some", "_law_k"]
theorem sc_L_deed : FnScope N_L_deed ["_law_pot_here", "_law_own"] (defScope s_L_deed) := ⟨rfl, rfl, rfl, by decide +kernel, rfl, by decide +kernel, by decide +kernel⟩
def spDeed : Sp := fun vs H Q _ => ∃ (p : Addr) (β : OV) (s : PS) (o : OS), vs = [.ref p, .ref (β .own)] ∧ Pot p H ∧ OA β o H ∧ ¬ OFoot β o p ∧ Rel s o ∧ ∀ (a : Addr) (dd : Deed) H', Pot p H' → Cp p H H' → H' a = some (.tup dd.v) → dd.of o.hs o.pool → Q (.ref a) H'
theorem three {ts : List Nat} (h : ts.length = 3) : ∃ a b c, ts = [a, b, c] := match ts, h with
  | [a, b, c], _ => ⟨a, b, c, rfl⟩
theorem ok_L_deed (T : Tx K mg) (h_L_take : Cl P w K mg base "_law_take" 1 ["_law_pot_here", "_law_many"] spLTake) (h_L_among : Cl P w K mg base "_law_among" 2 ["_law_pot_here", "_law_some"] spAmong) : Cl P w K mg base "_law_deed" 3 ["_law_pot_here", "_law_own"] spDeed := by
  refine Cl.of T.f_L_deed T.gl_L_deed sc_L_deed (fun _ _ _ _ _ _ us hl => match us, hl with | [_, _], _ => rfl) (fun vs H Q E h => ?_) (fun cdv A outer s H vs Q E hr h => ?_)
  · obtain ⟨p, β, s, o, rfl, _⟩ := h
    rfl
  · obtain ⟨p, β, s, o, rfl, hp, b, np, r, q⟩ := h
    have hu := hu_of hr
    refine ⟨_, (pss_cons (ps_par (i := 2) (j := 3) (by rfl) sc_L_deed.nd rfl rfl (by decide) rfl rfl (pa_cons (pe_cl h_L_among hr (pa_cons (pv 0) (pa_cons (pe_dget hu (pv 1) pe_str (fun _ _ => rfl)) pa_nil))) (pa_cons (pe_cl h_L_take hr (pa_cons (pv 0) (pa_cons pe_int pa_nil))) pa_nil)) (by rfl))
      (pss_cons (ps_set (i := 4) sc_L_deed.nd rfl (Or.inr rfl) (pe_dget hu (pe_dget hu (pv 1) pe_str (fun _ _ => rfl)) (pv 2) (fun _ _ => rfl)))
      (pss_cons (ps_if (PW.pt (pw_or (pt_cmpR (op_eqD hr.units) (pv 4) (pe_lst pa_nil) (nomark _)) (pw_or1 (pt_cmpR op_lt (pv 3) pe_int (nomark _))))) (pss_one (ps_ret (pe_tup (pa_cons pe_str (pa_cons (pv 2) pa_nil))))) pss_nil)
      (pss_cons (ps_asg (pe_lc (own := [("_law_k", 10)]) rfl sc_L_deed.nd (pi_range1 rfl T.b_range (pa_cons pe_int pa_nil)) (blkOk_by (own := [("_law_k", 10)]) (N := N_L_deed) (sc := defScope s_L_deed) (by decide +kernel)) (fun _ _ _ _ _ => pg_name (i := 10) sc_L_deed.nd rfl (Or.inl rfl)) (fun _ _ _ _ _ => pts_nil) (fun _ _ _ _ _ => pe_cl h_L_among hr (pa_cons (pv 0) (pa_cons (pv 4) pa_nil)))) (pg_unl (by rfl) (pgs_cons (pg_name (i := 5) sc_L_deed.nd rfl (Or.inl rfl)) (pgs_cons (pg_name (i := 6) sc_L_deed.nd rfl (Or.inl rfl)) (pgs_cons (pg_name (i := 7) sc_L_deed.nd rfl (Or.inl rfl)) pgs_nil)))))
      (pss_cons (ps_set (i := 8) sc_L_deed.nd rfl (Or.inl rfl) (pe_cl h_L_among hr (pa_cons (pv 0) (pa_cons (pe_dget hu (pv 1) pe_str (fun _ _ => rfl)) pa_nil))))
      (pss_cons (ps_if (pt_cmpR op_lt (pv 3) pe_int (nomark _)) (pss_one (ps_ret (pe_tup (pa_cons pe_str (pa_cons (pv 2) (pa_cons (pv 5) (pa_cons (pv 8) (pa_cons (pv 6) pa_nil)))))))) pss_nil)
      (pss_cons (ps_if (pt_cmpR op_lt (pv 3) pe_int (nomark _)) (pss_one (ps_ret (pe_tup (pa_cons pe_str (pa_cons (pv 2) (pa_cons (pv 5) (pa_cons (pv 8) (pa_cons (pv 6) (pa_cons (pv 7) pa_nil))))))))) pss_nil)
      (pss_cons (ps_set (i := 9) sc_L_deed.nd rfl (Or.inl rfl) (pe_lst (pa_cons (pe_tup (pa_cons pe_str (pa_cons (pv 2) (pa_cons (pv 5) (pa_cons (pv 8) (pa_cons (pv 6) pa_nil)))))) (pa_cons (pe_tup (pa_cons pe_str (pa_cons (pv 2) (pa_cons (pv 5) (pa_cons (pv 8) pa_nil))))) (pa_cons (pe_tup (pa_cons pe_str (pa_cons (pv 2) (pa_cons (pv 5) (pa_cons (pv 8) pa_nil))))) pa_nil)))))
      (pss_cons (ps_expr (pe_bm PySem.F.plainAttrs_list PySem.F.slot_list_append PySem.F.type_list_append mt_append (pv 9) (pa_cons (pe_tup (pa_cons pe_str (pa_cons (pv 2) (pa_cons (pv 6) (pa_cons (pe_cl h_L_among hr (pa_cons (pv 0) (pa_cons (pe_dget hu (pv 1) pe_str (fun _ _ => rfl)) pa_nil))) pa_nil))))) pa_nil)))
      (pss_one (ps_ret (pe_ix ix_list (pe_op op_cat (pv 9) (pe_op op_rep (pe_lst (pa_cons (pe_tup (pa_cons pe_str (pa_cons (pv 2) (pa_cons (pv 6) pa_nil)))) pa_nil)) pe_int)) (pe_op op_sub (pv 3) pe_int) (fun _ _ => rfl))))))))))))), ?_⟩
    have nf : ∀ {x : Addr}, OFoot β o x → x ≠ p := fun f z => np (z ▸ f)
    have h1 := r.h1
    have h6 := r.h6
    have p1 := r.p1
    have p8 := r.p8
    refine ⟨_, rfl, _, rfl, _, _, rfl, b.g_hands, p, _, _, rfl, hp, b.hands, nf ⟨.hands, trivial, rfl⟩, by rw [List.length_map]; omega, by rw [List.length_map]; omega, fun j x H1 hx hp1 c1 => ?_⟩
    obtain ⟨h, hh, rfl⟩ : ∃ h, h ∈ o.hs ∧ x = .str h := by
      rw [List.getElem?_map] at hx
      obtain ⟨h, g1, g2⟩ := Option.map_eq_some_iff.mp hx
      exact ⟨h, List.mem_of_getElem? g1, g2.symm⟩
    have b1 := b.pot c1 hp np
    refine ⟨_, rfl, p, 16, rfl, hp1, by decide, by decide, fun wy H2 hwy hp2 c2 => ?_⟩
    have b2 := b1.pot c2 hp1 np
    have c12 := c1.trans c2
    refine ⟨_, _, rfl, ?_⟩
    refine ⟨_, rfl, _, _, rfl, b2.g_rows, _, rfl, _, _, rfl, dget_row b2.rows hh, ?_⟩
    have hR := b2.row hh
    have nrp := nf ⟨.row h, hh, rfl⟩
    refine ⟨_, rfl, Nat.zero_le _, fun e0 ne0 => ?_⟩
    have s3 := same_upd (o := .lst []) ne0
    have hp3 := hp2.same s3
    have b3 := b2.same s3
    have c3 := c12.same s3
    have hR3 := s3 _ _ hR
    refine ⟨dL (o.R h), dL [], dp_list hR3, dp_list upd_same, dL_shaped _, dL_shaped _, _, rfl, ?_⟩
    rw [eqv_dL]
    have mkc : ∀ (a : Addr), upd H2 e0 (.lst []) a = none → Q (.ref a) (upd (upd H2 e0 (.lst [])) a (.tup [.str "make", .str h])) := fun a na => q a (.mk h) _ (hp3.upd (hp3.ne na)) (c3.upd (.inr (Cp.free c3 hp3 na))) upd_same hh
    by_cases em : o.R h = []
    · rw [decide_eq_true em]
      refine iteT ?_
      refine iteT ?_
      exact ⟨_, rfl, by show 2 ≤ sizeLine; decide, fun a na => mkc a na⟩
    rw [decide_eq_false em]
    refine iteF ?_
    refine ⟨_, rfl, _, _, rfl, rfl, _, rfl, ?_⟩
    refine ite2 (fun e => ?_) (fun e => ?_)
    · exact ⟨_, rfl, by show 2 ≤ sizeLine; decide, fun a na => mkc a na⟩
    clear mkc
    have hl0 : 0 < (o.R h).length := List.length_pos_iff.mpr em
    have hl1 := r.len h hh
    refine ⟨_, rfl, by decide, by decide, fun D nD => ?_⟩
    have nD0 := Cp.free c3 hp3 nD
    have nDp := (hp3.ne nD).symm
    refine lc_cps0 (walk_range (lo := 0)) (by rw [sizeLine_eq]; decide) (fun i l H' => Pot p H' ∧ Cp p H H' ∧ OA β o H' ∧ ∃ ts : List Nat, ts.length = i ∧ (∀ t ∈ ts, t ∈ o.R h) ∧ l = ts.map vi) ⟨hp3.upd nDp.symm, c3.upd (.inr nD0), b3.same (same_upd nD), [], rfl, (fun _ z => absurd z List.not_mem_nil), rfl⟩ (fun i l H' x hD h => ⟨h.1.upd nDp.symm, h.2.1.upd (.inr nD0), h.2.2.1.keep (F := fun c => c = D) (Cp.refl.upd (.inl rfl)) (fun b f => by rw [f]; exact b3.foot_some nD) (fun b xs f z => by rw [f, hD] at z; cases z), h.2.2.2⟩) (fun _ _ _ _ _ => trivial) (fun i l x H' H'' hi hI hD y Kk hK => ?_) (fun l H' hl' hI hD => ?_)
    · obtain ⟨p4, c4, b4, ts, e1, e2, rfl⟩ := hI
      obtain ⟨rfl, _⟩ := y
      refine ⟨rfl, _, rfl, _, rfl, p, _, _, rfl, p4, b4.row hh, nrp, by rw [List.length_map]; exact hl0, by rw [List.length_map]; omega, fun j x H5 hx p5 c5 => ?_⟩
      obtain ⟨t, ht, rfl⟩ : ∃ t, t ∈ o.R h ∧ x = vi t := by
        rw [List.getElem?_map] at hx
        obtain ⟨t, g1, g2⟩ := Option.map_eq_some_iff.mp hx
        exact ⟨t, List.mem_of_getElem? g1, g2.symm⟩
      refine hK _ _ (c5 _ _ hD nDp) ⟨p5, c4.trans c5, b4.pot c5 p4 np, ts ++ [t], by rw [List.length_append, e1]; rfl, fun x hx => ?_, by rw [List.map_append]; rfl⟩
      rcases List.mem_append.mp hx with z | z
      · exact e2 x z
      · rw [List.mem_singleton.mp z]
        exact ht
    obtain ⟨p4, c4, b4, ts, e1, e2, rfl⟩ := hI
    obtain ⟨ow, one, oth, rfl⟩ := three (ts := ts) e1
    refine ⟨D, _, rfl, SqL.of hD, rfl, _, _, rfl, _, _, rfl, _, _, rfl, rfl, ?_⟩
    refine ⟨_, rfl, _, rfl, _, _, rfl, b4.g_pool, p, _, _, rfl, p4, b4.pool, nf ⟨.pool, trivial, rfl⟩, by rw [List.length_map]; omega, by rw [List.length_map]; omega, fun j x H5 hx p5 c5 => ?_⟩
    obtain ⟨k, hk, rfl⟩ : ∃ h, h ∈ o.pool ∧ x = .str h := by
      rw [List.getElem?_map] at hx
      obtain ⟨h, g1, g2⟩ := Option.map_eq_some_iff.mp hx
      exact ⟨h, List.mem_of_getElem? g1, g2.symm⟩
    have b5 := b4.pot c5 p4 np
    have c5' := c4.trans c5
    refine ⟨_, rfl, _, _, rfl, rfl, _, rfl, ?_⟩
    refine ite2 (fun e6 => ?_) (fun e6 => ?_)
    · refine ⟨_, rfl, _, rfl, _, rfl, _, rfl, by show 5 ≤ sizeLine; decide, fun a na => ?_⟩
      exact q a (.put h ow k one) _ (p5.upd (p5.ne na)) (c5'.upd (.inr (Cp.free c5' p5 na))) upd_same ⟨hh, hk⟩
    refine ⟨_, rfl, _, _, rfl, rfl, _, rfl, ?_⟩
    refine ite2 (fun e8 => ?_) (fun e8 => ?_)
    · refine ⟨_, rfl, _, rfl, _, rfl, _, rfl, _, rfl, by show 6 ≤ sizeLine; decide, fun a na => ?_⟩
      exact q a (.tie h ow k one oth) _ (p5.upd (p5.ne na)) (c5'.upd (.inr (Cp.free c5' p5 na))) upd_same ⟨hh, hk⟩
    have l8 : 8 ≤ wy := by
      have z : ¬ ((wy : Int) < 8) := fun z => e8 (decide_eq_true z)
      omega
    refine ⟨_, rfl, _, rfl, _, rfl, _, rfl, by show 5 ≤ sizeLine; decide, fun a1 n1 => ?_⟩
    refine ⟨_, rfl, _, rfl, _, rfl, by show 4 ≤ sizeLine; decide, fun a2 n2 => ?_⟩
    refine ⟨_, rfl, _, rfl, _, rfl, by show 4 ≤ sizeLine; decide, fun a3 n3 => ?_⟩
    refine ⟨by show 3 ≤ sizeLine; decide, fun l nl => ?_⟩
    have v1 : Deed.v (.show_ h ow k one) = [.str "show", .str h, vi ow, .str k, vi one] := rfl
    have v2 : Deed.v (.empty h ow k) = [.str "empty", .str h, vi ow, .str k] := rfl
    have v3 : Deed.v (.take h ow k) = [.str "take", .str h, vi ow, .str k] := rfl
    obtain ⟨q1, d1⟩ := pot_new p5 c5' n1 (.tup [.str "show", .str h, vi ow, .str k, vi one])
    have b6 := b5.same (same_upd n1 (o := .tup [.str "show", .str h, vi ow, .str k, vi one]))
    have x1 : upd H5 a1 (.tup [.str "show", .str h, vi ow, .str k, vi one]) a1 = some (.tup [.str "show", .str h, vi ow, .str k, vi one]) := upd_same
    generalize upd H5 a1 (.tup [.str "show", .str h, vi ow, .str k, vi one]) = T1 at n2 n3 nl q1 d1 b6 x1 ⊢
    obtain ⟨q2, d2⟩ := pot_new q1 d1 n2 (.tup [.str "empty", .str h, vi ow, .str k])
    have b7 := b6.same (same_upd n2 (o := .tup [.str "empty", .str h, vi ow, .str k]))
    have x2 : upd T1 a2 (.tup [.str "empty", .str h, vi ow, .str k]) a2 = some (.tup [.str "empty", .str h, vi ow, .str k]) := upd_same
    have x1 := tup_upd x1 (.inl n2) (o := .tup [.str "empty", .str h, vi ow, .str k])
    generalize upd T1 a2 (.tup [.str "empty", .str h, vi ow, .str k]) = T2 at n3 nl q2 d2 b7 x1 x2 ⊢
    obtain ⟨q3, d3⟩ := pot_new q2 d2 n3 (.tup [.str "take", .str h, vi ow, .str k])
    have b8 := b7.same (same_upd n3 (o := .tup [.str "take", .str h, vi ow, .str k]))
    have x3 : upd T2 a3 (.tup [.str "take", .str h, vi ow, .str k]) a3 = some (.tup [.str "take", .str h, vi ow, .str k]) := upd_same
    have x1 := tup_upd x1 (.inl n3) (o := .tup [.str "take", .str h, vi ow, .str k])
    have x2 := tup_upd x2 (.inl n3) (o := .tup [.str "take", .str h, vi ow, .str k])
    generalize upd T2 a3 (.tup [.str "take", .str h, vi ow, .str k]) = T3 at nl q3 d3 b8 x1 x2 x3 ⊢
    obtain ⟨q4, d4⟩ := pot_new q3 d3 nl (.lst [.ref a1, .ref a2, .ref a3])
    have nl0 := Cp.free d3 q3 nl
    have nlp := (q3.ne nl).symm
    have b9 := b8.same (same_upd nl (o := .lst [.ref a1, .ref a2, .ref a3]))
    have hl : upd T3 l (.lst [.ref a1, .ref a2, .ref a3]) l = some (.lst [.ref a1, .ref a2, .ref a3]) := upd_same
    have x1 := tup_upd x1 (.inl nl) (o := .lst [.ref a1, .ref a2, .ref a3])
    have x2 := tup_upd x2 (.inl nl) (o := .lst [.ref a1, .ref a2, .ref a3])
    have x3 := tup_upd x3 (.inl nl) (o := .lst [.ref a1, .ref a2, .ref a3])
    generalize upd T3 l (.lst [.ref a1, .ref a2, .ref a3]) = T4 at q4 d4 b9 hl x1 x2 x3 ⊢
    refine ⟨_, rfl, .inl ⟨rfl, _, SqL.of hl⟩, _, rfl, _, rfl, _, rfl, _, rfl, _, _, rfl, b9.g_hands, p, _, _, rfl, q4, b9.hands, nf ⟨.hands, trivial, rfl⟩, by rw [List.length_map]; omega, by rw [List.length_map]; omega, fun j x H6 hx q5 c6 => ?_⟩
    obtain ⟨g, hg, rfl⟩ : ∃ h, h ∈ o.hs ∧ x = .str h := by
      rw [List.getElem?_map] at hx
      obtain ⟨h, g1, g2⟩ := Option.map_eq_some_iff.mp hx
      exact ⟨h, List.mem_of_getElem? g1, g2.symm⟩
    have d5 := d4.trans c6
    have hl := c6 _ _ hl nlp
    have x1 := Cp.tup c6 q4 x1
    have x2 := Cp.tup c6 q4 x2
    have x3 := Cp.tup c6 q4 x3
    clear b9 b8 b7 b6 b5 b4 b3 b2 b1 b
    refine ⟨by show 4 ≤ sizeLine; decide, fun a4 n4 => ?_⟩
    obtain ⟨q6, d6⟩ := pot_new q5 d5 n4 (.tup [.str "give", .str h, vi one, .str g])
    have x4 : upd H6 a4 (.tup [.str "give", .str h, vi one, .str g]) a4 = some (.tup [.str "give", .str h, vi one, .str g]) := upd_same
    have x1 := tup_upd x1 (.inl n4) (o := .tup [.str "give", .str h, vi one, .str g])
    have x2 := tup_upd x2 (.inl n4) (o := .tup [.str "give", .str h, vi one, .str g])
    have x3 := tup_upd x3 (.inl n4) (o := .tup [.str "give", .str h, vi one, .str g])
    have hl := same_upd n4 (o := .tup [.str "give", .str h, vi one, .str g]) _ _ hl
    generalize upd H6 a4 (.tup [.str "give", .str h, vi one, .str g]) = T5 at q6 d6 hl x1 x2 x3 x4 ⊢
    refine ⟨_, _, _, rfl, rfl, hl, by rw [sizeLine_eq]; show 3 < _; omega, ?_⟩
    have q7 := q6.upd nlp.symm (o := .lst [.ref a1, .ref a2, .ref a3, .ref a4])
    have d7 := d6.upd (.inr nl0) (o := .lst [.ref a1, .ref a2, .ref a3, .ref a4])
    have x1 := tup_upd x1 (.inr ⟨_, hl⟩) (o := .lst [.ref a1, .ref a2, .ref a3, .ref a4])
    have x2 := tup_upd x2 (.inr ⟨_, hl⟩) (o := .lst [.ref a1, .ref a2, .ref a3, .ref a4])
    have x3 := tup_upd x3 (.inr ⟨_, hl⟩) (o := .lst [.ref a1, .ref a2, .ref a3, .ref a4])
    have x4 := tup_upd x4 (.inr ⟨_, hl⟩) (o := .lst [.ref a1, .ref a2, .ref a3, .ref a4])
    have hl : upd T5 l (.lst [.ref a1, .ref a2, .ref a3, .ref a4]) l = _ := upd_same
    rw [show upd T5 l (.lst ([V.ref a1, .ref a2, .ref a3] ++ [.ref a4])) = upd T5 l (.lst [.ref a1, .ref a2, .ref a3, .ref a4]) from rfl]
    generalize upd T5 l (.lst [.ref a1, .ref a2, .ref a3, .ref a4]) = T6 at q7 d7 hl x1 x2 x3 x4 ⊢
    refine ⟨_, rfl, _, rfl, _, rfl, by show 3 ≤ sizeLine; decide, fun a5 n5 => ?_⟩
    obtain ⟨q8, d8⟩ := pot_new q7 d7 n5 (.tup [.str "drop", .str h, vi one])
    have x5 : upd T6 a5 (.tup [.str "drop", .str h, vi one]) a5 = some (.tup [.str "drop", .str h, vi one]) := upd_same
    have s7 := same_upd n5 (o := .tup [.str "drop", .str h, vi one])
    refine ⟨by show 1 ≤ sizeLine; decide, fun l2 n2 => ?_⟩
    have s8 := same_upd n2 (o := .lst [.ref a5])
    refine ⟨_, _, _, rfl, rfl, upd_same, by decide, by decide, by show 1 * 4 ≤ sizeLine; decide, fun l3 n3 => ?_⟩
    obtain ⟨q9, d9⟩ := pot_new q8 d8 n2 (.lst [.ref a5])
    obtain ⟨q10, d10⟩ := pot_new q9 d9 n3 (.lst (List.replicate (Int.toNat 4) [V.ref a5]).flatten)
    have s9 := same_upd n3 (o := .lst (List.replicate (Int.toNat 4) [V.ref a5]).flatten)
    have s79 := s7.trans (s8.trans s9)
    refine ⟨_, _, _, _, rfl, rfl, s79 _ _ hl, upd_same, by show 8 ≤ sizeLine; decide, fun l4 n4 => ?_⟩
    obtain ⟨q11, d11⟩ := pot_new q10 d10 n4 (.lst ([V.ref a1, .ref a2, .ref a3, .ref a4] ++ (List.replicate (Int.toNat 4) [V.ref a5]).flatten))
    have s10 := same_upd n4 (o := .lst ([V.ref a1, .ref a2, .ref a3, .ref a4] ++ (List.replicate (Int.toNat 4) [V.ref a5]).flatten))
    have sA := s79.trans s10
    have y5 := (s8.trans (s9.trans s10)) _ _ x5
    obtain ⟨j, rfl⟩ : ∃ j, wy = j + 8 := ⟨wy - 8, by omega⟩
    have hj : j < 8 := by omega
    refine ⟨_, rfl, _, _, rfl, rfl, ?_⟩
    have ej : (((j + 8 : Nat) : Int) - 8) = (j : Int) := by omega
    have hgo : ∃ (a : Addr) (dd : Deed), [V.ref a1, .ref a2, .ref a3, .ref a4, .ref a5, .ref a5, .ref a5, .ref a5][j]? = some (.ref a) ∧ dd.of o.hs o.pool ∧ (dd = .show_ h ow k one ∧ a = a1 ∨ dd = .empty h ow k ∧ a = a2 ∨ dd = .take h ow k ∧ a = a3 ∨ dd = .give h one g ∧ a = a4 ∨ dd = .drop h one ∧ a = a5) := by
      match j, hj with
      | 0, _ => exact ⟨a1, .show_ h ow k one, rfl, ⟨hh, hk⟩, .inl ⟨rfl, rfl⟩⟩
      | 1, _ => exact ⟨a2, .empty h ow k, rfl, ⟨hh, hk⟩, .inr (.inl ⟨rfl, rfl⟩)⟩
      | 2, _ => exact ⟨a3, .take h ow k, rfl, ⟨hh, hk⟩, .inr (.inr (.inl ⟨rfl, rfl⟩))⟩
      | 3, _ => exact ⟨a4, .give h one g, rfl, ⟨hh, hg⟩, .inr (.inr (.inr (.inl ⟨rfl, rfl⟩)))⟩
      | 4, _ => exact ⟨a5, .drop h one, rfl, hh, .inr (.inr (.inr (.inr ⟨rfl, rfl⟩)))⟩
      | 5, _ => exact ⟨a5, .drop h one, rfl, hh, .inr (.inr (.inr (.inr ⟨rfl, rfl⟩)))⟩
      | 6, _ => exact ⟨a5, .drop h one, rfl, hh, .inr (.inr (.inr (.inr ⟨rfl, rfl⟩)))⟩
      | 7, _ => exact ⟨a5, .drop h one, rfl, hh, .inr (.inr (.inr (.inr ⟨rfl, rfl⟩)))⟩
    obtain ⟨a, dd, g1, g2, g3⟩ := hgo
    refine ⟨l4, _, (j : Int), .ref a, rfl, congrArg V.int ej, SqL.of upd_same, atI_nat g1, ?_⟩
    refine q a dd _ q11 d11 ?_ g2
    rcases g3 with ⟨rfl, rfl⟩ | ⟨rfl, rfl⟩ | ⟨rfl, rfl⟩ | ⟨rfl, rfl⟩ | ⟨rfl, rfl⟩
    · exact sA _ _ x1
    · exact sA _ _ x2
    · exact sA _ _ x3
    · exact sA _ _ x4
    · exact y5
end
end Df
/-! Rings of deeds. -/
namespace Df
open PySem PySem.Spec PyProof.Rows L2
theorem Dds.mono {H H' : Hp} {hs pool : List Str} {ds : List (Addr × Deed)} (h : Dds H hs pool ds) (t : ∀ a xs, H a = some (.tup xs) → H' a = some (.tup xs)) : Dds H' hs pool ds := fun e he => ⟨t _ _ (h e he).1, (h e he).2⟩
theorem Dds.snoc {H : Hp} {hs pool : List Str} {ds : List (Addr × Deed)} {a : Addr} {d : Deed} (h : Dds H hs pool ds) (h1 : H a = some (.tup d.v)) (h2 : d.of hs pool) : Dds H hs pool (ds ++ [(a, d)]) := fun e he => by
  rcases List.mem_append.mp he with z | z
  · exact h e z
  · rw [List.mem_singleton.mp z]
    exact ⟨h1, h2⟩
/-- what a ring's making keeps: the pot, the own state, lists -/
structure RgI (p : Addr) (β : OV) (o : OS) (H0 : Hp) (ls : List (Addr × List V)) (H : Hp) : Prop where
  po : Pot p H
  cp : Cp p H0 H
  oa : OA β o H
  li : ∀ e ∈ ls, H e.1 = some (.lst e.2)
section
variable {p : Addr} {β : OV} {o : OS} {H0 H H1 : Hp} {ls : List (Addr × List V)}
theorem RgI.same (R : RgI p β o H0 ls H) (s : Same H H1) : RgI p β o H0 ls H1 := ⟨R.po.same s, R.cp.same s, R.oa.same s, fun e he => s _ _ (R.li e he)⟩
theorem RgI.pot (R : RgI p β o H0 ls H) (n : ¬ OFoot β o p) (nl : ∀ e ∈ ls, e.1 ≠ p) (hp : Pot p H1) (c : Cp p H H1) : RgI p β o H0 ls H1 := ⟨hp, R.cp.trans c, R.oa.pot c R.po n, fun e he => c _ _ (R.li e he) (nl e he)⟩
/-- a list of one's own is changed -/
theorem RgI.upd (R : RgI p β o H0 ls H) {D : Addr} {xs : List V} {u : HO} (hD : H D = some (.lst xs)) (n0 : H0 D = none) (np : D ≠ p) (nf : ¬ OFoot β o D) (nl : ∀ e ∈ ls, e.1 ≠ D) : RgI p β o H0 ls (upd H D u) :=
  ⟨R.po.upd np.symm, R.cp.upd (.inr n0), R.oa.keep (F := fun c => c = D) (Cp.refl.upd (.inl rfl)) (fun b f => by rw [f]; exact nf) (fun b xs f z => by rw [f, hD] at z; cases z), fun e he => by
    rw [upd_ne (nl e he)]
    exact R.li e he⟩
/-- a deed is put to the found ones -/
theorem RgI.add (R : RgI p β o H0 ls H) {fd : Addr} {hs pool : List Str} {ds : List (Addr × Deed)} (hfd : H fd = some (.lst (ds.map fun e => V.ref e.1))) (D : Dds H hs pool ds) (n0 : H0 fd = none) (np : fd ≠ p) (nf : ¬ OFoot β o fd) (nl : ∀ e ∈ ls, e.1 ≠ fd) {a : Addr} (na : H a = none) {dd : Deed} (hof : dd.of hs pool) :
    RgI p β o H0 ls (L2.upd (L2.upd H a (.tup dd.v)) fd (.lst ((ds.map fun e => V.ref e.1) ++ [.ref a]))) ∧ L2.upd H a (.tup dd.v) fd = some (.lst (ds.map fun e => V.ref e.1)) ∧
    L2.upd (L2.upd H a (.tup dd.v)) fd (.lst ((ds.map fun e => V.ref e.1) ++ [.ref a])) fd = some (.lst ((ds ++ [(a, dd)]).map fun e => V.ref e.1)) ∧ Dds (L2.upd (L2.upd H a (.tup dd.v)) fd (.lst ((ds.map fun e => V.ref e.1) ++ [.ref a]))) hs pool (ds ++ [(a, dd)]) := by
  have s1 := same_upd na (o := .tup dd.v)
  have h1 := s1 _ _ hfd
  refine ⟨(R.same s1).upd h1 n0 np nf nl, h1, by rw [upd_same, List.map_append]; rfl, ?_⟩
  refine Dds.snoc (D.mono fun b xs z => tup_upd (s1 _ _ z) (.inr ⟨_, h1⟩)) (tup_upd upd_same (.inr ⟨_, h1⟩)) hof
end
section
variable {P : Program} {w : World} {K : PySem.W.Frag} {mg : Str → Option Value} {base : Heap}
abbrev N_L_ring : List Str := ["_law_pot_here", "_law_own", "_law_hand", "_law_first", "_law_things", "_law_slot", "_law_way", "_law_found", "_law_piece", "_law_later"]
theorem sc_L_ring : FnScope N_L_ring ["_law_pot_here", "_law_own"] (defScope s_L_ring) := ⟨rfl, rfl, rfl, by decide +kernel, rfl, by decide +kernel, by decide +kernel⟩
def spRing : Sp := fun vs H Q _ => ∃ (p : Addr) (β : OV) (s : PS) (o : OS), vs = [.ref p, .ref (β .own)] ∧ Pot p H ∧ OA β o H ∧ ¬ OFoot β o p ∧ Rel s o ∧ ∀ (l : Addr) (ds : List (Addr × Deed)) H', Pot p H' → Cp p H H' → H l = none → H' l = some (.lst (ds.map fun e => V.ref e.1)) → Dds H' o.hs o.pool ds → Q (.ref l) H'
theorem str_of {l : List Str} {j : Nat} {x : V} (h : (l.map V.str)[j]? = some x) : ∃ z, z ∈ l ∧ x = .str z := by
  rw [List.getElem?_map] at h
  obtain ⟨z, g1, g2⟩ := Option.map_eq_some_iff.mp h
  exact ⟨z, List.mem_of_getElem? g1, g2.symm⟩
theorem vi_of {l : List Nat} {j : Nat} {x : V} (h : (l.map vi)[j]? = some x) : ∃ t, t ∈ l ∧ x = vi t := by
  rw [List.getElem?_map] at h
  obtain ⟨z, g1, g2⟩ := Option.map_eq_some_iff.mp h
  exact ⟨z, List.mem_of_getElem? g1, g2.symm⟩
theorem rgV_nat (a m : Nat) : rgV (a : Int) ((a : Int) + m) = ((List.range m).map fun i => a + i).map vi := by
  unfold rgV
  rw [show ((a : Int) + m - a).toNat = m by omega, List.map_map]
  refine List.map_congr_left fun i _ => ?_
  show V.int ((a : Int) + (i : Nat)) = V.int ((a + i : Nat) : Int)
  rw [Int.natCast_add]
theorem ok_L_ring (T : Tx K mg) (h_L_take : Cl P w K mg base "_law_take" 1 ["_law_pot_here", "_law_many"] spLTake) (h_L_among : Cl P w K mg base "_law_among" 2 ["_law_pot_here", "_law_some"] spAmong) : Cl P w K mg base "_law_ring" 3 ["_law_pot_here", "_law_own"] spRing := by
  refine Cl.of T.f_L_ring T.gl_L_ring sc_L_ring (fun _ _ _ _ _ _ us hl => match us, hl with | [_, _], _ => rfl) (fun vs H Q E h => ?_) (fun cdv A outer s H vs Q E hr h => ?_)
  · obtain ⟨p, β, s, o, rfl, _⟩ := h
    rfl
  · obtain ⟨p, β, s, o, rfl, hp, b, np, r, q⟩ := h
    have hu := hu_of hr
    refine ⟨_, (pss_cons (ps_asg (pe_tup (pa_cons (pe_cl h_L_among hr (pa_cons (pv 0) (pa_cons (pe_dget hu (pv 1) pe_str (fun _ _ => rfl)) pa_nil))) (pa_cons (pe_dget hu (pv 1) pe_str (fun _ _ => rfl)) pa_nil))) (pg_tup (by rfl) (pgs_cons (pg_name (i := 2) sc_L_ring.nd rfl (Or.inr rfl)) (pgs_cons (pg_name (i := 3) sc_L_ring.nd rfl (Or.inl rfl)) pgs_nil))))
      (pss_cons (ps_set (i := 4) sc_L_ring.nd rfl (Or.inl rfl) (pe_listRg (by rfl) (by rfl) T.b_list (prg_2 rfl T.b_range (pv 3) (pe_op op_add (pe_op op_add (pv 3) pe_int) (pe_cl h_L_take hr (pa_cons (pv 0) (pa_cons pe_int pa_nil)))))))
      (pss_cons (ps_par (i := 5) (j := 6) (by rfl) sc_L_ring.nd rfl rfl (by decide) rfl rfl (pa_cons (pe_cl h_L_among hr (pa_cons (pv 0) (pa_cons (pe_dget hu (pv 1) pe_str (fun _ _ => rfl)) pa_nil))) (pa_cons (pe_cl h_L_take hr (pa_cons (pv 0) (pa_cons pe_int pa_nil))) pa_nil)) (by rfl))
      (pss_cons (ps_setLc (i := 7) (own := [("_law_piece", 8)]) rfl sc_L_ring.nd rfl rfl (sw_true rfl rfl rfl (by decide +kernel)) (pi_list (pv 4)) (blkOk_by (own := [("_law_piece", 8)]) (N := N_L_ring) (sc := defScope s_L_ring) (by decide +kernel)) (fun _ _ _ _ _ => pg_name (i := 8) sc_L_ring.nd rfl (Or.inl rfl)) (fun _ _ _ _ _ => pts_nil) (fun _ _ _ _ _ => pe_tup (pa_cons pe_str (pa_cons (pv 2) pa_nil))))
      (pss_cons (ps_for PassesOwn.never rfl (pi_zip rfl T.b_zip (pa_cons (pv 4) (pa_cons (pe_op op_cat (pe_slice sl_list (pv 4) (po_some pe_int) po_none) (pe_slice sl_list (pv 4) po_none (po_some pe_int))) pa_nil))) (pg_tup (by rfl) (pgs_cons (pg_name (i := 8) sc_L_ring.nd rfl (Or.inl rfl)) (pgs_cons (pg_name (i := 9) sc_L_ring.nd rfl (Or.inl rfl)) pgs_nil))) (pss_one (ps_if (pt_cmpR op_eq (pv 6) pe_int (nomark _)) (pss_one (ps_expr (pe_bm PySem.F.plainAttrs_list PySem.F.slot_list_append PySem.F.type_list_append mt_append (pv 7) (pa_cons (pe_tup (pa_cons pe_str (pa_cons (pv 2) (pa_cons (pv 8) (pa_cons (pv 5) (pa_cons (pe_cl h_L_among hr (pa_cons (pv 0) (pa_cons (pv 4) pa_nil))) (pa_cons (pv 9) pa_nil))))))) pa_nil)))) (pss_one (ps_if (PW.pt (pw_and (pt_cmpR op_eq (pv 6) pe_int (nomark _)) (pw_and1 (pt_cmpR (op_neD hr.units) (pe_dget hu (pe_dget hu (pv 1) pe_str (fun _ _ => rfl)) (pv 2) (fun _ _ => rfl)) (pe_lst pa_nil) (nomark _))))) (pss_one (ps_expr (pe_bm PySem.F.plainAttrs_list PySem.F.slot_list_append PySem.F.type_list_append mt_append (pv 7) (pa_cons (pe_tup (pa_cons pe_str (pa_cons (pv 2) (pa_cons (pe_cl h_L_among hr (pa_cons (pv 0) (pa_cons (pe_dget hu (pe_dget hu (pv 1) pe_str (fun _ _ => rfl)) (pv 2) (fun _ _ => rfl)) pa_nil))) (pa_cons (pv 5) (pa_cons (pv 8) (pa_cons (pv 9) pa_nil))))))) pa_nil)))) (pss_one (ps_expr (pe_bm PySem.F.plainAttrs_list PySem.F.slot_list_append PySem.F.type_list_append mt_append (pv 7) (pa_cons (pe_tup (pa_cons pe_str (pa_cons (pv 2) (pa_cons (pv 8) (pa_cons (pv 5) (pa_cons (pv 9) pa_nil)))))) pa_nil)))))))))
      (pss_one (ps_ret (pe_op op_cat (pv 7) (pe_lc (own := [("_law_piece", 8)]) rfl sc_L_ring.nd (pi_list (pv 4)) (blkOk_by (own := [("_law_piece", 8)]) (N := N_L_ring) (sc := defScope s_L_ring) (by decide +kernel)) (fun _ _ _ _ _ => pg_name (i := 8) sc_L_ring.nd rfl (Or.inl rfl)) (fun _ _ _ _ _ => pts_nil) (fun _ _ _ _ _ => pe_tup (pa_cons pe_str (pa_cons (pv 2) (pa_cons (pv 8) pa_nil))))))))))))), ?_⟩
    have nf : ∀ {x : Addr}, OFoot β o x → x ≠ p := fun f z => np (z ▸ f)
    have h1 := r.h1
    have h6 := r.h6
    have p1 := r.p1
    have p8 := r.p8
    have n40 := r.n40
    have emd := r.md
    refine ⟨_, rfl, _, rfl, _, _, rfl, b.g_hands, p, _, _, rfl, hp, b.hands, nf ⟨.hands, trivial, rfl⟩, by rw [List.length_map]; omega, by rw [List.length_map]; omega, fun j x H1 hx hp1 c1 => ?_⟩
    obtain ⟨h, hh, rfl⟩ := str_of hx
    have b1 := b.pot c1 hp np
    refine ⟨_, rfl, _, _, rfl, b1.g_made, by show 2 ≤ sizeLine; decide, fun e0 ne0 => ?_⟩
    obtain ⟨p2, c2⟩ := pot_new hp1 c1 ne0 (.tup [.str h, vi o.md])
    have b2 := b1.same (same_upd ne0 (o := .tup [.str h, vi o.md]))
    have hT0 : upd H1 e0 (.tup [.str h, vi o.md]) e0 = _ := upd_same
    generalize upd H1 e0 (.tup [.str h, vi o.md]) = H2 at p2 c2 b2 hT0 ⊢
    refine ⟨e0, _, rfl, SqT.of hT0, rfl, _, _, rfl, _, _, rfl, rfl, ?_⟩
    refine ⟨_, rfl, _, rfl, _, _, rfl, rfl, _, rfl, p, 5, rfl, p2, by decide, by decide, fun d H3 hd p3 c3 => ?_⟩
    have b3 := b2.pot c3 p2 np
    have c3' := c2.trans c3
    refine ⟨_, _, rfl, rfl, _, _, rfl, rfl, ⟨by omega, by omega, by omega, by omega, by omega⟩, fun th nth => ?_⟩
    have eth : rgV ((o.md : Nat) : Int) (((o.md : Nat) : Int) + 1 + (d : Nat)) = ((List.range (1 + d)).map fun i => o.md + i).map vi := by
      rw [← rgV_nat, Int.natCast_add, Int.add_assoc]
      rfl
    obtain ⟨p4, c4⟩ := pot_new p3 c3' nth (.lst (rgV ((o.md : Nat) : Int) (((o.md : Nat) : Int) + 1 + (d : Nat))))
    have b4 := b3.same (same_upd nth (o := .lst (rgV ((o.md : Nat) : Int) (((o.md : Nat) : Int) + 1 + (d : Nat)))))
    have hth : upd H3 th (.lst (rgV ((o.md : Nat) : Int) (((o.md : Nat) : Int) + 1 + (d : Nat)))) th = some (.lst (((List.range (1 + d)).map fun i => o.md + i).map vi)) := by rw [upd_same, eth]
    have nth0 := Cp.free c3' p3 nth
    have nthp := (p3.ne nth).symm
    have nthf := b3.foot_some nth
    generalize upd H3 th (.lst (rgV ((o.md : Nat) : Int) (((o.md : Nat) : Int) + 1 + (d : Nat)))) = H4 at p4 c4 b4 hth ⊢
    generalize hts : (List.range (1 + d)).map (fun i => o.md + i) = ts at hth
    have lts : ts.length = 1 + d := by rw [← hts, List.length_map, List.length_range]
    refine ⟨_, rfl, _, rfl, _, _, rfl, b4.g_pool, p, _, _, rfl, p4, b4.pool, nf ⟨.pool, trivial, rfl⟩, by rw [List.length_map]; omega, by rw [List.length_map]; omega, fun j x H5 hx p5 c5 => ?_⟩
    obtain ⟨k, hk, rfl⟩ := str_of hx
    refine ⟨_, rfl, p, 4, rfl, p5, by decide, by decide, fun wy H6 hwy p6 c6 => ?_⟩
    have R6 : RgI p β o H [(th, ts.map vi)] H6 := ((RgI.pot ⟨p4, c4, b4, fun e he => by rw [List.mem_singleton.mp he]; exact hth⟩ np (fun e he => by rw [List.mem_singleton.mp he]; exact nthp) p5 c5).pot np (fun e he => by rw [List.mem_singleton.mp he]; exact nthp) p6 c6)
    have hth6 := R6.li _ List.mem_cons_self
    refine ⟨_, _, rfl, ?_⟩
    refine ⟨_, rfl, th, rfl, ⟨_, SqL.of hth6⟩, fun fd nfd => ?_⟩
    have nfd0 := Cp.free R6.cp R6.po nfd
    have nfdp := (R6.po.ne nfd).symm
    have nfdf := R6.oa.foot_some nfd
    have nthfd : th ≠ fd := fun z => by
      rw [z, nfd] at hth6
      cases hth6
    refine lc_cps0 (walk_list (xs := ts.map vi)) (by rw [List.length_map, lts, sizeLine_eq]; omega) (fun i l H' => RgI p β o H [(th, ts.map vi)] H' ∧ ∃ es : List (Addr × Deed), l = (es.map fun e => V.ref e.1) ∧ Dds H' o.hs o.pool es ∧ es.length = i)
      ⟨R6.same (same_upd nfd), [], rfl, (fun _ z => absurd z List.not_mem_nil), rfl⟩ (fun i l H' x hD hI => ?_) (fun i l H' _ hI => SqL.of (hI.1.li _ List.mem_cons_self)) (fun i l x H' H'' hi hI hD y Kk hK => ?_) (fun l H' hl' hI hD => ?_)
    · obtain ⟨R, es, e1, e2, e3⟩ := hI
      exact ⟨R.upd hD nfd0 nfdp nfdf (fun e he => by rw [List.mem_singleton.mp he]; exact nthfd), es, e1, e2.mono fun a xs z => tup_upd z (.inr ⟨_, hD⟩), e3⟩
    · obtain ⟨R, es, rfl, e2, e3⟩ := hI
      obtain ⟨rfl, hx⟩ := y
      refine ⟨rfl, _, rfl, by show 2 ≤ sizeLine; decide, fun a na => ?_⟩
      refine hK _ _ (same_upd na _ _ hD) ⟨R.same (same_upd na), es ++ [((a, Deed.mk h) : Addr × Deed)], by rw [List.map_append]; rfl, (e2.mono fun b xs z => tup_upd z (.inl na)).snoc (d := .mk h) upd_same hh, by rw [List.length_append, e3]; rfl⟩
    obtain ⟨R7, es, rfl, hes, les⟩ := hI
    have les : es.length = 1 + d := by rw [les, List.length_map, lts]
    have hth7 := R7.li _ List.mem_cons_self
    refine ⟨_, rfl, _, rfl, _, rfl, _, _, rfl, SqL.of hth7, fun z1 nz1 => ?_⟩
    have s1 := same_upd nz1 (o := .lst (cutV (ts.map vi) (some 1) none))
    refine ⟨_, rfl, _, rfl, _, _, rfl, SqL.of (s1 _ _ hth7), fun z2 nz2 => ?_⟩
    have s2 := same_upd nz2 (o := .lst (cutV (ts.map vi) none (some 1)))
    have ec1 : cutV (ts.map vi) (some 1) none = (ts.drop 1).map vi := by rw [show cutV (ts.map vi) (some 1) none = (ts.map vi).drop 1 from cutV_from _ 1, List.map_drop]
    have ec2 : cutV (ts.map vi) none (some 1) = (ts.take 1).map vi := by rw [show cutV (ts.map vi) none (some 1) = (ts.map vi).take 1 from cutV_to _ 1, List.map_take]
    refine ⟨_, _, _, _, rfl, rfl, s2 _ _ upd_same, upd_same, ?_, fun z3 nz3 => ?_⟩
    · rw [ec1, ec2, List.length_map, List.length_map, List.length_drop, List.length_take, lts, sizeLine_eq]
      omega
    have s3 := same_upd nz3 (o := .lst (cutV (ts.map vi) (some 1) none ++ cutV (ts.map vi) none (some 1)))
    have s13 := s1.trans (s2.trans s3)
    have hz3 : upd (upd (upd H' z1 (.lst (cutV (ts.map vi) (some 1) none))) z2 (.lst (cutV (ts.map vi) none (some 1)))) z3 (.lst (cutV (ts.map vi) (some 1) none ++ cutV (ts.map vi) none (some 1))) z3 = some (.lst ((ts.drop 1 ++ ts.take 1).map vi)) := by rw [upd_same, ec1, ec2, List.map_append]
    have nz30 := (s1.trans s2).free nz3
    have nz3fd : z3 ≠ fd := fun z => by
      rw [z, hD] at nz30
      cases nz30
    have nz3p := ((R7.po).ne nz30).symm
    have R8 : RgI p β o H [(th, ts.map vi), (z3, (ts.drop 1 ++ ts.take 1).map vi)] (upd (upd (upd H' z1 (.lst (cutV (ts.map vi) (some 1) none))) z2 (.lst (cutV (ts.map vi) none (some 1)))) z3 (.lst (cutV (ts.map vi) (some 1) none ++ cutV (ts.map vi) none (some 1)))) := by
      have z := R7.same s13
      refine ⟨z.po, z.cp, z.oa, fun e he => ?_⟩
      rcases List.mem_cons.mp he with q | q
      · rw [q]
        exact z.li _ List.mem_cons_self
      · rw [List.mem_singleton.mp q]
        exact hz3
    have hfd8 := s13 _ _ hD
    have des8 := hes.mono fun a xs z => s13 _ _ z
    generalize upd (upd (upd H' z1 (.lst (cutV (ts.map vi) (some 1) none))) z2 (.lst (cutV (ts.map vi) none (some 1)))) z3 (.lst (cutV (ts.map vi) (some 1) none ++ cutV (ts.map vi) none (some 1))) = H8 at R8 hfd8 des8 hz3 ⊢
    clear hz3 nz3 nz2 nz1 s1 s2 s3 s13
    generalize hus : ts.drop 1 ++ ts.take 1 = us at R8
    have lus : us.length = 1 + d := by rw [← hus, List.length_append, List.length_drop, List.length_take, lts]; omega
    have nls : ∀ e ∈ [(th, ts.map vi), (z3, us.map vi)], e.1 ≠ p := fun e he => by
      rcases List.mem_cons.mp he with q | q
      · rw [q]
        exact nthp
      · rw [List.mem_singleton.mp q]
        exact nz3p
    have nlf : ∀ e ∈ [(th, ts.map vi), (z3, us.map vi)], e.1 ≠ fd := fun e he => by
      rcases List.mem_cons.mp he with q | q
      · rw [q]
        exact nthfd
      · rw [List.mem_singleton.mp q]
        exact nz3fd
    have m1 : (th, ts.map vi) ∈ [(th, ts.map vi), (z3, us.map vi)] := List.mem_cons_self
    have m2 : (z3, us.map vi) ∈ [(th, ts.map vi), (z3, us.map vi)] := List.mem_cons_of_mem _ List.mem_cons_self
    refine ⟨th, z3, _, _, rfl, SqL.of (R8.li _ m1), SqL.of (R8.li _ m2), ?_⟩
    refine for_it (walk_zip (xs := ts.map vi) (ys := us.map vi) (n := 1 + d) (by rw [List.length_map, List.length_map, lts, lus, Nat.min_self])) (fun i σ H' => ∃ (ds : List (Addr × Deed)) (x8 x9 : Option V), σ = [some (.ref p), some (.ref (β .own)), some (.str h), some (vi o.md), some (.ref th), some (.str k), some (vi wy), some (.ref fd), x8, x9] ∧ RgI p β o H [(th, ts.map vi), (z3, us.map vi)] H' ∧ H' fd = some (.lst (ds.map fun e => V.ref e.1)) ∧ Dds H' o.hs o.pool ds ∧ ds.length ≤ 20 + i)
      ⟨es, none, none, rfl, R8, hfd8, des8, by omega⟩ (fun i σ H' _ hI => ?_) (fun i x σ H' H'' hi hI y => ?_) (fun σ H' hI => ?_)
    · obtain ⟨_, _, _, _, R, _⟩ := hI
      exact ⟨SqL.of (R.li _ m1), SqL.of (R.li _ m2)⟩
    · obtain ⟨ds, x8, x9, rfl, R, hfd, hds, lds⟩ := hI
      obtain ⟨c, x, y, rfl, nc, rfl, gx, gy⟩ := y
      obtain ⟨pc, hpc, rfl⟩ := vi_of gx
      obtain ⟨lt, hlt, rfl⟩ := vi_of gy
      have sc := same_upd nc (o := .tup [vi pc, vi lt])
      refine ⟨c, _, rfl, SqT.of upd_same, rfl, _, _, rfl, _, _, rfl, rfl, ?_⟩
      have R := R.same sc
      have hfd := sc _ _ hfd
      have hds := hds.mono fun a xs z => sc _ _ z
      generalize upd H' c (.tup [vi pc, vi lt]) = H9 at R hfd hds ⊢
      have hlen : (ds.map fun e => V.ref e.1).length < sizeLine := by
        rw [List.length_map, sizeLine_eq]
        omega
      refine ⟨_, rfl, rfl, _, rfl, ?_⟩
      refine ite2 (fun e => ?_) (fun e => ?_)
      · refine ⟨_, rfl, .inl ⟨rfl, _, SqL.of hfd⟩, _, rfl, _, rfl, _, rfl, _, rfl, _, rfl, p, th, _, rfl, R.po, R.li _ m1, nthp, by rw [List.length_map, lts]; omega, by rw [List.length_map, lts]; omega, fun j x H10 hx p10 c10 => ?_⟩
        obtain ⟨on, hon, rfl⟩ := vi_of hx
        have R10 := R.pot np nls p10 c10
        refine ⟨_, rfl, by show 6 ≤ sizeLine; decide, fun a na => ?_⟩
        obtain ⟨g1, g2, g3, g4⟩ := R10.add (c10 _ _ hfd nfdp) (hds.mono fun b xs z => Cp.tup c10 R.po z) nfd0 nfdp nfdf nlf na (dd := .tie h pc k on lt) ⟨hh, hk⟩
        exact ⟨_, _, _, rfl, rfl, g2, hlen, _, _, _, rfl, g1, g3, g4, by rw [List.length_append, List.length_singleton]; omega⟩
      · refine ⟨_, rfl, rfl, _, rfl, ?_⟩
        refine ite2 (fun e1 => ?_) (fun e1 => ?_)
        · have hR := R.oa.row hh
          refine ⟨_, rfl, _, _, rfl, R.oa.g_rows, _, rfl, _, _, rfl, dget_row R.oa.rows hh, Nat.zero_le _, fun e2 ne2 => ?_⟩
          have s4 := same_upd ne2 (o := .lst [])
          refine ⟨dL (o.R h), dL [], dp_list (s4 _ _ hR), dp_list upd_same, dL_shaped _, dL_shaped _, _, rfl, ?_⟩
          rw [eqv_dL]
          have R := R.same s4
          have hfd := s4 _ _ hfd
          have hds := hds.mono fun a xs z => s4 _ _ z
          generalize upd H9 e2 (.lst []) = H10 at R hfd hds ⊢
          by_cases em : o.R h = []
          · rw [decide_eq_true em]
            refine iteF ?_
            refine ⟨_, rfl, .inl ⟨rfl, _, SqL.of hfd⟩, _, rfl, _, rfl, _, rfl, _, rfl, by show 5 ≤ sizeLine; decide, fun a na => ?_⟩
            obtain ⟨g1, g2, g3, g4⟩ := R.add hfd hds nfd0 nfdp nfdf nlf na (dd := .put h pc k lt) ⟨hh, hk⟩
            exact ⟨_, _, _, rfl, rfl, g2, hlen, _, _, _, rfl, g1, g3, g4, by rw [List.length_append, List.length_singleton]; omega⟩
          · rw [decide_eq_false em]
            refine iteT ?_
            have hl0 : 0 < (o.R h).length := List.length_pos_iff.mpr em
            have hl1 := r.len h hh
            refine ⟨_, rfl, .inl ⟨rfl, _, SqL.of hfd⟩, _, rfl, _, rfl, _, rfl, _, _, rfl, R.oa.g_rows, _, rfl, _, _, rfl, dget_row R.oa.rows hh, p, _, _, rfl, R.po, R.oa.row hh, nf ⟨.row h, hh, rfl⟩, by rw [List.length_map]; omega, by rw [List.length_map]; omega, fun j x H11 hx p10 c10 => ?_⟩
            obtain ⟨on, hon, rfl⟩ := vi_of hx
            have R10 := R.pot np nls p10 c10
            refine ⟨_, rfl, _, rfl, _, rfl, by show 6 ≤ sizeLine; decide, fun a na => ?_⟩
            obtain ⟨g1, g2, g3, g4⟩ := R10.add (c10 _ _ hfd nfdp) (hds.mono fun b xs z => Cp.tup c10 R.po z) nfd0 nfdp nfdf nlf na (dd := .tie h on k pc lt) ⟨hh, hk⟩
            exact ⟨_, _, _, rfl, rfl, g2, hlen, _, _, _, rfl, g1, g3, g4, by rw [List.length_append, List.length_singleton]; omega⟩
        · refine iteF ?_
          refine ⟨_, rfl, .inl ⟨rfl, _, SqL.of hfd⟩, _, rfl, _, rfl, _, rfl, _, rfl, by show 5 ≤ sizeLine; decide, fun a na => ?_⟩
          obtain ⟨g1, g2, g3, g4⟩ := R.add hfd hds nfd0 nfdp nfdf nlf na (dd := .put h pc k lt) ⟨hh, hk⟩
          exact ⟨_, _, _, rfl, rfl, g2, hlen, _, _, _, rfl, g1, g3, g4, by rw [List.length_append, List.length_singleton]; omega⟩
    · obtain ⟨ds, x8, x9, rfl, R, hfd, hds, lds⟩ := hI
      have hth := R.li _ m1
      refine ⟨_, rfl, _, rfl, th, rfl, ⟨_, SqL.of hth⟩, fun D nD => ?_⟩
      have nD0 := Cp.free R.cp R.po nD
      have nDp := (R.po.ne nD).symm
      have nDf := R.oa.foot_some nD
      have nDl : ∀ e ∈ [(th, ts.map vi), (z3, us.map vi)], e.1 ≠ D := fun e he z => by
        have := R.li e he
        rw [z, nD] at this
        cases this
      have nDfd : fd ≠ D := fun z => by
        rw [z, nD] at hfd
        cases hfd
      refine lc_cps0 (walk_list (xs := ts.map vi)) (by rw [List.length_map, lts, sizeLine_eq]; omega) (fun i l H' => RgI p β o H [(th, ts.map vi), (z3, us.map vi)] H' ∧ H' fd = some (.lst (ds.map fun e => V.ref e.1)) ∧ Dds H' o.hs o.pool ds ∧ ∃ es : List (Addr × Deed), l = (es.map fun e => V.ref e.1) ∧ Dds H' o.hs o.pool es ∧ es.length = i)
        ⟨R.same (same_upd nD), same_upd nD _ _ hfd, hds.mono fun a xs z => same_upd nD _ _ z, [], rfl, (fun _ z => absurd z List.not_mem_nil), rfl⟩ (fun i l H' x hD hI => ?_) (fun i l H' _ hI => SqL.of (hI.1.li _ m1)) (fun i l x H' H'' hi hI hD y Kk hK => ?_) (fun l H' hl' hI hD => ?_)
      · obtain ⟨R, g1, g2, es, e1, e2, e3⟩ := hI
        exact ⟨R.upd hD nD0 nDp nDf nDl, by rw [upd_ne nDfd]; exact g1, g2.mono fun a xs z => tup_upd z (.inr ⟨_, hD⟩), es, e1, e2.mono fun a xs z => tup_upd z (.inr ⟨_, hD⟩), e3⟩
      · obtain ⟨R, g1, g2, es, rfl, e2, e3⟩ := hI
        obtain ⟨rfl, hx⟩ := y
        obtain ⟨pc, hpc, rfl⟩ := vi_of hx
        refine ⟨rfl, _, rfl, _, rfl, by show 3 ≤ sizeLine; decide, fun a na => ?_⟩
        refine hK _ _ (same_upd na _ _ hD) ⟨R.same (same_upd na), same_upd na _ _ g1, g2.mono fun b xs z => tup_upd z (.inl na), es ++ [((a, Deed.drop h pc) : Addr × Deed)], by rw [List.map_append]; rfl, (e2.mono fun b xs z => tup_upd z (.inl na)).snoc (d := .drop h pc) upd_same hh, by rw [List.length_append, e3]; rfl⟩
      obtain ⟨R, g1, g2, es, rfl, e2, e3⟩ := hI
      refine ⟨_, _, _, _, rfl, rfl, g1, hD, ?_, fun f nf' => ?_⟩
      · rw [List.length_map, List.length_map, e3, List.length_map, lts, sizeLine_eq]
        omega
      have R11 := R.same (same_upd nf' (o := .lst ((ds.map fun e => V.ref e.1) ++ (es.map fun e => V.ref e.1))))
      refine q f (ds ++ es) _ R11.po R11.cp (Cp.free R.cp R.po nf') (by rw [upd_same, List.map_append]) fun e he => ?_
      rcases List.mem_append.mp he with z | z
      · exact (g2.mono fun a xs z => same_upd nf' _ _ z) e z
      · exact (e2.mono fun a xs z => same_upd nf' _ _ z) e z
end
end Df
/-! What deeds come next; how the law's own state begins. -/
namespace Df
open PySem PySem.Spec PyProof.Rows L2
section
variable {P : Program} {w : World} {K : PySem.W.Frag} {mg : Str → Option Value} {base : Heap}
abbrev N_L_next : List Str := ["_law_pot_here", "_law_own"]
theorem sc_L_next : FnScope N_L_next ["_law_pot_here", "_law_own"] (defScope s_L_next) := ⟨rfl, rfl, rfl, by decide +kernel, rfl, by decide +kernel, by decide +kernel⟩
theorem ok_L_next (T : Tx K mg) (h_L_take : Cl P w K mg base "_law_take" 1 ["_law_pot_here", "_law_many"] spLTake) (h_L_ring : Cl P w K mg base "_law_ring" 3 ["_law_pot_here", "_law_own"] spRing) (h_L_deed : Cl P w K mg base "_law_deed" 3 ["_law_pot_here", "_law_own"] spDeed) : Cl P w K mg base "_law_next" 4 ["_law_pot_here", "_law_own"] spRing := by
  refine Cl.of T.f_L_next T.gl_L_next sc_L_next (fun _ _ _ _ _ _ us hl => match us, hl with | [_, _], _ => rfl) (fun vs H Q E h => ?_) (fun cdv A outer s H vs Q E hr h => ?_)
  · obtain ⟨p, β, s, o, rfl, _⟩ := h
    rfl
  · obtain ⟨p, β, s, o, rfl, hp, b, np, r, q⟩ := h
    refine ⟨_, (pss_one (ps_ret (pe_ifExp (pt_cmpR op_eq (pe_cl h_L_take hr (pa_cons (pv 0) (pa_cons pe_int pa_nil))) pe_int (nomark _)) (pe_cl h_L_ring hr (pa_cons (pv 0) (pa_cons (pv 1) pa_nil))) (pe_lst (pa_cons (pe_cl h_L_deed hr (pa_cons (pv 0) (pa_cons (pv 1) pa_nil))) pa_nil))))), ?_⟩
    refine ⟨_, rfl, p, 9, rfl, hp, by decide, by decide, fun d H1 hd p1 c1 => ?_⟩
    have b1 := b.pot c1 hp np
    refine ⟨rfl, _, rfl, ?_⟩
    refine ite2 (fun e => ?_) (fun e => ?_)
    · refine ⟨_, rfl, _, rfl, p, β, s, o, rfl, p1, b1, np, r, fun l ds H2 p2 c2 nl hl hd => ?_⟩
      exact q l ds H2 p2 (c1.trans c2) (Cp.free c1 p1 nl) hl hd
    · refine ⟨_, rfl, _, rfl, p, β, s, o, rfl, p1, b1, np, r, fun a dd H2 p2 c2 ha hof => ?_⟩
      refine ⟨by show 1 ≤ sizeLine; decide, fun l nl => ?_⟩
      obtain ⟨p3, c3⟩ := pot_new p2 (c1.trans c2) nl (.lst [.ref a])
      refine q l [(a, dd)] _ p3 c3 (Cp.free (c1.trans c2) p2 nl) upd_same fun e he => ?_
      rw [List.mem_singleton.mp he]
      exact ⟨same_upd nl _ _ ha, hof⟩
abbrev N_L_begun : List Str := ["_law_pot_here", "_law_most_hands", "_law_hands", "_law_rows", "_law_hand"]
theorem sc_L_begun : FnScope N_L_begun ["_law_pot_here", "_law_most_hands"] (defScope s_L_begun) := ⟨rfl, rfl, rfl, by decide +kernel, rfl, by decide +kernel, by decide +kernel⟩
def OS0 (hs pool : List Str) : OS := ⟨hs, pool, 0, 0, fun _ => [], fun _ => []⟩
def orole (p l r : Addr) (f : Str → Addr) (sl pl : Addr) : OV
  | .own => p
  | .hands => l
  | .rows => r
  | .row h => f h
  | .slots => sl
  | .pool => pl
  | .slo _ => 0
theorem merge_kH {f : Str → Addr} : ∀ (m l : List Str), (l ++ m).Nodup → mergeK (kH l f) (kH m f) = kH (l ++ m) f
  | [], l, _ => by rw [List.append_nil]; rfl
  | z :: m, l, nd => by
    have nz : ¬ z ∈ l := fun h => (List.nodup_append.mp nd).2.2 z h z List.mem_cons_self rfl
    have e : mergeK (kH l f) (kH (z :: m) f) = mergeK (putK (kH l f) (Sum.inr z : Key) (.ref (f z))) (kH m f) := rfl
    rw [e, put_kH nz, show fset f z (f z) = f by
      funext x
      by_cases h : x = z
      · rw [h, fset_same]
      · rw [fset_ne h], merge_kH m (l ++ [z]) (by rw [List.append_assoc]; exact nd), List.append_assoc]
    rfl
theorem pair_kH {f g : Str → Addr} {P : Addr → Key × V → Prop} : ∀ {l : List Str}, (∀ z ∈ l, P (g z) (Sum.inr z, .ref (f z))) → Paired P (l.map g) (kH l f)
  | [], _ => .nil
  | z :: l, h => .cons (h z List.mem_cons_self) (pair_kH fun y hy => h y (List.mem_cons_of_mem _ hy))
def spBegun : Sp := fun vs H Q _ => ∃ p : Addr, vs = [.ref p, .int 4] ∧ Pot p H ∧ ∀ (β : OV) (hs pool : List Str) H', OA β (OS0 hs pool) H' → Pot p H' → Cp p H H' → (∀ c, OFoot β (OS0 hs pool) c → H c = none) → hs.Nodup → 1 ≤ hs.length → hs.length ≤ 6 → (∀ h ∈ hs, NameOk h) → (∀ h ∈ pool, NameOk h) → 1 ≤ pool.length → pool.length ≤ 8 → Q (.ref (β .own)) H'
theorem ok_L_begun (T : Tx K mg) (h_L_take : Cl P w K mg base "_law_take" 1 ["_law_pot_here", "_law_many"] spLTake) (h_L_names : Cl P w K mg base "_law_names" 3 ["_law_pot_here", "_law_many"] spLNames) : Cl P w K mg base "_law_begun" 4 ["_law_pot_here", "_law_most_hands"] spBegun := by
  refine Cl.of T.f_L_begun T.gl_L_begun sc_L_begun (fun _ _ _ _ _ _ us hl => match us, hl with | [_, _], _ => rfl) (fun vs H Q E h => ?_) (fun cdv A outer s H vs Q E hr h => ?_)
  · obtain ⟨p, rfl, _⟩ := h
    rfl
  · obtain ⟨p, rfl, hp, q⟩ := h
    have hu := hu_of hr
    refine ⟨_, (pss_cons (ps_set (i := 2) sc_L_begun.nd rfl (Or.inl rfl) (pe_cl h_L_names hr (pa_cons (pv 0) (pa_cons (pe_op op_add pe_int (pe_cl h_L_take hr (pa_cons (pv 0) (pa_cons (pv 1) pa_nil)))) pa_nil))))
      (pss_cons (ps_set (i := 3) sc_L_begun.nd rfl (Or.inl rfl) (pe_callTy (call_dictP rfl) (by rfl) T.b_dict (by decide +kernel) (pa_cons (pe_lc (own := [("_law_hand", 4)]) rfl sc_L_begun.nd (pi_list (pv 2)) (blkOk_by (own := [("_law_hand", 4)]) (N := N_L_begun) (sc := defScope s_L_begun) (by decide +kernel)) (fun _ _ _ _ _ => pg_name (i := 4) sc_L_begun.nd rfl (Or.inl rfl)) (fun _ _ _ _ _ => pts_nil) (fun _ _ _ _ _ => pe_tup (pa_cons (pv 4) (pa_cons (pe_lst pa_nil) pa_nil)))) pa_nil)))
      (pss_one (ps_ret (pe_disp (pps_cons pe_str (pv 2) (pps_cons pe_str (pv 3) (pps_cons pe_str pe_dnewK (pps_cons pe_str pe_int (pps_cons pe_str (pe_cl h_L_names hr (pa_cons (pv 0) (pa_cons (pe_op op_add pe_int (pe_cl h_L_take hr (pa_cons (pv 0) (pa_cons pe_int pa_nil)))) pa_nil))) pps_nil))))) (by rfl) (by rfl) (fun z => by cases z) (by decide)))))), ?_⟩
    refine ⟨_, rfl, _, rfl, _, rfl, p, 4, rfl, hp, by decide, by decide, fun d H1 hd p1 c1 => ?_⟩
    refine ⟨_, _, rfl, rfl, p, 1 + d, by rw [vi, Int.natCast_add]; rfl, p1, by omega, fun l hs H2 ln nd hok p2 nl hl c2 => ?_⟩
    have c12 := c1.trans c2
    refine ⟨_, rfl, l, rfl, ⟨_, SqL.of hl⟩, fun D nD => ?_⟩
    have nD0 := Cp.free c12 p2 nD
    have nDp := (p2.ne nD).symm
    have nlD : l ≠ D := fun z => by
      rw [z, nD] at hl
      cases hl
    refine lc_cps0 (walk_list (xs := hs.map V.str)) (by rw [List.length_map, sizeLine_eq]; omega) (fun i l' H' => Same H2 H' ∧ ∃ f g : Str → Addr, l' = (hs.take i).map (fun z => V.ref (g z)) ∧ (∀ z ∈ hs.take i, H' (g z) = some (.tup [.str z, .ref (f z)]) ∧ H' (f z) = some (.lst []) ∧ H2 (f z) = none ∧ f z ≠ D) ∧ ∀ y ∈ hs.take i, ∀ z ∈ hs.take i, f y = f z → y = z)
      ⟨same_upd nD, fun _ => 0, fun _ => 0, rfl, fun _ z => absurd z List.not_mem_nil, fun _ z => absurd z List.not_mem_nil⟩ (fun i l' H' x hD hI => ?_) (fun i l' H' _ hI => SqL.of (hI.1 _ _ hl)) (fun i l' x H' H'' hi hI hD y Kk hK => ?_) (fun l' H' hl' hI hD => ?_)
    · obtain ⟨s1, f, g, e1, e2, e3⟩ := hI
      refine ⟨same_put s1 nD, f, g, e1, fun z hz => ?_, e3⟩
      obtain ⟨g1, g2, g3, g4⟩ := e2 z hz
      exact ⟨tup_upd g1 (.inr ⟨_, hD⟩), by rw [upd_ne g4]; exact g2, g3, g4⟩
    · obtain ⟨s1, f, g, rfl, e2, e3⟩ := hI
      obtain ⟨rfl, hx⟩ := y
      have hi' : i < hs.length := by rw [List.length_map] at hi; exact hi
      obtain ⟨z, hz⟩ : ∃ z, hs[i]? = some z := ⟨_, List.getElem?_eq_getElem hi'⟩
      have ex : x = .str z := by
        rw [List.getElem?_map, hz] at hx
        exact (Option.some.inj hx).symm
      subst ex
      have nz := nd_take nd hz
      have et : hs.take (i + 1) = hs.take i ++ [z] := by rw [List.take_add_one, hz]; rfl
      refine ⟨rfl, _, rfl, Nat.zero_le _, fun a na => ?_⟩
      have t1 := same_upd na (o := .lst [])
      refine ⟨by show 2 ≤ sizeLine; decide, fun c nc => ?_⟩
      have t2 := same_upd nc (o := .tup [.str z, .ref a])
      have t12 := t1.trans t2
      have naD : a ≠ D := fun q => by
        rw [q, hD] at na
        cases na
      refine hK _ _ (t12 _ _ hD) ⟨s1.trans t12, fset f z a, fset g z c, ?_, fun y hy => ?_, fun y hy y' hy' e => ?_⟩
      · rw [et, List.map_append, List.map_singleton, fset_same]
        congr 1
        refine List.map_congr_left fun y hy => ?_
        rw [fset_ne (ne_mem hy nz)]
      · rw [et] at hy
        rcases List.mem_append.mp hy with m | m
        · rw [fset_ne (ne_mem m nz), fset_ne (ne_mem m nz)]
          obtain ⟨g1, g2, g3, g4⟩ := e2 y m
          exact ⟨t12 _ _ g1, t12 _ _ g2, g3, g4⟩
        · rw [List.mem_singleton.mp m, fset_same, fset_same]
          exact ⟨upd_same, t2 _ _ upd_same, s1.free na, naD⟩
      · rw [et] at hy hy'
        rcases List.mem_append.mp hy with m | m <;> rcases List.mem_append.mp hy' with m' | m'
        · rw [fset_ne (ne_mem m nz), fset_ne (ne_mem m' nz)] at e
          exact e3 y m y' m' e
        · rw [List.mem_singleton.mp m', fset_same, fset_ne (ne_mem m nz)] at e
          exact absurd e (ne_of_none (e2 y m).2.1 na)
        · rw [List.mem_singleton.mp m, fset_same, fset_ne (ne_mem m' nz)] at e
          exact absurd e.symm (ne_of_none (e2 y' m').2.1 na)
        · rw [List.mem_singleton.mp m, List.mem_singleton.mp m']
    obtain ⟨s1, f, g, rfl, e2, e3⟩ := hI
    rw [List.length_map, List.take_length] at e2 e3 hD
    refine ⟨D, hs.map g, kH hs f, rfl, by rw [List.map_map]; exact SqL.of hD, pair_kH fun z hz => SqT.of (e2 z hz).1, fun rw_ nrw => ?_⟩
    have em := merge_kH (f := f) hs [] nd
    rw [List.nil_append] at em
    rw [show mergeK [] (kH hs f) = kH hs f from em]
    have s2 := same_upd nrw (o := .dK (kH hs f))
    have hrw : upd H' rw_ (.dK (kH hs f)) rw_ = some (.dK (kH hs f)) := upd_same
    have nrw2 := s1.free nrw
    have hl3 := (s1.trans s2) _ _ hl
    have p3 := p2.same (s1.trans s2)
    have c3 := c12.same (s1.trans s2)
    have e4 : ∀ z ∈ hs, upd H' rw_ (.dK (kH hs f)) (f z) = some (.lst []) ∧ H2 (f z) = none := fun z hz => ⟨s2 _ _ (e2 z hz).2.1, (e2 z hz).2.2.1⟩
    have nlr : l ≠ rw_ := ne_of_none (s1 _ _ hl) nrw
    have nfr : ∀ z ∈ hs, f z ≠ rw_ := fun z hz => ne_of_none (e2 z hz).2.1 nrw
    have nfl : ∀ z ∈ hs, f z ≠ l := fun z hz q => by
      have := (e4 z hz).2
      rw [q, hl] at this
      cases this
    generalize upd H' rw_ (.dK (kH hs f)) = H3 at p3 c3 hl3 hrw e4 ⊢
    clear hD s1 s2 nrw hl' nlD nDp nD0 nD
    refine fun ow now => ?_
    have s3 := same_upd now (o := .dK [])
    obtain ⟨p4, c4⟩ := pot_new p3 c3 now (.dK [])
    have how : upd H3 ow (.dK []) ow = _ := upd_same
    refine ⟨_, rfl, _, rfl, fun sl nsl => ?_⟩
    have s4 := same_upd nsl (o := .dK [])
    obtain ⟨p5, c5⟩ := pot_new p4 c4 nsl (.dK [])
    have hsl : upd (upd H3 ow (.dK [])) sl (.dK []) sl = _ := upd_same
    have how5 := s4 _ _ how
    have s34 := s3.trans s4
    have nsl3 := s3.free nsl
    have nos : ow ≠ sl := ne_of_none how nsl
    refine ⟨_, rfl, _, rfl, p, 8, rfl, p5, by decide, by decide, fun d2 H6 hd2 p6 c6 => ?_⟩
    refine ⟨_, _, rfl, rfl, p, 1 + d2, by rw [vi, Int.natCast_add]; rfl, p6, by omega, fun pl ps H7 ln2 nd2 hok2 p7 npl hpl c7 => ?_⟩
    have c67 := c6.trans c7
    have nP : ∀ {x o}, upd (upd H3 ow (.dK [])) sl (.dK []) x = some o → x ≠ p → H7 x = some o := fun e n => c67 _ _ e n
    have owp : ow ≠ p := fun q => by
      obtain ⟨_, _, e, _⟩ := p3
      rw [← q, now] at e
      cases e
    have slp : sl ≠ p := fun q => by
      obtain ⟨_, _, e, _⟩ := p3
      rw [← q, nsl3] at e
      cases e
    have how7 := nP how5 owp
    refine ⟨how7, [(Sum.inr "hands", .ref l), (Sum.inr "rows", .ref rw_), (Sum.inr "slots", .ref sl), (Sum.inr "made", .int 0), (Sum.inr "pool", .ref pl)], rfl, by show 5 ≤ 15; decide, ?_⟩
    have em2 : mergeK [] [((Sum.inr "hands" : Key), V.ref l), (Sum.inr "rows", .ref rw_), (Sum.inr "slots", .ref sl), (Sum.inr "made", .int 0), (Sum.inr "pool", .ref pl)] = okv l rw_ sl 0 pl := by kernel_rfl
    rw [em2]
    have lp : l ≠ p := (p1.ne nl).symm
    have rp : rw_ ≠ p := fun q => by
      obtain ⟨_, _, e, _⟩ := p3
      rw [← q, hrw] at e
      cases e
    have fp : ∀ z ∈ hs, f z ≠ p := fun z hz => (p2.ne (e4 z hz).2).symm
    have plp : pl ≠ p := (p6.ne npl).symm
    have ol : l ≠ ow := ne_of_none hl3 now
    have or : rw_ ≠ ow := ne_of_none hrw now
    have of : ∀ z ∈ hs, f z ≠ ow := fun z hz => ne_of_none (e4 z hz).1 now
    have sll : l ≠ sl := ne_of_none hl3 nsl3
    have slr : rw_ ≠ sl := ne_of_none hrw nsl3
    have slf : ∀ z ∈ hs, f z ≠ sl := fun z hz => ne_of_none (e4 z hz).1 nsl3
    have k6 : ∀ {x o}, upd (upd H3 ow (.dK [])) sl (.dK []) x = some o → x ≠ p → x ≠ pl := fun e n => ne_of_none (c6 _ _ e n) npl
    have pll := k6 (s34 _ _ hl3) lp
    have plr := k6 (s34 _ _ hrw) rp
    have plf : ∀ z ∈ hs, f z ≠ pl := fun z hz => k6 (s34 _ _ (e4 z hz).1) (fp z hz)
    have plo := k6 how5 owp
    have pls := k6 hsl slp
    have hl7 := nP (s34 _ _ hl3) lp
    have hrw7 := nP (s34 _ _ hrw) rp
    have hf7 : ∀ z ∈ hs, H7 (f z) = some (.lst []) := fun z hz => nP (s34 _ _ (e4 z hz).1) (fp z hz)
    have hsl7 := nP hsl slp
    have nl0 := Cp.free c1 p1 nl
    have now0 := Cp.free c3 p3 now
    refine q (orole ow l rw_ f sl pl) hs ps _ ⟨fun r lv => ?_, fun r r' lv lv' e => ?_⟩ (p7.upd owp.symm) ((c5.trans c67).upd (.inr now0)) (fun c hc => ?_) nd (by omega) (by omega) hok hok2 (by omega) (by omega)
    · cases r with
      | own => exact ⟨_, upd_same, rfl⟩
      | hands => exact ⟨_, by show upd _ _ _ l = _; rw [upd_ne ol]; exact hl7, rfl⟩
      | rows => exact ⟨_, by show upd _ _ _ rw_ = _; rw [upd_ne or]; exact hrw7, rfl⟩
      | row h => exact ⟨_, by show upd _ _ _ (f h) = _; rw [upd_ne (of h lv)]; exact hf7 h lv, rfl⟩
      | slots => exact ⟨_, by show upd _ _ _ sl = _; rw [upd_ne nos.symm]; exact hsl7, rfl⟩
      | pool => exact ⟨_, by show upd _ _ _ pl = _; rw [upd_ne plo.symm]; exact hpl, rfl⟩
      | slo t => exact absurd lv (Nat.not_lt_zero _)
    · cases r <;> cases r' <;> first
        | rfl
        | exact absurd lv (Nat.not_lt_zero _)
        | exact absurd lv' (Nat.not_lt_zero _)
        | exact congrArg OR.row (e3 _ lv _ lv' e)
        | exact absurd e (of _ lv)
        | exact absurd e (slf _ lv)
        | exact absurd e (plf _ lv)
        | exact absurd e (nfr _ lv)
        | exact absurd e (nfl _ lv)
        | exact absurd e.symm (of _ lv')
        | exact absurd e.symm (slf _ lv')
        | exact absurd e.symm (plf _ lv')
        | exact absurd e.symm (nfr _ lv')
        | exact absurd e.symm (nfl _ lv')
        | exact absurd e ol
        | exact absurd e.symm ol
        | exact absurd e or
        | exact absurd e.symm or
        | exact absurd e nos
        | exact absurd e.symm nos
        | exact absurd e sll
        | exact absurd e.symm sll
        | exact absurd e slr
        | exact absurd e.symm slr
        | exact absurd e pll
        | exact absurd e.symm pll
        | exact absurd e plr
        | exact absurd e.symm plr
        | exact absurd e plo
        | exact absurd e.symm plo
        | exact absurd e pls
        | exact absurd e.symm pls
        | exact absurd e nlr
        | exact absurd e.symm nlr
    · obtain ⟨r, lv, e⟩ := hc
      cases r with
      | own => exact e ▸ now0
      | hands => exact e ▸ nl0
      | rows => exact e ▸ Cp.free c12 p2 nrw2
      | row h => exact e ▸ Cp.free c12 p2 (e4 h lv).2
      | slots => exact e ▸ Cp.free c4 p4 nsl
      | pool => exact e ▸ Cp.free (c5.trans c6) p6 npl
      | slo t => exact absurd lv (Nat.not_lt_zero _)
end
end Df
/-! set(a list of ints), to be sorted. -/
namespace Df
open PySem PySem.Spec PyProof.Rows L2
/-- a set that is new -/
abbrev nS (w : World) : Obj := { cls := .type "set", dict := none, data := .set #[] 0 (.fresh 0 0 (!w.params.followText "set-order")) }
section
variable {P : Program} {w : World} {A : Around} {E : Value → Shared → Prop} {s : Shared}
theorem set_of_list {l : Addr} {its : Array Value} (ns : List Int) {Q : Value → Shared → Prop} (nh : A.handled = none) (isl : s.heap.IsList l its) (ia : IntsAre its.toList ns) (few : ns.length + 1 < scanBound)
    (done : ∀ (g : Heap) (k c : Nat), SetR w g s.heap.objs.size (fun j => decide (j ∈ ns)) c → c ≤ ns.length → (∀ b o, s.heap.get? b = some o → g.get? b = some o) → Q (.ref s.heap.objs.size) { s with heap := g, toks := k }) :
    wpAny (model P w) A (call (.type "set") [.ref l]) Q E s := by
  have sz : its.size = ns.length := by have z := IntsAre.length ia; rwa [Array.length_toList] at z
  obtain ⟨c0, tl0, mr⟩ := F.called_set.mro
  have md := F.called_set.made; have sb := F.called_set.sub
  refine wpAny_call (codeAny_of_tree (show wpAny _ _ (callAny (.type "set") _) _ _ _ from ?_))
  refine wpAny_pure ⟨Code.quiet_builtin _ (by decide +kernel), codeAny_builtin F.entry_type_call ?_⟩; rw [Around.under_plain (weight_type_call_type "set" [.ref l] []) rfl]
  have nt := F.called_set.notType; have cc := F.called_set.canCreate; have tc := F.typeCall_set_1 (.ref l)
  repeat (any_goals (first | assumption | wp_step))
  refine codeAny_mono (code_set_led1 (.ref l) (E := E) (Q₁ := fun ob s1 => ob = .ref s.heap.objs.size ∧ s1 = { s with heap := s.heap.push (nS w) }) ⟨rfl, rfl⟩) fun r s1 hr => ?_
  rcases r with e | fl
  · exact hr
  · cases fl with
    | ret ob =>
      obtain ⟨rfl, rfl⟩ := hr
      have at0 : (s.heap.push (nS w)).get? s.heap.objs.size = some (nS w) := Heap.get?_push_size _ rfl
      have ty0 : Shared.TypeIs { s with heap := s.heap.push (nS w) } (.ref s.heap.objs.size) "set" := ⟨_, at0, rfl⟩
      have i1 := F.called_set.init.lookup; have i2 := F.called_set.init.bind (.ref s.heap.objs.size)
      repeat (any_goals (first | assumption | wp_step))
      refine codeAny_mono (codeAny_call_builtin (R := wants (fun r s2 => r = .none ∧ ∃ g k c, s2 = { s with heap := g, toks := k } ∧ SetR w g s.heap.objs.size (fun j => decide (j ∈ ns)) c ∧ c ≤ ns.length ∧ (∀ b o, s.heap.get? b = some o → g.get? b = some o)) E) F.called_set.init.plain F.entry_set_init (check_set_init_1 ty0 ?_)) fun r2 s2 hr2 => ?_
      · obtain ⟨⟨cls, dict, data, sl⟩, hol, hcl, n1, hdl⟩ := isl
        simp only at hcl hdl
        subst hcl hdl
        have hol1 : (s.heap.push (nS w)).get? l = some { cls := .type "list", dict := dict, data := .seq its n1, slots := sl } := Heap.get?_push_of_some _ hol
        have u1 := F.sub_list_set; have u2 := F.sub_list_frozenset
        have u3 : (Value.type "list" == Value.type "dict") = false := by decide
        have isl1 : (s.heap.push (nS w)).IsList l its := ⟨_, hol1, rfl, n1, rfl⟩
        unfold Builtin.«set.__init__» noKeywords Builtin.Frozenset.updateFrom
        generalize eP : pyIter = PI
        wp_walk
        subst eP
        refine wpAny_pyIter_list isl1 (wpAny_bind (wpAny_runValue ?_))
        have ll : l < s.heap.objs.size := Heap.lt_size hol
        have n3 : A.in1.in1.in1.handled = none := by simp [nh]
        have nI : l ≠ (s.heap.push (nS w)).objs.size := by rw [Heap.size_push]; exact Nat.ne_of_lt (Nat.lt_succ_of_lt ll)
        have nF : s.heap.objs.size ∉ [(s.heap.push (nS w)).objs.size, l] := by
          rw [Heap.size_push]
          intro z
          rcases List.mem_cons.mp z with z | z
          · exact absurd z (Nat.ne_of_lt (Nat.lt_succ_self _))
          · exact absurd (List.mem_singleton.mp z) (Nat.ne_of_gt ll)
        have vals : ∀ (i : Nat) (v : Value), its[i]? = some v → ∃ k t, ns[i]? = some k ∧ v = .int k t := fun i v hv => by
          have hi : i < ns.length := by
            have := (Array.getElem?_eq_some_iff.mp hv).1
            omega
          obtain ⟨t, e⟩ := PyProof.Rows.IntsAre.int_at ia i v (by rw [Array.getElem?_toList, hv])
          exact ⟨ns[i], t, List.getElem?_eq_getElem hi, by rw [e, List.getD_eq_getElem?_getD, List.getElem?_eq_getElem hi]; rfl⟩
        refine set_update_ints ((Walks.list n3 _ l nI its).toS) s.heap.objs.size nF ns sz few vals (its.size - 0) 0 _ (by omega) (Nat.zero_le _) ⟨⟨_, Heap.get?_push_size _ rfl, rfl, rfl⟩, (isl1.push _)⟩ ?start ?stop
        case start => exact ⟨0, Nat.le_refl 0, setR_new_at (Heap.get?_push_of_some _ at0)⟩
        case stop =>
          intro s3 c3 mv le3 S3
          obtain ⟨g3, gens3, dr3, k3, os3⟩ := s3
          have q1 : gens3 = s.gens := mv.gens
          have q2 : dr3 = s.drawn := mv.drawn
          have q3 : os3 = s.os := mv.os
          subst q1 q2 q3
          refine (show wpAny _ _ _ _ _ _ from wpAny_pure (show wpAny _ _ (ret Value.none) _ _ _ from ?_))
          rw [sz] at le3
          refine wpAny_pure ⟨rfl, g3, k3, c3, rfl, S3, le3, fun b o e => ?_⟩
          have lb : b < s.heap.objs.size := Heap.lt_size e
          refine mv.heap b o (fun z => ?_) (Heap.get?_push_of_some _ (Heap.get?_push_of_some _ e))
          rcases List.mem_cons.mp z with z | z
          · exact absurd z (Nat.ne_of_lt lb)
          · have z := List.mem_singleton.mp z
            rw [Heap.size_push] at z
            exact absurd z (Nat.ne_of_lt (Nat.lt_succ_of_lt lb))
      · rcases r2 with e | fl2
        · exact hr2
        · cases fl2 with
          | ret r =>
            obtain ⟨rfl, g, k, c, rfl, S3, le3, k3⟩ := hr2
            repeat (any_goals (first | assumption | wp_step))
            exact done _ _ _ S3 le3 k3
          | _ => exact hr2.elim
    | _ => exact hr.elim
end
section
variable {X : Cx}
theorem cr_setL (hc : X.calm = true) : CallR X (.type "set") (fun xs H Q => ∃ (l : Addr) (ns : List Int), xs = [.ref l] ∧ SqL X.K H l (ns.map V.int) ∧ ns.length ≤ 1000 ∧ ∀ p n, H p = none → n ≤ ns.length → Q (.ref p) (upd H p (SetO X.w p (fun j => decide (j ∈ ns)) n))) := by
  intro pins s σ H xs us Q I r h
  obtain ⟨l, ns, rfl, hq, hl, q⟩ := h
  obtain ⟨u, rfl, ru⟩ := r.one
  cases ru
  obtain ⟨its, rv, pl, hz⟩ := I.list hq
  refine set_of_list ns (I.ok.hd hc) (show s.heap.IsList l its.toArray from pl.isList) (ints_of_vals rv) (by unfold scanBound; omega) fun g k c R le kk => ?_
  exact ⟨.ref _, upd H s.heap.objs.size (SetO X.w s.heap.objs.size (fun j => decide (j ∈ ns)) c), I.laid (t' := k) kk (Nat.le_refl _) (setO_new R), rfl, q _ _ (I.hok.fresh (Nat.le_refl _)) le⟩
end
end Df
/-! What holds a thing, by the law's own state. -/
namespace Df
open PySem PySem.Spec PyProof.Rows L2
/-- what holds t -/
def OH (o : OS) (t : Nat) (g : Hold) : Prop := (g = [] ∧ ∃ h ∈ o.hs, t ∈ o.R h) ∨ ∃ ow < o.n, ∃ e ∈ o.S ow, (t, g) ∈ e.2.holds ow
theorem Rel.holds {s : PS} {o : OS} (r : Rel s o) {t : Nat} {g : Hold} : g ∈ s.K t ↔ OH o t g := by
  rw [r.K.mem, r.hs, r.n]
  refine or_congr (and_congr_right fun _ => ?_) ?_
  · exact ⟨fun ⟨h, h1, h2⟩ => ⟨h, h1, by rw [← r.R h h1]; exact h2⟩, fun ⟨h, h1, h2⟩ => ⟨h, h1, by rw [r.R h h1]; exact h2⟩⟩
  · constructor
    · rintro ⟨ow, h1, ⟨k, v⟩, h2, h3⟩
      have l := mem_look (r.sS ow h1).nd h2
      rw [r.S ow h1] at l
      exact ⟨ow, h1, (k, v), look_mem l, h3⟩
    · rintro ⟨ow, h1, ⟨k, v⟩, h2, h3⟩
      have l := mem_look (r.oS ow h1).nd h2
      rw [← r.S ow h1] at l
      exact ⟨ow, h1, (k, v), look_mem l, h3⟩
/-- holds found so far, in a list at F; D: what is locked -/
structure FI (H : Hp) (F : Addr) (D : Addr → Prop) (P : Hold → Prop) (es : List (Addr × Hold)) (H' : Hp) : Prop where
  k : Chg D H H'
  f : H' F = some (.lst (es.map fun e => V.ref e.1))
  t : ∀ e ∈ es, H' e.1 = some (.tup (e.2.map vi))
  g : ∀ g, g ∈ es.map (·.2) ↔ P g
section
variable {H H' H1 : Hp} {F : Addr} {D : Addr → Prop} {P P' : Hold → Prop} {es : List (Addr × Hold)}
theorem FI.cong (A : FI H F D P es H') (h : ∀ g, P g ↔ P' g) : FI H F D P' es H' := ⟨A.k, A.f, A.t, fun g => (A.g g).trans (h g)⟩
theorem FI.same (A : FI H F D P es H') (s : Same H' H1) : FI H F D P es H1 := ⟨A.k.same s, s _ _ A.f, fun e he => s _ _ (A.t e he), A.g⟩
theorem FI.lock (A : FI H F D P es H') {c : Addr} {u : HO} (hc : H' c = some u) (nF : c ≠ F) (nt : HO.isTup u = false) (od : Obj) : FI H F (fun x => D x ∨ x = c) P es (upd H' c (.frz od u)) := by
  refine ⟨fun x o e n => ?_, by rw [upd_ne nF.symm]; exact A.f, fun e he => ?_, A.g⟩
  · rw [upd_ne fun z => n (.inr z)]
    exact A.k x o e fun z => n (.inl z)
  · rw [upd_ne fun z => ?_]
    · exact A.t e he
    · have := A.t e he
      rw [z, hc] at this
      rw [Option.some.inj this] at nt
      cases nt
theorem FI.unlock {c : Addr} {u : HO} {od : Obj} (A : FI H F (fun x => D x ∨ x = c) P es H') (h0 : H c = some u) (hc : H' c = some (.frz od u)) (nF : c ≠ F) : FI H F D P es (upd H' c u) := by
  refine ⟨fun x o e n => ?_, by rw [upd_ne nF.symm]; exact A.f, fun e he => ?_, A.g⟩
  · by_cases z : x = c
    · rw [z, upd_same]
      rw [z, h0] at e
      exact e
    · rw [upd_ne z]
      exact A.k x o e fun q => q.elim n z
  · rw [upd_ne fun z => ?_]
    · exact A.t e he
    · have := A.t e he
      rw [z, hc] at this
      cases this
theorem FI.add (A : FI H F D P es H') (nF : H F = none) {a : Addr} (na : H' a = none) (g0 : Hold) :
    FI H F D (fun g => P g ∨ g = g0) (es ++ [(a, g0)]) (upd (upd H' a (.tup (g0.map vi))) F (.lst ((es.map fun e => V.ref e.1) ++ [.ref a]))) ∧ upd H' a (.tup (g0.map vi)) F = some (.lst (es.map fun e => V.ref e.1)) := by
  have s1 := same_upd na (o := .tup (g0.map vi))
  have h1 := s1 _ _ A.f
  refine ⟨⟨(A.k.same s1).upd (.inr nF), by rw [upd_same, List.map_append]; rfl, fun e he => ?_, fun g => ?_⟩, h1⟩
  · rcases List.mem_append.mp he with z | z
    · exact tup_upd (s1 _ _ (A.t e z)) (.inr ⟨_, h1⟩)
    · rw [List.mem_singleton.mp z]
      exact tup_upd upd_same (.inr ⟨_, h1⟩)
  · rw [List.map_append, List.mem_append, A.g g]
    exact or_congr Iff.rfl List.mem_singleton
end
theorem joint_set {o y : Nat} {ns : List Int} (w : ns.Pairwise (· < ·)) (m : ∀ k : Int, k ∈ ns ↔ decide (k ∈ [(o : Int), (y : Int)]) = true) : ns.map V.int = (joint o y).map vi := by
  have e : (joint o y).map vi = ((joint o y).map fun (t : Nat) => (t : Int)).map V.int := by
    rw [List.map_map]
    rfl
  rw [e]
  congr 1
  have js : (joint o y).Pairwise (· < ·) := by
    unfold joint
    split
    · exact List.pairwise_singleton _ _
    · split <;> simp <;> omega
  have js2 : ((joint o y).map fun (t : Nat) => (t : Int)).Pairwise (· < ·) := List.pairwise_map.mpr (js.imp fun h => Int.ofNat_lt.mpr h)
  have mem : ∀ k : Int, k ∈ (joint o y).map (fun (t : Nat) => (t : Int)) ↔ k ∈ ns := fun k => by
    rw [m k, decide_eq_true_eq]
    unfold joint
    split
    · rename_i h
      subst h
      simp
    · split
      · simp
      · simp only [List.map_cons, List.map_nil, List.mem_cons, List.not_mem_nil, or_false]
        exact or_comm
  exact (List.Perm.eq_of_pairwise (le := fun a b : Int => a < b) (fun a b _ _ h1 h2 => absurd h1 (Int.lt_asymm h2)) js2 w ((List.perm_ext_iff_of_nodup (js2.imp fun h => Int.ne_of_lt h) (w.imp fun h => Int.ne_of_lt h)).mpr mem)).symm
theorem own_rows {H : Hp} {x a b c d : Addr} {z : Nat} (e : H x = some (.dK (okv a b c z d))) : DGet H x (.str "rows") (some (.ref b)) := by
  have q := DGet.k (k := Sum.inr "rows") e
  rw [okv_rows] at q
  exact q
theorem own_slots {H : Hp} {x a b c d : Addr} {z : Nat} (e : H x = some (.dK (okv a b c z d))) : DGet H x (.str "slots") (some (.ref c)) := by
  have q := DGet.k (k := Sum.inr "slots") e
  rw [okv_slots] at q
  exact q
section
variable {P : Program} {w : World} {K : PySem.W.Frag} {mg : Str → Option Value} {base : Heap}
abbrev N_L_holds : List Str := ["_law_own", "_law_piece", "_law_found", "_law_row", "_law_owner", "_law_slots", "_law_one"]
theorem sc_L_holds : FnScope N_L_holds ["_law_own", "_law_piece"] (defScope s_L_holds) := ⟨rfl, rfl, rfl, by decide +kernel, rfl, by decide +kernel, by decide +kernel⟩
def spHolds : Sp := fun vs H Q _ => ∃ (β : OV) (s : PS) (o : OS) (t : Nat), vs = [.ref (β .own), vi t] ∧ OA β o H ∧ Rel s o ∧ ∀ (l : Addr) (es : List (Addr × Hold)) H', Same H H' → H l = none → H' l = some (.lst (es.map fun e => V.ref e.1)) → (∀ e ∈ es, H' e.1 = some (.tup (e.2.map vi))) → (∀ g, g ∈ es.map (·.2) ↔ OH o t g) → es.length ≤ 1000 → Q (.ref l) H'
theorem ok_L_holds (T : Tx K mg) : Cl P w K mg base "_law_holds" 1 ["_law_own", "_law_piece"] spHolds := by
  refine Cl.of T.f_L_holds T.gl_L_holds sc_L_holds (fun _ _ _ _ _ _ us hl => match us, hl with | [_, _], _ => rfl) (fun vs H Q E h => ?_) (fun cdv A outer s H vs Q E hr h => ?_)
  · obtain ⟨β, s, o, t, rfl, _⟩ := h
    rfl
  · obtain ⟨β, s, o, t, rfl, a, r, q⟩ := h
    have hu := hu_of hr
    refine ⟨_, (pss_cons (ps_set (i := 2) sc_L_holds.nd rfl (Or.inl rfl) (pe_lst pa_nil))
      (pss_cons (ps_lock (ps_for PassesOwn.never rfl (pi_values (pe_dget hu (pv 0) pe_str (fun _ _ => rfl))) (pg_name (i := 3) sc_L_holds.nd rfl (Or.inl rfl)) (pss_one (ps_expr (pe_bm PySem.F.plainAttrs_list PySem.F.slot_list_extend PySem.F.type_list_extend mt_extend (pv 2) (pa_cons (pe_lc (own := [("_law_one", 6)]) rfl sc_L_holds.nd (pi_list (pv 3)) (blkOk_by (own := [("_law_one", 6)]) (N := N_L_holds) (sc := defScope s_L_holds) (by decide +kernel)) (fun _ _ _ _ _ => pg_name (i := 6) sc_L_holds.nd rfl (Or.inl rfl)) (fun _ _ _ _ _ => pts_one (pt_cmpR op_eq (pv 6) (pv 1) (nomark _))) (fun _ _ _ _ _ => pe_tup pa_nil)) pa_nil))))))
      (pss_cons (ps_lock (ps_for PassesOwn.never rfl (pi_items (pe_dget hu (pv 0) pe_str (fun _ _ => rfl))) (pg_tup (by rfl) (pgs_cons (pg_name (i := 4) sc_L_holds.nd rfl (Or.inl rfl)) (pgs_cons (pg_name (i := 5) sc_L_holds.nd rfl (Or.inl rfl)) pgs_nil))) (pss_one (ps_lock (ps_for PassesOwn.never rfl (pi_values (pv 5)) (pg_name (i := 3) sc_L_holds.nd rfl (Or.inl rfl)) (pss_cons (ps_if (PW.pt (pw_and (pt_cmpR op_eq (pe_ix ix_tup (pv 3) pe_int (fun _ _ => rfl)) pe_str (nomark _)) (pw_and1 (pt_cmpR op_eq (pe_ix ix_tup (pv 3) pe_int (fun _ _ => rfl)) (pv 1) (nomark _))))) (pss_one (ps_expr (pe_bm PySem.F.plainAttrs_list PySem.F.slot_list_append PySem.F.type_list_append mt_append (pv 2) (pa_cons (pe_tup (pa_cons (pv 4) pa_nil)) pa_nil)))) pss_nil)
      (pss_one (ps_if (PW.pt (pw_and (pt_cmpR op_eq (pe_ix ix_tup (pv 3) pe_int (fun _ _ => rfl)) pe_str (nomark _)) (pw_and1 (pt_cmpR op_eq (pe_ix ix_tup (pv 3) pe_int (fun _ _ => rfl)) (pv 1) (nomark _))))) (pss_one (ps_expr (pe_bm PySem.F.plainAttrs_list PySem.F.slot_list_append PySem.F.type_list_append mt_append (pv 2) (pa_cons (pe_tupleOf (by rfl) T.b_tuple (pe_callB (cr_sortedSet rfl) (by rfl) T.b_sorted (by decide +kernel) (pa_cons (pe_callTy (cr_setL rfl) (by rfl) T.b_set (by decide +kernel) (pa_cons (pe_lst (pa_cons (pv 4) (pa_cons (pe_ix ix_tup (pv 3) pe_int (fun _ _ => rfl)) pa_nil))) pa_nil)) pa_nil))) pa_nil)))) pss_nil))))))))
      (pss_one (ps_ret (pe_callB (cr_sortedH hr.units) (by rfl) T.b_sorted (by decide +kernel) (pa_cons (pv 2) pa_nil))))))), ?_⟩
    have h6 := r.h6
    have n40 := r.n40
    refine ⟨Nat.zero_le _, fun F nF => ?_⟩
    have s0 := same_upd nF (o := .lst [])
    have hrows := a.rows
    have nrF : β .rows ≠ F := ne_of_none hrows nF
    have nsF : β .slots ≠ F := ne_of_none a.slots nF
    have A0 : FI H F (fun _ => False) (fun g => g = [] ∧ ∃ h ∈ o.hs.take 0, t ∈ o.R h) [] (upd H F (.lst [])) := ⟨fun c u e _ => s0 c u e, upd_same, fun _ z => absurd z List.not_mem_nil, fun g => ⟨fun z => absurd z List.not_mem_nil, fun ⟨_, h, z, _⟩ => absurd z List.not_mem_nil⟩⟩
    refine ⟨β .rows, _, s0 _ _ hrows, trivial, fun od => ?_⟩
    have A1 := A0.lock (s0 _ _ hrows) nrF rfl od
    have nro : β .own ≠ β .rows := fun z => by cases a.inj .own .rows trivial trivial z
    have nso : β .own ≠ β .slots := fun z => by cases a.inj .own .slots trivial trivial z
    have hfr : upd (upd H F (.lst [])) (β .rows) (.frz od (.dK (kH o.hs fun h => β (.row h)))) (β .rows) = _ := upd_same
    have own1 : ∀ H' es P, FI H F (fun x => False ∨ x = β .rows) P es H' → H' (β .own) = some (.dK (okv (β .hands) (β .rows) (β .slots) o.md (β .pool))) := fun H' es P A => A.k _ _ a.own fun z => z.elim id nro
    refine ⟨_, rfl, _, _, rfl, own_rows (own1 _ _ _ A1), _, _, _, rfl, hfr, ?_⟩
    refine for_it (walk_values (kvs := kH o.hs fun h => β (.row h))) (fun i σ H' => ∃ (es : List (Addr × Hold)) (x3 : Option V), σ = [some (.ref (β .own)), some (vi t), some (.ref F), x3, none, none, none] ∧ FI H F (fun x => False ∨ x = β .rows) (fun g => g = [] ∧ ∃ h ∈ o.hs.take i, t ∈ o.R h) es H' ∧ H' (β .rows) = some (.frz od (.dK (kH o.hs fun h => β (.row h)))) ∧ es.length ≤ 30 * i)
      ⟨[], none, rfl, A1, hfr, Nat.le_refl _⟩ (fun i σ H' _ h => by obtain ⟨_, _, _, _, h, _⟩ := h; exact h) (fun i x σ H' H'' hi hp y => ?_) (fun σ H' hp => ?_)
    · obtain ⟨es, x3, rfl, A, hf, le⟩ := hp
      obtain ⟨rfl, k, hx⟩ := y
      have hi' : i < o.hs.length := by unfold kH at hi; rw [List.length_map] at hi; exact hi
      obtain ⟨z, hz⟩ : ∃ z, o.hs[i]? = some z := ⟨_, List.getElem?_eq_getElem hi'⟩
      have ex : x = .ref (β (.row z)) := by
        unfold kH at hx
        rw [List.getElem?_map, hz] at hx
        exact (Prod.mk.inj (Option.some.inj hx)).2.symm
      subst ex
      have hzm := List.mem_of_getElem? hz
      have hR0 := a.row hzm
      have hR : H'' (β (.row z)) = some (.lst ((o.R z).map vi)) := A.k _ _ hR0 fun q => q.elim id fun q => by cases a.inj (.row z) .rows hzm trivial q
      have lR := r.len z hzm
      have et : o.hs.take (i + 1) = o.hs.take i ++ [z] := by rw [List.take_add_one, hz]; rfl
      refine ⟨_, rfl, .inl ⟨rfl, _, SqL.of A.f⟩, _, rfl, _, rfl, ⟨_, SqL.of hR⟩, fun D nD => ?_⟩
      refine lc_cps (walk_list (xs := (o.R z).map vi)) (by rw [List.length_map, sizeLine_eq]; omega) (fun j l H3 => Same H'' H3 ∧ ∃ as : List Addr, l = as.map V.ref ∧ (∀ a ∈ as, H3 a = some (.tup [])) ∧ (as ≠ [] ↔ t ∈ (o.R z).take j) ∧ as.length ≤ j)
        ⟨same_upd nD, [], rfl, (fun _ z => absurd z List.not_mem_nil), ⟨fun z => absurd rfl z, fun z => absurd z List.not_mem_nil⟩, Nat.le_refl _⟩ (fun j l H3 x hD hI => ?_) (fun j l H3 _ hI => SqL.of (hI.1 _ _ hR)) (fun j l x H3 H4 hj hI hD y Kk B hK hB => ?_) (fun l H3 hl hI hD => ?_)
      · obtain ⟨s1, as, e1, e2, e3, e4⟩ := hI
        exact ⟨same_put s1 nD, as, e1, fun b hb => tup_upd (e2 b hb) (.inr ⟨_, hD⟩), e3, e4⟩
      · obtain ⟨s1, as, rfl, e2, e3, e4⟩ := hI
        obtain ⟨rfl, hx⟩ := y
        have hj' : j < (o.R z).length := by rw [List.length_map] at hj; exact hj
        obtain ⟨u, hu2⟩ : ∃ u, (o.R z)[j]? = some u := ⟨_, List.getElem?_eq_getElem hj'⟩
        have ex : x = vi u := by
          rw [List.getElem?_map, hu2] at hx
          exact (Option.some.inj hx).symm
        subst ex
        have et2 : (o.R z).take (j + 1) = (o.R z).take j ++ [u] := by rw [List.take_add_one, hu2]; rfl
        refine ⟨rfl, _, rfl, _, rfl, rfl, _, rfl, ?_⟩
        rw [vi_eq]
        by_cases e : u = t
        · rw [decide_eq_true e]
          refine iteT ?_
          refine ⟨Nat.zero_le _, fun c nc => ?_⟩
          refine hK _ _ (same_upd nc _ _ hD) ⟨s1.trans (same_upd nc), as ++ [c], by rw [List.map_append]; rfl, fun b hb => ?_, ⟨fun _ => ?_, fun _ z => ?_⟩, by rw [List.length_append]; exact Nat.succ_le_succ e4⟩
          · rcases List.mem_append.mp hb with m | m
            · exact same_upd nc _ _ (e2 b m)
            · rw [List.mem_singleton.mp m]
              exact upd_same
          · rw [et2, e]
            exact List.mem_append_right _ List.mem_cons_self
          · exact absurd (List.append_eq_nil_iff.mp z).2 (by nofun)
        · rw [decide_eq_false e]
          refine iteF ?_
          refine hB _ hD ⟨s1, as, rfl, e2, ?_, Nat.le_succ_of_le e4⟩
          rw [et2, List.mem_append, e3]
          exact ⟨.inl, fun z => z.elim id fun z => absurd (List.mem_singleton.mp z).symm e⟩
      obtain ⟨s1, as, rfl, e2, e3, e4⟩ := hI
      rw [List.length_map, List.take_length] at e3
      rw [List.length_map] at e4
      have A3 := A.same s1
      refine ⟨F, D, _, _, rfl, rfl, A3.f, hD, by rw [List.length_map, List.length_map, sizeLine_eq]; omega, ?_⟩
      have ei : i < 6 := by omega
      refine ⟨es ++ as.map fun b => (b, []), _, rfl, ⟨A3.k.upd (.inr nF), by rw [upd_same, List.map_append, List.map_map]; rfl, fun e he => ?_, fun g => ?_⟩, by rw [upd_ne nrF]; exact s1 _ _ hf, by rw [List.length_append, List.length_map]; omega⟩
      · rcases List.mem_append.mp he with m | m
        · exact tup_upd (A3.t e m) (.inr ⟨_, A3.f⟩)
        · obtain ⟨b, hb, rfl⟩ := List.mem_map.mp m
          exact tup_upd (e2 b hb) (.inr ⟨_, A3.f⟩)
      · rw [List.map_append, List.mem_append, A.g g, List.map_map, et]
        constructor
        · rintro (⟨rfl, h, h1, h2⟩ | m)
          · exact ⟨rfl, h, List.mem_append_left _ h1, h2⟩
          · obtain ⟨b, hb, rfl⟩ := List.mem_map.mp m
            exact ⟨rfl, z, List.mem_append_right _ List.mem_cons_self, e3.mp fun q => by rw [q] at hb; cases hb⟩
        · rintro ⟨rfl, h, h1, h2⟩
          rcases List.mem_append.mp h1 with m | m
          · exact .inl ⟨rfl, h, m, h2⟩
          · rw [List.mem_singleton.mp m] at h2
            obtain ⟨b, hb⟩ := List.exists_mem_of_ne_nil _ (e3.mpr h2)
            exact .inr (List.mem_map.mpr ⟨b, hb, rfl⟩)
    obtain ⟨es, x3, rfl, A, hf, le⟩ := hp
    have lk : (kH o.hs fun h => β (.row h)).length = o.hs.length := by unfold kH; rw [List.length_map]
    rw [lk, List.take_length] at A
    rw [lk] at le
    refine ⟨hf, ?_⟩
    have A := A.unlock hrows hf nrF
    generalize upd H' (β .rows) (.dK (kH o.hs fun h => β (.row h))) = H1 at A ⊢
    have hsl := A.k _ _ a.slots fun z => z
    refine ⟨β .slots, _, hsl, trivial, fun od2 => ?_⟩
    have B1 := A.lock hsl nsF rfl od2
    have hfs : upd H1 (β .slots) (.frz od2 (.dK (kT o.n fun t => .ref (β (.slo t))))) (β .slots) = _ := upd_same
    have own2 : ∀ H' es P, FI H F (fun x => False ∨ x = β .slots) P es H' → H' (β .own) = some (.dK (okv (β .hands) (β .rows) (β .slots) o.md (β .pool))) := fun H' es P A => A.k _ _ a.own fun z => z.elim id nso
    refine ⟨_, rfl, _, _, rfl, own_slots (own2 _ _ _ B1), _, _, _, rfl, hfs, ?_⟩
    refine for_it (walk_items (kvs := kT o.n fun t => .ref (β (.slo t)))) (fun i σ H' => ∃ (es : List (Addr × Hold)) (x3 x4 x5 : Option V), σ = [some (.ref (β .own)), some (vi t), some (.ref F), x3, x4, x5, none] ∧ FI H F (fun x => False ∨ x = β .slots) (fun g => (g = [] ∧ ∃ h ∈ o.hs, t ∈ o.R h) ∨ ∃ ow < i, ∃ e ∈ o.S ow, (t, g) ∈ e.2.holds ow) es H' ∧ H' (β .slots) = some (.frz od2 (.dK (kT o.n fun t => .ref (β (.slo t))))) ∧ es.length ≤ 200 + 8 * i)
      ⟨es, x3, none, none, rfl, B1.cong fun g => ⟨.inl, fun z => z.elim id fun ⟨ow, z, _⟩ => absurd z (Nat.not_lt_zero _)⟩, hfs, by omega⟩ (fun i σ H' _ h => by obtain ⟨_, _, _, _, _, _, h, _⟩ := h; exact h) (fun i x σ H' H'' hi hp y => ?_) (fun σ H' hp => ?_)
    · obtain ⟨es, x3, x4, x5, rfl, A, hf, le⟩ := hp
      obtain ⟨c, x, y, rfl, nc, rfl, gx, gy⟩ := y
      have hi' : i < o.n := by rw [len_kT] at hi; exact hi
      have gi : (kT o.n fun t => V.ref (β (.slo t)))[i]? = some (Sum.inl (i : Int), .ref (β (.slo i))) := by
        unfold kT
        rw [List.getElem?_map, List.getElem?_range hi']
        rfl
      have ex : x = vi i := by
        have gx' : ((kT o.n fun t => V.ref (β (.slo t)))[i]?).map (fun kv => kV kv.1) = some x := gx
        rw [gi] at gx'
        exact (Option.some.inj gx').symm
      have ey : y = .ref (β (.slo i)) := by
        have gy' : ((kT o.n fun t => V.ref (β (.slo t)))[i]?).map Prod.snd = some y := gy
        rw [gi] at gy'
        exact (Option.some.inj gy').symm
      subst ex ey
      have sc := same_upd nc (o := .tup [vi i, .ref (β (.slo i))])
      have A := A.same sc
      have hf := sc _ _ hf
      refine ⟨c, _, rfl, SqT.of upd_same, rfl, _, _, rfl, _, _, rfl, rfl, ?_⟩
      generalize upd H' c (.tup [vi i, .ref (β (.slo i))]) = H2 at A hf ⊢
      obtain ⟨es2, e1, e2, e3⟩ := a.slo hi'
      have nss : β (.slo i) ≠ β .slots := fun z => by cases a.inj (.slo i) .slots hi' trivial z
      have niF : β (.slo i) ≠ F := ne_of_none e2 nF
      have e2' := A.k _ _ e2 fun z => z.elim id nss
      refine ⟨β (.slo i), _, e2', trivial, fun od3 => ?_⟩
      have C1 := A.lock e2' niF rfl od3
      have hfi : upd H2 (β (.slo i)) (.frz od3 (.dK (es2.map fun e => (Sum.inr e.1, V.ref e.2.1)))) (β (.slo i)) = _ := upd_same
      have l8 : (o.S i).length ≤ 8 := Nat.le_trans (r.oS i hi').len r.p8
      have les : es2.length = (o.S i).length := by rw [← e1, List.length_map]
      refine ⟨_, rfl, _, _, _, rfl, hfi, ?_⟩
      refine for_it (walk_values (kvs := es2.map fun e => ((Sum.inr e.1 : Key), V.ref e.2.1))) (fun j σ H' => ∃ (es : List (Addr × Hold)) (x3 : Option V), σ = [some (.ref (β .own)), some (vi t), some (.ref F), x3, some (vi i), some (.ref (β (.slo i))), none] ∧ FI H F (fun x => (False ∨ x = β .slots) ∨ x = β (.slo i)) (fun g => ((g = [] ∧ ∃ h ∈ o.hs, t ∈ o.R h) ∨ ∃ ow < i, ∃ e ∈ o.S ow, (t, g) ∈ e.2.holds ow) ∨ ∃ e ∈ (o.S i).take j, (t, g) ∈ e.2.holds i) es H' ∧ H' (β .slots) = some (.frz od2 (.dK (kT o.n fun t => .ref (β (.slo t))))) ∧ H' (β (.slo i)) = some (.frz od3 (.dK (es2.map fun e => (Sum.inr e.1, V.ref e.2.1)))) ∧ es.length ≤ 200 + 8 * i + j)
        ⟨es, x3, rfl, C1.cong fun g => ⟨.inl, fun z => z.elim id fun ⟨e, z, _⟩ => absurd z List.not_mem_nil⟩, by rw [upd_ne nss.symm]; exact hf, hfi, le⟩ (fun j σ H' _ h => by obtain ⟨_, _, _, _, _, h, _⟩ := h; exact h) (fun j x σ H' H'' hj hp y => ?_) (fun σ H' hp => ?_)
      · obtain ⟨es, x3, rfl, A, hf, hf3, le⟩ := hp
        obtain ⟨rfl, kk, hx⟩ := y
        have hj' : j < es2.length := by rw [List.length_map] at hj; exact hj
        obtain ⟨⟨k, b, sl⟩, hz⟩ : ∃ z, es2[j]? = some z := ⟨_, List.getElem?_eq_getElem hj'⟩
        have ex : x = .ref b := by
          rw [List.getElem?_map, hz] at hx
          exact (Prod.mk.inj (Option.some.inj hx)).2.symm
        subst ex
        have hb0 := e3 _ (List.mem_of_getElem? hz)
        have hb : H'' b = some (.tup sl.v) := A.k _ _ hb0 fun z => by
          rcases z with (z | z) | z
          · exact z
          · exact a.tup_keep hb0 ⟨.slots, trivial, z.symm⟩
          · exact a.tup_keep hb0 ⟨.slo i, hi', z.symm⟩
        have gj : (o.S i)[j]? = some (k, sl) := by rw [← e1, List.getElem?_map, hz]; rfl
        have et : (o.S i).take (j + 1) = (o.S i).take j ++ [(k, sl)] := by rw [List.take_add_one, gj]; rfl
        have hlen : (es.map fun e => V.ref e.1).length < sizeLine := by rw [List.length_map, sizeLine_eq]; omega
        have no : (∀ g, ¬ (t, g) ∈ sl.holds i) → FI H F (fun x => (False ∨ x = β .slots) ∨ x = β (.slo i)) (fun g => ((g = [] ∧ ∃ h ∈ o.hs, t ∈ o.R h) ∨ ∃ ow < i, ∃ e ∈ o.S ow, (t, g) ∈ e.2.holds ow) ∨ ∃ e ∈ (o.S i).take (j + 1), (t, g) ∈ e.2.holds i) es H'' := fun h => A.cong fun g => or_congr Iff.rfl (by
          rw [et]
          constructor
          · rintro ⟨e, m, z⟩
            exact ⟨e, List.mem_append_left _ m, z⟩
          · rintro ⟨e, m, z⟩
            rcases List.mem_append.mp m with m | m
            · exact ⟨e, m, z⟩
            · rw [List.mem_singleton.mp m] at z
              exact absurd z (h g))
        have yes : ∀ (g0 : Hold) g, (∀ g, (t, g) ∈ sl.holds i ↔ g = g0) → (((((g = [] ∧ ∃ h ∈ o.hs, t ∈ o.R h) ∨ ∃ ow < i, ∃ e ∈ o.S ow, (t, g) ∈ e.2.holds ow) ∨ ∃ e ∈ (o.S i).take j, (t, g) ∈ e.2.holds i) ∨ g = g0) ↔ (((g = [] ∧ ∃ h ∈ o.hs, t ∈ o.R h) ∨ ∃ ow < i, ∃ e ∈ o.S ow, (t, g) ∈ e.2.holds ow) ∨ ∃ e ∈ (o.S i).take (j + 1), (t, g) ∈ e.2.holds i)) := fun g0 g h => by
          rw [or_assoc, et]
          refine or_congr Iff.rfl ?_
          constructor
          · rintro (⟨e, m, z⟩ | z)
            · exact ⟨e, List.mem_append_left _ m, z⟩
            · exact ⟨_, List.mem_append_right _ List.mem_cons_self, (h g).mpr z⟩
          · rintro ⟨e, m, z⟩
            rcases List.mem_append.mp m with m | m
            · exact .inl ⟨e, m, z⟩
            · rw [List.mem_singleton.mp m] at z
              exact .inr ((h g).mp z)
        cases sl with
        | pl u =>
          have hb : H'' b = some (.tup [.str "plain", vi u]) := hb
          refine ⟨_, rfl, _, _, _, _, rfl, rfl, SqT.of hb, rfl, rfl, _, rfl, ?_⟩
          refine iteT ?_
          refine ⟨_, rfl, _, _, _, _, rfl, rfl, SqT.of hb, rfl, _, rfl, rfl, _, rfl, ?_⟩
          rw [vi_eq]
          by_cases e : u = t
          · rw [decide_eq_true e]
            refine iteT ?_
            refine ⟨_, rfl, .inl ⟨rfl, _, SqL.of A.f⟩, _, rfl, by show 1 ≤ sizeLine; decide, fun c nc => ?_⟩
            obtain ⟨A2, hF2⟩ := A.add nF nc [i]
            refine ⟨_, _, _, rfl, rfl, hF2, hlen, ?_⟩
            have hb2 := tup_upd (same_upd nc (o := .tup ([i].map vi)) _ _ hb) (.inr ⟨_, hF2⟩) (o := .lst ((es.map fun e => V.ref e.1) ++ [.ref c]))
            refine ⟨_, rfl, _, _, _, _, rfl, rfl, SqT.of hb2, rfl, rfl, _, rfl, ?_⟩
            refine iteF ?_
            refine iteF ?_
            refine ⟨es ++ [(c, [i])], _, rfl, A2.cong fun g => yes [i] g fun g => ?_, ?_, ?_, by rw [List.length_append, List.length_singleton]; omega⟩
            · rw [show Slot.holds i (.pl u) = [(u, [i])] from rfl, List.mem_singleton, e]
              exact ⟨fun z => (Prod.mk.inj z).2, fun z => by rw [z]⟩
            · rw [upd_ne nsF]
              exact same_upd nc _ _ hf
            · rw [upd_ne niF]
              exact same_upd nc _ _ hf3
          · rw [decide_eq_false e]
            refine iteF ?_
            refine ⟨_, rfl, _, _, _, _, rfl, rfl, SqT.of hb, rfl, rfl, _, rfl, ?_⟩
            refine iteF ?_
            refine iteF ?_
            refine ⟨es, _, rfl, no fun g z => ?_, hf, hf3, by omega⟩
            rw [show Slot.holds i (.pl u) = [(u, [i])] from rfl, List.mem_singleton] at z
            exact e (Prod.mk.inj z).1.symm
        | wk u =>
          have hb : H'' b = some (.tup [.str "weak", vi u]) := hb
          refine ⟨_, rfl, _, _, _, _, rfl, rfl, SqT.of hb, rfl, rfl, _, rfl, ?_⟩
          refine iteF ?_
          refine iteF ?_
          refine ⟨_, rfl, _, _, _, _, rfl, rfl, SqT.of hb, rfl, rfl, _, rfl, ?_⟩
          refine iteF ?_
          refine iteF ?_
          exact ⟨es, _, rfl, no (fun g z => by cases z), hf, hf3, by omega⟩
        | ky y u =>
          have hb : H'' b = some (.tup [.str "keyed", vi y, vi u]) := hb
          refine ⟨_, rfl, _, _, _, _, rfl, rfl, SqT.of hb, rfl, rfl, _, rfl, ?_⟩
          refine iteF ?_
          refine iteF ?_
          refine ⟨_, rfl, _, _, _, _, rfl, rfl, SqT.of hb, rfl, rfl, _, rfl, ?_⟩
          refine iteT ?_
          refine ⟨_, rfl, _, _, _, _, rfl, rfl, SqT.of hb, rfl, _, rfl, rfl, _, rfl, ?_⟩
          rw [vi_eq]
          by_cases e : u = t
          · rw [decide_eq_true e]
            refine iteT ?_
            refine ⟨_, rfl, .inl ⟨rfl, _, SqL.of A.f⟩, _, rfl, _, rfl, _, _, _, _, rfl, rfl, SqT.of hb, rfl, by show 2 ≤ sizeLine; decide, fun c nc => ?_⟩
            have s1 := same_upd nc (o := .lst [vi i, vi y])
            refine ⟨c, [(i : Int), (y : Int)], rfl, SqL.of upd_same, by show 2 ≤ 1000; decide, fun p n np hn => ?_⟩
            have s2 : Same H'' (upd (upd H'' c (.lst [vi i, vi y])) p (SetO w p (fun j => decide (j ∈ [(i : Int), (y : Int)])) n)) := same_new s1 np
            refine ⟨p, _, n, rfl, upd_same, Nat.lt_of_le_of_lt hn (by show 2 < 64; decide), fun ns q2 pw mem ln nq => ?_⟩
            have s3 := same_new (o := .lst ((joint i y).map vi)) s2 nq
            rw [joint_set pw mem]
            refine .inl ⟨q2, _, rfl, SqL.of upd_same, fun c2 nc2 => ?_⟩
            have A1 := A.same s3
            obtain ⟨A2, hF2⟩ := A1.add nF nc2 (joint i y)
            refine ⟨_, _, _, rfl, rfl, hF2, hlen, ?_⟩
            refine ⟨es ++ [(c2, joint i y)], _, rfl, A2.cong fun g => yes (joint i y) g fun g => ?_, ?_, ?_, by rw [List.length_append, List.length_singleton]; omega⟩
            · rw [show Slot.holds i (.ky y u) = [(u, joint i y)] from rfl, List.mem_singleton, e]
              exact ⟨fun z => (Prod.mk.inj z).2, fun z => by rw [z]⟩
            · rw [upd_ne nsF]
              exact same_upd nc2 _ _ (s3 _ _ hf)
            · rw [upd_ne niF]
              exact same_upd nc2 _ _ (s3 _ _ hf3)
          · rw [decide_eq_false e]
            refine iteF ?_
            refine ⟨es, _, rfl, no fun g z => ?_, hf, hf3, by omega⟩
            rw [show Slot.holds i (.ky y u) = [(u, joint i y)] from rfl, List.mem_singleton] at z
            exact e (Prod.mk.inj z).1.symm
      · obtain ⟨es, x3, rfl, A, hf, hf3, le⟩ := hp
        rw [List.length_map, les, List.take_length] at A
        rw [List.length_map, les] at le
        refine ⟨hf3, ?_⟩
        have A := A.unlock e2 hf3 niF
        refine ⟨es, _, _, _, rfl, A.cong fun g => ?_, by rw [upd_ne nss.symm]; exact hf, by omega⟩
        rw [or_assoc]
        refine or_congr Iff.rfl ?_
        constructor
        · rintro (⟨ow, h1, h2⟩ | h)
          · exact ⟨ow, by omega, h2⟩
          · exact ⟨i, by omega, h⟩
        · rintro ⟨ow, h1, h2⟩
          by_cases e : ow = i
          · rw [e] at h2
            exact .inr h2
          · exact .inl ⟨ow, by omega, h2⟩
    obtain ⟨es, x3, x4, x5, rfl, A, hf, le⟩ := hp
    rw [len_kT] at A
    refine ⟨hf, ?_⟩
    have A := A.unlock a.slots hf nsF
    generalize upd H' (β .slots) (.dK (kT o.n fun t => .ref (β (.slo t)))) = H2 at A ⊢
    have sH : Same H H2 := fun c u e => A.k c u e fun z => z
    refine ⟨_, rfl, _, es, rfl, SqL.of A.f, A.t, fun es' l pm nl => ?_⟩
    refine q l es' _ (same_new sH nl) (sH.free nl) upd_same (fun e he => tup_upd (A.t e (pm.mem_iff.mp he)) (.inl nl)) (fun g => ?_) ?_
    · rw [(pm.map (·.2)).mem_iff]
      exact A.g g
    · rw [len_kT] at le
      rw [pm.length_eq]
      omega
end
end Df
/-! What is left when all that can be come to is struck out. -/
namespace Df
open PySem PySem.Spec PyProof.Rows L2
section
variable (K : PySem.W.Frag) {X : Cx}
theorem pi_listK {tg l : Expr} {tl : TE} (hl : PE X l tl) (e : X.K = K := by rfl) : PI X tg l (iList K tl) := by
  subst e
  exact pi_list hl
theorem pi_tupK {tg l : Expr} {tl : TE} (hl : PE X l tl) (e : X.K = K := by rfl) : PI X tg l (iTup K tl) := by
  subst e
  exact pi_tup hl
theorem cr_anyK (hc : X.calm = true) (e : X.K = K := by rfl) : CallR X (.builtin "any") (rAny K) := by
  subst e
  exact cr_any hc
theorem cr_allK (hc : X.calm = true) (e : X.K = K := by rfl) : CallR X (.builtin "all") (rAll K) := by
  subst e
  exact cr_all hc
end
theorem merge_kT {f : Nat → V} : ∀ n : Nat, mergeK [] (kT n f) = kT n f
  | 0 => rfl
  | n + 1 => by
    have e : kT (n + 1) f = kT n f ++ [(Sum.inl (n : Int), f n)] := by
      unfold kT
      rw [List.range_succ, List.map_append]
      rfl
    rw [e]
    unfold mergeK
    rw [List.foldl_append]
    show putK (mergeK [] (kT n f)) (Sum.inl (n : Int) : Key) (f n) = _
    rw [merge_kT n, put_kT, fset_id, e]
theorem pair_kT {f : Nat → V} {g : Nat → Addr} {P : Addr → Key × V → Prop} (n : Nat) (h : ∀ t, t < n → P (g t) (Sum.inl (t : Int), f t)) : Paired P ((List.range n).map g) (kT n f) := by
  unfold kT
  have aux : ∀ l : List Nat, (∀ t ∈ l, t < n) → Paired P (l.map g) (l.map fun (t : Nat) => ((Sum.inl (t : Int) : Key), f t)) := by
    intro l
    induction l with
    | nil => intro _; exact .nil
    | cons a l ih =>
      intro hl
      exact .cons (h a (hl a List.mem_cons_self)) (ih fun t ht => hl t (List.mem_cons_of_mem _ ht))
  exact aux _ fun t ht => List.mem_range.mp ht
/-! a list of ints, as data -/
theorem dp_intsZ {K : PySem.W.Frag} {H : Hp} : ∀ l : List Int, DpAll K H (l.map V.int) (l.map PyData.int)
  | [] => .nil
  | i :: l => .cons (.int i) (dp_intsZ l)
theorem lay_Z : ∀ l : List Int, PyData.canLayAll0 (l.map PyData.int) = true
  | [] => by simp [PyData.canLayAll0]
  | t :: h => by simp [PyData.canLayAll0, PyData.canLay0, lay_Z h]
theorem depth_Z : ∀ l : List Int, PyData.depthAll (l.map PyData.int) = 0
  | [] => by simp [PyData.depthAll]
  | t :: h => by simp [PyData.depthAll, PyData.depth, depth_Z h]
theorem shaped_Z (l : List Int) : SeqAt.shaped (.list (l.map PyData.int)) = true := by
  show (PyData.canLay0 (.list (l.map PyData.int)) && decide (PyData.depth (.list (l.map PyData.int)) ≤ 64)) = true
  have h1 : PyData.canLay0 (.list (l.map PyData.int)) = true := by simp [PyData.canLay0, lay_Z]
  have h2 : PyData.depth (.list (l.map PyData.int)) = 1 := by simp [PyData.depth, depth_Z]
  rw [h1, h2]
  rfl
theorem eqv_Z (l : List Int) : PyData.eqv (.list (l.map PyData.int)) (.list []) = decide (l = []) := by
  cases l <;> simp [PyData.eqv, PyData.eqvAll]
/-- a list of what holds t -/
def HLd (o : OS) (H : Hp) (a : Addr) (t : Nat) : Prop := ∃ es : List (Addr × Hold), H a = some (.lst (es.map fun e => V.ref e.1)) ∧ (∀ e ∈ es, H e.1 = some (.tup (e.2.map vi))) ∧ (∀ g, g ∈ es.map (·.2) ↔ OH o t g) ∧ es.length ≤ 1000
theorem HLd.same {o : OS} {H H' : Hp} {a : Addr} {t : Nat} (h : HLd o H a t) (s : Same H H') : HLd o H' a t := by
  obtain ⟨es, e1, e2, e3⟩ := h
  exact ⟨es, s _ _ e1, fun e he => s _ _ (e2 e he), e3⟩
/-- all that t hangs on by one hold is struck out -/
def bad (s : PS) (left : List Nat) (t : Nat) : Prop := ∃ g ∈ s.K t, ∀ x ∈ g, ¬ x ∈ left
noncomputable def badB (s : PS) (left : List Nat) (t : Nat) : Bool := @decide (bad s left t) (Classical.propDecidable _)
theorem badB_iff {s : PS} {left : List Nat} {t : Nat} : badB s left t = true ↔ bad s left t := by
  unfold badB
  exact @decide_eq_true_iff _ (Classical.propDecidable _)
structure Lf (s : PS) (left : List Nat) : Prop where
  lt : left.Pairwise (· < ·)
  n : ∀ t ∈ left, t < s.n
  come : ∀ t, t < s.n → ¬ t ∈ left → Come s.K s.n t
theorem Rel.hold_lt {s : PS} {o : OS} (r : Rel s o) {t : Nat} {g : Hold} (h : g ∈ s.K t) : ∀ x ∈ g, x < s.n := by
  intro x hx
  rcases r.K.mem.mp h with ⟨rfl, _⟩ | ⟨ow, h1, ⟨k, sl⟩, h2, h3⟩
  · cases hx
  · have h1' := h1
    rw [r.n] at h1'
    have ok := (r.sS ow h1').ok _ h2
    cases sl with
    | pl u =>
      rw [show Slot.holds ow (.pl u) = [(u, [ow])] from rfl, List.mem_singleton] at h3
      rw [(Prod.mk.inj h3).2, List.mem_singleton] at hx
      rw [hx]
      exact h1
    | wk u => cases h3
    | ky y u =>
      have oky : y < o.n ∧ u < o.n := ok
      rw [show Slot.holds ow (.ky y u) = [(u, joint ow y)] from rfl, List.mem_singleton] at h3
      rw [(Prod.mk.inj h3).2] at hx
      have : x = ow ∨ x = y := by
        unfold joint at hx
        split at hx
        · exact .inl (List.mem_singleton.mp hx)
        · split at hx <;> simp at hx <;> omega
      rcases this with z | z
      · rw [z]
        exact h1
      · rw [z, r.n]
        exact oky.1
theorem Lf.strike {s : PS} {o : OS} (r : Rel s o) {left : List Nat} (L : Lf s left) : Lf s (left.filter fun t => !badB s left t) := by
  refine ⟨L.lt.filter _, fun t ht => L.n t (List.mem_filter.mp ht).1, fun t ht nm => ?_⟩
  by_cases m : t ∈ left
  · have b : bad s left t := by
      cases e : badB s left t with
      | true => exact badB_iff.mp e
      | false => exact absurd (List.mem_filter.mpr ⟨m, by rw [e]; rfl⟩) nm
    obtain ⟨g, g1, g2⟩ := b
    exact .mk ht g1 fun x hx => L.come x (r.hold_lt g1 x hx) (g2 x hx)
  · exact L.come t ht m
theorem Lf.done {s : PS} {left : List Nat} (L : Lf s left) (h : ∀ t ∈ left, ¬ bad s left t) : left = lostL s.K s.n := by
  have no : ∀ t, Come s.K s.n t → ¬ t ∈ left := fun t c => by
    induction c with
    | mk h1 h2 h3 ih => exact fun m => h _ m ⟨_, h2, ih⟩
  have ls : (lostL s.K s.n).Pairwise (· < ·) := by
    unfold lostL
    exact List.pairwise_lt_range.filter _
  refine List.Perm.eq_of_pairwise (le := fun a b : Nat => a < b) (fun a b _ _ h1 h2 => absurd h1 (Nat.lt_asymm h2)) L.lt ls ((List.perm_ext_iff_of_nodup (L.lt.imp fun h => Nat.ne_of_lt h) (ls.imp fun h => Nat.ne_of_lt h)).mpr fun t => ?_)
  rw [mem_lostL]
  exact ⟨fun m => ⟨L.n t m, fun c => no t c m⟩, fun ⟨h1, h2⟩ => Classical.byContradiction fun m => h2 (L.come t h1 m)⟩
theorem any_bad {s : PS} {o : OS} (r : Rel s o) {es : List (Addr × Hold)} {left : List Nat} {t : Nat} (h : ∀ g, g ∈ es.map (·.2) ↔ OH o t g) : ((es.map fun e => !(e.2.map fun x => decide (x ∈ left)).any id).any id) = badB s left t := by
  rw [Bool.eq_iff_iff, badB_iff, List.any_map, List.any_eq_true]
  constructor
  · rintro ⟨e, h1, h2⟩
    refine ⟨e.2, r.holds.mpr ((h e.2).mp (List.mem_map.mpr ⟨e, h1, rfl⟩)), fun x hx m => ?_⟩
    have h3 : (!(e.2.map fun x => decide (x ∈ left)).any id) = true := h2
    rw [Bool.not_eq_true', List.any_eq_false] at h3
    exact h3 true (List.mem_map.mpr ⟨x, hx, decide_eq_true m⟩) rfl
  · rintro ⟨g, h1, h2⟩
    obtain ⟨e, h3, h4⟩ := List.mem_map.mp ((h g).mpr (r.holds.mp h1))
    refine ⟨e, h3, ?_⟩
    show (!(e.2.map fun x => decide (x ∈ left)).any id) = true
    rw [Bool.not_eq_true', List.any_eq_false]
    intro b hb z
    obtain ⟨x, hx, rfl⟩ := List.mem_map.mp hb
    rw [h4] at hx
    exact h2 x hx (of_decide_eq_true z)
theorem len_strike {s : PS} {left : List Nat} : (left.filter fun t => !badB s left t).length + (left.filter (badB s left)).length = left.length := by
  generalize badB s left = f
  induction left with
  | nil => rfl
  | cons a l ih =>
    cases e : f a with
    | true =>
      rw [List.filter_cons_of_neg (by simp [e]), List.filter_cons_of_pos e, List.length_cons, List.length_cons]
      omega
    | false =>
      rw [List.filter_cons_of_pos (by simp [e]), List.filter_cons_of_neg (by simp [e]), List.length_cons, List.length_cons]
      omega
section
variable {P : Program} {w : World} {K : PySem.W.Frag} {mg : Str → Option Value} {base : Heap}
abbrev N_L_left : List Str := ["_law_own", "_law_holds_here", "_law_left_here", "_law_struck", "_law_piece", "_law_hold", "_law_holder"]
theorem sc_L_left : FnScope N_L_left ["_law_own"] (defScope s_L_left) := ⟨rfl, rfl, rfl, by decide +kernel, rfl, by decide +kernel, by decide +kernel⟩
def spLeft : Sp := fun vs H Q _ => ∃ (β : OV) (s : PS) (o : OS), vs = [.ref (β .own)] ∧ OA β o H ∧ Rel s o ∧ ∀ (l : Addr) H', Same H H' → H l = none → H' l = some (.lst ((lostL s.K s.n).map vi)) → Q (.ref l) H'
theorem ok_L_left (T : Tx K mg) (h_L_holds : Cl P w K mg base "_law_holds" 1 ["_law_own", "_law_piece"] spHolds) : Cl P w K mg base "_law_left" 2 ["_law_own"] spLeft := by
  refine Cl.of T.f_L_left T.gl_L_left sc_L_left (fun _ _ _ _ _ _ us hl => match us, hl with | [_], _ => rfl) (fun vs H Q E h => ?_) (fun cdv A outer s H vs Q E hr h => ?_)
  · obtain ⟨β, s, o, rfl, _⟩ := h
    rfl
  · obtain ⟨β, s, o, rfl, a, r, q⟩ := h
    have hu := hu_of hr
    refine ⟨_, (pss_cons (ps_set (i := 1) sc_L_left.nd rfl (Or.inl rfl) (pe_callTy (call_dictP rfl) (by rfl) T.b_dict (by decide +kernel) (pa_cons (pe_lc (own := [("_law_piece", 4)]) rfl sc_L_left.nd (pi_range1 rfl T.b_range (pa_cons (pe_dget hu (pv 0) pe_str (fun _ _ => rfl)) pa_nil)) (blkOk_by (own := [("_law_piece", 4)]) (N := N_L_left) (sc := defScope s_L_left) (by decide +kernel)) (fun _ _ _ _ _ => pg_name (i := 4) sc_L_left.nd rfl (Or.inl rfl)) (fun _ _ _ _ _ => pts_nil) (fun _ _ _ _ _ => pe_tup (pa_cons (pv 4) (pa_cons (pe_cl h_L_holds hr (pa_cons (pv 0) (pa_cons (pv 4) pa_nil))) pa_nil)))) pa_nil)))
      (pss_cons (ps_set (i := 2) sc_L_left.nd rfl (Or.inr rfl) (pe_callTy (call_listD rfl) (by rfl) T.b_list (by decide +kernel) (pa_cons (pv 1) pa_nil)))
      (pss_cons (ps_set (i := 3) sc_L_left.nd rfl (Or.inr rfl) (pe_lst (pa_cons (pe_un un_neg pe_int) pa_nil)))
      (pss_cons (ps_while PassesOwn.never (pt_cmpR (op_neD hr.units) (pv 3) (pe_lst pa_nil) (nomark _)) (pss_cons (ps_set (i := 3) sc_L_left.nd rfl (Or.inr rfl) (pe_lst pa_nil))
      (pss_cons (ps_for PassesOwn.never rfl (pi_list (pv 2)) (pg_name (i := 4) sc_L_left.nd rfl (Or.inl rfl)) (pss_one (ps_if (pt_val (pe_callB (cr_any rfl) (by rfl) T.b_any (by decide +kernel) (pa_cons (pe_lc (own := [("_law_hold", 5)]) rfl sc_L_left.nd (pi_list (pe_dget hu (pv 1) (pv 4) (fun _ _ => rfl))) (blkOk_by (own := [("_law_hold", 5)]) (N := N_L_left) (sc := defScope s_L_left) (by decide +kernel)) (fun _ _ _ _ _ => pg_name (i := 5) sc_L_left.nd rfl (Or.inl rfl)) (fun _ _ _ _ _ => pts_nil) (fun _ _ _ _ _ => pe_not (pe_callB (cr_anyK K rfl) (by rfl) T.b_any (by decide +kernel) (pa_cons (pe_lc (own := [("_law_holder", 6)]) rfl sc_L_left.nd (pi_tupK K (pv 5)) (blkOk_by (own := [("_law_holder", 6)]) (N := N_L_left) (sc := ({ kind := .function, names := [(".0", .local), ("_law_hold", .local), ("any", .globalImplicit), ("_law_left_here", .cell)], isGenerator := false, isCoroutine := false } : Scope)) (by decide +kernel)) (fun _ _ _ _ _ => pg_name (i := 6) sc_L_left.nd rfl (Or.inl rfl)) (fun _ _ _ _ _ => pts_nil) (fun _ _ _ _ _ => pe_cmpR (op_in_seqK K) (pv 6) (pv 2) rfl)) pa_nil)))) pa_nil))) (pss_one (ps_expr (pe_bm PySem.F.plainAttrs_list PySem.F.slot_list_append PySem.F.type_list_append mt_append (pv 3) (pa_cons (pv 4) pa_nil)))) pss_nil)))
      (pss_one (ps_set (i := 2) sc_L_left.nd rfl (Or.inr rfl) (pe_lc (own := [("_law_piece", 4)]) rfl sc_L_left.nd (pi_list (pv 2)) (blkOk_by (own := [("_law_piece", 4)]) (N := N_L_left) (sc := defScope s_L_left) (by decide +kernel)) (fun _ _ _ _ _ => pg_name (i := 4) sc_L_left.nd rfl (Or.inl rfl)) (fun _ _ _ _ _ => pts_one (pt_cmpR (op_notIn_seqK K) (pv 4) (pv 3) rfl)) (fun _ _ _ _ _ => pv 4)))))))
      (pss_one (ps_ret (pv 2))))))), ?_⟩
    have n40 := r.n40
    have emd := r.md
    have en := r.n
    refine ⟨_, rfl, _, _, rfl, a.g_made, _, rfl, by omega, by omega, fun D nD => ?_⟩
    have eN : Int.toNat ((o.md : Nat) : Int) = o.n := by rw [emd]; rfl
    refine lc_cps0 (walk_range (lo := 0)) (by rw [eN, sizeLine_eq]; omega) (fun i l H' => Same H H' ∧ ∃ f g : Nat → Addr, l = (List.range i).map (fun t => V.ref (g t)) ∧ ∀ t, t < i → H' (g t) = some (.tup [vi t, .ref (f t)]) ∧ HLd o H' (f t) t ∧ f t ≠ D)
      ⟨same_upd nD, fun _ => 0, fun _ => 0, rfl, fun _ z => absurd z (Nat.not_lt_zero _)⟩ (fun i l H' x hD hI => ?_) (fun _ _ _ _ _ => trivial) (fun i l x H' H'' hi hI hD y Kk hK => ?_) (fun l H' hl' hI hD => ?_)
    · obtain ⟨s1, f, g, e1, e2⟩ := hI
      refine ⟨same_put s1 nD, f, g, e1, fun t ht => ?_⟩
      obtain ⟨g1, ⟨es, h1, h2, h3⟩, g3⟩ := e2 t ht
      exact ⟨tup_upd g1 (.inr ⟨_, hD⟩), ⟨es, by rw [upd_ne g3]; exact h1, fun e he => tup_upd (h2 e he) (.inr ⟨_, hD⟩), h3⟩, g3⟩
    · obtain ⟨s1, f, g, rfl, e2⟩ := hI
      obtain ⟨rfl, hx⟩ := y
      have ex : x = vi i := by
        rw [hx]
        exact congrArg V.int (Int.zero_add _)
      subst ex
      refine ⟨rfl, _, rfl, _, rfl, _, rfl, β, s, o, i, rfl, a.same s1, r, fun l es H2 s2 nl hl hes hg lh => ?_⟩
      refine ⟨by show 2 ≤ sizeLine; decide, fun c nc => ?_⟩
      have s3 := same_upd nc (o := .tup [vi i, .ref l])
      have s23 := s2.trans s3
      have nlD : l ≠ D := fun z => by
        rw [z, hD] at nl
        cases nl
      refine hK _ _ (s23 _ _ hD) ⟨s1.trans s23, fset f i l, fset g i c, ?_, fun t ht => ?_⟩
      · rw [List.range_succ, List.map_append, List.map_singleton, fset_same]
        congr 1
        refine List.map_congr_left fun t ht => ?_
        rw [fset_ne (Nat.ne_of_lt (List.mem_range.mp ht))]
      · by_cases e : t = i
        · rw [e, fset_same, fset_same]
          exact ⟨upd_same, ⟨es, s3 _ _ hl, fun e he => s3 _ _ (hes e he), hg, lh⟩, nlD⟩
        · rw [fset_ne e, fset_ne e]
          obtain ⟨g1, g2, g3⟩ := e2 t (by omega)
          exact ⟨s23 _ _ g1, g2.same s23, g3⟩
    obtain ⟨s1, f, g, rfl, e2⟩ := hI
    rw [eN] at e2 hD
    refine ⟨D, (List.range o.n).map g, kT o.n fun t => .ref (f t), rfl, by rw [List.map_map]; exact SqL.of hD, pair_kT o.n fun t ht => SqT.of (e2 t ht).1, fun hh nhh => ?_⟩
    rw [merge_kT]
    have s2 := same_upd nhh (o := .dK (kT o.n fun t => .ref (f t)))
    have hhh : upd H' hh (.dK (kT o.n fun t => .ref (f t))) hh = _ := upd_same
    have sH1 := s1.trans s2
    have hf : ∀ t, t < o.n → HLd o (upd H' hh (.dK (kT o.n fun t => .ref (f t)))) (f t) t := fun t ht => (e2 t ht).2.1.same s2
    generalize upd H' hh (.dK (kT o.n fun t => .ref (f t))) = H1 at sH1 hhh hf ⊢
    refine ⟨_, rfl, hh, _, rfl, .inl hhh, fun la nla => ?_⟩
    have ek : (kT o.n fun t => V.ref (f t)).map (fun kv => kV kv.1) = (List.range o.n).map vi := by
      unfold kT
      rw [List.map_map]
      rfl
    rw [ek]
    have s3 := same_upd nla (o := .lst ((List.range o.n).map vi))
    have hla : upd H1 la (.lst ((List.range o.n).map vi)) la = _ := upd_same
    have s13 := sH1.trans s3
    have hhh := s3 _ _ hhh
    have hf : ∀ t, t < o.n → HLd o (upd H1 la (.lst ((List.range o.n).map vi))) (f t) t := fun t ht => (hf t ht).same s3
    have nla0 := sH1.free nla
    generalize upd H1 la (.lst ((List.range o.n).map vi)) = H2 at s13 hhh hf hla ⊢
    refine ⟨_, rfl, by show 1 ≤ sizeLine; decide, fun sa nsa => ?_⟩
    have s4 := same_upd nsa (o := .lst [.int (-1)])
    refine ⟨fun k σ H' => ∃ (left : List Nat) (sv : List Int) (la sa : Addr) (x4 : Option V), σ = [some (.ref (β .own)), some (.ref hh), some (.ref la), some (.ref sa), x4, none, none] ∧ Same H2 H' ∧ H la = none ∧ H' la = some (.lst (left.map vi)) ∧ H' sa = some (.lst (sv.map V.int)) ∧ sv.length ≤ 50 ∧ Lf s left ∧ (sv = [] → ∀ t ∈ left, ¬ bad s left t) ∧ k = if sv = [] then 0 else left.length + 1,
      ⟨_, List.range o.n, [-1], la, sa, none, rfl, s4, nla0, s4 _ _ hla, upd_same, by decide, ⟨List.pairwise_lt_range, fun t ht => by rw [en]; exact List.mem_range.mp ht, fun t h1 h2 => absurd (List.mem_range.mpr (by rw [← en]; exact h1)) h2⟩, fun z => (by cases z), rfl⟩, fun k σ H3 hW => ?_⟩
    obtain ⟨left, sv, la, sa, x4, rfl, sW, nla, hla, hsa, lsv, L, hcl, rfl⟩ := hW
    have ll : left.length ≤ 40 := by
      have := nodup_le s.n left (L.lt.imp fun h => Nat.ne_of_lt h) L.n
      omega
    refine ⟨_, rfl, Nat.zero_le _, fun e0 ne0 => ?_⟩
    have s5 := same_upd ne0 (o := .lst [])
    refine ⟨.list (sv.map PyData.int), .list [], .lst (SqL.of (s5 _ _ hsa)) (dp_intsZ sv), .lst (SqL.of upd_same) .nil, shaped_Z sv, shaped_Z [], _, rfl, ?_⟩
    rw [eqv_Z]
    have sW := sW.trans s5
    have hla := s5 _ _ hla
    generalize upd H3 e0 (.lst []) = H4 at sW hla ⊢
    by_cases ev : sv = []
    · rw [decide_eq_true ev]
      refine iteF ?_
      have e := L.done (hcl ev)
      refine ⟨_, rfl, q la H4 (s13.trans sW) nla (by rw [← e]; exact hla)⟩
    · rw [decide_eq_false ev]
      refine iteT ?_
      refine ⟨fun σ' H' => ∃ m', m' < _ ∧ _, fun σ' H' h => h, ?_⟩
      refine ⟨Nat.zero_le _, fun st nst => ?_⟩
      have s6 := same_upd nst (o := .lst [])
      have nst0 := (s13.trans sW).free nst
      have nstl : la ≠ st := ne_of_none hla nst
      refine ⟨_, rfl, la, rfl, ⟨_, SqL.of (s6 _ _ hla)⟩, ?_⟩
      refine for_it (walk_list (xs := left.map vi)) (fun i σ H' => ∃ x4 : Option V, σ = [some (.ref (β .own)), some (.ref hh), some (.ref la), some (.ref st), x4, none, none] ∧ Same H4 H' ∧ H' st = some (.lst (((left.take i).filter (badB s left)).map vi)))
        ⟨x4, rfl, s6, upd_same⟩ (fun i σ H' _ h => by obtain ⟨_, _, h, _⟩ := h; exact SqL.of (h _ _ hla)) (fun i x σ H' H'' hi hp y => ?_) (fun σ H' hp => ?_)
      · obtain ⟨x4, rfl, s7, hst⟩ := hp
        obtain ⟨rfl, hx⟩ := y
        have hi' : i < left.length := by rw [List.length_map] at hi; exact hi
        obtain ⟨t, ht⟩ : ∃ t, left[i]? = some t := ⟨_, List.getElem?_eq_getElem hi'⟩
        have ex : x = vi t := by
          rw [List.getElem?_map, ht] at hx
          exact (Option.some.inj hx).symm
        subst ex
        have htn := L.n t (List.mem_of_getElem? ht)
        rw [en] at htn
        have sA := sW.trans s7
        obtain ⟨es, h1, h2, h3, h4⟩ := (hf t htn).same sA
        have hla7 := s7 _ _ hla
        refine ⟨_, rfl, _, rfl, _, _, rfl, dget_t (sA _ _ hhh) htn, f t, rfl, ⟨_, SqL.of h1⟩, fun D1 nD1 => ?_⟩
        refine lc_pure0 (walk_list (xs := es.map fun e => V.ref e.1)) (by rw [List.length_map, sizeLine_eq]; omega) (fun i => .bl ((fun e : Addr × Hold => !(e.2.map fun x => decide (x ∈ left)).any id) (es.getD i (0, [])))) nD1 (fun H5 s5 => SqL.of (s5 _ _ h1)) (fun i x H5 H6 hi s5 y Kk hK => ?_) fun H5 s5 hD1 => ?_
        · obtain ⟨rfl, hx⟩ := y
          have hi' : i < es.length := by rw [List.length_map] at hi; exact hi
          obtain ⟨e, he⟩ : ∃ e, es[i]? = some e := ⟨_, List.getElem?_eq_getElem hi'⟩
          have ex : x = .ref e.1 := by
            rw [List.getElem?_map, he] at hx
            exact (Option.some.inj hx).symm
          subst ex
          have ed : es.getD i (0, []) = e := by rw [List.getD_eq_getElem?_getD, he]; rfl
          have em := List.mem_of_getElem? he
          have hT := s5 _ _ (h2 e em)
          have gl : e.2.length ≤ 1000 := r.short (r.holds.mpr ((h3 e.2).mp (List.mem_map.mpr ⟨e, em, rfl⟩)))
          refine ⟨rfl, _, rfl, e.1, rfl, ⟨_, SqT.of hT⟩, fun D2 nD2 => ?_⟩
          refine lc_pure0 (walk_tup (xs := e.2.map vi)) (by rw [List.length_map, sizeLine_eq]; omega) (fun i => .bl (decide (e.2.getD i 0 ∈ left))) nD2 (fun H7 s7 => SqT.of (s7 _ _ hT)) (fun j z H7 H8 hj s8 y Kk2 hK2 => ?_) fun H7 s8 hD2 => ?_
          · obtain ⟨rfl, hz⟩ := y
            have hj' : j < e.2.length := by rw [List.length_map] at hj; exact hj
            have ez : z = vi (e.2.getD j 0) := by
              rw [List.getElem?_map, List.getElem?_eq_getElem hj'] at hz
              rw [← Option.some.inj hz]
              simp [hj']
            subst ez
            refine ⟨rfl, _, rfl, _, rfl, la, _, rfl, .inl (SqL.of (s8 _ _ (s5 _ _ hla7))), rfl, flat_vi _, ?_⟩
            rw [if_neg (show ¬ false = true by decide), vi_inV]
            exact hK2 _ (Same.refl _)
          · rw [List.length_map, range_getD (fun x => V.bl (decide (x ∈ left))) 0 e.2] at hD2
            have hD3 : H7 D2 = some (.lst ((e.2.map fun x => decide (x ∈ left)).map V.bl)) := by
              rw [hD2, List.map_map]
              rfl
            refine ⟨D2, _, rfl, SqL.of hD3, _, rfl, ?_⟩
            have z := hK _ s8
            rw [ed] at z
            exact z
        · rw [List.length_map, range_getD (fun e : Addr × Hold => V.bl (!(e.2.map fun x => decide (x ∈ left)).any id)) (0, []) es] at hD1
          have hD3 : H5 D1 = some (.lst ((es.map fun e => !(e.2.map fun x => decide (x ∈ left)).any id).map V.bl)) := by
            rw [hD1, List.map_map]
            rfl
          refine ⟨D1, _, rfl, SqL.of hD3, _, rfl, ?_⟩
          rw [any_bad r h3]
          have et : left.take (i + 1) = left.take i ++ [t] := by rw [List.take_add_one, ht]; rfl
          have hst5 := s5 _ _ hst
          cases eb : badB s left t with
          | false =>
            refine iteF ?_
            refine ⟨_, rfl, s7.trans s5, ?_⟩
            rw [et, List.filter_append, List.filter_cons_of_neg (by simp [eb]), List.filter_nil, List.append_nil]
            exact hst5
          | true =>
            refine iteT ?_
            have lf : ((left.take i).filter (badB s left)).length ≤ 40 := Nat.le_trans (List.length_filter_le _ _) (Nat.le_trans (by rw [List.length_take]; omega) ll)
            refine ⟨_, rfl, .inl ⟨rfl, _, SqL.of hst5⟩, _, rfl, _, _, _, rfl, rfl, hst5, by rw [List.length_map, sizeLine_eq]; omega, ?_⟩
            refine ⟨_, rfl, same_put (s7.trans s5) nst, ?_⟩
            rw [upd_same, et, List.filter_append, List.filter_cons_of_pos eb, List.filter_nil, List.map_append]
            rfl
      · obtain ⟨x4, rfl, s7, hst⟩ := hp
        rw [List.length_map, List.take_length] at hst
        have hla7 := s7 _ _ hla
        refine ⟨_, rfl, la, rfl, ⟨_, SqL.of hla7⟩, fun D3 nD3 => ?_⟩
        refine lc_pure (walk_list (xs := left.map vi)) (by rw [List.length_map, sizeLine_eq]; omega) (fun i => if (badB s left (left.getD i 0)) = false then some (vi (left.getD i 0)) else none) nD3 (fun H5 s5 => SqL.of (s5 _ _ hla7)) (fun i x H5 H6 hi s5 y Kk B hK hB => ?_) fun H5 s5 hD3 => ?_
        · obtain ⟨rfl, hx⟩ := y
          have hi' : i < left.length := by rw [List.length_map] at hi; exact hi
          obtain ⟨t, ht⟩ : ∃ t, left[i]? = some t := ⟨_, List.getElem?_eq_getElem hi'⟩
          have ex : x = vi t := by
            rw [List.getElem?_map, ht] at hx
            exact (Option.some.inj hx).symm
          subst ex
          have ed : left.getD i 0 = t := by rw [List.getD_eq_getElem?_getD, ht]; rfl
          have tm := List.mem_of_getElem? ht
          refine ⟨rfl, _, rfl, _, rfl, st, _, rfl, .inl (SqL.of (s5 _ _ hst)), rfl, flat_vi _, _, rfl, ?_⟩
          rw [if_pos (show true = true from rfl), vi_inV]
          cases eb : badB s left t with
          | false =>
            rw [decide_eq_false (fun m => by
              have := (List.mem_filter.mp m).2
              rw [eb] at this
              cases this)]
            refine iteT ?_
            exact ⟨_, rfl, hK _ _ (by rw [ed, if_pos eb]) (Same.refl _)⟩
          | true =>
            rw [decide_eq_true (List.mem_filter.mpr ⟨tm, eb⟩)]
            refine iteF ?_
            exact hB (by rw [ed, if_neg (by rw [eb]; decide)]) _ (Same.refl _)
        · have e1 : (List.range (left.map vi).length).filterMap (fun i => if (badB s left (left.getD i 0)) = false then some (vi (left.getD i 0)) else none) = (left.filter fun t => !badB s left t).map vi := by
            rw [List.length_map]
            have e2 : (List.range left.length).filterMap (fun i => if (badB s left (left.getD i 0)) = false then some (vi (left.getD i 0)) else none) = ((List.range left.length).map fun i => left.getD i 0).filterMap (fun t => if (badB s left t) = false then some (vi t) else none) := by
              rw [List.filterMap_map]
              rfl
            have e3 := range_getD (fun t : Nat => t) 0 left
            rw [List.map_id'] at e3
            rw [e2, e3, fm_filter vi (fun t => badB s left t = false)]
            congr 1
            refine List.filter_congr fun t _ => ?_
            cases badB s left t <;> rfl
          rw [e1] at hD3
          have sAll := (sW.trans s7).trans s5
          have len := len_strike (s := s) (left := left)
          refine ⟨_, ?_, left.filter (fun t => !badB s left t), (left.filter (badB s left)).map (fun (t : Nat) => (t : Int)), D3, st, x4, rfl, sAll, (s13.trans (sW.trans s7)).free nD3, hD3, by rw [s5 _ _ hst, List.map_map]; rfl, by rw [List.length_map]; omega, L.strike r, fun z t ht b => ?_, rfl⟩
          · rw [if_neg ev]
            by_cases z : (left.filter (badB s left)).map (fun (t : Nat) => (t : Int)) = []
            · rw [if_pos z]
              omega
            · rw [if_neg z]
              have : 0 < (left.filter (badB s left)).length := by
                cases h : left.filter (badB s left) with
                | nil => rw [h] at z; exact absurd rfl z
                | cons a l => exact Nat.succ_pos _
              omega
          · have hn : left.filter (badB s left) = [] := List.map_eq_nil_iff.mp z
            have e2 : left.filter (fun t => !badB s left t) = left := by
              rw [List.filter_eq_self]
              intro t ht
              cases eb : badB s left t with
              | false => rfl
              | true =>
                have : t ∈ left.filter (badB s left) := List.mem_filter.mpr ⟨ht, eb⟩
                rw [hn] at this
                cases this
            rw [e2] at ht b
            have : t ∈ left.filter (badB s left) := List.mem_filter.mpr ⟨ht, badB_iff.mpr b⟩
            rw [hn] at this
            cases this
end
end Df
/-! The chain: n things, each held by the next. -/
namespace Df
open PySem PySem.Spec PyProof.Rows L2
theorem Rel.begin {hs pool : List Str} (nd : hs.Nodup) (h1 : 1 ≤ hs.length) (h6 : hs.length ≤ 6) (hn : ∀ h ∈ hs, NameOk h) (pn : ∀ k ∈ pool, NameOk k) (p1 : 1 ≤ pool.length) (p8 : pool.length ≤ 8) : Rel (PS0 hs) (OS0 hs pool) := by
  refine ⟨rfl, nd, h1, h6, hn, pn, p1, p8, rfl, rfl, Nat.zero_le _, fun _ _ => rfl, fun _ _ _ z => absurd z List.not_mem_nil, fun _ _ => Nat.zero_le _, fun t z => absurd z (Nat.not_lt_zero _), fun t z => absurd z (Nat.not_lt_zero _), fun t z => absurd z (Nat.not_lt_zero _), fun _ _ => rfl, fun t h => ?_⟩
  show 0 = cR hs (fun _ => []) (t, h) + cS 0 (fun _ => []) (t, h)
  have e1 : cR hs (fun _ => []) (t, h) = 0 := by
    cases e : cR hs (fun _ => []) (t, h) with
    | zero => rfl
    | succ k =>
      obtain ⟨_, x, _, h2⟩ := mem_cR.mp (show 0 < cR hs (fun _ => []) (t, h) by omega)
      cases h2
  rw [e1]
  rfl
abbrev sA : Str := "a"
abbrev sB : Str := "b"
structure CI (k : Nat) (o : OS) : Prop where
  hs : o.hs = [sA]
  pool : o.pool = [sB]
  n : o.n = k
  R : o.R sA = if k = 0 then [] else [k - 1]
  S : ∀ t, t < k → o.S t = if t = 0 then [] else [(sB, .pl (t - 1))]
theorem less_two {k : Nat} : lessL [k, k + 1] k = [k + 1] := by
  show (([k + 1, k] : List Nat).erase k).reverse = [k + 1]
  rw [List.erase_cons_tail (by simp), List.erase_cons_head]
  rfl
/-- one more, held by none but the hand -/
def ch1 (o : OS) : OS := o.done (.mk sA)
def ch2 (o : OS) (k : Nat) : OS := (ch1 o).done (.put sA (k + 1) sB k)
def ch3 (o : OS) (k : Nat) : OS := (ch2 o k).done (.drop sA k)
section
variable {s : PS} {o : OS} {k : Nat}
theorem CI.mk_let (c : CI k o) (r : Rel s o) (h : k < 40) : o.isLet (.mk sA) = true := by
  show (decide (o.md < 40) && decide ((o.R sA).length < 30)) = true
  rw [r.md, c.n, decide_eq_true h, Bool.true_and, c.R]
  split <;> rfl
theorem CI.first (c : CI 0 o) (r : Rel s o) : CI 1 (ch1 o) := by
  refine ⟨c.hs, c.pool, ?_, ?_, fun t ht => ?_⟩
  · show o.n + 1 = 1
    rw [c.n]
  · show fset o.R sA (o.R sA ++ [o.md]) sA = _
    rw [fset_same, c.R, r.md, c.n]
    rfl
  · have e : t = o.n := by rw [c.n]; omega
    show fset o.S o.n [] t = _
    rw [e, fset_same, c.n]
    rfl
theorem CI.r1 (c : CI (k + 1) o) (r : Rel s o) : (ch1 o).R sA = [k, k + 1] := by
  show fset o.R sA (o.R sA ++ [o.md]) sA = _
  rw [fset_same, c.R, r.md, c.n]
  rfl
theorem CI.put_let (c : CI (k + 1) o) (r : Rel s o) : (ch1 o).isLet (.put sA (k + 1) sB k) = true := by
  show ((false || decide (k + 1 ∈ (ch1 o).R sA)) && decide (k ∈ (ch1 o).R sA)) = true
  rw [c.r1 r]
  simp
theorem CI.drop_let (c : CI (k + 1) o) (r : Rel s o) : (ch2 o k).isLet (.drop sA k) = true := by
  show ((false || decide (k ∈ (ch1 o).R sA)) && true) = true
  rw [c.r1 r]
  simp
theorem CI.next (c : CI (k + 1) o) (r : Rel s o) : CI (k + 2) (ch3 o k) := by
  refine ⟨c.hs, c.pool, ?_, ?_, fun t ht => ?_⟩
  · show o.n + 1 = k + 2
    rw [c.n]
  · show fset (ch1 o).R sA (lessL ((ch1 o).R sA) k) sA = _
    rw [fset_same, c.r1 r, less_two]
    rfl
  · show fset (ch1 o).S (k + 1) (putS ((ch1 o).S (k + 1)) sB (.pl k)) t = _
    have e1 : (ch1 o).S (k + 1) = [] := by
      show fset o.S o.n [] (k + 1) = []
      rw [c.n, fset_same]
    by_cases e : t = k + 1
    · rw [e, fset_same, e1]
      rfl
    · rw [fset_ne e]
      show fset o.S o.n [] t = _
      rw [c.n, fset_ne e]
      exact c.S t (by omega)
/-- what holds what in the chain -/
theorem CI.holds (c : CI (k + 1) o) (r : Rel s o) {t : Nat} {g : Hold} : g ∈ s.K t ↔ (g = [] ∧ t = k) ∨ (t < k ∧ g = [t + 1]) := by
  rw [r.holds]
  unfold OH
  rw [c.hs, c.n]
  refine or_congr (and_congr_right fun _ => ?_) ?_
  · constructor
    · rintro ⟨h, h1, h2⟩
      rw [List.mem_singleton.mp h1, c.R] at h2
      exact List.mem_singleton.mp h2
    · rintro rfl
      refine ⟨sA, List.mem_cons_self, ?_⟩
      rw [c.R]
      exact List.mem_cons_self
  · constructor
    · rintro ⟨ow, h1, e, h2, h3⟩
      rw [c.S ow h1] at h2
      by_cases z : ow = 0
      · rw [if_pos z] at h2
        cases h2
      · rw [if_neg z, List.mem_singleton] at h2
        rw [h2, show Slot.holds ow (.pl (ow - 1)) = [(ow - 1, [ow])] from rfl, List.mem_singleton] at h3
        obtain ⟨rfl, rfl⟩ := Prod.mk.inj h3
        exact ⟨by omega, by rw [show ow - 1 + 1 = ow by omega]⟩
    · rintro ⟨h1, rfl⟩
      refine ⟨t + 1, by omega, (sB, .pl t), ?_, ?_⟩
      · rw [c.S (t + 1) (by omega)]
        exact List.mem_cons_self
      · exact List.mem_cons_self
theorem range_comeL {K : Nat → List Hold} {n : Nat} (h : ∀ t, t < n → Come K n t) : comeL K n = List.range n ∧ lostL K n = [] := by
  constructor
  · unfold comeL
    rw [List.filter_eq_self]
    exact fun t ht => @decide_eq_true _ (Classical.propDecidable _) (h t (List.mem_range.mp ht))
  · refine List.eq_nil_iff_forall_not_mem.mpr fun t ht => ?_
    obtain ⟨h1, h2⟩ := mem_lostL.mp ht
    exact h2 (h t h1)
theorem range_lostL {K : Nat → List Hold} {n : Nat} (h : ∀ t, ¬ Come K n t) : comeL K n = [] ∧ lostL K n = List.range n := by
  constructor
  · exact List.eq_nil_iff_forall_not_mem.mpr fun t ht => h t (mem_comeL.mp ht)
  · unfold lostL
    rw [List.filter_eq_self]
    exact fun t ht => by simpa using h t
theorem CI.all_come (c : CI (k + 1) o) (r : Rel s o) : comeL s.K s.n = List.range (k + 1) ∧ lostL s.K s.n = [] := by
  have en : s.n = k + 1 := r.n.trans c.n
  rw [en]
  refine range_comeL fun t ht => ?_
  have down : ∀ j, j ≤ k → Come s.K (k + 1) (k - j) := by
    intro j
    induction j with
    | zero => exact fun _ => .mk (by omega) ((c.holds r).mpr (.inl ⟨rfl, rfl⟩)) fun x hx => absurd hx List.not_mem_nil
    | succ j ih =>
      intro hj
      refine .mk (by omega) ((c.holds r).mpr (.inr ⟨by omega, rfl⟩)) fun x hx => ?_
      rw [List.mem_singleton.mp hx, show k - (j + 1) + 1 = k - j by omega]
      exact ih (by omega)
  have := down (k - t) (by omega)
  rwa [show k - (k - t) = t by omega] at this
theorem CI.end_let (c : CI (k + 1) o) : o.isLet (.drop sA k) = true := by
  show ((false || decide (k ∈ o.R sA)) && true) = true
  rw [c.R]
  simp
/-- when the last is dropped none can be come to -/
theorem CI.all_lost (c : CI (k + 1) o) {s' : PS} (r : Rel s' (o.done (.drop sA k))) : comeL s'.K s'.n = [] ∧ lostL s'.K s'.n = List.range (k + 1) := by
  have en : s'.n = k + 1 := r.n.trans c.n
  rw [en]
  refine range_lostL fun t ct => ?_
  have hold : ∀ t g, g ∈ s'.K t → t + 1 ∈ g ∧ t < k := fun t g hg => by
    rcases r.holds.mp hg with ⟨_, h, h1, h2⟩ | ⟨ow, h1, e, h2, h3⟩
    · have h1 : h ∈ o.hs := h1
      rw [c.hs] at h1
      have h2 : t ∈ fset o.R sA (lessL (o.R sA) k) h := h2
      rw [List.mem_singleton.mp h1, fset_same, c.R] at h2
      have e : lessL (if k + 1 = 0 then [] else [k + 1 - 1]) k = [] := by
        show (([k] : List Nat).erase k).reverse = []
        rw [List.erase_cons_head]
        rfl
      rw [e] at h2
      cases h2
    · have h1 : ow < o.n := h1
      rw [c.n] at h1
      have h2 : e ∈ o.S ow := h2
      rw [c.S ow h1] at h2
      by_cases z : ow = 0
      · rw [if_pos z] at h2
        cases h2
      · rw [if_neg z, List.mem_singleton] at h2
        rw [h2, show Slot.holds ow (.pl (ow - 1)) = [(ow - 1, [ow])] from rfl, List.mem_singleton] at h3
        obtain ⟨rfl, rfl⟩ := Prod.mk.inj h3
        exact ⟨by rw [show ow - 1 + 1 = ow by omega]; exact List.mem_cons_self, by omega⟩
  have all : ∀ t, Come s'.K (k + 1) t → False := fun t c2 => by
    induction c2 with
    | mk h1 h2 h3 ih =>
      obtain ⟨g1, g2⟩ := hold _ _ h2
      exact ih _ g1
  exact all t ct
theorem Rel.ask {C dx : Addr} {α : SV} {H : Hp} (r : Rel s o) (a : SA C dx α s H) : Ask C dx α s H := ⟨a, by rw [r.n]; exact r.n40, fun t _ g hg => r.short hg⟩
end
theorem nameA : NameOk sA := ⟨by decide +kernel, by decide +kernel, by decide +kernel⟩
theorem nameB : NameOk sB := ⟨by decide +kernel, by decide +kernel, by decide +kernel⟩
section
variable {P : Program} {w : World} {K : PySem.W.Frag} {mg : Str → Option Value} {base : Heap}
abbrev N_L_chain_right : List Str := ["_law_pot_here", "_law_den", "_law_things", "_law_piece"]
theorem sc_L_chain_right : FnScope N_L_chain_right ["_law_pot_here"] (defScope s_L_chain_right) := ⟨rfl, rfl, rfl, by decide +kernel, rfl, by decide +kernel, by decide +kernel⟩
def spChain : Sp := fun vs H Q _ => ∃ p : Addr, vs = [.ref p] ∧ Pot p H ∧ ∀ H', Pot p H' → Cp p H H' → Q (.bl true) H'
theorem ok_L_chain_right (T : Tx K mg) (h_init : ∃ fd, FnOk P w K mg base CX0 3 (He.ma K (stC K) "__init__") fd ["self", "hands"] (spInit K) ∧ Binds K fd ["self", "hands"] [])
    (h_L_take : Cl P w K mg base "_law_take" 1 ["_law_pot_here", "_law_many"] spLTake) (h_make : MtD P w K mg base "make" 3 ["self", "hand", "word"] [.str ""] (spMake K)) (h_put : Mt P w K mg base "put" 5 ["self", "hand", "owner", "slot", "thing"] (spPut K)) (h_drop : Mt P w K mg base "drop" 4 ["self", "hand", "thing"] (spDrop K))
    (h_come_to : Cl P w K mg base "come_to" 8 ["store"] (spComeTo K)) (h_lost : Cl P w K mg base "lost" 8 ["store"] (spLost K)) : Cl P w K mg base "_law_chain_right" 9 ["_law_pot_here"] spChain := by
  obtain ⟨fdI, FI, bI⟩ := h_init
  refine Cl.of T.f_L_chain_right T.gl_L_chain_right sc_L_chain_right (fun _ _ _ _ _ _ us hl => match us, hl with | [_], _ => rfl) (fun vs H Q E h => ?_) (fun cdv A outer s H vs Q E hr h => ?_)
  · obtain ⟨p, rfl, _⟩ := h
    rfl
  · obtain ⟨p, rfl, hp, q⟩ := h
    have hu := hu_of hr
    refine ⟨_, (pss_cons (ps_set (i := 1) sc_L_chain_right.nd rfl (Or.inl rfl) (pe_make T.mkS FI (hr.mono (by decide)) (by rfl) T.g_Store bI .nil pass0 (pa_cons (pe_lst (pa_cons pe_str pa_nil)) pa_nil)))
      (pss_cons (ps_set (i := 2) sc_L_chain_right.nd rfl (Or.inl rfl) (pe_listRg (by rfl) (by rfl) T.b_list (prg_1 rfl T.b_range (pe_op op_add pe_int (pe_cl h_L_take hr (pa_cons (pv 0) (pa_cons pe_int pa_nil)))))))
      (pss_cons (ps_for PassesOwn.never rfl (pi_list (pv 2)) (pg_name (i := 3) sc_L_chain_right.nd rfl (Or.inl rfl)) (pss_cons (ps_expr (pe_mtD h_make hr (pv 1) (pa_cons pe_str pa_nil)))
      (pss_one (ps_if (pt_cmpR op_gt (pv 3) pe_int (nomark _)) (pss_cons (ps_expr (pe_mt h_put hr (pv 1) (pa_cons pe_str (pa_cons (pv 3) (pa_cons pe_str (pa_cons (pe_op op_sub (pv 3) pe_int) pa_nil))))))
      (pss_one (ps_expr (pe_mt h_drop hr (pv 1) (pa_cons pe_str (pa_cons (pe_op op_sub (pv 3) pe_int) pa_nil)))))) pss_nil))))
      (pss_cons (ps_if (PW.pt (pw_or (pt_cmpR (op_neD hr.units) (pe_cl h_come_to hr (pa_cons (pv 1) pa_nil)) (pv 2) (nomark _)) (pw_or1 (pt_cmpR (op_neD hr.units) (pe_cl h_lost hr (pa_cons (pv 1) pa_nil)) (pe_lst pa_nil) (nomark _))))) (pss_one (ps_ret pe_bl)) pss_nil)
      (pss_cons (ps_expr (pe_mt h_drop hr (pv 1) (pa_cons pe_str (pa_cons (pe_ix ix_list (pv 2) (pe_un un_neg pe_int) (fun _ _ => rfl)) pa_nil))))
      (pss_one (ps_ret (pe_and (pe_cmpR (op_eqD hr.units) (pe_cl h_come_to hr (pa_cons (pv 1) pa_nil)) (pe_lst pa_nil) (nomark _)) (pe_one (pe_cmpR (op_eqD hr.units) (pe_cl h_lost hr (pa_cons (pv 1) pa_nil)) (pv 2) (nomark _))))))))))), ?_⟩
    refine ⟨by show 1 ≤ sizeLine; decide, fun l0 nl0 => ?_⟩
    intro x dx nx ndx ne
    have sa := same_upd nl0 (o := .lst [.str "a"])
    have sb := sa.trans ((same_upd ndx (o := .own x)).trans (same_new (o := .ins (stC K) dx []) (Same.refl _) (by rw [upd_ne ne.symm]; exact nx)))
    refine ⟨x, dx, l0, [sA], rfl, upd_same, ?_, Nat.le_refl _, by decide, fun z hz => by rw [List.mem_singleton.mp hz]; exact nameA, List.pairwise_singleton _ _, fun α H1 a ed keep foot0 => ⟨rfl, ?_⟩⟩
    · have : l0 ≠ x := ne_of_none (H := upd H l0 (.lst [.str "a"])) upd_same nx
      rw [upd_ne this, upd_ne (ne_of_none (H := upd H l0 (.lst [.str "a"])) upd_same ndx)]
      exact upd_same
    have nxH := sa.free nx
    have s1 : Same H H1 := fun c o e => keep c o (sb _ _ e) (ne_of_none e nxH)
    have foot : ∀ c, Foot α (PS0 [sA]) c → H c = none := fun c f => (foot0 c f).elim (fun e => by rw [e]; exact nxH) fun e => sb.free e
    have hp1 := hp.same s1
    have np : ¬ Foot α (PS0 [sA]) p := fun f => hp.ne (foot p f) rfl
    subst ed
    refine ⟨_, rfl, p, 40, rfl, hp1, by decide, by decide, fun d H2 hd p2 c2 => ⟨_, _, rfl, rfl, _, rfl, ⟨by omega, by omega, by omega, by omega, by omega⟩, fun th nth => ?_⟩⟩
    have a2 := a.keep c2 (fun b f => by rw [f]; exact np) fun b xs f z => by
      obtain ⟨_, _, e, _⟩ := hp1
      rw [f, e] at z
      cases z
    have cH2 : Cp p H H2 := (Cp.refl.same s1).trans c2
    have er : rgV 0 (1 + (d : Nat)) = (List.range (1 + d)).map vi := by
      have := rgV_nat 0 (1 + d)
      rw [show (((0 : Nat) : Int)) + ((1 + d : Nat) : Int) = 1 + (d : Nat) by omega] at this
      refine this.trans ?_
      congr 1
      conv => rhs; rw [← List.map_id (List.range (1 + d))]
      exact List.map_congr_left fun i _ => Nat.zero_add i
    rw [er]
    have s3 := same_upd nth (o := .lst ((List.range (1 + d)).map vi))
    have hth : upd H2 th (.lst ((List.range (1 + d)).map vi)) th = _ := upd_same
    have a3 := a2.same s3
    have p3 := p2.same s3
    have cH3 := cH2.same s3
    have nth0 : ¬ Foot α (PS0 [sA]) th := a2.not_foot nth
    have nthp := (p2.ne nth).symm
    generalize upd H2 th (.lst ((List.range (1 + d)).map vi)) = H3 at a3 p3 cH3 hth ⊢
    clear s3 a2 cH2 p2 c2 hp1 nth a
    refine ⟨_, rfl, th, rfl, ⟨_, SqL.of hth⟩, ?_⟩
    refine for_it (walk_list (xs := (List.range (1 + d)).map vi)) (fun i σ H' => ∃ (α' : SV) (s : PS) (o : OS) (x3 : Option V), σ = [some (.ref p), some (.ref (α .den)), some (.ref th), x3] ∧ α' .den = α .den ∧ SA (stC K) dx α' s H' ∧ Rel s o ∧ CI i o ∧ Kp (Foot α (PS0 [sA])) (Foot α' s) H3 H')
      ⟨α, PS0 [sA], OS0 [sA] [sB], none, rfl, rfl, a3, Rel.begin (List.pairwise_singleton _ _) (Nat.le_refl _) (by decide) (fun z hz => by rw [List.mem_singleton.mp hz]; exact nameA) (fun z hz => by rw [List.mem_singleton.mp hz]; exact nameB) (Nat.le_refl _) (by decide), ⟨rfl, rfl, rfl, rfl, fun t z => absurd z (Nat.not_lt_zero _)⟩, Kp.refl⟩
      (fun i σ H' _ h => by obtain ⟨_, _, _, _, _, _, _, _, _, k⟩ := h; exact SqL.of (k _ _ hth nth0).1) (fun i x σ H' H'' hi hp y => ?_) (fun σ H' hp => ?_)
    · obtain ⟨α', s, o, x3, rfl, ed, a, r, ci, k⟩ := hp
      obtain ⟨rfl, hx⟩ := y
      have hi' : i < 1 + d := by rw [List.length_map, List.length_range] at hi; exact hi
      have ex : x = vi i := by
        rw [List.getElem?_map, List.getElem?_range hi'] at hx
        exact (Option.some.inj hx).symm
      subst ex
      have hm : sA ∈ o.hs := by rw [ci.hs]; exact List.mem_cons_self
      have ml := ci.mk_let r (by omega)
      have l30 : (s.R sA).length < 30 := by
        rw [r.R sA hm, ci.R]
        split
        · exact Nat.zero_lt_succ _
        · show 1 < 30
          decide
      refine ⟨_, rfl, _, _, _, rfl, by rw [← ed]; exact a.den, nomt, dx, α', s, sA, by rw [ed]; rfl, a, by rw [r.hs]; exact hm, nameA, by rw [r.n, ci.n]; omega, l30, fun α2 H4 a4 ed4 c4 f4 => ?_⟩
      have r1 : Rel (s.make sA) (ch1 o) := r.step (d := .mk sA) hm ml
      have k1 := k.trans (Kp.of_chg c4 f4)
      refine ⟨_, rfl, _, _, rfl, rfl, _, rfl, ?_⟩
      cases i with
      | zero =>
        refine iteF ?_
        exact ⟨α2, _, _, _, rfl, ed4.trans ed, a4, r1, ci.first r, k1⟩
      | succ j =>
        refine ite2 (fun _ => ?_) (fun e => absurd (decide_eq_true (show ((j + 1 : Nat) : Int) > 0 by omega)) e)
        have ej : (((j + 1 : Nat)) : Int) - 1 = (j : Int) := by omega
        have e2 := ed4.trans ed
        have hm1 : sA ∈ (ch1 o).hs := hm
        have hms1 : sA ∈ (s.make sA).hs := by rw [r1.hs]; exact hm1
        have hk1 : sB ∈ (ch1 o).pool := by
          show sB ∈ o.pool
          rw [ci.pool]
          exact List.mem_cons_self
        have pl := ci.put_let r
        have er1 := ci.r1 r
        have eR1 : (s.make sA).R sA = [j, j + 1] := (r1.R sA hm1).trans er1
        have n1 : (ch1 o).n = j + 2 := by
          show o.n + 1 = j + 2
          rw [ci.n]
        have hon : j + 1 < (ch1 o).n := by omega
        refine ⟨_, rfl, _, _, _, rfl, by rw [← e2]; exact a4.den, nomt, _, rfl, _, rfl, _, _, rfl, rfl, dx, α2, s.make sA, sA, j + 1, sB, j, by rw [e2, show vi j = V.int (((j + 1 : Nat) : Int) - 1) from congrArg V.int ej.symm]; rfl, a4, hms1, nameA, nameB, by rw [eR1]; simp, by rw [eR1]; simp, by rw [r1.n]; exact hon, by rw [r1.n]; omega, r1.clr hon sB, r1.room hon hk1, r1.len8 hon, r1.rm, fun H5 a5 c5 => ?_⟩
        have r2 : Rel ((s.make sA).fill (j + 1) sB (.pl j)) (ch2 o j) := r1.step (d := .put sA (j + 1) sB j) ⟨hm1, hk1⟩ pl
        have k2 := k1.trans (Kp.of_chg c5 fun b f => .inl ((foot_eq (r2.hs.trans (Eq.trans rfl r1.hs.symm)) (r2.n.trans (Eq.trans rfl r1.n.symm)) b).mp f))
        have dl := ci.drop_let r
        have eR2 : ((s.make sA).fill (j + 1) sB (.pl j)).R sA = [j, j + 1] := (r2.R sA hm1).trans er1
        have hjR : j ∈ (ch2 o j).R sA := by
          show j ∈ (ch1 o).R sA
          rw [er1]
          simp
        refine ⟨_, rfl, _, _, _, rfl, by rw [← e2]; exact a5.den, nomt, _, rfl, _, _, rfl, rfl, dx, α2, _, sA, j, by rw [e2, show vi j = V.int (((j + 1 : Nat) : Int) - 1) from congrArg V.int ej.symm]; rfl, a5, by rw [r2.hs]; exact hm1, nameA, by rw [r2.n]; show j < (ch1 o).n; omega, by rw [eR2]; simp, by rw [eR2]; show 2 ≤ 1000; decide, r2.nil_mem hm1 hjR, fun H6 a6 c6 => ?_⟩
        have r3 : Rel (((s.make sA).fill (j + 1) sB (.pl j)).lose sA j) (ch3 o j) := r2.step (d := .drop sA j) hm1 dl
        have k3 := k2.trans (Kp.of_chg c6 fun b f => .inl ((foot_eq (r3.hs.trans (Eq.trans rfl r2.hs.symm)) (r3.n.trans (Eq.trans rfl r2.n.symm)) b).mp f))
        exact ⟨α2, _, _, _, rfl, e2, a6, r3, ci.next r, k3⟩
    · obtain ⟨α', s, o, x3, rfl, ed, a, r, ci, k⟩ := hp
      rw [List.length_map, List.length_range, Nat.add_comm] at ci
      have hth4 := (k _ _ hth nth0).1
      have np' : ∀ c o, H3 c = some o → ¬ Foot α (PS0 [sA]) c → H' c = some o := k.chg
      obtain ⟨px, py, pe, pb⟩ := p3
      have pH' : Pot p H' := ⟨px, py, k.chg _ _ pe np, pb⟩
      have cH' : Cp p H H' := fun c u e n => k.chg c u (cH3 c u e n) fun f => by
        have := foot c f
        rw [this] at e
        cases e
      obtain ⟨g1, g2⟩ := ci.all_come r
      refine ⟨_, rfl, dx, α', s, by rw [ed]; rfl, r.ask a, fun H4 l s4 nl hl => ?_⟩
      refine ⟨_, rfl, dL (comeL s.K s.n), dL (List.range (1 + d)), dp_list hl, dp_list (s4 _ _ hth4), dL_shaped _, dL_shaped _, _, rfl, ?_⟩
      rw [eqv_dL, g1, show decide (List.range (d + 1) = List.range (1 + d)) = true from decide_eq_true (by rw [Nat.add_comm])]
      refine iteF ?_
      have a4 := a.same s4
      refine ⟨_, rfl, dx, α', s, by rw [ed]; rfl, r.ask a4, fun H5 l2 s5 nl2 hl2 => ?_⟩
      refine ⟨Nat.zero_le _, fun e0 ne0 => ?_⟩
      have s6 := same_upd ne0 (o := .lst [])
      refine ⟨dL (lostL s.K s.n), dL [], dp_list (s6 _ _ hl2), dp_list upd_same, dL_shaped _, dL_shaped _, _, rfl, ?_⟩
      rw [eqv_dL, g2, decide_eq_true (show ([] : List Nat) = [] from rfl)]
      refine iteF ?_
      have s46 := s4.trans (s5.trans s6)
      have a6 := a.same s46
      have hth6 := s46 _ _ hth4
      have p6 := pH'.same s46
      have c6 := cH'.same s46
      generalize upd H5 e0 (.lst []) = H6 at a6 hth6 p6 c6 ⊢
      have hm : sA ∈ o.hs := by rw [ci.hs]; exact List.mem_cons_self
      have eR : s.R sA = [d] := (r.R sA hm).trans ci.R
      have hd1 : (List.range (1 + d)).map vi = (List.range d).map vi ++ [vi d] := by
        rw [Nat.add_comm, List.range_succ, List.map_append]
        rfl
      rw [hd1] at hth6
      have np6 : ¬ Foot α' s p := (k _ _ pe np).2
      refine ⟨_, rfl, _, _, _, rfl, by rw [← ed]; exact a6.den, nomt, _, rfl, _, rfl, th, _, _, _, rfl, rfl, SqL.of hth6, atI_last _ _, dx, α', s, sA, d, by rw [ed]; rfl, a6, by rw [r.hs]; exact hm, nameA, by rw [r.n, ci.n]; omega, by rw [eR]; simp, by rw [eR]; show 1 ≤ 1000; decide, r.nil_mem hm (by rw [ci.R]; exact List.mem_cons_self), fun H7 a7 c7 => ?_⟩
      have r7 : Rel (s.lose sA d) (o.done (.drop sA d)) := r.step (d := .drop sA d) hm ci.end_let
      obtain ⟨g3, g4⟩ := ci.all_lost r7
      have nth6 : ¬ Foot α' s th := (k _ _ hth nth0).2
      have hth7 := c7 _ _ hth6 nth6
      rw [← hd1] at hth7
      obtain ⟨qx, qy, qe, qb⟩ := p6
      have p7 : Pot p H7 := ⟨qx, qy, c7 _ _ qe np6, qb⟩
      have cp7 : Cp p H H7 := fun c u e n => c7 c u (c6 c u e n) fun f => by
        have h3 := cH3 c u e n
        exact (k c u h3 (fun f => by
          have := foot c f
          rw [this] at e
          cases e)).2 f
      refine ⟨_, rfl, dx, α', _, by rw [ed]; rfl, r7.ask a7, fun H8 l3 s8 nl3 hl3 => ?_⟩
      refine ⟨Nat.zero_le _, fun e1 ne1 => ?_⟩
      have s9 := same_upd ne1 (o := .lst [])
      refine ⟨dL (comeL (s.lose sA d).K (s.lose sA d).n), dL [], dp_list (s9 _ _ hl3), dp_list upd_same, dL_shaped _, dL_shaped _, _, rfl, ?_⟩
      rw [eqv_dL, g3, decide_eq_true (show ([] : List Nat) = [] from rfl)]
      refine iteT ?_
      have s89 := s8.trans s9
      have a9 := a7.same s89
      refine ⟨_, rfl, dx, α', _, by rw [ed]; rfl, r7.ask a9, fun H10 l4 s10 nl4 hl4 => ?_⟩
      have sZ := s89.trans s10
      refine ⟨_, rfl, dL (lostL (s.lose sA d).K (s.lose sA d).n), dL (List.range (1 + d)), dp_list hl4, dp_list (sZ _ _ hth7), dL_shaped _, dL_shaped _, ?_⟩
      rw [eqv_dL, g4, show decide (List.range (d + 1) = List.range (1 + d)) = true from decide_eq_true (by rw [Nat.add_comm])]
      exact q H10 (p7.same sZ) (cp7.same sZ)
end
end Df
/-! sorted(d.items()): texts and tuples. -/
namespace Df
open PySem PySem.Spec PyProof.Rows L2
/-- what is in a slot, as data -/
def Slot.d : Slot → List PyData
  | .pl t => [.str "plain", .int (t : Int)]
  | .wk t => [.str "weak", .int (t : Int)]
  | .ky k t => [.str "keyed", .int (k : Int), .int (t : Int)]
def encS (e : Str × Slot) : PyData := .tuple [.str e.1, .tuple e.2.d]
theorem encS_alike (e f : Str × Slot) : PySem.W.alike (encS e) (encS f) = true := by
  obtain ⟨a, sl⟩ := e
  obtain ⟨b, sm⟩ := f
  cases sl <;> cases sm <;> rfl
theorem encS_depth (e : Str × Slot) : (encS e).depth = 2 := by
  obtain ⟨a, sl⟩ := e
  cases sl <;> rfl
theorem dp_slot {K : PySem.W.Frag} {H : Hp} {a : Addr} {sl : Slot} (h : H a = some (.tup sl.v)) : Dp K H (.ref a) (.tuple sl.d) := by
  cases sl with
  | pl t => exact .tup (SqT.of h) (.cons (.str _) (.cons (.int _) .nil))
  | wk t => exact .tup (SqT.of h) (.cons (.str _) (.cons (.int _) .nil))
  | ky k t => exact .tup (SqT.of h) (.cons (.str _) (.cons (.int _) (.cons (.int _) .nil)))
theorem flat_reads {h : Heap} : ∀ {l : List PyData} {vs : List Value} {as : List Addr}, (∀ d ∈ l, ∀ v as, Reads h v d as → as = []) → ReadsAll h vs l as → as = []
  | [], _, _, _, r => by
    cases r
    rfl
  | d :: l, _, _, hl, r => by
    cases r with
    | cons h1 h2 =>
      rw [hl d List.mem_cons_self _ _ h1, flat_reads (fun e he => hl e (List.mem_cons_of_mem _ he)) h2]
      rfl
theorem encS_reads {h : Heap} {e : Str × Slot} {v : Value} {as : List Addr} (r : Reads h v (encS e) as) : as = [] := by
  cases r with
  | tuple _ _ _ r2 =>
    refine flat_reads (fun d hd v as r => ?_) r2
    rcases List.mem_cons.mp hd with z | z
    · subst z
      cases r
      rfl
    · have z := List.mem_singleton.mp z
      subst z
      cases r with
      | tuple _ _ _ r3 =>
        refine flat_reads (fun d hd v as r => ?_) r3
        obtain ⟨a, sl⟩ := e
        have : (∃ x, d = .str x) ∨ ∃ i, d = .int i := by
          cases sl <;> simp only [Slot.d, List.mem_cons, List.not_mem_nil, or_false] at hd
          · exact hd.elim (fun z => .inl ⟨_, z⟩) fun z => .inr ⟨_, z⟩
          · exact hd.elim (fun z => .inl ⟨_, z⟩) fun z => .inr ⟨_, z⟩
          · exact hd.elim (fun z => .inl ⟨_, z⟩) fun z => z.elim (fun z => .inr ⟨_, z⟩) fun z => .inr ⟨_, z⟩
        rcases this with ⟨x, rfl⟩ | ⟨i, rfl⟩ <;> cases r <;> rfl
/-- the slots in their order -/
noncomputable def sortS (l : List (Str × Slot)) : List (Str × Slot) := l.mergeSort (PySem.W.dataLe false encS)
theorem dp_each {K : PySem.W.Frag} {H : Hp} : ∀ {vs : List Value} {bs : List (Str × Slot)}, PySem.W.EachIs (fun v b => ∃ c : Addr, v = .ref c ∧ Dp K H (.ref c) (encS b)) vs bs → ∃ cs : List Addr, vs = cs.map Value.ref ∧ DpAll K H (cs.map V.ref) (bs.map encS)
  | _, _, .nil => ⟨[], rfl, .nil⟩
  | _, _, .cons ⟨c, e, h⟩ t => by
    obtain ⟨cs, e2, h2⟩ := dp_each t
    exact ⟨c :: cs, by rw [e, e2]; rfl, .cons h h2⟩
theorem each_of {α β : Type} {R : α → β → Prop} : ∀ {as : List α} {bs : List β}, as.length = bs.length → (∀ (j : Nat) a b, as[j]? = some a → bs[j]? = some b → R a b) → PySem.W.EachIs R as bs
  | [], [], _, _ => .nil
  | [], _ :: _, h, _ => by cases h
  | _ :: _, [], h, _ => by cases h
  | a :: as, b :: bs, h, f => .cons (f 0 a b rfl rfl) (each_of (Nat.succ.inj h) fun j x y h1 h2 => f (j + 1) x y h1 h2)
def rSortIt2 (K : PySem.W.Frag) : V → Hp → VK → Prop := fun x H Q => ∃ (d : Addr) (es : List (Str × Addr × Slot)), x = .ref d ∧ H d = some (.dK (es.map fun e => (Sum.inr e.1, V.ref e.2.1))) ∧ (∀ e ∈ es, H e.2.1 = some (.tup e.2.2.v)) ∧
  ∀ (H' : Hp) (p : Addr) (cs : List Addr), Same H H' → H p = none → H' p = some (.lst (cs.map V.ref)) → DpAll K H' (cs.map V.ref) ((sortS (es.map fun e => (e.1, e.2.2))).map encS) → Q (.ref p) H'
theorem Rd.same {H H' : Hp} {a : Addr} {u : HO} (s : Same H H') (r : Rd H a u) : Rd H' a u := r.imp (s _ _) fun ⟨o, e⟩ => ⟨o, s _ _ e⟩
theorem SqL.same {K : PySem.W.Frag} {H H' : Hp} {a : Addr} {xs : List V} (s : Same H H') (r : SqL K H a xs) : SqL K H' a xs := r.imp (Rd.same s) id
theorem SqT.same {K : PySem.W.Frag} {H H' : Hp} {a : Addr} {xs : List V} (s : Same H H') (r : SqT K H a xs) : SqT K H' a xs := r.imp (Rd.same s) id
mutual
theorem Dp.same {K : PySem.W.Frag} {H H' : Hp} (s : Same H H') : ∀ (d : PyData) (v : V), Dp K H v d → Dp K H' v d
  | .none, _, h => by cases h; exact .non
  | .bool _, _, h => by cases h; exact .bl _
  | .int _, _, h => by cases h; exact .int _
  | .str _, _, h => by cases h; exact .str _
  | .list ds, _, h => by
    cases h with
    | lst h1 h2 => exact .lst (SqL.same s h1) (DpAll.same s ds _ h2)
  | .tuple ds, _, h => by
    cases h with
    | tup h1 h2 => exact .tup (SqT.same s h1) (DpAll.same s ds _ h2)
  | .dict _, _, h => by cases h
theorem DpAll.same {K : PySem.W.Frag} {H H' : Hp} (s : Same H H') : ∀ (ds : List PyData) (vs : List V), DpAll K H vs ds → DpAll K H' vs ds
  | [], _, h => by cases h; exact .nil
  | d :: ds, _, h => by
    cases h with
    | cons h1 h2 => exact .cons (Dp.same s d _ h1) (DpAll.same s ds _ h2)
end
theorem pair_back {α β : Type} {F : α → β → Prop} : ∀ {xs : List α} {ys : List β}, Paired F xs ys → ∀ {i : Nat} {y : β}, ys[i]? = some y → ∃ x, xs[i]? = some x ∧ F x y
  | _, _, .nil, _, _, h => by cases h
  | _, _, .cons r _, 0, y, h => ⟨_, rfl, by rw [← Option.some.inj h]; exact r⟩
  | _, _, .cons _ t, i + 1, _, h => pair_back t h
section
variable {X : Cx} {e : Expr} {te : TE} {p apos cpos pos : Pos}
def tSortIt (K : PySem.W.Frag) (te : TE) : TE := fun σ H Q => te σ H fun x H1 => rSortIt2 K x H1 Q
theorem pe_sortIt (hc : X.calm = true) (hu : X.A.units + 64 < cLine) (he : PE X e te) (hg : Gl X "sorted") (hm : X.mg "sorted" = none) (hv : bootBuiltins "sorted" = some (.builtin "sorted")) (hbase : attributeBase e "items" X.env (eval e X.env) = eval e X.env := by rfl) (hline : (apos.endLine == cpos.line) = true := by rfl)
    (hs : starEach [.Call (.Attribute e "items" apos) [] [] cpos] X.env = (false, eval (.Call (.Attribute e "items" apos) [] [] cpos) X.env) :: starEach [] X.env := by rfl) :
    PE X (.Call (.Name "sorted" p) [.Call (.Attribute e "items" apos) [] [] cpos] [] pos) (tSortIt X.K te) := by
  refine ⟨fun pins s σ H Q I hq => ?_⟩
  refine wpAny_Call_Name_kw (ld_blt I hg hm hv (PyProof.Rows.callWith_builtin1 ?_ hs rfl))
  rw [hs]
  show wpAny _ _ (spliced ((false, eval (.Call (.Attribute e "items" apos) [] [] cpos) X.env) :: backTo pos (starEach [] X.env))) _ _ s
  refine Calls.spliced_cons (wpAny_Call_method (T := "dict") (id := "dict.items") hbase rfl hline F.plainAttrs_dict F.slot_dict_items F.type_dict_items (thn (he.run pins s σ H _ I hq) fun u s1 ⟨x, H1, I1, rx, d, es, ex, hd, hT, q⟩ => ?_))
  subst ex
  obtain rfl : u = Value.ref d := rx
  obtain ⟨hz, hs0, vs, kv, hdo⟩ := I1.hok d _ hd
  obtain ⟨ep, hat⟩ := hdo.dictAt
  have lk : es.length = vs.length := by
    have := Paired.length kv
    rwa [List.length_map] at this
  rw [List.length_map, sizeLine_eq] at hz
  have I2 : Inv X pins σ H1 { s1 with heap := s1.heap.push { cls := .type "dict_items", data := .fields #[.ref d] } } := I1.kept (t' := s1.toks) fun b ob q => Heap.get?_push_of_some _ q
  refine ⟨hdo.typeIs, hdo.mapOf.noDict, ?_⟩
  refine method_meetsIn F.slot_dict_items F.entry_dict_items rfl (PySem.evalArgs_none ⟨rfl, hdo.typeIs, F.args_dict_items_1 _, _, meets_dict_items (mixKind X.prog X.w) d hs0, ⟨vs, hdo⟩, Calls.spliced_nil ?_⟩)
  refine Calls.call_function_entry kind_sorted plain_sorted entry_sorted (args_sorted1 _) ?_
  unfold Builtin.«sorted»
  refine wpAny_bind (m := checkCount "sorted" 1 1 _) (wpAny_pure (wpAny_bind ?_))
  refine PySem.W.kdx_collect (A := X.A.in1) (knd := mixKind X.prog X.w) (kvs := vs) (ep := ep) (I1.ok.hd hc) ⟨_, Heap.get?_push_size _ rfl, rfl, rfl⟩ (hat.push _) (by rw [sizeLine_eq]; omega) fun h' tk as hk hl hG => ?_
  have nd : as.Nodup := List.Pairwise.imp (fun {a b} (h : a < b) => Nat.ne_of_lt h) hG.rise
  -- the pairs
  have pr : ∀ (j : Nat) (b : Addr), as[j]? = some b → ∃ z, es[j]? = some z ∧ ∀ H2, ObjOk X.prog X.w H2 h' b (.tup [.str z.1, .ref z.2.1]) := fun j b hj => by
    obtain ⟨key, k, x, f1, f2, f3⟩ := hG.pairs j b hj
    obtain ⟨qv, g1, g2, g3⟩ := pair_back kv f1
    rw [List.getElem?_map] at g1
    cases hz : es[j]? with
    | none =>
      rw [hz] at g1
      cases g1
    | some z =>
      rw [hz] at g1
      have eq : qv = (Sum.inr z.1, V.ref z.2.1) := (Option.some.inj g1).symm
      subst eq
      have rk : RelV (kV (Sum.inr z.1)) key := by
        have e2 : (Sum.inr z.1 : Key) = k := g2
        rw [e2]
        exact relV_key (show keyIs k key = true from f2)
      exact ⟨z, rfl, fun H2 => ⟨by show 2 ≤ sizeLine; decide, [key, x], .cons rk (.cons g3 .nil), ⟨_, f3, rfl, _, rfl⟩⟩⟩
  have hsl : s1.heap.objs.size < (s1.heap.push { cls := .type "dict_items", data := .fields #[.ref d] }).objs.size := by rw [Heap.size_push]; exact Nat.lt_succ_self _
  have I3 : Inv X pins σ H1 { s1 with heap := h', toks := tk } := I2.kept (t' := tk) hk
  obtain ⟨H2, J2, k2, t2⟩ := DX.takeT (P := fun a vs => ∃ (j : Nat) (z : Str × Addr × Slot), as[j]? = some a ∧ es[j]? = some z ∧ vs = [.str z.1, .ref z.2.1]) I2 (h' := h') (tk := tk) as H1 I3 nd fun a ha => by
    obtain ⟨j, hj⟩ := List.mem_iff_getElem?.mp ha
    obtain ⟨z, hz, ok⟩ := pr j a hj
    have le := Nat.le_of_lt (hG.above a ha)
    exact ⟨le, I2.hok.fresh le, _, ⟨j, z, hj, hz, rfl⟩, ok⟩
  refine wpAny_bind (wpAny_newList ?_ (by rw [List.length_map, hl, sizeLine_eq]; omega))
  have J3 : Inv X pins σ H2 { s1 with heap := h'.push { cls := .type "list", data := .seq (as.map Value.ref).toArray }, toks := tk } := J2.kept (t' := tk) fun b o e => Heap.get?_push_of_some _ e
  have each0 : PySem.W.EachIs (fun v b => ∃ c : Addr, v = .ref c ∧ Dp X.K H2 (.ref c) (encS b)) (as.map Value.ref) (es.map fun e => (e.1, e.2.2)) := by
    refine each_of (by rw [List.length_map, List.length_map]; omega) fun j v b h1 h2 => ?_
    rw [List.getElem?_map] at h1 h2
    obtain ⟨a, ha, rfl⟩ := Option.map_eq_some_iff.mp h1
    obtain ⟨z, hz, rfl⟩ := Option.map_eq_some_iff.mp h2
    obtain ⟨vs2, ⟨j2, z2, g1, g2, rfl⟩, g3⟩ := t2 a (List.mem_of_getElem? ha)
    have ej : j2 = j := (List.getElem?_inj (Nat.lt_of_not_le fun z => by rw [List.getElem?_eq_none z] at g1; cases g1) nd).mp (g1.trans ha.symm)
    subst ej
    rw [hz] at g2
    have ez := Option.some.inj g2
    subst ez
    exact ⟨a, rfl, .tup (SqT.of g3) (.cons (.str _) (.cons (dp_slot (k2 _ _ (hT z (List.mem_of_getElem? hz)))) .nil))⟩
  have er : PySem.W.EachIs (fun v b => ∃ as', Reads (h'.push { cls := .type "list", data := .seq (as.map Value.ref).toArray }) v (encS b) as' ∧ h'.objs.size ∉ as') (as.map Value.ref) (es.map fun e => (e.1, e.2.2)) := by
    refine each0.mono fun v b ⟨c, ev, dp⟩ => ?_
    obtain ⟨as', r⟩ := Dp.reads J3 (encS b) (.ref c) v dp ev
    exact ⟨as', r, by rw [encS_reads r]; exact List.not_mem_nil⟩
  have hg : wpAny (model X.prog X.w) X.A.in1 (call (.builtin "list.sort") [.ref h'.objs.size]) (fun _ s' => EP X pins σ Q (.ref h'.objs.size) s') X.xe { s1 with heap := h'.push { cls := .type "list", data := .seq (as.map Value.ref).toArray }, toks := tk } := by
    refine PySem.W.list_sort_data (n := 0) (Heap.get?_push_size _ rfl) each0 er (PySem.W.AllAlike.of encS_alike) (PySem.W.Sortable.tuples fun b => ⟨_, _, rfl⟩) (by rw [List.length_map, sizeLine_eq]; omega)
      (fun b _ => by rw [encS_depth]; show X.A.units + 1 + 1 + 2 < cLine; omega) fun out lo eo => ?_
    obtain ⟨cs, ecs, dcs⟩ := dp_each eo
    have hB : (h'.push { cls := .type "list", data := .seq (as.map Value.ref).toArray }).get? h'.objs.size = some (seqObj "list" (as.map Value.ref).toArray 0) := Heap.get?_push_size _ rfl
    obtain ⟨ep2, h2⟩ := PyProof.Rows.sortedHeap_at (vs := as.map Value.ref) (out := out.toArray) hB
    have old : ∀ b o, h'.get? b = some o → (sortedHeap (h'.push { cls := .type "list", data := .seq (as.map Value.ref).toArray }) h'.objs.size (as.map Value.ref) out.toArray).get? b = some o := fun b o e => by
      rw [PyProof.Rows.sortedHeap_old (Nat.ne_of_lt (Heap.lt_size e)) (by rw [Heap.size_push]; exact Nat.lt_succ_of_lt (Heap.lt_size e)), Heap.get?_push_of_some _ e]
    have lcs : cs.length = es.length := by
      rw [ecs, List.length_map, List.length_map] at lo
      exact lo
    have nB : H1 h'.objs.size = none := I3.hok.fresh (Nat.le_refl _)
    have nB2 : H2 h'.objs.size = none := J2.hok.fresh (Nat.le_refl _)
    refine ⟨.ref _, upd H2 h'.objs.size (.lst (cs.map V.ref)), J2.laid (t' := tk) old (Nat.le_refl _) ⟨by rw [List.length_map, lcs, sizeLine_eq]; omega, out, ep2, by rw [ecs]; exact LiI.vals_refs cs, h2⟩, rfl, ?_⟩
    have s12 : Same H1 H2 := k2
    refine q _ _ cs (same_new s12 nB2) nB upd_same ?_
    exact DpAll.same (same_upd nB2) _ _ dcs
  refine wpAny_bind (wpAny_holding (wpAny_mono hg (fun _ s' x => ?_) fun _ _ e => e))
  exact wpAny_pure ⟨_, rfl, x⟩
end
end Df
/-! What a store shows of itself. -/
namespace Df
open PySem PySem.Spec PyProof.Rows L2
mutual
/-- no list in it -/
def noL : PyData → Bool
  | .list _ => false
  | .dict _ => false
  | .tuple xs => noLAll xs
  | _ => true
def noLAll : List PyData → Bool
  | [] => true
  | x :: xs => noL x && noLAll xs
end
theorem rd_upd {H : Hp} {D a : Addr} {l : List V} {u : HO} {o : HO} (hD : H D = some (.lst l)) (nt : ∀ l, u ≠ .lst l) (r : Rd H a u) : Rd (upd H D o) a u := by
  have ne : a ≠ D := fun z => by
    rcases r with r | ⟨ob, r⟩
    · rw [z, hD] at r
      exact nt _ (Option.some.inj r).symm
    · rw [z, hD] at r
      cases r
  exact r.imp (fun e => by rw [upd_ne ne]; exact e) fun ⟨ob, e⟩ => ⟨ob, by rw [upd_ne ne]; exact e⟩
mutual
theorem Dp.updL {K : PySem.W.Frag} {H : Hp} {D : Addr} {l : List V} {o : HO} (hD : H D = some (.lst l)) : ∀ (d : PyData) (v : V), noL d = true → Dp K H v d → Dp K (upd H D o) v d
  | .none, _, _, h => by cases h; exact .non
  | .bool _, _, _, h => by cases h; exact .bl _
  | .int _, _, _, h => by cases h; exact .int _
  | .str _, _, _, h => by cases h; exact .str _
  | .list ds, _, n, _ => by simp [noL] at n
  | .tuple ds, _, n, h => by
    cases h with
    | tup h1 h2 => exact .tup (h1.imp (rd_upd hD (by nofun)) id) (DpAll.updL hD ds _ (by simpa [noL] using n) h2)
  | .dict _, _, _, h => by cases h
theorem DpAll.updL {K : PySem.W.Frag} {H : Hp} {D : Addr} {l : List V} {o : HO} (hD : H D = some (.lst l)) : ∀ (ds : List PyData) (vs : List V), noLAll ds = true → DpAll K H vs ds → DpAll K (upd H D o) vs ds
  | [], _, _, h => by cases h; exact .nil
  | d :: ds, _, n, h => by
    have n2 : noL d = true ∧ noLAll ds = true := by simpa [noLAll] using n
    cases h with
    | cons h1 h2 => exact .cons (Dp.updL hD d _ n2.1 h1) (DpAll.updL hD ds _ n2.2 h2)
end
theorem rd_off {H : Hp} {D a : Addr} {u : HO} {o : HO} (ne : a ≠ D) (r : Rd H a u) : Rd (upd H D o) a u := r.imp (fun e => by rw [upd_ne ne]; exact e) fun ⟨ob, e⟩ => ⟨ob, by rw [upd_ne ne]; exact e⟩
mutual
/-- what is locked or let go is no list or tuple -/
theorem Dp.keep {K : PySem.W.Frag} {H : Hp} {D : Addr} {o : HO} (hn : ∀ u, Rd H D u → (∀ l, u ≠ .lst l) ∧ ∀ l, u ≠ .tup l) : ∀ (d : PyData) (v : V), Dp K H v d → Dp K (upd H D o) v d
  | .none, _, h => by cases h; exact .non
  | .bool _, _, h => by cases h; exact .bl _
  | .int _, _, h => by cases h; exact .int _
  | .str _, _, h => by cases h; exact .str _
  | .list ds, _, h => by
    cases h with
    | lst h1 h2 => exact .lst (h1.imp (fun r => rd_off (fun z => (hn _ (z ▸ r)).1 _ rfl) r) id) (DpAll.keep hn ds _ h2)
  | .tuple ds, _, h => by
    cases h with
    | tup h1 h2 => exact .tup (h1.imp (fun r => rd_off (fun z => (hn _ (z ▸ r)).2 _ rfl) r) id) (DpAll.keep hn ds _ h2)
  | .dict _, _, h => by cases h
theorem DpAll.keep {K : PySem.W.Frag} {H : Hp} {D : Addr} {o : HO} (hn : ∀ u, Rd H D u → (∀ l, u ≠ .lst l) ∧ ∀ l, u ≠ .tup l) : ∀ (ds : List PyData) (vs : List V), DpAll K H vs ds → DpAll K (upd H D o) vs ds
  | [], _, h => by cases h; exact .nil
  | d :: ds, _, h => by
    cases h with
    | cons h1 h2 => exact .cons (Dp.keep hn d _ h1) (DpAll.keep hn ds _ h2)
end
theorem noL_ints : ∀ l : List Nat, noLAll (l.map fun (t : Nat) => PyData.int (t : Int)) = true
  | [] => by simp [noLAll]
  | _ :: l => by simp [noLAll, noL, noL_ints l]
theorem noL_all {l : List PyData} (h : ∀ d ∈ l, noL d = true) : noLAll l = true := by
  induction l with
  | nil => simp [noLAll]
  | cons a l ih => simp [noLAll, h a List.mem_cons_self, ih fun d hd => h d (List.mem_cons_of_mem _ hd)]
theorem dpAll_snoc {K : PySem.W.Frag} {H : Hp} {v : V} {d : PyData} : ∀ {vs : List V} {ds : List PyData}, DpAll K H vs ds → Dp K H v d → DpAll K H (vs ++ [v]) (ds ++ [d])
  | _, _, .nil, h => .cons h .nil
  | _, _, .cons h1 h2, h => .cons h1 (dpAll_snoc h2 h)
theorem noL_encS (e : Str × Slot) : noL (encS e) = true := by
  obtain ⟨a, sl⟩ := e
  cases sl <;> simp [encS, Slot.d, noL, noLAll]
section
variable (K : PySem.W.Frag) {X : Cx}
theorem pe_mtB {k j : Nat} {ps : List Str} {sp : Sp} {m : Str} {pos apos : Pos} {e o : Expr} {es : List Expr} {ta : TE} {t : TA} {pl : Sem Bool} (h : Mt X.prog X.w X.K X.mg X.base m k ps sp) (hr : Room j X.A) (ho : PE X o ta) (ha : PA X (e :: es) t) (eK : X.K = K := by rfl) (hkj : k ≤ j := by decide)
    (hst : starEach (e :: es) X.env = (false, eval e X.env) :: starEach es X.env := by rfl) (hpl : (backTo pos (starEach es X.env)).any (·.1) = false := by rfl)
    (ht : eval (.Call (.Attribute o m apos) (e :: es) [] pos) X.env = (do
      let ov ← eval o X.env
      standAt apos.atName
      let (f, first) ← holding [ov] (getMethod ov m pl)
      callWith pos f first (backTo pos (starEach (e :: es) X.env)) (backToKw pos (keywordEach [] X.env))) := by rfl) :
    PE X (.Call (.Attribute o m apos) (e :: es) [] pos) (tMeth (stC K) m sp [] E0 ta t) := by
  subst eK
  exact pe_mt h hr ho ha hkj hst hpl ht
theorem pg_tupK {pos : Pos} {es : List Expr} {k : Nat} {t : TGs} {n : Nat} (hc : X.calm = true) (h : PGs X es t) (e : X.K = K := by rfl)
    (hn : (assignEach es X.env).length = n := by rfl) (hst : (assignEach es X.env).findIdx? (·.1) = none := by rfl) : PG X (.Tuple es k pos) (gTup K n t) := by
  subst e
  exact pg_tup hc h hn hst
theorem pe_tupleOfK {p pos : Pos} {a : Expr} {ta : TE} (hg : Gl X "tuple") (hm : X.mg "tuple" = none) (ha : PE X a ta) (e : X.K = K := by rfl) (na : starEach [a] X.env = (false, eval a X.env) :: starEach [] X.env := by rfl) :
    PE X (.Call (.Name "tuple" p) [a] [] pos) (tThen ta (kTup K)) := by
  subst e
  exact pe_tupleOf hg hm ha na
end
noncomputable def shapeD (s : PS) (t : Nat) : PyData := .tuple [.int (t : Int), .str "", .tuple ((sortS (s.S t)).map encS)]
def rowD (s : PS) (h : Str) : PyData := .tuple [.str h, .tuple ((s.R h).map fun (t : Nat) => .int (t : Int))]
noncomputable def shapeA (s : PS) : PyData := .tuple [.str "store", .tuple (s.hs.map (rowD s)), .int (s.n : Int), .tuple ((List.range s.n).map (shapeD s))]
theorem noL_shapeD (s : PS) (t : Nat) : noL (shapeD s t) = true := by
  have : noLAll ((sortS (s.S t)).map encS) = true := noL_all fun d hd => by
    obtain ⟨e, _, rfl⟩ := List.mem_map.mp hd
    exact noL_encS e
  simp [shapeD, noL, noLAll, this]
theorem noL_rowD (s : PS) (h : Str) : noL (rowD s h) = true := by
  simp [rowD, noL, noLAll, noL_ints]
section
variable {P : Program} {w : World} {K : PySem.W.Frag} {mg : Str → Option Value} {base : Heap}
abbrev N_sort_word : List Str := ["self"]
theorem sc_sort_word : FnScope N_sort_word ["self"] (defScope m_sort_word) := ⟨rfl, rfl, rfl, by decide +kernel, rfl, by decide +kernel, by decide +kernel⟩
def spWord : Sp := fun vs H Q _ => ∃ p : V, vs = [p] ∧ Q (.str "store") H
theorem ok_sort_word (T : Tx K mg) : Mt P w K mg base "sort_word" 1 ["self"] spWord := by
  refine Mt.of T.fm_sort_word T.cl T.me_sort_word sc_sort_word (fun _ _ _ _ _ _ us hl => match us, hl with | [_], _ => rfl) (fun vs H Q E h => ?_) (fun cdv A outer s H vs Q E hr h => ?_)
  · obtain ⟨p, rfl, _⟩ := h
    rfl
  · obtain ⟨p, rfl, q⟩ := h
    exact ⟨_, (pss_one (ps_ret pe_str)), q⟩
abbrev N_marks_of : List Str := ["self", "thing"]
theorem sc_marks_of : FnScope N_marks_of ["self", "thing"] (defScope m_marks_of) := ⟨rfl, rfl, rfl, by decide +kernel, rfl, by decide +kernel, by decide +kernel⟩
def spMarks : Sp := fun vs H Q _ => ∃ p x : V, vs = [p, x] ∧ ∀ a H', Same H H' → H' a = some (.tup []) → Q (.ref a) H'
theorem ok_marks_of (T : Tx K mg) : Mt P w K mg base "marks_of" 1 ["self", "thing"] spMarks := by
  refine Mt.of T.fm_marks_of T.cl T.me_marks_of sc_marks_of (fun _ _ _ _ _ _ us hl => match us, hl with | [_, _], _ => rfl) (fun vs H Q E h => ?_) (fun cdv A outer s H vs Q E hr h => ?_)
  · obtain ⟨p, x, rfl, _⟩ := h
    rfl
  · obtain ⟨p, x, rfl, q⟩ := h
    refine ⟨_, (pss_one (ps_ret (pe_tup pa_nil))), ?_⟩
    exact ⟨Nat.zero_le _, fun a na => q a _ (same_upd na) upd_same⟩
abbrev N_shape_of : List Str := ["self", "thing"]
theorem sc_shape_of : FnScope N_shape_of ["self", "thing"] (defScope m_shape_of) := ⟨rfl, rfl, rfl, by decide +kernel, rfl, by decide +kernel, by decide +kernel⟩
def spShapeOf (K : PySem.W.Frag) : Sp := fun vs H Q _ => ∃ (dx : Addr) (α : SV) (s : PS) (t : Nat), vs = [.ref (α .den), vi t] ∧ SA (stC K) dx α s H ∧ t < s.n ∧ ∀ a H', Same H H' → Dp K H' (.ref a) (shapeD s t) → Q (.ref a) H'
theorem ok_shape_of (T : Tx K mg) (h_marks_of : Mt P w K mg base "marks_of" 1 ["self", "thing"] spMarks) : Mt P w K mg base "shape_of" 2 ["self", "thing"] (spShapeOf K) := by
  refine Mt.of T.fm_shape_of T.cl T.me_shape_of sc_shape_of (fun _ _ _ _ _ _ us hl => match us, hl with | [_, _], _ => rfl) (fun vs H Q E h => ?_) (fun cdv A outer s H vs Q E hr h => ?_)
  · obtain ⟨dx, α, s, t, rfl, _⟩ := h
    rfl
  · obtain ⟨dx, α, s, t, rfl, a, ht, q⟩ := h
    have hu := hu_of hr
    refine ⟨_, (pss_one (ps_ret (pe_op op_catT (pe_op op_catT (pe_tup (pa_cons (pv 1) pa_nil)) (pe_mt h_marks_of hr (pv 0) (pa_cons (pv 1) pa_nil))) (pe_tup (pa_cons (pe_dget hu (pe_fld (pv 0) rfl) (pv 1) (fun _ _ => rfl)) (pa_cons (pe_tupleOf (by rfl) T.b_tuple (pe_sortIt rfl hr.units (pe_dget hu (pe_fld (pv 0) rfl) (pv 1) (fun _ _ => rfl)) (by rfl) T.b_sorted (by decide +kernel))) pa_nil)))))), ?_⟩
    refine ⟨_, rfl, by show 1 ≤ sizeLine; decide, fun a1 n1 => ?_⟩
    have s1 := same_upd n1 (o := .tup [vi t])
    have a1' := a.same s1
    refine ⟨_, rfl, _, _, _, rfl, a1'.den, nomt, _, rfl, _, _, rfl, fun a2 H2 s2 h2 => ?_⟩
    have x1 := s2 _ _ (upd_same (H := H) (a := a1) (o := .tup [vi t]))
    refine ⟨a1, a2, _, _, rfl, rfl, SqT.of x1, SqT.of h2, by nofun, by show 1 ≤ sizeLine; decide, fun _ => ?_, fun z => absurd rfl z⟩
    have s12 := s1.trans s2
    have A2 := a.same s12
    have hlas : DGet H2 (α .las) (vi t) (some (.str "")) := dget_t (f := fun _ => .str "") A2.las ht
    obtain ⟨es, e1, e2, e3⟩ := A2.slo ht
    refine ⟨_, rfl, _, _, _, _, _, rfl, A2.den, T.cl, T.n_last, flds_last _ _ _ _ _, _, rfl, _, _, rfl, hlas, ?_⟩
    refine ⟨_, rfl, _, _, _, _, _, rfl, A2.den, T.cl, T.n_filled, flds_filled _ _ _ _ _, _, rfl, _, _, rfl, dget_t A2.fil ht, _, es, rfl, e2, e3, fun H3 p cs s3 np hp hcs => ?_⟩
    refine .inl ⟨p, _, rfl, SqL.of hp, fun b nb => ?_⟩
    have s4 := same_upd nb (o := .tup (cs.map V.ref))
    refine ⟨by show 2 ≤ sizeLine; decide, fun c nc => ?_⟩
    have s5 := same_upd nc (o := .tup [.str "", .ref b])
    have s35 := s3.trans (s4.trans s5)
    refine ⟨a1, c, _, _, rfl, rfl, SqT.of (s35 _ _ x1), SqT.of upd_same, by nofun, by show 3 ≤ sizeLine; decide, (fun z => by cases z), fun _ d nd => ?_⟩
    have s6 := same_upd nd (o := .tup ([vi t] ++ [.str "", .ref b]))
    refine q d _ (s12.trans (s35.trans s6)) ?_
    rw [e1] at hcs
    have d1 : Dp K _ (.ref b) (.tuple ((sortS (s.S t)).map encS)) := .tup (SqT.of (s6 _ _ (s5 _ _ upd_same))) (DpAll.same (s4.trans (s5.trans s6)) _ _ hcs)
    exact .tup (SqT.of upd_same) (.cons (.int _) (.cons (.str _) (.cons d1 .nil)))
abbrev N_shape : List Str := ["self", "rows", "hand", "row", "thing"]
theorem sc_shape : FnScope N_shape ["self"] (defScope m_shape) := ⟨rfl, rfl, rfl, by decide +kernel, rfl, by decide +kernel, by decide +kernel⟩
def spShape (K : PySem.W.Frag) : Sp := fun vs H Q _ => ∃ (dx : Addr) (α : SV) (s : PS), vs = [.ref (α .den)] ∧ SA (stC K) dx α s H ∧ s.n ≤ 40 ∧ s.hs.Nodup ∧ s.hs.length ≤ 6 ∧ ∀ a H', Same H H' → Dp K H' (.ref a) (shapeA s) → Q (.ref a) H'
theorem ok_shape (T : Tx K mg) (h_sort_word : Mt P w K mg base "sort_word" 1 ["self"] spWord) (h_things : Mt P w K mg base "things" 1 ["self"] (spThings K)) (h_shape_of : Mt P w K mg base "shape_of" 2 ["self", "thing"] (spShapeOf K)) : Mt P w K mg base "shape" 3 ["self"] (spShape K) := by
  refine Mt.of T.fm_shape T.cl T.me_shape sc_shape (fun _ _ _ _ _ _ us hl => match us, hl with | [_], _ => rfl) (fun vs H Q E h => ?_) (fun cdv A outer s H vs Q E hr h => ?_)
  · obtain ⟨dx, α, s, rfl, _⟩ := h
    rfl
  · obtain ⟨dx, α, s, rfl, a, n40, nd, h6, q⟩ := h
    have hu := hu_of hr
    refine ⟨_, (pss_cons (ps_set (i := 1) sc_shape.nd rfl (Or.inl rfl) (pe_tupleOf (by rfl) T.b_tuple (pe_lock (pe_lc (own := [("hand", 2), ("row", 3)]) rfl sc_shape.nd (pi_items (pe_fld (pv 0) rfl)) (blkOk_by (own := [("hand", 2), ("row", 3)]) (N := N_shape) (sc := defScope m_shape) (by decide +kernel)) (fun _ _ _ _ _ => pg_tupK (n := 2) K (by rfl) (pgs_cons (pg_name (i := 2) sc_shape.nd rfl (Or.inl rfl)) (pgs_cons (pg_name (i := 3) sc_shape.nd rfl (Or.inl rfl)) pgs_nil))) (fun _ _ _ _ _ => pts_nil) (fun _ _ _ _ _ => pe_tup (pa_cons (pv 2) (pa_cons (pe_tupleOfK K (by rfl) T.b_tuple (pv 3)) pa_nil)))))))
      (pss_one (ps_ret (pe_tup (pa_cons (pe_mt0 h_sort_word hr (pv 0)) (pa_cons (pv 1) (pa_cons (pe_fld (pv 0) rfl) (pa_cons (pe_tupleOf (by rfl) T.b_tuple (pe_lc (own := [("thing", 4)]) rfl sc_shape.nd (pi_list (pe_mt0 h_things hr (pv 0))) (blkOk_by (own := [("thing", 4)]) (N := N_shape) (sc := defScope m_shape) (by decide +kernel)) (fun _ _ _ _ _ => pg_name (i := 4) sc_shape.nd rfl (Or.inl rfl)) (fun _ _ _ _ _ => pts_nil) (fun _ _ _ _ _ => pe_mtB K h_shape_of hr (pv 0) (pa_cons (pv 4) pa_nil)))) pa_nil)))))))), ?_⟩
    have hrows := a.rows
    have ndr : α .den ≠ α .rows := fun z => by cases a.inj .den .rows trivial trivial z
    refine ⟨α .rows, _, hrows, trivial, fun od => ?_⟩
    have hfr : upd H (α .rows) (.frz od (.dK (kH s.hs fun h => α (.row h)))) (α .rows) = _ := upd_same
    have hden : upd H (α .rows) (.frz od (.dK (kH s.hs fun h => α (.row h)))) (α .den) = some (.ins (stC K) dx (flds (α .rows) (α .fil) (α .las) (α .kep) s.n)) := by rw [upd_ne ndr]; exact a.den
    have hrow : ∀ h ∈ s.hs, upd H (α .rows) (.frz od (.dK (kH s.hs fun h => α (.row h)))) (α (.row h)) = some (.lst ((s.R h).map vi)) := fun h hh => by
      rw [upd_ne fun z => by cases a.inj (.row h) .rows hh trivial z]
      exact a.row hh
    have hoff : ∀ c o, H c = some o → c ≠ α .rows → upd H (α .rows) (.frz od (.dK (kH s.hs fun h => α (.row h)))) c = some o := fun c o e n => by rw [upd_ne n]; exact e
    generalize hHf : upd H (α .rows) (.frz od (.dK (kH s.hs fun h => α (.row h)))) = Hf at hfr hden hrow hoff ⊢
    refine ⟨_, rfl, _, _, _, _, _, rfl, hden, T.cl, T.n_rows, flds_rows _ _ _ _ _, _, _, _, rfl, hfr, fun D nD => ?_⟩
    have lk : (kH s.hs fun h => α (.row h)).length = s.hs.length := by unfold kH; rw [List.length_map]
    refine lc_cps0 (walk_items (kvs := kH s.hs fun h => α (.row h))) (by rw [lk, sizeLine_eq]; omega) (fun i l H' => Same Hf H' ∧ DpAll K H' l ((s.hs.take i).map (rowD s))) ⟨same_upd nD, .nil⟩
      (fun i l H' o hD hI => ⟨same_put hI.1 nD, DpAll.updL hD _ _ (noL_all fun d hd => by obtain ⟨e, _, rfl⟩ := List.mem_map.mp hd; exact noL_rowD s e) hI.2⟩) (fun i l H' _ hI => hI.1 _ _ hfr) (fun i l x H' H'' hi hI hD y Kk hK => ?_) (fun l H' hl' hI hD => ?_)
    · obtain ⟨s1, dp⟩ := hI
      obtain ⟨c, x, y, rfl, nc, rfl, gx, gy⟩ := y
      have hi' : i < s.hs.length := by rw [lk] at hi; exact hi
      obtain ⟨z, hz⟩ : ∃ z, s.hs[i]? = some z := ⟨_, List.getElem?_eq_getElem hi'⟩
      have gi : (kH s.hs fun h => α (.row h))[i]? = some (Sum.inr z, .ref (α (.row z))) := by
        unfold kH
        rw [List.getElem?_map, hz]
        rfl
      have ex : x = .str z := by
        have gx' : ((kH s.hs fun h => α (.row h))[i]?).map (fun kv => kV kv.1) = some x := gx
        rw [gi] at gx'
        exact (Option.some.inj gx').symm
      have ey : y = .ref (α (.row z)) := by
        have gy' : ((kH s.hs fun h => α (.row h))[i]?).map Prod.snd = some y := gy
        rw [gi] at gy'
        exact (Option.some.inj gy').symm
      subst ex ey
      have hzm := List.mem_of_getElem? hz
      have sc := same_upd nc (o := .tup [.str z, .ref (α (.row z))])
      have et : s.hs.take (i + 1) = s.hs.take i ++ [z] := by rw [List.take_add_one, hz]; rfl
      refine ⟨c, _, rfl, SqT.of upd_same, rfl, _, _, rfl, _, _, rfl, rfl, rfl, ?_⟩
      have hR := sc _ _ (s1 _ _ (hrow z hzm))
      refine ⟨_, rfl, _, rfl, .inl ⟨_, _, rfl, SqL.of hR, fun b nb => ?_⟩⟩
      have sb := same_upd nb (o := .tup ((s.R z).map vi))
      refine ⟨by show 2 ≤ sizeLine; decide, fun e ne => ?_⟩
      have se := same_upd ne (o := .tup [.str z, .ref b])
      have sAll := sc.trans (sb.trans se)
      refine hK _ _ (sAll _ _ hD) ⟨s1.trans sAll, ?_⟩
      rw [et, List.map_append]
      refine dpAll_snoc (DpAll.same sAll _ _ dp) (.tup (SqT.of upd_same) (.cons (.str _) (.cons (.tup (SqT.of (se _ _ upd_same)) (dp_ints _)) .nil)))
    · obtain ⟨s1, dp⟩ := hI
      rw [lk, List.take_length] at dp
      have hf' := s1 _ _ hfr
      refine ⟨hf', ?_⟩
      -- unlocked
      have sH : Same H (upd H' (α .rows) (.dK (kH s.hs fun h => α (.row h)))) := fun c o e => by
        by_cases z : c = α .rows
        · rw [z, hrows] at e
          rw [z, upd_same, ← e]
        · rw [upd_ne z]
          exact s1 _ _ (hoff c o e z)
      have ndk : ∀ u, Rd H' (α .rows) u → (∀ l, u ≠ .lst l) ∧ ∀ l, u ≠ .tup l := fun u r => by
        rcases r with r | ⟨ob, r⟩
        · rw [hf'] at r
          rw [← Option.some.inj r]
          exact ⟨by nofun, by nofun⟩
        · rw [hf'] at r
          obtain ⟨_, e⟩ := HO.frz.inj (Option.some.inj r)
          rw [← e]
          exact ⟨by nofun, by nofun⟩
      have dp2 := DpAll.keep (o := .dK (kH s.hs fun h => α (.row h))) ndk _ _ dp
      have hD2 : upd H' (α .rows) (.dK (kH s.hs fun h => α (.row h))) D = some (.lst l) := by
        rw [upd_ne fun z => by rw [z, hf'] at hD; cases hD]
        exact hD
      generalize upd H' (α .rows) (.dK (kH s.hs fun h => α (.row h))) = H1 at sH dp2 hD2 ⊢
      refine .inl ⟨D, _, rfl, SqL.of hD2, fun rw_ nrw => ?_⟩
      have s2 := same_upd nrw (o := .tup l)
      have dr : Dp K (upd H1 rw_ (.tup l)) (.ref rw_) (.tuple (s.hs.map (rowD s))) := .tup (SqT.of upd_same) (DpAll.same s2 _ _ dp2)
      have sH2 := sH.trans s2
      have a2 := a.same sH2
      generalize upd H1 rw_ (.tup l) = H2 at dr sH2 a2 ⊢
      refine ⟨_, rfl, _, _, _, rfl, a2.den, nomt, _, rfl, ?_⟩
      refine ⟨_, rfl, _, rfl, _, _, _, _, _, rfl, a2.den, T.cl, T.n_many, flds_many _ _ _ _ _, ?_⟩
      refine ⟨_, rfl, _, _, _, rfl, a2.den, nomt, dx, α, s, rfl, a2, n40, fun H3 l3 s3 nl3 hl3 => ?_⟩
      refine ⟨l3, rfl, ⟨_, SqL.of hl3⟩, fun D2 nD2 => ?_⟩
      have a3 := a2.same s3
      refine lc_cps0 (walk_list (xs := (List.range s.n).map vi)) (by rw [List.length_map, List.length_range, sizeLine_eq]; omega) (fun i l H' => Same H3 H' ∧ DpAll K H' l ((List.range i).map (shapeD s))) ⟨same_upd nD2, .nil⟩
        (fun i l H' o hD hI => ⟨same_put hI.1 nD2, DpAll.updL hD _ _ (noL_all fun d hd => by obtain ⟨e, _, rfl⟩ := List.mem_map.mp hd; exact noL_shapeD s e) hI.2⟩) (fun i l H' _ hI => SqL.of (hI.1 _ _ hl3)) (fun i l x H' H'' hi hI hD y Kk hK => ?_) (fun l H' hl' hI hD => ?_)
      · obtain ⟨s4, dp⟩ := hI
        obtain ⟨rfl, hx⟩ := y
        have hi' : i < s.n := by rw [List.length_map, List.length_range] at hi; exact hi
        have ex : x = vi i := by
          rw [List.getElem?_map, List.getElem?_range hi'] at hx
          exact (Option.some.inj hx).symm
        subst ex
        have a4 := a3.same s4
        refine ⟨rfl, _, rfl, _, _, _, rfl, a4.den, nomt, _, rfl, dx, α, s, i, rfl, a4, hi', fun c H5 s5 dc => ?_⟩
        refine hK _ _ (s5 _ _ hD) ⟨s4.trans s5, ?_⟩
        rw [List.range_succ, List.map_append]
        exact dpAll_snoc (DpAll.same s5 _ _ dp) dc
      · obtain ⟨s4, dp⟩ := hI
        rw [List.length_map, List.length_range] at dp
        refine .inl ⟨D2, _, rfl, SqL.of hD, fun b nb => ?_⟩
        have s5 := same_upd nb (o := .tup l)
        refine ⟨by show 4 ≤ sizeLine; decide, fun c nc => ?_⟩
        have s6 := same_upd nc (o := .tup [.str "store", .ref rw_, vi s.n, .ref b])
        have s36 := s3.trans (s4.trans (s5.trans s6))
        refine q c _ (sH2.trans s36) ?_
        have d1 := Dp.same s36 _ _ dr
        have d2 : Dp K _ (.ref b) (.tuple ((List.range s.n).map (shapeD s))) := .tup (SqT.of (s6 _ _ upd_same)) (DpAll.same (s5.trans s6) _ _ dp)
        exact .tup (SqT.of upd_same) (.cons (.str _) (.cons d1 (.cons (.int _) (.cons d2 .nil))))
end
end Df
/-! repr; defs that are run where nothing is being shown. -/
namespace Df
open PySem PySem.Spec PyProof.Rows L2
/-- what a def keeps where nothing is being shown -/
structure FnG (P : Program) (w : World) (K : PySem.W.Frag) (mg : Str → Option Value) (base : Heap) (k : Nat) (f : Addr) (fd : FuncData) (ps : List Str) (sp : Sp) : Prop where
  len : ∀ vs H Q E, sp vs H Q E → vs.length = ps.length
  go : ∀ (A : Around) (outer : List Env) (s : Shared) (H : Hp) (args : Args) (us : List Value) (vs : List V) (Q : VK) (E : XK), A.guards = some [] → Room k A → Env0 P w K mg base A outer s H → BindsTo s fd args (ps.zip us) → Vals vs us → sp vs H Q E →
    codeAny (model P w) A (.call (.ref f) args) (CR CX0 outer P w H s Q E) s
theorem FnG.mono {P : Program} {w : World} {K : PySem.W.Frag} {mg : Str → Option Value} {base : Heap} {j k : Nat} {f : Addr} {fd : FuncData} {ps : List Str} {sp : Sp} (F : FnG P w K mg base j f fd ps sp) (h : j ≤ k) : FnG P w K mg base k f fd ps sp :=
  ⟨F.len, fun A outer s H args us vs Q E g hr => F.go A outer s H args us vs Q E g (hr.mono h)⟩
section
variable {P : Program} {w : World} {K : PySem.W.Frag} {mg : Str → Option Value} {base : Heap}
theorem fnG_of {k : Nat} {f : Addr} {name qual : Str} {params : Arguments} {body : List Stmt} {scope : Scope} {dV kV doc pm cdv ct oc : Value} {an od : Option Addr} {osl : Array (Option Value)} {N ps : List Str} {sp : Sp}
    (lk : K.lookup f = some ⟨oc, od, .func (PySem.W.fnOf name qual params body scope dV kV doc pm an cdv ct), osl⟩) (hcd : PySem.W.codeIn K cdv qual = true) (S : FnScope N ps scope) (len : ∀ vs H Q E, sp vs H Q E → vs.length = ps.length)
    (hb : ∀ (A : Around) (outer : List Env) (s : Shared) (H : Hp) (vs : List V) (Q : VK) (E : XK), A.guards = some [] → Room k (A.deeper (envOfC qual scope s.heap.objs.size f cdv)) → sp vs H Q E → ∃ t, PSs (cxOf CX0 P w K mg base N qual scope f cdv A outer s H E) body t ∧ t { nx := fun _ H' => Q .non H', rt := Q } (L2.start N vs) H) :
    FnG P w K mg base (k + 1) f (PySem.W.fnOf name qual params body scope dV kV doc pm an cdv ct) ps sp := by
  refine ⟨len, fun A outer s H args us vs Q E gd hr env0 bt rv hsp => ?_⟩
  have n1 := len _ _ _ _ hsp
  have kin : K.In s.heap := env0.mod.kin.keeps fun b o e => (env0.bs b o e).1
  have nlim : s.heap.NoLimit := env0.mod.nolimit.keeps fun b o e => (env0.bs b o e).1
  refine codeAny_call_function hr.depth (kin _ _ lk) rfl S.co S.gen rfl (PySem.W.codeRec_of kin hcd) (bt _ _ _ _ (wpAny_newFunctionEnv_cells S.kind (fun y hy => ?_) fun env he s1 x => ?_))
  · obtain ⟨n, v⟩ := y
    exact (S.par n (List.of_mem_zip hy).1).imp id fun q => ⟨q, PySem.W.cellsFrom_some _ _ _ (.inl q)⟩
  · subst he
    obtain ⟨t, ht, hq⟩ := hb A outer s H vs Q E gd (hr.deeper _) hsp
    have I := inv_start (CX := CX0) (E := E) S hr.hd env0 n1 rv x
    refine ⟨nlim.keeps x.toInCall.keep, codeAny_func (wpAny_mono (ht.run [] s1 (L2.start N vs) H _ I hq) (fun fl s' hs => ?_) fun e s' hs => hs)⟩
    cases fl with
    | ret u => obtain ⟨v, σ', H', J, rv, q⟩ := hs; exact ⟨v, H', J.os, J.bare, J.base, J.hok, rv, q⟩
    | next => obtain ⟨σ', H', J, q⟩ := hs; exact ⟨V.non, H', J.os, J.bare, J.base, J.hok, rfl, q⟩
    | brk => obtain ⟨_, _, _, q⟩ := hs; exact q.elim
    | cont => obtain ⟨_, _, _, q⟩ := hs; exact q.elim
theorem okG_of {x : Str} {st : Stmt} {N ps : List Str} {k : Nat} {sp : Sp} {f : Addr} {fd : FuncData} (F : FunD K x x (defArgs st) (defBody st) (defScope st) [] [] f fd)
    (S : FnScope N ps (defScope st)) (len : ∀ vs H Q E, sp vs H Q E → vs.length = ps.length)
    (h : ∀ (cdv : Value) (A : Around) (outer : List Env) (s : Shared) (H : Hp) (vs : List V) (Q : VK) (E : XK), A.guards = some [] → Room k (A.deeper (envOfC x (defScope st) s.heap.objs.size f cdv)) → sp vs H Q E →
      ∃ t, PSs (cxOf CX0 P w K mg base N x (defScope st) f cdv A outer s H E).nox (defBody st) t ∧ t { nx := fun _ H' => Q .non H', rt := Q } (L2.start N vs) H) : FnG P w K mg base (k + 1) f fd ps sp := by
  obtain ⟨oc, od, dV, kV, doc, pm, an, cdv, ct, osl, rfl, lk, hcd, _, _⟩ := F.ex
  refine fnG_of lk hcd S len fun A outer s H vs Q E gd hr hs => ?_
  obtain ⟨t, h1, h2⟩ := h cdv A outer s H vs Q E gd hr hs
  exact ⟨t, h1.nox, h2⟩
/-- a def of the module, run where nothing is being shown -/
structure ClG (P : Program) (w : World) (K : PySem.W.Frag) (mg : Str → Option Value) (base : Heap) (x : Str) (k : Nat) (ps : List Str) (sp : Sp) : Prop where
  ex : ∃ (f : Addr) (fd : FuncData), FnG P w K mg base k f fd ps sp ∧ mg x = some (.ref f) ∧ PySem.W.keepIn K (.ref f) = true ∧ Binds K fd ps []
theorem ClG.of {x : Str} {st : Stmt} {N ps : List Str} {k : Nat} {sp : Sp} {f : Addr} (hf : ∃ fd, FunD K x x (defArgs st) (defBody st) (defScope st) [] [] f fd) (hg : mg x = some (.ref f))
    (S : FnScope N ps (defScope st)) (hb : ∀ (kV doc pm : Value) (an : Option Addr) (cdv ct : Value) (us : List Value), us.length = ps.length → bindArgs (PySem.W.fnOf x x (defArgs st) (defBody st) (defScope st) .none kV doc pm an cdv ct) ⟨us, []⟩ = pure (ps.zip us))
    (len : ∀ vs H Q E, sp vs H Q E → vs.length = ps.length)
    (h : ∀ (cdv : Value) (A : Around) (outer : List Env) (s : Shared) (H : Hp) (vs : List V) (Q : VK) (E : XK), A.guards = some [] → Room k (A.deeper (envOfC x (defScope st) s.heap.objs.size f cdv)) → sp vs H Q E →
      ∃ t, PSs (cxOf CX0 P w K mg base N x (defScope st) f cdv A outer s H E).nox (defBody st) t ∧ t { nx := fun _ H' => Q .non H', rt := Q } (L2.start N vs) H) : ClG P w K mg base x (k + 1) ps sp := by
  obtain ⟨fd, F⟩ := hf
  exact ⟨f, fd, okG_of F S len h, hg, F.kp, F.bindsN hb⟩
end
section
variable {X : Cx} {k j : Nat} {ps : List Str} {sp : Sp} {x : Str} {p pos : Pos} {e : Expr} {es : List Expr} {t : TA}
theorem pe_clG (h : ClG X.prog X.w X.K X.mg X.base x k ps sp) (gd : X.A.guards = some []) (hr : Room j X.A) (ha : PA X (e :: es) t) (hkj : k ≤ j := by decide) (hg : Gl X x := by rfl) (hdb : (x == ("__debug__" : Str)) = false := by decide)
    (he : starEach (e :: es) X.env = (false, eval e X.env) :: starEach es X.env := by rfl) (hpl : (backTo pos (starEach es X.env)).any (·.1) = false := by rfl) : PE X (.Call (.Name x p) (e :: es) [] pos) (tCall sp [] E0 t) := by
  obtain ⟨f, fd, F, mgf, kp, b⟩ := h.ex
  refine ⟨fun pins s σ H Q I hq => ?_⟩
  refine wpAny_Call_Name_kw (ld_glob I hg mgf ?_ hdb)
  refine PySem.W.callWith_K (h₀ := X.base) I.ok.mod.kin kp (thn (ha.run pos pins s σ H _ I hq) fun us s1 ⟨vs, H1, I1, r, q⟩ => ⟨I1.kIn, ?_⟩) he hpl
  have q2 : sp vs H1 Q E0 := by
    have z : sp (vs ++ []) H1 Q E0 := q
    rwa [List.append_nil] at z
  have hl : us.length = ps.length := by rw [← r.length]; exact F.len _ _ _ _ q2
  have hb := b s1 us I1.kIn (by rw [List.append_nil]; exact hl)
  rw [List.append_nil] at hb
  refine wpAny_call (codeAny_mono ((F.mono hkj).go X.A X.stack s1 H1 ⟨us, []⟩ us vs Q E0 gd hr I1.env0 hb r q2) fun r2 s' hq => ?_)
  cases r2 with
  | error e => exact pass0 pins σ H1 s1 e s' I1 hq
  | ok fl =>
    cases fl with
    | ret u => exact I1.after hq
    | next => exact hq.elim
    | brk => exact hq.elim
    | cont => exact hq.elim
/-- repr of data -/
def rRepr (K : PySem.W.Frag) : List V → Hp → VK → Prop := fun vs H Q => ∃ (a : Addr) (d : PyData), vs = [.ref a] ∧ Dp K H (.ref a) d ∧ d.showable = true ∧ d.hasDict = false ∧ d.depth ≤ 60 ∧ d.shown.length ≤ sizeLine ∧ Q (.str d.shown) H
theorem cr_repr (gd : X.A.guards = some []) (hu : X.A.units + 64 < cLine) : CallR X (.builtin "repr") (rRepr X.K) := by
  intro pins s σ H vs us Q I r h
  obtain ⟨a, d, rfl, dp, sh, nd, dd, ln, q⟩ := h
  obtain ⟨u, rfl, ru⟩ := r.one
  obtain rfl : u = Value.ref a := ru
  obtain ⟨as, rd⟩ := Dp.reads I d (.ref a) (.ref a) dp rfl
  exact repr_of_reads' rd sh (fun z => by rw [nd] at z; cases z) gd (by omega) (fun b o e => e) (fun h' u tk hk => ⟨.str d.shown, H, I.kept (t' := tk) hk, ⟨u, rfl⟩, q⟩) ln
end
end Df
/-! What is shown is short. -/
namespace Df
open PySem PySem.Spec PyProof.Rows L2
mutual
/-- small ints, short texts, no dicts -/
def smD : PyData → Bool
  | .int i => decide (i.natAbs ≤ 40)
  | .str x => decide (x.length ≤ 8) && x.cps.toList.all fun c => decide (c < 1000)
  | .list xs => smAll xs
  | .tuple xs => smAll xs
  | .none => true
  | .bool _ => true
  | .dict _ => false
def smAll : List PyData → Bool
  | [] => true
  | x :: xs => smD x && smAll xs
end
theorem smAll_of {l : List PyData} (h : ∀ d ∈ l, smD d = true) : smAll l = true := by
  induction l with
  | nil => simp [smAll]
  | cons a l ih => simp [smAll, h a List.mem_cons_self, ih fun d hd => h d (List.mem_cons_of_mem _ hd)]
theorem small_shown : ∀ i : Int, i.natAbs ≤ 40 → (PyData.shown (.int i)).length ≤ 13 := by
  have h1 : ∀ n : Fin 41, (PyData.shown (.int (n.val : Int))).length ≤ 13 ∧ (PyData.shown (.int (-(n.val : Int)))).length ≤ 13 := by decide +kernel
  intro i hi
  rcases Int.natAbs_eq i with e | e
  · have := (h1 ⟨i.natAbs, by omega⟩).1
    rw [e]
    exact this
  · have := (h1 ⟨i.natAbs, by omega⟩).2
    rw [e]
    exact this
mutual
theorem smD_leaves : ∀ d : PyData, smD d = true → d.leavesShort 13 = true ∧ d.showable = true ∧ d.hasDict = false
  | .none, _ => ⟨by simp [PyData.leavesShort], by simp [PyData.showable], by simp [PyData.hasDict]⟩
  | .bool _, _ => ⟨by simp [PyData.leavesShort], by simp [PyData.showable], by simp [PyData.hasDict]⟩
  | .int i, h => by
    have hi : i.natAbs ≤ 40 := by simpa [smD] using h
    refine ⟨by simpa [PyData.leavesShort] using small_shown i hi, ?_, by simp [PyData.hasDict]⟩
    have : i.natAbs.log2 < 1920 := Nat.lt_of_le_of_lt (Nat.log2_le_self _) (by omega)
    simpa [PyData.showable] using this
  | .str x, h => by
    rw [smD, Bool.and_eq_true, decide_eq_true_eq, List.all_eq_true] at h
    have h2 : x.length ≤ 8 ∧ ∀ c ∈ x.cps.toList, c < 1000 := ⟨h.1, fun c hc => of_decide_eq_true (h.2 c hc)⟩
    refine ⟨?_, by simp [PyData.showable], by simp [PyData.hasDict]⟩
    rw [PyData.leavesShort, List.all_eq_true]
    exact fun c hc => decide_eq_true (Nat.lt_trans (h2.2 c hc) (by decide))
  | .list xs, h => by
    obtain ⟨h1, h2, h3⟩ := smAll_leaves xs (by simpa [smD] using h)
    exact ⟨by simpa [PyData.leavesShort] using h1, by simpa [PyData.showable] using h2, by simpa [PyData.hasDict] using h3⟩
  | .tuple xs, h => by
    obtain ⟨h1, h2, h3⟩ := smAll_leaves xs (by simpa [smD] using h)
    exact ⟨by simpa [PyData.leavesShort] using h1, by simpa [PyData.showable] using h2, by simpa [PyData.hasDict] using h3⟩
  | .dict _, h => by simp [smD] at h
theorem smAll_leaves : ∀ l : List PyData, smAll l = true → PyData.leavesShortAll 13 l = true ∧ PyData.showableAll l = true ∧ PyData.hasDictAll l = false
  | [], _ => ⟨by simp [PyData.leavesShortAll], by simp [PyData.showableAll], by simp [PyData.hasDictAll]⟩
  | x :: xs, h => by
    have h0 : smD x = true ∧ smAll xs = true := by simpa [smAll] using h
    obtain ⟨a1, a2, a3⟩ := smD_leaves x h0.1
    obtain ⟨b1, b2, b3⟩ := smAll_leaves xs h0.2
    exact ⟨by simp [PyData.leavesShortAll, a1, b1], by simp [PyData.showableAll, a2, b2], by simp [PyData.hasDictAll, a3, b3]⟩
end
theorem weightAll_le {B : Nat} : ∀ {l : List PyData}, (∀ d ∈ l, d.weight ≤ B) → PyData.weightAll l ≤ l.length * (B + 1)
  | [], _ => by simp [PyData.weightAll]
  | x :: xs, h => by
    have h1 := h x List.mem_cons_self
    have h2 := weightAll_le (l := xs) fun d hd => h d (List.mem_cons_of_mem _ hd)
    simp only [PyData.weightAll, List.length_cons, Nat.add_mul, Nat.one_mul]
    omega
theorem depthAll_le {B : Nat} : ∀ {l : List PyData}, (∀ d ∈ l, d.depth ≤ B) → PyData.depthAll l ≤ B
  | [], _ => by simp [PyData.depthAll]
  | x :: xs, h => by
    have h1 := h x List.mem_cons_self
    have h2 := depthAll_le (l := xs) fun d hd => h d (List.mem_cons_of_mem _ hd)
    simp only [PyData.depthAll]
    omega
theorem sm_nil : smAll [] = true := by simp [smAll]
theorem sm_cons {x : PyData} {xs : List PyData} (h : smD x = true) (h2 : smAll xs = true) : smAll (x :: xs) = true := by rw [smAll, h, h2]; rfl
theorem sm_tup {xs : List PyData} (h : smAll xs = true) : smD (.tuple xs) = true := by rw [smD, h]
theorem sm_int {t : Nat} (h : t ≤ 40) : smD (.int (t : Int)) = true := by
  have : ((t : Int)).natAbs ≤ 40 := by omega
  simpa [smD] using this
theorem let_lt : ∀ c ∈ letters.cps.toList, c < 1000 := by decide +kernel
theorem sm_name {z : Str} (h : NameOk z) : smD (.str z) = true := by
  rw [smD, Bool.and_eq_true, decide_eq_true_eq, List.all_eq_true]
  exact ⟨h.hi, fun c hc => decide_eq_true (let_lt c (h.all c hc))⟩
theorem w_int {t : Nat} (h : t ≤ 40) : (PyData.int (t : Int)).weight ≤ 41 := by
  simp only [PyData.weight]
  split
  · omega
  · have : ((t : Int)).natAbs.log2 ≤ ((t : Int)).natAbs := Nat.log2_le_self _
    omega
theorem sm_ints {l : List Nat} (h : ∀ t ∈ l, t ≤ 40) : smAll (l.map fun (t : Nat) => .int (t : Int)) = true := smAll_of fun d hd => by
  obtain ⟨t, ht, rfl⟩ := List.mem_map.mp hd
  exact sm_int (h t ht)
theorem w_ints {l : List Nat} (h : ∀ t ∈ l, t ≤ 40) : PyData.weightAll (l.map fun (t : Nat) => .int (t : Int)) ≤ l.length * 42 := by
  have := weightAll_le (B := 41) (l := l.map fun (t : Nat) => PyData.int (t : Int)) fun d hd => by
    obtain ⟨t, ht, rfl⟩ := List.mem_map.mp hd
    exact w_int (h t ht)
  rwa [List.length_map] at this
/-- data that is short when shown -/
structure Shw (d : PyData) : Prop where
  sm : smD d = true
  w : d.weight ≤ 1048576
  dp : d.depth ≤ 60
theorem Shw.use {d : PyData} (h : Shw d) : d.showable = true ∧ d.hasDict = false ∧ d.depth ≤ 60 ∧ d.shown.length ≤ sizeLine := by
  obtain ⟨h1, h2, h3⟩ := smD_leaves d h.sm
  exact ⟨h2, h3, h.dp, PyData.shown_fits (B := 13) (by decide) (by decide) h1 (Nat.le_trans h.w (by decide))⟩
theorem sm_encS {n : Nat} {pool : List Str} {e : Str × Slot} (h1 : NameOk e.1) (h2 : e.2.ok n) (hn : n ≤ 41) : smD (encS e) = true ∧ (encS e).weight ≤ 200 := by
  obtain ⟨k, sl⟩ := e
  have sk := sm_name h1
  have wk : (PyData.str k).weight ≤ 8 := h1.hi
  have p1 : smD (.str "plain") = true ∧ smD (.str "weak") = true ∧ smD (.str "keyed") = true := by decide +kernel
  have p2 : (PyData.str "plain").weight = 5 ∧ (PyData.str "weak").weight = 4 ∧ (PyData.str "keyed").weight = 5 := by decide +kernel
  obtain ⟨a1, a2, a3⟩ := p1
  obtain ⟨b1, b2, b3⟩ := p2
  cases sl with
  | pl t =>
    have ht : t < n := h2
    have s1 := sm_int (t := t) (by omega)
    have w1 := w_int (t := t) (by omega)
    refine ⟨sm_tup (sm_cons sk (sm_cons (sm_tup (sm_cons a1 (sm_cons s1 sm_nil))) sm_nil)), ?_⟩
    simp only [encS, Slot.d, PyData.weight, PyData.weightAll] at wk b1 w1 ⊢
    omega
  | wk t =>
    have ht : t < n := h2
    have s1 := sm_int (t := t) (by omega)
    have w1 := w_int (t := t) (by omega)
    refine ⟨sm_tup (sm_cons sk (sm_cons (sm_tup (sm_cons a2 (sm_cons s1 sm_nil))) sm_nil)), ?_⟩
    simp only [encS, Slot.d, PyData.weight, PyData.weightAll] at wk b2 w1 ⊢
    omega
  | ky y t =>
    have ht : y < n ∧ t < n := h2
    have s1 := sm_int (t := t) (by omega)
    have s2 := sm_int (t := y) (by omega)
    have w1 := w_int (t := t) (by omega)
    have w2 := w_int (t := y) (by omega)
    refine ⟨sm_tup (sm_cons sk (sm_cons (sm_tup (sm_cons a3 (sm_cons s2 (sm_cons s1 sm_nil)))) sm_nil)), ?_⟩
    simp only [encS, Slot.d, PyData.weight, PyData.weightAll] at wk b3 w1 w2 ⊢
    omega
theorem d_ints (l : List Nat) : PyData.depthAll (l.map fun (t : Nat) => .int (t : Int)) ≤ 0 := depthAll_le fun d hd => by
  obtain ⟨t, _, rfl⟩ := List.mem_map.mp hd
  exact Nat.le_refl _
theorem Rel.shw {s : PS} {o : OS} (r : Rel s o) : Shw (shapeA s) := by
  have n40 := r.n40
  have en := r.n
  have hs := r.hs
  have sm0 : smD (.str "store") = true ∧ smD (.str "") = true := by decide +kernel
  have w0 : (PyData.str "store").weight = 5 ∧ (PyData.str "").weight = 0 := by decide +kernel
  have row : ∀ h ∈ s.hs, smD (rowD s h) = true ∧ (rowD s h).weight ≤ 2000 ∧ (rowD s h).depth ≤ 2 := fun h hh => by
    rw [hs] at hh
    have hR := r.R h hh
    have hl : ∀ t ∈ s.R h, t ≤ 40 := fun t ht => by
      rw [hR] at ht
      have := r.lt h hh t ht
      omega
    have ll : (s.R h).length ≤ 30 := by rw [hR]; exact r.len h hh
    have s1 := sm_name (r.hn h hh)
    have w1 : (PyData.str h).weight ≤ 8 := (r.hn h hh).hi
    have s2 := sm_ints hl
    have w2 := w_ints hl
    have d2 := d_ints (s.R h)
    refine ⟨sm_tup (sm_cons s1 (sm_cons (sm_tup s2) sm_nil)), ?_, ?_⟩
    · simp only [rowD, PyData.weight, PyData.weightAll] at w1 w2 ⊢
      have : (s.R h).length * 42 ≤ 30 * 42 := Nat.mul_le_mul_right _ ll
      omega
    · simp only [rowD, PyData.depth, PyData.depthAll]
      omega
  have shp : ∀ t, t < s.n → smD (shapeD s t) = true ∧ (shapeD s t).weight ≤ 2000 ∧ (shapeD s t).depth ≤ 4 := fun t ht => by
    have ht' : t < o.n := by omega
    have sl := r.sS t ht'
    have pm : (sortS (s.S t)).Perm (s.S t) := List.mergeSort_perm _ _
    have le : (sortS (s.S t)).length ≤ 8 := by rw [pm.length_eq]; exact r.len8 ht'
    have each : ∀ e ∈ sortS (s.S t), smD (encS e) = true ∧ (encS e).weight ≤ 200 := fun e he => by
      have he := pm.mem_iff.mp he
      exact sm_encS (pool := o.pool) (r.pn _ (sl.of e he)) (sl.ok e he) (by omega)
    have s1 := sm_int (t := t) (by omega)
    have w1 := w_int (t := t) (by omega)
    have s2 : smAll ((sortS (s.S t)).map encS) = true := smAll_of fun d hd => by
      obtain ⟨e, he, rfl⟩ := List.mem_map.mp hd
      exact (each e he).1
    have w2 := weightAll_le (B := 200) (l := (sortS (s.S t)).map encS) fun d hd => by
      obtain ⟨e, he, rfl⟩ := List.mem_map.mp hd
      exact (each e he).2
    rw [List.length_map] at w2
    have d2 := depthAll_le (B := 2) (l := (sortS (s.S t)).map encS) fun d hd => by
      obtain ⟨e, he, rfl⟩ := List.mem_map.mp hd
      rw [encS_depth]
      exact Nat.le_refl _
    refine ⟨sm_tup (sm_cons s1 (sm_cons sm0.2 (sm_cons (sm_tup s2) sm_nil))), ?_, ?_⟩
    · simp only [shapeD, PyData.weight, PyData.weightAll] at w1 w2 w0 ⊢
      have : (sortS (s.S t)).length * (200 + 1) ≤ 8 * (200 + 1) := Nat.mul_le_mul_right _ le
      omega
    · simp only [shapeD, PyData.depth, PyData.depthAll]
      omega
  have s1 : smAll (s.hs.map (rowD s)) = true := smAll_of fun d hd => by
    obtain ⟨e, he, rfl⟩ := List.mem_map.mp hd
    exact (row e he).1
  have w1 := weightAll_le (B := 2000) (l := s.hs.map (rowD s)) fun d hd => by
    obtain ⟨e, he, rfl⟩ := List.mem_map.mp hd
    exact (row e he).2.1
  have d1 := depthAll_le (B := 2) (l := s.hs.map (rowD s)) fun d hd => by
    obtain ⟨e, he, rfl⟩ := List.mem_map.mp hd
    exact (row e he).2.2
  have s2 : smAll ((List.range s.n).map (shapeD s)) = true := smAll_of fun d hd => by
    obtain ⟨e, he, rfl⟩ := List.mem_map.mp hd
    exact (shp e (List.mem_range.mp he)).1
  have w2 := weightAll_le (B := 2000) (l := (List.range s.n).map (shapeD s)) fun d hd => by
    obtain ⟨e, he, rfl⟩ := List.mem_map.mp hd
    exact (shp e (List.mem_range.mp he)).2.1
  have d2 := depthAll_le (B := 4) (l := (List.range s.n).map (shapeD s)) fun d hd => by
    obtain ⟨e, he, rfl⟩ := List.mem_map.mp hd
    exact (shp e (List.mem_range.mp he)).2.2
  rw [List.length_map] at w1 w2
  rw [List.length_range] at w2
  have sn := sm_int (t := s.n) (by omega)
  have wn := w_int (t := s.n) (by omega)
  have l6 : s.hs.length ≤ 6 := by rw [hs]; exact r.h6
  have a1 : s.hs.length * (2000 + 1) ≤ 6 * (2000 + 1) := Nat.mul_le_mul_right _ l6
  have a2 : s.n * (2000 + 1) ≤ 40 * (2000 + 1) := Nat.mul_le_mul_right _ (by omega)
  refine ⟨sm_tup (sm_cons sm0.1 (sm_cons (sm_tup s1) (sm_cons sn (sm_cons (sm_tup s2) sm_nil)))), ?_, ?_⟩
  · simp only [shapeA, PyData.weight, PyData.weightAll] at w1 w2 wn w0 ⊢
    omega
  · simp only [shapeA, PyData.depth, PyData.depthAll]
    omega
/-- two lists of few things -/
def dLL (a b : List Nat) : PyData := .list [dL a, dL b]
theorem shw_LL {a b : List Nat} (ha : ∀ t ∈ a, t ≤ 40) (hb : ∀ t ∈ b, t ≤ 40) (la : a.length ≤ 100) (lb : b.length ≤ 100) : Shw (dLL a b) := by
  have s1 := sm_ints ha
  have s2 := sm_ints hb
  have w1 := w_ints ha
  have w2 := w_ints hb
  have d1 := d_ints a
  have d2 := d_ints b
  refine ⟨by simp [dLL, dL, smD, smAll, s1, s2], ?_, ?_⟩
  · simp only [dLL, dL, PyData.weight, PyData.weightAll]
    omega
  · simp only [dLL, dL, PyData.depth, PyData.depthAll]
    omega
end Df
/-! The store's answers are right. -/
namespace Df
open PySem PySem.Spec PyProof.Rows L2
theorem come_of_lost {K : Nat → List Hold} {n : Nat} : (List.range n).filterMap (fun i => if i ∈ lostL K n then none else some (vi i)) = (comeL K n).map vi := by
  unfold comeL
  have e : (List.range n).filterMap (fun i => if i ∈ lostL K n then none else some (vi i)) = (List.range n).filterMap (fun i => if ¬ i ∈ lostL K n then some (vi i) else none) := by
    congr 1
    funext i
    by_cases h : i ∈ lostL K n
    · rw [if_pos h, if_neg (fun z => z h)]
    · rw [if_neg h, if_pos h]
  rw [e, fm_filter vi (fun i => ¬ i ∈ lostL K n)]
  congr 1
  refine List.filter_congr fun t ht => ?_
  have lt := List.mem_range.mp ht
  by_cases c : Come K n t
  · have h1 : ¬ t ∈ lostL K n := fun z => (mem_lostL.mp z).2 c
    rw [@decide_eq_true _ (Classical.propDecidable _) c]
    exact decide_eq_true h1
  · have h1 : t ∈ lostL K n := mem_lostL.mpr ⟨lt, c⟩
    rw [@decide_eq_false _ (Classical.propDecidable _) c]
    exact decide_eq_false fun z => z h1
theorem comeL_lt2 {K : Nat → List Hold} {n t : Nat} (h : t ∈ comeL K n) : t < n := (mem_comeL.mp h).lt
theorem lostL_lt2 {K : Nat → List Hold} {n t : Nat} (h : t ∈ lostL K n) : t < n := (mem_lostL.mp h).1
theorem len_comeL {K : Nat → List Hold} {n : Nat} : (comeL K n).length ≤ n := by
  unfold comeL
  exact Nat.le_trans (List.length_filter_le _ _) (by rw [List.length_range]; exact Nat.le_refl _)
theorem len_lostL {K : Nat → List Hold} {n : Nat} : (lostL K n).length ≤ n := by
  unfold lostL
  exact Nat.le_trans (List.length_filter_le _ _) (by rw [List.length_range]; exact Nat.le_refl _)
theorem eqv_LL (a b : List Nat) : PyData.eqv (.tuple [dL a, dL b]) (.tuple [dL a, dL b]) = true := by
  simp only [PyData.eqv, PyData.eqvAll, eqv_dL, Bool.and_true, decide_true]
theorem shaped_LL (a b : List Nat) : SeqAt.shaped (.tuple [dL a, dL b]) = true := by
  show (PyData.canLay0 (.tuple [dL a, dL b]) && decide (PyData.depth (.tuple [dL a, dL b]) ≤ 64)) = true
  have h1 : PyData.canLay0 (.tuple [dL a, dL b]) = true := by simp [PyData.canLay0, PyData.canLayAll0, dL_lay]
  have h2 : PyData.depth (.tuple [dL a, dL b]) = 2 := by simp [PyData.depth, PyData.depthAll, dL_depth]
  rw [h1, h2]
  rfl
theorem same_str (x : Str) : (!decide (V.str x = V.str x)) = false := by rw [decide_eq_true rfl]; rfl
section
variable {P : Program} {w : World} {K : PySem.W.Frag} {mg : Str → Option Value} {base : Heap}
abbrev N_L_right : List Str := ["_law_den", "_law_own", "_law_due", "_law_other", "_law_shown", "_law_gone", "_law_there", "_law_piece", "_law_row"]
theorem sc_L_right : FnScope N_L_right ["_law_den", "_law_own"] (defScope s_L_right) := ⟨rfl, rfl, rfl, by decide +kernel, rfl, by decide +kernel, by decide +kernel⟩
def spRight (K : PySem.W.Frag) : Sp := fun vs H Q _ => ∃ (dx : Addr) (α : SV) (s : PS) (β : OV) (o : OS), vs = [.ref (α .den), .ref (β .own)] ∧ Bo (stC K) dx α s β o H ∧ ∀ H', Same H H' → Q (.bl true) H'
theorem ok_L_right (T : Tx K mg) (h_L_left : Cl P w K mg base "_law_left" 2 ["_law_own"] spLeft) (h_shape : Mt P w K mg base "shape" 3 ["self"] (spShape K)) (h_come_to : Cl P w K mg base "come_to" 8 ["store"] (spComeTo K)) (h_lost : Cl P w K mg base "lost" 8 ["store"] (spLost K))
    (hK_come_to : ClK P w K mg base "come_to" 8 ["store"] ["store"] (fun _ zs => zs) (spComeTo K)) (hK_lost : ClK P w K mg base "lost" 8 ["store"] ["store"] (fun _ zs => zs) (spLost K)) : ClG P w K mg base "_law_right" 9 ["_law_den", "_law_own"] (spRight K) := by
  refine ClG.of T.f_L_right T.gl_L_right sc_L_right (fun _ _ _ _ _ _ us hl => match us, hl with | [_, _], _ => rfl) (fun vs H Q E h => ?_) (fun cdv A outer s H vs Q E gd hr h => ?_)
  · obtain ⟨dx, α, s, β, o, rfl, _⟩ := h
    rfl
  · obtain ⟨dx, α, s, β, o, rfl, B, q⟩ := h
    have hu := hu_of hr
    refine ⟨_, (pss_cons (ps_set (i := 2) sc_L_right.nd rfl (Or.inr rfl) (pe_cl h_L_left hr (pa_cons (pv 1) pa_nil)))
      (pss_cons (ps_set (i := 3) sc_L_right.nd rfl (Or.inr rfl) (pe_lc (own := [("_law_piece", 7)]) rfl sc_L_right.nd (pi_range1 rfl T.b_range (pa_cons (pe_dget hu (pv 1) pe_str (fun _ _ => rfl)) pa_nil)) (blkOk_by (own := [("_law_piece", 7)]) (N := N_L_right) (sc := defScope s_L_right) (by decide +kernel)) (fun _ _ _ _ _ => pg_name (i := 7) sc_L_right.nd rfl (Or.inl rfl)) (fun _ _ _ _ _ => pts_one (pt_cmpR (op_notIn_seqK K) (pv 7) (pv 2) rfl)) (fun _ _ _ _ _ => pv 7)))
      (pss_cons (ps_set (i := 4) sc_L_right.nd rfl (Or.inl rfl) (pe_callB (cr_repr gd hr.units) (by rfl) T.b_repr (by decide +kernel) (pa_cons (pe_mt0 h_shape hr (pv 0)) pa_nil)))
      (pss_cons (ps_par (i := 5) (j := 6) (by rfl) sc_L_right.nd rfl rfl (by decide) rfl rfl (pa_cons (pe_cl h_lost hr (pa_cons (pv 0) pa_nil)) (pa_cons (pe_cl h_come_to hr (pa_cons (pv 0) pa_nil)) pa_nil)) (by rfl))
      (pss_cons (ps_if (PW.pt (pw_or (pt_not (pt_val (pe_callB call_isi (by rfl) T.b_isinstance (by decide +kernel) (pa_cons (pv 5) (pa_cons (pe_bltn (by rfl) T.b_list (by decide +kernel) (v := .ty "list") rfl) pa_nil))))) (pw_or (pt_not (pt_val (pe_callB call_isi (by rfl) T.b_isinstance (by decide +kernel) (pa_cons (pv 6) (pa_cons (pe_bltn (by rfl) T.b_list (by decide +kernel) (v := .ty "list") rfl) pa_nil))))) (pw_or1 (pt_cmpR op_ne (pe_callB (cr_repr gd hr.units) (by rfl) T.b_repr (by decide +kernel) (pa_cons (pe_lst (pa_cons (pv 5) (pa_cons (pv 6) pa_nil))) pa_nil)) (pe_callB (cr_repr gd hr.units) (by rfl) T.b_repr (by decide +kernel) (pa_cons (pe_lst (pa_cons (pv 2) (pa_cons (pv 3) pa_nil))) pa_nil)) (nomark _)))))) (pss_one (ps_ret pe_bl)) pss_nil)
      (pss_cons (ps_expr (pe_bm PySem.F.plainAttrs_list PySem.F.slot_list_append PySem.F.type_list_append mt_append (pv 5) (pa_cons pe_int pa_nil)))
      (pss_cons (ps_expr (pe_bm0 PySem.F.plainAttrs_list PySem.F.slot_list_clear PySem.F.type_list_clear mt_clear (pv 6)))
      (pss_cons (ps_if (PW.pt (pw_or (pt_cmpR (op_neD hr.units) (pe_tup (pa_cons (pe_clK hK_lost hr (pk_cons (pv 0) pk_nil)) (pa_cons (pe_clK hK_come_to hr (pk_cons (pv 0) pk_nil)) pa_nil))) (pe_tup (pa_cons (pv 2) (pa_cons (pv 3) pa_nil))) (nomark _)) (pw_or1 (pt_cmpR op_ne (pe_callB (cr_repr gd hr.units) (by rfl) T.b_repr (by decide +kernel) (pa_cons (pe_mt0 h_shape hr (pv 0)) pa_nil)) (pv 4) (nomark _))))) (pss_one (ps_ret pe_bl)) pss_nil)
      (pss_one (ps_ret (pe_callB (cr_all rfl) (by rfl) T.b_all (by decide +kernel) (pa_cons (pe_lock (pe_lc (own := [("_law_row", 8)]) rfl sc_L_right.nd (pi_values (pe_dget hu (pv 1) pe_str (fun _ _ => rfl))) (blkOk_by (own := [("_law_row", 8)]) (N := N_L_right) (sc := defScope s_L_right) (by decide +kernel)) (fun _ _ _ _ _ => pg_name (i := 8) sc_L_right.nd rfl (Or.inl rfl)) (fun _ _ _ _ _ => pts_nil) (fun _ _ _ _ _ => pe_callB (cr_allK K rfl) (by rfl) T.b_all (by decide +kernel) (pa_cons (pe_lc (own := [("_law_piece", 7)]) rfl sc_L_right.nd (pi_listK K (pv 8)) (blkOk_by (own := [("_law_piece", 7)]) (N := N_L_right) (sc := ({ kind := .function, names := [(".0", .local), ("_law_row", .local), ("all", .globalImplicit), ("_law_other", .cell)], isGenerator := false, isCoroutine := false } : Scope)) (by decide +kernel)) (fun _ _ _ _ _ => pg_name (i := 7) sc_L_right.nd rfl (Or.inl rfl)) (fun _ _ _ _ _ => pts_nil) (fun _ _ _ _ _ => pe_cmpR (op_in_seqK K) (pv 7) (pv 3) rfl)) pa_nil)))) pa_nil)))))))))))), ?_⟩
    have r := B.r
    have n40 := r.n40
    have emd := r.md
    have en := r.n
    refine ⟨_, rfl, β, s, o, rfl, B.b, r, fun du H1 s1 ndu hdu => ?_⟩
    have b1 := B.b.same s1
    have eN : Int.toNat ((o.md : Nat) : Int) = s.n := by rw [emd, en]; rfl
    refine ⟨_, rfl, _, _, rfl, b1.g_made, _, rfl, by omega, by omega, fun ot not => ?_⟩
    refine lc_pure (walk_range (lo := 0)) (by rw [eN, sizeLine_eq]; omega) (fun i => if i ∈ lostL s.K s.n then none else some (vi i)) not (fun _ _ => trivial) (fun i x H3 H4 hi s3 y Kk B hK hB => ?_) fun H2 s2 hot => ?_
    · obtain ⟨rfl, hx⟩ := y
      have ex : x = vi i := by
        rw [hx]
        exact congrArg V.int (Int.zero_add _)
      subst ex
      refine ⟨rfl, _, rfl, _, rfl, du, _, rfl, .inl (SqL.of (s3 _ _ hdu)), rfl, flat_vi _, _, rfl, ?_⟩
      rw [if_pos (show true = true from rfl), vi_inV]
      by_cases m : i ∈ lostL s.K s.n
      · rw [decide_eq_true m]
        exact iteF (hB (if_pos m) _ (Same.refl _))
      · rw [decide_eq_false m]
        exact iteT ⟨_, rfl, hK _ _ (if_neg m) (Same.refl _)⟩
    rw [eN, come_of_lost] at hot
    have hdu2 := s2 _ _ hdu
    have B2 := B.same (s1.trans s2)
    have sH2 := s1.trans s2
    obtain ⟨k1, k2, k3, k4⟩ := r.shw.use
    have h6 : s.hs.length ≤ 6 := by rw [r.hs]; exact r.h6
    have n40s : s.n ≤ 40 := by omega
    refine ⟨_, rfl, _, _, _, rfl, B2.a.den, nomt, dx, α, s, rfl, B2.a, n40s, r.ndS, h6, fun sh H3 s3 dsh => ?_⟩
    refine ⟨sh, shapeA s, rfl, dsh, k1, k2, k3, k4, ?_⟩
    have B3 := B2.same s3
    refine ⟨_, rfl, dx, α, s, rfl, r.ask B3.a, fun H4 l1 s4 nl1 hl1 => ?_⟩
    have B4 := B3.same s4
    refine ⟨_, rfl, dx, α, s, rfl, r.ask B4.a, fun H5 l2 s5 nl2 hl2 => ?_⟩
    have nl12 : l1 ≠ l2 := ne_of_none hl1 nl2
    have hl1 := s5 _ _ hl1
    have hdu3 := s3 _ _ hdu2
    have hot3 := s3 _ _ hot
    have nl23 : H3 l2 = none := s4.free nl2
    have s45 := s4.trans s5
    have la : ∀ t ∈ lostL s.K s.n, t ≤ 40 := fun t ht => by have := lostL_lt2 ht; omega
    have lb : ∀ t ∈ comeL s.K s.n, t ≤ 40 := fun t ht => by have := comeL_lt2 ht; omega
    obtain ⟨j1, j2, j3, j4⟩ := (shw_LL la lb (Nat.le_trans len_lostL (by omega)) (Nat.le_trans len_comeL (by omega))).use
    refine ⟨_, _, rfl, ?_⟩
    refine ⟨_, rfl, _, _, .type "list", .type "list", true, rfl, .ty _, .base (.lst hl1), kit_ty (by decide +kernel), true, rfl, ?_⟩
    refine iteF ?_
    refine ⟨_, rfl, _, _, .type "list", .type "list", true, rfl, .ty _, .base (.lst hl2), kit_ty (by decide +kernel), true, rfl, ?_⟩
    refine iteF ?_
    refine ⟨_, rfl, _, rfl, by show 2 ≤ sizeLine; decide, fun c1 nc1 => ?_⟩
    have t1 := same_upd nc1 (o := .lst [.ref l1, .ref l2])
    refine ⟨c1, dLL (lostL s.K s.n) (comeL s.K s.n), rfl, .lst (SqL.of upd_same) (.cons (dp_list (t1 _ _ hl1)) (.cons (dp_list (t1 _ _ hl2)) .nil)), j1, j2, j3, j4, ?_⟩
    refine ⟨_, rfl, _, rfl, by show 2 ≤ sizeLine; decide, fun c2 nc2 => ?_⟩
    have t2 := same_upd nc2 (o := .lst [.ref du, .ref ot])
    have t12 := t1.trans t2
    have t35 := s45.trans t12
    refine ⟨c2, dLL (lostL s.K s.n) (comeL s.K s.n), rfl, .lst (SqL.of upd_same) (.cons (dp_list (t35 _ _ hdu3)) (.cons (dp_list (t35 _ _ hot3)) .nil)), j1, j2, j3, j4, rfl, _, rfl, ?_⟩
    rw [same_str]
    refine iteF ?_
    have hl1 := t12 _ _ hl1
    have hl2 := t12 _ _ hl2
    generalize upd (upd H5 c1 (.lst [.ref l1, .ref l2])) c2 (.lst [.ref du, .ref ot]) = H6 at t35 hl1 hl2 ⊢
    refine ⟨_, rfl, .inl ⟨rfl, _, SqL.of hl1⟩, _, _, _, rfl, rfl, hl1, ?_, ?_⟩
    · have : (lostL s.K s.n).length ≤ s.n := len_lostL
      rw [List.length_map, sizeLine_eq]
      omega
    have s37 := same_put t35 nl1 (o := .lst ((lostL s.K s.n).map vi ++ [.int 0]))
    have hl2 : upd H6 l1 (.lst ((lostL s.K s.n).map vi ++ [.int 0])) l2 = some (.lst ((comeL s.K s.n).map vi)) := by rw [upd_ne nl12.symm]; exact hl2
    generalize upd H6 l1 (.lst ((lostL s.K s.n).map vi ++ [.int 0])) = H7 at s37 hl2 ⊢
    refine ⟨_, rfl, .inl ⟨rfl, _, SqL.of hl2⟩, _, _, rfl, rfl, hl2, ?_⟩
    have s38 := same_put s37 nl23 (o := .lst [])
    generalize upd H7 l2 (.lst []) = H8 at s38 ⊢
    have B8 := B3.same s38
    refine ⟨_, rfl, rfl, dx, α, s, rfl, r.ask B8.a, fun H9 g1 s9 ng1 hg1 => ?_⟩
    have B9 := B8.same s9
    refine ⟨_, rfl, rfl, dx, α, s, rfl, r.ask B9.a, fun H10 g2 s10 ng2 hg2 => ?_⟩
    have hg1 := s10 _ _ hg1
    refine ⟨by show 2 ≤ sizeLine; decide, fun c3 nc3 => ?_⟩
    have t3 := same_upd nc3 (o := .tup [.ref g1, .ref g2])
    refine ⟨_, rfl, _, rfl, by show 2 ≤ sizeLine; decide, fun c4 nc4 => ?_⟩
    have t4 := same_upd nc4 (o := .tup [.ref du, .ref ot])
    have t34 := t3.trans t4
    have s3b := s38.trans (s9.trans (s10.trans t34))
    refine ⟨.tuple [dL (lostL s.K s.n), dL (comeL s.K s.n)], .tuple [dL (lostL s.K s.n), dL (comeL s.K s.n)], .tup (SqT.of (t4 _ _ upd_same)) (.cons (dp_list (t34 _ _ hg1)) (.cons (dp_list (t34 _ _ hg2)) .nil)),
      .tup (SqT.of upd_same) (.cons (dp_list (s3b _ _ hdu3)) (.cons (dp_list (s3b _ _ hot3)) .nil)), shaped_LL _ _, shaped_LL _ _, _, rfl, ?_⟩
    rw [eqv_LL]
    refine iteF ?_
    generalize upd (upd H10 c3 (.tup [.ref g1, .ref g2])) c4 (.tup [.ref du, .ref ot]) = H11 at s3b ⊢
    have B11 := B3.same s3b
    refine ⟨_, rfl, _, _, _, rfl, B11.a.den, nomt, dx, α, s, rfl, B11.a, n40s, r.ndS, h6, fun sh2 H12 s12 dsh2 => ?_⟩
    refine ⟨sh2, shapeA s, rfl, dsh2, k1, k2, k3, k4, _, rfl, rfl, _, rfl, ?_⟩
    rw [same_str]
    refine iteF ?_
    have s3c := s3b.trans s12
    have B12 := B3.same s3c
    have hot12 := s3c _ _ hot3
    have sH12 := sH2.trans (s3.trans s3c)
    -- the rows
    have hrows := B12.b.rows
    refine ⟨β .rows, _, hrows, trivial, fun od => ?_⟩
    have nro : β .own ≠ β .rows := fun z => by cases B12.b.inj .own .rows trivial trivial z
    have hfr : upd H12 (β .rows) (.frz od (.dK (kH o.hs fun h => β (.row h)))) (β .rows) = _ := upd_same
    have own1 : upd H12 (β .rows) (.frz od (.dK (kH o.hs fun h => β (.row h)))) (β .own) = some (.dK (okv (β .hands) (β .rows) (β .slots) o.md (β .pool))) := by rw [upd_ne nro]; exact B12.b.own
    have hoff : ∀ c u, H12 c = some u → c ≠ β .rows → upd H12 (β .rows) (.frz od (.dK (kH o.hs fun h => β (.row h)))) c = some u := fun c u e n => by rw [upd_ne n]; exact e
    have hrow : ∀ h ∈ o.hs, upd H12 (β .rows) (.frz od (.dK (kH o.hs fun h => β (.row h)))) (β (.row h)) = some (.lst ((o.R h).map vi)) := fun h hh => hoff _ _ (B12.b.row hh) fun z => by cases B12.b.inj (.row h) .rows hh trivial z
    have notr : ot ≠ β .rows := fun z => by
      rw [z, hrows] at hot12
      cases hot12
    have hotf := hoff _ _ hot12 notr
    generalize hHf : upd H12 (β .rows) (.frz od (.dK (kH o.hs fun h => β (.row h)))) = Hf at hfr own1 hoff hrow hotf ⊢
    refine ⟨_, rfl, _, _, rfl, own_rows own1, _, _, _, rfl, hfr, fun D nD => ?_⟩
    have lk : (kH o.hs fun h => β (.row h)).length = o.hs.length := by unfold kH; rw [List.length_map]
    have l6 := r.h6
    refine lc_cps0 (walk_values (kvs := kH o.hs fun h => β (.row h))) (by rw [lk, sizeLine_eq]; omega) (fun i l H' => Same Hf H' ∧ l = List.replicate i (.bl true)) ⟨same_upd nD, rfl⟩ (fun i l H' x hD h => ⟨same_put h.1 nD, h.2⟩) (fun i l H' _ h => h.1 _ _ hfr) (fun i l x H' H'' hi hI hD y Kk hK => ?_) (fun l H' hl' hI hD => ?_)
    · obtain ⟨sf, rfl⟩ := hI
      obtain ⟨rfl, k, hx⟩ := y
      have hi' : i < o.hs.length := by rw [lk] at hi; exact hi
      obtain ⟨z, hz⟩ : ∃ z, o.hs[i]? = some z := ⟨_, List.getElem?_eq_getElem hi'⟩
      have ex : x = .ref (β (.row z)) := by
        unfold kH at hx
        rw [List.getElem?_map, hz] at hx
        exact (Prod.mk.inj (Option.some.inj hx)).2.symm
      subst ex
      have hzm := List.mem_of_getElem? hz
      have hR := sf _ _ (hrow z hzm)
      have lR := r.len z hzm
      refine ⟨rfl, _, rfl, _, rfl, ⟨_, SqL.of hR⟩, fun D2 nD2 => ?_⟩
      refine lc_pure0 (walk_list (xs := (o.R z).map vi)) (by rw [List.length_map, sizeLine_eq]; omega) (fun i => .bl (decide ((o.R z).getD i 0 ∈ comeL s.K s.n))) nD2 (fun H5 s5 => SqL.of (s5 _ _ hR)) (fun j x H5 H6 hj s5 y Kk2 hK2 => ?_) fun H5 s5 hD2 => ?_
      · obtain ⟨rfl, hx⟩ := y
        have hj' : j < (o.R z).length := by rw [List.length_map] at hj; exact hj
        have ex : x = vi ((o.R z).getD j 0) := by
          rw [List.getElem?_map, List.getElem?_eq_getElem hj'] at hx
          rw [← Option.some.inj hx]
          simp [hj']
        subst ex
        refine ⟨rfl, _, rfl, _, rfl, ot, _, rfl, .inl (SqL.of (s5 _ _ (sf _ _ hotf))), rfl, flat_vi _, ?_⟩
        rw [if_neg (show ¬ false = true by decide), vi_inV]
        exact hK2 _ (Same.refl _)
      · rw [List.length_map, range_getD (fun x => V.bl (decide (x ∈ comeL s.K s.n))) 0 (o.R z)] at hD2
        have hD3 : H5 D2 = some (.lst (((o.R z).map fun x => decide (x ∈ comeL s.K s.n)).map V.bl)) := by
          rw [hD2, List.map_map]
          rfl
        refine ⟨D2, _, rfl, SqL.of hD3, ?_⟩
        have ea : (((o.R z).map fun x => decide (x ∈ comeL s.K s.n)).all id) = true := by
          rw [List.all_map, List.all_eq_true]
          intro t ht
          refine decide_eq_true (mem_comeL.mpr (.mk ?_ (r.nil_mem hzm ht) fun x hx => absurd hx List.not_mem_nil))
          rw [r.n]
          exact r.lt z hzm t ht
        rw [ea]
        refine hK _ _ (s5 _ _ hD) ⟨sf.trans s5, ?_⟩
        rw [List.replicate_succ']
    · obtain ⟨sf, rfl⟩ := hI
      have hf' := sf _ _ hfr
      refine ⟨hf', ?_⟩
      have sHf : Same H12 (upd H' (β .rows) (.dK (kH o.hs fun h => β (.row h)))) := fun c u e => by
        by_cases z : c = β .rows
        · rw [z, hrows] at e
          rw [z, upd_same, ← e]
        · rw [upd_ne z]
          exact sf _ _ (hoff c u e z)
      have hD2 : upd H' (β .rows) (.dK (kH o.hs fun h => β (.row h))) D = some (.lst ((List.replicate (kH o.hs fun h => β (.row h)).length true).map V.bl)) := by
        have ne : D ≠ β .rows := fun z => by
          rw [z, hf'] at hD
          cases hD
        rw [upd_ne ne, hD, List.map_replicate]
      refine ⟨D, _, rfl, SqL.of hD2, ?_⟩
      rw [all_rep]
      exact q _ (sH12.trans sHf)
end
end Df
/-! The law. -/
namespace Df
open PySem PySem.Spec PyProof.Rows L2
section
variable {C dx : Addr} {α : SV} {s : PS} {β : OV} {o : OS} {H H1 : Hp} {p : Addr}
theorem Bo.pot (B : Bo C dx α s β o H) (c : Cp p H H1) (hp : Pot p H) (n : ¬ BF α s β o p) : Bo C dx α s β o H1 := B.keep c (fun b f => by rw [f]; exact n) fun b xs f z => by
  obtain ⟨x, y, e, _⟩ := hp
  rw [f, e] at z
  cases z
theorem Bo.new (B : Bo C dx α s β o H) {l : Addr} (n : H l = none) : ¬ BF α s β o l := fun f => f.elim (fun f => B.a.foot_some f n) fun f => B.b.foot_some n f
end
section
variable {P : Program} {w : World} {K : PySem.W.Frag} {mg : Str → Option Value} {base : Heap}
abbrev N_law : List Str := ["_law_script", "_law_k", "_law_pot_here", "_law_own", "_law_den", "_law_turn"]
theorem sc_law : FnScope N_law ["_law_script"] (defScope s_law) := ⟨rfl, rfl, rfl, by decide +kernel, rfl, by decide +kernel, by decide +kernel⟩
def spLaw (K : PySem.W.Frag) : Sp := fun vs H Q _ => ∃ (a : Addr) (ns : List Int), vs = [.ref a] ∧ SqL K H a (ns.map V.int) ∧ ∀ H', Q (.bl true) H'
/-- what a turn of the law keeps: the store and the own state stand in what was not there, apart from the pot -/
structure Tn (C dx : Addr) (α : SV) (s : PS) (β : OV) (o : OS) (p : Addr) (H0 H : Hp) : Prop where
  B : Bo C dx α s β o H
  po : Pot p H
  np : ¬ BF α s β o p
  s0 : Same H0 H
  f0 : ∀ c, BF α s β o c → H0 c = none
section
variable {C dx : Addr} {α α' : SV} {s s' : PS} {β β' : OV} {o o' : OS} {H0 H H1 : Hp} {p : Addr}
theorem Tn.pot (T : Tn C dx α s β o p H0 H) (p0 : H0 p = none) (h : Pot p H1) (c : Cp p H H1) : Tn C dx α s β o p H0 H1 :=
  ⟨T.B.pot c T.po T.np, h, T.np, fun b u e => c b u (T.s0 b u e) (fun z => by rw [z, p0] at e; cases e), T.f0⟩
theorem Tn.same (T : Tn C dx α s β o p H0 H) (e : Same H H1) : Tn C dx α s β o p H0 H1 := ⟨T.B.same e, T.po.same e, T.np, T.s0.trans e, T.f0⟩
theorem Tn.step (T : Tn C dx α s β o p H0 H) (B : Bo C dx α' s' β' o' H1) (k : Kp (BF α s β o) (BF α' s' β' o') H H1) : Tn C dx α' s' β' o' p H0 H1 := by
  obtain ⟨x, y, e, r⟩ := T.po
  obtain ⟨e1, e2⟩ := k _ _ e T.np
  have old : ∀ b u, H0 b = some u → H1 b = some u ∧ ¬ BF α' s' β' o' b := fun b u q => k b u (T.s0 b u q) fun f => by
    rw [T.f0 b f] at q
    cases q
  refine ⟨B, ⟨x, y, e1, r⟩, e2, fun b u q => (old b u q).1, fun c f => ?_⟩
  cases q : H0 c with
  | none => rfl
  | some u => exact absurd f (old c u q).2
end
theorem ok_law (T : Tx K mg) {fd : FuncData} (F : FunD K "law" "law" (defArgs s_law) (defBody s_law) (defScope s_law) [] [] (He.ga K "law") fd)
    (h_init : ∃ fd, FnOk P w K mg base CX0 3 (He.ma K (stC K) "__init__") fd ["self", "hands"] (spInit K) ∧ Binds K fd ["self", "hands"] [])
    (h_L_pot : Cl P w K mg base "_law_pot" 1 ["_law_script", "_law_k"] (spPot K)) (h_L_take : Cl P w K mg base "_law_take" 1 ["_law_pot_here", "_law_many"] spLTake) (h_L_begun : Cl P w K mg base "_law_begun" 4 ["_law_pot_here", "_law_most_hands"] spBegun) (h_L_next : Cl P w K mg base "_law_next" 4 ["_law_pot_here", "_law_own"] spRing)
    (h_L_all_done : Cl P w K mg base "_law_all_done" 7 ["_law_den", "_law_own", "_law_deeds"] (spAllDone K)) (h_L_right : ClG P w K mg base "_law_right" 9 ["_law_den", "_law_own"] (spRight K)) (h_L_chain_right : Cl P w K mg base "_law_chain_right" 9 ["_law_pot_here"] spChain) :
    FnG P w K mg base 10 (He.ga K "law") fd ["_law_script"] (spLaw K) := by
  obtain ⟨fdI, FI, bI⟩ := h_init
  refine okG_of F sc_law (fun vs H Q E h => ?_) (fun cdv A outer s H vs Q E gd hr h => ?_)
  · obtain ⟨a, ns, rfl, _⟩ := h
    rfl
  · obtain ⟨a, ns, rfl, ha, q⟩ := h
    have hu := hu_of hr
    refine ⟨_, (pss_cons (ps_for PassesOwn.never rfl (pi_range1 rfl T.b_range (pa_cons (pe_callB (call_max2 rfl) (by rfl) T.b_max (by decide +kernel) (pa_cons pe_int (pa_cons (pe_callB (call_min2 rfl) (by rfl) T.b_min (by decide +kernel) (pa_cons pe_int (pa_cons (pe_callB call_len_seq (by rfl) T.b_len (by decide +kernel) (pa_cons (pv 0) pa_nil)) pa_nil))) pa_nil))) pa_nil)) (pg_name (i := 1) sc_law.nd rfl (Or.inl rfl)) (pss_cons (ps_set (i := 2) sc_law.nd rfl (Or.inl rfl) (pe_cl h_L_pot hr (pa_cons (pv 0) (pa_cons (pv 1) pa_nil))))
      (pss_cons (ps_set (i := 3) sc_law.nd rfl (Or.inl rfl) (pe_cl h_L_begun hr (pa_cons (pv 2) (pa_cons pe_int pa_nil))))
      (pss_cons (ps_set (i := 4) sc_law.nd rfl (Or.inl rfl) (pe_make T.mkS FI (hr.mono (by decide)) (by rfl) T.g_Store bI .nil pass0 (pa_cons (pe_callTy call_list_of (by rfl) T.b_list (by decide +kernel) (pa_cons (pe_dget hu (pv 3) pe_str (fun _ _ => rfl)) pa_nil)) pa_nil)))
      (pss_cons (ps_for PassesOwn.never rfl (pi_range1 rfl T.b_range (pa_cons (pe_cl h_L_take hr (pa_cons (pv 2) (pa_cons pe_int pa_nil))) pa_nil)) (pg_name (i := 5) sc_law.nd rfl (Or.inl rfl)) (pss_cons (ps_expr (pe_cl h_L_all_done hr (pa_cons (pv 4) (pa_cons (pv 3) (pa_cons (pe_cl h_L_next hr (pa_cons (pv 2) (pa_cons (pv 3) pa_nil))) pa_nil)))))
      (pss_one (ps_if (PW.pt (pw_and (pt_cmpR op_eq (pe_cl h_L_take hr (pa_cons (pv 2) (pa_cons pe_int pa_nil))) pe_int (nomark _)) (pw_and1 (pt_not (pt_val (pe_clG h_L_right gd hr (pa_cons (pv 4) (pa_cons (pv 3) pa_nil)))))))) (pss_one (ps_ret pe_bl)) pss_nil))))
      (pss_one (ps_if (PW.pt (pw_or (pt_not (pt_val (pe_clG h_L_right gd hr (pa_cons (pv 4) (pa_cons (pv 3) pa_nil))))) (pw_or1 (pt_not (pt_val (pe_cl h_L_chain_right hr (pa_cons (pv 2) pa_nil))))))) (pss_one (ps_ret pe_bl)) pss_nil)))))))
      (pss_one (ps_ret pe_bl))), ?_⟩
    refine ⟨_, rfl, _, _, rfl, .inl ha, _, _, rfl, _, _, rfl, _, rfl, ?_, ?_, ?_⟩
    · split <;> split <;> omega
    · split <;> split <;> omega
    refine for_it (walk_range (lo := 0)) (fun i σ H' => ∃ x1 x2 x3 x4 x5 : Option V, σ = [some (.ref a), x1, x2, x3, x4, x5] ∧ Same H H') ⟨_, _, _, _, _, rfl, Same.refl _⟩ (fun _ _ _ _ _ => trivial) (fun i x σ H' H'' hi hp y => ?_) (fun σ H' hp => ?_)
    · obtain ⟨x1, x2, x3, x4, x5, rfl, sH⟩ := hp
      obtain ⟨rfl, hx⟩ := y
      have ex : x = vi i := by
        rw [hx]
        exact congrArg V.int (Int.zero_add _)
      subst ex
      have hi3 : i < 3 := by
        split at hi <;> split at hi <;> omega
      refine ⟨_, rfl, _, rfl, a, ns, i, rfl, SqL.same sH ha, by omega, fun p H1 p0 hp1 s1 => ?_⟩
      refine ⟨_, rfl, p, rfl, hp1, fun β hs pool H2 b2 hp2 c2 fo nd l1 l6 hn pn pl1 pl8 => ?_⟩
      have r0 : Rel (PS0 hs) (OS0 hs pool) := Rel.begin nd l1 l6 hn pn pl1 pl8
      refine ⟨_, rfl, _, _, rfl, b2.g_hands, _, _, rfl, .inl (SqL.of b2.hands), fun l0 nl0 => ?_⟩
      intro x dx nx ndx ne
      have sa := same_upd nl0 (o := .lst (hs.map V.str))
      have sb := sa.trans ((same_upd ndx (o := .own x)).trans (same_new (o := .ins (stC K) dx []) (Same.refl _) (by rw [upd_ne ne.symm]; exact nx)))
      refine ⟨x, dx, l0, hs, rfl, upd_same, ?_, l1, l6, hn, nd, fun α H4 a4 ed keep foot0 => ⟨rfl, ?_⟩⟩
      · have : l0 ≠ x := ne_of_none (H := upd H2 l0 (.lst (hs.map V.str))) upd_same nx
        rw [upd_ne this, upd_ne (ne_of_none (H := upd H2 l0 (.lst (hs.map V.str))) upd_same ndx)]
        exact upd_same
      have nxH := sa.free nx
      have s24 : Same H2 H4 := fun c o e => keep c o (sb _ _ e) (ne_of_none e nxH)
      have foot : ∀ c, Foot α (PS0 hs) c → H2 c = none := fun c f => (foot0 c f).elim (fun e => by rw [e]; exact nxH) fun e => sb.free e
      have fr : ∀ c, H2 c = none → H1 c = none := fun c n => Cp.free c2 hp2 n
      have T0 : Tn (stC K) dx α (PS0 hs) β (OS0 hs pool) p H'' H4 := by
        refine ⟨⟨a4, b2.same s24, fun c f z => ?_, r0⟩, hp2.same s24, fun f => ?_, fun b u e => s24 b u (c2 b u (s1 b u e) fun z => by rw [z, p0] at e; cases e), fun c f => ?_⟩
        · obtain ⟨u, hu2⟩ := b2.f_some z
          rw [foot c f] at hu2
          cases hu2
        · rcases f with f | f
          · exact hp2.ne (foot p f) rfl
          · exact hp1.ne (fo p f) rfl
        · rcases f with f | f
          · exact s1.free (fr c (foot c f))
          · exact s1.free (fo c f)
      subst ed
      refine ⟨_, rfl, p, 61, rfl, T0.po, by decide, by decide, fun m H5 hm p5 c5 => ?_⟩
      have T5 := T0.pot p0 p5 c5
      refine ⟨_, rfl, by omega, by omega, ?_⟩
      refine for_it (walk_range (lo := 0)) (fun j σ H' => ∃ (α' : SV) (s' : PS) (β' : OV) (o' : OS) (x5 : Option V), σ = [some (.ref a), some (vi i), some (.ref p), some (.ref (β .own)), some (.ref (α .den)), x5] ∧ α' .den = α .den ∧ β' .own = β .own ∧ Tn (stC K) dx α' s' β' o' p H'' H')
        ⟨α, _, β, _, _, rfl, rfl, rfl, T5⟩ (fun _ _ _ _ _ => trivial) (fun j x σ H6 H7 hj hp y => ?_) (fun σ H6 hp => ?_)
      · obtain ⟨α', s', β', o', y5, rfl, e1, e2, T6⟩ := hp
        obtain ⟨rfl, rfl⟩ := y
        have nOF : ¬ OFoot β' o' p := fun f => T6.np (.inr f)
        refine ⟨_, rfl, _, rfl, _, rfl, _, rfl, p, β', s', o', by rw [e2]; rfl, T6.po, T6.B.b, nOF, T6.B.r, fun l ds H8 p8 c8 nl hl hds => ?_⟩
        have T8 := T6.pot p0 p8 c8
        refine ⟨dx, α', s', β', o', l, ds, by rw [e1, e2]; rfl, T8.B, hl, hds, T6.B.new nl, fun α9 s9 β9 o9 H9 B9 e91 e92 _ _ k9 => ?_⟩
        have T9 := T8.step B9 k9
        refine ⟨_, rfl, p, 5, rfl, T9.po, by decide, by decide, fun d H10 hd p10 c10 => ?_⟩
        have T10 := T9.pot p0 p10 c10
        refine ⟨rfl, _, rfl, ?_⟩
        refine ite2 (fun e => ?_) (fun e => ?_)
        · refine ⟨_, rfl, _, rfl, dx, α9, s9, β9, o9, by rw [e91, e1, e92, e2]; rfl, T10.B, fun H11 s11 => ⟨_, rfl, ?_⟩⟩
          refine iteF ?_
          exact ⟨α9, s9, β9, o9, _, rfl, e91.trans e1, e92.trans e2, T10.same s11⟩
        · refine iteF ?_
          exact ⟨α9, s9, β9, o9, _, rfl, e91.trans e1, e92.trans e2, T10⟩
      · obtain ⟨α', s', β', o', y5, rfl, e1, e2, T6⟩ := hp
        refine ⟨_, rfl, _, rfl, dx, α', s', β', o', by rw [e1, e2]; rfl, T6.B, fun H7 s7 => ⟨_, rfl, ?_⟩⟩
        refine iteF ?_
        have T7 := T6.same s7
        refine ⟨_, rfl, p, rfl, T7.po, fun H8 p8 c8 => ⟨_, rfl, ?_⟩⟩
        refine iteF ?_
        have T8 := T7.pot p0 p8 c8
        exact ⟨_, _, _, _, _, rfl, sH.trans T8.s0⟩
    · obtain ⟨x1, x2, x3, x4, x5, rfl, _⟩ := hp
      exact q H'
end
end Df
/-! The end for a law that is run where nothing is being shown. -/
namespace Df
open PySem PySem.Spec PyProof.Rows L2
theorem none_if {H : Hp} {b a : Addr} (hA : ∀ c, H c ≠ none → c = a) (n : b ≠ a) : H b = none := by
  cases q : H b with
  | none => rfl
  | some u => exact absurd (hA b (by rw [q]; nofun)) n
/-- the law's call behind the top -/
theorem law_callG {P : Program} {w : World} {K : PySem.W.Frag} {mg mb : Str → Option Value} {k : Nat} {fa a : Addr} {fd : FuncData} {x : Str} {sp : Sp} {s1 : Shared} {us : List Value} {ns : List Int}
    (kin : K.In s1.heap) (n1 : s1.heap.Ns mainGlobals mg) (n2 : s1.heap.Ns builtinsNs mb) (n3 : ∀ x : Str, x ≠ "__name__" → mb x = bootBuiltins x) (lim : s1.heap.NoLimit) (gens : s1.gens = #[])
    (at_ : s1.heap.get? a = some { cls := .type "list", data := .seq us.toArray }) (ia : IntsAre us ns) (len : ns.length ≤ sizeLine) (room : Room k callerA) (F : ∀ base : Heap, K.In base → base.Ns mainGlobals mg → FnG P w K mg base k fa fd [x] sp)
    (bind : ∀ (s : Shared) (u : Value), BindsTo s fd ⟨[u], []⟩ [(x, u)]) (keeps : ∀ H : Hp, Only H → SqL K H a (ns.map V.int) → sp [.ref a] H (fun v _ => v = .bl true) fun _ _ _ => False) :
    codeAny (model P w) callerA (.call (.ref fa) ⟨[.ref a], []⟩) (fun r s' => r = .ok (.ret (.bool true)) ∧ OldK s1.heap s'.heap ∧ s'.os = s1.os ∧ AllBare s'.gens) s1 := by
  have rv := vals_ints ia
  have fits : (ns.map V.int).length ≤ sizeLine := by rw [List.length_map]; exact len
  have go : ∀ H : Hp, Only H → SqL K H a (ns.map V.int) → HOk P w H s1.heap → (∀ b, H b ≠ none → b = a) → (H a ≠ none → K.lookup a = none) → codeAny (model P w) callerA (.call (.ref fa) ⟨[.ref a], []⟩) (fun r s' => r = .ok (.ret (.bool true)) ∧ OldK s1.heap s'.heap ∧ s'.os = s1.os ∧ AllBare s'.gens) s1 := by
    intro H only sq hok hA hK
    have dict : ∀ {b : Addr} {m : Str → Option Value}, s1.heap.Ns b m → (hidT s1.heap H).Ns b m := fun {b m} ⟨o, es, ep, e, d, r⟩ => ⟨o, es, ep, hidT_get e (none_if hA fun z => by
      subst z; rw [at_] at e; cases e; exact absurd (show Data.seq us.toArray _ = Data.dict es ep from d) (by nofun)), d, r⟩
    have own : K.In (hidT s1.heap H) := fun b o e => hidT_get (kin b o e) (by
      by_cases z : b = a
      · subst z
        cases q : H b with
        | none => rfl
        | some u => rw [hK (by rw [q]; nofun)] at e; cases e
      · exact none_if hA z)
    have mod : Mod K mg (hidT s1.heap H) := ⟨own, dict n1, ⟨mb, dict n2, n3⟩, lim.imp fun mc h => ⟨dict h.1, h.2⟩⟩
    have env0 : Env0 P w K mg (hidT s1.heap H) callerA [] s1 H := ⟨rfl, mod, fun b o e => of_hidT e, Nat.le_of_eq (hidT_size _ _), trivial, (fun b hb => nomatch (show b ∈ ([] : List Addr) from hb)), hok, AllBare.of_eq gens⟩
    refine codeAny_mono ((F _ own (dict n1)).go callerA [] s1 H ⟨[.ref a], []⟩ [.ref a] [.ref a] _ _ rfl room env0 (bind s1 (.ref a)) (.cons rfl .nil) (keeps H only sq)) fun r s' h => ?_
    match r, h with
    | .ok (.ret u), ⟨v, H', os, bare, un, hok', rel, q⟩ =>
      have q : v = .bl true := q
      subst q
      obtain rfl : u = Value.bool true := rel
      refine ⟨rfl, OldK.of_keep fun b o e => ?_, os, bare⟩
      rcases only b with z | ⟨ob, xs, z⟩
      · exact un.keep b o e z (fun y => by cases y) (fun y => by cases y)
      · obtain ⟨g1, _⟩ := hok b _ z
        obtain ⟨g2, _⟩ := hok' b _ (un.frzs b ob _ z)
        rw [e] at g1; cases g1; exact g2
  cases hk : K.lookup a with
  | some o =>
    have e := kin a o hk
    rw [at_] at e; cases e
    exact go (fun _ => none) (fun _ => .inl rfl) (.inr ⟨_, us.toArray, _, hk, rfl, rfl, rfl, by rw [List.size_toArray, ia.length]; exact len, by simpa using rv⟩) (fun b u z => by cases z) (fun b z => absurd rfl z) fun z => absurd rfl z
  | none =>
    have pos : ∀ {b : Addr}, b = a → (if b = a then some (HO.frz { cls := .type "list", data := .seq us.toArray } (.lst (ns.map V.int))) else none) = some (HO.frz { cls := .type "list", data := .seq us.toArray } (.lst (ns.map V.int))) := fun z => if_pos z
    refine go (fun b => if b = a then some (.frz { cls := .type "list", data := .seq us.toArray } (.lst (ns.map V.int))) else none) (fun b => ?_) (.inl (.inr ⟨_, pos rfl⟩)) (fun b u z => ?_) (fun b z => ?_) fun _ => hk
    · by_cases e : b = a
      · exact .inr ⟨_, _, pos e⟩
      · exact .inl (if_neg e)
    · by_cases e : b = a
      · have z2 := (pos e).symm.trans z
        cases z2
        subst e
        exact ⟨at_, fits, us, _, rv, at_⟩
      · have z2 := (if_neg e).symm.trans z
        cases z2
    · exact Classical.byContradiction fun e => z (if_neg e)
/-- the walk, from the law's promise -/
theorem walkG {l : PySem.W.OpenLaw} {n k : Nat} {q : Program} {loose : List Str} {XP : (Str → Option Value) → Heap → Prop} {YP : World → Heap → Prop} {d : DefRec} {x : Str} (hn : l.most = some n) (hn2 : n ≤ sizeLine) (hdf : d.params.defaults = []) (room : Room k callerA)
    (F : ∀ (w : World) (mg : Str → Option Value) (fa : Addr) (h : Heap), YP w h → h.Ns mainGlobals mg → mg d.name = some (.ref fa) → ∃ (K : PySem.W.Frag) (fd : FuncData) (sp : Sp), K.In h ∧ (∀ (s : Shared) (u : Value), BindsTo s fd ⟨[u], []⟩ [(x, u)]) ∧
      (∀ (H : Hp) (a : Addr) (ns : List Int), ns.length ≤ n → Only H → SqL K H a (ns.map V.int) → sp [.ref a] H (fun v _ => v = .bl true) fun _ _ _ => False) ∧ ∀ base : Heap, K.In base → base.Ns mainGlobals mg → FnG l.prog w K mg base k fa fd [x] sp) :
    PySem.W.WalkO q loose XP YP l.row.toRowW d [] (fun f vs => PySem.call f vs) := by
  refine Att.attach_call hn hdf fun w s0 s1 mg mb fa o pm cd doc a vs ns G Y ho hd hcd hmg hobj hints hlen hg => ?_
  obtain ⟨K, fd, sp, KX, hb, hsp, hF⟩ := F w mg fa _ Y G.T.g hmg
  exact law_callG KX G.T.g G.T.b G.T.builtins G.T.nolimit hg hobj hints (Nat.le_trans hlen hn2) room hF hb fun H hO hS => hsp H a ns hlen hO hS
end Df
set_option maxHeartbeats 0
namespace Df
open PySem PySem.Spec PyProof.Rows L2
theorem all_kept {P : Program} {w : World} {K : PySem.W.Frag} {mg : Str → Option Value} {base : Heap} (T : Tx K mg) {fd : FuncData} (F : FunD K "law" "law" (defArgs s_law) (defBody s_law) (defScope s_law) [] [] (He.ga K "law") fd) : FnG P w K mg base 10 (He.ga K "law") fd ["_law_script"] (spLaw K) := by
  have h_is_whole := ok_is_whole (P := P) (w := w) (base := base) T 
  have h_is_count := ok_is_count (P := P) (w := w) (base := base) T h_is_whole
  have h_is_name := ok_is_name (P := P) (w := w) (base := base) T 
  have h_want_name := ok_want_name (P := P) (w := w) (base := base) T h_is_name
  have h_want_word := ok_want_word (P := P) (w := w) (base := base) T h_is_name
  have h_want_hands := ok_want_hands (P := P) (w := w) (base := base) T h_is_name
  have h_joint := ok_joint (P := P) (w := w) (base := base) T 
  have h_done := ok_done (P := P) (w := w) (base := base) T 
  have h_come_in := ok_come_in (P := P) (w := w) (base := base) T 
  have h_add_hold := ok_add_hold (P := P) (w := w) (base := base) T 
  have h_end_hold := ok_end_hold (P := P) (w := w) (base := base) T 
  have h_holds_by := ok_holds_by (P := P) (w := w) (base := base) T h_joint
  have h_things := ok_things (P := P) (w := w) (base := base) T 
  have h_has_thing := ok_has_thing (P := P) (w := w) (base := base) T h_is_count
  have h_want_thing := ok_want_thing (P := P) (w := w) (base := base) T h_has_thing
  have h_want_hand := ok_want_hand (P := P) (w := w) (base := base) T h_is_name
  have h_want_had := ok_want_had (P := P) (w := w) (base := base) T h_is_count
  have h_want_room := ok_want_room (P := P) (w := w) (base := base) T 
  have h_want_owner := ok_want_owner (P := P) (w := w) (base := base) T h_want_hand h_want_had h_want_name
  have h_have := ok_have (P := P) (w := w) (base := base) T h_add_hold
  have h_lose := ok_lose (P := P) (w := w) (base := base) T h_end_hold
  have h_clear_slot := ok_clear_slot (P := P) (w := w) (base := base) T h_end_hold h_holds_by
  have h_fill := ok_fill (P := P) (w := w) (base := base) T h_clear_slot h_add_hold h_holds_by h_done
  have h_put := ok_put (P := P) (w := w) (base := base) T h_want_owner h_want_had h_fill
  have h_show := ok_show (P := P) (w := w) (base := base) T h_want_owner h_want_had h_fill
  have h_tie := ok_tie (P := P) (w := w) (base := base) T h_want_owner h_want_had h_fill
  have h_empty := ok_empty (P := P) (w := w) (base := base) T h_want_owner h_clear_slot h_done
  have h_take := ok_take (P := P) (w := w) (base := base) T h_want_owner h_want_had h_want_room h_have h_done
  have h_drop := ok_drop (P := P) (w := w) (base := base) T h_want_hand h_want_had h_lose h_done
  have h_give := ok_give (P := P) (w := w) (base := base) T h_want_hand h_want_had h_want_room h_lose h_have h_done
  have h_make := ok_make (P := P) (w := w) (base := base) T h_want_hand h_want_word h_want_room h_come_in h_have h_done
  have h_init := ok_init (P := P) (w := w) (base := base) T h_want_hands
  have h_holds_of := ok_holds_of (P := P) (w := w) (base := base) T h_want_thing
  have h_hold_within := ok_hold_within (P := P) (w := w) (base := base) T h_holds_of
  have h_ways_known := ok_ways_known (P := P) (w := w) (base := base) T h_things h_hold_within
  obtain ⟨h_come_to, hK_come_to⟩ := ok_come_to (P := P) (w := w) (base := base) T h_ways_known
  obtain ⟨h_lost, hK_lost⟩ := ok_lost (P := P) (w := w) (base := base) T h_ways_known h_things
  have h_L_pot := ok_L_pot (P := P) (w := w) (base := base) T 
  have h_L_take := ok_L_take (P := P) (w := w) (base := base) T 
  have h_L_among := ok_L_among (P := P) (w := w) (base := base) T h_L_take
  have h_L_name := ok_L_name (P := P) (w := w) (base := base) T h_L_take
  have h_L_names := ok_L_names (P := P) (w := w) (base := base) T h_L_name
  have h_L_row_in := ok_L_row_in (P := P) (w := w) (base := base) T 
  have h_L_is_let := ok_L_is_let (P := P) (w := w) (base := base) T h_L_row_in
  have h_L_less := ok_L_less (P := P) (w := w) (base := base) T 
  have h_L_own_done := ok_L_own_done (P := P) (w := w) (base := base) T h_L_row_in h_L_less
  have h_L_store_done := ok_L_store_done (P := P) (w := w) (base := base) T h_make h_put h_show h_tie h_empty h_take h_give h_drop
  have h_L_all_done := ok_L_all_done (P := P) (w := w) (base := base) T h_L_is_let h_L_store_done h_L_own_done
  have h_L_deed := ok_L_deed (P := P) (w := w) (base := base) T h_L_take h_L_among
  have h_L_ring := ok_L_ring (P := P) (w := w) (base := base) T h_L_take h_L_among
  have h_L_next := ok_L_next (P := P) (w := w) (base := base) T h_L_take h_L_ring h_L_deed
  have h_L_begun := ok_L_begun (P := P) (w := w) (base := base) T h_L_take h_L_names
  have h_L_holds := ok_L_holds (P := P) (w := w) (base := base) T 
  have h_L_left := ok_L_left (P := P) (w := w) (base := base) T h_L_holds
  have h_L_chain_right := ok_L_chain_right (P := P) (w := w) (base := base) T h_init h_L_take h_make h_put h_drop h_come_to h_lost
  have h_sort_word := ok_sort_word (P := P) (w := w) (base := base) T 
  have h_marks_of := ok_marks_of (P := P) (w := w) (base := base) T 
  have h_shape_of := ok_shape_of (P := P) (w := w) (base := base) T h_marks_of
  have h_shape := ok_shape (P := P) (w := w) (base := base) T h_sort_word h_things h_shape_of
  have h_L_right := ok_L_right (P := P) (w := w) (base := base) T h_L_left h_shape h_come_to h_lost hK_come_to hK_lost
  exact ok_law T F h_init h_L_pot h_L_take h_L_begun h_L_next h_L_all_done h_L_right h_L_chain_right
theorem facts {P : Program} {w : World} {K : PySem.W.Frag} {h : Heap} {mg : Str → Option Value} {f : Addr} (X : K.In h) (G : h.Ns mainGlobals mg) (hfa : mg ("law" : Str) = some (.ref f)) (c : He.SaysD fa fn K) :
    ∃ fd : FuncData, (∀ (s : Shared) (v : Value), BindsTo s fd ⟨[v], []⟩ [("_law_script", v)]) ∧ ∀ base : Heap, K.In base → base.Ns mainGlobals mg → FnG P w K mg base 10 f fd ["_law_script"] (spLaw K) := by
  have T : Tx K mg := ⟨c, h, X, G⟩
  obtain ⟨fd, F⟩ := T.f_law
  have e := hfa.symm.trans T.gl_law
  cases e
  have b := FunD.bindsA (ps := ["_law_script"]) F fun _ _ _ _ _ _ us hl => match us, hl with | [_], _ => rfl
  exact ⟨fd, fun s v => b s [v] rfl, fun base _ _ => all_kept T F⟩
end Df
open PySem PySem.W PySem.Calls PyProof.Rows
theorem PySem.Challenge.cw_deepfall_k23_whole_come_to_and_lost_holds : PySem.Challenge.rw_deepfall_k23_whole_come_to_and_lost.Holds := by
  w_on; o_law
  refine HandSHeadRun.head_any (r := Df.R) (q := view Df.R.prog [56]) (H := Df.hk) (ob := Df.ob) (M := 60000) (loose := Df.names) (d := HandSHeadRun.topDef Df.R.prog 56) (kwd := []) Df.ob_eq
    (by kernel_rfl) (fun s => by kernel_rfl) Df.run (by kernel_rfl) (by kernel_rfl) (by kernel_rfl) (by rfl) (by first | assumption | decide +kernel) (by decide +kernel) ⟨rfl, rfl, rfl, rfl, rfl, by decide +kernel⟩ ?hw ?hc
  case hw => w_witness2
  case hc =>
    refine Df.walkG (l := PySem.Challenge.rw_deepfall_k23_whole_come_to_and_lost) (n := 63) (k := 10) (x := "_law_script") rfl (by decide) (by kernel_rfl) ⟨rfl, by decide, by decide⟩ ?_
    intro w mg fa h Y G hmg0
    obtain ⟨K, KX, c⟩ := Y
    have hmg : mg ("law" : PySem.Str) = some (.ref fa) := by
      have e : (HandSHeadRun.topDef Df.R.prog 56).name = ("law" : PySem.Str) := by kernel_rfl
      rw [← e]
      exact hmg0
    obtain ⟨fd, hb, hF⟩ := Df.facts (P := (PySem.Challenge.rw_deepfall_k23_whole_come_to_and_lost).prog) (w := w) KX G hmg c
    exact ⟨K, fd, Df.spLaw K, KX, hb, fun H a ns _ _ hS => ⟨a, ns, rfl, hS, fun _ => rfl⟩, hF⟩
