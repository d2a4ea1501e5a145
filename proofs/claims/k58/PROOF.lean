import PyProof.Rows.All
import Wide.All
import OpenK.AllK
import Wide.FinOn
import HandS.HeadHook2
import HandS.Words
import HandS.WordsExc
import PySem.Challenge.RW_heldwhen_k58_bent_cards
import KE.KStateDown
import HandS.Base
import HandS.Call
import HandS.Ends
import HandS.More
import HandS.Defaults
import HandS.Head0
import HandS.Head1
import HandS.Head2
import HandS.HeadEnd
import HandS.HeadHook1
import HandS.ForMost
import HandS.SetFor
import HandS.Strs
import HandS.TupAny
import HandS.TupSets
import KE.SortData
import KE.KDictSum
import KE.KDictCopyH
import KE.DataMinMax
import HandS.Exc
import KE.GoesComp
import KE.GoesRaise
import PyProof.NeKinds
import HandS.DeepEq
import HandS.TryOnly
import HandS.ExcOwn
import HandS.IsInst
import HandS.CallSlots
set_option Elab.async false
set_option maxRecDepth 100000
namespace HW
open PySem PySem.Spec PyProof.Rows L2
def top (i : Nat) : Stmt := PySem.Challenge.pw_heldwhen_k58_bent_cards.main.body.getD i (.Pass ⟨0, 0, 0, 0⟩)
abbrev s_truth_by : Stmt := top 9
abbrev s_is_reach : Stmt := top 11
abbrev s_stretch_of : Stmt := top 12
abbrev s_edges_marked : Stmt := top 13
abbrev s_blend : Stmt := top 14
abbrev s_reach_at : Stmt := top 17
abbrev s_plot_of : Stmt := top 18
abbrev s_is_turn : Stmt := top 21
abbrev s_is_step : Stmt := top 22
abbrev s_is_plot : Stmt := top 23
abbrev s_from_plot : Stmt := top 30
abbrev s_lift : Stmt := top 31
abbrev s_table_of : Stmt := top 34
abbrev s_lift_table : Stmt := top 36
abbrev s_write_number : Stmt := top 40
abbrev s_read_number : Stmt := top 41
abbrev s_words_of : Stmt := top 42
abbrev s_word_at : Stmt := top 43
abbrev s_number_at : Stmt := top 44
abbrev s_name_at : Stmt := top 45
abbrev s_so_many_at : Stmt := top 46
abbrev s_write_end : Stmt := top 48
abbrev s_write_telling : Stmt := top 49
abbrev s_reach_words : Stmt := top 52
abbrev s_plot_words : Stmt := top 53
abbrev s_write_entry : Stmt := top 54
abbrev s_reach_from : Stmt := top 55
abbrev s_plot_from : Stmt := top 56
abbrev s_read_entry : Stmt := top 57
abbrev s_write_first : Stmt := top 58
abbrev s_write_last : Stmt := top 59
abbrev s_numbers_in : Stmt := top 60
abbrev s_read_first : Stmt := top 61
abbrev s_read_last : Stmt := top 62
abbrev s_shape_named : Stmt := top 64
abbrev s_check_telling : Stmt := top 65
abbrev s_told_on : Stmt := top 66
abbrev s_with_row : Stmt := top 67
abbrev s_card_in : Stmt := top 70
abbrev s_newest_card : Stmt := top 71
abbrev s_Keeper_init : Stmt := inClass (top 72) 0
abbrev s_Keeper_keys_of : Stmt := inClass (top 72) 1
abbrev s_Keeper_take_in : Stmt := inClass (top 72) 2
abbrev s_Keeper_said : Stmt := inClass (top 72) 3
abbrev s_Keeper_tell : Stmt := inClass (top 72) 4
abbrev s_Keeper_strike : Stmt := inClass (top 72) 5
abbrev s_Keeper_card : Stmt := inClass (top 72) 6
abbrev s_Keeper_now : Stmt := inClass (top 72) 7
abbrev s_Keeper_since : Stmt := inClass (top 72) 8
abbrev s_Keeper_tables : Stmt := inClass (top 72) 9
abbrev s_Shelf_init : Stmt := inClass (top 74) 0
abbrev s_Shelf_put : Stmt := inClass (top 74) 1
abbrev s_Shelf_clear : Stmt := inClass (top 74) 2
abbrev s_Shelf_rows : Stmt := inClass (top 74) 3
abbrev s_Shelf_strokes : Stmt := inClass (top 74) 4
abbrev s_Shelf_fallen : Stmt := inClass (top 74) 5
abbrev s_law_draw : Stmt := top 76
abbrev s_law_far : Stmt := top 77
abbrev s_law_name : Stmt := top 78
abbrev s_law_shapes : Stmt := top 79
abbrev s_law_stretch : Stmt := top 80
abbrev s_law_deed : Stmt := top 81
abbrev s_law_done : Stmt := top 84
abbrev s_law_kept : Stmt := top 85
abbrev s_law_bent : Stmt := top 86
abbrev s_law : Stmt := top 87
def d_truth_by : He.DefD := ⟨("truth_by", none), "truth_by", "truth_by", defArgs s_truth_by, defBody s_truth_by, defScope s_truth_by, [], []⟩
def d_is_reach : He.DefD := ⟨("is_reach", none), "is_reach", "is_reach", defArgs s_is_reach, defBody s_is_reach, defScope s_is_reach, [], []⟩
def d_stretch_of : He.DefD := ⟨("stretch_of", none), "stretch_of", "stretch_of", defArgs s_stretch_of, defBody s_stretch_of, defScope s_stretch_of, [], []⟩
def d_edges_marked : He.DefD := ⟨("edges_marked", none), "edges_marked", "edges_marked", defArgs s_edges_marked, defBody s_edges_marked, defScope s_edges_marked, [], []⟩
def d_blend : He.DefD := ⟨("blend", none), "blend", "blend", defArgs s_blend, defBody s_blend, defScope s_blend, [], []⟩
def d_reach_at : He.DefD := ⟨("reach_at", none), "reach_at", "reach_at", defArgs s_reach_at, defBody s_reach_at, defScope s_reach_at, [], []⟩
def d_plot_of : He.DefD := ⟨("plot_of", none), "plot_of", "plot_of", defArgs s_plot_of, defBody s_plot_of, defScope s_plot_of, [], []⟩
def d_is_turn : He.DefD := ⟨("is_turn", none), "is_turn", "is_turn", defArgs s_is_turn, defBody s_is_turn, defScope s_is_turn, [], []⟩
def d_is_step : He.DefD := ⟨("is_step", none), "is_step", "is_step", defArgs s_is_step, defBody s_is_step, defScope s_is_step, [], []⟩
def d_is_plot : He.DefD := ⟨("is_plot", none), "is_plot", "is_plot", defArgs s_is_plot, defBody s_is_plot, defScope s_is_plot, [], []⟩
def d_from_plot : He.DefD := ⟨("from_plot", none), "from_plot", "from_plot", defArgs s_from_plot, defBody s_from_plot, defScope s_from_plot, [], []⟩
def d_lift : He.DefD := ⟨("lift", none), "lift", "lift", defArgs s_lift, defBody s_lift, defScope s_lift, [], []⟩
def d_table_of : He.DefD := ⟨("table_of", none), "table_of", "table_of", defArgs s_table_of, defBody s_table_of, defScope s_table_of, [], []⟩
def d_lift_table : He.DefD := ⟨("lift_table", none), "lift_table", "lift_table", defArgs s_lift_table, defBody s_lift_table, defScope s_lift_table, [], []⟩
def d_write_number : He.DefD := ⟨("write_number", none), "write_number", "write_number", defArgs s_write_number, defBody s_write_number, defScope s_write_number, [], []⟩
def d_read_number : He.DefD := ⟨("read_number", none), "read_number", "read_number", defArgs s_read_number, defBody s_read_number, defScope s_read_number, [], []⟩
def d_words_of : He.DefD := ⟨("words_of", none), "words_of", "words_of", defArgs s_words_of, defBody s_words_of, defScope s_words_of, [], []⟩
def d_word_at : He.DefD := ⟨("word_at", none), "word_at", "word_at", defArgs s_word_at, defBody s_word_at, defScope s_word_at, [], []⟩
def d_number_at : He.DefD := ⟨("number_at", none), "number_at", "number_at", defArgs s_number_at, defBody s_number_at, defScope s_number_at, [], []⟩
def d_name_at : He.DefD := ⟨("name_at", none), "name_at", "name_at", defArgs s_name_at, defBody s_name_at, defScope s_name_at, [], []⟩
def d_so_many_at : He.DefD := ⟨("so_many_at", none), "so_many_at", "so_many_at", defArgs s_so_many_at, defBody s_so_many_at, defScope s_so_many_at, [], []⟩
def d_write_end : He.DefD := ⟨("write_end", none), "write_end", "write_end", defArgs s_write_end, defBody s_write_end, defScope s_write_end, [], []⟩
def d_write_telling : He.DefD := ⟨("write_telling", none), "write_telling", "write_telling", defArgs s_write_telling, defBody s_write_telling, defScope s_write_telling, [], []⟩
def d_reach_words : He.DefD := ⟨("reach_words", none), "reach_words", "reach_words", defArgs s_reach_words, defBody s_reach_words, defScope s_reach_words, [], []⟩
def d_plot_words : He.DefD := ⟨("plot_words", none), "plot_words", "plot_words", defArgs s_plot_words, defBody s_plot_words, defScope s_plot_words, [], []⟩
def d_write_entry : He.DefD := ⟨("write_entry", none), "write_entry", "write_entry", defArgs s_write_entry, defBody s_write_entry, defScope s_write_entry, [], []⟩
def d_reach_from : He.DefD := ⟨("reach_from", none), "reach_from", "reach_from", defArgs s_reach_from, defBody s_reach_from, defScope s_reach_from, [], []⟩
def d_plot_from : He.DefD := ⟨("plot_from", none), "plot_from", "plot_from", defArgs s_plot_from, defBody s_plot_from, defScope s_plot_from, [], []⟩
def d_read_entry : He.DefD := ⟨("read_entry", none), "read_entry", "read_entry", defArgs s_read_entry, defBody s_read_entry, defScope s_read_entry, [], []⟩
def d_write_first : He.DefD := ⟨("write_first", none), "write_first", "write_first", defArgs s_write_first, defBody s_write_first, defScope s_write_first, [], []⟩
def d_write_last : He.DefD := ⟨("write_last", none), "write_last", "write_last", defArgs s_write_last, defBody s_write_last, defScope s_write_last, [], []⟩
def d_numbers_in : He.DefD := ⟨("numbers_in", none), "numbers_in", "numbers_in", defArgs s_numbers_in, defBody s_numbers_in, defScope s_numbers_in, [], []⟩
def d_read_first : He.DefD := ⟨("read_first", none), "read_first", "read_first", defArgs s_read_first, defBody s_read_first, defScope s_read_first, [], []⟩
def d_read_last : He.DefD := ⟨("read_last", none), "read_last", "read_last", defArgs s_read_last, defBody s_read_last, defScope s_read_last, [], []⟩
def d_shape_named : He.DefD := ⟨("shape_named", none), "shape_named", "shape_named", defArgs s_shape_named, defBody s_shape_named, defScope s_shape_named, [], []⟩
def d_check_telling : He.DefD := ⟨("check_telling", none), "check_telling", "check_telling", defArgs s_check_telling, defBody s_check_telling, defScope s_check_telling, [], []⟩
def d_told_on : He.DefD := ⟨("told_on", none), "told_on", "told_on", defArgs s_told_on, defBody s_told_on, defScope s_told_on, [], []⟩
def d_with_row : He.DefD := ⟨("with_row", none), "with_row", "with_row", defArgs s_with_row, defBody s_with_row, defScope s_with_row, [], []⟩
def d_card_in : He.DefD := ⟨("card_in", none), "card_in", "card_in", defArgs s_card_in, defBody s_card_in, defScope s_card_in, [], []⟩
def d_newest_card : He.DefD := ⟨("newest_card", none), "newest_card", "newest_card", defArgs s_newest_card, defBody s_newest_card, defScope s_newest_card, [], []⟩
def d_Keeper_init : He.DefD := ⟨("Keeper", some "__init__"), "__init__", "Keeper.__init__", defArgs s_Keeper_init, defBody s_Keeper_init, defScope s_Keeper_init, [], []⟩
def d_Keeper_keys_of : He.DefD := ⟨("Keeper", some "keys_of"), "keys_of", "Keeper.keys_of", defArgs s_Keeper_keys_of, defBody s_Keeper_keys_of, defScope s_Keeper_keys_of, [], []⟩
def d_Keeper_take_in : He.DefD := ⟨("Keeper", some "take_in"), "take_in", "Keeper.take_in", defArgs s_Keeper_take_in, defBody s_Keeper_take_in, defScope s_Keeper_take_in, [], []⟩
def d_Keeper_said : He.DefD := ⟨("Keeper", some "said"), "said", "Keeper.said", defArgs s_Keeper_said, defBody s_Keeper_said, defScope s_Keeper_said, [], []⟩
def d_Keeper_tell : He.DefD := ⟨("Keeper", some "tell"), "tell", "Keeper.tell", defArgs s_Keeper_tell, defBody s_Keeper_tell, defScope s_Keeper_tell, [], []⟩
def d_Keeper_strike : He.DefD := ⟨("Keeper", some "strike"), "strike", "Keeper.strike", defArgs s_Keeper_strike, defBody s_Keeper_strike, defScope s_Keeper_strike, [], []⟩
def d_Keeper_card : He.DefD := ⟨("Keeper", some "card"), "card", "Keeper.card", defArgs s_Keeper_card, defBody s_Keeper_card, defScope s_Keeper_card, [], []⟩
def d_Keeper_now : He.DefD := ⟨("Keeper", some "now"), "now", "Keeper.now", defArgs s_Keeper_now, defBody s_Keeper_now, defScope s_Keeper_now, [], []⟩
def d_Keeper_since : He.DefD := ⟨("Keeper", some "since"), "since", "Keeper.since", defArgs s_Keeper_since, defBody s_Keeper_since, defScope s_Keeper_since, [], []⟩
def d_Keeper_tables : He.DefD := ⟨("Keeper", some "tables"), "tables", "Keeper.tables", defArgs s_Keeper_tables, defBody s_Keeper_tables, defScope s_Keeper_tables, [], []⟩
def d_Shelf_init : He.DefD := ⟨("Shelf", some "__init__"), "__init__", "Shelf.__init__", defArgs s_Shelf_init, defBody s_Shelf_init, defScope s_Shelf_init, [], []⟩
def d_Shelf_put : He.DefD := ⟨("Shelf", some "put"), "put", "Shelf.put", defArgs s_Shelf_put, defBody s_Shelf_put, defScope s_Shelf_put, [], []⟩
def d_Shelf_clear : He.DefD := ⟨("Shelf", some "clear"), "clear", "Shelf.clear", defArgs s_Shelf_clear, defBody s_Shelf_clear, defScope s_Shelf_clear, [], []⟩
def d_Shelf_rows : He.DefD := ⟨("Shelf", some "rows"), "rows", "Shelf.rows", defArgs s_Shelf_rows, defBody s_Shelf_rows, defScope s_Shelf_rows, [], []⟩
def d_Shelf_strokes : He.DefD := ⟨("Shelf", some "strokes"), "strokes", "Shelf.strokes", defArgs s_Shelf_strokes, defBody s_Shelf_strokes, defScope s_Shelf_strokes, [], []⟩
def d_Shelf_fallen : He.DefD := ⟨("Shelf", some "fallen"), "fallen", "Shelf.fallen", defArgs s_Shelf_fallen, defBody s_Shelf_fallen, defScope s_Shelf_fallen, [], []⟩
def d_law_draw : He.DefD := ⟨("_law_draw", none), "_law_draw", "_law_draw", defArgs s_law_draw, defBody s_law_draw, defScope s_law_draw, [], []⟩
def d_law_far : He.DefD := ⟨("_law_far", none), "_law_far", "_law_far", defArgs s_law_far, defBody s_law_far, defScope s_law_far, [], []⟩
def d_law_name : He.DefD := ⟨("_law_name", none), "_law_name", "_law_name", defArgs s_law_name, defBody s_law_name, defScope s_law_name, [], []⟩
def d_law_shapes : He.DefD := ⟨("_law_shapes", none), "_law_shapes", "_law_shapes", defArgs s_law_shapes, defBody s_law_shapes, defScope s_law_shapes, [], []⟩
def d_law_stretch : He.DefD := ⟨("_law_stretch", none), "_law_stretch", "_law_stretch", defArgs s_law_stretch, defBody s_law_stretch, defScope s_law_stretch, [], []⟩
def d_law_deed : He.DefD := ⟨("_law_deed", none), "_law_deed", "_law_deed", defArgs s_law_deed, defBody s_law_deed, defScope s_law_deed, [], []⟩
def d_law_done : He.DefD := ⟨("_law_done", none), "_law_done", "_law_done", defArgs s_law_done, defBody s_law_done, defScope s_law_done, [], []⟩
def d_law_kept : He.DefD := ⟨("_law_kept", none), "_law_kept", "_law_kept", defArgs s_law_kept, defBody s_law_kept, defScope s_law_kept, [], []⟩
def d_law_bent : He.DefD := ⟨("_law_bent", none), "_law_bent", "_law_bent", defArgs s_law_bent, defBody s_law_bent, defScope s_law_bent, [], []⟩
def d_law : He.DefD := ⟨("law", none), "law", "law", defArgs s_law, defBody s_law, defScope s_law, [], []⟩
def fn0 : List He.DefD := [d_truth_by, d_is_reach, d_stretch_of, d_edges_marked, d_blend, d_reach_at, d_plot_of, d_is_turn, d_is_step, d_is_plot, d_from_plot, d_lift, d_table_of, d_lift_table, d_write_number, d_read_number, d_words_of, d_word_at, d_number_at, d_name_at]
def fn1 : List He.DefD := [d_so_many_at, d_write_end, d_write_telling, d_reach_words, d_plot_words, d_write_entry, d_reach_from, d_plot_from, d_read_entry, d_write_first, d_write_last, d_numbers_in, d_read_first, d_read_last, d_shape_named, d_check_telling, d_told_on, d_with_row, d_card_in, d_newest_card]
def fn2 : List He.DefD := [d_Keeper_init, d_Keeper_keys_of, d_Keeper_take_in, d_Keeper_said, d_Keeper_tell, d_Keeper_strike, d_Keeper_card, d_Keeper_now, d_Keeper_since, d_Keeper_tables, d_Shelf_init, d_Shelf_put, d_Shelf_clear, d_Shelf_rows, d_Shelf_strokes, d_Shelf_fallen, d_law_draw, d_law_far, d_law_name, d_law_shapes]
def fn3 : List He.DefD := [d_law_stretch, d_law_deed, d_law_done, d_law_kept, d_law_bent, d_law]
def fn : List He.DefD := fn0 ++ fn1 ++ fn2 ++ fn3
def fa0 : List He.Fa := [.glo "truth_by", .glo "is_reach", .glo "stretch_of", .glo "edges_marked", .glo "blend", .glo "reach_at", .glo "plot_of", .glo "is_turn", .glo "is_step", .glo "is_plot", .glo "from_plot", .glo "lift", .glo "table_of", .glo "lift_table", .glo "write_number", .glo "read_number", .glo "words_of", .glo "word_at", .glo "number_at", .glo "name_at"]
def fa1 : List He.Fa := [.glo "so_many_at", .glo "write_end", .glo "write_telling", .glo "reach_words", .glo "plot_words", .glo "write_entry", .glo "reach_from", .glo "plot_from", .glo "read_entry", .glo "write_first", .glo "write_last", .glo "numbers_in", .glo "read_first", .glo "read_last", .glo "shape_named", .glo "check_telling", .glo "told_on", .glo "with_row", .glo "card_in", .glo "newest_card"]
def fa2 : List He.Fa := [.glo "_law_draw", .glo "_law_far", .glo "_law_name", .glo "_law_shapes", .glo "_law_stretch", .glo "_law_deed", .glo "_law_done", .glo "_law_kept", .glo "_law_bent", .glo "law", .glo "Keeper", .glo "Shelf", .glo "NoText", .glo "NO_SPOTS", .free "isinstance", .free "tuple", .free "len", .free "bool", .free "int", .free "set"]
def fa3 : List He.Fa := [.free "sorted", .free "list", .free "range", .free "min", .free "str", .free "max", .str "FIGURES" "0123456789", .str "LETTERS" "abcdefghijklmnopqrstuvwxyz", .cls "Keeper", .mkr "Keeper", .noat "Keeper" "on_shelf", .noat "Keeper" "forms", .noat "Keeper" "known", .noat "Keeper" "card_at", .noat "Keeper" "turn_now", .noat "Keeper" "known_from", .cls "Shelf", .mkr "Shelf", .noat "Shelf" "began", .noat "Shelf" "lying"]
def fa4 : List He.Fa := [.noat "Shelf" "done", .meth "Keeper" "keys_of", .meth "Keeper" "take_in", .meth "Keeper" "said", .meth "Keeper" "tell", .meth "Keeper" "strike", .meth "Keeper" "card", .meth "Keeper" "now", .meth "Keeper" "since", .meth "Keeper" "tables", .meth "Shelf" "put", .meth "Shelf" "clear", .meth "Shelf" "rows", .meth "Shelf" "strokes", .meth "Shelf" "fallen", .exc "NoText", .exm "NoText" "NoText" true]
def fa : List He.Fa := fa0 ++ fa1 ++ fa2 ++ fa3 ++ fa4
def nm0 : List PySem.Str := ["HeldError", "NoWord", "NoTable", "NoWidth", "NoStretch", "NoTurn", "NoText", "truth_by", "is_reach", "stretch_of", "edges_marked", "blend", "moved_by", "reach_at", "plot_of", "turns_of", "blend_plots", "is_turn", "is_step", "is_plot", "moved_plot", "ever_plot", "always_plot", "known_plot", "asof_plot", "from_plot", "lift", "NO_SPOTS", "table_of", "lift_table"]
def nm1 : List PySem.Str := ["FIGURES", "LETTERS", "write_number", "read_number", "words_of", "word_at", "number_at", "name_at", "so_many_at", "end_at", "write_end", "write_telling", "read_telling", "reach_words", "plot_words", "write_entry", "reach_from", "plot_from", "read_entry", "write_first", "write_last", "numbers_in", "read_first", "read_last", "shape_named", "check_telling", "told_on", "with_row", "telling_in", "card_in"]
def nm2 : List PySem.Str := ["newest_card", "Keeper", "Shelf", "_law_draw", "_law_far", "_law_name", "_law_shapes", "_law_stretch", "_law_deed", "_law_end", "_law_written", "_law_done", "_law_kept", "_law_bent"]
def nms : List PySem.Str := nm0 ++ nm1 ++ nm2
end HW
set_option Elab.async false
set_option linter.all false
set_option maxRecDepth 100000
set_option maxHeartbeats 0
namespace HW
open PySem PySem.Spec PyProof.Rows L2
/-! ### the module's constant NO_SPOTS -/
def tupAt (K : PySem.W.Frag) (a : Addr) : Option (List Value) := match K.lookup a with
  | some ⟨.type c, _, .seq its _, _⟩ => (match decide (c = "tuple") && decide (its.size ≤ sizeLine) with
    | true => some its.toList
    | false => none)
  | _ => none
def nilAt (K : PySem.W.Frag) (a : Addr) : Bool := match tupAt K a with
  | some [] => true
  | _ => false
def noSpots (K : PySem.W.Frag) : Bool := match tupAt K (He.ga K "NO_SPOTS") with
  | some [.ref a, .ref b] => nilAt K b && (match tupAt K a with
    | some [.bool false, .ref c] => nilAt K c
    | _ => false)
  | _ => false
/-! ### the hook: the facts, and one more Bool -/
abbrev AlB : Type := He.AlD × Bool
def obsB (n : Nat) (fa : List He.Fa) (fn : List He.DefD) (ex : PySem.W.Frag → Bool) (g : Addr → Option Obj) : AlB := (He.obsDG n fa fn g, ex (He.frG g (He.asD g n)))
def hookB (n : Nat) (fa : List He.Fa) (fn : List He.DefD) (ex : PySem.W.Frag → Bool) : PySem.W.Hook where
  α := AlB
  obs := fun s => obsB n fa fn ex s.heap.get?
  val := fun _ => (He.valD fn, true)
  says := fun _ h => ∃ K : PySem.W.Frag, K.In h ∧ He.SaysD fa fn K ∧ ex K = true
  of := fun _ _ e => ⟨_, He.frG_in, congrArg (fun z : AlB => z.1) e, congrArg (fun z : AlB => z.2) e⟩
  keeps := fun _ _ _ ⟨K, hK, c⟩ k => ⟨K, PySem.W.Frag.In.keeps hK k, c⟩
abbrev R : PySem.W.OpenRow := PySem.W.OpenLaw.row PySem.Challenge.rw_heldwhen_k58_bent_cards
abbrev hk : PySem.W.Hook := hookB 5 fa fn noSpots
def ob (s : PySem.W.SharedT) : AlB := obsB 5 fa fn noSpots (HandSHeadRun.getT s)
theorem ob_eq (s : PySem.W.SharedT) : ob s = hk.obs s.abs := by
  have e : HandSHeadRun.getT s = s.abs.heap.get? := funext (HandSHeadRun.getT_eq s)
  show obsB 5 fa fn noSpots (HandSHeadRun.getT s) = obsB 5 fa fn noSpots s.abs.heap.get?
  rw [e]
theorem run (w : World) : HandSHeadRun.RunEq R (PySem.W.view R.prog [87]) hk ob 20000 nms w := by
  intro os
  kernel_rfl
end HW
set_option Elab.async false
set_option linter.all false
set_option maxRecDepth 100000
set_option maxHeartbeats 4000000
/-! Rules of my own: set(tuple of ints), min(tuple of ints), sorted(dict with tuple keys), xs[a_:b_:c] of a_ list. -/
namespace HW
open PySem PySem.Spec PyProof.Rows L2
section
variable {X : Cx}
/-- set(t_), t_ a_ tuple of ints -/
def rSetTup (K : PySem.W.Frag) (w_ : World) : List V → Hp → VK → Prop := fun xs H_ Q_ => ∃ (p : Addr) (ns : List Int), xs = [.ref p] ∧ SqT K H_ p (ns.map V.int) ∧ ns.length ≤ 1000 ∧
  ∀ (a_ : Addr) (c : Nat), H_ a_ = none → c ≤ ns.length → Q_ (.ref a_) (upd H_ a_ (SetO w_ a_ (fun j => decide (j ∈ ns)) c))
theorem cr_setTup (hc : X.calm = true) : CallR X (.type "set") (rSetTup X.K X.w) := by
  intro pins s_ σ_ H_ xs us Q_ I_ r_ h_
  obtain ⟨p, ns, rfl, hq, hl, q_⟩ := h_
  obtain ⟨u_, rfl, ru⟩ := vals1 r_
  cases ru
  obtain ⟨its, rv, pt, hz⟩ := I_.tuple hq
  have hi : IntsAre its.toArray.toList ns := ints_of_vals rv
  refine call_set_tupI ns (I_.ok.hd hc) (show s_.heap.IsTuple p its.toArray from pt) hi (by unfold scanBound; omega) fun h' tk c R1 hcn k_ => ?_
  exact ⟨.ref s_.heap.objs.size, _, I_.laid (t' := tk) k_ (Nat.le_refl _) (setO_new R1), rfl, q_ _ c (I_.hok.fresh (Nat.le_refl _)) hcn⟩
theorem dpAll_ints {K : PySem.W.Frag} {H_ : Hp} : ∀ ns : List Int, DpAll K H_ (ns.map V.int) (ns.map PyData.int)
  | [] => .nil
  | _ :: ns => .cons (.int _) (dpAll_ints ns)
/-- min(t_), t_ a_ tuple of ints: one of them -/
def rMinT (K : PySem.W.Frag) : List V → Hp → VK → Prop := fun xs H_ Q_ => ∃ (p : Addr) (ns : List Int), xs = [.ref p] ∧ SqT K H_ p (ns.map V.int) ∧ 0 < ns.length ∧ ∀ m, m ∈ ns → Q_ (.int m) H_
theorem cr_minT (hc : X.calm = true) (hu : X.A.units + 1 < cLine) : CallR X (.builtin "min") (rMinT X.K) := by
  intro pins s_ σ_ H_ xs us Q_ I_ r_ h_
  obtain ⟨p, ns, rfl, hq, hl, q_⟩ := h_
  obtain ⟨u_, rfl, ru⟩ := vals1 r_
  cases ru
  obtain ⟨its, rv, pt, hz⟩ := I_.tuple hq
  have hi : IntsAre its ns := rv.ints
  obtain ⟨as, hr⟩ := Dp.readsAll I_ (ns.map PyData.int) _ its (dpAll_ints ns) rv
  cases ns with
  | nil => exact absurd hl (by simp)
  | cons x_ ns =>
    refine PySem.W.min_tuple_data (x := .int x_) (xs := ns.map PyData.int) (I_.ok.hd hc) (show s_.heap.IsTuple p its.toArray from pt) (by simpa using hr)
      ⟨fun a_ ha b_ hb => by
        obtain ⟨i, _, rfl⟩ := List.mem_map.mp (show a_ ∈ (x_ :: ns).map PyData.int from ha)
        obtain ⟨j, _, rfl⟩ := List.mem_map.mp (show b_ ∈ (x_ :: ns).map PyData.int from hb)
        simp [PySem.W.alike], fun a_ ha e_ => by
        obtain ⟨i, _, rfl⟩ := List.mem_map.mp (show a_ ∈ (x_ :: ns).map PyData.int from ha)
        cases e_⟩
      (by rw [show PyData.int x_ :: ns.map PyData.int = (x_ :: ns).map PyData.int from rfl, PySem.W.depth_ints]; exact hu) fun i v_ h' tk bs hv _ hk => ?_
    have hv' : its[i]? = some v_ := by simpa using hv
    obtain ⟨t_, e_⟩ := PyProof.Rows.IntsAre.int_at hi i v_ hv'
    have hlt : i < (x_ :: ns).length := by
      rw [← hi.length]
      exact (List.getElem?_eq_some_iff.mp hv').1
    subst e_
    refine ⟨.int _, H_, I_.kept (t' := tk) hk, ⟨t_, rfl⟩, q_ _ ?_⟩
    rw [List.getD_eq_getElem?_getD, List.getElem?_eq_getElem hlt]
    exact List.getElem_mem hlt
/-- sorted(d), d a_ dict whose keys are tuples of ints, none empty -/
def IsRow (H_ : Hp) (v_ : V) (r_ : List Int) : Prop := ∃ b_, v_ = .ref b_ ∧ H_ b_ = some (.tup (r_.map V.int))
def rSortTD : List V → Hp → VK → Prop := fun vs H_ Q_ => ∃ (a_ : Addr) (kvs : List (List Key × V)) (rs : List (List Int)), vs = [.ref a_] ∧ H_ a_ = some (.dT kvs) ∧ kvs.map (·.1) = rs.map (fun r_ => r_.map Sum.inl) ∧ (∀ r_ ∈ rs, 1 ≤ r_.length) ∧ rs.length ≤ 1000 ∧
  ∀ (ys : List V) (qs : List (List Int)) (p : Addr), qs.Perm rs → Paired (IsRow H_) ys qs → H_ p = none → Q_ (.ref p) (upd H_ p (.lst ys))
theorem keys_kV (r_ : List Int) : (r_.map Sum.inl : List Key).map kV = r_.map V.int := by
  rw [List.map_map]
  rfl
theorem each_rows {H_ : Hp} {kvs : List (List Key × V)} {xs : List (List Key × Addr × Value)} (r_ : KT H_ kvs xs) : ∀ {rs : List (List Int)}, kvs.map (·.1) = rs.map (fun r_ => r_.map Sum.inl) →
    PySem.W.EachIs (fun (v_ : Value) (b_ : List Int) => ∃ a_, v_ = .ref a_ ∧ H_ a_ = some (.tup (b_.map V.int))) (xs.map fun x_ => Value.ref x_.2.1) rs := by
  unfold KT at r_
  induction r_ with
  | nil =>
    intro rs e_
    cases rs with
    | nil => exact .nil
    | cons _ _ => cases e_
  | @cons p q_ ps qs h_ t_ ih =>
    intro rs e_
    cases rs with
    | nil => cases e_
    | cons r_ rs =>
      simp only [List.map_cons, List.cons.injEq] at e_
      obtain ⟨e1, e2⟩ := e_
      refine .cons ⟨q_.2.1, rfl, ?_⟩ (ih e2)
      have h2 := h_.2.1
      rw [e1, keys_kV] at h2
      exact h2
theorem each_back {H_ : Hp} : ∀ {us : List Value} {bs : List (List Int)}, PySem.W.EachIs (fun (v_ : Value) (b_ : List Int) => ∃ a_, v_ = .ref a_ ∧ H_ a_ = some (.tup (b_.map V.int))) us bs →
    ∃ ys : List V, Vals ys us ∧ Paired (IsRow H_) ys bs
  | _, _, .nil => ⟨[], .nil, .nil⟩
  | _, _, .cons ⟨a_, e_, h_⟩ t_ => by
    obtain ⟨ys, r_, p⟩ := each_back t_
    subst e_
    exact ⟨.ref a_ :: ys, .cons rfl r_, .cons ⟨a_, rfl, h_⟩ p⟩
theorem reads_row {h_ : Heap} {P : Program} {w_ : World} {H_ : Hp} (ok : HOk P w_ H_ h_) {v_ : Value} {b_ : List Int} (x_ : ∃ a_, v_ = .ref a_ ∧ H_ a_ = some (.tup (b_.map V.int))) : Reads h_ v_ (.tuple (b_.map .int)) [] := by
  obtain ⟨a_, rfl, e_⟩ := x_
  obtain ⟨_, its, r_, o_, h1, h2, n_, h3⟩ := (show ObjOk P w_ H_ h_ a_ (.tup (b_.map V.int)) from ok a_ _ e_)
  have hi : IntsAre its b_ := r_.ints
  have key : ∀ {us : List Value} {ns : List Int}, IntsAre us ns → ReadsAll h_ us (ns.map .int) [] := by
    intro us ns q_
    induction q_ with
    | nil => exact .nil
    | cons i t_ _ ih => exact .cons (as := []) (.int _ _) ih
  exact .tuple h1 h2 h3 (by simpa using key hi)
theorem each_imp {α β : Type} {R S : α → β → Prop} {as : List α} {bs : List β} (e_ : PySem.W.EachIs R as bs) (h_ : ∀ a_ b_, R a_ b_ → S a_ b_) : PySem.W.EachIs S as bs := by
  induction e_ with
  | nil => exact .nil
  | cons r_ _ ih => exact .cons (h_ _ _ r_) ih
theorem each_len {α β : Type} {R : α → β → Prop} {as : List α} {bs : List β} (e_ : PySem.W.EachIs R as bs) : as.length = bs.length := by
  induction e_ with
  | nil => rfl
  | cons r_ _ ih => simp [ih]
theorem cr_sortTD (hcalm : X.calm = true) (hu : X.A.units + 10 < cLine) : CallR X (.builtin "sorted") rSortTD := by
  intro pins s_ σ_ H_ xs us Q_ I_ r_ q_
  obtain ⟨a_, kvs, rs, ex, hd, hks, hne, hsz, q_⟩ := q_
  subst ex
  obtain ⟨u_, rfl, rx⟩ := vals1 r_
  cases rx
  obtain ⟨z, lo, xs, rel, dd⟩ := dt_of I_.hok hd
  obtain ⟨o_, es, ep, ho, hex, hdat, hes, hk, hnd⟩ := id dd
  have hl : es.size = rs.length := by
    have e1 := congrArg List.length hks
    have e2 := congrArg List.length hes
    have e3 := rel.length
    rw [List.length_map, List.length_map] at e1
    rw [List.length_map, Array.length_toList] at e2
    omega
  have hraw : s_.heap.DictRaw a_ es ep := ⟨o_, ho, hex, hdat⟩
  refine Calls.call_function_entry PyProof.Rows.kind_sorted PyProof.Rows.plain_sorted PyProof.Rows.entry_sorted (PyProof.Rows.args_sorted1 _) ?_
  unfold Builtin.«sorted»
  refine wpAny_bind (m := checkCount "sorted" 1 1 _) (wpAny_pure ?_)
  refine wpAny_bind (PySem.W.kdu_collect (A := X.A.in1) (KdlSrc.rawDict lo) (I_.ok.hd hcalm) hraw (by rw [hl, sizeLine_eq]; omega) fun h' tk acc hk hacc => ?_)
  have hacc2 : acc.toList = xs.map fun x_ => Value.ref x_.2.1 := by
    refine List.ext_getElem? fun j => ?_
    cases e_ : acc.toList[j]? with
    | none =>
      have h1 : acc.toList.length ≤ j := List.getElem?_eq_none_iff.mp e_
      rw [Array.length_toList, hacc.1] at h1
      have h2 := congrArg List.length hes
      rw [List.length_map, Array.length_toList] at h2
      exact (List.getElem?_eq_none_iff.mpr (by rw [List.length_map]; omega)).symm
    | some v_ =>
      obtain ⟨hi, e1⟩ := hacc.2 j v_ (by rw [← Array.getElem?_toList]; exact e_)
      have e2 : es.toList[j]? = some es[j] := by rw [Array.getElem?_toList]; exact Array.getElem?_eq_getElem hi
      rw [hes, List.getElem?_map] at e2
      obtain ⟨q_, e3, e4⟩ := Option.map_eq_some_iff.mp e2
      rw [List.getElem?_map, e3, e1, ← e4]
      rfl
  have hal : acc.toList.length = rs.length := by rw [Array.length_toList, hacc.1, hl]
  have I1 : Inv X pins σ_ H_ { s_ with heap := h', toks := tk } := I_.kept hk
  have eR := each_rows rel hks
  rw [← hacc2] at eR
  refine wpAny_bind (wpAny_newList ?_ (by rw [hal, sizeLine_eq]; omega))
  have hoL : (h'.push (seqObj "list" acc.toList.toArray 0)).get? h'.objs.size = some (seqObj "list" acc.toList.toArray 0) := Heap.get?_push_size _ rfl
  show wpAny _ _ _ _ _ { s_ with heap := h'.push (seqObj "list" acc.toList.toArray 0), toks := tk }
  have hfr : H_ h'.objs.size = none := I1.hok.fresh (Nat.le_refl _)
  have okL : HOk X.prog X.w H_ (h'.push (seqObj "list" acc.toList.toArray 0)) := I1.hok.kept fun b_ o_ e_ => Heap.get?_push_of_some _ e_
  refine wpAny_bind (wpAny_holding (PySem.W.list_sort_data (s := { s_ with heap := h'.push (seqObj "list" acc.toList.toArray 0), toks := tk }) (enc := fun b_ : List Int => PyData.tuple (b_.map .int)) hoL eR
    (each_imp eR fun v_ b_ x_ => ⟨[], reads_row okL x_, by simp⟩) (PySem.W.AllAlike.of fun b_ c => by simp [PySem.W.alike, PySem.W.alike_ints]) (.inl fun d hd => ?_) (by rw [sizeLine_eq]; omega) (fun b_ _ => ?_) fun out ho2 hout => ?_))
  · obtain ⟨b_, hb, rfl⟩ := List.mem_map.mp hd
    have h1 := hne b_ hb
    cases b_ with
    | nil => exact absurd h1 (by simp)
    | cons x_ r_ => exact ⟨.int x_, r_.map .int, rfl⟩
  · rw [PyData.depth, PySem.W.depth_ints]
    show X.A.units + 1 + 1 + _ < _
    omega
  · obtain ⟨ys, rv, py⟩ := each_back hout
    obtain ⟨e', he'⟩ := PyProof.Rows.sortedHeap_at (vs := acc.toList) (out := out.toArray) hoL
    have hlen : ys.length ≤ sizeLine := by
      rw [rv.length, ho2, sizeLine_eq]
      omega
    refine wpAny_pure ⟨_, rfl, .ref h'.objs.size, upd H_ h'.objs.size (.lst ys), I1.laid (t' := tk) (fun b_ u_ e_ => ?_) (Nat.le_refl _)
      (show ObjOk X.prog X.w _ _ _ (.lst ys) from ⟨hlen, out, e', rv, he'⟩), rfl, q_ ys _ _ (List.mergeSort_perm _ _) py hfr⟩
    have hb : b_ < h'.objs.size := Heap.lt_size e_
    rw [PyProof.Rows.sortedHeap_old (Nat.ne_of_lt hb) (by rw [size_push']; exact Nat.lt_succ_of_lt hb)]
    exact Heap.get?_push_of_some _ e_
end
end HW
set_option Elab.async false
set_option linter.all false
set_option maxRecDepth 100000
set_option maxHeartbeats 4000000
namespace HW
open PySem PySem.Spec PyProof.Rows L2
theorem vals_pick {xs : List V} {its : List Value} (r_ : Vals xs its) : ∀ idx : List Nat, ∃ ys : List V, Vals ys (idx.filterMap (its[·]?))
  | [] => ⟨[], .nil⟩
  | i :: idx => by
    obtain ⟨ys, h_⟩ := vals_pick r_ idx
    cases e_ : its[i]? with
    | none => exact ⟨ys, by rw [List.filterMap_cons, e_]; exact h_⟩
    | some u_ =>
      have hi : i < xs.length := by
        rw [r_.length]
        exact (List.getElem?_eq_some_iff.mp e_).1
      obtain ⟨u', e', ru⟩ := r_.get (List.getElem?_eq_getElem hi)
      rw [e_] at e'
      cases e'
      exact ⟨_ :: ys, by rw [List.filterMap_cons, e_]; exact .cons ru h_⟩
/-- xs[a_:b_:c], xs a_ list: some list, not longer -/
def tSl3 (K : PySem.W.Frag) (te : TE) (tl th tt : TO) : TE := fun σ_ H_ Q_ => te σ_ H_ fun x_ H1 => tl σ_ H1 fun l H2 => th σ_ H2 fun u_ H3 => tt σ_ H3 fun c H4 => c ≠ some 0 ∧ ∃ a_ xs, x_ = .ref a_ ∧ SqL K H4 a_ xs ∧
  ∀ p ys, H4 p = none → ys.length ≤ xs.length → Q_ (.ref p) (upd H4 p (.lst ys))
theorem pe_slice3 {X : Cx} {e_ : Expr} {lo hi st_ : Option Expr} {p2 pos : Pos} {te : TE} {tl th tt : TO} (he : PE X e_ te) (hl : PO X lo tl) (hu : PO X hi th) (hst : PO X st_ tt) (hop : ∀ o_ i, ∃ ops, subscripted (.Slice lo hi st_ p2) false o_ i = operate ops (getItem o_ i) := by intro o_ i; exact ⟨_, by with_unfolding_all rfl⟩) :
    PE X (.Subscript e_ (.Slice lo hi st_ p2) pos) (tSl3 X.K te tl th tt) := by
  refine ⟨fun pins s_ σ_ H_ Q_ I_ h_ => ?_⟩
  refine Subscript_ (thn (he.run pins s_ σ_ H_ _ I_ h_) fun v_ s1 ⟨x_, H1, I1, r1, q1⟩ => ?_)
  refine wpAny_Slice (thn (hl.run pins s1 σ_ H1 _ I1 q1) fun vl s2 ⟨l, H2, I2, pl, q2⟩ => thn (hu.run pins s2 σ_ H2 _ I2 q2) fun vu s3 ⟨u_, H3, I3, pu, q3⟩ => thn (hst.run pins s3 σ_ H3 _ I3 q3) fun vc s4 ⟨c, H4, I4, pc, q4⟩ => ?_)
  obtain ⟨hc, a_, xs, rfl, hx, q_⟩ := q4
  cases r1
  have I5 : Inv X pins σ_ H4 { s4 with heap := s4.heap.push { cls := .type "slice", data := .fields #[vl, vu, vc] } } := I4.kept (t' := s4.toks) fun b_ ob q_ => Heap.get?_push_of_some _ q_
  obtain ⟨its, r_, ht, hz⟩ := I5.list hx
  have hlen := r_.length
  show wpAny (model X.prog X.w) X.A (subscriptTail e_ (.Slice lo hi st_ p2) (.ref a_) (.ref s4.heap.objs.size)) (EP X pins σ_ Q_) X.xe { s4 with heap := s4.heap.push { cls := .type "slice", data := .fields #[vl, vu, vc] } }
  obtain ⟨ops, hops⟩ := hop (.ref a_) (.ref s4.heap.objs.size)
  refine tail_any (ops := ops) (id := "list.__getitem__") ht.isList.typeIs slot_list_getitem.lookup (wpAny_getItem_list_slice ht.isList (Heap.IsSliceOf.new ..) pl pu pc hc ?_ (by rw [List.size_toArray] <;> omega)) hops
  obtain ⟨ys, ry⟩ := vals_pick r_ (sliceRange (sliceBounds l u_ c its.toArray.size).1 (sliceBounds l u_ c its.toArray.size).2.1 (sliceBounds l u_ c its.toArray.size).2.2)
  have hle : ys.length ≤ xs.length := by
    have h1 := slicePick_size_le its.toArray l u_ c
    unfold slicePick at h1
    rw [ry.length, hlen]
    simpa using h1
  refine ⟨.ref _, _, I5.laid (t' := s4.toks) (o := .lst ys) (fun b_ ob q_ => Heap.get?_push_of_some _ q_) (Nat.le_refl _) ?_, rfl, q_ _ ys (I5.hok.fresh (Nat.le_refl _)) hle⟩
  refine ⟨Nat.le_trans hle hz, _, 0, ry, ?_⟩
  have e_ : slicePick its.toArray l u_ c = ((sliceRange (sliceBounds l u_ c its.toArray.size).1 (sliceBounds l u_ c its.toArray.size).2.1 (sliceBounds l u_ c its.toArray.size).2.2).filterMap (its[·]?)).toArray := by
    unfold slicePick
    simp
  rw [e_]
  exact Heap.get?_push_size _ rfl
end HW
set_option Elab.async false
set_option linter.all false
set_option maxRecDepth 100000
set_option maxHeartbeats 4000000
/-! A list comprehension whose element is a_ call that may raise. -/
namespace HW
open PySem PySem.Spec PyProof.Rows L2
section
variable {X : Cx} {pins : List (Addr × Obj)} {σ_ : L2.St} {H_ : Hp} {s_ s' : Shared} {E_ : XK}
/-- XE.of_call, with the flight said -/
theorem of_callF (I_ : Inv X pins σ_ H_ s_) {u_ : Value} (c : CX X.prog X.w X.stack H_ s_ E_ u_ s') :
    ∃ (a_ : Addr) (B : Heap) (sI : Shared) (H' : Hp) (cls : Value) (d : Option Addr), u_ = .ref a_ ∧ Inv X pins σ_ H' sI ∧ (∀ b_ o_, sI.heap.get? b_ = some o_ → b_ ∉ frs X.stack → B.get? b_ = some o_) ∧ sI.heap.UpToSlots s'.heap ∧
      HandSPX.FlyingZ B X.stack a_ (Zc cls d) s'.heap ∧ H' a_ = none ∧ s'.os = sI.os ∧ AllBare s'.gens ∧ E_ cls d H' := by
  obtain ⟨a_, B, H', cls, d, rfl, fl, hok, ub, na, os, ag, hE⟩ := c
  obtain ⟨G, g1, g2⟩ := restrict s'.heap fun b_ => (B.get? b_).isSome || decide (b_ ∈ frs X.stack)
  have st_ : B.StaysIn s'.heap := fl.1
  have gB : ∀ b_ o_, B.get? b_ = some o_ → G.get? b_ = some o_ := fun b_ o_ e_ => by
    rw [g1 b_ (by simp [e_])]
    exact st_ b_ o_ e_
  have gF : ∀ b_, b_ ∈ frs X.stack → G.get? b_ = s'.heap.get? b_ := fun b_ hb => g1 b_ (by simp [hb])
  have og : ∀ b_ o_, G.get? b_ = some o_ → s'.heap.get? b_ = some o_ ∧ ((B.get? b_).isSome = true ∨ b_ ∈ frs X.stack) := fun b_ o_ e_ => by
    cases q_ : ((B.get? b_).isSome || decide (b_ ∈ frs X.stack)) with
    | false => rw [g2 b_ q_] at e_; cases e_
    | true =>
      rw [g1 b_ q_] at e_
      exact ⟨e_, by simpa [Bool.or_eq_true] using q_⟩
  refine ⟨a_, B, { s_ with heap := G, gens := s'.gens, drawn := s'.drawn, toks := s'.toks }, H', cls, d, rfl, ?_, fun b_ o_ e_ hb => ?_, Heap.UpToSlots.of_keeps fun b_ o_ e_ => (og b_ o_ e_).1, fl, na, os, ag, hE⟩
  · refine I_.call (ch := []) ⟨fun b_ o_ e_ n_ hb _ => gB b_ o_ (ub.keep b_ o_ e_ n_ hb), fun b_ o_ e_ n_ hb _ => ?_, fun b_ o_ e_ n_ _ => ub.free b_ o_ e_ n_, fun b_ o_ e_ _ => ?_, ub.tups, ub.frzs, ub.tbls⟩ (hok.kept gB) ag (fun _ z => nomatch z)
    · obtain ⟨sl, q_⟩ := ub.slot b_ o_ e_ hb
      exact ⟨sl, by rw [gF b_ hb]; exact q_⟩
    · by_cases hb : b_ ∈ frs X.stack
      · obtain ⟨sl, q_⟩ := ub.slot b_ o_ e_ hb
        exact ⟨_, by rw [gF b_ hb]; exact q_⟩
      · obtain ⟨o', q_⟩ := ub.there b_ o_ e_ hb
        exact ⟨o', gB b_ o' q_⟩
  · obtain ⟨e', h_⟩ := og b_ o_ e_
    rcases h_ with h_ | h_
    · obtain ⟨o', q_⟩ := Option.isSome_iff_exists.mp h_
      have z := st_ b_ o' q_
      rw [e'] at z; cases z
      exact q_
    · exact absurd h_ hb
end
section
variable {X : Cx}
/-- the block's exception, out of the comprehension -/
theorem comp_out {W : WX} {pins pinsB : List (Addr × Obj)} {σ_ σB : L2.St} {H_ H' : Hp} {s_ sI s' : Shared} {B : Heap} {a_ : Addr} {cls : Value} {d : Option Addr} {ce : Env} {scope : Scope} {fp : List Addr}
    (hs : X.stack = X.env :: X.outer) (hf : X.env.frame = some X.env.locals) (hcf : ce.frame = X.env.frame) (cL : ce.locals = s_.heap.objs.size) (tk : Takes X W)
    (I3 : Inv X pins σ_ H_ s_) (f3 : ∀ b_ ∈ fp, FpOk X pins H_ b_) (I' : Inv ((X.blk s_ H_ scope ce fp)) pinsB σB H' sI)
    (nb : ∀ b_ o_, sI.heap.get? b_ = some o_ → b_ ∉ frs X.stack → B.get? b_ = some o_) (up : sI.heap.UpToSlots s'.heap) (fl : HandSPX.FlyingZ B X.stack a_ (Zc cls d) s'.heap) (na : H' a_ = none) (os : s'.os = sI.os) (ag : AllBare s'.gens) (w_ : W cls d σ_ H') :
    notedBy (model X.prog X.w) X.A ce (CompFails (model X.prog X.w) X.A X.xe ce) (.ref a_) s' := by
  have hfr : X.A.frames = some (X.env :: X.outer) := by rw [I3.ok.frames, hs]
  show wpAny (model X.prog X.w) X.A (noteFrame (.ref a_) ce) _ _ s'
  rw [noteFrame_env _ hcf]
  have fl' : HandSPX.FlyingZ B (X.env :: X.outer) a_ (Zc cls d) s'.heap := by rw [← hs]; exact fl
  refine HandSPX.looks_onZ Zc.steady hfr hf fl' fun h1 hh up1 => ?_
  obtain ⟨m, hn0, _⟩ := I'.loc
  have hn0 : sI.heap.Ns ce.locals m := hn0
  have hn1 : h1.Ns ce.locals m := by
    obtain ⟨oL, es, ep, hoL, hdL, r_⟩ := hn0
    have nf : ∀ vs, oL.data ≠ .fields vs := fun vs q_ => by rw [hdL] at q_; cases q_
    obtain ⟨sl, e_⟩ := up _ oL hoL nf
    obtain ⟨sl', e'⟩ := up1 _ _ e_ nf
    exact ⟨_, es, ep, e', hdL, r_⟩
  refine ⟨m, hn1, fun h2 m2 hn2 sb => ?_⟩
  obtain ⟨b1, b0, ff, oe, vs, T_, oT, ts, he, hz, hd, hv1, hnT, hTe, hT, hdT, h3⟩ := hh
  -- C's object is a_ dict
  obtain ⟨oC, esC, epC, hoC, hdC, _⟩ := id hn1
  have aC : a_ ≠ ce.locals := fun q_ => by rw [q_, hoC] at he; cases he; rw [hdC] at hd; cases hd
  have TC : T_ ≠ ce.locals := fun q_ => by rw [q_, hoC] at hT; cases hT; rw [hdC] at hdT; cases hdT
  have freeC : H' ce.locals = none := I'.free
  -- the ground without C
  obtain ⟨B', p1, p2⟩ := restrict B fun b_ => decide (b_ ≠ ce.locals)
  have B'B : ∀ b_ o_, B'.get? b_ = some o_ → b_ ≠ ce.locals ∧ B.get? b_ = some o_ := fun b_ o_ e_ => by
    by_cases q_ : b_ = ce.locals
    · rw [p2 b_ (by simp [q_])] at e_; cases e_
    · rw [p1 b_ (by simp [q_])] at e_; exact ⟨q_, e_⟩
  have BB' : ∀ b_, b_ ≠ ce.locals → B'.get? b_ = B.get? b_ := fun b_ q_ => p1 b_ (by simp [q_])
  obtain ⟨G, g1, g2⟩ := restrict sI.heap fun b_ => decide (b_ ≠ ce.locals)
  have Gs : ∀ b_ o_, G.get? b_ = some o_ → b_ ≠ ce.locals ∧ sI.heap.get? b_ = some o_ := fun b_ o_ e_ => by
    by_cases q_ : b_ = ce.locals
    · rw [g2 b_ (by simp [q_])] at e_; cases e_
    · rw [g1 b_ (by simp [q_])] at e_; exact ⟨q_, e_⟩
  have sG : ∀ b_, b_ ≠ ce.locals → G.get? b_ = sI.heap.get? b_ := fun b_ q_ => g1 b_ (by simp [q_])
  have old : ∀ b_ o_, s_.heap.get? b_ = some o_ → b_ ≠ ce.locals := fun b_ o_ e_ q_ => by
    have h9 := Heap.lt_size e_
    rw [q_, cL] at h9
    exact absurd h9 (Nat.lt_irrefl _)
  have ubase : Un (frs X.stack) fp H_ H' s_.heap sI.heap := I'.base
  have J_ : Inv X pins σ_ H' { sI with heap := G } := by
    refine I3.call' (s' := { sI with heap := G }) (ch := fp) I'.os ⟨fun b_ o_ e_ n_ hb hx => ?_, fun b_ o_ e_ n_ hb hx => ?_, ubase.free, fun b_ o_ e_ hx => ?_, ubase.tups, ubase.frzs, ubase.tbls⟩ (fun b_ u_ e_ => ?_) I'.bare fun b_ hb => ⟨(f3 b_ hb).2.2.2.1, (f3 b_ hb).2.1, (f3 b_ hb).2.2.2.2.1, (f3 b_ hb).2.2.2.2.2⟩
    · show G.get? b_ = some o_
      rw [sG b_ (old b_ o_ e_)]; exact ubase.keep b_ o_ e_ n_ hb hx
    · show ∃ sl, G.get? b_ = some { o_ with slots := sl }
      rw [sG b_ (old b_ o_ e_)]; exact ubase.slot b_ o_ e_ n_ hb hx
    · show ∃ o', G.get? b_ = some o'
      rw [sG b_ (old b_ o_ e_)]; exact ubase.there b_ o_ e_ hx
    · refine (I'.hok b_ u_ e_).stay (fun c v_ hc q_ => ?_) (fun _ q_ => q_) fun _ _ q_ => q_
      show G.get? c = some v_
      rw [sG c (fun z => ?_)]
      · exact q_
      · rcases hc with hc | hc
        · rw [z] at hc
          rw [← hc, freeC] at e_; cases e_
        · rw [z, freeC] at hc; cases hc
  have stB : B'.StaysIn h2 := fun b_ o_ e_ => by
    obtain ⟨q_, e'⟩ := B'B b_ o_ e_
    exact (sb.2 b_ q_).trans (b1 b_ o_ e')
  have ffB : h1.FunFrames B' (X.env :: X.outer) := funFrames_none ff fun L hL => by
    have z := (ff.mem hL).1
    by_cases q_ : L = ce.locals
    · exact p2 L (by simp [q_])
    · rw [BB' L q_]; exact z
  have ff2 : h2.FunFrames B' (X.env :: X.outer) := Heap.FunFrames.sameBut sb hn2 ffB
  have noB : ∀ {b_}, B.get? b_ = none → B'.get? b_ = none := fun {b_} z => by
    by_cases q_ : b_ = ce.locals
    · exact p2 b_ (by simp [q_])
    · rw [BB' b_ q_]; exact z
  have held : HandSPX.HeldZ B' (X.env :: X.outer) a_ (Zc cls d) X.env.locals h2 := ⟨stB, noB b0, ff2, oe, vs, T_, oT, ts, (sb.2 a_ aC).trans he, hz, hd, hv1, noB hnT, hTe, (sb.2 T_ TC).trans hT, hdT, h3⟩
  have upG : G.UpToSlots h2 := fun b_ o_ e_ nf => by
    obtain ⟨q_, e'⟩ := Gs b_ o_ e_
    obtain ⟨sl, e1⟩ := up b_ o_ e' nf
    obtain ⟨sl', e2⟩ := up1 b_ _ e1 nf
    exact ⟨sl', (sb.2 b_ q_).trans e2⟩
  show wpAny (model X.prog X.w) X.A (passOn "comprehension.variables-let-go" (.ref a_) ce : Sem Value) (fun _ _ => False) X.xe { s' with heap := h2 }
  unfold PySem.passOn
  refine wpAny_bind (wpAny_field ((sb.2 a_ aC).trans he) hd hv1 ?_)
  rw [if_neg (show ¬ ((Value.ref T_ == Value.none) = true) from by simp)]
  rw [hcf, hf]
  have fin : wpAny (model X.prog X.w) X.A (setFlight (.ref a_) (some X.env.locals)) (fun _ s4 => wpAny (model X.prog X.w) X.A (throw (.ref a_) : Sem Value) (fun _ _ => False) X.xe s4) X.xe { s' with heap := h2 } := by
    refine HandSPX.setFlight_onZ (s := { s' with heap := h2 }) held fun h4 hh4 up4 => wpAny_throw (tk _ _ ?_)
    exact ⟨a_, B', { sI with heap := G }, pins, σ_, H', cls, d, rfl, J_, (fun b_ o_ e_ hb => by
      obtain ⟨q_, e'⟩ := Gs b_ o_ e_
      rw [BB' b_ q_]
      exact nb b_ o_ e' hb), upG.trans up4, .inr (.inr (by rw [hs]; exact hh4)), na, os, ag, w_⟩
  first
    | exact wpAny_bind (wpAny_pure (wpAny_bind fin))
    | exact wpAny_bind fin
/-- lc_core, where the element may raise -/
theorem lc_coreX {pins : List (Addr × Obj)} {s_ : Shared} {σ_ : L2.St} {H_ : Hp} {Q_ : VK} {elt tg iter : Expr} {ifs : List Expr} {scope : Scope} {own : List (Str × Nat)} {pos pos' : Pos} {wi : TI} {g : TG} {tt : TT} {te : XK → TE} {use : Option (Value → Sem Unit)} {Qf : Value → Shared → Prop} {W : WX}
    (hs0 : X.stack = X.env :: X.outer) (hf0 : X.env.frame = some X.env.locals) (tk : Takes X W)
    (hc : X.calm = true) (hN : X.N.Nodup) (I_ : Inv X pins σ_ H_ s_) (hi : PI X tg iter wi) (ok : BlkOk X.N X.env.scope scope own)
    (hg : ∀ (s_ : Shared) (H_ : Hp) (C : Addr) (cl : List (Str × Addr)) (fp : List Addr), PG (X.blk s_ H_ scope (compEnvC scope cl C X.env) fp) tg g) (ht : ∀ (s_ : Shared) (H_ : Hp) (C : Addr) (cl : List (Str × Addr)) (fp : List Addr), PTs (X.blk s_ H_ scope (compEnvC scope cl C X.env) fp) ifs tt)
    (he : ∀ (E_ : XK) (s_ : Shared) (H_ : Hp) (C : Addr) (cl : List (Str × Addr)) (fp : List Addr) (xe : Value → Shared → Prop), Passes (CX X.prog X.w) ((X.blk s_ H_ scope (compEnvC scope cl C X.env) fp).wish xe) E_ → PE ((X.blk s_ H_ scope (compEnvC scope cl C X.env) fp).wish xe) elt (te E_)) (hs : ∀ x_, foldedSetIterable iter X.env x_ = pure x_)
    (h_ : tLc wi g tt (te fun cls d H' => W cls d σ_ H') (own.map (·.2)) σ_ H_ Q_)
    (hRR : ∀ D_ C s' m H', Inv X pins σ_ H' s' → Q_ (.ref D_) H' → s'.heap.Ns C m → FpOk X pins H' C → ∀ ce : Env, ce.locals = C → compEnds (model X.prog X.w) X.A X.xe use Qf (.ref D_) ce (.ok .next) s') :
    wpAny (model X.prog X.w) X.A (comprehension (.ListComp elt [⟨tg, iter, ifs, 0⟩] scope pos) scope X.env pos' (newList []) false (eval iter X.env) use) Qf X.xe s_ := by
  have hfree : ∀ y_ ∈ scope.names, y_.2 = .free → ∃ c, X.env.cells.lookup y_.1 = some c := fun y_ hy e_ => by
    rcases ok.free y_ hy e_ with k_ | k_
    · exact I_.ok.has _ (.inl k_)
    · exact I_.ok.has _ (.inr k_)
  refine comprehension_at (use := use) rfl hs (closure_ok hfree) ok.kind (fun y_ hy e_ => by rw [ok.uniq y_ hy, e_])
    (thn (hi.run pins s_ σ_ H_ _ I_ h_) fun xv s1 hx => thn hx fun itv s2 h2 => ?_)
  obtain ⟨it_, fp, tn, J_, H2, e_, I2, T_, st2, f2, q_⟩ := h2
  subst e_
  refine wpAny_newObj_type (newEnv_comp ?_) (by show 0 ≤ sizeLine; decide)
  generalize hD : s2.heap.objs.size = D_
  have hDn : H2 D_ = none := I2.hok.fresh (Nat.le_of_eq hD)
  obtain ⟨Wt, ⟨m0, w0⟩, turn⟩ := q_ D_ hDn
  generalize hs3 : ({ s2 with heap := s2.heap.push { cls := .type "list", data := .seq ([] : List Value).toArray } } : Shared) = s3
  have I3 : Inv X pins σ_ (upd H2 D_ (.lst [])) s3 := by
    rw [← hs3]
    refine I2.laid (t' := s2.toks) (fun b_ o_ e_ => Heap.get?_push_of_some _ e_) (Nat.le_of_eq hD) ⟨Nat.zero_le _, [], 0, .nil, ?_⟩
    rw [← hD]
    exact Heap.get?_push_size _ rfl
  have h3 : s3.heap = s2.heap.push { cls := .type "list", data := .seq ([] : List Value).toArray } := by rw [← hs3]
  have sz : ∀ b_ ∈ fp, b_ < s2.heap.objs.size := fun b_ hb => by
    obtain ⟨o_, e_, _⟩ := T_.obj _ _ st2 b_ hb
    exact Heap.lt_size e_
  have f3 : ∀ b_ ∈ fp, FpOk X pins (upd H2 D_ (.lst [])) b_ ∧ b_ < s3.heap.objs.size := fun b_ hb => by
    have hlt := sz b_ hb
    refine ⟨⟨?_, (f2 b_ hb).2⟩, by rw [h3, Heap.size_push]; exact Nat.lt_succ_of_lt hlt⟩
    rw [upd_ne (by rw [← hD]; exact Nat.ne_of_lt hlt)]
    exact (f2 b_ hb).1
  have st3 : tn 0 s3.heap := T_.keep _ _ _ st2 fun b_ _ o_ e_ => by rw [h3]; exact Heap.get?_push_of_some _ e_
  have I4 := block_start I3 ok hN f3
  have pg := hg s3 (upd H2 D_ (.lst [])) s3.heap.objs.size (cellsFrom (s3.heap.objs.size + 1) scope.names (cloFrom X.env.cells scope.names [])) fp
  have pt := ht s3 (upd H2 D_ (.lst [])) s3.heap.objs.size (cellsFrom (s3.heap.objs.size + 1) scope.names (cloFrom X.env.cells scope.names [])) fp
  have pe := fun E_ xe => he E_ s3 (upd H2 D_ (.lst [])) s3.heap.objs.size (cellsFrom (s3.heap.objs.size + 1) scope.names (cloFrom X.env.cells scope.names [])) fp xe
  show codeAny _ _ (.compStart (.ListComp elt [⟨tg, iter, ifs, 0⟩] scope pos) 0 (.ref it_) (.ref D_) (compEnvC scope (cellsFrom (s3.heap.objs.size + 1) scope.names (cloFrom X.env.cells scope.names [])) s3.heap.objs.size X.env)) (compEnds (model X.prog X.w) X.A X.xe use Qf (.ref D_) (compEnvC scope (cellsFrom (s3.heap.objs.size + 1) scope.names (cloFrom X.env.cells scope.names [])) s3.heap.objs.size X.env)) { s3 with heap := pushCells (s3.heap.push { cls := .type "dict", data := .dict #[] }) scope.names }
  have nfp : ∀ b_ ∈ fp, (upd H2 D_ (.lst [])) b_ = none := fun b_ hb => (f3 b_ hb).1.1
  have hcf0 : (compEnvC scope (cellsFrom (s3.heap.objs.size + 1) scope.names (cloFrom X.env.cells scope.names [])) s3.heap.objs.size X.env).frame = X.env.frame := rfl
  generalize hce : compEnvC scope (cellsFrom (s3.heap.objs.size + 1) scope.names (cloFrom X.env.cells scope.names [])) s3.heap.objs.size X.env = ce at I4 pg pt pe hcf0 ⊢
  have cL : ce.locals = s3.heap.objs.size := by subst hce; rfl
  generalize hH3 : upd H2 D_ (.lst []) = H3 at I3 I4 pg pt pe w0 nfp f3
  generalize hs4 : ({ s3 with heap := pushCells (s3.heap.push { cls := .type "dict", data := .dict #[] }) scope.names } : Shared) = s4 at I4 ⊢
  have st4 : tn 0 s4.heap := T_.keep _ _ _ st3 fun b_ _ o_ e_ => by rw [← hs4]; exact pushCells_keeps _ _ _ _ (Heap.get?_push_of_some _ e_)
  have stat : ∀ {σ' : L2.St} {H' : Hp} {s' : Shared}, Inv (X.blk s3 H3 scope ce fp) [] σ' H' s' → (∀ b_ ∈ fp, H' b_ = none) → ∀ b_ ∈ fp, FpOk (X.blk s3 H3 scope ce fp) [] H' b_ := fun {σ' H' s'} I' hn b_ hb =>
    ⟨hn b_ hb, (I'.ok.exf b_ hb).1, I'.ok.exfs b_ hb, .inl hb, fun x_ c e_ => (I'.ok.exf b_ hb).2 x_ c e_, fun p hp => absurd (show p ∈ ([] : List (Addr × Obj)) ++ [] from hp) (by simp)⟩
  have hpass : Passes (CX X.prog X.w) ((X.blk s3 H3 scope ce fp).wish (notedBy (model X.prog X.w) X.A ce (CompFails (model X.prog X.w) X.A X.xe ce))) (fun cls d H' => W cls d σ_ H') := by
    intro pinsB σB HB sB u_ s' IB c
    obtain ⟨a_, B, sI, H', cls, d, rfl, I', nb, up, fl, na, os, ag, w_⟩ := of_callF (X := X.blk s3 H3 scope ce fp) IB.unwish c
    exact comp_out (W := W) (B := B) hs0 hf0 hcf0 cL tk I3 (fun b_ hb => (f3 b_ hb).1) I' nb up fl na os ag w_
  have pe1 := pe _ _ hpass
  have loop : codeAny (model X.prog X.w) X.A (.compLoop (.ListComp elt [⟨tg, iter, ifs, 0⟩] scope pos) 0 (.ref it_) (.ref D_) ce) (compEnds (model X.prog X.w) X.A X.xe use Qf (.ref D_) ce) s4 := by
    refine compLoop_any (fun n_ s' => ∃ i H', Inv (X.blk s3 H3 scope ce fp) [] (wipe σ_ (own.map (·.2))) H' s' ∧ tn i s'.heap ∧ (∀ b_ ∈ fp, H' b_ = none) ∧ Wt i n_ H') ?_ m0 ⟨0, H3, I4, st4, nfp, w0⟩
    rintro n_ s5 ⟨i, H5, I5, st5, n5, w5⟩
    rcases turn i n_ H5 w5 with ⟨stop, qq⟩ | ⟨go, Nx, hNx, step⟩
    · have td := T_.done (X.blk s3 H3 scope ce fp) rfl rfl rfl hc i [] s5 _ H5 (fun _ _ => False) I5 (stat I5 n5) st5 stop
      refine thnF td fun r_ s6 ⟨hr, I6⟩ => ?_
      subst hr
      have I7 : Inv X pins σ_ H5 s6 := I3.call' (ch := fp) I6.os I6.base I6.hok I6.bare fun b_ hb => ⟨(f3 b_ hb).1.2.2.2.1, (f3 b_ hb).1.2.1, (f3 b_ hb).1.2.2.2.2.1, (f3 b_ hb).1.2.2.2.2.2⟩
      have nC : H5 s3.heap.objs.size = none := by
        have z : H5 ce.locals = none := I6.free
        rw [cL] at z
        exact z
      obtain ⟨m, hn, _⟩ := I6.loc
      have hn : s6.heap.Ns ce.locals m := hn
      rw [cL] at hn
      exact hRR D_ s3.heap.objs.size s6 m H5 I7 qq hn (I3.fpOk (Nat.le_refl _) nC) ce cL
    · have ti := T_.item (X.blk s3 H3 scope ce fp) rfl rfl rfl hc i [] s5 _ H5 (fun _ _ => False) I5 (stat I5 n5) st5 go
      refine thnF ti fun r_ s6 ⟨u_, hr, h6⟩ => ?_
      subst hr
      refine thnF h6 fun _ s7 ⟨x_, H7, I7, r7, y7, st7, n7⟩ => ?_
      have I7' := I7.pinned (stat I7 n7) (T_.obj _ _ st7)
      refine thnF (pg.run _ s7 _ H7 x_ u_ _ I7' r7 (step x_ H7 y7)) fun _ s8 ⟨σ8, H8, I8, hw8, q8⟩ => ?_
      refine thnF (pt.run _ s8 σ8 H8 _ I8 q8) fun b_ s9 ⟨H9, I9, q9⟩ => ?_
      have fin : ∀ {s' : Shared} {H' : Hp}, Inv (X.blk s3 H3 scope ce fp) ([] ++ pinsAt fp s7.heap) σ8 H' s' → Nx H' → ∃ m, m < n_ ∧ ∃ i H', Inv (X.blk s3 H3 scope ce fp) [] (wipe σ_ (own.map (·.2))) H' s' ∧ tn i s'.heap ∧ (∀ b_ ∈ fp, H' b_ = none) ∧ Wt i m H' := fun {s' H'} I' nx => by
        obtain ⟨m', hm, w'⟩ := hNx H' nx
        have pin' : ∀ b_ ∈ fp, ∀ o_, s7.heap.get? b_ = some o_ → s'.heap.get? b_ = some o_ ∧ H' b_ = none := fun b_ hb o_ e_ =>
          let z := I'.pin (b_, o_) (List.mem_append_right _ (List.mem_append_right _ (mem_pinsAt hb e_)))
          ⟨z.1, z.2.1⟩
        have hl : (wipe σ_ (own.map (·.2))).length = σ8.length := by rw [← hw8, wipe_length]
        refine ⟨m', hm, i + 1, H', (I'.unpinned (pins := [])).weak hl (fun j v_ e_ => ?_), T_.keep _ _ _ st7 fun b_ hb o_ e_ => (pin' b_ hb o_ e_).1, fun b_ hb => ?_, w'⟩
        · rw [← hw8] at e_
          exact (wipe_some e_).1
        · obtain ⟨o_, e_, _⟩ := T_.obj _ _ st7 b_ hb
          exact (pin' b_ hb o_ e_).2
      cases b_ with
      | false =>
        simp only [Bool.false_eq_true, if_false] at q9 ⊢
        exact fin I9 q9
      | true =>
        simp only [if_true] at q9 ⊢
        refine thn (pe1.run _ s9 σ8 H9 _ (I9.wish _) q9) fun z s10 ⟨yv, H10, I10, r10, acc, hD10, hz10, nx⟩ => ?_
        exact app_ok (X := X.blk s3 H3 scope ce fp) I10.unwish hD10 hz10 r10 fun s11 I11 => fin I11 nx
  exact codeAny_compStart_list loop (T_.self X.A 0 _ _ _ st4 loop)
/-- name = [f(x_) for x_ in ..], f may raise -/
theorem ps_setLcX {i : Nat} {y_ : Str} {py : Pos} {elt tg iter : Expr} {ifs : List Expr} {scope : Scope} {own : List (Str × Nat)} {pos spos : Pos} {wi : TI} {g : TG} {tt : TT} {te : XK → TE} {W : WX}
    (hs0 : X.stack = X.env :: X.outer) (hf0 : X.env.frame = some X.env.locals) (tk : Takes X W) (hc : X.calm = true) (hN : X.N.Nodup) (hy : X.N[i]? = some y_) (hyl : X.env.scope.names.lookup y_ = some .local)
    (hsw : swapsWith (.ListComp elt [⟨tg, iter, ifs, 0⟩] scope pos) (some (.Name y_ py)) spos.line X.env = pure true) (hi : PI X tg iter wi) (ok : BlkOk X.N X.env.scope scope own)
    (hg : ∀ (s_ : Shared) (H_ : Hp) (C : Addr) (cl : List (Str × Addr)) (fp : List Addr), PG (X.blk s_ H_ scope (compEnvC scope cl C X.env) fp) tg g) (ht : ∀ (s_ : Shared) (H_ : Hp) (C : Addr) (cl : List (Str × Addr)) (fp : List Addr), PTs (X.blk s_ H_ scope (compEnvC scope cl C X.env) fp) ifs tt)
    (he : ∀ (E_ : XK) (s_ : Shared) (H_ : Hp) (C : Addr) (cl : List (Str × Addr)) (fp : List Addr) (xe : Value → Shared → Prop), Passes (CX X.prog X.w) ((X.blk s_ H_ scope (compEnvC scope cl C X.env) fp).wish xe) E_ → PE ((X.blk s_ H_ scope (compEnvC scope cl C X.env) fp).wish xe) elt (te E_)) (hs : ∀ x_, foldedSetIterable iter X.env x_ = pure x_ := by intro _; rfl) :
    PS X (.Assign [.Name y_ py] (.ListComp elt [⟨tg, iter, ifs, 0⟩] scope pos) spos) (fun D_ σ_ H_ => tLc wi g tt (te fun cls d H' => W cls d σ_ H') (own.map (·.2)) σ_ H_ (fun x_ H1 => gName i x_ σ_ H1 D_.nx)) := by
  refine ⟨fun pins s_ σ_ H_ D_ I_ h_ => ?_⟩
  rw [exec_Assign_Name_used _ _ _ _ hsw]
  refine wpAny_bind (wpAny_standAt (wpAny_bind ?_))
  show wpAny _ X.A (do let _ ← comprehension (.ListComp elt [⟨tg, iter, ifs, 0⟩] scope pos) scope X.env (firstIterPos [⟨tg, iter, ifs, 0⟩] pos) (newList []) false (eval iter X.env) (some (assign (.Name y_ py) X.env))) _ _ s_
  refine wpAny_bind (thn (lc_coreX (Qf := fun _ s' => SP X pins D_ .next s') hs0 hf0 tk hc hN I_ hi ok hg ht he hs h_ fun L C s' m H' I' q_ hn f ce hcl => ?_) fun _ s' hq => wpAny_pure (wpAny_pure hq))
  show wpAny _ _ (assign (.Name y_ py) X.env (.ref L)) _ _ _
  refine wpAny_assign_Name (store_ok2 (v := V.ref L) I' hN hy (.inl hyl) rfl (fun s2 I2 ⟨a_, sb, ha⟩ => ?_) (.inr hyl))
  obtain ⟨f0, f1, f2, f3, f4, f5⟩ := f
  have haC : C ≠ a_ := by
    rcases ha with z | z
    · rw [z]; exact f1
    · exact fun e_ => f4 y_ a_ z e_.symm
  refine ⟨m, by rw [hcl]; exact hn.sameBut sb haC, fun h3 sb3 => ?_⟩
  rw [hcl] at sb3
  exact ⟨_, H', I2.turned (t' := s2.toks) (fun b_ o_ hb e_ => (sb3.2 b_ hb).trans e_) f0 f1 f3 f4 f5, q_⟩
end
end HW
set_option Elab.async false
set_option linter.all false
set_option maxRecDepth 100000
set_option maxHeartbeats 4000000
/-! x_ != y_ of two tuples whose items are equal, a_ dict of lists among them. -/
namespace HW
open PySem PySem.Spec PyProof.Rows L2
open PySem.AutoSeq1 (wpAny_loadPart')
open PySem.MeetsSeq PySem.MeetsSeq2 PySem.MeetsSeq3 PySem.SeqAt
section
variable {prog : Program} {w_ : World}
theorem ne_alike (l b_ : Addr) (xs ys : Array Value) (n_ n2 : Nat) (dd dd2 : Option Addr) (sl sl2 : Array (Option Value)) (hsz : xs.size = ys.size) :
    MeetsIn prog w_ (Builtin.«tuple.__ne__» ⟨[.ref l, .ref b_], []⟩)
      (fun A R s_ => s_.heap.get? l = some { cls := .type "tuple", dict := dd, data := .seq xs n_, slots := sl } ∧ s_.heap.get? b_ = some { cls := .type "tuple", dict := dd2, data := .seq ys n2, slots := sl2 } ∧
        (∀ p ∈ xs.toList.zip ys.toList, EqP prog w_ A.in1 s_ p.1 p.2 true) ∧ R (.ok (.ret (.bool false))) s_) :=
  .of_wp fun A R s_ h_ => by
    obtain ⟨hp, g, d, tk, os⟩ := s_; obtain ⟨hl, hb, he, h_⟩ := h_
    have f2 := AutoSeq1.sub_tuple_tuple
    wp_walk using wpAny_loadPart' hl, wpAny_loadPart' hb, wpAny_forIn_list _ (fun rest q_ s' => q_.1 = none ∧ s' = ⟨hp, g, d, tk, os⟩ ∧ ∀ p ∈ rest, p ∈ xs.toList.zip ys.toList) _
    case turn =>
      rintro ⟨y_, x_⟩ rest q_ s' ⟨hq, rfl, hz⟩
      refine wpAny_bind (he (y_, x_) (hz _ List.mem_cons_self) _ _ ?_)
      wp_walk
      exact ⟨rfl, rfl, fun p hp => hz p (List.mem_cons_of_mem _ hp)⟩
    case fin =>
      rintro ⟨q1, q2⟩ s' ⟨hq, rfl, -⟩
      simp only at hq
      subst hq
      wp_walk
      exact ⟨_, rfl, by simpa [Builtin.Tuple.tupleCompareSizes, hsz] using h_⟩
    case h =>
      exact ⟨rfl, rfl, fun _ z => z⟩
theorem rc_ne_alike {A : Around} {s_ : Shared} {l b_ : Addr} {xs ys : Array Value} (hl : s_.heap.IsTuple l xs) (hb : s_.heap.IsTuple b_ ys) (hsz : xs.size = ys.size) (hu : A.units < cLine)
    (he : ∀ p ∈ xs.toList.zip ys.toList, EqP prog w_ A.in1 s_ p.1 p.2 true) (E_ Q_ : Value → Shared → Prop) (h_ : Q_ (.bool false) s_) : wpAny (model prog w_) A (richCompare .NotEq (.ref l) (.ref b_)) Q_ E_ s_ := by
  obtain ⟨⟨cls, dd, data, sl⟩, ho, hc, n_, hd⟩ := id hl
  obtain ⟨⟨cls2, dd2, data2, sl2⟩, ho2, hc2, n2, hd2⟩ := id hb
  simp only at hc hd hc2 hd2
  subst hc hd hc2 hd2
  have ta : s_.TypeIs (.ref l) "tuple" := ⟨_, ho, rfl⟩
  have tb : s_.TypeIs (.ref b_) "tuple" := ⟨_, ho2, rfl⟩
  exact wpAny_richCompare_same_room (op := .NotEq) ta tb F.slot_tuple_ne (call_meetsIn F.slot_tuple_ne ta F.entry_tuple_ne (F.args_tuple_ne_2 _ _) (ne_alike l b_ xs ys n_ n2 dd dd2 sl sl2 hsz)
    ⟨ho, ho2, he, show Value.bool false ≠ Value.notImplemented ∧ Q_ (.bool false) s_ from ⟨(fun x_ => nomatch x_), h_⟩⟩) hu
end
/-- equal: the same data, or dicts with the same keys and the same data at each -/
def SameD (K : PySem.W.Frag) (H_ : Hp) (x_ y_ : V) : Prop := ∃ d, Dp K H_ x_ d ∧ Dp K H_ y_ d ∧ SeqAt.shaped d = true
def SameV (K : PySem.W.Frag) (H_ : Hp) (x_ y_ : V) : Prop := SameD K H_ x_ y_ ∨
  ∃ a_ b_ ks ls, x_ = .ref a_ ∧ y_ = .ref b_ ∧ a_ ≠ b_ ∧ H_ a_ = some (.dK ks) ∧ H_ b_ = some (.dK ls) ∧ ks.length = ls.length ∧ ∀ p ∈ ks, ∃ u_, valV ls p.1 = some u_ ∧ SameD K H_ p.2 u_
section
variable {X : Cx} {pins : List (Addr × Obj)} {σ_ : L2.St} {H_ : Hp} {s_ : Shared}
theorem sameD_run (I_ : Inv X pins σ_ H_ s_) {A : Around} (hu : A.units + 64 < cLine) {x_ y_ : V} {v_ u_ : Value} (h_ : SameD X.K H_ x_ y_) (rx : RelV x_ v_) (ry : RelV y_ u_) : EqP X.prog X.w A s_ v_ u_ true := by
  obtain ⟨d, h1, h2, sd⟩ := h_
  obtain ⟨as, r1⟩ := Dp.reads I_ d x_ v_ h1 rx
  obtain ⟨bs, r2⟩ := Dp.reads I_ d y_ u_ h2 ry
  intro E_ Q_ q_
  refine PySem.SeqAt.eqBoolOverData _ _ _ _ _ _ _ _ _ _ _ _ r1 r2 (SeqAt.canLay_of_shaped sd) (SeqAt.canLay_of_shaped sd) (SeqAt.room_of_shaped sd hu) ?_
  rw [SeqAt.eqv_refl d (SeqAt.canLay_of_shaped sd)]
  exact q_
theorem sameV_run (I_ : Inv X pins σ_ H_ s_) {A : Around} (hu : A.units + 65 < cLine) {x_ y_ : V} {v_ u_ : Value} (h_ : SameV X.K H_ x_ y_) (rx : RelV x_ v_) (ry : RelV y_ u_) : EqP X.prog X.w A s_ v_ u_ true := by
  rcases h_ with h_ | ⟨a_, b_, ks, ls, rfl, rfl, hab, ha, hb, hl, hp⟩
  · exact sameD_run I_ (by omega) h_ rx ry
  · cases (show v_ = Value.ref a_ from rx)
    cases (show u_ = Value.ref b_ from ry)
    refine eqP_refs hab fun E_ Q_ q_ => ?_
    obtain ⟨_, ya, va, ra, da⟩ := dk_of I_.hok ha
    obtain ⟨_, yb, vb, rb, db⟩ := dk_of I_.hok hb
    refine PySem.W.rcP_dicts (knd := mixKind X.prog X.w) (r := true) ya yb da db (by omega) (fun _ => hits_run (F := SameD X.K H_) (fun x_ y_ v_ u_ f r1 r2 => sameD_run I_ (by show A.units + 1 + 64 < cLine; omega) f r1 r2) rb ra hp) E_ Q_ ?_
    have e_ : va.length = vb.length := by rw [← ra.length, ← rb.length]; exact hl
    simpa [e_] using q_
theorem zip_run {P : V → V → Prop} {R : Value → Value → Prop} (ih : ∀ x_ y_ v_ u_, P x_ y_ → RelV x_ v_ → RelV y_ u_ → R v_ u_) {xs ys : List V} (hp : Paired P xs ys) : ∀ {us ws : List Value}, Vals xs us → Vals ys ws → ∀ p ∈ us.zip ws, R p.1 p.2 := by
  induction hp with
  | nil =>
    intro us ws r1 r2 p h_
    cases r1
    cases h_
  | cons h_ _ k_ =>
    intro us ws r1 r2 p hm
    cases r1 with
    | cons a1 b1 =>
      cases r2 with
      | cons a2 b2 =>
        rcases List.mem_cons.mp hm with e_ | hm
        · rw [e_]; exact ih _ _ _ _ h_ a1 a2
        · exact k_ b1 b2 p hm
end
/-- x_ != y_, two tuples of equal items -/
def rNeV (K : PySem.W.Frag) : R2 := fun x_ y_ H_ Q_ => ∃ a_ b_ xs ys, x_ = .ref a_ ∧ y_ = .ref b_ ∧ SqT K H_ a_ xs ∧ SqT K H_ b_ ys ∧ Paired (SameV K H_) xs ys ∧ Q_ (.bl false) H_
theorem op_neV {X : Cx} (hu : X.A.units + 70 < cLine) : OpR X (compareOp .NotEq) (rNeV X.K) := by
  intro pins s_ σ_ H_ x_ y_ v_ u_ Q_ I_ rx ry h_
  obtain ⟨a_, b_, xs, ys, rfl, rfl, ha, hb, hp, q_⟩ := h_
  cases (show v_ = Value.ref a_ from rx)
  cases (show u_ = Value.ref b_ from ry)
  obtain ⟨us, r1, p1, _⟩ := I_.tuple ha
  obtain ⟨ws, r2, p2, _⟩ := I_.tuple hb
  refine rc_ne_alike (show s_.heap.IsTuple a_ us.toArray from p1) (show s_.heap.IsTuple b_ ws.toArray from p2) ?_ (by omega) ?_ _ _ ⟨.bl false, H_, I_, rfl, q_⟩
  · rw [List.size_toArray, List.size_toArray, ← r1.length, ← r2.length]
    exact Paired.length hp
  · show ∀ p ∈ us.zip ws, _
    exact zip_run (fun x_ y_ v_ u_ f r1 r2 => sameV_run I_ (by show X.A.units + 1 + 65 < cLine; omega) f r1 r2) hp r1 r2
end HW
set_option Elab.async false
set_option linter.all false
set_option maxRecDepth 100000
set_option maxHeartbeats 4000000
namespace HW
open PySem PySem.Spec PyProof.Rows L2
/-! ### what the top has left -/
structure Top (K : PySem.W.Frag) (mg : Str → Option Value) : Prop where
  says : He.SaysD fa fn K
  spots : noSpots K = true
  at_ : ∃ h : Heap, K.In h ∧ h.Ns mainGlobals mg
section
variable {K : PySem.W.Frag} {mg : Str → Option Value}
theorem Top.glo (T : Top K mg) (i : Nat) {x : Str} (h : fa[i]? = some (.glo x) := by rfl) : mg x = some (.ref (He.ga K x)) := by
  obtain ⟨h0, X, G⟩ := T.at_
  exact He.glo_ok X G (T.says.fact i h)
theorem Top.free (T : Top K mg) (i : Nat) {x : Str} (h : fa[i]? = some (.free x) := by rfl) : mg x = none := by
  obtain ⟨h0, X, G⟩ := T.at_
  exact He.free_ok X G (T.says.fact i h)
theorem Top.str (T : Top K mg) (i : Nat) {x z : Str} (h : fa[i]? = some (.str x z) := by rfl) : ∃ t, mg x = some (.str z t) := by
  obtain ⟨h0, X, G⟩ := T.at_
  exact He.str_ok X G (T.says.fact i h)
theorem Top.cls (T : Top K mg) (i : Nat) {x : Str} (h : fa[i]? = some (.cls x) := by rfl) : Cls K (He.ga K x) := He.cls_ok (T.says.fact i h)
theorem Top.noat (T : Top K mg) (i : Nat) {x f : Str} (h : fa[i]? = some (.noat x f) := by rfl) : NoAttr K (He.ga K x) f := He.noat_ok (T.says.fact i h)
theorem Top.meth (T : Top K mg) (i : Nat) {x m : Str} (h : fa[i]? = some (.meth x m) := by rfl) : Meth K (He.ga K x) m (He.ma K (He.ga K x) m) := He.meth_ok (T.says.fact i h)
theorem Top.mkr (T : Top K mg) (i : Nat) {x : Str} (h : fa[i]? = some (.mkr x) := by rfl) : Mk K (He.ga K x) (He.ma K (He.ga K x) "__init__") := He.mkr_ok (T.says.fact i h)
theorem Top.def_ (T : Top K mg) (i : Nat) {d : He.DefD} (h : fn[i]? = some d := by rfl) : ∃ fd, FunD K d.name d.qual d.params d.body d.scope (d.dvs K) (d.kws K) (He.fAd K d.at_) fd := T.says.def_ i h
end
/-! ### a def, bundled -/
structure Fn (P : Program) (w : World) (K : PySem.W.Frag) (mg : Str → Option Value) (base : Heap) (C : CXT) (k : Nat) (x : Str) (ps : List Str) (sp : Sp) : Prop where
  ex : ∃ f fd, FnOk P w K mg base C k f fd ps sp ∧ mg x = some (.ref f) ∧ PySem.W.keepIn K (.ref f) = true ∧ Binds K fd ps []
structure Mt (P : Program) (w : World) (K : PySem.W.Frag) (mg : Str → Option Value) (base : Heap) (C : CXT) (k : Nat) (c m : Str) (ps : List Str) (sp : Sp) : Prop where
  ex : ∃ f fd, FnOk P w K mg base C k f fd ps sp ∧ Meth K (He.ga K c) m f ∧ Binds K fd ps []
structure It0 (P : Program) (w : World) (K : PySem.W.Frag) (mg : Str → Option Value) (base : Heap) (C : CXT) (k : Nat) (c : Str) (ps : List Str) (sp : Sp) : Prop where
  ex : ∃ f fd, FnOk P w K mg base C k f fd ps sp ∧ Mk K (He.ga K c) f ∧ mg c = some (.ref (He.ga K c)) ∧ Binds K fd ps []
section
variable {X : Cx} {C : CXT} {k : Nat} {x m : Str} {ps : List Str} {sp : Sp} {E : XK} {p pos apos : Pos} {e o : Expr} {es : List Expr} {t : TA} {ta : TE}
theorem pe_fn (F : Fn X.prog X.w X.K X.mg X.base C k x ps sp) (hr : Room k X.A) (hg : Gl X x) (hx : Passes C X E) (ha : PA X (e :: es) t) (hdb : (x == ("__debug__" : Str)) = false := by decide)
    (he : starEach (e :: es) X.env = (false, eval e X.env) :: starEach es X.env := by rfl) (hpl : (backTo pos (starEach es X.env)).any (·.1) = false := by rfl) : PE X (.Call (.Name x p) (e :: es) [] pos) (tCall sp [] E t) := by
  obtain ⟨f, fd, G, hm, hk, hb⟩ := F.ex
  exact pe_call G hr hg hm hk hb .nil hx ha hdb he hpl
theorem pe_it (F : It0 X.prog X.w X.K X.mg X.base C k x ps sp) (hr : Room (k + 1) X.A) (hg : Gl X x) (hx : Passes C X E) (ha : PA X (e :: es) t) (hdb : (x == ("__debug__" : Str)) = false := by decide)
    (he : starEach (e :: es) X.env = (false, eval e X.env) :: starEach es X.env := by rfl) (hpl : (backTo pos (starEach es X.env)).any (·.1) = false := by rfl) : PE X (.Call (.Name x p) (e :: es) [] pos) (tMake (He.ga X.K x) sp [] E t) := by
  obtain ⟨f, fd, G, hm, hk, hb⟩ := F.ex
  exact pe_make hm G hr hg hk hb .nil hx ha hdb he hpl
theorem pe_it0 (F : It0 X.prog X.w X.K X.mg X.base C k x ps sp) (hr : Room (k + 1) X.A) (hg : Gl X x) (hx : Passes C X E) (hdb : (x == ("__debug__" : Str)) = false := by decide) : PE X (.Call (.Name x p) [] [] pos) (tMake (He.ga X.K x) sp [] E tNil) := by
  obtain ⟨f, fd, G, hm, hk, hb⟩ := F.ex
  exact pe_make0 hm G hr hg hk hb .nil hx hdb
end
section
variable {P : Program} {w : World} {K : PySem.W.Frag} {mg : Str → Option Value} {base : Heap}
/-- a def that raises nothing -/
theorem _root_.L2.FunD.okN {x qual : Str} {params : Arguments} {body : List Stmt} {scope : Scope} {f : Addr} {fd : FuncData} {dvs : List V} {kws : List (Str × V)} {N ps : List Str} {k : Nat} {sp : Sp} (F : FunD K x qual params body scope dvs kws f fd) (S : FnScope N ps scope) (len : ∀ vs H Q E, sp vs H Q E → vs.length = ps.length)
    (hbody : ∀ (cdv : Value) (A : Around) (outer : List Env) (s : Shared) (H : Hp) (vs : List V) (Q : VK) (E : XK), Room k (A.deeper (envOfC qual scope s.heap.objs.size f cdv)) → sp vs H Q E →
      ∃ t, PSs (cxOf CX0 P w K mg base N qual scope f cdv A outer s H E).nox body t ∧ t { nx := fun _ H' => Q .non H', rt := Q } (start N vs) H) : FnOk P w K mg base CX0 (k + 1) f fd ps sp :=
  F.ok S len fun cdv A outer s H vs Q E hr h => by
    obtain ⟨t, h1, h2⟩ := hbody cdv A outer s H vs Q E hr h
    exact ⟨t, h1.nox, h2⟩
theorem Fn.mono {C : CXT} {j k : Nat} {x : Str} {ps : List Str} {sp : Sp} (F : Fn P w K mg base C j x ps sp) (h : j ≤ k) : Fn P w K mg base C k x ps sp := by
  obtain ⟨f, fd, G, r⟩ := F.ex
  exact ⟨f, fd, G.mono h, r⟩
end
/-! ### the heap moves on -/
def TK (H H' : Hp) : Prop := (∀ a xs, H a = some (.tup xs) → H' a = some (.tup xs)) ∧ ∀ a o u, H a = some (.frz o u) → H' a = some (.frz o u)
theorem TK.refl (H : Hp) : TK H H := ⟨fun _ _ h => h, fun _ _ _ h => h⟩
theorem TK.trans {H H1 H2 : Hp} (a : TK H H1) (b : TK H1 H2) : TK H H2 := ⟨fun x xs h => b.1 _ _ (a.1 x xs h), fun x o u h => b.2 _ _ _ (a.2 x o u h)⟩
theorem TK.same {H H' : Hp} (s : Same H H') : TK H H' := ⟨fun _ _ h => s _ _ h, fun _ _ _ h => s _ _ h⟩
theorem TK.new {H : Hp} {p : Addr} {o : HO} (h : H p = none) : TK H (upd H p o) :=
  ⟨fun a xs e => by rw [upd_ne (ne_of_none e h)]; exact e, fun a _ u e => by rw [upd_ne (ne_of_none e h)]; exact e⟩
def still : HO → Bool
  | .tup _ => true
  | .frz _ _ => true
  | _ => false
theorem TK.put {H : Hp} {p : Addr} {o u : HO} (h : H p = some u) (hu : still u = false) : TK H (upd H p o) :=
  ⟨fun a xs e => by
    have ne : a ≠ p := fun z => by rw [z, h] at e; cases e; cases hu
    rw [upd_ne ne]; exact e, fun a ob x e => by
    have ne : a ≠ p := fun z => by rw [z, h] at e; cases e; cases hu
    rw [upd_ne ne]; exact e⟩
theorem _root_.L2.Same.new {H : Hp} {p : Addr} {o : HO} (h : H p = none) : Same H (upd H p o) := fun a u e => by rw [upd_ne (ne_of_none e h)]; exact e
theorem _root_.L2.Same.put {H H' : Hp} {p : Addr} {o : HO} (s : Same H H') (h : H p = none) : Same H (upd H' p o) := fun a u e => by rw [upd_ne (ne_of_none e h)]; exact s a u e
theorem _root_.L2.SqT.tk {K : PySem.W.Frag} {H H' : Hp} {a : Addr} {xs : List V} (h : SqT K H a xs) (t : TK H H') : SqT K H' a xs := by
  rcases h with (h | ⟨o, h⟩) | h
  · exact .inl (.inl (t.1 _ _ h))
  · exact .inl (.inr ⟨o, t.2 _ _ _ h⟩)
  · exact .inr h
/-! ### the data -/
abbrev Rch := Bool × List Int
abbrev Stp := Int × Rch
abbrev Plt := Rch × List Stp
abbrev Row := List Int
abbrev Ent := Row × Plt
section
variable (K : PySem.W.Frag) (H : Hp)
def IsRch (v : V) (r : Rch) : Prop := ∃ a b, v = .ref a ∧ SqT K H a [.bl r.1, .ref b] ∧ SqT K H b (r.2.map V.int)
def IsStp (v : V) (s : Stp) : Prop := ∃ a u, v = .ref a ∧ SqT K H a [.int s.1, u] ∧ IsRch K H u s.2
def IsPlt (v : V) (p : Plt) : Prop := ∃ a u b vs, v = .ref a ∧ SqT K H a [u, .ref b] ∧ IsRch K H u p.1 ∧ SqT K H b vs ∧ Paired (IsStp K H) vs p.2
def IsEnt (v : V) (e : Ent) : Prop := ∃ a u z, v = .ref a ∧ SqT K H a [u, z] ∧ IsRow H u e.1 ∧ IsPlt K H z e.2
end
section
variable {K : PySem.W.Frag} {H H' : Hp} {v : V}
theorem paired_imp {α β : Type} {F G : α → β → Prop} {xs : List α} {ys : List β} (h : Paired F xs ys) (i : ∀ a b, F a b → G a b) : Paired G xs ys := by
  induction h with
  | nil => exact .nil
  | cons a _ ih => exact .cons (i _ _ a) ih
theorem paired_get {α β : Type} {F : α → β → Prop} {xs : List α} {ys : List β} (h : Paired F xs ys) {i : Nat} {x : α} (e : xs[i]? = some x) : ∃ y, ys[i]? = some y ∧ F x y := by
  induction h generalizing i with
  | nil => simp at e
  | cons a _ ih =>
    cases i with
    | zero => simp at e; subst e; exact ⟨_, rfl, a⟩
    | succ i => obtain ⟨y, h1, h2⟩ := ih (i := i) (by simpa using e); exact ⟨y, by simpa using h1, h2⟩
theorem paired_app {α β : Type} {F : α → β → Prop} {xs xs' : List α} {ys ys' : List β} (h : Paired F xs ys) (h' : Paired F xs' ys') : Paired F (xs ++ xs') (ys ++ ys') := by
  induction h with
  | nil => exact h'
  | cons a _ ih => exact .cons a ih
theorem IsRch.tk {r : Rch} (h : IsRch K H v r) (t : TK H H') : IsRch K H' v r := by
  obtain ⟨a, b, e, h1, h2⟩ := h
  exact ⟨a, b, e, h1.tk t, h2.tk t⟩
theorem IsStp.tk {r : Stp} (h : IsStp K H v r) (t : TK H H') : IsStp K H' v r := by
  obtain ⟨a, u, e, h1, h2⟩ := h
  exact ⟨a, u, e, h1.tk t, h2.tk t⟩
theorem IsPlt.tk {r : Plt} (h : IsPlt K H v r) (t : TK H H') : IsPlt K H' v r := by
  obtain ⟨a, u, b, vs, e, h1, h2, h3, h4⟩ := h
  exact ⟨a, u, b, vs, e, h1.tk t, h2.tk t, h3.tk t, paired_imp h4 fun _ _ z => z.tk t⟩
theorem IsRow.tk {r : Row} (h : IsRow H v r) (t : TK H H') : IsRow H' v r := by
  obtain ⟨a, e, h1⟩ := h
  exact ⟨a, e, t.1 _ _ h1⟩
theorem IsEnt.tk {r : Ent} (h : IsEnt K H v r) (t : TK H H') : IsEnt K H' v r := by
  obtain ⟨a, u, z, e, h1, h2, h3⟩ := h
  exact ⟨a, u, z, e, h1.tk t, h2.tk t, h3.tk t⟩
theorem pairS_tk {vs : List V} {ss : List Stp} (h : Paired (IsStp K H) vs ss) (t : TK H H') : Paired (IsStp K H') vs ss := paired_imp h fun _ _ z => z.tk t
theorem pairE_tk {vs : List V} {ss : List Ent} (h : Paired (IsEnt K H) vs ss) (t : TK H H') : Paired (IsEnt K H') vs ss := paired_imp h fun _ _ z => z.tk t
theorem IsRow.sq {a : Addr} {r : Row} (h : IsRow H (.ref a) r) : SqT K H a (r.map V.int) := by
  obtain ⟨b, e, h1⟩ := h
  cases e
  exact SqT.of h1
/-! as the library's data -/
def encR (r : Rch) : PyData := .tuple [.bool r.1, .tuple (r.2.map .int)]
def encS (s : Stp) : PyData := .tuple [.int s.1, encR s.2]
def encP (p : Plt) : PyData := .tuple [encR p.1, .tuple (p.2.map encS)]
def encW (r : Row) : PyData := .tuple (r.map .int)
def encE (e : Ent) : PyData := .tuple [encW e.1, encP e.2]
theorem dp_rch {r : Rch} (h : IsRch K H v r) : Dp K H v (encR r) := by
  obtain ⟨a, b, rfl, h1, h2⟩ := h
  exact .tup h1 (.cons (.bl _) (.cons (.tup h2 (dpAll_ints _)) .nil))
theorem dp_stp {s : Stp} (h : IsStp K H v s) : Dp K H v (encS s) := by
  obtain ⟨a, u, rfl, h1, h2⟩ := h
  exact .tup h1 (.cons (.int _) (.cons (dp_rch h2) .nil))
theorem dpAll_of {α : Type} {F : V → α → Prop} {enc : α → PyData} (i : ∀ v a, F v a → Dp K H v (enc a)) {vs : List V} {as : List α} (h : Paired F vs as) : DpAll K H vs (as.map enc) := by
  induction h with
  | nil => exact .nil
  | cons a _ ih => exact .cons (i _ _ a) ih
theorem dp_plt {p : Plt} (h : IsPlt K H v p) : Dp K H v (encP p) := by
  obtain ⟨a, u, b, vs, rfl, h1, h2, h3, h4⟩ := h
  exact .tup h1 (.cons (dp_rch h2) (.cons (.tup h3 (dpAll_of (fun _ _ z => dp_stp z) h4)) .nil))
theorem dp_row {r : Row} (h : IsRow H v r) : Dp K H v (encW r) := by
  obtain ⟨a, rfl, h1⟩ := h
  exact .tup (SqT.of h1) (dpAll_ints _)
theorem dp_ent {e : Ent} (h : IsEnt K H v e) : Dp K H v (encE e) := by
  obtain ⟨a, u, z, rfl, h1, h2, h3⟩ := h
  exact .tup h1 (.cons (dp_row h2) (.cons (dp_plt h3) .nil))
end
theorem canInts : ∀ ns : List Int, PyData.canLayAll0 (ns.map .int) = true
  | [] => rfl
  | n :: ns => by show (PyData.canLay0 (.int n) && PyData.canLayAll0 (ns.map .int)) = true; rw [canInts ns]; rfl
theorem canR (r : Rch) : (encR r).canLay0 = true := by
  show (true && (PyData.canLayAll0 (r.2.map .int) && true)) = true
  rw [canInts]; rfl
theorem canS (s : Stp) : (encS s).canLay0 = true := by
  show (true && (PyData.canLay0 (encR s.2) && true)) = true
  rw [canR]; rfl
theorem canSs : ∀ ss : List Stp, PyData.canLayAll0 (ss.map encS) = true
  | [] => rfl
  | s :: ss => by show (PyData.canLay0 (encS s) && PyData.canLayAll0 (ss.map encS)) = true; rw [canS, canSs ss]; rfl
theorem canP (p : Plt) : (encP p).canLay0 = true := by
  show (PyData.canLay0 (encR p.1) && (PyData.canLayAll0 (p.2.map encS) && true)) = true
  rw [canR, canSs]; rfl
theorem canW (r : Row) : (encW r).canLay0 = true := canInts r
theorem canE (e : Ent) : (encE e).canLay0 = true := by
  show (PyData.canLay0 (encW e.1) && (PyData.canLay0 (encP e.2) && true)) = true
  rw [canW, canP]; rfl
theorem depR (r : Rch) : (encR r).depth ≤ 3 := by simp [encR, PyData.depth, PyData.depthAll, PySem.W.depth_ints]
theorem depS (s : Stp) : (encS s).depth ≤ 4 := by
  have h := depR s.2
  simp [encS, PyData.depth, PyData.depthAll]; omega
theorem depSs : ∀ ss : List Stp, PyData.depthAll (ss.map encS) ≤ 4
  | [] => by simp [PyData.depthAll]
  | s :: ss => by
    have h1 := depS s
    have h2 := depSs ss
    simp [PyData.depthAll]; omega
theorem depP (p : Plt) : (encP p).depth ≤ 8 := by
  have h := depR p.1
  have h2 := depSs p.2
  simp [encP, PyData.depth, PyData.depthAll]; omega
theorem depW (r : Row) : (encW r).depth ≤ 2 := by simp [encW, PyData.depth, PySem.W.depth_ints]
theorem depE (e : Ent) : (encE e).depth ≤ 10 := by
  have h := depP e.2
  have h2 := depW e.1
  simp [encE, PyData.depth, PyData.depthAll]; omega
theorem shaped_of {d : PyData} {n : Nat} (h : d.canLay0 = true) (h2 : d.depth ≤ n) (h3 : n ≤ 64) : SeqAt.shaped d = true := by
  unfold SeqAt.shaped
  rw [h, decide_eq_true (Nat.le_trans h2 h3)]; rfl
theorem shR (r : Rch) : SeqAt.shaped (encR r) = true := shaped_of (canR r) (depR r) (by decide)
theorem shP (r : Plt) : SeqAt.shaped (encP r) = true := shaped_of (canP r) (depP r) (by decide)
theorem shW (r : Row) : SeqAt.shaped (encW r) = true := shaped_of (canW r) (depW r) (by decide)
theorem shE (r : Ent) : SeqAt.shaped (encE r) = true := shaped_of (canE r) (depE r) (by decide)
theorem eqvInts : ∀ ns ms : List Int, PyData.eqvAll (ns.map .int) (ms.map .int) = decide (ns = ms)
  | [], [] => by simp [PyData.eqvAll]
  | [], _ :: _ => by simp [PyData.eqvAll]
  | _ :: _, [] => by simp [PyData.eqvAll]
  | n :: ns, m :: ms => by
    show (PyData.eqv (.int n) (.int m) && PyData.eqvAll (ns.map .int) (ms.map .int)) = _
    rw [eqvInts ns ms]
    simp [PyData.eqv, Bool.decide_and, Bool.beq_eq_decide_eq]
theorem eqvR (r q : Rch) : PyData.eqv (encR r) (encR q) = decide (r = q) := by
  obtain ⟨b, ns⟩ := r
  obtain ⟨c, ms⟩ := q
  show (PyData.eqv (.bool b) (.bool c) && (PyData.eqvAll (ns.map .int) (ms.map .int) && true)) = _
  rw [eqvInts]
  simp [PyData.eqv, Bool.decide_and]
  rfl
theorem eqvW (r q : Row) : PyData.eqv (encW r) (encW q) = decide (r = q) := eqvInts r q
end HW
set_option Elab.async false
set_option linter.all false
set_option maxRecDepth 100000
set_option maxHeartbeats 4000000
namespace HW
open PySem PySem.Spec PyProof.Rows L2
section
variable {K : PySem.W.Frag} {mg : Str → Option Value}
theorem Top.g_truth_by (T : Top K mg) : mg "truth_by" = some (.ref (He.ga K "truth_by")) := T.glo 0
theorem Top.g_is_reach (T : Top K mg) : mg "is_reach" = some (.ref (He.ga K "is_reach")) := T.glo 1
theorem Top.g_stretch_of (T : Top K mg) : mg "stretch_of" = some (.ref (He.ga K "stretch_of")) := T.glo 2
theorem Top.g_edges_marked (T : Top K mg) : mg "edges_marked" = some (.ref (He.ga K "edges_marked")) := T.glo 3
theorem Top.g_blend (T : Top K mg) : mg "blend" = some (.ref (He.ga K "blend")) := T.glo 4
theorem Top.g_reach_at (T : Top K mg) : mg "reach_at" = some (.ref (He.ga K "reach_at")) := T.glo 5
theorem Top.g_plot_of (T : Top K mg) : mg "plot_of" = some (.ref (He.ga K "plot_of")) := T.glo 6
theorem Top.g_is_turn (T : Top K mg) : mg "is_turn" = some (.ref (He.ga K "is_turn")) := T.glo 7
theorem Top.g_is_step (T : Top K mg) : mg "is_step" = some (.ref (He.ga K "is_step")) := T.glo 8
theorem Top.g_is_plot (T : Top K mg) : mg "is_plot" = some (.ref (He.ga K "is_plot")) := T.glo 9
theorem Top.g_from_plot (T : Top K mg) : mg "from_plot" = some (.ref (He.ga K "from_plot")) := T.glo 10
theorem Top.g_lift (T : Top K mg) : mg "lift" = some (.ref (He.ga K "lift")) := T.glo 11
theorem Top.g_table_of (T : Top K mg) : mg "table_of" = some (.ref (He.ga K "table_of")) := T.glo 12
theorem Top.g_lift_table (T : Top K mg) : mg "lift_table" = some (.ref (He.ga K "lift_table")) := T.glo 13
theorem Top.g_write_number (T : Top K mg) : mg "write_number" = some (.ref (He.ga K "write_number")) := T.glo 14
theorem Top.g_read_number (T : Top K mg) : mg "read_number" = some (.ref (He.ga K "read_number")) := T.glo 15
theorem Top.g_words_of (T : Top K mg) : mg "words_of" = some (.ref (He.ga K "words_of")) := T.glo 16
theorem Top.g_word_at (T : Top K mg) : mg "word_at" = some (.ref (He.ga K "word_at")) := T.glo 17
theorem Top.g_number_at (T : Top K mg) : mg "number_at" = some (.ref (He.ga K "number_at")) := T.glo 18
theorem Top.g_name_at (T : Top K mg) : mg "name_at" = some (.ref (He.ga K "name_at")) := T.glo 19
theorem Top.g_so_many_at (T : Top K mg) : mg "so_many_at" = some (.ref (He.ga K "so_many_at")) := T.glo 20
theorem Top.g_write_end (T : Top K mg) : mg "write_end" = some (.ref (He.ga K "write_end")) := T.glo 21
theorem Top.g_write_telling (T : Top K mg) : mg "write_telling" = some (.ref (He.ga K "write_telling")) := T.glo 22
theorem Top.g_reach_words (T : Top K mg) : mg "reach_words" = some (.ref (He.ga K "reach_words")) := T.glo 23
theorem Top.g_plot_words (T : Top K mg) : mg "plot_words" = some (.ref (He.ga K "plot_words")) := T.glo 24
theorem Top.g_write_entry (T : Top K mg) : mg "write_entry" = some (.ref (He.ga K "write_entry")) := T.glo 25
theorem Top.g_reach_from (T : Top K mg) : mg "reach_from" = some (.ref (He.ga K "reach_from")) := T.glo 26
theorem Top.g_plot_from (T : Top K mg) : mg "plot_from" = some (.ref (He.ga K "plot_from")) := T.glo 27
theorem Top.g_read_entry (T : Top K mg) : mg "read_entry" = some (.ref (He.ga K "read_entry")) := T.glo 28
theorem Top.g_write_first (T : Top K mg) : mg "write_first" = some (.ref (He.ga K "write_first")) := T.glo 29
theorem Top.g_write_last (T : Top K mg) : mg "write_last" = some (.ref (He.ga K "write_last")) := T.glo 30
theorem Top.g_numbers_in (T : Top K mg) : mg "numbers_in" = some (.ref (He.ga K "numbers_in")) := T.glo 31
theorem Top.g_read_first (T : Top K mg) : mg "read_first" = some (.ref (He.ga K "read_first")) := T.glo 32
theorem Top.g_read_last (T : Top K mg) : mg "read_last" = some (.ref (He.ga K "read_last")) := T.glo 33
theorem Top.g_shape_named (T : Top K mg) : mg "shape_named" = some (.ref (He.ga K "shape_named")) := T.glo 34
theorem Top.g_check_telling (T : Top K mg) : mg "check_telling" = some (.ref (He.ga K "check_telling")) := T.glo 35
theorem Top.g_told_on (T : Top K mg) : mg "told_on" = some (.ref (He.ga K "told_on")) := T.glo 36
theorem Top.g_with_row (T : Top K mg) : mg "with_row" = some (.ref (He.ga K "with_row")) := T.glo 37
theorem Top.g_card_in (T : Top K mg) : mg "card_in" = some (.ref (He.ga K "card_in")) := T.glo 38
theorem Top.g_newest_card (T : Top K mg) : mg "newest_card" = some (.ref (He.ga K "newest_card")) := T.glo 39
theorem Top.g_law_draw (T : Top K mg) : mg "_law_draw" = some (.ref (He.ga K "_law_draw")) := T.glo 40
theorem Top.g_law_far (T : Top K mg) : mg "_law_far" = some (.ref (He.ga K "_law_far")) := T.glo 41
theorem Top.g_law_name (T : Top K mg) : mg "_law_name" = some (.ref (He.ga K "_law_name")) := T.glo 42
theorem Top.g_law_shapes (T : Top K mg) : mg "_law_shapes" = some (.ref (He.ga K "_law_shapes")) := T.glo 43
theorem Top.g_law_stretch (T : Top K mg) : mg "_law_stretch" = some (.ref (He.ga K "_law_stretch")) := T.glo 44
theorem Top.g_law_deed (T : Top K mg) : mg "_law_deed" = some (.ref (He.ga K "_law_deed")) := T.glo 45
theorem Top.g_law_done (T : Top K mg) : mg "_law_done" = some (.ref (He.ga K "_law_done")) := T.glo 46
theorem Top.g_law_kept (T : Top K mg) : mg "_law_kept" = some (.ref (He.ga K "_law_kept")) := T.glo 47
theorem Top.g_law_bent (T : Top K mg) : mg "_law_bent" = some (.ref (He.ga K "_law_bent")) := T.glo 48
theorem Top.g_law (T : Top K mg) : mg "law" = some (.ref (He.ga K "law")) := T.glo 49
theorem Top.g_Keeper (T : Top K mg) : mg "Keeper" = some (.ref (He.ga K "Keeper")) := T.glo 50
theorem Top.g_Shelf (T : Top K mg) : mg "Shelf" = some (.ref (He.ga K "Shelf")) := T.glo 51
theorem Top.g_NoText (T : Top K mg) : mg "NoText" = some (.ref (He.ga K "NoText")) := T.glo 52
theorem Top.g_NO_SPOTS (T : Top K mg) : mg "NO_SPOTS" = some (.ref (He.ga K "NO_SPOTS")) := T.glo 53
theorem Top.f_isinstance (T : Top K mg) : mg "isinstance" = none := T.free 54
theorem Top.f_tuple (T : Top K mg) : mg "tuple" = none := T.free 55
theorem Top.f_len (T : Top K mg) : mg "len" = none := T.free 56
theorem Top.f_bool (T : Top K mg) : mg "bool" = none := T.free 57
theorem Top.f_int (T : Top K mg) : mg "int" = none := T.free 58
theorem Top.f_set (T : Top K mg) : mg "set" = none := T.free 59
theorem Top.f_sorted (T : Top K mg) : mg "sorted" = none := T.free 60
theorem Top.f_list (T : Top K mg) : mg "list" = none := T.free 61
theorem Top.f_range (T : Top K mg) : mg "range" = none := T.free 62
theorem Top.f_min (T : Top K mg) : mg "min" = none := T.free 63
theorem Top.f_str (T : Top K mg) : mg "str" = none := T.free 64
theorem Top.f_max (T : Top K mg) : mg "max" = none := T.free 65
theorem Top.s_FIGURES (T : Top K mg) : ∃ t, mg "FIGURES" = some (.str "0123456789" t) := T.str 66
theorem Top.s_LETTERS (T : Top K mg) : ∃ t, mg "LETTERS" = some (.str "abcdefghijklmnopqrstuvwxyz" t) := T.str 67
theorem Top.c_Keeper (T : Top K mg) : Cls K (He.ga K "Keeper") := T.cls 68
theorem Top.k_Keeper (T : Top K mg) : Mk K (He.ga K "Keeper") (He.ma K (He.ga K "Keeper") "__init__") := T.mkr 69
theorem Top.a_on_shelf (T : Top K mg) : NoAttr K (He.ga K "Keeper") "on_shelf" := T.noat 70
theorem Top.a_forms (T : Top K mg) : NoAttr K (He.ga K "Keeper") "forms" := T.noat 71
theorem Top.a_known (T : Top K mg) : NoAttr K (He.ga K "Keeper") "known" := T.noat 72
theorem Top.a_card_at (T : Top K mg) : NoAttr K (He.ga K "Keeper") "card_at" := T.noat 73
theorem Top.a_turn_now (T : Top K mg) : NoAttr K (He.ga K "Keeper") "turn_now" := T.noat 74
theorem Top.a_known_from (T : Top K mg) : NoAttr K (He.ga K "Keeper") "known_from" := T.noat 75
theorem Top.c_Shelf (T : Top K mg) : Cls K (He.ga K "Shelf") := T.cls 76
theorem Top.k_Shelf (T : Top K mg) : Mk K (He.ga K "Shelf") (He.ma K (He.ga K "Shelf") "__init__") := T.mkr 77
theorem Top.a_began (T : Top K mg) : NoAttr K (He.ga K "Shelf") "began" := T.noat 78
theorem Top.a_lying (T : Top K mg) : NoAttr K (He.ga K "Shelf") "lying" := T.noat 79
theorem Top.a_done (T : Top K mg) : NoAttr K (He.ga K "Shelf") "done" := T.noat 80
theorem Top.m_keys_of (T : Top K mg) : Meth K (He.ga K "Keeper") "keys_of" (He.ma K (He.ga K "Keeper") "keys_of") := T.meth 81
theorem Top.m_take_in (T : Top K mg) : Meth K (He.ga K "Keeper") "take_in" (He.ma K (He.ga K "Keeper") "take_in") := T.meth 82
theorem Top.m_said (T : Top K mg) : Meth K (He.ga K "Keeper") "said" (He.ma K (He.ga K "Keeper") "said") := T.meth 83
theorem Top.m_tell (T : Top K mg) : Meth K (He.ga K "Keeper") "tell" (He.ma K (He.ga K "Keeper") "tell") := T.meth 84
theorem Top.m_strike (T : Top K mg) : Meth K (He.ga K "Keeper") "strike" (He.ma K (He.ga K "Keeper") "strike") := T.meth 85
theorem Top.m_card (T : Top K mg) : Meth K (He.ga K "Keeper") "card" (He.ma K (He.ga K "Keeper") "card") := T.meth 86
theorem Top.m_now (T : Top K mg) : Meth K (He.ga K "Keeper") "now" (He.ma K (He.ga K "Keeper") "now") := T.meth 87
theorem Top.m_since (T : Top K mg) : Meth K (He.ga K "Keeper") "since" (He.ma K (He.ga K "Keeper") "since") := T.meth 88
theorem Top.m_tables (T : Top K mg) : Meth K (He.ga K "Keeper") "tables" (He.ma K (He.ga K "Keeper") "tables") := T.meth 89
theorem Top.m_put (T : Top K mg) : Meth K (He.ga K "Shelf") "put" (He.ma K (He.ga K "Shelf") "put") := T.meth 90
theorem Top.m_clear (T : Top K mg) : Meth K (He.ga K "Shelf") "clear" (He.ma K (He.ga K "Shelf") "clear") := T.meth 91
theorem Top.m_rows (T : Top K mg) : Meth K (He.ga K "Shelf") "rows" (He.ma K (He.ga K "Shelf") "rows") := T.meth 92
theorem Top.m_strokes (T : Top K mg) : Meth K (He.ga K "Shelf") "strokes" (He.ma K (He.ga K "Shelf") "strokes") := T.meth 93
theorem Top.m_fallen (T : Top K mg) : Meth K (He.ga K "Shelf") "fallen" (He.ma K (He.ga K "Shelf") "fallen") := T.meth 94
theorem Top.exc_NoText (T : Top K mg) : PySem.W.excIn K (He.ga K "NoText") He.veBase "ValueError.__new__" = true ∧ PySem.W.keepIn K (.ref (He.ga K "NoText")) = true ∧ PySem.W.subIn K (.ref (He.ga K "NoText")) (.type "BaseException") = some true ∧ PySem.W.typeIn K (.ref (He.ga K "NoText")) = some (.type "type") := He.exc_ok (T.says.fact 95 (f := .exc "NoText") rfl)
theorem Top.exm_NoText (T : Top K mg) : PySem.W.exmOne K (.ref (He.ga K "NoText")) (.ref (He.ga K "NoText")) = some true := He.exm_ok (T.says.fact 96 (f := .exm "NoText" "NoText" true) rfl)
theorem Top.D_truth_by (T : Top K mg) : ∃ fd, FunD K "truth_by" "truth_by" (defArgs s_truth_by) (defBody s_truth_by) (defScope s_truth_by) [] [] (He.ga K "truth_by") fd := T.def_ 0 (d := d_truth_by)
theorem Top.D_is_reach (T : Top K mg) : ∃ fd, FunD K "is_reach" "is_reach" (defArgs s_is_reach) (defBody s_is_reach) (defScope s_is_reach) [] [] (He.ga K "is_reach") fd := T.def_ 1 (d := d_is_reach)
theorem Top.D_stretch_of (T : Top K mg) : ∃ fd, FunD K "stretch_of" "stretch_of" (defArgs s_stretch_of) (defBody s_stretch_of) (defScope s_stretch_of) [] [] (He.ga K "stretch_of") fd := T.def_ 2 (d := d_stretch_of)
theorem Top.D_edges_marked (T : Top K mg) : ∃ fd, FunD K "edges_marked" "edges_marked" (defArgs s_edges_marked) (defBody s_edges_marked) (defScope s_edges_marked) [] [] (He.ga K "edges_marked") fd := T.def_ 3 (d := d_edges_marked)
theorem Top.D_blend (T : Top K mg) : ∃ fd, FunD K "blend" "blend" (defArgs s_blend) (defBody s_blend) (defScope s_blend) [] [] (He.ga K "blend") fd := T.def_ 4 (d := d_blend)
theorem Top.D_reach_at (T : Top K mg) : ∃ fd, FunD K "reach_at" "reach_at" (defArgs s_reach_at) (defBody s_reach_at) (defScope s_reach_at) [] [] (He.ga K "reach_at") fd := T.def_ 5 (d := d_reach_at)
theorem Top.D_plot_of (T : Top K mg) : ∃ fd, FunD K "plot_of" "plot_of" (defArgs s_plot_of) (defBody s_plot_of) (defScope s_plot_of) [] [] (He.ga K "plot_of") fd := T.def_ 6 (d := d_plot_of)
theorem Top.D_is_turn (T : Top K mg) : ∃ fd, FunD K "is_turn" "is_turn" (defArgs s_is_turn) (defBody s_is_turn) (defScope s_is_turn) [] [] (He.ga K "is_turn") fd := T.def_ 7 (d := d_is_turn)
theorem Top.D_is_step (T : Top K mg) : ∃ fd, FunD K "is_step" "is_step" (defArgs s_is_step) (defBody s_is_step) (defScope s_is_step) [] [] (He.ga K "is_step") fd := T.def_ 8 (d := d_is_step)
theorem Top.D_is_plot (T : Top K mg) : ∃ fd, FunD K "is_plot" "is_plot" (defArgs s_is_plot) (defBody s_is_plot) (defScope s_is_plot) [] [] (He.ga K "is_plot") fd := T.def_ 9 (d := d_is_plot)
theorem Top.D_from_plot (T : Top K mg) : ∃ fd, FunD K "from_plot" "from_plot" (defArgs s_from_plot) (defBody s_from_plot) (defScope s_from_plot) [] [] (He.ga K "from_plot") fd := T.def_ 10 (d := d_from_plot)
theorem Top.D_lift (T : Top K mg) : ∃ fd, FunD K "lift" "lift" (defArgs s_lift) (defBody s_lift) (defScope s_lift) [] [] (He.ga K "lift") fd := T.def_ 11 (d := d_lift)
theorem Top.D_table_of (T : Top K mg) : ∃ fd, FunD K "table_of" "table_of" (defArgs s_table_of) (defBody s_table_of) (defScope s_table_of) [] [] (He.ga K "table_of") fd := T.def_ 12 (d := d_table_of)
theorem Top.D_lift_table (T : Top K mg) : ∃ fd, FunD K "lift_table" "lift_table" (defArgs s_lift_table) (defBody s_lift_table) (defScope s_lift_table) [] [] (He.ga K "lift_table") fd := T.def_ 13 (d := d_lift_table)
theorem Top.D_write_number (T : Top K mg) : ∃ fd, FunD K "write_number" "write_number" (defArgs s_write_number) (defBody s_write_number) (defScope s_write_number) [] [] (He.ga K "write_number") fd := T.def_ 14 (d := d_write_number)
theorem Top.D_read_number (T : Top K mg) : ∃ fd, FunD K "read_number" "read_number" (defArgs s_read_number) (defBody s_read_number) (defScope s_read_number) [] [] (He.ga K "read_number") fd := T.def_ 15 (d := d_read_number)
theorem Top.D_words_of (T : Top K mg) : ∃ fd, FunD K "words_of" "words_of" (defArgs s_words_of) (defBody s_words_of) (defScope s_words_of) [] [] (He.ga K "words_of") fd := T.def_ 16 (d := d_words_of)
theorem Top.D_word_at (T : Top K mg) : ∃ fd, FunD K "word_at" "word_at" (defArgs s_word_at) (defBody s_word_at) (defScope s_word_at) [] [] (He.ga K "word_at") fd := T.def_ 17 (d := d_word_at)
theorem Top.D_number_at (T : Top K mg) : ∃ fd, FunD K "number_at" "number_at" (defArgs s_number_at) (defBody s_number_at) (defScope s_number_at) [] [] (He.ga K "number_at") fd := T.def_ 18 (d := d_number_at)
theorem Top.D_name_at (T : Top K mg) : ∃ fd, FunD K "name_at" "name_at" (defArgs s_name_at) (defBody s_name_at) (defScope s_name_at) [] [] (He.ga K "name_at") fd := T.def_ 19 (d := d_name_at)
theorem Top.D_so_many_at (T : Top K mg) : ∃ fd, FunD K "so_many_at" "so_many_at" (defArgs s_so_many_at) (defBody s_so_many_at) (defScope s_so_many_at) [] [] (He.ga K "so_many_at") fd := T.def_ 20 (d := d_so_many_at)
theorem Top.D_write_end (T : Top K mg) : ∃ fd, FunD K "write_end" "write_end" (defArgs s_write_end) (defBody s_write_end) (defScope s_write_end) [] [] (He.ga K "write_end") fd := T.def_ 21 (d := d_write_end)
theorem Top.D_write_telling (T : Top K mg) : ∃ fd, FunD K "write_telling" "write_telling" (defArgs s_write_telling) (defBody s_write_telling) (defScope s_write_telling) [] [] (He.ga K "write_telling") fd := T.def_ 22 (d := d_write_telling)
theorem Top.D_reach_words (T : Top K mg) : ∃ fd, FunD K "reach_words" "reach_words" (defArgs s_reach_words) (defBody s_reach_words) (defScope s_reach_words) [] [] (He.ga K "reach_words") fd := T.def_ 23 (d := d_reach_words)
theorem Top.D_plot_words (T : Top K mg) : ∃ fd, FunD K "plot_words" "plot_words" (defArgs s_plot_words) (defBody s_plot_words) (defScope s_plot_words) [] [] (He.ga K "plot_words") fd := T.def_ 24 (d := d_plot_words)
theorem Top.D_write_entry (T : Top K mg) : ∃ fd, FunD K "write_entry" "write_entry" (defArgs s_write_entry) (defBody s_write_entry) (defScope s_write_entry) [] [] (He.ga K "write_entry") fd := T.def_ 25 (d := d_write_entry)
theorem Top.D_reach_from (T : Top K mg) : ∃ fd, FunD K "reach_from" "reach_from" (defArgs s_reach_from) (defBody s_reach_from) (defScope s_reach_from) [] [] (He.ga K "reach_from") fd := T.def_ 26 (d := d_reach_from)
theorem Top.D_plot_from (T : Top K mg) : ∃ fd, FunD K "plot_from" "plot_from" (defArgs s_plot_from) (defBody s_plot_from) (defScope s_plot_from) [] [] (He.ga K "plot_from") fd := T.def_ 27 (d := d_plot_from)
theorem Top.D_read_entry (T : Top K mg) : ∃ fd, FunD K "read_entry" "read_entry" (defArgs s_read_entry) (defBody s_read_entry) (defScope s_read_entry) [] [] (He.ga K "read_entry") fd := T.def_ 28 (d := d_read_entry)
theorem Top.D_write_first (T : Top K mg) : ∃ fd, FunD K "write_first" "write_first" (defArgs s_write_first) (defBody s_write_first) (defScope s_write_first) [] [] (He.ga K "write_first") fd := T.def_ 29 (d := d_write_first)
theorem Top.D_write_last (T : Top K mg) : ∃ fd, FunD K "write_last" "write_last" (defArgs s_write_last) (defBody s_write_last) (defScope s_write_last) [] [] (He.ga K "write_last") fd := T.def_ 30 (d := d_write_last)
theorem Top.D_numbers_in (T : Top K mg) : ∃ fd, FunD K "numbers_in" "numbers_in" (defArgs s_numbers_in) (defBody s_numbers_in) (defScope s_numbers_in) [] [] (He.ga K "numbers_in") fd := T.def_ 31 (d := d_numbers_in)
theorem Top.D_read_first (T : Top K mg) : ∃ fd, FunD K "read_first" "read_first" (defArgs s_read_first) (defBody s_read_first) (defScope s_read_first) [] [] (He.ga K "read_first") fd := T.def_ 32 (d := d_read_first)
theorem Top.D_read_last (T : Top K mg) : ∃ fd, FunD K "read_last" "read_last" (defArgs s_read_last) (defBody s_read_last) (defScope s_read_last) [] [] (He.ga K "read_last") fd := T.def_ 33 (d := d_read_last)
theorem Top.D_shape_named (T : Top K mg) : ∃ fd, FunD K "shape_named" "shape_named" (defArgs s_shape_named) (defBody s_shape_named) (defScope s_shape_named) [] [] (He.ga K "shape_named") fd := T.def_ 34 (d := d_shape_named)
theorem Top.D_check_telling (T : Top K mg) : ∃ fd, FunD K "check_telling" "check_telling" (defArgs s_check_telling) (defBody s_check_telling) (defScope s_check_telling) [] [] (He.ga K "check_telling") fd := T.def_ 35 (d := d_check_telling)
theorem Top.D_told_on (T : Top K mg) : ∃ fd, FunD K "told_on" "told_on" (defArgs s_told_on) (defBody s_told_on) (defScope s_told_on) [] [] (He.ga K "told_on") fd := T.def_ 36 (d := d_told_on)
theorem Top.D_with_row (T : Top K mg) : ∃ fd, FunD K "with_row" "with_row" (defArgs s_with_row) (defBody s_with_row) (defScope s_with_row) [] [] (He.ga K "with_row") fd := T.def_ 37 (d := d_with_row)
theorem Top.D_card_in (T : Top K mg) : ∃ fd, FunD K "card_in" "card_in" (defArgs s_card_in) (defBody s_card_in) (defScope s_card_in) [] [] (He.ga K "card_in") fd := T.def_ 38 (d := d_card_in)
theorem Top.D_newest_card (T : Top K mg) : ∃ fd, FunD K "newest_card" "newest_card" (defArgs s_newest_card) (defBody s_newest_card) (defScope s_newest_card) [] [] (He.ga K "newest_card") fd := T.def_ 39 (d := d_newest_card)
theorem Top.D_Keeper_init (T : Top K mg) : ∃ fd, FunD K "__init__" "Keeper.__init__" (defArgs s_Keeper_init) (defBody s_Keeper_init) (defScope s_Keeper_init) [] [] (He.ma K (He.ga K "Keeper") "__init__") fd := T.def_ 40 (d := d_Keeper_init)
theorem Top.D_Keeper_keys_of (T : Top K mg) : ∃ fd, FunD K "keys_of" "Keeper.keys_of" (defArgs s_Keeper_keys_of) (defBody s_Keeper_keys_of) (defScope s_Keeper_keys_of) [] [] (He.ma K (He.ga K "Keeper") "keys_of") fd := T.def_ 41 (d := d_Keeper_keys_of)
theorem Top.D_Keeper_take_in (T : Top K mg) : ∃ fd, FunD K "take_in" "Keeper.take_in" (defArgs s_Keeper_take_in) (defBody s_Keeper_take_in) (defScope s_Keeper_take_in) [] [] (He.ma K (He.ga K "Keeper") "take_in") fd := T.def_ 42 (d := d_Keeper_take_in)
theorem Top.D_Keeper_said (T : Top K mg) : ∃ fd, FunD K "said" "Keeper.said" (defArgs s_Keeper_said) (defBody s_Keeper_said) (defScope s_Keeper_said) [] [] (He.ma K (He.ga K "Keeper") "said") fd := T.def_ 43 (d := d_Keeper_said)
theorem Top.D_Keeper_tell (T : Top K mg) : ∃ fd, FunD K "tell" "Keeper.tell" (defArgs s_Keeper_tell) (defBody s_Keeper_tell) (defScope s_Keeper_tell) [] [] (He.ma K (He.ga K "Keeper") "tell") fd := T.def_ 44 (d := d_Keeper_tell)
theorem Top.D_Keeper_strike (T : Top K mg) : ∃ fd, FunD K "strike" "Keeper.strike" (defArgs s_Keeper_strike) (defBody s_Keeper_strike) (defScope s_Keeper_strike) [] [] (He.ma K (He.ga K "Keeper") "strike") fd := T.def_ 45 (d := d_Keeper_strike)
theorem Top.D_Keeper_card (T : Top K mg) : ∃ fd, FunD K "card" "Keeper.card" (defArgs s_Keeper_card) (defBody s_Keeper_card) (defScope s_Keeper_card) [] [] (He.ma K (He.ga K "Keeper") "card") fd := T.def_ 46 (d := d_Keeper_card)
theorem Top.D_Keeper_now (T : Top K mg) : ∃ fd, FunD K "now" "Keeper.now" (defArgs s_Keeper_now) (defBody s_Keeper_now) (defScope s_Keeper_now) [] [] (He.ma K (He.ga K "Keeper") "now") fd := T.def_ 47 (d := d_Keeper_now)
theorem Top.D_Keeper_since (T : Top K mg) : ∃ fd, FunD K "since" "Keeper.since" (defArgs s_Keeper_since) (defBody s_Keeper_since) (defScope s_Keeper_since) [] [] (He.ma K (He.ga K "Keeper") "since") fd := T.def_ 48 (d := d_Keeper_since)
theorem Top.D_Keeper_tables (T : Top K mg) : ∃ fd, FunD K "tables" "Keeper.tables" (defArgs s_Keeper_tables) (defBody s_Keeper_tables) (defScope s_Keeper_tables) [] [] (He.ma K (He.ga K "Keeper") "tables") fd := T.def_ 49 (d := d_Keeper_tables)
theorem Top.D_Shelf_init (T : Top K mg) : ∃ fd, FunD K "__init__" "Shelf.__init__" (defArgs s_Shelf_init) (defBody s_Shelf_init) (defScope s_Shelf_init) [] [] (He.ma K (He.ga K "Shelf") "__init__") fd := T.def_ 50 (d := d_Shelf_init)
theorem Top.D_Shelf_put (T : Top K mg) : ∃ fd, FunD K "put" "Shelf.put" (defArgs s_Shelf_put) (defBody s_Shelf_put) (defScope s_Shelf_put) [] [] (He.ma K (He.ga K "Shelf") "put") fd := T.def_ 51 (d := d_Shelf_put)
theorem Top.D_Shelf_clear (T : Top K mg) : ∃ fd, FunD K "clear" "Shelf.clear" (defArgs s_Shelf_clear) (defBody s_Shelf_clear) (defScope s_Shelf_clear) [] [] (He.ma K (He.ga K "Shelf") "clear") fd := T.def_ 52 (d := d_Shelf_clear)
theorem Top.D_Shelf_rows (T : Top K mg) : ∃ fd, FunD K "rows" "Shelf.rows" (defArgs s_Shelf_rows) (defBody s_Shelf_rows) (defScope s_Shelf_rows) [] [] (He.ma K (He.ga K "Shelf") "rows") fd := T.def_ 53 (d := d_Shelf_rows)
theorem Top.D_Shelf_strokes (T : Top K mg) : ∃ fd, FunD K "strokes" "Shelf.strokes" (defArgs s_Shelf_strokes) (defBody s_Shelf_strokes) (defScope s_Shelf_strokes) [] [] (He.ma K (He.ga K "Shelf") "strokes") fd := T.def_ 54 (d := d_Shelf_strokes)
theorem Top.D_Shelf_fallen (T : Top K mg) : ∃ fd, FunD K "fallen" "Shelf.fallen" (defArgs s_Shelf_fallen) (defBody s_Shelf_fallen) (defScope s_Shelf_fallen) [] [] (He.ma K (He.ga K "Shelf") "fallen") fd := T.def_ 55 (d := d_Shelf_fallen)
theorem Top.D_law_draw (T : Top K mg) : ∃ fd, FunD K "_law_draw" "_law_draw" (defArgs s_law_draw) (defBody s_law_draw) (defScope s_law_draw) [] [] (He.ga K "_law_draw") fd := T.def_ 56 (d := d_law_draw)
theorem Top.D_law_far (T : Top K mg) : ∃ fd, FunD K "_law_far" "_law_far" (defArgs s_law_far) (defBody s_law_far) (defScope s_law_far) [] [] (He.ga K "_law_far") fd := T.def_ 57 (d := d_law_far)
theorem Top.D_law_name (T : Top K mg) : ∃ fd, FunD K "_law_name" "_law_name" (defArgs s_law_name) (defBody s_law_name) (defScope s_law_name) [] [] (He.ga K "_law_name") fd := T.def_ 58 (d := d_law_name)
theorem Top.D_law_shapes (T : Top K mg) : ∃ fd, FunD K "_law_shapes" "_law_shapes" (defArgs s_law_shapes) (defBody s_law_shapes) (defScope s_law_shapes) [] [] (He.ga K "_law_shapes") fd := T.def_ 59 (d := d_law_shapes)
theorem Top.D_law_stretch (T : Top K mg) : ∃ fd, FunD K "_law_stretch" "_law_stretch" (defArgs s_law_stretch) (defBody s_law_stretch) (defScope s_law_stretch) [] [] (He.ga K "_law_stretch") fd := T.def_ 60 (d := d_law_stretch)
theorem Top.D_law_deed (T : Top K mg) : ∃ fd, FunD K "_law_deed" "_law_deed" (defArgs s_law_deed) (defBody s_law_deed) (defScope s_law_deed) [] [] (He.ga K "_law_deed") fd := T.def_ 61 (d := d_law_deed)
theorem Top.D_law_done (T : Top K mg) : ∃ fd, FunD K "_law_done" "_law_done" (defArgs s_law_done) (defBody s_law_done) (defScope s_law_done) [] [] (He.ga K "_law_done") fd := T.def_ 62 (d := d_law_done)
theorem Top.D_law_kept (T : Top K mg) : ∃ fd, FunD K "_law_kept" "_law_kept" (defArgs s_law_kept) (defBody s_law_kept) (defScope s_law_kept) [] [] (He.ga K "_law_kept") fd := T.def_ 63 (d := d_law_kept)
theorem Top.D_law_bent (T : Top K mg) : ∃ fd, FunD K "_law_bent" "_law_bent" (defArgs s_law_bent) (defBody s_law_bent) (defScope s_law_bent) [] [] (He.ga K "_law_bent") fd := T.def_ 64 (d := d_law_bent)
theorem Top.D_law (T : Top K mg) : ∃ fd, FunD K "law" "law" (defArgs s_law) (defBody s_law) (defScope s_law) [] [] (He.ga K "law") fd := T.def_ 65 (d := d_law)
end
end HW
set_option Elab.async false
set_option linter.all false
set_option maxRecDepth 100000
set_option maxHeartbeats 4000000
/-! Loops and comprehensions, folded until their word is given. -/
namespace HW
open PySem PySem.Spec PyProof.Rows L2
/-- a loop over the items of J -/
def Lp (J : It) (g : TG) (tb : TS) (D : Ends) (σ : L2.St) (H1 : Hp) : Prop := ∃ W : Nat → Nat → L2.St → Hp → Prop, (∃ m, W 0 m σ H1) ∧ ∀ i m σ H, W i m σ H →
  (J.stop i H ∧ D.nx σ H) ∨ (J.go i H ∧ ∃ N : L2.St → Hp → Prop, (∀ σ' H', N σ' H' → ∃ m', m' < m ∧ W (i + 1) m' σ' H') ∧ ∀ x H', J.yld i H x H' → g x σ H' fun σ2 H2 => tb { D with nx := N, ct := N, bk := D.nx } σ2 H2)
theorem for_L {K : PySem.W.Frag} {te : TE} {g : TG} {tb : TS} {D : Ends} {σ : L2.St} {H : Hp} : tFor (iList K te) g tb D σ H = te σ H fun x H1 => ∃ a, x = .ref a ∧ (∃ xs, SqL K H1 a xs) ∧ Lp (Itl K a) g tb D σ H1 := rfl
theorem for_T {K : PySem.W.Frag} {te : TE} {g : TG} {tb : TS} {D : Ends} {σ : L2.St} {H : Hp} : tFor (iTup K te) g tb D σ H = te σ H fun x H1 => ∃ a, x = .ref a ∧ (∃ xs, SqT K H1 a xs) ∧ Lp (Itt K a) g tb D σ H1 := rfl
theorem for_R {ta : TA} {g : TG} {tb : TS} {D : Ends} {σ : L2.St} {H : Hp} : tFor (iRng1 ta) g tb D σ H = ta σ H fun vs H1 => ∃ j : Int, vs = [.int j] ∧ -(2 ^ 62) ≤ j ∧ j < 2 ^ 62 ∧ Lp (Itr 0 j.toNat) g tb D σ H1 := rfl
theorem for_S {te : TE} {g : TG} {tb : TS} {D : Ends} {σ : L2.St} {H : Hp} : tFor (iStr te) g tb D σ H = te σ H fun v H1 => ∃ x, v = .str x ∧ Lp (Its x) g tb D σ H1 := rfl
/-- its word, by what is gone through and what is left -/
theorem lp_list {K : PySem.W.Frag} {a : Addr} {xs : List V} {g : TG} {tb : TS} {D : Ends} {σ : L2.St} {H : Hp} {α : Type} {F : V → α → Prop} {as : List α} (hp : Paired F xs as) (Pv : List α → List α → L2.St → Hp → Prop) (h0 : Pv [] as σ H) (hl : ∀ d r σ H, Pv d r σ H → SqL K H a xs)
    (hs : ∀ d x y r σ H, as = d ++ y :: r → F x y → Pv d (y :: r) σ H → g x σ H fun σ2 H2 => tb { D with nx := Pv (d ++ [y]) r, ct := Pv (d ++ [y]) r, bk := D.nx } σ2 H2) (hd : ∀ σ H, Pv as [] σ H → D.nx σ H) : Lp (Itl K a) g tb D σ H := by
  refine for_list (K := K) (a := a) (xs := xs) (fun i σ H => Pv (as.take i) (as.drop i) σ H) (by simpa using h0) (fun i σ H _ p => hl _ _ _ _ p) (fun i x σ H hx p => ?_) fun σ H p => hd σ H ?_
  · obtain ⟨y, hy, f⟩ := paired_get hp hx
    have hi := (List.getElem?_eq_some_iff.mp hy).1
    have e1 : as.drop i = y :: as.drop (i + 1) := by rw [List.drop_eq_getElem_cons hi, (List.getElem?_eq_some_iff.mp hy).2]
    have e2 : as.take (i + 1) = as.take i ++ [y] := by rw [List.take_add_one, hy]; rfl
    have p2 : Pv (as.take i) (as.drop i) σ H := p
    rw [e1] at p2
    have z := hs _ x y _ σ H (by rw [← e1, List.take_append_drop]) f p2
    simp only [e2]
    exact z
  · have hl := hp.length
    simpa [hl] using p
theorem lp_tup {K : PySem.W.Frag} {a : Addr} {xs : List V} {g : TG} {tb : TS} {D : Ends} {σ : L2.St} {H : Hp} {α : Type} {F : V → α → Prop} {as : List α} (hp : Paired F xs as) (Pv : List α → List α → L2.St → Hp → Prop) (h0 : Pv [] as σ H) (hl : ∀ d r σ H, Pv d r σ H → SqT K H a xs)
    (hs : ∀ d x y r σ H, as = d ++ y :: r → F x y → Pv d (y :: r) σ H → g x σ H fun σ2 H2 => tb { D with nx := Pv (d ++ [y]) r, ct := Pv (d ++ [y]) r, bk := D.nx } σ2 H2) (hd : ∀ σ H, Pv as [] σ H → D.nx σ H) : Lp (Itt K a) g tb D σ H := by
  refine for_tup (K := K) (a := a) (xs := xs) (fun i σ H => Pv (as.take i) (as.drop i) σ H) (by simpa using h0) (fun i σ H _ p => hl _ _ _ _ p) (fun i x σ H hx p => ?_) fun σ H p => hd σ H ?_
  · obtain ⟨y, hy, f⟩ := paired_get hp hx
    have hi := (List.getElem?_eq_some_iff.mp hy).1
    have e1 : as.drop i = y :: as.drop (i + 1) := by rw [List.drop_eq_getElem_cons hi, (List.getElem?_eq_some_iff.mp hy).2]
    have e2 : as.take (i + 1) = as.take i ++ [y] := by rw [List.take_add_one, hy]; rfl
    have p2 : Pv (as.take i) (as.drop i) σ H := p
    rw [e1] at p2
    have z := hs _ x y _ σ H (by rw [← e1, List.take_append_drop]) f p2
    simp only [e2]
    exact z
  · have hl := hp.length
    simpa [hl] using p
theorem lp_rng {n : Nat} {j : Int} {g : TG} {tb : TS} {D : Ends} {σ : L2.St} {H : Hp} (hj : j = (n : Int)) (Pv : Nat → L2.St → Hp → Prop) (h0 : Pv 0 σ H)
    (hs : ∀ (i : Nat) σ H, i < n → Pv i σ H → g (.int (i : Int)) σ H fun σ2 H2 => tb { D with nx := Pv (i + 1), ct := Pv (i + 1), bk := D.nx } σ2 H2) (hd : ∀ σ H, Pv n σ H → D.nx σ H) : Lp (Itr 0 j.toNat) g tb D σ H := by
  subst hj
  rw [Int.toNat_natCast]
  refine for_range (lo := 0) (n := n) Pv h0 (fun i σ H hi p => ?_) hd
  have z := hs i σ H hi p
  simpa using z
/-- a text, sign by sign -/
theorem lp_str {x : Str} {g : TG} {tb : TS} {D : Ends} {σ : L2.St} {H : Hp} (Pv : L2.St → Hp → Prop) (h0 : Pv σ H)
    (hs : ∀ (c : Nat) σ H, c ∈ x.cps.toList → Pv σ H → g (.str ⟨#[c]⟩) σ H fun σ2 H2 => tb { D with nx := Pv, ct := Pv, bk := D.nx } σ2 H2) (hd : ∀ σ H, Pv σ H → D.nx σ H) : Lp (Its x) g tb D σ H := by
  refine ⟨fun i m σ H => m = x.cps.size - i ∧ i ≤ x.cps.size ∧ Pv σ H, ⟨x.cps.size, by simp, Nat.zero_le _, h0⟩, ?_⟩
  rintro i m σ H ⟨rfl, hi, p⟩
  by_cases hlt : i < x.cps.size
  · refine .inr ⟨hlt, Pv, fun σ' H' p' => ⟨x.cps.size - (i + 1), by omega, rfl, hlt, p'⟩, fun v H' y => ?_⟩
    obtain ⟨e, c, hc, rfl⟩ := y
    subst e
    refine hs c σ _ ?_ p
    have h2 := Array.getElem?_eq_some_iff.mp hc
    rw [← h2.2]
    exact Array.mem_toList_iff.mpr (Array.getElem_mem h2.1)
  · exact .inl ⟨by show x.cps.size ≤ i; omega, hd σ H p⟩
/-- a comprehension over the items of J, D its list -/
def Lc (J : It) (g : TG) (tt : TT) (te : TE) (vs : List Nat) (σ : L2.St) (D : Addr) (Q : VK) (H1 : Hp) : Prop := ∃ W : Nat → Nat → Hp → Prop, (∃ m, W 0 m (upd H1 D (.lst []))) ∧ ∀ i m H, W i m H →
  (J.stop i H ∧ Q (.ref D) H) ∨ (J.go i H ∧ ∃ Nx : Hp → Prop, (∀ H', Nx H' → ∃ m', m' < m ∧ W (i + 1) m' H') ∧ ∀ x H', J.yld i H x H' → g x (wipe σ vs) H' fun σ2 H2 => wipe σ2 vs = wipe σ vs ∧ tt σ2 H2 fun b H3 =>
    if b = true then te σ2 H3 fun y H4 => ∃ acc, H4 D = some (.lst acc) ∧ acc.length < sizeLine ∧ Nx (upd H4 D (.lst (acc ++ [y]))) else Nx H3)
theorem lc_L {K : PySem.W.Frag} {tl : TE} {g : TG} {tt : TT} {te : TE} {vs : List Nat} {σ : L2.St} {H : Hp} {Q : VK} : tLc (iList K tl) g tt te vs σ H Q = tl σ H fun x H1 => ∃ a, x = .ref a ∧ (∃ xs, SqL K H1 a xs) ∧ ∀ D, H1 D = none → Lc (Itl K a) g tt te vs σ D Q H1 := rfl
theorem lc_T {K : PySem.W.Frag} {tl : TE} {g : TG} {tt : TT} {te : TE} {vs : List Nat} {σ : L2.St} {H : Hp} {Q : VK} : tLc (iTup K tl) g tt te vs σ H Q = tl σ H fun x H1 => ∃ a, x = .ref a ∧ (∃ xs, SqT K H1 a xs) ∧ ∀ D, H1 D = none → Lc (Itt K a) g tt te vs σ D Q H1 := rfl
theorem lc_R {ta : TA} {g : TG} {tt : TT} {te : TE} {vs : List Nat} {σ : L2.St} {H : Hp} {Q : VK} : tLc (iRng1 ta) g tt te vs σ H Q = ta σ H fun xs H1 => ∃ j : Int, xs = [.int j] ∧ -(2 ^ 62) ≤ j ∧ j < 2 ^ 62 ∧ ∀ D, H1 D = none → Lc (Itr 0 j.toNat) g tt te vs σ D Q H1 := rfl
/-! its word: what is gone through and left, the list so far -/
theorem lcw_list {K : PySem.W.Frag} {a : Addr} {xs : List V} {g : TG} {tt : TT} {te : TE} {vs : List Nat} {σ : L2.St} {D : Addr} {Q : VK} {H : Hp} {α : Type} {F : V → α → Prop} {as : List α} (hp : Paired F xs as) (Pv : List α → List α → List V → Hp → Prop)
    (h0 : Pv [] as [] (upd H D (.lst []))) (hl : ∀ d r acc H, Pv d r acc H → SqL K H a xs)
    (hs : ∀ d x y r acc H, as = d ++ y :: r → F x y → Pv d (y :: r) acc H → g x (wipe σ vs) H fun σ2 H2 => wipe σ2 vs = wipe σ vs ∧ tt σ2 H2 fun b H3 =>
      if b = true then te σ2 H3 fun z H4 => ∃ acc, H4 D = some (.lst acc) ∧ acc.length < sizeLine ∧ ∃ acc2, Pv (d ++ [y]) r acc2 (upd H4 D (.lst (acc ++ [z]))) else ∃ acc2, Pv (d ++ [y]) r acc2 H3)
    (hd : ∀ acc H, Pv as [] acc H → Q (.ref D) H) : Lc (Itl K a) g tt te vs σ D Q H := by
  refine lc_list (K := K) (a := a) (xs := xs) (fun i H => ∃ acc, Pv (as.take i) (as.drop i) acc H) ⟨[], by simpa using h0⟩ (fun i H _ ⟨acc, p⟩ => hl _ _ _ _ p) (fun i x H hx ⟨acc, p⟩ => ?_) fun H ⟨acc, p⟩ => hd acc H ?_
  · obtain ⟨y, hy, f⟩ := paired_get hp hx
    have hi := (List.getElem?_eq_some_iff.mp hy).1
    have e1 : as.drop i = y :: as.drop (i + 1) := by rw [List.drop_eq_getElem_cons hi, (List.getElem?_eq_some_iff.mp hy).2]
    have e2 : as.take (i + 1) = as.take i ++ [y] := by rw [List.take_add_one, hy]; rfl
    rw [e1] at p
    have z := hs _ x y _ acc H (by rw [← e1, List.take_append_drop]) f p
    simp only [e2]
    exact z
  · have hl := hp.length
    simpa [hl] using p
theorem lcw_tup {K : PySem.W.Frag} {a : Addr} {xs : List V} {g : TG} {tt : TT} {te : TE} {vs : List Nat} {σ : L2.St} {D : Addr} {Q : VK} {H : Hp} {α : Type} {F : V → α → Prop} {as : List α} (hp : Paired F xs as) (Pv : List α → List α → List V → Hp → Prop)
    (h0 : Pv [] as [] (upd H D (.lst []))) (hl : ∀ d r acc H, Pv d r acc H → SqT K H a xs)
    (hs : ∀ d x y r acc H, as = d ++ y :: r → F x y → Pv d (y :: r) acc H → g x (wipe σ vs) H fun σ2 H2 => wipe σ2 vs = wipe σ vs ∧ tt σ2 H2 fun b H3 =>
      if b = true then te σ2 H3 fun z H4 => ∃ acc, H4 D = some (.lst acc) ∧ acc.length < sizeLine ∧ ∃ acc2, Pv (d ++ [y]) r acc2 (upd H4 D (.lst (acc ++ [z]))) else ∃ acc2, Pv (d ++ [y]) r acc2 H3)
    (hd : ∀ acc H, Pv as [] acc H → Q (.ref D) H) : Lc (Itt K a) g tt te vs σ D Q H := by
  refine lc_tup (K := K) (a := a) (xs := xs) (fun i H => ∃ acc, Pv (as.take i) (as.drop i) acc H) ⟨[], by simpa using h0⟩ (fun i H _ ⟨acc, p⟩ => hl _ _ _ _ p) (fun i x H hx ⟨acc, p⟩ => ?_) fun H ⟨acc, p⟩ => hd acc H ?_
  · obtain ⟨y, hy, f⟩ := paired_get hp hx
    have hi := (List.getElem?_eq_some_iff.mp hy).1
    have e1 : as.drop i = y :: as.drop (i + 1) := by rw [List.drop_eq_getElem_cons hi, (List.getElem?_eq_some_iff.mp hy).2]
    have e2 : as.take (i + 1) = as.take i ++ [y] := by rw [List.take_add_one, hy]; rfl
    rw [e1] at p
    have z := hs _ x y _ acc H (by rw [← e1, List.take_append_drop]) f p
    simp only [e2]
    exact z
  · have hl := hp.length
    simpa [hl] using p
theorem lcw_rng {n : Nat} {j : Int} {g : TG} {tt : TT} {te : TE} {vs : List Nat} {σ : L2.St} {D : Addr} {Q : VK} {H : Hp} (hj : j = (n : Int)) (Pv : Nat → List V → Hp → Prop)
    (h0 : Pv 0 [] (upd H D (.lst [])))
    (hs : ∀ (i : Nat) acc H, i < n → Pv i acc H → g (.int (i : Int)) (wipe σ vs) H fun σ2 H2 => wipe σ2 vs = wipe σ vs ∧ tt σ2 H2 fun b H3 =>
      if b = true then te σ2 H3 fun z H4 => ∃ acc, H4 D = some (.lst acc) ∧ acc.length < sizeLine ∧ ∃ acc2, Pv (i + 1) acc2 (upd H4 D (.lst (acc ++ [z]))) else ∃ acc2, Pv (i + 1) acc2 H3)
    (hd : ∀ acc H, Pv n acc H → Q (.ref D) H) : Lc (Itr 0 j.toNat) g tt te vs σ D Q H := by
  subst hj
  rw [Int.toNat_natCast]
  refine lc_range (lo := 0) (n := n) (fun i H => ∃ acc, Pv i acc H) ⟨[], h0⟩ (fun i H hi ⟨acc, p⟩ => ?_) fun H ⟨acc, p⟩ => hd acc H p
  have z := hs i acc H hi p
  simpa using z
/-! isinstance, len, append .. by values -/
theorem tyx_tup {K : PySem.W.Frag} {H : Hp} {a : Addr} {xs : List V} (h : SqT K H a xs) : TyX K H (.ref a) (.type "tuple") := by
  rcases h with (h | ⟨o, h⟩) | ⟨o, its, n, h1, h2, _⟩
  · exact .base (.tup h)
  · exact .fTuple h
  · exact .kTuple h1 h2
theorem isi {K : PySem.W.Frag} {H : Hp} {x : V} {t c : String} {b : Bool} {Q : VK} (ty : TyX K H x (.type t)) (e : kitB t c = some b) (q : Q (.bl b) H) : rIsi K [x, .ty c] H Q := ⟨x, .ty c, _, _, b, rfl, .ty c, ty, kit_ty e, q⟩
theorem tyL {K : PySem.W.Frag} {H : Hp} {l : Addr} {xs : List V} (h : H l = some (.lst xs)) : tyV K "list" (.ref l) H := .inl ⟨rfl, _, SqL.of h⟩
theorem app1 {H : Hp} {l : Addr} {xs : List V} {y : V} {Q : VK} (h : H l = some (.lst xs)) (hz : xs.length < sizeLine) (q : Q .non (upd H l (.lst (xs ++ [y])))) : rAppend (.ref l) [y] H Q := ⟨l, xs, y, rfl, rfl, h, hz, q⟩
theorem sz {n : Nat} (h : n ≤ 100000) : n ≤ sizeLine := Nat.le_trans h (by decide)
theorem szl {n : Nat} (h : n ≤ 100000) : n < sizeLine := Nat.lt_of_le_of_lt h (by decide)
end HW
set_option Elab.async false
set_option linter.all false
set_option maxRecDepth 100000
set_option maxHeartbeats 4000000
/-! What is meant by good tables, cards and texts, and what each def promises. -/
namespace HW
open PySem PySem.Spec PyProof.Rows L2
/-! rules of the kit within a comprehension: the facts' K named -/
section
variable {X : Cx} {K : PySem.W.Frag}
theorem ix_tupK (h : X.K = K) : IxR X (rIxT K) := h ▸ ix_tup
theorem ix_listK (h : X.K = K) : IxR X (rIxL K) := h ▸ ix_list
theorem op_eqDK (h : X.K = K) (hu : X.A.units + 64 < cLine) : OpR X (compareOp .Eq) (rEqD K) := h ▸ op_eqD hu
theorem op_neDK (h : X.K = K) (hu : X.A.units + 64 < cLine) : OpR X (compareOp .NotEq) (rNeD K) := h ▸ op_neD hu
theorem pg_tupK {es : List Expr} {k n : Nat} {t : TGs} {pos : Pos} (hK : X.K = K) (hc : X.calm = true) (h : PGs X es t) (hn : (assignEach es X.env).length = n := by rfl) (hst : (assignEach es X.env).findIdx? (·.1) = none := by rfl) : PG X (.Tuple es k pos) (gTup K n t) := hK ▸ pg_tup hc h hn hst
def rListOf (K : PySem.W.Frag) : List V → Hp → VK → Prop := fun xs H Q => ∃ p ys, xs = [.ref p] ∧ (SqL K H p ys ∨ SqT K H p ys) ∧ ∀ l, H l = none → Q (.ref l) (upd H l (.lst ys))
theorem call_list_ofK (h : X.K = K) : CallR X (.type "list") (rListOf K) := h ▸ call_list_of
theorem un_of {k : Nat} {A : Around} (hr : Room k A) {n : Nat} (h : n ≤ 200) : A.units + n < cLine := by have := hr.un; omega
end
def Sm (n : Int) : Prop := -(10 ^ 52) < n ∧ n < 10 ^ 52
def GR (m : Nat) (r : Rch) : Prop := r.2.Pairwise (· < ·) ∧ (∀ e ∈ r.2, Sm e) ∧ r.2.length ≤ 2 * m
def Chn : Rch → List Stp → Prop
  | _, [] => True
  | l, s :: ss => s.2 ≠ l ∧ Chn s.2 ss
structure GP (m : Nat) (t : Int) (p : Plt) : Prop where
  g : GR m p.1
  s : ∀ s ∈ p.2, GR m s.2 ∧ 0 ≤ s.1 ∧ s.1 ≤ t
  w : p.2.Pairwise (fun a b => a.1 < b.1)
  c : Chn p.1 p.2
  n : p.2.length ≤ m
structure GE (m : Nat) (t : Int) (w : Nat) (e : Ent) : Prop where
  len : e.1.length = w
  nums : ∀ n ∈ e.1, Sm n
  plt : GP m t e.2
structure GT (m : Nat) (t : Int) (w : Nat) (es : List Ent) : Prop where
  each : ∀ e ∈ es, GE m t w e
  nd : (es.map (·.1)).Nodup
  len : es.length ≤ m
theorem GR.mono {m n : Nat} {r : Rch} (h : GR m r) (le : m ≤ n) : GR n r := ⟨h.1, h.2.1, by have := h.2.2; omega⟩
theorem GP.mono {m n : Nat} {t u : Int} {p : Plt} (h : GP m t p) (le : m ≤ n) (lt : t ≤ u) : GP n u p :=
  ⟨h.g.mono le, fun s hs => ⟨(h.s s hs).1.mono le, (h.s s hs).2.1, by have := (h.s s hs).2.2; omega⟩, h.w, h.c, by have := h.n; omega⟩
theorem GE.mono {m n w : Nat} {t u : Int} {p : Ent} (h : GE m t w p) (le : m ≤ n) (lt : t ≤ u) : GE n u w p := ⟨h.len, h.nums, h.plt.mono le lt⟩
theorem GT.mono {m n w : Nat} {t u : Int} {p : List Ent} (h : GT m t w p) (le : m ≤ n) (lt : t ≤ u) : GT n u w p := ⟨fun e he => (h.each e he).mono le lt, h.nd, by have := h.len; omega⟩
theorem GP.zero {t : Int} {m : Nat} : GP m t ((false, []), []) := ⟨⟨.nil, (fun _ h => nomatch h), Nat.zero_le _⟩, (fun _ h => nomatch h), .nil, trivial, Nat.zero_le _⟩
def optV : Option Int → V
  | none => .non
  | some n => .int n
def IsTab (K : PySem.W.Frag) (H : Hp) (v : V) (es : List Ent) : Prop := ∃ a us, v = .ref a ∧ H a = some (.lst us) ∧ Paired (IsEnt K H) us es
theorem IsTab.sm {K : PySem.W.Frag} {H H' : Hp} {v : V} {es : List Ent} (h : IsTab K H v es) (s : Same H H') : IsTab K H' v es := by
  obtain ⟨a, us, e, h1, h2⟩ := h
  exact ⟨a, us, e, s _ _ h1, pairE_tk h2 (TK.same s)⟩
/-! words -/
def numS (n : Int) : Str := Str.ofString (toString n)
def jn (ws : List Str) : Str := Txt.join " " ws
def reachWs (r : Rch) : List Str := (if r.1 then "in" else "out") :: numS r.2.length :: r.2.map numS
def stepWs (s : Stp) : List Str := numS s.1 :: reachWs s.2
def dot : Str := "."
def plotWs (p : Plt) : List Str := reachWs p.1 ++ numS p.2.length :: p.2.flatMap stepWs
def entWs (name : Str) (e : Ent) : List Str := "row" :: name :: numS e.1.length :: (e.1.map numS ++ (plotWs e.2 ++ [dot]))
def firstWs (n t s : Int) : List Str := ["card", numS n, numS t, numS s, dot]
def lastWs (k : Nat) : List Str := ["done", numS k, dot]
structure Crd where
  num : Int
  turn : Int
  since : Int
  tb : Str → List Ent
def entsOf (ns : List Str) (tb : Str → List Ent) : List (Str × Ent) := ns.flatMap fun n => (tb n).map fun e => (n, e)
def cardWs (ns : List Str) (c : Crd) : List (List Str) := firstWs c.num c.turn c.since :: ((entsOf ns c.tb).map (fun x => entWs x.1 x.2) ++ [lastWs (entsOf ns c.tb).length])
def WB (w : Str) : Prop := 32 ∉ w.cps.toList ∧ w.length ≤ 100 ∧ ∀ c ∈ w.cps.toList, c < 1114112
def Wds (ws : List Str) : Prop := ws ≠ [] ∧ (∀ w ∈ ws, WB w) ∧ ws.length ≤ 20000
def NameOk (s : Str) : Prop := 1 ≤ s.length ∧ s.length ≤ 8 ∧ ∀ c ∈ s.cps.toList, 97 ≤ c ∧ c ≤ 122
def GEW (m : Nat) (t : Int) (x : Str × Ent) : Prop := NameOk x.1 ∧ Sm t ∧ (∃ w, 1 ≤ w ∧ w ≤ 3 ∧ GE m t w x.2)
structure GC (ns : List Str) (wd : Str → Nat) (m : Nat) (c : Crd) : Prop where
  nums : 0 ≤ c.num ∧ Sm c.num ∧ 0 ≤ c.turn ∧ Sm c.turn ∧ 0 ≤ c.since ∧ c.since ≤ c.turn
  tabs : ∀ n ∈ ns, GT m c.turn (wd n) (c.tb n)
def BadF (f : List Str) (x : Str) (k : Nat) : Prop := f.length ≠ k + 2 ∨ f[0]? ≠ some x ∨ f.getLast? ≠ some dot
def BadE (f : List Str) : Prop := f[0]? ≠ some ("row" : Str) ∨ f.getLast? ≠ some dot
def EntQ (f : List Str) : Prop := (∃ x t, f = entWs x.1 x.2 ∧ GEW 30 t x) ∨ (BadE f ∧ Wds f)
inductive RdC (ns : List Str) (wd : Str → Nat) : List (List Str) → Option Crd → Prop
  | good (c : Crd) : GC ns wd 30 c → RdC ns wd (cardWs ns c) (some c)
  | short (r : List (List Str)) : r.length < 2 → RdC ns wd r none
  | badF (f : List Str) (r : List (List Str)) : r ≠ [] → BadF f "card" 3 → Wds f → RdC ns wd (f :: r) none
  | badL (n t s : Int) (r : List (List Str)) (l : List Str) : (0 ≤ n ∧ Sm n ∧ 0 ≤ t ∧ Sm t ∧ 0 ≤ s ∧ Sm s) → BadF l "done" 1 → Wds l → RdC ns wd (firstWs n t s :: (r ++ [l])) none
  | badE (n t s : Int) (r : List (List Str)) (k : Nat) : (0 ≤ n ∧ Sm n ∧ 0 ≤ t ∧ Sm t ∧ 0 ≤ s ∧ Sm s) → k ≤ 1000 → r.length ≤ 1000 → (∀ f ∈ r, EntQ f) → ((∃ f ∈ r, BadE f) ∨ k ≠ r.length) → RdC ns wd (firstWs n t s :: (r ++ [lastWs k])) none
/-! ### the promises -/
section
variable (K : PySem.W.Frag)
def wdOf (less : Bool) : Str := if less then "less" else "either"
def tbF (less a b : Bool) : Bool := if less then a && !b else a || b
def sp_truth_by : Sp := fun vs H Q _ => ∃ (less a b : Bool), vs = [.str (wdOf less), .bl a, .bl b] ∧ Q (.bl (tbF less a b)) H
def sp_is_turn : Sp := fun vs H Q _ => ∃ n : Int, vs = [.int n] ∧ Q (.bl true) H
def sp_is_reach : Sp := fun vs H Q _ => ∃ (v : V) (r : Rch), vs = [v] ∧ IsRch K H v r ∧ r.2.Pairwise (· < ·) ∧ Q (.bl true) H
def sp_stretch_of : Sp := fun vs H Q _ => ∃ lo hi : Option Int, vs = [optV lo, optV hi] ∧ (∀ n ∈ lo, Sm n) ∧ (∀ n ∈ hi, Sm n) ∧ ∀ v r H', Same H H' → IsRch K H' v r → GR 1 r → Q v H'
def sp_edges_marked : Sp := fun vs H Q _ => ∃ v r, vs = [v] ∧ IsRch K H v r ∧ r.2.length ≤ 1000 ∧ ∀ a kvs H', H a = none → Same H H' → H' a = some (.dK kvs) → Q (.ref a) H'
def sp_blend : Sp := fun vs H Q _ => ∃ v r u q m less, vs = [v, u, .str (wdOf less)] ∧ IsRch K H v r ∧ IsRch K H u q ∧ GR m r ∧ GR 1 q ∧ m ≤ 30 ∧ ∀ z x H', Same H H' → IsRch K H' z x → GR (m + 1) x → Q z H'
def sp_reach_at : Sp := fun vs H Q _ => ∃ v p t, vs = [v, .int t] ∧ IsPlt K H v p ∧ ∀ u r, IsRch K H u r → (r = p.1 ∨ ∃ s ∈ p.2, r = s.2) → Q u H
def sp_plot_of : Sp := fun vs H Q _ => ∃ v g l us ss, vs = [v, .ref l] ∧ IsRch K H v g ∧ H l = some (.lst us) ∧ Paired (IsStp K H) us ss ∧ ss.length ≤ 1000 ∧ ∀ z ts H', Same H H' → IsPlt K H' z (g, ts) → ts.Sublist ss → Chn g ts → Q z H'
def sp_is_step : Sp := fun vs H Q _ => ∃ v s, vs = [v] ∧ IsStp K H v s ∧ s.2.2.Pairwise (· < ·) ∧ Q (.bl true) H
def sp_is_plot : Sp := fun vs H Q _ => ∃ v p m t, vs = [v] ∧ IsPlt K H v p ∧ GP m t p ∧ Q (.bl true) H
def sp_from_plot : Sp := fun vs H Q _ => ∃ v p m t b, vs = [v, .int b] ∧ IsPlt K H v p ∧ GP m t p ∧ m ≤ 30 ∧ 0 ≤ b ∧ b ≤ t ∧ ∀ z q H', Same H H' → IsPlt K H' z q → GP (m + 1) t q → Q z H'
def sp_lift : Sp := fun vs H Q _ => ∃ v p m t b, vs = [v, .str "from", .int b] ∧ IsPlt K H v p ∧ GP m t p ∧ m ≤ 30 ∧ 0 ≤ b ∧ b ≤ t ∧ ∀ z q H', Same H H' → IsPlt K H' z q → GP (m + 1) t q → Q z H'
def sp_table_of : Sp := fun vs H Q _ => ∃ l us es, vs = [.ref l] ∧ H l = some (.lst us) ∧ Paired (IsEnt K H) us es ∧ (es.map (·.1)).Nodup ∧ (∀ e ∈ es, 1 ≤ e.1.length) ∧ es.length ≤ 100 ∧
  ∀ a ws qs H', H a = none → Same H H' → H' a = some (.lst ws) → Paired (IsEnt K H') ws qs → (∀ e ∈ qs, e ∈ es) → (qs.map (·.1)).Nodup → qs.length ≤ es.length → Q (.ref a) H'
def sp_lift_table : Sp := fun vs H Q _ => ∃ l us es m t b w, vs = [.ref l, .str "from", .int b] ∧ H l = some (.lst us) ∧ Paired (IsEnt K H) us es ∧ GT m t w es ∧ 1 ≤ w ∧ m ≤ 30 ∧ 0 ≤ b ∧ b ≤ t ∧
  ∀ a ws qs H', H a = none → Same H H' → H' a = some (.lst ws) → Paired (IsEnt K H') ws qs → GT (m + 1) t w qs → Q (.ref a) H'
/-- a telling: whether told, its name, its row, its days -/
structure Tel where
  tell : Bool
  name : Str
  row : Row
  lo : Option Int
  hi : Option Int
def kindS (b : Bool) : Str := if b then "tell" else "strike"
def IsTel (H : Hp) (v : V) (x : Tel) : Prop := ∃ a u, v = .ref a ∧ SqT K H a [.str (kindS x.tell), .str x.name, u, optV x.lo, optV x.hi] ∧ IsRow H u x.row
structure GTel (w : Nat) (keys : Nat) (x : Tel) : Prop where
  len : x.row.length = if x.tell then w else keys
  nums : ∀ n ∈ x.row, Sm n
  lo : ∀ n ∈ x.lo, Sm n
  hi : ∀ n ∈ x.hi, Sm n
  days : ∀ a ∈ x.lo, ∀ b ∈ x.hi, a < b
  keys : keys ≤ w
  w1 : 1 ≤ w
  w3 : w ≤ 3
def sp_with_row : Sp := fun vs H Q _ => ∃ l us es m t w v r d dr, vs = [.ref l, v, d, .int t] ∧ H l = some (.lst us) ∧ Paired (IsEnt K H) us es ∧ IsRow H v r ∧ IsRch K H d dr ∧ GR 1 dr ∧ GT m t w es ∧ r.length = w ∧ (∀ n ∈ r, Sm n) ∧ m ≤ 29 ∧ 0 ≤ t ∧
  ∀ a ws qs H', H a = none → Same H H' → H' a = some (.lst ws) → Paired (IsEnt K H') ws qs → GT (m + 1) t w qs → Q (.ref a) H'
def sp_told_on : Sp := fun vs H Q _ => ∃ l us es m t w k v x, vs = [.ref l, .int (k : Nat), v, .int (t + 1)] ∧ H l = some (.lst us) ∧ Paired (IsEnt K H) us es ∧ IsTel K H v x ∧ GTel w k x ∧ GT m t w es ∧ m ≤ 28 ∧ 0 ≤ t ∧
  ∀ a ws qs H', H a = none → Same H H' → H' a = some (.lst ws) → Paired (IsEnt K H') ws qs → GT (m + 2) (t + 1) w qs → Q (.ref a) H'
/-- a register's form -/
structure Frm where
  name : Str
  keys : Nat
  width : Nat
def IsFrm (H : Hp) (v : V) (f : Frm) : Prop := ∃ a, v = .ref a ∧ SqT K H a [.str f.name, .int (f.keys : Nat), .int (f.width : Nat)]
def sp_shape_named : Sp := fun vs H Q _ => ∃ l us fs f, vs = [.ref l, .str f.name] ∧ H l = some (.lst us) ∧ Paired (IsFrm K H) us fs ∧ f ∈ fs ∧ (fs.map Frm.name).Nodup ∧ ∀ v, IsFrm K H v f → Q v H
def sp_check_telling : Sp := fun vs H Q _ => ∃ l us fs f v x, vs = [.ref l, v] ∧ H l = some (.lst us) ∧ Paired (IsFrm K H) us fs ∧ f ∈ fs ∧ (fs.map Frm.name).Nodup ∧ IsTel K H v x ∧ x.name = f.name ∧ GTel f.width f.keys x ∧ Q .non H
/-! texts -/
def sp_write_number : Sp := fun vs H Q _ => ∃ n, vs = [.int n] ∧ Sm n ∧ Q (.str (numS n)) H
def endW : Option Int → Str
  | none => "-"
  | some n => numS n
def sp_write_end : Sp := fun vs H Q _ => ∃ o, vs = [optV o] ∧ (∀ n ∈ o, Sm n) ∧ Q (.str (endW o)) H
def sp_write_telling : Sp := fun vs H Q _ => ∃ n v x w k, vs = [.int n, v] ∧ Sm n ∧ IsTel K H v x ∧ GTel w k x ∧ NameOk x.name ∧ ∀ z H', Same H H' → Q (.str z) H'
def NewStrs (H : Hp) (Q : VK) (ws : List Str) : Prop := ∀ a H', H a = none → Same H H' → H' a = some (.lst (ws.map V.str)) → Q (.ref a) H'
def sp_reach_words : Sp := fun vs H Q _ => ∃ v r m, vs = [v] ∧ IsRch K H v r ∧ GR m r ∧ m ≤ 1000 ∧ NewStrs H Q (reachWs r)
def sp_plot_words : Sp := fun vs H Q _ => ∃ v p m t, vs = [v] ∧ IsPlt K H v p ∧ GP m t p ∧ m ≤ 30 ∧ Sm t ∧ NewStrs H Q (plotWs p)
def sp_write_entry : Sp := fun vs H Q _ => ∃ name u v e w m t, vs = [.str name, u, v] ∧ IsRow H u e.1 ∧ IsPlt K H v e.2 ∧ GE m t w e ∧ w ≤ 3 ∧ m ≤ 30 ∧ Sm t ∧ NameOk name ∧ ∀ H', Same H H' → Q (.str (jn (entWs name e))) H'
def sp_write_first : Sp := fun vs H Q _ => ∃ n t s, vs = [.int n, .int t, .int s] ∧ Sm n ∧ Sm t ∧ Sm s ∧ ∀ H', Same H H' → Q (.str (jn (firstWs n t s))) H'
def sp_write_last : Sp := fun vs H Q _ => ∃ k : Nat, vs = [.int (k : Int)] ∧ k ≤ 1000 ∧ ∀ H', Same H H' → Q (.str (jn (lastWs k))) H'
def sp_read_number : Sp := fun vs H Q _ => ∃ n, vs = [.str (numS n)] ∧ Sm n ∧ Q (.int n) H
def sp_words_of : Sp := fun vs H Q _ => ∃ ws, vs = [.str (jn ws)] ∧ Wds ws ∧ NewStrs H Q ws
def WsAt (H : Hp) (v : V) (ws : List Str) : Prop := ∃ a, v = .ref a ∧ H a = some (.lst (ws.map V.str)) ∧ ws.length ≤ 20000
def sp_word_at : Sp := fun vs H Q _ => ∃ v ws w, ∃ k : Nat, vs = [v, .int (k : Int)] ∧ WsAt H v ws ∧ ws[k]? = some w ∧ Q (.str w) H
def sp_number_at : Sp := fun vs H Q _ => ∃ v ws n, ∃ k : Nat, vs = [v, .int (k : Int)] ∧ WsAt H v ws ∧ ws[k]? = some (numS n) ∧ Sm n ∧ Q (.int n) H
def sp_name_at : Sp := fun vs H Q _ => ∃ v ws w, ∃ k : Nat, vs = [v, .int (k : Int)] ∧ WsAt H v ws ∧ ws[k]? = some w ∧ NameOk w ∧ Q (.str w) H
def sp_so_many_at : Sp := fun vs H Q _ => ∃ v ws ns, ∃ k : Nat, vs = [v, .int (k : Int), .int ((List.length ns : Nat) : Int)] ∧ WsAt H v ws ∧ (∃ r, ws.drop k = ns.map numS ++ r) ∧ k ≤ ws.length ∧ (∀ n ∈ ns, Sm n) ∧
  ∀ a H', H a = none → Same H H' → H' a = some (.tup (ns.map V.int)) → Q (.ref a) H'
def sp_reach_from : Sp := fun vs H Q _ => ∃ v ws r m, ∃ k : Nat, vs = [v, .int (k : Int)] ∧ WsAt H v ws ∧ (∃ s, ws.drop k = reachWs r ++ s) ∧ GR m r ∧ m ≤ 1000 ∧
  ∀ a u H', Same H H' → SqT K H' a [u, .int ((k + (reachWs r).length : Nat) : Int)] → IsRch K H' u r → Q (.ref a) H'
def sp_plot_from : Sp := fun vs H Q _ => ∃ v ws p m t, ∃ k : Nat, vs = [v, .int (k : Int)] ∧ WsAt H v ws ∧ (∃ s, ws.drop k = plotWs p ++ s) ∧ GP m t p ∧ m ≤ 30 ∧ Sm t ∧
  ∀ a u H', Same H H' → SqT K H' a [u, .int ((k + (plotWs p).length : Nat) : Int)] → IsPlt K H' u p → Q (.ref a) H'
/-- an entry as read -/
def IsRd (H : Hp) (v : V) (x : Str × Ent) : Prop := ∃ a u z, v = .ref a ∧ SqT K H a [.str x.1, u, z] ∧ IsRow H u x.2.1 ∧ IsPlt K H z x.2.2
def noText (K : PySem.W.Frag) (H : Hp) (E : XK) : Prop := ∀ H', Same H H' → E (.ref (He.ga K "NoText")) none H'
def sp_read_entry : Sp := fun vs H Q E => ∃ f, vs = [.str (jn f)] ∧ ((∃ x t, f = entWs x.1 x.2 ∧ GEW 30 t x ∧ ∀ v H', Same H H' → IsRd K H' v x → Q v H') ∨ (BadE f ∧ Wds f ∧ noText K H E))
def NumsQ (H : Hp) (Q : VK) (ns : List Int) : Prop := ∀ a H', H a = none → Same H H' → H' a = some (.tup (ns.map V.int)) → Q (.ref a) H'
def sp_numbers_in : Sp := fun vs H Q E => ∃ f x ns, ∃ k : Nat, vs = [.str (jn f), .str x, .int (k : Int)] ∧ Wds f ∧ ((f = x :: (List.map numS ns ++ [dot]) ∧ List.length ns = k ∧ 1 ≤ k ∧ (∀ n ∈ ns, Sm n ∧ 0 ≤ n) ∧ NumsQ H Q ns) ∨ (BadF f x k ∧ noText K H E))
def sp_read_first : Sp := fun vs H Q E => ∃ f, vs = [.str (jn f)] ∧ Wds f ∧ ((∃ n t s, f = firstWs n t s ∧ (0 ≤ n ∧ Sm n ∧ 0 ≤ t ∧ Sm t ∧ 0 ≤ s ∧ Sm s) ∧ NumsQ H Q [n, t, s]) ∨ (BadF f "card" 3 ∧ noText K H E))
def sp_read_last : Sp := fun vs H Q E => ∃ f, vs = [.str (jn f)] ∧ Wds f ∧ ((∃ k : Nat, f = lastWs k ∧ k ≤ 1000 ∧ ∀ H', Same H H' → Q (.int (k : Int)) H') ∨ (BadF f "done" 1 ∧ noText K H E))
/-- a card as read -/
def IsCrd (ns : List Str) (H : Hp) (v : V) (c : Crd) : Prop := ∃ a b l us, v = .ref a ∧ SqT K H a [.ref b, .ref l] ∧ SqT K H b [.int c.num, .int c.turn, .int c.since] ∧ H l = some (.lst us) ∧ Paired (IsRd K H) us (entsOf ns c.tb)
def sp_card_in : Sp := fun vs H Q _ => ∃ ns wd a rows o, vs = [.ref a] ∧ H a = some (.lst (List.map (fun f => V.str (jn f)) rows)) ∧ RdC ns wd rows o ∧ (∀ n ∈ ns, NameOk n ∧ 1 ≤ wd n ∧ wd n ≤ 3) ∧ ns.length ≤ 3 ∧ rows.length ≤ 1000 ∧
  (o = none → ∀ H', Same H H' → Q .non H') ∧ ∀ c v H', o = some c → Same H H' → IsCrd K ns H' v c → Q v H'
end
section
variable {P : Program} {w : World} {K : PySem.W.Frag} {mg : Str → Option Value} {base : Heap}
theorem mk_fn {C : CXT} {k : Nat} {x : Str} {args : Arguments} {body : List Stmt} {scope : Scope} {fd : FuncData} {ps : List Str} {sp : Sp} (F : FunD K x x args body scope [] [] (He.ga K x) fd) (g : mg x = some (.ref (He.ga K x)))
    (hb : ∀ (kV doc pm : Value) (an : Option Addr) (cdv ct : Value) (us : List Value), us.length = ps.length → bindArgs (PySem.W.fnOf x x args body scope .none kV doc pm an cdv ct) ⟨us, []⟩ = pure (ps.zip us))
    (G : FnOk P w K mg base C k (He.ga K x) fd ps sp) : Fn P w K mg base C k x ps sp := ⟨_, fd, G, g, F.kp, F.bindsN hb⟩
end
theorem paired_ints : ∀ es : List Int, Paired (fun (v : V) n => v = .int n) (es.map V.int) es
  | [] => .nil
  | e :: es => .cons rfl (paired_ints es)
theorem fresh2 {H : Hp} {p q : Addr} {o : HO} (h : upd H p o q = none) : q ≠ p ∧ H q = none := by
  have ne : q ≠ p := fun e => by rw [e, upd_same] at h; cases h
  exact ⟨ne, by rw [upd_ne ne] at h; exact h⟩
theorem mk_rch {K : PySem.W.Frag} {H : Hp} {p q : Addr} {es : List Int} {b : Bool} (n1 : H p = none) (n2 : upd H p (.tup (es.map V.int)) q = none) :
    Same H (upd (upd H p (.tup (es.map V.int))) q (.tup [.bl b, .ref p])) ∧ IsRch K (upd (upd H p (.tup (es.map V.int))) q (.tup [.bl b, .ref p])) (.ref q) (b, es) :=
  ⟨(L2.Same.new n1).trans (L2.Same.new n2), _, _, rfl, SqT.of upd_same, SqT.of (L2.Same.new n2 _ _ upd_same)⟩
theorem putK_len {κ : Type} [DecidableEq κ] (kvs : List (κ × V)) (k : κ) (v : V) : (putK kvs k v).length ≤ kvs.length + 1 := by
  unfold putK
  split <;> simp
theorem _root_.L2.Same.none {H H' : Hp} (s : Same H H') {a : Addr} (h : H' a = none) : H a = none := by
  cases e : H a with
  | none => rfl
  | some o => rw [s _ _ e] at h; cases h
theorem catA {K : PySem.W.Frag} {H : Hp} {a b : Addr} {xs ys : List V} {Q : VK} (h1 : SqT K H a xs) (h2 : SqT K H b ys) (hl : xs.length + ys.length ≤ sizeLine) (q : ∀ c H', Same H H' → SqT K H' c (xs ++ ys) → Q (.ref c) H') : rCatA K (.ref a) (.ref b) H Q :=
  ⟨a, b, xs, ys, rfl, rfl, h1, h2, hl, (fun e => q b H (L2.Same.refl _) (by rw [e]; exact h2)), (fun _ e => q a H (L2.Same.refl _) (by rw [e, List.append_nil]; exact h1)), fun _ _ p n => q p _ (L2.Same.new n) (SqT.of upd_same)⟩
theorem slA {K : PySem.W.Frag} {H : Hp} {a : Addr} {xs : List V} {lo hi : Option Int} {Q : VK} (h1 : SqT K H a xs) (q : ∀ c H', Same H H' → SqT K H' c (cutV xs lo hi) → Q (.ref c) H') : rSlA K (.ref a) lo hi H Q :=
  ⟨a, xs, rfl, h1, (fun e => q a H (L2.Same.refl _) (by
    have z : cutV xs lo hi = xs := by
      unfold cutV
      rw [e.1, e.2]
      simp
    rw [z]; exact h1)), fun _ p n => q p _ (L2.Same.new n) (SqT.of upd_same)⟩
theorem cat {H : Hp} {a b : Addr} {xs ys : List V} {Q : VK} (h1 : H a = some (.lst xs)) (h2 : H b = some (.lst ys)) (hl : xs.length + ys.length ≤ sizeLine) (q : ∀ c H', H c = none → Same H H' → H' c = some (.lst (xs ++ ys)) → Q (.ref c) H') : rCat (.ref a) (.ref b) H Q :=
  ⟨a, b, xs, ys, rfl, rfl, h1, h2, hl, fun p n => q p _ n (L2.Same.new n) upd_same⟩
theorem slL {K : PySem.W.Frag} {H : Hp} {a : Addr} {xs : List V} {lo hi : Option Int} {Q : VK} (h1 : H a = some (.lst xs)) (q : ∀ c H', H c = none → Same H H' → H' c = some (.lst (cutV xs lo hi)) → Q (.ref c) H') : rSlL K (.ref a) lo hi H Q :=
  ⟨a, xs, rfl, SqL.of h1, fun p n => q p _ n (L2.Same.new n) upd_same⟩
/-- a list's own heap, seen from before it was made -/
theorem own {H : Hp} {G : Addr → Hp → Prop} {o : HO} (q : ∀ p H', H p = none → Same H H' → H' p = some o → G p H') : ∀ p, H p = none → G p (upd H p o) := fun p n => q p _ n (L2.Same.new n) upd_same
theorem get_put {H : Hp} {a b : Addr} {o u z : HO} (ha : H a = some o) (hb : H b = some u) (n : o = u → False) : upd H b z a = some o := by
  rw [upd_ne (fun e => n (by rw [e, hb] at ha; exact (Option.some.inj ha).symm))]
  exact ha
theorem get_ne {H : Hp} {a b : Addr} {o z : HO} (ha : H a = some o) (n : a ≠ b) : upd H b z a = some o := by rw [upd_ne n]; exact ha
theorem paired_snoc {α β : Type} {F : α → β → Prop} {xs : List α} {ys : List β} {x : α} {y : β} (h : Paired F xs ys) (a : F x y) : Paired F (xs ++ [x]) (ys ++ [y]) := paired_app h (.cons a .nil)
theorem neqD {K : PySem.W.Frag} {H : Hp} {x y : V} {r q : Rch} {Q : VK} (h1 : IsRch K H x r) (h2 : IsRch K H y q) (k : Q (.bl (!decide (r = q))) H) : rNeD K x y H Q := ⟨_, _, dp_rch h1, dp_rch h2, shR _, shR _, by rw [eqvR]; exact k⟩
theorem eqqD {K : PySem.W.Frag} {H : Hp} {x y : V} {r q : Rch} {Q : VK} (h1 : IsRch K H x r) (h2 : IsRch K H y q) (k : Q (.bl (decide (r = q))) H) : rEqD K x y H Q := ⟨_, _, dp_rch h1, dp_rch h2, shR _, shR _, by rw [eqvR]; exact k⟩
theorem fr {H : Hp} {p : Addr} (n : H p = none) (o : HO) : ∃ H1, upd H p o = H1 ∧ Same H H1 ∧ H1 p = some o := ⟨_, rfl, L2.Same.new n, upd_same⟩
theorem sq_tupAt {K : PySem.W.Frag} {H : Hp} {a : Addr} {its : List Value} {xs : List V} (h : tupAt K a = some its) (v : Vals xs its) : SqT K H a xs := by
  unfold tupAt at h
  split at h
  · next c d as n r e =>
    split at h
    · next hc =>
      rw [Bool.and_eq_true, decide_eq_true_eq, decide_eq_true_eq] at hc
      cases h
      exact .inr ⟨_, as, n, e, by rw [hc.1], rfl, hc.2, v⟩
    · cases h
  · cases h
theorem sq_nilAt {K : PySem.W.Frag} {H : Hp} {a : Addr} (h : nilAt K a = true) : SqT K H a [] := by
  unfold nilAt at h
  split at h
  · next e => exact sq_tupAt e .nil
  · cases h
theorem no_spots {K : PySem.W.Frag} {mg : Str → Option Value} {H : Hp} (T : Top K mg) : IsPlt K H (.ref (He.ga K "NO_SPOTS")) ((false, []), []) := by
  have h := T.spots
  unfold noSpots at h
  split at h
  · next a b e =>
    rw [Bool.and_eq_true] at h
    obtain ⟨h1, h2⟩ := h
    split at h2
    · next _ c e2 =>
      refine ⟨_, .ref a, b, [], rfl, sq_tupAt e (.cons rfl (.cons rfl .nil)), ⟨a, c, rfl, sq_tupAt e2 (.cons rfl (.cons rfl .nil)), sq_nilAt h2⟩, sq_nilAt h1, .nil⟩
    · cases h2
  · cases h
theorem cutW (ns : List Int) (lo hi : Option Int) : ∃ ms : List Int, cutV (ns.map V.int) lo hi = ms.map V.int := by
  unfold cutV
  rw [← List.map_drop, ← List.map_take]
  exact ⟨_, rfl⟩
theorem eqqW {K : PySem.W.Frag} {H : Hp} {x y : V} {r q : Row} {Q : VK} (h1 : IsRow H x r) (h2 : IsRow H y q) (k : Q (.bl (decide (r = q))) H) : rEqD K x y H Q := ⟨_, _, dp_row h1, dp_row h2, shW _, shW _, by rw [eqvW]; exact k⟩
theorem eqCut {K : PySem.W.Frag} {H : Hp} {a b : Addr} {ns ms : List Int} {l1 h1 l2 h2 : Option Int} {Q : VK} (p : SqT K H a (cutV (ns.map V.int) l1 h1)) (q : SqT K H b (cutV (ms.map V.int) l2 h2)) (k : ∀ c, Q (.bl c) H) : rEqD K (.ref a) (.ref b) H Q := by
  obtain ⟨u, e⟩ := cutW ns l1 h1
  obtain ⟨z, e2⟩ := cutW ms l2 h2
  rw [e] at p
  rw [e2] at q
  exact ⟨_, _, .tup p (dpAll_ints u), .tup q (dpAll_ints z), shW u, shW z, k _⟩
end HW
set_option Elab.async false
set_option linter.all false
set_option maxRecDepth 100000
set_option maxHeartbeats 4000000
/-! Numbers and words as texts, plainly. -/
namespace HW
open PySem PySem.Spec PyProof.Rows L2
theorem numS_pos (n : Nat) : (numS (n : Int)).cps.toList = TL.numL n := TL.tl_num n
theorem numS_neg (m : Nat) : (numS (Int.negSucc m)).cps.toList = 45 :: TL.numL (m + 1) := by
  have h := TL.tl_num (m + 1)
  rw [TL.tl_ofString] at h
  show TL.tl (Str.ofString (toString (Int.negSucc m))) = _
  rw [TL.tl_ofString, ← h]
  show List.map Char.toNat ("-" ++ toString (m + 1)).toList = 45 :: List.map Char.toNat (toString ((m + 1 : Nat) : Int)).toList
  rw [String.toList_append, List.map_append]
  rfl
theorem numS_cases (n : Int) : (∃ k : Nat, n = k ∧ (numS n).cps.toList = TL.numL k) ∨ ∃ k : Nat, n = -((k + 1 : Nat) : Int) ∧ (numS n).cps.toList = 45 :: TL.numL (k + 1) := by
  cases n with
  | ofNat k => exact .inl ⟨k, rfl, numS_pos k⟩
  | negSucc k => exact .inr ⟨k, rfl, numS_neg k⟩
theorem sm_abs {n : Int} (h : Sm n) : n.natAbs < 10 ^ 52 := by
  obtain ⟨h1, h2⟩ := h
  have e : ((10 : Int) ^ 52) = ((10 ^ 52 : Nat) : Int) := by decide +kernel
  rw [e] at h1 h2
  omega
theorem sm_log {n : Int} (h : Sm n) : n.natAbs.log2 < 1920 := by
  by_cases z : n.natAbs = 0
  · rw [z]; decide
  · rw [Nat.log2_lt z]
    exact Nat.lt_trans (sm_abs h) (by decide +kernel)
theorem sm_small {n : Int} (h : -1000000 < n) (h2 : n < 1000000) : Sm n := by
  have e : ((10 : Int) ^ 52) = 10000000000000000000000000000000000000000000000000000 := by decide +kernel
  unfold Sm
  rw [e]
  omega
theorem numS_len {n : Int} (h : Sm n) : (numS n).length ≤ 53 := by
  have a := sm_abs h
  rw [TL.len_tl]
  show (numS n).cps.toList.length ≤ 53
  rcases numS_cases n with ⟨k, rfl, e⟩ | ⟨k, rfl, e⟩
  · rw [e]
    have := TL.numL_len (n := k) (k := 52) (by decide) (by omega)
    omega
  · rw [e]
    have := TL.numL_len (n := k + 1) (k := 52) (by decide) (by omega)
    simp
    omega
theorem numS_signs (n : Int) : ∀ c ∈ (numS n).cps.toList, c = 45 ∨ (48 ≤ c ∧ c ≤ 57) := by
  intro c hc
  rcases numS_cases n with ⟨k, rfl, e⟩ | ⟨k, rfl, e⟩
  · rw [e] at hc
    exact .inr (TL.numL_digits k c hc)
  · rw [e] at hc
    rcases List.mem_cons.mp hc with h | h
    · exact .inl h
    · exact .inr (TL.numL_digits _ c h)
theorem wb_num {n : Int} (h : Sm n) : WB (numS n) := by
  refine ⟨fun hc => ?_, by have := numS_len h; omega, fun c hc => ?_⟩
  · have := numS_signs n _ hc
    omega
  · have := numS_signs n _ hc
    omega
theorem numS_int {n : Int} (h : Sm n) : intText? (numS n) = some n := by
  have a := sm_abs h
  rcases numS_cases n with ⟨k, rfl, e⟩ | ⟨k, rfl, e⟩
  · exact TL.int_num (by have := TL.numL_len (n := k) (k := 52) (by decide) (by omega); omega)
  · have z := intText_neg e (TL.numL_digits _) (TL.numL_ne _) (by have := numS_len h; omega)
    rw [TL.numL_val] at z
    exact z
theorem wb_name {s : Str} (h : NameOk s) : WB s := by
  refine ⟨fun hc => ?_, by have := h.2.1; omega, fun c hc => ?_⟩
  · have := h.2.2 _ hc
    omega
  · have := h.2.2 _ hc
    omega
theorem numL_zero : ∀ n : Nat, (TL.numL n)[0]? = some 48 → n = 0 := by
  intro n
  induction n using Nat.strongRecOn with
  | _ n ih =>
    intro h
    by_cases k : n < 10
    · rw [TL.numL_lt k] at h
      simp at h
      omega
    · rw [TL.numL_step (by omega)] at h
      have ne : 0 < (TL.numL (n / 10)).length := List.length_pos_iff.mpr (TL.numL_ne _)
      rw [List.getElem?_append_left ne] at h
      have := ih (n / 10) (by omega) h
      omega
theorem drop_at {α : Type} {ws : List α} {k : Nat} {x : α} {r : List α} (h : ws.drop k = x :: r) : ws[k]? = some x ∧ ws.drop (k + 1) = r := by
  have e : (ws.drop k)[0]? = some x := by rw [h]; rfl
  rw [List.getElem?_drop] at e
  refine ⟨by simpa using e, ?_⟩
  rw [← List.drop_drop, h]
  rfl
theorem drop_app {α : Type} {ws : List α} {k : Nat} {l r : List α} (h : ws.drop k = l ++ r) : ws.drop (k + l.length) = r := by
  rw [← List.drop_drop, h, List.drop_left]
theorem drop_len {α : Type} {ws : List α} {k : Nat} {l r : List α} (h : ws.drop k = l ++ r) (ne : l ≠ []) : k + l.length ≤ ws.length := by
  have e := congrArg List.length h
  rw [List.length_drop, List.length_append] at e
  have : 0 < l.length := List.length_pos_iff.mpr ne
  omega
theorem cutS_take1 (z : Str) : (cutS z none (some 1)).cps.toList = z.cps.toList.take 1 := by
  have e : HT.sIx z.length z.length (some 1) = min 1 z.length := HT.sIx_nat _ _ 1
  unfold cutS
  rw [e, HT.sIx_none]
  show (z.cps.toList.drop 0).take (min 1 z.length - 0) = _
  have l : z.length = z.cps.toList.length := TL.len_tl z
  rw [List.drop_zero, Nat.sub_zero, l, List.take_eq_take_iff]
  omega
theorem cutS_drop1 (z : Str) : (cutS z (some 1) none).cps.toList = z.cps.toList.drop 1 := by
  have e : HT.sIx z.length 0 (some 1) = min 1 z.length := HT.sIx_nat _ _ 1
  have l : z.length = z.cps.toList.length := TL.len_tl z
  unfold cutS
  rw [e, HT.sIx_none]
  show (z.cps.toList.drop (min 1 z.length)).take (z.length - min 1 z.length) = _
  rw [l, List.take_of_length_le (by rw [List.length_drop]; omega)]
  by_cases h : 1 ≤ z.cps.toList.length
  · rw [Nat.min_eq_left h]
  · rw [List.drop_eq_nil_of_le (by omega), List.drop_eq_nil_of_le (by omega)]
/-- the figures of a written number -/
def Fig (n : Int) (z : Str) : Prop := (∀ c ∈ z.cps.toList, 48 ≤ c ∧ c ≤ 57) ∧ z.cps.toList ≠ [] ∧ z.length ≤ 53 ∧ (z.cps.toList[0]? = some 48 → numS n = "0")
theorem fig_signs {c : Nat} (h : 48 ≤ c ∧ c ≤ 57) : c ∈ ("0123456789" : Str).cps.toList := by
  have e : ("0123456789" : Str).cps.toList = [48, 49, 50, 51, 52, 53, 54, 55, 56, 57] := by decide +kernel
  rw [e]
  simp
  omega
theorem small_signs {c : Nat} (h : 97 ≤ c ∧ c ≤ 122) : c ∈ ("abcdefghijklmnopqrstuvwxyz" : Str).cps.toList := by
  have e : ("abcdefghijklmnopqrstuvwxyz" : Str).cps.toList = [97, 98, 99, 100, 101, 102, 103, 104, 105, 106, 107, 108, 109, 110, 111, 112, 113, 114, 115, 116, 117, 118, 119, 120, 121, 122] := by decide +kernel
  rw [e]
  simp
  omega
theorem fig_of {n : Int} (hn : Sm n) : (cutS (numS n) none (some 1) = "-" ∧ Fig n (cutS (numS n) (some 1) none)) ∨ (cutS (numS n) none (some 1) ≠ "-" ∧ Fig n (numS n)) := by
  have a := sm_abs hn
  have d : ("-" : Str).cps.toList = [45] := by decide +kernel
  have l := numS_len hn
  rcases numS_cases n with ⟨k, rfl, e⟩ | ⟨k, rfl, e⟩
  · refine .inr ⟨fun h => ?_, ?_, ?_, l, fun h => ?_⟩
    · have h2 := congrArg (fun s : Str => s.cps.toList) h
      simp only [cutS_take1, e, d] at h2
      have : 45 ∈ TL.numL k := List.mem_of_mem_take (i := 1) (by rw [h2]; simp)
      have := TL.numL_digits k 45 this
      omega
    · rw [e]; exact TL.numL_digits k
    · rw [e]; exact TL.numL_ne k
    · rw [e] at h
      have := numL_zero k h
      subst this
      rfl
  · have e1 : (cutS (numS (-((k + 1 : Nat) : Int))) (some 1) none).cps.toList = TL.numL (k + 1) := by rw [cutS_drop1, e]; rfl
    refine .inl ⟨TL.ext_tl ?_, ?_, ?_, ?_, fun h => ?_⟩
    · show (cutS _ _ _).cps.toList = ("-" : Str).cps.toList
      rw [cutS_take1, e, d]; rfl
    · rw [e1]; exact TL.numL_digits _
    · rw [e1]; exact TL.numL_ne _
    · rw [TL.len_tl]
      show (cutS _ _ _).cps.toList.length ≤ 53
      rw [e1]
      have := TL.numL_len (n := k + 1) (k := 52) (by decide) (by omega)
      omega
    · rw [e1] at h
      have := numL_zero _ h
      omega
/-! word lists -/
theorem wb_lit {s : Str} (h : (decide (32 ∈ s.cps.toList) || decide (100 < s.length) || s.cps.toList.any (fun c => decide (1114112 ≤ c))) = false) : WB s := by
  rw [Bool.or_eq_false_iff, Bool.or_eq_false_iff, decide_eq_false_iff_not, decide_eq_false_iff_not] at h
  refine ⟨h.1.1, by omega, fun c hc => ?_⟩
  have := List.any_eq_false.mp h.2 c hc
  simpa using this
theorem wb_reach {m : Nat} {r : Rch} (h : GR m r) (hm : m ≤ 1000) : (∀ w ∈ reachWs r, WB w) ∧ (reachWs r).length ≤ 2 + 2 * m := by
  refine ⟨fun w hw => ?_, by have := h.2.2; simp [reachWs]; omega⟩
  rcases List.mem_cons.mp hw with e | hw
  · rw [e]
    cases r.1 <;> exact wb_lit (by decide +kernel)
  · rcases List.mem_cons.mp hw with e | hw
    · rw [e]
      have := h.2.2
      exact wb_num (sm_small (by omega) (by omega))
    · obtain ⟨x, hx, rfl⟩ := List.mem_map.mp hw
      exact wb_num (h.2.1 x hx)
theorem sm_turn {t n : Int} (h : Sm t) (h0 : 0 ≤ n) (h1 : n ≤ t) : Sm n := by
  have e : ((10 : Int) ^ 52) = 10000000000000000000000000000000000000000000000000000 := by decide +kernel
  unfold Sm at *
  rw [e] at *
  omega
theorem wb_steps {m : Nat} {t : Int} {ss : List Stp} (hm : m ≤ 30) (ht : Sm t) (h : ∀ s ∈ ss, GR m s.2 ∧ 0 ≤ s.1 ∧ s.1 ≤ t) : (∀ w ∈ ss.flatMap stepWs, WB w) ∧ (ss.flatMap stepWs).length ≤ 70 * ss.length := by
  induction ss with
  | nil => exact ⟨(fun _ h => nomatch h), Nat.zero_le _⟩
  | cons s ss ih =>
    have k := h s List.mem_cons_self
    have i := ih fun x hx => h x (List.mem_cons_of_mem _ hx)
    have r := wb_reach k.1 (by omega)
    refine ⟨fun w hw => ?_, ?_⟩
    · rw [List.flatMap_cons] at hw
      rcases List.mem_append.mp hw with hw | hw
      · rcases List.mem_cons.mp hw with e | hw
        · rw [e]; exact wb_num (sm_turn ht k.2.1 k.2.2)
        · exact r.1 w hw
      · exact i.1 w hw
    · rw [List.flatMap_cons, List.length_append]
      have : (stepWs s).length = 1 + (reachWs s.2).length := by simp [stepWs]; omega
      have := r.2
      have := i.2
      simp only [List.length_cons]
      omega
theorem wb_plot {m : Nat} {t : Int} {p : Plt} (h : GP m t p) (hm : m ≤ 30) (ht : Sm t) : (∀ w ∈ plotWs p, WB w) ∧ (plotWs p).length ≤ 3000 := by
  have r := wb_reach h.g (by omega)
  have s := wb_steps hm ht h.s
  have n := h.n
  refine ⟨fun w hw => ?_, ?_⟩
  · rcases List.mem_append.mp hw with hw | hw
    · exact r.1 w hw
    · rcases List.mem_cons.mp hw with e | hw
      · rw [e]; exact wb_num (sm_small (by omega) (by omega))
      · exact s.1 w hw
  · have := r.2
    have := s.2
    simp only [plotWs, List.length_append, List.length_cons]
    omega
theorem wds_ent {m w : Nat} {t : Int} {e : Ent} {name : Str} (h : GE m t w e) (hw : w ≤ 3) (hm : m ≤ 30) (ht : Sm t) (nm : NameOk name) : Wds (entWs name e) := by
  have p := wb_plot h.plt hm ht
  have hl := h.len
  refine ⟨by simp [entWs], fun x hx => ?_, ?_⟩
  · rcases List.mem_cons.mp hx with rfl | hx
    · exact wb_lit (by decide +kernel)
    rcases List.mem_cons.mp hx with rfl | hx
    · exact wb_name nm
    rcases List.mem_cons.mp hx with rfl | hx
    · exact wb_num (sm_small (by omega) (by omega))
    rcases List.mem_append.mp hx with hx | hx
    · obtain ⟨n, hn, rfl⟩ := List.mem_map.mp hx
      exact wb_num (h.nums n hn)
    rcases List.mem_append.mp hx with hx | hx
    · exact p.1 x hx
    · rw [List.mem_singleton.mp hx]; exact wb_lit (by decide +kernel)
  · have := p.2
    simp only [entWs, List.length_append, List.length_cons, List.length_map, List.length_nil]
    omega
theorem wds_first {n t s : Int} (h1 : Sm n) (h2 : Sm t) (h3 : Sm s) : Wds (firstWs n t s) := by
  refine ⟨by simp [firstWs], fun x hx => ?_, by simp [firstWs]⟩
  simp only [firstWs, List.mem_cons, List.not_mem_nil, or_false] at hx
  rcases hx with rfl | rfl | rfl | rfl | rfl
  · exact wb_lit (by decide +kernel)
  · exact wb_num h1
  · exact wb_num h2
  · exact wb_num h3
  · exact wb_lit (by decide +kernel)
theorem wds_last {k : Nat} (h : k ≤ 1000) : Wds (lastWs k) := by
  refine ⟨by simp [lastWs], fun x hx => ?_, by simp [lastWs]⟩
  simp only [lastWs, List.mem_cons, List.not_mem_nil, or_false] at hx
  rcases hx with rfl | rfl | rfl
  · exact wb_lit (by decide +kernel)
  · exact wb_num (sm_small (by omega) (by omega))
  · exact wb_lit (by decide +kernel)
theorem jn_split {ws : List Str} (h : Wds ws) : Txt.split (jn ws) " " = ws :=
  TL.split_join (y := " ") (s := 32) (S := []) (by decide +kernel) (by decide +kernel) h.1 fun p hp => (h.2.1 p hp).1
theorem jn_inj {ws vs : List Str} (h : Wds ws) (k : Wds vs) (e : jn ws = jn vs) : ws = vs := by rw [← jn_split h, ← jn_split k, e]
theorem sum_len {ws : List Str} (h : ∀ w ∈ ws, WB w) : (ws.map (·.length)).sum ≤ 100 * ws.length := by
  induction ws with
  | nil => exact Nat.zero_le _
  | cons a r ih =>
    have := (h a List.mem_cons_self).2.1
    have := ih fun x hx => h x (List.mem_cons_of_mem _ hx)
    simp
    omega
theorem jn_sum {ws : List Str} (h : Wds ws) : (ws.map (·.length)).sum + ws.length * (Str.ofString " ").length ≤ 16777216 := by
  have a := sum_len h.2.1
  have b := h.2.2
  have c : (Str.ofString " ").length = 1 := by decide +kernel
  rw [c]
  omega
theorem jn_len {ws : List Str} (h : Wds ws) : (jn ws).length + 2 ≤ sizeLine := by
  have a := sum_len h.2.1
  have b := h.2.2
  have k : ∀ vs : List Str, (TL.joinL [32] (vs.map TL.tl)).length ≤ (vs.map (·.length)).sum + vs.length := by
    intro vs
    induction vs with
    | nil => exact Nat.zero_le _
    | cons x r ih =>
      cases r with
      | nil => simp [TL.joinL, TL.len_tl]
      | cons y r =>
        simp only [List.map_cons, TL.joinL, List.length_append, List.sum_cons, List.length_cons, List.length_nil, TL.len_tl] at ih ⊢
        omega
  have e : TL.tl (Str.ofString " ") = [32] := by decide +kernel
  have g := k ws
  rw [TL.len_tl, jn, TL.join_eq, TL.tl_join, e, sizeLine_eq]
  omega
/-! a comprehension of written numbers -/
theorem ite_yes {t e : Prop} (h : t) : if true = true then t else e := by rw [if_pos rfl]; exact h
theorem lc_nums {K : PySem.W.Frag} {a D : Addr} {ns : List Int} {i : Nat} {σ : L2.St} {Q : VK} {H1 : Hp} (h : SqT K H1 a (ns.map V.int)) (hn : ∀ n ∈ ns, Sm n) (hl : ns.length ≤ 10000) (hi : i < σ.length) (nD : H1 D = none)
    (q : ∀ H', Same H1 H' → H' D = some (.lst ((ns.map numS).map V.str)) → Q (.ref D) H') : Lc (Itt K a) (gName i) tYes (tCall sp_write_number [] E0 (tCons (tVar i) tNil)) [i] σ D Q H1 := by
  refine lcw_tup (paired_ints ns) (fun d r acc H' => Same H1 H' ∧ H' D = some (.lst ((d.map numS).map V.str))) ⟨L2.Same.new nD, upd_same⟩ (fun d r acc H' z => h.tk (TK.same z.1)) ?_ ?_
  · rintro d v y r acc H' e rfl ⟨f1, f2⟩
    have dl : ns.length = d.length + (r.length + 1) := by rw [e]; simp
    refine ⟨?_, ?_⟩
    · show ((σ.set i none).set i (some (V.int y))).set i none = σ.set i none
      rw [List.set_set, List.set_set]
    · simp only [tYes, if_true]
      refine ⟨V.int y, ?_, ?_⟩
      · show ((σ.set i none).set i (some (V.int y)))[i]? = some (some (V.int y))
        simp [hi]
      · refine ⟨y, rfl, hn y (by rw [e]; simp), ?_⟩
        refine ⟨_, f2, szl (by simp; omega), [], L2.Same.put f1 nD, ?_⟩
        rw [upd_same]
        simp
  · rintro acc H' ⟨f1, f2⟩
    exact q H' f1 f2
theorem ends_of {f : List Str} (h : f ≠ []) : ∃ y z, f[0]? = some y ∧ f.getLast? = some z ∧ atI (f.map V.str) 0 = some (V.str y) ∧ atI (f.map V.str) (-1) = some (V.str z) := by
  obtain ⟨y, r, rfl⟩ := List.exists_cons_of_ne_nil h
  refine ⟨y, (y :: r).getLast h, rfl, List.getLast?_eq_some_getLast h, atI_nat (j := 0) rfl, ?_⟩
  have e : (y :: r) = (y :: r).dropLast ++ [(y :: r).getLast h] := (List.dropLast_concat_getLast h).symm
  conv => lhs; rw [e]
  rw [List.map_append]
  exact atI_last _ _
theorem not_badE {x : Str × Ent} : ¬ BadE (entWs x.1 x.2) := by
  rintro (h | h)
  · exact h rfl
  · refine h ?_
    have e : entWs x.1 x.2 = (("row" : Str) :: x.1 :: numS x.2.1.length :: (x.2.1.map numS ++ plotWs x.2.2)) ++ [dot] := by simp [entWs]
    rw [e, List.getLast?_append]
    rfl
end HW
set_option Elab.async false
set_option linter.all false
set_option maxRecDepth 100000
set_option maxHeartbeats 4000000
/-! The shelf's and the keeper's states, what moves and what stays; the methods' promises. -/
namespace HW
open PySem PySem.Spec PyProof.Rows L2
def setF {α : Type} (f : Nat → α) (d : Nat) (v : α) : Nat → α := fun i => if i = d then v else f i
theorem setF_same {α : Type} {f : Nat → α} {d : Nat} {v : α} : setF f d v d = v := if_pos rfl
theorem setF_ne {α : Type} {f : Nat → α} {d i : Nat} {v : α} (h : i ≠ d) : setF f d v i = f i := if_neg h
structure Sh where
  x : Addr
  dx : Addr
  bg : Addr
  ly : Addr
  dn : Addr
  la : Nat → Addr
  ts : Nat → List Str
  ds : List (Int × Option Str)
def Sh.mut (s : Sh) (a : Addr) : Prop := a = s.ly ∨ a = s.dn ∨ a = s.la 0 ∨ a = s.la 1 ∨ a = s.la 2
def optS : Option Str → V
  | none => .non
  | some z => .str z
def shF (bg ly dn : Addr) : List (Str × V) := [("began", .ref bg), ("lying", .ref ly), ("done", .ref dn)]
section
variable (K : PySem.W.Frag) (H : Hp)
def IsStk (v : V) (s : Int × Option Str) : Prop := ∃ a, v = .ref a ∧ SqT K H a [.int s.1, optS s.2]
structure ShAt (B : Nat) (s : Sh) : Prop where
  ins : H s.x = some (.ins (He.ga K "Shelf") s.dx (shF s.bg s.ly s.dn))
  lying : H s.ly = some (.lst [.ref (s.la 0), .ref (s.la 1), .ref (s.la 2)])
  dr : ∀ i, i < 3 → H (s.la i) = some (.lst ((s.ts i).map V.str))
  done : ∃ us, H s.dn = some (.lst us) ∧ Paired (IsStk K H) us s.ds
  inj : ∀ i j, i < 3 → j < 3 → s.la i = s.la j → i = j
  ly_la : ∀ i, i < 3 → s.la i ≠ s.ly
  dn_la : ∀ i, i < 3 → s.la i ≠ s.dn
  ly_dn : s.ly ≠ s.dn
  szt : ∀ i, i < 3 → (s.ts i).length ≤ B
  szd : s.ds.length ≤ B
end
/-- from H to H': what M does not name stays; M' names no more, but for what is new -/
def Mv (M : Addr → Prop) (H : Hp) (M' : Addr → Prop) (H' : Hp) : Prop := TK H H' ∧ (∀ a u, H a = some u → ¬ M a → H' a = some u) ∧ ∀ a, M' a → M a ∨ H a = none
theorem Mv.trans {M M1 M2 : Addr → Prop} {H H1 H2 : Hp} (a : Mv M H M1 H1) (b : Mv M1 H1 M2 H2) : Mv M H M2 H2 := by
  refine ⟨a.1.trans b.1, fun x u e n => b.2.1 x u (a.2.1 x u e n) fun m => ?_, fun x m => ?_⟩
  · rcases a.2.2 x m with h | h
    · exact n h
    · rw [e] at h; cases h
  · rcases b.2.2 x m with h | h
    · exact a.2.2 x h
    · by_cases k : M x
      · exact .inl k
      · refine .inr ?_
        cases e : H x with
        | none => rfl
        | some u => rw [a.2.1 x u e k] at h; cases h
theorem Mv.same {M : Addr → Prop} {H H' : Hp} (s : Same H H') : Mv M H M H' := ⟨TK.same s, fun a u e _ => s a u e, fun a m => .inl m⟩
theorem Mv.refl {M : Addr → Prop} {H : Hp} : Mv M H M H := Mv.same (L2.Same.refl H)
theorem Mv.wide {M N M' N' : Addr → Prop} {H H' : Hp} (a : Mv M H M' H') (h : ∀ x, M x → N x) (h' : ∀ x, N' x → M' x ∨ N x) : Mv N H N' H' :=
  ⟨a.1, fun x u e n => a.2.1 x u e fun m => n (h x m), fun x m => by
    rcases h' x m with q | q
    · rcases a.2.2 x q with q | q
      · exact .inl (h x q)
      · exact .inr q
    · exact .inl q⟩
section
variable {K : PySem.W.Frag} {H H' : Hp}
theorem IsStk.tk {v : V} {s : Int × Option Str} (h : IsStk K H v s) (t : TK H H') : IsStk K H' v s := by
  obtain ⟨a, e, h⟩ := h
  exact ⟨a, e, h.tk t⟩
theorem pairK_tk {vs : List V} {ss : List (Int × Option Str)} (h : Paired (IsStk K H) vs ss) (t : TK H H') : Paired (IsStk K H') vs ss := paired_imp h fun _ _ z => z.tk t
theorem IsFrm.tk {v : V} {f : Frm} (h : IsFrm K H v f) (t : TK H H') : IsFrm K H' v f := by
  obtain ⟨a, e, h⟩ := h
  exact ⟨a, e, h.tk t⟩
theorem pairF_tk {vs : List V} {ss : List Frm} (h : Paired (IsFrm K H) vs ss) (t : TK H H') : Paired (IsFrm K H') vs ss := paired_imp h fun _ _ z => z.tk t
theorem IsTel.tk {v : V} {x : Tel} (h : IsTel K H v x) (t : TK H H') : IsTel K H' v x := by
  obtain ⟨a, u, e, h, k⟩ := h
  exact ⟨a, u, e, h.tk t, k.tk t⟩
/-- the shelf's own addresses -/
theorem ShAt.off {B : Nat} {s : Sh} (h : ShAt K H B s) (t : TK H H') (k : ∀ a, a = s.x ∨ s.mut a → H' a = H a) : ShAt K H' B s := by
  obtain ⟨us, e1, e2⟩ := h.done
  have la : ∀ i, i < 3 → s.mut (s.la i) := by
    intro i hi
    have : i = 0 ∨ i = 1 ∨ i = 2 := by omega
    rcases this with rfl | rfl | rfl
    · exact .inr (.inr (.inl rfl))
    · exact .inr (.inr (.inr (.inl rfl)))
    · exact .inr (.inr (.inr (.inr rfl)))
  exact ⟨by rw [k _ (.inl rfl)]; exact h.ins, by rw [k _ (.inr (.inl rfl))]; exact h.lying, fun i hi => by rw [k _ (.inr (la i hi))]; exact h.dr i hi, ⟨us, by rw [k _ (.inr (.inr (.inl rfl)))]; exact e1, pairK_tk e2 t⟩, h.inj, h.ly_la, h.dn_la, h.ly_dn, h.szt, h.szd⟩
theorem ShAt.mut_lst {B : Nat} {s : Sh} (h : ShAt K H B s) {a : Addr} (m : s.mut a) : ∃ us, H a = some (.lst us) := by
  obtain ⟨us, e1, e2⟩ := h.done
  rcases m with rfl | rfl | rfl | rfl | rfl
  · exact ⟨_, h.lying⟩
  · exact ⟨_, e1⟩
  · exact ⟨_, h.dr 0 (by decide)⟩
  · exact ⟨_, h.dr 1 (by decide)⟩
  · exact ⟨_, h.dr 2 (by decide)⟩
theorem ShAt.same {B : Nat} {s : Sh} (h : ShAt K H B s) (t : Same H H') : ShAt K H' B s := by
  refine h.off (TK.same t) fun a m => ?_
  have : ∃ u, H a = some u := by
    rcases m with rfl | m
    · exact ⟨_, h.ins⟩
    · obtain ⟨us, e⟩ := h.mut_lst m
      exact ⟨_, e⟩
  obtain ⟨u, e⟩ := this
  rw [e]; exact t _ _ e
theorem ShAt.mono {B C : Nat} {s : Sh} (h : ShAt K H B s) (le : B ≤ C) : ShAt K H C s := ⟨h.ins, h.lying, h.dr, h.done, h.inj, h.ly_la, h.dn_la, h.ly_dn, fun i hi => Nat.le_trans (h.szt i hi) le, Nat.le_trans h.szd le⟩
end
/-- what the shelf began with: nothing -/
def Bg (H : Hp) (s : Sh) : Prop := ∃ b0 b1 b2, H s.bg = some (.lst [.ref b0, .ref b1, .ref b2]) ∧ (∀ b, b = b0 ∨ b = b1 ∨ b = b2 → H b = some (.lst []) ∧ ¬ s.mut b) ∧ ¬ s.mut s.bg
theorem Bg.mv {H H' : Hp} {s s' : Sh} (h : Bg H s) (m : Mv s.mut H s'.mut H') (e : s'.bg = s.bg) : Bg H' s' := by
  obtain ⟨b0, b1, b2, h1, h2, h3⟩ := h
  have no : ∀ a u, H a = some u → ¬ s.mut a → ¬ s'.mut a := by
    intro a u e n k
    rcases m.2.2 a k with q | q
    · exact n q
    · rw [e] at q; cases q
  refine ⟨b0, b1, b2, by rw [e]; exact m.2.1 _ _ h1 h3, fun b hb => ⟨m.2.1 _ _ (h2 b hb).1 (h2 b hb).2, no b _ (h2 b hb).1 (h2 b hb).2⟩, by rw [e]; exact no _ _ h1 h3⟩
/-! ### the shelf's promises -/
section
variable (K : PySem.W.Frag)
def sp_sh_init : Sp := fun vs H Q _ => ∃ x dx, vs = [.ref x] ∧ H x = some (.ins (He.ga K "Shelf") dx []) ∧ ∀ s H', s.x = x → TK H H' → (∀ a u, a ≠ x → H a = some u → H' a = some u) → (∀ a, s.mut a → H a = none) → (∀ i, s.ts i = []) → s.ds = [] → ShAt K H' 0 s → Bg H' s → Q .non H'
def sp_put : Sp := fun vs H Q _ => ∃ s B z, ∃ d : Nat, vs = [.ref s.x, .int (d : Int), .str z] ∧ d < 3 ∧ ShAt K H B s ∧ B ≤ 90000 ∧
  ∀ s' H', s'.x = s.x → s'.bg = s.bg → s'.ts = setF s.ts d (s.ts d ++ [z]) → s'.ds = s.ds ++ [((d : Int), some z)] → Mv s.mut H s'.mut H' → ShAt K H' (B + 1) s' → Q .non H'
def sp_clear : Sp := fun vs H Q _ => ∃ s B, ∃ d : Nat, vs = [.ref s.x, .int (d : Int)] ∧ d < 3 ∧ ShAt K H B s ∧ B ≤ 90000 ∧
  ∀ s' H', s'.x = s.x → s'.bg = s.bg → s'.ts = setF s.ts d [] → s'.ds = s.ds ++ [((d : Int), none)] → Mv s.mut H s'.mut H' → ShAt K H' (B + 1) s' → Q .non H'
def sp_rows : Sp := fun vs H Q _ => ∃ s B, ∃ d : Nat, vs = [.ref s.x, .int (d : Int)] ∧ d < 3 ∧ ShAt K H B s ∧ ∀ a H', H a = none → Same H H' → H' a = some (.lst ((s.ts d).map V.str)) → Q (.ref a) H'
def sp_strokes : Sp := fun vs H Q _ => ∃ s B, vs = [.ref s.x] ∧ ShAt K H B s ∧ ∀ a us H', H a = none → Same H H' → H' a = some (.lst us) → Paired (IsStk K H') us s.ds → Q (.ref a) H'
/-- the texts put into drawer i -/
def putsTo (i : Nat) (ps : List (Nat × Str)) : List Str := (ps.filter fun p => decide (p.1 = i)).map (·.2)
def sp_fallen : Sp := fun vs H Q _ => ∃ s B ps, vs = [.ref s.x, .int (s.ds.length : Nat), .int 0] ∧ ShAt K H B s ∧ Bg H s ∧ s.ds = ps.map (fun p => ((p.1 : Int), some p.2)) ∧ (∀ p ∈ ps, p.1 < 3) ∧ B ≤ 20000 ∧
  ∀ s' H', Same H H' → (∀ a, s'.mut a ∨ a = s'.x → H a = none) → s'.ds = [] → (∀ i, i < 3 → s'.ts i = putsTo i ps) → ShAt K H' B s' → Q (.ref s'.x) H'
/-! ### the keeper -/
structure Kp where
  x : Addr
  dx : Addr
  fm : Addr
  kd : Addr
  ca : Addr
  sh : Sh
  fs : List Frm
  dr : Nat
  num : Int
  now : Int
  since : Int
  tb : Str → List Ent
  z : Addr → Prop
def Kp.mut (k : Kp) (a : Addr) : Prop := a = k.x ∨ a = k.kd ∨ k.sh.mut a
def kpF (sh fm kd ca : Addr) (now since : Int) : List (Str × V) := [("on_shelf", .ref sh), ("forms", .ref fm), ("known", .ref kd), ("card_at", .ref ca), ("turn_now", .int now), ("known_from", .int since)]
/-- a dict of tables -/
def IsKn (H : Hp) (a : Addr) (ns : List Str) (tb : Str → List Ent) (P : Addr → Prop) : Prop := ∃ kvs : List (Key × V), H a = some (.dK kvs) ∧ kvs.map (·.1) = ns.map Sum.inr ∧ ∀ n ∈ ns, ∃ b, valV kvs (.inr n) = some (.ref b) ∧ IsTab K H (.ref b) (tb n) ∧ P b
def Kp.ns (k : Kp) : List Str := k.fs.map Frm.name
structure KpAt (H : Hp) (m B : Nat) (k : Kp) : Prop where
  ins : H k.x = some (.ins (He.ga K "Keeper") k.dx (kpF k.sh.x k.fm k.kd k.ca k.now k.since))
  forms : ∃ us, H k.fm = some (.lst us) ∧ Paired (IsFrm K H) us k.fs
  fmn : ¬ k.sh.mut k.fm
  known : IsKn K H k.kd k.ns k.tb (fun b => ¬ k.sh.mut b ∧ ¬ k.z b)
  card : SqT K H k.ca [.int (k.dr : Nat), .int k.num]
  shelf : ShAt K H B k.sh
  gt : ∀ f ∈ k.fs, GT m k.now f.width (k.tb f.name)
  fr : ∀ f ∈ k.fs, NameOk f.name ∧ f.keys ≤ f.width ∧ 1 ≤ f.width ∧ f.width ≤ 3
  nd : k.ns.Nodup
  two : k.fs.length ≤ 3
  drs : k.dr = 1 ∨ k.dr = 2
  n0 : 0 ≤ k.num ∧ k.num ≤ 1000
  t0 : 0 ≤ k.since ∧ k.since ≤ k.now ∧ k.now ≤ 1000
  fz : ¬ k.z k.fm
  zt : ∀ a, k.z a → (∃ u, H a = some u) ∧ ¬ k.mut a
def KpSame (k k' : Kp) : Prop := k'.x = k.x ∧ k'.fs = k.fs ∧ k'.sh.x = k.sh.x ∧ k'.z = k.z
def newest (o1 o2 : Option Crd) : Option (Nat × Crd) := match o1, o2 with
  | none, none => none
  | some c, none => some (1, c)
  | none, some e => some (2, e)
  | some c, some e => if c.num < e.num then some (2, e) else some (1, c)
def sp_newest_card : Sp := fun vs H Q _ => ∃ ns wd s B r1 r2 o1 o2, vs = [.ref s.x] ∧ ShAt K H B s ∧ s.ts 1 = r1.map jn ∧ s.ts 2 = r2.map jn ∧ RdC ns wd r1 o1 ∧ RdC ns wd r2 o2 ∧ (∀ n ∈ ns, NameOk n ∧ 1 ≤ wd n ∧ wd n ≤ 3) ∧ ns.length ≤ 3 ∧ B ≤ 1000 ∧
  (newest o1 o2 = none → ∀ H', Same H H' → Q .non H') ∧ ∀ d c a u H', newest o1 o2 = some (d, c) → Same H H' → SqT K H' a [.int (d : Nat), u] → IsCrd K ns H' u c → Q (.ref a) H'
/-- where the keeper begins, by the newest card -/
def Begun (k : Kp) : Option (Nat × Crd) → Prop
  | none => k.dr = 2 ∧ k.num = 0 ∧ k.now = 0 ∧ k.since = 0 ∧ ∀ n ∈ k.ns, k.tb n = []
  | some (d, c) => k.dr = d ∧ k.num = c.num ∧ k.now = c.turn ∧ k.since = c.since ∧ ∀ n ∈ k.ns, k.tb n = c.tb n
def FrOk (fs : List Frm) : Prop := (∀ f ∈ fs, NameOk f.name ∧ f.keys ≤ f.width ∧ 1 ≤ f.width ∧ f.width ≤ 3) ∧ (fs.map Frm.name).Nodup ∧ fs.length ≤ 3
def sp_kp_init : Sp := fun vs H Q _ => ∃ x dx s B l us fs wd m r1 r2 o1 o2, vs = [.ref x, .ref s.x, .ref l] ∧ H x = some (.ins (He.ga K "Keeper") dx []) ∧ H l = some (.lst us) ∧ Paired (IsFrm K H) us fs ∧ FrOk fs ∧ (∀ f ∈ fs, wd f.name = f.width) ∧
  ShAt K H B s ∧ B ≤ 1000 ∧ s.ts 0 = [] ∧ s.ts 1 = r1.map jn ∧ s.ts 2 = r2.map jn ∧ RdC (fs.map Frm.name) wd r1 o1 ∧ RdC (fs.map Frm.name) wd r2 o2 ∧ m ≤ 30 ∧
  (∀ d c, newest o1 o2 = some (d, c) → GC (fs.map Frm.name) wd m c ∧ (d = 1 ∨ d = 2) ∧ c.num ≤ 1000 ∧ c.turn ≤ 1000) ∧
  ∀ k H', k.x = x → k.sh = s → k.fs = fs → Begun k (newest o1 o2) → TK H H' → (∀ a u, a ≠ x → H a = some u → H' a = some u) → (∀ a, k.mut a → a = x ∨ s.mut a ∨ H a = none) → KpAt K H' m B k → Q .non H'
def sp_keys_of : Sp := fun vs H Q _ => ∃ k m B f, vs = [.ref k.x, .str f.name] ∧ KpAt K H m B k ∧ f ∈ k.fs ∧ Q (.int (f.keys : Nat)) H
def sp_take_in : Sp := fun vs H Q _ => ∃ k m B f v x, vs = [.ref k.x, v] ∧ KpAt K H m B k ∧ f ∈ k.fs ∧ IsTel K H v x ∧ x.name = f.name ∧ GTel f.width f.keys x ∧ m ≤ 28 ∧ k.now ≤ 900 ∧
  ∀ k' H', KpSame k k' → k'.sh = k.sh → k'.dr = k.dr → k'.num = k.num → k'.now = k.now + 1 → k'.since = k.since → Mv k.mut H k'.mut H' → KpAt K H' (m + 2) B k' → Q .non H'
def ToldQ (H : Hp) (Q : VK) (k : Kp) (m B : Nat) : Prop := ∀ k' H', KpSame k k' → k'.dr = k.dr → k'.num = k.num → k'.now = k.now + 1 → k'.since = k.since → Mv k.mut H k'.mut H' → KpAt K H' (m + 2) (B + 1) k' → Q (.int k'.now) H'
def sp_said : Sp := fun vs H Q _ => ∃ k m B f v x, vs = [.ref k.x, v] ∧ KpAt K H m B k ∧ f ∈ k.fs ∧ IsTel K H v x ∧ x.name = f.name ∧ GTel f.width f.keys x ∧ m ≤ 28 ∧ k.now ≤ 900 ∧ B ≤ 9000 ∧ ToldQ K H Q k m B
def sp_tell (b : Bool) : Sp := fun vs H Q _ => ∃ k m B f u x, vs = [.ref k.x, .str x.name, u, optV x.lo, optV x.hi] ∧ x.tell = b ∧ KpAt K H m B k ∧ f ∈ k.fs ∧ IsRow H u x.row ∧ x.name = f.name ∧ GTel f.width f.keys x ∧ m ≤ 28 ∧ k.now ≤ 900 ∧ B ≤ 9000 ∧ ToldQ K H Q k m B
def sp_card : Sp := fun vs H Q _ => ∃ k m B t, vs = [.ref k.x, .int t] ∧ KpAt K H m B k ∧ k.since ≤ t ∧ t ≤ k.now ∧ m ≤ 29 ∧ B ≤ 9000 ∧ k.num ≤ 900 ∧
  ∀ k' H', KpSame k k' → k'.dr = 3 - k.dr → k'.num = k.num + 1 → k'.now = k.now → k'.since = t → k'.sh.ts k'.dr = (cardWs k.ns ⟨k'.num, k'.now, k'.since, k'.tb⟩).map jn →
    (∃ mid, k'.sh.ds = k.sh.ds ++ (((3 - k.dr : Nat) : Int), none) :: (mid ++ [(0, none)])) → Mv k.mut H k'.mut H' → KpAt K H' (m + 1) (B + 200) k' → Q (.int k'.num) H'
def sp_now : Sp := fun vs H Q _ => ∃ k m B, vs = [.ref k.x] ∧ KpAt K H m B k ∧ Q (.int k.now) H
def sp_since : Sp := fun vs H Q _ => ∃ k m B, vs = [.ref k.x] ∧ KpAt K H m B k ∧ Q (.int k.since) H
def sp_tables : Sp := fun vs H Q _ => ∃ k m B, vs = [.ref k.x] ∧ KpAt K H m B k ∧ ∀ a H', H a = none → Same H H' → IsKn K H' a k.ns k.tb (fun b => H b = none) → Q (.ref a) H'
end
section
variable {P : Program} {w : World} {K : PySem.W.Frag} {mg : Str → Option Value} {base : Heap}
theorem mk_mt {C : CXT} {k : Nat} {c x qual : Str} {args : Arguments} {body : List Stmt} {scope : Scope} {f : Addr} {fd : FuncData} {ps : List Str} {sp : Sp} (F : FunD K x qual args body scope [] [] f fd) (m : Meth K (He.ga K c) x f)
    (hb : ∀ (kV doc pm : Value) (an : Option Addr) (cdv ct : Value) (us : List Value), us.length = ps.length → bindArgs (PySem.W.fnOf x qual args body scope .none kV doc pm an cdv ct) ⟨us, []⟩ = pure (ps.zip us))
    (G : FnOk P w K mg base C k f fd ps sp) : Mt P w K mg base C k c x ps sp := ⟨_, fd, G, m, F.bindsN hb⟩
theorem mk_it {C : CXT} {k : Nat} {c x qual : Str} {args : Arguments} {body : List Stmt} {scope : Scope} {f : Addr} {fd : FuncData} {ps : List Str} {sp : Sp} (F : FunD K x qual args body scope [] [] f fd) (m : Mk K (He.ga K c) f) (g : mg c = some (.ref (He.ga K c)))
    (hb : ∀ (kV doc pm : Value) (an : Option Addr) (cdv ct : Value) (us : List Value), us.length = ps.length → bindArgs (PySem.W.fnOf x qual args body scope .none kV doc pm an cdv ct) ⟨us, []⟩ = pure (ps.zip us))
    (G : FnOk P w K mg base C k f fd ps sp) : It0 P w K mg base C k c ps sp := ⟨_, fd, G, m, g, F.bindsN hb⟩
end
theorem sh_bg (a b c : Addr) : (shF a b c).lookup ("began" : Str) = some (.ref a) := by rfl
theorem sh_ly (a b c : Addr) : (shF a b c).lookup ("lying" : Str) = some (.ref b) := by rfl
theorem sh_dn (a b c : Addr) : (shF a b c).lookup ("done" : Str) = some (.ref c) := by rfl
theorem mut_la {s : Sh} {i : Nat} (hi : i < 3) : s.mut (s.la i) := by
  have : i = 0 ∨ i = 1 ∨ i = 2 := by omega
  rcases this with rfl | rfl | rfl
  · exact .inr (.inr (.inl rfl))
  · exact .inr (.inr (.inr (.inl rfl)))
  · exact .inr (.inr (.inr (.inr rfl)))
theorem mut_cases {s : Sh} {a : Addr} (m : s.mut a) : a = s.ly ∨ a = s.dn ∨ ∃ i, i < 3 ∧ a = s.la i := by
  rcases m with m | m | m | m | m
  · exact .inl m
  · exact .inr (.inl m)
  · exact .inr (.inr ⟨0, by decide, m⟩)
  · exact .inr (.inr ⟨1, by decide, m⟩)
  · exact .inr (.inr ⟨2, by decide, m⟩)
theorem at3 {la : Nat → Addr} {d : Nat} (h : d < 3) : atI [V.ref (la 0), V.ref (la 1), V.ref (la 2)] (d : Int) = some (V.ref (la d)) := by
  have : d = 0 ∨ d = 1 ∨ d = 2 := by omega
  rcases this with rfl | rfl | rfl <;> exact atI_nat rfl
theorem set3 {la : Nat → Addr} {d : Nat} {p : Addr} (h : d < 3) : [V.ref (la 0), V.ref (la 1), V.ref (la 2)].set d (V.ref p) = [V.ref (setF la d p 0), V.ref (setF la d p 1), V.ref (setF la d p 2)] := by
  have : d = 0 ∨ d = 1 ∨ d = 2 := by omega
  rcases this with rfl | rfl | rfl <;> rfl
theorem ix3 {d : Nat} (h : d < 3) : ixN 3 (d : Int) = some d := by
  have : d = 0 ∨ d = 1 ∨ d = 2 := by omega
  rcases this with rfl | rfl | rfl <;> rfl
/-- a list of three lists, copied -/
theorem lc_copy {K : PySem.W.Frag} {H1 : Hp} {a D : Addr} {c : Nat → Addr} {tx : Nat → List V} {i : Nat} {σ : L2.St} {Q : VK} (h : H1 a = some (.lst [.ref (c 0), .ref (c 1), .ref (c 2)])) (hc : ∀ i, i < 3 → H1 (c i) = some (.lst (tx i))) (hi : i < σ.length) (nD : H1 D = none)
    (q : ∀ (e : Nat → Addr) H', Same H1 H' → H' D = some (.lst [.ref (e 0), .ref (e 1), .ref (e 2)]) → (∀ i, i < 3 → H' (e i) = some (.lst (tx i)) ∧ H1 (e i) = none ∧ e i ≠ D) → (∀ i j, i < 3 → j < 3 → e i = e j → i = j) → Q (.ref D) H') :
    Lc (Itl K a) (gName i) tYes (tCB (rListOf K) (tCons (tVar i) tNil)) [i] σ D Q H1 := by
  have hp : Paired (fun (v : V) j => v = .ref (c j)) [.ref (c 0), .ref (c 1), .ref (c 2)] (List.range 3) := .cons rfl (.cons rfl (.cons rfl .nil))
  refine lcw_list hp (fun d r acc H' => Same H1 H' ∧ H' D = some (.lst acc) ∧ ∃ ls : List Addr, acc = ls.map V.ref ∧ ls.length = d.length ∧ (∀ k l, ls[k]? = some l → H' l = some (.lst (tx k)) ∧ H1 l = none ∧ l ≠ D) ∧ ls.Nodup) ⟨L2.Same.new nD, upd_same, [], rfl, rfl, (fun k l e => by simp at e), .nil⟩ (fun d r acc H' z => SqL.of (z.1 _ _ h)) ?_ ?_
  · rintro d v y r acc H' e rfl ⟨f1, f2, ls, rfl, f4, f5, f6⟩
    have hy : y = d.length := by
      have : (List.range 3)[d.length]? = some y := by rw [e]; simp
      rw [List.getElem?_range (by have := congrArg List.length e; simp at this; omega)] at this
      exact (Option.some.inj this).symm
    have hd : d.length < 3 := by have := congrArg List.length e; simp at this; omega
    refine ⟨?_, ?_⟩
    · show ((σ.set i none).set i (some (V.ref (c y)))).set i none = σ.set i none
      rw [List.set_set, List.set_set]
    · simp only [tYes, if_true]
      refine ⟨V.ref (c y), ?_, ?_⟩
      · show ((σ.set i none).set i (some (V.ref (c y))))[i]? = some (some (V.ref (c y)))
        simp [hi]
      · refine ⟨c y, tx y, rfl, .inl (SqL.of (f1 _ _ (hc y (by omega)))), fun l nl => ?_⟩
        have sl := L2.Same.new (o := .lst (tx y)) nl
        have ne : l ≠ D := fun z => by rw [z, f2] at nl; cases nl
        refine ⟨_, sl _ _ f2, szl (by simp; omega), _, L2.Same.put (f1.trans sl) nD, upd_same, ls ++ [l], by simp, by simp [f4], fun k l2 e2 => ?_, ?_⟩
        · by_cases hk : k < ls.length
          · rw [List.getElem?_append_left hk] at e2
            have := f5 k l2 e2
            exact ⟨get_ne (sl _ _ this.1) this.2.2, this.2⟩
          · rw [List.getElem?_append_right (by omega)] at e2
            have hk2 : k - ls.length = 0 := by
              have := (List.getElem?_eq_some_iff.mp e2).1
              simp at this; omega
            rw [hk2] at e2
            have e3 : l2 = l := by simpa using e2.symm
            have hky : k = y := by omega
            rw [e3, hky]
            exact ⟨get_ne upd_same ne, f1.none nl, ne⟩
        · refine List.nodup_append.mpr ⟨f6, by simp, fun u hu v hv => ?_⟩
          rw [show v = l by simpa using hv]
          obtain ⟨k, hk⟩ := List.mem_iff_getElem?.mp hu
          exact fun z => by rw [← z, (f5 k u hk).1] at nl; cases nl
  · rintro acc H' ⟨f1, f2, ls, rfl, f4, f5, f6⟩
    have f4' : ls.length = 3 := by simpa using f4
    match ls, f4' with
    | [e0, e1, e2], _ =>
      have g : ∀ i, i < 3 → [e0, e1, e2][i]? = some ((fun i => if i = 0 then e0 else if i = 1 then e1 else e2) i) := by
        intro i hi
        have : i = 0 ∨ i = 1 ∨ i = 2 := by omega
        rcases this with rfl | rfl | rfl <;> rfl
      refine q (fun i => if i = 0 then e0 else if i = 1 then e1 else e2) H' f1 f2 (fun i hi => f5 i _ (g i hi)) fun i j hi hj e => ?_
      have a := g i hi
      have b := g j hj
      exact (List.getElem?_inj (by simpa using hi) f6).mp (a.trans ((congrArg some e).trans b.symm))
end HW
set_option Elab.async false
set_option linter.all false
set_option maxRecDepth 100000
set_option maxHeartbeats 4000000
/-! The law's own promises. -/
namespace HW
open PySem PySem.Spec PyProof.Rows L2
section
variable (K : PySem.W.Frag)
def IsScr (H : Hp) (v : V) : Prop := ∃ a ns, v = .ref a ∧ SqL K H a (List.map V.int ns) ∧ ns.length ≤ 63
def sp_draw : Sp := fun vs H Q _ => ∃ v k m, vs = [v, .int k, .int m] ∧ IsScr K H v ∧ 0 ≤ k ∧ k ≤ 1000000 ∧ 1 ≤ m ∧ m ≤ 1000000000 ∧ ∀ r : Int, 0 ≤ r → r < m → Q (.int r) H
def sp_far : Sp := fun vs H Q _ => ∃ v k, vs = [v, .int k] ∧ IsScr K H v ∧ 0 ≤ k ∧ k ≤ 1000000 ∧ ∀ r : Int, 0 ≤ r → r < 10 ^ 50 → Q (.int r) H
def sp_name : Sp := fun vs H Q _ => ∃ v k, vs = [v, .int k] ∧ IsScr K H v ∧ 0 ≤ k ∧ k ≤ 10000 ∧ ∀ z, NameOk z → Q (.str z) H
def sp_shapes : Sp := fun vs H Q _ => ∃ v, vs = [v] ∧ IsScr K H v ∧ ∀ a us fs H', H a = none → Same H H' → H' a = some (.lst us) → Paired (IsFrm K H') us fs → FrOk fs → fs.length = 2 → Q (.ref a) H'
def sp_stretch : Sp := fun vs H Q _ => ∃ v k, vs = [v, .int k] ∧ IsScr K H v ∧ 0 ≤ k ∧ k ≤ 10000 ∧ ∀ a lo hi H', Same H H' → SqT K H' a [optV lo, optV hi] → (∀ n ∈ lo, Sm n) → (∀ n ∈ hi, Sm n) → (∀ x ∈ lo, ∀ y ∈ hi, x < y) → Q (.ref a) H'
def sp_deed : Sp := fun vs H Q _ => ∃ v k l us fs, vs = [v, .int k, .ref l] ∧ IsScr K H v ∧ 0 ≤ k ∧ k ≤ 1000 ∧ H l = some (.lst us) ∧ Paired (IsFrm K H) us fs ∧ FrOk fs ∧ fs.length = 2 ∧ ∀ u x f H', Same H H' → IsTel K H' u x → f ∈ fs → x.name = f.name → GTel f.width f.keys x → Q u H'
def sp_done : Sp := fun vs H Q _ => ∃ k m B f v x, vs = [.ref k.x, v] ∧ KpAt K H m B k ∧ f ∈ k.fs ∧ IsTel K H v x ∧ x.name = f.name ∧ GTel f.width f.keys x ∧ m ≤ 28 ∧ k.now ≤ 900 ∧ B ≤ 9000 ∧ ToldQ K H Q k m B
/-- what one keeper left: its card's rows, and what it knew -/
def IsKept (H : Hp) (v : V) (ns : List Str) (c : Crd) : Prop := ∃ p r u t, v = .ref p ∧ SqT K H p [.ref r, .ref u] ∧ H r = some (.lst ((cardWs ns c).map fun f => V.str (jn f))) ∧ SqT K H u [.int c.turn, .int c.since, .ref t] ∧ IsKn K H t ns c.tb (fun _ => True)
def wdF (fs : List Frm) (n : Str) : Nat := ((fs.find? fun f => decide (f.name = n)).map Frm.width).getD 1
def sp_kept : Sp := fun vs H Q _ => ∃ v l us fs, ∃ d : Nat, vs = [v, .ref l, .int (d : Int)] ∧ IsScr K H v ∧ H l = some (.lst us) ∧ Paired (IsFrm K H) us fs ∧ FrOk fs ∧ fs.length = 2 ∧ (d = 1 ∨ d = 2) ∧
  ∀ a x y c e H', Same H H' → H' a = some (.lst [x, y]) → IsKept K H' x (fs.map Frm.name) c → IsKept K H' y (fs.map Frm.name) e → GC (fs.map Frm.name) (wdF fs) 28 c → GC (fs.map Frm.name) (wdF fs) 28 e → c.num = (d : Int) → e.num = (d : Int) + 1 → c.turn ≤ 900 → e.turn ≤ 900 → Q (.ref a) H'
def sp_bent : Sp := fun vs H Q _ => ∃ v r ns wd c, vs = [v, .ref r] ∧ IsScr K H v ∧ H r = some (.lst ((cardWs ns c).map fun f => V.str (jn f))) ∧ GC ns wd 30 c ∧ (∀ n ∈ ns, NameOk n ∧ 1 ≤ wd n ∧ wd n ≤ 3) ∧ ns.length ≤ 3 ∧
  ∀ b B H', Same H H' → H' b = some (.lst (List.map (fun f => V.str (jn f)) B)) → (B = cardWs ns c ∨ (RdC ns wd B none ∧ B.map jn ≠ (cardWs ns c).map jn)) → B.length ≤ 400 → (∀ w ∈ B, Wds w) → Q (.ref b) H'
def sp_law : Sp := fun vs H Q _ => ∃ a ns, vs = [.ref a] ∧ SqL K H a (List.map V.int ns) ∧ ns.length ≤ 63 ∧ ∀ H', Q (.bl true) H'
end
theorem IsScr.same {K : PySem.W.Frag} {H H' : Hp} {v : V} (h : IsScr K H v) (s : Same H H') : IsScr K H' v := by
  obtain ⟨a, ns, e, h1, h2⟩ := h
  refine ⟨a, ns, e, ?_, h2⟩
  rcases h1 with (h | ⟨o, h⟩) | h
  · exact .inl (.inl (s _ _ h))
  · exact .inl (.inr ⟨o, s _ _ h⟩)
  · exact .inr h
end HW
set_option Elab.async false
set_option linter.all false
set_option maxRecDepth 100000
set_option maxHeartbeats 4000000
/-! How a keeper's state lives on. -/
namespace HW
open PySem PySem.Spec PyProof.Rows L2
section
variable (sh fm kd ca : Addr) (now since : Int)
theorem kp_sh : (kpF sh fm kd ca now since).lookup ("on_shelf" : Str) = some (.ref sh) := by rfl
theorem kp_fm : (kpF sh fm kd ca now since).lookup ("forms" : Str) = some (.ref fm) := by rfl
theorem kp_kd : (kpF sh fm kd ca now since).lookup ("known" : Str) = some (.ref kd) := by rfl
theorem kp_ca : (kpF sh fm kd ca now since).lookup ("card_at" : Str) = some (.ref ca) := by rfl
theorem kp_now : (kpF sh fm kd ca now since).lookup ("turn_now" : Str) = some (.int now) := by rfl
theorem kp_from : (kpF sh fm kd ca now since).lookup ("known_from" : Str) = some (.int since) := by rfl
theorem kp_len : (kpF sh fm kd ca now since).length < 1000 := by show 6 < 1000; decide
theorem put_now (v : Int) : putF "turn_now" (V.int v) (kpF sh fm kd ca now since) = kpF sh fm kd ca v since := by rfl
theorem put_from (v : Int) : putF "known_from" (V.int v) (kpF sh fm kd ca now since) = kpF sh fm kd ca now v := by rfl
theorem put_ca (v : Addr) : putF "card_at" (V.ref v) (kpF sh fm kd ca now since) = kpF sh fm kd v now since := by rfl
end
section
variable {K : PySem.W.Frag} {H H' : Hp} {m B : Nat} {k : Kp}
theorem IsTab.mv {v : V} {es : List Ent} (h : IsTab K H v es) (t : TK H H') (s : ∀ a u, v = .ref a → H a = some u → H' a = some u) : IsTab K H' v es := by
  obtain ⟨a, us, rfl, h1, h2⟩ := h
  exact ⟨a, us, rfl, s _ _ rfl h1, pairE_tk h2 t⟩
theorem IsKn.mv {a : Addr} {ns : List Str} {tb : Str → List Ent} {P P' : Addr → Prop} (h : IsKn K H a ns tb P) (t : TK H H') (s : ∀ u, H a = some u → H' a = some u) (sb : ∀ b u, P b → H b = some (.lst u) → H' b = some (.lst u)) (hp : ∀ b u, P b → H b = some (.lst u) → P' b) : IsKn K H' a ns tb P' := by
  obtain ⟨kvs, e, ek, h⟩ := h
  refine ⟨kvs, s _ e, ek, fun n hn => ?_⟩
  obtain ⟨b, hb, ⟨c, us, hc, h1, h2⟩, hp1⟩ := h n hn
  cases hc
  exact ⟨b, hb, ⟨b, us, rfl, sb _ _ hp1 h1, pairE_tk h2 t⟩, hp _ _ hp1 h1⟩
theorem KpAt.x_sh (hk : KpAt K H m B k) : k.sh.x ≠ k.x := fun e => by
  have a := hk.shelf.ins
  rw [e, hk.ins] at a
  have := congrArg List.length (HO.ins.inj (Option.some.inj a)).2.2
  simp [kpF, shF] at this
theorem KpAt.x_mut (hk : KpAt K H m B k) : ¬ k.sh.mut k.x := fun h => by
  obtain ⟨us, e⟩ := hk.shelf.mut_lst h
  rw [hk.ins] at e
  cases e
theorem KpAt.kd_mut (hk : KpAt K H m B k) : ¬ k.sh.mut k.kd := fun h => by
  obtain ⟨us, e⟩ := hk.shelf.mut_lst h
  obtain ⟨kvs, e2, _⟩ := hk.known
  rw [e2] at e
  cases e
theorem KpAt.x_kd (hk : KpAt K H m B k) : k.kd ≠ k.x := fun h => by
  obtain ⟨kvs, e2, _⟩ := hk.known
  rw [h, hk.ins] at e2
  cases e2
/-- all that is the keeper's stays -/
theorem KpAt.same (hk : KpAt K H m B k) (s : Same H H') : KpAt K H' m B k := by
  obtain ⟨us, f1, f2⟩ := hk.forms
  exact ⟨s _ _ hk.ins, ⟨us, s _ _ f1, pairF_tk f2 (TK.same s)⟩, hk.fmn, hk.known.mv (TK.same s) (fun u e => s _ _ e) (fun b u _ e => s _ _ e) (fun b u h _ => h), hk.card.tk (TK.same s), hk.shelf.same s, hk.gt, hk.fr, hk.nd, hk.two, hk.drs, hk.n0, hk.t0, hk.fz, fun a h => ⟨let ⟨u, e⟩ := (hk.zt a h).1; ⟨u, s _ _ e⟩, (hk.zt a h).2⟩⟩
/-- a field is set -/
theorem KpAt.fld (hk : KpAt K H m B k) {ca : Addr} {now since num : Int} {dr : Nat} (hc : SqT K H ca [.int (dr : Nat), .int num]) (gt : ∀ f ∈ k.fs, GT m now f.width (k.tb f.name)) (hd : dr = 1 ∨ dr = 2) (hn : 0 ≤ num ∧ num ≤ 1000) (ht : 0 ≤ since ∧ since ≤ now ∧ now ≤ 1000) :
    KpAt K (upd H k.x (.ins (He.ga K "Keeper") k.dx (kpF k.sh.x k.fm k.kd ca now since))) m B { k with ca := ca, now := now, since := since, num := num, dr := dr } ∧ Mv k.mut H k.mut (upd H k.x (.ins (He.ga K "Keeper") k.dx (kpF k.sh.x k.fm k.kd ca now since))) := by
  have tk : TK H (upd H k.x (.ins (He.ga K "Keeper") k.dx (kpF k.sh.x k.fm k.kd ca now since))) := TK.put hk.ins rfl
  obtain ⟨us, f1, f2⟩ := hk.forms
  refine ⟨⟨upd_same, ⟨us, get_put f1 hk.ins (fun z => nomatch z), pairF_tk f2 tk⟩, hk.fmn, hk.known.mv tk (fun u e => get_ne e hk.x_kd) (fun b u _ e => get_put e hk.ins (fun z => nomatch z)) (fun b u h _ => h), hc.tk tk, hk.shelf.off tk fun a h => ?_, gt, hk.fr, hk.nd, hk.two, hd, hn, ht, hk.fz, fun a h => ⟨let ⟨u, e⟩ := (hk.zt a h).1; ⟨u, get_ne e (fun e2 => (hk.zt a h).2 (.inl e2))⟩, (hk.zt a h).2⟩⟩, tk, fun a u e n => get_ne e (fun h => n (.inl h)), fun a m => .inl m⟩
  refine upd_ne fun e => ?_
  rcases h with h | h
  · exact hk.x_sh (h.symm.trans e)
  · exact hk.x_mut (e ▸ h)
/-- a table is set -/
theorem KpAt.kn (hk : KpAt K H m B k) {kvs : List (Key × V)} {a : Addr} {us : List V} {es : List Ent} {n : Str} (hkv : H k.kd = some (.dK kvs)) (hn : n ∈ k.ns) (ha : H a = some (.lst us)) (hp : Paired (IsEnt K H) us es) (hm : ¬ k.sh.mut a ∧ ¬ k.z a) (gt : ∀ f ∈ k.fs, f.name = n → GT m k.now f.width es) :
    KpAt K (upd H k.kd (.dK (putK kvs (.inr n) (.ref a)))) m B { k with tb := fun x => if x = n then es else k.tb x } ∧ Mv k.mut H k.mut (upd H k.kd (.dK (putK kvs (.inr n) (.ref a)))) := by
  have tk : TK H (upd H k.kd (.dK (putK kvs (.inr n) (.ref a)))) := TK.put hkv rfl
  obtain ⟨fus, f1, f2⟩ := hk.forms
  obtain ⟨kvs2, e2, ek, h⟩ := hk.known
  rw [e2] at hkv
  cases hkv
  refine ⟨⟨get_ne hk.ins (fun h => hk.x_kd h.symm), ⟨fus, get_put f1 e2 (fun z => nomatch z), pairF_tk f2 tk⟩, hk.fmn, ⟨_, upd_same, ?_, fun x hx => ?_⟩, hk.card.tk tk, hk.shelf.off tk fun b h => ?_, fun f hf => ?_, hk.fr, hk.nd, hk.two, hk.drs, hk.n0, hk.t0, hk.fz, fun a h => ⟨let ⟨u, e⟩ := (hk.zt a h).1; ⟨u, get_ne e (fun e2 => (hk.zt a h).2 (.inr (.inl e2)))⟩, (hk.zt a h).2⟩⟩, tk, fun b u e no => get_ne e (fun h => no (.inr (.inl h))), fun b m => .inl m⟩
  · have : (valV kvs (Sum.inr n)).isSome = true := by obtain ⟨b, hb, _⟩ := h n hn; rw [hb]; rfl
    unfold putK
    rw [if_pos (by rw [valV_any]; exact this), List.map_map]
    show List.map _ kvs = k.ns.map Sum.inr
    rw [← ek]
    apply List.map_congr_left
    intro p _
    show (if p.1 = Sum.inr n then (p.1, V.ref a) else p).1 = p.1
    split <;> rfl
  · by_cases hxn : x = n
    · refine ⟨a, by rw [valV_put, if_pos (by rw [hxn])], ?_, hm⟩
      show IsTab K _ _ (if x = n then es else k.tb x)
      rw [if_pos hxn]
      exact ⟨a, us, rfl, get_put ha e2 (fun z => nomatch z), pairE_tk hp tk⟩
    · obtain ⟨b, hb, ht, hb2⟩ := h x hx
      refine ⟨b, by rw [valV_put, if_neg (fun e => hxn (Sum.inr.inj e))]; exact hb, ?_, hb2⟩
      show IsTab K _ _ (if x = n then es else k.tb x)
      rw [if_neg hxn]
      obtain ⟨c, us2, hc, h1, h2⟩ := ht
      exact ⟨c, us2, hc, get_put h1 e2 (fun z => nomatch z), pairE_tk h2 tk⟩
  · refine upd_ne fun e => ?_
    rcases h with h | h
    · have := hk.shelf.ins
      rw [← h, e, e2] at this
      cases this
    · exact hk.kd_mut (e ▸ h)
  · show GT m k.now f.width (if f.name = n then es else k.tb f.name)
    split
    · next e => exact gt f hf e
    · exact hk.gt f hf
/-- the shelf moves -/
theorem KpAt.sh (hk : KpAt K H m B k) {s : Sh} {C : Nat} (mv : Mv k.sh.mut H s.mut H') (ha : ShAt K H' C s) (e : s.x = k.sh.x) : KpAt K H' m C { k with sh := s } ∧ Mv k.mut H ({ k with sh := s } : Kp).mut H' := by
  obtain ⟨us, f1, f2⟩ := hk.forms
  have no : ∀ a u, H a = some u → ¬ k.sh.mut a → ¬ s.mut a := by
    intro a u e n q
    rcases mv.2.2 a q with z | z
    · exact n z
    · rw [e] at z; cases z
  refine ⟨⟨?_, ⟨us, mv.2.1 _ _ f1 hk.fmn, pairF_tk f2 mv.1⟩, no _ _ f1 hk.fmn, hk.known.mv mv.1 (fun u e => mv.2.1 _ _ e hk.kd_mut) (fun b u p e => mv.2.1 _ _ e p.1) (fun b u p e => ⟨no _ _ e p.1, p.2⟩), hk.card.tk mv.1, ha, hk.gt, hk.fr, hk.nd, hk.two, hk.drs, hk.n0, hk.t0, hk.fz, fun a h => ?_⟩, ?_⟩
  · show H' k.x = some (.ins _ _ (kpF s.x _ _ _ _ _))
    rw [e]
    exact mv.2.1 _ _ hk.ins hk.x_mut
  · obtain ⟨⟨u, eu⟩, nm⟩ := hk.zt a h
    have nsm : ¬ k.sh.mut a := fun q => nm (.inr (.inr q))
    refine ⟨⟨u, mv.2.1 _ _ eu nsm⟩, fun q => ?_⟩
    rcases q with q | q | q
    · exact nm (.inl q)
    · exact nm (.inr (.inl q))
    · exact no _ _ eu nsm q
  · refine Mv.wide mv (fun x m => .inr (.inr m)) fun x m => ?_
    rcases m with m | m | m
    · exact .inr (.inl m)
    · exact .inr (.inr (.inl m))
    · exact .inl m
theorem KpAt.turn (hk : KpAt K H m B k) {n : Nat} (h : m ≤ n) : KpAt K H n B k := ⟨hk.ins, hk.forms, hk.fmn, hk.known, hk.card, hk.shelf, fun f hf => (hk.gt f hf).mono h (Int.le_refl _), hk.fr, hk.nd, hk.two, hk.drs, hk.n0, hk.t0, hk.fz, hk.zt⟩
theorem KpAt.room (hk : KpAt K H m B k) {n : Nat} (h : B ≤ n) : KpAt K H m n k := ⟨hk.ins, hk.forms, hk.fmn, hk.known, hk.card, hk.shelf.mono h, hk.gt, hk.fr, hk.nd, hk.two, hk.drs, hk.n0, hk.t0, hk.fz, hk.zt⟩
/-- a foreign list changes -/
theorem KpAt.app (hk : KpAt K H m B k) {p : Addr} {xs ys : List V} (hp : H p = some (.lst xs)) (hz : k.z p) : KpAt K (upd H p (.lst ys)) m B k := by
  obtain ⟨us, f1, f2⟩ := hk.forms
  have tk : TK H (upd H p (.lst ys)) := TK.put hp rfl
  have nm := (hk.zt p hz).2
  have fmp : k.fm ≠ p := fun e => hk.fz (e ▸ hz)
  refine ⟨get_put hk.ins hp (fun z => nomatch z), ⟨us, get_ne f1 fmp, pairF_tk f2 tk⟩, hk.fmn, hk.known.mv tk (fun u e => get_ne e (fun h => nm (.inr (.inl h.symm)))) (fun b u q e => get_ne e (fun h => q.2 (h ▸ hz))) (fun b u q _ => q), hk.card.tk tk, hk.shelf.off tk fun a h => ?_, hk.gt, hk.fr, hk.nd, hk.two, hk.drs, hk.n0, hk.t0, hk.fz, fun a h => ⟨?_, (hk.zt a h).2⟩⟩
  · refine upd_ne fun e => ?_
    rcases h with h | h
    · have := hk.shelf.ins
      rw [← h, e, hp] at this
      cases this
    · exact nm (.inr (.inr (e ▸ h)))
  · by_cases e : a = p
    · exact ⟨_, by rw [e]; exact upd_same⟩
    · obtain ⟨u, eu⟩ := (hk.zt a h).1
      exact ⟨u, get_ne eu e⟩
theorem KpAt.name_mem {f : Frm} (hf : f ∈ k.fs) : f.name ∈ k.ns := List.mem_map.mpr ⟨f, hf, rfl⟩
theorem name_inj2 {fs : List Frm} (nd : (fs.map Frm.name).Nodup) {a b : Frm} (ha : a ∈ fs) (hb : b ∈ fs) (e : a.name = b.name) : a = b := by
  induction fs with
  | nil => cases ha
  | cons c cs ih =>
    rw [List.map_cons, List.nodup_cons] at nd
    rcases List.mem_cons.mp ha with ea | ha
    · rcases List.mem_cons.mp hb with eb | hb
      · rw [ea, eb]
      · exact absurd (List.mem_map.mpr ⟨b, hb, by rw [← e, ea]⟩) nd.1
    · rcases List.mem_cons.mp hb with eb | hb
      · exact absurd (List.mem_map.mpr ⟨a, ha, by rw [e, eb]⟩) nd.1
      · exact ih nd.2 ha hb
end
theorem IsCrd.sm {K : PySem.W.Frag} {ns : List Str} {H H' : Hp} {v : V} {c : Crd} (h : IsCrd K ns H v c) (s : Same H H') : IsCrd K ns H' v c := by
  obtain ⟨a, b, l, us, e, h1, h2, h3, h4⟩ := h
  exact ⟨a, b, l, us, e, h1.tk (TK.same s), h2.tk (TK.same s), s _ _ h3, paired_imp h4 fun _ _ ⟨p, u, z, e, k1, k2, k3⟩ => ⟨p, u, z, e, k1.tk (TK.same s), k2.tk (TK.same s), k3.tk (TK.same s)⟩⟩
/-! while a card is written -/
def K4 (k : Kp) (t : Int) (tb : Str → List Ent) (p : Addr) (s : Sh) : Kp := { k with since := t, tb := tb, ca := p, dr := 3 - k.dr, num := k.num + 1, sh := s }
structure Wr (K : PySem.W.Frag) (k : Kp) (t : Int) (tb : Str → List Ent) (p : Addr) (m B : Nat) (H H' : Hp) (s : Sh) (rows : List (List Str)) : Prop where
  at_ : KpAt K H' m (B + 2 + rows.length) (K4 k t tb p s)
  x : s.x = k.sh.x
  ts : s.ts (3 - k.dr) = rows.map jn
  ds : ∃ mid, s.ds = k.sh.ds ++ (((3 - k.dr : Nat) : Int), none) :: mid
  mv : Mv k.mut H (K4 k t tb p s).mut H'
theorem Wr.put {K : PySem.W.Frag} {k : Kp} {t : Int} {tb : Str → List Ent} {p : Addr} {m B : Nat} {H H1 H2 : Hp} {s : Sh} {rows : List (List Str)} {Q : VK} {E : XK} (w : Wr K k t tb p m B H H1 s rows) (s1 : Same H1 H2) (ws : List Str) (hd : 3 - k.dr < 3) (hB : B ≤ 9000) (hr : rows.length ≤ 1000)
    (q : ∀ s' H3, Wr K k t tb p m B H H3 s' (rows ++ [ws]) → Mv (K4 k t tb p s).mut H2 (K4 k t tb p s').mut H3 → Q .non H3) : sp_put K [.ref s.x, .int ((3 - k.dr : Nat) : Int), .str (jn ws)] H2 Q E := by
  have h2 := w.at_.same s1
  refine ⟨s, _, jn ws, 3 - k.dr, rfl, hd, h2.shelf, by omega, fun s' H3 ex ebg ets eds mv ha => ?_⟩
  obtain ⟨h3, mv3⟩ := h2.sh mv ha ex
  obtain ⟨mid, hm⟩ := w.ds
  refine q s' H3 ⟨?_, ex.trans w.x, ?_, ⟨mid ++ [(((3 - k.dr : Nat) : Int), some (jn ws))], ?_⟩, w.mv.trans ((Mv.same s1).trans mv3)⟩ mv3
  · have e : B + 2 + rows.length + 1 = B + 2 + (rows ++ [ws]).length := by simp; omega
    rw [e] at h3
    exact h3
  · rw [ets, setF_same, w.ts, List.map_append]
    rfl
  · rw [eds, hm]
    simp
/-! while a keeper is made -/
structure Ini (K : PySem.W.Frag) (x : Addr) (fm p : Addr) (us : List V) (ns : List Str) (kvs : List (Key × V)) (ad : Str → Addr) (H H' : Hp) (tb : Str → List Ent) : Prop where
  tk : TK H H'
  kx : ∀ a u, a ≠ x → H a = some u → H' a = some u
  fm : H' fm = some (.lst us)
  p : H' p = some (.dK kvs)
  l : ∀ n ∈ ns, ∃ ts, H' (ad n) = some (.lst ts) ∧ Paired (IsEnt K H') ts (tb n)
theorem Ini.same {K : PySem.W.Frag} {x fm p : Addr} {us : List V} {ns : List Str} {kvs : List (Key × V)} {ad : Str → Addr} {H H' H2 : Hp} {tb : Str → List Ent} (i : Ini K x fm p us ns kvs ad H H' tb) (s : Same H' H2) : Ini K x fm p us ns kvs ad H H2 tb :=
  ⟨i.tk.trans (TK.same s), fun a u n e => s _ _ (i.kx a u n e), s _ _ i.fm, s _ _ i.p, fun n hn => by
    obtain ⟨ts, h1, h2⟩ := i.l n hn
    exact ⟨ts, s _ _ h1, pairE_tk h2 (TK.same s)⟩⟩
theorem Ini.fld {K : PySem.W.Frag} {x fm p C dx : Addr} {us : List V} {ns : List Str} {kvs : List (Key × V)} {ad : Str → Addr} {H H' : Hp} {tb : Str → List Ent} {fs gs : List (Str × V)} (i : Ini K x fm p us ns kvs ad H H' tb) (hx : H' x = some (.ins C dx fs)) : Ini K x fm p us ns kvs ad H (upd H' x (.ins C dx gs)) tb := by
  have t : TK H' (upd H' x (.ins C dx gs)) := TK.put hx rfl
  exact ⟨i.tk.trans t, fun a u n e => get_ne (i.kx a u n e) n, get_put i.fm hx (fun z => nomatch z), get_put i.p hx (fun z => nomatch z), fun n hn => by
    obtain ⟨ts, h1, h2⟩ := i.l n hn
    exact ⟨ts, get_put h1 hx (fun z => nomatch z), pairE_tk h2 t⟩⟩
theorem Ini.sh {K : PySem.W.Frag} {x fm p dx : Addr} {us : List V} {ns : List Str} {kvs : List (Key × V)} {ad : Str → Addr} {H H' : Hp} {tb : Str → List Ent} {B : Nat} {z : Sh} (i : Ini K x fm p us ns kvs ad H H' tb) (hx : H x = some (.ins (He.ga K "Keeper") dx [])) (hz : ShAt K H B z) : ShAt K H' B z := by
  refine hz.off i.tk fun a m => ?_
  have : ∃ u, H a = some u ∧ a ≠ x := by
    rcases m with rfl | m
    · refine ⟨_, hz.ins, fun e => ?_⟩
      have h := hz.ins
      rw [e, hx] at h
      have h2 := congrArg List.length (HO.ins.inj (Option.some.inj h)).2.2
      simp [shF] at h2
    · obtain ⟨us, e⟩ := hz.mut_lst m
      exact ⟨_, e, fun e2 => by rw [e2, hx] at e; cases e⟩
  obtain ⟨u, e, n⟩ := this
  rw [e]; exact i.kx _ _ n e
theorem ents_of (ns : List Str) (tb : Str → List Ent) (nd : ns.Nodup) : ∀ n ∈ ns, ((entsOf ns tb).filter fun x => decide (x.1 = n)).map (·.2) = tb n := by
  have none : ∀ (n m : Str) (l : List Ent), m ≠ n → ((l.map fun e => (m, e)).filter fun x => decide (x.1 = n)) = [] := by
    intro n m l h
    rw [List.filter_eq_nil_iff]
    intro a ha
    obtain ⟨e, _, rfl⟩ := List.mem_map.mp ha
    simpa using h
  have all : ∀ (n : Str) (l : List Ent), ((l.map fun e => (n, e)).filter fun x => decide (x.1 = n)).map (·.2) = l := by
    intro n l
    rw [List.filter_eq_self.mpr (fun a ha => by obtain ⟨e, _, rfl⟩ := List.mem_map.mp ha; simp), List.map_map]
    exact List.map_id _
  induction ns with
  | nil => intro n hn; cases hn
  | cons m ns ih =>
    intro n hn
    rw [List.nodup_cons] at nd
    show (((m :: ns).flatMap fun n => (tb n).map fun e => (n, e)).filter _).map _ = _
    rw [List.flatMap_cons, List.filter_append, List.map_append]
    by_cases h : m = n
    · have : (entsOf ns tb).filter (fun x => decide (x.1 = n)) = [] := by
        rw [List.filter_eq_nil_iff]
        intro a ha
        obtain ⟨k, hk, hk2⟩ := List.mem_flatMap.mp ha
        obtain ⟨e, _, rfl⟩ := List.mem_map.mp hk2
        simp
        exact fun e2 => nd.1 (by rw [h, ← e2]; exact hk)
      rw [show (ns.flatMap fun n => (tb n).map fun e => (n, e)) = entsOf ns tb from rfl, this, h, all]
      simp
    · rcases List.mem_cons.mp hn with e | hn
      · exact absurd e.symm h
      · rw [none n m _ h, show (ns.flatMap fun n => (tb n).map fun e => (n, e)) = entsOf ns tb from rfl, ih nd.2 n hn]
        rfl
theorem KpAt.zset {K : PySem.W.Frag} {H H' : Hp} {m B : Nat} {k : Kp} (hk : KpAt K H m B k) {Z : Addr → Prop} (hz : ∀ a, Z a → H a = none) (s : Same H H') (ht : ∀ a, Z a → ∃ u, H' a = some u) : KpAt K H' m B { k with z := Z } := by
  have h := hk.same s
  have nz : ∀ a u, H a = some u → ¬ Z a := fun a u e q => by rw [hz a q] at e; cases e
  obtain ⟨us, f1, f2⟩ := hk.forms
  obtain ⟨kvs, w1, w2, w3⟩ := hk.known
  refine ⟨h.ins, h.forms, h.fmn, ?_, h.card, h.shelf, h.gt, h.fr, h.nd, h.two, h.drs, h.n0, h.t0, nz _ _ f1, fun a q => ⟨ht a q, fun n => ?_⟩⟩
  · refine ⟨kvs, s _ _ w1, w2, fun n hn => ?_⟩
    obtain ⟨b, hb, ⟨c, ts, hc, t1, t2⟩, h3⟩ := w3 n hn
    cases hc
    exact ⟨b, hb, ⟨b, ts, rfl, s _ _ t1, pairE_tk t2 (TK.same s)⟩, h3.1, nz _ _ t1⟩
  · rcases n with n | n | n
    · exact nz _ _ hk.ins (show Z k.x from (show a = k.x from n) ▸ q)
    · exact nz _ _ w1 (show Z k.kd from (show a = k.kd from n) ▸ q)
    · obtain ⟨us, e⟩ := hk.shelf.mut_lst n
      exact nz _ _ e q
end HW
set_option Elab.async false
set_option linter.all false
set_option maxRecDepth 100000
set_option maxHeartbeats 4000000
/-! The keeper while the law uses it, and what is kept of it. -/
namespace HW
open PySem PySem.Spec PyProof.Rows L2
def IsKeptP (K : PySem.W.Frag) (H : Hp) (v : V) (ns : List Str) (c : Crd) (P : Addr → Prop) : Prop := ∃ p r u t, v = .ref p ∧ SqT K H p [.ref r, .ref u] ∧ H r = some (.lst ((cardWs ns c).map fun f => V.str (jn f))) ∧ P r ∧ SqT K H u [.int c.turn, .int c.since, .ref t] ∧ P t ∧ IsKn K H t ns c.tb P
theorem IsKeptP.mv {K : PySem.W.Frag} {H H' : Hp} {v : V} {ns : List Str} {c : Crd} {P P' : Addr → Prop} (h : IsKeptP K H v ns c P) (t : TK H H') (s : ∀ a u, P a → H a = some u → H' a = some u) (hp : ∀ a u, P a → H a = some u → P' a) : IsKeptP K H' v ns c P' := by
  obtain ⟨p, r, u, d, e, h1, h2, h3, h4, h5, h6⟩ := h
  obtain ⟨kvs, k1, k2, k3⟩ := h6
  have h6 : IsKn K H d ns c.tb P := ⟨kvs, k1, k2, k3⟩
  exact ⟨p, r, u, d, e, h1.tk t, s _ _ h3 h2, hp _ _ h3 h2, h4.tk t, hp _ _ h5 k1, h6.mv t (fun u e => s _ _ h5 e) (fun b u q e => s _ _ q e) (fun b u q e => hp _ _ q e)⟩
theorem IsKeptP.all {K : PySem.W.Frag} {H : Hp} {v : V} {ns : List Str} {c : Crd} {P : Addr → Prop} (h : IsKeptP K H v ns c P) : IsKept K H v ns c := by
  obtain ⟨p, r, u, d, e, h1, h2, h3, h4, h5, h6⟩ := h
  exact ⟨p, r, u, d, e, h1, h2, h4, h6.mv (TK.refl _) (fun _ e => e) (fun _ _ _ e => e) (fun _ _ _ _ => trivial)⟩
def KItem (K : PySem.W.Frag) (ns : List Str) (wd : Str → Nat) (H : Hp) (P : Addr → Prop) (num : Int) (x : V) : Prop := ∃ c, IsKeptP K H x ns c P ∧ GC ns wd 28 c ∧ c.num = num ∧ c.turn ≤ 900
def ItemsOk (K : PySem.W.Frag) (ns : List Str) (wd : Str → Nat) (d : Nat) (H : Hp) (P : Addr → Prop) : List V → Prop
  | [] => True
  | [x] => KItem K ns wd H P d x
  | [x, y] => KItem K ns wd H P d x ∧ KItem K ns wd H P ((d : Int) + 1) y
  | _ => False
theorem ItemsOk.mv {K : PySem.W.Frag} {ns : List Str} {wd : Str → Nat} {d : Nat} {H H' : Hp} {P P' : Addr → Prop} {items : List V} (h : ItemsOk K ns wd d H P items) (t : TK H H') (s : ∀ a u, P a → H a = some u → H' a = some u) (hp : ∀ a u, P a → H a = some u → P' a) : ItemsOk K ns wd d H' P' items := by
  match items, h with
  | [], _ => trivial
  | [x], ⟨c, h1, h2⟩ => exact ⟨c, h1.mv t s hp, h2⟩
  | [x, y], ⟨⟨c, h1, h2⟩, e, h3, h4⟩ => exact ⟨⟨c, h1.mv t s hp, h2⟩, e, h3.mv t s hp, h4⟩
structure KS (K : PySem.W.Frag) (H H' : Hp) (kx sx p : Addr) (fs : List Frm) (d : Nat) (items : List V) (m B : Nat) (k : Kp) : Prop where
  at_ : KpAt K H' m B k
  x : k.x = kx
  f : k.fs = fs
  sx : k.sh.x = sx
  mv : Mv (fun _ => False) H k.mut H'
  it : H' p = some (.lst items)
  pm : ¬ k.mut p
  zp : k.z p
  ok : ItemsOk K (fs.map Frm.name) (wdF fs) d H' (fun a => ¬ k.mut a ∧ a ≠ p) items
section
variable {K : PySem.W.Frag} {H H' H2 : Hp} {kx sx p : Addr} {fs : List Frm} {d m B m2 B2 : Nat} {items : List V} {k k2 : Kp}
theorem KS.all (h : KS K H H' kx sx p fs d items m B k) : Same H H' := fun a u e => h.mv.2.1 a u e id
theorem KS.step (h : KS K H H' kx sx p fs d items m B k) (s : KpSame k k2) (mv : Mv k.mut H' k2.mut H2) (a : KpAt K H2 m2 B2 k2) : KS K H H2 kx sx p fs d items m2 B2 k2 := by
  have no : ∀ a u, ¬ k.mut a → H' a = some u → ¬ k2.mut a := fun a u n e q => by
    rcases mv.2.2 a q with z | z
    · exact n z
    · rw [e] at z; cases z
  exact ⟨a, s.1.trans h.x, s.2.1.trans h.f, s.2.2.1.trans h.sx, h.mv.trans mv, mv.2.1 _ _ h.it h.pm, no _ _ h.pm h.it, by rw [s.2.2.2]; exact h.zp, h.ok.mv mv.1 (fun a u n e => mv.2.1 _ _ e n.1) (fun a u n e => ⟨no _ _ n.1 e, n.2⟩)⟩
theorem KS.same (h : KS K H H' kx sx p fs d items m B k) (s : Same H' H2) : KS K H H2 kx sx p fs d items m B k := h.step ⟨rfl, rfl, rfl, rfl⟩ (Mv.same s) (h.at_.same s)
theorem KS.room (h : KS K H H' kx sx p fs d items m B k) (h1 : m ≤ m2) (h2 : B ≤ B2) : KS K H H' kx sx p fs d items m2 B2 k := ⟨(h.at_.turn h1).room h2, h.x, h.f, h.sx, h.mv, h.it, h.pm, h.zp, h.ok⟩
theorem wdF_of (nd : (fs.map Frm.name).Nodup) {f : Frm} (hf : f ∈ fs) : wdF fs f.name = f.width := by
  unfold wdF
  cases h : fs.find? fun g => decide (g.name = f.name) with
  | none =>
    have := List.find?_eq_none.mp h f hf
    simp at this
  | some g =>
    have h1 : g.name = f.name := by simpa using List.find?_some h
    have h2 := List.mem_of_find?_eq_some h
    rw [name_inj2 nd h2 hf h1]
    rfl
theorem KpAt.gc (h : KpAt K H' m B k) (hm : m ≤ m2) : GC k.ns (wdF k.fs) m2 ⟨k.num, k.now, k.since, k.tb⟩ := by
  have a := h.n0
  have b := h.t0
  refine ⟨⟨a.1, sm_small (by show -1000000 < k.num; omega) (by show k.num < 1000000; omega), by show 0 ≤ k.now; omega, sm_small (by show -1000000 < k.now; omega) (by show k.now < 1000000; omega), b.1, b.2.1⟩, fun n hn => ?_⟩
  obtain ⟨f, hf, rfl⟩ := List.mem_map.mp hn
  rw [wdF_of h.nd hf]
  exact (h.gt f hf).mono hm (Int.le_refl _)
end
end HW
set_option Elab.async false
set_option linter.all false
set_option maxRecDepth 100000
set_option maxHeartbeats 4000000
/-! Bent cards, plainly. -/
namespace HW
open PySem PySem.Spec PyProof.Rows L2
abbrev fj : List Str → V := fun w => V.str (jn w)
theorem joinL_snoc (S w : List Nat) : ∀ i : List (List Nat), i ≠ [] → TL.joinL S (i ++ [w]) = TL.joinL S i ++ (S ++ w)
  | [], h => absurd rfl h
  | [a], _ => rfl
  | a :: b :: r, _ => by
    show a ++ (S ++ TL.joinL S ((b :: r) ++ [w])) = (a ++ (S ++ TL.joinL S (b :: r))) ++ (S ++ w)
    rw [joinL_snoc S w (b :: r) (by simp)]
    simp
theorem jn_tl (ws : List Str) : (jn ws).cps.toList = TL.joinL [32] (ws.map TL.tl) := by
  show TL.tl (Txt.join " " ws) = _
  rw [TL.join_eq, TL.tl_join]
  rfl
theorem cutS_last {z : Str} {l : List Nat} {c : Nat} (h : z.cps.toList = l ++ [c]) : (cutS z none (some (-1))).cps.toList = l := by
  have hl : z.length = l.length + 1 := by have := TL.len_tl z; rw [show TL.tl z = l ++ [c] from h, List.length_append] at this; simpa using this
  unfold cutS
  rw [HT.sIx_none, hl]
  have e : HT.sIx (l.length + 1) (l.length + 1) (some (-1)) = l.length := by
    unfold HT.sIx
    simp
    omega
  rw [e, h]
  show ((l ++ [c]).drop 0).take (l.length - 0) = l
  simp
/-- a text that ends with " .", its last sign cut off -/
theorem cut_dot {i : List Str} (h : i ≠ []) : cutS (jn (i ++ [dot])) none (some (-1)) = jn (i ++ [("" : Str)]) := by
  have hm : i.map TL.tl ≠ [] := fun e => h (List.map_eq_nil_iff.mp e)
  have d : TL.tl dot = [46] := by decide +kernel
  have n : TL.tl ("" : Str) = [] := by decide +kernel
  refine TL.ext_tl ?_
  show (cutS _ _ _).cps.toList = (jn _).cps.toList
  refine (cutS_last (c := 46) (l := TL.joinL [32] (i.map TL.tl) ++ [32]) ?_).trans ?_
  · rw [jn_tl, List.map_append, List.map_singleton, d, joinL_snoc _ _ _ hm]
    simp
  · rw [jn_tl, List.map_append, List.map_singleton, n, joinL_snoc _ _ _ hm]
    simp
theorem wds_nul {i : List Str} (h : Wds (i ++ [dot])) : Wds (i ++ [("" : Str)]) := by
  refine ⟨by simp, fun w hw => ?_, by have := h.2.2; simpa using this⟩
  rcases List.mem_append.mp hw with hw | hw
  · exact h.2.1 w (List.mem_append_left _ hw)
  · rw [List.mem_singleton.mp hw]; exact wb_lit (by decide +kernel)
theorem nul_dot : (("" : Str)) ≠ dot := by decide +kernel
theorem map_jn {A B : List (List Str)} (ha : ∀ w ∈ A, Wds w) (hb : ∀ w ∈ B, Wds w) (e : A.map jn = B.map jn) : A = B := by
  induction A generalizing B with
  | nil => cases B with
    | nil => rfl
    | cons _ _ => cases e
  | cons a A ih =>
    cases B with
    | nil => cases e
    | cons b B =>
      rw [List.map_cons, List.map_cons, List.cons.injEq] at e
      rw [jn_inj (ha a List.mem_cons_self) (hb b List.mem_cons_self) e.1, ih (fun w h => ha w (List.mem_cons_of_mem _ h)) (fun w h => hb w (List.mem_cons_of_mem _ h)) e.2]
/-- a good card's parts -/
structure CP (n t s : Int) (E : List (List Str)) : Prop where
  nums : 0 ≤ n ∧ Sm n ∧ 0 ≤ t ∧ Sm t ∧ 0 ≤ s ∧ Sm s
  ents : ∀ e ∈ E, ∃ x t, e = entWs x.1 x.2 ∧ GEW 30 t x
  len : E.length ≤ 90
theorem card_parts {ns : List Str} {wd : Str → Nat} {c : Crd} (gc : GC ns wd 30 c) (hns : ∀ n ∈ ns, NameOk n ∧ 1 ≤ wd n ∧ wd n ≤ 3) (h3 : ns.length ≤ 3) :
    ∃ E, cardWs ns c = firstWs c.num c.turn c.since :: (E ++ [lastWs E.length]) ∧ CP c.num c.turn c.since E := by
  obtain ⟨⟨b1, b2, b3, b4, b5, b6⟩, gt⟩ := gc
  refine ⟨(entsOf ns c.tb).map (fun x => entWs x.1 x.2), by unfold cardWs; rw [List.length_map], ⟨b1, b2, b3, b4, b5, sm_turn b4 b5 b6⟩, fun e he => ?_, ?_⟩
  · obtain ⟨y, hy, rfl⟩ := List.mem_map.mp he
    obtain ⟨n, hn, hm2⟩ := List.mem_flatMap.mp hy
    obtain ⟨en, hen, rfl⟩ := List.mem_map.mp hm2
    exact ⟨(n, en), c.turn, rfl, (hns n hn).1, b4, wd n, (hns n hn).2.1, (hns n hn).2.2, (gt n hn).each en hen⟩
  · rw [List.length_map]
    have : ∀ l : List Str, (∀ n ∈ l, n ∈ ns) → (entsOf l c.tb).length ≤ 30 * l.length := by
      intro l
      induction l with
      | nil => intro _; exact Nat.zero_le _
      | cons n l ih =>
        intro h
        have a := (gt n (h n List.mem_cons_self)).len
        have b := ih fun x hx => h x (List.mem_cons_of_mem _ hx)
        simp only [entsOf, List.flatMap_cons, List.length_append, List.length_map, List.length_cons] at b ⊢
        omega
    have := this ns (fun _ h => h)
    omega
section
variable {ns : List Str} {wd : Str → Nat} {n t s : Int} {E : List (List Str)}
theorem CP.wF (h : CP n t s E) : Wds (firstWs n t s) := wds_first h.nums.2.1 h.nums.2.2.2.1 h.nums.2.2.2.2.2
theorem CP.wL (h : CP n t s E) : Wds (lastWs E.length) := wds_last (by have := h.len; omega)
theorem CP.wE (h : CP n t s E) {e : List Str} (he : e ∈ E) : Wds e ∧ ¬ BadE e ∧ (∃ i, i ≠ [] ∧ e = i ++ [dot]) := by
  obtain ⟨x, u, rfl, g⟩ := h.ents e he
  obtain ⟨w, _, w3, ge⟩ := g.2.2
  refine ⟨wds_ent ge w3 (Nat.le_refl _) g.2.1 g.1, not_badE, ("row" : Str) :: x.1 :: numS x.2.1.length :: (x.2.1.map numS ++ plotWs x.2.2), by simp, by simp [entWs]⟩
def Bn (ns : List Str) (wd : Str → Nat) (R B : List (List Str)) : Prop := RdC ns wd B none ∧ B.map jn ≠ R.map jn
theorem len_ne {A B : List (List Str)} (h : A.length ≠ B.length) : A.map jn ≠ B.map jn := fun e => h (by simpa using congrArg List.length e)
theorem CP.q (h : CP n t s E) {e : List Str} (he : e ∈ E) : EntQ e := .inl (h.ents e he)
theorem CP.wR (h : CP n t s E) : ∀ w ∈ firstWs n t s :: (E ++ [lastWs E.length]), Wds w := by
  intro w hw
  rcases List.mem_cons.mp hw with e | hw
  · rw [e]; exact h.wF
  · rcases List.mem_append.mp hw with hw | hw
    · exact (h.wE hw).1
    · rw [List.mem_singleton.mp hw]; exact h.wL
/-- fewer or more entries -/
theorem CP.count (h : CP n t s E) {r : List (List Str)} (hr : ∀ e ∈ r, e ∈ E) (hl : r.length ≠ E.length) (hle : r.length ≤ 1000) : Bn ns wd (firstWs n t s :: (E ++ [lastWs E.length])) (firstWs n t s :: (r ++ [lastWs E.length])) :=
  ⟨.badE n t s r E.length h.nums (by have := h.len; omega) hle (fun e he => h.q (hr e he)) (.inr (fun e => hl e.symm)), len_ne (by simp; exact hl)⟩
/-- an odd row -/
theorem CP.odd (h : CP n t s E) {a : Nat} (ha : a < E.length) {o : List Str} (ho : BadE o) (hw : Wds o) : Bn ns wd (firstWs n t s :: (E ++ [lastWs E.length])) (firstWs n t s :: ((E.take a ++ (o :: E.drop (a + 1))) ++ [lastWs E.length])) := by
  have hB : ∀ e ∈ E.take a ++ (o :: E.drop (a + 1)), e = o ∨ e ∈ E := by
    intro e he
    rcases List.mem_append.mp he with he | he
    · exact .inr (List.mem_of_mem_take he)
    · rcases List.mem_cons.mp he with he | he
      · exact .inl he
      · exact .inr (List.mem_of_mem_drop he)
  have hlen : (E.take a ++ (o :: E.drop (a + 1))).length = E.length := by simp; omega
  refine ⟨.badE n t s _ E.length h.nums (by have := h.len; omega) (by rw [hlen]; have := h.len; omega) (fun e he => ?_) (.inl ⟨o, by simp, ho⟩), fun e => ?_⟩
  · rcases hB e he with rfl | he
    · exact .inr ⟨ho, hw⟩
    · exact h.q he
  · have hA : ∀ w ∈ firstWs n t s :: ((E.take a ++ (o :: E.drop (a + 1))) ++ [lastWs E.length]), Wds w := by
      intro w hw2
      rcases List.mem_cons.mp hw2 with e | hw2
      · rw [e]; exact h.wF
      · rcases List.mem_append.mp hw2 with hw2 | hw2
        · rcases hB w hw2 with rfl | he
          · exact hw
          · exact (h.wE he).1
        · rw [List.mem_singleton.mp hw2]; exact h.wL
    have e2 := map_jn hA h.wR e
    rw [List.cons.injEq] at e2
    have e3 := List.append_cancel_right e2.2
    have e4 : o ∈ E := by rw [← e3]; simp
    exact (h.wE e4).2.1 ho
/-- the last row is none -/
theorem CP.last (h : CP n t s E) {r : List (List Str)} {l : List Str} (hb : BadF l "done" 1) (hw : Wds l) (hr : ∀ w ∈ r, Wds w) : RdC ns wd (firstWs n t s :: (r ++ [l])) none := .badL n t s r l h.nums hb hw
/-- the first row is none -/
theorem CP.first {r : List (List Str)} {f : List Str} (hb : BadF f "card" 3) (hw : Wds f) (hr : r ≠ []) : RdC ns wd (f :: r) none := .badF f r hr hb hw
end
theorem cut_take (R : List (List Str)) (k : Nat) : cutV (R.map fj) none (some (k : Int)) = (R.take k).map fj := by
  unfold cutV
  rw [HT.sIx_nat, HT.sIx_none, List.drop_zero, Nat.sub_zero, List.length_map, ← List.map_take]
  congr 1
  rw [List.take_eq_take_iff]
  omega
theorem cut_drop (R : List (List Str)) (k : Nat) : cutV (R.map fj) (some (k : Int)) none = (R.drop k).map fj := by
  unfold cutV
  rw [HT.sIx_nat, HT.sIx_none, List.length_map, ← List.map_drop, List.take_of_length_le (by simp)]
  congr 1
  by_cases h : k ≤ R.length
  · rw [Nat.min_eq_left h]
  · rw [List.drop_eq_nil_of_le (by omega), List.drop_eq_nil_of_le (by omega)]
theorem cut_init (R : List (List Str)) (l : List Str) : cutV ((R ++ [l]).map fj) none (some (-1)) = R.map fj := by
  unfold cutV
  have e : HT.sIx ((R ++ [l]).map fj).length ((R ++ [l]).map fj).length (some (-1)) = R.length := by
    unfold HT.sIx
    simp
    omega
  rw [e, HT.sIx_none]
  simp
theorem wA {A B : List (List Str)} (a : ∀ w ∈ A, Wds w) (b : ∀ w ∈ B, Wds w) : ∀ w ∈ A ++ B, Wds w := fun w h => (List.mem_append.mp h).elim (a w) (b w)
theorem wT {A : List (List Str)} {n : Nat} (a : ∀ w ∈ A, Wds w) : ∀ w ∈ A.take n, Wds w := fun w h => a w (List.mem_of_mem_take h)
theorem wD {A : List (List Str)} {n : Nat} (a : ∀ w ∈ A, Wds w) : ∀ w ∈ A.drop n, Wds w := fun w h => a w (List.mem_of_mem_drop h)
theorem wOne {x : List Str} (a : Wds x) : ∀ w ∈ [x], Wds w := fun w h => by rw [List.mem_singleton.mp h]; exact a
theorem joinL_lt : ∀ l : List (List Nat), (∀ x ∈ l, ∀ c ∈ x, c < 1114112) → ∀ c ∈ TL.joinL [32] l, c < 1114112
  | [], _, c, h => nomatch h
  | [a], g, c, h => g a List.mem_cons_self c h
  | a :: b :: r, g, c, h => by
    rcases List.mem_append.mp (show c ∈ a ++ ([32] ++ TL.joinL [32] (b :: r)) from h) with h | h
    · exact g a List.mem_cons_self c h
    · rcases List.mem_append.mp h with h | h
      · rw [List.mem_singleton.mp h]; decide
      · exact joinL_lt (b :: r) (fun x hx => g x (List.mem_cons_of_mem _ hx)) c h
theorem ok_txt {w : List Str} (h : Wds w) : PyData.canLay0 (.str (jn w)) = true := by
  show PyData.strOk (jn w) = true
  unfold PyData.strOk
  rw [← Array.all_toList, List.all_eq_true]
  intro c hc
  rw [jn_tl] at hc
  have := joinL_lt (w.map TL.tl) (fun x hx c hc => by
    obtain ⟨s, hs, rfl⟩ := List.mem_map.mp hx
    exact (h.2.1 s hs).2.2 c hc) c hc
  exact decide_eq_true this
end HW
set_option Elab.async false
set_option linter.all false
set_option maxRecDepth 100000
set_option maxHeartbeats 4000000
/-! Compares of the law. -/
namespace HW
open PySem PySem.Spec PyProof.Rows L2
def encT (A : List (List Str)) : PyData := .list (A.map fun w => .str (jn w))
theorem dp_txt {K : PySem.W.Frag} {H : Hp} : ∀ A : List (List Str), DpAll K H (A.map fun w => V.str (jn w)) (A.map fun w => PyData.str (jn w))
  | [] => .nil
  | _ :: A => .cons (.str _) (dp_txt A)
theorem can_txt : ∀ A : List (List Str), (∀ w ∈ A, Wds w) → PyData.canLayAll0 (A.map fun w => PyData.str (jn w)) = true
  | [], _ => rfl
  | a :: A, h => by
    show (PyData.canLay0 (.str (jn a)) && PyData.canLayAll0 (A.map fun w => PyData.str (jn w))) = true
    rw [ok_txt (h a List.mem_cons_self), can_txt A fun w hw => h w (List.mem_cons_of_mem _ hw)]; rfl
theorem dep_txt : ∀ A : List (List Str), PyData.depthAll (A.map fun w => PyData.str (jn w)) ≤ 2
  | [] => by simp [PyData.depthAll]
  | _ :: A => by
    have := dep_txt A
    simp [PyData.depthAll, PyData.depth]
    omega
theorem sh_txt (A : List (List Str)) (h : ∀ w ∈ A, Wds w) : SeqAt.shaped (encT A) = true := by
  refine shaped_of (n := 10) ?_ ?_ (by decide)
  · show PyData.canLayAll0 _ = true
    exact can_txt A h
  · have := dep_txt A
    simp [encT, PyData.depth]
    omega
theorem eqv_txt : ∀ A B : List (List Str), PyData.eqvAll (A.map fun w => PyData.str (jn w)) (B.map fun w => PyData.str (jn w)) = decide (A.map jn = B.map jn)
  | [], [] => by simp [PyData.eqvAll]
  | [], _ :: _ => by simp [PyData.eqvAll]
  | _ :: _, [] => by simp [PyData.eqvAll]
  | a :: A, b :: B => by
    show (PyData.eqv (.str (jn a)) (.str (jn b)) && PyData.eqvAll (A.map _) (B.map _)) = _
    rw [eqv_txt A B]
    simp [PyData.eqv, Bool.decide_and, Bool.beq_eq_decide_eq]
theorem eqTxt {K : PySem.W.Frag} {H : Hp} {a b : Addr} {A B : List (List Str)} {Q : VK} (h1 : H a = some (.lst (A.map fun w => V.str (jn w)))) (h2 : H b = some (.lst (B.map fun w => V.str (jn w)))) (wa : ∀ w ∈ A, Wds w) (wb : ∀ w ∈ B, Wds w) (k : Q (.bl (decide (A.map jn = B.map jn))) H) : rEqD K (.ref a) (.ref b) H Q :=
  ⟨encT A, encT B, .lst (SqL.of h1) (dp_txt A), .lst (SqL.of h2) (dp_txt B), sh_txt A wa, sh_txt B wb, by rw [show PyData.eqv (encT A) (encT B) = _ from eqv_txt A B]; exact k⟩
/-- an empty list is not != another -/
theorem neNil {K : PySem.W.Frag} {H : Hp} {a b : Addr} {Q : VK} (h1 : H a = some (.lst [])) (h2 : H b = some (.lst [])) (k : Q (.bl false) H) : rNeD K (.ref a) (.ref b) H Q :=
  ⟨.list [], .list [], .lst (SqL.of h1) .nil, .lst (SqL.of h2) .nil, by decide +kernel, by decide +kernel, k⟩
/-- (n, None) == (n, None) -/
theorem eqStk {K : PySem.W.Frag} {H : Hp} {a b : Addr} {n : Int} {Q : VK} (h1 : SqT K H a [.int n, .non]) (h2 : SqT K H b [.int n, .non]) (k : Q (.bl true) H) : rEqD K (.ref a) (.ref b) H Q := by
  refine ⟨.tuple [.int n, .none], .tuple [.int n, .none], .tup h1 (.cons (.int _) (.cons .non .nil)), .tup h2 (.cons (.int _) (.cons .non .nil)), ?_, ?_, ?_⟩
  · exact shaped_of (n := 10) rfl (by simp [PyData.depth, PyData.depthAll]) (by decide)
  · exact shaped_of (n := 10) rfl (by simp [PyData.depth, PyData.depthAll]) (by decide)
  · have : PyData.eqv (.tuple [.int n, .none]) (.tuple [.int n, .none]) = true := by
      show (PyData.eqv (.int n) (.int n) && (PyData.eqv .none .none && true)) = true
      simp [PyData.eqv]
    rw [this]; exact k
theorem can_ents : ∀ es : List Ent, PyData.canLayAll0 (es.map encE) = true
  | [] => rfl
  | e :: es => by show (PyData.canLay0 (encE e) && PyData.canLayAll0 (es.map encE)) = true; rw [canE, can_ents es]; rfl
theorem dep_ents : ∀ es : List Ent, PyData.depthAll (es.map encE) ≤ 10
  | [] => by simp [PyData.depthAll]
  | e :: es => by
    have h1 := depE e
    have h2 := dep_ents es
    simp [PyData.depthAll]; omega
theorem sameTab {K : PySem.W.Frag} {H : Hp} {x y : V} {es : List Ent} (h1 : IsTab K H x es) (h2 : IsTab K H y es) : SameD K H x y := by
  obtain ⟨a, us, rfl, a1, a2⟩ := h1
  obtain ⟨b, ws, rfl, b1, b2⟩ := h2
  refine ⟨.list (es.map encE), .lst (SqL.of a1) (dpAll_of (fun _ _ z => dp_ent z) a2), .lst (SqL.of b1) (dpAll_of (fun _ _ z => dp_ent z) b2), shaped_of (n := 20) ?_ ?_ (by decide)⟩
  · show PyData.canLayAll0 _ = true
    exact can_ents es
  · have := dep_ents es
    simp [PyData.depth]
    omega
theorem valV_nd {κ : Type} [DecidableEq κ] : ∀ {kvs : List (κ × V)}, (kvs.map (·.1)).Nodup → ∀ p ∈ kvs, valV kvs p.1 = some p.2
  | [], _, _, h => nomatch h
  | q :: kvs, nd, p, h => by
    rw [List.map_cons, List.nodup_cons] at nd
    by_cases e : q.1 = p.1
    · rw [valV_pos e]
      rcases List.mem_cons.mp h with rfl | h
      · rfl
      · exact absurd (List.mem_map.mpr ⟨p, h, e.symm⟩) nd.1
    · rw [valV_neg e]
      rcases List.mem_cons.mp h with rfl | h
      · exact absurd rfl e
      · exact valV_nd nd.2 p h
theorem sameKn {K : PySem.W.Frag} {H : Hp} {a b : Addr} {ns : List Str} {tb : Str → List Ent} {P P' : Addr → Prop} (nd : ns.Nodup) (ne : a ≠ b) (h1 : IsKn K H a ns tb P) (h2 : IsKn K H b ns tb P') : SameV K H (.ref a) (.ref b) := by
  obtain ⟨ks, a1, a2, a3⟩ := h1
  obtain ⟨ls, b1, b2, b3⟩ := h2
  refine .inr ⟨a, b, ks, ls, rfl, rfl, ne, a1, b1, ?_, fun p hp => ?_⟩
  · have e1 := congrArg List.length a2
    have e2 := congrArg List.length b2
    simp at e1 e2
    omega
  · have hk : p.1 ∈ ks.map (·.1) := List.mem_map.mpr ⟨p, hp, rfl⟩
    rw [a2] at hk
    obtain ⟨n, hn, e⟩ := List.mem_map.mp hk
    obtain ⟨c, hc, tc, _⟩ := a3 n hn
    obtain ⟨f, hf, tf, _⟩ := b3 n hn
    have ndk : (ks.map (·.1)).Nodup := by
      rw [a2]
      exact List.Pairwise.map _ (fun x y h e => h (Sum.inr.inj e)) nd
    have hv := valV_nd ndk p hp
    rw [← e, hc] at hv
    refine ⟨.ref f, by rw [← e]; exact hf, ?_⟩
    rw [← Option.some.inj hv]
    exact sameTab tc tf
theorem sameInt {K : PySem.W.Frag} {H : Hp} (n : Int) : SameV K H (.int n) (.int n) := .inl ⟨.int n, .int n, .int n, shaped_of (n := 10) rfl (by simp [PyData.depth]) (by decide)⟩
theorem IsKn.tbs {K : PySem.W.Frag} {H : Hp} {a : Addr} {ns : List Str} {tb tb' : Str → List Ent} {P : Addr → Prop} (h : IsKn K H a ns tb P) (e : ∀ n ∈ ns, tb n = tb' n) : IsKn K H a ns tb' P := by
  obtain ⟨kvs, h1, h2, h3⟩ := h
  refine ⟨kvs, h1, h2, fun n hn => ?_⟩
  rw [← e n hn]
  exact h3 n hn
theorem paired_last {α β : Type} {F : α → β → Prop} {y : β} : ∀ {xs : List α} {ys : List β}, Paired F xs (ys ++ [y]) → ∃ xs' x, xs = xs' ++ [x] ∧ F x y
  | _, [], .cons a .nil => ⟨[], _, rfl, a⟩
  | _, _ :: _, .cons _ b => by
    obtain ⟨xs', x, e, f⟩ := paired_last b
    exact ⟨_ :: xs', x, by rw [e]; rfl, f⟩
end HW
set_option Elab.async false
set_option linter.all false
set_option maxRecDepth 100000
set_option maxHeartbeats 4000000
namespace HW
open PySem PySem.Spec PyProof.Rows L2
local macro_rules | `(tactic| walk_at "un") => `(tactic| simp only [cxOf, tSeq, tNext, tIfS, tTest, tOp, tUn, tVar, tC, tRet, tRetN, tNever, tAsg, gName, gNil, gCons, gTup, eq_self, rListOf, Option.isSome_none, Option.isSome_some, gSub, tDrop, tCB, tCall, tCons, tNil, tTup, tLst, tB, tAnd, tOr, tNot, tAndV, tOrV, tNotV, tNoPart, tPart, tSl, tSl3, tBM, tM1, tDNewK, tDNewT, tDGet, tDIn, tDNotIn, sDPut, tYes, tFld, sFld, tMeth, tMake,
  for_L, for_T, for_R, for_S, lc_L, lc_T, lc_R, wipe, rI0, rU, rEq, rNe, rIxT, rIxL, rIxS, L2.start, List.map_cons, List.map_nil, List.length_cons, List.length_nil, Nat.reduceAdd, Nat.reduceSub, List.replicate_succ, List.replicate_zero, List.cons_append, List.nil_append, List.append_nil,
  List.getElem?_cons_zero, List.getElem?_cons_succ, List.set_cons_zero, List.set_cons_succ, Option.some.injEq, V.int.injEq, V.bl.injEq, V.str.injEq, V.ref.injEq, V.ty.injEq, List.cons.injEq, and_true, true_and, exists_eq_left, exists_eq_left', exists_and_left, exists_eq, scal, decide_eq_true_eq, reduceCtorEq, decide_false, decide_true, Bool.not_true, Bool.not_false, if_true, if_false, Bool.false_eq_true, ite_true, ite_false, Bool.not_eq_true', decide_eq_false_iff_not])
local macro_rules | `(tactic| walk_at "tk") => `(tactic| first | exact TK.refl _ | assumption | exact TK.same (by assumption) | (refine TK.trans ?_ (TK.new (by assumption)); walk_at "tk") | (refine TK.trans ?_ (TK.put (by assumption) rfl); walk_at "tk") | (refine TK.trans ?_ (TK.same (by assumption)); walk_at "tk"))
local macro_rules | `(tactic| walk_at "fz") => `(tactic| first | assumption | exact L2.SqT.tk (by assumption) (by walk_at "tk") | exact IsRch.tk (by assumption) (by walk_at "tk") | exact IsPlt.tk (by assumption) (by walk_at "tk") | exact IsStp.tk (by assumption) (by walk_at "tk") | exact IsRow.tk (by assumption) (by walk_at "tk") | exact IsEnt.tk (by assumption) (by walk_at "tk") | exact pairS_tk (by assumption) (by walk_at "tk") | exact pairE_tk (by assumption) (by walk_at "tk"))
local macro_rules | `(tactic| walk_at "sm") => `(tactic| first | exact L2.Same.refl _ | assumption | (refine L2.Same.trans ?_ (L2.Same.new (by assumption)); walk_at "sm") | (refine L2.Same.put ?_ (by assumption); walk_at "sm") | (refine L2.Same.trans ?_ (by assumption); walk_at "sm"))
local macro_rules | `(tactic| walk_at "jk") => `(tactic| first | exact ⟨_, rfl⟩ | exact ⟨_, _, rfl, rfl⟩ | exact ⟨⟨_, rfl⟩, _, rfl⟩ | exact ⟨_, rfl, _, rfl⟩ | simp)

section
variable {P : Program} {w : World} {K : PySem.W.Frag} {mg : Str → Option Value} {base : Heap}

/-! truth_by -/
theorem wd1 (l : Bool) : ¬ wdOf l = "both" := by cases l <;> decide +kernel
theorem wd2 : ¬ wdOf true = "either" := by decide +kernel
theorem wd3 : wdOf false = "either" := rfl
theorem wd4 : wdOf true = "less" := rfl
theorem sc_truth_by : FnScope ["word", "one", "other"] ["word", "one", "other"] (defScope s_truth_by) := ⟨rfl, rfl, rfl, by decide +kernel, rfl, by decide +kernel, by decide +kernel⟩
theorem F_truth_by (T : Top K mg) : Fn P w K mg base CX0 1 "truth_by" ["word", "one", "other"] sp_truth_by := by
  obtain ⟨fd, F⟩ := T.D_truth_by
  refine mk_fn F T.g_truth_by (fun _ _ _ _ _ _ us hl => match us, hl with | [_, _, _], _ => rfl) (F.okN sc_truth_by (fun vs H Q E h => ?_) (fun cdv A outer s H vs Q E hr h => ?_))
  · obtain ⟨l, a, b, rfl, _⟩ := h
    rfl
  · obtain ⟨l, a, b, rfl, q⟩ := h
    refine ⟨_, (pss_cons (ps_if (pt_cmpR op_eq (pv 0) pe_str (nomark _)) (pss_one (ps_ret (pe_and (pv 1) (pe_one (pv 2))))) pss_nil)
      (pss_cons (ps_if (pt_cmpR op_eq (pv 0) pe_str (nomark _)) (pss_one (ps_ret (pe_or (pv 1) (pe_one (pv 2))))) pss_nil)
      (pss_cons (ps_if (pt_cmpR op_eq (pv 0) pe_str (nomark _)) (pss_one (ps_ret (pe_and (pv 1) (pe_one (pe_not (pv 2)))))) pss_nil)
      (pss_cons (ps_if (pt_cmpR op_eq (pv 0) pe_str (nomark _)) (pss_one (ps_ret (pe_cmpR op_ne (pv 1) (pv 2) (nomark _)))) pss_nil)
      (pss_one (ps_never)))))), ?_⟩
    walk_at "un"
    rw [if_neg (wd1 l)]
    cases l with
    | false =>
      rw [if_pos wd3]
      cases a <;> exact q
    | true =>
      rw [if_neg wd2, if_pos wd4]
      cases a <;> exact q
/-! is_turn -/
theorem sc_is_turn : FnScope ["thing"] ["thing"] (defScope s_is_turn) := ⟨rfl, rfl, rfl, by decide +kernel, rfl, by decide +kernel, by decide +kernel⟩
theorem F_is_turn (T : Top K mg) : Fn P w K mg base CX0 1 "is_turn" ["thing"] sp_is_turn := by
  obtain ⟨fd, F⟩ := T.D_is_turn
  refine mk_fn F T.g_is_turn (fun _ _ _ _ _ _ us hl => match us, hl with | [_], _ => rfl) (F.okN sc_is_turn (fun vs H Q E h => ?_) (fun cdv A outer s H vs Q E hr h => ?_))
  · obtain ⟨n, rfl, _⟩ := h
    rfl
  · obtain ⟨n, rfl, q⟩ := h
    refine ⟨_, (pss_one (ps_ret (pe_and (pe_callB call_isi (by rfl) T.f_isinstance (by decide +kernel) (pa_cons (pv 0) (pa_cons (pe_bltn (v := .ty "int") (by rfl) T.f_int (by decide +kernel) rfl) pa_nil))) (pe_one (pe_not (pe_callB call_isi (by rfl) T.f_isinstance (by decide +kernel) (pa_cons (pv 0) (pa_cons (pe_bltn (v := .ty "bool") (by rfl) T.f_bool (by decide +kernel) rfl) pa_nil)))))))), ?_⟩
    walk_at "un"
    refine isi (b := true) (.base (.int n)) (by decide +kernel) ?_
    walk_at "un"
    refine isi (b := false) (.base (.int n)) (by decide +kernel) ?_
    walk_at "un"
    exact q
/-! is_reach -/
theorem sc_is_reach : FnScope ["thing", "last", "edge"] ["thing"] (defScope s_is_reach) := ⟨rfl, rfl, rfl, by decide +kernel, rfl, by decide +kernel, by decide +kernel⟩
theorem F_is_reach (T : Top K mg) : Fn P w K mg base CX0 1 "is_reach" ["thing"] (sp_is_reach K) := by
  obtain ⟨fd, F⟩ := T.D_is_reach
  refine mk_fn F T.g_is_reach (fun _ _ _ _ _ _ us hl => match us, hl with | [_], _ => rfl) (F.okN sc_is_reach (fun vs H Q E h => ?_) (fun cdv A outer s H vs Q E hr h => ?_))
  · obtain ⟨v, r, rfl, _⟩ := h
    rfl
  · obtain ⟨v, ⟨b, es⟩, rfl, ⟨a, c, rfl, h1, h2⟩, hp, q⟩ := h
    refine ⟨_, (pss_cons (ps_if (PW.pt (pw_or (pt_not (pt_val (pe_callB call_isi (by rfl) T.f_isinstance (by decide +kernel) (pa_cons (pv 0) (pa_cons (pe_bltn (v := .ty "tuple") (by rfl) T.f_tuple (by decide +kernel) rfl) pa_nil))))) (pw_or1 (pt_cmpR op_ne (pe_callB call_len_seq (by rfl) T.f_len PySem.boot_len (pa_cons (pv 0) pa_nil)) pe_int (nomark _))))) (pss_one (ps_ret pe_bl)) pss_nil)
      (pss_cons (ps_if (PW.pt (pw_or (pt_not (pt_val (pe_callB call_isi (by rfl) T.f_isinstance (by decide +kernel) (pa_cons (pe_ix ix_tup (pv 0) pe_int (fun _ _ => rfl)) (pa_cons (pe_bltn (v := .ty "bool") (by rfl) T.f_bool (by decide +kernel) rfl) pa_nil))))) (pw_or1 (pt_not (pt_val (pe_callB call_isi (by rfl) T.f_isinstance (by decide +kernel) (pa_cons (pe_ix ix_tup (pv 0) pe_int (fun _ _ => rfl)) (pa_cons (pe_bltn (v := .ty "tuple") (by rfl) T.f_tuple (by decide +kernel) rfl) pa_nil)))))))) (pss_one (ps_ret pe_bl)) pss_nil)
      (pss_cons (ps_set (i := 1) sc_is_reach.nd rfl (.inl rfl) pe_non)
      (pss_cons (ps_for PassesOwn.never rfl (pi_tup (pe_ix ix_tup (pv 0) pe_int (fun _ _ => rfl))) (pg_name (i := 2) sc_is_reach.nd rfl (.inl rfl)) (pss_cons (ps_if (PW.pt (pw_or (pt_not (pt_val (pe_callB call_isi (by rfl) T.f_isinstance (by decide +kernel) (pa_cons (pv 2) (pa_cons (pe_bltn (v := .ty "int") (by rfl) T.f_int (by decide +kernel) rfl) pa_nil))))) (pw_or1 (pt_val (pe_callB call_isi (by rfl) T.f_isinstance (by decide +kernel) (pa_cons (pv 2) (pa_cons (pe_bltn (v := .ty "bool") (by rfl) T.f_bool (by decide +kernel) rfl) pa_nil))))))) (pss_one (ps_ret pe_bl)) pss_nil)
      (pss_cons (ps_if (PW.pt (pw_and (pt_cmpR op_notN (pv 1) pe_non (nomark _)) (pw_and1 (pt_cmpR op_le (pv 2) (pv 1) (nomark _))))) (pss_one (ps_ret pe_bl)) pss_nil)
      (pss_one (ps_set (i := 1) sc_is_reach.nd rfl (.inl rfl) (pv 2))))))
      (pss_one (ps_ret pe_bl)))))), ?_⟩
    walk_at "un"
    refine isi (b := true) (tyx_tup h1) (by decide +kernel) ?_
    walk_at "un"
    refine ⟨_, .inr h1, ?_⟩
    walk_at "un"
    refine ⟨_, h1, _, rfl, ?_⟩
    refine isi (b := true) (.base (.bl b)) (by decide +kernel) ?_
    walk_at "un"
    refine ⟨_, h1, _, rfl, ?_⟩
    refine isi (b := true) (tyx_tup h2) (by decide +kernel) ?_
    walk_at "un"
    refine ⟨_, h1, _, rfl, _, rfl, ⟨_, h2⟩, ?_⟩
    refine lp_tup (F := fun v n => v = .int n) (as := es) (paired_ints es) (fun d r σ H' => H' = H ∧ ∃ l x, σ = [some (.ref a), some l, x] ∧ (l = .non ∨ ∃ n, l = .int n ∧ ∀ e ∈ r, n < e)) ⟨rfl, _, _, rfl, .inl rfl⟩ (fun d r σ H' p => by rw [p.1]; exact h2) ?_ ?_
    · rintro d _ y r σ H' e rfl ⟨rfl, l, x, rfl, hl⟩
      walk_at "un"
      refine isi (b := true) (.base (.int y)) (by decide +kernel) ?_
      walk_at "un"
      refine isi (b := false) (.base (.int y)) (by decide +kernel) ?_
      walk_at "un"
      have pw : ∀ e ∈ r, y < e := by
        have h := List.pairwise_append.mp (e ▸ hp)
        exact (List.pairwise_cons.mp h.2.1).1
      rcases hl with rfl | ⟨n, rfl, hn⟩
      · rw [if_neg (by decide)]
        exact ⟨_, _, ⟨rfl, rfl⟩, .inr ⟨y, rfl, pw⟩⟩
      · rw [if_pos (by intro z; cases z)]
        refine ⟨n, rfl, ?_⟩
        rw [if_neg (by have := hn y List.mem_cons_self; omega)]
        exact ⟨_, _, ⟨rfl, rfl⟩, .inr ⟨y, rfl, pw⟩⟩
    · rintro σ H' ⟨rfl, l, x, rfl, hl⟩
      walk_at "un"
      exact q
end
end HW
set_option Elab.async false
set_option linter.all false
set_option maxRecDepth 100000
set_option maxHeartbeats 4000000
namespace HW
open PySem PySem.Spec PyProof.Rows L2
local macro_rules | `(tactic| walk_at "un") => `(tactic| simp only [cxOf, tSeq, tNext, tIfS, tTest, tOp, tUn, tVar, tC, tRet, tRetN, tNever, tAsg, gName, gNil, gCons, gTup, eq_self, rListOf, Option.isSome_none, Option.isSome_some, gSub, tDrop, tCB, tCall, tCons, tNil, tTup, tLst, tB, tAnd, tOr, tNot, tAndV, tOrV, tNotV, tNoPart, tPart, tSl, tSl3, tBM, tM1, tDNewK, tDNewT, tDGet, tDIn, tDNotIn, sDPut, tYes, tFld, sFld, tMeth, tMake,
  for_L, for_T, for_R, for_S, lc_L, lc_T, lc_R, wipe, rI0, rU, rEq, rNe, rIxT, rIxL, rIxS, L2.start, List.map_cons, List.map_nil, List.length_cons, List.length_nil, Nat.reduceAdd, Nat.reduceSub, List.replicate_succ, List.replicate_zero, List.cons_append, List.nil_append, List.append_nil,
  List.getElem?_cons_zero, List.getElem?_cons_succ, List.set_cons_zero, List.set_cons_succ, Option.some.injEq, V.int.injEq, V.bl.injEq, V.str.injEq, V.ref.injEq, V.ty.injEq, List.cons.injEq, and_true, true_and, exists_eq_left, exists_eq_left', exists_and_left, exists_eq, scal, decide_eq_true_eq, reduceCtorEq, decide_false, decide_true, Bool.not_true, Bool.not_false, if_true, if_false, Bool.false_eq_true, ite_true, ite_false, Bool.not_eq_true', decide_eq_false_iff_not])
local macro_rules | `(tactic| walk_at "tk") => `(tactic| first | exact TK.refl _ | assumption | exact TK.same (by assumption) | (refine TK.trans ?_ (TK.new (by assumption)); walk_at "tk") | (refine TK.trans ?_ (TK.put (by assumption) rfl); walk_at "tk") | (refine TK.trans ?_ (TK.same (by assumption)); walk_at "tk"))
local macro_rules | `(tactic| walk_at "fz") => `(tactic| first | assumption | exact L2.SqT.tk (by assumption) (by walk_at "tk") | exact IsRch.tk (by assumption) (by walk_at "tk") | exact IsPlt.tk (by assumption) (by walk_at "tk") | exact IsStp.tk (by assumption) (by walk_at "tk") | exact IsRow.tk (by assumption) (by walk_at "tk") | exact IsEnt.tk (by assumption) (by walk_at "tk") | exact pairS_tk (by assumption) (by walk_at "tk") | exact pairE_tk (by assumption) (by walk_at "tk"))
local macro_rules | `(tactic| walk_at "sm") => `(tactic| first | exact L2.Same.refl _ | assumption | (refine L2.Same.trans ?_ (L2.Same.new (by assumption)); walk_at "sm") | (refine L2.Same.put ?_ (by assumption); walk_at "sm") | (refine L2.Same.trans ?_ (by assumption); walk_at "sm"))
local macro_rules | `(tactic| walk_at "jk") => `(tactic| first | exact ⟨_, rfl⟩ | exact ⟨_, _, rfl, rfl⟩ | exact ⟨⟨_, rfl⟩, _, rfl⟩ | exact ⟨_, rfl, _, rfl⟩ | simp)

section
variable {P : Program} {w : World} {K : PySem.W.Frag} {mg : Str → Option Value} {base : Heap}

/-! stretch_of -/
theorem sc_stretch_of : FnScope ["low", "high"] ["low", "high"] (defScope s_stretch_of) := ⟨rfl, rfl, rfl, by decide +kernel, rfl, by decide +kernel, by decide +kernel⟩
theorem F_stretch_of (T : Top K mg) : Fn P w K mg base CX0 1 "stretch_of" ["low", "high"] (sp_stretch_of K) := by
  obtain ⟨fd, F⟩ := T.D_stretch_of
  refine mk_fn F T.g_stretch_of (fun _ _ _ _ _ _ us hl => match us, hl with | [_, _], _ => rfl) (F.okN sc_stretch_of (fun vs H Q E h => ?_) (fun cdv A outer s H vs Q E hr h => ?_))
  · obtain ⟨lo, hi, rfl, _⟩ := h
    rfl
  · obtain ⟨lo, hi, rfl, h1, h2, q⟩ := h
    refine ⟨_, (pss_cons (ps_if (PW.pt (pw_and (pt_cmpR op_isN (pv 0) pe_non (nomark _)) (pw_and1 (pt_cmpR op_isN (pv 1) pe_non (nomark _))))) (pss_one (ps_ret (pe_tup (pa_cons pe_bl (pa_cons (pe_tup pa_nil) pa_nil))))) pss_nil)
      (pss_cons (ps_if (pt_cmpR op_isN (pv 0) pe_non (nomark _)) (pss_one (ps_ret (pe_tup (pa_cons pe_bl (pa_cons (pe_tup (pa_cons (pv 1) pa_nil)) pa_nil))))) pss_nil)
      (pss_cons (ps_if (pt_cmpR op_isN (pv 1) pe_non (nomark _)) (pss_one (ps_ret (pe_tup (pa_cons pe_bl (pa_cons (pe_tup (pa_cons (pv 0) pa_nil)) pa_nil))))) pss_nil)
      (pss_cons (ps_if (pt_cmpR op_le (pv 1) (pv 0) (nomark _)) (pss_one (ps_ret (pe_tup (pa_cons pe_bl (pa_cons (pe_tup pa_nil) pa_nil))))) pss_nil)
      (pss_one (ps_ret (pe_tup (pa_cons pe_bl (pa_cons (pe_tup (pa_cons (pv 0) (pa_cons (pv 1) pa_nil))) pa_nil))))))))), ?_⟩
    walk_at "un"
    have s1 : Sm 0 := ⟨by decide, by decide⟩
    rcases lo with _ | lo <;> rcases hi with _ | hi
    all_goals simp only [optV]
    · walk_at "un"
      refine ⟨Nat.zero_le _, fun p n1 => ⟨sz (by decide), fun x n2 => ?_⟩⟩
      have z := mk_rch (K := K) (es := []) (b := true) n1 n2
      exact q _ _ _ z.1 z.2 ⟨.nil, (fun _ h => nomatch h), Nat.zero_le _⟩
    · walk_at "un"
      refine ⟨sz (by decide), fun p n1 => ⟨sz (by decide), fun x n2 => ?_⟩⟩
      have z := mk_rch (K := K) (es := [hi]) (b := true) n1 n2
      exact q _ _ _ z.1 z.2 ⟨List.pairwise_singleton _ _, (fun e h => by rw [List.mem_singleton.mp h]; exact h2 _ rfl), (by simp)⟩
    · walk_at "un"
      refine ⟨sz (by decide), fun p n1 => ⟨sz (by decide), fun x n2 => ?_⟩⟩
      have z := mk_rch (K := K) (es := [lo]) (b := false) n1 n2
      exact q _ _ _ z.1 z.2 ⟨List.pairwise_singleton _ _, (fun e h => by rw [List.mem_singleton.mp h]; exact h1 _ rfl), (by simp)⟩
    · walk_at "un"
      by_cases hc : hi ≤ lo
      · rw [if_pos hc]
        refine ⟨Nat.zero_le _, fun p n1 => ⟨sz (by decide), fun x n2 => ?_⟩⟩
        have z := mk_rch (K := K) (es := []) (b := false) n1 n2
        exact q _ _ _ z.1 z.2 ⟨.nil, (fun _ h => nomatch h), Nat.zero_le _⟩
      · rw [if_neg hc]
        refine ⟨sz (by decide), fun p n1 => ⟨sz (by decide), fun x n2 => ?_⟩⟩
        have z := mk_rch (K := K) (es := [lo, hi]) (b := false) n1 n2
        refine q _ _ _ z.1 z.2 ⟨?_, (fun e h => ?_), (by simp)⟩
        · show [lo, hi].Pairwise (· < ·)
          simp
          omega
        · rcases List.mem_cons.mp h with e1 | h
          · rw [e1]; exact h1 _ rfl
          · rw [List.mem_singleton.mp h]; exact h2 _ rfl
/-! edges_marked -/
theorem sc_edges_marked : FnScope ["reach", "marks", "edge"] ["reach"] (defScope s_edges_marked) := ⟨rfl, rfl, rfl, by decide +kernel, rfl, by decide +kernel, by decide +kernel⟩
theorem F_edges_marked (T : Top K mg) : Fn P w K mg base CX0 1 "edges_marked" ["reach"] (sp_edges_marked K) := by
  obtain ⟨fd, F⟩ := T.D_edges_marked
  refine mk_fn F T.g_edges_marked (fun _ _ _ _ _ _ us hl => match us, hl with | [_], _ => rfl) (F.okN sc_edges_marked (fun vs H Q E h => ?_) (fun cdv A outer s H vs Q E hr h => ?_))
  · obtain ⟨v, r, rfl, _⟩ := h
    rfl
  · obtain ⟨v, ⟨b, es⟩, rfl, ⟨a, c, rfl, h1, h2⟩, hl, q⟩ := h
    refine ⟨_, (pss_cons (ps_set (i := 1) sc_edges_marked.nd rfl (.inl rfl) pe_dnewK)
      (pss_cons (ps_for PassesOwn.never rfl (pi_tup (pe_ix ix_tup (pv 0) pe_int (fun _ _ => rfl))) (pg_name (i := 2) sc_edges_marked.nd rfl (.inl rfl)) (pss_one (ps_dput (hu_of hr) (pv 1) (pv 2) pe_bl rfl)))
      (pss_one (ps_ret (pv 1))))), ?_⟩
    walk_at "un"
    intro p n1
    have s1 : Same H (upd H p (.dK [])) := L2.Same.new n1
    refine ⟨_, h1.tk (TK.same s1), _, rfl, _, rfl, ⟨_, h2.tk (TK.same s1)⟩, ?_⟩
    refine lp_tup (paired_ints es) (fun d r σ H' => Same H H' ∧ ∃ kvs x, H' p = some (.dK kvs) ∧ kvs.length ≤ d.length ∧ σ = [some (.ref a), some (.ref p), x]) ⟨s1, _, _, upd_same, Nat.le_refl _, rfl⟩ (fun d r σ H' z => h2.tk (TK.same z.1)) ?_ ?_
    · rintro d _ y r σ H' e rfl ⟨s2, kvs, x, e2, hk, rfl⟩
      walk_at "un"
      have hd : d.length ≤ 1000 := by rw [show es = d ++ y :: r from e] at hl; simp at hl; omega
      refine ⟨_, DPut.k (k := .inl y) e2 (szl (by omega)), ?_⟩
      refine ⟨L2.Same.put s2 n1, _, upd_same, ?_, _, rfl⟩
      have := putK_len kvs (.inl y) (V.bl true)
      rw [List.length_append]
      simp
      omega
    · rintro σ H' ⟨s2, kvs, x, e2, hk, rfl⟩
      walk_at "un"
      exact q _ _ _ n1 s2 e2
/-! blend -/
theorem sc_blend : FnScope ["one", "other", "word", "mine", "theirs", "here", "there", "first", "truth", "edges", "edge"] ["one", "other", "word"] (defScope s_blend) := ⟨rfl, rfl, rfl, by decide +kernel, rfl, by decide +kernel, by decide +kernel⟩
theorem F_blend (T : Top K mg) (G_edges_marked : Fn P w K mg base CX0 1 "edges_marked" ["reach"] (sp_edges_marked K)) (G_truth_by : Fn P w K mg base CX0 1 "truth_by" ["word", "one", "other"] sp_truth_by) : Fn P w K mg base CX0 2 "blend" ["one", "other", "word"] (sp_blend K) := by
  obtain ⟨fd, F⟩ := T.D_blend
  refine mk_fn F T.g_blend (fun _ _ _ _ _ _ us hl => match us, hl with | [_, _, _], _ => rfl) (F.okN sc_blend (fun vs H Q E h => ?_) (fun cdv A outer s H vs Q E hr h => ?_))
  · obtain ⟨v, r, u, q, m, less, rfl, _⟩ := h
    rfl
  · obtain ⟨_, ⟨b1, es1⟩, _, ⟨b2, es2⟩, m, less, rfl, ⟨a1, c1, rfl, h11, h12⟩, ⟨a2, c2, rfl, h21, h22⟩, g1, g2, hm, q⟩ := h
    refine ⟨_, (pss_cons (ps_set (i := 3) sc_blend.nd rfl (.inl rfl) (pe_fn G_edges_marked (hr.mono (by decide)) (by rfl) pass0 (pa_cons (pv 0) pa_nil)))
      (pss_cons (ps_set (i := 4) sc_blend.nd rfl (.inl rfl) (pe_fn G_edges_marked (hr.mono (by decide)) (by rfl) pass0 (pa_cons (pv 1) pa_nil)))
      (pss_cons (ps_set (i := 5) sc_blend.nd rfl (.inl rfl) (pe_ix ix_tup (pv 0) pe_int (fun _ _ => rfl)))
      (pss_cons (ps_set (i := 6) sc_blend.nd rfl (.inl rfl) (pe_ix ix_tup (pv 1) pe_int (fun _ _ => rfl)))
      (pss_cons (ps_set (i := 7) sc_blend.nd rfl (.inl rfl) (pe_fn G_truth_by (hr.mono (by decide)) (by rfl) pass0 (pa_cons (pv 2) (pa_cons (pv 5) (pa_cons (pv 6) pa_nil)))))
      (pss_cons (ps_set (i := 8) sc_blend.nd rfl (.inl rfl) (pv 7))
      (pss_cons (ps_set (i := 9) sc_blend.nd rfl (.inl rfl) (pe_lst pa_nil))
      (pss_cons (ps_for PassesOwn.never rfl (pi_list (pe_callB (cr_sortedSet rfl) (by rfl) T.f_sorted (by decide +kernel) (pa_cons (pe_callTy (cr_setTup rfl) (by rfl) T.f_set (by decide +kernel) (pa_cons (pe_op op_catA (pe_ix ix_tup (pv 0) pe_int (fun _ _ => rfl)) (pe_ix ix_tup (pv 1) pe_int (fun _ _ => rfl))) pa_nil)) pa_nil))) (pg_name (i := 10) sc_blend.nd rfl (.inl rfl)) (pss_cons (ps_if (pt_cmp (pc_din (hu_of hr) (pv 10) (pv 3))) (pss_one (ps_set (i := 5) sc_blend.nd rfl (.inl rfl) (pe_not (pv 5)))) pss_nil)
      (pss_cons (ps_if (pt_cmp (pc_din (hu_of hr) (pv 10) (pv 4))) (pss_one (ps_set (i := 6) sc_blend.nd rfl (.inl rfl) (pe_not (pv 6)))) pss_nil)
      (pss_one (ps_if (pt_cmpR op_ne (pe_fn G_truth_by (hr.mono (by decide)) (by rfl) pass0 (pa_cons (pv 2) (pa_cons (pv 5) (pa_cons (pv 6) pa_nil)))) (pv 8) (nomark _)) (pss_cons (ps_expr (pe_bm PySem.F.plainAttrs_list PySem.F.slot_list_append PySem.F.type_list_append mt_append (pv 9) (pa_cons (pv 10) pa_nil)))
      (pss_one (ps_set (i := 8) sc_blend.nd rfl (.inl rfl) (pe_not (pv 8))))) pss_nil)))))
      (pss_one (ps_ret (pe_tup (pa_cons (pv 7) (pa_cons (pe_callTy call_tuple_of (by rfl) T.f_tuple (by decide +kernel) (pa_cons (pv 9) pa_nil)) pa_nil))))))))))))), ?_⟩
    walk_at "un"
    refine ⟨_, _, rfl, ⟨_, _, rfl, h11, h12⟩, by have := g1.2.2; omega, fun ma k1 H1 n1 s1 e1 => ?_⟩
    refine ⟨_, _, rfl, ⟨_, _, rfl, h21.tk (TK.same s1), h22.tk (TK.same s1)⟩, by have := g2.2.2; omega, fun mb k2 H2 n2 s2 e2 => ?_⟩
    have S2 : Same H H2 := s1.trans s2
    refine ⟨_, h11.tk (TK.same S2), _, rfl, _, h21.tk (TK.same S2), _, rfl, ?_⟩
    refine ⟨less, b1, b2, rfl, Nat.zero_le _, fun L nL => ?_⟩
    have S3 : Same H (upd H2 L (.lst [])) := S2.trans (L2.Same.new nL)
    have e13 : upd H2 L (.lst []) ma = some (.dK k1) := L2.Same.new nL _ _ (s2 _ _ e1)
    have e23 : upd H2 L (.lst []) mb = some (.dK k2) := L2.Same.new nL _ _ e2
    have nL0 : H L = none := S2.none nL
    have eL : upd H2 L (.lst []) L = some (.lst []) := upd_same
    generalize upd H2 L (.lst []) = H3 at S3 e13 e23 eL ⊢
    refine ⟨_, h11.tk (TK.same S3), _, rfl, _, h21.tk (TK.same S3), _, rfl, ?_⟩
    have lens : es1.length + es2.length ≤ 62 := by have l1 : es1.length ≤ 2 * m := g1.2.2; have l2 : es2.length ≤ 2 * 1 := g2.2.2; omega
    refine catA (h12.tk (TK.same S3)) (h22.tk (TK.same S3)) (sz (by simp; omega)) fun c H4 s4 hc => ?_
    rw [← List.map_append] at hc
    refine ⟨c, es1 ++ es2, rfl, hc, by simp; omega, fun sa n4 nsa hn4 => ?_⟩
    have e5 : upd H4 sa (SetO w sa (fun j => decide (j ∈ es1 ++ es2)) n4) sa = some (SetO w sa (fun j => decide (j ∈ es1 ++ es2)) n4) := upd_same
    have s5 := s4.trans (L2.Same.new (o := SetO w sa (fun j => decide (j ∈ es1 ++ es2)) n4) nsa)
    generalize upd H4 sa (SetO w sa (fun j => decide (j ∈ es1 ++ es2)) n4) = H5 at e5 s5 ⊢
    refine ⟨sa, _, n4, rfl, e5, by simp at hn4; omega, fun ns p pw hm hl np => ?_⟩
    have s6 := s5.trans (L2.Same.new (o := .lst (ns.map V.int)) np)
    have e6 : upd H5 p (.lst (ns.map V.int)) p = some (.lst (ns.map V.int)) := upd_same
    have neL : p ≠ L := fun e => by rw [e] at np; rw [s5 _ _ eL] at np; cases np
    generalize upd H5 p (.lst (ns.map V.int)) = H6 at s6 e6 ⊢
    refine ⟨_, rfl, ⟨_, SqL.of e6⟩, ?_⟩
    have S6 := S3.trans s6
    refine lp_list (paired_ints ns) (fun d r σ H' => Same H H' ∧ H' p = some (.lst (ns.map V.int)) ∧ H' ma = some (.dK k1) ∧ H' mb = some (.dK k2) ∧ ∃ out h t tr x, H' L = some (.lst (out.map V.int)) ∧ out.Sublist d ∧ σ = [some (.ref a1), some (.ref a2), some (.str (wdOf less)), some (.ref ma), some (.ref mb), some (.bl h), some (.bl t), some (.bl (tbF less b1 b2)), some (.bl tr), some (.ref L), x])
      ⟨S6, e6, s6 _ _ e13, s6 _ _ e23, [], _, _, _, _, s6 _ _ eL, List.nil_sublist _, rfl⟩ (fun d r σ H' z => SqL.of z.2.1) ?_ ?_
    · rintro d _ y r σ H' e rfl ⟨f1, f2, f3, f4, out, h, t, tr, x, f5, f6, rfl⟩
      walk_at "un"
      have stp : ∀ hh tt : Bool, V.bl (tbF less hh tt) ≠ V.bl tr → Same H (upd H' L (.lst (out.map V.int ++ [.int y]))) ∧ upd H' L (.lst (out.map V.int ++ [.int y])) p = some (.lst (ns.map V.int)) ∧ upd H' L (.lst (out.map V.int ++ [.int y])) ma = some (.dK k1) ∧ upd H' L (.lst (out.map V.int ++ [.int y])) mb = some (.dK k2) ∧ ∃ o2, upd H' L (.lst (out.map V.int ++ [.int y])) L = some (.lst (List.map V.int o2)) ∧ o2.Sublist (d ++ [y]) ∧ ∃ x, some (V.int y) = x :=
        fun hh tt _ => ⟨L2.Same.put f1 nL0, get_ne f2 neL, get_put f3 f5 (fun z => nomatch z), get_put f4 f5 (fun z => nomatch z), out ++ [y], by rw [upd_same]; simp, f6.append (List.Sublist.refl _), _, rfl⟩
      have ol : out.length ≤ 62 := by
        have l1 := f6.length_le
        have l2 : ns.length = d.length + (r.length + 1) := by rw [e]; simp
        rw [List.length_append] at hn4
        omega
      have off : (out.map V.int).length < sizeLine := szl (by rw [List.length_map]; omega)
      have non : Same H H' ∧ H' p = some (.lst (ns.map V.int)) ∧ H' ma = some (.dK k1) ∧ H' mb = some (.dK k2) ∧ ∃ o2, H' L = some (.lst (List.map V.int o2)) ∧ o2.Sublist (d ++ [y]) ∧ ∃ x, some (V.int y) = x :=
        ⟨f1, f2, f3, f4, out, f5, f6.trans (List.sublist_append_left _ _), _, rfl⟩
      refine ⟨_, DGet.k (k := .inl y) f3, ?_⟩
      split <;> (refine ⟨_, DGet.k (k := .inl y) f4, ?_⟩; split) <;>
        (refine ⟨less, _, _, rfl, rfl, ?_⟩
         split
         · exact ⟨tyL f5, app1 f5 off (stp _ _ (by assumption))⟩
         · exact non)
    · rintro σ H' ⟨f1, f2, f3, f4, out, h, t, tr, x, f5, f6, rfl⟩
      walk_at "un"
      refine ⟨_, .inl ⟨SqL.of f5, fun l nl => ⟨sz (by decide), fun z nz => ?_⟩⟩⟩
      have k := mk_rch (K := K) (es := out) (b := tbF less b1 b2) nl nz
      refine q _ _ _ (f1.trans k.1) k.2 ⟨pw.sublist f6, (fun e he => ?_), ?_⟩
      · have : e ∈ es1 ++ es2 := by simpa using (hm e).mp (f6.subset he)
        rcases List.mem_append.mp this with g | g
        · exact g1.2.1 e g
        · exact g2.2.1 e g
      · show out.length ≤ 2 * (m + 1)
        have l0 := f6.length_le
        have l1 : es1.length ≤ 2 * m := g1.2.2
        have l2 : es2.length ≤ 2 * 1 := g2.2.2
        rw [List.length_append] at hn4
        omega
end
end HW
set_option Elab.async false
set_option linter.all false
set_option maxRecDepth 100000
set_option maxHeartbeats 4000000
namespace HW
open PySem PySem.Spec PyProof.Rows L2
local macro_rules | `(tactic| walk_at "un") => `(tactic| simp only [cxOf, tSeq, tNext, tIfS, tTest, tOp, tUn, tVar, tC, tRet, tRetN, tNever, tAsg, gName, gNil, gCons, gTup, eq_self, rListOf, Option.isSome_none, Option.isSome_some, gSub, tDrop, tCB, tCall, tCons, tNil, tTup, tLst, tB, tAnd, tOr, tNot, tAndV, tOrV, tNotV, tNoPart, tPart, tSl, tSl3, tBM, tM1, tDNewK, tDNewT, tDGet, tDIn, tDNotIn, sDPut, tYes, tFld, sFld, tMeth, tMake,
  for_L, for_T, for_R, for_S, lc_L, lc_T, lc_R, wipe, rI0, rU, rEq, rNe, rIxT, rIxL, rIxS, L2.start, List.map_cons, List.map_nil, List.length_cons, List.length_nil, Nat.reduceAdd, Nat.reduceSub, List.replicate_succ, List.replicate_zero, List.cons_append, List.nil_append, List.append_nil,
  List.getElem?_cons_zero, List.getElem?_cons_succ, List.set_cons_zero, List.set_cons_succ, Option.some.injEq, V.int.injEq, V.bl.injEq, V.str.injEq, V.ref.injEq, V.ty.injEq, List.cons.injEq, and_true, true_and, exists_eq_left, exists_eq_left', exists_and_left, exists_eq, scal, decide_eq_true_eq, reduceCtorEq, decide_false, decide_true, Bool.not_true, Bool.not_false, if_true, if_false, Bool.false_eq_true, ite_true, ite_false, Bool.not_eq_true', decide_eq_false_iff_not])
local macro_rules | `(tactic| walk_at "tk") => `(tactic| first | exact TK.refl _ | assumption | exact TK.same (by assumption) | (refine TK.trans ?_ (TK.new (by assumption)); walk_at "tk") | (refine TK.trans ?_ (TK.put (by assumption) rfl); walk_at "tk") | (refine TK.trans ?_ (TK.same (by assumption)); walk_at "tk"))
local macro_rules | `(tactic| walk_at "fz") => `(tactic| first | assumption | exact L2.SqT.tk (by assumption) (by walk_at "tk") | exact IsRch.tk (by assumption) (by walk_at "tk") | exact IsPlt.tk (by assumption) (by walk_at "tk") | exact IsStp.tk (by assumption) (by walk_at "tk") | exact IsRow.tk (by assumption) (by walk_at "tk") | exact IsEnt.tk (by assumption) (by walk_at "tk") | exact pairS_tk (by assumption) (by walk_at "tk") | exact pairE_tk (by assumption) (by walk_at "tk"))
local macro_rules | `(tactic| walk_at "sm") => `(tactic| first | exact L2.Same.refl _ | assumption | (refine L2.Same.trans ?_ (L2.Same.new (by assumption)); walk_at "sm") | (refine L2.Same.put ?_ (by assumption); walk_at "sm") | (refine L2.Same.trans ?_ (by assumption); walk_at "sm"))
local macro_rules | `(tactic| walk_at "jk") => `(tactic| first | exact ⟨_, rfl⟩ | exact ⟨_, _, rfl, rfl⟩ | exact ⟨⟨_, rfl⟩, _, rfl⟩ | exact ⟨_, rfl, _, rfl⟩ | simp)

section
variable {P : Program} {w : World} {K : PySem.W.Frag} {mg : Str → Option Value} {base : Heap}

/-! reach_at -/
theorem sc_reach_at : FnScope ["plot", "turn", "here", "at", "reach"] ["plot", "turn"] (defScope s_reach_at) := ⟨rfl, rfl, rfl, by decide +kernel, rfl, by decide +kernel, by decide +kernel⟩
theorem F_reach_at (T : Top K mg) : Fn P w K mg base CX0 1 "reach_at" ["plot", "turn"] (sp_reach_at K) := by
  obtain ⟨fd, F⟩ := T.D_reach_at
  refine mk_fn F T.g_reach_at (fun _ _ _ _ _ _ us hl => match us, hl with | [_, _], _ => rfl) (F.okN sc_reach_at (fun vs H Q E h => ?_) (fun cdv A outer s H vs Q E hr h => ?_))
  · obtain ⟨v, p, t, rfl, _⟩ := h
    rfl
  · obtain ⟨v, ⟨g, ss⟩, t, rfl, ⟨a, u, b, vs, rfl, h1, h2, h3, h4⟩, q⟩ := h
    refine ⟨_, (pss_cons (ps_set (i := 2) sc_reach_at.nd rfl (.inl rfl) (pe_ix ix_tup (pv 0) pe_int (fun _ _ => rfl)))
      (pss_cons (ps_for PassesOwn.never rfl (pi_tup (pe_ix ix_tup (pv 0) pe_int (fun _ _ => rfl))) (pg_tup (n := 2) rfl (pgs_cons (pg_name (i := 3) sc_reach_at.nd rfl (.inl rfl)) (pgs_cons (pg_name (i := 4) sc_reach_at.nd rfl (.inl rfl)) pgs_nil))) (pss_one (ps_if (pt_cmpR op_le (pv 3) (pv 1) (nomark _)) (pss_one (ps_set (i := 2) sc_reach_at.nd rfl (.inl rfl) (pv 4))) pss_nil)))
      (pss_one (ps_ret (pv 2))))), ?_⟩
    walk_at "un"
    refine ⟨_, h1, _, rfl, _, h1, _, rfl, _, rfl, ⟨_, h3⟩, ?_⟩
    refine lp_tup h4 (fun d r σ H' => H' = H ∧ ∃ u2 r2 x y, σ = [some (.ref a), some (.int t), some u2, x, y] ∧ IsRch K H u2 r2 ∧ (r2 = g ∨ ∃ s ∈ ss, r2 = s.2)) ⟨rfl, _, _, _, _, rfl, h2, .inl rfl⟩ (fun d r σ H' z => by rw [z.1]; exact h3) ?_ ?_
    · rintro d v y r σ H' e ⟨sa, su, rfl, k1, k2⟩ ⟨rfl, u2, r2, x, z, rfl, hr2, ho⟩
      walk_at "un"
      refine ⟨_, k1, rfl, _, _, rfl, _, _, rfl, rfl, _, rfl, ?_⟩
      split
      · exact ⟨_, _, _, _, ⟨rfl, rfl, rfl⟩, k2, .inr ⟨y, by rw [show ss = d ++ y :: r from e]; simp, rfl⟩⟩
      · exact ⟨_, _, _, _, ⟨rfl, rfl, rfl⟩, hr2, ho⟩
    · rintro σ H' ⟨rfl, u2, r2, x, z, rfl, hr2, ho⟩
      walk_at "un"
      exact q _ _ hr2 ho
/-! plot_of -/
/-- out is a chain behind g that ends at l -/
def ChnL (g : Rch) (out : List Stp) (l : Rch) : Prop := match out with
  | [] => l = g
  | s :: ss => s.2 ≠ g ∧ ChnL s.2 ss l
theorem chnL_snoc {s : Stp} : ∀ {out : List Stp} {g l : Rch}, ChnL g out l → s.2 ≠ l → ChnL g (out ++ [s]) s.2
  | [], g, l, h, n => ⟨by rw [show l = g from h] at n; exact n, rfl⟩
  | x :: xs, g, l, h, n => ⟨h.1, chnL_snoc h.2 n⟩
theorem chnL_chn : ∀ {out : List Stp} {g l : Rch}, ChnL g out l → Chn g out
  | [], _, _, _ => trivial
  | x :: xs, g, l, h => ⟨h.1, chnL_chn h.2⟩
theorem sc_plot_of : FnScope ["ground", "pairs", "steps", "last", "at", "reach"] ["ground", "pairs"] (defScope s_plot_of) := ⟨rfl, rfl, rfl, by decide +kernel, rfl, by decide +kernel, by decide +kernel⟩
theorem F_plot_of (T : Top K mg) : Fn P w K mg base CX0 1 "plot_of" ["ground", "pairs"] (sp_plot_of K) := by
  obtain ⟨fd, F⟩ := T.D_plot_of
  refine mk_fn F T.g_plot_of (fun _ _ _ _ _ _ us hl => match us, hl with | [_, _], _ => rfl) (F.okN sc_plot_of (fun vs H Q E h => ?_) (fun cdv A outer s H vs Q E hr h => ?_))
  · obtain ⟨v, g, l, us, ss, rfl, _⟩ := h
    rfl
  · obtain ⟨v, g, l, us, ss, rfl, hg, h1, h2, hn, q⟩ := h
    refine ⟨_, (pss_cons (ps_set (i := 2) sc_plot_of.nd rfl (.inl rfl) (pe_lst pa_nil))
      (pss_cons (ps_set (i := 3) sc_plot_of.nd rfl (.inl rfl) (pv 0))
      (pss_cons (ps_for PassesOwn.never rfl (pi_list (pv 1)) (pg_tup (n := 2) rfl (pgs_cons (pg_name (i := 4) sc_plot_of.nd rfl (.inl rfl)) (pgs_cons (pg_name (i := 5) sc_plot_of.nd rfl (.inl rfl)) pgs_nil))) (pss_one (ps_if (pt_cmpR (op_neD hr.units) (pv 5) (pv 3) (nomark _)) (pss_cons (ps_expr (pe_bm PySem.F.plainAttrs_list PySem.F.slot_list_append PySem.F.type_list_append mt_append (pv 2) (pa_cons (pe_tup (pa_cons (pv 4) (pa_cons (pv 5) pa_nil))) pa_nil)))
      (pss_one (ps_set (i := 3) sc_plot_of.nd rfl (.inl rfl) (pv 5)))) pss_nil)))
      (pss_one (ps_ret (pe_tup (pa_cons (pv 0) (pa_cons (pe_callTy call_tuple_of (by rfl) T.f_tuple (by decide +kernel) (pa_cons (pv 2) pa_nil)) pa_nil)))))))), ?_⟩
    walk_at "un"
    refine ⟨Nat.zero_le _, own (G := fun p H1 => (∃ xs, SqL K H1 l xs) ∧ Lp _ _ _ _ [some v, some (.ref l), some (.ref p), some v, none, none] H1) fun p H1 np s1 e1 => ?_⟩
    refine ⟨⟨_, SqL.of (s1 _ _ h1)⟩, ?_⟩
    have npl : p ≠ l := fun e => by rw [e, h1] at np; cases np
    refine lp_list (K := K) h2 (fun d r σ H' => Same H H' ∧ ∃ outv out u2 r2 x y, H' p = some (.lst outv) ∧ Paired (IsStp K H') outv out ∧ out.Sublist d ∧ ChnL g out r2 ∧ IsRch K H' u2 r2 ∧ σ = [some v, some (.ref l), some (.ref p), some u2, x, y])
      ⟨s1, _, [], _, g, _, _, e1, .nil, List.nil_sublist _, rfl, hg.tk (TK.same s1), rfl⟩ (fun d r σ H' z => SqL.of (z.1 _ _ h1)) ?_ ?_
    · rintro d vv y r σ H' e ⟨sa, su, rfl, k1, k2⟩ ⟨f1, outv, out, u2, r2, x, z, f2, f3, f4, f5, f6, rfl⟩
      walk_at "un"
      refine ⟨_, k1.tk (TK.same f1), rfl, _, _, rfl, ?_⟩
      have ol : out.length ≤ d.length := f4.length_le
      have dl : ss.length = d.length + (r.length + 1) := by rw [e]; simp
      have vl : outv.length = out.length := Paired.length f3
      have non : y.2 = r2 → Same H H' ∧ ∃ outv, H' p = some (HO.lst outv) ∧ ∃ x, Paired (IsStp K H') outv x ∧ x.Sublist (d ++ [y]) ∧ ∃ x_1 x_2, ChnL g x x_2 ∧ IsRch K H' x_1 x_2 ∧ u2 = x_1 ∧ ∃ x, some su = x :=
        fun _ => ⟨f1, _, f2, _, f3, f4.trans (List.sublist_append_left _ _), _, _, f5, f6, rfl, _, rfl⟩
      refine ⟨_, _, rfl, rfl, neqD (k2.tk (TK.same f1)) f6 ⟨_, rfl, ?_⟩⟩
      by_cases hy : y.2 = r2
      · rw [if_neg (by simp [hy])]
        exact non hy
      · rw [if_pos (by simp [hy])]
        refine ⟨tyL f2, sz (by decide), fun c nc => ?_⟩
        have s3 : Same H' (upd H' c (.tup [.int y.1, su])) := L2.Same.new nc
        refine app1 (s3 _ _ f2) (szl (by omega)) ⟨L2.Same.put (f1.trans s3) np, _, upd_same, _, paired_snoc (pairS_tk f3 ?_) ⟨c, su, rfl, ?_, ?_⟩, f4.append (List.Sublist.refl [y]), _, _, chnL_snoc f5 hy, ?_, rfl, _, rfl⟩
        · exact (TK.same s3).trans (TK.put (s3 _ _ f2) rfl)
        · exact SqT.of (get_put upd_same (s3 _ _ f2) (fun z => nomatch z))
        · exact k2.tk ((TK.same (f1.trans s3)).trans (TK.put (s3 _ _ f2) rfl))
        · exact k2.tk ((TK.same (f1.trans s3)).trans (TK.put (s3 _ _ f2) rfl))
    · rintro σ H' ⟨f1, outv, out, u2, r2, x, z, f2, f3, f4, f5, f6, rfl⟩
      walk_at "un"
      refine ⟨_, .inl ⟨SqL.of f2, fun b nb => ⟨sz (by decide), fun c nc => ?_⟩⟩⟩
      have s3 := (L2.Same.new (o := .tup outv) nb).trans (L2.Same.new (o := .tup [v, .ref b]) nc)
      exact q _ _ _ (f1.trans s3) ⟨c, v, b, outv, rfl, SqT.of upd_same, hg.tk (TK.same (f1.trans s3)), SqT.of (L2.Same.new nc _ _ upd_same), pairS_tk f3 (TK.same s3)⟩ f4 (chnL_chn f5)
/-! is_step -/
theorem sc_is_step : FnScope ["thing"] ["thing"] (defScope s_is_step) := ⟨rfl, rfl, rfl, by decide +kernel, rfl, by decide +kernel, by decide +kernel⟩
theorem F_is_step (T : Top K mg) (G_is_turn : Fn P w K mg base CX0 1 "is_turn" ["thing"] sp_is_turn) (G_is_reach : Fn P w K mg base CX0 1 "is_reach" ["thing"] (sp_is_reach K)) : Fn P w K mg base CX0 2 "is_step" ["thing"] (sp_is_step K) := by
  obtain ⟨fd, F⟩ := T.D_is_step
  refine mk_fn F T.g_is_step (fun _ _ _ _ _ _ us hl => match us, hl with | [_], _ => rfl) (F.okN sc_is_step (fun vs H Q E h => ?_) (fun cdv A outer s H vs Q E hr h => ?_))
  · obtain ⟨v, s, rfl, _⟩ := h
    rfl
  · obtain ⟨v, ⟨t, r⟩, rfl, ⟨a, u, rfl, h1, h2⟩, hp, q⟩ := h
    refine ⟨_, (pss_cons (ps_if (PW.pt (pw_or (pt_not (pt_val (pe_callB call_isi (by rfl) T.f_isinstance (by decide +kernel) (pa_cons (pv 0) (pa_cons (pe_bltn (v := .ty "tuple") (by rfl) T.f_tuple (by decide +kernel) rfl) pa_nil))))) (pw_or1 (pt_cmpR op_ne (pe_callB call_len_seq (by rfl) T.f_len PySem.boot_len (pa_cons (pv 0) pa_nil)) pe_int (nomark _))))) (pss_one (ps_ret pe_bl)) pss_nil)
      (pss_one (ps_ret (pe_and (pe_fn G_is_turn (hr.mono (by decide)) (by rfl) pass0 (pa_cons (pe_ix ix_tup (pv 0) pe_int (fun _ _ => rfl)) pa_nil)) (pe_one (pe_fn G_is_reach (hr.mono (by decide)) (by rfl) pass0 (pa_cons (pe_ix ix_tup (pv 0) pe_int (fun _ _ => rfl)) pa_nil))))))), ?_⟩
    walk_at "un"
    refine isi (b := true) (tyx_tup h1) (by decide +kernel) ?_
    walk_at "un"
    refine ⟨_, .inr h1, ?_⟩
    walk_at "un"
    refine ⟨_, h1, _, rfl, ?_⟩
    refine ⟨t, rfl, ?_⟩
    walk_at "un"
    exact ⟨_, h1, _, rfl, _, _, rfl, h2, hp, q⟩
/-! is_plot -/
theorem sc_is_plot : FnScope ["thing", "last", "ahead", "step"] ["thing"] (defScope s_is_plot) := ⟨rfl, rfl, rfl, by decide +kernel, rfl, by decide +kernel, by decide +kernel⟩
theorem F_is_plot (T : Top K mg) (G_is_reach : Fn P w K mg base CX0 1 "is_reach" ["thing"] (sp_is_reach K)) (G_is_step : Fn P w K mg base CX0 2 "is_step" ["thing"] (sp_is_step K)) : Fn P w K mg base CX0 3 "is_plot" ["thing"] (sp_is_plot K) := by
  obtain ⟨fd, F⟩ := T.D_is_plot
  refine mk_fn F T.g_is_plot (fun _ _ _ _ _ _ us hl => match us, hl with | [_], _ => rfl) (F.okN sc_is_plot (fun vs H Q E h => ?_) (fun cdv A outer s H vs Q E hr h => ?_))
  · obtain ⟨v, p, m, t, rfl, _⟩ := h
    rfl
  · obtain ⟨v, ⟨g, ss⟩, m, t, rfl, ⟨a, u, b, vs, rfl, h1, h2, h3, h4⟩, gp, q⟩ := h
    refine ⟨_, (pss_cons (ps_if (PW.pt (pw_or (pt_not (pt_val (pe_callB call_isi (by rfl) T.f_isinstance (by decide +kernel) (pa_cons (pv 0) (pa_cons (pe_bltn (v := .ty "tuple") (by rfl) T.f_tuple (by decide +kernel) rfl) pa_nil))))) (pw_or1 (pt_cmpR op_ne (pe_callB call_len_seq (by rfl) T.f_len PySem.boot_len (pa_cons (pv 0) pa_nil)) pe_int (nomark _))))) (pss_one (ps_ret pe_bl)) pss_nil)
      (pss_cons (ps_if (PW.pt (pw_or (pt_not (pt_val (pe_fn G_is_reach (hr.mono (by decide)) (by rfl) pass0 (pa_cons (pe_ix ix_tup (pv 0) pe_int (fun _ _ => rfl)) pa_nil)))) (pw_or1 (pt_not (pt_val (pe_callB call_isi (by rfl) T.f_isinstance (by decide +kernel) (pa_cons (pe_ix ix_tup (pv 0) pe_int (fun _ _ => rfl)) (pa_cons (pe_bltn (v := .ty "tuple") (by rfl) T.f_tuple (by decide +kernel) rfl) pa_nil)))))))) (pss_one (ps_ret pe_bl)) pss_nil)
      (pss_cons (ps_set (i := 1) sc_is_plot.nd rfl (.inl rfl) (pe_ix ix_tup (pv 0) pe_int (fun _ _ => rfl)))
      (pss_cons (ps_set (i := 2) sc_is_plot.nd rfl (.inl rfl) pe_non)
      (pss_cons (ps_for PassesOwn.never rfl (pi_tup (pe_ix ix_tup (pv 0) pe_int (fun _ _ => rfl))) (pg_name (i := 3) sc_is_plot.nd rfl (.inl rfl)) (pss_cons (ps_if (PW.pt (pw_or (pt_not (pt_val (pe_fn G_is_step (hr.mono (by decide)) (by rfl) pass0 (pa_cons (pv 3) pa_nil)))) (pw_or1 (pt_cmpR (op_eqD hr.units) (pe_ix ix_tup (pv 3) pe_int (fun _ _ => rfl)) (pv 1) (nomark _))))) (pss_one (ps_ret pe_bl)) pss_nil)
      (pss_cons (ps_if (PW.pt (pw_and (pt_cmpR op_notN (pv 2) pe_non (nomark _)) (pw_and1 (pt_cmpR op_le (pe_ix ix_tup (pv 3) pe_int (fun _ _ => rfl)) (pv 2) (nomark _))))) (pss_one (ps_ret pe_bl)) pss_nil)
      (pss_cons (ps_set (i := 1) sc_is_plot.nd rfl (.inl rfl) (pe_ix ix_tup (pv 3) pe_int (fun _ _ => rfl)))
      (pss_one (ps_set (i := 2) sc_is_plot.nd rfl (.inl rfl) (pe_ix ix_tup (pv 3) pe_int (fun _ _ => rfl))))))))
      (pss_one (ps_ret pe_bl))))))), ?_⟩
    walk_at "un"
    refine isi (b := true) (tyx_tup h1) (by decide +kernel) ?_
    walk_at "un"
    refine ⟨_, .inr h1, ?_⟩
    walk_at "un"
    refine ⟨_, h1, _, rfl, ?_⟩
    refine ⟨_, _, rfl, h2, gp.g.1, ?_⟩
    walk_at "un"
    refine ⟨_, h1, _, rfl, ?_⟩
    refine isi (b := true) (tyx_tup h3) (by decide +kernel) ?_
    walk_at "un"
    refine ⟨_, h1, _, rfl, _, h1, _, rfl, _, rfl, ⟨_, h3⟩, ?_⟩
    refine lp_tup h4 (fun d r σ H' => H' = H ∧ ∃ u2 r2 l x, σ = [some (.ref a), some u2, some l, x] ∧ IsRch K H u2 r2 ∧ Chn r2 r ∧ (l = .non ∨ ∃ n, l = .int n ∧ ∀ s ∈ r, n < s.1)) ⟨rfl, _, _, _, _, rfl, h2, gp.c, .inl rfl⟩ (fun d r σ H' z => by rw [z.1]; exact h3) ?_ ?_
    · rintro d v y r σ H' e ⟨sa, su, rfl, k1, k2⟩ ⟨rfl, u2, r2, l, z, rfl, hr2, hc, ho⟩
      walk_at "un"
      have pw : ∀ s ∈ r, y.1 < s.1 := by
        have h : (d ++ y :: r).Pairwise (fun a b => a.1 < b.1) := e ▸ gp.w
        exact (List.pairwise_cons.mp (List.pairwise_append.mp h).2.1).1
      have hy : y ∈ ss := by rw [show ss = d ++ y :: r from e]; simp
      refine ⟨_, y, rfl, ⟨sa, su, rfl, k1, k2⟩, (gp.s y hy).1.1, ?_⟩
      walk_at "un"
      refine ⟨_, k1, _, rfl, eqqD k2 hr2 ⟨_, rfl, ?_⟩⟩
      rw [if_neg (by simpa using hc.1)]
      rcases ho with rfl | ⟨n, rfl, hn⟩
      · rw [if_neg (by simp)]
        exact ⟨_, k1, _, rfl, _, k1, _, rfl, rfl, _, _, _, _, ⟨rfl, rfl, rfl⟩, k2, hc.2, .inr ⟨_, rfl, pw⟩⟩
      · rw [if_pos (by simp)]
        refine ⟨_, k1, _, rfl, _, rfl, _, rfl, ?_⟩
        rw [if_neg (by have := hn y List.mem_cons_self; omega)]
        exact ⟨_, k1, _, rfl, _, k1, _, rfl, rfl, _, _, _, _, ⟨rfl, rfl, rfl⟩, k2, hc.2, .inr ⟨_, rfl, pw⟩⟩
    · rintro σ H' ⟨rfl, u2, r2, l, z, rfl, hr2, hc, ho⟩
      walk_at "un"
      exact q
end
end HW
set_option Elab.async false
set_option linter.all false
set_option maxRecDepth 100000
set_option maxHeartbeats 4000000
namespace HW
open PySem PySem.Spec PyProof.Rows L2
local macro_rules | `(tactic| walk_at "un") => `(tactic| simp only [cxOf, tSeq, tNext, tIfS, tTest, tOp, tUn, tVar, tC, tRet, tRetN, tNever, tAsg, gName, gNil, gCons, gTup, eq_self, rListOf, Option.isSome_none, Option.isSome_some, gSub, tDrop, tCB, tCall, tCons, tNil, tTup, tLst, tB, tAnd, tOr, tNot, tAndV, tOrV, tNotV, tNoPart, tPart, tSl, tSl3, tBM, tM1, tDNewK, tDNewT, tDGet, tDIn, tDNotIn, sDPut, tYes, tFld, sFld, tMeth, tMake,
  for_L, for_T, for_R, for_S, lc_L, lc_T, lc_R, wipe, rI0, rU, rEq, rNe, rIxT, rIxL, rIxS, L2.start, List.map_cons, List.map_nil, List.length_cons, List.length_nil, Nat.reduceAdd, Nat.reduceSub, List.replicate_succ, List.replicate_zero, List.cons_append, List.nil_append, List.append_nil,
  List.getElem?_cons_zero, List.getElem?_cons_succ, List.set_cons_zero, List.set_cons_succ, Option.some.injEq, V.int.injEq, V.bl.injEq, V.str.injEq, V.ref.injEq, V.ty.injEq, List.cons.injEq, and_true, true_and, exists_eq_left, exists_eq_left', exists_and_left, exists_eq, scal, decide_eq_true_eq, reduceCtorEq, decide_false, decide_true, Bool.not_true, Bool.not_false, if_true, if_false, Bool.false_eq_true, ite_true, ite_false, Bool.not_eq_true', decide_eq_false_iff_not])
local macro_rules | `(tactic| walk_at "tk") => `(tactic| first | exact TK.refl _ | assumption | exact TK.same (by assumption) | (refine TK.trans ?_ (TK.new (by assumption)); walk_at "tk") | (refine TK.trans ?_ (TK.put (by assumption) rfl); walk_at "tk") | (refine TK.trans ?_ (TK.same (by assumption)); walk_at "tk"))
local macro_rules | `(tactic| walk_at "fz") => `(tactic| first | assumption | exact L2.SqT.tk (by assumption) (by walk_at "tk") | exact IsRch.tk (by assumption) (by walk_at "tk") | exact IsPlt.tk (by assumption) (by walk_at "tk") | exact IsStp.tk (by assumption) (by walk_at "tk") | exact IsRow.tk (by assumption) (by walk_at "tk") | exact IsEnt.tk (by assumption) (by walk_at "tk") | exact pairS_tk (by assumption) (by walk_at "tk") | exact pairE_tk (by assumption) (by walk_at "tk"))
local macro_rules | `(tactic| walk_at "sm") => `(tactic| first | exact L2.Same.refl _ | assumption | (refine L2.Same.trans ?_ (L2.Same.new (by assumption)); walk_at "sm") | (refine L2.Same.put ?_ (by assumption); walk_at "sm") | (refine L2.Same.trans ?_ (by assumption); walk_at "sm"))
local macro_rules | `(tactic| walk_at "jk") => `(tactic| first | exact ⟨_, rfl⟩ | exact ⟨_, _, rfl, rfl⟩ | exact ⟨⟨_, rfl⟩, _, rfl⟩ | exact ⟨_, rfl, _, rfl⟩ | simp)

section
variable {P : Program} {w : World} {K : PySem.W.Frag} {mg : Str → Option Value} {base : Heap}

/-! from_plot -/
theorem sc_from_plot : FnScope ["plot", "by", "pairs", "step"] ["plot", "by"] (defScope s_from_plot) := ⟨rfl, rfl, rfl, by decide +kernel, rfl, by decide +kernel, by decide +kernel⟩
theorem F_from_plot (T : Top K mg) (G_reach_at : Fn P w K mg base CX0 1 "reach_at" ["plot", "turn"] (sp_reach_at K)) (G_plot_of : Fn P w K mg base CX0 1 "plot_of" ["ground", "pairs"] (sp_plot_of K)) : Fn P w K mg base CX0 2 "from_plot" ["plot", "by"] (sp_from_plot K) := by
  obtain ⟨fd, F⟩ := T.D_from_plot
  refine mk_fn F T.g_from_plot (fun _ _ _ _ _ _ us hl => match us, hl with | [_, _], _ => rfl) (F.okN sc_from_plot (fun vs H Q E h => ?_) (fun cdv A outer s H vs Q E hr h => ?_))
  · obtain ⟨v, p, m, t, b, rfl, _⟩ := h
    rfl
  · obtain ⟨v, ⟨g, ss⟩, m, t, by_, rfl, ⟨a, u, b, vs, rfl, h1, h2, h3, h4⟩, gp, hm, hb0, hbt, q⟩ := h
    refine ⟨_, (pss_cons (ps_set (i := 2) sc_from_plot.nd rfl (.inl rfl) (pe_op op_cat (pe_lst (pa_cons (pe_tup (pa_cons (pv 1) (pa_cons (pe_fn G_reach_at (hr.mono (by decide)) (by rfl) pass0 (pa_cons (pv 0) (pa_cons (pv 1) pa_nil))) pa_nil))) pa_nil)) (pe_lc (own := [("step", 3)]) (g := gName 3) rfl sc_from_plot.nd (pi_tup (pe_ix ix_tup (pv 0) pe_int (fun _ _ => rfl))) (blkOk_by (own := [("step", 3)]) (N := ["plot", "by", "pairs", "step"]) (sc := defScope s_from_plot) (by decide +kernel)) (fun _ _ _ _ _ => (pg_name (i := 3) sc_from_plot.nd rfl (.inl rfl))) (fun _ _ _ _ _ => (pts_one (pt_cmpR op_gt (pe_ix (ix_tupK (K := K) rfl) (pv 3) pe_int (fun _ _ => rfl)) (pv 1) (nomark _)))) (fun _ _ _ _ _ => (pv 3)))))
      (pss_one (ps_ret (pe_fn G_plot_of (hr.mono (by decide)) (by rfl) pass0 (pa_cons (pe_tup (pa_cons pe_bl (pa_cons (pe_tup pa_nil) pa_nil))) (pa_cons (pv 2) pa_nil)))))), ?_⟩
    walk_at "un"
    refine ⟨_, (g, ss), by_, rfl, ⟨a, u, b, vs, rfl, h1, h2, h3, h4⟩, fun u1 r1 hr1 ho => ⟨sz (by decide), fun p np => ⟨sz (by decide), fun p1 np1 => ?_⟩⟩⟩
    obtain ⟨H1, hE1, s1, e1⟩ := fr np (.tup [V.int by_, u1])
    rw [hE1] at np1 ⊢
    obtain ⟨H2, hE2, s2, e2⟩ := fr np1 (.lst [V.ref p])
    simp only [hE2]
    have S2 := s1.trans s2
    refine ⟨_, h1.tk (TK.same S2), _, rfl, _, rfl, ⟨_, h3.tk (TK.same S2)⟩, fun D nD => ?_⟩
    have sD := L2.Same.new (o := .lst []) nD
    refine lcw_tup h4 (fun d r acc H' => Same H2 H' ∧ H' D = some (.lst acc) ∧ ∃ out, Paired (IsStp K H') acc out ∧ out.Sublist d ∧ ∀ s ∈ out, by_ < s.1) ⟨sD, upd_same, [], .nil, List.nil_sublist _, fun _ h => nomatch h⟩ (fun d r acc H' z => h3.tk (TK.same (S2.trans z.1))) ?_ ?_
    · rintro d v y r acc H' e ⟨sa, su, rfl, k1, k2⟩ ⟨f1, f2, out, f3, f4, f5⟩
      have hn : ss.length ≤ m := gp.n
      have dl : ss.length = d.length + (r.length + 1) := by rw [show ss = d ++ y :: r from e]; simp
      have ol := f4.length_le
      have vl : acc.length = out.length := Paired.length f3
      have k1' := k1.tk (TK.same (S2.trans f1))
      walk_at "un"
      refine ⟨_, k1', _, rfl, _, rfl, ?_⟩
      by_cases hc : by_ < y.1
      · rw [if_pos hc]
        refine ⟨acc, f2, szl (by omega), L2.Same.put f1 nD, _, upd_same, out ++ [y], paired_snoc (pairS_tk f3 (TK.put f2 rfl)) ?_, f4.append (List.Sublist.refl [y]), ?_⟩
        · exact ⟨sa, su, rfl, k1'.tk (TK.put f2 rfl), k2.tk ((TK.same (S2.trans f1)).trans (TK.put f2 rfl))⟩
        · intro s hs
          rcases List.mem_append.mp hs with hs | hs
          · exact f5 s hs
          · rw [List.mem_singleton.mp hs]; exact hc
      · rw [if_neg hc]
        exact ⟨f1, acc, f2, out, f3, f4.trans (List.sublist_append_left _ _), f5⟩
    · rintro acc H' ⟨f1, f2, out, f3, f4, f5⟩
      have ol : out.length ≤ ss.length := f4.length_le
      have hn : ss.length ≤ m := gp.n
      have vl : acc.length = out.length := Paired.length f3
      refine cat (f1 _ _ e2) f2 (sz (by simp; omega)) fun c H3 nc s3 ec => ⟨Nat.zero_le _, fun z nz => ⟨sz (by decide), fun x nx => ?_⟩⟩
      have k := mk_rch (K := K) (es := []) (b := false) nz nx
      have S5 := (S2.trans f1).trans (s3.trans k.1)
      have hst : IsStp K (upd (upd H3 z (.tup (List.map V.int []))) x (.tup [.bl false, .ref z])) (.ref p) (by_, r1) := ⟨p, u1, rfl, SqT.of ((s2.trans (f1.trans (s3.trans k.1))) _ _ e1), hr1.tk (TK.same S5)⟩
      refine ⟨_, (false, []), c, _, (by_, r1) :: out, rfl, k.2, k.1 _ _ ec, .cons hst (pairS_tk f3 (TK.same (s3.trans k.1))), by simp; omega, fun w ts H6 s6 hw hts hch => ?_⟩
      have gr1 : GR m r1 := by
        rcases ho with rfl | ⟨s, hs, rfl⟩
        · exact gp.g
        · exact (gp.s s hs).1
      refine q _ _ _ (S5.trans s6) hw ⟨⟨.nil, (fun _ h => nomatch h), Nat.zero_le _⟩, fun s hs => ?_, ?_, hch, ?_⟩
      · rcases List.mem_cons.mp (hts.subset hs) with e | hs
        · rw [e]; exact ⟨gr1.mono (by omega), hb0, hbt⟩
        · have := gp.s s (f4.subset hs)
          exact ⟨this.1.mono (by omega), this.2⟩
      · exact (List.pairwise_cons.mpr ⟨f5, gp.w.sublist f4⟩).sublist hts
      · have := hts.length_le
        simp at this
        show ts.length ≤ m + 1
        omega
/-! lift -/
theorem sc_lift : FnScope ["plot", "word", "by"] ["plot", "word", "by"] (defScope s_lift) := ⟨rfl, rfl, rfl, by decide +kernel, rfl, by decide +kernel, by decide +kernel⟩
theorem F_lift (T : Top K mg) (G_from_plot : Fn P w K mg base CX0 2 "from_plot" ["plot", "by"] (sp_from_plot K)) : Fn P w K mg base CX0 3 "lift" ["plot", "word", "by"] (sp_lift K) := by
  obtain ⟨fd, F⟩ := T.D_lift
  refine mk_fn F T.g_lift (fun _ _ _ _ _ _ us hl => match us, hl with | [_, _, _], _ => rfl) (F.okN sc_lift (fun vs H Q E h => ?_) (fun cdv A outer s H vs Q E hr h => ?_))
  · obtain ⟨v, p, m, t, b, rfl, _⟩ := h
    rfl
  · obtain ⟨v, p, m, t, by_, rfl, hp, gp, hm, hb0, hbt, q⟩ := h
    refine ⟨_, (pss_cons (ps_if (pt_cmpR op_eq (pv 1) pe_str (nomark _)) (pss_one (ps_never)) pss_nil)
      (pss_cons (ps_if (pt_cmpR op_eq (pv 1) pe_str (nomark _)) (pss_one (ps_never)) pss_nil)
      (pss_cons (ps_if (pt_cmpR op_eq (pv 1) pe_str (nomark _)) (pss_one (ps_never)) pss_nil)
      (pss_cons (ps_if (pt_cmpR op_eq (pv 1) pe_str (nomark _)) (pss_one (ps_never)) pss_nil)
      (pss_cons (ps_if (pt_cmpR op_eq (pv 1) pe_str (nomark _)) (pss_one (ps_never)) pss_nil)
      (pss_cons (ps_if (pt_cmpR op_eq (pv 1) pe_str (nomark _)) (pss_one (ps_ret (pe_fn G_from_plot (hr.mono (by decide)) (by rfl) pass0 (pa_cons (pv 0) (pa_cons (pv 2) pa_nil))))) pss_nil)
      (pss_one (ps_never)))))))), ?_⟩
    walk_at "un"
    rw [if_neg (by decide +kernel), if_neg (by decide +kernel), if_neg (by decide +kernel), if_neg (by decide +kernel), if_neg (by decide +kernel)]
    exact ⟨v, p, m, t, by_, rfl, hp, gp, hm, hb0, hbt, q⟩
/-! table_of -/
theorem valV_free {κ : Type} [DecidableEq κ] {kvs : List (κ × V)} {k : κ} (h : k ∉ kvs.map (·.1)) : valV kvs k = none := by
  unfold valV
  rw [List.find?_eq_none.mpr (fun x hx => by
    have : x.1 ≠ k := fun e => h (List.mem_map.mpr ⟨x, hx, e⟩)
    simpa using this)]
  rfl
theorem putK_free {κ : Type} [DecidableEq κ] {kvs : List (κ × V)} {k : κ} {v : V} (h : valV kvs k = none) : putK kvs k v = kvs ++ [(k, v)] := by
  unfold putK
  rw [valV_any, h]
  rfl
theorem sc_table_of : FnScope ["pairs", "plots", "row", "plot"] ["pairs"] (defScope s_table_of) := ⟨rfl, rfl, rfl, by decide +kernel, rfl, by decide +kernel, by decide +kernel⟩
theorem F_table_of (T : Top K mg) : Fn P w K mg base CX0 1 "table_of" ["pairs"] (sp_table_of K) := by
  obtain ⟨fd, F⟩ := T.D_table_of
  refine mk_fn F T.g_table_of (fun _ _ _ _ _ _ us hl => match us, hl with | [_], _ => rfl) (F.okN sc_table_of (fun vs H Q E h => ?_) (fun cdv A outer s H vs Q E hr h => ?_))
  · obtain ⟨l, us, es, rfl, _⟩ := h
    rfl
  · obtain ⟨l, us, es, rfl, h1, h2, nd, hlen, hl, q⟩ := h
    refine ⟨_, (pss_cons (ps_set (i := 1) sc_table_of.nd rfl (.inr rfl) pe_dnewT)
      (pss_cons (ps_for PassesOwn.never rfl (pi_list (pv 0)) (pg_tup (n := 2) rfl (pgs_cons (pg_name (i := 2) sc_table_of.nd rfl (.inl rfl)) (pgs_cons (pg_name (i := 3) sc_table_of.nd rfl (.inl rfl)) pgs_nil))) (pss_cons (ps_if (pt_cmp (pc_din (hu_of hr) (pv 2) (pv 1))) (pss_one (ps_never)) pss_nil)
      (pss_one (ps_dput (hu_of hr) (pv 1) (pv 2) (pv 3) rfl))))
      (pss_one (ps_ret (pe_lc (own := [("row", 2)]) (g := gName 2) rfl sc_table_of.nd (pi_list (pe_callB (cr_sortTD rfl (un_of hr (by decide))) (by rfl) T.f_sorted (by decide +kernel) (pa_cons (pv 1) pa_nil))) (blkOk_by (own := [("row", 2)]) (N := ["pairs", "plots", "row", "plot"]) (sc := defScope s_table_of) (by decide +kernel)) (fun _ _ _ _ _ => (pg_name (i := 2) sc_table_of.nd rfl (.inl rfl))) (fun _ _ _ _ _ => (pts_one (pt_cmpR (op_neDK (K := K) rfl hr.units) (pe_dget (hu_of hr) (pv 1) (pv 2) (fun _ _ => rfl)) (pe_glob (v := .ref (He.ga K "NO_SPOTS")) (by rfl) T.g_NO_SPOTS rfl) (nomark _)))) (fun _ _ _ _ _ => (pe_tup (pa_cons (pv 2) (pa_cons (pe_dget (hu_of hr) (pv 1) (pv 2) (fun _ _ => rfl)) pa_nil))))))))), ?_⟩
    walk_at "un"
    intro p np
    obtain ⟨H1, hE1, s1, e1⟩ := fr np (.dT [])
    simp only [hE1]
    refine ⟨⟨_, SqL.of (s1 _ _ h1)⟩, ?_⟩
    refine lp_list h2 (fun d r σ H' => Same H H' ∧ ∃ kvs x y, H' p = some (.dT kvs) ∧ kvs.map (·.1) = (d.map (·.1)).map (fun r => r.map Sum.inl) ∧ (∀ e ∈ d, ∃ z, valV kvs (e.1.map Sum.inl) = some z ∧ IsPlt K H' z e.2) ∧ σ = [some (.ref l), some (.ref p), x, y])
      ⟨s1, _, _, _, e1, rfl, (fun _ h => nomatch h), rfl⟩ (fun d r σ H' z => SqL.of (z.1 _ _ h1)) ?_ ?_
    · rintro d v y r σ H' e ⟨ea, eu, ez, rfl, k1, ⟨eb, rfl, k2⟩, k3⟩ ⟨f1, kvs, x0, y0, f2, f3, f4, rfl⟩
      have kv : kvs.length = d.length := by have := congrArg List.length f3; simpa using this
      have dl : es.length = d.length + (r.length + 1) := by rw [e]; simp
      have hk : H' eb = some (.tup ((y.1.map Sum.inl).map kV)) := by rw [keys_kV]; exact f1 _ _ k2
      have hnot : valV kvs (y.1.map Sum.inl) = none := by
        refine valV_free ?_
        rw [f3]
        intro hm
        obtain ⟨r1, hr1, he1⟩ := List.mem_map.mp hm
        have he2 : r1 = y.1 := (List.map_inj_right (fun _ _ h => Sum.inl.inj h)).mp he1
        have n2 : (d.map (·.1) ++ y.1 :: r.map (·.1)).Nodup := by
          have := nd
          rw [e] at this
          simpa using this
        exact (List.nodup_append.mp n2).2.2 r1 hr1 y.1 List.mem_cons_self he2
      walk_at "un"
      refine ⟨_, k1.tk (TK.same f1), rfl, _, _, rfl, _, _, rfl, rfl, _, DGet.t f2 hk, ?_⟩
      rw [hnot]
      walk_at "un"
      refine ⟨_, DPut.t f2 hk (szl (by omega)), ?_⟩
      have hput : putK kvs (y.1.map Sum.inl) ez = kvs ++ [(y.1.map Sum.inl, ez)] := putK_free hnot
      refine ⟨L2.Same.put f1 np, _, upd_same, ?_, ?_, by walk_at "jk"⟩
      · rw [hput]
        simp [f3]
      · intro e2 he2
        rcases List.mem_append.mp he2 with he2 | he2
        · obtain ⟨z, hz, hp⟩ := f4 e2 he2
          refine ⟨z, ?_, hp.tk (TK.put f2 rfl)⟩
          rw [valV_put, if_neg (fun c => by rw [c, hnot] at hz; cases hz)]
          exact hz
        · rw [List.mem_singleton.mp he2]
          exact ⟨ez, by rw [valV_put, if_pos rfl], k3.tk ((TK.same f1).trans (TK.put f2 rfl))⟩
    · rintro σ H' ⟨f1, kvs, x0, y0, f2, f3, f4, rfl⟩
      walk_at "un"
      refine ⟨p, kvs, es.map (·.1), rfl, f2, f3, (fun r hr => by obtain ⟨e, he, rfl⟩ := List.mem_map.mp hr; exact hlen e he), by simp; omega, fun ys qs sp perm pr ns => ?_⟩
      obtain ⟨H2, hE2, s2, e2⟩ := fr ns (.lst ys)
      simp only [hE2]
      refine ⟨_, rfl, ⟨_, SqL.of e2⟩, fun D nD => ?_⟩
      have ndq : qs.Nodup := perm.nodup_iff.mpr nd
      have ql : qs.length = es.length := by rw [perm.length_eq]; simp
      refine lcw_list pr (fun d r acc H3 => Same H2 H3 ∧ H3 D = some (.lst acc) ∧ ∃ out, Paired (IsEnt K H3) acc out ∧ (∀ e ∈ out, e ∈ es) ∧ (out.map (·.1)).Sublist d) ⟨L2.Same.new nD, upd_same, [], .nil, (fun _ h => nomatch h), List.nil_sublist _⟩ (fun d r acc H3 z => SqL.of (z.1 _ _ e2)) ?_ ?_
      · rintro d v y r acc H3 e ⟨vb, rfl, k2⟩ ⟨g1, g2, out, g3, g4, g5⟩
        have hy : y ∈ es.map (·.1) := perm.mem_iff.mp (by rw [e]; simp)
        obtain ⟨ent, hent, rfl⟩ := List.mem_map.mp hy
        obtain ⟨z, hz, hzp⟩ := f4 ent hent
        have S3 := s2.trans g1
        have hk : H3 vb = some (.tup ((ent.1.map Sum.inl).map kV)) := by rw [keys_kV]; exact S3 _ _ k2
        have hg : DGet H3 p (.ref vb) (some z) := by rw [← hz]; exact DGet.t (S3 _ _ f2) hk
        have ol := g5.length_le
        have dl : qs.length = d.length + (r.length + 1) := by rw [e]; simp
        have vl : acc.length = out.length := Paired.length g3
        rw [List.length_map] at ol
        walk_at "un"
        refine ⟨_, hg, _, _, dp_plt (hzp.tk (TK.same S3)), dp_plt (no_spots T), shP _, shP _, _, rfl, ?_⟩
        split
        · refine ⟨_, hg, sz (by decide), fun c nc => ⟨acc, (L2.Same.new nc) _ _ g2, szl (by omega), L2.Same.put (g1.trans (L2.Same.new nc)) nD, _, upd_same, out ++ [ent], ?_, ?_, ?_⟩⟩
          · have sc := L2.Same.new (o := .tup [.ref vb, z]) nc
            have tk := (TK.same sc).trans (TK.put (o := .lst (acc ++ [.ref c])) (sc _ _ g2) rfl)
            exact paired_snoc (pairE_tk g3 tk) ⟨c, .ref vb, z, rfl, SqT.of (get_put upd_same (sc _ _ g2) (fun z => nomatch z)), ⟨vb, rfl, tk.1 _ _ (S3 _ _ k2)⟩, hzp.tk ((TK.same S3).trans tk)⟩
          · intro e2 he2
            rcases List.mem_append.mp he2 with he2 | he2
            · exact g4 _ he2
            · rw [List.mem_singleton.mp he2]; exact hent
          · rw [List.map_append]; exact g5.append (List.Sublist.refl _)
        · exact ⟨g1, acc, g2, out, g3, g4, g5.trans (List.sublist_append_left _ _)⟩
      · rintro acc H3 ⟨g1, g2, out, g3, g4, g5⟩
        have ol := g5.length_le
        rw [List.length_map] at ol
        exact q D acc out H3 ((f1.trans s2).none nD) ((f1.trans s2).trans g1) g2 g3 g4 (ndq.sublist g5) (by omega)
/-! lift_table -/
theorem sc_lift_table : FnScope ["table", "word", "by", "row", "plot"] ["table", "word", "by"] (defScope s_lift_table) := ⟨rfl, rfl, rfl, by decide +kernel, rfl, by decide +kernel, by decide +kernel⟩
theorem F_lift_table (T : Top K mg) (G_lift : Fn P w K mg base CX0 3 "lift" ["plot", "word", "by"] (sp_lift K)) (G_table_of : Fn P w K mg base CX0 1 "table_of" ["pairs"] (sp_table_of K)) : Fn P w K mg base CX0 4 "lift_table" ["table", "word", "by"] (sp_lift_table K) := by
  obtain ⟨fd, F⟩ := T.D_lift_table
  refine mk_fn F T.g_lift_table (fun _ _ _ _ _ _ us hl => match us, hl with | [_, _, _], _ => rfl) (F.okN sc_lift_table (fun vs H Q E h => ?_) (fun cdv A outer s H vs Q E hr h => ?_))
  · obtain ⟨l, us, es, m, t, b, wd, rfl, _⟩ := h
    rfl
  · obtain ⟨l, us, es, m, t, by_, wd, rfl, h1, h2, gt, hw, hm, hb0, hbt, q⟩ := h
    refine ⟨_, (pss_cons (ps_expr (pe_fn G_lift (hr.mono (by decide)) (by rfl) pass0 (pa_cons (pe_glob (v := .ref (He.ga K "NO_SPOTS")) (by rfl) T.g_NO_SPOTS rfl) (pa_cons (pv 1) (pa_cons (pv 2) pa_nil)))))
      (pss_one (ps_ret (pe_fn G_table_of (hr.mono (by decide)) (by rfl) pass0 (pa_cons (pe_lc (own := [("row", 3), ("plot", 4)]) (tt := tYes) rfl sc_lift_table.nd (pi_list (pv 0)) (blkOk_by (own := [("row", 3), ("plot", 4)]) (N := ["table", "word", "by", "row", "plot"]) (sc := defScope s_lift_table) (by decide +kernel)) (fun _ _ _ _ _ => (pg_tupK (K := K) rfl (n := 2) rfl (pgs_cons (pg_name (i := 3) sc_lift_table.nd rfl (.inl rfl)) (pgs_cons (pg_name (i := 4) sc_lift_table.nd rfl (.inl rfl)) pgs_nil)))) (fun _ _ _ _ _ => pts_nil) (fun _ _ _ _ _ => (pe_tup (pa_cons (pv 3) (pa_cons (pe_fn G_lift (hr.mono (by decide)) (by rfl) pass0 (pa_cons (pv 4) (pa_cons (pv 1) (pa_cons (pv 2) pa_nil)))) pa_nil))))) pa_nil))))), ?_⟩
    walk_at "un"
    refine ⟨_, ((false, []), []), 0, t, by_, rfl, no_spots T, GP.zero, Nat.zero_le _, hb0, hbt, fun _ _ H1 s1 _ _ => ?_⟩
    refine ⟨⟨_, SqL.of (s1 _ _ h1)⟩, fun D nD => ?_⟩
    refine lcw_list (pairE_tk h2 (TK.same s1)) (fun d r acc H3 => Same H1 H3 ∧ H3 D = some (.lst acc) ∧ ∃ out, Paired (IsEnt K H3) acc out ∧ out.map (·.1) = d.map (·.1) ∧ ∀ e ∈ out, GE (m + 1) t wd e) ⟨L2.Same.new nD, upd_same, [], .nil, rfl, fun _ h => nomatch h⟩ (fun d r acc H3 z => SqL.of (z.1 _ _ (s1 _ _ h1))) ?_ ?_
    · rintro d v y r acc H3 e ⟨ea, eu, ez, rfl, k1, k2, k3⟩ ⟨g1, g2, out, g3, g4, g5⟩
      have ol : out.length = d.length := by have := congrArg List.length g4; simpa using this
      have dl : es.length = d.length + (r.length + 1) := by rw [e]; simp
      have vl : acc.length = out.length := Paired.length g3
      have el := gt.len
      have ge := gt.each y (by rw [e]; simp)
      walk_at "un"
      refine ⟨_, k1.tk (TK.same g1), rfl, _, _, rfl, _, _, rfl, rfl, ?_⟩
      refine ⟨_, y.2, m, t, by_, rfl, k3.tk (TK.same g1), ge.plt, hm, hb0, hbt, fun z q2 H4 s4 hz hq => ⟨sz (by decide), fun c nc => ⟨acc, (L2.Same.new nc) _ _ (s4 _ _ g2), szl (by omega), L2.Same.put ((g1.trans s4).trans (L2.Same.new nc)) nD, _, upd_same, out ++ [(y.1, q2)], ?_, ?_, ?_⟩⟩⟩
      · have sc := L2.Same.new (o := .tup [eu, z]) nc
        have tk := (TK.same sc).trans (TK.put (o := .lst (acc ++ [.ref c])) (sc _ _ (s4 _ _ g2)) rfl)
        exact paired_snoc (pairE_tk g3 ((TK.same s4).trans tk)) ⟨c, eu, z, rfl, SqT.of (get_put upd_same (sc _ _ (s4 _ _ g2)) (fun z => nomatch z)), k2.tk ((TK.same (g1.trans s4)).trans tk), hz.tk tk⟩
      · simp [g4]
      · intro e2 he2
        rcases List.mem_append.mp he2 with he2 | he2
        · exact g5 _ he2
        · rw [List.mem_singleton.mp he2]; exact ⟨ge.len, ge.nums, hq⟩
    · rintro acc H3 ⟨g1, g2, out, g3, g4, g5⟩
      have el := gt.len
      have ol : out.length = es.length := by have := congrArg List.length g4; simpa using this
      refine ⟨D, acc, out, rfl, g2, g3, by rw [g4]; exact gt.nd, (fun e he => by rw [(g5 e he).len]; exact hw), by omega, fun a ws qs H4 na s4 ea pr hsub ndq hl => ?_⟩
      have S := s1.trans (g1.trans s4)
      exact q a ws qs H4 ((s1.trans g1).none na) S ea pr ⟨fun e he => g5 e (hsub e he), ndq, by omega⟩
end
end HW
set_option Elab.async false
set_option linter.all false
set_option maxRecDepth 100000
set_option maxHeartbeats 4000000
namespace HW
open PySem PySem.Spec PyProof.Rows L2
local macro_rules | `(tactic| walk_at "un") => `(tactic| simp only [cxOf, tSeq, tNext, tIfS, tTest, tOp, tUn, tVar, tC, tRet, tRetN, tNever, tAsg, gName, gNil, gCons, gTup, eq_self, rListOf, Option.isSome_none, Option.isSome_some, gSub, tDrop, tCB, tCall, tCons, tNil, tTup, tLst, tB, tAnd, tOr, tNot, tAndV, tOrV, tNotV, tNoPart, tPart, tSl, tSl3, tBM, tM1, tDNewK, tDNewT, tDGet, tDIn, tDNotIn, sDPut, tYes, tFld, sFld, tMeth, tMake,
  for_L, for_T, for_R, for_S, lc_L, lc_T, lc_R, wipe, rI0, rU, rEq, rNe, rIxT, rIxL, rIxS, L2.start, List.map_cons, List.map_nil, List.length_cons, List.length_nil, Nat.reduceAdd, Nat.reduceSub, List.replicate_succ, List.replicate_zero, List.cons_append, List.nil_append, List.append_nil,
  List.getElem?_cons_zero, List.getElem?_cons_succ, List.set_cons_zero, List.set_cons_succ, Option.some.injEq, V.int.injEq, V.bl.injEq, V.str.injEq, V.ref.injEq, V.ty.injEq, List.cons.injEq, and_true, true_and, exists_eq_left, exists_eq_left', exists_and_left, exists_eq, scal, decide_eq_true_eq, reduceCtorEq, decide_false, decide_true, Bool.not_true, Bool.not_false, if_true, if_false, Bool.false_eq_true, ite_true, ite_false, Bool.not_eq_true', decide_eq_false_iff_not])
local macro_rules | `(tactic| walk_at "tk") => `(tactic| first | exact TK.refl _ | assumption | exact TK.same (by assumption) | (refine TK.trans ?_ (TK.new (by assumption)); walk_at "tk") | (refine TK.trans ?_ (TK.put (by assumption) rfl); walk_at "tk") | (refine TK.trans ?_ (TK.same (by assumption)); walk_at "tk"))
local macro_rules | `(tactic| walk_at "fz") => `(tactic| first | assumption | exact L2.SqT.tk (by assumption) (by walk_at "tk") | exact IsRch.tk (by assumption) (by walk_at "tk") | exact IsPlt.tk (by assumption) (by walk_at "tk") | exact IsStp.tk (by assumption) (by walk_at "tk") | exact IsRow.tk (by assumption) (by walk_at "tk") | exact IsEnt.tk (by assumption) (by walk_at "tk") | exact pairS_tk (by assumption) (by walk_at "tk") | exact pairE_tk (by assumption) (by walk_at "tk"))
local macro_rules | `(tactic| walk_at "sm") => `(tactic| first | exact L2.Same.refl _ | assumption | (refine L2.Same.trans ?_ (L2.Same.new (by assumption)); walk_at "sm") | (refine L2.Same.put ?_ (by assumption); walk_at "sm") | (refine L2.Same.trans ?_ (by assumption); walk_at "sm"))
local macro_rules | `(tactic| walk_at "jk") => `(tactic| first | exact ⟨_, rfl⟩ | exact ⟨_, _, rfl, rfl⟩ | exact ⟨⟨_, rfl⟩, _, rfl⟩ | exact ⟨_, rfl, _, rfl⟩ | simp)

section
variable {P : Program} {w : World} {K : PySem.W.Frag} {mg : Str → Option Value} {base : Heap}

/-! with_row -/
theorem sc_with_row : FnScope ["pairs", "row", "days", "turn", "made", "plot", "one", "other", "reach", "steps", "step"] ["pairs", "row", "days", "turn"] (defScope s_with_row) := ⟨rfl, rfl, rfl, by decide +kernel, rfl, by decide +kernel, by decide +kernel⟩
theorem F_with_row (T : Top K mg) (G_blend : Fn P w K mg base CX0 2 "blend" ["one", "other", "word"] (sp_blend K)) (G_reach_at : Fn P w K mg base CX0 1 "reach_at" ["plot", "turn"] (sp_reach_at K)) (G_plot_of : Fn P w K mg base CX0 1 "plot_of" ["ground", "pairs"] (sp_plot_of K)) : Fn P w K mg base CX0 3 "with_row" ["pairs", "row", "days", "turn"] (sp_with_row K) := by
  obtain ⟨fd, F⟩ := T.D_with_row
  refine mk_fn F T.g_with_row (fun _ _ _ _ _ _ us hl => match us, hl with | [_, _, _, _], _ => rfl) (F.okN sc_with_row (fun vs H Q E h => ?_) (fun cdv A outer s H vs Q E hr h => ?_))
  · obtain ⟨l, us, es, m, t, wd, v, r, d, dr, rfl, _⟩ := h
    rfl
  · obtain ⟨l, us, es, m, t, wd, v, row, dv, dr, rfl, h1, h2, hrow, hd, gd, gt, rl, rn, hm, ht, q⟩ := h
    refine ⟨_, (pss_cons (ps_set (i := 4) sc_with_row.nd rfl (.inl rfl) (pe_lst pa_nil))
      (pss_cons (ps_set (i := 5) sc_with_row.nd rfl (.inl rfl) (pe_tup (pa_cons (pe_tup (pa_cons pe_bl (pa_cons (pe_tup pa_nil) pa_nil))) (pa_cons (pe_tup pa_nil) pa_nil))))
      (pss_cons (ps_for PassesOwn.never rfl (pi_list (pv 0)) (pg_tup (n := 2) rfl (pgs_cons (pg_name (i := 6) sc_with_row.nd rfl (.inl rfl)) (pgs_cons (pg_name (i := 7) sc_with_row.nd rfl (.inl rfl)) pgs_nil))) (pss_one (ps_if (pt_cmpR (op_eqD hr.units) (pv 6) (pv 1) (nomark _)) (pss_one (ps_set (i := 5) sc_with_row.nd rfl (.inl rfl) (pv 7))) (pss_one (ps_expr (pe_bm PySem.F.plainAttrs_list PySem.F.slot_list_append PySem.F.type_list_append mt_append (pv 4) (pa_cons (pe_tup (pa_cons (pv 6) (pa_cons (pv 7) pa_nil))) pa_nil)))))))
      (pss_cons (ps_set (i := 8) sc_with_row.nd rfl (.inl rfl) (pe_fn G_blend (hr.mono (by decide)) (by rfl) pass0 (pa_cons (pe_fn G_reach_at (hr.mono (by decide)) (by rfl) pass0 (pa_cons (pv 5) (pa_cons (pv 3) pa_nil))) (pa_cons (pv 2) (pa_cons pe_str pa_nil)))))
      (pss_cons (ps_setLc (i := 9) (own := [("step", 10)]) (g := gName 10) rfl sc_with_row.nd rfl rfl (sw_true rfl rfl rfl (by decide +kernel)) (pi_tup (pe_ix ix_tup (pv 5) pe_int (fun _ _ => rfl))) (blkOk_by (own := [("step", 10)]) (N := ["pairs", "row", "days", "turn", "made", "plot", "one", "other", "reach", "steps", "step"]) (sc := defScope s_with_row) (by decide +kernel)) (fun _ _ _ _ _ => (pg_name (i := 10) sc_with_row.nd rfl (.inl rfl))) (fun _ _ _ _ _ => (pts_one (pt_cmpR op_lt (pe_ix (ix_tupK (K := K) rfl) (pv 10) pe_int (fun _ _ => rfl)) (pv 3) (nomark _)))) (fun _ _ _ _ _ => (pv 10)))
      (pss_cons (ps_expr (pe_bm PySem.F.plainAttrs_list PySem.F.slot_list_append PySem.F.type_list_append mt_append (pv 4) (pa_cons (pe_tup (pa_cons (pv 1) (pa_cons (pe_fn G_plot_of (hr.mono (by decide)) (by rfl) pass0 (pa_cons (pe_ix ix_tup (pv 5) pe_int (fun _ _ => rfl)) (pa_cons (pe_op op_cat (pv 9) (pe_lst (pa_cons (pe_tup (pa_cons (pv 3) (pa_cons (pv 8) pa_nil))) pa_nil))) pa_nil))) pa_nil))) pa_nil)))
      (pss_one (ps_ret (pv 4))))))))), ?_⟩
    walk_at "un"
    refine ⟨Nat.zero_le _, fun p np => ⟨Nat.zero_le _, fun p1 np1 => ⟨sz (by decide), fun p2 np2 => ⟨Nat.zero_le _, fun p3 np3 => ⟨sz (by decide), fun p4 np4 => ?_⟩⟩⟩⟩⟩
    obtain ⟨H1, hE1, s1, e1⟩ := fr np (.lst [])
    simp only [hE1] at np1 np2 np3 np4 ⊢
    obtain ⟨H2, hE2, s2, e2⟩ := fr np1 (.tup [])
    simp only [hE2] at np2 np3 np4 ⊢
    obtain ⟨H3, hE3, s3, e3⟩ := fr np2 (.tup [V.bl false, V.ref p1])
    simp only [hE3] at np3 np4 ⊢
    obtain ⟨H4, hE4, s4, e4⟩ := fr np3 (.tup [])
    simp only [hE4] at np4 ⊢
    obtain ⟨H5, hE5, s5, e5⟩ := fr np4 (.tup [V.ref p2, V.ref p3])
    simp only [hE5]
    have s25 : Same H2 H5 := s3.trans (s4.trans s5)
    have S5 : Same H H5 := s1.trans (s2.trans s25)
    have pl5 : IsPlt K H5 (.ref p4) ((false, []), []) := ⟨p4, .ref p2, p3, [], rfl, SqT.of e5, ⟨p2, p1, rfl, SqT.of ((s4.trans s5) _ _ e3), SqT.of (s25 _ _ e2)⟩, SqT.of (s5 _ _ e4), .nil⟩
    refine ⟨⟨_, SqL.of (S5 _ _ h1)⟩, ?_⟩
    obtain ⟨I, hI⟩ : ∃ I : List Ent → List Ent → L2.St → Hp → Prop, I = fun d r σ H' => Same H H' ∧ ∃ outv out pv pl, H' p = some (.lst outv) ∧ Paired (IsEnt K H') outv out ∧ (∀ e ∈ out, e ∈ es) ∧ (out.map (·.1)).Sublist (d.map (·.1)) ∧ (∀ e ∈ out, e.1 ≠ row) ∧ IsPlt K H' pv pl ∧ GP m t pl ∧ ∃ x y, σ = [some (.ref l), some v, some dv, some (.int t), some (.ref p), some pv, x, y, none, none, none] := ⟨_, rfl⟩
    refine lp_list h2 I
      (by rw [hI]; exact ⟨S5, [], [], _, _, (s2.trans s25) _ _ e1, .nil, (fun _ h => nomatch h), List.nil_sublist _, (fun _ h => nomatch h), pl5, GP.zero, _, _, rfl⟩) (fun d r σ H' z => by rw [hI] at z; exact SqL.of (z.1 _ _ h1)) ?_ ?_
    · rintro d vv y r σ H' e ⟨ea, eu, ez, rfl, k1, k2, k3⟩ z
      rw [hI] at z
      obtain ⟨f1, outv, out, pv, pl, f2, f3, f4, f5, f6, f7, f8, x0, y0, rfl⟩ := z
      have hy : y ∈ es := by rw [e]; simp
      have ol := f5.length_le
      rw [List.length_map, List.length_map] at ol
      have dl : es.length = d.length + (r.length + 1) := by rw [e]; simp
      have vl : outv.length = out.length := Paired.length f3
      have el := gt.len
      walk_at "un"
      refine ⟨_, k1.tk (TK.same f1), rfl, _, _, rfl, _, _, rfl, rfl, eqqW (k2.tk (TK.same f1)) (hrow.tk (TK.same f1)) ⟨_, rfl, ?_⟩⟩
      by_cases hc : y.1 = row
      · rw [if_pos (by simp [hc])]
        rw [hI]
        exact ⟨f1, outv, out, ez, y.2, f2, f3, f4, f5.trans (by rw [List.map_append]; exact List.sublist_append_left _ _), f6, k3.tk (TK.same f1), (gt.each y hy).plt, _, _, rfl⟩
      · rw [if_neg (by simp [hc])]
        refine ⟨tyL f2, sz (by decide), fun c nc => ?_⟩
        have sc := L2.Same.new (o := .tup [eu, ez]) nc
        have tk := (TK.same sc).trans (TK.put (o := .lst (outv ++ [.ref c])) (sc _ _ f2) rfl)
        refine app1 (sc _ _ f2) (szl (by omega)) ?_
        rw [hI]
        refine ⟨L2.Same.put (f1.trans sc) np, _, out ++ [y], pv, pl, upd_same, paired_snoc (pairE_tk f3 tk) ⟨c, eu, ez, rfl, SqT.of (get_put upd_same (sc _ _ f2) (fun z => nomatch z)), k2.tk ((TK.same f1).trans tk), k3.tk ((TK.same f1).trans tk)⟩, ?_, ?_, ?_, f7.tk tk, f8, _, _, rfl⟩
        · intro e2 he2
          rcases List.mem_append.mp he2 with he2 | he2
          · exact f4 _ he2
          · rw [List.mem_singleton.mp he2]; exact hy
        · rw [List.map_append, List.map_append]; exact f5.append (List.Sublist.refl _)
        · intro e2 he2
          rcases List.mem_append.mp he2 with he2 | he2
          · exact f6 _ he2
          · rw [List.mem_singleton.mp he2]; exact hc
    · intro σ H' z
      rw [hI] at z
      obtain ⟨f1, outv, out, pv, pl, f2, f3, f4, f5, f6, ⟨pa, pu, pb, pvs, rfl, i1, i2, i3, i4⟩, f8, x0, y0, rfl⟩ := z
      have ol := f5.length_le
      rw [List.length_map, List.length_map] at ol
      have vl : outv.length = out.length := Paired.length f3
      have el := gt.len
      walk_at "un"
      refine ⟨_, pl, t, rfl, ⟨pa, pu, pb, pvs, rfl, i1, i2, i3, i4⟩, fun u0 r0 hr0 ho => ?_⟩
      have gr0 : GR m r0 := by
        rcases ho with rfl | ⟨s, hs, rfl⟩
        · exact f8.g
        · exact (f8.s s hs).1
      refine ⟨u0, r0, dv, dr, m, false, rfl, hr0, hd.tk (TK.same f1), gr0, gd, by omega, fun ru rr H6 s6 hrr gr => ?_⟩
      refine ⟨_, i1.tk (TK.same s6), _, rfl, _, rfl, ⟨_, i3.tk (TK.same s6)⟩, fun D nD => ?_⟩
      refine lcw_tup i4 (fun d r acc H7 => Same H6 H7 ∧ H7 D = some (.lst acc) ∧ ∃ outs, Paired (IsStp K H7) acc outs ∧ outs.Sublist d ∧ ∀ s ∈ outs, s.1 < t) ⟨L2.Same.new nD, upd_same, [], .nil, List.nil_sublist _, fun _ h => nomatch h⟩ (fun d r acc H7 z => i3.tk (TK.same (s6.trans z.1))) ?_ ?_
      · rintro d vv y r acc H7 e ⟨sa, su, rfl, j1, j2⟩ ⟨g1, g2, outs, g3, g4, g5⟩
        have sl := g4.length_le
        have pn := f8.n
        have dl : pl.2.length = d.length + (r.length + 1) := by rw [e]; simp
        have al : acc.length = outs.length := Paired.length g3
        have j1' := j1.tk (TK.same (s6.trans g1))
        walk_at "un"
        refine ⟨_, j1', _, rfl, _, rfl, ?_⟩
        by_cases hc : y.1 < t
        · rw [if_pos hc]
          refine ⟨acc, g2, szl (by omega), L2.Same.put g1 nD, _, upd_same, outs ++ [y], paired_snoc (pairS_tk g3 (TK.put g2 rfl)) ⟨sa, su, rfl, j1'.tk (TK.put g2 rfl), j2.tk ((TK.same (s6.trans g1)).trans (TK.put g2 rfl))⟩, g4.append (List.Sublist.refl [y]), ?_⟩
          intro s hs
          rcases List.mem_append.mp hs with hs | hs
          · exact g5 s hs
          · rw [List.mem_singleton.mp hs]; exact hc
        · rw [if_neg hc]
          exact ⟨g1, acc, g2, outs, g3, g4.trans (List.sublist_append_left _ _), g5⟩
      · rintro acc H7 ⟨g1, g2, outs, g3, g4, g5⟩
        have sl := g4.length_le
        have pn := f8.n
        have al : acc.length = outs.length := Paired.length g3
        have s67 := s6.trans g1
        refine ⟨tyL (s67 _ _ f2), _, i1.tk (TK.same s67), _, rfl, sz (by decide), fun c nc => ⟨sz (by decide), fun c2 nc2 => ?_⟩⟩
        obtain ⟨H8, hE8, s8, e8⟩ := fr nc (.tup [V.int t, ru])
        simp only [hE8] at nc2 ⊢
        obtain ⟨H9, hE9, s9, e9⟩ := fr nc2 (.lst [V.ref c])
        simp only [hE9]
        have s79 := s8.trans s9
        refine cat (s79 _ _ g2) e9 (sz (by simp; omega)) fun c3 HA nc3 sA eA => ?_
        have s7A := s79.trans sA
        have s6A := s67.trans s7A
        refine ⟨pu, pl.1, c3, _, outs ++ [(t, rr)], rfl, i2.tk (TK.same s6A), eA, paired_snoc (pairS_tk g3 (TK.same s7A)) ⟨c, ru, rfl, SqT.of ((s9.trans sA) _ _ e8), hrr.tk (TK.same (g1.trans s7A))⟩, by simp; omega, fun zv ts HB sB hz hts hch => ?_⟩
        have S6B := s6A.trans sB
        refine ⟨sz (by decide), fun c4 nc4 => ?_⟩
        have sC := L2.Same.new (o := .tup [v, zv]) nc4
        have fin := (S6B.trans sC) _ _ f2
        have tk := (TK.same (S6B.trans sC)).trans (TK.put (o := .lst (outv ++ [.ref c4])) fin rfl)
        refine app1 fin (szl (by omega)) ?_
        refine q p _ (out ++ [(row, (pl.1, ts))]) _ np (L2.Same.put (f1.trans (S6B.trans sC)) np) upd_same (paired_snoc (pairE_tk f3 tk) ⟨c4, v, zv, rfl, SqT.of (get_put upd_same fin (fun z => nomatch z)), hrow.tk ((TK.same f1).trans tk), hz.tk ((TK.same sC).trans (TK.put fin rfl))⟩) ⟨?_, ?_, ?_⟩
        · intro e2 he2
          rcases List.mem_append.mp he2 with he2 | he2
          · exact (gt.each _ (f4 _ he2)).mono (by omega) (Int.le_refl _)
          · rw [List.mem_singleton.mp he2]
            refine ⟨rl, rn, f8.g.mono (by omega), fun s hs => ?_, ?_, hch, ?_⟩
            · rcases List.mem_append.mp (hts.subset hs) with hs | hs
              · have := f8.s s (g4.subset hs)
                exact ⟨this.1.mono (by omega), this.2⟩
              · rw [List.mem_singleton.mp hs]
                exact ⟨gr, ht, Int.le_refl _⟩
            · refine List.Pairwise.sublist hts (List.pairwise_append.mpr ⟨f8.w.sublist g4, List.pairwise_singleton _ _, fun a ha b hb => ?_⟩)
              rw [List.mem_singleton.mp hb]
              exact g5 a ha
            · have := hts.length_le
              simp at this
              show ts.length ≤ m + 1
              omega
        · rw [List.map_append]
          refine List.nodup_append.mpr ⟨gt.nd.sublist f5, by simp, fun a ha b hb => ?_⟩
          obtain ⟨e2, he2, rfl⟩ := List.mem_map.mp ha
          rw [show b = row by simpa using hb]
          exact f6 e2 he2
        · simp
          omega
/-! told_on -/
theorem sc_told_on : FnScope ["table", "keys", "telling", "turn", "kind", "name", "row", "low", "high", "days", "pairs", "one", "plot", "reach"] ["table", "keys", "telling", "turn"] (defScope s_told_on) := ⟨rfl, rfl, rfl, by decide +kernel, rfl, by decide +kernel, by decide +kernel⟩
theorem F_told_on (T : Top K mg) (G_stretch_of : Fn P w K mg base CX0 1 "stretch_of" ["low", "high"] (sp_stretch_of K)) (G_blend : Fn P w K mg base CX0 2 "blend" ["one", "other", "word"] (sp_blend K)) (G_reach_at : Fn P w K mg base CX0 1 "reach_at" ["plot", "turn"] (sp_reach_at K)) (G_plot_of : Fn P w K mg base CX0 1 "plot_of" ["ground", "pairs"] (sp_plot_of K)) (G_with_row : Fn P w K mg base CX0 3 "with_row" ["pairs", "row", "days", "turn"] (sp_with_row K)) (G_table_of : Fn P w K mg base CX0 1 "table_of" ["pairs"] (sp_table_of K)) : Fn P w K mg base CX0 4 "told_on" ["table", "keys", "telling", "turn"] (sp_told_on K) := by
  obtain ⟨fd, F⟩ := T.D_told_on
  refine mk_fn F T.g_told_on (fun _ _ _ _ _ _ us hl => match us, hl with | [_, _, _, _], _ => rfl) (F.okN sc_told_on (fun vs H Q E h => ?_) (fun cdv A outer s H vs Q E hr h => ?_))
  · obtain ⟨l, us, es, m, t, wd, k, v, x, rfl, _⟩ := h
    rfl
  · obtain ⟨l, us, es, m, t, wd, k, v, x, rfl, h1, h2, ⟨ta, tu, rfl, k1, k2⟩, gl, gt, hm, ht, q⟩ := h
    refine ⟨_, (pss_cons (ps_asg (pv 2) (pg_tup (n := 5) rfl (pgs_cons (pg_name (i := 4) sc_told_on.nd rfl (.inl rfl)) (pgs_cons (pg_name (i := 5) sc_told_on.nd rfl (.inl rfl)) (pgs_cons (pg_name (i := 6) sc_told_on.nd rfl (.inl rfl)) (pgs_cons (pg_name (i := 7) sc_told_on.nd rfl (.inl rfl)) (pgs_cons (pg_name (i := 8) sc_told_on.nd rfl (.inl rfl)) pgs_nil)))))))
      (pss_cons (ps_set (i := 9) sc_told_on.nd rfl (.inl rfl) (pe_fn G_stretch_of (hr.mono (by decide)) (by rfl) pass0 (pa_cons (pv 7) (pa_cons (pv 8) pa_nil))))
      (pss_cons (ps_set (i := 10) sc_told_on.nd rfl (.inl rfl) (pe_lst pa_nil))
      (pss_cons (ps_for PassesOwn.never rfl (pi_list (pv 0)) (pg_tup (n := 2) rfl (pgs_cons (pg_name (i := 11) sc_told_on.nd rfl (.inl rfl)) (pgs_cons (pg_name (i := 12) sc_told_on.nd rfl (.inl rfl)) pgs_nil))) (pss_cons (ps_if (pt_cmpR (op_eqD hr.units) (pe_slice sl_tupA (pv 11) po_none (po_some (pv 1))) (pe_slice sl_tupA (pv 6) po_none (po_some (pv 1))) (nomark _)) (pss_cons (ps_set (i := 13) sc_told_on.nd rfl (.inl rfl) (pe_fn G_blend (hr.mono (by decide)) (by rfl) pass0 (pa_cons (pe_fn G_reach_at (hr.mono (by decide)) (by rfl) pass0 (pa_cons (pv 12) (pa_cons (pv 3) pa_nil))) (pa_cons (pv 9) (pa_cons pe_str pa_nil)))))
      (pss_one (ps_set (i := 12) sc_told_on.nd rfl (.inl rfl) (pe_fn G_plot_of (hr.mono (by decide)) (by rfl) pass0 (pa_cons (pe_ix ix_tup (pv 12) pe_int (fun _ _ => rfl)) (pa_cons (pe_op op_cat (pe_callTy (call_list_ofK (K := K) rfl) (by rfl) T.f_list (by decide +kernel) (pa_cons (pe_ix ix_tup (pv 12) pe_int (fun _ _ => rfl)) pa_nil)) (pe_lst (pa_cons (pe_tup (pa_cons (pv 3) (pa_cons (pv 13) pa_nil))) pa_nil))) pa_nil)))))) pss_nil)
      (pss_one (ps_expr (pe_bm PySem.F.plainAttrs_list PySem.F.slot_list_append PySem.F.type_list_append mt_append (pv 10) (pa_cons (pe_tup (pa_cons (pv 11) (pa_cons (pv 12) pa_nil))) pa_nil))))))
      (pss_cons (ps_if (pt_cmpR op_eq (pv 4) pe_str (nomark _)) (pss_one (ps_set (i := 10) sc_told_on.nd rfl (.inl rfl) (pe_fn G_with_row (hr.mono (by decide)) (by rfl) pass0 (pa_cons (pv 10) (pa_cons (pv 6) (pa_cons (pv 9) (pa_cons (pv 3) pa_nil))))))) pss_nil)
      (pss_one (ps_ret (pe_fn G_table_of (hr.mono (by decide)) (by rfl) pass0 (pa_cons (pv 10) pa_nil))))))))), ?_⟩
    walk_at "un"
    refine ⟨_, k1, rfl, _, _, rfl, _, _, rfl, _, _, rfl, _, _, rfl, _, _, rfl, rfl, ?_⟩
    refine ⟨x.lo, x.hi, rfl, gl.lo, gl.hi, fun dv dr H1 s1 hd gd => ⟨Nat.zero_le _, fun p np => ?_⟩⟩
    obtain ⟨H2, hE2, s2, e2⟩ := fr np (.lst [])
    simp only [hE2]
    have S2 := s1.trans s2
    have npH := s1.none np
    refine ⟨⟨_, SqL.of (S2 _ _ h1)⟩, ?_⟩
    obtain ⟨I, hI⟩ : ∃ I : List Ent → List Ent → L2.St → Hp → Prop, I = fun d r σ H' => Same H1 H' ∧ ∃ outv out, H' p = some (.lst outv) ∧ Paired (IsEnt K H') outv out ∧ out.map (·.1) = d.map (·.1) ∧ (∀ e ∈ out, GE (m + 1) (t + 1) wd e) ∧ ∃ a b c, σ = [some (V.ref l), some (V.int (k : Int)), some (V.ref ta), some (V.int (t + 1)), some (V.str (kindS x.tell)), some (V.str x.name), some tu, some (optV x.lo), some (optV x.hi), some dv, some (V.ref p), a, b, c] := ⟨_, rfl⟩
    refine lp_list h2 I
      (by rw [hI]; exact ⟨s2, [], [], e2, .nil, rfl, (fun _ h => nomatch h), _, _, _, rfl⟩) (fun d r σ H' z => by rw [hI] at z; exact SqL.of ((s1.trans z.1) _ _ h1)) ?_ ?_
    · rintro d vv y r σ H' e ⟨ea, eu, ez, rfl, c1, ⟨eb, rfl, c2⟩, c3⟩ z
      rw [hI] at z
      obtain ⟨g1, outv, out, g2, g3, g4, g5, x0, y0, z0, rfl⟩ := z
      have ge := gt.each y (by rw [e]; simp)
      have ol : out.length = d.length := by have := congrArg List.length g4; simpa using this
      have dl : es.length = d.length + (r.length + 1) := by rw [e]; simp
      have vl : outv.length = out.length := Paired.length g3
      have el := gt.len
      have S1 := s1.trans g1
      obtain ⟨tb, rfl, k3⟩ := k2
      have addE : ∀ (zv : V) (pl : Plt) (H3 : Hp) (Qx : VK), Same H' H3 → IsPlt K H3 zv pl → GP (m + 1) (t + 1) pl →
          (∀ H4 outv2 out2, Same H1 H4 → H4 p = some (.lst outv2) → Paired (IsEnt K H4) outv2 out2 → out2.map (·.1) = (d ++ [y]).map (·.1) → (∀ e ∈ out2, GE (m + 1) (t + 1) wd e) → Qx .non H4) →
          2 ≤ sizeLine ∧ ∀ c, H3 c = none → rAppend (.ref p) [.ref c] (upd H3 c (.tup [.ref eb, zv])) Qx := by
        intro zv pl H3 Qx s3 hz hg hq
        refine ⟨sz (by decide), fun c nc => ?_⟩
        have sc := L2.Same.new (o := .tup [.ref eb, zv]) nc
        have tk := (TK.same sc).trans (TK.put (o := .lst (outv ++ [.ref c])) ((s3.trans sc) _ _ g2) rfl)
        refine app1 ((s3.trans sc) _ _ g2) (szl (by omega)) (hq _ _ (out ++ [(y.1, pl)]) (L2.Same.put (g1.trans (s3.trans sc)) np) upd_same (paired_snoc (pairE_tk g3 ((TK.same s3).trans tk)) ⟨c, .ref eb, zv, rfl, SqT.of (get_put upd_same ((s3.trans sc) _ _ g2) (fun z => nomatch z)), ⟨eb, rfl, tk.1 _ _ ((S1.trans s3) _ _ c2)⟩, hz.tk tk⟩) ?_ ?_)
        · simp [g4]
        · intro e2 he2
          rcases List.mem_append.mp he2 with he2 | he2
          · exact g5 _ he2
          · rw [List.mem_singleton.mp he2]; exact ⟨ge.len, ge.nums, hg⟩
      walk_at "un"
      refine ⟨_, c1.tk (TK.same S1), rfl, _, _, rfl, _, _, rfl, rfl, slA (SqT.of (S1 _ _ c2)) fun sl1 H3 s3 hs1 => slA (SqT.of ((S1.trans s3) _ _ k3)) fun sl2 H4 s4 hs2 => ?_⟩
      refine eqCut (hs1.tk (TK.same s4)) hs2 fun bb => ⟨_, rfl, ?_⟩
      have S4 := s3.trans s4
      have c3' := c3.tk (TK.same (S1.trans S4))
      cases bb with
      | false =>
        rw [if_neg (by decide)]
        exact ⟨tyL (S4 _ _ g2), addE _ y.2 _ _ S4 c3' (ge.plt.mono (by omega) (by omega)) fun H5 ov2 o2 q1 q2 q3 q4 q5 => by rw [hI]; exact ⟨q1, ov2, o2, q2, q3, q4, q5, _, _, _, rfl⟩⟩
      | true =>
        rw [if_pos rfl]
        obtain ⟨pa, pu, pb, pvs, rfl, i1, i2, i3, i4⟩ := c3'
        refine ⟨_, y.2, t + 1, rfl, ⟨pa, pu, pb, pvs, rfl, i1, i2, i3, i4⟩, fun u0 r0 hr0 ho => ?_⟩
        have gr0 : GR m r0 := by
          rcases ho with rfl | ⟨s, hs, rfl⟩
          · exact ge.plt.g
          · exact (ge.plt.s s hs).1
        refine ⟨u0, r0, dv, dr, m, true, rfl, hr0, hd.tk (TK.same (g1.trans S4)), gr0, gd, by omega, fun ru rr H6 s6 hrr gr => ?_⟩
        refine ⟨_, rfl, _, i1.tk (TK.same s6), _, rfl, _, rfl, _, i1.tk (TK.same s6), _, rfl, _, rfl, _, .inr (i3.tk (TK.same s6)), fun c nc => ⟨sz (by decide), fun c2 nc2 => ⟨sz (by decide), fun c4 nc4 => ?_⟩⟩⟩
        obtain ⟨H7, hE7, s7, e7⟩ := fr nc (.lst pvs)
        simp only [hE7] at nc2 nc4 ⊢
        obtain ⟨H8, hE8, s8, e8⟩ := fr nc2 (.tup [V.int (t + 1), ru])
        simp only [hE8] at nc4 ⊢
        obtain ⟨H9, hE9, s9, e9⟩ := fr nc4 (.lst [V.ref c2])
        simp only [hE9]
        have pn := ge.plt.n
        have pvl : pvs.length = y.2.2.length := Paired.length i4
        refine cat ((s8.trans s9) _ _ e7) e9 (sz (by simp; omega)) fun c3 HA nc3 sA eA => ?_
        have s6A := s7.trans (s8.trans (s9.trans sA))
        refine ⟨pu, y.2.1, c3, _, y.2.2 ++ [(t + 1, rr)], rfl, i2.tk (TK.same (s6.trans s6A)), eA, paired_snoc (pairS_tk i4 (TK.same (s6.trans s6A))) ⟨c2, ru, rfl, SqT.of ((s9.trans sA) _ _ e8), hrr.tk (TK.same s6A)⟩, by simp; omega, fun zv ts HB sB hz hts hch => ?_⟩
        have SB := S4.trans (s6.trans (s6A.trans sB))
        refine ⟨tyL (SB _ _ g2), addE zv (y.2.1, ts) HB _ SB hz ⟨ge.plt.g.mono (by omega), fun s hs => ?_, ?_, hch, ?_⟩ fun H5 ov2 o2 q1 q2 q3 q4 q5 => by rw [hI]; exact ⟨q1, ov2, o2, q2, q3, q4, q5, _, _, _, rfl⟩⟩
        · rcases List.mem_append.mp (hts.subset hs) with hs | hs
          · have := ge.plt.s s hs
            exact ⟨this.1.mono (by omega), this.2.1, by have := this.2.2; omega⟩
          · rw [List.mem_singleton.mp hs]
            exact ⟨gr, by show 0 ≤ t + 1; omega, Int.le_refl _⟩
        · refine List.Pairwise.sublist hts (List.pairwise_append.mpr ⟨ge.plt.w, List.pairwise_singleton _ _, fun a ha b hb => ?_⟩)
          rw [List.mem_singleton.mp hb]
          have := (ge.plt.s a ha).2.2
          show a.1 < t + 1
          omega
        · have := hts.length_le
          simp at this
          show ts.length ≤ m + 1
          omega
    · intro σ H' z
      rw [hI] at z
      obtain ⟨g1, outv, out, g2, g3, g4, g5, x0, y0, z0, rfl⟩ := z
      have S1 := s1.trans g1
      have ol : out.length = es.length := by have := congrArg List.length g4; simpa using this
      have el := gt.len
      have gt1 : GT (m + 1) (t + 1) wd out := ⟨g5, by rw [g4]; exact gt.nd, by omega⟩
      walk_at "un"
      cases ht2 : x.tell with
      | true =>
        rw [show kindS true = "tell" from rfl]
        walk_at "un"
        refine ⟨p, outv, out, m + 1, t + 1, wd, tu, x.row, dv, dr, rfl, g2, g3, k2.tk (TK.same S1), hd.tk (TK.same g1), gd, gt1, by have := gl.len; rw [ht2] at this; exact this, gl.nums, by omega, by omega, fun a ws qs H3 na s3 ea pr gq => ?_⟩
        refine ⟨a, ws, qs, rfl, ea, pr, gq.nd, (fun e he => by rw [(gq.each e he).len]; exact gl.w1), by have := gq.len; omega, fun a2 ws2 qs2 H4 na2 s4 ea2 pr2 hsub nd2 hl2 => ?_⟩
        exact q a2 ws2 qs2 H4 ((S1.trans s3).none na2) (S1.trans (s3.trans s4)) ea2 pr2 ⟨fun e he => gq.each e (hsub e he), nd2, by have := gq.len; omega⟩
      | false =>
        rw [show kindS false = "strike" from rfl]
        rw [if_neg (by decide +kernel)]
        refine ⟨p, outv, out, rfl, g2, g3, gt1.nd, (fun e he => by rw [(g5 e he).len]; exact gl.w1), by omega, fun a2 ws2 qs2 H4 na2 s4 ea2 pr2 hsub nd2 hl2 => ?_⟩
        exact q a2 ws2 qs2 H4 (S1.none na2) (S1.trans s4) ea2 pr2 (GT.mono (m := m + 1) ⟨fun e he => g5 e (hsub e he), nd2, by omega⟩ (by omega) (Int.le_refl _))
/-! shape_named -/
theorem name_inj {fs : List Frm} (nd : (fs.map Frm.name).Nodup) {a b : Frm} (ha : a ∈ fs) (hb : b ∈ fs) (e : a.name = b.name) : a = b := by
  induction fs with
  | nil => cases ha
  | cons c cs ih =>
    rw [List.map_cons, List.nodup_cons] at nd
    rcases List.mem_cons.mp ha with ea | ha
    · rcases List.mem_cons.mp hb with eb | hb
      · rw [ea, eb]
      · exact absurd (List.mem_map.mpr ⟨b, hb, by rw [← e, ea]⟩) nd.1
    · rcases List.mem_cons.mp hb with eb | hb
      · exact absurd (List.mem_map.mpr ⟨a, ha, by rw [e, eb]⟩) nd.1
      · exact ih nd.2 ha hb
theorem sc_shape_named : FnScope ["shapes", "name", "shape"] ["shapes", "name"] (defScope s_shape_named) := ⟨rfl, rfl, rfl, by decide +kernel, rfl, by decide +kernel, by decide +kernel⟩
theorem F_shape_named (T : Top K mg) : Fn P w K mg base CX0 1 "shape_named" ["shapes", "name"] (sp_shape_named K) := by
  obtain ⟨fd, F⟩ := T.D_shape_named
  refine mk_fn F T.g_shape_named (fun _ _ _ _ _ _ us hl => match us, hl with | [_, _], _ => rfl) (F.okN sc_shape_named (fun vs H Q E h => ?_) (fun cdv A outer s H vs Q E hr h => ?_))
  · obtain ⟨l, us, fs, f, rfl, _⟩ := h
    rfl
  · obtain ⟨l, us, fs, f, rfl, h1, h2, hf, nd, q⟩ := h
    refine ⟨_, (pss_cons (ps_for PassesOwn.never rfl (pi_list (pv 0)) (pg_name (i := 2) sc_shape_named.nd rfl (.inl rfl)) (pss_one (ps_if (pt_cmpR op_eq (pe_ix ix_tup (pv 2) pe_int (fun _ _ => rfl)) (pv 1) (nomark _)) (pss_one (ps_ret (pv 2))) pss_nil)))
      (pss_one (ps_never))), ?_⟩
    walk_at "un"
    refine ⟨⟨_, SqL.of h1⟩, lp_list h2 (fun d r σ H' => H' = H ∧ f ∈ r ∧ ∃ x, σ = [some (.ref l), some (.str f.name), x]) ⟨rfl, hf, _, rfl⟩ (fun d r σ H' z => by rw [z.1]; exact SqL.of h1) ?_ ?_⟩
    · rintro d v y r σ H' e ⟨a, rfl, k1⟩ ⟨rfl, hm, x, rfl⟩
      walk_at "un"
      refine ⟨_, k1, _, rfl, ?_⟩
      walk_at "un"
      by_cases hc : y.name = f.name
      · rw [if_pos hc]
        have : y = f := name_inj nd (by rw [e]; simp) hf hc
        rw [← this] at q
        exact q _ ⟨a, rfl, k1⟩
      · rw [if_neg hc]
        rcases List.mem_cons.mp hm with h | h
        · exact absurd (by rw [h]) hc
        · exact ⟨h, _, rfl⟩
    · rintro σ H' ⟨rfl, hm, x, rfl⟩
      cases hm
/-! check_telling -/
theorem if_days {lo hi : Option Int} {A : Prop} (h : ∀ a ∈ lo, ∀ b ∈ hi, a < b) (hA : A) : (if ¬optV lo = V.non then (if ¬optV hi = V.non then ∃ i, optV hi = V.int i ∧ ∃ j, optV lo = V.int j ∧ if i ≤ j then False else A else A) else A) := by
  rcases lo with _ | lo
  · rw [if_neg (by simp [optV])]; exact hA
  · rw [if_pos (by simp [optV])]
    rcases hi with _ | hi
    · rw [if_neg (by simp [optV])]; exact hA
    · rw [if_pos (by simp [optV])]
      have := h lo rfl hi rfl
      exact ⟨hi, rfl, lo, rfl, by rw [if_neg (by omega)]; exact hA⟩
theorem sc_check_telling : FnScope ["shapes", "telling", "kind", "name", "row", "low", "high", "shape", "width"] ["shapes", "telling"] (defScope s_check_telling) := ⟨rfl, rfl, rfl, by decide +kernel, rfl, by decide +kernel, by decide +kernel⟩
theorem F_check_telling (T : Top K mg) (G_shape_named : Fn P w K mg base CX0 1 "shape_named" ["shapes", "name"] (sp_shape_named K)) : Fn P w K mg base CX0 2 "check_telling" ["shapes", "telling"] (sp_check_telling K) := by
  obtain ⟨fd, F⟩ := T.D_check_telling
  refine mk_fn F T.g_check_telling (fun _ _ _ _ _ _ us hl => match us, hl with | [_, _], _ => rfl) (F.okN sc_check_telling (fun vs H Q E h => ?_) (fun cdv A outer s H vs Q E hr h => ?_))
  · obtain ⟨l, us, fs, f, v, x, rfl, _⟩ := h
    rfl
  · obtain ⟨l, us, fs, f, v, x, rfl, h1, h2, hf, nd, ⟨ta, tu, rfl, k1, k2⟩, hn, gl, q⟩ := h
    refine ⟨_, (pss_cons (ps_asg (pv 1) (pg_tup (n := 5) rfl (pgs_cons (pg_name (i := 2) sc_check_telling.nd rfl (.inl rfl)) (pgs_cons (pg_name (i := 3) sc_check_telling.nd rfl (.inl rfl)) (pgs_cons (pg_name (i := 4) sc_check_telling.nd rfl (.inl rfl)) (pgs_cons (pg_name (i := 5) sc_check_telling.nd rfl (.inl rfl)) (pgs_cons (pg_name (i := 6) sc_check_telling.nd rfl (.inl rfl)) pgs_nil)))))))
      (pss_cons (ps_set (i := 7) sc_check_telling.nd rfl (.inl rfl) (pe_fn G_shape_named (hr.mono (by decide)) (by rfl) pass0 (pa_cons (pv 0) (pa_cons (pv 3) pa_nil))))
      (pss_cons (ps_set (i := 8) sc_check_telling.nd rfl (.inl rfl) (pe_ix ix_tup (pv 7) pe_int (fun _ _ => rfl)))
      (pss_cons (ps_if (pt_cmpR op_eq (pv 2) pe_str (nomark _)) (pss_one (ps_set (i := 8) sc_check_telling.nd rfl (.inl rfl) (pe_ix ix_tup (pv 7) pe_int (fun _ _ => rfl)))) pss_nil)
      (pss_cons (ps_if (pt_cmpR op_ne (pe_callB call_len_seq (by rfl) T.f_len PySem.boot_len (pa_cons (pv 4) pa_nil)) (pv 8) (nomark _)) (pss_one (ps_never)) pss_nil)
      (pss_one (ps_if (PW.pt (pw_and (pt_cmpR op_notN (pv 5) pe_non (nomark _)) (pw_and (pt_cmpR op_notN (pv 6) pe_non (nomark _)) (pw_and1 (pt_cmpR op_le (pv 6) (pv 5) (nomark _)))))) (pss_one (ps_never)) pss_nil))))))), ?_⟩
    walk_at "un"
    refine ⟨_, k1, rfl, _, _, rfl, _, _, rfl, _, _, rfl, _, _, rfl, _, _, rfl, rfl, ?_⟩
    refine ⟨l, us, fs, f, by rw [hn], h1, h2, hf, nd, fun v ⟨a, e, c1⟩ => ?_⟩
    subst e
    have hlen := gl.len
    have hdays := gl.days
    obtain ⟨tb, rfl, k3⟩ := k2
    refine ⟨_, rfl, _, c1, _, rfl, ?_⟩
    refine ⟨rfl, ?_⟩
    cases ht : x.tell with
    | true =>
      rw [show kindS true = "tell" from rfl]
      walk_at "un"
      refine ⟨_, c1, _, rfl, _, .inr (SqT.of k3), rfl, ?_⟩
      rw [ht] at hlen
      rw [if_neg (by simp [hlen])]
      exact if_days hdays q
    | false =>
      rw [show kindS false = "strike" from rfl, if_neg (by decide +kernel)]
      walk_at "un"
      refine ⟨_, .inr (SqT.of k3), ?_⟩
      rw [ht] at hlen
      rw [if_neg (by simp [hlen])]
      exact if_days hdays q
end
end HW
set_option Elab.async false
set_option linter.all false
set_option maxRecDepth 100000
set_option maxHeartbeats 4000000
namespace HW
open PySem PySem.Spec PyProof.Rows L2
local macro_rules | `(tactic| walk_at "un") => `(tactic| simp only [cxOf, tSeq, tNext, tIfS, tTest, tOp, tUn, tVar, tC, tRet, tRetN, tNever, tAsg, gName, gNil, gCons, gTup, eq_self, rListOf, Option.isSome_none, Option.isSome_some, gSub, tDrop, tCB, tCall, tCons, tNil, tTup, tLst, tB, tAnd, tOr, tNot, tAndV, tOrV, tNotV, tNoPart, tPart, tSl, tSl3, tBM, tM1, tDNewK, tDNewT, tDGet, tDIn, tDNotIn, sDPut, tYes, tFld, sFld, tMeth, tMake,
  for_L, for_T, for_R, for_S, lc_L, lc_T, lc_R, wipe, rI0, rU, rEq, rNe, rIxT, rIxL, rIxS, L2.start, List.map_cons, List.map_nil, List.length_cons, List.length_nil, Nat.reduceAdd, Nat.reduceSub, List.replicate_succ, List.replicate_zero, List.cons_append, List.nil_append, List.append_nil,
  List.getElem?_cons_zero, List.getElem?_cons_succ, List.set_cons_zero, List.set_cons_succ, Option.some.injEq, V.int.injEq, V.bl.injEq, V.str.injEq, V.ref.injEq, V.ty.injEq, List.cons.injEq, and_true, true_and, exists_eq_left, exists_eq_left', exists_and_left, exists_eq, scal, decide_eq_true_eq, reduceCtorEq, decide_false, decide_true, Bool.not_true, Bool.not_false, if_true, if_false, Bool.false_eq_true, ite_true, ite_false, Bool.not_eq_true', decide_eq_false_iff_not])
local macro_rules | `(tactic| walk_at "tk") => `(tactic| first | exact TK.refl _ | assumption | exact TK.same (by assumption) | (refine TK.trans ?_ (TK.new (by assumption)); walk_at "tk") | (refine TK.trans ?_ (TK.put (by assumption) rfl); walk_at "tk") | (refine TK.trans ?_ (TK.same (by assumption)); walk_at "tk"))
local macro_rules | `(tactic| walk_at "fz") => `(tactic| first | assumption | exact L2.SqT.tk (by assumption) (by walk_at "tk") | exact IsRch.tk (by assumption) (by walk_at "tk") | exact IsPlt.tk (by assumption) (by walk_at "tk") | exact IsStp.tk (by assumption) (by walk_at "tk") | exact IsRow.tk (by assumption) (by walk_at "tk") | exact IsEnt.tk (by assumption) (by walk_at "tk") | exact pairS_tk (by assumption) (by walk_at "tk") | exact pairE_tk (by assumption) (by walk_at "tk"))
local macro_rules | `(tactic| walk_at "sm") => `(tactic| first | exact L2.Same.refl _ | assumption | (refine L2.Same.trans ?_ (L2.Same.new (by assumption)); walk_at "sm") | (refine L2.Same.put ?_ (by assumption); walk_at "sm") | (refine L2.Same.trans ?_ (by assumption); walk_at "sm"))
local macro_rules | `(tactic| walk_at "jk") => `(tactic| first | exact ⟨_, rfl⟩ | exact ⟨_, _, rfl, rfl⟩ | exact ⟨⟨_, rfl⟩, _, rfl⟩ | exact ⟨_, rfl, _, rfl⟩ | simp)

section
variable {P : Program} {w : World} {K : PySem.W.Frag} {mg : Str → Option Value} {base : Heap}

/-! write_number -/
theorem sc_write_number : FnScope ["number"] ["number"] (defScope s_write_number) := ⟨rfl, rfl, rfl, by decide +kernel, rfl, by decide +kernel, by decide +kernel⟩
theorem F_write_number (T : Top K mg) : Fn P w K mg base CX0 1 "write_number" ["number"] sp_write_number := by
  obtain ⟨fd, F⟩ := T.D_write_number
  refine mk_fn F T.g_write_number (fun _ _ _ _ _ _ us hl => match us, hl with | [_], _ => rfl) (F.okN sc_write_number (fun vs H Q E h => ?_) (fun cdv A outer s H vs Q E hr h => ?_))
  · obtain ⟨n, rfl, _⟩ := h
    rfl
  · obtain ⟨n, rfl, hn, q⟩ := h
    refine ⟨_, (pss_one (ps_ret (pe_callTy call_str_int (by rfl) T.f_str (by decide +kernel) (pa_cons (pv 0) pa_nil)))), ?_⟩
    walk_at "un"
    exact ⟨sm_log hn, q⟩
/-! write_end -/
theorem sc_write_end : FnScope ["end"] ["end"] (defScope s_write_end) := ⟨rfl, rfl, rfl, by decide +kernel, rfl, by decide +kernel, by decide +kernel⟩
theorem F_write_end (T : Top K mg) (G_write_number : Fn P w K mg base CX0 1 "write_number" ["number"] sp_write_number) : Fn P w K mg base CX0 2 "write_end" ["end"] sp_write_end := by
  obtain ⟨fd, F⟩ := T.D_write_end
  refine mk_fn F T.g_write_end (fun _ _ _ _ _ _ us hl => match us, hl with | [_], _ => rfl) (F.okN sc_write_end (fun vs H Q E h => ?_) (fun cdv A outer s H vs Q E hr h => ?_))
  · obtain ⟨o, rfl, _⟩ := h
    rfl
  · obtain ⟨o, rfl, ho, q⟩ := h
    refine ⟨_, (pss_cons (ps_if (pt_cmpR op_isN (pv 0) pe_non (nomark _)) (pss_one (ps_ret pe_str)) pss_nil)
      (pss_one (ps_ret (pe_fn G_write_number (hr.mono (by decide)) (by rfl) pass0 (pa_cons (pv 0) pa_nil))))), ?_⟩
    walk_at "un"
    rcases o with _ | n
    · rw [if_pos (show optV none = V.non from rfl)]; exact q
    · rw [if_neg (by simp [optV])]
      exact ⟨n, rfl, ho n rfl, q⟩
/-! write_telling -/
theorem sc_write_telling : FnScope ["turn", "telling", "words", "number"] ["turn", "telling"] (defScope s_write_telling) := ⟨rfl, rfl, rfl, by decide +kernel, rfl, by decide +kernel, by decide +kernel⟩
theorem F_write_telling (T : Top K mg) (G_write_number : Fn P w K mg base CX0 1 "write_number" ["number"] sp_write_number) (G_write_end : Fn P w K mg base CX0 2 "write_end" ["end"] sp_write_end) : Fn P w K mg base CX0 3 "write_telling" ["turn", "telling"] (sp_write_telling K) := by
  obtain ⟨fd, F⟩ := T.D_write_telling
  refine mk_fn F T.g_write_telling (fun _ _ _ _ _ _ us hl => match us, hl with | [_, _], _ => rfl) (F.okN sc_write_telling (fun vs H Q E h => ?_) (fun cdv A outer s H vs Q E hr h => ?_))
  · obtain ⟨n, v, x, wd, k, rfl, _⟩ := h
    rfl
  · obtain ⟨n, v, x, wd, k, rfl, hn, ⟨ta, tu, rfl, k1, k2⟩, gl, nm, q⟩ := h
    refine ⟨_, (pss_cons (ps_set (i := 2) sc_write_telling.nd rfl (.inl rfl) (pe_lst (pa_cons (pe_ix ix_tup (pv 1) pe_int (fun _ _ => rfl)) (pa_cons (pe_fn G_write_number (hr.mono (by decide)) (by rfl) pass0 (pa_cons (pv 0) pa_nil)) (pa_cons (pe_ix ix_tup (pv 1) pe_int (fun _ _ => rfl)) (pa_cons (pe_fn G_write_end (hr.mono (by decide)) (by rfl) pass0 (pa_cons (pe_ix ix_tup (pv 1) pe_int (fun _ _ => rfl)) pa_nil)) (pa_cons (pe_fn G_write_end (hr.mono (by decide)) (by rfl) pass0 (pa_cons (pe_ix ix_tup (pv 1) pe_int (fun _ _ => rfl)) pa_nil)) pa_nil)))))))
      (pss_one (ps_ret (pe_join pe_str (pe_op op_cat (pe_op op_cat (pv 2) (pe_lc (own := [("number", 3)]) (g := gName 3) (tt := tYes) rfl sc_write_telling.nd (pi_tup (pe_ix ix_tup (pv 1) pe_int (fun _ _ => rfl))) (blkOk_by (own := [("number", 3)]) (N := ["turn", "telling", "words", "number"]) (sc := defScope s_write_telling) (by decide +kernel)) (fun _ _ _ _ _ => (pg_name (i := 3) sc_write_telling.nd rfl (.inl rfl))) (fun _ _ _ _ _ => pts_nil) (fun _ _ _ _ _ => (pe_fn G_write_number (hr.mono (by decide)) (by rfl) pass0 (pa_cons (pv 3) pa_nil))))) (pe_lst (pa_cons pe_str pa_nil))))))), ?_⟩
    walk_at "un"
    refine ⟨_, k1, _, rfl, n, rfl, hn, _, k1, _, rfl, _, k1, _, rfl, x.lo, rfl, gl.lo, _, k1, _, rfl, x.hi, rfl, gl.hi, sz (by decide), fun p np => ⟨⟨_, rfl⟩, ?_⟩⟩
    obtain ⟨tb, rfl, k3⟩ := k2
    obtain ⟨H1, hE1, s1, e1⟩ := fr np (.lst ([kindS x.tell, numS n, x.name, endW x.lo, endW x.hi].map V.str))
    have hE1' := hE1
    simp only [List.map_cons, List.map_nil] at hE1'
    simp only [hE1']
    have rl : x.row.length ≤ 3 := by have := gl.len; have := gl.keys; have := gl.w3; split at * <;> omega
    refine ⟨_, k1.tk (TK.same s1), _, rfl, _, rfl, ⟨_, SqT.of (s1 _ _ k3)⟩, fun D nD => ?_⟩
    refine lc_nums (SqT.of (s1 _ _ k3)) gl.nums (by omega) (by simp) nD fun H2 s2 e2 => ?_
    refine cat (s2 _ _ e1) e2 (sz (by simp; omega)) fun c H3 nc s3 e3 => ⟨sz (by decide), fun c2 nc2 => ?_⟩
    obtain ⟨H4, hE4, s4, e4⟩ := fr nc2 (.lst ([dot].map V.str))
    have hE4' := hE4
    simp only [List.map_cons, List.map_nil, dot] at hE4'
    simp only [hE4']
    refine cat (s4 _ _ e3) e4 (sz (by simp; omega)) fun c3 H5 nc3 s5 e5 => ?_
    have wl : ∀ o : Option Int, (∀ n ∈ o, Sm n) → WB (endW o) := by
      intro o ho
      rcases o with _ | z
      · exact wb_lit (by decide +kernel)
      · exact wb_num (ho z rfl)
    rw [← List.map_append, ← List.map_append] at e5
    refine ⟨c3, rfl, _, .inl (SqL.of e5), jn_sum ⟨by simp, fun w hw => ?_, by simp; omega⟩, q _ _ ((((s1.trans s2).trans s3).trans s4).trans s5)⟩
    simp only [List.mem_append, List.mem_cons, List.not_mem_nil, or_false] at hw
    rcases hw with ((rfl | rfl | rfl | rfl | rfl) | hw) | rfl
    · cases x.tell <;> exact wb_lit (by decide +kernel)
    · exact wb_num hn
    · exact wb_name nm
    · exact wl _ gl.lo
    · exact wl _ gl.hi
    · obtain ⟨z, hz, rfl⟩ := List.mem_map.mp hw
      exact wb_num (gl.nums z hz)
    · exact wb_lit (by decide +kernel)
/-! reach_words -/
theorem sc_reach_words : FnScope ["reach", "first", "edge"] ["reach"] (defScope s_reach_words) := ⟨rfl, rfl, rfl, by decide +kernel, rfl, by decide +kernel, by decide +kernel⟩
theorem F_reach_words (T : Top K mg) (G_write_number : Fn P w K mg base CX0 1 "write_number" ["number"] sp_write_number) : Fn P w K mg base CX0 2 "reach_words" ["reach"] (sp_reach_words K) := by
  obtain ⟨fd, F⟩ := T.D_reach_words
  refine mk_fn F T.g_reach_words (fun _ _ _ _ _ _ us hl => match us, hl with | [_], _ => rfl) (F.okN sc_reach_words (fun vs H Q E h => ?_) (fun cdv A outer s H vs Q E hr h => ?_))
  · obtain ⟨v, r, m, rfl, _⟩ := h
    rfl
  · obtain ⟨v, ⟨b, es⟩, m, rfl, ⟨a, c, rfl, h1, h2⟩, gr, hm, q⟩ := h
    refine ⟨_, (pss_cons (ps_set (i := 1) sc_reach_words.nd rfl (.inl rfl) pe_str)
      (pss_cons (ps_if (pt_val (pe_ix ix_tup (pv 0) pe_int (fun _ _ => rfl))) (pss_one (ps_set (i := 1) sc_reach_words.nd rfl (.inl rfl) pe_str)) pss_nil)
      (pss_one (ps_ret (pe_op op_cat (pe_lst (pa_cons (pv 1) (pa_cons (pe_fn G_write_number (hr.mono (by decide)) (by rfl) pass0 (pa_cons (pe_callB call_len_seq (by rfl) T.f_len PySem.boot_len (pa_cons (pe_ix ix_tup (pv 0) pe_int (fun _ _ => rfl)) pa_nil)) pa_nil)) pa_nil))) (pe_lc (own := [("edge", 2)]) (g := gName 2) (tt := tYes) rfl sc_reach_words.nd (pi_tup (pe_ix ix_tup (pv 0) pe_int (fun _ _ => rfl))) (blkOk_by (own := [("edge", 2)]) (N := ["reach", "first", "edge"]) (sc := defScope s_reach_words) (by decide +kernel)) (fun _ _ _ _ _ => (pg_name (i := 2) sc_reach_words.nd rfl (.inl rfl))) (fun _ _ _ _ _ => pts_nil) (fun _ _ _ _ _ => (pe_fn G_write_number (hr.mono (by decide)) (by rfl) pass0 (pa_cons (pv 2) pa_nil))))))))), ?_⟩
    walk_at "un"
    have gl : es.length ≤ 2 * m := gr.2.2
    refine ⟨_, h1, _, rfl, b, rfl, ?_⟩
    have fin : ∀ z : Str, z = (if b then ("in" : Str) else "out") → ∃ x, SqT K H a x ∧ ∃ x_2, atI x 1 = some x_2 ∧ ∃ p, x_2 = V.ref p ∧ ∃ x, (SqL K H p x ∨ SqT K H p x) ∧ sp_write_number [V.int ↑x.length] H (fun x H1 => 2 ≤ sizeLine ∧ ∀ (p : Addr), H1 p = none → ∃ x_3, SqT K (upd H1 p (HO.lst [V.str z, x])) a x_3 ∧ ∃ x_4, atI x_3 1 = some x_4 ∧ ∃ a_2, x_4 = V.ref a_2 ∧ (∃ xs, SqT K (upd H1 p (HO.lst [V.str z, x])) a_2 xs) ∧ ∀ (D : Addr), upd H1 p (HO.lst [V.str z, x]) D = none → Lc (Itt K a_2) (gName 2) tYes (tCall sp_write_number [] E0 (tCons (tVar 2) tNil)) [2] [some (V.ref a), some (V.str z), none] D (fun y H2 => rCat (V.ref p) y H2 Q) (upd H1 p (HO.lst [V.str z, x]))) E0 := by
      intro z hz
      refine ⟨_, h1, _, rfl, _, rfl, _, .inr h2, _, rfl, sm_small (by simp; omega) (by simp; omega), sz (by decide), fun p np => ?_⟩
      obtain ⟨H1, hE1, s1, e1⟩ := fr np (.lst ([z, numS (es.map V.int).length].map V.str))
      have hE1' := hE1
      simp only [List.map_cons, List.map_nil] at hE1'
      simp only [hE1']
      refine ⟨_, h1.tk (TK.same s1), _, rfl, _, rfl, ⟨_, h2.tk (TK.same s1)⟩, fun D nD => ?_⟩
      refine lc_nums (h2.tk (TK.same s1)) gr.2.1 (by show es.length ≤ _; omega) (by simp) nD fun H2 s2 e2 => ?_
      refine cat (s2 _ _ e1) e2 (sz (by simp; omega)) fun c H3 nc s3 e3 => ?_
      rw [← List.map_append] at e3
      refine q c H3 ((s1.trans s2).none nc) ((s1.trans s2).trans s3) ?_
      rw [e3]
      simp [reachWs, hz]
    cases b
    · exact fin _ rfl
    · exact fin _ rfl
/-! plot_words -/
theorem sc_plot_words : FnScope ["plot", "words", "turn", "reach"] ["plot"] (defScope s_plot_words) := ⟨rfl, rfl, rfl, by decide +kernel, rfl, by decide +kernel, by decide +kernel⟩
theorem F_plot_words (T : Top K mg) (G_write_number : Fn P w K mg base CX0 1 "write_number" ["number"] sp_write_number) (G_reach_words : Fn P w K mg base CX0 2 "reach_words" ["reach"] (sp_reach_words K)) : Fn P w K mg base CX0 3 "plot_words" ["plot"] (sp_plot_words K) := by
  obtain ⟨fd, F⟩ := T.D_plot_words
  refine mk_fn F T.g_plot_words (fun _ _ _ _ _ _ us hl => match us, hl with | [_], _ => rfl) (F.okN sc_plot_words (fun vs H Q E h => ?_) (fun cdv A outer s H vs Q E hr h => ?_))
  · obtain ⟨v, p, m, t, rfl, _⟩ := h
    rfl
  · obtain ⟨v, ⟨g, ss⟩, m, t, rfl, ⟨a, u, b, vs, rfl, h1, h2, h3, h4⟩, gp, hm, ht, q⟩ := h
    refine ⟨_, (pss_cons (ps_set (i := 1) sc_plot_words.nd rfl (.inl rfl) (pe_op op_cat (pe_fn G_reach_words (hr.mono (by decide)) (by rfl) pass0 (pa_cons (pe_ix ix_tup (pv 0) pe_int (fun _ _ => rfl)) pa_nil)) (pe_lst (pa_cons (pe_fn G_write_number (hr.mono (by decide)) (by rfl) pass0 (pa_cons (pe_callB call_len_seq (by rfl) T.f_len PySem.boot_len (pa_cons (pe_ix ix_tup (pv 0) pe_int (fun _ _ => rfl)) pa_nil)) pa_nil)) pa_nil))))
      (pss_cons (ps_for PassesOwn.never rfl (pi_tup (pe_ix ix_tup (pv 0) pe_int (fun _ _ => rfl))) (pg_tup (n := 2) rfl (pgs_cons (pg_name (i := 2) sc_plot_words.nd rfl (.inl rfl)) (pgs_cons (pg_name (i := 3) sc_plot_words.nd rfl (.inl rfl)) pgs_nil))) (pss_one (ps_set (i := 1) sc_plot_words.nd rfl (.inl rfl) (pe_op op_cat (pe_op op_cat (pv 1) (pe_lst (pa_cons (pe_fn G_write_number (hr.mono (by decide)) (by rfl) pass0 (pa_cons (pv 2) pa_nil)) pa_nil))) (pe_fn G_reach_words (hr.mono (by decide)) (by rfl) pass0 (pa_cons (pv 3) pa_nil))))))
      (pss_one (ps_ret (pv 1))))), ?_⟩
    walk_at "un"
    have sl : ss.length ≤ m := gp.n
    refine ⟨_, h1, _, rfl, u, g, m, rfl, h2, gp.g, by omega, fun wa H1 nwa s1 e1 => ?_⟩
    have vl : vs.length = ss.length := Paired.length h4
    have wr := wb_reach gp.g (by omega)
    refine ⟨_, h1.tk (TK.same s1), _, rfl, _, rfl, _, .inr (h3.tk (TK.same s1)), _, rfl, sm_small (by omega) (by omega), sz (by decide), fun p np => ?_⟩
    obtain ⟨H2, hE2, s2, e2⟩ := fr np (.lst ([numS vs.length].map V.str))
    have hE2' := hE2
    simp only [List.map_cons, List.map_nil] at hE2'
    simp only [hE2']
    have rl : (reachWs g).length ≤ 2 + 2 * m := wr.2
    refine cat (s2 _ _ e1) e2 (sz (by simp; omega)) fun c H3 nc s3 e3 => ?_
    have S3 := s1.trans (s2.trans s3)
    refine ⟨_, h1.tk (TK.same S3), _, rfl, _, rfl, ⟨_, h3.tk (TK.same S3)⟩, ?_⟩
    rw [← List.map_append] at e3
    obtain ⟨I, hI⟩ : ∃ I : List Stp → List Stp → L2.St → Hp → Prop, I = fun d r σ H' => Same H H' ∧ ∃ l x y, H l = none ∧ H' l = some (.lst ((reachWs g ++ [numS vs.length] ++ d.flatMap stepWs).map V.str)) ∧ σ = [some (V.ref a), some (V.ref l), x, y] := ⟨_, rfl⟩
    refine lp_tup h4 I (by rw [hI]; exact ⟨S3, c, _, _, (s1.trans s2).none nc, by rw [e3]; simp, rfl⟩) (fun d r σ H' z => by rw [hI] at z; exact h3.tk (TK.same z.1)) ?_ ?_
    · rintro d v y r σ H' e ⟨sa, su, rfl, j1, j2⟩ z
      rw [hI] at z
      obtain ⟨f1, l, x0, y0, nl, f2, rfl⟩ := z
      have hy : y ∈ ss := by rw [show ss = d ++ y :: r from e]; simp
      have dl : ss.length = d.length + (r.length + 1) := by rw [show ss = d ++ y :: r from e]; simp
      have gy := gp.s y hy
      have ws := wb_steps (ss := d) hm ht fun s hs => gp.s s (by rw [show (g, ss).2 = d ++ y :: r from e]; exact List.mem_append_left _ hs)
      have wl := ws.2
      have wy := (wb_reach gy.1 (by omega)).2
      walk_at "un"
      refine ⟨_, j1.tk (TK.same f1), rfl, _, _, rfl, _, _, rfl, rfl, y.1, rfl, sm_turn ht gy.2.1 gy.2.2, sz (by decide), fun p2 np2 => ?_⟩
      obtain ⟨H4, hE4, s4, e4⟩ := fr np2 (.lst ([numS y.1].map V.str))
      have hE4' := hE4
      simp only [List.map_cons, List.map_nil] at hE4'
      simp only [hE4']
      refine cat (s4 _ _ f2) e4 (sz (by simp [-List.length_flatMap]; omega)) fun c2 H5 nc2 s5 e5 => ?_
      rw [← List.map_append] at e5
      refine ⟨su, y.2, m, rfl, j2.tk (TK.same (f1.trans (s4.trans s5))), gy.1, by omega, fun c3 H6 nc3 s6 e6 => ?_⟩
      refine cat (s6 _ _ e5) e6 (sz (by simp [-List.length_flatMap]; omega)) fun c4 H7 nc4 s7 e7 => ?_
      rw [hI]
      refine ⟨f1.trans (s4.trans (s5.trans (s6.trans s7))), c4, _, _, (f1.trans (s4.trans (s5.trans s6))).none nc4, ?_, rfl⟩
      rw [e7, ← List.map_append]
      simp [stepWs]
    · intro σ H' z
      rw [hI] at z
      obtain ⟨f1, l, x0, y0, nl, f2, rfl⟩ := z
      walk_at "un"
      refine q l H' nl f1 ?_
      rw [f2]
      simp [plotWs, vl]
/-! write_entry -/
theorem sc_write_entry : FnScope ["name", "row", "plot", "words", "number"] ["name", "row", "plot"] (defScope s_write_entry) := ⟨rfl, rfl, rfl, by decide +kernel, rfl, by decide +kernel, by decide +kernel⟩
theorem F_write_entry (T : Top K mg) (G_write_number : Fn P w K mg base CX0 1 "write_number" ["number"] sp_write_number) (G_plot_words : Fn P w K mg base CX0 3 "plot_words" ["plot"] (sp_plot_words K)) : Fn P w K mg base CX0 4 "write_entry" ["name", "row", "plot"] (sp_write_entry K) := by
  obtain ⟨fd, F⟩ := T.D_write_entry
  refine mk_fn F T.g_write_entry (fun _ _ _ _ _ _ us hl => match us, hl with | [_, _, _], _ => rfl) (F.okN sc_write_entry (fun vs H Q E h => ?_) (fun cdv A outer s H vs Q E hr h => ?_))
  · obtain ⟨name, u, v, e, wd, m, t, rfl, _⟩ := h
    rfl
  · obtain ⟨name, u, v, ⟨row, p⟩, wd, m, t, rfl, ⟨rb, rfl, k1⟩, hp, ge, hw, hm, ht, nm, q⟩ := h
    refine ⟨_, (pss_cons (ps_set (i := 3) sc_write_entry.nd rfl (.inl rfl) (pe_op op_cat (pe_lst (pa_cons pe_str (pa_cons (pv 0) (pa_cons (pe_fn G_write_number (hr.mono (by decide)) (by rfl) pass0 (pa_cons (pe_callB call_len_seq (by rfl) T.f_len PySem.boot_len (pa_cons (pv 1) pa_nil)) pa_nil)) pa_nil)))) (pe_lc (own := [("number", 4)]) (g := gName 4) (tt := tYes) rfl sc_write_entry.nd (pi_tup (pv 1)) (blkOk_by (own := [("number", 4)]) (N := ["name", "row", "plot", "words", "number"]) (sc := defScope s_write_entry) (by decide +kernel)) (fun _ _ _ _ _ => (pg_name (i := 4) sc_write_entry.nd rfl (.inl rfl))) (fun _ _ _ _ _ => pts_nil) (fun _ _ _ _ _ => (pe_fn G_write_number (hr.mono (by decide)) (by rfl) pass0 (pa_cons (pv 4) pa_nil))))))
      (pss_one (ps_ret (pe_join pe_str (pe_op op_cat (pe_op op_cat (pv 3) (pe_fn G_plot_words (hr.mono (by decide)) (by rfl) pass0 (pa_cons (pv 2) pa_nil))) (pe_lst (pa_cons pe_str pa_nil))))))), ?_⟩
    walk_at "un"
    have rl : row.length ≤ 3 := by have h : row.length = wd := ge.len; omega
    refine ⟨_, .inr (SqT.of k1), _, rfl, sm_small (by simp; omega) (by simp; omega), sz (by decide), fun p2 np => ?_⟩
    obtain ⟨H1, hE1, s1, e1⟩ := fr np (.lst ([("row" : Str), name, numS (row.map V.int).length].map V.str))
    have hE1' := hE1
    simp only [List.map_cons, List.map_nil] at hE1'
    simp only [hE1']
    refine ⟨⟨_, SqT.of (s1 _ _ k1)⟩, fun D nD => ?_⟩
    refine lc_nums (SqT.of (s1 _ _ k1)) ge.nums (by show row.length ≤ _; omega) (by simp) nD fun H2 s2 e2 => ?_
    refine cat (s2 _ _ e1) e2 (sz (by simp; omega)) fun c H3 nc s3 e3 => ⟨⟨_, rfl⟩, ?_⟩
    rw [← List.map_append] at e3
    have S3 := s1.trans (s2.trans s3)
    have wp : (plotWs p).length ≤ 3000 := (wb_plot ge.plt hm ht).2
    refine ⟨v, p, m, t, rfl, hp.tk (TK.same S3), ge.plt, hm, ht, fun c4 H4 nc4 s4 e4 => ?_⟩
    refine cat (s4 _ _ e3) e4 (sz (by simp; omega)) fun c5 H5 nc5 s5 e5 => ⟨sz (by decide), fun c6 nc6 => ?_⟩
    rw [← List.map_append] at e5
    obtain ⟨H6, hE6, s6, e6⟩ := fr nc6 (.lst ([dot].map V.str))
    have hE6' := hE6
    simp only [List.map_cons, List.map_nil, dot] at hE6'
    simp only [hE6']
    refine cat (s6 _ _ e5) e6 (sz (by simp; omega)) fun c7 H7 nc7 s7 e7 => ?_
    rw [← List.map_append] at e7
    have hw2 : entWs name (row, p) = [("row" : Str), name, numS (row.map V.int).length] ++ row.map numS ++ plotWs p ++ [dot] := by simp [entWs]
    have wds := wds_ent ge hw hm ht nm
    rw [hw2] at wds
    refine ⟨c7, rfl, _, .inl (SqL.of e7), jn_sum wds, ?_⟩
    have := q H7 (S3.trans (s4.trans (s5.trans (s6.trans s7))))
    rw [hw2] at this
    exact this
/-! write_first -/
theorem sc_write_first : FnScope ["number", "turn", "since"] ["number", "turn", "since"] (defScope s_write_first) := ⟨rfl, rfl, rfl, by decide +kernel, rfl, by decide +kernel, by decide +kernel⟩
theorem F_write_first (T : Top K mg) (G_write_number : Fn P w K mg base CX0 1 "write_number" ["number"] sp_write_number) : Fn P w K mg base CX0 2 "write_first" ["number", "turn", "since"] sp_write_first := by
  obtain ⟨fd, F⟩ := T.D_write_first
  refine mk_fn F T.g_write_first (fun _ _ _ _ _ _ us hl => match us, hl with | [_, _, _], _ => rfl) (F.okN sc_write_first (fun vs H Q E h => ?_) (fun cdv A outer s H vs Q E hr h => ?_))
  · obtain ⟨n, t, k, rfl, _⟩ := h
    rfl
  · obtain ⟨n, t, k, rfl, hn, ht, hk, q⟩ := h
    refine ⟨_, (pss_one (ps_ret (pe_join pe_str (pe_lst (pa_cons pe_str (pa_cons (pe_fn G_write_number (hr.mono (by decide)) (by rfl) pass0 (pa_cons (pv 0) pa_nil)) (pa_cons (pe_fn G_write_number (hr.mono (by decide)) (by rfl) pass0 (pa_cons (pv 1) pa_nil)) (pa_cons (pe_fn G_write_number (hr.mono (by decide)) (by rfl) pass0 (pa_cons (pv 2) pa_nil)) (pa_cons pe_str pa_nil))))))))), ?_⟩
    walk_at "un"
    refine ⟨⟨_, rfl⟩, n, rfl, hn, t, rfl, ht, k, rfl, hk, sz (by decide), fun p np => ⟨firstWs n t k, .inl (SqL.of upd_same), jn_sum (wds_first hn ht hk), q _ (L2.Same.new np)⟩⟩
/-! write_last -/
theorem sc_write_last : FnScope ["many"] ["many"] (defScope s_write_last) := ⟨rfl, rfl, rfl, by decide +kernel, rfl, by decide +kernel, by decide +kernel⟩
theorem F_write_last (T : Top K mg) (G_write_number : Fn P w K mg base CX0 1 "write_number" ["number"] sp_write_number) : Fn P w K mg base CX0 2 "write_last" ["many"] sp_write_last := by
  obtain ⟨fd, F⟩ := T.D_write_last
  refine mk_fn F T.g_write_last (fun _ _ _ _ _ _ us hl => match us, hl with | [_], _ => rfl) (F.okN sc_write_last (fun vs H Q E h => ?_) (fun cdv A outer s H vs Q E hr h => ?_))
  · obtain ⟨k, rfl, _⟩ := h
    rfl
  · obtain ⟨k, rfl, hk, q⟩ := h
    refine ⟨_, (pss_one (ps_ret (pe_join pe_str (pe_lst (pa_cons pe_str (pa_cons (pe_fn G_write_number (hr.mono (by decide)) (by rfl) pass0 (pa_cons (pv 0) pa_nil)) (pa_cons pe_str pa_nil))))))), ?_⟩
    walk_at "un"
    refine ⟨⟨_, rfl⟩, k, rfl, sm_small (by omega) (by omega), sz (by decide), fun p np => ⟨lastWs k, .inl (SqL.of upd_same), jn_sum (wds_last hk), q _ (L2.Same.new np)⟩⟩
end
end HW
set_option Elab.async false
set_option linter.all false
set_option maxRecDepth 100000
set_option maxHeartbeats 4000000
namespace HW
open PySem PySem.Spec PyProof.Rows L2
local macro_rules | `(tactic| walk_at "un") => `(tactic| simp only [cxOf, tSeq, tNext, tIfS, tTest, tOp, tUn, tVar, tC, tRet, tRetN, tNever, tAsg, gName, gNil, gCons, gTup, eq_self, rListOf, Option.isSome_none, Option.isSome_some, gSub, tDrop, tCB, tCall, tCons, tNil, tTup, tLst, tB, tAnd, tOr, tNot, tAndV, tOrV, tNotV, tNoPart, tPart, tSl, tSl3, tBM, tM1, tDNewK, tDNewT, tDGet, tDIn, tDNotIn, sDPut, tYes, tFld, sFld, tMeth, tMake,
  for_L, for_T, for_R, for_S, lc_L, lc_T, lc_R, wipe, rI0, rU, rEq, rNe, rIxT, rIxL, rIxS, L2.start, List.map_cons, List.map_nil, List.length_cons, List.length_nil, Nat.reduceAdd, Nat.reduceSub, List.replicate_succ, List.replicate_zero, List.cons_append, List.nil_append, List.append_nil,
  List.getElem?_cons_zero, List.getElem?_cons_succ, List.set_cons_zero, List.set_cons_succ, Option.some.injEq, V.int.injEq, V.bl.injEq, V.str.injEq, V.ref.injEq, V.ty.injEq, List.cons.injEq, and_true, true_and, exists_eq_left, exists_eq_left', exists_and_left, exists_eq, scal, decide_eq_true_eq, reduceCtorEq, decide_false, decide_true, Bool.not_true, Bool.not_false, if_true, if_false, Bool.false_eq_true, ite_true, ite_false, Bool.not_eq_true', decide_eq_false_iff_not])
local macro_rules | `(tactic| walk_at "tk") => `(tactic| first | exact TK.refl _ | assumption | exact TK.same (by assumption) | (refine TK.trans ?_ (TK.new (by assumption)); walk_at "tk") | (refine TK.trans ?_ (TK.put (by assumption) rfl); walk_at "tk") | (refine TK.trans ?_ (TK.same (by assumption)); walk_at "tk"))
local macro_rules | `(tactic| walk_at "fz") => `(tactic| first | assumption | exact L2.SqT.tk (by assumption) (by walk_at "tk") | exact IsRch.tk (by assumption) (by walk_at "tk") | exact IsPlt.tk (by assumption) (by walk_at "tk") | exact IsStp.tk (by assumption) (by walk_at "tk") | exact IsRow.tk (by assumption) (by walk_at "tk") | exact IsEnt.tk (by assumption) (by walk_at "tk") | exact pairS_tk (by assumption) (by walk_at "tk") | exact pairE_tk (by assumption) (by walk_at "tk"))
local macro_rules | `(tactic| walk_at "sm") => `(tactic| first | exact L2.Same.refl _ | assumption | (refine L2.Same.trans ?_ (L2.Same.new (by assumption)); walk_at "sm") | (refine L2.Same.put ?_ (by assumption); walk_at "sm") | (refine L2.Same.trans ?_ (by assumption); walk_at "sm"))
local macro_rules | `(tactic| walk_at "jk") => `(tactic| first | exact ⟨_, rfl⟩ | exact ⟨_, _, rfl, rfl⟩ | exact ⟨⟨_, rfl⟩, _, rfl⟩ | exact ⟨_, rfl, _, rfl⟩ | simp)

section
variable {P : Program} {w : World} {K : PySem.W.Frag} {mg : Str → Option Value} {base : Heap}

/-! read_number -/
theorem sc_read_number : FnScope ["text", "figures", "sign"] ["text"] (defScope s_read_number) := ⟨rfl, rfl, rfl, by decide +kernel, rfl, by decide +kernel, by decide +kernel⟩
theorem F_read_number (T : Top K mg) : Fn P w K mg base CX0 1 "read_number" ["text"] sp_read_number := by
  obtain ⟨fd, F⟩ := T.D_read_number
  obtain ⟨tF, hFIGURES⟩ := T.s_FIGURES
  refine mk_fn F T.g_read_number (fun _ _ _ _ _ _ us hl => match us, hl with | [_], _ => rfl) (F.okN sc_read_number (fun vs H Q E h => ?_) (fun cdv A outer s H vs Q E hr h => ?_))
  · obtain ⟨n, rfl, _⟩ := h
    rfl
  · obtain ⟨n, rfl, hn, q⟩ := h
    refine ⟨_, (pss_cons (ps_if (pt_not (pt_val (pe_callB call_isi (by rfl) T.f_isinstance (by decide +kernel) (pa_cons (pv 0) (pa_cons (pe_bltn (v := .ty "str") (by rfl) T.f_str (by decide +kernel) rfl) pa_nil))))) (pss_one (ps_never)) pss_nil)
      (pss_cons (ps_set (i := 1) sc_read_number.nd rfl (.inl rfl) (pv 0))
      (pss_cons (ps_if (pt_cmpR op_eq (pe_slice sl_str (pv 0) po_none (po_some pe_int)) pe_str (nomark _)) (pss_one (ps_set (i := 1) sc_read_number.nd rfl (.inl rfl) (pe_slice sl_str (pv 0) (po_some pe_int) po_none))) pss_nil)
      (pss_cons (ps_if (PW.pt (pw_or (pt_cmpR op_lt (pe_callB call_len_str (by rfl) T.f_len PySem.boot_len (pa_cons (pv 1) pa_nil)) pe_int (nomark _)) (pw_or1 (pt_cmpR op_gt (pe_callB call_len_str (by rfl) T.f_len PySem.boot_len (pa_cons (pv 1) pa_nil)) pe_int (nomark _))))) (pss_one (ps_never)) pss_nil)
      (pss_cons (ps_for PassesOwn.never rfl (pi_str (pv 1)) (pg_name (i := 2) sc_read_number.nd rfl (.inl rfl)) (pss_one (ps_if (pt_cmpR op_notIn_sign (pv 2) (pe_glob (v := .str "0123456789") (by rfl) hFIGURES ⟨_, rfl⟩) (by rfl)) (pss_one (ps_never)) pss_nil)))
      (pss_cons (ps_if (PW.pt (pw_and (pt_cmpR op_eq (pe_ix ix_str (pv 1) pe_int (fun _ _ => rfl)) pe_str (nomark _)) (pw_and1 (pt_cmpR op_ne (pv 0) pe_str (nomark _))))) (pss_one (ps_never)) pss_nil)
      (pss_one (ps_ret (pe_callTy call_int_str (by rfl) T.f_int (by decide +kernel) (pa_cons (pv 0) pa_nil)))))))))), ?_⟩
    walk_at "un"
    have len : (numS n).length ≤ sizeLine := sz (by have := numS_len hn; omega)
    refine isi (b := true) (.base (.str _)) (by decide +kernel) ?_
    walk_at "un"
    refine ⟨_, rfl, len, rfl, ?_⟩
    have ez : ("0" : Str) = ⟨#[48]⟩ := by decide +kernel
    have last : ∃ n', intText? (numS n) = some n' ∧ (numS n).length ≤ 640 ∧ Q (V.int n') H := ⟨n, numS_int hn, by have := numS_len hn; omega, q⟩
    rcases fig_of hn with ⟨hs, F⟩ | ⟨hs, F⟩
    · rw [if_pos (by rw [hs])]
      have fl := F.2.2.1
      have f1 : 0 < (cutS (numS n) (some 1) none).length := by rw [TL.len_tl]; exact List.length_pos_iff.mpr F.2.1
      refine ⟨_, rfl, len, ?_⟩
      refine ⟨_, rfl, sz (by omega), ?_⟩
      rw [if_neg (by omega)]
      refine ⟨_, rfl, sz (by omega), ?_⟩
      rw [if_neg (by omega)]
      refine ⟨_, rfl, ?_⟩
      refine lp_str (fun σ H' => H' = H ∧ ∃ y x, Fig n y ∧ σ = [some (.str (numS n)), some (.str y), x]) ⟨rfl, _, _, F, rfl⟩ ?_ ?_
      · rintro c σ H' hc ⟨rfl, y, x, F2, rfl⟩
        walk_at "un"
        refine ⟨c, rfl, ?_⟩
        rw [if_neg (by simpa using fig_signs (F.1 c hc))]
        exact ⟨y, F2, rfl, _, rfl⟩
      · rintro σ H' ⟨rfl, y, x, F2, rfl⟩
        obtain ⟨c, r, hc⟩ := List.exists_cons_of_ne_nil F2.2.1
        have h0 : y.cps.toList[0]? = some c := by rw [hc]; rfl
        have zero : (⟨#[c]⟩ : Str) = "0" → numS n = "0" := fun h => F2.2.2.2 (by rw [ez] at h; injection h with h; simp at h; rw [h0, h])
        walk_at "un"
        refine ⟨sz (by have := F2.2.2.1; omega), c, atI_nat (j := 0) h0, ?_⟩
        by_cases hz : (⟨#[c]⟩ : Str) = "0"
        · rw [if_pos hz, if_neg (by simpa using zero hz)]; exact last
        · rw [if_neg hz]; exact last
    · rw [if_neg (by simpa using hs)]
      have fl := F.2.2.1
      have f1 : 0 < (numS n).length := by rw [TL.len_tl]; exact List.length_pos_iff.mpr F.2.1
      refine ⟨len, ?_⟩
      rw [if_neg (by omega)]
      refine ⟨len, ?_⟩
      rw [if_neg (by omega)]
      refine lp_str (fun σ H' => H' = H ∧ ∃ y x, Fig n y ∧ σ = [some (.str (numS n)), some (.str y), x]) ⟨rfl, _, _, F, rfl⟩ ?_ ?_
      · rintro c σ H' hc ⟨rfl, y, x, F2, rfl⟩
        walk_at "un"
        refine ⟨c, rfl, ?_⟩
        rw [if_neg (by simpa using fig_signs (F.1 c hc))]
        exact ⟨y, F2, rfl, _, rfl⟩
      · rintro σ H' ⟨rfl, y, x, F2, rfl⟩
        obtain ⟨c, r, hc⟩ := List.exists_cons_of_ne_nil F2.2.1
        have h0 : y.cps.toList[0]? = some c := by rw [hc]; rfl
        have zero : (⟨#[c]⟩ : Str) = "0" → numS n = "0" := fun h => F2.2.2.2 (by rw [ez] at h; injection h with h; simp at h; rw [h0, h])
        walk_at "un"
        refine ⟨sz (by have := F2.2.2.1; omega), c, atI_nat (j := 0) h0, ?_⟩
        by_cases hz : (⟨#[c]⟩ : Str) = "0"
        · rw [if_pos hz, if_neg (by simpa using zero hz)]; exact last
        · rw [if_neg hz]; exact last
/-! words_of -/
theorem sc_words_of : FnScope ["text"] ["text"] (defScope s_words_of) := ⟨rfl, rfl, rfl, by decide +kernel, rfl, by decide +kernel, by decide +kernel⟩
theorem F_words_of (T : Top K mg) : Fn P w K mg base CX0 1 "words_of" ["text"] sp_words_of := by
  obtain ⟨fd, F⟩ := T.D_words_of
  refine mk_fn F T.g_words_of (fun _ _ _ _ _ _ us hl => match us, hl with | [_], _ => rfl) (F.okN sc_words_of (fun vs H Q E h => ?_) (fun cdv A outer s H vs Q E hr h => ?_))
  · obtain ⟨ws, rfl, _⟩ := h
    rfl
  · obtain ⟨ws, rfl, hw, q⟩ := h
    refine ⟨_, (pss_cons (ps_if (pt_not (pt_val (pe_callB call_isi (by rfl) T.f_isinstance (by decide +kernel) (pa_cons (pv 0) (pa_cons (pe_bltn (v := .ty "str") (by rfl) T.f_str (by decide +kernel) rfl) pa_nil))))) (pss_one (ps_never)) pss_nil)
      (pss_one (ps_ret (pe_split (pv 0) pe_str)))), ?_⟩
    walk_at "un"
    refine isi (b := true) (.base (.str _)) (by decide +kernel) ?_
    walk_at "un"
    refine ⟨⟨_, rfl⟩, by decide +kernel, jn_len hw, ?_⟩
    rw [show Txt.split (jn ws) (Str.ofString " ") = ws from jn_split hw]
    exact fun p np => q p _ np (L2.Same.new np) upd_same
/-! word_at -/
theorem sc_word_at : FnScope ["words", "at"] ["words", "at"] (defScope s_word_at) := ⟨rfl, rfl, rfl, by decide +kernel, rfl, by decide +kernel, by decide +kernel⟩
theorem F_word_at (T : Top K mg) : Fn P w K mg base CX0 1 "word_at" ["words", "at"] sp_word_at := by
  obtain ⟨fd, F⟩ := T.D_word_at
  refine mk_fn F T.g_word_at (fun _ _ _ _ _ _ us hl => match us, hl with | [_, _], _ => rfl) (F.okN sc_word_at (fun vs H Q E h => ?_) (fun cdv A outer s H vs Q E hr h => ?_))
  · obtain ⟨v, ws, x, k, rfl, _⟩ := h
    rfl
  · obtain ⟨v, ws, x, k, rfl, ⟨a, rfl, h1, h2⟩, hk, q⟩ := h
    refine ⟨_, (pss_cons (ps_if (pt_cmpR op_ge (pv 1) (pe_callB call_len_seq (by rfl) T.f_len PySem.boot_len (pa_cons (pv 0) pa_nil)) (nomark _)) (pss_one (ps_never)) pss_nil)
      (pss_one (ps_ret (pe_ix ix_list (pv 0) (pv 1) (fun _ _ => rfl))))), ?_⟩
    walk_at "un"
    have hlt : k < ws.length := (List.getElem?_eq_some_iff.mp hk).1
    refine ⟨_, .inl (SqL.of h1), ?_⟩
    rw [if_neg (by simp; omega)]
    exact ⟨_, SqL.of h1, .str x, atI_nat (by simp [hk]), q⟩
/-! number_at -/
theorem sc_number_at : FnScope ["words", "at"] ["words", "at"] (defScope s_number_at) := ⟨rfl, rfl, rfl, by decide +kernel, rfl, by decide +kernel, by decide +kernel⟩
theorem F_number_at (T : Top K mg) (G_read_number : Fn P w K mg base CX0 1 "read_number" ["text"] sp_read_number) (G_word_at : Fn P w K mg base CX0 1 "word_at" ["words", "at"] sp_word_at) : Fn P w K mg base CX0 2 "number_at" ["words", "at"] sp_number_at := by
  obtain ⟨fd, F⟩ := T.D_number_at
  refine mk_fn F T.g_number_at (fun _ _ _ _ _ _ us hl => match us, hl with | [_, _], _ => rfl) (F.okN sc_number_at (fun vs H Q E h => ?_) (fun cdv A outer s H vs Q E hr h => ?_))
  · obtain ⟨v, ws, x, k, rfl, _⟩ := h
    rfl
  · obtain ⟨v, ws, n, k, rfl, hws, hk, hn, q⟩ := h
    refine ⟨_, (pss_one (ps_ret (pe_fn G_read_number (hr.mono (by decide)) (by rfl) pass0 (pa_cons (pe_fn G_word_at (hr.mono (by decide)) (by rfl) pass0 (pa_cons (pv 0) (pa_cons (pv 1) pa_nil))) pa_nil)))), ?_⟩
    walk_at "un"
    exact ⟨v, ws, numS n, k, rfl, hws, hk, n, rfl, hn, q⟩
/-! name_at -/
theorem sc_name_at : FnScope ["words", "at", "word", "sign"] ["words", "at"] (defScope s_name_at) := ⟨rfl, rfl, rfl, by decide +kernel, rfl, by decide +kernel, by decide +kernel⟩
theorem F_name_at (T : Top K mg) (G_word_at : Fn P w K mg base CX0 1 "word_at" ["words", "at"] sp_word_at) : Fn P w K mg base CX0 2 "name_at" ["words", "at"] sp_name_at := by
  obtain ⟨fd, F⟩ := T.D_name_at
  obtain ⟨tL, hLETTERS⟩ := T.s_LETTERS
  refine mk_fn F T.g_name_at (fun _ _ _ _ _ _ us hl => match us, hl with | [_, _], _ => rfl) (F.okN sc_name_at (fun vs H Q E h => ?_) (fun cdv A outer s H vs Q E hr h => ?_))
  · obtain ⟨v, ws, x, k, rfl, _⟩ := h
    rfl
  · obtain ⟨v, ws, x, k, rfl, hws, hk, nm, q⟩ := h
    refine ⟨_, (pss_cons (ps_set (i := 2) sc_name_at.nd rfl (.inl rfl) (pe_fn G_word_at (hr.mono (by decide)) (by rfl) pass0 (pa_cons (pv 0) (pa_cons (pv 1) pa_nil))))
      (pss_cons (ps_if (PW.pt (pw_or (pt_cmpR op_lt (pe_callB call_len_str (by rfl) T.f_len PySem.boot_len (pa_cons (pv 2) pa_nil)) pe_int (nomark _)) (pw_or1 (pt_cmpR op_gt (pe_callB call_len_str (by rfl) T.f_len PySem.boot_len (pa_cons (pv 2) pa_nil)) pe_int (nomark _))))) (pss_one (ps_never)) pss_nil)
      (pss_cons (ps_for PassesOwn.never rfl (pi_str (pv 2)) (pg_name (i := 3) sc_name_at.nd rfl (.inl rfl)) (pss_one (ps_if (pt_cmpR op_notIn_sign (pv 3) (pe_glob (v := .str "abcdefghijklmnopqrstuvwxyz") (by rfl) hLETTERS ⟨_, rfl⟩) (by rfl)) (pss_one (ps_never)) pss_nil)))
      (pss_one (ps_ret (pv 2)))))), ?_⟩
    walk_at "un"
    refine ⟨v, ws, x, k, rfl, hws, hk, ?_⟩
    have l1 := nm.1
    have l2 := nm.2.1
    refine ⟨x, rfl, sz (by omega), ?_⟩
    rw [if_neg (by omega)]
    refine ⟨x, rfl, sz (by omega), ?_⟩
    rw [if_neg (by omega)]
    refine ⟨x, rfl, ?_⟩
    refine lp_str (fun σ H' => H' = H ∧ ∃ y, σ = [some v, some (.int (k : Int)), some (.str x), y]) ⟨rfl, _, rfl⟩ ?_ ?_
    · rintro c σ H' hc ⟨rfl, y, rfl⟩
      walk_at "un"
      refine ⟨c, rfl, ?_⟩
      rw [if_neg (by simpa using small_signs (nm.2.2 c hc))]
      exact ⟨_, rfl⟩
    · rintro σ H' ⟨rfl, y, rfl⟩
      walk_at "un"
      exact q
theorem paired_strs : ∀ ns : List Int, Paired (fun (v : V) n => v = .str (numS n)) ((ns.map numS).map V.str) ns
  | [] => .nil
  | e :: es => .cons rfl (paired_strs es)
/-! so_many_at -/
theorem sc_so_many_at : FnScope ["words", "at", "many", "word"] ["words", "at", "many"] (defScope s_so_many_at) := ⟨rfl, rfl, rfl, by decide +kernel, rfl, by decide +kernel, by decide +kernel⟩
theorem F_so_many_at (T : Top K mg) (G_read_number : Fn P w K mg base CX0 1 "read_number" ["text"] sp_read_number) : Fn P w K mg base CX0 2 "so_many_at" ["words", "at", "many"] sp_so_many_at := by
  obtain ⟨fd, F⟩ := T.D_so_many_at
  refine mk_fn F T.g_so_many_at (fun _ _ _ _ _ _ us hl => match us, hl with | [_, _, _], _ => rfl) (F.okN sc_so_many_at (fun vs H Q E h => ?_) (fun cdv A outer s H vs Q E hr h => ?_))
  · obtain ⟨v, ws, x, k, rfl, _⟩ := h
    rfl
  · obtain ⟨v, ws, ns, k, rfl, ⟨a, rfl, h1, h2⟩, ⟨r, hr2⟩, hk, hns, q⟩ := h
    refine ⟨_, (pss_cons (ps_if (PW.pt (pw_or (pt_cmpR op_lt (pv 2) pe_int (nomark _)) (pw_or1 (pt_cmpR op_gt (pe_op op_add (pv 1) (pv 2)) (pe_callB call_len_seq (by rfl) T.f_len PySem.boot_len (pa_cons (pv 0) pa_nil)) (nomark _))))) (pss_one (ps_never)) pss_nil)
      (pss_one (ps_ret (pe_callTy call_tuple_of (by rfl) T.f_tuple (by decide +kernel) (pa_cons (pe_lc (own := [("word", 3)]) (g := gName 3) (tt := tYes) rfl sc_so_many_at.nd (pi_list (pe_slice sl_list (pv 0) (po_some (pv 1)) (po_some (pe_op op_add (pv 1) (pv 2))))) (blkOk_by (own := [("word", 3)]) (N := ["words", "at", "many", "word"]) (sc := defScope s_so_many_at) (by decide +kernel)) (fun _ _ _ _ _ => (pg_name (i := 3) sc_so_many_at.nd rfl (.inl rfl))) (fun _ _ _ _ _ => pts_nil) (fun _ _ _ _ _ => (pe_fn G_read_number (hr.mono (by decide)) (by rfl) pass0 (pa_cons (pv 3) pa_nil)))) pa_nil))))), ?_⟩
    walk_at "un"
    rw [if_neg (by omega)]
    have dl : ns.length + r.length = ws.length - k := by have := congrArg List.length hr2; simp at this; omega
    refine ⟨_, .inl (SqL.of h1), ?_⟩
    rw [if_neg (by simp; omega)]
    refine slL h1 fun c H1 nc s1 e1 => ?_
    have hcut : cutV (ws.map V.str) (some (k : Int)) (some ((k : Int) + (ns.length : Int))) = (ns.map numS).map V.str := by
      have e : (k : Int) + (ns.length : Int) = ((k + ns.length : Nat) : Int) := rfl
      rw [e]
      unfold cutV
      rw [HT.sIx_nat, HT.sIx_nat, List.length_map, Nat.min_eq_left hk, Nat.min_eq_left (by omega), ← List.map_drop, hr2, Nat.add_sub_cancel_left, List.map_append, List.take_left' (by simp)]
    rw [hcut] at e1
    refine ⟨_, rfl, ⟨_, SqL.of e1⟩, fun D nD => ?_⟩
    refine lcw_list (paired_strs ns) (fun d r acc H' => Same H1 H' ∧ H' D = some (.lst (d.map V.int))) ⟨L2.Same.new nD, upd_same⟩ (fun d r acc H' z => SqL.of (z.1 _ _ e1)) ?_ ?_
    · rintro d v y r acc H' e rfl ⟨f1, f2⟩
      have dl : ns.length = d.length + (r.length + 1) := by rw [e]; simp
      walk_at "un"
      refine ⟨y, rfl, hns y (by rw [e]; simp), _, f2, szl (by simp; omega), L2.Same.put f1 nD, ?_⟩
      rw [upd_same]
      simp
    · rintro acc H' ⟨f1, f2⟩
      refine ⟨_, rfl, _, .inl ⟨SqL.of f2, fun l nl => ?_⟩⟩
      exact q l _ ((s1.trans f1).none nl) ((s1.trans f1).trans (L2.Same.new nl)) upd_same
/-! reach_from -/
theorem sc_reach_from : FnScope ["words", "at", "first", "many"] ["words", "at"] (defScope s_reach_from) := ⟨rfl, rfl, rfl, by decide +kernel, rfl, by decide +kernel, by decide +kernel⟩
theorem F_reach_from (T : Top K mg) (G_word_at : Fn P w K mg base CX0 1 "word_at" ["words", "at"] sp_word_at) (G_number_at : Fn P w K mg base CX0 2 "number_at" ["words", "at"] sp_number_at) (G_so_many_at : Fn P w K mg base CX0 2 "so_many_at" ["words", "at", "many"] sp_so_many_at) : Fn P w K mg base CX0 3 "reach_from" ["words", "at"] (sp_reach_from K) := by
  obtain ⟨fd, F⟩ := T.D_reach_from
  refine mk_fn F T.g_reach_from (fun _ _ _ _ _ _ us hl => match us, hl with | [_, _], _ => rfl) (F.okN sc_reach_from (fun vs H Q E h => ?_) (fun cdv A outer s H vs Q E hr h => ?_))
  · obtain ⟨v, ws, r, m, k, rfl, _⟩ := h
    rfl
  · obtain ⟨v, ws, ⟨b, es⟩, m, k, rfl, hws, ⟨s0, hd⟩, gr, hm, q⟩ := h
    refine ⟨_, (pss_cons (ps_set (i := 2) sc_reach_from.nd rfl (.inl rfl) (pe_fn G_word_at (hr.mono (by decide)) (by rfl) pass0 (pa_cons (pv 0) (pa_cons (pv 1) pa_nil))))
      (pss_cons (ps_if (pt_cmpR op_notIn_seq (pv 2) (pe_tup (pa_cons pe_str (pa_cons pe_str pa_nil))) (by rfl)) (pss_one (ps_never)) pss_nil)
      (pss_cons (ps_set (i := 3) sc_reach_from.nd rfl (.inl rfl) (pe_fn G_number_at (hr.mono (by decide)) (by rfl) pass0 (pa_cons (pv 0) (pa_cons (pe_op op_add (pv 1) pe_int) pa_nil))))
      (pss_one (ps_ret (pe_tup (pa_cons (pe_tup (pa_cons (pe_cmpR op_eq (pv 2) pe_str (nomark _)) (pa_cons (pe_fn G_so_many_at (hr.mono (by decide)) (by rfl) pass0 (pa_cons (pv 0) (pa_cons (pe_op op_add (pv 1) pe_int) (pa_cons (pv 3) pa_nil)))) pa_nil))) (pa_cons (pe_op op_add (pe_op op_add (pv 1) pe_int) (pv 3)) pa_nil)))))))), ?_⟩
    walk_at "un"
    have h1 := drop_at (x := if b then ("in" : Str) else "out") (r := numS es.length :: (es.map numS ++ s0)) (by rw [hd]; rfl)
    have h2 := drop_at h1.2
    have el : es.length ≤ 2 * m := gr.2.2
    obtain ⟨wa, rfl, w1, w2⟩ := hws
    refine ⟨_, ws, _, k, rfl, ⟨wa, rfl, w1, w2⟩, h1.1, sz (by decide), fun p np => ?_⟩
    obtain ⟨H1, hE1, s1, e1⟩ := fr np (.tup [V.str "in", V.str "out"])
    simp only [hE1]
    refine ⟨p, _, rfl, .inr (SqT.of e1), rfl, rfl, false, by cases b <;> decide +kernel, ?_⟩
    rw [if_neg (by decide)]
    refine ⟨_, ws, _, k + 1, rfl, ⟨wa, rfl, s1 _ _ w1, w2⟩, h2.1, sm_small (by omega) (by omega), ?_⟩
    refine ⟨by first | rfl | trivial, ?_⟩
    refine ⟨_, ws, es, k + 2, rfl, ⟨wa, rfl, s1 _ _ w1, w2⟩, ⟨s0, h2.2⟩, ?_, gr.2.1, fun a H2 na s2 e2 => ⟨sz (by decide), fun c nc => ⟨_, rfl, sz (by decide), fun c2 nc2 => ?_⟩⟩⟩
    · have := (List.getElem?_eq_some_iff.mp h2.1).1
      omega
    · have hbd : decide (V.str (if b then ("in" : Str) else "out") = V.str "in") = b := by cases b <;> decide +kernel
      rw [hbd] at nc2 ⊢
      obtain ⟨H3, hE3, s3, e3⟩ := fr nc (.tup [V.bl b, V.ref a])
      simp only [hE3] at nc2 ⊢
      have s4 := L2.Same.new (o := .tup [V.ref c, V.int ((k : Int) + 2 + (es.length : Int))]) nc2
      refine q c2 (.ref c) _ (s1.trans (s2.trans (s3.trans s4))) (SqT.of ?_) ⟨c, a, rfl, SqT.of (s4 _ _ e3), SqT.of ((s3.trans s4) _ _ e2)⟩
      rw [upd_same]
      have : (k : Int) + 2 + (es.length : Int) = ((k + (reachWs (b, es)).length : Nat) : Int) := by simp [reachWs]; omega
      rw [this]
/-! plot_from -/
theorem len_steps : ∀ ss : List Stp, ss.length ≤ (ss.flatMap stepWs).length
  | [] => Nat.zero_le _
  | s :: ss => by
    have := len_steps ss
    have e : (stepWs s).length = 1 + (reachWs s.2).length := by simp [stepWs]; omega
    rw [List.flatMap_cons, List.length_append, List.length_cons]
    omega
theorem sc_plot_from : FnScope ["words", "at", "ground", "many", "steps", "k", "turn", "reach"] ["words", "at"] (defScope s_plot_from) := ⟨rfl, rfl, rfl, by decide +kernel, rfl, by decide +kernel, by decide +kernel⟩
theorem F_plot_from (T : Top K mg) (G_number_at : Fn P w K mg base CX0 2 "number_at" ["words", "at"] sp_number_at) (G_reach_from : Fn P w K mg base CX0 3 "reach_from" ["words", "at"] (sp_reach_from K)) : Fn P w K mg base CX0 4 "plot_from" ["words", "at"] (sp_plot_from K) := by
  obtain ⟨fd, F⟩ := T.D_plot_from
  refine mk_fn F T.g_plot_from (fun _ _ _ _ _ _ us hl => match us, hl with | [_, _], _ => rfl) (F.okN sc_plot_from (fun vs H Q E h => ?_) (fun cdv A outer s H vs Q E hr h => ?_))
  · obtain ⟨v, ws, p, m, t, k, rfl, _⟩ := h
    rfl
  · obtain ⟨v, ws, ⟨g, ss⟩, m, t, k, rfl, hws, ⟨s0, hd⟩, gp, hm, ht, q⟩ := h
    refine ⟨_, (pss_cons (ps_asg (pe_fn G_reach_from (hr.mono (by decide)) (by rfl) pass0 (pa_cons (pv 0) (pa_cons (pv 1) pa_nil))) (pg_tup (n := 2) rfl (pgs_cons (pg_name (i := 2) sc_plot_from.nd rfl (.inl rfl)) (pgs_cons (pg_name (i := 1) sc_plot_from.nd rfl (.inl rfl)) pgs_nil))))
      (pss_cons (ps_set (i := 3) sc_plot_from.nd rfl (.inl rfl) (pe_fn G_number_at (hr.mono (by decide)) (by rfl) pass0 (pa_cons (pv 0) (pa_cons (pv 1) pa_nil))))
      (pss_cons (ps_set (i := 1) sc_plot_from.nd rfl (.inl rfl) (pe_op op_add (pv 1) pe_int))
      (pss_cons (ps_if (PW.pt (pw_or (pt_cmpR op_lt (pv 3) pe_int (nomark _)) (pw_or1 (pt_cmpR op_gt (pv 3) (pe_callB call_len_seq (by rfl) T.f_len PySem.boot_len (pa_cons (pv 0) pa_nil)) (nomark _))))) (pss_one (ps_never)) pss_nil)
      (pss_cons (ps_set (i := 4) sc_plot_from.nd rfl (.inl rfl) (pe_lst pa_nil))
      (pss_cons (ps_for PassesOwn.never rfl (pi_range1 (by rfl) T.f_range (pa_cons (pv 3) pa_nil)) (pg_name (i := 5) sc_plot_from.nd rfl (.inl rfl)) (pss_cons (ps_set (i := 6) sc_plot_from.nd rfl (.inl rfl) (pe_fn G_number_at (hr.mono (by decide)) (by rfl) pass0 (pa_cons (pv 0) (pa_cons (pv 1) pa_nil))))
      (pss_cons (ps_asg (pe_fn G_reach_from (hr.mono (by decide)) (by rfl) pass0 (pa_cons (pv 0) (pa_cons (pe_op op_add (pv 1) pe_int) pa_nil))) (pg_tup (n := 2) rfl (pgs_cons (pg_name (i := 7) sc_plot_from.nd rfl (.inl rfl)) (pgs_cons (pg_name (i := 1) sc_plot_from.nd rfl (.inl rfl)) pgs_nil))))
      (pss_one (ps_expr (pe_bm PySem.F.plainAttrs_list PySem.F.slot_list_append PySem.F.type_list_append mt_append (pv 4) (pa_cons (pe_tup (pa_cons (pv 6) (pa_cons (pv 7) pa_nil))) pa_nil)))))))
      (pss_one (ps_ret (pe_tup (pa_cons (pe_tup (pa_cons (pv 2) (pa_cons (pe_callTy call_tuple_of (by rfl) T.f_tuple (by decide +kernel) (pa_cons (pv 4) pa_nil)) pa_nil))) (pa_cons (pv 1) pa_nil))))))))))), ?_⟩
    walk_at "un"
    have el := gp.n
    have h0 : ws.drop k = reachWs g ++ (numS ss.length :: (ss.flatMap stepWs ++ s0)) := by rw [hd]; simp [plotWs]
    have h1 := drop_at (drop_app h0)
    have hlt := (List.getElem?_eq_some_iff.mp h1.1).1
    obtain ⟨wa, rfl, w1, w2⟩ := hws
    refine ⟨_, ws, g, m, k, rfl, ⟨wa, rfl, w1, w2⟩, ⟨_, h0⟩, gp.g, by omega, fun a gu H1 s1 hq hg => ?_⟩
    refine ⟨_, rfl, _, hq, rfl, _, _, rfl, _, _, rfl, rfl, ?_⟩
    have wsl : ss.length ≤ ws.length := by
      have e := congrArg List.length h1.2
      have : ss.length ≤ (ss.flatMap stepWs).length := len_steps ss
      rw [List.length_drop, List.length_append] at e
      omega
    refine ⟨_, ws, (ss.length : Int), k + (reachWs g).length, rfl, ⟨wa, rfl, s1 _ _ w1, w2⟩, h1.1, sm_small (by omega) (by omega), _, rfl, _, rfl, ?_⟩
    rw [if_neg (by omega)]
    refine ⟨_, rfl, _, .inl (SqL.of (s1 _ _ w1)), _, rfl, ?_⟩
    rw [if_neg (by simp; omega)]
    refine ⟨Nat.zero_le _, fun p np => ⟨_, rfl, by omega, by omega, ?_⟩⟩
    obtain ⟨H2, hE2, s2, e2⟩ := fr np (.lst [])
    simp only [hE2]
    have S2 := s1.trans s2
    have npH := s1.none np
    obtain ⟨I, hI⟩ : ∃ I : Nat → L2.St → Hp → Prop, I = fun i σ H' => Same H1 H' ∧ ∃ (pos : Nat) (outv : List V) (x y z : Option V), ws.drop pos = (ss.drop i).flatMap stepWs ++ s0 ∧ pos + ((ss.drop i).flatMap stepWs).length = k + (plotWs (g, ss)).length ∧ H' p = some (.lst outv) ∧ Paired (IsStp K H') outv (ss.take i) ∧ σ = [some (V.ref wa), some (V.int (pos : Int)), some gu, some (V.int (ss.length : Int)), some (V.ref p), x, y, z] := ⟨_, rfl⟩
    refine lp_rng rfl I (by
      rw [hI]
      refine ⟨s2, k + (reachWs g).length + 1, [], _, _, _, h1.2, ?_, e2, .nil, rfl⟩
      simp [plotWs, -List.length_flatMap]
      omega) ?_ ?_
    · intro i σ H' hi z
      rw [hI] at z
      obtain ⟨f1, pos, outv, x0, y0, z0, f2, f3, f4, f5, rfl⟩ := z
      have hs : ss.drop i = ss[i] :: ss.drop (i + 1) := List.drop_eq_getElem_cons hi
      have ht2 : ss.take (i + 1) = ss.take i ++ [ss[i]] := by rw [List.take_add_one, List.getElem?_eq_getElem hi]; rfl
      have gs := gp.s ss[i] (List.getElem_mem hi)
      rw [hs, List.flatMap_cons] at f2 f3
      have k1 := drop_at (x := numS ss[i].1) (r := reachWs ss[i].2 ++ ((ss.drop (i + 1)).flatMap stepWs ++ s0)) (by rw [f2]; simp [stepWs])
      have S1 := s1.trans f1
      have vl : outv.length = i := by have := Paired.length f5; rw [List.length_take] at this; omega
      walk_at "un"
      refine ⟨_, ws, ss[i].1, pos, rfl, ⟨wa, rfl, S1 _ _ w1, w2⟩, k1.1, sm_turn ht gs.2.1 gs.2.2, ?_⟩
      refine ⟨_, ws, ss[i].2, m, pos + 1, rfl, ⟨wa, rfl, S1 _ _ w1, w2⟩, ⟨_, k1.2⟩, gs.1, by omega, fun b2 ru H3 s3 hq2 hr => ?_⟩
      refine ⟨_, rfl, _, hq2, rfl, _, _, rfl, _, _, rfl, rfl, tyL (s3 _ _ f4), sz (by decide), fun c nc => ?_⟩
      have sc := L2.Same.new (o := .tup [V.int ss[i].1, ru]) nc
      have tk := (TK.same sc).trans (TK.put (o := .lst (outv ++ [.ref c])) (sc _ _ (s3 _ _ f4)) rfl)
      refine app1 (sc _ _ (s3 _ _ f4)) (szl (by omega)) ?_
      rw [hI]
      refine ⟨L2.Same.put (f1.trans (s3.trans sc)) np, pos + 1 + (reachWs ss[i].2).length, _, _, _, _, drop_app k1.2, ?_, upd_same, ?_, rfl⟩
      · have e : (stepWs ss[i]).length = 1 + (reachWs ss[i].2).length := by simp [stepWs]; omega
        rw [List.length_append, e] at f3
        omega
      · rw [ht2]
        exact paired_snoc (pairS_tk f5 ((TK.same s3).trans tk)) ⟨c, ru, rfl, SqT.of (get_put upd_same (sc _ _ (s3 _ _ f4)) (fun z => nomatch z)), hr.tk tk⟩
    · intro σ H' z
      rw [hI] at z
      obtain ⟨f1, pos, outv, x0, y0, z0, f2, f3, f4, f5, rfl⟩ := z
      rw [List.drop_length] at f3
      rw [List.take_length] at f5
      walk_at "un"
      refine ⟨_, .inl ⟨SqL.of f4, fun b2 nb => ⟨sz (by decide), fun b3 nb3 => ⟨sz (by decide), fun b4 nb4 => ?_⟩⟩⟩⟩
      obtain ⟨H3, hE3, s3, e3⟩ := fr nb (.tup outv)
      simp only [hE3] at nb3 nb4 ⊢
      obtain ⟨H4, hE4, s4, e4⟩ := fr nb3 (.tup [gu, V.ref b2])
      simp only [hE4] at nb4 ⊢
      have s5 := L2.Same.new (o := .tup [V.ref b3, V.int (pos : Int)]) nb4
      have S := s3.trans (s4.trans s5)
      refine q b4 (.ref b3) _ (s1.trans (f1.trans S)) (SqT.of ?_) ⟨b3, gu, b2, outv, rfl, SqT.of (s5 _ _ e4), hg.tk (TK.same (f1.trans S)), SqT.of ((s4.trans s5) _ _ e3), pairS_tk f5 (TK.same S)⟩
      rw [upd_same, ← f3]
      simp
end
end HW
set_option Elab.async false
set_option linter.all false
set_option maxRecDepth 100000
set_option maxHeartbeats 4000000
namespace HW
open PySem PySem.Spec PyProof.Rows L2
local macro_rules | `(tactic| walk_at "un") => `(tactic| simp only [cxOf, tSeq, tNext, tIfS, tTest, tOp, tUn, tVar, tC, tRet, tRetN, tNever, tAsg, gName, gNil, gCons, gTup, eq_self, rListOf, Option.isSome_none, Option.isSome_some, gSub, tDrop, tCB, tCall, tCons, tNil, tTup, tLst, tB, tAnd, tOr, tNot, tAndV, tOrV, tNotV, tNoPart, tPart, tSl, tSl3, tBM, tM1, tDNewK, tDNewT, tDGet, tDIn, tDNotIn, sDPut, tYes, tFld, sFld, tMeth, tMake,
  for_L, for_T, for_R, for_S, lc_L, lc_T, lc_R, wipe, rI0, rU, rEq, rNe, rIxT, rIxL, rIxS, L2.start, List.map_cons, List.map_nil, List.length_cons, List.length_nil, Nat.reduceAdd, Nat.reduceSub, List.replicate_succ, List.replicate_zero, List.cons_append, List.nil_append, List.append_nil,
  List.getElem?_cons_zero, List.getElem?_cons_succ, List.set_cons_zero, List.set_cons_succ, Option.some.injEq, V.int.injEq, V.bl.injEq, V.str.injEq, V.ref.injEq, V.ty.injEq, List.cons.injEq, and_true, true_and, exists_eq_left, exists_eq_left', exists_and_left, exists_eq, scal, decide_eq_true_eq, reduceCtorEq, decide_false, decide_true, Bool.not_true, Bool.not_false, if_true, if_false, Bool.false_eq_true, ite_true, ite_false, Bool.not_eq_true', decide_eq_false_iff_not])
local macro_rules | `(tactic| walk_at "tk") => `(tactic| first | exact TK.refl _ | assumption | exact TK.same (by assumption) | (refine TK.trans ?_ (TK.new (by assumption)); walk_at "tk") | (refine TK.trans ?_ (TK.put (by assumption) rfl); walk_at "tk") | (refine TK.trans ?_ (TK.same (by assumption)); walk_at "tk"))
local macro_rules | `(tactic| walk_at "fz") => `(tactic| first | assumption | exact L2.SqT.tk (by assumption) (by walk_at "tk") | exact IsRch.tk (by assumption) (by walk_at "tk") | exact IsPlt.tk (by assumption) (by walk_at "tk") | exact IsStp.tk (by assumption) (by walk_at "tk") | exact IsRow.tk (by assumption) (by walk_at "tk") | exact IsEnt.tk (by assumption) (by walk_at "tk") | exact pairS_tk (by assumption) (by walk_at "tk") | exact pairE_tk (by assumption) (by walk_at "tk"))
local macro_rules | `(tactic| walk_at "sm") => `(tactic| first | exact L2.Same.refl _ | assumption | (refine L2.Same.trans ?_ (L2.Same.new (by assumption)); walk_at "sm") | (refine L2.Same.put ?_ (by assumption); walk_at "sm") | (refine L2.Same.trans ?_ (by assumption); walk_at "sm"))
local macro_rules | `(tactic| walk_at "jk") => `(tactic| first | exact ⟨_, rfl⟩ | exact ⟨_, _, rfl, rfl⟩ | exact ⟨⟨_, rfl⟩, _, rfl⟩ | exact ⟨_, rfl, _, rfl⟩ | simp)

section
variable {P : Program} {w : World} {K : PySem.W.Frag} {mg : Str → Option Value} {base : Heap}

/-! numbers_in -/
theorem sc_numbers_in : FnScope ["text", "first", "many", "words", "numbers"] ["text", "first", "many"] (defScope s_numbers_in) := ⟨rfl, rfl, rfl, by decide +kernel, rfl, by decide +kernel, by decide +kernel⟩
theorem F_numbers_in (T : Top K mg) (G_words_of : Fn P w K mg base CX0 1 "words_of" ["text"] sp_words_of) (G_so_many_at : Fn P w K mg base CX0 2 "so_many_at" ["words", "at", "many"] sp_so_many_at) : Fn P w K mg base (L2.CX P w) 3 "numbers_in" ["text", "first", "many"] (sp_numbers_in K) := by
  obtain ⟨fd, F⟩ := T.D_numbers_in
  refine mk_fn F T.g_numbers_in (fun _ _ _ _ _ _ us hl => match us, hl with | [_, _, _], _ => rfl) (F.ok sc_numbers_in (fun vs H Q E h => ?_) (fun cdv A outer s H vs Q E hr h => ?_))
  · obtain ⟨f, x, ns, k, rfl, _⟩ := h
    rfl
  · obtain ⟨f, x, ns, k, rfl, hw, h⟩ := h
    refine ⟨_, (pss_cons (ps_set (i := 3) sc_numbers_in.nd rfl (.inl rfl) (pe_fn G_words_of (hr.mono (by decide)) (by rfl) pass0 (pa_cons (pv 0) pa_nil)))
      (pss_cons (ps_if (PW.pt (pw_or (pt_cmpR op_ne (pe_callB call_len_seq (by rfl) T.f_len PySem.boot_len (pa_cons (pv 3) pa_nil)) (pe_op op_add (pv 2) pe_int) (nomark _)) (pw_or (pt_cmpR op_ne (pe_ix ix_list (pv 3) pe_int (fun _ _ => rfl)) (pv 1) (nomark _)) (pw_or1 (pt_cmpR op_ne (pe_ix ix_list (pv 3) (pe_un un_neg pe_int) (fun _ _ => rfl)) pe_str (nomark _)))))) (pss_one (ps_raise rfl (takes_of rfl rfl rfl rfl) (pmk_own PySem.F.excBase_ValueError T.exc_NoText.1 T.g_NoText T.exc_NoText.2.1 (raises_own T.exc_NoText.2.2.1 T.exc_NoText.2.2.2) (by exact rfl)))) pss_nil)
      (pss_cons (ps_set (i := 4) sc_numbers_in.nd rfl (.inl rfl) (pe_fn G_so_many_at (hr.mono (by decide)) (by rfl) pass0 (pa_cons (pv 3) (pa_cons pe_int (pa_cons (pv 2) pa_nil)))))
      (pss_cons (ps_if (pt_cmpR op_lt (pe_callB (cr_minT rfl (hu_of hr)) (by rfl) T.f_min (by decide +kernel) (pa_cons (pv 4) pa_nil)) pe_int (nomark _)) (pss_one (ps_raise rfl (takes_of rfl rfl rfl rfl) (pmk_own PySem.F.excBase_ValueError T.exc_NoText.1 T.g_NoText T.exc_NoText.2.1 (raises_own T.exc_NoText.2.2.1 T.exc_NoText.2.2.2) (by exact rfl)))) pss_nil)
      (pss_one (ps_ret (pv 4))))))), ?_⟩
    walk_at "un"
    obtain ⟨y, z, hy, hz, ay, az⟩ := ends_of hw.1
    have hB : ¬ (f.length = k + 2 ∧ y = x ∧ z = dot) → noText K H E := by
      intro hn
      rcases h with ⟨rfl, hl, _⟩ | ⟨_, e⟩
      · refine absurd ⟨by simp; omega, ?_, ?_⟩ hn
        · simpa using hy.symm
        · rw [show x :: (ns.map numS ++ [dot]) = (x :: ns.map numS) ++ [dot] by simp, List.getLast?_append] at hz
          simpa using hz.symm
      · exact e
    have hA : f.length = k + 2 → y = x → z = dot → f = x :: (List.map numS ns ++ [dot]) ∧ List.length ns = k ∧ 1 ≤ k ∧ (∀ n ∈ ns, Sm n ∧ 0 ≤ n) ∧ NumsQ H Q ns := by
      intro h1 h2 h3
      rcases h with h | ⟨hb, _⟩
      · exact h
      · rcases hb with hb | hb | hb
        · exact absurd h1 hb
        · exact absurd (by rw [hy, h2]) hb
        · exact absurd (by rw [hz, h3]) hb
    refine ⟨f, rfl, hw, fun a H1 na s1 e1 => ⟨_, rfl, _, .inl (SqL.of e1), ?_⟩⟩
    by_cases c1 : f.length = k + 2
    · rw [if_neg (by simp [c1])]
      refine ⟨_, rfl, _, SqL.of e1, _, ay, by first | rfl | trivial, ?_⟩
      by_cases c2 : y = x
      · rw [if_neg (by simp [c2])]
        refine ⟨_, rfl, _, SqL.of e1, _, az, by first | rfl | trivial, ?_⟩
        by_cases c3 : z = dot
        · rw [if_neg (by simp [c3, dot])]
          obtain ⟨hf, hl, hk, hn, q⟩ := hA c1 c2 c3
          refine ⟨_, f, ns, 1, by rw [hl]; rfl, ⟨a, rfl, e1, hw.2.2⟩, ⟨[dot], by rw [hf]; rfl⟩, by omega, (fun n h => (hn n h).1), fun b H2 nb s2 e2 => ?_⟩
          refine ⟨b, ns, rfl, SqT.of e2, by omega, fun m hm => ?_⟩
          refine ⟨m, rfl, ?_⟩
          rw [if_neg (by have := (hn m hm).2; omega)]
          exact q b H2 (s1.none nb) (s1.trans s2) e2
        · rw [if_pos (by simpa [dot] using c3)]
          exact hB (fun h => c3 h.2.2) _ s1
      · rw [if_pos (by simpa using c2)]
        exact hB (fun h => c2 h.2.1) _ s1
    · rw [if_pos (by simp; omega)]
      exact hB (fun h => c1 h.1) _ s1
/-! read_first -/
theorem sc_read_first : FnScope ["text"] ["text"] (defScope s_read_first) := ⟨rfl, rfl, rfl, by decide +kernel, rfl, by decide +kernel, by decide +kernel⟩
theorem F_read_first (T : Top K mg) (G_numbers_in : Fn P w K mg base (L2.CX P w) 3 "numbers_in" ["text", "first", "many"] (sp_numbers_in K)) : Fn P w K mg base (L2.CX P w) 4 "read_first" ["text"] (sp_read_first K) := by
  obtain ⟨fd, F⟩ := T.D_read_first
  refine mk_fn F T.g_read_first (fun _ _ _ _ _ _ us hl => match us, hl with | [_], _ => rfl) (F.ok sc_read_first (fun vs H Q E h => ?_) (fun cdv A outer s H vs Q E hr h => ?_))
  · obtain ⟨f, rfl, _⟩ := h
    rfl
  · obtain ⟨f, rfl, hw, h⟩ := h
    refine ⟨_, (pss_one (ps_ret (pe_fn G_numbers_in (hr.mono (by decide)) (by rfl) (passes_call (takes_of rfl rfl rfl rfl) (fun _ _ _ _ h => h)) (pa_cons (pv 0) (pa_cons pe_str (pa_cons pe_int pa_nil)))))), ?_⟩
    walk_at "un"
    rcases h with ⟨n, t, s2, rfl, ⟨h1, h2, h3, h4, h5, h6⟩, q⟩ | ⟨hb, q⟩
    · refine ⟨_, _, [n, t, s2], 3, rfl, hw, .inl ⟨rfl, rfl, by decide, ?_, q⟩⟩
      intro x hx
      simp only [List.mem_cons, List.not_mem_nil, or_false] at hx
      rcases hx with rfl | rfl | rfl
      · exact ⟨h2, h1⟩
      · exact ⟨h4, h3⟩
      · exact ⟨h6, h5⟩
    · exact ⟨_, _, [], 3, rfl, hw, .inr ⟨hb, q⟩⟩
/-! read_last -/
theorem sc_read_last : FnScope ["text"] ["text"] (defScope s_read_last) := ⟨rfl, rfl, rfl, by decide +kernel, rfl, by decide +kernel, by decide +kernel⟩
theorem F_read_last (T : Top K mg) (G_numbers_in : Fn P w K mg base (L2.CX P w) 3 "numbers_in" ["text", "first", "many"] (sp_numbers_in K)) : Fn P w K mg base (L2.CX P w) 4 "read_last" ["text"] (sp_read_last K) := by
  obtain ⟨fd, F⟩ := T.D_read_last
  refine mk_fn F T.g_read_last (fun _ _ _ _ _ _ us hl => match us, hl with | [_], _ => rfl) (F.ok sc_read_last (fun vs H Q E h => ?_) (fun cdv A outer s H vs Q E hr h => ?_))
  · obtain ⟨f, rfl, _⟩ := h
    rfl
  · obtain ⟨f, rfl, hw, h⟩ := h
    refine ⟨_, (pss_one (ps_ret (pe_ix ix_tup (pe_fn G_numbers_in (hr.mono (by decide)) (by rfl) (passes_call (takes_of rfl rfl rfl rfl) (fun _ _ _ _ h => h)) (pa_cons (pv 0) (pa_cons pe_str (pa_cons pe_int pa_nil)))) pe_int (fun _ _ => rfl)))), ?_⟩
    walk_at "un"
    rcases h with ⟨k, rfl, hk, q⟩ | ⟨hb, q⟩
    · refine ⟨_, _, [(k : Int)], 1, rfl, hw, .inl ⟨rfl, rfl, by decide, ?_, fun a H1 na s1 e1 => ⟨a, rfl, _, SqT.of e1, _, rfl, q _ s1⟩⟩⟩
      intro n hn
      rw [List.mem_singleton.mp hn]
      exact ⟨sm_small (by omega) (by omega), by omega⟩
    · exact ⟨_, _, [], 1, rfl, hw, .inr ⟨hb, q⟩⟩
/-! read_entry -/
theorem sc_read_entry : FnScope ["text", "words", "name", "many", "row", "plot", "at"] ["text"] (defScope s_read_entry) := ⟨rfl, rfl, rfl, by decide +kernel, rfl, by decide +kernel, by decide +kernel⟩
theorem F_read_entry (T : Top K mg) (G_words_of : Fn P w K mg base CX0 1 "words_of" ["text"] sp_words_of) (G_name_at : Fn P w K mg base CX0 2 "name_at" ["words", "at"] sp_name_at) (G_number_at : Fn P w K mg base CX0 2 "number_at" ["words", "at"] sp_number_at) (G_so_many_at : Fn P w K mg base CX0 2 "so_many_at" ["words", "at", "many"] sp_so_many_at) (G_plot_from : Fn P w K mg base CX0 4 "plot_from" ["words", "at"] (sp_plot_from K)) (G_is_plot : Fn P w K mg base CX0 3 "is_plot" ["thing"] (sp_is_plot K)) : Fn P w K mg base (L2.CX P w) 5 "read_entry" ["text"] (sp_read_entry K) := by
  obtain ⟨fd, F⟩ := T.D_read_entry
  refine mk_fn F T.g_read_entry (fun _ _ _ _ _ _ us hl => match us, hl with | [_], _ => rfl) (F.ok sc_read_entry (fun vs H Q E h => ?_) (fun cdv A outer s H vs Q E hr h => ?_))
  · obtain ⟨f, rfl, _⟩ := h
    rfl
  · obtain ⟨f, rfl, hf⟩ := h
    refine ⟨_, (pss_cons (ps_set (i := 1) sc_read_entry.nd rfl (.inl rfl) (pe_fn G_words_of (hr.mono (by decide)) (by rfl) pass0 (pa_cons (pv 0) pa_nil)))
      (pss_cons (ps_if (PW.pt (pw_or (pt_cmpR op_ne (pe_ix ix_list (pv 1) pe_int (fun _ _ => rfl)) pe_str (nomark _)) (pw_or1 (pt_cmpR op_ne (pe_ix ix_list (pv 1) (pe_un un_neg pe_int) (fun _ _ => rfl)) pe_str (nomark _))))) (pss_one (ps_raise rfl (takes_of rfl rfl rfl rfl) (pmk_own PySem.F.excBase_ValueError T.exc_NoText.1 T.g_NoText T.exc_NoText.2.1 (raises_own T.exc_NoText.2.2.1 T.exc_NoText.2.2.2) (by exact rfl)))) pss_nil)
      (pss_cons (ps_set (i := 2) sc_read_entry.nd rfl (.inl rfl) (pe_fn G_name_at (hr.mono (by decide)) (by rfl) pass0 (pa_cons (pv 1) (pa_cons pe_int pa_nil))))
      (pss_cons (ps_set (i := 3) sc_read_entry.nd rfl (.inl rfl) (pe_fn G_number_at (hr.mono (by decide)) (by rfl) pass0 (pa_cons (pv 1) (pa_cons pe_int pa_nil))))
      (pss_cons (ps_set (i := 4) sc_read_entry.nd rfl (.inl rfl) (pe_fn G_so_many_at (hr.mono (by decide)) (by rfl) pass0 (pa_cons (pv 1) (pa_cons pe_int (pa_cons (pv 3) pa_nil)))))
      (pss_cons (ps_asg (pe_fn G_plot_from (hr.mono (by decide)) (by rfl) pass0 (pa_cons (pv 1) (pa_cons (pe_op op_add pe_int (pv 3)) pa_nil))) (pg_tup (n := 2) rfl (pgs_cons (pg_name (i := 5) sc_read_entry.nd rfl (.inl rfl)) (pgs_cons (pg_name (i := 6) sc_read_entry.nd rfl (.inl rfl)) pgs_nil))))
      (pss_cons (ps_if (PW.pt (pw_or (pt_cmpR op_ne (pv 6) (pe_op op_sub (pe_callB call_len_seq (by rfl) T.f_len PySem.boot_len (pa_cons (pv 1) pa_nil)) pe_int) (nomark _)) (pw_or1 (pt_not (pt_val (pe_fn G_is_plot (hr.mono (by decide)) (by rfl) pass0 (pa_cons (pv 5) pa_nil))))))) (pss_one (ps_raise rfl (takes_of rfl rfl rfl rfl) (pmk_own PySem.F.excBase_ValueError T.exc_NoText.1 T.g_NoText T.exc_NoText.2.1 (raises_own T.exc_NoText.2.2.1 T.exc_NoText.2.2.2) (by exact rfl)))) pss_nil)
      (pss_one (ps_ret (pe_tup (pa_cons (pv 2) (pa_cons (pv 4) (pa_cons (pv 5) pa_nil))))))))))))), ?_⟩
    walk_at "un"
    have hw : Wds f := by
      rcases hf with ⟨x, t, rfl, g, _⟩ | ⟨_, h, _⟩
      · obtain ⟨w0, h1, h2, h3⟩ := g.2.2
        exact wds_ent h3 h2 (Nat.le_refl _) g.2.1 g.1
      · exact h
    have hb : BadE f → noText K H E := by
      intro b
      rcases hf with ⟨x, t, rfl, g, _⟩ | ⟨_, _, h⟩
      · exact absurd b not_badE
      · exact h
    obtain ⟨y, z, hy, hz, ay, az⟩ := ends_of hw.1
    refine ⟨f, rfl, hw, fun a H1 na s1 e1 => ⟨_, rfl, _, SqL.of e1, _, ay, by first | rfl | trivial, ?_⟩⟩
    by_cases c2 : y = "row"
    · rw [if_neg (by simp [c2])]
      refine ⟨_, rfl, _, SqL.of e1, _, az, by first | rfl | trivial, ?_⟩
      by_cases c3 : z = dot
      · rw [if_neg (by simp [c3, dot])]
        have hgood : ∃ x t, f = entWs x.1 x.2 ∧ GEW 30 t x ∧ ∀ v H', Same H H' → IsRd K H' v x → Q v H' := by
          rcases hf with h | ⟨hb, _⟩
          · exact h
          · rcases hb with hb | hb
            · exact absurd (by rw [hy, c2]) hb
            · exact absurd (by rw [hz, c3]) hb
        obtain ⟨⟨name, row, p⟩, t, rfl, gw, hg⟩ := hgood
        obtain ⟨nm, ht, w0, w1, w3, ge⟩ := gw
        have rl : row.length ≤ 3 := by have h : row.length = w0 := ge.len; omega
        refine ⟨_, _, name, 1, rfl, ⟨a, rfl, e1, hw.2.2⟩, rfl, nm, ?_⟩
        refine ⟨_, _, (row.length : Int), 2, rfl, ⟨a, rfl, e1, hw.2.2⟩, rfl, sm_small (by omega) (by omega), ?_⟩
        refine ⟨_, _, row, 3, rfl, ⟨a, rfl, e1, hw.2.2⟩, ⟨plotWs p ++ [dot], rfl⟩, by simp [entWs], ge.nums, fun b H2 nb s2 e2 => ?_⟩
        refine ⟨_, rfl, ?_⟩
        refine ⟨_, _, p, 30, t, 3 + row.length, rfl, ⟨a, rfl, s2 _ _ e1, hw.2.2⟩, ⟨[dot], ?_⟩, ge.plt, Nat.le_refl _, ht, fun c u H3 s3 hq hp => ?_⟩
        · have := drop_app (ws := entWs name (row, p)) (k := 3) (l := row.map numS) (r := plotWs p ++ [dot]) rfl
          rw [List.length_map] at this
          exact this
        · refine ⟨_, rfl, _, hq, rfl, _, _, rfl, _, _, rfl, rfl, _, rfl, _, .inl (SqL.of ((s2.trans s3) _ _ e1)), by first | rfl | trivial, ?_⟩
          rw [if_neg (by simp [entWs]; omega)]
          refine ⟨_, p, 30, t, rfl, hp, ge.plt, ?_⟩
          refine ⟨_, rfl, ?_⟩
          rw [if_neg (by decide)]
          refine ⟨sz (by decide), fun d nd => hg _ _ (s1.trans (s2.trans (s3.trans (L2.Same.new nd)))) ⟨d, .ref b, u, rfl, SqT.of upd_same, ⟨b, rfl, (s3.trans (L2.Same.new nd)) _ _ e2⟩, hp.tk (TK.same (L2.Same.new nd))⟩⟩
      · rw [if_pos (by simpa [dot] using c3)]
        exact hb (.inr (by rw [hz]; simpa using c3)) _ s1
    · rw [if_pos (by simpa using c2)]
      exact hb (.inl (by rw [hy]; simpa using c2)) _ s1
/-! card_in -/
theorem lastI (f : List Str) (r : List (List Str)) (l : List Str) : atI (List.map (fun f => V.str (jn f)) (f :: (r ++ [l]))) (-1) = some (.str (jn l)) := by
  rw [show f :: (r ++ [l]) = (f :: r) ++ [l] from rfl, List.map_append]
  exact atI_last _ _
theorem midI (f : List Str) (r : List (List Str)) (l : List Str) : cutV (List.map (fun f => V.str (jn f)) (f :: (r ++ [l]))) (some 1) (some (-1)) = r.map fun f => V.str (jn f) := by
  have hl : (List.map (fun f => V.str (jn f)) (f :: (r ++ [l]))).length = r.length + 2 := by simp
  unfold cutV
  rw [hl]
  have e1 : HT.sIx (r.length + 2) 0 (some 1) = 1 := by
    have := HT.sIx_nat (r.length + 2) 0 1
    rw [show ((1 : Nat) : Int) = 1 from rfl] at this
    rw [this]; omega
  have e2 : HT.sIx (r.length + 2) (r.length + 2) (some (-1)) = r.length + 1 := by
    unfold HT.sIx
    simp
    omega
  rw [e1, e2]
  simp
theorem paired_jn : ∀ r : List (List Str), Paired (fun (v : V) f => v = .str (jn f)) (r.map fun f => V.str (jn f)) r
  | [] => .nil
  | e :: es => .cons rfl (paired_jn es)
theorem paired_jnE : ∀ r : List (Str × Ent), Paired (fun (v : V) x => v = .str (jn (entWs x.1 x.2))) (r.map ((fun f => V.str (jn f)) ∘ fun x => entWs x.1 x.2)) r
  | [] => .nil
  | e :: es => .cons rfl (paired_jnE es)
theorem IsRd.tk {H H' : Hp} {v : V} {x : Str × Ent} (h : IsRd K H v x) (t : TK H H') : IsRd K H' v x := by
  obtain ⟨a, u, z, e, h1, h2, h3⟩ := h
  exact ⟨a, u, z, e, h1.tk t, h2.tk t, h3.tk t⟩
theorem pe_fnS {X : Cx} {C : CXT} {k : Nat} {x : Str} {ps : List Str} {sp : Sp} {E : L2.St → XK} {p pos : Pos} {e : Expr} {es : List Expr} {t : TA} (F : Fn X.prog X.w X.K X.mg X.base C k x ps sp) (hr : Room k X.A) (hg : Gl X x) (hx : ∀ σ, PassesAt C X σ (E σ)) (ha : PA X (e :: es) t) (hdb : (x == ("__debug__" : Str)) = false := by decide)
    (he : starEach (e :: es) X.env = (false, eval e X.env) :: starEach es X.env := by rfl) (hpl : (backTo pos (starEach es X.env)).any (·.1) = false := by rfl) : PE X (.Call (.Name x p) (e :: es) [] pos) (tCallS sp E t) := by
  obtain ⟨f, fd, G, hm, hk, hb⟩ := F.ex
  exact pe_callS G hr hg hm hk hb hx ha hdb he hpl
/-- the reading of the try's body -/
def TB (K : PySem.W.Frag) (W : WX) : TS := tSeq (tAsg (tCallS (sp_read_first K) (WE W) (tCons (tOp (rIxL K) (tVar 0) (tC (.int 0))) tNil)) (gName 1))
  (tSeq (tAsg (tCallS (sp_read_last K) (WE W) (tCons (tOp (rIxL K) (tVar 0) (tUn (rU fun i => .int (-i)) (tC (.int 1)))) tNil)) (gName 2))
  (fun D σ H => tLc (iList K (tSl (rSlL K) (tVar 0) (tPart (tC (.int 1))) (tPart (tUn (rU fun i => .int (-i)) (tC (.int 1)))))) (gName 4) tYes (tCall (sp_read_entry K) [] (fun cls d H' => W cls d σ H') (tCons (tVar 4) tNil)) [4] σ H (fun x H1 => gName 3 x σ H1 D.nx)))
theorem sc_card_in : FnScope ["rows", "first", "many", "entries", "row"] ["rows"] (defScope s_card_in) := ⟨rfl, rfl, rfl, by decide +kernel, rfl, by decide +kernel, by decide +kernel⟩
theorem F_card_in (T : Top K mg) (G_read_first : Fn P w K mg base (L2.CX P w) 4 "read_first" ["text"] (sp_read_first K)) (G_read_last : Fn P w K mg base (L2.CX P w) 4 "read_last" ["text"] (sp_read_last K)) (G_read_entry : Fn P w K mg base (L2.CX P w) 5 "read_entry" ["text"] (sp_read_entry K)) : Fn P w K mg base CX0 6 "card_in" ["rows"] (sp_card_in K) := by
  obtain ⟨fd, F⟩ := T.D_card_in
  refine mk_fn F T.g_card_in (fun _ _ _ _ _ _ us hl => match us, hl with | [_], _ => rfl) (F.ok sc_card_in (fun vs H Q E h => ?_) (fun cdv A outer s H vs Q E hr h => ?_))
  · obtain ⟨ns, wd, a, rows, o, rfl, _⟩ := h
    rfl
  · obtain ⟨ns, wd, a, rows, o, rfl, e0, hrd, hns, hn3, hlen, qN, qS⟩ := h
    refine ⟨_, (pss_cons (ps_if (pt_cmpR op_lt (pe_callB call_len_seq (by rfl) T.f_len PySem.boot_len (pa_cons (pv 0) pa_nil)) pe_int (nomark _)) (pss_one (ps_ret pe_non)) pss_nil)
      (pss_cons (ps_try_only (tb := TB K) (ts := fun _ _ _ => tRet (tC .non)) (Wout := fun _ _ _ _ => False) rfl rfl ⟨rfl, by decide, Or.inl T.g_NoText⟩ takes0 (fun W pn xe tk _ => pss_cons (ps_set (i := 1) sc_card_in.nd rfl (.inl rfl) (pe_fnS (E := WE W) G_read_first (hr.mono (by decide)) (by rfl) (fun σ => passAt tk σ) (pa_cons (pe_ix ix_list (pv 0) pe_int (fun _ _ => rfl)) pa_nil)))
        (pss_cons (ps_set (i := 2) sc_card_in.nd rfl (.inl rfl) (pe_fnS (E := WE W) G_read_last (hr.mono (by decide)) (by rfl) (fun σ => passAt tk σ) (pa_cons (pe_ix ix_list (pv 0) (pe_un un_neg pe_int) (fun _ _ => rfl)) pa_nil)))
        (pss_one (ps_setLcX (i := 3) (own := [("row", 4)]) (W := W) (g := gName 4) (tt := tYes) (te := fun E => tCall (sp_read_entry K) [] E (tCons (tVar 4) tNil)) rfl rfl tk rfl sc_card_in.nd rfl rfl (sw_true rfl rfl rfl (by decide +kernel)) (pi_list (pe_slice sl_list (pv 0) (po_some pe_int) (po_some (pe_un un_neg pe_int)))) (blkOk_by (own := [("row", 4)]) (N := ["rows", "first", "many", "entries", "row"]) (sc := defScope s_card_in) (by decide +kernel)) (fun _ _ _ _ _ => (pg_name (i := 4) sc_card_in.nd rfl (.inl rfl))) (fun _ _ _ _ _ => pts_nil) (fun E _ _ _ _ _ _ hp => pe_fn G_read_entry (hr.mono (by decide)) (by rfl) hp (pa_cons (pv 4) pa_nil)))))) (fun _ _ _ _ _ _ _ => pss_one (ps_ret pe_non)))
      (pss_cons (ps_if (pt_cmpR op_ne (pv 2) (pe_callB call_len_seq (by rfl) T.f_len PySem.boot_len (pa_cons (pv 3) pa_nil)) (nomark _)) (pss_one (ps_ret pe_non)) pss_nil)
      (pss_one (ps_ret (pe_tup (pa_cons (pv 1) (pa_cons (pv 3) pa_nil)))))))), ?_⟩
    walk_at "un"
    refine ⟨_, .inl (SqL.of e0), ?_⟩
    have lv : (List.map (fun f => V.str (jn f)) rows).length = rows.length := List.length_map _
    cases hrd with
    | short _ hs =>
      rw [if_pos (by omega)]
      exact qN rfl H (L2.Same.refl _)
    | badF f r hr0 hbf hwf =>
      have : 0 < r.length := List.length_pos_iff.mpr hr0
      rw [if_neg (by simp; omega)]
      unfold TB
      walk_at "un"
      simp only [tCallS]
      walk_at "un"
      refine ⟨_, SqL.of e0, .str (jn f), atI_nat (j := 0) rfl, f, rfl, hwf, .inr ⟨hbf, fun H' s' => ⟨true, T.exm_NoText, fun _ _ _ => qN rfl H' s', fun z => nomatch z⟩⟩⟩
    | badL n t s0 r l hnum hbl hwl =>
      rw [if_neg (by simp; omega)]
      unfold TB
      walk_at "un"
      simp only [tCallS]
      walk_at "un"
      have hw := wds_first hnum.2.1 hnum.2.2.2.1 hnum.2.2.2.2.2
      refine ⟨_, SqL.of e0, .str (jn (firstWs n t s0)), atI_nat (j := 0) rfl, _, rfl, hw, .inl ⟨n, t, s0, rfl, hnum, fun b H1 nb s1 e1 => ?_⟩⟩
      refine ⟨_, SqL.of (s1 _ _ e0), .str (jn l), lastI _ _ _, l, rfl, hwl, .inr ⟨hbl, fun H' s' => ⟨true, T.exm_NoText, fun _ _ _ => qN rfl H' (s1.trans s'), fun z => nomatch z⟩⟩⟩
    | badE n t s0 r k hnum hk hr1 hall hbad =>
      rw [if_neg (by simp; omega)]
      unfold TB
      walk_at "un"
      simp only [tCallS]
      walk_at "un"
      have hw := wds_first hnum.2.1 hnum.2.2.2.1 hnum.2.2.2.2.2
      refine ⟨_, SqL.of e0, .str (jn (firstWs n t s0)), atI_nat (j := 0) rfl, _, rfl, hw, .inl ⟨n, t, s0, rfl, hnum, fun b H1 nb s1 e1 => ?_⟩⟩
      refine ⟨_, SqL.of (s1 _ _ e0), .str (jn (lastWs k)), lastI _ _ _, _, rfl, wds_last hk, .inl ⟨k, rfl, hk, fun H2 s2 => ?_⟩⟩
      have S2 := s1.trans s2
      refine slL (S2 _ _ e0) fun c H3 nc s3 e3 => ?_
      have S3 := S2.trans s3
      rw [midI] at e3
      refine ⟨_, rfl, ⟨_, SqL.of e3⟩, fun D nD => ?_⟩
      refine lcw_list (paired_jn r) (fun d q acc H' => Same H3 H' ∧ H' D = some (.lst acc) ∧ acc.length = d.length ∧ ∀ f ∈ d, ¬ BadE f) ⟨L2.Same.new nD, upd_same, rfl, fun _ h => nomatch h⟩ (fun d q acc H' z => SqL.of (z.1 _ _ e3)) ?_ ?_
      · rintro d v y q acc H' e rfl ⟨f1, f2, f3, f4⟩
        have dl : r.length = d.length + (q.length + 1) := by rw [e]; simp
        walk_at "un"
        refine ⟨y, rfl, ?_⟩
        rcases hall y (by rw [e]; simp) with ⟨x, t1, rfl, g⟩ | ⟨hb, hwy⟩
        · refine .inl ⟨x, t1, rfl, g, fun v H4 s4 hv => ⟨_, s4 _ _ f2, szl (by omega), L2.Same.put (f1.trans s4) nD, _, upd_same, by simp [f3], ?_⟩⟩
          intro f hf
          rcases List.mem_append.mp hf with hf | hf
          · exact f4 f hf
          · rw [List.mem_singleton.mp hf]; exact not_badE
        · exact .inr ⟨hb, hwy, fun H4 s4 => ⟨true, T.exm_NoText, fun _ _ _ => qN rfl H4 (S3.trans (f1.trans s4)), fun z => nomatch z⟩⟩
      · rintro acc H' ⟨f1, f2, f3, f4⟩
        walk_at "un"
        refine ⟨_, .inl (SqL.of f2), ?_⟩
        have : k ≠ r.length := by
          rcases hbad with ⟨f, hf, hb⟩ | h
          · exact absurd hb (f4 f hf)
          · exact h
        rw [if_pos (by rw [f3]; omega)]
        exact qN rfl H' (S3.trans f1)
    | good c gc =>
      obtain ⟨⟨g1, g2, g3, g4, g5, g6⟩, gt⟩ := gc
      have hs : Sm c.since := sm_turn g4 g5 g6
      have hel : (entsOf ns c.tb).length ≤ 1000 := by have := hlen; simp [cardWs] at this; omega
      have hrl : (cardWs ns c).length = (entsOf ns c.tb).length + 2 := by simp [cardWs]
      rw [if_neg (by rw [List.length_map, hrl]; omega)]
      unfold TB
      walk_at "un"
      simp only [tCallS]
      walk_at "un"
      unfold cardWs at e0
      refine ⟨_, SqL.of e0, .str (jn (firstWs c.num c.turn c.since)), atI_nat (j := 0) rfl, _, rfl, wds_first g2 g4 hs, .inl ⟨_, _, _, rfl, ⟨g1, g2, g3, g4, g5, hs⟩, fun b H1 nb s1 e1 => ?_⟩⟩
      refine ⟨_, SqL.of (s1 _ _ e0), .str (jn (lastWs (entsOf ns c.tb).length)), lastI _ _ _, _, rfl, wds_last hel, .inl ⟨_, rfl, hel, fun H2 s2 => ?_⟩⟩
      have S2 := s1.trans s2
      refine slL (S2 _ _ e0) fun c2 H3 nc s3 e3 => ?_
      have S3 := S2.trans s3
      rw [midI] at e3
      refine ⟨_, rfl, ⟨_, SqL.of e3⟩, fun D nD => ?_⟩
      rw [List.map_map] at e3
      refine lcw_list (paired_jnE (entsOf ns c.tb)) (fun d q acc H' => Same H3 H' ∧ H' D = some (.lst acc) ∧ Paired (IsRd K H') acc d) ⟨L2.Same.new nD, upd_same, .nil⟩ (fun d q acc H' z => SqL.of (z.1 _ _ e3)) ?_ ?_
      · rintro d v y q acc H' e rfl ⟨f1, f2, f3⟩
        have dl : (entsOf ns c.tb).length = d.length + (q.length + 1) := by rw [e]; simp
        have vl : acc.length = d.length := Paired.length f3
        have hy : GEW 30 c.turn y := by
          have hm : y ∈ entsOf ns c.tb := by rw [e]; simp
          obtain ⟨n, hn, hm2⟩ := List.mem_flatMap.mp hm
          obtain ⟨en, hen, rfl⟩ := List.mem_map.mp hm2
          exact ⟨(hns n hn).1, g4, wd n, (hns n hn).2.1, (hns n hn).2.2, (gt n hn).each en hen⟩
        walk_at "un"
        refine ⟨_, rfl, .inl ⟨y, c.turn, rfl, hy, fun v H4 s4 hv => ⟨_, s4 _ _ f2, szl (by omega), L2.Same.put (f1.trans s4) nD, _, upd_same, ?_⟩⟩⟩
        have tk := TK.put (o := .lst (acc ++ [v])) (s4 _ _ f2) rfl
        exact paired_snoc (paired_imp f3 fun _ _ z => z.tk ((TK.same s4).trans tk)) (hv.tk tk)
      · rintro acc H' ⟨f1, f2, f3⟩
        walk_at "un"
        have vl : acc.length = (entsOf ns c.tb).length := Paired.length f3
        refine ⟨_, .inl (SqL.of f2), ?_⟩
        rw [if_neg (fun h => h (by rw [vl]))]
        refine ⟨sz (by decide), fun p np => ?_⟩
        have sp := L2.Same.new (o := .tup [V.ref b, V.ref D]) np
        exact qS c _ _ rfl (S3.trans (f1.trans sp)) ⟨p, b, D, acc, rfl, SqT.of upd_same, SqT.of (((s2.trans s3).trans (f1.trans sp)) _ _ e1), sp _ _ f2, paired_imp f3 fun _ _ z => z.tk (TK.same sp)⟩
end
end HW
set_option Elab.async false
set_option linter.all false
set_option maxRecDepth 100000
set_option maxHeartbeats 4000000
namespace HW
open PySem PySem.Spec PyProof.Rows L2
local macro_rules | `(tactic| walk_at "un") => `(tactic| simp only [cxOf, tSeq, tNext, tIfS, tTest, tOp, tUn, tVar, tC, tRet, tRetN, tNever, tAsg, gName, gNil, gCons, gTup, eq_self, rListOf, Option.isSome_none, Option.isSome_some, gSub, tDrop, tCB, tCall, tCons, tNil, tTup, tLst, tB, tAnd, tOr, tNot, tAndV, tOrV, tNotV, tNoPart, tPart, tSl, tSl3, tBM, tM1, tDNewK, tDNewT, tDGet, tDIn, tDNotIn, sDPut, tYes, tFld, sFld, tMeth, tMake,
  for_L, for_T, for_R, for_S, lc_L, lc_T, lc_R, wipe, rI0, rU, rEq, rNe, rIxT, rIxL, rIxS, L2.start, List.map_cons, List.map_nil, List.length_cons, List.length_nil, Nat.reduceAdd, Nat.reduceSub, List.replicate_succ, List.replicate_zero, List.cons_append, List.nil_append, List.append_nil,
  List.getElem?_cons_zero, List.getElem?_cons_succ, List.set_cons_zero, List.set_cons_succ, Option.some.injEq, V.int.injEq, V.bl.injEq, V.str.injEq, V.ref.injEq, V.ty.injEq, List.cons.injEq, and_true, true_and, exists_eq_left, exists_eq_left', exists_and_left, exists_eq, scal, decide_eq_true_eq, reduceCtorEq, decide_false, decide_true, Bool.not_true, Bool.not_false, if_true, if_false, Bool.false_eq_true, ite_true, ite_false, Bool.not_eq_true', decide_eq_false_iff_not])
local macro_rules | `(tactic| walk_at "tk") => `(tactic| first | exact TK.refl _ | assumption | exact TK.same (by assumption) | (refine TK.trans ?_ (TK.new (by assumption)); walk_at "tk") | (refine TK.trans ?_ (TK.put (by assumption) rfl); walk_at "tk") | (refine TK.trans ?_ (TK.same (by assumption)); walk_at "tk"))
local macro_rules | `(tactic| walk_at "fz") => `(tactic| first | assumption | exact L2.SqT.tk (by assumption) (by walk_at "tk") | exact IsRch.tk (by assumption) (by walk_at "tk") | exact IsPlt.tk (by assumption) (by walk_at "tk") | exact IsStp.tk (by assumption) (by walk_at "tk") | exact IsRow.tk (by assumption) (by walk_at "tk") | exact IsEnt.tk (by assumption) (by walk_at "tk") | exact pairS_tk (by assumption) (by walk_at "tk") | exact pairE_tk (by assumption) (by walk_at "tk"))
local macro_rules | `(tactic| walk_at "sm") => `(tactic| first | exact L2.Same.refl _ | assumption | (refine L2.Same.trans ?_ (L2.Same.new (by assumption)); walk_at "sm") | (refine L2.Same.put ?_ (by assumption); walk_at "sm") | (refine L2.Same.trans ?_ (by assumption); walk_at "sm"))
local macro_rules | `(tactic| walk_at "jk") => `(tactic| first | exact ⟨_, rfl⟩ | exact ⟨_, _, rfl, rfl⟩ | exact ⟨⟨_, rfl⟩, _, rfl⟩ | exact ⟨_, rfl, _, rfl⟩ | simp)

section
variable {P : Program} {w : World} {K : PySem.W.Frag} {mg : Str → Option Value} {base : Heap}

/-! Shelf.__init__ -/
theorem sc_Shelf_init : FnScope ["self"] ["self"] (defScope s_Shelf_init) := ⟨rfl, rfl, rfl, by decide +kernel, rfl, by decide +kernel, by decide +kernel⟩
theorem M_Shelf_init (T : Top K mg) : It0 P w K mg base CX0 1 "Shelf" ["self"] (sp_sh_init K) := by
  obtain ⟨fd, F⟩ := T.D_Shelf_init
  refine mk_it F T.k_Shelf T.g_Shelf (fun _ _ _ _ _ _ us hl => match us, hl with | [_], _ => rfl) (F.okN sc_Shelf_init (fun vs H Q E h => ?_) (fun cdv A outer s H vs Q E hr h => ?_))
  · obtain ⟨x, dx, rfl, _⟩ := h
    rfl
  · obtain ⟨x, dx, rfl, h1, q⟩ := h
    refine ⟨_, (pss_cons (ps_fld (pv 0) (pe_lst (pa_cons (pe_lst pa_nil) (pa_cons (pe_lst pa_nil) (pa_cons (pe_lst pa_nil) pa_nil)))) rfl)
      (pss_cons (ps_fld (pv 0) (pe_lst (pa_cons (pe_lst pa_nil) (pa_cons (pe_lst pa_nil) (pa_cons (pe_lst pa_nil) pa_nil)))) rfl)
      (pss_one (ps_fld (pv 0) (pe_lst pa_nil) rfl)))), ?_⟩
    walk_at "un"
    refine ⟨Nat.zero_le _, fun b0 n0 => ⟨Nat.zero_le _, fun b1 n1 => ⟨Nat.zero_le _, fun b2 n2 => ⟨sz (by decide), fun bg n3 => ?_⟩⟩⟩⟩
    obtain ⟨H1, hE1, s1, e1⟩ := fr n0 (.lst [])
    simp only [hE1] at n1 n2 n3 ⊢
    obtain ⟨H2, hE2, s2, e2⟩ := fr n1 (.lst [])
    simp only [hE2] at n2 n3 ⊢
    obtain ⟨H3, hE3, s3, e3⟩ := fr n2 (.lst [])
    simp only [hE3] at n3 ⊢
    obtain ⟨H4, hE4, s4, e4⟩ := fr n3 (.lst [V.ref b0, V.ref b1, V.ref b2])
    simp only [hE4]
    have S4 : Same H H4 := s1.trans (s2.trans (s3.trans s4))
    have S14 : Same H1 H4 := s2.trans (s3.trans s4)
    refine ⟨_, _, _, S4 _ _ h1, T.c_Shelf, T.a_began, Nat.le_of_ble_eq_true (by rfl), Nat.zero_le _, fun l0 m0 => ⟨Nat.zero_le _, fun l1 m1 => ⟨Nat.zero_le _, fun l2 m2 => ⟨sz (by decide), fun ly m3 => ?_⟩⟩⟩⟩
    obtain ⟨H5, hE5⟩ : ∃ H5, upd H4 x (.ins (He.ga K "Shelf") dx (putF "began" (V.ref bg) [])) = H5 := ⟨_, rfl⟩
    have k5 : ∀ a, a ≠ x → H5 a = H4 a := fun a ne => by rw [← hE5]; exact upd_ne ne
    have x5 : H5 x = some (.ins (He.ga K "Shelf") dx (putF "began" (V.ref bg) [])) := by rw [← hE5]; exact upd_same
    have t5 : TK H4 H5 := by rw [← hE5]; exact TK.put (S4 _ _ h1) rfl
    simp only [hE5] at m0 m1 m2 m3 ⊢
    obtain ⟨H6, hE6, s6, e6⟩ := fr m0 (.lst [])
    simp only [hE6] at m1 m2 m3 ⊢
    obtain ⟨H7, hE7, s7, e7⟩ := fr m1 (.lst [])
    simp only [hE7] at m2 m3 ⊢
    obtain ⟨H8, hE8, s8, e8⟩ := fr m2 (.lst [])
    simp only [hE8] at m3 ⊢
    obtain ⟨H9, hE9, s9, e9⟩ := fr m3 (.lst [V.ref l0, V.ref l1, V.ref l2])
    simp only [hE9]
    have S9 : Same H5 H9 := s6.trans (s7.trans (s8.trans s9))
    refine ⟨_, _, _, S9 _ _ x5, T.c_Shelf, T.a_lying, Nat.le_of_ble_eq_true (by rfl), Nat.zero_le _, fun dn d0 => ?_⟩
    obtain ⟨HA, hEA⟩ : ∃ HA, upd H9 x (.ins (He.ga K "Shelf") dx (putF "lying" (V.ref ly) (putF "began" (V.ref bg) []))) = HA := ⟨_, rfl⟩
    have kA : ∀ a, a ≠ x → HA a = H9 a := fun a ne => by rw [← hEA]; exact upd_ne ne
    have xA : HA x = some (.ins (He.ga K "Shelf") dx (putF "lying" (V.ref ly) (putF "began" (V.ref bg) []))) := by rw [← hEA]; exact upd_same
    have tA : TK H9 HA := by rw [← hEA]; exact TK.put (S9 _ _ x5) rfl
    simp only [hEA] at d0 ⊢
    obtain ⟨HB, hEB, sB, eB⟩ := fr d0 (.lst [])
    simp only [hEB]
    refine ⟨_, _, _, sB _ _ xA, T.c_Shelf, T.a_done, Nat.le_of_ble_eq_true (by rfl), ?_⟩
    obtain ⟨HC, hEC⟩ : ∃ HC, upd HB x (.ins (He.ga K "Shelf") dx (putF "done" (V.ref dn) (putF "lying" (V.ref ly) (putF "began" (V.ref bg) [])))) = HC := ⟨_, rfl⟩
    have kC : ∀ a, a ≠ x → HC a = HB a := fun a ne => by rw [← hEC]; exact upd_ne ne
    have xC : HC x = some (.ins (He.ga K "Shelf") dx (shF bg ly dn)) := by rw [← hEC]; exact upd_same
    have tC' : TK HB HC := by rw [← hEC]; exact TK.put (sB _ _ xA) rfl
    simp only [hEC]
    -- none of the new is x
    have hx0 : ∀ a, H a = none → a ≠ x := fun a n e => by rw [e, h1] at n; cases n
    have up : ∀ a, H5 a = none → H a = none := fun a n => by
      by_cases e : a = x
      · rw [e, x5] at n; cases n
      · rw [k5 a e] at n; exact S4.none n
    have upA : ∀ a, HA a = none → H a = none := fun a n => by
      by_cases e : a = x
      · rw [e, xA] at n; cases n
      · rw [kA a e] at n; exact up a (S9.none n)
    have fl0 := up _ m0
    have fl1 := up _ (s6.none m1)
    have fl2 := up _ ((s6.trans s7).none m2)
    have fly := up _ ((s6.trans (s7.trans s8)).none m3)
    have fdn := upA _ d0
    have to5 : ∀ {a u}, a ≠ x → H5 a = some u → HC a = some u := fun {a u} ne e => by rw [kC a ne]; exact sB _ _ (by rw [kA a ne]; exact S9 _ _ e)
    have to9 : ∀ {a u}, a ≠ x → H9 a = some u → HC a = some u := fun {a u} ne e => by rw [kC a ne]; exact sB _ _ (by rw [kA a ne]; exact e)
    have to4 : ∀ {a u}, a ≠ x → H4 a = some u → HC a = some u := fun {a u} ne e => to5 ne (by rw [k5 a ne]; exact e)
    have g0 : H9 l0 = some (.lst []) := (s7.trans (s8.trans s9)) _ _ e6
    have g1 : H9 l1 = some (.lst []) := (s8.trans s9) _ _ e7
    have g2 : H9 l2 = some (.lst []) := s9 _ _ e8
    have n01 : l0 ≠ l1 := ne_of_none e6 m1
    have n02 : l0 ≠ l2 := ne_of_none (s7 _ _ e6) m2
    have n12 : l1 ≠ l2 := ne_of_none e7 m2
    have n0y : l0 ≠ ly := ne_of_none ((s7.trans s8) _ _ e6) m3
    have n1y : l1 ≠ ly := ne_of_none (s8 _ _ e7) m3
    have n2y : l2 ≠ ly := ne_of_none e8 m3
    have dA : ∀ {a u}, a ≠ x → H9 a = some u → a ≠ dn := fun {a u} ne e => ne_of_none (by rw [kA a ne]; exact e) d0
    have q0 := q ⟨x, dx, bg, ly, dn, fun i => if i = 0 then l0 else if i = 1 then l1 else l2, fun _ => [], []⟩ HC rfl ((TK.same S4).trans (t5.trans ((TK.same S9).trans (tA.trans ((TK.same sB).trans tC'))))) (fun a u ne e => to4 ne (S4 _ _ e))
    refine q0 (fun a m => ?_) (fun _ => rfl) rfl ⟨xC, to9 (hx0 _ fly) e9, fun i hi => ?_, ⟨[], by rw [kC _ (hx0 _ fdn)]; exact eB, .nil⟩, fun i j hi hj e => ?_, fun i hi => ?_, fun i hi => ?_, dA (hx0 _ fly) e9, fun i hi => Nat.le_refl _, Nat.le_refl _⟩ ?_
    · rcases m with m | m | m | m | m
      · exact (show a = ly from m) ▸ fly
      · exact (show a = dn from m) ▸ fdn
      · exact (show a = l0 from m) ▸ fl0
      · exact (show a = l1 from m) ▸ fl1
      · exact (show a = l2 from m) ▸ fl2
    · have : i = 0 ∨ i = 1 ∨ i = 2 := by omega
      rcases this with rfl | rfl | rfl
      · exact to9 (hx0 _ fl0) g0
      · exact to9 (hx0 _ fl1) g1
      · exact to9 (hx0 _ fl2) g2
    · have a1 : i = 0 ∨ i = 1 ∨ i = 2 := by omega
      have a2 : j = 0 ∨ j = 1 ∨ j = 2 := by omega
      rcases a1 with rfl | rfl | rfl <;> rcases a2 with rfl | rfl | rfl <;> first | rfl | exact absurd e n01 | exact absurd e n02 | exact absurd e n12 | exact absurd e.symm n01 | exact absurd e.symm n02 | exact absurd e.symm n12
    · have a1 : i = 0 ∨ i = 1 ∨ i = 2 := by omega
      rcases a1 with rfl | rfl | rfl
      · exact n0y
      · exact n1y
      · exact n2y
    · have a1 : i = 0 ∨ i = 1 ∨ i = 2 := by omega
      rcases a1 with rfl | rfl | rfl
      · exact dA (hx0 _ fl0) g0
      · exact dA (hx0 _ fl1) g1
      · exact dA (hx0 _ fl2) g2
    · have fb0 := n0
      have fb1 := s1.none n1
      have fb2 := (s1.trans s2).none n2
      have fbg := (s1.trans (s2.trans s3)).none n3
      -- what was tracked at H4 is none of the shelf's own
      have no : ∀ a u, a ≠ x → H4 a = some u → ¬ (⟨x, dx, bg, ly, dn, fun i => if i = 0 then l0 else if i = 1 then l1 else l2, fun _ => [], []⟩ : Sh).mut a := by
        intro a u ne e m
        have e5 : H5 a = some u := by rw [k5 a ne]; exact e
        have e9' : H9 a = some u := S9 _ _ e5
        rcases m with m | m | m | m | m
        · exact ne_of_none ((s6.trans (s7.trans s8)) _ _ e5) m3 m
        · exact dA ne e9' m
        · exact ne_of_none e5 m0 m
        · exact ne_of_none (s6 _ _ e5) m1 m
        · exact ne_of_none ((s6.trans s7) _ _ e5) m2 m
      have w0 : H4 b0 = some (.lst []) := S14 _ _ e1
      have w1 : H4 b1 = some (.lst []) := (s3.trans s4) _ _ e2
      have w2 : H4 b2 = some (.lst []) := s4 _ _ e3
      refine ⟨b0, b1, b2, to4 (hx0 _ fbg) e4, fun b hb => ?_, no _ _ (hx0 _ fbg) e4⟩
      rcases hb with rfl | rfl | rfl
      · exact ⟨to4 (hx0 _ fb0) w0, no _ _ (hx0 _ fb0) w0⟩
      · exact ⟨to4 (hx0 _ fb1) w1, no _ _ (hx0 _ fb1) w1⟩
      · exact ⟨to4 (hx0 _ fb2) w2, no _ _ (hx0 _ fb2) w2⟩
/-! Shelf.put -/
theorem sc_Shelf_put : FnScope ["self", "drawer", "text"] ["self", "drawer", "text"] (defScope s_Shelf_put) := ⟨rfl, rfl, rfl, by decide +kernel, rfl, by decide +kernel, by decide +kernel⟩
theorem M_Shelf_put (T : Top K mg) : Mt P w K mg base CX0 1 "Shelf" "put" ["self", "drawer", "text"] (sp_put K) := by
  obtain ⟨fd, F⟩ := T.D_Shelf_put
  refine mk_mt F T.m_put (fun _ _ _ _ _ _ us hl => match us, hl with | [_, _, _], _ => rfl) (F.okN sc_Shelf_put (fun vs H Q E h => ?_) (fun cdv A outer s H vs Q E hr h => ?_))
  · obtain ⟨z, B, t, d, rfl, _⟩ := h
    rfl
  · obtain ⟨z, B, t, d, rfl, hd, hz, hB, q⟩ := h
    refine ⟨_, (pss_cons (ps_expr (pe_bm PySem.F.plainAttrs_list PySem.F.slot_list_append PySem.F.type_list_append mt_append (pe_ix ix_list (pe_fld (pv 0) rfl) (pv 1) (fun _ _ => rfl)) (pa_cons (pv 2) pa_nil)))
      (pss_one (ps_expr (pe_bm PySem.F.plainAttrs_list PySem.F.slot_list_append PySem.F.type_list_append mt_append (pe_fld (pv 0) rfl) (pa_cons (pe_tup (pa_cons (pv 1) (pa_cons (pv 2) pa_nil))) pa_nil))))), ?_⟩
    walk_at "un"
    obtain ⟨us, u1, u2⟩ := hz.done
    have hl := hz.szt d hd
    have hsd := hz.szd
    have hul : us.length = z.ds.length := Paired.length u2
    have hlm : (List.map V.str (z.ts d)).length = (z.ts d).length := List.length_map _
    refine ⟨_, _, _, hz.ins, T.c_Shelf, T.a_lying, _, sh_ly _ _ _, _, rfl, _, SqL.of hz.lying, _, at3 hd, tyL (hz.dr d hd), app1 (hz.dr d hd) (szl (by omega)) ?_⟩
    obtain ⟨H1, hE1⟩ : ∃ H1, upd H (z.la d) (.lst ((z.ts d).map V.str ++ [V.str t])) = H1 := ⟨_, rfl⟩
    have k1 : ∀ a, a ≠ z.la d → H1 a = H a := fun a ne => by rw [← hE1]; exact upd_ne ne
    have l1 : H1 (z.la d) = some (.lst ((z.ts d ++ [t]).map V.str)) := by rw [← hE1, upd_same]; simp
    have t1 : TK H H1 := by rw [← hE1]; exact TK.put (hz.dr d hd) rfl
    simp only [hE1]
    have xne : ∀ {a us}, H a = some (.lst us) → z.x ≠ a := fun {a us} e h => by rw [← h, hz.ins] at e; cases e
    have x1 : H1 z.x = some (.ins (He.ga K "Shelf") z.dx (shF z.bg z.ly z.dn)) := by rw [k1 _ (xne (hz.dr d hd))]; exact hz.ins
    have d1 : H1 z.dn = some (.lst us) := by rw [k1 _ (fun h => hz.dn_la d hd h.symm)]; exact u1
    refine ⟨_, _, _, x1, T.c_Shelf, T.a_done, _, sh_dn _ _ _, tyL d1, sz (by decide), fun p np => ?_⟩
    obtain ⟨H2, hE2, s2, e2⟩ := fr np (.tup [V.int (d : Int), V.str t])
    simp only [hE2]
    refine app1 (s2 _ _ d1) (szl (by omega)) ?_
    obtain ⟨H3, hE3⟩ : ∃ H3, upd H2 z.dn (.lst (us ++ [V.ref p])) = H3 := ⟨_, rfl⟩
    have k3 : ∀ a, a ≠ z.dn → H3 a = H2 a := fun a ne => by rw [← hE3]; exact upd_ne ne
    have d3 : H3 z.dn = some (.lst (us ++ [V.ref p])) := by rw [← hE3]; exact upd_same
    have t3 : TK H2 H3 := by rw [← hE3]; exact TK.put (s2 _ _ d1) rfl
    simp only [hE3]
    have tk := t1.trans ((TK.same s2).trans t3)
    have pn : p ≠ z.dn := fun e => by rw [e, d1] at np; cases np
    have far : ∀ a u, a ≠ z.la d → a ≠ z.dn → H a = some u → H3 a = some u := fun a u n1 n2 e => by rw [k3 a n2]; exact s2 _ _ (by rw [k1 a n1]; exact e)
    refine q { z with ts := setF z.ts d (z.ts d ++ [t]), ds := z.ds ++ [((d : Int), some t)] } H3 rfl rfl rfl rfl ⟨tk, fun a u e n => far a u (fun h => n (h ▸ mut_la hd)) (fun h => n (h ▸ .inr (.inl rfl))) e, fun a m => .inl m⟩
      ⟨far _ _ (xne (hz.dr d hd)) (xne u1) hz.ins, far _ _ (fun h => hz.ly_la d hd h.symm) hz.ly_dn hz.lying, fun i hi => ?_, ⟨_, d3, paired_snoc (pairK_tk u2 tk) ⟨p, rfl, SqT.of (by rw [k3 p pn]; exact e2)⟩⟩, hz.inj, hz.ly_la, hz.dn_la, hz.ly_dn, fun i hi => ?_, by simp; omega⟩
    · show H3 (z.la i) = some (.lst ((setF z.ts d (z.ts d ++ [t]) i).map V.str))
      by_cases e : i = d
      · rw [e, setF_same, k3 _ (hz.dn_la d hd)]
        exact s2 _ _ l1
      · rw [setF_ne e]
        exact far _ _ (fun h => e (hz.inj i d hi hd h)) (hz.dn_la i hi) (hz.dr i hi)
    · show (setF z.ts d (z.ts d ++ [t]) i).length ≤ B + 1
      by_cases e : i = d
      · rw [e, setF_same, List.length_append]
        simp
        omega
      · rw [setF_ne e]
        have := hz.szt i hi
        omega
/-! Shelf.clear -/
theorem sc_Shelf_clear : FnScope ["self", "drawer"] ["self", "drawer"] (defScope s_Shelf_clear) := ⟨rfl, rfl, rfl, by decide +kernel, rfl, by decide +kernel, by decide +kernel⟩
theorem M_Shelf_clear (T : Top K mg) : Mt P w K mg base CX0 1 "Shelf" "clear" ["self", "drawer"] (sp_clear K) := by
  obtain ⟨fd, F⟩ := T.D_Shelf_clear
  refine mk_mt F T.m_clear (fun _ _ _ _ _ _ us hl => match us, hl with | [_, _], _ => rfl) (F.okN sc_Shelf_clear (fun vs H Q E h => ?_) (fun cdv A outer s H vs Q E hr h => ?_))
  · obtain ⟨z, B, d, rfl, _⟩ := h
    rfl
  · obtain ⟨z, B, d, rfl, hd, hz, hB, q⟩ := h
    refine ⟨_, (pss_cons (ps_asg (pe_lst pa_nil) (pg_sub (pe_fld (pv 0) rfl) (pv 1) set_list))
      (pss_one (ps_expr (pe_bm PySem.F.plainAttrs_list PySem.F.slot_list_append PySem.F.type_list_append mt_append (pe_fld (pv 0) rfl) (pa_cons (pe_tup (pa_cons (pv 1) (pa_cons pe_non pa_nil))) pa_nil))))), ?_⟩
    walk_at "un"
    obtain ⟨us, u1, u2⟩ := hz.done
    have hsd := hz.szd
    have hul : us.length = z.ds.length := Paired.length u2
    refine ⟨Nat.zero_le _, fun p np => ?_⟩
    obtain ⟨H1, hE1, s1, e1⟩ := fr np (.lst [])
    simp only [hE1]
    refine ⟨_, _, _, s1 _ _ hz.ins, T.c_Shelf, T.a_lying, _, sh_ly _ _ _, z.ly, _, _, d, rfl, rfl, s1 _ _ hz.lying, ix3 hd, ?_⟩
    rw [set3 hd]
    obtain ⟨H2, hE2⟩ : ∃ H2, upd H1 z.ly (.lst [V.ref (setF z.la d p 0), V.ref (setF z.la d p 1), V.ref (setF z.la d p 2)]) = H2 := ⟨_, rfl⟩
    have k2 : ∀ a, a ≠ z.ly → H2 a = H1 a := fun a ne => by rw [← hE2]; exact upd_ne ne
    have l2 : H2 z.ly = some (.lst [V.ref (setF z.la d p 0), V.ref (setF z.la d p 1), V.ref (setF z.la d p 2)]) := by rw [← hE2]; exact upd_same
    have t2 : TK H1 H2 := by rw [← hE2]; exact TK.put (s1 _ _ hz.lying) rfl
    simp only [hE2]
    have xne : ∀ {a us}, H a = some (.lst us) → z.x ≠ a := fun {a us} e h => by rw [← h, hz.ins] at e; cases e
    have x2 : H2 z.x = some (.ins (He.ga K "Shelf") z.dx (shF z.bg z.ly z.dn)) := by rw [k2 _ (xne hz.lying)]; exact s1 _ _ hz.ins
    have d2 : H2 z.dn = some (.lst us) := by rw [k2 _ (fun h => hz.ly_dn h.symm)]; exact s1 _ _ u1
    refine ⟨_, _, _, x2, T.c_Shelf, T.a_done, _, sh_dn _ _ _, tyL d2, sz (by decide), fun c nc => ?_⟩
    obtain ⟨H3, hE3, s3, e3⟩ := fr nc (.tup [V.int (d : Int), V.non])
    simp only [hE3]
    refine app1 (s3 _ _ d2) (szl (by omega)) ?_
    obtain ⟨H4, hE4⟩ : ∃ H4, upd H3 z.dn (.lst (us ++ [V.ref c])) = H4 := ⟨_, rfl⟩
    have k4 : ∀ a, a ≠ z.dn → H4 a = H3 a := fun a ne => by rw [← hE4]; exact upd_ne ne
    have d4 : H4 z.dn = some (.lst (us ++ [V.ref c])) := by rw [← hE4]; exact upd_same
    have t4 : TK H3 H4 := by rw [← hE4]; exact TK.put (s3 _ _ d2) rfl
    simp only [hE4]
    have tk := (TK.same s1).trans (t2.trans ((TK.same s3).trans t4))
    have cn : c ≠ z.dn := fun e => by rw [e, d2] at nc; cases nc
    have far : ∀ a u, a ≠ z.ly → a ≠ z.dn → H1 a = some u → H4 a = some u := fun a u n1 n2 e => by rw [k4 a n2]; exact s3 _ _ (by rw [k2 a n1]; exact e)
    have ply : p ≠ z.ly := fun e => by rw [e, hz.lying] at np; cases np
    have pdn : p ≠ z.dn := fun e => by rw [e, u1] at np; cases np
    have pla : ∀ i, i < 3 → z.la i ≠ p := fun i hi e => by rw [← e, hz.dr i hi] at np; cases np
    refine q { z with la := setF z.la d p, ts := setF z.ts d [], ds := z.ds ++ [((d : Int), none)] } H4 rfl rfl rfl rfl ⟨tk, fun a u e n => far a u (fun h => n (h ▸ .inl rfl)) (fun h => n (h ▸ .inr (.inl rfl))) (s1 _ _ e), fun a m => ?_⟩
      ⟨far _ _ (xne hz.lying) (xne u1) (s1 _ _ hz.ins), by rw [k4 _ hz.ly_dn]; exact s3 _ _ l2, fun i hi => ?_, ⟨_, d4, paired_snoc (pairK_tk u2 tk) ⟨c, rfl, SqT.of (by rw [k4 c cn]; exact e3)⟩⟩, fun i j hi hj e => ?_, fun i hi => ?_, fun i hi => ?_, hz.ly_dn, fun i hi => ?_, by simp; omega⟩
    · rcases mut_cases m with m | m | ⟨i, hi, m⟩
      · exact .inl (.inl m)
      · exact .inl (.inr (.inl m))
      · by_cases e : i = d
        · refine .inr ?_
          rw [m, e]
          show H (setF z.la d p d) = none
          rw [setF_same]; exact np
        · refine .inl ?_
          rw [m]
          show z.mut (setF z.la d p i)
          rw [setF_ne e]; exact mut_la hi
    · show H4 (setF z.la d p i) = some (.lst ((setF z.ts d [] i).map V.str))
      by_cases e : i = d
      · rw [e, setF_same, setF_same]
        exact far _ _ ply pdn e1
      · rw [setF_ne e, setF_ne e]
        exact far _ _ (hz.ly_la i hi) (hz.dn_la i hi) (s1 _ _ (hz.dr i hi))
    · have e' : setF z.la d p i = setF z.la d p j := e
      by_cases a1 : i = d <;> by_cases a2 : j = d
      · rw [a1, a2]
      · rw [a1, setF_same, setF_ne a2] at e'
        exact absurd e'.symm (pla j hj)
      · rw [a2, setF_same, setF_ne a1] at e'
        exact absurd e' (pla i hi)
      · rw [setF_ne a1, setF_ne a2] at e'
        exact hz.inj i j hi hj e'
    · show setF z.la d p i ≠ z.ly
      by_cases e : i = d
      · rw [e, setF_same]; exact ply
      · rw [setF_ne e]; exact hz.ly_la i hi
    · show setF z.la d p i ≠ z.dn
      by_cases e : i = d
      · rw [e, setF_same]; exact pdn
      · rw [setF_ne e]; exact hz.dn_la i hi
    · show (setF z.ts d [] i).length ≤ B + 1
      by_cases e : i = d
      · rw [e, setF_same]; exact Nat.zero_le _
      · rw [setF_ne e]
        have := hz.szt i hi
        omega
/-! Shelf.rows -/
theorem sc_Shelf_rows : FnScope ["self", "drawer"] ["self", "drawer"] (defScope s_Shelf_rows) := ⟨rfl, rfl, rfl, by decide +kernel, rfl, by decide +kernel, by decide +kernel⟩
theorem M_Shelf_rows (T : Top K mg) : Mt P w K mg base CX0 1 "Shelf" "rows" ["self", "drawer"] (sp_rows K) := by
  obtain ⟨fd, F⟩ := T.D_Shelf_rows
  refine mk_mt F T.m_rows (fun _ _ _ _ _ _ us hl => match us, hl with | [_, _], _ => rfl) (F.okN sc_Shelf_rows (fun vs H Q E h => ?_) (fun cdv A outer s H vs Q E hr h => ?_))
  · obtain ⟨z, B, d, rfl, _⟩ := h
    rfl
  · obtain ⟨z, B, d, rfl, hd, hz, q⟩ := h
    refine ⟨_, (pss_one (ps_ret (pe_callTy (call_list_ofK (K := K) rfl) (by rfl) T.f_list (by decide +kernel) (pa_cons (pe_ix ix_list (pe_fld (pv 0) rfl) (pv 1) (fun _ _ => rfl)) pa_nil)))), ?_⟩
    walk_at "un"
    exact ⟨_, _, _, hz.ins, T.c_Shelf, T.a_lying, _, sh_ly _ _ _, _, rfl, _, SqL.of hz.lying, _, at3 hd, _, rfl, _, .inl (SqL.of (hz.dr d hd)), fun l nl => q l _ nl (L2.Same.new nl) upd_same⟩
/-! Shelf.strokes -/
theorem sc_Shelf_strokes : FnScope ["self"] ["self"] (defScope s_Shelf_strokes) := ⟨rfl, rfl, rfl, by decide +kernel, rfl, by decide +kernel, by decide +kernel⟩
theorem M_Shelf_strokes (T : Top K mg) : Mt P w K mg base CX0 1 "Shelf" "strokes" ["self"] (sp_strokes K) := by
  obtain ⟨fd, F⟩ := T.D_Shelf_strokes
  refine mk_mt F T.m_strokes (fun _ _ _ _ _ _ us hl => match us, hl with | [_], _ => rfl) (F.okN sc_Shelf_strokes (fun vs H Q E h => ?_) (fun cdv A outer s H vs Q E hr h => ?_))
  · obtain ⟨z, B, rfl, _⟩ := h
    rfl
  · obtain ⟨z, B, rfl, hz, q⟩ := h
    refine ⟨_, (pss_one (ps_ret (pe_callTy (call_list_ofK (K := K) rfl) (by rfl) T.f_list (by decide +kernel) (pa_cons (pe_fld (pv 0) rfl) pa_nil)))), ?_⟩
    walk_at "un"
    obtain ⟨us, u1, u2⟩ := hz.done
    exact ⟨_, _, _, hz.ins, T.c_Shelf, T.a_done, _, sh_dn _ _ _, _, rfl, _, .inl (SqL.of u1), fun l nl => q l us _ nl (L2.Same.new nl) upd_same (pairK_tk u2 (TK.new nl))⟩
/-! Shelf.fallen -/
theorem cut_all {us : List V} {n : Nat} (h : us.length ≤ n) : cutV us none (some ((n : Nat) : Int)) = us := by
  unfold cutV
  rw [HT.sIx_nat, HT.sIx_none, Nat.min_eq_right h]
  simp
theorem cut_none {us : List V} {n : Nat} (h : us.length ≤ n) : cutV us (some ((n : Nat) : Int)) (some (((n : Nat) : Int) + 1)) = [] := by
  have e : ((n : Nat) : Int) + 1 = ((n + 1 : Nat) : Int) := rfl
  unfold cutV
  rw [e, HT.sIx_nat, HT.sIx_nat, Nat.min_eq_right h, Nat.min_eq_right (by omega)]
  simp
theorem paired_mapR {α β γ : Type} {F : α → β → Prop} {g : γ → β} : ∀ {xs : List α} {ys : List γ}, Paired F xs (ys.map g) → Paired (fun a c => F a (g c)) xs ys
  | [], [], _ => .nil
  | [], _ :: _, h => nomatch h
  | _ :: _, [], h => nomatch h
  | _ :: _, _ :: _, .cons a b => .cons a (paired_mapR b)
theorem putsTo_len (i : Nat) (ps : List (Nat × Str)) : (putsTo i ps).length ≤ ps.length := by
  unfold putsTo
  rw [List.length_map]
  exact List.length_filter_le _ _
theorem putsTo_snoc (i : Nat) (ps : List (Nat × Str)) (p : Nat × Str) : putsTo i (ps ++ [p]) = if p.1 = i then putsTo i ps ++ [p.2] else putsTo i ps := by
  unfold putsTo
  rw [List.filter_append, List.map_append]
  by_cases h : p.1 = i
  · rw [if_pos h]; simp [h]
  · rw [if_neg h]; simp [h]
theorem sc_Shelf_fallen : FnScope ["self", "many", "signs", "lying", "drawer", "text", "other", "rows"] ["self", "many", "signs"] (defScope s_Shelf_fallen) := ⟨rfl, rfl, rfl, by decide +kernel, rfl, by decide +kernel, by decide +kernel⟩
theorem M_Shelf_fallen (T : Top K mg) (G_Shelf : It0 P w K mg base CX0 1 "Shelf" ["self"] (sp_sh_init K)) : Mt P w K mg base CX0 3 "Shelf" "fallen" ["self", "many", "signs"] (sp_fallen K) := by
  obtain ⟨fd, F⟩ := T.D_Shelf_fallen
  refine mk_mt F T.m_fallen (fun _ _ _ _ _ _ us hl => match us, hl with | [_, _, _], _ => rfl) (F.okN sc_Shelf_fallen (fun vs H Q E h => ?_) (fun cdv A outer s H vs Q E hr h => ?_))
  · obtain ⟨z, B, ps, rfl, _⟩ := h
    rfl
  · obtain ⟨z, B, ps, rfl, hz, hbg, hds, hps, hB, q⟩ := h
    refine ⟨_, (pss_cons (ps_setLc (i := 3) (own := [("rows", 7)]) (g := gName 7) (tt := tYes) rfl sc_Shelf_fallen.nd rfl rfl (sw_true rfl rfl rfl (by decide +kernel)) (pi_list (pe_fld (pv 0) rfl)) (blkOk_by (own := [("rows", 7)]) (N := ["self", "many", "signs", "lying", "drawer", "text", "other", "rows"]) (sc := defScope s_Shelf_fallen) (by decide +kernel)) (fun _ _ _ _ _ => (pg_name (i := 7) sc_Shelf_fallen.nd rfl (.inl rfl))) (fun _ _ _ _ _ => pts_nil) (fun _ _ _ _ _ => (pe_callTy (call_list_ofK (K := K) rfl) (by rfl) T.f_list (by decide +kernel) (pa_cons (pv 7) pa_nil))))
      (pss_cons (ps_for PassesOwn.never rfl (pi_list (pe_slice sl_list (pe_fld (pv 0) rfl) po_none (po_some (pv 1)))) (pg_tup (n := 2) rfl (pgs_cons (pg_name (i := 4) sc_Shelf_fallen.nd rfl (.inl rfl)) (pgs_cons (pg_name (i := 5) sc_Shelf_fallen.nd rfl (.inl rfl)) pgs_nil))) (pss_one (ps_if (pt_cmpR op_isN (pv 5) pe_non (nomark _)) (pss_one (ps_asg (pe_lst pa_nil) (pg_sub (pv 3) (pv 4) set_list))) (pss_one (ps_expr (pe_bm PySem.F.plainAttrs_list PySem.F.slot_list_append PySem.F.type_list_append mt_append (pe_ix ix_list (pv 3) (pv 4) (fun _ _ => rfl)) (pa_cons (pv 5) pa_nil)))))))
      (pss_cons (ps_for PassesOwn.never rfl (pi_list (pe_slice sl_list (pe_fld (pv 0) rfl) (po_some (pv 1)) (po_some (pe_op op_add (pv 1) pe_int)))) (pg_tup (n := 2) rfl (pgs_cons (pg_name (i := 4) sc_Shelf_fallen.nd rfl (.inl rfl)) (pgs_cons (pg_name (i := 5) sc_Shelf_fallen.nd rfl (.inl rfl)) pgs_nil))) (pss_one (ps_if (PW.pt (pw_and (pt_cmpR op_notN (pv 5) pe_non (nomark _)) (pw_and1 (pt_cmpR op_ne (pe_slice sl_str (pv 5) po_none (po_some (pv 2))) pe_str (nomark _))))) (pss_one (ps_expr (pe_bm PySem.F.plainAttrs_list PySem.F.slot_list_append PySem.F.type_list_append mt_append (pe_ix ix_list (pv 3) (pv 4) (fun _ _ => rfl)) (pa_cons (pe_slice sl_str (pv 5) po_none (po_some (pv 2))) pa_nil)))) pss_nil)))
      (pss_cons (ps_set (i := 6) sc_Shelf_fallen.nd rfl (.inl rfl) (pe_it0 G_Shelf (hr.mono (by decide)) (by rfl) pass0))
      (pss_cons (ps_fld (pv 6) (pe_lc (own := [("rows", 7)]) (g := gName 7) (tt := tYes) rfl sc_Shelf_fallen.nd (pi_list (pv 3)) (blkOk_by (own := [("rows", 7)]) (N := ["self", "many", "signs", "lying", "drawer", "text", "other", "rows"]) (sc := defScope s_Shelf_fallen) (by decide +kernel)) (fun _ _ _ _ _ => (pg_name (i := 7) sc_Shelf_fallen.nd rfl (.inl rfl))) (fun _ _ _ _ _ => pts_nil) (fun _ _ _ _ _ => (pe_callTy (call_list_ofK (K := K) rfl) (by rfl) T.f_list (by decide +kernel) (pa_cons (pv 7) pa_nil)))) rfl)
      (pss_cons (ps_fld (pv 6) (pe_lc (own := [("rows", 7)]) (g := gName 7) (tt := tYes) rfl sc_Shelf_fallen.nd (pi_list (pv 3)) (blkOk_by (own := [("rows", 7)]) (N := ["self", "many", "signs", "lying", "drawer", "text", "other", "rows"]) (sc := defScope s_Shelf_fallen) (by decide +kernel)) (fun _ _ _ _ _ => (pg_name (i := 7) sc_Shelf_fallen.nd rfl (.inl rfl))) (fun _ _ _ _ _ => pts_nil) (fun _ _ _ _ _ => (pe_callTy (call_list_ofK (K := K) rfl) (by rfl) T.f_list (by decide +kernel) (pa_cons (pv 7) pa_nil)))) rfl)
      (pss_one (ps_ret (pv 6))))))))), ?_⟩
    walk_at "un"
    obtain ⟨us, u1, u2⟩ := hz.done
    obtain ⟨b0, b1, b2, g1, g2, g3⟩ := hbg
    refine ⟨_, _, _, hz.ins, T.c_Shelf, T.a_began, _, sh_bg _ _ _, _, rfl, ⟨_, SqL.of g1⟩, fun D nD => ?_⟩
    refine lc_copy (c := fun i => if i = 0 then b0 else if i = 1 then b1 else b2) (tx := fun _ => []) g1 (fun i hi => ?_) (by simp) nD fun c H1 s1 eD hc inj => ?_
    · have a1 : i = 0 ∨ i = 1 ∨ i = 2 := by omega
      rcases a1 with rfl | rfl | rfl
      · exact (g2 b0 (.inl rfl)).1
      · exact (g2 b1 (.inr (.inl rfl))).1
      · exact (g2 b2 (.inr (.inr rfl))).1
    · refine ⟨_, _, _, s1 _ _ hz.ins, T.c_Shelf, T.a_done, _, sh_dn _ _ _, ?_⟩
      have pl : ps.length = z.ds.length := by rw [hds]; simp
      have ul : us.length = ps.length := by rw [pl]; exact Paired.length u2
      have hsd := hz.szd
      refine slL (s1 _ _ u1) fun c2 H2 n2 s2 e2 => ?_
      rw [cut_all (by omega)] at e2
      have S2 := s1.trans s2
      refine ⟨_, rfl, ⟨_, SqL.of e2⟩, ?_⟩
      have c2c : ∀ i, i < 3 → c i ≠ c2 := fun i hi => ne_of_none (hc i hi).1 n2
      have c2D : D ≠ c2 := ne_of_none eD n2
      rw [hds] at u2
      obtain ⟨I, hI⟩ : ∃ I : List (Nat × Str) → List (Nat × Str) → L2.St → Hp → Prop, I = fun d r σ H' => Same H H' ∧ H' D = some (.lst [V.ref (c 0), V.ref (c 1), V.ref (c 2)]) ∧ (∀ i, i < 3 → H' (c i) = some (.lst ((putsTo i d).map V.str))) ∧ H' c2 = some (.lst us) ∧ ∃ x y, σ = [some (V.ref z.x), some (V.int (z.ds.length : Nat)), some (V.int 0), some (V.ref D), x, y, none, none] := ⟨_, rfl⟩
      refine lp_list (paired_mapR u2) I (by rw [hI]; exact ⟨S2, s2 _ _ eD, fun i hi => s2 _ _ (hc i hi).1, e2, _, _, rfl⟩) (fun d r σ H' k => by rw [hI] at k; exact SqL.of k.2.2.2.1) ?_ ?_
      · rintro d v y r σ H' e ⟨a, rfl, k1⟩ k
        rw [hI] at k
        obtain ⟨f1, f2, f3, f4, x0, y0, rfl⟩ := k
        have hy : y.1 < 3 := hps y (by rw [e]; simp)
        have dl : ps.length = d.length + (r.length + 1) := by rw [e]; simp
        have pd := putsTo_len y.1 d
        walk_at "un"
        refine ⟨_, k1.tk (TK.same f1), rfl, _, _, rfl, _, _, rfl, rfl, ?_⟩
        rw [if_neg (by simp [optS])]
        refine ⟨_, _, rfl, SqL.of f2, _, at3 hy, tyL (f3 _ hy), app1 (f3 _ hy) (szl (by rw [List.length_map]; omega)) ?_⟩
        rw [hI]
        refine ⟨L2.Same.put f1 (hc _ hy).2.1, get_ne f2 (fun h => (hc _ hy).2.2 h.symm), fun i hi => ?_, get_ne f4 (fun h => c2c _ hy h.symm), _, _, rfl⟩
        rw [putsTo_snoc]
        by_cases hi2 : y.1 = i
        · rw [if_pos hi2, ← hi2, upd_same]
          simp [optS]
        · rw [if_neg hi2]
          exact get_ne (f3 i hi) (fun h => hi2 (inj _ _ hy hi h.symm))
      · intro σ H' k
        rw [hI] at k
        obtain ⟨f1, f2, f3, f4, x0, y0, rfl⟩ := k
        walk_at "un"
        refine ⟨_, _, _, f1 _ _ hz.ins, T.c_Shelf, T.a_done, _, sh_dn _ _ _, slL (f1 _ _ u1) fun c3 H3 n3 s3 e3 => ⟨_, rfl, ⟨_, SqL.of e3⟩, ?_⟩⟩
        have hcut : cutV us (some ((z.ds.length : Nat) : Int)) (some (((z.ds.length : Nat) : Int) + 1)) = [] := by
          have hle := cut_none (us := us) (n := z.ds.length) (by omega)
          exact hle
        rw [hcut] at e3
        have F3 := f1.trans s3
        refine lp_list (α := Unit) (F := fun _ _ => True) (as := []) .nil (fun d r σ H' => H' = H3 ∧ σ = [some (V.ref z.x), some (V.int (z.ds.length : Nat)), some (V.int 0), some (V.ref D), x0, y0, none, none]) ⟨rfl, rfl⟩ (fun d r σ H' k => by rw [k.1]; exact SqL.of e3) (fun d x y r σ H' e => by simp at e) ?_
        rintro σ H' ⟨rfl, rfl⟩
        walk_at "un"
        intro x dx nx ndx hne
        have tm : Same H' (upd (upd H' dx (.own x)) x (.ins (He.ga K "Shelf") dx [])) := (L2.Same.new ndx).trans (L2.Same.new (by rw [upd_ne (fun h => hne h.symm)]; exact nx))
        refine ⟨x, dx, rfl, upd_same, fun s0 H4 ex tk4 keep mutn tsn dsn sa _ => ?_⟩
        subst ex
        have s4 : Same H' H4 := fun a u e => keep a u (ne_of_none e nx) (tm _ _ e)
        have F4 := F3.trans s4
        have S34 := s3.trans s4
        refine ⟨rfl, ⟨_, SqL.of (S34 _ _ f2)⟩, fun D2 nD2 => ?_⟩
        refine lc_copy (c := c) (tx := fun i => (putsTo i ps).map V.str) (S34 _ _ f2) (fun i hi => S34 _ _ (f3 i hi)) (by simp) nD2 fun c4 H5 s5 eD2 hc4 _ => ?_
        refine ⟨_, _, _, s5 _ _ sa.ins, T.c_Shelf, T.a_began, Nat.le_of_ble_eq_true (by rfl), ?_⟩
        obtain ⟨H6, hE6⟩ : ∃ H6, upd H5 s0.x (.ins (He.ga K "Shelf") s0.dx (putF "began" (V.ref D2) (shF s0.bg s0.ly s0.dn))) = H6 := ⟨_, rfl⟩
        have k6 : ∀ a, a ≠ s0.x → H6 a = H5 a := fun a ne => by rw [← hE6]; exact upd_ne ne
        have x6 : H6 s0.x = some (.ins (He.ga K "Shelf") s0.dx (putF "began" (V.ref D2) (shF s0.bg s0.ly s0.dn))) := by rw [← hE6]; exact upd_same
        simp only [hE6]
        have xH : H s0.x = none := F3.none nx
        have F5 := F4.trans s5
        have F6 : Same H H6 := by rw [← hE6]; exact L2.Same.put F5 xH
        have D6 : H6 D = some (.lst [V.ref (c 0), V.ref (c 1), V.ref (c 2)]) := by
          have e := (S34.trans s5) _ _ f2
          rw [k6 _ (fun h => by rw [h] at f2; rw [s3 _ _ f2] at nx; cases nx)]
          exact e
        have c6 : ∀ i, i < 3 → H6 (c i) = some (.lst ((putsTo i ps).map V.str)) := fun i hi => by
          have e := (S34.trans s5) _ _ (f3 i hi)
          rw [k6 _ (fun h => by have g := f3 i hi; rw [h] at g; rw [s3 _ _ g] at nx; cases nx)]
          exact e
        refine ⟨⟨_, SqL.of D6⟩, fun D3 nD3 => ?_⟩
        refine lc_copy (c := c) (tx := fun i => (putsTo i ps).map V.str) D6 c6 (by simp) nD3 fun c7 H7 s7 eD3 hc7 inj7 => ?_
        refine ⟨_, _, _, s7 _ _ x6, T.c_Shelf, T.a_lying, Nat.le_of_ble_eq_true (by rfl), ?_⟩
        have x7 := s7 _ _ x6
        have F7 := F6.trans s7
        obtain ⟨us0, v1, v2⟩ := sa.done
        have dnx : s0.dn ≠ s0.x := fun h => by rw [h, sa.ins] at v1; cases v1
        have dn6 : H6 s0.dn = some (.lst us0) := by rw [k6 _ dnx]; exact s5 _ _ v1
        have far : ∀ {a u}, a ≠ s0.x → H7 a = some u → upd H7 s0.x (.ins (He.ga K "Shelf") s0.dx (putF "lying" (V.ref D3) (putF "began" (V.ref D2) (shF s0.bg s0.ly s0.dn)))) a = some u := fun {a u} ne e => get_ne e ne
        have lx : ∀ {a us}, H7 a = some (.lst us) → a ≠ s0.x := fun {a us} e h => by rw [h, x7] at e; cases e
        refine q ⟨s0.x, s0.dx, D2, D3, s0.dn, c7, fun i => putsTo i ps, []⟩ _ (L2.Same.put F7 xH) (fun a m => ?_) rfl (fun i _ => rfl)
          ⟨upd_same, far (lx eD3) eD3, fun i hi => far (lx (hc7 i hi).1) (hc7 i hi).1, ⟨us0, far dnx (s7 _ _ dn6), ?_⟩, inj7, fun i hi => (hc7 i hi).2.2, fun i hi h => ?_, fun h => ?_, fun i hi => ?_, Nat.zero_le _⟩
        · have fdn : H s0.dn = none := F3.none (tm.none (mutn _ (.inr (.inl rfl))))
          rcases m with m | m
          · rcases mut_cases m with m | m | ⟨i, hi, m⟩
            · rw [m]; exact F6.none nD3
            · rw [m]; exact fdn
            · rw [m]; exact F6.none (hc7 i hi).2.1
          · rw [m]; exact xH
        · rw [dsn] at v2
          cases v2
          exact .nil
        · have := (hc7 i hi).2.1
          rw [show c7 i = s0.dn from h, dn6] at this
          cases this
        · rw [show D3 = s0.dn from h, dn6] at nD3
          cases nD3
        · have := putsTo_len i ps
          show (putsTo i ps).length ≤ B
          omega
end
end HW
set_option Elab.async false
set_option linter.all false
set_option maxRecDepth 100000
set_option maxHeartbeats 4000000
namespace HW
open PySem PySem.Spec PyProof.Rows L2
local macro_rules | `(tactic| walk_at "un") => `(tactic| simp only [cxOf, tSeq, tNext, tIfS, tTest, tOp, tUn, tVar, tC, tRet, tRetN, tNever, tAsg, gName, gNil, gCons, gTup, eq_self, rListOf, Option.isSome_none, Option.isSome_some, gSub, tDrop, tCB, tCall, tCons, tNil, tTup, tLst, tB, tAnd, tOr, tNot, tAndV, tOrV, tNotV, tNoPart, tPart, tSl, tSl3, tBM, tM1, tDNewK, tDNewT, tDGet, tDIn, tDNotIn, sDPut, tYes, tFld, sFld, tMeth, tMake,
  for_L, for_T, for_R, for_S, lc_L, lc_T, lc_R, wipe, rI0, rU, rEq, rNe, rIxT, rIxL, rIxS, L2.start, List.map_cons, List.map_nil, List.length_cons, List.length_nil, Nat.reduceAdd, Nat.reduceSub, List.replicate_succ, List.replicate_zero, List.cons_append, List.nil_append, List.append_nil,
  List.getElem?_cons_zero, List.getElem?_cons_succ, List.set_cons_zero, List.set_cons_succ, Option.some.injEq, V.int.injEq, V.bl.injEq, V.str.injEq, V.ref.injEq, V.ty.injEq, List.cons.injEq, and_true, true_and, exists_eq_left, exists_eq_left', exists_and_left, exists_eq, scal, decide_eq_true_eq, reduceCtorEq, decide_false, decide_true, Bool.not_true, Bool.not_false, if_true, if_false, Bool.false_eq_true, ite_true, ite_false, Bool.not_eq_true', decide_eq_false_iff_not])
local macro_rules | `(tactic| walk_at "tk") => `(tactic| first | exact TK.refl _ | assumption | exact TK.same (by assumption) | (refine TK.trans ?_ (TK.new (by assumption)); walk_at "tk") | (refine TK.trans ?_ (TK.put (by assumption) rfl); walk_at "tk") | (refine TK.trans ?_ (TK.same (by assumption)); walk_at "tk"))
local macro_rules | `(tactic| walk_at "fz") => `(tactic| first | assumption | exact L2.SqT.tk (by assumption) (by walk_at "tk") | exact IsRch.tk (by assumption) (by walk_at "tk") | exact IsPlt.tk (by assumption) (by walk_at "tk") | exact IsStp.tk (by assumption) (by walk_at "tk") | exact IsRow.tk (by assumption) (by walk_at "tk") | exact IsEnt.tk (by assumption) (by walk_at "tk") | exact pairS_tk (by assumption) (by walk_at "tk") | exact pairE_tk (by assumption) (by walk_at "tk"))
local macro_rules | `(tactic| walk_at "sm") => `(tactic| first | exact L2.Same.refl _ | assumption | (refine L2.Same.trans ?_ (L2.Same.new (by assumption)); walk_at "sm") | (refine L2.Same.put ?_ (by assumption); walk_at "sm") | (refine L2.Same.trans ?_ (by assumption); walk_at "sm"))
local macro_rules | `(tactic| walk_at "jk") => `(tactic| first | exact ⟨_, rfl⟩ | exact ⟨_, _, rfl, rfl⟩ | exact ⟨⟨_, rfl⟩, _, rfl⟩ | exact ⟨_, rfl, _, rfl⟩ | simp)

section
variable {P : Program} {w : World} {K : PySem.W.Frag} {mg : Str → Option Value} {base : Heap}

/-! newest_card -/
def IsBest (K : PySem.W.Frag) (ns : List Str) (H : Hp) (v : V) : Option (Nat × Crd) → Prop
  | none => v = .non
  | some (d, c) => ∃ a u, v = .ref a ∧ SqT K H a [.int (d : Nat), u] ∧ IsCrd K ns H u c
theorem IsBest.sm {K : PySem.W.Frag} {ns : List Str} {H H' : Hp} {v : V} {o : Option (Nat × Crd)} (h : IsBest K ns H v o) (s : Same H H') : IsBest K ns H' v o := by
  cases o with
  | none => exact h
  | some dc =>
    obtain ⟨d, c⟩ := dc
    obtain ⟨a, u, e, h1, h2⟩ := h
    exact ⟨a, u, e, h1.tk (TK.same s), h2.sm s⟩
def newD (o1 o2 : Option Crd) : List Nat → Option (Nat × Crd)
  | [] => none
  | [_] => newest o1 none
  | _ => newest o1 o2
theorem sc_newest_card : FnScope ["shelf", "best", "drawer", "card"] ["shelf"] (defScope s_newest_card) := ⟨rfl, rfl, rfl, by decide +kernel, rfl, by decide +kernel, by decide +kernel⟩
theorem F_newest_card (T : Top K mg) (G_card_in : Fn P w K mg base CX0 6 "card_in" ["rows"] (sp_card_in K)) (M_rows : Mt P w K mg base CX0 1 "Shelf" "rows" ["self", "drawer"] (sp_rows K)) : Fn P w K mg base CX0 7 "newest_card" ["shelf"] (sp_newest_card K) := by
  obtain ⟨fd, F⟩ := T.D_newest_card
  obtain ⟨f_rows, fd_rows, G_rows, m_rows, b_rows⟩ := M_rows.ex
  refine mk_fn F T.g_newest_card (fun _ _ _ _ _ _ us hl => match us, hl with | [_], _ => rfl) (F.okN sc_newest_card (fun vs H Q E h => ?_) (fun cdv A outer s H vs Q E hr h => ?_))
  · obtain ⟨ns, wd, z, B, r1, r2, o1, o2, rfl, _⟩ := h
    rfl
  · obtain ⟨ns, wd, z, B, r1, r2, o1, o2, rfl, hz, t1, t2, c1, c2, hns, hn3, hB, qN, qS⟩ := h
    refine ⟨_, (pss_cons (ps_set (i := 1) sc_newest_card.nd rfl (.inl rfl) pe_non)
      (pss_cons (ps_for PassesOwn.never rfl (pi_tup (pe_tup (pa_cons pe_int (pa_cons pe_int pa_nil)))) (pg_name (i := 2) sc_newest_card.nd rfl (.inl rfl)) (pss_cons (ps_set (i := 3) sc_newest_card.nd rfl (.inl rfl) (pe_fn G_card_in (hr.mono (by decide)) (by rfl) pass0 (pa_cons (pe_meth (pv 0) T.c_Shelf m_rows G_rows (hr.mono (by decide)) b_rows .nil pass0 (pa_cons (pv 2) pa_nil)) pa_nil)))
      (pss_one (ps_if (PW.pt (pw_and (pt_cmpR op_notN (pv 3) pe_non (nomark _)) (pw_and1 (PW.pt (pw_or (pt_cmpR op_isN (pv 1) pe_non (nomark _)) (pw_or1 (pt_cmpR op_gt (pe_ix ix_tup (pe_ix ix_tup (pv 3) pe_int (fun _ _ => rfl)) pe_int (fun _ _ => rfl)) (pe_ix ix_tup (pe_ix ix_tup (pe_ix ix_tup (pv 1) pe_int (fun _ _ => rfl)) pe_int (fun _ _ => rfl)) pe_int (fun _ _ => rfl)) (nomark _)))))))) (pss_one (ps_set (i := 1) sc_newest_card.nd rfl (.inl rfl) (pe_tup (pa_cons (pv 2) (pa_cons (pv 3) pa_nil))))) pss_nil))))
      (pss_one (ps_ret (pv 1))))), ?_⟩
    walk_at "un"
    refine ⟨sz (by decide), fun p np => ?_⟩
    obtain ⟨H1, hE1, s1, e1⟩ := fr np (.tup [V.int 1, V.int 2])
    simp only [hE1]
    refine ⟨⟨_, SqT.of e1⟩, ?_⟩
    have pr : Paired (fun (v : V) (j : Nat) => v = .int (j : Int)) [V.int 1, V.int 2] [1, 2] := .cons rfl (.cons rfl .nil)
    obtain ⟨I, hI⟩ : ∃ I : List Nat → List Nat → L2.St → Hp → Prop, I = fun d r σ H' => Same H1 H' ∧ ∃ best x y, IsBest K ns H' best (newD o1 o2 d) ∧ σ = [some (.ref z.x), some best, x, y] := ⟨_, rfl⟩
    refine lp_tup pr I (by rw [hI]; exact ⟨L2.Same.refl _, _, _, _, rfl, rfl⟩) (fun d r σ H' k => by rw [hI] at k; exact SqT.of (k.1 _ _ e1)) ?_ ?_
    · rintro d _ y r σ H' e rfl k
      rw [hI] at k
      obtain ⟨f1, best, x0, y0, hb, rfl⟩ := k
      have F1 := s1.trans f1
      have hzH := hz.same F1
      have hcase : (d = [] ∧ y = 1 ∧ r = [2]) ∨ (d = [1] ∧ y = 2 ∧ r = []) := by
        match d, e with
        | [], e => simp at e; exact .inl ⟨rfl, e.1.symm, e.2.symm⟩
        | [a], e => simp at e; exact .inr ⟨by rw [← e.1], e.2.1.symm, e.2.2⟩
        | a :: b :: c, e => simp at e
      have hy : y < 3 := by rcases hcase with ⟨_, rfl, _⟩ | ⟨_, rfl, _⟩ <;> decide
      obtain ⟨rr, o, ht, hrd, hN, hS0, hS1⟩ : ∃ rr o, z.ts y = rr.map jn ∧ RdC ns wd rr o ∧ (o = none → newD o1 o2 (d ++ [y]) = newD o1 o2 d) ∧ (∀ c, o = some c → newD o1 o2 d = none → newD o1 o2 (d ++ [y]) = some (y, c)) ∧
          ∀ c d2 c2, o = some c → newD o1 o2 d = some (d2, c2) → newD o1 o2 (d ++ [y]) = if c2.num < c.num then some (y, c) else some (d2, c2) := by
        rcases hcase with ⟨rfl, rfl, _⟩ | ⟨rfl, rfl, _⟩
        · exact ⟨r1, o1, t1, c1, (fun h => by rw [h]; rfl), (fun c h _ => by rw [h]; rfl), fun c d2 c2 _ h => by cases h⟩
        · refine ⟨r2, o2, t2, c2, (fun h => by rw [h]; rfl), (fun c h h2 => ?_), fun c d2 c2 h h2 => ?_⟩
          · cases o1 with
            | none => rw [h]; rfl
            | some x => cases h2
          · cases o1 with
            | none => cases h2
            | some x =>
              cases h2
              rw [h]
              rfl
      walk_at "un"
      refine ⟨_, _, hzH.ins, rfl, z, B, y, rfl, hy, hzH, fun ra H2 nr s2 e2 => ?_⟩
      have hrl : rr.length ≤ 1000 := by
        have a := hz.szt y hy
        rw [ht, List.length_map] at a
        omega
      refine ⟨ns, wd, ra, rr, o, rfl, by rw [e2, ht, List.map_map]; rfl, hrd, hns, hn3, hrl, fun ho H3 s3 => ?_, fun c v H3 ho s3 hv => ?_⟩
      · dsimp only
        rw [if_neg (by simp), hI]
        refine ⟨f1.trans (s2.trans s3), _, _, _, ?_, rfl⟩
        rw [hN ho]
        exact hb.sm (s2.trans s3)
      · obtain ⟨va, vb, vl, vus, rfl, v1, v2, v3, v4⟩ := hv
        rw [if_pos (by simp)]
        cases hnd : newD o1 o2 d with
        | none =>
          rw [hnd] at hb
          rw [if_pos (show best = .non from hb)]
          refine ⟨sz (by decide), fun p5 np5 => ?_⟩
          have s5 := L2.Same.new (o := .tup [V.int (y : Int), V.ref va]) np5
          rw [hI]
          refine ⟨f1.trans (s2.trans (s3.trans s5)), _, _, _, ?_, rfl⟩
          rw [hS0 c ho hnd]
          exact ⟨p5, _, rfl, SqT.of upd_same, IsCrd.sm ⟨va, vb, vl, vus, rfl, v1, v2, v3, v4⟩ s5⟩
        | some dc =>
          obtain ⟨d2, c2⟩ := dc
          rw [hnd] at hb
          obtain ⟨ba, bu, rfl, b1, wa, wb, wl, wus, rfl, w1, w2, w3, w4⟩ := hb
          rw [if_neg (by simp)]
          have S3 := s2.trans s3
          refine ⟨_, rfl, _, v1, _, rfl, _, rfl, _, v2, _, rfl, _, rfl, _, b1.tk (TK.same S3), _, rfl, _, rfl, _, w1.tk (TK.same S3), _, rfl, _, rfl, _, w2.tk (TK.same S3), _, rfl, ?_⟩
          refine ⟨_, rfl, _, rfl, ?_⟩
          by_cases hc : c2.num < c.num
          · rw [if_pos hc]
            refine ⟨sz (by decide), fun p5 np5 => ?_⟩
            have s5 := L2.Same.new (o := .tup [V.int (y : Int), V.ref va]) np5
            rw [hI]
            refine ⟨f1.trans (s2.trans (s3.trans s5)), _, _, _, ?_, rfl⟩
            rw [hS1 c d2 c2 ho hnd, if_pos hc]
            exact ⟨p5, _, rfl, SqT.of upd_same, IsCrd.sm ⟨va, vb, vl, vus, rfl, v1, v2, v3, v4⟩ s5⟩
          · rw [if_neg hc, hI]
            refine ⟨f1.trans (s2.trans s3), _, _, _, ?_, rfl⟩
            rw [hS1 c d2 c2 ho hnd, if_neg hc]
            exact IsBest.sm (o := some (d2, c2)) ⟨ba, _, rfl, b1, wa, wb, wl, wus, rfl, w1, w2, w3, w4⟩ S3
    · rintro σ H' k
      rw [hI] at k
      obtain ⟨f1, best, x0, y0, hb, rfl⟩ := k
      walk_at "un"
      rw [show newD o1 o2 [1, 2] = newest o1 o2 from rfl] at hb
      cases ho : newest o1 o2 with
      | none =>
        rw [ho] at hb
        rw [show best = .non from hb]
        exact qN ho H' (s1.trans f1)
      | some dc =>
        obtain ⟨d, c⟩ := dc
        rw [ho] at hb
        obtain ⟨a, u, rfl, h1, h2⟩ := hb
        exact qS d c a u H' ho (s1.trans f1) h1 h2
/-! Keeper.now -/
theorem sc_Keeper_now : FnScope ["self"] ["self"] (defScope s_Keeper_now) := ⟨rfl, rfl, rfl, by decide +kernel, rfl, by decide +kernel, by decide +kernel⟩
theorem M_Keeper_now (T : Top K mg) : Mt P w K mg base CX0 1 "Keeper" "now" ["self"] (sp_now K) := by
  obtain ⟨fd, F⟩ := T.D_Keeper_now
  refine mk_mt F T.m_now (fun _ _ _ _ _ _ us hl => match us, hl with | [_], _ => rfl) (F.okN sc_Keeper_now (fun vs H Q E h => ?_) (fun cdv A outer s H vs Q E hr h => ?_))
  · obtain ⟨k, m, B, rfl, _⟩ := h
    rfl
  · obtain ⟨k, m, B, rfl, hk, q⟩ := h
    refine ⟨_, (pss_one (ps_ret (pe_fld (pv 0) rfl))), ?_⟩
    walk_at "un"
    exact ⟨_, _, _, hk.ins, T.c_Keeper, T.a_turn_now, _, kp_now .., q⟩
/-! Keeper.since -/
theorem sc_Keeper_since : FnScope ["self"] ["self"] (defScope s_Keeper_since) := ⟨rfl, rfl, rfl, by decide +kernel, rfl, by decide +kernel, by decide +kernel⟩
theorem M_Keeper_since (T : Top K mg) : Mt P w K mg base CX0 1 "Keeper" "since" ["self"] (sp_since K) := by
  obtain ⟨fd, F⟩ := T.D_Keeper_since
  refine mk_mt F T.m_since (fun _ _ _ _ _ _ us hl => match us, hl with | [_], _ => rfl) (F.okN sc_Keeper_since (fun vs H Q E h => ?_) (fun cdv A outer s H vs Q E hr h => ?_))
  · obtain ⟨k, m, B, rfl, _⟩ := h
    rfl
  · obtain ⟨k, m, B, rfl, hk, q⟩ := h
    refine ⟨_, (pss_one (ps_ret (pe_fld (pv 0) rfl))), ?_⟩
    walk_at "un"
    exact ⟨_, _, _, hk.ins, T.c_Keeper, T.a_known_from, _, kp_from .., q⟩
/-! Keeper.keys_of -/
theorem sc_Keeper_keys_of : FnScope ["self", "name", "form"] ["self", "name"] (defScope s_Keeper_keys_of) := ⟨rfl, rfl, rfl, by decide +kernel, rfl, by decide +kernel, by decide +kernel⟩
theorem M_Keeper_keys_of (T : Top K mg) : Mt P w K mg base CX0 1 "Keeper" "keys_of" ["self", "name"] (sp_keys_of K) := by
  obtain ⟨fd, F⟩ := T.D_Keeper_keys_of
  refine mk_mt F T.m_keys_of (fun _ _ _ _ _ _ us hl => match us, hl with | [_, _], _ => rfl) (F.okN sc_Keeper_keys_of (fun vs H Q E h => ?_) (fun cdv A outer s H vs Q E hr h => ?_))
  · obtain ⟨k, m, B, f, rfl, _⟩ := h
    rfl
  · obtain ⟨k, m, B, f, rfl, hk, hf, q⟩ := h
    refine ⟨_, (pss_cons (ps_for PassesOwn.never rfl (pi_list (pe_fld (pv 0) rfl)) (pg_name (i := 2) sc_Keeper_keys_of.nd rfl (.inl rfl)) (pss_one (ps_if (pt_cmpR op_eq (pe_ix ix_tup (pv 2) pe_int (fun _ _ => rfl)) (pv 1) (nomark _)) (pss_one (ps_ret (pe_ix ix_tup (pv 2) pe_int (fun _ _ => rfl)))) pss_nil)))
      (pss_one (ps_ret pe_int))), ?_⟩
    walk_at "un"
    obtain ⟨us, f1, f2⟩ := hk.forms
    refine ⟨_, _, _, hk.ins, T.c_Keeper, T.a_forms, _, kp_fm .., _, rfl, ⟨_, SqL.of f1⟩, ?_⟩
    refine lp_list f2 (fun d r σ H' => H' = H ∧ f ∈ r ∧ ∃ x, σ = [some (.ref k.x), some (.str f.name), x]) ⟨rfl, hf, _, rfl⟩ (fun d r σ H' z => by rw [z.1]; exact SqL.of f1) ?_ ?_
    · rintro d v y r σ H' e ⟨a, rfl, k1⟩ ⟨rfl, hm, x, rfl⟩
      walk_at "un"
      refine ⟨_, k1, _, rfl, ?_⟩
      walk_at "un"
      by_cases hc : y.name = f.name
      · rw [if_pos hc]
        have : y = f := name_inj2 hk.nd (by rw [e]; simp) hf hc
        exact ⟨_, k1, _, rfl, by rw [this]; exact q⟩
      · rw [if_neg hc]
        rcases List.mem_cons.mp hm with h | h
        · exact absurd (by rw [h]) hc
        · exact ⟨h, _, rfl⟩
    · rintro σ H' ⟨rfl, hm, x, rfl⟩
      cases hm
/-! Keeper.tables -/
theorem sc_Keeper_tables : FnScope ["self", "told", "form"] ["self"] (defScope s_Keeper_tables) := ⟨rfl, rfl, rfl, by decide +kernel, rfl, by decide +kernel, by decide +kernel⟩
theorem M_Keeper_tables (T : Top K mg) : Mt P w K mg base CX0 1 "Keeper" "tables" ["self"] (sp_tables K) := by
  obtain ⟨fd, F⟩ := T.D_Keeper_tables
  refine mk_mt F T.m_tables (fun _ _ _ _ _ _ us hl => match us, hl with | [_], _ => rfl) (F.okN sc_Keeper_tables (fun vs H Q E h => ?_) (fun cdv A outer s H vs Q E hr h => ?_))
  · obtain ⟨k, m, B, rfl, _⟩ := h
    rfl
  · obtain ⟨k, m, B, rfl, hk, q⟩ := h
    refine ⟨_, (pss_cons (ps_set (i := 1) sc_Keeper_tables.nd rfl (.inl rfl) pe_dnewK)
      (pss_cons (ps_for PassesOwn.never rfl (pi_list (pe_fld (pv 0) rfl)) (pg_name (i := 2) sc_Keeper_tables.nd rfl (.inl rfl)) (pss_one (ps_dput (hu_of hr) (pv 1) (pe_ix ix_tup (pv 2) pe_int (fun _ _ => rfl)) (pe_callTy (call_list_ofK (K := K) rfl) (by rfl) T.f_list (by decide +kernel) (pa_cons (pe_dget (hu_of hr) (pe_fld (pv 0) rfl) (pe_ix ix_tup (pv 2) pe_int (fun _ _ => rfl)) (fun _ _ => rfl)) pa_nil)) rfl)))
      (pss_one (ps_ret (pv 1))))), ?_⟩
    walk_at "un"
    intro p np
    obtain ⟨H1, hE1, s1, e1⟩ := fr np (.dK [])
    simp only [hE1]
    obtain ⟨us, f1, f2⟩ := hk.forms
    obtain ⟨kvs0, w1, w2, w3⟩ := hk.known
    refine ⟨_, _, _, s1 _ _ hk.ins, T.c_Keeper, T.a_forms, _, kp_fm .., _, rfl, ⟨_, SqL.of (s1 _ _ f1)⟩, ?_⟩
    obtain ⟨I, hI⟩ : ∃ I : List Frm → List Frm → L2.St → Hp → Prop, I = fun d r σ H' => Same H H' ∧ IsKn K H' p (d.map Frm.name) k.tb (fun b => H b = none) ∧ ∃ x, σ = [some (.ref k.x), some (.ref p), x] := ⟨_, rfl⟩
    refine lp_list f2 I (by rw [hI]; exact ⟨s1, ⟨[], e1, rfl, fun _ h => nomatch h⟩, _, rfl⟩) (fun d r σ H' z => by rw [hI] at z; exact SqL.of (z.1 _ _ f1)) ?_ ?_
    · rintro d v y r σ H' e ⟨a, rfl, k1⟩ z
      rw [hI] at z
      obtain ⟨g1, ⟨kvs, g2, g3, g4⟩, x, rfl⟩ := z
      have hy : y ∈ k.fs := by rw [e]; simp
      have dl : k.fs.length = d.length + (r.length + 1) := by rw [e]; simp
      have two := hk.two
      have kl : kvs.length = d.length := by have := congrArg List.length g3; simpa using this
      obtain ⟨b, hb, ⟨c, ts, hc, ht, htp⟩, hbm⟩ := w3 y.name (KpAt.name_mem hy)
      cases hc
      walk_at "un"
      refine ⟨_, _, _, g1 _ _ hk.ins, T.c_Keeper, T.a_known, _, kp_kd .., _, k1.tk (TK.same g1), _, rfl, _, rfl, _, by rw [← hb]; exact DGet.k (k := .inr y.name) (g1 _ _ w1), _, rfl, _, .inl (SqL.of (g1 _ _ ht)), fun l nl => ?_⟩
      have sl := L2.Same.new (o := .lst ts) nl
      refine ⟨_, (k1.tk (TK.same (g1.trans sl))), _, rfl, _, DPut.k (k := .inr y.name) (sl _ _ g2) (szl (by omega)), ?_⟩
      have tk := (TK.same sl).trans (TK.put (o := .dK (putK kvs (.inr y.name) (.ref l))) (sl _ _ g2) rfl)
      have hfree : valV kvs (.inr y.name) = none := by
        cases h : valV kvs (.inr y.name) with
        | none => rfl
        | some v =>
          have h1 := valV_in h
          rw [g3] at h1
          obtain ⟨n, hn, e2⟩ := List.mem_map.mp h1
          have e3 : n = y.name := Sum.inr.inj e2
          have nd := hk.nd
          unfold Kp.ns at nd
          rw [e, List.map_append, List.map_cons] at nd
          exact absurd e3 ((List.nodup_append.mp nd).2.2 n hn y.name List.mem_cons_self)
      rw [hI]
      refine ⟨L2.Same.put (g1.trans sl) np, ⟨_, upd_same, ?_, fun n hn => ?_⟩, _, rfl⟩
      · unfold putK
        rw [valV_any, hfree]
        simp [g3]
      · rw [List.map_append] at hn
        by_cases hny : n = y.name
        · rw [hny]
          exact ⟨l, by rw [valV_put, if_pos rfl], ⟨l, ts, rfl, get_put upd_same (sl _ _ g2) (fun z => nomatch z), pairE_tk htp ((TK.same g1).trans tk)⟩, g1.none nl⟩
        · rcases List.mem_append.mp hn with hn | hn
          · obtain ⟨b2, hb2, ⟨c2, ts2, hc2, ht2, htp2⟩, hf2⟩ := g4 n hn
            cases hc2
            exact ⟨b2, by rw [valV_put, if_neg (fun e => hny (Sum.inr.inj e))]; exact hb2, ⟨b2, ts2, rfl, get_put (sl _ _ ht2) (sl _ _ g2) (fun z => nomatch z), pairE_tk htp2 tk⟩, hf2⟩
          · exact absurd (by simpa using hn) hny
    · rintro σ H' z
      rw [hI] at z
      obtain ⟨g1, g2, x, rfl⟩ := z
      walk_at "un"
      exact q p H' np g1 g2
/-! Keeper.take_in -/
theorem sc_Keeper_take_in : FnScope ["self", "telling", "name"] ["self", "telling"] (defScope s_Keeper_take_in) := ⟨rfl, rfl, rfl, by decide +kernel, rfl, by decide +kernel, by decide +kernel⟩
theorem M_Keeper_take_in (T : Top K mg) (G_told_on : Fn P w K mg base CX0 4 "told_on" ["table", "keys", "telling", "turn"] (sp_told_on K)) (M_keys_of : Mt P w K mg base CX0 1 "Keeper" "keys_of" ["self", "name"] (sp_keys_of K)) : Mt P w K mg base CX0 5 "Keeper" "take_in" ["self", "telling"] (sp_take_in K) := by
  obtain ⟨fd, F⟩ := T.D_Keeper_take_in
  obtain ⟨f_keys_of, fd_keys_of, G_keys_of, m_keys_of, b_keys_of⟩ := M_keys_of.ex
  refine mk_mt F T.m_take_in (fun _ _ _ _ _ _ us hl => match us, hl with | [_, _], _ => rfl) (F.okN sc_Keeper_take_in (fun vs H Q E h => ?_) (fun cdv A outer s H vs Q E hr h => ?_))
  · obtain ⟨k, m, B, f, v, x, rfl, _⟩ := h
    rfl
  · obtain ⟨k, m, B, f, v, x, rfl, hk, hf, hx, hn, gl, hm, hnow, q⟩ := h
    refine ⟨_, (pss_cons (ps_fld (pv 0) (pe_op op_add (pe_fld (pv 0) rfl) pe_int) rfl)
      (pss_cons (ps_set (i := 2) sc_Keeper_take_in.nd rfl (.inl rfl) (pe_ix ix_tup (pv 1) pe_int (fun _ _ => rfl)))
      (pss_one (ps_dput (hu_of hr) (pe_fld (pv 0) rfl) (pv 2) (pe_fn G_told_on (hr.mono (by decide)) (by rfl) pass0 (pa_cons (pe_dget (hu_of hr) (pe_fld (pv 0) rfl) (pv 2) (fun _ _ => rfl)) (pa_cons (pe_meth (pv 0) T.c_Keeper m_keys_of G_keys_of (hr.mono (by decide)) b_keys_of .nil pass0 (pa_cons (pv 2) pa_nil)) (pa_cons (pv 1) (pa_cons (pe_fld (pv 0) rfl) pa_nil))))) rfl)))), ?_⟩
    walk_at "un"
    have t0 := hk.t0
    refine ⟨_, _, _, hk.ins, T.c_Keeper, T.a_turn_now, _, kp_now .., _, rfl, _, _, _, hk.ins, T.c_Keeper, T.a_turn_now, kp_len .., ?_⟩
    rw [put_now]
    have hf1 := hk.fld (now := k.now + 1) (since := k.since) hk.card (fun f hf => (hk.gt f hf).mono (Nat.le_refl _) (by omega)) hk.drs hk.n0 ⟨t0.1, by omega, by omega⟩
    obtain ⟨H1, hE1⟩ : ∃ H1, upd H k.x (.ins (He.ga K "Keeper") k.dx (kpF k.sh.x k.fm k.kd k.ca (k.now + 1) k.since)) = H1 := ⟨_, rfl⟩
    rw [hE1] at hf1 ⊢
    obtain ⟨hk1, mv1⟩ := hf1
    have hx1 := hx.tk mv1.1
    obtain ⟨ta, tu, rfl, k1, k2⟩ := hx1
    obtain ⟨kvs, w1, w2, w3⟩ := hk1.known
    obtain ⟨b, hb, ⟨c, ts, hc, ht, htp⟩, hbm⟩ := w3 f.name (KpAt.name_mem hf)
    cases hc
    have i1 : H1 k.x = some (.ins (He.ga K "Keeper") k.dx (kpF k.sh.x k.fm k.kd k.ca (k.now + 1) k.since)) := hk1.ins
    refine ⟨_, rfl, _, k1, _, rfl, _, _, _, i1, T.c_Keeper, T.a_known, _, kp_kd .., _, rfl, _, by rw [hn, ← hb]; exact DGet.k (k := .inr f.name) w1, _, _, i1, rfl, ?_⟩
    refine ⟨_, m, B, f, by rw [hn], hk1, hf, ?_⟩
    refine ⟨_, _, _, i1, T.c_Keeper, T.a_turn_now, _, kp_now .., ?_⟩
    refine ⟨b, ts, k.tb f.name, m, k.now, f.width, f.keys, .ref ta, x, rfl, ht, htp, ⟨ta, tu, rfl, k1, k2⟩, gl, hk.gt f hf, hm, by omega, fun a ws qs H2 na s2 ea pr gt2 => ?_⟩
    have kl : kvs.length ≤ 3 := by
      have e := congrArg List.length w2
      simp only [List.length_map, Kp.ns] at e
      have := hk.two
      omega
    refine ⟨_, _, _, s2 _ _ i1, T.c_Keeper, T.a_known, _, kp_kd .., _, rfl, _, by rw [hn]; exact DPut.k (k := .inr f.name) (s2 _ _ w1) (szl (by omega)), ?_⟩
    have hk2 := (hk1.same s2).turn (n := m + 2) (by omega)
    have nm : ¬ k.sh.mut a := fun h => by
      obtain ⟨us, e⟩ := hk1.shelf.mut_lst h
      rw [na] at e; cases e
    obtain ⟨hk3, mv3⟩ := hk2.kn (n := f.name) (s2 _ _ w1) (KpAt.name_mem hf) ea pr ⟨nm, fun h => by
      obtain ⟨⟨u, e⟩, _⟩ := hk1.zt a h
      rw [na] at e; cases e⟩ (fun f2 hf2 e => by
      have : f2 = f := name_inj2 hk.nd hf2 hf e
      rw [this]; exact gt2)
    refine q { k with now := k.now + 1, tb := fun x => if x = f.name then qs else k.tb x } _ ⟨rfl, rfl, rfl, rfl⟩ rfl rfl rfl rfl rfl (mv1.trans ((Mv.same s2).trans mv3)) ?_
    exact hk3
/-! Keeper.said -/
theorem sc_Keeper_said : FnScope ["self", "telling"] ["self", "telling"] (defScope s_Keeper_said) := ⟨rfl, rfl, rfl, by decide +kernel, rfl, by decide +kernel, by decide +kernel⟩
theorem M_Keeper_said (T : Top K mg) (G_check_telling : Fn P w K mg base CX0 2 "check_telling" ["shapes", "telling"] (sp_check_telling K)) (G_write_telling : Fn P w K mg base CX0 3 "write_telling" ["turn", "telling"] (sp_write_telling K)) (M_put : Mt P w K mg base CX0 1 "Shelf" "put" ["self", "drawer", "text"] (sp_put K)) (M_take_in : Mt P w K mg base CX0 5 "Keeper" "take_in" ["self", "telling"] (sp_take_in K)) : Mt P w K mg base CX0 6 "Keeper" "said" ["self", "telling"] (sp_said K) := by
  obtain ⟨fd, F⟩ := T.D_Keeper_said
  obtain ⟨f_put, fd_put, G_put, m_put, b_put⟩ := M_put.ex
  obtain ⟨f_take_in, fd_take_in, G_take_in, m_take_in, b_take_in⟩ := M_take_in.ex
  refine mk_mt F T.m_said (fun _ _ _ _ _ _ us hl => match us, hl with | [_, _], _ => rfl) (F.okN sc_Keeper_said (fun vs H Q E h => ?_) (fun cdv A outer s H vs Q E hr h => ?_))
  · obtain ⟨k, m, B, f, v, x, rfl, _⟩ := h
    rfl
  · obtain ⟨k, m, B, f, v, x, rfl, hk, hf, hx, hn, gl, hm, hnow, hB, q⟩ := h
    refine ⟨_, (pss_cons (ps_expr (pe_fn G_check_telling (hr.mono (by decide)) (by rfl) pass0 (pa_cons (pe_fld (pv 0) rfl) (pa_cons (pv 1) pa_nil))))
      (pss_cons (ps_expr (pe_meth (pe_fld (pv 0) rfl) T.c_Shelf m_put G_put (hr.mono (by decide)) b_put .nil pass0 (pa_cons pe_int (pa_cons (pe_fn G_write_telling (hr.mono (by decide)) (by rfl) pass0 (pa_cons (pe_op op_add (pe_fld (pv 0) rfl) pe_int) (pa_cons (pv 1) pa_nil))) pa_nil))))
      (pss_cons (ps_expr (pe_meth (pv 0) T.c_Keeper m_take_in G_take_in (hr.mono (by decide)) b_take_in .nil pass0 (pa_cons (pv 1) pa_nil)))
      (pss_one (ps_ret (pe_fld (pv 0) rfl)))))), ?_⟩
    walk_at "un"
    have t0 := hk.t0
    have fo := hk.fr f hf
    obtain ⟨us, f1, f2⟩ := hk.forms
    refine ⟨_, _, _, hk.ins, T.c_Keeper, T.a_forms, _, kp_fm .., k.fm, us, k.fs, f, v, x, rfl, f1, f2, hf, hk.nd, hx, hn, gl, ?_⟩
    refine ⟨_, _, _, hk.ins, T.c_Keeper, T.a_on_shelf, _, kp_sh .., _, rfl, _, _, hk.shelf.ins, rfl, _, _, _, hk.ins, T.c_Keeper, T.a_turn_now, _, kp_now .., _, rfl, ?_⟩
    refine ⟨_, v, x, f.width, f.keys, rfl, sm_small (by omega) (by omega), hx, gl, by rw [hn]; exact fo.1, fun z H1 s1 => ?_⟩
    have hk1 := hk.same s1
    refine ⟨k.sh, B, z, 0, rfl, by decide, hk1.shelf, by omega, fun s' H2 ex ebg ets eds mv2 ha => ?_⟩
    obtain ⟨hk2, mk2⟩ := hk1.sh mv2 ha ex
    refine ⟨_, _, hk2.ins, rfl, ?_⟩
    refine ⟨{ k with sh := s' }, m, B + 1, f, v, x, rfl, hk2, hf, hx.tk ((TK.same s1).trans mv2.1), hn, gl, hm, hnow, fun k' H3 ks esh edr enum enow esince mv3 hk3 => ?_⟩
    have ins3 := hk3.ins
    rw [ks.1] at ins3
    refine ⟨_, _, _, ins3, T.c_Keeper, T.a_turn_now, _, kp_now .., ?_⟩
    exact q k' H3 ⟨ks.1, ks.2.1, ks.2.2.1.trans ex, ks.2.2.2⟩ edr enum enow esince ((Mv.same s1).trans (mk2.trans mv3)) hk3
/-! Keeper.tell -/
theorem sc_Keeper_tell : FnScope ["self", "name", "row", "low", "high"] ["self", "name", "row", "low", "high"] (defScope s_Keeper_tell) := ⟨rfl, rfl, rfl, by decide +kernel, rfl, by decide +kernel, by decide +kernel⟩
theorem M_Keeper_tell (T : Top K mg) (M_said : Mt P w K mg base CX0 6 "Keeper" "said" ["self", "telling"] (sp_said K)) : Mt P w K mg base CX0 7 "Keeper" "tell" ["self", "name", "row", "low", "high"] (sp_tell K true) := by
  obtain ⟨fd, F⟩ := T.D_Keeper_tell
  obtain ⟨f_said, fd_said, G_said, m_said, b_said⟩ := M_said.ex
  refine mk_mt F T.m_tell (fun _ _ _ _ _ _ us hl => match us, hl with | [_, _, _, _, _], _ => rfl) (F.okN sc_Keeper_tell (fun vs H Q E h => ?_) (fun cdv A outer s H vs Q E hr h => ?_))
  · obtain ⟨k, m, B, f, u, x, rfl, _⟩ := h
    rfl
  · obtain ⟨k, m, B, f, u, x, rfl, hxt, hk, hf, hu, hn, gl, hm, hnow, hB, q⟩ := h
    refine ⟨_, (pss_one (ps_ret (pe_meth (pv 0) T.c_Keeper m_said G_said (hr.mono (by decide)) b_said .nil pass0 (pa_cons (pe_tup (pa_cons pe_str (pa_cons (pv 1) (pa_cons (pv 2) (pa_cons (pv 3) (pa_cons (pv 4) pa_nil)))))) pa_nil)))), ?_⟩
    walk_at "un"
    refine ⟨_, _, hk.ins, rfl, sz (by decide), fun p np => ?_⟩
    have s := L2.Same.new (o := .tup [V.str "tell", V.str x.name, u, optV x.lo, optV x.hi]) np
    refine ⟨k, m, B, f, _, x, rfl, hk.same s, hf, ⟨p, u, rfl, by rw [hxt]; exact SqT.of upd_same, hu.tk (TK.same s)⟩, hn, gl, hm, hnow, hB, fun k' H' h1 h2 h3 h4 h5 h6 h7 => q k' H' h1 h2 h3 h4 h5 ((Mv.same s).trans h6) h7⟩
/-! Keeper.strike -/
theorem sc_Keeper_strike : FnScope ["self", "name", "key", "low", "high"] ["self", "name", "key", "low", "high"] (defScope s_Keeper_strike) := ⟨rfl, rfl, rfl, by decide +kernel, rfl, by decide +kernel, by decide +kernel⟩
theorem M_Keeper_strike (T : Top K mg) (M_said : Mt P w K mg base CX0 6 "Keeper" "said" ["self", "telling"] (sp_said K)) : Mt P w K mg base CX0 7 "Keeper" "strike" ["self", "name", "key", "low", "high"] (sp_tell K false) := by
  obtain ⟨fd, F⟩ := T.D_Keeper_strike
  obtain ⟨f_said, fd_said, G_said, m_said, b_said⟩ := M_said.ex
  refine mk_mt F T.m_strike (fun _ _ _ _ _ _ us hl => match us, hl with | [_, _, _, _, _], _ => rfl) (F.okN sc_Keeper_strike (fun vs H Q E h => ?_) (fun cdv A outer s H vs Q E hr h => ?_))
  · obtain ⟨k, m, B, f, u, x, rfl, _⟩ := h
    rfl
  · obtain ⟨k, m, B, f, u, x, rfl, hxt, hk, hf, hu, hn, gl, hm, hnow, hB, q⟩ := h
    refine ⟨_, (pss_one (ps_ret (pe_meth (pv 0) T.c_Keeper m_said G_said (hr.mono (by decide)) b_said .nil pass0 (pa_cons (pe_tup (pa_cons pe_str (pa_cons (pv 1) (pa_cons (pv 2) (pa_cons (pv 3) (pa_cons (pv 4) pa_nil)))))) pa_nil)))), ?_⟩
    walk_at "un"
    refine ⟨_, _, hk.ins, rfl, sz (by decide), fun p np => ?_⟩
    have s := L2.Same.new (o := .tup [V.str "strike", V.str x.name, u, optV x.lo, optV x.hi]) np
    refine ⟨k, m, B, f, _, x, rfl, hk.same s, hf, ⟨p, u, rfl, by rw [hxt]; exact SqT.of upd_same, hu.tk (TK.same s)⟩, hn, gl, hm, hnow, hB, fun k' H' h1 h2 h3 h4 h5 h6 h7 => q k' H' h1 h2 h3 h4 h5 ((Mv.same s).trans h6) h7⟩
end
end HW
set_option Elab.async false
set_option linter.all false
set_option maxRecDepth 100000
set_option maxHeartbeats 4000000
namespace HW
open PySem PySem.Spec PyProof.Rows L2
local macro_rules | `(tactic| walk_at "un") => `(tactic| simp only [cxOf, tSeq, tNext, tIfS, tTest, tOp, tUn, tVar, tC, tRet, tRetN, tNever, tAsg, gName, gNil, gCons, gTup, eq_self, rListOf, Option.isSome_none, Option.isSome_some, gSub, tDrop, tCB, tCall, tCons, tNil, tTup, tLst, tB, tAnd, tOr, tNot, tAndV, tOrV, tNotV, tNoPart, tPart, tSl, tSl3, tBM, tM1, tDNewK, tDNewT, tDGet, tDIn, tDNotIn, sDPut, tYes, tFld, sFld, tMeth, tMake,
  for_L, for_T, for_R, for_S, lc_L, lc_T, lc_R, wipe, rI0, rU, rEq, rNe, rIxT, rIxL, rIxS, L2.start, List.map_cons, List.map_nil, List.length_cons, List.length_nil, Nat.reduceAdd, Nat.reduceSub, List.replicate_succ, List.replicate_zero, List.cons_append, List.nil_append, List.append_nil,
  List.getElem?_cons_zero, List.getElem?_cons_succ, List.set_cons_zero, List.set_cons_succ, Option.some.injEq, V.int.injEq, V.bl.injEq, V.str.injEq, V.ref.injEq, V.ty.injEq, List.cons.injEq, and_true, true_and, exists_eq_left, exists_eq_left', exists_and_left, exists_eq, scal, decide_eq_true_eq, reduceCtorEq, decide_false, decide_true, Bool.not_true, Bool.not_false, if_true, if_false, Bool.false_eq_true, ite_true, ite_false, Bool.not_eq_true', decide_eq_false_iff_not])
local macro_rules | `(tactic| walk_at "tk") => `(tactic| first | exact TK.refl _ | assumption | exact TK.same (by assumption) | (refine TK.trans ?_ (TK.new (by assumption)); walk_at "tk") | (refine TK.trans ?_ (TK.put (by assumption) rfl); walk_at "tk") | (refine TK.trans ?_ (TK.same (by assumption)); walk_at "tk"))
local macro_rules | `(tactic| walk_at "fz") => `(tactic| first | assumption | exact L2.SqT.tk (by assumption) (by walk_at "tk") | exact IsRch.tk (by assumption) (by walk_at "tk") | exact IsPlt.tk (by assumption) (by walk_at "tk") | exact IsStp.tk (by assumption) (by walk_at "tk") | exact IsRow.tk (by assumption) (by walk_at "tk") | exact IsEnt.tk (by assumption) (by walk_at "tk") | exact pairS_tk (by assumption) (by walk_at "tk") | exact pairE_tk (by assumption) (by walk_at "tk"))
local macro_rules | `(tactic| walk_at "sm") => `(tactic| first | exact L2.Same.refl _ | assumption | (refine L2.Same.trans ?_ (L2.Same.new (by assumption)); walk_at "sm") | (refine L2.Same.put ?_ (by assumption); walk_at "sm") | (refine L2.Same.trans ?_ (by assumption); walk_at "sm"))
local macro_rules | `(tactic| walk_at "jk") => `(tactic| first | exact ⟨_, rfl⟩ | exact ⟨_, _, rfl, rfl⟩ | exact ⟨⟨_, rfl⟩, _, rfl⟩ | exact ⟨_, rfl, _, rfl⟩ | simp)

section
variable {P : Program} {w : World} {K : PySem.W.Frag} {mg : Str → Option Value} {base : Heap}

/-! Keeper.card -/
theorem frm_at {K : PySem.W.Frag} {H : Hp} {us1 us2 : List V} {a : Addr} {d r : List Frm} {y : Frm} (h : Paired (IsFrm K H) (us1 ++ .ref a :: us2) (d ++ y :: r)) (l : us1.length = d.length) : SqT K H a [.str y.name, .int (y.keys : Nat), .int (y.width : Nat)] := by
  have e : (us1 ++ V.ref a :: us2)[d.length]? = some (.ref a) := by rw [← l]; simp
  obtain ⟨z, hz, b, hb, hq⟩ := paired_get h e
  have : z = y := by simpa using hz.symm
  cases hb
  rw [this] at hq
  exact hq
theorem sc_Keeper_card : FnScope ["self", "turn", "form", "drawer", "many", "row", "plot"] ["self", "turn"] (defScope s_Keeper_card) := ⟨rfl, rfl, rfl, by decide +kernel, rfl, by decide +kernel, by decide +kernel⟩
theorem M_Keeper_card (T : Top K mg) (G_lift_table : Fn P w K mg base CX0 4 "lift_table" ["table", "word", "by"] (sp_lift_table K)) (G_write_first : Fn P w K mg base CX0 2 "write_first" ["number", "turn", "since"] sp_write_first) (G_write_last : Fn P w K mg base CX0 2 "write_last" ["many"] sp_write_last) (G_write_entry : Fn P w K mg base CX0 4 "write_entry" ["name", "row", "plot"] (sp_write_entry K)) (M_put : Mt P w K mg base CX0 1 "Shelf" "put" ["self", "drawer", "text"] (sp_put K)) (M_clear : Mt P w K mg base CX0 1 "Shelf" "clear" ["self", "drawer"] (sp_clear K)) : Mt P w K mg base CX0 5 "Keeper" "card" ["self", "turn"] (sp_card K) := by
  obtain ⟨fd, F⟩ := T.D_Keeper_card
  obtain ⟨f_put, fd_put, G_put, m_put, b_put⟩ := M_put.ex
  obtain ⟨f_clear, fd_clear, G_clear, m_clear, b_clear⟩ := M_clear.ex
  refine mk_mt F T.m_card (fun _ _ _ _ _ _ us hl => match us, hl with | [_, _], _ => rfl) (F.okN sc_Keeper_card (fun vs H Q E h => ?_) (fun cdv A outer s H vs Q E hr h => ?_))
  · obtain ⟨k, m, B, t, rfl, _⟩ := h
    rfl
  · obtain ⟨k, m, B, t, rfl, hk, h1, h2, hm, hB, hnum, q⟩ := h
    refine ⟨_, (pss_cons (ps_if (PW.pt (pw_or (pt_cmpR op_lt (pv 1) (pe_fld (pv 0) rfl) (nomark _)) (pw_or1 (pt_cmpR op_gt (pv 1) (pe_fld (pv 0) rfl) (nomark _))))) (pss_one (ps_never)) pss_nil)
      (pss_cons (ps_fld (pv 0) (pv 1) rfl)
      (pss_cons (ps_for PassesOwn.never rfl (pi_list (pe_fld (pv 0) rfl)) (pg_name (i := 2) sc_Keeper_card.nd rfl (.inl rfl)) (pss_one (ps_dput (hu_of hr) (pe_fld (pv 0) rfl) (pe_ix ix_tup (pv 2) pe_int (fun _ _ => rfl)) (pe_fn G_lift_table (hr.mono (by decide)) (by rfl) pass0 (pa_cons (pe_dget (hu_of hr) (pe_fld (pv 0) rfl) (pe_ix ix_tup (pv 2) pe_int (fun _ _ => rfl)) (fun _ _ => rfl)) (pa_cons pe_str (pa_cons (pv 1) pa_nil)))) rfl)))
      (pss_cons (ps_fld (pv 0) (pe_tup (pa_cons (pe_op op_sub pe_int (pe_ix ix_tup (pe_fld (pv 0) rfl) pe_int (fun _ _ => rfl))) (pa_cons (pe_op op_add (pe_ix ix_tup (pe_fld (pv 0) rfl) pe_int (fun _ _ => rfl)) pe_int) pa_nil))) rfl)
      (pss_cons (ps_set (i := 3) sc_Keeper_card.nd rfl (.inl rfl) (pe_ix ix_tup (pe_fld (pv 0) rfl) pe_int (fun _ _ => rfl)))
      (pss_cons (ps_expr (pe_meth (pe_fld (pv 0) rfl) T.c_Shelf m_clear G_clear (hr.mono (by decide)) b_clear .nil pass0 (pa_cons (pv 3) pa_nil)))
      (pss_cons (ps_expr (pe_meth (pe_fld (pv 0) rfl) T.c_Shelf m_put G_put (hr.mono (by decide)) b_put .nil pass0 (pa_cons (pv 3) (pa_cons (pe_fn G_write_first (hr.mono (by decide)) (by rfl) pass0 (pa_cons (pe_ix ix_tup (pe_fld (pv 0) rfl) pe_int (fun _ _ => rfl)) (pa_cons (pe_fld (pv 0) rfl) (pa_cons (pv 1) pa_nil)))) pa_nil))))
      (pss_cons (ps_set (i := 4) sc_Keeper_card.nd rfl (.inl rfl) pe_int)
      (pss_cons (ps_for PassesOwn.never rfl (pi_list (pe_fld (pv 0) rfl)) (pg_name (i := 2) sc_Keeper_card.nd rfl (.inl rfl)) (pss_one (ps_for PassesOwn.never rfl (pi_list (pe_dget (hu_of hr) (pe_fld (pv 0) rfl) (pe_ix ix_tup (pv 2) pe_int (fun _ _ => rfl)) (fun _ _ => rfl))) (pg_tup (n := 2) rfl (pgs_cons (pg_name (i := 5) sc_Keeper_card.nd rfl (.inl rfl)) (pgs_cons (pg_name (i := 6) sc_Keeper_card.nd rfl (.inl rfl)) pgs_nil))) (pss_cons (ps_expr (pe_meth (pe_fld (pv 0) rfl) T.c_Shelf m_put G_put (hr.mono (by decide)) b_put .nil pass0 (pa_cons (pv 3) (pa_cons (pe_fn G_write_entry (hr.mono (by decide)) (by rfl) pass0 (pa_cons (pe_ix ix_tup (pv 2) pe_int (fun _ _ => rfl)) (pa_cons (pv 5) (pa_cons (pv 6) pa_nil)))) pa_nil))))
      (pss_one (ps_set (i := 4) sc_Keeper_card.nd rfl (.inl rfl) (pe_op op_add (pv 4) pe_int)))))))
      (pss_cons (ps_expr (pe_meth (pe_fld (pv 0) rfl) T.c_Shelf m_put G_put (hr.mono (by decide)) b_put .nil pass0 (pa_cons (pv 3) (pa_cons (pe_fn G_write_last (hr.mono (by decide)) (by rfl) pass0 (pa_cons (pv 4) pa_nil)) pa_nil))))
      (pss_cons (ps_expr (pe_meth (pe_fld (pv 0) rfl) T.c_Shelf m_clear G_clear (hr.mono (by decide)) b_clear .nil pass0 (pa_cons pe_int pa_nil)))
      (pss_one (ps_ret (pe_ix ix_tup (pe_fld (pv 0) rfl) pe_int (fun _ _ => rfl))))))))))))))), ?_⟩
    walk_at "un"
    have t0 := hk.t0
    have n0 := hk.n0
    refine ⟨_, _, _, hk.ins, T.c_Keeper, T.a_known_from, _, kp_from .., _, rfl, ?_⟩
    rw [if_neg (by omega)]
    refine ⟨_, _, _, hk.ins, T.c_Keeper, T.a_turn_now, _, kp_now .., _, rfl, ?_⟩
    rw [if_neg (by omega)]
    refine ⟨_, _, _, hk.ins, T.c_Keeper, T.a_known_from, kp_len .., ?_⟩
    rw [put_from]
    obtain ⟨hk1, mv1⟩ := (hk.turn (n := m + 1) (by omega)).fld (now := k.now) (since := t) hk.card (fun f hf => (hk.gt f hf).mono (by omega) (Int.le_refl _)) hk.drs hk.n0 ⟨by omega, h2, t0.2.2⟩
    obtain ⟨H1, hE1⟩ : ∃ H1, upd H k.x (.ins (He.ga K "Keeper") k.dx (kpF k.sh.x k.fm k.kd k.ca k.now t)) = H1 := ⟨_, rfl⟩
    rw [hE1] at hk1 mv1 ⊢
    obtain ⟨us, f0, f2⟩ := hk.forms
    have f1 : H1 k.fm = some (.lst us) := by rw [← hE1]; exact get_put f0 hk.ins (fun z => nomatch z)
    refine ⟨_, _, _, hk1.ins, T.c_Keeper, T.a_forms, _, kp_fm .., _, rfl, ⟨_, SqL.of f1⟩, ?_⟩
    obtain ⟨I, hI⟩ : ∃ I : List Frm → List Frm → L2.St → Hp → Prop, I = fun d r σ H' => ∃ tb, KpAt K H' (m + 1) B { k with since := t, tb := tb } ∧ (∀ f ∈ r, tb f.name = k.tb f.name) ∧ Mv k.mut H k.mut H' ∧ H' k.fm = some (.lst us) ∧ ∃ x, σ = [some (V.ref k.x), some (V.int t), x, none, none, none, none] := ⟨_, rfl⟩
    refine lp_list f2 I (by rw [hI]; exact ⟨k.tb, hk1, fun _ _ => rfl, mv1, f1, _, rfl⟩) (fun d r σ H' z => by rw [hI] at z; obtain ⟨tb, _, _, _, e, _⟩ := z; exact SqL.of e) ?_ ?_
    · rintro d v y r σ H' e ⟨a, rfl, a1⟩ z
      rw [hI] at z
      obtain ⟨tb, g1, g2, g3, g4, x0, rfl⟩ := z
      have hy : y ∈ k.fs := by rw [show k.fs = d ++ y :: r from e]; simp
      have fo := hk.fr y hy
      obtain ⟨kvs, w1, w2, w3⟩ := g1.known
      obtain ⟨b, hb, ⟨c, ts, hc, ht, htp⟩, hbm⟩ := w3 y.name (KpAt.name_mem (k := { k with since := t, tb := tb }) hy)
      cases hc
      have gi : H' k.x = some (.ins (He.ga K "Keeper") k.dx (kpF k.sh.x k.fm k.kd k.ca k.now t)) := g1.ins
      have key : SqT K H' a [.str y.name, .int (y.keys : Nat), .int (y.width : Nat)] := a1.tk g3.1
      have kl : kvs.length ≤ 3 := by
        have e2 := congrArg List.length w2
        simp only [List.length_map, Kp.ns] at e2
        have := hk.two
        omega
      walk_at "un"
      refine ⟨_, _, _, gi, T.c_Keeper, T.a_known, _, kp_kd .., _, key, _, rfl, _, rfl, _, by rw [← hb]; exact DGet.k (k := .inr y.name) w1, ?_⟩
      refine ⟨b, ts, tb y.name, m, k.now, t, y.width, rfl, ht, htp, by rw [g2 y List.mem_cons_self]; exact hk.gt y hy, fo.2.2.1, by omega, by omega, h2, fun na ws qs H2 nna s2 ea pr gq => ?_⟩
      refine ⟨_, _, _, s2 _ _ gi, T.c_Keeper, T.a_known, _, kp_kd .., _, key.tk (TK.same s2), _, rfl, _, rfl, _, DPut.k (k := .inr y.name) (s2 _ _ w1) (szl (by omega)), ?_⟩
      have hk2 := g1.same s2
      have nm : ¬ k.sh.mut na := fun h => by
        obtain ⟨us, e⟩ := g1.shelf.mut_lst h
        rw [nna] at e; cases e
      obtain ⟨hk3, mv3⟩ := hk2.kn (n := y.name) (s2 _ _ w1) (KpAt.name_mem (k := { k with since := t, tb := tb }) hy) ea pr ⟨nm, fun h => by
        obtain ⟨⟨u, e⟩, _⟩ := g1.zt na h
        rw [nna] at e; cases e⟩ (fun f3 hf3 e3 => by
        have : f3 = y := name_inj2 hk.nd hf3 hy e3
        rw [this]; exact gq)
      rw [hI]
      refine ⟨_, hk3, fun f3 hf3 => ?_, g3.trans ((Mv.same s2).trans mv3), get_put (s2 _ _ g4) (s2 _ _ w1) (fun z => nomatch z), _, rfl⟩
      show (if f3.name = y.name then qs else tb f3.name) = k.tb f3.name
      rw [if_neg ?_]
      · exact g2 f3 (List.mem_cons_of_mem _ hf3)
      · intro e3
        have nd := hk.nd
        unfold Kp.ns at nd
        rw [show k.fs = d ++ y :: r from e, List.map_append, List.map_cons] at nd
        exact (List.nodup_cons.mp (List.nodup_append.mp nd).2.1).1 (e3 ▸ List.mem_map.mpr ⟨f3, hf3, rfl⟩)
    · intro σ H' z
      rw [hI] at z
      obtain ⟨tb, g1, _, g3, g4, x0, rfl⟩ := z
      have gi : H' k.x = some (.ins (He.ga K "Keeper") k.dx (kpF k.sh.x k.fm k.kd k.ca k.now t)) := g1.ins
      have gc : SqT K H' k.ca [.int (k.dr : Nat), .int k.num] := g1.card
      have eD : (3 : Int) - (k.dr : Int) = ((3 - k.dr : Nat) : Int) := by rcases hk.drs with h | h <;> rw [h] <;> rfl
      walk_at "un"
      refine ⟨_, _, _, gi, T.c_Keeper, T.a_card_at, _, kp_ca .., _, rfl, _, gc, _, rfl, _, rfl, _, _, _, gi, T.c_Keeper, T.a_card_at, _, kp_ca .., _, rfl, _, gc, _, rfl, _, rfl, sz (by decide), fun p np => ?_⟩
      rw [eD]
      obtain ⟨H2, hE2, s2, e2⟩ := fr np (.tup [V.int ((3 - k.dr : Nat) : Int), V.int (k.num + 1)])
      simp only [hE2]
      refine ⟨_, _, _, s2 _ _ gi, T.c_Keeper, T.a_card_at, kp_len .., ?_⟩
      rw [put_ca]
      have hdr : 3 - k.dr = 1 ∨ 3 - k.dr = 2 := by have := hk.drs; omega
      have hD3 : 3 - k.dr < 3 := by omega
      obtain ⟨hk4, mv4⟩ := (g1.same s2).fld (ca := p) (dr := 3 - k.dr) (num := k.num + 1) (now := k.now) (since := t) (SqT.of e2) (g1.gt) hdr ⟨by omega, by omega⟩ ⟨by omega, h2, t0.2.2⟩
      obtain ⟨H3, hE3⟩ : ∃ H3, upd H2 k.x (.ins (He.ga K "Keeper") k.dx (kpF k.sh.x k.fm k.kd p k.now t)) = H3 := ⟨_, rfl⟩
      rw [show upd H2 ({ k with since := t, tb := tb } : Kp).x (.ins (He.ga K "Keeper") ({ k with since := t, tb := tb } : Kp).dx (kpF ({ k with since := t, tb := tb } : Kp).sh.x ({ k with since := t, tb := tb } : Kp).fm ({ k with since := t, tb := tb } : Kp).kd p k.now t)) = H3 from hE3] at hk4 mv4
      rw [hE3]
      have i4 : H3 k.x = some (.ins (He.ga K "Keeper") k.dx (kpF k.sh.x k.fm k.kd p k.now t)) := hk4.ins
      have c4 : SqT K H3 p [.int ((3 - k.dr : Nat) : Int), .int (k.num + 1)] := hk4.card
      have MV4 : Mv k.mut H k.mut H3 := g3.trans ((Mv.same s2).trans mv4)
      refine ⟨_, _, _, i4, T.c_Keeper, T.a_card_at, _, kp_ca .., _, rfl, _, c4, _, rfl, ?_⟩
      refine ⟨_, _, _, i4, T.c_Keeper, T.a_on_shelf, _, kp_sh .., _, rfl, _, _, hk4.shelf.ins, rfl, ?_⟩
      refine ⟨k.sh, B, 3 - k.dr, rfl, hD3, hk4.shelf, by omega, fun s5 H5 ex5 ebg5 ets5 eds5 mv5 ha5 => ?_⟩
      obtain ⟨hk5, mv5'⟩ := hk4.sh mv5 ha5 ex5
      have W5 : Wr K k t tb p (m + 1) B H H5 s5 [] := ⟨hk5.room (by omega), ex5, by rw [ets5, setF_same]; rfl, ⟨[], eds5⟩, MV4.trans mv5'⟩
      have i5 : H5 k.x = some (.ins (He.ga K "Keeper") k.dx (kpF s5.x k.fm k.kd p k.now t)) := hk5.ins
      have c5 : SqT K H5 p [.int ((3 - k.dr : Nat) : Int), .int (k.num + 1)] := hk5.card
      refine ⟨_, _, _, i5, T.c_Keeper, T.a_on_shelf, _, kp_sh .., _, rfl, _, _, hk5.shelf.ins, rfl, _, _, _, i5, T.c_Keeper, T.a_card_at, _, kp_ca .., _, rfl, _, c5, _, rfl, _, _, _, i5, T.c_Keeper, T.a_turn_now, _, kp_now .., ?_⟩
      refine ⟨k.num + 1, k.now, t, rfl, sm_small (by omega) (by omega), sm_small (by omega) (by omega), sm_small (by omega) (by omega), fun H6 s6 => W5.put s6 _ hD3 hB (by simp) fun s7 H7 W7 _ => ?_⟩
      have i7 : H7 k.x = some (.ins (He.ga K "Keeper") k.dx (kpF s7.x k.fm k.kd p k.now t)) := W7.at_.ins
      have fm0 : ¬ k.mut k.fm := by
        rintro (h | h | h)
        · rw [h, hk.ins] at f0; cases f0
        · obtain ⟨kv, e, _⟩ := hk.known
          rw [h, e] at f0; cases f0
        · exact hk.fmn h
      have fmA : ∀ {H' s rows}, Wr K k t tb p (m + 1) B H H' s rows → H' k.fm = some (.lst us) := fun w => w.mv.2.1 _ _ f0 fm0
      refine ⟨_, _, _, i7, T.c_Keeper, T.a_forms, _, kp_fm .., _, rfl, ⟨_, SqL.of (fmA W7)⟩, ?_⟩
      have gtE : ∀ f ∈ k.fs, GT (m + 1) k.now f.width (tb f.name) := W7.at_.gt
      have entL : ∀ d : List Frm, (∀ f ∈ d, f ∈ k.fs) → (entsOf (d.map Frm.name) tb).length ≤ 30 * d.length := by
        intro d
        induction d with
        | nil => intro _; exact Nat.zero_le _
        | cons f d ih =>
          intro h
          have a := (gtE f (h f List.mem_cons_self)).len
          have b := ih fun x hx => h x (List.mem_cons_of_mem _ hx)
          simp only [entsOf, List.map_cons, List.flatMap_cons, List.length_append, List.length_map, List.length_cons] at b ⊢
          omega
      have two := hk.two
      obtain ⟨I2, hI2⟩ : ∃ I : List Frm → List Frm → L2.St → Hp → Prop, I = fun d r σ H' => ∃ s, Wr K k t tb p (m + 1) B H H' s ([firstWs (k.num + 1) k.now t] ++ (entsOf (d.map Frm.name) tb).map (fun x => entWs x.1 x.2)) ∧ ∃ x y z, σ = [some (V.ref k.x), some (V.int t), x, some (V.int ((3 - k.dr : Nat) : Int)), some (V.int ((entsOf (d.map Frm.name) tb).length : Nat)), y, z] := ⟨_, rfl⟩
      refine lp_list f2 I2 (by rw [hI2]; exact ⟨s7, W7, _, _, _, rfl⟩) (fun d r σ H' z => by rw [hI2] at z; obtain ⟨s, w, _⟩ := z; exact SqL.of (fmA w)) ?_ ?_
      · rintro d v y r σ H' e ⟨a, rfl, a1⟩ z
        rw [hI2] at z
        obtain ⟨s, w, x1, y1, z1, rfl⟩ := z
        have hy : y ∈ k.fs := by rw [show k.fs = d ++ y :: r from e]; simp
        have dl : k.fs.length = d.length + (r.length + 1) := by rw [show k.fs = d ++ y :: r from e]; simp
        have hdf : ∀ f ∈ d, f ∈ k.fs := fun f hf => by rw [show k.fs = d ++ y :: r from e]; exact List.mem_append_left _ hf
        have dE := entL d hdf
        have fo := hk.fr y hy
        have iw : H' k.x = some (.ins (He.ga K "Keeper") k.dx (kpF s.x k.fm k.kd p k.now t)) := w.at_.ins
        obtain ⟨kvs, w1, w2, w3⟩ := w.at_.known
        obtain ⟨b, hb, ⟨c, ts, hc, ht, htp⟩, hbm⟩ := w3 y.name (KpAt.name_mem (k := K4 k t tb p s) hy)
        cases hc
        have key : SqT K H' a [.str y.name, .int (y.keys : Nat), .int (y.width : Nat)] := a1.tk w.mv.1
        have gy := gtE y hy
        have w1' : H' k.kd = some (.dK kvs) := w1
        walk_at "un"
        refine ⟨_, _, _, iw, T.c_Keeper, T.a_known, _, kp_kd .., _, key, _, rfl, _, rfl, _, by rw [← hb]; exact DGet.k (k := .inr y.name) w1', _, rfl, ⟨_, SqL.of ht⟩, ?_⟩
        have htp' : Paired (IsEnt K H') ts (tb y.name) := htp
        obtain ⟨J, hJ⟩ : ∃ J : List Ent → List Ent → L2.St → Hp → Prop, J = fun d2 r2 σ H2 => TK H' H2 ∧ ∃ s2, Wr K k t tb p (m + 1) B H H2 s2 ([firstWs (k.num + 1) k.now t] ++ ((entsOf (d.map Frm.name) tb).map (fun x => entWs x.1 x.2) ++ d2.map (entWs y.name))) ∧ H2 b = some (.lst ts) ∧ ¬ s2.mut b ∧ ∃ y2 z2, σ = [some (V.ref k.x), some (V.int t), some (V.ref a), some (V.int ((3 - k.dr : Nat) : Int)), some (V.int (((entsOf (d.map Frm.name) tb).length + d2.length : Nat) : Int)), y2, z2] := ⟨_, rfl⟩
        refine lp_list htp' J (by rw [hJ]; exact ⟨TK.refl _, s, by simpa using w, ht, hbm.1, _, _, rfl⟩) (fun d r σ H' z => by rw [hJ] at z; obtain ⟨_, _, _, e, _⟩ := z; exact SqL.of e) ?_ ?_
        · rintro d2 v2 y2 r2 σ H2 e2 ⟨ea, eu, ez, rfl, n1, n2, n3⟩ z
          rw [hJ] at z
          obtain ⟨tk2, s2, w2', b2, nb2, j1, j2, rfl⟩ := z
          have iw2 : H2 k.x = some (.ins (He.ga K "Keeper") k.dx (kpF s2.x k.fm k.kd p k.now t)) := w2'.at_.ins
          have ge := gy.each y2 (by rw [e2]; simp)
          have el := gy.len
          have dl2 : (tb y.name).length = d2.length + (r2.length + 1) := by rw [e2]; simp
          walk_at "un"
          refine ⟨_, n1.tk tk2, rfl, _, _, rfl, _, _, rfl, rfl, ?_⟩
          refine ⟨_, _, _, iw2, T.c_Keeper, T.a_on_shelf, _, kp_sh .., _, rfl, _, _, w2'.at_.shelf.ins, rfl, _, key.tk tk2, _, rfl, ?_⟩
          refine ⟨y.name, eu, ez, y2, y.width, m + 1, k.now, rfl, n2.tk tk2, n3.tk tk2, ge, fo.2.2.2, by omega, sm_small (by omega) (by omega), fo.1, fun H3 s3 => ?_⟩
          refine w2'.put s3 _ hD3 hB (by simp only [List.length_append, List.length_map, List.length_cons, List.length_nil]; omega) fun s4 H4 w4 mv4 => ?_
          rw [hJ]
          have nbm : ¬ (K4 k t tb p s2).mut b := by
            rintro (h | h | h)
            · rw [show b = k.x from h, iw2] at b2; cases b2
            · obtain ⟨kv, e, _⟩ := w2'.at_.known
              rw [show b = k.kd from h] at b2
              rw [show H2 k.kd = _ from e] at b2; cases b2
            · exact nb2 h
          have b3 := s3 _ _ b2
          have b4 := mv4.2.1 _ _ b3 nbm
          have ec : (((entsOf (d.map Frm.name) tb).length + d2.length : Nat) : Int) + 1 = (((entsOf (d.map Frm.name) tb).length + (d2 ++ [y2]).length : Nat) : Int) := by simp; omega
          rw [ec]
          refine ⟨tk2.trans ((TK.same s3).trans mv4.1), s4, by simpa using w4, b4, fun h => ?_, _, _, rfl⟩
          rcases mv4.2.2 b (.inr (.inr h)) with q1 | q1
          · exact nbm q1
          · rw [b3] at q1; cases q1
        · intro σ H2 z
          rw [hJ] at z
          obtain ⟨tk2, s2, w2', b2, nb2, j1, j2, rfl⟩ := z
          have ee : entsOf ((d ++ [y]).map Frm.name) tb = entsOf (d.map Frm.name) tb ++ (tb y.name).map fun x => (y.name, x) := by simp [entsOf]
          show I2 (d ++ [y]) r _ H2
          rw [hI2]
          refine ⟨s2, ?_, some (V.ref a), j1, j2, ?_⟩
          · rw [ee, List.map_append, List.map_map]
            exact w2'
          · rw [ee, List.length_append, List.length_map]
      · intro σ H' z
        rw [hI2] at z
        obtain ⟨s, w, x1, y1, z1, rfl⟩ := z
        walk_at "un"
        have iw : H' k.x = some (.ins (He.ga K "Keeper") k.dx (kpF s.x k.fm k.kd p k.now t)) := w.at_.ins
        have dE := entL k.fs (fun f hf => hf)
        refine ⟨_, _, _, iw, T.c_Keeper, T.a_on_shelf, _, kp_sh .., _, rfl, _, _, w.at_.shelf.ins, rfl, _, rfl, by omega, fun H6 s6 => ?_⟩
        refine w.put s6 _ hD3 hB (by simp only [List.length_append, List.length_map, List.length_cons, List.length_nil]; omega) fun s4 H4 w4 mv4 => ?_
        have i4 : H4 k.x = some (.ins (He.ga K "Keeper") k.dx (kpF s4.x k.fm k.kd p k.now t)) := w4.at_.ins
        refine ⟨_, _, _, i4, T.c_Keeper, T.a_on_shelf, _, kp_sh .., _, rfl, _, _, w4.at_.shelf.ins, rfl, ?_⟩
        refine ⟨s4, _, 0, rfl, by decide, w4.at_.shelf, by simp only [List.length_append, List.length_map, List.length_cons, List.length_nil]; omega, fun s8 H8 ex8 ebg8 ets8 eds8 mv8 ha8 => ?_⟩
        obtain ⟨hk8, mv8'⟩ := w4.at_.sh mv8 ha8 ex8
        have i8 : H8 k.x = some (.ins (He.ga K "Keeper") k.dx (kpF s8.x k.fm k.kd p k.now t)) := hk8.ins
        have c8 : SqT K H8 p [.int ((3 - k.dr : Nat) : Int), .int (k.num + 1)] := hk8.card
        obtain ⟨mid, hmid⟩ := w4.ds
        refine ⟨_, _, _, i8, T.c_Keeper, T.a_card_at, _, kp_ca .., _, rfl, _, c8, _, rfl, ?_⟩
        refine q (K4 k t tb p s8) H8 ⟨rfl, rfl, ex8.trans w4.x, rfl⟩ rfl rfl rfl rfl ?_ ⟨mid, by rw [show (K4 k t tb p s8).sh = s8 from rfl, eds8, hmid]; simp⟩ (w4.mv.trans mv8') (hk8.room ?_)
        · show s8.ts (3 - k.dr) = _
          rw [ets8, setF_ne (by omega), w4.ts]
          rfl
        · simp only [List.length_append, List.length_map, List.length_cons, List.length_nil]
          omega
/-! Keeper.__init__ -/
theorem sc_Keeper_init : FnScope ["self", "shelf", "shapes", "form", "best", "name", "row", "plot", "text", "pair"] ["self", "shelf", "shapes"] (defScope s_Keeper_init) := ⟨rfl, rfl, rfl, by decide +kernel, rfl, by decide +kernel, by decide +kernel⟩
theorem M_Keeper_init (T : Top K mg) (G_newest_card : Fn P w K mg base CX0 7 "newest_card" ["shelf"] (sp_newest_card K)) (M_rows : Mt P w K mg base CX0 1 "Shelf" "rows" ["self", "drawer"] (sp_rows K)) : It0 P w K mg base CX0 8 "Keeper" ["self", "shelf", "shapes"] (sp_kp_init K) := by
  obtain ⟨fd, F⟩ := T.D_Keeper_init
  obtain ⟨f_rows, fd_rows, G_rows, m_rows, b_rows⟩ := M_rows.ex
  refine mk_it F T.k_Keeper T.g_Keeper (fun _ _ _ _ _ _ us hl => match us, hl with | [_, _, _], _ => rfl) (F.okN sc_Keeper_init (fun vs H Q E h => ?_) (fun cdv A outer s H vs Q E hr h => ?_))
  · obtain ⟨x, dx, z, B, l, us, fs, wd, m, r1, r2, o1, o2, rfl, _⟩ := h
    rfl
  · obtain ⟨x, dx, z, B, l, us, fs, wd, m, r1, r2, o1, o2, rfl, hx, hl, hus, hfs, hwd, hz, hB, t0, t1, t2, c1, c2, hm, hgc, q⟩ := h
    refine ⟨_, (pss_cons (ps_fld (pv 0) (pv 1) rfl)
      (pss_cons (ps_fld (pv 0) (pe_callTy (call_list_ofK (K := K) rfl) (by rfl) T.f_list (by decide +kernel) (pa_cons (pv 2) pa_nil)) rfl)
      (pss_cons (ps_fld (pv 0) pe_dnewK rfl)
      (pss_cons (ps_for PassesOwn.never rfl (pi_list (pe_fld (pv 0) rfl)) (pg_name (i := 3) sc_Keeper_init.nd rfl (.inl rfl)) (pss_one (ps_dput (hu_of hr) (pe_fld (pv 0) rfl) (pe_ix ix_tup (pv 3) pe_int (fun _ _ => rfl)) (pe_lst pa_nil) rfl)))
      (pss_cons (ps_fld (pv 0) (pe_tup (pa_cons pe_int (pa_cons pe_int pa_nil))) rfl)
      (pss_cons (ps_fld (pv 0) pe_int rfl)
      (pss_cons (ps_fld (pv 0) pe_int rfl)
      (pss_cons (ps_set (i := 4) sc_Keeper_init.nd rfl (.inl rfl) (pe_fn G_newest_card (hr.mono (by decide)) (by rfl) pass0 (pa_cons (pv 1) pa_nil)))
      (pss_cons (ps_if (pt_cmpR op_notN (pv 4) pe_non (nomark _)) (pss_cons (ps_fld (pv 0) (pe_tup (pa_cons (pe_ix ix_tup (pv 4) pe_int (fun _ _ => rfl)) (pa_cons (pe_ix ix_tup (pe_ix ix_tup (pe_ix ix_tup (pv 4) pe_int (fun _ _ => rfl)) pe_int (fun _ _ => rfl)) pe_int (fun _ _ => rfl)) pa_nil))) rfl)
      (pss_cons (ps_fld (pv 0) (pe_ix ix_tup (pe_ix ix_tup (pe_ix ix_tup (pv 4) pe_int (fun _ _ => rfl)) pe_int (fun _ _ => rfl)) pe_int (fun _ _ => rfl)) rfl)
      (pss_cons (ps_fld (pv 0) (pe_ix ix_tup (pe_ix ix_tup (pe_ix ix_tup (pv 4) pe_int (fun _ _ => rfl)) pe_int (fun _ _ => rfl)) pe_int (fun _ _ => rfl)) rfl)
      (pss_one (ps_for PassesOwn.never rfl (pi_list (pe_ix ix_tup (pe_ix ix_tup (pv 4) pe_int (fun _ _ => rfl)) pe_int (fun _ _ => rfl))) (pg_tup (n := 3) rfl (pgs_cons (pg_name (i := 5) sc_Keeper_init.nd rfl (.inl rfl)) (pgs_cons (pg_name (i := 6) sc_Keeper_init.nd rfl (.inl rfl)) (pgs_cons (pg_name (i := 7) sc_Keeper_init.nd rfl (.inl rfl)) pgs_nil)))) (pss_one (ps_expr (pe_bm PySem.F.plainAttrs_list PySem.F.slot_list_append PySem.F.type_list_append mt_append (pe_dget (hu_of hr) (pe_fld (pv 0) rfl) (pv 5) (fun _ _ => rfl)) (pa_cons (pe_tup (pa_cons (pv 6) (pa_cons (pv 7) pa_nil))) pa_nil))))))))) pss_nil)
      (pss_one (ps_for PassesOwn.never rfl (pi_list (pe_meth (pv 1) T.c_Shelf m_rows G_rows (hr.mono (by decide)) b_rows .nil pass0 (pa_cons pe_int pa_nil))) (pg_name (i := 8) sc_Keeper_init.nd rfl (.inl rfl)) (pss_cons (ps_never)
      (pss_one (ps_never)))))))))))))), ?_⟩
    walk_at "un"
    have lx : l ≠ x := fun e => by rw [e, hx] at hl; cases hl
    refine ⟨_, _, _, hx, T.c_Keeper, T.a_on_shelf, Nat.le_of_ble_eq_true (by rfl), ?_⟩
    obtain ⟨H1, hE1⟩ : ∃ H1, upd H x (.ins (He.ga K "Keeper") dx (putF "on_shelf" (V.ref z.x) [])) = H1 := ⟨_, rfl⟩
    have x1 : H1 x = some (.ins (He.ga K "Keeper") dx [("on_shelf", V.ref z.x)]) := by rw [← hE1]; exact upd_same
    have k1 : ∀ a u, a ≠ x → H a = some u → H1 a = some u := fun a u n e => by rw [← hE1]; exact get_ne e n
    have tk1 : TK H H1 := by rw [← hE1]; exact TK.put hx rfl
    have nn1 : ∀ a, H1 a = none → H a = none := fun a n => by
      by_cases e : a = x
      · rw [e, x1] at n; cases n
      · rw [← hE1, upd_ne e] at n; exact n
    simp only [hE1]
    refine ⟨us, .inl (SqL.of (k1 _ _ lx hl)), fun fm nfm => ?_⟩
    obtain ⟨H2, hE2, s2, e2⟩ := fr nfm (.lst us)
    simp only [hE2]
    refine ⟨_, _, _, s2 _ _ x1, T.c_Keeper, T.a_forms, Nat.le_of_ble_eq_true (by rfl), ?_⟩
    obtain ⟨H3, hE3⟩ : ∃ H3, upd H2 x (.ins (He.ga K "Keeper") dx (putF "forms" (V.ref fm) [("on_shelf", V.ref z.x)])) = H3 := ⟨_, rfl⟩
    have x3 : H3 x = some (.ins (He.ga K "Keeper") dx [("on_shelf", V.ref z.x), ("forms", V.ref fm)]) := by rw [← hE3]; exact upd_same
    have fmx : fm ≠ x := fun e => by rw [e, x1] at nfm; cases nfm
    have tk3 : TK H2 H3 := by rw [← hE3]; exact TK.put (s2 _ _ x1) rfl
    have e3 : H3 fm = some (.lst us) := by rw [← hE3]; exact get_ne e2 fmx
    have k3 : ∀ a u, a ≠ x → H2 a = some u → H3 a = some u := fun a u n e => by rw [← hE3]; exact get_ne e n
    have nn3 : ∀ a, H3 a = none → H2 a = none := fun a n => by
      by_cases e : a = x
      · rw [e, x3] at n; cases n
      · rw [← hE3, upd_ne e] at n; exact n
    simp only [hE3]
    intro p np
    obtain ⟨H4, hE4, s4, e4⟩ := fr np (.dK [])
    simp only [hE4]
    refine ⟨_, _, _, s4 _ _ x3, T.c_Keeper, T.a_known, Nat.le_of_ble_eq_true (by rfl), ?_⟩
    obtain ⟨H5, hE5⟩ : ∃ H5, upd H4 x (.ins (He.ga K "Keeper") dx (putF "known" (V.ref p) [("on_shelf", V.ref z.x), ("forms", V.ref fm)])) = H5 := ⟨_, rfl⟩
    have x5 : H5 x = some (.ins (He.ga K "Keeper") dx [("on_shelf", V.ref z.x), ("forms", V.ref fm), ("known", V.ref p)]) := by rw [← hE5]; exact upd_same
    simp only [hE5]
    have ini0 : Ini K x fm p us [] [] (fun _ => 0) H H4 (fun _ => []) := ⟨tk1.trans ((TK.same s2).trans (tk3.trans (TK.same s4))), fun a u n e => s4 _ _ (k3 _ _ n (s2 _ _ (k1 _ _ n e))), s4 _ _ e3, e4, fun _ h => nomatch h⟩
    have ini1 : Ini K x fm p us [] [] (fun _ => 0) H H5 (fun _ => []) := by rw [← hE5]; exact ini0.fld (s4 _ _ x3)
    have ffm : H fm = none := nn1 _ nfm
    have fp : H p = none := nn1 _ (s2.none (nn3 _ np))
    refine ⟨_, _, _, x5, T.c_Keeper, T.a_forms, _, by rfl, _, rfl, ⟨_, SqL.of ini1.fm⟩, ?_⟩
    obtain ⟨I, hI⟩ : ∃ I : List Frm → List Frm → L2.St → Hp → Prop, I = fun d r σ H' => ∃ kvs ad, Ini K x fm p us (d.map Frm.name) kvs ad H H' (fun _ => []) ∧ H' x = some (.ins (He.ga K "Keeper") dx [("on_shelf", V.ref z.x), ("forms", V.ref fm), ("known", V.ref p)]) ∧ kvs.map (·.1) = (d.map Frm.name).map Sum.inr ∧
      (∀ n ∈ d.map Frm.name, valV kvs (.inr n) = some (.ref (ad n)) ∧ H (ad n) = none) ∧ (∀ n ∈ d.map Frm.name, ∀ n' ∈ d.map Frm.name, ad n = ad n' → n = n') ∧ ∃ y, σ = [some (V.ref x), some (V.ref z.x), some (V.ref l), y, none, none, none, none, none, none] := ⟨_, rfl⟩
    refine lp_list hus I (by rw [hI]; exact ⟨[], fun _ => 0, ini1, x5, rfl, (fun _ h => nomatch h), (fun _ h => nomatch h), _, rfl⟩) (fun d r σ H' k => by rw [hI] at k; obtain ⟨_, _, i, _⟩ := k; exact SqL.of i.fm) ?_ ?_
    · rintro d v y r σ H' e ⟨a, rfl, a1⟩ k
      rw [hI] at k
      obtain ⟨kvs, ad, ii, xx, g1, g2, g3, y0, rfl⟩ := k
      have dl : fs.length = d.length + (r.length + 1) := by rw [e]; simp
      have h3 := hfs.2.2
      have kl : kvs.length = d.length := by have := congrArg List.length g1; simpa using this
      have ynot : y.name ∉ d.map Frm.name := fun h => by
        have nd := hfs.2.1
        rw [e, List.map_append, List.map_cons] at nd
        exact (List.nodup_append.mp nd).2.2 _ h y.name List.mem_cons_self rfl
      have hfree : valV kvs (.inr y.name) = none := by
        cases h : valV kvs (.inr y.name) with
        | none => rfl
        | some v =>
          have h1 := valV_in h
          rw [g1] at h1
          obtain ⟨n, hn, e2⟩ := List.mem_map.mp h1
          exact absurd (Sum.inr.inj e2 ▸ hn) ynot
      walk_at "un"
      refine ⟨Nat.zero_le _, fun c nc => ?_⟩
      have sc := L2.Same.new (o := .lst []) nc
      have i2 := ii.same sc
      have xc := sc _ _ xx
      refine ⟨_, _, _, xc, T.c_Keeper, T.a_known, _, by rfl, _, a1.tk i2.tk, _, rfl, _, rfl, _, DPut.k (k := .inr y.name) i2.p (szl (by omega)), ?_⟩
      have hput : putK kvs (.inr y.name) (.ref c) = kvs ++ [(.inr y.name, .ref c)] := by
        unfold putK
        rw [valV_any, hfree]
        rfl
      have tkp : TK (upd H' c (.lst [])) (upd (upd H' c (.lst [])) p (.dK (putK kvs (.inr y.name) (.ref c)))) := TK.put i2.p rfl
      have px : p ≠ x := fun h => by have := ii.p; rw [h, xx] at this; cases this
      have fc : H c = none := by
        cases h : H c with
        | none => rfl
        | some u =>
          have cx : c ≠ x := fun h2 => by rw [h2, xx] at nc; cases nc
          rw [ii.kx _ _ cx h] at nc; cases nc
      have adc : ∀ n ∈ d.map Frm.name, ad n ≠ c := fun n hn h => by
        obtain ⟨ts, q1, _⟩ := ii.l n hn
        rw [h, nc] at q1; cases q1
      have hmem : ∀ n, n ∈ (d ++ [y]).map Frm.name ↔ n ∈ d.map Frm.name ∨ n = y.name := fun n => by simp [eq_comm]
      rw [hI]
      refine ⟨putK kvs (.inr y.name) (.ref c), fun n => if n = y.name then c else ad n, ⟨i2.tk.trans tkp, fun a u n e => ?_, get_put i2.fm i2.p (fun z => nomatch z), upd_same, fun n hn => ?_⟩, get_ne xc (fun h => px h.symm), ?_, fun n hn => ?_, fun n hn n' hn' e => ?_, _, rfl⟩
      · have := i2.kx a u n e
        exact get_ne this (fun h => by rw [h, fp] at e; cases e)
      · by_cases hny : n = y.name
        · refine ⟨[], ?_, .nil⟩
          show upd _ _ _ (if n = y.name then c else ad n) = _
          rw [if_pos hny]
          exact get_put upd_same i2.p (fun z => nomatch z)
        · rcases (hmem n).mp hn with hn | hn
          · obtain ⟨ts, q1, q2⟩ := i2.l n hn
            refine ⟨ts, ?_, pairE_tk q2 tkp⟩
            show upd _ _ _ (if n = y.name then c else ad n) = _
            rw [if_neg hny]
            exact get_put q1 i2.p (fun z => nomatch z)
          · exact absurd hn hny
      · rw [hput]
        simp [g1]
      · dsimp only
        by_cases hny : n = y.name
        · rw [if_pos hny, hny, valV_put, if_pos rfl]
          exact ⟨rfl, fc⟩
        · rcases (hmem n).mp hn with hn | hn
          · rw [if_neg hny, valV_put, if_neg (fun e => hny (Sum.inr.inj e))]
            exact g2 n hn
          · exact absurd hn hny
      · dsimp only at e
        rcases (hmem n).mp hn with h1 | h1 <;> rcases (hmem n').mp hn' with h2 | h2
        · rw [if_neg (fun h => ynot (by rw [← h]; exact h1)), if_neg (fun h => ynot (by rw [← h]; exact h2))] at e
          exact g3 n h1 n' h2 e
        · rw [if_neg (fun h => ynot (by rw [← h]; exact h1)), if_pos h2] at e
          exact absurd e (adc n h1)
        · rw [if_pos h1, if_neg (fun h => ynot (by rw [← h]; exact h2))] at e
          exact absurd e.symm (adc n' h2)
        · rw [h1, h2]
    · intro σ H' k
      rw [hI] at k
      obtain ⟨kvs, ad, ii, xx, g1, g2, g3, y0, rfl⟩ := k
      walk_at "un"
      refine ⟨sz (by decide), fun c nc => ?_⟩
      obtain ⟨H6, hE6, s6, e6⟩ := fr nc (.tup [V.int 2, V.int 0])
      simp only [hE6]
      have i6 := ii.same s6
      refine ⟨_, _, _, s6 _ _ xx, T.c_Keeper, T.a_card_at, Nat.le_of_ble_eq_true (by rfl), ?_⟩
      obtain ⟨H7, hE7⟩ : ∃ H7, upd H6 x (.ins (He.ga K "Keeper") dx (putF "card_at" (V.ref c) [("on_shelf", V.ref z.x), ("forms", V.ref fm), ("known", V.ref p)])) = H7 := ⟨_, rfl⟩
      have x7 : H7 x = some (.ins (He.ga K "Keeper") dx [("on_shelf", V.ref z.x), ("forms", V.ref fm), ("known", V.ref p), ("card_at", V.ref c)]) := by rw [← hE7]; exact upd_same
      have i7 : Ini K x fm p us (fs.map Frm.name) kvs ad H H7 (fun _ => []) := by rw [← hE7]; exact i6.fld (s6 _ _ xx)
      have cx : c ≠ x := fun h => by rw [h, xx] at nc; cases nc
      have c7 : H7 c = some (.tup [V.int 2, V.int 0]) := by rw [← hE7]; exact get_ne e6 cx
      simp only [hE7]
      refine ⟨_, _, _, x7, T.c_Keeper, T.a_turn_now, Nat.le_of_ble_eq_true (by rfl), ?_⟩
      obtain ⟨H8, hE8⟩ : ∃ H8, upd H7 x (.ins (He.ga K "Keeper") dx (putF "turn_now" (V.int 0) [("on_shelf", V.ref z.x), ("forms", V.ref fm), ("known", V.ref p), ("card_at", V.ref c)])) = H8 := ⟨_, rfl⟩
      have x8 : H8 x = some (.ins (He.ga K "Keeper") dx [("on_shelf", V.ref z.x), ("forms", V.ref fm), ("known", V.ref p), ("card_at", V.ref c), ("turn_now", V.int 0)]) := by rw [← hE8]; exact upd_same
      have i8 : Ini K x fm p us (fs.map Frm.name) kvs ad H H8 (fun _ => []) := by rw [← hE8]; exact i7.fld x7
      have c8 : H8 c = some (.tup [V.int 2, V.int 0]) := by rw [← hE8]; exact get_ne c7 cx
      simp only [hE8]
      refine ⟨_, _, _, x8, T.c_Keeper, T.a_known_from, Nat.le_of_ble_eq_true (by rfl), ?_⟩
      obtain ⟨H9, hE9⟩ : ∃ H9, upd H8 x (.ins (He.ga K "Keeper") dx (putF "known_from" (V.int 0) [("on_shelf", V.ref z.x), ("forms", V.ref fm), ("known", V.ref p), ("card_at", V.ref c), ("turn_now", V.int 0)])) = H9 := ⟨_, rfl⟩
      have x9 : H9 x = some (.ins (He.ga K "Keeper") dx (kpF z.x fm p c 0 0)) := by rw [← hE9]; exact upd_same
      have i9 : Ini K x fm p us (fs.map Frm.name) kvs ad H H9 (fun _ => []) := by rw [← hE9]; exact i8.fld x8
      have c9 : H9 c = some (.tup [V.int 2, V.int 0]) := by rw [← hE9]; exact get_ne c8 cx
      simp only [hE9]
      have n3 := hfs.2.2
      -- the end: the keeper stands
      have stand : ∀ (H' : Hp) (ca : Addr) (dr : Nat) (num now since : Int) (tb : Str → List Ent), Ini K x fm p us (fs.map Frm.name) kvs ad H H' tb → H' x = some (.ins (He.ga K "Keeper") dx (kpF z.x fm p ca now since)) → SqT K H' ca [.int (dr : Nat), .int num] → (∀ f ∈ fs, GT m now f.width (tb f.name)) →
          (dr = 1 ∨ dr = 2) → (0 ≤ num ∧ num ≤ 1000) → (0 ≤ since ∧ since ≤ now ∧ now ≤ 1000) → Begun ⟨x, dx, fm, p, ca, z, fs, dr, num, now, since, tb, fun _ => False⟩ (newest o1 o2) → Q .non H' := by
        intro H' ca dr num now since tb i hxx hc hgt h1 h2 h3 hb
        have nom : ∀ a, H a = none → ¬ z.mut a := fun a n h => by
          obtain ⟨us, e⟩ := hz.mut_lst h
          rw [n] at e; cases e
        refine q ⟨x, dx, fm, p, ca, z, fs, dr, num, now, since, tb, fun _ => False⟩ H' rfl rfl rfl hb i.tk i.kx (fun a h => ?_) ⟨hxx, ⟨us, i.fm, pairF_tk hus i.tk⟩, nom fm ffm, ⟨kvs, i.p, g1, fun n hn => ?_⟩, hc, i.sh hx hz, hgt, hfs.1, hfs.2.1, n3, h1, h2, h3, (fun h => h), fun a h => False.elim h⟩
        · rcases h with h | h | h
          · exact .inl h
          · exact .inr (.inr (by rw [show a = p from h]; exact fp))
          · exact .inr (.inl h)
        · obtain ⟨ts, q1, q2⟩ := i.l n hn
          exact ⟨ad n, (g2 n hn).1, ⟨ad n, ts, rfl, q1, q2⟩, nom _ (g2 n hn).2, fun h => h⟩
      have hns : ∀ n ∈ fs.map Frm.name, NameOk n ∧ 1 ≤ wd n ∧ wd n ≤ 3 := fun n hn => by
        obtain ⟨f, hf, rfl⟩ := List.mem_map.mp hn
        have := hfs.1 f hf
        rw [hwd f hf]
        exact ⟨this.1, this.2.2.1, this.2.2.2⟩
      refine ⟨fs.map Frm.name, wd, z, B, r1, r2, o1, o2, rfl, i9.sh hx hz, t1, t2, c1, c2, hns, by rw [List.length_map]; omega, hB, fun ho HA sA => ?_, fun d cr a u HA ho sA hq hcr => ?_⟩
      · dsimp only
        have iA := i9.same sA
        have xA := sA _ _ x9
        rw [if_neg (by simp)]
        have shH := iA.sh hx hz
        refine ⟨_, _, shH.ins, rfl, z, B, 0, rfl, by decide, shH, fun ra HZ nra sZ eZ => ⟨ra, rfl, ⟨_, SqL.of eZ⟩, ?_⟩⟩
        rw [t0] at eZ
        refine lp_list (α := Unit) (F := fun _ _ => True) (as := []) .nil (fun d r σ H' => H' = HZ) rfl (fun d r σ H' k => by rw [k]; exact SqL.of eZ) (fun d x y r σ H' e => by simp at e) ?_
        rintro σ H' rfl
        refine stand _ c 2 0 0 0 (fun _ => []) (iA.same sZ) (sZ _ _ xA) (SqT.of (sZ _ _ (sA _ _ c9))) (fun f hf => ⟨(fun _ h => nomatch h), .nil, Nat.zero_le _⟩) (.inr rfl) ⟨by decide, by decide⟩ ⟨by decide, by decide, by decide⟩ ?_
        rw [ho]
        exact ⟨rfl, rfl, rfl, rfl, fun _ _ => rfl⟩
      · dsimp only
        have iA := i9.same sA
        have xA := sA _ _ x9
        rw [if_pos (by simp)]
        obtain ⟨va, vb, vl, vus, rfl, v1, v2, v3, v4⟩ := hcr
        obtain ⟨⟨⟨b1, b2, b3, b4, b5, b6⟩, gtabs⟩, hd12, hn1000, ht1000⟩ := hgc d cr ho
        refine ⟨a, rfl, _, hq, _, rfl, a, rfl, _, hq, _, rfl, va, rfl, _, v1, _, rfl, vb, rfl, _, v2, _, rfl, sz (by decide), fun pc npc => ?_⟩
        obtain ⟨HB, hEB, sB, eB⟩ := fr npc (.tup [V.int (d : Nat), V.int cr.num])
        simp only [hEB]
        have xB := sB _ _ xA
        have iB := iA.same sB
        refine ⟨_, _, _, xB, T.c_Keeper, T.a_card_at, kp_len .., ?_⟩
        rw [put_ca]
        obtain ⟨HC, hEC⟩ : ∃ HC, upd HB x (.ins (He.ga K "Keeper") dx (kpF z.x fm p pc 0 0)) = HC := ⟨_, rfl⟩
        have xC : HC x = some (.ins (He.ga K "Keeper") dx (kpF z.x fm p pc 0 0)) := by rw [← hEC]; exact upd_same
        have iC : Ini K x fm p us (fs.map Frm.name) kvs ad H HC (fun _ => []) := by rw [← hEC]; exact iB.fld xB
        have tC : TK HA HC := by rw [← hEC]; exact (TK.same sB).trans (TK.put xB rfl)
        have lC : HC vl = some (.lst vus) := by rw [← hEC]; exact get_put (sB _ _ v3) xB (fun z => nomatch z)
        have pC : HC pc = some (.tup [V.int (d : Nat), V.int cr.num]) := by rw [← hEC]; exact get_put eB xB (fun z => nomatch z)
        simp only [hEC]
        refine ⟨a, rfl, _, hq.tk tC, _, rfl, va, rfl, _, v1.tk tC, _, rfl, vb, rfl, _, v2.tk tC, _, rfl, _, _, _, xC, T.c_Keeper, T.a_turn_now, kp_len .., ?_⟩
        rw [put_now]
        obtain ⟨HD, hED⟩ : ∃ HD, upd HC x (.ins (He.ga K "Keeper") dx (kpF z.x fm p pc cr.turn 0)) = HD := ⟨_, rfl⟩
        have xD : HD x = some (.ins (He.ga K "Keeper") dx (kpF z.x fm p pc cr.turn 0)) := by rw [← hED]; exact upd_same
        have iD : Ini K x fm p us (fs.map Frm.name) kvs ad H HD (fun _ => []) := by rw [← hED]; exact iC.fld xC
        have tD : TK HA HD := by rw [← hED]; exact tC.trans (TK.put xC rfl)
        have lD : HD vl = some (.lst vus) := by rw [← hED]; exact get_put lC xC (fun z => nomatch z)
        have pD : HD pc = some (.tup [V.int (d : Nat), V.int cr.num]) := by rw [← hED]; exact get_put pC xC (fun z => nomatch z)
        simp only [hED]
        refine ⟨a, rfl, _, hq.tk tD, _, rfl, va, rfl, _, v1.tk tD, _, rfl, vb, rfl, _, v2.tk tD, _, rfl, _, _, _, xD, T.c_Keeper, T.a_known_from, kp_len .., ?_⟩
        rw [put_from]
        obtain ⟨HE, hEE⟩ : ∃ HE, upd HD x (.ins (He.ga K "Keeper") dx (kpF z.x fm p pc cr.turn cr.since)) = HE := ⟨_, rfl⟩
        have xE : HE x = some (.ins (He.ga K "Keeper") dx (kpF z.x fm p pc cr.turn cr.since)) := by rw [← hEE]; exact upd_same
        have iE : Ini K x fm p us (fs.map Frm.name) kvs ad H HE (fun _ => []) := by rw [← hEE]; exact iD.fld xD
        have tE : TK HA HE := by rw [← hEE]; exact tD.trans (TK.put xD rfl)
        have lE : HE vl = some (.lst vus) := by rw [← hEE]; exact get_put lD xD (fun z => nomatch z)
        have pE : HE pc = some (.tup [V.int (d : Nat), V.int cr.num]) := by rw [← hEE]; exact get_put pD xD (fun z => nomatch z)
        simp only [hEE]
        refine ⟨a, rfl, _, hq.tk tE, _, rfl, va, rfl, _, v1.tk tE, _, rfl, vl, rfl, ⟨_, SqL.of lE⟩, ?_⟩
        have entL : (entsOf (fs.map Frm.name) cr.tb).length ≤ 1000 := by
          have : ∀ ns : List Str, (∀ n ∈ ns, n ∈ fs.map Frm.name) → (entsOf ns cr.tb).length ≤ 30 * ns.length := by
            intro ns
            induction ns with
            | nil => intro _; exact Nat.zero_le _
            | cons n ns ih =>
              intro h
              have a := (gtabs n (h n List.mem_cons_self)).len
              have b := ih fun x hx => h x (List.mem_cons_of_mem _ hx)
              simp only [entsOf, List.flatMap_cons, List.length_append, List.length_map, List.length_cons] at b ⊢
              omega
          have := this _ (fun n hn => hn)
          rw [List.length_map] at this
          omega
        have vne : vus ≠ [] → ∀ n ∈ fs.map Frm.name, vl ≠ ad n := by
          intro h n hn e
          obtain ⟨ts, q1, q2⟩ := iE.l n hn
          cases q2
          rw [← e, lE] at q1
          exact h (HO.lst.inj (Option.some.inj q1))
        obtain ⟨J, hJ⟩ : ∃ J : List (Str × Ent) → List (Str × Ent) → L2.St → Hp → Prop, J = fun d1 r1 σ H' => Ini K x fm p us (fs.map Frm.name) kvs ad H H' (fun n => (d1.filter fun x => decide (x.1 = n)).map (·.2)) ∧ H' x = some (.ins (He.ga K "Keeper") dx (kpF z.x fm p pc cr.turn cr.since)) ∧ TK HE H' ∧ H' vl = some (.lst vus) ∧ ∃ y1 y2 y3, σ = [some (V.ref x), some (V.ref z.x), some (V.ref l), y0, some (V.ref a), y1, y2, y3, none, none] := ⟨_, rfl⟩
        refine lp_list v4 J (by rw [hJ]; exact ⟨iE, xE, TK.refl _, lE, _, _, _, rfl⟩) (fun d r σ H' k => by rw [hJ] at k; exact SqL.of k.2.2.2.1) ?_ ?_
        · rintro d1 v y r1 σ H' e ⟨ra, ru, rz, rfl, w1, w2, w3⟩ k
          rw [hJ] at k
          obtain ⟨jj, jx, jt, jl, y1, y2, y3, rfl⟩ := k
          have hy : y ∈ entsOf (fs.map Frm.name) cr.tb := by rw [e]; simp
          have dl : (entsOf (fs.map Frm.name) cr.tb).length = d1.length + (r1.length + 1) := by rw [e]; simp
          have hyn : y.1 ∈ fs.map Frm.name := by
            obtain ⟨n, hn, hm2⟩ := List.mem_flatMap.mp hy
            obtain ⟨en, _, rfl⟩ := List.mem_map.mp hm2
            exact hn
          have vn : vus ≠ [] := fun h => by
            have := Paired.length v4
            rw [h] at this
            simp at this
            rw [← this] at dl
            simp at dl
          obtain ⟨ts, q1, q2⟩ := jj.l y.1 hyn
          have tl : ts.length ≤ d1.length := by
            rw [Paired.length q2, List.length_map]
            exact List.length_filter_le _ _
          have tA := tE.trans jt
          walk_at "un"
          refine ⟨_, w1.tk tA, rfl, _, _, rfl, _, _, rfl, _, _, rfl, rfl, ?_⟩
          refine ⟨_, _, _, jx, T.c_Keeper, T.a_known, _, kp_kd .., _, rfl, _, by rw [← (g2 y.1 hyn).1]; exact DGet.k (k := .inr y.1) jj.p, tyL q1, sz (by decide), fun pt npt => ?_⟩
          have st := L2.Same.new (o := .tup [ru, rz]) npt
          have i2 := jj.same st
          have q1' := st _ _ q1
          have tkf := (TK.same st).trans (TK.put (o := .lst (ts ++ [.ref pt])) q1' rfl)
          have nad : ∀ n ∈ fs.map Frm.name, n ≠ y.1 → ad n ≠ ad y.1 := fun n hn h e => h (g3 n hn y.1 hyn e)
          refine app1 q1' (szl (by omega)) ?_
          rw [hJ]
          have adx : ad y.1 ≠ x := fun h => by rw [h, jx] at q1; cases q1
          refine ⟨⟨i2.tk.trans (TK.put q1' rfl), fun a u n e => get_ne (i2.kx a u n e) (fun h => ?_), get_ne i2.fm (fun h => ?_), get_put i2.p q1' (fun z => nomatch z), fun n hn => ?_⟩, get_put (st _ _ jx) q1' (fun z => nomatch z), jt.trans tkf, get_ne (st _ _ jl) (vne vn y.1 hyn), _, _, _, rfl⟩
          · rw [h, (g2 y.1 hyn).2] at e; cases e
          · have f1 := iE.fm
            obtain ⟨ts9, z1, z2⟩ := iE.l y.1 hyn
            cases z2
            rw [h, z1] at f1
            have h0 : us = [] := (HO.lst.inj (Option.some.inj f1)).symm
            have := Paired.length hus
            rw [h0] at this
            have h1 : fs = [] := List.length_eq_zero_iff.mp this.symm
            rw [h1] at hyn
            cases hyn
          · by_cases hny : n = y.1
            · rw [hny]
              refine ⟨ts ++ [.ref pt], upd_same, ?_⟩
              rw [List.filter_append, List.map_append]
              have : ([y].filter fun x => decide (x.1 = y.1)) = [y] := by simp
              rw [this]
              exact paired_snoc (pairE_tk q2 tkf) ⟨pt, ru, rz, rfl, SqT.of (get_put upd_same q1' (fun z => nomatch z)), w2.tk (tA.trans tkf), w3.tk (tA.trans tkf)⟩
            · obtain ⟨ts2, z1, z2⟩ := jj.l n hn
              refine ⟨ts2, get_ne (st _ _ z1) (nad n hn hny), ?_⟩
              rw [List.filter_append, List.map_append]
              have : ([y].filter fun x => decide (x.1 = n)) = [] := by simp [show ¬ y.1 = n from fun h => hny h.symm]
              rw [this]
              simpa using pairE_tk z2 tkf
        · intro σ H' k
          rw [hJ] at k
          obtain ⟨jj, jx, jt, jl, y1, y2, y3, rfl⟩ := k
          have shH := jj.sh hx hz
          walk_at "un"
          refine ⟨_, _, shH.ins, rfl, z, B, 0, rfl, by decide, shH, fun ra HZ nra sZ eZ => ⟨ra, rfl, ⟨_, SqL.of eZ⟩, ?_⟩⟩
          rw [t0] at eZ
          refine lp_list (α := Unit) (F := fun _ _ => True) (as := []) .nil (fun d r σ H' => H' = HZ) rfl (fun d r σ H' k => by rw [k]; exact SqL.of eZ) (fun d x y r σ H' e => by simp at e) ?_
          rintro σ H' rfl
          have hjj : Ini K x fm p us (fs.map Frm.name) kvs ad H H' cr.tb := by
            have h := jj.same sZ
            exact ⟨h.tk, h.kx, h.fm, h.p, fun n hn => by
              obtain ⟨ts, z1, z2⟩ := h.l n hn
              rw [ents_of _ _ hfs.2.1 n hn] at z2
              exact ⟨ts, z1, z2⟩⟩
          refine stand _ pc d cr.num cr.turn cr.since cr.tb hjj (sZ _ _ jx) (SqT.of (sZ _ _ (jt.1 _ _ pE))) (fun f hf => ?_) hd12 ⟨b1, hn1000⟩ ⟨b5, b6, ht1000⟩ ?_
          · have := gtabs f.name (List.mem_map.mpr ⟨f, hf, rfl⟩)
            rw [hwd f hf] at this
            exact this
          · rw [ho]
            exact ⟨rfl, rfl, rfl, rfl, fun _ _ => rfl⟩
end
end HW
set_option Elab.async false
set_option linter.all false
set_option maxRecDepth 100000
set_option maxHeartbeats 4000000
namespace HW
open PySem PySem.Spec PyProof.Rows L2
local macro_rules | `(tactic| walk_at "un") => `(tactic| simp only [cxOf, tSeq, tNext, tIfS, tTest, tOp, tUn, tVar, tC, tRet, tRetN, tNever, tAsg, gName, gNil, gCons, gTup, eq_self, rListOf, Option.isSome_none, Option.isSome_some, gSub, tDrop, tCB, tCall, tCons, tNil, tTup, tLst, tB, tAnd, tOr, tNot, tAndV, tOrV, tNotV, tNoPart, tPart, tSl, tSl3, tBM, tM1, tDNewK, tDNewT, tDGet, tDIn, tDNotIn, sDPut, tYes, tFld, sFld, tMeth, tMake,
  for_L, for_T, for_R, for_S, lc_L, lc_T, lc_R, wipe, rI0, rU, rEq, rNe, rIxT, rIxL, rIxS, L2.start, List.map_cons, List.map_nil, List.length_cons, List.length_nil, Nat.reduceAdd, Nat.reduceSub, List.replicate_succ, List.replicate_zero, List.cons_append, List.nil_append, List.append_nil,
  List.getElem?_cons_zero, List.getElem?_cons_succ, List.set_cons_zero, List.set_cons_succ, Option.some.injEq, V.int.injEq, V.bl.injEq, V.str.injEq, V.ref.injEq, V.ty.injEq, List.cons.injEq, and_true, true_and, exists_eq_left, exists_eq_left', exists_and_left, exists_eq, scal, decide_eq_true_eq, reduceCtorEq, decide_false, decide_true, Bool.not_true, Bool.not_false, if_true, if_false, Bool.false_eq_true, ite_true, ite_false, Bool.not_eq_true', decide_eq_false_iff_not])
local macro_rules | `(tactic| walk_at "tk") => `(tactic| first | exact TK.refl _ | assumption | exact TK.same (by assumption) | (refine TK.trans ?_ (TK.new (by assumption)); walk_at "tk") | (refine TK.trans ?_ (TK.put (by assumption) rfl); walk_at "tk") | (refine TK.trans ?_ (TK.same (by assumption)); walk_at "tk"))
local macro_rules | `(tactic| walk_at "fz") => `(tactic| first | assumption | exact L2.SqT.tk (by assumption) (by walk_at "tk") | exact IsRch.tk (by assumption) (by walk_at "tk") | exact IsPlt.tk (by assumption) (by walk_at "tk") | exact IsStp.tk (by assumption) (by walk_at "tk") | exact IsRow.tk (by assumption) (by walk_at "tk") | exact IsEnt.tk (by assumption) (by walk_at "tk") | exact pairS_tk (by assumption) (by walk_at "tk") | exact pairE_tk (by assumption) (by walk_at "tk"))
local macro_rules | `(tactic| walk_at "sm") => `(tactic| first | exact L2.Same.refl _ | assumption | (refine L2.Same.trans ?_ (L2.Same.new (by assumption)); walk_at "sm") | (refine L2.Same.put ?_ (by assumption); walk_at "sm") | (refine L2.Same.trans ?_ (by assumption); walk_at "sm"))
local macro_rules | `(tactic| walk_at "jk") => `(tactic| first | exact ⟨_, rfl⟩ | exact ⟨_, _, rfl, rfl⟩ | exact ⟨⟨_, rfl⟩, _, rfl⟩ | exact ⟨_, rfl, _, rfl⟩ | simp)

section
variable {P : Program} {w : World} {K : PySem.W.Frag} {mg : Str → Option Value} {base : Heap}

/-! _law_draw -/
theorem fmodN (x : Int) {m : Int} (h : 0 < m) : 0 ≤ x.fmod m ∧ x.fmod m < m := by
  rw [Int.fmod_eq_emod_of_nonneg x (Int.le_of_lt h)]
  exact ⟨Int.emod_nonneg _ (by omega), Int.emod_lt_of_pos _ h⟩
theorem sc_law_draw : FnScope ["script", "k", "many", "cell", "number"] ["script", "k", "many"] (defScope s_law_draw) := ⟨rfl, rfl, rfl, by decide +kernel, rfl, by decide +kernel, by decide +kernel⟩
theorem F_law_draw (T : Top K mg) : Fn P w K mg base CX0 1 "_law_draw" ["script", "k", "many"] (sp_draw K) := by
  obtain ⟨fd, F⟩ := T.D_law_draw
  refine mk_fn F T.g_law_draw (fun _ _ _ _ _ _ us hl => match us, hl with | [_, _, _], _ => rfl) (F.okN sc_law_draw (fun vs H Q E h => ?_) (fun cdv A outer s H vs Q E hr h => ?_))
  · obtain ⟨v, k, m, rfl, _⟩ := h
    rfl
  · obtain ⟨v, k, m, rfl, ⟨a, ns, rfl, hs, hl⟩, hk, hk2, hm, hm2, q⟩ := h
    refine ⟨_, (pss_cons (ps_if (pt_cmpR op_eq (pe_callB call_len_seq (by rfl) T.f_len PySem.boot_len (pa_cons (pv 0) pa_nil)) pe_int (nomark _)) (pss_one (ps_ret pe_int)) pss_nil)
      (pss_cons (ps_set (i := 3) sc_law_draw.nd rfl (.inl rfl) (pe_op op_modN (pe_ix ix_list (pv 0) (pe_op op_modN (pv 1) (pe_callB call_len_seq (by rfl) T.f_len PySem.boot_len (pa_cons (pv 0) pa_nil))) (fun _ _ => rfl)) pe_int))
      (pss_cons (ps_set (i := 4) sc_law_draw.nd rfl (.inl rfl) (pe_op op_modN (pe_op op_mul (pe_op op_add (pv 3) pe_int) (pe_op op_add pe_int (pe_op op_mul pe_int (pv 1)))) pe_int))
      (pss_cons (ps_set (i := 4) sc_law_draw.nd rfl (.inl rfl) (pe_op op_modN (pe_op op_mul (pe_op op_add (pv 4) (pv 1)) (pe_op op_add (pv 4) pe_int)) pe_int))
      (pss_one (ps_ret (pe_op op_modN (pe_op op_fdivN (pv 4) pe_int) (pv 2)))))))), ?_⟩
    walk_at "un"
    refine ⟨_, .inl hs, ?_⟩
    rw [List.length_map]
    by_cases h0 : ns.length = 0
    · rw [if_pos (by omega)]
      exact q 0 (Int.le_refl _) (by omega)
    · rw [if_neg (by omega)]
      have b1 := fmodN k (show (0 : Int) < (ns.length : Int) by omega)
      obtain ⟨j, hj⟩ := Int.eq_ofNat_of_zero_le b1.1
      have hj2 : j < ns.length := by have := b1.2; rw [hj] at this; exact Int.ofNat_lt.mp this
      refine ⟨_, .inl hs, k, (ns.length : Int), rfl, by rw [List.length_map], by omega, _, _, congrArg V.int hj, hs, V.int ns[j], atI_nat (by simp [hj2]), ?_⟩
      have b2 := fmodN ns[j] (show (0 : Int) < 1000000007 by decide)
      refine ⟨_, _, rfl, rfl, (show (1000000007 : Int) ≠ 0 by decide), _, rfl, _, _, rfl, rfl, .inl ⟨by decide, by decide⟩, _, rfl, _, _, rfl, rfl, .inl ⟨by omega, by omega⟩, _, _, rfl, rfl, (show (2147483629 : Int) ≠ 0 by decide), ?_⟩
      have b3 := fmodN ((ns[j].fmod 1000000007 + 5) * (40692 + 977 * k)) (show (0 : Int) < 2147483629 by decide)
      refine ⟨_, rfl, _, rfl, _, _, rfl, rfl, .inl ⟨by omega, by omega⟩, _, _, rfl, rfl, (show (2147483647 : Int) ≠ 0 by decide), _, _, rfl, rfl, ⟨by decide, by decide⟩, _, _, rfl, rfl, (show m ≠ 0 by omega), ?_⟩
      have b4 := fun x => fmodN x (show (0 : Int) < m by omega)
      exact q _ (b4 _).1 (b4 _).2
/-! _law_far -/
theorem sc_law_far : FnScope ["script", "k", "number"] ["script", "k"] (defScope s_law_far) := ⟨rfl, rfl, rfl, by decide +kernel, rfl, by decide +kernel, by decide +kernel⟩
theorem F_law_far (T : Top K mg) (G_law_draw : Fn P w K mg base CX0 1 "_law_draw" ["script", "k", "many"] (sp_draw K)) : Fn P w K mg base CX0 2 "_law_far" ["script", "k"] (sp_far K) := by
  obtain ⟨fd, F⟩ := T.D_law_far
  refine mk_fn F T.g_law_far (fun _ _ _ _ _ _ us hl => match us, hl with | [_, _], _ => rfl) (F.okN sc_law_far (fun vs H Q E h => ?_) (fun cdv A outer s H vs Q E hr h => ?_))
  · obtain ⟨v, k, rfl, _⟩ := h
    rfl
  · obtain ⟨v, k, rfl, ⟨a, ns, rfl, hs, hl⟩, hk, hk2, q⟩ := h
    refine ⟨_, (pss_cons (ps_if (pt_cmpR op_eq (pe_callB call_len_seq (by rfl) T.f_len PySem.boot_len (pa_cons (pv 0) pa_nil)) pe_int (nomark _)) (pss_one (ps_ret pe_int)) pss_nil)
      (pss_cons (ps_set (i := 2) sc_law_far.nd rfl (.inl rfl) (pe_op op_add (pe_fn G_law_draw (hr.mono (by decide)) (by rfl) pass0 (pa_cons (pv 0) (pa_cons (pv 1) (pa_cons pe_int pa_nil)))) pe_int))
      (pss_one (ps_ret (pe_op op_modN (pe_op op_add (pe_op op_mul (pe_op op_modN (pe_ix ix_list (pv 0) (pe_op op_modN (pv 1) (pe_callB call_len_seq (by rfl) T.f_len PySem.boot_len (pa_cons (pv 0) pa_nil))) (fun _ _ => rfl)) (pe_op op_pow pe_int pe_int)) (pv 2)) (pe_op op_pow (pv 2) pe_int)) (pe_op op_pow pe_int pe_int)))))), ?_⟩
    walk_at "un"
    have hs2 : IsScr K H (.ref a) := ⟨a, ns, rfl, hs, hl⟩
    refine ⟨_, .inl hs, ?_⟩
    rw [List.length_map]
    by_cases h0 : ns.length = 0
    · rw [if_pos (by omega)]
      exact q 0 (Int.le_refl _) (by decide +kernel)
    · rw [if_neg (by omega)]
      have b1 := fmodN k (show (0 : Int) < (ns.length : Int) by omega)
      obtain ⟨j, hj⟩ := Int.eq_ofNat_of_zero_le b1.1
      have hj2 : j < ns.length := by have := b1.2; rw [hj] at this; exact Int.ofNat_lt.mp this
      refine ⟨_, k, 100000000, rfl, hs2, hk, hk2, by decide, by decide, fun i i0 i1 => ⟨_, rfl, ?_⟩⟩
      refine ⟨_, .inl hs, k, (ns.length : Int), rfl, by rw [List.length_map], by omega, _, _, congrArg V.int hj, hs, V.int ns[j], atI_nat (by simp [hj2]), ?_⟩
      have e50 : (10 : Int) ^ (50 : Int).toNat = 10 ^ 50 := rfl
      have ne : (10 : Int) ^ (50 : Int).toNat ≠ 0 := by decide +kernel
      refine ⟨_, _, rfl, rfl, ⟨by decide, by decide, by decide⟩, _, _, rfl, rfl, ne, _, _, rfl, rfl, .inr ⟨by omega, by omega⟩, _, _, rfl, rfl, ⟨by decide, by decide, by omega⟩, _, rfl, _, rfl, _, _, rfl, rfl, ⟨by decide, by decide, by decide⟩, _, _, rfl, rfl, ne, ?_⟩
      have b4 := fmodN (ns[j].fmod (10 ^ (50 : Int).toNat) * (i + 1) + (i + 1) ^ (5 : Int).toNat) (show (0 : Int) < 10 ^ (50 : Int).toNat by decide +kernel)
      exact q _ b4.1 (by rw [← e50]; exact b4.2)
/-! _law_name -/
theorem sc_law_name : FnScope ["script", "k", "name", "j"] ["script", "k"] (defScope s_law_name) := ⟨rfl, rfl, rfl, by decide +kernel, rfl, by decide +kernel, by decide +kernel⟩
theorem F_law_name (T : Top K mg) (G_law_draw : Fn P w K mg base CX0 1 "_law_draw" ["script", "k", "many"] (sp_draw K)) : Fn P w K mg base CX0 2 "_law_name" ["script", "k"] (sp_name K) := by
  obtain ⟨fd, F⟩ := T.D_law_name
  refine mk_fn F T.g_law_name (fun _ _ _ _ _ _ us hl => match us, hl with | [_, _], _ => rfl) (F.okN sc_law_name (fun vs H Q E h => ?_) (fun cdv A outer s H vs Q E hr h => ?_))
  · obtain ⟨v, k, rfl, _⟩ := h
    rfl
  · obtain ⟨v, k, rfl, hs, hk, hk2, q⟩ := h
    refine ⟨_, (pss_cons (ps_set (i := 2) sc_law_name.nd rfl (.inl rfl) pe_str)
      (pss_cons (ps_for PassesOwn.never rfl (pi_range1 (by rfl) T.f_range (pa_cons (pe_op op_add pe_int (pe_fn G_law_draw (hr.mono (by decide)) (by rfl) pass0 (pa_cons (pv 0) (pa_cons (pv 1) (pa_cons pe_int pa_nil))))) pa_nil)) (pg_name (i := 3) sc_law_name.nd rfl (.inl rfl)) (pss_one (ps_set (i := 2) sc_law_name.nd rfl (.inl rfl) (pe_op op_add_str (pv 2) (pe_ix ix_str pe_str (pe_fn G_law_draw (hr.mono (by decide)) (by rfl) pass0 (pa_cons (pv 0) (pa_cons (pe_op op_add (pe_op op_add (pv 1) pe_int) (pv 3)) (pa_cons pe_int pa_nil)))) (fun _ _ => rfl))))))
      (pss_one (ps_ret (pv 2))))), ?_⟩
    walk_at "un"
    refine ⟨v, k, 8, rfl, hs, hk, by omega, by decide, by decide, fun r r0 r1 => ⟨r, rfl, by omega, by omega, ?_⟩⟩
    obtain ⟨n, rfl⟩ := Int.eq_ofNat_of_zero_le r0
    have en : (1 : Int) + (n : Int) = ((n + 1 : Nat) : Int) := by omega
    refine lp_rng en (fun i σ H' => H' = H ∧ ∃ z x, σ = [some v, some (.int k), some (.str z), x] ∧ z.length = i ∧ ∀ c ∈ z.cps.toList, 97 ≤ c ∧ c ≤ 122) ⟨rfl, _, _, rfl, by decide +kernel, fun c hc => by rw [show ("" : Str).cps.toList = [] by decide +kernel] at hc; cases hc⟩ ?_ ?_
    · rintro i σ H' hi ⟨rfl, z, x, rfl, hz, hc⟩
      walk_at "un"
      refine ⟨v, k + 1 + (i : Int), 26, rfl, hs, by omega, by omega, by decide, by decide, fun r r0 r1 => ?_⟩
      obtain ⟨j, rfl⟩ := Int.eq_ofNat_of_zero_le r0
      have hj : j < 26 := by omega
      have al : ("abcdefghijklmnopqrstuvwxyz" : Str).cps.toList = [97, 98, 99, 100, 101, 102, 103, 104, 105, 106, 107, 108, 109, 110, 111, 112, 113, 114, 115, 116, 117, 118, 119, 120, 121, 122] := by decide +kernel
      obtain ⟨c, hcj, hc97⟩ : ∃ c, ("abcdefghijklmnopqrstuvwxyz" : Str).cps.toList[j]? = some c ∧ 97 ≤ c ∧ c ≤ 122 := by
        rw [al]
        have : ∀ j : Fin 26, ∃ c, ([97, 98, 99, 100, 101, 102, 103, 104, 105, 106, 107, 108, 109, 110, 111, 112, 113, 114, 115, 116, 117, 118, 119, 120, 121, 122] : List Nat)[j.val]? = some c ∧ 97 ≤ c ∧ c ≤ 122 := by
          intro j
          have hlt : j.val < ([97, 98, 99, 100, 101, 102, 103, 104, 105, 106, 107, 108, 109, 110, 111, 112, 113, 114, 115, 116, 117, 118, 119, 120, 121, 122] : List Nat).length := by simp
          refine ⟨_, List.getElem?_eq_getElem hlt, ?_⟩
          revert j
          decide
        exact this ⟨j, hj⟩
      refine ⟨_, rfl, sz (by decide +kernel), c, atI_nat hcj, ?_⟩
      have l1 : (⟨#[c]⟩ : Str).length = 1 := rfl
      refine ⟨sz (by omega), ?_⟩
      have e1 : (z ++ (⟨#[c]⟩ : Str)).cps.toList = z.cps.toList ++ [c] := TL.tl_append z ⟨#[c]⟩
      have e2 : (z ++ (⟨#[c]⟩ : Str)).length = i + 1 := by
        have a := TL.len_tl (z ++ (⟨#[c]⟩ : Str))
        have b := TL.len_tl z
        rw [show TL.tl (z ++ (⟨#[c]⟩ : Str)) = z.cps.toList ++ [c] from e1, List.length_append] at a
        rw [show TL.tl z = z.cps.toList from rfl] at b
        simp at a
        simp at b
        omega
      have e3 : ∀ x ∈ (z ++ (⟨#[c]⟩ : Str)).cps.toList, 97 ≤ x ∧ x ≤ 122 := by
        intro x hx
        rw [e1] at hx
        rcases List.mem_append.mp hx with hx | hx
        · exact hc x hx
        · rw [List.mem_singleton.mp hx]; exact hc97
      first | exact ⟨_, ⟨rfl, _, rfl⟩, e2, e3⟩ | exact ⟨_, _, ⟨rfl, rfl⟩, e2, e3⟩ | exact ⟨_, _, rfl, e2, e3⟩ | exact ⟨rfl, _, rfl, e2, e3⟩ | exact ⟨⟨_, rfl⟩, e2, e3⟩ | exact ⟨e2, e3, _, rfl⟩ | exact ⟨e2, e3⟩ | exact ⟨rfl, _, _, ⟨rfl, rfl⟩, e2, e3⟩
    · rintro σ H' ⟨rfl, z, x, rfl, hz, hc⟩
      walk_at "un"
      exact q z ⟨by omega, by omega, hc⟩
/-! _law_shapes -/
theorem sc_law_shapes : FnScope ["script", "name", "other", "shapes", "one", "width"] ["script"] (defScope s_law_shapes) := ⟨rfl, rfl, rfl, by decide +kernel, rfl, by decide +kernel, by decide +kernel⟩
theorem F_law_shapes (T : Top K mg) (G_law_draw : Fn P w K mg base CX0 1 "_law_draw" ["script", "k", "many"] (sp_draw K)) (G_law_name : Fn P w K mg base CX0 2 "_law_name" ["script", "k"] (sp_name K)) : Fn P w K mg base CX0 3 "_law_shapes" ["script"] (sp_shapes K) := by
  obtain ⟨fd, F⟩ := T.D_law_shapes
  refine mk_fn F T.g_law_shapes (fun _ _ _ _ _ _ us hl => match us, hl with | [_], _ => rfl) (F.okN sc_law_shapes (fun vs H Q E h => ?_) (fun cdv A outer s H vs Q E hr h => ?_))
  · obtain ⟨v, rfl, _⟩ := h
    rfl
  · obtain ⟨v, rfl, hs, q⟩ := h
    refine ⟨_, (pss_cons (ps_set (i := 1) sc_law_shapes.nd rfl (.inl rfl) (pe_fn G_law_name (hr.mono (by decide)) (by rfl) pass0 (pa_cons (pv 0) (pa_cons pe_int pa_nil))))
      (pss_cons (ps_set (i := 2) sc_law_shapes.nd rfl (.inl rfl) (pe_op op_add_str (pe_slice sl_str (pv 1) (po_some pe_int) po_none) pe_str))
      (pss_cons (ps_if (pt_cmpR op_eq (pv 2) (pv 1) (nomark _)) (pss_one (ps_set (i := 2) sc_law_shapes.nd rfl (.inl rfl) (pe_op op_add_str (pe_slice sl_str (pv 1) (po_some pe_int) po_none) pe_str))) pss_nil)
      (pss_cons (ps_set (i := 3) sc_law_shapes.nd rfl (.inl rfl) (pe_lst pa_nil))
      (pss_cons (ps_for PassesOwn.never rfl (pi_list (pe_lst (pa_cons (pv 1) (pa_cons (pv 2) pa_nil)))) (pg_name (i := 4) sc_law_shapes.nd rfl (.inl rfl)) (pss_cons (ps_set (i := 5) sc_law_shapes.nd rfl (.inl rfl) (pe_op op_add pe_int (pe_fn G_law_draw (hr.mono (by decide)) (by rfl) pass0 (pa_cons (pv 0) (pa_cons (pe_op op_add pe_int (pe_callB call_len_seq (by rfl) T.f_len PySem.boot_len (pa_cons (pv 3) pa_nil))) (pa_cons pe_int pa_nil))))))
      (pss_one (ps_expr (pe_bm PySem.F.plainAttrs_list PySem.F.slot_list_append PySem.F.type_list_append mt_append (pv 3) (pa_cons (pe_tup (pa_cons (pv 4) (pa_cons (pe_fn G_law_draw (hr.mono (by decide)) (by rfl) pass0 (pa_cons (pv 0) (pa_cons (pe_op op_add pe_int (pe_callB call_len_seq (by rfl) T.f_len PySem.boot_len (pa_cons (pv 3) pa_nil))) (pa_cons (pe_op op_add (pv 5) pe_int) pa_nil)))) (pa_cons (pv 5) pa_nil)))) pa_nil))))))
      (pss_one (ps_ret (pv 3)))))))), ?_⟩
    walk_at "un"
    refine ⟨v, 1000, rfl, hs, by decide, by decide, fun nm hnm => ?_⟩
    have l1 := hnm.1
    have l2 := hnm.2.1
    have lm : ("m" : Str).length = 1 := by decide +kernel
    have ln : ("n" : Str).length = 1 := by decide +kernel
    have cm : ("m" : Str).cps.toList = [109] := by decide +kernel
    have cn : ("n" : Str).cps.toList = [110] := by decide +kernel
    have lc : (cutS nm (some 1) none).length + 1 = nm.length := by
      have a := TL.len_tl (cutS nm (some 1) none)
      have b := TL.len_tl nm
      rw [show TL.tl (cutS nm (some 1) none) = nm.cps.toList.drop 1 from cutS_drop1 nm, List.length_drop] at a
      rw [show TL.tl nm = nm.cps.toList from rfl] at b
      omega
    have okx : ∀ (s : Str) (n : Nat), s.cps.toList = [n] → 97 ≤ n → n ≤ 122 → NameOk (cutS nm (some 1) none ++ s) := by
      intro s n hs h1 h2
      have e1 : (cutS nm (some 1) none ++ s).cps.toList = nm.cps.toList.drop 1 ++ [n] := by
        have := TL.tl_append (cutS nm (some 1) none) s
        rw [show TL.tl s = [n] from hs, show TL.tl (cutS nm (some 1) none) = nm.cps.toList.drop 1 from cutS_drop1 nm] at this
        exact this
      have e2 : (cutS nm (some 1) none ++ s).length = nm.length := by
        have a := TL.len_tl (cutS nm (some 1) none ++ s)
        have b := TL.len_tl nm
        rw [show TL.tl (cutS nm (some 1) none ++ s) = nm.cps.toList.drop 1 ++ [n] from e1, List.length_append, List.length_drop] at a
        rw [show TL.tl nm = nm.cps.toList from rfl] at b
        simp only [List.length_cons, List.length_nil] at a
        omega
      refine ⟨by omega, by omega, fun c hc => ?_⟩
      rw [e1] at hc
      rcases List.mem_append.mp hc with hc | hc
      · exact hnm.2.2 c (List.mem_of_mem_drop hc)
      · rw [List.mem_singleton.mp hc]; exact ⟨h1, h2⟩
    have sl : nm.length ≤ sizeLine := sz (by omega)
    refine ⟨nm, rfl, sl, _, rfl, sz (by omega), rfl, ?_⟩
    by_cases hq : cutS nm (some 1) none ++ ("m" : Str) = nm
    · rw [if_pos (by rw [hq])]
      refine ⟨nm, rfl, sl, _, rfl, sz (by omega), Nat.zero_le _, fun p np => ⟨sz (by decide), fun p2 np2 => ?_⟩⟩
      have hok := okx "n" 110 cn (by decide) (by decide)
      have hne : cutS nm (some 1) none ++ ("n" : Str) ≠ nm := by
        intro h0
        have h := h0.trans hq.symm
        have h2 := congrArg (fun s : Str => TL.tl s) h
        simp only [TL.tl_append] at h2
        have h3 := List.append_cancel_left h2
        rw [show TL.tl ("n" : Str) = [110] from cn, show TL.tl ("m" : Str) = [109] from cm] at h3
        cases h3
      generalize cutS nm (some 1) none ++ ("n" : Str) = oth at hok hne np2 ⊢
      · skip
        obtain ⟨H1, hE1, s1, e1⟩ := fr np (.lst [])
        simp only [hE1] at np2 ⊢
        obtain ⟨H2, hE2, s2, e2⟩ := fr np2 (.lst [V.str nm, V.str oth])
        simp only [hE2]
        have S2 := s1.trans s2
        refine ⟨⟨_, SqL.of e2⟩, ?_⟩
        have ppn : p2 ≠ p := fun e => by rw [e, e1] at np2; cases np2
        obtain ⟨I, hI⟩ : ∃ I : List Str → List Str → L2.St → Hp → Prop, I = fun d r σ H' => Same H H' ∧ H' p2 = some (.lst [V.str nm, V.str oth]) ∧ ∃ us fs x w, H' p = some (.lst us) ∧ Paired (IsFrm K H') us fs ∧ fs.map Frm.name = d ∧ (∀ f ∈ fs, f.keys ≤ f.width ∧ 1 ≤ f.width ∧ f.width ≤ 3) ∧ σ = [some v, some (V.str nm), some (V.str oth), some (V.ref p), x, w] := ⟨_, rfl⟩
        have pr : Paired (fun (v : V) (s : Str) => v = .str s) [V.str nm, V.str oth] [nm, oth] := .cons rfl (.cons rfl .nil)
        refine lp_list pr I (by rw [hI]; exact ⟨S2, e2, [], [], _, _, s2 _ _ e1, .nil, rfl, (fun _ h => nomatch h), rfl⟩) (fun d r σ H' z => by rw [hI] at z; exact SqL.of z.2.1) ?_ ?_
        · rintro d _ y r σ H' e rfl z
          rw [hI] at z
          obtain ⟨f1, f2, us, fs, x0, w0, f3, f4, f5, f6, rfl⟩ := z
          have ul : us.length = fs.length := Paired.length f4
          have fl : fs.length = d.length := by rw [← f5]; simp
          have dl : d.length < 2 := by have := congrArg List.length e; simp at this; omega
          walk_at "un"
          refine ⟨_, .inl (SqL.of f3), v, _, 3, rfl, hs.same f1, by omega, by omega, by decide, by decide, fun r1 q0 q1 => ⟨_, rfl, tyL f3, _, .inl (SqL.of f3), v, _, _, rfl, hs.same f1, by omega, by omega, by omega, by omega, fun r2 q2 q3 => ⟨sz (by decide), fun c nc => ?_⟩⟩⟩
          have sc := L2.Same.new (o := .tup [V.str y, V.int r2, V.int (1 + r1)]) nc
          refine app1 (sc _ _ f3) (szl (by omega)) ?_
          obtain ⟨k2, rfl⟩ := Int.eq_ofNat_of_zero_le q2
          obtain ⟨k1, rfl⟩ := Int.eq_ofNat_of_zero_le q0
          have tk := (TK.same sc).trans (TK.put (o := .lst (us ++ [.ref c])) (sc _ _ f3) rfl)
          rw [hI]
          refine ⟨L2.Same.put (f1.trans sc) np, get_ne (sc _ _ f2) ppn, _, fs ++ [⟨y, k2, 1 + k1⟩], _, _, upd_same, paired_snoc (pairF_tk f4 tk) ⟨c, rfl, SqT.of (get_put upd_same (sc _ _ f3) (fun z => nomatch z))⟩, by simp [f5], fun f hf => ?_, rfl⟩
          rcases List.mem_append.mp hf with hf | hf
          · exact f6 f hf
          · rw [List.mem_singleton.mp hf]
            show k2 ≤ 1 + k1 ∧ 1 ≤ 1 + k1 ∧ 1 + k1 ≤ 3
            omega
        · intro σ H' z
          rw [hI] at z
          obtain ⟨f1, f2, us, fs, x0, w0, f3, f4, f5, f6, rfl⟩ := z
          walk_at "un"
          refine q p us fs H' np f1 f3 f4 ⟨fun f hf => ⟨?_, f6 f hf⟩, ?_, ?_⟩ ?_
          · have : f.name ∈ fs.map Frm.name := List.mem_map.mpr ⟨f, hf, rfl⟩
            rw [f5] at this
            simp at this
            rcases this with h | h
            · rw [h]; exact hnm
            · rw [h]; exact hok
          · rw [f5]; simp; exact fun h => hne h.symm
          · have := congrArg List.length f5; simp at this; omega
          · have := congrArg List.length f5; simp at this; omega
    · rw [if_neg (by simpa using hq)]
      refine ⟨Nat.zero_le _, fun p np => ⟨sz (by decide), fun p2 np2 => ?_⟩⟩
      have hok := okx "m" 109 cm (by decide) (by decide)
      have hne := hq
      generalize cutS nm (some 1) none ++ ("m" : Str) = oth at hok hne np2 ⊢
      · skip
        obtain ⟨H1, hE1, s1, e1⟩ := fr np (.lst [])
        simp only [hE1] at np2 ⊢
        obtain ⟨H2, hE2, s2, e2⟩ := fr np2 (.lst [V.str nm, V.str oth])
        simp only [hE2]
        have S2 := s1.trans s2
        refine ⟨⟨_, SqL.of e2⟩, ?_⟩
        have ppn : p2 ≠ p := fun e => by rw [e, e1] at np2; cases np2
        obtain ⟨I, hI⟩ : ∃ I : List Str → List Str → L2.St → Hp → Prop, I = fun d r σ H' => Same H H' ∧ H' p2 = some (.lst [V.str nm, V.str oth]) ∧ ∃ us fs x w, H' p = some (.lst us) ∧ Paired (IsFrm K H') us fs ∧ fs.map Frm.name = d ∧ (∀ f ∈ fs, f.keys ≤ f.width ∧ 1 ≤ f.width ∧ f.width ≤ 3) ∧ σ = [some v, some (V.str nm), some (V.str oth), some (V.ref p), x, w] := ⟨_, rfl⟩
        have pr : Paired (fun (v : V) (s : Str) => v = .str s) [V.str nm, V.str oth] [nm, oth] := .cons rfl (.cons rfl .nil)
        refine lp_list pr I (by rw [hI]; exact ⟨S2, e2, [], [], _, _, s2 _ _ e1, .nil, rfl, (fun _ h => nomatch h), rfl⟩) (fun d r σ H' z => by rw [hI] at z; exact SqL.of z.2.1) ?_ ?_
        · rintro d _ y r σ H' e rfl z
          rw [hI] at z
          obtain ⟨f1, f2, us, fs, x0, w0, f3, f4, f5, f6, rfl⟩ := z
          have ul : us.length = fs.length := Paired.length f4
          have fl : fs.length = d.length := by rw [← f5]; simp
          have dl : d.length < 2 := by have := congrArg List.length e; simp at this; omega
          walk_at "un"
          refine ⟨_, .inl (SqL.of f3), v, _, 3, rfl, hs.same f1, by omega, by omega, by decide, by decide, fun r1 q0 q1 => ⟨_, rfl, tyL f3, _, .inl (SqL.of f3), v, _, _, rfl, hs.same f1, by omega, by omega, by omega, by omega, fun r2 q2 q3 => ⟨sz (by decide), fun c nc => ?_⟩⟩⟩
          have sc := L2.Same.new (o := .tup [V.str y, V.int r2, V.int (1 + r1)]) nc
          refine app1 (sc _ _ f3) (szl (by omega)) ?_
          obtain ⟨k2, rfl⟩ := Int.eq_ofNat_of_zero_le q2
          obtain ⟨k1, rfl⟩ := Int.eq_ofNat_of_zero_le q0
          have tk := (TK.same sc).trans (TK.put (o := .lst (us ++ [.ref c])) (sc _ _ f3) rfl)
          rw [hI]
          refine ⟨L2.Same.put (f1.trans sc) np, get_ne (sc _ _ f2) ppn, _, fs ++ [⟨y, k2, 1 + k1⟩], _, _, upd_same, paired_snoc (pairF_tk f4 tk) ⟨c, rfl, SqT.of (get_put upd_same (sc _ _ f3) (fun z => nomatch z))⟩, by simp [f5], fun f hf => ?_, rfl⟩
          rcases List.mem_append.mp hf with hf | hf
          · exact f6 f hf
          · rw [List.mem_singleton.mp hf]
            show k2 ≤ 1 + k1 ∧ 1 ≤ 1 + k1 ∧ 1 + k1 ≤ 3
            omega
        · intro σ H' z
          rw [hI] at z
          obtain ⟨f1, f2, us, fs, x0, w0, f3, f4, f5, f6, rfl⟩ := z
          walk_at "un"
          refine q p us fs H' np f1 f3 f4 ⟨fun f hf => ⟨?_, f6 f hf⟩, ?_, ?_⟩ ?_
          · have : f.name ∈ fs.map Frm.name := List.mem_map.mpr ⟨f, hf, rfl⟩
            rw [f5] at this
            simp at this
            rcases this with h | h
            · rw [h]; exact hnm
            · rw [h]; exact hok
          · rw [f5]; simp; exact fun h => hne h.symm
          · have := congrArg List.length f5; simp at this; omega
          · have := congrArg List.length f5; simp at this; omega
/-! _law_stretch -/
theorem sc_law_stretch : FnScope ["script", "k", "low", "high", "way"] ["script", "k"] (defScope s_law_stretch) := ⟨rfl, rfl, rfl, by decide +kernel, rfl, by decide +kernel, by decide +kernel⟩
theorem F_law_stretch (T : Top K mg) (G_law_draw : Fn P w K mg base CX0 1 "_law_draw" ["script", "k", "many"] (sp_draw K)) (G_law_far : Fn P w K mg base CX0 2 "_law_far" ["script", "k"] (sp_far K)) : Fn P w K mg base CX0 3 "_law_stretch" ["script", "k"] (sp_stretch K) := by
  obtain ⟨fd, F⟩ := T.D_law_stretch
  refine mk_fn F T.g_law_stretch (fun _ _ _ _ _ _ us hl => match us, hl with | [_, _], _ => rfl) (F.okN sc_law_stretch (fun vs H Q E h => ?_) (fun cdv A outer s H vs Q E hr h => ?_))
  · obtain ⟨v, k, rfl, _⟩ := h
    rfl
  · obtain ⟨v, k, rfl, hs, hk, hk2, q⟩ := h
    refine ⟨_, (pss_cons (ps_set (i := 2) sc_law_stretch.nd rfl (.inl rfl) (pe_op op_sub (pe_fn G_law_draw (hr.mono (by decide)) (by rfl) pass0 (pa_cons (pv 0) (pa_cons (pv 1) (pa_cons pe_int pa_nil)))) pe_int))
      (pss_cons (ps_set (i := 3) sc_law_stretch.nd rfl (.inl rfl) (pe_op op_add (pe_op op_add (pv 2) pe_int) (pe_fn G_law_draw (hr.mono (by decide)) (by rfl) pass0 (pa_cons (pv 0) (pa_cons (pe_op op_add (pv 1) pe_int) (pa_cons pe_int pa_nil))))))
      (pss_cons (ps_set (i := 4) sc_law_stretch.nd rfl (.inl rfl) (pe_fn G_law_draw (hr.mono (by decide)) (by rfl) pass0 (pa_cons (pv 0) (pa_cons (pe_op op_add (pv 1) pe_int) (pa_cons pe_int pa_nil)))))
      (pss_cons (ps_if (pt_cmpR op_eq (pv 4) pe_int (nomark _)) (pss_one (ps_set (i := 2) sc_law_stretch.nd rfl (.inl rfl) (pe_op op_sub (pv 2) (pe_fn G_law_far (hr.mono (by decide)) (by rfl) pass0 (pa_cons (pv 0) (pa_cons (pv 1) pa_nil)))))) pss_nil)
      (pss_cons (ps_if (pt_cmpR op_eq (pv 4) pe_int (nomark _)) (pss_one (ps_set (i := 3) sc_law_stretch.nd rfl (.inl rfl) (pe_op op_add (pv 3) (pe_fn G_law_far (hr.mono (by decide)) (by rfl) pass0 (pa_cons (pv 0) (pa_cons (pv 1) pa_nil)))))) pss_nil)
      (pss_cons (ps_if (pt_cmpR op_eq (pv 4) pe_int (nomark _)) (pss_one (ps_set (i := 2) sc_law_stretch.nd rfl (.inl rfl) pe_non)) pss_nil)
      (pss_cons (ps_if (pt_cmpR op_eq (pv 4) pe_int (nomark _)) (pss_one (ps_set (i := 3) sc_law_stretch.nd rfl (.inl rfl) pe_non)) pss_nil)
      (pss_one (ps_ret (pe_tup (pa_cons (pv 2) (pa_cons (pv 3) pa_nil)))))))))))), ?_⟩
    walk_at "un"
    refine ⟨v, k, 12, rfl, hs, hk, by omega, by decide, by decide, fun r1 a0 a1 => ⟨_, rfl, ?_⟩⟩
    refine ⟨v, k + 1, 6, rfl, hs, by omega, by omega, by decide, by decide, fun r2 b0 b1 => ⟨_, rfl, ?_⟩⟩
    refine ⟨v, k + 2, 8, rfl, hs, by omega, by omega, by decide, by decide, fun w c0 c1 => ⟨rfl, ?_⟩⟩
    have sm0 : ∀ n : Int, -1000 < n → n < 1000 → Sm n := fun n h1 h2 => sm_small (by omega) (by omega)
    have e52 : (10 : Int) ^ 52 = 100 * 10 ^ 50 := by decide +kernel
    have smf : ∀ n f : Int, -1000 < n → n < 1000 → 0 ≤ f → f < 10 ^ 50 → Sm (n - f) ∧ Sm (n + f) := by
      intro n f h1 h2 h3 h4
      have : (1000 : Int) < 10 ^ 50 := by decide +kernel
      unfold Sm
      rw [e52]
      generalize (10 : Int) ^ 50 = T at *
      exact ⟨⟨by omega, by omega⟩, by omega, by omega⟩
    have fin : ∀ (lo hi : Option Int) (p : Addr), H p = none → (∀ n ∈ lo, Sm n) → (∀ n ∈ hi, Sm n) → (∀ x ∈ lo, ∀ y ∈ hi, x < y) → Q (.ref p) (upd H p (.tup [optV lo, optV hi])) := fun lo hi p np h1 h2 h3 => q p lo hi _ (L2.Same.new np) (SqT.of upd_same) h1 h2 h3
    by_cases w0 : w = 0
    · subst w0
      rw [if_pos rfl]
      refine ⟨v, k, rfl, hs, hk, by omega, fun f f0 f1 => ⟨_, rfl, rfl, ?_⟩⟩
      rw [if_neg (by simp)]
      refine ⟨rfl, ?_⟩
      rw [if_neg (by simp)]
      refine ⟨rfl, ?_⟩
      rw [if_neg (by simp)]
      refine ⟨sz (by decide), fun p np => fin (some _) (some _) p np (fun n hn => ?_) (fun n hn => ?_) fun x hx y hy => ?_⟩
      · cases hn; exact (smf _ f (by omega) (by omega) f0 f1).1
      · cases hn; exact sm0 _ (by omega) (by omega)
      · cases hx; cases hy; omega
    · rw [if_neg (by simpa using w0)]
      refine ⟨rfl, ?_⟩
      by_cases w1 : w = 1
      · subst w1
        rw [if_pos rfl]
        refine ⟨v, k, rfl, hs, hk, by omega, fun f f0 f1 => ⟨_, rfl, rfl, ?_⟩⟩
        rw [if_neg (by simp)]
        refine ⟨rfl, ?_⟩
        rw [if_neg (by simp)]
        refine ⟨sz (by decide), fun p np => fin (some _) (some _) p np (fun n hn => ?_) (fun n hn => ?_) fun x hx y hy => ?_⟩
        · cases hn; exact sm0 _ (by omega) (by omega)
        · cases hn; exact (smf _ f (by omega) (by omega) f0 f1).2
        · cases hx; cases hy; omega
      · rw [if_neg (by simpa using w1)]
        refine ⟨rfl, ?_⟩
        by_cases w2 : w = 2
        · subst w2
          rw [if_pos rfl]
          refine ⟨rfl, ?_⟩
          rw [if_neg (by simp)]
          refine ⟨sz (by decide), fun p np => fin none (some _) p np (fun n hn => nomatch hn) (fun n hn => ?_) fun x hx y hy => nomatch hx⟩
          cases hn; exact sm0 _ (by omega) (by omega)
        · rw [if_neg (by simpa using w2)]
          refine ⟨rfl, ?_⟩
          by_cases w3 : w = 3
          · subst w3
            rw [if_pos rfl]
            refine ⟨sz (by decide), fun p np => fin (some _) none p np (fun n hn => ?_) (fun n hn => nomatch hn) fun x hx y hy => nomatch hy⟩
            cases hn; exact sm0 _ (by omega) (by omega)
          · rw [if_neg (by simpa using w3)]
            refine ⟨sz (by decide), fun p np => fin (some _) (some _) p np (fun n hn => ?_) (fun n hn => ?_) fun x hx y hy => ?_⟩
            · cases hn; exact sm0 _ (by omega) (by omega)
            · cases hn; exact sm0 _ (by omega) (by omega)
            · cases hx; cases hy; omega
/-! _law_deed -/
theorem ixN_nat {n j : Nat} (h : j < n) : ixN n (j : Int) = some j := by
  unfold ixN
  rw [if_pos (by omega), if_pos (by omega)]
  rfl
theorem cut_keys (ms : List Int) (n : Nat) : cutV (ms.map V.int) none (some (n : Int)) = (ms.take n).map V.int := by
  unfold cutV
  rw [HT.sIx_nat, HT.sIx_none, List.drop_zero, Nat.sub_zero, List.length_map, ← List.map_take]
  congr 1
  rw [List.take_eq_take_iff]
  omega
theorem sc_law_deed : FnScope ["script", "k", "shapes", "name", "keys", "width", "row", "low", "high", "j"] ["script", "k", "shapes"] (defScope s_law_deed) := ⟨rfl, rfl, rfl, by decide +kernel, rfl, by decide +kernel, by decide +kernel⟩
theorem F_law_deed (T : Top K mg) (G_law_draw : Fn P w K mg base CX0 1 "_law_draw" ["script", "k", "many"] (sp_draw K)) (G_law_far : Fn P w K mg base CX0 2 "_law_far" ["script", "k"] (sp_far K)) (G_law_stretch : Fn P w K mg base CX0 3 "_law_stretch" ["script", "k"] (sp_stretch K)) : Fn P w K mg base CX0 4 "_law_deed" ["script", "k", "shapes"] (sp_deed K) := by
  obtain ⟨fd, F⟩ := T.D_law_deed
  refine mk_fn F T.g_law_deed (fun _ _ _ _ _ _ us hl => match us, hl with | [_, _, _], _ => rfl) (F.okN sc_law_deed (fun vs H Q E h => ?_) (fun cdv A outer s H vs Q E hr h => ?_))
  · obtain ⟨v, k, l, us, fs, rfl, _⟩ := h
    rfl
  · obtain ⟨v, k, l, us, fs, rfl, hs, hk, hk2, h1, h2, hf, hf2, q⟩ := h
    refine ⟨_, (pss_cons (ps_asg (pe_ix ix_list (pv 2) (pe_op op_fdivN (pe_fn G_law_draw (hr.mono (by decide)) (by rfl) pass0 (pa_cons (pv 0) (pa_cons (pe_op op_add (pv 1) pe_int) (pa_cons pe_int pa_nil)))) pe_int) (fun _ _ => rfl)) (pg_tup (n := 3) rfl (pgs_cons (pg_name (i := 3) sc_law_deed.nd rfl (.inl rfl)) (pgs_cons (pg_name (i := 4) sc_law_deed.nd rfl (.inl rfl)) (pgs_cons (pg_name (i := 5) sc_law_deed.nd rfl (.inl rfl)) pgs_nil)))))
      (pss_cons (ps_setLc (i := 6) (own := [("j", 9)]) (g := gName 9) (tt := tYes) rfl sc_law_deed.nd rfl rfl (sw_true rfl rfl rfl (by decide +kernel)) (pi_range1 (by rfl) T.f_range (pa_cons (pv 5) pa_nil)) (blkOk_by (own := [("j", 9)]) (N := ["script", "k", "shapes", "name", "keys", "width", "row", "low", "high", "j"]) (sc := defScope s_law_deed) (by decide +kernel)) (fun _ _ _ _ _ => (pg_name (i := 9) sc_law_deed.nd rfl (.inl rfl))) (fun _ _ _ _ _ => pts_nil) (fun _ _ _ _ _ => (pe_fn G_law_draw (hr.mono (by decide)) (by rfl) pass0 (pa_cons (pv 0) (pa_cons (pe_op op_add (pe_op op_add (pv 1) pe_int) (pv 9)) (pa_cons pe_int pa_nil))))))
      (pss_cons (ps_if (PW.pt (pw_and (pt_cmpR op_eq (pe_fn G_law_draw (hr.mono (by decide)) (by rfl) pass0 (pa_cons (pv 0) (pa_cons (pe_op op_add (pv 1) pe_int) (pa_cons pe_int pa_nil)))) pe_int (nomark _)) (pw_and1 (pt_cmpR op_lt (pv 4) (pv 5) (nomark _))))) (pss_one (ps_asg (pe_op op_sub (pe_fn G_law_far (hr.mono (by decide)) (by rfl) pass0 (pa_cons (pv 0) (pa_cons (pe_op op_add (pv 1) pe_int) pa_nil))) (pe_op op_mul pe_int (pe_op op_pow pe_int pe_int))) (pg_sub (pv 6) (pe_op op_sub (pv 5) pe_int) set_list))) pss_nil)
      (pss_cons (ps_asg (pe_fn G_law_stretch (hr.mono (by decide)) (by rfl) pass0 (pa_cons (pv 0) (pa_cons (pv 1) pa_nil))) (pg_tup (n := 2) rfl (pgs_cons (pg_name (i := 7) sc_law_deed.nd rfl (.inl rfl)) (pgs_cons (pg_name (i := 8) sc_law_deed.nd rfl (.inl rfl)) pgs_nil))))
      (pss_cons (ps_if (pt_cmpR op_eq (pe_fn G_law_draw (hr.mono (by decide)) (by rfl) pass0 (pa_cons (pv 0) (pa_cons (pe_op op_add (pv 1) pe_int) (pa_cons pe_int pa_nil)))) pe_int (nomark _)) (pss_one (ps_ret (pe_tup (pa_cons pe_str (pa_cons (pv 3) (pa_cons (pe_callTy call_tuple_of (by rfl) T.f_tuple (by decide +kernel) (pa_cons (pe_slice sl_list (pv 6) po_none (po_some (pv 4))) pa_nil)) (pa_cons (pv 7) (pa_cons (pv 8) pa_nil)))))))) pss_nil)
      (pss_one (ps_ret (pe_tup (pa_cons pe_str (pa_cons (pv 3) (pa_cons (pe_callTy call_tuple_of (by rfl) T.f_tuple (by decide +kernel) (pa_cons (pv 6) pa_nil)) (pa_cons (pv 7) (pa_cons (pv 8) pa_nil))))))))))))), ?_⟩
    walk_at "un"
    refine ⟨v, k + 3, 8, rfl, hs, by omega, by omega, by decide, by decide, fun r r0 r1 => ?_⟩
    have hdiv : r.fdiv 5 = r / 5 := Int.fdiv_eq_ediv_of_nonneg r (by decide)
    obtain ⟨j, hj⟩ := Int.eq_ofNat_of_zero_le (show 0 ≤ r.fdiv 5 by rw [hdiv]; omega)
    have hj2 : j < fs.length := by rw [hf2]; rw [hdiv] at hj; omega
    have hul : us.length = fs.length := Paired.length h2
    obtain ⟨f, hfj, ⟨fa, hfa, fq⟩⟩ := paired_get h2 (List.getElem?_eq_getElem (show j < us.length by omega))
    have hfm : f ∈ fs := List.mem_of_getElem? hfj
    obtain ⟨fo1, fo2, fo3, fo4⟩ := hf.1 f hfm
    refine ⟨_, _, rfl, rfl, ⟨by decide, by decide⟩, _, _, congrArg V.int hj, SqL.of h1, us[j], atI_nat (by simp), fa, hfa, _, fq, rfl, _, _, rfl, _, _, rfl, _, _, rfl, rfl, _, rfl, by omega, by omega, fun D nD => ?_⟩
    refine lcw_rng rfl (fun i acc H' => Same H H' ∧ ∃ ns : List Int, H' D = some (.lst (ns.map V.int)) ∧ ns.length = i ∧ ∀ n ∈ ns, Sm n) ⟨L2.Same.new nD, [], upd_same, rfl, fun _ h => nomatch h⟩ ?_ ?_
    · rintro i acc H' hi ⟨f1, ns, f2, f3, f4⟩
      walk_at "un"
      refine ⟨v, _, 2, rfl, hs.same f1, by omega, by omega, by decide, by decide, fun r2 q0 q1 => ⟨_, f2, szl (by rw [List.length_map]; omega), ?_⟩⟩
      refine ⟨L2.Same.put f1 nD, [], ns ++ [r2], by rw [upd_same]; simp, by simp [f3], fun n hn => ?_⟩
      rcases List.mem_append.mp hn with hn | hn
      · exact f4 n hn
      · rw [List.mem_singleton.mp hn]; exact sm_small (by omega) (by omega)
    · rintro acc H' ⟨f1, ns, f2, f3, f4⟩
      refine ⟨v, _, 4, rfl, hs.same f1, by omega, by omega, by decide, by decide, fun r2 q0 q1 => ⟨rfl, ?_⟩⟩
      by_cases hc : r2 = 0
      · rw [if_pos (by rw [hc])]
        refine ⟨_, rfl, _, rfl, ?_⟩
        by_cases hkw : (f.keys : Int) < (f.width : Int)
        · rw [if_pos hkw]
          refine ⟨v, _, rfl, hs.same f1, by omega, by omega, fun fr f0 f50 => ⟨_, _, rfl, rfl, ⟨by decide, by decide, by decide⟩, _, _, rfl, rfl, .inl ⟨by decide, by decide⟩, _, rfl, _, rfl, _, rfl, ?_⟩⟩
          have ew : (f.width : Int) - 1 = ((f.width - 1 : Nat) : Int) := by omega
          refine ⟨D, _, _, f.width - 1, rfl, rfl, f2, by rw [ew]; exact ixN_nat (by rw [List.length_map]; omega), ?_⟩
          have hsm : Sm (fr - 5 * 10 ^ (49 : Int).toNat) := by
            have e1 : (10 : Int) ^ 52 = 1000 * 10 ^ (49 : Int).toNat := by decide +kernel
            have e2 : (10 : Int) ^ 50 = 10 * 10 ^ (49 : Int).toNat := by decide +kernel
            have e3 : (1 : Int) < 10 ^ (49 : Int).toNat := by decide +kernel
            unfold Sm
            rw [e1]
            rw [e2] at f50
            generalize (10 : Int) ^ (49 : Int).toNat = T at *
            omega
          obtain ⟨H2, hE2⟩ : ∃ H2, upd H' D (.lst ((ns.map V.int).set (f.width - 1) (V.int (fr - 5 * 10 ^ (49 : Int).toNat)))) = H2 := ⟨_, rfl⟩
          simp only [hE2]
          obtain ⟨ms, eD, g3, g4⟩ : ∃ ms : List Int, H2 D = some (.lst (ms.map V.int)) ∧ ms.length = f.width ∧ ∀ n ∈ ms, Sm n := by
            refine ⟨ns.set (f.width - 1) (fr - 5 * 10 ^ (49 : Int).toNat), by rw [← hE2, upd_same, List.map_set], by rw [List.length_set]; exact f3, fun n hn => ?_⟩
            rcases List.mem_or_eq_of_mem_set hn with hn | hn
            · exact f4 n hn
            · rw [hn]; exact hsm
          have S : Same H H2 := by rw [← hE2]; exact L2.Same.put f1 nD
          refine ⟨v, k, rfl, hs.same S, hk, by omega, fun a lo hi H3 s3 hq sl sh sd => ⟨a, rfl, _, hq, rfl, _, _, rfl, _, _, rfl, rfl, ?_⟩⟩
          refine ⟨v, _, 3, rfl, hs.same (S.trans s3), by omega, by omega, by decide, by decide, fun r3 q3 q4 => ⟨by first | rfl | trivial, ?_⟩⟩
          by_cases hz : r3 = 0
          · rw [if_pos (by rw [hz])]
            refine ⟨_, rfl, slL (s3 _ _ eD) fun c H4 nc s4 e4 => ⟨_, rfl, _, .inl ⟨SqL.of e4, fun b nb => ⟨sz (by decide), fun p np => ?_⟩⟩⟩⟩
            rw [cut_keys] at np ⊢
            skip
            exact q (.ref p) ⟨false, f.name, ms.take f.keys, lo, hi⟩ f _ (S.trans (s3.trans (s4.trans ((L2.Same.new nb).trans (L2.Same.new np))))) ⟨p, .ref b, rfl, SqT.of upd_same, b, rfl, (L2.Same.new np) _ _ upd_same⟩ hfm rfl ⟨by show (ms.take f.keys).length = f.keys; rw [List.length_take]; omega, fun n hn => g4 n (List.mem_of_mem_take hn), sl, sh, sd, fo2, fo3, fo4⟩
          · rw [if_neg (by simpa using hz)]
            refine ⟨_, rfl, _, .inl ⟨SqL.of (s3 _ _ eD), fun b nb => ⟨sz (by decide), fun p np => ?_⟩⟩⟩
            skip
            exact q (.ref p) ⟨true, f.name, ms, lo, hi⟩ f _ (S.trans (s3.trans ((L2.Same.new nb).trans (L2.Same.new np)))) ⟨p, .ref b, rfl, SqT.of upd_same, b, rfl, (L2.Same.new np) _ _ upd_same⟩ hfm rfl ⟨g3, g4, sl, sh, sd, fo2, fo3, fo4⟩
        · rw [if_neg hkw]
          obtain ⟨ms, eD, g3, g4⟩ : ∃ ms : List Int, H' D = some (.lst (ms.map V.int)) ∧ ms.length = f.width ∧ ∀ n ∈ ms, Sm n := ⟨ns, f2, f3, f4⟩
          have S := f1
          refine ⟨v, k, rfl, hs.same S, hk, by omega, fun a lo hi H3 s3 hq sl sh sd => ⟨a, rfl, _, hq, rfl, _, _, rfl, _, _, rfl, rfl, ?_⟩⟩
          refine ⟨v, _, 3, rfl, hs.same (S.trans s3), by omega, by omega, by decide, by decide, fun r3 q3 q4 => ⟨by first | rfl | trivial, ?_⟩⟩
          by_cases hz : r3 = 0
          · rw [if_pos (by rw [hz])]
            refine ⟨_, rfl, slL (s3 _ _ eD) fun c H4 nc s4 e4 => ⟨_, rfl, _, .inl ⟨SqL.of e4, fun b nb => ⟨sz (by decide), fun p np => ?_⟩⟩⟩⟩
            rw [cut_keys] at np ⊢
            skip
            exact q (.ref p) ⟨false, f.name, ms.take f.keys, lo, hi⟩ f _ (S.trans (s3.trans (s4.trans ((L2.Same.new nb).trans (L2.Same.new np))))) ⟨p, .ref b, rfl, SqT.of upd_same, b, rfl, (L2.Same.new np) _ _ upd_same⟩ hfm rfl ⟨by show (ms.take f.keys).length = f.keys; rw [List.length_take]; omega, fun n hn => g4 n (List.mem_of_mem_take hn), sl, sh, sd, fo2, fo3, fo4⟩
          · rw [if_neg (by simpa using hz)]
            refine ⟨_, rfl, _, .inl ⟨SqL.of (s3 _ _ eD), fun b nb => ⟨sz (by decide), fun p np => ?_⟩⟩⟩
            skip
            exact q (.ref p) ⟨true, f.name, ms, lo, hi⟩ f _ (S.trans (s3.trans ((L2.Same.new nb).trans (L2.Same.new np)))) ⟨p, .ref b, rfl, SqT.of upd_same, b, rfl, (L2.Same.new np) _ _ upd_same⟩ hfm rfl ⟨g3, g4, sl, sh, sd, fo2, fo3, fo4⟩
      · rw [if_neg (by simpa using hc)]
        obtain ⟨ms, eD, g3, g4⟩ : ∃ ms : List Int, H' D = some (.lst (ms.map V.int)) ∧ ms.length = f.width ∧ ∀ n ∈ ms, Sm n := ⟨ns, f2, f3, f4⟩
        have S := f1
        refine ⟨v, k, rfl, hs.same S, hk, by omega, fun a lo hi H3 s3 hq sl sh sd => ⟨a, rfl, _, hq, rfl, _, _, rfl, _, _, rfl, rfl, ?_⟩⟩
        refine ⟨v, _, 3, rfl, hs.same (S.trans s3), by omega, by omega, by decide, by decide, fun r3 q3 q4 => ⟨by first | rfl | trivial, ?_⟩⟩
        by_cases hz : r3 = 0
        · rw [if_pos (by rw [hz])]
          refine ⟨_, rfl, slL (s3 _ _ eD) fun c H4 nc s4 e4 => ⟨_, rfl, _, .inl ⟨SqL.of e4, fun b nb => ⟨sz (by decide), fun p np => ?_⟩⟩⟩⟩
          rw [cut_keys] at np ⊢
          skip
          exact q (.ref p) ⟨false, f.name, ms.take f.keys, lo, hi⟩ f _ (S.trans (s3.trans (s4.trans ((L2.Same.new nb).trans (L2.Same.new np))))) ⟨p, .ref b, rfl, SqT.of upd_same, b, rfl, (L2.Same.new np) _ _ upd_same⟩ hfm rfl ⟨by show (ms.take f.keys).length = f.keys; rw [List.length_take]; omega, fun n hn => g4 n (List.mem_of_mem_take hn), sl, sh, sd, fo2, fo3, fo4⟩
        · rw [if_neg (by simpa using hz)]
          refine ⟨_, rfl, _, .inl ⟨SqL.of (s3 _ _ eD), fun b nb => ⟨sz (by decide), fun p np => ?_⟩⟩⟩
          skip
          exact q (.ref p) ⟨true, f.name, ms, lo, hi⟩ f _ (S.trans (s3.trans ((L2.Same.new nb).trans (L2.Same.new np)))) ⟨p, .ref b, rfl, SqT.of upd_same, b, rfl, (L2.Same.new np) _ _ upd_same⟩ hfm rfl ⟨g3, g4, sl, sh, sd, fo2, fo3, fo4⟩
/-! _law_done -/
theorem sc_law_done : FnScope ["keeper", "telling"] ["keeper", "telling"] (defScope s_law_done) := ⟨rfl, rfl, rfl, by decide +kernel, rfl, by decide +kernel, by decide +kernel⟩
theorem F_law_done (T : Top K mg) (M_tell : Mt P w K mg base CX0 7 "Keeper" "tell" ["self", "name", "row", "low", "high"] (sp_tell K true)) (M_strike : Mt P w K mg base CX0 7 "Keeper" "strike" ["self", "name", "key", "low", "high"] (sp_tell K false)) : Fn P w K mg base CX0 8 "_law_done" ["keeper", "telling"] (sp_done K) := by
  obtain ⟨fd, F⟩ := T.D_law_done
  obtain ⟨f_tell, fd_tell, G_tell, m_tell, b_tell⟩ := M_tell.ex
  obtain ⟨f_strike, fd_strike, G_strike, m_strike, b_strike⟩ := M_strike.ex
  refine mk_fn F T.g_law_done (fun _ _ _ _ _ _ us hl => match us, hl with | [_, _], _ => rfl) (F.okN sc_law_done (fun vs H Q E h => ?_) (fun cdv A outer s H vs Q E hr h => ?_))
  · obtain ⟨k, m, B, f, v, x, rfl, _⟩ := h
    rfl
  · obtain ⟨k, m, B, f, v, x, rfl, hk, hf, hx, hn, gl, hm, hnow, hB, q⟩ := h
    refine ⟨_, (pss_cons (ps_if (pt_cmpR op_eq (pe_ix ix_tup (pv 1) pe_int (fun _ _ => rfl)) pe_str (nomark _)) (pss_one (ps_ret (pe_meth (pv 0) T.c_Keeper m_tell G_tell (hr.mono (by decide)) b_tell .nil pass0 (pa_cons (pe_ix ix_tup (pv 1) pe_int (fun _ _ => rfl)) (pa_cons (pe_ix ix_tup (pv 1) pe_int (fun _ _ => rfl)) (pa_cons (pe_ix ix_tup (pv 1) pe_int (fun _ _ => rfl)) (pa_cons (pe_ix ix_tup (pv 1) pe_int (fun _ _ => rfl)) pa_nil))))))) pss_nil)
      (pss_one (ps_ret (pe_meth (pv 0) T.c_Keeper m_strike G_strike (hr.mono (by decide)) b_strike .nil pass0 (pa_cons (pe_ix ix_tup (pv 1) pe_int (fun _ _ => rfl)) (pa_cons (pe_ix ix_tup (pv 1) pe_int (fun _ _ => rfl)) (pa_cons (pe_ix ix_tup (pv 1) pe_int (fun _ _ => rfl)) (pa_cons (pe_ix ix_tup (pv 1) pe_int (fun _ _ => rfl)) pa_nil)))))))), ?_⟩
    walk_at "un"
    obtain ⟨ta, tu, rfl, k1, k2⟩ := hx
    refine ⟨_, rfl, _, k1, _, rfl, ?_⟩
    refine ⟨rfl, ?_⟩
    cases ht : x.tell with
    | true =>
      rw [ht] at k1
      rw [if_pos (by rfl)]
      refine ⟨_, _, hk.ins, rfl, _, rfl, _, k1, _, rfl, _, rfl, _, k1, _, rfl, _, rfl, _, k1, _, rfl, _, rfl, _, k1, _, rfl, ?_⟩
      exact ⟨k, m, B, f, tu, x, rfl, ht, hk, hf, k2, hn, gl, hm, hnow, hB, q⟩
    | false =>
      rw [ht] at k1
      rw [if_neg (by decide +kernel)]
      refine ⟨_, _, hk.ins, rfl, _, rfl, _, k1, _, rfl, _, rfl, _, k1, _, rfl, _, rfl, _, k1, _, rfl, _, rfl, _, k1, _, rfl, ?_⟩
      exact ⟨k, m, B, f, tu, x, rfl, ht, hk, hf, k2, hn, gl, hm, hnow, hB, q⟩
end
end HW
set_option Elab.async false
set_option linter.all false
set_option maxRecDepth 100000
set_option maxHeartbeats 4000000
namespace HW
open PySem PySem.Spec PyProof.Rows L2
local macro_rules | `(tactic| walk_at "un") => `(tactic| simp only [cxOf, tSeq, tNext, tIfS, tTest, tOp, tUn, tVar, tC, tRet, tRetN, tNever, tAsg, gName, gNil, gCons, gTup, eq_self, rListOf, Option.isSome_none, Option.isSome_some, gSub, tDrop, tCB, tCall, tCons, tNil, tTup, tLst, tB, tAnd, tOr, tNot, tAndV, tOrV, tNotV, tNoPart, tPart, tSl, tSl3, tBM, tM1, tDNewK, tDNewT, tDGet, tDIn, tDNotIn, sDPut, tYes, tFld, sFld, tMeth, tMake,
  for_L, for_T, for_R, for_S, lc_L, lc_T, lc_R, wipe, rI0, rU, rEq, rNe, rIxT, rIxL, rIxS, L2.start, List.map_cons, List.map_nil, List.length_cons, List.length_nil, Nat.reduceAdd, Nat.reduceSub, List.replicate_succ, List.replicate_zero, List.cons_append, List.nil_append, List.append_nil,
  List.getElem?_cons_zero, List.getElem?_cons_succ, List.set_cons_zero, List.set_cons_succ, Option.some.injEq, V.int.injEq, V.bl.injEq, V.str.injEq, V.ref.injEq, V.ty.injEq, List.cons.injEq, and_true, true_and, exists_eq_left, exists_eq_left', exists_and_left, exists_eq, scal, decide_eq_true_eq, reduceCtorEq, decide_false, decide_true, Bool.not_true, Bool.not_false, if_true, if_false, Bool.false_eq_true, ite_true, ite_false, Bool.not_eq_true', decide_eq_false_iff_not])
local macro_rules | `(tactic| walk_at "tk") => `(tactic| first | exact TK.refl _ | assumption | exact TK.same (by assumption) | (refine TK.trans ?_ (TK.new (by assumption)); walk_at "tk") | (refine TK.trans ?_ (TK.put (by assumption) rfl); walk_at "tk") | (refine TK.trans ?_ (TK.same (by assumption)); walk_at "tk"))
local macro_rules | `(tactic| walk_at "fz") => `(tactic| first | assumption | exact L2.SqT.tk (by assumption) (by walk_at "tk") | exact IsRch.tk (by assumption) (by walk_at "tk") | exact IsPlt.tk (by assumption) (by walk_at "tk") | exact IsStp.tk (by assumption) (by walk_at "tk") | exact IsRow.tk (by assumption) (by walk_at "tk") | exact IsEnt.tk (by assumption) (by walk_at "tk") | exact pairS_tk (by assumption) (by walk_at "tk") | exact pairE_tk (by assumption) (by walk_at "tk"))
local macro_rules | `(tactic| walk_at "sm") => `(tactic| first | exact L2.Same.refl _ | assumption | (refine L2.Same.trans ?_ (L2.Same.new (by assumption)); walk_at "sm") | (refine L2.Same.put ?_ (by assumption); walk_at "sm") | (refine L2.Same.trans ?_ (by assumption); walk_at "sm"))
local macro_rules | `(tactic| walk_at "jk") => `(tactic| first | exact ⟨_, rfl⟩ | exact ⟨_, _, rfl, rfl⟩ | exact ⟨⟨_, rfl⟩, _, rfl⟩ | exact ⟨_, rfl, _, rfl⟩ | simp)

section
variable {P : Program} {w : World} {K : PySem.W.Frag} {mg : Str → Option Value} {base : Heap}

/-! _law_kept -/
theorem sc_law_kept : FnScope ["script", "shapes", "lesser", "shelf", "keeper", "kept", "k", "cells", "j", "low", "rows"] ["script", "shapes", "lesser"] (defScope s_law_kept) := ⟨rfl, rfl, rfl, by decide +kernel, rfl, by decide +kernel, by decide +kernel⟩
theorem F_law_kept (T : Top K mg) (G_law_draw : Fn P w K mg base CX0 1 "_law_draw" ["script", "k", "many"] (sp_draw K)) (G_law_deed : Fn P w K mg base CX0 4 "_law_deed" ["script", "k", "shapes"] (sp_deed K)) (G_law_done : Fn P w K mg base CX0 8 "_law_done" ["keeper", "telling"] (sp_done K)) (G_Shelf : It0 P w K mg base CX0 1 "Shelf" ["self"] (sp_sh_init K)) (G_Keeper : It0 P w K mg base CX0 8 "Keeper" ["self", "shelf", "shapes"] (sp_kp_init K)) (M_since : Mt P w K mg base CX0 1 "Keeper" "since" ["self"] (sp_since K)) (M_now : Mt P w K mg base CX0 1 "Keeper" "now" ["self"] (sp_now K)) (M_card : Mt P w K mg base CX0 5 "Keeper" "card" ["self", "turn"] (sp_card K)) (M_tables : Mt P w K mg base CX0 1 "Keeper" "tables" ["self"] (sp_tables K)) (M_rows : Mt P w K mg base CX0 1 "Shelf" "rows" ["self", "drawer"] (sp_rows K)) : Fn P w K mg base CX0 10 "_law_kept" ["script", "shapes", "lesser"] (sp_kept K) := by
  obtain ⟨fd, F⟩ := T.D_law_kept
  obtain ⟨f_since, fd_since, G_since, m_since, b_since⟩ := M_since.ex
  obtain ⟨f_now, fd_now, G_now, m_now, b_now⟩ := M_now.ex
  obtain ⟨f_card, fd_card, G_card, m_card, b_card⟩ := M_card.ex
  obtain ⟨f_tables, fd_tables, G_tables, m_tables, b_tables⟩ := M_tables.ex
  obtain ⟨f_rows, fd_rows, G_rows, m_rows, b_rows⟩ := M_rows.ex
  refine mk_fn F T.g_law_kept (fun _ _ _ _ _ _ us hl => match us, hl with | [_, _, _], _ => rfl) (F.okN sc_law_kept (fun vs H Q E h => ?_) (fun cdv A outer s H vs Q E hr h => ?_))
  · obtain ⟨v, l, us, fs, d, rfl, _⟩ := h
    rfl
  · obtain ⟨v, l, us, fs, d, rfl, hs, hl, hus, hfs, hf2, hd, q⟩ := h
    refine ⟨_, (pss_cons (ps_set (i := 3) sc_law_kept.nd rfl (.inl rfl) (pe_it0 G_Shelf (hr.mono (by decide)) (by rfl) pass0))
      (pss_cons (ps_set (i := 4) sc_law_kept.nd rfl (.inl rfl) (pe_it G_Keeper (hr.mono (by decide)) (by rfl) pass0 (pa_cons (pv 3) (pa_cons (pv 1) pa_nil))))
      (pss_cons (ps_set (i := 5) sc_law_kept.nd rfl (.inl rfl) (pe_lst pa_nil))
      (pss_cons (ps_for PassesOwn.never rfl (pi_range1 (by rfl) T.f_range (pa_cons pe_int pa_nil)) (pg_name (i := 6) sc_law_kept.nd rfl (.inl rfl)) (pss_cons (ps_set (i := 7) sc_law_kept.nd rfl (.inl rfl) (pe_slice3 (pv 0) (po_some (pv 6)) (po_some pe_int) (po_some pe_int)))
      (pss_cons (ps_for PassesOwn.never rfl (pi_range1 (by rfl) T.f_range (pa_cons (pe_callB (call_min2 rfl) (by rfl) T.f_min (by decide +kernel) (pa_cons (pe_callB call_len_seq (by rfl) T.f_len PySem.boot_len (pa_cons (pv 7) pa_nil)) (pa_cons pe_int pa_nil))) pa_nil)) (pg_name (i := 8) sc_law_kept.nd rfl (.inl rfl)) (pss_one (ps_expr (pe_fn G_law_done (hr.mono (by decide)) (by rfl) pass0 (pa_cons (pv 4) (pa_cons (pe_fn G_law_deed (hr.mono (by decide)) (by rfl) pass0 (pa_cons (pv 0) (pa_cons (pe_op op_add (pe_op op_mul pe_int (pv 8)) (pe_op op_mul pe_int (pv 6))) (pa_cons (pv 1) pa_nil)))) pa_nil))))))
      (pss_cons (ps_for PassesOwn.never rfl (pi_range1 (by rfl) T.f_range (pa_cons (pe_ix ix_list (pe_lst (pa_cons (pv 2) (pa_cons pe_int pa_nil))) (pv 6) (fun _ _ => rfl)) pa_nil)) (pg_name (i := 8) sc_law_kept.nd rfl (.inl rfl)) (pss_cons (ps_set (i := 9) sc_law_kept.nd rfl (.inl rfl) (pe_meth0 (pv 4) T.c_Keeper m_since G_since (hr.mono (by decide)) b_since .nil pass0))
      (pss_one (ps_expr (pe_meth (pv 4) T.c_Keeper m_card G_card (hr.mono (by decide)) b_card .nil pass0 (pa_cons (pe_op op_add (pv 9) (pe_fn G_law_draw (hr.mono (by decide)) (by rfl) pass0 (pa_cons (pv 0) (pa_cons (pe_op op_add (pe_op op_add pe_int (pe_op op_mul pe_int (pv 8))) (pv 6)) (pa_cons (pe_op op_add (pe_op op_sub (pe_meth0 (pv 4) T.c_Keeper m_now G_now (hr.mono (by decide)) b_now .nil pass0) (pv 9)) pe_int) pa_nil))))) pa_nil))))))
      (pss_cons (ps_set (i := 10) sc_law_kept.nd rfl (.inl rfl) (pe_meth (pv 3) T.c_Shelf m_rows G_rows (hr.mono (by decide)) b_rows .nil pass0 (pa_cons (pe_op op_sub pe_int (pe_op op_modN (pe_op op_add (pv 2) (pv 6)) pe_int)) pa_nil)))
      (pss_one (ps_expr (pe_bm PySem.F.plainAttrs_list PySem.F.slot_list_append PySem.F.type_list_append mt_append (pv 5) (pa_cons (pe_tup (pa_cons (pv 10) (pa_cons (pe_tup (pa_cons (pe_meth0 (pv 4) T.c_Keeper m_now G_now (hr.mono (by decide)) b_now .nil pass0) (pa_cons (pe_meth0 (pv 4) T.c_Keeper m_since G_since (hr.mono (by decide)) b_since .nil pass0) (pa_cons (pe_meth0 (pv 4) T.c_Keeper m_tables G_tables (hr.mono (by decide)) b_tables .nil pass0) pa_nil)))) pa_nil))) pa_nil)))))))))
      (pss_one (ps_ret (pv 5))))))), ?_⟩
    walk_at "un"
    intro x dx nx ndx hne
    have tm : Same H (upd (upd H dx (.own x)) x (.ins (He.ga K "Shelf") dx [])) := (L2.Same.new ndx).trans (L2.Same.new (by rw [upd_ne (fun h => hne h.symm)]; exact nx))
    refine ⟨x, dx, rfl, upd_same, fun s0 H1 ex tk1 keep mutn tsn dsn sa _ => ⟨rfl, ?_⟩⟩
    subst ex
    have S1 : Same H H1 := fun a u e => keep a u (ne_of_none e nx) (tm _ _ e)
    intro kx kdx nk nkd hne2
    have tm2 : Same H1 (upd (upd H1 kdx (.own kx)) kx (.ins (He.ga K "Keeper") kdx [])) := (L2.Same.new nkd).trans (L2.Same.new (by rw [upd_ne (fun h => hne2 h.symm)]; exact nk))
    have sa2 := sa.same tm2
    have short : RdC (fs.map Frm.name) (wdF fs) [] none := .short [] (by decide)
    refine ⟨kx, kdx, s0, 0, l, us, fs, wdF fs, 0, [], [], none, none, rfl, upd_same, (S1.trans tm2) _ _ hl, pairF_tk hus (TK.same (S1.trans tm2)), hfs, fun f hf => wdF_of hfs.2.1 hf, sa2, by decide, tsn 0, tsn 1, tsn 2, short, short, by decide, (fun d c h => by cases h), fun k0 H2 ek esh efs hbeg tk2 kx2 kmut hk0 => ⟨rfl, Nat.zero_le _, fun p np => ?_⟩⟩
    have S2 : Same H H2 := fun a u e => kx2 a u (fun h => by rw [h] at e; rw [S1 _ _ e] at nk; cases nk) (tm2 _ _ (S1 _ _ e))
    obtain ⟨H3, hE3, s3, e3⟩ := fr np (.lst [])
    simp only [hE3]
    have hk3 : KpAt K H3 0 0 { k0 with z := fun a => a = p } := hk0.zset (fun a h => by rw [h]; exact np) s3 (fun a h => ⟨.lst [], by rw [h]; exact e3⟩)
    have pm0 : ¬ k0.mut p := by
      rintro (h | h | h)
      · rw [h, hk0.ins] at np; cases np
      · obtain ⟨kv, e, _⟩ := hk0.known
        rw [h, e] at np; cases np
      · obtain ⟨q1, e⟩ := hk0.shelf.mut_lst h
        rw [e] at np; cases np
    have mv0 : Mv (fun _ => False) H k0.mut H3 := by
      refine ⟨TK.same (S2.trans s3), fun a u e _ => (S2.trans s3) _ _ e, fun a h => .inr ?_⟩
      rcases kmut a h with h | h | h
      · rw [h]; exact S1.none nk
      · exact tm.none (mutn a h)
      · exact (S1.trans tm2).none h
    obtain ⟨hb1, hb2, hb3, hb4, hb5⟩ := hbeg
    have ks0 : KS K H H3 kx s0.x p fs d [] 0 0 { k0 with z := fun a => a = p } := ⟨hk3, ek, efs, by show k0.sh.x = s0.x; rw [esh], mv0, e3, pm0, rfl, trivial⟩
    refine ⟨by decide, by decide, ?_⟩
    obtain ⟨I, hI⟩ : ∃ I : Nat → L2.St → Hp → Prop, I = fun i σ H' => ∃ k m B items, KS K H H' kx s0.x p fs d items m B k ∧ m ≤ 10 * i ∧ B ≤ 500 * i ∧ k.now ≤ 4 * i ∧ items.length = i ∧ (i = 0 → k.dr = 2 ∧ k.num = 0) ∧ (i = 1 → k.dr = d ∧ k.num = d) ∧ ∃ a b c e f, σ = [some v, some (V.ref l), some (V.int (d : Int)), some (V.ref s0.x), some (V.ref kx), some (V.ref p), a, b, c, e, f] := ⟨_, rfl⟩
    refine lp_rng (n := 2) rfl I (by rw [hI]; exact ⟨_, 0, 0, [], ks0, by omega, by omega, by show k0.now ≤ _; omega, rfl, (fun _ => ⟨hb1, hb2⟩), (fun h => absurd h (by decide)), _, _, _, _, _, rfl⟩) ?_ ?_
    · intro i σ H' hi z
      rw [hI] at z
      obtain ⟨k, m, B, items, ks, hm, hB, hnow, hil, hi0, hi1, a1, b1, c1, e1, f1, rfl⟩ := z
      obtain ⟨sa_, sns, rfl, sq, sl⟩ := hs
      have hsH : IsScr K H (.ref sa_) := ⟨sa_, sns, rfl, sq, sl⟩
      have sqH : SqL K H' sa_ (List.map V.int sns) := by
        obtain ⟨a, ns, e, q1, q2⟩ := hsH.same ks.all
        cases e
        rcases sq with (h | ⟨o, h⟩) | h
        · exact .inl (.inl (ks.all _ _ h))
        · exact .inl (.inr ⟨o, ks.all _ _ h⟩)
        · exact .inr h
      walk_at "un"
      refine ⟨by simp, _, sqH, fun c ys nc hys => ?_⟩
      obtain ⟨H4, hE4, s4, e4⟩ := fr nc (.lst ys)
      simp only [hE4]
      have ks4 := ks.same s4
      obtain ⟨n1, hn1, hn4⟩ : ∃ n1 : Nat, (if (4 : Int) < (ys.length : Int) then (4 : Int) else (ys.length : Int)) = (n1 : Int) ∧ n1 ≤ 4 := by
        split
        · exact ⟨4, rfl, Nat.le_refl _⟩
        · exact ⟨ys.length, rfl, by omega⟩
      refine ⟨ys, .inl (SqL.of e4), _, _, ⟨rfl, rfl⟩, ?_⟩
      rw [hn1]
      refine ⟨by omega, by omega, ?_⟩
      obtain ⟨J, hJ⟩ : ∃ J : Nat → L2.St → Hp → Prop, J = fun j σ H5 => ∃ k' m' B', KS K H H5 kx s0.x p fs d items m' B' k' ∧ m' ≤ 10 * i + 2 * j ∧ B' ≤ 500 * i + j ∧ k'.now ≤ 4 * i + j ∧ k'.dr = k.dr ∧ k'.num = k.num ∧ ∃ x8 x9 x10, σ = [some (V.ref sa_), some (V.ref l), some (V.int (d : Int)), some (V.ref s0.x), some (V.ref kx), some (V.ref p), some (V.int (i : Int)), some (V.ref c), x8, x9, x10] := ⟨_, rfl⟩
      refine lp_rng rfl J (by rw [hJ]; exact ⟨k, m, B, ks4, by omega, by omega, by omega, rfl, rfl, _, _, _, rfl⟩) ?_ ?_
      · intro j σ H5 hj z
        rw [hJ] at z
        obtain ⟨k', m', B', ks', hm', hB', hnow', hdr', hnum', x8, x9, x10, rfl⟩ := z
        have SH := ks'.all
        walk_at "un"
        refine ⟨_, _, rfl, rfl, .inl ⟨by decide, by decide⟩, _, _, rfl, rfl, .inl ⟨by decide, by decide⟩, _, rfl, _, rfl, ?_⟩
        refine ⟨_, _, l, us, fs, rfl, hsH.same SH, by omega, by omega, SH _ _ hl, pairF_tk hus (TK.same SH), hfs, hf2, fun u x f H6 s6 hx hf hn gl => ?_⟩
        refine ⟨k', m', B', f, u, x, by rw [ks'.x], ks'.at_.same s6, by rw [ks'.f]; exact hf, hx, hn, gl, by omega, by omega, by omega, fun k2 H7 sm edr enum enow esince mv hk2 => ?_⟩
        rw [hJ]
        exact ⟨k2, _, _, (ks'.same s6).step sm mv hk2, by omega, by omega, by omega, edr.trans hdr', enum.trans hnum', _, _, _, rfl⟩
      · intro σ H5 z
        rw [hJ] at z
        obtain ⟨k', m', B', ks', hm', hB', hnow', hdr', hnum', x8, x9, x10, rfl⟩ := z
        walk_at "un"
        refine ⟨sz (by decide), fun c2 nc2 => ?_⟩
        obtain ⟨H6, hE6, s6, e6⟩ := fr nc2 (.lst [V.int (d : Int), V.int 1])
        simp only [hE6]
        have ks6 := ks'.same s6
        obtain ⟨nn, hnn, hn1', hn2'⟩ : ∃ nn : Nat, atI [V.int (d : Int), V.int 1] (i : Int) = some (V.int (nn : Int)) ∧ (i = 0 → nn = d) ∧ (i = 1 → nn = 1) := by
          have : i = 0 ∨ i = 1 := by omega
          rcases this with rfl | rfl
          · exact ⟨d, atI_nat (j := 0) rfl, fun _ => rfl, fun h => absurd h (by decide)⟩
          · exact ⟨1, atI_nat (j := 1) rfl, fun h => absurd h (by decide), fun _ => rfl⟩
        have hi2 : i = 0 ∨ i = 1 := by omega
        have hnn3 : 1 ≤ nn ∧ nn ≤ 2 := by
          rcases hi2 with h | h
          · have := hn1' h
            omega
          · have := hn2' h
            omega
        refine ⟨_, SqL.of e6, _, hnn, _, rfl, by omega, by omega, ?_⟩
        have hn0 : k.num = if i = 0 then 0 else (d : Int) := by
          rcases hi2 with h | h
          · rw [if_pos h]; exact (hi0 h).2
          · rw [if_neg (by omega)]; exact (hi1 h).2
        have hd3 : d ≤ 2 := by omega
        have hnumle : k.num ≤ 2 := by rw [hn0]; split <;> omega
        obtain ⟨L, hL⟩ : ∃ L : Nat → L2.St → Hp → Prop, L = fun j σ H7 => ∃ k' m' B', KS K H H7 kx s0.x p fs d items m' B' k' ∧ m' ≤ 10 * i + 8 + j ∧ B' ≤ 500 * i + 4 + 200 * j ∧ k'.now ≤ 4 * i + 4 ∧ k'.num = k.num + j ∧ k'.dr = (if j % 2 = 0 then k.dr else 3 - k.dr) ∧ (1 ≤ j → k'.sh.ts k'.dr = (cardWs k'.ns ⟨k'.num, k'.now, k'.since, k'.tb⟩).map jn) ∧ ∃ x8 x9 x10, σ = [some (V.ref sa_), some (V.ref l), some (V.int (d : Int)), some (V.ref s0.x), some (V.ref kx), some (V.ref p), some (V.int (i : Int)), some (V.ref c), x8, x9, x10] := ⟨_, rfl⟩
        refine lp_rng rfl L (by rw [hL]; exact ⟨k', m', B', ks6, by omega, by omega, by omega, by rw [hnum']; simp, by rw [if_pos (by decide)]; exact hdr', (fun h => absurd h (by decide)), _, _, _, rfl⟩) ?_ ?_
        · intro j σ H7 hj z
          rw [hL] at z
          obtain ⟨k2, m2, B2, ks2, hm2, hB2, hnow2, hnum2, hdr2, hts2, x8', x9', x10', rfl⟩ := z
          have SH := ks2.all
          have t02 := ks2.at_.t0
          have ins2 := ks2.at_.ins
          rw [ks2.x] at ins2
          walk_at "un"
          refine ⟨_, _, ins2, rfl, k2, m2, B2, by rw [ks2.x], ks2.at_, ?_⟩
          refine ⟨_, _, ins2, rfl, ?_⟩
          refine ⟨_, _, rfl, rfl, .inl ⟨by decide, by decide⟩, _, rfl, _, _, ins2, rfl, k2, m2, B2, by rw [ks2.x], ks2.at_, _, rfl, _, rfl, ?_⟩
          refine ⟨_, _, _, rfl, hsH.same SH, by omega, by omega, by omega, by omega, fun r r0 r1 => ⟨_, rfl, _, rfl, ?_⟩⟩
          refine ⟨k2, m2, B2, k2.since + r, by rw [ks2.x], ks2.at_, by omega, by omega, by omega, by omega, by omega, fun k3 H8 sm edr enum enow esince ets eds mv hk3 => ?_⟩
          have ens : k3.ns = k2.ns := by unfold Kp.ns; rw [sm.2.1]
          have hkd := ks4.at_.drs
          rw [hL]
          refine ⟨k3, m2 + 1, B2 + 200, ks2.step sm mv hk3, by omega, by omega, by omega, by omega, ?_, fun _ => by rw [ens]; exact ets, _, _, _, rfl⟩
          rw [edr, hdr2]
          by_cases hp : j % 2 = 0
          · rw [if_pos hp, if_neg (by omega)]
          · rw [if_neg hp, if_pos (by omega)]
            omega
        · intro σ H7 z
          rw [hL] at z
          obtain ⟨k2, m2, B2, ks2, hm2, hB2, hnow2, hnum2, hdr2, hts2, x8', x9', x10', rfl⟩ := z
          have hts := hts2 hnn3.1
          have t02 := ks2.at_.t0
          have ins2 := ks2.at_.ins
          rw [ks2.x] at ins2
          walk_at "un"
          have hkd := ks4.at_.drs
          have hfin : (2 : Int) - ((d : Int) + (i : Int)).fmod 2 = (k2.dr : Int) ∧ k2.num = (d : Int) + (i : Int) := by
            rcases hi2 with h | h
            · have a := hn1' h
              have b := (hi0 h)
              rw [a, b.1] at hdr2
              rw [a, b.2] at hnum2
              subst h
              rcases hd with rfl | rfl
              · rw [hdr2, hnum2]; decide
              · rw [hdr2, hnum2]; decide
            · have a := hn2' h
              have b := (hi1 h)
              rw [a, b.1] at hdr2
              rw [a, b.2] at hnum2
              subst h
              rcases hd with rfl | rfl
              · rw [hdr2, hnum2]; decide
              · rw [hdr2, hnum2]; decide
          have shi := ks2.at_.shelf.ins
          rw [ks2.sx] at shi
          refine ⟨_, _, shi, rfl, _, _, rfl, rfl, (show (2 : Int) ≠ 0 by decide), _, rfl, ?_⟩
          rw [hfin.1]
          have hdr3 : k2.dr < 3 := by have := ks2.at_.drs; omega
          refine ⟨k2.sh, B2, k2.dr, by rw [ks2.sx], hdr3, ks2.at_.shelf, fun ra H8 nra s8 e8 => ?_⟩
          have ks8 := ks2.same s8
          have ins8 := s8 _ _ ins2
          refine ⟨tyL ks8.it, _, _, ins8, rfl, k2, m2, B2, by rw [ks2.x], ks8.at_, _, _, ins8, rfl, k2, m2, B2, by rw [ks2.x], ks8.at_, _, _, ins8, rfl, k2, m2, B2, by rw [ks2.x], ks8.at_, fun ta H9 nta s9 kn => ⟨sz (by decide), fun p1 np1 => ⟨sz (by decide), fun p2 np2 => ?_⟩⟩⟩
          have ks9 := ks8.same s9
          obtain ⟨HA, hEA, sA, eA⟩ := fr np1 (.tup [V.int k2.now, V.int k2.since, V.ref ta])
          simp only [hEA] at np2 ⊢
          obtain ⟨HB, hEB, sB, eB⟩ := fr np2 (.tup [V.ref ra, V.ref p1])
          simp only [hEB]
          have ksB := (ks9.same sA).same sB
          refine app1 ksB.it (szl (by omega)) ?_
          obtain ⟨HC, hEC⟩ : ∃ HC, upd HB p (.lst (items ++ [V.ref p2])) = HC := ⟨_, rfl⟩
          simp only [hEC]
          have tkC : TK HB HC := by rw [← hEC]; exact TK.put ksB.it rfl
          have farC : ∀ a u, a ≠ p → HB a = some u → HC a = some u := fun a u n e => by rw [← hEC]; exact get_ne e n
          have atC : KpAt K HC m2 B2 k2 := by rw [← hEC]; exact ksB.at_.app ksB.it ksB.zp
          have Sab := sA.trans sB
          have rp : ra ≠ p := fun h => by rw [h, ks2.it] at nra; cases nra
          have tp : ta ≠ p := fun h => by rw [h, ks8.it] at nta; cases nta
          have nmr : ¬ k2.mut ra := fun h => by
            have : ∃ u, H7 ra = some u := by
              rcases h with h | h | h
              · exact ⟨_, by rw [show ra = k2.x from h]; exact ks2.at_.ins⟩
              · obtain ⟨kv, e, _⟩ := ks2.at_.known
                exact ⟨_, by rw [show ra = k2.kd from h]; exact e⟩
              · obtain ⟨us, e⟩ := ks2.at_.shelf.mut_lst h
                exact ⟨_, e⟩
            obtain ⟨u, e⟩ := this
            rw [nra] at e; cases e
          have nmf : ∀ a, H8 a = none → ¬ k2.mut a := fun a n h => by
            have : ∃ u, H8 a = some u := by
              rcases h with h | h | h
              · exact ⟨_, by rw [show a = k2.x from h]; exact ks8.at_.ins⟩
              · obtain ⟨kv, e, _⟩ := ks8.at_.known
                exact ⟨_, by rw [show a = k2.kd from h]; exact e⟩
              · obtain ⟨us, e⟩ := ks8.at_.shelf.mut_lst h
                exact ⟨_, e⟩
            obtain ⟨u, e⟩ := this
            rw [n] at e; cases e
          have ens : k2.ns = fs.map Frm.name := by unfold Kp.ns; rw [ks2.f]
          have itemNew : KItem K (fs.map Frm.name) (wdF fs) HC (fun a => ¬ k2.mut a ∧ a ≠ p) ((d : Int) + (i : Int)) (V.ref p2) := by
            refine ⟨⟨k2.num, k2.now, k2.since, k2.tb⟩, ⟨p2, ra, p1, ta, rfl, SqT.of (tkC.1 _ _ eB), ?_, ⟨nmr, rp⟩, SqT.of (tkC.1 _ _ (sB _ _ eA)), ⟨nmf _ nta, tp⟩, ?_⟩, ?_, hfin.2, by show k2.now ≤ 900; omega⟩
            · rw [farC _ _ rp ((s9.trans Sab) _ _ e8), hts, List.map_map, ens]
              rfl
            · rw [← ens]
              exact kn.mv ((TK.same Sab).trans tkC) (fun u e => farC _ _ tp (Sab _ _ e)) (fun b u hb e => farC _ _ (fun h => by rw [h, ks8.it] at hb; cases hb) (Sab _ _ e)) (fun b u hb _ => ⟨nmf b hb, fun h => by rw [h, ks8.it] at hb; cases hb⟩)
            · have := ks2.at_.gc (m2 := 28) (by omega)
              rw [ens, ks2.f] at this
              exact this
          have okC : ItemsOk K (fs.map Frm.name) (wdF fs) d HC (fun a => ¬ k2.mut a ∧ a ≠ p) items := ksB.ok.mv tkC (fun a u n e => farC _ _ n.2 e) (fun a u n e => n)
          rw [hI]
          refine ⟨k2, m2, B2, items ++ [V.ref p2], ⟨atC, ks2.x, ks2.f, ks2.sx, ?_, by rw [← hEC]; exact upd_same, ks2.pm, ks2.zp, ?_⟩, by omega, by omega, by omega, by simp [hil], (fun h => absurd h (by omega)), ?_, _, _, _, _, _, rfl⟩
          · have mB := ksB.mv
            exact ⟨mB.1.trans tkC, fun a u e n => farC _ _ (fun h => by rw [h, S2.none np] at e; cases e) (mB.2.1 _ _ e n), mB.2.2⟩
          · match items, hil, okC with
            | [], h0, _ =>
              have : i = 0 := by simpa using h0.symm
              rw [this] at itemNew
              simpa [ItemsOk] using itemNew
            | [x], h0, okx =>
              have : i = 1 := by simpa using h0.symm
              rw [this] at itemNew
              exact ⟨okx, itemNew⟩
            | _ :: _ :: _, h0, _ => simp at h0; omega
          · intro h
            have h0 : i = 0 := by omega
            have a := hn1' h0
            have b := hi0 h0
            rw [h0] at hfin
            have c := hfin.2
            refine ⟨?_, by rw [c]; simp⟩
            have e := hfin.1
            rcases hd with rfl | rfl
            · have : (2 : Int) - ((1 : Nat) + (0 : Nat) : Int).fmod 2 = 1 := by decide
              rw [this] at e; omega
            · have : (2 : Int) - ((2 : Nat) + (0 : Nat) : Int).fmod 2 = 2 := by decide
              rw [this] at e; omega
    · intro σ H' z
      rw [hI] at z
      obtain ⟨k, m, B, items, ks, hm, hB, hnow, hil, hi0, hi1, a1, b1, c1, e1, f1, rfl⟩ := z
      walk_at "un"
      match items, hil, ks with
      | [x, y], _, ks =>
        obtain ⟨⟨c, h1, h2, h3, h4⟩, e, h5, h6, h7, h8⟩ := ks.ok
        exact q p x y c e H' ks.all ks.it h1.all h5.all h2 h6 h3 h7 h4 h8
end
end HW
set_option Elab.async false
set_option linter.all false
set_option maxRecDepth 100000
set_option maxHeartbeats 4000000
namespace HW
open PySem PySem.Spec PyProof.Rows L2
local macro_rules | `(tactic| walk_at "un") => `(tactic| simp only [cxOf, tSeq, tNext, tIfS, tTest, tOp, tUn, tVar, tC, tRet, tRetN, tNever, tAsg, gName, gNil, gCons, gTup, eq_self, rListOf, Option.isSome_none, Option.isSome_some, gSub, tDrop, tCB, tCall, tCons, tNil, tTup, tLst, tB, tAnd, tOr, tNot, tAndV, tOrV, tNotV, tNoPart, tPart, tSl, tSl3, tBM, tM1, tDNewK, tDNewT, tDGet, tDIn, tDNotIn, sDPut, tYes, tFld, sFld, tMeth, tMake,
  for_L, for_T, for_R, for_S, lc_L, lc_T, lc_R, wipe, rI0, rU, rEq, rNe, rIxT, rIxL, rIxS, L2.start, List.map_cons, List.map_nil, List.length_cons, List.length_nil, Nat.reduceAdd, Nat.reduceSub, List.replicate_succ, List.replicate_zero, List.cons_append, List.nil_append, List.append_nil,
  List.getElem?_cons_zero, List.getElem?_cons_succ, List.set_cons_zero, List.set_cons_succ, Option.some.injEq, V.int.injEq, V.bl.injEq, V.str.injEq, V.ref.injEq, V.ty.injEq, List.cons.injEq, and_true, true_and, exists_eq_left, exists_eq_left', exists_and_left, exists_eq, scal, decide_eq_true_eq, reduceCtorEq, decide_false, decide_true, Bool.not_true, Bool.not_false, if_true, if_false, Bool.false_eq_true, ite_true, ite_false, Bool.not_eq_true', decide_eq_false_iff_not])
local macro_rules | `(tactic| walk_at "tk") => `(tactic| first | exact TK.refl _ | assumption | exact TK.same (by assumption) | (refine TK.trans ?_ (TK.new (by assumption)); walk_at "tk") | (refine TK.trans ?_ (TK.put (by assumption) rfl); walk_at "tk") | (refine TK.trans ?_ (TK.same (by assumption)); walk_at "tk"))
local macro_rules | `(tactic| walk_at "fz") => `(tactic| first | assumption | exact L2.SqT.tk (by assumption) (by walk_at "tk") | exact IsRch.tk (by assumption) (by walk_at "tk") | exact IsPlt.tk (by assumption) (by walk_at "tk") | exact IsStp.tk (by assumption) (by walk_at "tk") | exact IsRow.tk (by assumption) (by walk_at "tk") | exact IsEnt.tk (by assumption) (by walk_at "tk") | exact pairS_tk (by assumption) (by walk_at "tk") | exact pairE_tk (by assumption) (by walk_at "tk"))
local macro_rules | `(tactic| walk_at "sm") => `(tactic| first | exact L2.Same.refl _ | assumption | (refine L2.Same.trans ?_ (L2.Same.new (by assumption)); walk_at "sm") | (refine L2.Same.put ?_ (by assumption); walk_at "sm") | (refine L2.Same.trans ?_ (by assumption); walk_at "sm"))
local macro_rules | `(tactic| walk_at "jk") => `(tactic| first | exact ⟨_, rfl⟩ | exact ⟨_, _, rfl, rfl⟩ | exact ⟨⟨_, rfl⟩, _, rfl⟩ | exact ⟨_, rfl, _, rfl⟩ | simp)

section
variable {P : Program} {w : World} {K : PySem.W.Frag} {mg : Str → Option Value} {base : Heap}

/-! _law_bent -/
theorem sc_law_bent : FnScope ["script", "rows", "way", "at", "odd"] ["script", "rows"] (defScope s_law_bent) := ⟨rfl, rfl, rfl, by decide +kernel, rfl, by decide +kernel, by decide +kernel⟩
theorem F_law_bent (T : Top K mg) (G_law_draw : Fn P w K mg base CX0 1 "_law_draw" ["script", "k", "many"] (sp_draw K)) : Fn P w K mg base CX0 2 "_law_bent" ["script", "rows"] (sp_bent K) := by
  obtain ⟨fd, F⟩ := T.D_law_bent
  refine mk_fn F T.g_law_bent (fun _ _ _ _ _ _ us hl => match us, hl with | [_, _], _ => rfl) (F.okN sc_law_bent (fun vs H Q E h => ?_) (fun cdv A outer s H vs Q E hr h => ?_))
  · obtain ⟨v, r, ns, wd, c, rfl, _⟩ := h
    rfl
  · obtain ⟨v, r, ns, wd, c, rfl, hs, hr0, gc, hns, hn3, q⟩ := h
    refine ⟨_, (pss_cons (ps_set (i := 2) sc_law_bent.nd rfl (.inl rfl) (pe_fn G_law_draw (hr.mono (by decide)) (by rfl) pass0 (pa_cons (pv 0) (pa_cons pe_int (pa_cons pe_int pa_nil)))))
      (pss_cons (ps_set (i := 3) sc_law_bent.nd rfl (.inl rfl) (pe_op op_add pe_int (pe_fn G_law_draw (hr.mono (by decide)) (by rfl) pass0 (pa_cons (pv 0) (pa_cons pe_int (pa_cons (pe_callB (call_max2 rfl) (by rfl) T.f_max (by decide +kernel) (pa_cons pe_int (pa_cons (pe_op op_sub (pe_callB call_len_seq (by rfl) T.f_len PySem.boot_len (pa_cons (pv 1) pa_nil)) pe_int) pa_nil))) pa_nil))))))
      (pss_cons (ps_if (pt_cmpR op_lt (pv 2) pe_int (nomark _)) (pss_one (ps_ret (pv 1))) pss_nil)
      (pss_cons (ps_if (PW.pt (pw_and (pt_cmpR op_eq (pv 2) pe_int (nomark _)) (pw_and1 (pt_cmpR op_gt (pe_callB call_len_seq (by rfl) T.f_len PySem.boot_len (pa_cons (pv 1) pa_nil)) pe_int (nomark _))))) (pss_one (ps_ret (pe_op op_cat (pe_slice sl_list (pv 1) po_none (po_some (pv 3))) (pe_slice sl_list (pv 1) (po_some (pe_op op_add (pv 3) pe_int)) po_none)))) pss_nil)
      (pss_cons (ps_if (PW.pt (pw_and (pt_cmpR op_eq (pv 2) pe_int (nomark _)) (pw_and1 (pt_cmpR op_gt (pe_callB call_len_seq (by rfl) T.f_len PySem.boot_len (pa_cons (pv 1) pa_nil)) pe_int (nomark _))))) (pss_one (ps_ret (pe_op op_cat (pe_op op_cat (pe_slice sl_list (pv 1) po_none (po_some (pv 3))) (pe_lst (pa_cons (pe_ix ix_list (pv 1) (pv 3) (fun _ _ => rfl)) pa_nil))) (pe_slice sl_list (pv 1) (po_some (pv 3)) po_none)))) pss_nil)
      (pss_cons (ps_if (PW.pt (pw_and (pt_cmpR op_eq (pv 2) pe_int (nomark _)) (pw_and1 (pt_cmpR op_gt (pe_callB call_len_seq (by rfl) T.f_len PySem.boot_len (pa_cons (pv 1) pa_nil)) pe_int (nomark _))))) (pss_cons (ps_set (i := 4) sc_law_bent.nd rfl (.inl rfl) (pe_ix ix_list (pe_lst (pa_cons pe_str (pa_cons pe_str (pa_cons (pe_slice sl_str (pe_ix ix_list (pv 1) (pv 3) (fun _ _ => rfl)) po_none (po_some (pe_un un_neg pe_int))) (pa_cons pe_str (pa_cons (pe_ix ix_list (pv 1) pe_int (fun _ _ => rfl)) pa_nil)))))) (pe_fn G_law_draw (hr.mono (by decide)) (by rfl) pass0 (pa_cons (pv 0) (pa_cons pe_int (pa_cons pe_int pa_nil)))) (fun _ _ => rfl)))
      (pss_one (ps_ret (pe_op op_cat (pe_op op_cat (pe_slice sl_list (pv 1) po_none (po_some (pv 3))) (pe_lst (pa_cons (pv 4) pa_nil))) (pe_slice sl_list (pv 1) (po_some (pe_op op_add (pv 3) pe_int)) po_none))))) pss_nil)
      (pss_cons (ps_if (pt_cmpR op_eq (pv 2) pe_int (nomark _)) (pss_one (ps_ret (pe_op op_cat (pe_slice sl_list (pv 1) po_none (po_some (pe_un un_neg pe_int))) (pe_lst (pa_cons (pe_slice sl_str (pe_ix ix_list (pv 1) (pe_un un_neg pe_int) (fun _ _ => rfl)) po_none (po_some (pe_un un_neg pe_int))) pa_nil))))) pss_nil)
      (pss_cons (ps_if (pt_cmpR op_eq (pv 2) pe_int (nomark _)) (pss_one (ps_ret (pe_slice sl_list (pv 1) po_none (po_some (pe_un un_neg pe_int))))) pss_nil)
      (pss_cons (ps_if (pt_cmpR op_eq (pv 2) pe_int (nomark _)) (pss_one (ps_ret (pe_op op_cat (pe_lst (pa_cons (pe_slice sl_str (pe_ix ix_list (pv 1) pe_int (fun _ _ => rfl)) po_none (po_some (pe_un un_neg pe_int))) pa_nil)) (pe_slice sl_list (pv 1) (po_some pe_int) po_none)))) pss_nil)
      (pss_cons (ps_if (pt_cmpR op_eq (pv 2) pe_int (nomark _)) (pss_one (ps_ret (pe_op op_cat (pe_lst (pa_cons pe_str pa_nil)) (pv 1)))) pss_nil)
      (pss_one (ps_ret (pe_op op_cat (pv 1) (pe_lst (pa_cons pe_str pa_nil))))))))))))))), ?_⟩
    obtain ⟨E, hR, cp⟩ := card_parts gc hns hn3
    rw [hR] at hr0 q
    obtain ⟨R, hRd⟩ : ∃ R, R = firstWs c.num c.turn c.since :: (E ++ [lastWs E.length]) := ⟨_, rfl⟩
    rw [← hRd] at hr0 q
    have hlen : R.length = E.length + 2 := by rw [hRd]; simp
    have hl90 := cp.len
    walk_at "un"
    refine ⟨v, 310, 10, rfl, hs, by decide, by decide, by decide, by decide, fun way w0 w1 => ?_⟩
    refine ⟨_, .inl (SqL.of hr0), _, _, ⟨rfl, rfl⟩, ?_⟩
    have hlm : (List.map (fun f => V.str (jn f)) R).length = R.length := List.length_map _
    have jl : ∀ w, Wds w → (jn w).length ≤ sizeLine := fun w hw => by
      have := jn_len hw
      omega
    have hLast : atI (List.map fj R) (-1) = some (fj (lastWs E.length)) := by
      rw [hRd, show firstWs c.num c.turn c.since :: (E ++ [lastWs E.length]) = (firstWs c.num c.turn c.since :: E) ++ [lastWs E.length] from rfl, List.map_append]
      exact atI_last _ _
    have hRi : R = (firstWs c.num c.turn c.since :: E) ++ [lastWs E.length] := hRd
    have hmax : (1 : Int) ≤ (if ((List.map (fun f => V.str (jn f)) R).length : Int) - 2 > 1 then ((List.map (fun f => V.str (jn f)) R).length : Int) - 2 else 1) ∧ (if ((List.map (fun f => V.str (jn f)) R).length : Int) - 2 > 1 then ((List.map (fun f => V.str (jn f)) R).length : Int) - 2 else 1) ≤ 1000 ∧ (0 < E.length → (if ((List.map (fun f => V.str (jn f)) R).length : Int) - 2 > 1 then ((List.map (fun f => V.str (jn f)) R).length : Int) - 2 else 1) ≤ (E.length : Int)) := by
      rw [hlm, hlen]
      split <;> omega
    refine ⟨v, 311, _, rfl, hs, by decide, by decide, hmax.1, by have := hmax.2.1; omega, fun a0 a1 a2 => ⟨_, rfl, _, rfl, ?_⟩⟩
    obtain ⟨a, rfl⟩ := Int.eq_ofNat_of_zero_le a1
    have haE : 0 < E.length → a < E.length := fun h => by have := hmax.2.2 h; omega
    have ea : (1 : Int) + (a : Int) = ((a + 1 : Nat) : Int) := by omega
    have ea2 : (((a + 1 : Nat) : Int)) + 1 = ((a + 2 : Nat) : Int) := by omega
    rw [ea, ea2]
    have hWR : ∀ w ∈ R, Wds w := by rw [hRd]; exact cp.wR
    have hFE : ∀ w ∈ firstWs c.num c.turn c.since :: E, Wds w := fun w hw => hWR w (by rw [hRi]; exact List.mem_append_left _ hw)
    have wtell : Wds [("tell" : Str), "1"] := ⟨by simp, (fun w hw => by
        simp only [List.mem_cons, List.not_mem_nil, or_false] at hw
        rcases hw with rfl | rfl <;> exact wb_lit (by decide +kernel)), by simp⟩
    have wx : Wds [("x" : Str)] := ⟨by simp, (fun x hx => by rw [List.mem_singleton.mp hx]; exact wb_lit (by decide +kernel)), by simp⟩
    have fin9 : 1 ≤ sizeLine ∧ ∀ (p : Addr), H p = none → rCat (V.ref r) (V.ref p) (upd H p (HO.lst [V.str (Str.ofString "tell 1")])) Q := by
      refine ⟨sz (by decide), fun p np => ?_⟩
      obtain ⟨H1, hE1, s1, e1⟩ := fr np (.lst [V.str (Str.ofString "tell 1")])
      simp only [hE1]
      have e2 : H1 p = some (.lst (List.map fj [[("tell" : Str), "1"]])) := by rw [e1]; rfl
      refine cat (s1 _ _ hr0) e2 (sz (by simp; omega)) fun c3 H3 n3 s3 d3 => ?_
      rw [← List.map_append] at d3
      refine q c3 _ H3 (s1.trans s3) d3 (.inr ⟨?_, len_ne (by simp)⟩) (by simp; omega) (wA hWR (wOne wtell))
      have e3 : R ++ [[("tell" : Str), "1"]] = firstWs c.num c.turn c.since :: ((E ++ [lastWs E.length]) ++ [[("tell" : Str), "1"]]) := by rw [hRd]; rfl
      rw [e3]
      exact .badL _ _ _ _ _ cp.nums (.inl (by decide)) wtell
    have hw : way = 0 ∨ way = 1 ∨ way = 2 ∨ way = 3 ∨ way = 4 ∨ way = 5 ∨ way = 6 ∨ way = 7 ∨ way = 8 ∨ way = 9 := by omega
    rcases hw with rfl | rfl | rfl | rfl | rfl | rfl | rfl | rfl | rfl | rfl
    · rw [if_pos (by decide)]
      exact q r R H (L2.Same.refl H) hr0 (.inl rfl) (by omega) hWR
    · rw [if_pos (by decide)]
      exact q r R H (L2.Same.refl H) hr0 (.inl rfl) (by omega) hWR
    · rw [if_neg (by decide)]
      refine ⟨by first | rfl | trivial, ?_⟩
      rw [if_pos rfl]
      refine ⟨_, .inl (SqL.of hr0), ?_⟩
      by_cases hE : 0 < E.length
      · rw [if_pos (by rw [hlm]; omega)]
        have ha := haE hE
        have hRa : (List.map fj R)[a + 1]? = some (fj E[a]) := by
          rw [hRd]
          show (List.map fj (E ++ [lastWs E.length]))[a]? = _
          rw [List.getElem?_map, List.getElem?_append_left ha, List.getElem?_eq_getElem ha]
          rfl
        refine slL hr0 fun c1 H1 n1 s1 d1 => slL (s1 _ _ hr0) fun c2 H2 n2 s2 d2 => ?_
        rw [cut_take] at d1
        rw [cut_drop] at d2
        refine cat (s2 _ _ d1) d2 (sz (by simp; omega)) fun c3 H3 n3 s3 d3 => ?_
        rw [← List.map_append] at d3
        refine q c3 (R.take (a + 1) ++ R.drop (a + 2)) H3 (s1.trans (s2.trans s3)) d3 (.inr ?_) (by simp; omega) (wA (wT hWR) (wD hWR))
        have e1 : R.take (a + 1) ++ R.drop (a + 2) = firstWs c.num c.turn c.since :: ((E.take a ++ E.drop (a + 1)) ++ [lastWs E.length]) := by
          rw [hRd, List.take_succ_cons, List.drop_succ_cons, List.take_append_of_le_length (by omega), List.drop_append_of_le_length (by omega)]
          simp
        rw [e1, hRd]
        exact cp.count (fun e he => by
          rcases List.mem_append.mp he with he | he
          · exact List.mem_of_mem_take he
          · exact List.mem_of_mem_drop he) (by simp; omega) (by simp; omega)
      · rw [if_neg (by rw [hlm]; omega)]
        refine ⟨by first | rfl | trivial, ?_⟩
        rw [if_neg (by simp)]
        refine ⟨by first | rfl | trivial, ?_⟩
        rw [if_neg (by simp)]
        refine ⟨by first | rfl | trivial, ?_⟩
        rw [if_neg (by simp)]
        refine ⟨by first | rfl | trivial, ?_⟩
        rw [if_neg (by simp)]
        refine ⟨by first | rfl | trivial, ?_⟩
        rw [if_neg (by simp)]
        refine ⟨by first | rfl | trivial, ?_⟩
        rw [if_neg (by simp)]
        exact fin9
    · rw [if_neg (by decide)]
      refine ⟨by first | rfl | trivial, ?_⟩
      rw [if_neg (by simp)]
      refine ⟨by first | rfl | trivial, ?_⟩
      rw [if_pos rfl]
      refine ⟨_, .inl (SqL.of hr0), ?_⟩
      by_cases hE : 0 < E.length
      · rw [if_pos (by rw [hlm]; omega)]
        have ha := haE hE
        have hRa : (List.map fj R)[a + 1]? = some (fj E[a]) := by
          rw [hRd]
          show (List.map fj (E ++ [lastWs E.length]))[a]? = _
          rw [List.getElem?_map, List.getElem?_append_left ha, List.getElem?_eq_getElem ha]
          rfl
        refine slL hr0 fun c1 H1 n1 s1 d1 => ⟨_, SqL.of (s1 _ _ hr0), fj E[a], atI_nat hRa, sz (by decide), fun p np => ?_⟩
        obtain ⟨H2, hE2, s2, e2⟩ := fr np (.lst [fj E[a]])
        simp only [hE2]
        rw [cut_take] at d1
        refine cat (s2 _ _ d1) (show H2 p = some (.lst ([E[a]].map fj)) from e2) (sz (by simp; omega)) fun c3 H3 n3 s3 d3 => ?_
        have S3 := s1.trans (s2.trans s3)
        refine slL (S3 _ _ hr0) fun c4 H4 n4 s4 d4 => ?_
        rw [cut_drop] at d4
        rw [← List.map_append] at d3
        refine cat (s4 _ _ d3) d4 (sz (by simp; omega)) fun c5 H5 n5 s5 d5 => ?_
        rw [← List.map_append] at d5
        refine q c5 _ H5 (S3.trans (s4.trans s5)) d5 (.inr ?_) (by simp; omega) (wA (wA (wT hWR) (wOne (cp.wE (List.getElem_mem ha)).1)) (wD hWR))
        have e1 : R.take (a + 1) ++ [E[a]] ++ R.drop (a + 1) = firstWs c.num c.turn c.since :: ((E.take a ++ (E[a] :: E.drop a)) ++ [lastWs E.length]) := by
          rw [hRd, List.take_succ_cons, List.drop_succ_cons, List.take_append_of_le_length (by omega), List.drop_append_of_le_length (by omega)]
          simp only [List.cons_append, List.append_assoc, List.nil_append]
        rw [e1, hRd]
        exact cp.count (fun e he => by
          rcases List.mem_append.mp he with he | he
          · exact List.mem_of_mem_take he
          · rcases List.mem_cons.mp he with he | he
            · rw [he]; exact List.getElem_mem _
            · exact List.mem_of_mem_drop he) (by simp; omega) (by simp; omega)
      · rw [if_neg (by rw [hlm]; omega)]
        refine ⟨by first | rfl | trivial, ?_⟩
        rw [if_neg (by simp)]
        refine ⟨by first | rfl | trivial, ?_⟩
        rw [if_neg (by simp)]
        refine ⟨by first | rfl | trivial, ?_⟩
        rw [if_neg (by simp)]
        refine ⟨by first | rfl | trivial, ?_⟩
        rw [if_neg (by simp)]
        refine ⟨by first | rfl | trivial, ?_⟩
        rw [if_neg (by simp)]
        exact fin9
    · rw [if_neg (by decide)]
      refine ⟨by first | rfl | trivial, ?_⟩
      rw [if_neg (by simp)]
      refine ⟨by first | rfl | trivial, ?_⟩
      rw [if_neg (by simp)]
      refine ⟨by first | rfl | trivial, ?_⟩
      rw [if_pos rfl]
      refine ⟨_, .inl (SqL.of hr0), ?_⟩
      by_cases hE : 0 < E.length
      · rw [if_pos (by rw [hlm]; omega)]
        have ha := haE hE
        have hRa : (List.map fj R)[a + 1]? = some (fj E[a]) := by
          rw [hRd]
          show (List.map fj (E ++ [lastWs E.length]))[a]? = _
          rw [List.getElem?_map, List.getElem?_append_left ha, List.getElem?_eq_getElem ha]
          rfl
        obtain ⟨ei, ein, eie⟩ := (cp.wE (List.getElem_mem ha)).2.2
        refine ⟨_, SqL.of hr0, fj E[a], atI_nat hRa, _, rfl, jl _ (cp.wE (List.getElem_mem ha)).1, ?_⟩
        rw [eie, cut_dot ein]
        refine ⟨_, SqL.of hr0, fj (firstWs c.num c.turn c.since), atI_nat (j := 0) (by rw [hRd]; rfl), sz (by decide), fun p np => ?_⟩
        obtain ⟨H1, hE1, s1, e1⟩ := fr np (.lst [V.str (Str.ofString "x"), V.str (Str.ofString ""), V.str (jn (ei ++ [("" : Str)])), V.str (Str.ofString "done 0 ."), fj (firstWs c.num c.turn c.since)])
        simp only [hE1]
        have e2 : H1 p = some (.lst (List.map fj [[("x" : Str)], [("" : Str)], ei ++ [("" : Str)], [("done" : Str), "0", "."], firstWs c.num c.turn c.since])) := by rw [e1]; rfl
        refine ⟨v, 312, 5, rfl, hs.same s1, by decide, by decide, by decide, by decide, fun b b0 b1 => ?_⟩
        obtain ⟨b, rfl⟩ := Int.eq_ofNat_of_zero_le b0
        have hb5 : b < 5 := by omega
        obtain ⟨o, ho, hbad, how⟩ : ∃ o, [[("x" : Str)], [("" : Str)], ei ++ [("" : Str)], [("done" : Str), "0", "."], firstWs c.num c.turn c.since][b]? = some o ∧ BadE o ∧ Wds o := by
          have lit : ∀ w : Str, (decide (32 ∈ w.cps.toList) || decide (100 < w.length) || w.cps.toList.any (fun c => decide (1114112 ≤ c))) = false → Wds [w] := fun w h => ⟨by simp, (fun x hx => by rw [List.mem_singleton.mp hx]; exact wb_lit h), by simp⟩
          have hb : b = 0 ∨ b = 1 ∨ b = 2 ∨ b = 3 ∨ b = 4 := by omega
          rcases hb with rfl | rfl | rfl | rfl | rfl
          · exact ⟨_, rfl, .inl (by decide +kernel), lit _ (by decide +kernel)⟩
          · exact ⟨_, rfl, .inl (by decide +kernel), lit _ (by decide +kernel)⟩
          · refine ⟨_, rfl, .inr (by rw [List.getLast?_append]; simp; exact nul_dot), ?_⟩
            have hwe := (cp.wE (List.getElem_mem ha)).1
            rw [eie] at hwe
            exact wds_nul hwe
          · refine ⟨_, rfl, .inl (by decide +kernel), by simp, (fun x hx => ?_), by simp⟩
            simp only [List.mem_cons, List.not_mem_nil, or_false] at hx
            rcases hx with rfl | rfl | rfl <;> exact wb_lit (by decide +kernel)
          · exact ⟨_, rfl, .inl (fun h => absurd (Option.some.inj h) (by decide +kernel)), cp.wF⟩
        refine ⟨_, _, rfl, SqL.of e2, fj o, atI_nat (by rw [List.getElem?_map, ho]; rfl), ?_⟩
        refine slL (s1 _ _ hr0) fun c1 H2 n2 s2 d2 => ⟨sz (by decide), fun p2 np2 => ?_⟩
        obtain ⟨H3, hE3, s3, e3⟩ := fr np2 (.lst [fj o])
        simp only [hE3]
        rw [cut_take] at d2
        refine cat (s3 _ _ d2) (show H3 p2 = some (.lst ([o].map fj)) from e3) (sz (by simp; omega)) fun c3 H4 n4 s4 d4 => ?_
        have S4 := s1.trans (s2.trans (s3.trans s4))
        refine slL (S4 _ _ hr0) fun c5 H5 n5 s5 d5 => ?_
        rw [cut_drop] at d5
        rw [← List.map_append] at d4
        refine cat (s5 _ _ d4) d5 (sz (by simp; omega)) fun c6 H6 n6 s6 d6 => ?_
        rw [← List.map_append] at d6
        refine q c6 _ H6 (S4.trans (s5.trans s6)) d6 (.inr ?_) (by simp; omega) (wA (wA (wT hWR) (wOne how)) (wD hWR))
        have e7 : R.take (a + 1) ++ [o] ++ R.drop (a + 2) = firstWs c.num c.turn c.since :: ((E.take a ++ (o :: E.drop (a + 1))) ++ [lastWs E.length]) := by
          rw [hRd, List.take_succ_cons, List.drop_succ_cons, List.take_append_of_le_length (by omega), List.drop_append_of_le_length (by omega)]
          simp only [List.cons_append, List.append_assoc, List.nil_append]
        rw [e7, hRd]
        exact cp.odd ha hbad how
      · rw [if_neg (by rw [hlm]; omega)]
        refine ⟨by first | rfl | trivial, ?_⟩
        rw [if_neg (by simp)]
        refine ⟨by first | rfl | trivial, ?_⟩
        rw [if_neg (by simp)]
        refine ⟨by first | rfl | trivial, ?_⟩
        rw [if_neg (by simp)]
        refine ⟨by first | rfl | trivial, ?_⟩
        rw [if_neg (by simp)]
        exact fin9
    · rw [if_neg (by decide)]
      refine ⟨by first | rfl | trivial, ?_⟩
      rw [if_neg (by simp)]
      refine ⟨by first | rfl | trivial, ?_⟩
      rw [if_neg (by simp)]
      refine ⟨by first | rfl | trivial, ?_⟩
      rw [if_neg (by simp)]
      refine ⟨by first | rfl | trivial, ?_⟩
      rw [if_pos rfl]
      refine slL hr0 fun c1 H1 n1 s1 d1 => ⟨_, SqL.of (s1 _ _ hr0), fj (lastWs E.length), hLast, _, rfl, jl _ cp.wL, sz (by decide), fun p np => ?_⟩
      have hcd : cutS (jn (lastWs E.length)) none (some (-1)) = jn ([("done" : Str), numS E.length] ++ [("" : Str)]) := cut_dot (i := [("done" : Str), numS E.length]) (by simp)
      rw [hcd]
      obtain ⟨H2, hE2, s2, e2⟩ := fr np (.lst [V.str (jn ([("done" : Str), numS E.length] ++ [("" : Str)]))])
      simp only [hE2]
      have d1' : H1 c1 = some (.lst (List.map fj (firstWs c.num c.turn c.since :: E))) := by rw [d1, hRi]; exact congrArg (fun l => some (HO.lst l)) (cut_init _ _)
      refine cat (s2 _ _ d1') (show H2 p = some (.lst ([[("done" : Str), numS E.length] ++ [("" : Str)]].map fj)) from e2) (sz (by simp; omega)) fun c3 H3 n3 s3 d3 => ?_
      rw [← List.map_append] at d3
      have wl : Wds ([("done" : Str), numS E.length] ++ [("" : Str)]) := wds_nul cp.wL
      refine q c3 _ H3 (s1.trans (s2.trans s3)) d3 (.inr ⟨?_, fun e => ?_⟩) (by simp; omega) (wA hFE (wOne wl))
      · exact .badL _ _ _ E _ cp.nums (.inr (.inr (by simp; exact nul_dot))) wl
      · have e3 := map_jn (fun w hw => by
          rcases List.mem_append.mp hw with hw | hw
          · rcases List.mem_cons.mp hw with hw | hw
            · rw [hw]; exact cp.wF
            · exact (cp.wE hw).1
          · rw [List.mem_singleton.mp hw]; exact wl) (by rw [hRd]; exact cp.wR) e
        rw [hRi] at e3
        have e4 := List.append_cancel_left e3
        simp [lastWs] at e4
        exact nul_dot e4
    · rw [if_neg (by decide)]
      refine ⟨by first | rfl | trivial, ?_⟩
      rw [if_neg (by simp)]
      refine ⟨by first | rfl | trivial, ?_⟩
      rw [if_neg (by simp)]
      refine ⟨by first | rfl | trivial, ?_⟩
      rw [if_neg (by simp)]
      refine ⟨by first | rfl | trivial, ?_⟩
      rw [if_neg (by simp)]
      refine ⟨by first | rfl | trivial, ?_⟩
      rw [if_pos rfl]
      refine slL hr0 fun c1 H1 n1 s1 d1 => ?_
      have d1' : H1 c1 = some (.lst (List.map fj (firstWs c.num c.turn c.since :: E))) := by rw [d1, hRi]; exact congrArg (fun l => some (HO.lst l)) (cut_init _ _)
      refine q c1 (firstWs c.num c.turn c.since :: E) H1 s1 d1' (.inr ⟨?_, len_ne (by rw [hlen]; simp)⟩) (by simp; omega) hFE
      by_cases hE : E = []
      · rw [hE]; exact .short _ (by simp)
      · have e1 : E = E.dropLast ++ [E.getLast hE] := (List.dropLast_concat_getLast hE).symm
        have hm := List.getLast_mem hE
        have hw := cp.wE hm
        rw [e1]
        refine .badL _ _ _ _ _ cp.nums (.inr (.inl fun h => ?_)) hw.1
        have h2 : (E.getLast hE)[0]? = some ("row" : Str) := Classical.byContradiction fun h3 => hw.2.1 (.inl h3)
        rw [h2] at h
        exact absurd (Option.some.inj h) (by decide +kernel)
    · rw [if_neg (by decide)]
      refine ⟨by first | rfl | trivial, ?_⟩
      rw [if_neg (by simp)]
      refine ⟨by first | rfl | trivial, ?_⟩
      rw [if_neg (by simp)]
      refine ⟨by first | rfl | trivial, ?_⟩
      rw [if_neg (by simp)]
      refine ⟨by first | rfl | trivial, ?_⟩
      rw [if_neg (by simp)]
      refine ⟨by first | rfl | trivial, ?_⟩
      rw [if_neg (by simp)]
      refine ⟨by first | rfl | trivial, ?_⟩
      rw [if_pos rfl]
      have hcd : cutS (jn (firstWs c.num c.turn c.since)) none (some (-1)) = jn ([("card" : Str), numS c.num, numS c.turn, numS c.since] ++ [("" : Str)]) := cut_dot (i := [("card" : Str), numS c.num, numS c.turn, numS c.since]) (by simp)
      refine ⟨_, SqL.of hr0, fj (firstWs c.num c.turn c.since), atI_nat (j := 0) (by rw [hRd]; rfl), _, rfl, jl _ cp.wF, sz (by decide), fun p np => ?_⟩
      rw [hcd]
      obtain ⟨H1, hE1, s1, e1⟩ := fr np (.lst [V.str (jn ([("card" : Str), numS c.num, numS c.turn, numS c.since] ++ [("" : Str)]))])
      simp only [hE1]
      refine slL (s1 _ _ hr0) fun c2 H2 n2 s2 d2 => ?_
      have d2' : H2 c2 = some (.lst ((R.drop 1).map fj)) := by rw [d2]; exact congrArg (fun l => some (HO.lst l)) (cut_drop R 1)
      refine cat (s2 _ _ (show H1 p = some (.lst ([[("card" : Str), numS c.num, numS c.turn, numS c.since] ++ [("" : Str)]].map fj)) from e1)) d2' (sz (by simp; omega)) fun c3 H3 n3 s3 d3 => ?_
      rw [← List.map_append] at d3
      have wl : Wds ([("card" : Str), numS c.num, numS c.turn, numS c.since] ++ [("" : Str)]) := wds_nul cp.wF
      have hd1 : R.drop 1 = E ++ [lastWs E.length] := by rw [hRd]; rfl
      refine q c3 _ H3 (s1.trans (s2.trans s3)) d3 (.inr ⟨?_, fun e => ?_⟩) (by simp; omega) (wA (wOne wl) (wD hWR))
      · exact CP.first (.inr (.inr (by simp; exact nul_dot))) wl (by rw [hd1]; simp)
      · have e3 := map_jn (fun w hw => by
          rcases List.mem_append.mp hw with hw | hw
          · rw [List.mem_singleton.mp hw]; exact wl
          · rw [hd1] at hw
            exact cp.wR w (List.mem_cons_of_mem _ hw)) (by rw [hRd]; exact cp.wR) e
        rw [hRd] at e3
        have e4 := (List.cons.inj e3).1
        simp [firstWs] at e4
        exact nul_dot e4
    · rw [if_neg (by decide)]
      refine ⟨by first | rfl | trivial, ?_⟩
      rw [if_neg (by simp)]
      refine ⟨by first | rfl | trivial, ?_⟩
      rw [if_neg (by simp)]
      refine ⟨by first | rfl | trivial, ?_⟩
      rw [if_neg (by simp)]
      refine ⟨by first | rfl | trivial, ?_⟩
      rw [if_neg (by simp)]
      refine ⟨by first | rfl | trivial, ?_⟩
      rw [if_neg (by simp)]
      refine ⟨by first | rfl | trivial, ?_⟩
      rw [if_neg (by simp)]
      refine ⟨by first | rfl | trivial, ?_⟩
      rw [if_pos rfl]
      refine ⟨sz (by decide), fun p np => ?_⟩
      obtain ⟨H1, hE1, s1, e1⟩ := fr np (.lst [V.str (Str.ofString "x")])
      simp only [hE1]
      have e2 : H1 p = some (.lst (List.map fj [[("x" : Str)]])) := by rw [e1]; rfl
      refine cat e2 (s1 _ _ hr0) (sz (by simp; omega)) fun c3 H3 n3 s3 d3 => ?_
      rw [← List.map_append] at d3
      refine q c3 _ H3 (s1.trans s3) d3 (.inr ⟨CP.first (.inl (by decide)) wx (by rw [hRd]; simp), len_ne (by simp)⟩) (by simp; omega) (wA (wOne wx) hWR)
    · rw [if_neg (by decide)]
      refine ⟨by first | rfl | trivial, ?_⟩
      rw [if_neg (by simp)]
      refine ⟨by first | rfl | trivial, ?_⟩
      rw [if_neg (by simp)]
      refine ⟨by first | rfl | trivial, ?_⟩
      rw [if_neg (by simp)]
      refine ⟨by first | rfl | trivial, ?_⟩
      rw [if_neg (by simp)]
      refine ⟨by first | rfl | trivial, ?_⟩
      rw [if_neg (by simp)]
      refine ⟨by first | rfl | trivial, ?_⟩
      rw [if_neg (by simp)]
      refine ⟨by first | rfl | trivial, ?_⟩
      rw [if_neg (by simp)]
      exact fin9
end
end HW
set_option Elab.async false
set_option linter.all false
set_option maxRecDepth 100000
set_option maxHeartbeats 4000000
namespace HW
open PySem PySem.Spec PyProof.Rows L2
local macro_rules | `(tactic| walk_at "un") => `(tactic| simp only [cxOf, tSeq, tNext, tIfS, tTest, tOp, tUn, tVar, tC, tRet, tRetN, tNever, tAsg, gName, gNil, gCons, gTup, eq_self, rListOf, Option.isSome_none, Option.isSome_some, gSub, tDrop, tCB, tCall, tCons, tNil, tTup, tLst, tB, tAnd, tOr, tNot, tAndV, tOrV, tNotV, tNoPart, tPart, tSl, tSl3, tBM, tM1, tDNewK, tDNewT, tDGet, tDIn, tDNotIn, sDPut, tYes, tFld, sFld, tMeth, tMake,
  for_L, for_T, for_R, for_S, lc_L, lc_T, lc_R, wipe, rI0, rU, rEq, rNe, rIxT, rIxL, rIxS, L2.start, List.map_cons, List.map_nil, List.length_cons, List.length_nil, Nat.reduceAdd, Nat.reduceSub, List.replicate_succ, List.replicate_zero, List.cons_append, List.nil_append, List.append_nil,
  List.getElem?_cons_zero, List.getElem?_cons_succ, List.set_cons_zero, List.set_cons_succ, Option.some.injEq, V.int.injEq, V.bl.injEq, V.str.injEq, V.ref.injEq, V.ty.injEq, List.cons.injEq, and_true, true_and, exists_eq_left, exists_eq_left', exists_and_left, exists_eq, scal, decide_eq_true_eq, reduceCtorEq, decide_false, decide_true, Bool.not_true, Bool.not_false, if_true, if_false, Bool.false_eq_true, ite_true, ite_false, Bool.not_eq_true', decide_eq_false_iff_not])
local macro_rules | `(tactic| walk_at "tk") => `(tactic| first | exact TK.refl _ | assumption | exact TK.same (by assumption) | (refine TK.trans ?_ (TK.new (by assumption)); walk_at "tk") | (refine TK.trans ?_ (TK.put (by assumption) rfl); walk_at "tk") | (refine TK.trans ?_ (TK.same (by assumption)); walk_at "tk"))
local macro_rules | `(tactic| walk_at "fz") => `(tactic| first | assumption | exact L2.SqT.tk (by assumption) (by walk_at "tk") | exact IsRch.tk (by assumption) (by walk_at "tk") | exact IsPlt.tk (by assumption) (by walk_at "tk") | exact IsStp.tk (by assumption) (by walk_at "tk") | exact IsRow.tk (by assumption) (by walk_at "tk") | exact IsEnt.tk (by assumption) (by walk_at "tk") | exact pairS_tk (by assumption) (by walk_at "tk") | exact pairE_tk (by assumption) (by walk_at "tk"))
local macro_rules | `(tactic| walk_at "sm") => `(tactic| first | exact L2.Same.refl _ | assumption | (refine L2.Same.trans ?_ (L2.Same.new (by assumption)); walk_at "sm") | (refine L2.Same.put ?_ (by assumption); walk_at "sm") | (refine L2.Same.trans ?_ (by assumption); walk_at "sm"))
local macro_rules | `(tactic| walk_at "jk") => `(tactic| first | exact ⟨_, rfl⟩ | exact ⟨_, _, rfl, rfl⟩ | exact ⟨⟨_, rfl⟩, _, rfl⟩ | exact ⟨_, rfl, _, rfl⟩ | simp)

section
variable {P : Program} {w : World} {K : PySem.W.Frag} {mg : Str → Option Value} {base : Heap}

/-! law -/
theorem paired_jnB : ∀ r : List (List Str), Paired (fun (v : V) f => v = .str (jn f)) (r.map fun f => V.str (jn f)) r
  | [] => .nil
  | e :: es => .cons rfl (paired_jnB es)
theorem puts_fst {i j : Nat} (h : j ≠ i) (A B : List (List Str)) : putsTo i (A.map (fun w => (i, jn w)) ++ B.map (fun w => (j, jn w))) = A.map jn := by
  unfold putsTo
  rw [List.filter_append, List.map_append, List.filter_eq_self.mpr (fun a ha => by obtain ⟨w, _, rfl⟩ := List.mem_map.mp ha; simp), List.filter_eq_nil_iff.mpr (fun a ha => by obtain ⟨w, _, rfl⟩ := List.mem_map.mp ha; simpa using h), List.map_map]
  simp
theorem puts_snd {i j : Nat} (h : j ≠ i) (A B : List (List Str)) : putsTo i (A.map (fun w => (j, jn w)) ++ B.map (fun w => (i, jn w))) = B.map jn := by
  unfold putsTo
  rw [List.filter_append, List.map_append, List.filter_eq_nil_iff.mpr (fun a ha => by obtain ⟨w, _, rfl⟩ := List.mem_map.mp ha; simpa using h), List.filter_eq_self.mpr (fun a ha => by obtain ⟨w, _, rfl⟩ := List.mem_map.mp ha; simp), List.map_map]
  simp
theorem puts_none {i j k : Nat} (h : j ≠ i) (h2 : k ≠ i) (A B : List (List Str)) : putsTo i (A.map (fun w => (j, jn w)) ++ B.map (fun w => (k, jn w))) = [] := by
  unfold putsTo
  rw [List.filter_append, List.map_append, List.filter_eq_nil_iff.mpr (fun a ha => by obtain ⟨w, _, rfl⟩ := List.mem_map.mp ha; simpa using h), List.filter_eq_nil_iff.mpr (fun a ha => by obtain ⟨w, _, rfl⟩ := List.mem_map.mp ha; simpa using h2)]
  rfl
theorem sc_law : FnScope ["script", "shapes", "drawer", "kept", "one", "one_known", "other", "other_known", "bent", "began", "text", "shelf", "due", "keeper"] ["script"] (defScope s_law) := ⟨rfl, rfl, rfl, by decide +kernel, rfl, by decide +kernel, by decide +kernel⟩
theorem ok_law (T : Top K mg) {fd : FuncData} (F : FunD K "law" "law" (defArgs s_law) (defBody s_law) (defScope s_law) [] [] (He.ga K "law") fd) (G_law_draw : Fn P w K mg base CX0 1 "_law_draw" ["script", "k", "many"] (sp_draw K)) (G_law_shapes : Fn P w K mg base CX0 3 "_law_shapes" ["script"] (sp_shapes K)) (G_law_kept : Fn P w K mg base CX0 10 "_law_kept" ["script", "shapes", "lesser"] (sp_kept K)) (G_law_bent : Fn P w K mg base CX0 2 "_law_bent" ["script", "rows"] (sp_bent K)) (G_Shelf : It0 P w K mg base CX0 1 "Shelf" ["self"] (sp_sh_init K)) (G_Keeper : It0 P w K mg base CX0 8 "Keeper" ["self", "shelf", "shapes"] (sp_kp_init K)) (M_put : Mt P w K mg base CX0 1 "Shelf" "put" ["self", "drawer", "text"] (sp_put K)) (M_fallen : Mt P w K mg base CX0 3 "Shelf" "fallen" ["self", "many", "signs"] (sp_fallen K)) (M_strokes : Mt P w K mg base CX0 1 "Shelf" "strokes" ["self"] (sp_strokes K)) (M_since : Mt P w K mg base CX0 1 "Keeper" "since" ["self"] (sp_since K)) (M_now : Mt P w K mg base CX0 1 "Keeper" "now" ["self"] (sp_now K)) (M_card : Mt P w K mg base CX0 5 "Keeper" "card" ["self", "turn"] (sp_card K)) (M_tables : Mt P w K mg base CX0 1 "Keeper" "tables" ["self"] (sp_tables K)) : FnOk P w K mg base CX0 11 (He.ga K "law") fd ["script"] (sp_law K) := by
  obtain ⟨f_put, fd_put, G_put, m_put, b_put⟩ := M_put.ex
  obtain ⟨f_fallen, fd_fallen, G_fallen, m_fallen, b_fallen⟩ := M_fallen.ex
  obtain ⟨f_strokes, fd_strokes, G_strokes, m_strokes, b_strokes⟩ := M_strokes.ex
  obtain ⟨f_since, fd_since, G_since, m_since, b_since⟩ := M_since.ex
  obtain ⟨f_now, fd_now, G_now, m_now, b_now⟩ := M_now.ex
  obtain ⟨f_card, fd_card, G_card, m_card, b_card⟩ := M_card.ex
  obtain ⟨f_tables, fd_tables, G_tables, m_tables, b_tables⟩ := M_tables.ex
  refine F.okN sc_law (fun vs H Q E h => ?_) (fun cdv A outer s H vs Q E hr h => ?_)
  · obtain ⟨a, ns, rfl, _⟩ := h
    rfl
  · obtain ⟨a, ns, rfl, hs, hn, q⟩ := h
    refine ⟨_, (pss_cons (ps_set (i := 1) sc_law.nd rfl (.inl rfl) (pe_fn G_law_shapes (hr.mono (by decide)) (by rfl) pass0 (pa_cons (pv 0) pa_nil)))
      (pss_cons (ps_set (i := 2) sc_law.nd rfl (.inl rfl) (pe_op op_add pe_int (pe_fn G_law_draw (hr.mono (by decide)) (by rfl) pass0 (pa_cons (pv 0) (pa_cons pe_int (pa_cons pe_int pa_nil))))))
      (pss_cons (ps_set (i := 3) sc_law.nd rfl (.inl rfl) (pe_fn G_law_kept (hr.mono (by decide)) (by rfl) pass0 (pa_cons (pv 0) (pa_cons (pv 1) (pa_cons (pv 2) pa_nil)))))
      (pss_cons (ps_asg (pe_ix ix_list (pv 3) pe_int (fun _ _ => rfl)) (pg_tup (n := 2) rfl (pgs_cons (pg_name (i := 4) sc_law.nd rfl (.inl rfl)) (pgs_cons (pg_name (i := 5) sc_law.nd rfl (.inl rfl)) pgs_nil))))
      (pss_cons (ps_asg (pe_ix ix_list (pv 3) pe_int (fun _ _ => rfl)) (pg_tup (n := 2) rfl (pgs_cons (pg_name (i := 6) sc_law.nd rfl (.inl rfl)) (pgs_cons (pg_name (i := 7) sc_law.nd rfl (.inl rfl)) pgs_nil))))
      (pss_cons (ps_set (i := 8) sc_law.nd rfl (.inl rfl) (pe_fn G_law_bent (hr.mono (by decide)) (by rfl) pass0 (pa_cons (pv 0) (pa_cons (pv 6) pa_nil))))
      (pss_cons (ps_set (i := 9) sc_law.nd rfl (.inl rfl) (pe_it0 G_Shelf (hr.mono (by decide)) (by rfl) pass0))
      (pss_cons (ps_for PassesOwn.never rfl (pi_list (pv 4)) (pg_name (i := 10) sc_law.nd rfl (.inl rfl)) (pss_one (ps_expr (pe_meth (pv 9) T.c_Shelf m_put G_put (hr.mono (by decide)) b_put .nil pass0 (pa_cons (pv 2) (pa_cons (pv 10) pa_nil))))))
      (pss_cons (ps_for PassesOwn.never rfl (pi_list (pv 8)) (pg_name (i := 10) sc_law.nd rfl (.inl rfl)) (pss_one (ps_expr (pe_meth (pv 9) T.c_Shelf m_put G_put (hr.mono (by decide)) b_put .nil pass0 (pa_cons (pe_op op_sub pe_int (pv 2)) (pa_cons (pv 10) pa_nil))))))
      (pss_cons (ps_set (i := 11) sc_law.nd rfl (.inl rfl) (pe_meth (pv 9) T.c_Shelf m_fallen G_fallen (hr.mono (by decide)) b_fallen .nil pass0 (pa_cons (pe_callB call_len_seq (by rfl) T.f_len PySem.boot_len (pa_cons (pe_meth0 (pv 9) T.c_Shelf m_strokes G_strokes (hr.mono (by decide)) b_strokes .nil pass0) pa_nil)) (pa_cons pe_int pa_nil))))
      (pss_cons (ps_set (i := 12) sc_law.nd rfl (.inl rfl) (pe_tup (pa_cons (pv 5) (pa_cons (pv 2) (pa_cons (pv 2) pa_nil)))))
      (pss_cons (ps_if (pt_cmpR (op_eqD hr.units) (pv 8) (pv 6) (nomark _)) (pss_one (ps_set (i := 12) sc_law.nd rfl (.inl rfl) (pe_tup (pa_cons (pv 7) (pa_cons (pe_op op_sub pe_int (pv 2)) (pa_cons (pe_op op_add (pv 2) pe_int) pa_nil)))))) pss_nil)
      (pss_cons (ps_set (i := 13) sc_law.nd rfl (.inl rfl) (pe_it G_Keeper (hr.mono (by decide)) (by rfl) pass0 (pa_cons (pv 11) (pa_cons (pv 1) pa_nil))))
      (pss_cons (ps_if (PW.pt (pw_or (pt_cmpR (op_neV (un_of hr (by decide))) (pe_tup (pa_cons (pe_meth0 (pv 13) T.c_Keeper m_now G_now (hr.mono (by decide)) b_now .nil pass0) (pa_cons (pe_meth0 (pv 13) T.c_Keeper m_since G_since (hr.mono (by decide)) b_since .nil pass0) (pa_cons (pe_meth0 (pv 13) T.c_Keeper m_tables G_tables (hr.mono (by decide)) b_tables .nil pass0) pa_nil)))) (pe_ix ix_tup (pv 12) pe_int (fun _ _ => rfl)) (nomark _)) (pw_or1 (pt_cmpR (op_neD hr.units) (pe_meth0 (pv 11) T.c_Shelf m_strokes G_strokes (hr.mono (by decide)) b_strokes .nil pass0) (pe_lst pa_nil) (nomark _))))) (pss_one (ps_ret pe_bl)) pss_nil)
      (pss_cons (ps_if (pt_cmpR op_ne (pe_meth (pv 13) T.c_Keeper m_card G_card (hr.mono (by decide)) b_card .nil pass0 (pa_cons (pe_meth0 (pv 13) T.c_Keeper m_now G_now (hr.mono (by decide)) b_now .nil pass0) pa_nil)) (pe_op op_add (pe_ix ix_tup (pv 12) pe_int (fun _ _ => rfl)) pe_int) (nomark _)) (pss_one (ps_ret pe_bl)) pss_nil)
      (pss_one (ps_ret (pe_and (pe_cmpR (op_eqD hr.units) (pe_ix ix_list (pe_meth0 (pv 11) T.c_Shelf m_strokes G_strokes (hr.mono (by decide)) b_strokes .nil pass0) pe_int (fun _ _ => rfl)) (pe_tup (pa_cons (pe_op op_sub pe_int (pe_ix ix_tup (pv 12) pe_int (fun _ _ => rfl))) (pa_cons pe_non pa_nil))) (nomark _)) (pe_one (pe_cmpR (op_eqD hr.units) (pe_ix ix_list (pe_meth0 (pv 11) T.c_Shelf m_strokes G_strokes (hr.mono (by decide)) b_strokes .nil pass0) (pe_un un_neg pe_int) (fun _ _ => rfl)) (pe_tup (pa_cons pe_int (pa_cons pe_non pa_nil))) (nomark _))))))))))))))))))))), ?_⟩
    have hs0 : IsScr K H (.ref a) := ⟨a, ns, rfl, hs, hn⟩
    walk_at "un"
    refine ⟨_, rfl, hs0, fun l us fs H1 nl s1 e1 hus hfs hf2 => ?_⟩
    refine ⟨_, 320, 2, rfl, hs0.same s1, by decide, by decide, by decide, by decide, fun r r0 r1 => ⟨_, rfl, ?_⟩⟩
    obtain ⟨r, rfl⟩ := Int.eq_ofNat_of_zero_le r0
    have ed : (1 : Int) + (r : Int) = ((r + 1 : Nat) : Int) := by omega
    rw [ed]
    obtain ⟨d, hd⟩ : ∃ d, d = r + 1 := ⟨_, rfl⟩
    rw [← hd]
    have hd12 : d = 1 ∨ d = 2 := by omega
    have hns : ∀ n ∈ fs.map Frm.name, NameOk n ∧ 1 ≤ wdF fs n ∧ wdF fs n ≤ 3 := fun n hn => by
      obtain ⟨f, hf, rfl⟩ := List.mem_map.mp hn
      rw [wdF_of hfs.2.1 hf]
      have := hfs.1 f hf
      exact ⟨this.1, this.2.2.1, this.2.2.2⟩
    have hn3 : (fs.map Frm.name).length ≤ 3 := by rw [List.length_map]; omega
    refine ⟨_, l, us, fs, d, rfl, hs0.same s1, e1, hus, hfs, hf2, hd12, fun ka x y c e H2 s2 ek kx ky gcc gce nc ne tc te => ?_⟩
    obtain ⟨p1, rr1, u1, t1, rfl, x1, x2, x3, x4⟩ := kx
    obtain ⟨p2, rr2, u2, t2, rfl, y1, y2, y3, y4⟩ := ky
    refine ⟨_, rfl, _, SqL.of ek, _, rfl, _, rfl, _, x1, rfl, _, _, rfl, _, _, rfl, rfl, _, rfl, _, SqL.of ek, _, rfl, _, rfl, _, y1, rfl, _, _, rfl, _, _, rfl, rfl, ?_⟩
    have S2 := s1.trans s2
    have gc30 : ∀ {c : Crd}, GC (fs.map Frm.name) (wdF fs) 28 c → GC (fs.map Frm.name) (wdF fs) 30 c := fun h => ⟨h.nums, fun n hn => (h.tabs n hn).mono (by decide) (Int.le_refl _)⟩
    refine ⟨_, rr2, fs.map Frm.name, wdF fs, e, rfl, hs0.same S2, y2, gc30 gce, hns, hn3, fun bb B H3 s3 eb hB hBl hBW => ?_⟩
    have S3 := S2.trans s3
    have S23 := s2.trans s3
    obtain ⟨E1, hE1, cp1⟩ := card_parts (gc30 gcc) hns hn3
    have hR1 : (cardWs (fs.map Frm.name) c).length ≤ 92 := by rw [hE1]; have := cp1.len; simp; omega
    intro x dx nx ndx hne
    have tm : Same H3 (upd (upd H3 dx (.own x)) x (.ins (He.ga K "Shelf") dx [])) := (L2.Same.new ndx).trans (L2.Same.new (by rw [upd_ne (fun h => hne h.symm)]; exact nx))
    refine ⟨x, dx, rfl, upd_same, fun s0 H4 ex tk4 keep mutn tsn dsn sa bg0 => ⟨rfl, ?_⟩⟩
    subst ex
    have s4 : Same H3 H4 := fun a u e => keep a u (ne_of_none e nx) (tm _ _ e)
    have fr0 : ∀ a u, H3 a = some u → ¬ s0.mut a := fun a u e h => by rw [tm.none (mutn a h)] at e; cases e
    have x2' := s3 _ _ x2
    refine ⟨_, rfl, ⟨_, SqL.of (s4 _ _ x2')⟩, ?_⟩
    have hd3 : d < 3 := by omega
    have e3d : (3 : Int) - (d : Int) = ((3 - d : Nat) : Int) := by omega
    obtain ⟨I, hI⟩ : ∃ I : List (List Str) → List (List Str) → L2.St → Hp → Prop, I = fun q r σ H' => ∃ s, s.x = s0.x ∧ ShAt K H' q.length s ∧ Bg H' s ∧ s.ds = q.map (fun w => ((d : Int), some (jn w))) ∧ Mv s0.mut H4 s.mut H' ∧ ∃ z, σ = [some (V.ref a), some (V.ref l), some (V.int (d : Int)), some (V.ref ka), some (V.ref rr1), some (V.ref u1), some (V.ref rr2), some (V.ref u2), some (V.ref bb), some (V.ref s0.x), z, none, none, none] := ⟨_, rfl⟩
    have far : ∀ {H' : Hp} {s : Sh}, Mv s0.mut H4 s.mut H' → Same H3 H' := fun mv a u e => mv.2.1 _ _ (s4 _ _ e) (fr0 a u e)
    refine lp_list (F := fun (v : V) w => v = V.str (jn w)) (paired_jnB _) I (by rw [hI]; exact ⟨s0, rfl, sa, bg0, dsn, Mv.refl, _, rfl⟩) (fun q r σ H' z => by rw [hI] at z; obtain ⟨s, _, _, _, _, mv, _⟩ := z; exact SqL.of (far mv _ _ x2')) ?_ ?_
    · rintro q _ y r σ H' eq rfl z
      rw [hI] at z
      obtain ⟨s, z1, z2, z3, z4, z5, z6, rfl⟩ := z
      have ql : (cardWs (fs.map Frm.name) c).length = q.length + (r.length + 1) := by rw [eq]; simp
      have zi := z2.ins
      rw [z1] at zi
      walk_at "un"
      refine ⟨_, _, zi, rfl, s, q.length, jn y, d, by rw [z1], hd3, z2, by omega, fun s' H5 ex ebg ets eds mv ha => ?_⟩
      rw [hI]
      exact ⟨s', ex.trans z1, by rw [List.length_append]; exact ha, z3.mv mv ebg, by rw [eds, z4]; simp, z5.trans mv, _, rfl⟩
    · intro σ H' z
      rw [hI] at z
      obtain ⟨s, z1, z2, z3, z4, z5, z6, rfl⟩ := z
      walk_at "un"
      have S5 := far z5
      refine ⟨⟨_, SqL.of (S5 _ _ eb)⟩, ?_⟩
      obtain ⟨J, hJ⟩ : ∃ I : List (List Str) → List (List Str) → L2.St → Hp → Prop, I = fun q r σ H6 => ∃ s2, s2.x = s0.x ∧ ShAt K H6 ((cardWs (fs.map Frm.name) c).length + q.length) s2 ∧ Bg H6 s2 ∧ s2.ds = (cardWs (fs.map Frm.name) c).map (fun w => ((d : Int), some (jn w))) ++ q.map (fun w => (((3 - d : Nat) : Int), some (jn w))) ∧ Mv s0.mut H4 s2.mut H6 ∧ ∃ z, σ = [some (V.ref a), some (V.ref l), some (V.int (d : Int)), some (V.ref ka), some (V.ref rr1), some (V.ref u1), some (V.ref rr2), some (V.ref u2), some (V.ref bb), some (V.ref s0.x), z, none, none, none] := ⟨_, rfl⟩
      refine lp_list (F := fun (v : V) w => v = V.str (jn w)) (paired_jnB B) J (by rw [hJ]; exact ⟨s, z1, z2, z3, by rw [z4]; simp, z5, _, rfl⟩) (fun q r σ H' z => by rw [hJ] at z; obtain ⟨s, _, _, _, _, mv, _⟩ := z; exact SqL.of (far mv _ _ eb)) ?_ ?_
      · rintro q _ y r σ H6 eq rfl z
        rw [hJ] at z
        obtain ⟨s2, w1, w2, w3, w4, w5, w6, rfl⟩ := z
        have ql : B.length = q.length + (r.length + 1) := by rw [eq]; simp
        have zi := w2.ins
        rw [w1] at zi
        walk_at "un"
        rw [e3d]
        refine ⟨_, _, zi, rfl, s2, _, jn y, 3 - d, by rw [w1], by omega, w2, by omega, fun s' H7 ex ebg ets eds mv ha => ?_⟩
        rw [hJ]
        exact ⟨s', ex.trans w1, by rw [List.length_append]; exact ha, w3.mv mv ebg, by rw [eds, w4]; simp, w5.trans mv, _, rfl⟩
      · intro σ H6 z
        rw [hJ] at z
        obtain ⟨s2, w1, w2, w3, w4, w5, w6, rfl⟩ := z
        have zi := w2.ins
        rw [w1] at zi
        have S6 := far w5
        walk_at "un"
        refine ⟨_, _, zi, rfl, _, _, zi, rfl, s2, _, by rw [w1], w2, fun sl sus H7 nsl s7 esl psl => ⟨_, rfl, sus, .inl (SqL.of esl), ?_⟩⟩
        have hsl : sus.length = s2.ds.length := Paired.length psl
        rw [hsl]
        obtain ⟨ps, hps⟩ : ∃ ps : List (Nat × Str), ps = (cardWs (fs.map Frm.name) c).map (fun w => (d, jn w)) ++ B.map (fun w => (3 - d, jn w)) := ⟨_, rfl⟩
        have hds : s2.ds = ps.map (fun p => ((p.1 : Int), some p.2)) := by rw [w4, hps, List.map_append, List.map_map, List.map_map]; rfl
        refine ⟨s2, _, ps, by rw [w1], w2.same s7, w3.mv (Mv.same s7) rfl, hds, fun q hq => ?_, by omega, fun s' H8 s8 fresh dsn' tsn' sa' => ?_⟩
        · rw [hps] at hq
          rcases List.mem_append.mp hq with hq | hq
          · obtain ⟨w, _, rfl⟩ := List.mem_map.mp hq; exact hd3
          · obtain ⟨w, _, rfl⟩ := List.mem_map.mp hq; show 3 - d < 3; omega
        have tD : s'.ts d = (cardWs (fs.map Frm.name) c).map jn := by rw [tsn' d hd3, hps]; exact puts_fst (by omega) _ _
        have tE : s'.ts (3 - d) = B.map jn := by rw [tsn' (3 - d) (by omega), hps]; exact puts_snd (by omega) _ _
        have t0' : s'.ts 0 = [] := by rw [tsn' 0 (by decide), hps]; exact puts_none (by omega) (by omega) _ _
        have S8 := (S6.trans s7).trans s8
        have e3 : (3 : Int) - (d : Int) = ((3 - d : Nat) : Int) := e3d
        refine ⟨sz (by decide), fun du ndu => ?_⟩
        obtain ⟨HD, hED, sD, eD⟩ := fr ndu (.tup [V.ref u1, V.int (d : Int), V.int (d : Int)])
        simp only [hED]
        have SD := S8.trans sD
        refine eqTxt (SD _ _ eb) ((s3.trans SD) _ _ y2) hBW (by obtain ⟨E2, hE2, cp2⟩ := card_parts (gc30 gce) hns hn3; rw [hE2]; exact cp2.wR) ⟨_, rfl, ?_⟩
        by_cases hq : B.map jn = (cardWs (fs.map Frm.name) e).map jn
        · rw [if_pos (by simpa using hq)]
          have hBR : B = cardWs (fs.map Frm.name) e := by
            rcases hB with h | h
            · exact h
            · exact absurd hq h.2
          rw [e3]
          refine ⟨sz (by decide), fun dv ndv => ?_⟩
          obtain ⟨HX, hEX, sX, eX⟩ := fr ndv (.tup [V.ref u2, V.int ((3 - d : Nat) : Int), V.int ((d : Int) + 1)])
          simp only [hEX]
          have SX : Same H3 HX := SD.trans sX
          have hdu : SqT K HX dv [V.ref u2, V.int ((3 - d : Nat) : Int), V.int e.num] := by rw [ne]; exact SqT.of eX
          have saX := (sa'.same sD).same sX
          have hku : SqT K HX u2 [.int e.turn, .int e.since, .ref t2] := y3.tk (TK.same (s3.trans SX))
          have hkt : IsKn K HX t2 (fs.map Frm.name) e.tb (fun _ => True) := y4.mv (TK.same (s3.trans SX)) (fun u e => (s3.trans SX) _ _ e) (fun b u _ e => (s3.trans SX) _ _ e) (fun _ _ _ _ => trivial)
          obtain ⟨rA, rB, oA, oB, hrA, hrB, rdA, rdB, hnew⟩ : ∃ rA rB oA oB, s'.ts 1 = List.map jn rA ∧ s'.ts 2 = List.map jn rB ∧ RdC (fs.map Frm.name) (wdF fs) rA oA ∧ RdC (fs.map Frm.name) (wdF fs) rB oB ∧ newest oA oB = some (3 - d, e) := by
            rcases hd12 with h | h
            · rw [h] at tD tE
              refine ⟨_, _, some c, some e, tD, by rw [hBR] at tE; exact tE, .good c (gc30 gcc), .good e (gc30 gce), ?_⟩
              show (if c.num < e.num then some (2, e) else some (1, c)) = _
              rw [if_pos (by omega), h]
            · rw [h] at tD tE
              refine ⟨_, _, some e, some c, by rw [hBR] at tE; exact tE, tD, .good e (gc30 gce), .good c (gc30 gcc), ?_⟩
              show (if e.num < c.num then some (2, c) else some (1, e)) = _
              rw [if_neg (by omega), h]
          have gcr := gce
          have hdk : 3 - d = 1 ∨ 3 - d = 2 := by omega
          have hcn : e.num ≤ 3 := by omega
          have hct := te
          intro kx kdx nk nkd hne2
          have tm9 : Same HX (upd (upd HX kdx (.own kx)) kx (.ins (He.ga K "Keeper") kdx [])) := (L2.Same.new nkd).trans (L2.Same.new (by rw [upd_ne (fun h => hne2 h.symm)]; exact nk))
          have SX9 := SX.trans tm9
          have hus9 : Paired (IsFrm K (upd (upd HX kdx (.own kx)) kx (.ins (He.ga K "Keeper") kdx []))) us fs := pairF_tk hus (TK.same (S23.trans SX9))
          refine ⟨kx, kdx, s', _, l, us, fs, wdF fs, 28, rA, rB, oA, oB, rfl, upd_same, SX9 _ _ (S23 _ _ e1), hus9, hfs, fun f hf => wdF_of hfs.2.1 hf, (saX.same tm9).mono (Nat.le_refl _), by omega, t0', hrA, hrB, rdA, rdB, by decide, fun d0 c0 h0 => ?_, fun k H9 ek esh efs hbeg tk9 kx9 kmut hk => ⟨rfl, ?_⟩⟩
          · rw [hnew] at h0
            cases h0
            exact ⟨gcr, hdk, by omega, by omega⟩
          rw [hnew] at hbeg
          obtain ⟨g1, g2, g3, g4, g5⟩ := hbeg
          have S9 : Same HX H9 := fun a u e => kx9 a u (ne_of_none e nk) (tm9 _ _ e)
          have i9 : H9 kx = some (.ins (He.ga K "Keeper") k.dx (kpF k.sh.x k.fm k.kd k.ca k.now k.since)) := by have := hk.ins; rw [ek] at this; exact this
          have t09 := hk.t0
          have n09 := hk.n0
          have kns : k.ns = fs.map Frm.name := by unfold Kp.ns; rw [efs]
          refine ⟨_, _, i9, rfl, k, 28, _, by rw [ek], hk, _, _, i9, rfl, k, 28, _, by rw [ek], hk, _, _, i9, rfl, k, 28, _, by rw [ek], hk, fun ta HA nta sA kn => ⟨sz (by decide), fun pt npt => ?_⟩⟩
          obtain ⟨HB, hEB, sB, eB⟩ := fr npt (.tup [V.int k.now, V.int k.since, V.ref ta])
          simp only [hEB]
          have SB := S9.trans (sA.trans sB)
          refine ⟨_, (hdu.tk (TK.same SB)), _, rfl, ?_⟩
          have SB9 := S9.trans (sA.trans sB)
          have hnd : (fs.map Frm.name).Nodup := hfs.2.1
          have knB : IsKn K HB ta (fs.map Frm.name) e.tb (fun _ => True) := by
            have h := kn.mv (P' := fun _ => True) (TK.same sB) (fun u e => sB _ _ e) (fun b u _ e => sB _ _ e) (fun _ _ _ _ => trivial)
            rw [kns] at h
            exact h.tbs (fun n hn => g5 n (by rw [kns]; exact hn))
          have ktB : IsKn K HB t2 (fs.map Frm.name) e.tb (fun _ => True) := hkt.mv (TK.same SB9) (fun u e => SB9 _ _ e) (fun b u _ e => SB9 _ _ e) (fun _ _ _ _ => trivial)
          have tne : ta ≠ t2 := by
            obtain ⟨kv, hkv, _⟩ := hkt
            exact fun h => by rw [h, S9 _ _ hkv] at nta; cases nta
          refine ⟨pt, u2, _, _, rfl, rfl, SqT.of eB, hku.tk (TK.same SB9), .cons (by rw [g3]; exact sameInt _) (.cons (by rw [g4]; exact sameInt _) (.cons (sameKn hnd tne knB ktB) .nil)), _, rfl, ?_⟩
          rw [if_neg (by decide)]
          have hkB := (hk.same sA).same sB
          have shB := hkB.shelf
          rw [esh] at shB
          refine ⟨_, rfl, _, _, shB.ins, rfl, s', _, rfl, shB, fun a1 us1 HC na1 sC eC pC => ⟨Nat.zero_le _, fun b1 nb1 => ?_⟩⟩
          rw [dsn'] at pC
          cases pC
          have sb1 := L2.Same.new (o := .lst []) nb1
          refine neNil (sb1 _ _ eC) upd_same ⟨_, rfl, ?_⟩
          rw [if_neg (by decide)]
          have hkD := (hkB.same sC).same sb1
          have SD9 := SB9.trans (sC.trans sb1)
          have iD := ((sA.trans sB).trans (sC.trans sb1)) _ _ i9
          refine ⟨_, _, iD, rfl, _, _, iD, rfl, k, 28, _, by rw [ek], hkD, ?_⟩
          refine ⟨k, 28, _, k.now, by rw [ek], hkD, t09.2.1, Int.le_refl _, by decide, by omega, by omega, fun k' HE sm edr enum enow esince ets eds mv hk' => ?_⟩
          refine ⟨_, (hdu.tk (TK.same SD9)).tk mv.1, _, rfl, _, rfl, by first | rfl | trivial, ?_⟩
          rw [if_neg (by rw [enum, g2]; simp)]
          have shE := hk'.shelf
          have ex' : k'.sh.x = s'.x := by rw [sm.2.2.1, esh]
          have iE := shE.ins
          rw [ex'] at iE
          have hds' : ∃ mid, k'.sh.ds = (((3 - k.dr : Nat) : Int), none) :: (mid ++ [(0, none)]) := by
            obtain ⟨mid, hm⟩ := eds
            refine ⟨mid, ?_⟩
            rw [hm, esh, dsn']
            rfl
          obtain ⟨mid, hmid⟩ := hds'
          have hDk : (((3 - k.dr : Nat)) : Int) = 3 - (((3 - d : Nat)) : Int) := by rw [g1]; omega
          refine ⟨_, rfl, _, _, iE, rfl, k'.sh, _, by rw [ex'], shE, fun a2 us2 HF na2 sF eF pF => ?_⟩
          rw [hmid] at pF
          cases pF with
          | @cons v0 _ rest0 _ h0 hr0 =>
            obtain ⟨b0, rfl, hb0⟩ := h0
            have duF := ((hdu.tk (TK.same SD9)).tk mv.1).tk (TK.same sF)
            refine ⟨_, rfl, _, SqL.of eF, _, atI_nat (j := 0) rfl, _, duF, _, rfl, _, rfl, sz (by decide), fun q1 nq1 => ?_⟩
            have sq1 := L2.Same.new (o := .tup [V.int (3 - (((3 - d : Nat)) : Int)), V.non]) nq1
            refine eqStk (n := 3 - (((3 - d : Nat)) : Int)) (by rw [hDk] at hb0; exact hb0.tk (TK.same sq1)) (SqT.of upd_same) ⟨_, rfl, ?_⟩
            rw [if_pos rfl]
            have shG := shE.same (sF.trans sq1)
            refine ⟨_, rfl, _, _, (sF.trans sq1) _ _ iE, rfl, k'.sh, _, by rw [ex'], shG, fun a3 us3 HG na3 sG eG pG => ?_⟩
            rw [hmid] at pG
            obtain ⟨xs3, x3, rfl, b3, rfl, hb3⟩ := paired_last (ys := (((3 - k.dr : Nat) : Int), none) :: mid) pG
            refine ⟨_, rfl, _, SqL.of eG, _, atI_last _ _, sz (by decide), fun q2 nq2 => ?_⟩
            have sq2 := L2.Same.new (o := .tup [V.int 0, V.non]) nq2
            exact eqStk (n := 0) (hb3.tk (TK.same sq2)) (SqT.of upd_same) (q _)
        · rw [if_neg (by simpa using hq)]
          have hBR : RdC (fs.map Frm.name) (wdF fs) B none := by
            rcases hB with h | h
            · exact absurd (by rw [h]) hq
            · exact h.1
          have SX : Same H3 HD := SD
          have hdu : SqT K HD du [V.ref u1, V.int (d : Int), V.int c.num] := by rw [nc]; exact SqT.of eD
          have saX := sa'.same sD
          have hku : SqT K HD u1 [.int c.turn, .int c.since, .ref t1] := x3.tk (TK.same (s3.trans SX))
          have hkt : IsKn K HD t1 (fs.map Frm.name) c.tb (fun _ => True) := x4.mv (TK.same (s3.trans SX)) (fun u e => (s3.trans SX) _ _ e) (fun b u _ e => (s3.trans SX) _ _ e) (fun _ _ _ _ => trivial)
          obtain ⟨rA, rB, oA, oB, hrA, hrB, rdA, rdB, hnew⟩ : ∃ rA rB oA oB, s'.ts 1 = List.map jn rA ∧ s'.ts 2 = List.map jn rB ∧ RdC (fs.map Frm.name) (wdF fs) rA oA ∧ RdC (fs.map Frm.name) (wdF fs) rB oB ∧ newest oA oB = some (d, c) := by
            rcases hd12 with h | h
            · rw [h] at tD tE
              exact ⟨_, _, some c, none, tD, tE, .good c (gc30 gcc), hBR, by rw [h]; rfl⟩
            · rw [h] at tD tE
              exact ⟨_, _, none, some c, tE, tD, hBR, .good c (gc30 gcc), by rw [h]; rfl⟩
          have gcr := gcc
          have hdk : d = 1 ∨ d = 2 := hd12
          have hcn : c.num ≤ 3 := by omega
          have hct := tc
          intro kx kdx nk nkd hne2
          have tm9 : Same HD (upd (upd HD kdx (.own kx)) kx (.ins (He.ga K "Keeper") kdx [])) := (L2.Same.new nkd).trans (L2.Same.new (by rw [upd_ne (fun h => hne2 h.symm)]; exact nk))
          have SX9 := SX.trans tm9
          have hus9 : Paired (IsFrm K (upd (upd HD kdx (.own kx)) kx (.ins (He.ga K "Keeper") kdx []))) us fs := pairF_tk hus (TK.same (S23.trans SX9))
          refine ⟨kx, kdx, s', _, l, us, fs, wdF fs, 28, rA, rB, oA, oB, rfl, upd_same, SX9 _ _ (S23 _ _ e1), hus9, hfs, fun f hf => wdF_of hfs.2.1 hf, (saX.same tm9).mono (Nat.le_refl _), by omega, t0', hrA, hrB, rdA, rdB, by decide, fun d0 c0 h0 => ?_, fun k H9 ek esh efs hbeg tk9 kx9 kmut hk => ⟨rfl, ?_⟩⟩
          · rw [hnew] at h0
            cases h0
            exact ⟨gcr, hdk, by omega, by omega⟩
          rw [hnew] at hbeg
          obtain ⟨g1, g2, g3, g4, g5⟩ := hbeg
          have S9 : Same HD H9 := fun a u e => kx9 a u (ne_of_none e nk) (tm9 _ _ e)
          have i9 : H9 kx = some (.ins (He.ga K "Keeper") k.dx (kpF k.sh.x k.fm k.kd k.ca k.now k.since)) := by have := hk.ins; rw [ek] at this; exact this
          have t09 := hk.t0
          have n09 := hk.n0
          have kns : k.ns = fs.map Frm.name := by unfold Kp.ns; rw [efs]
          refine ⟨_, _, i9, rfl, k, 28, _, by rw [ek], hk, _, _, i9, rfl, k, 28, _, by rw [ek], hk, _, _, i9, rfl, k, 28, _, by rw [ek], hk, fun ta HA nta sA kn => ⟨sz (by decide), fun pt npt => ?_⟩⟩
          obtain ⟨HB, hEB, sB, eB⟩ := fr npt (.tup [V.int k.now, V.int k.since, V.ref ta])
          simp only [hEB]
          have SB := S9.trans (sA.trans sB)
          refine ⟨_, (hdu.tk (TK.same SB)), _, rfl, ?_⟩
          have SB9 := S9.trans (sA.trans sB)
          have hnd : (fs.map Frm.name).Nodup := hfs.2.1
          have knB : IsKn K HB ta (fs.map Frm.name) c.tb (fun _ => True) := by
            have h := kn.mv (P' := fun _ => True) (TK.same sB) (fun u e => sB _ _ e) (fun b u _ e => sB _ _ e) (fun _ _ _ _ => trivial)
            rw [kns] at h
            exact h.tbs (fun n hn => g5 n (by rw [kns]; exact hn))
          have ktB : IsKn K HB t1 (fs.map Frm.name) c.tb (fun _ => True) := hkt.mv (TK.same SB9) (fun u e => SB9 _ _ e) (fun b u _ e => SB9 _ _ e) (fun _ _ _ _ => trivial)
          have tne : ta ≠ t1 := by
            obtain ⟨kv, hkv, _⟩ := hkt
            exact fun h => by rw [h, S9 _ _ hkv] at nta; cases nta
          refine ⟨pt, u1, _, _, rfl, rfl, SqT.of eB, hku.tk (TK.same SB9), .cons (by rw [g3]; exact sameInt _) (.cons (by rw [g4]; exact sameInt _) (.cons (sameKn hnd tne knB ktB) .nil)), _, rfl, ?_⟩
          rw [if_neg (by decide)]
          have hkB := (hk.same sA).same sB
          have shB := hkB.shelf
          rw [esh] at shB
          refine ⟨_, rfl, _, _, shB.ins, rfl, s', _, rfl, shB, fun a1 us1 HC na1 sC eC pC => ⟨Nat.zero_le _, fun b1 nb1 => ?_⟩⟩
          rw [dsn'] at pC
          cases pC
          have sb1 := L2.Same.new (o := .lst []) nb1
          refine neNil (sb1 _ _ eC) upd_same ⟨_, rfl, ?_⟩
          rw [if_neg (by decide)]
          have hkD := (hkB.same sC).same sb1
          have SD9 := SB9.trans (sC.trans sb1)
          have iD := ((sA.trans sB).trans (sC.trans sb1)) _ _ i9
          refine ⟨_, _, iD, rfl, _, _, iD, rfl, k, 28, _, by rw [ek], hkD, ?_⟩
          refine ⟨k, 28, _, k.now, by rw [ek], hkD, t09.2.1, Int.le_refl _, by decide, by omega, by omega, fun k' HE sm edr enum enow esince ets eds mv hk' => ?_⟩
          refine ⟨_, (hdu.tk (TK.same SD9)).tk mv.1, _, rfl, _, rfl, by first | rfl | trivial, ?_⟩
          rw [if_neg (by rw [enum, g2]; simp)]
          have shE := hk'.shelf
          have ex' : k'.sh.x = s'.x := by rw [sm.2.2.1, esh]
          have iE := shE.ins
          rw [ex'] at iE
          have hds' : ∃ mid, k'.sh.ds = (((3 - k.dr : Nat) : Int), none) :: (mid ++ [(0, none)]) := by
            obtain ⟨mid, hm⟩ := eds
            refine ⟨mid, ?_⟩
            rw [hm, esh, dsn']
            rfl
          obtain ⟨mid, hmid⟩ := hds'
          have hDk : (((3 - k.dr : Nat)) : Int) = 3 - (d : Int) := by rw [g1]; omega
          refine ⟨_, rfl, _, _, iE, rfl, k'.sh, _, by rw [ex'], shE, fun a2 us2 HF na2 sF eF pF => ?_⟩
          rw [hmid] at pF
          cases pF with
          | @cons v0 _ rest0 _ h0 hr0 =>
            obtain ⟨b0, rfl, hb0⟩ := h0
            have duF := ((hdu.tk (TK.same SD9)).tk mv.1).tk (TK.same sF)
            refine ⟨_, rfl, _, SqL.of eF, _, atI_nat (j := 0) rfl, _, duF, _, rfl, _, rfl, sz (by decide), fun q1 nq1 => ?_⟩
            have sq1 := L2.Same.new (o := .tup [V.int (3 - (d : Int)), V.non]) nq1
            refine eqStk (n := 3 - (d : Int)) (by rw [hDk] at hb0; exact hb0.tk (TK.same sq1)) (SqT.of upd_same) ⟨_, rfl, ?_⟩
            rw [if_pos rfl]
            have shG := shE.same (sF.trans sq1)
            refine ⟨_, rfl, _, _, (sF.trans sq1) _ _ iE, rfl, k'.sh, _, by rw [ex'], shG, fun a3 us3 HG na3 sG eG pG => ?_⟩
            rw [hmid] at pG
            obtain ⟨xs3, x3, rfl, b3, rfl, hb3⟩ := paired_last (ys := (((3 - k.dr : Nat) : Int), none) :: mid) pG
            refine ⟨_, rfl, _, SqL.of eG, _, atI_last _ _, sz (by decide), fun q2 nq2 => ?_⟩
            have sq2 := L2.Same.new (o := .tup [V.int 0, V.non]) nq2
            exact eqStk (n := 0) (hb3.tk (TK.same sq2)) (SqT.of upd_same) (q _)
end
end HW
set_option Elab.async false
set_option linter.all false
set_option maxRecDepth 100000
set_option maxHeartbeats 4000000
namespace HW
open PySem PySem.Spec PyProof.Rows L2
section
variable {P : Program} {w : World} {K : PySem.W.Frag} {mg : Str → Option Value} {base : Heap}
theorem law_all (T : Top K mg) {fd : FuncData} (F : FunD K "law" "law" (defArgs s_law) (defBody s_law) (defScope s_law) [] [] (He.ga K "law") fd) : FnOk P w K mg base CX0 11 (He.ga K "law") fd ["script"] (sp_law K) := by
  have xG_truth_by := F_truth_by (P := P) (w := w) (base := base) T 
  have xG_is_turn := F_is_turn (P := P) (w := w) (base := base) T 
  have xG_is_reach := F_is_reach (P := P) (w := w) (base := base) T 
  have xG_stretch_of := F_stretch_of (P := P) (w := w) (base := base) T 
  have xG_edges_marked := F_edges_marked (P := P) (w := w) (base := base) T 
  have xG_blend := F_blend (P := P) (w := w) (base := base) T xG_edges_marked xG_truth_by
  have xG_reach_at := F_reach_at (P := P) (w := w) (base := base) T 
  have xG_plot_of := F_plot_of (P := P) (w := w) (base := base) T 
  have xG_is_step := F_is_step (P := P) (w := w) (base := base) T xG_is_turn xG_is_reach
  have xG_is_plot := F_is_plot (P := P) (w := w) (base := base) T xG_is_reach xG_is_step
  have xG_from_plot := F_from_plot (P := P) (w := w) (base := base) T xG_reach_at xG_plot_of
  have xG_lift := F_lift (P := P) (w := w) (base := base) T xG_from_plot
  have xG_table_of := F_table_of (P := P) (w := w) (base := base) T 
  have xG_lift_table := F_lift_table (P := P) (w := w) (base := base) T xG_lift xG_table_of
  have xG_with_row := F_with_row (P := P) (w := w) (base := base) T xG_blend xG_reach_at xG_plot_of
  have xG_told_on := F_told_on (P := P) (w := w) (base := base) T xG_stretch_of xG_blend xG_reach_at xG_plot_of xG_with_row xG_table_of
  have xG_shape_named := F_shape_named (P := P) (w := w) (base := base) T 
  have xG_check_telling := F_check_telling (P := P) (w := w) (base := base) T xG_shape_named
  have xG_write_number := F_write_number (P := P) (w := w) (base := base) T 
  have xG_write_end := F_write_end (P := P) (w := w) (base := base) T xG_write_number
  have xG_write_telling := F_write_telling (P := P) (w := w) (base := base) T xG_write_number xG_write_end
  have xG_reach_words := F_reach_words (P := P) (w := w) (base := base) T xG_write_number
  have xG_plot_words := F_plot_words (P := P) (w := w) (base := base) T xG_write_number xG_reach_words
  have xG_write_entry := F_write_entry (P := P) (w := w) (base := base) T xG_write_number xG_plot_words
  have xG_write_first := F_write_first (P := P) (w := w) (base := base) T xG_write_number
  have xG_write_last := F_write_last (P := P) (w := w) (base := base) T xG_write_number
  have xG_read_number := F_read_number (P := P) (w := w) (base := base) T 
  have xG_words_of := F_words_of (P := P) (w := w) (base := base) T 
  have xG_word_at := F_word_at (P := P) (w := w) (base := base) T 
  have xG_number_at := F_number_at (P := P) (w := w) (base := base) T xG_read_number xG_word_at
  have xG_name_at := F_name_at (P := P) (w := w) (base := base) T xG_word_at
  have xG_so_many_at := F_so_many_at (P := P) (w := w) (base := base) T xG_read_number
  have xG_reach_from := F_reach_from (P := P) (w := w) (base := base) T xG_word_at xG_number_at xG_so_many_at
  have xG_plot_from := F_plot_from (P := P) (w := w) (base := base) T xG_number_at xG_reach_from
  have xG_numbers_in := F_numbers_in (P := P) (w := w) (base := base) T xG_words_of xG_so_many_at
  have xG_read_first := F_read_first (P := P) (w := w) (base := base) T xG_numbers_in
  have xG_read_last := F_read_last (P := P) (w := w) (base := base) T xG_numbers_in
  have xG_read_entry := F_read_entry (P := P) (w := w) (base := base) T xG_words_of xG_name_at xG_number_at xG_so_many_at xG_plot_from xG_is_plot
  have xG_card_in := F_card_in (P := P) (w := w) (base := base) T xG_read_first xG_read_last xG_read_entry
  have xG_Shelf := M_Shelf_init (P := P) (w := w) (base := base) T 
  have xM_put := M_Shelf_put (P := P) (w := w) (base := base) T 
  have xM_clear := M_Shelf_clear (P := P) (w := w) (base := base) T 
  have xM_rows := M_Shelf_rows (P := P) (w := w) (base := base) T 
  have xM_strokes := M_Shelf_strokes (P := P) (w := w) (base := base) T 
  have xM_fallen := M_Shelf_fallen (P := P) (w := w) (base := base) T xG_Shelf
  have xG_newest_card := F_newest_card (P := P) (w := w) (base := base) T xG_card_in xM_rows
  have xM_now := M_Keeper_now (P := P) (w := w) (base := base) T 
  have xM_since := M_Keeper_since (P := P) (w := w) (base := base) T 
  have xM_keys_of := M_Keeper_keys_of (P := P) (w := w) (base := base) T 
  have xM_tables := M_Keeper_tables (P := P) (w := w) (base := base) T 
  have xM_take_in := M_Keeper_take_in (P := P) (w := w) (base := base) T xG_told_on xM_keys_of
  have xM_said := M_Keeper_said (P := P) (w := w) (base := base) T xG_check_telling xG_write_telling xM_put xM_take_in
  have xM_tell := M_Keeper_tell (P := P) (w := w) (base := base) T xM_said
  have xM_strike := M_Keeper_strike (P := P) (w := w) (base := base) T xM_said
  have xM_card := M_Keeper_card (P := P) (w := w) (base := base) T xG_lift_table xG_write_first xG_write_last xG_write_entry xM_put xM_clear
  have xG_Keeper := M_Keeper_init (P := P) (w := w) (base := base) T xG_newest_card xM_rows
  have xG_law_draw := F_law_draw (P := P) (w := w) (base := base) T 
  have xG_law_far := F_law_far (P := P) (w := w) (base := base) T xG_law_draw
  have xG_law_name := F_law_name (P := P) (w := w) (base := base) T xG_law_draw
  have xG_law_shapes := F_law_shapes (P := P) (w := w) (base := base) T xG_law_draw xG_law_name
  have xG_law_stretch := F_law_stretch (P := P) (w := w) (base := base) T xG_law_draw xG_law_far
  have xG_law_deed := F_law_deed (P := P) (w := w) (base := base) T xG_law_draw xG_law_far xG_law_stretch
  have xG_law_done := F_law_done (P := P) (w := w) (base := base) T xM_tell xM_strike
  have xG_law_kept := F_law_kept (P := P) (w := w) (base := base) T xG_law_draw xG_law_deed xG_law_done xG_Shelf xG_Keeper xM_since xM_now xM_card xM_tables xM_rows
  have xG_law_bent := F_law_bent (P := P) (w := w) (base := base) T xG_law_draw
  exact ok_law T F xG_law_draw xG_law_shapes xG_law_kept xG_law_bent xG_Shelf xG_Keeper xM_put xM_fallen xM_strokes xM_since xM_now xM_card xM_tables
end
theorem facts {P : Program} {w : World} {K : PySem.W.Frag} {h : Heap} {mg : Str → Option Value} {f : Addr} (X : K.In h) (G : h.Ns mainGlobals mg) (hfa : mg ("law" : Str) = some (.ref f)) (c : He.SaysD fa fn K) (ns : noSpots K = true) :
    ∃ fd : FuncData, (∀ (s : Shared) (v : Value), BindsTo s fd ⟨[v], []⟩ [("script", v)]) ∧ ∀ base : Heap, K.In base → base.Ns mainGlobals mg → FnOk P w K mg base CX0 11 f fd ["script"] (sp_law K) := by
  have T : Top K mg := ⟨c, ns, h, X, G⟩
  obtain ⟨fd, F⟩ := T.D_law
  have e := hfa.symm.trans T.g_law
  cases e
  have b := FunD.bindsA (ps := ["script"]) F fun _ _ _ _ _ _ us hl => match us, hl with | [_], _ => rfl
  exact ⟨fd, fun s v => b s [v] rfl, fun base _ _ => law_all T F⟩
end HW
open PySem PySem.W PySem.Calls PyProof.Rows
theorem PySem.Challenge.cw_heldwhen_k58_bent_cards_holds : PySem.Challenge.rw_heldwhen_k58_bent_cards.Holds := by
  w_on; o_law
  refine HandSHeadRun.head_any (r := OpenLaw.row PySem.Challenge.rw_heldwhen_k58_bent_cards) (q := view (OpenLaw.row PySem.Challenge.rw_heldwhen_k58_bent_cards).prog [87]) (H := HW.hk) (ob := HW.ob) (M := 20000) (loose := HW.nms) (d := HandSHeadRun.topDef (OpenLaw.row PySem.Challenge.rw_heldwhen_k58_bent_cards).prog 87) (kwd := []) HW.ob_eq
    (by kernel_rfl) (fun s => by kernel_rfl) HW.run (by kernel_rfl) (by kernel_rfl) (by kernel_rfl) (by rfl) (by first | assumption | decide +kernel) (by decide +kernel) ⟨rfl, rfl, rfl, rfl, rfl, by decide +kernel⟩ ?hw ?hc
  case hw => w_witness2
  case hc =>
    refine L2.walk_ofE (l := PySem.Challenge.rw_heldwhen_k58_bent_cards) (n := 63) (k := 11) (x := "script") (CX := L2.CX0) rfl (by decide) (by kernel_rfl) ⟨rfl, by decide, by decide⟩ ?F (fun _ _ _ _ z => z)
    intro w mg fa h Y G hmg0
    obtain ⟨K, KX, c, ns⟩ := Y
    have hmg : mg ("law" : PySem.Str) = some (.ref fa) := by
      have e : (HandSHeadRun.topDef (OpenLaw.row PySem.Challenge.rw_heldwhen_k58_bent_cards).prog 87).name = ("law" : PySem.Str) := by kernel_rfl
      rw [← e]
      exact hmg0
    obtain ⟨fd, hb, hF⟩ := HW.facts (P := (PySem.Challenge.rw_heldwhen_k58_bent_cards).prog) (w := w) KX G hmg c ns
    exact ⟨K, fd, HW.sp_law K, KX, hb, fun H a ns hl _ hS => ⟨a, ns, rfl, hS, hl, fun _ => rfl⟩, hF⟩
