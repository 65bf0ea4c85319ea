import PyProof.Rows.All
import Wide.All
import OpenK.AllK
import Wide.FinOn
import HandS.ForMost
import HandS.Defaults
import HandS.HeadHook1
import HandS.HeadHook2
import PySem.Challenge.RW_evenlifts_k03_whole_parts_neighbours_ben
import KE.DataMinMax
import KE.KRevSl
import HandS.Style
import HandS.TupLe
import HandS.TupAny
import PyProof.SumWalkG
import HandS.SetFor
import HandS.TupSets
import HandS.Strs
import PyProof.SeqIndex
import KE.KExcInit
import KE.KIsAll
import HandS.ForExc
import HandS.ExcIs
import HandS.Walk
import HandS.Zip
import HandS.Conv
import HandS.IsInst
import HandS.Flow
import HandS.Keys
import KE.KExcIs
import KE.KStateDown
import HandS.Head0
import HandS.Head1
import HandS.Head2
import HandS.HeadEnd
import HandS.HeadHook3
import HandS.HeadHook4
set_option Elab.async false
set_option linter.all false
set_option maxRecDepth 100000
set_option maxHeartbeats 4000000
/-! The text by places, the names by slots. Printed by gen_text.py. -/
namespace K3
open PySem PySem.Spec PyProof.Rows L2
def top (i : Nat) : Stmt := PySem.Challenge.pw_evenlifts_k03_whole_parts_neighbours_ben.main.body.getD i (.Pass ⟨0, 0, 0, 0⟩)
abbrev s_p_tupled : Stmt := top 4
abbrev n_p_tupled : List Str := ["thing", "part"]
theorem sc_p_tupled : FnScope n_p_tupled ["thing"] (defScope s_p_tupled) := ⟨rfl, rfl, rfl, by decide +kernel, rfl, by decide +kernel, by decide +kernel⟩
def d_p_tupled : He.DefD := ⟨("tupled", none), "tupled", "tupled", defArgs s_p_tupled, defBody s_p_tupled, defScope s_p_tupled, [], []⟩
abbrev F_p_tupled (K : PySem.W.Frag) (f : Addr) (fd : FuncData) : Prop := FunD K "tupled" "tupled" (defArgs s_p_tupled) (defBody s_p_tupled) (defScope s_p_tupled) [] [] f fd
abbrev s_p_is_number : Stmt := top 5
abbrev n_p_is_number : List Str := ["thing"]
theorem sc_p_is_number : FnScope n_p_is_number ["thing"] (defScope s_p_is_number) := ⟨rfl, rfl, rfl, by decide +kernel, rfl, by decide +kernel, by decide +kernel⟩
def d_p_is_number : He.DefD := ⟨("is_number", none), "is_number", "is_number", defArgs s_p_is_number, defBody s_p_is_number, defScope s_p_is_number, [], []⟩
abbrev F_p_is_number (K : PySem.W.Frag) (f : Addr) (fd : FuncData) : Prop := FunD K "is_number" "is_number" (defArgs s_p_is_number) (defBody s_p_is_number) (defScope s_p_is_number) [] [] f fd
abbrev s_p_is_count : Stmt := top 6
abbrev n_p_is_count : List Str := ["thing"]
theorem sc_p_is_count : FnScope n_p_is_count ["thing"] (defScope s_p_is_count) := ⟨rfl, rfl, rfl, by decide +kernel, rfl, by decide +kernel, by decide +kernel⟩
def d_p_is_count : He.DefD := ⟨("is_count", none), "is_count", "is_count", defArgs s_p_is_count, defBody s_p_is_count, defScope s_p_is_count, [], []⟩
abbrev F_p_is_count (K : PySem.W.Frag) (f : Addr) (fd : FuncData) : Prop := FunD K "is_count" "is_count" (defArgs s_p_is_count) (defBody s_p_is_count) (defScope s_p_is_count) [] [] f fd
abbrev s_p_is_below : Stmt := top 7
abbrev n_p_is_below : List Str := ["thing", "many"]
theorem sc_p_is_below : FnScope n_p_is_below ["thing", "many"] (defScope s_p_is_below) := ⟨rfl, rfl, rfl, by decide +kernel, rfl, by decide +kernel, by decide +kernel⟩
def d_p_is_below : He.DefD := ⟨("is_below", none), "is_below", "is_below", defArgs s_p_is_below, defBody s_p_is_below, defScope s_p_is_below, [], []⟩
abbrev F_p_is_below (K : PySem.W.Frag) (f : Addr) (fd : FuncData) : Prop := FunD K "is_below" "is_below" (defArgs s_p_is_below) (defBody s_p_is_below) (defScope s_p_is_below) [] [] f fd
abbrev s_p_is_tuple_of : Stmt := top 8
abbrev n_p_is_tuple_of : List Str := ["thing", "size"]
theorem sc_p_is_tuple_of : FnScope n_p_is_tuple_of ["thing", "size"] (defScope s_p_is_tuple_of) := ⟨rfl, rfl, rfl, by decide +kernel, rfl, by decide +kernel, by decide +kernel⟩
def d_p_is_tuple_of : He.DefD := ⟨("is_tuple_of", none), "is_tuple_of", "is_tuple_of", defArgs s_p_is_tuple_of, defBody s_p_is_tuple_of, defScope s_p_is_tuple_of, [], []⟩
abbrev F_p_is_tuple_of (K : PySem.W.Frag) (f : Addr) (fd : FuncData) : Prop := FunD K "is_tuple_of" "is_tuple_of" (defArgs s_p_is_tuple_of) (defBody s_p_is_tuple_of) (defScope s_p_is_tuple_of) [] [] f fd
abbrev s_p_ascends : Stmt := top 9
abbrev n_p_ascends : List Str := ["thing", "near", "far"]
theorem sc_p_ascends : FnScope n_p_ascends ["thing"] (defScope s_p_ascends) := ⟨rfl, rfl, rfl, by decide +kernel, rfl, by decide +kernel, by decide +kernel⟩
def d_p_ascends : He.DefD := ⟨("ascends", none), "ascends", "ascends", defArgs s_p_ascends, defBody s_p_ascends, defScope s_p_ascends, [], []⟩
abbrev F_p_ascends (K : PySem.W.Frag) (f : Addr) (fd : FuncData) : Prop := FunD K "ascends" "ascends" (defArgs s_p_ascends) (defBody s_p_ascends) (defScope s_p_ascends) [] [] f fd
abbrev s_p_set_of : Stmt := top 10
abbrev n_p_set_of : List Str := ["things"]
theorem sc_p_set_of : FnScope n_p_set_of ["things"] (defScope s_p_set_of) := ⟨rfl, rfl, rfl, by decide +kernel, rfl, by decide +kernel, by decide +kernel⟩
def d_p_set_of : He.DefD := ⟨("set_of", none), "set_of", "set_of", defArgs s_p_set_of, defBody s_p_set_of, defScope s_p_set_of, [], []⟩
abbrev F_p_set_of (K : PySem.W.Frag) (f : Addr) (fd : FuncData) : Prop := FunD K "set_of" "set_of" (defArgs s_p_set_of) (defBody s_p_set_of) (defScope s_p_set_of) [] [] f fd
abbrev s_p_is_beam_among : Stmt := top 12
abbrev n_p_is_beam_among : List Str := ["thing", "many"]
theorem sc_p_is_beam_among : FnScope n_p_is_beam_among ["thing", "many"] (defScope s_p_is_beam_among) := ⟨rfl, rfl, rfl, by decide +kernel, rfl, by decide +kernel, by decide +kernel⟩
def d_p_is_beam_among : He.DefD := ⟨("is_beam_among", none), "is_beam_among", "is_beam_among", defArgs s_p_is_beam_among, defBody s_p_is_beam_among, defScope s_p_is_beam_among, [], []⟩
abbrev F_p_is_beam_among (K : PySem.W.Frag) (f : Addr) (fd : FuncData) : Prop := FunD K "is_beam_among" "is_beam_among" (defArgs s_p_is_beam_among) (defBody s_p_is_beam_among) (defScope s_p_is_beam_among) [] [] f fd
abbrev s_p_jacks_of : Stmt := top 13
abbrev n_p_jacks_of : List Str := ["beams", "found", "beam"]
theorem sc_p_jacks_of : FnScope n_p_jacks_of ["beams"] (defScope s_p_jacks_of) := ⟨rfl, rfl, rfl, by decide +kernel, rfl, by decide +kernel, by decide +kernel⟩
def d_p_jacks_of : He.DefD := ⟨("jacks_of", none), "jacks_of", "jacks_of", defArgs s_p_jacks_of, defBody s_p_jacks_of, defScope s_p_jacks_of, [], []⟩
abbrev F_p_jacks_of (K : PySem.W.Frag) (f : Addr) (fd : FuncData) : Prop := FunD K "jacks_of" "jacks_of" (defArgs s_p_jacks_of) (defBody s_p_jacks_of) (defScope s_p_jacks_of) [] [] f fd
abbrev s_p_is_frame : Stmt := top 14
abbrev n_p_is_frame : List Str := ["thing", "many", "beams", "beam"]
theorem sc_p_is_frame : FnScope n_p_is_frame ["thing"] (defScope s_p_is_frame) := ⟨rfl, rfl, rfl, by decide +kernel, rfl, by decide +kernel, by decide +kernel⟩
def d_p_is_frame : He.DefD := ⟨("is_frame", none), "is_frame", "is_frame", defArgs s_p_is_frame, defBody s_p_is_frame, defScope s_p_is_frame, [], []⟩
abbrev F_p_is_frame (K : PySem.W.Frag) (f : Addr) (fd : FuncData) : Prop := FunD K "is_frame" "is_frame" (defArgs s_p_is_frame) (defBody s_p_is_frame) (defScope s_p_is_frame) [] [] f fd
abbrev s_p_sure_frame : Stmt := top 15
abbrev n_p_sure_frame : List Str := ["frame", "own"]
theorem sc_p_sure_frame : FnScope n_p_sure_frame ["frame"] (defScope s_p_sure_frame) := ⟨rfl, rfl, rfl, by decide +kernel, rfl, by decide +kernel, by decide +kernel⟩
def d_p_sure_frame : He.DefD := ⟨("sure_frame", none), "sure_frame", "sure_frame", defArgs s_p_sure_frame, defBody s_p_sure_frame, defScope s_p_sure_frame, [], []⟩
abbrev F_p_sure_frame (K : PySem.W.Frag) (f : Addr) (fd : FuncData) : Prop := FunD K "sure_frame" "sure_frame" (defArgs s_p_sure_frame) (defBody s_p_sure_frame) (defScope s_p_sure_frame) [] [] f fd
abbrev s_p_sure_jack : Stmt := top 16
abbrev n_p_sure_jack : List Str := ["frame", "jack"]
theorem sc_p_sure_jack : FnScope n_p_sure_jack ["frame", "jack"] (defScope s_p_sure_jack) := ⟨rfl, rfl, rfl, by decide +kernel, rfl, by decide +kernel, by decide +kernel⟩
def d_p_sure_jack : He.DefD := ⟨("sure_jack", none), "sure_jack", "sure_jack", defArgs s_p_sure_jack, defBody s_p_sure_jack, defScope s_p_sure_jack, [], []⟩
abbrev F_p_sure_jack (K : PySem.W.Frag) (f : Addr) (fd : FuncData) : Prop := FunD K "sure_jack" "sure_jack" (defArgs s_p_sure_jack) (defBody s_p_sure_jack) (defScope s_p_sure_jack) [] [] f fd
abbrev s_p_near_in : Stmt := top 17
abbrev n_p_near_in : List Str := ["frame", "jack", "beam"]
theorem sc_p_near_in : FnScope n_p_near_in ["frame", "jack"] (defScope s_p_near_in) := ⟨rfl, rfl, rfl, by decide +kernel, rfl, by decide +kernel, by decide +kernel⟩
def d_p_near_in : He.DefD := ⟨("near_in", none), "near_in", "near_in", defArgs s_p_near_in, defBody s_p_near_in, defScope s_p_near_in, [], []⟩
abbrev F_p_near_in (K : PySem.W.Frag) (f : Addr) (fd : FuncData) : Prop := FunD K "near_in" "near_in" (defArgs s_p_near_in) (defBody s_p_near_in) (defScope s_p_near_in) [] [] f fd
abbrev s_p_neighbours : Stmt := top 18
abbrev n_p_neighbours : List Str := ["frame", "jack", "own"]
theorem sc_p_neighbours : FnScope n_p_neighbours ["frame", "jack"] (defScope s_p_neighbours) := ⟨rfl, rfl, rfl, by decide +kernel, rfl, by decide +kernel, by decide +kernel⟩
def d_p_neighbours : He.DefD := ⟨("neighbours", none), "neighbours", "neighbours", defArgs s_p_neighbours, defBody s_p_neighbours, defScope s_p_neighbours, [], []⟩
abbrev F_p_neighbours (K : PySem.W.Frag) (f : Addr) (fd : FuncData) : Prop := FunD K "neighbours" "neighbours" (defArgs s_p_neighbours) (defBody s_p_neighbours) (defScope s_p_neighbours) [] [] f fd
abbrev s_p_grown_from : Stmt := top 19
abbrev n_p_grown_from : List Str := ["frame", "root", "ahead", "row", "lap", "jack", "far"]
theorem sc_p_grown_from : FnScope n_p_grown_from ["frame", "root"] (defScope s_p_grown_from) := ⟨rfl, rfl, rfl, by decide +kernel, rfl, by decide +kernel, by decide +kernel⟩
def d_p_grown_from : He.DefD := ⟨("grown_from", none), "grown_from", "grown_from", defArgs s_p_grown_from, defBody s_p_grown_from, defScope s_p_grown_from, [], []⟩
abbrev F_p_grown_from (K : PySem.W.Frag) (f : Addr) (fd : FuncData) : Prop := FunD K "grown_from" "grown_from" (defArgs s_p_grown_from) (defBody s_p_grown_from) (defScope s_p_grown_from) [] [] f fd
abbrev s_p_parts_in : Stmt := top 20
abbrev n_p_parts_in : List Str := ["frame", "found", "seen", "jack", "part"]
theorem sc_p_parts_in : FnScope n_p_parts_in ["frame"] (defScope s_p_parts_in) := ⟨rfl, rfl, rfl, by decide +kernel, rfl, by decide +kernel, by decide +kernel⟩
def d_p_parts_in : He.DefD := ⟨("parts_in", none), "parts_in", "parts_in", defArgs s_p_parts_in, defBody s_p_parts_in, defScope s_p_parts_in, [], []⟩
abbrev F_p_parts_in (K : PySem.W.Frag) (f : Addr) (fd : FuncData) : Prop := FunD K "parts_in" "parts_in" (defArgs s_p_parts_in) (defBody s_p_parts_in) (defScope s_p_parts_in) [] [] f fd
abbrev s_p_parts : Stmt := top 21
abbrev n_p_parts : List Str := ["frame"]
theorem sc_p_parts : FnScope n_p_parts ["frame"] (defScope s_p_parts) := ⟨rfl, rfl, rfl, by decide +kernel, rfl, by decide +kernel, by decide +kernel⟩
def d_p_parts : He.DefD := ⟨("parts", none), "parts", "parts", defArgs s_p_parts, defBody s_p_parts, defScope s_p_parts, [], []⟩
abbrev F_p_parts (K : PySem.W.Frag) (f : Addr) (fd : FuncData) : Prop := FunD K "parts" "parts" (defArgs s_p_parts) (defBody s_p_parts) (defScope s_p_parts) [] [] f fd
abbrev s_p_part_of : Stmt := top 22
abbrev n_p_part_of : List Str := ["frame", "jack", "own"]
theorem sc_p_part_of : FnScope n_p_part_of ["frame", "jack"] (defScope s_p_part_of) := ⟨rfl, rfl, rfl, by decide +kernel, rfl, by decide +kernel, by decide +kernel⟩
def d_p_part_of : He.DefD := ⟨("part_of", none), "part_of", "part_of", defArgs s_p_part_of, defBody s_p_part_of, defScope s_p_part_of, [], []⟩
abbrev F_p_part_of (K : PySem.W.Frag) (f : Addr) (fd : FuncData) : Prop := FunD K "part_of" "part_of" (defArgs s_p_part_of) (defBody s_p_part_of) (defScope s_p_part_of) [] [] f fd
abbrev s_p_put_apart : Stmt := top 23
abbrev n_p_put_apart : List Str := ["one", "other", "near", "far", "beam"]
theorem sc_p_put_apart : FnScope n_p_put_apart ["one", "other"] (defScope s_p_put_apart) := ⟨rfl, rfl, rfl, by decide +kernel, rfl, by decide +kernel, by decide +kernel⟩
def d_p_put_apart : He.DefD := ⟨("put_apart", none), "put_apart", "put_apart", defArgs s_p_put_apart, defBody s_p_put_apart, defScope s_p_put_apart, [], []⟩
abbrev F_p_put_apart (K : PySem.W.Frag) (f : Addr) (fd : FuncData) : Prop := FunD K "put_apart" "put_apart" (defArgs s_p_put_apart) (defBody s_p_put_apart) (defScope s_p_put_apart) [] [] f fd
abbrev s_box : Stmt := top 25
abbrev n_box : List Str := ["_law_script", "_law_k", "_law_cell_so"]
theorem sc_box : FnScope n_box ["_law_script", "_law_k"] (defScope s_box) := ⟨rfl, rfl, rfl, by decide +kernel, rfl, by decide +kernel, by decide +kernel⟩
def d_box : He.DefD := ⟨("_law_box", none), "_law_box", "_law_box", defArgs s_box, defBody s_box, defScope s_box, [], []⟩
abbrev F_box (K : PySem.W.Frag) (f : Addr) (fd : FuncData) : Prop := FunD K "_law_box" "_law_box" (defArgs s_box) (defBody s_box) (defScope s_box) [] [] f fd
abbrev s_take : Stmt := top 26
abbrev n_take : List Str := ["_law_tin", "_law_below_so", "_law_draw_so", "_law_once_so", "_law_wide_so", "_law_twice_so"]
theorem sc_take : FnScope n_take ["_law_tin", "_law_below_so"] (defScope s_take) := ⟨rfl, rfl, rfl, by decide +kernel, rfl, by decide +kernel, by decide +kernel⟩
def d_take : He.DefD := ⟨("_law_take", none), "_law_take", "_law_take", defArgs s_take, defBody s_take, defScope s_take, [], []⟩
abbrev F_take (K : PySem.W.Frag) (f : Addr) (fd : FuncData) : Prop := FunD K "_law_take" "_law_take" (defArgs s_take) (defBody s_take) (defScope s_take) [] [] f fd
abbrev s_cells : Stmt := top 27
abbrev n_cells : List Str := ["_law_script", "_law_most_so", "_law_cells_so", "_law_k", "_law_cell_so", "_law_at_so"]
theorem sc_cells : FnScope n_cells ["_law_script", "_law_most_so"] (defScope s_cells) := ⟨rfl, rfl, rfl, by decide +kernel, rfl, by decide +kernel, by decide +kernel⟩
def d_cells : He.DefD := ⟨("_law_cells", none), "_law_cells", "_law_cells", defArgs s_cells, defBody s_cells, defScope s_cells, [], []⟩
abbrev F_cells (K : PySem.W.Frag) (f : Addr) (fd : FuncData) : Prop := FunD K "_law_cells" "_law_cells" (defArgs s_cells) (defBody s_cells) (defScope s_cells) [] [] f fd
abbrev s_of : Stmt := top 28
abbrev n_of : List Str := ["_law_tin", "_law_goods_so"]
theorem sc_of : FnScope n_of ["_law_tin", "_law_goods_so"] (defScope s_of) := ⟨rfl, rfl, rfl, by decide +kernel, rfl, by decide +kernel, by decide +kernel⟩
def d_of : He.DefD := ⟨("_law_of", none), "_law_of", "_law_of", defArgs s_of, defBody s_of, defScope s_of, [], []⟩
abbrev F_of (K : PySem.W.Frag) (f : Addr) (fd : FuncData) : Prop := FunD K "_law_of" "_law_of" (defArgs s_of) (defBody s_of) (defScope s_of) [] [] f fd
abbrev s_pick : Stmt := top 29
abbrev n_pick : List Str := ["_law_tin", "_law_goods_so", "_law_count_so", "_law_pool_so", "_law_found", "_law_lap"]
theorem sc_pick : FnScope n_pick ["_law_tin", "_law_goods_so", "_law_count_so"] (defScope s_pick) := ⟨rfl, rfl, rfl, by decide +kernel, rfl, by decide +kernel, by decide +kernel⟩
def d_pick : He.DefD := ⟨("_law_pick", none), "_law_pick", "_law_pick", defArgs s_pick, defBody s_pick, defScope s_pick, [], []⟩
abbrev F_pick (K : PySem.W.Frag) (f : Addr) (fd : FuncData) : Prop := FunD K "_law_pick" "_law_pick" (defArgs s_pick) (defBody s_pick) (defScope s_pick) [] [] f fd
abbrev s_lists : Stmt := top 30
abbrev n_lists : List Str := ["_law_matter", "_law_bit"]
theorem sc_lists : FnScope n_lists ["_law_matter"] (defScope s_lists) := ⟨rfl, rfl, rfl, by decide +kernel, rfl, by decide +kernel, by decide +kernel⟩
def d_lists : He.DefD := ⟨("_law_lists", none), "_law_lists", "_law_lists", defArgs s_lists, defBody s_lists, defScope s_lists, [], []⟩
abbrev F_lists (K : PySem.W.Frag) (f : Addr) (fd : FuncData) : Prop := FunD K "_law_lists" "_law_lists" (defArgs s_lists) (defBody s_lists) (defScope s_lists) [] [] f fd
abbrev s_same : Stmt := top 31
abbrev n_same : List Str := ["_law_got", "_law_due", "_law_mine", "_law_its"]
theorem sc_same : FnScope n_same ["_law_got", "_law_due"] (defScope s_same) := ⟨rfl, rfl, rfl, by decide +kernel, rfl, by decide +kernel, by decide +kernel⟩
def d_same : He.DefD := ⟨("_law_same", none), "_law_same", "_law_same", defArgs s_same, defBody s_same, defScope s_same, [], []⟩
abbrev F_same (K : PySem.W.Frag) (f : Addr) (fd : FuncData) : Prop := FunD K "_law_same" "_law_same" (defArgs s_same) (defBody s_same) (defScope s_same) [] [] f fd
abbrev s_is_number : Stmt := top 32
abbrev n_is_number : List Str := ["_law_own"]
theorem sc_is_number : FnScope n_is_number ["_law_own"] (defScope s_is_number) := ⟨rfl, rfl, rfl, by decide +kernel, rfl, by decide +kernel, by decide +kernel⟩
def d_is_number : He.DefD := ⟨("_law_is_number", none), "_law_is_number", "_law_is_number", defArgs s_is_number, defBody s_is_number, defScope s_is_number, [], []⟩
abbrev F_is_number (K : PySem.W.Frag) (f : Addr) (fd : FuncData) : Prop := FunD K "_law_is_number" "_law_is_number" (defArgs s_is_number) (defBody s_is_number) (defScope s_is_number) [] [] f fd
abbrev s_put : Stmt := top 33
abbrev n_put : List Str := ["_law_row_so", "_law_place_so", "_law_bit_so"]
theorem sc_put : FnScope n_put ["_law_row_so", "_law_place_so", "_law_bit_so"] (defScope s_put) := ⟨rfl, rfl, rfl, by decide +kernel, rfl, by decide +kernel, by decide +kernel⟩
def d_put : He.DefD := ⟨("_law_put", none), "_law_put", "_law_put", defArgs s_put, defBody s_put, defScope s_put, [], []⟩
abbrev F_put (K : PySem.W.Frag) (f : Addr) (fd : FuncData) : Prop := FunD K "_law_put" "_law_put" (defArgs s_put) (defBody s_put) (defScope s_put) [] [] f fd
abbrev s_is_pair : Stmt := top 34
abbrev n_is_pair : List Str := ["_law_own"]
theorem sc_is_pair : FnScope n_is_pair ["_law_own"] (defScope s_is_pair) := ⟨rfl, rfl, rfl, by decide +kernel, rfl, by decide +kernel, by decide +kernel⟩
def d_is_pair : He.DefD := ⟨("_law_is_pair", none), "_law_is_pair", "_law_is_pair", defArgs s_is_pair, defBody s_is_pair, defScope s_is_pair, [], []⟩
abbrev F_is_pair (K : PySem.W.Frag) (f : Addr) (fd : FuncData) : Prop := FunD K "_law_is_pair" "_law_is_pair" (defArgs s_is_pair) (defBody s_is_pair) (defScope s_is_pair) [] [] f fd
abbrev s_joined : Stmt := top 35
abbrev n_joined : List Str := ["_law_size_so", "_law_pairs_so", "_law_own"]
theorem sc_joined : FnScope n_joined ["_law_size_so", "_law_pairs_so"] (defScope s_joined) := ⟨rfl, rfl, rfl, by decide +kernel, rfl, by decide +kernel, by decide +kernel⟩
def d_joined : He.DefD := ⟨("_law_joined", none), "_law_joined", "_law_joined", defArgs s_joined, defBody s_joined, defScope s_joined, [], []⟩
abbrev F_joined (K : PySem.W.Frag) (f : Addr) (fd : FuncData) : Prop := FunD K "_law_joined" "_law_joined" (defArgs s_joined) (defBody s_joined) (defScope s_joined) [] [] f fd
abbrev s_frame : Stmt := top 36
abbrev n_frame : List Str := ["_law_tin", "_law_most_so", "_law_size_so", "_law_kind_so", "_law_line_so", "_law_hub_so", "_law_found", "_law_lap", "_law_one_so", "_law_two_so", "_law_k", "_law_own"]
theorem sc_frame : FnScope n_frame ["_law_tin", "_law_most_so"] (defScope s_frame) := ⟨rfl, rfl, rfl, by decide +kernel, rfl, by decide +kernel, by decide +kernel⟩
def d_frame : He.DefD := ⟨("_law_frame", none), "_law_frame", "_law_frame", defArgs s_frame, defBody s_frame, defScope s_frame, [], []⟩
abbrev F_frame (K : PySem.W.Frag) (f : Addr) (fd : FuncData) : Prop := FunD K "_law_frame" "_law_frame" (defArgs s_frame) (defBody s_frame) (defScope s_frame) [] [] f fd
abbrev s_next_to : Stmt := top 37
abbrev n_next_to : List Str := ["_law_frame_so", "_law_k", "_law_own"]
theorem sc_next_to : FnScope n_next_to ["_law_frame_so", "_law_k"] (defScope s_next_to) := ⟨rfl, rfl, rfl, by decide +kernel, rfl, by decide +kernel, by decide +kernel⟩
def d_next_to : He.DefD := ⟨("_law_next_to", none), "_law_next_to", "_law_next_to", defArgs s_next_to, defBody s_next_to, defScope s_next_to, [], []⟩
abbrev F_next_to (K : PySem.W.Frag) (f : Addr) (fd : FuncData) : Prop := FunD K "_law_next_to" "_law_next_to" (defArgs s_next_to) (defBody s_next_to) (defScope s_next_to) [] [] f fd
abbrev s_marked : Stmt := top 38
abbrev n_marked : List Str := ["_law_frame_so", "_law_marks_so", "_law_lap", "_law_i", "_law_j", "_law_least_so"]
theorem sc_marked : FnScope n_marked ["_law_frame_so"] (defScope s_marked) := ⟨rfl, rfl, rfl, by decide +kernel, rfl, by decide +kernel, by decide +kernel⟩
def d_marked : He.DefD := ⟨("_law_marked", none), "_law_marked", "_law_marked", defArgs s_marked, defBody s_marked, defScope s_marked, [], []⟩
abbrev F_marked (K : PySem.W.Frag) (f : Addr) (fd : FuncData) : Prop := FunD K "_law_marked" "_law_marked" (defArgs s_marked) (defBody s_marked) (defScope s_marked) [] [] f fd
abbrev s_parts_so : Stmt := top 39
abbrev n_parts_so : List Str := ["_law_frame_so", "_law_marks_so", "_law_head_so", "_law_k"]
theorem sc_parts_so : FnScope n_parts_so ["_law_frame_so"] (defScope s_parts_so) := ⟨rfl, rfl, rfl, by decide +kernel, rfl, by decide +kernel, by decide +kernel⟩
def d_parts_so : He.DefD := ⟨("_law_parts_so", none), "_law_parts_so", "_law_parts_so", defArgs s_parts_so, defBody s_parts_so, defScope s_parts_so, [], []⟩
abbrev F_parts_so (K : PySem.W.Frag) (f : Addr) (fd : FuncData) : Prop := FunD K "_law_parts_so" "_law_parts_so" (defArgs s_parts_so) (defBody s_parts_so) (defScope s_parts_so) [] [] f fd
abbrev s_is_beam : Stmt := top 40
abbrev n_is_beam : List Str := ["_law_own", "_law_many_so"]
theorem sc_is_beam : FnScope n_is_beam ["_law_own", "_law_many_so"] (defScope s_is_beam) := ⟨rfl, rfl, rfl, by decide +kernel, rfl, by decide +kernel, by decide +kernel⟩
def d_is_beam : He.DefD := ⟨("_law_is_beam", none), "_law_is_beam", "_law_is_beam", defArgs s_is_beam, defBody s_is_beam, defScope s_is_beam, [], []⟩
abbrev F_is_beam (K : PySem.W.Frag) (f : Addr) (fd : FuncData) : Prop := FunD K "_law_is_beam" "_law_is_beam" (defArgs s_is_beam) (defBody s_is_beam) (defScope s_is_beam) [] [] f fd
abbrev s_is_frame_so : Stmt := top 41
abbrev n_is_frame_so : List Str := ["_law_own", "_law_one", "_law_two", "_law_its"]
theorem sc_is_frame_so : FnScope n_is_frame_so ["_law_own"] (defScope s_is_frame_so) := ⟨rfl, rfl, rfl, by decide +kernel, rfl, by decide +kernel, by decide +kernel⟩
def d_is_frame_so : He.DefD := ⟨("_law_is_frame_so", none), "_law_is_frame_so", "_law_is_frame_so", defArgs s_is_frame_so, defBody s_is_frame_so, defScope s_is_frame_so, [], []⟩
abbrev F_is_frame_so (K : PySem.W.Frag) (f : Addr) (fd : FuncData) : Prop := FunD K "_law_is_frame_so" "_law_is_frame_so" (defArgs s_is_frame_so) (defBody s_is_frame_so) (defScope s_is_frame_so) [] [] f fd
abbrev s_bent : Stmt := top 42
abbrev n_bent : List Str := ["_law_tin", "_law_frame_so", "_law_many_so", "_law_beams_so", "_law_k", "_law_i", "_law_j", "_law_bits_so", "_law_found", "_law_own"]
theorem sc_bent : FnScope n_bent ["_law_tin", "_law_frame_so"] (defScope s_bent) := ⟨rfl, rfl, rfl, by decide +kernel, rfl, by decide +kernel, by decide +kernel⟩
def d_bent : He.DefD := ⟨("_law_bent", none), "_law_bent", "_law_bent", defArgs s_bent, defBody s_bent, defScope s_bent, [], []⟩
abbrev F_bent (K : PySem.W.Frag) (f : Addr) (fd : FuncData) : Prop := FunD K "_law_bent" "_law_bent" (defArgs s_bent) (defBody s_bent) (defScope s_bent) [] [] f fd
abbrev s_heard : Stmt := top 43
abbrev n_heard : List Str := ["_law_door_so", "_law_frame_so", "_law_k", "_law_found", "slip_so"]
theorem sc_heard : FnScope n_heard ["_law_door_so", "_law_frame_so", "_law_k"] (defScope s_heard) := ⟨rfl, rfl, rfl, by decide +kernel, rfl, by decide +kernel, by decide +kernel⟩
def d_heard : He.DefD := ⟨("_law_heard", none), "_law_heard", "_law_heard", defArgs s_heard, defBody s_heard, defScope s_heard, [], []⟩
abbrev F_heard (K : PySem.W.Frag) (f : Addr) (fd : FuncData) : Prop := FunD K "_law_heard" "_law_heard" (defArgs s_heard) (defBody s_heard) (defScope s_heard) [] [] f fd
abbrev s_right : Stmt := top 44
abbrev n_right : List Str := ["_law_tin", "_law_frame_here", "_law_other", "_law_both_so", "_law_soft", "_law_parts_so_here", "_law_got", "_law_due", "_law_far_so", "_law_things_so", "_law_k", "_law_own", "_law_i", "_law_j"]
theorem sc_right : FnScope n_right ["_law_tin"] (defScope s_right) := ⟨rfl, rfl, rfl, by decide +kernel, rfl, by decide +kernel, by decide +kernel⟩
def d_right : He.DefD := ⟨("_law_right", none), "_law_right", "_law_right", defArgs s_right, defBody s_right, defScope s_right, [], []⟩
abbrev F_right (K : PySem.W.Frag) (f : Addr) (fd : FuncData) : Prop := FunD K "_law_right" "_law_right" (defArgs s_right) (defBody s_right) (defScope s_right) [] [] f fd
abbrev s_by_hand_right : Stmt := top 45
abbrev n_by_hand_right : List Str := ["_law_bend_so", "_law_pairs_so", "_law_got", "_law_due", "_law_own"]
theorem sc_by_hand_right : FnScope n_by_hand_right [] (defScope s_by_hand_right) := ⟨rfl, rfl, rfl, by decide +kernel, rfl, by decide +kernel, by decide +kernel⟩
def d_by_hand_right : He.DefD := ⟨("_law_by_hand_right", none), "_law_by_hand_right", "_law_by_hand_right", defArgs s_by_hand_right, defBody s_by_hand_right, defScope s_by_hand_right, [], []⟩
abbrev F_by_hand_right (K : PySem.W.Frag) (f : Addr) (fd : FuncData) : Prop := FunD K "_law_by_hand_right" "_law_by_hand_right" (defArgs s_by_hand_right) (defBody s_by_hand_right) (defScope s_by_hand_right) [] [] f fd
abbrev s_law : Stmt := top 46
abbrev n_law : List Str := ["_law_script", "_law_cells_here", "_law_k"]
theorem sc_law : FnScope n_law ["_law_script"] (defScope s_law) := ⟨rfl, rfl, rfl, by decide +kernel, rfl, by decide +kernel, by decide +kernel⟩
def d_law : He.DefD := ⟨("law", none), "law", "law", defArgs s_law, defBody s_law, defScope s_law, [], []⟩
abbrev F_law (K : PySem.W.Frag) (f : Addr) (fd : FuncData) : Prop := FunD K "law" "law" (defArgs s_law) (defBody s_law) (defScope s_law) [] [] f fd
abbrev s_init : Stmt := inClass (top 1) 0
def d_init : He.DefD := ⟨("NoJack", some "__init__"), "__init__", "NoJack.__init__", defArgs s_init, defBody s_init, defScope s_init, [], []⟩
end K3

set_option Elab.async false
set_option linter.all false
set_option maxRecDepth 100000
set_option maxHeartbeats 4000000
namespace K3
open PySem PySem.Spec PyProof.Rows L2
/-! ### a list grown by a tuple -/
theorem grows_by_tuple (l : Addr) (its : Array Value) (n : Nat) (b : Addr) (ts : Array Value) (m : Nat) (dd : Option Addr) (sl : Array (Option Value)) (h0 : ¬(!its.isEmpty && Builtin.List.listTooLong (its.size + ts.size)) = true) (h1 : its.size ≤ sizeLine) (h2 : its.size + ts.size ≤ sizeLine + 1) :
    Meets (Builtin.«list.extend» ⟨[.ref l, .ref b], []⟩) (fun _ R s => s.heap.get? l = some { cls := .type "list", dict := none, data := .seq its n, slots := #[] } ∧ s.heap.get? b = some { cls := .type "tuple", dict := dd, data := .seq ts m, slots := sl } ∧ R (.ok (.ret Value.none)) { s with heap := s.heap.update l (Obj.mapSeq fun x => x ++ ts), toks := s.toks }) :=
  .of_wp fun prog w A R s h => by
    obtain ⟨hp, g, d, tk, os⟩ := s
    obtain ⟨hl, hb, h⟩ := h
    have f1 := AutoSeq1.idx_int
    have f2 := AutoSeq1.sub_tuple_tuple
    have f3 := AutoSeq1.sub_list_list
    have f4 := AutoSeq1.sub_tuple_list
    have f5 := AutoSeq1.sub_list_tuple
    have hz' : (its ++ ts).size ≤ sizeLine + 1 := by
      rw [Array.size_append]
      exact h2
    wp_walk using (wpAny_updateSeq hl rfl (hz := h1) (_hz' := hz')), AutoSeq1.wpAny_loadPart' hl, AutoSeq1.wpAny_loadPart' hb
    exact ⟨_, rfl, h⟩
section
variable {X : Cx}
def rExtT (K : PySem.W.Frag) : V → List V → Hp → VK → Prop := fun x vs H Q => ∃ l b xs zs, x = .ref l ∧ vs = [.ref b] ∧ H l = some (.lst xs) ∧ SqT K H b zs ∧ xs.length + zs.length ≤ sizeLine ∧ Q .non (upd H l (.lst (xs ++ zs)))
theorem mt_extT : MtM X "list.extend" (rExtT X.K) := by
  intro pins s σ H x vs v us Q I rx rv h
  obtain ⟨l, b, xs, zs, rfl, rfl, hH, hB, hz, q⟩ := h
  cases rx
  obtain ⟨u, rfl, ru⟩ := rv.one
  cases ru
  obtain ⟨z, its, n, r, hl, e⟩ := I.lstM hH
  obtain ⟨its2, r2, ⟨⟨oc, od, dt, sl⟩, e2, hc, m, hd⟩, _⟩ := I.tuple hB
  simp only at hc hd
  subst hc hd
  have l2 := r2.length
  have hsz : its.toArray.size + its2.toArray.size ≤ sizeLine := by
    rw [List.size_toArray, List.size_toArray]
    omega
  have hlong : ¬ (!its.toArray.isEmpty && Builtin.List.listTooLong (its.toArray.size + its2.toArray.size)) = true := by
    rw [notLongL hsz, Bool.and_false]
    exact Bool.false_ne_true
  refine call_meets F.slot_list_extend ⟨_, e, rfl⟩ F.entry_list_extend (F.args_list_extend_2 _ _)
    (grows_by_tuple l its.toArray n b its2.toArray m od sl hlong (by rw [List.size_toArray]; omega) (by omega)) ⟨e, e2, ?_⟩
  refine ⟨.non, _, I.lset (its' := its ++ its2) hH e (by simp) (r.append r2) ?_, rfl, q⟩
  rw [List.length_append]
  omega
end
end K3
namespace K3
open PySem PySem.Spec PyProof.Rows L2
/-! ### the less, the greater of a pair's two -/
section
variable {X : Cx}
theorem pair_reads {pins : List (Addr × Obj)} {σ : L2.St} {H : Hp} {s : Shared} {a : Addr} {i j : Int} (I : Inv X pins σ H s) (h : SqT X.K H a [.int i, .int j]) :
    ∃ its : List Value, s.heap.IsTuple a its.toArray ∧ ∃ as, ReadsAll s.heap its [PyData.int i, PyData.int j] as := by
  obtain ⟨its, r, ⟨o, ho, hc, n, hd⟩, _⟩ := I.tuple h
  refine ⟨its, ⟨o, ho, hc, n, hd⟩, ?_⟩
  cases r with
  | cons r1 r2 =>
    cases r2 with
    | cons r2 r3 =>
      cases r3
      obtain ⟨t, rfl⟩ := r1
      obtain ⟨u, rfl⟩ := r2
      exact ⟨_, .cons (.int i t) (.cons (.int j u) .nil)⟩
theorem alike_two (i j : Int) : PySem.W.AlikeAll [PyData.int i, PyData.int j] := by
  refine ⟨fun x hx y hy => ?_, fun x hx => ?_⟩
  · rcases List.mem_cons.mp hx with rfl | hx <;> rcases List.mem_cons.mp hy with rfl | hy
    · rfl
    · rcases List.mem_singleton.mp hy with rfl; rfl
    · rcases List.mem_singleton.mp hx with rfl; rfl
    · rcases List.mem_singleton.mp hx with rfl; rcases List.mem_singleton.mp hy with rfl; rfl
  · rcases List.mem_cons.mp hx with rfl | hx
    · intro z; cases z
    · rcases List.mem_singleton.mp hx with rfl; intro z; cases z
theorem cr_min2T (hc : X.calm = true) (hu : X.A.units + 64 < cLine) : CallR X (.builtin "min") (fun xs H Q => ∃ a i j, xs = [.ref a] ∧ SqT X.K H a [.int i, .int j] ∧ Q (.int (min i j)) H) := by
  intro pins s σ H vs us Q I r h
  obtain ⟨a, i, j, rfl, hs, q⟩ := h
  obtain ⟨its, ht, as, hr⟩ := pair_reads I hs
  rw [Vals.ref1 r]
  refine PySem.W.min_tuple_data (I.ok.hd hc) ht (x := .int i) (xs := [.int j]) (by simpa using hr) (alike_two i j) (by show X.A.units + 1 + 0 < cLine; omega) fun k v h' tk bs hv hr2 hk => ?_
  have e : PySem.W.minD (.int i) [.int j] = .int (min i j) := PySem.W.minD_ints i [j]
  rw [e] at hr2
  cases hr2 with
  | int _ t => exact ⟨.int _, H, I.kept hk, ⟨t, rfl⟩, q⟩
theorem cr_max2T (hc : X.calm = true) (hu : X.A.units + 64 < cLine) : CallR X (.builtin "max") (fun xs H Q => ∃ a i j, xs = [.ref a] ∧ SqT X.K H a [.int i, .int j] ∧ Q (.int (max i j)) H) := by
  intro pins s σ H vs us Q I r h
  obtain ⟨a, i, j, rfl, hs, q⟩ := h
  obtain ⟨its, ht, as, hr⟩ := pair_reads I hs
  rw [Vals.ref1 r]
  refine PySem.W.max_tuple_data (I.ok.hd hc) ht (x := .int i) (xs := [.int j]) (by simpa using hr) (alike_two i j) (by show X.A.units + 1 + 0 < cLine; omega) fun k v h' tk bs hv hr2 hk => ?_
  have e : PySem.W.maxD (.int i) [.int j] = .int (max i j) := PySem.W.maxD_ints i [j]
  rw [e] at hr2
  cases hr2 with
  | int _ t => exact ⟨.int _, H, I.kept hk, ⟨t, rfl⟩, q⟩
end
/-! ### a < b < c < d -/
section
variable {X : Cx} {a b c d : Expr} {ta tb tc td : TE} {pos : Pos}
def tChain3 (r r' r'' : R2) (ta tb tc td : TE) : TE := fun σ H Q => ta σ H fun x H1 => tb σ H1 fun y H2 => r x y H2 fun z H3 => ∃ k, z = .bl k ∧
  (if k = true then tc σ H3 fun w H4 => r' y w H4 fun z' H5 => ∃ k', z' = .bl k' ∧ (if k' = true then td σ H5 fun w' H6 => r'' w w' H6 Q else Q (.bl false) H5) else Q (.bl false) H3)
theorem pe_chain3 {op op' op'' : CmpOp} {r r' r'' : R2} (ho : OpR X (compareOp op) r) (ho' : OpR X (compareOp op') r') (ho'' : OpR X (compareOp op'') r'') (ha : PE X a ta) (hb : PE X b tb) (hc : PE X c tc) (hd : PE X d td)
    (hm : lastMarks [op, op', op''] [b, c, d] = false := by with_unfolding_all rfl) : PE X (.Compare a [op, op', op''] [b, c, d] pos) (tChain3 r r' r'' ta tb tc td) := by
  refine ⟨fun pins s σ H Q I h => ?_⟩
  refine Compare_chain (thn (ha.run pins s σ H _ I h) fun v s1 ⟨x, H1, I1, r1, q1⟩ => chain_link (thn (hb.run pins s1 σ H1 _ I1 q1) fun u s2 ⟨y, H2, I2, r2, q2⟩ =>
    thn (ho pins s2 σ H2 x y v u _ I2 r1 r2 q2) fun e s3 ⟨z, H3, I3, r3, k, ez, q3⟩ => ?_)) hm
  subst ez
  cases r3
  refine wpAny_truthy_bool ?_
  cases k with
  | false => exact ite_ff ⟨.bl false, H3, I3, rfl, q3⟩
  | true =>
    refine ite_tt (chain_link (thn (hc.run pins s3 σ H3 _ I3 q3) fun w' s4 ⟨wv, H4, I4, r4, q4⟩ => thn (ho' pins s4 σ H4 y wv u w' _ I4 r2 r4 q4) fun e' s5 ⟨z', H5, I5, r5, k', ez', q5⟩ => ?_))
    subst ez'
    cases r5
    refine wpAny_truthy_bool ?_
    cases k' with
    | false => exact ite_ff ⟨.bl false, H5, I5, rfl, q5⟩
    | true => exact ite_tt (chain_last (thn (hd.run pins s5 σ H5 _ I5 q5) fun w2 s6 ⟨wv2, H6, I6, r6, q6⟩ => ho'' pins s6 σ H6 wv wv2 w' w2 Q I6 r4 r6 q6))
end
end K3
namespace K3
open PySem PySem.Spec PyProof.Rows L2
/-! ### p >= q of pairs of ints -/
section
variable {X : Cx}
def rGeP (K : PySem.W.Frag) : R2 := fun x y H Q => ∃ a b i j k l, x = .ref a ∧ y = .ref b ∧ SqT K H a [.int i, .int j] ∧ SqT K H b [.int k, .int l] ∧ Q (.bl (decide (k < i ∨ (i = k ∧ l ≤ j)))) H
theorem pair_its {pins : List (Addr × Obj)} {σ : L2.St} {H : Hp} {s : Shared} {a : Addr} {i j : Int} (I : Inv X pins σ H s) (h : SqT X.K H a [.int i, .int j]) :
    ∃ t u, IsTup s.heap a #[.int i t, .int j u] := by
  obtain ⟨its, r, p, _⟩ := I.tuple h
  cases r with
  | cons r1 r2 =>
    cases r2 with
    | cons r2 r3 =>
      cases r3
      obtain ⟨t, rfl⟩ := r1
      obtain ⟨u, rfl⟩ := r2
      exact ⟨t, u, p⟩
theorem op_geP (hu : X.A.units < cLine) : OpR X (compareOp .GtE) (rGeP X.K) := by
  intro pins s σ H x y v u Q I rx ry h
  obtain ⟨a, b, i, j, k, l, rfl, rfl, ha, hb, q⟩ := h
  cases rx
  cases ry
  obtain ⟨t1, u1, p1⟩ := pair_its I ha
  obtain ⟨t2, u2, p2⟩ := pair_its I hb
  have R := Ob.RcOp.tuples_ge (A := X.A) (s := s) (e := fun n => if n = 0 then i == k else j == l) (r := fun n => if n = 0 then decide (k ≤ i) else decide (l ≤ j)) p1 p2 hu
    (fun n h1 h2 => by
      match n, h1, h2 with
      | 0, _, _ => exact SeqAt.EqAt.int_int _ _ _ _
      | 1, _, _ => exact SeqAt.EqAt.int_int _ _ _ _
      | n + 2, h1, _ => exact absurd h1 (by simp))
    (fun n h1 h2 _ => by
      match n, h1, h2 with
      | 0, _, _ => exact Ob.RcOp.ge_int _ _ _ _
      | 1, _, _ => exact Ob.RcOp.ge_int _ _ _ _
      | n + 2, h1, _ => exact absurd h1 (by simp))
  have z : wpAny (model X.prog X.w) X.A (compareOp .GtE (.ref a) (.ref b)) (EP X pins σ Q) X.xe s := R X.prog X.w X.xe (EP X pins σ Q) ⟨.bl _, H, I, rfl, by
    have e : Ob.lexAt (fun n => if n = 0 then i == k else j == l) (fun n => if n = 0 then decide (k ≤ i) else decide (l ≤ j)) (decide (2 ≥ 2)) 0 2 = decide (k < i ∨ (i = k ∧ l ≤ j)) := by
      show (if (i == k) = true then (if (j == l) = true then decide (2 ≥ 2) else decide (l ≤ j)) else decide (k ≤ i)) = _
      by_cases h1 : i = k
      · subst h1
        rw [if_pos (beq_self_eq_true i)]
        by_cases h2 : j = l
        · subst h2
          rw [if_pos (beq_self_eq_true j)]
          exact (decide_eq_true (Or.inr ⟨rfl, Int.le_refl _⟩)).symm
        · rw [if_neg (by simpa using h2)]
          exact decide_eq_decide.mpr ⟨fun h => .inr ⟨rfl, h⟩, fun h => by rcases h with h | ⟨_, h⟩ <;> omega⟩
      · rw [if_neg (by simpa using h1)]
        exact decide_eq_decide.mpr ⟨fun h => .inl (by omega), fun h => by rcases h with h | ⟨h, _⟩ <;> omega⟩
    show Q (.bl (Ob.lexAt (fun n => if n = 0 then i == k else j == l) (fun n => if n = 0 then decide (k ≤ i) else decide (l ≤ j)) (decide (2 ≥ 2)) 0 2)) H
    rw [e]
    exact q⟩
  exact z
end
/-! ### t[::-1] -/
section
variable {prog : Program} {w : World} {A : Around} {E : Value → Shared → Prop} {s : Shared}
theorem applied_back {sl : Addr} {vl vu : Value} {tk : Tok} {n : Nat} {Q : Int × Int × Nat → Shared → Prop} (hs : s.heap.IsSliceOf sl vl vu (.int (-1) tk)) (pl : IsPart vl none) (pu : IsPart vu none)
    (h : Q ((n : Int) - 1, -1, n) s) : wpAny (model prog w) A (Builtin.Slice.sliceApplied (.ref sl) (pure (n : Int))) Q E s := by
  obtain ⟨os, hos, hcs, hds⟩ := id hs
  cases pl
  cases pu
  unfold Builtin.Slice.sliceApplied Builtin.Slice.sliceFields
  refine wpAny_bind (wpAny_bind (wpAny_field hos hds (x := .none) rfl (wpAny_bind (wpAny_field hos hds (x := .none) rfl (wpAny_bind (wpAny_field hos hds (x := .int (-1) tk) rfl (wpAny_pure ?_)))))))
  refine wpAny_bind (HT.slicePart_ (.int (-1) tk) ?_)
  show wpAny _ _ (if ((-1 : Int) == 0) = true then _ else _) _ _ s
  rw [if_neg (by decide)]
  refine wpAny_bind (HT.slicePart_ .none (wpAny_bind (HT.slicePart_ .none (wpAny_bind (wpAny_pure ?_)))))
  refine wpAny_pure ?_
  have e : Builtin.Slice.slicePlaces ((n : Int) - 1) (-1) (-1) = n := by
    unfold Builtin.Slice.slicePlaces
    rw [if_neg (by decide)]
    by_cases h0 : n = 0
    · subst h0
      rfl
    · rw [if_pos (by omega), show (- -1 : Int) = 1 by decide, Int.ediv_one]
      omega
  show Q ((n : Int) - 1, -1, Builtin.Slice.slicePlaces ((n : Int) - 1) (-1) (-1)) s
  rw [e]
  exact h
end
end K3
namespace K3
open PySem PySem.Spec PyProof.Rows L2
section
variable {prog : Program} {w : World} {A : Around} {E : Value → Shared → Prop} {s : Shared}
theorem pick_back (xs : List Value) : ∀ n, n ≤ xs.length → ((List.range n).filterMap fun (k : Nat) => xs.toArray[(((n : Int) - 1) + (k : Int) * -1).toNat]?) = (xs.take n).reverse := by
  intro n
  induction n generalizing xs with
  | zero =>
    intro _
    rfl
  | succ n ih =>
    intro hn
    have h1 : n < xs.length := hn
    rw [List.range_succ_eq_map, List.filterMap_cons, List.filterMap_map]
    have e0 : ((((n + 1 : Nat) : Int) - 1) + ((0 : Nat) : Int) * -1).toNat = n := by omega
    rw [e0]
    have e1 : xs.toArray[n]? = some xs[n] := by simp [h1]
    rw [e1]
    have e2 : ((fun (k : Nat) => xs.toArray[((((n + 1 : Nat) : Int) - 1) + (k : Int) * -1).toNat]?) ∘ Nat.succ) = fun (k : Nat) => xs.toArray[(((n : Int) - 1) + (k : Int) * -1).toNat]? := by
      funext k
      have e3 : ((((n + 1 : Nat) : Int) - 1) + ((Nat.succ k : Nat) : Int) * -1).toNat = (((n : Int) - 1) + (k : Int) * -1).toNat := by
        have : ((Nat.succ k : Nat) : Int) = (k : Int) + 1 := by omega
        rw [this]
        congr 1
        omega
      show xs.toArray[((((n + 1 : Nat) : Int) - 1) + ((Nat.succ k : Nat) : Int) * -1).toNat]? = _
      rw [e3]
    rw [e2, ih xs (by omega), List.take_add_one, List.getElem?_eq_getElem h1, List.reverse_append]
    rfl
theorem getItem_back {t sl : Addr} {its : List Value} {vl vu : Value} {tk : Tok} {Q : Value → Shared → Prop} (ht : IsTup s.heap t its.toArray) (hs : s.heap.IsSliceOf sl vl vu (.int (-1) tk)) (pl : IsPart vl none) (pu : IsPart vu none)
    (h : Q (.ref s.heap.objs.size) { s with heap := s.heap.push { cls := .type "tuple", data := .seq its.reverse.toArray } }) (hsz : its.length ≤ sizeLine) : wpAny (model prog w) A (getItem (.ref t) (.ref sl)) Q E s := by
  have hput : sizeOk (.seq its.reverse.toArray) := by
    show its.reverse.toArray.size ≤ sizeLine
    rw [List.size_toArray, List.length_reverse]
    exact hsz
  obtain ⟨os, hos, hcs, hds⟩ := id hs
  have hTs : s.TypeIs (.ref sl) "slice" := ⟨os, hos, hcs⟩
  unfold getItem
  try with_reducible refine wpAny_holding ?_
  first | refine wpAny_bind (wpAny_pure ?_) | skip
  refine wpAny_bind (wpAny_sequenceKey ht.typeIs (by decide) ?_)
  refine wpAny_bind (wpAny_callSpecial?_slot (name := Str.ofString "__getitem__") ht.typeIs PyProof.Rows.slot_tuple_getitem
    (wpAny_call_entry PyProof.Rows.slot_tuple_getitem ht.typeIs entry_tuple_getitem ?_ (args_tuple_getitem _ _)))
  show wpAny _ _ (Builtin.Tuple.tupleItemsOf (.ref t) >>= _) _ _ s
  refine wpAny_bind (tupleItemsOf_ ht ?_)
  refine wpAny_bind (wpAny_typeOf hTs ?_)
  rw [if_pos (by decide)]
  refine wpAny_bind (applied_back hs pl pu ?_)
  have hno : ¬ ((((its.toArray.size : Int) - 1) == 0 && (-1 : Int) == 1 && its.toArray.size == its.toArray.size) = true) := by
    intro q
    rw [Bool.and_eq_true, Bool.and_eq_true] at q
    exact absurd q.1.2 (by decide)
  show wpAny _ _ (if (((its.toArray.size : Int) - 1) == 0 && (-1 : Int) == 1 && its.toArray.size == its.toArray.size) = true then _ else _) _ _ s
  rw [if_neg hno, List.size_toArray, pick_back its its.length (Nat.le_refl _), List.take_length]
  first
    | exact wpAny_bind (m := Builtin.Tuple.tupleExact _) (wpAny_newObj_type (wpAny_pure ⟨_, rfl, wpAny_pure h⟩) hput)
    | exact wpAny_bind (m := Builtin.Tuple.tupleExact _) (wpAny_newObj_type (wpAny_bind (wpAny_pure (wpAny_pure ⟨_, rfl, wpAny_pure h⟩))) hput)
    | exact wpAny_bind (wpAny_bind (m := Builtin.Tuple.tupleExact _) (wpAny_newObj_type (wpAny_pure (wpAny_pure ⟨_, rfl, wpAny_pure h⟩)) hput))
    | exact wpAny_bind (wpAny_bind (m := Builtin.Tuple.tupleExact _) (wpAny_newObj_type (wpAny_pure ⟨_, rfl, wpAny_pure h⟩) hput))
end
section
variable {X : Cx}
def tRevT (K : PySem.W.Frag) (te : TE) : TE := fun σ H Q => te σ H fun x H1 => ∃ a xs, x = .ref a ∧ SqT K H1 a xs ∧ ∀ p, H1 p = none → Q (.ref p) (upd H1 p (.tup xs.reverse))
theorem pe_revT {e : Expr} {te : TE} {k : Nat} {p1 p2 p3 pos : Pos} (he : PE X e te) : PE X (.Subscript e (.Slice none none (some (.UnaryOp .USub (.Constant (.int 1) k p1) p2)) p3) pos) (tRevT X.K te) := by
  refine ⟨fun pins s σ H Q I h => ?_⟩
  refine Subscript_ (thn (he.run pins s σ H _ I h) fun v s1 ⟨x, H1, I1, r1, q1⟩ => ?_)
  obtain ⟨a, xs, ex, hx, q⟩ := q1
  subst ex
  cases r1
  have back : PO X (some (.UnaryOp .USub (.Constant (.int 1) k p1) p2)) (tPart (tUn (rU fun i => .int (-i)) (tC (.int 1)))) := po_some (pe_un un_neg pe_int)
  refine wpAny_Slice (thn (po_none.run pins s1 σ H1 (fun o H2 => o = none ∧ H2 = H1) I1 ⟨rfl, rfl⟩) fun vl s2 ⟨l, H2, I2, pl, el, e2⟩ => ?_)
  subst el e2
  refine thn (po_none.run pins s2 σ H2 (fun o H3 => o = none ∧ H3 = H2) I2 ⟨rfl, rfl⟩) fun vu s3 ⟨u, H3, I3, pu, eu, e3⟩ => ?_
  subst eu e3
  refine thn (back.run pins s3 σ H3 (fun o H4 => o = some (-1) ∧ H4 = H3) I3 ⟨1, rfl, -1, rfl, rfl, rfl⟩) fun vs s4 ⟨o, H4, I4, ps, eo, e4⟩ => ?_
  subst eo e4
  obtain ⟨tk, rfl⟩ : ∃ tk, vs = Value.int (-1) tk := by
    cases ps with
    | int _ t => exact ⟨t, rfl⟩
  have I5 : Inv X pins σ H4 { s4 with heap := s4.heap.push { cls := .type "slice", data := .fields #[vl, vu, .int (-1) tk] } } := I4.kept (t' := s4.toks) fun b ob q => Heap.get?_push_of_some _ q
  obtain ⟨its, r, ht, hz⟩ := I5.tuple hx
  have hlen := r.length
  show wpAny (model X.prog X.w) X.A (subscriptTail e (.Slice none none (some (.UnaryOp .USub (.Constant (.int 1) k p1) p2)) p3) (.ref a) (.ref s4.heap.objs.size)) (EP X pins σ Q) X.xe { s4 with heap := s4.heap.push { cls := .type "slice", data := .fields #[vl, vu, .int (-1) tk] } }
  refine tail_any (ops := [.ref a, .ref s4.heap.objs.size]) ht.typeIs (PyProof.Rows.slot_tuple_getitem.lookup) ?_ (by with_unfolding_all rfl)
  refine getItem_back ht (Heap.IsSliceOf.new _ vl vu (.int (-1) tk)) pl pu ?_ (by omega)
  refine ⟨.ref _, _, I5.laid (t' := s4.toks) (o := .tup xs.reverse) (fun b ob q => Heap.get?_push_of_some _ q) (Nat.le_refl _) ?_, rfl, q _ (I5.hok.fresh (Nat.le_refl _))⟩
  exact ⟨by rw [List.length_reverse]; exact hz, _, r.reverse, IsTup.new _ _⟩
end
end K3

set_option Elab.async false
set_option linter.all false
set_option maxRecDepth 100000
set_option maxHeartbeats 4000000
namespace K3
open PySem PySem.Spec PyProof.Rows L2
/-! ### sum(lists, []) -/
section
variable {P : Program} {w : World} {A : Around} {E : Value → Shared → Prop}
abbrev lstO (its : Array Value) (n : Nat) : Obj := { cls := .type "list", dict := none, data := .seq its n, slots := #[] }
def joinTo (parts : List (Addr × List Value)) (i : Nat) : List Value := ((parts.take i).map (·.2)).flatten
theorem joinTo_zero (parts : List (Addr × List Value)) : joinTo parts 0 = [] := rfl
theorem joinTo_succ {parts : List (Addr × List Value)} {i : Nat} {p : Addr × List Value} (h : parts[i]? = some p) : joinTo parts (i + 1) = joinTo parts i ++ p.2 := by
  unfold joinTo
  rw [List.take_add_one, h, List.map_append, List.flatten_append]
  simp
theorem joinTo_all (parts : List (Addr × List Value)) : joinTo parts parts.length = (parts.map (·.2)).flatten := by
  unfold joinTo
  rw [List.take_length]
theorem joinTo_len (parts : List (Addr × List Value)) (i : Nat) : (joinTo parts i).length ≤ ((parts.map (·.2)).flatten).length := by
  unfold joinTo
  have e : parts.map (·.2) = (parts.take i).map (·.2) ++ (parts.drop i).map (·.2) := by rw [← List.map_append, List.take_append_drop]
  rw [e, List.flatten_append, List.length_append]
  exact Nat.le_add_right _ _
theorem sum_parts_loop {I : Addr} {fp wr : List Addr} {n : Nat} {Pv : Nat → Value → Prop} {St : Nat → Heap → Prop} {R : Result → Shared → Prop} (W : Walks P w A.in1 I fp wr n Pv St) (S : Addr) (hSf : S ∉ fp)
    (parts : List (Addr × List Value)) (hn : n = parts.length) (hval : ∀ i v, Pv i v → ∃ p, parts[i]? = some p ∧ v = .ref p.1) (h0 : Heap) (hparts : ∀ p ∈ parts, ∃ k, h0.get? p.1 = some (lstO p.2.toArray k)) (hS0 : h0.get? S = none) (hw0 : ∀ b ∈ wr, h0.get? b = none) (hwr : ∀ i h, St i h → ∀ b ∈ wr, ∃ o, h.get? b = some o)
    (hsz : ((parts.map (·.2)).flatten).length ≤ sizeLine) (e0 : Addr) (hS1 : h0.objs.size ≤ S) :
    ∀ (k i : Nat) (s : Shared) (q : Addr) (c m : Nat), n - i = k → i ≤ n → St i s.heap → (∀ b o, h0.get? b = some o → s.heap.get? b = some o) → s.heap.get? S = some (lstO #[.ref q] c) → s.heap.get? q = some (lstO (joinTo parts i).toArray m) → q ≠ S → q ∉ wr → (i = 0 ∧ q = e0 ∨ 0 < i ∧ h0.objs.size ≤ q) →
      (∀ (h' : Heap) (tk : Nat) (q' : Addr) (m' : Nat), (∀ b o, h0.get? b = some o → h'.get? b = some o) → h'.get? q' = some (lstO ((parts.map (·.2)).flatten).toArray m') → (n = 0 ∧ q' = e0 ∨ 0 < n ∧ h0.objs.size ≤ q') → R (.ok (.ret (.ref q'))) { s with heap := h', toks := tk }) →
      codeAny (model P w) A (.builtin "sum.loop" ⟨[.ref I, .ref S, rawInt 2, rawInt 0], []⟩) R s := by
  have hSw : S ∉ wr := fun h => hSf (W.sub _ h)
  intro k
  induction k with
  | zero =>
    intro i s q c m hk hi hst hkp hS hq hqS hqw hor hR
    have hin : i = n := by omega
    subst hin
    refine codeAny_builtin F.entry_sum_loop ?_
    rw [Around.under_plainId F.plain_sum_loop _]
    show wpAny _ A.in1 (seqItems? (.ref S) >>= _) _ _ s
    refine wpAny_bind (wpAny_seqItems hS rfl ?_)
    show wpAny _ A.in1 (tryCatch (pyNext (.ref I)) _ >>= _) _ _ s
    refine wpAny_bind (wpAny_tryCatch (W.done s _ _ hst fun h' tk hk' => ?_))
    refine wpAny_pure (hR h' tk q m (fun b o e => hk' b o (fun hb => by rw [hw0 b hb] at e; cases e) (hkp b o e)) ?_ hor)
    rw [hn, joinTo_all] at hq
    exact hk' q _ hqw hq
  | succ k ih =>
    intro i s q c m hk hi hst hkp hS hq hqS hqw hor hR
    have hlt : i < n := by omega
    refine codeAny_builtin F.entry_sum_loop ?_
    rw [Around.under_plainId F.plain_sum_loop _]
    show wpAny _ A.in1 (seqItems? (.ref S) >>= _) _ _ s
    refine wpAny_bind (wpAny_seqItems hS rfl ?_)
    show wpAny _ A.in1 (tryCatch (pyNext (.ref I)) _ >>= _) _ _ s
    refine wpAny_bind (wpAny_tryCatch (W.item i s _ _ hlt hst fun v h' tk hP hst' hk' => ?_))
    obtain ⟨p, hp, rfl⟩ := hval i v hP
    have hkp' : ∀ b o, h0.get? b = some o → h'.get? b = some o := fun b o e => hk' b o (fun hb => by rw [hw0 b hb] at e; cases e) (hkp b o e)
    obtain ⟨kp, hpo⟩ := hparts p (List.mem_of_getElem? hp)
    have hp' := hkp' _ _ hpo
    have hq' := hk' q _ hqw hq
    have hS' := hk' S _ hSw hS
    have hj := joinTo_succ hp
    have hlen := joinTo_len parts (i + 1)
    rw [hj, List.length_append] at hlen
    show wpAny _ A.in1 ((holding [Value.ref p.1] (binaryOp .Add (.ref q) (.ref p.1))).attempt >>= _) _ _ _
    refine wpAny_bind (wpAny_attempt (wpAny_holding (PySem.P.add_list hq' hp' ?_ (by rw [List.size_toArray, List.size_toArray]; omega))))
    have ea : (joinTo parts i).toArray ++ p.2.toArray = (joinTo parts (i + 1)).toArray := by
      rw [hj]
      simp
    rw [ea]
    have hS2 : (h'.push (lstO (joinTo parts (i + 1)).toArray 0)).get? S = some (lstO #[.ref q] c) := Heap.get?_push_of_some _ hS'
    have hn2 : (h'.push (lstO (joinTo parts (i + 1)).toArray 0)).get? h'.objs.size = some (lstO (joinTo parts (i + 1)).toArray 0) := Heap.get?_push_size _ rfl
    have neS : h'.objs.size ≠ S := Ne.symm (Nat.ne_of_lt (Heap.lt_size hS'))
    show wpAny _ A.in1 (updateSeq S (fun _ => #[.ref h'.objs.size]) >>= _) _ _ _
    refine wpAny_bind ?_
    refine wpAny_updateSeq hS2 rfl ?_
    refine wpAny_bind (wpAny_letGo ?_)
    have hS3 := Heap.get?_update_self (Obj.mapSeq fun _ => #[Value.ref h'.objs.size]) hS2 rfl
    refine wpAny_bind ?_
    have up : ∀ b o, b ≠ S → h'.get? b = some o → ((h'.push (lstO (joinTo parts (i + 1)).toArray 0)).update S (Obj.mapSeq fun _ => #[Value.ref h'.objs.size])).get? b = some o := fun b o hb e =>
      (Heap.get?_update_other _ _ (Ne.symm hb)).trans (Heap.get?_push_of_some _ e)
    have up2 : ∀ b o, b ≠ S → h'.get? b = some o → (((h'.push (lstO (joinTo parts (i + 1)).toArray 0)).update S (Obj.mapSeq fun _ => #[Value.ref h'.objs.size])).update S (Obj.mapSeq fun _ => #[Value.ref h'.objs.size])).get? b = some o := fun b o hb e =>
      (Heap.get?_update_other _ _ (Ne.symm hb)).trans (up b o hb e)
    refine wpAny_updateSeq hS3 rfl (wpAny_pure ⟨plainId_quiet F.plain_sum_loop _, ih (i + 1) _ h'.objs.size _ 0 (by omega) hlt (W.frame _ _ _ hst' fun b hb o e => up2 b o (fun z => hSf (by rw [← z]; exact hb)) e) (fun b o e => up2 b o (fun z => by rw [z, hS0] at e; cases e) (hkp' b o e)) (Heap.get?_update_self _ hS3 rfl) ?_ neS ?_ (.inr ⟨Nat.succ_pos i, ?_⟩) fun h'' tk'' q' m' hk'' hq'' hor'' => ?_⟩)
    · exact (Heap.get?_update_other _ _ (Ne.symm neS)).trans ((Heap.get?_update_other _ _ (Ne.symm neS)).trans hn2)
    · intro hb
      obtain ⟨o, e⟩ := hwr _ _ hst' _ hb
      exact absurd (Heap.lt_size e) (Nat.lt_irrefl _)
    · exact Nat.le_trans hS1 (Nat.le_of_lt (Heap.lt_size hS'))
    · exact hR h'' tk'' q' m' hk'' hq'' hor''
theorem subt_list_str : isSubtype (.type "list") (.type "str") = pure false := by rw [isSubtype_type]; kernel_rfl
theorem subt_list_bytes : isSubtype (.type "list") (.type "bytes") = pure false := by rw [isSubtype_type]; kernel_rfl
theorem subt_list_bytearray : isSubtype (.type "list") (.type "bytearray") = pure false := by rw [isSubtype_type]; kernel_rfl
theorem args_sum2 (a b : Value) : argsOk "sum" ⟨[a, b], []⟩ := by unfold argsOk; kernel_rfl
theorem call_sum_parts {s : Shared} {l e0 : Addr} {n0 : Nat} {Q : Value → Shared → Prop} (hh : A.handled = none) (parts : List (Addr × List Value)) (hl : s.heap.IsList l (parts.map fun p => Value.ref p.1).toArray)
    (hparts : ∀ p ∈ parts, ∃ k, s.heap.get? p.1 = some (lstO p.2.toArray k)) (he : s.heap.get? e0 = some (lstO #[] n0)) (hsz : ((parts.map (·.2)).flatten).length ≤ sizeLine)
    (h : ∀ (h' : Heap) (tk : Nat) (q' : Addr) (m' : Nat), (∀ b o, s.heap.get? b = some o → h'.get? b = some o) → h'.get? q' = some (lstO ((parts.map (·.2)).flatten).toArray m') → (parts = [] ∧ q' = e0 ∨ s.heap.objs.size ≤ q') → Q (.ref q') { s with heap := h', toks := tk }) :
    wpAny (model P w) A (call (.builtin "sum") [.ref l, .ref e0]) Q E s := by
  refine call_function_tree F.kind_sum F.plain_sum F.entry_sum (args_sum2 _ _) ?_
  unfold Builtin.«sum»
  simp only [List.length_cons, List.length_nil]
  rw [if_neg (by decide)]
  refine wpAny_bind (wpAny_of_eq (show Builtin.Builtins.bindParams "sum" ["start"] 0 ⟨[.ref e0], []⟩ = pure [some (.ref e0)] from rfl) ?_)
  refine wpAny_bind (wpAny_pyIter_list hl ?_)
  refine wpAny_bind (wpAny_pure ?_)
  simp only [List.forIn_cons, List.forIn_nil]
  have he1 : (s.heap.push { cls := .type "list_iterator", data := .fields #[.ref l, .int 0 0] }).get? e0 = some (lstO #[] n0) := Heap.get?_push_of_some _ he
  have hT : Shared.TypeIs { s with heap := s.heap.push { cls := .type "list_iterator", data := .fields #[.ref l, .int 0 0] } } (.ref e0) "list" := ⟨_, he1, rfl⟩
  refine wpAny_bind (wpAny_bind (wpAny_bind (wpAny_isInstance (T := "list") (b := false) hT subt_list_str ?_)))
  simp only [Bool.false_eq_true, if_false]
  refine wpAny_pure (wpAny_bind (wpAny_bind (wpAny_isInstance (T := "list") (b := false) hT subt_list_bytes ?_)))
  simp only [Bool.false_eq_true, if_false]
  refine wpAny_pure (wpAny_bind (wpAny_bind (wpAny_isInstance (T := "list") (b := false) hT subt_list_bytearray ?_)))
  simp only [Bool.false_eq_true, if_false]
  refine wpAny_pure (wpAny_pure ?_)
  refine wpAny_bind (wpAny_newObj_type ?_)
  obtain ⟨ol, hol, _⟩ := id hl
  have hlI : l ≠ s.heap.objs.size := Nat.ne_of_lt (Heap.lt_size hol)
  have hsz1 : (s.heap.push { cls := .type "list_iterator", data := .fields #[.ref l, .int 0 0] }).objs.size = s.heap.objs.size + 1 := Heap.size_push ..
  have W := Walks.list (prog := P) (w := w) (A := A.in1) hh s.heap.objs.size l hlI (parts.map fun p => Value.ref p.1).toArray
  have none_of : ∀ b, s.heap.objs.size ≤ b → s.heap.get? b = none := fun b hb => by
    cases q : s.heap.get? b with
    | none => rfl
    | some o => exact absurd (Nat.lt_of_lt_of_le (Heap.lt_size q) hb) (Nat.lt_irrefl _)
  have hneI : e0 ≠ s.heap.objs.size := Nat.ne_of_lt (Heap.lt_size he)
  have keep2 : ∀ b o, s.heap.get? b = some o → ((s.heap.push { cls := .type "list_iterator", data := .fields #[.ref l, .int 0 0] }).push { cls := .type "list", data := .seq [Value.ref e0].toArray }).get? b = some o := fun b o e =>
    Heap.get?_push_of_some _ (Heap.get?_push_of_some _ e)
  refine wpAny_pure ⟨plainId_quiet F.plain_sum_loop _, sum_parts_loop W (s.heap.push { cls := .type "list_iterator", data := .fields #[.ref l, .int 0 0] }).objs.size ?_ parts (by simp) (fun i v hv => ?_) s.heap hparts (none_of _ (by rw [hsz1]; exact Nat.le_succ _)) (fun b hb => ?_) (fun i h st b hb => ?_) hsz e0 (by rw [hsz1]; exact Nat.le_succ _) _ 0 { s with heap := (s.heap.push { cls := .type "list_iterator", data := .fields #[.ref l, .int 0 0] }).push { cls := .type "list", data := .seq [Value.ref e0].toArray } } e0 0 n0 rfl (Nat.zero_le _)
    ⟨⟨_, Heap.get?_push_of_some _ (Heap.get?_push_size _ rfl), rfl, rfl⟩, ?_⟩ keep2 ?_ (keep2 _ _ he) ?_ ?_ (.inl ⟨rfl, rfl⟩) fun h' tk q' m' hk hq hor => ?_⟩
  · rw [hsz1]
    simp only [List.mem_cons, List.not_mem_nil, or_false, not_or]
    exact ⟨Nat.succ_ne_self _, fun z => by
      have q := Heap.lt_size hol
      rw [← z] at q
      exact absurd q (Nat.not_lt.mpr (Nat.le_succ _))⟩
  · have hv' : (parts.map fun p => Value.ref p.1)[i]? = some v := by simpa using hv
    rw [List.getElem?_map] at hv'
    cases hq : parts[i]? with
    | none => rw [hq] at hv'; cases hv'
    | some p =>
      rw [hq] at hv'
      exact ⟨p, rfl, (Option.some.inj hv').symm⟩
  · rw [List.mem_singleton.mp hb]
    exact none_of _ (Nat.le_refl _)
  · rw [List.mem_singleton.mp hb]
    obtain ⟨o, ho, _⟩ := st.1
    exact ⟨o, ho⟩
  · obtain ⟨o, ho, hr⟩ := id hl
    exact ⟨o, keep2 _ _ ho, hr⟩
  · exact Heap.get?_push_size _ rfl
  · intro z
    have q := Heap.lt_size he
    rw [hsz1] at z
    rw [z] at q
    exact absurd q (Nat.not_lt.mpr (Nat.le_succ _))
  · intro hb
    exact hneI (List.mem_singleton.mp hb)
  · refine h h' tk q' m' hk hq ?_
    rcases hor with ⟨h1, h2⟩ | ⟨_, h2⟩
    · refine .inl ⟨?_, h2⟩
      have : parts.length = 0 := by simpa using h1
      exact List.eq_nil_of_length_eq_zero this
    · exact .inr h2
end
section
variable {X : Cx}
/-- sum(xss, []), lists of what is read -/
def rSumL (K : PySem.W.Frag) : List V → Hp → VK → Prop := fun vs H Q => ∃ (l e0 : Addr) (parts : List (Addr × List V)), vs = [.ref l, .ref e0] ∧ SqL K H l (parts.map fun p => V.ref p.1) ∧ (∀ p ∈ parts, H p.1 = some (.lst p.2)) ∧ H e0 = some (.lst []) ∧ ((parts.map (·.2)).flatten).length ≤ sizeLine ∧
  (parts = [] → Q (.ref e0) H) ∧ ∀ p, H p = none → Q (.ref p) (upd H p (.lst (parts.map (·.2)).flatten))
theorem parts_raw {pins : List (Addr × Obj)} {σ : L2.St} {H : Hp} {s : Shared} (I : Inv X pins σ H s) : ∀ (parts : List (Addr × List V)), (∀ p ∈ parts, H p.1 = some (.lst p.2)) →
    ∃ qs : List (Addr × List Value), (qs.map fun q => Value.ref q.1) = (parts.map fun p => Value.ref p.1) ∧ (∀ q ∈ qs, ∃ k, s.heap.get? q.1 = some (lstO q.2.toArray k)) ∧ Vals ((parts.map (·.2)).flatten) ((qs.map (·.2)).flatten)
  | [], _ => ⟨[], rfl, fun q hq => absurd hq (by simp), .nil⟩
  | p :: ps, h => by
    obtain ⟨qs, e1, e2, e3⟩ := parts_raw I ps fun q hq => h q (List.mem_cons_of_mem _ hq)
    obtain ⟨z, its, n, r, hl, e⟩ := I.lstM (h p List.mem_cons_self)
    refine ⟨(p.1, its) :: qs, by rw [List.map_cons, List.map_cons, e1], fun q hq => ?_, ?_⟩
    · rcases List.mem_cons.mp hq with rfl | hq
      · exact ⟨n, e⟩
      · exact e2 q hq
    · rw [List.map_cons, List.map_cons, List.flatten_cons, List.flatten_cons]
      exact r.append e3
theorem refs_raw : ∀ {as : List Addr} {us : List Value}, Vals (as.map V.ref) us → us = as.map Value.ref
  | [], _, .nil => rfl
  | a :: as, _, .cons r t => by
    cases r
    rw [refs_raw t]
    rfl
theorem cr_sumL (hc : X.calm = true) : CallR X (.builtin "sum") (rSumL X.K) := by
  intro pins s σ H vs us Q I r h
  obtain ⟨l, e0, parts, rfl, hl, hp, he, hz, q0, q1⟩ := h
  obtain ⟨u1, u2, rfl, r1, r2⟩ := vals2 r
  cases r1
  cases r2
  obtain ⟨its, rv, pl, _⟩ := I.list hl
  obtain ⟨_, its0, n0, r0, _, eo⟩ := I.lstM he
  cases r0
  obtain ⟨qs, e1, e2, e3⟩ := parts_raw I parts hp
  have ei : its = qs.map fun q => Value.ref q.1 := by
    have rv' : Vals ((parts.map (·.1)).map V.ref) its := by
      rw [List.map_map]
      exact rv
    rw [e1, refs_raw rv', List.map_map]
    rfl
  have hlen := e3.length
  refine call_sum_parts (I.ok.hd hc) qs (by rw [← ei]; exact pl.isList) e2 eo (by omega) fun h' tk q' m' hk hq hor => ?_
  have e4 : ((qs.map (·.2)).flatten).length = ((parts.map (·.2)).flatten).length := hlen.symm
  have fin : s.heap.objs.size ≤ q' → EP X pins σ Q (.ref q') { s with heap := h', toks := tk } := fun hn =>
    ⟨.ref q', upd H q' (.lst (parts.map (·.2)).flatten), I.laid (t' := tk) hk hn ⟨by omega, _, m', e3, hq⟩, rfl, q1 q' (I.hok.fresh hn)⟩
  rcases hor with ⟨hnil, rfl⟩ | hn
  · have eq : parts = [] := by
      have := congrArg List.length e1
      rw [hnil] at this
      simpa using this.symm
    exact ⟨.ref _, H, I.kept hk, rfl, q0 eq⟩
  · exact fin hn
end
end K3

set_option Elab.async false
set_option linter.all false
set_option maxRecDepth 100000
set_option maxHeartbeats 8000000
namespace K3
open PySem PySem.Spec PyProof.Rows L2
section
variable {P : Program} {w : World} {A : Around} {E : Value → Shared → Prop} {s : Shared}
/-- an empty set, as it is made -/
abbrev set0 (w : World) : Obj := { cls := .type "set", dict := none, data := .set #[] 0 (.fresh 0 0 (!w.params.followText "set-order")) }
abbrev withSet (w : World) (s : Shared) : Shared := { s with heap := s.heap.push (set0 w) }
/-- set(a): the new set at the heap's end, then what set.__init__ puts in -/
theorem set_shell {a : Value} {Q : Value → Shared → Prop}
    (hu : wpAny (model P w) A.in1.in1 (Builtin.Frozenset.updateFrom "set.__init__" s.heap.objs.size a) (fun _ s2 => Q (.ref s.heap.objs.size) s2) E (withSet w s)) :
    wpAny (model P w) A (call (.type "set") [a]) Q E s := by
  obtain ⟨c, tl, hmro⟩ := F.called_set.mro
  have hmade := F.called_set.made
  have hsub := F.called_set.sub
  refine wpAny_call (codeAny_of_tree ?_)
  show wpAny _ _ (callAny (.type "set") _) _ _ _
  refine wpAny_pure ⟨Code.quiet_builtin _ (by decide +kernel), codeAny_builtin F.entry_type_call ?_⟩
  rw [Around.under_plain (weight_type_call_type "set" [a] []) rfl]
  have h1 := F.called_set.notType
  have h2 := F.called_set.canCreate
  have hct := F.typeCall_set_1 a
  repeat (any_goals (first | assumption | wp_step))
  refine codeAny_mono (code_set_led1 a (E := E) (Q₁ := fun obj s₁ => obj = .ref s.heap.objs.size ∧ s₁ = withSet w s) ⟨rfl, rfl⟩) fun r s₁ hr => ?_
  cases r with
  | error e => exact hr
  | ok fl =>
    cases fl with
    | ret obj =>
      obtain ⟨rfl, rfl⟩ := hr
      have hS : (withSet w s).heap.get? s.heap.objs.size = some (set0 w) := Heap.get?_push_size _ rfl
      have hT : Shared.TypeIs (withSet w s) (.ref s.heap.objs.size) "set" := ⟨_, hS, rfl⟩
      have hli := F.called_set.init.lookup
      have hbi := F.called_set.init.bind (.ref s.heap.objs.size)
      repeat (any_goals (first | assumption | wp_step))
      refine codeAny_mono (codeAny_call_builtin (R := wants (fun r s₂ => r = .none ∧ Q (.ref s.heap.objs.size) s₂) E) F.called_set.init.plain F.entry_set_init (check_set_init_1 hT ?_)) fun r₂ s₂ hr₂ => ?_
      · unfold Builtin.«set.__init__» noKeywords
        generalize hU : Builtin.Frozenset.updateFrom = U
        wp_walk
        subst hU
        exact wpAny_mono hu (fun _ s2 q => wpAny_pure ⟨rfl, q⟩) (fun _ _ z => z)
      · cases r₂ with
        | error e => exact hr₂
        | ok fl₂ =>
          cases fl₂ with
          | ret r =>
            obtain ⟨rfl, hq⟩ := hr₂
            repeat (any_goals (first | assumption | wp_step))
          | _ => exact hr₂.elim
    | _ => exact hr.elim
end
end K3

set_option Elab.async false
set_option linter.all false
set_option maxRecDepth 100000
set_option maxHeartbeats 8000000
namespace K3
open PySem PySem.Spec PyProof.Rows L2
section
variable {P : Program} {w : World} {A : Around} {E : Value → Shared → Prop} {s : Shared}
theorem new_none {h : Heap} {b : Addr} (hb : h.objs.size ≤ b) : h.get? b = none := by
  cases q : h.get? b with
  | none => rfl
  | some o => exact absurd (Nat.lt_of_lt_of_le (Heap.lt_size q) hb) (Nat.lt_irrefl _)
/-- what a list, a tuple gives is put in by the loop -/
theorem from_seq {T : String} {S : Addr} {a : Value} {Q : Unit → Shared → Prop} (hT : s.TypeIs a T) (f1 : isSubtype (.type T) (.type "set") = pure false) (f2 : isSubtype (.type T) (.type "frozenset") = pure false) (hd : (Value.type T == Value.type "dict") = false)
    (hit : wpAny (model P w) A (pyIter a) (fun it s2 => codeAny (model P w) A (.builtin "set.update.loop" ⟨[.ref S, it], []⟩) (fun r s3 => match r with | .ok (.ret _) => Q () s3 | .ok _ => False | .error e => E e s3) s2) E s) :
    wpAny (model P w) A (Builtin.Frozenset.updateFrom "set.__init__" S a) Q E s := by
  unfold Builtin.Frozenset.updateFrom
  generalize hPI : pyIter = PI
  wp_walk
  subst hPI
  refine wpAny_mono hit (fun it s2 h2 => wpAny_bind (wpAny_runValue (codeAny_mono h2 fun r s3 h3 => ?_))) (fun _ _ z => z)
  cases r with
  | error e => exact h3
  | ok fl =>
    cases fl with
    | ret v => exact wpAny_pure h3
    | _ => exact h3.elim
/-- set(xs), a list of ints -/
theorem set_list_ints {l : Addr} {items : Array Value} (ns : List Int) {Q : Value → Shared → Prop} (hh : A.handled = none) (hl : s.heap.IsList l items) (hit : IntsAre items.toList ns) (hb : ns.length + 1 < scanBound)
    (h : ∀ (h' : Heap) (tk c : Nat), SetR w h' s.heap.objs.size (fun j => decide (j ∈ ns)) c → c ≤ ns.length → (∀ b o, s.heap.get? b = some o → h'.get? b = some o) → Q (.ref s.heap.objs.size) { s with heap := h', toks := tk }) :
    wpAny (model P w) A (call (.type "set") [.ref l]) Q E s := by
  have hisz : items.size = ns.length := by
    have q := IntsAre.length hit
    rw [Array.length_toList] at q
    exact q
  obtain ⟨ol, hol, hlr⟩ := id hl
  have hS : (withSet w s).heap.get? s.heap.objs.size = some (set0 w) := Heap.get?_push_size _ rfl
  have hl1 : (withSet w s).heap.IsList l items := ⟨_, Heap.get?_push_of_some _ hol, hlr⟩
  have hz1 : (withSet w s).heap.objs.size = s.heap.objs.size + 1 := Heap.size_push ..
  have hlS : l < s.heap.objs.size := Heap.lt_size hol
  refine set_shell (from_seq hl1.typeIs F.sub_list_set F.sub_list_frozenset (by decide) (wpAny_pyIter_list hl1 ?_))
  have hh3 : A.in1.in1.in1.handled = none := by simp [hh]
  have hneI : l ≠ (withSet w s).heap.objs.size := by
    rw [hz1]
    exact Nat.ne_of_lt (Nat.lt_succ_of_lt hlS)
  have hSf : s.heap.objs.size ∉ [(withSet w s).heap.objs.size, l] := by
    rw [hz1]
    simp only [List.mem_cons, List.not_mem_nil, or_false, not_or]
    exact ⟨Nat.ne_of_lt (Nat.lt_succ_self _), Nat.ne_of_gt hlS⟩
  have hval : ∀ (i : Nat) (v : Value), items[i]? = some v → ∃ k t, ns[i]? = some k ∧ v = .int k t := fun i v hv => by
    have hi : i < ns.length := by
      rw [← hisz]
      exact (Array.getElem?_eq_some_iff.mp hv).1
    obtain ⟨t, e⟩ := PyProof.Rows.IntsAre.int_at hit i v (by rw [Array.getElem?_toList]; exact hv)
    refine ⟨ns[i], t, List.getElem?_eq_getElem hi, ?_⟩
    rw [e, List.getD_eq_getElem?_getD, List.getElem?_eq_getElem hi] <;> rfl
  refine set_update_ints ((Walks.list hh3 _ l hneI items).toS) s.heap.objs.size hSf ns hisz hb hval (items.size - 0) 0 _ rfl (Nat.zero_le _)
    ⟨⟨_, Heap.get?_push_size _ rfl, rfl, rfl⟩, hl1.push _⟩ ⟨0, Nat.le_refl 0, setR_new_at (Heap.get?_push_of_some _ hS)⟩ fun s' c' hm hc' hS' => ?_
  obtain ⟨h', g2, d', tk', os'⟩ := s'
  have eg : g2 = s.gens := hm.gens
  have ed : d' = s.drawn := hm.drawn
  have eo : os' = s.os := hm.os
  subst eg ed eo
  rw [hisz] at hc'
  refine h h' tk' c' hS' hc' fun b o e => ?_
  have hb0 : b < s.heap.objs.size := Heap.lt_size e
  refine hm.heap b o ?_ (Heap.get?_push_of_some _ (Heap.get?_push_of_some _ e))
  rw [hz1]
  simp only [List.mem_cons, List.not_mem_nil, or_false, not_or]
  exact ⟨Nat.ne_of_lt hb0, Nat.ne_of_lt (Nat.lt_succ_of_lt hb0)⟩
/-- set(t), a tuple of tuples of ints -/
theorem set_tuple_tups {l : Addr} {items : Array Value} (ks : List (Addr × List Int)) {Q : Value → Shared → Prop} (hh : A.handled = none) (hl : s.heap.IsTuple l items) (hit : items.toList = ks.map fun p => Value.ref p.1)
    (hk : ∀ p ∈ ks, IsT P w s.heap p.2 p.1) (hfew : ks.length < 64) (hu : A.units + 3 < cLine)
    (h : ∀ (h' : Heap) (tk : Nat) L es ep t, SetTR P w h' s.heap.objs.size L es ep t → Got ks ks.length L → (∀ b o, s.heap.get? b = some o → h'.get? b = some o) → Q (.ref s.heap.objs.size) { s with heap := h', toks := tk }) :
    wpAny (model P w) A (call (.type "set") [.ref l]) Q E s := by
  have hisz : items.size = ks.length := by
    have q := congrArg List.length hit
    rw [Array.length_toList, List.length_map] at q
    exact q
  obtain ⟨ol, hol, hlr⟩ := id hl
  have hS : (withSet w s).heap.get? s.heap.objs.size = some (set0 w) := Heap.get?_push_size _ rfl
  have hl1 : (withSet w s).heap.IsTuple l items := ⟨_, Heap.get?_push_of_some _ hol, hlr⟩
  have hz1 : (withSet w s).heap.objs.size = s.heap.objs.size + 1 := Heap.size_push ..
  have hlS : l < s.heap.objs.size := Heap.lt_size hol
  refine set_shell (from_seq hl1.typeIs F.sub_tuple_set F.sub_tuple_frozenset (by decide) (wpAny_pyIter_tuple hl1 ?_))
  have hh3 : A.in1.in1.in1.handled = none := by simp [hh]
  have hneI : l ≠ (withSet w s).heap.objs.size := by
    rw [hz1]
    exact Nat.ne_of_lt (Nat.lt_succ_of_lt hlS)
  have hSf : s.heap.objs.size ∉ [(withSet w s).heap.objs.size, l] := by
    rw [hz1]
    simp only [List.mem_cons, List.not_mem_nil, or_false, not_or]
    exact ⟨Nat.ne_of_lt (Nat.lt_succ_self _), Nat.ne_of_gt hlS⟩
  have hval : ∀ (i : Nat) (v : Value), items[i]? = some v → ∃ p, ks[i]? = some p ∧ v = .ref p.1 := fun i v hv => by
    have q : items.toList[i]? = some v := by
      rw [Array.getElem?_toList]
      exact hv
    rw [hit, List.getElem?_map] at q
    cases hq : ks[i]? with
    | none =>
      rw [hq] at q
      cases q
    | some p =>
      rw [hq] at q
      exact ⟨p, rfl, (Option.some.inj q).symm⟩
  refine set_update_tups ((Walks.tuple hh3 _ l hneI items).toS) s.heap.objs.size hSf ks hisz hfew hval s.heap hk (new_none (Nat.le_refl _)) (fun b hb => new_none (by
      rw [List.mem_singleton.mp hb, hz1]
      exact Nat.le_succ _)) hu (items.size - 0) 0 _ rfl (Nat.zero_le _)
    ⟨⟨_, Heap.get?_push_size _ rfl, rfl, rfl⟩, hl1.push _⟩ (fun b o e => Heap.get?_push_of_some _ (Heap.get?_push_of_some _ e)) ⟨[], #[], 0, _, setTR_fresh (Heap.get?_push_of_some _ hS), Got.zero ks⟩ fun s' L es ep t hm hS' g' hkp => ?_
  obtain ⟨h', g2, d', tk', os'⟩ := s'
  have eg : g2 = s.gens := hm.gens
  have ed : d' = s.drawn := hm.drawn
  have eo : os' = s.os := hm.os
  subst eg ed eo
  rw [hisz] at g'
  exact h h' tk' L es ep t hS' g' hkp
end
end K3

set_option Elab.async false
set_option linter.all false
set_option maxRecDepth 100000
set_option maxHeartbeats 8000000
namespace K3
open PySem PySem.Spec PyProof.Rows L2
/-! ### set(d), d a dict with int keys -/
def roomOk (n : Nat) (b : Bool) : Bool := match (SetTable.fresh 0 0 b).roomFor n with
  | none => true
  | some wd => !decide (SetTable.sizeAbove wd > sizeLine) && ((SetTable.fresh 0 0 b).relaid #[] wd).any fun p => p.1.fits 0
theorem roomOk_all : ((List.range 21).all fun n => roomOk n true && roomOk n false) = true := by decide +kernel
theorem roomOk_at {n : Nat} (h : n ≤ 20) (b : Bool) : roomOk n b = true := by
  have q := List.all_eq_true.mp roomOk_all n (List.mem_range.mpr (by omega))
  obtain ⟨q1, q2⟩ := Bool.and_eq_true_iff.mp q
  cases b
  · exact q2
  · exact q1
section
variable {P : Program} {w : World} {A : Around} {E : Value → Shared → Prop} {s : Shared}
theorem room_made {S n : Nat} {Q : Unit → Shared → Prop} (ho : s.heap.get? S = some (set0 w)) (hn : n ≤ 20)
    (hQ : ∀ h', Heap.SameBut S s.heap h' → SetR w h' S (fun _ => false) 0 → Q () { s with heap := h' }) : wpAny (model P w) A (setRoomFor S n) Q E s := by
  have ok := roomOk_at hn (!w.params.followText "set-order")
  have R0 : SetR w s.heap S (fun _ => false) 0 := (setR_new_at (ns := []) ho).congr fun k => by simp
  have hf : (SetTable.fresh 0 0 (!w.params.followText "set-order")).fits (#[] : Array (Int × Value)).size = true := rfl
  unfold setRoomFor
  refine wpAny_bind (wpAny_setState_of ho rfl hf ?_)
  dsimp only
  unfold roomOk at ok
  cases hr : (SetTable.fresh 0 0 (!w.params.followText "set-order")).roomFor n with
  | none => exact wpAny_pure (hQ s.heap (Heap.SameBut.refl S s.heap) R0)
  | some wd =>
    rw [hr] at ok
    obtain ⟨ok1, ok2⟩ := Bool.and_eq_true_iff.mp ok
    have nbig : ¬ SetTable.sizeAbove wd > sizeLine := by simpa using ok1
    obtain ⟨⟨t', order⟩, hl, hfit⟩ : ∃ p, (SetTable.fresh 0 0 (!w.params.followText "set-order")).relaid #[] wd = some p ∧ p.1.fits 0 = true := by
      cases hq : (SetTable.fresh 0 0 (!w.params.followText "set-order")).relaid #[] wd with
      | none => rw [hq] at ok2; cases ok2
      | some p => rw [hq] at ok2; exact ⟨p, rfl, ok2⟩
    show wpAny (model P w) A (setRelay S wd) _ _ _
    rw [setRelay_eq]
    refine wpAny_bind (wpAny_setState_of ho rfl hf ?_)
    dsimp only
    rw [if_neg nbig]
    have em : (#[] : Array (Int × Value)).map (·.1) = #[] := by simp
    have eo : (order.filterMap fun i => (#[] : Array (Int × Value))[i]?) = #[] := by simp
    refine wpAny_bind ?_
    rw [em, hl]
    dsimp only
    rw [eo]
    simp only [Array.size_empty, bne_self_eq_false, Bool.false_eq_true, if_false]
    refine wpAny_pure ?_
    obtain ⟨hr1, hr2⟩ := relaid_ris hl
    refine wpAny_storeSet_of ho rfl ?_ ?_
    · refine hQ _ (Heap.SameBut.update s.heap S _) ⟨_, #[], _, t', store_at ho rfl, ⟨rfl, rfl, rfl⟩, rfl, fun e he => absurd he (by simp), List.nodup_nil, fun k => ?_, by decide, hfit, rfl, hr1, ?_⟩
      · simp
      · rw [hr2]
        show _ ∨ (!w.params.followText "set-order") = true
        cases w.params.followText "set-order"
        · exact .inr rfl
        · exact .inl rfl
    · exact Nat.zero_le _
theorem sub_dict_set : isSubtype (.type "dict") (.type "set") = pure false := by rw [isSubtype_type]; kernel_rfl
theorem sub_dict_frozenset : isSubtype (.type "dict") (.type "frozenset") = pure false := by rw [isSubtype_type]; kernel_rfl
theorem from_dict {S d : Addr} {o : Obj} {es : Array DictEntry} {ep : Nat} {ns : List Int} {Q : Unit → Shared → Prop} (ho : s.heap.get? d = some o) (hx : o.ExactDict) (hd : o.data = .dict es ep) (hm : (d == sysModules) = false)
    (hes : es.size = ns.length) (hk : ∀ (i : Nat) (e : DictEntry), es[i]? = some e → ∃ k t, ns[i]? = some k ∧ e.key = Value.int k t ∧ e.hash = hashInt k) (hn : ns.length ≤ 20) (hSd : S ≠ d) (hS : s.heap.get? S = some (set0 w))
    (hQ : ∀ h' c, Heap.SameBut S s.heap h' → SetR w h' S (fun j => decide (j ∈ ns)) c → c ≤ ns.length → Q () { s with heap := h' }) :
    wpAny (model P w) A (Builtin.Frozenset.updateFrom "set.__init__" S (.ref d)) Q E s := by
  have hT : s.TypeIs (.ref d) "dict" := ⟨o, ho, hx.1⟩
  have f1 := sub_dict_set
  have f2 := sub_dict_frozenset
  unfold Builtin.Frozenset.updateFrom
  generalize hSR : setRoomFor = SR
  wp_walk
  rw [hd]
  refine wpAny_pure ?_
  subst hSR
  have hlen : es.size ≤ 20 := by omega
  refine wpAny_bind (wpAny_dictEntries ho hd ?_)
  refine wpAny_bind (room_made hS hlen fun h1 sb1 R1 => ?_)
  have ho1 : h1.get? d = some o := (sb1.2 d (Ne.symm hSd)).trans ho
  refine wpAny_bind (wpAny_dictEntries ho1 hd ?_)
  refine wpAny_bind (PySem.SeqAt.wpAny_forIn_span 0 es.size _ (fun i _ s' => ∃ h2 c, s' = { s with heap := h2 } ∧ c ≤ i ∧ Heap.SameBut S s.heap h2 ∧ SetR w h2 S (fun j => decide (j ∈ ns.take i)) c) _ ?turn ?fin _ ⟨h1, 0, rfl, Nat.le_refl 0, sb1, R1.congr fun k => by simp⟩)
  case turn =>
    rintro i _ _ _ hi ⟨h2, c, rfl, hc, sb2, R2⟩
    have ho2 : h2.get? d = some o := (sb2.2 d (Ne.symm hSd)).trans ho
    refine wpAny_bind (wpAny_dictEntries ho2 hd ?_)
    obtain ⟨e, he⟩ : ∃ e, es[i]? = some e := ⟨_, Array.getElem?_eq_getElem hi⟩
    obtain ⟨k, t, hk1, hk2, hk3⟩ := hk i e he
    rw [he]
    dsimp only
    rw [hk2, hk3]
    refine wpAny_bind (wpAny_holding ?_)
    have hin : (k : Int) ∈ ns := List.mem_of_getElem? hk1
    refine setR_add_hashed (s := { s with heap := h2 }) R2 (by
      have : (scanBound : Nat) = 4096 := rfl
      omega) fun h3 sb3 R3 => ?_
    have ho3 : h3.get? d = some o := (sb3.2 d (Ne.symm hSd)).trans ho2
    refine wpAny_bind (wpAny_dictEpoch ho3 hd ?_)
    simp only [bne_self_eq_false, Bool.false_eq_true, if_false]
    refine wpAny_pure ⟨h3, _, rfl, ?_, sb2.trans sb3, R3.congr fun j => ?_⟩
    · split <;> omega
    · rw [List.take_add_one, hk1]
      simp [List.mem_append]
  case fin =>
    rintro _ _ ⟨h2, c, rfl, hc, sb2, R2⟩
    refine wpAny_pure (hQ h2 c sb2 (R2.congr fun j => ?_) (by omega))
    have e : max 0 es.size = ns.length := by omega
    rw [e, List.take_length]
end
end K3

set_option Elab.async false
set_option linter.all false
set_option maxRecDepth 100000
set_option maxHeartbeats 8000000
namespace K3
open PySem PySem.Spec PyProof.Rows L2
/-! ### sorted(t), t a tuple of tuples of ints -/
section
variable {P : Program} {w : World} {A : Around} {E : Value → Shared → Prop} {s : Shared}
/-- the heap behind the items' list -/
abbrev heldAt (h : Heap) (vs : List Value) : Heap := (h.push (seqObj "list" #[] 0)).update h.objs.size (Obj.mapSeq (· ++ vs.toArray))
theorem collect_tup {l : Addr} {vs : List Value} {Q : List Value → Shared → Prop} (hl : s.heap.IsTuple l vs.toArray) (h : Q vs { s with heap := heldAt s.heap vs }) (hsz : vs.length ≤ sizeLine) :
    wpAny (model P w) A (collect (.ref l)) Q E s := by
  obtain ⟨o, ho, hc, n, hd⟩ := id hl
  unfold collect
  refine wpAny_bind (wpAny_runValue (codeAny_builtin entry_proto_collect' ?_))
  show wpAny _ _ (do again (.builtin "list.__iadd__" ⟨[← newList [], .ref l], []⟩)) _ _ s
  refine wpAny_bind (wpAny_newList (wpAny_pure ⟨Code.quiet_builtin _ (by decide +kernel), codeAny_builtin entry_list_iadd' ?_⟩))
  show wpAny _ _ (Builtin.List.listExtendWith (.ref s.heap.objs.size) (.ref l) (.ref s.heap.objs.size)) _ _ { s with heap := s.heap.push (seqObj "list" #[] 0) }
  unfold Builtin.List.listExtendWith
  have hne : l ≠ s.heap.objs.size := Nat.ne_of_lt (Heap.lt_size ho)
  have ho' : (s.heap.push (seqObj "list" #[] 0)).get? l = some o := Heap.get?_push_of_some _ ho
  refine wpAny_bind (wpAny_typeOf (T := "tuple") ⟨o, ho', hc⟩ ?_)
  have ht : (Builtin.List.listSameRef (.ref s.heap.objs.size) (.ref l) || Value.type "tuple" == Value.type "list" || Value.type "tuple" == Value.type "tuple") = true := by simp
  rw [if_pos ht]
  refine wpAny_bind (listItems_at ho' hd ?_)
  refine wpAny_bind (listItems_at (xs := #[]) (n := 0) (Heap.get?_push_size _ rfl) rfl ?_)
  rw [if_neg (by simp)]
  refine wpAny_bind (listUpdate_at (xs := #[]) (n := 0) (Heap.get?_push_size _ rfl) rfl ?_ (Nat.zero_le _) (by
    show (#[] ++ vs.toArray).size ≤ sizeLine + 1
    simp only [Array.size_append, List.size_toArray, List.length_nil]
    omega))
  refine wpAny_pure ?_
  show wpAny (model P w) A (do
      let o ← load s.heap.objs.size
      match o.data with
      | .seq xs _ => pure xs.toList
      | _ => unsupported "internal:collect") Q E { s with heap := heldAt s.heap vs }
  refine wpAny_bind (wpAny_load (get?_update_seq (Heap.get?_push_size _ rfl) _) ?_)
  show wpAny _ _ (pure ((#[] : Array Value) ++ vs.toArray).toList) Q E _
  have e : ((#[] : Array Value) ++ vs.toArray).toList = vs := by simp
  rw [e]
  exact wpAny_pure h
theorem sorted_tupleT {l : Addr} {vs : List Value} {d : Nat} {B : Int} {Q : Value → Shared → Prop} (hl : s.heap.IsTuple l vs.toArray) (h64 : vs.length < 64) (hd : 1 ≤ d) (x : TS.TupsOk s.heap d B vs)
    (h : ∀ out : Array Value, out.toList.Perm vs → out.toList.Pairwise (fun u v => TS.code B (TS.intsOf s.heap u) ≤ TS.code B (TS.intsOf s.heap v)) → Q (.ref (s.heap.objs.size + 1)) { s with heap := sortedAll s.heap vs out }) :
    wpAny (model P w) A (call (.builtin "sorted") [.ref l]) Q E s := by
  refine Calls.call_function_entry kind_sorted plain_sorted entry_sorted (args_sorted1 _) ?_
  unfold Builtin.«sorted»
  have small : vs.length ≤ sizeLine := by
    rw [sizeLine_eq]
    omega
  refine wpAny_bind (m := checkCount "sorted" 1 1 _) (wpAny_pure ?_)
  refine wpAny_bind (collect_tup hl ?_ small)
  refine wpAny_bind (wpAny_newList ?_ small)
  have hsz : (heldAt s.heap vs).objs.size = s.heap.objs.size + 1 := by rw [Heap.size_update, size_push']
  have hoL : ((heldAt s.heap vs).push (seqObj "list" vs.toArray 0)).get? (s.heap.objs.size + 1) = some (seqObj "list" vs.toArray 0) := by
    rw [← hsz]
    exact Heap.get?_push_size _ rfl
  have keep : ∀ b o, s.heap.get? b = some o → o.cls = .type "tuple" → ((heldAt s.heap vs).push (seqObj "list" vs.toArray 0)).get? b = some o := fun b o q _ => by
    have hlt : b < s.heap.objs.size := Heap.lt_size q
    rw [Heap.get?_push_ne _ _ _ (by rw [hsz]; exact Nat.ne_of_lt (Nat.lt_succ_of_lt hlt)), Heap.get?_update_ne _ _ _ _ (Nat.ne_of_lt hlt), Heap.get?_push_ne _ _ _ (Nat.ne_of_lt hlt)]
    exact q
  show wpAny _ _ _ _ _ { s with heap := (heldAt s.heap vs).push (seqObj "list" vs.toArray 0) }
  rw [hsz]
  refine wpAny_bind (wpAny_holding (wpAny_call_entry slot_list_sort ⟨_, hoL, rfl⟩ entry_list_sort (TS.sort_tups hoL h64 hd (x.keeps keep) (fun v => TS.code B (TS.intsOf s.heap v)) (fun v hv ns t => ?_) fun out a1 a2 => ⟨_, rfl, ?_⟩) (args_list_sort _)))
  · obtain ⟨ns0, t0, _⟩ := x v hv
    have e : ns = ns0 := t.ints.symm.trans (t0.keeps keep).ints
    rw [e]
    show TS.code B (TS.intsOf s.heap v) = TS.code B ns0
    rw [t0.ints]
  · exact wpAny_pure ⟨_, rfl, h out a1 a2⟩
end
/-! ### the rules by values -/
section
variable {X : Cx}
theorem ints_raw : ∀ {ns : List Int} {us : List Value}, Vals (ns.map V.int) us → IntsAre us ns
  | [], _, .nil => .nil
  | n :: ns, _, .cons r t => by
    obtain ⟨k, rfl⟩ := r
    exact .cons n k (ints_raw t)
/-- set(xs), xs a list of ints -/
def rSetI (K : PySem.W.Frag) (w : World) : List V → Hp → VK → Prop := fun xs H Q => ∃ (l : Addr) (ns : List Int), xs = [V.ref l] ∧ SqL K H l (ns.map V.int) ∧ ns.length ≤ 1000 ∧
  ∀ p c, H p = none → c ≤ ns.length → Q (.ref p) (upd H p (SetO w p (fun j => decide (j ∈ ns)) c))
theorem cr_setI (hc : X.calm = true) : CallR X (.type "set") (rSetI X.K X.w) := by
  intro pins s σ H xs us Q I r h
  obtain ⟨l, ns, rfl, hl, hn, q⟩ := h
  rw [Vals.ref1 r]
  obtain ⟨its, rv, pl, hz⟩ := I.list hl
  refine set_list_ints (P := X.prog) (w := X.w) ns (I.ok.hd hc) pl.isList (by simpa using ints_raw rv) (by
    have : (scanBound : Nat) = 4096 := rfl
    omega) fun h' tk c R hcl k => ?_
  exact ⟨.ref s.heap.objs.size, _, I.laid (t' := tk) k (Nat.le_refl _) (setO_new R), rfl, q _ c (I.hok.fresh (Nat.le_refl _)) hcl⟩
theorem dict_keys {P : Program} {w : World} {es : List DictEntry} {vs : List (Key × Value)} (hp : Pairs (mixKind P w) es vs) : ∀ (kvs : List (Key × V)) (ns : List Int) (i : Nat) (e : DictEntry), KV kvs vs → kvs.map (·.1) = ns.map Sum.inl → es[i]? = some e →
    ∃ k, ns[i]? = some k ∧ (mixKind P w).is (.inl k) e.key = true := by
  induction hp with
  | nil =>
    intro _ _ _ _ _ _ h
    simp at h
  | cons h1 h2 _ ih =>
    intro kvs ns i e kv hm h
    cases kv with
    | cons r t =>
      cases ns with
      | nil => simp at hm
      | cons n ns =>
        rw [List.map_cons, List.map_cons] at hm
        obtain ⟨m1, m2⟩ := List.cons.inj hm
        cases i with
        | zero =>
          have h' := Option.some.inj h
          subst h'
          refine ⟨n, rfl, ?_⟩
          rw [← m1, r.1]
          exact h1
        | succ i => exact ih _ ns i e t m2 h
/-- set(d), d a dict with int keys -/
def rSetD (w : World) : List V → Hp → VK → Prop := fun xs H Q => ∃ (l : Addr) (kvs : List (Key × V)) (ns : List Int), xs = [V.ref l] ∧ H l = some (.dK kvs) ∧ kvs.map (·.1) = ns.map Sum.inl ∧ ns.length ≤ 20 ∧
  ∀ p c, H p = none → c ≤ ns.length → Q (.ref p) (upd H p (SetO w p (fun j => decide (j ∈ ns)) c))
theorem cr_setD (hc : X.calm = true) : CallR X (.type "set") (rSetD X.w) := by
  intro pins s σ H xs us Q I r h
  obtain ⟨l, kvs, ns, rfl, hl, hk, hn, q⟩ := h
  rw [Vals.ref1 r]
  obtain ⟨_, hm, vs, kv, o, es, ep, ho, hx, hd, hks, hp, hnd⟩ := (show ObjOk X.prog X.w H s.heap l (.dK kvs) from I.hok l _ hl)
  have hlS : l < s.heap.objs.size := Heap.lt_size ho
  have hes : es.size = ns.length := by
    have e1 := hp.length
    have e2 := Paired.length kv
    have e3 := congrArg List.length hk
    rw [List.length_map, List.length_map] at e3
    rw [Array.length_toList] at e1
    omega
  have ent : ∀ (i : Nat) (e : DictEntry), es[i]? = some e → ∃ k t, ns[i]? = some k ∧ e.key = Value.int k t ∧ e.hash = hashInt k := fun i e he => by
    have he' : es.toList[i]? = some e := by
      rw [Array.getElem?_toList]
      exact he
    obtain ⟨k, hk1, hk2⟩ := dict_keys hp kvs ns i e kv hk he'
    rcases keyIs_shape (show keyIs (.inl k) e.key = true from hk2) with ⟨j, t, e1, e2⟩ | ⟨x, t, e1, e2⟩
    · cases e1
      obtain ⟨k2, hk3, hk4⟩ := hks e (List.mem_of_getElem? he' |> fun h => by simpa using h)
      refine ⟨k, t, hk1, e2, ?_⟩
      have e3 : (Sum.inl k : Key) = k2 := (mixKind X.prog X.w).inj e.key _ _ hk2 hk3
      rw [hk4, ← e3]
      rfl
    · cases e1
  have hSz : (withSet X.w s).heap.get? l = some o := Heap.get?_push_of_some _ ho
  refine set_shell (from_dict (s := withSet X.w s) hSz hx hd hm hes ent hn (Nat.ne_of_gt hlS) (Heap.get?_push_size _ rfl) fun h' c sb R hcl => ?_)
  have k : ∀ b o, s.heap.get? b = some o → h'.get? b = some o := fun b o e => (sb.2 b (Nat.ne_of_lt (Heap.lt_size e))).trans (Heap.get?_push_of_some _ e)
  exact ⟨.ref s.heap.objs.size, _, I.laid (t' := s.toks) k (Nat.le_refl _) (setO_new R), rfl, q _ c (I.hok.fresh (Nat.le_refl _)) hcl⟩
/-- set(t), t a tuple of tuples of ints -/
def rSetTT (K : PySem.W.Frag) (P : Program) (w : World) : List V → Hp → VK → Prop := fun xs H Q => ∃ (l : Addr) (ks : List (Addr × List Int)), xs = [V.ref l] ∧ SqT K H l (ks.map fun p => V.ref p.1) ∧ (∀ p ∈ ks, SqT K H p.1 (p.2.map V.int)) ∧ ks.length < 64 ∧
  ∀ a L, H a = none → (∀ p ∈ L, p ∈ ks) → (∀ p ∈ ks, p.2 ∈ L.map (·.2)) → Q (.ref a) (upd H a (SetTO P w a L))
theorem cr_setTT (hc : X.calm = true) (hu : X.A.units + 64 < cLine) : CallR X (.type "set") (rSetTT X.K X.prog X.w) := by
  intro pins s σ H xs us Q I r h
  obtain ⟨l, ks, rfl, hl, hk, hf, q⟩ := h
  rw [Vals.ref1 r]
  obtain ⟨its, rv, ⟨o, ho, hoc, n, hod⟩, hz⟩ := I.tuple hl
  refine set_tuple_tups (P := X.prog) (w := X.w) ks (I.ok.hd hc) (items := its.toArray) ⟨o, ho, hoc, n, hod⟩ (by simpa using refs_of_vals rv) (fun p hp => I.isT (hk p hp)) hf (by omega) fun h' tk L es ep t R g k => ?_
  refine ⟨.ref s.heap.objs.size, upd H s.heap.objs.size (SetTO X.prog X.w s.heap.objs.size L), I.laid (t' := tk) k (Nat.le_refl _) (setTO_new R.t0), rfl, q _ L (I.hok.fresh (Nat.le_refl _)) (fun p hp => ?_) fun p hp => ?_⟩
  · exact List.mem_of_mem_take (g.sub p hp)
  · exact g.all p (by rw [List.take_length]; exact hp)
/-- sorted(t), t a tuple of fewer than 64 tuples of d ints in [0, B) -/
def rSortTU (K : PySem.W.Frag) (d : Nat) (B : Int) : List V → Hp → VK → Prop := fun vs H Q => ∃ (a : Addr) (ks : List (Addr × List Int)), vs = [V.ref a] ∧ SqT K H a (ks.map fun p => V.ref p.1) ∧ (∀ p ∈ ks, SqT K H p.1 (p.2.map V.int) ∧ p.2.length = d ∧ TS.Bd B p.2) ∧ ks.length < 64 ∧
  ∀ (ys : List V) (p : Addr), ys.Perm (ks.map fun p => V.ref p.1) → H p = none → Q (.ref p) (upd H p (.lst ys))
theorem cr_sortTU {d : Nat} {B : Int} (hd : 1 ≤ d) : CallR X (.builtin "sorted") (rSortTU X.K d B) := by
  intro pins s σ H vs us Q I r h
  obtain ⟨a, ks, rfl, hs, hk, h64, q⟩ := h
  obtain ⟨its, rv, ⟨o, ho, hoc, n, hod⟩, hz⟩ := I.tuple hs
  rw [Vals.ref1 r]
  have eits := refs_of_vals rv
  subst eits
  refine sorted_tupleT (d := d) (B := B) (vs := ks.map fun p => Value.ref p.1) ⟨o, ho, hoc, n, hod⟩ (by rw [List.length_map]; exact h64) hd (fun v hv => ?_) fun out h1 h2 => ?_
  · obtain ⟨p, hp, rfl⟩ := List.mem_map.mp hv
    obtain ⟨hp1, hp2, hp3⟩ := hk p hp
    exact ⟨p.2, tupI_raw I hp1, hp2, hp3⟩
  · obtain ⟨ep, he'⟩ := PyProof.Rows.sortedAll_at s.heap (ks.map fun p => Value.ref p.1) out
    have h3 : ∀ u ∈ out.toList, ∃ a, u = Value.ref a := fun u hu => by
      obtain ⟨p, _, e⟩ := List.mem_map.mp (h1.mem_iff.mp hu)
      exact ⟨p.1, e.symm⟩
    have hp : (out.toList.map bkV).Perm (ks.map fun p => V.ref p.1) := by
      have z := h1.map bkV
      rw [List.map_map] at z
      exact z
    have hlen : (out.toList.map bkV).length ≤ sizeLine := by
      rw [hp.length_eq]
      exact hz
    exact ⟨.ref _, upd H (s.heap.objs.size + 1) (.lst (out.toList.map bkV)), I.laid (t' := s.toks) (fun _ _ => PyProof.Rows.sortedAll_old) (Nat.le_succ _) ⟨hlen, out.toList, ep, bkV_vals h3, he'⟩, rfl, q _ _ hp (I.hok.fresh (Nat.le_succ _))⟩
end
end K3

set_option Elab.async false
set_option linter.all false
set_option maxRecDepth 100000
set_option maxHeartbeats 8000000
namespace K3
open PySem PySem.Spec PyProof.Rows L2
/-! ### NoJack, an own error over LookupError with an __init__ that stores its one argument -/
/-- the base of NoJack -/
def leB : List Value := [.type "LookupError", .type "Exception", .type "BaseException", .type "object"]
def njArgs (p1 p2 : Pos) : Arguments := { posonlyargs := [], args := [{ arg := "self", annotation := none, pos := p1 }, { arg := "jack", annotation := none, pos := p2 }], vararg := none, kwonlyargs := [], kw_defaults := [], kwarg := none, defaults := [] }
def njBody (q1 q2 q3 q4 : Pos) : List Stmt := [.Assign [.Attribute (.Name "self" q1) "jack" q2] (.Name "jack" q3) q4]
def njScope : Scope := { kind := .function, names := [(PySem.Str.ofString "self", .local), (PySem.Str.ofString "jack", .local)], isGenerator := false, isCoroutine := false, more := [] }
/-- what the written part says of NoJack, at C, and of its __init__, at fI -/
structure NjTxt (K : PySem.W.Frag) (mg : Str → Option Value) (C fI : Addr) : Prop where
  gC : mg "NoJack" = some (.ref C)
  cls : PySem.W.excInitIn K C leB "LookupError.__new__" = true
  sa : PySem.W.findIn K (.ref C) "__setattr__" = some (some (.builtin "object.__setattr__"))
  ga : PySem.W.findIn K (.ref C) "__getattribute__" = some (some (.builtin "BaseException.__getattribute__"))
  gg : PySem.W.findIn K (.ref C) "__getattr__" = some none
  noN : PySem.W.findIn K (.ref C) "jack" = some none
  iC : PySem.W.findIn K (.ref C) "__init__" = some (some (.ref fI))
  tC : PySem.W.typeIn K (.ref fI) = some (.type "function")
  kC : PySem.W.keepIn K (.ref C) = true
  exC : PySem.W.subIn K (.ref C) (.type "BaseException") = some true
  tyC : PySem.W.typeIn K (.ref C) = some (.type "type")
  hdC : PySem.W.hasDictIn K C = true
  te : PySem.W.exmOne K (.ref C) (.ref C) = some true
  ca : PySem.W.findIn K (.ref C) "__class__" = some (some (.builtin "object.__class__"))
  sp : PySem.W.specialIn K (.builtin "object.__class__") "__get__" = some (some (.builtin "getset_descriptor.__get__"))
  tk : PySem.W.takesIn K (.builtin "object.__class__") = some true
  mr : PySem.W.mroIn K C (.type "object") = some true
  le : PySem.W.kitOne K (.ref C) (.type "LookupError") = some true
  fn : ∃ fd, FunD K "__init__" "NoJack.__init__" (defArgs s_init) (defBody s_init) (defScope s_init) [] [] fI fd
theorem NjTxt.exc {K : PySem.W.Frag} {mg : Str → Option Value} {C fI : Addr} (T : NjTxt K mg C fI) : ExcC K C := ⟨T.ga, T.gg, T.exC, T.hdC, T.ca, T.sp, T.tk, T.mr⟩
/-- the class object, as the written part has it -/
theorem nj_cls {K : PySem.W.Frag} {C : Addr} {bmB : List Value} {newId : String} (q : PySem.W.excInitIn K C bmB newId = true) : ∃ nm N qn bs bm hdct sn sub ab col dd k0 k1 k2 k3 k5,
    K.lookup C = some (excClassObj nm qn C N bs bm hdct sn sub ab col dd k0 k1 k2 k3 k5 newId) ∧ PySem.W.excTail bmB bm = true := by
  unfold PySem.W.excInitIn at q
  split at q
  · rename_i dd cd sl ho
    split at q
    · rename_i C' bm k0 k1 k2 k3 n k5 hm hs
      simp only [Bool.and_eq_true, beq_iff_eq, Bool.not_eq_true'] at q
      obtain ⟨⟨⟨rfl, rfl⟩, hdel⟩, ht⟩ := q
      obtain ⟨nm, bs, mro, ns, qn, hd, sn, sub, ab, col, del⟩ := cd
      dsimp only at hm hdel
      subst hm hdel
      have hsl : sl = #[k0, k1, k2, k3, some (.builtin n), k5] := by
        obtain ⟨l⟩ := sl
        simp only at hs
        rw [hs]
      subst hsl
      exact ⟨nm, ns, qn, bs, bm, hd, sn, sub, ab, col, dd, k0, k1, k2, k3, k5, ho, ht⟩
    · cases q
  · cases q
end K3
namespace PySem
namespace K3E
open PySem.W PySem.Calls PyProof.Rows PySem.HandSPX
open Builtin Builtin.ObjectAttr
section
variable {prog : Program} {w : World} {A : Around} {E : Value → Shared → Prop} {R : Result → Shared → Prop} {hp : Heap} {g : Array GenState} {d : Drawn} {t : Nat} {os : OsState}
theorem leB_pass (self : Value) : ∀ bm, excTail _root_.K3.leB bm = true → refuseLoop self "__setattr__" bm = pure () := excTail_pass self (F.store_LookupError.passes self)
/-- the first field of a new error over LookupError -/
theorem nj_store {K : Frag} {name : Str} {tk : Tok} {v : Value} {x C : Addr} {fv : Array Value} {cd : ClassData} {bm : List Value}
    (X : K.In hp) (hx : hp.get? x = some { cls := .ref C, data := .fields fv }) (hcd : clsIn K C = some cd) (hm : cd.mro = .ref C :: bm) (hb : excTail _root_.K3.leB bm = true) (hh : cd.hasDict = true) (ha : findIn K (.ref C) name = some none)
    (hq : ∀ h' tk' dx, (∀ b o, b ≠ x → hp.get? b = some o → h'.get? b = some o) → hp.objs.size ≤ dx → dx ≠ x → h'.get? x = some { cls := .ref C, dict := some dx, data := .fields fv } →
      h'.Ns1 dx (fun y => if y = name then some v else none) → R (.ok (.ret .none)) ⟨h', g, d, tk', os⟩) :
    codeAny (model prog w) A (.call (.builtin "object.__setattr__") ⟨[.ref x, .str name tk, v], []⟩) R ⟨hp, g, d, t, os⟩ := by
  have I : InstAt hp x { cls := .ref C, data := .fields fv } C none := ⟨hx, rfl, rfl, trivial⟩
  have SF := F.store_object
  have full : cd.mro.isEmpty = false := by rw [hm]; rfl
  have hob : cd.mro.contains (.type "object") = true := by
    have z : _root_.K3.leB.contains (.type "object") = true := by decide +kernel
    rw [hm, List.contains_cons, excTail_contains "object" bm hb, z, Bool.or_true]
  have pass : refuseLoop (.ref x) "__setattr__" cd.mro = pure () := by
    rw [hm, refuseLoop_ref]
    exact leB_pass (.ref x) bm hb
  have hxs : x ≠ hp.objs.size := Nat.ne_of_lt (Heap.lt_size hx)
  have sub : Looks (model prog w) hp (isInstance (.ref x) (.type "object")) true := I.type.andThen (looks_mroIn X (by unfold mroIn; rw [hcd, Option.bind_some, if_neg (by rw [full]; decide), hob]))
  refine codeAny_call_builtin SF.slot.plain SF.entry (@check_slot (model prog w) _ _ ⟨hp, g, d, t, os⟩ "object.__setattr__" "object" "__setattr__" (.ref x) [.str name tk, v] [] _ SF.kind SF.split sub (SF.args (.ref x) (.str name tk) v) ?_)
  have hmr : Looks (model prog w) hp (mroOf (.ref C)) cd.mro := (looks_clsIn X hcd).andThen .now
  have L3 : Looks (model prog w) hp (storeTaker? none) none := .now
  have hcls : Looks (model prog w) hp (classData C) cd := looks_clsIn X hcd
  rw [osa_eq, refuse_eq]
  refine wpAny_bind (wpAny_bind (I.type.at (wpAny_bind (hmr.at ?_))))
  rw [pass]
  refine wpAny_pure (wpAny_bind (I.type.at (wpAny_bind ((looks_findIn X ha).at (wpAny_bind (L3.at ?_))))))
  show wpAny _ _ (storeInOwnDict (.ref x) (.ref C) (.str name tk) name v false) _ _ _
  obtain ⟨nm, bs, mro, ns, qn, hd, sn, sb, ab, col, del⟩ := cd
  dsimp only at hh
  subst hh
  unfold storeInOwnDict ownDictForStores
  repeat (first | with_reducible refine store_in_new ?_ ?_ | with_reducible refine wpAny_loadPart_at hx ?_ | with_reducible refine hcls.at ?_ | wp_step)
  · exact ⟨_, #[], _, (Heap.get?_update_ne _ _ _ _ hxs.symm).trans (Heap.get?_push_at rfl rfl), rfl, fun e he => absurd he (by simp), fun _ => rfl⟩
  · intro h' tk' hn' hs
    have hx₁ : (hp.push { cls := .type "dict", data := .dict #[] }).get? x = some { cls := .ref C, data := .fields fv } := Heap.get?_push_of_some _ hx
    refine hq h' tk' hp.objs.size (fun b o hb ho => ?_) (Nat.le_refl _) hxs.symm ?_ hn'
    · exact (hs.2 b (Nat.ne_of_lt (Heap.lt_size ho))).trans ((Heap.get?_update_ne _ _ _ _ hb).trans (Heap.get?_push_of_some _ ho))
    · exact (hs.2 x hxs).trans (Heap.get?_update_self _ hx₁ rfl)
end
section
variable {prog : Program} {w : World} {A : Around} {E : Value → Shared → Prop} {R : Result → Shared → Prop} {s : Shared} {K : Frag} {mg : Str → Option Value} {C fI : Addr}
theorem one_item (v : Value) : [v].length ≤ sizeLine := by
  rw [sizeLine_eq]
  exact (by decide : 1 ≤ 16777216)
theorem name_local {M : Model} {s : Shared} {name : Str} {scope : Scope} {L a : Addr} {cd : Value} {m : Str → Option Value} {x : Str} {pos : Pos} {v : Value} {Q : Value → Shared → Prop} {A : Around} {E : Value → Shared → Prop} (hn : s.heap.Ns L m) (hv : m x = some v) (h : Q v s)
    (hk : scope.kind = .function := by rfl) (hl : (envOfC name scope L a cd).kindOf x = some .local := by rfl) (hd : (x == ("__debug__" : Str)) = false := by decide) :
    wpAny M A (eval (.Name x pos) (envOfC name scope L a cd)) Q E s := wpAny_Name (wpAny_loadName_local hk hl hn hv h) hd
/-- what __init__ leaves of a new error at x -/
structure NjEnd (h h' : Heap) (x C dx t1 : Addr) (v : Value) : Prop where
  keep : ∀ b o, b ≠ x → h.get? b = some o → h'.get? b = some o
  obj : h'.get? x = some { cls := .ref C, dict := some dx, data := .fields #[.ref t1, .none, .none, .none, .bool false, .none] }
  dbig : h.objs.size ≤ dx
  dne : dx ≠ x
  ns : h'.Ns1 dx (fun y => if y = "jack" then some v else none)
/-- a made NoJack -/
structure NjMade (h h' : Heap) (e C d : Addr) (v : Value) : Prop where
  keep : ∀ b o, h.get? b = some o → h'.get? b = some o
  new : h.objs.size ≤ e
  obj : ∃ oe vs, h'.get? e = some oe ∧ oe.cls = .ref C ∧ oe.dict = some d ∧ oe.data = .fields vs ∧ vs[1]? = some .none
  dbig : h.objs.size ≤ d
  dne : d ≠ e
  ns : h'.Ns1 d (fun y => if y = "jack" then some v else none)
theorem nj_init (T : _root_.K3.NjTxt K mg C fI) {x t0 : Addr} {v : Value} (X : K.In s.heap) (hlim : s.heap.NoLimit) (hx : s.heap.get? x = some (excO C t0)) (hnx : K.lookup x = none) (hroom : A.depth < recursionLimit)
    (hq : ∀ h' tk dx, NjEnd s.heap h' x C dx t0 v → R (.ok (.ret .none)) { s with heap := h', toks := tk }) :
    codeAny (model prog w) A (.call (.ref fI) ⟨[.ref x, v], []⟩) R s := by
  obtain ⟨fd, F⟩ := T.fn
  obtain ⟨oc, od, dV, kV, doc, pm, an, cdv, ct, osl, rfl, ho, hcd, hD, hK⟩ := F.ex
  obtain ⟨_, rfl⟩ : ([] : List L2.V) = [] ∧ dV = .none := by
    rcases hD with ⟨a, b⟩ | ⟨a, _⟩
    · exact ⟨a, b⟩
    · exact absurd rfl a
  obtain ⟨nm, N, q, bs, bm, hdct, sn, sub, ab, col, dd, k0, k1, k2, k3, k5, hC, hbm⟩ := _root_.K3.nj_cls T.cls
  have hdt : hdct = true := by
    have z := T.hdC
    unfold hasDictIn clsIn at z
    rw [hC] at z
    exact z
  subst hdt
  have hcl : clsIn K C = some { name := nm, bases := bs, mro := .ref C :: bm, ns := N, qualname := q, hasDict := true, slotNames := sn, subclasses := sub, abstract := ab, collection := col, hasDel := false } := by unfold clsIn; rw [hC] <;> rfl
  refine Att.call_fn (binds := [("self", .ref x), ("jack", v)]) X hlim ho hcd hroom (BindsTo.of_eq (by first | rfl | with_unfolding_all rfl)) (by first | rfl | decide | with_unfolding_all rfl) (fun s₁ IC => ?_) rfl rfl rfl
  obtain ⟨h₁, tk₁, rfl⟩ := IC.toInCall.same
  have k : ∀ b o, s.heap.get? b = some o → h₁.get? b = some o := IC.toInCall.keep
  have hn := IC.toInCall.ns
  have hxL : s.heap.objs.size ≠ x := Nat.ne_of_gt (Heap.lt_size hx)
  have X₁ : K.In h₁ := X.keeps k
  have hx₁ := k _ _ hx
  -- self.jack = jack
  show wpAny _ _ (execs _ _) _ _ _
  refine wpAny_execs_cons (plainObj_wpAny_Assign_Attribute ?_)
  refine name_local (v := v) hn (by first | rfl | with_unfolding_all rfl | kernel_rfl) (name_local (v := .ref x) hn (by first | rfl | with_unfolding_all rfl | kernel_rfl) ?_)
  refine set_plain X₁ (ox := excO C t0) (od := none) ⟨hx₁, rfl, rfl, trivial⟩ T.sa ?_
  refine nj_store X₁ hx₁ hcl rfl hbm rfl T.noN (fun h₃ tk₃ dx k₃ dn dne hx₃ hn₃ => ?_)
  show wpAny _ _ (execs _ _) _ _ _
  have z : s.heap.objs.size < h₁.objs.size := hn.lt
  exact wpAny_execs_nil (hq h₃ tk₃ dx ⟨fun b o hb e => k₃ b o hb (k b o e), hx₃, Nat.le_of_lt (Nat.lt_of_lt_of_le z dn), dne, hn₃⟩)
theorem nj_made (T : _root_.K3.NjTxt K mg C fI) {v : Value} (X : K.In s.heap) (hlim : s.heap.NoLimit) (hroom : A.depth + 1 < recursionLimit)
    (hq : ∀ h' tk e d, NjMade s.heap h' e C d v → R (.ok (.ret (.ref e))) { s with heap := h', toks := tk }) :
    codeAny (model prog w) A (.call (.ref C) ⟨[v], []⟩) R s := by
  obtain ⟨nm, N, q, bs, bm, hdct, sn, sub, ab, col, dd, k0, k1, k2, k3, k5, hC, hbm⟩ := _root_.K3.nj_cls T.cls
  obtain ⟨hp, g, dr, tk, os⟩ := s
  have k : ∀ b o, hp.get? b = some o → ((hp.push (kdv_tup [v])).push (excO C hp.objs.size)).get? b = some o := fun b o e => Heap.get?_push_of_some _ (Heap.get?_push_of_some _ e)
  have hget : ((hp.push (kdv_tup [v])).push (excO C hp.objs.size)).get? (hp.objs.size + 1) = some (excO C hp.objs.size) := by heap_get
  have hnx : K.lookup (hp.objs.size + 1) = none := by
    cases e : K.lookup (hp.objs.size + 1) with
    | none => rfl
    | some o =>
      have z : hp.get? (hp.objs.size + 1) = some o := X _ _ e
      exact absurd (Nat.lt_of_succ_lt (Heap.lt_size z)) (Nat.lt_irrefl _)
  refine call_own F.excBase_LookupError (fun X => excTail_contains X bm hbm) (X _ _ hC) (looks_findIn X T.iC) (fun self => bind_fn X self T.tC) (one_item v) ?_
  refine nj_init (s := ⟨(hp.push (kdv_tup [v])).push (excO C hp.objs.size), g, dr, tk, os⟩) T (X.keeps k) (hlim.keeps k) hget hnx ?_ fun h' tk' dx ⟨k', hx, dn, dne, hns⟩ => ?_
  · show A.depth + 1 < recursionLimit
    exact hroom
  · have old : ∀ b o, hp.get? b = some o → h'.get? b = some o := fun b o e => k' b o (Nat.ne_of_lt (Nat.lt_succ_of_lt (Heap.lt_size e))) (k b o e)
    have z : hp.objs.size + 1 + 1 ≤ dx := by
      first
        | (simpa only [Heap.size_push] using dn)
        | exact dn
        | (have q := dn; rw [Heap.size_push, Heap.size_push] at q; exact q)
    exact ⟨rfl, hq h' tk' (hp.objs.size + 1) dx ⟨old, Nat.le_succ _, ⟨_, _, hx, rfl, rfl, rfl, rfl⟩, Nat.le_trans (Nat.le_trans (Nat.le_succ _) (Nat.le_succ _)) z, dne, hns⟩⟩
end
end K3E
end PySem
namespace K3
open PySem PySem.Spec PyProof.Rows L2
theorem relO_nj {v : V} {v' : Value} (r : RelV v v') (f : Str) : RelO (List.lookup f [(("jack" : Str), v)]) (if f = "jack" then some v' else none) := by
  by_cases hw : f = "jack"
  · subst hw
    rw [if_pos rfl]
    have q : List.lookup ("jack" : Str) [(("jack" : Str), v)] = some v := by simp [List.lookup]
    rw [q]
    exact r
  · rw [if_neg hw]
    have qw : (f == ("jack" : Str)) = false := by simpa using hw
    have q2 : List.lookup f [(("jack" : Str), v)] = none := by simp [List.lookup, qw]
    rw [q2]
    trivial
section
variable {X : Cx} {C fI : Addr}
/-- NoJack(e) -/
def tMkNj (C : Addr) (ta : TA) : L2.St → Hp → XK → Prop := fun σ H Q => ta σ H fun vs H1 => ∃ v, vs = [v] ∧ ∀ d, H1 d = none → Q (.ref C) (some d) (upd H1 d (.xd [(("jack" : Str), v)]))
theorem pmk_nj {a : Expr} {ta : TA} {p pos : Pos} {k : Nat} (T : NjTxt X.K X.mg C fI) (hr : Room k X.A) (ha : PA X [a] ta) (hg : Gl X "NoJack" := by rfl)
    (he : starEach (a :: []) X.env = (false, eval a X.env) :: starEach [] X.env := by rfl) (hpl : (backTo pos (starEach [] X.env)).any (·.1) = false := by rfl) :
    PMk X (.Call (.Name "NoJack" p) [a] [] pos) (tMkNj C ta) := by
  intro pins s σ H Q I h
  refine wpAny_Call_Name_kw (ld_glob I hg T.gC ?_)
  refine PySem.W.callWith_K (h₀ := X.base) I.ok.mod.kin T.kC (thn (ha.run pos pins s σ H _ I h) fun us s1 hh => ?_) he hpl
  obtain ⟨vs, H1, I1, r1, v, ev, q1⟩ := hh
  subst ev
  refine ⟨I1.kIn, ?_⟩
  cases r1 with
  | cons rv rn =>
    rename_i v' us'
    cases rn
    show wpAny _ _ (call (.ref C) [v']) _ _ _
    have hlim := I1.nolimit
    obtain ⟨hp, g, dr, tk, os⟩ := s1
    refine wpAny_call (PySem.K3E.nj_made T I1.kIn hlim (by have := hr.dp; omega) fun h' tk' e d M => ?_)
    show MkP X pins σ Q (.ref e) ⟨h', g, dr, tk', os⟩
    obtain ⟨oe, fv, hoe, hc, hd, hdat, h1⟩ := M.obj
    have hns := M.ns
    obtain ⟨G', g1, g2⟩ := restrict h' fun b => decide (b ≠ e)
    have gk : ∀ b, b ≠ e → G'.get? b = h'.get? b := fun b hb => g1 b (decide_eq_true hb)
    have ge : G'.get? e = none := g2 e (by simp)
    have old : ∀ b o, hp.get? b = some o → G'.get? b = some o := fun b o q => (gk b (Nat.ne_of_lt (Nat.lt_of_lt_of_le (Heap.lt_size q) M.new))).trans (M.keep b o q)
    have ob : ObjOk X.prog X.w (upd H1 d (.xd [(("jack" : Str), v)])) G' d (.xd [(("jack" : Str), v)]) :=
      ⟨_, hns.at (fun o q => (gk d M.dne).trans q), fun f => relO_nj rv f⟩
    have J : Inv X pins σ (upd H1 d (.xd [(("jack" : Str), v)])) ⟨G', g, dr, tk', os⟩ := I1.laid (t' := tk') old M.dbig ob
    refine ⟨e, oe, fv, ⟨G', g, dr, tk', os⟩, _, .ref C, some d, rfl, J, fun b o q => ?_, ge, hoe, ⟨hc, hd⟩, hdat, h1, ?_, rfl, I1.bare, raises_own T.exC T.tyC, q1 d (I1.hok.fresh M.dbig)⟩
    · by_cases hb : b = e
      · have q' : G'.get? b = some o := q
        rw [hb, ge] at q'
        cases q'
      · exact (gk b hb).symm.trans q
    · rw [upd_ne (Ne.symm M.dne)]
      exact I1.hok.fresh M.new
/-- raise NoJack(e) -/
def tRaiseNj (C : Addr) (W : WX) (ta : TA) : TS := fun _ σ H => tMkNj C ta σ H fun cls d H' => W cls d σ H'
theorem ps_raiseNj {a : Expr} {ta : TA} {W : WX} {p pos pos2 : Pos} {k : Nat} (hc : X.calm = true) (T : NjTxt X.K X.mg C fI) (hr : Room k X.A) (tk : Takes X W) (ha : PA X [a] ta) (hg : Gl X "NoJack" := by rfl)
    (he : starEach (a :: []) X.env = (false, eval a X.env) :: starEach [] X.env := by rfl) (hpl : (backTo pos (starEach [] X.env)).any (·.1) = false := by rfl) :
    PS X (.Raise (some (.Call (.Name "NoJack" p) [a] [] pos)) none pos2) (tRaiseNj C W ta) := ps_raise hc tk (pmk_nj T hr ha hg he hpl)
/-- e.jack, e the error that the suite holds (at a; its class cls, its dict d) -/
def tByNj (C : Addr) (a : Addr) (cls : Value) (d : Option Addr) (te : TE) : TE := fun σ H Q => te σ H fun x H1 => x = .ref a ∧ cls = .ref C ∧ ∃ (dd : Addr) (v : V), d = some dd ∧ H1 dd = some (.xd [(("jack" : Str), v)]) ∧ Q v H1
theorem pe_byNj {a : Addr} {oe : Obj} {cls : Value} {d : Option Addr} {pn : List (Addr × Obj)} {e : Expr} {te : TE} {pos : Pos} (T : NjTxt X.K X.mg C fI) (hz : Zc cls d oe) (hf : ∃ vs, oe.data = .fields vs) (he : PE (X.suite a ((a, oe) :: pn)) e te)
    (hb : attributeBase e "jack" X.env (eval e X.env) = eval e X.env := by rfl) :
    PE (X.suite a ((a, oe) :: pn)) (.Attribute e "jack" pos) (tByNj C a cls d te) := by
  refine ⟨fun pins s σ H Q I h => ?_⟩
  refine attr_of hb (thn (he.run pins s σ H _ I h) fun u s1 hh => ?_)
  obtain ⟨x, H1, I1, rx, ex, ec, dd, v, ed, ea, q⟩ := hh
  subst ex
  obtain rfl : u = Value.ref a := rx
  subst ec
  subst ed
  obtain ⟨ha, _⟩ := I1.pin (a, oe) (List.mem_append_left _ List.mem_cons_self)
  obtain ⟨vs, hd⟩ := hf
  have hx : ObjOk X.prog X.w H1 s1.heap dd (.xd [(("jack" : Str), v)]) := I1.hok dd _ ea
  obtain ⟨mA, hns, hr⟩ := hx
  obtain ⟨od, ho, hl⟩ := lookIn_ns hns
  have l : List.lookup ("jack" : Str) [(("jack" : Str), v)] = some v := by simp [List.lookup]
  obtain ⟨u, hu, ru⟩ := RelO.some_of (v := v) (o := mA "jack") (by rw [← l]; exact hr "jack")
  have J : PySem.W.InstAt s1.heap a oe C (some od) := ⟨ha, hz.1, by unfold PySem.W.notCls; rw [hd] <;> rfl, by rw [hz.2]; exact ho⟩
  exact HandSPX.exc_get I1.kIn J T.ga T.gg T.exC (PySem.W.findObj_own T.hdC T.noN rfl (by rw [hl, hu])) (handed_of ru) ⟨v, H1, I1.tok _, ru, q⟩
end
/-! ### a def that an expression gives, called -/
section
variable {X : Cx} {e c : Expr} {es : List Expr} {tc : TE} {t : TA} {pos : Pos} {E : L2.St → XK}
/-- the def at f, of the promise sp -/
structure DefAt (X : Cx) (f : Addr) (sp : Sp) (E : L2.St → XK) : Prop where
  ex : ∃ (CX : CXT) (k : Nat) (fd : FuncData) (ps : List Str), FnOk X.prog X.w X.K X.mg X.base CX k f fd ps sp ∧ Room k X.A ∧ PySem.W.keepIn X.K (.ref f) = true ∧ Binds X.K fd ps [] ∧ ∀ σ, PassesAt CX X σ (E σ)
def tCallE (S : Addr → Sp → Prop) (E : L2.St → XK) (tc : TE) (t : TA) : TE := fun σ H Q => tc σ H fun v H0 => ∃ f sp, v = .ref f ∧ S f sp ∧ t σ H0 fun vs H1 => sp vs H1 Q (E σ)
theorem pe_callE {S : Addr → Sp → Prop} (A : ∀ f sp, S f sp → DefAt X f sp E) (hc : PE X c tc) (ha : PA X (e :: es) t)
    (hcall : eval (.Call c (e :: es) [] pos) X.env = (do callWith pos (← eval c X.env) [] (backTo pos (starEach (e :: es) X.env)) (backToKw pos (keywordEach [] X.env))) := by rfl)
    (he : starEach (e :: es) X.env = (false, eval e X.env) :: starEach es X.env := by rfl) (hpl : (backTo pos (starEach es X.env)).any (·.1) = false := by rfl) :
    PE X (.Call c (e :: es) [] pos) (tCallE S E tc t) := by
  refine ⟨fun pins s σ H Q I h => ?_⟩
  refine Call_ (thn (hc.run pins s σ H _ I h) fun u s1 ⟨v, H0, I0, r0, q0⟩ => ?_) hcall
  obtain ⟨f, sp, rfl, hS, ht⟩ := q0
  cases r0
  obtain ⟨CX, k, fd, ps, F, hr, hk, hb, hx⟩ := (A f sp hS).ex
  refine PySem.W.callWith_K (h₀ := X.base) I.ok.mod.kin hk (thn (ha.run pos pins s1 σ H0 _ I0 ht) fun us s2 ⟨vs, H1, I1, r, q⟩ => ⟨I1.kIn, ?_⟩) he hpl
  exact run_fnS F hr hb (hx σ) I1 r q
end
end K3

set_option Elab.async false
set_option linter.all false
set_option maxRecDepth 100000
set_option maxHeartbeats 4000000
/-! The data layer: what a reading evaluates to, as data, in a clean heap G (without the box of draws and the lists that grow). -/
namespace K3
open PySem PySem.Spec PyProof.Rows L2
/-- v stands for d in the clean heap G -/
inductive Da (G : Hp) : V → PyData → Prop
  | non : Da G .non .none
  | bl (b : Bool) : Da G (.bl b) (.bool b)
  | int (i : Int) : Da G (.int i) (.int i)
  | str (x : Str) : Da G (.str x) (.str x)
  | lst {a : Addr} {xs : List V} {ds : List PyData} (e : G a = some (.lst xs)) (l : xs.length = ds.length) (h : ∀ (i : Nat) (v : V) (d : PyData), xs[i]? = some v → ds[i]? = some d → Da G v d) : Da G (.ref a) (.list ds)
  | tup {a : Addr} {xs : List V} {ds : List PyData} (e : G a = some (.tup xs)) (l : xs.length = ds.length) (h : ∀ (i : Nat) (v : V) (d : PyData), xs[i]? = some v → ds[i]? = some d → Da G v d) : Da G (.ref a) (.tuple ds)
def DaL (G : Hp) (vs : List V) (ds : List PyData) : Prop := vs.length = ds.length ∧ ∀ (i : Nat) (v : V) (d : PyData), vs[i]? = some v → ds[i]? = some d → Da G v d
theorem DaL.nil {G : Hp} : DaL G [] [] := ⟨rfl, fun i v d h => by simp at h⟩
theorem DaL.cons {G : Hp} {v : V} {d : PyData} {vs : List V} {ds : List PyData} (h : Da G v d) (t : DaL G vs ds) : DaL G (v :: vs) (d :: ds) := ⟨by simp [t.1], fun i => by
  cases i with
  | zero => intro x y e1 e2; simp at e1 e2; subst e1 e2; exact h
  | succ i => intro x y e1 e2; simp at e1 e2; exact t.2 i x y e1 e2⟩
theorem DaL.hd {G : Hp} {v : V} {d : PyData} {vs : List V} {ds : List PyData} (h : DaL G (v :: vs) (d :: ds)) : Da G v d := h.2 0 v d rfl rfl
theorem DaL.tl {G : Hp} {v : V} {d : PyData} {vs : List V} {ds : List PyData} (h : DaL G (v :: vs) (d :: ds)) : DaL G vs ds := ⟨by simpa using h.1, fun i x y e1 e2 => h.2 (i + 1) x y (by simpa using e1) (by simpa using e2)⟩
theorem DaL.one {G : Hp} {d : PyData} {vs : List V} (h : DaL G vs [d]) : ∃ v, vs = [v] ∧ Da G v d := by
  match vs, h with
  | [v], h => exact ⟨v, rfl, h.hd⟩
  | [], h => exact absurd h.1 (by simp)
  | _ :: _ :: _, h => exact absurd h.1 (by simp)
theorem DaL.two {G : Hp} {d e : PyData} {vs : List V} (h : DaL G vs [d, e]) : ∃ v w, vs = [v, w] ∧ Da G v d ∧ Da G w e := by
  match vs, h with
  | [v, w], h => exact ⟨v, w, rfl, h.hd, h.tl.hd⟩
  | [], h => exact absurd h.1 (by simp)
  | [_], h => exact absurd h.1 (by simp)
  | _ :: _ :: _ :: _, h => exact absurd h.1 (by simp)
theorem DaL.three {G : Hp} {d e f : PyData} {vs : List V} (h : DaL G vs [d, e, f]) : ∃ v w u, vs = [v, w, u] ∧ Da G v d ∧ Da G w e ∧ Da G u f := by
  match vs, h with
  | [v, w, u], h => exact ⟨v, w, u, rfl, h.hd, h.tl.hd, h.tl.tl.hd⟩
  | [], h => exact absurd h.1 (by simp)
  | [_], h => exact absurd h.1 (by simp)
  | [_, _], h => exact absurd h.1 (by simp)
  | _ :: _ :: _ :: _ :: _, h => exact absurd h.1 (by simp)
theorem DaL.append {G : Hp} {vs ws : List V} {ds es : List PyData} (h : DaL G vs ds) (k : DaL G ws es) : DaL G (vs ++ ws) (ds ++ es) := by
  refine ⟨by simp [h.1, k.1], fun i v d e1 e2 => ?_⟩
  by_cases c : i < vs.length
  · rw [List.getElem?_append_left c] at e1
    rw [List.getElem?_append_left (h.1 ▸ c)] at e2
    exact h.2 i v d e1 e2
  · have c' : vs.length ≤ i := Nat.le_of_not_lt c
    rw [List.getElem?_append_right c'] at e1
    rw [List.getElem?_append_right (h.1 ▸ c')] at e2
    rw [← h.1] at e2
    exact k.2 _ v d e1 e2
theorem DaL.snoc {G : Hp} {vs : List V} {ds : List PyData} {v : V} {d : PyData} (h : DaL G vs ds) (k : Da G v d) : DaL G (vs ++ [v]) (ds ++ [d]) := h.append (DaL.cons k DaL.nil)
theorem DaL.take {G : Hp} {vs : List V} {ds : List PyData} (h : DaL G vs ds) (n : Nat) : DaL G (vs.take n) (ds.take n) := ⟨by simp [h.1], fun i v d e1 e2 => by
  rw [List.getElem?_take] at e1 e2
  by_cases c : i < n
  · rw [if_pos c] at e1 e2; exact h.2 i v d e1 e2
  · rw [if_neg c] at e1; cases e1⟩
theorem DaL.drop {G : Hp} {vs : List V} {ds : List PyData} (h : DaL G vs ds) (n : Nat) : DaL G (vs.drop n) (ds.drop n) := ⟨by simp [h.1], fun i v d e1 e2 => by
  rw [List.getElem?_drop] at e1 e2
  exact h.2 _ v d e1 e2⟩
theorem DaL.rev {G : Hp} {vs : List V} {ds : List PyData} (h : DaL G vs ds) : DaL G vs.reverse ds.reverse := ⟨by simp [h.1], fun i v d e1 e2 => by
  by_cases c : i < vs.length
  · rw [List.getElem?_reverse c] at e1
    rw [List.getElem?_reverse (h.1 ▸ c)] at e2
    rw [← h.1] at e2
    exact h.2 _ v d e1 e2
  · rw [List.getElem?_eq_none (by simp; omega)] at e1; cases e1⟩
theorem DaL.at {G : Hp} {vs : List V} {ds : List PyData} (h : DaL G vs ds) {i : Nat} {d : PyData} (e : ds[i]? = some d) : ∃ v, vs[i]? = some v ∧ Da G v d := by
  have hi : i < vs.length := by rw [h.1]; exact (List.getElem?_eq_some_iff.mp e).1
  exact ⟨vs[i], List.getElem?_eq_getElem hi, h.2 i _ d (List.getElem?_eq_getElem hi) e⟩
theorem DaL.at' {G : Hp} {vs : List V} {ds : List PyData} (h : DaL G vs ds) {i : Nat} {v : V} (e : vs[i]? = some v) : ∃ d, ds[i]? = some d ∧ Da G v d := by
  have hi : i < ds.length := by rw [← h.1]; exact (List.getElem?_eq_some_iff.mp e).1
  exact ⟨ds[i], List.getElem?_eq_getElem hi, h.2 i _ _ e (List.getElem?_eq_getElem hi)⟩
theorem Da.of_list {G : Hp} {v : V} {ds : List PyData} (h : Da G v (.list ds)) : ∃ a xs, v = .ref a ∧ G a = some (.lst xs) ∧ DaL G xs ds := by
  cases h with | lst e l k => exact ⟨_, _, rfl, e, l, k⟩
theorem Da.of_tup {G : Hp} {v : V} {ds : List PyData} (h : Da G v (.tuple ds)) : ∃ a xs, v = .ref a ∧ G a = some (.tup xs) ∧ DaL G xs ds := by
  cases h with | tup e l k => exact ⟨_, _, rfl, e, l, k⟩
theorem Da.of_int {G : Hp} {v : V} {i : Int} (h : Da G v (.int i)) : v = .int i := by cases h; rfl
theorem Da.of_bool {G : Hp} {v : V} {b : Bool} (h : Da G v (.bool b)) : v = .bl b := by cases h; rfl
theorem Da.of_str {G : Hp} {v : V} {b : Str} (h : Da G v (.str b)) : v = .str b := by cases h; rfl
theorem Da.of_none {G : Hp} {v : V} (h : Da G v .none) : v = .non := by cases h; rfl
theorem Da.mk_l {G : Hp} {a : Addr} {xs : List V} {ds : List PyData} (e : G a = some (.lst xs)) (h : DaL G xs ds) : Da G (.ref a) (.list ds) := .lst e h.1 h.2
theorem Da.mk_t {G : Hp} {a : Addr} {xs : List V} {ds : List PyData} (e : G a = some (.tup xs)) (h : DaL G xs ds) : Da G (.ref a) (.tuple ds) := .tup e h.1 h.2
theorem Da.mono {G G' : Hp} (s : Same G G') {v : V} {d : PyData} (h : Da G v d) : Da G' v d := by
  induction h with
  | non => exact .non
  | bl b => exact .bl b
  | int i => exact .int i
  | str x => exact .str x
  | lst e l _ ih => exact .lst (s _ _ e) l ih
  | tup e l _ ih => exact .tup (s _ _ e) l ih
theorem DaL.mono {G G' : Hp} (s : Same G G') {vs : List V} {ds : List PyData} (h : DaL G vs ds) : DaL G' vs ds := ⟨h.1, fun i v d e1 e2 => (h.2 i v d e1 e2).mono s⟩
theorem dpAll_of {K : PySem.W.Frag} {H : Hp} : ∀ {xs : List V} {ds : List PyData}, xs.length = ds.length → (∀ (i : Nat) (v : V) (d : PyData), xs[i]? = some v → ds[i]? = some d → Dp K H v d) → DpAll K H xs ds
  | [], [], _, _ => .nil
  | [], _ :: _, l, _ => by simp at l
  | _ :: _, [], l, _ => by simp at l
  | v :: vs, d :: ds, l, h => .cons (h 0 v d rfl rfl) (dpAll_of (by simpa using l) fun i x y e1 e2 => h (i + 1) x y (by simpa using e1) (by simpa using e2))
theorem Da.dp {K : PySem.W.Frag} {G H : Hp} (s : Same G H) {v : V} {d : PyData} (h : Da G v d) : Dp K H v d := by
  induction h with
  | non => exact .non
  | bl b => exact .bl b
  | int i => exact .int i
  | str x => exact .str x
  | lst e l _ ih => exact .lst (SqL.of (s _ _ e)) (dpAll_of l ih)
  | tup e l _ ih => exact .tup (SqT.of (s _ _ e)) (dpAll_of l ih)
/-- intsD -/
def intsD (ns : List Int) : List PyData := ns.map PyData.int
theorem DaL.intsD {G : Hp} : ∀ {vs : List V} {ns : List Int}, DaL G vs (intsD ns) → vs = ns.map V.int
  | [], [], _ => rfl
  | [], _ :: _, h => by have := h.1; simp [K3.intsD] at this
  | _ :: _, [], h => by have := h.1; simp [K3.intsD] at this
  | v :: vs, n :: ns, h => by
    have h' : DaL G (v :: vs) (PyData.int n :: K3.intsD ns) := h
    rw [List.map_cons, ← DaL.intsD h'.tl, h'.hd.of_int]
theorem DaL.of_ints {G : Hp} : ∀ {ns : List Int}, DaL G (ns.map V.int) (K3.intsD ns)
  | [] => DaL.nil
  | n :: ns => DaL.cons (.int n) DaL.of_ints
theorem DaL.bools {G : Hp} : ∀ {vs : List V} {ns : List Bool}, DaL G vs (ns.map PyData.bool) → vs = ns.map V.bl
  | [], [], _ => rfl
  | [], _ :: _, h => by have := h.1; simp at this
  | _ :: _, [], h => by have := h.1; simp at this
  | v :: vs, n :: ns, h => by
    have h' : DaL G (v :: vs) (PyData.bool n :: ns.map PyData.bool) := h
    rw [List.map_cons, ← DaL.bools h'.tl, h'.hd.of_bool]

/-! ### growth -/
/-- from clean heap G within H to clean heap G' within H': all kept, what is new in G' is known to G or new to H -/
structure Gro (G H G' H' : Hp) : Prop where
  g : Same G G'
  k : Same H H'
  s : Same G' H'
  n : ∀ b, G' b ≠ none → G b ≠ none ∨ H b = none
theorem Gro.refl {G H : Hp} (h : Same G H) : Gro G H G H := ⟨Same.refl G, Same.refl H, h, fun _ h => .inl h⟩
theorem Gro.trans {G H G1 H1 G2 H2 : Hp} (a : Gro G H G1 H1) (b : Gro G1 H1 G2 H2) : Gro G H G2 H2 := ⟨a.g.trans b.g, a.k.trans b.k, b.s, fun x h => by
  rcases b.n x h with h | h
  · exact a.n x h
  · exact .inr (a.k.free h)⟩
theorem same_upd {H : Hp} {p : Addr} {o : HO} (h : H p = none) : Same H (upd H p o) := fun b u q => by rw [upd_ne (ne_of_none q h)]; exact q
theorem same_upd2 {G H : Hp} (s : Same G H) {p : Addr} {o : HO} : Same (upd G p o) (upd H p o) := fun b u q => by
  by_cases c : b = p
  · subst c; rw [upd_same] at q ⊢; exact q
  · rw [upd_ne c] at q ⊢; exact s b u q
theorem Gro.new {G H : Hp} (s : Same G H) {p : Addr} {o : HO} (h : H p = none) : Gro G H (upd G p o) (upd H p o) := ⟨same_upd (s.free h), same_upd h, same_upd2 s, fun b hb => by
  by_cases c : b = p
  · subst c; exact .inr h
  · rw [upd_ne c] at hb; exact .inl hb⟩
/-- a thing that stays out of the clean heap -/
theorem Gro.loc {G H : Hp} (s : Same G H) {p : Addr} {o : HO} (h : H p = none) : Gro G H G (upd H p o) := ⟨Same.refl G, same_upd h, s.trans (same_upd h), fun _ h => .inl h⟩
theorem ne_none {G : Hp} {b : Addr} {o : HO} (h : G b = some o) : G b ≠ none := by rw [h]; exact fun z => nomatch z
theorem Gro.mut {G H G' H' : Hp} (a : Gro G H G' H') {p : Addr} {o : HO} (h : H p = none) (h' : G' p = none) : Gro G H G' (upd H' p o) := ⟨a.g, fun b u q => by rw [upd_ne (ne_of_none q h)]; exact a.k b u q, fun b u q => by rw [upd_ne (ne_of_none q h')]; exact a.s b u q, a.n⟩
/-- what is out of G but in H stays out of the clean heap -/
theorem Gro.out {G H G' H' : Hp} (a : Gro G H G' H') {p : Addr} {o : HO} (h : G p = none) (h' : H p = some o) : G' p = none := by
  cases q : G' p with
  | none => rfl
  | some u =>
    rcases a.n p (ne_none q) with z | z
    · exact absurd h z
    · rw [h'] at z; cases z
/-- a thing of H that was no part of the clean heap and that is new joins it -/
theorem Gro.join {G H G' H' : Hp} (a : Gro G H G' H') {p : Addr} {o : HO} (h : H p = none) (h2 : G' p = none) (h' : H' p = some o) : Gro G H (upd G' p o) H' := ⟨a.g.trans (same_upd h2), a.k, fun b u q => by
  by_cases c : b = p
  · subst c; rw [upd_same] at q; cases q; exact h'
  · rw [upd_ne c] at q; exact a.s b u q, fun b hb => by
  by_cases c : b = p
  · subst c; exact .inr h
  · rw [upd_ne c] at hb; exact a.n b hb⟩
def uni (A B : Hp) : Hp := fun b => match A b with | some o => some o | none => B b
theorem uni_l {A B : Hp} : Same A (uni A B) := fun b o h => by unfold uni; rw [h]
theorem uni_r {A B H : Hp} (a : Same A H) (b : Same B H) : Same B (uni A B) := fun x o h => by
  unfold uni
  cases q : A x with
  | none => exact h
  | some u => rw [← b x o h, a x u q]
theorem uni_s {A B H : Hp} (a : Same A H) (b : Same B H) : Same (uni A B) H := fun x o h => by
  unfold uni at h
  cases q : A x with
  | none => rw [q] at h; exact b x o h
  | some u => rw [q] at h; rw [← h]; exact a x u q
theorem Gro.up {G Ga H G1 H1 : Hp} (s : Same G Ga) (sa : Same Ga H) (a : Gro G H G1 H1) : Gro Ga H (uni Ga G1) H1 ∧ Same G1 (uni Ga G1) := by
  refine ⟨⟨uni_l, a.k, uni_s (sa.trans a.k) a.s, fun b hb => ?_⟩, uni_r (sa.trans a.k) a.s⟩
  cases q : Ga b with
  | some u => exact .inl fun z => nomatch z
  | none =>
    have e : uni Ga G1 b = G1 b := by unfold uni; rw [q]
    rw [e] at hb
    rcases a.n b hb with z | z
    · cases r : G b with
      | none => exact absurd r z
      | some u => rw [s b u r] at q; cases q
    · exact .inr z

/-! ### what evaluates to what -/
def EvD (te : TE) (σ : L2.St) (G : Hp) (d : PyData) : Prop := ∀ H, Same G H → ∀ Q : VK, (∀ v G' H', Gro G H G' H' → Da G' v d → Q v H') → te σ H Q
def EvB (tt : TT) (σ : L2.St) (G : Hp) (b : Bool) : Prop := ∀ H, Same G H → ∀ Q : Bool → Hp → Prop, (∀ G' H', Gro G H G' H' → Q b H') → tt σ H Q
def EvA (ta : TA) (σ : L2.St) (G : Hp) (ds : List PyData) : Prop := ∀ H, Same G H → ∀ Q : List V → Hp → Prop, (∀ vs G' H', Gro G H G' H' → DaL G' vs ds → Q vs H') → ta σ H Q
def EvO (to : TO) (σ : L2.St) (G : Hp) (o : Option Int) : Prop := ∀ H, Same G H → ∀ Q : Option Int → Hp → Prop, (∀ G' H', Gro G H G' H' → Q o H') → to σ H Q
def RvD (r : R2) (x y z : PyData) : Prop := ∀ G H v w, Same G H → Da G v x → Da G w y → ∀ Q : VK, (∀ u G' H', Gro G H G' H' → Da G' u z → Q u H') → r v w H Q
def RuD (r : V → Hp → VK → Prop) (x z : PyData) : Prop := ∀ G H v, Same G H → Da G v x → ∀ Q : VK, (∀ u G' H', Gro G H G' H' → Da G' u z → Q u H') → r v H Q
def RcD (r : List V → Hp → VK → Prop) (ds : List PyData) (z : PyData) : Prop := ∀ G H vs, Same G H → DaL G vs ds → ∀ Q : VK, (∀ u G' H', Gro G H G' H' → Da G' u z → Q u H') → r vs H Q
def RsD (r : V → Option Int → Option Int → Hp → VK → Prop) (x : PyData) (lo hi : Option Int) (z : PyData) : Prop := ∀ G H v, Same G H → Da G v x → ∀ Q : VK, (∀ u G' H', Gro G H G' H' → Da G' u z → Q u H') → r v lo hi H Q
section
variable {K : PySem.W.Frag} {σ : L2.St} {G G' H H' : Hp} {ta tb tc te tx : TE} {t u : TT} {tl th : TO} {ts : TA} {x y z v d e : PyData} {ds es : List PyData} {r : R2}
theorem EvD.mono (s : Same G G') (h : EvD te σ G d) : EvD te σ G' d := fun H sH Q q => h H (s.trans sH) Q fun v G1 H1 a hv => by
  obtain ⟨b, c⟩ := Gro.up s sH a
  exact q v _ H1 b (hv.mono c)
theorem EvB.mono {b : Bool} (s : Same G G') (h : EvB t σ G b) : EvB t σ G' b := fun H sH Q q => h H (s.trans sH) Q fun G1 H1 a => by
  obtain ⟨b, c⟩ := Gro.up s sH a
  exact q _ H1 b
theorem EvA.mono (s : Same G G') (h : EvA ts σ G ds) : EvA ts σ G' ds := fun H sH Q q => h H (s.trans sH) Q fun v G1 H1 a hv => by
  obtain ⟨b, c⟩ := Gro.up s sH a
  exact q v _ H1 b (hv.mono c)
theorem EvO.mono {o : Option Int} (s : Same G G') (h : EvO tl σ G o) : EvO tl σ G' o := fun H sH Q q => h H (s.trans sH) Q fun G1 H1 a => by
  obtain ⟨b, c⟩ := Gro.up s sH a
  exact q _ H1 b
theorem ed_is (h : EvD te σ G d) (q : d = e) : EvD te σ G e := by rw [← q]; exact h
theorem eb_is {a b : Bool} (h : EvB t σ G a) (q : a = b) : EvB t σ G b := by rw [← q]; exact h
theorem ed_var {i : Nat} {v : V} (h : σ[i]? = some (some v)) (hv : Da G v d) : EvD (tVar i) σ G d := fun H s Q q => ⟨v, h, q v G H (Gro.refl s) hv⟩
theorem ed_c {v : V} (hv : Da G v d) : EvD (tC v) σ G d := fun H s Q q => q v G H (Gro.refl s) hv
theorem ed_int {i : Int} : EvD (tC (.int i)) σ G (.int i) := ed_c (.int i)
theorem ed_non : EvD (tC .non) σ G .none := ed_c .non
theorem ed_bl {b : Bool} : EvD (tC (.bl b)) σ G (.bool b) := ed_c (.bl b)
theorem ed_str {b : Str} : EvD (tC (.str b)) σ G (.str b) := ed_c (.str b)
theorem ed_op (ha : EvD ta σ G x) (hb : EvD tb σ G y) (hr : RvD r x y z) : EvD (tOp r ta tb) σ G z := fun H s Q q =>
  ha H s _ fun v G1 H1 a1 hv => (hb.mono a1.g) H1 a1.s _ fun w G2 H2 a2 hw => hr G2 H2 v w a2.s (hv.mono a2.g) hw Q fun u G3 H3 a3 hu => q u G3 H3 ((a1.trans a2).trans a3) hu
theorem ed_un {f : V → Hp → VK → Prop} (ha : EvD ta σ G x) (hr : RuD f x z) : EvD (tUn f ta) σ G z := fun H s Q q =>
  ha H s _ fun v G1 H1 a1 hv => hr G1 H1 v a1.s hv Q fun u G3 H3 a3 hu => q u G3 H3 (a1.trans a3) hu
theorem ea_nil : EvA tNil σ G [] := fun H s Q q => q [] G H (Gro.refl s) DaL.nil
theorem ea_cons (ha : EvD ta σ G x) (hr : EvA ts σ G ds) : EvA (tCons ta ts) σ G (x :: ds) := fun H s Q q =>
  ha H s _ fun v G1 H1 a1 hv => (hr.mono a1.g) H1 a1.s _ fun vs G2 H2 a2 hvs => q _ G2 H2 (a1.trans a2) (DaL.cons (hv.mono a2.g) hvs)
theorem sz_of {n : Nat} (h : n ≤ 100000) : n ≤ sizeLine := Nat.le_trans h (by decide)
theorem sz_lt {n : Nat} (h : n < 100000) : n < sizeLine := Nat.lt_of_lt_of_le h (by decide)
theorem ed_tup (h : EvA ts σ G ds) (hl : ds.length ≤ 100000) : EvD (tTup ts) σ G (.tuple ds) := fun H s Q q =>
  h H s _ fun vs G1 H1 a1 hv => ⟨sz_of (by rw [hv.1]; exact hl), fun p hp => q (.ref p) (upd G1 p (.tup vs)) _ (a1.trans (Gro.new a1.s hp)) (Da.mk_t upd_same (hv.mono (same_upd (a1.s.free hp))))⟩
theorem ed_lst (h : EvA ts σ G ds) (hl : ds.length ≤ 100000) : EvD (tLst ts) σ G (.list ds) := fun H s Q q =>
  h H s _ fun vs G1 H1 a1 hv => ⟨sz_of (by rw [hv.1]; exact hl), fun p hp => q (.ref p) (upd G1 p (.lst vs)) _ (a1.trans (Gro.new a1.s hp)) (Da.mk_l upd_same (hv.mono (same_upd (a1.s.free hp))))⟩
theorem ed_cb {f : List V → Hp → VK → Prop} (h : EvA ts σ G ds) (hr : RcD f ds z) : EvD (tCB f ts) σ G z := fun H s Q q =>
  h H s _ fun vs G1 H1 a1 hv => hr G1 H1 vs a1.s hv Q fun u G3 H3 a3 hu => q u G3 H3 (a1.trans a3) hu
theorem eo_no : EvO tNoPart σ G none := fun H s Q q => q G H (Gro.refl s)
theorem eo_part {i : Int} (h : EvD te σ G (.int i)) : EvO (tPart te) σ G (some i) := fun H s Q q => h H s _ fun v G1 H1 a hv => ⟨i, hv.of_int, q G1 H1 a⟩
theorem ed_sl {f : V → Option Int → Option Int → Hp → VK → Prop} {lo hi : Option Int} (h : EvD te σ G x) (h1 : EvO tl σ G lo) (h2 : EvO th σ G hi) (hr : RsD f x lo hi z) : EvD (tSl f te tl th) σ G z := fun H s Q q =>
  h H s _ fun v G1 H1 a1 hv => (h1.mono a1.g) H1 a1.s _ fun G2 H2 a2 => (h2.mono (a1.g.trans a2.g)) H2 a2.s _ fun G3 H3 a3 => hr G3 H3 v a3.s (hv.mono (a2.g.trans a3.g)) Q fun u G4 H4 a4 hu => q u G4 H4 (((a1.trans a2).trans a3).trans a4) hu
/-! tests -/
theorem eb_test {b : Bool} (h : EvD te σ G (.bool b)) : EvB (tTest te) σ G b := fun H s Q q => h H s _ fun v G1 H1 a hv => ⟨b, hv.of_bool, q G1 H1 a⟩
theorem eb_B {b : Bool} (h : EvD te σ G (.bool b)) : EvB (tB te) σ G b := fun H s Q q => h H s _ fun v G1 H1 a hv => ⟨b, hv.of_bool, q G1 H1 a⟩
theorem eb_and {a b : Bool} (h1 : EvB t σ G a) (h2 : a = true → EvB u σ G b) : EvB (tAnd t u) σ G (a && b) := fun H s Q q => h1 H s _ fun G1 H1 a1 => by
  cases a with
  | true => exact ite2 (fun _ => (h2 rfl).mono a1.g H1 a1.s Q fun G2 H2 a2 => q G2 H2 (a1.trans a2)) (fun c => absurd rfl c)
  | false => exact ite2 (fun c => nomatch c) (fun _ => q G1 H1 a1)
theorem eb_or {a b : Bool} (h1 : EvB t σ G a) (h2 : a = false → EvB u σ G b) : EvB (tOr t u) σ G (a || b) := fun H s Q q => h1 H s _ fun G1 H1 a1 => by
  cases a with
  | false => exact ite2 (fun c => nomatch c) (fun _ => (h2 rfl).mono a1.g H1 a1.s Q fun G2 H2 a2 => q G2 H2 (a1.trans a2))
  | true => exact ite2 (fun _ => q G1 H1 a1) (fun c => absurd rfl c)
theorem eb_not {a : Bool} (h : EvB t σ G a) : EvB (tNot t) σ G (!a) := fun H s Q q => h H s _ fun G1 H1 a1 => q G1 H1 a1
theorem ed_andV {a b : Bool} (h1 : EvD ta σ G (.bool a)) (h2 : a = true → EvD tb σ G (.bool b)) : EvD (tAndV ta tb) σ G (.bool (a && b)) := fun H s Q q => h1 H s _ fun v G1 H1 a1 hv => ⟨a, hv.of_bool, by
  cases a with
  | true => exact ite2 (fun _ => (h2 rfl).mono a1.g H1 a1.s Q fun u G2 H2 a2 hu => q u G2 H2 (a1.trans a2) hu) (fun c => absurd rfl c)
  | false => exact ite2 (fun c => nomatch c) (fun _ => q _ G1 H1 a1 (.bl false))⟩
theorem ed_orV {a b : Bool} (h1 : EvD ta σ G (.bool a)) (h2 : a = false → EvD tb σ G (.bool b)) : EvD (tOrV ta tb) σ G (.bool (a || b)) := fun H s Q q => h1 H s _ fun v G1 H1 a1 hv => ⟨a, hv.of_bool, by
  cases a with
  | false => exact ite2 (fun c => nomatch c) (fun _ => (h2 rfl).mono a1.g H1 a1.s Q fun u G2 H2 a2 hu => q u G2 H2 (a1.trans a2) hu)
  | true => exact ite2 (fun _ => q _ G1 H1 a1 (.bl true)) (fun c => absurd rfl c)⟩
theorem ed_notV {a : Bool} (h1 : EvD ta σ G (.bool a)) : EvD (tNotV ta) σ G (.bool (!a)) := fun H s Q q => h1 H s _ fun v G1 H1 a1 hv => ⟨a, hv.of_bool, q _ G1 H1 a1 (.bl _)⟩
theorem ed_if {b : Bool} (h : EvB t σ G b) (h1 : b = true → EvD ta σ G d) (h2 : b = false → EvD tb σ G d) : EvD (tIf t ta tb) σ G d := fun H s Q q => h H s _ fun G1 H1 a1 => by
  cases b with
  | true => exact ite2 (fun _ => (h1 rfl).mono a1.g H1 a1.s Q fun u G2 H2 a2 hu => q u G2 H2 (a1.trans a2) hu) (fun c => absurd rfl c)
  | false => exact ite2 (fun c => nomatch c) (fun _ => (h2 rfl).mono a1.g H1 a1.s Q fun u G2 H2 a2 hu => q u G2 H2 (a1.trans a2) hu)
theorem ed_isN (h : EvD ta σ G d) {b : Bool} (hb : (∀ G v, Da G v d → decide (v = .non) = b)) : EvD (tIsN ta) σ G (.bool b) := fun H s Q q => h H s _ fun v G1 H1 a1 hv => q _ G1 H1 a1 (by rw [hb G1 v hv]; exact .bl _)
/-! operations -/
theorem rd_I0 {g : Int → Int → V} {i j : Int} (hz : ∀ G, Da G (g i j) z) : RvD (rI0 g) (.int i) (.int j) z := fun G H v w s hv hw Q q => ⟨i, j, hv.of_int, hw.of_int, q _ G H (Gro.refl s) (hz G)⟩
theorem rd_I {C : Int → Int → Prop} {g : Int → Int → V} {i j : Int} (hc : C i j) (hz : ∀ G, Da G (g i j) z) : RvD (rI C g) (.int i) (.int j) z := fun G H v w s hv hw Q q => ⟨i, j, hv.of_int, hw.of_int, hc, q _ G H (Gro.refl s) (hz G)⟩
theorem rd_I0i {g : Int → Int → Int} {i j : Int} : RvD (rI0 fun i j => .int (g i j)) (.int i) (.int j) (.int (g i j)) := rd_I0 fun _ => .int _
theorem rd_I0b {g : Int → Int → Bool} {i j : Int} : RvD (rI0 fun i j => .bl (g i j)) (.int i) (.int j) (.bool (g i j)) := rd_I0 fun _ => .bl _
theorem rd_neg {i : Int} : RuD (rU fun i => .int (-i)) (.int i) (.int (-i)) := fun G H v s hv Q q => ⟨i, hv.of_int, q _ G H (Gro.refl s) (.int _)⟩
theorem rd_eq (h1 : SeqAt.shaped x = true) (h2 : SeqAt.shaped y = true) : RvD (rEqD K) x y (.bool (PyData.eqv x y)) := fun G H v w s hv hw Q q => ⟨x, y, hv.dp s, hw.dp s, h1, h2, q _ G H (Gro.refl s) (.bl _)⟩
theorem rd_ne (h1 : SeqAt.shaped x = true) (h2 : SeqAt.shaped y = true) : RvD (rNeD K) x y (.bool (!PyData.eqv x y)) := fun G H v w s hv hw Q q => ⟨x, y, hv.dp s, hw.dp s, h1, h2, q _ G H (Gro.refl s) (.bl _)⟩
theorem at_da {xs : List V} {i : Int} (h : DaL G xs ds) (ha : atI ds i = some d) : ∃ v, atI xs i = some v ∧ Da G v d := by
  unfold atI at ha ⊢
  rw [h.1]
  cases q : ixN ds.length i with
  | none => rw [q] at ha; cases ha
  | some j =>
    rw [q] at ha
    exact h.at ha
theorem rd_ixT {i : Int} (ha : atI ds i = some d) : RvD (rIxT K) (.tuple ds) (.int i) d := fun G H v w s hv hw Q q => by
  obtain ⟨a, xs, e, ea, hxs⟩ := hv.of_tup
  obtain ⟨u, hu, du⟩ := at_da hxs ha
  exact ⟨a, xs, i, u, e, hw.of_int, SqT.of (s _ _ ea), hu, q u G H (Gro.refl s) du⟩
theorem rd_ixL {i : Int} (ha : atI ds i = some d) : RvD (rIxL K) (.list ds) (.int i) d := fun G H v w s hv hw Q q => by
  obtain ⟨a, xs, e, ea, hxs⟩ := hv.of_list
  obtain ⟨u, hu, du⟩ := at_da hxs ha
  exact ⟨a, xs, i, u, e, hw.of_int, SqL.of (s _ _ ea), hu, q u G H (Gro.refl s) du⟩
theorem inV_ints {i : Int} : ∀ {ns : List Int}, inV (.int i) (ns.map V.int) = decide (i ∈ ns)
  | [] => rfl
  | n :: ns => by
    have ih := inV_ints (i := i) (ns := ns)
    unfold inV at ih ⊢
    rw [List.map_cons, List.any_cons, ih]
    have e : eqV (.int n) (.int i) = decide (i = n) := by
      unfold eqV
      by_cases c : i = n
      · subst c; simp
      · have c' : ¬ n = i := fun z => c z.symm
        simp [c, c']
    rw [e]
    by_cases c : i = n <;> simp [c]
theorem flat_ints : ∀ {ns : List Int}, (ns.map V.int).all flatV = true
  | [] => rfl
  | n :: ns => by rw [List.map_cons, List.all_cons, flat_ints]; rfl
theorem rd_inT {neg : Bool} {i : Int} {ns : List Int} : RvD (rIn K neg) (.int i) (.tuple (intsD ns)) (.bool (if neg then !decide (i ∈ ns) else decide (i ∈ ns))) := fun G H v w s hv hw Q q => by
  obtain ⟨a, xs, e, ea, hxs⟩ := hw.of_tup
  have hx := hxs.intsD
  subst hx
  rw [hv.of_int]
  refine ⟨a, _, e, .inr (SqT.of (s _ _ ea)), rfl, flat_ints, q _ G H (Gro.refl s) ?_⟩
  rw [inV_ints]
  exact .bl _
theorem rd_inL {neg : Bool} {i : Int} {ns : List Int} : RvD (rIn K neg) (.int i) (.list (intsD ns)) (.bool (if neg then !decide (i ∈ ns) else decide (i ∈ ns))) := fun G H v w s hv hw Q q => by
  obtain ⟨a, xs, e, ea, hxs⟩ := hw.of_list
  have hx := hxs.intsD
  subst hx
  rw [hv.of_int]
  refine ⟨a, _, e, .inl (SqL.of (s _ _ ea)), rfl, flat_ints, q _ G H (Gro.refl s) ?_⟩
  rw [inV_ints]
  exact .bl _
theorem rd_catA (hl : ds.length + es.length ≤ 100000) : RvD (rCatA K) (.tuple ds) (.tuple es) (.tuple (ds ++ es)) := fun G H v w s hv hw Q q => by
  obtain ⟨a, xs, e1, ea, hx⟩ := hv.of_tup
  obtain ⟨b, ys, e2, eb, hy⟩ := hw.of_tup
  subst e1 e2
  refine ⟨a, b, xs, ys, rfl, rfl, SqT.of (s _ _ ea), SqT.of (s _ _ eb), sz_of (by rw [hx.1, hy.1]; exact hl), fun z => ?_, fun _ z => ?_, fun _ _ p hp => ?_⟩
  · subst z
    have z1 := List.eq_nil_of_length_eq_zero hx.1.symm
    subst z1
    exact q _ G H (Gro.refl s) (Da.mk_t eb hy)
  · subst z
    have z1 := List.eq_nil_of_length_eq_zero hy.1.symm
    subst z1
    rw [List.append_nil] at q
    exact q _ G H (Gro.refl s) (Da.mk_t ea hx)
  · exact q _ (upd G p _) _ (Gro.new s hp) (Da.mk_t upd_same ((hx.append hy).mono (same_upd (s.free hp))))
theorem rd_cat (hl : ds.length + es.length ≤ 100000) : RvD rCat (.list ds) (.list es) (.list (ds ++ es)) := fun G H v w s hv hw Q q => by
  obtain ⟨a, xs, e1, ea, hx⟩ := hv.of_list
  obtain ⟨b, ys, e2, eb, hy⟩ := hw.of_list
  subst e1 e2
  exact ⟨a, b, xs, ys, rfl, rfl, s _ _ ea, s _ _ eb, sz_of (by rw [hx.1, hy.1]; exact hl), fun p hp => q _ (upd G p _) _ (Gro.new s hp) (Da.mk_l upd_same ((hx.append hy).mono (same_upd (s.free hp))))⟩
theorem rd_len (hk : (∃ es, x = .list es ∧ es.length = n) ∨ ∃ es, x = .tuple es ∧ es.length = n) : RcD (fun xs H Q => ∃ p ys, xs = [.ref p] ∧ (SqL K H p ys ∨ SqT K H p ys) ∧ Q (.int ys.length) H) [x] (.int (n : Nat)) := fun G H vs s hv Q q => by
  obtain ⟨v, rfl, hd⟩ := hv.one
  rcases hk with ⟨es, rfl, e⟩ | ⟨es, rfl, e⟩
  · obtain ⟨a, xs, e1, ea, hx⟩ := hd.of_list
    subst e1
    exact ⟨a, xs, rfl, .inl (SqL.of (s _ _ ea)), q _ G H (Gro.refl s) (by rw [hx.1, e]; exact .int _)⟩
  · obtain ⟨a, xs, e1, ea, hx⟩ := hd.of_tup
    subst e1
    exact ⟨a, xs, rfl, .inr (SqT.of (s _ _ ea)), q _ G H (Gro.refl s) (by rw [hx.1, e]; exact .int _)⟩
theorem rd_lenT : RcD (fun xs H Q => ∃ p ys, xs = [.ref p] ∧ (SqL K H p ys ∨ SqT K H p ys) ∧ Q (.int ys.length) H) [.tuple es] (.int (es.length : Nat)) := rd_len (.inr ⟨es, rfl, rfl⟩)
theorem rd_lenL : RcD (fun xs H Q => ∃ p ys, xs = [.ref p] ∧ (SqL K H p ys ∨ SqT K H p ys) ∧ Q (.int ys.length) H) [.list es] (.int (es.length : Nat)) := rd_len (.inl ⟨es, rfl, rfl⟩)
/-- list(x) -/
theorem rd_listT : RcD (fun xs H Q => ∃ p ys, xs = [.ref p] ∧ (SqL K H p ys ∨ SqT K H p ys) ∧ ∀ l, H l = none → Q (.ref l) (upd H l (.lst ys))) [.tuple es] (.list es) := fun G H vs s hv Q q => by
  obtain ⟨v, rfl, hd⟩ := hv.one
  obtain ⟨a, xs, e1, ea, hx⟩ := hd.of_tup
  subst e1
  exact ⟨a, xs, rfl, .inr (SqT.of (s _ _ ea)), fun p hp => q _ (upd G p _) _ (Gro.new s hp) (Da.mk_l upd_same (hx.mono (same_upd (s.free hp))))⟩
theorem rd_listL : RcD (fun xs H Q => ∃ p ys, xs = [.ref p] ∧ (SqL K H p ys ∨ SqT K H p ys) ∧ ∀ l, H l = none → Q (.ref l) (upd H l (.lst ys))) [.list es] (.list es) := fun G H vs s hv Q q => by
  obtain ⟨v, rfl, hd⟩ := hv.one
  obtain ⟨a, xs, e1, ea, hx⟩ := hd.of_list
  subst e1
  exact ⟨a, xs, rfl, .inl (SqL.of (s _ _ ea)), fun p hp => q _ (upd G p _) _ (Gro.new s hp) (Da.mk_l upd_same (hx.mono (same_upd (s.free hp))))⟩
/-- tuple(x) -/
theorem rd_tupL : RcD (fun xs H Q => ∃ p ys, xs = [.ref p] ∧ ((SqL K H p ys ∧ ∀ l, H l = none → Q (.ref l) (upd H l (.tup ys))) ∨ (SqT K H p ys ∧ Q (.ref p) H))) [.list es] (.tuple es) := fun G H vs s hv Q q => by
  obtain ⟨v, rfl, hd⟩ := hv.one
  obtain ⟨a, xs, e1, ea, hx⟩ := hd.of_list
  subst e1
  exact ⟨a, xs, rfl, .inl ⟨SqL.of (s _ _ ea), fun p hp => q _ (upd G p _) _ (Gro.new s hp) (Da.mk_t upd_same (hx.mono (same_upd (s.free hp))))⟩⟩
theorem rd_all {bs : List Bool} : RcD (rAll K) [.list (bs.map PyData.bool)] (.bool (bs.all id)) := fun G H vs s hv Q q => by
  obtain ⟨v, rfl, hd⟩ := hv.one
  obtain ⟨a, xs, e1, ea, hx⟩ := hd.of_list
  subst e1
  have hb := hx.bools
  subst hb
  exact ⟨a, bs, rfl, SqL.of (s _ _ ea), q _ G H (Gro.refl s) (.bl _)⟩
def cutD (xs : List PyData) (lo hi : Option Int) : List PyData := (xs.drop (HT.sIx xs.length 0 lo)).take (HT.sIx xs.length xs.length hi - HT.sIx xs.length 0 lo)
theorem DaL.cut {xs : List V} (h : DaL G xs ds) (lo hi : Option Int) : DaL G (cutV xs lo hi) (cutD ds lo hi) := by
  unfold cutV cutD
  rw [h.1]
  exact (h.drop _).take _
theorem cut_whole {xs : List V} {lo hi : Option Int} (h : HT.sIx xs.length 0 lo = 0 ∧ HT.sIx xs.length xs.length hi = xs.length) : cutV xs lo hi = xs := by
  unfold cutV
  rw [h.1, h.2]
  simp
theorem rd_slT {lo hi : Option Int} : RsD (rSlA K) (.tuple ds) lo hi (.tuple (cutD ds lo hi)) := fun G H v s hv Q q => by
  obtain ⟨a, xs, e1, ea, hx⟩ := hv.of_tup
  subst e1
  refine ⟨a, xs, rfl, SqT.of (s _ _ ea), fun c => ?_, fun c p hp => ?_⟩
  · have z := hx.cut lo hi
    rw [cut_whole c] at z
    exact q _ G H (Gro.refl s) (Da.mk_t ea z)
  · exact q _ (upd G p _) _ (Gro.new s hp) (Da.mk_t upd_same ((hx.cut lo hi).mono (same_upd (s.free hp))))
theorem rd_slL {lo hi : Option Int} : RsD (rSlL K) (.list ds) lo hi (.list (cutD ds lo hi)) := fun G H v s hv Q q => by
  obtain ⟨a, xs, e1, ea, hx⟩ := hv.of_list
  subst e1
  exact ⟨a, xs, rfl, SqL.of (s _ _ ea), fun p hp => q _ (upd G p _) _ (Gro.new s hp) (Da.mk_l upd_same ((hx.cut lo hi).mono (same_upd (s.free hp))))⟩
/-! isinstance -/
def tyD : PyData → String
  | .none => "NoneType" | .bool _ => "bool" | .int _ => "int" | .str _ => "str" | .list _ => "list" | .tuple _ => "tuple" | .dict _ => "dict"
theorem Da.ty {v : V} (s : Same G H) (h : Da G v d) : TyX K H v (.type (tyD d)) := by
  cases h with
  | non => exact .base .non
  | bl b => exact .base (.bl b)
  | int i => exact .base (.int i)
  | str x => exact .base (.str x)
  | lst e _ _ => exact .base (.lst (s _ _ e))
  | tup e _ _ => exact .base (.tup (s _ _ e))
def isD (d : PyData) (n : String) : Bool := match kitB (tyD d) n with | some b => b | none => false
theorem ed_isi {n : String} (h : EvD ta σ G d) (hk : kitB (tyD d) n = some b) : EvD (tCB (rIsi K) (tCons ta (tCons (tC (.ty n)) tNil))) σ G (.bool b) := fun H s Q q =>
  h H s _ fun v G1 H1 a1 hv => ⟨v, .ty n, .type (tyD d), .type n, b, rfl, .ty n, hv.ty a1.s, kit_ty hk, q _ G1 H1 a1 (.bl b)⟩
theorem ed_isi2 {n m : String} {b c : Bool} (h : EvD ta σ G d) (hk : kitB (tyD d) n = some b) (hm : kitB (tyD d) m = some c) : EvD (tCB (rIsiT K) (tCons ta (tCons (tTup (tCons (tC (.ty n)) (tCons (tC (.ty m)) tNil))) tNil))) σ G (.bool (b || c)) := fun H s Q q =>
  h H s _ fun v G1 H1 a1 hv => ⟨sz_of (show 2 ≤ 100000 by decide), fun p hp => by
    have a2 : Gro G1 H1 G1 (upd H1 p (.tup [.ty n, .ty m])) := Gro.loc a1.s hp
    refine ⟨v, p, [.ty n, .ty m], .type (tyD d), [.type n, .type m], b || c, rfl, upd_same, .cons (.ty n) (.cons (.ty m) .nil), hv.ty a2.s, ?_, q _ G1 _ (a1.trans a2) (.bl _)⟩
    refine kitAny_cons (kit_ty hk) (fun e => ?_) (fun e => by rw [e]; rfl)
    subst e
    exact kitAny_cons (kit_ty hm) (fun e => by rw [e]; exact kitAny_nil) (fun e => by rw [e]; rfl)⟩
theorem kit_d (d : PyData) : (∃ b, kitB (tyD d) "int" = some b) := by cases d <;> exact ⟨_, rfl⟩
end
section
variable {K : PySem.W.Frag} {σ : L2.St} {G G' H H' : Hp} {ta te : TE} {t : TT} {ts : TA} {d : PyData} {ds : List PyData}
/-! ### calls -/
/-- the promise of a def that keeps all and hands back data -/
def spF (pre : List PyData → PyData → Prop) : Sp := fun vs H Q _ => ∃ G ds d, Same G H ∧ DaL G vs ds ∧ pre ds d ∧ ∀ v G' H', Gro G H G' H' → Da G' v d → Q v H'
theorem ed_call {pre : List PyData → PyData → Prop} {E : XK} (h : EvA ts σ G ds) (hp : pre ds d) : EvD (tCall (spF pre) [] E ts) σ G d := fun H s Q q =>
  h H s _ fun vs G1 H1 a1 hv => ⟨G1, ds, d, a1.s, by rw [List.append_nil]; exact hv, hp, fun v G2 H2 a2 hv2 => q v G2 H2 (a1.trans a2) hv2⟩
/-! ### statements -/
/-- a body that hands back d -/
def RetD (ts : TS) (σ : L2.St) (G : Hp) (d : PyData) : Prop := ∀ H, Same G H → ∀ D : Ends, (∀ v G' H', Gro G H G' H' → Da G' v d → D.rt v H') → ts D σ H
theorem RetD.mono {ts : TS} (s : Same G G') (h : RetD ts σ G d) : RetD ts σ G' d := fun H sH D q => h H (s.trans sH) D fun v G1 H1 a hv => by
  obtain ⟨b, c⟩ := Gro.up s sH a
  exact q v _ H1 b (hv.mono c)
theorem rd_ret (h : EvD te σ G d) : RetD (tRet te) σ G d := fun H s D q => h H s D.rt q
theorem rd_set {i : Nat} {u : TS} {x : PyData} (h : EvD te σ G x) (hu : ∀ v G', Same G G' → Da G' v x → RetD u (σ.set i (some v)) G' d) : RetD (tSeq (tAsg te (gName i)) u) σ G d := fun H s D q =>
  h H s _ fun v G1 H1 a1 hv => hu v G1 a1.g hv H1 a1.s D fun w G2 H2 a2 hw => q w G2 H2 (a1.trans a2) hw
/-- an if whose suite ends the def -/
theorem rd_if {b : Bool} {p u : TS} (h : EvB t σ G b) (h1 : b = true → RetD p σ G d) (h2 : b = false → RetD u σ G d) : RetD (tSeq (tIfS t p tNext) u) σ G d := fun H s D q =>
  h H s _ fun G1 H1 a1 => by
    cases b with
    | true => exact ite2 (fun _ => (h1 rfl).mono a1.g H1 a1.s { D with nx := u D } fun w G2 H2 a2 hw => q w G2 H2 (a1.trans a2) hw) (fun c => absurd rfl c)
    | false => exact ite2 (fun c => nomatch c) (fun _ => (h2 rfl).mono a1.g H1 a1.s D fun w G2 H2 a2 hw => q w G2 H2 (a1.trans a2) hw)
/-- a, b = .., .. (two local names) -/
theorem rd_par {i j : Nat} {u : TS} {x y : PyData} (h : EvA ts σ G [x, y]) (hu : ∀ v w G', Same G G' → Da G' v x → Da G' w y → RetD u ((σ.set i (some v)).set j (some w)) G' d) : RetD (tSeq (tPar i j ts) u) σ G d := fun H s D q =>
  h H s _ fun vs G1 H1 a1 hvs => by
    obtain ⟨v, w, rfl, hv, hw⟩ := hvs.two
    exact ⟨v, w, rfl, hu v w G1 a1.g hv hw H1 a1.s D fun w G2 H2 a2 hw => q w G2 H2 (a1.trans a2) hw⟩
/-- a, b = pair -/
theorem rd_unp {i j : Nat} {u : TS} {x y : PyData} (h : EvD te σ G (.tuple [x, y])) (hu : ∀ v w G', Same G G' → Da G' v x → Da G' w y → RetD u ((σ.set i (some v)).set j (some w)) G' d) : RetD (tSeq (tAsg te (gTup K 2 (gCons (gName i) (gCons (gName j) gNil)))) u) σ G d := fun H s D q =>
  h H s _ fun vs G1 H1 a1 hvs => by
    obtain ⟨a, xs, rfl, ea, hx⟩ := hvs.of_tup
    obtain ⟨v, w, rfl, hv, hw⟩ := hx.two
    exact ⟨a, _, rfl, SqT.of (a1.s _ _ ea), rfl, v, _, rfl, w, _, rfl, rfl, hu v w G1 a1.g hv hw H1 a1.s D fun w G2 H2 a2 hw => q w G2 H2 (a1.trans a2) hw⟩
end
section
variable {P : Program} {w : World} {K : PySem.W.Frag} {mg : Str → Option Value} {base : Heap} {x qual : Str} {params : Arguments} {body : List Stmt} {scope : Scope} {f : Addr} {fd : FuncData}
/-- THE RULE for a def that keeps all and hands back data -/
theorem FunD.pure {CX : CXT} {N ps : List Str} {k : Nat} {pre : List PyData → PyData → Prop} (F : FunD K x qual params body scope [] [] f fd) (S : FnScope N ps scope) (hl : ∀ ds d, pre ds d → ds.length = ps.length)
    (hbody : ∀ (cdv : Value) (A : Around) (outer : List Env) (s : Shared) (H : Hp) (E : XK) (G : Hp) (vs : List V) (ds : List PyData) (d : PyData), Room k (A.deeper (envOfC qual scope s.heap.objs.size f cdv)) → DaL G vs ds → pre ds d →
      ∃ t, PSs (cxOf CX P w K mg base N qual scope f cdv A outer s H E).nox body t ∧ RetD t (start N vs) G d) : FnOk P w K mg base CX (k + 1) f fd ps (spF pre) := by
  refine F.ok S (fun vs H Q E h => ?_) (fun cdv A outer s H vs Q E hr h => ?_)
  · obtain ⟨G, ds, d, _, hv, hp, _⟩ := h
    rw [hv.1, hl _ _ hp]
  · obtain ⟨G, ds, d, sG, hv, hp, q⟩ := h
    obtain ⟨t, ht, rt⟩ := hbody cdv A outer s H E G vs ds d hr hv hp
    exact ⟨t, PSs.nox ht, rt H sG _ q⟩
theorem fnok_absurd {CX : CXT} {k : Nat} {ps : List Str} {pre : List PyData → PyData → Prop} (h : ∀ ds d, ¬ pre ds d) : FnOk P w K mg base CX k f fd ps (spF pre) :=
  ⟨fun vs H Q E ⟨_, _, _, _, _, hp, _⟩ => absurd hp (h _ _), fun A outer s H args us vs Q E _ _ _ _ ⟨_, _, _, _, _, hp, _⟩ => absurd hp (h _ _)⟩
end
end K3

set_option Elab.async false
set_option linter.all false
set_option maxRecDepth 100000
set_option maxHeartbeats 4000000
/-! The data layer: comprehensions, loops. -/
namespace K3
open PySem PySem.Spec PyProof.Rows L2
/-- the walk of an iterator that gives the data ds -/
structure WalkD (J : It) (G1 : Hp) (ds : List PyData) : Prop where
  goes : ∀ i H, Same G1 H → i < ds.length → J.go i H
  stops : ∀ H, Same G1 H → J.stop ds.length H
  yields : ∀ i G' H x H' d, Same G1 G' → Same G' H → ds[i]? = some d → J.yld i H x H' → ∃ G2, Gro G' H G2 H' ∧ Da G2 x d
def SrcD (wi : TI) (σ : L2.St) (G : Hp) (ds : List PyData) : Prop := ∀ H, Same G H → ∀ R : It → Hp → Prop, (∀ J G1 H1, Gro G H G1 H1 → WalkD J G1 ds → R J H1) → wi σ H R
section
variable {K : PySem.W.Frag} {σ : L2.St} {G G' H H' : Hp} {ta te : TE} {t : TT} {ts : TA} {wi : TI} {d : PyData} {ds : List PyData}
theorem SrcD.mono (s : Same G G') (h : SrcD wi σ G ds) : SrcD wi σ G' ds := fun H sH R q => h H (s.trans sH) R fun J G1 H1 a w => by
  obtain ⟨b, c⟩ := Gro.up s sH a
  exact q J _ H1 b ⟨fun i H s => w.goes i H (c.trans s), fun H s => w.stops H (c.trans s), fun i G' H x H' d s => w.yields i G' H x H' d (c.trans s)⟩
theorem sd_list (h : EvD te σ G (.list ds)) : SrcD (iList K te) σ G ds := fun H s R q => h H s _ fun v G1 H1 a hv => by
  obtain ⟨p, xs, rfl, e, hx⟩ := hv.of_list
  refine ⟨p, rfl, ⟨xs, SqL.of (a.s _ _ e)⟩, q _ G1 H1 a ⟨fun i H s hi => ?_, fun H s => ⟨xs, SqL.of (s _ _ e), Nat.le_of_eq hx.1⟩, fun i G' H x H' d s1 s2 hd y => ?_⟩⟩
  · obtain ⟨v, hv, _⟩ := hx.at (List.getElem?_eq_getElem hi)
    exact ⟨xs, v, SqL.of (s _ _ e), hv⟩
  · obtain ⟨rfl, y⟩ := y
    exact ⟨G', Gro.refl s2, (hx.2 i x d (y xs (SqL.of (s2 _ _ (s1 _ _ e)))) hd).mono s1⟩
theorem sd_tup (h : EvD te σ G (.tuple ds)) : SrcD (iTup K te) σ G ds := fun H s R q => h H s _ fun v G1 H1 a hv => by
  obtain ⟨p, xs, rfl, e, hx⟩ := hv.of_tup
  refine ⟨p, rfl, ⟨xs, SqT.of (a.s _ _ e)⟩, q _ G1 H1 a ⟨fun i H s hi => ?_, fun H s => ⟨xs, SqT.of (s _ _ e), Nat.le_of_eq hx.1⟩, fun i G' H x H' d s1 s2 hd y => ?_⟩⟩
  · obtain ⟨v, hv, _⟩ := hx.at (List.getElem?_eq_getElem hi)
    exact ⟨xs, v, SqT.of (s _ _ e), hv⟩
  · obtain ⟨rfl, y⟩ := y
    exact ⟨G', Gro.refl s2, (hx.2 i x d (y xs (SqT.of (s2 _ _ (s1 _ _ e)))) hd).mono s1⟩
/-- 0 .. n - 1 -/
def upto (n : Nat) : List PyData := (List.range n).map fun i => PyData.int (i : Nat)
theorem upto_at {n i : Nat} {d : PyData} : (upto n)[i]? = some d ↔ i < n ∧ d = .int (i : Nat) := by
  unfold upto
  rw [List.getElem?_map]
  by_cases c : i < n
  · rw [List.getElem?_range c]
    simp [c, eq_comm]
  · rw [List.getElem?_eq_none (by simp; omega)]
    simp [c]
theorem upto_len {n : Nat} : (upto n).length = n := by unfold upto; simp
theorem sd_rng1 {n : Int} (h : EvA ts σ G [.int n]) (h1 : -(2 ^ 62) ≤ n) (h2 : n < 2 ^ 62) : SrcD (iRng1 ts) σ G (upto n.toNat) := fun H s R q => h H s _ fun vs G1 H1 a hv => by
  obtain ⟨v, rfl, hw⟩ := hv.one
  rw [hw.of_int]
  refine ⟨n, rfl, h1, h2, q _ G1 H1 a ⟨fun i H s hi => ?_, fun H s => ?_, fun i G' H x H' d s1 s2 hd y => ?_⟩⟩
  · rw [upto_len] at hi; exact hi
  · rw [upto_len]; exact Nat.le_refl _
  · obtain ⟨rfl, rfl⟩ := y
    obtain ⟨_, rfl⟩ := upto_at.mp hd
    exact ⟨G', Gro.refl s2, by rw [Int.zero_add]; exact .int _⟩
/-- pairs -/
def zipD (ds es : List PyData) : List PyData := (ds.zip es).map fun p => .tuple [p.1, p.2]
theorem zipD_len {ds es : List PyData} : (zipD ds es).length = min ds.length es.length := by unfold zipD; simp
theorem zipD_at {ds es : List PyData} {i : Nat} {d : PyData} (h : (zipD ds es)[i]? = some d) : ∃ x y, ds[i]? = some x ∧ es[i]? = some y ∧ d = .tuple [x, y] := by
  unfold zipD at h
  rw [List.getElem?_map] at h
  cases q : (ds.zip es)[i]? with
  | none => rw [q] at h; cases h
  | some p =>
    rw [q] at h
    obtain ⟨h1, h2⟩ := List.getElem?_zip_eq_some.mp q
    exact ⟨p.1, p.2, h1, h2, (Option.some.inj h).symm⟩
/-- zip of two tuples -/
theorem sd_zipT {es : List PyData} (h : EvA ts σ G [.tuple ds, .tuple es]) : SrcD (RZ.iZipA K ts) σ G (zipD ds es) := fun H s R q => h H s _ fun vs G1 H1 a hv => by
  obtain ⟨v, w, rfl, h1, h2⟩ := hv.two
  obtain ⟨p, xs, rfl, e1, hx⟩ := h1.of_tup
  obtain ⟨r, ys, rfl, e2, hy⟩ := h2.of_tup
  refine ⟨p, r, xs, ys, rfl, .inr ⟨SqT.of (a.s _ _ e1), SqT.of (a.s _ _ e2), q _ G1 H1 a ⟨fun i H s hi => ?_, fun H s => ?_, fun i G' H v H' d s1 s2 hd y => ?_⟩⟩⟩
  · rw [zipD_len] at hi
    obtain ⟨v, hv, _⟩ := hx.at (i := i) (List.getElem?_eq_getElem (show i < ds.length by omega))
    obtain ⟨w, hw, _⟩ := hy.at (i := i) (List.getElem?_eq_getElem (show i < es.length by omega))
    exact ⟨xs, ys, v, w, SqT.of (s _ _ e1), SqT.of (s _ _ e2), hv, hw⟩
  · rw [zipD_len]
    exact ⟨xs, ys, SqT.of (s _ _ e1), SqT.of (s _ _ e2), by rw [hx.1, hy.1]; omega⟩
  · obtain ⟨x, z, hd1, hd2, rfl⟩ := zipD_at hd
    obtain ⟨T, x', z', rfl, hT, rfl, y1, y2⟩ := y
    have dx := (hx.2 i x' x (y1 xs (SqT.of (s2 _ _ (s1 _ _ e1)))) hd1).mono s1
    have dz := (hy.2 i z' z (y2 ys (SqT.of (s2 _ _ (s1 _ _ e2)))) hd2).mono s1
    have sT := same_upd (o := .tup [x', z']) (s2.free hT)
    exact ⟨upd G' T (.tup [x', z']), Gro.new s2 hT, Da.mk_t upd_same (.cons (dx.mono sT) (.cons (dz.mono sT) .nil))⟩
theorem da_pair {x y : V} {d e : PyData} {T : Addr} (e1 : G T = some (.tup [x, y])) (h1 : Da G x d) (h2 : Da G y e) : Da G (.ref T) (.tuple [d, e]) := Da.mk_t e1 (.cons h1 (.cons h2 .nil))
/-! ### one turn of a comprehension -/
def BodyD (g : TG) (tt : TT) (te : TE) (vs : List Nat) (σ : L2.St) (G : Hp) (v : V) (o : Option PyData) : Prop :=
  ∀ H, Same G H → ∀ (QS : V → Hp → Prop) (QN : Hp → Prop), (∀ u G' H' e, o = some e → Gro G H G' H' → Da G' u e → QS u H') → (∀ G' H', o = none → Gro G H G' H' → QN H') →
    g v (wipe σ vs) H fun σ2 H2 => wipe σ2 vs = wipe σ vs ∧ tt σ2 H2 fun b H3 => if b = true then te σ2 H3 QS else QN H3
theorem eb_yes : EvB tYes σ G true := fun H s Q q => q G H (Gro.refl s)
theorem bd_name {k : Nat} {vs : List Nat} {v : V} {o : Option PyData} {b : Bool} (hw : wipe ((wipe σ vs).set k (some v)) vs = wipe σ vs) (ht : EvB t ((wipe σ vs).set k (some v)) G b) (hb : b = o.isSome) (he : ∀ e, o = some e → EvD te ((wipe σ vs).set k (some v)) G e) :
    BodyD (gName k) t te vs σ G v o := fun H s QS QN q1 q2 => by
  refine ⟨hw, ht H s _ fun G1 H1 a => ?_⟩
  cases o with
  | none =>
    have : b = false := hb
    subst this
    exact ite2 (fun c => nomatch c) (fun _ => q2 G1 H1 rfl a)
  | some e =>
    have : b = true := hb
    subst this
    exact ite2 (fun _ => (he e rfl).mono a.g H1 a.s _ fun u G2 H2 a2 hu => q1 u G2 H2 e rfl (a.trans a2) hu) (fun c => absurd rfl c)
/-- for a, b in .. -/
theorem bd_pair {i j : Nat} {vs : List Nat} {v : V} {x y : PyData} {o : Option PyData} {b : Bool} (hv : Da G v (.tuple [x, y])) (h : ∀ u w, Da G u x → Da G w y → wipe (((wipe σ vs).set i (some u)).set j (some w)) vs = wipe σ vs ∧ ∃ b : Bool, b = o.isSome ∧ EvB t (((wipe σ vs).set i (some u)).set j (some w)) G b ∧ ∀ e, o = some e → EvD te (((wipe σ vs).set i (some u)).set j (some w)) G e) :
    BodyD (gTup K 2 (gCons (gName i) (gCons (gName j) gNil))) t te vs σ G v o := fun H s QS QN q1 q2 => by
  obtain ⟨a, xs, rfl, ea, hx⟩ := hv.of_tup
  obtain ⟨u, w, rfl, hu, hw⟩ := hx.two
  obtain ⟨hwi, b, hb, ht, he⟩ := h u w hu hw
  refine ⟨a, _, rfl, SqT.of (s _ _ ea), rfl, u, _, rfl, w, _, rfl, rfl, hwi, ht H s _ fun G1 H1 a => ?_⟩
  cases o with
  | none =>
    have : b = false := hb
    subst this
    exact ite2 (fun c => nomatch c) (fun _ => q2 G1 H1 rfl a)
  | some e =>
    have : b = true := hb
    subst this
    exact ite2 (fun _ => (he e rfl).mono a.g H1 a.s _ fun u G2 H2 a2 hu => q1 u G2 H2 e rfl (a.trans a2) hu) (fun c => absurd rfl c)
/-- [te for g in wi if t] -/
theorem ed_lc {g : TG} {vs : List Nat} (F : PyData → Option PyData) (hs : SrcD wi σ G ds) (hl : ds.length < 100000) (hb : ∀ d ∈ ds, ∀ v G', Same G G' → Da G' v d → BodyD g t te vs σ G' v (F d)) : EvD (tLc wi g t te vs) σ G (.list (ds.filterMap F)) := fun H0 s0 Q q =>
  hs H0 s0 _ fun J G1 H1 a1 W D hD => by
    let Pv : Nat → Hp → Prop := fun i H => ∃ G2 acc, Gro G1 H1 G2 H ∧ G2 D = none ∧ H D = some (.lst acc) ∧ DaL G2 acc ((ds.take i).filterMap F)
    refine ⟨fun i m H => m = ds.length - i ∧ i ≤ ds.length ∧ Pv i H, ⟨ds.length, by simp, Nat.zero_le _, G1, [], Gro.loc a1.s hD, a1.s.free hD, upd_same, DaL.nil⟩, ?_⟩
    rintro i m H ⟨rfl, hi, G2, acc, a2, hG2, hHD, hacc⟩
    by_cases hlt : i < ds.length
    · refine .inr ⟨W.goes i H (a2.g.trans a2.s) hlt, Pv (i + 1), fun H' p' => ⟨ds.length - (i + 1), by omega, rfl, hlt, p'⟩, fun x H' y => ?_⟩
      have hd := List.getElem?_eq_getElem hlt
      obtain ⟨G3, a3, hx⟩ := W.yields i G2 H x H' _ a2.g a2.s hd y
      have hG3 := a3.out hG2 hHD
      have hH3 := a3.k _ _ hHD
      have htk : ds.take (i + 1) = ds.take i ++ [ds[i]] := by rw [List.take_succ, hd]; rfl
      refine hb ds[i] (List.getElem_mem hlt) x G3 (a1.g.trans (a2.g.trans a3.g)) hx H' a3.s _ _ (fun u G4 H4 e he a4 hu => ?_) (fun G4 H4 he a4 => ?_)
      · have hG4 := a4.out hG3 hH3
        have hH4 := a4.k _ _ hH3
        refine ⟨acc, hH4, sz_lt ?_, G4, acc ++ [u], ((a2.trans a3).trans a4).mut hD hG4, hG4, upd_same, ?_⟩
        · have z1 := hacc.1
          have z2 := List.length_filterMap_le F (ds.take i)
          rw [List.length_take] at z2
          omega
        · rw [htk, List.filterMap_append, List.filterMap_cons, he]
          exact (hacc.mono (a3.g.trans a4.g)).snoc hu
      · refine ⟨G4, acc, (a2.trans a3).trans a4, a4.out hG3 hH3, a4.k _ _ hH3, ?_⟩
        rw [htk, List.filterMap_append, List.filterMap_cons, he]
        simpa using hacc.mono (a3.g.trans a4.g)
    · have e : i = ds.length := by omega
      subst e
      rw [List.take_length] at hacc
      exact .inl ⟨W.stops H (a2.g.trans a2.s), q _ _ H (a1.trans (a2.join hD hG2 hHD)) (Da.mk_l upd_same (hacc.mono (same_upd hG2)))⟩
theorem filterMap_some {α β : Type} (f : α → β) (l : List α) : l.filterMap (fun x => some (f x)) = l.map f := by induction l with | nil => rfl | cons a l ih => simp
/-- [te for g in wi] -/
theorem ed_lcM {g : TG} {vs : List Nat} (F : PyData → PyData) (hs : SrcD wi σ G ds) (hl : ds.length < 100000) (hb : ∀ d ∈ ds, ∀ v G', Same G G' → Da G' v d → BodyD g t te vs σ G' v (some (F d))) : EvD (tLc wi g t te vs) σ G (.list (ds.map F)) := by
  rw [← filterMap_some]
  exact ed_lc (fun d => some (F d)) hs hl hb
/-! ### a loop: Pv by the turn, the slots, the clean heap and the heap -/
theorem for_D {g : TG} {tb : TS} {D : Ends} (hs : SrcD wi σ G ds) (sG : Same G H) (h : ∀ G1 H1, Gro G H G1 H1 → ∃ Pv : Nat → L2.St → Hp → Hp → Prop, Pv 0 σ G1 H1 ∧ (∀ i σ' G' H', Pv i σ' G' H' → Same G1 G' ∧ Same G' H') ∧
    (∀ i d x σ' G' H' G2 H2, ds[i]? = some d → Pv i σ' G' H' → Gro G' H' G2 H2 → Da G2 x d → g x σ' H2 fun σ3 H3 => tb { D with nx := fun σ4 H4 => ∃ G4, Pv (i + 1) σ4 G4 H4, ct := fun σ4 H4 => ∃ G4, Pv (i + 1) σ4 G4 H4, bk := D.nx } σ3 H3) ∧
    ∀ σ' G' H', Pv ds.length σ' G' H' → D.nx σ' H') : tFor wi g tb D σ H := hs H sG _ fun J G1 H1 a1 W => by
  obtain ⟨Pv, h0, hS, hT, hE⟩ := h G1 H1 a1
  refine ⟨fun i m σ' H' => m = ds.length - i ∧ i ≤ ds.length ∧ ∃ G', Pv i σ' G' H', ⟨ds.length, by simp, Nat.zero_le _, G1, h0⟩, ?_⟩
  rintro i m σ' H' ⟨rfl, hi, G', p⟩
  obtain ⟨s1, s2⟩ := hS i σ' G' H' p
  by_cases hlt : i < ds.length
  · refine .inr ⟨W.goes i H' (s1.trans s2) hlt, fun σ4 H4 => ∃ G4, Pv (i + 1) σ4 G4 H4, fun σ4 H4 p' => ⟨ds.length - (i + 1), by omega, rfl, hlt, p'⟩, fun x H2 y => ?_⟩
    have hd := List.getElem?_eq_getElem hlt
    obtain ⟨G3, a3, hx⟩ := W.yields i G' H' x H2 _ s1 s2 hd y
    exact hT i _ x σ' G' H' G3 H2 hd p a3 hx
  · have e : i = ds.length := by omega
    subst e
    exact .inl ⟨W.stops H' (s1.trans s2), hE σ' G' H' p⟩
end
end K3

set_option Elab.async false
set_option linter.all false
set_option maxRecDepth 100000
set_option maxHeartbeats 4000000
/-! The defs by their names, the built-ins; binding facts printed by gen_env.py. -/
namespace K3
open PySem PySem.Spec PyProof.Rows L2
/-- the def x stands behind the name x -/
def Def (K : PySem.W.Frag) (mg : Str → Option Value) (x : Str) (st : Stmt) : Prop := ∃ f fd, FunD K x x (defArgs st) (defBody st) (defScope st) [] [] f fd ∧ mg x = some (.ref f)
/-- the built-ins' names are no globals -/
structure Bt (mg : Str → Option Value) : Prop where
  isi : mg "isinstance" = none
  list : mg "list" = none
  tuple : mg "tuple" = none
  len : mg "len" = none
  all : mg "all" = none
  zip : mg "zip" = none
  sorted : mg "sorted" = none
  set : mg "set" = none
  range : mg "range" = none
  abs : mg "abs" = none
  int : mg "int" = none
  enum : mg "enumerate" = none
  min : mg "min" = none
  max : mg "max" = none
  sum : mg "sum" = none
  lookup : mg "LookupError" = none
  bool : mg "bool" = none
  str : mg "str" = none
theorem bo_isi : bootBuiltins "isinstance" = some (.builtin "isinstance") := by decide +kernel
theorem bo_list : bootBuiltins "list" = some (.type "list") := by decide +kernel
theorem bo_tuple : bootBuiltins "tuple" = some (.type "tuple") := by decide +kernel
theorem bo_len : bootBuiltins "len" = some (.builtin "len") := by decide +kernel
theorem bo_all : bootBuiltins "all" = some (.builtin "all") := by decide +kernel
theorem bo_sorted : bootBuiltins "sorted" = some (.builtin "sorted") := by decide +kernel
theorem bo_set : bootBuiltins "set" = some (.type "set") := by decide +kernel
theorem bo_abs : bootBuiltins "abs" = some (.builtin "abs") := by decide +kernel
theorem bo_int : bootBuiltins "int" = some (.type "int") := by decide +kernel
theorem bo_min : bootBuiltins "min" = some (.builtin "min") := by decide +kernel
theorem bo_max : bootBuiltins "max" = some (.builtin "max") := by decide +kernel
theorem bo_sum : bootBuiltins "sum" = some (.builtin "sum") := by decide +kernel
theorem bo_bool : bootBuiltins "bool" = some (.type "bool") := by decide +kernel
theorem bo_lookup : bootBuiltins "LookupError" = some (.type "LookupError") := by decide +kernel
theorem bo_str : bootBuiltins "str" = some (.type "str") := by decide +kernel
theorem _root_.L2.Room.u0 {k : Nat} {A : Around} (r : Room k A) : A.units < cLine := by have := r.un; omega
theorem _root_.L2.Room.u1 {k : Nat} {A : Around} (r : Room k A) : A.units + 1 < cLine := by have := r.un; omega
theorem _root_.L2.Room.u64 {k : Nat} {A : Around} (r : Room k A) : A.units + 64 < cLine := by have := r.un; omega
/-- a promise, by the name -/
structure FnE (P : Program) (w : World) (K : PySem.W.Frag) (mg : Str → Option Value) (base : Heap) (CX : CXT) (k : Nat) (x : Str) (ps : List Str) (sp : Sp) : Prop where
  ex : ∃ f fd, FnOk P w K mg base CX k f fd ps sp ∧ mg x = some (.ref f) ∧ PySem.W.keepIn K (.ref f) = true ∧ Binds K fd ps []
section
variable {P : Program} {w : World} {K : PySem.W.Frag} {mg : Str → Option Value} {base : Heap} {CX : CXT} {x : Str} {st : Stmt} {ps : List Str} {sp : Sp} {j k : Nat}
theorem Def.fnE (D : Def K mg x st) (b : ∀ {f : Addr} {fd : FuncData}, FunD K x x (defArgs st) (defBody st) (defScope st) [] [] f fd → Binds K fd ps [])
    (h : ∀ f fd, FunD K x x (defArgs st) (defBody st) (defScope st) [] [] f fd → FnOk P w K mg base CX k f fd ps sp) : FnE P w K mg base CX k x ps sp := by
  obtain ⟨f, fd, F, hm⟩ := D
  exact ⟨f, fd, h f fd F, hm, F.kp, b F⟩
theorem FnE.imp {sp' : Sp} (F : FnE P w K mg base CX k x ps sp) (h : ∀ vs H Q E, sp' vs H Q E → sp vs H Q E) : FnE P w K mg base CX k x ps sp' := by
  obtain ⟨f, fd, F, r⟩ := F.ex
  exact ⟨f, fd, F.imp h, r⟩
theorem FnE.mono (F : FnE P w K mg base CX j x ps sp) (h : j ≤ k) : FnE P w K mg base CX k x ps sp := by
  obtain ⟨f, fd, F, r⟩ := F.ex
  exact ⟨f, fd, F.mono h, r⟩
theorem Def.pure {N : List Str} {pre : List PyData → PyData → Prop} (D : Def K mg x st) (b : ∀ {f : Addr} {fd : FuncData}, FunD K x x (defArgs st) (defBody st) (defScope st) [] [] f fd → Binds K fd ps []) (S : FnScope N ps (defScope st)) (hl : ∀ ds d, pre ds d → ds.length = ps.length)
    (hbody : ∀ (f : Addr) (cdv : Value) (A : Around) (outer : List Env) (s : Shared) (H : Hp) (E : XK) (G : Hp) (vs : List V) (ds : List PyData) (d : PyData), Room k (A.deeper (envOfC x (defScope st) s.heap.objs.size f cdv)) → DaL G vs ds → pre ds d →
      ∃ t, PSs (cxOf CX P w K mg base N x (defScope st) f cdv A outer s H E).nox (defBody st) t ∧ RetD t (start N vs) G d) : FnE P w K mg base CX (k + 1) x ps (spF pre) :=
  D.fnE b fun f fd F => FunD.pure F S hl fun cdv A outer s H E G vs ds d => hbody f cdv A outer s H E G vs ds d
end
section
variable {X : Cx} {CX : CXT} {j k : Nat} {ps : List Str} {sp : Sp} {E : XK} {x : Str} {p pos : Pos} {e : Expr} {es : List Expr} {t : TA}
theorem pe_fX (h : FnE X.prog X.w X.K X.mg X.base CX j x ps sp) (hr : Room k X.A) (ha : PA X (e :: es) t) (hx : Passes CX X E) (hj : j ≤ k := by omega) (hg : Gl X x := by rfl) (hd : (x == ("__debug__" : Str)) = false := by decide)
    (he : starEach (e :: es) X.env = (false, eval e X.env) :: starEach es X.env := by rfl) (hpl : (backTo pos (starEach es X.env)).any (·.1) = false := by rfl) : PE X (.Call (.Name x p) (e :: es) [] pos) (tCall sp [] E t) := by
  obtain ⟨f, fd, F, hm, hk, hb⟩ := h.ex
  exact pe_call F (hr.mono hj) hg hm hk hb .nil hx ha hd he hpl
theorem pe_f (h : FnE X.prog X.w X.K X.mg X.base CX0 j x ps sp) (hr : Room k X.A) (ha : PA X (e :: es) t) (hj : j ≤ k := by omega) (hg : Gl X x := by rfl) (hd : (x == ("__debug__" : Str)) = false := by decide)
    (he : starEach (e :: es) X.env = (false, eval e X.env) :: starEach es X.env := by rfl) (hpl : (backTo pos (starEach es X.env)).any (·.1) = false := by rfl) : PE X (.Call (.Name x p) (e :: es) [] pos) (tCall sp [] E0 t) :=
  pe_fX h hr ha pass0 hj hg hd he hpl
theorem pe_f0 (h : FnE X.prog X.w X.K X.mg X.base CX0 j x ps sp) (hr : Room k X.A) (hj : j ≤ k := by omega) (hg : Gl X x := by rfl) (hd : (x == ("__debug__" : Str)) = false := by decide) : PE X (.Call (.Name x p) [] [] pos) (tCall sp [] E0 tNil) := by
  obtain ⟨f, fd, F, hm, hk, hb⟩ := h.ex
  exact pe_call0 F (hr.mono hj) hg hm hk hb .nil pass0 hd
end
theorem b_p_tupled {K : PySem.W.Frag} {f : Addr} {fd : FuncData} (F : FunD K "tupled" "tupled" (defArgs s_p_tupled) (defBody s_p_tupled) (defScope s_p_tupled) [] [] f fd) : Binds K fd ["thing"] [] := F.bindsN fun _ _ _ _ _ _ us hl => match us, hl with | [_], _ => rfl
theorem b_p_is_number {K : PySem.W.Frag} {f : Addr} {fd : FuncData} (F : FunD K "is_number" "is_number" (defArgs s_p_is_number) (defBody s_p_is_number) (defScope s_p_is_number) [] [] f fd) : Binds K fd ["thing"] [] := F.bindsN fun _ _ _ _ _ _ us hl => match us, hl with | [_], _ => rfl
theorem b_p_is_count {K : PySem.W.Frag} {f : Addr} {fd : FuncData} (F : FunD K "is_count" "is_count" (defArgs s_p_is_count) (defBody s_p_is_count) (defScope s_p_is_count) [] [] f fd) : Binds K fd ["thing"] [] := F.bindsN fun _ _ _ _ _ _ us hl => match us, hl with | [_], _ => rfl
theorem b_p_is_below {K : PySem.W.Frag} {f : Addr} {fd : FuncData} (F : FunD K "is_below" "is_below" (defArgs s_p_is_below) (defBody s_p_is_below) (defScope s_p_is_below) [] [] f fd) : Binds K fd ["thing", "many"] [] := F.bindsN fun _ _ _ _ _ _ us hl => match us, hl with | [_, _], _ => rfl
theorem b_p_is_tuple_of {K : PySem.W.Frag} {f : Addr} {fd : FuncData} (F : FunD K "is_tuple_of" "is_tuple_of" (defArgs s_p_is_tuple_of) (defBody s_p_is_tuple_of) (defScope s_p_is_tuple_of) [] [] f fd) : Binds K fd ["thing", "size"] [] := F.bindsN fun _ _ _ _ _ _ us hl => match us, hl with | [_, _], _ => rfl
theorem b_p_ascends {K : PySem.W.Frag} {f : Addr} {fd : FuncData} (F : FunD K "ascends" "ascends" (defArgs s_p_ascends) (defBody s_p_ascends) (defScope s_p_ascends) [] [] f fd) : Binds K fd ["thing"] [] := F.bindsN fun _ _ _ _ _ _ us hl => match us, hl with | [_], _ => rfl
theorem b_p_set_of {K : PySem.W.Frag} {f : Addr} {fd : FuncData} (F : FunD K "set_of" "set_of" (defArgs s_p_set_of) (defBody s_p_set_of) (defScope s_p_set_of) [] [] f fd) : Binds K fd ["things"] [] := F.bindsN fun _ _ _ _ _ _ us hl => match us, hl with | [_], _ => rfl
theorem b_p_is_beam_among {K : PySem.W.Frag} {f : Addr} {fd : FuncData} (F : FunD K "is_beam_among" "is_beam_among" (defArgs s_p_is_beam_among) (defBody s_p_is_beam_among) (defScope s_p_is_beam_among) [] [] f fd) : Binds K fd ["thing", "many"] [] := F.bindsN fun _ _ _ _ _ _ us hl => match us, hl with | [_, _], _ => rfl
theorem b_p_jacks_of {K : PySem.W.Frag} {f : Addr} {fd : FuncData} (F : FunD K "jacks_of" "jacks_of" (defArgs s_p_jacks_of) (defBody s_p_jacks_of) (defScope s_p_jacks_of) [] [] f fd) : Binds K fd ["beams"] [] := F.bindsN fun _ _ _ _ _ _ us hl => match us, hl with | [_], _ => rfl
theorem b_p_is_frame {K : PySem.W.Frag} {f : Addr} {fd : FuncData} (F : FunD K "is_frame" "is_frame" (defArgs s_p_is_frame) (defBody s_p_is_frame) (defScope s_p_is_frame) [] [] f fd) : Binds K fd ["thing"] [] := F.bindsN fun _ _ _ _ _ _ us hl => match us, hl with | [_], _ => rfl
theorem b_p_sure_frame {K : PySem.W.Frag} {f : Addr} {fd : FuncData} (F : FunD K "sure_frame" "sure_frame" (defArgs s_p_sure_frame) (defBody s_p_sure_frame) (defScope s_p_sure_frame) [] [] f fd) : Binds K fd ["frame"] [] := F.bindsN fun _ _ _ _ _ _ us hl => match us, hl with | [_], _ => rfl
theorem b_p_sure_jack {K : PySem.W.Frag} {f : Addr} {fd : FuncData} (F : FunD K "sure_jack" "sure_jack" (defArgs s_p_sure_jack) (defBody s_p_sure_jack) (defScope s_p_sure_jack) [] [] f fd) : Binds K fd ["frame", "jack"] [] := F.bindsN fun _ _ _ _ _ _ us hl => match us, hl with | [_, _], _ => rfl
theorem b_p_near_in {K : PySem.W.Frag} {f : Addr} {fd : FuncData} (F : FunD K "near_in" "near_in" (defArgs s_p_near_in) (defBody s_p_near_in) (defScope s_p_near_in) [] [] f fd) : Binds K fd ["frame", "jack"] [] := F.bindsN fun _ _ _ _ _ _ us hl => match us, hl with | [_, _], _ => rfl
theorem b_p_neighbours {K : PySem.W.Frag} {f : Addr} {fd : FuncData} (F : FunD K "neighbours" "neighbours" (defArgs s_p_neighbours) (defBody s_p_neighbours) (defScope s_p_neighbours) [] [] f fd) : Binds K fd ["frame", "jack"] [] := F.bindsN fun _ _ _ _ _ _ us hl => match us, hl with | [_, _], _ => rfl
theorem b_p_grown_from {K : PySem.W.Frag} {f : Addr} {fd : FuncData} (F : FunD K "grown_from" "grown_from" (defArgs s_p_grown_from) (defBody s_p_grown_from) (defScope s_p_grown_from) [] [] f fd) : Binds K fd ["frame", "root"] [] := F.bindsN fun _ _ _ _ _ _ us hl => match us, hl with | [_, _], _ => rfl
theorem b_p_parts_in {K : PySem.W.Frag} {f : Addr} {fd : FuncData} (F : FunD K "parts_in" "parts_in" (defArgs s_p_parts_in) (defBody s_p_parts_in) (defScope s_p_parts_in) [] [] f fd) : Binds K fd ["frame"] [] := F.bindsN fun _ _ _ _ _ _ us hl => match us, hl with | [_], _ => rfl
theorem b_p_parts {K : PySem.W.Frag} {f : Addr} {fd : FuncData} (F : FunD K "parts" "parts" (defArgs s_p_parts) (defBody s_p_parts) (defScope s_p_parts) [] [] f fd) : Binds K fd ["frame"] [] := F.bindsN fun _ _ _ _ _ _ us hl => match us, hl with | [_], _ => rfl
theorem b_p_part_of {K : PySem.W.Frag} {f : Addr} {fd : FuncData} (F : FunD K "part_of" "part_of" (defArgs s_p_part_of) (defBody s_p_part_of) (defScope s_p_part_of) [] [] f fd) : Binds K fd ["frame", "jack"] [] := F.bindsN fun _ _ _ _ _ _ us hl => match us, hl with | [_, _], _ => rfl
theorem b_p_put_apart {K : PySem.W.Frag} {f : Addr} {fd : FuncData} (F : FunD K "put_apart" "put_apart" (defArgs s_p_put_apart) (defBody s_p_put_apart) (defScope s_p_put_apart) [] [] f fd) : Binds K fd ["one", "other"] [] := F.bindsN fun _ _ _ _ _ _ us hl => match us, hl with | [_, _], _ => rfl
theorem b_box {K : PySem.W.Frag} {f : Addr} {fd : FuncData} (F : FunD K "_law_box" "_law_box" (defArgs s_box) (defBody s_box) (defScope s_box) [] [] f fd) : Binds K fd ["_law_script", "_law_k"] [] := F.bindsN fun _ _ _ _ _ _ us hl => match us, hl with | [_, _], _ => rfl
theorem b_take {K : PySem.W.Frag} {f : Addr} {fd : FuncData} (F : FunD K "_law_take" "_law_take" (defArgs s_take) (defBody s_take) (defScope s_take) [] [] f fd) : Binds K fd ["_law_tin", "_law_below_so"] [] := F.bindsN fun _ _ _ _ _ _ us hl => match us, hl with | [_, _], _ => rfl
theorem b_cells {K : PySem.W.Frag} {f : Addr} {fd : FuncData} (F : FunD K "_law_cells" "_law_cells" (defArgs s_cells) (defBody s_cells) (defScope s_cells) [] [] f fd) : Binds K fd ["_law_script", "_law_most_so"] [] := F.bindsN fun _ _ _ _ _ _ us hl => match us, hl with | [_, _], _ => rfl
theorem b_of {K : PySem.W.Frag} {f : Addr} {fd : FuncData} (F : FunD K "_law_of" "_law_of" (defArgs s_of) (defBody s_of) (defScope s_of) [] [] f fd) : Binds K fd ["_law_tin", "_law_goods_so"] [] := F.bindsN fun _ _ _ _ _ _ us hl => match us, hl with | [_, _], _ => rfl
theorem b_pick {K : PySem.W.Frag} {f : Addr} {fd : FuncData} (F : FunD K "_law_pick" "_law_pick" (defArgs s_pick) (defBody s_pick) (defScope s_pick) [] [] f fd) : Binds K fd ["_law_tin", "_law_goods_so", "_law_count_so"] [] := F.bindsN fun _ _ _ _ _ _ us hl => match us, hl with | [_, _, _], _ => rfl
theorem b_lists {K : PySem.W.Frag} {f : Addr} {fd : FuncData} (F : FunD K "_law_lists" "_law_lists" (defArgs s_lists) (defBody s_lists) (defScope s_lists) [] [] f fd) : Binds K fd ["_law_matter"] [] := F.bindsN fun _ _ _ _ _ _ us hl => match us, hl with | [_], _ => rfl
theorem b_same {K : PySem.W.Frag} {f : Addr} {fd : FuncData} (F : FunD K "_law_same" "_law_same" (defArgs s_same) (defBody s_same) (defScope s_same) [] [] f fd) : Binds K fd ["_law_got", "_law_due"] [] := F.bindsN fun _ _ _ _ _ _ us hl => match us, hl with | [_, _], _ => rfl
theorem b_is_number {K : PySem.W.Frag} {f : Addr} {fd : FuncData} (F : FunD K "_law_is_number" "_law_is_number" (defArgs s_is_number) (defBody s_is_number) (defScope s_is_number) [] [] f fd) : Binds K fd ["_law_own"] [] := F.bindsN fun _ _ _ _ _ _ us hl => match us, hl with | [_], _ => rfl
theorem b_put {K : PySem.W.Frag} {f : Addr} {fd : FuncData} (F : FunD K "_law_put" "_law_put" (defArgs s_put) (defBody s_put) (defScope s_put) [] [] f fd) : Binds K fd ["_law_row_so", "_law_place_so", "_law_bit_so"] [] := F.bindsN fun _ _ _ _ _ _ us hl => match us, hl with | [_, _, _], _ => rfl
theorem b_is_pair {K : PySem.W.Frag} {f : Addr} {fd : FuncData} (F : FunD K "_law_is_pair" "_law_is_pair" (defArgs s_is_pair) (defBody s_is_pair) (defScope s_is_pair) [] [] f fd) : Binds K fd ["_law_own"] [] := F.bindsN fun _ _ _ _ _ _ us hl => match us, hl with | [_], _ => rfl
theorem b_joined {K : PySem.W.Frag} {f : Addr} {fd : FuncData} (F : FunD K "_law_joined" "_law_joined" (defArgs s_joined) (defBody s_joined) (defScope s_joined) [] [] f fd) : Binds K fd ["_law_size_so", "_law_pairs_so"] [] := F.bindsN fun _ _ _ _ _ _ us hl => match us, hl with | [_, _], _ => rfl
theorem b_frame {K : PySem.W.Frag} {f : Addr} {fd : FuncData} (F : FunD K "_law_frame" "_law_frame" (defArgs s_frame) (defBody s_frame) (defScope s_frame) [] [] f fd) : Binds K fd ["_law_tin", "_law_most_so"] [] := F.bindsN fun _ _ _ _ _ _ us hl => match us, hl with | [_, _], _ => rfl
theorem b_next_to {K : PySem.W.Frag} {f : Addr} {fd : FuncData} (F : FunD K "_law_next_to" "_law_next_to" (defArgs s_next_to) (defBody s_next_to) (defScope s_next_to) [] [] f fd) : Binds K fd ["_law_frame_so", "_law_k"] [] := F.bindsN fun _ _ _ _ _ _ us hl => match us, hl with | [_, _], _ => rfl
theorem b_marked {K : PySem.W.Frag} {f : Addr} {fd : FuncData} (F : FunD K "_law_marked" "_law_marked" (defArgs s_marked) (defBody s_marked) (defScope s_marked) [] [] f fd) : Binds K fd ["_law_frame_so"] [] := F.bindsN fun _ _ _ _ _ _ us hl => match us, hl with | [_], _ => rfl
theorem b_parts_so {K : PySem.W.Frag} {f : Addr} {fd : FuncData} (F : FunD K "_law_parts_so" "_law_parts_so" (defArgs s_parts_so) (defBody s_parts_so) (defScope s_parts_so) [] [] f fd) : Binds K fd ["_law_frame_so"] [] := F.bindsN fun _ _ _ _ _ _ us hl => match us, hl with | [_], _ => rfl
theorem b_is_beam {K : PySem.W.Frag} {f : Addr} {fd : FuncData} (F : FunD K "_law_is_beam" "_law_is_beam" (defArgs s_is_beam) (defBody s_is_beam) (defScope s_is_beam) [] [] f fd) : Binds K fd ["_law_own", "_law_many_so"] [] := F.bindsN fun _ _ _ _ _ _ us hl => match us, hl with | [_, _], _ => rfl
theorem b_is_frame_so {K : PySem.W.Frag} {f : Addr} {fd : FuncData} (F : FunD K "_law_is_frame_so" "_law_is_frame_so" (defArgs s_is_frame_so) (defBody s_is_frame_so) (defScope s_is_frame_so) [] [] f fd) : Binds K fd ["_law_own"] [] := F.bindsN fun _ _ _ _ _ _ us hl => match us, hl with | [_], _ => rfl
theorem b_bent {K : PySem.W.Frag} {f : Addr} {fd : FuncData} (F : FunD K "_law_bent" "_law_bent" (defArgs s_bent) (defBody s_bent) (defScope s_bent) [] [] f fd) : Binds K fd ["_law_tin", "_law_frame_so"] [] := F.bindsN fun _ _ _ _ _ _ us hl => match us, hl with | [_, _], _ => rfl
theorem b_heard {K : PySem.W.Frag} {f : Addr} {fd : FuncData} (F : FunD K "_law_heard" "_law_heard" (defArgs s_heard) (defBody s_heard) (defScope s_heard) [] [] f fd) : Binds K fd ["_law_door_so", "_law_frame_so", "_law_k"] [] := F.bindsN fun _ _ _ _ _ _ us hl => match us, hl with | [_, _, _], _ => rfl
theorem b_right {K : PySem.W.Frag} {f : Addr} {fd : FuncData} (F : FunD K "_law_right" "_law_right" (defArgs s_right) (defBody s_right) (defScope s_right) [] [] f fd) : Binds K fd ["_law_tin"] [] := F.bindsN fun _ _ _ _ _ _ us hl => match us, hl with | [_], _ => rfl
theorem b_by_hand_right {K : PySem.W.Frag} {f : Addr} {fd : FuncData} (F : FunD K "_law_by_hand_right" "_law_by_hand_right" (defArgs s_by_hand_right) (defBody s_by_hand_right) (defScope s_by_hand_right) [] [] f fd) : Binds K fd [] [] := F.bindsN fun _ _ _ _ _ _ us hl => match us, hl with | [], _ => rfl
theorem b_law {K : PySem.W.Frag} {f : Addr} {fd : FuncData} (F : FunD K "law" "law" (defArgs s_law) (defBody s_law) (defScope s_law) [] [] f fd) : Binds K fd ["_law_script"] [] := F.bindsN fun _ _ _ _ _ _ us hl => match us, hl with | [_], _ => rfl
end K3

set_option Elab.async false
set_option linter.all false
set_option maxRecDepth 100000
set_option maxHeartbeats 4000000
/-! Operations of more than one kind: the reading says which. -/
namespace K3
open PySem PySem.Spec PyProof.Rows L2
def rOr (r r' : R2) : R2 := fun x y H Q => r x y H Q ∨ r' x y H Q
def sOr (r r' : V → Option Int → Option Int → Hp → VK → Prop) : V → Option Int → Option Int → Hp → VK → Prop := fun x lo hi H Q => r x lo hi H Q ∨ r' x lo hi H Q
def iOr (a b : TI) : TI := fun σ H R => a σ H R ∨ b σ H R
abbrev rPlus (K : PySem.W.Frag) : R2 := rOr (rI0 fun i j => .int (i + j)) (rOr (rCatA K) rCat)
abbrev rTimes : R2 := rOr (rI CMul fun i j => .int (i * j)) rRep
abbrev rLtX (K : PySem.W.Frag) : R2 := rOr (rI0 fun i j => .bl (decide (i < j))) (rLtT K)
abbrev rGeX (K : PySem.W.Frag) : R2 := rOr (rI0 fun i j => .bl (decide (j ≤ i))) (rGeP K)
abbrev rEqX (K : PySem.W.Frag) : R2 := rOr rEq (rEqD K)
abbrev rNeX (K : PySem.W.Frag) : R2 := rOr rNe (rNeD K)
abbrev rSl (K : PySem.W.Frag) := sOr (rSlA K) (rSlL K)
abbrev iSeq (K : PySem.W.Frag) (te : TE) : TI := iOr (iList K te) (iTup K te)
section
variable {X : Cx}
theorem op_or {f : Value → Value → Sem Value} {r r' : R2} (h : OpR X f r) (h' : OpR X f r') : OpR X f (rOr r r') := OpR.or h h'
theorem op_plus : OpR X (binaryOp .Add) (rPlus X.K) := op_or op_add (op_or op_catA op_cat)
theorem op_times : OpR X (binaryOp .Mult) rTimes := op_or op_mul op_rep
theorem op_ltX (h : X.A.units < cLine) : OpR X (compareOp .Lt) (rLtX X.K) := op_or op_lt (op_ltT h)
theorem op_geX (h : X.A.units < cLine) : OpR X (compareOp .GtE) (rGeX X.K) := op_or op_ge (op_geP h)
theorem op_eqX (h : X.A.units + 64 < cLine) : OpR X (compareOp .Eq) (rEqX X.K) := op_or op_eq (op_eqD h)
theorem op_neX (h : X.A.units + 64 < cLine) : OpR X (compareOp .NotEq) (rNeX X.K) := op_or op_ne (op_neD h)
theorem sl_seq : SlR X (rSl X.K) := SlR.or sl_tupA sl_list
theorem pi_or {tg e : Expr} {a b : TI} (h : PI X tg e a) (h' : PI X tg e b) : PI X tg e (iOr a b) := ⟨fun pins s σ H R I q => by
  rcases q with q | q
  · exact h.run pins s σ H R I q
  · exact h'.run pins s σ H R I q⟩
theorem pi_seq {tg e : Expr} {te : TE} (h : PE X e te) : PI X tg e (iSeq X.K te) := pi_or (pi_list h) (pi_tup h)
end
section
variable {K : PySem.W.Frag} {σ : L2.St} {G : Hp} {te : TE} {ts : TA} {x y z d : PyData} {ds es : List PyData} {r r' : R2}
theorem rd_l (h : RvD r x y z) : RvD (rOr r r') x y z := fun G H v w s hv hw Q q => .inl (h G H v w s hv hw Q q)
theorem rd_r (h : RvD r' x y z) : RvD (rOr r r') x y z := fun G H v w s hv hw Q q => .inr (h G H v w s hv hw Q q)
theorem rd_plusI {i j : Int} : RvD (rPlus K) (.int i) (.int j) (.int (i + j)) := rd_l rd_I0i
theorem rd_plusT (hl : ds.length + es.length ≤ 100000) : RvD (rPlus K) (.tuple ds) (.tuple es) (.tuple (ds ++ es)) := rd_r (rd_l (rd_catA hl))
theorem rd_plusL (hl : ds.length + es.length ≤ 100000) : RvD (rPlus K) (.list ds) (.list es) (.list (ds ++ es)) := rd_r (rd_r (rd_cat hl))
theorem rd_ltI {i j : Int} : RvD (rLtX K) (.int i) (.int j) (.bool (decide (i < j))) := rd_l rd_I0b
theorem rd_geI {i j : Int} : RvD (rGeX K) (.int i) (.int j) (.bool (decide (j ≤ i))) := rd_l rd_I0b
theorem rd_eqI0 {i j : Int} : RvD rEq (.int i) (.int j) (.bool (decide (i = j))) := fun G H v w s hv hw Q q => by
  rw [hv.of_int, hw.of_int]
  refine ⟨rfl, q _ G H (Gro.refl s) ?_⟩
  have e : decide (V.int i = V.int j) = decide (i = j) := by simp
  rw [e]
  exact .bl _
theorem rd_neI0 {i j : Int} : RvD rNe (.int i) (.int j) (.bool (decide (i ≠ j))) := fun G H v w s hv hw Q q => by
  rw [hv.of_int, hw.of_int]
  refine ⟨rfl, q _ G H (Gro.refl s) ?_⟩
  have e : (!decide (V.int i = V.int j)) = decide (i ≠ j) := by simp
  rw [e]
  exact .bl _
theorem rd_eqI1 {i j : Int} : RvD (rEqX K) (.int i) (.int j) (.bool (decide (i = j))) := rd_l rd_eqI0
theorem rd_neI1 {i j : Int} : RvD (rNeX K) (.int i) (.int j) (.bool (decide (i ≠ j))) := rd_l rd_neI0
theorem rd_eqB {i j : Bool} : RvD (rEqX K) (.bool i) (.bool j) (.bool (i == j)) := rd_l fun G H v w s hv hw Q q => by
  rw [hv.of_bool, hw.of_bool]
  refine ⟨rfl, q _ G H (Gro.refl s) ?_⟩
  have e : decide (V.bl i = V.bl j) = (i == j) := by simp; rfl
  rw [e]
  exact .bl _
theorem rd_neB {i j : Bool} : RvD (rNeX K) (.bool i) (.bool j) (.bool (i != j)) := rd_l fun G H v w s hv hw Q q => by
  rw [hv.of_bool, hw.of_bool]
  refine ⟨rfl, q _ G H (Gro.refl s) ?_⟩
  have e : (!decide (V.bl i = V.bl j)) = (i != j) := by cases i <;> cases j <;> rfl
  rw [e]
  exact .bl _
theorem rd_eqS (h1 : SeqAt.shaped x = true) (h2 : SeqAt.shaped y = true) : RvD (rEqX K) x y (.bool (PyData.eqv x y)) := rd_r (rd_eq h1 h2)
theorem rd_neS (h1 : SeqAt.shaped x = true) (h2 : SeqAt.shaped y = true) : RvD (rNeX K) x y (.bool (!PyData.eqv x y)) := rd_r (rd_ne h1 h2)
theorem rd_xT {i : Int} (ha : atI ds i = some d) : RvD (rIx K) (.tuple ds) (.int i) d := fun G H v w s hv hw Q q => .inr (.inl (rd_ixT ha G H v w s hv hw Q q))
theorem rd_xL {i : Int} (ha : atI ds i = some d) : RvD (rIx K) (.list ds) (.int i) d := fun G H v w s hv hw Q q => .inl (rd_ixL ha G H v w s hv hw Q q)
theorem rs_T {lo hi : Option Int} : RsD (rSl K) (.tuple ds) lo hi (.tuple (cutD ds lo hi)) := fun G H v s hv Q q => .inl (rd_slT G H v s hv Q q)
theorem rs_L {lo hi : Option Int} : RsD (rSl K) (.list ds) lo hi (.list (cutD ds lo hi)) := fun G H v s hv Q q => .inr (rd_slL G H v s hv Q q)
theorem so_T (h : EvD te σ G (.tuple ds)) : SrcD (iSeq K te) σ G ds := fun H s R q => .inr (sd_tup h H s R q)
theorem so_L (h : EvD te σ G (.list ds)) : SrcD (iSeq K te) σ G ds := fun H s R q => .inl (sd_list h H s R q)
theorem ed_revT (h : EvD te σ G (.tuple ds)) : EvD (tRevT K te) σ G (.tuple ds.reverse) := fun H s Q q => h H s _ fun v G1 H1 a1 hv => by
  obtain ⟨a, xs, rfl, ea, hx⟩ := hv.of_tup
  exact ⟨a, xs, rfl, SqT.of (a1.s _ _ ea), fun p hp => q _ (upd G1 p _) _ (a1.trans (Gro.new a1.s hp)) (Da.mk_t upd_same (hx.rev.mono (same_upd (a1.s.free hp))))⟩
end
end K3

set_option Elab.async false
set_option linter.all false
set_option maxRecDepth 100000
set_option maxHeartbeats 4000000
/-! Plain: sorted lists of ints without doubles. -/
namespace K3
open PySem
def insI (x : Int) : List Int → List Int
  | [] => [x]
  | y :: r => if x < y then x :: y :: r else if x = y then y :: r else y :: insI x r
def normI (ns : List Int) : List Int := ns.foldr insI []
theorem mem_insI {x z : Int} : ∀ {l : List Int}, z ∈ insI x l ↔ z = x ∨ z ∈ l
  | [] => by simp [insI]
  | y :: r => by
    unfold insI
    split
    · simp
    · split
      · rename_i h
        subst h
        simp
      · have ih := mem_insI (x := x) (z := z) (l := r)
        simp only [List.mem_cons, ih]
        constructor
        · rintro (h | h | h)
          · exact .inr (.inl h)
          · exact .inl h
          · exact .inr (.inr h)
        · rintro (h | h | h)
          · exact .inr (.inl h)
          · exact .inl h
          · exact .inr (.inr h)
theorem mem_normI {z : Int} : ∀ {l : List Int}, z ∈ normI l ↔ z ∈ l
  | [] => by simp [normI]
  | y :: r => by
    have e : normI (y :: r) = insI y (normI r) := rfl
    rw [e, mem_insI, mem_normI, List.mem_cons]
theorem sorted_insI {x : Int} : ∀ {l : List Int}, l.Pairwise (· < ·) → (insI x l).Pairwise (· < ·)
  | [], _ => by simp [insI]
  | y :: r, h => by
    rw [List.pairwise_cons] at h
    unfold insI
    split
    · rename_i c
      refine List.pairwise_cons.mpr ⟨fun z hz => ?_, List.pairwise_cons.mpr h⟩
      rcases List.mem_cons.mp hz with rfl | hz
      · exact c
      · exact Int.lt_trans c (h.1 z hz)
    · split
      · exact List.pairwise_cons.mpr h
      · rename_i c1 c2
        refine List.pairwise_cons.mpr ⟨fun z hz => ?_, sorted_insI h.2⟩
        rcases mem_insI.mp hz with rfl | hz
        · omega
        · exact h.1 z hz
theorem sorted_normI : ∀ (l : List Int), (normI l).Pairwise (· < ·)
  | [] => .nil
  | y :: r => by
    have e : normI (y :: r) = insI y (normI r) := rfl
    rw [e]
    exact sorted_insI (sorted_normI r)
theorem sorted_uniq : ∀ {l m : List Int}, l.Pairwise (· < ·) → m.Pairwise (· < ·) → (∀ z, z ∈ l ↔ z ∈ m) → l = m
  | [], [], _, _, _ => rfl
  | [], y :: m, _, _, h => absurd ((h y).mpr (by simp)) (by simp)
  | x :: l, [], _, _, h => absurd ((h x).mp (by simp)) (by simp)
  | x :: l, y :: m, hl, hm, h => by
    rw [List.pairwise_cons] at hl hm
    have e : x = y := by
      have h1 := (h x).mp (by simp)
      have h2 := (h y).mpr (by simp)
      rcases List.mem_cons.mp h1 with e | h1
      · exact e
      · rcases List.mem_cons.mp h2 with e | h2
        · exact e.symm
        · have a := hm.1 x h1
          have b := hl.1 y h2
          omega
    subst e
    congr 1
    refine sorted_uniq hl.2 hm.2 fun z => ⟨fun hz => ?_, fun hz => ?_⟩
    · rcases List.mem_cons.mp ((h z).mp (List.mem_cons_of_mem _ hz)) with e | q
      · subst e
        exact absurd (hl.1 z hz) (by omega)
      · exact q
    · rcases List.mem_cons.mp ((h z).mpr (List.mem_cons_of_mem _ hz)) with e | q
      · subst e
        exact absurd (hm.1 z hz) (by omega)
      · exact q
theorem norm_uniq {l m : List Int} (hm : m.Pairwise (· < ·)) (h : ∀ z, z ∈ m ↔ z ∈ l) : m = normI l := sorted_uniq hm (sorted_normI l) fun z => by rw [h z, mem_normI]
theorem insI_len {x : Int} : ∀ {l : List Int}, (insI x l).length ≤ l.length + 1
  | [] => by simp [insI]
  | y :: r => by
    unfold insI
    split
    · simp
    · split
      · simp
      · have := insI_len (x := x) (l := r)
        simp only [List.length_cons]
        omega
theorem normI_len : ∀ (l : List Int), (normI l).length ≤ l.length
  | [] => by simp [normI]
  | y :: r => by
    have e : normI (y :: r) = insI y (normI r) := rfl
    have := insI_len (x := y) (l := normI r)
    have := normI_len r
    rw [e, List.length_cons]
    omega
end K3

set_option Elab.async false
set_option linter.all false
set_option maxRecDepth 100000
set_option maxHeartbeats 4000000
/-! Names for the built-ins' readings. -/
namespace K3
open PySem PySem.Spec PyProof.Rows L2
abbrev rLen (K : PySem.W.Frag) : List V → Hp → VK → Prop := fun xs H Q => ∃ p ys, xs = [.ref p] ∧ (SqL K H p ys ∨ SqT K H p ys) ∧ Q (.int ys.length) H
abbrev rListOf (K : PySem.W.Frag) : List V → Hp → VK → Prop := fun xs H Q => ∃ p ys, xs = [.ref p] ∧ (SqL K H p ys ∨ SqT K H p ys) ∧ ∀ l, H l = none → Q (.ref l) (upd H l (.lst ys))
abbrev rTupOf (K : PySem.W.Frag) : List V → Hp → VK → Prop := fun xs H Q => ∃ p ys, xs = [.ref p] ∧ ((SqL K H p ys ∧ ∀ l, H l = none → Q (.ref l) (upd H l (.tup ys))) ∨ (SqT K H p ys ∧ Q (.ref p) H))
abbrev rInt1 : List V → Hp → VK → Prop := fun xs H Q => (∃ i, xs = [.int i] ∧ Q (.int i) H) ∨ ∃ k, xs = [.bl k] ∧ Q (.int (if k then 1 else 0)) H
abbrev rAbs : List V → Hp → VK → Prop := fun xs H Q => ∃ i, xs = [.int i] ∧ Q (.int (if i < 0 then -i else i)) H
abbrev rMin2 : List V → Hp → VK → Prop := fun xs H Q => ∃ i j, xs = [.int i, .int j] ∧ Q (.int (if j < i then j else i)) H
abbrev rMin2T (K : PySem.W.Frag) : List V → Hp → VK → Prop := fun xs H Q => ∃ a i j, xs = [.ref a] ∧ SqT K H a [.int i, .int j] ∧ Q (.int (min i j)) H
abbrev rMax2T (K : PySem.W.Frag) : List V → Hp → VK → Prop := fun xs H Q => ∃ a i j, xs = [.ref a] ∧ SqT K H a [.int i, .int j] ∧ Q (.int (max i j)) H
theorem pe_ty {X : Cx} {T : Str} {n : String} {pos : Pos} (hg : Gl X T) (hm : X.mg T = none) (hv : bootBuiltins T = some (.type n)) (hn : T ≠ "__name__" := by decide) (hd : (T == ("__debug__" : Str)) = false := by decide) : PE X (.Name T pos) (tC (.ty n)) := pe_bltn hg hm hv (show L2.RelV (.ty n) (.type n) from rfl) hn hd
end K3

set_option Elab.async false
set_option linter.all false
set_option maxRecDepth 100000
set_option maxHeartbeats 4000000
/-! The readings of the defs and the terms of rules. Printed by gen_walk.py. -/
namespace K3
open PySem PySem.Spec PyProof.Rows L2

def t_p_tupled (P : Program) (w : World) (K : PySem.W.Frag) (S_p_tupled : Sp) : TS :=
    (tRet (tIf (tB (tCB (rIsiT K) (tCons (tVar 0) (tCons (tTup (tCons (tC (.ty "list")) (tCons (tC (.ty "tuple")) tNil))) tNil)))) (tCB (rTupOf K) (tCons (tLc (iSeq K (tVar 0)) (gName 1) tYes (tCall S_p_tupled [] E0 (tCons (tVar 1) tNil)) [1]) tNil)) (tVar 0)))
theorem x_p_tupled {P : Program} {w : World} {K : PySem.W.Frag} {mg : Str → Option Value} {base : Heap} {CX : CXT} {f : Addr} {cdv : Value} {A : Around} {outer : List Env} {s : Shared} {H : Hp} {E : XK} {k r : Nat} (B : Bt mg) (hr : Room r (A.deeper (envOfC "tupled" (defScope s_p_tupled) s.heap.objs.size f cdv))) (hk : k ≤ r)
    {k_p_tupled : Nat} {p_p_tupled : List Str} {S_p_tupled : Sp} (F_p_tupled : FnE P w K mg base CX0 k_p_tupled "tupled" p_p_tupled S_p_tupled) (h_p_tupled : k_p_tupled ≤ k) :
    PSs (cxOf CX P w K mg base n_p_tupled "tupled" (defScope s_p_tupled) f cdv A outer s H E).nox (defBody s_p_tupled) (t_p_tupled P w K S_p_tupled) :=
    (pss_one (ps_ret (pe_ifExp (pt_val (pe_callB call_isiT rfl B.isi bo_isi (pa_cons (pv 0) (pa_cons (pe_tup (pa_cons (pe_ty rfl B.list bo_list) (pa_cons (pe_ty rfl B.tuple bo_tuple) pa_nil))) pa_nil)))) (pe_callTy call_tuple_of rfl B.tuple bo_tuple (pa_cons (pe_lc (own := [("part", 1)]) (g := (gName 1)) (tt := tYes) (te := (tCall S_p_tupled [] E0 (tCons (tVar 1) tNil))) rfl sc_p_tupled.nd (pi_seq (pv 0)) (blkOk_by (N := n_p_tupled) (sc := defScope s_p_tupled) (by decide +kernel)) (fun _ _ _ _ _ => (pg_name (i := 1) sc_p_tupled.nd rfl (Or.inl rfl))) (fun _ _ _ _ _ => pts_nil) (fun _ _ _ _ _ => (pe_f F_p_tupled hr (pa_cons (pv 1) pa_nil) (Nat.le_trans h_p_tupled hk)))) pa_nil)) (pv 0))))
def t_p_is_number (P : Program) (w : World) (K : PySem.W.Frag)  : TS :=
    (tRet (tAndV (tCB (rIsi K) (tCons (tVar 0) (tCons (tC (.ty "int")) tNil))) (tNotV (tCB (rIsi K) (tCons (tVar 0) (tCons (tC (.ty "bool")) tNil))))))
theorem x_p_is_number {P : Program} {w : World} {K : PySem.W.Frag} {mg : Str → Option Value} {base : Heap} {CX : CXT} {f : Addr} {cdv : Value} {A : Around} {outer : List Env} {s : Shared} {H : Hp} {E : XK} {k r : Nat} (B : Bt mg) (hr : Room r (A.deeper (envOfC "is_number" (defScope s_p_is_number) s.heap.objs.size f cdv))) (hk : k ≤ r)
     :
    PSs (cxOf CX P w K mg base n_p_is_number "is_number" (defScope s_p_is_number) f cdv A outer s H E).nox (defBody s_p_is_number) (t_p_is_number P w K ) :=
    (pss_one (ps_ret (pe_and (pe_callB call_isi rfl B.isi bo_isi (pa_cons (pv 0) (pa_cons (pe_ty rfl B.int bo_int) pa_nil))) (pe_one (pe_not (pe_callB call_isi rfl B.isi bo_isi (pa_cons (pv 0) (pa_cons (pe_ty rfl B.bool bo_bool) pa_nil))))))))
def t_p_is_count (P : Program) (w : World) (K : PySem.W.Frag) (S_p_is_number : Sp) : TS :=
    (tRet (tAndV (tCall S_p_is_number [] E0 (tCons (tVar 0) tNil)) (tOp (rGeX K) (tVar 0) (tC (.int 0)))))
theorem x_p_is_count {P : Program} {w : World} {K : PySem.W.Frag} {mg : Str → Option Value} {base : Heap} {CX : CXT} {f : Addr} {cdv : Value} {A : Around} {outer : List Env} {s : Shared} {H : Hp} {E : XK} {k r : Nat} (B : Bt mg) (hr : Room r (A.deeper (envOfC "is_count" (defScope s_p_is_count) s.heap.objs.size f cdv))) (hk : k ≤ r)
    {k_p_is_number : Nat} {p_p_is_number : List Str} {S_p_is_number : Sp} (F_p_is_number : FnE P w K mg base CX0 k_p_is_number "is_number" p_p_is_number S_p_is_number) (h_p_is_number : k_p_is_number ≤ k) :
    PSs (cxOf CX P w K mg base n_p_is_count "is_count" (defScope s_p_is_count) f cdv A outer s H E).nox (defBody s_p_is_count) (t_p_is_count P w K S_p_is_number) :=
    (pss_one (ps_ret (pe_and (pe_f F_p_is_number hr (pa_cons (pv 0) pa_nil) (Nat.le_trans h_p_is_number hk)) (pe_one (pe_cmpR (op_geX hr.u0) (pv 0) pe_int (nomark _))))))
def t_p_is_below (P : Program) (w : World) (K : PySem.W.Frag) (S_p_is_count : Sp) : TS :=
    (tRet (tAndV (tCall S_p_is_count [] E0 (tCons (tVar 0) tNil)) (tOp (rLtX K) (tVar 0) (tVar 1))))
theorem x_p_is_below {P : Program} {w : World} {K : PySem.W.Frag} {mg : Str → Option Value} {base : Heap} {CX : CXT} {f : Addr} {cdv : Value} {A : Around} {outer : List Env} {s : Shared} {H : Hp} {E : XK} {k r : Nat} (B : Bt mg) (hr : Room r (A.deeper (envOfC "is_below" (defScope s_p_is_below) s.heap.objs.size f cdv))) (hk : k ≤ r)
    {k_p_is_count : Nat} {p_p_is_count : List Str} {S_p_is_count : Sp} (F_p_is_count : FnE P w K mg base CX0 k_p_is_count "is_count" p_p_is_count S_p_is_count) (h_p_is_count : k_p_is_count ≤ k) :
    PSs (cxOf CX P w K mg base n_p_is_below "is_below" (defScope s_p_is_below) f cdv A outer s H E).nox (defBody s_p_is_below) (t_p_is_below P w K S_p_is_count) :=
    (pss_one (ps_ret (pe_and (pe_f F_p_is_count hr (pa_cons (pv 0) pa_nil) (Nat.le_trans h_p_is_count hk)) (pe_one (pe_cmpR (op_ltX hr.u0) (pv 0) (pv 1) (nomark _))))))
def t_p_is_tuple_of (P : Program) (w : World) (K : PySem.W.Frag)  : TS :=
    (tRet (tAndV (tCB (rIsi K) (tCons (tVar 0) (tCons (tC (.ty "tuple")) tNil))) (tOp (rEqX K) (tCB (rLen K) (tCons (tVar 0) tNil)) (tVar 1))))
theorem x_p_is_tuple_of {P : Program} {w : World} {K : PySem.W.Frag} {mg : Str → Option Value} {base : Heap} {CX : CXT} {f : Addr} {cdv : Value} {A : Around} {outer : List Env} {s : Shared} {H : Hp} {E : XK} {k r : Nat} (B : Bt mg) (hr : Room r (A.deeper (envOfC "is_tuple_of" (defScope s_p_is_tuple_of) s.heap.objs.size f cdv))) (hk : k ≤ r)
     :
    PSs (cxOf CX P w K mg base n_p_is_tuple_of "is_tuple_of" (defScope s_p_is_tuple_of) f cdv A outer s H E).nox (defBody s_p_is_tuple_of) (t_p_is_tuple_of P w K ) :=
    (pss_one (ps_ret (pe_and (pe_callB call_isi rfl B.isi bo_isi (pa_cons (pv 0) (pa_cons (pe_ty rfl B.tuple bo_tuple) pa_nil))) (pe_one (pe_cmpR (op_eqX hr.u64) (pe_callB call_len_seq rfl B.len bo_len (pa_cons (pv 0) pa_nil)) (pv 1) (nomark _))))))
def t_p_ascends (P : Program) (w : World) (K : PySem.W.Frag)  : TS :=
    (tRet (tCB (rAll K) (tCons (tLc (RZ.iZipA K (tCons (tVar 0) (tCons (tSl (rSl K) (tVar 0) (tPart (tC (.int 1))) tNoPart) tNil))) (gTup K 2 (gCons (gName 1) (gCons (gName 2) gNil))) tYes (tOp (rLtX K) (tVar 1) (tVar 2)) [1, 2]) tNil)))
theorem x_p_ascends {P : Program} {w : World} {K : PySem.W.Frag} {mg : Str → Option Value} {base : Heap} {CX : CXT} {f : Addr} {cdv : Value} {A : Around} {outer : List Env} {s : Shared} {H : Hp} {E : XK} {k r : Nat} (B : Bt mg) (hr : Room r (A.deeper (envOfC "ascends" (defScope s_p_ascends) s.heap.objs.size f cdv))) (hk : k ≤ r)
     :
    PSs (cxOf CX P w K mg base n_p_ascends "ascends" (defScope s_p_ascends) f cdv A outer s H E).nox (defBody s_p_ascends) (t_p_ascends P w K ) :=
    (pss_one (ps_ret (pe_callB (cr_all rfl) rfl B.all bo_all (pa_cons (pe_lc (own := [("near", 1), ("far", 2)]) (g := (gTup K 2 (gCons (gName 1) (gCons (gName 2) gNil)))) (tt := tYes) (te := (tOp (rLtX K) (tVar 1) (tVar 2))) rfl sc_p_ascends.nd (RZ.pi_zipA rfl B.zip (pa_cons (pv 0) (pa_cons (pe_slice sl_seq (pv 0) (po_some pe_int) po_none) pa_nil))) (blkOk_by (N := n_p_ascends) (sc := defScope s_p_ascends) (by decide +kernel)) (fun _ _ _ _ _ => (pg_tup rfl (pgs_cons (pg_name (i := 1) sc_p_ascends.nd rfl (Or.inl rfl)) (pgs_cons (pg_name (i := 2) sc_p_ascends.nd rfl (Or.inl rfl)) pgs_nil)))) (fun _ _ _ _ _ => pts_nil) (fun _ _ _ _ _ => (pe_cmpR (op_ltX hr.u0) (pv 1) (pv 2) (nomark _)))) pa_nil))))
def t_p_set_of (P : Program) (w : World) (K : PySem.W.Frag)  : TS :=
    (tRet (tCB (rTupOf K) (tCons (tCB (rSortedSet w) (tCons (tCB (rSetI K w) (tCons (tVar 0) tNil)) tNil)) tNil)))
theorem x_p_set_of {P : Program} {w : World} {K : PySem.W.Frag} {mg : Str → Option Value} {base : Heap} {CX : CXT} {f : Addr} {cdv : Value} {A : Around} {outer : List Env} {s : Shared} {H : Hp} {E : XK} {k r : Nat} (B : Bt mg) (hr : Room r (A.deeper (envOfC "set_of" (defScope s_p_set_of) s.heap.objs.size f cdv))) (hk : k ≤ r)
     :
    PSs (cxOf CX P w K mg base n_p_set_of "set_of" (defScope s_p_set_of) f cdv A outer s H E).nox (defBody s_p_set_of) (t_p_set_of P w K ) :=
    (pss_one (ps_ret (pe_callTy call_tuple_of rfl B.tuple bo_tuple (pa_cons (pe_callB (cr_sortedSet rfl) rfl B.sorted bo_sorted (pa_cons (pe_callTy (cr_setI rfl) rfl B.set bo_set (pa_cons (pv 0) pa_nil)) pa_nil)) pa_nil))))
def t_p_is_beam_among (P : Program) (w : World) (K : PySem.W.Frag) (S_p_is_tuple_of : Sp) (S_p_is_below : Sp) : TS :=
    (tRet (tAndV (tCall S_p_is_tuple_of [] E0 (tCons (tVar 0) (tCons (tC (.int 2)) tNil))) (tAndV (tCall S_p_is_below [] E0 (tCons (tOp (rIx K) (tVar 0) (tC (.int 0))) (tCons (tVar 1) tNil))) (tAndV (tCall S_p_is_below [] E0 (tCons (tOp (rIx K) (tVar 0) (tC (.int 1))) (tCons (tVar 1) tNil))) (tOp (rLtX K) (tOp (rIx K) (tVar 0) (tC (.int 0))) (tOp (rIx K) (tVar 0) (tC (.int 1))))))))
theorem x_p_is_beam_among {P : Program} {w : World} {K : PySem.W.Frag} {mg : Str → Option Value} {base : Heap} {CX : CXT} {f : Addr} {cdv : Value} {A : Around} {outer : List Env} {s : Shared} {H : Hp} {E : XK} {k r : Nat} (B : Bt mg) (hr : Room r (A.deeper (envOfC "is_beam_among" (defScope s_p_is_beam_among) s.heap.objs.size f cdv))) (hk : k ≤ r)
    {k_p_is_tuple_of : Nat} {p_p_is_tuple_of : List Str} {S_p_is_tuple_of : Sp} (F_p_is_tuple_of : FnE P w K mg base CX0 k_p_is_tuple_of "is_tuple_of" p_p_is_tuple_of S_p_is_tuple_of) (h_p_is_tuple_of : k_p_is_tuple_of ≤ k) {k_p_is_below : Nat} {p_p_is_below : List Str} {S_p_is_below : Sp} (F_p_is_below : FnE P w K mg base CX0 k_p_is_below "is_below" p_p_is_below S_p_is_below) (h_p_is_below : k_p_is_below ≤ k) :
    PSs (cxOf CX P w K mg base n_p_is_beam_among "is_beam_among" (defScope s_p_is_beam_among) f cdv A outer s H E).nox (defBody s_p_is_beam_among) (t_p_is_beam_among P w K S_p_is_tuple_of S_p_is_below) :=
    (pss_one (ps_ret (pe_and (pe_f F_p_is_tuple_of hr (pa_cons (pv 0) (pa_cons pe_int pa_nil)) (Nat.le_trans h_p_is_tuple_of hk)) (pe_and (pe_f F_p_is_below hr (pa_cons (pe_ix ix_seq (pv 0) pe_int (fun _ _ => rfl)) (pa_cons (pv 1) pa_nil)) (Nat.le_trans h_p_is_below hk)) (pe_and (pe_f F_p_is_below hr (pa_cons (pe_ix ix_seq (pv 0) pe_int (fun _ _ => rfl)) (pa_cons (pv 1) pa_nil)) (Nat.le_trans h_p_is_below hk)) (pe_one (pe_cmpR (op_ltX hr.u0) (pe_ix ix_seq (pv 0) pe_int (fun _ _ => rfl)) (pe_ix ix_seq (pv 0) pe_int (fun _ _ => rfl)) (nomark _))))))))
def t_p_jacks_of (P : Program) (w : World) (K : PySem.W.Frag) (S_p_set_of : Sp) : TS :=
    (tSeq (tAsg (tLst tNil) (gName 1))
    (tSeq (tFor (iSeq K (tVar 0)) (gName 2) (tDrop (tBM K "list" (rExtT K) (tVar 1) (tCons (tVar 2) tNil))))
    (tRet (tCall S_p_set_of [] E0 (tCons (tVar 1) tNil)))))
theorem x_p_jacks_of {P : Program} {w : World} {K : PySem.W.Frag} {mg : Str → Option Value} {base : Heap} {CX : CXT} {f : Addr} {cdv : Value} {A : Around} {outer : List Env} {s : Shared} {H : Hp} {E : XK} {k r : Nat} (B : Bt mg) (hr : Room r (A.deeper (envOfC "jacks_of" (defScope s_p_jacks_of) s.heap.objs.size f cdv))) (hk : k ≤ r)
    {k_p_set_of : Nat} {p_p_set_of : List Str} {S_p_set_of : Sp} (F_p_set_of : FnE P w K mg base CX0 k_p_set_of "set_of" p_p_set_of S_p_set_of) (h_p_set_of : k_p_set_of ≤ k) :
    PSs (cxOf CX P w K mg base n_p_jacks_of "jacks_of" (defScope s_p_jacks_of) f cdv A outer s H E).nox (defBody s_p_jacks_of) (t_p_jacks_of P w K S_p_set_of) :=
    (pss_cons (ps_set (i := 1) sc_p_jacks_of.nd rfl (Or.inl rfl) (pe_lst pa_nil))
    (pss_cons (ps_for PassesOwn.never rfl (pi_seq (pv 0)) (pg_name (i := 2) sc_p_jacks_of.nd rfl (Or.inl rfl)) (pss_one (ps_expr (pe_bm PySem.F.plainAttrs_list PySem.F.slot_list_extend PySem.F.type_list_extend mt_extT (pv 1) (pa_cons (pv 2) pa_nil)))))
    (pss_one (ps_ret (pe_f F_p_set_of hr (pa_cons (pv 1) pa_nil) (Nat.le_trans h_p_set_of hk))))))
def t_p_is_frame (P : Program) (w : World) (K : PySem.W.Frag) (S_p_is_tuple_of : Sp) (S_p_is_number : Sp) (S_p_is_beam_among : Sp) (S_p_ascends : Sp) (S_p_jacks_of : Sp) : TS :=
    (tSeq (tIfS (tOr (tNot (tB (tCall S_p_is_tuple_of [] E0 (tCons (tVar 0) (tCons (tC (.int 2)) tNil))))) (tOr (tNot (tB (tCall S_p_is_number [] E0 (tCons (tOp (rIx K) (tVar 0) (tC (.int 0))) tNil)))) (tOr (tTest (tOp (rLtX K) (tOp (rIx K) (tVar 0) (tC (.int 0))) (tC (.int 2)))) (tNot (tB (tCB (rIsi K) (tCons (tOp (rIx K) (tVar 0) (tC (.int 1))) (tCons (tC (.ty "tuple")) tNil)))))))) (tRet (tC (.bl false))) tNext)
    (tSeq (tAsg (tVar 0) (gTup K 2 (gCons (gName 1) (gCons (gName 2) gNil))))
    (tSeq (tIfS (tOr (tNot (tB (tCB (rAll K) (tCons (tLc (iSeq K (tVar 2)) (gName 3) tYes (tCall S_p_is_beam_among [] E0 (tCons (tVar 3) (tCons (tVar 1) tNil))) [3]) tNil)))) (tNot (tB (tCall S_p_ascends [] E0 (tCons (tVar 2) tNil))))) (tRet (tC (.bl false))) tNext)
    (tRet (tOp (rEqX K) (tCB (rLen K) (tCons (tCall S_p_jacks_of [] E0 (tCons (tVar 2) tNil)) tNil)) (tVar 1))))))
theorem x_p_is_frame {P : Program} {w : World} {K : PySem.W.Frag} {mg : Str → Option Value} {base : Heap} {CX : CXT} {f : Addr} {cdv : Value} {A : Around} {outer : List Env} {s : Shared} {H : Hp} {E : XK} {k r : Nat} (B : Bt mg) (hr : Room r (A.deeper (envOfC "is_frame" (defScope s_p_is_frame) s.heap.objs.size f cdv))) (hk : k ≤ r)
    {k_p_is_tuple_of : Nat} {p_p_is_tuple_of : List Str} {S_p_is_tuple_of : Sp} (F_p_is_tuple_of : FnE P w K mg base CX0 k_p_is_tuple_of "is_tuple_of" p_p_is_tuple_of S_p_is_tuple_of) (h_p_is_tuple_of : k_p_is_tuple_of ≤ k) {k_p_is_number : Nat} {p_p_is_number : List Str} {S_p_is_number : Sp} (F_p_is_number : FnE P w K mg base CX0 k_p_is_number "is_number" p_p_is_number S_p_is_number) (h_p_is_number : k_p_is_number ≤ k) {k_p_is_beam_among : Nat} {p_p_is_beam_among : List Str} {S_p_is_beam_among : Sp} (F_p_is_beam_among : FnE P w K mg base CX0 k_p_is_beam_among "is_beam_among" p_p_is_beam_among S_p_is_beam_among) (h_p_is_beam_among : k_p_is_beam_among ≤ k) {k_p_ascends : Nat} {p_p_ascends : List Str} {S_p_ascends : Sp} (F_p_ascends : FnE P w K mg base CX0 k_p_ascends "ascends" p_p_ascends S_p_ascends) (h_p_ascends : k_p_ascends ≤ k) {k_p_jacks_of : Nat} {p_p_jacks_of : List Str} {S_p_jacks_of : Sp} (F_p_jacks_of : FnE P w K mg base CX0 k_p_jacks_of "jacks_of" p_p_jacks_of S_p_jacks_of) (h_p_jacks_of : k_p_jacks_of ≤ k) :
    PSs (cxOf CX P w K mg base n_p_is_frame "is_frame" (defScope s_p_is_frame) f cdv A outer s H E).nox (defBody s_p_is_frame) (t_p_is_frame P w K S_p_is_tuple_of S_p_is_number S_p_is_beam_among S_p_ascends S_p_jacks_of) :=
    (pss_cons (ps_if (PW.pt (pw_or (pt_not (pt_val (pe_f F_p_is_tuple_of hr (pa_cons (pv 0) (pa_cons pe_int pa_nil)) (Nat.le_trans h_p_is_tuple_of hk)))) (pw_or (pt_not (pt_val (pe_f F_p_is_number hr (pa_cons (pe_ix ix_seq (pv 0) pe_int (fun _ _ => rfl)) pa_nil) (Nat.le_trans h_p_is_number hk)))) (pw_or (pt_cmpR (op_ltX hr.u0) (pe_ix ix_seq (pv 0) pe_int (fun _ _ => rfl)) pe_int (nomark _)) (pw_or1 (pt_not (pt_val (pe_callB call_isi rfl B.isi bo_isi (pa_cons (pe_ix ix_seq (pv 0) pe_int (fun _ _ => rfl)) (pa_cons (pe_ty rfl B.tuple bo_tuple) pa_nil)))))))))) (pss_one (ps_ret pe_bl)) pss_nil)
    (pss_cons (ps_asg (pv 0) (pg_tup rfl (pgs_cons (pg_name (i := 1) sc_p_is_frame.nd rfl (Or.inr rfl)) (pgs_cons (pg_name (i := 2) sc_p_is_frame.nd rfl (Or.inl rfl)) pgs_nil))))
    (pss_cons (ps_if (PW.pt (pw_or (pt_not (pt_val (pe_callB (cr_all rfl) rfl B.all bo_all (pa_cons (pe_lc (own := [("beam", 3)]) (g := (gName 3)) (tt := tYes) (te := (tCall S_p_is_beam_among [] E0 (tCons (tVar 3) (tCons (tVar 1) tNil)))) rfl sc_p_is_frame.nd (pi_seq (pv 2)) (blkOk_by (N := n_p_is_frame) (sc := defScope s_p_is_frame) (by decide +kernel)) (fun _ _ _ _ _ => (pg_name (i := 3) sc_p_is_frame.nd rfl (Or.inl rfl))) (fun _ _ _ _ _ => pts_nil) (fun _ _ _ _ _ => (pe_f F_p_is_beam_among hr (pa_cons (pv 3) (pa_cons (pv 1) pa_nil)) (Nat.le_trans h_p_is_beam_among hk)))) pa_nil)))) (pw_or1 (pt_not (pt_val (pe_f F_p_ascends hr (pa_cons (pv 2) pa_nil) (Nat.le_trans h_p_ascends hk))))))) (pss_one (ps_ret pe_bl)) pss_nil)
    (pss_one (ps_ret (pe_cmpR (op_eqX hr.u64) (pe_callB call_len_seq rfl B.len bo_len (pa_cons (pe_f F_p_jacks_of hr (pa_cons (pv 2) pa_nil) (Nat.le_trans h_p_jacks_of hk)) pa_nil)) (pv 1) (nomark _)))))))
def t_p_sure_frame (P : Program) (w : World) (K : PySem.W.Frag) (S_p_tupled : Sp) (S_p_is_frame : Sp) : TS :=
    (tSeq (tAsg (tCall S_p_tupled [] E0 (tCons (tVar 0) tNil)) (gName 1))
    (tSeq (tIfS (tNot (tB (tCall S_p_is_frame [] E0 (tCons (tVar 1) tNil)))) tNever tNext)
    (tRet (tVar 1))))
theorem x_p_sure_frame {P : Program} {w : World} {K : PySem.W.Frag} {mg : Str → Option Value} {base : Heap} {CX : CXT} {f : Addr} {cdv : Value} {A : Around} {outer : List Env} {s : Shared} {H : Hp} {E : XK} {k r : Nat} (B : Bt mg) (hr : Room r (A.deeper (envOfC "sure_frame" (defScope s_p_sure_frame) s.heap.objs.size f cdv))) (hk : k ≤ r)
    {k_p_tupled : Nat} {p_p_tupled : List Str} {S_p_tupled : Sp} (F_p_tupled : FnE P w K mg base CX0 k_p_tupled "tupled" p_p_tupled S_p_tupled) (h_p_tupled : k_p_tupled ≤ k) {k_p_is_frame : Nat} {p_p_is_frame : List Str} {S_p_is_frame : Sp} (F_p_is_frame : FnE P w K mg base CX0 k_p_is_frame "is_frame" p_p_is_frame S_p_is_frame) (h_p_is_frame : k_p_is_frame ≤ k) :
    PSs (cxOf CX P w K mg base n_p_sure_frame "sure_frame" (defScope s_p_sure_frame) f cdv A outer s H E).nox (defBody s_p_sure_frame) (t_p_sure_frame P w K S_p_tupled S_p_is_frame) :=
    (pss_cons (ps_set (i := 1) sc_p_sure_frame.nd rfl (Or.inl rfl) (pe_f F_p_tupled hr (pa_cons (pv 0) pa_nil) (Nat.le_trans h_p_tupled hk)))
    (pss_cons (ps_if (pt_not (pt_val (pe_f F_p_is_frame hr (pa_cons (pv 1) pa_nil) (Nat.le_trans h_p_is_frame hk)))) pss_never pss_nil)
    (pss_one (ps_ret (pv 1)))))
def t_p_sure_jack (P : Program) (w : World) (K : PySem.W.Frag) (S_p_is_number : Sp) (S_p_is_below : Sp) : TS :=
    (tSeq (tIfS (tNot (tB (tCall S_p_is_number [] E0 (tCons (tVar 1) tNil)))) tNever tNext)
    (tSeq (tIfS (tNot (tB (tCall S_p_is_below [] E0 (tCons (tVar 1) (tCons (tOp (rIx K) (tVar 0) (tC (.int 0))) tNil))))) tNever tNext)
    (tRet (tVar 1))))
theorem x_p_sure_jack {P : Program} {w : World} {K : PySem.W.Frag} {mg : Str → Option Value} {base : Heap} {CX : CXT} {f : Addr} {cdv : Value} {A : Around} {outer : List Env} {s : Shared} {H : Hp} {E : XK} {k r : Nat} (B : Bt mg) (hr : Room r (A.deeper (envOfC "sure_jack" (defScope s_p_sure_jack) s.heap.objs.size f cdv))) (hk : k ≤ r)
    {k_p_is_number : Nat} {p_p_is_number : List Str} {S_p_is_number : Sp} (F_p_is_number : FnE P w K mg base CX0 k_p_is_number "is_number" p_p_is_number S_p_is_number) (h_p_is_number : k_p_is_number ≤ k) {k_p_is_below : Nat} {p_p_is_below : List Str} {S_p_is_below : Sp} (F_p_is_below : FnE P w K mg base CX0 k_p_is_below "is_below" p_p_is_below S_p_is_below) (h_p_is_below : k_p_is_below ≤ k) :
    PSs (cxOf CX P w K mg base n_p_sure_jack "sure_jack" (defScope s_p_sure_jack) f cdv A outer s H E).nox (defBody s_p_sure_jack) (t_p_sure_jack P w K S_p_is_number S_p_is_below) :=
    (pss_cons (ps_if (pt_not (pt_val (pe_f F_p_is_number hr (pa_cons (pv 1) pa_nil) (Nat.le_trans h_p_is_number hk)))) pss_never pss_nil)
    (pss_cons (ps_if (pt_not (pt_val (pe_f F_p_is_below hr (pa_cons (pv 1) (pa_cons (pe_ix ix_seq (pv 0) pe_int (fun _ _ => rfl)) pa_nil)) (Nat.le_trans h_p_is_below hk)))) pss_never pss_nil)
    (pss_one (ps_ret (pv 1)))))
def t_p_near_in (P : Program) (w : World) (K : PySem.W.Frag) (S_p_set_of : Sp) : TS :=
    (tRet (tCall S_p_set_of [] E0 (tCons (tLc (iSeq K (tOp (rIx K) (tVar 0) (tC (.int 1)))) (gName 2) (tTest (tOp (rIn K false) (tVar 1) (tVar 2))) (tOp (rI0 fun i j => .int (i - j)) (tOp (rPlus K) (tOp (rIx K) (tVar 2) (tC (.int 0))) (tOp (rIx K) (tVar 2) (tC (.int 1)))) (tVar 1)) [2]) tNil)))
theorem x_p_near_in {P : Program} {w : World} {K : PySem.W.Frag} {mg : Str → Option Value} {base : Heap} {CX : CXT} {f : Addr} {cdv : Value} {A : Around} {outer : List Env} {s : Shared} {H : Hp} {E : XK} {k r : Nat} (B : Bt mg) (hr : Room r (A.deeper (envOfC "near_in" (defScope s_p_near_in) s.heap.objs.size f cdv))) (hk : k ≤ r)
    {k_p_set_of : Nat} {p_p_set_of : List Str} {S_p_set_of : Sp} (F_p_set_of : FnE P w K mg base CX0 k_p_set_of "set_of" p_p_set_of S_p_set_of) (h_p_set_of : k_p_set_of ≤ k) :
    PSs (cxOf CX P w K mg base n_p_near_in "near_in" (defScope s_p_near_in) f cdv A outer s H E).nox (defBody s_p_near_in) (t_p_near_in P w K S_p_set_of) :=
    (pss_one (ps_ret (pe_f F_p_set_of hr (pa_cons (pe_lc (own := [("beam", 2)]) (g := (gName 2)) (tt := (tTest (tOp (rIn K false) (tVar 1) (tVar 2)))) (te := (tOp (rI0 fun i j => .int (i - j)) (tOp (rPlus K) (tOp (rIx K) (tVar 2) (tC (.int 0))) (tOp (rIx K) (tVar 2) (tC (.int 1)))) (tVar 1))) rfl sc_p_near_in.nd (pi_seq (pe_ix ix_seq (pv 0) pe_int (fun _ _ => rfl))) (blkOk_by (N := n_p_near_in) (sc := defScope s_p_near_in) (by decide +kernel)) (fun _ _ _ _ _ => (pg_name (i := 2) sc_p_near_in.nd rfl (Or.inl rfl))) (fun _ _ _ _ _ => (pts_one (pt_cmpR op_in_seq (pv 1) (pv 2) (by with_unfolding_all rfl)))) (fun _ _ _ _ _ => (pe_op op_sub (pe_op op_plus (pe_ix ix_seq (pv 2) pe_int (fun _ _ => rfl)) (pe_ix ix_seq (pv 2) pe_int (fun _ _ => rfl))) (pv 1)))) pa_nil) (Nat.le_trans h_p_set_of hk))))
def t_p_neighbours (P : Program) (w : World) (K : PySem.W.Frag) (S_p_sure_frame : Sp) (S_p_near_in : Sp) (S_p_sure_jack : Sp) : TS :=
    (tSeq (tAsg (tCall S_p_sure_frame [] E0 (tCons (tVar 0) tNil)) (gName 2))
    (tRet (tCall S_p_near_in [] E0 (tCons (tVar 2) (tCons (tCall S_p_sure_jack [] E0 (tCons (tVar 2) (tCons (tVar 1) tNil))) tNil)))))
theorem x_p_neighbours {P : Program} {w : World} {K : PySem.W.Frag} {mg : Str → Option Value} {base : Heap} {CX : CXT} {f : Addr} {cdv : Value} {A : Around} {outer : List Env} {s : Shared} {H : Hp} {E : XK} {k r : Nat} (B : Bt mg) (hr : Room r (A.deeper (envOfC "neighbours" (defScope s_p_neighbours) s.heap.objs.size f cdv))) (hk : k ≤ r)
    {k_p_sure_frame : Nat} {p_p_sure_frame : List Str} {S_p_sure_frame : Sp} (F_p_sure_frame : FnE P w K mg base CX0 k_p_sure_frame "sure_frame" p_p_sure_frame S_p_sure_frame) (h_p_sure_frame : k_p_sure_frame ≤ k) {k_p_near_in : Nat} {p_p_near_in : List Str} {S_p_near_in : Sp} (F_p_near_in : FnE P w K mg base CX0 k_p_near_in "near_in" p_p_near_in S_p_near_in) (h_p_near_in : k_p_near_in ≤ k) {k_p_sure_jack : Nat} {p_p_sure_jack : List Str} {S_p_sure_jack : Sp} (F_p_sure_jack : FnE P w K mg base CX0 k_p_sure_jack "sure_jack" p_p_sure_jack S_p_sure_jack) (h_p_sure_jack : k_p_sure_jack ≤ k) :
    PSs (cxOf CX P w K mg base n_p_neighbours "neighbours" (defScope s_p_neighbours) f cdv A outer s H E).nox (defBody s_p_neighbours) (t_p_neighbours P w K S_p_sure_frame S_p_near_in S_p_sure_jack) :=
    (pss_cons (ps_set (i := 2) sc_p_neighbours.nd rfl (Or.inl rfl) (pe_f F_p_sure_frame hr (pa_cons (pv 0) pa_nil) (Nat.le_trans h_p_sure_frame hk)))
    (pss_one (ps_ret (pe_f F_p_near_in hr (pa_cons (pv 2) (pa_cons (pe_f F_p_sure_jack hr (pa_cons (pv 2) (pa_cons (pv 1) pa_nil)) (Nat.le_trans h_p_sure_jack hk)) pa_nil)) (Nat.le_trans h_p_near_in hk)))))
def t_p_parts_in (P : Program) (w : World) (K : PySem.W.Frag) (S_p_set_of : Sp) (S_p_grown_from : Sp) : TS :=
    (tSeq (tPar 1 2 (tCons (tLst tNil) (tCons (tLst tNil) tNil)))
    (tSeq (tFor (iRng1 (tCons (tOp (rIx K) (tVar 0) (tC (.int 0))) tNil)) (gName 3) (tIfS (tTest (tOp (rIn K true) (tVar 3) (tVar 2))) (tSeq (tAsg (tCall S_p_set_of [] E0 (tCons (tCall S_p_grown_from [] E0 (tCons (tVar 0) (tCons (tVar 3) tNil))) tNil)) (gName 4))
    (tSeq (tDrop (tBM K "list" rAppend (tVar 1) (tCons (tVar 4) tNil)))
    (tDrop (tBM K "list" (rExtT K) (tVar 2) (tCons (tVar 4) tNil))))) tNext))
    (tRet (tCB (rTupOf K) (tCons (tVar 1) tNil)))))
theorem x_p_parts_in {P : Program} {w : World} {K : PySem.W.Frag} {mg : Str → Option Value} {base : Heap} {CX : CXT} {f : Addr} {cdv : Value} {A : Around} {outer : List Env} {s : Shared} {H : Hp} {E : XK} {k r : Nat} (B : Bt mg) (hr : Room r (A.deeper (envOfC "parts_in" (defScope s_p_parts_in) s.heap.objs.size f cdv))) (hk : k ≤ r)
    {k_p_set_of : Nat} {p_p_set_of : List Str} {S_p_set_of : Sp} (F_p_set_of : FnE P w K mg base CX0 k_p_set_of "set_of" p_p_set_of S_p_set_of) (h_p_set_of : k_p_set_of ≤ k) {k_p_grown_from : Nat} {p_p_grown_from : List Str} {S_p_grown_from : Sp} (F_p_grown_from : FnE P w K mg base CX0 k_p_grown_from "grown_from" p_p_grown_from S_p_grown_from) (h_p_grown_from : k_p_grown_from ≤ k) :
    PSs (cxOf CX P w K mg base n_p_parts_in "parts_in" (defScope s_p_parts_in) f cdv A outer s H E).nox (defBody s_p_parts_in) (t_p_parts_in P w K S_p_set_of S_p_grown_from) :=
    (pss_cons (ps_par (i := 1) (j := 2) rfl sc_p_parts_in.nd rfl rfl (by decide) rfl rfl (pa_cons (pe_lst pa_nil) (pa_cons (pe_lst pa_nil) pa_nil)) rfl)
    (pss_cons (ps_for PassesOwn.never rfl (pi_range1 rfl B.range (pa_cons (pe_ix ix_seq (pv 0) pe_int (fun _ _ => rfl)) pa_nil)) (pg_name (i := 3) sc_p_parts_in.nd rfl (Or.inl rfl)) (pss_one (ps_if (pt_cmpR op_notIn_seq (pv 3) (pv 2) (by with_unfolding_all rfl)) (pss_cons (ps_set (i := 4) sc_p_parts_in.nd rfl (Or.inl rfl) (pe_f F_p_set_of hr (pa_cons (pe_f F_p_grown_from hr (pa_cons (pv 0) (pa_cons (pv 3) pa_nil)) (Nat.le_trans h_p_grown_from hk)) pa_nil) (Nat.le_trans h_p_set_of hk)))
    (pss_cons (ps_expr (pe_bm PySem.F.plainAttrs_list PySem.F.slot_list_append PySem.F.type_list_append mt_append (pv 1) (pa_cons (pv 4) pa_nil)))
    (pss_one (ps_expr (pe_bm PySem.F.plainAttrs_list PySem.F.slot_list_extend PySem.F.type_list_extend mt_extT (pv 2) (pa_cons (pv 4) pa_nil)))))) pss_nil)))
    (pss_one (ps_ret (pe_callTy call_tuple_of rfl B.tuple bo_tuple (pa_cons (pv 1) pa_nil))))))
def t_p_parts (P : Program) (w : World) (K : PySem.W.Frag) (S_p_parts_in : Sp) (S_p_sure_frame : Sp) : TS :=
    (tRet (tCall S_p_parts_in [] E0 (tCons (tCall S_p_sure_frame [] E0 (tCons (tVar 0) tNil)) tNil)))
theorem x_p_parts {P : Program} {w : World} {K : PySem.W.Frag} {mg : Str → Option Value} {base : Heap} {CX : CXT} {f : Addr} {cdv : Value} {A : Around} {outer : List Env} {s : Shared} {H : Hp} {E : XK} {k r : Nat} (B : Bt mg) (hr : Room r (A.deeper (envOfC "parts" (defScope s_p_parts) s.heap.objs.size f cdv))) (hk : k ≤ r)
    {k_p_parts_in : Nat} {p_p_parts_in : List Str} {S_p_parts_in : Sp} (F_p_parts_in : FnE P w K mg base CX0 k_p_parts_in "parts_in" p_p_parts_in S_p_parts_in) (h_p_parts_in : k_p_parts_in ≤ k) {k_p_sure_frame : Nat} {p_p_sure_frame : List Str} {S_p_sure_frame : Sp} (F_p_sure_frame : FnE P w K mg base CX0 k_p_sure_frame "sure_frame" p_p_sure_frame S_p_sure_frame) (h_p_sure_frame : k_p_sure_frame ≤ k) :
    PSs (cxOf CX P w K mg base n_p_parts "parts" (defScope s_p_parts) f cdv A outer s H E).nox (defBody s_p_parts) (t_p_parts P w K S_p_parts_in S_p_sure_frame) :=
    (pss_one (ps_ret (pe_f F_p_parts_in hr (pa_cons (pe_f F_p_sure_frame hr (pa_cons (pv 0) pa_nil) (Nat.le_trans h_p_sure_frame hk)) pa_nil) (Nat.le_trans h_p_parts_in hk))))
def t_p_part_of (P : Program) (w : World) (K : PySem.W.Frag) (S_p_sure_frame : Sp) (S_p_set_of : Sp) (S_p_grown_from : Sp) (S_p_sure_jack : Sp) : TS :=
    (tSeq (tAsg (tCall S_p_sure_frame [] E0 (tCons (tVar 0) tNil)) (gName 2))
    (tRet (tCall S_p_set_of [] E0 (tCons (tCall S_p_grown_from [] E0 (tCons (tVar 2) (tCons (tCall S_p_sure_jack [] E0 (tCons (tVar 2) (tCons (tVar 1) tNil))) tNil))) tNil))))
theorem x_p_part_of {P : Program} {w : World} {K : PySem.W.Frag} {mg : Str → Option Value} {base : Heap} {CX : CXT} {f : Addr} {cdv : Value} {A : Around} {outer : List Env} {s : Shared} {H : Hp} {E : XK} {k r : Nat} (B : Bt mg) (hr : Room r (A.deeper (envOfC "part_of" (defScope s_p_part_of) s.heap.objs.size f cdv))) (hk : k ≤ r)
    {k_p_sure_frame : Nat} {p_p_sure_frame : List Str} {S_p_sure_frame : Sp} (F_p_sure_frame : FnE P w K mg base CX0 k_p_sure_frame "sure_frame" p_p_sure_frame S_p_sure_frame) (h_p_sure_frame : k_p_sure_frame ≤ k) {k_p_set_of : Nat} {p_p_set_of : List Str} {S_p_set_of : Sp} (F_p_set_of : FnE P w K mg base CX0 k_p_set_of "set_of" p_p_set_of S_p_set_of) (h_p_set_of : k_p_set_of ≤ k) {k_p_grown_from : Nat} {p_p_grown_from : List Str} {S_p_grown_from : Sp} (F_p_grown_from : FnE P w K mg base CX0 k_p_grown_from "grown_from" p_p_grown_from S_p_grown_from) (h_p_grown_from : k_p_grown_from ≤ k) {k_p_sure_jack : Nat} {p_p_sure_jack : List Str} {S_p_sure_jack : Sp} (F_p_sure_jack : FnE P w K mg base CX0 k_p_sure_jack "sure_jack" p_p_sure_jack S_p_sure_jack) (h_p_sure_jack : k_p_sure_jack ≤ k) :
    PSs (cxOf CX P w K mg base n_p_part_of "part_of" (defScope s_p_part_of) f cdv A outer s H E).nox (defBody s_p_part_of) (t_p_part_of P w K S_p_sure_frame S_p_set_of S_p_grown_from S_p_sure_jack) :=
    (pss_cons (ps_set (i := 2) sc_p_part_of.nd rfl (Or.inl rfl) (pe_f F_p_sure_frame hr (pa_cons (pv 0) pa_nil) (Nat.le_trans h_p_sure_frame hk)))
    (pss_one (ps_ret (pe_f F_p_set_of hr (pa_cons (pe_f F_p_grown_from hr (pa_cons (pv 2) (pa_cons (pe_f F_p_sure_jack hr (pa_cons (pv 2) (pa_cons (pv 1) pa_nil)) (Nat.le_trans h_p_sure_jack hk)) pa_nil)) (Nat.le_trans h_p_grown_from hk)) pa_nil) (Nat.le_trans h_p_set_of hk)))))
def t_p_put_apart (P : Program) (w : World) (K : PySem.W.Frag) (S_p_sure_frame : Sp) : TS :=
    (tSeq (tAsg (tCall S_p_sure_frame [] E0 (tCons (tVar 0) tNil)) (gName 2))
    (tSeq (tAsg (tCall S_p_sure_frame [] E0 (tCons (tVar 1) tNil)) (gName 3))
    (tRet (tTup (tCons (tOp (rPlus K) (tOp (rIx K) (tVar 2) (tC (.int 0))) (tOp (rIx K) (tVar 3) (tC (.int 0)))) (tCons (tOp (rPlus K) (tOp (rIx K) (tVar 2) (tC (.int 1))) (tCB (rTupOf K) (tCons (tLc (iSeq K (tOp (rIx K) (tVar 3) (tC (.int 1)))) (gName 4) tYes (tTup (tCons (tOp (rPlus K) (tOp (rIx K) (tVar 2) (tC (.int 0))) (tOp (rIx K) (tVar 4) (tC (.int 0)))) (tCons (tOp (rPlus K) (tOp (rIx K) (tVar 2) (tC (.int 0))) (tOp (rIx K) (tVar 4) (tC (.int 1)))) tNil))) [4]) tNil))) tNil))))))
theorem x_p_put_apart {P : Program} {w : World} {K : PySem.W.Frag} {mg : Str → Option Value} {base : Heap} {CX : CXT} {f : Addr} {cdv : Value} {A : Around} {outer : List Env} {s : Shared} {H : Hp} {E : XK} {k r : Nat} (B : Bt mg) (hr : Room r (A.deeper (envOfC "put_apart" (defScope s_p_put_apart) s.heap.objs.size f cdv))) (hk : k ≤ r)
    {k_p_sure_frame : Nat} {p_p_sure_frame : List Str} {S_p_sure_frame : Sp} (F_p_sure_frame : FnE P w K mg base CX0 k_p_sure_frame "sure_frame" p_p_sure_frame S_p_sure_frame) (h_p_sure_frame : k_p_sure_frame ≤ k) :
    PSs (cxOf CX P w K mg base n_p_put_apart "put_apart" (defScope s_p_put_apart) f cdv A outer s H E).nox (defBody s_p_put_apart) (t_p_put_apart P w K S_p_sure_frame) :=
    (pss_cons (ps_set (i := 2) sc_p_put_apart.nd rfl (Or.inr rfl) (pe_f F_p_sure_frame hr (pa_cons (pv 0) pa_nil) (Nat.le_trans h_p_sure_frame hk)))
    (pss_cons (ps_set (i := 3) sc_p_put_apart.nd rfl (Or.inl rfl) (pe_f F_p_sure_frame hr (pa_cons (pv 1) pa_nil) (Nat.le_trans h_p_sure_frame hk)))
    (pss_one (ps_ret (pe_tup (pa_cons (pe_op op_plus (pe_ix ix_seq (pv 2) pe_int (fun _ _ => rfl)) (pe_ix ix_seq (pv 3) pe_int (fun _ _ => rfl))) (pa_cons (pe_op op_plus (pe_ix ix_seq (pv 2) pe_int (fun _ _ => rfl)) (pe_callTy call_tuple_of rfl B.tuple bo_tuple (pa_cons (pe_lc (own := [("beam", 4)]) (g := (gName 4)) (tt := tYes) (te := (tTup (tCons (tOp (rPlus K) (tOp (rIx K) (tVar 2) (tC (.int 0))) (tOp (rIx K) (tVar 4) (tC (.int 0)))) (tCons (tOp (rPlus K) (tOp (rIx K) (tVar 2) (tC (.int 0))) (tOp (rIx K) (tVar 4) (tC (.int 1)))) tNil)))) rfl sc_p_put_apart.nd (pi_seq (pe_ix ix_seq (pv 3) pe_int (fun _ _ => rfl))) (blkOk_by (N := n_p_put_apart) (sc := defScope s_p_put_apart) (by decide +kernel)) (fun _ _ _ _ _ => (pg_name (i := 4) sc_p_put_apart.nd rfl (Or.inl rfl))) (fun _ _ _ _ _ => pts_nil) (fun _ _ _ _ _ => (pe_tup (pa_cons (pe_op op_plus (pe_ix ix_seq (pv 2) pe_int (fun _ _ => rfl)) (pe_ix ix_seq (pv 4) pe_int (fun _ _ => rfl))) (pa_cons (pe_op op_plus (pe_ix ix_seq (pv 2) pe_int (fun _ _ => rfl)) (pe_ix ix_seq (pv 4) pe_int (fun _ _ => rfl))) pa_nil))))) pa_nil))) pa_nil)))))))
end K3

set_option Elab.async false
set_option linter.all false
set_option maxRecDepth 100000
set_option maxHeartbeats 4000000
/-! The readings of the defs and the terms of rules. Printed by gen_walk.py. -/
namespace K3
open PySem PySem.Spec PyProof.Rows L2

def t_box (P : Program) (w : World) (K : PySem.W.Frag)  : TS :=
    (tSeq (tAsg (tIf (tTest (tOp (rLtX K) (tVar 1) (tCB (rLen K) (tCons (tVar 0) tNil)))) (tOp (rIx K) (tVar 0) (tVar 1)) (tC (.int 0))) (gName 2))
    (tRet (tLst (tCons (tOp rTimes (tCB rAbs (tCons (tVar 2) tNil)) (tCB rInt1 (tCons (tOp (rGeX K) (tCB rAbs (tCons (tVar 2) tNil)) (tOp (rI CPow fun i j => .int (i ^ j.toNat)) (tC (.int 10)) (tC (.int 18)))) tNil))) (tCons (tOp (rPlus K) (tOp (rPlus K) (tOp (rI (fun _ j => j ≠ 0) fun i j => .int (i.fmod j)) (tCB rInt1 (tCons (tVar 2) tNil)) (tC (.int 2305843009213693951))) (tOp rTimes (tC (.int 39373)) (tVar 1))) (tC (.int 11151))) (tCons (tC (.int 0)) tNil))))))
theorem x_box {P : Program} {w : World} {K : PySem.W.Frag} {mg : Str → Option Value} {base : Heap} {CX : CXT} {f : Addr} {cdv : Value} {A : Around} {outer : List Env} {s : Shared} {H : Hp} {E : XK} {k r : Nat} (B : Bt mg) (hr : Room r (A.deeper (envOfC "_law_box" (defScope s_box) s.heap.objs.size f cdv))) (hk : k ≤ r)
     :
    PSs (cxOf CX P w K mg base n_box "_law_box" (defScope s_box) f cdv A outer s H E).nox (defBody s_box) (t_box P w K ) :=
    (pss_cons (ps_set (i := 2) sc_box.nd rfl (Or.inl rfl) (pe_ifExp (pt_cmpR (op_ltX hr.u0) (pv 1) (pe_callB call_len_seq rfl B.len bo_len (pa_cons (pv 0) pa_nil)) (nomark _)) (pe_ix ix_seq (pv 0) (pv 1) (fun _ _ => rfl)) pe_int))
    (pss_one (ps_ret (pe_lst (pa_cons (pe_op op_times (pe_callB call_abs rfl B.abs bo_abs (pa_cons (pv 2) pa_nil)) (pe_callTy call_int1 rfl B.int bo_int (pa_cons (pe_cmpR (op_geX hr.u0) (pe_callB call_abs rfl B.abs bo_abs (pa_cons (pv 2) pa_nil)) (pe_op op_pow pe_int pe_int) (nomark _)) pa_nil))) (pa_cons (pe_op op_plus (pe_op op_plus (pe_op op_modN (pe_callTy call_int1 rfl B.int bo_int (pa_cons (pv 2) pa_nil)) pe_int) (pe_op op_times pe_int (pv 1))) pe_int) (pa_cons pe_int pa_nil)))))))
def t_take (P : Program) (w : World) (K : PySem.W.Frag)  : TS :=
    (tSeq (tIfS (tTest (tOp (rI0 fun i j => .bl (decide (j < i))) (tOp (rIx K) (tVar 0) (tC (.int 0))) (tC (.int 0)))) (tSeq (tAsg (tOp (rI (fun _ j => j ≠ 0) fun i j => .int (i.fmod j)) (tCB rInt1 (tCons (tOp (rIx K) (tVar 0) (tC (.int 0))) tNil)) (tVar 1)) (gName 2))
    (tSeq (tAsg (tOp (rI CDivN fun i j => .int (i.fdiv j)) (tOp (rIx K) (tVar 0) (tC (.int 0))) (tVar 1)) (gSub (tVar 0) (tC (.int 0)) rSetL))
    (tRet (tVar 2)))) tNext)
    (tSeq (tAsg (tOp (rPlus K) (tOp (rIx K) (tVar 0) (tC (.int 2))) (tC (.int 1))) (gSub (tVar 0) (tC (.int 2)) rSetL))
    (tSeq (tAsg (tOp (rI (fun _ j => j ≠ 0) fun i j => .int (i.fmod j)) (tCB rInt1 (tCons (tOp rTimes (tOp (rPlus K) (tOp (rIx K) (tVar 0) (tC (.int 1))) (tOp rTimes (tC (.int 48271)) (tOp (rIx K) (tVar 0) (tC (.int 2))))) (tOp (rPlus K) (tC (.int 39373)) (tOp (rIx K) (tVar 0) (tC (.int 2))))) tNil)) (tC (.int 2147483647))) (gName 3))
    (tSeq (tAsg (tOp (rPlus K) (tOp (rI (fun _ j => j ≠ 0) fun i j => .int (i.fmod j)) (tCB rInt1 (tCons (tVar 3) tNil)) (tC (.int 40009))) (tC (.int 7))) (gName 4))
    (tSeq (tAsg (tOp (rI (fun _ j => j ≠ 0) fun i j => .int (i.fmod j)) (tCB rInt1 (tCons (tOp rTimes (tOp (rPlus K) (tOp (rPlus K) (tVar 3) (tOp (rIx K) (tVar 0) (tC (.int 2)))) (tOp (rI CDivN fun i j => .int (i.fdiv j)) (tOp (rIx K) (tVar 0) (tC (.int 1))) (tC (.int 1000003)))) (tVar 4)) tNil)) (tC (.int 2147483629))) (gName 5))
    (tRet (tOp (rI (fun _ j => j ≠ 0) fun i j => .int (i.fmod j)) (tCB rInt1 (tCons (tOp (rI CDivN fun i j => .int (i.fdiv j)) (tOp (rI (fun _ j => j ≠ 0) fun i j => .int (i.fmod j)) (tCB rInt1 (tCons (tOp (rPlus K) (tOp rTimes (tVar 5) (tC (.int 48271))) (tVar 3)) tNil)) (tC (.int 2147483587))) (tC (.int 64))) tNil)) (tVar 1))))))))
theorem x_take {P : Program} {w : World} {K : PySem.W.Frag} {mg : Str → Option Value} {base : Heap} {CX : CXT} {f : Addr} {cdv : Value} {A : Around} {outer : List Env} {s : Shared} {H : Hp} {E : XK} {k r : Nat} (B : Bt mg) (hr : Room r (A.deeper (envOfC "_law_take" (defScope s_take) s.heap.objs.size f cdv))) (hk : k ≤ r)
     :
    PSs (cxOf CX P w K mg base n_take "_law_take" (defScope s_take) f cdv A outer s H E).nox (defBody s_take) (t_take P w K ) :=
    (pss_cons (ps_if (pt_cmpR op_gt (pe_ix ix_seq (pv 0) pe_int (fun _ _ => rfl)) pe_int (nomark _)) (pss_cons (ps_set (i := 2) sc_take.nd rfl (Or.inl rfl) (pe_op op_modN (pe_callTy call_int1 rfl B.int bo_int (pa_cons (pe_ix ix_seq (pv 0) pe_int (fun _ _ => rfl)) pa_nil)) (pv 1)))
    (pss_cons (ps_asg (pe_op op_fdivN (pe_ix ix_seq (pv 0) pe_int (fun _ _ => rfl)) (pv 1)) (pg_sub (pv 0) pe_int set_list))
    (pss_one (ps_ret (pv 2))))) pss_nil)
    (pss_cons (ps_asg (pe_op op_plus (pe_ix ix_seq (pv 0) pe_int (fun _ _ => rfl)) pe_int) (pg_sub (pv 0) pe_int set_list))
    (pss_cons (ps_set (i := 3) sc_take.nd rfl (Or.inl rfl) (pe_op op_modN (pe_callTy call_int1 rfl B.int bo_int (pa_cons (pe_op op_times (pe_op op_plus (pe_ix ix_seq (pv 0) pe_int (fun _ _ => rfl)) (pe_op op_times pe_int (pe_ix ix_seq (pv 0) pe_int (fun _ _ => rfl)))) (pe_op op_plus pe_int (pe_ix ix_seq (pv 0) pe_int (fun _ _ => rfl)))) pa_nil)) pe_int))
    (pss_cons (ps_set (i := 4) sc_take.nd rfl (Or.inl rfl) (pe_op op_plus (pe_op op_modN (pe_callTy call_int1 rfl B.int bo_int (pa_cons (pv 3) pa_nil)) pe_int) pe_int))
    (pss_cons (ps_set (i := 5) sc_take.nd rfl (Or.inl rfl) (pe_op op_modN (pe_callTy call_int1 rfl B.int bo_int (pa_cons (pe_op op_times (pe_op op_plus (pe_op op_plus (pv 3) (pe_ix ix_seq (pv 0) pe_int (fun _ _ => rfl))) (pe_op op_fdivN (pe_ix ix_seq (pv 0) pe_int (fun _ _ => rfl)) pe_int)) (pv 4)) pa_nil)) pe_int))
    (pss_one (ps_ret (pe_op op_modN (pe_callTy call_int1 rfl B.int bo_int (pa_cons (pe_op op_fdivN (pe_op op_modN (pe_callTy call_int1 rfl B.int bo_int (pa_cons (pe_op op_plus (pe_op op_times (pv 5) pe_int) (pv 3)) pa_nil)) pe_int) pe_int) pa_nil)) (pv 1)))))))))
def t_cells (P : Program) (w : World) (K : PySem.W.Frag)  : TS :=
    (tSeq (tAsg (tOrT K (tCB (rListOf K) (tCons (tSl (rSl K) (tVar 0) tNoPart (tPart (tVar 1))) tNil)) (tLst (tCons (tC (.int 0)) tNil))) (gName 2))
    (tSeq (tFor (iEnum K (tCons (tSl (rSl K) (tVar 0) (tPart (tVar 1)) (tPart (tC (.int 63)))) tNil)) (gTup K 2 (gCons (gName 3) (gCons (gName 4) gNil))) (tSeq (tAsg (tOp (rI (fun _ j => j ≠ 0) fun i j => .int (i.fmod j)) (tCB rInt1 (tCons (tVar 3) tNil)) (tVar 1)) (gName 5))
    (tAsg (tOp (rPlus K) (tOp (rIx K) (tVar 2) (tVar 5)) (tOp rTimes (tVar 4) (tOp (rPlus K) (tVar 3) (tC (.int 2))))) (gSub (tVar 2) (tVar 5) rSetL))))
    (tRet (tVar 2))))
theorem x_cells {P : Program} {w : World} {K : PySem.W.Frag} {mg : Str → Option Value} {base : Heap} {CX : CXT} {f : Addr} {cdv : Value} {A : Around} {outer : List Env} {s : Shared} {H : Hp} {E : XK} {k r : Nat} (B : Bt mg) (hr : Room r (A.deeper (envOfC "_law_cells" (defScope s_cells) s.heap.objs.size f cdv))) (hk : k ≤ r)
     :
    PSs (cxOf CX P w K mg base n_cells "_law_cells" (defScope s_cells) f cdv A outer s H E).nox (defBody s_cells) (t_cells P w K ) :=
    (pss_cons (ps_set (i := 2) sc_cells.nd rfl (Or.inl rfl) (pe_orT (pe_callTy call_list_of rfl B.list bo_list (pa_cons (pe_slice sl_seq (pv 0) po_none (po_some (pv 1))) pa_nil)) (pe_one (pe_lst (pa_cons pe_int pa_nil)))))
    (pss_cons (ps_for PassesOwn.never rfl (pi_enum rfl B.enum (pa_cons (pe_slice sl_seq (pv 0) (po_some (pv 1)) (po_some pe_int)) pa_nil)) (pg_tup rfl (pgs_cons (pg_name (i := 3) sc_cells.nd rfl (Or.inl rfl)) (pgs_cons (pg_name (i := 4) sc_cells.nd rfl (Or.inl rfl)) pgs_nil))) (pss_cons (ps_set (i := 5) sc_cells.nd rfl (Or.inl rfl) (pe_op op_modN (pe_callTy call_int1 rfl B.int bo_int (pa_cons (pv 3) pa_nil)) (pv 1)))
    (pss_one (ps_asg (pe_op op_plus (pe_ix ix_seq (pv 2) (pv 5) (fun _ _ => rfl)) (pe_op op_times (pv 4) (pe_op op_plus (pv 3) pe_int))) (pg_sub (pv 2) (pv 5) set_list)))))
    (pss_one (ps_ret (pv 2)))))
def t_of (P : Program) (w : World) (K : PySem.W.Frag) (S_take : Sp) : TS :=
    (tRet (tOp (rIx K) (tVar 1) (tCall S_take [] E0 (tCons (tVar 0) (tCons (tCB (rLen K) (tCons (tVar 1) tNil)) tNil)))))
theorem x_of {P : Program} {w : World} {K : PySem.W.Frag} {mg : Str → Option Value} {base : Heap} {CX : CXT} {f : Addr} {cdv : Value} {A : Around} {outer : List Env} {s : Shared} {H : Hp} {E : XK} {k r : Nat} (B : Bt mg) (hr : Room r (A.deeper (envOfC "_law_of" (defScope s_of) s.heap.objs.size f cdv))) (hk : k ≤ r)
    {k_take : Nat} {p_take : List Str} {S_take : Sp} (F_take : FnE P w K mg base CX0 k_take "_law_take" p_take S_take) (h_take : k_take ≤ k) :
    PSs (cxOf CX P w K mg base n_of "_law_of" (defScope s_of) f cdv A outer s H E).nox (defBody s_of) (t_of P w K S_take) :=
    (pss_one (ps_ret (pe_ix ix_seq (pv 1) (pe_f F_take hr (pa_cons (pv 0) (pa_cons (pe_callB call_len_seq rfl B.len bo_len (pa_cons (pv 1) pa_nil)) pa_nil)) (Nat.le_trans h_take hk)) (fun _ _ => rfl))))
def t_pick (P : Program) (w : World) (K : PySem.W.Frag) (S_take : Sp) : TS :=
    (tSeq (tPar 3 4 (tCons (tCB (rListOf K) (tCons (tVar 1) tNil)) (tCons (tLst tNil) tNil)))
    (tSeq (tFor (iRng1 (tCons (tCB rMin2 (tCons (tCB rInt1 (tCons (tVar 2) tNil)) (tCons (tCB (rLen K) (tCons (tVar 3) tNil)) tNil))) tNil)) (gName 5) (tDrop (tBM K "list" rAppend (tVar 4) (tCons (tBM K "list" rPopAt (tVar 3) (tCons (tCall S_take [] E0 (tCons (tVar 0) (tCons (tCB (rLen K) (tCons (tVar 3) tNil)) tNil))) tNil)) tNil))))
    (tRet (tVar 4))))
theorem x_pick {P : Program} {w : World} {K : PySem.W.Frag} {mg : Str → Option Value} {base : Heap} {CX : CXT} {f : Addr} {cdv : Value} {A : Around} {outer : List Env} {s : Shared} {H : Hp} {E : XK} {k r : Nat} (B : Bt mg) (hr : Room r (A.deeper (envOfC "_law_pick" (defScope s_pick) s.heap.objs.size f cdv))) (hk : k ≤ r)
    {k_take : Nat} {p_take : List Str} {S_take : Sp} (F_take : FnE P w K mg base CX0 k_take "_law_take" p_take S_take) (h_take : k_take ≤ k) :
    PSs (cxOf CX P w K mg base n_pick "_law_pick" (defScope s_pick) f cdv A outer s H E).nox (defBody s_pick) (t_pick P w K S_take) :=
    (pss_cons (ps_par (i := 3) (j := 4) rfl sc_pick.nd rfl rfl (by decide) rfl rfl (pa_cons (pe_callTy call_list_of rfl B.list bo_list (pa_cons (pv 1) pa_nil)) (pa_cons (pe_lst pa_nil) pa_nil)) rfl)
    (pss_cons (ps_for PassesOwn.never rfl (pi_range1 rfl B.range (pa_cons (pe_callB (call_min2 rfl) rfl B.min bo_min (pa_cons (pe_callTy call_int1 rfl B.int bo_int (pa_cons (pv 2) pa_nil)) (pa_cons (pe_callB call_len_seq rfl B.len bo_len (pa_cons (pv 3) pa_nil)) pa_nil))) pa_nil)) (pg_name (i := 5) sc_pick.nd rfl (Or.inl rfl)) (pss_one (ps_expr (pe_bm PySem.F.plainAttrs_list PySem.F.slot_list_append PySem.F.type_list_append mt_append (pv 4) (pa_cons (pe_bm PySem.F.plainAttrs_list PySem.F.slot_list_pop PySem.F.type_list_pop mt_popAt (pv 3) (pa_cons (pe_f F_take hr (pa_cons (pv 0) (pa_cons (pe_callB call_len_seq rfl B.len bo_len (pa_cons (pv 3) pa_nil)) pa_nil)) (Nat.le_trans h_take hk)) pa_nil)) pa_nil)))))
    (pss_one (ps_ret (pv 4)))))
def t_lists (P : Program) (w : World) (K : PySem.W.Frag) (S_lists : Sp) : TS :=
    (tRet (tIf (tB (tCB (rIsiT K) (tCons (tVar 0) (tCons (tTup (tCons (tC (.ty "list")) (tCons (tC (.ty "tuple")) tNil))) tNil)))) (tLc (iSeq K (tVar 0)) (gName 1) tYes (tCall S_lists [] E0 (tCons (tVar 1) tNil)) [1]) (tVar 0)))
theorem x_lists {P : Program} {w : World} {K : PySem.W.Frag} {mg : Str → Option Value} {base : Heap} {CX : CXT} {f : Addr} {cdv : Value} {A : Around} {outer : List Env} {s : Shared} {H : Hp} {E : XK} {k r : Nat} (B : Bt mg) (hr : Room r (A.deeper (envOfC "_law_lists" (defScope s_lists) s.heap.objs.size f cdv))) (hk : k ≤ r)
    {k_lists : Nat} {p_lists : List Str} {S_lists : Sp} (F_lists : FnE P w K mg base CX0 k_lists "_law_lists" p_lists S_lists) (h_lists : k_lists ≤ k) :
    PSs (cxOf CX P w K mg base n_lists "_law_lists" (defScope s_lists) f cdv A outer s H E).nox (defBody s_lists) (t_lists P w K S_lists) :=
    (pss_one (ps_ret (pe_ifExp (pt_val (pe_callB call_isiT rfl B.isi bo_isi (pa_cons (pv 0) (pa_cons (pe_tup (pa_cons (pe_ty rfl B.list bo_list) (pa_cons (pe_ty rfl B.tuple bo_tuple) pa_nil))) pa_nil)))) (pe_lc (own := [("_law_bit", 1)]) (g := (gName 1)) (tt := tYes) (te := (tCall S_lists [] E0 (tCons (tVar 1) tNil))) rfl sc_lists.nd (pi_seq (pv 0)) (blkOk_by (N := n_lists) (sc := defScope s_lists) (by decide +kernel)) (fun _ _ _ _ _ => (pg_name (i := 1) sc_lists.nd rfl (Or.inl rfl))) (fun _ _ _ _ _ => pts_nil) (fun _ _ _ _ _ => (pe_f F_lists hr (pa_cons (pv 1) pa_nil) (Nat.le_trans h_lists hk)))) (pv 0))))
def t_same (P : Program) (w : World) (K : PySem.W.Frag) (S_same : Sp) : TS :=
    (tSeq (tIfS (tB (tCB (rIsiT K) (tCons (tVar 1) (tCons (tTup (tCons (tC (.ty "list")) (tCons (tC (.ty "tuple")) tNil))) tNil)))) (tSeq (tIfS (tOr (tTest (tOp (rNeX K) (tCB (rIsi K) (tCons (tVar 0) (tCons (tC (.ty "list")) tNil))) (tCB (rIsi K) (tCons (tVar 1) (tCons (tC (.ty "list")) tNil))))) (tTest (tOp (rNeX K) (tCB (rIsi K) (tCons (tVar 0) (tCons (tC (.ty "tuple")) tNil))) (tCB (rIsi K) (tCons (tVar 1) (tCons (tC (.ty "tuple")) tNil)))))) (tRet (tC (.bl false))) tNext)
    (tRet (tAndV (tOp (rEqX K) (tCB (rLen K) (tCons (tVar 0) tNil)) (tCB (rLen K) (tCons (tVar 1) tNil))) (tCB (rAll K) (tCons (tLc (RZ.iZipA K (tCons (tVar 0) (tCons (tVar 1) tNil))) (gTup K 2 (gCons (gName 2) (gCons (gName 3) gNil))) tYes (tCall S_same [] E0 (tCons (tVar 2) (tCons (tVar 3) tNil))) [2, 3]) tNil))))) tNext)
    (tSeq (tIfS (tOr (tB (tIsN (tVar 1))) (tB (tCB (rIsiT K) (tCons (tVar 1) (tCons (tTup (tCons (tC (.ty "bool")) (tCons (tC (.ty "str")) tNil))) tNil))))) (tRet (tAndV (tOp (rEqX K) (tVar 0) (tVar 1)) (tAndV (tOp (rEqX K) (tCB (rIsi K) (tCons (tVar 0) (tCons (tC (.ty "bool")) tNil))) (tCB (rIsi K) (tCons (tVar 1) (tCons (tC (.ty "bool")) tNil)))) (tOp (rEqX K) (tIsN (tVar 0)) (tIsN (tVar 1)))))) tNext)
    (tRet (tAndV (tCB (rIsi K) (tCons (tVar 0) (tCons (tC (.ty "int")) tNil))) (tAndV (tNotV (tCB (rIsi K) (tCons (tVar 0) (tCons (tC (.ty "bool")) tNil)))) (tOp (rEqX K) (tVar 0) (tVar 1)))))))
theorem x_same {P : Program} {w : World} {K : PySem.W.Frag} {mg : Str → Option Value} {base : Heap} {CX : CXT} {f : Addr} {cdv : Value} {A : Around} {outer : List Env} {s : Shared} {H : Hp} {E : XK} {k r : Nat} (B : Bt mg) (hr : Room r (A.deeper (envOfC "_law_same" (defScope s_same) s.heap.objs.size f cdv))) (hk : k ≤ r)
    {k_same : Nat} {p_same : List Str} {S_same : Sp} (F_same : FnE P w K mg base CX0 k_same "_law_same" p_same S_same) (h_same : k_same ≤ k) :
    PSs (cxOf CX P w K mg base n_same "_law_same" (defScope s_same) f cdv A outer s H E).nox (defBody s_same) (t_same P w K S_same) :=
    (pss_cons (ps_if (pt_val (pe_callB call_isiT rfl B.isi bo_isi (pa_cons (pv 1) (pa_cons (pe_tup (pa_cons (pe_ty rfl B.list bo_list) (pa_cons (pe_ty rfl B.tuple bo_tuple) pa_nil))) pa_nil)))) (pss_cons (ps_if (PW.pt (pw_or (pt_cmpR (op_neX hr.u64) (pe_callB call_isi rfl B.isi bo_isi (pa_cons (pv 0) (pa_cons (pe_ty rfl B.list bo_list) pa_nil))) (pe_callB call_isi rfl B.isi bo_isi (pa_cons (pv 1) (pa_cons (pe_ty rfl B.list bo_list) pa_nil))) (nomark _)) (pw_or1 (pt_cmpR (op_neX hr.u64) (pe_callB call_isi rfl B.isi bo_isi (pa_cons (pv 0) (pa_cons (pe_ty rfl B.tuple bo_tuple) pa_nil))) (pe_callB call_isi rfl B.isi bo_isi (pa_cons (pv 1) (pa_cons (pe_ty rfl B.tuple bo_tuple) pa_nil))) (nomark _))))) (pss_one (ps_ret pe_bl)) pss_nil)
    (pss_one (ps_ret (pe_and (pe_cmpR (op_eqX hr.u64) (pe_callB call_len_seq rfl B.len bo_len (pa_cons (pv 0) pa_nil)) (pe_callB call_len_seq rfl B.len bo_len (pa_cons (pv 1) pa_nil)) (nomark _)) (pe_one (pe_callB (cr_all rfl) rfl B.all bo_all (pa_cons (pe_lc (own := [("_law_mine", 2), ("_law_its", 3)]) (g := (gTup K 2 (gCons (gName 2) (gCons (gName 3) gNil)))) (tt := tYes) (te := (tCall S_same [] E0 (tCons (tVar 2) (tCons (tVar 3) tNil)))) rfl sc_same.nd (RZ.pi_zipA rfl B.zip (pa_cons (pv 0) (pa_cons (pv 1) pa_nil))) (blkOk_by (N := n_same) (sc := defScope s_same) (by decide +kernel)) (fun _ _ _ _ _ => (pg_tup rfl (pgs_cons (pg_name (i := 2) sc_same.nd rfl (Or.inl rfl)) (pgs_cons (pg_name (i := 3) sc_same.nd rfl (Or.inl rfl)) pgs_nil)))) (fun _ _ _ _ _ => pts_nil) (fun _ _ _ _ _ => (pe_f F_same hr (pa_cons (pv 2) (pa_cons (pv 3) pa_nil)) (Nat.le_trans h_same hk)))) pa_nil))))))) pss_nil)
    (pss_cons (ps_if (PW.pt (pw_or (pt_cmp (pc_isN (pv 1))) (pw_or1 (pt_val (pe_callB call_isiT rfl B.isi bo_isi (pa_cons (pv 1) (pa_cons (pe_tup (pa_cons (pe_ty rfl B.bool bo_bool) (pa_cons (pe_ty rfl B.str bo_str) pa_nil))) pa_nil))))))) (pss_one (ps_ret (pe_and (pe_cmpR (op_eqX hr.u64) (pv 0) (pv 1) (nomark _)) (pe_and (pe_cmpR (op_eqX hr.u64) (pe_callB call_isi rfl B.isi bo_isi (pa_cons (pv 0) (pa_cons (pe_ty rfl B.bool bo_bool) pa_nil))) (pe_callB call_isi rfl B.isi bo_isi (pa_cons (pv 1) (pa_cons (pe_ty rfl B.bool bo_bool) pa_nil))) (nomark _)) (pe_one (pe_cmpR (op_eqX hr.u64) (pe_cmp (pc_isN (pv 0))) (pe_cmp (pc_isN (pv 1))) (nomark _))))))) pss_nil)
    (pss_one (ps_ret (pe_and (pe_callB call_isi rfl B.isi bo_isi (pa_cons (pv 0) (pa_cons (pe_ty rfl B.int bo_int) pa_nil))) (pe_and (pe_not (pe_callB call_isi rfl B.isi bo_isi (pa_cons (pv 0) (pa_cons (pe_ty rfl B.bool bo_bool) pa_nil)))) (pe_one (pe_cmpR (op_eqX hr.u64) (pv 0) (pv 1) (nomark _)))))))))
def t_is_number (P : Program) (w : World) (K : PySem.W.Frag)  : TS :=
    (tRet (tAndV (tCB (rIsi K) (tCons (tVar 0) (tCons (tC (.ty "int")) tNil))) (tNotV (tCB (rIsi K) (tCons (tVar 0) (tCons (tC (.ty "bool")) tNil))))))
theorem x_is_number {P : Program} {w : World} {K : PySem.W.Frag} {mg : Str → Option Value} {base : Heap} {CX : CXT} {f : Addr} {cdv : Value} {A : Around} {outer : List Env} {s : Shared} {H : Hp} {E : XK} {k r : Nat} (B : Bt mg) (hr : Room r (A.deeper (envOfC "_law_is_number" (defScope s_is_number) s.heap.objs.size f cdv))) (hk : k ≤ r)
     :
    PSs (cxOf CX P w K mg base n_is_number "_law_is_number" (defScope s_is_number) f cdv A outer s H E).nox (defBody s_is_number) (t_is_number P w K ) :=
    (pss_one (ps_ret (pe_and (pe_callB call_isi rfl B.isi bo_isi (pa_cons (pv 0) (pa_cons (pe_ty rfl B.int bo_int) pa_nil))) (pe_one (pe_not (pe_callB call_isi rfl B.isi bo_isi (pa_cons (pv 0) (pa_cons (pe_ty rfl B.bool bo_bool) pa_nil))))))))
def t_put (P : Program) (w : World) (K : PySem.W.Frag)  : TS :=
    (tRet (tOp (rPlus K) (tOp (rPlus K) (tSl (rSl K) (tVar 0) tNoPart (tPart (tVar 1))) (tTup (tCons (tVar 2) tNil))) (tSl (rSl K) (tVar 0) (tPart (tOp (rPlus K) (tVar 1) (tC (.int 1)))) tNoPart)))
theorem x_put {P : Program} {w : World} {K : PySem.W.Frag} {mg : Str → Option Value} {base : Heap} {CX : CXT} {f : Addr} {cdv : Value} {A : Around} {outer : List Env} {s : Shared} {H : Hp} {E : XK} {k r : Nat} (B : Bt mg) (hr : Room r (A.deeper (envOfC "_law_put" (defScope s_put) s.heap.objs.size f cdv))) (hk : k ≤ r)
     :
    PSs (cxOf CX P w K mg base n_put "_law_put" (defScope s_put) f cdv A outer s H E).nox (defBody s_put) (t_put P w K ) :=
    (pss_one (ps_ret (pe_op op_plus (pe_op op_plus (pe_slice sl_seq (pv 0) po_none (po_some (pv 1))) (pe_tup (pa_cons (pv 2) pa_nil))) (pe_slice sl_seq (pv 0) (po_some (pe_op op_plus (pv 1) pe_int)) po_none))))
def t_is_pair (P : Program) (w : World) (K : PySem.W.Frag) (S_is_number : Sp) : TS :=
    (tRet (tAndV (tCB (rIsi K) (tCons (tVar 0) (tCons (tC (.ty "tuple")) tNil))) (tAndV (tOp (rEqX K) (tCB (rLen K) (tCons (tVar 0) tNil)) (tC (.int 2))) (tAndV (tCall S_is_number [] E0 (tCons (tOp (rIx K) (tVar 0) (tC (.int 0))) tNil)) (tCall S_is_number [] E0 (tCons (tOp (rIx K) (tVar 0) (tC (.int 1))) tNil))))))
theorem x_is_pair {P : Program} {w : World} {K : PySem.W.Frag} {mg : Str → Option Value} {base : Heap} {CX : CXT} {f : Addr} {cdv : Value} {A : Around} {outer : List Env} {s : Shared} {H : Hp} {E : XK} {k r : Nat} (B : Bt mg) (hr : Room r (A.deeper (envOfC "_law_is_pair" (defScope s_is_pair) s.heap.objs.size f cdv))) (hk : k ≤ r)
    {k_is_number : Nat} {p_is_number : List Str} {S_is_number : Sp} (F_is_number : FnE P w K mg base CX0 k_is_number "_law_is_number" p_is_number S_is_number) (h_is_number : k_is_number ≤ k) :
    PSs (cxOf CX P w K mg base n_is_pair "_law_is_pair" (defScope s_is_pair) f cdv A outer s H E).nox (defBody s_is_pair) (t_is_pair P w K S_is_number) :=
    (pss_one (ps_ret (pe_and (pe_callB call_isi rfl B.isi bo_isi (pa_cons (pv 0) (pa_cons (pe_ty rfl B.tuple bo_tuple) pa_nil))) (pe_and (pe_cmpR (op_eqX hr.u64) (pe_callB call_len_seq rfl B.len bo_len (pa_cons (pv 0) pa_nil)) pe_int (nomark _)) (pe_and (pe_f F_is_number hr (pa_cons (pe_ix ix_seq (pv 0) pe_int (fun _ _ => rfl)) pa_nil) (Nat.le_trans h_is_number hk)) (pe_one (pe_f F_is_number hr (pa_cons (pe_ix ix_seq (pv 0) pe_int (fun _ _ => rfl)) pa_nil) (Nat.le_trans h_is_number hk))))))))
def t_joined (P : Program) (w : World) (K : PySem.W.Frag)  : TS :=
    (tRet (tTup (tCons (tVar 0) (tCons (tCB (rTupOf K) (tCons (tCB (rSortedT K P w) (tCons (tCB (rSetOfT K P w) (tCons (tLc (iSeq K (tVar 1)) (gName 2) tYes (tTup (tCons (tCB (rMin2T K) (tCons (tVar 2) tNil)) (tCons (tCB (rMax2T K) (tCons (tVar 2) tNil)) tNil))) [2]) tNil)) tNil)) tNil)) tNil))))
theorem x_joined {P : Program} {w : World} {K : PySem.W.Frag} {mg : Str → Option Value} {base : Heap} {CX : CXT} {f : Addr} {cdv : Value} {A : Around} {outer : List Env} {s : Shared} {H : Hp} {E : XK} {k r : Nat} (B : Bt mg) (hr : Room r (A.deeper (envOfC "_law_joined" (defScope s_joined) s.heap.objs.size f cdv))) (hk : k ≤ r)
     :
    PSs (cxOf CX P w K mg base n_joined "_law_joined" (defScope s_joined) f cdv A outer s H E).nox (defBody s_joined) (t_joined P w K ) :=
    (pss_one (ps_ret (pe_tup (pa_cons (pv 0) (pa_cons (pe_callTy call_tuple_of rfl B.tuple bo_tuple (pa_cons (pe_callB (cr_sortedT rfl) rfl B.sorted bo_sorted (pa_cons (pe_callTy (cr_setOfT rfl hr.u64) rfl B.set bo_set (pa_cons (pe_lc (own := [("_law_own", 2)]) (g := (gName 2)) (tt := tYes) (te := (tTup (tCons (tCB (rMin2T K) (tCons (tVar 2) tNil)) (tCons (tCB (rMax2T K) (tCons (tVar 2) tNil)) tNil)))) rfl sc_joined.nd (pi_seq (pv 1)) (blkOk_by (N := n_joined) (sc := defScope s_joined) (by decide +kernel)) (fun _ _ _ _ _ => (pg_name (i := 2) sc_joined.nd rfl (Or.inl rfl))) (fun _ _ _ _ _ => pts_nil) (fun _ _ _ _ _ => (pe_tup (pa_cons (pe_callB (cr_min2T rfl hr.u64) rfl B.min bo_min (pa_cons (pv 2) pa_nil)) (pa_cons (pe_callB (cr_max2T rfl hr.u64) rfl B.max bo_max (pa_cons (pv 2) pa_nil)) pa_nil))))) pa_nil)) pa_nil)) pa_nil)) pa_nil)))))
def t_frame (P : Program) (w : World) (K : PySem.W.Frag) (S_take : Sp) (S_joined : Sp) : TS :=
    (tSeq (tPar 2 3 (tCons (tOp (rPlus K) (tC (.int 2)) (tCall S_take [] E0 (tCons (tVar 0) (tCons (tOp (rI0 fun i j => .int (i - j)) (tVar 1) (tC (.int 1))) tNil)))) (tCons (tCall S_take [] E0 (tCons (tVar 0) (tCons (tC (.int 6)) tNil))) tNil)))
    (tSeq (tAsg (tLc (iRng1 (tCons (tOp (rI0 fun i j => .int (i - j)) (tVar 2) (tC (.int 1))) tNil)) (gName 10) tYes (tTup (tCons (tVar 10) (tCons (tOp (rPlus K) (tVar 10) (tC (.int 1))) tNil))) [10]) (gName 4))
    (tSeq (tIfS (tTest (tOp (rEqX K) (tVar 3) (tC (.int 0)))) (tRet (tCall S_joined [] E0 (tCons (tVar 2) (tCons (tVar 4) tNil)))) tNext)
    (tSeq (tIfS (tTest (tOp (rEqX K) (tVar 3) (tC (.int 1)))) (tRet (tCall S_joined [] E0 (tCons (tVar 2) (tCons (tOp (rPlus K) (tVar 4) (tIf (tTest (tOp (rI0 fun i j => .bl (decide (j < i))) (tVar 2) (tC (.int 2)))) (tLst (tCons (tTup (tCons (tC (.int 0)) (tCons (tOp (rI0 fun i j => .int (i - j)) (tVar 2) (tC (.int 1))) tNil))) tNil)) (tLst tNil))) tNil)))) tNext)
    (tSeq (tIfS (tTest (tOp (rEqX K) (tVar 3) (tC (.int 2)))) (tSeq (tAsg (tCall S_take [] E0 (tCons (tVar 0) (tCons (tVar 2) tNil))) (gName 5))
    (tRet (tCall S_joined [] E0 (tCons (tVar 2) (tCons (tLc (iRng1 (tCons (tVar 2) tNil)) (gName 10) (tTest (tOp (rNeX K) (tVar 10) (tVar 5))) (tTup (tCons (tVar 5) (tCons (tVar 10) tNil))) [10]) tNil))))) tNext)
    (tSeq (tIfS (tAnd (tTest (tOp (rEqX K) (tVar 3) (tC (.int 3)))) (tTest (tOp (rI0 fun i j => .bl (decide (j < i))) (tVar 2) (tC (.int 3))))) (tRet (tCall S_joined [] E0 (tCons (tVar 2) (tCons (tLc (iSeq K (tVar 4)) (gName 11) (tTest (tOp (rNeX K) (tVar 11) (tTup (tCons (tC (.int 1)) (tCons (tC (.int 2)) tNil))))) (tVar 11) [11]) tNil)))) tNext)
    (tSeq (tIfS (tAnd (tTest (tOp (rEqX K) (tVar 3) (tC (.int 4)))) (tTest (tOp (rI0 fun i j => .bl (decide (j < i))) (tVar 2) (tC (.int 2))))) (tRet (tCall S_joined [] E0 (tCons (tVar 2) (tCons (tOp (rPlus K) (tVar 4) (tLst (tCons (tTup (tCons (tC (.int 0)) (tCons (tC (.int 2)) tNil))) tNil))) tNil)))) tNext)
    (tSeq (tAsg (tLc (iRng1 (tCons (tOp (rI0 fun i j => .int (i - j)) (tVar 2) (tC (.int 1))) tNil)) (gName 10) tYes (tTup (tCons (tCall S_take [] E0 (tCons (tVar 0) (tCons (tOp (rPlus K) (tVar 10) (tC (.int 1))) tNil))) (tCons (tOp (rPlus K) (tVar 10) (tC (.int 1))) tNil))) [10]) (gName 6))
    (tSeq (tFor (iRng1 (tCons (tCall S_take [] E0 (tCons (tVar 0) (tCons (tC (.int 3)) tNil))) tNil)) (gName 7) (tSeq (tPar 8 9 (tCons (tCall S_take [] E0 (tCons (tVar 0) (tCons (tVar 2) tNil))) (tCons (tCall S_take [] E0 (tCons (tVar 0) (tCons (tVar 2) tNil))) tNil)))
    (tIfS (tTest (tOp (rNeX K) (tVar 8) (tVar 9))) (tDrop (tBM K "list" rAppend (tVar 6) (tCons (tTup (tCons (tVar 8) (tCons (tVar 9) tNil))) tNil))) tNext)))
    (tRet (tCall S_joined [] E0 (tCons (tVar 2) (tCons (tVar 6) tNil)))))))))))))
theorem x_frame {P : Program} {w : World} {K : PySem.W.Frag} {mg : Str → Option Value} {base : Heap} {CX : CXT} {f : Addr} {cdv : Value} {A : Around} {outer : List Env} {s : Shared} {H : Hp} {E : XK} {k r : Nat} (B : Bt mg) (hr : Room r (A.deeper (envOfC "_law_frame" (defScope s_frame) s.heap.objs.size f cdv))) (hk : k ≤ r)
    {k_take : Nat} {p_take : List Str} {S_take : Sp} (F_take : FnE P w K mg base CX0 k_take "_law_take" p_take S_take) (h_take : k_take ≤ k) {k_joined : Nat} {p_joined : List Str} {S_joined : Sp} (F_joined : FnE P w K mg base CX0 k_joined "_law_joined" p_joined S_joined) (h_joined : k_joined ≤ k) :
    PSs (cxOf CX P w K mg base n_frame "_law_frame" (defScope s_frame) f cdv A outer s H E).nox (defBody s_frame) (t_frame P w K S_take S_joined) :=
    (pss_cons (ps_par (i := 2) (j := 3) rfl sc_frame.nd rfl rfl (by decide) rfl rfl (pa_cons (pe_op op_plus pe_int (pe_f F_take hr (pa_cons (pv 0) (pa_cons (pe_op op_sub (pv 1) pe_int) pa_nil)) (Nat.le_trans h_take hk))) (pa_cons (pe_f F_take hr (pa_cons (pv 0) (pa_cons pe_int pa_nil)) (Nat.le_trans h_take hk)) pa_nil)) rfl)
    (pss_cons (ps_setLc (i := 4) (own := [("_law_k", 10)]) (g := (gName 10)) (tt := tYes) (te := (tTup (tCons (tVar 10) (tCons (tOp (rPlus K) (tVar 10) (tC (.int 1))) tNil)))) rfl sc_frame.nd rfl rfl (sw_true rfl rfl rfl (by decide +kernel)) (pi_range1 rfl B.range (pa_cons (pe_op op_sub (pv 2) pe_int) pa_nil)) (blkOk_by (N := n_frame) (sc := defScope s_frame) (by decide +kernel)) (fun _ _ _ _ _ => (pg_name (i := 10) sc_frame.nd rfl (Or.inl rfl))) (fun _ _ _ _ _ => pts_nil) (fun _ _ _ _ _ => (pe_tup (pa_cons (pv 10) (pa_cons (pe_op op_plus (pv 10) pe_int) pa_nil)))))
    (pss_cons (ps_if (pt_cmpR (op_eqX hr.u64) (pv 3) pe_int (nomark _)) (pss_one (ps_ret (pe_f F_joined hr (pa_cons (pv 2) (pa_cons (pv 4) pa_nil)) (Nat.le_trans h_joined hk)))) pss_nil)
    (pss_cons (ps_if (pt_cmpR (op_eqX hr.u64) (pv 3) pe_int (nomark _)) (pss_one (ps_ret (pe_f F_joined hr (pa_cons (pv 2) (pa_cons (pe_op op_plus (pv 4) (pe_ifExp (pt_cmpR op_gt (pv 2) pe_int (nomark _)) (pe_lst (pa_cons (pe_tup (pa_cons pe_int (pa_cons (pe_op op_sub (pv 2) pe_int) pa_nil))) pa_nil)) (pe_lst pa_nil))) pa_nil)) (Nat.le_trans h_joined hk)))) pss_nil)
    (pss_cons (ps_if (pt_cmpR (op_eqX hr.u64) (pv 3) pe_int (nomark _)) (pss_cons (ps_set (i := 5) sc_frame.nd rfl (Or.inr rfl) (pe_f F_take hr (pa_cons (pv 0) (pa_cons (pv 2) pa_nil)) (Nat.le_trans h_take hk)))
    (pss_one (ps_ret (pe_f F_joined hr (pa_cons (pv 2) (pa_cons (pe_lc (own := [("_law_k", 10)]) (g := (gName 10)) (tt := (tTest (tOp (rNeX K) (tVar 10) (tVar 5)))) (te := (tTup (tCons (tVar 5) (tCons (tVar 10) tNil)))) rfl sc_frame.nd (pi_range1 rfl B.range (pa_cons (pv 2) pa_nil)) (blkOk_by (N := n_frame) (sc := defScope s_frame) (by decide +kernel)) (fun _ _ _ _ _ => (pg_name (i := 10) sc_frame.nd rfl (Or.inl rfl))) (fun _ _ _ _ _ => (pts_one (pt_cmpR (op_neX hr.u64) (pv 10) (pv 5) (nomark _)))) (fun _ _ _ _ _ => (pe_tup (pa_cons (pv 5) (pa_cons (pv 10) pa_nil))))) pa_nil)) (Nat.le_trans h_joined hk))))) pss_nil)
    (pss_cons (ps_if (PW.pt (pw_and (pt_cmpR (op_eqX hr.u64) (pv 3) pe_int (nomark _)) (pw_and1 (pt_cmpR op_gt (pv 2) pe_int (nomark _))))) (pss_one (ps_ret (pe_f F_joined hr (pa_cons (pv 2) (pa_cons (pe_lc (own := [("_law_own", 11)]) (g := (gName 11)) (tt := (tTest (tOp (rNeX K) (tVar 11) (tTup (tCons (tC (.int 1)) (tCons (tC (.int 2)) tNil)))))) (te := (tVar 11)) rfl sc_frame.nd (pi_seq (pv 4)) (blkOk_by (N := n_frame) (sc := defScope s_frame) (by decide +kernel)) (fun _ _ _ _ _ => (pg_name (i := 11) sc_frame.nd rfl (Or.inl rfl))) (fun _ _ _ _ _ => (pts_one (pt_cmpR (op_neX hr.u64) (pv 11) (pe_tup (pa_cons pe_int (pa_cons pe_int pa_nil))) (nomark _)))) (fun _ _ _ _ _ => (pv 11))) pa_nil)) (Nat.le_trans h_joined hk)))) pss_nil)
    (pss_cons (ps_if (PW.pt (pw_and (pt_cmpR (op_eqX hr.u64) (pv 3) pe_int (nomark _)) (pw_and1 (pt_cmpR op_gt (pv 2) pe_int (nomark _))))) (pss_one (ps_ret (pe_f F_joined hr (pa_cons (pv 2) (pa_cons (pe_op op_plus (pv 4) (pe_lst (pa_cons (pe_tup (pa_cons pe_int (pa_cons pe_int pa_nil))) pa_nil))) pa_nil)) (Nat.le_trans h_joined hk)))) pss_nil)
    (pss_cons (ps_setLc (i := 6) (own := [("_law_k", 10)]) (g := (gName 10)) (tt := tYes) (te := (tTup (tCons (tCall S_take [] E0 (tCons (tVar 0) (tCons (tOp (rPlus K) (tVar 10) (tC (.int 1))) tNil))) (tCons (tOp (rPlus K) (tVar 10) (tC (.int 1))) tNil)))) rfl sc_frame.nd rfl rfl (sw_true rfl rfl rfl (by decide +kernel)) (pi_range1 rfl B.range (pa_cons (pe_op op_sub (pv 2) pe_int) pa_nil)) (blkOk_by (N := n_frame) (sc := defScope s_frame) (by decide +kernel)) (fun _ _ _ _ _ => (pg_name (i := 10) sc_frame.nd rfl (Or.inl rfl))) (fun _ _ _ _ _ => pts_nil) (fun _ _ _ _ _ => (pe_tup (pa_cons (pe_f F_take hr (pa_cons (pv 0) (pa_cons (pe_op op_plus (pv 10) pe_int) pa_nil)) (Nat.le_trans h_take hk)) (pa_cons (pe_op op_plus (pv 10) pe_int) pa_nil)))))
    (pss_cons (ps_for PassesOwn.never rfl (pi_range1 rfl B.range (pa_cons (pe_f F_take hr (pa_cons (pv 0) (pa_cons pe_int pa_nil)) (Nat.le_trans h_take hk)) pa_nil)) (pg_name (i := 7) sc_frame.nd rfl (Or.inl rfl)) (pss_cons (ps_par (i := 8) (j := 9) rfl sc_frame.nd rfl rfl (by decide) rfl rfl (pa_cons (pe_f F_take hr (pa_cons (pv 0) (pa_cons (pv 2) pa_nil)) (Nat.le_trans h_take hk)) (pa_cons (pe_f F_take hr (pa_cons (pv 0) (pa_cons (pv 2) pa_nil)) (Nat.le_trans h_take hk)) pa_nil)) rfl)
    (pss_one (ps_if (pt_cmpR (op_neX hr.u64) (pv 8) (pv 9) (nomark _)) (pss_one (ps_expr (pe_bm PySem.F.plainAttrs_list PySem.F.slot_list_append PySem.F.type_list_append mt_append (pv 6) (pa_cons (pe_tup (pa_cons (pv 8) (pa_cons (pv 9) pa_nil))) pa_nil)))) pss_nil))))
    (pss_one (ps_ret (pe_f F_joined hr (pa_cons (pv 2) (pa_cons (pv 6) pa_nil)) (Nat.le_trans h_joined hk)))))))))))))
def t_next_to (P : Program) (w : World) (K : PySem.W.Frag)  : TS :=
    (tRet (tCB (rSorted K) (tCons (tLc (iSeq K (tOp (rIx K) (tVar 0) (tC (.int 1)))) (gName 2) (tTest (tOp (rIn K false) (tVar 1) (tVar 2))) (tIf (tTest (tOp (rEqX K) (tOp (rIx K) (tVar 2) (tC (.int 0))) (tVar 1))) (tOp (rIx K) (tVar 2) (tC (.int 1))) (tOp (rIx K) (tVar 2) (tC (.int 0)))) [2]) tNil)))
theorem x_next_to {P : Program} {w : World} {K : PySem.W.Frag} {mg : Str → Option Value} {base : Heap} {CX : CXT} {f : Addr} {cdv : Value} {A : Around} {outer : List Env} {s : Shared} {H : Hp} {E : XK} {k r : Nat} (B : Bt mg) (hr : Room r (A.deeper (envOfC "_law_next_to" (defScope s_next_to) s.heap.objs.size f cdv))) (hk : k ≤ r)
     :
    PSs (cxOf CX P w K mg base n_next_to "_law_next_to" (defScope s_next_to) f cdv A outer s H E).nox (defBody s_next_to) (t_next_to P w K ) :=
    (pss_one (ps_ret (pe_callB cr_sorted rfl B.sorted bo_sorted (pa_cons (pe_lc (own := [("_law_own", 2)]) (g := (gName 2)) (tt := (tTest (tOp (rIn K false) (tVar 1) (tVar 2)))) (te := (tIf (tTest (tOp (rEqX K) (tOp (rIx K) (tVar 2) (tC (.int 0))) (tVar 1))) (tOp (rIx K) (tVar 2) (tC (.int 1))) (tOp (rIx K) (tVar 2) (tC (.int 0))))) rfl sc_next_to.nd (pi_seq (pe_ix ix_seq (pv 0) pe_int (fun _ _ => rfl))) (blkOk_by (N := n_next_to) (sc := defScope s_next_to) (by decide +kernel)) (fun _ _ _ _ _ => (pg_name (i := 2) sc_next_to.nd rfl (Or.inl rfl))) (fun _ _ _ _ _ => (pts_one (pt_cmpR op_in_seq (pv 1) (pv 2) (by with_unfolding_all rfl)))) (fun _ _ _ _ _ => (pe_ifExp (pt_cmpR (op_eqX hr.u64) (pe_ix ix_seq (pv 2) pe_int (fun _ _ => rfl)) (pv 1) (nomark _)) (pe_ix ix_seq (pv 2) pe_int (fun _ _ => rfl)) (pe_ix ix_seq (pv 2) pe_int (fun _ _ => rfl))))) pa_nil))))
def t_marked (P : Program) (w : World) (K : PySem.W.Frag)  : TS :=
    (tSeq (tAsg (tLstRg (tRg1 (tOp (rIx K) (tVar 0) (tC (.int 0))))) (gName 1))
    (tSeq (tFor (iRng1 (tCons (tOp (rIx K) (tVar 0) (tC (.int 0))) tNil)) (gName 2) (tFor (iSeq K (tOp (rIx K) (tVar 0) (tC (.int 1)))) (gTup K 2 (gCons (gName 3) (gCons (gName 4) gNil))) (tSeq (tAsg (tCB rMin2 (tCons (tOp (rIx K) (tVar 1) (tVar 3)) (tCons (tOp (rIx K) (tVar 1) (tVar 4)) tNil))) (gName 5))
    (tAsg (tTup (tCons (tVar 5) (tCons (tVar 5) tNil))) (gTup K 2 (gCons (gSub (tVar 1) (tVar 3) rSetL) (gCons (gSub (tVar 1) (tVar 4) rSetL) gNil)))))))
    (tRet (tVar 1))))
theorem x_marked {P : Program} {w : World} {K : PySem.W.Frag} {mg : Str → Option Value} {base : Heap} {CX : CXT} {f : Addr} {cdv : Value} {A : Around} {outer : List Env} {s : Shared} {H : Hp} {E : XK} {k r : Nat} (B : Bt mg) (hr : Room r (A.deeper (envOfC "_law_marked" (defScope s_marked) s.heap.objs.size f cdv))) (hk : k ≤ r)
     :
    PSs (cxOf CX P w K mg base n_marked "_law_marked" (defScope s_marked) f cdv A outer s H E).nox (defBody s_marked) (t_marked P w K ) :=
    (pss_cons (ps_set (i := 1) sc_marked.nd rfl (Or.inl rfl) (pe_listRg rfl rfl B.list (prg_1 rfl B.range (pe_ix ix_seq (pv 0) pe_int (fun _ _ => rfl)))))
    (pss_cons (ps_for PassesOwn.never rfl (pi_range1 rfl B.range (pa_cons (pe_ix ix_seq (pv 0) pe_int (fun _ _ => rfl)) pa_nil)) (pg_name (i := 2) sc_marked.nd rfl (Or.inl rfl)) (pss_one (ps_for PassesOwn.never rfl (pi_seq (pe_ix ix_seq (pv 0) pe_int (fun _ _ => rfl))) (pg_tup rfl (pgs_cons (pg_name (i := 3) sc_marked.nd rfl (Or.inl rfl)) (pgs_cons (pg_name (i := 4) sc_marked.nd rfl (Or.inl rfl)) pgs_nil))) (pss_cons (ps_set (i := 5) sc_marked.nd rfl (Or.inl rfl) (pe_callB (call_min2 rfl) rfl B.min bo_min (pa_cons (pe_ix ix_seq (pv 1) (pv 3) (fun _ _ => rfl)) (pa_cons (pe_ix ix_seq (pv 1) (pv 4) (fun _ _ => rfl)) pa_nil))))
    (pss_one (ps_asg (pe_tup (pa_cons (pv 5) (pa_cons (pv 5) pa_nil))) (pg_tup rfl (pgs_cons (pg_sub (pv 1) (pv 3) set_list) (pgs_cons (pg_sub (pv 1) (pv 4) set_list) pgs_nil)))))))))
    (pss_one (ps_ret (pv 1)))))
def t_parts_so (P : Program) (w : World) (K : PySem.W.Frag) (S_marked : Sp) : TS :=
    (tSeq (tAsg (tCall S_marked [] E0 (tCons (tVar 0) tNil)) (gName 1))
    (tRet (tCB (rTupOf K) (tCons (tLc (iSeq K (tCB (rSortedSet w) (tCons (tCB (rSetI K w) (tCons (tVar 1) tNil)) tNil))) (gName 2) tYes (tCB (rTupOf K) (tCons (tLc (iRng1 (tCons (tOp (rIx K) (tVar 0) (tC (.int 0))) tNil)) (gName 3) (tTest (tOp (rEqX K) (tOp (rIx K) (tVar 1) (tVar 3)) (tVar 2))) (tVar 3) [3]) tNil)) [2]) tNil))))
theorem x_parts_so {P : Program} {w : World} {K : PySem.W.Frag} {mg : Str → Option Value} {base : Heap} {CX : CXT} {f : Addr} {cdv : Value} {A : Around} {outer : List Env} {s : Shared} {H : Hp} {E : XK} {k r : Nat} (B : Bt mg) (hr : Room r (A.deeper (envOfC "_law_parts_so" (defScope s_parts_so) s.heap.objs.size f cdv))) (hk : k ≤ r)
    {k_marked : Nat} {p_marked : List Str} {S_marked : Sp} (F_marked : FnE P w K mg base CX0 k_marked "_law_marked" p_marked S_marked) (h_marked : k_marked ≤ k) :
    PSs (cxOf CX P w K mg base n_parts_so "_law_parts_so" (defScope s_parts_so) f cdv A outer s H E).nox (defBody s_parts_so) (t_parts_so P w K S_marked) :=
    (pss_cons (ps_set (i := 1) sc_parts_so.nd rfl (Or.inr rfl) (pe_f F_marked hr (pa_cons (pv 0) pa_nil) (Nat.le_trans h_marked hk)))
    (pss_one (ps_ret (pe_callTy call_tuple_of rfl B.tuple bo_tuple (pa_cons (pe_lc (own := [("_law_head_so", 2)]) (g := (gName 2)) (tt := tYes) (te := (tCB (rTupOf K) (tCons (tLc (iRng1 (tCons (tOp (rIx K) (tVar 0) (tC (.int 0))) tNil)) (gName 3) (tTest (tOp (rEqX K) (tOp (rIx K) (tVar 1) (tVar 3)) (tVar 2))) (tVar 3) [3]) tNil))) rfl sc_parts_so.nd (pi_seq (pe_callB (cr_sortedSet rfl) rfl B.sorted bo_sorted (pa_cons (pe_callTy (cr_setI rfl) rfl B.set bo_set (pa_cons (pv 1) pa_nil)) pa_nil))) (blkOk_by (N := n_parts_so) (sc := defScope s_parts_so) (by decide +kernel)) (fun _ _ _ _ _ => (pg_name (i := 2) sc_parts_so.nd rfl (Or.inr rfl))) (fun _ _ _ _ _ => pts_nil) (fun _ _ _ _ _ => (pe_callTy call_tuple_of rfl B.tuple bo_tuple (pa_cons (pe_lc (own := [("_law_k", 3)]) (g := (gName 3)) (tt := (tTest (tOp (rEqX K) (tOp (rIx K) (tVar 1) (tVar 3)) (tVar 2)))) (te := (tVar 3)) rfl sc_parts_so.nd (pi_range1 rfl B.range (pa_cons (pe_ix ix_seq (pv 0) pe_int (fun _ _ => rfl)) pa_nil)) (blkOk_by (N := n_parts_so) (by rfl)) (fun _ _ _ _ _ => (pg_name (i := 3) sc_parts_so.nd rfl (Or.inl rfl))) (fun _ _ _ _ _ => (pts_one (pt_cmpR (op_eqX hr.u64) (pe_ix ix_seq (pv 1) (pv 3) (fun _ _ => rfl)) (pv 2) (nomark _)))) (fun _ _ _ _ _ => (pv 3))) pa_nil)))) pa_nil)))))
def t_is_beam (P : Program) (w : World) (K : PySem.W.Frag) (S_is_pair : Sp) : TS :=
    (tRet (tAndV (tCall S_is_pair [] E0 (tCons (tVar 0) tNil)) (tChain3 (rI0 fun i j => .bl (decide (i ≤ j))) (rI0 fun i j => .bl (decide (i < j))) (rI0 fun i j => .bl (decide (i < j))) (tC (.int 0)) (tOp (rIx K) (tVar 0) (tC (.int 0))) (tOp (rIx K) (tVar 0) (tC (.int 1))) (tVar 1))))
theorem x_is_beam {P : Program} {w : World} {K : PySem.W.Frag} {mg : Str → Option Value} {base : Heap} {CX : CXT} {f : Addr} {cdv : Value} {A : Around} {outer : List Env} {s : Shared} {H : Hp} {E : XK} {k r : Nat} (B : Bt mg) (hr : Room r (A.deeper (envOfC "_law_is_beam" (defScope s_is_beam) s.heap.objs.size f cdv))) (hk : k ≤ r)
    {k_is_pair : Nat} {p_is_pair : List Str} {S_is_pair : Sp} (F_is_pair : FnE P w K mg base CX0 k_is_pair "_law_is_pair" p_is_pair S_is_pair) (h_is_pair : k_is_pair ≤ k) :
    PSs (cxOf CX P w K mg base n_is_beam "_law_is_beam" (defScope s_is_beam) f cdv A outer s H E).nox (defBody s_is_beam) (t_is_beam P w K S_is_pair) :=
    (pss_one (ps_ret (pe_and (pe_f F_is_pair hr (pa_cons (pv 0) pa_nil) (Nat.le_trans h_is_pair hk)) (pe_one (pe_chain3 op_le op_lt op_lt pe_int (pe_ix ix_seq (pv 0) pe_int (fun _ _ => rfl)) (pe_ix ix_seq (pv 0) pe_int (fun _ _ => rfl)) (pv 1))))))
def t_is_frame_so (P : Program) (w : World) (K : PySem.W.Frag) (S_is_number : Sp) (S_is_beam : Sp) : TS :=
    (tSeq (tIfS (tOr (tNot (tB (tCB (rIsi K) (tCons (tVar 0) (tCons (tC (.ty "tuple")) tNil))))) (tOr (tTest (tOp (rNeX K) (tCB (rLen K) (tCons (tVar 0) tNil)) (tC (.int 2)))) (tOr (tNot (tB (tCall S_is_number [] E0 (tCons (tOp (rIx K) (tVar 0) (tC (.int 0))) tNil)))) (tNot (tB (tCB (rIsi K) (tCons (tOp (rIx K) (tVar 0) (tC (.int 1))) (tCons (tC (.ty "tuple")) tNil)))))))) (tRet (tC (.bl false))) tNext)
    (tSeq (tIfS (tOr (tTest (tOp (rLtX K) (tOp (rIx K) (tVar 0) (tC (.int 0))) (tC (.int 2)))) (tTest (tOp (rNeX K) (tLc (iSeq K (tOp (rIx K) (tVar 0) (tC (.int 1)))) (gName 3) (tNot (tB (tCall S_is_beam [] E0 (tCons (tVar 3) (tCons (tOp (rIx K) (tVar 0) (tC (.int 0))) tNil))))) (tC (.int 1)) [3]) (tLst tNil)))) (tRet (tC (.bl false))) tNext)
    (tSeq (tIfS (tTest (tOp (rNeX K) (tLc (RZ.iZipA K (tCons (tOp (rIx K) (tVar 0) (tC (.int 1))) (tCons (tSl (rSl K) (tOp (rIx K) (tVar 0) (tC (.int 1))) (tPart (tC (.int 1))) tNoPart) tNil))) (gTup K 2 (gCons (gName 1) (gCons (gName 2) gNil))) (tTest (tOp (rGeX K) (tVar 1) (tVar 2))) (tC (.int 1)) [1, 2]) (tLst tNil))) (tRet (tC (.bl false))) tNext)
    (tRet (tOp (rEqX K) (tCB (rSortedSet w) (tCons (tCB (rSetI K w) (tCons (tCB (rSumL K) (tCons (tLc (iSeq K (tOp (rIx K) (tVar 0) (tC (.int 1)))) (gName 3) tYes (tCB (rListOf K) (tCons (tVar 3) tNil)) [3]) (tCons (tLst tNil) tNil))) tNil)) tNil)) (tLstRg (tRg1 (tOp (rIx K) (tVar 0) (tC (.int 0))))))))))
theorem x_is_frame_so {P : Program} {w : World} {K : PySem.W.Frag} {mg : Str → Option Value} {base : Heap} {CX : CXT} {f : Addr} {cdv : Value} {A : Around} {outer : List Env} {s : Shared} {H : Hp} {E : XK} {k r : Nat} (B : Bt mg) (hr : Room r (A.deeper (envOfC "_law_is_frame_so" (defScope s_is_frame_so) s.heap.objs.size f cdv))) (hk : k ≤ r)
    {k_is_number : Nat} {p_is_number : List Str} {S_is_number : Sp} (F_is_number : FnE P w K mg base CX0 k_is_number "_law_is_number" p_is_number S_is_number) (h_is_number : k_is_number ≤ k) {k_is_beam : Nat} {p_is_beam : List Str} {S_is_beam : Sp} (F_is_beam : FnE P w K mg base CX0 k_is_beam "_law_is_beam" p_is_beam S_is_beam) (h_is_beam : k_is_beam ≤ k) :
    PSs (cxOf CX P w K mg base n_is_frame_so "_law_is_frame_so" (defScope s_is_frame_so) f cdv A outer s H E).nox (defBody s_is_frame_so) (t_is_frame_so P w K S_is_number S_is_beam) :=
    (pss_cons (ps_if (PW.pt (pw_or (pt_not (pt_val (pe_callB call_isi rfl B.isi bo_isi (pa_cons (pv 0) (pa_cons (pe_ty rfl B.tuple bo_tuple) pa_nil))))) (pw_or (pt_cmpR (op_neX hr.u64) (pe_callB call_len_seq rfl B.len bo_len (pa_cons (pv 0) pa_nil)) pe_int (nomark _)) (pw_or (pt_not (pt_val (pe_f F_is_number hr (pa_cons (pe_ix ix_seq (pv 0) pe_int (fun _ _ => rfl)) pa_nil) (Nat.le_trans h_is_number hk)))) (pw_or1 (pt_not (pt_val (pe_callB call_isi rfl B.isi bo_isi (pa_cons (pe_ix ix_seq (pv 0) pe_int (fun _ _ => rfl)) (pa_cons (pe_ty rfl B.tuple bo_tuple) pa_nil)))))))))) (pss_one (ps_ret pe_bl)) pss_nil)
    (pss_cons (ps_if (PW.pt (pw_or (pt_cmpR (op_ltX hr.u0) (pe_ix ix_seq (pv 0) pe_int (fun _ _ => rfl)) pe_int (nomark _)) (pw_or1 (pt_cmpR (op_neX hr.u64) (pe_lc (own := [("_law_its", 3)]) (g := (gName 3)) (tt := (tNot (tB (tCall S_is_beam [] E0 (tCons (tVar 3) (tCons (tOp (rIx K) (tVar 0) (tC (.int 0))) tNil)))))) (te := (tC (.int 1))) rfl sc_is_frame_so.nd (pi_seq (pe_ix ix_seq (pv 0) pe_int (fun _ _ => rfl))) (blkOk_by (N := n_is_frame_so) (sc := defScope s_is_frame_so) (by decide +kernel)) (fun _ _ _ _ _ => (pg_name (i := 3) sc_is_frame_so.nd rfl (Or.inl rfl))) (fun _ _ _ _ _ => (pts_one (pt_not (pt_val (pe_f F_is_beam hr (pa_cons (pv 3) (pa_cons (pe_ix ix_seq (pv 0) pe_int (fun _ _ => rfl)) pa_nil)) (Nat.le_trans h_is_beam hk)))))) (fun _ _ _ _ _ => pe_int)) (pe_lst pa_nil) (nomark _))))) (pss_one (ps_ret pe_bl)) pss_nil)
    (pss_cons (ps_if (pt_cmpR (op_neX hr.u64) (pe_lc (own := [("_law_one", 1), ("_law_two", 2)]) (g := (gTup K 2 (gCons (gName 1) (gCons (gName 2) gNil)))) (tt := (tTest (tOp (rGeX K) (tVar 1) (tVar 2)))) (te := (tC (.int 1))) rfl sc_is_frame_so.nd (RZ.pi_zipA rfl B.zip (pa_cons (pe_ix ix_seq (pv 0) pe_int (fun _ _ => rfl)) (pa_cons (pe_slice sl_seq (pe_ix ix_seq (pv 0) pe_int (fun _ _ => rfl)) (po_some pe_int) po_none) pa_nil))) (blkOk_by (N := n_is_frame_so) (sc := defScope s_is_frame_so) (by decide +kernel)) (fun _ _ _ _ _ => (pg_tup rfl (pgs_cons (pg_name (i := 1) sc_is_frame_so.nd rfl (Or.inl rfl)) (pgs_cons (pg_name (i := 2) sc_is_frame_so.nd rfl (Or.inl rfl)) pgs_nil)))) (fun _ _ _ _ _ => (pts_one (pt_cmpR (op_geX hr.u0) (pv 1) (pv 2) (nomark _)))) (fun _ _ _ _ _ => pe_int)) (pe_lst pa_nil) (nomark _)) (pss_one (ps_ret pe_bl)) pss_nil)
    (pss_one (ps_ret (pe_cmpR (op_eqX hr.u64) (pe_callB (cr_sortedSet rfl) rfl B.sorted bo_sorted (pa_cons (pe_callTy (cr_setI rfl) rfl B.set bo_set (pa_cons (pe_callB (cr_sumL rfl) rfl B.sum bo_sum (pa_cons (pe_lc (own := [("_law_its", 3)]) (g := (gName 3)) (tt := tYes) (te := (tCB (rListOf K) (tCons (tVar 3) tNil))) rfl sc_is_frame_so.nd (pi_seq (pe_ix ix_seq (pv 0) pe_int (fun _ _ => rfl))) (blkOk_by (N := n_is_frame_so) (sc := defScope s_is_frame_so) (by decide +kernel)) (fun _ _ _ _ _ => (pg_name (i := 3) sc_is_frame_so.nd rfl (Or.inl rfl))) (fun _ _ _ _ _ => pts_nil) (fun _ _ _ _ _ => (pe_callTy call_list_of rfl B.list bo_list (pa_cons (pv 3) pa_nil)))) (pa_cons (pe_lst pa_nil) pa_nil))) pa_nil)) pa_nil)) (pe_listRg rfl rfl B.list (prg_1 rfl B.range (pe_ix ix_seq (pv 0) pe_int (fun _ _ => rfl)))) (nomark _)))))))
def t_bent (P : Program) (w : World) (K : PySem.W.Frag) (S_take : Sp) (S_pick : Sp) (S_put : Sp) : TS :=
    (tSeq (tAsg (tVar 1) (gTup K 2 (gCons (gName 2) (gCons (gName 3) gNil))))
    (tSeq (tAsg (tCall S_take [] E0 (tCons (tVar 0) (tCons (tCB (rLen K) (tCons (tVar 3) tNil)) tNil))) (gName 4))
    (tSeq (tAsg (tOp (rIx K) (tVar 3) (tVar 4)) (gTup K 2 (gCons (gName 5) (gCons (gName 6) gNil))))
    (tSeq (tAsg (tLst (tCons (tTup (tCons (tVar 6) (tCons (tVar 5) tNil))) (tCons (tTup (tCons (tVar 5) (tCons (tOp (rPlus K) (tVar 6) (tC (.int 1))) tNil))) (tCons (tTup (tCons (tVar 5) (tCons (tVar 5) tNil))) (tCons (tTup (tCons (tOp (rI0 fun i j => .int (i - j)) (tVar 5) (tC (.int 1))) (tCons (tVar 6) tNil))) (tCons (tTup (tCons (tVar 5) (tCons (tVar 6) (tCons (tVar 6) tNil)))) (tCons (tTup (tCons (tVar 5) tNil)) (tCons (tLst (tCons (tVar 5) (tCons (tVar 6) tNil))) (tCons (tTup (tCons (tVar 5) (tCons (tC .non) tNil))) (tCons (tTup (tCons (tVar 5) (tCons (tOp (rEqX K) (tVar 6) (tC (.int 1))) tNil))) (tCons (tTup (tCons (tOp (rEqX K) (tVar 5) (tC (.int 1))) (tCons (tVar 6) tNil))) (tCons (tC .non) (tCons (tVar 5) (tCons (tC (.str "01")) (tCons (tTup (tCons (tC (.int 0)) (tCons (tOp (rI0 fun i j => .int (i - j)) (tVar 2) (tC (.int 1))) tNil))) tNil))))))))))))))) (gName 7))
    (tSeq (tAsg (tLc (iSeq K (tCall S_pick [] E0 (tCons (tVar 0) (tCons (tVar 7) (tCons (tC (.int 5)) tNil))))) (gName 9) tYes (tTup (tCons (tVar 2) (tCons (tCall S_put [] E0 (tCons (tVar 3) (tCons (tVar 4) (tCons (tVar 9) tNil)))) tNil))) [9]) (gName 8))
    (tSeq (tAsg (tOp (rPlus K) (tVar 8) (tLst (tCons (tTup (tCons (tVar 2) (tCons (tOp (rPlus K) (tSl (rSl K) (tVar 3) tNoPart (tPart (tVar 4))) (tSl (rSl K) (tVar 3) (tPart (tOp (rPlus K) (tVar 4) (tC (.int 1)))) tNoPart)) tNil))) (tCons (tTup (tCons (tOp (rPlus K) (tVar 2) (tC (.int 1))) (tCons (tVar 3) tNil))) (tCons (tTup (tCons (tOp (rI0 fun i j => .int (i - j)) (tVar 2) (tC (.int 1))) (tCons (tVar 3) tNil))) (tCons (tTup (tCons (tVar 2) (tCons (tOp (rPlus K) (tVar 3) (tSl (rSl K) (tVar 3) (tPart (tVar 4)) (tPart (tOp (rPlus K) (tVar 4) (tC (.int 1)))))) tNil))) tNil)))))) (gName 8))
    (tSeq (tAsg (tOp (rPlus K) (tVar 8) (tLst (tCons (tTup (tCons (tVar 2) (tCons (tRevT K (tVar 3)) tNil))) (tCons (tTup (tCons (tVar 2) (tCons (tCB (rListOf K) (tCons (tVar 3) tNil)) tNil))) (tCons (tCB (rListOf K) (tCons (tVar 1) tNil)) (tCons (tTup (tCons (tOp (rEqX K) (tVar 2) (tC (.int 2))) (tCons (tVar 3) tNil))) (tCons (tTup (tCons (tVar 2) (tCons (tVar 3) (tCons (tTup tNil) tNil)))) (tCons (tTup (tCons (tVar 3) (tCons (tVar 2) tNil))) tNil)))))))) (gName 8))
    (tRet (tOp (rPlus K) (tVar 8) (tLst (tCons (tTup (tCons (tVar 2) (tCons (tCB (rTupOf K) (tCons (tCB (rSortTU K 2 1024) (tCons (tOp (rPlus K) (tVar 3) (tTup (tCons (tTup (tCons (tC (.int 0)) (tCons (tC (.int 1)) tNil))) tNil))) tNil)) tNil)) tNil))) (tCons (tTup (tCons (tVar 2) (tCons (tCB (rTupOf K) (tCons (tCB (rSortedT K P w) (tCons (tCB (rSetTT K P w) (tCons (tOp (rPlus K) (tVar 3) (tTup (tCons (tTup (tCons (tC (.int 0)) (tCons (tOp (rI0 fun i j => .int (i - j)) (tVar 2) (tC (.int 1))) tNil))) tNil))) tNil)) tNil)) tNil)) tNil))) (tCons (tVar 3) (tCons (tTup (tCons (tVar 2) (tCons (tTup tNil) tNil))) (tCons (tC .non) tNil)))))))))))))))
theorem x_bent {P : Program} {w : World} {K : PySem.W.Frag} {mg : Str → Option Value} {base : Heap} {CX : CXT} {f : Addr} {cdv : Value} {A : Around} {outer : List Env} {s : Shared} {H : Hp} {E : XK} {k r : Nat} (B : Bt mg) (hr : Room r (A.deeper (envOfC "_law_bent" (defScope s_bent) s.heap.objs.size f cdv))) (hk : k ≤ r)
    {k_take : Nat} {p_take : List Str} {S_take : Sp} (F_take : FnE P w K mg base CX0 k_take "_law_take" p_take S_take) (h_take : k_take ≤ k) {k_pick : Nat} {p_pick : List Str} {S_pick : Sp} (F_pick : FnE P w K mg base CX0 k_pick "_law_pick" p_pick S_pick) (h_pick : k_pick ≤ k) {k_put : Nat} {p_put : List Str} {S_put : Sp} (F_put : FnE P w K mg base CX0 k_put "_law_put" p_put S_put) (h_put : k_put ≤ k) :
    PSs (cxOf CX P w K mg base n_bent "_law_bent" (defScope s_bent) f cdv A outer s H E).nox (defBody s_bent) (t_bent P w K S_take S_pick S_put) :=
    (pss_cons (ps_asg (pv 1) (pg_tup rfl (pgs_cons (pg_name (i := 2) sc_bent.nd rfl (Or.inr rfl)) (pgs_cons (pg_name (i := 3) sc_bent.nd rfl (Or.inr rfl)) pgs_nil))))
    (pss_cons (ps_set (i := 4) sc_bent.nd rfl (Or.inr rfl) (pe_f F_take hr (pa_cons (pv 0) (pa_cons (pe_callB call_len_seq rfl B.len bo_len (pa_cons (pv 3) pa_nil)) pa_nil)) (Nat.le_trans h_take hk)))
    (pss_cons (ps_asg (pe_ix ix_seq (pv 3) (pv 4) (fun _ _ => rfl)) (pg_tup rfl (pgs_cons (pg_name (i := 5) sc_bent.nd rfl (Or.inl rfl)) (pgs_cons (pg_name (i := 6) sc_bent.nd rfl (Or.inl rfl)) pgs_nil))))
    (pss_cons (ps_set (i := 7) sc_bent.nd rfl (Or.inl rfl) (pe_lst (pa_cons (pe_tup (pa_cons (pv 6) (pa_cons (pv 5) pa_nil))) (pa_cons (pe_tup (pa_cons (pv 5) (pa_cons (pe_op op_plus (pv 6) pe_int) pa_nil))) (pa_cons (pe_tup (pa_cons (pv 5) (pa_cons (pv 5) pa_nil))) (pa_cons (pe_tup (pa_cons (pe_op op_sub (pv 5) pe_int) (pa_cons (pv 6) pa_nil))) (pa_cons (pe_tup (pa_cons (pv 5) (pa_cons (pv 6) (pa_cons (pv 6) pa_nil)))) (pa_cons (pe_tup (pa_cons (pv 5) pa_nil)) (pa_cons (pe_lst (pa_cons (pv 5) (pa_cons (pv 6) pa_nil))) (pa_cons (pe_tup (pa_cons (pv 5) (pa_cons pe_non pa_nil))) (pa_cons (pe_tup (pa_cons (pv 5) (pa_cons (pe_cmpR (op_eqX hr.u64) (pv 6) pe_int (nomark _)) pa_nil))) (pa_cons (pe_tup (pa_cons (pe_cmpR (op_eqX hr.u64) (pv 5) pe_int (nomark _)) (pa_cons (pv 6) pa_nil))) (pa_cons pe_non (pa_cons (pv 5) (pa_cons pe_str (pa_cons (pe_tup (pa_cons pe_int (pa_cons (pe_op op_sub (pv 2) pe_int) pa_nil))) pa_nil))))))))))))))))
    (pss_cons (ps_setLc (i := 8) (own := [("_law_own", 9)]) (g := (gName 9)) (tt := tYes) (te := (tTup (tCons (tVar 2) (tCons (tCall S_put [] E0 (tCons (tVar 3) (tCons (tVar 4) (tCons (tVar 9) tNil)))) tNil)))) rfl sc_bent.nd rfl rfl (sw_true rfl rfl rfl (by decide +kernel)) (pi_seq (pe_f F_pick hr (pa_cons (pv 0) (pa_cons (pv 7) (pa_cons pe_int pa_nil))) (Nat.le_trans h_pick hk))) (blkOk_by (N := n_bent) (sc := defScope s_bent) (by decide +kernel)) (fun _ _ _ _ _ => (pg_name (i := 9) sc_bent.nd rfl (Or.inl rfl))) (fun _ _ _ _ _ => pts_nil) (fun _ _ _ _ _ => (pe_tup (pa_cons (pv 2) (pa_cons (pe_f F_put hr (pa_cons (pv 3) (pa_cons (pv 4) (pa_cons (pv 9) pa_nil))) (Nat.le_trans h_put hk)) pa_nil)))))
    (pss_cons (ps_set (i := 8) sc_bent.nd rfl (Or.inl rfl) (pe_op op_plus (pv 8) (pe_lst (pa_cons (pe_tup (pa_cons (pv 2) (pa_cons (pe_op op_plus (pe_slice sl_seq (pv 3) po_none (po_some (pv 4))) (pe_slice sl_seq (pv 3) (po_some (pe_op op_plus (pv 4) pe_int)) po_none)) pa_nil))) (pa_cons (pe_tup (pa_cons (pe_op op_plus (pv 2) pe_int) (pa_cons (pv 3) pa_nil))) (pa_cons (pe_tup (pa_cons (pe_op op_sub (pv 2) pe_int) (pa_cons (pv 3) pa_nil))) (pa_cons (pe_tup (pa_cons (pv 2) (pa_cons (pe_op op_plus (pv 3) (pe_slice sl_seq (pv 3) (po_some (pv 4)) (po_some (pe_op op_plus (pv 4) pe_int)))) pa_nil))) pa_nil)))))))
    (pss_cons (ps_set (i := 8) sc_bent.nd rfl (Or.inl rfl) (pe_op op_plus (pv 8) (pe_lst (pa_cons (pe_tup (pa_cons (pv 2) (pa_cons (pe_revT (pv 3)) pa_nil))) (pa_cons (pe_tup (pa_cons (pv 2) (pa_cons (pe_callTy call_list_of rfl B.list bo_list (pa_cons (pv 3) pa_nil)) pa_nil))) (pa_cons (pe_callTy call_list_of rfl B.list bo_list (pa_cons (pv 1) pa_nil)) (pa_cons (pe_tup (pa_cons (pe_cmpR (op_eqX hr.u64) (pv 2) pe_int (nomark _)) (pa_cons (pv 3) pa_nil))) (pa_cons (pe_tup (pa_cons (pv 2) (pa_cons (pv 3) (pa_cons (pe_tup pa_nil) pa_nil)))) (pa_cons (pe_tup (pa_cons (pv 3) (pa_cons (pv 2) pa_nil))) pa_nil)))))))))
    (pss_one (ps_ret (pe_op op_plus (pv 8) (pe_lst (pa_cons (pe_tup (pa_cons (pv 2) (pa_cons (pe_callTy call_tuple_of rfl B.tuple bo_tuple (pa_cons (pe_callB (cr_sortTU (d := 2) (B := 1024) (by decide)) rfl B.sorted bo_sorted (pa_cons (pe_op op_plus (pv 3) (pe_tup (pa_cons (pe_tup (pa_cons pe_int (pa_cons pe_int pa_nil))) pa_nil))) pa_nil)) pa_nil)) pa_nil))) (pa_cons (pe_tup (pa_cons (pv 2) (pa_cons (pe_callTy call_tuple_of rfl B.tuple bo_tuple (pa_cons (pe_callB (cr_sortedT rfl) rfl B.sorted bo_sorted (pa_cons (pe_callTy (cr_setTT rfl hr.u64) rfl B.set bo_set (pa_cons (pe_op op_plus (pv 3) (pe_tup (pa_cons (pe_tup (pa_cons pe_int (pa_cons (pe_op op_sub (pv 2) pe_int) pa_nil))) pa_nil))) pa_nil)) pa_nil)) pa_nil)) pa_nil))) (pa_cons (pv 3) (pa_cons (pe_tup (pa_cons (pv 2) (pa_cons (pe_tup pa_nil) pa_nil))) (pa_cons pe_non pa_nil))))))))))))))))
def t_right (P : Program) (w : World) (K : PySem.W.Frag) (S_frame : Sp) (S_take : Sp) (S_same : Sp) (S_p_put_apart : Sp) (S_lists : Sp) (S_parts_so : Sp) (S_p_part_of : Sp) (S_p_neighbours : Sp) (S_p_parts : Sp) (S_next_to : Sp) (S_of : Sp) (S_heard : Sp) (S_bent : Sp) (S_is_frame_so : Sp) (S_p_is_frame : Sp) : TS :=
    (tSeq (tAsg (tCall S_frame [] E0 (tCons (tVar 0) (tCons (tC (.int 6)) tNil))) (gName 1))
    (tSeq (tIfS (tTest (tOp (rEqX K) (tCall S_take [] E0 (tCons (tVar 0) (tCons (tC (.int 3)) tNil))) (tC (.int 0)))) (tSeq (tAsg (tCall S_frame [] E0 (tCons (tVar 0) (tCons (tC (.int 3)) tNil))) (gName 2))
    (tSeq (tAsg (tTup (tCons (tOp (rPlus K) (tOp (rIx K) (tVar 1) (tC (.int 0))) (tOp (rIx K) (tVar 2) (tC (.int 0)))) (tCons (tOp (rPlus K) (tOp (rIx K) (tVar 1) (tC (.int 1))) (tCB (rTupOf K) (tCons (tLc (iSeq K (tOp (rIx K) (tVar 2) (tC (.int 1)))) (gTup K 2 (gCons (gName 12) (gCons (gName 13) gNil))) tYes (tTup (tCons (tOp (rPlus K) (tVar 12) (tOp (rIx K) (tVar 1) (tC (.int 0)))) (tCons (tOp (rPlus K) (tVar 13) (tOp (rIx K) (tVar 1) (tC (.int 0)))) tNil))) [12, 13]) tNil))) tNil))) (gName 3))
    (tSeq (tIfS (tNot (tB (tCall S_same [] E0 (tCons (tLst (tCons (tCall S_p_put_apart [] E0 (tCons (tVar 1) (tCons (tVar 2) tNil))) (tCons (tCall S_p_put_apart [] E0 (tCons (tCall S_lists [] E0 (tCons (tVar 1) tNil)) (tCons (tCall S_lists [] E0 (tCons (tVar 2) tNil)) tNil))) tNil))) (tCons (tLst (tCons (tVar 3) (tCons (tVar 3) tNil))) tNil))))) (tRet (tC (.bl false))) tNext)
    (tAsg (tVar 3) (gName 1))))) tNext)
    (tSeq (tAsg (tTup (tCons (tCall S_lists [] E0 (tCons (tVar 1) tNil)) (tCons (tCall S_parts_so [] E0 (tCons (tVar 1) tNil)) tNil))) (gTup K 2 (gCons (gName 4) (gCons (gName 5) gNil))))
    (tSeq (tAsg (tLst (tCons (tCall S_p_parts [] E0 (tCons (tVar 4) tNil)) (tCons (tLc (iRng1 (tCons (tOp (rIx K) (tVar 1) (tC (.int 0))) tNil)) (gName 10) tYes (tCall S_p_neighbours [] E0 (tCons (tVar 1) (tCons (tVar 10) tNil))) [10]) (tCons (tLc (iRng1 (tCons (tOp (rIx K) (tVar 1) (tC (.int 0))) tNil)) (gName 10) tYes (tCall S_p_part_of [] E0 (tCons (tVar 4) (tCons (tVar 10) tNil))) [10]) tNil)))) (gName 6))
    (tSeq (tAsg (tLst (tCons (tVar 5) (tCons (tLc (iRng1 (tCons (tOp (rIx K) (tVar 1) (tC (.int 0))) tNil)) (gName 10) tYes (tCB (rTupOf K) (tCons (tCall S_next_to [] E0 (tCons (tVar 1) (tCons (tVar 10) tNil))) tNil)) [10]) (tCons (tLc (iRng1 (tCons (tOp (rIx K) (tVar 1) (tC (.int 0))) tNil)) (gName 10) tYes (tOp (rIx K) (tLc (iSeq K (tVar 5)) (gName 11) (tTest (tOp (rIn K false) (tVar 10) (tVar 11))) (tVar 11) [11]) (tC (.int 0))) [10]) tNil)))) (gName 7))
    (tSeq (tIfS (tNot (tB (tCall S_same [] E0 (tCons (tVar 6) (tCons (tVar 7) tNil))))) (tRet (tC (.bl false))) tNext)
    (tSeq (tAsg (tCall S_of [] E0 (tCons (tVar 0) (tCons (tLst (tCons (tUn (rU fun i => .int (-i)) (tC (.int 1))) (tCons (tOp (rIx K) (tVar 1) (tC (.int 0))) (tCons (tOp (rPlus K) (tOp (rPlus K) (tOp (rIx K) (tVar 1) (tC (.int 0))) (tC (.int 1))) (tCall S_take [] E0 (tCons (tVar 0) (tCons (tC (.int 90)) tNil)))) (tCons (tOp (rI0 fun i j => .int (i - j)) (tUn (rU fun i => .int (-i)) (tC (.int 2))) (tCall S_take [] E0 (tCons (tVar 0) (tCons (tC (.int 90)) tNil)))) tNil))))) tNil))) (gName 8))
    (tSeq (tIfS (tNot (tB (tCall S_same [] E0 (tCons (tLst (tCons (tCall S_heard [] E0 (tCons (tC (.int 0)) (tCons (tVar 1) (tCons (tVar 8) tNil)))) (tCons (tCall S_heard [] E0 (tCons (tC (.int 1)) (tCons (tVar 4) (tCons (tVar 8) tNil)))) tNil))) (tCons (tOp rTimes (tLst (tCons (tLst (tCons (tC (.str "no jack")) (tCons (tVar 8) (tCons (tC (.bl true)) tNil)))) tNil)) (tC (.int 2))) tNil))))) (tRet (tC (.bl false))) tNext)
    (tSeq (tAsg (tOp (rPlus K) (tLst (tCons (tVar 1) (tCons (tVar 4) tNil))) (tCall S_bent [] E0 (tCons (tVar 0) (tCons (tVar 1) tNil)))) (gName 9))
    (tSeq (tPar 6 7 (tCons (tLc (iSeq K (tVar 9)) (gName 11) tYes (tCall S_p_is_frame [] E0 (tCons (tVar 11) tNil)) [11]) (tCons (tLc (iSeq K (tVar 9)) (gName 11) tYes (tCall S_is_frame_so [] E0 (tCons (tVar 11) tNil)) [11]) tNil)))
    (tRet (tAndV (tCall S_same [] E0 (tCons (tVar 6) (tCons (tVar 7) tNil))) (tOp (rEqX K) (tVar 4) (tCall S_lists [] E0 (tCons (tVar 1) tNil)))))))))))))))
theorem x_right {P : Program} {w : World} {K : PySem.W.Frag} {mg : Str → Option Value} {base : Heap} {CX : CXT} {f : Addr} {cdv : Value} {A : Around} {outer : List Env} {s : Shared} {H : Hp} {E : XK} {k r : Nat} (B : Bt mg) (hr : Room r (A.deeper (envOfC "_law_right" (defScope s_right) s.heap.objs.size f cdv))) (hk : k ≤ r)
    {k_frame : Nat} {p_frame : List Str} {S_frame : Sp} (F_frame : FnE P w K mg base CX0 k_frame "_law_frame" p_frame S_frame) (h_frame : k_frame ≤ k) {k_take : Nat} {p_take : List Str} {S_take : Sp} (F_take : FnE P w K mg base CX0 k_take "_law_take" p_take S_take) (h_take : k_take ≤ k) {k_same : Nat} {p_same : List Str} {S_same : Sp} (F_same : FnE P w K mg base CX0 k_same "_law_same" p_same S_same) (h_same : k_same ≤ k) {k_p_put_apart : Nat} {p_p_put_apart : List Str} {S_p_put_apart : Sp} (F_p_put_apart : FnE P w K mg base CX0 k_p_put_apart "put_apart" p_p_put_apart S_p_put_apart) (h_p_put_apart : k_p_put_apart ≤ k) {k_lists : Nat} {p_lists : List Str} {S_lists : Sp} (F_lists : FnE P w K mg base CX0 k_lists "_law_lists" p_lists S_lists) (h_lists : k_lists ≤ k) {k_parts_so : Nat} {p_parts_so : List Str} {S_parts_so : Sp} (F_parts_so : FnE P w K mg base CX0 k_parts_so "_law_parts_so" p_parts_so S_parts_so) (h_parts_so : k_parts_so ≤ k) {k_p_part_of : Nat} {p_p_part_of : List Str} {S_p_part_of : Sp} (F_p_part_of : FnE P w K mg base CX0 k_p_part_of "part_of" p_p_part_of S_p_part_of) (h_p_part_of : k_p_part_of ≤ k) {k_p_neighbours : Nat} {p_p_neighbours : List Str} {S_p_neighbours : Sp} (F_p_neighbours : FnE P w K mg base CX0 k_p_neighbours "neighbours" p_p_neighbours S_p_neighbours) (h_p_neighbours : k_p_neighbours ≤ k) {k_p_parts : Nat} {p_p_parts : List Str} {S_p_parts : Sp} (F_p_parts : FnE P w K mg base CX0 k_p_parts "parts" p_p_parts S_p_parts) (h_p_parts : k_p_parts ≤ k) {k_next_to : Nat} {p_next_to : List Str} {S_next_to : Sp} (F_next_to : FnE P w K mg base CX0 k_next_to "_law_next_to" p_next_to S_next_to) (h_next_to : k_next_to ≤ k) {k_of : Nat} {p_of : List Str} {S_of : Sp} (F_of : FnE P w K mg base CX0 k_of "_law_of" p_of S_of) (h_of : k_of ≤ k) {k_heard : Nat} {p_heard : List Str} {S_heard : Sp} (F_heard : FnE P w K mg base CX0 k_heard "_law_heard" p_heard S_heard) (h_heard : k_heard ≤ k) {k_bent : Nat} {p_bent : List Str} {S_bent : Sp} (F_bent : FnE P w K mg base CX0 k_bent "_law_bent" p_bent S_bent) (h_bent : k_bent ≤ k) {k_is_frame_so : Nat} {p_is_frame_so : List Str} {S_is_frame_so : Sp} (F_is_frame_so : FnE P w K mg base CX0 k_is_frame_so "_law_is_frame_so" p_is_frame_so S_is_frame_so) (h_is_frame_so : k_is_frame_so ≤ k) {k_p_is_frame : Nat} {p_p_is_frame : List Str} {S_p_is_frame : Sp} (F_p_is_frame : FnE P w K mg base CX0 k_p_is_frame "is_frame" p_p_is_frame S_p_is_frame) (h_p_is_frame : k_p_is_frame ≤ k) :
    PSs (cxOf CX P w K mg base n_right "_law_right" (defScope s_right) f cdv A outer s H E).nox (defBody s_right) (t_right P w K S_frame S_take S_same S_p_put_apart S_lists S_parts_so S_p_part_of S_p_neighbours S_p_parts S_next_to S_of S_heard S_bent S_is_frame_so S_p_is_frame) :=
    (pss_cons (ps_set (i := 1) sc_right.nd rfl (Or.inr rfl) (pe_f F_frame hr (pa_cons (pv 0) (pa_cons pe_int pa_nil)) (Nat.le_trans h_frame hk)))
    (pss_cons (ps_if (pt_cmpR (op_eqX hr.u64) (pe_f F_take hr (pa_cons (pv 0) (pa_cons pe_int pa_nil)) (Nat.le_trans h_take hk)) pe_int (nomark _)) (pss_cons (ps_set (i := 2) sc_right.nd rfl (Or.inl rfl) (pe_f F_frame hr (pa_cons (pv 0) (pa_cons pe_int pa_nil)) (Nat.le_trans h_frame hk)))
    (pss_cons (ps_set (i := 3) sc_right.nd rfl (Or.inl rfl) (pe_tup (pa_cons (pe_op op_plus (pe_ix ix_seq (pv 1) pe_int (fun _ _ => rfl)) (pe_ix ix_seq (pv 2) pe_int (fun _ _ => rfl))) (pa_cons (pe_op op_plus (pe_ix ix_seq (pv 1) pe_int (fun _ _ => rfl)) (pe_callTy call_tuple_of rfl B.tuple bo_tuple (pa_cons (pe_lc (own := [("_law_i", 12), ("_law_j", 13)]) (g := (gTup K 2 (gCons (gName 12) (gCons (gName 13) gNil)))) (tt := tYes) (te := (tTup (tCons (tOp (rPlus K) (tVar 12) (tOp (rIx K) (tVar 1) (tC (.int 0)))) (tCons (tOp (rPlus K) (tVar 13) (tOp (rIx K) (tVar 1) (tC (.int 0)))) tNil)))) rfl sc_right.nd (pi_seq (pe_ix ix_seq (pv 2) pe_int (fun _ _ => rfl))) (blkOk_by (N := n_right) (sc := defScope s_right) (by decide +kernel)) (fun _ _ _ _ _ => (pg_tup rfl (pgs_cons (pg_name (i := 12) sc_right.nd rfl (Or.inl rfl)) (pgs_cons (pg_name (i := 13) sc_right.nd rfl (Or.inl rfl)) pgs_nil)))) (fun _ _ _ _ _ => pts_nil) (fun _ _ _ _ _ => (pe_tup (pa_cons (pe_op op_plus (pv 12) (pe_ix ix_seq (pv 1) pe_int (fun _ _ => rfl))) (pa_cons (pe_op op_plus (pv 13) (pe_ix ix_seq (pv 1) pe_int (fun _ _ => rfl))) pa_nil))))) pa_nil))) pa_nil))))
    (pss_cons (ps_if (pt_not (pt_val (pe_f F_same hr (pa_cons (pe_lst (pa_cons (pe_f F_p_put_apart hr (pa_cons (pv 1) (pa_cons (pv 2) pa_nil)) (Nat.le_trans h_p_put_apart hk)) (pa_cons (pe_f F_p_put_apart hr (pa_cons (pe_f F_lists hr (pa_cons (pv 1) pa_nil) (Nat.le_trans h_lists hk)) (pa_cons (pe_f F_lists hr (pa_cons (pv 2) pa_nil) (Nat.le_trans h_lists hk)) pa_nil)) (Nat.le_trans h_p_put_apart hk)) pa_nil))) (pa_cons (pe_lst (pa_cons (pv 3) (pa_cons (pv 3) pa_nil))) pa_nil)) (Nat.le_trans h_same hk)))) (pss_one (ps_ret pe_bl)) pss_nil)
    (pss_one (ps_set (i := 1) sc_right.nd rfl (Or.inr rfl) (pv 3)))))) pss_nil)
    (pss_cons (ps_asg (pe_tup (pa_cons (pe_f F_lists hr (pa_cons (pv 1) pa_nil) (Nat.le_trans h_lists hk)) (pa_cons (pe_f F_parts_so hr (pa_cons (pv 1) pa_nil) (Nat.le_trans h_parts_so hk)) pa_nil))) (pg_tup rfl (pgs_cons (pg_name (i := 4) sc_right.nd rfl (Or.inr rfl)) (pgs_cons (pg_name (i := 5) sc_right.nd rfl (Or.inr rfl)) pgs_nil))))
    (pss_cons (ps_set (i := 6) sc_right.nd rfl (Or.inl rfl) (pe_lst (pa_cons (pe_f F_p_parts hr (pa_cons (pv 4) pa_nil) (Nat.le_trans h_p_parts hk)) (pa_cons (pe_lc (own := [("_law_k", 10)]) (g := (gName 10)) (tt := tYes) (te := (tCall S_p_neighbours [] E0 (tCons (tVar 1) (tCons (tVar 10) tNil)))) rfl sc_right.nd (pi_range1 rfl B.range (pa_cons (pe_ix ix_seq (pv 1) pe_int (fun _ _ => rfl)) pa_nil)) (blkOk_by (N := n_right) (sc := defScope s_right) (by decide +kernel)) (fun _ _ _ _ _ => (pg_name (i := 10) sc_right.nd rfl (Or.inl rfl))) (fun _ _ _ _ _ => pts_nil) (fun _ _ _ _ _ => (pe_f F_p_neighbours hr (pa_cons (pv 1) (pa_cons (pv 10) pa_nil)) (Nat.le_trans h_p_neighbours hk)))) (pa_cons (pe_lc (own := [("_law_k", 10)]) (g := (gName 10)) (tt := tYes) (te := (tCall S_p_part_of [] E0 (tCons (tVar 4) (tCons (tVar 10) tNil)))) rfl sc_right.nd (pi_range1 rfl B.range (pa_cons (pe_ix ix_seq (pv 1) pe_int (fun _ _ => rfl)) pa_nil)) (blkOk_by (N := n_right) (sc := defScope s_right) (by decide +kernel)) (fun _ _ _ _ _ => (pg_name (i := 10) sc_right.nd rfl (Or.inl rfl))) (fun _ _ _ _ _ => pts_nil) (fun _ _ _ _ _ => (pe_f F_p_part_of hr (pa_cons (pv 4) (pa_cons (pv 10) pa_nil)) (Nat.le_trans h_p_part_of hk)))) pa_nil)))))
    (pss_cons (ps_set (i := 7) sc_right.nd rfl (Or.inl rfl) (pe_lst (pa_cons (pv 5) (pa_cons (pe_lc (own := [("_law_k", 10)]) (g := (gName 10)) (tt := tYes) (te := (tCB (rTupOf K) (tCons (tCall S_next_to [] E0 (tCons (tVar 1) (tCons (tVar 10) tNil))) tNil))) rfl sc_right.nd (pi_range1 rfl B.range (pa_cons (pe_ix ix_seq (pv 1) pe_int (fun _ _ => rfl)) pa_nil)) (blkOk_by (N := n_right) (sc := defScope s_right) (by decide +kernel)) (fun _ _ _ _ _ => (pg_name (i := 10) sc_right.nd rfl (Or.inl rfl))) (fun _ _ _ _ _ => pts_nil) (fun _ _ _ _ _ => (pe_callTy call_tuple_of rfl B.tuple bo_tuple (pa_cons (pe_f F_next_to hr (pa_cons (pv 1) (pa_cons (pv 10) pa_nil)) (Nat.le_trans h_next_to hk)) pa_nil)))) (pa_cons (pe_lc (own := [("_law_k", 10)]) (g := (gName 10)) (tt := tYes) (te := (tOp (rIx K) (tLc (iSeq K (tVar 5)) (gName 11) (tTest (tOp (rIn K false) (tVar 10) (tVar 11))) (tVar 11) [11]) (tC (.int 0)))) rfl sc_right.nd (pi_range1 rfl B.range (pa_cons (pe_ix ix_seq (pv 1) pe_int (fun _ _ => rfl)) pa_nil)) (blkOk_by (N := n_right) (sc := defScope s_right) (by decide +kernel)) (fun _ _ _ _ _ => (pg_name (i := 10) sc_right.nd rfl (Or.inr rfl))) (fun _ _ _ _ _ => pts_nil) (fun _ _ _ _ _ => (pe_ix ix_seq (pe_lc (own := [("_law_own", 11)]) (g := (gName 11)) (tt := (tTest (tOp (rIn K false) (tVar 10) (tVar 11)))) (te := (tVar 11)) rfl sc_right.nd (pi_seq (pv 5)) (blkOk_by (N := n_right) (by rfl)) (fun _ _ _ _ _ => (pg_name (i := 11) sc_right.nd rfl (Or.inl rfl))) (fun _ _ _ _ _ => (pts_one (pt_cmpR op_in_seq (pv 10) (pv 11) (by with_unfolding_all rfl)))) (fun _ _ _ _ _ => (pv 11))) pe_int (fun _ _ => rfl)))) pa_nil)))))
    (pss_cons (ps_if (pt_not (pt_val (pe_f F_same hr (pa_cons (pv 6) (pa_cons (pv 7) pa_nil)) (Nat.le_trans h_same hk)))) (pss_one (ps_ret pe_bl)) pss_nil)
    (pss_cons (ps_set (i := 8) sc_right.nd rfl (Or.inl rfl) (pe_f F_of hr (pa_cons (pv 0) (pa_cons (pe_lst (pa_cons (pe_un un_neg pe_int) (pa_cons (pe_ix ix_seq (pv 1) pe_int (fun _ _ => rfl)) (pa_cons (pe_op op_plus (pe_op op_plus (pe_ix ix_seq (pv 1) pe_int (fun _ _ => rfl)) pe_int) (pe_f F_take hr (pa_cons (pv 0) (pa_cons pe_int pa_nil)) (Nat.le_trans h_take hk))) (pa_cons (pe_op op_sub (pe_un un_neg pe_int) (pe_f F_take hr (pa_cons (pv 0) (pa_cons pe_int pa_nil)) (Nat.le_trans h_take hk))) pa_nil))))) pa_nil)) (Nat.le_trans h_of hk)))
    (pss_cons (ps_if (pt_not (pt_val (pe_f F_same hr (pa_cons (pe_lst (pa_cons (pe_f F_heard hr (pa_cons pe_int (pa_cons (pv 1) (pa_cons (pv 8) pa_nil))) (Nat.le_trans h_heard hk)) (pa_cons (pe_f F_heard hr (pa_cons pe_int (pa_cons (pv 4) (pa_cons (pv 8) pa_nil))) (Nat.le_trans h_heard hk)) pa_nil))) (pa_cons (pe_op op_times (pe_lst (pa_cons (pe_lst (pa_cons pe_str (pa_cons (pv 8) (pa_cons pe_bl pa_nil)))) pa_nil)) pe_int) pa_nil)) (Nat.le_trans h_same hk)))) (pss_one (ps_ret pe_bl)) pss_nil)
    (pss_cons (ps_set (i := 9) sc_right.nd rfl (Or.inl rfl) (pe_op op_plus (pe_lst (pa_cons (pv 1) (pa_cons (pv 4) pa_nil))) (pe_f F_bent hr (pa_cons (pv 0) (pa_cons (pv 1) pa_nil)) (Nat.le_trans h_bent hk))))
    (pss_cons (ps_par (i := 6) (j := 7) rfl sc_right.nd rfl rfl (by decide) rfl rfl (pa_cons (pe_lc (own := [("_law_own", 11)]) (g := (gName 11)) (tt := tYes) (te := (tCall S_p_is_frame [] E0 (tCons (tVar 11) tNil))) rfl sc_right.nd (pi_seq (pv 9)) (blkOk_by (N := n_right) (sc := defScope s_right) (by decide +kernel)) (fun _ _ _ _ _ => (pg_name (i := 11) sc_right.nd rfl (Or.inl rfl))) (fun _ _ _ _ _ => pts_nil) (fun _ _ _ _ _ => (pe_f F_p_is_frame hr (pa_cons (pv 11) pa_nil) (Nat.le_trans h_p_is_frame hk)))) (pa_cons (pe_lc (own := [("_law_own", 11)]) (g := (gName 11)) (tt := tYes) (te := (tCall S_is_frame_so [] E0 (tCons (tVar 11) tNil))) rfl sc_right.nd (pi_seq (pv 9)) (blkOk_by (N := n_right) (sc := defScope s_right) (by decide +kernel)) (fun _ _ _ _ _ => (pg_name (i := 11) sc_right.nd rfl (Or.inl rfl))) (fun _ _ _ _ _ => pts_nil) (fun _ _ _ _ _ => (pe_f F_is_frame_so hr (pa_cons (pv 11) pa_nil) (Nat.le_trans h_is_frame_so hk)))) pa_nil)) rfl)
    (pss_one (ps_ret (pe_and (pe_f F_same hr (pa_cons (pv 6) (pa_cons (pv 7) pa_nil)) (Nat.le_trans h_same hk)) (pe_one (pe_cmpR (op_eqX hr.u64) (pv 4) (pe_f F_lists hr (pa_cons (pv 1) pa_nil) (Nat.le_trans h_lists hk)) (nomark _))))))))))))))))
def t_by_hand_right (P : Program) (w : World) (K : PySem.W.Frag) (S_p_put_apart : Sp) (S_heard : Sp) (S_p_neighbours : Sp) (S_p_part_of : Sp) (S_p_parts : Sp) (S_p_is_frame : Sp) (S_same : Sp) : TS :=
    (tSeq (tAsg (tTup (tCons (tTup (tCons (tC (.int 4)) (tCons (tTup (tCons (tTup (tCons (tC (.int 0)) (tCons (tC (.int 2)) tNil))) (tCons (tTup (tCons (tC (.int 0)) (tCons (tC (.int 3)) tNil))) (tCons (tTup (tCons (tC (.int 1)) (tCons (tC (.int 3)) tNil))) tNil)))) tNil))) (tCons (tTup (tCons (tC (.int 4)) (tCons (tTup (tCons (tTup (tCons (tC (.int 0)) (tCons (tC (.int 2)) tNil))) (tCons (tTup (tCons (tC (.int 1)) (tCons (tC (.int 3)) tNil))) tNil))) tNil))) tNil))) (gTup K 2 (gCons (gName 0) (gCons (gName 1) gNil))))
    (tSeq (tAsg (tLst (tCons (tCall S_p_parts [] E0 (tCons (tVar 0) tNil)) (tCons (tCall S_p_parts [] E0 (tCons (tVar 1) tNil)) (tCons (tCall S_p_part_of [] E0 (tCons (tVar 1) (tCons (tC (.int 3)) tNil))) (tCons (tCall S_p_neighbours [] E0 (tCons (tVar 0) (tCons (tC (.int 3)) tNil))) (tCons (tCall S_heard [] E0 (tCons (tC (.int 0)) (tCons (tVar 0) (tCons (tC (.int 4)) tNil)))) (tCons (tCall S_p_put_apart [] E0 (tCons (tVar 1) (tCons (tTup (tCons (tC (.int 2)) (tCons (tTup (tCons (tTup (tCons (tC (.int 0)) (tCons (tC (.int 1)) tNil))) tNil)) tNil))) tNil))) tNil))))))) (gName 2))
    (tSeq (tAsg (tLst (tCons (tTup (tCons (tTup (tCons (tC (.int 0)) (tCons (tC (.int 1)) (tCons (tC (.int 2)) (tCons (tC (.int 3)) tNil))))) tNil)) (tCons (tTup (tCons (tTup (tCons (tC (.int 0)) (tCons (tC (.int 2)) tNil))) (tCons (tTup (tCons (tC (.int 1)) (tCons (tC (.int 3)) tNil))) tNil))) (tCons (tTup (tCons (tC (.int 1)) (tCons (tC (.int 3)) tNil))) (tCons (tTup (tCons (tC (.int 0)) (tCons (tC (.int 1)) tNil))) (tCons (tLst (tCons (tC (.str "no jack")) (tCons (tC (.int 4)) (tCons (tC (.bl true)) tNil)))) (tCons (tTup (tCons (tC (.int 6)) (tCons (tTup (tCons (tTup (tCons (tC (.int 0)) (tCons (tC (.int 2)) tNil))) (tCons (tTup (tCons (tC (.int 1)) (tCons (tC (.int 3)) tNil))) (tCons (tTup (tCons (tC (.int 4)) (tCons (tC (.int 5)) tNil))) tNil)))) tNil))) tNil))))))) (gName 3))
    (tSeq (tDrop (tBM K "list" rAppend (tVar 2) (tCons (tLc (iSeq K (tTup (tCons (tVar 0) (tCons (tTup (tCons (tC (.int 2)) (tCons (tTup (tCons (tTup (tCons (tC (.int 1)) (tCons (tC (.int 0)) tNil))) tNil)) tNil))) (tCons (tTup (tCons (tC (.int 3)) (tCons (tTup (tCons (tTup (tCons (tC (.int 0)) (tCons (tC (.int 1)) tNil))) tNil)) tNil))) (tCons (tTup (tCons (tC (.int 2)) (tCons (tTup (tCons (tTup (tCons (tC (.int 0)) (tCons (tC (.int 1)) tNil))) (tCons (tTup (tCons (tC (.int 0)) (tCons (tC (.int 1)) tNil))) tNil))) tNil))) (tCons (tTup (tCons (tC (.int 2)) (tCons (tTup (tCons (tTup (tCons (tC (.int 0)) (tCons (tC (.bl true)) tNil))) tNil)) tNil))) tNil))))))) (gName 4) tYes (tCall S_p_is_frame [] E0 (tCons (tVar 4) tNil)) [4]) tNil)))
    (tRet (tCall S_same [] E0 (tCons (tVar 2) (tCons (tOp (rPlus K) (tVar 3) (tLst (tCons (tOp (rPlus K) (tLst (tCons (tC (.bl true)) tNil)) (tOp rTimes (tLst (tCons (tC (.bl false)) tNil)) (tC (.int 4)))) tNil))) tNil))))))))
theorem x_by_hand_right {P : Program} {w : World} {K : PySem.W.Frag} {mg : Str → Option Value} {base : Heap} {CX : CXT} {f : Addr} {cdv : Value} {A : Around} {outer : List Env} {s : Shared} {H : Hp} {E : XK} {k r : Nat} (B : Bt mg) (hr : Room r (A.deeper (envOfC "_law_by_hand_right" (defScope s_by_hand_right) s.heap.objs.size f cdv))) (hk : k ≤ r)
    {k_p_put_apart : Nat} {p_p_put_apart : List Str} {S_p_put_apart : Sp} (F_p_put_apart : FnE P w K mg base CX0 k_p_put_apart "put_apart" p_p_put_apart S_p_put_apart) (h_p_put_apart : k_p_put_apart ≤ k) {k_heard : Nat} {p_heard : List Str} {S_heard : Sp} (F_heard : FnE P w K mg base CX0 k_heard "_law_heard" p_heard S_heard) (h_heard : k_heard ≤ k) {k_p_neighbours : Nat} {p_p_neighbours : List Str} {S_p_neighbours : Sp} (F_p_neighbours : FnE P w K mg base CX0 k_p_neighbours "neighbours" p_p_neighbours S_p_neighbours) (h_p_neighbours : k_p_neighbours ≤ k) {k_p_part_of : Nat} {p_p_part_of : List Str} {S_p_part_of : Sp} (F_p_part_of : FnE P w K mg base CX0 k_p_part_of "part_of" p_p_part_of S_p_part_of) (h_p_part_of : k_p_part_of ≤ k) {k_p_parts : Nat} {p_p_parts : List Str} {S_p_parts : Sp} (F_p_parts : FnE P w K mg base CX0 k_p_parts "parts" p_p_parts S_p_parts) (h_p_parts : k_p_parts ≤ k) {k_p_is_frame : Nat} {p_p_is_frame : List Str} {S_p_is_frame : Sp} (F_p_is_frame : FnE P w K mg base CX0 k_p_is_frame "is_frame" p_p_is_frame S_p_is_frame) (h_p_is_frame : k_p_is_frame ≤ k) {k_same : Nat} {p_same : List Str} {S_same : Sp} (F_same : FnE P w K mg base CX0 k_same "_law_same" p_same S_same) (h_same : k_same ≤ k) :
    PSs (cxOf CX P w K mg base n_by_hand_right "_law_by_hand_right" (defScope s_by_hand_right) f cdv A outer s H E).nox (defBody s_by_hand_right) (t_by_hand_right P w K S_p_put_apart S_heard S_p_neighbours S_p_part_of S_p_parts S_p_is_frame S_same) :=
    (pss_cons (ps_asg (pe_tup (pa_cons (pe_tup (pa_cons pe_int (pa_cons (pe_tup (pa_cons (pe_tup (pa_cons pe_int (pa_cons pe_int pa_nil))) (pa_cons (pe_tup (pa_cons pe_int (pa_cons pe_int pa_nil))) (pa_cons (pe_tup (pa_cons pe_int (pa_cons pe_int pa_nil))) pa_nil)))) pa_nil))) (pa_cons (pe_tup (pa_cons pe_int (pa_cons (pe_tup (pa_cons (pe_tup (pa_cons pe_int (pa_cons pe_int pa_nil))) (pa_cons (pe_tup (pa_cons pe_int (pa_cons pe_int pa_nil))) pa_nil))) pa_nil))) pa_nil))) (pg_tup rfl (pgs_cons (pg_name (i := 0) sc_by_hand_right.nd rfl (Or.inl rfl)) (pgs_cons (pg_name (i := 1) sc_by_hand_right.nd rfl (Or.inl rfl)) pgs_nil))))
    (pss_cons (ps_set (i := 2) sc_by_hand_right.nd rfl (Or.inl rfl) (pe_lst (pa_cons (pe_f F_p_parts hr (pa_cons (pv 0) pa_nil) (Nat.le_trans h_p_parts hk)) (pa_cons (pe_f F_p_parts hr (pa_cons (pv 1) pa_nil) (Nat.le_trans h_p_parts hk)) (pa_cons (pe_f F_p_part_of hr (pa_cons (pv 1) (pa_cons pe_int pa_nil)) (Nat.le_trans h_p_part_of hk)) (pa_cons (pe_f F_p_neighbours hr (pa_cons (pv 0) (pa_cons pe_int pa_nil)) (Nat.le_trans h_p_neighbours hk)) (pa_cons (pe_f F_heard hr (pa_cons pe_int (pa_cons (pv 0) (pa_cons pe_int pa_nil))) (Nat.le_trans h_heard hk)) (pa_cons (pe_f F_p_put_apart hr (pa_cons (pv 1) (pa_cons (pe_tup (pa_cons pe_int (pa_cons (pe_tup (pa_cons (pe_tup (pa_cons pe_int (pa_cons pe_int pa_nil))) pa_nil)) pa_nil))) pa_nil)) (Nat.le_trans h_p_put_apart hk)) pa_nil))))))))
    (pss_cons (ps_set (i := 3) sc_by_hand_right.nd rfl (Or.inl rfl) (pe_lst (pa_cons (pe_tup (pa_cons (pe_tup (pa_cons pe_int (pa_cons pe_int (pa_cons pe_int (pa_cons pe_int pa_nil))))) pa_nil)) (pa_cons (pe_tup (pa_cons (pe_tup (pa_cons pe_int (pa_cons pe_int pa_nil))) (pa_cons (pe_tup (pa_cons pe_int (pa_cons pe_int pa_nil))) pa_nil))) (pa_cons (pe_tup (pa_cons pe_int (pa_cons pe_int pa_nil))) (pa_cons (pe_tup (pa_cons pe_int (pa_cons pe_int pa_nil))) (pa_cons (pe_lst (pa_cons pe_str (pa_cons pe_int (pa_cons pe_bl pa_nil)))) (pa_cons (pe_tup (pa_cons pe_int (pa_cons (pe_tup (pa_cons (pe_tup (pa_cons pe_int (pa_cons pe_int pa_nil))) (pa_cons (pe_tup (pa_cons pe_int (pa_cons pe_int pa_nil))) (pa_cons (pe_tup (pa_cons pe_int (pa_cons pe_int pa_nil))) pa_nil)))) pa_nil))) pa_nil))))))))
    (pss_cons (ps_expr (pe_bm PySem.F.plainAttrs_list PySem.F.slot_list_append PySem.F.type_list_append mt_append (pv 2) (pa_cons (pe_lc (own := [("_law_own", 4)]) (g := (gName 4)) (tt := tYes) (te := (tCall S_p_is_frame [] E0 (tCons (tVar 4) tNil))) rfl sc_by_hand_right.nd (pi_seq (pe_tup (pa_cons (pv 0) (pa_cons (pe_tup (pa_cons pe_int (pa_cons (pe_tup (pa_cons (pe_tup (pa_cons pe_int (pa_cons pe_int pa_nil))) pa_nil)) pa_nil))) (pa_cons (pe_tup (pa_cons pe_int (pa_cons (pe_tup (pa_cons (pe_tup (pa_cons pe_int (pa_cons pe_int pa_nil))) pa_nil)) pa_nil))) (pa_cons (pe_tup (pa_cons pe_int (pa_cons (pe_tup (pa_cons (pe_tup (pa_cons pe_int (pa_cons pe_int pa_nil))) (pa_cons (pe_tup (pa_cons pe_int (pa_cons pe_int pa_nil))) pa_nil))) pa_nil))) (pa_cons (pe_tup (pa_cons pe_int (pa_cons (pe_tup (pa_cons (pe_tup (pa_cons pe_int (pa_cons pe_bl pa_nil))) pa_nil)) pa_nil))) pa_nil))))))) (blkOk_by (N := n_by_hand_right) (sc := defScope s_by_hand_right) (by decide +kernel)) (fun _ _ _ _ _ => (pg_name (i := 4) sc_by_hand_right.nd rfl (Or.inl rfl))) (fun _ _ _ _ _ => pts_nil) (fun _ _ _ _ _ => (pe_f F_p_is_frame hr (pa_cons (pv 4) pa_nil) (Nat.le_trans h_p_is_frame hk)))) pa_nil)))
    (pss_one (ps_ret (pe_f F_same hr (pa_cons (pv 2) (pa_cons (pe_op op_plus (pv 3) (pe_lst (pa_cons (pe_op op_plus (pe_lst (pa_cons pe_bl pa_nil)) (pe_op op_times (pe_lst (pa_cons pe_bl pa_nil)) pe_int)) pa_nil))) pa_nil)) (Nat.le_trans h_same hk))))))))
def t_law (P : Program) (w : World) (K : PySem.W.Frag) (S_cells : Sp) (S_by_hand_right : Sp) (S_right : Sp) (S_box : Sp) : TS :=
    (tSeq (tAsg (tCall S_cells [] E0 (tCons (tVar 0) (tCons (tC (.int 2)) tNil))) (gName 1))
    (tRet (tAndV (tCall S_by_hand_right [] E0 tNil) (tCB (rAll K) (tCons (tLc (iRng1 (tCons (tCB (rLen K) (tCons (tVar 1) tNil)) tNil)) (gName 2) tYes (tCall S_right [] E0 (tCons (tCall S_box [] E0 (tCons (tVar 1) (tCons (tVar 2) tNil))) tNil)) [2]) tNil)))))
theorem x_law {P : Program} {w : World} {K : PySem.W.Frag} {mg : Str → Option Value} {base : Heap} {CX : CXT} {f : Addr} {cdv : Value} {A : Around} {outer : List Env} {s : Shared} {H : Hp} {E : XK} {k r : Nat} (B : Bt mg) (hr : Room r (A.deeper (envOfC "law" (defScope s_law) s.heap.objs.size f cdv))) (hk : k ≤ r)
    {k_cells : Nat} {p_cells : List Str} {S_cells : Sp} (F_cells : FnE P w K mg base CX0 k_cells "_law_cells" p_cells S_cells) (h_cells : k_cells ≤ k) {k_by_hand_right : Nat} {p_by_hand_right : List Str} {S_by_hand_right : Sp} (F_by_hand_right : FnE P w K mg base CX0 k_by_hand_right "_law_by_hand_right" p_by_hand_right S_by_hand_right) (h_by_hand_right : k_by_hand_right ≤ k) {k_right : Nat} {p_right : List Str} {S_right : Sp} (F_right : FnE P w K mg base CX0 k_right "_law_right" p_right S_right) (h_right : k_right ≤ k) {k_box : Nat} {p_box : List Str} {S_box : Sp} (F_box : FnE P w K mg base CX0 k_box "_law_box" p_box S_box) (h_box : k_box ≤ k) :
    PSs (cxOf CX P w K mg base n_law "law" (defScope s_law) f cdv A outer s H E).nox (defBody s_law) (t_law P w K S_cells S_by_hand_right S_right S_box) :=
    (pss_cons (ps_set (i := 1) sc_law.nd rfl (Or.inr rfl) (pe_f F_cells hr (pa_cons (pv 0) (pa_cons pe_int pa_nil)) (Nat.le_trans h_cells hk)))
    (pss_one (ps_ret (pe_and (pe_f0 F_by_hand_right hr (Nat.le_trans h_by_hand_right hk)) (pe_one (pe_callB (cr_all rfl) rfl B.all bo_all (pa_cons (pe_lc (own := [("_law_k", 2)]) (g := (gName 2)) (tt := tYes) (te := (tCall S_right [] E0 (tCons (tCall S_box [] E0 (tCons (tVar 1) (tCons (tVar 2) tNil))) tNil))) rfl sc_law.nd (pi_range1 rfl B.range (pa_cons (pe_callB call_len_seq rfl B.len bo_len (pa_cons (pv 1) pa_nil)) pa_nil)) (blkOk_by (N := n_law) (sc := defScope s_law) (by decide +kernel)) (fun _ _ _ _ _ => (pg_name (i := 2) sc_law.nd rfl (Or.inl rfl))) (fun _ _ _ _ _ => pts_nil) (fun _ _ _ _ _ => (pe_f F_right hr (pa_cons (pe_f F_box hr (pa_cons (pv 1) (pa_cons (pv 2) pa_nil)) (Nat.le_trans h_box hk)) pa_nil) (Nat.le_trans h_right hk)))) pa_nil)))))))
end K3

set_option Elab.async false
set_option linter.all false
set_option maxRecDepth 100000
set_option maxHeartbeats 4000000
/-! The readings of the defs and the terms of rules. Printed by gen_walk.py. -/
namespace K3
open PySem PySem.Spec PyProof.Rows L2

def t_p_grown_from (P : Program) (w : World) (K : PySem.W.Frag) (S_p_near_in : Sp) : TS :=
    (tSeq (tPar 2 3 (tCons (tDisp (((tVar 1), (tC .non)) :: [])) (tCons (tLst (tCons (tVar 1) tNil)) tNil)))
    (tSeq (tFor (iRng1 (tCons (tOp (rIx K) (tVar 0) (tC (.int 0))) tNil)) (gName 4) (tFor (iSeq K (tSl (rSl K) (tVar 3) (tPart (tVar 4)) (tPart (tOp (rPlus K) (tVar 4) (tC (.int 1)))))) (gName 5) (tFor (iSeq K (tCall S_p_near_in [] E0 (tCons (tVar 0) (tCons (tVar 5) tNil)))) (gName 6) (tIfS (tB (tDNotInN (tVar 6) (tVar 2))) (tSeq (sDPut (tVar 2) (tVar 6) (tVar 5))
    (tDrop (tBM K "list" rAppend (tVar 3) (tCons (tVar 6) tNil)))) tNext))))
    (tRet (tVar 2))))
theorem x_p_grown_from {P : Program} {w : World} {K : PySem.W.Frag} {mg : Str → Option Value} {base : Heap} {CX : CXT} {f : Addr} {cdv : Value} {A : Around} {outer : List Env} {s : Shared} {H : Hp} {E : XK} {k r : Nat} (B : Bt mg) (hr : Room r (A.deeper (envOfC "grown_from" (defScope s_p_grown_from) s.heap.objs.size f cdv))) (hk : k ≤ r)
    {k_p_near_in : Nat} {p_p_near_in : List Str} {S_p_near_in : Sp} (F_p_near_in : FnE P w K mg base CX0 k_p_near_in "near_in" p_p_near_in S_p_near_in) (h_p_near_in : k_p_near_in ≤ k) :
    PSs (cxOf CX P w K mg base n_p_grown_from "grown_from" (defScope s_p_grown_from) f cdv A outer s H E).nox (defBody s_p_grown_from) (t_p_grown_from P w K S_p_near_in) :=
    (pss_cons (ps_par (i := 2) (j := 3) rfl sc_p_grown_from.nd rfl rfl (by decide) rfl rfl (pa_cons (pe_disp (pps_cons (pv 1) pe_non pps_nil) rfl rfl (by decide) (by decide)) (pa_cons (pe_lst (pa_cons (pv 1) pa_nil)) pa_nil)) rfl)
    (pss_cons (ps_for PassesOwn.never rfl (pi_range1 rfl B.range (pa_cons (pe_ix ix_seq (pv 0) pe_int (fun _ _ => rfl)) pa_nil)) (pg_name (i := 4) sc_p_grown_from.nd rfl (Or.inl rfl)) (pss_one (ps_for PassesOwn.never rfl (pi_seq (pe_slice sl_seq (pv 3) (po_some (pv 4)) (po_some (pe_op op_plus (pv 4) pe_int)))) (pg_name (i := 5) sc_p_grown_from.nd rfl (Or.inl rfl)) (pss_one (ps_for PassesOwn.never rfl (pi_seq (pe_f F_p_near_in hr (pa_cons (pv 0) (pa_cons (pv 5) pa_nil)) (Nat.le_trans h_p_near_in hk))) (pg_name (i := 6) sc_p_grown_from.nd rfl (Or.inl rfl)) (pss_one (ps_if (pt_cmp (pc_dnotinN hr.u1 (pv 6) (pv 2)) (by with_unfolding_all rfl)) (pss_cons (ps_dput hr.u1 (pv 2) (pv 6) (pv 5) rfl)
    (pss_one (ps_expr (pe_bm PySem.F.plainAttrs_list PySem.F.slot_list_append PySem.F.type_list_append mt_append (pv 3) (pa_cons (pv 6) pa_nil))))) pss_nil)))))))
    (pss_one (ps_ret (pv 2)))))
end K3

set_option Elab.async false
set_option linter.all false
set_option maxRecDepth 100000
set_option maxHeartbeats 4000000
/-! Walks: the judges of numbers, beams. -/
namespace K3
open PySem PySem.Spec PyProof.Rows L2
def isBoolD : PyData → Bool | .bool _ => true | _ => false
def isIntD : PyData → Bool | .bool _ => true | .int _ => true | _ => false
def isTupD : PyData → Bool | .tuple _ => true | _ => false
def isLstD : PyData → Bool | .list _ => true | _ => false
def isStrD : PyData → Bool | .str _ => true | _ => false
def numD : PyData → Bool | .int _ => true | _ => false
def cntD : PyData → Bool | .int i => decide (0 ≤ i) | _ => false
def belD (m : Int) : PyData → Bool | .int i => decide (0 ≤ i) && decide (i < m) | _ => false
def tupN (n : Int) : PyData → Bool | .tuple ds => decide ((ds.length : Int) = n) | _ => false
def ltD : PyData → PyData → Bool | .int i, .int j => decide (i < j) | _, _ => false
def beamD (m : Int) : PyData → Bool | .tuple [x, y] => belD m x && (belD m y && ltD x y) | _ => false
theorem num_int {x : PyData} (h : numD x = true) : ∃ i, x = .int i := by cases x <;> first | exact ⟨_, rfl⟩ | cases h
theorem cnt_int {x : PyData} (h : cntD x = true) : ∃ i, x = .int i := by cases x <;> first | exact ⟨_, rfl⟩ | cases h
theorem bel_int {m : Int} {x : PyData} (h : belD m x = true) : ∃ i, x = .int i ∧ 0 ≤ i ∧ i < m := by
  cases x <;> first | cases h | skip
  rename_i i
  have z : (decide (0 ≤ i) && decide (i < m)) = true := h
  simp at z
  exact ⟨i, rfl, z⟩
theorem tup_tup {x : PyData} (h : isTupD x = true) : ∃ ds, x = .tuple ds := by cases x <;> first | exact ⟨_, rfl⟩ | cases h
theorem pair_or (x : PyData) : (∃ y z, x = .tuple [y, z]) ∨ tupN 2 x = false := by
  cases x <;> first | exact .inr rfl | skip
  rename_i ds
  match ds with
  | [] => exact .inr rfl
  | [_] => exact .inr rfl
  | [y, z] => exact .inl ⟨y, z, rfl⟩
  | a :: b :: c :: r => exact .inr (show decide (((a :: b :: c :: r : List PyData).length : Int) = 2) = false from decide_eq_false (by simp only [List.length_cons]; omega))
theorem beam_no {m : Int} {x : PyData} (h : tupN 2 x = false) : beamD m x = false := by
  unfold beamD
  split
  · exact absurd h (by simp [tupN])
  · rfl
theorem rd_eqI {i j : Int} : RvD rEq (.int i) (.int j) (.bool (decide (i = j))) := fun G H v w s hv hw Q q => by
  rw [hv.of_int, hw.of_int]
  refine ⟨rfl, q _ G H (Gro.refl s) ?_⟩
  have e : decide (V.int i = V.int j) = decide (i = j) := by simp
  rw [e]
  exact .bl _
theorem at0 {x y : PyData} : atI [x, y] 0 = some x := rfl
theorem at1 {x y : PyData} : atI [x, y] 1 = some y := rfl
section
variable {P : Program} {w : World} {K : PySem.W.Frag} {mg : Str → Option Value} {base : Heap}
theorem kit_bool (d : PyData) : kitB (tyD d) "bool" = some (isBoolD d) := by
  cases d
  · exact (show kitB "NoneType" "bool" = some false by decide +kernel)
  · exact (show kitB "bool" "bool" = some true by decide +kernel)
  · exact (show kitB "int" "bool" = some false by decide +kernel)
  · exact (show kitB "str" "bool" = some false by decide +kernel)
  · exact (show kitB "list" "bool" = some false by decide +kernel)
  · exact (show kitB "tuple" "bool" = some false by decide +kernel)
  · exact (show kitB "dict" "bool" = some false by decide +kernel)
theorem kit_int (d : PyData) : kitB (tyD d) "int" = some (isIntD d) := by
  cases d
  · exact (show kitB "NoneType" "int" = some false by decide +kernel)
  · exact (show kitB "bool" "int" = some true by decide +kernel)
  · exact (show kitB "int" "int" = some true by decide +kernel)
  · exact (show kitB "str" "int" = some false by decide +kernel)
  · exact (show kitB "list" "int" = some false by decide +kernel)
  · exact (show kitB "tuple" "int" = some false by decide +kernel)
  · exact (show kitB "dict" "int" = some false by decide +kernel)
theorem kit_tuple (d : PyData) : kitB (tyD d) "tuple" = some (isTupD d) := by
  cases d
  · exact (show kitB "NoneType" "tuple" = some false by decide +kernel)
  · exact (show kitB "bool" "tuple" = some false by decide +kernel)
  · exact (show kitB "int" "tuple" = some false by decide +kernel)
  · exact (show kitB "str" "tuple" = some false by decide +kernel)
  · exact (show kitB "list" "tuple" = some false by decide +kernel)
  · exact (show kitB "tuple" "tuple" = some true by decide +kernel)
  · exact (show kitB "dict" "tuple" = some false by decide +kernel)
theorem kit_list (d : PyData) : kitB (tyD d) "list" = some (isLstD d) := by
  cases d
  · exact (show kitB "NoneType" "list" = some false by decide +kernel)
  · exact (show kitB "bool" "list" = some false by decide +kernel)
  · exact (show kitB "int" "list" = some false by decide +kernel)
  · exact (show kitB "str" "list" = some false by decide +kernel)
  · exact (show kitB "list" "list" = some true by decide +kernel)
  · exact (show kitB "tuple" "list" = some false by decide +kernel)
  · exact (show kitB "dict" "list" = some false by decide +kernel)
theorem kit_str (d : PyData) : kitB (tyD d) "str" = some (isStrD d) := by
  cases d
  · exact (show kitB "NoneType" "str" = some false by decide +kernel)
  · exact (show kitB "bool" "str" = some false by decide +kernel)
  · exact (show kitB "int" "str" = some false by decide +kernel)
  · exact (show kitB "str" "str" = some true by decide +kernel)
  · exact (show kitB "list" "str" = some false by decide +kernel)
  · exact (show kitB "tuple" "str" = some false by decide +kernel)
  · exact (show kitB "dict" "str" = some false by decide +kernel)
/-- isinstance(e, T) -/
theorem ed_isInt {σ : L2.St} {G : Hp} {ta : TE} {d : PyData} (h : EvD ta σ G d) : EvD (tCB (rIsi K) (tCons ta (tCons (tC (.ty "int")) tNil))) σ G (.bool (isIntD d)) := ed_isi h (kit_int d)
theorem ed_isBool {σ : L2.St} {G : Hp} {ta : TE} {d : PyData} (h : EvD ta σ G d) : EvD (tCB (rIsi K) (tCons ta (tCons (tC (.ty "bool")) tNil))) σ G (.bool (isBoolD d)) := ed_isi h (kit_bool d)
theorem ed_isTuple {σ : L2.St} {G : Hp} {ta : TE} {d : PyData} (h : EvD ta σ G d) : EvD (tCB (rIsi K) (tCons ta (tCons (tC (.ty "tuple")) tNil))) σ G (.bool (isTupD d)) := ed_isi h (kit_tuple d)
def pre_num : List PyData → PyData → Prop := fun ds d => ∃ x, ds = [x] ∧ d = .bool (numD x)
theorem w_is_number (B : Bt mg) (D : Def K mg "is_number" s_p_is_number) : FnE P w K mg base CX0 1 "is_number" ["thing"] (spF pre_num) := by
  refine D.pure b_p_is_number sc_p_is_number (fun ds d ⟨x, e, _⟩ => by rw [e]; rfl) fun f cdv A outer s H E G vs ds d hr hv hp => ?_
  obtain ⟨x, rfl, rfl⟩ := hp
  obtain ⟨v, rfl, hx⟩ := hv.one
  refine ⟨_, pss_one (ps_ret (pe_and (pe_callB call_isi rfl B.isi bo_isi (pa_cons (pv 0) (pa_cons (pe_ty rfl B.int bo_int) pa_nil)))
    (pe_one (pe_not (pe_callB call_isi rfl B.isi bo_isi (pa_cons (pv 0) (pa_cons (pe_ty rfl B.bool bo_bool) pa_nil))))))), ?_⟩
  refine rd_ret (ed_is (ed_andV (ed_isInt (ed_var rfl hx)) fun _ => ed_notV (ed_isBool (ed_var rfl hx))) ?_)
  cases x <;> rfl
def pre_cnt : List PyData → PyData → Prop := fun ds d => ∃ x, ds = [x] ∧ d = .bool (cntD x)
theorem w_is_count (F1 : FnE P w K mg base CX0 1 "is_number" ["thing"] (spF pre_num)) (D : Def K mg "is_count" s_p_is_count) : FnE P w K mg base CX0 2 "is_count" ["thing"] (spF pre_cnt) := by
  refine D.pure b_p_is_count sc_p_is_count (fun ds d ⟨x, e, _⟩ => by rw [e]; rfl) fun f cdv A outer s H E G vs ds d hr hv hp => ?_
  obtain ⟨x, rfl, rfl⟩ := hp
  obtain ⟨v, rfl, hx⟩ := hv.one
  refine ⟨_, pss_one (ps_ret (pe_and (pe_f F1 hr (pa_cons (pv 0) pa_nil)) (pe_one (pe_cmpR op_ge (pv 0) pe_int (nomark _))))), ?_⟩
  refine rd_ret (ed_is (ed_andV (b := cntD x) (ed_call (ea_cons (ed_var rfl hx) ea_nil) ⟨x, rfl, rfl⟩) fun c => ?_) ?_)
  · obtain ⟨i, rfl⟩ := num_int c
    exact ed_op (ed_var rfl hx) ed_int rd_I0b
  · cases x <;> rfl
def pre_bel : List PyData → PyData → Prop := fun ds d => ∃ x m, ds = [x, .int m] ∧ d = .bool (belD m x)
theorem w_is_below (F1 : FnE P w K mg base CX0 2 "is_count" ["thing"] (spF pre_cnt)) (D : Def K mg "is_below" s_p_is_below) : FnE P w K mg base CX0 3 "is_below" ["thing", "many"] (spF pre_bel) := by
  refine D.pure b_p_is_below sc_p_is_below (fun ds d ⟨x, m, e, _⟩ => by rw [e]; rfl) fun f cdv A outer s H E G vs ds d hr hv hp => ?_
  obtain ⟨x, m, rfl, rfl⟩ := hp
  obtain ⟨v, u, rfl, hx, hm⟩ := hv.two
  refine ⟨_, pss_one (ps_ret (pe_and (pe_f F1 hr (pa_cons (pv 0) pa_nil)) (pe_one (pe_cmpR op_lt (pv 0) (pv 1) (nomark _))))), ?_⟩
  refine rd_ret (ed_is (ed_andV (b := match x with | .int i => decide (i < m) | _ => false) (ed_call (ea_cons (ed_var rfl hx) ea_nil) ⟨x, rfl, rfl⟩) fun c => ?_) ?_)
  · obtain ⟨i, rfl⟩ := cnt_int c
    exact ed_op (ed_var rfl hx) (ed_var rfl hm) rd_I0b
  · cases x <;> rfl
def pre_tupN : List PyData → PyData → Prop := fun ds d => ∃ x m, ds = [x, .int m] ∧ d = .bool (tupN m x)
theorem w_is_tuple_of (B : Bt mg) (D : Def K mg "is_tuple_of" s_p_is_tuple_of) : FnE P w K mg base CX0 1 "is_tuple_of" ["thing", "size"] (spF pre_tupN) := by
  refine D.pure b_p_is_tuple_of sc_p_is_tuple_of (fun ds d ⟨x, m, e, _⟩ => by rw [e]; rfl) fun f cdv A outer s H E G vs ds d hr hv hp => ?_
  obtain ⟨x, m, rfl, rfl⟩ := hp
  obtain ⟨v, u, rfl, hx, hm⟩ := hv.two
  refine ⟨_, pss_one (ps_ret (pe_and (pe_callB call_isi rfl B.isi bo_isi (pa_cons (pv 0) (pa_cons (pe_ty rfl B.tuple bo_tuple) pa_nil))) (pe_one (pe_cmpR op_eq (pe_callB call_len_seq rfl B.len bo_len (pa_cons (pv 0) pa_nil)) (pv 1) (nomark _))))), ?_⟩
  refine rd_ret (ed_is (ed_andV (b := tupN m x) (ed_isTuple (ed_var rfl hx)) fun c => ?_) ?_)
  · obtain ⟨es, rfl⟩ := tup_tup c
    exact ed_op (ed_cb (ea_cons (ed_var rfl hx) ea_nil) rd_lenT) (ed_var rfl hm) rd_eqI
  · cases x <;> rfl
def pre_beam : List PyData → PyData → Prop := fun ds d => ∃ x m, ds = [x, .int m] ∧ d = .bool (beamD m x)
theorem w_is_beam_among (F1 : FnE P w K mg base CX0 1 "is_tuple_of" ["thing", "size"] (spF pre_tupN)) (F2 : FnE P w K mg base CX0 3 "is_below" ["thing", "many"] (spF pre_bel)) (D : Def K mg "is_beam_among" s_p_is_beam_among) :
    FnE P w K mg base CX0 4 "is_beam_among" ["thing", "many"] (spF pre_beam) := by
  refine D.pure b_p_is_beam_among sc_p_is_beam_among (fun ds d ⟨x, m, e, _⟩ => by rw [e]; rfl) fun f cdv A outer s H E G vs ds d hr hv hp => ?_
  obtain ⟨x, m, rfl, rfl⟩ := hp
  obtain ⟨v, u, rfl, hx, hm⟩ := hv.two
  refine ⟨_, pss_one (ps_ret (pe_and (pe_f F1 hr (pa_cons (pv 0) (pa_cons pe_int pa_nil))) (pe_and (pe_f F2 hr (pa_cons (pe_ix ix_tup (pv 0) pe_int (fun _ _ => rfl)) (pa_cons (pv 1) pa_nil)))
    (pe_and (pe_f F2 hr (pa_cons (pe_ix ix_tup (pv 0) pe_int (fun _ _ => rfl)) (pa_cons (pv 1) pa_nil))) (pe_one (pe_cmpR op_lt (pe_ix ix_tup (pv 0) pe_int (fun _ _ => rfl)) (pe_ix ix_tup (pv 0) pe_int (fun _ _ => rfl)) (nomark _))))))), ?_⟩
  rcases pair_or x with ⟨y, z, rfl⟩ | hn
  · refine rd_ret (ed_is (ed_andV (ed_call (ea_cons (ed_var rfl hx) (ea_cons ed_int ea_nil)) ⟨_, _, rfl, rfl⟩) fun _ => ed_andV (ed_call (ea_cons (ed_op (ed_var rfl hx) ed_int (rd_ixT at0)) (ea_cons (ed_var rfl hm) ea_nil)) ⟨y, m, rfl, rfl⟩) fun c1 =>
      ed_andV (b := ltD y z) (ed_call (ea_cons (ed_op (ed_var rfl hx) ed_int (rd_ixT at1)) (ea_cons (ed_var rfl hm) ea_nil)) ⟨z, m, rfl, rfl⟩) fun c2 => ?_) ?_)
    · obtain ⟨i, rfl, _⟩ := bel_int c1
      obtain ⟨j, rfl, _⟩ := bel_int c2
      exact ed_op (ed_op (ed_var rfl hx) ed_int (rd_ixT at0)) (ed_op (ed_var rfl hx) ed_int (rd_ixT at1)) rd_I0b
    · rfl
  · refine rd_ret (ed_is (ed_andV (b := false) (ed_call (ea_cons (ed_var rfl hx) (ea_cons ed_int ea_nil)) ⟨_, _, rfl, rfl⟩) fun c => ?_) ?_)
    · rw [hn] at c; cases c
    · rw [hn, beam_no hn]; rfl
/-! the law's own -/
theorem w_l_is_number (B : Bt mg) (D : Def K mg "_law_is_number" s_is_number) : FnE P w K mg base CX0 1 "_law_is_number" ["_law_own"] (spF pre_num) := by
  refine D.pure b_is_number sc_is_number (fun ds d ⟨x, e, _⟩ => by rw [e]; rfl) fun f cdv A outer s H E G vs ds d hr hv hp => ?_
  obtain ⟨x, rfl, rfl⟩ := hp
  obtain ⟨v, rfl, hx⟩ := hv.one
  refine ⟨_, pss_one (ps_ret (pe_and (pe_callB call_isi rfl B.isi bo_isi (pa_cons (pv 0) (pa_cons (pe_ty rfl B.int bo_int) pa_nil)))
    (pe_one (pe_not (pe_callB call_isi rfl B.isi bo_isi (pa_cons (pv 0) (pa_cons (pe_ty rfl B.bool bo_bool) pa_nil))))))), ?_⟩
  refine rd_ret (ed_is (ed_andV (ed_isInt (ed_var rfl hx)) fun _ => ed_notV (ed_isBool (ed_var rfl hx))) ?_)
  cases x <;> rfl
def pairD : PyData → Bool | .tuple [x, y] => numD x && numD y | _ => false
theorem pair_no {x : PyData} (h : tupN 2 x = false) : pairD x = false := by
  unfold pairD
  split
  · exact absurd h (by simp [tupN])
  · rfl
def pre_pair : List PyData → PyData → Prop := fun ds d => ∃ x, ds = [x] ∧ d = .bool (pairD x)
theorem w_l_is_pair (B : Bt mg) (F1 : FnE P w K mg base CX0 1 "_law_is_number" ["_law_own"] (spF pre_num)) (D : Def K mg "_law_is_pair" s_is_pair) : FnE P w K mg base CX0 2 "_law_is_pair" ["_law_own"] (spF pre_pair) := by
  refine D.pure b_is_pair sc_is_pair (fun ds d ⟨x, e, _⟩ => by rw [e]; rfl) fun f cdv A outer s H E G vs ds d hr hv hp => ?_
  obtain ⟨x, rfl, rfl⟩ := hp
  obtain ⟨v, rfl, hx⟩ := hv.one
  refine ⟨_, pss_one (ps_ret (pe_and (pe_callB call_isi rfl B.isi bo_isi (pa_cons (pv 0) (pa_cons (pe_ty rfl B.tuple bo_tuple) pa_nil))) (pe_and (pe_cmpR op_eq (pe_callB call_len_seq rfl B.len bo_len (pa_cons (pv 0) pa_nil)) pe_int (nomark _))
    (pe_and (pe_f F1 hr (pa_cons (pe_ix ix_tup (pv 0) pe_int (fun _ _ => rfl)) pa_nil)) (pe_one (pe_f F1 hr (pa_cons (pe_ix ix_tup (pv 0) pe_int (fun _ _ => rfl)) pa_nil))))))), ?_⟩
  rcases pair_or x with ⟨y, z, rfl⟩ | hn
  · exact rd_ret (ed_is (ed_andV (ed_isTuple (ed_var rfl hx)) fun _ => ed_andV (ed_op (ed_cb (ea_cons (ed_var rfl hx) ea_nil) rd_lenT) ed_int rd_eqI) fun _ => ed_andV (ed_call (ea_cons (ed_op (ed_var rfl hx) ed_int (rd_ixT at0)) ea_nil) ⟨y, rfl, rfl⟩) fun _ =>
      ed_call (ea_cons (ed_op (ed_var rfl hx) ed_int (rd_ixT at1)) ea_nil) ⟨z, rfl, rfl⟩) rfl)
  · refine rd_ret (ed_is (ed_andV (b := false) (ed_isTuple (ed_var rfl hx)) fun c => ?_) ?_)
    · obtain ⟨es, rfl⟩ := tup_tup c
      exact ed_is (ed_andV (b := false) (ed_op (ed_cb (ea_cons (ed_var rfl hx) ea_nil) rd_lenT) ed_int rd_eqI) fun c => absurd (show tupN 2 (.tuple es) = true from c) (by rw [hn]; decide)) (by simp)
    · rw [pair_no hn]; simp
def lbeamD (m : Int) : PyData → Bool | .tuple [.int i, .int j] => decide (0 ≤ i) && (decide (i < j) && decide (j < m)) | _ => false
def pre_lbeam : List PyData → PyData → Prop := fun ds d => ∃ x m, ds = [x, .int m] ∧ d = .bool (lbeamD m x)
theorem pair_ints {x : PyData} (h : pairD x = true) : ∃ i j, x = .tuple [.int i, .int j] := by
  unfold pairD at h
  split at h
  · rename_i y z
    simp at h
    obtain ⟨i, rfl⟩ := num_int h.1
    obtain ⟨j, rfl⟩ := num_int h.2
    exact ⟨i, j, rfl⟩
  · cases h
theorem lbeam_no {m : Int} {x : PyData} (h : pairD x = false) : lbeamD m x = false := by
  unfold lbeamD
  split
  · exact absurd h (by simp [pairD, numD])
  · rfl
theorem ed_chain3 {r r' r'' : R2} {σ : L2.St} {G : Hp} {ta tb tc td : TE} {x y z u : PyData} {a b c : Bool} (h1 : EvD ta σ G x) (h2 : EvD tb σ G y) (h3 : EvD tc σ G z) (h4 : EvD td σ G u) (k1 : RvD r x y (.bool a)) (k2 : RvD r' y z (.bool b)) (k3 : RvD r'' z u (.bool c)) :
    EvD (tChain3 r r' r'' ta tb tc td) σ G (.bool (a && (b && c))) := fun H s Q q => h1 H s _ fun v1 G1 H1 a1 d1 => (h2.mono a1.g) H1 a1.s _ fun v2 G2 H2 a2 d2 => k1 G2 H2 v1 v2 a2.s (d1.mono a2.g) d2 _ fun u1 G3 H3 a3 e1 => ⟨a, e1.of_bool, by
  have b3 := (a1.trans a2).trans a3
  cases a with
  | false => exact ite2 (fun c => nomatch c) (fun _ => q _ G3 H3 b3 (.bl false))
  | true =>
    refine ite2 (fun _ => ?_) (fun c => absurd rfl c)
    refine (h3.mono b3.g) H3 a3.s _ fun v3 G4 H4 a4 d3 => k2 G4 H4 v2 v3 a4.s (d2.mono (a3.g.trans a4.g)) d3 _ fun u2 G5 H5 a5 e2 => ⟨b, e2.of_bool, ?_⟩
    have b5 := (b3.trans a4).trans a5
    cases b with
    | false => exact ite2 (fun c => nomatch c) (fun _ => q _ G5 H5 b5 (.bl false))
    | true =>
      refine ite2 (fun _ => ?_) (fun c => absurd rfl c)
      exact (h4.mono b5.g) H5 a5.s _ fun v4 G6 H6 a6 d4 => k3 G6 H6 v3 v4 a6.s (d3.mono (a5.g.trans a6.g)) d4 _ fun u3 G7 H7 a7 e3 => q _ G7 H7 ((b5.trans a6).trans a7) e3⟩
theorem w_l_is_beam (F1 : FnE P w K mg base CX0 2 "_law_is_pair" ["_law_own"] (spF pre_pair)) (D : Def K mg "_law_is_beam" s_is_beam) : FnE P w K mg base CX0 3 "_law_is_beam" ["_law_own", "_law_many_so"] (spF pre_lbeam) := by
  refine D.pure b_is_beam sc_is_beam (fun ds d ⟨x, m, e, _⟩ => by rw [e]; rfl) fun f cdv A outer s H E G vs ds d hr hv hp => ?_
  obtain ⟨x, m, rfl, rfl⟩ := hp
  obtain ⟨v, u, rfl, hx, hm⟩ := hv.two
  refine ⟨_, pss_one (ps_ret (pe_and (pe_f F1 hr (pa_cons (pv 0) pa_nil)) (pe_one (pe_chain3 op_le op_lt op_lt pe_int (pe_ix ix_tup (pv 0) pe_int (fun _ _ => rfl)) (pe_ix ix_tup (pv 0) pe_int (fun _ _ => rfl)) (pv 1))))), ?_⟩
  cases hp : pairD x with
  | true =>
    obtain ⟨i, j, rfl⟩ := pair_ints hp
    exact rd_ret (ed_is (ed_andV (ed_call (ea_cons (ed_var rfl hx) ea_nil) ⟨_, rfl, rfl⟩) fun _ => ed_chain3 ed_int (ed_op (ed_var rfl hx) ed_int (rd_ixT at0)) (ed_op (ed_var rfl hx) ed_int (rd_ixT at1)) (ed_var rfl hm) rd_I0b rd_I0b rd_I0b) rfl)
  | false =>
    refine rd_ret (ed_is (ed_andV (b := false) (ed_call (ea_cons (ed_var rfl hx) ea_nil) ⟨_, rfl, rfl⟩) fun c => ?_) ?_)
    · rw [hp] at c; cases c
    · rw [lbeam_no hp]; simp
theorem lbeam_eq (m : Int) (x : PyData) : lbeamD m x = beamD m x := by
  rcases pair_or x with ⟨y, z, rfl⟩ | hn
  · cases y <;> cases z <;> simp [lbeamD, beamD, belD, ltD]
    rename_i i j
    by_cases a : 0 ≤ i <;> by_cases b : i < j <;> by_cases c : j < m <;> simp [a, b, c] <;> omega
  · rw [beam_no hn]
    unfold lbeamD
    split
    · exact absurd hn (by simp [tupN])
    · rfl
end
end K3

set_option Elab.async false
set_option linter.all false
set_option maxRecDepth 100000
set_option maxHeartbeats 4000000
/-! Walks: set_of, jacks_of, ascends. -/
namespace K3
open PySem PySem.Spec PyProof.Rows L2
section
variable {P : Program} {w : World} {K : PySem.W.Frag} {mg : Str → Option Value} {base : Heap}
/-- sorted(set(list of ints)) -/
theorem ed_sset {σ : L2.St} {G : Hp} {ta : TE} {ns : List Int} (h : EvD ta σ G (.list (intsD ns))) (hn : ns.length < 64) : EvD (tCB (rSortedSet w) (tCons (tCB (rSetI K w) (tCons ta tNil)) tNil)) σ G (.list (intsD (normI ns))) := fun H s Q q =>
  h H s _ fun v G1 H1 a1 hv => by
    obtain ⟨a, xs, rfl, ea, hx⟩ := hv.of_list
    have e := hx.intsD
    subst e
    refine ⟨a, ns, rfl, SqL.of (a1.s _ _ ea), by omega, fun p c hp hc => ?_⟩
    refine ⟨p, _, c, rfl, upd_same, by omega, fun ms r hs hm hl hr => ?_⟩
    have e : ms = normI ns := norm_uniq hs fun z => by rw [hm z]; exact decide_eq_true_iff
    subst e
    have a2 : Gro G1 H1 G1 (upd H1 p (SetO w p (fun j => decide (j ∈ ns)) c)) := Gro.loc a1.s hp
    exact q (.ref r) (upd G1 r _) _ ((a1.trans a2).trans (Gro.new a2.s hr)) (Da.mk_l upd_same DaL.of_ints)
def pre_setof : List PyData → PyData → Prop := fun ds d => ∃ ns : List Int, ds = [.list (intsD ns)] ∧ ns.length < 64 ∧ d = .tuple (intsD (normI ns))
theorem w_set_of (B : Bt mg) (D : Def K mg "set_of" s_p_set_of) : FnE P w K mg base CX0 1 "set_of" ["things"] (spF pre_setof) := by
  refine D.pure b_p_set_of sc_p_set_of (fun ds d ⟨x, e, _⟩ => by rw [e]; rfl) fun f cdv A outer s H E G vs ds d hr hv hp => ?_
  obtain ⟨ns, rfl, hn, rfl⟩ := hp
  obtain ⟨v, rfl, hx⟩ := hv.one
  refine ⟨_, pss_one (ps_ret (pe_callTy call_tuple_of rfl B.tuple bo_tuple (pa_cons (pe_callB (cr_sortedSet rfl) rfl B.sorted bo_sorted (pa_cons (pe_callTy (cr_setI rfl) rfl B.set bo_set (pa_cons (pv 0) pa_nil)) pa_nil)) pa_nil))), ?_⟩
  exact rd_ret (ed_cb (ea_cons (ed_sset (ed_var rfl hx) hn) ea_nil) rd_tupL)
/-- a pair of ints as data -/
def encI (b : Int × Int) : PyData := .tuple [.int b.1, .int b.2]
def flatI (bs : List (Int × Int)) : List Int := bs.flatMap fun b => [b.1, b.2]
theorem flatI_len : ∀ bs : List (Int × Int), (flatI bs).length = 2 * bs.length
  | [] => rfl
  | b :: r => by
    have := flatI_len r
    unfold flatI at this ⊢
    rw [List.flatMap_cons, List.length_append, this]
    simp only [List.length_cons, List.length_nil]
    omega
theorem flatI_snoc (bs : List (Int × Int)) (b : Int × Int) : flatI (bs ++ [b]) = flatI bs ++ [b.1, b.2] := by
  unfold flatI
  rw [List.flatMap_append]
  simp
def pre_jacks : List PyData → PyData → Prop := fun ds d => ∃ bs : List (Int × Int), ds = [.tuple (bs.map encI)] ∧ bs.length < 32 ∧ d = .tuple (intsD (normI (flatI bs)))
theorem map_snoc {α β : Type} {f : α → β} {l : List α} {a : α} : l.map f ++ [f a] = (l ++ [a]).map f := by simp
theorem take_snoc {α : Type} {l : List α} {i : Nat} {a : α} (h : l[i]? = some a) : l.take (i + 1) = l.take i ++ [a] := by rw [List.take_succ, h]; rfl
theorem map_at {α β : Type} {f : α → β} {l : List α} {i : Nat} {b : β} (h : (l.map f)[i]? = some b) : ∃ a, l[i]? = some a ∧ b = f a := by
  rw [List.getElem?_map] at h
  cases q : l[i]? with
  | none => rw [q] at h; cases h
  | some a => rw [q] at h; exact ⟨a, rfl, (Option.some.inj h).symm⟩
theorem encI_da {G : Hp} {v : V} {b : Int × Int} (h : Da G v (encI b)) : ∃ a, v = .ref a ∧ G a = some (.tup [.int b.1, .int b.2]) := by
  obtain ⟨a, xs, rfl, e, hx⟩ := h.of_tup
  obtain ⟨u, w, rfl, h1, h2⟩ := hx.two
  rw [h1.of_int, h2.of_int] at e
  exact ⟨a, rfl, e⟩
theorem w_jacks_of (F1 : FnE P w K mg base CX0 1 "set_of" ["things"] (spF pre_setof)) (D : Def K mg "jacks_of" s_p_jacks_of) : FnE P w K mg base CX0 2 "jacks_of" ["beams"] (spF pre_jacks) := by
  refine D.pure b_p_jacks_of sc_p_jacks_of (fun ds d ⟨x, e, _⟩ => by rw [e]; rfl) fun f cdv A outer s H E G vs ds d hr hv hp => ?_
  obtain ⟨bs, rfl, hn, rfl⟩ := hp
  obtain ⟨v, rfl, hx⟩ := hv.one
  refine ⟨_, pss_cons (ps_set (i := 1) sc_p_jacks_of.nd rfl (Or.inl rfl) (pe_lst pa_nil)) (pss_cons (ps_for PassesOwn.never rfl (pi_tup (pv 0)) (pg_name (i := 2) sc_p_jacks_of.nd rfl (Or.inl rfl))
    (pss_one (ps_expr (pe_bm PySem.F.plainAttrs_list PySem.F.slot_list_extend PySem.F.type_list_extend mt_extT (pv 1) (pa_cons (pv 2) pa_nil)))))
    (pss_one (ps_ret (pe_f F1 hr (pa_cons (pv 1) pa_nil))))), ?_⟩
  intro H0 s0 D q
  refine ⟨sz_of (show 0 ≤ 100000 by decide), fun p hp => ?_⟩
  have hG0 : G p = none := s0.free hp
  refine for_D (sd_tup (ed_var rfl hx)) (s0.trans (same_upd hp)) fun G1 H1 a1 => ?_
  refine ⟨fun i σ' G' H' => ∃ o, σ' = [some v, some (.ref p), o] ∧ Gro G H0 G' H' ∧ Same G1 G' ∧ G' p = none ∧ H' p = some (.lst ((flatI (bs.take i)).map V.int)), ?_, ?_, ?_, ?_⟩
  · exact ⟨none, rfl, (Gro.loc s0 hp).trans a1, Same.refl _, a1.out hG0 upd_same, a1.k _ _ upd_same⟩
  · rintro i σ' G' H' ⟨o, rfl, a, s1, h1, h2⟩
    exact ⟨s1, a.s⟩
  · rintro i d x σ' G' H' G2 H2 hd ⟨o, rfl, a, s1, h1, h2⟩ a2 hx2
    obtain ⟨b, hb, rfl⟩ := map_at hd
    obtain ⟨r, rfl, hr2⟩ := encI_da hx2
    have h2' := a2.k _ _ h2
    refine ⟨_, rfl, .inl ⟨rfl, _, SqL.of h2'⟩, _, rfl, ⟨p, r, _, _, rfl, rfl, h2', SqT.of (a2.s _ _ hr2), ?_, G2, _, rfl, (a.trans a2).mut hp (a2.out h1 h2), s1.trans a2.g, a2.out h1 h2, ?_⟩⟩
    · have z := flatI_len (bs.take i)
      rw [List.length_take] at z
      rw [List.length_map, z]
      exact sz_of (by simp only [List.length_cons, List.length_nil]; omega)
    · rw [upd_same, take_snoc hb, flatI_snoc]
      simp
  · rintro σ' G' H' ⟨o, rfl, a, s1, h1, h2⟩
    rw [List.length_map, List.take_length] at h2
    have a' := a.join hp h1 h2
    refine rd_ret (d := .tuple (intsD (normI (flatI bs)))) (ed_call (pre := pre_setof) (E := E0) (ea_cons (ed_var rfl (Da.mk_l upd_same DaL.of_ints)) ea_nil) ⟨flatI bs, rfl, by rw [flatI_len]; omega, rfl⟩) H' a'.s D fun v G2 H2 a2 hv2 => q v G2 H2 (a'.trans a2) hv2
end
end K3

set_option Elab.async false
set_option linter.all false
set_option maxRecDepth 100000
set_option maxHeartbeats 4000000
/-! Walks: ascends, is_frame. -/
namespace K3
open PySem PySem.Spec PyProof.Rows L2
def toP : PyData → Int × Int | .tuple [.int i, .int j] => (i, j) | _ => (0, 0)
theorem toP_enc (b : Int × Int) : toP (encI b) = b := rfl
theorem enc_of_beam {m : Int} {d : PyData} (h : beamD m d = true) : d = encI (toP d) ∧ 0 ≤ (toP d).1 ∧ (toP d).1 < (toP d).2 ∧ (toP d).2 < m := by
  rw [← lbeam_eq] at h
  unfold lbeamD at h
  split at h
  · simp at h
    exact ⟨rfl, h.1, h.2.1, h.2.2⟩
  · cases h
theorem encs_of_beams {m : Int} : ∀ {ds : List PyData}, ds.all (beamD m) = true → ds = (ds.map toP).map encI
  | [], _ => rfl
  | d :: ds, h => by
    rw [List.all_cons, Bool.and_eq_true] at h
    rw [List.map_cons, List.map_cons, ← (enc_of_beam h.1).1, ← encs_of_beams h.2]
def ltP (b c : Int × Int) : Bool := HT.lexLt [b.1, b.2] [c.1, c.2]
def ascI (bs : List (Int × Int)) : Bool := ((bs.zip (bs.drop 1)).map fun p => ltP p.1 p.2).all id
def isFr : PyData → Bool
  | .tuple [.int n, .tuple bs] => decide (2 ≤ n) && (bs.all (beamD n) && (ascI (bs.map toP) && decide (((normI (flatI (bs.map toP))).length : Int) = n)))
  | _ => false
theorem isFr_eq {n : Int} {bs : List PyData} : isFr (.tuple [.int n, .tuple bs]) = (decide (2 ≤ n) && (bs.all (beamD n) && (ascI (bs.map toP) && decide (((normI (flatI (bs.map toP))).length : Int) = n)))) := rfl
/-- the beams of what may be a frame -/
def beamsOf : PyData → List PyData | .tuple [_, .tuple bs] => bs | _ => []
section
variable {P : Program} {w : World} {K : PySem.W.Frag} {mg : Str → Option Value} {base : Heap}
theorem rd_ltT {b c : Int × Int} : RvD (rLtT K) (encI b) (encI c) (.bool (ltP b c)) := fun G H v w s hv hw Q q => by
  obtain ⟨a, rfl, e1⟩ := encI_da hv
  obtain ⟨r, rfl, e2⟩ := encI_da hw
  exact ⟨a, r, [b.1, b.2], [c.1, c.2], rfl, rfl, SqT.of (s _ _ e1), SqT.of (s _ _ e2), q _ G H (Gro.refl s) (.bl _)⟩
theorem zip_mem {bs cs : List (Int × Int)} {d : PyData} (h : d ∈ zipD (bs.map encI) (cs.map encI)) : ∃ b c, d = .tuple [encI b, encI c] := by
  obtain ⟨i, hi⟩ := List.mem_iff_getElem?.mp h
  obtain ⟨x, y, h1, h2, rfl⟩ := zipD_at hi
  obtain ⟨b, _, rfl⟩ := map_at h1
  obtain ⟨c, _, rfl⟩ := map_at h2
  exact ⟨b, c, rfl⟩
theorem zipD_map {bs cs : List (Int × Int)} : zipD (bs.map encI) (cs.map encI) = (bs.zip cs).map fun p => .tuple [encI p.1, encI p.2] := by
  unfold zipD
  rw [List.zip_map, List.map_map]
  rfl
theorem cut_one {ds : List PyData} : cutD ds (some 1) none = ds.drop 1 := by
  unfold cutD
  have e1 : HT.sIx ds.length 0 (some 1) = min 1 ds.length := by
    unfold HT.sIx
    first | rfl | (simp; omega) | skip
  have e2 : HT.sIx ds.length ds.length none = ds.length := rfl
  rw [e1, e2]
  match ds with
  | [] => rfl
  | d :: r =>
    have e : min 1 (d :: r).length = 1 := by simp only [List.length_cons]; omega
    rw [e]
    simp
def ltF : PyData → PyData | .tuple [x, y] => .bool (ltP (toP x) (toP y)) | _ => .bool false
def pre_asc : List PyData → PyData → Prop := fun ds d => ∃ bs : List (Int × Int), ds = [.tuple (bs.map encI)] ∧ bs.length ≤ 1000 ∧ d = .bool (ascI bs)
theorem w_ascends (B : Bt mg) (D : Def K mg "ascends" s_p_ascends) : FnE P w K mg base CX0 2 "ascends" ["thing"] (spF pre_asc) := by
  refine D.pure b_p_ascends sc_p_ascends (fun ds d ⟨x, e, _⟩ => by rw [e]; rfl) fun f cdv A outer s H E G vs ds d hr hv hp => ?_
  obtain ⟨bs, rfl, hn, rfl⟩ := hp
  obtain ⟨v, rfl, hx⟩ := hv.one
  refine ⟨_, pss_one (ps_ret (pe_callB (cr_all rfl) rfl B.all bo_all (pa_cons (pe_lc (own := [("near", 1), ("far", 2)]) (g := gTup K 2 (gCons (gName 1) (gCons (gName 2) gNil))) (tt := tYes) (te := tOp (rLtT K) (tVar 1) (tVar 2)) rfl sc_p_ascends.nd
    (RZ.pi_zipA rfl B.zip (pa_cons (pv 0) (pa_cons (pe_slice sl_tupA (pv 0) (po_some pe_int) po_none) pa_nil))) (blkOk_by (N := n_p_ascends) (sc := defScope s_p_ascends) (by decide +kernel))
    (fun _ _ _ _ _ => pg_tup rfl (pgs_cons (pg_name (i := 1) sc_p_ascends.nd rfl (Or.inl rfl)) (pgs_cons (pg_name (i := 2) sc_p_ascends.nd rfl (Or.inl rfl)) pgs_nil))) (fun _ _ _ _ _ => pts_nil)
    (fun _ _ _ _ _ => pe_cmpR (op_ltT hr.u0) (pv 1) (pv 2) (nomark _))) pa_nil))), ?_⟩
  refine rd_ret (ed_cb (ea_cons (ed_is (ed_lcM ltF (sd_zipT (ea_cons (ed_var rfl hx) (ea_cons (ed_sl (ed_var rfl hx) (eo_part ed_int) eo_no rd_slT) ea_nil))) (by rw [zipD_len, List.length_map]; omega) (fun d hd v G' s hv => ?_)) ?_) ea_nil) rd_all)
  · rw [cut_one, ← List.map_drop] at hd
    obtain ⟨b, c, rfl⟩ := zip_mem hd
    exact bd_pair (b := true) hv fun u w h1 h2 => ⟨rfl, true, rfl, eb_yes, fun e he => by
      cases he
      exact ed_op (ed_var rfl h1) (ed_var rfl h2) rd_ltT⟩
  · rw [cut_one, ← List.map_drop, zipD_map, List.map_map, List.map_map]
    rfl
def lt2 : PyData → Bool | .int n => decide (n < 2) | _ => false
theorem all_map_id {α : Type} {f : α → Bool} {l : List α} : (l.map f).all id = l.all f := by rw [List.all_map]; rfl
theorem isFr_no {x : PyData} (h : tupN 2 x = false) : isFr x = false := by
  unfold isFr
  split
  · exact absurd h (by simp [tupN])
  · rfl
def pre_isFr : List PyData → PyData → Prop := fun ds d => ∃ x, ds = [x] ∧ (beamsOf x).length < 32 ∧ d = .bool (isFr x)
theorem w_is_frame (B : Bt mg) (F1 : FnE P w K mg base CX0 1 "is_tuple_of" ["thing", "size"] (spF pre_tupN)) (F2 : FnE P w K mg base CX0 1 "is_number" ["thing"] (spF pre_num)) (F3 : FnE P w K mg base CX0 4 "is_beam_among" ["thing", "many"] (spF pre_beam))
    (F4 : FnE P w K mg base CX0 2 "ascends" ["thing"] (spF pre_asc)) (F5 : FnE P w K mg base CX0 2 "jacks_of" ["beams"] (spF pre_jacks)) (D : Def K mg "is_frame" s_p_is_frame) : FnE P w K mg base CX0 5 "is_frame" ["thing"] (spF pre_isFr) := by
  refine D.pure b_p_is_frame sc_p_is_frame (fun ds d ⟨x, e, _⟩ => by rw [e]; rfl) fun f cdv A outer s H E G vs ds d hr hv hp => ?_
  obtain ⟨x, rfl, hn, rfl⟩ := hp
  obtain ⟨v, rfl, hx⟩ := hv.one
  refine ⟨_, x_p_is_frame B hr (Nat.le_refl _) F1 (by decide) F2 (by decide) F3 (by decide) F4 (by decide) F5 (by decide), ?_⟩
  rcases pair_or x with ⟨y, z, rfl⟩ | hn2
  · refine rd_if (b := (!true) || ((!(numD y)) || (lt2 y || !(isTupD z)))) (eb_or (eb_not (eb_B (ed_call (ea_cons (ed_var rfl hx) (ea_cons ed_int ea_nil)) ⟨_, _, rfl, rfl⟩))) fun _ => eb_or (eb_not (eb_B (ed_call (ea_cons (ed_op (ed_var rfl hx) ed_int (rd_xT at0)) ea_nil) ⟨_, rfl, rfl⟩))) fun c2 =>
      eb_or ?_ fun c3 => eb_not (eb_B (ed_isTuple (ed_op (ed_var rfl hx) ed_int (rd_xT at1))))) (fun c => ?_) (fun c => ?_)
    · obtain ⟨n, rfl⟩ := num_int (x := y) (by simpa using c2)
      exact eb_test (ed_op (ed_op (ed_var rfl hx) ed_int (rd_xT at0)) ed_int rd_ltI)
    · refine rd_ret (ed_is ed_bl ?_)
      unfold isFr
      split
      · rename_i n bs e
        injection e with e
        injection e with e1 e2
        injection e2 with e2 e3
        subst e1 e2
        have z : n < 2 := by simpa [numD, lt2, isTupD] using c
        have z2 : decide (2 ≤ n) = false := decide_eq_false (by omega)
        rw [z2]
        rfl
      · rfl
    · simp at c
      obtain ⟨n, rfl⟩ := num_int c.1
      obtain ⟨bs, rfl⟩ := tup_tup c.2.2
      have h2 : 2 ≤ n := by have := c.2.1; simp [lt2] at this; exact this
      have hn' : bs.length < 32 := hn
      refine rd_unp (ed_var rfl hx) fun v1 v2 G' sG h1 h2' => ?_
      refine rd_if (b := (!((bs.map (beamD n)).all id)) || !(ascI (bs.map toP))) (eb_or (eb_not (eb_B (ed_cb (ea_cons (ed_is (ed_lcM (fun d => .bool (beamD n d)) (so_T (ed_var rfl h2')) (by omega) (fun d hd v G2 s hv => ?_)) ?_) ea_nil) rd_all))) fun c => eb_not (eb_B ?_)) (fun c => ?_) (fun c => ?_)
      · exact bd_name (b := true) rfl eb_yes rfl fun e he => by
          cases he
          exact ed_call (ea_cons (ed_var rfl hv) (ea_cons (ed_var rfl (h1.mono s)) ea_nil)) ⟨_, _, rfl, rfl⟩
      · rw [List.map_map]; rfl
      · rw [all_map_id] at c
        have e := encs_of_beams (m := n) (ds := bs) (by simpa using c)
        refine ed_call (ea_cons (ed_var rfl h2') ea_nil) ⟨bs.map toP, by rw [← e], by rw [List.length_map]; omega, rfl⟩
      · refine rd_ret (ed_is ed_bl ?_)
        rw [all_map_id] at c
        rw [isFr_eq]
        cases a1 : bs.all (beamD n) with
        | false => simp
        | true =>
          rw [a1] at c
          have a2 : ascI (bs.map toP) = false := by simpa using c
          rw [a2]
          simp
      · rw [all_map_id] at c
        simp at c
        have a1 : bs.all (beamD n) = true := by rw [List.all_eq_true]; exact c.1
        have e := encs_of_beams a1
        refine rd_ret (ed_is (ed_op (ed_cb (ea_cons (ed_call (ea_cons (ed_var rfl h2') ea_nil) ⟨bs.map toP, by rw [← e], by rw [List.length_map]; omega, rfl⟩) ea_nil) rd_lenT) (ed_var rfl h1) rd_eqI1) ?_)
        rw [isFr_eq, a1, c.2, decide_eq_true h2]
        simp [intsD]
  · refine rd_if (b := (!(tupN 2 x)) || false) (eb_or (eb_not (eb_B (ed_call (ea_cons (ed_var rfl hx) (ea_cons ed_int ea_nil)) ⟨_, _, rfl, rfl⟩))) fun c => absurd c (by rw [hn2]; decide)) (fun c => ?_) (fun c => absurd c (by rw [hn2]; decide))
    exact rd_ret (ed_is ed_bl (by rw [isFr_no hn2]))
end
end K3

set_option Elab.async false
set_option linter.all false
set_option maxRecDepth 100000
set_option maxHeartbeats 4000000
/-! Walks: tupled, lists (by the depth of the data). -/
namespace K3
open PySem PySem.Spec PyProof.Rows L2
def scalD : PyData → Prop | .list _ => False | .tuple _ => False | .dict _ => False | .str x => PyData.canLay0 (.str x) = true | _ => True
def smallD : Nat → PyData → Prop
  | 0, d => scalD d
  | n + 1, d => scalD d ∨ ∃ ds, (d = .list ds ∨ d = .tuple ds) ∧ ds.length ≤ 100 ∧ ∀ x ∈ ds, smallD n x
theorem smallD.up : ∀ {n : Nat} {d : PyData}, smallD n d → smallD (n + 1) d
  | 0, d, h => .inl h
  | n + 1, d, h => by
    rcases h with h | ⟨ds, e, l, h⟩
    · exact .inl h
    · exact .inr ⟨ds, e, l, fun x hx => smallD.up (h x hx)⟩
def tupF : Nat → PyData → PyData
  | n + 1, .list ds => .tuple (ds.map (tupF n))
  | n + 1, .tuple ds => .tuple (ds.map (tupF n))
  | _, d => d
def lstF : Nat → PyData → PyData
  | n + 1, .list ds => .list (ds.map (lstF n))
  | n + 1, .tuple ds => .list (ds.map (lstF n))
  | _, d => d
theorem tupF_scal : ∀ {n : Nat} {d : PyData}, scalD d → tupF n d = d := fun {n d} h => by cases n <;> cases d <;> first | rfl | exact h.elim
theorem lstF_scal : ∀ {n : Nat} {d : PyData}, scalD d → lstF n d = d := fun {n d} h => by cases n <;> cases d <;> first | rfl | exact h.elim
theorem scal_not {d : PyData} (h : scalD d) : (isLstD d || isTupD d) = false := by cases d <;> first | rfl | exact h.elim
section
variable {P : Program} {w : World} {K : PySem.W.Frag} {mg : Str → Option Value} {base : Heap}
theorem eb_isLT {σ : L2.St} {G : Hp} {ta : TE} {d : PyData} (h : EvD ta σ G d) : EvB (tB (tCB (rIsiT K) (tCons ta (tCons (tTup (tCons (tC (.ty "list")) (tCons (tC (.ty "tuple")) tNil))) tNil)))) σ G (isLstD d || isTupD d) := eb_B (ed_isi2 h (kit_list d) (kit_tuple d))
def pre_tup (n : Nat) : List PyData → PyData → Prop := fun ds e => ∃ d, ds = [d] ∧ smallD n d ∧ e = tupF n d
def pre_lst (n : Nat) : List PyData → PyData → Prop := fun ds e => ∃ d, ds = [d] ∧ smallD n d ∧ e = lstF n d
theorem tupled_step (B : Bt mg) (D : Def K mg "tupled" s_p_tupled) {n : Nat} {S : List PyData → PyData → Prop} (F : FnE P w K mg base CX0 n "tupled" ["thing"] (spF S)) (hS : ∀ m d, n = m + 1 → smallD m d → S [d] (tupF m d)) : FnE P w K mg base CX0 (n + 1) "tupled" ["thing"] (spF (pre_tup n)) := by
  refine D.pure b_p_tupled sc_p_tupled (fun ds d ⟨x, e, _⟩ => by rw [e]; rfl) fun f cdv A outer s H E G vs ds d hr hv hp => ⟨_, x_p_tupled B hr (Nat.le_refl _) F (Nat.le_refl _), ?_⟩
  obtain ⟨x, rfl, hx0, rfl⟩ := hp
  obtain ⟨v, rfl, hx⟩ := hv.one
  refine rd_ret (ed_if (eb_isLT (ed_var rfl hx)) (fun c => ?_) (fun c => ?_))
  · cases n with
    | zero => rw [scal_not hx0] at c; cases c
    | succ m =>
      rcases hx0 with h | ⟨es, e, l, h⟩
      · rw [scal_not h] at c; cases c
      · rcases e with rfl | rfl
        · exact ed_cb (ea_cons (ed_lcM (tupF m) (so_L (ed_var rfl hx)) (by omega) fun d hd v G' s hv => bd_name (b := true) rfl eb_yes rfl fun e he => by
            cases he
            exact ed_call (ea_cons (ed_var rfl hv) ea_nil) (hS m d rfl (h d hd))) ea_nil) rd_tupL
        · exact ed_cb (ea_cons (ed_lcM (tupF m) (so_T (ed_var rfl hx)) (by omega) fun d hd v G' s hv => bd_name (b := true) rfl eb_yes rfl fun e he => by
            cases he
            exact ed_call (ea_cons (ed_var rfl hv) ea_nil) (hS m d rfl (h d hd))) ea_nil) rd_tupL
  · refine ed_is (ed_var rfl hx) ?_
    cases x <;> first | (cases n <;> rfl) | cases c
theorem w_tupled (B : Bt mg) (D : Def K mg "tupled" s_p_tupled) : ∀ n : Nat, FnE P w K mg base CX0 (n + 1) "tupled" ["thing"] (spF (pre_tup n))
  | 0 => tupled_step B D (D.fnE b_p_tupled fun f fd F => fnok_absurd (pre := fun _ _ => False) fun _ _ h => h) fun m d e => by omega
  | n + 1 => tupled_step B D (w_tupled B D n) fun m d e h => by cases e; exact ⟨d, rfl, h, rfl⟩
theorem lists_step (B : Bt mg) (D : Def K mg "_law_lists" s_lists) {n : Nat} {S : List PyData → PyData → Prop} (F : FnE P w K mg base CX0 n "_law_lists" ["_law_matter"] (spF S)) (hS : ∀ m d, n = m + 1 → smallD m d → S [d] (lstF m d)) : FnE P w K mg base CX0 (n + 1) "_law_lists" ["_law_matter"] (spF (pre_lst n)) := by
  refine D.pure b_lists sc_lists (fun ds d ⟨x, e, _⟩ => by rw [e]; rfl) fun f cdv A outer s H E G vs ds d hr hv hp => ⟨_, x_lists B hr (Nat.le_refl _) F (Nat.le_refl _), ?_⟩
  obtain ⟨x, rfl, hx0, rfl⟩ := hp
  obtain ⟨v, rfl, hx⟩ := hv.one
  refine rd_ret (ed_if (eb_isLT (ed_var rfl hx)) (fun c => ?_) (fun c => ?_))
  · cases n with
    | zero => rw [scal_not hx0] at c; cases c
    | succ m =>
      rcases hx0 with h | ⟨es, e, l, h⟩
      · rw [scal_not h] at c; cases c
      · rcases e with rfl | rfl
        · exact (ed_lcM (lstF m) (so_L (ed_var rfl hx)) (by omega) fun d hd v G' s hv => bd_name (b := true) rfl eb_yes rfl fun e he => by
            cases he
            exact ed_call (ea_cons (ed_var rfl hv) ea_nil) (hS m d rfl (h d hd)))
        · exact (ed_lcM (lstF m) (so_T (ed_var rfl hx)) (by omega) fun d hd v G' s hv => bd_name (b := true) rfl eb_yes rfl fun e he => by
            cases he
            exact ed_call (ea_cons (ed_var rfl hv) ea_nil) (hS m d rfl (h d hd)))
  · refine ed_is (ed_var rfl hx) ?_
    cases x <;> first | (cases n <;> rfl) | cases c
theorem w_lists (B : Bt mg) (D : Def K mg "_law_lists" s_lists) : ∀ n : Nat, FnE P w K mg base CX0 (n + 1) "_law_lists" ["_law_matter"] (spF (pre_lst n))
  | 0 => lists_step B D (D.fnE b_lists fun f fd F => fnok_absurd (pre := fun _ _ => False) fun _ _ h => h) fun m d e => by omega
  | n + 1 => lists_step B D (w_lists B D n) fun m d e h => by cases e; exact ⟨d, rfl, h, rfl⟩
end
end K3

set_option Elab.async false
set_option linter.all false
set_option maxRecDepth 100000
set_option maxHeartbeats 4000000
/-! Plain: frames as data. -/
namespace K3
open PySem
def encF (n : Nat) (bs : List (Int × Int)) : PyData := .tuple [.int (n : Nat), .tuple (bs.map encI)]
def encIL (b : Int × Int) : PyData := .list [.int b.1, .int b.2]
def encL (n : Nat) (bs : List (Int × Int)) : PyData := .list [.int (n : Nat), .list (bs.map encIL)]
structure Valid (n : Nat) (bs : List (Int × Int)) : Prop where
  two : 2 ≤ n
  nine : n ≤ 9
  few : bs.length ≤ 12
  ok : ∀ b ∈ bs, 0 ≤ b.1 ∧ b.1 < b.2 ∧ b.2 < (n : Int)
  asc : ascI bs = true
  all : (normI (flatI bs)).length = n
theorem map_toP (bs : List (Int × Int)) : (bs.map encI).map toP = bs := by rw [List.map_map]; exact (List.map_congr_left fun b _ => toP_enc b).trans (List.map_id bs)
theorem beam_enc {m : Int} {b : Int × Int} : beamD m (encI b) = decide (0 ≤ b.1 ∧ b.1 < b.2 ∧ b.2 < m) := by
  rw [← lbeam_eq]
  show (decide (0 ≤ b.1) && (decide (b.1 < b.2) && decide (b.2 < m))) = _
  by_cases h1 : 0 ≤ b.1 <;> by_cases h2 : b.1 < b.2 <;> by_cases h3 : b.2 < m <;> simp [h1, h2, h3]
theorem Valid.fr {n : Nat} {bs : List (Int × Int)} (v : Valid n bs) : isFr (encF n bs) = true := by
  unfold encF
  rw [isFr_eq, map_toP, v.asc, v.all]
  have h1 : (bs.map encI).all (beamD (n : Nat)) = true := by
    rw [List.all_eq_true]
    intro d hd
    obtain ⟨b, hb, rfl⟩ := List.mem_map.mp hd
    rw [beam_enc]
    exact decide_eq_true (v.ok b hb)
  have h2 := v.two
  rw [h1]
  simp
  omega
theorem small_frame {n : Nat} {bs : List (Int × Int)} (h : bs.length ≤ 100) : smallD 3 (encF n bs) := by
  refine .inr ⟨_, .inr rfl, (show 2 ≤ 100 by decide), fun x hx => ?_⟩
  have hx' : x = .int (n : Nat) ∨ x = .tuple (bs.map encI) := by simpa using hx
  rcases hx' with rfl | rfl
  · exact .inl True.intro
  · refine .inr ⟨_, .inr rfl, by rw [List.length_map]; exact h, fun y hy => ?_⟩
    obtain ⟨b, _, rfl⟩ := List.mem_map.mp hy
    refine .inr ⟨_, .inr rfl, (show 2 ≤ 100 by decide), fun z hz => ?_⟩
    have hz' : z = .int b.1 ∨ z = .int b.2 := by simpa using hz
    rcases hz' with rfl | rfl <;> exact True.intro
theorem small_frameL {n : Nat} {bs : List (Int × Int)} (h : bs.length ≤ 100) : smallD 3 (encL n bs) := by
  refine .inr ⟨_, .inl rfl, (show 2 ≤ 100 by decide), fun x hx => ?_⟩
  have hx' : x = .int (n : Nat) ∨ x = .list (bs.map encIL) := by simpa using hx
  rcases hx' with rfl | rfl
  · exact .inl True.intro
  · refine .inr ⟨_, .inl rfl, by rw [List.length_map]; exact h, fun y hy => ?_⟩
    obtain ⟨b, _, rfl⟩ := List.mem_map.mp hy
    refine .inr ⟨_, .inl rfl, (show 2 ≤ 100 by decide), fun z hz => ?_⟩
    have hz' : z = .int b.1 ∨ z = .int b.2 := by simpa using hz
    rcases hz' with rfl | rfl <;> exact True.intro
theorem tup_frame {n : Nat} {bs : List (Int × Int)} : tupF 3 (encF n bs) = encF n bs := by
  show PyData.tuple [.int (n : Nat), .tuple ((bs.map encI).map (tupF 1))] = _
  rw [List.map_map]
  rfl
theorem tup_frameL {n : Nat} {bs : List (Int × Int)} : tupF 3 (encL n bs) = encF n bs := by
  show PyData.tuple [.int (n : Nat), .tuple ((bs.map encIL).map (tupF 1))] = _
  rw [List.map_map]
  rfl
theorem lst_frame {n : Nat} {bs : List (Int × Int)} : lstF 3 (encF n bs) = encL n bs := by
  show PyData.list [.int (n : Nat), .list ((bs.map encI).map (lstF 1))] = _
  rw [List.map_map]
  rfl
theorem ltP_iff {b c : Int × Int} : ltP b c = true ↔ b.1 < c.1 ∨ (b.1 = c.1 ∧ b.2 < c.2) := by
  unfold ltP
  rw [HT.lexLt_cons, HT.lexLt_cons, HT.lexLt_nil_nil]
  by_cases h1 : b.1 = c.1
  · rw [if_pos h1]
    by_cases h2 : b.2 = c.2
    · rw [if_pos h2]
      constructor
      · intro h; cases h
      · rintro (h | ⟨_, h⟩) <;> omega
    · rw [if_neg h2, decide_eq_true_iff]
      constructor
      · exact fun h => .inr ⟨h1, h⟩
      · rintro (h | ⟨_, h⟩) <;> omega
  · rw [if_neg h1, decide_eq_true_iff]
    constructor
    · exact .inl
    · rintro (h | ⟨h, _⟩)
      · exact h
      · exact absurd h h1
theorem ltP_trans {b c d : Int × Int} (h : ltP b c = true) (k : ltP c d = true) : ltP b d = true := by
  rw [ltP_iff] at h k ⊢
  omega
theorem asc_cons {b c : Int × Int} {r : List (Int × Int)} : ascI (b :: c :: r) = (ltP b c && ascI (c :: r)) := rfl
theorem asc_pair : ∀ {bs : List (Int × Int)}, ascI bs = true ↔ bs.Pairwise (fun b c => ltP b c = true)
  | [] => ⟨fun _ => .nil, fun _ => rfl⟩
  | [b] => ⟨fun _ => by simp, fun _ => rfl⟩
  | b :: c :: r => by
    rw [asc_cons, Bool.and_eq_true, asc_pair (bs := c :: r)]
    constructor
    · rintro ⟨h1, h2⟩
      refine List.pairwise_cons.mpr ⟨fun d hd => ?_, h2⟩
      rcases List.mem_cons.mp hd with rfl | hd
      · exact h1
      · exact ltP_trans h1 ((List.pairwise_cons.mp h2).1 d hd)
    · intro h
      exact ⟨(List.pairwise_cons.mp h).1 c (by simp), (List.pairwise_cons.mp h).2⟩
/-- the jacks that share a beam with k -/
def other (k : Int) (b : Int × Int) : Option Int := if k = b.1 ∨ k = b.2 then some (b.1 + b.2 - k) else none
def others (bs : List (Int × Int)) (k : Int) : List Int := bs.filterMap (other k)
def nearI (bs : List (Int × Int)) (k : Int) : List Int := normI (others bs k)
theorem others_len {bs : List (Int × Int)} {k : Int} : (others bs k).length ≤ bs.length := List.length_filterMap_le _ _
theorem Valid.nodup {n : Nat} {bs : List (Int × Int)} (v : Valid n bs) (k : Int) : (others bs k).Nodup := by
  have h := asc_pair.mp v.asc
  unfold others List.Nodup
  rw [List.pairwise_filterMap]
  refine h.imp_of_mem fun {b c} hb hc hbc x hx y hy => ?_
  have v1 := v.ok b hb
  have v2 := v.ok c hc
  rw [ltP_iff] at hbc
  unfold other at hx hy
  split at hx
  · split at hy
    · have e1 := Option.some.inj hx
      have e2 := Option.some.inj hy
      intro e
      rename_i h1 h2
      omega
    · cases hy
  · cases hx
theorem near_mem {bs : List (Int × Int)} {k z : Int} : z ∈ nearI bs k ↔ ∃ b ∈ bs, (k = b.1 ∧ z = b.2) ∨ (k = b.2 ∧ z = b.1) := by
  unfold nearI
  rw [mem_normI]
  unfold others
  rw [List.mem_filterMap]
  constructor
  · rintro ⟨b, hb, h⟩
    unfold other at h
    split at h
    · have e := Option.some.inj h
      rename_i h1
      exact ⟨b, hb, by omega⟩
    · cases h
  · rintro ⟨b, hb, h⟩
    refine ⟨b, hb, ?_⟩
    unfold other
    rw [if_pos (by omega)]
    congr 1
    omega
end K3

set_option Elab.async false
set_option linter.all false
set_option maxRecDepth 100000
set_option maxHeartbeats 4000000
/-! Walks: sure_frame, sure_jack (a jack that is there), near_in, next_to, neighbours, put_apart. -/
namespace K3
open PySem PySem.Spec PyProof.Rows L2
def FrmD (x : PyData) (n : Nat) (bs : List (Int × Int)) : Prop := x = encF n bs ∨ x = encL n bs
theorem filterMap_map_eq {α β γ δ : Type} {e : α → β} {F : β → Option γ} {f : α → Option δ} {g : δ → γ} (h : ∀ a, F (e a) = (f a).map g) (l : List α) : (l.map e).filterMap F = (l.filterMap f).map g := by
  rw [List.filterMap_map, List.map_filterMap]
  congr 1
  funext a
  exact h a
section
variable {P : Program} {w : World} {K : PySem.W.Frag} {mg : Str → Option Value} {base : Heap}
def pre_sure : List PyData → PyData → Prop := fun ds d => ∃ x n bs, ds = [x] ∧ FrmD x n bs ∧ Valid n bs ∧ d = encF n bs
theorem w_sure_frame (B : Bt mg) (F1 : FnE P w K mg base CX0 4 "tupled" ["thing"] (spF (pre_tup 3))) (F2 : FnE P w K mg base CX0 5 "is_frame" ["thing"] (spF pre_isFr)) (D : Def K mg "sure_frame" s_p_sure_frame) : FnE P w K mg base CX0 6 "sure_frame" ["frame"] (spF pre_sure) := by
  refine D.pure b_p_sure_frame sc_p_sure_frame (fun ds d ⟨x, _, _, e, _⟩ => by rw [e]; rfl) fun f cdv A outer s H E G vs ds d hr hv hp => ⟨_, x_p_sure_frame B hr (Nat.le_refl _) F1 (by decide) F2 (by decide), ?_⟩
  obtain ⟨x, n, bs, rfl, hx, hV, rfl⟩ := hp
  obtain ⟨v, rfl, hw⟩ := hv.one
  have hs : smallD 3 x ∧ tupF 3 x = encF n bs := by
    rcases hx with rfl | rfl
    · exact ⟨small_frame (by have := hV.few; omega), tup_frame⟩
    · exact ⟨small_frameL (by have := hV.few; omega), tup_frameL⟩
  refine rd_set (ed_call (ea_cons (ed_var rfl hw) ea_nil) ⟨x, rfl, hs.1, hs.2.symm⟩) fun v1 G1 s1 h1 => ?_
  refine rd_if (b := !(isFr (encF n bs))) (eb_not (eb_B (ed_call (ea_cons (ed_var rfl h1) ea_nil) ⟨_, rfl, ?_, rfl⟩))) (fun c => ?_) fun c => rd_ret (ed_var rfl h1)
  · show (bs.map encI).length < 32
    rw [List.length_map]
    have := hV.few
    omega
  · rw [hV.fr] at c; cases c
def pre_sjack : List PyData → PyData → Prop := fun ds d => ∃ (n : Nat) (bs : List (Int × Int)) (k : Int), ds = [encF n bs, .int k] ∧ 0 ≤ k ∧ k < (n : Nat) ∧ d = .int k
theorem w_sure_jack (B : Bt mg) (F1 : FnE P w K mg base CX0 1 "is_number" ["thing"] (spF pre_num)) (F2 : FnE P w K mg base CX0 3 "is_below" ["thing", "many"] (spF pre_bel)) (D : Def K mg "sure_jack" s_p_sure_jack) : FnE P w K mg base CX0 4 "sure_jack" ["frame", "jack"] (spF pre_sjack) := by
  refine D.pure b_p_sure_jack sc_p_sure_jack (fun ds d ⟨n, _, _, e, _⟩ => by rw [e]; rfl) fun f cdv A outer s H E G vs ds d hr hv hp => ⟨_, x_p_sure_jack B hr (Nat.le_refl _) F1 (by decide) F2 (by decide), ?_⟩
  obtain ⟨n, bs, k, rfl, h0, h1, rfl⟩ := hp
  obtain ⟨v, u, rfl, hv, hu⟩ := hv.two
  refine rd_if (b := !(numD (.int k))) (eb_not (eb_B (ed_call (ea_cons (ed_var rfl hu) ea_nil) ⟨_, rfl, rfl⟩))) (fun c => by cases c) fun _ => ?_
  have e : belD (n : Nat) (.int k) = true := by show (decide (0 ≤ k) && decide (k < (n : Nat))) = true; simp [h0, h1]
  refine rd_if (b := !(belD (n : Nat) (.int k))) (eb_not (eb_B (ed_call (ea_cons (ed_var rfl hu) (ea_cons (ed_op (ed_var rfl hv) ed_int (rd_xT at0)) ea_nil)) ⟨_, _, rfl, rfl⟩))) (fun c => ?_) fun _ => rd_ret (ed_var rfl hu)
  rw [e] at c
  cases c
def othD (k : Int) (d : PyData) : Option PyData := (other k (toP d)).map PyData.int
def pre_near : List PyData → PyData → Prop := fun ds d => ∃ (n : Nat) (bs : List (Int × Int)) (k : Int), ds = [encF n bs, .int k] ∧ bs.length < 64 ∧ d = .tuple (intsD (nearI bs k))
theorem eb_inB {σ : L2.St} {G : Hp} {ta tb : TE} {k : Int} {b : Int × Int} (ha : EvD ta σ G (.int k)) (hb : EvD tb σ G (encI b)) : EvB (tTest (tOp (rIn K false) ta tb)) σ G (decide (k = b.1 ∨ k = b.2)) :=
  eb_is (eb_test (ed_op ha hb (rd_inT (ns := [b.1, b.2])))) (by simp)
theorem w_near_in (B : Bt mg) (F1 : FnE P w K mg base CX0 1 "set_of" ["things"] (spF pre_setof)) (D : Def K mg "near_in" s_p_near_in) : FnE P w K mg base CX0 2 "near_in" ["frame", "jack"] (spF pre_near) := by
  refine D.pure b_p_near_in sc_p_near_in (fun ds d ⟨n, _, _, e, _⟩ => by rw [e]; rfl) fun f cdv A outer s H E G vs ds d hr hv hp => ⟨_, x_p_near_in B hr (Nat.le_refl _) F1 (by decide), ?_⟩
  obtain ⟨n, bs, k, rfl, hl, rfl⟩ := hp
  obtain ⟨v, u, rfl, hv, hu⟩ := hv.two
  refine rd_ret (ed_call (ea_cons (ed_is (ed_lc (othD k) (so_T (ed_op (ed_var rfl hv) ed_int (rd_xT at1))) (by rw [List.length_map]; omega) fun d hd v G' s hv' => ?_) ?_) ea_nil) ⟨others bs k, rfl, by have := others_len (bs := bs) (k := k); omega, rfl⟩)
  · obtain ⟨b, hb, rfl⟩ := List.mem_map.mp hd
    refine bd_name (b := decide (k = b.1 ∨ k = b.2)) rfl (eb_inB (ed_var rfl (hu.mono s)) (ed_var rfl hv')) ?_ fun e he => ?_
    · unfold othD other
      rw [toP_enc]
      by_cases c : k = b.1 ∨ k = b.2 <;> simp [c]
    · unfold othD other at he
      rw [toP_enc] at he
      by_cases c : k = b.1 ∨ k = b.2
      · rw [if_pos c] at he
        cases he
        exact ed_op (ed_op (ed_op (ed_var rfl hv') ed_int (rd_xT at0)) (ed_op (ed_var rfl hv') ed_int (rd_xT at1)) rd_plusI) (ed_var rfl (hu.mono s)) rd_I0i
      · rw [if_neg c] at he
        cases he
  · exact congrArg PyData.list (filterMap_map_eq (fun b => by unfold othD; rw [toP_enc]) bs)
def pre_next : List PyData → PyData → Prop := fun ds d => ∃ (n : Nat) (bs : List (Int × Int)) (k : Int), ds = [encF n bs, .int k] ∧ Valid n bs ∧ d = .list (intsD (nearI bs k))
theorem ed_sorted {σ : L2.St} {G : Hp} {ta : TE} {ns : List Int} (h : EvD ta σ G (.list (intsD ns))) (hn : ns.length < 64) (hd : ns.Nodup) : EvD (tCB (rSorted K) (tCons ta tNil)) σ G (.list (intsD (normI ns))) := fun H s Q q =>
  h H s _ fun v G1 H1 a1 hv => by
    obtain ⟨a, xs, rfl, ea, hx⟩ := hv.of_list
    have e := hx.intsD
    subst e
    refine ⟨a, ns, rfl, SqL.of (a1.s _ _ ea), hn, fun ms p hp hs hr => ?_⟩
    have e : ms = normI ns := by
      refine norm_uniq ?_ fun z => hp.mem_iff
      have h1 : ms.Nodup := hp.nodup_iff.mpr hd
      refine (List.Pairwise.and hs h1).imp fun {a b} z => ?_
      have := z.1
      have := z.2
      omega
    subst e
    exact q (.ref p) (upd G1 p _) _ (a1.trans (Gro.new a1.s hr)) (Da.mk_l upd_same DaL.of_ints)
theorem w_next_to (B : Bt mg) (D : Def K mg "_law_next_to" s_next_to) : FnE P w K mg base CX0 1 "_law_next_to" ["_law_frame_so", "_law_k"] (spF pre_next) := by
  refine D.pure b_next_to sc_next_to (fun ds d ⟨n, _, _, e, _⟩ => by rw [e]; rfl) fun f cdv A outer s H E G vs ds d hr hv hp => ⟨_, x_next_to B hr (Nat.le_refl _), ?_⟩
  obtain ⟨n, bs, k, rfl, hV, rfl⟩ := hp
  obtain ⟨v, u, rfl, hv, hu⟩ := hv.two
  have hl := hV.few
  refine rd_ret (ed_sorted (ns := others bs k) (ed_is (ed_lc (othD k) (so_T (ed_op (ed_var rfl hv) ed_int (rd_xT at1))) (by rw [List.length_map]; omega) fun d hd v G' s hv' => ?_) ?_) (by have := others_len (bs := bs) (k := k); omega) (hV.nodup k))
  · obtain ⟨b, hb, rfl⟩ := List.mem_map.mp hd
    refine bd_name (b := decide (k = b.1 ∨ k = b.2)) rfl (eb_inB (ed_var rfl (hu.mono s)) (ed_var rfl hv')) ?_ fun e he => ?_
    · unfold othD other
      rw [toP_enc]
      by_cases c : k = b.1 ∨ k = b.2 <;> simp [c]
    · unfold othD other at he
      rw [toP_enc] at he
      by_cases c : k = b.1 ∨ k = b.2
      · rw [if_pos c] at he
        cases he
        refine ed_if (b := decide (b.1 = k)) (eb_test (ed_op (ed_op (ed_var rfl hv') ed_int (rd_xT at0)) (ed_var rfl (hu.mono s)) rd_eqI1)) (fun c1 => ?_) (fun c1 => ?_)
        · have c1 := of_decide_eq_true c1
          exact ed_is (ed_op (ed_var rfl hv') ed_int (rd_xT at1)) (congrArg PyData.int (by omega))
        · have c1 := of_decide_eq_false c1
          exact ed_is (ed_op (ed_var rfl hv') ed_int (rd_xT at0)) (congrArg PyData.int (by omega))
      · rw [if_neg c] at he
        cases he
  · exact congrArg PyData.list (filterMap_map_eq (fun b => by unfold othD; rw [toP_enc]) bs)
def pre_nbs : List PyData → PyData → Prop := fun ds d => ∃ (x : PyData) (n : Nat) (bs : List (Int × Int)) (k : Int), ds = [x, .int k] ∧ FrmD x n bs ∧ Valid n bs ∧ 0 ≤ k ∧ k < (n : Nat) ∧ d = .tuple (intsD (nearI bs k))
theorem w_neighbours (B : Bt mg) (F1 : FnE P w K mg base CX0 6 "sure_frame" ["frame"] (spF pre_sure)) (F2 : FnE P w K mg base CX0 2 "near_in" ["frame", "jack"] (spF pre_near)) (F3 : FnE P w K mg base CX0 4 "sure_jack" ["frame", "jack"] (spF pre_sjack)) (D : Def K mg "neighbours" s_p_neighbours) :
    FnE P w K mg base CX0 7 "neighbours" ["frame", "jack"] (spF pre_nbs) := by
  refine D.pure b_p_neighbours sc_p_neighbours (fun ds d ⟨x, n, _, _, e, _⟩ => by rw [e]; rfl) fun f cdv A outer s H E G vs ds d hr hv hp => ⟨_, x_p_neighbours B hr (Nat.le_refl _) F1 (by decide) F2 (by decide) F3 (by decide), ?_⟩
  obtain ⟨x, n, bs, k, rfl, hx, hV, h0, h1, rfl⟩ := hp
  obtain ⟨v, u, rfl, hv, hu⟩ := hv.two
  refine rd_set (ed_call (ea_cons (ed_var rfl hv) ea_nil) ⟨x, n, bs, rfl, hx, hV, rfl⟩) fun v1 G1 s1 h1' => ?_
  exact rd_ret (ed_call (ea_cons (ed_var rfl h1') (ea_cons (ed_call (ea_cons (ed_var rfl h1') (ea_cons (ed_var rfl (hu.mono s1)) ea_nil)) ⟨n, bs, k, rfl, h0, h1, rfl⟩) ea_nil)) ⟨n, bs, k, rfl, by have := hV.few; omega, rfl⟩)
def shift (n : Nat) (b : Int × Int) : Int × Int := ((n : Nat) + b.1, (n : Nat) + b.2)
def pre_put : List PyData → PyData → Prop := fun ds d => ∃ (x y : PyData) (n m : Nat) (bs cs : List (Int × Int)), ds = [x, y] ∧ FrmD x n bs ∧ Valid n bs ∧ FrmD y m cs ∧ Valid m cs ∧ d = encF (n + m) (bs ++ cs.map (shift n))
def shiftD (n : Nat) (d : PyData) : PyData := encI (shift n (toP d))
theorem w_put_apart (B : Bt mg) (F1 : FnE P w K mg base CX0 6 "sure_frame" ["frame"] (spF pre_sure)) (D : Def K mg "put_apart" s_p_put_apart) : FnE P w K mg base CX0 7 "put_apart" ["one", "other"] (spF pre_put) := by
  refine D.pure b_p_put_apart sc_p_put_apart (fun ds d ⟨x, y, n, m, _, _, e, _⟩ => by rw [e]; rfl) fun f cdv A outer s H E G vs ds d hr hv hp => ⟨_, x_p_put_apart B hr (Nat.le_refl _) F1 (by decide), ?_⟩
  obtain ⟨x, y, n, m, bs, cs, rfl, hx, hV, hy, hW, rfl⟩ := hp
  obtain ⟨v, u, rfl, hv, hu⟩ := hv.two
  have hl := hV.few
  have hm := hW.few
  refine rd_set (ed_call (ea_cons (ed_var rfl hv) ea_nil) ⟨x, n, bs, rfl, hx, hV, rfl⟩) fun v1 G1 s1 h1 => ?_
  refine rd_set (ed_call (ea_cons (ed_var rfl (hu.mono s1)) ea_nil) ⟨y, m, cs, rfl, hy, hW, rfl⟩) fun v2 G2 s2 h2 => ?_
  have h1' := h1.mono s2
  refine rd_ret (ed_is (ed_tup (ea_cons (ed_op (ed_op (ed_var rfl h1') ed_int (rd_xT at0)) (ed_op (ed_var rfl h2) ed_int (rd_xT at0)) rd_plusI) (ea_cons (ed_op (ed_op (ed_var rfl h1') ed_int (rd_xT at1))
    (ed_cb (ea_cons (ed_lcM (shiftD n) (so_T (ed_op (ed_var rfl h2) ed_int (rd_xT at1))) (by rw [List.length_map]; omega) fun d hd v G' s hv' => ?_) ea_nil) rd_tupL) (rd_plusT ?_)) ea_nil)) (show 2 ≤ 100000 by decide)) ?_)
  · obtain ⟨b, hb, rfl⟩ := List.mem_map.mp hd
    refine bd_name (b := true) rfl eb_yes rfl fun e he => ?_
    cases he
    have h1s := h1'.mono s
    exact ed_tup (ea_cons (ed_op (ed_op (ed_var rfl h1s) ed_int (rd_xT at0)) (ed_op (ed_var rfl hv') ed_int (rd_xT at0)) rd_plusI) (ea_cons (ed_op (ed_op (ed_var rfl h1s) ed_int (rd_xT at0)) (ed_op (ed_var rfl hv') ed_int (rd_xT at1)) rd_plusI) ea_nil)) (show 2 ≤ 100000 by decide)
  · rw [List.length_map, List.length_map, List.length_map]; omega
  · unfold encF
    rw [List.map_append, List.map_map, List.map_map]
    congr 1
end
end K3

set_option Elab.async false
set_option linter.all false
set_option maxRecDepth 100000
set_option maxHeartbeats 4000000
/-! Plain: growing a part from a root. -/
namespace K3
open PySem
section
variable {α : Type} [DecidableEq α] (nb : α → List α)
def addN (row : List α) (far : α) : List α := if far ∈ row then row else row ++ [far]
def turnN (row : List α) (lap : Nat) : List α := match row[lap]? with | none => row | some j => (nb j).foldl addN row
def growN (root : α) (n : Nat) : List α := (List.range n).foldl (turnN nb) [root]
variable {nb}
theorem addN_pre {row : List α} {far : α} : ∃ t, addN row far = row ++ t := by
  unfold addN
  split
  · exact ⟨[], by simp⟩
  · exact ⟨[far], rfl⟩
theorem fold_pre : ∀ {fs : List α} {row : List α}, ∃ t, fs.foldl addN row = row ++ t
  | [], row => ⟨[], by simp⟩
  | f :: fs, row => by
    obtain ⟨t, h⟩ := addN_pre (row := row) (far := f)
    obtain ⟨u, k⟩ := fold_pre (fs := fs) (row := addN row f)
    exact ⟨t ++ u, by rw [List.foldl_cons, k, h, List.append_assoc]⟩
theorem turn_pre {row : List α} {lap : Nat} : ∃ t, turnN nb row lap = row ++ t := by
  unfold turnN
  split
  · exact ⟨[], by simp⟩
  · exact fold_pre
theorem addN_nd {row : List α} {far : α} (h : row.Nodup) : (addN row far).Nodup := by
  unfold addN
  split
  · exact h
  · rename_i c
    rw [List.nodup_append]
    exact ⟨h, by simp, fun a ha b hb => by
      have : b = far := by simpa using hb
      subst this
      exact fun e => c (e ▸ ha)⟩
theorem fold_nd : ∀ {fs : List α} {row : List α}, row.Nodup → (fs.foldl addN row).Nodup
  | [], _, h => h
  | f :: fs, row, h => fold_nd (fs := fs) (addN_nd h)
theorem addN_mem {row : List α} {far z : α} : z ∈ addN row far ↔ z ∈ row ∨ z = far := by
  unfold addN
  split
  · rename_i c
    exact ⟨.inl, fun h => h.elim id fun e => e ▸ c⟩
  · simp
theorem fold_mem : ∀ {fs : List α} {row : List α} {z : α}, z ∈ fs.foldl addN row ↔ z ∈ row ∨ z ∈ fs
  | [], row, z => by simp
  | f :: fs, row, z => by
    rw [List.foldl_cons, fold_mem (fs := fs), addN_mem, List.mem_cons, or_assoc]
/-- what is reached -/
inductive Reach (nb : α → List α) (root : α) : α → Prop
  | root : Reach nb root root
  | step {j k : α} : Reach nb root j → k ∈ nb j → Reach nb root k
theorem Reach.trans {a b c : α} (h : Reach nb a b) (k : Reach nb b c) : Reach nb a c := by
  induction k with
  | root => exact h
  | step _ e ih => exact ih.step e
theorem Reach.symm (sym : ∀ a b, b ∈ nb a → a ∈ nb b) {a b : α} (h : Reach nb a b) : Reach nb b a := by
  induction h with
  | root => exact .root
  | step _ e ih => exact (Reach.step .root (sym _ _ e)).trans ih
structure GrowInv (nb : α → List α) (root : α) (row : List α) (lap : Nat) : Prop where
  nd : row.Nodup
  conn : ∀ k ∈ row, Reach nb root k
  rt : root ∈ row
  done : ∀ i j, i < lap → row[i]? = some j → ∀ k ∈ nb j, k ∈ row
  pos : 0 < row.length
theorem grow_step {root : α} {row : List α} {lap : Nat} (I : GrowInv nb root row lap) : GrowInv nb root (turnN nb row lap) (lap + 1) := by
  obtain ⟨t, ht⟩ := turn_pre (nb := nb) (row := row) (lap := lap)
  have sub : ∀ k ∈ row, k ∈ turnN nb row lap := fun k hk => by rw [ht]; exact List.mem_append_left _ hk
  refine ⟨?_, ?_, sub _ I.rt, ?_, by rw [ht, List.length_append]; have := I.pos; omega⟩
  · unfold turnN
    split
    · exact I.nd
    · exact fold_nd I.nd
  · intro k hk
    unfold turnN at hk
    split at hk
    · exact I.conn k hk
    · rename_i j hj
      rcases fold_mem.mp hk with h | h
      · exact I.conn k h
      · exact (I.conn j (List.mem_of_getElem? hj)).step h
  · intro i j hi hj k hk
    by_cases c : i < lap
    · by_cases c2 : i < row.length
      · rw [ht, List.getElem?_append_left c2] at hj
        exact sub k (I.done i j c hj k hk)
      · -- the row had ended: nothing was added behind
        exfalso
        have e : row[lap]? = none := List.getElem?_eq_none (by omega)
        have e2 : turnN nb row lap = row := by unfold turnN; rw [e]
        rw [e2, List.getElem?_eq_none (by omega)] at hj
        cases hj
    · have e : i = lap := by omega
      subst e
      cases q : row[i]? with
      | none =>
        have e2 : turnN nb row i = row := by unfold turnN; rw [q]
        rw [e2, q] at hj
        cases hj
      | some j' =>
        have hl : i < row.length := (List.getElem?_eq_some_iff.mp q).1
        rw [ht, List.getElem?_append_left hl, q] at hj
        have e3 := Option.some.inj hj
        subst e3
        unfold turnN
        rw [q]
        exact fold_mem.mpr (.inr hk)
theorem grow_inv {root : α} : ∀ n : Nat, GrowInv nb root (growN nb root n) n
  | 0 => ⟨by simp [growN], fun k hk => by have : k = root := by simpa [growN] using hk
                                          subst this; exact .root, by simp [growN], fun i j hi => by omega, by simp [growN]⟩
  | n + 1 => by
    have e : growN nb root (n + 1) = turnN nb (growN nb root n) n := by unfold growN; rw [List.range_succ, List.foldl_append]; rfl
    rw [e]
    exact grow_step (grow_inv n)
/-- all that is reached is in a row of at most n -/
theorem grow_all {root : α} {n : Nat} (hl : (growN nb root n).length ≤ n) {k : α} : k ∈ growN nb root n ↔ Reach nb root k := by
  have I := grow_inv (nb := nb) (root := root) n
  constructor
  · exact I.conn k
  · intro h
    induction h with
    | root => exact I.rt
    | step _ e ih =>
      obtain ⟨i, hi⟩ := List.mem_iff_getElem?.mp ih
      have hlt := (List.getElem?_eq_some_iff.mp hi).1
      exact I.done i _ (by omega) hi _ e
end
end K3

set_option Elab.async false
set_option linter.all false
set_option maxRecDepth 100000
set_option maxHeartbeats 4000000
/-! Plain: pigeonholes; marks by rounds; parts. -/
namespace K3
open PySem
theorem nd_len : ∀ {n : Nat} {l : List Int}, l.Nodup → (∀ k ∈ l, 0 ≤ k ∧ k < (n : Nat)) → l.length ≤ n
  | 0, l, _, h => by
    cases l with
    | nil => simp
    | cons a l => have := h a (by simp); omega
  | n + 1, l, hd, h => by
    have h2 : ∀ k ∈ l.erase (n : Nat), 0 ≤ k ∧ k < (n : Nat) := fun k hk => by
      obtain ⟨h1, h3⟩ := hd.mem_erase_iff.mp hk
      have := h k h3
      omega
    have ih := nd_len (n := n) (hd.erase _) h2
    by_cases c : ((n : Nat) : Int) ∈ l
    · rw [List.length_erase_of_mem c] at ih
      omega
    · rw [List.erase_of_not_mem c] at ih
      omega
theorem nd_full {n : Nat} {l : List Int} (hd : l.Nodup) (h : ∀ k ∈ l, 0 ≤ k ∧ k < (n : Nat)) (hl : l.length = n) {k : Int} (h0 : 0 ≤ k) (h1 : k < (n : Nat)) : k ∈ l := by
  by_cases c : k ∈ l
  · exact c
  · have : (k :: l).length ≤ n := nd_len (List.nodup_cons.mpr ⟨c, hd⟩) fun z hz => by
      rcases List.mem_cons.mp hz with rfl | hz
      · exact ⟨h0, h1⟩
      · exact h z hz
    simp only [List.length_cons] at this
    omega
theorem lt_nodup {l : List Int} (h : l.Pairwise (· < ·)) : l.Nodup := h.imp fun {a b} z => by omega
/-- 0 .. n - 1 as ints -/
def rngI (n : Nat) : List Int := (List.range n).map fun i => ((i : Nat) : Int)
theorem rngI_mem {n : Nat} {k : Int} : k ∈ rngI n ↔ 0 ≤ k ∧ k < (n : Nat) := by
  unfold rngI
  rw [List.mem_map]
  constructor
  · rintro ⟨i, hi, rfl⟩
    have := List.mem_range.mp hi
    omega
  · rintro ⟨h0, h1⟩
    exact ⟨k.toNat, List.mem_range.mpr (by omega), by omega⟩
theorem rngI_lt (n : Nat) : (rngI n).Pairwise (· < ·) := by
  unfold rngI
  rw [List.pairwise_map]
  exact List.pairwise_lt_range.imp fun {a b} z => by omega
theorem rngI_succ (n : Nat) : rngI (n + 1) = rngI n ++ [((n : Nat) : Int)] := by unfold rngI; rw [List.range_succ, List.map_append]; rfl
theorem rngI_len (n : Nat) : (rngI n).length = n := by unfold rngI; simp
/-- a frame's jacks: all of them have a beam -/
theorem norm_full {n : Nat} {ns : List Int} (h : ∀ k ∈ ns, 0 ≤ k ∧ k < (n : Nat)) : (normI ns).length = n ↔ normI ns = rngI n := by
  constructor
  · intro hl
    refine sorted_uniq (sorted_normI ns) (rngI_lt n) fun z => ?_
    rw [rngI_mem]
    exact ⟨fun hz => h z (mem_normI.mp hz), fun hz => nd_full (lt_nodup (sorted_normI ns)) (fun k hk => h k (mem_normI.mp hk)) hl hz.1 hz.2⟩
  · intro e
    rw [e, rngI_len]
/-! ### the graph of a frame -/
theorem Valid.near {n : Nat} {bs : List (Int × Int)} (v : Valid n bs) {j k : Int} (h : k ∈ nearI bs j) : 0 ≤ k ∧ k < (n : Nat) := by
  obtain ⟨b, hb, h⟩ := near_mem.mp h
  have := v.ok b hb
  omega
theorem near_sym {bs : List (Int × Int)} {a b : Int} (h : b ∈ nearI bs a) : a ∈ nearI bs b := by
  obtain ⟨c, hc, h⟩ := near_mem.mp h
  exact near_mem.mpr ⟨c, hc, by omega⟩
theorem Valid.reach {n : Nat} {bs : List (Int × Int)} (v : Valid n bs) {r k : Int} (h0 : 0 ≤ r ∧ r < (n : Nat)) (h : Reach (nearI bs) r k) : 0 ≤ k ∧ k < (n : Nat) := by
  cases h with
  | root => exact h0
  | step _ e => exact v.near e
def growI (bs : List (Int × Int)) (r : Int) (n : Nat) : List Int := growN (nearI bs) r n
theorem Valid.row {n : Nat} {bs : List (Int × Int)} (v : Valid n bs) {r : Int} (h0 : 0 ≤ r ∧ r < (n : Nat)) {i : Nat} : (growI bs r i).length ≤ n :=
  nd_len (grow_inv i).nd fun k hk => v.reach h0 ((grow_inv i).conn k hk)
theorem Valid.grown {n : Nat} {bs : List (Int × Int)} (v : Valid n bs) {r : Int} (h0 : 0 ≤ r ∧ r < (n : Nat)) {k : Int} : k ∈ growI bs r n ↔ Reach (nearI bs) r k := grow_all (v.row h0)
def partI (bs : List (Int × Int)) (n : Nat) (r : Int) : List Int := normI (growI bs r n)
theorem Valid.part {n : Nat} {bs : List (Int × Int)} (v : Valid n bs) {r : Int} (h0 : 0 ≤ r ∧ r < (n : Nat)) {k : Int} : k ∈ partI bs n r ↔ Reach (nearI bs) r k := mem_normI.trans (v.grown h0)
/-! ### marks -/
def relaxF (f : Int → Int) (b : Int × Int) : Int → Int := fun k => if k = b.1 ∨ k = b.2 then min (f b.1) (f b.2) else f k
def roundF (bs : List (Int × Int)) (f : Int → Int) : Int → Int := bs.foldl relaxF f
def marksF (bs : List (Int × Int)) : Nat → Int → Int
  | 0 => id
  | r + 1 => roundF bs (marksF bs r)
theorem relax_le {f : Int → Int} {b : Int × Int} {k : Int} : relaxF f b k ≤ f k := by
  unfold relaxF
  split
  · rename_i h
    rcases h with rfl | rfl
    · omega
    · omega
  · exact Int.le_refl _
theorem round_le : ∀ {bs : List (Int × Int)} {f : Int → Int} {k : Int}, roundF bs f k ≤ f k
  | [], f, k => Int.le_refl _
  | b :: bs, f, k => Int.le_trans (round_le (bs := bs) (f := relaxF f b)) relax_le
theorem round_min : ∀ {bs : List (Int × Int)} {f : Int → Int} {b : Int × Int}, b ∈ bs → roundF bs f b.1 ≤ min (f b.1) (f b.2) ∧ roundF bs f b.2 ≤ min (f b.1) (f b.2)
  | c :: bs, f, b, h => by
    rcases List.mem_cons.mp h with rfl | h
    · have e1 : relaxF f b b.1 = min (f b.1) (f b.2) := by unfold relaxF; rw [if_pos (.inl rfl)]
      have e2 : relaxF f b b.2 = min (f b.1) (f b.2) := by unfold relaxF; rw [if_pos (.inr rfl)]
      have h1 := round_le (bs := bs) (f := relaxF f b) (k := b.1)
      have h2 := round_le (bs := bs) (f := relaxF f b) (k := b.2)
      rw [e1] at h1
      rw [e2] at h2
      exact ⟨h1, h2⟩
    · have ih := round_min (bs := bs) (f := relaxF f c) h
      have h1 := relax_le (f := f) (b := c) (k := b.1)
      have h2 := relax_le (f := f) (b := c) (k := b.2)
      have e : roundF (c :: bs) f = roundF bs (relaxF f c) := rfl
      rw [e]
      omega
def Closed (bs : List (Int × Int)) (f : Int → Int) (m : Int) : Prop := ∀ b ∈ bs, f b.1 ≤ m ↔ f b.2 ≤ m
theorem relax_closed {f : Int → Int} {m : Int} {b : Int × Int} (h : f b.1 ≤ m ↔ f b.2 ≤ m) (k : Int) : relaxF f b k ≤ m ↔ f k ≤ m := by
  unfold relaxF
  split
  · rename_i c
    rcases c with rfl | rfl <;> omega
  · exact Iff.rfl
theorem round_closed : ∀ {bs : List (Int × Int)} {f : Int → Int} {m : Int}, Closed bs f m → ∀ k, roundF bs f k ≤ m ↔ f k ≤ m
  | [], _, _, _, _ => Iff.rfl
  | b :: bs, f, m, h, k => by
    have hb := relax_closed (h b (by simp))
    have h2 : Closed bs (relaxF f b) m := fun c hc => by rw [hb, hb]; exact h c (List.mem_cons_of_mem _ hc)
    exact (round_closed h2 k).trans (hb k)
theorem count_lt {α : Type} {p q : α → Bool} : ∀ {l : List α}, (∀ x ∈ l, p x = true → q x = true) → (∃ x ∈ l, p x = false ∧ q x = true) → l.countP p + 1 ≤ l.countP q
  | [], _, ⟨x, hx, _⟩ => absurd hx (by simp)
  | y :: l, h, ⟨x, hx, h1, h2⟩ => by
    have hm : l.countP p ≤ l.countP q := List.countP_mono_left fun z hz => h z (List.mem_cons_of_mem _ hz)
    rw [List.countP_cons, List.countP_cons]
    rcases List.mem_cons.mp hx with rfl | hx
    · rw [h1, h2]
      simp
      omega
    · have ih := count_lt (l := l) (fun z hz => h z (List.mem_cons_of_mem _ hz)) ⟨x, hx, h1, h2⟩
      have hy := h y (by simp)
      cases c : p y with
      | false => simp; split <;> omega
      | true => rw [hy c]; simp; omega
def cnt (n : Nat) (f : Int → Int) (m : Int) : Nat := (rngI n).countP fun k => decide (f k ≤ m)
theorem Valid.spread {n : Nat} {bs : List (Int × Int)} (v : Valid n bs) {m : Int} (hm : 0 ≤ m) : ∀ r : Nat, Closed bs (marksF bs r) m ∨ r + 1 ≤ cnt n (marksF bs r) m
  | 0 => by
    right
    have hn := v.two
    have : 0 < cnt n (marksF bs 0) m := by
      unfold cnt
      rw [List.countP_pos_iff]
      exact ⟨0, rngI_mem.mpr (by omega), decide_eq_true hm⟩
    omega
  | r + 1 => by
    by_cases c : Closed bs (marksF bs r) m
    · left
      have h := round_closed c
      intro b hb
      show roundF bs (marksF bs r) b.1 ≤ m ↔ roundF bs (marksF bs r) b.2 ≤ m
      rw [h, h]
      exact c b hb
    · right
      have ih := (v.spread hm r).resolve_left c
      have hx : ∃ k ∈ rngI n, ¬ marksF bs r k ≤ m ∧ marksF bs (r + 1) k ≤ m := by
        have c' : ∃ b ∈ bs, ¬ (marksF bs r b.1 ≤ m ↔ marksF bs r b.2 ≤ m) := by
          apply Classical.byContradiction
          intro z
          exact c fun b hb => Classical.byContradiction fun z2 => z ⟨b, hb, z2⟩
        obtain ⟨b, hb, hbn⟩ := c'
        have hk := v.ok b hb
        have hr := round_min (f := marksF bs r) hb
        have e : marksF bs (r + 1) = roundF bs (marksF bs r) := rfl
        by_cases c1 : marksF bs r b.1 ≤ m
        · have c2 : ¬ marksF bs r b.2 ≤ m := fun z => hbn ⟨fun _ => z, fun _ => c1⟩
          exact ⟨b.2, rngI_mem.mpr (by omega), c2, by rw [e]; omega⟩
        · have c2 : marksF bs r b.2 ≤ m := Classical.byContradiction fun z => hbn ⟨fun y => absurd y c1, fun y => absurd y z⟩
          exact ⟨b.1, rngI_mem.mpr (by omega), c1, by rw [e]; omega⟩
      obtain ⟨k, hk, h1, h2⟩ := hx
      have := count_lt (l := rngI n) (p := fun k => decide (marksF bs r k ≤ m)) (q := fun k => decide (marksF bs (r + 1) k ≤ m))
        (fun x _ hx => decide_eq_true (Int.le_trans round_le (of_decide_eq_true hx))) ⟨k, hk, decide_eq_false h1, decide_eq_true h2⟩
      unfold cnt at ih ⊢
      omega
theorem marks_le {bs : List (Int × Int)} {k : Int} : ∀ r : Nat, marksF bs r k ≤ k
  | 0 => Int.le_refl _
  | r + 1 => Int.le_trans round_le (marks_le r)
theorem relax_nn {f : Int → Int} {b : Int × Int} (h : ∀ k, 0 ≤ k → 0 ≤ f k) (hb : 0 ≤ b.1 ∧ 0 ≤ b.2) : ∀ k, 0 ≤ k → 0 ≤ relaxF f b k := fun k hk => by
  unfold relaxF
  have h1 := h _ hb.1
  have h2 := h _ hb.2
  split
  · omega
  · exact h k hk
theorem round_nn : ∀ {bs : List (Int × Int)} {f : Int → Int}, (∀ b ∈ bs, 0 ≤ b.1 ∧ 0 ≤ b.2) → (∀ k, 0 ≤ k → 0 ≤ f k) → ∀ k, 0 ≤ k → 0 ≤ roundF bs f k
  | [], _, _, h => h
  | b :: bs, f, hb, h => round_nn (bs := bs) (fun c hc => hb c (List.mem_cons_of_mem _ hc)) (relax_nn h (hb b (by simp)))
theorem Valid.nn {n : Nat} {bs : List (Int × Int)} (v : Valid n bs) : ∀ (r : Nat) (k : Int), 0 ≤ k → 0 ≤ marksF bs r k
  | 0 => fun _ h => h
  | r + 1 => round_nn (fun b hb => by have := v.ok b hb; omega) (v.nn r)
theorem relax_conn {G : List (Int × Int)} {f : Int → Int} {b : Int × Int} (hb : b ∈ G) (h : ∀ k, Reach (nearI G) k (f k)) (k : Int) : Reach (nearI G) k (relaxF f b k) := by
  have e1 : Reach (nearI G) b.1 b.2 := Reach.root.step (near_mem.mpr ⟨b, hb, .inl ⟨rfl, rfl⟩⟩)
  have e2 : Reach (nearI G) b.2 b.1 := Reach.root.step (near_mem.mpr ⟨b, hb, .inr ⟨rfl, rfl⟩⟩)
  unfold relaxF
  split
  · rename_i c
    have h1 := h b.1
    have h2 := h b.2
    have hmn : min (f b.1) (f b.2) = f b.1 ∨ min (f b.1) (f b.2) = f b.2 := by omega
    rcases c with rfl | rfl
    · rcases hmn with e | e <;> rw [e]
      · exact h1
      · exact e1.trans h2
    · rcases hmn with e | e <;> rw [e]
      · exact e2.trans h1
      · exact h2
  · exact h k
theorem round_conn {G : List (Int × Int)} : ∀ {bs : List (Int × Int)} {f : Int → Int}, (∀ b ∈ bs, b ∈ G) → (∀ k, Reach (nearI G) k (f k)) → ∀ k, Reach (nearI G) k (roundF bs f k)
  | [], _, _, h => h
  | b :: bs, f, hb, h => round_conn (bs := bs) (fun c hc => hb c (List.mem_cons_of_mem _ hc)) (relax_conn (hb b (by simp)) h)
theorem marks_conn {bs : List (Int × Int)} : ∀ (r : Nat) (k : Int), Reach (nearI bs) k (marksF bs r k)
  | 0 => fun _ => .root
  | r + 1 => round_conn (fun _ h => h) (marks_conn r)
def mkI (bs : List (Int × Int)) (n : Nat) : Int → Int := marksF bs n
theorem cnt_le {n : Nat} {f : Int → Int} {m : Int} : cnt n f m ≤ n := by
  unfold cnt
  have := List.countP_le_length (p := fun k => decide (f k ≤ m)) (l := rngI n)
  rw [rngI_len] at this
  exact this
/-- marks are equal along beams -/
theorem Valid.beam {n : Nat} {bs : List (Int × Int)} (v : Valid n bs) {b : Int × Int} (hb : b ∈ bs) : mkI bs n b.1 = mkI bs n b.2 := by
  have hk := v.ok b hb
  have cl : ∀ m : Int, 0 ≤ m → Closed bs (marksF bs n) m := fun m hm => by
    rcases v.spread hm n with h | h
    · exact h
    · have := cnt_le (n := n) (f := marksF bs n) (m := m)
      omega
  have h1 := v.nn n b.1 (by omega)
  have h2 := v.nn n b.2 (by omega)
  have a := (cl _ h1 b hb).mp (Int.le_refl _)
  have c := (cl _ h2 b hb).mpr (Int.le_refl _)
  unfold mkI
  omega
theorem Valid.same {n : Nat} {bs : List (Int × Int)} (v : Valid n bs) {j k : Int} (h : Reach (nearI bs) j k) : mkI bs n j = mkI bs n k := by
  induction h with
  | root => rfl
  | step _ e ih =>
    obtain ⟨b, hb, h⟩ := near_mem.mp e
    have := v.beam hb
    rcases h with ⟨rfl, rfl⟩ | ⟨rfl, rfl⟩
    · rw [ih, this]
    · rw [ih, this]
theorem Valid.mkmk {n : Nat} {bs : List (Int × Int)} (v : Valid n bs) (k : Int) : mkI bs n (mkI bs n k) = mkI bs n k := (v.same (marks_conn n k)).symm
theorem Valid.iff {n : Nat} {bs : List (Int × Int)} (v : Valid n bs) {j k : Int} : Reach (nearI bs) j k ↔ mkI bs n j = mkI bs n k := by
  refine ⟨v.same, fun e => ?_⟩
  have h1 := marks_conn (bs := bs) n j
  have h2 := marks_conn (bs := bs) n k
  have e' : marksF bs n j = marksF bs n k := e
  rw [e'] at h1
  exact h1.trans (h2.symm fun a b h => near_sym h)
/-- a part, by the marks -/
theorem Valid.partEq {n : Nat} {bs : List (Int × Int)} (v : Valid n bs) {r : Int} (h0 : 0 ≤ r ∧ r < (n : Nat)) : partI bs n r = (rngI n).filter fun k => decide (mkI bs n k = mkI bs n r) := by
  refine sorted_uniq (sorted_normI _) ((rngI_lt n).filter _) fun z => ?_
  rw [v.part h0, v.iff, List.mem_filter, rngI_mem]
  constructor
  · intro e
    exact ⟨v.reach h0 (v.iff.mpr e), decide_eq_true e.symm⟩
  · rintro ⟨_, e⟩
    exact (of_decide_eq_true e).symm
/-- parts_in's loop -/
def pstep (bs : List (Int × Int)) (n : Nat) (st : List (List Int) × List Int) (j : Int) : List (List Int) × List Int := if j ∈ st.2 then st else (st.1 ++ [partI bs n j], st.2 ++ partI bs n j)
def pfold (bs : List (Int × Int)) (n i : Nat) : List (List Int) × List Int := (rngI i).foldl (pstep bs n) ([], [])
theorem pfold_succ {bs : List (Int × Int)} {n i : Nat} : pfold bs n (i + 1) = pstep bs n (pfold bs n i) (i : Nat) := by unfold pfold; rw [rngI_succ, List.foldl_append]; rfl
def headsI (bs : List (Int × Int)) (n i : Nat) : List Int := (rngI i).filter fun h => decide (mkI bs n h = h)
theorem headsI_succ {bs : List (Int × Int)} {n i : Nat} : headsI bs n (i + 1) = headsI bs n i ++ (if mkI bs n (i : Nat) = (i : Nat) then [((i : Nat) : Int)] else []) := by
  unfold headsI
  rw [rngI_succ, List.filter_append]
  congr 1
  by_cases c : mkI bs n (i : Nat) = (i : Nat) <;> simp [c]
theorem Valid.pfold {n : Nat} {bs : List (Int × Int)} (v : Valid n bs) : ∀ i : Nat, i ≤ n → (K3.pfold bs n i).1 = (headsI bs n i).map (partI bs n) ∧ (∀ k, k ∈ (K3.pfold bs n i).2 ↔ 0 ≤ k ∧ k < (n : Nat) ∧ mkI bs n k < (i : Nat)) ∧ (K3.pfold bs n i).2.length ≤ i * n
  | 0, _ => ⟨rfl, fun k => ⟨fun h => absurd h (by simp [K3.pfold, rngI]), fun h => by have := v.nn n k h.1; have h2 := h.2.2; unfold mkI at h2; omega⟩, by simp [K3.pfold, rngI]⟩
  | i + 1, hi => by
    obtain ⟨h1, h2, h3⟩ := v.pfold i (by omega)
    rw [pfold_succ, headsI_succ]
    have hi' : (0 : Int) ≤ (i : Nat) ∧ ((i : Nat) : Int) < (n : Nat) := by omega
    have hle := marks_le (bs := bs) (k := (i : Nat)) n
    have hmem := h2 ((i : Nat) : Int)
    unfold pstep
    by_cases c : mkI bs n (i : Nat) = (i : Nat)
    · have hn : ¬ ((i : Nat) : Int) ∈ (K3.pfold bs n i).2 := fun z => by have := (hmem.mp z).2.2; omega
      rw [if_neg hn, if_pos c]
      refine ⟨by rw [h1, List.map_append]; rfl, fun k => ?_, ?_⟩
      · rw [List.mem_append, h2 k, v.part hi', v.iff, c]
        constructor
        · rintro (h | h)
          · omega
          · have := v.reach hi' (v.iff.mpr (c.trans h))
            omega
        · intro h
          by_cases c2 : mkI bs n k < (i : Nat)
          · exact .inl ⟨h.1, h.2.1, c2⟩
          · exact .inr (by omega)
      · have hl : (partI bs n (i : Nat)).length ≤ n := Nat.le_trans (normI_len _) (v.row hi')
        rw [List.length_append, Nat.succ_mul]
        omega
    · have hlt : mkI bs n (i : Nat) < (i : Nat) := by unfold mkI at c ⊢; omega
      have hn : ((i : Nat) : Int) ∈ (K3.pfold bs n i).2 := hmem.mpr ⟨hi'.1, hi'.2, hlt⟩
      rw [if_pos hn, if_neg c, List.append_nil]
      refine ⟨h1, fun k => ?_, by rw [Nat.succ_mul]; omega⟩
      rw [h2 k]
      constructor
      · intro h; omega
      · rintro ⟨ha, hb, hc⟩
        refine ⟨ha, hb, ?_⟩
        have : mkI bs n k ≠ (i : Nat) := fun e => c (by rw [← e]; exact v.mkmk k)
        omega
def partsI (bs : List (Int × Int)) (n : Nat) : List (List Int) := (headsI bs n n).map (partI bs n)
end K3

set_option Elab.async false
set_option linter.all false
set_option maxRecDepth 100000
set_option maxHeartbeats 4000000
/-! Walks: set_of a dict, grown_from, parts_in, parts, part_of. -/
namespace K3
open PySem PySem.Spec PyProof.Rows L2
theorem walk_l {K : PySem.W.Frag} {G : Hp} {p : Addr} {xs : List V} {ds : List PyData} (e : G p = some (.lst xs)) (hx : DaL G xs ds) : WalkD (Itl K p) G ds := by
  refine ⟨fun i H s hi => ?_, fun H s => ⟨xs, SqL.of (s _ _ e), Nat.le_of_eq hx.1⟩, fun i G' H x H' d s1 s2 hd y => ?_⟩
  · obtain ⟨v, hv, _⟩ := hx.at (List.getElem?_eq_getElem hi)
    exact ⟨xs, v, SqL.of (s _ _ e), hv⟩
  · obtain ⟨rfl, y⟩ := y
    exact ⟨G', Gro.refl s2, (hx.2 i x d (y xs (SqL.of (s2 _ _ (s1 _ _ e)))) hd).mono s1⟩
theorem for_J {J : It} {g : TG} {tb : TS} {D : Ends} {σ : L2.St} {G1 G0 H : Hp} {ds : List PyData} (W : WalkD J G1 ds) (Pv : Nat → L2.St → Hp → Hp → Prop) (h0 : Pv 0 σ G0 H) (hS : ∀ i σ' G' H', Pv i σ' G' H' → Same G1 G' ∧ Same G' H')
    (hT : ∀ i d x σ' G' H' G2 H2, ds[i]? = some d → Pv i σ' G' H' → Gro G' H' G2 H2 → Da G2 x d → g x σ' H2 fun σ3 H3 => tb { D with nx := fun σ4 H4 => ∃ G4, Pv (i + 1) σ4 G4 H4, ct := fun σ4 H4 => ∃ G4, Pv (i + 1) σ4 G4 H4, bk := D.nx } σ3 H3)
    (hE : ∀ σ' G' H', Pv ds.length σ' G' H' → D.nx σ' H') :
    ∃ W : Nat → Nat → L2.St → Hp → Prop, (∃ m, W 0 m σ H) ∧ ∀ i m σ H, W i m σ H →
      (J.stop i H ∧ D.nx σ H) ∨ (J.go i H ∧ ∃ N : L2.St → Hp → Prop, (∀ σ' H', N σ' H' → ∃ m', m' < m ∧ W (i + 1) m' σ' H') ∧ ∀ x H', J.yld i H x H' → g x σ H' fun σ2 H2 => tb { D with nx := N, ct := N, bk := D.nx } σ2 H2) := by
  refine ⟨fun i m σ' H' => m = ds.length - i ∧ i ≤ ds.length ∧ ∃ G', Pv i σ' G' H', ⟨ds.length, by simp, Nat.zero_le _, G0, h0⟩, ?_⟩
  rintro i m σ' H' ⟨rfl, hi, G', p⟩
  obtain ⟨s1, s2⟩ := hS i σ' G' H' p
  by_cases hlt : i < ds.length
  · refine .inr ⟨W.goes i H' (s1.trans s2) hlt, fun σ4 H4 => ∃ G4, Pv (i + 1) σ4 G4 H4, fun σ4 H4 p' => ⟨ds.length - (i + 1), by omega, rfl, hlt, p'⟩, fun x H2 y => ?_⟩
    have hd := List.getElem?_eq_getElem hlt
    obtain ⟨G3, a3, hx⟩ := W.yields i G' H' x H2 _ s1 s2 hd y
    exact hT i _ x σ' G' H' G3 H2 hd p a3 hx
  · have e : i = ds.length := by omega
    subst e
    exact .inl ⟨W.stops H' (s1.trans s2), hE σ' G' H' p⟩
theorem cut_at {α : Type} {xs : List α} {i : Nat} : (xs.drop (HT.sIx xs.length 0 (some (i : Nat)))).take (HT.sIx xs.length xs.length (some ((i : Nat) + 1)) - HT.sIx xs.length 0 (some (i : Nat))) = xs[i]?.toList := by
  have e1 : HT.sIx xs.length 0 (some ((i : Nat) : Int)) = min i xs.length := HT.sIx_nat _ _ _
  have e2 : HT.sIx xs.length xs.length (some (((i : Nat) : Int) + 1)) = min (i + 1) xs.length := HT.sIx_nat _ _ (i + 1)
  rw [e1, e2]
  by_cases c : i < xs.length
  · have a1 : min i xs.length = i := by omega
    have a2 : min (i + 1) xs.length - i = 1 := by omega
    rw [a1, a2, List.getElem?_eq_getElem c, List.drop_eq_getElem_cons c]
    rfl
  · have a1 : min i xs.length = xs.length := by omega
    rw [a1, List.getElem?_eq_none (by omega), List.drop_length]
    simp
theorem any_far {far : Int} : ∀ {row : List Int}, (row.any fun a => decide ((Sum.inl a : Key) = Sum.inl far)) = decide (far ∈ row)
  | [] => rfl
  | a :: r => by
    rw [List.any_cons, any_far]
    by_cases c : far = a
    · subst c; simp
    · have c' : ¬ a = far := fun z => c z.symm
      simp [c, c']
theorem keys_val {kvs : List (Key × V)} {row : List Int} (h : kvs.map (·.1) = row.map Sum.inl) (far : Int) : (valV kvs (.inl far)).isSome = decide (far ∈ row) := by
  rw [← valV_any]
  have e : (kvs.any fun kv => decide (kv.1 = (Sum.inl far : Key))) = (kvs.map (·.1)).any fun k => decide (k = (Sum.inl far : Key)) := by rw [List.any_map]; rfl
  rw [e, h, List.any_map]
  exact any_far
section
variable {P : Program} {w : World} {K : PySem.W.Frag} {mg : Str → Option Value} {base : Heap}
/-- set_of of a dict with int keys -/
def spSetD : Sp := fun vs H Q _ => ∃ G p kvs ns, Same G H ∧ vs = [.ref p] ∧ H p = some (.dK kvs) ∧ kvs.map (·.1) = ns.map Sum.inl ∧ ns.length ≤ 20 ∧ ∀ v G' H', Gro G H G' H' → Da G' v (.tuple (intsD (normI ns))) → Q v H'
theorem w_set_ofD (B : Bt mg) (D : Def K mg "set_of" s_p_set_of) : FnE P w K mg base CX0 1 "set_of" ["things"] spSetD := by
  refine D.fnE b_p_set_of fun f fd F => F.ok sc_p_set_of (fun vs H Q E h => ?_) (fun cdv A outer s H vs Q E hr h => ?_)
  · obtain ⟨_, _, _, _, _, rfl, _⟩ := h; rfl
  obtain ⟨G, p, kvs, ns, sG, rfl, hp, hk, hl, q⟩ := h
  refine ⟨_, PSs.nox (pss_one (ps_ret (pe_callTy call_tuple_of rfl B.tuple bo_tuple (pa_cons (pe_callB (cr_sortedSet rfl) rfl B.sorted bo_sorted (pa_cons (pe_callTy (cr_setD rfl) rfl B.set bo_set (pa_cons (pv 0) pa_nil)) pa_nil)) pa_nil)))), ?_⟩
  refine ⟨_, rfl, p, kvs, ns, rfl, hp, hk, hl, fun a c ha hc => ?_⟩
  refine ⟨a, _, c, rfl, upd_same, by omega, fun ms r hs hm hl2 hr2 => ?_⟩
  have e : ms = normI ns := norm_uniq hs fun z => by rw [hm z]; exact decide_eq_true_iff
  subst e
  have a2 : Gro G H G (upd H a (SetO w a (fun j => decide (j ∈ ns)) c)) := Gro.loc sG ha
  have a3 := a2.trans (Gro.loc a2.s hr2 (o := .lst ((normI ns).map V.int)))
  refine ⟨r, (normI ns).map V.int, rfl, .inl ⟨SqL.of upd_same, fun t ht => ?_⟩⟩
  exact q _ (upd G t _) _ (a3.trans (Gro.new a3.s ht)) (Da.mk_t upd_same DaL.of_ints)
/-- grown_from: a dict whose keys are the row -/
def spGrow : Sp := fun vs H Q _ => ∃ G n bs r, Same G H ∧ DaL G vs [encF n bs, .int r] ∧ Valid n bs ∧ (0 ≤ r ∧ r < (n : Nat)) ∧ ∀ p kvs G' H', Gro G H G' H' → G' p = none → H' p = some (.dK kvs) → kvs.map (·.1) = (growI bs r n).map Sum.inl → Q (.ref p) H'
theorem addN_in {row : List Int} {f : Int} (c : f ∈ row) : addN row f = row := by unfold addN; rw [if_pos c]
theorem addN_out {row : List Int} {f : Int} (c : ¬ f ∈ row) : addN row f = row ++ [f] := by unfold addN; rw [if_neg c]
theorem addN_len {row : List Int} {f : Int} : (addN row f).length ≤ row.length + 1 := by
  unfold addN
  split
  · omega
  · simp
theorem foldN_len : ∀ {fs row : List Int}, (fs.foldl addN row).length ≤ row.length + fs.length
  | [], row => by simp
  | f :: fs, row => by
    have h1 := foldN_len (fs := fs) (row := addN row f)
    have h2 := addN_len (row := row) (f := f)
    rw [List.foldl_cons, List.length_cons]
    omega
structure GI (v : V) (r : Int) (p q : Addr) (G H0 : Hp) (row : List Int) (o1 o2 o3 : Option V) (σ' : L2.St) (G' H' : Hp) : Prop where
  ex : ∃ kvs, H' p = some (.dK kvs) ∧ kvs.map (·.1) = row.map Sum.inl
  st : σ' = [some v, some (.int r), some (.ref p), some (.ref q), o1, o2, o3]
  gro : Gro G H0 G' H'
  gp : G' p = none
  gq : G' q = none
  hq : H' q = some (.lst (row.map V.int))
theorem GI.go {v : V} {r : Int} {p q : Addr} {G H0 G' H' G2 H2 : Hp} {row : List Int} {o1 o2 o3 : Option V} {σ' : L2.St} (I : GI v r p q G H0 row o1 o2 o3 σ' G' H') (a : Gro G' H' G2 H2) : GI v r p q G H0 row o1 o2 o3 σ' G2 H2 := by
  obtain ⟨kvs, h1, h2⟩ := I.ex
  exact ⟨⟨kvs, a.k _ _ h1, h2⟩, I.st, I.gro.trans a, a.out I.gp h1, a.out I.gq I.hq, a.k _ _ I.hq⟩
theorem w_grown_from (B : Bt mg) (F1 : FnE P w K mg base CX0 2 "near_in" ["frame", "jack"] (spF pre_near)) (D : Def K mg "grown_from" s_p_grown_from) : FnE P w K mg base CX0 3 "grown_from" ["frame", "root"] spGrow := by
  refine D.fnE b_p_grown_from fun f fd F => F.ok sc_p_grown_from (fun vs H Q E h => ?_) (fun cdv A outer s H vs Q E hr h => ⟨_, PSs.nox (x_p_grown_from B hr (Nat.le_refl _) F1 (by decide)), ?_⟩)
  · obtain ⟨_, _, _, _, _, hv, _⟩ := h; rw [hv.1]; rfl
  obtain ⟨G, n, bs, r, sG, hvs, hV, h0, q⟩ := h
  obtain ⟨v, u, rfl, hv, hu⟩ := hvs.two
  have eu := hu.of_int
  subst eu
  have hfew := hV.few
  have hnine := hV.nine
  intro p hp
  refine ⟨_, rfl, upd_same, [(.inl r, .non)], rfl, (show 1 ≤ 15 by decide), _, rfl, sz_of (show 1 ≤ 100000 by decide), fun qa hqa => ?_⟩
  have hpq : qa ≠ p := fun e => by subst e; rw [upd_same] at hqa; cases hqa
  rw [upd_upd] at hqa
  rw [upd_upd]
  refine ⟨_, _, rfl, ?_⟩
  have hH0q : H qa = none := by rw [upd_ne hpq] at hqa; exact hqa
  have gro0 : Gro G H G (upd (upd H p (.dK (mergeK [] [(.inl r, .non)]))) qa (.lst [.int r])) := (Gro.loc sG hp).trans (Gro.loc ((sG.trans (same_upd hp))) hqa)
  have I0 : GI v r p qa G H [r] none none none [some v, some (.int r), some (.ref p), some (.ref qa), none, none, none] G (upd (upd H p (.dK (mergeK [] [(.inl r, .non)]))) qa (.lst [.int r])) :=
    ⟨⟨[(.inl r, .non)], by rw [upd_ne hpq.symm, upd_same]; rfl, rfl⟩, rfl, gro0, sG.free hp, sG.free hH0q, upd_same⟩
  refine for_D (sd_rng1 (n := (n : Nat)) (ea_cons (ed_op (ed_var rfl hv) ed_int (rd_xT at0)) ea_nil) (by omega) (by omega)) gro0.s fun G1 H1 a1 => ?_
  refine ⟨fun i σ' G' H' => Same G1 G' ∧ ∃ o1 o2 o3, GI v r p qa G H (growI bs r i) o1 o2 o3 σ' G' H', ?_, ?_, ?_, ?_⟩
  · exact ⟨Same.refl _, none, none, none, I0.go a1⟩
  · rintro i σ' G' H' ⟨s1, _, _, _, I⟩
    exact ⟨s1, I.gro.s⟩
  · rintro i d x σ' G' H' G2 H2 hd ⟨s1, o1, o2, o3, I⟩ a2 hx
    obtain ⟨hi, rfl⟩ := upto_at.mp hd
    have ex := hx.of_int
    subst ex
    have hin : i < n := by simpa using hi
    have I2 := I.go a2
    obtain ⟨kvs, hk1, hk2⟩ := I2.ex
    have est := I2.st
    subst est
    have hrow : (growI bs r i).length ≤ n := hV.row h0
    -- the slice of the row
    refine .inl ⟨_, rfl, _, rfl, (i : Nat), rfl, _, rfl, .inl ⟨(i : Nat), 1, rfl, rfl, (i : Nat) + 1, rfl, .inr ⟨qa, _, rfl, SqL.of I2.hq, fun sa hsa => ⟨sa, rfl, ⟨_, SqL.of upd_same⟩, ?_⟩⟩⟩⟩
    have ecut : cutV ((growI bs r i).map V.int) (some ((i : Nat) : Int)) (some ((i : Nat) + 1 : Int)) = ((growI bs r i)[i]?.toList).map V.int := by
      unfold cutV
      rw [cut_at, List.getElem?_map]
      cases (growI bs r i)[i]? <;> rfl
    rw [ecut]
    have a3 : Gro G2 H2 (upd G2 sa (.lst (((growI bs r i)[i]?.toList).map V.int))) (upd H2 sa (.lst (((growI bs r i)[i]?.toList).map V.int))) := Gro.new a2.s hsa
    have I3 : GI v r p qa G H (growI bs r i) (some (.int (i : Nat))) o2 o3 [some v, some (.int r), some (.ref p), some (.ref qa), some (.int (i : Nat)), o2, o3] _ _ := (show GI v r p qa G H (growI bs r i) (some (.int (i : Nat))) o2 o3 [some v, some (.int r), some (.ref p), some (.ref qa), some (.int (i : Nat)), o2, o3] G2 H2 from ⟨I2.ex, rfl, I2.gro, I2.gp, I2.gq, I2.hq⟩).go a3
    have esucc : growI bs r (i + 1) = turnN (nearI bs) (growI bs r i) i := by unfold growI growN; rw [List.range_succ, List.foldl_append]; rfl
    have hdl : DaL (upd G2 sa (.lst (((growI bs r i)[i]?.toList).map V.int))) (((growI bs r i)[i]?.toList).map V.int) (intsD ((growI bs r i)[i]?.toList)) := DaL.of_ints
    refine for_J (walk_l upd_same hdl) (fun t σ' G' H' => Same (upd G2 sa (.lst (((growI bs r i)[i]?.toList).map V.int))) G' ∧ ∃ o2 o3, GI v r p qa G H (if t = 0 then growI bs r i else turnN (nearI bs) (growI bs r i) i) (some (.int (i : Nat))) o2 o3 σ' G' H') ⟨Same.refl _, o2, o3, I3⟩ ?_ ?_ ?_
    · rintro t σ' G' H' ⟨s2, _, _, I⟩
      exact ⟨s2, I.gro.s⟩
    · rintro t d x σ' G' H' G4 H4 hd4 ⟨s4, o2, o3, I4⟩ a4 hx4
      cases hj : (growI bs r i)[i]? with
      | none => rw [hj] at hd4; simp [intsD] at hd4
      | some j =>
        rw [hj] at hd4 s4
        have ht : t = 0 ∧ d = .int j := by
          cases t with
          | zero => simpa [intsD, eq_comm] using hd4
          | succ t => simp [intsD] at hd4
        obtain ⟨rfl, rfl⟩ := ht
        have exj := hx4.of_int
        subst exj
        rw [if_pos rfl] at I4
        have I5 := I4.go a4
        have est5 := I5.st
        subst est5
        have sG4 : Same G G4 := I5.gro.g
        refine for_D (so_T (ed_call (pre := pre_near) (ea_cons (ed_var rfl (hv.mono sG4)) (ea_cons (ed_var rfl (.int j)) ea_nil)) ⟨n, bs, j, rfl, by omega, rfl⟩)) a4.s fun G6 H6 a6 => ?_
        refine ⟨fun u σ' G' H' => Same G6 G' ∧ ∃ o3, GI v r p qa G H (((nearI bs j).take u).foldl addN (growI bs r i)) (some (.int (i : Nat))) (some (.int j)) o3 σ' G' H', ?_, ?_, ?_, ?_⟩
        · refine ⟨Same.refl _, o3, ?_⟩
          exact (show GI v r p qa G H (growI bs r i) (some (.int (i : Nat))) (some (.int j)) o3 [some v, some (.int r), some (.ref p), some (.ref qa), some (.int (i : Nat)), some (.int j), o3] G4 H4 from ⟨I5.ex, rfl, I5.gro, I5.gp, I5.gq, I5.hq⟩).go a6
        · rintro u σ' G' H' ⟨s7, _, I⟩
          exact ⟨s7, I.gro.s⟩
        · rintro u d x σ' G' H' G8 H8 hd8 ⟨s8, o3, I8⟩ a8 hx8
          obtain ⟨far, hfar, rfl⟩ := map_at hd8
          have exf := hx8.of_int
          subst exf
          have I9 := I8.go a8
          have est9 := I9.st
          subst est9
          obtain ⟨kvs9, hk9, hkk9⟩ := I9.ex
          have etk : (nearI bs j).take (u + 1) = (nearI bs j).take u ++ [far] := take_snoc hfar
          have eval := keys_val hkk9 far
          have hlen := foldN_len (fs := (nearI bs j).take u) (row := growI bs r i)
          have hlen2 : ((nearI bs j).take u).length ≤ 12 := by
            rw [List.length_take]
            have h1 := normI_len (others bs j)
            have h2 := others_len (bs := bs) (k := j)
            unfold nearI
            omega
          have hkl : kvs9.length = (((nearI bs j).take u).foldl addN (growI bs r i)).length := by have := congrArg List.length hkk9; simpa using this
          refine ⟨_, rfl, _, rfl, .inl ⟨p, valV kvs9 (.inl far), rfl, DGet.k (k := .inl far) hk9, _, rfl, ?_⟩⟩
          rw [eval]
          by_cases c : far ∈ ((nearI bs j).take u).foldl addN (growI bs r i)
          · rw [decide_eq_true c]
            refine ite2 (fun z => by cases z) (fun _ => ?_)
            refine ⟨G8, s8.trans a8.g, some (.int far), ?_⟩
            rw [etk, List.foldl_append]
            have e : [far].foldl addN (((nearI bs j).take u).foldl addN (growI bs r i)) = ((nearI bs j).take u).foldl addN (growI bs r i) := addN_in c
            rw [e]
            exact ⟨I9.ex, rfl, I9.gro, I9.gp, I9.gq, I9.hq⟩
          · rw [decide_eq_false c]
            refine ite2 (fun _ => ?_) (fun z => absurd rfl z)
            have hput : putK kvs9 (.inl far) (.int j) = kvs9 ++ [(.inl far, .int j)] := by
              unfold putK
              rw [valV_any, eval, decide_eq_false c]
              rfl
            refine ⟨_, rfl, _, rfl, _, rfl, p, _, rfl, DPut.k (k := .inl far) hk9 (sz_lt (by omega)), ?_⟩
            rw [hput]
            have hqne : qa ≠ p := hpq
            have hq9 : (upd H8 p (.dK (kvs9 ++ [(.inl far, .int j)]))) qa = some (.lst ((((nearI bs j).take u).foldl addN (growI bs r i)).map V.int)) := by rw [upd_ne hqne]; exact I9.hq
            refine ⟨_, rfl, .inl ⟨rfl, _, SqL.of hq9⟩, _, rfl, qa, _, _, rfl, rfl, hq9, sz_lt (by rw [List.length_map]; omega), G8, s8.trans a8.g, some (.int far), ?_⟩
            rw [etk, List.foldl_append]
            have e : [far].foldl addN (((nearI bs j).take u).foldl addN (growI bs r i)) = ((nearI bs j).take u).foldl addN (growI bs r i) ++ [far] := addN_out c
            rw [e]
            refine ⟨⟨kvs9 ++ [(.inl far, .int j)], by rw [upd_ne hqne.symm, upd_same], by rw [List.map_append, hkk9, List.map_append]; rfl⟩, rfl, (I9.gro.mut hp I9.gp).mut hH0q I9.gq, I9.gp, I9.gq, by rw [upd_same, List.map_append]; rfl⟩
        · rintro σ' G' H' ⟨s9, o3, I9⟩
          rw [show (intsD (nearI bs j)).length = (nearI bs j).length by simp [intsD], List.take_length] at I9
          refine ⟨G', (s4.trans a4.g).trans (a6.g.trans s9), some (.int j), o3, ?_⟩
          rw [if_neg (by decide)]
          have e : turnN (nearI bs) (growI bs r i) i = (nearI bs j).foldl addN (growI bs r i) := by unfold turnN; rw [hj]
          rw [e]
          exact I9
    · rintro σ' G' H' ⟨s5, o2, o3, I5⟩
      refine ⟨G', s1.trans (a2.g.trans (a3.g.trans s5)), some (.int (i : Nat)), o2, o3, ?_⟩
      rw [esucc]
      cases hj : (growI bs r i)[i]? with
      | none =>
        rw [hj] at I5
        have e : turnN (nearI bs) (growI bs r i) i = growI bs r i := by unfold turnN; rw [hj]
        rw [e]
        simpa [intsD] using I5
      | some j =>
        rw [hj] at I5
        simpa [intsD] using I5
  · rintro σ' G' H' ⟨s1, o1, o2, o3, I⟩
    rw [upto_len] at I
    have e : ((n : Nat) : Int).toNat = n := by omega
    rw [e] at I
    obtain ⟨kvs, h1, h2⟩ := I.ex
    have est := I.st
    subst est
    exact ⟨_, rfl, q p kvs G' H' I.gro I.gp h1 h2⟩
/-- set_of(grown_from(frame, root)): a part -/
theorem ed_part {σ : L2.St} {G : Hp} {ta tb : TE} {E E' : XK} {n : Nat} {bs : List (Int × Int)} {r : Int} (ha : EvD ta σ G (encF n bs)) (hb : EvD tb σ G (.int r)) (hV : Valid n bs) (h0 : 0 ≤ r ∧ r < (n : Nat)) :
    EvD (tCall spSetD [] E (tCons (tCall spGrow [] E' (tCons ta (tCons tb tNil))) tNil)) σ G (.tuple (intsD (partI bs n r))) := fun H s Q q => by
  show (tCons ta (tCons tb tNil)) σ H (fun vs H1 => spGrow (vs ++ []) H1 (fun x H2 => spSetD ([x] ++ []) H2 Q E) E')
  exact (ea_cons ha (ea_cons hb ea_nil)) H s _ fun vs G1 H1 a1 hv => ⟨G1, n, bs, r, a1.s, by rw [List.append_nil]; exact hv, hV, h0, fun p kvs G2 H2 a2 hp h1 h2 =>
    ⟨G2, p, kvs, growI bs r n, a2.s, rfl, h1, h2, by have := hV.row h0 (i := n); have := hV.nine; omega, fun v G3 H3 a3 hv3 => q v G3 H3 ((a1.trans a2).trans a3) hv3⟩⟩
def ptsD (ps : List (List Int)) : List PyData := ps.map fun p => .tuple (intsD p)
def pre_partsin : List PyData → PyData → Prop := fun ds d => ∃ (n : Nat) (bs : List (Int × Int)), ds = [encF n bs] ∧ Valid n bs ∧ d = .tuple (ptsD (partsI bs n))
theorem w_parts_in (B : Bt mg) (F1 : FnE P w K mg base CX0 1 "set_of" ["things"] spSetD) (F2 : FnE P w K mg base CX0 3 "grown_from" ["frame", "root"] spGrow) (D : Def K mg "parts_in" s_p_parts_in) : FnE P w K mg base CX0 4 "parts_in" ["frame"] (spF pre_partsin) := by
  refine D.pure b_p_parts_in sc_p_parts_in (fun ds d ⟨n, _, e, _⟩ => by rw [e]; rfl) fun f cdv A outer s H E G vs ds d hr hv hp => ⟨_, x_p_parts_in B hr (Nat.le_refl _) F1 (by decide) F2 (by decide), ?_⟩
  obtain ⟨n, bs, rfl, hV, rfl⟩ := hp
  obtain ⟨v, rfl, hx⟩ := hv.one
  have hnine := hV.nine
  intro H0 s0 D q
  refine ⟨sz_of (show 0 ≤ 100000 by decide), fun p hp => ⟨sz_of (show 0 ≤ 100000 by decide), fun r hr' => ⟨_, _, rfl, ?_⟩⟩⟩
  have hrp : r ≠ p := fun e => by subst e; rw [upd_same] at hr'; cases hr'
  have hr0 : H0 r = none := by rw [upd_ne hrp] at hr'; exact hr'
  have gro0 : Gro G H0 G (upd (upd H0 p (.lst [])) r (.lst [])) := (Gro.loc s0 hp).trans (Gro.loc (s0.trans (same_upd hp)) hr')
  refine for_D (sd_rng1 (n := (n : Nat)) (ea_cons (ed_op (ed_var rfl hx) ed_int (rd_xT at0)) ea_nil) (by omega) (by omega)) gro0.s fun G1 H1 a1 => ?_
  refine ⟨fun i σ' G' H' => Same G1 G' ∧ i ≤ n ∧ ∃ o1 o2 xs, σ' = [some v, some (.ref p), some (.ref r), o1, o2] ∧ Gro G H0 G' H' ∧ G' p = none ∧ G' r = none ∧ H' p = some (.lst xs) ∧ DaL G' xs (ptsD (pfold bs n i).1) ∧ H' r = some (.lst ((pfold bs n i).2.map V.int)), ?_, ?_, ?_, ?_⟩
  · have hp1 : (upd (upd H0 p (.lst [])) r (.lst [])) p = some (.lst []) := by rw [upd_ne hrp.symm, upd_same]
    exact ⟨Same.refl _, by omega, none, none, [], rfl, gro0.trans a1, a1.out (s0.free hp) hp1, a1.out (s0.free hr0) upd_same, a1.k _ _ hp1, DaL.nil, a1.k _ _ upd_same⟩
  · rintro i σ' G' H' ⟨s1, _, _, _, _, _, a, _⟩
    exact ⟨s1, a.s⟩
  · rintro i d x σ' G' H' G2 H2 hd ⟨s1, hin, o1, o2, xs, rfl, a, h1, h2, h3, h4, h5⟩ a2 hx2
    obtain ⟨hi, rfl⟩ := upto_at.mp hd
    have ex := hx2.of_int
    subst ex
    have hi' : i < n := by simpa using hi
    obtain ⟨f1, f2, f3⟩ := hV.pfold i hin
    have h3' := a2.k _ _ h3
    have h5' := a2.k _ _ h5
    have hlen : (pfold bs n i).2.length ≤ 81 := Nat.le_trans f3 (Nat.mul_le_mul (show i ≤ 9 by omega) hnine)
    have hlen1 : xs.length ≤ n := by
      rw [h4.1, ptsD, List.length_map, f1, List.length_map]
      have := List.length_filter_le (fun h => decide (mkI bs n h = h)) (rngI i)
      rw [rngI_len] at this
      unfold headsI
      omega
    refine ⟨_, rfl, _, rfl, r, _, rfl, .inl (SqL.of h5'), rfl, flat_ints, _, rfl, ?_⟩
    rw [if_pos rfl, inV_ints]
    by_cases c : ((i : Nat) : Int) ∈ (pfold bs n i).2
    · rw [decide_eq_true c]
      refine ite2 (fun z => by cases z) (fun _ => ?_)
      refine ⟨G2, s1.trans a2.g, by omega, some (.int (i : Nat)), o2, xs, rfl, a.trans a2, a2.out h1 h3, a2.out h2 h5, h3', ?_, ?_⟩
      · rw [pfold_succ]; unfold pstep; rw [if_pos c]; exact h4.mono a2.g
      · rw [pfold_succ]; unfold pstep; rw [if_pos c]; exact h5'
    · rw [decide_eq_false c]
      refine ite2 (fun _ => ?_) (fun z => absurd rfl z)
      have sG2 : Same G G2 := a.g.trans a2.g
      refine ed_part (ed_var (i := 0) rfl (hx.mono sG2)) (ed_var (i := 3) rfl (.int _)) hV (by omega) H2 a2.s _ fun pt G3 H3 a3 hpt => ?_
      obtain ⟨t, ts, rfl, et, hts⟩ := hpt.of_tup
      have ets := hts.intsD
      subst ets
      have h3'' := a3.k _ _ h3'
      have h5'' := a3.k _ _ h5'
      have g1 := (a2.trans a3).out h1 h3
      have g2 := (a2.trans a3).out h2 h5
      refine ⟨_, rfl, .inl ⟨rfl, _, SqL.of h3''⟩, _, rfl, p, _, _, rfl, rfl, h3'', sz_lt (by omega), ?_⟩
      have h5p : (upd H3 p (.lst (xs ++ [.ref t]))) r = some (.lst ((pfold bs n i).2.map V.int)) := by rw [upd_ne hrp]; exact h5''
      have htp : (upd H3 p (.lst (xs ++ [.ref t]))) t = some (.tup ((partI bs n (i : Nat)).map V.int)) := by
        rw [upd_ne (ne_of_none et g1)]
        exact a3.s _ _ et
      have hpl : (partI bs n (i : Nat)).length ≤ n := Nat.le_trans (normI_len _) (hV.row (by omega))
      refine ⟨_, rfl, .inl ⟨rfl, _, SqL.of h5p⟩, _, rfl, r, t, _, _, rfl, rfl, h5p, SqT.of htp, sz_of (by rw [List.length_map, List.length_map]; omega), ?_⟩
      refine ⟨G3, s1.trans (a2.g.trans a3.g), by omega, some (.int (i : Nat)), some (.ref t), xs ++ [.ref t], rfl, (((a.trans a2).trans a3).mut hp g1).mut hr0 g2, g1, g2, by rw [upd_ne hrp.symm, upd_same], ?_, ?_⟩
      · rw [pfold_succ]
        unfold pstep
        rw [if_neg c]
        show DaL G3 (xs ++ [.ref t]) (((pfold bs n i).1 ++ [partI bs n (i : Nat)]).map fun p => .tuple (intsD p))
        rw [List.map_append]
        exact (h4.mono (a2.g.trans a3.g)).snoc hpt
      · rw [upd_same, pfold_succ]
        unfold pstep
        rw [if_neg c, List.map_append]
  · rintro σ' G' H' ⟨s1, hin, o1, o2, xs, rfl, a, h1, h2, h3, h4, h5⟩
    rw [upto_len, show ((n : Nat) : Int).toNat = n by omega] at h4
    rw [(hV.pfold n (Nat.le_refl _)).1] at h4
    have a' := a.join hp h1 h3
    have hd : Da (upd G' p (.lst xs)) (.ref p) (.list (ptsD (partsI bs n))) := Da.mk_l upd_same (h4.mono (same_upd h1))
    exact rd_ret (ed_cb (ea_cons (ed_var (i := 1) rfl hd) ea_nil) rd_tupL) H' a'.s D fun v G2 H2 a2 hv2 => q v G2 H2 (a'.trans a2) hv2
def pre_parts : List PyData → PyData → Prop := fun ds d => ∃ (x : PyData) (n : Nat) (bs : List (Int × Int)), ds = [x] ∧ FrmD x n bs ∧ Valid n bs ∧ d = .tuple (ptsD (partsI bs n))
theorem w_parts (B : Bt mg) (F1 : FnE P w K mg base CX0 4 "parts_in" ["frame"] (spF pre_partsin)) (F2 : FnE P w K mg base CX0 6 "sure_frame" ["frame"] (spF pre_sure)) (D : Def K mg "parts" s_p_parts) : FnE P w K mg base CX0 7 "parts" ["frame"] (spF pre_parts) := by
  refine D.pure b_p_parts sc_p_parts (fun ds d ⟨x, n, _, e, _⟩ => by rw [e]; rfl) fun f cdv A outer s H E G vs ds d hr hv hp => ⟨_, x_p_parts B hr (Nat.le_refl _) F1 (by decide) F2 (by decide), ?_⟩
  obtain ⟨x, n, bs, rfl, hx, hV, rfl⟩ := hp
  obtain ⟨v, rfl, hv⟩ := hv.one
  exact rd_ret (ed_call (ea_cons (ed_call (ea_cons (ed_var rfl (by assumption)) ea_nil) ⟨x, n, bs, rfl, hx, hV, rfl⟩) ea_nil) ⟨n, bs, rfl, hV, rfl⟩)
def pre_partof : List PyData → PyData → Prop := fun ds d => ∃ (x : PyData) (n : Nat) (bs : List (Int × Int)) (k : Int), ds = [x, .int k] ∧ FrmD x n bs ∧ Valid n bs ∧ 0 ≤ k ∧ k < (n : Nat) ∧ d = .tuple (intsD (partI bs n k))
theorem w_part_of (B : Bt mg) (F1 : FnE P w K mg base CX0 6 "sure_frame" ["frame"] (spF pre_sure)) (F2 : FnE P w K mg base CX0 1 "set_of" ["things"] spSetD) (F3 : FnE P w K mg base CX0 3 "grown_from" ["frame", "root"] spGrow) (F4 : FnE P w K mg base CX0 4 "sure_jack" ["frame", "jack"] (spF pre_sjack))
    (D : Def K mg "part_of" s_p_part_of) : FnE P w K mg base CX0 7 "part_of" ["frame", "jack"] (spF pre_partof) := by
  refine D.pure b_p_part_of sc_p_part_of (fun ds d ⟨x, n, _, _, e, _⟩ => by rw [e]; rfl) fun f cdv A outer s H E G vs ds d hr hv hp => ⟨_, x_p_part_of B hr (Nat.le_refl _) F1 (by decide) F2 (by decide) F3 (by decide) F4 (by decide), ?_⟩
  obtain ⟨x, n, bs, k, rfl, hx, hV, h0, h1, rfl⟩ := hp
  obtain ⟨v, u, rfl, hv, hu⟩ := hv.two
  refine rd_set (ed_call (ea_cons (ed_var rfl hv) ea_nil) ⟨x, n, bs, rfl, hx, hV, rfl⟩) fun v1 G1 s1 h1' => ?_
  exact rd_ret (ed_part (ed_var rfl h1') (ed_call (ea_cons (ed_var rfl h1') (ea_cons (ed_var rfl (hu.mono s1)) ea_nil)) ⟨n, bs, k, rfl, h0, h1, rfl⟩) hV ⟨h0, h1⟩)
end
end K3

set_option Elab.async false
set_option linter.all false
set_option maxRecDepth 100000
set_option maxHeartbeats 4000000
/-! Walks: the law's same, marked, parts_so, put. -/
namespace K3
open PySem PySem.Spec PyProof.Rows L2
/-- zip of two lists -/
theorem sd_zipL {K : PySem.W.Frag} {σ : L2.St} {G : Hp} {ts : TA} {ds es : List PyData} (h : EvA ts σ G [.list ds, .list es]) : SrcD (RZ.iZipA K ts) σ G (zipD ds es) := fun H s R q => h H s _ fun vs G1 H1 a hv => by
  obtain ⟨v, w, rfl, h1, h2⟩ := hv.two
  obtain ⟨p, xs, rfl, e1, hx⟩ := h1.of_list
  obtain ⟨r, ys, rfl, e2, hy⟩ := h2.of_list
  refine ⟨p, r, xs, ys, rfl, .inl ⟨SqL.of (a.s _ _ e1), SqL.of (a.s _ _ e2), q _ G1 H1 a ⟨fun i H s hi => ?_, fun H s => ?_, fun i G' H v H' d s1 s2 hd y => ?_⟩⟩⟩
  · rw [zipD_len] at hi
    obtain ⟨v, hv, _⟩ := hx.at (i := i) (List.getElem?_eq_getElem (show i < ds.length by omega))
    obtain ⟨w, hw, _⟩ := hy.at (i := i) (List.getElem?_eq_getElem (show i < es.length by omega))
    exact ⟨xs, ys, v, w, SqL.of (s _ _ e1), SqL.of (s _ _ e2), hv, hw⟩
  · rw [zipD_len]
    exact ⟨xs, ys, SqL.of (s _ _ e1), SqL.of (s _ _ e2), by rw [hx.1, hy.1]; omega⟩
  · obtain ⟨x, z, hd1, hd2, rfl⟩ := zipD_at hd
    obtain ⟨T, x', z', rfl, hT, rfl, y1, y2⟩ := y
    have dx := (hx.2 i x' x (y1 xs (SqL.of (s2 _ _ (s1 _ _ e1)))) hd1).mono s1
    have dz := (hy.2 i z' z (y2 ys (SqL.of (s2 _ _ (s1 _ _ e2)))) hd2).mono s1
    have sT := same_upd (o := .tup [x', z']) (s2.free hT)
    exact ⟨upd G' T (.tup [x', z']), Gro.new s2 hT, Da.mk_t upd_same (.cons (dx.mono sT) (.cons (dz.mono sT) .nil))⟩
theorem zip_self {ds : List PyData} {d : PyData} (h : d ∈ zipD ds ds) : ∃ x ∈ ds, d = .tuple [x, x] := by
  obtain ⟨i, hi⟩ := List.mem_iff_getElem?.mp h
  obtain ⟨x, y, h1, h2, rfl⟩ := zipD_at hi
  rw [h1] at h2
  have e := Option.some.inj h2
  subst e
  exact ⟨x, List.mem_of_getElem? h1, rfl⟩
def noneD : PyData → Bool | .none => true | _ => false
section
variable {P : Program} {w : World} {K : PySem.W.Frag} {mg : Str → Option Value} {base : Heap}
theorem ed_isNone {σ : L2.St} {G : Hp} {ta : TE} {d : PyData} (h : EvD ta σ G d) : EvD (tIsN ta) σ G (.bool (noneD d)) := ed_isN h fun G v hv => by cases hv <;> rfl
theorem ed_isList {σ : L2.St} {G : Hp} {ta : TE} {d : PyData} (h : EvD ta σ G d) : EvD (tCB (rIsi K) (tCons ta (tCons (tC (.ty "list")) tNil))) σ G (.bool (isLstD d)) := ed_isi h (kit_list d)
theorem shaped_scal {d : PyData} (h : scalD d) : SeqAt.shaped d = true := by
  cases d <;> first | rfl | exact h.elim | skip
  unfold SeqAt.shaped
  rw [show PyData.canLay0 _ = true from h]
  rfl
theorem eqv_scal {d : PyData} (h : scalD d) : PyData.eqv d d = true := SeqAt.eqv_refl d (SeqAt.canLay_of_shaped (shaped_scal h))
def pre_same (n : Nat) : List PyData → PyData → Prop := fun ds e => ∃ d, ds = [d, d] ∧ smallD n d ∧ e = .bool true
theorem bne_self (b : Bool) : (b != b) = false := by cases b <;> rfl
theorem beq_self (b : Bool) : (b == b) = true := by cases b <;> rfl
theorem all_true {α : Type} : ∀ l : List α, (l.map fun _ => true).all id = true
  | [] => rfl
  | _ :: r => by rw [List.map_cons, List.all_cons, all_true r]; rfl
theorem same_step (B : Bt mg) (D : Def K mg "_law_same" s_same) {n : Nat} {S : List PyData → PyData → Prop} (F : FnE P w K mg base CX0 n "_law_same" ["_law_got", "_law_due"] (spF S)) (hS : ∀ m d, n = m + 1 → smallD m d → S [d, d] (.bool true)) :
    FnE P w K mg base CX0 (n + 1) "_law_same" ["_law_got", "_law_due"] (spF (pre_same n)) := by
  refine D.pure b_same sc_same (fun ds d ⟨x, e, _⟩ => by rw [e]; rfl) fun f cdv A outer s H E G vs ds d hr hv hp => ⟨_, x_same B hr (Nat.le_refl _) F (Nat.le_refl _), ?_⟩
  obtain ⟨x, rfl, hx0, rfl⟩ := hp
  obtain ⟨v, u, rfl, hx, hy⟩ := hv.two
  refine rd_if (b := isLstD x || isTupD x) (eb_isLT (ed_var rfl hy)) (fun c => ?_) (fun c => ?_)
  · refine rd_if (b := (isLstD x != isLstD x) || (isTupD x != isTupD x)) (eb_or (eb_test (ed_op (ed_isList (ed_var rfl hx)) (ed_isList (ed_var rfl hy)) rd_neB)) fun _ => eb_test (ed_op (ed_isTuple (ed_var rfl hx)) (ed_isTuple (ed_var rfl hy)) rd_neB)) (fun c2 => ?_) (fun c2 => ?_)
    · rw [bne_self, bne_self] at c2; cases c2
    · cases n with
      | zero => rw [scal_not hx0] at c; cases c
      | succ m =>
        rcases hx0 with h | ⟨es, e, l, h⟩
        · rw [scal_not h] at c; cases c
        · have hall : ∀ (wi : TI) (G1 : Hp), SrcD wi [some v, some u, none, none] G1 (zipD es es) →
              EvD (tCB (rAll K) (tCons (tLc wi (gTup K 2 (gCons (gName 2) (gCons (gName 3) gNil))) tYes (tCall (spF S) [] E0 (tCons (tVar 2) (tCons (tVar 3) tNil))) [2, 3]) tNil)) [some v, some u, none, none] G1 (.bool true) := fun wi G1 hs => by
            refine ed_is (ed_cb (ea_cons (ed_is (ed_lcM (fun _ => .bool true) hs (by rw [zipD_len]; omega) fun d hd v' G' s' hv' => ?_) (?_ : _ = .list (((es.zip es).map fun _ => true).map PyData.bool))) ea_nil) rd_all) (congrArg PyData.bool (all_true _))
            · obtain ⟨y, hy', rfl⟩ := zip_self hd
              exact bd_pair (b := true) hv' fun a b h1 h2 => ⟨rfl, true, rfl, eb_yes, fun e he => by
                cases he
                exact ed_call (ea_cons (ed_var rfl h1) (ea_cons (ed_var rfl h2) ea_nil)) (hS m y rfl (h y hy'))⟩
            · unfold zipD
              rw [List.map_map, List.map_map]
              rfl
          rcases e with rfl | rfl
          · exact rd_ret (ed_is (ed_andV (b := true) (ed_op (ed_cb (ea_cons (ed_var rfl hx) ea_nil) rd_lenL) (ed_cb (ea_cons (ed_var rfl hy) ea_nil) rd_lenL) rd_eqI1) fun _ => hall _ _ (sd_zipL (ea_cons (ed_var rfl hx) (ea_cons (ed_var rfl hy) ea_nil)))) (by simp))
          · exact rd_ret (ed_is (ed_andV (b := true) (ed_op (ed_cb (ea_cons (ed_var rfl hx) ea_nil) rd_lenT) (ed_cb (ea_cons (ed_var rfl hy) ea_nil) rd_lenT) rd_eqI1) fun _ => hall _ _ (sd_zipT (ea_cons (ed_var rfl hx) (ea_cons (ed_var rfl hy) ea_nil)))) (by simp))
  · have hsc : scalD x := by
      cases n with
      | zero => exact hx0
      | succ m =>
        rcases hx0 with h | ⟨es, e, _⟩
        · exact h
        · rcases e with rfl | rfl <;> cases c
    have hbs : EvB (tB (tCB (rIsiT K) (tCons (tVar 1) (tCons (tTup (tCons (tC (.ty "bool")) (tCons (tC (.ty "str")) tNil))) tNil)))) (L2.start n_same [v, u]) G (isBoolD x || isStrD x) := eb_B (ed_isi2 (ed_var rfl hy) (kit_bool x) (kit_str x))
    refine rd_if (b := noneD x || (isBoolD x || isStrD x)) (eb_or (eb_B (ed_isNone (ed_var rfl hy))) fun _ => hbs) (fun c2 => ?_) (fun c2 => ?_)
    · refine rd_ret (ed_is (ed_andV (b := true) (ed_op (ed_var rfl hx) (ed_var rfl hy) (rd_eqS (shaped_scal hsc) (shaped_scal hsc))) fun _ => ed_is (ed_andV (b := true) (ed_op (ed_isBool (ed_var rfl hx)) (ed_isBool (ed_var rfl hy)) rd_eqB) fun _ => ed_is (ed_op (ed_isNone (ed_var rfl hx)) (ed_isNone (ed_var rfl hy)) rd_eqB) ?_) ?_) ?_)
      · rw [beq_self]
      · rw [beq_self]; rfl
      · rw [eqv_scal hsc]; rfl
    · have hint : ∃ i, x = .int i := by cases x <;> first | exact ⟨_, rfl⟩ | exact hsc.elim | cases c2
      obtain ⟨i, rfl⟩ := hint
      exact rd_ret (ed_is (ed_andV (ed_isInt (ed_var rfl hx)) fun _ => ed_andV (ed_notV (ed_isBool (ed_var rfl hx))) fun _ => ed_op (ed_var rfl hx) (ed_var rfl hy) rd_eqI1) (by simp [isIntD, isBoolD]))
theorem w_same (B : Bt mg) (D : Def K mg "_law_same" s_same) : ∀ n : Nat, FnE P w K mg base CX0 (n + 1) "_law_same" ["_law_got", "_law_due"] (spF (pre_same n))
  | 0 => same_step B D (D.fnE b_same fun f fd F => fnok_absurd (pre := fun _ _ => False) fun _ _ h => h) fun m d e => by omega
  | n + 1 => same_step B D (w_same B D n) fun m d e h => by cases e; exact ⟨d, rfl, h, rfl⟩
end
end K3

set_option Elab.async false
set_option linter.all false
set_option maxRecDepth 100000
set_option maxHeartbeats 4000000
/-! Walks: marked, parts_so. -/
namespace K3
open PySem PySem.Spec PyProof.Rows L2
theorem rngI_at {n i : Nat} {α : Type} {g : Int → α} : ((rngI n).map g)[i]? = if i < n then some (g (i : Nat)) else none := by
  unfold rngI
  rw [List.map_map, List.getElem?_map]
  by_cases c : i < n
  · rw [List.getElem?_range c, if_pos c]; rfl
  · rw [List.getElem?_eq_none (by simp; omega), if_neg c]; rfl
theorem rngI_ix {n : Nat} {k : Int} (h0 : 0 ≤ k) (h1 : k < (n : Nat)) {α : Type} {g : Int → α} : ixN ((rngI n).map g).length k = some k.toNat ∧ ((rngI n).map g)[k.toNat]? = some (g k) := by
  rw [List.length_map, rngI_len, rngI_at, if_pos (by omega)]
  refine ⟨?_, ?_⟩
  · unfold ixN
    rw [if_pos h0, if_pos h1]
  · have : ((k.toNat : Nat) : Int) = k := by omega
    rw [this]
theorem rngI_atI {n : Nat} {k : Int} (h0 : 0 ≤ k) (h1 : k < (n : Nat)) {α : Type} {g : Int → α} : atI ((rngI n).map g) k = some (g k) := by
  unfold atI
  rw [(rngI_ix h0 h1).1]
  exact (rngI_ix h0 h1).2
theorem set_two {n : Nat} {f : Int → Int} {b : Int × Int} (hb : 0 ≤ b.1 ∧ b.1 < b.2 ∧ b.2 < (n : Nat)) :
    (((rngI n).map fun k => V.int (f k)).set b.1.toNat (.int (min (f b.1) (f b.2)))).set b.2.toNat (.int (min (f b.1) (f b.2))) = (rngI n).map fun k => V.int (relaxF f b k) := by
  refine List.ext_getElem? fun i => ?_
  rw [List.getElem?_set, List.getElem?_set, List.length_set, List.length_map, rngI_len, rngI_at, rngI_at]
  unfold relaxF
  by_cases c2 : b.2.toNat = i
  · rw [if_pos c2, if_pos (by omega), if_pos (by omega), if_pos (.inr (by omega))]
  · rw [if_neg c2]
    by_cases c1 : b.1.toNat = i
    · rw [if_pos c1, if_pos (by omega), if_pos (by omega), if_pos (.inl (by omega))]
    · rw [if_neg c1]
      by_cases c : i < n
      · rw [if_pos c, if_pos c, if_neg (by omega)]
      · rw [if_neg c, if_neg c]
theorem rgV_rng (n : Nat) : rgV 0 (n : Nat) = (rngI n).map fun k => V.int k := by
  unfold rngI
  rw [List.map_map]
  unfold rgV
  simp
section
variable {P : Program} {w : World} {K : PySem.W.Frag} {mg : Str → Option Value} {base : Heap}
def pre_marked : List PyData → PyData → Prop := fun ds d => ∃ (n : Nat) (bs : List (Int × Int)), ds = [encF n bs] ∧ Valid n bs ∧ d = .list (intsD ((rngI n).map (mkI bs n)))
theorem w_marked (B : Bt mg) (D : Def K mg "_law_marked" s_marked) : FnE P w K mg base CX0 1 "_law_marked" ["_law_frame_so"] (spF pre_marked) := by
  refine D.pure b_marked sc_marked (fun ds d ⟨n, _, e, _⟩ => by rw [e]; rfl) fun f cdv A outer s H E G vs ds d hr hv hp => ⟨_, x_marked B hr (Nat.le_refl _), ?_⟩
  obtain ⟨n, bs, rfl, hV, rfl⟩ := hp
  obtain ⟨v, rfl, hx⟩ := hv.one
  have hnine := hV.nine
  intro H0 s0 D q
  refine (ed_op (z := .int (n : Nat)) (ed_var (i := 0) rfl hx) ed_int (rd_xT at0)) H0 s0 _ fun nv G1 H1 a1 hn => ?_
  have en := hn.of_int
  subst en
  refine ⟨_, rfl, ⟨by omega, by omega⟩, fun p hp => ?_⟩
  rw [rgV_rng]
  have hp0 : H0 p = none := a1.k.free hp
  have gro0 := a1.trans (Gro.loc a1.s hp (o := .lst ((rngI n).map fun k => V.int k)))
  refine for_D (sd_rng1 (n := (n : Nat)) (ea_cons (ed_op (ed_var rfl (hx.mono a1.g)) ed_int (rd_xT at0)) ea_nil) (by omega) (by omega)) gro0.s fun G2 H2 a2 => ?_
  refine ⟨fun i σ' G' H' => Same G2 G' ∧ ∃ o1 o2 o3 o4, σ' = [some v, some (.ref p), o1, o2, o3, o4] ∧ Gro G H0 G' H' ∧ G' p = none ∧ H' p = some (.lst ((rngI n).map fun k => V.int (marksF bs i k))), ?_, ?_, ?_, ?_⟩
  · exact ⟨Same.refl _, none, none, none, none, rfl, gro0.trans a2, a2.out (a1.s.free hp) upd_same, a2.k _ _ upd_same⟩
  · rintro i σ' G' H' ⟨s1, _, _, _, _, _, a, _⟩
    exact ⟨s1, a.s⟩
  · rintro i d x σ' G' H' G3 H3 hd ⟨s1, o1, o2, o3, o4, rfl, a, h1, h2⟩ a3 hx3
    obtain ⟨hi, rfl⟩ := upto_at.mp hd
    have ex := hx3.of_int
    subst ex
    have sG3 : Same G G3 := a.g.trans a3.g
    refine for_D (so_T (ed_op (ed_var (i := 0) rfl (hx.mono sG3)) ed_int (rd_xT at1))) a3.s fun G4 H4 a4 => ?_
    refine ⟨fun t σ' G' H' => Same G4 G' ∧ ∃ o2 o3 o4, σ' = [some v, some (.ref p), some (.int (i : Nat)), o2, o3, o4] ∧ Gro G H0 G' H' ∧ G' p = none ∧ H' p = some (.lst ((rngI n).map fun k => V.int ((bs.take t).foldl relaxF (marksF bs i) k))), ?_, ?_, ?_, ?_⟩
    · exact ⟨Same.refl _, o2, o3, o4, rfl, (a.trans a3).trans a4, (a3.trans a4).out h1 h2, (a3.trans a4).k _ _ h2⟩
    · rintro t σ' G' H' ⟨s5, _, _, _, _, a, _⟩
      exact ⟨s5, a.s⟩
    · rintro t d x σ' G' H' G6 H6 hd6 ⟨s5, o2, o3, o4, rfl, a5, h5, h6⟩ a6 hx6
      obtain ⟨b, hb, rfl⟩ := map_at hd6
      obtain ⟨r, rfl, er⟩ := encI_da hx6
      have hbm := hV.ok b (List.mem_of_getElem? hb)
      have h6' := a6.k _ _ h6
      have g6 := a6.out h5 h6
      have i1 := rngI_atI (n := n) (k := b.1) (by omega) (by omega) (g := fun k => V.int ((bs.take t).foldl relaxF (marksF bs i) k))
      have i2 := rngI_atI (n := n) (k := b.2) (by omega) (by omega) (g := fun k => V.int ((bs.take t).foldl relaxF (marksF bs i) k))
      refine ⟨r, _, rfl, SqT.of (a6.s _ _ er), rfl, _, _, rfl, _, _, rfl, rfl, ?_⟩
      refine ⟨_, rfl, _, rfl, .inl ⟨p, _, b.1, _, rfl, rfl, SqL.of h6', i1, _, rfl, _, rfl, .inl ⟨p, _, b.2, _, rfl, rfl, SqL.of h6', i2, _, _, rfl, ?_⟩⟩⟩
      have emin : (if (bs.take t).foldl relaxF (marksF bs i) b.2 < (bs.take t).foldl relaxF (marksF bs i) b.1 then (bs.take t).foldl relaxF (marksF bs i) b.2 else (bs.take t).foldl relaxF (marksF bs i) b.1) = min ((bs.take t).foldl relaxF (marksF bs i) b.1) ((bs.take t).foldl relaxF (marksF bs i) b.2) := by
        split <;> omega
      rw [emin]
      refine ⟨_, rfl, _, rfl, sz_of (show 2 ≤ 100000 by decide), fun T hT => ?_⟩
      have a7 : Gro G6 H6 G6 (upd H6 T (.tup [.int (min ((bs.take t).foldl relaxF (marksF bs i) b.1) ((bs.take t).foldl relaxF (marksF bs i) b.2)), .int (min ((bs.take t).foldl relaxF (marksF bs i) b.1) ((bs.take t).foldl relaxF (marksF bs i) b.2))])) := Gro.loc a6.s hT
      have h7 := a7.k _ _ h6'
      have x1 := (rngI_ix (n := n) (k := b.1) (by omega) (by omega) (g := fun k => V.int ((bs.take t).foldl relaxF (marksF bs i) k))).1
      have x2 := (rngI_ix (n := n) (k := b.2) (by omega) (by omega) (g := fun k => V.int ((bs.take t).foldl relaxF (marksF bs i) k))).1
      refine ⟨T, _, rfl, SqT.of upd_same, rfl, _, _, rfl, _, rfl, _, rfl, p, _, b.1, _, rfl, rfl, h7, x1, _, _, rfl, _, rfl, _, rfl, p, _, b.2, _, rfl, rfl, upd_same, by rw [List.length_set]; exact x2, rfl, ?_⟩
      refine ⟨G6, s5.trans a6.g, some (.int b.1), some (.int b.2), some (.int (min ((bs.take t).foldl relaxF (marksF bs i) b.1) ((bs.take t).foldl relaxF (marksF bs i) b.2))), rfl, ((((a5.trans a6).trans a7).mut hp0 g6)).mut hp0 g6, g6, ?_⟩
      rw [upd_same, set_two hbm, take_snoc hb, List.foldl_append]
      rfl
    · rintro σ' G' H' ⟨s5, o2, o3, o4, rfl, a5, h5, h6⟩
      rw [List.length_map, List.take_length] at h6
      exact ⟨G', s1.trans (a3.g.trans (a4.g.trans s5)), some (.int (i : Nat)), o2, o3, o4, rfl, a5, h5, h6⟩
  · rintro σ' G' H' ⟨s1, o1, o2, o3, o4, rfl, a, h1, h2⟩
    rw [upto_len, show ((n : Nat) : Int).toNat = n by omega] at h2
    have a' := a.join hp0 h1 h2
    have hd : Da (upd G' p (.lst ((rngI n).map fun k => V.int (marksF bs n k)))) (.ref p) (.list (intsD ((rngI n).map (mkI bs n)))) := by
      refine Da.mk_l upd_same ?_
      have e : (rngI n).map (fun k => V.int (marksF bs n k)) = ((rngI n).map (mkI bs n)).map V.int := by rw [List.map_map]; rfl
      rw [e]
      exact DaL.of_ints
    exact rd_ret (ed_var (i := 1) rfl hd) H' a'.s D fun v G2 H2 a2 hv2 => q v G2 H2 (a'.trans a2) hv2
end
end K3

set_option Elab.async false
set_option linter.all false
set_option maxRecDepth 100000
set_option maxHeartbeats 4000000
/-! Walks: parts_so, put, is_frame_so. -/
namespace K3
open PySem PySem.Spec PyProof.Rows L2
theorem upto_rng (n : Nat) : upto n = intsD (rngI n) := by unfold upto intsD rngI; rw [List.map_map]; rfl
theorem Valid.heads {n : Nat} {bs : List (Int × Int)} (v : Valid n bs) : normI ((rngI n).map (mkI bs n)) = headsI bs n n := by
  refine (norm_uniq ((rngI_lt n).filter _) fun z => ?_).symm
  rw [List.mem_filter, List.mem_map, rngI_mem]
  constructor
  · rintro ⟨h, e⟩
    exact ⟨z, rngI_mem.mpr h, of_decide_eq_true e⟩
  · rintro ⟨k, hk, rfl⟩
    have hk' := rngI_mem.mp hk
    have h1 := v.nn n k hk'.1
    have h2 := marks_le (bs := bs) (k := k) n
    refine ⟨?_, decide_eq_true (v.mkmk k)⟩
    unfold mkI
    omega
theorem at_ints {n : Nat} {k : Int} {g : Int → Int} (h0 : 0 ≤ k) (h1 : k < (n : Nat)) : atI (intsD ((rngI n).map g)) k = some (.int (g k)) := by
  unfold intsD
  rw [List.map_map]
  exact rngI_atI h0 h1
def selD (f : Int → Int) (h : Int) : PyData → Option PyData | .int k => if f k = h then some (.int k) else none | _ => none
theorem sel_eq {f : Int → Int} {h : Int} : ∀ l : List Int, (intsD l).filterMap (selD f h) = intsD (l.filter fun k => decide (f k = h))
  | [] => rfl
  | a :: r => by
    have ih := sel_eq (f := f) (h := h) r
    unfold intsD at ih ⊢
    rw [List.map_cons, List.filterMap_cons, List.filter_cons]
    unfold selD at ih ⊢
    by_cases c : f a = h
    · simp only [c, if_true, decide_true, List.map_cons]
      rw [ih]
    · simp only [c, if_false, decide_false]
      exact ih
def grpD (n : Nat) (bs : List (Int × Int)) : PyData → PyData | .int h => .tuple (intsD ((rngI n).filter fun k => decide (mkI bs n k = h))) | d => d
section
variable {P : Program} {w : World} {K : PySem.W.Frag} {mg : Str → Option Value} {base : Heap}
theorem w_parts_so (B : Bt mg) (F1 : FnE P w K mg base CX0 1 "_law_marked" ["_law_frame_so"] (spF pre_marked)) (D : Def K mg "_law_parts_so" s_parts_so) : FnE P w K mg base CX0 2 "_law_parts_so" ["_law_frame_so"] (spF pre_partsin) := by
  refine D.pure b_parts_so sc_parts_so (fun ds d ⟨n, _, e, _⟩ => by rw [e]; rfl) fun f cdv A outer s H E G vs ds d hr hv hp => ⟨_, x_parts_so B hr (Nat.le_refl _) F1 (by decide), ?_⟩
  obtain ⟨n, bs, rfl, hV, rfl⟩ := hp
  obtain ⟨v, rfl, hx⟩ := hv.one
  have hnine := hV.nine
  refine rd_set (ed_call (ea_cons (ed_var rfl hx) ea_nil) ⟨n, bs, rfl, hV, rfl⟩) fun m G1 s1 hm => ?_
  have hx1 := hx.mono s1
  refine rd_ret (ed_is (ed_cb (ea_cons (ed_lcM (grpD n bs) (so_L (ed_sset (ed_var rfl hm) (by rw [List.length_map, rngI_len]; omega))) ?_ fun d hd v' G' s' hv' => ?_) ea_nil) rd_tupL) ?_)
  · unfold intsD
    rw [List.length_map]
    have := normI_len ((rngI n).map (mkI bs n))
    rw [List.length_map, rngI_len] at this
    omega
  · obtain ⟨h, hh, rfl⟩ := List.mem_map.mp hd
    refine bd_name (b := true) rfl eb_yes rfl fun e he => ?_
    cases he
    have hm' := hm.mono s'
    have hx' := hx1.mono s'
    refine ed_cb (ea_cons (ed_is (ed_lc (selD (mkI bs n) h) (sd_rng1 (n := (n : Nat)) (ea_cons (ed_op (ed_var rfl hx') ed_int (rd_xT at0)) ea_nil) (by omega) (by omega)) (by rw [upto_len]; omega) fun d hd v2 G2 s2 hv2 => ?_) ?_) ea_nil) rd_tupL
    · rw [show ((n : Nat) : Int).toNat = n by omega, upto_rng] at hd
      obtain ⟨k, hk, rfl⟩ := List.mem_map.mp hd
      have hk' := rngI_mem.mp hk
      refine bd_name (b := decide (mkI bs n k = h)) rfl (eb_test (ed_op (ed_op (ed_var rfl (hm'.mono s2)) (ed_var rfl hv2) (rd_xL (at_ints hk'.1 hk'.2))) (ed_var rfl (hv'.mono s2)) rd_eqI1)) ?_ fun e he => ?_
      · unfold selD
        by_cases c : mkI bs n k = h <;> simp [c]
      · unfold selD at he
        by_cases c : mkI bs n k = h
        · simp only [c, if_true] at he
          cases he
          exact ed_var rfl hv2
        · simp only [c, if_false] at he
          cases he
    · rw [show ((n : Nat) : Int).toNat = n by omega, upto_rng, sel_eq]
  · rw [hV.heads]
    unfold ptsD partsI intsD
    rw [List.map_map, List.map_map]
    refine congrArg PyData.tuple (List.map_congr_left fun h hh => ?_)
    have hh' : h ∈ rngI n ∧ decide (mkI bs n h = h) = true := List.mem_filter.mp hh
    show PyData.tuple (intsD ((rngI n).filter fun k => decide (mkI bs n k = h))) = .tuple (intsD (partI bs n h))
    rw [hV.partEq (rngI_mem.mp hh'.1), of_decide_eq_true hh'.2]
theorem cut_to {ds : List PyData} {k : Int} (h0 : 0 ≤ k) (h1 : k ≤ (ds.length : Nat)) : cutD ds none (some k) = ds.take k.toNat := by
  unfold cutD
  have e : k = ((k.toNat : Nat) : Int) := by omega
  rw [e, HT.sIx_nat, HT.sIx_none, Nat.min_eq_left (by omega)]
  rfl
theorem cut_from {ds : List PyData} {k : Int} (h0 : 0 ≤ k) (h1 : k ≤ (ds.length : Nat)) : cutD ds (some k) none = ds.drop k.toNat := by
  unfold cutD
  have e : k = ((k.toNat : Nat) : Int) := by omega
  rw [e, HT.sIx_nat, HT.sIx_none, Nat.min_eq_left (by omega)]
  exact List.take_of_length_le (by rw [List.length_drop]; omega)
def pre_put1 : List PyData → PyData → Prop := fun ds d => ∃ (es : List PyData) (k : Int) (x : PyData), ds = [.tuple es, .int k, x] ∧ 0 ≤ k ∧ k < (es.length : Nat) ∧ es.length ≤ 100 ∧ d = .tuple (es.take k.toNat ++ [x] ++ es.drop (k.toNat + 1))
theorem w_put (B : Bt mg) (D : Def K mg "_law_put" s_put) : FnE P w K mg base CX0 1 "_law_put" ["_law_row_so", "_law_place_so", "_law_bit_so"] (spF pre_put1) := by
  refine D.pure b_put sc_put (fun ds d ⟨_, _, _, e, _⟩ => by rw [e]; rfl) fun f cdv A outer s H E G vs ds d hr hv hp => ⟨_, x_put B hr (Nat.le_refl _), ?_⟩
  obtain ⟨es, k, x, rfl, h0, h1, hl, rfl⟩ := hp
  obtain ⟨v, u, t, rfl, hv, hu, ht⟩ := hv.three
  refine rd_ret (ed_is (ed_op (ed_op (ed_sl (ed_var rfl hv) eo_no (eo_part (ed_var rfl hu)) rs_T) (ed_tup (ea_cons (ed_var rfl ht) ea_nil) (show 1 ≤ 100000 by decide)) (rd_plusT ?_)) (ed_sl (ed_var rfl hv) (eo_part (ed_op (ed_var rfl hu) ed_int rd_plusI)) eo_no rs_T) (rd_plusT ?_)) ?_)
  · rw [cut_to h0 (by omega), List.length_take]
    simp only [List.length_cons, List.length_nil]
    omega
  · rw [cut_to h0 (by omega), cut_from (by omega) (by omega), List.length_append, List.length_take, List.length_drop]
    simp only [List.length_cons, List.length_nil]
    omega
  · rw [cut_to h0 (by omega), cut_from (by omega) (by omega)]
    have e : (k + 1).toNat = k.toNat + 1 := by omega
    rw [e]
end
end K3

set_option Elab.async false
set_option linter.all false
set_option maxRecDepth 100000
set_option maxHeartbeats 4000000
/-! Plain: sorted lists of pairs without doubles. -/
namespace K3
open PySem
theorem ltP_irr {b : Int × Int} : ¬ ltP b b = true := fun h => by rw [ltP_iff] at h; omega
theorem ltP_tri (b c : Int × Int) : ltP b c = true ∨ b = c ∨ ltP c b = true := by
  rw [ltP_iff, ltP_iff]
  obtain ⟨b1, b2⟩ := b
  obtain ⟨c1, c2⟩ := c
  simp only [Prod.mk.injEq]
  omega
def insP (x : Int × Int) : List (Int × Int) → List (Int × Int)
  | [] => [x]
  | y :: r => if ltP x y = true then x :: y :: r else if x = y then y :: r else y :: insP x r
def normP (ns : List (Int × Int)) : List (Int × Int) := ns.foldr insP []
theorem mem_insP {x z : Int × Int} : ∀ {l : List (Int × Int)}, z ∈ insP x l ↔ z = x ∨ z ∈ l
  | [] => by simp [insP]
  | y :: r => by
    unfold insP
    split
    · simp
    · split
      · rename_i h
        subst h
        simp
      · have ih := mem_insP (x := x) (z := z) (l := r)
        simp only [List.mem_cons, ih]
        constructor
        · rintro (h | h | h)
          · exact .inr (.inl h)
          · exact .inl h
          · exact .inr (.inr h)
        · rintro (h | h | h)
          · exact .inr (.inl h)
          · exact .inl h
          · exact .inr (.inr h)
theorem mem_normP {z : Int × Int} : ∀ {l : List (Int × Int)}, z ∈ normP l ↔ z ∈ l
  | [] => by simp [normP]
  | y :: r => by
    have e : normP (y :: r) = insP y (normP r) := rfl
    rw [e, mem_insP, mem_normP, List.mem_cons]
abbrev SortP (l : List (Int × Int)) : Prop := l.Pairwise (fun b c => ltP b c = true)
theorem sorted_insP {x : Int × Int} : ∀ {l : List (Int × Int)}, SortP l → SortP (insP x l)
  | [], _ => by simp [insP]
  | y :: r, h => by
    have h' := List.pairwise_cons.mp h
    unfold insP
    split
    · rename_i c
      refine List.pairwise_cons.mpr ⟨fun z hz => ?_, h⟩
      rcases List.mem_cons.mp hz with rfl | hz
      · exact c
      · exact ltP_trans c (h'.1 z hz)
    · split
      · exact h
      · rename_i c1 c2
        refine List.pairwise_cons.mpr ⟨fun z hz => ?_, sorted_insP h'.2⟩
        rcases mem_insP.mp hz with rfl | hz
        · rcases ltP_tri z y with q | q | q
          · exact absurd q c1
          · exact absurd q c2
          · exact q
        · exact h'.1 z hz
theorem sorted_normP : ∀ (l : List (Int × Int)), SortP (normP l)
  | [] => .nil
  | y :: r => by
    have e : normP (y :: r) = insP y (normP r) := rfl
    rw [e]
    exact sorted_insP (sorted_normP r)
theorem sorted_uniqP : ∀ {l m : List (Int × Int)}, SortP l → SortP m → (∀ z, z ∈ l ↔ z ∈ m) → l = m
  | [], [], _, _, _ => rfl
  | [], y :: m, _, _, h => absurd ((h y).mpr (by simp)) (by simp)
  | x :: l, [], _, _, h => absurd ((h x).mp (by simp)) (by simp)
  | x :: l, y :: m, hl, hm, h => by
    have hl' := List.pairwise_cons.mp hl
    have hm' := List.pairwise_cons.mp hm
    have e : x = y := by
      have h1 := (h x).mp (by simp)
      have h2 := (h y).mpr (by simp)
      rcases List.mem_cons.mp h1 with e | h1
      · exact e
      · rcases List.mem_cons.mp h2 with e | h2
        · exact e.symm
        · exact absurd (ltP_trans (hm'.1 x h1) (hl'.1 y h2)) ltP_irr
    subst e
    congr 1
    refine sorted_uniqP hl'.2 hm'.2 fun z => ⟨fun hz => ?_, fun hz => ?_⟩
    · rcases List.mem_cons.mp ((h z).mp (List.mem_cons_of_mem _ hz)) with e | q
      · subst e
        exact absurd (hl'.1 z hz) ltP_irr
      · exact q
    · rcases List.mem_cons.mp ((h z).mpr (List.mem_cons_of_mem _ hz)) with e | q
      · subst e
        exact absurd (hm'.1 z hz) ltP_irr
      · exact q
theorem norm_uniqP {l m : List (Int × Int)} (hm : SortP m) (h : ∀ z, z ∈ m ↔ z ∈ l) : m = normP l := sorted_uniqP hm (sorted_normP l) fun z => by rw [h z, mem_normP]
theorem insP_len {x : Int × Int} : ∀ {l : List (Int × Int)}, (insP x l).length ≤ l.length + 1
  | [] => by simp [insP]
  | y :: r => by
    unfold insP
    split
    · simp
    · split
      · simp
      · have := insP_len (x := x) (l := r)
        simp only [List.length_cons]
        omega
theorem normP_len : ∀ (l : List (Int × Int)), (normP l).length ≤ l.length
  | [] => by simp [normP]
  | y :: r => by
    have e : normP (y :: r) = insP y (normP r) := rfl
    have := insP_len (x := y) (l := normP r)
    have := normP_len r
    rw [e, List.length_cons]
    omega
def mm (p : Int × Int) : Int × Int := (min p.1 p.2, max p.1 p.2)
/-- the beams that _law_joined makes -/
def joinP (ps : List (Int × Int)) : List (Int × Int) := normP (ps.map mm)
theorem mem_joinP {ps : List (Int × Int)} {b : Int × Int} : b ∈ joinP ps ↔ ∃ p ∈ ps, mm p = b := by
  unfold joinP
  rw [mem_normP, List.mem_map]
end K3

set_option Elab.async false
set_option linter.all false
set_option maxRecDepth 100000
set_option maxHeartbeats 4000000
/-! Walks: sorted sets of pairs, joined, is_frame_so. -/
namespace K3
open PySem PySem.Spec PyProof.Rows L2
def pr (b : Int × Int) : List Int := [b.1, b.2]
def prOf : List Int → Int × Int | [a, b] => (a, b) | _ => (0, 0)
theorem prOf_pr (b : Int × Int) : prOf (pr b) = b := rfl
theorem pairs_ks {G : Hp} : ∀ {qs : List (Int × Int)} {xs : List V}, DaL G xs (qs.map encI) → ∃ ks : List (Addr × List Int), xs = ks.map (fun p => V.ref p.1) ∧ ks.map (·.2) = qs.map pr ∧ ∀ p ∈ ks, G p.1 = some (.tup (p.2.map V.int))
  | [], [], _ => ⟨[], rfl, rfl, fun p h => absurd h (by simp)⟩
  | [], _ :: _, h => by have := h.1; simp at this
  | _ :: _, [], h => by have := h.1; simp at this
  | b :: qs, x :: xs, h => by
    have h' : DaL G (x :: xs) (encI b :: qs.map encI) := h
    obtain ⟨ks, e1, e2, h3⟩ := pairs_ks h'.tl
    obtain ⟨a, rfl, ea⟩ := encI_da h'.hd
    refine ⟨(a, pr b) :: ks, by rw [List.map_cons, ← e1], by rw [List.map_cons, List.map_cons, e2], fun p hp => ?_⟩
    rcases List.mem_cons.mp hp with rfl | hp
    · exact ea
    · exact h3 p hp
theorem ks_da {G : Hp} : ∀ {L : List (Addr × List Int)}, (∀ p ∈ L, G p.1 = some (.tup (p.2.map V.int)) ∧ ∃ b, p.2 = pr b) → DaL G (L.map fun p => V.ref p.1) ((L.map fun p => prOf p.2).map encI)
  | [], _ => DaL.nil
  | p :: L, h => by
    obtain ⟨h1, b, e⟩ := h p (by simp)
    refine DaL.cons ?_ (ks_da fun q hq => h q (List.mem_cons_of_mem _ hq))
    show Da G (.ref p.1) (encI (prOf p.2))
    rw [e] at h1 ⊢
    exact Da.mk_t h1 (.cons (.int _) (.cons (.int _) .nil))
section
variable {P : Program} {w : World} {K : PySem.W.Frag} {mg : Str → Option Value} {base : Heap}
theorem ks_mem {ks : List (Addr × List Int)} {qs : List (Int × Int)} (e : ks.map (·.2) = qs.map pr) {p : Addr × List Int} (hp : p ∈ ks) : ∃ b ∈ qs, p.2 = pr b := by
  have : p.2 ∈ qs.map pr := by rw [← e]; exact List.mem_map_of_mem hp
  obtain ⟨b, hb, h⟩ := List.mem_map.mp this
  exact ⟨b, hb, h.symm⟩
theorem bd_pr {b : Int × Int} (h : 0 ≤ b.1 ∧ 0 ≤ b.2 ∧ b.1 < 1024 ∧ b.2 < 1024) : TS.Bd 1024 (pr b) := fun m hm => by
  have : m = b.1 ∨ m = b.2 := by simpa [pr] using hm
  rcases this with rfl | rfl <;> omega
theorem sort_tail {G1 H1 : Hp} {ks : List (Addr × List Int)} {qs : List (Int × Int)} (s1 : Same G1 H1) (e2 : ks.map (·.2) = qs.map pr) (h3 : ∀ p ∈ ks, G1 p.1 = some (.tup (p.2.map V.int))) (hb : ∀ b ∈ qs, 0 ≤ b.1 ∧ 0 ≤ b.2 ∧ b.1 < 1024 ∧ b.2 < 1024)
    (Q : VK) (q : ∀ v G' H', Gro G1 H1 G' H' → Da G' v (.list ((normP qs).map encI)) → Q v H') (a : Addr) (L : List (Addr × List Int)) (ha : H1 a = none) (l1 : ∀ p ∈ L, p ∈ ks) (l2 : ∀ p ∈ ks, p.2 ∈ L.map (·.2)) :
    rSortedT K P w [.ref a] (upd H1 a (SetTO P w a L)) Q := by
  have a2 : Gro G1 H1 G1 (upd H1 a (SetTO P w a L)) := Gro.loc s1 ha
  refine ⟨a, L, 2, 1024, rfl, upd_same, fun p hp => SqT.of (a2.s _ _ (h3 p (l1 p hp))), by decide, fun p hp => ?_, fun L' p hperm hnd h64 hpw hp => ?_⟩
  · obtain ⟨b, hb', e⟩ := ks_mem e2 (l1 p hp)
    rw [e]
    exact ⟨rfl, bd_pr (hb b hb')⟩
  · have hin : ∀ p ∈ L', p ∈ ks := fun p hp => l1 p (hperm.mem_iff.mp hp)
    have hbs : L'.map (fun p => prOf p.2) = normP qs := by
      refine norm_uniqP ?_ fun z => ?_
      · refine List.pairwise_map.mpr ?_
        have hnd' : L'.Pairwise (fun p q => p.2 ≠ q.2) := List.pairwise_map.mp hnd
        refine (List.Pairwise.and hpw hnd').imp_of_mem fun {x y} hx hy hxy => ?_
        obtain ⟨b, hb1, e1⟩ := ks_mem e2 (hin x hx)
        obtain ⟨c, hc1, e3⟩ := ks_mem e2 (hin y hy)
        have hc := hxy.1
        have hne := hxy.2
        rw [e1, e3] at hc hne ⊢
        have := code_lex (bd_pr (hb b hb1)) (bd_pr (hb c hc1)) hc
        rw [prOf_pr, prOf_pr, ltP_iff]
        have hne' : ¬ (b.1 = c.1 ∧ b.2 = c.2) := fun z => hne (by unfold pr; rw [z.1, z.2])
        omega
      · rw [List.mem_map]
        constructor
        · rintro ⟨p, hp, rfl⟩
          obtain ⟨b, hb1, e1⟩ := ks_mem e2 (hin p hp)
          rw [e1, prOf_pr]
          exact hb1
        · intro hz
          have : pr z ∈ ks.map (·.2) := by rw [e2]; exact List.mem_map_of_mem hz
          obtain ⟨p, hp, e⟩ := List.mem_map.mp this
          obtain ⟨p', hp', e'⟩ := List.mem_map.mp (l2 p hp)
          exact ⟨p', hperm.mem_iff.mpr hp', by rw [e', e]; rfl⟩
    have hd : DaL G1 (L'.map fun q => V.ref q.1) ((normP qs).map encI) := by
      rw [← hbs]
      exact ks_da fun p hp => ⟨h3 p (hin p hp), by obtain ⟨b, _, e⟩ := ks_mem e2 (hin p hp); exact ⟨b, e⟩⟩
    exact q _ (upd G1 p _) _ (a2.trans (Gro.new a2.s hp)) (Da.mk_l upd_same (hd.mono (same_upd (a2.s.free hp))))
/-- sorted(set(list of pairs)) -/
theorem ed_ssetP {σ : L2.St} {G : Hp} {ta : TE} {qs : List (Int × Int)} (h : EvD ta σ G (.list (qs.map encI))) (hn : qs.length < 64) (hb : ∀ b ∈ qs, 0 ≤ b.1 ∧ 0 ≤ b.2 ∧ b.1 < 1024 ∧ b.2 < 1024) :
    EvD (tCB (rSortedT K P w) (tCons (tCB (rSetOfT K P w) (tCons ta tNil)) tNil)) σ G (.list ((normP qs).map encI)) := fun H s Q q =>
  h H s _ fun v G1 H1 a1 hv => by
    obtain ⟨l, xs, rfl, ea, hx⟩ := hv.of_list
    obtain ⟨ks, rfl, e2, h3⟩ := pairs_ks hx
    have hl : ks.length < 64 := by have := congrArg List.length e2; simp at this; omega
    exact ⟨l, ks, rfl, SqL.of (a1.s _ _ ea), fun p hp => SqT.of (a1.s _ _ (h3 p hp)), hl, fun a L ha l1 l2 => sort_tail a1.s e2 h3 hb Q (fun v G' H' a' hv => q v G' H' (a1.trans a') hv) a L ha l1 l2⟩
/-- sorted(set(tuple of pairs)) -/
theorem ed_ssetPT {σ : L2.St} {G : Hp} {ta : TE} {qs : List (Int × Int)} (h : EvD ta σ G (.tuple (qs.map encI))) (hn : qs.length < 64) (hb : ∀ b ∈ qs, 0 ≤ b.1 ∧ 0 ≤ b.2 ∧ b.1 < 1024 ∧ b.2 < 1024) :
    EvD (tCB (rSortedT K P w) (tCons (tCB (rSetTT K P w) (tCons ta tNil)) tNil)) σ G (.list ((normP qs).map encI)) := fun H s Q q =>
  h H s _ fun v G1 H1 a1 hv => by
    obtain ⟨l, xs, rfl, ea, hx⟩ := hv.of_tup
    obtain ⟨ks, rfl, e2, h3⟩ := pairs_ks hx
    have hl : ks.length < 64 := by have := congrArg List.length e2; simp at this; omega
    exact ⟨l, ks, rfl, SqT.of (a1.s _ _ ea), fun p hp => SqT.of (a1.s _ _ (h3 p hp)), hl, fun a L ha l1 l2 => sort_tail a1.s e2 h3 hb Q (fun v G' H' a' hv => q v G' H' (a1.trans a') hv) a L ha l1 l2⟩
def pre_joined : List PyData → PyData → Prop := fun ds d => ∃ (n : Nat) (ps : List (Int × Int)), ds = [.int (n : Nat), .list (ps.map encI)] ∧ ps.length < 64 ∧ (∀ b ∈ ps, 0 ≤ b.1 ∧ 0 ≤ b.2 ∧ b.1 < 1024 ∧ b.2 < 1024) ∧ d = encF n (joinP ps)
theorem rd_min2T {b : Int × Int} : RcD (rMin2T K) [encI b] (.int (min b.1 b.2)) := fun G H vs s hv Q q => by
  obtain ⟨v, rfl, hd⟩ := hv.one
  obtain ⟨a, rfl, ea⟩ := encI_da hd
  exact ⟨a, _, _, rfl, SqT.of (s _ _ ea), q _ G H (Gro.refl s) (.int _)⟩
theorem rd_max2T {b : Int × Int} : RcD (rMax2T K) [encI b] (.int (max b.1 b.2)) := fun G H vs s hv Q q => by
  obtain ⟨v, rfl, hd⟩ := hv.one
  obtain ⟨a, rfl, ea⟩ := encI_da hd
  exact ⟨a, _, _, rfl, SqT.of (s _ _ ea), q _ G H (Gro.refl s) (.int _)⟩
theorem w_joined (B : Bt mg) (D : Def K mg "_law_joined" s_joined) : FnE P w K mg base CX0 1 "_law_joined" ["_law_size_so", "_law_pairs_so"] (spF pre_joined) := by
  refine D.pure b_joined sc_joined (fun ds d ⟨_, _, e, _⟩ => by rw [e]; rfl) fun f cdv A outer s H E G vs ds d hr hv hp => ⟨_, x_joined B hr (Nat.le_refl _), ?_⟩
  obtain ⟨n, ps, rfl, hl, hb, rfl⟩ := hp
  obtain ⟨v, u, rfl, hv, hu⟩ := hv.two
  refine rd_ret (ed_tup (ea_cons (ed_var rfl hv) (ea_cons (ed_cb (ea_cons (ed_ssetP (qs := ps.map mm) (ed_is (ed_lcM (fun d => encI (mm (toP d))) (so_L (ed_var rfl hu)) (by rw [List.length_map]; omega) fun d hd v' G' s' hv' => ?_) ?_) (by rw [List.length_map]; exact hl) ?_) ea_nil) rd_tupL) ea_nil)) (show 2 ≤ 100000 by decide))
  · obtain ⟨b, hb', rfl⟩ := List.mem_map.mp hd
    refine bd_name (b := true) rfl eb_yes rfl fun e he => ?_
    cases he
    exact ed_tup (ea_cons (ed_cb (ea_cons (ed_var rfl hv') ea_nil) rd_min2T) (ea_cons (ed_cb (ea_cons (ed_var rfl hv') ea_nil) rd_max2T) ea_nil)) (show 2 ≤ 100000 by decide)
  · rw [List.map_map, List.map_map]
    rfl
  · intro b hb'
    obtain ⟨c, hc, rfl⟩ := List.mem_map.mp hb'
    have := hb c hc
    unfold mm
    simp only
    omega
end
end K3

set_option Elab.async false
set_option linter.all false
set_option maxRecDepth 100000
set_option maxHeartbeats 4000000
/-! Walks: the law's own judge of frames. -/
namespace K3
open PySem PySem.Spec PyProof.Rows L2
theorem lay_ints : ∀ ns : List Int, PyData.canLayAll0 (intsD ns) = true
  | [] => by simp [intsD, PyData.canLayAll0]
  | n :: ns => by
    have ih := lay_ints ns
    unfold intsD at ih ⊢
    simp [PyData.canLayAll0, PyData.canLay0, ih]
theorem depth_ints : ∀ ns : List Int, PyData.depthAll (intsD ns) = 0
  | [] => by simp [intsD, PyData.depthAll]
  | n :: ns => by
    have ih := depth_ints ns
    unfold intsD at ih ⊢
    simp only [List.map_cons, PyData.depthAll, PyData.depth, ih]
    rfl
theorem shaped_ints (ns : List Int) : SeqAt.shaped (.list (intsD ns)) = true := by
  unfold SeqAt.shaped
  rw [Bool.and_eq_true]
  refine ⟨?_, decide_eq_true ?_⟩
  · simp only [PyData.canLay0]; exact lay_ints ns
  · simp only [PyData.depth, depth_ints]; omega
theorem eqvAll_ints : ∀ ns ms : List Int, PyData.eqvAll (intsD ns) (intsD ms) = decide (ns = ms)
  | [], [] => by simp [intsD, PyData.eqvAll]
  | [], _ :: _ => by simp [intsD, PyData.eqvAll]
  | _ :: _, [] => by simp [intsD, PyData.eqvAll]
  | a :: r, b :: l => by
    have ih := eqvAll_ints r l
    unfold intsD at ih ⊢
    simp only [List.map_cons, PyData.eqvAll, PyData.eqv, ih]
    by_cases c : a = b <;> by_cases e : r = l <;> simp [c, e]
theorem eqv_ints (ns ms : List Int) : PyData.eqv (.list (intsD ns)) (.list (intsD ms)) = decide (ns = ms) := by simp only [PyData.eqv]; exact eqvAll_ints ns ms
/-- a one for each that is not so -/
def onesD (p : PyData → Bool) (ds : List PyData) : List Int := (ds.filter fun d => !p d).map fun _ => 1
theorem onesD_nil {p : PyData → Bool} {ds : List PyData} : onesD p ds = [] ↔ ds.all p = true := by
  unfold onesD
  rw [List.map_eq_nil_iff, List.filter_eq_nil_iff, List.all_eq_true]
  simp
def oneF (p : PyData → Bool) : PyData → Option PyData := fun d => if p d = true then none else some (.int 1)
theorem ones_eq {p : PyData → Bool} : ∀ ds : List PyData, ds.filterMap (oneF p) = intsD (onesD p ds)
  | [] => rfl
  | d :: r => by
    have ih := ones_eq (p := p) r
    rw [List.filterMap_cons]
    unfold oneF at ih ⊢
    unfold onesD intsD at ih ⊢
    rw [List.filter_cons]
    cases c : p d with
    | true => simpa using ih
    | false => simpa using ih
def geF : PyData → Bool | .tuple [x, y] => ltP (toP x) (toP y) | _ => true
theorem ge_ltP {b c : Int × Int} : decide (c.1 < b.1 ∨ (b.1 = c.1 ∧ c.2 ≤ b.2)) = !(ltP b c) := by
  cases h : ltP b c with
  | true =>
    rw [ltP_iff] at h
    exact decide_eq_false (by omega)
  | false =>
    have h' : ¬ ltP b c = true := by rw [h]; decide
    rw [ltP_iff] at h'
    exact decide_eq_true (by omega)
section
variable {P : Program} {w : World} {K : PySem.W.Frag} {mg : Str → Option Value} {base : Heap}
theorem rd_geP {b c : Int × Int} : RvD (rGeX K) (encI b) (encI c) (.bool (!(ltP b c))) := rd_r fun G H v w s hv hw Q q => by
  obtain ⟨a, rfl, e1⟩ := encI_da hv
  obtain ⟨r, rfl, e2⟩ := encI_da hw
  refine ⟨a, r, b.1, b.2, c.1, c.2, rfl, rfl, SqT.of (s _ _ e1), SqT.of (s _ _ e2), q _ G H (Gro.refl s) ?_⟩
  rw [ge_ltP]
  exact .bl _
theorem lists_parts {G : Hp} : ∀ {qs : List (Int × Int)} {xs : List V}, DaL G xs (qs.map encIL) → ∃ ks : List (Addr × List V), xs = ks.map (fun p => V.ref p.1) ∧ ks.map (·.2) = qs.map (fun b => [V.int b.1, V.int b.2]) ∧ ∀ p ∈ ks, G p.1 = some (.lst p.2)
  | [], [], _ => ⟨[], rfl, rfl, fun p h => absurd h (by simp)⟩
  | [], _ :: _, h => by have := h.1; simp at this
  | _ :: _, [], h => by have := h.1; simp at this
  | b :: qs, x :: xs, h => by
    have h' : DaL G (x :: xs) (encIL b :: qs.map encIL) := h
    obtain ⟨ks, e1, e2, h3⟩ := lists_parts h'.tl
    obtain ⟨a, ys, rfl, ea, hy⟩ := h'.hd.of_list
    obtain ⟨u, t, rfl, h1, h2⟩ := hy.two
    rw [h1.of_int, h2.of_int] at ea
    refine ⟨(a, [V.int b.1, V.int b.2]) :: ks, by rw [List.map_cons, ← e1], by rw [List.map_cons, List.map_cons, e2], fun p hp => ?_⟩
    rcases List.mem_cons.mp hp with rfl | hp
    · exact ea
    · exact h3 p hp
theorem flat_parts : ∀ qs : List (Int × Int), (qs.map (fun b => [V.int b.1, V.int b.2])).flatten = (flatI qs).map V.int
  | [] => rfl
  | b :: r => by
    have ih := flat_parts r
    unfold flatI at ih ⊢
    rw [List.map_cons, List.flatten_cons, ih, List.flatMap_cons, List.map_append]
    rfl
/-- sum(list of pairs as lists, []) -/
theorem ed_sumL {σ : L2.St} {G : Hp} {ta : TE} {qs : List (Int × Int)} (h : EvD ta σ G (.list (qs.map encIL))) (hn : qs.length < 32) : EvD (tCB (rSumL K) (tCons ta (tCons (tLst tNil) tNil))) σ G (.list (intsD (flatI qs))) := fun H s Q q =>
  (ea_cons h (ea_cons (ed_lst ea_nil (show 0 ≤ 100000 by decide)) ea_nil)) H s _ fun vs G1 H1 a1 hv => by
    obtain ⟨v, u, rfl, h1, h2⟩ := hv.two
    obtain ⟨l, xs, rfl, ea, hx⟩ := h1.of_list
    obtain ⟨e0, ys, rfl, e0a, hy⟩ := h2.of_list
    have ey : ys = [] := List.eq_nil_of_length_eq_zero hy.1
    subst ey
    obtain ⟨ks, rfl, e2, h3⟩ := lists_parts hx
    have ef : (ks.map (·.2)).flatten = (flatI qs).map V.int := by rw [e2, flat_parts]
    refine ⟨l, e0, ks, rfl, SqL.of (a1.s _ _ ea), fun p hp => a1.s _ _ (h3 p hp), a1.s _ _ e0a, ?_, fun z => ?_, fun p hp => ?_⟩
    · rw [ef, List.length_map, flatI_len]; exact sz_of (by omega)
    · subst z
      have eq : qs = [] := by
        cases qs with
        | nil => rfl
        | cons b r => simp at e2
      subst eq
      exact q _ G1 H1 a1 (Da.mk_l e0a DaL.nil)
    · rw [ef]
      exact q _ (upd G1 p _) _ (a1.trans (Gro.new a1.s hp)) (Da.mk_l upd_same DaL.of_ints)
def pre_isFrSo : List PyData → PyData → Prop := fun ds d => ∃ x, ds = [x] ∧ (beamsOf x).length < 32 ∧ (∀ n bs, x = .tuple [.int n, .tuple bs] → n ≤ 1000) ∧ d = .bool (isFr x)
theorem w_is_frame_so (B : Bt mg) (F1 : FnE P w K mg base CX0 1 "_law_is_number" ["_law_own"] (spF pre_num)) (F2 : FnE P w K mg base CX0 3 "_law_is_beam" ["_law_own", "_law_many_so"] (spF pre_lbeam)) (D : Def K mg "_law_is_frame_so" s_is_frame_so) :
    FnE P w K mg base CX0 4 "_law_is_frame_so" ["_law_own"] (spF pre_isFrSo) := by
  refine D.pure b_is_frame_so sc_is_frame_so (fun ds d ⟨x, e, _⟩ => by rw [e]; rfl) fun f cdv A outer s H E G vs ds d hr hv hp => ⟨_, x_is_frame_so B hr (Nat.le_refl _) F1 (by decide) F2 (by decide), ?_⟩
  obtain ⟨x, rfl, hl, hN, rfl⟩ := hp
  obtain ⟨v, rfl, hx⟩ := hv.one
  rcases pair_or x with ⟨y, z, rfl⟩ | hn2
  · refine rd_if (b := (!true) || (decide ((2 : Int) ≠ 2) || ((!(numD y)) || !(isTupD z)))) (eb_or (eb_not (eb_B (ed_isTuple (ed_var rfl hx)))) fun _ => eb_or (eb_test (ed_op (ed_cb (ea_cons (ed_var rfl hx) ea_nil) rd_lenT) ed_int rd_neI1)) fun _ =>
      eb_or (eb_not (eb_B (ed_call (ea_cons (ed_op (ed_var rfl hx) ed_int (rd_xT at0)) ea_nil) ⟨_, rfl, rfl⟩))) fun _ => eb_not (eb_B (ed_isTuple (ed_op (ed_var rfl hx) ed_int (rd_xT at1))))) (fun c => ?_) (fun c => ?_)
    · refine rd_ret (ed_is ed_bl ?_)
      unfold isFr
      split
      · rename_i n bs e
        injection e with e
        injection e with e1 e2
        injection e2 with e2 e3
        subst e1 e2
        simp [numD, isTupD] at c
      · rfl
    · simp at c
      obtain ⟨n, rfl⟩ := num_int c.1
      obtain ⟨bs, rfl⟩ := tup_tup c.2
      have hl' : bs.length < 32 := hl
      have hn1000 := hN n bs rfl
      have d0 : EvD (tOp (rIx K) (tVar 0) (tC (.int 0))) (L2.start n_is_frame_so [v]) G (.int n) := ed_op (ed_var rfl hx) ed_int (rd_xT at0)
      have d1 : EvD (tOp (rIx K) (tVar 0) (tC (.int 1))) (L2.start n_is_frame_so [v]) G (.tuple bs) := ed_op (ed_var rfl hx) ed_int (rd_xT at1)
      have dnil : EvD (tLst tNil) (L2.start n_is_frame_so [v]) G (.list (intsD [])) := ed_lst ea_nil (show 0 ≤ 100000 by decide)
      refine rd_if (b := decide (n < 2) || (!(PyData.eqv (.list (intsD (onesD (lbeamD n) bs))) (.list (intsD []))))) (eb_or (eb_test (ed_op d0 ed_int rd_ltI)) fun _ => eb_test (ed_op (ed_is (ed_lc (oneF (lbeamD n)) (so_T d1) (by omega) fun d hd v' G' s' hv' => ?_) (congrArg PyData.list (ones_eq bs))) dnil (rd_neS (shaped_ints _) (shaped_ints _)))) (fun c2 => ?_) (fun c2 => ?_)
      · refine bd_name (b := !(lbeamD n d)) rfl (eb_not (eb_B (ed_call (ea_cons (ed_var rfl hv') (ea_cons (ed_op (ed_var rfl (hx.mono s')) ed_int (rd_xT at0)) ea_nil)) ⟨d, n, rfl, rfl⟩))) ?_ fun e he => ?_
        · unfold oneF
          cases lbeamD n d <;> rfl
        · unfold oneF at he
          cases cc : lbeamD n d with
          | true => rw [cc] at he; cases he
          | false => rw [cc] at he; cases he; exact ed_int
      · refine rd_ret (ed_is ed_bl ?_)
        rw [eqv_ints] at c2
        rw [isFr_eq]
        by_cases c3 : n < 2
        · rw [decide_eq_false (show ¬ 2 ≤ n by omega)]; rfl
        · rw [decide_eq_false c3] at c2
          have hne : ¬ onesD (lbeamD n) bs = [] := fun e => by rw [e] at c2; simp at c2
          have : bs.all (beamD n) = false := by
            rw [Bool.eq_false_iff]
            intro h
            apply hne
            rw [onesD_nil, List.all_eq_true]
            intro d hd
            rw [lbeam_eq]
            exact (List.all_eq_true.mp h) d hd
          rw [this]
          simp
      · rw [eqv_ints] at c2
        rw [Bool.or_eq_false_iff] at c2
        have h2 : 2 ≤ n := by have := of_decide_eq_false c2.1; omega
        have hones : onesD (lbeamD n) bs = [] := by
          have := c2.2
          simp at this
          exact this
        have hall : bs.all (beamD n) = true := by
          have h := onesD_nil.mp hones
          rw [List.all_eq_true] at h ⊢
          intro d hd
          rw [← lbeam_eq]
          exact h d hd
        have henc := encs_of_beams hall
        generalize hps : bs.map toP = ps at henc
        subst henc
        rw [isFr_eq, hall, decide_eq_true h2, hps]
        have hlps : ps.length < 32 := by rw [List.length_map] at hl'; exact hl'
        have hok : ∀ b ∈ ps, 0 ≤ b.1 ∧ b.1 < b.2 ∧ b.2 < n := fun b hb => by
          have := (List.all_eq_true.mp hall) (encI b) (List.mem_map_of_mem hb)
          rw [beam_enc] at this
          exact of_decide_eq_true this
        refine rd_if (b := !(PyData.eqv (.list (intsD (onesD geF (zipD (ps.map encI) ((ps.drop 1).map encI))))) (.list (intsD [])))) (eb_test (ed_op (ed_is (ed_lc (ds := zipD (ps.map encI) ((ps.drop 1).map encI)) (oneF geF) ?_ (by rw [zipD_len, List.length_map]; omega) fun d hd v' G' s' hv' => ?_) (congrArg PyData.list (ones_eq _))) dnil (rd_neS (shaped_ints _) (shaped_ints _)))) (fun c3 => ?_) (fun c3 => ?_)
        · have e := cut_one (ds := ps.map encI)
          rw [List.map_drop]
          rw [← e]
          exact sd_zipT (ea_cons d1 (ea_cons (ed_sl d1 (eo_part ed_int) eo_no rs_T) ea_nil))
        · obtain ⟨b, c', rfl⟩ := zip_mem hd
          refine bd_pair (b := true) hv' fun u t h1 h3 => ⟨rfl, !(ltP b c'), ?_, eb_test (ed_op (ed_var rfl h1) (ed_var rfl h3) rd_geP), fun e he => ?_⟩
          · show (!(ltP b c')) = (if ltP b c' = true then none else some (PyData.int 1)).isSome
            cases ltP b c' <;> rfl
          · have he' : (if ltP b c' = true then none else some (PyData.int 1)) = some e := he
            cases cc : ltP b c' with
            | true => rw [cc] at he'; cases he'
            | false => rw [cc] at he'; cases he'; exact ed_int
        · refine rd_ret (ed_is ed_bl ?_)
          rw [eqv_ints] at c3
          have hne : ¬ onesD geF (zipD (ps.map encI) ((ps.drop 1).map encI)) = [] := fun e => by rw [e] at c3; simp at c3
          have : ascI ps = false := by
            rw [Bool.eq_false_iff]
            intro h
            apply hne
            rw [onesD_nil, zipD_map, List.all_map]
            unfold ascI at h
            rw [List.all_map] at h
            exact h
          rw [this]
          simp
        · rw [eqv_ints] at c3
          have h0 : onesD geF (zipD (ps.map encI) ((ps.drop 1).map encI)) = [] := by simpa using c3
          have hasc : ascI ps = true := by
            rw [onesD_nil, zipD_map, List.all_map] at h0
            unfold ascI
            rw [List.all_map]
            exact h0
          rw [hasc]
          obtain ⟨m, rfl⟩ : ∃ m : Nat, n = (m : Nat) := ⟨n.toNat, by omega⟩
          have hfl : ∀ k ∈ flatI ps, 0 ≤ k ∧ k < (m : Nat) := fun k hk => by
            unfold flatI at hk
            obtain ⟨b, hb, hk⟩ := List.mem_flatMap.mp hk
            have := hok b hb
            have : k = b.1 ∨ k = b.2 := by simpa using hk
            rcases this with rfl | rfl <;> omega
          have drng : EvD (tLstRg (tRg1 (tOp (rIx K) (tVar 0) (tC (.int 0))))) (L2.start n_is_frame_so [v]) G (.list (intsD (rngI m))) := fun H s Q q => d0 H s _ fun nv G1 H1 a1 hn => by
            refine ⟨_, hn.of_int, ⟨by omega, by omega, by omega, by omega, by omega⟩, fun p hp => ?_⟩
            rw [rgV_rng]
            exact q _ (upd G1 p _) _ (a1.trans (Gro.new a1.s hp)) (Da.mk_l upd_same DaL.of_ints)
          refine rd_ret (ed_is (ed_op (ed_sset (ed_sumL (ed_is (ed_lcM (fun d => encIL (toP d)) (so_T d1) (by rw [List.length_map]; omega) fun d hd v' G' s' hv' => ?_) ?_) hlps) (by rw [flatI_len]; omega)) drng (rd_eqS (shaped_ints _) (shaped_ints _))) ?_)
          · obtain ⟨b, hb, rfl⟩ := List.mem_map.mp hd
            refine bd_name (b := true) rfl eb_yes rfl fun e he => ?_
            cases he
            exact ed_cb (ea_cons (ed_var rfl hv') ea_nil) rd_listT
          · rw [List.map_map]; rfl
          · rw [eqv_ints]
            have := norm_full hfl
            have h3 : decide (normI (flatI ps) = rngI m) = decide (((normI (flatI ps)).length : Int) = (m : Nat)) := by
              by_cases c4 : normI (flatI ps) = rngI m
              · rw [decide_eq_true c4, decide_eq_true (by have := this.mpr c4; omega)]
              · rw [decide_eq_false c4, decide_eq_false (fun e => c4 (this.mp (by omega)))]
            rw [h3]
            simp
  · by_cases ct : isTupD x = true
    · obtain ⟨es, rfl⟩ := tup_tup ct
      have hne : decide (((es.length : Nat) : Int) ≠ 2) = true := by
        have : ¬ (((es.length : Nat) : Int) = 2) := of_decide_eq_false hn2
        exact decide_eq_true this
      refine rd_if (b := (!true) || (decide (((es.length : Nat) : Int) ≠ 2) || false)) (eb_or (eb_not (eb_B (ed_isTuple (ed_var rfl hx)))) fun _ => eb_or (eb_test (ed_op (ed_cb (ea_cons (ed_var rfl hx) ea_nil) rd_lenT) ed_int rd_neI1)) fun c => absurd c (by rw [hne]; decide)) (fun c => ?_) (fun c => ?_)
      · exact rd_ret (ed_is ed_bl (by rw [isFr_no hn2]))
      · rw [hne] at c; cases c
    · have ct' : isTupD x = false := by simpa using ct
      refine rd_if (b := (!(isTupD x)) || false) (eb_or (eb_not (eb_B (ed_isTuple (ed_var rfl hx)))) fun c => absurd c (by rw [ct']; decide)) (fun c => ?_) (fun c => ?_)
      · exact rd_ret (ed_is ed_bl (by rw [isFr_no hn2]))
      · rw [ct'] at c; cases c
end
end K3

set_option Elab.async false
set_option linter.all false
set_option maxRecDepth 100000
set_option maxHeartbeats 4000000
/-! What draws: the box of draws at t alone changes. -/
namespace K3
open PySem PySem.Spec PyProof.Rows L2
abbrev maxM : Nat := 1000000
structure DSt (t : Addr) (m : Nat) (G H : Hp) : Prop where
  s : Same G H
  o : G t = none
  b : ∃ a b c : Int, H t = some (.lst [.int a, .int b, .int c]) ∧ 0 ≤ a ∧ 0 ≤ b ∧ b < 2 ^ 62 ∧ 0 ≤ c ∧ c ≤ (m : Nat)
structure Dr (t : Addr) (G H G' H' : Hp) : Prop where
  g : Same G G'
  k : ∀ b o, b ≠ t → H b = some o → H' b = some o
  n : ∀ b, G' b ≠ none → G b ≠ none ∨ H b = none
theorem DSt.up {t : Addr} {m m' : Nat} {G H : Hp} (h : DSt t m G H) (l : m ≤ m') : DSt t m' G H := by
  obtain ⟨a, b, c, h1, h2, h3, h4, h5, h6⟩ := h.b
  exact ⟨h.s, h.o, a, b, c, h1, h2, h3, h4, h5, by omega⟩
theorem DSt.ex {t : Addr} {m : Nat} {G H : Hp} (h : DSt t m G H) : H t ≠ none := by
  obtain ⟨a, b, c, h1, _⟩ := h.b
  rw [h1]
  exact fun z => nomatch z
theorem Dr.refl {t : Addr} {G H : Hp} : Dr t G H G H := ⟨Same.refl G, fun _ _ _ h => h, fun _ h => .inl h⟩
theorem Dr.trans {t : Addr} {m : Nat} {G H G1 H1 G2 H2 : Hp} (a : Dr t G H G1 H1) (d : DSt t m G1 H1) (b : Dr t G1 H1 G2 H2) : Dr t G H G2 H2 := ⟨a.g.trans b.g, fun c o h q => b.k c o h (a.k c o h q), fun x h => by
  rcases b.n x h with z | z
  · exact a.n x z
  · by_cases c : x = t
    · subst c; exact absurd z d.ex
    · right
      cases q : H x with
      | none => rfl
      | some o => rw [a.k x o c q] at z; cases z⟩
theorem Gro.dr {t : Addr} {G H G' H' : Hp} (a : Gro G H G' H') : Dr t G H G' H' := ⟨a.g, fun b o _ h => a.k b o h, a.n⟩
theorem Gro.dst {t : Addr} {m : Nat} {G H G' H' : Hp} (a : Gro G H G' H') (d : DSt t m G H) : DSt t m G' H' := by
  obtain ⟨x, y, c, h1, h2⟩ := d.b
  exact ⟨a.s, a.out d.o h1, x, y, c, a.k _ _ h1, h2⟩
/-- a thing that is out of the clean heap and that is not the box is kept, and stays out -/
theorem Dr.keep {t : Addr} {G H G' H' : Hp} (a : Dr t G H G' H') {p : Addr} {o : HO} (hp : p ≠ t) (h : H p = some o) : H' p = some o := a.k p o hp h
theorem Dr.out {t : Addr} {G H G' H' : Hp} (a : Dr t G H G' H') {p : Addr} {o : HO} (h : G p = none) (h' : H p = some o) : G' p = none := by
  cases q : G' p with
  | none => rfl
  | some u =>
    rcases a.n p (ne_none q) with z | z
    · exact absurd h z
    · rw [h'] at z; cases z
theorem Dr.mut {t : Addr} {G H G' H' : Hp} (a : Dr t G H G' H') {p : Addr} {o : HO} (h : H p = none) : Dr t G H G' (upd H' p o) := ⟨a.g, fun b u hb q => by rw [upd_ne (ne_of_none q h)]; exact a.k b u hb q, a.n⟩
theorem DSt.mut {t : Addr} {m : Nat} {G H : Hp} (d : DSt t m G H) {p : Addr} {o : HO} (h : G p = none) (hp : p ≠ t) : DSt t m G (upd H p o) := by
  obtain ⟨x, y, c, h1, h2⟩ := d.b
  exact ⟨fun b u q => by rw [upd_ne (ne_of_none q h)]; exact d.s b u q, d.o, x, y, c, by rw [upd_ne (Ne.symm hp)]; exact h1, h2⟩
theorem Dr.join {t : Addr} {G H G' H' : Hp} (a : Dr t G H G' H') {p : Addr} {o : HO} (h : H p = none) (h2 : G' p = none) : Dr t G H (upd G' p o) H' := ⟨a.g.trans (same_upd h2), a.k, fun b hb => by
  by_cases c : b = p
  · subst c; exact .inr h
  · rw [upd_ne c] at hb; exact a.n b hb⟩
theorem DSt.join {t : Addr} {m : Nat} {G H : Hp} (d : DSt t m G H) {p : Addr} {o : HO} (h' : H p = some o) (hp : p ≠ t) : DSt t m (upd G p o) H := ⟨fun b u q => by
  by_cases c : b = p
  · subst c; rw [upd_same] at q; cases q; exact h'
  · rw [upd_ne c] at q; exact d.s b u q, by rw [upd_ne (Ne.symm hp)]; exact d.o, d.b⟩
theorem Dr.up {t : Addr} {m k : Nat} {G Ga H G1 H1 : Hp} (s : Same G Ga) (d : DSt t m Ga H) (a : Dr t G H G1 H1) (d1 : DSt t k G1 H1) : Dr t Ga H (uni Ga G1) H1 ∧ DSt t k (uni Ga G1) H1 ∧ Same G1 (uni Ga G1) := by
  have sa : Same Ga H1 := fun b o h => a.k b o (fun e => by subst e; rw [d.o] at h; cases h) (d.s b o h)
  refine ⟨⟨uni_l, a.k, fun b hb => ?_⟩, ⟨uni_s sa d1.s, ?_, d1.b⟩, uni_r sa d1.s⟩
  · cases q : Ga b with
    | some u => exact .inl fun z => nomatch z
    | none =>
      have e : uni Ga G1 b = G1 b := by unfold uni; rw [q]
      rw [e] at hb
      rcases a.n b hb with z | z
      · cases r : G b with
        | none => exact absurd r z
        | some u => rw [s b u r] at q; cases q
      · exact .inr z
  · unfold uni
    rw [d.o]
    exact d1.o
theorem DSt.low {t : Addr} {m : Nat} {G Ga H : Hp} (s : Same G Ga) (d : DSt t m Ga H) : DSt t m G H := ⟨s.trans d.s, s.free d.o, d.b⟩
def EvX (t : Addr) (k : Nat) (te : TE) (σ : L2.St) (G : Hp) (p : PyData → Prop) : Prop := ∀ m H, m + k ≤ maxM → DSt t m G H → ∀ Q : VK, (∀ d v G' H', p d → Dr t G H G' H' → DSt t (m + k) G' H' → Da G' v d → Q v H') → te σ H Q
def EvXA (t : Addr) (k : Nat) (ts : TA) (σ : L2.St) (G : Hp) (p : List PyData → Prop) : Prop := ∀ m H, m + k ≤ maxM → DSt t m G H → ∀ Q : List V → Hp → Prop, (∀ ds vs G' H', p ds → Dr t G H G' H' → DSt t (m + k) G' H' → DaL G' vs ds → Q vs H') → ts σ H Q
/-- the promise of a def whose first argument is the box -/
def spDr (k : Nat) (ok : List PyData → Prop) (post : List PyData → PyData → Prop) : Sp := fun vs H Q _ => ∃ t m G ws ds, vs = V.ref t :: ws ∧ m + k ≤ maxM ∧ DSt t m G H ∧ DaL G ws ds ∧ ok ds ∧ ∀ d v G' H', post ds d → Dr t G H G' H' → DSt t (m + k) G' H' → Da G' v d → Q v H'
section
variable {K : PySem.W.Frag} {σ : L2.St} {t : Addr} {k k1 k2 : Nat} {G G' H H' : Hp} {ta tb te : TE} {ts : TA} {p q : PyData → Prop} {d : PyData} {ds : List PyData}
theorem EvX.mono (s : Same G G') (h : EvX t k te σ G p) : EvX t k te σ G' p := fun m H hm dH Q hq => h m H hm (dH.low s) Q fun d v G1 H1 hp a d1 hv => by
  obtain ⟨b, c, e⟩ := Dr.up s dH a d1
  exact hq d v _ H1 hp b c (hv.mono e)
theorem EvXA.mono {p : List PyData → Prop} (s : Same G G') (h : EvXA t k ts σ G p) : EvXA t k ts σ G' p := fun m H hm dH Q hq => h m H hm (dH.low s) Q fun d v G1 H1 hp a d1 hv => by
  obtain ⟨b, c, e⟩ := Dr.up s dH a d1
  exact hq d v _ H1 hp b c (hv.mono e)
theorem ex_of (h : EvD te σ G d) : EvX t 0 te σ G (fun x => x = d) := fun m H hm dH Q hq => h H dH.s Q fun v G1 H1 a hv => hq d v G1 H1 rfl a.dr (a.dst dH) hv
theorem ex_imp (h : EvX t k te σ G p) (hk : k ≤ k1) (hp : ∀ d, p d → q d) : EvX t k1 te σ G q := fun m H hm dH Q hq => h m H (by omega) dH Q fun d v G1 H1 hp' a d1 hv => hq d v G1 H1 (hp d hp') a (d1.up (by omega)) hv
theorem exa_nil : EvXA t 0 tNil σ G (fun l => l = []) := fun m H hm dH Q hq => hq [] [] G H rfl Dr.refl dH DaL.nil
theorem exa_cons {q : List PyData → Prop} (h : EvX t k1 te σ G p) (hr : EvXA t k2 ts σ G q) : EvXA t (k1 + k2) (tCons te ts) σ G (fun l => ∃ d ds, l = d :: ds ∧ p d ∧ q ds) := fun m H hm dH Q hq =>
  h m H (by omega) dH _ fun d v G1 H1 hp a1 d1 hv => (hr.mono a1.g) (m + k1) H1 (by omega) d1 _ fun ds vs G2 H2 hq2 a2 d2 hvs => hq (d :: ds) _ G2 H2 ⟨d, ds, rfl, hp, hq2⟩ (a1.trans d1 a2) (d2.up (by omega)) (DaL.cons (hv.mono a2.g) hvs)
theorem exa_of (h : EvA ts σ G ds) : EvXA t 0 ts σ G (fun x => x = ds) := fun m H hm dH Q hq => h H dH.s Q fun v G1 H1 a hv => hq ds v G1 H1 rfl a.dr (a.dst dH) hv
theorem exa_imp {p q : List PyData → Prop} (h : EvXA t k ts σ G p) (hk : k ≤ k1) (hp : ∀ d, p d → q d) : EvXA t k1 ts σ G q := fun m H hm dH Q hq => h m H (by omega) dH Q fun d v G1 H1 hp' a d1 hv => hq d v G1 H1 (hp d hp') a (d1.up (by omega)) hv
theorem ex_call {pre : List PyData → Prop} {post : List PyData → PyData → Prop} {E : XK} {i : Nat} (hi : σ[i]? = some (some (.ref t))) (h : EvA ts σ G ds) (ho : pre ds) : EvX t k (tCall (spDr k pre post) [] E (tCons (tVar i) ts)) σ G (post ds) := fun m H hm dH Q hq => by
  refine ⟨.ref t, hi, ?_⟩
  refine h H dH.s _ fun vs G1 H1 a1 hvs => ?_
  exact ⟨t, m, G1, vs, ds, by rw [List.append_nil], hm, a1.dst dH, hvs, ho, fun d v G2 H2 hp a2 d2 hv => hq d v G2 H2 hp (a1.dr.trans (a1.dst dH) a2) d2 hv⟩
theorem ex_op {r : R2} {z : PyData → PyData → PyData} (ha : EvX t k1 ta σ G p) (hb : EvX t k2 tb σ G q) (hr : ∀ x y, p x → q y → RvD r x y (z x y)) : EvX t (k1 + k2) (tOp r ta tb) σ G (fun d => ∃ x y, p x ∧ q y ∧ d = z x y) := fun m H hm dH Q hq =>
  ha m H (by omega) dH _ fun x v G1 H1 hx a1 d1 hv => (hb.mono a1.g) (m + k1) H1 (by omega) d1 _ fun y w G2 H2 hy a2 d2 hw => (hr x y hx hy) G2 H2 v w d2.s (hv.mono a2.g) hw Q fun u G3 H3 a3 hu =>
    hq (z x y) u G3 H3 ⟨x, y, hx, hy, rfl⟩ ((a1.trans d1 a2).trans d2 a3.dr) ((a3.dst d2).up (by omega)) hu
theorem ex_tup {q : List PyData → Prop} (h : EvXA t k ts σ G q) (hl : ∀ ds, q ds → ds.length ≤ 100000) : EvX t k (tTup ts) σ G (fun d => ∃ ds, q ds ∧ d = .tuple ds) := fun m H hm dH Q hq =>
  h m H hm dH _ fun ds vs G1 H1 hp a1 d1 hv => ⟨sz_of (by rw [hv.1]; exact hl ds hp), fun x hx => by
    have a2 : Gro G1 H1 (upd G1 x (.tup vs)) (upd H1 x (.tup vs)) := Gro.new d1.s hx
    exact hq (.tuple ds) (.ref x) _ _ ⟨ds, hp, rfl⟩ (a1.trans d1 a2.dr) (a2.dst d1) (Da.mk_t upd_same (hv.mono a2.g))⟩
theorem ex_lst {q : List PyData → Prop} (h : EvXA t k ts σ G q) (hl : ∀ ds, q ds → ds.length ≤ 100000) : EvX t k (tLst ts) σ G (fun d => ∃ ds, q ds ∧ d = .list ds) := fun m H hm dH Q hq =>
  h m H hm dH _ fun ds vs G1 H1 hp a1 d1 hv => ⟨sz_of (by rw [hv.1]; exact hl ds hp), fun x hx => by
    have a2 : Gro G1 H1 (upd G1 x (.lst vs)) (upd H1 x (.lst vs)) := Gro.new d1.s hx
    exact hq (.list ds) (.ref x) _ _ ⟨ds, hp, rfl⟩ (a1.trans d1 a2.dr) (a2.dst d1) (Da.mk_l upd_same (hv.mono a2.g))⟩
/-- one turn of a comprehension that draws: k draws at most -/
def BodyX (t : Addr) (k : Nat) (g : TG) (tt : TT) (te : TE) (vs : List Nat) (σ : L2.St) (G : Hp) (v : V) (p : PyData → Prop) : Prop :=
  ∀ m H, m + k ≤ maxM → DSt t m G H → ∀ (QS : V → Hp → Prop) (QN : Hp → Prop), (∀ e u G' H', p e → Dr t G H G' H' → DSt t (m + k) G' H' → Da G' u e → QS u H') →
    g v (wipe σ vs) H fun σ2 H2 => wipe σ2 vs = wipe σ vs ∧ tt σ2 H2 fun b H3 => if b = true then te σ2 H3 QS else QN H3
theorem bx_name {j : Nat} {vs : List Nat} {v : V} (hw : wipe ((wipe σ vs).set j (some v)) vs = wipe σ vs) (he : EvX t k te ((wipe σ vs).set j (some v)) G p) : BodyX t k (gName j) tYes te vs σ G v p := fun m H hm dH QS QN q1 =>
  ⟨hw, show (if true = true then te ((wipe σ vs).set j (some v)) H QS else QN H) from ite2 (fun _ => he m H hm dH _ fun e u G1 H1 hp a d1 hu => q1 e u G1 H1 hp a d1 hu) (fun c => absurd rfl c)⟩
theorem ex_lc {wi : TI} {g : TG} {vs : List Nat} {P : PyData → PyData → Prop} {n : Nat} (hs : SrcD wi σ G ds) (hn : ds.length = n) (hl : n < 100000) (hb : ∀ d ∈ ds, ∀ v G', Same G G' → Da G' v d → BodyX t k g tYes te vs σ G' v (P d)) :
    EvX t (n * k) (tLc wi g tYes te vs) σ G (fun z => ∃ es : List PyData, z = .list es ∧ es.length = ds.length ∧ ∀ (i : Nat) (d e : PyData), ds[i]? = some d → es[i]? = some e → P d e) := fun m0 H0 hm d0 Q q =>
  hs H0 d0.s _ fun J G1 H1 a1 W D hD => by
    subst hn
    have d1 := a1.dst d0
    have hDt : D ≠ t := fun e => by subst e; exact d1.ex hD
    let Pv : Nat → Hp → Prop := fun i H => ∃ G2 acc es, Dr t G1 H1 G2 H ∧ DSt t (m0 + i * k) G2 H ∧ G2 D = none ∧ H D = some (.lst acc) ∧ DaL G2 acc es ∧ es.length = i ∧ ∀ (j : Nat) (d e : PyData), j < i → ds[j]? = some d → es[j]? = some e → P d e
    have hD1 : G1 D = none := d1.s.free hD
    refine ⟨fun i m H => m = ds.length - i ∧ i ≤ ds.length ∧ Pv i H, ⟨ds.length, by simp, Nat.zero_le _, G1, [], [], Dr.refl.mut hD, (d1.up (by omega)).mut hD1 hDt, hD1, upd_same, DaL.nil, rfl, fun j d e h => by omega⟩, ?_⟩
    rintro i m H ⟨rfl, hi, G2, acc, es, a2, d2, hG2, hHD, hacc, hel, hP⟩
    have s12 : Same G1 G2 := a2.g
    have s2H : Same G2 H := d2.s
    by_cases hlt : i < ds.length
    · refine .inr ⟨W.goes i H (s12.trans s2H) hlt, Pv (i + 1), fun H' p' => ⟨ds.length - (i + 1), by omega, rfl, hlt, p'⟩, fun x H' y => ?_⟩
      have hd := List.getElem?_eq_getElem hlt
      obtain ⟨G3, a3, hx⟩ := W.yields i G2 H x H' _ s12 s2H hd y
      have hG3 := a3.out hG2 hHD
      have hH3 := a3.k _ _ hHD
      have d3 := a3.dst d2
      have hmk : m0 + i * k + k ≤ maxM := by
        have : (i + 1) * k ≤ ds.length * k := Nat.mul_le_mul_right k hlt
        rw [Nat.succ_mul] at this
        omega
      refine hb ds[i] (List.getElem_mem hlt) x G3 (a1.g.trans (s12.trans a3.g)) hx (m0 + i * k) H' hmk d3 _ _ (fun e u G4 H4 he a4 d4 hu => ?_)
      have hG4 := a4.out hG3 hH3
      have hH4 := a4.keep hDt hH3
      refine ⟨acc, hH4, sz_lt (by rw [hacc.1, hel]; omega), G4, acc ++ [u], es ++ [e], ((a2.trans d2 a3.dr).trans d3 a4).mut hD, ?_, hG4, upd_same, (hacc.mono (a3.g.trans a4.g)).snoc hu, by simp [hel], fun j d e' hj hd' he' => ?_⟩
      · rw [Nat.succ_mul, ← Nat.add_assoc]
        exact d4.mut hG4 hDt
      · by_cases c : j < i
        · rw [List.getElem?_append_left (by omega)] at he'
          exact hP j d e' c hd' he'
        · have ej : j = i := by omega
          subst ej
          rw [List.getElem?_append_right (by omega), hel] at he'
          simp at he'
          rw [hd] at hd'
          cases hd'
          rw [← he']
          exact he
    · have e : i = ds.length := by omega
      subst e
      refine .inl ⟨W.stops H (s12.trans s2H), ?_⟩
      exact q (.list es) (.ref D) (upd G2 D (.lst acc)) H ⟨es, rfl, hel, fun i d e h1 h2 => hP i d e (List.getElem?_eq_some_iff.mp h1).1 h1 h2⟩ (a1.dr.trans d1 (a2.join hD hG2)) (d2.join hHD hDt) (Da.mk_l upd_same (hacc.mono (same_upd hG2)))
/-! statements -/
def RetX (t : Addr) (k : Nat) (ts : TS) (σ : L2.St) (G : Hp) (p : PyData → Prop) : Prop := ∀ m H, m + k ≤ maxM → DSt t m G H → ∀ D : Ends, (∀ d v G' H', p d → Dr t G H G' H' → DSt t (m + k) G' H' → Da G' v d → D.rt v H') → ts D σ H
theorem RetX.mono {u : TS} (s : Same G G') (h : RetX t k u σ G p) : RetX t k u σ G' p := fun m H hm dH D hq => h m H hm (dH.low s) D fun d v G1 H1 hp a d1 hv => by
  obtain ⟨b, c, e⟩ := Dr.up s dH a d1
  exact hq d v _ H1 hp b c (hv.mono e)
theorem rx_imp {u : TS} (h : RetX t k u σ G p) (hk : k ≤ k1) (hp : ∀ d, p d → q d) : RetX t k1 u σ G q := fun m H hm dH D hq => h m H (by omega) dH D fun d v G1 H1 hp' a d1 hv => hq d v G1 H1 (hp d hp') a (d1.up (by omega)) hv
theorem rx_ret (h : EvX t k te σ G p) : RetX t k (tRet te) σ G p := fun m H hm dH D hq => h m H hm dH D.rt hq
theorem rx_set {i : Nat} {u : TS} (h : EvX t k1 te σ G q) (hu : ∀ d v G', q d → Same G G' → Da G' v d → RetX t k2 u (σ.set i (some v)) G' p) : RetX t (k1 + k2) (tSeq (tAsg te (gName i)) u) σ G p := fun m H hm dH D hq =>
  h m H (by omega) dH _ fun d v G1 H1 hd a1 d1 hv => hu d v G1 hd a1.g hv (m + k1) H1 (by omega) d1 D fun e w G2 H2 he a2 d2 hw => hq e w G2 H2 he (a1.trans d1 a2) (d2.up (by omega)) hw
theorem rx_setD {i : Nat} {u : TS} {x : PyData} (h : EvD te σ G x) (hu : ∀ v G', Same G G' → Da G' v x → RetX t k2 u (σ.set i (some v)) G' p) : RetX t k2 (tSeq (tAsg te (gName i)) u) σ G p :=
  rx_imp (rx_set (ex_of h) fun d v G' e s hv => by subst e; exact hu v G' s hv) (by omega) fun _ h => h
theorem rx_if {b : Bool} {c : TT} {u w : TS} (h : EvB c σ G b) (h1 : b = true → RetX t k u σ G p) (h2 : b = false → RetX t k w σ G p) : RetX t k (tSeq (tIfS c u tNext) w) σ G p := fun m H hm dH D hq =>
  h H dH.s _ fun G1 H1 a1 => by
    have d1 := a1.dst dH
    cases b with
    | true => exact ite2 (fun _ => (h1 rfl).mono a1.g m H1 hm d1 { D with nx := w D } fun d v G2 H2 hd a2 d2 hw => hq d v G2 H2 hd (a1.dr.trans d1 a2) d2 hw) (fun c => absurd rfl c)
    | false => exact ite2 (fun c => nomatch c) (fun _ => (h2 rfl).mono a1.g m H1 hm d1 D fun d v G2 H2 hd a2 d2 hw => hq d v G2 H2 hd (a1.dr.trans d1 a2) d2 hw)
theorem rx_par {i j : Nat} {u : TS} {ta' : TA} {q : List PyData → Prop} (h : EvXA t k1 ta' σ G q) (hl : ∀ ds, q ds → ∃ x y, ds = [x, y]) (hu : ∀ x y v w G', q [x, y] → Same G G' → Da G' v x → Da G' w y → RetX t k2 u ((σ.set i (some v)).set j (some w)) G' p) :
    RetX t (k1 + k2) (tSeq (tPar i j ta') u) σ G p := fun m H hm dH D hq =>
  h m H (by omega) dH _ fun ds vs G1 H1 hd a1 d1 hv => by
    obtain ⟨x, y, rfl⟩ := hl ds hd
    obtain ⟨v, w, rfl, hv, hw⟩ := hv.two
    exact ⟨v, w, rfl, hu x y v w G1 hd a1.g hv hw (m + k1) H1 (by omega) d1 D fun e w G2 H2 he a2 d2 hw => hq e w G2 H2 he (a1.trans d1 a2) (d2.up (by omega)) hw⟩
theorem rx_unp {i j : Nat} {u : TS} {x y : PyData} (h : EvD te σ G (.tuple [x, y])) (hu : ∀ v w G', Same G G' → Da G' v x → Da G' w y → RetX t k u ((σ.set i (some v)).set j (some w)) G' p) : RetX t k (tSeq (tAsg te (gTup K 2 (gCons (gName i) (gCons (gName j) gNil)))) u) σ G p := fun m H hm dH D hq =>
  h H dH.s _ fun vs G1 H1 a1 hvs => by
    obtain ⟨a, xs, rfl, ea, hx⟩ := hvs.of_tup
    obtain ⟨v, w, rfl, hv, hw⟩ := hx.two
    have d1 := a1.dst dH
    exact ⟨a, _, rfl, SqT.of (a1.s _ _ ea), rfl, v, _, rfl, w, _, rfl, rfl, hu v w G1 a1.g hv hw m H1 hm d1 D fun d v G2 H2 hd a2 d2 hw => hq d v G2 H2 hd (a1.dr.trans d1 a2) d2 hw⟩
end
section
variable {P : Program} {w : World} {K : PySem.W.Frag} {mg : Str → Option Value} {base : Heap} {x : Str} {st : Stmt} {ps : List Str}
theorem Def.draw {CX : CXT} {N : List Str} {k c : Nat} {pre : List PyData → Prop} {post : List PyData → PyData → Prop} (D : Def K mg x st) (b : ∀ {f : Addr} {fd : FuncData}, FunD K x x (defArgs st) (defBody st) (defScope st) [] [] f fd → Binds K fd ps []) (S : FnScope N ps (defScope st)) (hl : ∀ ds, pre ds → ds.length + 1 = ps.length)
    (hbody : ∀ (f : Addr) (cdv : Value) (A : Around) (outer : List Env) (s : Shared) (H : Hp) (E : XK) (t : Addr) (G : Hp) (vs : List V) (ds : List PyData), Room k (A.deeper (envOfC x (defScope st) s.heap.objs.size f cdv)) → DaL G vs ds → pre ds →
      ∃ u, PSs (cxOf CX P w K mg base N x (defScope st) f cdv A outer s H E).nox (defBody st) u ∧ RetX t c u (start N (.ref t :: vs)) G (post ds)) : FnE P w K mg base CX (k + 1) x ps (spDr c pre post) :=
  D.fnE b fun f fd F => F.ok S (fun vs H Q E h => by
    obtain ⟨t, m, G, ws, ds, rfl, _, _, hv, hp, _⟩ := h
    rw [List.length_cons, hv.1, hl _ hp]) fun cdv A outer s H vs Q E hr h => by
    obtain ⟨t, m, G, ws, ds, rfl, hm, dH, hv, hp, q⟩ := h
    obtain ⟨u, hu, rt⟩ := hbody f cdv A outer s H E t G ws ds hr hv hp
    exact ⟨u, PSs.nox hu, rt m H hm dH _ q⟩
end
end K3

set_option Elab.async false
set_option linter.all false
set_option maxRecDepth 100000
set_option maxHeartbeats 4000000
/-! Walks: take, of, pick. -/
namespace K3
open PySem PySem.Spec PyProof.Rows L2
theorem rd_int1 {i : Int} : RcD rInt1 [.int i] (.int i) := fun G H vs s hv Q q => by
  obtain ⟨v, rfl, hd⟩ := hv.one
  rw [hd.of_int]
  exact .inl ⟨i, rfl, q _ G H (Gro.refl s) (.int _)⟩
theorem rd_int1b {b : Bool} : RcD rInt1 [.bool b] (.int (if b then 1 else 0)) := fun G H vs s hv Q q => by
  obtain ⟨v, rfl, hd⟩ := hv.one
  rw [hd.of_bool]
  exact .inr ⟨b, rfl, q _ G H (Gro.refl s) (.int _)⟩
theorem rd_abs {i : Int} : RcD rAbs [.int i] (.int (if i < 0 then -i else i)) := fun G H vs s hv Q q => by
  obtain ⟨v, rfl, hd⟩ := hv.one
  rw [hd.of_int]
  exact ⟨i, rfl, q _ G H (Gro.refl s) (.int _)⟩
theorem rd_min2 {i j : Int} : RcD rMin2 [.int i, .int j] (.int (if j < i then j else i)) := fun G H vs s hv Q q => by
  obtain ⟨v, w, rfl, h1, h2⟩ := hv.two
  rw [h1.of_int, h2.of_int]
  exact ⟨i, j, rfl, q _ G H (Gro.refl s) (.int _)⟩
abbrev rMod : R2 := rI (fun _ j => j ≠ 0) fun i j => .int (i.fmod j)
abbrev rDiv : R2 := rI CDivN fun i j => .int (i.fdiv j)
theorem rd_mod {i j : Int} (h : j ≠ 0) : RvD rMod (.int i) (.int j) (.int (i.fmod j)) := rd_I h fun _ => .int _
theorem rd_div {i j : Int} (h : j ≠ 0) (h2 : j.natAbs < 1073741824) : RvD rDiv (.int i) (.int j) (.int (i.fdiv j)) := rd_I ⟨h, h2⟩ fun _ => .int _
theorem rd_mulL {i j : Int} (h : -(2 ^ 64) < i ∧ i < 2 ^ 64) : RvD rTimes (.int i) (.int j) (.int (i * j)) := rd_l (rd_I (.inl h) fun _ => .int _)
theorem rd_mulR {i j : Int} (h : -(2 ^ 64) < j ∧ j < 2 ^ 64) : RvD rTimes (.int i) (.int j) (.int (i * j)) := rd_l (rd_I (.inr h) fun _ => .int _)
theorem rd_gt {i j : Int} : RvD (rI0 fun i j => .bl (decide (j < i))) (.int i) (.int j) (.bool (decide (j < i))) := rd_I0b
theorem rd_sub {i j : Int} : RvD (rI0 fun i j => .int (i - j)) (.int i) (.int j) (.int (i - j)) := rd_I0i
abbrev boxO (a b c : Int) : HO := .lst [.int a, .int b, .int c]
theorem box_same {t : Addr} {G H : Hp} {a b c : Int} (s : Same G H) (hb : H t = some (boxO a b c)) : Same (upd G t (boxO a b c)) H := fun x u q => by
  by_cases e : x = t
  · subst e; rw [upd_same] at q; cases q; exact hb
  · rw [upd_ne e] at q; exact s x u q
theorem box_da {t : Addr} {G : Hp} {a b c : Int} : Da (upd G t (boxO a b c)) (.ref t) (.list [.int a, .int b, .int c]) := Da.mk_l upd_same (.cons (.int a) (.cons (.int b) (.cons (.int c) .nil)))
theorem ed_at {te : TE} {σ : L2.St} {G H : Hp} {r : Int} {Q : VK} (h : EvD te σ G (.int r)) (s : Same G H) (q : ∀ H', Same H H' → Q (.int r) H') : te σ H Q := h H s Q fun v G' H' a hv => by rw [hv.of_int]; exact q H' a.k
theorem box_dr {t : Addr} {m k : Nat} {G H H' : Hp} {a b c : Int} (d : DSt t m G H) (s : Same H H') (ha : 0 ≤ a) (hb : 0 ≤ b ∧ b < 2 ^ 62) (hc : 0 ≤ c ∧ c ≤ ((m + k : Nat) : Int)) : Dr t G H G (upd H' t (boxO a b c)) ∧ DSt t (m + k) G (upd H' t (boxO a b c)) := by
  refine ⟨⟨Same.refl G, fun x o hx q => by rw [upd_ne hx]; exact s x o q, fun x h => .inl h⟩, ⟨fun x o q => ?_, d.o, a, b, c, upd_same, ha, hb.1, hb.2, hc.1, hc.2⟩⟩
  have : x ≠ t := fun e => by subst e; rw [d.o] at q; cases q
  rw [upd_ne this]
  exact s x o (d.s x o q)
section
variable {P : Program} {w : World} {K : PySem.W.Frag} {mg : Str → Option Value} {base : Heap}
def ok_take : List PyData → Prop := fun ds => ∃ n : Int, ds = [.int n] ∧ 1 ≤ n ∧ n ≤ 1000
def post_take : List PyData → PyData → Prop := fun ds d => ∃ n r : Int, ds = [.int n] ∧ d = .int r ∧ 0 ≤ r ∧ r < n
theorem fmod_in {i n : Int} (h : 1 ≤ n) : 0 ≤ i.fmod n ∧ i.fmod n < n := ⟨Int.fmod_nonneg_of_pos _ (by omega), Int.fmod_lt_of_pos _ (by omega)⟩
theorem w_take (B : Bt mg) (D : Def K mg "_law_take" s_take) : FnE P w K mg base CX0 1 "_law_take" ["_law_tin", "_law_below_so"] (spDr 1 ok_take post_take) := by
  refine D.draw b_take sc_take (fun ds ⟨n, e, _⟩ => by rw [e]; rfl) fun f cdv A outer s H E t G vs ds hr hv hp => ⟨_, x_take B hr (Nat.le_refl _), ?_⟩
  obtain ⟨n, rfl, h1, h2⟩ := hp
  obtain ⟨v, rfl, hv⟩ := hv.one
  have ev : v = .int n := by have := hv.1; exact (DaL.hd (by assumption)).of_int
  subst ev
  intro m H hm dH D hq
  have hm' : m + 1 ≤ 1000000 := hm
  obtain ⟨a, b, c, hb, ha, hb0, hb1, hc0, hc1⟩ := dH.b
  have sp := box_same dH.s hb
  have db := box_da (t := t) (G := G) (a := a) (b := b) (c := c)
  have fin : ∀ (i : Int) (H' : Hp) (a' c' : Int), Same H H' → 0 ≤ a' → 0 ≤ c' ∧ c' ≤ ((m + 1 : Nat) : Int) → D.rt (.int (i.fmod n)) (upd H' t (boxO a' b c')) := fun i H' a' c' sH ha' hc' => by
    obtain ⟨q1, q2⟩ := box_dr (k := 1) dH sH ha' ⟨hb0, hb1⟩ hc'
    exact hq (.int (i.fmod n)) _ G _ ⟨n, i.fmod n, rfl, rfl, (fmod_in h1).1, (fmod_in h1).2⟩ q1 q2 (.int _)
  refine (eb_test (ed_op (ed_op (ed_var (i := 0) rfl db) ed_int (rd_xL (d := .int a) rfl)) ed_int rd_gt)) H sp _ fun G1 H1 a1 => ?_
  by_cases c0 : 0 < a
  · rw [decide_eq_true c0]
    refine ite2 (fun _ => ?_) (fun z => absurd rfl z)
    refine ed_at (ed_op (ed_cb (ea_cons (ed_op (ed_var (i := 0) rfl db) ed_int (rd_xL (d := .int a) rfl)) ea_nil) rd_int1) (ed_var (i := 1) rfl (.int n)) (rd_mod (by omega))) (sp.trans a1.k) fun H2 s2 => ?_
    refine ed_at (ed_op (ed_op (ed_var (i := 0) rfl db) ed_int (rd_xL (d := .int a) rfl)) (ed_var (i := 1) rfl (.int n)) (rd_div (by omega) (by omega))) ((sp.trans a1.k).trans s2) fun H3 s3 => ?_
    have s03 : Same H H3 := (a1.k.trans s2).trans s3
    refine ⟨_, rfl, t, _, 0, 0, rfl, rfl, s03 _ _ hb, rfl, _, rfl, ?_⟩
    exact fin a H3 (a.fdiv n) c s03 (Int.fdiv_nonneg ha (by omega)) ⟨hc0, by omega⟩
  · rw [decide_eq_false c0]
    refine ite2 (fun z => nomatch z) (fun _ => ?_)
    refine ed_at (ed_op (ed_op (ed_var (i := 0) rfl db) ed_int (rd_xL (d := .int c) rfl)) ed_int rd_plusI) (sp.trans a1.k) fun H2 s2 => ?_
    have s02 : Same H H2 := a1.k.trans s2
    refine ⟨_, rfl, t, _, 2, 2, rfl, rfl, s02 _ _ hb, rfl, ?_⟩
    -- the count has gone up by one
    have sp' : Same (upd G t (boxO a b (c + 1))) (upd H2 t (.lst ([.int a, .int b, .int c].set 2 (.int (c + 1))))) := box_same (fun x o q => by
      have : x ≠ t := fun e => by subst e; rw [dH.o] at q; cases q
      rw [upd_ne this]
      exact s02 x o (dH.s x o q)) upd_same
    have db' := box_da (t := t) (G := G) (a := a) (b := b) (c := c + 1)
    refine ed_at (ed_op (ed_cb (ea_cons (ed_op (ed_op (ed_op (ed_var (i := 0) rfl db') ed_int (rd_xL (d := .int b) rfl)) (ed_op ed_int (ed_op (ed_var (i := 0) rfl db') ed_int (rd_xL (d := .int (c + 1)) rfl)) (rd_mulL (by decide))) rd_plusI) (ed_op ed_int (ed_op (ed_var (i := 0) rfl db') ed_int (rd_xL (d := .int (c + 1)) rfl)) rd_plusI) (rd_mulR (by omega))) ea_nil) rd_int1) ed_int (rd_mod (by decide))) sp' fun H3 s3 => ?_
    have o1 := fmod_in (i := ((b + 48271 * (c + 1)) * (39373 + (c + 1)))) (n := 2147483647) (by decide)
    generalize ((b + 48271 * (c + 1)) * (39373 + (c + 1))).fmod 2147483647 = once at o1 ⊢
    refine ed_at (ed_op (ed_op (ed_cb (ea_cons (ed_var (i := 3) rfl (.int _)) ea_nil) rd_int1) ed_int (rd_mod (by decide))) ed_int rd_plusI) (sp'.trans s3) fun H4 s4 => ?_
    have o2 := fmod_in (i := once) (n := 40009) (by decide)
    generalize hwd : once.fmod 40009 + 7 = wide at o2 ⊢
    refine ed_at (ed_op (ed_cb (ea_cons (ed_op (ed_op (ed_op (ed_var (i := 3) rfl (.int once)) (ed_op (ed_var (i := 0) rfl db') ed_int (rd_xL (d := .int (c + 1)) rfl)) rd_plusI) (ed_op (ed_op (ed_var (i := 0) rfl db') ed_int (rd_xL (d := .int b) rfl)) ed_int (rd_div (by decide) (by decide))) rd_plusI) (ed_var (i := 4) rfl (.int wide)) (rd_mulR (by omega))) ea_nil) rd_int1) ed_int (rd_mod (by decide))) ((sp'.trans s3).trans s4) fun H5 s5 => ?_
    generalize ((once + (c + 1) + b.fdiv 1000003) * wide).fmod 2147483629 = twice
    refine ed_at (ed_op (ed_cb (ea_cons (ed_op (ed_op (ed_cb (ea_cons (ed_op (ed_op (ed_var (i := 5) rfl (.int twice)) ed_int (rd_mulR (by decide))) (ed_var (i := 3) rfl (.int once)) rd_plusI) ea_nil) rd_int1) ed_int (rd_mod (by decide))) ed_int (rd_div (by decide) (by decide))) ea_nil) rd_int1) (ed_var (i := 1) rfl (.int n)) (rd_mod (by omega))) (((sp'.trans s3).trans s4).trans s5) fun H6 s6 => ?_
    have hbox : H6 t = some (boxO a b (c + 1)) := s6 _ _ (s5 _ _ (s4 _ _ (s3 _ _ upd_same)))
    have e6 : H6 = upd H6 t (boxO a b (c + 1)) := by
      funext x
      by_cases e : x = t
      · subst e; rw [upd_same]; exact hbox
      · rw [upd_ne e]
    rw [e6]
    refine hq (.int _) _ G _ ⟨n, _, rfl, rfl, (fmod_in h1).1, (fmod_in h1).2⟩ ⟨Same.refl G, fun x o hx q => ?_, fun x h => .inl h⟩ ⟨fun x o q => ?_, dH.o, a, b, c + 1, upd_same, ha, hb0, hb1, by omega, by omega⟩ (.int _)
    · rw [upd_ne hx]
      exact s6 _ _ (s5 _ _ (s4 _ _ (s3 _ _ (by rw [upd_ne hx]; exact s02 x o q))))
    · have hx : x ≠ t := fun e => by subst e; rw [dH.o] at q; cases q
      rw [upd_ne hx]
      exact s6 _ _ (s5 _ _ (s4 _ _ (s3 _ _ (by rw [upd_ne hx]; exact s02 x o (dH.s x o q)))))
end
end K3

set_option Elab.async false
set_option linter.all false
set_option maxRecDepth 100000
set_option maxHeartbeats 4000000
/-! Walks: of, pick. -/
namespace K3
open PySem PySem.Spec PyProof.Rows L2
theorem atI_nn {α : Type} {xs : List α} {r : Int} (h0 : 0 ≤ r) (h1 : r < (xs.length : Nat)) : atI xs r = xs[r.toNat]? := by
  unfold atI ixN
  rw [if_pos h0, if_pos h1]
  rfl
def getD (x y : PyData) : PyData := match x, y with | .list gs, .int r => (gs[r.toNat]?).getD .none | .tuple gs, .int r => (gs[r.toNat]?).getD .none | _, _ => .none
section
variable {P : Program} {w : World} {K : PySem.W.Frag} {mg : Str → Option Value} {base : Heap}
def ok_of : List PyData → Prop := fun ds => ∃ gs : List PyData, ds = [.list gs] ∧ 1 ≤ gs.length ∧ gs.length ≤ 100
def post_of : List PyData → PyData → Prop := fun ds d => ∃ gs : List PyData, ds = [.list gs] ∧ d ∈ gs
theorem w_of (B : Bt mg) (F1 : FnE P w K mg base CX0 1 "_law_take" ["_law_tin", "_law_below_so"] (spDr 1 ok_take post_take)) (D : Def K mg "_law_of" s_of) : FnE P w K mg base CX0 2 "_law_of" ["_law_tin", "_law_goods_so"] (spDr 1 ok_of post_of) := by
  refine D.draw b_of sc_of (fun ds ⟨n, e, _⟩ => by rw [e]; rfl) fun f cdv A outer s H E t G vs ds hr hv hp => ⟨_, x_of B hr (Nat.le_refl _) F1 (by decide), ?_⟩
  obtain ⟨gs, rfl, h1, h2⟩ := hp
  obtain ⟨v, rfl, hx⟩ := hv.one
  refine rx_ret (ex_imp (ex_op (z := getD) (ex_of (ed_var (i := 1) rfl hx)) (ex_call (i := 0) rfl (ea_cons (ed_cb (ea_cons (ed_var (i := 1) rfl hx) ea_nil) rd_lenL) ea_nil) ⟨_, rfl, by omega, by omega⟩) fun x y hx' hy => ?_) (Nat.le_refl _) fun d hd => ?_)
  · subst hx'
    obtain ⟨n, r, e, rfl, r0, r1⟩ := hy
    cases e
    refine rd_xL ?_
    rw [atI_nn r0 r1]
    show gs[r.toNat]? = some ((gs[r.toNat]?).getD .none)
    rw [List.getElem?_eq_getElem (by omega)]
    rfl
  · obtain ⟨x, y, rfl, ⟨n, r, e, rfl, r0, r1⟩, rfl⟩ := hd
    cases e
    refine ⟨gs, rfl, ?_⟩
    show (gs[r.toNat]?).getD .none ∈ gs
    rw [List.getElem?_eq_getElem (by omega)]
    exact List.getElem_mem _
def ok_pick : List PyData → Prop := fun ds => ∃ (gs : List PyData) (c : Int), ds = [.list gs, .int c] ∧ 0 ≤ c ∧ c ≤ 20 ∧ gs.length ≤ 100
def post_pick : List PyData → PyData → Prop := fun ds d => ∃ (gs fs : List PyData) (c : Int), ds = [.list gs, .int c] ∧ d = .list fs ∧ (∀ x ∈ fs, x ∈ gs) ∧ fs.length ≤ 20
theorem DaL.erase {G : Hp} : ∀ {vs : List V} {ds : List PyData} (k : Nat), DaL G vs ds → DaL G (vs.eraseIdx k) (ds.eraseIdx k)
  | [], [], k, h => h
  | [], _ :: _, k, h => by have := h.1; simp at this
  | _ :: _, [], k, h => by have := h.1; simp at this
  | v :: vs, d :: ds, 0, h => h.tl
  | v :: vs, d :: ds, k + 1, h => DaL.cons h.hd (DaL.erase k h.tl)
theorem seq_nn {r : Int} {n : Nat} (h0 : 0 ≤ r) (h1 : r < (n : Nat)) : seqIndex? r n = some r.toNat := by
  unfold seqIndex?
  first
    | (simp only []; split <;> simp_all <;> omega)
    | (simp; omega)
theorem w_pick (B : Bt mg) (F1 : FnE P w K mg base CX0 1 "_law_take" ["_law_tin", "_law_below_so"] (spDr 1 ok_take post_take)) (D : Def K mg "_law_pick" s_pick) : FnE P w K mg base CX0 2 "_law_pick" ["_law_tin", "_law_goods_so", "_law_count_so"] (spDr 20 ok_pick post_pick) := by
  refine D.draw b_pick sc_pick (fun ds ⟨_, n, e, _⟩ => by rw [e]; rfl) fun f cdv A outer s H E t G vs ds hr hv hp => ⟨_, x_pick B hr (Nat.le_refl _) F1 (by decide), ?_⟩
  obtain ⟨gs, c, rfl, c0, c1, hg⟩ := hp
  obtain ⟨v, u, rfl, hx, hu⟩ := hv.two
  have eu := hu.of_int
  subst eu
  intro m H hm dH D hq
  have hm' : m + 20 ≤ 1000000 := hm
  obtain ⟨a, xs, rfl, ea, hxs⟩ := hx.of_list
  refine ⟨_, rfl, a, xs, rfl, .inl (SqL.of (dH.s _ _ ea)), fun l hl => ⟨sz_of (show 0 ≤ 100000 by decide), fun r hr' => ⟨_, _, rfl, ?_⟩⟩⟩
  have hrl : r ≠ l := fun e => by subst e; rw [upd_same] at hr'; cases hr'
  have hr0 : H r = none := by rw [upd_ne hrl] at hr'; exact hr'
  have hlt : l ≠ t := fun e => by subst e; exact dH.ex hl
  have hrt : r ≠ t := fun e => by subst e; exact dH.ex hr0
  have hl1 : (upd (upd H l (.lst xs)) r (.lst [])) l = some (.lst xs) := by rw [upd_ne (Ne.symm hrl), upd_same]
  have d1 : DSt t m G (upd (upd H l (.lst xs)) r (.lst [])) := (dH.mut (dH.s.free hl) hlt).mut (dH.s.free hr0) hrt
  have q1 : Dr t G H G (upd (upd H l (.lst xs)) r (.lst [])) := (Dr.refl.mut hl).mut hr0
  refine ⟨_, rfl, .inl ⟨c, rfl, _, rfl, l, xs, rfl, .inl (SqL.of hl1), c, _, rfl, _, rfl, ?_, ?_, ?_⟩⟩
  · split <;> omega
  · have := hxs.1; split <;> omega
  have hxl : xs.length = gs.length := hxs.1
  generalize hj : (if ((xs.length : Nat) : Int) < c then ((xs.length : Nat) : Int) else c) = j
  have hj1 : j.toNat ≤ 20 ∧ j.toNat ≤ xs.length := by rw [← hj]; split <;> omega
  refine for_it walk_range (fun i σ' H' => i ≤ j.toNat ∧ ∃ o G' xs' gs' ys fs, σ' = [some (.ref t), some (.ref a), some (.int c), some (.ref l), some (.ref r), o] ∧ Dr t G H G' H' ∧ DSt t (m + i) G' H' ∧ G' l = none ∧ G' r = none ∧ H' l = some (.lst xs') ∧ H' r = some (.lst ys) ∧ DaL G' xs' gs' ∧ DaL G' ys fs ∧
    xs'.length + i = xs.length ∧ fs.length = i ∧ (∀ x ∈ gs', x ∈ gs) ∧ (∀ x ∈ fs, x ∈ gs)) ?_ (fun _ _ _ _ _ => True.intro) ?_ ?_
  · exact ⟨Nat.zero_le _, none, G, xs, gs, [], [], rfl, q1, d1, dH.s.free hl, dH.s.free hr0, hl1, upd_same, hxs, DaL.nil, by omega, rfl, fun x h => h, fun x h => absurd h (by simp)⟩
  · rintro i x σ' H' H2 hi ⟨_, o, G', xs', gs', ys, fs, rfl, q2, d2, gl, gr, hl2, hr2, hxs', hys, hlen, hflen, hsub, hfsub⟩ ⟨rfl, rfl⟩
    refine ⟨_, rfl, .inl ⟨rfl, _, SqL.of hr2⟩, _, rfl, .inl ⟨rfl, _, SqL.of hl2⟩, ?_⟩
    refine ⟨_, rfl, _, rfl, l, xs', rfl, .inl (SqL.of hl2), t, m + i, G', [.int ((xs'.length : Nat) : Int)], [.int ((xs'.length : Nat) : Int)], rfl, (show m + i + 1 ≤ maxM by show m + i + 1 ≤ 1000000; omega), d2, DaL.cons (.int _) .nil, ⟨_, rfl, by omega, by omega⟩, fun d v G3 H3 hp q3 d3 hv3 => ?_⟩
    obtain ⟨n, rr, e, rfl, r0, r1⟩ := hp
    cases e
    have ev := hv3.of_int
    subst ev
    have hl3 := q3.keep hlt hl2
    have hr3 := q3.keep hrt hr2
    have gl3 := q3.out gl hl2
    have gr3 := q3.out gr hr2
    have hk : rr.toNat < xs'.length := by omega
    have hgl : rr.toNat < gs'.length := by rw [← hxs'.1]; exact hk
    obtain ⟨y, hy, hyd⟩ := hxs'.at (List.getElem?_eq_getElem hgl)
    refine ⟨l, xs', rr, rr.toNat, y, rfl, rfl, hl3, by omega, by omega, seq_nn r0 r1, hy, ?_⟩
    have hr4 : (upd H3 l (.lst (xs'.eraseIdx rr.toNat))) r = some (.lst ys) := by rw [upd_ne hrl]; exact hr3
    refine ⟨r, ys, y, rfl, rfl, hr4, sz_lt (by rw [hys.1]; omega), ?_⟩
    refine ⟨by omega, some (.int (0 + (i : Nat))), G3, xs'.eraseIdx rr.toNat, gs'.eraseIdx rr.toNat, ys ++ [y], fs ++ [gs'[rr.toNat]], rfl, ((q2.trans d2 q3).mut hl).mut hr0, ?_, gl3, gr3, by rw [upd_ne (Ne.symm hrl), upd_same], upd_same, (hxs'.mono q3.g).erase _, (hys.mono q3.g).snoc (hyd.mono q3.g), ?_, by simp [hflen], fun x hx => ?_, fun x hx => ?_⟩
    · exact ((d3.up (by omega)).mut gl3 hlt).mut gr3 hrt
    · rw [List.length_eraseIdx, if_pos hk]; omega
    · exact hsub x (List.mem_of_mem_eraseIdx hx)
    · rcases List.mem_append.mp hx with h | h
      · exact hfsub x h
      · have : x = gs'[rr.toNat] := by simpa using h
        rw [this]
        exact hsub _ (List.getElem_mem _)
  · rintro σ' H' ⟨_, o, G', xs', gs', ys, fs, rfl, q2, d2, gl, gr, hl2, hr2, hxs', hys, hlen, hflen, hsub, hfsub⟩
    refine ⟨_, rfl, ?_⟩
    exact hq (.list fs) (.ref r) (upd G' r (.lst ys)) H' ⟨gs, fs, c, rfl, rfl, hfsub, by omega⟩ (q2.join hr0 gr) ((d2.up (by omega)).join hr2 hrt) (Da.mk_l upd_same (hys.mono (same_upd gr)))
end
end K3

set_option Elab.async false
set_option linter.all false
set_option maxRecDepth 100000
set_option maxHeartbeats 4000000
/-! Plain: the frames that the law draws are frames; two frames put apart are one. -/
namespace K3
open PySem
theorem flat_mem {bs : List (Int × Int)} {k : Int} : k ∈ flatI bs ↔ ∃ b ∈ bs, k = b.1 ∨ k = b.2 := by
  unfold flatI
  rw [List.mem_flatMap]
  constructor
  · rintro ⟨b, hb, h⟩
    exact ⟨b, hb, by simpa using h⟩
  · rintro ⟨b, hb, h⟩
    exact ⟨b, hb, by simpa using h⟩
structure Good (n : Nat) (ps : List (Int × Int)) : Prop where
  two : 2 ≤ n
  nine : n ≤ 9
  few : ps.length ≤ 12
  ok : ∀ p ∈ ps, 0 ≤ p.1 ∧ p.1 < (n : Int) ∧ 0 ≤ p.2 ∧ p.2 < (n : Int) ∧ p.1 ≠ p.2
  all : ∀ k : Int, 0 ≤ k → k < (n : Int) → ∃ p ∈ ps, k = p.1 ∨ k = p.2
theorem valid_of {n : Nat} {bs : List (Int × Int)} (h2 : 2 ≤ n) (h9 : n ≤ 9) (hf : bs.length ≤ 12) (hok : ∀ b ∈ bs, 0 ≤ b.1 ∧ b.1 < b.2 ∧ b.2 < (n : Int)) (hs : SortP bs) (hall : ∀ k : Int, 0 ≤ k → k < (n : Int) → ∃ p ∈ bs, k = p.1 ∨ k = p.2) : Valid n bs := by
  refine ⟨h2, h9, hf, hok, asc_pair.mpr hs, ?_⟩
  refine (norm_full fun k hk => ?_).mpr (sorted_uniq (sorted_normI _) (rngI_lt n) fun z => ?_)
  · obtain ⟨b, hb, h⟩ := flat_mem.mp hk
    have := hok b hb
    omega
  · rw [mem_normI, rngI_mem, flat_mem]
    constructor
    · rintro ⟨b, hb, h⟩
      have := hok b hb
      omega
    · rintro ⟨h0, h1⟩
      exact hall z h0 h1
theorem Good.valid {n : Nat} {ps : List (Int × Int)} (g : Good n ps) : Valid n (joinP ps) := by
  refine valid_of g.two g.nine ?_ (fun b hb => ?_) (sorted_normP _) fun k h0 h1 => ?_
  · have := normP_len (ps.map mm)
    rw [List.length_map] at this
    have := g.few
    unfold joinP
    omega
  · obtain ⟨p, hp, rfl⟩ := mem_joinP.mp hb
    have := g.ok p hp
    unfold mm
    simp only
    omega
  · obtain ⟨p, hp, h⟩ := g.all k h0 h1
    refine ⟨mm p, mem_joinP.mpr ⟨p, hp, rfl⟩, ?_⟩
    unfold mm
    simp only
    omega
def lineI (n : Nat) : List (Int × Int) := (rngI (n - 1)).map fun k => (k, k + 1)
theorem line_mem {n : Nat} {p : Int × Int} : p ∈ lineI n ↔ 0 ≤ p.1 ∧ p.2 = p.1 + 1 ∧ p.2 < (n : Int) := by
  unfold lineI
  rw [List.mem_map]
  constructor
  · rintro ⟨k, hk, rfl⟩
    have := rngI_mem.mp hk
    dsimp only
    omega
  · rintro ⟨h0, h1, h2⟩
    exact ⟨p.1, rngI_mem.mpr (by omega), by rw [← h1]⟩
theorem line_len {n : Nat} : (lineI n).length = n - 1 := by unfold lineI; rw [List.length_map, rngI_len]
theorem good_line {n : Nat} {qs : List (Int × Int)} (h2 : 2 ≤ n) (h6 : n ≤ 6) (hq : qs.length ≤ 2) (hok : ∀ p ∈ qs, 0 ≤ p.1 ∧ p.1 < (n : Int) ∧ 0 ≤ p.2 ∧ p.2 < (n : Int) ∧ p.1 ≠ p.2) : Good n (lineI n ++ qs) := by
  refine ⟨h2, by omega, by rw [List.length_append, line_len]; omega, fun p hp => ?_, fun k h0 h1 => ?_⟩
  · rcases List.mem_append.mp hp with h | h
    · have := line_mem.mp h
      omega
    · exact hok p h
  · by_cases c : k = 0
    · exact ⟨(0, 1), List.mem_append_left _ (line_mem.mpr (by simp only; omega)), .inl c⟩
    · exact ⟨(k - 1, k), List.mem_append_left _ (line_mem.mpr (by simp only; omega)), .inr rfl⟩
def hubI (n : Nat) (h : Int) : List (Int × Int) := ((rngI n).filter fun k => decide (k ≠ h)).map fun k => (h, k)
theorem good_hub {n : Nat} {h : Int} (h2 : 2 ≤ n) (h6 : n ≤ 6) (h0 : 0 ≤ h) (h1 : h < (n : Int)) : Good n (hubI n h) := by
  have hm : ∀ p : Int × Int, p ∈ hubI n h ↔ p.1 = h ∧ 0 ≤ p.2 ∧ p.2 < (n : Int) ∧ p.2 ≠ h := fun p => by
    unfold hubI
    rw [List.mem_map]
    constructor
    · rintro ⟨k, hk, rfl⟩
      obtain ⟨a, b⟩ := List.mem_filter.mp hk
      have := rngI_mem.mp a
      have := of_decide_eq_true b
      exact ⟨rfl, by omega⟩
    · rintro ⟨e, a, b, c⟩
      exact ⟨p.2, List.mem_filter.mpr ⟨rngI_mem.mpr ⟨a, b⟩, decide_eq_true c⟩, by rw [← e]⟩
  refine ⟨h2, by omega, ?_, fun p hp => ?_, fun k k0 k1 => ?_⟩
  · unfold hubI
    rw [List.length_map]
    have := List.length_filter_le (fun k => decide (k ≠ h)) (rngI n)
    rw [rngI_len] at this
    omega
  · have := (hm p).mp hp
    omega
  · by_cases c : k = h
    · by_cases c0 : h = 0
      · exact ⟨(h, 1), (hm _).mpr (by dsimp only; omega), .inl c⟩
      · exact ⟨(h, 0), (hm _).mpr (by dsimp only; omega), .inl c⟩
    · exact ⟨(h, k), (hm _).mpr (by dsimp only; omega), .inr rfl⟩
def cutI (n : Nat) : List (Int × Int) := (lineI n).filter fun p => decide (p ≠ (1, 2))
theorem good_cut {n : Nat} (h3 : 3 < n) (h6 : n ≤ 6) : Good n (cutI n) := by
  have hm : ∀ p : Int × Int, p ∈ cutI n ↔ (0 ≤ p.1 ∧ p.2 = p.1 + 1 ∧ p.2 < (n : Int)) ∧ p ≠ (1, 2) := fun p => by
    unfold cutI
    rw [List.mem_filter, line_mem, decide_eq_true_iff]
  have ne : ∀ a b : Int, a ≠ 1 → (a, b) ≠ ((1, 2) : Int × Int) := fun a b h e => h (by injection e)
  refine ⟨by omega, by omega, ?_, fun p hp => ?_, fun k k0 k1 => ?_⟩
  · unfold cutI
    have := List.length_filter_le (fun p => decide (p ≠ ((1, 2) : Int × Int))) (lineI n)
    rw [line_len] at this
    omega
  · have := ((hm p).mp hp).1
    omega
  · by_cases c0 : k = 0
    · exact ⟨(0, 1), (hm _).mpr ⟨by simp only; omega, ne _ _ (by decide)⟩, .inl c0⟩
    · by_cases c2 : k = 2
      · exact ⟨(2, 3), (hm _).mpr ⟨by simp only; omega, ne _ _ (by decide)⟩, .inl c2⟩
      · exact ⟨(k - 1, k), (hm _).mpr ⟨by simp only; omega, ne _ _ (by omega)⟩, .inr rfl⟩
/-- a tree drawn, and more pairs -/
theorem good_tree {n : Nat} {ps qs : List (Int × Int)} (h2 : 2 ≤ n) (h6 : n ≤ 6) (hl : ps.length = n - 1) (hp : ∀ (i : Nat) (p : Int × Int), ps[i]? = some p → 0 ≤ p.1 ∧ p.1 ≤ (i : Int) ∧ p.2 = (i : Int) + 1) (hq : qs.length ≤ 2) (hok : ∀ p ∈ qs, 0 ≤ p.1 ∧ p.1 < (n : Int) ∧ 0 ≤ p.2 ∧ p.2 < (n : Int) ∧ p.1 ≠ p.2) : Good n (ps ++ qs) := by
  have hget : ∀ i : Nat, i < n - 1 → ∃ p ∈ ps, 0 ≤ p.1 ∧ p.1 ≤ (i : Int) ∧ p.2 = (i : Int) + 1 := fun i hi => by
    have e := List.getElem?_eq_getElem (l := ps) (i := i) (by omega)
    exact ⟨ps[i], List.getElem_mem _, hp i _ e⟩
  refine ⟨h2, by omega, by rw [List.length_append]; omega, fun p hpm => ?_, fun k k0 k1 => ?_⟩
  · rcases List.mem_append.mp hpm with h | h
    · obtain ⟨i, hi⟩ := List.mem_iff_getElem?.mp h
      have := hp i p hi
      have := (List.getElem?_eq_some_iff.mp hi).1
      omega
    · exact hok p h
  · by_cases c : k = 0
    · obtain ⟨p, hpm, h⟩ := hget 0 (by omega)
      exact ⟨p, List.mem_append_left _ hpm, .inl (by omega)⟩
    · obtain ⟨p, hpm, h⟩ := hget (k - 1).toNat (by omega)
      exact ⟨p, List.mem_append_left _ hpm, .inr (by omega)⟩
/-- two frames apart -/
theorem Valid.apart {n m : Nat} {bs cs : List (Int × Int)} (v : Valid n bs) (w : Valid m cs) (h9 : n + m ≤ 9) (hf : bs.length + cs.length ≤ 12) : Valid (n + m) (bs ++ cs.map (shift n)) := by
  have cov : ∀ {n : Nat} {bs : List (Int × Int)}, Valid n bs → ∀ k : Int, 0 ≤ k → k < (n : Int) → ∃ p ∈ bs, k = p.1 ∨ k = p.2 := fun {n bs} v k h0 h1 => by
    have e := (norm_full fun k hk => by
      obtain ⟨b, hb, h⟩ := flat_mem.mp hk
      have := v.ok b hb
      omega).mp v.all
    have : k ∈ normI (flatI bs) := by rw [e]; exact rngI_mem.mpr ⟨h0, h1⟩
    exact flat_mem.mp (mem_normI.mp this)
  refine valid_of (by have := v.two; omega) h9 (by rw [List.length_append, List.length_map]; exact hf) (fun b hb => ?_) ?_ fun k h0 h1 => ?_
  · rcases List.mem_append.mp hb with h | h
    · have := v.ok b h
      omega
    · obtain ⟨c, hc, rfl⟩ := List.mem_map.mp h
      have := w.ok c hc
      unfold shift
      simp only
      omega
  · refine List.pairwise_append.mpr ⟨asc_pair.mp v.asc, List.pairwise_map.mpr ((asc_pair.mp w.asc).imp fun {a b} h => ?_), fun b hb c hc => ?_⟩
    · rw [ltP_iff] at h ⊢
      unfold shift
      simp only
      omega
    · obtain ⟨d, hd, rfl⟩ := List.mem_map.mp hc
      have h1 := v.ok b hb
      have h2 := w.ok d hd
      rw [ltP_iff]
      unfold shift
      simp only
      omega
  · by_cases c : k < (n : Int)
    · obtain ⟨p, hp, h⟩ := cov v k h0 c
      exact ⟨p, List.mem_append_left _ hp, h⟩
    · obtain ⟨p, hp, h⟩ := cov w (k - n) (by omega) (by omega)
      refine ⟨shift n p, List.mem_append_right _ (List.mem_map_of_mem hp), ?_⟩
      unfold shift
      simp only
      omega
end K3

set_option Elab.async false
set_option linter.all false
set_option maxRecDepth 100000
set_option maxHeartbeats 4000000
/-! Walks: frame. -/
namespace K3
open PySem PySem.Spec PyProof.Rows L2
section
variable {K : PySem.W.Frag} {σ : L2.St} {t : Addr} {k : Nat} {G : Hp} {te : TE} {p : PyData → Prop} {ds : List PyData}
/-- a comprehension that draws: its list stays out of the clean heap -/
theorem lc_local {wi : TI} {g : TG} {vs : List Nat} {P : PyData → PyData → Prop} {n m0 : Nat} {H0 : Hp} {Q : VK} (hs : SrcD wi σ G ds) (hn : ds.length = n) (hl : n < 100000) (hb : ∀ d ∈ ds, ∀ v G', Same G G' → Da G' v d → BodyX t k g tYes te vs σ G' v (P d)) (hm : m0 + n * k ≤ maxM) (d0 : DSt t m0 G H0)
    (q : ∀ D acc es G2 H, H0 D = none → Dr t G H0 G2 H → DSt t (m0 + n * k) G2 H → G2 D = none → H D = some (.lst acc) → DaL G2 acc es → es.length = n → (∀ (i : Nat) (d e : PyData), ds[i]? = some d → es[i]? = some e → P d e) → Q (.ref D) H) : tLc wi g tYes te vs σ H0 Q :=
  hs H0 d0.s _ fun J G1 H1 a1 W D hD => by
    subst hn
    have d1 := a1.dst d0
    have hDt : D ≠ t := fun e => by subst e; exact d1.ex hD
    let Pv : Nat → Hp → Prop := fun i H => ∃ G2 acc es, Dr t G1 H1 G2 H ∧ DSt t (m0 + i * k) G2 H ∧ G2 D = none ∧ H D = some (.lst acc) ∧ DaL G2 acc es ∧ es.length = i ∧ ∀ (j : Nat) (d e : PyData), j < i → ds[j]? = some d → es[j]? = some e → P d e
    have hD1 : G1 D = none := d1.s.free hD
    refine ⟨fun i m H => m = ds.length - i ∧ i ≤ ds.length ∧ Pv i H, ⟨ds.length, by simp, Nat.zero_le _, G1, [], [], Dr.refl.mut hD, (d1.up (by omega)).mut hD1 hDt, hD1, upd_same, DaL.nil, rfl, fun j d e h => by omega⟩, ?_⟩
    rintro i m H ⟨rfl, hi, G2, acc, es, a2, d2, hG2, hHD, hacc, hel, hP⟩
    have s12 : Same G1 G2 := a2.g
    have s2H : Same G2 H := d2.s
    by_cases hlt : i < ds.length
    · refine .inr ⟨W.goes i H (s12.trans s2H) hlt, Pv (i + 1), fun H' p' => ⟨ds.length - (i + 1), by omega, rfl, hlt, p'⟩, fun x H' y => ?_⟩
      have hd := List.getElem?_eq_getElem hlt
      obtain ⟨G3, a3, hx⟩ := W.yields i G2 H x H' _ s12 s2H hd y
      have hG3 := a3.out hG2 hHD
      have hH3 := a3.k _ _ hHD
      have d3 := a3.dst d2
      have hmk : m0 + i * k + k ≤ maxM := by
        have : (i + 1) * k ≤ ds.length * k := Nat.mul_le_mul_right k hlt
        rw [Nat.succ_mul] at this
        omega
      refine hb ds[i] (List.getElem_mem hlt) x G3 (a1.g.trans (s12.trans a3.g)) hx (m0 + i * k) H' hmk d3 _ _ (fun e u G4 H4 he a4 d4 hu => ?_)
      have hG4 := a4.out hG3 hH3
      have hH4 := a4.keep hDt hH3
      refine ⟨acc, hH4, sz_lt (by rw [hacc.1, hel]; omega), G4, acc ++ [u], es ++ [e], ((a2.trans d2 a3.dr).trans d3 a4).mut hD, ?_, hG4, upd_same, (hacc.mono (a3.g.trans a4.g)).snoc hu, by simp [hel], fun j d e' hj hd' he' => ?_⟩
      · rw [Nat.succ_mul, ← Nat.add_assoc]
        exact d4.mut hG4 hDt
      · by_cases c : j < i
        · rw [List.getElem?_append_left (by omega)] at he'
          exact hP j d e' c hd' he'
        · have ej : j = i := by omega
          subst ej
          rw [List.getElem?_append_right (by omega), hel] at he'
          simp at he'
          rw [hd] at hd'
          cases hd'
          rw [← he']
          exact he
    · have e : i = ds.length := by omega
      subst e
      exact .inl ⟨W.stops H (s12.trans s2H), q D acc es G2 H (a1.k.free hD) (a1.dr.trans d1 a2) d2 hG2 hHD hacc hel fun i d e h1 h2 => hP i d e (List.getElem?_eq_some_iff.mp h1).1 h1 h2⟩
end
theorem seq_asg {te : TE} {g : TG} {u : TS} {D : Ends} {σ : L2.St} {H : Hp} (h : te σ H fun x H1 => g x σ H1 (u D)) : tSeq (tAsg te g) u D σ H := h
theorem seq_par {ta : TA} {i j : Nat} {u : TS} {D : Ends} {σ : L2.St} {H : Hp} (h : ta σ H fun vs H1 => ∃ v w, vs = [v, w] ∧ u D ((σ.set i (some v)).set j (some w)) H1) : tSeq (tPar i j ta) u D σ H := h
theorem upto_map {n : Nat} {F : PyData → PyData} {f : Int → Int × Int} (h : ∀ k : Int, F (.int k) = encI (f k)) : (upto n).map F = ((rngI n).map f).map encI := by
  rw [upto_rng]
  unfold intsD
  rw [List.map_map, List.map_map]
  exact List.map_congr_left fun k _ => h k
def addD (x y : PyData) : PyData := match x, y with | .int i, .int j => .int (i + j) | _, _ => .none
theorem encI_inj {b c : Int × Int} (h : encI b = encI c) : b = c := by
  unfold encI at h
  injection h with h
  injection h with h1 h2
  injection h2 with h2 h3
  injection h1 with h1
  injection h2 with h2
  exact Prod.ext h1 h2
theorem canLay_enc (b : Int × Int) : SeqAt.shaped (encI b) = true := by
  unfold SeqAt.shaped encI
  simp [PyData.canLay0, PyData.canLayAll0, PyData.depth, PyData.depthAll]
theorem eqv_enc (b c : Int × Int) : PyData.eqv (encI b) (encI c) = decide (b = c) := by
  unfold encI
  have e : PyData.eqv (.tuple [.int b.1, .int b.2]) (.tuple [.int c.1, .int c.2]) = ((b.1 == c.1) && ((b.2 == c.2) && true)) := by simp only [PyData.eqv, PyData.eqvAll]
  rw [e]
  by_cases h1 : b.1 = c.1
  · by_cases h2 : b.2 = c.2
    · rw [decide_eq_true (Prod.ext h1 h2)]; simp [h1, h2]
    · rw [decide_eq_false (fun z => h2 (by rw [z]))]; simp [h2]
  · rw [decide_eq_false (fun z => h1 (by rw [z]))]; simp [h1]
section
variable {P : Program} {w : World} {K : PySem.W.Frag} {mg : Str → Option Value} {base : Heap}
def ok_frame : List PyData → Prop := fun ds => ∃ n : Int, ds = [.int n] ∧ 3 ≤ n ∧ n ≤ 6
def post_frame : List PyData → PyData → Prop := fun ds d => ∃ (z : Int) (n : Nat) (bs : List (Int × Int)), ds = [.int z] ∧ d = encF n bs ∧ Valid n bs ∧ (n : Int) ≤ z ∧ bs.length ≤ n + 1
theorem Good.small {n : Nat} {ps : List (Int × Int)} (g : Good n ps) : ∀ b ∈ ps, 0 ≤ b.1 ∧ 0 ≤ b.2 ∧ b.1 < 1024 ∧ b.2 < 1024 := fun b hb => by
  have := g.ok b hb
  have := g.nine
  omega
theorem joinP_len {ps : List (Int × Int)} : (joinP ps).length ≤ ps.length := by
  have := normP_len (ps.map mm)
  rw [List.length_map] at this
  exact this
/-- joined(size, pairs), as data -/
theorem ed_joined {σ : L2.St} {G : Hp} {ta tb : TE} {n : Nat} {ps : List (Int × Int)} {E : XK} (ha : EvD ta σ G (.int (n : Nat))) (hb : EvD tb σ G (.list (ps.map encI))) (g : Good n ps) : EvD (tCall (spF pre_joined) [] E (tCons ta (tCons tb tNil))) σ G (encF n (joinP ps)) :=
  ed_call (ea_cons ha (ea_cons hb ea_nil)) ⟨n, ps, rfl, by have := g.few; omega, g.small, rfl⟩
theorem ex_joined {σ : L2.St} {t : Addr} {k : Nat} {G : Hp} {ta tb : TE} {n : Nat} {z : Int} {ps : List (Int × Int)} {E : XK} (ha : EvD ta σ G (.int (n : Nat))) (hb : EvD tb σ G (.list (ps.map encI))) (g : Good n ps) (hz : (n : Int) ≤ z) (hl : ps.length ≤ n + 1) : EvX t k (tCall (spF pre_joined) [] E (tCons ta (tCons tb tNil))) σ G (post_frame [.int z]) :=
  ex_imp (ex_of (ed_joined ha hb g)) (Nat.zero_le _) fun d hd => ⟨z, n, joinP ps, rfl, hd, g.valid, hz, Nat.le_trans joinP_len hl⟩
theorem w_frame (B : Bt mg) (F1 : FnE P w K mg base CX0 1 "_law_take" ["_law_tin", "_law_below_so"] (spDr 1 ok_take post_take)) (F2 : FnE P w K mg base CX0 1 "_law_joined" ["_law_size_so", "_law_pairs_so"] (spF pre_joined)) (D : Def K mg "_law_frame" s_frame) :
    FnE P w K mg base CX0 2 "_law_frame" ["_law_tin", "_law_most_so"] (spDr 40 ok_frame post_frame) := by
  refine D.draw b_frame sc_frame (fun ds ⟨n, e, _⟩ => by rw [e]; rfl) fun f cdv A outer s H E t G vs ds hr hv hp => ⟨_, x_frame B hr (Nat.le_refl _) F1 (by decide) F2 (by decide), ?_⟩
  obtain ⟨z, rfl, z3, z6⟩ := hp
  obtain ⟨v, rfl, hz⟩ := hv.one
  refine rx_imp (k := 2 + 38) (rx_par (k1 := 2) (k2 := 38) (exa_imp (exa_cons (ex_op (z := addD) (ex_of ed_int) (ex_call (i := 0) rfl (ea_cons (ed_op (ed_var (i := 1) rfl hz) ed_int rd_sub) ea_nil) ⟨_, rfl, by omega, by omega⟩) fun x y hx hy => ?_) (exa_cons (ex_call (i := 0) rfl (ea_cons ed_int ea_nil) ⟨_, rfl, by decide, by decide⟩) exa_nil)) (by decide) (fun d h => h)) (fun ds h => ?_) fun x y v1 v2 G1 h s1 hv1 hv2 => ?_) (by decide) (fun d h => h)
  · subst hx
    obtain ⟨_, r, _, rfl, _⟩ := hy
    exact rd_plusI
  · obtain ⟨d, ds', rfl, _, d2, ds'', rfl, _, rfl⟩ := h
    exact ⟨d, d2, rfl⟩
  obtain ⟨d, ds', e, ⟨x1, y1, rfl, ⟨z', r, ez, rfl, r0, r1⟩, rfl⟩, d2, ds'', rfl, ⟨z6', kd, e6, rfl, k0, k1⟩, rfl⟩ := h
  cases e
  cases ez
  cases e6
  have hz1 := hz.mono s1
  have et : t = t := rfl
  -- the size
  obtain ⟨n, hn⟩ : ∃ n : Nat, (n : Int) = 2 + r := ⟨(2 + r).toNat, by omega⟩
  have hsz : Da G1 v1 (.int (n : Nat)) := by rw [hn]; exact hv1
  have hkd : Da G1 v2 (.int kd) := hv2
  have n2 : 2 ≤ n := by omega
  have n6 : n ≤ 6 := by omega
  have hnz : (n : Int) ≤ z := by omega
  clear hv1 hv2
  refine rx_setD (x := .list ((lineI n).map encI)) (ed_is (ed_lcM (fun d => match d with | .int k => encI (k, k + 1) | d => d) (sd_rng1 (n := (n : Nat) - 1) (ea_cons (ed_op (ed_var rfl hsz) ed_int rd_sub) ea_nil) (by omega) (by omega)) (by rw [upto_len]; omega) fun d hd v' G' s' hv' => ?_) ?_) fun vl G2 s2 hl => ?_
  · rw [upto_rng] at hd
    obtain ⟨k, hk, rfl⟩ := List.mem_map.mp hd
    refine bd_name (b := true) rfl eb_yes rfl fun e he => ?_
    cases he
    exact ed_tup (ea_cons (ed_var rfl hv') (ea_cons (ed_op (ed_var rfl hv') ed_int rd_plusI) ea_nil)) (show 2 ≤ 100000 by decide)
  · rw [upto_map (f := fun k => (k, k + 1)) (fun k => rfl)]
    have e : (((n : Nat) : Int) - 1).toNat = n - 1 := by omega
    rw [e]
    rfl
  have hsz2 := hsz.mono s2
  have hkd2 := hkd.mono s2
  have g0 : Good n (lineI n) := by have := good_line (qs := []) n2 n6 (by simp) (fun p h => absurd h (by simp)); rwa [List.append_nil] at this
  have l0 : (lineI n).length ≤ n + 1 := by rw [line_len]; omega
  refine rx_if (b := decide (kd = 0)) (eb_test (ed_op (ed_var rfl hkd2) ed_int rd_eqI1)) (fun _ => rx_ret (ex_joined (ed_var rfl hsz2) (ed_var rfl hl) g0 hnz l0)) fun _ => ?_
  refine rx_if (b := decide (kd = 1)) (eb_test (ed_op (ed_var rfl hkd2) ed_int rd_eqI1)) (fun _ => ?_) fun _ => ?_
  · by_cases c : 2 < n
    · refine rx_ret (ex_joined (ps := lineI n ++ [(0, (n : Int) - 1)]) (ed_var rfl hsz2) (ed_is (ed_op (ed_var rfl hl) (ed_if (b := true) (d := .list ([((0 : Int), (n : Int) - 1)].map encI)) (eb_is (eb_test (ed_op (ed_var rfl hsz2) ed_int rd_gt)) (decide_eq_true (by omega))) (fun _ => ed_lst (ea_cons (ed_tup (ea_cons ed_int (ea_cons (ed_op (ed_var rfl hsz2) ed_int rd_sub) ea_nil)) (show 2 ≤ 100000 by decide)) ea_nil) (show 1 ≤ 100000 by decide)) (fun c => nomatch c)) (rd_plusL ?_)) ?_) (good_line n2 n6 (by simp) fun p hp => ?_) hnz ?_)
      · rw [List.length_map, line_len, List.length_map]; simp only [List.length_cons, List.length_nil]; omega
      · rw [List.map_append]
      · have : p = (0, (n : Int) - 1) := by simpa using hp
        subst this
        dsimp only
        omega
      · rw [List.length_append, line_len]; simp only [List.length_cons, List.length_nil]; omega
    · refine rx_ret (ex_joined (ps := lineI n) (ed_var rfl hsz2) (ed_is (ed_op (ed_var rfl hl) (ed_if (b := false) (d := .list []) (eb_is (eb_test (ed_op (ed_var rfl hsz2) ed_int rd_gt)) (decide_eq_false (by omega))) (fun c => nomatch c) (fun _ => ed_lst ea_nil (show 0 ≤ 100000 by decide))) (rd_plusL ?_)) (by rw [List.append_nil])) g0 hnz l0)
      rw [List.length_map, line_len]; simp only [List.length_nil]; omega
  refine rx_if (b := decide (kd = 2)) (eb_test (ed_op (ed_var rfl hkd2) ed_int rd_eqI1)) (fun _ => ?_) fun _ => ?_
  · refine rx_imp (rx_set (ex_call (i := 0) rfl (ea_cons (ed_var rfl hsz2) ea_nil) ⟨_, rfl, by omega, by omega⟩) fun d v3 G3 hd s3 h3 => ?_ : RetX t (1 + 0) _ _ _ (post_frame [.int z])) (by decide) (fun d h => h)
    obtain ⟨n', h, e, rfl, h0, h1⟩ := hd
    cases e
    have hsz3 := hsz2.mono s3
    refine rx_ret (ex_joined (ps := hubI n h) (ed_var rfl hsz3) (ed_is (ed_lc (fun d => match d with | .int k => if k = h then none else some (encI (h, k)) | _ => none) (sd_rng1 (n := (n : Nat)) (ea_cons (ed_var rfl hsz3) ea_nil) (by omega) (by omega)) (by rw [upto_len]; omega) fun d hd v' G' s' hv' => ?_) ?_) (good_hub n2 n6 h0 h1) hnz ?_)
    · rw [upto_rng] at hd
      obtain ⟨k, hk, rfl⟩ := List.mem_map.mp hd
      refine bd_name (b := decide (k ≠ h)) rfl (eb_test (ed_op (ed_var rfl hv') (ed_var rfl (h3.mono s')) rd_neI1)) ?_ fun e he => ?_
      · by_cases c : k = h <;> simp [c]
      · by_cases c : k = h
        · simp only [c, if_true] at he; cases he
        · simp only [c, if_false] at he; cases he
          exact ed_tup (ea_cons (ed_var rfl (h3.mono s')) (ea_cons (ed_var rfl hv') ea_nil)) (show 2 ≤ 100000 by decide)
    · rw [show ((n : Nat) : Int).toNat = n by omega, upto_rng]
      unfold hubI intsD
      rw [List.filterMap_map, List.map_map]
      generalize rngI n = l
      induction l with
      | nil => rfl
      | cons a l ih =>
        rw [List.filterMap_cons, List.filter_cons]
        by_cases c : a = h
        · simp only [Function.comp, c, if_true, ne_eq, not_true_eq_false, decide_false, Bool.false_eq_true, if_false]
          simpa [Function.comp] using ih
        · simp only [Function.comp, c, if_false, ne_eq, not_false_eq_true, decide_true, if_true, List.map_cons]
          injection ih with ih
          rw [← ih]
    · unfold hubI
      rw [List.length_map]
      have := List.length_filter_le (fun k => decide (k ≠ h)) (rngI n)
      rw [rngI_len] at this
      omega
  refine rx_if (b := decide (kd = 3) && decide (3 < n)) (eb_and (eb_test (ed_op (ed_var rfl hkd2) ed_int rd_eqI1)) fun _ => eb_is (eb_test (ed_op (ed_var rfl hsz2) ed_int rd_gt)) (by by_cases c : 3 < n <;> simp [c] <;> omega)) (fun c => ?_) fun _ => ?_
  · simp at c
    refine rx_ret (ex_joined (ps := cutI n) (ed_var rfl hsz2) (ed_is (ed_lc (fun d => if toP d = (1, 2) then none else some d) (so_L (ed_var rfl hl)) (by rw [List.length_map, line_len]; omega) fun d hd v' G' s' hv' => ?_) ?_) (good_cut c.2 n6) hnz ?_)
    · obtain ⟨b, hb, rfl⟩ := List.mem_map.mp hd
      refine bd_name (b := !(decide (b = (1, 2)))) rfl (eb_is (eb_test (ed_op (ed_var rfl hv') (ed_tup (ea_cons ed_int (ea_cons ed_int ea_nil)) (show 2 ≤ 100000 by decide)) (rd_neS (canLay_enc b) (canLay_enc (1, 2))))) (congrArg (!·) (eqv_enc b (1, 2)))) ?_ fun e he => ?_
      · rw [toP_enc]
        by_cases c : b = (1, 2) <;> simp [c]
      · rw [toP_enc] at he
        by_cases c : b = (1, 2)
        · rw [if_pos c] at he; cases he
        · rw [if_neg c] at he; cases he; exact ed_var rfl hv'
    · unfold cutI
      rw [List.filterMap_map]
      generalize lineI n = l
      congr 1
      induction l with
      | nil => rfl
      | cons a l ih =>
        rw [List.filterMap_cons, List.filter_cons]
        by_cases c : a = (1, 2)
        · simp only [Function.comp, toP_enc, c, if_true, ne_eq, not_true_eq_false, decide_false, Bool.false_eq_true, if_false]
          exact ih
        · simp only [Function.comp, toP_enc, c, if_false, ne_eq, not_false_eq_true, decide_true, if_true, List.map_cons]
          rw [← ih]
    · unfold cutI
      have := List.length_filter_le (fun p => decide (p ≠ ((1, 2) : Int × Int))) (lineI n)
      omega
  refine rx_if (b := decide (kd = 4) && decide (2 < n)) (eb_and (eb_test (ed_op (ed_var rfl hkd2) ed_int rd_eqI1)) fun _ => eb_is (eb_test (ed_op (ed_var rfl hsz2) ed_int rd_gt)) (by by_cases c : 2 < n <;> simp [c] <;> omega)) (fun c => ?_) fun _ => ?_
  · simp at c
    refine rx_ret (ex_joined (ps := lineI n ++ [(0, 2)]) (ed_var rfl hsz2) (ed_is (ed_op (ed_var rfl hl) (ed_lst (ea_cons (ed_tup (ea_cons ed_int (ea_cons ed_int ea_nil)) (show 2 ≤ 100000 by decide)) ea_nil) (show 1 ≤ 100000 by decide)) (rd_plusL ?_)) ?_) (good_line n2 n6 (by simp) fun p hp => ?_) hnz ?_)
    · rw [List.length_map, line_len]; simp only [List.length_cons, List.length_nil]; omega
    · rw [List.map_append]; rfl
    · have : p = (0, 2) := by simpa using hp
      subst this
      dsimp only
      omega
    · rw [List.length_append, line_len]; simp only [List.length_cons, List.length_nil]; omega
  -- a tree drawn, two more pairs
  intro m0 H0 hm0 d0 D0 hq
  have hm1 : m0 + 38 ≤ 1000000 := hm0
  refine seq_asg ?_
  refine lc_local (σ := [some (.ref t), some v, some v1, some v2, some vl, none, none, none, none, none, none, none]) (n := n - 1) (k := 1) (P := fun d e => ∃ (k x : Int), d = .int k ∧ 0 ≤ x ∧ x ≤ k ∧ e = encI (x, k + 1)) (sd_rng1 (n := (n : Nat) - 1) (ea_cons (ed_op (ed_var (i := 2) rfl hsz2) ed_int rd_sub) ea_nil) (by omega) (by omega)) (by rw [upto_len]; omega) (by omega) (fun d hd v' G' s' hv' => ?_) (show m0 + (n - 1) * 1 ≤ 1000000 by omega) d0 fun D acc es G3 H3 hD q3 d3 gD hHD hacc hel hP => ?_
  · rw [upto_rng] at hd
    obtain ⟨k, hk, rfl⟩ := List.mem_map.mp hd
    have hk' := rngI_mem.mp hk
    refine bx_name rfl (ex_imp (ex_tup (exa_cons (ex_call (i := 0) rfl (ea_cons (ed_op (ed_var (i := 10) rfl hv') ed_int rd_plusI) ea_nil) ⟨_, rfl, by omega, by omega⟩) (exa_of (ea_cons (ed_op (ed_var (i := 10) rfl hv') ed_int rd_plusI) ea_nil))) fun ds hds => ?_) (by decide) fun d hd => ?_)
    · obtain ⟨d, ds', rfl, _, rfl⟩ := hds
      exact (show 2 ≤ 100000 by decide)
    · obtain ⟨ds, ⟨d1, ds', rfl, ⟨n', x, e, rfl, x0, x1⟩, rfl⟩, rfl⟩ := hd
      cases e
      exact ⟨k, x, rfl, x0, by omega, rfl⟩
  -- the pairs drawn so far
  have hDt : D ≠ t := fun e => by subst e; exact d0.ex hD
  have hps : ∃ ps : List (Int × Int), es = ps.map encI ∧ ps.length = n - 1 ∧ ∀ (i : Nat) (p : Int × Int), ps[i]? = some p → 0 ≤ p.1 ∧ p.1 ≤ (i : Int) ∧ p.2 = (i : Int) + 1 := by
    have hall : ∀ (i : Nat) (e : PyData), es[i]? = some e → ∃ x : Int, 0 ≤ x ∧ x ≤ (i : Int) ∧ e = encI (x, (i : Int) + 1) := fun i e he => by
      have hi : i < n - 1 := by rw [← hel]; exact (List.getElem?_eq_some_iff.mp he).1
      obtain ⟨k, x, ek, x0, x1, rfl⟩ := hP i (.int (i : Nat)) e (upto_at.mpr ⟨by omega, rfl⟩) he
      cases ek
      exact ⟨x, x0, x1, rfl⟩
    refine ⟨es.map toP, ?_, by rw [List.length_map]; exact hel, fun i p hp => ?_⟩
    · rw [List.map_map]
      refine (List.ext_getElem? fun i => ?_).symm
      rw [List.getElem?_map]
      cases he : es[i]? with
      | none => rfl
      | some e =>
        obtain ⟨x, _, _, rfl⟩ := hall i e he
        rfl
    · obtain ⟨e, he, rfl⟩ := map_at hp
      obtain ⟨x, x0, x1, rfl⟩ := hall i e he
      exact ⟨x0, x1, rfl⟩
  obtain ⟨ps, rfl, hpl, hpp⟩ := hps
  have s23 := q3.g
  have hsz3 := hsz2.mono s23
  -- how many more
  refine (ex_call (σ := [some (.ref t), some v, some v1, some v2, some vl, none, some (.ref D), none, none, none, none, none]) (G := G3) (i := 0) (ds := [.int 3]) (E := E0) rfl (ea_cons ed_int ea_nil) ⟨_, rfl, by decide, by decide⟩ : EvX t 1 (tCall (spDr 1 ok_take post_take) [] E0 (tCons (tVar 0) (tCons (tC (.int 3)) tNil))) _ G3 (post_take [.int 3])) (m0 + (n - 1) * 1) H3 (show m0 + (n - 1) * 1 + 1 ≤ 1000000 by omega) d3 _ fun d v4 G4 H4 hd q4 d4 h4 => ?_
  obtain ⟨n', mo, e, rfl, mo0, mo1⟩ := hd
  cases e
  have e4 := h4.of_int
  subst e4
  refine ⟨mo, rfl, by omega, by omega, ?_⟩
  have hHD4 := q4.keep hDt hHD
  have gD4 := q4.out gD hHD
  have q04 := q3.trans d3 q4
  refine for_it walk_range (fun i σ' H' => i ≤ mo.toNat ∧ ∃ o7 o8 o9 G' ys qs, σ' = [some (.ref t), some v, some v1, some v2, some vl, none, some (.ref D), o7, o8, o9, none, none] ∧ Dr t G2 H0 G' H' ∧ DSt t (m0 + 6 + 2 * i) G' H' ∧ G' D = none ∧ H' D = some (.lst ys) ∧ DaL G' ys ((ps ++ qs).map encI) ∧ qs.length ≤ i ∧ ∀ p ∈ qs, 0 ≤ p.1 ∧ p.1 < (n : Int) ∧ 0 ≤ p.2 ∧ p.2 < (n : Int) ∧ p.1 ≠ p.2) ?_ (fun _ _ _ _ _ => True.intro) ?_ ?_
  · exact ⟨Nat.zero_le _, none, none, none, G4, acc, [], rfl, q04, d4.up (by omega), gD4, hHD4, by rw [List.append_nil]; exact hacc.mono q4.g, Nat.le_refl _, fun p h => absurd h (by simp)⟩
  · rintro i x σ' H' H2 hi ⟨_, o7, o8, o9, G', ys, qs, rfl, q5, d5, g5, h5, hys, hql, hqs⟩ ⟨rfl, rfl⟩
    have sG : Same G2 G' := q5.g
    have hszG := hsz2.mono sG
    refine seq_par (σ := [some (.ref t), some v, some v1, some v2, some vl, none, some (.ref D), some (.int (0 + (i : Nat))), o8, o9, none, none]) ?_
    refine (exa_cons (ex_call (σ := [some (.ref t), some v, some v1, some v2, some vl, none, some (.ref D), some (.int (0 + (i : Nat))), o8, o9, none, none]) (G := G') (i := 0) (E := E0) (pre := ok_take) (post := post_take) (k := 1) rfl (ea_cons (ed_var (i := 2) rfl hszG) ea_nil) ⟨_, rfl, by omega, by omega⟩) (exa_cons (ex_call (i := 0) (E := E0) (pre := ok_take) (post := post_take) (k := 1) rfl (ea_cons (ed_var (i := 2) rfl hszG) ea_nil) ⟨_, rfl, by omega, by omega⟩) exa_nil)) (m0 + 6 + 2 * i) H2 (show m0 + 6 + 2 * i + (1 + (1 + 0)) ≤ 1000000 by omega) d5 _ fun ds vs2 G6 H6 hds q6 d6 hvs => ?_
    obtain ⟨x1, ds1, rfl, ⟨n1, a, e, rfl, a0, a1⟩, y1, ds2, rfl, ⟨n3, b, e2, rfl, b0, b1⟩, rfl⟩ := hds
    cases e
    cases e2
    obtain ⟨va, vb, rfl, hva, hvb⟩ := hvs.two
    have ea := hva.of_int
    have eb := hvb.of_int
    subst ea eb
    refine ⟨_, _, rfl, ?_⟩
    have h6 := q6.keep hDt h5
    have g6 := q6.out g5 h5
    have q06 := q5.trans d5 q6
    refine (eb_test (ed_op (z := .bool (decide (a ≠ b))) (ed_var (i := 8) (σ := [some (.ref t), some v, some v1, some v2, some vl, none, some (.ref D), some (.int (0 + (i : Nat))), some (.int a), some (.int b), none, none]) rfl (.int a)) (ed_var (i := 9) rfl (.int b)) rd_neI1)) H6 d6.s _ fun G7 H7 a7 => ?_
    have d7 := a7.dst d6
    have q07 := q06.trans d6 a7.dr
    have h7 := a7.k _ _ h6
    have g7 := a7.out g6 h6
    by_cases c : a = b
    · rw [decide_eq_false (fun z => z c)]
      refine ite2 (fun z => nomatch z) (fun _ => ?_)
      exact ⟨by omega, some (.int (0 + (i : Nat))), some (.int a), some (.int b), G7, ys, qs, rfl, q07, d7.up (by omega), g7, h7, hys.mono (q6.g.trans a7.g), by omega, hqs⟩
    · rw [decide_eq_true c]
      refine ite2 (fun _ => ?_) (fun z => absurd rfl z)
      refine ⟨_, rfl, .inl ⟨rfl, _, SqL.of h7⟩, _, rfl, _, rfl, sz_of (show 2 ≤ 100000 by decide), fun T hT => ?_⟩
      have a8 : Gro G7 H7 (upd G7 T (.tup [.int a, .int b])) (upd H7 T (.tup [.int a, .int b])) := Gro.new d7.s hT
      have d8 := a8.dst d7
      have h8 := a8.k _ _ h7
      have g8 := a8.out g7 h7
      have hyl : ys.length = (n - 1) + qs.length := by rw [hys.1, List.length_map, List.length_append, hpl]
      refine ⟨D, ys, .ref T, rfl, rfl, h8, sz_lt (by omega), ?_⟩
      refine ⟨by omega, some (.int (0 + (i : Nat))), some (.int a), some (.int b), _, ys ++ [.ref T], qs ++ [(a, b)], rfl, (q07.trans d7 a8.dr).mut hD, (d8.up (by omega)).mut g8 hDt, g8, upd_same, ?_, by rw [List.length_append]; simp only [List.length_cons, List.length_nil]; omega, fun p hp => ?_⟩
      · rw [← List.append_assoc, List.map_append]
        refine (hys.mono (q6.g.trans (a7.g.trans a8.g))).append (DaL.cons ?_ .nil)
        exact Da.mk_t upd_same (.cons (.int a) (.cons (.int b) .nil))
      · rcases List.mem_append.mp hp with h | h
        · exact hqs p h
        · have : p = (a, b) := by simpa using h
          subst this
          exact ⟨a0, a1, b0, b1, c⟩
  · rintro σ' H' ⟨_, o7, o8, o9, G', ys, qs, rfl, q5, d5, g5, h5, hys, hql, hqs⟩
    have qj := q5.join hD g5 (o := .lst ys)
    have dj := d5.join h5 hDt
    have hfd : Da (upd G' D (.lst ys)) (.ref D) (.list ((ps ++ qs).map encI)) := Da.mk_l upd_same (hys.mono (same_upd g5))
    have hszj : Da (upd G' D (.lst ys)) v1 (.int (n : Nat)) := hsz2.mono qj.g
    have hr2 : RetX t 0 (tRet (tCall (spF pre_joined) [] E0 (tCons (tVar 2) (tCons (tVar 6) tNil)))) [some (.ref t), some v, some v1, some v2, some vl, none, some (.ref D), o7, o8, o9, none, none] (upd G' D (.lst ys)) (post_frame [.int z]) :=
      rx_ret (ex_joined (ps := ps ++ qs) (ed_var (i := 2) rfl hszj) (ed_var (i := 6) rfl hfd) (good_tree n2 n6 hpl hpp (by omega) hqs) hnz (by rw [List.length_append]; omega))
    exact hr2 _ _ (show m0 + 6 + 2 * mo.toNat + 0 ≤ 1000000 by omega) dj D0 fun d v5 G8 H8 hd q8 d8 h8 => hq d v5 G8 H8 hd (qj.trans dj q8) (d8.up (by omega)) h8
end
end K3

set_option Elab.async false
set_option linter.all false
set_option maxRecDepth 100000
set_option maxHeartbeats 4000000
/-! Walks: bent. -/
namespace K3
open PySem PySem.Spec PyProof.Rows L2
/-- what the two judges are promised -/
def okT (x : PyData) : Prop := (beamsOf x).length < 32 ∧ ∀ (n : Int) (bs : List PyData), x = .tuple [.int n, .tuple bs] → n ≤ 1000
theorem okT_pair {x y : PyData} (hx : ∀ n : Int, x = .int n → n ≤ 1000) (hy : ∀ bs, y = .tuple bs → bs.length < 32) : okT (.tuple [x, y]) := by
  refine ⟨?_, fun n bs e => ?_⟩
  · cases y <;> first | exact (show 0 < 32 by decide) | skip
    exact hy _ rfl
  · injection e with e
    injection e with e1 e2
    exact hx n e1
theorem okT_no {x : PyData} (h1 : beamsOf x = []) (h2 : ∀ y z, x ≠ .tuple [y, z]) : okT x := ⟨by rw [h1]; decide, fun n bs e => absurd e (h2 _ _)⟩
def AllT (m : Nat) (l : List PyData) : Prop := l.length = m ∧ ∀ x ∈ l, okT x
section
variable {K : PySem.W.Frag} {σ : L2.St} {t : Addr} {k k1 k2 m : Nat} {G G' H H' : Hp} {ta tb te : TE} {ts : TA} {p q : PyData → Prop} {d : PyData} {ds : List PyData}
theorem exa_tn : EvXA t 0 tNil σ G (AllT 0) := exa_imp exa_nil (Nat.le_refl _) fun l e => by subst e; exact ⟨rfl, fun x h => absurd h (by simp)⟩
theorem exa_tc (h : EvX t k1 te σ G okT) (hr : EvXA t k2 ts σ G (AllT m)) : EvXA t (k1 + k2) (tCons te ts) σ G (AllT (m + 1)) := exa_imp (exa_cons h hr) (Nat.le_refl _) fun l ⟨d, ds, e, hd, hl, hall⟩ => by
  subst e
  exact ⟨by rw [List.length_cons, hl], fun x hx => (List.mem_cons.mp hx).elim (fun e => by rw [e]; exact hd) (hall x)⟩
theorem ex_t (h : EvD te σ G d) (ho : okT d) : EvX t 0 te σ G okT := ex_imp (ex_of h) (Nat.le_refl _) fun x e => by rw [e]; exact ho
theorem ex_cb {f : List V → Hp → VK → Prop} {p : List PyData → Prop} {z : List PyData → PyData} (h : EvXA t k ts σ G p) (hr : ∀ ds, p ds → RcD f ds (z ds)) : EvX t k (tCB f ts) σ G (fun d => ∃ ds, p ds ∧ d = z ds) := fun m H hm dH Q hq =>
  h m H hm dH _ fun ds vs G1 H1 hp a1 d1 hv => (hr ds hp) G1 H1 vs d1.s hv Q fun u G3 H3 a3 hu => hq (z ds) u G3 H3 ⟨ds, hp, rfl⟩ (a1.trans d1 a3.dr) (a3.dst d1) hu
theorem da_each {G : Hp} : ∀ {ys : List V}, (∀ y ∈ ys, ∃ d, Da G y d) → ∃ es : List PyData, DaL G ys es
  | [], _ => ⟨[], DaL.nil⟩
  | y :: ys, h => by
    obtain ⟨d, hd⟩ := h y (by simp)
    obtain ⟨es, he⟩ := da_each (ys := ys) fun z hz => h z (List.mem_cons_of_mem _ hz)
    exact ⟨d :: es, .cons hd he⟩
/-- sorted(tuple of pairs): some order -/
theorem ex_sortTU {qs : List (Int × Int)} (h : EvD ta σ G (.tuple (qs.map encI))) (hn : qs.length < 64) (hb : ∀ b ∈ qs, 0 ≤ b.1 ∧ 0 ≤ b.2 ∧ b.1 < 1024 ∧ b.2 < 1024) : EvX t 0 (tCB (rSortTU K 2 1024) (tCons ta tNil)) σ G (fun z => ∃ es : List PyData, z = .list es ∧ es.length = qs.length) := fun m H hm dH Q hq =>
  h H dH.s _ fun v G1 H1 a1 hv => by
    have d1 := a1.dst dH
    obtain ⟨l, xs, rfl, ea, hx⟩ := hv.of_tup
    obtain ⟨ks, rfl, e2, h3⟩ := pairs_ks hx
    have hl : ks.length = qs.length := by have := congrArg List.length e2; simpa using this
    refine ⟨l, ks, rfl, SqT.of (a1.s _ _ ea), fun p hp => ?_, by omega, fun ys p hperm hp => ?_⟩
    · obtain ⟨b, hb', e⟩ := ks_mem e2 hp
      refine ⟨SqT.of (a1.s _ _ (h3 p hp)), ?_⟩
      rw [e]
      exact ⟨rfl, bd_pr (hb b hb')⟩
    · have he : ∃ es : List PyData, DaL G1 ys es := da_each fun y hy => by
        obtain ⟨q, hq, rfl⟩ := List.mem_map.mp (hperm.mem_iff.mp hy)
        obtain ⟨b, _, e⟩ := ks_mem e2 hq
        have h4 := h3 q hq
        rw [e] at h4
        exact ⟨encI b, Da.mk_t h4 (.cons (.int _) (.cons (.int _) .nil))⟩
      obtain ⟨es, hes⟩ := he
      have a2 : Gro G1 H1 (upd G1 p (.lst ys)) (upd H1 p (.lst ys)) := Gro.new d1.s hp
      have hlen : es.length = qs.length := by rw [← hes.1, hperm.length_eq, List.length_map, hl]
      exact hq (.list es) (.ref p) _ _ ⟨es, rfl, hlen⟩ (a1.dr.trans d1 a2.dr) (a2.dst d1) (Da.mk_l upd_same (hes.mono a2.g))
/-- a comprehension over a list that is drawn -/
theorem ex_lcS {g : TG} {tt : TT} {vs : List Nat} {te0 : TE} {p : List PyData → Prop} (F : PyData → PyData) (h0 : EvX t k te0 σ G (fun z => ∃ fs, z = .list fs ∧ p fs)) (hl : ∀ fs, p fs → fs.length < 100000)
    (hb : ∀ fs, p fs → ∀ d ∈ fs, ∀ v G', Same G G' → Da G' v d → BodyD g tt te vs σ G' v (some (F d))) : EvX t k (tLc (iSeq K te0) g tt te vs) σ G (fun z => ∃ fs, p fs ∧ z = .list (fs.map F)) := fun m H hm dH Q hq => by
  refine .inl (h0 m H hm dH _ fun d v G1 H1 hd a1 d1 hv => ?_)
  obtain ⟨fs, rfl, hp⟩ := hd
  obtain ⟨a, xs, rfl, ea, hx⟩ := hv.of_list
  refine ⟨a, rfl, ⟨xs, SqL.of (d1.s _ _ ea)⟩, ?_⟩
  have hs : SrcD (fun _ H R => R (Itl K a) H) σ G1 fs := fun H2 s2 R q2 => q2 _ G1 H2 (Gro.refl s2) (walk_l ea hx)
  have e := ed_lcM (t := tt) (te := te) (vs := vs) F hs (hl fs hp) fun d hd v G' s' hv' => hb fs hp d hd v G' (a1.g.trans s') hv'
  exact e H1 d1.s Q fun u G3 H3 a3 hu => hq _ u G3 H3 ⟨fs, hp, rfl⟩ (a1.trans d1 a3.dr) (a3.dst d1) hu
end
section
variable {P : Program} {w : World} {K : PySem.W.Frag} {mg : Str → Option Value} {base : Heap}
def ok_bent : List PyData → Prop := fun ds => ∃ (n : Nat) (bs : List (Int × Int)), ds = [encF n bs] ∧ Valid n bs
def post_bent : List PyData → PyData → Prop := fun _ d => ∃ ts : List PyData, d = .list ts ∧ ts.length ≤ 40 ∧ ∀ x ∈ ts, okT x
theorem Valid.beam1 {n : Nat} {bs : List (Int × Int)} (v : Valid n bs) : 1 ≤ bs.length := by
  cases bs with
  | nil =>
    have h := v.all
    have h2 := v.two
    simp [flatI, normI] at h
    omega
  | cons b r => rw [List.length_cons]; omega
theorem cut_at_D {ds : List PyData} {k : Int} (h0 : 0 ≤ k) (h1 : k < (ds.length : Nat)) : (cutD ds (some k) (some (k + 1))).length ≤ 1 := by
  unfold cutD
  have e : k = ((k.toNat : Nat) : Int) := by omega
  rw [e, cut_at]
  cases ds[k.toNat]? <;> simp
theorem w_bent (B : Bt mg) (F1 : FnE P w K mg base CX0 1 "_law_take" ["_law_tin", "_law_below_so"] (spDr 1 ok_take post_take)) (F2 : FnE P w K mg base CX0 2 "_law_pick" ["_law_tin", "_law_goods_so", "_law_count_so"] (spDr 20 ok_pick post_pick))
    (F3 : FnE P w K mg base CX0 1 "_law_put" ["_law_row_so", "_law_place_so", "_law_bit_so"] (spF pre_put1)) (D : Def K mg "_law_bent" s_bent) : FnE P w K mg base CX0 3 "_law_bent" ["_law_tin", "_law_frame_so"] (spDr 40 ok_bent post_bent) := by
  refine D.draw b_bent sc_bent (fun ds ⟨n, _, e, _⟩ => by rw [e]; rfl) fun f cdv A outer s H E t G vs ds hr hv hp => ⟨_, x_bent B hr (Nat.le_refl _) F1 (by decide) F2 (by decide) F3 (by decide), ?_⟩
  obtain ⟨n, bs, rfl, hV⟩ := hp
  obtain ⟨v, rfl, hx⟩ := hv.one
  have h1 := hV.beam1
  have h12 := hV.few
  have h9 := hV.nine
  have hT : ∀ ds' : List PyData, ds'.length < 32 → ∀ es, PyData.tuple ds' = .tuple es → es.length < 32 := fun ds' h es e => by cases e; exact h
  have hN : ∀ i : Int, i ≤ 1000 → ∀ m : Int, PyData.int i = .int m → m ≤ 1000 := fun i h m e => by cases e; exact h
  have hbl : (bs.map encI).length < 32 := by rw [List.length_map]; omega
  refine rx_unp (ed_var rfl hx) fun v2 v3 G1 s1 h2 h3 => ?_
  refine rx_imp (k := 1 + (0 + (20 + 0))) (rx_set (k1 := 1) (ex_call (i := 0) rfl (ea_cons (ed_cb (ea_cons (ed_var rfl h3) ea_nil) rd_lenT) ea_nil) ⟨_, rfl, by rw [List.length_map]; omega, by rw [List.length_map]; omega⟩) fun d v4 G2 hd s2 h4 => ?_) (by decide) (fun d h => h)
  obtain ⟨_, kk, e, rfl, k0, k1⟩ := hd
  cases e
  rw [List.length_map] at k1
  have h2a := h2.mono s2
  have h3a := h3.mono s2
  have hxa := hx.mono (s1.trans s2)
  obtain ⟨b, hb⟩ : ∃ b, bs[kk.toNat]? = some b := ⟨_, List.getElem?_eq_getElem (by omega)⟩
  have hbm := hV.ok b (List.mem_of_getElem? hb)
  have hat : atI (bs.map encI) kk = some (encI b) := by
    rw [atI_nn k0 (by rw [List.length_map]; exact k1), List.getElem?_map, hb]; rfl
  refine rx_unp (ed_op (ed_var rfl h3a) (ed_var rfl h4) (rd_xT hat)) fun v5 v6 G3 s3 h5 h6 => ?_
  have h2b := h2a.mono s3
  have h3b := h3a.mono s3
  have h4b := h4.mono s3
  have hxb := hxa.mono s3
  have lay2 : ∀ i : Int, SeqAt.shaped (.int i) = true := fun i => rfl
  refine rx_set (k1 := 0) (ex_of (d := .list [.tuple [.int b.2, .int b.1], .tuple [.int b.1, .int (b.2 + 1)], .tuple [.int b.1, .int b.1], .tuple [.int (b.1 - 1), .int b.2], .tuple [.int b.1, .int b.2, .int b.2], .tuple [.int b.1], .list [.int b.1, .int b.2], .tuple [.int b.1, .none], .tuple [.int b.1, .bool (decide (b.2 = 1))], .tuple [.bool (decide (b.1 = 1)), .int b.2], .none, .int b.1, .str "01", .tuple [.int 0, .int ((n : Nat) - 1)]])
    (ed_lst (ea_cons (ed_tup (ea_cons (ed_var rfl h6) (ea_cons (ed_var rfl h5) ea_nil)) (show 2 ≤ 100000 by decide)) (ea_cons (ed_tup (ea_cons (ed_var rfl h5) (ea_cons (ed_op (ed_var rfl h6) ed_int rd_plusI) ea_nil)) (show 2 ≤ 100000 by decide)) (ea_cons (ed_tup (ea_cons (ed_var rfl h5) (ea_cons (ed_var rfl h5) ea_nil)) (show 2 ≤ 100000 by decide))
      (ea_cons (ed_tup (ea_cons (ed_op (ed_var rfl h5) ed_int rd_sub) (ea_cons (ed_var rfl h6) ea_nil)) (show 2 ≤ 100000 by decide)) (ea_cons (ed_tup (ea_cons (ed_var rfl h5) (ea_cons (ed_var rfl h6) (ea_cons (ed_var rfl h6) ea_nil))) (show 3 ≤ 100000 by decide)) (ea_cons (ed_tup (ea_cons (ed_var rfl h5) ea_nil) (show 1 ≤ 100000 by decide))
      (ea_cons (ed_lst (ea_cons (ed_var rfl h5) (ea_cons (ed_var rfl h6) ea_nil)) (show 2 ≤ 100000 by decide)) (ea_cons (ed_tup (ea_cons (ed_var rfl h5) (ea_cons ed_non ea_nil)) (show 2 ≤ 100000 by decide)) (ea_cons (ed_tup (ea_cons (ed_var rfl h5) (ea_cons (ed_op (ed_var rfl h6) ed_int rd_eqI1) ea_nil)) (show 2 ≤ 100000 by decide))
      (ea_cons (ed_tup (ea_cons (ed_op (ed_var rfl h5) ed_int rd_eqI1) (ea_cons (ed_var rfl h6) ea_nil)) (show 2 ≤ 100000 by decide)) (ea_cons ed_non (ea_cons (ed_var rfl h5) (ea_cons ed_str (ea_cons (ed_tup (ea_cons ed_int (ea_cons (ed_op (ed_var rfl h2b) ed_int rd_sub) ea_nil)) (show 2 ≤ 100000 by decide)) ea_nil)))))))))))))) (show 14 ≤ 100000 by decide))) fun d7 v7 G4 e7 s4 h7 => ?_
  subst e7
  have h2c := h2b.mono s4
  have h3c := h3b.mono s4
  have h4c := h4b.mono s4
  have hxc := hxb.mono s4
  -- five of the bits, each put in
  refine rx_set (k1 := 20) (q := fun z => ∃ ts : List PyData, z = .list ts ∧ ts.length ≤ 20 ∧ ∀ x ∈ ts, okT x) (ex_imp (ex_lcS (p := fun fs => fs.length ≤ 20) (fun d => .tuple [.int (n : Nat), .tuple ((bs.map encI).take kk.toNat ++ [d] ++ (bs.map encI).drop (kk.toNat + 1))]) (ex_imp (ex_call (i := 0) rfl (ea_cons (ed_var rfl h7) (ea_cons ed_int ea_nil)) ⟨_, _, rfl, by decide, by decide, (show 14 ≤ 100 by decide)⟩) (Nat.le_refl _) fun d hd => ?_) (fun fs h => by omega) fun fs hfs d hd v' G' s' hv' => ?_) (Nat.le_refl _) fun d hd => ?_) fun d8 v8 G5 hd8 s5 h8 => ?_
  · obtain ⟨gs, fs, c, _, rfl, _, hl⟩ := hd
    exact ⟨fs, rfl, hl⟩
  · refine bd_name (b := true) rfl eb_yes rfl fun e he => ?_
    cases he
    have h2' := h2c.mono s'
    have h3' := h3c.mono s'
    have h4' := h4c.mono s'
    exact ed_tup (ea_cons (ed_var (i := 2) rfl h2') (ea_cons (ed_call (ea_cons (ed_var (i := 3) rfl h3') (ea_cons (ed_var (i := 4) rfl h4') (ea_cons (ed_var (i := 9) rfl hv') ea_nil))) ⟨_, kk, d, rfl, k0, by rw [List.length_map]; exact k1, by rw [List.length_map]; omega, rfl⟩) ea_nil)) (show 2 ≤ 100000 by decide)
  · obtain ⟨fs, hl, rfl⟩ := hd
    refine ⟨_, rfl, by rw [List.length_map]; exact hl, fun x hx => ?_⟩
    obtain ⟨d, _, rfl⟩ := List.mem_map.mp hx
    refine okT_pair (hN _ (by omega)) (hT _ ?_)
    rw [List.length_append, List.length_append, List.length_take, List.length_drop, List.length_map]
    simp only [List.length_cons, List.length_nil]
    omega
  obtain ⟨ts8, rfl, hl8, ho8⟩ := hd8
  have h2d := h2c.mono s5
  have h3d := h3c.mono s5
  have h4d := h4c.mono s5
  have hxd := hxc.mono s5
  have plus : ∀ {σ : L2.St} {G : Hp} {ta tb : TE} {as bs' : List PyData} {m1 m2 : Nat}, EvX t 0 ta σ G (fun z => ∃ ts : List PyData, z = .list ts ∧ ts.length ≤ m1 ∧ ∀ x ∈ ts, okT x) → EvX t 0 tb σ G (fun z => ∃ ts, AllT m2 ts ∧ z = .list ts) → m1 + m2 ≤ 100 →
      EvX t 0 (tOp (rPlus K) ta tb) σ G (fun z => ∃ ts : List PyData, z = .list ts ∧ ts.length ≤ m1 + m2 ∧ ∀ x ∈ ts, okT x) := fun {σ G ta tb as bs' m1 m2} ha hb hm => ex_imp (ex_op (z := fun x y => match x, y with | .list a, .list b => .list (a ++ b) | x, _ => x) ha hb fun x y hx hy => by
        obtain ⟨a, rfl, hal, _⟩ := hx
        obtain ⟨c, hc, rfl⟩ := hy
        exact rd_plusL (by have := hc.1; omega)) (Nat.le_refl _) fun d ⟨x, y, hx, hy, e⟩ => by
        obtain ⟨a, rfl, hal, hao⟩ := hx
        obtain ⟨c, hc, rfl⟩ := hy
        refine ⟨a ++ c, e, by rw [List.length_append]; have := hc.1; omega, fun z hz => ?_⟩
        rcases List.mem_append.mp hz with h | h
        · exact hao z h
        · exact hc.2 z h
  have hnpos : ((n : Nat) : Int) ≤ 1000 := by omega
  refine rx_imp (k := 0 + (0 + 0)) (rx_set (k1 := 0) (plus (as := []) (bs' := []) (m1 := 20) (m2 := 4) (ex_imp (ex_of (ed_var (i := 8) rfl h8)) (Nat.le_refl _) fun d e => ⟨ts8, e, hl8, ho8⟩) (ex_lst (exa_tc (ex_t (ed_tup (ea_cons (ed_var (i := 2) rfl h2d) (ea_cons (ed_op (ed_sl (ed_var (i := 3) rfl h3d) eo_no (eo_part (ed_var (i := 4) rfl h4d)) rs_T) (ed_sl (ed_var (i := 3) rfl h3d) (eo_part (ed_op (ed_var (i := 4) rfl h4d) ed_int rd_plusI)) eo_no rs_T) (rd_plusT ?_)) ea_nil)) (show 2 ≤ 100000 by decide)) (okT_pair (hN _ hnpos) (hT _ ?_)))
      (exa_tc (ex_t (ed_tup (ea_cons (ed_op (ed_var (i := 2) rfl h2d) ed_int rd_plusI) (ea_cons (ed_var (i := 3) rfl h3d) ea_nil)) (show 2 ≤ 100000 by decide)) (okT_pair (hN _ (by omega)) (hT _ hbl)))
      (exa_tc (ex_t (ed_tup (ea_cons (ed_op (ed_var (i := 2) rfl h2d) ed_int rd_sub) (ea_cons (ed_var (i := 3) rfl h3d) ea_nil)) (show 2 ≤ 100000 by decide)) (okT_pair (hN _ (by omega)) (hT _ hbl)))
      (exa_tc (ex_t (ed_tup (ea_cons (ed_var (i := 2) rfl h2d) (ea_cons (ed_op (ed_var (i := 3) rfl h3d) (ed_sl (ed_var (i := 3) rfl h3d) (eo_part (ed_var (i := 4) rfl h4d)) (eo_part (ed_op (ed_var (i := 4) rfl h4d) ed_int rd_plusI)) rs_T) (rd_plusT ?_)) ea_nil)) (show 2 ≤ 100000 by decide)) (okT_pair (hN _ hnpos) (hT _ ?_)))
      exa_tn)))) fun ds hds => by rw [hds.1]; decide) (by decide)) fun d9 v9 G6 hd9 s6 h9' => ?_) (by decide) (fun d h => h)
  · rw [cut_to k0 (by rw [List.length_map]; omega), cut_from (by omega) (by rw [List.length_map]; omega), List.length_take, List.length_drop, List.length_map]; omega
  · rw [cut_to k0 (by rw [List.length_map]; omega), cut_from (by omega) (by rw [List.length_map]; omega), List.length_append, List.length_take, List.length_drop, List.length_map]; omega
  · have := cut_at_D (ds := bs.map encI) k0 (by rw [List.length_map]; exact k1)
    rw [List.length_map]; omega
  · have := cut_at_D (ds := bs.map encI) k0 (by rw [List.length_map]; exact k1)
    rw [List.length_append, List.length_map]; omega
  obtain ⟨ts9, rfl, hl9, ho9⟩ := hd9
  have h2e := h2d.mono s6
  have h3e := h3d.mono s6
  have hxe := hxd.mono s6
  refine rx_set (k1 := 0) (plus (as := []) (bs' := []) (m1 := 24) (m2 := 6) (ex_imp (ex_of (ed_var (i := 8) rfl h9')) (Nat.le_refl _) fun d e => ⟨ts9, e, hl9, ho9⟩) (ex_lst (exa_tc (ex_t (ed_tup (ea_cons (ed_var (i := 2) rfl h2e) (ea_cons (ed_revT (ed_var (i := 3) rfl h3e)) ea_nil)) (show 2 ≤ 100000 by decide)) (okT_pair (hN _ hnpos) (hT _ (by rw [List.length_reverse]; exact hbl))))
      (exa_tc (ex_t (ed_tup (ea_cons (ed_var (i := 2) rfl h2e) (ea_cons (ed_cb (ea_cons (ed_var (i := 3) rfl h3e) ea_nil) rd_listT) ea_nil)) (show 2 ≤ 100000 by decide)) (okT_pair (hN _ hnpos) (fun es e => nomatch e)))
      (exa_tc (ex_t (ed_cb (ea_cons (ed_var (i := 1) rfl hxe) ea_nil) rd_listT) (okT_no rfl fun y z => PyData.noConfusion))
      (exa_tc (ex_t (ed_tup (ea_cons (ed_op (ed_var (i := 2) rfl h2e) ed_int rd_eqI1) (ea_cons (ed_var (i := 3) rfl h3e) ea_nil)) (show 2 ≤ 100000 by decide)) (okT_pair (fun m e => nomatch e) (hT _ hbl)))
      (exa_tc (ex_t (ed_tup (ea_cons (ed_var (i := 2) rfl h2e) (ea_cons (ed_var (i := 3) rfl h3e) (ea_cons (ed_tup ea_nil (show 0 ≤ 100000 by decide)) ea_nil))) (show 3 ≤ 100000 by decide)) (okT_no rfl fun y z e => by injection e with e; have := congrArg List.length e; simp at this))
      (exa_tc (ex_t (ed_tup (ea_cons (ed_var (i := 3) rfl h3e) (ea_cons (ed_var (i := 2) rfl h2e) ea_nil)) (show 2 ≤ 100000 by decide)) (okT_pair (fun m e => nomatch e) (fun es e => nomatch e)))
      exa_tn)))))) fun ds hds => by rw [hds.1]; decide) (by decide)) fun d10 v10 G7 hd10 s7 h10 => ?_
  obtain ⟨ts10, rfl, hl10, ho10⟩ := hd10
  have h2f := h2e.mono s7
  have h3f := h3e.mono s7
  have small : ∀ c ∈ bs, 0 ≤ c.1 ∧ 0 ≤ c.2 ∧ c.1 < 1024 ∧ c.2 < 1024 := fun c hc => by have := hV.ok c hc; omega
  have h2n := hV.two
  refine rx_ret (ex_imp (plus (as := []) (bs' := []) (m1 := 30) (m2 := 5) (ex_imp (ex_of (ed_var (i := 8) rfl h10)) (Nat.le_refl _) fun d e => ⟨ts10, e, hl10, ho10⟩) (ex_lst (exa_tc (ex_imp (ex_tup (exa_cons (ex_of (ed_var (i := 2) rfl h2f)) (exa_cons (ex_cb (z := fun l => match l with | [.list es] => .tuple es | _ => .none) (exa_cons (ex_sortTU (qs := bs ++ [(0, 1)]) (ed_is (ed_op (ed_var (i := 3) rfl h3f) (ed_tup (ea_cons (ed_tup (ea_cons ed_int (ea_cons ed_int ea_nil)) (show 2 ≤ 100000 by decide)) ea_nil) (show 1 ≤ 100000 by decide)) (rd_plusT ?_)) ?_) ?_ ?_) exa_nil) ?_) exa_nil)) ?_) (Nat.le_refl _) ?_)
      (exa_tc (ex_t (ed_tup (ea_cons (ed_var (i := 2) rfl h2f) (ea_cons (ed_cb (ea_cons (ed_ssetPT (qs := bs ++ [((0 : Int), ((n : Nat) : Int) - 1)]) (ed_is (ed_op (ed_var (i := 3) rfl h3f) (ed_tup (ea_cons (ed_tup (ea_cons ed_int (ea_cons (ed_op (ed_var (i := 2) rfl h2f) ed_int rd_sub) ea_nil)) (show 2 ≤ 100000 by decide)) ea_nil) (show 1 ≤ 100000 by decide)) (rd_plusT ?_)) ?_) ?_ ?_) ea_nil) rd_tupL) ea_nil)) (show 2 ≤ 100000 by decide)) (okT_pair (hN _ hnpos) (hT _ ?_)))
      (exa_tc (ex_t (ed_var (i := 3) rfl h3f) ?_)
      (exa_tc (ex_t (ed_tup (ea_cons (ed_var (i := 2) rfl h2f) (ea_cons (ed_tup ea_nil (show 0 ≤ 100000 by decide)) ea_nil)) (show 2 ≤ 100000 by decide)) (okT_pair (hN _ hnpos) (hT _ (by decide))))
      (exa_tc (ex_t ed_non (okT_no rfl fun y z => PyData.noConfusion)) exa_tn))))) fun ds hds => by rw [hds.1]; decide) (by decide)) (by decide) fun d hd => ?_)
  · rw [List.length_map]; simp only [List.length_cons, List.length_nil]; omega
  · rw [List.map_append]; rfl
  · rw [List.length_append]; simp only [List.length_cons, List.length_nil]; omega
  · intro c hc
    rcases List.mem_append.mp hc with h | h
    · exact small c h
    · have : c = (0, 1) := by simpa using h
      subst this
      decide
  · rintro ds ⟨d, ds', rfl, ⟨es, rfl, _⟩, rfl⟩
    exact rd_tupL
  · rintro ds ⟨d, ds', rfl, _, d', ds'', rfl, _, rfl⟩
    exact (show 2 ≤ 100000 by decide)
  · rintro d ⟨ds, ⟨d1, ds', rfl, rfl, d2, ds'', rfl, ⟨ds3, ⟨d3, ds4, rfl, ⟨es, rfl, hes⟩, rfl⟩, rfl⟩, rfl⟩, rfl⟩
    refine okT_pair (hN _ hnpos) (hT _ ?_)
    rw [hes, List.length_append]
    simp only [List.length_cons, List.length_nil]
    omega
  · rw [List.length_map]; simp only [List.length_cons, List.length_nil]; omega
  · rw [List.map_append]; rfl
  · rw [List.length_append]; simp only [List.length_cons, List.length_nil]; omega
  · intro c hc
    rcases List.mem_append.mp hc with h | h
    · exact small c h
    · have : c = ((0 : Int), ((n : Nat) : Int) - 1) := by simpa using h
      subst this
      dsimp only
      omega
  · rw [List.length_map]
    have := normP_len (bs ++ [((0 : Int), ((n : Nat) : Int) - 1)])
    rw [List.length_append] at this
    simp only [List.length_cons, List.length_nil] at this
    omega
  · -- the beams alone: a tuple of pairs
    refine ⟨?_, fun m es e => ?_⟩
    · cases bs with
      | nil => decide
      | cons b0 r =>
        cases r with
        | nil => exact (show 0 < 32 by decide)
        | cons b1 r2 =>
          cases r2 with
          | nil => exact (show 2 < 32 by decide)
          | cons _ _ => exact (show 0 < 32 by decide)
    · injection e with e
      cases bs with
      | nil => cases e
      | cons b0 r => injection e with e1 e2; cases e1
  · obtain ⟨ts, rfl, hl, ho⟩ := hd
    exact ⟨ts, rfl, by omega, ho⟩
end
end K3

set_option Elab.async false
set_option linter.all false
set_option maxRecDepth 100000
set_option maxHeartbeats 4000000
/-! Walks: what raises NoJack, and heard. -/
namespace K3
open PySem PySem.Spec PyProof.Rows L2
theorem seq_if {c : TT} {p u : TS} {D : Ends} {σ : L2.St} {H : Hp} (h : c σ H fun b H1 => if b = true then p { D with nx := u D } σ H1 else u D σ H1) : tSeq (tIfS c p tNext) u D σ H := h
/-- isinstance(e, c), e the error with its own dict that the suite holds -/
def rIsX (K : PySem.W.Frag) (D a : Addr) (cls : Value) (d : Option Addr) : List V → Hp → VK → Prop := fun xs H Q => cls = .ref D ∧ ∃ (c : V) (cv : Value) (b : Bool) (dd : Addr) (fs : List (Str × V)), xs = [.ref a, c] ∧ (∀ u, RelV c u → u = cv) ∧ PySem.W.kitOne K (.ref D) cv = some b ∧ d = some dd ∧ H dd = some (.xd fs) ∧ Q (.bl b) H
theorem call_isX {X : Cx} {a D : Addr} {oe : Obj} {cls : Value} {d : Option Addr} {pn : List (Addr × Obj)} (C : ExcC X.K D) (hz : Zc cls d oe) (hf : ∃ vs, oe.data = .fields vs) : CallR (X.suite a ((a, oe) :: pn)) (.builtin "isinstance") (rIsX X.K D a cls d) := by
  intro pins s σ H xs us Q I r h
  obtain ⟨rfl, c, cv, b, dd, fs, rfl, hcv, e, rfl, hdd, q⟩ := h
  cases r with
  | cons rx rr =>
    cases rr with
    | cons rt rr =>
      cases rr
      cases rx
      have ec := hcv _ rt
      subst ec
      obtain ⟨hget, _⟩ := I.pin (a, oe) (List.mem_append.mpr (.inl List.mem_cons_self))
      obtain ⟨vs, hv⟩ := hf
      have hx : ObjOk X.prog X.w H s.heap dd (.xd fs) := I.hok dd _ hdd
      obtain ⟨mA, hns, hr⟩ := hx
      obtain ⟨od, ho, hl⟩ := lookIn_ns hns
      have J : PySem.W.InstAt s.heap a oe D (some od) := ⟨hget, hz.1, by unfold PySem.W.notCls; rw [hv] <;> rfl, by rw [hz.2]; exact ho⟩
      have hcl : (PySem.W.clsIn X.K D).isSome = true := by obtain ⟨cd, hc, _⟩ := PySem.W.any_some C.hd; rw [hc]; rfl
      exact PySem.W.kia_one (PySem.W.kitx_exc hcl C.hg C.hk C.hs C.ha C.hn C.ht C.hm) I.kIn J e (fun z => nomatch z) fun tk => ⟨.bl b, H, I.kept (t' := tk) fun _ _ z => z, rfl, q⟩
/-- the promise of what raises NoJack(k) -/
def spNj (C : Addr) (pre : List PyData → Int → Prop) : Sp := fun vs H Q E => ∃ G ds k, Same G H ∧ DaL G vs ds ∧ pre ds k ∧ ∀ d H', Same H H' → H' d = none → E (.ref C) (some d) (upd H' d (.xd [(("jack" : Str), .int k)]))
section
variable {P : Program} {w : World} {K : PySem.W.Frag} {mg : Str → Option Value} {base : Heap} {C fI : Addr}
def pre_sjN : List PyData → Int → Prop := fun ds k => ∃ (n : Nat) (bs : List (Int × Int)), ds = [encF n bs, .int k] ∧ ¬ (0 ≤ k ∧ k < (n : Nat))
theorem passX {CX0' : CXT} {N : List Str} {x : Str} {scope : Scope} {f : Addr} {cdv : Value} {A : Around} {outer : List Env} {s : Shared} {H : Hp} {E : XK} :
    Passes (L2.CX P w) (cxOf (L2.CX P w) P w K mg base N x scope f cdv A outer s H E) E := fun pins σ H' s' e s'' I c => passAt (W := fun cls d _ H => E cls d H) (takes_of rfl rfl rfl rfl) σ pins H' s' e s'' I c
theorem w_sure_jackN (B : Bt mg) (T : NjTxt K mg C fI) (F1 : FnE P w K mg base CX0 1 "is_number" ["thing"] (spF pre_num)) (F2 : FnE P w K mg base CX0 3 "is_below" ["thing", "many"] (spF pre_bel)) (D : Def K mg "sure_jack" s_p_sure_jack) :
    FnE P w K mg base (L2.CX P w) 4 "sure_jack" ["frame", "jack"] (spNj C pre_sjN) := by
  refine D.fnE b_p_sure_jack fun f fd F => F.ok sc_p_sure_jack (fun vs H Q E h => ?_) (fun cdv A outer s H vs Q E hr h => ?_)
  · obtain ⟨G, ds, k, _, hv, ⟨n, bs, rfl, _⟩, _⟩ := h; rw [hv.1]; rfl
  obtain ⟨G, ds, k, sG, hvs, ⟨n, bs, rfl, hk⟩, q⟩ := h
  obtain ⟨v, u, rfl, hv, hu⟩ := hvs.two
  refine ⟨_, pss_cons (ps_if (pt_not (pt_val (pe_f F1 hr (pa_cons (pv 1) pa_nil)))) pss_never pss_nil)
    (pss_cons (ps_if (pt_not (pt_val (pe_f F2 hr (pa_cons (pv 1) (pa_cons (pe_ix ix_seq (pv 0) pe_int (fun _ _ => rfl)) pa_nil))))) (pss_one (ps_raiseNj (W := fun cls d _ H => E cls d H) rfl T hr (takes_of rfl rfl rfl rfl) (by exact (pa_cons (pv 1) pa_nil)))) pss_nil) pss_never), ?_⟩
  have eu := hu.of_int
  subst eu
  refine seq_if ?_
  refine (eb_not (eb_B (ed_call (pre := pre_num) (ea_cons (ed_var (i := 1) rfl hu) ea_nil) ⟨_, rfl, rfl⟩))) H sG _ fun G1 H1 a1 => ?_
  refine ite2 (fun z => nomatch z) (fun _ => ?_)
  have eb : belD (n : Nat) (.int k) = false := by
    show (decide (0 ≤ k) && decide (k < (n : Nat))) = false
    by_cases c : 0 ≤ k
    · rw [decide_eq_true c, decide_eq_false (fun z => hk ⟨c, z⟩)]; rfl
    · rw [decide_eq_false c]; rfl
  refine seq_if ?_
  refine (eb_not (eb_B (ed_call (pre := pre_bel) (ea_cons (ed_var (i := 1) rfl (hu.mono a1.g)) (ea_cons (ed_op (ed_var (i := 0) rfl (hv.mono a1.g)) ed_int (rd_xT at0)) ea_nil)) ⟨_, _, rfl, rfl⟩))) H1 a1.s _ fun G2 H2 a2 => ?_
  rw [eb]
  refine ite2 (fun _ => ?_) (fun z => absurd rfl z)
  exact ⟨_, rfl, _, rfl, fun d hd => q d H2 (a1.k.trans a2.k) hd⟩
def pre_doorN : List PyData → Int → Prop := fun ds k => ∃ (x : PyData) (n : Nat) (bs : List (Int × Int)), ds = [x, .int k] ∧ FrmD x n bs ∧ Valid n bs ∧ ¬ (0 ≤ k ∧ k < (n : Nat))
theorem w_neighboursN (B : Bt mg) (F1 : FnE P w K mg base CX0 6 "sure_frame" ["frame"] (spF pre_sure)) {S2 : Sp} {p2 : List Str} (F2 : FnE P w K mg base CX0 2 "near_in" p2 S2) (F3 : FnE P w K mg base (L2.CX P w) 4 "sure_jack" ["frame", "jack"] (spNj C pre_sjN)) (D : Def K mg "neighbours" s_p_neighbours) :
    FnE P w K mg base (L2.CX P w) 7 "neighbours" ["frame", "jack"] (spNj C pre_doorN) := by
  refine D.fnE b_p_neighbours fun f fd F => F.ok sc_p_neighbours (fun vs H Q E h => ?_) (fun cdv A outer s H vs Q E hr h => ?_)
  · obtain ⟨G, ds, k, _, hv, ⟨x, n, bs, rfl, _⟩, _⟩ := h; rw [hv.1]; rfl
  obtain ⟨G, ds, k, sG, hv, ⟨x, n, bs, rfl, hx, hV, hk⟩, q⟩ := h
  obtain ⟨v, u, rfl, hv, hu⟩ := hv.two
  refine ⟨_, pss_cons (ps_set (i := 2) sc_p_neighbours.nd rfl (Or.inl rfl) (pe_f F1 hr (pa_cons (pv 0) pa_nil)))
    (pss_one (ps_ret (pe_f F2 hr (pa_cons (pv 2) (pa_cons (pe_fX (E := E) F3 hr (pa_cons (pv 2) (pa_cons (pv 1) pa_nil)) (passX (CX0' := CX0))) pa_nil))))), ?_⟩
  refine seq_asg ((ed_call (pre := pre_sure) (d := encF n bs) (ea_cons (ed_var (i := 0) rfl hv) ea_nil) ⟨x, n, bs, rfl, hx, hV, rfl⟩) H sG _ fun v1 G1 H1 a1 h1 => ?_)
  have hu1 := hu.mono a1.g
  refine ⟨_, rfl, _, rfl, _, rfl, ?_⟩
  exact ⟨G1, [encF n bs, .int k], k, a1.s, DaL.cons h1 (DaL.cons hu1 .nil), ⟨n, bs, rfl, hk⟩, fun d H' s' hd => q d H' (a1.k.trans s') hd⟩
theorem w_part_ofN (B : Bt mg) (F1 : FnE P w K mg base CX0 6 "sure_frame" ["frame"] (spF pre_sure)) {S2 : Sp} {p2 : List Str} (F2 : FnE P w K mg base CX0 1 "set_of" p2 S2) {S4 : Sp} {p4 : List Str} (F4 : FnE P w K mg base CX0 3 "grown_from" p4 S4) (F3 : FnE P w K mg base (L2.CX P w) 4 "sure_jack" ["frame", "jack"] (spNj C pre_sjN)) (D : Def K mg "part_of" s_p_part_of) :
    FnE P w K mg base (L2.CX P w) 7 "part_of" ["frame", "jack"] (spNj C pre_doorN) := by
  refine D.fnE b_p_part_of fun f fd F => F.ok sc_p_part_of (fun vs H Q E h => ?_) (fun cdv A outer s H vs Q E hr h => ?_)
  · obtain ⟨G, ds, k, _, hv, ⟨x, n, bs, rfl, _⟩, _⟩ := h; rw [hv.1]; rfl
  obtain ⟨G, ds, k, sG, hv, ⟨x, n, bs, rfl, hx, hV, hk⟩, q⟩ := h
  obtain ⟨v, u, rfl, hv, hu⟩ := hv.two
  refine ⟨_, pss_cons (ps_set (i := 2) sc_p_part_of.nd rfl (Or.inl rfl) (pe_f F1 hr (pa_cons (pv 0) pa_nil)))
    (pss_one (ps_ret (pe_f F2 hr (pa_cons (pe_f F4 hr (pa_cons (pv 2) (pa_cons (pe_fX (E := E) F3 hr (pa_cons (pv 2) (pa_cons (pv 1) pa_nil)) (passX (CX0' := CX0))) pa_nil))) pa_nil)))), ?_⟩
  refine seq_asg ((ed_call (pre := pre_sure) (d := encF n bs) (ea_cons (ed_var (i := 0) rfl hv) ea_nil) ⟨x, n, bs, rfl, hx, hV, rfl⟩) H sG _ fun v1 G1 H1 a1 h1 => ?_)
  have hu1 := hu.mono a1.g
  refine ⟨_, rfl, _, rfl, _, rfl, ?_⟩
  exact ⟨G1, [encF n bs, .int k], k, a1.s, DaL.cons h1 (DaL.cons hu1 .nil), ⟨n, bs, rfl, hk⟩, fun d H' s' hd => q d H' (a1.k.trans s') hd⟩
def heardD (k : Int) : PyData := .list [.str "no jack", .int k, .bool true]
def pre_heard : List PyData → PyData → Prop := fun ds d => ∃ (door : Int) (x : PyData) (n : Nat) (bs : List (Int × Int)) (k : Int), ds = [.int door, x, .int k] ∧ (door = 0 ∨ door = 1) ∧ FrmD x n bs ∧ Valid n bs ∧ ¬ (0 ≤ k ∧ k < (n : Nat)) ∧ d = heardD k
theorem w_heard (B : Bt mg) (T : NjTxt K mg C fI) (F1 : FnE P w K mg base (L2.CX P w) 7 "neighbours" ["frame", "jack"] (spNj C pre_doorN)) (F2 : FnE P w K mg base (L2.CX P w) 7 "part_of" ["frame", "jack"] (spNj C pre_doorN)) (D : Def K mg "_law_heard" s_heard) :
    FnE P w K mg base CX0 8 "_law_heard" ["_law_door_so", "_law_frame_so", "_law_k"] (spF pre_heard) := by
  obtain ⟨fN, fdN, FN, gN, kN, bN⟩ := F1.ex
  obtain ⟨fP, fdP, FP, gP, kP, bP⟩ := F2.ex
  refine D.fnE b_heard fun f fd F => F.ok sc_heard (fun vs H Q E h => ?_) (fun cdv A outer s H vs Q E hr h => ?_)
  · obtain ⟨G, ds, d, _, hv, ⟨_, _, _, _, _, rfl, _⟩, _⟩ := h; rw [hv.1]; rfl
  obtain ⟨G, ds, d, sG, hv, ⟨door, x, n, bs, k, rfl, hdoor, hx, hV, hk, rfl⟩, q⟩ := h
  obtain ⟨v0, v1, v2, rfl, h0, h1, h2⟩ := hv.three
  have e0 := h0.of_int
  have e2 := h2.of_int
  subst e0 e2
  refine ⟨_, pss_cons (ps_set (i := 3) sc_heard.nd rfl (Or.inl rfl) pe_non)
    (pss_cons (ps_try_as (i := 4) (tb := fun W => tAsg (tCallE (fun f sp => (f = fN ∨ f = fP) ∧ sp = spNj C pre_doorN) (WE W) (tOp (rIx K) (tLst (tCons (tC (.ref fN)) (tCons (tC (.ref fP)) tNil))) (tVar 0)) (tCons (tVar 1) (tCons (tVar 2) tNil))) (gName 3))
      (ts := fun a cls d => tAsg (tLst (tCons (tC (.str "no jack")) (tCons (tByNj C a cls d (tVar 4)) (tCons (tCB (rIsX K C a cls d) (tCons (tVar 4) (tCons (tC (.ty "LookupError")) tNil))) tNil)))) (gName 3)) (Wout := fun _ _ _ _ => False) rfl rfl sc_heard.nd rfl rfl ⟨rfl, by decide, Or.inl T.gC⟩ takes0
        (fun W pn xe tk _ => pss_one (ps_set (i := 3) sc_heard.nd rfl (Or.inl rfl) (pe_callE (fun f sp hS => ?_) (pe_ix ix_seq (pe_lst (pa_cons (pe_glob rfl gN rfl) (pa_cons (pe_glob rfl gP rfl) pa_nil))) (pv 0) (fun _ _ => rfl)) (by exact (pa_cons (pv 1) (pa_cons (pv 2) pa_nil))))))
        (fun a oe cls d pn hz hf => pss_one (ps_set (i := 3) sc_heard.nd rfl (Or.inl rfl) (by exact (pe_lst (pa_cons pe_str (pa_cons (pe_byNj T hz hf (pv 4)) (pa_cons (pe_callB (call_isX T.exc hz hf) rfl B.isi bo_isi (pa_cons (pv 4) (pa_cons (pe_ty rfl B.lookup bo_lookup) pa_nil))) pa_nil))))))))
    (pss_one (ps_ret (pv 3)))), ?_⟩
  · obtain ⟨hf, rfl⟩ := hS
    rcases hf with rfl | rfl
    · exact ⟨_, _, _, _, FN, hr, kN, bN, fun σ => passAt tk σ⟩
    · exact ⟨_, _, _, _, FP, hr, kP, bP, fun σ => passAt tk σ⟩
  -- found = None, then the call: it raises
  have hit : ∀ (H1 : Hp), Same H H1 → ∀ f, f = fN ∨ f = fP → ∀ D : Ends, (∀ p H', Same H H' → H p = none → H' p = some (.lst [.str "no jack", .int k, .bl true]) → D.nx [some (.int door), some v1, some (.int k), some (.ref p), none] H') →
      spNj C pre_doorN [v1, .int k] H1 (fun x H' => gName 3 x [some (.int door), some v1, some (.int k), some .non, none] H' D.nx)
        (WE (wAs K (.ref C) 4 (fun a cls d => tAsg (tLst (tCons (tC (.str "no jack")) (tCons (tByNj C a cls d (tVar 4)) (tCons (tCB (rIsX K C a cls d) (tCons (tVar 4) (tCons (tC (.ty "LookupError")) tNil))) tNil)))) (gName 3)) (fun _ _ _ _ => False) D) [some (.int door), some v1, some (.int k), some .non, none]) := fun H1 s1 f hf D hD => by
    refine ⟨G, [x, .int k], k, sG.trans s1, DaL.cons h1 (DaL.cons h2 .nil), ⟨x, n, bs, rfl, hx, hV, hk⟩, fun d H' s' hd => ?_⟩
    refine ⟨true, T.te, fun _ a ha => ?_, fun z => nomatch z⟩
    refine ⟨_, rfl, rfl, rfl, d, .int k, rfl, upd_same, _, rfl, rfl, .ty "LookupError", .type "LookupError", true, d, _, rfl, fun u hu => hu, T.le, rfl, upd_same, sz_of (show 3 ≤ 100000 by decide), fun p hp => ?_⟩
    have hp' : H' p = none := by
      have hpd : p ≠ d := fun e => by subst e; rw [upd_same] at hp; cases hp
      rw [upd_ne hpd] at hp
      exact hp
    refine hD p _ (s1.trans (s'.trans ((same_upd hd).trans (same_upd hp)))) ((s1.trans s').free hp') upd_same
  have fin : ∀ p H', Same H H' → H p = none → H' p = some (.lst [.str "no jack", .int k, .bl true]) → Q (.ref p) H' := fun p H' s' hp h' => by
    have a : Gro G H (upd G p (.lst [.str "no jack", .int k, .bl true])) H' := ⟨same_upd (sG.free hp), s', fun b u qq => by
      by_cases c : b = p
      · subst c; rw [upd_same] at qq; cases qq; exact h'
      · rw [upd_ne c] at qq; exact s' b u (sG b u qq), fun b hb => by
      by_cases c : b = p
      · subst c; exact .inr hp
      · rw [upd_ne c] at hb; exact .inl hb⟩
    exact q (.ref p) _ H' a (Da.mk_l upd_same (.cons (.str _) (.cons (.int _) (.cons (.bl _) .nil))))
  refine ⟨sz_of (show 2 ≤ 100000 by decide), fun l hl => ?_⟩
  have sl : Same H (upd H l (.lst [.ref fN, .ref fP])) := same_upd hl
  refine ⟨_, rfl, .inl ⟨l, [.ref fN, .ref fP], door, ?_⟩⟩
  rcases hdoor with rfl | rfl
  · exact ⟨.ref fN, rfl, rfl, SqL.of upd_same, rfl, fN, _, rfl, ⟨.inl rfl, rfl⟩, _, rfl, _, rfl, hit _ sl fN (.inl rfl) _ fun p H' s' hp h' => ⟨_, rfl, fin p H' s' hp h'⟩⟩
  · exact ⟨.ref fP, rfl, rfl, SqL.of upd_same, rfl, fP, _, rfl, ⟨.inr rfl, rfl⟩, _, rfl, _, rfl, hit _ sl fP (.inr rfl) _ fun p H' s' hp h' => ⟨_, rfl, fin p H' s' hp h'⟩⟩
end
end K3

set_option Elab.async false
set_option linter.all false
set_option maxRecDepth 100000
set_option maxHeartbeats 8000000
/-! Walks: right. -/
namespace K3
open PySem PySem.Spec PyProof.Rows L2
/-! small data is of the shape that == asks -/
theorem lay_all : ∀ {ds : List PyData}, (∀ x ∈ ds, PyData.canLay0 x = true) → PyData.canLayAll0 ds = true
  | [], _ => by simp [PyData.canLayAll0]
  | d :: ds, h => by
    simp only [PyData.canLayAll0, Bool.and_eq_true]
    exact ⟨h d (by simp), lay_all fun x hx => h x (List.mem_cons_of_mem _ hx)⟩
theorem depth_all {n : Nat} : ∀ {ds : List PyData}, (∀ x ∈ ds, PyData.depth x ≤ n) → PyData.depthAll ds ≤ n
  | [], _ => by simp [PyData.depthAll]
  | d :: ds, h => by
    simp only [PyData.depthAll]
    have h1 := h d (by simp)
    have h2 := depth_all (n := n) (ds := ds) fun x hx => h x (List.mem_cons_of_mem _ hx)
    omega
theorem scal_lay {d : PyData} (h : scalD d) : PyData.canLay0 d = true ∧ PyData.depth d = 0 := by
  cases d with
  | none => exact ⟨by simp [PyData.canLay0], by simp [PyData.depth]⟩
  | bool b => exact ⟨by simp [PyData.canLay0], by simp [PyData.depth]⟩
  | int i => exact ⟨by simp [PyData.canLay0], by simp [PyData.depth]⟩
  | str x => exact ⟨h, by simp [PyData.depth]⟩
  | list xs => exact h.elim
  | tuple xs => exact h.elim
  | dict xs => exact h.elim
theorem small_lay : ∀ {n : Nat} {d : PyData}, smallD n d → PyData.canLay0 d = true ∧ PyData.depth d ≤ n
  | 0, d, h => ⟨(scal_lay h).1, by rw [(scal_lay h).2]; exact Nat.le_refl _⟩
  | n + 1, d, h => by
    rcases h with h | ⟨ds, e, _, h⟩
    · exact ⟨(scal_lay h).1, by rw [(scal_lay h).2]; exact Nat.zero_le _⟩
    · have h1 := lay_all fun x hx => (small_lay (h x hx)).1
      have h2 := depth_all fun x hx => (small_lay (h x hx)).2
      rcases e with rfl | rfl
      · exact ⟨by simp only [PyData.canLay0]; exact h1, by simp only [PyData.depth]; omega⟩
      · exact ⟨by simp only [PyData.canLay0]; exact h1, by simp only [PyData.depth]; omega⟩
theorem small_shaped {n : Nat} {d : PyData} (h : smallD n d) (hn : n ≤ 64) : SeqAt.shaped d = true := by
  obtain ⟨h1, h2⟩ := small_lay h
  unfold SeqAt.shaped
  rw [h1, decide_eq_true (by omega)]
  rfl
theorem small_eqv {n : Nat} {d : PyData} (h : smallD n d) : PyData.eqv d d = true := SeqAt.eqv_refl d (small_lay h).1
theorem smallD.le {n m : Nat} {d : PyData} (h : smallD n d) (l : n ≤ m) : smallD m d := by
  induction m with
  | zero => have : n = 0 := by omega
            subst this; exact h
  | succ m ih =>
    by_cases c : n ≤ m
    · exact (ih c).up
    · have : n = m + 1 := by omega
      subst this; exact h
theorem small_l {n : Nat} {ds : List PyData} (hl : ds.length ≤ 100) (h : ∀ x ∈ ds, smallD n x) : smallD (n + 1) (.list ds) := .inr ⟨ds, .inl rfl, hl, h⟩
theorem small_t {n : Nat} {ds : List PyData} (hl : ds.length ≤ 100) (h : ∀ x ∈ ds, smallD n x) : smallD (n + 1) (.tuple ds) := .inr ⟨ds, .inr rfl, hl, h⟩
theorem small_ints {l : List Int} (h : l.length ≤ 100) : smallD 1 (.tuple (intsD l)) := small_t (by unfold intsD; rw [List.length_map]; exact h) fun x hx => by
  obtain ⟨i, _, rfl⟩ := List.mem_map.mp hx
  exact True.intro
/-! the parts, jack by jack -/
def unI : PyData → List Int | .tuple ds => ds.filterMap (fun d => match d with | .int i => some i | _ => none) | _ => []
theorem unI_ints (l : List Int) : unI (.tuple (intsD l)) = l := by
  show (l.map PyData.int).filterMap (fun d => match d with | .int i => some i | _ => none) = l
  rw [List.filterMap_map]
  induction l with
  | nil => rfl
  | cons a r ih => rw [List.filterMap_cons]; exact congrArg (a :: ·) ih
def selK (k : Int) : PyData → Option PyData := fun d => if k ∈ unI d then some d else none
theorem sel_pts {k : Int} : ∀ ps : List (List Int), (ptsD ps).filterMap (selK k) = ptsD (ps.filter fun p => decide (k ∈ p))
  | [] => rfl
  | p :: r => by
    have ih := sel_pts (k := k) r
    unfold ptsD at ih ⊢
    rw [List.map_cons, List.filterMap_cons, List.filter_cons]
    unfold selK at ih ⊢
    rw [unI_ints]
    by_cases c : k ∈ p
    · rw [if_pos c, decide_eq_true c, if_pos rfl, List.map_cons, ← ih]
    · rw [if_neg c, decide_eq_false c]
      exact ih
theorem Valid.which {n : Nat} {bs : List (Int × Int)} (v : Valid n bs) {k : Int} (h0 : 0 ≤ k) (h1 : k < (n : Nat)) : atI (ptsD ((partsI bs n).filter fun p => decide (k ∈ p))) 0 = some (.tuple (intsD (partI bs n k))) := by
  have hall : ∀ p ∈ (partsI bs n).filter (fun p => decide (k ∈ p)), p = partI bs n k := fun p hp => by
    obtain ⟨hp1, hp2⟩ := List.mem_filter.mp hp
    have hk := of_decide_eq_true hp2
    unfold partsI at hp1
    obtain ⟨h, hh, rfl⟩ := List.mem_map.mp hp1
    unfold headsI at hh
    have hr := rngI_mem.mp (List.mem_filter.mp hh).1
    have e := v.iff.mp ((v.part hr).mp hk)
    rw [v.partEq hr, v.partEq ⟨h0, h1⟩, e]
  have hex : partI bs n (mkI bs n k) ∈ (partsI bs n).filter (fun p => decide (k ∈ p)) := by
    have hm0 := v.nn n k h0
    have hm1 := marks_le (bs := bs) (k := k) n
    have hr : 0 ≤ mkI bs n k ∧ mkI bs n k < (n : Nat) := by unfold mkI; omega
    refine List.mem_filter.mpr ⟨?_, decide_eq_true ((v.part hr).mpr (v.iff.mpr (v.mkmk k)))⟩
    unfold partsI headsI
    exact List.mem_map_of_mem (List.mem_filter.mpr ⟨rngI_mem.mpr hr, decide_eq_true (v.mkmk k)⟩)
  generalize (partsI bs n).filter (fun p => decide (k ∈ p)) = l at hall hex
  cases l with
  | nil => simp at hex
  | cons p r =>
    have := hall p (by simp)
    subst this
    rw [atI_nn (by decide) (by unfold ptsD; rw [List.length_map, List.length_cons]; omega)]
    rfl
def gotD (n : Nat) (bs : List (Int × Int)) : PyData := .list [.tuple (ptsD (partsI bs n)), .list ((rngI n).map fun k => .tuple (intsD (nearI bs k))), .list ((rngI n).map fun k => .tuple (intsD (partI bs n k)))]
theorem partI_len {n : Nat} {bs : List (Int × Int)} (v : Valid n bs) {k : Int} (h : 0 ≤ k ∧ k < (n : Nat)) : (partI bs n k).length ≤ n := Nat.le_trans (normI_len _) (v.row h)
theorem partsI_len {n : Nat} {bs : List (Int × Int)} : (partsI bs n).length ≤ n := by
  unfold partsI headsI
  rw [List.length_map]
  have := List.length_filter_le (fun h => decide (mkI bs n h = h)) (rngI n)
  rw [rngI_len] at this
  exact this
theorem Valid.small_got {n : Nat} {bs : List (Int × Int)} (v : Valid n bs) : smallD 5 (gotD n bs) := by
  have h9 := v.nine
  have h12 := v.few
  refine smallD.le (n := 3) (small_l (show 3 ≤ 100 by decide) fun x hx => ?_) (by decide)
  have hx' : x = .tuple (ptsD (partsI bs n)) ∨ x = .list ((rngI n).map fun k => .tuple (intsD (nearI bs k))) ∨ x = .list ((rngI n).map fun k => .tuple (intsD (partI bs n k))) := by simpa using hx
  rcases hx' with rfl | rfl | rfl
  · refine small_t (by unfold ptsD; rw [List.length_map]; have := partsI_len (n := n) (bs := bs); omega) fun y hy => ?_
    obtain ⟨p, hp, rfl⟩ := List.mem_map.mp hy
    unfold partsI at hp
    obtain ⟨h, hh, rfl⟩ := List.mem_map.mp hp
    unfold headsI at hh
    have := partI_len v (rngI_mem.mp (List.mem_filter.mp hh).1)
    exact small_ints (by omega)
  · refine small_l (by rw [List.length_map, rngI_len]; omega) fun y hy => ?_
    obtain ⟨k, hk, rfl⟩ := List.mem_map.mp hy
    have h1 := normI_len (others bs k)
    have h2 := others_len (bs := bs) (k := k)
    exact small_ints (by unfold nearI; omega)
  · refine small_l (by rw [List.length_map, rngI_len]; omega) fun y hy => ?_
    obtain ⟨k, hk, rfl⟩ := List.mem_map.mp hy
    have := partI_len v (rngI_mem.mp hk)
    exact small_ints (by omega)
/-! rules for what falls through, for drawn arguments -/
section
variable {K : PySem.W.Frag} {σ : L2.St} {t : Addr} {k k1 k2 : Nat} {G : Hp} {te : TE} {ts : TA} {p : PyData → Prop}
theorem seq_assoc (a b c : TS) : tSeq (tSeq a b) c = tSeq a (tSeq b c) := rfl
theorem rx_ifX {c : TT} {u rest : TS} (hc : ∀ m H, m + k1 ≤ maxM → DSt t m G H → ∀ Q : Bool → Hp → Prop, (∀ b G' H', Dr t G H G' H' → DSt t (m + k1) G' H' → Q b H') → c σ H Q) (h1 : ∀ G', Same G G' → RetX t k2 (tSeq u rest) σ G' p) (h2 : ∀ G', Same G G' → RetX t k2 rest σ G' p) :
    RetX t (k1 + k2) (tSeq (tIfS c u tNext) rest) σ G p := fun m H hm dH D hq =>
  hc m H (by omega) dH _ fun b G1 H1 a1 d1 => by
    cases b with
    | true => exact ite2 (fun _ => h1 G1 a1.g (m + k1) H1 (by omega) d1 D fun d v G2 H2 hd a2 d2 hw => hq d v G2 H2 hd (a1.trans d1 a2) (d2.up (by omega)) hw) (fun c => absurd rfl c)
    | false => exact ite2 (fun c => nomatch c) (fun _ => h2 G1 a1.g (m + k1) H1 (by omega) d1 D fun d v G2 H2 hd a2 d2 hw => hq d v G2 H2 hd (a1.trans d1 a2) (d2.up (by omega)) hw)
theorem ebx {te : TE} {q : PyData → Prop} (h : EvX t k te σ G q) (hq : ∀ d, q d → ∃ b, d = .bool b) : ∀ m H, m + k ≤ maxM → DSt t m G H → ∀ Q : Bool → Hp → Prop, (∀ b G' H', Dr t G H G' H' → DSt t (m + k) G' H' → Q b H') → tTest te σ H Q := fun m H hm dH Q q' =>
  h m H hm dH _ fun d v G1 H1 hd a1 d1 hv => by
    obtain ⟨b, rfl⟩ := hq d hd
    exact ⟨b, hv.of_bool, q' b G1 H1 a1 d1⟩
theorem ex_callX {pre : List PyData → Prop} {post : List PyData → PyData → Prop} {E : XK} {i : Nat} {q : List PyData → Prop} (hi : σ[i]? = some (some (.ref t))) (h : EvXA t k1 ts σ G q) (ho : ∀ ds, q ds → pre ds) : EvX t (k1 + k) (tCall (spDr k pre post) [] E (tCons (tVar i) ts)) σ G (fun d => ∃ ds, q ds ∧ post ds d) := fun m H hm dH Q hq => by
  refine ⟨.ref t, hi, ?_⟩
  refine h m H (by omega) dH _ fun ds vs G1 H1 hd a1 d1 hvs => ?_
  exact ⟨t, m + k1, G1, vs, ds, by rw [List.append_nil], by omega, d1, hvs, ho ds hd, fun d v G2 H2 hp a2 d2 hv => hq d v G2 H2 ⟨ds, hd, hp⟩ (a1.trans d1 a2) (d2.up (by omega)) hv⟩
theorem ex_un {f : V → Hp → VK → Prop} {z : PyData → PyData} (ha : EvX t k te σ G p) (hr : ∀ x, p x → RuD f x (z x)) : EvX t k (tUn f te) σ G (fun d => ∃ x, p x ∧ d = z x) := fun m H hm dH Q hq =>
  ha m H hm dH _ fun x v G1 H1 hx a1 d1 hv => (hr x hx) G1 H1 v d1.s hv Q fun u G3 H3 a3 hu => hq (z x) u G3 H3 ⟨x, hx, rfl⟩ (a1.trans d1 a3.dr) (a3.dst d1) hu
theorem rd_rep2 {ds : List PyData} (hl : ds.length ≤ 1000) : RvD rTimes (.list ds) (.int 2) (.list (ds ++ ds)) := rd_r fun G H v w s hv hw Q q => by
  obtain ⟨a, xs, rfl, ea, hx⟩ := hv.of_list
  refine ⟨a, 2, xs, rfl, hw.of_int, s _ _ ea, by decide, by decide, sz_of ?_, fun p hp => ?_⟩
  · have e : (2 : Int).toNat = 2 := rfl
    rw [hx.1, e]
    omega
  · have e : (List.replicate (2 : Int).toNat xs).flatten = xs ++ xs := by
      show ([xs, xs] : List (List V)).flatten = _
      simp
    rw [e]
    exact q _ (upd G p _) _ (Gro.new s hp) (Da.mk_l upd_same ((hx.append hx).mono (same_upd (s.free hp))))
end
section
variable {P : Program} {w : World} {K : PySem.W.Frag} {mg : Str → Option Value} {base : Heap} {σ : L2.St} {G : Hp}
/-- [f(k) for k in range(n)] -/
theorem ed_rng {te tn : TE} {j n : Nat} {f : Int → PyData} (h0 : EvD tn σ G (.int (n : Nat))) (hn : n ≤ 1000) (hw : ∀ v, wipe ((wipe σ [j]).set j (some v)) [j] = wipe σ [j]) (hb : ∀ k : Int, 0 ≤ k → k < (n : Nat) → ∀ v G', Same G G' → Da G' v (.int k) → EvD te ((wipe σ [j]).set j (some v)) G' (f k)) :
    EvD (tLc (iRng1 (tCons tn tNil)) (gName j) tYes te [j]) σ G (.list ((rngI n).map f)) := by
  refine ed_is (ed_lcM (fun d => match d with | .int k => f k | d => d) (sd_rng1 (n := (n : Nat)) (ea_cons h0 ea_nil) (by omega) (by omega)) (by rw [upto_len]; omega) fun d hd v' G' s' hv' => ?_) ?_
  · rw [show ((n : Nat) : Int).toNat = n by omega, upto_rng] at hd
    obtain ⟨k, hk, rfl⟩ := List.mem_map.mp hd
    have hk' := rngI_mem.mp hk
    refine bd_name (b := true) (hw v') eb_yes rfl fun e he => ?_
    cases he
    exact hb k hk'.1 hk'.2 v' G' s' hv'
  · rw [show ((n : Nat) : Int).toNat = n by omega, upto_rng]
    unfold intsD
    rw [List.map_map]
    rfl
theorem okT_frame {n : Nat} {bs : List (Int × Int)} (v : Valid n bs) : okT (encF n bs) := by
  have h9 := v.nine
  have h12 := v.few
  exact okT_pair (fun m e => by cases e; omega) fun es e => by cases e; rw [List.length_map]; omega
def ok_none : List PyData → Prop := fun ds => ds = []
def post_true : List PyData → PyData → Prop := fun _ d => d = .bool true
end
end K3

set_option Elab.async false
set_option linter.all false
set_option maxRecDepth 100000
set_option maxHeartbeats 8000000
/-! Walks: right (t_rest printed by gen_rest.py). -/
namespace K3
open PySem PySem.Spec PyProof.Rows L2
def t_rest (K : PySem.W.Frag) (S_same : Sp) (S_lists : Sp) (S_parts_so : Sp) (S_p_part_of : Sp) (S_p_neighbours : Sp) (S_p_parts : Sp) (S_next_to : Sp) (S_of : Sp) (S_take : Sp) (S_heard : Sp) (S_bent : Sp) (S_is_frame_so : Sp) (S_p_is_frame : Sp) : TS :=
    (tSeq (tAsg (tTup (tCons (tCall S_lists [] E0 (tCons (tVar 1) tNil)) (tCons (tCall S_parts_so [] E0 (tCons (tVar 1) tNil)) tNil))) (gTup K 2 (gCons (gName 4) (gCons (gName 5) gNil))))
    (tSeq (tAsg (tLst (tCons (tCall S_p_parts [] E0 (tCons (tVar 4) tNil)) (tCons (tLc (iRng1 (tCons (tOp (rIx K) (tVar 1) (tC (.int 0))) tNil)) (gName 10) tYes (tCall S_p_neighbours [] E0 (tCons (tVar 1) (tCons (tVar 10) tNil))) [10]) (tCons (tLc (iRng1 (tCons (tOp (rIx K) (tVar 1) (tC (.int 0))) tNil)) (gName 10) tYes (tCall S_p_part_of [] E0 (tCons (tVar 4) (tCons (tVar 10) tNil))) [10]) tNil)))) (gName 6))
    (tSeq (tAsg (tLst (tCons (tVar 5) (tCons (tLc (iRng1 (tCons (tOp (rIx K) (tVar 1) (tC (.int 0))) tNil)) (gName 10) tYes (tCB (rTupOf K) (tCons (tCall S_next_to [] E0 (tCons (tVar 1) (tCons (tVar 10) tNil))) tNil)) [10]) (tCons (tLc (iRng1 (tCons (tOp (rIx K) (tVar 1) (tC (.int 0))) tNil)) (gName 10) tYes (tOp (rIx K) (tLc (iSeq K (tVar 5)) (gName 11) (tTest (tOp (rIn K false) (tVar 10) (tVar 11))) (tVar 11) [11]) (tC (.int 0))) [10]) tNil)))) (gName 7))
    (tSeq (tIfS (tNot (tB (tCall S_same [] E0 (tCons (tVar 6) (tCons (tVar 7) tNil))))) (tRet (tC (.bl false))) tNext)
    (tSeq (tAsg (tCall S_of [] E0 (tCons (tVar 0) (tCons (tLst (tCons (tUn (rU fun i => .int (-i)) (tC (.int 1))) (tCons (tOp (rIx K) (tVar 1) (tC (.int 0))) (tCons (tOp (rPlus K) (tOp (rPlus K) (tOp (rIx K) (tVar 1) (tC (.int 0))) (tC (.int 1))) (tCall S_take [] E0 (tCons (tVar 0) (tCons (tC (.int 90)) tNil)))) (tCons (tOp (rI0 fun i j => .int (i - j)) (tUn (rU fun i => .int (-i)) (tC (.int 2))) (tCall S_take [] E0 (tCons (tVar 0) (tCons (tC (.int 90)) tNil)))) tNil))))) tNil))) (gName 8))
    (tSeq (tIfS (tNot (tB (tCall S_same [] E0 (tCons (tLst (tCons (tCall S_heard [] E0 (tCons (tC (.int 0)) (tCons (tVar 1) (tCons (tVar 8) tNil)))) (tCons (tCall S_heard [] E0 (tCons (tC (.int 1)) (tCons (tVar 4) (tCons (tVar 8) tNil)))) tNil))) (tCons (tOp rTimes (tLst (tCons (tLst (tCons (tC (.str "no jack")) (tCons (tVar 8) (tCons (tC (.bl true)) tNil)))) tNil)) (tC (.int 2))) tNil))))) (tRet (tC (.bl false))) tNext)
    (tSeq (tAsg (tOp (rPlus K) (tLst (tCons (tVar 1) (tCons (tVar 4) tNil))) (tCall S_bent [] E0 (tCons (tVar 0) (tCons (tVar 1) tNil)))) (gName 9))
    (tSeq (tPar 6 7 (tCons (tLc (iSeq K (tVar 9)) (gName 11) tYes (tCall S_p_is_frame [] E0 (tCons (tVar 11) tNil)) [11]) (tCons (tLc (iSeq K (tVar 9)) (gName 11) tYes (tCall S_is_frame_so [] E0 (tCons (tVar 11) tNil)) [11]) tNil)))
    (tRet (tAndV (tCall S_same [] E0 (tCons (tVar 6) (tCons (tVar 7) tNil))) (tOp (rEqX K) (tVar 4) (tCall S_lists [] E0 (tCons (tVar 1) tNil)))))))))))))
section
variable {P : Program} {w : World} {K : PySem.W.Frag} {mg : Str → Option Value} {base : Heap}
theorem right_rest {t : Addr} {n : Nat} {bs : List (Int × Int)} {v1 : V} {o2 o3 : Option V} {G : Hp} (hV : Valid n bs) (h1 : Da G v1 (encF n bs)) :
    RetX t 60 (t_rest K (spF (pre_same 5)) (spF (pre_lst 3)) (spF pre_partsin) (spF pre_partof) (spF pre_nbs) (spF pre_parts) (spF pre_next) (spDr 1 ok_of post_of) (spDr 1 ok_take post_take) (spF pre_heard) (spDr 40 ok_bent post_bent) (spF pre_isFrSo) (spF pre_isFr))
      [some (.ref t), some v1, o2, o3, none, none, none, none, none, none, none, none, none, none] G (fun d => d = .bool true) := by
  have h9 := hV.nine
  have h12 := hV.few
  have hn2 := hV.two
  have smF : smallD 3 (encF n bs) := small_frame (by omega)
  have smL : smallD 3 (encL n bs) := small_frameL (by omega)
  refine rx_imp (k := 60) ?_ (Nat.le_refl _) fun d h => h
  -- soft, parts_so_here
  refine rx_unp (x := encL n bs) (y := .tuple (ptsD (partsI bs n))) (ed_tup (ea_cons (ed_call (ea_cons (ed_var (i := 1) rfl h1) ea_nil) ⟨_, rfl, smF, lst_frame.symm⟩) (ea_cons (ed_call (ea_cons (ed_var (i := 1) rfl h1) ea_nil) ⟨n, bs, rfl, hV, rfl⟩) ea_nil)) (show 2 ≤ 100000 by decide)) fun v4 v5 G1 s1 h4 h5 => ?_
  have h1a := h1.mono s1
  -- got
  refine rx_setD (x := gotD n bs) (ed_lst (ea_cons (ed_call (ea_cons (ed_var (i := 4) rfl h4) ea_nil) ⟨_, n, bs, rfl, .inr rfl, hV, rfl⟩) (ea_cons (ed_rng (ed_op (ed_var (i := 1) rfl h1a) ed_int (rd_xT at0)) (by omega) (fun v => rfl) fun k k0 k1 v' G' s' hv' => ?_)
    (ea_cons (ed_rng (ed_op (ed_var (i := 1) rfl h1a) ed_int (rd_xT at0)) (by omega) (fun v => rfl) fun k k0 k1 v' G' s' hv' => ?_) ea_nil))) (show 3 ≤ 100000 by decide)) fun v6 G2 s2 h6 => ?_
  · exact ed_call (ea_cons (ed_var (i := 1) rfl (h1a.mono s')) (ea_cons (ed_var (i := 10) rfl hv') ea_nil)) ⟨_, n, bs, k, rfl, .inl rfl, hV, k0, k1, rfl⟩
  · exact ed_call (ea_cons (ed_var (i := 4) rfl (h4.mono s')) (ea_cons (ed_var (i := 10) rfl hv') ea_nil)) ⟨_, n, bs, k, rfl, .inr rfl, hV, k0, k1, rfl⟩
  have h1b := h1a.mono s2
  have h4b := h4.mono s2
  have h5b := h5.mono s2
  -- due
  refine rx_setD (x := gotD n bs) (ed_lst (ea_cons (ed_var (i := 5) rfl h5b) (ea_cons (ed_rng (ed_op (ed_var (i := 1) rfl h1b) ed_int (rd_xT at0)) (by omega) (fun v => rfl) fun k k0 k1 v' G' s' hv' => ?_)
    (ea_cons (ed_rng (ed_op (ed_var (i := 1) rfl h1b) ed_int (rd_xT at0)) (by omega) (fun v => rfl) fun k k0 k1 v' G' s' hv' => ?_) ea_nil))) (show 3 ≤ 100000 by decide)) fun v7 G3 s3 h7 => ?_
  · exact ed_cb (ea_cons (ed_call (ea_cons (ed_var (i := 1) rfl (h1b.mono s')) (ea_cons (ed_var (i := 10) rfl hv') ea_nil)) ⟨n, bs, k, rfl, hV, rfl⟩) ea_nil) rd_tupL
  · refine ed_op (ed_is (ed_lc (selK k) (so_T (ed_var (i := 5) rfl (h5b.mono s'))) (by unfold ptsD; rw [List.length_map]; have := partsI_len (n := n) (bs := bs); omega) fun d hd v2 G'' s'' hv2 => ?_) (congrArg PyData.list (sel_pts _))) ed_int (rd_xL (hV.which k0 k1))
    obtain ⟨p, hp, rfl⟩ := List.mem_map.mp hd
    refine bd_name (b := decide (k ∈ p)) rfl (eb_is (eb_test (ed_op (ed_var (i := 10) rfl (hv'.mono s'')) (ed_var (i := 11) rfl hv2) rd_inT)) (by simp)) ?_ fun e he => ?_
    · unfold selK
      rw [unI_ints]
      by_cases c : k ∈ p <;> simp [c]
    · unfold selK at he
      rw [unI_ints] at he
      by_cases c : k ∈ p
      · rw [if_pos c] at he; cases he; exact ed_var (i := 11) rfl hv2
      · rw [if_neg c] at he; cases he
  have h1c := h1b.mono s3
  have h4c := h4b.mono s3
  have h6c := h6.mono s3
  refine rx_if (b := !true) (eb_not (eb_B (ed_call (ea_cons (ed_var (i := 6) rfl h6c) (ea_cons (ed_var (i := 7) rfl h7) ea_nil)) ⟨gotD n bs, rfl, hV.small_got, rfl⟩))) (fun c => nomatch c) fun _ => ?_
  -- a jack that is not there
  refine rx_imp (k := 3 + 57) (rx_set (k1 := 3) (q := fun d => ∃ f : Int, d = .int f ∧ ¬ (0 ≤ f ∧ f < (n : Nat))) (ex_imp (ex_callX (i := 0) rfl (exa_cons (ex_lst (exa_cons (ex_of (ed_un ed_int rd_neg)) (exa_cons (ex_of (ed_op (ed_var (i := 1) rfl h1c) ed_int (rd_xT at0))) (exa_cons (ex_op (z := addD) (ex_of (ed_op (ed_op (ed_var (i := 1) rfl h1c) ed_int (rd_xT at0)) ed_int rd_plusI)) (ex_call (i := 0) rfl (ea_cons ed_int ea_nil) ⟨_, rfl, by decide, by decide⟩) fun x y hx hy => ?_)
      (exa_cons (ex_op (z := fun x y => match x, y with | .int i, .int j => .int (i - j) | _, _ => .none) (ex_of (ed_un ed_int rd_neg)) (ex_call (i := 0) rfl (ea_cons ed_int ea_nil) ⟨_, rfl, by decide, by decide⟩) fun x y hx hy => ?_) exa_nil)))) fun ds hds => ?_) exa_nil) fun ds hds => ?_) (by decide) fun d hd => ?_) fun d v8 G4 hd s4 h8 => ?_) (by decide) fun d h => h
  · subst hx
    obtain ⟨_, r, _, rfl, _⟩ := hy
    exact rd_plusI
  · subst hx
    obtain ⟨_, r, _, rfl, _⟩ := hy
    exact rd_sub
  · obtain ⟨d1, l1, rfl, _, d2, l2, rfl, _, d3, l3, rfl, _, d4, l4, rfl, _, rfl⟩ := hds
    exact (show 4 ≤ 100000 by decide)
  · obtain ⟨d0, l0, rfl, ⟨gs, ⟨d1, l1, rfl, _, d2, l2, rfl, _, d3, l3, rfl, _, d4, l4, rfl, _, rfl⟩, rfl⟩, rfl⟩ := hds
    exact ⟨_, rfl, (show 1 ≤ 4 by decide), (show 4 ≤ 100 by decide)⟩
  · obtain ⟨ds, ⟨d0, l0, rfl, ⟨gs, ⟨d1, l1, rfl, rfl, d2, l2, rfl, rfl, d3, l3, rfl, ⟨x3, y3, rfl, ⟨n3, r3, e3, rfl, r30, r31⟩, rfl⟩, d4, l4, rfl, ⟨x4, y4, rfl, ⟨n4, r4, e4, rfl, r40, r41⟩, rfl⟩, rfl⟩, rfl⟩, rfl⟩, gs', e, hm⟩ := hd
    cases e
    cases e3
    cases e4
    have hm' : d = .int (-1) ∨ d = .int (n : Nat) ∨ d = .int ((n : Nat) + 1 + r3) ∨ d = .int (-2 - r4) := by simpa [addD] using hm
    rcases hm' with rfl | rfl | rfl | rfl
    · exact ⟨_, rfl, by omega⟩
    · exact ⟨_, rfl, by omega⟩
    · exact ⟨_, rfl, by omega⟩
    · exact ⟨_, rfl, by omega⟩
  obtain ⟨far, rfl, hfar⟩ := hd
  have h1d := h1c.mono s4
  have h4d := h4c.mono s4
  have hstr : scalD (.str "no jack") := by show PyData.canLay0 (.str "no jack") = true; decide +kernel
  refine rx_if (b := !true) (eb_not (eb_B (ed_call (d := .bool true) (ea_cons (ed_lst (ea_cons (ed_call (ea_cons ed_int (ea_cons (ed_var (i := 1) rfl h1d) (ea_cons (ed_var (i := 8) rfl h8) ea_nil))) ⟨0, _, n, bs, far, rfl, .inl rfl, .inl rfl, hV, hfar, rfl⟩) (ea_cons (ed_call (ea_cons ed_int (ea_cons (ed_var (i := 4) rfl h4d) (ea_cons (ed_var (i := 8) rfl h8) ea_nil))) ⟨1, _, n, bs, far, rfl, .inr rfl, .inr rfl, hV, hfar, rfl⟩) ea_nil)) (show 2 ≤ 100000 by decide))
    (ea_cons (ed_op (ed_lst (ea_cons (ed_lst (ea_cons ed_str (ea_cons (ed_var (i := 8) rfl h8) (ea_cons ed_bl ea_nil))) (show 3 ≤ 100000 by decide)) ea_nil) (show 1 ≤ 100000 by decide)) ed_int (rd_rep2 (show 1 ≤ 1000 by decide))) ea_nil)) ⟨.list [heardD far, heardD far], rfl, smallD.le (n := 2) (small_l (show 2 ≤ 100 by decide) fun x hx => ?_) (by decide), rfl⟩))) (fun c => nomatch c) fun _ => ?_
  · have hx' : x = heardD far := by simpa using hx
    subst hx'
    refine small_l (show 3 ≤ 100 by decide) fun y hy => ?_
    have hy' : y = .str "no jack" ∨ y = .int far ∨ y = .bool true := by simpa using hy
    rcases hy' with rfl | rfl | rfl
    · exact hstr
    · exact True.intro
    · exact True.intro
  -- the things
  refine rx_imp (k := 40 + 17) (rx_set (k1 := 40) (q := fun d => ∃ ts : List PyData, d = .list ts ∧ ts.length ≤ 42 ∧ ∀ x ∈ ts, okT x) (ex_imp (ex_op (z := fun x y => match x, y with | .list a, .list b => .list (a ++ b) | x, _ => x) (ex_of (ed_lst (ea_cons (ed_var (i := 1) rfl h1d) (ea_cons (ed_var (i := 4) rfl h4d) ea_nil)) (show 2 ≤ 100000 by decide))) (ex_call (i := 0) rfl (ea_cons (ed_var (i := 1) rfl h1d) ea_nil) ⟨n, bs, rfl, hV⟩) fun x y hx hy => ?_) (by decide) fun d hd => ?_) fun d v9 G5 hd s5 h9' => ?_) (by decide) fun d h => h
  · subst hx
    obtain ⟨ts, rfl, hl, _⟩ := hy
    exact rd_plusL (by simp only [List.length_cons, List.length_nil]; omega)
  · obtain ⟨x, y, rfl, ⟨ts, rfl, hl, ho⟩, rfl⟩ := hd
    refine ⟨_, rfl, by simp only [List.length_append, List.length_cons, List.length_nil]; omega, fun x hx => ?_⟩
    have hx' : x = encF n bs ∨ x = encL n bs ∨ x ∈ ts := by simpa using hx
    rcases hx' with rfl | rfl | h
    · exact okT_frame hV
    · exact okT_no rfl fun y z => PyData.noConfusion
    · exact ho x h
  obtain ⟨ts, rfl, hl, ho⟩ := hd
  have h1e := h1d.mono s5
  have h4e := h4d.mono s5
  refine rx_imp (k := 0 + 0) (rx_par (k1 := 0) (q := fun l => l = [.list (ts.map fun x => .bool (isFr x)), .list (ts.map fun x => .bool (isFr x))]) (exa_of (ea_cons (ed_lcM (fun x => .bool (isFr x)) (so_L (ed_var (i := 9) rfl h9')) (by omega) fun d hd v' G' s' hv' => ?_) (ea_cons (ed_lcM (fun x => .bool (isFr x)) (so_L (ed_var (i := 9) rfl h9')) (by omega) fun d hd v' G' s' hv' => ?_) ea_nil))) (fun ds h => ⟨_, _, h⟩) fun x y va vb G6 h s6 hva hvb => ?_) (by decide) fun d h => h
  · refine bd_name (b := true) rfl eb_yes rfl fun e he => ?_
    cases he
    exact ed_call (ea_cons (ed_var (i := 11) rfl hv') ea_nil) ⟨d, rfl, (ho d hd).1, rfl⟩
  · refine bd_name (b := true) rfl eb_yes rfl fun e he => ?_
    cases he
    exact ed_call (ea_cons (ed_var (i := 11) rfl hv') ea_nil) ⟨d, rfl, (ho d hd).1, (ho d hd).2, rfl⟩
  injection h with e1 h
  injection h with e2 _
  subst e1 e2
  have smB : smallD 5 (.list (ts.map fun x => .bool (isFr x))) := smallD.le (n := 1) (small_l (by rw [List.length_map]; omega) fun x hx => by
    obtain ⟨y, _, rfl⟩ := List.mem_map.mp hx
    exact True.intro) (by decide)
  refine rx_ret (ex_imp (ex_of (ed_andV (a := true) (ed_call (ea_cons (ed_var (i := 6) rfl hva) (ea_cons (ed_var (i := 7) rfl hvb) ea_nil)) ⟨_, rfl, smB, rfl⟩) fun _ => ed_op (ed_var (i := 4) rfl (h4e.mono s6)) (ed_call (ea_cons (ed_var (i := 1) rfl (h1e.mono s6)) ea_nil) ⟨_, rfl, smF, lst_frame.symm⟩) (rd_eqS (small_shaped smL (by decide)) (small_shaped smL (by decide))))) (Nat.le_refl _) fun d hd => ?_)
  rw [hd, small_eqv smL]
  rfl
end
end K3

set_option Elab.async false
set_option linter.all false
set_option maxRecDepth 100000
set_option maxHeartbeats 8000000
/-! Walks: right. -/
namespace K3
open PySem PySem.Spec PyProof.Rows L2
section
variable {P : Program} {w : World} {K : PySem.W.Frag} {mg : Str → Option Value} {base : Heap}
theorem w_right (B : Bt mg) (F1 : FnE P w K mg base CX0 2 "_law_frame" ["_law_tin", "_law_most_so"] (spDr 40 ok_frame post_frame)) (F2 : FnE P w K mg base CX0 1 "_law_take" ["_law_tin", "_law_below_so"] (spDr 1 ok_take post_take)) (F3 : FnE P w K mg base CX0 6 "_law_same" ["_law_got", "_law_due"] (spF (pre_same 5)))
    (F4 : FnE P w K mg base CX0 7 "put_apart" ["one", "other"] (spF pre_put)) (F5 : FnE P w K mg base CX0 4 "_law_lists" ["_law_matter"] (spF (pre_lst 3))) (F6 : FnE P w K mg base CX0 2 "_law_parts_so" ["_law_frame_so"] (spF pre_partsin)) (F7 : FnE P w K mg base CX0 7 "part_of" ["frame", "jack"] (spF pre_partof))
    (F8 : FnE P w K mg base CX0 7 "neighbours" ["frame", "jack"] (spF pre_nbs)) (F9 : FnE P w K mg base CX0 7 "parts" ["frame"] (spF pre_parts)) (F10 : FnE P w K mg base CX0 1 "_law_next_to" ["_law_frame_so", "_law_k"] (spF pre_next)) (F11 : FnE P w K mg base CX0 2 "_law_of" ["_law_tin", "_law_goods_so"] (spDr 1 ok_of post_of))
    (F12 : FnE P w K mg base CX0 8 "_law_heard" ["_law_door_so", "_law_frame_so", "_law_k"] (spF pre_heard)) (F13 : FnE P w K mg base CX0 3 "_law_bent" ["_law_tin", "_law_frame_so"] (spDr 40 ok_bent post_bent)) (F14 : FnE P w K mg base CX0 4 "_law_is_frame_so" ["_law_own"] (spF pre_isFrSo)) (F15 : FnE P w K mg base CX0 5 "is_frame" ["thing"] (spF pre_isFr))
    (D : Def K mg "_law_right" s_right) : FnE P w K mg base CX0 9 "_law_right" ["_law_tin"] (spDr 150 ok_none post_true) := by
  refine D.draw b_right sc_right (fun ds e => by rw [e]; rfl) fun f cdv A outer s H E t G vs ds hr hv hp => ⟨_, x_right B hr (Nat.le_refl _) F1 (by decide) F2 (by decide) F3 (by decide) F4 (by decide) F5 (by decide) F6 (by decide) F7 (by decide) F8 (by decide) F9 (by decide) F10 (by decide) F11 (by decide) F12 (by decide) F13 (by decide) F14 (by decide) F15 (by decide), ?_⟩
  have ed : ds = [] := hp
  subst ed
  have ev : vs = [] := List.eq_nil_of_length_eq_zero hv.1
  subst ev
  refine rx_imp (k := 40 + (1 + 100)) (rx_set (k1 := 40) (ex_call (i := 0) rfl (ea_cons ed_int ea_nil) ⟨_, rfl, by decide, by decide⟩) fun d v1 G1 hd s1 h1 => ?_) (by decide) fun d h => h
  obtain ⟨z, n, bs, ez, rfl, hV, hnz, hbl⟩ := hd
  cases ez
  have hn6 : n ≤ 6 := by omega
  refine rx_ifX (k1 := 1) (k2 := 100) (ebx (ex_op (z := fun x y => match x, y with | .int i, .int j => .bool (decide (i = j)) | _, _ => .none) (ex_call (i := 0) rfl (ea_cons ed_int ea_nil) ⟨_, rfl, by decide, by decide⟩) (ex_of ed_int) fun x y hx hy => ?_) fun d hd => ?_) (fun G2 s2 => ?_) fun G2 s2 => rx_imp (right_rest hV (h1.mono s2)) (by decide) fun d h => h
  · obtain ⟨_, r, _, rfl, _⟩ := hx
    subst hy
    exact rd_eqI1
  · obtain ⟨x, y, ⟨_, r, _, rfl, _⟩, rfl, rfl⟩ := hd
    exact ⟨_, rfl⟩
  have h1a := h1.mono s2
  rw [seq_assoc, seq_assoc, seq_assoc]
  refine rx_imp (k := 40 + 60) (rx_set (k1 := 40) (ex_call (i := 0) rfl (ea_cons ed_int ea_nil) ⟨_, rfl, by decide, by decide⟩) fun d v2 G3 hd s3 h2 => ?_) (by decide) fun d h => h
  obtain ⟨z, m, cs, ez, rfl, hW, hmz, hcl⟩ := hd
  cases ez
  have hm3 : m ≤ 3 := by omega
  have h1b := h1a.mono s3
  have hVW : Valid (n + m) (bs ++ cs.map (shift n)) := hV.apart hW (by omega) (by omega)
  refine rx_setD (x := encF (n + m) (bs ++ cs.map (shift n))) (ed_is (ed_tup (ea_cons (ed_op (ed_op (ed_var (i := 1) rfl h1b) ed_int (rd_xT at0)) (ed_op (ed_var (i := 2) rfl h2) ed_int (rd_xT at0)) rd_plusI) (ea_cons (ed_op (ed_op (ed_var (i := 1) rfl h1b) ed_int (rd_xT at1)) (ed_cb (ea_cons (ed_lcM (shiftD n) (so_T (ed_op (ed_var (i := 2) rfl h2) ed_int (rd_xT at1))) (by rw [List.length_map]; omega) fun d hd v' G' s' hv' => ?_) ea_nil) rd_tupL) (rd_plusT ?_)) ea_nil)) (show 2 ≤ 100000 by decide)) ?_) fun v3 G4 s4 h3 => ?_
  · obtain ⟨b, hb, rfl⟩ := List.mem_map.mp hd
    refine bd_pair (b := true) hv' fun u t' hu ht => ⟨rfl, true, rfl, eb_yes, fun e he => ?_⟩
    cases he
    have h1' := h1b.mono s'
    exact ed_is (ed_tup (ea_cons (ed_op (ed_var (i := 12) rfl hu) (ed_op (ed_var (i := 1) rfl h1') ed_int (rd_xT at0)) rd_plusI) (ea_cons (ed_op (ed_var (i := 13) rfl ht) (ed_op (ed_var (i := 1) rfl h1') ed_int (rd_xT at0)) rd_plusI) ea_nil)) (show 2 ≤ 100000 by decide)) (by
      unfold shiftD shift
      rw [toP_enc]
      unfold encI
      rw [Int.add_comm b.1, Int.add_comm b.2])
  · rw [List.length_map, List.length_map, List.length_map]; omega
  · unfold encF
    rw [List.map_append, List.map_map, List.map_map]
    congr 1
  have h1c := h1b.mono s4
  have h2c := h2.mono s4
  have small : ∀ {n : Nat} {bs : List (Int × Int)}, Valid n bs → smallD 3 (encF n bs) := fun v => small_frame (by have := v.few; omega)
  have s3' : smallD 5 (.list [encF (n + m) (bs ++ cs.map (shift n)), encF (n + m) (bs ++ cs.map (shift n))]) := smallD.le (n := 4) (small_l (show 2 ≤ 100 by decide) fun x hx => by
    have hx' : x = encF (n + m) (bs ++ cs.map (shift n)) := by simpa using hx
    subst hx'
    exact small hVW) (by decide)
  refine rx_if (b := !true) (eb_not (eb_B (ed_call (d := .bool true) (ea_cons (ed_lst (ea_cons (ed_call (ea_cons (ed_var (i := 1) rfl h1c) (ea_cons (ed_var (i := 2) rfl h2c) ea_nil)) ⟨_, _, n, m, bs, cs, rfl, .inl rfl, hV, .inl rfl, hW, rfl⟩)
    (ea_cons (ed_call (ea_cons (ed_call (ea_cons (ed_var (i := 1) rfl h1c) ea_nil) ⟨_, rfl, small hV, lst_frame.symm⟩) (ea_cons (ed_call (ea_cons (ed_var (i := 2) rfl h2c) ea_nil) ⟨_, rfl, small hW, lst_frame.symm⟩) ea_nil)) ⟨_, _, n, m, bs, cs, rfl, .inr rfl, hV, .inr rfl, hW, rfl⟩) ea_nil)) (show 2 ≤ 100000 by decide))
    (ea_cons (ed_lst (ea_cons (ed_var (i := 3) rfl h3) (ea_cons (ed_var (i := 3) rfl h3) ea_nil)) (show 2 ≤ 100000 by decide)) ea_nil)) ⟨_, rfl, s3', rfl⟩))) (fun c => nomatch c) fun _ => ?_
  exact rx_setD (ed_var (i := 3) rfl h3) fun v5 G5 s5 h5 => right_rest hVW h5
end
end K3

set_option Elab.async false
set_option linter.all false
set_option maxRecDepth 100000
set_option maxHeartbeats 8000000
/-! Walks: by_hand_right. -/
namespace K3
open PySem PySem.Spec PyProof.Rows L2
theorem seq_drop {te : TE} {u : TS} {D : Ends} {σ : L2.St} {H : Hp} (h : te σ H fun _ H1 => u D σ H1) : tSeq (tDrop te) u D σ H := h
abbrev bend : List (Int × Int) := [(0, 2), (0, 3), (1, 3)]
abbrev prs : List (Int × Int) := [(0, 2), (1, 3)]
theorem v_bend : Valid 4 bend := ⟨by decide, by decide, by decide, by decide, by decide +kernel, by decide +kernel⟩
theorem v_prs : Valid 4 prs := ⟨by decide, by decide, by decide, by decide, by decide +kernel, by decide +kernel⟩
theorem v_two : Valid 2 [(0, 1)] := ⟨by decide, by decide, by decide, by decide, by decide +kernel, by decide +kernel⟩
theorem p_bend : partsI bend 4 = [[0, 1, 2, 3]] := by decide +kernel
theorem p_prs : partsI prs 4 = [[0, 2], [1, 3]] := by decide +kernel
theorem p_three : partI prs 4 3 = [1, 3] := by decide +kernel
theorem n_three : nearI bend 3 = [0, 1] := by decide +kernel
abbrev odd : List PyData := [encF 4 bend, .tuple [.int 2, .tuple [.tuple [.int 1, .int 0]]], .tuple [.int 3, .tuple [.tuple [.int 0, .int 1]]], .tuple [.int 2, .tuple [.tuple [.int 0, .int 1], .tuple [.int 0, .int 1]]], .tuple [.int 2, .tuple [.tuple [.int 0, .bool true]]]]
theorem odd_fr : odd.map (fun x => PyData.bool (isFr x)) = [.bool true, .bool false, .bool false, .bool false, .bool false] := by
  show [PyData.bool (isFr (encF 4 bend)), .bool (isFr (.tuple [.int 2, .tuple [.tuple [.int 1, .int 0]]])), .bool (isFr (.tuple [.int 3, .tuple [.tuple [.int 0, .int 1]]])), .bool (isFr (.tuple [.int 2, .tuple [.tuple [.int 0, .int 1], .tuple [.int 0, .int 1]]])), .bool (isFr (.tuple [.int 2, .tuple [.tuple [.int 0, .bool true]]]))] = _
  rw [v_bend.fr, show isFr (.tuple [.int 2, .tuple [.tuple [.int 1, .int 0]]]) = false by decide +kernel, show isFr (.tuple [.int 3, .tuple [.tuple [.int 0, .int 1]]]) = false by decide +kernel, show isFr (.tuple [.int 2, .tuple [.tuple [.int 0, .int 1], .tuple [.int 0, .int 1]]]) = false by decide +kernel, show isFr (.tuple [.int 2, .tuple [.tuple [.int 0, .bool true]]]) = false by decide +kernel]
theorem odd_few : ∀ x ∈ odd, (beamsOf x).length < 32 := fun x hx => by
  have hx' : x = encF 4 bend ∨ x = .tuple [.int 2, .tuple [.tuple [.int 1, .int 0]]] ∨ x = .tuple [.int 3, .tuple [.tuple [.int 0, .int 1]]] ∨ x = .tuple [.int 2, .tuple [.tuple [.int 0, .int 1], .tuple [.int 0, .int 1]]] ∨ x = .tuple [.int 2, .tuple [.tuple [.int 0, .bool true]]] := by simpa [odd] using hx
  rcases hx' with rfl | rfl | rfl | rfl | rfl
  · exact (show 3 < 32 by decide)
  · exact (show 1 < 32 by decide)
  · exact (show 1 < 32 by decide)
  · exact (show 2 < 32 by decide)
  · exact (show 1 < 32 by decide)
abbrev due6 : List PyData := [.tuple (ptsD [[0, 1, 2, 3]]), .tuple (ptsD [[0, 2], [1, 3]]), .tuple (intsD [1, 3]), .tuple (intsD [0, 1]), heardD 4, encF 6 [(0, 2), (1, 3), (4, 5)]]
abbrev due7 : List PyData := due6 ++ [.list [.bool true, .bool false, .bool false, .bool false, .bool false]]
theorem sm_heard (k : Int) : smallD 1 (heardD k) := small_l (show 3 ≤ 100 by decide) fun y hy => by
  have hy' : y = .str "no jack" ∨ y = .int k ∨ y = .bool true := by simpa using hy
  rcases hy' with rfl | rfl | rfl
  · show PyData.canLay0 (.str "no jack") = true; decide +kernel
  · exact True.intro
  · exact True.intro
theorem sm_pts {ps : List (List Int)} (h : ps.length ≤ 100) (hp : ∀ p ∈ ps, p.length ≤ 100) : smallD 2 (.tuple (ptsD ps)) := small_t (by unfold ptsD; rw [List.length_map]; exact h) fun x hx => by
  obtain ⟨p, hp', rfl⟩ := List.mem_map.mp hx
  exact small_ints (hp p hp')
theorem sm_due : smallD 5 (.list due7) := small_l (show 7 ≤ 100 by decide) fun x hx => by
  have hx' : x = .tuple (ptsD [[0, 1, 2, 3]]) ∨ x = .tuple (ptsD [[0, 2], [1, 3]]) ∨ x = .tuple (intsD [1, 3]) ∨ x = .tuple (intsD [0, 1]) ∨ x = heardD 4 ∨ x = encF 6 [(0, 2), (1, 3), (4, 5)] ∨ x = .list [.bool true, .bool false, .bool false, .bool false, .bool false] := by simpa [due7, due6] using hx
  rcases hx' with rfl | rfl | rfl | rfl | rfl | rfl | rfl
  · exact smallD.le (sm_pts (by decide) (by decide)) (by decide)
  · exact smallD.le (sm_pts (by decide) (by decide)) (by decide)
  · exact smallD.le (small_ints (by decide)) (by decide)
  · exact smallD.le (small_ints (by decide)) (by decide)
  · exact smallD.le (sm_heard 4) (by decide)
  · exact smallD.le (small_frame (by decide)) (by decide)
  · refine smallD.le (n := 1) (small_l (show 5 ≤ 100 by decide) fun y hy => ?_) (by decide)
    have hy' : y = .bool true ∨ y = .bool false := by simpa using hy
    rcases hy' with rfl | rfl <;> exact True.intro
theorem rd_rep4 {d : PyData} : RvD rTimes (.list [d]) (.int 4) (.list [d, d, d, d]) := rd_r fun G H v w s hv hw Q q => by
  obtain ⟨a, xs, rfl, ea, hx⟩ := hv.of_list
  obtain ⟨x, rfl, hd⟩ := hx.one
  exact ⟨a, 4, [x], rfl, hw.of_int, s _ _ ea, by decide, by decide, sz_of (show 4 ≤ 100000 by decide), fun p hp => q (.ref p) (upd G p (.lst [x, x, x, x])) _ (Gro.new s hp) (Da.mk_l upd_same (.cons (hd.mono (same_upd (s.free hp))) (.cons (hd.mono (same_upd (s.free hp))) (.cons (hd.mono (same_upd (s.free hp))) (.cons (hd.mono (same_upd (s.free hp))) .nil)))))⟩
section
variable {P : Program} {w : World} {K : PySem.W.Frag} {mg : Str → Option Value} {base : Heap}
def pre_byhand : List PyData → PyData → Prop := fun ds d => ds = [] ∧ d = .bool true
theorem t2 : (2 : Nat) ≤ 100000 := by decide
theorem t3 : (3 : Nat) ≤ 100000 := by decide
theorem t1 : (1 : Nat) ≤ 100000 := by decide
theorem t4 : (4 : Nat) ≤ 100000 := by decide
theorem t5 : (5 : Nat) ≤ 100000 := by decide
theorem t6 : (6 : Nat) ≤ 100000 := by decide
theorem ed_pr {σ : L2.St} {G : Hp} {a b : Int} : EvD (tTup (tCons (tC (.int a)) (tCons (tC (.int b)) tNil))) σ G (encI (a, b)) := ed_tup (ea_cons ed_int (ea_cons ed_int ea_nil)) t2
theorem ed_it2 {σ : L2.St} {G : Hp} {a b : Int} : EvD (tTup (tCons (tC (.int a)) (tCons (tC (.int b)) tNil))) σ G (.tuple (intsD [a, b])) := ed_tup (ea_cons ed_int (ea_cons ed_int ea_nil)) t2
theorem w_by_hand (B : Bt mg) (F1 : FnE P w K mg base CX0 7 "put_apart" ["one", "other"] (spF pre_put)) (F2 : FnE P w K mg base CX0 8 "_law_heard" ["_law_door_so", "_law_frame_so", "_law_k"] (spF pre_heard)) (F3 : FnE P w K mg base CX0 7 "neighbours" ["frame", "jack"] (spF pre_nbs)) (F4 : FnE P w K mg base CX0 7 "part_of" ["frame", "jack"] (spF pre_partof))
    (F5 : FnE P w K mg base CX0 7 "parts" ["frame"] (spF pre_parts)) (F6 : FnE P w K mg base CX0 5 "is_frame" ["thing"] (spF pre_isFr)) (F7 : FnE P w K mg base CX0 6 "_law_same" ["_law_got", "_law_due"] (spF (pre_same 5))) (D : Def K mg "_law_by_hand_right" s_by_hand_right) : FnE P w K mg base CX0 9 "_law_by_hand_right" [] (spF pre_byhand) := by
  refine D.pure b_by_hand_right sc_by_hand_right (fun ds d ⟨e, _⟩ => by rw [e]; rfl) fun f cdv A outer s H E G vs ds d hr hv hp => ⟨_, x_by_hand_right B hr (Nat.le_refl _) F1 (by decide) F2 (by decide) F3 (by decide) F4 (by decide) F5 (by decide) F6 (by decide) F7 (by decide), ?_⟩
  obtain ⟨rfl, rfl⟩ := hp
  have ev : vs = [] := List.eq_nil_of_length_eq_zero hv.1
  subst ev
  refine rd_unp (x := encF 4 bend) (y := encF 4 prs) (ed_tup (ea_cons (ed_tup (ea_cons ed_int (ea_cons (ed_tup (ea_cons ed_pr (ea_cons ed_pr (ea_cons ed_pr ea_nil))) t3) ea_nil)) t2) (ea_cons (ed_tup (ea_cons ed_int (ea_cons (ed_tup (ea_cons ed_pr (ea_cons ed_pr ea_nil)) t2) ea_nil)) t2) ea_nil)) t2) fun v0 v1 G1 s1 h0 h1 => ?_
  intro H0 s0 D0 q
  refine seq_asg ((ea_cons (ed_is (ed_call (ea_cons (ed_var (i := 0) rfl h0) ea_nil) ⟨_, 4, bend, rfl, .inl rfl, v_bend, rfl⟩) (by rw [p_bend])) (ea_cons (ed_is (ed_call (ea_cons (ed_var (i := 1) rfl h1) ea_nil) ⟨_, 4, prs, rfl, .inl rfl, v_prs, rfl⟩) (by rw [p_prs]))
    (ea_cons (ed_is (ed_call (ea_cons (ed_var (i := 1) rfl h1) (ea_cons ed_int ea_nil)) ⟨_, 4, prs, 3, rfl, .inl rfl, v_prs, by decide, by decide, rfl⟩) (by rw [p_three])) (ea_cons (ed_is (ed_call (ea_cons (ed_var (i := 0) rfl h0) (ea_cons ed_int ea_nil)) ⟨_, 4, bend, 3, rfl, .inl rfl, v_bend, by decide, by decide, rfl⟩) (by rw [n_three]))
    (ea_cons (ed_call (ea_cons ed_int (ea_cons (ed_var (i := 0) rfl h0) (ea_cons ed_int ea_nil))) ⟨0, _, 4, bend, 4, rfl, .inl rfl, .inl rfl, v_bend, by decide, rfl⟩)
    (ea_cons (ed_call (ea_cons (ed_var (i := 1) rfl h1) (ea_cons (ed_tup (ea_cons ed_int (ea_cons (ed_tup (ea_cons ed_pr ea_nil) t1) ea_nil)) t2) ea_nil)) ⟨_, _, 4, 2, prs, [(0, 1)], rfl, .inl rfl, v_prs, .inl rfl, v_two, rfl⟩) ea_nil)))))) H0 s0 _ fun vs G2 H2 a2 hvs => ?_)
  have hgot : DaL G2 vs due6 := hvs
  refine ⟨sz_of (by rw [hgot.1]; exact t6), fun p hp => ?_⟩
  have hp0 : H0 p = none := a2.k.free hp
  have a3 := a2.trans (Gro.loc a2.s hp (o := .lst vs))
  have gp : G2 p = none := a2.s.free hp
  refine seq_asg ((ed_is (ed_lst (ea_cons (ed_tup (ea_cons (ed_tup (ea_cons ed_int (ea_cons ed_int (ea_cons ed_int (ea_cons ed_int ea_nil)))) t4) ea_nil) t1) (ea_cons (ed_tup (ea_cons ed_it2 (ea_cons ed_it2 ea_nil)) t2) (ea_cons ed_it2 (ea_cons ed_it2 (ea_cons (ed_lst (ea_cons ed_str (ea_cons ed_int (ea_cons ed_bl ea_nil))) t3)
    (ea_cons (ed_tup (ea_cons ed_int (ea_cons (ed_tup (ea_cons ed_pr (ea_cons ed_pr (ea_cons ed_pr ea_nil))) t3) ea_nil)) t2) ea_nil)))))) t6) (show _ = PyData.list due6 from rfl)) _ a3.s _ fun v3 G3 H3 a4 h3 => ?_)
  have hp3 := a4.k _ _ (upd_same (H := H2) (a := p) (o := .lst vs))
  have gp3 := a4.out gp upd_same
  refine seq_drop ⟨_, rfl, .inl ⟨rfl, _, SqL.of hp3⟩, ?_⟩
  have h0' := h0.mono (a3.g.trans a4.g)
  refine (ea_cons (ed_is (ed_lcM (ds := odd) (fun x => .bool (isFr x)) (so_T (ed_tup (ea_cons (ed_var (i := 0) rfl h0') (ea_cons (ed_tup (ea_cons ed_int (ea_cons (ed_tup (ea_cons (ed_tup (ea_cons ed_int (ea_cons ed_int ea_nil)) t2) ea_nil) t1) ea_nil)) t2) (ea_cons (ed_tup (ea_cons ed_int (ea_cons (ed_tup (ea_cons (ed_tup (ea_cons ed_int (ea_cons ed_int ea_nil)) t2) ea_nil) t1) ea_nil)) t2)
    (ea_cons (ed_tup (ea_cons ed_int (ea_cons (ed_tup (ea_cons (ed_tup (ea_cons ed_int (ea_cons ed_int ea_nil)) t2) (ea_cons (ed_tup (ea_cons ed_int (ea_cons ed_int ea_nil)) t2) ea_nil)) t2) ea_nil)) t2) (ea_cons (ed_tup (ea_cons ed_int (ea_cons (ed_tup (ea_cons (ed_tup (ea_cons ed_int (ea_cons ed_bl ea_nil)) t2) ea_nil) t1) ea_nil)) t2) ea_nil))))) t5)) (show 5 < 100000 by decide) fun d hd v' G' s' hv' => ?_) (congrArg PyData.list odd_fr)) ea_nil) H3 a4.s _ fun ws G5 H5 a5 hws => ?_
  · refine bd_name (b := true) rfl eb_yes rfl fun e he => ?_
    cases he
    exact ed_call (ea_cons (ed_var (i := 4) rfl hv') ea_nil) ⟨d, rfl, odd_few d hd, rfl⟩
  obtain ⟨x, rfl, hx⟩ := hws.one
  have hp5 := a5.k _ _ hp3
  have gp5 := a5.out gp3 hp3
  refine ⟨p, vs, x, rfl, rfl, hp5, sz_lt (by rw [hgot.1]; decide), ?_⟩
  have a6 : Gro G1 H0 G5 (upd H5 p (.lst (vs ++ [x]))) := ((a3.trans a4).trans a5).mut hp0 gp5
  have a7 := a6.join hp0 gp5 (upd_same (H := H5) (a := p) (o := .lst (vs ++ [x])))
  have hgd : Da (upd G5 p (.lst (vs ++ [x]))) (.ref p) (.list due7) := Da.mk_l upd_same (((hgot.mono (a4.g.trans a5.g)).append (DaL.cons hx .nil)).mono (same_upd gp5))
  have h3' := (h3.mono a5.g).mono (same_upd gp5 (o := .lst (vs ++ [x])))
  exact rd_ret (ed_call (pre := pre_same 5) (ea_cons (ed_var (i := 2) rfl hgd) (ea_cons (ed_op (ed_var (i := 3) rfl h3') (ed_lst (ea_cons (ed_op (ed_lst (ea_cons ed_bl ea_nil) t1) (ed_op (ed_lst (ea_cons ed_bl ea_nil) t1) ed_int rd_rep4) (rd_plusL (show 5 ≤ 100000 by decide))) ea_nil) t1) (rd_plusL (show 7 ≤ 100000 by decide))) ea_nil)) ⟨.list due7, rfl, sm_due, rfl⟩) _ a7.s D0 fun v G8 H8 a8 hv8 => q v G8 H8 (a7.trans a8) hv8
end
end K3

set_option Elab.async false
set_option linter.all false
set_option maxRecDepth 100000
set_option maxHeartbeats 8000000
/-! Walks: box, cells, law. -/
namespace K3
open PySem PySem.Spec PyProof.Rows L2
theorem at_i {cs : List Int} {k : Int} (h0 : 0 ≤ k) (h1 : k < (cs.length : Nat)) : ∃ c : Int, cs[k.toNat]? = some c ∧ atI (intsD cs) k = some (.int c) ∧ atI (cs.map V.int) k = some (.int c) := by
  have hk : k.toNat < cs.length := by omega
  refine ⟨cs[k.toNat], List.getElem?_eq_getElem hk, ?_, ?_⟩
  · unfold intsD
    rw [atI_nn h0 (by rw [List.length_map]; exact h1), List.getElem?_map, List.getElem?_eq_getElem hk]; rfl
  · rw [atI_nn h0 (by rw [List.length_map]; exact h1), List.getElem?_map, List.getElem?_eq_getElem hk]; rfl
/-- box: a new box -/
def spBox : Sp := fun vs H Q _ => ∃ (G : Hp) (cs : List Int) (k : Int), Same G H ∧ DaL G vs [.list (intsD cs), .int k] ∧ 0 ≤ k ∧ k < (cs.length : Nat) ∧ cs.length ≤ 63 ∧ ∀ (t : Addr) (a b : Int) (H' : Hp), H t = none → Same H H' → H' t = some (boxO a b 0) → 0 ≤ a → 0 ≤ b → b < 2 ^ 62 → Q (.ref t) H'
def spCells (K : PySem.W.Frag) : Sp := fun vs H Q _ => ∃ (a : Addr) (ns : List Int), vs = [V.ref a, .int 2] ∧ SqL K H a (ns.map V.int) ∧ ns.length ≤ 63 ∧ ∀ (p : Addr) (cs : List Int) (H' : Hp), H p = none → Same H H' → H' p = some (.lst (cs.map V.int)) → cs.length ≤ 63 → Q (.ref p) H'
def spLaw (K : PySem.W.Frag) : Sp := fun vs H Q _ => ∃ (a : Addr) (ns : List Int), vs = [V.ref a] ∧ SqL K H a (ns.map V.int) ∧ ns.length ≤ 63 ∧ ∀ H' : Hp, Q (.bl true) H'
theorem cutV_to {xs : List V} : cutV xs none (some 2) = xs.take 2 := by
  unfold cutV
  have e : HT.sIx xs.length xs.length (some 2) = min 2 xs.length := HT.sIx_nat _ _ 2
  have e0 : HT.sIx xs.length 0 none = 0 := rfl
  rw [e, e0, List.drop_zero, Nat.sub_zero]
  by_cases c : 2 ≤ xs.length
  · rw [Nat.min_eq_left c]
  · rw [Nat.min_eq_right (by omega), List.take_length, List.take_of_length_le (by omega)]
theorem cutV_from {xs : List V} (h : xs.length ≤ 63) : cutV xs (some 2) (some 63) = xs.drop 2 := by
  unfold cutV
  have e : HT.sIx xs.length xs.length (some 63) = min 63 xs.length := HT.sIx_nat _ _ 63
  have e0 : HT.sIx xs.length 0 (some 2) = min 2 xs.length := HT.sIx_nat _ _ 2
  rw [e, e0]
  by_cases c : 2 ≤ xs.length
  · rw [Nat.min_eq_left c, List.take_of_length_le (by rw [List.length_drop]; omega)]
  · rw [Nat.min_eq_right (show xs.length ≤ 2 by omega), List.drop_length, List.drop_of_length_le (by omega), List.take_nil]
section
variable {P : Program} {w : World} {K : PySem.W.Frag} {mg : Str → Option Value} {base : Heap}
theorem ret_lst {ts : TA} {D : Ends} {σ : L2.St} {H : Hp} (h : ts σ H fun xs H1 => xs.length ≤ sizeLine ∧ ∀ p, H1 p = none → D.rt (.ref p) (upd H1 p (.lst xs))) : tRet (tLst ts) D σ H := h
theorem b01 (b : Bool) : -(2 ^ 64) < (if b = true then (1 : Int) else 0) ∧ (if b = true then (1 : Int) else 0) < 2 ^ 64 := by cases b <;> decide
theorem b01n (b : Bool) : 0 ≤ (if b = true then (1 : Int) else 0) := by cases b <;> decide
theorem big_ne : (2305843009213693951 : Int) ≠ 0 := by omega
theorem ed_pow : ∃ z : Int, ∀ (σ : L2.St) (G : Hp), EvD (tOp (rI CPow fun i j => .int (i ^ j.toNat)) (tC (.int 10)) (tC (.int 18))) σ G (.int z) :=
  ⟨(10 : Int) ^ (18 : Int).toNat, fun σ G H s Q q => ⟨10, 18, rfl, rfl, ⟨by omega, by omega, by omega⟩, q _ G H (Gro.refl s) (.int _)⟩⟩
theorem w_box (B : Bt mg) (D : Def K mg "_law_box" s_box) : FnE P w K mg base CX0 1 "_law_box" ["_law_script", "_law_k"] spBox := by
  refine D.fnE b_box fun f fd F => F.ok sc_box (fun vs H Q E h => ?_) (fun cdv A outer s H vs Q E hr h => ⟨_, PSs.nox (x_box B hr (Nat.le_refl _)), ?_⟩)
  · obtain ⟨_, _, _, _, hv, _⟩ := h; rw [hv.1]; rfl
  obtain ⟨G, cs, k, sG, hvs, k0, k1, hl, q⟩ := h
  obtain ⟨v, u, rfl, hv, hu⟩ := hvs.two
  obtain ⟨c, _, hat, _⟩ := at_i k0 k1
  obtain ⟨z18, hz18⟩ := ed_pow
  refine seq_asg ((ed_if (d := .int c) (eb_is (eb_test (ed_op (ed_var (i := 1) rfl hu) (ed_cb (ea_cons (ed_var (i := 0) rfl hv) ea_nil) rd_lenL) rd_ltI)) (b := true) (decide_eq_true (by unfold intsD; rw [List.length_map]; exact k1))) (fun _ => ed_op (ed_var (i := 0) rfl hv) (ed_var (i := 1) rfl hu) (rd_xL hat)) (fun z => nomatch z)) H sG _ fun v2 G1 H1 a1 h2 => ?_)
  have hu1 := hu.mono a1.g
  have m := fmod_in (i := c) (n := 2305843009213693951) (by omega)
  have e1 : EvD (tOp rTimes (tCB rAbs (tCons (tVar 2) tNil)) (tCB rInt1 (tCons (tOp (rGeX K) (tCB rAbs (tCons (tVar 2) tNil)) (tOp (rI CPow fun i j => .int (i ^ j.toNat)) (tC (.int 10)) (tC (.int 18)))) tNil))) [some v, some u, some v2] G1 (.int ((if c < 0 then -c else c) * (if decide (z18 ≤ (if c < 0 then -c else c)) = true then 1 else 0))) := ed_op (ed_cb (ea_cons (ed_var (i := 2) rfl h2) ea_nil) rd_abs) (ed_cb (ea_cons (ed_op (ed_cb (ea_cons (ed_var (i := 2) rfl h2) ea_nil) rd_abs) (hz18 _ _) rd_geI) ea_nil) rd_int1b) (rd_mulR (b01 _))
  have e2 : EvD (tOp (rPlus K) (tOp (rPlus K) (tOp (rI (fun _ j => j ≠ 0) fun i j => .int (i.fmod j)) (tCB rInt1 (tCons (tVar 2) tNil)) (tC (.int 2305843009213693951))) (tOp rTimes (tC (.int 39373)) (tVar 1))) (tC (.int 11151))) [some v, some u, some v2] G1 (.int (c.fmod 2305843009213693951 + 39373 * k + 11151)) := ed_op (ed_op (ed_op (ed_cb (ea_cons (ed_var (i := 2) rfl h2) ea_nil) rd_int1) ed_int (rd_mod big_ne)) (ed_op ed_int (ed_var (i := 1) rfl hu1) (rd_mulL (by decide))) rd_plusI) ed_int rd_plusI
  generalize c.fmod 2305843009213693951 = fm at m e2
  have n1 : 0 ≤ (if c < 0 then -c else c) * (if decide (z18 ≤ (if c < 0 then -c else c)) = true then (1 : Int) else 0) := by
    refine Int.mul_nonneg ?_ (b01n _)
    split <;> omega
  generalize (if c < 0 then -c else c) * (if decide (z18 ≤ (if c < 0 then -c else c)) = true then (1 : Int) else 0) = aa at e1 n1
  refine ret_lst ((ea_cons e1 (ea_cons e2 (ea_cons ed_int ea_nil))) H1 a1.s _ fun ws G2 H2 a2 hws => ?_)
  obtain ⟨x, y, z, rfl, hx, hy, hz⟩ := hws.three
  rw [hx.of_int, hy.of_int, hz.of_int]
  refine ⟨sz_of (show 3 ≤ 100000 by decide), fun t ht => ?_⟩
  exact q t aa (fm + 39373 * k + 11151) _ ((a1.k.trans a2.k).free ht) ((a1.k.trans a2.k).trans (same_upd ht)) upd_same n1 (by omega) (by omega)
theorem w_cells (B : Bt mg) (D : Def K mg "_law_cells" s_cells) : FnE P w K mg base CX0 1 "_law_cells" ["_law_script", "_law_most_so"] (spCells K) := by
  refine D.fnE b_cells fun f fd F => F.ok sc_cells (fun vs H Q E h => ?_) (fun cdv A outer s H vs Q E hr h => ⟨_, PSs.nox (x_cells B hr (Nat.le_refl _)), ?_⟩)
  · obtain ⟨_, _, rfl, _⟩ := h; rfl
  obtain ⟨a, ns, rfl, hS, hl, q⟩ := h
  -- behind the first line: a new list of one or two cells
  have main : ∀ (c : Addr) (cs : List Int) (H1 : Hp), H c = none → Same H H1 → H1 c = some (.lst (cs.map V.int)) → cs.length ≤ 2 → (3 ≤ ns.length → cs.length = 2) →
      (tSeq (tFor (iEnum K (tCons (tSl (rSl K) (tVar 0) (tPart (tVar 1)) (tPart (tC (.int 63)))) tNil)) (gTup K 2 (gCons (gName 3) (gCons (gName 4) gNil))) (tSeq (tAsg (tOp rMod (tCB rInt1 (tCons (tVar 3) tNil)) (tVar 1)) (gName 5))
        (tAsg (tOp (rPlus K) (tOp (rIx K) (tVar 2) (tVar 5)) (tOp rTimes (tVar 4) (tOp (rPlus K) (tVar 3) (tC (.int 2))))) (gSub (tVar 2) (tVar 5) rSetL))))
      (tRet (tVar 2))) { nx := fun _ H' => Q .non H', rt := Q } [some (.ref a), some (.int 2), some (.ref c), none, none, none] H1 := fun c cs H1 hc s1 h1 hc2 hc3 => by
    refine ⟨_, rfl, _, rfl, 2, rfl, 63, rfl, .inr ⟨a, _, rfl, s1.seq hS, fun e he => ?_⟩⟩
    have hec : e ≠ c := ne_of_none h1 he |>.symm
    rw [cutV_from (by rw [List.length_map]; exact hl)]
    have h1' : (upd H1 e (.lst ((ns.map V.int).drop 2))) c = some (.lst (cs.map V.int)) := by rw [upd_ne hec.symm]; exact h1
    refine ⟨e, _, rfl, SqL.of upd_same, ?_⟩
    refine for_it (walk_enum (xs := (ns.map V.int).drop 2)) (fun i σ' H' => ∃ (o3 o4 o5 : Option V) (cs' : List Int), σ' = [some (.ref a), some (.int 2), some (.ref c), o3, o4, o5] ∧ Same H H' ∧ H' e = some (.lst ((ns.map V.int).drop 2)) ∧ H' c = some (.lst (cs'.map V.int)) ∧ cs'.length = cs.length) ?_ ?_ ?_ ?_
    · exact ⟨none, none, none, cs, rfl, s1.trans (same_upd he), upd_same, h1', rfl⟩
    · rintro i σ' H' hi ⟨_, _, _, _, _, _, h, _⟩
      exact SqL.of h
    · rintro i x σ' H' H2 hi ⟨o3, o4, o5, cs', rfl, s2, h2, h3, h4⟩ ⟨T, x1, x2, rfl, hT, rfl, e1, e2⟩
      have e1' : x1 = .int (i : Nat) := (Option.some.inj e1).symm
      subst e1'
      obtain ⟨m, rfl⟩ : ∃ m : Int, x2 = .int m := by
        have e2' : ((ns.map V.int).drop 2)[i]? = some x2 := e2
        rw [List.getElem?_drop, List.getElem?_map] at e2'
        cases hq : ns[2 + i]? with
        | none => rw [hq] at e2'; cases e2'
        | some m => rw [hq] at e2'; exact ⟨m, (Option.some.inj e2').symm⟩
      have hi' : i + 2 < ns.length := by
        rw [List.length_drop, List.length_map] at hi
        omega
      have hc2' : cs'.length = 2 := by rw [h4]; exact hc3 (by omega)
      refine ⟨T, _, rfl, SqT.of upd_same, rfl, _, _, rfl, _, _, rfl, rfl, ?_⟩
      refine ⟨_, rfl, .inl ⟨(i : Nat), rfl, _, rfl, (i : Nat), 2, rfl, rfl, (show (2 : Int) ≠ 0 by decide), ?_⟩⟩
      have hm := fmod_in (i := ((i : Nat) : Int)) (n := 2) (by decide)
      obtain ⟨j, hj⟩ : ∃ j : Int, j = (((i : Nat) : Int)).fmod 2 := ⟨_, rfl⟩
      rw [← hj] at hm
      obtain ⟨cj, _, _, hat⟩ := at_i (cs := cs') (k := j) hm.1 (by omega)
      have hcT : c ≠ T := ne_of_none h3 hT
      have h3' : (upd H' T (.tup [.int (i : Nat), .int m])) c = some (.lst (cs'.map V.int)) := by rw [upd_ne hcT]; exact h3
      refine ⟨_, rfl, _, rfl, .inl ⟨c, _, j, _, rfl, congrArg V.int hj.symm, SqL.of h3', hat, ?_⟩⟩
      refine ⟨_, rfl, _, rfl, .inl ⟨(i : Nat), 2, rfl, rfl, .inl ⟨m, (i : Nat) + 2, rfl, rfl, .inr (by omega), .inl ⟨cj, m * ((i : Nat) + 2), rfl, rfl, ?_⟩⟩⟩⟩
      have hix : ixN (cs'.map V.int).length j = some j.toNat := by
        unfold ixN
        rw [if_pos hm.1, if_pos (by rw [List.length_map]; omega)]
      refine ⟨_, rfl, _, rfl, c, _, j, j.toNat, rfl, congrArg V.int hj.symm, h3', hix, ?_⟩
      have hH0c : ∀ b o, H b = some o → b ≠ c := fun b o hb => ne_of_none hb hc
      refine ⟨some (.int (i : Nat)), some (.int m), some (.int (((i : Nat) : Int).fmod 2)), cs'.set j.toNat (cj + m * ((i : Nat) + 2)), rfl, fun b o hb => ?_, ?_, by rw [upd_same, List.map_set], by rw [List.length_set]; exact h4⟩
      · rw [upd_ne (hH0c b o hb)]
        exact same_upd hT b o (s2 b o hb)
      · rw [upd_ne hec, upd_ne (ne_of_none h2 hT)]
        exact h2
    · rintro σ' H' ⟨o3, o4, o5, cs', rfl, s2, h2, h3, h4⟩
      exact ⟨_, rfl, q c cs' H' hc s2 h3 (by omega)⟩
  refine seq_asg ?_
  refine ⟨_, rfl, _, rfl, 2, rfl, .inr ⟨a, _, rfl, hS, fun p hp => ?_⟩⟩
  rw [cutV_to]
  refine ⟨p, (ns.map V.int).take 2, rfl, .inl (SqL.of upd_same), fun c hc => ?_⟩
  have hcp : c ≠ p := fun e => by subst e; rw [upd_same] at hc; cases hc
  have hc0 : H c = none := by rw [upd_ne hcp] at hc; exact hc
  have sc : Same H (upd (upd H p (.lst ((ns.map V.int).take 2))) c (.lst ((ns.map V.int).take 2))) := (same_upd hp).trans (same_upd hc)
  refine ⟨!((ns.map V.int).take 2).isEmpty, .inl ⟨_, SqL.of upd_same, rfl⟩, ?_⟩
  cases hns : ((ns.map V.int).take 2).isEmpty with
  | false =>
    refine ite2 (fun _ => ?_) (fun z => absurd rfl z)
    refine main c (ns.take 2) _ hc0 sc (by rw [upd_same, List.map_take]) (by rw [List.length_take]; omega) (fun h => by rw [List.length_take]; omega)
  | true =>
    refine ite2 (fun z => nomatch z) (fun _ => ?_)
    have hn0 : ns = [] := by
      cases ns with
      | nil => rfl
      | cons n r => simp at hns
    refine ⟨sz_of (show 1 ≤ 100000 by decide), fun c2 hc2 => ?_⟩
    have hc20 : H c2 = none := sc.free hc2
    exact main c2 [0] _ hc20 (sc.trans (same_upd hc2)) upd_same (by decide) (fun h => by rw [hn0] at h; simp at h)
/-- right(box(cells, k)) -/
theorem ed_rb {σ : L2.St} {G : Hp} {ta tb : TE} {cs : List Int} {k : Int} {E E' : XK} (ha : EvD ta σ G (.list (intsD cs))) (hb : EvD tb σ G (.int k)) (k0 : 0 ≤ k) (k1 : k < (cs.length : Nat)) (hl : cs.length ≤ 63) :
    EvD (tCall (spDr 150 ok_none post_true) [] E (tCons (tCall spBox [] E' (tCons ta (tCons tb tNil))) tNil)) σ G (.bool true) := fun H s Q q => by
  show (tCons ta (tCons tb tNil)) σ H (fun vs H1 => spBox (vs ++ []) H1 (fun x H2 => spDr 150 ok_none post_true ([x] ++ []) H2 Q E) E')
  refine (ea_cons ha (ea_cons hb ea_nil)) H s _ fun vs G1 H1 a1 hv => ?_
  refine ⟨G1, cs, k, a1.s, by rw [List.append_nil]; exact hv, k0, k1, hl, fun t a b H2 ht s2 h2 ha0 hb0 hb1 => ?_⟩
  have gt : G1 t = none := a1.s.free ht
  refine ⟨t, 0, G1, [], [], rfl, (by show 150 ≤ 1000000; decide), ⟨a1.s.trans s2, gt, a, b, 0, h2, ha0, hb0, hb1, by decide, by decide⟩, DaL.nil, rfl, fun d v G3 H3 hd q3 d3 hv3 => ?_⟩
  have ed : d = .bool true := hd
  subst ed
  have hk : ∀ x o, H1 x = some o → H3 x = some o := fun x o hx => q3.k x o (ne_of_none hx ht) (s2 x o hx)
  refine q v G3 H3 (a1.trans ⟨q3.g, hk, d3.s, fun x hx => ?_⟩) hv3
  rcases q3.n x hx with z | z
  · exact .inl z
  · exact .inr (s2.free z)
theorem w_law (B : Bt mg) (F1 : FnE P w K mg base CX0 1 "_law_cells" ["_law_script", "_law_most_so"] (spCells K)) (F2 : FnE P w K mg base CX0 9 "_law_by_hand_right" [] (spF pre_byhand)) (F3 : FnE P w K mg base CX0 9 "_law_right" ["_law_tin"] (spDr 150 ok_none post_true)) (F4 : FnE P w K mg base CX0 1 "_law_box" ["_law_script", "_law_k"] spBox)
    (f : Addr) (fd : FuncData) (F : FunD K "law" "law" (defArgs s_law) (defBody s_law) (defScope s_law) [] [] f fd) : FnOk P w K mg base CX0 10 f fd ["_law_script"] (spLaw K) := by
  refine F.ok sc_law (fun vs H Q E h => ?_) (fun cdv A outer s H vs Q E hr h => ⟨_, PSs.nox (x_law B hr (Nat.le_refl _) F1 (by decide) F2 (by decide) F3 (by decide) F4 (by decide)), ?_⟩)
  · obtain ⟨_, _, rfl, _⟩ := h; rfl
  obtain ⟨a, ns, rfl, hS, hl, q⟩ := h
  refine ⟨_, rfl, a, ns, rfl, hS, hl, fun p cs H1 hp s1 h1 hcl => ?_⟩
  -- the clean heap: the cells alone
  have sG : Same (upd (fun _ => none) p (.lst (cs.map V.int))) H1 := fun b o hb => by
    by_cases c : b = p
    · subst c; rw [upd_same] at hb; cases hb; exact h1
    · rw [upd_ne c] at hb; cases hb
  have hd : Da (upd (fun _ => none) p (.lst (cs.map V.int))) (.ref p) (.list (intsD cs)) := Da.mk_l upd_same DaL.of_ints
  have hlen : EvD (tCB (rLen K) (tCons (tVar 1) tNil)) [some (.ref a), some (.ref p), none] (upd (fun _ => none) p (.lst (cs.map V.int))) (.int (cs.length : Nat)) := ed_is (ed_cb (ea_cons (ed_var (i := 1) rfl hd) ea_nil) rd_lenL) (by unfold intsD; rw [List.length_map])
  refine (rd_ret (ed_andV (a := true) (ed_call (E := E0) (pre := pre_byhand) (ds := []) ea_nil ⟨rfl, rfl⟩) fun _ => ed_is (ed_cb (ea_cons (ed_is (ed_rng (f := fun _ => .bool true) hlen (by omega) (fun v => rfl) fun k k0 k1 v' G' s' hv' => ed_rb (ed_var (i := 1) rfl (hd.mono s')) (ed_var (i := 2) rfl hv') k0 k1 hcl) (?_ : _ = .list (((rngI cs.length).map fun _ => true).map PyData.bool))) ea_nil) rd_all) (congrArg PyData.bool (all_true _)))) H1 sG _ fun v G2 H2 a2 hv2 => ?_
  · rw [List.map_map]; rfl
  · rw [hv2.of_bool]
    exact q H2
end
end K3

set_option Elab.async false
set_option linter.all false
set_option maxRecDepth 100000
set_option maxHeartbeats 0
namespace K3
open PySem PySem.Spec PyProof.Rows L2
/-- what the written part says of NoJack -/
def exNJ (K : PySem.W.Frag) : Bool :=
  PySem.W.excInitIn K (He.ga K "NoJack") leB "LookupError.__new__" &&
  (He.eqO (PySem.W.findIn K (.ref (He.ga K "NoJack")) "__setattr__") (some (some (.builtin "object.__setattr__"))) &&
  (He.eqO (PySem.W.findIn K (.ref (He.ga K "NoJack")) "__getattribute__") (some (some (.builtin "BaseException.__getattribute__"))) &&
  (He.eqO (PySem.W.findIn K (.ref (He.ga K "NoJack")) "__getattr__") (some none) &&
  (He.eqO (PySem.W.findIn K (.ref (He.ga K "NoJack")) "jack") (some none) &&
  (He.eqO (PySem.W.findIn K (.ref (He.ga K "NoJack")) "__init__") (some (some (.ref (He.ma K (He.ga K "NoJack") "__init__")))) &&
  (decide (PySem.W.typeIn K (.ref (He.ma K (He.ga K "NoJack") "__init__")) = some (.type "function")) &&
  (PySem.W.keepIn K (.ref (He.ga K "NoJack")) &&
  (decide (PySem.W.subIn K (.ref (He.ga K "NoJack")) (.type "BaseException") = some true) &&
  (decide (PySem.W.typeIn K (.ref (He.ga K "NoJack")) = some (.type "type")) &&
  (PySem.W.hasDictIn K (He.ga K "NoJack") &&
  (decide (PySem.W.exmOne K (.ref (He.ga K "NoJack")) (.ref (He.ga K "NoJack")) = some true) &&
  (He.eqO (PySem.W.findIn K (.ref (He.ga K "NoJack")) "__class__") (some (some (.builtin "object.__class__"))) &&
  (He.eqO (PySem.W.specialIn K (.builtin "object.__class__") "__get__") (some (some (.builtin "getset_descriptor.__get__"))) &&
  (decide (PySem.W.takesIn K (.builtin "object.__class__") = some true) &&
  (decide (PySem.W.mroIn K (He.ga K "NoJack") (.type "object") = some true) &&
  decide (PySem.W.kitOne K (.ref (He.ga K "NoJack")) (.type "LookupError") = some true))))))))))))))))
def fn : List He.DefD := [d_init, d_p_tupled, d_p_is_number, d_p_is_count, d_p_is_below, d_p_is_tuple_of, d_p_ascends, d_p_set_of, d_p_is_beam_among, d_p_jacks_of, d_p_is_frame, d_p_sure_frame, d_p_sure_jack, d_p_near_in, d_p_neighbours, d_p_grown_from, d_p_parts_in, d_p_parts, d_p_part_of, d_p_put_apart] ++
  [d_box, d_take, d_cells, d_of, d_pick, d_lists, d_same, d_is_number, d_put, d_is_pair, d_joined, d_frame, d_next_to, d_marked, d_parts_so, d_is_beam, d_is_frame_so, d_bent, d_heard, d_right, d_by_hand_right, d_law]
def gnames : List Str := (["NoJack", "Unfit", "tupled", "is_number", "is_count", "is_below", "is_tuple_of", "ascends", "set_of", "is_beam_among", "jacks_of", "is_frame", "sure_frame", "sure_jack", "near_in", "neighbours", "grown_from", "parts_in", "parts", "part_of", "put_apart"] : List Str) ++
  (["_law_box", "_law_take", "_law_cells", "_law_of", "_law_pick", "_law_lists", "_law_same", "_law_is_number", "_law_put", "_law_is_pair", "_law_joined", "_law_frame", "_law_next_to", "_law_marked", "_law_parts_so", "_law_is_beam", "_law_is_frame_so", "_law_bent", "_law_heard", "_law_right", "_law_by_hand_right"] : List Str)
def frees : List Str := ["isinstance", "list", "tuple", "len", "all", "zip", "sorted", "set", "range", "abs", "int", "enumerate", "min", "max", "sum", "LookupError", "bool", "str"]
def fa : List He.Fa := .glo "law" :: (gnames.map He.Fa.glo ++ frees.map He.Fa.free)
abbrev R : PySem.W.OpenRow := PySem.W.OpenLaw.row PySem.Challenge.rw_evenlifts_k03_whole_parts_neighbours_ben
abbrev hk : PySem.W.Hook := He.hookX 5 fa fn [] [] exNJ
def ob (s : PySem.W.SharedT) : He.AlX := He.obsX 5 fa fn [] [] exNJ (HandSHeadRun.getT s)
theorem ob_eq (s : PySem.W.SharedT) : ob s = hk.obs s.abs := He.obsX_eq (HandSHeadRun.getT_eq s)
theorem run (w : World) : HandSHeadRun.RunEq R (PySem.W.view R.prog [46]) hk ob 2000 gnames w := by
  intro os
  kernel_rfl
end K3

set_option Elab.async false
set_option linter.all false
set_option maxRecDepth 100000
set_option maxHeartbeats 8000000
/-! The end: the facts of the head, all walks, the law. -/
namespace K3
open PySem PySem.Spec PyProof.Rows L2
structure Defs (K : PySem.W.Frag) (mg : Str → Option Value) : Prop where
  p_tupled : Def K mg "tupled" s_p_tupled
  p_is_number : Def K mg "is_number" s_p_is_number
  p_is_count : Def K mg "is_count" s_p_is_count
  p_is_below : Def K mg "is_below" s_p_is_below
  p_is_tuple_of : Def K mg "is_tuple_of" s_p_is_tuple_of
  p_ascends : Def K mg "ascends" s_p_ascends
  p_set_of : Def K mg "set_of" s_p_set_of
  p_is_beam_among : Def K mg "is_beam_among" s_p_is_beam_among
  p_jacks_of : Def K mg "jacks_of" s_p_jacks_of
  p_is_frame : Def K mg "is_frame" s_p_is_frame
  p_sure_frame : Def K mg "sure_frame" s_p_sure_frame
  p_sure_jack : Def K mg "sure_jack" s_p_sure_jack
  p_near_in : Def K mg "near_in" s_p_near_in
  p_neighbours : Def K mg "neighbours" s_p_neighbours
  p_grown_from : Def K mg "grown_from" s_p_grown_from
  p_parts_in : Def K mg "parts_in" s_p_parts_in
  p_parts : Def K mg "parts" s_p_parts
  p_part_of : Def K mg "part_of" s_p_part_of
  p_put_apart : Def K mg "put_apart" s_p_put_apart
  box : Def K mg "_law_box" s_box
  take : Def K mg "_law_take" s_take
  cells : Def K mg "_law_cells" s_cells
  of : Def K mg "_law_of" s_of
  pick : Def K mg "_law_pick" s_pick
  lists : Def K mg "_law_lists" s_lists
  same : Def K mg "_law_same" s_same
  is_number : Def K mg "_law_is_number" s_is_number
  put : Def K mg "_law_put" s_put
  is_pair : Def K mg "_law_is_pair" s_is_pair
  joined : Def K mg "_law_joined" s_joined
  frame : Def K mg "_law_frame" s_frame
  next_to : Def K mg "_law_next_to" s_next_to
  marked : Def K mg "_law_marked" s_marked
  parts_so : Def K mg "_law_parts_so" s_parts_so
  is_beam : Def K mg "_law_is_beam" s_is_beam
  is_frame_so : Def K mg "_law_is_frame_so" s_is_frame_so
  bent : Def K mg "_law_bent" s_bent
  heard : Def K mg "_law_heard" s_heard
  right : Def K mg "_law_right" s_right
  by_hand_right : Def K mg "_law_by_hand_right" s_by_hand_right
section
variable {P : Program} {w : World} {K : PySem.W.Frag} {mg : Str → Option Value} {base : Heap} {C fI : Addr}
theorem all_law (B : Bt mg) (T : NjTxt K mg C fI) (D : Defs K mg) (f : Addr) (fd : FuncData) (F : FunD K "law" "law" (defArgs s_law) (defBody s_law) (defScope s_law) [] [] f fd) : FnOk P w K mg base CX0 10 f fd ["_law_script"] (spLaw K) := by
  have num := w_is_number (P := P) (w := w) (base := base) B D.p_is_number
  have cnt := w_is_count num D.p_is_count
  have bel := w_is_below cnt D.p_is_below
  have tn := w_is_tuple_of (P := P) (w := w) (base := base) B D.p_is_tuple_of
  have beam := w_is_beam_among tn bel D.p_is_beam_among
  have asc := w_ascends (P := P) (w := w) (base := base) B D.p_ascends
  have sof := w_set_of (P := P) (w := w) (base := base) B D.p_set_of
  have jks := w_jacks_of sof D.p_jacks_of
  have isf := w_is_frame B tn num beam asc jks D.p_is_frame
  have tup := w_tupled (P := P) (w := w) (base := base) B D.p_tupled 3
  have sure := w_sure_frame B tup isf D.p_sure_frame
  have sj := w_sure_jack B num bel D.p_sure_jack
  have near := w_near_in B sof D.p_near_in
  have nbs := w_neighbours B sure near sj D.p_neighbours
  have put := w_put_apart B sure D.p_put_apart
  have sofD := w_set_ofD (P := P) (w := w) (base := base) B D.p_set_of
  have grow := w_grown_from B near D.p_grown_from
  have pin := w_parts_in B sofD grow D.p_parts_in
  have prt := w_parts B pin sure D.p_parts
  have pof := w_part_of B sure sofD grow sj D.p_part_of
  have lnum := w_l_is_number (P := P) (w := w) (base := base) B D.is_number
  have lpair := w_l_is_pair B lnum D.is_pair
  have lbeam := w_l_is_beam lpair D.is_beam
  have lfr := w_is_frame_so B lnum lbeam D.is_frame_so
  have lists := w_lists (P := P) (w := w) (base := base) B D.lists 3
  have same := w_same (P := P) (w := w) (base := base) B D.same 5
  have mrk := w_marked (P := P) (w := w) (base := base) B D.marked
  have pso := w_parts_so B mrk D.parts_so
  have lput := w_put (P := P) (w := w) (base := base) B D.put
  have jnd := w_joined (P := P) (w := w) (base := base) B D.joined
  have nxt := w_next_to (P := P) (w := w) (base := base) B D.next_to
  have take := w_take (P := P) (w := w) (base := base) B D.take
  have of' := w_of B take D.of
  have pick := w_pick B take D.pick
  have frm := w_frame B take jnd D.frame
  have bnt := w_bent B take pick lput D.bent
  have sjN := w_sure_jackN B T num bel D.p_sure_jack
  have nbN := w_neighboursN B sure near sjN D.p_neighbours
  have poN := w_part_ofN B sure sofD grow sjN D.p_part_of
  have hrd := w_heard B T nbN poN D.heard
  have rgt := w_right B frm take same put lists pso pof nbs prt nxt of' hrd bnt lfr isf D.right
  have hnd := w_by_hand B put hrd nbs pof prt isf same D.by_hand_right
  have box := w_box (P := P) (w := w) (base := base) B D.box
  have cls := w_cells (P := P) (w := w) (base := base) B D.cells
  exact w_law B cls hnd rgt box f fd F
end
section
variable {P : Program} {w : World} {K : PySem.W.Frag} {h : Heap} {mg : Str → Option Value}
theorem mkDef (X : K.In h) (G : h.Ns mainGlobals mg) (c : He.SaysD fa fn K) {x : Str} {st : Stmt} (i j : Nat) (hd : fn[i]? = some ⟨(x, none), x, x, defArgs st, defBody st, defScope st, [], []⟩) (hj : fa[j]? = some (.glo x)) : Def K mg x st := by
  obtain ⟨fd, F⟩ := c.def_ i hd
  exact ⟨He.ga K x, fd, F, He.glo_ok X G (c.fact j hj)⟩
theorem nj_txt (X : K.In h) (G : h.Ns mainGlobals mg) (c : He.SaysD fa fn K) (e : exNJ K = true) : NjTxt K mg (He.ga K "NoJack") (He.ma K (He.ga K "NoJack") "__init__") := by
  unfold exNJ at e
  obtain ⟨e1, e⟩ := He.ba e
  obtain ⟨e2, e⟩ := He.ba e
  obtain ⟨e3, e⟩ := He.ba e
  obtain ⟨e4, e⟩ := He.ba e
  obtain ⟨e5, e⟩ := He.ba e
  obtain ⟨e6, e⟩ := He.ba e
  obtain ⟨e7, e⟩ := He.ba e
  obtain ⟨e8, e⟩ := He.ba e
  obtain ⟨e9, e⟩ := He.ba e
  obtain ⟨e10, e⟩ := He.ba e
  obtain ⟨e11, e⟩ := He.ba e
  obtain ⟨e12, e⟩ := He.ba e
  obtain ⟨e13, e⟩ := He.ba e
  obtain ⟨e14, e⟩ := He.ba e
  obtain ⟨e15, e⟩ := He.ba e
  obtain ⟨e16, e17⟩ := He.ba e
  exact ⟨He.glo_ok X G (c.fact 1 (f := .glo "NoJack") rfl), e1, He.eqO_ok e2, He.eqO_ok e3, He.eqO_ok e4, He.eqO_ok e5, He.eqO_ok e6, of_decide_eq_true e7, e8, of_decide_eq_true e9, of_decide_eq_true e10, e11, of_decide_eq_true e12, He.eqO_ok e13, He.eqO_ok e14, of_decide_eq_true e15, of_decide_eq_true e16, of_decide_eq_true e17, c.def_ 0 (d := d_init) rfl⟩
theorem bt_ok (X : K.In h) (G : h.Ns mainGlobals mg) (c : He.SaysD fa fn K) : Bt mg := ⟨
He.free_ok X G (c.fact 43 (f := .free "isinstance") rfl),
  He.free_ok X G (c.fact 44 (f := .free "list") rfl),
  He.free_ok X G (c.fact 45 (f := .free "tuple") rfl),
  He.free_ok X G (c.fact 46 (f := .free "len") rfl),
  He.free_ok X G (c.fact 47 (f := .free "all") rfl),
  He.free_ok X G (c.fact 48 (f := .free "zip") rfl),
  He.free_ok X G (c.fact 49 (f := .free "sorted") rfl),
  He.free_ok X G (c.fact 50 (f := .free "set") rfl),
  He.free_ok X G (c.fact 51 (f := .free "range") rfl),
  He.free_ok X G (c.fact 52 (f := .free "abs") rfl),
  He.free_ok X G (c.fact 53 (f := .free "int") rfl),
  He.free_ok X G (c.fact 54 (f := .free "enumerate") rfl),
  He.free_ok X G (c.fact 55 (f := .free "min") rfl),
  He.free_ok X G (c.fact 56 (f := .free "max") rfl),
  He.free_ok X G (c.fact 57 (f := .free "sum") rfl),
  He.free_ok X G (c.fact 58 (f := .free "LookupError") rfl),
  He.free_ok X G (c.fact 59 (f := .free "bool") rfl),
  He.free_ok X G (c.fact 60 (f := .free "str") rfl)⟩
theorem defs_ok (X : K.In h) (G : h.Ns mainGlobals mg) (c : He.SaysD fa fn K) : Defs K mg := ⟨
mkDef X G c (st := s_p_tupled) 1 3 rfl rfl,
  mkDef X G c (st := s_p_is_number) 2 4 rfl rfl,
  mkDef X G c (st := s_p_is_count) 3 5 rfl rfl,
  mkDef X G c (st := s_p_is_below) 4 6 rfl rfl,
  mkDef X G c (st := s_p_is_tuple_of) 5 7 rfl rfl,
  mkDef X G c (st := s_p_ascends) 6 8 rfl rfl,
  mkDef X G c (st := s_p_set_of) 7 9 rfl rfl,
  mkDef X G c (st := s_p_is_beam_among) 8 10 rfl rfl,
  mkDef X G c (st := s_p_jacks_of) 9 11 rfl rfl,
  mkDef X G c (st := s_p_is_frame) 10 12 rfl rfl,
  mkDef X G c (st := s_p_sure_frame) 11 13 rfl rfl,
  mkDef X G c (st := s_p_sure_jack) 12 14 rfl rfl,
  mkDef X G c (st := s_p_near_in) 13 15 rfl rfl,
  mkDef X G c (st := s_p_neighbours) 14 16 rfl rfl,
  mkDef X G c (st := s_p_grown_from) 15 17 rfl rfl,
  mkDef X G c (st := s_p_parts_in) 16 18 rfl rfl,
  mkDef X G c (st := s_p_parts) 17 19 rfl rfl,
  mkDef X G c (st := s_p_part_of) 18 20 rfl rfl,
  mkDef X G c (st := s_p_put_apart) 19 21 rfl rfl,
  mkDef X G c (st := s_box) 20 22 rfl rfl,
  mkDef X G c (st := s_take) 21 23 rfl rfl,
  mkDef X G c (st := s_cells) 22 24 rfl rfl,
  mkDef X G c (st := s_of) 23 25 rfl rfl,
  mkDef X G c (st := s_pick) 24 26 rfl rfl,
  mkDef X G c (st := s_lists) 25 27 rfl rfl,
  mkDef X G c (st := s_same) 26 28 rfl rfl,
  mkDef X G c (st := s_is_number) 27 29 rfl rfl,
  mkDef X G c (st := s_put) 28 30 rfl rfl,
  mkDef X G c (st := s_is_pair) 29 31 rfl rfl,
  mkDef X G c (st := s_joined) 30 32 rfl rfl,
  mkDef X G c (st := s_frame) 31 33 rfl rfl,
  mkDef X G c (st := s_next_to) 32 34 rfl rfl,
  mkDef X G c (st := s_marked) 33 35 rfl rfl,
  mkDef X G c (st := s_parts_so) 34 36 rfl rfl,
  mkDef X G c (st := s_is_beam) 35 37 rfl rfl,
  mkDef X G c (st := s_is_frame_so) 36 38 rfl rfl,
  mkDef X G c (st := s_bent) 37 39 rfl rfl,
  mkDef X G c (st := s_heard) 38 40 rfl rfl,
  mkDef X G c (st := s_right) 39 41 rfl rfl,
  mkDef X G c (st := s_by_hand_right) 40 42 rfl rfl⟩
theorem facts {f : Addr} (X : K.In h) (G : h.Ns mainGlobals mg) (hfa : mg ("law" : Str) = some (.ref f)) (c : He.SaysX fa fn [] [] exNJ w h K) :
    ∃ fd : FuncData, (∀ (s : Shared) (v : Value), BindsTo s fd ⟨[v], []⟩ [("_law_script", v)]) ∧ ∀ base : Heap, K.In base → base.Ns mainGlobals mg → FnOk P w K mg base CX0 10 f fd ["_law_script"] (spLaw K) := by
  have cd := c.t.d
  obtain ⟨fd, F⟩ := cd.def_ 41 (d := d_law) rfl
  have e := hfa.symm.trans (He.glo_ok X G (cd.fact 0 (f := .glo "law") rfl))
  cases e
  have b := FunD.bindsA (ps := ["_law_script"]) F fun _ _ _ _ _ _ us hl => match us, hl with | [_], _ => rfl
  exact ⟨fd, fun s v => b s [v] rfl, fun base _ _ => all_law (bt_ok X G cd) (nj_txt X G cd c.more) (defs_ok X G cd) _ fd F⟩
end
end K3
open PySem PySem.W PySem.Calls PyProof.Rows
set_option maxRecDepth 100000 in
set_option maxHeartbeats 0 in
theorem PySem.Challenge.cw_evenlifts_k03_whole_parts_neighbours_ben_holds : PySem.Challenge.rw_evenlifts_k03_whole_parts_neighbours_ben.Holds := by
  w_on; o_law
  refine HandSHeadRun.head_any (r := OpenLaw.row PySem.Challenge.rw_evenlifts_k03_whole_parts_neighbours_ben) (q := view (OpenLaw.row PySem.Challenge.rw_evenlifts_k03_whole_parts_neighbours_ben).prog [46]) (H := K3.hk) (ob := K3.ob) (M := 2000) (loose := K3.gnames) (d := HandSHeadRun.topDef (OpenLaw.row PySem.Challenge.rw_evenlifts_k03_whole_parts_neighbours_ben).prog 46) (kwd := []) K3.ob_eq
    (by kernel_rfl) (fun s => by kernel_rfl) K3.run (by kernel_rfl) (by kernel_rfl) (by kernel_rfl) (by rfl) (by first | assumption | decide +kernel) (by decide +kernel) ⟨rfl, rfl, rfl, rfl, rfl, by decide +kernel⟩ ?hw ?hc
  case hw => w_witness2
  case hc =>
    refine L2.walk_ofE (l := PySem.Challenge.rw_evenlifts_k03_whole_parts_neighbours_ben) (n := 63) (k := 10) (x := "_law_script") (CX := L2.CX0) rfl (by decide) (by kernel_rfl) ⟨rfl, by decide, by decide⟩ ?F (fun _ _ _ _ z => z)
    intro w mg fa h Y G hmg0
    obtain ⟨K, KX, c⟩ := Y
    have hmg : mg ("law" : PySem.Str) = some (.ref fa) := by
      have e : (HandSHeadRun.topDef (OpenLaw.row PySem.Challenge.rw_evenlifts_k03_whole_parts_neighbours_ben).prog 46).name = ("law" : PySem.Str) := by kernel_rfl
      rw [← e]
      exact hmg0
    obtain ⟨fd, hb, hF⟩ := K3.facts (P := (PySem.Challenge.rw_evenlifts_k03_whole_parts_neighbours_ben).prog) (w := w) KX G hmg c
    exact ⟨K, fd, K3.spLaw K, KX, hb, fun H a ns hl _ hS => ⟨a, ns, rfl, hS, hl, fun _ => rfl⟩, hF⟩
