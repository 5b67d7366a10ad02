import PyProof.Rows.All
import Wide.All
import OpenK.AllK
import Wide.FinOn
import KE.KSortTup
import Lean
import PySem.Challenge.RW_nt0450_01
open PySem PySem.W PyProof.Rows
set_option Elab.async false
set_option maxRecDepth 100000
set_option linter.unusedVariables false
set_option linter.unusedSimpArgs false
set_option genInjectivity false
set_option genSizeOf false
set_option genSizeOfSpec false
set_option bootstrap.genMatcherCode false
set_option compiler.extract_closed false
namespace Mine
/-! NHeadD -/
/-- the names' table: by recursors alone, so that the kernel reads it without unfolding -/
noncomputable abbrev tbl (l : List Str) : Nat → Str :=
  @List.rec Str (fun _ => Nat → Str) (fun i => ⟨#[1114112 + i]⟩) (fun a _ ih i => @Nat.rec (fun _ => Str) a (fun n _ => ih n) i) l
noncomputable abbrev namesR : List Str := [Str.ofString "_wall", Str.ofString "k", Str.ofString "NO_MOVE", Str.ofString "__name__", Str.ofString "chess.values", Str.ofString "MATE", Str.ofString "DRAW", Str.ofString "INFINITE", Str.ofString "MAX_PLY", Str.ofString "MATE_LEAST", Str.ofString "mated_in", Str.ofString "ply", Str.ofString "mate_in", Str.ofString "to_table", Str.ofString "value", Str.ofString "from_table", Str.ofString "BOUND_UPPER", Str.ofString "BOUND_LOWER", Str.ofString "BOUND_EXACT", Str.ofString "chess.alphabeta", Str.ofString "cutoff", Str.ofString "depth", Str.ofString "bound", Str.ofString "want", Str.ofString "is_exact", Str.ofString "alpha", Str.ofString "beta", Str.ofString "chess.errors", Str.ofString "ChessError", Str.ofString "Exception", Str.ofString "__init__", Str.ofString "self", Str.ofString "text", Str.ofString "BadMove", Str.ofString "SearchStopped", Str.ofString "nodes", Str.ofString "the nodes are used up", Str.ofString "BadTable", Str.ofString "chess.context", Str.ofString "SearchContext", Str.ofString "game", Str.ofString "table", Str.ofString "killers", Str.ofString "history", Str.ofString "qdepth", Str.ofString "max_nodes", Str.ofString "made", Str.ofString "lines", Str.ofString "tick", Str.ofString "step_into", Str.ofString "ctx", Str.ofString "move", Str.ofString "make", Str.ofString "step_back", Str.ofString "undo", Str.ofString "clear_line", Str.ofString "len", Str.ofString "append", Str.ofString "set_line", Str.ofString "chess.history", Str.ofString "scale_down", Str.ofString "by", Str.ofString "limit", Str.ofString "History", Str.ofString "a history's limit is 1 at least", Str.ofString "scores", Str.ofString "get", Str.ofString "side", Str.ofString "update", Str.ofString "bonus", Str.ofString "max", Str.ofString "min", Str.ofString "at", Str.ofString "old", Str.ofString "abs", Str.ofString "age", Str.ofString "Killers", Str.ofString "plies", Str.ofString "first", Str.ofString "second", Str.ofString "add", Str.ofString "pair", Str.ofString "clear", Str.ofString "reward", Str.ofString "best", Str.ofString "tried", Str.ofString "chess.picker", Str.ofString "TABLE_STAGE", Str.ofString "GOOD_STAGE", Str.ofString "KILLER_STAGE", Str.ofString "QUIET_STAGE", Str.ofString "END_STAGE", Str.ofString "killer_pair", Str.ofString "past_score", Str.ofString "Picker", Str.ofString "moves", Str.ofString "table_move", Str.ofString "left", Str.ofString "list", Str.ofString "stage", Str.ofString "ready", Str.ofString "losing", Str.ofString "next", Str.ofString "fill", Str.ofString "take_best", Str.ofString "fill_table", Str.ofString "fill_good", Str.ofString "fill_killers", Str.ofString ".0", Str.ofString "remove", Str.ofString "good", Str.ofString "quiet", Str.ofString "is_noisy", Str.ofString "gain", Str.ofString "found", Str.ofString "scored", Str.ofString "range", Str.ofString "pop", Str.ofString "chess.quiesce", Str.ofString "quiesce", Str.ofString "is_draw", Str.ofString "in_check", Str.ofString "quiesce_moves", Str.ofString "noisy", Str.ofString "picker", Str.ofString "chess.pvs", Str.ofString "IID_DEPTH", Str.ofString "search", Str.ofString "is_pv", Str.ofString "low", Str.ofString "high", Str.ofString "key", Str.ofString "look_up", Str.ofString "search_moves", Str.ofString "start", Str.ofString "best_move", Str.ofString "quiets", Str.ofString "is_first", Str.ofString "search_child", Str.ofString "keep_value", Str.ofString "probe", Str.ofString "save", Str.ofString "chess.treegame", Str.ofString "TreeGame", Str.ofString "children", Str.ofString "values", Str.ofString "checks", Str.ofString "draws", Str.ofString "gains", Str.ofString "noisy_rows", Str.ofString "gain_rows", Str.ofString "path", Str.ofString "kids", Str.ofString "no such child", Str.ofString "nothing is made", Str.ofString "law_nt0450_01", Str.ofString "_law_any", Str.ofString "state", Str.ofString "script", Str.ofString "_law_pull", Str.ofString "size", Str.ofString "_law_value", Str.ofString "number", Str.ofString "_law_tree", Str.ofString "width", Str.ofString "loud", Str.ofString "node", Str.ofString "room", Str.ofString "count", Str.ofString "row", Str.ofString "_", Str.ofString "mark", Str.ofString "marks", Str.ofString "_law_stage", Str.ofString "world", Str.ofString "tree", Str.ofString "kills", Str.ofString "index", Str.ofString "past", Str.ofString "sorted", Str.ofString "_law_quiet", Str.ofString "seen", Str.ofString "rest", Str.ofString "turn", Str.ofString "_law_update", Str.ofString "share", Str.ofString "_law_reward", Str.ofString "_law_seek", Str.ofString "kid", Str.ofString "law", Str.ofString "is_main", Str.ofString "due", Str.ofString "__doc__", Str.ofString "__package__", Str.ofString "__loader__", Str.ofString "__spec__", Str.ofString "__annotations__", Str.ofString "__builtins__", Str.ofString "__file__", Str.ofString "/claim/cut.py", Str.ofString "__cached__", Str.ofString "SearchContext.__init__", Str.ofString "SearchContext.tick", Str.ofString "__module__", Str.ofString "__firstlineno__", Str.ofString "__static_attributes__", Str.ofString "__dict__", Str.ofString "__weakref__", Str.ofString "History.__init__", Str.ofString "History.get", Str.ofString "History.update", Str.ofString "History.bonus", Str.ofString "Killers.__init__", Str.ofString "Killers.add", Str.ofString "Killers.pair", Str.ofString "Killers.clear", Str.ofString "Picker.__init__", Str.ofString "Picker.next", Str.ofString "Picker.fill", Str.ofString "Picker.fill_table", Str.ofString "Picker.fill_good", Str.ofString "Picker.fill_killers", Str.ofString "TreeGame.__init__", Str.ofString "TreeGame.moves", Str.ofString "TreeGame.noisy", Str.ofString "TreeGame.make", Str.ofString "TreeGame.undo", Str.ofString "TreeGame.value", Str.ofString "TreeGame.key", Str.ofString "TreeGame.in_check", Str.ofString "TreeGame.is_draw", Str.ofString "TreeGame.is_noisy", Str.ofString "TreeGame.gain", Str.ofString "TreeGame.side", Str.ofString "<module>", Str.ofString "__main__"]
noncomputable def namesQ : List Str := [⟨#[95, 119, 97, 108, 108]⟩, ⟨#[107]⟩, ⟨#[78, 79, 95, 77, 79, 86, 69]⟩, ⟨#[95, 95, 110, 97, 109, 101, 95, 95]⟩, ⟨#[99, 104, 101, 115, 115, 46, 118, 97, 108, 117, 101, 115]⟩, ⟨#[77, 65, 84, 69]⟩, ⟨#[68, 82, 65, 87]⟩, ⟨#[73, 78, 70, 73, 78, 73, 84, 69]⟩, ⟨#[77, 65, 88, 95, 80, 76, 89]⟩, ⟨#[77, 65, 84, 69, 95, 76, 69, 65, 83, 84]⟩, ⟨#[109, 97, 116, 101, 100, 95, 105, 110]⟩, ⟨#[112, 108, 121]⟩, ⟨#[109, 97, 116, 101, 95, 105, 110]⟩, ⟨#[116, 111, 95, 116, 97, 98, 108, 101]⟩, ⟨#[118, 97, 108, 117, 101]⟩, ⟨#[102, 114, 111, 109, 95, 116, 97, 98, 108, 101]⟩, ⟨#[66, 79, 85, 78, 68, 95, 85, 80, 80, 69, 82]⟩, ⟨#[66, 79, 85, 78, 68, 95, 76, 79, 87, 69, 82]⟩, ⟨#[66, 79, 85, 78, 68, 95, 69, 88, 65, 67, 84]⟩, ⟨#[99, 104, 101, 115, 115, 46, 97, 108, 112, 104, 97, 98, 101, 116, 97]⟩, ⟨#[99, 117, 116, 111, 102, 102]⟩, ⟨#[100, 101, 112, 116, 104]⟩, ⟨#[98, 111, 117, 110, 100]⟩, ⟨#[119, 97, 110, 116]⟩, ⟨#[105, 115, 95, 101, 120, 97, 99, 116]⟩, ⟨#[97, 108, 112, 104, 97]⟩, ⟨#[98, 101, 116, 97]⟩, ⟨#[99, 104, 101, 115, 115, 46, 101, 114, 114, 111, 114, 115]⟩, ⟨#[67, 104, 101, 115, 115, 69, 114, 114, 111, 114]⟩, ⟨#[69, 120, 99, 101, 112, 116, 105, 111, 110]⟩, ⟨#[95, 95, 105, 110, 105, 116, 95, 95]⟩, ⟨#[115, 101, 108, 102]⟩, ⟨#[116, 101, 120, 116]⟩, ⟨#[66, 97, 100, 77, 111, 118, 101]⟩, ⟨#[83, 101, 97, 114, 99, 104, 83, 116, 111, 112, 112, 101, 100]⟩, ⟨#[110, 111, 100, 101, 115]⟩, ⟨#[116, 104, 101, 32, 110, 111, 100, 101, 115, 32, 97, 114, 101, 32, 117, 115, 101, 100, 32, 117, 112]⟩, ⟨#[66, 97, 100, 84, 97, 98, 108, 101]⟩, ⟨#[99, 104, 101, 115, 115, 46, 99, 111, 110, 116, 101, 120, 116]⟩, ⟨#[83, 101, 97, 114, 99, 104, 67, 111, 110, 116, 101, 120, 116]⟩, ⟨#[103, 97, 109, 101]⟩, ⟨#[116, 97, 98, 108, 101]⟩, ⟨#[107, 105, 108, 108, 101, 114, 115]⟩, ⟨#[104, 105, 115, 116, 111, 114, 121]⟩, ⟨#[113, 100, 101, 112, 116, 104]⟩, ⟨#[109, 97, 120, 95, 110, 111, 100, 101, 115]⟩, ⟨#[109, 97, 100, 101]⟩, ⟨#[108, 105, 110, 101, 115]⟩, ⟨#[116, 105, 99, 107]⟩, ⟨#[115, 116, 101, 112, 95, 105, 110, 116, 111]⟩, ⟨#[99, 116, 120]⟩, ⟨#[109, 111, 118, 101]⟩, ⟨#[109, 97, 107, 101]⟩, ⟨#[115, 116, 101, 112, 95, 98, 97, 99, 107]⟩, ⟨#[117, 110, 100, 111]⟩, ⟨#[99, 108, 101, 97, 114, 95, 108, 105, 110, 101]⟩, ⟨#[108, 101, 110]⟩, ⟨#[97, 112, 112, 101, 110, 100]⟩, ⟨#[115, 101, 116, 95, 108, 105, 110, 101]⟩, ⟨#[99, 104, 101, 115, 115, 46, 104, 105, 115, 116, 111, 114, 121]⟩, ⟨#[115, 99, 97, 108, 101, 95, 100, 111, 119, 110]⟩, ⟨#[98, 121]⟩, ⟨#[108, 105, 109, 105, 116]⟩, ⟨#[72, 105, 115, 116, 111, 114, 121]⟩, ⟨#[97, 32, 104, 105, 115, 116, 111, 114, 121, 39, 115, 32, 108, 105, 109, 105, 116, 32, 105, 115, 32, 49, 32, 97, 116, 32, 108, 101, 97, 115, 116]⟩, ⟨#[115, 99, 111, 114, 101, 115]⟩, ⟨#[103, 101, 116]⟩, ⟨#[115, 105, 100, 101]⟩, ⟨#[117, 112, 100, 97, 116, 101]⟩, ⟨#[98, 111, 110, 117, 115]⟩, ⟨#[109, 97, 120]⟩, ⟨#[109, 105, 110]⟩, ⟨#[97, 116]⟩, ⟨#[111, 108, 100]⟩, ⟨#[97, 98, 115]⟩, ⟨#[97, 103, 101]⟩, ⟨#[75, 105, 108, 108, 101, 114, 115]⟩, ⟨#[112, 108, 105, 101, 115]⟩, ⟨#[102, 105, 114, 115, 116]⟩, ⟨#[115, 101, 99, 111, 110, 100]⟩, ⟨#[97, 100, 100]⟩, ⟨#[112, 97, 105, 114]⟩, ⟨#[99, 108, 101, 97, 114]⟩, ⟨#[114, 101, 119, 97, 114, 100]⟩, ⟨#[98, 101, 115, 116]⟩, ⟨#[116, 114, 105, 101, 100]⟩, ⟨#[99, 104, 101, 115, 115, 46, 112, 105, 99, 107, 101, 114]⟩, ⟨#[84, 65, 66, 76, 69, 95, 83, 84, 65, 71, 69]⟩, ⟨#[71, 79, 79, 68, 95, 83, 84, 65, 71, 69]⟩, ⟨#[75, 73, 76, 76, 69, 82, 95, 83, 84, 65, 71, 69]⟩, ⟨#[81, 85, 73, 69, 84, 95, 83, 84, 65, 71, 69]⟩, ⟨#[69, 78, 68, 95, 83, 84, 65, 71, 69]⟩, ⟨#[107, 105, 108, 108, 101, 114, 95, 112, 97, 105, 114]⟩, ⟨#[112, 97, 115, 116, 95, 115, 99, 111, 114, 101]⟩, ⟨#[80, 105, 99, 107, 101, 114]⟩, ⟨#[109, 111, 118, 101, 115]⟩, ⟨#[116, 97, 98, 108, 101, 95, 109, 111, 118, 101]⟩, ⟨#[108, 101, 102, 116]⟩, ⟨#[108, 105, 115, 116]⟩, ⟨#[115, 116, 97, 103, 101]⟩, ⟨#[114, 101, 97, 100, 121]⟩, ⟨#[108, 111, 115, 105, 110, 103]⟩, ⟨#[110, 101, 120, 116]⟩, ⟨#[102, 105, 108, 108]⟩, ⟨#[116, 97, 107, 101, 95, 98, 101, 115, 116]⟩, ⟨#[102, 105, 108, 108, 95, 116, 97, 98, 108, 101]⟩, ⟨#[102, 105, 108, 108, 95, 103, 111, 111, 100]⟩, ⟨#[102, 105, 108, 108, 95, 107, 105, 108, 108, 101, 114, 115]⟩, ⟨#[46, 48]⟩, ⟨#[114, 101, 109, 111, 118, 101]⟩, ⟨#[103, 111, 111, 100]⟩, ⟨#[113, 117, 105, 101, 116]⟩, ⟨#[105, 115, 95, 110, 111, 105, 115, 121]⟩, ⟨#[103, 97, 105, 110]⟩, ⟨#[102, 111, 117, 110, 100]⟩, ⟨#[115, 99, 111, 114, 101, 100]⟩, ⟨#[114, 97, 110, 103, 101]⟩, ⟨#[112, 111, 112]⟩, ⟨#[99, 104, 101, 115, 115, 46, 113, 117, 105, 101, 115, 99, 101]⟩, ⟨#[113, 117, 105, 101, 115, 99, 101]⟩, ⟨#[105, 115, 95, 100, 114, 97, 119]⟩, ⟨#[105, 110, 95, 99, 104, 101, 99, 107]⟩, ⟨#[113, 117, 105, 101, 115, 99, 101, 95, 109, 111, 118, 101, 115]⟩, ⟨#[110, 111, 105, 115, 121]⟩, ⟨#[112, 105, 99, 107, 101, 114]⟩, ⟨#[99, 104, 101, 115, 115, 46, 112, 118, 115]⟩, ⟨#[73, 73, 68, 95, 68, 69, 80, 84, 72]⟩, ⟨#[115, 101, 97, 114, 99, 104]⟩, ⟨#[105, 115, 95, 112, 118]⟩, ⟨#[108, 111, 119]⟩, ⟨#[104, 105, 103, 104]⟩, ⟨#[107, 101, 121]⟩, ⟨#[108, 111, 111, 107, 95, 117, 112]⟩, ⟨#[115, 101, 97, 114, 99, 104, 95, 109, 111, 118, 101, 115]⟩, ⟨#[115, 116, 97, 114, 116]⟩, ⟨#[98, 101, 115, 116, 95, 109, 111, 118, 101]⟩, ⟨#[113, 117, 105, 101, 116, 115]⟩, ⟨#[105, 115, 95, 102, 105, 114, 115, 116]⟩, ⟨#[115, 101, 97, 114, 99, 104, 95, 99, 104, 105, 108, 100]⟩, ⟨#[107, 101, 101, 112, 95, 118, 97, 108, 117, 101]⟩, ⟨#[112, 114, 111, 98, 101]⟩, ⟨#[115, 97, 118, 101]⟩, ⟨#[99, 104, 101, 115, 115, 46, 116, 114, 101, 101, 103, 97, 109, 101]⟩, ⟨#[84, 114, 101, 101, 71, 97, 109, 101]⟩, ⟨#[99, 104, 105, 108, 100, 114, 101, 110]⟩, ⟨#[118, 97, 108, 117, 101, 115]⟩, ⟨#[99, 104, 101, 99, 107, 115]⟩, ⟨#[100, 114, 97, 119, 115]⟩, ⟨#[103, 97, 105, 110, 115]⟩, ⟨#[110, 111, 105, 115, 121, 95, 114, 111, 119, 115]⟩, ⟨#[103, 97, 105, 110, 95, 114, 111, 119, 115]⟩, ⟨#[112, 97, 116, 104]⟩, ⟨#[107, 105, 100, 115]⟩, ⟨#[110, 111, 32, 115, 117, 99, 104, 32, 99, 104, 105, 108, 100]⟩, ⟨#[110, 111, 116, 104, 105, 110, 103, 32, 105, 115, 32, 109, 97, 100, 101]⟩, ⟨#[108, 97, 119, 95, 110, 116, 48, 52, 53, 48, 95, 48, 49]⟩, ⟨#[95, 108, 97, 119, 95, 97, 110, 121]⟩, ⟨#[115, 116, 97, 116, 101]⟩, ⟨#[115, 99, 114, 105, 112, 116]⟩, ⟨#[95, 108, 97, 119, 95, 112, 117, 108, 108]⟩, ⟨#[115, 105, 122, 101]⟩, ⟨#[95, 108, 97, 119, 95, 118, 97, 108, 117, 101]⟩, ⟨#[110, 117, 109, 98, 101, 114]⟩, ⟨#[95, 108, 97, 119, 95, 116, 114, 101, 101]⟩, ⟨#[119, 105, 100, 116, 104]⟩, ⟨#[108, 111, 117, 100]⟩, ⟨#[110, 111, 100, 101]⟩, ⟨#[114, 111, 111, 109]⟩, ⟨#[99, 111, 117, 110, 116]⟩, ⟨#[114, 111, 119]⟩, ⟨#[95]⟩, ⟨#[109, 97, 114, 107]⟩, ⟨#[109, 97, 114, 107, 115]⟩, ⟨#[95, 108, 97, 119, 95, 115, 116, 97, 103, 101]⟩, ⟨#[119, 111, 114, 108, 100]⟩, ⟨#[116, 114, 101, 101]⟩, ⟨#[107, 105, 108, 108, 115]⟩, ⟨#[105, 110, 100, 101, 120]⟩, ⟨#[112, 97, 115, 116]⟩, ⟨#[115, 111, 114, 116, 101, 100]⟩, ⟨#[95, 108, 97, 119, 95, 113, 117, 105, 101, 116]⟩, ⟨#[115, 101, 101, 110]⟩, ⟨#[114, 101, 115, 116]⟩, ⟨#[116, 117, 114, 110]⟩, ⟨#[95, 108, 97, 119, 95, 117, 112, 100, 97, 116, 101]⟩, ⟨#[115, 104, 97, 114, 101]⟩, ⟨#[95, 108, 97, 119, 95, 114, 101, 119, 97, 114, 100]⟩, ⟨#[95, 108, 97, 119, 95, 115, 101, 101, 107]⟩, ⟨#[107, 105, 100]⟩, ⟨#[108, 97, 119]⟩, ⟨#[105, 115, 95, 109, 97, 105, 110]⟩, ⟨#[100, 117, 101]⟩, ⟨#[95, 95, 100, 111, 99, 95, 95]⟩, ⟨#[95, 95, 112, 97, 99, 107, 97, 103, 101, 95, 95]⟩, ⟨#[95, 95, 108, 111, 97, 100, 101, 114, 95, 95]⟩, ⟨#[95, 95, 115, 112, 101, 99, 95, 95]⟩, ⟨#[95, 95, 97, 110, 110, 111, 116, 97, 116, 105, 111, 110, 115, 95, 95]⟩, ⟨#[95, 95, 98, 117, 105, 108, 116, 105, 110, 115, 95, 95]⟩, ⟨#[95, 95, 102, 105, 108, 101, 95, 95]⟩, ⟨#[47, 99, 108, 97, 105, 109, 47, 99, 117, 116, 46, 112, 121]⟩, ⟨#[95, 95, 99, 97, 99, 104, 101, 100, 95, 95]⟩, ⟨#[83, 101, 97, 114, 99, 104, 67, 111, 110, 116, 101, 120, 116, 46, 95, 95, 105, 110, 105, 116, 95, 95]⟩, ⟨#[83, 101, 97, 114, 99, 104, 67, 111, 110, 116, 101, 120, 116, 46, 116, 105, 99, 107]⟩, ⟨#[95, 95, 109, 111, 100, 117, 108, 101, 95, 95]⟩, ⟨#[95, 95, 102, 105, 114, 115, 116, 108, 105, 110, 101, 110, 111, 95, 95]⟩, ⟨#[95, 95, 115, 116, 97, 116, 105, 99, 95, 97, 116, 116, 114, 105, 98, 117, 116, 101, 115, 95, 95]⟩, ⟨#[95, 95, 100, 105, 99, 116, 95, 95]⟩, ⟨#[95, 95, 119, 101, 97, 107, 114, 101, 102, 95, 95]⟩, ⟨#[72, 105, 115, 116, 111, 114, 121, 46, 95, 95, 105, 110, 105, 116, 95, 95]⟩, ⟨#[72, 105, 115, 116, 111, 114, 121, 46, 103, 101, 116]⟩, ⟨#[72, 105, 115, 116, 111, 114, 121, 46, 117, 112, 100, 97, 116, 101]⟩, ⟨#[72, 105, 115, 116, 111, 114, 121, 46, 98, 111, 110, 117, 115]⟩, ⟨#[75, 105, 108, 108, 101, 114, 115, 46, 95, 95, 105, 110, 105, 116, 95, 95]⟩, ⟨#[75, 105, 108, 108, 101, 114, 115, 46, 97, 100, 100]⟩, ⟨#[75, 105, 108, 108, 101, 114, 115, 46, 112, 97, 105, 114]⟩, ⟨#[75, 105, 108, 108, 101, 114, 115, 46, 99, 108, 101, 97, 114]⟩, ⟨#[80, 105, 99, 107, 101, 114, 46, 95, 95, 105, 110, 105, 116, 95, 95]⟩, ⟨#[80, 105, 99, 107, 101, 114, 46, 110, 101, 120, 116]⟩, ⟨#[80, 105, 99, 107, 101, 114, 46, 102, 105, 108, 108]⟩, ⟨#[80, 105, 99, 107, 101, 114, 46, 102, 105, 108, 108, 95, 116, 97, 98, 108, 101]⟩, ⟨#[80, 105, 99, 107, 101, 114, 46, 102, 105, 108, 108, 95, 103, 111, 111, 100]⟩, ⟨#[80, 105, 99, 107, 101, 114, 46, 102, 105, 108, 108, 95, 107, 105, 108, 108, 101, 114, 115]⟩, ⟨#[84, 114, 101, 101, 71, 97, 109, 101, 46, 95, 95, 105, 110, 105, 116, 95, 95]⟩, ⟨#[84, 114, 101, 101, 71, 97, 109, 101, 46, 109, 111, 118, 101, 115]⟩, ⟨#[84, 114, 101, 101, 71, 97, 109, 101, 46, 110, 111, 105, 115, 121]⟩, ⟨#[84, 114, 101, 101, 71, 97, 109, 101, 46, 109, 97, 107, 101]⟩, ⟨#[84, 114, 101, 101, 71, 97, 109, 101, 46, 117, 110, 100, 111]⟩, ⟨#[84, 114, 101, 101, 71, 97, 109, 101, 46, 118, 97, 108, 117, 101]⟩, ⟨#[84, 114, 101, 101, 71, 97, 109, 101, 46, 107, 101, 121]⟩, ⟨#[84, 114, 101, 101, 71, 97, 109, 101, 46, 105, 110, 95, 99, 104, 101, 99, 107]⟩, ⟨#[84, 114, 101, 101, 71, 97, 109, 101, 46, 105, 115, 95, 100, 114, 97, 119]⟩, ⟨#[84, 114, 101, 101, 71, 97, 109, 101, 46, 105, 115, 95, 110, 111, 105, 115, 121]⟩, ⟨#[84, 114, 101, 101, 71, 97, 109, 101, 46, 103, 97, 105, 110]⟩, ⟨#[84, 114, 101, 101, 71, 97, 109, 101, 46, 115, 105, 100, 101]⟩, ⟨#[60, 109, 111, 100, 117, 108, 101, 62]⟩, ⟨#[95, 95, 109, 97, 105, 110, 95, 95]⟩]
noncomputable abbrev st : Nat → Str := tbl namesR
theorem consEq {a b : Str} {l l' : List Str} (h : a = b) (t : l = l') : a :: l = b :: l' := by rw [h, t]
theorem names_eq : namesR = namesQ :=
    consEq (PySem.W.Fast.ofString_ofList ['_','w','a','l','l']) <|
    consEq (PySem.W.Fast.ofString_ofList ['k']) <|
    consEq (PySem.W.Fast.ofString_ofList ['N','O','_','M','O','V','E']) <|
    consEq (PySem.W.Fast.ofString_ofList ['_','_','n','a','m','e','_','_']) <|
    consEq (PySem.W.Fast.ofString_ofList ['c','h','e','s','s','.','v','a','l','u','e','s']) <|
    consEq (PySem.W.Fast.ofString_ofList ['M','A','T','E']) <|
    consEq (PySem.W.Fast.ofString_ofList ['D','R','A','W']) <|
    consEq (PySem.W.Fast.ofString_ofList ['I','N','F','I','N','I','T','E']) <|
    consEq (PySem.W.Fast.ofString_ofList ['M','A','X','_','P','L','Y']) <|
    consEq (PySem.W.Fast.ofString_ofList ['M','A','T','E','_','L','E','A','S','T']) <|
    consEq (PySem.W.Fast.ofString_ofList ['m','a','t','e','d','_','i','n']) <|
    consEq (PySem.W.Fast.ofString_ofList ['p','l','y']) <|
    consEq (PySem.W.Fast.ofString_ofList ['m','a','t','e','_','i','n']) <|
    consEq (PySem.W.Fast.ofString_ofList ['t','o','_','t','a','b','l','e']) <|
    consEq (PySem.W.Fast.ofString_ofList ['v','a','l','u','e']) <|
    consEq (PySem.W.Fast.ofString_ofList ['f','r','o','m','_','t','a','b','l','e']) <|
    consEq (PySem.W.Fast.ofString_ofList ['B','O','U','N','D','_','U','P','P','E','R']) <|
    consEq (PySem.W.Fast.ofString_ofList ['B','O','U','N','D','_','L','O','W','E','R']) <|
    consEq (PySem.W.Fast.ofString_ofList ['B','O','U','N','D','_','E','X','A','C','T']) <|
    consEq (PySem.W.Fast.ofString_ofList ['c','h','e','s','s','.','a','l','p','h','a','b','e','t','a']) <|
    consEq (PySem.W.Fast.ofString_ofList ['c','u','t','o','f','f']) <|
    consEq (PySem.W.Fast.ofString_ofList ['d','e','p','t','h']) <|
    consEq (PySem.W.Fast.ofString_ofList ['b','o','u','n','d']) <|
    consEq (PySem.W.Fast.ofString_ofList ['w','a','n','t']) <|
    consEq (PySem.W.Fast.ofString_ofList ['i','s','_','e','x','a','c','t']) <|
    consEq (PySem.W.Fast.ofString_ofList ['a','l','p','h','a']) <|
    consEq (PySem.W.Fast.ofString_ofList ['b','e','t','a']) <|
    consEq (PySem.W.Fast.ofString_ofList ['c','h','e','s','s','.','e','r','r','o','r','s']) <|
    consEq (PySem.W.Fast.ofString_ofList ['C','h','e','s','s','E','r','r','o','r']) <|
    consEq (PySem.W.Fast.ofString_ofList ['E','x','c','e','p','t','i','o','n']) <|
    consEq (PySem.W.Fast.ofString_ofList ['_','_','i','n','i','t','_','_']) <|
    consEq (PySem.W.Fast.ofString_ofList ['s','e','l','f']) <|
    consEq (PySem.W.Fast.ofString_ofList ['t','e','x','t']) <|
    consEq (PySem.W.Fast.ofString_ofList ['B','a','d','M','o','v','e']) <|
    consEq (PySem.W.Fast.ofString_ofList ['S','e','a','r','c','h','S','t','o','p','p','e','d']) <|
    consEq (PySem.W.Fast.ofString_ofList ['n','o','d','e','s']) <|
    consEq (PySem.W.Fast.ofString_ofList ['t','h','e',' ','n','o','d','e','s',' ','a','r','e',' ','u','s','e','d',' ','u','p']) <|
    consEq (PySem.W.Fast.ofString_ofList ['B','a','d','T','a','b','l','e']) <|
    consEq (PySem.W.Fast.ofString_ofList ['c','h','e','s','s','.','c','o','n','t','e','x','t']) <|
    consEq (PySem.W.Fast.ofString_ofList ['S','e','a','r','c','h','C','o','n','t','e','x','t']) <|
    consEq (PySem.W.Fast.ofString_ofList ['g','a','m','e']) <|
    consEq (PySem.W.Fast.ofString_ofList ['t','a','b','l','e']) <|
    consEq (PySem.W.Fast.ofString_ofList ['k','i','l','l','e','r','s']) <|
    consEq (PySem.W.Fast.ofString_ofList ['h','i','s','t','o','r','y']) <|
    consEq (PySem.W.Fast.ofString_ofList ['q','d','e','p','t','h']) <|
    consEq (PySem.W.Fast.ofString_ofList ['m','a','x','_','n','o','d','e','s']) <|
    consEq (PySem.W.Fast.ofString_ofList ['m','a','d','e']) <|
    consEq (PySem.W.Fast.ofString_ofList ['l','i','n','e','s']) <|
    consEq (PySem.W.Fast.ofString_ofList ['t','i','c','k']) <|
    consEq (PySem.W.Fast.ofString_ofList ['s','t','e','p','_','i','n','t','o']) <|
    consEq (PySem.W.Fast.ofString_ofList ['c','t','x']) <|
    consEq (PySem.W.Fast.ofString_ofList ['m','o','v','e']) <|
    consEq (PySem.W.Fast.ofString_ofList ['m','a','k','e']) <|
    consEq (PySem.W.Fast.ofString_ofList ['s','t','e','p','_','b','a','c','k']) <|
    consEq (PySem.W.Fast.ofString_ofList ['u','n','d','o']) <|
    consEq (PySem.W.Fast.ofString_ofList ['c','l','e','a','r','_','l','i','n','e']) <|
    consEq (PySem.W.Fast.ofString_ofList ['l','e','n']) <|
    consEq (PySem.W.Fast.ofString_ofList ['a','p','p','e','n','d']) <|
    consEq (PySem.W.Fast.ofString_ofList ['s','e','t','_','l','i','n','e']) <|
    consEq (PySem.W.Fast.ofString_ofList ['c','h','e','s','s','.','h','i','s','t','o','r','y']) <|
    consEq (PySem.W.Fast.ofString_ofList ['s','c','a','l','e','_','d','o','w','n']) <|
    consEq (PySem.W.Fast.ofString_ofList ['b','y']) <|
    consEq (PySem.W.Fast.ofString_ofList ['l','i','m','i','t']) <|
    consEq (PySem.W.Fast.ofString_ofList ['H','i','s','t','o','r','y']) <|
    consEq (PySem.W.Fast.ofString_ofList ['a',' ','h','i','s','t','o','r','y','\'','s',' ','l','i','m','i','t',' ','i','s',' ','1',' ','a','t',' ','l','e','a','s','t']) <|
    consEq (PySem.W.Fast.ofString_ofList ['s','c','o','r','e','s']) <|
    consEq (PySem.W.Fast.ofString_ofList ['g','e','t']) <|
    consEq (PySem.W.Fast.ofString_ofList ['s','i','d','e']) <|
    consEq (PySem.W.Fast.ofString_ofList ['u','p','d','a','t','e']) <|
    consEq (PySem.W.Fast.ofString_ofList ['b','o','n','u','s']) <|
    consEq (PySem.W.Fast.ofString_ofList ['m','a','x']) <|
    consEq (PySem.W.Fast.ofString_ofList ['m','i','n']) <|
    consEq (PySem.W.Fast.ofString_ofList ['a','t']) <|
    consEq (PySem.W.Fast.ofString_ofList ['o','l','d']) <|
    consEq (PySem.W.Fast.ofString_ofList ['a','b','s']) <|
    consEq (PySem.W.Fast.ofString_ofList ['a','g','e']) <|
    consEq (PySem.W.Fast.ofString_ofList ['K','i','l','l','e','r','s']) <|
    consEq (PySem.W.Fast.ofString_ofList ['p','l','i','e','s']) <|
    consEq (PySem.W.Fast.ofString_ofList ['f','i','r','s','t']) <|
    consEq (PySem.W.Fast.ofString_ofList ['s','e','c','o','n','d']) <|
    consEq (PySem.W.Fast.ofString_ofList ['a','d','d']) <|
    consEq (PySem.W.Fast.ofString_ofList ['p','a','i','r']) <|
    consEq (PySem.W.Fast.ofString_ofList ['c','l','e','a','r']) <|
    consEq (PySem.W.Fast.ofString_ofList ['r','e','w','a','r','d']) <|
    consEq (PySem.W.Fast.ofString_ofList ['b','e','s','t']) <|
    consEq (PySem.W.Fast.ofString_ofList ['t','r','i','e','d']) <|
    consEq (PySem.W.Fast.ofString_ofList ['c','h','e','s','s','.','p','i','c','k','e','r']) <|
    consEq (PySem.W.Fast.ofString_ofList ['T','A','B','L','E','_','S','T','A','G','E']) <|
    consEq (PySem.W.Fast.ofString_ofList ['G','O','O','D','_','S','T','A','G','E']) <|
    consEq (PySem.W.Fast.ofString_ofList ['K','I','L','L','E','R','_','S','T','A','G','E']) <|
    consEq (PySem.W.Fast.ofString_ofList ['Q','U','I','E','T','_','S','T','A','G','E']) <|
    consEq (PySem.W.Fast.ofString_ofList ['E','N','D','_','S','T','A','G','E']) <|
    consEq (PySem.W.Fast.ofString_ofList ['k','i','l','l','e','r','_','p','a','i','r']) <|
    consEq (PySem.W.Fast.ofString_ofList ['p','a','s','t','_','s','c','o','r','e']) <|
    consEq (PySem.W.Fast.ofString_ofList ['P','i','c','k','e','r']) <|
    consEq (PySem.W.Fast.ofString_ofList ['m','o','v','e','s']) <|
    consEq (PySem.W.Fast.ofString_ofList ['t','a','b','l','e','_','m','o','v','e']) <|
    consEq (PySem.W.Fast.ofString_ofList ['l','e','f','t']) <|
    consEq (PySem.W.Fast.ofString_ofList ['l','i','s','t']) <|
    consEq (PySem.W.Fast.ofString_ofList ['s','t','a','g','e']) <|
    consEq (PySem.W.Fast.ofString_ofList ['r','e','a','d','y']) <|
    consEq (PySem.W.Fast.ofString_ofList ['l','o','s','i','n','g']) <|
    consEq (PySem.W.Fast.ofString_ofList ['n','e','x','t']) <|
    consEq (PySem.W.Fast.ofString_ofList ['f','i','l','l']) <|
    consEq (PySem.W.Fast.ofString_ofList ['t','a','k','e','_','b','e','s','t']) <|
    consEq (PySem.W.Fast.ofString_ofList ['f','i','l','l','_','t','a','b','l','e']) <|
    consEq (PySem.W.Fast.ofString_ofList ['f','i','l','l','_','g','o','o','d']) <|
    consEq (PySem.W.Fast.ofString_ofList ['f','i','l','l','_','k','i','l','l','e','r','s']) <|
    consEq (PySem.W.Fast.ofString_ofList ['.','0']) <|
    consEq (PySem.W.Fast.ofString_ofList ['r','e','m','o','v','e']) <|
    consEq (PySem.W.Fast.ofString_ofList ['g','o','o','d']) <|
    consEq (PySem.W.Fast.ofString_ofList ['q','u','i','e','t']) <|
    consEq (PySem.W.Fast.ofString_ofList ['i','s','_','n','o','i','s','y']) <|
    consEq (PySem.W.Fast.ofString_ofList ['g','a','i','n']) <|
    consEq (PySem.W.Fast.ofString_ofList ['f','o','u','n','d']) <|
    consEq (PySem.W.Fast.ofString_ofList ['s','c','o','r','e','d']) <|
    consEq (PySem.W.Fast.ofString_ofList ['r','a','n','g','e']) <|
    consEq (PySem.W.Fast.ofString_ofList ['p','o','p']) <|
    consEq (PySem.W.Fast.ofString_ofList ['c','h','e','s','s','.','q','u','i','e','s','c','e']) <|
    consEq (PySem.W.Fast.ofString_ofList ['q','u','i','e','s','c','e']) <|
    consEq (PySem.W.Fast.ofString_ofList ['i','s','_','d','r','a','w']) <|
    consEq (PySem.W.Fast.ofString_ofList ['i','n','_','c','h','e','c','k']) <|
    consEq (PySem.W.Fast.ofString_ofList ['q','u','i','e','s','c','e','_','m','o','v','e','s']) <|
    consEq (PySem.W.Fast.ofString_ofList ['n','o','i','s','y']) <|
    consEq (PySem.W.Fast.ofString_ofList ['p','i','c','k','e','r']) <|
    consEq (PySem.W.Fast.ofString_ofList ['c','h','e','s','s','.','p','v','s']) <|
    consEq (PySem.W.Fast.ofString_ofList ['I','I','D','_','D','E','P','T','H']) <|
    consEq (PySem.W.Fast.ofString_ofList ['s','e','a','r','c','h']) <|
    consEq (PySem.W.Fast.ofString_ofList ['i','s','_','p','v']) <|
    consEq (PySem.W.Fast.ofString_ofList ['l','o','w']) <|
    consEq (PySem.W.Fast.ofString_ofList ['h','i','g','h']) <|
    consEq (PySem.W.Fast.ofString_ofList ['k','e','y']) <|
    consEq (PySem.W.Fast.ofString_ofList ['l','o','o','k','_','u','p']) <|
    consEq (PySem.W.Fast.ofString_ofList ['s','e','a','r','c','h','_','m','o','v','e','s']) <|
    consEq (PySem.W.Fast.ofString_ofList ['s','t','a','r','t']) <|
    consEq (PySem.W.Fast.ofString_ofList ['b','e','s','t','_','m','o','v','e']) <|
    consEq (PySem.W.Fast.ofString_ofList ['q','u','i','e','t','s']) <|
    consEq (PySem.W.Fast.ofString_ofList ['i','s','_','f','i','r','s','t']) <|
    consEq (PySem.W.Fast.ofString_ofList ['s','e','a','r','c','h','_','c','h','i','l','d']) <|
    consEq (PySem.W.Fast.ofString_ofList ['k','e','e','p','_','v','a','l','u','e']) <|
    consEq (PySem.W.Fast.ofString_ofList ['p','r','o','b','e']) <|
    consEq (PySem.W.Fast.ofString_ofList ['s','a','v','e']) <|
    consEq (PySem.W.Fast.ofString_ofList ['c','h','e','s','s','.','t','r','e','e','g','a','m','e']) <|
    consEq (PySem.W.Fast.ofString_ofList ['T','r','e','e','G','a','m','e']) <|
    consEq (PySem.W.Fast.ofString_ofList ['c','h','i','l','d','r','e','n']) <|
    consEq (PySem.W.Fast.ofString_ofList ['v','a','l','u','e','s']) <|
    consEq (PySem.W.Fast.ofString_ofList ['c','h','e','c','k','s']) <|
    consEq (PySem.W.Fast.ofString_ofList ['d','r','a','w','s']) <|
    consEq (PySem.W.Fast.ofString_ofList ['g','a','i','n','s']) <|
    consEq (PySem.W.Fast.ofString_ofList ['n','o','i','s','y','_','r','o','w','s']) <|
    consEq (PySem.W.Fast.ofString_ofList ['g','a','i','n','_','r','o','w','s']) <|
    consEq (PySem.W.Fast.ofString_ofList ['p','a','t','h']) <|
    consEq (PySem.W.Fast.ofString_ofList ['k','i','d','s']) <|
    consEq (PySem.W.Fast.ofString_ofList ['n','o',' ','s','u','c','h',' ','c','h','i','l','d']) <|
    consEq (PySem.W.Fast.ofString_ofList ['n','o','t','h','i','n','g',' ','i','s',' ','m','a','d','e']) <|
    consEq (PySem.W.Fast.ofString_ofList ['l','a','w','_','n','t','0','4','5','0','_','0','1']) <|
    consEq (PySem.W.Fast.ofString_ofList ['_','l','a','w','_','a','n','y']) <|
    consEq (PySem.W.Fast.ofString_ofList ['s','t','a','t','e']) <|
    consEq (PySem.W.Fast.ofString_ofList ['s','c','r','i','p','t']) <|
    consEq (PySem.W.Fast.ofString_ofList ['_','l','a','w','_','p','u','l','l']) <|
    consEq (PySem.W.Fast.ofString_ofList ['s','i','z','e']) <|
    consEq (PySem.W.Fast.ofString_ofList ['_','l','a','w','_','v','a','l','u','e']) <|
    consEq (PySem.W.Fast.ofString_ofList ['n','u','m','b','e','r']) <|
    consEq (PySem.W.Fast.ofString_ofList ['_','l','a','w','_','t','r','e','e']) <|
    consEq (PySem.W.Fast.ofString_ofList ['w','i','d','t','h']) <|
    consEq (PySem.W.Fast.ofString_ofList ['l','o','u','d']) <|
    consEq (PySem.W.Fast.ofString_ofList ['n','o','d','e']) <|
    consEq (PySem.W.Fast.ofString_ofList ['r','o','o','m']) <|
    consEq (PySem.W.Fast.ofString_ofList ['c','o','u','n','t']) <|
    consEq (PySem.W.Fast.ofString_ofList ['r','o','w']) <|
    consEq (PySem.W.Fast.ofString_ofList ['_']) <|
    consEq (PySem.W.Fast.ofString_ofList ['m','a','r','k']) <|
    consEq (PySem.W.Fast.ofString_ofList ['m','a','r','k','s']) <|
    consEq (PySem.W.Fast.ofString_ofList ['_','l','a','w','_','s','t','a','g','e']) <|
    consEq (PySem.W.Fast.ofString_ofList ['w','o','r','l','d']) <|
    consEq (PySem.W.Fast.ofString_ofList ['t','r','e','e']) <|
    consEq (PySem.W.Fast.ofString_ofList ['k','i','l','l','s']) <|
    consEq (PySem.W.Fast.ofString_ofList ['i','n','d','e','x']) <|
    consEq (PySem.W.Fast.ofString_ofList ['p','a','s','t']) <|
    consEq (PySem.W.Fast.ofString_ofList ['s','o','r','t','e','d']) <|
    consEq (PySem.W.Fast.ofString_ofList ['_','l','a','w','_','q','u','i','e','t']) <|
    consEq (PySem.W.Fast.ofString_ofList ['s','e','e','n']) <|
    consEq (PySem.W.Fast.ofString_ofList ['r','e','s','t']) <|
    consEq (PySem.W.Fast.ofString_ofList ['t','u','r','n']) <|
    consEq (PySem.W.Fast.ofString_ofList ['_','l','a','w','_','u','p','d','a','t','e']) <|
    consEq (PySem.W.Fast.ofString_ofList ['s','h','a','r','e']) <|
    consEq (PySem.W.Fast.ofString_ofList ['_','l','a','w','_','r','e','w','a','r','d']) <|
    consEq (PySem.W.Fast.ofString_ofList ['_','l','a','w','_','s','e','e','k']) <|
    consEq (PySem.W.Fast.ofString_ofList ['k','i','d']) <|
    consEq (PySem.W.Fast.ofString_ofList ['l','a','w']) <|
    consEq (PySem.W.Fast.ofString_ofList ['i','s','_','m','a','i','n']) <|
    consEq (PySem.W.Fast.ofString_ofList ['d','u','e']) <|
    consEq (PySem.W.Fast.ofString_ofList ['_','_','d','o','c','_','_']) <|
    consEq (PySem.W.Fast.ofString_ofList ['_','_','p','a','c','k','a','g','e','_','_']) <|
    consEq (PySem.W.Fast.ofString_ofList ['_','_','l','o','a','d','e','r','_','_']) <|
    consEq (PySem.W.Fast.ofString_ofList ['_','_','s','p','e','c','_','_']) <|
    consEq (PySem.W.Fast.ofString_ofList ['_','_','a','n','n','o','t','a','t','i','o','n','s','_','_']) <|
    consEq (PySem.W.Fast.ofString_ofList ['_','_','b','u','i','l','t','i','n','s','_','_']) <|
    consEq (PySem.W.Fast.ofString_ofList ['_','_','f','i','l','e','_','_']) <|
    consEq (PySem.W.Fast.ofString_ofList ['/','c','l','a','i','m','/','c','u','t','.','p','y']) <|
    consEq (PySem.W.Fast.ofString_ofList ['_','_','c','a','c','h','e','d','_','_']) <|
    consEq (PySem.W.Fast.ofString_ofList ['S','e','a','r','c','h','C','o','n','t','e','x','t','.','_','_','i','n','i','t','_','_']) <|
    consEq (PySem.W.Fast.ofString_ofList ['S','e','a','r','c','h','C','o','n','t','e','x','t','.','t','i','c','k']) <|
    consEq (PySem.W.Fast.ofString_ofList ['_','_','m','o','d','u','l','e','_','_']) <|
    consEq (PySem.W.Fast.ofString_ofList ['_','_','f','i','r','s','t','l','i','n','e','n','o','_','_']) <|
    consEq (PySem.W.Fast.ofString_ofList ['_','_','s','t','a','t','i','c','_','a','t','t','r','i','b','u','t','e','s','_','_']) <|
    consEq (PySem.W.Fast.ofString_ofList ['_','_','d','i','c','t','_','_']) <|
    consEq (PySem.W.Fast.ofString_ofList ['_','_','w','e','a','k','r','e','f','_','_']) <|
    consEq (PySem.W.Fast.ofString_ofList ['H','i','s','t','o','r','y','.','_','_','i','n','i','t','_','_']) <|
    consEq (PySem.W.Fast.ofString_ofList ['H','i','s','t','o','r','y','.','g','e','t']) <|
    consEq (PySem.W.Fast.ofString_ofList ['H','i','s','t','o','r','y','.','u','p','d','a','t','e']) <|
    consEq (PySem.W.Fast.ofString_ofList ['H','i','s','t','o','r','y','.','b','o','n','u','s']) <|
    consEq (PySem.W.Fast.ofString_ofList ['K','i','l','l','e','r','s','.','_','_','i','n','i','t','_','_']) <|
    consEq (PySem.W.Fast.ofString_ofList ['K','i','l','l','e','r','s','.','a','d','d']) <|
    consEq (PySem.W.Fast.ofString_ofList ['K','i','l','l','e','r','s','.','p','a','i','r']) <|
    consEq (PySem.W.Fast.ofString_ofList ['K','i','l','l','e','r','s','.','c','l','e','a','r']) <|
    consEq (PySem.W.Fast.ofString_ofList ['P','i','c','k','e','r','.','_','_','i','n','i','t','_','_']) <|
    consEq (PySem.W.Fast.ofString_ofList ['P','i','c','k','e','r','.','n','e','x','t']) <|
    consEq (PySem.W.Fast.ofString_ofList ['P','i','c','k','e','r','.','f','i','l','l']) <|
    consEq (PySem.W.Fast.ofString_ofList ['P','i','c','k','e','r','.','f','i','l','l','_','t','a','b','l','e']) <|
    consEq (PySem.W.Fast.ofString_ofList ['P','i','c','k','e','r','.','f','i','l','l','_','g','o','o','d']) <|
    consEq (PySem.W.Fast.ofString_ofList ['P','i','c','k','e','r','.','f','i','l','l','_','k','i','l','l','e','r','s']) <|
    consEq (PySem.W.Fast.ofString_ofList ['T','r','e','e','G','a','m','e','.','_','_','i','n','i','t','_','_']) <|
    consEq (PySem.W.Fast.ofString_ofList ['T','r','e','e','G','a','m','e','.','m','o','v','e','s']) <|
    consEq (PySem.W.Fast.ofString_ofList ['T','r','e','e','G','a','m','e','.','n','o','i','s','y']) <|
    consEq (PySem.W.Fast.ofString_ofList ['T','r','e','e','G','a','m','e','.','m','a','k','e']) <|
    consEq (PySem.W.Fast.ofString_ofList ['T','r','e','e','G','a','m','e','.','u','n','d','o']) <|
    consEq (PySem.W.Fast.ofString_ofList ['T','r','e','e','G','a','m','e','.','v','a','l','u','e']) <|
    consEq (PySem.W.Fast.ofString_ofList ['T','r','e','e','G','a','m','e','.','k','e','y']) <|
    consEq (PySem.W.Fast.ofString_ofList ['T','r','e','e','G','a','m','e','.','i','n','_','c','h','e','c','k']) <|
    consEq (PySem.W.Fast.ofString_ofList ['T','r','e','e','G','a','m','e','.','i','s','_','d','r','a','w']) <|
    consEq (PySem.W.Fast.ofString_ofList ['T','r','e','e','G','a','m','e','.','i','s','_','n','o','i','s','y']) <|
    consEq (PySem.W.Fast.ofString_ofList ['T','r','e','e','G','a','m','e','.','g','a','i','n']) <|
    consEq (PySem.W.Fast.ofString_ofList ['T','r','e','e','G','a','m','e','.','s','i','d','e']) <|
    consEq (PySem.W.Fast.ofString_ofList ['<','m','o','d','u','l','e','>']) <|
    consEq (PySem.W.Fast.ofString_ofList ['_','_','m','a','i','n','_','_']) <|
    rfl
/-- the parts of the given program -/
noncomputable def nthS : List Stmt → Nat → Stmt
  | [], _ => .Pass ⟨0, 0, 0, 0⟩
  | s :: _, 0 => s
  | _ :: r, n + 1 => nthS r n
noncomputable def fBody : Stmt → List Stmt
  | .FunctionDef _ _ b _ _ _ _ _ _ _ => b
  | .ClassDef _ _ _ b _ _ _ _ _ _ _ => b
  | _ => []
noncomputable def fArgs : Stmt → Arguments
  | .FunctionDef _ a _ _ _ _ _ _ _ _ => a
  | _ => ⟨[], [], none, [], [], none, []⟩
noncomputable def fScope : Stmt → Scope
  | .FunctionDef _ _ _ _ _ _ s _ _ _ => s
  | _ => ⟨.function, [], false, false, []⟩
noncomputable abbrev pw : Program := PySem.Challenge.pw_nt0450_01
noncomputable def F1 (i : Nat) : Stmt := nthS pw.main.body i
noncomputable def F2 (i j : Nat) : Stmt := nthS (fBody (F1 i)) j
noncomputable def gTab : List (Nat × Nat × Value) := [(3, 165, (.str (st 155) 947)), (192, 166, .none), (193, 167, .none), (194, 168, (.builtin "__main__.__loader__#opaque")), (195, 169, .none), (196, 170, (.ref 6)), (197, 171, (.ref 4)), (198, 173, (.str (st 199) 172)), (200, 174, .none), (0, 193, (.ref 21)), (2, 195, (.int 0 194)), (5, 199, (.int 32000 198)), (6, 201, (.int 0 200)), (7, 203, (.int 32001 202)), (8, 205, (.int 246 204)), (9, 207, (.int 31754 206)), (10, 214, (.ref 28)), (12, 221, (.ref 35)), (13, 229, (.ref 42)), (15, 237, (.ref 49)), (16, 239, (.int 1 238)), (17, 241, (.int 2 240)), (18, 243, (.int 3 242)), (20, 258, (.ref 56)), (28, 289, (.ref 73)), (33, 305, (.ref 86)), (34, 331, (.ref 106)), (37, 347, (.ref 118)), (39, 400, (.ref 144)), (49, 408, (.ref 155)), (53, 415, (.ref 162)), (55, 423, (.ref 169)), (58, 432, (.ref 176)), (60, 443, (.ref 183)), (63, 509, (.ref 228)), (76, 565, (.ref 270)), (83, 580, (.ref 281)), (87, 584, (.int 0 583)), (88, 586, (.int 1 585)), (89, 588, (.int 2 587)), (90, 590, (.int 3 589)), (91, 592, (.int 5 591)), (92, 600, (.ref 288)), (93, 609, (.ref 295)), (94, 691, (.ref 345)), (104, 700, (.ref 356)), (119, 716, (.ref 363)), (122, 732, (.ref 370)), (126, 736, (.int 4 735)), (127, 755, (.ref 377)), (133, 781, (.ref 384)), (138, 795, (.ref 391)), (132, 809, (.ref 398)), (139, 824, (.ref 405)), (143, 946, (.ref 497)), (156, 957, (.ref 508)), (159, 966, (.ref 515)), (161, 975, (.ref 522)), (163, 981, (.ref 527)), (173, 987, (.ref 532)), (180, 993, (.ref 537)), (184, 1005, (.ref 544)), (186, 1018, (.ref 551)), (187, 1024, (.ref 556)), (189, 1030, (.ref 561))]
noncomputable def ko_3 (P : Params) : Obj := dictOf (gTab.map fun e => ⟨PyData.keyHash P (st e.1), .str (st e.1) e.2.1, e.2.2⟩) 65
noncomputable def ko_27 (P : Params) : Obj := ⟨(.type "code"),none,(.fields #[(.str (st 10) 208),(.str (st 10) 209),(.str (st 199) 210),(.int 11 0),(.int 1 0),(.int 0 0),(.int 0 0),(.int 3 0),(.ref 22),(.bool true),(.int 181 0),(.ref 23),.none,(.ref 24),(.ref 25),(.ref 26),(.int 212 0),(.int 11 0),(.str (st 199) 213)]),#[]⟩
noncomputable def ko_28 (P : Params) : Obj := ⟨(.type "function"),none,(.func ⟨(st 10),(st 10),fArgs (F1 8),.stmts (fBody (F1 8)),fScope (F1 8),3,[],.none,.none,.none,(.str (st 4) 196),none,(.ref 27),.none,0⟩),#[]⟩
noncomputable def ko_34 (P : Params) : Obj := ⟨(.type "code"),none,(.fields #[(.str (st 12) 215),(.str (st 12) 216),(.str (st 199) 217),(.int 13 0),(.int 1 0),(.int 0 0),(.int 0 0),(.int 3 0),(.ref 29),(.bool true),(.int 181 0),(.ref 30),.none,(.ref 31),(.ref 32),(.ref 33),(.int 219 0),(.int 13 0),(.str (st 199) 220)]),#[]⟩
noncomputable def ko_35 (P : Params) : Obj := ⟨(.type "function"),none,(.func ⟨(st 12),(st 12),fArgs (F1 9),.stmts (fBody (F1 9)),fScope (F1 9),3,[],.none,.none,.none,(.str (st 4) 196),none,(.ref 34),.none,0⟩),#[]⟩
noncomputable def ko_133 (P : Params) : Obj := ⟨(.type "code"),none,(.fields #[(.str (st 30) 362),(.str (st 201) 363),(.str (st 199) 364),(.int 61 0),(.int 8 0),(.int 0 0),(.int 0 0),(.int 3 0),(.ref 128),(.bool true),(.int 181 0),(.ref 129),.none,(.ref 130),(.ref 131),(.ref 132),(.int 373 0),(.int 61 0),(.str (st 199) 374)]),#[]⟩
noncomputable def ko_134 (P : Params) : Obj := ⟨(.type "function"),none,(.func ⟨(st 30),(st 201),fArgs (F2 23 0),.stmts (fBody (F2 23 0)),fScope (F2 23 0),3,[],.none,.none,.none,(.str (st 38) 348),none,(.ref 133),.none,0⟩),#[]⟩
noncomputable def ko_140 (P : Params) : Obj := ⟨(.type "code"),none,(.fields #[(.str (st 48) 376),(.str (st 202) 377),(.str (st 199) 378),(.int 73 0),(.int 1 0),(.int 0 0),(.int 0 0),(.int 3 0),(.ref 135),(.bool true),(.int 181 0),(.ref 136),.none,(.ref 137),(.ref 138),(.ref 139),(.int 380 0),(.int 73 0),(.str (st 199) 381)]),#[]⟩
noncomputable def ko_141 (P : Params) : Obj := ⟨(.type "function"),none,(.func ⟨(st 48),(st 202),fArgs (F2 23 1),.stmts (fBody (F2 23 1)),fScope (F2 23 1),3,[],.none,.none,.none,(.str (st 38) 348),none,(.ref 140),.none,0⟩),#[]⟩
noncomputable def ko_143 (P : Params) : Obj := ⟨(.type "dict"),none,(.dict #[⟨PyData.keyHash P (st 203),(.str (st 203) 357),(.str (st 38) 348)⟩,⟨PyData.keyHash P (st 204),(.str (st 204) 361),(.int 59 360)⟩,⟨PyData.keyHash P (st 30),(.str (st 30) 375),(.ref 134)⟩,⟨PyData.keyHash P (st 48),(.str (st 48) 382),(.ref 141)⟩,⟨PyData.keyHash P (st 205),(.str (st 205) 393),(.ref 142)⟩,⟨PyData.keyHash P (st 206),(.str (st 206) 395),(.ref 145)⟩,⟨PyData.keyHash P (st 207),(.str (st 207) 397),(.ref 146)⟩,⟨PyData.keyHash P (st 192),(.str (st 192) 398),.none⟩] 4),#[]⟩
noncomputable def ko_144 (P : Params) : Obj := ⟨(.type "type"),none,(.cls ⟨(st 39),[(.type "object")],[(.ref 144),(.type "object")],143,(st 39),true,[],[],false,none,false⟩),#[none,none,some (.str (st 39) 350),some (.str (st 39) 358),some (.builtin "object.__new__"),some (.bool true)]⟩
noncomputable def ko_154 (P : Params) : Obj := ⟨(.type "code"),none,(.fields #[(.str (st 49) 401),(.str (st 49) 402),(.str (st 199) 403),(.int 77 0),(.int 2 0),(.int 0 0),(.int 0 0),(.int 3 0),(.ref 149),(.bool true),(.int 181 0),(.ref 150),.none,(.ref 151),(.ref 152),(.ref 153),(.int 406 0),(.int 77 0),(.str (st 199) 407)]),#[]⟩
noncomputable def ko_155 (P : Params) : Obj := ⟨(.type "function"),none,(.func ⟨(st 49),(st 49),fArgs (F1 24),.stmts (fBody (F1 24)),fScope (F1 24),3,[],.none,.none,.none,(.str (st 38) 348),none,(.ref 154),.none,0⟩),#[]⟩
noncomputable def ko_161 (P : Params) : Obj := ⟨(.type "code"),none,(.fields #[(.str (st 53) 409),(.str (st 53) 410),(.str (st 199) 411),(.int 80 0),(.int 1 0),(.int 0 0),(.int 0 0),(.int 3 0),(.ref 156),(.bool true),(.int 181 0),(.ref 157),.none,(.ref 158),(.ref 159),(.ref 160),(.int 413 0),(.int 80 0),(.str (st 199) 414)]),#[]⟩
noncomputable def ko_162 (P : Params) : Obj := ⟨(.type "function"),none,(.func ⟨(st 53),(st 53),fArgs (F1 25),.stmts (fBody (F1 25)),fScope (F1 25),3,[],.none,.none,.none,(.str (st 38) 348),none,(.ref 161),.none,0⟩),#[]⟩
noncomputable def ko_168 (P : Params) : Obj := ⟨(.type "code"),none,(.fields #[(.str (st 55) 416),(.str (st 55) 417),(.str (st 199) 418),(.int 83 0),(.int 2 0),(.int 0 0),(.int 0 0),(.int 3 0),(.ref 163),(.bool true),(.int 181 0),(.ref 164),.none,(.ref 165),(.ref 166),(.ref 167),(.int 421 0),(.int 83 0),(.str (st 199) 422)]),#[]⟩
noncomputable def ko_169 (P : Params) : Obj := ⟨(.type "function"),none,(.func ⟨(st 55),(st 55),fArgs (F1 26),.stmts (fBody (F1 26)),fScope (F1 26),3,[],.none,.none,.none,(.str (st 38) 348),none,(.ref 168),.none,0⟩),#[]⟩
noncomputable def ko_175 (P : Params) : Obj := ⟨(.type "code"),none,(.fields #[(.str (st 58) 424),(.str (st 58) 425),(.str (st 199) 426),(.int 87 0),(.int 3 0),(.int 0 0),(.int 0 0),(.int 3 0),(.ref 170),(.bool true),(.int 181 0),(.ref 171),.none,(.ref 172),(.ref 173),(.ref 174),(.int 430 0),(.int 87 0),(.str (st 199) 431)]),#[]⟩
noncomputable def ko_176 (P : Params) : Obj := ⟨(.type "function"),none,(.func ⟨(st 58),(st 58),fArgs (F1 27),.stmts (fBody (F1 27)),fScope (F1 27),3,[],.none,.none,.none,(.str (st 38) 348),none,(.ref 175),.none,0⟩),#[]⟩
noncomputable def ko_182 (P : Params) : Obj := ⟨(.type "code"),none,(.fields #[(.str (st 60) 435),(.str (st 60) 436),(.str (st 199) 437),(.int 90 0),(.int 3 0),(.int 0 0),(.int 0 0),(.int 3 0),(.ref 177),(.bool true),(.int 181 0),(.ref 178),.none,(.ref 179),(.ref 180),(.ref 181),(.int 441 0),(.int 90 0),(.str (st 199) 442)]),#[]⟩
noncomputable def ko_183 (P : Params) : Obj := ⟨(.type "function"),none,(.func ⟨(st 60),(st 60),fArgs (F1 29),.stmts (fBody (F1 29)),fScope (F1 29),3,[],.none,.none,.none,(.str (st 59) 433),none,(.ref 182),.none,0⟩),#[]⟩
noncomputable def ko_196 (P : Params) : Obj := ⟨(.type "code"),none,(.fields #[(.str (st 30) 456),(.str (st 208) 457),(.str (st 199) 458),(.int 96 0),(.int 2 0),(.int 0 0),(.int 0 0),(.int 3 0),(.ref 191),(.bool true),(.int 181 0),(.ref 192),.none,(.ref 193),(.ref 194),(.ref 195),(.int 461 0),(.int 96 0),(.str (st 199) 462)]),#[]⟩
noncomputable def ko_197 (P : Params) : Obj := ⟨(.type "function"),none,(.func ⟨(st 30),(st 208),fArgs (F2 30 0),.stmts (fBody (F2 30 0)),fScope (F2 30 0),3,[],.none,.none,.none,(.str (st 59) 433),none,(.ref 196),.none,0⟩),#[]⟩
noncomputable def ko_203 (P : Params) : Obj := ⟨(.type "code"),none,(.fields #[(.str (st 66) 464),(.str (st 209) 465),(.str (st 199) 466),(.int 102 0),(.int 3 0),(.int 0 0),(.int 0 0),(.int 3 0),(.ref 198),(.bool true),(.int 181 0),(.ref 199),.none,(.ref 200),(.ref 201),(.ref 202),(.int 470 0),(.int 102 0),(.str (st 199) 471)]),#[]⟩
noncomputable def ko_204 (P : Params) : Obj := ⟨(.type "function"),none,(.func ⟨(st 66),(st 209),fArgs (F2 30 1),.stmts (fBody (F2 30 1)),fScope (F2 30 1),3,[],.none,.none,.none,(.str (st 59) 433),none,(.ref 203),.none,0⟩),#[]⟩
noncomputable def ko_210 (P : Params) : Obj := ⟨(.type "code"),none,(.fields #[(.str (st 68) 473),(.str (st 210) 474),(.str (st 199) 475),(.int 105 0),(.int 4 0),(.int 0 0),(.int 0 0),(.int 3 0),(.ref 205),(.bool true),(.int 181 0),(.ref 206),.none,(.ref 207),(.ref 208),(.ref 209),(.int 482 0),(.int 105 0),(.str (st 199) 483)]),#[]⟩
noncomputable def ko_211 (P : Params) : Obj := ⟨(.type "function"),none,(.func ⟨(st 68),(st 210),fArgs (F2 30 2),.stmts (fBody (F2 30 2)),fScope (F2 30 2),3,[],.none,.none,.none,(.str (st 59) 433),none,(.ref 210),.none,0⟩),#[]⟩
noncomputable def ko_217 (P : Params) : Obj := ⟨(.type "code"),none,(.fields #[(.str (st 69) 485),(.str (st 211) 486),(.str (st 199) 487),(.int 111 0),(.int 2 0),(.int 0 0),(.int 0 0),(.int 3 0),(.ref 212),(.bool true),(.int 181 0),(.ref 213),.none,(.ref 214),(.ref 215),(.ref 216),(.int 490 0),(.int 111 0),(.str (st 199) 491)]),#[]⟩
noncomputable def ko_218 (P : Params) : Obj := ⟨(.type "function"),none,(.func ⟨(st 69),(st 211),fArgs (F2 30 3),.stmts (fBody (F2 30 3)),fScope (F2 30 3),3,[],.none,.none,.none,(.str (st 59) 433),none,(.ref 217),.none,0⟩),#[]⟩
noncomputable def ko_227 (P : Params) : Obj := ⟨(.type "dict"),none,(.dict #[⟨PyData.keyHash P (st 203),(.str (st 203) 451),(.str (st 59) 433)⟩,⟨PyData.keyHash P (st 204),(.str (st 204) 455),(.int 94 454)⟩,⟨PyData.keyHash P (st 30),(.str (st 30) 463),(.ref 197)⟩,⟨PyData.keyHash P (st 66),(.str (st 66) 472),(.ref 204)⟩,⟨PyData.keyHash P (st 68),(.str (st 68) 484),(.ref 211)⟩,⟨PyData.keyHash P (st 69),(.str (st 69) 492),(.ref 218)⟩,⟨PyData.keyHash P (st 75),(.str (st 75) 499),(.ref 225)⟩,⟨PyData.keyHash P (st 205),(.str (st 205) 502),(.ref 226)⟩,⟨PyData.keyHash P (st 206),(.str (st 206) 504),(.ref 229)⟩,⟨PyData.keyHash P (st 207),(.str (st 207) 506),(.ref 230)⟩,⟨PyData.keyHash P (st 192),(.str (st 192) 507),.none⟩] 4),#[]⟩
noncomputable def ko_228 (P : Params) : Obj := ⟨(.type "type"),none,(.cls ⟨(st 63),[(.type "object")],[(.ref 228),(.type "object")],227,(st 63),true,[],[],false,none,false⟩),#[none,none,some (.str (st 63) 444),some (.str (st 63) 452),some (.builtin "object.__new__"),some (.bool true)]⟩
noncomputable def ko_245 (P : Params) : Obj := ⟨(.type "code"),none,(.fields #[(.str (st 30) 522),(.str (st 212) 523),(.str (st 199) 524),(.int 118 0),(.int 2 0),(.int 0 0),(.int 0 0),(.int 3 0),(.ref 240),(.bool true),(.int 181 0),(.ref 241),.none,(.ref 242),(.ref 243),(.ref 244),(.int 527 0),(.int 118 0),(.str (st 199) 528)]),#[]⟩
noncomputable def ko_246 (P : Params) : Obj := ⟨(.type "function"),none,(.func ⟨(st 30),(st 212),fArgs (F2 31 0),.stmts (fBody (F2 31 0)),fScope (F2 31 0),3,[],.none,.none,.none,(.str (st 59) 433),none,(.ref 245),.none,0⟩),#[]⟩
noncomputable def ko_252 (P : Params) : Obj := ⟨(.type "code"),none,(.fields #[(.str (st 80) 530),(.str (st 213) 531),(.str (st 199) 532),(.int 123 0),(.int 3 0),(.int 0 0),(.int 0 0),(.int 3 0),(.ref 247),(.bool true),(.int 181 0),(.ref 248),.none,(.ref 249),(.ref 250),(.ref 251),(.int 536 0),(.int 123 0),(.str (st 199) 537)]),#[]⟩
noncomputable def ko_253 (P : Params) : Obj := ⟨(.type "function"),none,(.func ⟨(st 80),(st 213),fArgs (F2 31 1),.stmts (fBody (F2 31 1)),fScope (F2 31 1),3,[],.none,.none,.none,(.str (st 59) 433),none,(.ref 252),.none,0⟩),#[]⟩
noncomputable def ko_259 (P : Params) : Obj := ⟨(.type "code"),none,(.fields #[(.str (st 81) 539),(.str (st 214) 540),(.str (st 199) 541),(.int 128 0),(.int 2 0),(.int 0 0),(.int 0 0),(.int 3 0),(.ref 254),(.bool true),(.int 181 0),(.ref 255),.none,(.ref 256),(.ref 257),(.ref 258),(.int 544 0),(.int 128 0),(.str (st 199) 545)]),#[]⟩
noncomputable def ko_260 (P : Params) : Obj := ⟨(.type "function"),none,(.func ⟨(st 81),(st 214),fArgs (F2 31 2),.stmts (fBody (F2 31 2)),fScope (F2 31 2),3,[],.none,.none,.none,(.str (st 59) 433),none,(.ref 259),.none,0⟩),#[]⟩
noncomputable def ko_266 (P : Params) : Obj := ⟨(.type "code"),none,(.fields #[(.str (st 82) 547),(.str (st 215) 548),(.str (st 199) 549),(.int 133 0),(.int 2 0),(.int 0 0),(.int 0 0),(.int 3 0),(.ref 261),(.bool true),(.int 181 0),(.ref 262),.none,(.ref 263),(.ref 264),(.ref 265),(.int 552 0),(.int 133 0),(.str (st 199) 553)]),#[]⟩
noncomputable def ko_267 (P : Params) : Obj := ⟨(.type "function"),none,(.func ⟨(st 82),(st 215),fArgs (F2 31 3),.stmts (fBody (F2 31 3)),fScope (F2 31 3),3,[],.none,.none,.none,(.str (st 59) 433),none,(.ref 266),.none,0⟩),#[]⟩
noncomputable def ko_269 (P : Params) : Obj := ⟨(.type "dict"),none,(.dict #[⟨PyData.keyHash P (st 203),(.str (st 203) 517),(.str (st 59) 433)⟩,⟨PyData.keyHash P (st 204),(.str (st 204) 521),(.int 116 520)⟩,⟨PyData.keyHash P (st 30),(.str (st 30) 529),(.ref 246)⟩,⟨PyData.keyHash P (st 80),(.str (st 80) 538),(.ref 253)⟩,⟨PyData.keyHash P (st 81),(.str (st 81) 546),(.ref 260)⟩,⟨PyData.keyHash P (st 82),(.str (st 82) 554),(.ref 267)⟩,⟨PyData.keyHash P (st 205),(.str (st 205) 558),(.ref 268)⟩,⟨PyData.keyHash P (st 206),(.str (st 206) 560),(.ref 271)⟩,⟨PyData.keyHash P (st 207),(.str (st 207) 562),(.ref 272)⟩,⟨PyData.keyHash P (st 192),(.str (st 192) 563),.none⟩] 4),#[]⟩
noncomputable def ko_270 (P : Params) : Obj := ⟨(.type "type"),none,(.cls ⟨(st 76),[(.type "object")],[(.ref 270),(.type "object")],269,(st 76),true,[],[],false,none,false⟩),#[none,none,some (.str (st 76) 510),some (.str (st 76) 518),some (.builtin "object.__new__"),some (.bool true)]⟩
noncomputable def ko_280 (P : Params) : Obj := ⟨(.type "code"),none,(.fields #[(.str (st 83) 566),(.str (st 83) 567),(.str (st 199) 568),(.int 137 0),(.int 7 0),(.int 0 0),(.int 0 0),(.int 3 0),(.ref 275),(.bool true),(.int 181 0),(.ref 276),.none,(.ref 277),(.ref 278),(.ref 279),(.int 578 0),(.int 137 0),(.str (st 199) 579)]),#[]⟩
noncomputable def ko_281 (P : Params) : Obj := ⟨(.type "function"),none,(.func ⟨(st 83),(st 83),fArgs (F1 32),.stmts (fBody (F1 32)),fScope (F1 32),3,[],.none,.none,.none,(.str (st 59) 433),none,(.ref 280),.none,0⟩),#[]⟩
noncomputable def ko_287 (P : Params) : Obj := ⟨(.type "code"),none,(.fields #[(.str (st 92) 593),(.str (st 92) 594),(.str (st 199) 595),(.int 150 0),(.int 2 0),(.int 0 0),(.int 0 0),(.int 3 0),(.ref 282),(.bool true),(.int 181 0),(.ref 283),.none,(.ref 284),(.ref 285),(.ref 286),(.int 598 0),(.int 150 0),(.str (st 199) 599)]),#[]⟩
noncomputable def ko_288 (P : Params) : Obj := ⟨(.type "function"),none,(.func ⟨(st 92),(st 92),fArgs (F1 39),.stmts (fBody (F1 39)),fScope (F1 39),3,[],.none,.none,.none,(.str (st 86) 581),none,(.ref 287),.none,0⟩),#[]⟩
noncomputable def ko_294 (P : Params) : Obj := ⟨(.type "code"),none,(.fields #[(.str (st 93) 601),(.str (st 93) 602),(.str (st 199) 603),(.int 154 0),(.int 3 0),(.int 0 0),(.int 0 0),(.int 3 0),(.ref 289),(.bool true),(.int 181 0),(.ref 290),.none,(.ref 291),(.ref 292),(.ref 293),(.int 607 0),(.int 154 0),(.str (st 199) 608)]),#[]⟩
noncomputable def ko_295 (P : Params) : Obj := ⟨(.type "function"),none,(.func ⟨(st 93),(st 93),fArgs (F1 40),.stmts (fBody (F1 40)),fScope (F1 40),3,[],.none,.none,.none,(.str (st 86) 581),none,(.ref 294),.none,0⟩),#[]⟩
noncomputable def ko_308 (P : Params) : Obj := ⟨(.type "code"),none,(.fields #[(.str (st 30) 622),(.str (st 216) 623),(.str (st 199) 624),(.int 160 0),(.int 7 0),(.int 0 0),(.int 0 0),(.int 3 0),(.ref 303),(.bool true),(.int 181 0),(.ref 304),.none,(.ref 305),(.ref 306),(.ref 307),(.int 632 0),(.int 160 0),(.str (st 199) 633)]),#[]⟩
noncomputable def ko_309 (P : Params) : Obj := ⟨(.type "function"),none,(.func ⟨(st 30),(st 216),fArgs (F2 41 0),.stmts (fBody (F2 41 0)),fScope (F2 41 0),3,[],.none,.none,.none,(.str (st 86) 581),none,(.ref 308),.none,0⟩),#[]⟩
noncomputable def ko_315 (P : Params) : Obj := ⟨(.type "code"),none,(.fields #[(.str (st 102) 635),(.str (st 217) 636),(.str (st 199) 637),(.int 171 0),(.int 1 0),(.int 0 0),(.int 0 0),(.int 3 0),(.ref 310),(.bool true),(.int 181 0),(.ref 311),.none,(.ref 312),(.ref 313),(.ref 314),(.int 639 0),(.int 171 0),(.str (st 199) 640)]),#[]⟩
noncomputable def ko_316 (P : Params) : Obj := ⟨(.type "function"),none,(.func ⟨(st 102),(st 217),fArgs (F2 41 1),.stmts (fBody (F2 41 1)),fScope (F2 41 1),3,[],.none,.none,.none,(.str (st 86) 581),none,(.ref 315),.none,0⟩),#[]⟩
noncomputable def ko_320 (P : Params) : Obj := ⟨(.type "code"),none,(.fields #[(.str (st 103) 642),(.str (st 218) 643),(.str (st 199) 644),(.int 179 0),(.int 2 0),(.int 0 0),(.int 0 0),(.int 3 0),(.ref 317),(.bool true),(.int 181 0),(.ref 318),.none,.none,.none,(.ref 319),(.int 645 0),(.int 179 0),(.str (st 199) 646)]),#[]⟩
noncomputable def ko_321 (P : Params) : Obj := ⟨(.type "function"),none,(.func ⟨(st 103),(st 218),fArgs (F2 41 2),.stmts (fBody (F2 41 2)),fScope (F2 41 2),3,[],.none,.none,.none,(.str (st 86) 581),none,(.ref 320),.none,0⟩),#[]⟩
noncomputable def ko_327 (P : Params) : Obj := ⟨(.type "code"),none,(.fields #[(.str (st 105) 648),(.str (st 219) 649),(.str (st 199) 650),(.int 191 0),(.int 1 0),(.int 0 0),(.int 0 0),(.int 3 0),(.ref 322),(.bool true),(.int 181 0),(.ref 323),.none,(.ref 324),(.ref 325),(.ref 326),(.int 652 0),(.int 191 0),(.str (st 199) 653)]),#[]⟩
noncomputable def ko_328 (P : Params) : Obj := ⟨(.type "function"),none,(.func ⟨(st 105),(st 219),fArgs (F2 41 3),.stmts (fBody (F2 41 3)),fScope (F2 41 3),3,[],.none,.none,.none,(.str (st 86) 581),none,(.ref 327),.none,0⟩),#[]⟩
noncomputable def ko_334 (P : Params) : Obj := ⟨(.type "code"),none,(.fields #[(.str (st 106) 655),(.str (st 220) 656),(.str (st 199) 657),(.int 197 0),(.int 1 0),(.int 0 0),(.int 0 0),(.int 3 0),(.ref 329),(.bool true),(.int 181 0),(.ref 330),.none,(.ref 331),(.ref 332),(.ref 333),(.int 663 0),(.int 197 0),(.str (st 199) 664)]),#[]⟩
noncomputable def ko_335 (P : Params) : Obj := ⟨(.type "function"),none,(.func ⟨(st 106),(st 220),fArgs (F2 41 4),.stmts (fBody (F2 41 4)),fScope (F2 41 4),3,[],.none,.none,.none,(.str (st 86) 581),none,(.ref 334),.none,0⟩),#[]⟩
noncomputable def ko_341 (P : Params) : Obj := ⟨(.type "code"),none,(.fields #[(.str (st 107) 666),(.str (st 221) 667),(.str (st 199) 668),(.int 212 0),(.int 1 0),(.int 0 0),(.int 0 0),(.int 3 0),(.ref 336),(.bool true),(.int 181 0),(.ref 337),.none,(.ref 338),(.ref 339),(.ref 340),(.int 672 0),(.int 212 0),(.str (st 199) 673)]),#[]⟩
noncomputable def ko_342 (P : Params) : Obj := ⟨(.type "function"),none,(.func ⟨(st 107),(st 221),fArgs (F2 41 5),.stmts (fBody (F2 41 5)),fScope (F2 41 5),3,[],.none,.none,.none,(.str (st 86) 581),none,(.ref 341),.none,0⟩),#[]⟩
noncomputable def ko_344 (P : Params) : Obj := ⟨(.type "dict"),none,(.dict #[⟨PyData.keyHash P (st 203),(.str (st 203) 617),(.str (st 86) 581)⟩,⟨PyData.keyHash P (st 204),(.str (st 204) 621),(.int 158 620)⟩,⟨PyData.keyHash P (st 30),(.str (st 30) 634),(.ref 309)⟩,⟨PyData.keyHash P (st 102),(.str (st 102) 641),(.ref 316)⟩,⟨PyData.keyHash P (st 103),(.str (st 103) 647),(.ref 321)⟩,⟨PyData.keyHash P (st 105),(.str (st 105) 654),(.ref 328)⟩,⟨PyData.keyHash P (st 106),(.str (st 106) 665),(.ref 335)⟩,⟨PyData.keyHash P (st 107),(.str (st 107) 674),(.ref 342)⟩,⟨PyData.keyHash P (st 205),(.str (st 205) 684),(.ref 343)⟩,⟨PyData.keyHash P (st 206),(.str (st 206) 686),(.ref 346)⟩,⟨PyData.keyHash P (st 207),(.str (st 207) 688),(.ref 347)⟩,⟨PyData.keyHash P (st 192),(.str (st 192) 689),.none⟩] 4),#[]⟩
noncomputable def ko_345 (P : Params) : Obj := ⟨(.type "type"),none,(.cls ⟨(st 94),[(.type "object")],[(.ref 345),(.type "object")],344,(st 94),true,[],[],false,none,false⟩),#[none,none,some (.str (st 94) 610),some (.str (st 94) 618),some (.builtin "object.__new__"),some (.bool true)]⟩
noncomputable def ko_355 (P : Params) : Obj := ⟨(.type "code"),none,(.fields #[(.str (st 104) 692),(.str (st 104) 693),(.str (st 199) 694),(.int 219 0),(.int 1 0),(.int 0 0),(.int 0 0),(.int 3 0),(.ref 350),(.bool true),(.int 181 0),(.ref 351),.none,(.ref 352),(.ref 353),(.ref 354),(.int 698 0),(.int 219 0),(.str (st 199) 699)]),#[]⟩
noncomputable def ko_356 (P : Params) : Obj := ⟨(.type "function"),none,(.func ⟨(st 104),(st 104),fArgs (F1 42),.stmts (fBody (F1 42)),fScope (F1 42),3,[],.none,.none,.none,(.str (st 86) 581),none,(.ref 355),.none,0⟩),#[]⟩
noncomputable def ko_362 (P : Params) : Obj := ⟨(.type "code"),none,(.fields #[(.str (st 119) 703),(.str (st 119) 704),(.str (st 199) 705),(.int 226 0),(.int 5 0),(.int 0 0),(.int 0 0),(.int 3 0),(.ref 357),(.bool true),(.int 181 0),(.ref 358),.none,(.ref 359),(.ref 360),(.ref 361),(.int 714 0),(.int 226 0),(.str (st 199) 715)]),#[]⟩
noncomputable def ko_363 (P : Params) : Obj := ⟨(.type "function"),none,(.func ⟨(st 119),(st 119),fArgs (F1 44),.stmts (fBody (F1 44)),fScope (F1 44),3,[],.none,.none,.none,(.str (st 118) 701),none,(.ref 362),.none,0⟩),#[]⟩
noncomputable def ko_369 (P : Params) : Obj := ⟨(.type "code"),none,(.fields #[(.str (st 122) 717),(.str (st 122) 718),(.str (st 199) 719),(.int 242 0),(.int 7 0),(.int 0 0),(.int 0 0),(.int 3 0),(.ref 364),(.bool true),(.int 181 0),(.ref 365),.none,(.ref 366),(.ref 367),(.ref 368),(.int 730 0),(.int 242 0),(.str (st 199) 731)]),#[]⟩
noncomputable def ko_370 (P : Params) : Obj := ⟨(.type "function"),none,(.func ⟨(st 122),(st 122),fArgs (F1 45),.stmts (fBody (F1 45)),fScope (F1 45),3,[],.none,.none,.none,(.str (st 118) 701),none,(.ref 369),.none,0⟩),#[]⟩
noncomputable def ko_376 (P : Params) : Obj := ⟨(.type "code"),none,(.fields #[(.str (st 127) 737),(.str (st 127) 738),(.str (st 199) 739),(.int 258 0),(.int 6 0),(.int 0 0),(.int 0 0),(.int 3 0),(.ref 371),(.bool true),(.int 181 0),(.ref 372),.none,(.ref 373),(.ref 374),(.ref 375),(.int 753 0),(.int 258 0),(.str (st 199) 754)]),#[]⟩
noncomputable def ko_377 (P : Params) : Obj := ⟨(.type "function"),none,(.func ⟨(st 127),(st 127),fArgs (F1 48),.stmts (fBody (F1 48)),fScope (F1 48),3,[],.none,.none,.none,(.str (st 125) 733),none,(.ref 376),.none,0⟩),#[]⟩
noncomputable def ko_383 (P : Params) : Obj := ⟨(.type "code"),none,(.fields #[(.str (st 133) 756),(.str (st 133) 757),(.str (st 199) 758),(.int 288 0),(.int 9 0),(.int 0 0),(.int 0 0),(.int 3 0),(.ref 378),(.bool true),(.int 181 0),(.ref 379),.none,(.ref 380),(.ref 381),(.ref 382),(.int 779 0),(.int 288 0),(.str (st 199) 780)]),#[]⟩
noncomputable def ko_384 (P : Params) : Obj := ⟨(.type "function"),none,(.func ⟨(st 133),(st 133),fArgs (F1 49),.stmts (fBody (F1 49)),fScope (F1 49),3,[],.none,.none,.none,(.str (st 125) 733),none,(.ref 383),.none,0⟩),#[]⟩
noncomputable def ko_390 (P : Params) : Obj := ⟨(.type "code"),none,(.fields #[(.str (st 138) 782),(.str (st 138) 783),(.str (st 199) 784),(.int 322 0),(.int 7 0),(.int 0 0),(.int 0 0),(.int 3 0),(.ref 385),(.bool true),(.int 181 0),(.ref 386),.none,(.ref 387),(.ref 388),(.ref 389),(.int 793 0),(.int 322 0),(.str (st 199) 794)]),#[]⟩
noncomputable def ko_391 (P : Params) : Obj := ⟨(.type "function"),none,(.func ⟨(st 138),(st 138),fArgs (F1 50),.stmts (fBody (F1 50)),fScope (F1 50),3,[],.none,.none,.none,(.str (st 125) 733),none,(.ref 390),.none,0⟩),#[]⟩
noncomputable def ko_397 (P : Params) : Obj := ⟨(.type "code"),none,(.fields #[(.str (st 132) 796),(.str (st 132) 797),(.str (st 199) 798),(.int 329 0),(.int 6 0),(.int 0 0),(.int 0 0),(.int 3 0),(.ref 392),(.bool true),(.int 181 0),(.ref 393),.none,(.ref 394),(.ref 395),(.ref 396),(.int 807 0),(.int 329 0),(.str (st 199) 808)]),#[]⟩
noncomputable def ko_398 (P : Params) : Obj := ⟨(.type "function"),none,(.func ⟨(st 132),(st 132),fArgs (F1 51),.stmts (fBody (F1 51)),fScope (F1 51),3,[],.none,.none,.none,(.str (st 125) 733),none,(.ref 397),.none,0⟩),#[]⟩
noncomputable def ko_404 (P : Params) : Obj := ⟨(.type "code"),none,(.fields #[(.str (st 139) 810),(.str (st 139) 811),(.str (st 199) 812),(.int 339 0),(.int 8 0),(.int 0 0),(.int 0 0),(.int 3 0),(.ref 399),(.bool true),(.int 181 0),(.ref 400),.none,(.ref 401),(.ref 402),(.ref 403),(.int 822 0),(.int 339 0),(.str (st 199) 823)]),#[]⟩
noncomputable def ko_405 (P : Params) : Obj := ⟨(.type "function"),none,(.func ⟨(st 139),(st 139),fArgs (F1 52),.stmts (fBody (F1 52)),fScope (F1 52),3,[],.none,.none,.none,(.str (st 125) 733),none,(.ref 404),.none,0⟩),#[]⟩
noncomputable def ko_418 (P : Params) : Obj := ⟨(.type "code"),none,(.fields #[(.str (st 30) 839),(.str (st 222) 840),(.str (st 199) 841),(.int 351 0),(.int 7 0),(.int 0 0),(.int 0 0),(.int 3 0),(.ref 413),(.bool true),(.int 181 0),(.ref 414),.none,(.ref 415),(.ref 416),(.ref 417),(.int 849 0),(.int 351 0),(.str (st 199) 850)]),#[]⟩
noncomputable def ko_419 (P : Params) : Obj := ⟨(.type "function"),none,(.func ⟨(st 30),(st 222),fArgs (F2 54 0),.stmts (fBody (F2 54 0)),fScope (F2 54 0),3,[],.none,.none,.none,(.str (st 142) 825),none,(.ref 418),.none,0⟩),#[]⟩
noncomputable def ko_425 (P : Params) : Obj := ⟨(.type "code"),none,(.fields #[(.str (st 95) 852),(.str (st 223) 853),(.str (st 199) 854),(.int 360 0),(.int 1 0),(.int 0 0),(.int 0 0),(.int 3 0),(.ref 420),(.bool true),(.int 181 0),(.ref 421),.none,(.ref 422),(.ref 423),(.ref 424),(.int 856 0),(.int 360 0),(.str (st 199) 857)]),#[]⟩
noncomputable def ko_426 (P : Params) : Obj := ⟨(.type "function"),none,(.func ⟨(st 95),(st 223),fArgs (F2 54 1),.stmts (fBody (F2 54 1)),fScope (F2 54 1),3,[],.none,.none,.none,(.str (st 142) 825),none,(.ref 425),.none,0⟩),#[]⟩
noncomputable def ko_430 (P : Params) : Obj := ⟨(.type "code"),none,(.fields #[(.str (st 123) 859),(.str (st 224) 860),(.str (st 199) 861),(.int 363 0),(.int 1 0),(.int 0 0),(.int 0 0),(.int 3 0),(.ref 427),(.bool true),(.int 181 0),(.ref 428),.none,.none,.none,(.ref 429),(.int 862 0),(.int 363 0),(.str (st 199) 863)]),#[]⟩
noncomputable def ko_431 (P : Params) : Obj := ⟨(.type "function"),none,(.func ⟨(st 123),(st 224),fArgs (F2 54 2),.stmts (fBody (F2 54 2)),fScope (F2 54 2),3,[],.none,.none,.none,(.str (st 142) 825),none,(.ref 430),.none,0⟩),#[]⟩
noncomputable def ko_437 (P : Params) : Obj := ⟨(.type "code"),none,(.fields #[(.str (st 52) 865),(.str (st 225) 866),(.str (st 199) 867),(.int 366 0),(.int 2 0),(.int 0 0),(.int 0 0),(.int 3 0),(.ref 432),(.bool true),(.int 181 0),(.ref 433),.none,(.ref 434),(.ref 435),(.ref 436),(.int 871 0),(.int 366 0),(.str (st 199) 872)]),#[]⟩
noncomputable def ko_438 (P : Params) : Obj := ⟨(.type "function"),none,(.func ⟨(st 52),(st 225),fArgs (F2 54 3),.stmts (fBody (F2 54 3)),fScope (F2 54 3),3,[],.none,.none,.none,(.str (st 142) 825),none,(.ref 437),.none,0⟩),#[]⟩
noncomputable def ko_444 (P : Params) : Obj := ⟨(.type "code"),none,(.fields #[(.str (st 54) 874),(.str (st 226) 875),(.str (st 199) 876),(.int 372 0),(.int 1 0),(.int 0 0),(.int 0 0),(.int 3 0),(.ref 439),(.bool true),(.int 181 0),(.ref 440),.none,(.ref 441),(.ref 442),(.ref 443),(.int 878 0),(.int 372 0),(.str (st 199) 879)]),#[]⟩
noncomputable def ko_445 (P : Params) : Obj := ⟨(.type "function"),none,(.func ⟨(st 54),(st 226),fArgs (F2 54 4),.stmts (fBody (F2 54 4)),fScope (F2 54 4),3,[],.none,.none,.none,(.str (st 142) 825),none,(.ref 444),.none,0⟩),#[]⟩
noncomputable def ko_451 (P : Params) : Obj := ⟨(.type "code"),none,(.fields #[(.str (st 14) 881),(.str (st 227) 882),(.str (st 199) 883),(.int 377 0),(.int 1 0),(.int 0 0),(.int 0 0),(.int 3 0),(.ref 446),(.bool true),(.int 181 0),(.ref 447),.none,(.ref 448),(.ref 449),(.ref 450),(.int 885 0),(.int 377 0),(.str (st 199) 886)]),#[]⟩
noncomputable def ko_452 (P : Params) : Obj := ⟨(.type "function"),none,(.func ⟨(st 14),(st 227),fArgs (F2 54 5),.stmts (fBody (F2 54 5)),fScope (F2 54 5),3,[],.none,.none,.none,(.str (st 142) 825),none,(.ref 451),.none,0⟩),#[]⟩
noncomputable def ko_458 (P : Params) : Obj := ⟨(.type "code"),none,(.fields #[(.str (st 131) 888),(.str (st 228) 889),(.str (st 199) 890),(.int 380 0),(.int 1 0),(.int 0 0),(.int 0 0),(.int 3 0),(.ref 453),(.bool true),(.int 181 0),(.ref 454),.none,(.ref 455),(.ref 456),(.ref 457),(.int 892 0),(.int 380 0),(.str (st 199) 893)]),#[]⟩
noncomputable def ko_459 (P : Params) : Obj := ⟨(.type "function"),none,(.func ⟨(st 131),(st 228),fArgs (F2 54 6),.stmts (fBody (F2 54 6)),fScope (F2 54 6),3,[],.none,.none,.none,(.str (st 142) 825),none,(.ref 458),.none,0⟩),#[]⟩
noncomputable def ko_465 (P : Params) : Obj := ⟨(.type "code"),none,(.fields #[(.str (st 121) 895),(.str (st 229) 896),(.str (st 199) 897),(.int 383 0),(.int 1 0),(.int 0 0),(.int 0 0),(.int 3 0),(.ref 460),(.bool true),(.int 181 0),(.ref 461),.none,(.ref 462),(.ref 463),(.ref 464),(.int 899 0),(.int 383 0),(.str (st 199) 900)]),#[]⟩
noncomputable def ko_466 (P : Params) : Obj := ⟨(.type "function"),none,(.func ⟨(st 121),(st 229),fArgs (F2 54 7),.stmts (fBody (F2 54 7)),fScope (F2 54 7),3,[],.none,.none,.none,(.str (st 142) 825),none,(.ref 465),.none,0⟩),#[]⟩
noncomputable def ko_472 (P : Params) : Obj := ⟨(.type "code"),none,(.fields #[(.str (st 120) 902),(.str (st 230) 903),(.str (st 199) 904),(.int 386 0),(.int 1 0),(.int 0 0),(.int 0 0),(.int 3 0),(.ref 467),(.bool true),(.int 181 0),(.ref 468),.none,(.ref 469),(.ref 470),(.ref 471),(.int 906 0),(.int 386 0),(.str (st 199) 907)]),#[]⟩
noncomputable def ko_473 (P : Params) : Obj := ⟨(.type "function"),none,(.func ⟨(st 120),(st 230),fArgs (F2 54 8),.stmts (fBody (F2 54 8)),fScope (F2 54 8),3,[],.none,.none,.none,(.str (st 142) 825),none,(.ref 472),.none,0⟩),#[]⟩
noncomputable def ko_479 (P : Params) : Obj := ⟨(.type "code"),none,(.fields #[(.str (st 112) 909),(.str (st 231) 910),(.str (st 199) 911),(.int 389 0),(.int 2 0),(.int 0 0),(.int 0 0),(.int 3 0),(.ref 474),(.bool true),(.int 181 0),(.ref 475),.none,(.ref 476),(.ref 477),(.ref 478),(.int 914 0),(.int 389 0),(.str (st 199) 915)]),#[]⟩
noncomputable def ko_480 (P : Params) : Obj := ⟨(.type "function"),none,(.func ⟨(st 112),(st 231),fArgs (F2 54 9),.stmts (fBody (F2 54 9)),fScope (F2 54 9),3,[],.none,.none,.none,(.str (st 142) 825),none,(.ref 479),.none,0⟩),#[]⟩
noncomputable def ko_486 (P : Params) : Obj := ⟨(.type "code"),none,(.fields #[(.str (st 113) 917),(.str (st 232) 918),(.str (st 199) 919),(.int 392 0),(.int 2 0),(.int 0 0),(.int 0 0),(.int 3 0),(.ref 481),(.bool true),(.int 181 0),(.ref 482),.none,(.ref 483),(.ref 484),(.ref 485),(.int 922 0),(.int 392 0),(.str (st 199) 923)]),#[]⟩
noncomputable def ko_487 (P : Params) : Obj := ⟨(.type "function"),none,(.func ⟨(st 113),(st 232),fArgs (F2 54 10),.stmts (fBody (F2 54 10)),fScope (F2 54 10),3,[],.none,.none,.none,(.str (st 142) 825),none,(.ref 486),.none,0⟩),#[]⟩
noncomputable def ko_493 (P : Params) : Obj := ⟨(.type "code"),none,(.fields #[(.str (st 67) 925),(.str (st 233) 926),(.str (st 199) 927),(.int 395 0),(.int 1 0),(.int 0 0),(.int 0 0),(.int 3 0),(.ref 488),(.bool true),(.int 181 0),(.ref 489),.none,(.ref 490),(.ref 491),(.ref 492),(.int 929 0),(.int 395 0),(.str (st 199) 930)]),#[]⟩
noncomputable def ko_494 (P : Params) : Obj := ⟨(.type "function"),none,(.func ⟨(st 67),(st 233),fArgs (F2 54 11),.stmts (fBody (F2 54 11)),fScope (F2 54 11),3,[],.none,.none,.none,(.str (st 142) 825),none,(.ref 493),.none,0⟩),#[]⟩
noncomputable def ko_496 (P : Params) : Obj := ⟨(.type "dict"),none,(.dict #[⟨PyData.keyHash P (st 203),(.str (st 203) 834),(.str (st 142) 825)⟩,⟨PyData.keyHash P (st 204),(.str (st 204) 838),(.int 349 837)⟩,⟨PyData.keyHash P (st 30),(.str (st 30) 851),(.ref 419)⟩,⟨PyData.keyHash P (st 95),(.str (st 95) 858),(.ref 426)⟩,⟨PyData.keyHash P (st 123),(.str (st 123) 864),(.ref 431)⟩,⟨PyData.keyHash P (st 52),(.str (st 52) 873),(.ref 438)⟩,⟨PyData.keyHash P (st 54),(.str (st 54) 880),(.ref 445)⟩,⟨PyData.keyHash P (st 14),(.str (st 14) 887),(.ref 452)⟩,⟨PyData.keyHash P (st 131),(.str (st 131) 894),(.ref 459)⟩,⟨PyData.keyHash P (st 121),(.str (st 121) 901),(.ref 466)⟩,⟨PyData.keyHash P (st 120),(.str (st 120) 908),(.ref 473)⟩,⟨PyData.keyHash P (st 112),(.str (st 112) 916),(.ref 480)⟩,⟨PyData.keyHash P (st 113),(.str (st 113) 924),(.ref 487)⟩,⟨PyData.keyHash P (st 67),(.str (st 67) 931),(.ref 494)⟩,⟨PyData.keyHash P (st 205),(.str (st 205) 939),(.ref 495)⟩,⟨PyData.keyHash P (st 206),(.str (st 206) 941),(.ref 498)⟩,⟨PyData.keyHash P (st 207),(.str (st 207) 943),(.ref 499)⟩,⟨PyData.keyHash P (st 192),(.str (st 192) 944),.none⟩] 4),#[]⟩
noncomputable def ko_497 (P : Params) : Obj := ⟨(.type "type"),none,(.cls ⟨(st 143),[(.type "object")],[(.ref 497),(.type "object")],496,(st 143),true,[],[],false,none,false⟩),#[none,none,some (.str (st 143) 827),some (.str (st 143) 835),some (.builtin "object.__new__"),some (.bool true)]⟩
noncomputable def ko_507 (P : Params) : Obj := ⟨(.type "code"),none,(.fields #[(.str (st 156) 949),(.str (st 156) 950),(.str (st 199) 951),(.int 398 0),(.int 2 0),(.int 0 0),(.int 0 0),(.int 3 0),(.ref 502),(.bool true),(.int 181 0),(.ref 503),.none,(.ref 504),(.ref 505),(.ref 506),(.int 955 0),(.int 398 0),(.str (st 199) 956)]),#[]⟩
noncomputable def ko_508 (P : Params) : Obj := ⟨(.type "function"),none,(.func ⟨(st 156),(st 156),fArgs (F1 56),.stmts (fBody (F1 56)),fScope (F1 56),3,[],.none,.none,.none,(.str (st 155) 947),none,(.ref 507),.none,0⟩),#[]⟩
noncomputable def ko_514 (P : Params) : Obj := ⟨(.type "code"),none,(.fields #[(.str (st 159) 958),(.str (st 159) 959),(.str (st 199) 960),(.int 404 0),(.int 3 0),(.int 0 0),(.int 0 0),(.int 3 0),(.ref 509),(.bool true),(.int 181 0),(.ref 510),.none,(.ref 511),(.ref 512),(.ref 513),(.int 964 0),(.int 404 0),(.str (st 199) 965)]),#[]⟩
noncomputable def ko_515 (P : Params) : Obj := ⟨(.type "function"),none,(.func ⟨(st 159),(st 159),fArgs (F1 57),.stmts (fBody (F1 57)),fScope (F1 57),3,[],.none,.none,.none,(.str (st 155) 947),none,(.ref 514),.none,0⟩),#[]⟩
noncomputable def ko_521 (P : Params) : Obj := ⟨(.type "code"),none,(.fields #[(.str (st 161) 967),(.str (st 161) 968),(.str (st 199) 969),(.int 406 0),(.int 2 0),(.int 0 0),(.int 0 0),(.int 3 0),(.ref 516),(.bool true),(.int 181 0),(.ref 517),.none,(.ref 518),(.ref 519),(.ref 520),(.int 973 0),(.int 406 0),(.str (st 199) 974)]),#[]⟩
noncomputable def ko_522 (P : Params) : Obj := ⟨(.type "function"),none,(.func ⟨(st 161),(st 161),fArgs (F1 58),.stmts (fBody (F1 58)),fScope (F1 58),3,[],.none,.none,.none,(.str (st 155) 947),none,(.ref 521),.none,0⟩),#[]⟩
noncomputable def ko_526 (P : Params) : Obj := ⟨(.type "code"),none,(.fields #[(.str (st 163) 976),(.str (st 163) 977),(.str (st 199) 978),(.int 411 0),(.int 4 0),(.int 0 0),(.int 0 0),(.int 3 0),(.ref 523),(.bool true),(.int 181 0),(.ref 524),.none,.none,.none,(.ref 525),(.int 979 0),(.int 411 0),(.str (st 199) 980)]),#[]⟩
noncomputable def ko_527 (P : Params) : Obj := ⟨(.type "function"),none,(.func ⟨(st 163),(st 163),fArgs (F1 59),.stmts (fBody (F1 59)),fScope (F1 59),3,[],.none,.none,.none,(.str (st 155) 947),none,(.ref 526),.none,0⟩),#[]⟩
noncomputable def ko_531 (P : Params) : Obj := ⟨(.type "code"),none,(.fields #[(.str (st 173) 982),(.str (st 173) 983),(.str (st 199) 984),(.int 430 0),(.int 5 0),(.int 0 0),(.int 0 0),(.int 3 0),(.ref 528),(.bool true),(.int 181 0),(.ref 529),.none,.none,.none,(.ref 530),(.int 985 0),(.int 430 0),(.str (st 199) 986)]),#[]⟩
noncomputable def ko_532 (P : Params) : Obj := ⟨(.type "function"),none,(.func ⟨(st 173),(st 173),fArgs (F1 60),.stmts (fBody (F1 60)),fScope (F1 60),3,[],.none,.none,.none,(.str (st 155) 947),none,(.ref 531),.none,0⟩),#[]⟩
noncomputable def ko_536 (P : Params) : Obj := ⟨(.type "code"),none,(.fields #[(.str (st 180) 988),(.str (st 180) 989),(.str (st 199) 990),(.int 443 0),(.int 6 0),(.int 0 0),(.int 0 0),(.int 3 0),(.ref 533),(.bool true),(.int 181 0),(.ref 534),.none,.none,.none,(.ref 535),(.int 991 0),(.int 443 0),(.str (st 199) 992)]),#[]⟩
noncomputable def ko_537 (P : Params) : Obj := ⟨(.type "function"),none,(.func ⟨(st 180),(st 180),fArgs (F1 61),.stmts (fBody (F1 61)),fScope (F1 61),3,[],.none,.none,.none,(.str (st 155) 947),none,(.ref 536),.none,0⟩),#[]⟩
noncomputable def ko_543 (P : Params) : Obj := ⟨(.type "code"),none,(.fields #[(.str (st 184) 994),(.str (st 184) 995),(.str (st 199) 996),(.int 465 0),(.int 4 0),(.int 0 0),(.int 0 0),(.int 3 0),(.ref 538),(.bool true),(.int 181 0),(.ref 539),.none,(.ref 540),(.ref 541),(.ref 542),(.int 1003 0),(.int 465 0),(.str (st 199) 1004)]),#[]⟩
noncomputable def ko_544 (P : Params) : Obj := ⟨(.type "function"),none,(.func ⟨(st 184),(st 184),fArgs (F1 62),.stmts (fBody (F1 62)),fScope (F1 62),3,[],.none,.none,.none,(.str (st 155) 947),none,(.ref 543),.none,0⟩),#[]⟩
noncomputable def ko_550 (P : Params) : Obj := ⟨(.type "code"),none,(.fields #[(.str (st 186) 1006),(.str (st 186) 1007),(.str (st 199) 1008),(.int 469 0),(.int 5 0),(.int 0 0),(.int 0 0),(.int 3 0),(.ref 545),(.bool true),(.int 181 0),(.ref 546),.none,(.ref 547),(.ref 548),(.ref 549),(.int 1016 0),(.int 469 0),(.str (st 199) 1017)]),#[]⟩
noncomputable def ko_551 (P : Params) : Obj := ⟨(.type "function"),none,(.func ⟨(st 186),(st 186),fArgs (F1 63),.stmts (fBody (F1 63)),fScope (F1 63),3,[],.none,.none,.none,(.str (st 155) 947),none,(.ref 550),.none,0⟩),#[]⟩
noncomputable def ko_555 (P : Params) : Obj := ⟨(.type "code"),none,(.fields #[(.str (st 187) 1019),(.str (st 187) 1020),(.str (st 199) 1021),(.int 476 0),(.int 6 0),(.int 0 0),(.int 0 0),(.int 3 0),(.ref 552),(.bool true),(.int 181 0),(.ref 553),.none,.none,.none,(.ref 554),(.int 1022 0),(.int 476 0),(.str (st 199) 1023)]),#[]⟩
noncomputable def ko_556 (P : Params) : Obj := ⟨(.type "function"),none,(.func ⟨(st 187),(st 187),fArgs (F1 64),.stmts (fBody (F1 64)),fScope (F1 64),3,[],.none,.none,.none,(.str (st 155) 947),none,(.ref 555),.none,0⟩),#[]⟩
noncomputable def ko_560 (P : Params) : Obj := ⟨(.type "code"),none,(.fields #[(.str (st 189) 1025),(.str (st 189) 1026),(.str (st 199) 1027),(.int 515 0),(.int 1 0),(.int 0 0),(.int 0 0),(.int 3 0),(.ref 557),(.bool true),(.int 181 0),(.ref 558),.none,.none,.none,(.ref 559),(.int 1028 0),(.int 515 0),(.str (st 199) 1029)]),#[]⟩
noncomputable def ko_561 (P : Params) : Obj := ⟨(.type "function"),none,(.func ⟨(st 189),(st 189),fArgs (F1 65),.stmts (fBody (F1 65)),fScope (F1 65),3,[],.none,.none,.none,(.str (st 155) 947),none,(.ref 560),.none,0⟩),#[]⟩
noncomputable def KK (P : Params) : Frag := [(3, ko_3 P), (27, ko_27 P), (28, ko_28 P), (34, ko_34 P), (35, ko_35 P), (133, ko_133 P), (134, ko_134 P), (140, ko_140 P), (141, ko_141 P), (143, ko_143 P), (144, ko_144 P), (154, ko_154 P), (155, ko_155 P), (161, ko_161 P), (162, ko_162 P), (168, ko_168 P), (169, ko_169 P), (175, ko_175 P), (176, ko_176 P), (182, ko_182 P), (183, ko_183 P), (196, ko_196 P), (197, ko_197 P), (203, ko_203 P), (204, ko_204 P), (210, ko_210 P), (211, ko_211 P), (217, ko_217 P), (218, ko_218 P), (227, ko_227 P), (228, ko_228 P), (245, ko_245 P), (246, ko_246 P), (252, ko_252 P), (253, ko_253 P), (259, ko_259 P), (260, ko_260 P), (266, ko_266 P), (267, ko_267 P), (269, ko_269 P), (270, ko_270 P), (280, ko_280 P), (281, ko_281 P), (287, ko_287 P), (288, ko_288 P), (294, ko_294 P), (295, ko_295 P), (308, ko_308 P), (309, ko_309 P), (315, ko_315 P), (316, ko_316 P), (320, ko_320 P), (321, ko_321 P), (327, ko_327 P), (328, ko_328 P), (334, ko_334 P), (335, ko_335 P), (341, ko_341 P), (342, ko_342 P), (344, ko_344 P), (345, ko_345 P), (355, ko_355 P), (356, ko_356 P), (362, ko_362 P), (363, ko_363 P), (369, ko_369 P), (370, ko_370 P), (376, ko_376 P), (377, ko_377 P), (383, ko_383 P), (384, ko_384 P), (390, ko_390 P), (391, ko_391 P), (397, ko_397 P), (398, ko_398 P), (404, ko_404 P), (405, ko_405 P), (418, ko_418 P), (419, ko_419 P), (425, ko_425 P), (426, ko_426 P), (430, ko_430 P), (431, ko_431 P), (437, ko_437 P), (438, ko_438 P), (444, ko_444 P), (445, ko_445 P), (451, ko_451 P), (452, ko_452 P), (458, ko_458 P), (459, ko_459 P), (465, ko_465 P), (466, ko_466 P), (472, ko_472 P), (473, ko_473 P), (479, ko_479 P), (480, ko_480 P), (486, ko_486 P), (487, ko_487 P), (493, ko_493 P), (494, ko_494 P), (496, ko_496 P), (497, ko_497 P), (507, ko_507 P), (508, ko_508 P), (514, ko_514 P), (515, ko_515 P), (521, ko_521 P), (522, ko_522 P), (526, ko_526 P), (527, ko_527 P), (531, ko_531 P), (532, ko_532 P), (536, ko_536 P), (537, ko_537 P), (543, ko_543 P), (544, ko_544 P), (550, ko_550 P), (551, ko_551 P), (555, ko_555 P), (556, ko_556 P), (560, ko_560 P), (561, ko_561 P)]
noncomputable abbrev kAddrs : List Addr := [3, 27, 28, 34, 35, 133, 134, 140, 141, 143, 144, 154, 155, 161, 162, 168, 169, 175, 176, 182, 183, 196, 197, 203, 204, 210, 211, 217, 218, 227, 228, 245, 246, 252, 253, 259, 260, 266, 267, 269, 270, 280, 281, 287, 288, 294, 295, 308, 309, 315, 316, 320, 321, 327, 328, 334, 335, 341, 342, 344, 345, 355, 356, 362, 363, 369, 370, 376, 377, 383, 384, 390, 391, 397, 398, 404, 405, 418, 419, 425, 426, 430, 431, 437, 438, 444, 445, 451, 452, 458, 459, 465, 466, 472, 473, 479, 480, 486, 487, 493, 494, 496, 497, 507, 508, 514, 515, 521, 522, 526, 527, 531, 532, 536, 537, 543, 544, 550, 551, 555, 556, 560, 561]
noncomputable abbrev lawR : OpenLaw := PySem.Challenge.rw_nt0450_01
noncomputable def qQ : Program := { pw with main := { pw.main with body := [F1 65] } }
noncomputable abbrev looseQ : List Str := [(st 0), (st 2), (st 5), (st 6), (st 7), (st 8), (st 9), (st 10), (st 12), (st 13), (st 15), (st 16), (st 17), (st 18), (st 20), (st 28), (st 33), (st 34), (st 37), (st 39), (st 49), (st 53), (st 55), (st 58), (st 60), (st 63), (st 76), (st 83), (st 87), (st 88), (st 89), (st 90), (st 91), (st 92), (st 93), (st 94), (st 104), (st 119), (st 122), (st 126), (st 127), (st 133), (st 138), (st 132), (st 139), (st 143), (st 156), (st 159), (st 161), (st 163), (st 173), (st 180), (st 184), (st 186), (st 187)]
noncomputable def envQ : Env := { scope := pw.main.scope, locals := mainNs, globals := mainNs, cells := [], code := .ref 13, frame := some 14 }
noncomputable abbrev cQ : Code := .body (behindTheImports pw) envQ
noncomputable abbrev p0 : Pos := ⟨0, 0, 0, 0⟩
noncomputable def T0 (P : Params) : BT := (.node (boot_o_0 P) (.node (boot_o_1 P) (.node (boot_o_3 P) (.node (boot_o_7 P) .nil .nil) (.node (⟨.type "tuple", none, .seq #[] 0, #[]⟩) .nil .nil)) (.node (boot_o_5 P) (.node (boot_o_9 P) .nil .nil) (.node (⟨.type "code", none, .fields #[.str (st 234) 182, .str (st 234) 183, .str (st 199) 184, .int 1 0, .int 0 0, .int 0 0, .int 0 0, .int 0 0, .ref 11, .bool false, .int 181 0, .ref 12, .none, .none, .none, .none, .int 185 0, .int 1 0, .str (st 199) 186], #[]⟩) .nil .nil))) (.node (boot_o_2 P) (.node (boot_o_4 P) (.node (boot_o_8 P) .nil .nil) (.node (⟨.none, none, .fields #[], #[]⟩) .nil .nil)) (.node (boot_o_6 P) (.node (boot_o_10 P) .nil .nil) (.node (⟨.type "frame", none, .plain, #[some (.ref 13), some (.ref 3), some (.ref 3), none, some (.str (st 235) 164), none, some (.ref 0)]⟩) .nil .nil))))
noncomputable abbrev S0 (w : World) (os : OsState) : SharedT := ⟨T0 w.params, 15, {}, #[], {}, 187, os⟩
noncomputable abbrev thrQ : Thread := piecesOf (behindTheImports pw) envQ cQ p0 [topFrame p0]
noncomputable abbrev hookQ : Hook := kHook KK kAddrs (fun _ => rfl)
noncomputable abbrev XtQ (s : Shared) : Bool := xlAt qQ [] s && recOk (RowW.records lawR.row.toRowW) s
/-! NHead1 -/
set_option maxRecDepth 1000000 in
set_option maxHeartbeats 0 in
theorem bigQ (w : World) (os : OsState) : (segRunT treeTable pw w 11 (some (.ref 6)) 1 4300 (S0 w os) thrQ).map (fun r => (r.1, r.2.2.1, r.2.2.2, (staticsOk (importedModules pw.main.body) (boot_heap w.params) r.2.1.abs.heap && namesBound pw r.2.1.abs.heap && gensDone r.2.1.abs && laidKept (boot_heap w.params) r.2.1.abs.heap), openSeen qQ looseQ (importedModules pw.main.body) XtQ true r.2.1.abs, hookQ.obs r.2.1.abs)) = some (Flow.next, cQ, (⟨515,0,536,82⟩ : Pos), true, openGood qQ looseQ, hookQ.val w) := by
  rw [PySem.W.Fast.te5923862056798008813, PySem.W.Fast.te4187177175401517315, PySem.W.Fast.te10110043849684766642, PySem.W.Fast.te14364793385576792824]
  kernel_rfl!
/-! NHead2 -/
theorem segFin (w : World) (os : OsState) : ∃ s : SharedT, segRunT treeTable pw w 11 (some (.ref 6)) 1 4300 (S0 w os) thrQ = some (.next, s, cQ, ⟨515,0,536,82⟩) ∧
    (staticsOk (importedModules pw.main.body) (boot_heap w.params) s.abs.heap && namesBound pw s.abs.heap && gensDone s.abs && laidKept (boot_heap w.params) s.abs.heap) = true ∧
    openSeen qQ looseQ (importedModules pw.main.body) XtQ true s.abs = openGood qQ looseQ ∧ hookQ.obs s.abs = hookQ.val w := by
  obtain ⟨⟨f, s, c, p⟩, h1, h2⟩ := Option.map_eq_some_iff.mp (bigQ w os)
  have e1 := congrArg (fun x => x.1) h2
  have e2 := congrArg (fun x => x.2.1) h2
  have e3 := congrArg (fun x => x.2.2.1) h2
  have e4 := congrArg (fun x => x.2.2.2.1) h2
  have e5 := congrArg (fun x => x.2.2.2.2.1) h2
  have e6 := congrArg (fun x => x.2.2.2.2.2) h2
  dsimp only at e1 e2 e3 e4 e5 e6
  subst e1 e2 e3
  exact ⟨s, h1, e4, e5, e6⟩
set_option maxRecDepth 1000000 in
set_option maxHeartbeats 0 in
theorem preQ (w : World) (os : OsState) : topGo treeTable pw w 11 (some (.ref 6)) 12 ⟨boot_heap w.params, Array.mk [], boot_drawn, boot_toks, os⟩ (topStub pw) = some ((S0 w os).abs, ⟨denote treeTable cQ, cQ, p0, [topFrame p0]⟩) := by
  rw [PySem.W.Fast.te15667345088766844465, PySem.W.Fast.te14364793385576792824, PySem.W.Fast.te11892475500146522536]
  kernel_rfl!
set_option maxRecDepth 1000000 in
theorem blockQ (w : World) (os : OsState) : segRun treeTable pw w 11 (some (.ref 6)) 1 1 (S0 w os).abs (blockOf (behindTheImports pw) envQ cQ p0 [topFrame p0]) = some (.next, (S0 w os).abs, cQ, p0) := by
  kernel_rfl!
theorem finQ {w : World} {q : Pos} : ∀ s : Shared, topRun treeTable pw w 11 (some (.ref 6)) 2 s ⟨doneF .next, cQ, q, [topFrame p0]⟩ = some s
  | ⟨h, g, d, t, o⟩ => by kernel_rfl!
theorem run_chain {tb : String → Option Builtin} {p : Program} {w : World} {n₀ : Nat} {ann : Option Value} {env : Env} {q pos p1 p2 : Pos} {N1 N2 N3 N4 : Nat} {s0 s1 s2 : Shared} {l : List Stmt} {stub : Thread}
    (h1 : topGo tb p w n₀ ann N1 s0 stub = some (s1, ⟨denote tb (.body l env), .body l env, pos, [topFrame q]⟩))
    (h2 : segRun tb p w n₀ ann 1 N2 s1 (blockOf l env (.body l env) pos [topFrame q]) = some (.next, s1, .body l env, p1))
    (h3 : segRun tb p w n₀ ann 1 N3 s1 (piecesOf l env (.body l env) p1 [topFrame q]) = some (.next, s2, .body l env, p2))
    (h4 : topRun tb p w n₀ ann N4 s2 ⟨doneF .next, .body l env, p2, [topFrame q]⟩ = some s2) :
    topRun tb p w n₀ ann (N1 + (N2 + (N3 + N4))) s0 stub = some s2 := by
  refine go_top h1 (piece_block h2 ?_)
  have k := piece_app (rest := []) h3 (piece_nil h4)
  rwa [List.append_nil] at k
theorem rq1 (w : World) (os : OsState) {N4 : Nat} {s : Shared} {p2 : Pos} (h3 : segRun treeTable pw w 11 (some (.ref 6)) 1 4300 (S0 w os).abs thrQ = some (.next, s, cQ, p2)) (h4 : topRun treeTable pw w 11 (some (.ref 6)) N4 s ⟨doneF .next, cQ, p2, [topFrame p0]⟩ = some s) : topRun treeTable pw w 11 (some (.ref 6)) (12 + (1 + (4300 + N4))) ⟨boot_heap w.params, Array.mk [], boot_drawn, boot_toks, os⟩ (topStub pw) = some s := run_chain (preQ w os) (blockQ w os) h3 h4
theorem rq2 (w : World) (os : OsState) {s : SharedT} {p2 : Pos} (h3 : segRunT treeTable pw w 11 (some (.ref 6)) 1 4300 (S0 w os) thrQ = some (.next, s, cQ, p2)) : segRun treeTable pw w 11 (some (.ref 6)) 1 4300 (S0 w os).abs thrQ = some (.next, s.abs, cQ, p2) := segRun_of h3
theorem rq3 (w : World) (os : OsState) {s : SharedT} (h3 : segRunT treeTable pw w 11 (some (.ref 6)) 1 4300 (S0 w os) thrQ = some (.next, s, cQ, ⟨515,0,536,82⟩)) : topRun treeTable pw w 11 (some (.ref 6)) (12 + (1 + (4300 + 2))) ⟨boot_heap w.params, Array.mk [], boot_drawn, boot_toks, os⟩ (topStub pw) = some s.abs :=
  rq1 w os (rq2 w os h3) (finQ _)
theorem topQ (w : World) (os : OsState) : ∃ s : Shared, topRun treeTable pw w 11 (some (.ref 6)) (12 + (1 + (4300 + 2))) ⟨boot_heap w.params, Array.mk [], boot_drawn, boot_toks, os⟩ (topStub pw) = some s ∧
    (staticsOk (importedModules pw.main.body) (boot_heap w.params) s.heap && namesBound pw s.heap && gensDone s && laidKept (boot_heap w.params) s.heap) = true ∧
    openSeen qQ looseQ (importedModules pw.main.body) XtQ true s = openGood qQ looseQ ∧ hookQ.obs s = hookQ.val w := by
  obtain ⟨s, h1, h2, h3, h4⟩ := segFin w os
  exact ⟨s.abs, rq3 w os h1, h2, h3, h4⟩
set_option maxRecDepth 1000000 in
theorem sizeQ (w : World) : ((boot_heap w.params).isNs mainGlobals && (Array.mk [] : Array GenState).size == 0, (boot_heap w.params).objs.size, (boot_heap w.params).nsMap mainGlobals "__annotations__") = (true, 11, some (.ref 6)) := by
  rw [PySem.W.Fast.te8920871248978507458]
  kernel_rfl!
theorem left_of {p q : Program} {loose : List Str} {Xt : Shared → Bool} {α : Type} {Yf : Shared → α} {Ya : World → α} {N : Nat} {g0 : Bool} {H₀ : Params → Heap} {gs₀ : Array GenState} {d₀ : Drawn} {k₀ : Nat} {m₀ : Nat} {ann : Option Value} {M : Nat}
    (open_ : ∀ w : World, (fencedOpening treeTable p w N).map (fun s => (s.heap, s.gens, s.drawn, s.toks)) = some (H₀ w.params, gs₀, d₀, k₀))
    (size : ∀ w : World, ((H₀ w.params).isNs mainGlobals && gs₀.size == 0, (H₀ w.params).objs.size, (H₀ w.params).nsMap mainGlobals "__annotations__") = (true, m₀, ann))
    (run : ∀ (w : World) (os : OsState), ∃ s : Shared, topRun treeTable p w m₀ ann M ⟨H₀ w.params, gs₀, d₀, k₀, os⟩ (topStub p) = some s ∧
      (staticsOk (importedModules p.main.body) (H₀ w.params) s.heap && namesBound p s.heap && gensDone s && laidKept (H₀ w.params) s.heap) = true ∧
      openSeen q loose (importedModules p.main.body) Xt g0 s = openGood q loose ∧ Yf s = Ya w)
    (le : Nat.ble M N = true) : LeftO p q loose Xt Yf Ya N g0 := fun w => by
  obtain ⟨⟨h, gs, d, k, os⟩, e, e'⟩ := Option.map_eq_some_iff.mp (open_ w)
  obtain ⟨rfl, rfl, rfl, rfl⟩ : h = H₀ w.params ∧ gs = gs₀ ∧ d = d₀ ∧ k = k₀ := by simpa using e'
  obtain ⟨z1, z2, z3⟩ : _ ∧ _ ∧ _ := by simpa only [Prod.mk.injEq] using size w
  obtain ⟨s, r, l1, l2, l3⟩ := run w os
  have r := topRun_mono (N - M) _ _ _ _ r
  rw [show M + (N - M) = N by have := Nat.le_of_ble_eq_true le; lia] at r
  have t : topFrom treeTable p w N ⟨H₀ w.params, gs, d, k, os⟩ = some s := by
    unfold topFrom
    dsimp only
    rw [z1, z2, z3, r]
    show (match staticsOk (importedModules p.main.body) (H₀ w.params) s.heap && namesBound p s.heap && gensDone s && laidKept (H₀ w.params) s.heap with | true => _ | false => _) = _
    rw [l1]
  unfold openEnds
  rw [e]
  show (topFrom treeTable p w N _).map _ = _
  rw [t]
  exact congrArg some (Prod.ext l2 l3)
set_option maxRecDepth 1000000 in
theorem openQ : ∀ w : World, (fencedOpening treeTable pw w 5000).map (fun s => (s.heap, s.gens, s.drawn, s.toks)) = some (boot_heap w.params, Array.mk [], boot_drawn, boot_toks) :=
  boot_open (p := pw) (N := 5000) (by kernel_rfl!) (by decide) (fun s => by kernel_rfl!)
theorem leftQ : LeftO pw qQ looseQ XtQ hookQ.obs hookQ.val 5000 := left_of openQ sizeQ topQ (by decide)
theorem wellQ : lawR.wellSaid = true := by
  rw [PySem.W.Fast.te9446332074065402090]
  decide +kernel
/-! NHead3 -/
noncomputable abbrev lawDef : DefRec := ⟨(st 189), fArgs (F1 65), fBody (F1 65), fScope (F1 65), ⟨515,0,536,82⟩⟩
set_option maxRecDepth 1000000 in
theorem head (call : WalkO qQ looseQ (XL qQ []) hookQ.says lawR.row.toRowW lawDef [] fun f vs => PySem.call f vs) : PySem.Challenge.rw_nt0450_01.Holds := by
  refine holds_law wellQ fun said => ?_
  exact PySem.W.holds_open (r := lawR.row) (q := qQ) (loose := looseQ) (Xt := XtQ) (XP := XL qQ []) (Yf := hookQ.obs) (Ya := hookQ.val) (YP := hookQ.says) (d := lawDef) (kwd := []) (N := 5000)
    leftQ hookQ.of hookQ.keeps (fun s e => xl_of s (Bool.and_eq_true_iff.mp e).1) XL.keeps (by kernel_rfl!) (by kernel_rfl!) (by kernel_rfl!) (fun s e => recFacts_of (Bool.and_eq_true_iff.mp e).2) (by kernel_rfl!) said (by decide +kernel) ⟨rfl, rfl, rfl, rfl, rfl, by decide +kernel⟩
    ⟨[.list []], by decide +kernel, by decide +kernel⟩ call
/-! NA -/
/-! abstract values, objects, states -/
inductive V where
  | none | bool (b : Bool) | int (i : Int) | str (n : Nat) | ref (a : Addr)
inductive AObj where
  | list (xs : List V) | slist (xs : List V) | range (a b : Int) | tup (xs : List V) | inst (C d : Addr)
  | sdict (es : List (Nat × V)) | idict (es : List (Int × V)) | pdict (es : List ((Int × Int) × Addr × V))
abbrev St := Addr → Option AObj
abbrev Loc := List (Nat × V)

def V.is : V → Value → Prop
  | .none, x => x = .none
  | .bool b, x => x = .bool b
  | .int i, x => ∃ t, x = .int i t
  | .str n, x => ∃ t, x = .str (st n) t
  | .ref a, x => x = .ref a
noncomputable def AllIs : List V → List Value → Prop
  | [], ys => ys = []
  | v :: vs, ys => ∃ x xs, ys = x :: xs ∧ v.is x ∧ AllIs vs xs
noncomputable def SEnts (P : Params) : List (Nat × V) → List DictEntry → Prop
  | [], es => es = []
  | (n, v) :: r, es => ∃ t x es', es = ⟨PyData.keyHash P (st n), .str (st n) t, x⟩ :: es' ∧ v.is x ∧ SEnts P r es'
noncomputable def IEnts : List (Int × V) → List (Int × Value) → Prop
  | [], es => es = []
  | (n, v) :: r, es => ∃ x es', es = (n, x) :: es' ∧ v.is x ∧ IEnts r es'
noncomputable def PEnts : List ((Int × Int) × Addr × V) → List (List Int × Addr × Value) → Prop
  | [], es => es = []
  | (k, a, v) :: r, es => ∃ x es', es = ([k.1, k.2], a, x) :: es' ∧ v.is x ∧ PEnts r es'

theorem AllIs.length : ∀ {vs : List V} {xs : List Value}, AllIs vs xs → xs.length = vs.length
  | [], _, h => by subst h; rfl
  | _ :: _, _, ⟨x, xs, e, _, h⟩ => by subst e; simp [h.length]
theorem AllIs.get : ∀ {vs : List V} {xs : List Value} {i : Nat} {v : V}, AllIs vs xs → vs[i]? = some v → ∃ x, xs[i]? = some x ∧ v.is x
  | [], _, i, v, h, e => by simp at e
  | _ :: _, _, 0, v, ⟨x, xs, e, h1, _⟩, e' => by subst e; simp at e'; subst e'; exact ⟨x, rfl, h1⟩
  | _ :: _, _, i + 1, v, ⟨x, xs, e, _, h⟩, e' => by subst e; simpa using h.get (by simpa using e')
theorem AllIs.append : ∀ {vs ws : List V} {xs ys : List Value}, AllIs vs xs → AllIs ws ys → AllIs (vs ++ ws) (xs ++ ys)
  | [], _, _, _, h, k => by subst h; simpa using k
  | _ :: _, _, _, _, ⟨x, xs, e, h1, h⟩, k => by subst e; exact ⟨x, _, rfl, h1, h.append k⟩
theorem AllIs.one {v : V} {x : Value} (h : v.is x) : AllIs [v] [x] := ⟨x, [], rfl, h, rfl⟩
theorem AllIs.set : ∀ {vs : List V} {xs : List Value} {i : Nat} {v : V} {x : Value}, AllIs vs xs → v.is x → AllIs (vs.set i v) (xs.set i x)
  | [], _, i, v, x, h, k => by subst h; simp [AllIs]
  | _ :: _, _, 0, v, x, ⟨y, xs, e, _, h⟩, k => by subst e; exact ⟨x, xs, rfl, k, h⟩
  | _ :: _, _, i + 1, v, x, ⟨y, xs, e, h1, h⟩, k => by subst e; exact ⟨y, _, rfl, h1, h.set k⟩
theorem AllIs.eraseIdx : ∀ {vs : List V} {xs : List Value} {i : Nat}, AllIs vs xs → AllIs (vs.eraseIdx i) (xs.eraseIdx i)
  | [], _, i, h => by subst h; simp [AllIs]
  | _ :: _, _, 0, ⟨y, xs, e, _, h⟩ => by subst e; simpa using h
  | _ :: _, _, i + 1, ⟨y, xs, e, h1, h⟩ => by subst e; exact ⟨y, _, rfl, h1, h.eraseIdx⟩

section
variable (w : World)
def AbsO (h : Heap) (a : Addr) : AObj → Prop
  | .list xs => ∃ vs, h.PlainList a vs.toArray ∧ AllIs xs vs
  | .slist xs => ∃ vs, h.IsList a vs.toArray ∧ AllIs xs vs
  | .range i j => ∃ t u v, IsRange h a i j 1 t u v
  | .tup xs => ∃ vs, IsTup h a vs.toArray ∧ AllIs xs vs
  | .inst C d => h.get? a = some (instObj C d)
  | .sdict es => ∃ des n, h.get? a = some (dictOf des n) ∧ SEnts w.params es des
  | .idict es => ∃ kvs, h.DictOf (intKind pw w) a kvs ∧ IEnts es kvs
  | .pdict es => ∃ xs, PEnts es xs ∧ ∃ o des ep, h.get? a = some o ∧ o.ExactDict ∧ o.data = .dict des ep ∧ des.toList = xs.map (entryOfKey (tupleKind (intKind pw w))) ∧ (xs.map (·.1)).Nodup
theorem AbsO.of_get {h h' : Heap} {a : Addr} {o : AObj} (x : AbsO w h a o) (e : h'.get? a = h.get? a) : AbsO w h' a o := by
  cases o with
  | list xs => obtain ⟨vs, ⟨n, h1⟩, h3⟩ := x; exact ⟨vs, ⟨n, e.trans h1⟩, h3⟩
  | range i j => obtain ⟨t, u, v, h1⟩ := x; exact ⟨t, u, v, e.trans h1⟩
  | slist xs => obtain ⟨vs, ⟨o, h1, h2⟩, h3⟩ := x; exact ⟨vs, ⟨o, e.trans h1, h2⟩, h3⟩
  | tup xs => obtain ⟨vs, ⟨o, h1, h2⟩, h3⟩ := x; exact ⟨vs, ⟨o, e.trans h1, h2⟩, h3⟩
  | inst C d => exact e.trans x
  | sdict es => obtain ⟨des, n, h1, h2⟩ := x; exact ⟨des, n, e.trans h1, h2⟩
  | idict es => obtain ⟨kvs, ⟨o, des, ep, h1, h2⟩, h3⟩ := x; exact ⟨kvs, ⟨o, des, ep, e.trans h1, h2⟩, h3⟩
  | pdict es => obtain ⟨xs, h0, o, des, ep, h1, h2⟩ := x; exact ⟨xs, h0, o, des, ep, e.trans h1, h2⟩
theorem AbsO.some {h : Heap} {a : Addr} {o : AObj} (x : AbsO w h a o) : ∃ ob, h.get? a = .some ob := by
  cases o with
  | list xs => obtain ⟨vs, ⟨n, h1⟩, h3⟩ := x; exact ⟨_, h1⟩
  | range i j => obtain ⟨t, u, v, h1⟩ := x; exact ⟨_, h1⟩
  | slist xs => obtain ⟨vs, ⟨o, h1, h2⟩, h3⟩ := x; exact ⟨_, h1⟩
  | tup xs => obtain ⟨vs, ⟨o, h1, h2⟩, h3⟩ := x; exact ⟨_, h1⟩
  | inst C d => exact ⟨_, x⟩
  | sdict es => obtain ⟨des, n, h1, h2⟩ := x; exact ⟨_, h1⟩
  | idict es => obtain ⟨kvs, ⟨o, des, ep, h1, h2⟩, h3⟩ := x; exact ⟨_, h1⟩
  | pdict es => obtain ⟨xs, h0, o, des, ep, h1, h2⟩ := x; exact ⟨_, h1⟩
def Sim (σ : St) (h : Heap) : Prop := ∀ a o, σ a = some o → AbsO w h a o
end

/-- what is alive and is none of ours stays -/
structure Ext (σ : St) (h : Addr → Option Obj) (σ' : St) (h' : Heap) : Prop where
  out : ∀ b o, h b = some o → σ b = none → h'.get? b = some o ∧ σ' b = none
  dom : ∀ b, σ b ≠ none → σ' b ≠ none
theorem Ext.refl (σ : St) (h : Heap) : Ext σ h.get? σ h := ⟨fun _ _ e e' => ⟨e, e'⟩, fun _ e => e⟩
theorem Ext.trans {σ σ₁ σ₂ : St} {h : Addr → Option Obj} {h₁ h₂ : Heap} (x : Ext σ h σ₁ h₁) (y : Ext σ₁ h₁.get? σ₂ h₂) : Ext σ h σ₂ h₂ :=
  ⟨fun b o e e' => let ⟨p, q⟩ := x.out b o e e'; y.out b o p q, fun b e => y.dom b (x.dom b e)⟩

noncomputable def upd (σ : St) (a : Addr) (o : AObj) : St := fun b => if b = a then some o else σ b
theorem upd_self (σ : St) (a : Addr) (o : AObj) : upd σ a o a = some o := if_pos rfl
theorem upd_dom {σ : St} {a : Addr} {o : AObj} (b : Addr) (h : σ b ≠ none) : upd σ a o b ≠ none := by
  unfold upd; split
  · exact nofun
  · exact h
theorem upd_ne {σ : St} {a b : Addr} {o : AObj} (h : b ≠ a) : upd σ a o b = σ b := if_neg h

section
variable {w : World} {σ : St} {h h' : Heap} {a : Addr} {o : AObj}
theorem Sim.fresh (S : Sim w σ h) : σ h.objs.size = none := by
  cases e : σ h.objs.size with
  | none => rfl
  | some o => obtain ⟨ob, e'⟩ := (S _ _ e).some; exact absurd (Heap.lt_size e') (Nat.lt_irrefl _)
theorem Sim.same (S : Sim w σ h) (e : ∀ b ob, h.get? b = some ob → h'.get? b = some ob) : Sim w σ h' := fun a o ha => by
  have x := S a o ha
  obtain ⟨ob, e'⟩ := x.some
  exact x.of_get w ((e _ _ e').trans e'.symm)
/-- an update of one of ours -/
theorem Sim.upd (S : Sim w σ h) (s : Heap.SameBut a h h') (x : AbsO w h' a o) : Sim w (upd σ a o) h' := fun b ob hb => by
  unfold Mine.upd at hb
  by_cases e : b = a
  · subst e; rw [if_pos rfl] at hb; cases hb; exact x
  · rw [if_neg e] at hb; exact (S b ob hb).of_get w (s.2 b e)
theorem Ext.upd (hs : σ a ≠ none) (s : Heap.SameBut a h h') : Ext σ h.get? (upd σ a o) h' :=
  ⟨fun b ob e e' => by
    have : b ≠ a := fun q => hs (q ▸ e')
    exact ⟨(s.2 b this).trans e, (upd_ne this).trans e'⟩, upd_dom⟩
/-- what is alive stays, nothing of ours is touched -/
theorem Ext.keep (e : ∀ b ob, h.get? b = some ob → h'.get? b = some ob) : Ext σ h.get? σ h' := ⟨fun b ob x y => ⟨e _ _ x, y⟩, fun _ x => x⟩
/-- an object of ours is made -/
theorem Sim.new (S : Sim w σ h) (e : ∀ b ob, h.get? b = some ob → h'.get? b = some ob) (x : AbsO w h' a o) : Sim w (Mine.upd σ a o) h' := fun b ob hb => by
  unfold Mine.upd at hb
  by_cases q : b = a
  · subst q; rw [if_pos rfl] at hb; cases hb; exact x
  · rw [if_neg q] at hb; exact (S.same e) b ob hb
theorem Ext.new (ha : h.get? a = none) (e : ∀ b ob, h.get? b = some ob → h'.get? b = some ob) : Ext σ h.get? (Mine.upd σ a o) h' :=
  ⟨fun b ob x y => ⟨e _ _ x, by
    have : b ≠ a := fun q => by rw [q, ha] at x; cases x
    exact (upd_ne this).trans y⟩, upd_dom⟩
theorem get_size (h : Heap) : h.get? h.objs.size = none := by
  cases e : h.get? h.objs.size with
  | none => rfl
  | some ob => exact absurd (Heap.lt_size e) (Nat.lt_irrefl _)
end

/-! names -/
theorem tbl_get (l : List Str) (i : Nat) : tbl l i = if h : i < l.length then l[i] else ⟨#[1114112 + (i - l.length)]⟩ := by
  induction l generalizing i with
  | nil => simp [tbl]
  | cons a l ih =>
    cases i with
    | zero => simp only [List.length_cons, Nat.zero_lt_succ, dif_pos, List.getElem_cons_zero]; rfl
    | succ n =>
      show tbl l n = _
      rw [ih]
      by_cases h : n < l.length
      · simp [h]
      · simp [h]
theorem names_small : (namesQ.all fun x => x.cps.toList.all fun c => decide (c < 1114112)) = true := by decide +kernel
noncomputable def cd (x : Str) : Nat := x.cps.toList.foldl (fun h c => h * 256 + c + 1) 0
theorem names_nodup : (namesQ.map cd).Nodup := by decide +kernel
theorem st_get (i : Nat) : st i = if h : i < namesQ.length then namesQ[i] else ⟨#[1114112 + (i - namesQ.length)]⟩ := by
  show tbl namesR i = _
  rw [names_eq, tbl_get]
theorem tb_inj (L : List Str) (small : ∀ k (hk : k < L.length) (m : Nat), L[k] ≠ (⟨#[1114112 + m]⟩ : Str)) (nd : (L.map cd).Nodup) (T : Nat → Str) (hT : ∀ i, T i = if h : i < L.length then L[i] else ⟨#[1114112 + (i - L.length)]⟩) {i j : Nat} (h : T i = T j) : i = j := by
  rw [hT, hT] at h
  by_cases hi : i < L.length <;> by_cases hj : j < L.length
  · rw [dif_pos hi, dif_pos hj] at h
    have k := List.pairwise_iff_getElem.mp nd
    have lm : (L.map cd).length = L.length := List.length_map _
    rcases Nat.lt_trichotomy i j with q | q | q
    · exact absurd (by rw [List.getElem_map, List.getElem_map, h]) (k i j (lm.symm ▸ hi) (lm.symm ▸ hj) q)
    · exact q
    · exact absurd (by rw [List.getElem_map, List.getElem_map, h]) (k j i (lm.symm ▸ hj) (lm.symm ▸ hi) q)
  · rw [dif_pos hi, dif_neg hj] at h; exact absurd h (small i hi _)
  · rw [dif_neg hi, dif_pos hj] at h; exact absurd h.symm (small j hj _)
  · rw [dif_neg hi, dif_neg hj] at h
    have h' : 1114112 + (i - L.length) = 1114112 + (j - L.length) := congrArg (fun x : Str => x.cps.toList.headD 0) h
    omega
theorem st_inj {i j : Nat} (h : st i = st j) : i = j :=
  tb_inj namesQ (fun k hk m e => by
    have := List.all_eq_true.mp names_small _ (List.getElem_mem hk)
    rw [e] at this
    have h2 : (decide (1114112 + m < 1114112) && true) = true := this
    rw [Bool.and_true] at h2
    exact Nat.not_lt.mpr (Nat.le_add_right _ _) (of_decide_eq_true h2)) names_nodup st st_get h
theorem names_dbg : (namesQ.all fun x => decide (x.cps.toList ≠ [95, 95, 100, 101, 98, 117, 103, 95, 95])) = true := by decide +kernel
theorem dbg_is : ("__debug__" : Str) = ⟨#[95, 95, 100, 101, 98, 117, 103, 95, 95]⟩ := PySem.W.Fast.ofString_ofList ['_', '_', 'd', 'e', 'b', 'u', 'g', '_', '_']
theorem st_dbg (i : Nat) : (st i == ("__debug__" : Str)) = false := by
  rw [beq_eq_false_iff_ne, dbg_is, st_get]
  by_cases hi : i < namesQ.length
  · rw [dif_pos hi]
    have := List.all_eq_true.mp names_dbg _ (List.getElem_mem hi)
    intro e
    rw [e] at this
    exact of_decide_eq_true this rfl
  · rw [dif_neg hi]; intro e
    exact absurd (congrArg (fun x : Str => x.cps.toList.length) e) (by show ¬ (1 = 9); decide)
theorem lookup_st {α : Type} (n : Nat) : ∀ l : List (Nat × α), (l.map fun p => (st p.1, p.2)).lookup (st n) = l.lookup n
  | [] => rfl
  | (m, k) :: l => by
    rw [List.map_cons, List.lookup_cons, List.lookup_cons, lookup_st n l]
    by_cases e : n = m
    · subst e; simp
    · have : st n ≠ st m := fun q => e (st_inj q)
      rw [beq_eq_false_iff_ne.mpr this, beq_eq_false_iff_ne.mpr e]
/-! NB -/
structure Fi where
  ks : List (Nat × NameKind)
  own : Bool
structure Base where
  σ : St
  h : Addr → Option Obj
structure EnvOk (fi : Fi) (env : Env) : Prop where
  kind : env.scope.kind = .function
  names : env.scope.names = fi.ks.map (fun p => (st p.1, p.2))
  glob : env.globals = mainGlobals
  blt : env.builtins = builtinsNs
theorem EnvOk.kindOf {fi : Fi} {env : Env} (x : EnvOk fi env) (n : Nat) : env.kindOf (st n) = fi.ks.lookup n := by
  unfold Env.kindOf; rw [x.names, lookup_st]
/-- what stands below the call: the world, the heap at its start, the readable part of it -/
structure Cx where
  w : World
  hb : Heap
  τ : St
  K : (KK w.params).In hb
  top : ∃ p loose mean mg mb, Top p loose mean mg mb hb
  tau : ∀ a o, τ a = some o → AbsO w hb a o
structure Inv (X : Cx) (B : Base) (fi : Fi) (env : Env) (ρ : Loc) (σ : St) (h : Heap) : Prop where
  eok : EnvOk fi env
  base : ∀ b o, X.hb.get? b = some o → B.h b = some o ∧ B.σ b = none
  sim : Sim X.w σ h
  ext : Ext B.σ B.h σ h
  loc : ∃ m, h.Ns env.locals m ∧ ∀ n v, ρ.lookup n = some v → fi.ks.lookup n = some .local → ∃ x, m (st n) = some x ∧ v.is x
  cel : ∀ n, fi.ks.lookup n = some .cell → ∃ c o, env.cells.lookup (st n) = some c ∧ h.IsCell c o ∧ ∀ v, ρ.lookup n = some v → ∃ x, o = some x ∧ v.is x
  newL : B.h env.locals = none
  apL : σ env.locals = none
  apC : ∀ n c, env.cells.lookup n = some c → σ c = none ∧ c ≠ env.locals ∧ (fi.own = true → B.h c = none) ∧ ∃ o, h.IsCell c o
  inj : ∀ n n' c, env.cells.lookup n = some c → env.cells.lookup n' = some c → n = n'

section
variable {X : Cx} {B : Base} {fi : Fi} {env : Env} {ρ : Loc} {σ σ' : St} {h h' : Heap}
theorem Inv.kept (I : Inv X B fi env ρ σ h) {b : Addr} {o : Obj} (e : X.hb.get? b = some o) : h.get? b = some o ∧ σ b = none :=
  let ⟨p, q⟩ := I.base b o e; I.ext.out b o p q
theorem Inv.K (I : Inv X B fi env ρ σ h) : (KK X.w.params).In h := fun a o e => (I.kept (X.K a o e)).1
theorem Inv.step (I : Inv X B fi env ρ σ h) (S : Sim X.w σ' h') (x : Ext σ h.get? σ' h') : Inv X B fi env ρ σ' h' where
  eok := I.eok
  base := I.base
  sim := S
  ext := I.ext.trans x
  loc := by
    obtain ⟨m, ⟨o, es, ep, h1, h2⟩, h3⟩ := I.loc
    exact ⟨m, ⟨o, es, ep, (x.out _ _ h1 I.apL).1, h2⟩, h3⟩
  cel := fun n hn => by
    obtain ⟨c, o, h1, ⟨ob, h2, h3⟩, h4⟩ := I.cel n hn
    exact ⟨c, o, h1, ⟨ob, (x.out _ _ h2 (I.apC _ _ h1).1).1, h3⟩, h4⟩
  newL := I.newL
  apL := by
    obtain ⟨m, ⟨o, es, ep, h1, h2⟩, h3⟩ := I.loc
    exact (x.out _ _ h1 I.apL).2
  apC := fun n c hc => by
    obtain ⟨p, q, r, o, ob, e1, e2⟩ := I.apC n c hc
    obtain ⟨y, z⟩ := x.out _ _ e1 p
    exact ⟨z, q, r, o, ob, y, e2⟩
  inj := I.inj
/-- the same, the heap's new part being none of ours -/
theorem Inv.same (I : Inv X B fi env ρ σ h) (e : ∀ b ob, h.get? b = some ob → h'.get? b = some ob) : Inv X B fi env ρ σ h' := I.step (I.sim.same e) (.keep e)
theorem Inv.set (I : Inv X B fi env ρ σ h) {a : Addr} {o : AObj} (ha : σ a ≠ none) (s : Heap.SameBut a h h') (x : AbsO X.w h' a o) : Inv X B fi env ρ (upd σ a o) h' := I.step (I.sim.upd s x) (.upd ha s)
theorem Inv.new (I : Inv X B fi env ρ σ h) {a : Addr} {o : AObj} (ha : h.get? a = none) (e : ∀ b ob, h.get? b = some ob → h'.get? b = some ob) (x : AbsO X.w h' a o) : Inv X B fi env ρ (upd σ a o) h' :=
  I.step (I.sim.new e x) (.new ha e)
theorem Inv.free (I : Inv X B fi env ρ σ h) {a : Addr} (ha : h.get? a = none) : σ a = none := by
  cases e : σ a with
  | none => rfl
  | some o => obtain ⟨ob, e'⟩ := (I.sim _ _ e).some; rw [ha] at e'; cases e'
/-- what can be read: ours, or the readable part of what stood -/
noncomputable def rd (X : Cx) (σ : St) (a : Addr) : Option AObj := match σ a with
  | some o => some o
  | none => X.τ a
theorem rd_own {a : Addr} {o : AObj} (e : σ a = some o) : rd X σ a = some o := by unfold rd; rw [e]
theorem Inv.at (I : Inv X B fi env ρ σ h) {a : Addr} {o : AObj} (e : rd X σ a = some o) : AbsO X.w h a o := by
  unfold rd at e
  cases q : σ a with
  | some o' => rw [q] at e; cases e; exact I.sim _ _ q
  | none =>
    rw [q] at e
    have x := X.tau _ _ e
    obtain ⟨ob, e'⟩ := x.some
    exact x.of_get _ ((I.kept e').1.trans e'.symm)
end

/-! judgements: a sound predicate transformer for an expression, a test, a list of expressions, a block, a call -/
structure Room (r : Nat) (A : Around) : Prop where
  d : A.depth + r < recursionLimit
  u : A.units + r < cLine
  h : A.handled = none
theorem Room.le {r r' : Nat} {A : Around} (x : Room r A) (h : r' ≤ r) : Room r' A := ⟨by have := x.d; lia, by have := x.u; lia, x.h⟩
abbrev Tr (α : Type) := Loc → St → (α → St → Prop) → Prop
def SE (X : Cx) (r : Nat) (fi : Fi) (e : Expr) (F : Tr V) : Prop :=
  ∀ (A : Around) (B : Base) (env : Env) (ρ : Loc) (σ : St) (s : Shared) (Qa : V → St → Prop) (Q E : Value → Shared → Prop), Room r A → Inv X B fi env ρ σ s.heap → F ρ σ Qa →
    (∀ v x σ' h' tk, v.is x → Qa v σ' → Inv X B fi env ρ σ' h' → Q x { s with heap := h', toks := tk }) → wpAny (model pw X.w) A (eval e env) Q E s
def ST (X : Cx) (r : Nat) (fi : Fi) (e : Expr) (F : Tr Bool) : Prop :=
  ∀ (A : Around) (B : Base) (env : Env) (ρ : Loc) (σ : St) (s : Shared) (Qa : Bool → St → Prop) (Q : Bool → Shared → Prop) (E : Value → Shared → Prop), Room r A → Inv X B fi env ρ σ s.heap → F ρ σ Qa →
    (∀ b σ' h' tk, Qa b σ' → Inv X B fi env ρ σ' h' → Q b { s with heap := h', toks := tk }) → wpAny (model pw X.w) A (isTrue e env (eval e env)) Q E s
def SL (X : Cx) (r : Nat) (fi : Fi) (es : List Expr) (F : Tr (List V)) : Prop :=
  ∀ (A : Around) (B : Base) (env : Env) (pos : Pos) (ρ : Loc) (σ : St) (s : Shared) (Qa : List V → St → Prop) (Q : List Value → Shared → Prop) (E : Value → Shared → Prop), Room r A → Inv X B fi env ρ σ s.heap → F ρ σ Qa →
    (∀ vs xs σ' h' tk, AllIs vs xs → Qa vs σ' → Inv X B fi env ρ σ' h' → Q xs { s with heap := h', toks := tk }) → wpAny (model pw X.w) A (spliced (backTo pos (starEach es env))) Q E s
inductive Fl where
  | next | brk | cont | ret (v : V)
def Fl.is : Fl → Flow → Prop
  | .next, f => f = .next
  | .brk, f => f = .brk
  | .cont, f => f = .cont
  | .ret v, f => ∃ x, f = .ret x ∧ v.is x
abbrev Bl := Loc → St → (Fl → Loc → St → Prop) → Prop
def SS (X : Cx) (r : Nat) (fi : Fi) (ss : List Stmt) (F : Bl) : Prop :=
  ∀ (A : Around) (B : Base) (env : Env) (ρ : Loc) (σ : St) (s : Shared) (Qa : Fl → Loc → St → Prop) (Q : Flow → Shared → Prop) (E : Value → Shared → Prop), Room r A → Inv X B fi env ρ σ s.heap → F ρ σ Qa →
    (∀ f g ρ' σ' h' tk, f.is g → Qa f ρ' σ' → Inv X B fi env ρ' σ' h' → Q g { s with heap := h', toks := tk }) → wpAny (model pw X.w) A (execs ss env) Q E s
def S1 (X : Cx) (r : Nat) (fi : Fi) (c : Stmt) (F : Bl) : Prop :=
  ∀ (A : Around) (B : Base) (env : Env) (ρ : Loc) (σ : St) (s : Shared) (Qa : Fl → Loc → St → Prop) (Q : Flow → Shared → Prop) (E : Value → Shared → Prop), Room r A → Inv X B fi env ρ σ s.heap → F ρ σ Qa →
    (∀ f g ρ' σ' h' tk, f.is g → Qa f ρ' σ' → Inv X B fi env ρ' σ' h' → Q g { s with heap := h', toks := tk }) → wpAny (model pw X.w) A (exec c env) Q E s
/-- what a call finds -/
structure Mid (X : Cx) (σ : St) (h : Heap) : Prop where
  kept : ∀ b o, X.hb.get? b = some o → h.get? b = some o ∧ σ b = none
  sim : Sim X.w σ h
theorem Inv.mid {X : Cx} {B : Base} {fi : Fi} {env : Env} {ρ : Loc} {σ : St} {h : Heap} (I : Inv X B fi env ρ σ h) : Mid X σ h := ⟨fun _ _ e => I.kept e, I.sim⟩
/-- a call: of a def of the text, of a class, of a builtin -/
def SC (X : Cx) (r : Nat) (f : Value) (T : List V → St → (V → St → Prop) → Prop) : Prop :=
  ∀ (A : Around) (vs : List V) (xs : List Value) (σ : St) (s : Shared) (Qa : V → St → Prop) (Q E : Value → Shared → Prop), Room r A → Mid X σ s.heap → AllIs vs xs → T vs σ Qa →
    (∀ v x σ' h' tk, v.is x → Qa v σ' → Sim X.w σ' h' → Ext σ s.heap.get? σ' h' → Q x { s with heap := h', toks := tk }) → wpAny (model pw X.w) A (call f xs) Q E s
/-- what is there, or nothing holds -/
def bnd {α : Type} (o : Option α) (P : α → Prop) : Prop := match o with
  | some v => P v
  | none => False
theorem bS {α : Type} {o : Option α} {v : α} {P : α → Prop} (h : o = some v) (k : P v) : bnd o P := by rw [h]; exact k
theorem bnd_ex {α : Type} {o : Option α} {P : α → Prop} (h : bnd o P) : ∃ v, o = some v ∧ P v := by
  cases o with
  | none => exact h.elim
  | some v => exact ⟨v, rfl, h⟩
/-- an int, or nothing holds -/
def anInt : V → (Int → Prop) → Prop
  | .int i, P => P i
  | _, _ => False
theorem anInt_ex {v : V} {P : Int → Prop} (h : anInt v P) : ∃ i, v = .int i ∧ P i := by
  cases v with
  | int i => exact ⟨i, rfl, h⟩
  | _ => exact h.elim

section
variable {X : Cx} {σ σ' : St} {h h' : Heap} {a : Addr} {o : AObj}
theorem Mid.step (M : Mid X σ h) (S : Sim X.w σ' h') (x : Ext σ h.get? σ' h') : Mid X σ' h' := ⟨fun b o e => let ⟨p, q⟩ := M.kept b o e; x.out b o p q, S⟩
theorem Mid.at (M : Mid X σ h) (e : rd X σ a = some o) : AbsO X.w h a o := by
  unfold rd at e
  cases q : σ a with
  | some o' => rw [q] at e; cases e; exact M.sim _ _ q
  | none =>
    rw [q] at e
    have x := X.tau _ _ e
    obtain ⟨ob, e'⟩ := x.some
    exact x.of_get _ ((M.kept _ _ e').1.trans e'.symm)
theorem Mid.rd_new (M : Mid X σ h) (ha : h.get? a = none) : rd X σ a = none := by
  cases e : rd X σ a with
  | none => rfl
  | some o => obtain ⟨ob, e'⟩ := (M.at e).some; rw [ha] at e'; cases e'
theorem Mid.K (M : Mid X σ h) : (KK X.w.params).In h := fun a o e => (M.kept _ _ (X.K a o e)).1
end
theorem is_int (i : Int) (t : Tok) : (V.int i).is (.int i t) := ⟨t, rfl⟩
theorem is_str (n : Nat) (t : Tok) : (V.str n).is (.str (st n) t) := ⟨t, rfl⟩
theorem is_bool (b : Bool) : (V.bool b).is (.bool b) := rfl
theorem is_none : V.none.is .none := rfl
theorem is_ref (a : Addr) : (V.ref a).is (.ref a) := rfl
section
variable {X : Cx} {r : Nat} {fi : Fi}
theorem SE_local {x : Str} {n : Nat} {pos : Pos} (hx : x = st n) (hk : fi.ks.lookup n = some .local) : SE X r fi (.Name x pos) (fun ρ σ Q => bnd (ρ.lookup n) fun v => Q v σ) := by
  subst hx
  intro A B env ρ σ s Qa Q E R I hF h
  obtain ⟨v, hv, hq⟩ := bnd_ex hF
  obtain ⟨m, hm, hl⟩ := I.loc
  obtain ⟨x, hx, hi⟩ := hl n v hv hk
  exact wpAny_Name (wpAny_loadName_local I.eok.kind ((I.eok.kindOf n).trans hk) hm hx (h v x σ _ _ hi hq I)) (st_dbg n)
theorem SE_cell {x : Str} {n : Nat} {pos : Pos} (hx : x = st n) (hk : fi.ks.lookup n = some .cell) : SE X r fi (.Name x pos) (fun ρ σ Q => bnd (ρ.lookup n) fun v => Q v σ) := by
  subst hx
  intro A B env ρ σ s Qa Q E R I hF h
  obtain ⟨v, hv, hq⟩ := bnd_ex hF
  obtain ⟨c, o, h1, h2, h3⟩ := I.cel n hk
  obtain ⟨x, rfl, hi⟩ := h3 v hv
  exact wpAny_Name (wpAny_loadName_cell I.eok.kind ((I.eok.kindOf n).trans hk) h1 h2 (h v x σ _ _ hi hq I)) (st_dbg n)
theorem SE_int {i : Int} {k : Nat} {pos : Pos} : SE X r fi (.Constant (.int i) k pos) (fun _ σ Q => Q (.int i) σ) := by
  intro A B env ρ σ s Qa Q E R I hq h
  exact wpAny_Constant_int (h _ _ σ _ _ (is_int _ _) hq I)
theorem SE_bool {b : Bool} {k : Nat} {pos : Pos} : SE X r fi (.Constant (.bool b) k pos) (fun _ σ Q => Q (.bool b) σ) := by
  intro A B env ρ σ s Qa Q E R I hq h
  exact wpAny_Constant_bool (h _ _ σ _ _ (is_bool _) hq I)
theorem SE_none {k : Nat} {pos : Pos} : SE X r fi (.Constant .none k pos) (fun _ σ Q => Q (.none) σ) := by
  intro A B env ρ σ s Qa Q E R I hq h
  exact wpAny_Constant_none (h _ _ σ _ _ is_none hq I)
theorem SE_str {x : Str} {n k : Nat} {pos : Pos} (hx : x = st n) : SE X r fi (.Constant (.str x) k pos) (fun _ σ Q => Q (.str n) σ) := by
  subst hx
  intro A B env ρ σ s Qa Q E R I hq h
  exact wpAny_Constant_str (h _ _ σ _ _ (is_str _ _) hq I)
end
/-! NG -/
theorem k3 (P : Params) : (KK P).lookup 3 = some (ko_3 P) := by kernel_rfl!
theorem gfind (P : Params) (n : Nat) : ∀ l : List (Nat × Nat × Value),
    (l.map fun e => (⟨PyData.keyHash P (st e.1), .str (st e.1) e.2.1, e.2.2⟩ : DictEntry)).find? (fun e => e.key.isStr (st n)) = (l.find? fun e => e.1 == n).map fun e => (⟨PyData.keyHash P (st e.1), .str (st e.1) e.2.1, e.2.2⟩ : DictEntry)
  | [] => rfl
  | (m, t, v) :: l => by
    have e : (Value.str (st m) t).isStr (st n) = (m == n) := by
      show (st m == st n) = _
      by_cases q : m = n
      · subst q; simp
      · rw [beq_eq_false_iff_ne.mpr q, beq_eq_false_iff_ne.mpr fun h => q (st_inj h)]
    rw [List.map_cons, List.find?_cons, List.find?_cons]
    simp only [e]
    cases m == n with
    | true => rfl
    | false => exact gfind P n l
theorem gl_some {P : Params} {n : Nat} {v : Value} {t : Nat} (h : gTab.lookup n = some (t, v)) : nsIn (KK P) mainGlobals (st n) = some (some v) := by
  have q : gTab.find? (fun e => e.1 == n) = some (n, t, v) := by
    revert h
    generalize gTab = l
    intro h
    induction l with
    | nil => cases h
    | cons a l ih =>
      obtain ⟨m, b⟩ := a
      rw [List.lookup_cons] at h
      rw [List.find?_cons]
      by_cases e : n = m
      · subst e; simp at h; subst h; simp
      · rw [beq_eq_false_iff_ne.mpr e] at h
        show (match m == n with | true => _ | false => _) = _
        rw [beq_eq_false_iff_ne.mpr (Ne.symm e)]
        exact ih h
  have k : List.lookup mainGlobals (KK P) = some (ko_3 P) := k3 P
  unfold nsIn
  rw [k]
  show (match (gTab.map fun (e : Nat × Nat × Value) => (⟨PyData.keyHash P (st e.1), .str (st e.1) e.2.1, e.2.2⟩ : DictEntry)).find? (fun e => e.key.isStr (st n)) with | some e => some (some e.val) | none => if (gTab.map fun (e : Nat × Nat × Value) => (⟨PyData.keyHash P (st e.1), .str (st e.1) e.2.1, e.2.2⟩ : DictEntry)).any (·.refKey) = true then none else some none) = _
  rw [gfind, q]
  rfl
theorem gl_none {P : Params} {n : Nat} (h : gTab.find? (fun e => e.1 == n) = none) : nsIn (KK P) mainGlobals (st n) = some none := by
  have k : List.lookup mainGlobals (KK P) = some (ko_3 P) := k3 P
  unfold nsIn
  rw [k]
  show (match (gTab.map fun (e : Nat × Nat × Value) => (⟨PyData.keyHash P (st e.1), .str (st e.1) e.2.1, e.2.2⟩ : DictEntry)).find? (fun e => e.key.isStr (st n)) with | some e => some (some e.val) | none => if (gTab.map fun (e : Nat × Nat × Value) => (⟨PyData.keyHash P (st e.1), .str (st e.1) e.2.1, e.2.2⟩ : DictEntry)).any (·.refKey) = true then none else some none) = _
  rw [gfind, h]
  show (if (gTab.map fun (e : Nat × Nat × Value) => (⟨PyData.keyHash P (st e.1), .str (st e.1) e.2.1, e.2.2⟩ : DictEntry)).any (·.refKey) = true then none else some none) = _
  rw [if_neg]
  rw [List.any_map, Bool.not_eq_true, List.any_eq_false]
  intro x _
  exact Bool.false_ne_true
structure FnOk (K : Frag) (f : Addr) (q : Nat) (S : Stmt) : Prop where
  look : ∃ nm doc pm cd, K.lookup f = some ⟨.type "function", none, .func (fnOf nm (st q) (fArgs S) (fBody S) (fScope S) .none .none doc pm none cd .none), #[]⟩ ∧ codeIn K cd (st q) = true
  keep : keepIn K (.ref f) = true
  isfn : isFn K (.ref f) = true
theorem fk_28 (P : Params) : FnOk (KK P) 28 10 (F1 8) := ⟨⟨st 10, .none, (.str (st 4) 196), (.ref 27), by kernel_rfl!, by kernel_rfl!⟩, by kernel_rfl!, by kernel_rfl!⟩
theorem fk_35 (P : Params) : FnOk (KK P) 35 12 (F1 9) := ⟨⟨st 12, .none, (.str (st 4) 196), (.ref 34), by kernel_rfl!, by kernel_rfl!⟩, by kernel_rfl!, by kernel_rfl!⟩
theorem fk_134 (P : Params) : FnOk (KK P) 134 201 (F2 23 0) := ⟨⟨st 30, .none, (.str (st 38) 348), (.ref 133), by kernel_rfl!, by kernel_rfl!⟩, by kernel_rfl!, by kernel_rfl!⟩
theorem fk_141 (P : Params) : FnOk (KK P) 141 202 (F2 23 1) := ⟨⟨st 48, .none, (.str (st 38) 348), (.ref 140), by kernel_rfl!, by kernel_rfl!⟩, by kernel_rfl!, by kernel_rfl!⟩
theorem fk_155 (P : Params) : FnOk (KK P) 155 49 (F1 24) := ⟨⟨st 49, .none, (.str (st 38) 348), (.ref 154), by kernel_rfl!, by kernel_rfl!⟩, by kernel_rfl!, by kernel_rfl!⟩
theorem fk_162 (P : Params) : FnOk (KK P) 162 53 (F1 25) := ⟨⟨st 53, .none, (.str (st 38) 348), (.ref 161), by kernel_rfl!, by kernel_rfl!⟩, by kernel_rfl!, by kernel_rfl!⟩
theorem fk_169 (P : Params) : FnOk (KK P) 169 55 (F1 26) := ⟨⟨st 55, .none, (.str (st 38) 348), (.ref 168), by kernel_rfl!, by kernel_rfl!⟩, by kernel_rfl!, by kernel_rfl!⟩
theorem fk_176 (P : Params) : FnOk (KK P) 176 58 (F1 27) := ⟨⟨st 58, .none, (.str (st 38) 348), (.ref 175), by kernel_rfl!, by kernel_rfl!⟩, by kernel_rfl!, by kernel_rfl!⟩
theorem fk_183 (P : Params) : FnOk (KK P) 183 60 (F1 29) := ⟨⟨st 60, .none, (.str (st 59) 433), (.ref 182), by kernel_rfl!, by kernel_rfl!⟩, by kernel_rfl!, by kernel_rfl!⟩
theorem fk_197 (P : Params) : FnOk (KK P) 197 208 (F2 30 0) := ⟨⟨st 30, .none, (.str (st 59) 433), (.ref 196), by kernel_rfl!, by kernel_rfl!⟩, by kernel_rfl!, by kernel_rfl!⟩
theorem fk_204 (P : Params) : FnOk (KK P) 204 209 (F2 30 1) := ⟨⟨st 66, .none, (.str (st 59) 433), (.ref 203), by kernel_rfl!, by kernel_rfl!⟩, by kernel_rfl!, by kernel_rfl!⟩
theorem fk_211 (P : Params) : FnOk (KK P) 211 210 (F2 30 2) := ⟨⟨st 68, .none, (.str (st 59) 433), (.ref 210), by kernel_rfl!, by kernel_rfl!⟩, by kernel_rfl!, by kernel_rfl!⟩
theorem fk_218 (P : Params) : FnOk (KK P) 218 211 (F2 30 3) := ⟨⟨st 69, .none, (.str (st 59) 433), (.ref 217), by kernel_rfl!, by kernel_rfl!⟩, by kernel_rfl!, by kernel_rfl!⟩
theorem fk_246 (P : Params) : FnOk (KK P) 246 212 (F2 31 0) := ⟨⟨st 30, .none, (.str (st 59) 433), (.ref 245), by kernel_rfl!, by kernel_rfl!⟩, by kernel_rfl!, by kernel_rfl!⟩
theorem fk_253 (P : Params) : FnOk (KK P) 253 213 (F2 31 1) := ⟨⟨st 80, .none, (.str (st 59) 433), (.ref 252), by kernel_rfl!, by kernel_rfl!⟩, by kernel_rfl!, by kernel_rfl!⟩
theorem fk_260 (P : Params) : FnOk (KK P) 260 214 (F2 31 2) := ⟨⟨st 81, .none, (.str (st 59) 433), (.ref 259), by kernel_rfl!, by kernel_rfl!⟩, by kernel_rfl!, by kernel_rfl!⟩
theorem fk_267 (P : Params) : FnOk (KK P) 267 215 (F2 31 3) := ⟨⟨st 82, .none, (.str (st 59) 433), (.ref 266), by kernel_rfl!, by kernel_rfl!⟩, by kernel_rfl!, by kernel_rfl!⟩
theorem fk_281 (P : Params) : FnOk (KK P) 281 83 (F1 32) := ⟨⟨st 83, .none, (.str (st 59) 433), (.ref 280), by kernel_rfl!, by kernel_rfl!⟩, by kernel_rfl!, by kernel_rfl!⟩
theorem fk_288 (P : Params) : FnOk (KK P) 288 92 (F1 39) := ⟨⟨st 92, .none, (.str (st 86) 581), (.ref 287), by kernel_rfl!, by kernel_rfl!⟩, by kernel_rfl!, by kernel_rfl!⟩
theorem fk_295 (P : Params) : FnOk (KK P) 295 93 (F1 40) := ⟨⟨st 93, .none, (.str (st 86) 581), (.ref 294), by kernel_rfl!, by kernel_rfl!⟩, by kernel_rfl!, by kernel_rfl!⟩
theorem fk_309 (P : Params) : FnOk (KK P) 309 216 (F2 41 0) := ⟨⟨st 30, .none, (.str (st 86) 581), (.ref 308), by kernel_rfl!, by kernel_rfl!⟩, by kernel_rfl!, by kernel_rfl!⟩
theorem fk_316 (P : Params) : FnOk (KK P) 316 217 (F2 41 1) := ⟨⟨st 102, .none, (.str (st 86) 581), (.ref 315), by kernel_rfl!, by kernel_rfl!⟩, by kernel_rfl!, by kernel_rfl!⟩
theorem fk_321 (P : Params) : FnOk (KK P) 321 218 (F2 41 2) := ⟨⟨st 103, .none, (.str (st 86) 581), (.ref 320), by kernel_rfl!, by kernel_rfl!⟩, by kernel_rfl!, by kernel_rfl!⟩
theorem fk_328 (P : Params) : FnOk (KK P) 328 219 (F2 41 3) := ⟨⟨st 105, .none, (.str (st 86) 581), (.ref 327), by kernel_rfl!, by kernel_rfl!⟩, by kernel_rfl!, by kernel_rfl!⟩
theorem fk_335 (P : Params) : FnOk (KK P) 335 220 (F2 41 4) := ⟨⟨st 106, .none, (.str (st 86) 581), (.ref 334), by kernel_rfl!, by kernel_rfl!⟩, by kernel_rfl!, by kernel_rfl!⟩
theorem fk_342 (P : Params) : FnOk (KK P) 342 221 (F2 41 5) := ⟨⟨st 107, .none, (.str (st 86) 581), (.ref 341), by kernel_rfl!, by kernel_rfl!⟩, by kernel_rfl!, by kernel_rfl!⟩
theorem fk_356 (P : Params) : FnOk (KK P) 356 104 (F1 42) := ⟨⟨st 104, .none, (.str (st 86) 581), (.ref 355), by kernel_rfl!, by kernel_rfl!⟩, by kernel_rfl!, by kernel_rfl!⟩
theorem fk_363 (P : Params) : FnOk (KK P) 363 119 (F1 44) := ⟨⟨st 119, .none, (.str (st 118) 701), (.ref 362), by kernel_rfl!, by kernel_rfl!⟩, by kernel_rfl!, by kernel_rfl!⟩
theorem fk_370 (P : Params) : FnOk (KK P) 370 122 (F1 45) := ⟨⟨st 122, .none, (.str (st 118) 701), (.ref 369), by kernel_rfl!, by kernel_rfl!⟩, by kernel_rfl!, by kernel_rfl!⟩
theorem fk_377 (P : Params) : FnOk (KK P) 377 127 (F1 48) := ⟨⟨st 127, .none, (.str (st 125) 733), (.ref 376), by kernel_rfl!, by kernel_rfl!⟩, by kernel_rfl!, by kernel_rfl!⟩
theorem fk_384 (P : Params) : FnOk (KK P) 384 133 (F1 49) := ⟨⟨st 133, .none, (.str (st 125) 733), (.ref 383), by kernel_rfl!, by kernel_rfl!⟩, by kernel_rfl!, by kernel_rfl!⟩
theorem fk_391 (P : Params) : FnOk (KK P) 391 138 (F1 50) := ⟨⟨st 138, .none, (.str (st 125) 733), (.ref 390), by kernel_rfl!, by kernel_rfl!⟩, by kernel_rfl!, by kernel_rfl!⟩
theorem fk_398 (P : Params) : FnOk (KK P) 398 132 (F1 51) := ⟨⟨st 132, .none, (.str (st 125) 733), (.ref 397), by kernel_rfl!, by kernel_rfl!⟩, by kernel_rfl!, by kernel_rfl!⟩
theorem fk_405 (P : Params) : FnOk (KK P) 405 139 (F1 52) := ⟨⟨st 139, .none, (.str (st 125) 733), (.ref 404), by kernel_rfl!, by kernel_rfl!⟩, by kernel_rfl!, by kernel_rfl!⟩
theorem fk_419 (P : Params) : FnOk (KK P) 419 222 (F2 54 0) := ⟨⟨st 30, .none, (.str (st 142) 825), (.ref 418), by kernel_rfl!, by kernel_rfl!⟩, by kernel_rfl!, by kernel_rfl!⟩
theorem fk_426 (P : Params) : FnOk (KK P) 426 223 (F2 54 1) := ⟨⟨st 95, .none, (.str (st 142) 825), (.ref 425), by kernel_rfl!, by kernel_rfl!⟩, by kernel_rfl!, by kernel_rfl!⟩
theorem fk_431 (P : Params) : FnOk (KK P) 431 224 (F2 54 2) := ⟨⟨st 123, .none, (.str (st 142) 825), (.ref 430), by kernel_rfl!, by kernel_rfl!⟩, by kernel_rfl!, by kernel_rfl!⟩
theorem fk_438 (P : Params) : FnOk (KK P) 438 225 (F2 54 3) := ⟨⟨st 52, .none, (.str (st 142) 825), (.ref 437), by kernel_rfl!, by kernel_rfl!⟩, by kernel_rfl!, by kernel_rfl!⟩
theorem fk_445 (P : Params) : FnOk (KK P) 445 226 (F2 54 4) := ⟨⟨st 54, .none, (.str (st 142) 825), (.ref 444), by kernel_rfl!, by kernel_rfl!⟩, by kernel_rfl!, by kernel_rfl!⟩
theorem fk_452 (P : Params) : FnOk (KK P) 452 227 (F2 54 5) := ⟨⟨st 14, .none, (.str (st 142) 825), (.ref 451), by kernel_rfl!, by kernel_rfl!⟩, by kernel_rfl!, by kernel_rfl!⟩
theorem fk_459 (P : Params) : FnOk (KK P) 459 228 (F2 54 6) := ⟨⟨st 131, .none, (.str (st 142) 825), (.ref 458), by kernel_rfl!, by kernel_rfl!⟩, by kernel_rfl!, by kernel_rfl!⟩
theorem fk_466 (P : Params) : FnOk (KK P) 466 229 (F2 54 7) := ⟨⟨st 121, .none, (.str (st 142) 825), (.ref 465), by kernel_rfl!, by kernel_rfl!⟩, by kernel_rfl!, by kernel_rfl!⟩
theorem fk_473 (P : Params) : FnOk (KK P) 473 230 (F2 54 8) := ⟨⟨st 120, .none, (.str (st 142) 825), (.ref 472), by kernel_rfl!, by kernel_rfl!⟩, by kernel_rfl!, by kernel_rfl!⟩
theorem fk_480 (P : Params) : FnOk (KK P) 480 231 (F2 54 9) := ⟨⟨st 112, .none, (.str (st 142) 825), (.ref 479), by kernel_rfl!, by kernel_rfl!⟩, by kernel_rfl!, by kernel_rfl!⟩
theorem fk_487 (P : Params) : FnOk (KK P) 487 232 (F2 54 10) := ⟨⟨st 113, .none, (.str (st 142) 825), (.ref 486), by kernel_rfl!, by kernel_rfl!⟩, by kernel_rfl!, by kernel_rfl!⟩
theorem fk_494 (P : Params) : FnOk (KK P) 494 233 (F2 54 11) := ⟨⟨st 67, .none, (.str (st 142) 825), (.ref 493), by kernel_rfl!, by kernel_rfl!⟩, by kernel_rfl!, by kernel_rfl!⟩
theorem fk_508 (P : Params) : FnOk (KK P) 508 156 (F1 56) := ⟨⟨st 156, .none, (.str (st 155) 947), (.ref 507), by kernel_rfl!, by kernel_rfl!⟩, by kernel_rfl!, by kernel_rfl!⟩
theorem fk_515 (P : Params) : FnOk (KK P) 515 159 (F1 57) := ⟨⟨st 159, .none, (.str (st 155) 947), (.ref 514), by kernel_rfl!, by kernel_rfl!⟩, by kernel_rfl!, by kernel_rfl!⟩
theorem fk_522 (P : Params) : FnOk (KK P) 522 161 (F1 58) := ⟨⟨st 161, .none, (.str (st 155) 947), (.ref 521), by kernel_rfl!, by kernel_rfl!⟩, by kernel_rfl!, by kernel_rfl!⟩
theorem fk_527 (P : Params) : FnOk (KK P) 527 163 (F1 59) := ⟨⟨st 163, .none, (.str (st 155) 947), (.ref 526), by kernel_rfl!, by kernel_rfl!⟩, by kernel_rfl!, by kernel_rfl!⟩
theorem fk_532 (P : Params) : FnOk (KK P) 532 173 (F1 60) := ⟨⟨st 173, .none, (.str (st 155) 947), (.ref 531), by kernel_rfl!, by kernel_rfl!⟩, by kernel_rfl!, by kernel_rfl!⟩
theorem fk_537 (P : Params) : FnOk (KK P) 537 180 (F1 61) := ⟨⟨st 180, .none, (.str (st 155) 947), (.ref 536), by kernel_rfl!, by kernel_rfl!⟩, by kernel_rfl!, by kernel_rfl!⟩
theorem fk_544 (P : Params) : FnOk (KK P) 544 184 (F1 62) := ⟨⟨st 184, .none, (.str (st 155) 947), (.ref 543), by kernel_rfl!, by kernel_rfl!⟩, by kernel_rfl!, by kernel_rfl!⟩
theorem fk_551 (P : Params) : FnOk (KK P) 551 186 (F1 63) := ⟨⟨st 186, .none, (.str (st 155) 947), (.ref 550), by kernel_rfl!, by kernel_rfl!⟩, by kernel_rfl!, by kernel_rfl!⟩
theorem fk_556 (P : Params) : FnOk (KK P) 556 187 (F1 64) := ⟨⟨st 187, .none, (.str (st 155) 947), (.ref 555), by kernel_rfl!, by kernel_rfl!⟩, by kernel_rfl!, by kernel_rfl!⟩
theorem fk_561 (P : Params) : FnOk (KK P) 561 189 (F1 65) := ⟨⟨st 189, .none, (.str (st 155) 947), (.ref 560), by kernel_rfl!, by kernel_rfl!⟩, by kernel_rfl!, by kernel_rfl!⟩
structure ClsOk (K : Frag) (C : Addr) : Prop where
  get : ∀ x, plainGet K C x = true
  dct : hasDictIn K C = true
  set : findIn K (.ref C) "__setattr__" = some (some (.builtin "object.__setattr__"))
  over : plainOver K C = true
  makes : makesIn K C = true
  keep : keepIn K (.ref C) = true
theorem ck_144 (P : Params) : ClsOk (KK P) 144 := ⟨fun _ => by kernel_rfl!, by kernel_rfl!, by kernel_rfl!, by kernel_rfl!, by kernel_rfl!, by kernel_rfl!⟩
theorem ck_228 (P : Params) : ClsOk (KK P) 228 := ⟨fun _ => by kernel_rfl!, by kernel_rfl!, by kernel_rfl!, by kernel_rfl!, by kernel_rfl!, by kernel_rfl!⟩
theorem ck_270 (P : Params) : ClsOk (KK P) 270 := ⟨fun _ => by kernel_rfl!, by kernel_rfl!, by kernel_rfl!, by kernel_rfl!, by kernel_rfl!, by kernel_rfl!⟩
theorem ck_345 (P : Params) : ClsOk (KK P) 345 := ⟨fun _ => by kernel_rfl!, by kernel_rfl!, by kernel_rfl!, by kernel_rfl!, by kernel_rfl!, by kernel_rfl!⟩
theorem ck_497 (P : Params) : ClsOk (KK P) 497 := ⟨fun _ => by kernel_rfl!, by kernel_rfl!, by kernel_rfl!, by kernel_rfl!, by kernel_rfl!, by kernel_rfl!⟩
noncomputable def attrT : List (Addr × Nat) := [(144, 40), (144, 41), (144, 42), (144, 43), (144, 44), (144, 24), (144, 45), (144, 35), (144, 46), (144, 47), (228, 62), (228, 65), (270, 77), (270, 78), (270, 79), (345, 40), (345, 97), (345, 96), (345, 42), (345, 43), (345, 11), (345, 99), (345, 100), (345, 101), (497, 144), (497, 145), (497, 146), (497, 147), (497, 149), (497, 150), (497, 151)]
theorem attr_ok (P : Params) : ∀ p ∈ attrT, ClsOk (KK P) p.1 ∧ findIn (KK P) (.ref p.1) (st p.2) = some none ∧ takerIn (KK P) p.1 (st p.2) = some none :=
  List.forall_mem_cons.mpr ⟨⟨ck_144 P, by kernel_rfl!, by kernel_rfl!⟩, 
  List.forall_mem_cons.mpr ⟨⟨ck_144 P, by kernel_rfl!, by kernel_rfl!⟩, 
  List.forall_mem_cons.mpr ⟨⟨ck_144 P, by kernel_rfl!, by kernel_rfl!⟩, 
  List.forall_mem_cons.mpr ⟨⟨ck_144 P, by kernel_rfl!, by kernel_rfl!⟩, 
  List.forall_mem_cons.mpr ⟨⟨ck_144 P, by kernel_rfl!, by kernel_rfl!⟩, 
  List.forall_mem_cons.mpr ⟨⟨ck_144 P, by kernel_rfl!, by kernel_rfl!⟩, 
  List.forall_mem_cons.mpr ⟨⟨ck_144 P, by kernel_rfl!, by kernel_rfl!⟩, 
  List.forall_mem_cons.mpr ⟨⟨ck_144 P, by kernel_rfl!, by kernel_rfl!⟩, 
  List.forall_mem_cons.mpr ⟨⟨ck_144 P, by kernel_rfl!, by kernel_rfl!⟩, 
  List.forall_mem_cons.mpr ⟨⟨ck_144 P, by kernel_rfl!, by kernel_rfl!⟩, 
  List.forall_mem_cons.mpr ⟨⟨ck_228 P, by kernel_rfl!, by kernel_rfl!⟩, 
  List.forall_mem_cons.mpr ⟨⟨ck_228 P, by kernel_rfl!, by kernel_rfl!⟩, 
  List.forall_mem_cons.mpr ⟨⟨ck_270 P, by kernel_rfl!, by kernel_rfl!⟩, 
  List.forall_mem_cons.mpr ⟨⟨ck_270 P, by kernel_rfl!, by kernel_rfl!⟩, 
  List.forall_mem_cons.mpr ⟨⟨ck_270 P, by kernel_rfl!, by kernel_rfl!⟩, 
  List.forall_mem_cons.mpr ⟨⟨ck_345 P, by kernel_rfl!, by kernel_rfl!⟩, 
  List.forall_mem_cons.mpr ⟨⟨ck_345 P, by kernel_rfl!, by kernel_rfl!⟩, 
  List.forall_mem_cons.mpr ⟨⟨ck_345 P, by kernel_rfl!, by kernel_rfl!⟩, 
  List.forall_mem_cons.mpr ⟨⟨ck_345 P, by kernel_rfl!, by kernel_rfl!⟩, 
  List.forall_mem_cons.mpr ⟨⟨ck_345 P, by kernel_rfl!, by kernel_rfl!⟩, 
  List.forall_mem_cons.mpr ⟨⟨ck_345 P, by kernel_rfl!, by kernel_rfl!⟩, 
  List.forall_mem_cons.mpr ⟨⟨ck_345 P, by kernel_rfl!, by kernel_rfl!⟩, 
  List.forall_mem_cons.mpr ⟨⟨ck_345 P, by kernel_rfl!, by kernel_rfl!⟩, 
  List.forall_mem_cons.mpr ⟨⟨ck_345 P, by kernel_rfl!, by kernel_rfl!⟩, 
  List.forall_mem_cons.mpr ⟨⟨ck_497 P, by kernel_rfl!, by kernel_rfl!⟩, 
  List.forall_mem_cons.mpr ⟨⟨ck_497 P, by kernel_rfl!, by kernel_rfl!⟩, 
  List.forall_mem_cons.mpr ⟨⟨ck_497 P, by kernel_rfl!, by kernel_rfl!⟩, 
  List.forall_mem_cons.mpr ⟨⟨ck_497 P, by kernel_rfl!, by kernel_rfl!⟩, 
  List.forall_mem_cons.mpr ⟨⟨ck_497 P, by kernel_rfl!, by kernel_rfl!⟩, 
  List.forall_mem_cons.mpr ⟨⟨ck_497 P, by kernel_rfl!, by kernel_rfl!⟩, 
  List.forall_mem_cons.mpr ⟨⟨ck_497 P, by kernel_rfl!, by kernel_rfl!⟩, 
  List.forall_mem_nil _⟩⟩⟩⟩⟩⟩⟩⟩⟩⟩⟩⟩⟩⟩⟩⟩⟩⟩⟩⟩⟩⟩⟩⟩⟩⟩⟩⟩⟩⟩⟩
noncomputable def methT : List (Addr × Nat × Addr) := [(144, 48, 141), (228, 66, 204), (228, 68, 211), (228, 69, 218), (270, 80, 253), (270, 81, 260), (270, 82, 267), (345, 102, 316), (345, 103, 321), (345, 105, 328), (345, 106, 335), (345, 107, 342), (497, 95, 426), (497, 123, 431), (497, 52, 438), (497, 54, 445), (497, 14, 452), (497, 131, 459), (497, 121, 466), (497, 120, 473), (497, 112, 480), (497, 113, 487), (497, 67, 494)]
theorem meth_ok (P : Params) : ∀ p ∈ methT, ClsOk (KK P) p.1 ∧ findIn (KK P) (.ref p.1) (st p.2.1) = some (some (.ref p.2.2)) ∧ isFn (KK P) (.ref p.2.2) = true ∧ keepIn (KK P) (.ref p.2.2) = true :=
  List.forall_mem_cons.mpr ⟨⟨ck_144 P, by kernel_rfl!, (fk_141 P).isfn, (fk_141 P).keep⟩, 
  List.forall_mem_cons.mpr ⟨⟨ck_228 P, by kernel_rfl!, (fk_204 P).isfn, (fk_204 P).keep⟩, 
  List.forall_mem_cons.mpr ⟨⟨ck_228 P, by kernel_rfl!, (fk_211 P).isfn, (fk_211 P).keep⟩, 
  List.forall_mem_cons.mpr ⟨⟨ck_228 P, by kernel_rfl!, (fk_218 P).isfn, (fk_218 P).keep⟩, 
  List.forall_mem_cons.mpr ⟨⟨ck_270 P, by kernel_rfl!, (fk_253 P).isfn, (fk_253 P).keep⟩, 
  List.forall_mem_cons.mpr ⟨⟨ck_270 P, by kernel_rfl!, (fk_260 P).isfn, (fk_260 P).keep⟩, 
  List.forall_mem_cons.mpr ⟨⟨ck_270 P, by kernel_rfl!, (fk_267 P).isfn, (fk_267 P).keep⟩, 
  List.forall_mem_cons.mpr ⟨⟨ck_345 P, by kernel_rfl!, (fk_316 P).isfn, (fk_316 P).keep⟩, 
  List.forall_mem_cons.mpr ⟨⟨ck_345 P, by kernel_rfl!, (fk_321 P).isfn, (fk_321 P).keep⟩, 
  List.forall_mem_cons.mpr ⟨⟨ck_345 P, by kernel_rfl!, (fk_328 P).isfn, (fk_328 P).keep⟩, 
  List.forall_mem_cons.mpr ⟨⟨ck_345 P, by kernel_rfl!, (fk_335 P).isfn, (fk_335 P).keep⟩, 
  List.forall_mem_cons.mpr ⟨⟨ck_345 P, by kernel_rfl!, (fk_342 P).isfn, (fk_342 P).keep⟩, 
  List.forall_mem_cons.mpr ⟨⟨ck_497 P, by kernel_rfl!, (fk_426 P).isfn, (fk_426 P).keep⟩, 
  List.forall_mem_cons.mpr ⟨⟨ck_497 P, by kernel_rfl!, (fk_431 P).isfn, (fk_431 P).keep⟩, 
  List.forall_mem_cons.mpr ⟨⟨ck_497 P, by kernel_rfl!, (fk_438 P).isfn, (fk_438 P).keep⟩, 
  List.forall_mem_cons.mpr ⟨⟨ck_497 P, by kernel_rfl!, (fk_445 P).isfn, (fk_445 P).keep⟩, 
  List.forall_mem_cons.mpr ⟨⟨ck_497 P, by kernel_rfl!, (fk_452 P).isfn, (fk_452 P).keep⟩, 
  List.forall_mem_cons.mpr ⟨⟨ck_497 P, by kernel_rfl!, (fk_459 P).isfn, (fk_459 P).keep⟩, 
  List.forall_mem_cons.mpr ⟨⟨ck_497 P, by kernel_rfl!, (fk_466 P).isfn, (fk_466 P).keep⟩, 
  List.forall_mem_cons.mpr ⟨⟨ck_497 P, by kernel_rfl!, (fk_473 P).isfn, (fk_473 P).keep⟩, 
  List.forall_mem_cons.mpr ⟨⟨ck_497 P, by kernel_rfl!, (fk_480 P).isfn, (fk_480 P).keep⟩, 
  List.forall_mem_cons.mpr ⟨⟨ck_497 P, by kernel_rfl!, (fk_487 P).isfn, (fk_487 P).keep⟩, 
  List.forall_mem_cons.mpr ⟨⟨ck_497 P, by kernel_rfl!, (fk_494 P).isfn, (fk_494 P).keep⟩, 
  List.forall_mem_nil _⟩⟩⟩⟩⟩⟩⟩⟩⟩⟩⟩⟩⟩⟩⟩⟩⟩⟩⟩⟩⟩⟩⟩
theorem init_144 (P : Params) : findIn (KK P) (.ref 144) "__init__" = some (some (.ref 134)) := by kernel_rfl!
theorem init_228 (P : Params) : findIn (KK P) (.ref 228) "__init__" = some (some (.ref 197)) := by kernel_rfl!
theorem init_270 (P : Params) : findIn (KK P) (.ref 270) "__init__" = some (some (.ref 246)) := by kernel_rfl!
theorem init_345 (P : Params) : findIn (KK P) (.ref 345) "__init__" = some (some (.ref 309)) := by kernel_rfl!
theorem init_497 (P : Params) : findIn (KK P) (.ref 497) "__init__" = some (some (.ref 419)) := by kernel_rfl!
/-! NC -/
section
variable {X : Cx} {r : Nat} {fi : Fi}

/-! names of the top -/
theorem SE_const {x : Str} {n t t' : Nat} {i : Int} {pos : Pos} (hx : x = st n) (hk : fi.ks.lookup n = some .globalImplicit) (hg : gTab.lookup n = some (t, .int i t')) : SE X r fi (.Name x pos) (fun _ σ Q => Q (.int i) σ) := by
  subst hx
  intro A B env ρ σ s Qa Q E R I hq h
  obtain ⟨p, loose, mean, mg, mb, T⟩ := X.top
  have e := mg_of X.K T.g (gl_some (P := X.w.params) hg)
  refine Calls.Name_function_global I.eok.kind ((I.eok.kindOf n).trans hk) ?_ (st_dbg n)
  exact Calls.loadGlobal_global (by rw [I.eok.glob]; exact T.g.keeps fun b o q => (I.kept q).1) e (h _ _ σ _ _ (is_int _ _) hq I)

/-! intsV -/
noncomputable def int2 {α : Type} : V → V → (Int → Int → Option α) → Option α
  | .int i, .int j, f => f i j
  | _, _, _ => none
theorem int2_some {α : Type} {a b : V} {f : Int → Int → Option α} {v : α} (h : int2 a b f = some v) : ∃ i j, a = .int i ∧ b = .int j ∧ f i j = some v := by
  cases a with
  | int i => cases b with
    | int j => exact ⟨i, j, rfl, rfl, h⟩
    | _ => cases h
  | _ => cases b <;> cases h
noncomputable def binI (op : Operator) (a b : V) : Option V := match op with
  | .Add => int2 a b fun i j => some (.int (i + j))
  | .Sub => int2 a b fun i j => some (.int (i - j))
  | .Mult => int2 a b fun i j => if j.natAbs < 1073741824 then some (.int (i * j)) else none
  | .FloorDiv => int2 a b fun i j => if j ≠ 0 ∧ j.natAbs < 1073741824 then some (.int (i.fdiv j)) else none
  | .Mod => int2 a b fun i j => if j ≠ 0 then some (.int (i.fmod j)) else none
  | .BitAnd => int2 a b fun i j => some (.int (Builtin.bitAnd i j))
  | _ => none
theorem if_some {α : Type} {p : Prop} [Decidable p] {x v : α} (h : (if p then some x else none) = some v) : p ∧ x = v := by
  by_cases q : p
  · rw [if_pos q] at h; exact ⟨q, Option.some.inj h⟩
  · rw [if_neg q] at h; cases h
theorem mulOk {i j : Int} (h : j.natAbs < 1073741824) : IntMulOk i j := PySem.IntMulOk.of_right (PySem.intBits_le_64 (by omega) (by omega))
theorem binI_sound {op : Operator} {a b v : V} {x y : Value} {A : Around} {s : Shared} {Q E : Value → Shared → Prop} (R : Room r A) (ha : a.is x) (hb : b.is y) (e : binI op a b = some v)
    (h : ∀ z tk, v.is z → Q z { s with toks := tk }) : wpAny (model pw X.w) A (binaryOp op x y) Q E s := by
  cases op
  all_goals first
    | (cases e; done)
    | (obtain ⟨i, j, rfl, rfl, e⟩ := int2_some e; obtain ⟨t, rfl⟩ := ha; obtain ⟨u, rfl⟩ := hb)
  case Add => cases e; exact PySem.P.add_int (h _ _ (is_int _ _))
  case Sub => cases e; exact PySem.P.sub_int (h _ _ (is_int _ _))
  case Mult => obtain ⟨q, rfl⟩ := if_some e; exact PySem.P.mul_int (h _ _ (is_int _ _)) (mulOk q)
  case FloorDiv => obtain ⟨q, rfl⟩ := if_some e; exact PyProof.Rows.floordiv_int q.1 (h _ _ (is_int _ _)) (.inl (PyProof.noPylong_small q.2))
  case Mod => obtain ⟨q, rfl⟩ := if_some e; exact PyProof.Rows.mod_int' q (h _ _ (is_int _ _))
  case BitAnd => cases e; exact PyProof.Rows.and_int (h _ _ (is_int _ _))
theorem SE_bin {op : Operator} {l e : Expr} {pos : Pos} {F G : Tr V} (hl : SE X r fi l F) (hr : SE X r fi e G) :
    SE X r fi (.BinOp l op e pos) (fun ρ σ Q => F ρ σ fun a σ₁ => G ρ σ₁ fun b σ₂ => bnd (binI op a b) fun v => Q v σ₂) := by
  intro A B env ρ σ s Qa Q E R I hF h
  refine wpAny_BinOp (hl A B env ρ σ s _ _ _ R I hF fun a x σ₁ h₁ k₁ ia hG I₁ => ?_)
  refine hr A B env ρ σ₁ _ _ _ _ R I₁ hG fun b y σ₂ h₂ k₂ ib hq I₂ => ?_
  obtain ⟨v, hv, hq⟩ := bnd_ex hq
  exact binI_sound (X := X) R ia ib hv fun z tk iz => h v z σ₂ h₂ tk iz hq I₂
theorem SE_neg {e : Expr} {pos : Pos} {F : Tr V} (he : SE X r fi e F) : SE X r fi (.UnaryOp .USub e pos) (fun ρ σ Q => F ρ σ fun a σ₁ => anInt a fun i => Q (.int (-i)) σ₁) := by
  intro A B env ρ σ s Qa Q E R I hF h
  refine wpAny_UnaryOp (he A B env ρ σ s _ _ _ R I hF fun a x σ₁ h₁ k₁ ia hq I₁ => ?_)
  obtain ⟨i, rfl, hq⟩ := anInt_ex hq
  obtain ⟨t, rfl⟩ := ia
  exact PySem.P.neg_int (h _ _ σ₁ h₁ _ (is_int _ _) hq I₁)

/-! comparisons -/
noncomputable def intsV : List V → Option (List Int)
  | [] => some []
  | .int i :: r => (intsV r).map (i :: ·)
  | _ :: _ => none
theorem ints_any {vs : List V} {xs : List Value} {ns : List Int} (h : AllIs vs xs) (e : intsV vs = some ns) (i : Int) : xs.any (fun y => match y with | .int j _ => j == i | _ => false) = ns.contains i := by
  induction vs generalizing xs ns with
  | nil => cases h; cases e; rfl
  | cons v vs ih =>
    obtain ⟨x, xs', rfl, hx, h'⟩ := h
    cases v with
    | int j =>
      obtain ⟨t, rfl⟩ := hx
      obtain ⟨ns', e', rfl⟩ := Option.map_eq_some_iff.mp e
      rw [List.any_cons, List.contains_cons, ih h' e']
      show (j == i || _) = _
      rw [show (j == i) = (i == j) by rw [Bool.eq_iff_iff, beq_iff_eq, beq_iff_eq, eq_comm]]
    | _ => cases e
theorem ints_eq {vs : List V} {xs : List Value} {ns : List Int} {A : Around} {s : Shared} (h : AllIs vs xs) (e : intsV vs = some ns) (i : Int) (u : Tok) : ∀ y, y ∈ xs → PySem.SeqAt.EqAt A s y (.int i u) (match y with | .int j _ => j == i | _ => false) := by
  induction vs generalizing xs ns with
  | nil => cases h; intro y hy; cases hy
  | cons v vs ih =>
    obtain ⟨x, xs', rfl, hx, h'⟩ := h
    cases v with
    | int j =>
      obtain ⟨t, rfl⟩ := hx
      obtain ⟨ns', e', rfl⟩ := Option.map_eq_some_iff.mp e
      intro y hy
      rcases List.mem_cons.mp hy with rfl | hy
      · exact PySem.SeqAt.EqAt.int_int j t i u
      · exact ih h' e' y hy
    | _ => cases e
noncomputable def isNoneV : V → Bool
  | .none => true
  | _ => false
noncomputable def ifNone : V → Bool → Option Bool
  | .none, o => some o
  | _, _ => none
@[irreducible] noncomputable def inL (X : Cx) (σ : St) (a b : V) : Option Bool := match a with
  | .int i => match b with
    | .ref l => match rd X σ l with
      | some (.list xs) => (intsV xs).map fun ns => ns.contains i
      | _ => none
    | _ => none
  | _ => none
theorem inL_some {X : Cx} {σ : St} {a b : V} {t : Bool} (h : inL X σ a b = some t) : ∃ i l xs ns, a = .int i ∧ b = .ref l ∧ rd X σ l = some (.list xs) ∧ intsV xs = some ns ∧ ns.contains i = t := by
  unfold inL at h
  cases a with
  | int i => cases b with
    | ref l =>
      dsimp only at h
      cases e : rd X σ l with
      | none => rw [e] at h; cases h
      | some o =>
        rw [e] at h
        cases o with
        | list xs =>
          obtain ⟨ns, e', e''⟩ := Option.map_eq_some_iff.mp h
          exact ⟨i, l, xs, ns, rfl, rfl, e, e', e''⟩
        | _ => cases h
    | _ => cases h
  | _ => cases h
noncomputable def cmpB (X : Cx) (σ : St) (op : CmpOp) (a b : V) : Option Bool := match op with
  | .Eq => int2 a b fun i j => some (decide (i = j))
  | .NotEq => int2 a b fun i j => some (decide (i ≠ j))
  | .Lt => int2 a b fun i j => some (decide (i < j))
  | .LtE => int2 a b fun i j => some (decide (i ≤ j))
  | .Gt => int2 a b fun i j => some (decide (j < i))
  | .GtE => int2 a b fun i j => some (decide (j ≤ i))
  | .Is => ifNone b (isNoneV a)
  | .IsNot => ifNone b (!isNoneV a)
  | .In => inL X σ a b
  | .NotIn => (inL X σ a b).map (!·)
theorem ifNone_some {b : V} {o t : Bool} (h : ifNone b o = some t) : b = .none ∧ o = t := by
  cases b with
  | none => exact ⟨rfl, Option.some.inj h⟩
  | _ => cases h
theorem is_none_plain {a : V} {x : Value} (h : a.is x) : plainIs x .none = true ∧ (x == Value.none) = isNoneV a := by
  cases a with
  | none => cases h; exact ⟨rfl, beq_self_eq_true _⟩
  | bool b => cases h; exact ⟨rfl, beq_eq_false_iff_ne.mpr (by intro e; cases e)⟩
  | int i => obtain ⟨t, rfl⟩ := h; exact ⟨rfl, beq_eq_false_iff_ne.mpr (by intro e; cases e)⟩
  | str n => obtain ⟨t, rfl⟩ := h; exact ⟨rfl, beq_eq_false_iff_ne.mpr (by intro e; cases e)⟩
  | ref b => cases h; exact ⟨rfl, beq_eq_false_iff_ne.mpr (by intro e; cases e)⟩
theorem cmpB_sound {op : CmpOp} {a b : V} {t : Bool} {x y : Value} {A : Around} {B : Base} {env : Env} {ρ : Loc} {σ : St} {s : Shared} {Q E : Value → Shared → Prop} (R : Room r A) (I : Inv X B fi env ρ σ s.heap) (ha : a.is x) (hb : b.is y) (e : cmpB X σ op a b = some t)
    (h : Q (.bool t) s) : wpAny (model pw X.w) A (compareOp op x y) Q E s := by
  cases op
  all_goals first
    | (obtain ⟨i, j, rfl, rfl, e⟩ := int2_some e; obtain ⟨t, rfl⟩ := ha; obtain ⟨u, rfl⟩ := hb; cases e)
    | (obtain ⟨rfl, rfl⟩ := ifNone_some e; cases hb; obtain ⟨p, q⟩ := is_none_plain ha)
    | skip
  case Eq => exact PySem.P.eq_int h
  case NotEq =>
    refine PySem.P.ne_int ?_
    rw [show (i != j) = decide (i ≠ j) by rw [Bool.eq_iff_iff, decide_eq_true_eq, bne_iff_ne]]
    exact h
  case Lt => exact PySem.P.lt_int h
  case LtE => exact PySem.P.le_int h
  case Gt => exact PySem.P.gt_int h
  case GtE => exact PySem.P.ge_int h
  case Is => refine PySem.wpAny_is_plain p ?_; rw [q]; exact h
  case IsNot => refine PySem.wpAny_isNot_plain p ?_; rw [q]; exact h
  case In =>
    obtain ⟨i, l, xs, ns, rfl, rfl, hl, e', rfl⟩ := inL_some e
    obtain ⟨u, rfl⟩ := ha; cases hb
    obtain ⟨vs, hv0, hi⟩ := I.at hl
    refine PySem.SeqAt.in_listAt _ hv0.isList (fun y hy => ints_eq hi e' _ _ y (by simpa using hy)) ?_
    rw [List.any_toArray, ints_any hi e']
    exact h
  case NotIn =>
    obtain ⟨t', e2, rfl⟩ := Option.map_eq_some_iff.mp e
    obtain ⟨i, l, xs, ns, rfl, rfl, hl, e', rfl⟩ := inL_some e2
    obtain ⟨u, rfl⟩ := ha; cases hb
    obtain ⟨vs, hv0, hi⟩ := I.at hl
    refine PySem.SeqAt.notIn_listAt _ hv0.isList (fun y hy => ints_eq hi e' _ _ y (by simpa using hy)) ?_
    rw [List.any_toArray, ints_any hi e']
    exact h
theorem SE_cmp {op : CmpOp} {l e : Expr} {pos : Pos} {F G : Tr V} (hl : SE X r fi l F) (hr : SE X r fi e G) (hm : behindInMarks op e = false) :
    SE X r fi (.Compare l [op] [e] pos) (fun ρ σ Q => F ρ σ fun a σ₁ => G ρ σ₁ fun b σ₂ => bnd (cmpB X σ₂ op a b) fun t => Q (.bool t) σ₂) := by
  intro A B env ρ σ s Qa Q E R I hF h
  refine wpAny_Compare1 (hl A B env ρ σ s _ _ _ R I hF fun a x σ₁ h₁ k₁ ia hG I₁ => ?_) hm
  refine hr A B env ρ σ₁ _ _ _ _ R I₁ hG fun b y σ₂ h₂ k₂ ib hq I₂ => ?_
  obtain ⟨v, hv, hq⟩ := bnd_ex hq
  exact cmpB_sound (s := { s with heap := h₂, toks := k₂ }) R I₂ ia ib hv (h _ _ σ₂ h₂ k₂ (is_bool v) hq I₂)
theorem ST_cmp {op : CmpOp} {l e : Expr} {pos : Pos} {F G : Tr V} (hl : SE X r fi l F) (hr : SE X r fi e G) (hm : behindInMarks op e = false) :
    ST X r fi (.Compare l [op] [e] pos) (fun ρ σ Q => F ρ σ fun a σ₁ => G ρ σ₁ fun b σ₂ => bnd (cmpB X σ₂ op a b) fun t => Q t σ₂) := by
  intro A B env ρ σ s Qa Q E R I hF h
  refine wpAny_isTrue_Compare1 (hl A B env ρ σ s _ _ _ R I hF fun a x σ₁ h₁ k₁ ia hG I₁ => ?_) hm
  refine hr A B env ρ σ₁ _ _ _ _ R I₁ hG fun b y σ₂ h₂ k₂ ib hq I₂ => ?_
  obtain ⟨v, hv, hq⟩ := bnd_ex hq
  exact cmpB_sound (s := { s with heap := h₂, toks := k₂ }) R I₂ ia ib hv (wpAny_truthy_bool (h v σ₂ h₂ k₂ hq I₂))
theorem ST_not {e : Expr} {pos : Pos} {F : Tr Bool} (he : ST X r fi e F) : ST X r fi (.UnaryOp .Not e pos) (fun ρ σ Q => F ρ σ fun b σ₁ => Q (!b) σ₁) := by
  intro A B env ρ σ s Qa Q E R I hF h
  exact wpAny_isTrue_Not (he A B env ρ σ s _ _ _ R I hF fun b σ₁ h₁ k₁ hq I₁ => h (!b) σ₁ h₁ k₁ hq I₁)
def SA (X : Cx) (r : Nat) (fi : Fi) (op : BoolOp) (es : List Expr) (F : Tr Bool) : Prop :=
  ∀ (A : Around) (B : Base) (env : Env) (ρ : Loc) (σ : St) (s : Shared) (Qa : Bool → St → Prop) (Q : Bool → Shared → Prop) (E : Value → Shared → Prop), Room r A → Inv X B fi env ρ σ s.heap → F ρ σ Qa →
    (∀ b σ' h' tk, Qa b σ' → Inv X B fi env ρ σ' h' → Q b { s with heap := h', toks := tk }) → wpAny (model pw X.w) A (allTrue op es env) Q E s
theorem SA_and_nil : SA X r fi .And [] (fun _ σ Q => Q true σ) := by
  intro A B env ρ σ s Qa Q E R I hF h
  exact wpAny_allTrue_And_nil (h true σ s.heap s.toks hF I)
theorem SA_or_nil : SA X r fi .Or [] (fun _ σ Q => Q false σ) := by
  intro A B env ρ σ s Qa Q E R I hF h
  show wpAny _ _ (pure (BoolOp.Or == BoolOp.And)) Q E s
  exact wpAny_pure (h false σ s.heap s.toks hF I)
theorem SA_and {e : Expr} {es : List Expr} {F G : Tr Bool} (he : ST X r fi e F) (hs : SA X r fi .And es G) : SA X r fi .And (e :: es) (fun ρ σ Q => F ρ σ fun b σ₁ => (b = true → G ρ σ₁ Q) ∧ (b = false → Q false σ₁)) := by
  intro A B env ρ σ s Qa Q E R I hF h
  refine wpAny_allTrue_And_cons (he A B env ρ σ s _ _ _ R I hF fun b σ₁ h₁ k₁ hq I₁ => ?_)
  cases b with
  | true => exact hs A B env ρ σ₁ { s with heap := h₁, toks := k₁ } _ _ _ R I₁ (hq.1 rfl) fun b σ₂ h₂ k₂ => h b σ₂ h₂ k₂
  | false => exact h _ _ _ _ (hq.2 rfl) I₁
theorem SA_or {e : Expr} {es : List Expr} {F G : Tr Bool} (he : ST X r fi e F) (hs : SA X r fi .Or es G) : SA X r fi .Or (e :: es) (fun ρ σ Q => F ρ σ fun b σ₁ => (b = true → Q true σ₁) ∧ (b = false → G ρ σ₁ Q)) := by
  intro A B env ρ σ s Qa Q E R I hF h
  refine wpAny_allTrue_Or_cons (he A B env ρ σ s _ _ _ R I hF fun b σ₁ h₁ k₁ hq I₁ => ?_)
  cases b with
  | true => exact h _ _ _ _ (hq.1 rfl) I₁
  | false => exact hs A B env ρ σ₁ { s with heap := h₁, toks := k₁ } _ _ _ R I₁ (hq.2 rfl) fun b σ₂ h₂ k₂ => h b σ₂ h₂ k₂
theorem ST_bool {op : BoolOp} {es : List Expr} {pos : Pos} {F : Tr Bool} (hs : SA X r fi op es F) : ST X r fi (.BoolOp op es pos) F := by
  intro A B env ρ σ s Qa Q E R I hF h
  exact wpAny_isTrue_BoolOp (hs A B env ρ σ s _ _ _ R I hF h)
noncomputable def truthV (X : Cx) (σ : St) : V → Option Bool
  | .bool b => some b
  | .ref l => match rd X σ l with
      | some (.list xs) => if xs.length < 1000000 then some (!xs.isEmpty) else none
      | _ => none
  | _ => none
theorem truthV_sound {a : V} {t : Bool} {x : Value} {A : Around} {B : Base} {env : Env} {ρ : Loc} {σ : St} {s : Shared} {Q : Bool → Shared → Prop} {E : Value → Shared → Prop} (I : Inv X B fi env ρ σ s.heap) (ha : a.is x) (e : truthV X σ a = some t)
    (h : ∀ tk, Q t { s with toks := tk }) : wpAny (model pw X.w) A (truthy x) Q E s := by
  unfold truthV at e
  split at e
  · cases ha; cases e; exact wpAny_truthy_bool (h s.toks)
  · cases ha
    split at e
    · rename_i xs hl
      split at e
      · rename_i q
        obtain ⟨vs, hv0, hi⟩ := I.at hl; have hv := hv0.isList
        cases e
        have n := hi.length
        refine wpAny_truthy_list hv (by simp only [List.size_toArray]; lia) ?_
        have : (vs.toArray.isEmpty) = xs.isEmpty := by
          rw [List.isEmpty_toArray]
          cases vs <;> cases xs <;> simp_all
        rw [this]
        exact h _
      · cases e
    · cases e
  · cases e
theorem ST_val {e : Expr} {F : Tr V} (he : SE X r fi e F) (hx : ∀ env whole, isTrue e env whole = (do let v ← whole; standAt e.pos; holding [v] (truthy v))) :
    ST X r fi e (fun ρ σ Q => F ρ σ fun a σ₁ => bnd (truthV X σ₁ a) fun t => Q t σ₁) := by
  intro A B env ρ σ s Qa Q E R I hF h
  refine wpAny_isTrue_value (he A B env ρ σ s _ _ _ R I hF fun a x σ₁ h₁ k₁ ia hq I₁ => ?_) (hx env _)
  obtain ⟨t, ht, hq⟩ := bnd_ex hq
  exact truthV_sound I₁ ia ht fun tk => h t σ₁ h₁ tk hq I₁
theorem SE_ifexp {c a b : Expr} {pos : Pos} {C : Tr Bool} {F G : Tr V} (hc : ST X r fi c C) (ha : SE X r fi a F) (hb : SE X r fi b G) :
    SE X r fi (.IfExp c a b pos) (fun ρ σ Q => C ρ σ fun t σ₁ => (t = true → F ρ σ₁ Q) ∧ (t = false → G ρ σ₁ Q)) := by
  intro A B env ρ σ s Qa Q E R I hF h
  refine wpAny_IfExp (hc A B env ρ σ s _ _ _ R I hF fun t σ₁ h₁ k₁ hq I₁ => ?_)
  cases t with
  | true => exact ha A B env ρ σ₁ { s with heap := h₁, toks := k₁ } _ _ _ R I₁ (hq.1 rfl) fun v x σ₂ h₂ k₂ => h v x σ₂ h₂ k₂
  | false => exact hb A B env ρ σ₁ { s with heap := h₁, toks := k₁ } _ _ _ R I₁ (hq.2 rfl) fun v x σ₂ h₂ k₂ => h v x σ₂ h₂ k₂
end
/-! ND -/
/-! named entries -/
noncomputable def putS (n : Nat) (v : V) : List (Nat × V) → List (Nat × V)
  | [] => [(n, v)]
  | (m, u) :: r => match m == n with
    | true => (m, v) :: r
    | false => (m, u) :: putS n v r
theorem putS_cons (n m : Nat) (v u : V) (r : List (Nat × V)) : putS n v ((m, u) :: r) = if m = n then (m, v) :: r else (m, u) :: putS n v r := by
  show (match m == n with | true => (m, v) :: r | false => (m, u) :: putS n v r) = _
  by_cases q : m = n
  · rw [if_pos q, beq_iff_eq.mpr q]
  · rw [if_neg q, beq_eq_false_iff_ne.mpr q]
theorem isStr_st (m n : Nat) (t : Tok) : (Value.str (st m) t).isStr (st n) = (m == n) := by
  show (st m == st n) = _
  by_cases q : m = n
  · subst q; simp
  · rw [beq_eq_false_iff_ne.mpr q, beq_eq_false_iff_ne.mpr fun h => q (st_inj h)]
theorem SEnts.length {P : Params} : ∀ {es : List (Nat × V)} {des : List DictEntry}, SEnts P es des → des.length = es.length
  | [], _, h => by cases h; rfl
  | (_, _) :: _, _, ⟨t, x, es', e, _, h⟩ => by subst e; simp [h.length]
theorem SEnts.noref {P : Params} : ∀ {es : List (Nat × V)} {des : List DictEntry}, SEnts P es des → des.any (·.refKey) = false
  | [], _, h => by cases h; rfl
  | (_, _) :: _, _, ⟨t, x, es', e, _, h⟩ => by subst e; rw [List.any_cons, h.noref]; rfl
theorem SEnts.get {P : Params} {n : Nat} : ∀ {es : List (Nat × V)} {des : List DictEntry} {v : V}, SEnts P es des → es.lookup n = some v → ∃ x, getL (st n) des = some (some x) ∧ v.is x
  | [], _, _, _, h => by cases h
  | (m, u) :: es, _, v, ⟨t, x, es', e, hx, h⟩, hl => by
    subst e
    rw [List.lookup_cons] at hl
    unfold getL
    rw [List.find?_cons]
    have e := isStr_st m n t
    simp only [e]
    by_cases q : m = n
    · subst q
      simp at hl
      subst hl
      simp only [beq_self_eq_true]
      exact ⟨x, rfl, hx⟩
    · rw [beq_eq_false_iff_ne.mpr (Ne.symm q)] at hl
      rw [beq_eq_false_iff_ne.mpr q]
      obtain ⟨y, hy, hv⟩ := h.get hl
      refine ⟨y, ?_, hv⟩
      rw [← hy]
      rfl
theorem SEnts.put {P : Params} {n : Nat} {v : V} {x : Value} {t : Tok} (hv : v.is x) : ∀ {es : List (Nat × V)} {des : List DictEntry}, SEnts P es des → SEnts P (putS n v es) (putL (st n) (PyData.keyHash P (st n)) (.str (st n) t) x des)
  | [], _, h => by cases h; exact ⟨t, x, [], rfl, hv, rfl⟩
  | (m, u) :: es, _, ⟨t', y, es', e, hy, h⟩ => by
    subst e
    rw [putS_cons]
    show SEnts P (if m = n then (m, v) :: es else (m, u) :: putS n v es) (if (Value.str (st m) t').isStr (st n) then _ else _)
    rw [isStr_st]
    by_cases q : m = n
    · subst q
      simp only [if_true, beq_self_eq_true]
      exact ⟨t', x, es', rfl, hv, h⟩
    · rw [if_neg q, beq_eq_false_iff_ne.mpr q]
      exact ⟨t', y, _, rfl, hy, h.put hv⟩
theorem lookup_mem {α β : Type} [BEq α] [LawfulBEq α] {a : α} {b : β} : ∀ {l : List (α × β)}, l.lookup a = some b → (a, b) ∈ l
  | [], h => by cases h
  | (a', b') :: l, h => by
    rw [List.lookup_cons] at h
    by_cases q : a = a'
    · subst q; simp at h; subst h; exact List.mem_cons_self
    · rw [beq_eq_false_iff_ne.mpr q] at h; exact List.mem_cons_of_mem _ (lookup_mem h)
section
variable {X : Cx} {r : Nat} {fi : Fi}

/-! attributes -/
/-- the fields of one of ours -/
@[irreducible] noncomputable def fieldsV (X : Cx) (σ : St) (a : Addr) (n : Nat) : Option (Addr × List (Nat × V)) := match rd X σ a with
  | some (.inst C d) => if (C, n) ∈ attrT then (match rd X σ d with | some (.sdict es) => some (d, es) | _ => none) else none
  | _ => none
theorem fields_at {B : Base} {env : Env} {ρ : Loc} {σ : St} {h : Heap} (I : Inv X B fi env ρ σ h) {a d : Addr} {n : Nat} {es : List (Nat × V)} (e : fieldsV X σ a n = some (d, es)) :
    ∃ C des k, h.get? a = some (instObj C d) ∧ h.get? d = some (dictOf des k) ∧ SEnts X.w.params es des ∧ (C, n) ∈ attrT ∧ rd X σ d = some (.sdict es) := by
  unfold fieldsV at e
  split at e
  · rename_i C d' hi
    split at e
    · rename_i hm
      split at e
      · rename_i es' hd
        cases e
        obtain ⟨des, k, h1, h2⟩ := I.at hd
        exact ⟨C, des, k, I.at hi, h1, h2, hm, hd⟩
      · cases e
    · cases e
  · cases e
@[irreducible] noncomputable def attrV (X : Cx) (σ : St) (o : V) (n : Nat) : Option V := match o with
  | .ref a => (fieldsV X σ a n).bind fun p => p.2.lookup n
  | _ => none
theorem handed {v : V} {x : Value} (h : v.is x) : handedIn x = true := by
  cases v with
  | none => cases h; rfl
  | bool b => cases h; rfl
  | int i => obtain ⟨t, rfl⟩ := h; rfl
  | str n => obtain ⟨t, rfl⟩ := h; rfl
  | ref b => cases h; rfl
theorem base_plain {o : Expr} {attr : Str} {env : Env} {t : Sem Value} (h : ∀ f ps, o ≠ .Call f [] [] ps) : attributeBase o attr env t = t := by
  cases o with
  | Call f as ks ps =>
    cases as with
    | cons => cases f <;> rfl
    | nil =>
      cases ks with
      | cons => cases f <;> rfl
      | nil => exact absurd rfl (h _ _)
  | _ => rfl
theorem getAttr_sound {A : Around} {E : Value → Shared → Prop} {s : Shared} {B : Base} {env : Env} {ρ : Loc} {σ : St} {o v : V} {x : Value} {n : Nat} {ex : Bool} {Q : Value → Shared → Prop} (I : Inv X B fi env ρ σ s.heap) (io : o.is x)
    (e : attrV X σ o n = some v) (h : ∀ y tk, v.is y → Q y { s with toks := tk }) : wpAny (model pw X.w) A (getAttr x (st n) ex) Q E s := by
  unfold attrV at e
  cases o with
  | ref b =>
    cases io
    obtain ⟨⟨d, es⟩, hf, hl⟩ := Option.bind_eq_some_iff.mp e
    obtain ⟨C, des, k, g1, g2, g3, g4, -⟩ := fields_at I hf
    obtain ⟨y, hy, hi⟩ := g3.get hl
    obtain ⟨ck, q1, q2⟩ := attr_ok X.w.params _ g4
    exact get_value (od := some (dictOf des k)) (ox := instObj C d) I.K ⟨g1, rfl, rfl, g2⟩ (by have := ck.get (st n); unfold plainGet at this; rw [Bool.and_eq_true] at this; exact beq_iff_eq.mp this.1) (findObj_own ck.dct q1 rfl hy) (handed hi) (h y _ hi)
  | _ => cases e
theorem SE_attr {o : Expr} {x : Str} {n : Nat} {pos : Pos} {F : Tr V} (hx : x = st n) (ho : SE X r fi o F) (hb : ∀ f ps, o ≠ .Call f [] [] ps) :
    SE X r fi (.Attribute o x pos) (fun ρ σ Q => F ρ σ fun a σ₁ => bnd (attrV X σ₁ a n) fun v => Q v σ₁) := by
  subst hx
  intro A B env ρ σ s Qa Q E R I hF h
  rw [PySem.arm_eval_Attribute, base_plain hb]
  refine wpAny_bind (ho A B env ρ σ s _ _ _ R I hF fun a x σ₁ h₁ k₁ ia hq I₁ => ?_)
  obtain ⟨v, hv, hq⟩ := bnd_ex hq
  refine wpAny_bind (wpAny_standAt (wpAny_bind (wpAny_holding (getAttr_sound I₁ ia hv fun y tk iy => ?_))))
  exact wpAny_bind (PySem.wpAny_letTemporaryGo (wpAny_pure (h v y σ₁ h₁ _ iy hq I₁)))

/-! stores of attributes -/
theorem store_own {A : Around} {E : Value → Shared → Prop} {s : Shared} {K : Frag} {x C d : Addr} {des : List DictEntry} {k : Nat} {name : Str} {tk : Tok} {v : Value} {b : Bool} {Q : Fin → Shared → Prop}
    (XK : K.In s.heap) (hx : s.heap.get? x = some (instObj C d)) (hd : s.heap.get? d = some (dictOf des k)) (hh : hasDictIn K C = true) (hr : des.any (·.refKey) = false) (hz : (putL name (PyData.keyHash X.w.params name) (.str name s.toks) v des).length ≤ 1000)
    (h : ∀ h', Heap.SameBut d s.heap h' → h'.get? d = some (dictOf (putL name (PyData.keyHash X.w.params name) (.str name s.toks) v des) (putN name des k)) → Q (.done (.ret .none)) { s with heap := h', toks := s.toks + 1 }) :
    wpAny (model pw X.w) A (Builtin.ObjectAttr.storeInOwnDict (.ref x) (.ref C) (.str name tk) name v b) Q E s := by
  unfold hasDictIn at hh
  obtain ⟨cd, hc, hb⟩ := any_some hh
  have hup : (s.heap.update d (Obj.putName name (PyData.keyHash X.w.params name) (.str name s.toks) v)).get? d = some (dictOf (putL name (PyData.keyHash X.w.params name) (.str name s.toks) v des) (putN name des k)) := by
    have := Heap.get?_update_self (Obj.putName name (PyData.keyHash X.w.params name) (.str name s.toks) v) hd (by rw [putName_dict]; rfl)
    rw [this, putName_dict]
  have e1 : ownStreamTells (.ref x) (.ref C) = pure () := rfl
  have e2 : ((Value.ref C) == Value.type "module") = false := beq_eq_false_iff_ne.mpr (by intro e; cases e)
  have ar : aRefKeyMayBeTheName name des.toArray = false := by
    rw [aRefKeyMayBeTheName_at, ← Array.any_toList, ← Array.any_toList]
    show (_ && des.any (·.refKey)) = false
    rw [hr, Bool.and_false]
  unfold Builtin.ObjectAttr.storeInOwnDict
  rw [e1, e2]
  refine wpAny_bind (wpAny_pure (wpAny_bind ?_))
  refine wpAny_bind (wpAny_loadPart hx (wpAny_bind ((looks_clsIn XK hc).here ?_)))
  rw [hb]
  refine wpAny_pure (a := some d) (wpAny_bind (wpAny_pure (wpAny_bind ?_)))
  unfold nsSet
  refine wpAny_bind (wpAny_bind (wpAny_askSetting (wpAny_pure (wpAny_bind (wpAny_mkText (wpAny_bind (wpAny_loadPart hd ?_)))))))
  dsimp only
  rw [ar]
  refine wpAny_updatePart hd (wpAny_bind (wpAny_lookBehind hup (PySem.pastItsLine_dict (by rw [List.size_toArray, sizeLine_eq]; lia)) ?_))
  exact wpAny_pure (h _ (Heap.SameBut.update _ _ _) hup)
@[irreducible] noncomputable def setAttrV (X : Cx) (σ : St) (o : V) (n : Nat) (v : V) : Option St := match o with
  | .ref a => (fieldsV X σ a n).bind fun p => if p.2.length < 900 then (match σ p.1 with | some _ => some (upd σ p.1 (.sdict (putS n v p.2))) | none => none) else none
  | _ => none
theorem putS_length (n : Nat) (v : V) : ∀ es : List (Nat × V), (putS n v es).length ≤ es.length + 1
  | [] => Nat.le_refl _
  | (m, u) :: r => by
    rw [putS_cons]
    split
    · simp
    · have := putS_length n v r
      simp only [List.length_cons]; lia
theorem setAttr_sound {A : Around} {E : Value → Shared → Prop} {s : Shared} {B : Base} {env : Env} {ρ : Loc} {σ σ' : St} {o v : V} {x y : Value} {n : Nat} {Q : Unit → Shared → Prop} (I : Inv X B fi env ρ σ s.heap) (io : o.is x) (iv : v.is y)
    (e : setAttrV X σ o n v = some σ') (h : ∀ h' tk, Inv X B fi env ρ σ' h' → Q () { s with heap := h', toks := tk }) : wpAny (model pw X.w) A (setAttr x (st n) y) Q E s := by
  unfold setAttrV at e
  cases o with
  | ref a =>
    cases io
    obtain ⟨⟨d, es⟩, hf, hl⟩ := Option.bind_eq_some_iff.mp e
    obtain ⟨C, des, k, g1, g2, g3, g4, g5⟩ := fields_at I hf
    obtain ⟨ck, q1, q2⟩ := attr_ok X.w.params _ g4
    dsimp only at hl
    split at hl
    · rename_i hlen
      split at hl
      · rename_i ob hσ
        cases hl
        have hp := g3.put (n := n) (t := s.toks + 1) iv
        refine set_plain (ox := instObj C d) (od := some (dictOf des k)) I.K ⟨g1, rfl, rfl, g2⟩ ck.set (osa_open (s := { s with toks := s.toks + 1 }) (ox := instObj C d) (od := some (dictOf des k)) I.K ⟨g1, rfl, rfl, g2⟩ ck.over q2 fun b => ?_)
        have hz : (putL (st n) (PyData.keyHash X.w.params (st n)) (.str (st n) (s.toks + 1)) y des).length ≤ 1000 := by have e1 := hp.length; have e2 := putS_length n v es; omega
        refine store_own (s := { s with toks := s.toks + 1 }) I.K g1 g2 ck.dct g3.noref hz fun h' sb hg => ?_
        exact h h' _ (I.set (by rw [hσ]; exact nofun) sb ⟨_, _, hg, hp⟩)
      · cases hl
    · cases hl
  | _ => cases e
theorem S1_setattr {o val : Expr} {x : Str} {n : Nat} {pos pos' : Pos} {F G : Tr V} (hx : x = st n) (hv : SE X r fi val F) (ho : SE X r fi o G) (hs : ∀ env, swapsWith val (some (.Attribute o x pos')) pos.line env = pure false) :
    S1 X r fi (.Assign [.Attribute o x pos'] val pos) (fun ρ σ Q => F ρ σ fun v σ₁ => G ρ σ₁ fun a σ₂ => bnd (setAttrV X σ₂ a n v) fun σ₃ => Q .next ρ σ₃) := by
  intro A B env ρ σ s Qa Q E R I hF h
  subst hx
  refine PySem.plainObj_wpAny_Assign_Attribute ?_ (hs env)
  refine hv A B env ρ σ s _ _ _ R I hF fun v x σ₁ h₁ k₁ iv hG I₁ => ?_
  refine ho A B env ρ σ₁ _ _ _ _ R I₁ hG fun a y σ₂ h₂ k₂ ia hQ I₂ => ?_
  obtain ⟨σ₃, hq, hQ⟩ := bnd_ex hQ
  exact setAttr_sound I₂ ia iv hq fun h' tk I' => h .next .next ρ σ₃ h' tk rfl hQ I'

/-! x += 1 -/
noncomputable def iopI (op : Operator) (a b : V) : Option V := match op with
  | .Add => int2 a b fun i j => some (.int (i + j))
  | .Sub => int2 a b fun i j => some (.int (i - j))
  | _ => none
theorem iopI_sound {op : Operator} {a b v : V} {x y : Value} {A : Around} {s : Shared} {Q E : Value → Shared → Prop} (ha : a.is x) (hb : b.is y) (e : iopI op a b = some v)
    (h : ∀ z tk, v.is z → Q z { s with toks := tk }) : wpAny (model pw X.w) A (inplaceOp op x y) Q E s := by
  cases op
  all_goals first
    | (cases e; done)
    | (obtain ⟨i, j, rfl, rfl, e⟩ := int2_some e; obtain ⟨t, rfl⟩ := ha; obtain ⟨u, rfl⟩ := hb; cases e)
  case Add => exact PyProof.Rows.iadd_int (h _ _ (is_int _ _))
  case Sub => exact PyProof.Rows.isub_int (h _ _ (is_int _ _))
theorem S1_augattr {o val : Expr} {x : Str} {n : Nat} {op : Operator} {pos pos' : Pos} {F G : Tr V} (hx : x = st n) (ho : SE X r fi o F) (hv : SE X r fi val G) :
    S1 X r fi (.AugAssign (.Attribute o x pos') op val pos) (fun ρ σ Q => F ρ σ fun a σ₁ => bnd (attrV X σ₁ a n) fun u => G ρ σ₁ fun v σ₂ => bnd (iopI op u v) fun z => bnd (setAttrV X σ₂ a n z) fun σ₃ => Q .next ρ σ₃) := by
  intro A B env ρ σ s Qa Q E R I hF h
  subst hx
  refine PySem.wpAny_AugAssign_AttributeAny ?_
  refine ho A B env ρ σ s _ _ _ R I hF fun a x σ₁ h₁ k₁ ia hq I₁ => ?_
  obtain ⟨u, hu, hG⟩ := bnd_ex hq
  refine getAttr_sound (s := { s with heap := h₁, toks := k₁ }) I₁ ia hu fun y k₂ iu => ?_
  refine hv A B env ρ σ₁ _ _ _ _ R I₁ hG fun v xv σ₂ h₂ k₃ iv hq I₂ => ?_
  obtain ⟨z, hz, hq⟩ := bnd_ex hq
  obtain ⟨σ₃, hs, hQ⟩ := bnd_ex hq
  refine iopI_sound (X := X) iu iv hz fun xz k₄ iz => ?_
  exact setAttr_sound (s := { s with heap := h₂, toks := k₄ }) I₂ ia iz hs fun h' tk I' => h .next .next ρ σ₃ h' tk rfl hQ I'
end
/-! NE -/
/-! items -/
@[irreducible] noncomputable def getIdx (xs : List V) (k : Int) : Option V :=
  if -1000000 ≤ k ∧ k < 1000000 then (if 0 ≤ k then xs[k.toNat]? else if -(xs.length : Int) ≤ k then xs[(k + xs.length).toNat]? else none) else none
theorem getIdx_seq {xs : List V} {k : Int} {v : V} (h : getIdx xs k = some v) : ∃ j, seqIndex? k xs.length = some j ∧ xs[j]? = some v ∧ -(2 ^ 63) ≤ k ∧ k < 2 ^ 63 := by
  unfold getIdx at h
  split at h
  · rename_i hb
    split at h
    · rename_i h0
      have hl : k.toNat < xs.length := (List.getElem?_eq_some_iff.mp h).1
      refine ⟨k.toNat, ?_, h, by lia, by lia⟩
      unfold seqIndex?
      simp only [if_neg (show ¬ k < 0 by lia)]
      rw [if_pos (by simp; lia)]
    · rename_i h0
      split at h
      · rename_i h1
        refine ⟨(k + xs.length).toNat, ?_, h, by lia, by lia⟩
        unfold seqIndex?
        simp only [if_pos (show k < 0 by lia)]
        rw [if_pos (by simp; lia)]
      · cases h
  · cases h
noncomputable def pget (es : List ((Int × Int) × Addr × V)) (k : Int × Int) : Option V := (es.find? fun e => decide (e.1 = k)).map (·.2.2)
theorem setItem_plain {prog : Program} {w : World} {A : Around} {E : Value → Shared → Prop} {s : Shared} {l : Addr} {items : Array Value} {k : Int} {t : Tok} {v : Value} {Q : Unit → Shared → Prop} (hl : s.heap.PlainList l items) (h0 : 0 ≤ k) (hk : k < items.size) (hf : k < 2 ^ 63)
    (hQ : ∀ h', h'.PlainList l (items.setIfInBounds k.toNat v) → Heap.SameBut l s.heap h' → Q () { s with heap := h' }) : wpAny (model prog w) A (setItem (.ref l) (.int k t) v) Q E s := by
  have hL := hl.isList
  obtain ⟨n, ho⟩ := hl
  have hfi := fitsIndex_of h0 hf
  have hn : k.toNat < items.size := by lia
  have hup : (s.heap.update l (Obj.mapSeq (·.setIfInBounds k.toNat v))).PlainList l (items.setIfInBounds k.toNat v) := ⟨_, Heap.get?_update_self (Obj.mapSeq (·.setIfInBounds k.toNat v)) ho rfl⟩
  clear hf hk
  have fin : Q () { s with heap := s.heap.update l (Obj.mapSeq (·.setIfInBounds k.toNat v)) } := hQ _ hup (Heap.SameBut.update ..)
  clear hQ hup
  unfold setItem
  refine wpAny_holding (wpAny_bind (wpAny_sequenceKey hL.typeIs (by decide) ?_))
  refine wpAny_bind (wpAny_callSpecial?_slot (name := Str.ofString "__setitem__") hL.typeIs PySem.slot_list_setitem
    (wpAny_call_entry PySem.slot_list_setitem hL.typeIs PySem.entry_list_setitem ?_ (PySem.args_list_setitem _ _ _)))
  show wpAny _ _ (Builtin.List.listSubscript? (.int k t) >>= _) _ _ s
  refine wpAny_bind (wpAny_listSubscript_int hfi ?_)
  obtain ⟨j, rfl⟩ := Int.eq_ofNat_of_zero_le h0
  show wpAny _ _ ((seqItemAt l j >>= fun r => pure (r.map (j, ·))) >>= _) _ _ s
  refine wpAny_bind (wpAny_bind (wpAny_seqItemAt ho rfl (wpAny_pure ?_)))
  rw [Array.getElem?_eq_getElem (show j < items.size from hn)]
  show wpAny _ _ (setSeqItemAt l j v >>= _) _ _ s
  exact wpAny_bind (wpAny_setSeqItemAt ho rfl (wpAny_pure ⟨.none, rfl, wpAny_pure fin⟩))

section
variable {X : Cx} {r : Nat} {fi : Fi}
@[irreducible] noncomputable def getV (X : Cx) (σ : St) (o i : V) : Option V := match o, i with
  | .ref a, .int k => (match rd X σ a with
      | some (.list xs) => getIdx xs k
      | some (.slist xs) => getIdx xs k
      | some (.tup xs) => getIdx xs k
      | _ => none)
  | .ref a, .str n => (match rd X σ a with
      | some (.sdict es) => es.lookup n
      | _ => none)
  | _, _ => none
theorem AllIs.getA {vs : List V} {xs : List Value} {i : Nat} {v : V} (h : AllIs vs xs) (e : vs[i]? = some v) : ∃ x, xs.toArray[i]? = some x ∧ v.is x := by
  obtain ⟨x, h1, h2⟩ := h.get e
  exact ⟨x, by rw [List.getElem?_toArray, h1], h2⟩
/-! named entries as a dict of names -/
theorem SEnts.keys {P : Params} : ∀ {es : List (Nat × V)} {des : List DictEntry}, SEnts P es des → ∀ e ∈ des, ∃ k t, e.key = .str k t ∧ e.hash = PyData.keyHash P k
  | [], _, h, e, he => by cases h; cases he
  | (_, _) :: _, _, ⟨t, x, es', q, _, h⟩, e, he => by
    subst q
    rcases List.mem_cons.mp he with rfl | he
    · exact ⟨_, _, rfl, rfl⟩
    · exact h.keys e he
theorem SEnts.findBy {P : Params} {n : Nat} : ∀ {es : List (Nat × V)} {des : List DictEntry} {v : V}, SEnts P es des → es.lookup n = some v → ∃ x, PySem.findBy Value.isStrOf des.toArray (st n) = some x ∧ v.is x
  | [], _, _, _, h => by cases h
  | (m, u) :: es, _, v, ⟨t, x, es', e, hx, h⟩, hl => by
    subst e
    rw [List.lookup_cons] at hl
    unfold PySem.findBy
    rw [List.find?_toArray, List.find?_cons]
    have e : Value.isStrOf (st n) (.str (st m) t) = (m == n) := (isStr_of (st n) (.str (st m) t)).symm.trans (isStr_st m n t)
    simp only [e]
    by_cases q : m = n
    · subst q
      simp at hl
      subst hl
      simp only [beq_self_eq_true]
      exact ⟨x, rfl, hx⟩
    · rw [beq_eq_false_iff_ne.mpr (Ne.symm q)] at hl
      rw [beq_eq_false_iff_ne.mpr q]
      obtain ⟨y, hy, hv⟩ := h.findBy hl
      refine ⟨y, ?_, hv⟩
      rw [← hy]
      unfold PySem.findBy
      rw [List.find?_toArray]
theorem sdict_map {h : Heap} {a : Addr} {es : List (Nat × V)} {des : List DictEntry} {n : Nat} (h1 : h.get? a = some (dictOf des n)) (h2 : SEnts X.w.params es des) :
    h.MapOf (strKind pw X.w) a (fun k => PySem.findBy Value.isStrOf des.toArray k) :=
  ⟨_, des.toArray, n, h1, ⟨rfl, rfl, rfl⟩, rfl, fun e he => by
    obtain ⟨k, t, e1, e2⟩ := h2.keys e (by simpa using he)
    exact ⟨k, by rw [e1]; exact strKind_is pw X.w k t, e2⟩, fun _ => rfl⟩
theorem getItem_sound {A : Around} {E : Value → Shared → Prop} {s : Shared} {B : Base} {env : Env} {ρ : Loc} {σ : St} {o i v : V} {x y : Value} {Q : Value → Shared → Prop} (I : Inv X B fi env ρ σ s.heap) (io : o.is x) (ii : i.is y)
    (e : getV X σ o i = some v) (h : ∀ z tk, v.is z → Q z { s with toks := tk }) : wpAny (model pw X.w) A (getItem x y) Q E s ∧ ∃ T id, s.TypeIs x T ∧ typeLookup (.type T) "__getitem__" = pure (some (.builtin id)) := by
  unfold getV at e
  split at e
  · rename_i a k
    cases io; obtain ⟨t, rfl⟩ := ii
    split at e
    · rename_i xs hr
      obtain ⟨vs, hl0, ha⟩ := I.at hr
      have hl := hl0.isList
      refine ⟨?_, _, _, hl.typeIs, PySem.slot_list_getitem.lookup⟩
      have hs : vs.toArray.size = xs.length := by rw [List.size_toArray, ha.length]
      unfold getIdx at e
      split at e
      · rename_i hb
        split at e
        · rename_i h0
          obtain ⟨z, hz, hi⟩ := ha.getA e
          exact wpAny_getItem_list hl h0 (by lia) hz (h z _ hi)
        · rename_i h0
          split at e
          · rename_i h1
            obtain ⟨z, hz, hi⟩ := ha.getA e
            exact wpAny_getItem_list_neg hl (by lia) (by rw [hs]; lia) (by lia) (by rw [hs]; exact hz) (h z _ hi)
          · cases e
      · cases e
    · rename_i xs hr
      obtain ⟨vs, hl, ha⟩ := I.at hr
      refine ⟨?_, _, _, hl.typeIs, PySem.slot_list_getitem.lookup⟩
      have hs : vs.toArray.size = xs.length := by rw [List.size_toArray, ha.length]
      unfold getIdx at e
      split at e
      · rename_i hb
        split at e
        · rename_i h0
          obtain ⟨z, hz, hi⟩ := ha.getA e
          exact wpAny_getItem_list hl h0 (by lia) hz (h z _ hi)
        · rename_i h0
          split at e
          · rename_i h1
            obtain ⟨z, hz, hi⟩ := ha.getA e
            exact wpAny_getItem_list_neg hl (by lia) (by rw [hs]; lia) (by lia) (by rw [hs]; exact hz) (h z _ hi)
          · cases e
      · cases e
    · rename_i xs hr
      obtain ⟨vs, hl, ha⟩ := I.at hr
      obtain ⟨j, h1, h2, h3, h4⟩ := getIdx_seq e
      obtain ⟨z, hz, hi⟩ := ha.getA h2
      refine ⟨?_, _, _, hl.typeIs, slot_tuple_getitem.lookup⟩
      exact PyProof.Rows.getItem_tuple hl h3 h4 (by rw [List.size_toArray, ha.length]; exact h1) hz (h z _ hi)
    · cases e
  · rename_i a n
    cases io; obtain ⟨t, rfl⟩ := ii
    split at e
    · rename_i es hr
      obtain ⟨des, k, h1, h2⟩ := I.at hr
      obtain ⟨z, hz, hi⟩ := h2.findBy e
      have hm := sdict_map h1 h2
      refine ⟨?_, _, _, hm.typeIs, PySem.slot_dict_getitem.lookup⟩
      exact wpAny_getItem_of (strKind_is pw X.w _ _) hm hz (h z _ hi)
    · cases e
  · cases e
theorem SE_sub {o i : Expr} {pos : Pos} {F G : Tr V} (ho : SE X r fi o F) (hi : SE X r fi i G) (hs : ∀ x y, subscripted i false x y = operate [x, y] (getItem x y)) :
    SE X r fi (.Subscript o i pos) (fun ρ σ Q => F ρ σ fun a σ₁ => G ρ σ₁ fun b σ₂ => bnd (getV X σ₂ a b) fun v => Q v σ₂) := by
  intro A B env ρ σ s Qa Q E R I hF h
  refine PyProof.Rows.Subscript_ ?_
  refine ho A B env ρ σ s _ _ _ R I hF fun a x σ₁ h₁ k₁ ia hG I₁ => ?_
  refine hi A B env ρ σ₁ _ _ _ _ R I₁ hG fun b y σ₂ h₂ k₂ ib hq I₂ => ?_
  obtain ⟨v, hv, hq⟩ := bnd_ex hq
  obtain ⟨g, T, id, hT, hl⟩ := getItem_sound (s := { s with heap := h₂, toks := k₂ }) (A := A) (E := E) (Q := Q) I₂ ia ib hv fun z tk iz => h v z σ₂ h₂ tk iz hq I₂
  exact tail_any hT hl g (hs x y)

/-! stores of items -/
noncomputable def storeK {K : Type} [DecidableEq K] (es : List (K × V)) (k : K) (v : V) : List (K × V) :=
  if es.any (fun e => decide (e.1 = k)) then es.map (fun e => if e.1 = k then (e.1, v) else e) else es ++ [(k, v)]
theorem storeK_length {K : Type} [DecidableEq K] (es : List (K × V)) (k : K) (v : V) : (storeK es k v).length ≤ es.length + 1 := by
  unfold storeK; split <;> simp
theorem lookup_storeK {K : Type} [DecidableEq K] (es : List (K × V)) (k k' : K) (v : V) : (storeK es k v).lookup k' = if k' = k then some v else es.lookup k' := by
  unfold storeK
  split
  · rename_i h
    have aux : ∀ es : List (K × V), (es.map (fun e => if e.1 = k then (e.1, v) else e)).lookup k' = if k' = k then (es.lookup k').map (fun _ => v) else es.lookup k' := fun es => by
      induction es with
      | nil => simp
      | cons e es ih =>
        obtain ⟨m, u⟩ := e
        rw [List.map_cons]
        by_cases q : m = k
        · subst q
          simp only [if_true, List.lookup_cons]
          by_cases q' : k' = m
          · subst q'; simp
          · rw [beq_eq_false_iff_ne.mpr q', if_neg q']; dsimp only; rw [ih, if_neg q']
        · rw [if_neg (show ¬ (m, u).1 = k from q), List.lookup_cons, List.lookup_cons]
          by_cases q' : k' = m
          · subst q'; simp [q]
          · rw [beq_eq_false_iff_ne.mpr q']; exact ih
    rw [aux]
    split
    · rename_i e
      subst e
      cases q : es.lookup k' with
      | some u => rfl
      | none =>
        rw [List.lookup_eq_none_iff] at q
        obtain ⟨p, hp, hk⟩ := List.any_eq_true.mp h
        have := q p hp
        simp only [decide_eq_true_eq] at hk
        subst hk
        simp at this
    · rfl
  · rename_i h
    rw [List.lookup_append]
    by_cases q : k' = k
    · subst q
      have : es.lookup k' = none := by
        rw [List.lookup_eq_none_iff]
        intro p hp
        rw [Bool.not_eq_true, List.any_eq_false] at h
        have := h p hp
        simp only [decide_eq_true_eq] at this
        simpa using fun e => this e.symm
      rw [this, if_pos rfl]; simp
    · rw [if_neg q]
      simp [List.lookup_cons, beq_eq_false_iff_ne.mpr q]
theorem IEnts.length : ∀ {es : List (Int × V)} {kvs : List (Int × Value)}, IEnts es kvs → kvs.length = es.length
  | [], _, h => by cases h; rfl
  | (_, _) :: _, _, ⟨x, es', e, _, h⟩ => by subst e; simp [h.length]
theorem IEnts.any {k : Int} : ∀ {es : List (Int × V)} {kvs : List (Int × Value)}, IEnts es kvs → kvs.any (fun e => decide (e.1 = k)) = es.any (fun e => decide (e.1 = k))
  | [], _, h => by cases h; rfl
  | (_, _) :: _, _, ⟨x, es', e, _, h⟩ => by subst e; simp [h.any]
theorem IEnts.map {k : Int} {v : V} {y : Value} (hv : v.is y) : ∀ {es : List (Int × V)} {kvs : List (Int × Value)}, IEnts es kvs → IEnts (es.map fun e => if e.1 = k then (e.1, v) else e) (kvs.map fun e => if e.1 = k then (e.1, y) else e)
  | [], _, h => by cases h; rfl
  | (m, u) :: es, _, ⟨x, es', e, hx, h⟩ => by
    subst e
    rw [List.map_cons, List.map_cons]
    by_cases q : m = k
    · rw [if_pos (show (m, u).1 = k from q), if_pos (show (m, x).1 = k from q)]; exact ⟨y, _, rfl, hv, h.map hv⟩
    · rw [if_neg (show ¬ (m, u).1 = k from q), if_neg (show ¬ (m, x).1 = k from q)]; exact ⟨x, _, rfl, hx, h.map hv⟩
theorem IEnts.append : ∀ {es fs : List (Int × V)} {kvs lvs : List (Int × Value)}, IEnts es kvs → IEnts fs lvs → IEnts (es ++ fs) (kvs ++ lvs)
  | [], _, _, _, h, g => by cases h; simpa using g
  | (m, u) :: es, _, _, _, ⟨x, es', e, hx, h⟩, g => by subst e; exact ⟨x, _, rfl, hx, h.append g⟩
theorem IEnts.store {k : Int} {v : V} {y : Value} (hv : v.is y) {es : List (Int × V)} {kvs : List (Int × Value)} (h : IEnts es kvs) : IEnts (storeK es k v) (stored kvs k y) := by
  unfold storeK stored
  have e : kvs.any (fun kv => decide (kv.1 = k)) = es.any (fun kv => decide (kv.1 = k)) := h.any
  by_cases q : es.any (fun e => decide (e.1 = k)) = true
  · rw [if_pos q, if_pos (e.trans q)]; exact h.map hv
  · rw [if_neg q, if_neg (by rw [e]; exact q)]; exact h.append ⟨y, [], rfl, hv, rfl⟩
theorem IEnts.valueAt {k : Int} : ∀ {es : List (Int × V)} {kvs : List (Int × Value)}, IEnts es kvs → match es.lookup k with | some v => ∃ x, PySem.valueAt kvs k = some x ∧ v.is x | none => PySem.valueAt kvs k = none
  | [], _, h => by cases h; rfl
  | (m, u) :: es, _, ⟨x, es', e, hx, h⟩ => by
    subst e
    have ih := h.valueAt (k := k)
    rw [List.lookup_cons]
    unfold PySem.valueAt at ih ⊢
    rw [List.find?_cons]
    by_cases q : m = k
    · subst q; simp; exact hx
    · rw [beq_eq_false_iff_ne.mpr (Ne.symm q)]
      simp only [decide_eq_false (show ¬ (m, x).1 = k from q)]
      exact ih
/-- names as a dict -/
noncomputable def NK : List (Nat × V) → List (Str × Value) → Prop
  | [], kvs => kvs = []
  | (n, v) :: r, kvs => ∃ x kvs', kvs = (st n, x) :: kvs' ∧ v.is x ∧ NK r kvs'
theorem NK.names : ∀ {es : List (Nat × V)} {kvs : List (Str × Value)}, NK es kvs → kvs.map (·.1) = es.map fun e => st e.1
  | [], _, h => by cases h; rfl
  | (_, _) :: _, _, ⟨x, es', e, _, h⟩ => by subst e; simp [h.names]
theorem NK.nodup {es : List (Nat × V)} {kvs : List (Str × Value)} (h : NK es kvs) (hn : (es.map (·.1)).Nodup) : (kvs.map (·.1)).Nodup := by
  rw [h.names]
  have : (es.map fun e => st e.1) = (es.map (·.1)).map st := by simp [List.map_map]
  rw [this]
  unfold List.Nodup at hn ⊢
  rw [List.pairwise_map]
  exact hn.imp fun h e => h (st_inj e)
theorem NK.any {k : Nat} : ∀ {es : List (Nat × V)} {kvs : List (Str × Value)}, NK es kvs → kvs.any (fun e => decide (e.1 = st k)) = es.any (fun e => decide (e.1 = k))
  | [], _, h => by cases h; rfl
  | (m, _) :: _, _, ⟨x, es', e, _, h⟩ => by
    subst e
    have : decide (st m = st k) = decide (m = k) := by
      by_cases q : m = k
      · subst q; simp
      · rw [decide_eq_false q, decide_eq_false fun e => q (st_inj e)]
    simp [h.any, this]
theorem NK.map {k : Nat} {v : V} {y : Value} (hv : v.is y) : ∀ {es : List (Nat × V)} {kvs : List (Str × Value)}, NK es kvs → NK (es.map fun e => if e.1 = k then (e.1, v) else e) (kvs.map fun e => if e.1 = st k then (e.1, y) else e)
  | [], _, h => by cases h; rfl
  | (m, u) :: es, _, ⟨x, es', e, hx, h⟩ => by
    subst e
    rw [List.map_cons, List.map_cons]
    by_cases q : m = k
    · rw [if_pos (show (m, u).1 = k from q), if_pos (show (st m, x).1 = st k from congrArg st q)]; exact ⟨y, _, rfl, hv, h.map hv⟩
    · rw [if_neg (show ¬ (m, u).1 = k from q), if_neg (show ¬ (st m, x).1 = st k from fun e => q (st_inj e))]; exact ⟨x, _, rfl, hx, h.map hv⟩
theorem NK.append : ∀ {es fs : List (Nat × V)} {kvs lvs : List (Str × Value)}, NK es kvs → NK fs lvs → NK (es ++ fs) (kvs ++ lvs)
  | [], _, _, _, h, g => by cases h; simpa using g
  | (m, u) :: es, _, _, _, ⟨x, es', e, hx, h⟩, g => by subst e; exact ⟨x, _, rfl, hx, h.append g⟩
theorem NK.store {k : Nat} {v : V} {y : Value} (hv : v.is y) {es : List (Nat × V)} {kvs : List (Str × Value)} (h : NK es kvs) : NK (storeK es k v) (stored kvs (st k) y) := by
  unfold storeK stored
  have e : kvs.any (fun kv => decide (kv.1 = st k)) = es.any (fun kv => decide (kv.1 = k)) := h.any
  by_cases q : es.any (fun e => decide (e.1 = k)) = true
  · rw [if_pos q, if_pos (e.trans q)]; exact h.map hv
  · rw [if_neg q, if_neg (by rw [e]; exact q)]; exact h.append ⟨y, [], rfl, hv, rfl⟩
theorem SEnts.pairs {w : World} : ∀ {es : List (Nat × V)} {des : List DictEntry}, SEnts w.params es des → ∃ kvs : List (Str × Value), Pairs (strKind pw w) des kvs ∧ NK es kvs
  | [], _, h => by cases h; exact ⟨[], .nil, rfl⟩
  | (m, u) :: es, _, ⟨t, x, es', e, hx, h⟩ => by
    subst e
    obtain ⟨kvs, h1, h2⟩ := h.pairs
    exact ⟨(st m, x) :: kvs, .cons (strKind_is pw w _ _) rfl h1, x, kvs, rfl, hx, h2⟩
theorem SEnts.of {w : World} : ∀ {es : List (Nat × V)} {des : List DictEntry} {kvs : List (Str × Value)}, Pairs (strKind pw w) des kvs → (∀ e ∈ des, ∃ k, (strKind pw w).is k e.key = true ∧ e.hash = (strKind pw w).hash k) → NK es kvs → SEnts w.params es des
  | [], _, _, h, _, n => by cases n; cases h; rfl
  | (m, u) :: es, _, _, h, g, ⟨x, kvs', e, hx, n⟩ => by
    subst e
    cases h with
    | @cons e' _ es' _ h1 h2 h3 =>
      obtain ⟨k, g1, g2⟩ := g e' List.mem_cons_self
      have hk : k = st m := (strKind pw w).inj _ _ _ g1 h1
      subst hk
      obtain ⟨t, ht⟩ := Value.isStrOf_shape h1
      refine ⟨t, x, es', ?_, hx, SEnts.of h3 (fun e he => g e (List.mem_cons_of_mem _ he)) n⟩
      obtain ⟨eh, ek, ev⟩ := e'
      dsimp only at ht h2 g2
      subst ht h2 g2
      rfl
theorem sdict_pairs {h : Heap} {a : Addr} {es : List (Nat × V)} {des : List DictEntry} {n : Nat} (h1 : h.get? a = some (dictOf des n)) (h2 : SEnts X.w.params es des) (hn : (es.map (·.1)).Nodup) :
    ∃ kvs, h.DictOf (strKind pw X.w) a kvs ∧ NK es kvs := by
  obtain ⟨kvs, p, k⟩ := h2.pairs
  refine ⟨kvs, ⟨_, des.toArray, n, h1, ⟨rfl, rfl, rfl⟩, rfl, fun e he => ?_, by simpa using p, k.nodup hn⟩, k⟩
  obtain ⟨q, t, e1, e2⟩ := h2.keys e (by simpa using he)
  exact ⟨q, by rw [e1]; exact strKind_is pw X.w q t, e2⟩
theorem sdict_of {h : Heap} {a : Addr} {es : List (Nat × V)} {kvs : List (Str × Value)} (d : h.DictOf (strKind pw X.w) a kvs) (k : NK es kvs) : AbsO X.w h a (.sdict es) := by
  obtain ⟨⟨c, dd, da, sl⟩, des, n, h1, ⟨e1, e2, e3⟩, e4, h3, h4, _⟩ := d
  dsimp only at e1 e2 e3 e4
  subst e1 e2 e3 e4
  exact ⟨des.toList, n, by rw [h1, Array.toArray_toList], SEnts.of h4 (fun e he => h3 e (by simpa using he)) k⟩

/-! a dict of pairs -/
def PdOk (X : Cx) (σ : St) (es : List ((Int × Int) × Addr × V)) : Prop := ∀ e ∈ es, rd X σ e.2.1 = some (.tup [.int e.1.1, .int e.1.2])
noncomputable def storeP (es : List ((Int × Int) × Addr × V)) (k : Int × Int) (a : Addr) (v : V) : List ((Int × Int) × Addr × V) :=
  if (pget es k).isSome then es.map (fun e => if e.1 = k then (e.1, e.2.1, v) else e) else es ++ [(k, a, v)]
theorem storeP_length (es : List ((Int × Int) × Addr × V)) (k : Int × Int) (a : Addr) (v : V) : (storeP es k a v).length ≤ es.length + 1 := by
  unfold storeP; split <;> simp
theorem two_eq (i j i' j' : Int) : decide ([i, j] = [i', j']) = decide ((i, j) = (i', j')) := by
  by_cases q : (i, j) = (i', j')
  · obtain ⟨rfl, rfl⟩ := Prod.mk.inj q; simp
  · rw [decide_eq_false q, decide_eq_false]
    intro e
    simp only [List.cons.injEq, and_true] at e
    exact q (by rw [e.1, e.2])
theorem PEnts.length : ∀ {es : List ((Int × Int) × Addr × V)} {xs : List (List Int × Addr × Value)}, PEnts es xs → xs.length = es.length
  | [], _, h => by cases h; rfl
  | (_, _, _) :: _, _, ⟨x, es', e, _, h⟩ => by subst e; simp [h.length]
theorem PEnts.get {i j : Int} : ∀ {es : List ((Int × Int) × Addr × V)} {xs : List (List Int × Addr × Value)}, PEnts es xs → match pget es (i, j) with | some v => ∃ b x, atKey xs [i, j] = some (b, x) ∧ v.is x | none => atKey xs [i, j] = none
  | [], _, h => by cases h; rfl
  | (k, a, v) :: es, _, ⟨x, xs', e, hx, h⟩ => by
    subst e
    have ih := h.get (i := i) (j := j)
    unfold pget atKey at ih ⊢
    rw [List.find?_cons, List.find?_cons]
    have e1 : decide ((([k.1, k.2], a, x) : List Int × Addr × Value).1 = [i, j]) = decide (((k, a, v) : (Int × Int) × Addr × V).1 = (i, j)) := two_eq _ _ _ _
    rw [e1]
    by_cases q : ((k, a, v) : (Int × Int) × Addr × V).1 = (i, j)
    · simp only [decide_eq_true q]
      exact ⟨a, x, rfl, hx⟩
    · simp only [decide_eq_false q]
      exact ih
theorem PEnts.map {i j : Int} {v : V} {y : Value} (hv : v.is y) : ∀ {es : List ((Int × Int) × Addr × V)} {xs : List (List Int × Addr × Value)}, PEnts es xs → PEnts (es.map fun e => if e.1 = (i, j) then (e.1, e.2.1, v) else e) (xs.map (putAt [i, j] y))
  | [], _, h => by cases h; rfl
  | (k, a, u) :: es, _, ⟨x, xs', e, hx, h⟩ => by
    subst e
    rw [List.map_cons, List.map_cons]
    have e1 := two_eq k.1 k.2 i j
    unfold putAt
    by_cases q : k = (i, j)
    · rw [if_pos (show (k, a, u).1 = (i, j) from q), if_pos (show (([k.1, k.2], a, x) : List Int × Addr × Value).1 = [i, j] by rw [q])]; exact ⟨y, _, rfl, hv, h.map hv⟩
    · rw [if_neg (show ¬ (k, a, u).1 = (i, j) from q), if_neg (show ¬ (([k.1, k.2], a, x) : List Int × Addr × Value).1 = [i, j] from fun e => q (by rw [decide_eq_true (show [k.1, k.2] = [i, j] from e)] at e1; exact of_decide_eq_true e1.symm))]; exact ⟨x, _, rfl, hx, h.map hv⟩
theorem PEnts.append : ∀ {es fs : List ((Int × Int) × Addr × V)} {xs ys : List (List Int × Addr × Value)}, PEnts es xs → PEnts fs ys → PEnts (es ++ fs) (xs ++ ys)
  | [], _, _, _, h, g => by cases h; simpa using g
  | (k, a, u) :: es, _, _, _, ⟨x, es', e, hx, h⟩, g => by subst e; exact ⟨x, _, rfl, hx, h.append g⟩
theorem PEnts.store {i j : Int} {b : Addr} {v : V} {y : Value} (hv : v.is y) {es : List ((Int × Int) × Addr × V)} {xs : List (List Int × Addr × Value)} (h : PEnts es xs) : PEnts (storeP es (i, j) b v) (storedH xs [i, j] b y) := by
  have g := h.get (i := i) (j := j)
  unfold storeP storedH
  cases q : pget es (i, j) with
  | some u =>
    rw [q] at g
    obtain ⟨b', x, g1, _⟩ := g
    rw [g1, if_pos (show (some u).isSome = true from rfl), if_pos (show (some (b', x)).isSome = true from rfl)]
    exact h.map hv
  | none =>
    rw [q] at g
    rw [g, if_neg (by simp), if_neg (by simp)]
    exact h.append ⟨y, [], rfl, hv, rfl⟩
theorem int_is (i : Int) (t : Tok) : (intKind pw X.w).is i (.int i t) = true := by simp [intKind, Value.isInt]
theorem pair_key {h : Heap} {a : Addr} {i j : Int} (x : AbsO X.w h a (.tup [.int i, .int j])) : (tupleKind (intKind pw X.w)).is h [i, j] a := by
  obtain ⟨vs, ⟨o, h1, h2, n, h3⟩, h4⟩ := x
  obtain ⟨x, _, rfl, ⟨t, rfl⟩, y, _, rfl, ⟨u, rfl⟩, rfl⟩ := h4
  exact ⟨o, _, n, h1, h2, h3, .cons (int_is _ _) (.cons (int_is _ _) .nil)⟩
theorem PEnts.keys {h : Heap} : ∀ {es : List ((Int × Int) × Addr × V)} {xs : List (List Int × Addr × Value)}, PEnts es xs → (∀ e ∈ es, AbsO X.w h e.2.1 (.tup [.int e.1.1, .int e.1.2])) → ∀ x ∈ xs, (tupleKind (intKind pw X.w)).is h x.1 x.2.1
  | [], _, h, _, x, hx => by cases h; cases hx
  | (k, a, u) :: es, _, ⟨y, es', e, _, h⟩, g, x, hx => by
    subst e
    rcases List.mem_cons.mp hx with rfl | hx
    · exact pair_key (g _ List.mem_cons_self)
    · exact h.keys (fun e he => g e (List.mem_cons_of_mem _ he)) x hx
theorem pdict_at {B : Base} {env : Env} {ρ : Loc} {σ : St} {h : Heap} (I : Inv X B fi env ρ σ h) {a : Addr} {es : List ((Int × Int) × Addr × V)} (e : rd X σ a = some (.pdict es)) (p : PdOk X σ es) :
    ∃ xs, h.DictOfH (tupleKind (intKind pw X.w)) a xs ∧ PEnts es xs := by
  obtain ⟨xs, h0, o, des, ep, h1, h2, h3, h4, h5⟩ := I.at e
  exact ⟨xs, ⟨o, des, ep, h1, h2, h3, h4, h0.keys fun e he => I.at (p e he), h5⟩, h0⟩
theorem pdict_of {h : Heap} {a : Addr} {es : List ((Int × Int) × Addr × V)} {xs : List (List Int × Addr × Value)} (d : h.DictOfH (tupleKind (intKind pw X.w)) a xs) (k : PEnts es xs) : AbsO X.w h a (.pdict es) := by
  obtain ⟨o, des, ep, h1, h2, h3, h4, _, h5⟩ := d
  exact ⟨xs, k, o, des, ep, h1, h2, h3, h4, h5⟩

/-! xs[i] = v -/
inductive SetItem (X : Cx) (σ : St) : V → V → V → St → Prop
  | list {a : Addr} {k : Int} {v : V} {xs : List V} (h : σ a = some (.list xs)) (h0 : 0 ≤ k) (h1 : k < 1000000) (h2 : k < xs.length) : SetItem X σ (.ref a) (.int k) v (upd σ a (.list (xs.set k.toNat v)))
  | idict {a : Addr} {k : Int} {v : V} {es : List (Int × V)} (h : σ a = some (.idict es)) (h0 : es.length < 1000) : SetItem X σ (.ref a) (.int k) v (upd σ a (.idict (storeK es k v)))
  | sdict {a : Addr} {n : Nat} {v : V} {es : List (Nat × V)} (h : σ a = some (.sdict es)) (h0 : es.length < 1000) (h1 : (es.map (·.1)).Nodup) : SetItem X σ (.ref a) (.str n) v (upd σ a (.sdict (storeK es n v)))
  | pdict {a b : Addr} {i j : Int} {v : V} {es : List ((Int × Int) × Addr × V)} (h : σ a = some (.pdict es)) (hb : rd X σ b = some (.tup [.int i, .int j])) (h0 : es.length < 1000) (h1 : PdOk X σ es) : SetItem X σ (.ref a) (.ref b) v (upd σ a (.pdict (storeP es (i, j) b v)))
theorem setItem_sound {A : Around} {E : Value → Shared → Prop} {s : Shared} {B : Base} {env : Env} {ρ : Loc} {σ σ' : St} {o i v : V} {x y z : Value} {Q : Unit → Shared → Prop} (R : Room 1 A) (I : Inv X B fi env ρ σ s.heap) (io : o.is x) (ii : i.is y) (iv : v.is z)
    (e : SetItem X σ o i v σ') (h : ∀ h' tk, Inv X B fi env ρ σ' h' → Q () { s with heap := h', toks := tk }) : wpAny (model pw X.w) A (setItem x y z) Q E s := by
  cases e with
  | @list a k v xs hσ h0 h1 h2 =>
    cases io; obtain ⟨t, rfl⟩ := ii
    obtain ⟨vs, hl, ha⟩ := I.sim _ _ hσ
    exact setItem_plain hl h0 (by rw [List.size_toArray, ha.length]; exact h2) (by omega) fun h' hl' sb => h h' _ (I.set (by rw [hσ]; exact nofun) sb ⟨_, List.setIfInBounds_toArray .. ▸ hl', ha.set iv⟩)
  | @idict a k v es hσ h0 =>
    cases io; obtain ⟨t, rfl⟩ := ii
    obtain ⟨kvs, hl, ha⟩ := I.sim _ _ hσ
    exact wpAny_setItem_pairs (knd := intKind pw X.w) (k := k) (int_is _ _) hl (fun h' hl' sb => h h' _ (I.set (by rw [hσ]; exact nofun) sb ⟨_, hl', ha.store iv⟩)) (by rw [ha.length, sizeLine_eq]; omega)
  | @sdict a n v es hσ h0 hn =>
    cases io; obtain ⟨t, rfl⟩ := ii
    obtain ⟨des, k, h1, h2⟩ := I.sim _ _ hσ
    obtain ⟨kvs, d1, d2⟩ := sdict_pairs h1 h2 hn
    exact wpAny_setItem_pairs (knd := strKind pw X.w) (strKind_is pw X.w _ _) d1 (fun h' hl' sb => h h' _ (I.set (by rw [hσ]; exact nofun) sb (sdict_of hl' (d2.store iv)))) (by
      have e1 := congrArg List.length d2.names
      rw [List.length_map, List.length_map] at e1
      rw [e1, sizeLine_eq]; omega)
  | @pdict a b i j v es hσ hb h0 hp =>
    cases io; cases ii
    obtain ⟨xs, d1, d2⟩ := pdict_at I (rd_own hσ) hp
    exact wpAny_setItem_heap (tupleKind_room_in1 (by have := R.u; omega)) (pair_key (I.at hb)) d1 (fun h' hl' sb => h h' _ (I.set (by rw [hσ]; exact nofun) sb (pdict_of hl' (d2.store iv)))) (by rw [d2.length, sizeLine_eq]; omega)
theorem S1_setitem {o i val : Expr} {pos pos' : Pos} {F G H : Tr V} (hr : 1 ≤ r) (hv : SE X r fi val F) (ho : SE X r fi o G) (hi : SE X r fi i H) (hs : ∀ env, swapsWith val (some (.Subscript o i pos')) pos.line env = pure false) :
    S1 X r fi (.Assign [.Subscript o i pos'] val pos) (fun ρ σ Q => F ρ σ fun v σ₁ => G ρ σ₁ fun a σ₂ => H ρ σ₂ fun k σ₃ => ∃ σ₄, SetItem X σ₃ a k v σ₄ ∧ Q .next ρ σ₄) := by
  intro A B env ρ σ s Qa Q E R I hF h
  refine PySem.wpAny_Assign_Subscript ?_ (hs env)
  refine hv A B env ρ σ s _ _ _ R I hF fun v x σ₁ h₁ k₁ iv hG I₁ => ?_
  refine ho A B env ρ σ₁ _ _ _ _ R I₁ hG fun a y σ₂ h₂ k₂ ia hH I₂ => ?_
  refine hi A B env ρ σ₂ _ _ _ _ R I₂ hH fun k z σ₃ h₃ k₃ ik ⟨σ₄, hq, hQ⟩ I₃ => ?_
  exact setItem_sound (s := { s with heap := h₃, toks := k₃ }) (R.le hr) I₃ ia ik iv hq fun h' tk I' => h .next .next ρ σ₄ h' tk rfl hQ I'
theorem S1_augitem {o i val : Expr} {op : Operator} {pos pos' : Pos} {F G H : Tr V} (hr : 1 ≤ r) (ho : SE X r fi o F) (hi : SE X r fi i G) (hv : SE X r fi val H)
    (hs : ∀ ov iv new, augStore i ov iv new = (do holding [new, ov, iv] (setItem ov iv new); release [new, ov, iv] []; pure .next)) :
    S1 X r fi (.AugAssign (.Subscript o i pos') op val pos) (fun ρ σ Q => F ρ σ fun a σ₁ => G ρ σ₁ fun k σ₂ => bnd (getV X σ₂ a k) fun u => H ρ σ₂ fun v σ₃ => bnd (iopI op u v) fun z => ∃ σ₄, SetItem X σ₃ a k z σ₄ ∧ Q .next ρ σ₄) := by
  intro A B env ρ σ s Qa Q E R I hF h
  refine PySem.wpAny_AugAssign_SubscriptAny ?_ hs
  refine ho A B env ρ σ s _ _ _ R I hF fun a x σ₁ h₁ k₁ ia hG I₁ => ?_
  refine hi A B env ρ σ₁ _ _ _ _ R I₁ hG fun k y σ₂ h₂ k₂ ik hq I₂ => ?_
  obtain ⟨u, hu, hH⟩ := bnd_ex hq
  refine (getItem_sound (s := { s with heap := h₂, toks := k₂ }) I₂ ia ik hu fun y' k₃ iu => ?_).1
  refine hv A B env ρ σ₂ _ _ _ _ R I₂ hH fun v xv σ₃ h₃ k₄ iv hq I₃ => ?_
  obtain ⟨z, hz, σ₄, hs, hQ⟩ := bnd_ex hq
  refine iopI_sound (X := X) iu iv hz fun xz k₅ iz => ?_
  exact setItem_sound (s := { s with heap := h₃, toks := k₅ }) (R.le hr) I₃ ia ik iz hs fun h' tk I' => h .next .next ρ σ₄ h' tk rfl hQ I'
end
/-! NF -/
abbrev NoStar (es : List Expr) : Prop := ∀ env, starEach es env = es.map fun e => (false, eval e env)
section
variable {X : Cx} {r : Nat} {fi : Fi}

/-! lists of expressions -/
abbrev FNil : Tr (List V) := fun _ σ Q => Q [] σ
abbrev FCons (F : Tr V) (G : Tr (List V)) : Tr (List V) := fun ρ σ Q => F ρ σ fun v σ₁ => G ρ σ₁ fun vs σ₂ => Q (v :: vs) σ₂
theorem SL_nil : SL X r fi [] FNil := by
  intro A B env pos ρ σ s Qa Q E R I hF h
  exact PyProof.Rows.spliced_none (h [] [] σ _ _ rfl hF I)
theorem SL_cons {e : Expr} {es : List Expr} {F : Tr V} {G : Tr (List V)} (he : SE X r fi e F) (hs : SL X r fi es G) (hn : ∀ env, starEach (e :: es) env = (false, eval e env) :: starEach es env) :
    SL X r fi (e :: es) (FCons F G) := by
  intro A B env pos ρ σ s Qa Q E R I hF h
  refine PyProof.Rows.spliced_more ?_ (hn env)
  refine he A B env ρ σ s _ _ _ R I hF fun v x σ₁ h₁ k₁ iv hG I₁ => ?_
  exact hs A B env pos ρ σ₁ _ _ _ _ R I₁ hG fun vs xs σ₂ h₂ k₂ ivs hq I₂ => h (v :: vs) (x :: xs) σ₂ h₂ k₂ ⟨x, xs, rfl, iv, ivs⟩ hq I₂

/-! displays -/
theorem keep_push {h : Heap} (o : Obj) : ∀ b ob, h.get? b = some ob → (h.push o).get? b = some ob := fun _ _ e => Heap.get?_push_of_some o e
/-- a new object: at an address that nobody knew -/
abbrev Made (X : Cx) (σ : St) (o : AObj) (Q : V → St → Prop) : Prop := ∀ a, rd X σ a = none → σ a = none → a ≠ 1 → Q (.ref a) (upd σ a o)
theorem Mid.big {σ : St} {h : Heap} (M : Mid X σ h) : h.objs.size ≠ 1 := by
  have := Heap.lt_size (M.K 3 (ko_3 X.w.params) (k3 X.w.params))
  intro e
  rw [e] at this
  exact absurd this (by decide)
theorem Inv.made {B : Base} {env : Env} {ρ : Loc} {σ : St} {h : Heap} (I : Inv X B fi env ρ σ h) {ob : Obj} {o : AObj} {Q : V → St → Prop} (m : Made X σ o Q) (x : AbsO X.w (h.push ob) h.objs.size o) :
    Q (.ref h.objs.size) (upd σ h.objs.size o) ∧ Inv X B fi env ρ (upd σ h.objs.size o) (h.push ob) :=
  ⟨m _ (I.mid.rd_new (get_size h)) I.sim.fresh I.mid.big, I.new (get_size h) (keep_push ob) x⟩
theorem list_new {w : World} {h : Heap} {vs : List V} {xs : List Value} (ha : AllIs vs xs) : AbsO w (h.push { cls := .type "list", data := .seq xs.toArray }) h.objs.size (.list vs) :=
  ⟨xs, ⟨0, Heap.get?_push_size _ rfl⟩, ha⟩
theorem tup_new {w : World} {h : Heap} {vs : List V} {xs : List Value} (ha : AllIs vs xs) : AbsO w (h.push { cls := .type "tuple", data := .seq xs.toArray }) h.objs.size (.tup vs) :=
  ⟨xs, ⟨_, Heap.get?_push_size _ rfl, rfl, 0, rfl⟩, ha⟩
theorem SE_list {es : List Expr} {pos : Pos} {F : Tr (List V)} (he : SL X r fi es F) : SE X r fi (.List es pos) (fun ρ σ Q => F ρ σ fun vs σ₁ => vs.length < 1000 ∧ Made X σ₁ (.list vs) Q) := by
  intro A B env ρ σ s Qa Q E R I hF h
  refine PySem.wpAny_List_spliced (he A B env pos ρ σ s _ _ _ R I hF fun vs xs σ₁ h₁ k₁ ia ⟨hl, hm⟩ I₁ => ⟨by rw [ia.length, sizeLine_eq]; omega, ?_⟩)
  obtain ⟨q, I₂⟩ := I₁.made hm (list_new ia)
  exact h _ _ _ _ _ (is_ref _) q I₂
theorem SE_tuple {es : List Expr} {c : Nat} {pos : Pos} {F : Tr (List V)} (he : SL X r fi es F) : SE X r fi (.Tuple es c pos) (fun ρ σ Q => F ρ σ fun vs σ₁ => vs.length < 1000 ∧ Made X σ₁ (.tup vs) Q) := by
  intro A B env ρ σ s Qa Q E R I hF h
  refine PySem.wpAny_Tuple_spliced (he A B env pos ρ σ s _ _ _ R I hF fun vs xs σ₁ h₁ k₁ ia ⟨hl, hm⟩ I₁ => ⟨by rw [ia.length, sizeLine_eq]; lia, ?_⟩)
  obtain ⟨q, I₂⟩ := I₁.made hm (tup_new ia)
  exact h _ _ _ _ _ (is_ref _) q I₂
theorem SE_idict {pos : Pos} : SE X r fi (.Dict [] [] pos) (fun ρ σ Q => Made X σ (.idict []) Q) := by
  intro A B env ρ σ s Qa Q E R I hF h
  refine PySem.wpAny_Dict_empty ?_
  obtain ⟨q, I₂⟩ := I.made hF (ob := { cls := .type "dict", data := .dict #[] }) ⟨[], Heap.DictOf.new _, rfl⟩
  exact h _ _ _ _ _ (is_ref _) q I₂
theorem SE_pdict {pos : Pos} : SE X r fi (.Dict [] [] pos) (fun ρ σ Q => Made X σ (.pdict []) Q) := by
  intro A B env ρ σ s Qa Q E R I hF h
  refine PySem.wpAny_Dict_empty ?_
  obtain ⟨q, I₂⟩ := I.made hF (ob := { cls := .type "dict", data := .dict #[] }) (pdict_of (Heap.DictOfH.new _) rfl)
  exact h _ _ _ _ _ (is_ref _) q I₂

/-- pairs of a display of a dict: names and values -/
noncomputable def KVs : List Nat → List V → List (Value × Value) → Prop
  | [], [], ps => ps = []
  | n :: ns, v :: vs, ps => ∃ t x r, ps = (.str (st n) t, x) :: r ∧ v.is x ∧ KVs ns vs r
  | _, _, _ => False
def SP (X : Cx) (r : Nat) (fi : Fi) (ks : List (Option Expr)) (es : List Expr) (ns : List Nat) (F : Tr (List V)) : Prop :=
  ∀ (A : Around) (B : Base) (env : Env) (pos : Pos) (ρ : Loc) (σ : St) (s : Shared) (Qa : List V → St → Prop) (Q : List (Value × Value) → Shared → Prop) (E : Value → Shared → Prop), Room r A → Inv X B fi env ρ σ s.heap → F ρ σ Qa →
    (∀ vs xs σ' h' tk, KVs ns vs xs → Qa vs σ' → Inv X B fi env ρ σ' h' → Q xs { s with heap := h', toks := tk }) → wpAny (model pw X.w) A (evalPairs (pairTrees ks es env pos)) Q E s
theorem SP_nil : SP X r fi [] [] [] FNil := by
  intro A B env pos ρ σ s Qa Q E R I hF h
  exact PySem.evalPairs_nil (h [] [] σ _ _ rfl hF I)
theorem SP_cons {x : Str} {n k : Nat} {kp : Pos} {e : Expr} {ks : List (Option Expr)} {es : List Expr} {ns : List Nat} {F : Tr V} {G : Tr (List V)} (hx : x = st n) (he : SE X r fi e F) (hs : SP X r fi ks es ns G) :
    SP X r fi (some (.Constant (.str x) k kp) :: ks) (e :: es) (n :: ns) (FCons F G) := by
  subst hx
  intro A B env pos ρ σ s Qa Q E R I hF h
  show wpAny _ _ (evalPairs ((eval (.Constant (.str (st n)) k kp) env, (do let x ← eval e env; standAt pos; pure x)) :: pairTrees ks es env pos)) _ _ _
  refine PySem.evalPairs_cons (wpAny_Constant_str (wpAny_bind ?_))
  refine he A B env ρ σ { s with toks := _ } _ _ _ R I hF fun v x σ₁ h₁ k₁ iv hG I₁ => ?_
  refine wpAny_bind (wpAny_standAt (wpAny_pure ?_))
  exact hs A B env pos ρ σ₁ { s with heap := h₁, toks := k₁ } _ _ _ R I₁ hG fun vs xs σ₂ h₂ k₂ ivs hq I₂ => h (v :: vs) _ σ₂ h₂ k₂ ⟨_, x, xs, rfl, iv, ivs⟩ hq I₂
theorem KVs.strs : ∀ {ns : List Nat} {vs : List V} {ps : List (Value × Value)}, KVs ns vs ps → allStrKeys ps = true ∧ NK (ns.zip vs) (strPairs ps)
  | [], [], _, h => by cases h; exact ⟨rfl, rfl⟩
  | n :: ns, v :: vs, _, ⟨t, x, r, e, hv, h⟩ => by
    subst e
    obtain ⟨a, b⟩ := h.strs
    exact ⟨a, x, _, rfl, hv, b⟩
  | [], _ :: _, _, h => h.elim
  | _ :: _, [], _, h => h.elim
theorem KVs.len : ∀ {ns : List Nat} {vs : List V} {ps : List (Value × Value)}, KVs ns vs ps → (ns.zip vs).map (·.1) = ns
  | [], [], _, h => rfl
  | n :: ns, v :: vs, _, ⟨t, x, r, e, hv, h⟩ => by simp [h.len]
  | [], _ :: _, _, h => h.elim
  | _ :: _, [], _, h => h.elim
theorem SE_sdict {ks : List (Option Expr)} {es : List Expr} {ns : List Nat} {pos : Pos} {F : Tr (List V)} (hp : SP X r fi ks es ns F) (hall : ks.all (·.isSome) = true) (hl : ks.length = es.length) (h0 : ks ≠ []) (hlen : ks.length ≤ 15) (hn : ns.Nodup) :
    SE X r fi (.Dict ks es pos) (fun ρ σ Q => ∀ a, rd X σ a = none → σ a = none → a ≠ 1 → F ρ (upd σ a (.sdict [])) fun vs σ₁ => σ₁ a = some (.sdict []) ∧ Q (.ref a) (upd σ₁ a (.sdict (ns.zip vs)))) := by
  intro A B env ρ σ s Qa Q E R I hF h
  refine PySem.wpAny_Dict_walk (knd := strKind pw X.w) hall hl h0 hlen ?_
  have I₀ := I.new (o := .sdict []) (get_size s.heap) (keep_push { cls := .type "dict", data := .dict #[] }) ⟨[], 0, Heap.get?_push_size _ rfl, rfl⟩
  refine hp A B env pos ρ _ { s with heap := _ } _ _ _ R I₀ (hF _ (I.mid.rd_new (get_size _)) I.sim.fresh I.mid.big) fun vs ps σ₁ h₁ k₁ kv ⟨hσ, hq⟩ I₁ => ?_
  obtain ⟨q1, q2⟩ := kv.strs
  obtain ⟨des, k, g1, g2⟩ := I₁.sim _ _ hσ
  obtain ⟨kvs, g3, g4⟩ := sdict_pairs g1 g2 List.nodup_nil
  cases g4
  refine PySem.display_done_str q1 (q2.nodup (by rw [kv.len]; exact hn)) g3 fun h' d sb => ?_
  exact h _ _ _ h' _ (is_ref _) hq (I₁.set (by rw [hσ]; exact nofun) sb (sdict_of d q2))

/-! lists: copies, sums -/
theorem mul_plain {A : Around} {E : Value → Shared → Prop} {s : Shared} {l : Addr} {xs : List Value} {k : Int} {t : Tok} {Q : Value → Shared → Prop} (hl : s.heap.PlainList l xs.toArray) (h0 : 0 ≤ k) (hk : xs.length * k.toNat ≤ 10000)
    (hq : Q (.ref s.heap.objs.size) { s with heap := s.heap.push { cls := .type "list", data := .seq (List.replicate k.toNat xs).flatten.toArray } }) (hk' : k ≤ 10000) : wpAny (model pw X.w) A (binaryOp .Mult (.ref l) (.int k t)) Q E s := by
  obtain ⟨n, ho⟩ := hl
  have e := PyProof.Rows.listMul_foldl_if xs.toArray k.toNat
  have e' : xs.toArray.toList = xs := by simp
  rw [e'] at e
  exact PySem.wpAny_binaryOp_repeat_ref (T := "list") (U := "int") (by decide) ⟨_, ho, rfl⟩ (fun s' => typeIs_int s' k t) noFill_list_mul F.fills_int_mul F.slot_int_rmul repeat_list F.slot_int_index.lookup
    (call_meets F.slot_int_rmul (typeIs_int s k t) F.entry_int_rmul (F.args_int_rmul_2 _ _) (int___rmul___int_list k t l xs.toArray n)
      ⟨ho, rfl, ⟨_, ho, rfl⟩, call_meets F.slot_list_mul ⟨_, ho, rfl⟩ F.entry_list_mul (F.args_list_mul_2 _ _)
        (lm_list_mul_any l xs.toArray n none #[] k t (by simp [Builtin.List.listFitsIndex]; lia) (by simp only [List.size_toArray]; lia) (by simp [Builtin.List.listTooLong, sizeLine]; lia))
        ⟨ho, by rw [e]; exact hq⟩⟩)

theorem AllIs.rep {vs : List V} {xs : List Value} (h : AllIs vs xs) : ∀ k : Nat, AllIs (List.replicate k vs).flatten (List.replicate k xs).flatten
  | 0 => rfl
  | k + 1 => by rw [List.replicate_succ, List.replicate_succ, List.flatten_cons, List.flatten_cons]; exact h.append (h.rep k)
theorem SE_mul_list {l e : Expr} {pos : Pos} {F G : Tr V} (hl : SE X r fi l F) (hr : SE X r fi e G) :
    SE X r fi (.BinOp l .Mult e pos) (fun ρ σ Q => F ρ σ fun a σ₁ => G ρ σ₁ fun b σ₂ => ∃ d xs k, a = .ref d ∧ b = .int k ∧ rd X σ₂ d = some (.list xs) ∧ 0 ≤ k ∧ k ≤ 10000 ∧ xs.length * k.toNat ≤ 10000 ∧ Made X σ₂ (.list (List.replicate k.toNat xs).flatten) Q) := by
  intro A B env ρ σ s Qa Q E R I hF h
  refine wpAny_BinOp (hl A B env ρ σ s _ _ _ R I hF fun a x σ₁ h₁ k₁ ia hG I₁ => ?_)
  refine hr A B env ρ σ₁ _ _ _ _ R I₁ hG fun b y σ₂ h₂ k₂ ib ⟨d, xs, k, e1, e2, hd, h0, h3, h4, hm⟩ I₂ => ?_
  subst e1 e2
  cases ia
  obtain ⟨t, rfl⟩ := ib
  obtain ⟨vs, hv, ha⟩ := I₂.at hd
  obtain ⟨q, I₃⟩ := I₂.made hm (list_new (ha.rep k.toNat))
  exact mul_plain hv h0 (by rw [ha.length]; exact h4) (h _ _ _ _ _ (is_ref _) q I₃) h3
theorem SE_add_list {l e : Expr} {pos : Pos} {F G : Tr V} (hl : SE X r fi l F) (hr : SE X r fi e G) :
    SE X r fi (.BinOp l .Add e pos) (fun ρ σ Q => F ρ σ fun a σ₁ => G ρ σ₁ fun b σ₂ => ∃ d c xs ys, a = .ref d ∧ b = .ref c ∧ rd X σ₂ d = some (.list xs) ∧ rd X σ₂ c = some (.list ys) ∧ xs.length + ys.length ≤ 10000 ∧ Made X σ₂ (.list (xs ++ ys)) Q) := by
  intro A B env ρ σ s Qa Q E R I hF h
  refine wpAny_BinOp (hl A B env ρ σ s _ _ _ R I hF fun a x σ₁ h₁ k₁ ia hG I₁ => ?_)
  refine hr A B env ρ σ₁ _ _ _ _ R I₁ hG fun b y σ₂ h₂ k₂ ib ⟨d, c, xs, ys, e1, e2, hd, hc, h4, hm⟩ I₂ => ?_
  subst e1 e2
  cases ia; cases ib
  obtain ⟨vs, ⟨n, hv⟩, ha⟩ := I₂.at hd
  obtain ⟨ws, ⟨m, hw⟩, hb⟩ := I₂.at hc
  obtain ⟨q, I₃⟩ := I₂.made hm (list_new (ha.append hb))
  refine PySem.P.add_list (s := { s with heap := h₂, toks := k₂ }) hv hw ?_ (by simp only [List.size_toArray]; rw [ha.length, hb.length, sizeLine_eq]; lia)
  have e : vs.toArray ++ ws.toArray = (vs ++ ws).toArray := by simp
  dsimp only
  rw [e]
  exact h _ _ _ _ _ (is_ref _) q I₃

/-! calls: the callee by its name -/
/-- what a name of the top or of the builtins means -/
def NameIs (X : Cx) (n : Nat) (f : Value) : Prop := (∃ t, gTab.lookup n = some (t, f)) ∨ (gTab.find? (fun e => e.1 == n) = none ∧ bootBuiltins (st n) = some f ∧ (st n == ("__name__" : Str)) = false)
theorem name_is {n : Nat} {f : Value} (hn : NameIs X n f) (hk : fi.ks.lookup n = some .globalImplicit) {A : Around} {B : Base} {env : Env} {ρ : Loc} {σ : St} {s : Shared} {pos : Pos} {Q E : Value → Shared → Prop} (I : Inv X B fi env ρ σ s.heap) (h : Q f s) :
    wpAny (model pw X.w) A (eval (.Name (st n) pos) env) Q E s := by
  obtain ⟨p, loose, mean, mg, mb, T⟩ := X.top
  have kp : ∀ b o, X.hb.get? b = some o → s.heap.get? b = some o := fun b o q => (I.kept q).1
  refine Calls.Name_function_global I.eok.kind ((I.eok.kindOf n).trans hk) ?_ (st_dbg n)
  rcases hn with ⟨t, hg⟩ | ⟨hg, hb, hne⟩
  · exact Calls.loadGlobal_global (by rw [I.eok.glob]; exact T.g.keeps kp) (mg_of X.K T.g (gl_some (P := X.w.params) hg)) h
  · refine Calls.loadGlobal_builtin (by rw [I.eok.glob]; exact T.g.keeps kp) (ns_none_of X.K T.g (gl_none (P := X.w.params) hg)) (by rw [I.eok.blt]; exact T.b.keeps kp) ?_ h
    rw [T.builtins _ (by intro e; rw [e] at hne; simp at hne)]
    exact hb
def Keeps (X : Cx) (f : Value) : Prop := ∀ h : Heap, (KK X.w.params).In h → ∃ k, (k = Keeper.frame ∨ k = Keeper.machine ∨ k = Keeper.boundFrame) ∧ Looks (model pw X.w) h (keeperOf f) k
theorem keeps_b (i : String) : Keeps X (.builtin i) := fun h _ => ⟨.machine, .inr (.inl rfl), Looks.of_pure rfl⟩
theorem keeps_t (i : String) : Keeps X (.type i) := fun h _ => ⟨.machine, .inr (.inl rfl), Looks.of_pure rfl⟩
theorem keeps_r {f : Value} (h : keepIn (KK X.w.params) f = true) : Keeps X f := fun hp x => keeps_K h hp x
theorem SE_call {x : Str} {n : Nat} {np pos : Pos} {f : Value} {e : Expr} {es : List Expr} {F : Tr (List V)} {T : List V → St → (V → St → Prop) → Prop} (hx : x = st n) (hn : NameIs X n f) (hk : fi.ks.lookup n = some .globalImplicit) (hf : Keeps X f)
    (hC : SC X r f T) (ha : SL X r fi (e :: es) F) (hs : ∀ env, starEach (e :: es) env = (false, eval e env) :: starEach es env) (hp : ∀ env pos, (backTo pos (starEach es env)).any (·.1) = false) :
    SE X r fi (.Call (.Name x np) (e :: es) [] pos) (fun ρ σ Q => F ρ σ fun vs σ₁ => T vs σ₁ Q) := by
  subst hx
  intro A B env ρ σ s Qa Q E R I hF h
  refine PySem.wpAny_Call_NameR (name_is hn hk I ?_)
  have sp : backTo pos (starEach (e :: es) env) = (false, eval e env) :: backTo pos (starEach es env) := by rw [hs]; rfl
  have key : wpAny (model pw X.w) A (evalArgs f true (backTo pos (starEach (e :: es) env)) []) (fun a s₁ => (KK X.w.params).In s₁.heap ∧ wpAny (model pw X.w) A (call f ([] ++ a.pos) a.kw) Q E s₁) E s := by
    have ev := ha A B env pos ρ σ s (fun vs σ₁ => T vs σ₁ Qa) (fun vs s₁ => (KK X.w.params).In s₁.heap ∧ wpAny (model pw X.w) A (call f ([] ++ vs) []) Q E s₁) E R I hF fun vs xs σ₁ h₁ k₁ ia hT I₁ =>
      ⟨I₁.K, hC A vs xs σ₁ { s with heap := h₁, toks := k₁ } Qa Q E R I₁.mid ia hT fun v y σ₂ h₂ k₂ iv hq S₂ x₂ => h v y σ₂ h₂ k₂ iv hq (I₁.step S₂ x₂)⟩
    rw [sp] at ev ⊢
    exact Calls.evalArgs_plain ev
  exact callWith_of (P := (KK X.w.params).In) (by rw [sp, List.any_cons, hp]; rfl) hf key
theorem SE_call0 {x : Str} {n : Nat} {np pos : Pos} {f : Value} {T : List V → St → (V → St → Prop) → Prop} (hx : x = st n) (hn : NameIs X n f) (hk : fi.ks.lookup n = some .globalImplicit) (hf : Keeps X f)
    (hC : SC X r f T) : SE X r fi (.Call (.Name x np) [] [] pos) (fun ρ σ Q => T [] σ Q) := by
  subst hx
  intro A B env ρ σ s Qa Q E R I hF h
  refine PySem.wpAny_Call_NameR (name_is hn hk I ?_)
  refine callWith_of (P := (KK X.w.params).In) rfl hf (evalArgs_empty ⟨I.K, ?_⟩)
  exact hC A [] [] σ s Qa Q E R I.mid rfl hF fun v y σ₂ h₂ k₂ iv hq S₂ x₂ => h v y σ₂ h₂ k₂ iv hq (I.step S₂ x₂)

/-! builtins -/
theorem SC.pure {f : Value} {g : List V → St → Option V} (h : ∀ (A : Around) (vs : List V) (xs : List Value) (v : V) (σ : St) (s : Shared) (Q E : Value → Shared → Prop), Room r A → Mid X σ s.heap → AllIs vs xs → g vs σ = some v →
    (∀ x h' tk, v.is x → (∀ b o, s.heap.get? b = some o → h'.get? b = some o) → Q x { s with heap := h', toks := tk }) → wpAny (model pw X.w) A (call f xs) Q E s) : SC X r f (fun vs σ Q => bnd (g vs σ) fun v => Q v σ) := by
  intro A vs xs σ s Qa Q E R M ia hq hQ
  obtain ⟨v, hv, hq⟩ := bnd_ex hq
  exact h A vs xs v σ s Q E R M ia hv fun x h' tk iv k => hQ v x σ h' tk iv hq (M.sim.same k) (.keep k)
@[irreducible] noncomputable def lenV (X : Cx) : List V → St → Option V
  | [.ref a], σ => (match rd X σ a with
      | some (.list xs) => if xs.length < 1000000 then some (.int xs.length) else none
      | some (.slist xs) => if xs.length < 1000000 then some (.int xs.length) else none
      | _ => none)
  | _, _ => none
theorem SC_len : SC X r (.builtin "len") (fun vs σ Q => bnd (lenV X vs σ) fun v => Q v σ) := by
  refine SC.pure fun A vs xs v σ s Q E R M ia hg h => ?_
  unfold lenV at hg
  split at hg
  · obtain ⟨x, _, rfl, hx, rfl⟩ := ia
    cases hx
    split at hg
    · rename_i a q zs hz
      split at hg
      · cases hg
        obtain ⟨vs, hv, ha⟩ := M.at hz
        refine Calls.call_len_list hv.isList (by simp only [List.size_toArray]; rw [ha.length]; lia) ?_
        exact h _ s.heap _ ⟨_, by simp only [List.size_toArray, ha.length]; rfl⟩ fun _ _ e => e
      · cases hg
    · rename_i a q zs hz
      split at hg
      · cases hg
        obtain ⟨vs, hv, ha⟩ := M.at hz
        refine Calls.call_len_list hv (by simp only [List.size_toArray]; rw [ha.length]; lia) ?_
        exact h _ s.heap _ ⟨_, by simp only [List.size_toArray, ha.length]; rfl⟩ fun _ _ e => e
      · cases hg
    · cases hg
  · cases hg
noncomputable def maxV : List V → Option V
  | [.int a, .int b] => some (.int (if b > a then b else a))
  | _ => none
noncomputable def minV : List V → Option V
  | [.int a, .int b] => some (.int (if b < a then b else a))
  | _ => none
noncomputable def absV : List V → Option V
  | [.int a] => some (.int (if a < 0 then -a else a))
  | _ => none
theorem SC_max : SC X r (.builtin "max") (fun vs σ Q => bnd (maxV vs) fun v => Q v σ) := by
  refine SC.pure (g := fun vs _ => maxV vs) fun A vs xs v σ s Q E R M ia hg h => ?_
  unfold maxV at hg
  split at hg
  · obtain ⟨x, _, rfl, ⟨t, rfl⟩, y, _, rfl, ⟨u, rfl⟩, rfl⟩ := ia
    cases hg
    refine max_two_ints R.h fun h' tk hk => ?_
    split
    · rename_i q; exact h _ h' tk (by rw [if_pos q]; exact is_int _ _) hk
    · rename_i q; exact h _ h' tk (by rw [if_neg q]; exact is_int _ _) hk
  · cases hg
theorem SC_min : SC X r (.builtin "min") (fun vs σ Q => bnd (minV vs) fun v => Q v σ) := by
  refine SC.pure (g := fun vs _ => minV vs) fun A vs xs v σ s Q E R M ia hg h => ?_
  unfold minV at hg
  split at hg
  · obtain ⟨x, _, rfl, ⟨t, rfl⟩, y, _, rfl, ⟨u, rfl⟩, rfl⟩ := ia
    cases hg
    refine min_two_ints R.h fun h' tk hk => ?_
    split
    · rename_i q; exact h _ h' tk (by rw [if_pos q]; exact is_int _ _) hk
    · rename_i q; exact h _ h' tk (by rw [if_neg q]; exact is_int _ _) hk
  · cases hg
theorem SC_abs : SC X r (.builtin "abs") (fun vs σ Q => bnd (absV vs) fun v => Q v σ) := by
  refine SC.pure (g := fun vs _ => absV vs) fun A vs xs v σ s Q E R M ia hg h => ?_
  unfold absV at hg
  split at hg
  · obtain ⟨x, _, rfl, ⟨t, rfl⟩, rfl⟩ := ia
    cases hg
    exact call_abs_int fun u tk => h _ s.heap tk (is_int _ _) fun _ _ e => e
  · cases hg
end
/-! NH -/
theorem st_append : st 57 = ("append" : Str) := by kernel_rfl!
theorem st_remove : st 109 = ("remove" : Str) := by kernel_rfl!
theorem st_pop : st 117 = ("pop" : Str) := by kernel_rfl!
theorem st_index : st 177 = ("index" : Str) := by kernel_rfl!
theorem st_get' : st 66 = ("get" : Str) := by kernel_rfl!
theorem ty_append : typeOf (.builtin "list.append") = pure (.type "method_descriptor") := by show builtinType "list.append" = _; rw [builtinType_eq_fast]; kernel_rfl!
theorem ty_remove : typeOf (.builtin "list.remove") = pure (.type "method_descriptor") := by show builtinType "list.remove" = _; rw [builtinType_eq_fast]; kernel_rfl!
theorem ty_pop : typeOf (.builtin "list.pop") = pure (.type "method_descriptor") := by show builtinType "list.pop" = _; rw [builtinType_eq_fast]; kernel_rfl!
theorem ty_index : typeOf (.builtin "list.index") = pure (.type "method_descriptor") := by show builtinType "list.index" = _; rw [builtinType_eq_fast]; kernel_rfl!
theorem ty_get : typeOf (.builtin "dict.get") = pure (.type "method_descriptor") := by show builtinType "dict.get" = _; rw [builtinType_eq_fast]; kernel_rfl!
abbrev One (e : Expr) : Prop := ∀ env, starEach [e] env = [(false, eval e env)]
abbrev NotCall (o : Expr) : Prop := ∀ f ps, o ≠ .Call f [] [] ps
theorem few1 {e : Expr} {env : Env} {pos : Pos} (h : starEach [e] env = [(false, eval e env)]) : ((backTo pos (starEach [e] env)).all (fun x => !x.1) && (backToKw pos (keywordEach [] env)).all (fun x => x.1.isSome)
      && decide (([e] : List Expr).length + ([] : List Keyword).length + (if ([] : List Keyword).isEmpty then 0 else 1) < 30)) = true := by rw [h]; rfl
/-- the list at an address of ours -/
theorem own_list {X : Cx} {σ : St} {h : Heap} {a : Addr} {xs : List V} (S : Sim X.w σ h) (e : σ a = some (.list xs)) : ∃ vs n, h.get? a = some { cls := .type "list", data := .seq vs.toArray n } ∧ AllIs xs vs := by
  obtain ⟨vs, ⟨n, g⟩, ha⟩ := S _ _ e
  exact ⟨vs, n, g, ha⟩
theorem upd_plain {h : Heap} {a : Addr} {vs : List Value} {n : Nat} {f : Array Value → Array Value} (g : h.get? a = some { cls := .type "list", data := .seq vs.toArray n }) : (h.update a (Obj.mapSeq f)).PlainList a (f vs.toArray) :=
  ⟨_, Heap.get?_update_self (Obj.mapSeq f) g rfl⟩
section
variable {X : Cx} {r : Nat} {fi : Fi}
theorem SE_append {o e : Expr} {x : Str} {apos pos : Pos} {F G : Tr V} (hx : x = st 57) (ho : SE X r fi o F) (he : SE X r fi e G) (hb : NotCall o) (hs : One e) (hl : (apos.endLine == pos.line) = true) :
    SE X r fi (.Call (.Attribute o x apos) [e] [] pos) (fun ρ σ Q => F ρ σ fun a σ₁ => ∃ l xs₀, a = .ref l ∧ σ₁ l = some (.list xs₀) ∧ G ρ σ₁ fun v σ₂ => ∃ xs, σ₂ l = some (.list xs) ∧ xs.length < 1000 ∧ Q .none (upd σ₂ l (.list (xs ++ [v])))) := by
  subst hx
  intro A B env ρ σ s Qa Q E R I hF h
  refine PySem.wpAny_Call_method_late (base_plain hb) (few1 (hs env)) hl (by rw [hs env]) ?_
  refine ho A B env ρ σ s _ _ _ R I hF fun a y σ₁ h₁ k₁ ia ⟨l, xs₀, e1, e2, hG⟩ I₁ => ?_
  subst e1; cases ia
  obtain ⟨vs, n, g, -⟩ := own_list I₁.sim e2
  refine ⟨"list", "list.append", PySem.F.plainAttrs_list, st_append ▸ PySem.F.slot_list_append, ty_append, ⟨_, g, rfl⟩, fun b hb => by cases hb; exact ⟨_, g, rfl⟩, ?_⟩
  refine PySem.P.append_list (s := { s with heap := h₁, toks := k₁ }) ?_
  refine he A B env ρ σ₁ _ _ _ _ R I₁ hG fun v z σ₂ h₂ k₂ iv ⟨xs, e3, e4, hq⟩ I₂ => ?_
  obtain ⟨ws, m, g', ia'⟩ := own_list I₂.sim e3
  refine ⟨_, m, by rw [List.size_toArray, ia'.length, sizeLine_eq]; lia, g', ?_⟩
  refine h _ _ _ _ _ is_none hq (I₂.set (by rw [e3]; exact nofun) (Heap.SameBut.update ..) ⟨ws ++ [z], ?_, ia'.append (AllIs.one iv)⟩)
  have := upd_plain (f := fun xs => xs.push z) g'
  simpa using this
theorem SE_pop0 {o : Expr} {x : Str} {apos pos : Pos} {F : Tr V} (hx : x = st 117) (ho : SE X r fi o F) (hb : NotCall o) (hl : (apos.endLine == pos.line) = true) :
    SE X r fi (.Call (.Attribute o x apos) [] [] pos) (fun ρ σ Q => F ρ σ fun a σ₁ => ∃ l xs v, a = .ref l ∧ σ₁ l = some (.list (xs ++ [v])) ∧ xs.length < 1000 ∧ Q v (upd σ₁ l (.list xs))) := by
  subst hx
  intro A B env ρ σ s Qa Q E R I hF h
  refine PySem.wpAny_Call_method0_late (base_plain hb) hl ?_
  refine ho A B env ρ σ s _ _ _ R I hF fun a y σ₁ h₁ k₁ ia ⟨l, xs, v, e1, e2, e3, hq⟩ I₁ => ?_
  subst e1; cases ia
  obtain ⟨vs, n, g, iv⟩ := own_list I₁.sim e2
  refine ⟨"list", "list.pop", PySem.F.plainAttrs_list, st_pop ▸ PySem.F.slot_list_pop, ty_pop, ⟨_, g, rfl⟩, fun b hb => by cases hb; exact ⟨_, g, rfl⟩, ?_⟩
  have hlen := iv.length
  rw [List.length_append, List.length_singleton] at hlen
  obtain ⟨z, hz, hi⟩ := iv.getA (i := xs.length) (v := v) (by simp)
  have hsz : vs.toArray.size - 1 = xs.length := by rw [List.size_toArray]; lia
  refine PySem.P.pop_list (s := { s with heap := h₁, toks := k₁ }) g (by rw [hsz]; exact hz) ?_ (by rw [List.size_toArray, sizeLine_eq]; lia)
  refine h _ _ _ _ _ hi hq (I₁.set (by rw [e2]; exact nofun) (Heap.SameBut.update ..) ⟨vs.eraseIdx xs.length, ?_, ?_⟩)
  · have := upd_plain (f := fun ys => ys.eraseIdxIfInBounds (vs.toArray.size - 1)) g
    rw [hsz] at this
    have e : vs.toArray.eraseIdxIfInBounds xs.length = (vs.eraseIdx xs.length).toArray := by simp
    rw [e] at this
    rw [hsz]
    exact this
  · have := iv.eraseIdx (i := xs.length)
    have e : (xs ++ [v]).eraseIdx xs.length = xs := by rw [List.eraseIdx_append_of_length_le (Nat.le_refl _)]; simp
    rw [e] at this
    exact this
theorem SE_pop1 {o e : Expr} {x : Str} {apos pos : Pos} {F G : Tr V} (hx : x = st 117) (ho : SE X r fi o F) (he : SE X r fi e G) (hb : NotCall o) (hs : One e) (hl : (apos.endLine == pos.line) = true) :
    SE X r fi (.Call (.Attribute o x apos) [e] [] pos) (fun ρ σ Q => F ρ σ fun a σ₁ => ∃ l xs₀, a = .ref l ∧ σ₁ l = some (.list xs₀) ∧ G ρ σ₁ fun i σ₂ => ∃ (xs : List V) (k : Nat) (v : V), σ₂ l = some (.list xs) ∧ i = .int k ∧ xs[k]? = some v ∧ xs.length < 1000 ∧ Q v (upd σ₂ l (.list (xs.eraseIdx k)))) := by
  subst hx
  intro A B env ρ σ s Qa Q E R I hF h
  refine PySem.wpAny_Call_method_late (base_plain hb) (few1 (hs env)) hl (by rw [hs env]) ?_
  refine ho A B env ρ σ s _ _ _ R I hF fun a y σ₁ h₁ k₁ ia ⟨l, xs₀, e1, e2, hG⟩ I₁ => ?_
  subst e1; cases ia
  obtain ⟨vs, n, g, -⟩ := own_list I₁.sim e2
  refine ⟨"list", "list.pop", PySem.F.plainAttrs_list, st_pop ▸ PySem.F.slot_list_pop, ty_pop, ⟨_, g, rfl⟩, fun b hb => by cases hb; exact ⟨_, g, rfl⟩, ?_⟩
  refine PySem.P.pop_at_list (s := { s with heap := h₁, toks := k₁ }) ?_
  refine he A B env ρ σ₁ _ _ _ _ R I₁ hG fun i z σ₂ h₂ k₂ iv ⟨xs, k, v, e3, e4, e5, e6, hq⟩ I₂ => ?_
  subst e4
  obtain ⟨t, rfl⟩ := iv
  obtain ⟨ws, m, g', ia'⟩ := own_list I₂.sim e3
  obtain ⟨z, hz, hi⟩ := ia'.getA e5
  have hk : k < xs.length := (List.getElem?_eq_some_iff.mp e5).1
  have hn := ia'.length
  refine ⟨_, m, _, t, k, z, by rw [List.size_toArray, hn, sizeLine_eq]; lia, rfl, g', fitsIndex_of (by lia) (by lia), ?_, hz, ?_⟩
  · unfold seqIndex?
    simp only [if_neg (show ¬ (k : Int) < 0 by lia)]
    rw [if_pos (by simp; lia)]
    simp
  · refine h _ _ _ _ _ hi hq (I₂.set (by rw [e3]; exact nofun) (Heap.SameBut.update ..) ⟨ws.eraseIdx k, ?_, ia'.eraseIdx⟩)
    have := upd_plain (f := fun ys => ys.eraseIdxIfInBounds k) g'
    have e : ws.toArray.eraseIdxIfInBounds k = (ws.eraseIdx k).toArray := by simp
    rw [e] at this
    exact this

/-! lists of ints -/
theorem nthInt : ∀ {ns : List Int} {vs : List Value}, AllIs (ns.map V.int) vs → ∀ m : Nat, vs[m]? = none ∧ ns[m]? = none ∨ ∃ i t, vs[m]? = some (Value.int i t) ∧ ns[m]? = some i
  | [], _, h, m => by cases h; exact .inl ⟨rfl, rfl⟩
  | n :: ns, _, ⟨x, xs, e, ⟨t, hx⟩, h⟩, 0 => by subst e; subst hx; exact .inr ⟨n, t, rfl, rfl⟩
  | n :: ns, _, ⟨x, xs, e, ⟨t, hx⟩, h⟩, m + 1 => by subst e; simpa using nthInt h m
noncomputable abbrev isI (i : Int) (y : Value) : Bool := match y with | .int j _ => j == i | _ => false
theorem int_gives {ns : List Int} {vs : List Value} (h : AllIs (ns.map V.int) vs) (i : Int) (u : Tok) : ∀ y, y ∈ vs.toArray → MeetsSeq.EqGives y (.int i u) (isI i y) := by
  intro y hy
  obtain ⟨m, hm⟩ := List.mem_iff_getElem?.mp (show y ∈ vs by simpa using hy)
  rcases nthInt h m with ⟨a, _⟩ | ⟨j, t, a, _⟩
  · rw [a] at hm; cases hm
  · rw [a] at hm; cases hm; exact MeetsSeq.EqGives.int j i t u
theorem int_find {ns : List Int} {vs : List Value} (h : AllIs (ns.map V.int) vs) {i : Int} (hi : i ∈ ns) : ∃ hj : ns.idxOf i < vs.toArray.size, isI i vs.toArray[ns.idxOf i] = true ∧ ∀ m (hm : m < vs.toArray.size), m < ns.idxOf i → isI i vs.toArray[m] = false := by
  have hl := h.length
  rw [List.length_map] at hl
  have hlt := List.idxOf_lt_length_of_mem hi
  have hj : ns.idxOf i < vs.toArray.size := by rw [List.size_toArray]; lia
  refine ⟨hj, ?_, fun m hm hlt' => ?_⟩
  · rcases nthInt h (ns.idxOf i) with ⟨_, b⟩ | ⟨j, t, a, b⟩
    · rw [List.getElem?_eq_getElem hlt] at b; cases b
    · have : vs.toArray[ns.idxOf i] = .int j t := by
        rw [List.getElem?_eq_some_iff] at a
        simpa using a.2
      rw [this]
      rw [List.getElem?_eq_getElem hlt, List.getElem_idxOf hlt] at b
      cases b
      simp [isI]
  · rcases nthInt h m with ⟨a, _⟩ | ⟨j, t, a, b⟩
    · rw [List.size_toArray] at hm
      rw [List.getElem?_eq_getElem hm] at a; cases a
    · have : vs.toArray[m] = .int j t := by
        rw [List.getElem?_eq_some_iff] at a
        simpa using a.2
      rw [this]
      have hne := List.not_of_lt_findIdx (show m < ns.findIdx (· == i) from hlt')
      rw [List.getElem?_eq_some_iff] at b
      obtain ⟨_, b⟩ := b
      simp only [b] at hne
      simpa [isI] using hne
theorem map_erase : ∀ (ns : List Int) (k : Nat), (ns.map V.int).eraseIdx k = (ns.eraseIdx k).map V.int
  | [], _ => rfl
  | _ :: _, 0 => rfl
  | _ :: ns, k + 1 => by simp [map_erase ns k]
theorem AllIs.ints_erase {ns : List Int} {vs : List Value} (h : AllIs (ns.map V.int) vs) {i : Int} : AllIs ((ns.erase i).map V.int) (vs.eraseIdx (ns.idxOf i)) := by
  have := h.eraseIdx (i := ns.idxOf i)
  rw [List.erase_eq_eraseIdx_of_idxOf rfl]
  rwa [map_erase] at this
theorem SE_remove {o e : Expr} {x : Str} {apos pos : Pos} {F G : Tr V} (hx : x = st 109) (ho : SE X r fi o F) (he : SE X r fi e G) (hb : NotCall o) (hs : One e) (hl : (apos.endLine == pos.line) = true) :
    SE X r fi (.Call (.Attribute o x apos) [e] [] pos) (fun ρ σ Q => F ρ σ fun a σ₁ => ∃ l xs₀, a = .ref l ∧ σ₁ l = some (.list xs₀) ∧ G ρ σ₁ fun v σ₂ => ∃ (ns : List Int) (i : Int), σ₂ l = some (.list (ns.map .int)) ∧ v = .int i ∧ i ∈ ns ∧ ns.length < 1000 ∧ Q .none (upd σ₂ l (.list ((ns.erase i).map .int)))) := by
  subst hx
  intro A B env ρ σ s Qa Q E R I hF h
  refine PySem.wpAny_Call_method_late (base_plain hb) (few1 (hs env)) hl (by rw [hs env]) ?_
  refine ho A B env ρ σ s _ _ _ R I hF fun a y σ₁ h₁ k₁ ia ⟨l, xs₀, e1, e2, hG⟩ I₁ => ?_
  subst e1; cases ia
  obtain ⟨vs, n, g, -⟩ := own_list I₁.sim e2
  refine ⟨"list", "list.remove", PySem.F.plainAttrs_list, st_remove ▸ PySem.F.slot_list_remove, ty_remove, ⟨_, g, rfl⟩, fun b hb => by cases hb; exact ⟨_, g, rfl⟩, ?_⟩
  refine PySem.P.remove_list (s := { s with heap := h₁, toks := k₁ }) ?_
  refine he A B env ρ σ₁ _ _ _ _ R I₁ hG fun v z σ₂ h₂ k₂ iv ⟨ns, i, e3, e4, e5, e6, hq⟩ I₂ => ?_
  subst e4
  obtain ⟨u, rfl⟩ := iv
  obtain ⟨ws, m, g', ia'⟩ := own_list I₂.sim e3
  obtain ⟨hj, h2, h3⟩ := int_find ia' e5
  have hn := ia'.length
  rw [List.length_map] at hn
  refine ⟨_, m, isI i, ns.idxOf i, hj, by rw [List.size_toArray, hn, sizeLine_eq]; lia, g', int_gives ia' i u, h2, h3, ?_⟩
  refine h _ _ _ _ _ is_none hq (I₂.set (by rw [e3]; exact nofun) (Heap.SameBut.update ..) ⟨ws.eraseIdx (ns.idxOf i), ?_, ia'.ints_erase⟩)
  have := upd_plain (f := fun ys => ys.eraseIdxIfInBounds (ns.idxOf i)) g'
  have e : ws.toArray.eraseIdxIfInBounds (ns.idxOf i) = (ws.eraseIdx (ns.idxOf i)).toArray := by simp
  rw [e] at this
  exact this
theorem SE_index {o e : Expr} {x : Str} {apos pos : Pos} {F G : Tr V} (hx : x = st 177) (ho : SE X r fi o F) (he : SE X r fi e G) (hb : NotCall o) (hs : One e) (hl : (apos.endLine == pos.line) = true) :
    SE X r fi (.Call (.Attribute o x apos) [e] [] pos) (fun ρ σ Q => F ρ σ fun a σ₁ => ∃ l xs₀, a = .ref l ∧ σ₁ l = some (.list xs₀) ∧ G ρ σ₁ fun v σ₂ => ∃ (ns : List Int) (i : Int), σ₂ l = some (.list (ns.map .int)) ∧ v = .int i ∧ i ∈ ns ∧ ns.length < 1000 ∧ Q (.int (ns.idxOf i)) σ₂) := by
  subst hx
  intro A B env ρ σ s Qa Q E R I hF h
  refine PySem.wpAny_Call_method_late (base_plain hb) (few1 (hs env)) hl (by rw [hs env]) ?_
  refine ho A B env ρ σ s _ _ _ R I hF fun a y σ₁ h₁ k₁ ia ⟨l, xs₀, e1, e2, hG⟩ I₁ => ?_
  subst e1; cases ia
  obtain ⟨vs, n, g, -⟩ := own_list I₁.sim e2
  refine ⟨"list", "list.index", PySem.F.plainAttrs_list, st_index ▸ PySem.F.slot_list_index, ty_index, ⟨_, g, rfl⟩, fun b hb => by cases hb; exact ⟨_, g, rfl⟩, ?_⟩
  refine PySem.P.index_list (s := { s with heap := h₁, toks := k₁ }) ?_
  refine he A B env ρ σ₁ _ _ _ _ R I₁ hG fun v z σ₂ h₂ k₂ iv ⟨ns, i, e3, e4, e5, e6, hq⟩ I₂ => ?_
  subst e4
  obtain ⟨u, rfl⟩ := iv
  obtain ⟨ws, m, g', ia'⟩ := own_list I₂.sim e3
  obtain ⟨hj, h2, h3⟩ := int_find ia' e5
  have hn := ia'.length
  rw [List.length_map] at hn
  refine ⟨_, m, isI i, ns.idxOf i, hj, g', int_gives ia' i u, ?_, h2, h3, ?_⟩
  · rw [List.size_toArray, hn] at hj; lia
  · exact h _ _ _ _ _ (is_int _ _) hq I₂

/-! dict.get -/
noncomputable def igetV (es : List (Int × V)) (k : Int) (d : V) : V := (es.lookup k).getD d
theorem SE_get {o e f : Expr} {x : Str} {apos pos : Pos} {F G H : Tr V} (hr : 2 ≤ r) (hx : x = st 66) (ho : SE X r fi o F) (he : SE X r fi e G) (hf : SE X r fi f H) (hb : NotCall o)
    (hs : ∀ env, starEach [e, f] env = [(false, eval e env), (false, eval f env)]) (hl : (apos.endLine == pos.line) = true) :
    SE X r fi (.Call (.Attribute o x apos) [e, f] [] pos) (fun ρ σ Q => F ρ σ fun a σ₁ => ∃ l, a = .ref l ∧ l ≠ 1 ∧ (((∃ es, σ₁ l = some (.idict es)) ∧ G ρ σ₁ fun k σ₂ => H ρ σ₂ fun d σ₃ => ∃ es i, rd X σ₃ l = some (.idict es) ∧ k = .int i ∧ Q ((es.lookup i).getD d) σ₃) ∨
      ((∃ es, σ₁ l = some (.pdict es)) ∧ G ρ σ₁ fun k σ₂ => H ρ σ₂ fun d σ₃ => ∃ es b i j, rd X σ₃ l = some (.pdict es) ∧ PdOk X σ₃ es ∧ k = .ref b ∧ rd X σ₃ b = some (.tup [.int i, .int j]) ∧ Q ((pget es (i, j)).getD d) σ₃))) := by
  subst hx
  intro A B env ρ σ s Qa Q E R I hF h
  refine PySem.wpAny_Call_method2_late (base_plain hb) hl (by rw [hs env]; rfl) ?_
  refine ho A B env ρ σ s _ _ _ R I hF fun a y σ₁ h₁ k₁ ia ⟨l, e1, hl1, hh⟩ I₁ => ?_
  subst e1; cases ia
  have sysm : (l == sysModules) = false := beq_eq_false_iff_ne.mpr hl1
  rcases hh with ⟨⟨es₀, e2⟩, hG⟩ | ⟨⟨es₀, e2⟩, hG⟩
  · obtain ⟨kvs, ⟨ob, es, ep, g1, g2, g3, g4⟩, _⟩ := I₁.sim _ _ e2
    refine ⟨"dict", "dict.get", PySem.F.plainAttrs_dict, st_get' ▸ PySem.F.slot_dict_get, ty_get, ⟨_, g1, g2.1⟩, fun b hb => by cases hb; exact ⟨_, g1, g2.2.1⟩, ?_⟩
    refine PySem.wpAny_dict_get2 (knd := intKind pw X.w) sysm ?_
    refine he A B env ρ σ₁ _ _ _ _ R I₁ hG fun k z σ₂ h₂ k₂ ik hH I₂ => ?_
    refine hf A B env ρ σ₂ _ _ _ _ R I₂ hH fun d y σ₃ h₃ k₃ id ⟨es, i, e3, e4, hq⟩ I₃ => ?_
    subst e4
    obtain ⟨u, rfl⟩ := ik
    obtain ⟨kvs, d1, d2⟩ := I₃.at e3
    refine ⟨i, _, int_is _ _, d1.mapOf, ?_⟩
    have := d2.valueAt (k := i)
    cases q : es.lookup i with
    | some v =>
      rw [q] at this hq
      obtain ⟨x, hx, hi⟩ := this
      rw [hx]
      exact h _ _ _ _ _ hi hq I₃
    | none =>
      rw [q] at this hq
      rw [this]
      exact h _ _ _ _ _ id hq I₃
  · obtain ⟨xs, _, ob, des, ep, g1, g2, g3⟩ := I₁.sim _ _ e2
    refine ⟨"dict", "dict.get", PySem.F.plainAttrs_dict, st_get' ▸ PySem.F.slot_dict_get, ty_get, ⟨_, g1, g2.1⟩, fun b hb => by cases hb; exact ⟨_, g1, g2.2.1⟩, ?_⟩
    refine PySem.wpAny_dict_get2_heap (knd := tupleKind (intKind pw X.w)) (tupleKind_room_in1 (by have := R.u; lia)) sysm ?_
    refine he A B env ρ σ₁ _ _ _ _ R I₁ hG fun k z σ₂ h₂ k₂ ik hH I₂ => ?_
    refine hf A B env ρ σ₂ _ _ _ _ R I₂ hH fun d y σ₃ h₃ k₃ id ⟨es, b, i, j, e3, p3, e4, e5, hq⟩ I₃ => ?_
    subst e4; cases ik
    obtain ⟨xs, d1, d2⟩ := pdict_at I₃ e3 p3
    refine ⟨b, [i, j], xs, rfl, pair_key (I₃.at e5), d1, ?_⟩
    have := d2.get (i := i) (j := j)
    cases q : pget es (i, j) with
    | some v =>
      rw [q] at this hq
      obtain ⟨b', x, hx, hi⟩ := this
      rw [hx]
      exact h _ _ _ _ _ hi hq I₃
    | none =>
      rw [q] at this hq
      rw [this]
      exact h _ _ _ _ _ id hq I₃
end
/-! NI -/
theorem lookup_putS (n k : Nat) (v : V) : ∀ ρ : Loc, (putS n v ρ).lookup k = if k = n then some v else ρ.lookup k
  | [] => by
    unfold putS
    by_cases q : k = n
    · subst q; simp
    · rw [if_neg q, List.lookup_cons, beq_eq_false_iff_ne.mpr q]
  | (m, u) :: r => by
    rw [putS_cons]
    by_cases q : m = n
    · subst q
      rw [if_pos rfl, List.lookup_cons, List.lookup_cons]
      by_cases q' : k = m
      · subst q'; simp
      · rw [beq_eq_false_iff_ne.mpr q', if_neg q']
    · rw [if_neg q, List.lookup_cons, List.lookup_cons]
      by_cases q' : k = m
      · subst q'; simp [q]
      · rw [beq_eq_false_iff_ne.mpr q']; exact lookup_putS n k v r
def Sub (ρ₀ ρ : Loc) : Prop := ∀ n v, ρ₀.lookup n = some v → ρ.lookup n = some v
theorem Sub.refl (ρ : Loc) : Sub ρ ρ := fun _ _ e => e
theorem Sub.nil (ρ : Loc) : Sub [] ρ := fun _ _ e => by cases e
theorem Sub.cons {n : Nat} {v : V} {r ρ : Loc} (h : ρ.lookup n = some v) (t : Sub r ρ) : Sub ((n, v) :: r) ρ := fun k u e => by
  rw [List.lookup_cons] at e
  by_cases q : k = n
  · subst q; simp at e; subst e; exact h
  · rw [beq_eq_false_iff_ne.mpr q] at e; exact t k u e
theorem Sub.trans {a b c : Loc} (x : Sub a b) (y : Sub b c) : Sub a c := fun n v e => y n v (x n v e)
noncomputable def Base.add (B : Base) (a : Addr) (ob : Obj) : Base := ⟨B.σ, fun b => if b = a then some ob else B.h b⟩
section
variable {X : Cx} {B : Base} {fi : Fi} {env : Env} {ρ ρ' : Loc} {σ σ' : St} {h h' : Heap}
theorem Inv.sub (I : Inv X B fi env ρ σ h) (s : Sub ρ' ρ) : Inv X B fi env ρ' σ h where
  eok := I.eok
  base := I.base
  sim := I.sim
  ext := I.ext
  loc := let ⟨m, a, b⟩ := I.loc; ⟨m, a, fun n v e k => b n v (s n v e) k⟩
  cel := fun n hn => let ⟨c, o, a, b, d⟩ := I.cel n hn; ⟨c, o, a, b, fun v e => d v (s n v e)⟩
  newL := I.newL
  apL := I.apL
  apC := I.apC
  inj := I.inj
/-- what is alive stays, but for one that is nobody's -/
structure Nobody (B : Base) (env : Env) (σ : St) (a : Addr) : Prop where
  b : B.h a = none
  s : σ a = none
  l : a ≠ env.locals
  c : ∀ n c, env.cells.lookup n = some c → c ≠ a
theorem Inv.but (I : Inv X B fi env ρ σ h) {a : Addr} (N : Nobody B env σ a) (e : ∀ b ob, b ≠ a → h.get? b = some ob → h'.get? b = some ob) : Inv X B fi env ρ σ h' where
  eok := I.eok
  base := I.base
  sim := fun b o hb => by
    have x := I.sim b o hb
    obtain ⟨ob, e'⟩ := x.some
    exact x.of_get _ ((e b ob (fun q => by rw [q, N.s] at hb; cases hb) e').trans e'.symm)
  ext := ⟨fun b o x y => let ⟨p, q⟩ := I.ext.out b o x y; ⟨e b o (fun z => by rw [z, N.b] at x; cases x) p, q⟩, I.ext.dom⟩
  loc := by
    obtain ⟨m, ⟨o, es, ep, h1, h2⟩, h3⟩ := I.loc
    exact ⟨m, ⟨o, es, ep, e _ _ (Ne.symm N.l) h1, h2⟩, h3⟩
  cel := fun n hn => by
    obtain ⟨c, o, h1, ⟨ob, h2, h3⟩, h4⟩ := I.cel n hn
    exact ⟨c, o, h1, ⟨ob, e _ _ (N.c _ _ h1) h2, h3⟩, h4⟩
  newL := I.newL
  apL := I.apL
  apC := fun n c hc => by
    obtain ⟨p, q, r, o, ob, e1, e2⟩ := I.apC n c hc
    exact ⟨p, q, r, o, ob, e _ _ (N.c _ _ hc) e1, e2⟩
  inj := I.inj
/-- one more that must stay -/
theorem Inv.add (I : Inv X B fi env ρ σ h) {a : Addr} {ob : Obj} (N : Nobody B env σ a) (e : h.get? a = some ob) : Inv X (B.add a ob) fi env ρ σ h where
  eok := I.eok
  base := fun b o hb => by
    obtain ⟨p, q⟩ := I.base b o hb
    refine ⟨?_, q⟩
    show (if b = a then some ob else B.h b) = some o
    rw [if_neg fun z => by rw [z, N.b] at p; cases p]; exact p
  sim := I.sim
  ext := ⟨fun b o x y => by
    by_cases z : b = a
    · subst z
      have : some ob = some o := by simpa [Base.add] using x
      cases this
      exact ⟨e, N.s⟩
    · exact I.ext.out b o (by simpa [Base.add, z] using x) y, I.ext.dom⟩
  loc := I.loc
  cel := I.cel
  newL := by show (if env.locals = a then some ob else B.h env.locals) = none; rw [if_neg (Ne.symm N.l)]; exact I.newL
  apL := I.apL
  apC := fun n c hc => by
    obtain ⟨p, q, r, o⟩ := I.apC n c hc
    exact ⟨p, q, fun z => by show (if c = a then some ob else B.h c) = none; rw [if_neg (N.c _ _ hc)]; exact r z, o⟩
  inj := I.inj
theorem Inv.drop {σ₀ : St} {h₀ : Heap} {ρ₀ : Loc} (I₀ : Inv X B fi env ρ₀ σ₀ h₀) {a : Addr} {ob : Obj} (N : Nobody B env σ₀ a) (I : Inv X (B.add a ob) fi env ρ σ h) (s : B.σ a = none) : Inv X B fi env ρ σ h ∧ h.get? a = some ob ∧ Nobody B env σ a := by
  obtain ⟨p, q⟩ := I.ext.out a ob (by simp [Base.add]) s
  refine ⟨⟨I.eok, I₀.base, I.sim, ⟨fun b o x y => I.ext.out b o (by
    show (if b = a then some ob else B.h b) = some o
    rw [if_neg fun z => by rw [z, N.b] at x; cases x]; exact x) y, I.ext.dom⟩, I.loc, I.cel, I₀.newL, I.apL, fun n c hc => ?_, I.inj⟩, p, N.b, q, N.l, N.c⟩
  obtain ⟨p, q, r, o⟩ := I.apC n c hc
  exact ⟨p, q, fun z => (I₀.apC n c hc).2.2.1 z, o⟩
/-- a fresh object is nobody's -/
theorem Inv.nobody (I : Inv X B fi env ρ σ h) {a : Addr} (ha : h.get? a = none) : Nobody B env σ a where
  b := by
    cases e : B.h a with
    | none => rfl
    | some o =>
      cases q : B.σ a with
      | none => have := (I.ext.out _ _ e q).1; rw [ha] at this; cases this
      | some o' =>
        have := I.ext.dom a (by rw [q]; exact nofun)
        exact absurd (I.free ha) this
  s := I.free ha
  l := by
    obtain ⟨m, ⟨o, es, ep, h1, h2⟩, h3⟩ := I.loc
    intro e; rw [e, h1] at ha; cases ha
  c := fun n c hc e => by
    obtain ⟨p, q, r, o, ob, e1, e2⟩ := I.apC n c hc
    rw [e, ha] at e1; cases e1
theorem Inv.base_none (I : Inv X B fi env ρ σ h) {a : Addr} (N : Nobody B env σ a) : B.σ a = none := by
  cases q : B.σ a with
  | none => rfl
  | some o => exact absurd N.s (I.ext.dom a (by rw [q]; exact nofun))
theorem Inv.putL (I : Inv X B fi env ρ σ h) {n : Nat} {v : V} {x : Value} {m : Str → Option Value} (hk : fi.ks.lookup n = some .local) (iv : v.is x) (hm : ∀ k u, ρ.lookup k = some u → fi.ks.lookup k = some .local → ∃ y, m (st k) = some y ∧ u.is y)
    (hn : h'.Ns env.locals (fun y => if y = st n then some x else m y)) (sb : Heap.SameBut env.locals h h') : Inv X B fi env (putS n v ρ) σ h' where
  eok := I.eok
  base := I.base
  sim := fun b o hb => by
    have y := I.sim b o hb
    exact y.of_get _ (sb.2 b fun q => by rw [q, I.apL] at hb; cases hb)
  ext := ⟨fun b o y z => let ⟨p, q⟩ := I.ext.out b o y z; ⟨(sb.2 b fun w => by rw [w, I.newL] at y; cases y).trans p, q⟩, I.ext.dom⟩
  loc := ⟨_, hn, fun k u e kk => by
    rw [lookup_putS] at e
    by_cases q : k = n
    · subst q; rw [if_pos rfl] at e; cases e; exact ⟨x, by simp, iv⟩
    · rw [if_neg q] at e
      obtain ⟨y, h1, h2⟩ := hm k u e kk
      exact ⟨y, by rw [if_neg fun z => q (st_inj z)]; exact h1, h2⟩⟩
  cel := fun k kk => by
    obtain ⟨c, o, h1, ⟨ob, h2, h3⟩, h4⟩ := I.cel k kk
    refine ⟨c, o, h1, ⟨ob, (sb.2 c (I.apC _ _ h1).2.1).trans h2, h3⟩, fun u e => h4 u ?_⟩
    rw [lookup_putS] at e
    by_cases q : k = n
    · subst q; rw [hk] at kk; cases kk
    · rwa [if_neg q] at e
  newL := I.newL
  apL := I.apL
  apC := fun k c hc => by
    obtain ⟨p, q, r, o, ob, e1, e2⟩ := I.apC k c hc
    exact ⟨p, q, r, o, ob, (sb.2 c q).trans e1, e2⟩
  inj := I.inj
theorem Inv.putC (I : Inv X B fi env ρ σ h) (hown : fi.own = true) {n : Nat} {v : V} {x : Value} {c : Addr} (hk : fi.ks.lookup n = some .cell) (iv : v.is x) (hc : env.cells.lookup (st n) = some c)
    (hv : h'.IsCell c (some x)) (sb : Heap.SameBut c h h') : Inv X B fi env (putS n v ρ) σ h' where
  eok := I.eok
  base := I.base
  sim := fun b o hb => by
    have y := I.sim b o hb
    exact y.of_get _ (sb.2 b fun q => by rw [q, (I.apC _ _ hc).1] at hb; cases hb)
  ext := ⟨fun b o y z => let ⟨p, q⟩ := I.ext.out b o y z; ⟨(sb.2 b fun w => by rw [w, (I.apC _ _ hc).2.2.1 hown] at y; cases y).trans p, q⟩, I.ext.dom⟩
  loc := by
    obtain ⟨m, ⟨o, es, ep, h1, h2⟩, h3⟩ := I.loc
    refine ⟨m, ⟨o, es, ep, (sb.2 _ (Ne.symm (I.apC _ _ hc).2.1)).trans h1, h2⟩, fun k u e kk => ?_⟩
    rw [lookup_putS] at e
    by_cases q : k = n
    · subst q; rw [hk] at kk; cases kk
    · rw [if_neg q] at e; exact h3 k u e kk
  cel := fun k kk => by
    obtain ⟨c', o, h1, ⟨ob, h2, h3⟩, h4⟩ := I.cel k kk
    by_cases q : k = n
    · subst q
      rw [hc] at h1; cases h1
      exact ⟨_, _, hc, hv, fun u e => by rw [lookup_putS, if_pos rfl] at e; cases e; exact ⟨x, rfl, iv⟩⟩
    · have : c' ≠ c := fun z => by subst z; exact q (st_inj (I.inj _ _ _ h1 hc))
      exact ⟨c', o, h1, ⟨ob, (sb.2 _ this).trans h2, h3⟩, fun u e => h4 u (by rwa [lookup_putS, if_neg q] at e)⟩
  newL := I.newL
  apL := I.apL
  apC := fun k c' hc' => by
    obtain ⟨p, q, r, o, ob, e1, e2⟩ := I.apC k c' hc'
    refine ⟨p, q, r, ?_⟩
    by_cases z : c' = c
    · subst z; exact ⟨_, hv⟩
    · exact ⟨o, ob, (sb.2 _ z).trans e1, e2⟩
  inj := I.inj
/-- a name of the frame takes a value -/
def Lhs (fi : Fi) (n : Nat) : Prop := fi.ks.lookup n = some .local ∨ (fi.own = true ∧ fi.ks.lookup n = some .cell)
theorem store_sound {A : Around} {E : Value → Shared → Prop} {s : Shared} {n : Nat} {v : V} {x : Value} {Q : Unit → Shared → Prop} (I : Inv X B fi env ρ σ s.heap) (hn : Lhs fi n) (iv : v.is x)
    (hq : ∀ h' tk, Inv X B fi env (putS n v ρ) σ h' → Q () { s with heap := h', toks := tk }) : wpAny (model pw X.w) A (storeName env (st n) x) Q E s := by
  rcases hn with hk | ⟨ho, hk⟩
  · obtain ⟨m, hm, h3⟩ := I.loc
    exact wpAny_storeName_local ((I.eok.kindOf n).trans hk) hm (fun h' hn sb => hq h' _ (I.putL hk iv h3 hn sb)) (by rw [I.eok.kind]; rfl)
  · obtain ⟨c, o, h1, h2, h4⟩ := I.cel n hk
    exact wpAny_storeName_cell I.eok.kind ((I.eok.kindOf n).trans hk) h1 h2 fun h' hv sb => hq h' _ (I.putC ho hk iv h1 hv sb)
end
section
variable {X : Cx} {r : Nat} {fi : Fi}
/-! statements -/
theorem SS_nil : SS X r fi [] (fun ρ σ Q => Q .next ρ σ) := by
  intro A B env ρ σ s Qa Q E R I hF h
  exact wpAny_execs_nil (h .next .next ρ σ _ _ rfl hF I)
/-- a statement, then the rest -/
noncomputable def nx (G : Bl) (Q : Fl → Loc → St → Prop) : Fl → Loc → St → Prop
  | .next, ρ, σ => G ρ σ Q
  | .brk, ρ, σ => Q .brk ρ σ
  | .cont, ρ, σ => Q .cont ρ σ
  | .ret v, ρ, σ => Q (.ret v) ρ σ
abbrev seqB (F G : Bl) : Bl := fun ρ σ Q => F ρ σ (nx G Q)
theorem SS_cons {c : Stmt} {cs : List Stmt} {F G : Bl} (hc : S1 X r fi c F) (hs : SS X r fi cs G) : SS X r fi (c :: cs) (seqB F G) := by
  intro A B env ρ σ s Qa Q E R I hF h
  refine wpAny_execs_cons (hc A B env ρ σ s _ _ E R I hF fun f g ρ₁ σ₁ h₁ k₁ fg hq I₁ => ?_)
  cases f with
  | next => cases fg; exact hs A B env ρ₁ σ₁ { s with heap := h₁, toks := k₁ } _ _ _ R I₁ hq fun f g ρ₂ σ₂ h₂ k₂ fg hq I₂ => h f g ρ₂ σ₂ h₂ k₂ fg hq I₂
  | brk => cases fg; exact h .brk .brk ρ₁ σ₁ h₁ k₁ rfl hq I₁
  | cont => cases fg; exact h .cont .cont ρ₁ σ₁ h₁ k₁ rfl hq I₁
  | ret v => obtain ⟨x, rfl, iv⟩ := fg; exact h (.ret v) (.ret x) ρ₁ σ₁ h₁ k₁ ⟨x, rfl, iv⟩ hq I₁
theorem S1_assign {x : Str} {n : Nat} {val : Expr} {pos pos' : Pos} {F : Tr V} (hx : x = st n) (hn : Lhs fi n) (hv : SE X r fi val F) (hs : ∀ env, swapsWith val (some (.Name x pos')) pos.line env = pure false) :
    S1 X r fi (.Assign [.Name x pos'] val pos) (fun ρ σ Q => F ρ σ fun v σ₁ => Q .next (putS n v ρ) σ₁) := by
  subst hx
  intro A B env ρ σ s Qa Q E R I hF h
  refine wpAny_Assign_Name (hv A B env ρ σ s _ _ _ R I hF fun v y σ₁ h₁ k₁ iv hq I₁ => ?_) (hs env)
  exact store_sound (s := { s with heap := h₁, toks := k₁ }) I₁ hn iv fun h' tk I' => h .next .next _ σ₁ h' tk rfl hq I'
theorem S1_ret {e : Expr} {pos : Pos} {F : Tr V} (he : SE X r fi e F) : S1 X r fi (.Return (some e) pos) (fun ρ σ Q => F ρ σ fun v σ₁ => Q (.ret v) ρ σ₁) := by
  intro A B env ρ σ s Qa Q E R I hF h
  exact wpAny_Return_some (he A B env ρ σ s _ _ _ R I hF fun v y σ₁ h₁ k₁ iv hq I₁ => h (.ret v) _ ρ σ₁ h₁ k₁ ⟨y, rfl, iv⟩ hq I₁)
theorem S1_ret0 {pos : Pos} : S1 X r fi (.Return none pos) (fun ρ σ Q => Q (.ret .none) ρ σ) := by
  intro A B env ρ σ s Qa Q E R I hF h
  exact wpAny_Return_none (h (.ret .none) _ ρ σ _ _ ⟨_, rfl, is_none⟩ hF I)
theorem S1_brk {pos : Pos} : S1 X r fi (.Break pos) (fun ρ σ Q => Q .brk ρ σ) := by
  intro A B env ρ σ s Qa Q E R I hF h
  exact wpAny_Break (h .brk .brk ρ σ _ _ rfl hF I)
theorem S1_cont {pos : Pos} : S1 X r fi (.Continue pos) (fun ρ σ Q => Q .cont ρ σ) := by
  intro A B env ρ σ s Qa Q E R I hF h
  exact wpAny_Continue (h .cont .cont ρ σ _ _ rfl hF I)
/-- what is never reached -/
theorem S1_never {c : Stmt} : S1 X r fi c (fun _ _ _ => False) := fun _ _ _ _ _ _ _ _ _ _ _ hF _ => hF.elim
theorem SS_never {cs : List Stmt} : SS X r fi cs (fun _ _ _ => False) := fun _ _ _ _ _ _ _ _ _ _ _ hF _ => hF.elim
theorem SE_never {e : Expr} : SE X r fi e (fun _ _ _ => False) := fun _ _ _ _ _ _ _ _ _ _ _ hF _ => hF.elim
theorem S1_if {t : Expr} {b c : List Stmt} {pos : Pos} {F : Tr Bool} {G H : Bl} (ht : ST X r fi t F) (hb : SS X r fi b G) (hc : SS X r fi c H) :
    S1 X r fi (.If t b c pos) (fun ρ σ Q => F ρ σ fun p σ₁ => (p = true → G ρ σ₁ Q) ∧ (p = false → H ρ σ₁ Q)) := by
  intro A B env ρ σ s Qa Q E R I hF h
  refine wpAny_If (ht A B env ρ σ s _ _ _ R I hF fun p σ₁ h₁ k₁ ⟨q1, q2⟩ I₁ => ?_)
  cases p with
  | true => exact hb A B env ρ σ₁ { s with heap := h₁, toks := k₁ } _ _ _ R I₁ (q1 rfl) fun f g ρ₂ σ₂ h₂ k₂ fg hq I₂ => h f g ρ₂ σ₂ h₂ k₂ fg hq I₂
  | false => exact hc A B env ρ σ₁ { s with heap := h₁, toks := k₁ } _ _ _ R I₁ (q2 rfl) fun f g ρ₂ σ₂ h₂ k₂ fg hq I₂ => h f g ρ₂ σ₂ h₂ k₂ fg hq I₂
end
/-! NJ -/
/-! what a loop runs over -/
inductive Src where
  | list (a : Addr) | tup (a : Addr) | range (a : Int) (n : Nat)
def SrcOk (X : Cx) (σ : St) : Src → List V → Prop
  | .list a, xs => rd X σ a = some (.list xs)
  | .tup a, xs => rd X σ a = some (.tup xs)
  | .range a n, xs => xs = (List.range n).map fun i => V.int (a + (i : Nat))
def IterAt (h : Heap) (it : Addr) : Src → Nat → Prop
  | .list a, k => h.IsListIter it a k
  | .tup a, k => h.IsTupleIter it a k
  | .range a n, k => IsRangeIter h it (a + k) ((n : Int) - k) 1
theorem IterAt.get {h : Heap} {it : Addr} {src : Src} {k : Nat} (x : IterAt h it src k) : ∃ ob, h.get? it = some ob ∧ ∀ h' : Heap, h'.get? it = some ob → IterAt h' it src k := by
  cases src with
  | list a => obtain ⟨o, h1, h2⟩ := x; exact ⟨o, h1, fun h' e => ⟨o, e, h2⟩⟩
  | tup a => obtain ⟨o, h1, h2⟩ := x; exact ⟨o, h1, fun h' e => ⟨o, e, h2⟩⟩
  | range a n => exact ⟨_, x, fun h' e => e⟩
def SrcV (X : Cx) (σ : St) : V → Src → Prop
  | .ref a, .list b => a = b
  | .ref a, .tup b => a = b
  | .ref a, .range i n => rd X σ a = some (.range i (i + (n : Nat))) ∧ -1000000 ≤ i ∧ i + (n : Nat) ≤ 1000000
  | _, _ => False
section
variable {X : Cx} {r : Nat} {fi : Fi}
theorem size_range (i : Int) (n : Nat) : Builtin.Range.rangeSize i (i + n) 1 = n := by
  unfold Builtin.Range.rangeSize
  rw [if_pos (by lia)]
  split <;> lia
theorem next_sound {A : Around} {E : Value → Shared → Prop} {s : Shared} {σ : St} {it : Addr} {src : Src} {k : Nat} {xs : List V} {Q : Option Value → Shared → Prop} (R : Room r A) (M : Mid X σ s.heap) (hi : IterAt s.heap it src k) (hs : SrcOk X σ src xs)
    (h : ∀ h' tk, (∀ b ob, b ≠ it → s.heap.get? b = some ob → h'.get? b = some ob) → match xs[k]? with
      | some v => ∀ x, v.is x → IterAt h' it src (k + 1) → Q (some x) { s with heap := h', toks := tk }
      | none => Q none { s with heap := h', toks := tk }) : wpAny (model pw X.w) A (pyNext (.ref it)) Q E s := by
  cases src with
  | list a =>
    obtain ⟨vs, hl, ha⟩ := M.at hs
    cases e : xs[k]? with
    | some v =>
      obtain ⟨x, hx, iv⟩ := ha.getA e
      refine wpAny_pyNext_list_item hi hl.isList hx fun h' hi' sb => ?_
      have := h h' s.toks fun b ob hb q => (sb.2 b hb).trans q
      rw [e] at this
      exact this x iv hi'
    | none =>
      refine wpAny_pyNext_list_end R.h hi hl.isList (by rw [List.getElem?_toArray]; rw [List.getElem?_eq_none_iff] at e ⊢; rw [ha.length]; exact e) fun h' eb => ?_
      have := h h' s.toks fun b ob hb q => eb b ob hb q
      rw [e] at this
      exact this
  | tup a =>
    obtain ⟨vs, hl, ha⟩ := M.at hs
    cases e : xs[k]? with
    | some v =>
      obtain ⟨x, hx, iv⟩ := ha.getA e
      refine wpAny_pyNext_tuple_item hi hl hx fun h' hi' sb => ?_
      have := h h' s.toks fun b ob hb q => (sb.2 b hb).trans q
      rw [e] at this
      exact this x iv hi'
    | none =>
      refine wpAny_pyNext_tuple_end R.h hi hl (by rw [List.getElem?_toArray]; rw [List.getElem?_eq_none_iff] at e ⊢; rw [ha.length]; exact e) fun h' eb => ?_
      have := h h' s.toks fun b ob hb q => eb b ob hb q
      rw [e] at this
      exact this
  | range a n =>
    have hs : xs = (List.range n).map fun i => V.int (a + (i : Nat)) := hs
    by_cases c : k < n
    · have e : xs[k]? = some (.int (a + (k : Nat))) := by rw [hs]; simp [c]
      refine wpAny_pyNext_range_item hi (by lia) fun h' hi' sb => ?_
      have := h h' (s.toks + 1) fun b ob hb q => (sb.2 b hb).trans q
      rw [e] at this
      refine this _ (is_int _ _) ?_
      show IsRangeIter h' it (a + ((k + 1 : Nat) : Int)) ((n : Int) - ((k + 1 : Nat) : Int)) 1
      have e1 : a + ((k + 1 : Nat) : Int) = a + k + 1 := by lia
      have e2 : (n : Int) - ((k + 1 : Nat) : Int) = n - k - 1 := by lia
      rw [e1, e2]
      exact hi'
    · have e : xs[k]? = none := by rw [hs]; simp; lia
      refine wpAny_pyNext_range_end R.h hi (by lia) fun h' eb => ?_
      have := h h' s.toks fun b ob hb q => eb b ob hb q
      rw [e] at this
      exact this
theorem iter_sound {A : Around} {E : Value → Shared → Prop} {s : Shared} {σ : St} {v : V} {x : Value} {src : Src} {xs : List V} {Q : Value → Shared → Prop} (M : Mid X σ s.heap) (iv : v.is x) (hv : SrcV X σ v src) (hs : SrcOk X σ src xs)
    (h : ∀ ob, IterAt (s.heap.push ob) s.heap.objs.size src 0 → Q (.ref s.heap.objs.size) { s with heap := s.heap.push ob }) : wpAny (model pw X.w) A (pyIter x) Q E s := by
  cases v with
  | ref a =>
    cases iv
    cases src with
    | list b =>
      cases hv
      obtain ⟨vs, hl, ha⟩ := M.at hs
      exact wpAny_pyIter_list hl.isList (h _ ⟨_, Heap.get?_push_size _ rfl, rfl, rfl⟩)
    | tup b =>
      cases hv
      obtain ⟨vs, hl, ha⟩ := M.at hs
      exact wpAny_pyIter_tuple hl (h _ ⟨_, Heap.get?_push_size _ rfl, rfl, rfl⟩)
    | range i n =>
      obtain ⟨hv, h1, h2⟩ := hv
      obtain ⟨t, u, w, hr⟩ := M.at hv
      refine wpAny_pyIter_range hr (small_one (by lia) (by lia) (by lia) (by lia)) (h _ ?_)
      show IsRangeIter _ _ (i + ((0 : Nat) : Int)) ((n : Int) - ((0 : Nat) : Int)) 1
      have e1 : i + ((0 : Nat) : Int) = i := by lia
      have e2 : (n : Int) - ((0 : Nat) : Int) = Builtin.Range.rangeSize i (i + n) 1 := by rw [size_range]; lia
      rw [e1, e2]
      exact Heap.get?_push_size _ rfl
  | _ => cases hv

theorem S1_expr {e : Expr} {pos : Pos} {F : Tr V} (he : SE X r fi e F) (hs : ∀ env, swapsWith e none pos.line env = pure false) : S1 X r fi (.Expr e pos) (fun ρ σ Q => F ρ σ fun _ σ₁ => Q .next ρ σ₁) := by
  intro A B env ρ σ s Qa Q E R I hF h
  refine wpAny_Expr_any (he A B env ρ σ s _ _ _ R I hF fun v y σ₁ h₁ k₁ iv hq I₁ => h .next .next ρ σ₁ h₁ k₁ rfl hq I₁) ?_ (hs env)
  unfold interactive
  rw [I.eok.kind]
  rfl
/-- the end of a turn -/
noncomputable def turnB (n : Nat) (J : Nat → Loc → St → Prop) (Q : Fl → Loc → St → Prop) : Fl → Loc → St → Prop
  | .next, ρ, σ => ∃ m, m < n ∧ ∃ ρ₀, Sub ρ₀ ρ ∧ J m ρ₀ σ
  | .cont, ρ, σ => ∃ m, m < n ∧ ∃ ρ₀, Sub ρ₀ ρ ∧ J m ρ₀ σ
  | .brk, ρ, σ => Q .next ρ σ
  | .ret v, ρ, σ => Q (.ret v) ρ σ
theorem S1_while {t : Expr} {b : List Stmt} {pos : Pos} {F : Tr Bool} {G : Bl} (ht : ST X r fi t F) (hb : SS X r fi b G) :
    S1 X r fi (.While t b [] pos) (fun ρ σ Q => ∃ (J : Nat → Loc → St → Prop) (n : Nat), (∃ ρ₀, Sub ρ₀ ρ ∧ J n ρ₀ σ) ∧ ∀ n ρ σ, J n ρ σ → F ρ σ fun p σ₁ => (p = true → G ρ σ₁ (turnB n J Q)) ∧ (p = false → Q .next ρ σ₁)) := by
  intro A B env ρ σ s Qa Q E R I ⟨J, n, ⟨ρ₀, hs, hJ⟩, hF⟩ h
  refine wpAny_While (codeAny_whileLoop (fun n s' => ∃ ρ σ h tk, s' = { s with heap := h, toks := tk } ∧ Inv X B fi env ρ σ h ∧ J n ρ σ) ?_ n ⟨ρ₀, σ, s.heap, s.toks, rfl, I.sub hs, hJ⟩)
  rintro n _ ⟨ρ, σ, h₁, k₁, rfl, I, hJ⟩
  refine ht A B env ρ σ { s with heap := h₁, toks := k₁ } _ _ _ R I (hF n ρ σ hJ) fun p σ₁ h₂ k₂ ⟨q1, q2⟩ I₁ => ?_
  cases p with
  | false => exact wpAny_execs_nil (h .next .next ρ σ₁ h₂ k₂ rfl (q2 rfl) I₁)
  | true =>
    refine hb A B env ρ σ₁ { s with heap := h₂, toks := k₂ } _ _ _ R I₁ (q1 rfl) fun f g ρ₂ σ₂ h₃ k₃ fg hq I₂ => ?_
    cases f with
    | next => cases fg; obtain ⟨m, hm, ρ₃, hs, hj⟩ := hq; exact ⟨m, hm, ρ₃, σ₂, h₃, k₃, rfl, I₂.sub hs, hj⟩
    | cont => cases fg; obtain ⟨m, hm, ρ₃, hs, hj⟩ := hq; exact ⟨m, hm, ρ₃, σ₂, h₃, k₃, rfl, I₂.sub hs, hj⟩
    | brk => cases fg; exact h .next .next ρ₂ σ₂ h₃ k₃ rfl hq I₂
    | ret v => obtain ⟨x, rfl, iv⟩ := fg; exact h (.ret v) _ ρ₂ σ₂ h₃ k₃ ⟨x, rfl, iv⟩ hq I₂
/-- a loop over what stands -/
noncomputable def turnF (ys : List V) (J : List V → Loc → St → Prop) (Q : Fl → Loc → St → Prop) : Fl → Loc → St → Prop
  | .next, ρ, σ => ∃ ρ₀, Sub ρ₀ ρ ∧ J ys ρ₀ σ
  | .cont, ρ, σ => ∃ ρ₀, Sub ρ₀ ρ ∧ J ys ρ₀ σ
  | .brk, ρ, σ => Q .next ρ σ
  | .ret v, ρ, σ => Q (.ret v) ρ σ
def ForB (X : Cx) (n : Nat) (v : V) (G : Bl) : Bl := fun ρ σ Q => ∃ (src : Src) (xs : List V) (J : List V → Loc → St → Prop), SrcV X σ v src ∧ (∃ ρ₀, Sub ρ₀ ρ ∧ J xs ρ₀ σ) ∧
  (∀ ys ρ σ, J ys ρ σ → SrcOk X σ src xs) ∧ (∀ y ys ρ σ, J (y :: ys) ρ σ → G (putS n y ρ) σ (turnF ys J Q)) ∧ ∀ ρ σ, J [] ρ σ → Q .next ρ σ
theorem S1_for {x : Str} {n : Nat} {e : Expr} {b : List Stmt} {pos pos' : Pos} {F : Tr V} {G : Bl} (hx : x = st n) (hn : Lhs fi n) (he : SE X r fi e F) (hb : SS X r fi b G) (hf : ∀ env v, foldedSetIterable e env v = pure v) :
    S1 X r fi (.For (.Name x pos') e b [] pos) (fun ρ σ Q => F ρ σ fun v σ₁ => ForB X n v G ρ σ₁ Q) := by
  subst hx
  intro A B env ρ σ s Qa Q E R I hF h
  refine wpAny_For (he A B env ρ σ s _ _ _ R I hF fun v y σ₁ h₁ k₁ iv ⟨src, xs, J, hv, ⟨ρ₀, hs, hJ⟩, hsrc, hstep, hend⟩ I₁ => ?_) (hf env)
  refine iter_sound (s := { s with heap := h₁, toks := k₁ }) I₁.mid iv hv (hsrc _ _ _ hJ) fun ob hit => ?_
  have I₂ := I₁.same (keep_push ob)
  have N₂ := I₁.nobody (get_size h₁)
  refine codeAny_forLoop_any (fun m s' => ∃ k ρ σ h tk, s' = { s with heap := h, toks := tk } ∧ Inv X B fi env ρ σ h ∧ Nobody B env σ h₁.objs.size ∧ IterAt h h₁.objs.size src k ∧ J (xs.drop k) ρ σ ∧ m = xs.length + 1 - k) ?_ (xs.length + 1)
    ⟨0, ρ₀, σ₁, h₁.push ob, k₁, rfl, I₂.sub hs, N₂, hit, by simpa using hJ, rfl⟩
  rintro m _ ⟨k, ρ, σ, h₂, k₂, rfl, I, N, hi, hJ, rfl⟩
  refine next_sound (s := { s with heap := h₂, toks := k₂ }) R I.mid hi (hsrc _ _ _ hJ) fun h₃ k₃ keep => ?_
  have I₃ := I.but N keep
  cases e : xs[k]? with
  | none =>
    have : xs.drop k = [] := by rw [List.drop_eq_nil_iff]; exact List.getElem?_eq_none_iff.mp e
    rw [this] at hJ
    exact wpAny_execs_nil (h .next .next ρ σ h₃ k₃ rfl (hend _ _ hJ) I₃)
  | some v =>
    intro z iz hi'
    obtain ⟨hk, ev⟩ := List.getElem?_eq_some_iff.mp e
    have ed : xs.drop k = v :: xs.drop (k + 1) := by rw [List.drop_eq_getElem_cons hk, ev]
    rw [ed] at hJ
    obtain ⟨ob', g1, g2⟩ := hi'.get
    have I₄ := I₃.add N g1
    refine wpAny_pure ?_
    refine wpAny_assign_Name ?_
    refine store_sound (s := { s with heap := h₃, toks := k₃ }) I₄ hn iz fun h₅ k₅ I₅ => ?_
    refine hb A (B.add h₁.objs.size ob') env _ σ { s with heap := h₅, toks := k₅ } _ _ _ R I₅ (hstep _ _ _ _ hJ) fun f g ρ₂ σ₂ h₆ k₆ fg hq I₆ => ?_
    obtain ⟨I₇, g3, N'⟩ := I₃.drop N I₆ (I.base_none N)
    cases f with
    | next => cases fg; obtain ⟨ρ₃, hs, hj⟩ := hq; exact ⟨_, by lia, k + 1, ρ₃, σ₂, h₆, k₆, rfl, I₇.sub hs, N', g2 _ g3, hj, rfl⟩
    | cont => cases fg; obtain ⟨ρ₃, hs, hj⟩ := hq; exact ⟨_, by lia, k + 1, ρ₃, σ₂, h₆, k₆, rfl, I₇.sub hs, N', g2 _ g3, hj, rfl⟩
    | brk => cases fg; exact h .next .next ρ₂ σ₂ h₆ k₆ rfl hq I₇
    | ret v => obtain ⟨x, rfl, iv⟩ := fg; exact h (.ret v) _ ρ₂ σ₂ h₆ k₆ ⟨x, rfl, iv⟩ hq I₇
end
/-! NK -/
section
variable {X : Cx} {r : Nat} {fi : Fi}
theorem draw_sound {A : Around} {E : Value → Shared → Prop} {B : Base} {env : Env} {ρ : Loc} {σ : St} {it : Addr} {src : Src} {xs : List V} (R : Room r A) (hs : SrcOk X σ src xs) (N : Nobody B env σ it) :
    ∀ (n k : Nat) (s : Shared) (Q : List Value → Shared → Prop), Inv X B fi env ρ σ s.heap → IterAt s.heap it src k → k + n ≤ xs.length →
      (∀ h' tk vs, Inv X B fi env ρ σ h' → IterAt h' it src (k + n) → AllIs ((xs.drop k).take n) vs → Q vs { s with heap := h', toks := tk }) → wpAny (model pw X.w) A (draw (.ref it) n) Q E s
  | 0, k, s, Q, I, hi, hk, h => by
    show wpAny _ _ (pure []) Q E s
    exact wpAny_pure (h s.heap s.toks [] I hi rfl)
  | n + 1, k, s, Q, I, hi, hk, h => by
    have hlt : k < xs.length := by lia
    show wpAny _ _ (pyNext (.ref it) >>= _) Q E s
    refine wpAny_bind (next_sound R I.mid hi hs fun h₁ k₁ keep => ?_)
    rw [List.getElem?_eq_getElem hlt]
    intro z iz hi'
    refine wpAny_bind (wpAny_holding (draw_sound R hs N n (k + 1) { s with heap := h₁, toks := k₁ } _ (I.but N keep) hi' (by lia) fun h₂ k₂ vs I₂ hi₂ av => wpAny_pure ?_))
    refine h h₂ k₂ (z :: vs) I₂ (by rw [show k + (n + 1) = k + 1 + n by lia]; exact hi₂) ?_
    rw [List.drop_eq_getElem_cons hlt, List.take_succ_cons]
    exact ⟨z, vs, rfl, iz, av⟩
theorem iterable {σ : St} {s : Shared} {v : V} {x : Value} {src : Src} {xs : List V} (M : Mid X σ s.heap) (iv : v.is x) (hv : SrcV X σ v src) (hs : SrcOk X σ src xs) : ∃ T id, s.TypeIs x T ∧ typeLookup (.type T) "__iter__" = pure (some (.builtin id)) := by
  cases v with
  | ref a =>
    cases iv
    cases src with
    | list b => cases hv; obtain ⟨vs, hl, ha⟩ := M.at hs; exact ⟨_, _, hl.isList.typeIs, PySem.F.slot_list_iter.lookup⟩
    | tup b => cases hv; obtain ⟨vs, hl, ha⟩ := M.at hs; exact ⟨_, _, hl.typeIs, PySem.F.slot_tuple_iter.lookup⟩
    | range i n => obtain ⟨hv, _⟩ := hv; obtain ⟨t, u, w, hr⟩ := M.at hv; exact ⟨"range", _, ⟨_, hr, rfl⟩, PySem.F.slot_range_iter.lookup⟩
  | _ => cases hv
theorem unpackItems_sound {A : Around} {E : Value → Shared → Prop} {s : Shared} {B : Base} {env : Env} {ρ : Loc} {σ : St} {v : V} {x : Value} {src : Src} {xs : List V} {n : Nat} {Q : List Value → Shared → Prop} (R : Room r A) (I : Inv X B fi env ρ σ s.heap) (iv : v.is x)
    (hv : SrcV X σ v src) (hs : SrcOk X σ src xs) (hn : xs.length = n) (h : ∀ h' tk vs, Inv X B fi env ρ σ h' → AllIs xs vs → Q vs { s with heap := h', toks := tk }) : wpAny (model pw X.w) A (unpackItems x n none) Q E s := by
  obtain ⟨T, id, hT, hl⟩ := iterable I.mid iv hv hs
  unfold unpackItems
  refine wpAny_bind ?_
  unfold notIterableAtAll
  refine wpAny_bind (wpAny_specialOf hT hl ?_)
  refine wpAny_pure ?_
  simp only [Bool.false_eq_true, if_false]
  refine wpAny_bind (wpAny_holding (iter_sound I.mid iv hv hs fun ob hit => ?_))
  have N := I.nobody (get_size s.heap)
  refine wpAny_bind (wpAny_holding (draw_sound R hs N n 0 { s with heap := s.heap.push ob } _ (I.same (keep_push ob)) hit (by lia) fun h₁ k₁ vs I₁ hi₁ av => ?_))
  have hx : (xs.drop 0).take n = xs := by rw [List.drop_zero]; exact List.take_of_length_le (by lia)
  rw [hx] at av
  rw [if_neg (by have := av.length; lia)]
  refine wpAny_bind (wpAny_holding (next_sound (s := { s with heap := h₁, toks := k₁ }) R I₁.mid hi₁ hs fun h₂ k₂ keep => ?_))
  rw [List.getElem?_eq_none (by lia)]
  simp only [Option.isSome_none, Bool.false_eq_true, if_false]
  exact wpAny_pure (h h₂ k₂ vs (I₁.but N keep) av)
/-! names taken at once -/
noncomputable def putMany : List Nat → List V → Loc → Loc
  | n :: ns, v :: vs, ρ => putMany ns vs (putS n v ρ)
  | _, _, ρ => ρ
inductive NamesE (fi : Fi) : List Expr → List Nat → Prop
  | nil : NamesE fi [] []
  | cons {x : Str} {p : Pos} {n : Nat} {es : List Expr} {ns : List Nat} : x = st n → Lhs fi n → NamesE fi es ns → NamesE fi (.Name x p :: es) (n :: ns)
theorem NamesE.stores {env : Env} {es : List Expr} {ns : List Nat} (h : NamesE fi es ns) : (assignEach es env).findIdx? (·.1) = none ∧ (assignEach es env).length = ns.length := by
  induction h with
  | nil => exact ⟨rfl, rfl⟩
  | @cons x p n es ns hx hl h ih =>
    have e : assignEach (.Name x p :: es) env = (false, assign (.Name x p) env) :: assignEach es env := rfl
    rw [e]
    exact ⟨by rw [List.findIdx?_cons]; simp [ih.1], by simp [ih.2]⟩
theorem assigns_sound {A : Around} {E : Value → Shared → Prop} {B : Base} {env : Env} {es : List Expr} {ns : List Nat} (h : NamesE fi es ns) : ∀ {vs : List V} {xs : List Value} {ρ : Loc} {σ : St} {s : Shared} {Q : Unit → Shared → Prop}, AllIs vs xs → vs.length = ns.length → Inv X B fi env ρ σ s.heap →
    (∀ h' tk, Inv X B fi env (putMany ns vs ρ) σ h' → Q () { s with heap := h', toks := tk }) → wpAny (model pw X.w) A (assignInOrder ((assignEach es env).map (·.2)) xs) Q E s := by
  induction h with
  | nil =>
    intro vs xs ρ σ s Q a hl I h
    cases vs with
    | nil => cases a; exact wpAny_pure (h s.heap s.toks I)
    | cons _ _ => cases hl
  | @cons x p n es ns hx hl hn ih =>
    intro vs xs ρ σ s Q a hlen I h
    cases vs with
    | nil => cases hlen
    | cons v vs =>
      obtain ⟨y, ys, rfl, iv, a⟩ := a
      subst hx
      show wpAny _ _ (holding ys (assign (.Name (st n) p) env y) >>= fun _ => assignInOrder ((assignEach es env).map (·.2)) ys) Q E s
      refine wpAny_bind (wpAny_holding (wpAny_assign_Name (store_sound I hl iv fun h₁ k₁ I₁ => ?_)))
      exact ih (s := { s with heap := h₁, toks := k₁ }) a (by simpa using hlen) I₁ fun h' tk I' => h h' tk I'
theorem S1_unpack {es : List Expr} {ns : List Nat} {val : Expr} {k : Nat} {tpos pos : Pos} {F : Tr V} (hN : NamesE fi es ns) (hv : SE X r fi val F) (hs : ∀ env, swapsWithSole [.Tuple es k tpos] val pos.line env = pure false)
    (hw : ∀ env, swappedStores [.Tuple es k tpos] val env = pure none) :
    S1 X r fi (.Assign [.Tuple es k tpos] val pos) (fun ρ σ Q => F ρ σ fun v σ₁ => ∃ src xs, SrcV X σ₁ v src ∧ SrcOk X σ₁ src xs ∧ xs.length = ns.length ∧ Q .next (putMany ns xs ρ) σ₁) := by
  intro A B env ρ σ s Qa Q E R I hF h
  refine wpAny_Assign_stores ?_ (hs env) (hw env)
  refine hv A B env ρ σ s _ _ _ R I hF fun v y σ₁ h₁ k₁ iv ⟨src, xs, h1, h2, h3, hq⟩ I₁ => ?_
  show wpAny _ _ (assign (.Tuple es k tpos) env y) _ _ _
  rw [arm_assign_Tuple]
  refine wpAny_bind (wpAny_standAt ?_)
  obtain ⟨q1, q2⟩ := hN.stores (env := env)
  unfold unpack
  rw [q1, q2]
  refine wpAny_bind (wpAny_holding (unpackItems_sound (s := { s with heap := h₁, toks := k₁ }) R I₁ iv h1 h2 h3 fun h₂ k₂ vs I₂ av => ?_))
  exact assigns_sound (s := { s with heap := h₂, toks := k₂ }) hN av h3 I₂ fun h' tk I' => h .next .next _ σ₁ h' tk rfl hq I'

/-- names' stores turned about -/
theorem binds_sound {A : Around} {E : Value → Shared → Prop} {B : Base} {env : Env} : ∀ {ns : List Nat} {vs : List V} {xs : List Value} {ρ : Loc} {σ : St} {s : Shared} {Q : Unit → Shared → Prop}, (∀ n ∈ ns, Lhs fi n) → AllIs vs xs → vs.length = ns.length → Inv X B fi env ρ σ s.heap →
    (∀ h' tk, Inv X B fi env (putMany ns vs ρ) σ h' → Q () { s with heap := h', toks := tk }) → wpAny (model pw X.w) A (assignInOrder (ns.map fun n => bindName env (st n)) xs) Q E s := by
  intro ns
  induction ns with
  | nil =>
    intro vs xs ρ σ s Q _ a hl I h
    cases vs with
    | nil => cases a; exact wpAny_pure (h s.heap s.toks I)
    | cons _ _ => cases hl
  | cons n ns ih =>
    intro vs xs ρ σ s Q hn a hlen I h
    cases vs with
    | nil => cases hlen
    | cons v vs =>
      obtain ⟨y, ys, rfl, iv, a⟩ := a
      show wpAny _ _ (holding ys (bindName env (st n) y) >>= fun _ => assignInOrder (ns.map fun n => bindName env (st n)) ys) Q E s
      refine wpAny_bind (wpAny_holding (wpAny_bindName (store_sound I (hn _ List.mem_cons_self) iv fun h₁ k₁ I₁ => ?_)))
      exact ih (s := { s with heap := h₁, toks := k₁ }) (fun k hk => hn k (List.mem_cons_of_mem _ hk)) a (by simpa using hlen) I₁ fun h' tk I' => h h' tk I'
theorem AllIs.reverse : ∀ {vs : List V} {xs : List Value}, AllIs vs xs → AllIs vs.reverse xs.reverse
  | [], _, h => by cases h; rfl
  | v :: vs, _, ⟨x, xs, e, iv, h⟩ => by subst e; rw [List.reverse_cons, List.reverse_cons]; exact h.reverse.append (AllIs.one iv)
/-- a frame that has the names of fi -/
noncomputable def envFi (fi : Fi) : Env := { scope := ⟨.function, fi.ks.map (fun p => (st p.1, p.2)), false, false, []⟩, locals := 0, globals := 0, cells := [] }
theorem swap_env {ts : List Expr} {v : Expr} {env : Env} (ok : EnvOk fi env) : swappedStores ts v env = swappedStores ts v (envFi fi) := by
  have e1 : env.kindOf = (envFi fi).kindOf := by
    funext n
    unfold Env.kindOf
    rw [ok.names]
    rfl
  have e2 : env.blockKind = (envFi fi).blockKind := by
    unfold Env.blockKind
    rw [ok.kind]
    rfl
  unfold swappedStores
  rw [e1, e2]
theorem S1_swap {es : List Expr} {ns : List Nat} {val : Expr} {k : Nat} {tpos pos : Pos} {F : Tr V} (hn : ∀ n ∈ ns, Lhs fi n) (hv : SE X r fi val F) (hs : ∀ env, swapsWithSole [.Tuple es k tpos] val pos.line env = pure false)
    (hw : swappedStores [.Tuple es k tpos] val (envFi fi) = pure (some (ns.map st))) :
    S1 X r fi (.Assign [.Tuple es k tpos] val pos) (fun ρ σ Q => F ρ σ fun v σ₁ => ∃ src xs, SrcV X σ₁ v src ∧ SrcOk X σ₁ src xs ∧ xs.length = ns.length ∧ Q .next (putMany ns.reverse xs.reverse ρ) σ₁) := by
  intro A B env ρ σ s Qa Q E R I hF h
  refine PyProof.Rows.Assign_Tuple_swapped ?_ (hs env) ((swap_env I.eok).trans hw)
  refine hv A B env ρ σ s _ _ _ R I hF fun v y σ₁ h₁ k₁ iv ⟨src, xs, h1, h2, h3, hq⟩ I₁ => ?_
  refine unpackItems_sound (s := { s with heap := h₁, toks := k₁ }) R I₁ iv h1 h2 (by rw [List.length_map]; exact h3) fun h₂ k₂ vs I₂ av => ?_
  have e : ((ns.map st).reverse.map fun n => bindName env n) = ns.reverse.map fun n => bindName env (st n) := by rw [← List.map_reverse, List.map_map]; rfl
  rw [e]
  exact binds_sound (s := { s with heap := h₂, toks := k₂ }) (fun n hm => hn n (List.mem_reverse.mp hm)) av.reverse (by simp [h3]) I₂ fun h' tk I' => h .next .next _ σ₁ h' tk rfl hq I'
end
/-! NL -/
structure DefOk (P : Params) (f : Addr) (q : Nat) (S : Stmt) (fi : Fi) (ns : List Nat) : Prop where
  fn : FnOk (KK P) f q S
  names : (fScope S).names = fi.ks.map (fun p => (st p.1, p.2))
  kind : (fScope S).kind = .function
  co : (fScope S).isCoroutine = false
  gen : (fScope S).isGenerator = false
  bind : ∀ (nm : Str) (doc pm cd : Value) (vals : List Value), vals.length = ns.length → bindArgs (fnOf nm (st q) (fArgs S) (fBody S) (fScope S) .none .none doc pm none cd .none) ⟨vals, []⟩ = pure ((ns.map st).zip vals)
  par : ∀ n ∈ ns, fi.ks.lookup n = some .local ∨ fi.ks.lookup n = some .cell
  own : fi.own = true
/-- what a def's end gives -/
noncomputable def endB (Q : V → St → Prop) : Fl → Loc → St → Prop
  | .next, _, σ => Q .none σ
  | .ret v, _, σ => Q v σ
  | .brk, _, _ => False
  | .cont, _, _ => False
theorem cells_has : ∀ (names : List (Str × NameKind)) (k : Nat) (acc : List (Str × Addr)) (n : Str), names.lookup n = some .cell ∨ (acc.lookup n).isSome = true → ((cellsFrom k names acc).lookup n).isSome = true
  | [], k, acc, n, h => by
    rcases h with h | h
    · cases h
    · exact h
  | (m, kd) :: r, k, acc, n, h => by
    unfold cellsFrom
    rw [List.lookup_cons] at h
    by_cases q : n = m
    · subst q
      simp only [beq_self_eq_true] at h
      rcases h with h | h
      · cases h
        rw [if_pos (by rfl)]
        exact cells_has r _ _ n (.inr (by rw [List.lookup_cons]; simp))
      · split
        · exact cells_has r _ _ n (.inr (by rw [List.lookup_cons]; simp))
        · exact cells_has r _ _ n (.inr h)
    · rw [beq_eq_false_iff_ne.mpr q] at h
      split
      · refine cells_has r _ _ n (h.imp id fun h => ?_)
        rw [List.lookup_cons, beq_eq_false_iff_ne.mpr q]; exact h
      · exact cells_has r _ _ n (h.imp id id)
theorem bindL_rel {fi : Fi} {kd : Str → Option NameKind} (hk : ∀ n, kd (st n) = fi.ks.lookup n) : ∀ (ns : List Nat) (vs : List V) (xs : List Value) (m : Str → Option Value) (ρ : Loc), AllIs vs xs →
    (∀ k u, ρ.lookup k = some u → fi.ks.lookup k = some .local → ∃ y, m (st k) = some y ∧ u.is y) →
    ∀ k u, (putMany ns vs ρ).lookup k = some u → fi.ks.lookup k = some .local → ∃ y, bindL kd ((ns.map st).zip xs) m (st k) = some y ∧ u.is y
  | [], vs, xs, m, ρ, _, h => by
    intro k u e
    have : putMany [] vs ρ = ρ := by cases vs <;> rfl
    rw [this] at e
    exact h k u e
  | n :: ns, [], xs, m, ρ, a, h => by
    cases a
    exact h
  | n :: ns, v :: vs, _, m, ρ, ⟨x, xs, e, iv, a⟩, h => by
    subst e
    refine bindL_rel hk ns vs xs _ (putS n v ρ) a fun k u e kk => ?_
    rw [lookup_putS] at e
    by_cases q : k = n
    · subst q
      rw [if_pos rfl] at e; cases e
      rw [if_pos ((hk k).trans kk)]
      exact ⟨x, by simp, iv⟩
    · rw [if_neg q] at e
      obtain ⟨y, h1, h2⟩ := h k u e kk
      refine ⟨y, ?_, h2⟩
      split
      · exact (if_neg fun z => q (st_inj z)).trans h1
      · exact h1
theorem bindC_rel {fi : Fi} {kd : Str → Option NameKind} (hk : ∀ n, kd (st n) = fi.ks.lookup n) : ∀ (ns : List Nat) (vs : List V) (xs : List Value) (m : Str → Option Value) (ρ : Loc), AllIs vs xs →
    (∀ k u, ρ.lookup k = some u → fi.ks.lookup k = some .cell → ∃ y, m (st k) = some y ∧ u.is y) →
    ∀ k u, (putMany ns vs ρ).lookup k = some u → fi.ks.lookup k = some .cell → ∃ y, bindC kd ((ns.map st).zip xs) m (st k) = some y ∧ u.is y
  | [], vs, xs, m, ρ, _, h => by
    intro k u e
    have : putMany [] vs ρ = ρ := by cases vs <;> rfl
    rw [this] at e
    exact h k u e
  | n :: ns, [], xs, m, ρ, a, h => by
    cases a
    exact h
  | n :: ns, v :: vs, _, m, ρ, ⟨x, xs, e, iv, a⟩, h => by
    subst e
    refine bindC_rel hk ns vs xs _ (putS n v ρ) a fun k u e kk => ?_
    rw [lookup_putS] at e
    by_cases q : k = n
    · subst q
      rw [if_pos rfl] at e; cases e
      rw [if_neg (by rw [hk, kk]; decide)]
      exact ⟨x, by simp, iv⟩
    · rw [if_neg q] at e
      obtain ⟨y, h1, h2⟩ := h k u e kk
      refine ⟨y, ?_, h2⟩
      split
      · exact h1
      · exact (if_neg fun z => q (st_inj z)).trans h1
theorem mem_zip_left {α β : Type} : ∀ {l : List α} {m : List β} {p : α × β}, p ∈ l.zip m → p.1 ∈ l
  | [], _, _, h => by simp at h
  | _ :: _, [], _, h => by simp at h
  | a :: l, b :: m, p, h => by
    rw [List.zip_cons_cons] at h
    rcases List.mem_cons.mp h with rfl | h
    · exact List.mem_cons_self
    · exact List.mem_cons_of_mem _ (mem_zip_left h)
section
variable {X : Cx} {r : Nat} {fi : Fi}
/-- a call, as the machine's code -/
def SD (X : Cx) (r : Nat) (f : Value) (T : List V → St → (V → St → Prop) → Prop) : Prop :=
  ∀ (A : Around) (vs : List V) (xs : List Value) (σ : St) (s : Shared) (Qa : V → St → Prop) (Rs : Result → Shared → Prop), Room r A → Mid X σ s.heap → AllIs vs xs → T vs σ Qa →
    (∀ v x σ' h' tk, v.is x → Qa v σ' → Sim X.w σ' h' → Ext σ s.heap.get? σ' h' → Rs (.ok (.ret x)) { s with heap := h', toks := tk }) → codeAny (model pw X.w) A (.call f ⟨xs, []⟩) Rs s
theorem SD.sc {f : Value} {T : List V → St → (V → St → Prop) → Prop} (h : SD X r f T) : SC X r f T :=
  fun A vs xs σ s Qa Q E R M ia hT hq => wpAny_call (h A vs xs σ s Qa _ R M ia hT hq)
theorem SD.conv {f : Value} {T U : List V → St → (V → St → Prop) → Prop} (h : SD X r f T) (hT : ∀ vs σ Q, U vs σ Q → T vs σ Q) : SD X r f U :=
  fun A vs xs σ s Qa Rs R M ia hU hq => h A vs xs σ s Qa Rs R M ia (hT _ _ _ hU) hq
theorem SD_def {f : Addr} {q : Nat} {S : Stmt} {ns : List Nat} {F : Bl} (D : DefOk X.w.params f q S fi ns) (hb : SS X r fi (fBody S) F) :
    SD X (r + 3) (.ref f) (fun vs σ Q => vs.length = ns.length ∧ F (putMany ns vs []) σ (endB Q)) := by
  intro A vs xs σ s Qa Rs R M ia ⟨hlen, hF⟩ h
  obtain ⟨p, loose, mean, mg, mb, T⟩ := X.top
  obtain ⟨nm, doc, pm, cd, ho, hc⟩ := D.fn.look
  have kp : ∀ b o, X.hb.get? b = some o → s.heap.get? b = some o := fun b o e => (M.kept b o e).1
  have hlx : xs.length = ns.length := by rw [ia.length, hlen]
  have lk : ∀ n, (fScope S).names.lookup (st n) = fi.ks.lookup n := fun n => by rw [D.names, lookup_st]
  refine codeAny_call_cells (fd := fnOf nm (st q) (fArgs S) (fBody S) (fScope S) .none .none doc pm none cd .none) (by have := R.d; lia) (M.K _ _ ho) rfl (T.nolimit.keeps kp) (codeRec_of M.K hc) rfl (D.bind nm doc pm cd xs hlx) rfl
    (fun y hy => ?_) (fun s₁ Y => ?_) D.co D.gen D.kind
  · obtain ⟨n, hn, e⟩ := List.mem_map.mp (mem_zip_left hy)
    rw [← e]
    show (fScope S).names.lookup (st n) = _ ∨ (fScope S).names.lookup (st n) = _ ∧ _
    rcases D.par n hn with k | k
    · exact .inl ((lk n).trans k)
    · exact .inr ⟨(lk n).trans k, cells_has _ _ _ _ (.inl ((lk n).trans k))⟩
  · generalize he : callEnvC (fnOf nm (st q) (fArgs S) (fBody S) (fScope S) .none .none doc pm none cd .none) s.heap.objs.size f = env at Y ⊢
    have ek : EnvOk fi env := by subst he; exact ⟨D.kind, D.names, rfl, rfl⟩
    have ec : env.cells = cellsFrom (s.heap.objs.size + 1) (fScope S).names [] := by subst he; rfl
    have el : env.locals = s.heap.objs.size := by subst he; rfl
    clear he
    obtain ⟨h₁, k₁, rfl⟩ := Y.toInCall.same
    have keep := Y.toInCall.keep
    have hi : ∀ c n, env.cells.lookup n = some c → s.heap.get? c = none ∧ c ≠ env.locals := fun c n e => by
      have := Y.above n c (PySem.mem_of_lookup e)
      refine ⟨?_, Nat.ne_of_gt this⟩
      cases e' : s.heap.get? c with
      | none => rfl
      | some o =>
        have h2 := Heap.lt_size e'
        have h3 : s.heap.objs.size < c := by rw [el] at this; exact this
        exact absurd h2 (Nat.lt_asymm h3)
    have I : Inv X ⟨σ, s.heap.get?⟩ fi env (putMany ns vs []) σ h₁ :=
      { eok := ek
        base := M.kept
        sim := M.sim.same keep
        ext := .keep keep
        loc := ⟨_, Y.toInCall.ns, bindL_rel ek.kindOf ns vs xs _ [] ia fun k u e => by cases e⟩
        cel := fun n hn => by
          have := cells_has (fScope S).names (s.heap.objs.size + 1) [] (st n) (.inl ((lk n).trans hn))
          rw [← ec] at this
          obtain ⟨c, hc⟩ := Option.isSome_iff_exists.mp this
          exact ⟨c, _, hc, Y.cell _ _ hc, fun v e => bindC_rel ek.kindOf ns vs xs _ [] ia (fun k u e => by cases e) n v e hn⟩
        newL := by rw [el]; exact get_size _
        apL := by rw [el]; exact M.sim.fresh
        apC := fun n c hc => by
          obtain ⟨a, b⟩ := hi c n hc
          refine ⟨?_, b, fun _ => a, _, Y.cell _ _ hc⟩
          cases e : σ c with
          | none => rfl
          | some o => obtain ⟨ob, e'⟩ := (M.sim _ _ e).some; rw [a] at e'; cases e'
        inj := fun n n' c a b => name_of_addr Y.apart (PySem.mem_of_lookup a) (PySem.mem_of_lookup b) }
    refine hb (A.deeper env) _ env _ σ { s with heap := h₁, toks := k₁ } _ _ _ ⟨?_, ?_, R.h⟩ I hF fun f g ρ' σ' h' tk fg hq I' => ?_
    · show A.depth + 1 + r < _; have := R.d; lia
    · show A.units + 3 + r < _; have := R.u; lia
    · cases f with
      | next => cases fg; exact h .none .none σ' h' tk is_none hq I'.sim I'.ext
      | brk => exact hq.elim
      | cont => exact hq.elim
      | ret v => obtain ⟨x, rfl, iv⟩ := fg; exact h v x σ' h' tk iv hq I'.sim I'.ext
theorem SC_def {f : Addr} {q : Nat} {S : Stmt} {ns : List Nat} {F : Bl} (D : DefOk X.w.params f q S fi ns) (hb : SS X r fi (fBody S) F) :
    SC X (r + 3) (.ref f) (fun vs σ Q => vs.length = ns.length ∧ F (putMany ns vs []) σ (endB Q)) := (SD_def D hb).sc
theorem SC.le {r' : Nat} {f : Value} {T : List V → St → (V → St → Prop) → Prop} (h : SC X r f T) (hr : r ≤ r') : SC X r' f T :=
  fun A vs xs σ s Qa Q E R M ia hT hq => h A vs xs σ s Qa Q E (R.le hr) M ia hT hq
theorem SC.conv {f : Value} {T U : List V → St → (V → St → Prop) → Prop} (h : SC X r f T) (hT : ∀ vs σ Q, U vs σ Q → T vs σ Q) : SC X r f U :=
  fun A vs xs σ s Qa Q E R M ia hU hq => h A vs xs σ s Qa Q E R M ia (hT _ _ _ hU) hq
end
/-! NM -/
theorem SEnts.miss {P : Params} {n : Nat} : ∀ {es : List (Nat × V)} {des : List DictEntry}, SEnts P es des → es.lookup n = none → getL (st n) des = some none
  | [], _, h, _ => by cases h; rfl
  | (m, u) :: es, _, ⟨t, x, es', e, hx, h⟩, hl => by
    subst e
    rw [List.lookup_cons] at hl
    have e := isStr_st m n t
    by_cases q : m = n
    · subst q; simp at hl
    · rw [beq_eq_false_iff_ne.mpr (Ne.symm q)] at hl
      have ih := h.miss hl
      unfold getL at ih ⊢
      rw [List.find?_cons]
      simp only [e, beq_eq_false_iff_ne.mpr q]
      exact ih
section
variable {X : Cx} {r : Nat} {fi : Fi}
/-- a method of one of ours -/
def MethB (X : Cx) (C : Addr) (n : Nat) (a : V) (σ : St) : Prop := ∃ o d es, a = .ref o ∧ rd X σ o = some (.inst C d) ∧ rd X σ d = some (.sdict es) ∧ es.lookup n = none
theorem meth_get {A : Around} {E : Value → Shared → Prop} {s : Shared} {B : Base} {env : Env} {ρ : Loc} {σ : St} {C f : Addr} {n : Nat} {a : V} {x : Value} {pl : Sem Bool} {Q : Value × List Value → Shared → Prop} (I : Inv X B fi env ρ σ s.heap)
    (hm : (C, n, f) ∈ methT) (h : MethB X C n a σ) (ia : a.is x) (hq : Q (.ref f, [x]) s) : wpAny (model pw X.w) A (getMethod x (st n) pl) Q E s := by
  obtain ⟨o, d, es, rfl, h1, h2, h3⟩ := h
  cases ia
  obtain ⟨ck, q1, q2, q3⟩ := meth_ok X.w.params _ hm
  obtain ⟨des, k, g2, g3⟩ := I.at h2
  have g1 := I.at h1
  have pg := ck.get (st n)
  unfold plainGet at pg
  rw [Bool.and_eq_true] at pg
  exact method_fn (od := some (dictOf des k)) (ox := instObj C d) I.K ⟨g1, rfl, rfl, g2⟩ (beq_iff_eq.mp pg.1) (beq_iff_eq.mp pg.2) q1 (beq_iff_eq.mp q2) (by show (lookIn _ (dictOf des k)).map _ = _; rw [lookIn_dict, g3.miss h3]; rfl) hq
theorem SE_meth {o e : Expr} {es : List Expr} {x : Str} {n : Nat} {C f : Addr} {apos pos : Pos} {F : Tr V} {G : Tr (List V)} {T : List V → St → (V → St → Prop) → Prop} (hx : x = st n) (hm : (C, n, f) ∈ methT) (hC : SC X r (.ref f) T) (ho : SE X r fi o F) (ha : SL X r fi (e :: es) G)
    (hb : NotCall o) (hl : (apos.endLine == pos.line) = true) (hs : ∀ env, starEach (e :: es) env = (false, eval e env) :: starEach es env) (hp : ∀ env pos, (backTo pos (starEach es env)).all (fun p => !p.1) = true)
    (hn : (e :: es).length < 25) :
    SE X r fi (.Call (.Attribute o x apos) (e :: es) [] pos) (fun ρ σ Q => F ρ σ fun a σ₁ => MethB X C n a σ₁ ∧ G ρ σ₁ fun vs σ₂ => T (a :: vs) σ₂ Q) := by
  subst hx
  intro A B env ρ σ s Qa Q E R I hF h
  have sp : backTo pos (starEach (e :: es) env) = (false, eval e env) :: backTo pos (starEach es env) := by rw [hs]; rfl
  have few : methodCallForm ((e :: es).length + ([] : List Keyword).length) (backTo pos (starEach (e :: es) env)) (backToKw pos (keywordEach [] env)) = true := by
    unfold methodCallForm
    rw [sp, List.all_cons, hp]
    exact decide_eq_true (show (e :: es).length + 0 + 0 < 30 by lia)
  rw [PySem.arm_eval_Call, base_plain hb]
  refine wpAny_bind (ho A B env ρ σ s _ _ _ R I hF fun a y σ₁ h₁ k₁ ia ⟨hM, hG⟩ I₁ => ?_)
  refine wpAny_bind (wpAny_standAt ?_)
  unfold methodCall
  rw [few]
  refine wpAny_bind (wpAny_holding ?_)
  show wpAny _ _ (getMethod y (st n) _) _ _ _
  refine meth_get (s := { s with heap := h₁, toks := k₁ }) I₁ hm hM ia ?_
  unfold methodCallPos
  rw [if_pos (by rw [hl]; rfl)]
  refine wpAny_bind (wpAny_pure ?_)
  have key : wpAny (model pw X.w) A (evalArgs (.ref f) true (backTo pos (starEach (e :: es) env)) []) (fun a s₁ => (KK X.w.params).In s₁.heap ∧ wpAny (model pw X.w) A (call (.ref f) ([y] ++ a.pos) a.kw) Q E s₁) E { s with heap := h₁, toks := k₁ } := by
    have ev := ha A B env pos ρ σ₁ { s with heap := h₁, toks := k₁ } (fun vs σ₂ => T (a :: vs) σ₂ Qa) (fun vs s₁ => (KK X.w.params).In s₁.heap ∧ wpAny (model pw X.w) A (call (.ref f) ([y] ++ vs) []) Q E s₁) E R I₁ hG fun vs xs σ₂ h₂ k₂ iv hT I₂ =>
      ⟨I₂.K, hC A (a :: vs) (y :: xs) σ₂ { s with heap := h₂, toks := k₂ } Qa Q E R I₂.mid ⟨y, xs, rfl, ia, iv⟩ hT fun v z σ₃ h₃ k₃ iv hq S₃ x₃ => h v z σ₃ h₃ k₃ iv hq (I₂.step S₃ x₃)⟩
    rw [sp] at ev ⊢
    exact Calls.evalArgs_plain ev
  obtain ⟨_, _, _, kf⟩ := meth_ok X.w.params _ hm
  refine callWith_of (P := (KK X.w.params).In) ?_ (keeps_r (X := X) kf) key
  rw [sp, List.any_cons]
  have : (backTo pos (starEach es env)).any (·.1) = false := by
    have := hp env pos
    rw [List.all_eq_true] at this
    rw [List.any_eq_false]
    intro p hp'
    simpa using this p hp'
  rw [this]; rfl
theorem SE_meth0 {o : Expr} {x : Str} {n : Nat} {C f : Addr} {apos pos : Pos} {F : Tr V} {T : List V → St → (V → St → Prop) → Prop} (hx : x = st n) (hm : (C, n, f) ∈ methT) (hC : SC X r (.ref f) T) (ho : SE X r fi o F)
    (hb : NotCall o) (hl : (apos.endLine == pos.line) = true) :
    SE X r fi (.Call (.Attribute o x apos) [] [] pos) (fun ρ σ Q => F ρ σ fun a σ₁ => MethB X C n a σ₁ ∧ T [a] σ₁ Q) := by
  subst hx
  intro A B env ρ σ s Qa Q E R I hF h
  rw [PySem.arm_eval_Call, base_plain hb]
  refine wpAny_bind (ho A B env ρ σ s _ _ _ R I hF fun a y σ₁ h₁ k₁ ia ⟨hM, hT⟩ I₁ => ?_)
  refine wpAny_bind (wpAny_standAt ?_)
  show wpAny _ _ (methodCall o (st n) apos pos env y 0 [] []) _ _ _
  unfold methodCall
  refine wpAny_bind (wpAny_holding ?_)
  show wpAny _ _ (getMethod y (st n) _) _ _ _
  refine meth_get (s := { s with heap := h₁, toks := k₁ }) I₁ hm hM ia ?_
  unfold methodCallPos
  rw [if_pos (by rw [hl]; rfl)]
  refine wpAny_bind (wpAny_pure ?_)
  obtain ⟨_, _, _, kf⟩ := meth_ok X.w.params _ hm
  refine callWith_of (P := (KK X.w.params).In) rfl (keeps_r (X := X) kf) (evalArgs_empty ⟨I₁.K, ?_⟩)
  exact hC A [a] [y] σ₁ { s with heap := h₁, toks := k₁ } Qa Q E R I₁.mid ⟨y, [], rfl, ia, rfl⟩ hT fun v z σ₃ h₃ k₃ iv hq S₃ x₃ => h v z σ₃ h₃ k₃ iv hq (I₁.step S₃ x₃)

/-! objects made -/
theorem callW (C : Addr) (xs : List Value) : (Code.builtin "type.__call__" ⟨.ref C :: xs, []⟩).weight = 1 := by kernel_rfl!
theorem callU (args : Args) : (Code.builtin "type.__call__" args).cUnits = 1 := by kernel_rfl!
theorem SC_class {C fI : Addr} {T : List V → St → (V → St → Prop) → Prop} (ck : ClsOk (KK X.w.params) C) (hi : findIn (KK X.w.params) (.ref C) "__init__" = some (some (.ref fI))) (hf : isFn (KK X.w.params) (.ref fI) = true) (hC : SD X r (.ref fI) T) :
    SC X (r + 3) (.ref C) (fun vs σ Q => ∀ a d, rd X σ a = none → rd X σ d = none → σ a = none → σ d = none → a ≠ d → a ≠ 1 → d ≠ 1 → T (.ref a :: vs) (upd (upd σ d (.sdict [])) a (.inst C d)) fun v σ' => v = .none ∧ Q (.ref a) σ') := by
  intro A vs xs σ s Qa Q E R M ia hT h
  obtain ⟨hh, g, dr, t, os⟩ := s
  have n1 : hh.get? hh.objs.size = none := get_size hh
  have n2 : hh.get? (hh.objs.size + 1) = none := by
    cases e : hh.get? (hh.objs.size + 1) with
    | none => rfl
    | some o => exact absurd (Heap.lt_size e) (Nat.not_lt.mpr (Nat.le_succ _))
  have f2 : σ (hh.objs.size + 1) = none := by
    cases e : σ (hh.objs.size + 1) with
    | none => rfl
    | some o => obtain ⟨ob, e'⟩ := (M.sim _ _ e).some; rw [n2] at e'; cases e'
  have big : 1 < hh.objs.size := by have := Heap.lt_size (M.K 3 (ko_3 X.w.params) (k3 X.w.params)); exact Nat.lt_trans (by decide) this
  have hT' := hT (hh.objs.size + 1) hh.objs.size (M.rd_new n2) (M.rd_new n1) f2 M.sim.fresh (Nat.succ_ne_self _) (Nat.ne_of_gt (Nat.lt_succ_of_lt big)) (Nat.ne_of_gt big)
  have g1 : (hh.push emptyDict).get? hh.objs.size = some emptyDict := Heap.get?_push_size _ rfl
  have k1 := keep_push (h := hh) emptyDict
  have k2 := keep_push (h := hh.push emptyDict) (instObj C hh.objs.size)
  have sz : (hh.push emptyDict).objs.size = hh.objs.size + 1 := Heap.size_push ..
  have S1 : Sim X.w (upd σ hh.objs.size (.sdict [])) (hh.push emptyDict) := M.sim.new k1 ⟨[], 0, g1, rfl⟩
  have x1 : Ext σ hh.get? (upd σ hh.objs.size (.sdict [])) (hh.push emptyDict) := .new n1 k1
  have S2 : Sim X.w (upd (upd σ hh.objs.size (.sdict [])) (hh.objs.size + 1) (.inst C hh.objs.size)) ((hh.push emptyDict).push (instObj C hh.objs.size)) := by
    refine S1.new k2 ?_
    show Heap.get? _ _ = _
    rw [← sz]
    exact Heap.get?_push_size _ rfl
  have x2 : Ext (upd σ hh.objs.size (.sdict [])) (hh.push emptyDict).get? (upd (upd σ hh.objs.size (.sdict [])) (hh.objs.size + 1) (.inst C hh.objs.size)) ((hh.push emptyDict).push (instObj C hh.objs.size)) :=
    .new (by rw [← sz]; exact get_size _) k2
  refine wpAny_call (make_core (makes_of M.K ck.makes) (looks_findIn M.K hi) (fun self => bind_fn M.K self (beq_iff_eq.mp hf)) (.inl rfl) ?_)
  have w1 := callW C xs
  have w2 := callU ⟨.ref C :: xs, []⟩
  have iv : AllIs (.ref (hh.objs.size + 1) :: vs) (.ref (hh.objs.size + 1) :: xs) := ⟨_, _, rfl, rfl, ia⟩
  refine hC _ _ _ _ _ _ _ ⟨?_, ?_, R.h⟩ (M.step S2 (x1.trans x2)) iv hT' fun v x σ' h' tk iv ⟨hv, hq⟩ S' x' => ?_
  · show A.depth + (Code.builtin "type.__call__" ⟨.ref C :: xs, []⟩).weight + r < _; rw [w1]; have := R.d; lia
  · show A.units + (Code.builtin "type.__call__" ⟨.ref C :: xs, []⟩).cUnits + r < _; rw [w2]; have := R.u; lia
  · subst hv
    cases iv
    exact ⟨rfl, h _ _ σ' h' tk (is_ref _) hq S' ((x1.trans x2).trans x')⟩
end
/-! NN -/
/-! comprehensions -/
noncomputable def closGo (env : Env) : List (Str × NameKind) → List (Str × Addr) → List (Str × Addr)
  | [], cs => cs
  | (n, k) :: r, cs => if k == .free then closGo env r ((n, (env.cells.lookup n).getD 0) :: cs) else closGo env r cs
theorem closure_forIn {env : Env} : ∀ (names : List (Str × NameKind)) (cs : List (Str × Addr)), (∀ x ∈ names, x.2 = .free → ∃ c, env.cells.lookup x.1 = some c) →
    (forIn names cs fun (x : Str × NameKind) (c : List (Str × Addr)) => (if (x.2 == NameKind.free) = true then do let a ← cellOf env x.1; pure (ForInStep.yield ((x.1, a) :: c)) else pure (ForInStep.yield c) : Sem _)) = pure (closGo env names cs)
  | [], cs, _ => by rw [List.forIn_nil]; rfl
  | (n, k) :: r, cs, h => by
    rw [List.forIn_cons]
    unfold closGo
    by_cases q : (k == NameKind.free) = true
    · obtain ⟨c, hc⟩ := h _ List.mem_cons_self (by simpa using q)
      rw [if_pos q, if_pos q]
      have e : cellOf env n = pure c := by unfold cellOf; rw [show env.cells.lookup n = some c from hc]
      rw [show env.cells.lookup n = some c from hc, e]
      exact closure_forIn r _ fun x hx => h x (List.mem_cons_of_mem _ hx)
    · rw [if_neg q, if_neg q]
      exact closure_forIn r _ fun x hx => h x (List.mem_cons_of_mem _ hx)
theorem closure_is {env : Env} {scope : Scope} (h : ∀ x ∈ scope.names, x.2 = .free → ∃ c, env.cells.lookup x.1 = some c) : closureFor scope env = pure (closGo env scope.names []) := by
  have := closure_forIn scope.names [] h
  unfold closureFor
  simp only [bind_pure]
  exact this
theorem clos_some {env : Env} : ∀ (names : List (Str × NameKind)) (cs : List (Str × Addr)) (n : Str) (c : Addr), (∀ x ∈ names, x.2 = .free → ∃ c, env.cells.lookup x.1 = some c) →
    (closGo env names cs).lookup n = some c → cs.lookup n = some c ∨ env.cells.lookup n = some c
  | [], cs, n, c, _, h => .inl h
  | (m, k) :: r, cs, n, c, hx, h => by
    unfold closGo at h
    by_cases q : (k == NameKind.free) = true
    · rw [if_pos q] at h
      rcases clos_some r _ n c (fun x hx' => hx x (List.mem_cons_of_mem _ hx')) h with h | h
      · rw [List.lookup_cons] at h
        by_cases e : n = m
        · subst e
          obtain ⟨d, hd⟩ := hx _ List.mem_cons_self (by simpa using q)
          have hd' : env.cells.lookup n = some d := hd
          simp only [beq_self_eq_true, hd', Option.getD_some] at h
          exact .inr (hd'.trans h)
        · rw [beq_eq_false_iff_ne.mpr e] at h; exact .inl h
      · exact .inr h
    · rw [if_neg q] at h
      exact clos_some r cs n c (fun x hx' => hx x (List.mem_cons_of_mem _ hx')) h
theorem clos_has {env : Env} : ∀ (names : List (Str × NameKind)) (cs : List (Str × Addr)) (n : Str), ((∃ x ∈ names, x.2 = .free ∧ x.1 = n) ∨ (cs.lookup n).isSome = true) → ((closGo env names cs).lookup n).isSome = true
  | [], cs, n, h => by
    rcases h with ⟨x, hx, _⟩ | h
    · cases hx
    · exact h
  | (m, k) :: r, cs, n, h => by
    unfold closGo
    by_cases q : (k == NameKind.free) = true
    · rw [if_pos q]
      refine clos_has r _ n ?_
      by_cases e : n = m
      · subst e; right; rw [List.lookup_cons]; simp
      · rcases h with ⟨x, hx, h1, h2⟩ | h
        · rcases List.mem_cons.mp hx with rfl | hx
          · exact absurd h2.symm e
          · exact .inl ⟨x, hx, h1, h2⟩
        · right; rw [List.lookup_cons, beq_eq_false_iff_ne.mpr e]; exact h
    · rw [if_neg q]
      refine clos_has r _ n ?_
      rcases h with ⟨x, hx, h1, h2⟩ | h
      · rcases List.mem_cons.mp hx with rfl | hx
        · exact absurd (by simpa using h1) q
        · exact .inl ⟨x, hx, h1, h2⟩
      · exact .inr h
/-- the frame of a comprehension -/
noncomputable def compKs (fi : Fi) : List (Nat × NameKind) → List (Nat × NameKind)
  | [] => []
  | (n, k) :: r => (n, if k = .free then .cell else k) :: compKs fi r
noncomputable def compFi (fi : Fi) (sn : List (Nat × NameKind)) : Fi := ⟨compKs fi sn, false⟩
structure CompOk (fi : Fi) (scope : Scope) (sn : List (Nat × NameKind)) (n : Nat) : Prop where
  names : scope.names = sn.map fun p => (st p.1, p.2)
  kind : scope.kind = .function
  nocell : ∀ p ∈ sn, p.2 ≠ .cell
  uniq : (sn.map (·.1)).Nodup
  free : ∀ p ∈ sn, p.2 = .free → fi.ks.lookup p.1 = some .cell
  var : sn.lookup n = some .local
noncomputable def isLK : Option NameKind → Bool
  | some .local => true
  | some .cell => false
  | some .free => false
  | some .globalExplicit => false
  | some .globalImplicit => false
  | none => false
noncomputable def capt (sn : List (Nat × NameKind)) : Loc → Loc
  | [] => []
  | (n, v) :: r => match isLK (sn.lookup n) with
    | true => capt sn r
    | false => (n, v) :: capt sn r
theorem capt_cons (sn : List (Nat × NameKind)) (n : Nat) (v : V) (r : Loc) : capt sn ((n, v) :: r) = if sn.lookup n = some .local then capt sn r else (n, v) :: capt sn r := by
  show (match isLK (sn.lookup n) with | true => capt sn r | false => (n, v) :: capt sn r) = _
  cases sn.lookup n with
  | none => rw [if_neg nofun]; rfl
  | some k => cases k with
    | «local» => rw [if_pos rfl]; rfl
    | _ => rw [if_neg nofun]; rfl
theorem capt_lookup {sn : List (Nat × NameKind)} : ∀ {ρ : Loc} {n : Nat} {v : V}, (capt sn ρ).lookup n = some v → ρ.lookup n = some v ∧ sn.lookup n ≠ some .local
  | [], _, _, h => by cases h
  | (m, u) :: r, n, v, h => by
    rw [capt_cons] at h
    rw [List.lookup_cons]
    by_cases q : sn.lookup m = some .local
    · rw [if_pos q] at h
      obtain ⟨a, b⟩ := capt_lookup h
      by_cases e : n = m
      · subst e; exact absurd q b
      · rw [beq_eq_false_iff_ne.mpr e]; exact ⟨a, b⟩
    · rw [if_neg q, List.lookup_cons] at h
      by_cases e : n = m
      · subst e; simp at h ⊢; exact ⟨h, q⟩
      · rw [beq_eq_false_iff_ne.mpr e] at h ⊢; exact capt_lookup h
theorem compKs_local {fi : Fi} {n : Nat} : ∀ {sn : List (Nat × NameKind)}, (compKs fi sn).lookup n = some .local → sn.lookup n = some .local
  | [], h => by cases h
  | (m, k) :: r, h => by
    unfold compKs at h
    rw [List.lookup_cons] at h ⊢
    by_cases e : n = m
    · subst e
      simp only [beq_self_eq_true] at h ⊢
      by_cases q : k = .free
      · rw [if_pos q] at h; cases h
      · rw [if_neg q] at h; exact h
    · rw [beq_eq_false_iff_ne.mpr e] at h ⊢; exact compKs_local h
theorem compKs_cell {fi : Fi} {n : Nat} : ∀ {sn : List (Nat × NameKind)}, (∀ p ∈ sn, p.2 ≠ .cell) → (compKs fi sn).lookup n = some .cell → (n, NameKind.free) ∈ sn
  | [], _, h => by cases h
  | (m, k) :: r, hc, h => by
    unfold compKs at h
    rw [List.lookup_cons] at h
    by_cases e : n = m
    · subst e
      simp only [beq_self_eq_true] at h
      by_cases q : k = .free
      · subst q; exact List.mem_cons_self
      · rw [if_neg q] at h
        have : k = .cell := by simpa using h
        exact absurd this (hc _ List.mem_cons_self)
    · rw [beq_eq_false_iff_ne.mpr e] at h
      exact List.mem_cons_of_mem _ (compKs_cell (fun p hp => hc p (List.mem_cons_of_mem _ hp)) h)
theorem relabel_ks {fi : Fi} {env : Env} (ek : EnvOk fi env) : ∀ {sn : List (Nat × NameKind)}, (∀ p ∈ sn, p.2 = .free → fi.ks.lookup p.1 = some .cell) →
    ((sn.map fun p => (st p.1, p.2)).map fun (x : Str × NameKind) => if (x.2 == NameKind.free && env.scope.kind == .function && env.kindOf x.1 == some .cell) then (x.1, NameKind.cell) else (x.1, x.2)) = (compKs fi sn).map fun p => (st p.1, p.2)
  | [], _ => rfl
  | (n, k) :: r, h => by
    rw [List.map_cons, List.map_cons]
    unfold compKs
    rw [List.map_cons, relabel_ks ek fun p hp => h p (List.mem_cons_of_mem _ hp)]
    congr 1
    by_cases q : k = .free
    · subst q
      have := h _ List.mem_cons_self rfl
      rw [if_pos rfl, ek.kind, ek.kindOf, this]
      rfl
    · rw [if_neg q, if_neg (by simp [q])]
theorem CompOk.lookups {fi : Fi} {scope : Scope} {sn : List (Nat × NameKind)} {n : Nat} (C : CompOk fi scope sn n) : ∀ x ∈ scope.names, x.2 = .local → scope.names.lookup x.1 = some .local := fun x hx hl => by
  rw [C.names] at hx ⊢
  obtain ⟨p, hp, rfl⟩ := List.mem_map.mp hx
  rw [lookup_st]
  have hu := C.uniq
  clear C hx
  induction sn with
  | nil => cases hp
  | cons q r ih =>
    rw [List.lookup_cons]
    rcases List.mem_cons.mp hp with rfl | hp
    · simp; exact hl
    · rw [List.map_cons, List.nodup_cons] at hu
      have : p.1 ≠ q.1 := fun e => hu.1 (by rw [← e]; exact List.mem_map_of_mem hp)
      rw [beq_eq_false_iff_ne.mpr this]
      exact ih hp hu.2
section
variable {X : Cx} {r : Nat} {fi : Fi}
def SI (X : Cx) (r : Nat) (fi : Fi) (ifs : List Expr) (F : Tr Bool) : Prop :=
  ∀ (A : Around) (B : Base) (env : Env) (ρ : Loc) (σ : St) (s : Shared) (Qa : Bool → St → Prop) (Q : Bool → Shared → Prop) (E : Value → Shared → Prop), Room r A → Inv X B fi env ρ σ s.heap → F ρ σ Qa →
    (∀ b σ' h' tk, Qa b σ' → Inv X B fi env ρ σ' h' → Q b { s with heap := h', toks := tk }) →
    wpAny (model pw X.w) A (forIn ifs true fun c r => if r = true then do let ok ← isTrue c env (eval c env); pure (ForInStep.yield ok) else pure (ForInStep.yield r)) Q E s
theorem SI_nil : SI X r fi [] (fun _ σ Q => Q true σ) := by
  intro A B env ρ σ s Qa Q E R I hF h
  rw [List.forIn_nil]
  exact wpAny_pure (h true σ _ _ hF I)
theorem SI_one {c : Expr} {F : Tr Bool} (hc : ST X r fi c F) : SI X r fi [c] F := by
  intro A B env ρ σ s Qa Q E R I hF h
  rw [List.forIn_cons]
  simp only [if_true, bind_assoc, pure_bind, List.forIn_nil]
  refine wpAny_bind (hc A B env ρ σ s _ _ _ R I hF fun b σ' h' tk hq I' => wpAny_pure (h b σ' h' tk hq I'))
/-- what a comprehension makes -/
def CompB (X : Cx) (sn : List (Nat × NameKind)) (n : Nat) (v : V) (F : Tr Bool) (G : Tr V) (ρ : Loc) (σ : St) (Q : V → St → Prop) : Prop :=
  ∃ (src : Src) (xs : List V), SrcV X σ v src ∧ SrcOk X σ src xs ∧ xs.length < 1000 ∧ ∀ D, rd X σ D = none → σ D = none → D ≠ 1 → ∃ J : List V → List V → St → Prop,
    J xs [] (upd σ D (.list [])) ∧ (∀ ys zs σ', J ys zs σ' → SrcOk X σ' src xs ∧ σ' D = some (.list zs) ∧ zs.length + ys.length ≤ xs.length) ∧
    (∀ y ys zs σ', J (y :: ys) zs σ' → F (putS n y (capt sn ρ)) σ' fun b σ₂ => (b = true → G (putS n y (capt sn ρ)) σ₂ fun z σ₃ => σ₃ D = some (.list zs) ∧ J ys (zs ++ [z]) (upd σ₃ D (.list (zs ++ [z])))) ∧ (b = false → J ys zs σ₂)) ∧
    ∀ zs σ', J [] zs σ' → Q (.ref D) σ'
end
section
variable {X : Cx} {r : Nat} {fi : Fi}
theorem capt_free {sn : List (Nat × NameKind)} {ρ : Loc} {n : Nat} {v : V} (h : (capt sn ρ).lookup n = some v) : ρ.lookup n = some v := (capt_lookup h).1
theorem compKs_keep {n : Nat} : ∀ {sn : List (Nat × NameKind)}, sn.lookup n = some .local → (compKs fi sn).lookup n = some .local
  | [], h => by cases h
  | (m, k) :: l, h => by
    unfold compKs
    rw [List.lookup_cons] at h ⊢
    by_cases q : n = m
    · subst q; simp at h ⊢; subst h; rfl
    · rw [beq_eq_false_iff_ne.mpr q] at h ⊢; exact compKs_keep h
theorem push_lt (h : Heap) (o : Obj) : h.objs.size < (h.push o).objs.size := by rw [Heap.size_push]; exact Nat.lt_succ_self _
theorem iter_self {A : Around} {E : Value → Shared → Prop} {s : Shared} {it : Addr} {src : Src} {k : Nat} {Q : Value → Shared → Prop} (hi : IterAt s.heap it src k) (h : Q (.ref it) s) : wpAny (model pw X.w) A (pyIter (.ref it)) Q E s := by
  cases src with
  | list a => exact wpAny_pyIter_listiter hi h
  | tup a => exact wpAny_pyIter_tupleiter hi h
  | range a n => exact wpAny_pyIter_rangeiter hi h
inductive CInv (X : Cx) (fi : Fi) (B₁ : Base) (cenv : Env) (ρ' : Loc) (s : Shared) (i : Addr) (src : Src) (xs : List V) (J : List V → List V → St → Prop) (m : Nat) : Shared → Prop
  | mk {j : Nat} {zs : List V} {σ : St} {h : Heap} {tk : Nat} (I : Inv X B₁ fi cenv ρ' σ h) (N : Nobody B₁ cenv σ i) (it : IterAt h i src j) (hj : J (xs.drop j) zs σ) (hm : m = xs.length + 1 - j) : CInv X fi B₁ cenv ρ' s i src xs J m { s with heap := h, toks := tk }
theorem capt_put {sn : List (Nat × NameKind)} {ρ : Loc} {n k : Nat} {z u : V} (hv : sn.lookup n = some .local) (e : (capt sn ρ).lookup k = some u) : (putS n z (capt sn ρ)).lookup k = some u := by
  rw [lookup_putS]
  by_cases q : k = n
  · exact absurd hv (q ▸ (capt_lookup e).2)
  · rw [if_neg q]; exact e
theorem comp_loop {elt iter : Expr} {n : Nat} {px : Pos} {ifs : List Expr} {scope : Scope} {pos : Pos} {sn : List (Nat × NameKind)} {F : Tr Bool} {G : Tr V} (C : CompOk fi scope sn n)
    (hi : SI X r (compFi fi sn) ifs F) (he : SE X r (compFi fi sn) elt G) {A : Around} {B₁ : Base} {cenv : Env} {ρ : Loc} {s : Shared} {R' : Result → Shared → Prop} {i D : Addr} {src : Src} {xs : List V} {J : List V → List V → St → Prop} {σ₀ : St} {h₀ : Heap} (R : Room r A)
    (J₀ : Inv X B₁ (compFi fi sn) cenv (capt sn ρ) σ₀ h₀) (M₀ : Nobody B₁ cenv σ₀ i) (hsrc : IterAt h₀ i src 0) (hlen : xs.length < 1000) (j0 : J xs [] σ₀) (j1 : ∀ ys zs σ', J ys zs σ' → SrcOk X σ' src xs ∧ σ' D = some (.list zs) ∧ zs.length + ys.length ≤ xs.length)
    (j2 : ∀ y ys zs σ', J (y :: ys) zs σ' → F (putS n y (capt sn ρ)) σ' fun b σ₂ => (b = true → G (putS n y (capt sn ρ)) σ₂ fun z σ₃ => σ₃ D = some (.list zs) ∧ J ys (zs ++ [z]) (upd σ₃ D (.list (zs ++ [z])))) ∧ (b = false → J ys zs σ₂))
    (fin : ∀ zs σ h tk, J [] zs σ → Inv X B₁ (compFi fi sn) cenv (capt sn ρ) σ h → R' (.ok .next) { s with heap := h, toks := tk }) (tk₄ : Nat) :
    codeAny (model pw X.w) A (.compLoop (.ListComp elt [⟨.Name (st n) px, iter, ifs, 0⟩] scope pos) 0 (.ref i) (.ref D) cenv) R' { s with heap := h₀, toks := tk₄ } := by
  refine codeAny_compLoop_tests (CInv X (compFi fi sn) B₁ cenv (capt sn ρ) s i src xs J) (fun m s' hI => ?_) (xs.length + 1) (.mk J₀ M₀ hsrc j0 rfl) (by intro v; rfl)
  induction hI with | @mk j zs σ h₂ k₂ I N hi' hj hm =>
  have q1 := j1 _ _ _ hj
  refine next_sound (s := { s with heap := h₂, toks := k₂ }) R I.mid hi' q1.1 fun h₃ k₃ kp => ?_
  have I₃ := I.but N kp
  cases e : xs[j]? with
  | none => exact fin zs σ h₃ k₃ ((List.drop_eq_nil_iff.mpr (List.getElem?_eq_none_iff.mp e) : xs.drop j = []) ▸ hj) I₃
  | some v =>
    intro z iz hi₂
    have hk := (List.getElem?_eq_some_iff.mp e).1
    have hj : J (v :: xs.drop (j + 1)) zs σ := (show xs.drop j = v :: xs.drop (j + 1) by rw [List.drop_eq_getElem_cons hk, (List.getElem?_eq_some_iff.mp e).2]) ▸ hj
    obtain ⟨ob', g1, g2⟩ := hi₂.get
    have I₅ := I₃.add N g1
    refine wpAny_assign_Name (store_sound (s := { s with heap := h₃, toks := k₃ }) I₅ (.inl (compKs_keep C.var)) iz fun h₆ k₆ I₆ => ?_)
    refine hi A _ cenv _ σ { s with heap := h₆, toks := k₆ } _ _ _ R I₆ (j2 _ _ _ _ hj) fun b σ₇ h₇ k₇ p I₇ => ?_
    cases b with
    | false =>
      rw [if_neg Bool.false_ne_true]
      have d := I₃.drop N I₇ (I.base_none N)
      exact ⟨_, by lia, .mk (d.1.sub fun k u e' => capt_put C.var e') d.2.2 (g2 _ d.2.1) (p.2 rfl) rfl⟩
    | true =>
      rw [if_pos rfl]
      refine he A _ cenv _ σ₇ { s with heap := h₇, toks := k₇ } _ _ _ R I₇ (p.1 rfl) fun w y σ₈ h₈ k₈ iw hq I₈ => ?_
      obtain ⟨vs, hvs, iav⟩ := I₈.sim _ _ hq.1
      refine wpAny_list_append_plain (s := { s with heap := h₈, toks := k₈ }) hvs (fun h₉ hp9 sb9 => ?_) (by rw [List.size_toArray, iav.length, sizeLine_eq]; have := q1.2.2; lia)
      have I₉ := I₈.set (o := .list (zs ++ [w])) (by rw [hq.1]; exact nofun) sb9 ⟨vs ++ [y], List.push_toArray .. ▸ hp9, iav.append (AllIs.one iw)⟩
      have d := I₃.drop N I₉ (I.base_none N)
      exact ⟨_, by lia, .mk (d.1.sub fun k u e' => capt_put C.var e') d.2.2 (g2 _ d.2.1) hq.2 rfl⟩
theorem comp_sound {elt iter : Expr} {n : Nat} {px : Pos} {ifs : List Expr} {scope : Scope} {pos pos' : Pos} {sn : List (Nat × NameKind)} {F : Tr Bool} {G : Tr V} (C : CompOk fi scope sn n)
    (hi : SI X r (compFi fi sn) ifs F) (he : SE X r (compFi fi sn) elt G) (hf : ∀ env v, foldedSetIterable iter env v = pure v) {A : Around} {B : Base} {env : Env} {ρ : Loc} {σ : St} {s : Shared} {E : Value → Shared → Prop} {use : Option (Value → Sem Unit)}
    {it : Tr V} {Qa : V → St → Prop} {Q : Value → Shared → Prop} (R : Room r A) (I : Inv X B fi env ρ σ s.heap) (hit : SE X r fi iter it) (hF : it ρ σ fun v σ₁ => CompB X sn n v F G ρ σ₁ Qa)
    (h : ∀ D σ' h' tk (Cc : Addr) m, Qa (.ref D) σ' → Inv X B fi env ρ σ' h' → Nobody B env σ' Cc → h'.Ns Cc m →
      compPost (model pw X.w) A E use Q (.ref D) Cc (.ok .next) { s with heap := h', toks := tk }) :
    wpAny (model pw X.w) A (comprehension (.ListComp elt [⟨.Name (st n) px, iter, ifs, 0⟩] scope pos) scope env pos' (newList []) false (eval iter env) use) Q E s := by
  have hcells : ∀ y ∈ scope.names, y.2 = .free → ∃ c, env.cells.lookup y.1 = some c := fun y hy hfr => by
    rw [C.names] at hy
    obtain ⟨p, hp, rfl⟩ := List.mem_map.mp hy
    obtain ⟨c, o, h1, _⟩ := I.cel _ (C.free p hp hfr)
    exact ⟨c, h1⟩
  refine wpAny_comprehension_free rfl (hf env) (closure_is hcells) C.kind C.lookups ?_
  refine hit A B env ρ σ s _ _ _ R I hF fun v y σ₁ h₁ k₁ iv ⟨src, xs, hv, hs, hlen, hJ⟩ I₁ => ?_
  refine iter_sound (s := { s with heap := h₁, toks := k₁ }) I₁.mid iv hv hs fun ob hit => ?_
  refine wpAny_newList (s := { s with heap := h₁.push ob, toks := k₁ }) (items := []) ?_
  generalize hD : (h₁.push ob).objs.size = D
  have freshD : h₁.get? D = none := by
    cases e : h₁.get? D with
    | none => rfl
    | some o => have := Heap.lt_size (keep_push ob _ _ e); rw [hD] at this; exact absurd this (Nat.lt_irrefl _)
  refine wpAny_newFunctionEnv (fun y hy => ?_) (fun _ hy => by cases hy) (fun h₄ hns sb => ?_) C.kind
  · rw [C.names] at hy
    obtain ⟨p, hp, rfl⟩ := List.mem_map.mp hy
    exact C.nocell p hp
  · generalize hC : ((h₁.push ob).push { cls := .type "list", data := .seq ([] : List Value).toArray }).objs.size = Cc at hns sb
    have hCD : Cc ≠ D := by rw [← hC, ← hD]; exact Nat.ne_of_gt (push_lt _ _)
    have freshC : ((h₁.push ob).push { cls := .type "list", data := .seq ([] : List Value).toArray }).get? Cc = none := by rw [← hC]; exact get_size _
    have hCi : Cc ≠ h₁.objs.size := fun e => by
      obtain ⟨o, g1, -⟩ := hit.get
      rw [e, keep_push _ _ _ g1] at freshC; cases freshC
    have freshC1 : h₁.get? Cc = none := by
      cases e : h₁.get? Cc with
      | none => rfl
      | some o => rw [keep_push _ _ _ (keep_push _ _ _ e)] at freshC; cases freshC
    have hDi : D ≠ h₁.objs.size := by rw [← hD, Heap.size_push]; exact Nat.ne_of_gt (Nat.lt_succ_self _)
    have keep4 : ∀ b o, ((h₁.push ob).push { cls := .type "list", data := .seq ([] : List Value).toArray }).get? b = some o → h₄.get? b = some o := fun b o e => by
      have hb : b ≠ Cc := fun q => by rw [q, freshC] at e; cases e
      exact (sb.2 b hb).trans (keep_push _ _ _ e)
    have keep : ∀ b o, h₁.get? b = some o → h₄.get? b = some o := fun b o e => keep4 b o (keep_push _ _ _ (keep_push _ _ _ e))
    have hlist : AbsO X.w h₄ D (.list []) := ⟨[], ⟨0, keep4 _ _ (by rw [← hD]; exact Heap.get?_push_size _ rfl)⟩, rfl⟩
    have I₄ : Inv X B fi env ρ (upd σ₁ D (.list [])) h₄ := I₁.new freshD keep hlist
    have hsrc : IterAt h₄ h₁.objs.size src 0 := by
      obtain ⟨o, g1, g2⟩ := hit.get
      exact g2 _ (keep4 _ _ (keep_push _ _ _ g1))
    have NI := I₁.nobody (get_size h₁)
    have NC := I₁.nobody freshC1
    obtain ⟨J, j0, j1, j2, j3⟩ := hJ D (I₁.mid.rd_new freshD) (I₁.free freshD) fun e => by
      have := I₁.mid.big
      have h3 := Heap.lt_size (I₁.mid.K 3 (ko_3 X.w.params) (k3 X.w.params))
      rw [← hD, Heap.size_push] at e
      have e' : h₁.objs.size = 0 := Nat.succ.inj e
      rw [e'] at h3; exact absurd h3 (Nat.not_lt_zero _)
    have el : ∀ k c, (closGo env scope.names []).lookup k = some c → env.cells.lookup k = some c := fun k c e => by
      rcases clos_some scope.names [] k c hcells e with q | q
      · cases q
      · exact q
    have hgo : ∀ tk₄ : Nat, codeAny (model pw X.w) A (.compLoop (.ListComp elt [⟨.Name (st n) px, iter, ifs, 0⟩] scope pos) 0 (.ref h₁.objs.size) (.ref D) (compEnvC scope (closGo env scope.names []) Cc env)) (compPost (model pw X.w) A E use Q (.ref D) Cc) { s with heap := h₄, toks := tk₄ } := by
      generalize hcenv : compEnvC scope (closGo env scope.names []) Cc env = cenv
      have ck : EnvOk (compFi fi sn) cenv := by
        subst hcenv
        refine ⟨C.kind, ?_, I.eok.glob, I.eok.blt⟩
        show (scope.names.map _) = _
        rw [C.names]
        exact relabel_ks I.eok C.free
      have cl : cenv.locals = Cc := by subst hcenv; rfl
      have cc : cenv.cells = closGo env scope.names [] := by subst hcenv; rfl
      clear hcenv
      have J₀ : Inv X ⟨σ₁, h₁.get?⟩ (compFi fi sn) cenv (capt sn ρ) (upd σ₁ D (.list [])) h₄ :=
        { eok := ck
          base := fun b o e => I₁.kept e
          sim := I₄.sim
          ext := .new freshD keep
          loc := ⟨_, by rw [cl]; exact hns, fun k u e q => by
            obtain ⟨-, q2⟩ := capt_lookup e
            exact absurd (compKs_local q) q2⟩
          cel := fun k hk => by
            have hm := compKs_cell C.nocell hk
            have h2 := clos_has (env := env) scope.names [] (st k) (.inl ⟨(st k, .free), by rw [C.names]; exact List.mem_map_of_mem (f := fun p : Nat × NameKind => (st p.1, p.2)) hm, rfl, rfl⟩)
            obtain ⟨c, hc⟩ := Option.isSome_iff_exists.mp h2
            obtain ⟨c', o, g1, g2, g3⟩ := I₄.cel k (C.free _ hm rfl)
            have : c' = c := by rw [el _ _ hc] at g1; cases g1; rfl
            subst this
            exact ⟨c', o, by rw [cc]; exact hc, g2, fun u e => g3 u (capt_free e)⟩
          newL := by rw [cl]; exact freshC1
          apL := by rw [cl]; exact (upd_ne hCD).trans NC.s
          apC := fun k c hc => by
            rw [cc] at hc
            have hc' := el _ _ hc
            obtain ⟨q1, q2, q3, q4⟩ := I₄.apC _ _ hc'
            exact ⟨q1, by rw [cl]; exact fun e => NC.c _ _ hc' e, fun h => (Bool.false_ne_true h).elim, q4⟩
          inj := fun k k' c a b => I.inj k k' c (el _ _ (by rw [← cc]; exact a)) (el _ _ (by rw [← cc]; exact b)) }
      have M₀ : Nobody ⟨σ₁, h₁.get?⟩ cenv (upd σ₁ D (.list [])) h₁.objs.size :=
        ⟨get_size _, (upd_ne (Ne.symm hDi)).trans NI.s, by rw [cl]; exact Ne.symm hCi, fun k c hc => by rw [cc] at hc; exact NI.c _ _ (el _ _ hc)⟩
      exact comp_loop C hi he R J₀ M₀ hsrc hlen j0 j1 j2 fun zs σ h₃ k₃ hj I₃ => by
        obtain ⟨mm, hmm, -⟩ := I₃.loc
        exact h D σ h₃ k₃ Cc mm (j3 _ _ hj) (I₁.step I₃.sim I₃.ext) ⟨NC.b, by rw [← cl]; exact I₃.apL, NC.l, NC.c⟩ (by rw [← cl]; exact hmm)
    exact codeAny_compStart_list (hgo _) (iter_self (s := { s with heap := h₄, toks := _ }) hsrc (hgo _))
end
/-! NO -/
section
variable {X : Cx} {r : Nat} {fi : Fi}
theorem SE_comp {elt iter : Expr} {x : Str} {n : Nat} {px : Pos} {ifs : List Expr} {scope : Scope} {pos : Pos} {sn : List (Nat × NameKind)} {F : Tr Bool} {G it : Tr V} (hx : x = st n) (C : CompOk fi scope sn n)
    (hit : SE X r fi iter it) (hi : SI X r (compFi fi sn) ifs F) (he : SE X r (compFi fi sn) elt G) (hf : ∀ env v, foldedSetIterable iter env v = pure v) :
    SE X r fi (.ListComp elt [⟨.Name x px, iter, ifs, 0⟩] scope pos) (fun ρ σ Q => it ρ σ fun v σ₁ => CompB X sn n v F G ρ σ₁ Q) := by
  subst hx
  intro A B env ρ σ s Qa Q E R I hF h
  rw [eval_ListComp]
  refine comp_sound (use := none) C hi he hf R I hit hF fun D σ' h' tk Cc m hq I' N hn => ⟨m, hn, fun h'' sb => ?_⟩
  exact h _ _ σ' h'' tk (is_ref _) hq (I'.but N fun b o hb e => (sb.2 b hb).trans e)
theorem swaps_env {v : Expr} {t : Option Expr} {n : Nat} {env : Env} (ok : EnvOk fi env) : swapsWith v t n env = swapsWith v t n (envFi fi) := by
  have e1 : env.kindOf = (envFi fi).kindOf := by
    funext n
    unfold Env.kindOf
    rw [ok.names]
    rfl
  have e2 : env.blockKind = (envFi fi).blockKind := by
    unfold Env.blockKind
    rw [ok.kind]
    rfl
  have e3 : env.scope.kind = (envFi fi).scope.kind := ok.kind
  unfold swapsWith
  rw [e1, e2, e3]
theorem S1_compassign {elt iter : Expr} {x y : Str} {n k : Nat} {px py : Pos} {ifs : List Expr} {scope : Scope} {pos spos : Pos} {sn : List (Nat × NameKind)} {F : Tr Bool} {G it : Tr V} (hy : y = st k) (hk : Lhs fi k) (hx : x = st n) (C : CompOk fi scope sn n)
    (hit : SE X r fi iter it) (hi : SI X r (compFi fi sn) ifs F) (he : SE X r (compFi fi sn) elt G)
    (hsw : swapsWith (.ListComp elt [⟨.Name x px, iter, ifs, 0⟩] scope pos) (some (.Name y py)) spos.line (envFi fi) = pure true) (hf : ∀ env v, foldedSetIterable iter env v = pure v) :
    S1 X r fi (.Assign [.Name y py] (.ListComp elt [⟨.Name x px, iter, ifs, 0⟩] scope pos) spos) (fun ρ σ Q => it ρ σ fun v σ₁ => CompB X sn n v F G ρ σ₁ fun u σ₂ => Q .next (putS k u ρ) σ₂) := by
  subst hx hy
  intro A B env ρ σ s Qa Q E R I hF h
  rw [exec_Assign_Name_used _ _ _ _ ((swaps_env I.eok).trans hsw)]
  refine wpAny_bind (wpAny_standAt (wpAny_bind ?_))
  show wpAny _ A (do let _ ← comprehension (.ListComp elt [⟨.Name (st n) px, iter, ifs, 0⟩] scope pos) scope env _ (newList []) false (eval iter env) (some (assign (.Name (st k) py) env))) _ _ s
  refine wpAny_bind (comp_sound (use := some (assign (.Name (st k) py) env)) C hi he hf R I hit hF fun D σ' h' tk Cc m hq I' N hn => ?_)
  obtain ⟨o, es, ep, g1, g2⟩ := hn
  have I₁ := I'.add N g1
  show wpAny _ A (assign (.Name (st k) py) env (.ref D)) _ _ _
  refine wpAny_assign_Name (store_sound (s := { s with heap := h', toks := tk }) I₁ hk (is_ref _) fun h₂ k₂ I₂ => ?_)
  obtain ⟨I₃, g3, N₃⟩ := I'.drop N I₂ (I'.base_none N)
  refine ⟨m, ⟨o, es, ep, g3, g2⟩, fun h₃ sb => ?_⟩
  exact wpAny_pure (wpAny_pure (h .next .next _ σ' h₃ _ rfl hq (I₃.but N₃ fun b o hb e => (sb.2 b hb).trans e)))
end
/-! NP -/
/-! sorting pairs of ints, three at most -/
noncomputable def ltP (p q : Int × Int) : Bool := if p.1 = q.1 then decide (p.2 < q.2) else decide (p.1 < q.1)
noncomputable def ordK : List (Int × Int) → List Nat
  | [] => []
  | [_] => [0]
  | [p, q] => if ltP q p then [1, 0] else [0, 1]
  | [p, q, r] => if ltP q p then (if ltP r q then [2, 1, 0] else if ltP q r then (if ltP r p then (if ltP r p then (if ltP r q then [2, 1, 0] else [1, 2, 0]) else [1, 0, 2]) else [1, 0, 2]) else [1, 2, 0])
      else if ltP r q then (if ltP p q then (if ltP r q then (if ltP r p then [2, 0, 1] else [0, 2, 1]) else [0, 1, 2]) else [2, 0, 1]) else [0, 1, 2]
  | _ => []
def PairAt (h : Heap) (v : Value) (p : Int × Int) : Prop := ∃ a ob t u n, v = .ref a ∧ h.get? a = some ob ∧ ob.cls = .type "tuple" ∧ ob.data = .seq #[.int p.1 t, .int p.2 u] n
noncomputable def PairsAt (h : Heap) : List Value → List (Int × Int) → Prop
  | [], [] => True
  | v :: vs, p :: ps => PairAt h v p ∧ PairsAt h vs ps
  | _, _ => False
section
variable {w : World} {A : Around} {E : Value → Shared → Prop} {s : Shared}
theorem PairsAt.len {h : Heap} : ∀ {vs : List Value} {ps : List (Int × Int)}, PairsAt h vs ps → vs.length = ps.length
  | [], [], _ => rfl
  | _ :: _, _ :: _, ⟨_, h⟩ => by simp [PairsAt.len h]
  | [], _ :: _, h => h.elim
  | _ :: _, [], h => h.elim
theorem PairsAt.tups {h : Heap} : ∀ {vs : List Value} {ps : List (Int × Int)}, PairsAt h vs ps → ∃ fs, KatTups h vs fs ∧ fs.length = ps.length ∧ ∀ v ∈ fs, ∃ i t, v = Value.int i t
  | [], [], _ => ⟨[], trivial, rfl, fun _ h => by cases h⟩
  | _ :: _, p :: _, ⟨⟨a, ob, t, u, n, e, g, c, d⟩, h⟩ => by
    obtain ⟨fs, h1, h2, h3⟩ := PairsAt.tups h
    subst e
    refine ⟨.int p.1 t :: fs, .cons g c d rfl h1, by simp [h2], fun v hv => ?_⟩
    rcases List.mem_cons.mp hv with rfl | hv
    · exact ⟨_, _, rfl⟩
    · exact h3 v hv
  | [], _ :: _, h => h.elim
  | _ :: _, [], h => h.elim
theorem PairsAt.keep {h h' : Heap} (k : ∀ a ob, h.get? a = some ob → ob.cls = .type "tuple" → h'.get? a = some ob) : ∀ {vs : List Value} {ps : List (Int × Int)}, PairsAt h vs ps → PairsAt h' vs ps
  | [], [], _ => trivial
  | _ :: _, _ :: _, ⟨⟨a, ob, t, u, n, e, g, c, d⟩, h⟩ => ⟨⟨a, ob, t, u, n, e, k a ob g c, c, d⟩, PairsAt.keep k h⟩
  | [], _ :: _, h => h.elim
  | _ :: _, [], h => h.elim
theorem PairsAt.get {h : Heap} : ∀ {vs : List Value} {ps : List (Int × Int)} {i : Nat} {p : Int × Int}, PairsAt h vs ps → ps[i]? = some p → PairAt h (vs.getD i .none) p
  | [], [], i, p, _, e => by simp at e
  | v :: vs, q :: ps, 0, p, ⟨hq, _⟩, e => by simp at e; subst e; exact hq
  | v :: vs, q :: ps, i + 1, p, ⟨_, hr⟩, e => by
    have := PairsAt.get hr (by simpa using e)
    simpa using this
  | [], _ :: _, _, _, h, _ => h.elim
  | _ :: _, [], _, _, h, _ => h.elim
theorem pair_lt {x y : Value} {p q : Int × Int} {Q : Bool → Shared → Prop} (hx : PairAt s.heap x p) (hy : PairAt s.heap y q) (h : Q (ltP p q) s) : wpAny (model pw w) A (keyLt' (tuples' true) x y) Q E s := by
  obtain ⟨a, oa, t, u, n, rfl, g, -, d⟩ := hx
  obtain ⟨b, ob, t', u', n', rfl, g', -, d'⟩ := hy
  refine kat_lt g d g' d' (kat_cons (wpAny_eqBool_int (kat_go (fun e => ?_) fun e => ?_)))
  · have e' : p.1 = q.1 := by simpa using e
    refine kat_yes (kat_cons (wpAny_eqBool_int (kat_go (fun f => kat_yes (kat_nil ?_)) fun f => kat_no ?_)))
    · have f' : p.2 = q.2 := by simpa using f
      have : ltP p q = false := by unfold ltP; rw [if_pos e', f']; simp
      rw [this] at h
      exact h
    · show wpAny _ _ (oneLt' false _ _) _ _ _
      refine kat_one _ _ (PySem.P.lt_int ?_)
      have : ltP p q = decide (p.2 < q.2) := by unfold ltP; rw [if_pos e']
      rw [this] at h
      exact h
  · have e' : p.1 ≠ q.1 := by simpa using e
    refine kat_no ?_
    refine oneLt_int ?_
    have : ltP p q = decide (p.1 < q.1) := by unfold ltP; rw [if_neg e']
    rw [this] at h
    exact h
theorem ask_pair {vs : List Value} {ps : List (Int × Int)} {i j : Nat} {p q : Int × Int} {C : Bool → Shared → Prop} (hp : PairsAt s.heap vs ps) (hi : ps[i]? = some p) (hj : ps[j]? = some q) (h : C (ltP p q) s) : kas_ask pw w A (tuples' true) vs i j C s := by
  unfold kas_ask
  exact pair_lt (hp.get hi) (hp.get hj) h
/-- a tree of questions, its answers given -/
noncomputable def KRun {α : Type} (n : Nat) (f : Nat → Nat → Bool) : KasT α → Option α
  | .ret a => some a
  | .ask i j k => if i < n ∧ j < n ∧ i ≠ j then KRun n f (k (f i j)) else none
theorem KRun.wp {α : Type} {n : Nat} {f : Nat → Nat → Bool} {cmp : Nat → Nat → (Bool → Shared → Prop) → Shared → Prop} (hc : ∀ i j C, i < n → j < n → i ≠ j → C (f i j) s → cmp i j C s) : ∀ {t : KasT α} {a : α} {G : α → Shared → Prop}, KRun n f t = some a → G a s → t.kasWp cmp G s
  | .ret b, a, G, e, h => by cases e; exact h
  | .ask i j k, a, G, e, h => by
    unfold KRun at e
    split at e
    · rename_i q
      exact hc i j _ q.1 q.2.1 q.2.2 (KRun.wp hc e h)
    · cases e
noncomputable def tab3 (a b c d e f : Bool) : Nat → Nat → Bool
  | 0, 1 => a | 0, 2 => b | 1, 0 => c | 1, 2 => d | 2, 0 => e | 2, 1 => f | _, _ => false
theorem run2 : ∀ a c : Bool, KRun 2 (tab3 a false c false false false) (kas_sort 2) = some (if c then [1, 0] else [0, 1]).toArray := by decide +kernel
theorem run3 : ∀ a b c d e f : Bool, KRun 3 (tab3 a b c d e f) (kas_sort 3) = some (if c then (if f then [2, 1, 0] else if d then (if e then (if e then (if f then [2, 1, 0] else [1, 2, 0]) else [1, 0, 2]) else [1, 0, 2]) else [1, 2, 0])
      else if f then (if a then (if f then (if e then [2, 0, 1] else [0, 2, 1]) else [0, 1, 2]) else [2, 0, 1]) else [0, 1, 2]).toArray := by decide +kernel
theorem all2 {P : Nat → Nat → Prop} (h01 : P 0 1) (h10 : P 1 0) : ∀ i j, i < 2 → j < 2 → i ≠ j → P i j
  | 0, 1, _, _, _ => h01
  | 1, 0, _, _, _ => h10
  | 0, 0, _, _, hn => absurd rfl hn
  | 1, 1, _, _, hn => absurd rfl hn
  | 0, k + 2, _, hj, _ => absurd hj (Nat.not_lt.mpr (Nat.le_add_left _ _))
  | 1, k + 2, _, hj, _ => absurd hj (Nat.not_lt.mpr (Nat.le_add_left _ _))
  | k + 2, _, hi, _, _ => absurd hi (Nat.not_lt.mpr (Nat.le_add_left _ _))
theorem all3 {P : Nat → Nat → Prop} (h01 : P 0 1) (h02 : P 0 2) (h10 : P 1 0) (h12 : P 1 2) (h20 : P 2 0) (h21 : P 2 1) : ∀ i j, i < 3 → j < 3 → i ≠ j → P i j
  | 0, 1, _, _, _ => h01
  | 0, 2, _, _, _ => h02
  | 1, 0, _, _, _ => h10
  | 1, 2, _, _, _ => h12
  | 2, 0, _, _, _ => h20
  | 2, 1, _, _, _ => h21
  | 0, 0, _, _, hn => absurd rfl hn
  | 1, 1, _, _, hn => absurd rfl hn
  | 2, 2, _, _, hn => absurd rfl hn
  | 0, k + 3, _, hj, _ => absurd hj (Nat.not_lt.mpr (Nat.le_add_left _ _))
  | 1, k + 3, _, hj, _ => absurd hj (Nat.not_lt.mpr (Nat.le_add_left _ _))
  | 2, k + 3, _, hj, _ => absurd hj (Nat.not_lt.mpr (Nat.le_add_left _ _))
  | k + 3, _, hi, _, _ => absurd hi (Nat.not_lt.mpr (Nat.le_add_left _ _))
theorem two3 {P : List (Int × Int) → Prop} (h2 : ∀ p q, P [p, q]) (h3 : ∀ p q r, P [p, q, r]) : ∀ ps : List (Int × Int), 2 ≤ ps.length → ps.length ≤ 3 → P ps
  | [p, q], _, _ => h2 p q
  | [p, q, r], _, _ => h3 p q r
  | [], h, _ => absurd h (by decide)
  | [_], h, _ => absurd h (Nat.not_le.mpr (Nat.lt_succ_self 1))
  | _ :: _ :: _ :: _ :: _, _, h => absurd h (Nat.not_le.mpr (Nat.succ_le_succ (Nat.succ_le_succ (Nat.succ_le_succ (Nat.succ_pos _)))))
theorem ask_sort {vs : List Value} {ps : List (Int × Int)} {G : Array Nat → Shared → Prop} (hp : PairsAt s.heap vs ps) (h2 : 2 ≤ ps.length) (h3 : ps.length ≤ 3) (h : G (ordK ps).toArray s) : (kas_sort vs.length).kasWp (kas_ask pw w A (tuples' true) vs) G s := by
  rw [hp.len]
  refine two3 (P := fun ps => PairsAt s.heap vs ps → G (ordK ps).toArray s → (kas_sort ps.length).kasWp (kas_ask pw w A (tuples' true) vs) G s) (fun p q hp h => ?_) (fun p q r hp h => ?_) ps h2 h3 hp h
  · refine KRun.wp (f := tab3 (ltP p q) false (ltP q p) false false false) (n := 2) (fun i j C hi hj hn => ?_) (run2 _ _) h
    revert C
    refine all2 (P := fun i j => ∀ C : Bool → Shared → Prop, C (tab3 (ltP p q) false (ltP q p) false false false i j) s → kas_ask pw w A (tuples' true) vs i j C s) ?_ ?_ i j hi hj hn
    · exact fun C hC => ask_pair hp (p := p) (q := q) rfl rfl hC
    · exact fun C hC => ask_pair hp (p := q) (q := p) rfl rfl hC
  · refine KRun.wp (f := tab3 (ltP p q) (ltP p r) (ltP q p) (ltP q r) (ltP r p) (ltP r q)) (n := 3) (fun i j C hi hj hn => ?_) (run3 _ _ _ _ _ _) h
    revert C
    refine all3 (P := fun i j => ∀ C : Bool → Shared → Prop, C (tab3 (ltP p q) (ltP p r) (ltP q p) (ltP q r) (ltP r p) (ltP r q) i j) s → kas_ask pw w A (tuples' true) vs i j C s) ?_ ?_ ?_ ?_ ?_ ?_ i j hi hj hn
    · exact fun C hC => ask_pair hp (p := p) (q := q) rfl rfl hC
    · exact fun C hC => ask_pair hp (p := p) (q := r) rfl rfl hC
    · exact fun C hC => ask_pair hp (p := q) (q := p) rfl rfl hC
    · exact fun C hC => ask_pair hp (p := q) (q := r) rfl rfl hC
    · exact fun C hC => ask_pair hp (p := r) (q := p) rfl rfl hC
    · exact fun C hC => ask_pair hp (p := r) (q := q) rfl rfl hC
theorem arr1 {vs : List Value} : ∀ {ps : List (Int × Int)}, vs.length = ps.length → ps.length < 2 → (vs.toArray.zip vs.toArray).map (·.2) = ((ordK ps).map fun i => vs.getD i Value.none).toArray ∧ (ordK ps).length ≤ 3 := by
  intro ps hl c2
  cases ps with
  | nil => cases vs with
    | nil => exact ⟨by simp [ordK], Nat.zero_le _⟩
    | cons v vs => exact absurd hl (Nat.succ_ne_zero _)
  | cons p ps => cases ps with
    | cons q ps => exact absurd c2 (Nat.not_lt.mpr (Nat.succ_le_succ (Nat.succ_le_succ (Nat.zero_le _))))
    | nil => cases vs with
      | nil => exact absurd hl.symm (Nat.succ_ne_zero _)
      | cons v vs => cases vs with
        | nil => exact ⟨by simp [ordK], by show 1 ≤ 3; decide⟩
        | cons w vs => exact absurd (Nat.succ.inj hl) (Nat.succ_ne_zero _)
theorem sort_at {a : Addr} {n : Nat} {vs : List Value} {ps : List (Int × Int)} {P : PySem.Fin → Shared → Prop} (ho : s.heap.get? a = some (seqObj "list" vs.toArray n)) (hp : PairsAt s.heap vs ps) (h3 : ps.length ≤ 3)
    (h : ∀ h' c, (∀ b o, b ≠ a → s.heap.get? b = some o → h'.get? b = some o) → h'.get? a = some (seqObj "list" ((ordK ps).map fun i => vs.getD i Value.none).toArray c) → P (.done (.ret .none)) { s with heap := h' }) :
    wpAny (model pw w) A (Builtin.«list.sort» ⟨[.ref a], []⟩) P E s := by
  have hl := hp.len
  have s1 := Heap.SameBut.update s.heap a (Obj.mapSeq fun _ => (#[] : Array Value))
  have g1 := get?_update_seq ho fun _ => (#[] : Array Value)
  generalize hh : s.heap.update a (Obj.mapSeq fun _ => (#[] : Array Value)) = h₁ at s1 g1
  generalize (if (#[] : Array Value).size == vs.toArray.size then n else n + 1) = n₁ at g1
  have kp : ∀ b o, b ≠ a → s.heap.get? b = some o → ((h₁.push (seqObj "tuple" vs.toArray 0)).push (seqObj "list" #[] 0)).get? b = some o := fun b o q e => keep_push _ _ _ (keep_push _ _ _ ((s1.2 b q).trans e))
  have ka : ((h₁.push (seqObj "tuple" vs.toArray 0)).push (seqObj "list" #[] 0)).get? a = some (seqObj "list" #[] n₁) := keep_push _ _ _ (keep_push _ _ _ g1)
  rw [list_sort_plain]
  refine wpAny_bind (listItems_at ho rfl (wpAny_bind (listUpdate_at ho rfl ?_ (by rw [List.size_toArray, sizeLine_eq]; lia) (Nat.zero_le _))))
  rw [hh]
  refine wpAny_bind (seqEpoch_at (s := { s with heap := h₁ }) g1 rfl (wpAny_bind (wpAny_newTuple ?_ (by show vs.length ≤ _; rw [sizeLine_eq]; lia))))
  refine wpAny_bind (wpAny_newList ?_ (Nat.zero_le _))
  refine wpAny_holding ?_
  show wpAny _ A _ P E { s with heap := (h₁.push (seqObj "tuple" vs.toArray 0)).push (seqObj "list" #[] 0) }
  dsimp only
  generalize hh₂ : (h₁.push (seqObj "tuple" vs.toArray 0)).push (seqObj "list" #[] 0) = h₂ at kp ka
  have fin : ∀ out : List Value, out.length ≤ 3 → (∀ h' c, (∀ b o, b ≠ a → s.heap.get? b = some o → h'.get? b = some o) → h'.get? a = some (seqObj "list" out.toArray c) → P (.done (.ret .none)) { s with heap := h' }) →
      wpAny (model pw w) A (do
        let t ← seqEpoch a
        Builtin.List.listUpdate (.ref a) fun _ => out.toArray
        if (t != n₁) = true then do rule "list.sort.modified"; raiseError "ValueError" "list modified during sort"
        ret .none) P E { s with heap := h₂ } := fun out hlen hq => by
    have s2 := Heap.SameBut.update h₂ a (Obj.mapSeq fun _ => out.toArray)
    have g2 := get?_update_seq ka fun _ => out.toArray
    refine wpAny_bind (seqEpoch_at (s := { s with heap := h₂ }) ka rfl (wpAny_bind (listUpdate_at (s := { s with heap := h₂ }) ka rfl ?_ (Nat.zero_le _) (by rw [List.size_toArray, sizeLine_eq]; lia))))
    simp only [bne_self_eq_false, Bool.false_eq_true, if_false]
    exact wpAny_pure (hq _ _ (fun b o q e => (s2.2 b q).trans (kp b o q e)) g2)
  by_cases c2 : ps.length < 2
  · have hn2 : vs.toArray.size < 2 := by rw [List.size_toArray]; lia
    rw [if_pos hn2, if_pos hn2]
    refine wpAny_bind (wpAny_pure (wpAny_bind ?_))
    show wpAny _ _ (pure ((), SortSt.mk' general' (vs.toArray.zip vs.toArray) #[] 7 none)) _ _ _
    refine wpAny_pure ?_
    obtain ⟨e, el⟩ := arr1 hl c2
    have e : (arrOf (SortSt.mk' general' (vs.toArray.zip vs.toArray) #[] 7 none)).map (·.2) = ((ordK ps).map fun i => vs.getD i Value.none).toArray := e
    rw [e]
    exact fin _ (by rw [List.length_map]; exact el) h
  · have hn2 : ¬ vs.toArray.size < 2 := by rw [List.size_toArray]; lia
    rw [if_neg hn2, if_neg hn2]
    have hp2 : PairsAt h₂ vs ps := hp.keep fun b ob e q => kp b ob (fun z => by subst z; rw [ho] at e; cases e; revert q; simp) e
    obtain ⟨fs, t1, t2, t3⟩ := hp2.tups
    refine wpAny_bind (kat_kind (s := { s with heap := h₂ }) (T := .type "int") t1 (by lia) (fun v hv => by obtain ⟨i, t, rfl⟩ := t3 v hv; exact Looks.of_pure rfl) (by decide) ?_)
    have hk : (kas_sort vs.length).kasWp (kas_ask pw w A (tuples' true) vs) (fun p s' => p = (ordK ps).toArray ∧ s' = { s with heap := h₂ }) { s with heap := h₂ } := ask_sort hp2 (by lia) h3 ⟨rfl, rfl⟩
    refine wpAny_bind (wpAny_mono (kat_run (Q := fun st' s' => ∃ p : Array Nat, p.size = vs.length ∧ arrOf st' = p.map (kas_item (vs.toArray.zip vs.toArray)) ∧ failedOf st' = none ∧ p = (ordK ps).toArray ∧ s' = { s with heap := h₂ })
      rfl (by lia) (by lia) (fun p' st' s' a1 a2 a3 a4 => ⟨p', a1, a2, a3, a4⟩) hk) ?_ fun _ _ e => e)
    rintro ⟨⟨⟩, st'⟩ _ ⟨p, q1, q2, q3, rfl, rfl⟩
    have e := kat_snds (rfl : vs.length = vs.length) q2
    dsimp only
    rw [e, q3]
    have hlen : (ordK ps).length ≤ 3 := by
      have : (ordK ps).toArray.size = vs.length := q1
      rw [List.size_toArray] at this
      lia
    exact fin _ (by rw [List.length_map]; exact hlen) h
end
section
variable {X : Cx} {r : Nat}
theorem SC_sorted : SC X r (.builtin "sorted") (fun vs σ Q => ∃ (l : Addr) (xs : List V) (ps : List (Int × Int)), vs = [.ref l] ∧ rd X σ l = some (.list xs) ∧ xs.length = ps.length ∧ ps.length ≤ 3 ∧
    (∀ (i : Nat) (v : V) (p : Int × Int), xs[i]? = some v → ps[i]? = some p → ∃ a, v = .ref a ∧ rd X σ a = some (.tup [.int p.1, .int p.2])) ∧ Made X σ (.list ((ordK ps).map fun i => xs.getD i .none)) Q) := by
  intro A vs ys σ s Qa Q E R M ia ⟨l, xs, ps, e, hl, hlen, h3, hall, hm⟩ h
  subst e
  obtain ⟨_, _, rfl, hx, rfl⟩ := ia
  cases hx
  obtain ⟨vs, hv, av⟩ := M.at hl
  have hls := hv.isList
  have hp : PairsAt s.heap vs ps := by
    have : ∀ (xs : List V) (vs : List Value) (ps : List (Int × Int)), AllIs xs vs → xs.length = ps.length → (∀ (i : Nat) (v : V) (p : Int × Int), xs[i]? = some v → ps[i]? = some p → ∃ a, v = .ref a ∧ rd X σ a = some (.tup [.int p.1, .int p.2])) → PairsAt s.heap vs ps := by
      intro xs
      induction xs with
      | nil =>
        intro vs ps a hl _
        cases a
        match ps, hl with
        | [], _ => trivial
      | cons x xs ih =>
        intro vs ps ⟨y, ys, e, iy, a⟩ hl hq
        subst e
        match ps, hl with
        | p :: ps, hl =>
          obtain ⟨b, e, hb⟩ := hq 0 x p rfl rfl
          subst e
          cases iy
          obtain ⟨ws, ⟨ob, g1, g2, n, g3⟩, _, _, rfl, ⟨t, rfl⟩, _, _, rfl, ⟨u, rfl⟩, rfl⟩ := M.at hb
          exact ⟨⟨b, ob, t, u, n, rfl, g1, g2, g3⟩, ih ys ps a (by simpa using hl) fun i v p h1 h2 => hq (i + 1) v p (by simpa using h1) (by simpa using h2)⟩
    exact this xs vs ps av hlen hall
  have hz : vs.length ≤ 3 := by rw [hp.len]; exact h3
  refine Calls.call_function_entry kind_sorted plain_sorted entry_sorted (args_sorted1 _) ?_
  unfold Builtin.«sorted»
  refine wpAny_bind (m := checkCount "sorted" 1 1 _) (wpAny_pure ?_)
  refine wpAny_bind (collect_list hls ?_ (by rw [sizeLine_eq]; lia))
  generalize hh₁ : (s.heap.push (seqObj "list" #[] 0)).update s.heap.objs.size (Obj.mapSeq (· ++ vs.toArray)) = h₁
  have k1 : ∀ b o, s.heap.get? b = some o → h₁.get? b = some o := fun b o e => by
    rw [← hh₁, Heap.get?_update_ne _ _ _ _ (Nat.ne_of_lt (Heap.lt_size e))]
    exact keep_push _ _ _ e
  refine wpAny_bind (wpAny_newList ?_ (by rw [sizeLine_eq]; lia))
  have hD : (h₁.push (seqObj "list" vs.toArray 0)).get? h₁.objs.size = some (seqObj "list" vs.toArray 0) := Heap.get?_push_size _ rfl
  have fD : s.heap.get? h₁.objs.size = none := by
    cases e : s.heap.get? h₁.objs.size with
    | none => rfl
    | some o => exact absurd (Heap.lt_size (k1 _ _ e)) (Nat.lt_irrefl _)
  show wpAny _ _ _ _ _ { s with heap := h₁.push (seqObj "list" vs.toArray 0) }
  refine wpAny_bind (wpAny_holding (wpAny_call_entry slot_list_sort ⟨_, hD, rfl⟩ entry_list_sort ?_ (args_list_sort _)))
  refine sort_at (s := { s with heap := h₁.push (seqObj "list" vs.toArray 0) }) hD (hp.keep fun b ob e _ => keep_push _ _ _ (k1 _ _ e)) h3 fun h' c kp g => ?_
  refine ⟨_, rfl, wpAny_pure ⟨_, rfl, ?_⟩⟩
  have kk : ∀ b o, s.heap.get? b = some o → h'.get? b = some o := fun b o e => kp b o (fun z => by rw [z, fD] at e; cases e) (keep_push _ _ _ (k1 _ _ e))
  have big : h₁.objs.size ≠ 1 := fun e => by
    have := Heap.lt_size (k1 _ _ (M.K 3 (ko_3 X.w.params) (k3 X.w.params)))
    rw [e] at this
    exact absurd this (by decide)
  have al : AllIs ((ordK ps).map fun i => xs.getD i .none) ((ordK ps).map fun i => vs.getD i .none) := by
    have : ∀ l : List Nat, AllIs (l.map fun i => xs.getD i .none) (l.map fun i => vs.getD i .none) := fun l => by
      induction l with
      | nil => rfl
      | cons i l ih =>
        refine ⟨_, _, rfl, ?_, ih⟩
        show (xs.getD i V.none).is (vs.getD i Value.none)
        cases e : xs[i]? with
        | some v => obtain ⟨x, hx, iv⟩ := av.get e; rw [List.getD_eq_getElem?_getD, List.getD_eq_getElem?_getD, e, hx]; exact iv
        | none =>
          have : vs[i]? = none := by rw [List.getElem?_eq_none_iff] at e ⊢; rw [av.length]; exact e
          rw [List.getD_eq_getElem?_getD, List.getD_eq_getElem?_getD, e, this]; exact is_none
    exact this _
  have fs : σ h₁.objs.size = none := by
    cases e : σ h₁.objs.size with
    | none => rfl
    | some o => obtain ⟨ob, e'⟩ := (M.sim _ _ e).some; rw [fD] at e'; cases e'
  exact h _ _ _ h' _ (is_ref _) (hm _ (M.rd_new fD) fs big) (M.sim.new kk ⟨_, ⟨c, g⟩, al⟩) (.new fD kk)
theorem AllIs.of : ∀ {vs : List V} {xs : List Value}, vs.length = xs.length → (∀ (i : Nat) (v : V) (x : Value), vs[i]? = some v → xs[i]? = some x → v.is x) → AllIs vs xs
  | [], [], _, _ => rfl
  | v :: vs, x :: xs, hl, h => ⟨x, xs, rfl, h 0 v x rfl rfl, AllIs.of (by simpa using hl) fun i v x h1 h2 => h (i + 1) v x (by simpa using h1) (by simpa using h2)⟩
  | [], _ :: _, h, _ => by simp at h
  | _ :: _, [], h, _ => by simp at h
theorem SC_range1 : SC X r (.type "range") (fun vs σ Q => ∃ n : Int, vs = [.int n] ∧ Made X σ (.range 0 n) Q) := by
  intro A vs ys σ s Qa Q E R M ia ⟨n, e, hm⟩ h
  subst e
  obtain ⟨_, _, rfl, ⟨t, rfl⟩, rfl⟩ := ia
  refine call_range_1 ?_
  have kk := keep_push (h := s.heap) { cls := .type "range", data := .fields #[.int 0 s.toks, .int n t, .int 1 (s.toks + 1)] }
  exact h _ _ _ _ _ (is_ref _) (hm _ (M.rd_new (get_size _)) M.sim.fresh M.big) (M.sim.new kk ⟨_, _, _, Heap.get?_push_size _ rfl⟩) (.new (get_size _) kk)
theorem SC_range2 : SC X r (.type "range") (fun vs σ Q => ∃ a b : Int, vs = [.int a, .int b] ∧ Made X σ (.range a b) Q) := by
  intro A vs ys σ s Qa Q E R M ia ⟨a, b, e, hm⟩ h
  subst e
  obtain ⟨_, _, rfl, ⟨t, rfl⟩, _, _, rfl, ⟨u, rfl⟩, rfl⟩ := ia
  refine call_range_2 ?_
  have kk := keep_push (h := s.heap) { cls := .type "range", data := .fields #[.int a t, .int b u, .int 1 s.toks] }
  exact h _ _ _ _ _ (is_ref _) (hm _ (M.rd_new (get_size _)) M.sim.fresh M.big) (M.sim.new kk ⟨_, _, _, Heap.get?_push_size _ rfl⟩) (.new (get_size _) kk)
theorem SC_list : SC X r (.type "list") (fun vs σ Q => ∃ (l : Addr) (xs : List V), vs = [.ref l] ∧ ((rd X σ l = some (.list xs) ∨ rd X σ l = some (.tup xs)) ∨ ∃ (i : Int) (n : Nat), rd X σ l = some (.range i (i + (n : Nat))) ∧ -1000000 ≤ i ∧ i + (n : Nat) ≤ 1000000 ∧
    xs = (List.range n).map fun k => V.int (i + (k : Nat))) ∧ xs.length < 1000 ∧ Made X σ (.list xs) Q) := by
  intro A vs ys σ s Qa Q E R M ia ⟨l, xs, e, hl, hlen, hm⟩ h
  subst e
  obtain ⟨_, _, rfl, hx, rfl⟩ := ia
  cases hx
  have fin : ∀ (vs : List Value) h' c' tk, AllIs xs vs → (∀ b o', s.heap.get? b = some o' → h'.get? b = some o') → h'.get? s.heap.objs.size = some { cls := .type "list", dict := none, data := .seq vs.toArray c', slots := #[] } → Q (.ref s.heap.objs.size) { s with heap := h', toks := tk } :=
    fun vs h' c' tk av kk g => h _ _ _ h' tk (is_ref _) (hm _ (M.rd_new (get_size _)) M.sim.fresh M.big) (M.sim.new kk ⟨vs, ⟨c', g⟩, av⟩) (.new (get_size _) kk)
  rcases hl with (hl | hl) | ⟨i, n, hl, h1, h2, rfl⟩
  · obtain ⟨vs, ⟨n, g⟩, av⟩ := M.at hl
    exact call_list_seq l (.inl rfl) g rfl rfl (fun h' c' kk g' => fin vs h' c' _ av kk g') (by simp only [List.size_toArray]; rw [av.length, sizeLine_eq]; lia)
  · obtain ⟨vs, ⟨ob, g, c, n, d⟩, av⟩ := M.at hl
    exact call_list_seq l (.inr rfl) g c d (fun h' c' kk g' => fin vs h' c' _ av kk g') (by simp only [List.size_toArray]; rw [av.length, sizeLine_eq]; lia)
  · obtain ⟨t, u, v, hr⟩ := M.at hl
    have hn : n < 1000 := by simpa using hlen
    refine call_list_range R.h hr (small_one (by lia) (by lia) (by lia) (by lia)) (size_range i n) (by lia) fun h' tk acc c' kk g it => ?_
    have av : AllIs ((List.range n).map fun k => V.int (i + (k : Nat))) acc.toList := by
      refine AllIs.of (by rw [List.length_map, List.length_range, Array.length_toList]; exact it.1.symm) fun k v x h1 h2 => ?_
      obtain ⟨t, rfl⟩ := it.2 k x (by rw [← Array.getElem?_toList]; exact h2)
      obtain ⟨hk, e⟩ := List.getElem?_eq_some_iff.mp h1
      rw [List.getElem_map, List.getElem_range] at e
      subst e
      exact ⟨t, by rw [Int.mul_one]⟩
    exact fin acc.toList h' c' tk av kk (by simpa using g)
end
/-! NQ -/
section
variable {X : Cx} {r : Nat} {fi : Fi}
theorem pair_eq {A : Around} {s : Shared} {x y : Addr} {p q : Int} {σ : St} (hu : A.units + 5 < cLine) (M : Mid X σ s.heap) (hx : rd X σ x = some (.list [.int p, .int q])) (hy : rd X σ y = some (.list [.int p, .int q])) : PySem.SeqAt.EqAt A s (.ref x) (.ref y) true := by
  have rds : ∀ z, rd X σ z = some (.list [.int p, .int q]) → ∃ as, Reads s.heap (.ref z) (.list [.int p, .int q]) as := fun z hz => by
    obtain ⟨vs, ⟨n, g⟩, _, _, rfl, ⟨t, rfl⟩, _, _, rfl, ⟨u, rfl⟩, rfl⟩ := M.at hz
    exact ⟨_, .list g rfl rfl (.cons (.int _ _) (.cons (.int _ _) .nil))⟩
  obtain ⟨as, r1⟩ := rds x hx
  obtain ⟨bs, r2⟩ := rds y hy
  have := PySem.SeqAt.eqAt_reads _ _ A s _ _ as bs r1 r2 rfl rfl (by show A.units + min 1 1 < cLine; lia)
  have e : PyData.eqv (.list [.int p, .int q]) (.list [.int p, .int q]) = true := by simp [PyData.eqv, PyData.eqvAll]
  rwa [e] at this
theorem SE_eq_lists {l e : Expr} {pos : Pos} {F G : Tr V} (h5 : 5 < r) (hl : SE X r fi l F) (hr : SE X r fi e G) (hm : behindInMarks .Eq e = false) :
    SE X r fi (.Compare l [.Eq] [e] pos) (fun ρ σ Q => F ρ σ fun a σ₁ => G ρ σ₁ fun b σ₂ => ∃ (d c : Addr) (xs ys : List Addr), a = .ref d ∧ b = .ref c ∧ rd X σ₂ d = some (.list (xs.map V.ref)) ∧ rd X σ₂ c = some (.list (ys.map V.ref)) ∧ xs.length = ys.length ∧
      (∀ (i : Nat) (x y : Addr), xs[i]? = some x → ys[i]? = some y → ∃ p q : Int, rd X σ₂ x = some (.list [.int p, .int q]) ∧ rd X σ₂ y = some (.list [.int p, .int q])) ∧ Q (.bool true) σ₂) := by
  intro A B env ρ σ s Qa Q E R I hF h
  refine wpAny_Compare1 (hl A B env ρ σ s _ _ _ R I hF fun a x σ₁ h₁ k₁ ia hG I₁ => ?_) hm
  refine hr A B env ρ σ₁ _ _ _ _ R I₁ hG fun b y σ₂ h₂ k₂ ib ⟨d, c, xs, ys, e1, e2, hd, hc, hlen, hall, hq⟩ I₂ => ?_
  subst e1 e2; cases ia; cases ib
  obtain ⟨vs, hv, av⟩ := I₂.at hd
  obtain ⟨ws, hw, aw⟩ := I₂.at hc
  have l1 : vs.length = xs.length := by rw [av.length, List.length_map]
  have l2 : ws.length = ys.length := by rw [aw.length, List.length_map]
  refine PySem.SeqAt.eq_listAt (s := { s with heap := h₂, toks := k₂ }) (e := fun _ => true) hv.isList hw.isList (by simp only [List.size_toArray]; lia) (by have := R.u; lia) (fun j a1 a2 => ?_) ?_
  · simp only [List.size_toArray] at a1 a2
    have b1 : j < xs.length := by lia
    have b2 : j < ys.length := by lia
    obtain ⟨p, q, g1, g2⟩ := hall j _ _ (List.getElem?_eq_getElem b1) (List.getElem?_eq_getElem b2)
    obtain ⟨x, hx, ix⟩ := av.get (i := j) (v := .ref xs[j]) (by rw [List.getElem?_map, List.getElem?_eq_getElem b1]; rfl)
    obtain ⟨y, hy, iy⟩ := aw.get (i := j) (v := .ref ys[j]) (by rw [List.getElem?_map, List.getElem?_eq_getElem b2]; rfl)
    cases ix; cases iy
    have c1 : vs.toArray[j] = .ref xs[j] := by
      obtain ⟨_, e⟩ := List.getElem?_eq_some_iff.mp hx
      simpa using e
    have c2 : ws.toArray[j] = .ref ys[j] := by
      obtain ⟨_, e⟩ := List.getElem?_eq_some_iff.mp hy
      simpa using e
    rw [c1, c2]
    exact pair_eq (by show A.units + 1 + 5 < cLine; have := R.u; lia) I₂.mid g1 g2
  · have : (List.range vs.toArray.size).all (fun _ => true) = true := by simp
    rw [this]
    exact h _ _ σ₂ h₂ _ (is_bool _) hq I₂
end
set_option genCtorIdx false
/-! RA -/
abbrev TC := List V → St → (V → St → Prop) → Prop
/-! what is to be the same -/
structure Eqn where
  {α : Type}
  l : α
  r : α
noncomputable def Eqn.ok (q : Eqn) : Prop := q.l = q.r
noncomputable abbrev q1 {α : Type} (a b : α) : Eqn := ⟨a, b⟩
noncomputable def q2 (a b : Eqn) : Eqn := ⟨(a.l, b.l), (a.r, b.r)⟩
theorem q2_ok {a b : Eqn} (h : (q2 a b).ok) : a.ok ∧ b.ok := ⟨congrArg Prod.fst h, congrArg Prod.snd h⟩
/-! the parts of a term -/
noncomputable abbrev pz : Pos := ⟨0, 0, 0, 0⟩
noncomputable abbrev ez : Expr := .Constant .none 0 pz
noncomputable abbrev sz : Scope := ⟨.function, [], false, false, []⟩
structure Pj where
  a : Expr
  b : Expr
  c : Expr
  l : List Expr
  ks : List (Option Expr)
  s : Scope
  k : Nat
  p : Pos
noncomputable def hdE : List Expr → Expr
  | e :: _ => e
  | [] => ez
noncomputable def pj : Expr → Pj
  | .BinOp l _ r p => ⟨l, r, ez, [], [], sz, 0, p⟩
  | .UnaryOp _ x p => ⟨x, ez, ez, [], [], sz, 0, p⟩
  | .IfExp t a b p => ⟨t, a, b, [], [], sz, 0, p⟩
  | .Compare l _ rs p => ⟨l, hdE rs, ez, [], [], sz, 0, p⟩
  | .Call f as _ p => ⟨f, ez, ez, as, [], sz, 0, p⟩
  | .Constant _ k p => ⟨ez, ez, ez, [], [], sz, k, p⟩
  | .Attribute o _ p => ⟨o, ez, ez, [], [], sz, 0, p⟩
  | .Subscript o i p => ⟨o, i, ez, [], [], sz, 0, p⟩
  | .Name _ p => ⟨ez, ez, ez, [], [], sz, 0, p⟩
  | .List es p => ⟨ez, ez, ez, es, [], sz, 0, p⟩
  | .Tuple es k p => ⟨ez, ez, ez, es, [], sz, k, p⟩
  | .Dict ks vs p => ⟨ez, ez, ez, vs, ks, sz, 0, p⟩
  | .BoolOp _ vs p => ⟨ez, ez, ez, vs, [], sz, 0, p⟩
  | .ListComp e (⟨t, it, ifs, _⟩ :: _) s p => ⟨e, it, t, ifs, [], s, 0, p⟩
  | _ => ⟨ez, ez, ez, [], [], sz, 0, pz⟩
noncomputable def isC0 : Expr → Bool
  | .Call _ [] [] _ => true
  | _ => false
theorem isC0_not {o : Expr} (h : isC0 o = false) : NotCall o := fun f ps e => by rw [e] at h; cases h
structure Sj where
  a : Expr
  b : Expr
  x : List Stmt
  y : List Stmt
  p : Pos
noncomputable def sj : Stmt → Sj
  | .Return (some v) p => ⟨v, ez, [], [], p⟩
  | .Return none p => ⟨ez, ez, [], [], p⟩
  | .Assign (t :: _) v p => ⟨t, v, [], [], p⟩
  | .AugAssign t _ v p => ⟨t, v, [], [], p⟩
  | .For t it b _ p => ⟨t, it, b, [], p⟩
  | .While t b _ p => ⟨t, ez, b, [], p⟩
  | .If t b c p => ⟨t, ez, b, c, p⟩
  | .Expr v p => ⟨v, ez, [], [], p⟩
  | .Break p => ⟨ez, ez, [], [], p⟩
  | .Continue p => ⟨ez, ez, [], [], p⟩
  | _ => ⟨ez, ez, [], [], pz⟩
noncomputable def hdS : List Stmt → Stmt
  | s :: _ => s
  | [] => .Pass pz
noncomputable def isLoc (fi : Fi) (n : Nat) : Bool := match fi.ks.lookup n with
  | some .local => true
  | some .cell => true
  | _ => false
theorem SE_loc {X : Cx} {r : Nat} {fi : Fi} {n : Nat} {p : Pos} (h : isLoc fi n = true) : SE X r fi (.Name (st n) p) (fun ρ σ Q => bnd (ρ.lookup n) fun v => Q v σ) := by
  unfold isLoc at h
  cases e : fi.ks.lookup n with
  | none => rw [e] at h; cases h
  | some k => cases k with
    | «local» => exact SE_local rfl e
    | cell => exact SE_cell rfl e
    | _ => rw [e] at h; cases h
noncomputable def isLhs (fi : Fi) (n : Nat) : Bool := match fi.ks.lookup n with
  | some .local => true
  | some .cell => fi.own
  | _ => false
theorem isLhs_ok {fi : Fi} {n : Nat} (h : isLhs fi n = true) : Lhs fi n := by
  unfold isLhs at h
  cases e : fi.ks.lookup n with
  | none => rw [e] at h; cases h
  | some k => cases k with
    | «local» => exact .inl e
    | cell => rw [e] at h; exact .inr ⟨h, e⟩
    | _ => rw [e] at h; cases h
/-! the own terms: what they do, what they are, that they are sound -/
structure Hy (X : Cx) (r : Nat) (Γ : Nat → TC) : Prop where
  r6 : 6 ≤ r
  sc : ∀ f, SC X r (.ref f) (Γ f)
structure Ve where
  d : Cx → (Nat → TC) → Tr V
  m : Params → Fi → Expr → Eqn
  ok : ∀ (X : Cx) (r : Nat) (Γ : Nat → TC) (fi : Fi) (e : Expr), Hy X r Γ → (m X.w.params fi e).ok → SE X r fi e (d X Γ)
structure Te where
  d : Cx → (Nat → TC) → Tr Bool
  m : Params → Fi → Expr → Eqn
  ok : ∀ (X : Cx) (r : Nat) (Γ : Nat → TC) (fi : Fi) (e : Expr), Hy X r Γ → (m X.w.params fi e).ok → ST X r fi e (d X Γ)
structure Le where
  d : Cx → (Nat → TC) → Tr (List V)
  m : Params → Fi → List Expr → Eqn
  ok : ∀ (X : Cx) (r : Nat) (Γ : Nat → TC) (fi : Fi) (e : List Expr), Hy X r Γ → (m X.w.params fi e).ok → SL X r fi e (d X Γ)
structure Pe where
  d : Cx → (Nat → TC) → Tr (List V)
  ns : List Nat
  m : Params → Fi → List (Option Expr) → List Expr → Eqn
  ok : ∀ (X : Cx) (r : Nat) (Γ : Nat → TC) (fi : Fi) (ks : List (Option Expr)) (e : List Expr), Hy X r Γ → (m X.w.params fi ks e).ok → SP X r fi ks e ns (d X Γ)
structure Be where
  a : Cx → (Nat → TC) → Tr Bool
  o : Cx → (Nat → TC) → Tr Bool
  m : Params → Fi → List Expr → Eqn
  ok : ∀ (X : Cx) (r : Nat) (Γ : Nat → TC) (fi : Fi) (e : List Expr), Hy X r Γ → (m X.w.params fi e).ok → SA X r fi .And e (a X Γ) ∧ SA X r fi .Or e (o X Γ)
structure Cm where
  d : Cx → (Nat → TC) → Bl
  m : Params → Fi → List Stmt → Eqn
  ok : ∀ (X : Cx) (r : Nat) (Γ : Nat → TC) (fi : Fi) (e : List Stmt), Hy X r Γ → (m X.w.params fi e).ok → SS X r fi e (d X Γ)

/-- what is yet to be done; what is to be done behind a branch -/
noncomputable def go (X : Cx) (Γ : Nat → TC) (k : Cm) : Bl := k.d X Γ
noncomputable def gx (X : Cx) (Γ : Nat → TC) (k : Cm) (Q : Fl → Loc → St → Prop) : Fl → Loc → St → Prop
  | .next, ρ, σ => go X Γ k ρ σ Q
  | .brk, ρ, σ => Q .brk ρ σ
  | .cont, ρ, σ => Q .cont ρ σ
  | .ret v, ρ, σ => Q (.ret v) ρ σ
noncomputable abbrev Ve.loc (n : Nat) : Ve where
  d := fun _ _ ρ σ Q => bnd (ρ.lookup n) fun v => Q v σ
  m := fun _ fi e => q2 (q1 e (.Name (st n) (pj e).p)) (q1 (isLoc fi n) true)
  ok := fun X r Γ fi e H h => by
    obtain ⟨h1, h2⟩ := q2_ok h
    rw [show e = _ from h1]; exact SE_loc h2
noncomputable abbrev Ve.cst (n : Nat) (i : Int) : Ve where
  d := fun _ _ _ σ Q => Q (.int i) σ
  m := fun _ fi e => q2 (q1 e (.Name (st n) (pj e).p)) (q2 (q1 (fi.ks.lookup n) (some .globalImplicit)) (q1 (gTab.lookup n) (some (((gTab.lookup n).getD (0, .none)).1, .int i (match (gTab.lookup n) with | some (_, .int _ t) => t | _ => 0)))))
  ok := fun X r Γ fi e H h => by
    obtain ⟨h1, h2⟩ := q2_ok h
    obtain ⟨h2, h3⟩ := q2_ok h2
    rw [show e = _ from h1]; exact SE_const rfl h2 h3
noncomputable abbrev Ve.int (i : Int) : Ve where
  d := fun _ _ _ σ Q => Q (.int i) σ
  m := fun _ _ e => q1 e (.Constant (.int i) (pj e).k (pj e).p)
  ok := fun X r Γ fi e H h => by rw [show e = _ from h]; exact SE_int
noncomputable abbrev Ve.bool (b : Bool) : Ve where
  d := fun _ _ _ σ Q => Q (.bool b) σ
  m := fun _ _ e => q1 e (.Constant (.bool b) (pj e).k (pj e).p)
  ok := fun X r Γ fi e H h => by rw [show e = _ from h]; exact SE_bool
noncomputable abbrev Ve.non : Ve where
  d := fun _ _ _ σ Q => Q .none σ
  m := fun _ _ e => q1 e (.Constant .none (pj e).k (pj e).p)
  ok := fun X r Γ fi e H h => by rw [show e = _ from h]; exact SE_none
noncomputable abbrev Ve.str (n : Nat) : Ve where
  d := fun _ _ _ σ Q => Q (.str n) σ
  m := fun _ _ e => q1 e (.Constant (.str (st n)) (pj e).k (pj e).p)
  ok := fun X r Γ fi e H h => by rw [show e = _ from h]; exact SE_str rfl
noncomputable abbrev Ve.bin (op : Operator) (l k : Ve) : Ve where
  d := fun X Γ ρ σ Q => l.d X Γ ρ σ fun a σ₁ => k.d X Γ ρ σ₁ fun b σ₂ => bnd (binI op a b) fun v => Q v σ₂
  m := fun P fi e => q2 (q1 e (.BinOp (pj e).a op (pj e).b (pj e).p)) (q2 (l.m P fi (pj e).a) (k.m P fi (pj e).b))
  ok := fun X r Γ fi e H h => by
    obtain ⟨h1, h2⟩ := q2_ok h
    obtain ⟨h2, h3⟩ := q2_ok h2
    rw [show e = _ from h1]; exact SE_bin (l.ok _ _ _ _ _ H h2) (k.ok _ _ _ _ _ H h3)
noncomputable abbrev Ve.neg (x : Ve) : Ve where
  d := fun X Γ ρ σ Q => x.d X Γ ρ σ fun a σ₁ => anInt a fun i => Q (.int (-i)) σ₁
  m := fun P fi e => q2 (q1 e (.UnaryOp .USub (pj e).a (pj e).p)) (x.m P fi (pj e).a)
  ok := fun X r Γ fi e H h => by
    obtain ⟨h1, h2⟩ := q2_ok h
    rw [show e = _ from h1]; exact SE_neg (x.ok _ _ _ _ _ H h2)
noncomputable abbrev Ve.cmp (op : CmpOp) (l k : Ve) : Ve where
  d := fun X Γ ρ σ Q => l.d X Γ ρ σ fun a σ₁ => k.d X Γ ρ σ₁ fun b σ₂ => bnd (cmpB X σ₂ op a b) fun t => Q (.bool t) σ₂
  m := fun P fi e => q2 (q1 e (.Compare (pj e).a [op] [(pj e).b] (pj e).p)) (q2 (q1 (behindInMarks op (pj e).b) false) (q2 (l.m P fi (pj e).a) (k.m P fi (pj e).b)))
  ok := fun X r Γ fi e H h => by
    obtain ⟨h1, h2⟩ := q2_ok h
    obtain ⟨h2, h3⟩ := q2_ok h2
    obtain ⟨h3, h4⟩ := q2_ok h3
    rw [show e = _ from h1]; exact SE_cmp (l.ok _ _ _ _ _ H h3) (k.ok _ _ _ _ _ H h4) h2
noncomputable abbrev Ve.eqL (l k : Ve) : Ve where
  d := fun X Γ ρ σ Q => l.d X Γ ρ σ fun a σ₁ => k.d X Γ ρ σ₁ fun b σ₂ => ∃ (d c : Addr) (xs ys : List Addr), a = .ref d ∧ b = .ref c ∧ rd X σ₂ d = some (.list (xs.map V.ref)) ∧ rd X σ₂ c = some (.list (ys.map V.ref)) ∧ xs.length = ys.length ∧
      (∀ (i : Nat) (x y : Addr), xs[i]? = some x → ys[i]? = some y → ∃ p q : Int, rd X σ₂ x = some (.list [.int p, .int q]) ∧ rd X σ₂ y = some (.list [.int p, .int q])) ∧ Q (.bool true) σ₂
  m := fun P fi e => q2 (q1 e (.Compare (pj e).a [.Eq] [(pj e).b] (pj e).p)) (q2 (q1 (behindInMarks .Eq (pj e).b) false) (q2 (l.m P fi (pj e).a) (k.m P fi (pj e).b)))
  ok := fun X r Γ fi e H h => by
    obtain ⟨h1, h2⟩ := q2_ok h
    obtain ⟨h2, h3⟩ := q2_ok h2
    obtain ⟨h3, h4⟩ := q2_ok h3
    rw [show e = _ from h1]; exact SE_eq_lists H.r6 (l.ok _ _ _ _ _ H h3) (k.ok _ _ _ _ _ H h4) h2
noncomputable abbrev Ve.ifx (t : Te) (a b : Ve) : Ve where
  d := fun X Γ ρ σ Q => t.d X Γ ρ σ fun p σ₁ => (p = true → a.d X Γ ρ σ₁ Q) ∧ (p = false → b.d X Γ ρ σ₁ Q)
  m := fun P fi e => q2 (q1 e (.IfExp (pj e).a (pj e).b (pj e).c (pj e).p)) (q2 (t.m P fi (pj e).a) (q2 (a.m P fi (pj e).b) (b.m P fi (pj e).c)))
  ok := fun X r Γ fi e H h => by
    obtain ⟨h1, h2⟩ := q2_ok h
    obtain ⟨h2, h3⟩ := q2_ok h2
    obtain ⟨h3, h4⟩ := q2_ok h3
    rw [show e = _ from h1]; exact SE_ifexp (t.ok _ _ _ _ _ H h2) (a.ok _ _ _ _ _ H h3) (b.ok _ _ _ _ _ H h4)
noncomputable abbrev Ve.attr (o : Ve) (n : Nat) : Ve where
  d := fun X Γ ρ σ Q => o.d X Γ ρ σ fun a σ₁ => bnd (attrV X σ₁ a n) fun v => Q v σ₁
  m := fun P fi e => q2 (q1 e (.Attribute (pj e).a (st n) (pj e).p)) (q2 (q1 (isC0 (pj e).a) false) (o.m P fi (pj e).a))
  ok := fun X r Γ fi e H h => by
    obtain ⟨h1, h2⟩ := q2_ok h
    obtain ⟨h2, h3⟩ := q2_ok h2
    rw [show e = _ from h1]; exact SE_attr rfl (o.ok _ _ _ _ _ H h3) (isC0_not h2)
noncomputable abbrev Ve.sub (o i : Ve) : Ve where
  d := fun X Γ ρ σ Q => o.d X Γ ρ σ fun a σ₁ => i.d X Γ ρ σ₁ fun b σ₂ => bnd (getV X σ₂ a b) fun v => Q v σ₂
  m := fun P fi e => q2 (q1 e (.Subscript (pj e).a (pj e).b (pj e).p)) (q2 (q1 (fun x y => subscripted (pj e).b false x y) (fun x y => operate [x, y] (getItem x y))) (q2 (o.m P fi (pj e).a) (i.m P fi (pj e).b)))
  ok := fun X r Γ fi e H h => by
    obtain ⟨h1, h2⟩ := q2_ok h
    obtain ⟨h2, h3⟩ := q2_ok h2
    obtain ⟨h3, h4⟩ := q2_ok h3
    rw [show e = _ from h1]; exact SE_sub (o.ok _ _ _ _ _ H h3) (i.ok _ _ _ _ _ H h4) fun x y => congrFun (congrFun h2 x) y
noncomputable abbrev Ve.list (es : Le) : Ve where
  d := fun X Γ ρ σ Q => es.d X Γ ρ σ fun vs σ₁ => vs.length < 1000 ∧ Made X σ₁ (.list vs) Q
  m := fun P fi e => q2 (q1 e (.List (pj e).l (pj e).p)) (es.m P fi (pj e).l)
  ok := fun X r Γ fi e H h => by
    obtain ⟨h1, h2⟩ := q2_ok h
    rw [show e = _ from h1]; exact SE_list (es.ok _ _ _ _ _ H h2)
noncomputable abbrev Ve.tup (es : Le) : Ve where
  d := fun X Γ ρ σ Q => es.d X Γ ρ σ fun vs σ₁ => vs.length < 1000 ∧ Made X σ₁ (.tup vs) Q
  m := fun P fi e => q2 (q1 e (.Tuple (pj e).l (pj e).k (pj e).p)) (es.m P fi (pj e).l)
  ok := fun X r Γ fi e H h => by
    obtain ⟨h1, h2⟩ := q2_ok h
    rw [show e = _ from h1]; exact SE_tuple (es.ok _ _ _ _ _ H h2)
noncomputable abbrev Ve.idict : Ve where
  d := fun X _ _ σ Q => Made X σ (.idict []) Q
  m := fun _ _ e => q1 e (.Dict [] [] (pj e).p)
  ok := fun X r Γ fi e H h => by rw [show e = _ from h]; exact SE_idict
noncomputable abbrev Ve.pdict : Ve where
  d := fun X _ _ σ Q => Made X σ (.pdict []) Q
  m := fun _ _ e => q1 e (.Dict [] [] (pj e).p)
  ok := fun X r Γ fi e H h => by rw [show e = _ from h]; exact SE_pdict
noncomputable abbrev Pe.nil : Pe where
  d := fun _ _ _ σ Q => Q [] σ
  ns := []
  m := fun _ _ ks es => q1 (ks, es) ([], [])
  ok := fun X r Γ fi ks es H h => by
    have h : (ks, es) = ([], []) := h
    cases h; exact SP_nil
noncomputable abbrev Pe.cons (n : Nat) (x : Ve) (p : Pe) : Pe where
  d := fun X Γ ρ σ Q => x.d X Γ ρ σ fun v σ₁ => p.d X Γ ρ σ₁ fun vs σ₂ => Q (v :: vs) σ₂
  ns := n :: p.ns
  m := fun P fi ks es => q2 (q1 ks (some (.Constant (.str (st n)) (pj ((ks.headD none).getD ez)).k (pj ((ks.headD none).getD ez)).p) :: ks.tail)) (q2 (q1 es (hdE es :: es.tail)) (q2 (x.m P fi (hdE es)) (p.m P fi ks.tail es.tail)))
  ok := fun X r Γ fi ks es H h => by
    obtain ⟨h1, h2⟩ := q2_ok h
    obtain ⟨h2, h3⟩ := q2_ok h2
    obtain ⟨h3, h4⟩ := q2_ok h3
    rw [show ks = _ from h1, show es = _ from h2]; exact SP_cons rfl (x.ok _ _ _ _ _ H h3) (p.ok _ _ _ _ _ _ H h4)
noncomputable abbrev Ve.sdict (p : Pe) : Ve where
  d := fun X Γ ρ σ Q => ∀ a, rd X σ a = none → σ a = none → a ≠ 1 → p.d X Γ ρ (upd σ a (.sdict [])) fun vs σ₁ => σ₁ a = some (.sdict []) ∧ Q (.ref a) (upd σ₁ a (.sdict (p.ns.zip vs)))
  m := fun P fi e => q2 (q1 e (.Dict (pj e).ks (pj e).l (pj e).p)) (q2 (q1 ((pj e).ks.all (·.isSome)) true) (q2 (q1 (pj e).ks.length (pj e).l.length) (q2 (q1 (pj e).ks.isEmpty false) (q2 (q1 (decide ((pj e).ks.length ≤ 15)) true) (q2 (q1 (decide p.ns.Nodup) true) (p.m P fi (pj e).ks (pj e).l))))))
  ok := fun X r Γ fi e H h => by
    obtain ⟨h1, h2⟩ := q2_ok h
    obtain ⟨h2, h3⟩ := q2_ok h2
    obtain ⟨h3, h4⟩ := q2_ok h3
    obtain ⟨h4, h5⟩ := q2_ok h4
    obtain ⟨h5, h6⟩ := q2_ok h5
    obtain ⟨h6, h7⟩ := q2_ok h6
    rw [show e = _ from h1]; exact SE_sdict (p.ok _ _ _ _ _ _ H h7) h2 h3 (fun q => by have h4 : (pj e).ks.isEmpty = false := h4; rw [q] at h4; cases h4) (of_decide_eq_true h5) (of_decide_eq_true h6)
noncomputable def cOk (fi : Fi) (sn : List (Nat × NameKind)) (n : Nat) : Bool := sn.all (fun p => p.2 != .cell) && (decide (sn.map (·.1)).Nodup && (sn.all (fun p => p.2 != .free || fi.ks.lookup p.1 == some .cell) && sn.lookup n == some .local))
theorem cOk_ok {fi : Fi} {s : Scope} {sn : List (Nat × NameKind)} {n : Nat} (h : cOk fi sn n = true) (h1 : s.names = sn.map fun p => (st p.1, p.2)) (h2 : s.kind = .function) : CompOk fi s sn n := by
  unfold cOk at h
  rw [Bool.and_eq_true, Bool.and_eq_true, Bool.and_eq_true, List.all_eq_true, List.all_eq_true] at h
  obtain ⟨a, b, c, d⟩ := h
  refine ⟨h1, h2, fun p hp e => ?_, of_decide_eq_true b, fun p hp e => ?_, eq_of_beq d⟩
  · have := a p hp; rw [e] at this; cases this
  · have := c p hp; rw [e] at this; exact eq_of_beq this
noncomputable def cq (fi : Fi) (n : Nat) (sn : List (Nat × NameKind)) (e : Expr) (ifs : List Expr) : Eqn :=
  q2 (q1 e (.ListComp (pj e).a [⟨.Name (st n) (pj (pj e).c).p, (pj e).b, ifs, 0⟩] (pj e).s (pj e).p)) (q2 (q1 (cOk fi sn n) true) (q2 (q1 (pj e).s.names (sn.map fun p => (st p.1, p.2))) (q2 (q1 (pj e).s.kind .function) (q1 (fun env v => foldedSetIterable (pj e).b env v) (fun _ v => pure v)))))
theorem cq_ok {fi : Fi} {n : Nat} {sn : List (Nat × NameKind)} {e : Expr} {ifs : List Expr} (h : (cq fi n sn e ifs).ok) : e = .ListComp (pj e).a [⟨.Name (st n) (pj (pj e).c).p, (pj e).b, ifs, 0⟩] (pj e).s (pj e).p ∧ CompOk fi (pj e).s sn n ∧ ∀ env v, foldedSetIterable (pj e).b env v = pure v := by
  obtain ⟨h1, h2⟩ := q2_ok h
  obtain ⟨h2, h3⟩ := q2_ok h2
  obtain ⟨h3, h4⟩ := q2_ok h3
  obtain ⟨h4, h5⟩ := q2_ok h4
  exact ⟨h1, cOk_ok h2 h3 h4, fun env v => congrFun (congrFun h5 env) v⟩
noncomputable abbrev Ve.comp (n : Nat) (sn : List (Nat × NameKind)) (it x : Ve) : Ve where
  d := fun X Γ ρ σ Q => it.d X Γ ρ σ fun v σ₁ => CompB X sn n v (fun _ σ Q => Q true σ) (x.d X Γ) ρ σ₁ Q
  m := fun P fi e => q2 (cq fi n sn e []) (q2 (it.m P fi (pj e).b) (x.m P (compFi fi sn) (pj e).a))
  ok := fun X r Γ fi e H h => by
    obtain ⟨h1, h2⟩ := q2_ok h
    obtain ⟨h2, h3⟩ := q2_ok h2
    obtain ⟨e1, e2, e3⟩ := cq_ok h1
    rw [e1]; exact SE_comp rfl e2 (it.ok _ _ _ _ _ H h2) SI_nil (x.ok _ _ _ _ _ H h3) e3
noncomputable abbrev Ve.compf (n : Nat) (sn : List (Nat × NameKind)) (it : Ve) (f : Te) (x : Ve) : Ve where
  d := fun X Γ ρ σ Q => it.d X Γ ρ σ fun v σ₁ => CompB X sn n v (f.d X Γ) (x.d X Γ) ρ σ₁ Q
  m := fun P fi e => q2 (cq fi n sn e [hdE (pj e).l]) (q2 (it.m P fi (pj e).b) (q2 (f.m P (compFi fi sn) (hdE (pj e).l)) (x.m P (compFi fi sn) (pj e).a)))
  ok := fun X r Γ fi e H h => by
    obtain ⟨h1, h2⟩ := q2_ok h
    obtain ⟨h2, h3⟩ := q2_ok h2
    obtain ⟨h3, h4⟩ := q2_ok h3
    obtain ⟨e1, e2, e3⟩ := cq_ok h1
    rw [e1]; exact SE_comp rfl e2 (it.ok _ _ _ _ _ H h2) (SI_one (f.ok _ _ _ _ _ H h3)) (x.ok _ _ _ _ _ H h4) e3
/-! lists of values, of tests -/
noncomputable abbrev Le.nil : Le where
  d := fun _ _ _ σ Q => Q [] σ
  m := fun _ _ es => q1 es []
  ok := fun X r Γ fi es H h => by rw [show es = _ from h]; exact SL_nil
noncomputable abbrev Le.cons (x : Ve) (l : Le) : Le where
  d := fun X Γ ρ σ Q => x.d X Γ ρ σ fun v σ₁ => l.d X Γ ρ σ₁ fun vs σ₂ => Q (v :: vs) σ₂
  m := fun P fi es => q2 (q1 es (hdE es :: es.tail)) (q2 (q1 (fun env => starEach (hdE es :: es.tail) env) (fun env => (false, eval (hdE es) env) :: starEach es.tail env)) (q2 (x.m P fi (hdE es)) (l.m P fi es.tail)))
  ok := fun X r Γ fi es H h => by
    obtain ⟨h1, h2⟩ := q2_ok h
    obtain ⟨h2, h3⟩ := q2_ok h2
    obtain ⟨h3, h4⟩ := q2_ok h3
    rw [show es = _ from h1]; exact SL_cons (x.ok _ _ _ _ _ H h3) (l.ok _ _ _ _ _ H h4) (congrFun h2)
noncomputable abbrev Be.nil : Be where
  a := fun _ _ _ σ Q => Q true σ
  o := fun _ _ _ σ Q => Q false σ
  m := fun _ _ es => q1 es []
  ok := fun X r Γ fi es H h => by rw [show es = _ from h]; exact ⟨SA_and_nil, SA_or_nil⟩
noncomputable abbrev Be.cons (t : Te) (l : Be) : Be where
  a := fun X Γ ρ σ Q => t.d X Γ ρ σ fun b σ₁ => (b = true → l.a X Γ ρ σ₁ Q) ∧ (b = false → Q false σ₁)
  o := fun X Γ ρ σ Q => t.d X Γ ρ σ fun b σ₁ => (b = true → Q true σ₁) ∧ (b = false → l.o X Γ ρ σ₁ Q)
  m := fun P fi es => q2 (q1 es (hdE es :: es.tail)) (q2 (t.m P fi (hdE es)) (l.m P fi es.tail))
  ok := fun X r Γ fi es H h => by
    obtain ⟨h1, h2⟩ := q2_ok h
    obtain ⟨h2, h3⟩ := q2_ok h2
    obtain ⟨k1, k2⟩ := l.ok _ _ _ _ _ H h3
    rw [show es = _ from h1]; exact ⟨SA_and (t.ok _ _ _ _ _ H h2) k1, SA_or (t.ok _ _ _ _ _ H h2) k2⟩
noncomputable abbrev Te.cmp (op : CmpOp) (l k : Ve) : Te where
  d := fun X Γ ρ σ Q => l.d X Γ ρ σ fun a σ₁ => k.d X Γ ρ σ₁ fun b σ₂ => bnd (cmpB X σ₂ op a b) fun t => Q t σ₂
  m := fun P fi e => q2 (q1 e (.Compare (pj e).a [op] [(pj e).b] (pj e).p)) (q2 (q1 (behindInMarks op (pj e).b) false) (q2 (l.m P fi (pj e).a) (k.m P fi (pj e).b)))
  ok := fun X r Γ fi e H h => by
    obtain ⟨h1, h2⟩ := q2_ok h
    obtain ⟨h2, h3⟩ := q2_ok h2
    obtain ⟨h3, h4⟩ := q2_ok h3
    rw [show e = _ from h1]; exact ST_cmp (l.ok _ _ _ _ _ H h3) (k.ok _ _ _ _ _ H h4) h2
noncomputable abbrev Te.not (t : Te) : Te where
  d := fun X Γ ρ σ Q => t.d X Γ ρ σ fun b σ₁ => Q (!b) σ₁
  m := fun P fi e => q2 (q1 e (.UnaryOp .Not (pj e).a (pj e).p)) (t.m P fi (pj e).a)
  ok := fun X r Γ fi e H h => by
    obtain ⟨h1, h2⟩ := q2_ok h
    rw [show e = _ from h1]; exact ST_not (t.ok _ _ _ _ _ H h2)
noncomputable abbrev Te.and (l : Be) : Te where
  d := l.a
  m := fun P fi e => q2 (q1 e (.BoolOp .And (pj e).l (pj e).p)) (l.m P fi (pj e).l)
  ok := fun X r Γ fi e H h => by
    obtain ⟨h1, h2⟩ := q2_ok h
    rw [show e = _ from h1]; exact ST_bool (l.ok _ _ _ _ _ H h2).1
noncomputable abbrev Te.or (l : Be) : Te where
  d := l.o
  m := fun P fi e => q2 (q1 e (.BoolOp .Or (pj e).l (pj e).p)) (l.m P fi (pj e).l)
  ok := fun X r Γ fi e H h => by
    obtain ⟨h1, h2⟩ := q2_ok h
    rw [show e = _ from h1]; exact ST_bool (l.ok _ _ _ _ _ H h2).2
noncomputable abbrev Te.val (x : Ve) : Te where
  d := fun X Γ ρ σ Q => x.d X Γ ρ σ fun a σ₁ => bnd (truthV X σ₁ a) fun t => Q t σ₁
  m := fun P fi e => q2 (q1 (fun env whole => isTrue e env whole) (fun env whole => do let v ← whole; standAt e.pos; holding [v] (truthy v))) (x.m P fi e)
  ok := fun X r Γ fi e H h => by
    obtain ⟨h1, h2⟩ := q2_ok h
    exact ST_val (x.ok _ _ _ _ _ H h2) fun env whole => congrFun (congrFun h1 env) whole
/-! calls -/
noncomputable def hp (es : List Expr) : Eqn := q1 (fun (env : Env) (pos : Pos) => (backTo pos (starEach es env)).any (·.1)) (fun _ _ => false)
noncomputable def nq (P : Params) (fi : Fi) (n f : Nat) : Eqn := q2 (q1 ((gTab.lookup n).map (·.2)) (some (.ref f))) (q2 (q1 (fi.ks.lookup n) (some .globalImplicit)) (q1 (keepIn (KK P) (.ref f)) true))
theorem nq_ok {X : Cx} {fi : Fi} {n f : Nat} (h : (nq X.w.params fi n f).ok) : NameIs X n (.ref f) ∧ fi.ks.lookup n = some .globalImplicit ∧ Keeps X (.ref f) := by
  obtain ⟨h1, h2⟩ := q2_ok h
  obtain ⟨h2, h3⟩ := q2_ok h2
  obtain ⟨⟨t, f'⟩, e, e'⟩ := Option.map_eq_some_iff.mp h1
  cases e'
  exact ⟨.inl ⟨t, e⟩, h2, keeps_r h3⟩
noncomputable abbrev Ve.call0 (n f : Nat) : Ve where
  d := fun X Γ ρ σ Q => Γ f [] σ Q
  m := fun P fi x => q2 (q1 x (.Call (.Name (st n) (pj (pj x).a).p) [] [] (pj x).p)) (nq P fi n f)
  ok := fun X r Γ fi e H h => by
    obtain ⟨h1, h2⟩ := q2_ok h
    obtain ⟨k1, k2, k3⟩ := nq_ok h2
    rw [show e = _ from h1]; exact SE_call0 rfl k1 k2 k3 (H.sc f)
noncomputable abbrev Ve.call (n f : Nat) (x : Ve) (l : Le) : Ve where
  d := fun X Γ ρ σ Q => (Le.cons x l).d X Γ ρ σ fun vs σ₁ => Γ f vs σ₁ Q
  m := fun P fi e => q2 (q1 e (.Call (.Name (st n) (pj (pj e).a).p) (hdE (pj e).l :: (pj e).l.tail) [] (pj e).p)) (q2 (nq P fi n f) (q2 (hp (pj e).l.tail) ((Le.cons x l).m P fi (hdE (pj e).l :: (pj e).l.tail))))
  ok := fun X r Γ fi e H h => by
    obtain ⟨h1, h2⟩ := q2_ok h
    obtain ⟨h2, h3⟩ := q2_ok h2
    obtain ⟨h3, h4⟩ := q2_ok h3
    obtain ⟨k1, k2, k3⟩ := nq_ok h2
    obtain ⟨_, h5⟩ := q2_ok h4
    obtain ⟨h5, _⟩ := q2_ok h5
    rw [show e = _ from h1]; exact SE_call rfl k1 k2 k3 (H.sc f) ((Le.cons x l).ok _ _ _ _ _ H h4) (congrFun h5) fun env pos => congrFun (congrFun h3 env) pos
/-- a builtin -/
structure Bi where
  n : Nat
  f : Value
  T : Cx → TC
  hn : ∀ X : Cx, NameIs X n f
  hk : ∀ X : Cx, Keeps X f
  hs : ∀ (X : Cx) (r : Nat), SC X r f (T X)
theorem bn {X : Cx} {n : Nat} {x : Str} {f : Value} (h1 : gTab.find? (fun e => e.1 == n) = none) (e : st n = x) (h2 : bootBuiltins x = some f) (h3 : (x == ("__name__" : Str)) = false) : NameIs X n f := .inr ⟨h1, by rw [e]; exact h2, by rw [e]; exact h3⟩
noncomputable abbrev bLen : Bi := ⟨56, .builtin "len", fun X vs σ Q => bnd (lenV X vs σ) fun v => Q v σ, fun _ => bn (x := "len") rfl (by kernel_rfl!) (by kernel_rfl!) (by kernel_rfl!), fun _ => keeps_b _, fun _ _ => SC_len⟩
noncomputable abbrev bMax : Bi := ⟨70, .builtin "max", fun X vs σ Q => bnd (maxV vs) fun v => Q v σ, fun _ => bn (x := "max") rfl (by kernel_rfl!) (by kernel_rfl!) (by kernel_rfl!), fun _ => keeps_b _, fun _ _ => SC_max⟩
noncomputable abbrev bMin : Bi := ⟨71, .builtin "min", fun X vs σ Q => bnd (minV vs) fun v => Q v σ, fun _ => bn (x := "min") rfl (by kernel_rfl!) (by kernel_rfl!) (by kernel_rfl!), fun _ => keeps_b _, fun _ _ => SC_min⟩
noncomputable abbrev bAbs : Bi := ⟨74, .builtin "abs", fun X vs σ Q => bnd (absV vs) fun v => Q v σ, fun _ => bn (x := "abs") rfl (by kernel_rfl!) (by kernel_rfl!) (by kernel_rfl!), fun _ => keeps_b _, fun _ _ => SC_abs⟩
noncomputable def tSorted (X : Cx) : TC := fun vs σ Q => ∃ (l : Addr) (xs : List V) (ps : List (Int × Int)), vs = [.ref l] ∧ rd X σ l = some (.list xs) ∧ xs.length = ps.length ∧ ps.length ≤ 3 ∧
    (∀ (i : Nat) (v : V) (p : Int × Int), xs[i]? = some v → ps[i]? = some p → ∃ a, v = .ref a ∧ rd X σ a = some (.tup [.int p.1, .int p.2])) ∧ Made X σ (.list ((ordK ps).map fun i => xs.getD i .none)) Q
noncomputable def tRange1 (X : Cx) : TC := fun vs σ Q => ∃ n : Int, vs = [.int n] ∧ Made X σ (.range 0 n) Q
noncomputable def tRange2 (X : Cx) : TC := fun vs σ Q => ∃ a b : Int, vs = [.int a, .int b] ∧ Made X σ (.range a b) Q
noncomputable def tList (X : Cx) : TC := fun vs σ Q => ∃ (l : Addr) (xs : List V), vs = [.ref l] ∧ ((rd X σ l = some (.list xs) ∨ rd X σ l = some (.tup xs)) ∨ ∃ (i : Int) (n : Nat), rd X σ l = some (.range i (i + (n : Nat))) ∧ -1000000 ≤ i ∧ i + (n : Nat) ≤ 1000000 ∧
    xs = (List.range n).map fun k => V.int (i + (k : Nat))) ∧ xs.length < 1000 ∧ Made X σ (.list xs) Q
noncomputable abbrev bSorted : Bi := ⟨179, .builtin "sorted", tSorted, fun _ => bn (x := "sorted") rfl (by kernel_rfl!) (by kernel_rfl!) (by kernel_rfl!), fun _ => keeps_b _, fun _ _ => SC_sorted⟩
noncomputable abbrev bRange1 : Bi := ⟨116, .type "range", tRange1, fun _ => bn (x := "range") rfl (by kernel_rfl!) (by kernel_rfl!) (by kernel_rfl!), fun _ => keeps_t _, fun _ _ => SC_range1⟩
noncomputable abbrev bRange2 : Bi := ⟨116, .type "range", tRange2, bRange1.hn, fun _ => keeps_t _, fun _ _ => SC_range2⟩
noncomputable abbrev bList : Bi := ⟨98, .type "list", tList, fun _ => bn (x := "list") rfl (by kernel_rfl!) (by kernel_rfl!) (by kernel_rfl!), fun _ => keeps_t _, fun _ _ => SC_list⟩
noncomputable abbrev Ve.bi (b : Bi) (x : Ve) (l : Le) : Ve where
  d := fun X Γ ρ σ Q => (Le.cons x l).d X Γ ρ σ fun vs σ₁ => b.T X vs σ₁ Q
  m := fun P fi e => q2 (q1 e (.Call (.Name (st b.n) (pj (pj e).a).p) (hdE (pj e).l :: (pj e).l.tail) [] (pj e).p)) (q2 (q1 (fi.ks.lookup b.n) (some .globalImplicit)) (q2 (hp (pj e).l.tail) ((Le.cons x l).m P fi (hdE (pj e).l :: (pj e).l.tail))))
  ok := fun X r Γ fi e H h => by
    obtain ⟨h1, h2⟩ := q2_ok h
    obtain ⟨h2, h3⟩ := q2_ok h2
    obtain ⟨h3, h4⟩ := q2_ok h3
    obtain ⟨_, h5⟩ := q2_ok h4
    obtain ⟨h5, _⟩ := q2_ok h5
    rw [show e = _ from h1]; exact SE_call rfl (b.hn _) h2 (b.hk _) (b.hs _ _) ((Le.cons x l).ok _ _ _ _ _ H h4) (congrFun h5) fun env pos => congrFun (congrFun h3 env) pos
/-- a method's call: its head -/
noncomputable def mq (n : Nat) (e : Expr) (es : List Expr) : Eqn := q2 (q1 e (.Call (.Attribute (pj (pj e).a).a (st n) (pj (pj e).a).p) es [] (pj e).p)) (q2 (q1 (isC0 (pj (pj e).a).a) false) (q1 ((pj (pj e).a).p.endLine == (pj e).p.line) true))
theorem mq_ok {n : Nat} {e : Expr} {es : List Expr} (h : (mq n e es).ok) : e = .Call (.Attribute (pj (pj e).a).a (st n) (pj (pj e).a).p) es [] (pj e).p ∧ NotCall (pj (pj e).a).a ∧ ((pj (pj e).a).p.endLine == (pj e).p.line) = true := by
  obtain ⟨h1, h2⟩ := q2_ok h
  obtain ⟨h2, h3⟩ := q2_ok h2
  exact ⟨h1, isC0_not h2, h3⟩
noncomputable abbrev Ve.meth0 (C n f : Nat) (o : Ve) : Ve where
  d := fun X Γ ρ σ Q => o.d X Γ ρ σ fun a σ₁ => MethB X C n a σ₁ ∧ Γ f [a] σ₁ Q
  m := fun P fi e => q2 (mq n e []) (q2 (q1 (decide ((C, n, f) ∈ methT)) true) (o.m P fi (pj (pj e).a).a))
  ok := fun X r Γ fi e H h => by
    obtain ⟨h1, h2⟩ := q2_ok h
    obtain ⟨h2, h3⟩ := q2_ok h2
    obtain ⟨k1, k2, k3⟩ := mq_ok h1
    rw [k1]; exact SE_meth0 rfl (of_decide_eq_true h2) (H.sc f) (o.ok _ _ _ _ _ H h3) k2 k3
noncomputable abbrev Ve.meth (C n f : Nat) (o x : Ve) (l : Le) : Ve where
  d := fun X Γ ρ σ Q => o.d X Γ ρ σ fun a σ₁ => MethB X C n a σ₁ ∧ (Le.cons x l).d X Γ ρ σ₁ fun vs σ₂ => Γ f (a :: vs) σ₂ Q
  m := fun P fi e => q2 (mq n e (hdE (pj e).l :: (pj e).l.tail)) (q2 (q1 (decide ((C, n, f) ∈ methT)) true) (q2 (o.m P fi (pj (pj e).a).a) (q2 (q1 (fun (env : Env) (pos : Pos) => (backTo pos (starEach (pj e).l.tail env)).all (fun p => !p.1)) (fun _ _ => true)) (q2 (q1 (decide ((hdE (pj e).l :: (pj e).l.tail).length < 25)) true) ((Le.cons x l).m P fi (hdE (pj e).l :: (pj e).l.tail))))))
  ok := fun X r Γ fi e H h => by
    obtain ⟨h1, h2⟩ := q2_ok h
    obtain ⟨h2, h3⟩ := q2_ok h2
    obtain ⟨h3, h4⟩ := q2_ok h3
    obtain ⟨h4, h5⟩ := q2_ok h4
    obtain ⟨h5, h6⟩ := q2_ok h5
    obtain ⟨k1, k2, k3⟩ := mq_ok h1
    obtain ⟨_, h7⟩ := q2_ok h6
    obtain ⟨h7, _⟩ := q2_ok h7
    rw [k1]; exact SE_meth rfl (of_decide_eq_true h2) (H.sc f) (o.ok _ _ _ _ _ H h3) ((Le.cons x l).ok _ _ _ _ _ H h6) k2 k3 (congrFun h7) (fun env pos => congrFun (congrFun h4 env) pos) (of_decide_eq_true h5)
noncomputable def oneq (e : Expr) : Eqn := q1 (fun env => starEach [e] env) (fun env => [(false, eval e env)])
theorem oneq_ok {e : Expr} (h : (oneq e).ok) : One e := fun env => congrFun h env
noncomputable abbrev Ve.app (o x : Ve) : Ve where
  d := fun X Γ ρ σ Q => o.d X Γ ρ σ fun a σ₁ => ∃ l xs₀, a = .ref l ∧ σ₁ l = some (.list xs₀) ∧ x.d X Γ ρ σ₁ fun v σ₂ => ∃ xs, σ₂ l = some (.list xs) ∧ xs.length < 1000 ∧ Q .none (upd σ₂ l (.list (xs ++ [v])))
  m := fun P fi e => q2 (mq 57 e [hdE (pj e).l]) (q2 (oneq (hdE (pj e).l)) (q2 (o.m P fi (pj (pj e).a).a) (x.m P fi (hdE (pj e).l))))
  ok := fun X r Γ fi e H h => by
    obtain ⟨h1, h2⟩ := q2_ok h
    obtain ⟨h2, h3⟩ := q2_ok h2
    obtain ⟨h3, h4⟩ := q2_ok h3
    obtain ⟨k1, k2, k3⟩ := mq_ok h1
    rw [k1]; exact SE_append rfl (o.ok _ _ _ _ _ H h3) (x.ok _ _ _ _ _ H h4) k2 (oneq_ok h2) k3
noncomputable abbrev Ve.pop0 (o : Ve) : Ve where
  d := fun X Γ ρ σ Q => o.d X Γ ρ σ fun a σ₁ => ∃ l xs v, a = .ref l ∧ σ₁ l = some (.list (xs ++ [v])) ∧ xs.length < 1000 ∧ Q v (upd σ₁ l (.list xs))
  m := fun P fi e => q2 (mq 117 e []) (o.m P fi (pj (pj e).a).a)
  ok := fun X r Γ fi e H h => by
    obtain ⟨h1, h2⟩ := q2_ok h
    obtain ⟨k1, k2, k3⟩ := mq_ok h1
    rw [k1]; exact SE_pop0 rfl (o.ok _ _ _ _ _ H h2) k2 k3
noncomputable abbrev Ve.pop1 (o x : Ve) : Ve where
  d := fun X Γ ρ σ Q => o.d X Γ ρ σ fun a σ₁ => ∃ l xs₀, a = .ref l ∧ σ₁ l = some (.list xs₀) ∧ x.d X Γ ρ σ₁ fun i σ₂ => ∃ (xs : List V) (k : Nat) (v : V), σ₂ l = some (.list xs) ∧ i = .int k ∧ xs[k]? = some v ∧ xs.length < 1000 ∧ Q v (upd σ₂ l (.list (xs.eraseIdx k)))
  m := fun P fi e => q2 (mq 117 e [hdE (pj e).l]) (q2 (oneq (hdE (pj e).l)) (q2 (o.m P fi (pj (pj e).a).a) (x.m P fi (hdE (pj e).l))))
  ok := fun X r Γ fi e H h => by
    obtain ⟨h1, h2⟩ := q2_ok h
    obtain ⟨h2, h3⟩ := q2_ok h2
    obtain ⟨h3, h4⟩ := q2_ok h3
    obtain ⟨k1, k2, k3⟩ := mq_ok h1
    rw [k1]; exact SE_pop1 rfl (o.ok _ _ _ _ _ H h3) (x.ok _ _ _ _ _ H h4) k2 (oneq_ok h2) k3
noncomputable abbrev Ve.rem (o x : Ve) : Ve where
  d := fun X Γ ρ σ Q => o.d X Γ ρ σ fun a σ₁ => ∃ l xs₀, a = .ref l ∧ σ₁ l = some (.list xs₀) ∧ x.d X Γ ρ σ₁ fun v σ₂ => ∃ (ns : List Int) (i : Int), σ₂ l = some (.list (ns.map .int)) ∧ v = .int i ∧ i ∈ ns ∧ ns.length < 1000 ∧ Q .none (upd σ₂ l (.list ((ns.erase i).map .int)))
  m := fun P fi e => q2 (mq 109 e [hdE (pj e).l]) (q2 (oneq (hdE (pj e).l)) (q2 (o.m P fi (pj (pj e).a).a) (x.m P fi (hdE (pj e).l))))
  ok := fun X r Γ fi e H h => by
    obtain ⟨h1, h2⟩ := q2_ok h
    obtain ⟨h2, h3⟩ := q2_ok h2
    obtain ⟨h3, h4⟩ := q2_ok h3
    obtain ⟨k1, k2, k3⟩ := mq_ok h1
    rw [k1]; exact SE_remove rfl (o.ok _ _ _ _ _ H h3) (x.ok _ _ _ _ _ H h4) k2 (oneq_ok h2) k3
noncomputable abbrev Ve.idx (o x : Ve) : Ve where
  d := fun X Γ ρ σ Q => o.d X Γ ρ σ fun a σ₁ => ∃ l xs₀, a = .ref l ∧ σ₁ l = some (.list xs₀) ∧ x.d X Γ ρ σ₁ fun v σ₂ => ∃ (ns : List Int) (i : Int), σ₂ l = some (.list (ns.map .int)) ∧ v = .int i ∧ i ∈ ns ∧ ns.length < 1000 ∧ Q (.int (ns.idxOf i)) σ₂
  m := fun P fi e => q2 (mq 177 e [hdE (pj e).l]) (q2 (oneq (hdE (pj e).l)) (q2 (o.m P fi (pj (pj e).a).a) (x.m P fi (hdE (pj e).l))))
  ok := fun X r Γ fi e H h => by
    obtain ⟨h1, h2⟩ := q2_ok h
    obtain ⟨h2, h3⟩ := q2_ok h2
    obtain ⟨h3, h4⟩ := q2_ok h3
    obtain ⟨k1, k2, k3⟩ := mq_ok h1
    rw [k1]; exact SE_index rfl (o.ok _ _ _ _ _ H h3) (x.ok _ _ _ _ _ H h4) k2 (oneq_ok h2) k3
noncomputable abbrev Ve.get (o x y : Ve) : Ve where
  d := fun X Γ ρ σ Q => o.d X Γ ρ σ fun a σ₁ => ∃ l, a = .ref l ∧ l ≠ 1 ∧ (((∃ es, σ₁ l = some (.idict es)) ∧ x.d X Γ ρ σ₁ fun k σ₂ => y.d X Γ ρ σ₂ fun d σ₃ => ∃ es i, rd X σ₃ l = some (.idict es) ∧ k = .int i ∧ Q ((es.lookup i).getD d) σ₃) ∨
      ((∃ es, σ₁ l = some (.pdict es)) ∧ x.d X Γ ρ σ₁ fun k σ₂ => y.d X Γ ρ σ₂ fun d σ₃ => ∃ es b i j, rd X σ₃ l = some (.pdict es) ∧ PdOk X σ₃ es ∧ k = .ref b ∧ rd X σ₃ b = some (.tup [.int i, .int j]) ∧ Q ((pget es (i, j)).getD d) σ₃))
  m := fun P fi e => q2 (mq 66 e [hdE (pj e).l, hdE (pj e).l.tail]) (q2 (q1 (fun env => starEach [hdE (pj e).l, hdE (pj e).l.tail] env) (fun env => [(false, eval (hdE (pj e).l) env), (false, eval (hdE (pj e).l.tail) env)])) (q2 (o.m P fi (pj (pj e).a).a) (q2 (x.m P fi (hdE (pj e).l)) (y.m P fi (hdE (pj e).l.tail)))))
  ok := fun X r Γ fi e H h => by
    obtain ⟨h1, h2⟩ := q2_ok h
    obtain ⟨h2, h3⟩ := q2_ok h2
    obtain ⟨h3, h4⟩ := q2_ok h3
    obtain ⟨h4, h5⟩ := q2_ok h4
    obtain ⟨k1, k2, k3⟩ := mq_ok h1
    have := H.r6
    rw [k1]; exact SE_get (by lia) rfl (o.ok _ _ _ _ _ H h3) (x.ok _ _ _ _ _ H h4) (y.ok _ _ _ _ _ H h5) k2 (congrFun h2) k3
noncomputable abbrev Ve.mulL (l k : Ve) : Ve where
  d := fun X Γ ρ σ Q => l.d X Γ ρ σ fun a σ₁ => k.d X Γ ρ σ₁ fun b σ₂ => ∃ d xs k, a = .ref d ∧ b = .int k ∧ rd X σ₂ d = some (.list xs) ∧ 0 ≤ k ∧ k ≤ 10000 ∧ xs.length * k.toNat ≤ 10000 ∧ Made X σ₂ (.list (List.replicate k.toNat xs).flatten) Q
  m := fun P fi e => q2 (q1 e (.BinOp (pj e).a .Mult (pj e).b (pj e).p)) (q2 (l.m P fi (pj e).a) (k.m P fi (pj e).b))
  ok := fun X r Γ fi e H h => by
    obtain ⟨h1, h2⟩ := q2_ok h
    obtain ⟨h2, h3⟩ := q2_ok h2
    rw [show e = _ from h1]; exact SE_mul_list (l.ok _ _ _ _ _ H h2) (k.ok _ _ _ _ _ H h3)
noncomputable abbrev Ve.addL (l k : Ve) : Ve where
  d := fun X Γ ρ σ Q => l.d X Γ ρ σ fun a σ₁ => k.d X Γ ρ σ₁ fun b σ₂ => ∃ d c xs ys, a = .ref d ∧ b = .ref c ∧ rd X σ₂ d = some (.list xs) ∧ rd X σ₂ c = some (.list ys) ∧ xs.length + ys.length ≤ 10000 ∧ Made X σ₂ (.list (xs ++ ys)) Q
  m := fun P fi e => q2 (q1 e (.BinOp (pj e).a .Add (pj e).b (pj e).p)) (q2 (l.m P fi (pj e).a) (k.m P fi (pj e).b))
  ok := fun X r Γ fi e H h => by
    obtain ⟨h1, h2⟩ := q2_ok h
    obtain ⟨h2, h3⟩ := q2_ok h2
    rw [show e = _ from h1]; exact SE_add_list (l.ok _ _ _ _ _ H h2) (k.ok _ _ _ _ _ H h3)
/-! RB -/
noncomputable abbrev Cm.nil : Cm where
  d := fun _ _ ρ σ Q => Q .next ρ σ
  m := fun _ _ ss => q1 ss []
  ok := fun X r Γ fi ss H h => by rw [show ss = _ from h]; exact SS_nil
/-- what is never reached -/
noncomputable abbrev Cm.never : Cm where
  d := fun _ _ _ _ _ => False
  m := fun _ _ _ => q1 () ()
  ok := fun X r Γ fi ss H h => SS_never
noncomputable abbrev Cm.brk : Cm where
  d := fun _ _ ρ σ Q => Q .brk ρ σ
  m := fun _ _ ss => q1 ss [.Break (sj (hdS ss)).p]
  ok := fun X r Γ fi ss H h => by rw [show ss = _ from h]; exact SS_cons S1_brk SS_nil
noncomputable abbrev Cm.cont : Cm where
  d := fun _ _ ρ σ Q => Q .cont ρ σ
  m := fun _ _ ss => q1 ss [.Continue (sj (hdS ss)).p]
  ok := fun X r Γ fi ss H h => by rw [show ss = _ from h]; exact SS_cons S1_cont SS_nil
noncomputable abbrev Cm.ret0 : Cm where
  d := fun _ _ ρ σ Q => Q (.ret .none) ρ σ
  m := fun _ _ ss => q1 ss [.Return none (sj (hdS ss)).p]
  ok := fun X r Γ fi ss H h => by rw [show ss = _ from h]; exact SS_cons S1_ret0 SS_nil
noncomputable abbrev Cm.ret (x : Ve) : Cm where
  d := fun X Γ ρ σ Q => x.d X Γ ρ σ fun v σ₁ => Q (.ret v) ρ σ₁
  m := fun P fi ss => q2 (q1 ss [.Return (some (sj (hdS ss)).a) (sj (hdS ss)).p]) (x.m P fi (sj (hdS ss)).a)
  ok := fun X r Γ fi ss H h => by
    obtain ⟨h1, h2⟩ := q2_ok h
    rw [show ss = _ from h1]; exact SS_cons (S1_ret (x.ok _ _ _ _ _ H h2)) SS_nil
noncomputable abbrev Cm.asg (n : Nat) (x : Ve) (k : Cm) : Cm where
  d := fun X Γ ρ σ Q => x.d X Γ ρ σ fun v σ₁ => go X Γ k (putS n v ρ) σ₁ Q
  m := fun P fi ss => q2 (q1 ss (.Assign [.Name (st n) (pj (sj (hdS ss)).a).p] (sj (hdS ss)).b (sj (hdS ss)).p :: ss.tail)) (q2 (q1 (isLhs fi n) true)
    (q2 (q1 (fun env => swapsWith (sj (hdS ss)).b (some (.Name (st n) (pj (sj (hdS ss)).a).p)) (sj (hdS ss)).p.line env) (fun _ => pure false)) (q2 (x.m P fi (sj (hdS ss)).b) (k.m P fi ss.tail))))
  ok := fun X r Γ fi ss H h => by
    obtain ⟨h1, h2⟩ := q2_ok h
    obtain ⟨h2, h3⟩ := q2_ok h2
    obtain ⟨h3, h4⟩ := q2_ok h3
    obtain ⟨h4, h5⟩ := q2_ok h4
    rw [show ss = _ from h1]; exact SS_cons (S1_assign rfl (isLhs_ok h2) (x.ok _ _ _ _ _ H h4) (congrFun h3)) (k.ok _ _ _ _ _ H h5)
/-- a comprehension, whose stores are swapped -/
noncomputable abbrev Cm.casg (m n : Nat) (sn : List (Nat × NameKind)) (it x : Ve) (k : Cm) : Cm where
  d := fun X Γ ρ σ Q => (Ve.comp n sn it x).d X Γ ρ σ fun v σ₁ => go X Γ k (putS m v ρ) σ₁ Q
  m := fun P fi ss => q2 (q1 ss (.Assign [.Name (st m) (pj (sj (hdS ss)).a).p] (sj (hdS ss)).b (sj (hdS ss)).p :: ss.tail)) (q2 (q1 (isLhs fi m) true)
    (q2 (q1 (swapsWith (sj (hdS ss)).b (some (.Name (st m) (pj (sj (hdS ss)).a).p)) (sj (hdS ss)).p.line (envFi fi)) (pure true)) (q2 ((Ve.comp n sn it x).m P fi (sj (hdS ss)).b) (k.m P fi ss.tail))))
  ok := fun X r Γ fi ss H h => by
    obtain ⟨h1, ha⟩ := q2_ok h
    obtain ⟨h2, hb⟩ := q2_ok ha
    obtain ⟨h3, hc⟩ := q2_ok hb
    obtain ⟨h4, h5⟩ := q2_ok hc
    obtain ⟨h6, hd⟩ := q2_ok h4
    obtain ⟨h7, h8⟩ := q2_ok hd
    obtain ⟨e1, e2, e3⟩ := cq_ok h6
    rw [show ss = _ from h1]
    refine SS_cons (F := fun ρ σ Q => (Ve.comp n sn it x).d X Γ ρ σ fun v σ₁ => Q .next (putS m v ρ) σ₁) ?_ (k.ok _ _ _ _ _ H h5)
    have h3 : swapsWith (sj (hdS ss)).b (some (.Name (st m) (pj (sj (hdS ss)).a).p)) (sj (hdS ss)).p.line (envFi fi) = pure true := h3
    have hx := it.ok _ _ _ _ _ H h7
    have hy := x.ok _ _ _ _ _ H h8
    clear h h1 ha hb hc h4 h6 hd h7 h8 h5
    generalize (sj (hdS ss)).b = e at *
    rw [e1] at h3 ⊢
    exact S1_compassign rfl (isLhs_ok h2) rfl e2 hx SI_nil hy h3 e3
noncomputable abbrev Cm.casgf (m n : Nat) (sn : List (Nat × NameKind)) (it : Ve) (f : Te) (x : Ve) (k : Cm) : Cm where
  d := fun X Γ ρ σ Q => (Ve.compf n sn it f x).d X Γ ρ σ fun v σ₁ => go X Γ k (putS m v ρ) σ₁ Q
  m := fun P fi ss => q2 (q1 ss (.Assign [.Name (st m) (pj (sj (hdS ss)).a).p] (sj (hdS ss)).b (sj (hdS ss)).p :: ss.tail)) (q2 (q1 (isLhs fi m) true)
    (q2 (q1 (swapsWith (sj (hdS ss)).b (some (.Name (st m) (pj (sj (hdS ss)).a).p)) (sj (hdS ss)).p.line (envFi fi)) (pure true)) (q2 ((Ve.compf n sn it f x).m P fi (sj (hdS ss)).b) (k.m P fi ss.tail))))
  ok := fun X r Γ fi ss H h => by
    obtain ⟨h1, ha⟩ := q2_ok h
    obtain ⟨h2, hb⟩ := q2_ok ha
    obtain ⟨h3, hc⟩ := q2_ok hb
    obtain ⟨h4, h5⟩ := q2_ok hc
    obtain ⟨h6, hd⟩ := q2_ok h4
    obtain ⟨h7, he⟩ := q2_ok hd
    obtain ⟨h9, h8⟩ := q2_ok he
    obtain ⟨e1, e2, e3⟩ := cq_ok h6
    rw [show ss = _ from h1]
    refine SS_cons (F := fun ρ σ Q => (Ve.compf n sn it f x).d X Γ ρ σ fun v σ₁ => Q .next (putS m v ρ) σ₁) ?_ (k.ok _ _ _ _ _ H h5)
    have h3 : swapsWith (sj (hdS ss)).b (some (.Name (st m) (pj (sj (hdS ss)).a).p)) (sj (hdS ss)).p.line (envFi fi) = pure true := h3
    have hx := it.ok _ _ _ _ _ H h7
    have hf := f.ok _ _ _ _ _ H h9
    have hy := x.ok _ _ _ _ _ H h8
    clear h h1 ha hb hc h4 h6 hd he h7 h8 h9 h5
    generalize (sj (hdS ss)).b = e at *
    rw [e1] at h3 ⊢
    exact S1_compassign rfl (isLhs_ok h2) rfl e2 hx (SI_one hf) hy h3 e3
noncomputable abbrev Cm.expr (x : Ve) (k : Cm) : Cm where
  d := fun X Γ ρ σ Q => x.d X Γ ρ σ fun _ σ₁ => go X Γ k ρ σ₁ Q
  m := fun P fi ss => q2 (q1 ss (.Expr (sj (hdS ss)).a (sj (hdS ss)).p :: ss.tail)) (q2 (q1 (fun env => swapsWith (sj (hdS ss)).a none (sj (hdS ss)).p.line env) (fun _ => pure false)) (q2 (x.m P fi (sj (hdS ss)).a) (k.m P fi ss.tail)))
  ok := fun X r Γ fi ss H h => by
    obtain ⟨h1, h2⟩ := q2_ok h
    obtain ⟨h2, h3⟩ := q2_ok h2
    obtain ⟨h3, h4⟩ := q2_ok h3
    rw [show ss = _ from h1]; exact SS_cons (S1_expr (x.ok _ _ _ _ _ H h3) (congrFun h2)) (k.ok _ _ _ _ _ H h4)
noncomputable abbrev Cm.ite (t : Te) (b c k : Cm) : Cm where
  d := fun X Γ ρ σ Q => t.d X Γ ρ σ fun p σ₁ => (p = true → go X Γ b ρ σ₁ (gx X Γ k Q)) ∧ (p = false → go X Γ c ρ σ₁ (gx X Γ k Q))
  m := fun P fi ss => q2 (q1 ss (.If (sj (hdS ss)).a (sj (hdS ss)).x (sj (hdS ss)).y (sj (hdS ss)).p :: ss.tail)) (q2 (t.m P fi (sj (hdS ss)).a) (q2 (b.m P fi (sj (hdS ss)).x) (q2 (c.m P fi (sj (hdS ss)).y) (k.m P fi ss.tail))))
  ok := fun X r Γ fi ss H h => by
    obtain ⟨h1, h2⟩ := q2_ok h
    obtain ⟨h2, h3⟩ := q2_ok h2
    obtain ⟨h3, h4⟩ := q2_ok h3
    obtain ⟨h4, h5⟩ := q2_ok h4
    rw [show ss = _ from h1]; exact SS_cons (S1_if (t.ok _ _ _ _ _ H h2) (b.ok _ _ _ _ _ H h3) (c.ok _ _ _ _ _ H h4)) (k.ok _ _ _ _ _ H h5)
noncomputable abbrev Cm.whl (t : Te) (b k : Cm) : Cm where
  d := fun X Γ ρ σ Q => ∃ (J : Nat → Loc → St → Prop) (n : Nat), (∃ ρ₀, Sub ρ₀ ρ ∧ J n ρ₀ σ) ∧ ∀ n ρ σ, J n ρ σ → t.d X Γ ρ σ fun p σ₁ => (p = true → go X Γ b ρ σ₁ (turnB n J (gx X Γ k Q))) ∧ (p = false → go X Γ k ρ σ₁ Q)
  m := fun P fi ss => q2 (q1 ss (.While (sj (hdS ss)).a (sj (hdS ss)).x [] (sj (hdS ss)).p :: ss.tail)) (q2 (t.m P fi (sj (hdS ss)).a) (q2 (b.m P fi (sj (hdS ss)).x) (k.m P fi ss.tail)))
  ok := fun X r Γ fi ss H h => by
    obtain ⟨h1, h2⟩ := q2_ok h
    obtain ⟨h2, h3⟩ := q2_ok h2
    obtain ⟨h3, h4⟩ := q2_ok h3
    rw [show ss = _ from h1]; exact SS_cons (S1_while (t.ok _ _ _ _ _ H h2) (b.ok _ _ _ _ _ H h3)) (k.ok _ _ _ _ _ H h4)
noncomputable abbrev Cm.for (n : Nat) (x : Ve) (b k : Cm) : Cm where
  d := fun X Γ ρ σ Q => x.d X Γ ρ σ fun v σ₁ => ForB X n v (go X Γ b) ρ σ₁ (gx X Γ k Q)
  m := fun P fi ss => q2 (q1 ss (.For (.Name (st n) (pj (sj (hdS ss)).a).p) (sj (hdS ss)).b (sj (hdS ss)).x [] (sj (hdS ss)).p :: ss.tail)) (q2 (q1 (isLhs fi n) true)
    (q2 (q1 (fun env v => foldedSetIterable (sj (hdS ss)).b env v) (fun _ v => pure v)) (q2 (x.m P fi (sj (hdS ss)).b) (q2 (b.m P fi (sj (hdS ss)).x) (k.m P fi ss.tail)))))
  ok := fun X r Γ fi ss H h => by
    obtain ⟨h1, h2⟩ := q2_ok h
    obtain ⟨h2, h3⟩ := q2_ok h2
    obtain ⟨h3, h4⟩ := q2_ok h3
    obtain ⟨h4, h5⟩ := q2_ok h4
    obtain ⟨h5, h6⟩ := q2_ok h5
    rw [show ss = _ from h1]; exact SS_cons (S1_for rfl (isLhs_ok h2) (x.ok _ _ _ _ _ H h4) (b.ok _ _ _ _ _ H h5) fun env v => congrFun (congrFun h3 env) v) (k.ok _ _ _ _ _ H h6)
noncomputable abbrev Cm.setA (o : Ve) (n : Nat) (v : Ve) (k : Cm) : Cm where
  d := fun X Γ ρ σ Q => v.d X Γ ρ σ fun v σ₁ => o.d X Γ ρ σ₁ fun a σ₂ => bnd (setAttrV X σ₂ a n v) fun σ₃ => go X Γ k ρ σ₃ Q
  m := fun P fi ss => q2 (q1 ss (.Assign [.Attribute (pj (sj (hdS ss)).a).a (st n) (pj (sj (hdS ss)).a).p] (sj (hdS ss)).b (sj (hdS ss)).p :: ss.tail))
    (q2 (q1 (fun env => swapsWith (sj (hdS ss)).b (some (.Attribute (pj (sj (hdS ss)).a).a (st n) (pj (sj (hdS ss)).a).p)) (sj (hdS ss)).p.line env) (fun _ => pure false)) (q2 (v.m P fi (sj (hdS ss)).b) (q2 (o.m P fi (pj (sj (hdS ss)).a).a) (k.m P fi ss.tail))))
  ok := fun X r Γ fi ss H h => by
    obtain ⟨h1, h2⟩ := q2_ok h
    obtain ⟨h2, h3⟩ := q2_ok h2
    obtain ⟨h3, h4⟩ := q2_ok h3
    obtain ⟨h4, h5⟩ := q2_ok h4
    rw [show ss = _ from h1]; exact SS_cons (S1_setattr rfl (v.ok _ _ _ _ _ H h3) (o.ok _ _ _ _ _ H h4) (congrFun h2)) (k.ok _ _ _ _ _ H h5)
noncomputable abbrev Cm.setI (o i v : Ve) (k : Cm) : Cm where
  d := fun X Γ ρ σ Q => v.d X Γ ρ σ fun v σ₁ => o.d X Γ ρ σ₁ fun a σ₂ => i.d X Γ ρ σ₂ fun j σ₃ => ∃ σ₄, SetItem X σ₃ a j v σ₄ ∧ go X Γ k ρ σ₄ Q
  m := fun P fi ss => q2 (q1 ss (.Assign [.Subscript (pj (sj (hdS ss)).a).a (pj (sj (hdS ss)).a).b (pj (sj (hdS ss)).a).p] (sj (hdS ss)).b (sj (hdS ss)).p :: ss.tail))
    (q2 (q1 (fun env => swapsWith (sj (hdS ss)).b (some (.Subscript (pj (sj (hdS ss)).a).a (pj (sj (hdS ss)).a).b (pj (sj (hdS ss)).a).p)) (sj (hdS ss)).p.line env) (fun _ => pure false)) (q2 (v.m P fi (sj (hdS ss)).b) (q2 (o.m P fi (pj (sj (hdS ss)).a).a) (q2 (i.m P fi (pj (sj (hdS ss)).a).b) (k.m P fi ss.tail)))))
  ok := fun X r Γ fi ss H h => by
    obtain ⟨h1, h2⟩ := q2_ok h
    obtain ⟨h2, h3⟩ := q2_ok h2
    obtain ⟨h3, h4⟩ := q2_ok h3
    obtain ⟨h4, h5⟩ := q2_ok h4
    obtain ⟨h5, h6⟩ := q2_ok h5
    have := H.r6
    rw [show ss = _ from h1]; exact SS_cons (S1_setitem (by lia) (v.ok _ _ _ _ _ H h3) (o.ok _ _ _ _ _ H h4) (i.ok _ _ _ _ _ H h5) (congrFun h2)) (k.ok _ _ _ _ _ H h6)
noncomputable abbrev Cm.augA (o : Ve) (n : Nat) (op : Operator) (v : Ve) (k : Cm) : Cm where
  d := fun X Γ ρ σ Q => o.d X Γ ρ σ fun a σ₁ => bnd (attrV X σ₁ a n) fun u => v.d X Γ ρ σ₁ fun v σ₂ => bnd (iopI op u v) fun z => bnd (setAttrV X σ₂ a n z) fun σ₃ => go X Γ k ρ σ₃ Q
  m := fun P fi ss => q2 (q1 ss (.AugAssign (.Attribute (pj (sj (hdS ss)).a).a (st n) (pj (sj (hdS ss)).a).p) op (sj (hdS ss)).b (sj (hdS ss)).p :: ss.tail)) (q2 (o.m P fi (pj (sj (hdS ss)).a).a) (q2 (v.m P fi (sj (hdS ss)).b) (k.m P fi ss.tail)))
  ok := fun X r Γ fi ss H h => by
    obtain ⟨h1, h2⟩ := q2_ok h
    obtain ⟨h2, h3⟩ := q2_ok h2
    obtain ⟨h3, h4⟩ := q2_ok h3
    rw [show ss = _ from h1]; exact SS_cons (S1_augattr rfl (o.ok _ _ _ _ _ H h2) (v.ok _ _ _ _ _ H h3)) (k.ok _ _ _ _ _ H h4)
noncomputable abbrev Cm.augI (o i : Ve) (op : Operator) (v : Ve) (k : Cm) : Cm where
  d := fun X Γ ρ σ Q => o.d X Γ ρ σ fun a σ₁ => i.d X Γ ρ σ₁ fun j σ₂ => bnd (getV X σ₂ a j) fun u => v.d X Γ ρ σ₂ fun v σ₃ => bnd (iopI op u v) fun z => ∃ σ₄, SetItem X σ₃ a j z σ₄ ∧ go X Γ k ρ σ₄ Q
  m := fun P fi ss => q2 (q1 ss (.AugAssign (.Subscript (pj (sj (hdS ss)).a).a (pj (sj (hdS ss)).a).b (pj (sj (hdS ss)).a).p) op (sj (hdS ss)).b (sj (hdS ss)).p :: ss.tail))
    (q2 (q1 (fun ov iv new => augStore (pj (sj (hdS ss)).a).b ov iv new) (fun ov iv new => (do holding [new, ov, iv] (setItem ov iv new); release [new, ov, iv] []; pure .next))) (q2 (o.m P fi (pj (sj (hdS ss)).a).a) (q2 (i.m P fi (pj (sj (hdS ss)).a).b) (q2 (v.m P fi (sj (hdS ss)).b) (k.m P fi ss.tail)))))
  ok := fun X r Γ fi ss H h => by
    obtain ⟨h1, h2⟩ := q2_ok h
    obtain ⟨h2, h3⟩ := q2_ok h2
    obtain ⟨h3, h4⟩ := q2_ok h3
    obtain ⟨h4, h5⟩ := q2_ok h4
    obtain ⟨h5, h6⟩ := q2_ok h5
    have := H.r6
    rw [show ss = _ from h1]; exact SS_cons (S1_augitem (by lia) (o.ok _ _ _ _ _ H h3) (i.ok _ _ _ _ _ H h4) (v.ok _ _ _ _ _ H h5) fun a b c => congrFun (congrFun (congrFun h2 a) b) c) (k.ok _ _ _ _ _ H h6)
/-- names' trees -/
noncomputable def nE (fi : Fi) : List Nat → List Expr → Eqn
  | [], es => q1 es []
  | n :: ns, es => q2 (q1 es (.Name (st n) (pj (hdE es)).p :: es.tail)) (q2 (q1 (isLhs fi n) true) (nE fi ns es.tail))
theorem nE_ok {fi : Fi} : ∀ {ns : List Nat} {es : List Expr}, (nE fi ns es).ok → NamesE fi es ns
  | [], es, h => by rw [show es = _ from h]; exact .nil
  | n :: ns, es, h => by
    obtain ⟨h1, h2⟩ := q2_ok h
    obtain ⟨h2, h3⟩ := q2_ok h2
    rw [show es = _ from h1]; exact .cons rfl (isLhs_ok h2) (nE_ok h3)
noncomputable abbrev Cm.unp (ns : List Nat) (v : Ve) (k : Cm) : Cm where
  d := fun X Γ ρ σ Q => v.d X Γ ρ σ fun v σ₁ => ∃ src xs, SrcV X σ₁ v src ∧ SrcOk X σ₁ src xs ∧ xs.length = ns.length ∧ go X Γ k (putMany ns xs ρ) σ₁ Q
  m := fun P fi ss => q2 (q1 ss (.Assign [.Tuple (pj (sj (hdS ss)).a).l (pj (sj (hdS ss)).a).k (pj (sj (hdS ss)).a).p] (sj (hdS ss)).b (sj (hdS ss)).p :: ss.tail))
    (q2 (q1 (fun env => swapsWithSole [.Tuple (pj (sj (hdS ss)).a).l (pj (sj (hdS ss)).a).k (pj (sj (hdS ss)).a).p] (sj (hdS ss)).b (sj (hdS ss)).p.line env) (fun _ => pure false))
    (q2 (q1 (fun env => swappedStores [.Tuple (pj (sj (hdS ss)).a).l (pj (sj (hdS ss)).a).k (pj (sj (hdS ss)).a).p] (sj (hdS ss)).b env) (fun _ => pure none))
    (q2 (nE fi ns (pj (sj (hdS ss)).a).l) (q2 (v.m P fi (sj (hdS ss)).b) (k.m P fi ss.tail)))))
  ok := fun X r Γ fi ss H h => by
    obtain ⟨h1, h2⟩ := q2_ok h
    obtain ⟨h2, h3⟩ := q2_ok h2
    obtain ⟨h3, h4⟩ := q2_ok h3
    obtain ⟨h4, h5⟩ := q2_ok h4
    obtain ⟨h5, h6⟩ := q2_ok h5
    rw [show ss = _ from h1]; exact SS_cons (S1_unpack (nE_ok h4) (v.ok _ _ _ _ _ H h5) (congrFun h2) (congrFun h3)) (k.ok _ _ _ _ _ H h6)
noncomputable abbrev Cm.swp (ns : List Nat) (v : Ve) (k : Cm) : Cm where
  d := fun X Γ ρ σ Q => v.d X Γ ρ σ fun v σ₁ => ∃ src xs, SrcV X σ₁ v src ∧ SrcOk X σ₁ src xs ∧ xs.length = ns.length ∧ go X Γ k (putMany ns.reverse xs.reverse ρ) σ₁ Q
  m := fun P fi ss => q2 (q1 ss (.Assign [.Tuple (pj (sj (hdS ss)).a).l (pj (sj (hdS ss)).a).k (pj (sj (hdS ss)).a).p] (sj (hdS ss)).b (sj (hdS ss)).p :: ss.tail))
    (q2 (q1 (fun env => swapsWithSole [.Tuple (pj (sj (hdS ss)).a).l (pj (sj (hdS ss)).a).k (pj (sj (hdS ss)).a).p] (sj (hdS ss)).b (sj (hdS ss)).p.line env) (fun _ => pure false))
    (q2 (q1 (swappedStores [.Tuple (pj (sj (hdS ss)).a).l (pj (sj (hdS ss)).a).k (pj (sj (hdS ss)).a).p] (sj (hdS ss)).b (envFi fi)) (pure (some (ns.map st))))
    (q2 (q1 (ns.all (isLhs fi)) true) (q2 (v.m P fi (sj (hdS ss)).b) (k.m P fi ss.tail)))))
  ok := fun X r Γ fi ss H h => by
    obtain ⟨h1, h2⟩ := q2_ok h
    obtain ⟨h2, h3⟩ := q2_ok h2
    obtain ⟨h3, h4⟩ := q2_ok h3
    obtain ⟨h4, h5⟩ := q2_ok h4
    obtain ⟨h5, h6⟩ := q2_ok h5
    rw [show ss = _ from h1]; exact SS_cons (S1_swap (fun n hn => isLhs_ok (List.all_eq_true.mp h4 n hn)) (v.ok _ _ _ _ _ H h5) (congrFun h2) h3) (k.ok _ _ _ _ _ H h6)
/-! a def -/
structure Df (f q : Nat) (S : Stmt) (fi : Fi) (ns : List Nat) (c : Cm) : Prop where
  df : ∀ P : Params, DefOk P f q S fi ns
  q : ∀ P : Params, (c.m P fi (fBody S)).l = (c.m P fi (fBody S)).r
theorem Df.sd {f q : Nat} {S : Stmt} {fi : Fi} {ns : List Nat} {c : Cm} (D : Df f q S fi ns c) {X : Cx} {r : Nat} {Γ : Nat → TC} (H : Hy X r Γ) :
    SD X (r + 3) (.ref f) (fun vs σ Q => vs.length = ns.length ∧ c.d X Γ (putMany ns vs []) σ (endB Q)) := SD_def (D.df _) (c.ok _ _ _ _ _ H (D.q _))
/-! RC -/
noncomputable def lkT : List (Nat × TC) → Nat → TC
  | [], _ => fun _ _ _ => False
  | (k, T) :: l, n => match n == k with
    | true => T
    | false => lkT l n
section
variable {X : Cx} {r : Nat} {Γ : Nat → TC}
theorem hyN (h : 6 ≤ r) : Hy X r (lkT []) := ⟨h, fun _ _ _ _ _ _ _ _ _ _ _ _ h => h.elim⟩
theorem hyC {k : Nat} {T : TC} {l : List (Nat × TC)} (h : SC X r (.ref k) T) (H : Hy X r (lkT l)) : Hy X r (lkT ((k, T) :: l)) := ⟨H.r6, fun f => by
  show SC X r (.ref f) (match f == k with | true => T | false => lkT l f)
  by_cases e : f = k
  · subst e; rw [beq_self_eq_true]; exact h
  · rw [beq_eq_false_iff_ne.mpr e]; exact H.sc f⟩
/-- a def whose own term is c -/
def Dx (f : Nat) (ns : List Nat) (c : Cm) : Prop := ∃ q S fi, Df f q S fi ns c
noncomputable def Pr (X : Cx) (Γ : Nat → TC) (ns : List Nat) (c : Cm) (vs : List V) (σ : St) (Q : V → St → Prop) : Prop := vs.length = ns.length ∧ go X Γ c (putMany ns vs []) σ (endB Q)
theorem Dx.run {f : Nat} {ns : List Nat} {c : Cm} (D : Dx f ns c) (H : Hy X r Γ) {U : TC} (h : ∀ vs σ Q, U vs σ Q → Pr X Γ ns c vs σ Q) : SC X (r + 3) (.ref f) U := by
  obtain ⟨q, S, fi, D⟩ := D
  exact (D.sd H).sc.conv h
theorem Dx.runD {f : Nat} {ns : List Nat} {c : Cm} (D : Dx f ns c) (H : Hy X r Γ) {U : TC} (h : ∀ vs σ Q, U vs σ Q → Pr X Γ ns c vs σ Q) : SD X (r + 3) (.ref f) U := by
  obtain ⟨q, S, fi, D⟩ := D
  exact (D.sd H).conv h
theorem prI {ns : List Nat} {c : Cm} {vs : List V} {σ : St} {Q : V → St → Prop} (e : vs.length = ns.length) (h : c.d X Γ (putMany ns vs []) σ (endB Q)) : Pr X Γ ns c vs σ Q := ⟨e, h⟩
theorem wG1 {G : Prop} {a0 : Nat} {A0 : TC} (l : List (Nat × TC)) (H : Hy X r (lkT l)) (k : ∀ Γ, Hy X r Γ → Γ a0 = A0 → G) (e0 : lkT l a0 = A0) : G := k _ H e0
theorem wG2 {G : Prop} {a0 a1 : Nat} {A0 A1 : TC} (l : List (Nat × TC)) (H : Hy X r (lkT l)) (k : ∀ Γ, Hy X r Γ → Γ a0 = A0 → Γ a1 = A1 → G) (e0 : lkT l a0 = A0) (e1 : lkT l a1 = A1) : G := k _ H e0 e1
theorem wG3 {G : Prop} {a0 a1 a2 : Nat} {A0 A1 A2 : TC} (l : List (Nat × TC)) (H : Hy X r (lkT l)) (k : ∀ Γ, Hy X r Γ → Γ a0 = A0 → Γ a1 = A1 → Γ a2 = A2 → G) (e0 : lkT l a0 = A0) (e1 : lkT l a1 = A1) (e2 : lkT l a2 = A2) : G := k _ H e0 e1 e2
theorem wG4 {G : Prop} {a0 a1 a2 a3 : Nat} {A0 A1 A2 A3 : TC} (l : List (Nat × TC)) (H : Hy X r (lkT l)) (k : ∀ Γ, Hy X r Γ → Γ a0 = A0 → Γ a1 = A1 → Γ a2 = A2 → Γ a3 = A3 → G) (e0 : lkT l a0 = A0) (e1 : lkT l a1 = A1) (e2 : lkT l a2 = A2) (e3 : lkT l a3 = A3) : G := k _ H e0 e1 e2 e3
theorem wG5 {G : Prop} {a0 a1 a2 a3 a4 : Nat} {A0 A1 A2 A3 A4 : TC} (l : List (Nat × TC)) (H : Hy X r (lkT l)) (k : ∀ Γ, Hy X r Γ → Γ a0 = A0 → Γ a1 = A1 → Γ a2 = A2 → Γ a3 = A3 → Γ a4 = A4 → G) (e0 : lkT l a0 = A0) (e1 : lkT l a1 = A1) (e2 : lkT l a2 = A2) (e3 : lkT l a3 = A3) (e4 : lkT l a4 = A4) : G := k _ H e0 e1 e2 e3 e4
theorem wG6 {G : Prop} {a0 a1 a2 a3 a4 a5 : Nat} {A0 A1 A2 A3 A4 A5 : TC} (l : List (Nat × TC)) (H : Hy X r (lkT l)) (k : ∀ Γ, Hy X r Γ → Γ a0 = A0 → Γ a1 = A1 → Γ a2 = A2 → Γ a3 = A3 → Γ a4 = A4 → Γ a5 = A5 → G) (e0 : lkT l a0 = A0) (e1 : lkT l a1 = A1) (e2 : lkT l a2 = A2) (e3 : lkT l a3 = A3) (e4 : lkT l a4 = A4) (e5 : lkT l a5 = A5) : G := k _ H e0 e1 e2 e3 e4 e5
theorem wG7 {G : Prop} {a0 a1 a2 a3 a4 a5 a6 : Nat} {A0 A1 A2 A3 A4 A5 A6 : TC} (l : List (Nat × TC)) (H : Hy X r (lkT l)) (k : ∀ Γ, Hy X r Γ → Γ a0 = A0 → Γ a1 = A1 → Γ a2 = A2 → Γ a3 = A3 → Γ a4 = A4 → Γ a5 = A5 → Γ a6 = A6 → G) (e0 : lkT l a0 = A0) (e1 : lkT l a1 = A1) (e2 : lkT l a2 = A2) (e3 : lkT l a3 = A3) (e4 : lkT l a4 = A4) (e5 : lkT l a5 = A5) (e6 : lkT l a6 = A6) : G := k _ H e0 e1 e2 e3 e4 e5 e6
theorem wG8 {G : Prop} {a0 a1 a2 a3 a4 a5 a6 a7 : Nat} {A0 A1 A2 A3 A4 A5 A6 A7 : TC} (l : List (Nat × TC)) (H : Hy X r (lkT l)) (k : ∀ Γ, Hy X r Γ → Γ a0 = A0 → Γ a1 = A1 → Γ a2 = A2 → Γ a3 = A3 → Γ a4 = A4 → Γ a5 = A5 → Γ a6 = A6 → Γ a7 = A7 → G) (e0 : lkT l a0 = A0) (e1 : lkT l a1 = A1) (e2 : lkT l a2 = A2) (e3 : lkT l a3 = A3) (e4 : lkT l a4 = A4) (e5 : lkT l a5 = A5) (e6 : lkT l a6 = A6) (e7 : lkT l a7 = A7) : G := k _ H e0 e1 e2 e3 e4 e5 e6 e7
theorem wG9 {G : Prop} {a0 a1 a2 a3 a4 a5 a6 a7 a8 : Nat} {A0 A1 A2 A3 A4 A5 A6 A7 A8 : TC} (l : List (Nat × TC)) (H : Hy X r (lkT l)) (k : ∀ Γ, Hy X r Γ → Γ a0 = A0 → Γ a1 = A1 → Γ a2 = A2 → Γ a3 = A3 → Γ a4 = A4 → Γ a5 = A5 → Γ a6 = A6 → Γ a7 = A7 → Γ a8 = A8 → G) (e0 : lkT l a0 = A0) (e1 : lkT l a1 = A1) (e2 : lkT l a2 = A2) (e3 : lkT l a3 = A3) (e4 : lkT l a4 = A4) (e5 : lkT l a5 = A5) (e6 : lkT l a6 = A6) (e7 : lkT l a7 = A7) (e8 : lkT l a8 = A8) : G := k _ H e0 e1 e2 e3 e4 e5 e6 e7 e8
theorem wG10 {G : Prop} {a0 a1 a2 a3 a4 a5 a6 a7 a8 a9 : Nat} {A0 A1 A2 A3 A4 A5 A6 A7 A8 A9 : TC} (l : List (Nat × TC)) (H : Hy X r (lkT l)) (k : ∀ Γ, Hy X r Γ → Γ a0 = A0 → Γ a1 = A1 → Γ a2 = A2 → Γ a3 = A3 → Γ a4 = A4 → Γ a5 = A5 → Γ a6 = A6 → Γ a7 = A7 → Γ a8 = A8 → Γ a9 = A9 → G) (e0 : lkT l a0 = A0) (e1 : lkT l a1 = A1) (e2 : lkT l a2 = A2) (e3 : lkT l a3 = A3) (e4 : lkT l a4 = A4) (e5 : lkT l a5 = A5) (e6 : lkT l a6 = A6) (e7 : lkT l a7 = A7) (e8 : lkT l a8 = A8) (e9 : lkT l a9 = A9) : G := k _ H e0 e1 e2 e3 e4 e5 e6 e7 e8 e9
theorem wG11 {G : Prop} {a0 a1 a2 a3 a4 a5 a6 a7 a8 a9 a10 : Nat} {A0 A1 A2 A3 A4 A5 A6 A7 A8 A9 A10 : TC} (l : List (Nat × TC)) (H : Hy X r (lkT l)) (k : ∀ Γ, Hy X r Γ → Γ a0 = A0 → Γ a1 = A1 → Γ a2 = A2 → Γ a3 = A3 → Γ a4 = A4 → Γ a5 = A5 → Γ a6 = A6 → Γ a7 = A7 → Γ a8 = A8 → Γ a9 = A9 → Γ a10 = A10 → G) (e0 : lkT l a0 = A0) (e1 : lkT l a1 = A1) (e2 : lkT l a2 = A2) (e3 : lkT l a3 = A3) (e4 : lkT l a4 = A4) (e5 : lkT l a5 = A5) (e6 : lkT l a6 = A6) (e7 : lkT l a7 = A7) (e8 : lkT l a8 = A8) (e9 : lkT l a9 = A9) (e10 : lkT l a10 = A10) : G := k _ H e0 e1 e2 e3 e4 e5 e6 e7 e8 e9 e10
theorem wG12 {G : Prop} {a0 a1 a2 a3 a4 a5 a6 a7 a8 a9 a10 a11 : Nat} {A0 A1 A2 A3 A4 A5 A6 A7 A8 A9 A10 A11 : TC} (l : List (Nat × TC)) (H : Hy X r (lkT l)) (k : ∀ Γ, Hy X r Γ → Γ a0 = A0 → Γ a1 = A1 → Γ a2 = A2 → Γ a3 = A3 → Γ a4 = A4 → Γ a5 = A5 → Γ a6 = A6 → Γ a7 = A7 → Γ a8 = A8 → Γ a9 = A9 → Γ a10 = A10 → Γ a11 = A11 → G) (e0 : lkT l a0 = A0) (e1 : lkT l a1 = A1) (e2 : lkT l a2 = A2) (e3 : lkT l a3 = A3) (e4 : lkT l a4 = A4) (e5 : lkT l a5 = A5) (e6 : lkT l a6 = A6) (e7 : lkT l a7 = A7) (e8 : lkT l a8 = A8) (e9 : lkT l a9 = A9) (e10 : lkT l a10 = A10) (e11 : lkT l a11 = A11) : G := k _ H e0 e1 e2 e3 e4 e5 e6 e7 e8 e9 e10 e11
theorem cS {f : Nat} {T : TC} {vs : List V} {σ : St} {Q : V → St → Prop} (e : Γ f = T) (h : T vs σ Q) : Γ f vs σ Q := by rw [e]; exact h
/-- one statement -/
theorem gS {k : Cm} {ρ : Loc} {σ : St} {Q : Fl → Loc → St → Prop} (h : k.d X Γ ρ σ Q) : go X Γ k ρ σ Q := h
end
/-! a test's two sides -/
section
variable {A B : Prop} {p : Prop} [Decidable p] {b : Bool}
theorem nb1 (h : (!b) = true) : b = false := by cases b with | true => cases h | false => rfl
theorem nb0 (h : (!b) = false) : b = true := by cases b with | true => rfl | false => cases h
theorem iT (h : p) (k : A) : (decide p = true → A) ∧ (decide p = false → B) := ⟨fun _ => k, fun e => absurd h (of_decide_eq_false e)⟩
theorem iF (h : ¬ p) (k : B) : (decide p = true → A) ∧ (decide p = false → B) := ⟨fun e => absurd (of_decide_eq_true e) h, fun _ => k⟩
theorem iC (h : p → A) (k : ¬ p → B) : (decide p = true → A) ∧ (decide p = false → B) := ⟨fun e => h (of_decide_eq_true e), fun e => k (of_decide_eq_false e)⟩
theorem jT (h : ¬ p) (k : A) : ((!decide p) = true → A) ∧ ((!decide p) = false → B) := ⟨fun _ => k, fun e => absurd (of_decide_eq_true (nb0 e)) h⟩
theorem jF (h : p) (k : B) : ((!decide p) = true → A) ∧ ((!decide p) = false → B) := ⟨fun e => absurd h (of_decide_eq_false (nb1 e)), fun _ => k⟩
theorem jC (h : ¬ p → A) (k : p → B) : ((!decide p) = true → A) ∧ ((!decide p) = false → B) := ⟨fun e => h (of_decide_eq_false (nb1 e)), fun e => k (of_decide_eq_true (nb0 e))⟩
theorem bT (h : b = true) (k : A) : (b = true → A) ∧ (b = false → B) := ⟨fun _ => k, fun e => by rw [h] at e; cases e⟩
theorem bF (h : b = false) (k : B) : (b = true → A) ∧ (b = false → B) := ⟨fun e => (by rw [h] at e; cases e), fun _ => k⟩
theorem nT (h : b = false) (k : A) : ((!b) = true → A) ∧ ((!b) = false → B) := bT (by rw [h]; rfl) k
theorem nF (h : b = true) (k : B) : ((!b) = true → A) ∧ ((!b) = false → B) := bF (by rw [h]; rfl) k
theorem tT (k : A) : (true = true → A) ∧ (true = false → B) := ⟨fun _ => k, nofun⟩
theorem fF (k : B) : (false = true → A) ∧ (false = false → B) := ⟨nofun, fun _ => k⟩
end
section
theorem nfF : (!false) = true := rfl
theorem nfT : (!true) = false := rfl
theorem b_some {α : Type} {v : α} {P : α → Prop} : bnd (some v) P = P v := rfl
theorem b_mul {i j : Int} (h : j.natAbs < 1073741824) : binI .Mult (.int i) (.int j) = some (.int (i * j)) := if_pos h
theorem b_fdiv {i j : Int} (h : j ≠ 0) (h' : j.natAbs < 1073741824) : binI .FloorDiv (.int i) (.int j) = some (.int (i.fdiv j)) := if_pos ⟨h, h'⟩
theorem b_mod {i j : Int} (h : j ≠ 0) : binI .Mod (.int i) (.int j) = some (.int (i.fmod j)) := if_pos h
variable {X : Cx} {σ : St}
theorem t_bool {b : Bool} : truthV X σ (.bool b) = some b := rfl
end
/-! what a statement asks for -/
section
variable {X : Cx} {Γ : Nat → TC} {ρ : Loc} {σ : St} {Q : V → St → Prop}
theorem lM {vs : List V} (h : decide (vs.length < 1000) = true) (k : Made X σ (.list vs) Q) : vs.length < 1000 ∧ Made X σ (.list vs) Q := ⟨of_decide_eq_true h, k⟩
theorem tM {vs : List V} (h : decide (vs.length < 1000) = true) (k : Made X σ (.tup vs) Q) : vs.length < 1000 ∧ Made X σ (.tup vs) Q := ⟨of_decide_eq_true h, k⟩
theorem mU {o : AObj} {Q : V → St → Prop} (k : ∀ a s, rd X σ a = none → σ a = none → a ≠ 1 → s = upd σ a o → Q (.ref a) s) : Made X σ o Q := fun a h1 h2 h3 => k a _ h1 h2 h3 rfl
theorem lU {vs : List V} (h : decide (vs.length < 1000) = true) (k : ∀ a s, rd X σ a = none → σ a = none → a ≠ 1 → s = upd σ a (.list vs) → Q (.ref a) s) : vs.length < 1000 ∧ Made X σ (.list vs) Q := lM h (mU k)
theorem tU {vs : List V} (h : decide (vs.length < 1000) = true) (k : ∀ a s, rd X σ a = none → σ a = none → a ≠ 1 → s = upd σ a (.tup vs) → Q (.ref a) s) : vs.length < 1000 ∧ Made X σ (.tup vs) Q := tM h (mU k)
theorem r1 {a : Int} (h : Made X σ (.range 0 a) Q) : tRange1 X [.int a] σ Q := ⟨a, rfl, h⟩
theorem r2 {a b : Int} (h : Made X σ (.range a b) Q) : tRange2 X [.int a, .int b] σ Q := ⟨a, b, rfl, h⟩
theorem lS {l : Addr} {xs : List V} (h : rd X σ l = some (.list xs)) (hl : xs.length < 1000) (k : Made X σ (.list xs) Q) : tList X [.ref l] σ Q := ⟨l, xs, rfl, .inl (.inl h), hl, k⟩
theorem lT {l : Addr} {xs : List V} (h : rd X σ l = some (.tup xs)) (hl : xs.length < 1000) (k : Made X σ (.list xs) Q) : tList X [.ref l] σ Q := ⟨l, xs, rfl, .inl (.inr h), hl, k⟩
theorem lR {l : Addr} {i : Int} {n : Nat} (h : rd X σ l = some (.range i (i + (n : Nat)))) (h1 : -1000000 ≤ i) (h2 : i + (n : Nat) ≤ 1000000) (hl : n < 1000) (k : Made X σ (.list ((List.range n).map fun k => V.int (i + (k : Nat)))) Q) : tList X [.ref l] σ Q :=
  ⟨l, _, rfl, .inr ⟨i, n, h, h1, h2, rfl⟩, by rw [List.length_map, List.length_range]; exact hl, k⟩
theorem eA {α : Type} {p q : α → Prop} {x : α} (h : p x) (k : q x) : ∃ x, p x ∧ q x := ⟨x, h, k⟩
theorem mS {C n f : Nat} {a : V} {T : TC} {vs : List V} (m : MethB X C n a σ) (e : Γ f = T) (h : T vs σ Q) : MethB X C n a σ ∧ Γ f vs σ Q := ⟨m, cS e h⟩
theorem wS {B : (Nat → Loc → St → Prop) → Nat → Loc → St → Prop} (J : Nat → Loc → St → Prop) (n : Nat) (h : J n ρ σ) (k : ∀ n ρ σ, J n ρ σ → B J n ρ σ) : ∃ (J : Nat → Loc → St → Prop) (n : Nat), (∃ ρ₀, Sub ρ₀ ρ ∧ J n ρ₀ σ) ∧ ∀ n ρ σ, J n ρ σ → B J n ρ σ := ⟨J, n, ⟨ρ, Sub.refl _, h⟩, k⟩
theorem fS {n : Nat} {v : V} {G : Bl} {Q : Fl → Loc → St → Prop} {src : Src} {xs : List V} (J : List V → Loc → St → Prop) (h1 : SrcV X σ v src) (h2 : J xs ρ σ) (h3 : ∀ ys ρ σ, J ys ρ σ → SrcOk X σ src xs) (h4 : ∀ y ys ρ σ, J (y :: ys) ρ σ → G (putS n y ρ) σ (turnF ys J Q)) (h5 : ∀ ρ σ, J [] ρ σ → Q .next ρ σ) : ForB X n v G ρ σ Q := ⟨src, xs, J, h1, ⟨ρ, Sub.refl _, h2⟩, h3, h4, h5⟩
/-- a loop over a list: what is left of it, what the frame holds, what is known -/
noncomputable def JM {A B : Type} (f : B → V) (R : A → Loc) (I : List B → A → St → Prop) : List V → Loc → St → Prop := fun ys ρ σ => ∃ bs a, ys = bs.map f ∧ ρ = R a ∧ I bs a σ
theorem jM {A B : Type} {f : B → V} {R : A → Loc} {I : List B → A → St → Prop} {Q : Fl → Loc → St → Prop} (bs : List B) (a : A) (s : Sub (R a) ρ) (h : I bs a σ) : turnF (bs.map f) (JM f R I) Q .next ρ σ := ⟨R a, s, bs, a, rfl, rfl, h⟩
theorem jK {A B : Type} {f : B → V} {R : A → Loc} {I : List B → A → St → Prop} {Q : Fl → Loc → St → Prop} (bs : List B) (a : A) (s : Sub (R a) ρ) (h : I bs a σ) : turnF (bs.map f) (JM f R I) Q .cont ρ σ := ⟨R a, s, bs, a, rfl, rfl, h⟩
theorem fM {A B : Type} {n : Nat} {v : V} {G : Bl} {Q : Fl → Loc → St → Prop} {src : Src} {xs : List V} (f : B → V) (R : A → Loc) (I : List B → A → St → Prop) (bs : List B) (a : A) (h1 : SrcV X σ v src) (hx : xs = bs.map f) (hr : R a = ρ) (hi : I bs a σ)
    (h3 : ∀ bs a σ, I bs a σ → SrcOk X σ src xs) (h4 : ∀ b bs a σ, I (b :: bs) a σ → G (putS n (f b) (R a)) σ (turnF (bs.map f) (JM f R I) Q)) (h5 : ∀ a σ, I [] a σ → Q .next (R a) σ) : ForB X n v G ρ σ Q :=
  ⟨src, xs, JM f R I, h1, ⟨ρ, Sub.refl _, bs, a, hx, hr.symm, hi⟩, fun _ _ σ ⟨_, _, _, _, h⟩ => h3 _ _ σ h, fun y ys ρ σ ⟨bs, a, e1, e2, h⟩ => by
    cases bs with
    | nil => cases e1
    | cons b bs => obtain ⟨rfl, rfl⟩ := List.cons.inj e1; subst e2; exact h4 b bs a σ h, fun ρ σ ⟨bs, a, e1, e2, h⟩ => by
    cases bs with
    | nil => subst e2; exact h5 a σ h
    | cons b bs => cases e1⟩
noncomputable def JW {A : Type} (R : A → Loc) (μ : A → Nat) (I : A → St → Prop) : Nat → Loc → St → Prop := fun n ρ σ => ∃ a, n = μ a ∧ ρ = R a ∧ I a σ
theorem jW {A : Type} {R : A → Loc} {μ : A → Nat} {I : A → St → Prop} {Q : Fl → Loc → St → Prop} {n : Nat} (a : A) (l : μ a < n) (s : Sub (R a) ρ) (h : I a σ) : turnB n (JW R μ I) Q .next ρ σ := ⟨μ a, l, R a, s, a, rfl, rfl, h⟩
theorem wM {A : Type} {B : (Nat → Loc → St → Prop) → Nat → Loc → St → Prop} (R : A → Loc) (μ : A → Nat) (I : A → St → Prop) (a : A) (hr : R a = ρ) (hi : I a σ) (k : ∀ a σ, I a σ → B (JW R μ I) (μ a) (R a) σ) : ∃ (J : Nat → Loc → St → Prop) (n : Nat), (∃ ρ₀, Sub ρ₀ ρ ∧ J n ρ₀ σ) ∧ ∀ n ρ σ, J n ρ σ → B J n ρ σ :=
  ⟨JW R μ I, μ a, ⟨ρ, Sub.refl _, a, rfl, hr.symm, hi⟩, fun n ρ σ ⟨a, e1, e2, h⟩ => by subst e1 e2; exact k a σ h⟩
theorem tBb {n : Nat} {J : Nat → Loc → St → Prop} {Q : Fl → Loc → St → Prop} : turnB n J Q .brk ρ σ = Q .next ρ σ := rfl
theorem tBr {n : Nat} {J : Nat → Loc → St → Prop} {Q : Fl → Loc → St → Prop} {v : V} : turnB n J Q (.ret v) ρ σ = Q (.ret v) ρ σ := rfl
theorem tFb {ys : List V} {J : List V → Loc → St → Prop} {Q : Fl → Loc → St → Prop} : turnF ys J Q .brk ρ σ = Q .next ρ σ := rfl
theorem tFr {ys : List V} {J : List V → Loc → St → Prop} {Q : Fl → Loc → St → Prop} {v : V} : turnF ys J Q (.ret v) ρ σ = Q (.ret v) ρ σ := rfl
/-- a comprehension over a list: what is left of it, what is made -/
noncomputable def JC {A B C : Type} (f : B → V) (g : C → V) (I : List B → List C → A → St → Prop) : List V → List V → St → Prop := fun ys zs s => ∃ bs cs a, ys = bs.map f ∧ zs = cs.map g ∧ I bs cs a s
theorem cT {A B C : Type} {f : B → V} {g : C → V} {I : List B → List C → A → St → Prop} {D : Addr} {s : St} {bs : List B} {cs : List C} (y : C) (a : A) (h1 : s D = some (.list (cs.map g))) (h : I bs (cs ++ [y]) a (upd s D (.list (cs.map g ++ [g y])))) : s D = some (.list (cs.map g)) ∧ JC f g I (bs.map f) (cs.map g ++ [g y]) (upd s D (.list (cs.map g ++ [g y]))) :=
  ⟨h1, bs, cs ++ [y], a, rfl, by rw [List.map_append]; rfl, h⟩
theorem cN {A B C : Type} {f : B → V} {g : C → V} {I : List B → List C → A → St → Prop} {s : St} {bs : List B} {cs : List C} (a : A) (h : I bs cs a s) : JC f g I (bs.map f) (cs.map g) s := ⟨bs, cs, a, rfl, rfl, h⟩
theorem cM {A B C : Type} {sn : List (Nat × NameKind)} {n : Nat} {v : V} {F : Tr Bool} {G : Tr V} {src : Src} {xs : List V} (f : B → V) (g : C → V) (I : Addr → List B → List C → A → St → Prop) (bs : List B) (a : A) (h1 : SrcV X σ v src) (hx : xs = bs.map f) (hs : SrcOk X σ src xs) (hl : bs.length < 1000)
    (hi : ∀ D s, rd X σ D = none → σ D = none → D ≠ 1 → s = upd σ D (.list []) → I D bs [] a s)
    (h3 : ∀ D bs cs a s, I D bs cs a s → SrcOk X s src xs ∧ s D = some (.list (cs.map g)) ∧ cs.length + bs.length ≤ xs.length)
    (h4 : ∀ D b bs cs a s, I D (b :: bs) cs a s → F (putS n (f b) (capt sn ρ)) s fun t s₂ => (t = true → G (putS n (f b) (capt sn ρ)) s₂ fun z s₃ => s₃ D = some (.list (cs.map g)) ∧ JC f g (I D) (bs.map f) (cs.map g ++ [z]) (upd s₃ D (.list (cs.map g ++ [z])))) ∧ (t = false → JC f g (I D) (bs.map f) (cs.map g) s₂))
    (h5 : ∀ D cs a s, I D [] cs a s → Q (.ref D) s) : CompB X sn n v F G ρ σ Q :=
  ⟨src, xs, h1, hs, by rw [hx, List.length_map]; exact hl, fun D d1 d2 d3 => ⟨JC f g (I D), ⟨bs, [], a, hx, rfl, hi D _ d1 d2 d3 rfl⟩, fun ys zs s ⟨bs, cs, a, e1, e2, h⟩ => by
    obtain ⟨k1, k2, k3⟩ := h3 D bs cs a s h
    subst e1 e2
    exact ⟨k1, k2, by rw [List.length_map, List.length_map]; exact k3⟩, fun y ys zs s ⟨bs, cs, a, e1, e2, h⟩ => by
    cases bs with
    | nil => cases e1
    | cons b bs =>
      obtain ⟨rfl, rfl⟩ := List.cons.inj e1
      subst e2
      exact h4 D b bs cs a s h, fun zs s ⟨bs, cs, a, e1, e2, h⟩ => by
    cases bs with
    | nil => subst e2; exact h5 D cs a s h
    | cons b bs => cases e1⟩⟩
theorem ifA {p : Prop} [Decidable p] {n : Nat} {e : Ve} {k : Cm} {Q : Fl → Loc → St → Prop} {a b : Int} (hl : putS n (.int b) ρ = ρ) (he : ∀ Q : V → St → Prop, Q (.int a) σ → e.d X Γ ρ σ Q) (h : go X Γ k (putS n (.int (if p then a else b)) ρ) σ Q) :
    (decide p = true → go X Γ (.asg n e .nil) ρ σ (gx X Γ k Q)) ∧ (decide p = false → go X Γ .nil ρ σ (gx X Γ k Q)) :=
  iC (fun q => he _ (by rw [if_pos q] at h; exact h)) fun q => by rw [if_neg q, hl] at h; exact h
theorem jn3 {Y P : Int → Int → St → Prop} {G : Prop} (h : (∀ a b s, P a b s → Y a b s) → G) (y : ∀ a b s, P a b s → Y a b s) : G := h y
theorem gN {k : Cm} {Q : Fl → Loc → St → Prop} (h : go X Γ k ρ σ Q) : go X Γ .nil ρ σ (gx X Γ k Q) := h
theorem gA {n : Nat} {e : Ve} {v : V} {k : Cm} {Q : Fl → Loc → St → Prop} (he : ∀ Q : V → St → Prop, Q v σ → e.d X Γ ρ σ Q) (h : go X Γ k (putS n v ρ) σ Q) : go X Γ (.asg n e .nil) ρ σ (gx X Γ k Q) := he _ h
theorem uT {t : Addr} {xs : List V} {n : Nat} {P : List V → Prop} (h : rd X σ t = some (.tup xs)) (hl : xs.length = n) (k : P xs) : ∃ src xs, SrcV X σ (.ref t) src ∧ SrcOk X σ src xs ∧ xs.length = n ∧ P xs := ⟨.tup t, xs, rfl, h, hl, k⟩
theorem uL {t : Addr} {xs : List V} {n : Nat} {P : List V → Prop} (h : rd X σ t = some (.list xs)) (hl : xs.length = n) (k : P xs) : ∃ src xs, SrcV X σ (.ref t) src ∧ SrcOk X σ src xs ∧ xs.length = n ∧ P xs := ⟨.list t, xs, rfl, h, hl, k⟩
/-- the rest of the program, unnamed -/
theorem absK {k : Cm} {Q : Fl → Loc → St → Prop} (h : ∀ K : Fl → Loc → St → Prop, (∀ fl ρ σ, Q fl ρ σ → K fl ρ σ) → go X Γ k ρ σ K) : go X Γ k ρ σ Q := h Q fun _ _ _ h => h
theorem jn {Y G : Prop} (h : Y → G) (y : Y) : G := h y
theorem jnS {Y P : St → Prop} {G : Prop} (h : (∀ s, P s → Y s) → G) (y : ∀ s, P s → Y s) : G := h y
theorem aS {l : Addr} {xs : List V} {G : Addr → Prop} (h : σ l = some (.list xs)) (k : G l) : ∃ l' xs₀, V.ref l = .ref l' ∧ σ l' = some (.list xs₀) ∧ G l' := ⟨l, xs, rfl, h, k⟩
theorem aT {l : Addr} {xs : List V} {P : List V → Prop} (h : σ l = some (.list xs)) (hl : xs.length < 1000) (k : P xs) : ∃ xs, σ l = some (.list xs) ∧ xs.length < 1000 ∧ P xs := ⟨xs, h, hl, k⟩
theorem gI {l : Addr} {es : List (Int × V)} {G H : Addr → Prop} (h1 : l ≠ 1) (h2 : σ l = some (.idict es)) (k : G l) : ∃ l', V.ref l = .ref l' ∧ l' ≠ 1 ∧ (((∃ es, σ l' = some (.idict es)) ∧ G l') ∨ H l') := ⟨l, rfl, h1, .inl ⟨⟨es, h2⟩, k⟩⟩
theorem gP {l : Addr} {es : List ((Int × Int) × Addr × V)} {G H : Addr → Prop} (h1 : l ≠ 1) (h2 : σ l = some (.pdict es)) (k : G l) : ∃ l', V.ref l = .ref l' ∧ l' ≠ 1 ∧ (H l' ∨ ((∃ es, σ l' = some (.pdict es)) ∧ G l')) := ⟨l, rfl, h1, .inr ⟨⟨es, h2⟩, k⟩⟩
theorem gJ {l : Addr} {es : List (Int × V)} {i : Int} {P : List (Int × V) → Int → Prop} (h : σ l = some (.idict es)) (k : P es i) : ∃ es i', rd X σ l = some (.idict es) ∧ V.int i = .int i' ∧ P es i' := ⟨es, i, rd_own h, rfl, k⟩
theorem aL {d c : Addr} {xs ys : List V} (h1 : rd X σ d = some (.list xs)) (h2 : rd X σ c = some (.list ys)) (h3 : xs.length + ys.length ≤ 10000) (k : Made X σ (.list (xs ++ ys)) Q) : ∃ d' c' xs ys, V.ref d = .ref d' ∧ V.ref c = .ref c' ∧ rd X σ d' = some (.list xs) ∧ rd X σ c' = some (.list ys) ∧ xs.length + ys.length ≤ 10000 ∧ Made X σ (.list (xs ++ ys)) Q := ⟨d, c, xs, ys, rfl, rfl, h1, h2, h3, k⟩
end
theorem ofLen {α : Type} (d : α) {n : Nat} {l : List α} (h : l.length = n) : l = (List.range n).map fun i => l.getD i d := by
  subst h
  apply List.ext_getElem
  · simp
  · intro i h1 h2
    simp [h1]
theorem mkDef {P : Params} {f q : Nat} {S : Stmt} {fi : Fi} {ns : List Nat} (fn : FnOk (KK P) f q S)
    (h : ((fScope S).names, (fScope S).kind, (fScope S).isCoroutine, (fScope S).isGenerator, fi.own, (ns.all fun n => isLoc fi n)) = (fi.ks.map (fun p => (st p.1, p.2)), .function, false, false, true, true))
    (b : ∀ (nm : Str) (doc pm cd : Value) (g : Nat → Value), bindArgs (fnOf nm (st q) (fArgs S) (fBody S) (fScope S) .none .none doc pm none cd .none) ⟨(List.range ns.length).map g, []⟩ = pure ((ns.map st).zip ((List.range ns.length).map g))) : DefOk P f q S fi ns := by
  simp only [Prod.mk.injEq] at h
  obtain ⟨h1, h2, h3, h4, h5, h6⟩ := h
  refine ⟨fn, h1, h2, h3, h4, fun nm doc pm cd vals hl => ?_, fun n hn => ?_, h5⟩
  · rw [ofLen Value.none hl]; exact b nm doc pm cd _
  · have := List.all_eq_true.mp h6 n hn
    unfold isLoc at this
    cases e : fi.ks.lookup n with
    | none => rw [e] at this; cases this
    | some k => cases k with
      | «local» => exact .inl rfl
      | cell => exact .inr rfl
      | _ => rw [e] at this; cases this
/-! RD -/
noncomputable abbrev b_28 : Cm := .ret (.bin .Sub (.loc 11) (.cst 5 32000))
theorem D_28 : Dx 28 [11] b_28 := ⟨10, (F1 8), ⟨[(11, .local), (5, .globalImplicit)], true⟩, fun P => mkDef (fk_28 P) (by kernel_rfl!) fun _ _ _ _ _ => by kernel_rfl!, fun P => by kernel_rfl!⟩
noncomputable abbrev b_35 : Cm := .ret (.bin .Sub (.cst 5 32000) (.loc 11))
theorem D_35 : Dx 35 [11] b_35 := ⟨12, (F1 9), ⟨[(11, .local), (5, .globalImplicit)], true⟩, fun P => mkDef (fk_35 P) (by kernel_rfl!) fun _ _ _ _ _ => by kernel_rfl!, fun P => by kernel_rfl!⟩
noncomputable abbrev b_134 : Cm := .setA (.loc 31) 40 (.loc 40) <| .setA (.loc 31) 41 (.loc 41) <| .setA (.loc 31) 42 (.loc 42) <| .setA (.loc 31) 43 (.loc 43) <| .setA (.loc 31) 44 (.loc 44) <| .setA (.loc 31) 24 (.loc 24) <| .setA (.loc 31) 45 (.loc 45) <| .setA (.loc 31) 35 (.int 0) <| .setA (.loc 31) 46 (.int 0) <| .setA (.loc 31) 47 (.list (.cons (.list .nil) .nil)) <| .nil
theorem D_134 : Dx 134 [31, 40, 41, 42, 43, 44, 24, 45] b_134 := ⟨201, (F2 23 0), ⟨[(31, .local), (40, .local), (41, .local), (42, .local), (43, .local), (44, .local), (24, .local), (45, .local)], true⟩, fun P => mkDef (fk_134 P) (by kernel_rfl!) fun _ _ _ _ _ => by kernel_rfl!, fun P => by kernel_rfl!⟩
noncomputable abbrev b_141 : Cm := .ite (.and (.cons (.cmp .Gt (.attr (.loc 31) 45) (.int 0)) (.cons (.cmp .GtE (.attr (.loc 31) 35) (.attr (.loc 31) 45)) .nil))) (.never) (.nil) <| .augA (.loc 31) 35 .Add (.int 1) <| .nil
theorem D_141 : Dx 141 [31] b_141 := ⟨202, (F2 23 1), ⟨[(31, .local), (34, .globalImplicit)], true⟩, fun P => mkDef (fk_141 P) (by kernel_rfl!) fun _ _ _ _ _ => by kernel_rfl!, fun P => by kernel_rfl!⟩
noncomputable abbrev b_155 : Cm := .expr (.meth 497 52 438 (.attr (.loc 50) 40) (.loc 51) .nil) <| .augA (.loc 50) 46 .Add (.int 1) <| .nil
theorem D_155 : Dx 155 [50, 51] b_155 := ⟨49, (F1 24), ⟨[(50, .local), (51, .local)], true⟩, fun P => mkDef (fk_155 P) (by kernel_rfl!) fun _ _ _ _ _ => by kernel_rfl!, fun P => by kernel_rfl!⟩
noncomputable abbrev b_162 : Cm := .expr (.meth0 497 54 445 (.attr (.loc 50) 40)) <| .augA (.loc 50) 46 .Sub (.int 1) <| .nil
theorem D_162 : Dx 162 [50] b_162 := ⟨53, (F1 25), ⟨[(50, .local)], true⟩, fun P => mkDef (fk_162 P) (by kernel_rfl!) fun _ _ _ _ _ => by kernel_rfl!, fun P => by kernel_rfl!⟩
noncomputable abbrev b_169 : Cm := .whl (.cmp .LtE (.bi bLen (.attr (.loc 50) 47) .nil) (.loc 11)) (.expr (.app (.attr (.loc 50) 47) (.list .nil)) <| .nil) <| .setI (.attr (.loc 50) 47) (.loc 11) (.list .nil) <| .nil
theorem D_169 : Dx 169 [50, 11] b_169 := ⟨55, (F1 26), ⟨[(50, .local), (11, .local), (56, .globalImplicit)], true⟩, fun P => mkDef (fk_169 P) (by kernel_rfl!) fun _ _ _ _ _ => by kernel_rfl!, fun P => by kernel_rfl!⟩
noncomputable abbrev b_176 : Cm := .setI (.attr (.loc 50) 47) (.loc 11) (.addL (.list (.cons (.loc 51) .nil)) (.sub (.attr (.loc 50) 47) (.bin .Add (.loc 11) (.int 1)))) <| .nil
theorem D_176 : Dx 176 [50, 11, 51] b_176 := ⟨58, (F1 27), ⟨[(50, .local), (11, .local), (51, .local)], true⟩, fun P => mkDef (fk_176 P) (by kernel_rfl!) fun _ _ _ _ _ => by kernel_rfl!, fun P => by kernel_rfl!⟩
noncomputable abbrev b_183 : Cm := .ite (.cmp .Lt (.loc 14) (.int 0)) (.ret (.neg (.bin .FloorDiv (.bin .Mult (.neg (.loc 14)) (.loc 61)) (.loc 62)))) (.nil) <| .ret (.bin .FloorDiv (.bin .Mult (.loc 14) (.loc 61)) (.loc 62))
theorem D_183 : Dx 183 [14, 61, 62] b_183 := ⟨60, (F1 29), ⟨[(14, .local), (61, .local), (62, .local)], true⟩, fun P => mkDef (fk_183 P) (by kernel_rfl!) fun _ _ _ _ _ => by kernel_rfl!, fun P => by kernel_rfl!⟩
noncomputable abbrev b_197 : Cm := .ite (.cmp .Lt (.loc 62) (.int 1)) (.never) (.nil) <| .setA (.loc 31) 62 (.loc 62) <| .setA (.loc 31) 65 .idict <| .nil
theorem D_197 : Dx 197 [31, 62] b_197 := ⟨208, (F2 30 0), ⟨[(31, .local), (62, .local), (37, .globalImplicit)], true⟩, fun P => mkDef (fk_197 P) (by kernel_rfl!) fun _ _ _ _ _ => by kernel_rfl!, fun P => by kernel_rfl!⟩
noncomputable abbrev b_204 : Cm := .ret (.get (.attr (.loc 31) 65) (.bin .Add (.bin .Mult (.loc 67) (.int 65536)) (.loc 51)) (.int 0))
theorem D_204 : Dx 204 [31, 67, 51] b_204 := ⟨209, (F2 30 1), ⟨[(31, .local), (67, .local), (51, .local)], true⟩, fun P => mkDef (fk_204 P) (by kernel_rfl!) fun _ _ _ _ _ => by kernel_rfl!, fun P => by kernel_rfl!⟩
noncomputable abbrev b_211 : Cm := .asg 69 (.bi bMax (.neg (.attr (.loc 31) 62)) (.cons (.bi bMin (.attr (.loc 31) 62) (.cons (.loc 69) .nil)) .nil)) <| .asg 72 (.bin .Add (.bin .Mult (.loc 67) (.int 65536)) (.loc 51)) <| .asg 73 (.get (.attr (.loc 31) 65) (.loc 72) (.int 0)) <| .setI (.attr (.loc 31) 65) (.loc 72) (.bin .Sub (.bin .Add (.loc 73) (.loc 69)) (.call 60 183 (.loc 73) (.cons (.bi bAbs (.loc 69) .nil) (.cons (.attr (.loc 31) 62) .nil)))) <| .nil
theorem D_211 : Dx 211 [31, 67, 51, 69] b_211 := ⟨210, (F2 30 2), ⟨[(31, .local), (67, .local), (51, .local), (69, .local), (72, .local), (73, .local), (70, .globalImplicit), (71, .globalImplicit), (60, .globalImplicit), (74, .globalImplicit)], true⟩, fun P => mkDef (fk_211 P) (by kernel_rfl!) fun _ _ _ _ _ => by kernel_rfl!, fun P => by kernel_rfl!⟩
noncomputable abbrev b_218 : Cm := .ret (.bi bMin (.attr (.loc 31) 62) (.cons (.bin .Add (.bin .Mult (.bin .Mult (.int 16) (.loc 21)) (.loc 21)) (.bin .Mult (.int 32) (.loc 21))) .nil))
theorem D_218 : Dx 218 [31, 21] b_218 := ⟨211, (F2 30 3), ⟨[(31, .local), (21, .local), (71, .globalImplicit)], true⟩, fun P => mkDef (fk_218 P) (by kernel_rfl!) fun _ _ _ _ _ => by kernel_rfl!, fun P => by kernel_rfl!⟩
noncomputable abbrev b_246 : Cm := .setA (.loc 31) 77 (.loc 77) <| .setA (.loc 31) 78 (.mulL (.list (.cons (.cst 2 0) .nil)) (.loc 77)) <| .setA (.loc 31) 79 (.mulL (.list (.cons (.cst 2 0) .nil)) (.loc 77)) <| .nil
theorem D_246 : Dx 246 [31, 77] b_246 := ⟨212, (F2 31 0), ⟨[(31, .local), (77, .local), (2, .globalImplicit)], true⟩, fun P => mkDef (fk_246 P) (by kernel_rfl!) fun _ _ _ _ _ => by kernel_rfl!, fun P => by kernel_rfl!⟩
noncomputable abbrev b_253 : Cm := .ite (.and (.cons (.cmp .Lt (.loc 11) (.attr (.loc 31) 77)) (.cons (.cmp .NotEq (.sub (.attr (.loc 31) 78) (.loc 11)) (.loc 51)) .nil))) (.setI (.attr (.loc 31) 79) (.loc 11) (.sub (.attr (.loc 31) 78) (.loc 11)) <| .setI (.attr (.loc 31) 78) (.loc 11) (.loc 51) <| .nil) (.nil) <| .nil
theorem D_253 : Dx 253 [31, 11, 51] b_253 := ⟨213, (F2 31 1), ⟨[(31, .local), (11, .local), (51, .local)], true⟩, fun P => mkDef (fk_253 P) (by kernel_rfl!) fun _ _ _ _ _ => by kernel_rfl!, fun P => by kernel_rfl!⟩
noncomputable abbrev b_260 : Cm := .ite (.cmp .Lt (.loc 11) (.attr (.loc 31) 77)) (.ret (.tup (.cons (.sub (.attr (.loc 31) 78) (.loc 11)) (.cons (.sub (.attr (.loc 31) 79) (.loc 11)) .nil)))) (.nil) <| .ret (.tup (.cons (.cst 2 0) (.cons (.cst 2 0) .nil)))
theorem D_260 : Dx 260 [31, 11] b_260 := ⟨214, (F2 31 2), ⟨[(31, .local), (11, .local), (2, .globalImplicit)], true⟩, fun P => mkDef (fk_260 P) (by kernel_rfl!) fun _ _ _ _ _ => by kernel_rfl!, fun P => by kernel_rfl!⟩
noncomputable abbrev b_267 : Cm := .ite (.cmp .Lt (.loc 11) (.attr (.loc 31) 77)) (.setI (.attr (.loc 31) 78) (.loc 11) (.cst 2 0) <| .setI (.attr (.loc 31) 79) (.loc 11) (.cst 2 0) <| .nil) (.nil) <| .nil
theorem D_267 : Dx 267 [31, 11] b_267 := ⟨215, (F2 31 3), ⟨[(31, .local), (11, .local), (2, .globalImplicit)], true⟩, fun P => mkDef (fk_267 P) (by kernel_rfl!) fun _ _ _ _ _ => by kernel_rfl!, fun P => by kernel_rfl!⟩
noncomputable abbrev b_281 : Cm := .expr (.meth 270 80 253 (.loc 42) (.loc 11) (.cons (.loc 84) .nil)) <| .asg 69 (.meth 228 69 218 (.loc 43) (.loc 21) .nil) <| .expr (.meth 228 68 211 (.loc 43) (.loc 67) (.cons (.loc 84) (.cons (.loc 69) .nil))) <| .for 51 (.loc 85) (.ite (.cmp .NotEq (.loc 51) (.loc 84)) (.expr (.meth 228 68 211 (.loc 43) (.loc 67) (.cons (.loc 51) (.cons (.neg (.loc 69)) .nil))) <| .nil) (.nil) <| .nil) <| .nil
theorem D_281 : Dx 281 [43, 42, 67, 11, 21, 84, 85] b_281 := ⟨83, (F1 32), ⟨[(43, .local), (42, .local), (67, .local), (11, .local), (21, .local), (84, .local), (85, .local), (69, .local), (51, .local)], true⟩, fun P => mkDef (fk_281 P) (by kernel_rfl!) fun _ _ _ _ _ => by kernel_rfl!, fun P => by kernel_rfl!⟩
noncomputable abbrev b_288 : Cm := .ite (.cmp .Is (.loc 42) .non) (.ret (.tup (.cons (.cst 2 0) (.cons (.cst 2 0) .nil)))) (.nil) <| .ret (.meth 270 81 260 (.loc 42) (.loc 11) .nil)
theorem D_288 : Dx 288 [42, 11] b_288 := ⟨92, (F1 39), ⟨[(42, .local), (11, .local), (2, .globalImplicit)], true⟩, fun P => mkDef (fk_288 P) (by kernel_rfl!) fun _ _ _ _ _ => by kernel_rfl!, fun P => by kernel_rfl!⟩
noncomputable abbrev b_295 : Cm := .ite (.cmp .Is (.loc 43) .non) (.ret (.int 0)) (.nil) <| .ret (.meth 228 66 204 (.loc 43) (.loc 67) (.cons (.loc 51) .nil))
theorem D_295 : Dx 295 [43, 67, 51] b_295 := ⟨93, (F1 40), ⟨[(43, .local), (67, .local), (51, .local)], true⟩, fun P => mkDef (fk_295 P) (by kernel_rfl!) fun _ _ _ _ _ => by kernel_rfl!, fun P => by kernel_rfl!⟩
noncomputable abbrev b_309 : Cm := .setA (.loc 31) 40 (.loc 40) <| .setA (.loc 31) 97 (.bi bList (.loc 95) .nil) <| .setA (.loc 31) 96 (.loc 96) <| .setA (.loc 31) 42 (.loc 42) <| .setA (.loc 31) 43 (.loc 43) <| .setA (.loc 31) 11 (.loc 11) <| .setA (.loc 31) 99 (.cst 87 0) <| .setA (.loc 31) 100 (.list .nil) <| .setA (.loc 31) 101 (.list .nil) <| .nil
theorem D_309 : Dx 309 [31, 40, 95, 96, 42, 43, 11] b_309 := ⟨216, (F2 41 0), ⟨[(31, .local), (40, .local), (95, .local), (96, .local), (42, .local), (43, .local), (11, .local), (98, .globalImplicit), (87, .globalImplicit)], true⟩, fun P => mkDef (fk_309 P) (by kernel_rfl!) fun _ _ _ _ _ => by kernel_rfl!, fun P => by kernel_rfl!⟩
noncomputable abbrev b_316 : Cm := .whl (.not (.val (.attr (.loc 31) 100))) (.ite (.cmp .Eq (.attr (.loc 31) 99) (.cst 91 5)) (.ret (.cst 2 0)) (.nil) <| .setA (.loc 31) 100 (.meth 345 103 321 (.loc 31) (.attr (.loc 31) 99) .nil) <| .augA (.loc 31) 99 .Add (.int 1) <| .nil) <| .ret (.call 104 356 (.attr (.loc 31) 100) .nil)
theorem D_316 : Dx 316 [31] b_316 := ⟨217, (F2 41 1), ⟨[(31, .local), (91, .globalImplicit), (2, .globalImplicit), (104, .globalImplicit)], true⟩, fun P => mkDef (fk_316 P) (by kernel_rfl!) fun _ _ _ _ _ => by kernel_rfl!, fun P => by kernel_rfl!⟩
noncomputable abbrev b_321 : Cm := .ite (.cmp .Eq (.loc 99) (.cst 87 0)) (.ret (.meth0 345 105 328 (.loc 31))) (.nil) <| .ite (.cmp .Eq (.loc 99) (.cst 88 1)) (.ret (.meth0 345 106 335 (.loc 31))) (.nil) <| .ite (.cmp .Eq (.loc 99) (.cst 89 2)) (.ret (.meth0 345 107 342 (.loc 31))) (.nil) <| .ite (.cmp .Eq (.loc 99) (.cst 90 3)) (.asg 67 (.meth0 497 67 494 (.attr (.loc 31) 40)) <| .ret (.comp 51 [(108,.local),(51,.local),(93,.globalImplicit),(31,.free),(67,.free)] (.attr (.loc 31) 97) (.tup (.cons (.call 93 295 (.attr (.loc 31) 43) (.cons (.loc 67) (.cons (.loc 51) .nil))) (.cons (.loc 51) .nil))))) (.nil) <| .ret (.attr (.loc 31) 101)
theorem D_321 : Dx 321 [31, 99] b_321 := ⟨218, (F2 41 2), ⟨[(31, .cell), (99, .local), (67, .cell), (87, .globalImplicit), (88, .globalImplicit), (89, .globalImplicit), (90, .globalImplicit)], true⟩, fun P => mkDef (fk_321 P) (by kernel_rfl!) fun _ _ _ _ _ => by kernel_rfl!, fun P => by kernel_rfl!⟩
noncomputable abbrev b_328 : Cm := .ite (.cmp .NotIn (.attr (.loc 31) 96) (.attr (.loc 31) 97)) (.ret (.list .nil)) (.nil) <| .expr (.rem (.attr (.loc 31) 97) (.attr (.loc 31) 96)) <| .ret (.list (.cons (.tup (.cons (.int 0) (.cons (.attr (.loc 31) 96) .nil))) .nil))
theorem D_328 : Dx 328 [31] b_328 := ⟨219, (F2 41 3), ⟨[(31, .local)], true⟩, fun P => mkDef (fk_328 P) (by kernel_rfl!) fun _ _ _ _ _ => by kernel_rfl!, fun P => by kernel_rfl!⟩
noncomputable abbrev b_335 : Cm := .asg 110 (.list .nil) <| .asg 111 (.list .nil) <| .for 51 (.attr (.loc 31) 97) (.ite (.not (.val (.meth 497 112 480 (.attr (.loc 31) 40) (.loc 51) .nil))) (.expr (.app (.loc 111) (.loc 51)) <| .cont) (.nil) <| .asg 113 (.meth 497 113 487 (.attr (.loc 31) 40) (.loc 51) .nil) <| .ite (.cmp .GtE (.loc 113) (.int 0)) (.expr (.app (.loc 110) (.tup (.cons (.loc 113) (.cons (.loc 51) .nil)))) <| .nil) (.expr (.app (.attr (.loc 31) 101) (.tup (.cons (.loc 113) (.cons (.loc 51) .nil)))) <| .nil) <| .nil) <| .setA (.loc 31) 97 (.loc 111) <| .ret (.loc 110)
theorem D_335 : Dx 335 [31] b_335 := ⟨220, (F2 41 4), ⟨[(31, .local), (110, .local), (111, .local), (51, .local), (113, .local)], true⟩, fun P => mkDef (fk_335 P) (by kernel_rfl!) fun _ _ _ _ _ => by kernel_rfl!, fun P => by kernel_rfl!⟩
noncomputable abbrev b_342 : Cm := .asg 114 (.list .nil) <| .for 51 (.call 92 288 (.attr (.loc 31) 42) (.cons (.attr (.loc 31) 11) .nil)) (.ite (.cmp .In (.loc 51) (.attr (.loc 31) 97)) (.expr (.rem (.attr (.loc 31) 97) (.loc 51)) <| .expr (.app (.loc 114) (.tup (.cons (.int 0) (.cons (.loc 51) .nil)))) <| .nil) (.nil) <| .nil) <| .ret (.loc 114)
theorem D_342 : Dx 342 [31] b_342 := ⟨221, (F2 41 5), ⟨[(31, .local), (114, .local), (51, .local), (92, .globalImplicit)], true⟩, fun P => mkDef (fk_342 P) (by kernel_rfl!) fun _ _ _ _ _ => by kernel_rfl!, fun P => by kernel_rfl!⟩
noncomputable abbrev b_356 : Cm := .asg 84 (.int 0) <| .for 72 (.bi bRange2 (.int 1) (.cons (.bi bLen (.loc 115) .nil) .nil)) (.ite (.cmp .Gt (.sub (.sub (.loc 115) (.loc 72)) (.int 0)) (.sub (.sub (.loc 115) (.loc 84)) (.int 0))) (.asg 84 (.loc 72) <| .nil) (.nil) <| .nil) <| .ret (.sub (.pop1 (.loc 115) (.loc 84)) (.int 1))
theorem D_356 : Dx 356 [115] b_356 := ⟨104, (F1 42), ⟨[(115, .local), (84, .local), (72, .local), (116, .globalImplicit), (56, .globalImplicit)], true⟩, fun P => mkDef (fk_356 P) (by kernel_rfl!) fun _ _ _ _ _ => by kernel_rfl!, fun P => by kernel_rfl!⟩
noncomputable abbrev b_363 : Cm := .expr (.meth0 144 48 141 (.loc 50)) <| .asg 40 (.attr (.loc 50) 40) <| .ite (.and (.cons (.cmp .Gt (.loc 11) (.int 0)) (.cons (.val (.meth0 497 120 473 (.loc 40))) .nil))) (.ret (.cst 6 0)) (.nil) <| .ite (.val (.meth0 497 121 466 (.loc 40))) (.asg 95 (.meth0 497 95 426 (.loc 40)) <| .ite (.not (.val (.loc 95))) (.ret (.call 10 28 (.loc 11) .nil)) (.nil) <| .ite (.cmp .LtE (.loc 44) (.int 0)) (.ret (.meth0 497 14 452 (.loc 40))) (.nil) <| .ret (.call 122 370 (.loc 50) (.cons (.loc 95) (.cons (.neg (.cst 7 32001)) (.cons (.loc 25) (.cons (.loc 26) (.cons (.loc 11) (.cons (.loc 44) .nil)))))))) (.nil) <| .asg 84 (.meth0 497 14 452 (.loc 40)) <| .ite (.or (.cons (.cmp .LtE (.loc 44) (.int 0)) (.cons (.cmp .GtE (.loc 84) (.loc 26)) .nil))) (.ret (.loc 84)) (.nil) <| .ret (.call 122 370 (.loc 50) (.cons (.meth0 497 123 431 (.loc 40)) (.cons (.loc 84) (.cons (.bi bMax (.loc 25) (.cons (.loc 84) .nil)) (.cons (.loc 26) (.cons (.loc 11) (.cons (.loc 44) .nil)))))))
theorem D_363 : Dx 363 [50, 25, 26, 11, 44] b_363 := ⟨119, (F1 44), ⟨[(50, .local), (25, .local), (26, .local), (11, .local), (44, .local), (40, .local), (95, .local), (84, .local), (6, .globalImplicit), (10, .globalImplicit), (122, .globalImplicit), (7, .globalImplicit), (70, .globalImplicit)], true⟩, fun P => mkDef (fk_363 P) (by kernel_rfl!) fun _ _ _ _ _ => by kernel_rfl!, fun P => by kernel_rfl!⟩
noncomputable abbrev b_370 : Cm := .asg 124 (.call 94 345 (.attr (.loc 50) 40) (.cons (.loc 95) (.cons (.cst 2 0) (.cons (.attr (.loc 50) 42) (.cons (.attr (.loc 50) 43) (.cons (.loc 11) .nil)))))) <| .asg 51 (.meth0 345 102 316 (.loc 124)) <| .whl (.cmp .NotEq (.loc 51) (.cst 2 0)) (.expr (.call 49 155 (.loc 50) (.cons (.loc 51) .nil)) <| .asg 14 (.neg (.call 119 363 (.loc 50) (.cons (.neg (.loc 26)) (.cons (.neg (.loc 25)) (.cons (.bin .Add (.loc 11) (.int 1)) (.cons (.bin .Sub (.loc 44) (.int 1)) .nil)))))) <| .expr (.call 53 162 (.loc 50) .nil) <| .ite (.cmp .Gt (.loc 14) (.loc 84)) (.asg 84 (.loc 14) <| .ite (.cmp .GtE (.loc 14) (.loc 26)) (.ret (.loc 84)) (.nil) <| .asg 25 (.bi bMax (.loc 25) (.cons (.loc 14) .nil)) <| .nil) (.nil) <| .asg 51 (.meth0 345 102 316 (.loc 124)) <| .nil) <| .ret (.loc 84)
theorem D_370 : Dx 370 [50, 95, 84, 25, 26, 11, 44] b_370 := ⟨122, (F1 45), ⟨[(50, .local), (95, .local), (84, .local), (25, .local), (26, .local), (11, .local), (44, .local), (124, .local), (51, .local), (14, .local), (94, .globalImplicit), (2, .globalImplicit), (49, .globalImplicit), (119, .globalImplicit), (53, .globalImplicit), (70, .globalImplicit)], true⟩, fun P => mkDef (fk_370 P) (by kernel_rfl!) fun _ _ _ _ _ => by kernel_rfl!, fun P => by kernel_rfl!⟩
noncomputable abbrev b_377 : Cm := .expr (.call 55 169 (.loc 50) (.cons (.loc 11) .nil)) <| .ite (.cmp .LtE (.loc 21) (.int 0)) (.ret (.call 119 363 (.loc 50) (.cons (.loc 25) (.cons (.loc 26) (.cons (.loc 11) (.cons (.attr (.loc 50) 44) .nil)))))) (.nil) <| .expr (.meth0 144 48 141 (.loc 50)) <| .asg 40 (.attr (.loc 50) 40) <| .ite (.and (.cons (.cmp .Gt (.loc 11) (.int 0)) (.cons (.val (.meth0 497 120 473 (.loc 40))) .nil))) (.ret (.cst 6 0)) (.nil) <| .asg 129 (.call 10 28 (.loc 11) .nil) <| .asg 130 (.call 12 35 (.bin .Add (.loc 11) (.int 1)) .nil) <| .ite (.cmp .GtE (.loc 25) (.loc 130)) (.ret (.loc 130)) (.nil) <| .ite (.cmp .LtE (.loc 26) (.loc 129)) (.ret (.loc 129)) (.nil) <| .asg 25 (.bi bMax (.loc 25) (.cons (.loc 129) .nil)) <| .asg 26 (.bi bMin (.loc 26) (.cons (.loc 130) .nil)) <| .asg 131 (.meth0 497 131 459 (.loc 40)) <| .unp [96, 14] (.call 132 398 (.loc 50) (.cons (.loc 131) (.cons (.loc 25) (.cons (.loc 26) (.cons (.loc 21) (.cons (.loc 11) .nil)))))) <| .ite (.and (.cons (.cmp .IsNot (.loc 14) .non) (.cons (.not (.val (.loc 128))) .nil))) (.ret (.loc 14)) (.nil) <| .ite (.and (.cons (.val (.loc 128)) (.cons (.cmp .Eq (.loc 96) (.cst 2 0)) (.cons (.cmp .GtE (.loc 21) (.cst 126 4)) (.cons (.cmp .IsNot (.attr (.loc 50) 41) .non) .nil))))) .never (.nil) <| .asg 95 (.meth0 497 95 426 (.loc 40)) <| .ite (.not (.val (.loc 95))) (.ite (.val (.meth0 497 121 466 (.loc 40))) (.ret (.call 10 28 (.loc 11) .nil)) (.nil) <| .ret (.cst 6 0)) (.nil) <| .ret (.call 133 384 (.loc 50) (.cons (.loc 95) (.cons (.loc 96) (.cons (.loc 131) (.cons (.loc 25) (.cons (.loc 26) (.cons (.loc 21) (.cons (.loc 11) (.cons (.loc 128) .nil)))))))))
theorem D_377 : Dx 377 [50, 25, 26, 21, 11, 128] b_377 := ⟨127, (F1 48), ⟨[(50, .local), (25, .local), (26, .local), (21, .local), (11, .local), (128, .local), (40, .local), (129, .local), (130, .local), (131, .local), (96, .local), (14, .local), (95, .local), (55, .globalImplicit), (119, .globalImplicit), (6, .globalImplicit), (10, .globalImplicit), (12, .globalImplicit), (70, .globalImplicit), (71, .globalImplicit), (132, .globalImplicit), (2, .globalImplicit), (126, .globalImplicit), (127, .globalImplicit), (133, .globalImplicit)], true⟩, fun P => mkDef (fk_377 P) (by kernel_rfl!) fun _ _ _ _ _ => by kernel_rfl!, fun P => by kernel_rfl!⟩
noncomputable abbrev b_384 : Cm := .asg 40 (.attr (.loc 50) 40) <| .ite (.cmp .IsNot (.attr (.loc 50) 42) .non) (.expr (.meth 270 82 267 (.attr (.loc 50) 42) (.bin .Add (.loc 11) (.int 2)) .nil) <| .nil) (.nil) <| .asg 67 (.meth0 497 67 494 (.loc 40)) <| .asg 124 (.call 94 345 (.loc 40) (.cons (.loc 95) (.cons (.loc 96) (.cons (.attr (.loc 50) 42) (.cons (.attr (.loc 50) 43) (.cons (.loc 11) .nil)))))) <| .asg 134 (.loc 25) <| .asg 84 (.neg (.cst 7 32001)) <| .asg 135 (.cst 2 0) <| .asg 136 (.list .nil) <| .asg 137 (.bool true) <| .asg 51 (.meth0 345 102 316 (.loc 124)) <| .whl (.cmp .NotEq (.loc 51) (.cst 2 0)) (.asg 112 (.meth 497 112 480 (.loc 40) (.loc 51) .nil) <| .expr (.call 49 155 (.loc 50) (.cons (.loc 51) .nil)) <| .asg 14 (.call 138 391 (.loc 50) (.cons (.loc 25) (.cons (.loc 26) (.cons (.loc 21) (.cons (.loc 11) (.cons (.loc 128) (.cons (.loc 137) .nil))))))) <| .expr (.call 53 162 (.loc 50) .nil) <| .asg 137 (.bool false) <| .ite (.cmp .Gt (.loc 14) (.loc 84)) (.asg 84 (.loc 14) <| .nil) (.nil) <| .ite (.cmp .Gt (.loc 14) (.loc 25)) (.asg 135 (.loc 51) <| .ite (.val (.loc 128)) (.expr (.call 58 176 (.loc 50) (.cons (.loc 11) (.cons (.loc 51) .nil))) <| .nil) (.nil) <| .ite (.cmp .GtE (.loc 14) (.loc 26)) (.ite (.and (.cons (.not (.val (.loc 112))) (.cons (.cmp .IsNot (.attr (.loc 50) 43) .non) (.cons (.cmp .IsNot (.attr (.loc 50) 42) .non) .nil)))) (.expr (.call 83 281 (.attr (.loc 50) 43) (.cons (.attr (.loc 50) 42) (.cons (.loc 67) (.cons (.loc 11) (.cons (.loc 21) (.cons (.loc 51) (.cons (.loc 136) .nil))))))) <| .nil) (.nil) <| .brk) (.nil) <| .asg 25 (.loc 14) <| .nil) (.nil) <| .ite (.not (.val (.loc 112))) (.expr (.app (.loc 136) (.loc 51)) <| .nil) (.nil) <| .asg 51 (.meth0 345 102 316 (.loc 124)) <| .nil) <| .expr (.call 139 405 (.loc 50) (.cons (.loc 131) (.cons (.loc 135) (.cons (.loc 84) (.cons (.loc 134) (.cons (.loc 26) (.cons (.loc 21) (.cons (.loc 11) .nil)))))))) <| .ret (.loc 84)
theorem D_384 : Dx 384 [50, 95, 96, 131, 25, 26, 21, 11, 128] b_384 := ⟨133, (F1 49), ⟨[(50, .local), (95, .local), (96, .local), (131, .local), (25, .local), (26, .local), (21, .local), (11, .local), (128, .local), (40, .local), (67, .local), (124, .local), (134, .local), (84, .local), (135, .local), (136, .local), (137, .local), (51, .local), (112, .local), (14, .local), (94, .globalImplicit), (7, .globalImplicit), (2, .globalImplicit), (49, .globalImplicit), (138, .globalImplicit), (53, .globalImplicit), (58, .globalImplicit), (83, .globalImplicit), (139, .globalImplicit)], true⟩, fun P => mkDef (fk_384 P) (by kernel_rfl!) fun _ _ _ _ _ => by kernel_rfl!, fun P => by kernel_rfl!⟩
noncomputable abbrev b_391 : Cm := .ite (.val (.loc 137)) (.ret (.neg (.call 127 377 (.loc 50) (.cons (.neg (.loc 26)) (.cons (.neg (.loc 25)) (.cons (.bin .Sub (.loc 21) (.int 1)) (.cons (.bin .Add (.loc 11) (.int 1)) (.cons (.loc 128) .nil)))))))) (.nil) <| .asg 14 (.neg (.call 127 377 (.loc 50) (.cons (.bin .Sub (.neg (.loc 25)) (.int 1)) (.cons (.neg (.loc 25)) (.cons (.bin .Sub (.loc 21) (.int 1)) (.cons (.bin .Add (.loc 11) (.int 1)) (.cons (.bool false) .nil))))))) <| .ite (.and (.cons (.cmp .Lt (.loc 25) (.loc 14)) (.cons (.cmp .Lt (.loc 14) (.loc 26)) .nil))) (.asg 14 (.neg (.call 127 377 (.loc 50) (.cons (.neg (.loc 26)) (.cons (.neg (.loc 25)) (.cons (.bin .Sub (.loc 21) (.int 1)) (.cons (.bin .Add (.loc 11) (.int 1)) (.cons (.loc 128) .nil))))))) <| .nil) (.nil) <| .ret (.loc 14)
theorem D_391 : Dx 391 [50, 25, 26, 21, 11, 128, 137] b_391 := ⟨138, (F1 50), ⟨[(50, .local), (25, .local), (26, .local), (21, .local), (11, .local), (128, .local), (137, .local), (14, .local), (127, .globalImplicit)], true⟩, fun P => mkDef (fk_391 P) (by kernel_rfl!) fun _ _ _ _ _ => by kernel_rfl!, fun P => by kernel_rfl!⟩
noncomputable abbrev b_398 : Cm := .ite (.cmp .Is (.attr (.loc 50) 41) .non) (.ret (.tup (.cons (.cst 2 0) (.cons .non .nil)))) (.nil) <| .never
theorem D_398 : Dx 398 [50, 131, 25, 26, 21, 11] b_398 := ⟨132, (F1 51), ⟨[(50, .local), (131, .local), (25, .local), (26, .local), (21, .local), (11, .local), (114, .local), (14, .local), (2, .globalImplicit), (15, .globalImplicit), (20, .globalImplicit)], true⟩, fun P => mkDef (fk_398 P) (by kernel_rfl!) fun _ _ _ _ _ => by kernel_rfl!, fun P => by kernel_rfl!⟩
noncomputable abbrev b_405 : Cm := .ite (.cmp .Is (.attr (.loc 50) 41) .non) (.ret0) (.nil) <| .never
theorem D_405 : Dx 405 [50, 131, 51, 84, 134, 26, 21, 11] b_405 := ⟨139, (F1 52), ⟨[(50, .local), (131, .local), (51, .local), (84, .local), (134, .local), (26, .local), (21, .local), (11, .local), (22, .local), (18, .globalImplicit), (17, .globalImplicit), (16, .globalImplicit), (13, .globalImplicit)], true⟩, fun P => mkDef (fk_405 P) (by kernel_rfl!) fun _ _ _ _ _ => by kernel_rfl!, fun P => by kernel_rfl!⟩
noncomputable abbrev b_419 : Cm := .setA (.loc 31) 144 (.loc 144) <| .setA (.loc 31) 145 (.loc 145) <| .setA (.loc 31) 146 (.loc 146) <| .setA (.loc 31) 147 (.loc 147) <| .setA (.loc 31) 149 (.loc 123) <| .setA (.loc 31) 150 (.loc 148) <| .setA (.loc 31) 151 (.list (.cons (.int 0) .nil)) <| .nil
theorem D_419 : Dx 419 [31, 144, 145, 146, 147, 123, 148] b_419 := ⟨222, (F2 54 0), ⟨[(31, .local), (144, .local), (145, .local), (146, .local), (147, .local), (123, .local), (148, .local)], true⟩, fun P => mkDef (fk_419 P) (by kernel_rfl!) fun _ _ _ _ _ => by kernel_rfl!, fun P => by kernel_rfl!⟩
noncomputable abbrev b_426 : Cm := .ret (.bi bList (.bi bRange2 (.int 1) (.cons (.bin .Add (.bi bLen (.sub (.attr (.loc 31) 144) (.sub (.attr (.loc 31) 151) (.neg (.int 1)))) .nil) (.int 1)) .nil)) .nil)
theorem D_426 : Dx 426 [31] b_426 := ⟨223, (F2 54 1), ⟨[(31, .local), (98, .globalImplicit), (116, .globalImplicit), (56, .globalImplicit)], true⟩, fun P => mkDef (fk_426 P) (by kernel_rfl!) fun _ _ _ _ _ => by kernel_rfl!, fun P => by kernel_rfl!⟩
noncomputable abbrev b_431 : Cm := .ret (.compf 51 [(108,.local),(51,.local),(31,.free)] (.meth0 497 95 426 (.loc 31)) (.val (.meth 497 112 480 (.loc 31) (.loc 51) .nil)) (.loc 51))
theorem D_431 : Dx 431 [31] b_431 := ⟨224, (F2 54 2), ⟨[(31, .cell)], true⟩, fun P => mkDef (fk_431 P) (by kernel_rfl!) fun _ _ _ _ _ => by kernel_rfl!, fun P => by kernel_rfl!⟩
noncomputable abbrev b_438 : Cm := .asg 152 (.sub (.attr (.loc 31) 144) (.sub (.attr (.loc 31) 151) (.neg (.int 1)))) <| .ite (.or (.cons (.cmp .Lt (.loc 51) (.int 1)) (.cons (.cmp .Gt (.loc 51) (.bi bLen (.loc 152) .nil)) .nil))) (.never) (.nil) <| .expr (.app (.attr (.loc 31) 151) (.sub (.loc 152) (.bin .Sub (.loc 51) (.int 1)))) <| .nil
theorem D_438 : Dx 438 [31, 51] b_438 := ⟨225, (F2 54 3), ⟨[(31, .local), (51, .local), (152, .local), (56, .globalImplicit), (33, .globalImplicit)], true⟩, fun P => mkDef (fk_438 P) (by kernel_rfl!) fun _ _ _ _ _ => by kernel_rfl!, fun P => by kernel_rfl!⟩
noncomputable abbrev b_445 : Cm := .ite (.cmp .Eq (.bi bLen (.attr (.loc 31) 151) .nil) (.int 1)) (.never) (.nil) <| .expr (.pop0 (.attr (.loc 31) 151)) <| .nil
theorem D_445 : Dx 445 [31] b_445 := ⟨226, (F2 54 4), ⟨[(31, .local), (56, .globalImplicit), (33, .globalImplicit)], true⟩, fun P => mkDef (fk_445 P) (by kernel_rfl!) fun _ _ _ _ _ => by kernel_rfl!, fun P => by kernel_rfl!⟩
noncomputable abbrev b_452 : Cm := .ret (.sub (.attr (.loc 31) 145) (.sub (.attr (.loc 31) 151) (.neg (.int 1))))
theorem D_452 : Dx 452 [31] b_452 := ⟨227, (F2 54 5), ⟨[(31, .local)], true⟩, fun P => mkDef (fk_452 P) (by kernel_rfl!) fun _ _ _ _ _ => by kernel_rfl!, fun P => by kernel_rfl!⟩
noncomputable abbrev b_459 : Cm := .ret (.bin .Add (.sub (.attr (.loc 31) 151) (.neg (.int 1))) (.int 1))
theorem D_459 : Dx 459 [31] b_459 := ⟨228, (F2 54 6), ⟨[(31, .local)], true⟩, fun P => mkDef (fk_459 P) (by kernel_rfl!) fun _ _ _ _ _ => by kernel_rfl!, fun P => by kernel_rfl!⟩
noncomputable abbrev b_466 : Cm := .ret (.sub (.attr (.loc 31) 146) (.sub (.attr (.loc 31) 151) (.neg (.int 1))))
theorem D_466 : Dx 466 [31] b_466 := ⟨229, (F2 54 7), ⟨[(31, .local)], true⟩, fun P => mkDef (fk_466 P) (by kernel_rfl!) fun _ _ _ _ _ => by kernel_rfl!, fun P => by kernel_rfl!⟩
noncomputable abbrev b_473 : Cm := .ret (.sub (.attr (.loc 31) 147) (.sub (.attr (.loc 31) 151) (.neg (.int 1))))
theorem D_473 : Dx 473 [31] b_473 := ⟨230, (F2 54 8), ⟨[(31, .local)], true⟩, fun P => mkDef (fk_473 P) (by kernel_rfl!) fun _ _ _ _ _ => by kernel_rfl!, fun P => by kernel_rfl!⟩
noncomputable abbrev b_480 : Cm := .ret (.sub (.sub (.attr (.loc 31) 149) (.sub (.attr (.loc 31) 151) (.neg (.int 1)))) (.bin .Sub (.loc 51) (.int 1)))
theorem D_480 : Dx 480 [31, 51] b_480 := ⟨231, (F2 54 9), ⟨[(31, .local), (51, .local)], true⟩, fun P => mkDef (fk_480 P) (by kernel_rfl!) fun _ _ _ _ _ => by kernel_rfl!, fun P => by kernel_rfl!⟩
noncomputable abbrev b_487 : Cm := .ret (.sub (.sub (.attr (.loc 31) 150) (.sub (.attr (.loc 31) 151) (.neg (.int 1)))) (.bin .Sub (.loc 51) (.int 1)))
theorem D_487 : Dx 487 [31, 51] b_487 := ⟨232, (F2 54 10), ⟨[(31, .local), (51, .local)], true⟩, fun P => mkDef (fk_487 P) (by kernel_rfl!) fun _ _ _ _ _ => by kernel_rfl!, fun P => by kernel_rfl!⟩
noncomputable abbrev b_494 : Cm := .ret (.bin .BitAnd (.bin .Sub (.bi bLen (.attr (.loc 31) 151) .nil) (.int 1)) (.int 1))
theorem D_494 : Dx 494 [31] b_494 := ⟨233, (F2 54 11), ⟨[(31, .local), (56, .globalImplicit)], true⟩, fun P => mkDef (fk_494 P) (by kernel_rfl!) fun _ _ _ _ _ => by kernel_rfl!, fun P => by kernel_rfl!⟩
noncomputable abbrev b_508 : Cm := .asg 1 (.sub (.loc 157) (.int 0)) <| .setI (.loc 157) (.int 0) (.bin .Add (.loc 1) (.int 1)) <| .ite (.cmp .Lt (.loc 1) (.bi bLen (.loc 158) .nil)) (.ret (.sub (.loc 158) (.loc 1))) (.nil) <| .ret (.bin .Add (.bin .Mult (.int 5) (.loc 1)) (.bin .FloorDiv (.loc 1) (.int 2)))
theorem D_508 : Dx 508 [157, 158] b_508 := ⟨156, (F1 56), ⟨[(157, .local), (158, .local), (1, .local), (56, .globalImplicit)], true⟩, fun P => mkDef (fk_508 P) (by kernel_rfl!) fun _ _ _ _ _ => by kernel_rfl!, fun P => by kernel_rfl!⟩
noncomputable abbrev b_515 : Cm := .ret (.bin .Mod (.call 156 508 (.loc 157) (.cons (.loc 158) .nil)) (.loc 160))
theorem D_515 : Dx 515 [157, 158, 160] b_515 := ⟨159, (F1 57), ⟨[(157, .local), (158, .local), (160, .local), (156, .globalImplicit)], true⟩, fun P => mkDef (fk_515 P) (by kernel_rfl!) fun _ _ _ _ _ => by kernel_rfl!, fun P => by kernel_rfl!⟩
noncomputable abbrev b_522 : Cm := .asg 162 (.call 159 515 (.loc 157) (.cons (.loc 158) (.cons (.int 63507) .nil))) <| .ite (.cmp .Eq (.bin .Mod (.loc 162) (.int 2)) (.int 1)) (.ret (.neg (.bin .FloorDiv (.bin .Add (.loc 162) (.int 1)) (.int 2)))) (.nil) <| .ret (.bin .FloorDiv (.loc 162) (.int 2))
theorem D_522 : Dx 522 [157, 158] b_522 := ⟨161, (F1 58), ⟨[(157, .local), (158, .local), (162, .local), (159, .globalImplicit)], true⟩, fun P => mkDef (fk_522 P) (by kernel_rfl!) fun _ _ _ _ _ => by kernel_rfl!, fun P => by kernel_rfl!⟩
noncomputable abbrev b_527 : Cm := .unp [152, 145, 146, 147, 165, 148] (.tup (.cons (.list .nil) (.cons (.list .nil) (.cons (.list .nil) (.cons (.list .nil) (.cons (.list .nil) (.cons (.list .nil) .nil))))))) <| .for 166 (.bi bRange1 (.loc 160) .nil) (.asg 167 (.bin .Sub (.bin .Sub (.loc 160) (.int 1)) (.loc 166)) <| .asg 168 (.int 0) <| .ite (.cmp .Gt (.loc 167) (.int 0)) (.asg 168 (.call 159 515 (.loc 157) (.cons (.loc 158) (.cons (.bin .Add (.loc 164) (.int 1)) .nil))) <| .nil) (.nil) <| .asg 169 (.list .nil) <| .for 170 (.bi bRange1 (.loc 168) .nil) (.expr (.app (.loc 169) (.bin .Add (.bin .Add (.loc 166) (.int 1)) (.call 159 515 (.loc 157) (.cons (.loc 158) (.cons (.loc 167) .nil))))) <| .nil) <| .expr (.app (.loc 152) (.loc 169)) <| .expr (.app (.loc 145) (.call 161 522 (.loc 157) (.cons (.loc 158) .nil))) <| .asg 171 (.call 159 515 (.loc 157) (.cons (.loc 158) (.cons (.int 6) .nil))) <| .expr (.app (.loc 146) (.cmp .Eq (.bin .Mod (.loc 171) (.int 3)) (.int 1))) <| .expr (.app (.loc 147) (.cmp .Eq (.loc 171) (.int 5))) <| .casg 172 170 [(108,.local),(170,.local),(159,.globalImplicit),(158,.free),(157,.free)] (.loc 169) (.call 159 515 (.loc 157) (.cons (.loc 158) (.cons (.int 6) .nil))) <| .expr (.app (.loc 165) (.comp 171 [(108,.local),(171,.local)] (.loc 172) (.cmp .Eq (.bin .Mod (.loc 171) (.int 2)) (.int 1)))) <| .expr (.app (.loc 148) (.comp 171 [(108,.local),(171,.local)] (.loc 172) (.bin .Sub (.loc 171) (.int 3)))) <| .nil) <| .ret (.list (.cons (.loc 152) (.cons (.loc 145) (.cons (.loc 146) (.cons (.loc 147) (.cons (.loc 165) (.cons (.loc 148) .nil)))))))
theorem D_527 : Dx 527 [157, 158, 160, 164] b_527 := ⟨163, (F1 59), ⟨[(157, .cell), (158, .cell), (160, .local), (164, .local), (152, .local), (145, .local), (146, .local), (147, .local), (165, .local), (148, .local), (166, .local), (167, .local), (168, .local), (169, .local), (170, .local), (171, .local), (172, .local), (116, .globalImplicit), (159, .globalImplicit), (161, .globalImplicit)], true⟩, fun P => mkDef (fk_527 P) (by kernel_rfl!) fun _ _ _ _ _ => by kernel_rfl!, fun P => by kernel_rfl!⟩
noncomputable abbrev b_532 : Cm := .swp [165, 148] (.tup (.cons (.sub (.sub (.sub (.loc 174) (.str 175)) (.int 4)) (.loc 166)) (.cons (.sub (.sub (.sub (.loc 174) (.str 175)) (.int 5)) (.loc 166)) .nil))) <| .asg 81 (.ifx (.cmp .Lt (.loc 11) (.bi bLen (.sub (.loc 174) (.str 176)) .nil)) (.sub (.sub (.loc 174) (.str 176)) (.loc 11)) (.list .nil)) <| .asg 172 (.list .nil) <| .for 51 (.loc 95) (.ite (.val (.sub (.loc 165) (.bin .Sub (.loc 51) (.int 1)))) (.ite (.cmp .Eq (.loc 99) (.ifx (.cmp .GtE (.sub (.loc 148) (.bin .Sub (.loc 51) (.int 1))) (.int 0)) (.int 1) (.int 4))) (.expr (.app (.loc 172) (.tup (.cons (.neg (.sub (.loc 148) (.bin .Sub (.loc 51) (.int 1)))) (.cons (.loc 51) .nil)))) <| .nil) (.nil) <| .nil) (.ite (.and (.cons (.cmp .Eq (.loc 99) (.int 2)) (.cons (.cmp .In (.loc 51) (.loc 81)) .nil))) (.expr (.app (.loc 172) (.tup (.cons (.idx (.loc 81) (.loc 51)) (.cons (.loc 51) .nil)))) <| .nil) (.ite (.cmp .Eq (.loc 99) (.int 3)) (.expr (.app (.loc 172) (.tup (.cons (.neg (.get (.sub (.loc 174) (.str 178)) (.tup (.cons (.bin .Mod (.loc 11) (.int 2)) (.cons (.loc 51) .nil))) (.int 0))) (.cons (.loc 51) .nil)))) <| .nil) (.nil) <| .nil) <| .nil) <| .nil) <| .ret (.comp 171 [(108,.local),(171,.local)] (.bi bSorted (.loc 172) .nil) (.sub (.loc 171) (.int 1)))
theorem D_532 : Dx 532 [174, 166, 95, 11, 99] b_532 := ⟨173, (F1 60), ⟨[(174, .local), (166, .local), (95, .local), (11, .local), (99, .local), (165, .local), (148, .local), (81, .local), (172, .local), (51, .local), (56, .globalImplicit), (179, .globalImplicit)], true⟩, fun P => mkDef (fk_532 P) (by kernel_rfl!) fun _ _ _ _ _ => by kernel_rfl!, fun P => by kernel_rfl!⟩
noncomputable abbrev b_537 : Cm := .unp [152, 145, 146, 147, 165, 148] (.sub (.loc 174) (.str 175)) <| .augI (.loc 174) (.str 181) .Add (.int 1) <| .ite (.and (.cons (.cmp .Gt (.loc 11) (.int 0)) (.cons (.val (.sub (.loc 147) (.loc 166))) .nil))) (.ret (.int 0)) (.nil) <| .ite (.and (.cons (.val (.sub (.loc 146) (.loc 166))) (.cons (.not (.val (.sub (.loc 152) (.loc 166)))) .nil))) (.ret (.bin .Sub (.loc 11) (.int 32000))) (.nil) <| .ite (.or (.cons (.cmp .LtE (.loc 97) (.int 0)) (.cons (.and (.cons (.not (.val (.sub (.loc 146) (.loc 166)))) (.cons (.cmp .GtE (.sub (.loc 145) (.loc 166)) (.loc 130)) .nil))) .nil))) (.ret (.sub (.loc 145) (.loc 166))) (.nil) <| .asg 84 (.ifx (.val (.sub (.loc 146) (.loc 166))) (.neg (.int 32001)) (.sub (.loc 145) (.loc 166))) <| .asg 129 (.bi bMax (.loc 129) (.cons (.loc 84) .nil)) <| .casgf 182 1 [(108,.local),(1,.local),(146,.free),(165,.free),(166,.free)] (.bi bRange1 (.bi bLen (.sub (.loc 152) (.loc 166)) .nil) .nil) (.or (.cons (.val (.sub (.loc 146) (.loc 166))) (.cons (.val (.sub (.sub (.loc 165) (.loc 166)) (.loc 1))) .nil))) (.bin .Add (.loc 1) (.int 1)) <| .for 99 (.tup (.cons (.int 1) (.cons (.int 2) (.cons (.int 3) (.cons (.int 4) .nil))))) (.asg 183 (.call 173 532 (.loc 174) (.cons (.loc 166) (.cons (.loc 182) (.cons (.loc 11) (.cons (.loc 99) .nil))))) <| .casgf 182 51 [(108,.local),(51,.local),(183,.free)] (.loc 182) (.cmp .NotIn (.loc 51) (.loc 183)) (.loc 51) <| .for 51 (.loc 183) (.asg 14 (.neg (.call 180 537 (.loc 174) (.cons (.sub (.sub (.loc 152) (.loc 166)) (.bin .Sub (.loc 51) (.int 1))) (.cons (.neg (.loc 130)) (.cons (.neg (.loc 129)) (.cons (.bin .Add (.loc 11) (.int 1)) (.cons (.bin .Sub (.loc 97) (.int 1)) .nil))))))) <| .asg 84 (.bi bMax (.loc 84) (.cons (.loc 14) .nil)) <| .asg 129 (.bi bMax (.loc 129) (.cons (.loc 14) .nil)) <| .ite (.cmp .GtE (.loc 14) (.loc 130)) (.ret (.loc 84)) (.nil) <| .nil) <| .nil) <| .ret (.loc 84)
theorem D_537 : Dx 537 [174, 166, 129, 130, 11, 97] b_537 := ⟨180, (F1 61), ⟨[(174, .local), (166, .cell), (129, .local), (130, .local), (11, .local), (97, .local), (152, .local), (145, .local), (146, .cell), (147, .local), (165, .cell), (148, .local), (84, .local), (182, .local), (99, .local), (183, .cell), (51, .local), (14, .local), (70, .globalImplicit), (116, .globalImplicit), (56, .globalImplicit), (173, .globalImplicit), (180, .globalImplicit)], true⟩, fun P => mkDef (fk_537 P) (by kernel_rfl!) fun _ _ _ _ _ => by kernel_rfl!, fun P => by kernel_rfl!⟩
noncomputable abbrev b_544 : Cm := .asg 73 (.get (.sub (.loc 174) (.str 178)) (.tup (.cons (.loc 67) (.cons (.loc 51) .nil))) (.int 0)) <| .asg 185 (.bin .FloorDiv (.bin .Mult (.bi bAbs (.loc 73) .nil) (.bi bAbs (.loc 69) .nil)) (.sub (.loc 174) (.str 62))) <| .setI (.sub (.loc 174) (.str 178)) (.tup (.cons (.loc 67) (.cons (.loc 51) .nil))) (.bin .Sub (.bin .Add (.loc 73) (.loc 69)) (.ifx (.cmp .Gt (.loc 73) (.int 0)) (.loc 185) (.neg (.loc 185)))) <| .nil
theorem D_544 : Dx 544 [174, 67, 51, 69] b_544 := ⟨184, (F1 62), ⟨[(174, .local), (67, .local), (51, .local), (69, .local), (73, .local), (185, .local), (74, .globalImplicit)], true⟩, fun P => mkDef (fk_544 P) (by kernel_rfl!) fun _ _ _ _ _ => by kernel_rfl!, fun P => by kernel_rfl!⟩
noncomputable abbrev b_551 : Cm := .ite (.and (.cons (.cmp .Lt (.loc 11) (.bi bLen (.sub (.loc 174) (.str 176)) .nil)) (.cons (.cmp .NotEq (.sub (.sub (.sub (.loc 174) (.str 176)) (.loc 11)) (.int 0)) (.loc 84)) .nil))) (.setI (.sub (.loc 174) (.str 176)) (.loc 11) (.list (.cons (.loc 84) (.cons (.sub (.sub (.sub (.loc 174) (.str 176)) (.loc 11)) (.int 0)) .nil))) <| .nil) (.nil) <| .asg 69 (.bi bMin (.sub (.loc 174) (.str 62)) (.cons (.bin .Mult (.bin .Mult (.int 16) (.loc 21)) (.bin .Add (.loc 21) (.int 2))) .nil)) <| .expr (.call 184 544 (.loc 174) (.cons (.bin .Mod (.loc 11) (.int 2)) (.cons (.loc 84) (.cons (.loc 69) .nil)))) <| .for 51 (.loc 85) (.expr (.call 184 544 (.loc 174) (.cons (.bin .Mod (.loc 11) (.int 2)) (.cons (.loc 51) (.cons (.neg (.loc 69)) .nil)))) <| .nil) <| .nil
theorem D_551 : Dx 551 [174, 11, 21, 84, 85] b_551 := ⟨186, (F1 63), ⟨[(174, .local), (11, .local), (21, .local), (84, .local), (85, .local), (69, .local), (51, .local), (56, .globalImplicit), (71, .globalImplicit), (184, .globalImplicit)], true⟩, fun P => mkDef (fk_551 P) (by kernel_rfl!) fun _ _ _ _ _ => by kernel_rfl!, fun P => by kernel_rfl!⟩
noncomputable abbrev b_556 : Cm := .unp [152, 145, 146, 147, 165, 148] (.sub (.loc 174) (.str 175)) <| .ite (.cmp .LtE (.loc 21) (.int 0)) (.ret (.call 180 537 (.loc 174) (.cons (.loc 166) (.cons (.loc 129) (.cons (.loc 130) (.cons (.loc 11) (.cons (.sub (.loc 174) (.str 97)) .nil))))))) (.nil) <| .augI (.loc 174) (.str 181) .Add (.int 1) <| .ite (.and (.cons (.cmp .Gt (.loc 11) (.int 0)) (.cons (.val (.sub (.loc 147) (.loc 166))) .nil))) (.ret (.int 0)) (.nil) <| .ite (.cmp .GtE (.loc 129) (.bin .Sub (.int 31999) (.loc 11))) (.ret (.bin .Sub (.int 31999) (.loc 11))) (.nil) <| .ite (.cmp .LtE (.loc 130) (.bin .Sub (.loc 11) (.int 32000))) (.ret (.bin .Sub (.loc 11) (.int 32000))) (.nil) <| .swp [129, 130] (.tup (.cons (.bi bMax (.loc 129) (.cons (.bin .Sub (.loc 11) (.int 32000)) .nil)) (.cons (.bi bMin (.loc 130) (.cons (.bin .Sub (.int 31999) (.loc 11)) .nil)) .nil))) <| .ite (.not (.val (.sub (.loc 152) (.loc 166)))) (.ret (.ifx (.val (.sub (.loc 146) (.loc 166))) (.bin .Sub (.loc 11) (.int 32000)) (.int 0))) (.nil) <| .ite (.cmp .Lt (.bin .Add (.loc 11) (.int 2)) (.bi bLen (.sub (.loc 174) (.str 176)) .nil)) (.setI (.sub (.loc 174) (.str 176)) (.bin .Add (.loc 11) (.int 2)) (.list (.cons (.int 0) (.cons (.int 0) .nil))) <| .nil) (.nil) <| .swp [84, 85, 137] (.tup (.cons (.neg (.int 32001)) (.cons (.list .nil) (.cons (.bool true) .nil)))) <| .asg 182 (.bi bList (.bi bRange2 (.int 1) (.cons (.bin .Add (.bi bLen (.sub (.loc 152) (.loc 166)) .nil) (.int 1)) .nil)) .nil) <| .for 99 (.tup (.cons (.int 1) (.cons (.int 2) (.cons (.int 3) (.cons (.int 4) .nil))))) (.asg 183 (.call 173 532 (.loc 174) (.cons (.loc 166) (.cons (.loc 182) (.cons (.loc 11) (.cons (.loc 99) .nil))))) <| .casgf 182 51 [(108,.local),(51,.local),(183,.free)] (.loc 182) (.cmp .NotIn (.loc 51) (.loc 183)) (.loc 51) <| .for 51 (.loc 183) (.asg 188 (.sub (.sub (.loc 152) (.loc 166)) (.bin .Sub (.loc 51) (.int 1))) <| .ite (.val (.loc 137)) (.asg 14 (.neg (.call 187 556 (.loc 174) (.cons (.loc 188) (.cons (.neg (.loc 130)) (.cons (.neg (.loc 129)) (.cons (.bin .Sub (.loc 21) (.int 1)) (.cons (.bin .Add (.loc 11) (.int 1)) .nil))))))) <| .nil) (.asg 14 (.neg (.call 187 556 (.loc 174) (.cons (.loc 188) (.cons (.bin .Sub (.neg (.loc 129)) (.int 1)) (.cons (.neg (.loc 129)) (.cons (.bin .Sub (.loc 21) (.int 1)) (.cons (.bin .Add (.loc 11) (.int 1)) .nil))))))) <| .ite (.and (.cons (.cmp .Lt (.loc 129) (.loc 14)) (.cons (.cmp .Lt (.loc 14) (.loc 130)) .nil))) (.asg 14 (.neg (.call 187 556 (.loc 174) (.cons (.loc 188) (.cons (.neg (.loc 130)) (.cons (.neg (.loc 129)) (.cons (.bin .Sub (.loc 21) (.int 1)) (.cons (.bin .Add (.loc 11) (.int 1)) .nil))))))) <| .nil) (.nil) <| .nil) <| .asg 137 (.bool false) <| .asg 84 (.bi bMax (.loc 84) (.cons (.loc 14) .nil)) <| .ite (.cmp .GtE (.loc 14) (.loc 130)) (.ite (.not (.val (.sub (.sub (.loc 165) (.loc 166)) (.bin .Sub (.loc 51) (.int 1))))) (.expr (.call 186 551 (.loc 174) (.cons (.loc 11) (.cons (.loc 21) (.cons (.loc 51) (.cons (.loc 85) .nil))))) <| .nil) (.nil) <| .ret (.loc 84)) (.nil) <| .asg 129 (.bi bMax (.loc 129) (.cons (.loc 14) .nil)) <| .ite (.not (.val (.sub (.sub (.loc 165) (.loc 166)) (.bin .Sub (.loc 51) (.int 1))))) (.expr (.app (.loc 85) (.loc 51)) <| .nil) (.nil) <| .nil) <| .nil) <| .ret (.loc 84)
theorem D_556 : Dx 556 [174, 166, 129, 130, 21, 11] b_556 := ⟨187, (F1 64), ⟨[(174, .local), (166, .local), (129, .local), (130, .local), (21, .local), (11, .local), (152, .local), (145, .local), (146, .local), (147, .local), (165, .local), (148, .local), (84, .local), (85, .local), (137, .local), (182, .local), (99, .local), (183, .cell), (51, .local), (188, .local), (14, .local), (180, .globalImplicit), (70, .globalImplicit), (71, .globalImplicit), (56, .globalImplicit), (98, .globalImplicit), (116, .globalImplicit), (173, .globalImplicit), (187, .globalImplicit), (186, .globalImplicit)], true⟩, fun P => mkDef (fk_556 P) (by kernel_rfl!) fun _ _ _ _ _ => by kernel_rfl!, fun P => by kernel_rfl!⟩
noncomputable abbrev b_561 : Cm := .asg 157 (.list (.cons (.int 0) .nil)) <| .asg 175 (.call 163 527 (.loc 157) (.cons (.loc 158) (.cons (.bin .Add (.int 3) (.call 159 515 (.loc 157) (.cons (.loc 158) (.cons (.int 5) .nil)))) (.cons (.int 3) .nil)))) <| .asg 97 (.call 159 515 (.loc 157) (.cons (.loc 158) (.cons (.int 2) .nil))) <| .asg 77 (.bin .Add (.int 1) (.call 159 515 (.loc 157) (.cons (.loc 158) (.cons (.int 4) .nil)))) <| .asg 62 (.bin .Add (.int 1) (.call 159 515 (.loc 157) (.cons (.loc 158) (.cons (.int 200) .nil)))) <| .asg 174 (.sdict (.cons 175 (.loc 175) (.cons 97 (.loc 97) (.cons 62 (.loc 62) (.cons 178 .pdict (.cons 176 (.comp 170 [(108,.local),(170,.local)] (.bi bRange1 (.loc 77) .nil) (.list (.cons (.int 0) (.cons (.int 0) .nil)))) (.cons 181 (.int 0) .nil))))))) <| .asg 40 (.call 143 497 (.sub (.loc 175) (.int 0)) (.cons (.sub (.loc 175) (.int 1)) (.cons (.sub (.loc 175) (.int 2)) (.cons (.sub (.loc 175) (.int 3)) (.cons (.sub (.loc 175) (.int 4)) (.cons (.sub (.loc 175) (.int 5)) .nil)))))) <| .asg 50 (.call 39 144 (.loc 40) (.cons .non (.cons (.call 76 270 (.loc 77) .nil) (.cons (.call 63 228 (.loc 62) .nil) (.cons (.loc 97) (.cons (.bool true) (.cons (.int 0) .nil))))))) <| .for 183 (.bi bRange1 (.int 2) .nil) (.asg 21 (.call 159 515 (.loc 157) (.cons (.loc 158) (.cons (.int 4) .nil))) <| .asg 190 (.cmp .Eq (.call 159 515 (.loc 157) (.cons (.loc 158) (.cons (.int 2) .nil))) (.int 0)) <| .asg 129 (.call 156 508 (.loc 157) (.cons (.loc 158) .nil)) <| .asg 130 (.bin .Add (.bin .Add (.loc 129) (.int 1)) (.bi bAbs (.call 156 508 (.loc 157) (.cons (.loc 158) .nil)) .nil)) <| .asg 191 (.call 187 556 (.loc 174) (.cons (.int 0) (.cons (.loc 129) (.cons (.loc 130) (.cons (.loc 21) (.cons (.int 0) .nil)))))) <| .ite (.or (.cons (.cmp .NotEq (.call 127 377 (.loc 50) (.cons (.loc 129) (.cons (.loc 130) (.cons (.loc 21) (.cons (.int 0) (.cons (.loc 190) .nil)))))) (.loc 191)) (.cons (.cmp .NotEq (.attr (.loc 50) 35) (.sub (.loc 174) (.str 181))) .nil))) (.ret (.bool false)) (.nil) <| .nil) <| .for 67 (.tup (.cons (.int 0) (.cons (.int 1) .nil))) (.for 51 (.tup (.cons (.int 1) (.cons (.int 2) (.cons (.int 3) .nil)))) (.ite (.cmp .NotEq (.meth 228 66 204 (.attr (.loc 50) 43) (.loc 67) (.cons (.loc 51) .nil)) (.get (.sub (.loc 174) (.str 178)) (.tup (.cons (.loc 67) (.cons (.loc 51) .nil))) (.int 0))) (.ret (.bool false)) (.nil) <| .nil) <| .nil) <| .ret (.eqL (.comp 11 [(108,.local),(11,.local),(98,.globalImplicit),(50,.free)] (.bi bRange1 (.loc 77) .nil) (.bi bList (.meth 270 81 260 (.attr (.loc 50) 42) (.loc 11) .nil) .nil)) (.sub (.loc 174) (.str 176)))
theorem D_561 : Dx 561 [158] b_561 := ⟨189, (F1 65), ⟨[(158, .local), (157, .local), (175, .local), (97, .local), (77, .local), (62, .local), (174, .local), (40, .local), (50, .cell), (183, .local), (21, .local), (190, .local), (129, .local), (130, .local), (191, .local), (67, .local), (51, .local), (163, .globalImplicit), (159, .globalImplicit), (116, .globalImplicit), (143, .globalImplicit), (39, .globalImplicit), (76, .globalImplicit), (63, .globalImplicit), (156, .globalImplicit), (74, .globalImplicit), (187, .globalImplicit), (127, .globalImplicit)], true⟩, fun P => mkDef (fk_561 P) (by kernel_rfl!) fun _ _ _ _ _ => by kernel_rfl!, fun P => by kernel_rfl!⟩
local macro_rules | `(tactic| simp! only [$[$ts:term],*]) => `(tactic| repeat first | dsimp only [b_some, anInt, binI, cmpB, iopI, int2, ifNone, isNoneV, maxV, minV, absV, t_bool, gx, endB, tBb, tBr, tFb, tFr, putS, putMany, capt, isLK, List.lookup, Nat.reduceBEq, nfT, nfF] | with_reducible refine gS ?_ | with_reducible refine tT ?_ | with_reducible refine fF ?_ $[| refine bS $ts ?_]*)
/-! NS -/
/-! the world of the law -/
structure Row where
  ka : Addr
  la : Addr
  ga : Addr
  kids : List Nat
  val : Int
  chk : Bool
  drw : Bool
  loud : List Bool
  gain : List Int
structure Cw where
  F : St
  t : List Row
  game : Addr
  dgame : Addr
  kids : Addr
  vals : Addr
  chks : Addr
  drws : Addr
  louds : Addr
  gains : Addr
  path : Addr
  ctx : Addr
  dctx : Addr
  lines : Addr
  kil : Addr
  dkil : Addr
  first : Addr
  second : Addr
  his : Addr
  dhis : Addr
  scores : Addr
  tree : Addr
  world : Addr
  past : Addr
  kills : Addr
  state : Addr
  plies : Nat
  limit : Int
  left : Int
noncomputable def Cw.MC (c : Cw) : List Addr := [c.path, c.dctx, c.lines, c.first, c.second, c.scores]
noncomputable def Cw.ML (c : Cw) : List Addr := [c.world, c.past, c.kills]
noncomputable def Cw.M (c : Cw) : List Addr := [c.path, c.dctx, c.lines, c.first, c.second, c.scores, c.world, c.past, c.kills, c.state]
structure RowOk (c : Cw) (r : Row) : Prop where
  ka : c.F r.ka = some (.list (r.kids.map fun k : Nat => .int (k : Int)))
  la : c.F r.la = some (.list (r.loud.map .bool))
  ga : c.F r.ga = some (.list (r.gain.map .int))
  ln : r.loud.length = r.kids.length
  gn : r.gain.length = r.kids.length
  few : r.kids.length ≤ 3
  inn : ∀ k ∈ r.kids, k < c.t.length
  vb : -31999 ≤ r.val ∧ r.val ≤ 31999
structure Cw.Ok (c : Cw) : Prop where
  game : c.F c.game = some (.inst 497 c.dgame)
  dgame : c.F c.dgame = some (.sdict [(144, .ref c.kids), (145, .ref c.vals), (146, .ref c.chks), (147, .ref c.drws), (149, .ref c.louds), (150, .ref c.gains), (151, .ref c.path)])
  kids : c.F c.kids = some (.list (c.t.map fun r => .ref r.ka))
  vals : c.F c.vals = some (.list (c.t.map fun r => .int r.val))
  chks : c.F c.chks = some (.list (c.t.map fun r => .bool r.chk))
  drws : c.F c.drws = some (.list (c.t.map fun r => .bool r.drw))
  louds : c.F c.louds = some (.list (c.t.map fun r => .ref r.la))
  gains : c.F c.gains = some (.list (c.t.map fun r => .ref r.ga))
  ctx : c.F c.ctx = some (.inst 144 c.dctx)
  kil : c.F c.kil = some (.inst 270 c.dkil)
  dkil : c.F c.dkil = some (.sdict [(77, .int c.plies), (78, .ref c.first), (79, .ref c.second)])
  his : c.F c.his = some (.inst 228 c.dhis)
  dhis : c.F c.dhis = some (.sdict [(62, .int c.limit), (65, .ref c.scores)])
  tree : c.F c.tree = some (.list [.ref c.kids, .ref c.vals, .ref c.chks, .ref c.drws, .ref c.louds, .ref c.gains])
  rows : ∀ r ∈ c.t, RowOk c r
  p1 : 1 ≤ c.plies
  p4 : c.plies ≤ 4
  l1 : 1 ≤ c.limit
  l2 : c.limit ≤ 200
  f0 : 0 ≤ c.left
  f1 : c.left ≤ 1
  t1 : 1 ≤ c.t.length
  t7 : c.t.length ≤ 7
  s1 : c.scores ≠ 1
  h1 : c.past ≠ 1
  none : ∀ m ∈ c.M, c.F m = none
  nd : c.M.Nodup
/-- what stays -/
structure Fr (M : List Addr) (σ σ' : St) : Prop where
  keep : ∀ a o, σ a = some o → a ∉ M → σ' a = some o
  dom : ∀ a, σ a ≠ none → σ' a ≠ none
theorem Fr.refl (M : List Addr) (σ : St) : Fr M σ σ := ⟨fun _ _ h _ => h, fun _ h => h⟩
theorem Fr.trans {M : List Addr} {σ σ₁ σ₂ : St} (x : Fr M σ σ₁) (y : Fr M σ₁ σ₂) : Fr M σ σ₂ := ⟨fun a o h n => y.keep a o (x.keep a o h n) n, fun a h => y.dom a (x.dom a h)⟩
theorem Fr.sub {M N : List Addr} {σ σ' : St} (x : Fr M σ σ') (h : ∀ a ∈ M, a ∈ N) : Fr N σ σ' := ⟨fun a o e n => x.keep a o e fun q => n (h a q), x.dom⟩
theorem Fr.nil {M : List Addr} {σ σ' : St} (x : Fr [] σ σ') : Fr M σ σ' := x.sub fun _ h => by cases h
theorem Fr.upd {M : List Addr} {σ : St} {a : Addr} {o : AObj} (h : a ∈ M) : Fr M σ (upd σ a o) := ⟨fun b p e n => (upd_ne fun q => n (by subst q; exact h)).trans e, fun b => upd_dom b⟩
theorem Fr.new {M : List Addr} {σ : St} {a : Addr} {o : AObj} (h : σ a = none) : Fr M σ (Mine.upd σ a o) := ⟨fun b p e n => (upd_ne fun q => by subst q; rw [h] at e; cases e).trans e, fun b => upd_dom b⟩
/-- a change of what is new in between is no change -/
theorem Fr.drop {M N : List Addr} {σ σ' : St} (x : Fr N σ σ') (h : ∀ a ∈ N, a ∈ M ∨ σ a = none) : Fr M σ σ' := ⟨fun a o e n => x.keep a o e fun q => (h a q).elim n fun z => (by rw [z] at e; cases e), x.dom⟩
theorem Fr.none {M : List Addr} {σ σ' : St} (x : Fr M σ σ') {a : Addr} (h : σ' a = none) : σ a = none := by
  cases e : σ a with
  | none => rfl
  | some o => exact absurd h (x.dom a (by rw [e]; exact nofun))
theorem Fr.k0 {σ σ' : St} (f : Fr [] σ σ') {a : Addr} {o : AObj} (h : σ a = some o) : σ' a = some o := f.keep a o h (fun h => by cases h)
theorem Fr.k1 {σ σ' : St} {b : Addr} (f : Fr [b] σ σ') {a : Addr} {o : AObj} (h : σ a = some o) (n : a ≠ b) : σ' a = some o := f.keep a o h fun h => n (List.mem_singleton.mp h)
theorem Fr.fresh {M : List Addr} {σ σ₁ σ₂ : St} {b : Addr} (f : Fr M σ σ₁) (g : Fr [b] σ₁ σ₂) (h : σ b = Option.none) : Fr M σ σ₂ := ⟨fun a o e n => g.k1 (f.keep a o e n) fun q => (by rw [q, h] at e; cases e), fun a h => g.dom a (f.dom a h)⟩
theorem Fr.u1 {σ : St} {a : Addr} {o : AObj} : Fr [a] σ (Mine.upd σ a o) := Fr.upd (List.mem_singleton.mpr rfl)
theorem all1 {p : Addr → Prop} {a : Addr} (h : p a) : ∀ x ∈ [a], p x := fun x hx => by rw [List.mem_singleton.mp hx]; exact h
theorem ne_upd {σ : St} {a b : Addr} {o p : AObj} (h : σ b = none) (e : σ a = some o) : (Mine.upd σ b p) a = some o := (upd_ne fun q => by rw [q, h] at e; cases e).trans e
theorem ne_of {σ : St} {a b : Addr} {o : AObj} (h : σ a = none) (e : σ b = some o) : b ≠ a := fun q => by rw [q, h] at e; cases e
/-- a new object, nothing else -/
def New (σ : St) (o : AObj) (Q : V → St → Prop) : Prop := ∀ a σ', Fr [] σ σ' → σ a = none → σ' a = some o → Q (.ref a) σ'
theorem New.made {X : Cx} {σ σ₁ : St} {o : AObj} {Q : V → St → Prop} (h : New σ o Q) (f : Fr [] σ σ₁) : Made X σ₁ o Q := fun a _ e _ => h a _ (f.trans (Fr.new e)) (f.none e) (upd_self _ _ _)
theorem New.made0 {X : Cx} {σ : St} {o : AObj} {Q : V → St → Prop} (h : New σ o Q) : Made X σ o Q := h.made (.refl _ _)
theorem lN {X : Cx} {σ : St} {vs : List V} {Q : V → St → Prop} (h : decide (vs.length < 1000) = true) (k : New σ (.list vs) Q) : vs.length < 1000 ∧ Made X σ (.list vs) Q := lM h k.made0
theorem tN {X : Cx} {σ : St} {vs : List V} {Q : V → St → Prop} (h : decide (vs.length < 1000) = true) (k : New σ (.tup vs) Q) : vs.length < 1000 ∧ Made X σ (.tup vs) Q := tM h k.made0
def NewIn (σ : St) (l l' : List Addr) : Prop := ∀ a ∈ l', a ∈ l ∨ σ a = none
theorem NewIn.refl {σ : St} {l : List Addr} : NewIn σ l l := fun _ h => .inl h
theorem NewIn.trans {M : List Addr} {σ σ' : St} {l l' l'' : List Addr} (x : NewIn σ l l') (y : NewIn σ' l' l'') (f : Fr M σ σ') : NewIn σ l l'' := fun a h => (y a h).elim (x a) fun e => .inr (f.none e)
structure LS where
  seen : Int
  past : Int → Int → Int
  k1 : List Int
  k2 : List Int
structure Dt where
  s : LS
  made : Int
  path : List Nat
  ls : List Addr
noncomputable def K6 : List Int := [1, 2, 3, 65537, 65538, 65539]
structure ScoresOk (es : List (Int × V)) (f : Int → Int → Int) : Prop where
  nd : (es.map (·.1)).Nodup
  sub : ∀ k ∈ es.map (·.1), k ∈ K6
  val : ∀ side move : Int, 0 ≤ side → side ≤ 1 → 1 ≤ move → move ≤ 3 → (es.lookup (side * 65536 + move)).getD (.int 0) = .int (f side move)
structure GoodC (c : Cw) (d : Dt) (σ : St) : Prop where
  fix : ∀ a o, c.F a = some o → σ a = some o
  dctx : σ c.dctx = some (.sdict [(40, .ref c.game), (41, .none), (42, .ref c.kil), (43, .ref c.his), (44, .int c.left), (24, .bool true), (45, .int 0), (35, .int d.s.seen), (46, .int d.made), (47, .ref c.lines)])
  path : σ c.path = some (.list (d.path.map fun k : Nat => .int (k : Int)))
  plen : d.path.length ≤ 100
  lines : σ c.lines = some (.list (d.ls.map .ref))
  llen : d.ls.length ≤ 10
  inner : ∀ (i : Nat) (a : Addr), d.ls[i]? = some a → a ∉ c.M ∧ ∃ xs, σ a = some (.list xs) ∧ xs.length + i ≤ 10
  first : σ c.first = some (.list (d.s.k1.map .int))
  second : σ c.second = some (.list (d.s.k2.map .int))
  n1 : d.s.k1.length = c.plies
  n2 : d.s.k2.length = c.plies
  scores : ∃ es, σ c.scores = some (.idict es) ∧ ScoresOk es d.s.past
  al : ∀ m ∈ c.M, σ m ≠ none

section
variable {X : Cx} {c : Cw} {d : Dt} {σ : St}
theorem t_list {a : Addr} {xs : List V} (h : σ a = some (.list xs)) (h' : xs.length < 1000000) : truthV X σ (.ref a) = some (!xs.isEmpty) := by
  unfold truthV; simp only [rd_own h, if_pos h']
theorem setattr_of {o C e : Addr} {n : Nat} {v : V} {es : List (Nat × V)} (h1 : σ o = some (.inst C e)) (h2 : σ e = some (.sdict es)) (hm : (C, n) ∈ attrT) (h3 : es.length < 900) : setAttrV X σ (.ref o) n v = some (upd σ e (.sdict (putS n v es))) := by
  unfold setAttrV fieldsV
  simp only [rd_own h1, if_pos hm, rd_own h2, Option.bind_some, if_pos h3, h2]
theorem meth_of {o C e : Addr} {n : Nat} {es : List (Nat × V)} (h1 : σ o = some (.inst C e)) (h2 : σ e = some (.sdict es)) (h3 : es.lookup n = none) : MethB X C n (.ref o) σ := ⟨o, e, es, rfl, rd_own h1, rd_own h2, h3⟩
theorem attr_of {o C e : Addr} {n : Nat} {es : List (Nat × V)} (h1 : σ o = some (.inst C e)) (h2 : σ e = some (.sdict es)) (hm : (C, n) ∈ attrT) : attrV X σ (.ref o) n = es.lookup n := by
  unfold attrV fieldsV
  simp only [rd_own h1, if_pos hm, rd_own h2, Option.bind_some]
theorem sub_of {a : Addr} {k : Int} {xs : List V} (h : σ a = some (.list xs)) : getV X σ (.ref a) (.int k) = getIdx xs k := by
  unfold getV; simp only [rd_own h]
theorem attr_in {o C e : Addr} {n : Nat} {v : V} {es : List (Nat × V)} (h1 : σ o = some (.inst C e)) (h2 : σ e = some (.sdict es)) (hm : ∀ k ∈ es.map (·.1), (C, k) ∈ attrT) (h : es.lookup n = some v) : attrV X σ (.ref o) n = some v :=
  (attr_of h1 h2 (hm n (List.mem_map.mpr ⟨_, lookup_mem h, rfl⟩))).trans h
noncomputable def gameT (c : Cw) : List (Nat × V) := [(144, V.ref c.kids), (145, .ref c.vals), (146, .ref c.chks), (147, .ref c.drws), (149, .ref c.louds), (150, .ref c.gains), (151, .ref c.path)]
noncomputable def ctxT (c : Cw) (d : Dt) : List (Nat × V) := [(40, V.ref c.game), (41, .none), (42, .ref c.kil), (43, .ref c.his), (44, .int c.left), (24, .bool true), (45, .int 0), (35, .int d.s.seen), (46, .int d.made), (47, .ref c.lines)]
noncomputable def kilT (c : Cw) : List (Nat × V) := [(77, V.int c.plies), (78, .ref c.first), (79, .ref c.second)]
noncomputable def hisT (c : Cw) : List (Nat × V) := [(62, V.int c.limit), (65, .ref c.scores)]
theorem GoodC.games (G : GoodC c d σ) (ok : c.Ok) {n : Nat} {v : V} (h : (gameT c).lookup n = some v) : attrV X σ (.ref c.game) n = some v := attr_in (G.fix _ _ ok.game) (G.fix _ _ ok.dgame) (by show ∀ k ∈ ([144, 145, 146, 147, 149, 150, 151] : List Nat), (497, k) ∈ attrT; decide) h
theorem GoodC.ctxs (G : GoodC c d σ) (ok : c.Ok) {n : Nat} {v : V} (h : (ctxT c d).lookup n = some v) : attrV X σ (.ref c.ctx) n = some v := attr_in (G.fix _ _ ok.ctx) G.dctx (by show ∀ k ∈ ([40, 41, 42, 43, 44, 24, 45, 35, 46, 47] : List Nat), (144, k) ∈ attrT; decide) h
theorem GoodC.kils (G : GoodC c d σ) (ok : c.Ok) {n : Nat} {v : V} (h : (kilT c).lookup n = some v) : attrV X σ (.ref c.kil) n = some v := attr_in (G.fix _ _ ok.kil) (G.fix _ _ ok.dkil) (by show ∀ k ∈ ([77, 78, 79] : List Nat), (270, k) ∈ attrT; decide) h
theorem GoodC.hiss (G : GoodC c d σ) (ok : c.Ok) {n : Nat} {v : V} (h : (hisT c).lookup n = some v) : attrV X σ (.ref c.his) n = some v := attr_in (G.fix _ _ ok.his) (G.fix _ _ ok.dhis) (by show ∀ k ∈ ([62, 65] : List Nat), (228, k) ∈ attrT; decide) h
theorem getIdx_nat {xs : List V} {k : Nat} (h : k < 1000000) : getIdx xs (k : Int) = xs[k]? := by
  unfold getIdx
  rw [if_pos (by lia), if_pos (by lia)]
  rfl
theorem getIdx_int {xs : List V} {k : Int} (h0 : 0 ≤ k) (h : k < 1000000) : getIdx xs k = xs[k.toNat]? := by
  unfold getIdx
  rw [if_pos (by lia), if_pos h0]
theorem getIdx_last {xs : List V} {v : V} (h : xs.length < 1000) : getIdx (xs ++ [v]) (-1) = some v := by
  unfold getIdx
  rw [if_pos (by lia), if_neg (by lia), if_pos (by simp; lia)]
  have : ((-1 : Int) + ((xs ++ [v]).length : Nat)).toNat = xs.length := by simp; lia
  rw [this]
  simp
/-- where the game stands -/
structure At (c : Cw) (d : Dt) (p : List Nat) (n : Nat) (w : Row) : Prop where
  path : d.path = p ++ [n]
  row : c.t[n]? = some w
theorem At.lt {p : List Nat} {n : Nat} {w : Row} (a : At c d p n w) : n < c.t.length := (List.getElem?_eq_some_iff.mp a.row).1
theorem At.mem {p : List Nat} {n : Nat} {w : Row} (a : At c d p n w) : w ∈ c.t := List.mem_of_getElem? a.row
theorem GoodC.top (G : GoodC c d σ) {p : List Nat} {n : Nat} {w : Row} (a : At c d p n w) : getV X σ (.ref c.path) (.int (-1)) = some (.int (n : Int)) := by
  rw [sub_of G.path, a.path, List.map_append, List.map_cons, List.map_nil]
  refine getIdx_last ?_
  have := G.plen
  rw [a.path] at this
  simp at this ⊢; lia
theorem GoodC.at_row (G : GoodC c d σ) (ok : c.Ok) {b : Addr} {f : Row → V} (hb : c.F b = some (.list (c.t.map f))) {p : List Nat} {n : Nat} {w : Row} (a : At c d p n w) : getV X σ (.ref b) (.int (n : Int)) = some (f w) := by
  rw [sub_of (G.fix _ _ hb), getIdx_nat (by have := a.lt; have := ok.t7; lia), List.getElem?_map, a.row]; rfl
end

theorem sub1 {m : Int} {n : Nat} (h1 : 1 ≤ m) (h2 : m ≤ n) : (m - 1).toNat < n := by omega
section
variable {X : Cx} {c : Cw} {d : Dt} {σ : St}
theorem GoodC.row_kid (G : GoodC c d σ) (ok : c.Ok) {w : Row} (hw : w ∈ c.t) {m : Int} (h1 : 1 ≤ m) (h2 : m ≤ w.kids.length) : getV X σ (.ref w.ka) (.int (m - 1)) = some (.int ((w.kids.getD (m - 1).toNat 0 : Nat) : Int)) := by
  have R := ok.rows w hw
  have := R.few
  rw [sub_of (G.fix _ _ R.ka), getIdx_int (by lia) (by lia), List.getElem?_map, List.getElem?_eq_getElem (sub1 h1 h2), Option.map_some, List.getD_eq_getElem?_getD, List.getElem?_eq_getElem (sub1 h1 h2)]; rfl
theorem GoodC.row_loud (G : GoodC c d σ) (ok : c.Ok) {w : Row} (hw : w ∈ c.t) {m : Int} (h1 : 1 ≤ m) (h2 : m ≤ w.kids.length) : getV X σ (.ref w.la) (.int (m - 1)) = some (.bool (w.loud.getD (m - 1).toNat false)) := by
  have R := ok.rows w hw
  have := R.few
  have e := R.ln
  rw [sub_of (G.fix _ _ R.la), getIdx_int (by lia) (by lia), List.getElem?_map, List.getElem?_eq_getElem (by lia), Option.map_some, List.getD_eq_getElem?_getD, List.getElem?_eq_getElem (by lia)]; rfl
theorem GoodC.row_gain (G : GoodC c d σ) (ok : c.Ok) {w : Row} (hw : w ∈ c.t) {m : Int} (h1 : 1 ≤ m) (h2 : m ≤ w.kids.length) : getV X σ (.ref w.ga) (.int (m - 1)) = some (.int (w.gain.getD (m - 1).toNat 0)) := by
  have R := ok.rows w hw
  have := R.few
  have e := R.gn
  rw [sub_of (G.fix _ _ R.ga), getIdx_int (by lia) (by lia), List.getElem?_map, List.getElem?_eq_getElem (by lia), Option.map_some, List.getD_eq_getElem?_getD, List.getElem?_eq_getElem (by lia)]; rfl
theorem len_of {a : Addr} {xs : List V} (h : σ a = some (.list xs)) (h' : xs.length < 1000000) : lenV X [.ref a] σ = some (.int xs.length) := by
  unfold lenV; simp only [rd_own h, if_pos h']
theorem GoodC.len_path (G : GoodC c d σ) : lenV X [.ref c.path] σ = some (.int d.path.length) := by
  have := G.plen
  rw [len_of G.path (by simp; lia), List.length_map]
theorem GoodC.len_kids (G : GoodC c d σ) (ok : c.Ok) {w : Row} (hw : w ∈ c.t) : lenV X [.ref w.ka] σ = some (.int w.kids.length) := by
  have R := ok.rows w hw
  have := R.few
  rw [len_of (G.fix _ _ R.ka) (by simp; lia), List.length_map]
end
section
variable {X : Cx} {r : Nat} {c : Cw}
inductive T452 (c : Cw) : TC
  | mk {σ Q d p n w} (G : GoodC c d σ) (A : At c d p n w) (h : Q (.int w.val) σ) : T452 c [.ref c.game] σ Q
theorem c_452 (ok : c.Ok) (h6 : 6 ≤ r) : SC X (r + 3) (.ref 452) (T452 c) := D_452.run (hyN h6) fun vs σ Q h => by
  induction h with | mk G A hq =>
  refine prI rfl ?_
  simp! only [G.games ok rfl, G.top A, G.at_row ok ok.vals A]
  exact hq
inductive T459 (c : Cw) : TC
  | mk {σ Q d p n w} (G : GoodC c d σ) (A : At c d p n w) (h : Q (.int (n + 1)) σ) : T459 c [.ref c.game] σ Q
theorem c_459 (ok : c.Ok) (h6 : 6 ≤ r) : SC X (r + 3) (.ref 459) (T459 c) := D_459.run (hyN h6) fun vs σ Q h => by
  induction h with | mk G A hq =>
  refine prI rfl ?_
  simp! only [G.games ok rfl, G.top A]
  exact hq
inductive T466 (c : Cw) : TC
  | mk {σ Q d p n w} (G : GoodC c d σ) (A : At c d p n w) (h : Q (.bool w.chk) σ) : T466 c [.ref c.game] σ Q
theorem c_466 (ok : c.Ok) (h6 : 6 ≤ r) : SC X (r + 3) (.ref 466) (T466 c) := D_466.run (hyN h6) fun vs σ Q h => by
  induction h with | mk G A hq =>
  refine prI rfl ?_
  simp! only [G.games ok rfl, G.top A, G.at_row ok ok.chks A]
  exact hq
inductive T473 (c : Cw) : TC
  | mk {σ Q d p n w} (G : GoodC c d σ) (A : At c d p n w) (h : Q (.bool w.drw) σ) : T473 c [.ref c.game] σ Q
theorem c_473 (ok : c.Ok) (h6 : 6 ≤ r) : SC X (r + 3) (.ref 473) (T473 c) := D_473.run (hyN h6) fun vs σ Q h => by
  induction h with | mk G A hq =>
  refine prI rfl ?_
  simp! only [G.games ok rfl, G.top A, G.at_row ok ok.drws A]
  exact hq
inductive T480 (c : Cw) : TC
  | mk {σ Q d p n w} {m : Int} (G : GoodC c d σ) (A : At c d p n w) (h1 : 1 ≤ m) (h2 : m ≤ w.kids.length) (h : Q (.bool (w.loud.getD (m - 1).toNat false)) σ) : T480 c [.ref c.game, .int m] σ Q
theorem c_480 (ok : c.Ok) (h6 : 6 ≤ r) : SC X (r + 3) (.ref 480) (T480 c) := D_480.run (hyN h6) fun vs σ Q h => by
  induction h with | mk G A h1 h2 hq =>
  refine prI rfl ?_
  simp! only [G.games ok rfl, G.top A, G.at_row ok ok.louds A, G.row_loud ok A.mem h1 h2]
  exact hq
inductive T487 (c : Cw) : TC
  | mk {σ Q d p n w} {m : Int} (G : GoodC c d σ) (A : At c d p n w) (h1 : 1 ≤ m) (h2 : m ≤ w.kids.length) (h : Q (.int (w.gain.getD (m - 1).toNat 0)) σ) : T487 c [.ref c.game, .int m] σ Q
theorem c_487 (ok : c.Ok) (h6 : 6 ≤ r) : SC X (r + 3) (.ref 487) (T487 c) := D_487.run (hyN h6) fun vs σ Q h => by
  induction h with | mk G A h1 h2 hq =>
  refine prI rfl ?_
  simp! only [G.games ok rfl, G.top A, G.at_row ok ok.gains A, G.row_gain ok A.mem h1 h2]
  exact hq
theorem and_one : ∀ k : Fin 10, Builtin.bitAnd ((k.val : Int)) 1 = ((k.val % 2 : Nat) : Int) := by decide
inductive T494 (c : Cw) : TC
  | mk {σ Q d p n w} (G : GoodC c d σ) (A : At c d p n w) (h1 : p.length < 10) (h : Q (.int ((p.length % 2 : Nat) : Int)) σ) : T494 c [.ref c.game] σ Q
theorem c_494 (ok : c.Ok) (h6 : 6 ≤ r) : SC X (r + 3) (.ref 494) (T494 c) := D_494.run (hyN h6) fun vs σ Q h => by
  induction h with | @mk _ _ d p n w G A hp hq =>
  refine prI rfl ?_
  have e : (d.path.length : Int) - 1 = (p.length : Int) := by rw [A.path]; simp
  have e' := and_one ⟨p.length, hp⟩
  rw [← e', ← e] at hq
  simp! only [G.games ok rfl, G.len_path]
  exact hq
inductive T28 : TC
  | mk {σ Q k} (h : Q (.int (k - 32000)) σ) : T28 [.int k] σ Q
theorem c_28 (h6 : 6 ≤ r) : SC X (r + 3) (.ref 28) T28 := D_28.run (hyN h6) fun vs σ Q h => by
  induction h with | mk hq =>
  refine prI rfl ?_
  simp! only []
  exact hq
inductive T35 : TC
  | mk {σ Q k} (h : Q (.int (32000 - k)) σ) : T35 [.int k] σ Q
theorem c_35 (h6 : 6 ≤ r) : SC X (r + 3) (.ref 35) T35 := D_35.run (hyN h6) fun vs σ Q h => by
  induction h with | mk hq =>
  refine prI rfl ?_
  simp! only []
  exact hq
inductive T426 (c : Cw) : TC
  | mk {σ Q d p n w} (G : GoodC c d σ) (A : At c d p n w) (h : New σ (.list ((List.range w.kids.length).map fun k : Nat => .int (k + 1))) Q) : T426 c [.ref c.game] σ Q
theorem c_426 (ok : c.Ok) (h6 : 6 ≤ r) : SC X (r + 3) (.ref 426) (T426 c) := D_426.run (hyN h6) fun vs σ Q h => by
  induction h with | @mk _ _ d p n w G A hq =>
  refine prI rfl ?_
  have few := (ok.rows w A.mem).few
  simp! only [G.games ok rfl, G.top A, G.at_row ok ok.kids A, G.len_kids ok A.mem]

  have e : (fun k : Nat => V.int (1 + (k : Int))) = fun k : Nat => V.int ((k : Int) + 1) := by funext k; rw [Int.add_comm]
  refine ⟨_, _, rfl, fun a r1 r2 r3 => ⟨a, _, rfl, .inr ⟨1, w.kids.length, ?_, by decide, by lia, rfl⟩, by simp; lia, ?_⟩⟩
  · rw [rd_own (upd_self _ _ _), Int.add_comm]
  · rw [e]
    exact hq.made (Fr.new r2)
end
/-! NT -/
theorem nd10 {a b c d e f g h i j : Addr} (n : [a, b, c, d, e, f, g, h, i, j].Nodup) :
    (a ≠ b ∧ a ≠ c ∧ a ≠ d ∧ a ≠ e ∧ a ≠ f) ∧ (b ≠ c ∧ b ≠ d ∧ b ≠ e ∧ b ≠ f) ∧ (c ≠ d ∧ c ≠ e ∧ c ≠ f) ∧ (d ≠ e ∧ d ≠ f) ∧ e ≠ f ∧ (g ≠ h ∧ g ≠ i) ∧ h ≠ i ∧ (∀ x, x = g ∨ x = h ∨ x = i ∨ x = j → x ≠ a ∧ x ≠ b ∧ x ≠ c ∧ x ≠ d ∧ x ≠ e ∧ x ≠ f) ∧ (j ≠ g ∧ j ≠ h ∧ j ≠ i) := by
  have k0 := List.pairwise_iff_getElem.mp n
  have k : ∀ p q : Fin 10, p ≠ q → [a, b, c, d, e, f, g, h, i, j][p] ≠ [a, b, c, d, e, f, g, h, i, j][q] := fun p q hpq =>
    (Nat.lt_or_gt_of_ne fun e => hpq (Fin.ext e)).elim (fun l => k0 p q p.2 q.2 l) fun l => (k0 q p q.2 p.2 l).symm
  refine ⟨⟨k 0 1 (by decide), k 0 2 (by decide), k 0 3 (by decide), k 0 4 (by decide), k 0 5 (by decide)⟩, ⟨k 1 2 (by decide), k 1 3 (by decide), k 1 4 (by decide), k 1 5 (by decide)⟩, ⟨k 2 3 (by decide), k 2 4 (by decide), k 2 5 (by decide)⟩, ⟨k 3 4 (by decide), k 3 5 (by decide)⟩, k 4 5 (by decide), ⟨k 6 7 (by decide), k 6 8 (by decide)⟩, k 7 8 (by decide), ?_, ⟨k 9 6 (by decide), k 9 7 (by decide), k 9 8 (by decide)⟩⟩
  rintro x (rfl | rfl | rfl | rfl)
  · exact ⟨k 6 0 (by decide), k 6 1 (by decide), k 6 2 (by decide), k 6 3 (by decide), k 6 4 (by decide), k 6 5 (by decide)⟩
  · exact ⟨k 7 0 (by decide), k 7 1 (by decide), k 7 2 (by decide), k 7 3 (by decide), k 7 4 (by decide), k 7 5 (by decide)⟩
  · exact ⟨k 8 0 (by decide), k 8 1 (by decide), k 8 2 (by decide), k 8 3 (by decide), k 8 4 (by decide), k 8 5 (by decide)⟩
  · exact ⟨k 9 0 (by decide), k 9 1 (by decide), k 9 2 (by decide), k 9 3 (by decide), k 9 4 (by decide), k 9 5 (by decide)⟩
section
variable {X : Cx} {c : Cw} {d : Dt} {σ σ' : St}
theorem Cw.Ok.out (ok : c.Ok) {m a : Addr} {o : AObj} (hm : m ∈ c.M) (e : c.F a = some o) : a ≠ m := fun q => by subst q; rw [ok.none _ hm] at e; cases e
theorem mc_m {m : Addr} (h : m ∈ c.MC) : m ∈ c.M := by
  unfold Cw.MC at h; unfold Cw.M
  simp only [List.mem_cons, List.not_mem_nil, or_false] at h ⊢
  rcases h with h | h | h | h | h | h <;> simp only [h, true_or, or_true]
theorem GoodC.keep {N : List Addr} (G : GoodC c d σ) (f : Fr N σ σ') (h : ∀ m ∈ N, m ∉ c.MC ∧ c.F m = none ∧ m ∉ d.ls) : GoodC c d σ' := by
  have k : ∀ m ∈ c.MC, m ∉ N := fun m hm hn => (h m hn).1 hm
  refine ⟨fun a o e => f.keep _ _ (G.fix a o e) fun hn => (by rw [(h a hn).2.1] at e; cases e), f.keep _ _ G.dctx (k _ (by simp [Cw.MC])), f.keep _ _ G.path (k _ (by simp [Cw.MC])), G.plen, f.keep _ _ G.lines (k _ (by simp [Cw.MC])), G.llen, fun i a e => ?_,
    f.keep _ _ G.first (k _ (by simp [Cw.MC])), f.keep _ _ G.second (k _ (by simp [Cw.MC])), G.n1, G.n2, ?_, fun m hm => f.dom m (G.al m hm)⟩
  · obtain ⟨h1, xs, h2, h3⟩ := G.inner i a e
    exact ⟨h1, xs, f.keep _ _ h2 fun hn => (h a hn).2.2 (List.mem_of_getElem? e), h3⟩
  · obtain ⟨es, h1, h2⟩ := G.scores
    exact ⟨es, f.keep _ _ h1 (k _ (by simp [Cw.MC])), h2⟩
theorem GoodC.keep0 (G : GoodC c d σ) (f : Fr [] σ σ') : GoodC c d σ' := G.keep f fun _ h => by cases h
theorem GoodC.not_m (G : GoodC c d σ) {a : Addr} (e : σ a = none) : a ∉ c.M := fun h => G.al a h e
theorem GoodC.in_fix (G : GoodC c d σ) {a : Addr} (e : σ a = none) : c.F a = none := by
  cases q : c.F a with
  | none => rfl
  | some o => rw [G.fix _ _ q] at e; cases e
theorem GoodC.set_dctx (G : GoodC c d σ) (ok : c.Ok) (k j : Int) : GoodC c { d with s := { d.s with seen := k }, made := j } (upd σ c.dctx (.sdict [(40, .ref c.game), (41, .none), (42, .ref c.kil), (43, .ref c.his), (44, .int c.left), (24, .bool true), (45, .int 0), (35, .int k), (46, .int j), (47, .ref c.lines)])) := by
  obtain ⟨⟨n1, n2, n3, n4, n5⟩, ⟨n6, n7, n8, n9⟩, -⟩ := nd10 ok.nd
  have hm : c.dctx ∈ c.M := by simp [Cw.M]
  refine ⟨fun a o e => (upd_ne (ok.out hm e)).trans (G.fix a o e), upd_self _ _ _, (upd_ne n1).trans G.path, G.plen, (upd_ne n6.symm).trans G.lines, G.llen, fun i a e => ?_, (upd_ne n7.symm).trans G.first, (upd_ne n8.symm).trans G.second, G.n1, G.n2, ?_, fun m hm => upd_dom m (G.al m hm)⟩
  · obtain ⟨h1, xs, h2, h3⟩ := G.inner i a e
    exact ⟨h1, xs, (upd_ne fun q => h1 (by rw [q]; exact hm)).trans h2, h3⟩
  · obtain ⟨es, h1, h2⟩ := G.scores
    exact ⟨es, (upd_ne n9.symm).trans h1, h2⟩
theorem GoodC.set_path (G : GoodC c d σ) (ok : c.Ok) {ps : List Nat} (hp : ps.length ≤ 100) : GoodC c { d with path := ps } (upd σ c.path (.list (ps.map fun k : Nat => .int (k : Int)))) := by
  obtain ⟨⟨n1, n2, n3, n4, n5⟩, -⟩ := nd10 ok.nd
  have hm : c.path ∈ c.M := by simp [Cw.M]
  refine ⟨fun a o e => (upd_ne (ok.out hm e)).trans (G.fix a o e), (upd_ne n1.symm).trans G.dctx, upd_self _ _ _, hp, (upd_ne n2.symm).trans G.lines, G.llen, fun i a e => ?_, (upd_ne n3.symm).trans G.first, (upd_ne n4.symm).trans G.second, G.n1, G.n2, ?_, fun m hm => upd_dom m (G.al m hm)⟩
  · obtain ⟨h1, xs, h2, h3⟩ := G.inner i a e
    exact ⟨h1, xs, (upd_ne fun q => h1 (by rw [q]; exact hm)).trans h2, h3⟩
  · obtain ⟨es, h1, h2⟩ := G.scores
    exact ⟨es, (upd_ne n5.symm).trans h1, h2⟩
theorem GoodC.set_lines (G : GoodC c d σ) (ok : c.Ok) {ls : List Addr} (hl : ls.length ≤ 10) (hi : ∀ (i : Nat) (a : Addr), ls[i]? = some a → a ∉ c.M ∧ ∃ xs, σ a = some (.list xs) ∧ xs.length + i ≤ 10) : GoodC c { d with ls := ls } (upd σ c.lines (.list (ls.map .ref))) := by
  obtain ⟨⟨n1, n2, n3, n4, n5⟩, ⟨n6, n7, n8, n9⟩, ⟨n10, n11, n12⟩, -⟩ := nd10 ok.nd
  have hm : c.lines ∈ c.M := by simp [Cw.M]
  refine ⟨fun a o e => (upd_ne (ok.out hm e)).trans (G.fix a o e), (upd_ne n6).trans G.dctx, (upd_ne n2).trans G.path, G.plen, upd_self _ _ _, hl, fun i a e => ?_, (upd_ne n10.symm).trans G.first, (upd_ne n11.symm).trans G.second, G.n1, G.n2, ?_, fun m hm => upd_dom m (G.al m hm)⟩
  · obtain ⟨h1, xs, h2, h3⟩ := hi i a e
    exact ⟨h1, xs, (upd_ne fun q => h1 (by rw [q]; exact hm)).trans h2, h3⟩
  · obtain ⟨es, h1, h2⟩ := G.scores
    exact ⟨es, (upd_ne n12.symm).trans h1, h2⟩
theorem GoodC.set_first (G : GoodC c d σ) (ok : c.Ok) {ks : List Int} (hl : ks.length = c.plies) : GoodC c { d with s := { d.s with k1 := ks } } (upd σ c.first (.list (ks.map .int))) := by
  obtain ⟨⟨n1, n2, n3, n4, n5⟩, ⟨n6, n7, n8, n9⟩, ⟨n10, n11, n12⟩, ⟨n13, n14⟩, -⟩ := nd10 ok.nd
  have hm : c.first ∈ c.M := by simp [Cw.M]
  refine ⟨fun a o e => (upd_ne (ok.out hm e)).trans (G.fix a o e), (upd_ne n7).trans G.dctx, (upd_ne n3).trans G.path, G.plen, (upd_ne n10).trans G.lines, G.llen, fun i a e => ?_, upd_self _ _ _, (upd_ne n13.symm).trans G.second, hl, G.n2, ?_, fun m hm => upd_dom m (G.al m hm)⟩
  · obtain ⟨h1, xs, h2, h3⟩ := G.inner i a e
    exact ⟨h1, xs, (upd_ne fun q => h1 (by rw [q]; exact hm)).trans h2, h3⟩
  · obtain ⟨es, h1, h2⟩ := G.scores
    exact ⟨es, (upd_ne n14.symm).trans h1, h2⟩
theorem GoodC.set_second (G : GoodC c d σ) (ok : c.Ok) {ks : List Int} (hl : ks.length = c.plies) : GoodC c { d with s := { d.s with k2 := ks } } (upd σ c.second (.list (ks.map .int))) := by
  obtain ⟨⟨n1, n2, n3, n4, n5⟩, ⟨n6, n7, n8, n9⟩, ⟨n10, n11, n12⟩, ⟨n13, n14⟩, n15, -⟩ := nd10 ok.nd
  have hm : c.second ∈ c.M := by simp [Cw.M]
  refine ⟨fun a o e => (upd_ne (ok.out hm e)).trans (G.fix a o e), (upd_ne n8).trans G.dctx, (upd_ne n4).trans G.path, G.plen, (upd_ne n11).trans G.lines, G.llen, fun i a e => ?_, (upd_ne n13).trans G.first, upd_self _ _ _, G.n1, hl, ?_, fun m hm => upd_dom m (G.al m hm)⟩
  · obtain ⟨h1, xs, h2, h3⟩ := G.inner i a e
    exact ⟨h1, xs, (upd_ne fun q => h1 (by rw [q]; exact hm)).trans h2, h3⟩
  · obtain ⟨es, h1, h2⟩ := G.scores
    exact ⟨es, (upd_ne n15.symm).trans h1, h2⟩
theorem GoodC.set_scores (G : GoodC c d σ) (ok : c.Ok) {es : List (Int × V)} {f : Int → Int → Int} (hf : ScoresOk es f) : GoodC c { d with s := { d.s with past := f } } (upd σ c.scores (.idict es)) := by
  obtain ⟨⟨n1, n2, n3, n4, n5⟩, ⟨n6, n7, n8, n9⟩, ⟨n10, n11, n12⟩, ⟨n13, n14⟩, n15, -⟩ := nd10 ok.nd
  have hm : c.scores ∈ c.M := by simp [Cw.M]
  refine ⟨fun a o e => (upd_ne (ok.out hm e)).trans (G.fix a o e), (upd_ne n9).trans G.dctx, (upd_ne n5).trans G.path, G.plen, (upd_ne n12).trans G.lines, G.llen, fun i a e => ?_, (upd_ne n14).trans G.first, (upd_ne n15).trans G.second, G.n1, G.n2, ⟨_, upd_self _ _ _, hf⟩, fun m hm => upd_dom m (G.al m hm)⟩
  obtain ⟨h1, xs, h2, h3⟩ := G.inner i a e
  exact ⟨h1, xs, (upd_ne fun q => h1 (by rw [q]; exact hm)).trans h2, h3⟩
/-- the frame of the code -/
theorem fr_mc {m : Addr} (h : m ∈ c.MC) {o : AObj} : Fr c.MC σ (upd σ m o) := Fr.upd h
theorem GoodC.s_ctx (G : GoodC c d σ) (ok : c.Ok) {n : Nat} {v : V} (hm : (144, n) ∈ attrT) : setAttrV X σ (.ref c.ctx) n v = some (upd σ c.dctx (.sdict (putS n v [(40, .ref c.game), (41, .none), (42, .ref c.kil), (43, .ref c.his), (44, .int c.left), (24, .bool true), (45, .int 0), (35, .int d.s.seen), (46, .int d.made), (47, .ref c.lines)]))) :=
  setattr_of (G.fix _ _ ok.ctx) G.dctx hm (by simp)
theorem GoodC.m_game (G : GoodC c d σ) (ok : c.Ok) {n : Nat} (h : [144, 145, 146, 147, 149, 150, 151].contains n = false) : MethB X 497 n (.ref c.game) σ := by
  refine meth_of (G.fix _ _ ok.game) (G.fix _ _ ok.dgame) ?_
  simp only [List.contains_cons, Bool.or_eq_false_iff] at h
  simp only [List.lookup, h]
theorem GoodC.m_ctx (G : GoodC c d σ) (ok : c.Ok) {n : Nat} (h : [40, 41, 42, 43, 44, 24, 45, 35, 46, 47].contains n = false) : MethB X 144 n (.ref c.ctx) σ := by
  refine meth_of (G.fix _ _ ok.ctx) G.dctx ?_
  simp only [List.contains_cons, Bool.or_eq_false_iff] at h
  simp only [List.lookup, h]
theorem GoodC.m_kil (G : GoodC c d σ) (ok : c.Ok) {n : Nat} (h : [77, 78, 79].contains n = false) : MethB X 270 n (.ref c.kil) σ := by
  refine meth_of (G.fix _ _ ok.kil) (G.fix _ _ ok.dkil) ?_
  simp only [List.contains_cons, Bool.or_eq_false_iff] at h
  simp only [List.lookup, h]
theorem GoodC.m_his (G : GoodC c d σ) (ok : c.Ok) {n : Nat} (h : [62, 65].contains n = false) : MethB X 228 n (.ref c.his) σ := by
  refine meth_of (G.fix _ _ ok.his) (G.fix _ _ ok.dhis) ?_
  simp only [List.contains_cons, Bool.or_eq_false_iff] at h
  simp only [List.lookup, h]
end
section
variable {X : Cx} {r : Nat} {c : Cw}
/-- the code's own world goes on to d' -/
def Nx (c : Cw) (σ : St) (d' : Dt) (Q : St → Prop) : Prop := ∀ σ', GoodC c d' σ' → Fr c.MC σ σ' → Q σ'
theorem GoodC.w_seen {d : Dt} {σ : St} (G : GoodC c d σ) (ok : c.Ok) : ∃ s, setAttrV X σ (.ref c.ctx) 35 (.int (d.s.seen + 1)) = some s ∧ GoodC c { d with s := { d.s with seen := d.s.seen + 1 } } s ∧ Fr c.MC σ s := ⟨_, G.s_ctx ok (by decide), G.set_dctx ok (d.s.seen + 1) d.made, fr_mc (by simp [Cw.MC])⟩
theorem GoodC.w_made {d : Dt} {σ : St} (G : GoodC c d σ) (ok : c.Ok) (j : Int) : ∃ s, setAttrV X σ (.ref c.ctx) 46 (.int j) = some s ∧ GoodC c { d with made := j } s ∧ Fr c.MC σ s := ⟨_, G.s_ctx ok (by decide), G.set_dctx ok d.s.seen j, fr_mc (by simp [Cw.MC])⟩
inductive T141 (c : Cw) : TC
  | mk {σ Q d} (G : GoodC c d σ) (h : Nx c σ { d with s := { d.s with seen := d.s.seen + 1 } } fun σ' => Q .none σ') : T141 c [.ref c.ctx] σ Q
theorem c_141 (ok : c.Ok) (h6 : 6 ≤ r) : SC X (r + 3) (.ref 141) (T141 c) := D_141.run (hyN h6) fun vs σ Q h => by
  induction h with | @mk _ _ d G hq =>
  refine prI rfl ?_
  obtain ⟨s, e, G', f⟩ := G.w_seen (X := X) ok
  simp! only [G.ctxs ok rfl]
  refine iF (by decide) ?_
  simp! only [G.ctxs ok rfl, e]
  exact hq _ G' f
inductive T438 (c : Cw) : TC
  | mk {σ Q d p n w} {m : Int} (G : GoodC c d σ) (A : At c d p n w) (hp : p.length < 90) (h1 : 1 ≤ m) (h2 : m ≤ w.kids.length) (h : Nx c σ { d with path := d.path ++ [w.kids.getD (m - 1).toNat 0] } fun σ' => Q .none σ') : T438 c [.ref c.game, .int m] σ Q
theorem c_438 (ok : c.Ok) (h6 : 6 ≤ r) : SC X (r + 3) (.ref 438) (T438 c) := D_438.run (hyN h6) fun vs σ Q h => by
  induction h with | @mk _ _ d p n w m G A hp h1 h2 hq =>
  refine prI rfl ?_
  have hl : d.path.length < 95 := by rw [A.path]; simp; lia
  simp! only [G.games ok rfl, G.top A, G.at_row ok ok.kids A]
  refine iF (Int.not_lt.mpr h1) ?_
  simp! only [G.len_kids ok A.mem]
  refine iF (Int.not_lt.mpr h2) ?_
  simp! only [G.games ok rfl, G.row_kid ok A.mem h1 h2]
  refine aS G.path ?_
  simp! only [G.row_kid ok A.mem h1 h2]
  refine aT G.path (by simp; lia) ?_
  have := G.set_path ok (ps := d.path ++ [w.kids.getD (m - 1).toNat 0]) (by simp; lia)
  rw [List.map_append] at this
  simp! only []
  exact hq _ this (fr_mc (by simp [Cw.MC]))
inductive T445 (c : Cw) : TC
  | mk {σ Q d p n} (G : GoodC c d σ) (hp : p ≠ []) (e : d.path = p ++ [n]) (h : Nx c σ { d with path := p } fun σ' => Q .none σ') : T445 c [.ref c.game] σ Q
theorem c_445 (ok : c.Ok) (h6 : 6 ≤ r) : SC X (r + 3) (.ref 445) (T445 c) := D_445.run (hyN h6) fun vs σ Q h => by
  induction h with | @mk _ _ d p n G hp e hq =>
  refine prI rfl ?_
  have hl := G.plen
  rw [e] at hl
  simp at hl
  have e1 : ¬ (d.path.length : Int) = 1 := by
    rw [e]
    cases p with
    | nil => exact absurd rfl hp
    | cons a l => simp; lia
  have hG := G.path
  rw [e, List.map_append] at hG
  simp! only [G.games ok rfl, G.len_path]
  refine iF e1 ?_
  simp! only [G.games ok rfl]
  refine ⟨_, _, _, rfl, hG, by simp; lia, ?_⟩
  simp! only []
  exact hq _ (G.set_path ok (ps := p) (by lia)) (fr_mc (by simp [Cw.MC]))
inductive T155 (c : Cw) : TC
  | mk {σ Q d p n w} {m : Int} (G : GoodC c d σ) (A : At c d p n w) (hp : p.length < 90) (h1 : 1 ≤ m) (h2 : m ≤ w.kids.length) (h : Nx c σ { d with path := d.path ++ [w.kids.getD (m - 1).toNat 0], made := d.made + 1 } fun σ' => Q .none σ') : T155 c [.ref c.ctx, .int m] σ Q
theorem c_155 (ok : c.Ok) (h6 : 6 ≤ r) (c_438 : SC X r (.ref 438) (T438 c)) : SC X (r + 3) (.ref 155) (T155 c) := by
  refine wG1 [(438, _)] (hyC c_438 (hyN h6)) (fun Γ H (e438 : Γ 438 = T438 c) => ?_) rfl
  refine D_155.run H fun vs σ Q h => ?_
  induction h with | @mk _ _ d p n w m G A hp h1 h2 hq =>
  refine prI rfl ?_
  simp! only [G.ctxs ok rfl]
  refine mS (G.m_game ok rfl) e438 ⟨G, A, hp, h1, h2, fun σ' G' f => ?_⟩
  obtain ⟨s, e, G2, f2⟩ := G'.w_made (X := X) ok (d.made + 1)
  simp! only [G'.ctxs ok rfl, e]
  exact hq _ G2 (f.trans f2)
inductive T162 (c : Cw) : TC
  | mk {σ Q d p n} (G : GoodC c d σ) (hp : p ≠ []) (e : d.path = p ++ [n]) (h : Nx c σ { d with path := p, made := d.made - 1 } fun σ' => Q .none σ') : T162 c [.ref c.ctx] σ Q
theorem c_162 (ok : c.Ok) (h6 : 6 ≤ r) (c_445 : SC X r (.ref 445) (T445 c)) : SC X (r + 3) (.ref 162) (T162 c) := by
  refine wG1 [(445, _)] (hyC c_445 (hyN h6)) (fun Γ H (e445 : Γ 445 = T445 c) => ?_) rfl
  refine D_162.run H fun vs σ Q h => ?_
  induction h with | @mk _ _ d p n G hp e hq =>
  refine prI rfl ?_
  simp! only [G.ctxs ok rfl]
  refine mS (G.m_game ok rfl) e445 ⟨G, hp, e, fun σ' G' f => ?_⟩
  obtain ⟨s, e, G2, f2⟩ := G'.w_made (X := X) ok (d.made - 1)
  simp! only [G'.ctxs ok rfl, e]
  exact hq _ G2 (f.trans f2)
end
/-! NU -/
/-! the records -/
noncomputable def LS.setK (s : LS) (i : Nat) (a b : Int) : LS := { s with k1 := s.k1.set i a, k2 := s.k2.set i b }
noncomputable def LS.addK (s : LS) (i : Nat) (m : Int) : LS := if i < s.k1.length ∧ s.k1.getD i 0 ≠ m then s.setK i m (s.k1.getD i 0) else s
noncomputable def shareM (old by' limit : Int) : Int := if old < 0 then -((-old * by').fdiv limit) else (old * by').fdiv limit
noncomputable def absM (b : Int) : Int := if b < 0 then -b else b
noncomputable def newM (limit old b : Int) : Int := old + b - shareM old (absM b) limit
noncomputable def LS.updP (limit : Int) (side move b : Int) (s : LS) : LS := { s with past := fun x y => if x = side ∧ y = move then newM limit (s.past side move) b else s.past x y }
noncomputable def bonusM (limit depth : Int) : Int := if 16 * depth * depth + 32 * depth < limit then 16 * depth * depth + 32 * depth else limit
noncomputable def LS.triedM (limit : Int) (side b : Int) : List Int → LS → LS
  | [], s => s
  | m :: ms, s => LS.triedM limit side b ms (s.updP limit side m b)
noncomputable def LS.rewardM (limit : Int) (side : Int) (ply : Nat) (depth best : Int) (tried : List Int) (s : LS) : LS :=
  LS.triedM limit side (-(bonusM limit depth)) tried ((s.addK ply best).updP limit side best (bonusM limit depth))
theorem nd_len {l m : List Int} (h : l.Nodup) (hs : ∀ x ∈ l, x ∈ m) : l.length ≤ m.length := by
  induction l generalizing m with
  | nil => simp
  | cons a l ih =>
    rw [List.nodup_cons] at h
    have ha := hs a List.mem_cons_self
    have := ih (m := m.erase a) h.2 fun x hx => (List.mem_erase_of_ne fun q => h.1 (by rw [← q]; exact hx)).mpr (hs x (List.mem_cons_of_mem _ hx))
    rw [List.length_erase_of_mem ha] at this
    have := List.length_pos_of_mem ha
    simp only [List.length_cons]; omega
theorem ScoresOk.len {es : List (Int × V)} {f : Int → Int → Int} (h : ScoresOk es f) : es.length < 1000 := by
  have := nd_len h.nd h.sub
  rw [List.length_map] at this
  have : es.length ≤ 6 := this
  lia
theorem keys_store (es : List (Int × V)) (k : Int) (v : V) : (storeK es k v).map (·.1) = if k ∈ es.map (·.1) then es.map (·.1) else es.map (·.1) ++ [k] := by
  unfold storeK
  have e : es.any (fun e => decide (e.1 = k)) = decide (k ∈ es.map (·.1)) := by
    rw [Bool.eq_iff_iff]; simp
  by_cases q : k ∈ es.map (·.1)
  · rw [if_pos (by rw [e]; simpa using q), if_pos q, List.map_map]
    apply List.map_congr_left
    intro a _
    show (if a.1 = k then (a.1, v) else a).1 = a.1
    split <;> rfl
  · rw [if_neg (by rw [e]; simpa using q), if_neg q]; simp
theorem side_key {s m s' m' : Int} (h1 : 1 ≤ m) (h2 : m ≤ 3) (h3 : 1 ≤ m') (h4 : m' ≤ 3) (e : s * 65536 + m = s' * 65536 + m') : s = s' ∧ m = m' := by lia
theorem in_K6 {s m : Int} (h1 : 0 ≤ s) (h2 : s ≤ 1) (h3 : 1 ≤ m) (h4 : m ≤ 3) : s * 65536 + m ∈ K6 := by
  have : s = 0 ∨ s = 1 := by lia
  have : m = 1 ∨ m = 2 ∨ m = 3 := by lia
  unfold K6
  rcases ‹s = 0 ∨ s = 1› with e | e <;> rcases this with e' | e' | e' <;> subst e e' <;> decide
theorem ScoresOk.store {es : List (Int × V)} {s : LS} (h : ScoresOk es s.past) {side move limit b : Int} (h1 : 0 ≤ side) (h2 : side ≤ 1) (h3 : 1 ≤ move) (h4 : move ≤ 3) :
    ScoresOk (storeK es (side * 65536 + move) (.int (newM limit (s.past side move) b))) (s.updP limit side move b).past := by
  refine ⟨?_, ?_, fun x y a1 a2 a3 a4 => ?_⟩
  · rw [keys_store]
    split
    · exact h.nd
    · rename_i q
      rw [List.nodup_append]
      exact ⟨h.nd, by simp, fun a ha b hb => by simp at hb; subst hb; intro e; subst e; exact q ha⟩
  · rw [keys_store]
    intro k hk
    split at hk
    · exact h.sub k hk
    · rcases List.mem_append.mp hk with hk | hk
      · exact h.sub k hk
      · simp at hk; subst hk; exact in_K6 h1 h2 h3 h4
  · rw [lookup_storeK]
    unfold LS.updP
    dsimp only
    by_cases q : x = side ∧ y = move
    · obtain ⟨rfl, rfl⟩ := q
      rw [if_pos rfl, if_pos ⟨rfl, rfl⟩]; rfl
    · rw [if_neg fun e => q (side_key a3 a4 h3 h4 e), if_neg q]; exact h.val x y a1 a2 a3 a4
section
variable {X : Cx} {c : Cw} {d : Dt} {σ σ' : St}
theorem setitem_list {a : Addr} {k : Int} {v : V} {xs : List V} (h : σ a = some (.list xs)) (h0 : 0 ≤ k) (h1 : k < 1000000) (h2 : k < xs.length) : SetItem X σ (.ref a) (.int k) v (upd σ a (.list (xs.set k.toNat v))) := .list h h0 h1 h2
theorem setitem_idict {a : Addr} {k : Int} {v : V} {es : List (Int × V)} (h : σ a = some (.idict es)) (h0 : es.length < 1000) : SetItem X σ (.ref a) (.int k) v (upd σ a (.idict (storeK es k v))) := .idict h h0
theorem get_nat {a : Addr} {k : Nat} {xs : List V} {v : V} (h : σ a = some (.list xs)) (h1 : k < 1000000) (h2 : xs[k]? = some v) : getV X σ (.ref a) (.int (k : Int)) = some v := by
  rw [sub_of h, getIdx_nat h1, h2]
end
section
variable {X : Cx} {r : Nat} {c : Cw}
inductive T169 (c : Cw) : TC
  | mk {σ Q d} {ply : Nat} (G : GoodC c d σ) (hp : ply ≤ 8) (h : ∀ ls', NewIn σ d.ls ls' → ply < ls'.length → d.ls.length ≤ ls'.length → Nx c σ { d with ls := ls' } fun σ' => Q .none σ') : T169 c [.ref c.ctx, .int ply] σ Q
inductive I169 (c : Cw) (d : Dt) (σ : St) (ls : List Addr) (σ' : St) : Prop
  | mk (G : GoodC c { d with ls := ls } σ') (f : Fr c.MC σ σ') (n : NewIn σ d.ls ls) (l : d.ls.length ≤ ls.length)
theorem c_169 (ok : c.Ok) (h6 : 6 ≤ r) : SC X (r + 3) (.ref 169) (T169 c) := D_169.run (hyN h6) fun vs σ Q h => by
  induction h with | @mk σ Q d ply G hp hq =>
  refine prI rfl ?_
  have hm : c.lines ∈ c.MC := by simp [Cw.MC]
  simp! only []
  refine wM (fun _ : List Addr => [(50, .ref c.ctx), (11, .int ply)]) (fun ls => 20 - ls.length) (I169 c d σ) d.ls rfl (.mk G (.refl _ _) .refl (Nat.le_refl _)) fun ls σ₁ h => ?_
  induction h with | mk G1 f1 n1 l1 =>
  have hl := G1.llen
  have hlen : lenV X [.ref c.lines] σ₁ = some (.int ls.length) := by rw [len_of G1.lines (by simp; dsimp only at hl; lia), List.length_map]
  dsimp only at hl
  simp! only [G1.ctxs ok rfl, hlen]
  refine iC (fun hle => ?_) fun hle => ?_
  · simp! only [G1.ctxs ok rfl]
    refine aS G1.lines ?_
    refine lU rfl fun a σ₂ _ r2 _ hs => ?_
    have f0 : Fr [] σ₁ σ₂ := hs ▸ Fr.new r2
    have G2 := G1.keep0 f0
    refine aT G2.lines (by simp; lia) ?_
    have h := G2.set_lines ok (ls := ls ++ [a]) (by simp; lia) fun i b e => by
        by_cases q : i < ls.length
        · rw [List.getElem?_append_left q] at e; exact G2.inner i b e
        · rw [List.getElem?_append_right (by lia)] at e
          have hb : b = a := by
            cases q' : i - ls.length with
            | zero => rw [q'] at e; simp at e; exact e.symm
            | succ j => rw [q'] at e; simp at e
          have hi : i - ls.length < 1 := by have := (List.getElem?_eq_some_iff.mp e).1; simpa using this
          subst hb
          exact ⟨G1.not_m r2, [], hs ▸ upd_self _ _ _, by simp; lia⟩
    rw [List.map_append] at h
    simp! only []
    refine jW (ls ++ [a]) (by simp; lia) (Sub.refl _) (.mk h (f1.trans (f0.nil.trans (fr_mc hm))) (fun b hb => ?_) (by simp; lia))
    rcases List.mem_append.mp hb with hb | hb
    · exact n1 b hb
    · simp at hb; subst hb; exact .inr (f1.none r2)
  · simp! only []
    refine lU rfl fun a σ₂ _ r2 _ hs => ?_
    have f0 : Fr [] σ₁ σ₂ := hs ▸ Fr.new r2
    have G2 := G1.keep0 f0
    simp! only [G2.ctxs ok rfl]
    refine eA (setitem_list G2.lines (by lia) (by lia) (by simp; lia)) ?_
    have e : (ls.map V.ref).set ((ply : Int).toNat) (.ref a) = (ls.set ply a).map .ref := by simp
    have h := G2.set_lines ok (ls := ls.set ply a) (by simp; lia) fun i b e => by
      rw [List.getElem?_set] at e
      by_cases q : ply = i
      · rw [if_pos q] at e
        split at e
        · cases e; exact ⟨G1.not_m r2, [], hs ▸ upd_self _ _ _, by simp; lia⟩
        · cases e
      · rw [if_neg q] at e; exact G2.inner i b e
    rw [← e] at h
    simp! only []
    refine hq (ls.set ply a) (fun b hb => ?_) (by simp; lia) (by simp; lia) _ h (f1.trans (f0.nil.trans (fr_mc hm)))
    rcases List.mem_or_eq_of_mem_set hb with hb | rfl
    · exact n1 b hb
    · exact .inr (f1.none r2)
inductive T176 (c : Cw) : TC
  | mk {σ Q d} {ply : Nat} {m : Int} (G : GoodC c d σ) (hp : ply + 1 < d.ls.length) (h : ∀ ls', NewIn σ d.ls ls' → ls'.length = d.ls.length → Nx c σ { d with ls := ls' } fun σ' => Q .none σ') : T176 c [.ref c.ctx, .int ply, .int m] σ Q
theorem c_176 (ok : c.Ok) (h6 : 6 ≤ r) : SC X (r + 3) (.ref 176) (T176 c) := D_176.run (hyN h6) fun vs σ Q h => by
  induction h with | @mk σ Q d ply m G hp hq =>
  refine prI rfl ?_
  have hm : c.lines ∈ c.MC := by simp [Cw.MC]
  have hl := G.llen
  obtain ⟨h1, xs, h2, h3⟩ := G.inner (ply + 1) d.ls[ply + 1] (List.getElem?_eq_getElem hp)
  simp! only []
  refine lU rfl fun a σ₂ _ r2 _ hs => ?_
  have f0 : Fr [] σ σ₂ := hs ▸ Fr.new r2
  have G2 := G.keep0 f0
  have hg : getV X σ₂ (.ref c.lines) (.int (ply + 1)) = some (.ref d.ls[ply + 1]) :=
    get_nat (X := X) (k := ply + 1) G2.lines (by lia) (v := .ref d.ls[ply + 1]) (by rw [List.getElem?_map, List.getElem?_eq_getElem hp]; rfl)
  simp! only [G2.ctxs ok rfl, hg]
  refine aL (rd_own (hs ▸ upd_self _ _ _)) (rd_own (f0.keep _ _ h2 (by simp))) (by simp; lia) ?_
  refine mU fun b σ₃ _ q2 _ hs' => ?_
  have f1 : Fr [] σ₂ σ₃ := hs' ▸ Fr.new q2
  have G3 := G2.keep0 f1
  simp! only [G3.ctxs ok rfl]
  refine eA (setitem_list G3.lines (by lia) (by lia) (by simp; lia)) ?_
  have e : (d.ls.map V.ref).set ((ply : Int).toNat) (.ref b) = (d.ls.set ply b).map .ref := by simp
  have h := G3.set_lines ok (ls := d.ls.set ply b) (by simp; lia) fun i b' e => by
    rw [List.getElem?_set] at e
    by_cases q : ply = i
    · rw [if_pos q] at e
      split at e
      · cases e; exact ⟨G2.not_m q2, _, hs' ▸ upd_self _ _ _, by simp; lia⟩
      · cases e
    · rw [if_neg q] at e; exact G3.inner i b' e
  rw [← e] at h
  simp! only []
  refine hq (d.ls.set ply b) (fun b' hb => ?_) (by simp) _ h (f0.nil.trans (f1.nil.trans (fr_mc hm)))
  rcases List.mem_or_eq_of_mem_set hb with hb | rfl
  · exact .inl hb
  · exact .inr (f0.none q2)
inductive T183 : TC
  | mk {σ Q} {old b l : Int} (h1 : b.natAbs < 1000) (h2 : 1 ≤ l) (h3 : l ≤ 1000) (h : Q (.int (shareM old b l)) σ) : T183 [.int old, .int b, .int l] σ Q
theorem c_183 (h6 : 6 ≤ r) : SC X (r + 3) (.ref 183) T183 := D_183.run (hyN h6) fun vs σ Q h => by
  induction h with | @mk σ Q old b l h1 h2 h3 hq =>
  refine prI rfl ?_
  have e1 : b.natAbs < 1073741824 := by lia
  have e2 : l.natAbs < 1073741824 := by lia
  have e3 : l ≠ 0 := by lia
  unfold shareM at hq
  simp! only []
  refine iC (fun q => ?_) fun q => ?_
  · rw [if_pos q] at hq; simp! only [b_mul e1, b_fdiv e3 e2]; exact hq
  · rw [if_neg q] at hq; simp! only [b_mul e1, b_fdiv e3 e2]; exact hq
inductive T204 (c : Cw) : TC
  | mk {σ Q d} {side m : Int} (G : GoodC c d σ) (h1 : 0 ≤ side) (h2 : side ≤ 1) (h3 : 1 ≤ m) (h4 : m ≤ 3) (h : Q (.int (d.s.past side m)) σ) : T204 c [.ref c.his, .int side, .int m] σ Q
theorem c_204 (ok : c.Ok) (h6 : 6 ≤ r) : SC X (r + 3) (.ref 204) (T204 c) := D_204.run (hyN h6) fun vs σ Q h => by
  induction h with | @mk σ Q d side m G h1 h2 h3 h4 hq =>
  obtain ⟨es, e1, e2⟩ := G.scores
  refine prI rfl ?_
  simp! only [G.hiss ok rfl]
  refine gI ok.s1 e1 ?_
  simp! only [b_mul (j := 65536) (by decide)]
  refine gJ e1 ?_
  rw [e2.val _ _ h1 h2 h3 h4]
  simp! only []
  exact hq
inductive T218 (c : Cw) : TC
  | mk {σ Q d} {k : Int} (G : GoodC c d σ) (h1 : 0 ≤ k) (h2 : k ≤ 10) (h : Q (.int (bonusM c.limit k)) σ) : T218 c [.ref c.his, .int k] σ Q
theorem c_218 (ok : c.Ok) (h6 : 6 ≤ r) : SC X (r + 3) (.ref 218) (T218 c) := D_218.run (hyN h6) fun vs σ Q h => by
  induction h with | @mk σ Q d k G h1 h2 hq =>
  refine prI rfl ?_
  have e3 : k.natAbs < 1073741824 := by lia
  simp! only [G.hiss ok rfl, b_mul e3]
  exact hq
inductive T211 (c : Cw) : TC
  | mk {σ Q d} {side m b : Int} (G : GoodC c d σ) (h1 : 0 ≤ side) (h2 : side ≤ 1) (h3 : 1 ≤ m) (h4 : m ≤ 3) (h5 : -c.limit ≤ b) (h7 : b ≤ c.limit) (h : Nx c σ { d with s := d.s.updP c.limit side m b } fun σ' => Q .none σ') : T211 c [.ref c.his, .int side, .int m, .int b] σ Q
theorem c_211 (ok : c.Ok) (h6 : 6 ≤ r) (c_183 : SC X r (.ref 183) T183) : SC X (r + 3) (.ref 211) (T211 c) := by
  refine wG1 [(183, _)] (hyC c_183 (hyN h6)) (fun Γ H (e183 : Γ 183 = T183) => ?_) rfl
  refine D_211.run H fun vs σ Q h => ?_
  induction h with | @mk σ Q d side m b G h1 h2 h3 h4 h5 h7 hq =>
  obtain ⟨es, e1, e2⟩ := G.scores
  have l1 := ok.l1
  have l2 := ok.l2
  refine prI rfl ?_
  have e4 : (if (if b < c.limit then b else c.limit) > -c.limit then (if b < c.limit then b else c.limit) else -c.limit) = b := by
    by_cases q : b < c.limit
    · rw [if_pos q]
      by_cases q' : b > -c.limit
      · rw [if_pos q']
      · rw [if_neg q']; lia
    · rw [if_neg q, if_pos (by lia)]; lia
  simp! only [G.hiss ok rfl, b_mul (j := 65536) (by decide)]
  rw [e4]
  refine gI ok.s1 e1 ?_
  simp! only []
  refine gJ e1 ?_
  rw [e2.val _ _ h1 h2 h3 h4]
  simp! only [G.hiss ok rfl]
  refine cS e183 ⟨by split <;> lia, by lia, by lia, ?_⟩
  simp! only [G.hiss ok rfl]
  refine eA (setitem_idict e1 e2.len) ?_
  simp! only []
  exact hq _ (G.set_scores ok (e2.store (limit := c.limit) (b := b) h1 h2 h3 h4)) (fr_mc (by simp [Cw.MC]))
end
/-! NV -/
theorem LS.setK_id (s : LS) (i : Nat) (a b : Int) (h1 : ¬ i < s.k1.length) (h2 : ¬ i < s.k2.length) : s.setK i a b = s := by
  unfold LS.setK
  rw [List.set_eq_of_length_le (by lia), List.set_eq_of_length_le (by lia)]
theorem LS.getK (l : List Int) (i : Nat) (h : i < l.length) : (l.map V.int)[i]? = some (.int (l.getD i 0)) := by
  rw [List.getElem?_map, List.getElem?_eq_getElem h, List.getD_eq_getElem?_getD, List.getElem?_eq_getElem h]; rfl
section
variable {X : Cx} {r : Nat} {c : Cw} {d : Dt} {σ : St}
theorem map_set (l : List Int) (i : Nat) (m : Int) : (l.map V.int).set ((i : Int).toNat) (.int m) = (l.set i m).map .int := by simp
theorem GoodC.i_first (G : GoodC c d σ) (ok : c.Ok) {i : Nat} (hi : i < c.plies) (m : Int) : ∃ s, SetItem X σ (.ref c.first) (.int i) (.int m) s ∧ GoodC c { d with s := { d.s with k1 := d.s.k1.set i m } } s ∧ Fr c.MC σ s := by
  have n := G.n1
  have p := ok.p4
  have h := G.set_first ok (ks := d.s.k1.set i m) (by rw [List.length_set]; exact n)
  rw [← map_set] at h
  exact ⟨_, setitem_list G.first (by lia) (by lia) (by rw [List.length_map]; lia), h, fr_mc (by simp [Cw.MC])⟩
theorem GoodC.i_second (G : GoodC c d σ) (ok : c.Ok) {i : Nat} (hi : i < c.plies) (m : Int) : ∃ s, SetItem X σ (.ref c.second) (.int i) (.int m) s ∧ GoodC c { d with s := { d.s with k2 := d.s.k2.set i m } } s ∧ Fr c.MC σ s := by
  have n := G.n2
  have p := ok.p4
  have h := G.set_second ok (ks := d.s.k2.set i m) (by rw [List.length_set]; exact n)
  rw [← map_set] at h
  exact ⟨_, setitem_list G.second (by lia) (by lia) (by rw [List.length_map]; lia), h, fr_mc (by simp [Cw.MC])⟩
theorem GoodC.g_first (G : GoodC c d σ) (ok : c.Ok) {i : Nat} (hi : i < c.plies) : getV X σ (.ref c.first) (.int (i : Int)) = some (.int (d.s.k1.getD i 0)) := get_nat G.first (by have := ok.p4; lia) (LS.getK _ _ (by rw [G.n1]; exact hi))
theorem GoodC.g_second (G : GoodC c d σ) (ok : c.Ok) {i : Nat} (hi : i < c.plies) : getV X σ (.ref c.second) (.int (i : Int)) = some (.int (d.s.k2.getD i 0)) := get_nat G.second (by have := ok.p4; lia) (LS.getK _ _ (by rw [G.n2]; exact hi))
inductive T267 (c : Cw) : TC
  | mk {σ Q d} {i : Nat} (G : GoodC c d σ) (hi : i < 100) (h : Nx c σ { d with s := d.s.setK i 0 0 } fun σ' => Q .none σ') : T267 c [.ref c.kil, .int i] σ Q
theorem c_267 (ok : c.Ok) (h6 : 6 ≤ r) : SC X (r + 3) (.ref 267) (T267 c) := D_267.run (hyN h6) fun vs σ Q h => by
  induction h with | @mk σ Q d i G hi hq =>
  refine prI rfl ?_
  simp! only [G.kils ok rfl]
  refine iC (fun hlt => ?_) fun hge => ?_
  · have hlt : i < c.plies := Int.ofNat_lt.mp hlt
    obtain ⟨s2, e2, G2, f2⟩ := G.i_first (X := X) ok hlt 0
    obtain ⟨s3, e3, G3, f3⟩ := G2.i_second (X := X) ok hlt 0
    simp! only [G.kils ok rfl]
    refine eA e2 ?_
    simp! only [G2.kils ok rfl]
    refine eA e3 ?_
    simp! only []
    exact hq _ G3 (f2.trans f3)
  · have n1 := G.n1
    have n2 := G.n2
    rw [LS.setK_id d.s i 0 0 (by lia) (by lia)] at hq
    simp! only []
    exact hq _ G (.refl _ _)
inductive T253 (c : Cw) : TC
  | mk {σ Q d} {i : Nat} {m : Int} (G : GoodC c d σ) (hi : i < 100) (h : Nx c σ { d with s := d.s.addK i m } fun σ' => Q .none σ') : T253 c [.ref c.kil, .int i, .int m] σ Q
theorem c_253 (ok : c.Ok) (h6 : 6 ≤ r) : SC X (r + 3) (.ref 253) (T253 c) := D_253.run (hyN h6) fun vs σ Q h => by
  induction h with | @mk σ Q d i m G hi hq =>
  refine prI rfl ?_
  have n1 := G.n1
  have n2 := G.n2
  unfold LS.addK at hq
  simp! only [G.kils ok rfl]
  refine iC (fun q => ?_) fun q => ?_
  · have q : i < c.plies := Int.ofNat_lt.mp q
    simp! only [G.kils ok rfl, G.g_first ok q]
    refine iC (fun e => ?_) fun e => ?_
    · rw [if_pos ⟨by lia, e⟩] at hq
      obtain ⟨s2, e2, G2, f2⟩ := G.i_second (X := X) ok q (d.s.k1.getD i 0)
      obtain ⟨s3, e3, G3, f3⟩ := G2.i_first (X := X) ok q m
      simp! only [G.kils ok rfl, G.g_first ok q]
      refine eA e2 ?_
      simp! only [G2.kils ok rfl]
      refine eA e3 ?_
      simp! only []
      exact hq _ G3 (f2.trans f3)
    · rw [if_neg (fun h => e h.2)] at hq
      simp! only []
      exact hq _ G (.refl _ _)
  · rw [if_neg (by lia)] at hq
    simp! only []
    exact hq _ G (.refl _ _)
inductive T260 (c : Cw) : TC
  | mk {σ Q d} {i : Nat} (G : GoodC c d σ) (hi : i < 100) (h : New σ (.tup [.int (d.s.k1.getD i 0), .int (d.s.k2.getD i 0)]) Q) : T260 c [.ref c.kil, .int i] σ Q
theorem c_260 (ok : c.Ok) (h6 : 6 ≤ r) : SC X (r + 3) (.ref 260) (T260 c) := D_260.run (hyN h6) fun vs σ Q h => by
  induction h with | @mk σ Q d i G hi hq =>
  refine prI rfl ?_
  have n1 := G.n1
  have n2 := G.n2
  simp! only [G.kils ok rfl]
  refine iC (fun q => ?_) fun q => ?_
  · have q : i < c.plies := Int.ofNat_lt.mp q
    simp! only [G.kils ok rfl, G.g_first ok q, G.g_second ok q]
    exact tN rfl hq
  · have e1 : d.s.k1.getD i 0 = 0 := by rw [List.getD_eq_getElem?_getD, List.getElem?_eq_none (by lia)]; rfl
    have e2 : d.s.k2.getD i 0 = 0 := by rw [List.getD_eq_getElem?_getD, List.getElem?_eq_none (by lia)]; rfl
    rw [e1, e2] at hq
    simp! only []
    exact tN rfl hq
abbrev T288 (c : Cw) : TC := T260 c
theorem c_288 (ok : c.Ok) (h6 : 6 ≤ r) (c_260 : SC X r (.ref 260) (T260 c)) : SC X (r + 3) (.ref 288) (T288 c) := by
  refine wG1 [(260, _)] (hyC c_260 (hyN h6)) (fun Γ H (e260 : Γ 260 = T260 c) => ?_) rfl
  refine D_288.run H fun vs σ Q h => ?_
  induction h with | @mk σ Q d i G hi hq =>
  refine prI rfl ?_
  simp! only []
  exact mS (G.m_kil ok rfl) e260 ⟨G, hi, hq⟩
abbrev T295 (c : Cw) : TC := T204 c
theorem c_295 (ok : c.Ok) (h6 : 6 ≤ r) (c_204 : SC X r (.ref 204) (T204 c)) : SC X (r + 3) (.ref 295) (T295 c) := by
  refine wG1 [(204, _)] (hyC c_204 (hyN h6)) (fun Γ H (e204 : Γ 204 = T204 c) => ?_) rfl
  refine D_295.run H fun vs σ Q h => ?_
  induction h with | @mk σ Q d side m G h1 h2 h3 h4 hq =>
  refine prI rfl ?_
  simp! only []
  exact mS (G.m_his ok rfl) e204 ⟨G, h1, h2, h3, h4, hq⟩
theorem bonus_le {c : Cw} (ok : c.Ok) {k : Int} (h0 : 0 ≤ k) (h1 : k ≤ 10) : 0 ≤ bonusM c.limit k ∧ bonusM c.limit k ≤ c.limit := by
  have l1 := ok.l1
  have h : 0 ≤ 16 * k * k := Int.mul_nonneg (by lia) h0
  unfold bonusM
  split <;> lia
/-- what the code's reward leaves: the tried ones, but for the best -/
noncomputable def LS.triedC (limit : Int) (side b best : Int) : List Int → LS → LS
  | [], s => s
  | m :: ms, s => LS.triedC limit side b best ms (if m ≠ best then s.updP limit side m b else s)
theorem LS.tried_eq {limit side b best : Int} : ∀ {ms : List Int} {s : LS}, best ∉ ms → LS.triedC limit side b best ms s = LS.triedM limit side b ms s
  | [], _, _ => rfl
  | m :: ms, s, h => by
    unfold LS.triedC LS.triedM
    rw [if_pos fun e => h (by rw [e]; exact List.mem_cons_self)]
    exact LS.tried_eq fun q => h (List.mem_cons_of_mem _ q)
inductive T281 (c : Cw) : TC
  | mk {σ Q d} {side : Int} {i : Nat} {k m : Int} {l : Addr} {tr : List Int} (G : GoodC c d σ) (h1 : 0 ≤ side) (h2 : side ≤ 1) (h3 : i < 100) (h4 : 0 ≤ k) (h5 : k ≤ 10) (h6 : 1 ≤ m) (h7 : m ≤ 3) (hl : σ l = some (.list (tr.map .int))) (hM : l ∉ c.M) (hn : m ∉ tr) (ha : ∀ x ∈ tr, 1 ≤ x ∧ x ≤ 3)
    (h : Nx c σ { d with s := d.s.rewardM c.limit side i k m tr } fun σ' => Q .none σ') : T281 c [.ref c.his, .ref c.kil, .int side, .int i, .int k, .int m, .ref l] σ Q
inductive I281 (c : Cw) (d : Dt) (side : Int) (i : Nat) (k m : Int) (tr : List Int) (σ : St) (ns : List Int) (s : LS) (σ' : St) : Prop
  | mk (hin : ∀ x ∈ ns, x ∈ tr) (G : GoodC c { d with s := s } σ') (f : Fr c.MC σ σ') (he : LS.triedC c.limit side (-(bonusM c.limit k)) m ns s = LS.rewardM c.limit side i k m tr d.s)
theorem c_281 (ok : c.Ok) (hr : 6 ≤ r) (c_253 : SC X r (.ref 253) (T253 c)) (c_218 : SC X r (.ref 218) (T218 c)) (c_211 : SC X r (.ref 211) (T211 c)) : SC X (r + 3) (.ref 281) (T281 c) := by
  have h6 := hr
  refine wG3 [(253, _), (218, _), (211, _)] (hyC c_253 (hyC c_218 (hyC c_211 (hyN h6)))) (fun Γ H (e253 : Γ 253 = T253 c) (e218 : Γ 218 = T218 c) (e211 : Γ 211 = T211 c) => ?_) rfl rfl rfl
  refine D_281.run H fun vs σ Q h => ?_
  induction h with | @mk σ Q d side i k m l tr G h1 h2 h3 h4 h5 h6 h7 hl hM hne hall hq =>
  refine prI rfl ?_
  obtain ⟨b1, b2⟩ := bonus_le ok h4 h5
  have l1 := ok.l1
  simp! only []
  refine mS (G.m_kil ok rfl) e253 ⟨G, h3, fun σ₁ G1 f1 => ?_⟩
  simp! only []
  refine mS (G1.m_his ok rfl) e218 ⟨G1, h4, h5, ?_⟩
  simp! only []
  refine mS (G1.m_his ok rfl) e211 ⟨G1, h1, h2, h6, h7, by lia, b2, fun σ₂ G2 f2 => ?_⟩
  simp! only []
  have hl2 : ∀ σ', Fr c.MC σ σ' → σ' l = some (.list (tr.map .int)) := fun σ' f => f.keep _ _ hl fun h => hM (mc_m h)
  refine fM (src := .list l) V.int (fun _ : LS => [(43, .ref c.his), (42, .ref c.kil), (67, .int side), (11, .int i), (21, .int k), (84, .int m), (85, .ref l), (69, .int (bonusM c.limit k))]) (I281 c d side i k m tr σ) tr _ rfl rfl rfl
    (.mk (fun x h => h) G2 (f1.trans f2) (LS.tried_eq hne)) (fun _ _ σ' h => ?_) (fun n ns s σ' h => ?_) fun s σ' h => ?_
  · induction h with | mk _ _ f _ => exact rd_own (hl2 _ f)
  · cases h with | mk hin G' f' he =>
    obtain ⟨n1, n2⟩ := hall n (hin n List.mem_cons_self)
    unfold LS.triedC at he
    have hin' : ∀ x ∈ ns, x ∈ tr := fun x hx => hin x (List.mem_cons_of_mem _ hx)
    simp! only []
    refine iC (fun hn => ?_) fun hn => ?_
    · simp! only []
      refine mS (G'.m_his ok rfl) e211 ⟨G', h1, h2, n1, n2, by lia, by lia, fun σ'' G'' f'' => ?_⟩
      simp! only []
      rw [if_pos hn] at he
      exact jM ns _ (by repeat first | exact Sub.nil _ | refine Sub.cons rfl ?_) (.mk hin' G'' (f'.trans f'') he)
    · simp! only []
      rw [if_neg hn] at he
      exact jM ns _ (by repeat first | exact Sub.nil _ | refine Sub.cons rfl ?_) (.mk hin' G' f' he)
  · cases h with | mk _ G' f' he =>
    subst he
    simp! only []
    exact hq _ G' f'
end
/-! NW -/
/-! lists of pairs -/
noncomputable def TupsL (σ : St) : List Addr → List (Int × Int) → Prop
  | [], [] => True
  | a :: as, q :: ps => σ a = some (.tup [.int q.1, .int q.2]) ∧ TupsL σ as ps
  | _, _ => False
def Tups (σ : St) (l : Addr) (ps : List (Int × Int)) : Prop := ∃ as : List Addr, σ l = some (.list (as.map .ref)) ∧ TupsL σ as ps
theorem TupsL.len {σ : St} : ∀ {as : List Addr} {ps : List (Int × Int)}, TupsL σ as ps → as.length = ps.length
  | [], [], _ => rfl
  | _ :: _, _ :: _, ⟨_, h⟩ => by simp [TupsL.len h]
  | [], _ :: _, h => h.elim
  | _ :: _, [], h => h.elim
theorem TupsL.get {σ : St} : ∀ {as : List Addr} {ps : List (Int × Int)} {i : Nat} {q : Int × Int}, TupsL σ as ps → ps[i]? = some q → ∃ a, as[i]? = some a ∧ σ a = some (.tup [.int q.1, .int q.2])
  | [], [], i, q, _, e => by simp at e
  | a :: as, p :: ps, 0, q, ⟨h, _⟩, e => by simp at e; subst e; exact ⟨a, rfl, h⟩
  | a :: as, p :: ps, i + 1, q, ⟨_, h⟩, e => by
    obtain ⟨b, h1, h2⟩ := TupsL.get h (i := i) (by simpa using e)
    exact ⟨b, by simpa using h1, h2⟩
  | [], _ :: _, _, _, h, _ => h.elim
  | _ :: _, [], _, _, h, _ => h.elim
theorem TupsL.erase {σ : St} : ∀ {as : List Addr} {ps : List (Int × Int)} {i : Nat}, TupsL σ as ps → TupsL σ (as.eraseIdx i) (ps.eraseIdx i)
  | [], [], i, _ => by simp [TupsL]
  | a :: as, p :: ps, 0, ⟨_, h⟩ => by simpa using h
  | a :: as, p :: ps, i + 1, ⟨h, h'⟩ => by simp only [List.eraseIdx_cons_succ]; exact ⟨h, TupsL.erase h'⟩
  | [], _ :: _, _, h => h.elim
  | _ :: _, [], _, h => h.elim
theorem TupsL.snoc {σ : St} : ∀ {as : List Addr} {ps : List (Int × Int)} {a : Addr} {q : Int × Int}, TupsL σ as ps → σ a = some (.tup [.int q.1, .int q.2]) → TupsL σ (as ++ [a]) (ps ++ [q])
  | [], [], _, _, _, h => ⟨h, trivial⟩
  | _ :: _, _ :: _, _, _, ⟨h, h'⟩, g => ⟨h, TupsL.snoc h' g⟩
  | [], _ :: _, _, _, h, _ => h.elim
  | _ :: _, [], _, _, h, _ => h.elim
def NoTup (σ : St) (N : List Addr) : Prop := ∀ m ∈ N, ∀ xs, σ m ≠ some (.tup xs)
theorem NoTup.nil {σ : St} : NoTup σ [] := fun _ h => by cases h
theorem TupsL.keep {σ σ' : St} {N : List Addr} (f : Fr N σ σ') (hN : NoTup σ N) : ∀ {as : List Addr} {ps : List (Int × Int)}, TupsL σ as ps → TupsL σ' as ps
  | [], [], _ => trivial
  | _ :: _, _ :: _, ⟨h, h'⟩ => ⟨f.keep _ _ h fun q => hN _ q _ h, TupsL.keep f hN h'⟩
  | [], _ :: _, h => h.elim
  | _ :: _, [], h => h.elim
theorem Tups.keep {σ σ' : St} {N : List Addr} {l : Addr} {ps : List (Int × Int)} (h : Tups σ l ps) (f : Fr N σ σ') (hN : NoTup σ N) (hl : l ∉ N) : Tups σ' l ps := by
  obtain ⟨as, h1, h2⟩ := h
  exact ⟨as, f.keep _ _ h1 hl, h2.keep f hN⟩
/-- the list itself changes -/
theorem Tups.put {σ : St} {l : Addr} {as : List Addr} {ps qs : List (Int × Int)} {bs : List Addr} (h1 : σ l = some (.list (as.map .ref))) (h2 : TupsL σ bs qs) : Tups (upd σ l (.list (bs.map .ref))) l qs :=
  ⟨bs, upd_self _ _ _, h2.keep (N := [l]) (Fr.upd (by simp)) fun m hm xs e => by simp at hm; subst hm; rw [h1] at e; cases e⟩
theorem Tups.len {σ : St} {l : Addr} {ps : List (Int × Int)} (h : Tups σ l ps) : ∃ as : List Addr, σ l = some (.list (as.map .ref)) ∧ as.length = ps.length := let ⟨as, a, b⟩ := h; ⟨as, a, b.len⟩
/-- the best of all: the first of the greatest -/
noncomputable def bestGo (ps : List (Int × Int)) : List Nat → Nat → Nat
  | [], b => b
  | k :: ks, b => bestGo ps ks (if (ps.getD b (0, 0)).1 < (ps.getD k (0, 0)).1 then k else b)
noncomputable def bestIx (ps : List (Int × Int)) : Nat := bestGo ps ((List.range (ps.length - 1)).map (· + 1)) 0
theorem bestGo_lt (ps : List (Int × Int)) : ∀ (ks : List Nat) (b : Nat), b < ps.length → (∀ k ∈ ks, k < ps.length) → bestGo ps ks b < ps.length
  | [], b, h, _ => h
  | k :: ks, b, h, hk => by
    unfold bestGo
    refine bestGo_lt ps ks _ ?_ fun x hx => hk x (List.mem_cons_of_mem _ hx)
    split
    · exact hk k List.mem_cons_self
    · exact h
theorem bestIx_lt {ps : List (Int × Int)} (h : ps ≠ []) : bestIx ps < ps.length := by
  have : 0 < ps.length := List.length_pos_iff.mpr h
  refine bestGo_lt ps _ 0 this fun k hk => ?_
  obtain ⟨j, hj, rfl⟩ := List.mem_map.mp hk
  have := List.mem_range.mp hj
  lia
theorem getV_tup {X : Cx} {σ : St} {a : Addr} {p q : Int} (h : σ a = some (.tup [.int p, .int q])) : getV X σ (.ref a) (.int 0) = some (.int p) ∧ getV X σ (.ref a) (.int 1) = some (.int q) := by
  unfold getV
  simp only [rd_own h]
  exact ⟨by rw [show (0 : Int) = ((0 : Nat) : Int) from rfl, getIdx_nat (by decide)]; rfl, by rw [show (1 : Int) = ((1 : Nat) : Int) from rfl, getIdx_nat (by decide)]; rfl⟩
section
variable {X : Cx} {r : Nat} {c : Cw}
theorem tups_at {σ : St} {l : Addr} {as : List Addr} {ps : List (Int × Int)} (h1 : σ l = some (.list (as.map .ref))) (h2 : TupsL σ as ps) {k : Nat} (hk : k < ps.length) (hs : ps.length < 1000) : ∃ a, as[k]? = some a ∧ getV X σ (.ref l) (.int k) = some (.ref a) ∧ getV X σ (.ref a) (.int 0) = some (.int (ps.getD k (0, 0)).1) ∧ getV X σ (.ref a) (.int 1) = some (.int (ps.getD k (0, 0)).2) := by
  obtain ⟨a, e1, e2⟩ := h2.get (List.getElem?_eq_getElem hk)
  have e3 : ps.getD k (0, 0) = ps[k] := by rw [List.getD_eq_getElem?_getD, List.getElem?_eq_getElem hk]; rfl
  rw [e3]
  obtain ⟨g1, g2⟩ := getV_tup (X := X) e2
  exact ⟨a, e1, get_nat h1 (by lia) (by rw [List.getElem?_map, e1]; rfl), g1, g2⟩
inductive T356 : TC
  | mk {σ Q} {l : Addr} {as : List Addr} {ps : List (Int × Int)} (h1 : σ l = some (.list (as.map .ref))) (h2 : TupsL σ as ps) (h3 : ps ≠ []) (h4 : ps.length ≤ 10)
    (h : ∀ σ' : St, Fr [l] σ σ' → Tups σ' l (ps.eraseIdx (bestIx ps)) → Q (.int (ps.getD (bestIx ps) (0, 0)).2) σ') : T356 [.ref l] σ Q
inductive I356 (σ : St) (ps : List (Int × Int)) (ks : List Nat) (b : Nat) (σ' : St) : Prop
  | mk (e : σ' = σ) (hb : b < ps.length) (hk : ∀ k ∈ ks, k < ps.length) (he : bestGo ps ks b = bestIx ps)
theorem c_356 (h6 : 6 ≤ r) : SC X (r + 3) (.ref 356) T356 := D_356.run (hyN h6) fun vs σ Q h => by
  induction h with | @mk σ Q l as ps h1 h2 h3 h4 hq =>
  refine prI rfl ?_
  have hl := h2.len
  have hlt := bestIx_lt h3
  have hlen : lenV X [.ref l] σ = some (.int ps.length) := by rw [len_of h1 (by simp; lia), List.length_map, hl]
  simp! only [hlen]
  refine r2 (mU fun a s _ q2 _ hs => ?_)
  have f0 : Fr [] σ s := hs ▸ Fr.new q2
  have ha : s a = some (.range 1 ps.length) := hs ▸ upd_self _ _ _
  have h1' := f0.keep _ _ h1 (by simp)
  have h2' := h2.keep f0 NoTup.nil
  have e1 : (1 : Int) + ((ps.length - 1 : Nat) : Int) = ps.length := by lia
  refine fM (src := .range 1 (ps.length - 1)) (xs := (List.range (ps.length - 1)).map fun i : Nat => V.int (1 + (i : Nat))) (fun k : Nat => V.int k) (fun b : Nat => [(115, .ref l), (84, .int b)]) (I356 s ps) ((List.range (ps.length - 1)).map (· + 1)) 0 ⟨by rw [rd_own ha, e1], by decide, by lia⟩ ?_ rfl
    (.mk rfl (by lia) (fun k hk => ?_) rfl) (fun _ _ _ _ => rfl) (fun k ks b σ' h => ?_) fun b σ' h => ?_
  · rw [List.map_map]; apply List.map_congr_left; intro k _; simp only [Function.comp]; congr 1; lia
  · obtain ⟨j, hj, rfl⟩ := List.mem_map.mp hk
    have := List.mem_range.mp hj
    lia
  · induction h with | mk e hb hks he =>
    subst e
    unfold bestGo at he
    obtain ⟨x, -, x1, x2, -⟩ := tups_at (X := X) h1' h2' (hks k List.mem_cons_self) (by lia)
    obtain ⟨z, -, z1, z2, -⟩ := tups_at (X := X) h1' h2' hb (by lia)
    have hks' : ∀ k ∈ ks, k < ps.length := fun x hx => hks x (List.mem_cons_of_mem _ hx)
    simp! only [x1, x2, z1, z2]
    refine iC (fun q => ?_) fun q => ?_
    · rw [if_pos q] at he
      simp! only []
      exact jM ks k (by repeat first | exact Sub.nil _ | refine Sub.cons rfl ?_) (.mk rfl (hks k List.mem_cons_self) hks' he)
    · rw [if_neg q] at he
      simp! only []
      exact jM ks b (by repeat first | exact Sub.nil _ | refine Sub.cons rfl ?_) (.mk rfl hb hks' he)
  · induction h with | mk e hb hks he =>
    subst e
    have hb' : b = bestIx ps := he
    obtain ⟨z, z0, z1, z2, z3⟩ := tups_at (X := X) h1' h2' hb (by lia)
    have e2 : (as.map V.ref).eraseIdx b = (as.eraseIdx b).map .ref := by
      apply List.ext_getElem?; intro i; simp only [List.getElem?_eraseIdx, List.getElem?_map]; split <;> rfl
    have t := Tups.put (ps := ps) h1' (h2'.erase (i := b))
    obtain ⟨y, hy1, hy2⟩ := h2'.get (List.getElem?_eq_getElem hb)
    rw [z0] at hy1; cases hy1
    have hzl : z ≠ l := fun q => by rw [q, h1'] at hy2; cases hy2
    obtain ⟨-, g2⟩ := getV_tup (X := X) ((upd_ne (o := .list ((as.eraseIdx b).map .ref)) hzl).trans hy2)
    have e3 : ps.getD (bestIx ps) (0, 0) = ps[b] := by rw [← hb', List.getD_eq_getElem?_getD, List.getElem?_eq_getElem hb]; rfl
    rw [← e3] at g2
    rw [hb', ← hb'] at t
    rw [← e2] at g2 t
    simp! only []
    refine aS h1' ?_
    simp! only []
    refine ⟨_, b, _, h1', rfl, by rw [List.getElem?_map, z0]; rfl, by simp; lia, ?_⟩
    simp! only [g2]
    exact hq _ (f0.nil.trans (Fr.upd (by simp))) (by rw [← hb']; exact t)
end
/-! NX -/
/-! the picker -/
structure Pk where
  p : Addr
  dp : Addr
  l : Addr
  rd : Addr
  lo : Addr
  ply : Nat
  stage : Nat
  left : List Int
  losing : List (Int × Int)
noncomputable def Pk.own (K : Pk) : List Addr := [K.dp, K.l, K.rd, K.lo]
noncomputable def pkD (c : Cw) (K : Pk) : List (Nat × V) := [(40, .ref c.game), (97, .ref K.l), (96, .int 0), (42, .ref c.kil), (43, .ref c.his), (11, .int K.ply), (99, .int K.stage), (100, .ref K.rd), (101, .ref K.lo)]
structure PkOk (c : Cw) (K : Pk) (σ : St) : Prop where
  inst : σ K.p = some (.inst 345 K.dp)
  dict : σ K.dp = some (.sdict (pkD c K))
  left : σ K.l = some (.list (K.left.map .int))
  losing : K.stage ≤ 4 → Tups σ K.lo K.losing
  rdl : ∃ xs, σ K.rd = some (.list xs)
  lol : ∃ xs, σ K.lo = some (.list xs)
  sep : ∀ m ∈ K.p :: K.own, m ∉ c.M ∧ c.F m = none
  d1 : K.l ≠ K.rd
  d2 : K.l ≠ K.lo
  d3 : K.stage ≤ 4 → K.rd ≠ K.lo
section
variable {X : Cx} {c : Cw} {K : Pk} {d : Dt} {σ σ' : St}
theorem PkOk.notup (P : PkOk c K σ) : NoTup σ K.own := by
  obtain ⟨x, hx⟩ := P.rdl
  obtain ⟨y, hy⟩ := P.lol
  intro m hm xs e
  unfold Pk.own at hm
  simp only [List.mem_cons, List.not_mem_nil, or_false] at hm
  rcases hm with rfl | rfl | rfl | rfl
  · rw [P.dict] at e; cases e
  · rw [P.left] at e; cases e
  · rw [hx] at e; cases e
  · rw [hy] at e; cases e
theorem PkOk.p_own (P : PkOk c K σ) : K.p ∉ K.own := by
  obtain ⟨x, hx⟩ := P.rdl
  obtain ⟨y, hy⟩ := P.lol
  intro hm
  have e := P.inst
  unfold Pk.own at hm
  simp only [List.mem_cons, List.not_mem_nil, or_false] at hm
  rcases hm with q | q | q | q <;> rw [q] at e
  · rw [P.dict] at e; cases e
  · rw [P.left] at e; cases e
  · rw [hx] at e; cases e
  · rw [hy] at e; cases e
theorem PkOk.keep {N : List Addr} (P : PkOk c K σ) (f : Fr N σ σ') (hN : ∀ m ∈ N, m ∉ K.p :: K.own) (hT : NoTup σ N) : PkOk c K σ' := by
  have k : ∀ m ∈ K.p :: K.own, m ∉ N := fun m hm hn => hN m hn hm
  obtain ⟨x, hx⟩ := P.rdl
  obtain ⟨y, hy⟩ := P.lol
  exact ⟨f.keep _ _ P.inst (k _ (by simp)), f.keep _ _ P.dict (k _ (by simp [Pk.own])), f.keep _ _ P.left (k _ (by simp [Pk.own])), fun h => (P.losing h).keep f hT (k _ (by simp [Pk.own])), ⟨x, f.keep _ _ hx (k _ (by simp [Pk.own]))⟩, ⟨y, f.keep _ _ hy (k _ (by simp [Pk.own]))⟩, P.sep, P.d1, P.d2, P.d3⟩
theorem PkOk.keep0 (P : PkOk c K σ) (f : Fr [] σ σ') : PkOk c K σ' := P.keep f (fun _ h => by cases h) NoTup.nil
theorem PkOk.ats (P : PkOk c K σ) {n : Nat} {v : V} (h : (pkD c K).lookup n = some v) : attrV X σ (.ref K.p) n = some v := attr_in P.inst P.dict (by show ∀ k ∈ ([40, 97, 96, 42, 43, 11, 99, 100, 101] : List Nat), (345, k) ∈ attrT; decide) h
theorem PkOk.set (P : PkOk c K σ) {n : Nat} {v : V} (hm : (345, n) ∈ attrT) : setAttrV X σ (.ref K.p) n v = some (upd σ K.dp (.sdict (putS n v (pkD c K)))) := setattr_of P.inst P.dict hm (show 9 < 900 by decide)
theorem PkOk.meth (P : PkOk c K σ) {n : Nat} (h : [40, 97, 96, 42, 43, 11, 99, 100, 101].contains n = false) : MethB X 345 n (.ref K.p) σ := by
  refine meth_of P.inst P.dict ?_
  simp only [List.contains_cons, Bool.or_eq_false_iff] at h
  simp only [pkD, List.lookup, h]
/-- fields of the picker are set anew -/
theorem PkOk.put (P : PkOk c K σ) (K' : Pk) (hp : K'.p = K.p) (hd : K'.dp = K.dp) (hl : ∃ xs, σ K'.l = some (.list xs) ∧ xs = K'.left.map .int) (hr : ∃ xs, σ K'.rd = some (.list xs)) (ho : K'.lo = K.lo) (hlo : K'.stage ≤ 4 → K.stage ≤ 4 ∧ K'.losing = K.losing)
    (hsep : ∀ m ∈ K'.own, m ∉ c.M ∧ c.F m = none) (h1 : K'.l ≠ K'.rd) (h2 : K'.l ≠ K'.lo) (h3 : K'.stage ≤ 4 → K'.rd ≠ K'.lo) : PkOk c K' (upd σ K.dp (.sdict (pkD c K'))) := by
  obtain ⟨x, hx, rfl⟩ := hl
  obtain ⟨y, hy⟩ := hr
  obtain ⟨z, hz⟩ := P.lol
  have ne : ∀ {a : Addr} {xs : List V}, σ a = some (.list xs) → a ≠ K.dp := fun e q => by rw [q, P.dict] at e; cases e
  have sp : ∀ m ∈ K'.p :: K'.own, m ∉ c.M ∧ c.F m = none := fun m hm => by
    rcases List.mem_cons.mp hm with rfl | hm
    · rw [hp]; exact P.sep _ (by simp)
    · exact hsep m hm
  refine ⟨?_, ?_, (upd_ne (ne hx)).trans hx, fun h => ?_, ⟨y, (upd_ne (ne hy)).trans hy⟩, ⟨z, ?_⟩, sp, h1, h2, h3⟩
  · rw [hp, hd]; exact (upd_ne fun q => by have := P.inst; rw [q, P.dict] at this; cases this).trans P.inst
  · rw [hd]; exact upd_self _ _ _
  · obtain ⟨q1, q2⟩ := hlo h
    rw [q2, ho]
    exact (P.losing q1).keep (N := [K.dp]) (Fr.upd (by simp)) (fun m hm xs e => by simp at hm; subst hm; rw [P.dict] at e; cases e) (by simp only [List.mem_singleton]; exact ne hz)
  · rw [ho]; exact (upd_ne (ne hz)).trans hz
/-- the code's own world stands when the picker changes -/
theorem GoodC.pk {N : List Addr} (G : GoodC c d σ) (f : Fr N σ σ') (P : PkOk c K σ) (hN : ∀ m ∈ N, m ∈ K.own) (hls : ∀ m ∈ K.own, m ∉ d.ls) : GoodC c d σ' :=
  G.keep f fun m hm => let ⟨a, b⟩ := P.sep m (List.mem_cons_of_mem _ (hN m hm)); ⟨fun h => a (mc_m h), b, hls m (hN m hm)⟩
theorem GoodC.notup (G : GoodC c d σ) : NoTup σ c.MC := by
  intro m hm xs e
  obtain ⟨es, h1, -⟩ := G.scores
  unfold Cw.MC at hm
  simp only [List.mem_cons, List.not_mem_nil, or_false] at hm
  rcases hm with rfl | rfl | rfl | rfl | rfl | rfl
  · rw [G.path] at e; cases e
  · rw [G.dctx] at e; cases e
  · rw [G.lines] at e; cases e
  · rw [G.first] at e; cases e
  · rw [G.second] at e; cases e
  · rw [h1] at e; cases e
/-- the picker stands when the code's own world changes -/
theorem PkOk.mc (P : PkOk c K σ) (G : GoodC c d σ) (f : Fr c.MC σ σ') : PkOk c K σ' := P.keep f (fun m hm h => (P.sep m h).1 (mc_m hm)) G.notup
end
/-! the stages' lists -/
noncomputable def Row.ld (w : Row) (m : Int) : Bool := w.loud.getD (m - 1).toNat false
noncomputable def Row.gn' (w : Row) (m : Int) : Int := w.gain.getD (m - 1).toNat 0
noncomputable def goodL (w : Row) : List Int → List (Int × Int)
  | [] => []
  | m :: ms => if w.ld m = true ∧ 0 ≤ w.gn' m then (w.gn' m, m) :: goodL w ms else goodL w ms
noncomputable def loseL (w : Row) : List Int → List (Int × Int)
  | [] => []
  | m :: ms => if w.ld m = true ∧ ¬ 0 ≤ w.gn' m then (w.gn' m, m) :: loseL w ms else loseL w ms
noncomputable def calmL (w : Row) : List Int → List Int
  | [] => []
  | m :: ms => if w.ld m = true then calmL w ms else m :: calmL w ms
noncomputable def killL : List Int → List Int → List (Int × Int) × List Int
  | [], left => ([], left)
  | m :: ms, left => if m ∈ left then ((0, m) :: (killL ms (left.erase m)).1, (killL ms (left.erase m)).2) else killL ms left
noncomputable def pastL (s : LS) (side : Int) (left : List Int) : List (Int × Int) := left.map fun m => (s.past side m, m)
/-- what fill gives: the ready, the left, the losing -/
noncomputable def fillM (w : Row) (s : LS) (ply stage : Nat) (left : List Int) (losing : List (Int × Int)) : List (Int × Int) × List Int × List (Int × Int) :=
  match stage with
  | 0 => ([], left, losing)
  | 1 => (goodL w left, calmL w left, losing ++ loseL w left)
  | 2 => ((killL [s.k1.getD ply 0, s.k2.getD ply 0] left).1, (killL [s.k1.getD ply 0, s.k2.getD ply 0] left).2, losing)
  | 3 => (pastL s ((ply % 2 : Nat) : Int) left, left, losing)
  | _ => (losing, left, losing)
theorem ints_of (ns : List Int) : intsV (ns.map .int) = some ns := by
  induction ns with
  | nil => rfl
  | cons n ns ih => simp only [List.map_cons, intsV, ih, Option.map_some]
theorem in_of {X : Cx} {σ : St} {l : Addr} {ns : List Int} (h : σ l = some (.list (ns.map .int))) (i : Int) : inL X σ (.int i) (.ref l) = some (ns.contains i) := by
  unfold inL
  simp only [rd_own h, ints_of, Option.map_some]
theorem nin_of {X : Cx} {σ : St} {l : Addr} {ns : List Int} (h : σ l = some (.list (ns.map .int))) (i : Int) : (inL X σ (.int i) (.ref l)).map (!·) = some (!ns.contains i) := by rw [in_of h]; rfl
/-- what fill is asked -/
structure Ask (c : Cw) (K : Pk) (d : Dt) (p : List Nat) (n : Nat) (w : Row) (σ : St) : Prop where
  ok : c.Ok
  G : GoodC c d σ
  A : At c d p n w
  P : PkOk c K σ
  ply : K.ply = p.length
  ls : ∀ m ∈ K.own, m ∉ d.ls
  pos : ∀ m ∈ K.left, 1 ≤ m ∧ m ≤ w.kids.length
  few : K.left.length ≤ 3
  pl : p.length < 10
  lf : K.losing.length ≤ 3
/-- what fill gives: a list of its own, the picker's left and losing changed -/
def Fill (c : Cw) (K : Pk) (σ : St) (o : List (Int × Int) × List Int × List (Int × Int)) (Q : V → St → Prop) : Prop :=
  ∀ (a l' : Addr) (σ' : St), Fr K.own σ σ' → (σ a = none ∨ (K.stage = 4 ∧ a = K.lo)) → (σ l' = none ∨ l' = K.l) → PkOk c { K with l := l', left := o.2.1, losing := o.2.2 } σ' → Tups σ' a o.1 → a ≠ l' → Q (.ref a) σ'
section
variable {X : Cx} {r : Nat} {c : Cw}
theorem zero_out {K : Pk} {d : Dt} {p : List Nat} {n : Nat} {w : Row} {σ : St} (a : Ask c K d p n w σ) : K.left.contains 0 = false := by
  rw [Bool.eq_false_iff]
  intro h
  have := a.pos 0 (by simpa using h)
  omega
inductive T328 (c : Cw) : TC
  | mk {σ Q} {K : Pk} {d p n w} (a : Ask c K d p n w σ) (hs : K.stage = 0) (h : Fill c K σ ([], K.left, K.losing) Q) : T328 c [.ref K.p] σ Q
theorem c_328 (h6 : 6 ≤ r) : SC X (r + 3) (.ref 328) (T328 c) := D_328.run (hyN h6) fun vs σ Q h => by
  induction h with | @mk σ Q K d p n w a hs hq =>
  refine prI rfl ?_
  simp! only [a.P.ats rfl, nin_of a.P.left 0]
  refine nT (zero_out a) ?_
  simp! only []
  refine lU rfl fun b s _ r2 _ hs => ?_
  have f : Fr [] σ s := hs ▸ Fr.new r2
  simp! only []
  exact hq b K.l _ f.nil (.inl r2) (.inr rfl) (a.P.keep0 f) ⟨[], hs ▸ upd_self _ _ _, trivial⟩ fun q => ne_of r2 a.P.left q.symm
end
/-! NY -/
theorem Tups.snoc {σ : St} {l b : Addr} {g : List (Int × Int)} {i j : Int} (h : Tups σ l g) (hb : σ b = none) : ∃ xs : List V, (upd σ b (.tup [.int i, .int j])) l = some (.list xs) ∧ xs.length = g.length ∧ Tups (upd (upd σ b (.tup [.int i, .int j])) l (.list (xs ++ [.ref b]))) l (g ++ [(i, j)]) := by
  obtain ⟨as, h1, h2⟩ := h
  have h1' : (upd σ b (.tup [.int i, .int j])) l = some (.list (as.map .ref)) := (upd_ne (ne_of hb h1)).trans h1
  refine ⟨as.map .ref, h1', by simp [h2.len], ?_⟩
  have e : as.map V.ref ++ [V.ref b] = (as ++ [b]).map .ref := by simp
  rw [e]
  exact Tups.put (ps := g) h1' ((h2.keep (N := []) (Fr.new hb) NoTup.nil).snoc (upd_self _ _ _))
theorem own_left (K : Pk) (ns : List Int) : ({ K with left := ns } : Pk).own = K.own := rfl
section
variable {X : Cx} {r : Nat} {c : Cw}
theorem PkOk.set_left {K : Pk} {σ : St} (P : PkOk c K σ) (ns : List Int) : PkOk c { K with left := ns } (upd σ K.l (.list (ns.map .int))) := by
  obtain ⟨x, hx⟩ := P.rdl
  obtain ⟨y, hy⟩ := P.lol
  have hp : K.p ≠ K.l := fun q => by have := P.inst; rw [q, P.left] at this; cases this
  have hd : K.dp ≠ K.l := fun q => by have := P.dict; rw [q, P.left] at this; cases this
  exact ⟨(upd_ne hp).trans P.inst, (upd_ne hd).trans P.dict, upd_self _ _ _, fun h => (P.losing h).keep (N := [K.l]) (Fr.upd (by simp)) (fun m hm xs e => by simp at hm; subst hm; rw [P.left] at e; cases e) (by simpa using P.d2.symm),
    ⟨x, (upd_ne P.d1.symm).trans hx⟩, ⟨y, (upd_ne P.d2.symm).trans hy⟩, P.sep, P.d1, P.d2, P.d3⟩
theorem PkOk.new_out {K : Pk} {σ : St} (P : PkOk c K σ) {a : Addr} (h : σ a = none) : a ∉ K.p :: K.own := by
  obtain ⟨x, hx⟩ := P.rdl
  obtain ⟨y, hy⟩ := P.lol
  intro hm
  unfold Pk.own at hm
  simp only [List.mem_cons, List.not_mem_nil, or_false] at hm
  rcases hm with rfl | rfl | rfl | rfl | rfl
  · rw [P.inst] at h; cases h
  · rw [P.dict] at h; cases h
  · rw [P.left] at h; cases h
  · rw [hx] at h; cases h
  · rw [hy] at h; cases h
inductive T342 (c : Cw) : TC
  | mk {σ Q} {K : Pk} {d p n w} (a : Ask c K d p n w σ) (hs : K.stage = 2) (h : Fill c K σ (fillM w d.s p.length 2 K.left K.losing) Q) : T342 c [.ref K.p] σ Q
inductive I342 (c : Cw) (K : Pk) (σ : St) (t fa : Addr) (k1 k2 : Int) (ns left : List Int) (g : List (Int × Int)) (σ' : St) : Prop
  | mk (ht : σ' t = some (.tup [.int k1, .int k2])) (f : Fr [K.l] σ σ') (P : PkOk c { K with left := left } σ') (hT : Tups σ' fa g) (few : left.length ≤ 3) (len : g.length + ns.length ≤ 2)
    (e1 : g ++ (killL ns left).1 = (killL [k1, k2] K.left).1) (e2 : (killL ns left).2 = (killL [k1, k2] K.left).2)
theorem c_342 (h6 : 6 ≤ r) (c_288 : SC X r (.ref 288) (T288 c)) : SC X (r + 3) (.ref 342) (T342 c) := by
  refine wG1 [(288, _)] (hyC c_288 (hyN h6)) (fun Γ H (e288 : Γ 288 = T288 c) => ?_) rfl
  refine D_342.run H fun vs σ Q h => ?_
  induction h with | @mk σ Q K d p n w a hs hq =>
  refine prI rfl ?_
  obtain ⟨ok, G, A, P, ply, ls, pos, few, pl⟩ := a
  have hls : K.l ∈ K.own := by simp [Pk.own]
  simp! only []
  refine lU rfl fun fa s _ r2 _ hs => ?_
  have f0 : Fr [] σ s := hs ▸ Fr.new r2
  have hT0 : Tups s fa [] := ⟨[], hs ▸ upd_self _ _ _, trivial⟩
  have P0 := P.keep0 f0
  have G0 := G.keep0 f0
  have fao := P.new_out r2
  simp! only [P0.ats rfl]
  refine cS e288 ⟨G0, by lia, fun t σ₁ f1 t0 t1 => ?_⟩
  rw [ply] at t1
  refine fM (src := .tup t) V.int (fun _ => [(31, .ref K.p), (114, .ref fa)]) (fun ns st => I342 c K σ t fa (d.s.k1.getD p.length 0) (d.s.k2.getD p.length 0) ns st.1 st.2) [_, _] (K.left, []) rfl rfl rfl
    (.mk t1 (f0.trans f1).nil (P0.keep0 f1) (hT0.keep f1 NoTup.nil (by simp)) few (by simp) rfl rfl) (fun _ _ σ' h => ?_) (fun m ns st σ' h => ?_) fun st σ' h => ?_
  · induction h with | mk q _ _ _ _ _ _ _ => exact rd_own q
  · obtain ⟨left, g⟩ := st
    dsimp only at h
    cases h with | mk ht f P' hT hfew hlen he1 he2 =>
    simp only [List.length_cons] at hlen
    simp! only [P'.ats rfl, in_of P'.left m]
    cases q : left.contains m with
    | true =>
      have q' : m ∈ left := by simpa using q
      unfold killL at he1 he2
      rw [if_pos q'] at he1 he2
      refine tT ?_
      simp! only [P'.ats rfl]
      refine aS P'.left ?_
      simp! only []
      refine ⟨left, m, P'.left, rfl, q', Nat.lt_of_le_of_lt hfew (by decide), ?_⟩
      have P2 := P'.set_left (left.erase m)
      have fl : Fr [K.l] σ' (upd σ' K.l (.list ((left.erase m).map .int))) := Fr.upd (by simp)
      have f2 := f.trans fl
      have tne : t ≠ K.l := fun q => by rw [q, P'.left] at ht; cases ht
      have hT2 := hT.keep fl (fun b hb xs e => by simp at hb; subst hb; rw [P'.left] at e; cases e) (fun h => fao (List.mem_cons_of_mem _ (by rw [List.mem_singleton] at h; rw [h]; exact hls)))
      have ht2 := (upd_ne (o := .list ((left.erase m).map .int)) tne).trans ht
      generalize upd σ' K.l (.list ((left.erase m).map .int)) = s2 at P2 f2 hT2 ht2
      obtain ⟨as, ha1, ha2⟩ := hT2
      simp! only []
      refine aS ha1 ?_
      simp! only []
      refine tU rfl fun b s3 _ q2 _ hs3 => ?_
      obtain ⟨xs, h1, h2, h3⟩ := (show Tups s2 fa g from ⟨as, ha1, ha2⟩).snoc (i := 0) (j := m) q2
      have fb : Fr [] s2 s3 := hs3 ▸ Fr.new q2
      rw [← hs3] at h1 h3
      have P3 := P2.keep0 fb
      refine aT h1 (by lia) ?_
      have fa3 : Fr [fa] s3 (upd s3 fa (.list (xs ++ [.ref b]))) := Fr.upd (by simp)
      have nfa : ∀ m ∈ [fa], m ∉ K.p :: K.own := fun m hm => by rw [List.mem_singleton] at hm; rw [hm]; exact fao
      have P4 := P3.keep fa3 nfa (fun b hb ys e => by rw [List.mem_singleton] at hb; rw [hb, h1] at e; cases e)
      simp! only []
      refine jM ns (left.erase m, g ++ [(0, m)]) (by repeat first | exact Sub.nil _ | refine Sub.cons rfl ?_) (.mk ?_ ?_ P4 h3 ?_ ?_ ?_ he2)
      · have tfa : t ≠ fa := fun q => by obtain ⟨as', g1, -⟩ := hT; rw [q, g1] at ht; cases ht
        exact (upd_ne tfa).trans (fb.keep _ _ ht2 (by simp))
      · refine Fr.drop (N := [K.l, fa]) ((f2.sub (by simp)).trans (fb.nil.trans (fa3.sub (by simp)))) fun x hx => ?_
        simp only [List.mem_cons, List.not_mem_nil, or_false] at hx
        rcases hx with rfl | rfl
        · exact .inl (by simp)
        · exact .inr r2
      · have := List.length_erase_of_mem q'; dsimp only; lia
      · rw [List.length_append]; simp only [List.length_cons, List.length_nil]; lia
      · dsimp only; rw [List.append_assoc]; exact he1
    | false =>
      have q' : ¬ m ∈ left := by simpa using q
      unfold killL at he1 he2
      rw [if_neg q'] at he1 he2
      refine fF ?_
      simp! only []
      exact jM ns (left, g) (by repeat first | exact Sub.nil _ | refine Sub.cons rfl ?_) (.mk ht f P' hT hfew (show g.length + ns.length ≤ 2 by lia) he1 he2)
  · obtain ⟨left, g⟩ := st
    dsimp only at h
    cases h with | mk ht f P' hT hfew hlen he1 he2 =>
    simp only [killL, List.append_nil] at he1 he2
    subst he1 he2
    simp! only []
    exact hq fa K.l σ' (f.sub fun x hx => by rw [List.mem_singleton] at hx; rw [hx]; exact hls) (.inl r2) (.inr rfl) P' hT fun q => fao (by rw [q]; exact List.mem_cons_of_mem _ hls)
end
/-! NZ -/
section
variable {X : Cx} {r : Nat} {c : Cw}
theorem PkOk.app_losing {K : Pk} {σ : St} (P : PkOk c K σ) (hs : K.stage ≤ 4) {b : Addr} {i j : Int} (hb : σ b = none) : ∃ xs : List V, (upd σ b (.tup [.int i, .int j])) K.lo = some (.list xs) ∧ xs.length = K.losing.length ∧ PkOk c { K with losing := K.losing ++ [(i, j)] } (upd (upd σ b (.tup [.int i, .int j])) K.lo (.list (xs ++ [.ref b]))) := by
  obtain ⟨xs, h1, h2, h3⟩ := (P.losing hs).snoc (i := i) (j := j) hb
  have P1 := P.keep0 (Fr.new (o := .tup [.int i, .int j]) hb)
  obtain ⟨x, hx⟩ := P1.rdl
  have hp : K.p ≠ K.lo := fun q => by have := P1.inst; rw [q, h1] at this; cases this
  have hd : K.dp ≠ K.lo := fun q => by have := P1.dict; rw [q, h1] at this; cases this
  exact ⟨xs, h1, h2, (upd_ne hp).trans P1.inst, (upd_ne hd).trans P1.dict, (upd_ne P.d2).trans P1.left, fun _ => h3, ⟨x, (upd_ne (P.d3 hs)).trans hx⟩, ⟨_, upd_self _ _ _⟩, P.sep, P.d1, P.d2, P.d3⟩
theorem GoodC.not_ls {d : Dt} {σ : St} (G : GoodC c d σ) {a : Addr} (h : σ a = none) : a ∉ d.ls := fun hm => by
  obtain ⟨i, hi⟩ := List.mem_iff_getElem?.mp hm
  obtain ⟨_, xs, e, _⟩ := G.inner i a hi
  rw [h] at e; cases e
theorem calmL_mem {w : Row} : ∀ {ms : List Int} {x : Int}, x ∈ calmL w ms → x ∈ ms
  | [], _, h => h
  | m :: ms, x, h => by
    unfold calmL at h
    split at h
    · exact List.mem_cons_of_mem _ (calmL_mem h)
    · rcases List.mem_cons.mp h with rfl | h
      · exact List.mem_cons_self
      · exact List.mem_cons_of_mem _ (calmL_mem h)
inductive T335 (c : Cw) : TC
  | mk {σ Q} {K : Pk} {d p n w} (a : Ask c K d p n w σ) (hs : K.stage = 1) (h : Fill c K σ (fillM w d.s p.length 1 K.left K.losing) Q) : T335 c [.ref K.p] σ Q
inductive I335 (c : Cw) (K : Pk) (σ : St) (w : Row) (ga qa : Addr) (ns q : List Int) (g lo : List (Int × Int)) (σ' : St) : Prop
  | mk (hin : ∀ x ∈ ns, x ∈ K.left) (f : Fr [K.lo] σ σ') (P : PkOk c { K with losing := lo } σ') (hT : Tups σ' ga g) (hQ : σ' qa = some (.list (q.map .int))) (s1 : g.length + ns.length ≤ 3) (s2 : q.length + ns.length ≤ 3) (s3 : lo.length + ns.length ≤ 6)
    (e1 : g ++ goodL w ns = goodL w K.left) (e2 : q ++ calmL w ns = calmL w K.left) (e3 : lo ++ loseL w ns = K.losing ++ loseL w K.left)
theorem c_335 (h6 : 6 ≤ r) (c_480 : SC X r (.ref 480) (T480 c)) (c_487 : SC X r (.ref 487) (T487 c)) : SC X (r + 3) (.ref 335) (T335 c) := by
  refine wG2 [(480, _), (487, _)] (hyC c_480 (hyC c_487 (hyN h6))) (fun Γ H (e480 : Γ 480 = T480 c) (e487 : Γ 487 = T487 c) => ?_) rfl rfl
  refine D_335.run H fun vs σ Q h => ?_
  induction h with | @mk σ Q K d p n w a hs hq =>
  refine prI rfl ?_
  obtain ⟨ok, G, A, P, ply, ls, pos, few, pl, lf⟩ := a
  have hlo : K.lo ∈ K.own := by simp [Pk.own]
  have hs4 : K.stage ≤ 4 := by lia
  simp! only []
  refine lU rfl fun ga s0 _ r2 _ hs0 => ?_
  have f0 : Fr [] σ s0 := hs0 ▸ Fr.new r2
  have hga : s0 ga = some (.list []) := hs0 ▸ upd_self _ _ _
  have gao := P.new_out r2
  simp! only []
  refine lU rfl fun qa s1 _ q2 _ hs1 => ?_
  have f1 : Fr [] s0 s1 := hs1 ▸ Fr.new q2
  have f01 := f0.trans f1
  have hqa : s1 qa = some (.list []) := hs1 ▸ upd_self _ _ _
  have qa2 : σ qa = none := f0.none q2
  have qao := P.new_out qa2
  have hgq : ga ≠ qa := ne_of q2 hga
  have P1 := P.keep0 f01
  simp! only [P1.ats rfl]
  have nlo : ∀ {a : Addr}, a ∉ K.p :: K.own → a ≠ K.lo := fun h q => h (by rw [q]; exact List.mem_cons_of_mem _ hlo)
  refine fM (src := .list K.l) V.int (fun _ => [(31, .ref K.p), (110, .ref ga), (111, .ref qa)]) (fun ns (a : List Int × List (Int × Int) × List (Int × Int)) => I335 c K σ w ga qa ns a.1 a.2.1 a.2.2) K.left ([], [], K.losing) rfl rfl rfl
    (.mk (fun x h => h) f01.nil P1 ⟨[], f1.keep _ _ hga (by simp), trivial⟩ hqa (show 0 + K.left.length ≤ 3 by lia) (show 0 + K.left.length ≤ 3 by lia) (show K.losing.length + K.left.length ≤ 6 by lia) rfl rfl rfl) (fun _ _ σ' h => ?_) (fun m ns a σ' h => ?_) fun a σ' h => ?_
  · induction h with | mk _ _ P' _ _ _ _ _ _ _ _ => exact rd_own P'.left
  · obtain ⟨q, g, lo⟩ := a
    dsimp only at h
    cases h with | mk hin f P' hT hQ s1 s2 s3 he1 he2 he3 =>
    have hin' : ∀ x ∈ ns, x ∈ K.left := fun x h => hin x (List.mem_cons_of_mem _ h)
    obtain ⟨m1, m2⟩ := pos m (hin m List.mem_cons_self)
    have G' := G.pk f P (fun x hx => by rw [List.mem_singleton] at hx; rw [hx]; exact hlo) ls
    rw [List.length_cons] at s1 s2 s3
    simp! only [P'.ats rfl]
    refine mS (G'.m_game ok rfl) e480 ⟨G', A, m1, m2, ?_⟩
    rw [show goodL w (m :: ns) = if w.ld m = true ∧ 0 ≤ w.gn' m then (w.gn' m, m) :: goodL w ns else goodL w ns from rfl] at he1
    rw [show calmL w (m :: ns) = if w.ld m = true then calmL w ns else m :: calmL w ns from rfl] at he2
    rw [show loseL w (m :: ns) = if w.ld m = true ∧ ¬ 0 ≤ w.gn' m then (w.gn' m, m) :: loseL w ns else loseL w ns from rfl] at he3
    show _
    rw [show w.loud.getD (m - 1).toNat false = w.ld m from rfl]
    simp! only []
    cases hld : w.ld m with
    | false =>
      rw [if_neg (by rw [hld]; exact fun h => Bool.false_ne_true h.1)] at he1 he3
      rw [if_neg (by rw [hld]; exact Bool.false_ne_true)] at he2
      simp! only []
      refine aS hQ ?_
      simp! only []
      refine aT hQ (by rw [List.length_map]; lia) ?_
      have fq : Fr [qa] σ' (upd σ' qa (.list (q.map .int ++ [.int m]))) := Fr.upd (by simp)
      have nq : ∀ x ∈ [qa], x ∉ K.p :: K.own := fun x hx => by rw [List.mem_singleton] at hx; rw [hx]; exact qao
      have tq : NoTup σ' [qa] := fun b hb ys e => by rw [List.mem_singleton] at hb; rw [hb, hQ] at e; cases e
      have hq' : (upd σ' qa (.list (q.map .int ++ [.int m]))) qa = some (.list ((q ++ [m]).map .int)) := by rw [List.map_append]; exact upd_self _ _ _
      generalize upd σ' qa (.list (q.map V.int ++ [V.int m])) = s2 at fq hq'
      simp! only []
      refine jK ns (q ++ [m], g, lo) (by repeat first | exact Sub.nil _ | refine Sub.cons rfl ?_) (.mk hin' ?_ (P'.keep fq nq tq) (hT.keep fq tq (by simpa using hgq)) hq' (show g.length + ns.length ≤ 3 by lia) (by rw [List.length_append]; simp only [List.length_cons, List.length_nil]; lia) (show lo.length + ns.length ≤ 6 by lia) he1 (by dsimp only; rw [List.append_assoc]; exact he2) he3)
      refine Fr.drop (N := [K.lo, qa]) ((f.sub (by simp)).trans (fq.sub (by simp))) fun x hx => ?_
      simp only [List.mem_cons, List.not_mem_nil, or_false] at hx
      rcases hx with rfl | rfl
      · exact .inl (by simp)
      · exact .inr qa2
    | true =>
      rw [if_pos hld] at he2
      simp! only [P'.ats rfl]
      refine mS (G'.m_game ok rfl) e487 ⟨G', A, m1, m2, ?_⟩
      rw [show w.gain.getD (m - 1).toNat 0 = w.gn' m from rfl]
      simp! only []
      refine iC (fun hg => ?_) fun hg => ?_
      · rw [if_pos ⟨hld, hg⟩] at he1
        rw [if_neg fun h => h.2 hg] at he3
        obtain ⟨as, ha1, ha2⟩ := hT
        simp! only []
        refine aS ha1 ?_
        simp! only []
        refine tU rfl fun b s2 _ b2 _ hs2 => ?_
        obtain ⟨xs, h1, h2, h3⟩ := (show Tups σ' ga g from ⟨as, ha1, ha2⟩).snoc (i := w.gn' m) (j := m) b2
        have fb : Fr [] σ' s2 := hs2 ▸ Fr.new b2
        rw [← hs2] at h1 h3
        refine aT h1 (by lia) ?_
        have fq : Fr [ga] s2 (upd s2 ga (.list (xs ++ [.ref b]))) := Fr.upd (by simp)
        have nq : ∀ x ∈ [ga], x ∉ K.p :: K.own := fun x hx => by rw [List.mem_singleton] at hx; rw [hx]; exact gao
        have tq : NoTup s2 [ga] := fun b hb ys e => by rw [List.mem_singleton] at hb; rw [hb, h1] at e; cases e
        generalize upd s2 ga (.list (xs ++ [V.ref b])) = s3 at fq h3
        simp! only []
        refine jM ns (q, g ++ [(w.gn' m, m)], lo) (by repeat first | exact Sub.nil _ | refine Sub.cons rfl ?_) (.mk hin' ?_ ((P'.keep0 fb).keep fq nq tq) h3 (fq.keep _ _ (fb.keep _ _ hQ (by simp)) (by simpa using hgq.symm)) (by rw [List.length_append]; simp only [List.length_cons, List.length_nil]; lia) (show q.length + ns.length ≤ 3 by lia) (show lo.length + ns.length ≤ 6 by lia) (by dsimp only; rw [List.append_assoc]; exact he1) he2 he3)
        refine Fr.drop (N := [K.lo, ga]) ((f.sub (by simp)).trans (fb.nil.trans (fq.sub (by simp)))) fun x hx => ?_
        simp only [List.mem_cons, List.not_mem_nil, or_false] at hx
        rcases hx with rfl | rfl
        · exact .inl (by simp)
        · exact .inr r2
      · rw [if_neg fun h => hg h.2] at he1
        rw [if_pos ⟨hld, hg⟩] at he3
        obtain ⟨as, ha1, ha2⟩ := P'.losing hs4
        simp! only [P'.ats rfl]
        refine aS ha1 ?_
        simp! only []
        refine tU rfl fun b s2 _ b2 _ hs2 => ?_
        obtain ⟨xs, h1, h2, P2⟩ := P'.app_losing hs4 (i := w.gn' m) (j := m) b2
        have fb : Fr [] σ' s2 := hs2 ▸ Fr.new b2
        rw [← hs2] at h1 P2
        refine aT h1 (by rw [h2]; dsimp only; lia) ?_
        have fq : Fr [K.lo] s2 (upd s2 K.lo (.list (xs ++ [.ref b]))) := Fr.upd (by simp)
        have tq : NoTup s2 [K.lo] := fun b hb ys e => by rw [List.mem_singleton] at hb; rw [hb] at e; rw [show s2 K.lo = _ from h1] at e; cases e
        have P2 : PkOk c { K with losing := lo ++ [(w.gn' m, m)] } (upd s2 K.lo (.list (xs ++ [.ref b]))) := P2
        show go X Γ _ _ (upd s2 K.lo (.list (xs ++ [V.ref b]))) _
        generalize upd s2 K.lo (.list (xs ++ [V.ref b])) = s3 at fq P2
        simp! only []
        refine jM ns (q, g, lo ++ [(w.gn' m, m)]) (by repeat first | exact Sub.nil _ | refine Sub.cons rfl ?_) (.mk hin' (f.trans (fb.nil.trans fq)) P2 ((hT.keep fb NoTup.nil (by simp)).keep fq tq (by simpa using nlo gao)) (fq.keep _ _ (fb.keep _ _ hQ (by simp)) (by simpa using nlo qao)) (show g.length + ns.length ≤ 3 by lia) (show q.length + ns.length ≤ 3 by lia) (by rw [List.length_append]; simp only [List.length_cons, List.length_nil]; lia) he1 he2 (by dsimp only; rw [List.append_assoc]; exact he3))
  · obtain ⟨q, g, lo⟩ := a
    dsimp only at h
    cases h with | mk hin f P' hT hQ s1 s2 s3 he1 he2 he3 =>
    simp only [goodL, calmL, loseL, List.append_nil] at he1 he2 he3
    subst he1 he2 he3
    have qs : qa ∉ c.M ∧ c.F qa = none := ⟨G.not_m qa2, G.in_fix qa2⟩
    have hput := P'.put { K with l := qa, left := calmL w K.left, losing := K.losing ++ loseL w K.left } rfl rfl ⟨_, hQ, rfl⟩ P'.rdl rfl (fun h => ⟨h, rfl⟩)
      (fun x hx => by
        unfold Pk.own at hx
        simp only [List.mem_cons, List.not_mem_nil, or_false] at hx
        rcases hx with rfl | rfl | rfl | rfl
        · exact P.sep _ (by simp [Pk.own])
        · exact qs
        · exact P.sep _ (by simp [Pk.own])
        · exact P.sep _ (by simp [Pk.own]))
      (fun q => qao (by have q : qa = K.rd := q; rw [q]; simp [Pk.own])) (nlo qao) P.d3
    have fd : Fr [K.dp] σ' (upd σ' K.dp (.sdict (pkD c { K with l := qa, left := calmL w K.left, losing := K.losing ++ loseL w K.left }))) := Fr.upd (by simp)
    have es := P'.set (X := X) (n := 97) (v := .ref qa) (by decide)
    have es : setAttrV X σ' (.ref K.p) 97 (.ref qa) = some (upd σ' K.dp (.sdict (pkD c { K with l := qa, left := calmL w K.left, losing := K.losing ++ loseL w K.left }))) := es
    have hput : PkOk c { K with l := qa, left := calmL w K.left, losing := K.losing ++ loseL w K.left } (upd σ' K.dp (.sdict (pkD c { K with l := qa, left := calmL w K.left, losing := K.losing ++ loseL w K.left }))) := hput
    generalize upd σ' K.dp (.sdict (pkD c { K with l := qa, left := calmL w K.left, losing := K.losing ++ loseL w K.left })) = s5 at hput fd es
    simp! only [es]
    refine hq ga qa _ ((f.sub fun x hx => by rw [List.mem_singleton] at hx; rw [hx]; exact hlo).trans (fd.sub fun x hx => by rw [List.mem_singleton] at hx; rw [hx]; simp [Pk.own])) (.inl r2) (.inl qa2) hput (hT.keep fd (fun b hb ys e => by rw [List.mem_singleton] at hb; rw [hb] at e; rw [show σ' K.dp = _ from P'.dict] at e; cases e) (fun h => gao (by rw [List.mem_singleton] at h; rw [h]; simp [Pk.own]))) hgq
end
/-! PA -/
section
variable {X : Cx} {r : Nat} {c : Cw}
theorem map_ref_snoc (as : List Addr) (b : Addr) : as.map V.ref ++ [V.ref b] = (as ++ [b]).map .ref := by simp
inductive T321 (c : Cw) : TC
  | mk {σ Q} {K : Pk} {d p n w} (a : Ask c K d p n w σ) (hs : K.stage ≤ 4) (h : Fill c K σ (fillM w d.s p.length K.stage K.left K.losing) Q) : T321 c [.ref K.p, .int K.stage] σ Q
inductive I321 (c : Cw) (K : Pk) (d : Dt) (p : List Nat) (σ : St) (D : Addr) (ns : List Int) (as : List Addr) (dn : List Int) (σ' : St) : Prop
  | mk (hD : σ' D = some (.list (as.map .ref))) (hT : TupsL σ' as (pastL d.s ((p.length % 2 : Nat) : Int) dn)) (e : dn ++ ns = K.left) (f : Fr [] σ σ') (h : σ D = none)
theorem c_321 (h6 : 6 ≤ r) (c_328 : SC X r (.ref 328) (T328 c)) (c_335 : SC X r (.ref 335) (T335 c)) (c_342 : SC X r (.ref 342) (T342 c)) (c_494 : SC X r (.ref 494) (T494 c)) (c_295 : SC X r (.ref 295) (T295 c)) : SC X (r + 3) (.ref 321) (T321 c) := by
  refine wG5 [(328, _), (335, _), (342, _), (494, _), (295, _)] (hyC c_328 (hyC c_335 (hyC c_342 (hyC c_494 (hyC c_295 (hyN h6)))))) (fun Γ H (e328 : Γ 328 = T328 c) (e335 : Γ 335 = T335 c) (e342 : Γ 342 = T342 c) (e494 : Γ 494 = T494 c) (e295 : Γ 295 = T295 c) => ?_) rfl rfl rfl rfl rfl
  refine D_321.run H fun vs σ Q h => ?_
  induction h with | @mk σ Q K d p n w a hs hq =>
  refine prI rfl ?_
  have P := a.P
  have ne : ∀ {i j : Nat}, K.stage = i → i ≠ j → ¬ (K.stage : Int) = (j : Nat) := fun e n q => n (e.symm.trans (Int.ofNat.inj q))
  have hst : K.stage = 0 ∨ K.stage = 1 ∨ K.stage = 2 ∨ K.stage = 3 ∨ K.stage = 4 := by lia
  simp! only []
  rcases hst with e | e | e | e | e <;> rw [e] at hq
  · refine iT (by rw [e]; rfl) ?_
    simp! only []
    exact mS (P.meth rfl) e328 ⟨a, e, hq⟩
  · refine iF (ne (j := 0) e (by decide)) ?_
    simp! only []
    refine iT (by rw [e]; rfl) ?_
    simp! only []
    exact mS (P.meth rfl) e335 ⟨a, e, hq⟩
  · refine iF (ne (j := 0) e (by decide)) ?_
    simp! only []
    refine iF (ne (j := 1) e (by decide)) ?_
    simp! only []
    refine iT (by rw [e]; rfl) ?_
    simp! only []
    exact mS (P.meth rfl) e342 ⟨a, e, hq⟩
  · refine iF (ne (j := 0) e (by decide)) ?_
    simp! only []
    refine iF (ne (j := 1) e (by decide)) ?_
    simp! only []
    refine iF (ne (j := 2) e (by decide)) ?_
    simp! only []
    refine iT (by rw [e]; rfl) ?_
    simp! only [P.ats rfl]
    refine mS (a.G.m_game a.ok rfl) e494 ⟨a.G, a.A, a.pl, ?_⟩
    simp! only [P.ats rfl]
    refine cM (src := .list K.l) V.int V.ref (I321 c K d p σ) K.left [] rfl rfl (rd_own P.left) (Nat.lt_of_le_of_lt a.few (by decide)) (fun D s _ r2 _ hs => .mk (hs ▸ upd_self _ _ _) trivial rfl (hs ▸ Fr.new r2) r2)
      (fun D ns as dn σ' h => ?_) (fun D m ns as dn σ' h => ?_) (fun D as dn σ' h => ?_)
    · induction h with | mk hD hT hdn f _ =>
      refine ⟨rd_own (f.k0 P.left), hD, ?_⟩
      have := hT.len
      unfold pastL at this
      rw [List.length_map] at this
      rw [← hdn, List.length_map, List.length_append, this]
      exact Nat.le_refl _
    · cases h with | mk hD hT hdn f d0 =>
      have G' := a.G.keep0 f
      have P' := P.keep0 f
      have hm : m ∈ K.left := by rw [← hdn]; exact List.mem_append_right _ List.mem_cons_self
      obtain ⟨m1, m2⟩ := a.pos m hm
      have m3 := (a.ok.rows w a.A.mem).few
      refine tT ?_
      simp! only [capt, P'.ats rfl]
      refine cS e295 (T204.mk (side := ((p.length % 2 : Nat) : Int)) (m := m) G' (by lia) (by lia) (by lia) (by lia) ?_)
      simp! only [capt]
      refine tU rfl fun b s2 _ b2 _ hs2 => ?_
      have fb : Fr [] σ' s2 := hs2 ▸ Fr.new b2
      have hD2 := fb.k0 hD
      refine cT b (dn ++ [m]) hD2 (.mk ?_ ?_ (by rw [List.append_assoc]; exact hdn) ((f.trans fb).fresh Fr.u1 d0) d0)
      · rw [map_ref_snoc]; exact upd_self _ _ _
      · have t1 := (hT.keep fb NoTup.nil).snoc (a := b) (q := (d.s.past ((p.length % 2 : Nat) : Int) m, m)) (hs2 ▸ upd_self _ _ _)
        unfold pastL at t1 ⊢
        rw [List.map_append]
        exact t1.keep (N := [D]) Fr.u1 (all1 (p := fun x => ∀ xs, s2 x ≠ some (.tup xs)) fun xs q => by rw [hD2] at q; cases q)
    · cases h with | mk hD hT hdn f d0 =>
      rw [List.append_nil] at hdn
      subst hdn
      exact hq D K.l σ' f.nil (.inl d0) (.inr rfl) (P.keep0 f) ⟨as, hD, hT⟩ fun q => ne_of d0 P.left q.symm
  · refine iF (ne (j := 0) e (by decide)) ?_
    simp! only []
    refine iF (ne (j := 1) e (by decide)) ?_
    simp! only []
    refine iF (ne (j := 2) e (by decide)) ?_
    simp! only []
    refine iF (ne (j := 3) e (by decide)) ?_
    simp! only [P.ats rfl]
    exact hq K.lo K.l σ (.refl _ _) (.inr ⟨e, rfl⟩) (.inr rfl) P (P.losing (by lia)) P.d2.symm
end
/-! PB -/
/-! objects under way -/
structure Ini (C o d : Addr) (es : List (Nat × V)) (σ : St) : Prop where
  i : σ o = some (.inst C d)
  dd : σ d = some (.sdict es)
  ne : o ≠ d
section
variable {X : Cx} {r : Nat} {c : Cw}
theorem Ini.set {C o d : Addr} {es : List (Nat × V)} {σ : St} (I : Ini C o d es σ) {n : Nat} {v : V} (hm : (C, n) ∈ attrT) (hl : es.length < 900) : ∃ σ', setAttrV X σ (.ref o) n v = some σ' ∧ Ini C o d (putS n v es) σ' ∧ Fr [d] σ σ' :=
  ⟨_, setattr_of I.i I.dd hm hl, ⟨(upd_ne I.ne).trans I.i, upd_self _ _ _, I.ne⟩, Fr.upd (by simp)⟩
theorem Ini.keep0 {C o d : Addr} {es : List (Nat × V)} {σ σ' : St} (I : Ini C o d es σ) (f : Fr [] σ σ') : Ini C o d es σ' := ⟨f.keep _ _ I.i (by simp), f.keep _ _ I.dd (by simp), I.ne⟩
theorem Ini.at {C o d : Addr} {es : List (Nat × V)} {σ : St} (I : Ini C o d es σ) {n : Nat} (hm : (C, n) ∈ attrT) : attrV X σ (.ref o) n = es.lookup n := attr_of I.i I.dd hm
theorem Ini.ats {C o d : Addr} {es : List (Nat × V)} {σ : St} (I : Ini C o d es σ) {n : Nat} {v : V} (hm : (C, n) ∈ attrT) (h : es.lookup n = some v) : attrV X σ (.ref o) n = some v := (I.at hm).trans h
/-- one more field: the objects of the class stand below the old ones -/
theorem Ini.put {C o d : Addr} {es : List (Nat × V)} {σ : St} (I : Ini C o d es σ) (n : Nat) (v : V) (hm : decide ((C, n) ∈ attrT) = true) (hl : decide (es.length < 900) = true) : ∃ σ', setAttrV X σ (.ref o) n v = some σ' ∧ Ini C o d (putS n v es) σ' ∧ Fr [d] σ σ' := I.set (of_decide_eq_true hm) (of_decide_eq_true hl)
theorem Ini.start {C a d : Addr} {σ : St} (n1 : σ a = none) (n2 : σ d = none) (ne : a ≠ d) : ∃ s, s = upd (upd σ d (.sdict [])) a (.inst C d) ∧ Ini C a d [] s ∧ Fr [] σ s :=
  ⟨_, rfl, ⟨upd_self _ _ _, (upd_ne ne.symm).trans (upd_self _ _ _), ne⟩, (Fr.new n2).trans (Fr.new (by rw [upd_ne ne]; exact n1))⟩
/-- what a call of a class asks -/
def CT (X : Cx) (C : Addr) (vs : List V) (σ : St) (T : TC) (Q : V → St → Prop) : Prop := ∀ a d s, rd X σ a = none → rd X σ d = none → σ a = none → σ d = none → a ≠ d → a ≠ 1 → d ≠ 1 → Ini C a d [] s → Fr [] σ s → T (.ref a :: vs) s fun v σ' => v = .none ∧ Q (.ref a) σ'
theorem CT.mk {C : Addr} {vs : List V} {σ : St} {T : TC} {Q : V → St → Prop} (h : CT X C vs σ T Q) : ∀ a d, rd X σ a = none → rd X σ d = none → σ a = none → σ d = none → a ≠ d → a ≠ 1 → d ≠ 1 → T (.ref a :: vs) (upd (upd σ d (.sdict [])) a (.inst C d)) fun v σ' => v = .none ∧ Q (.ref a) σ' := fun a d h1 h2 h3 h4 h5 h6 h7 => by
  obtain ⟨s, e, I, f⟩ := Ini.start (C := C) h3 h4 h5
  rw [← e]
  exact h a d s h1 h2 h3 h4 h5 h6 h7 I f
theorem Dx.cls {C fI : Addr} {ns : List Nat} {c : Cm} {Γ : Nat → TC} (D : Dx fI ns c) (ck : ClsOk (KK X.w.params) C) (hi : findIn (KK X.w.params) (.ref C) "__init__" = some (some (.ref fI))) (hf : isFn (KK X.w.params) (.ref fI) = true) (H : Hy X r Γ) {U : TC}
    (h : ∀ vs σ Q, U vs σ Q → CT X C vs σ (fun vs σ Q => Pr X Γ ns c vs σ Q) Q) : SC X (r + 6) (.ref C) U :=
  (SC_class ck hi hf (D.runD H (U := fun vs σ Q => Pr X Γ ns c vs σ Q) fun _ _ _ h => h)).conv fun vs σ Q k => (h vs σ Q k).mk
inductive T345 (c : Cw) : TC
  | mk {σ Q} {ml : Addr} {ply : Nat} {d : Dt} {ms : List Int} (G : GoodC c d σ) (hml : σ ml = some (.list (ms.map .int))) (few : ms.length ≤ 3)
    (h : ∀ (K : Pk) (σ' : St), (∀ m ∈ K.p :: K.own, σ m = none) → Fr [] σ σ' → PkOk c K σ' → K.stage = 0 → K.left = ms → K.losing = [] → K.ply = ply → Tups σ' K.rd [] → Q (.ref K.p) σ') : T345 c [.ref c.game, .ref ml, .int 0, .ref c.kil, .ref c.his, .int ply] σ Q
theorem c_345 (h6 : 6 ≤ r) : SC X (r + 6) (.ref 345) (T345 c) := D_309.cls (ck_345 _) (init_345 _) (fk_309 X.w.params).isfn (hyN h6) fun vs σ Q h => by
  induction h with | @mk σ Q ml ply d ms G hml few hq =>
  intro p dp σ0 _ _ n1 n2 hne p1 d1 I0 f0
  refine prI rfl ?_
  obtain ⟨σ1, e1, I1, f1⟩ := I0.put (X := X) 40 (.ref c.game) rfl rfl
  simp! only [e1]
  have hml1 : σ1 ml = some (.list (ms.map .int)) := f1.k1 (f0.k0 hml) (ne_of n2 hml)
  refine lS (rd_own hml1) (by rw [List.length_map]; lia) (mU fun l σ2 _ l2 _ hs2 => ?_)
  have f2 : Fr [] σ1 σ2 := hs2 ▸ Fr.new l2
  have I1' := I1.keep0 f2
  have hl : σ2 l = some (.list (ms.map .int)) := hs2 ▸ upd_self _ _ _
  obtain ⟨σ3, e3, I3, f3⟩ := I1'.put (X := X) 97 (.ref l) rfl rfl
  obtain ⟨σ4, e4, I4, f4⟩ := I3.put (X := X) 96 (.int 0) rfl rfl
  obtain ⟨σ5, e5, I5, f5⟩ := I4.put (X := X) 42 (.ref c.kil) rfl rfl
  obtain ⟨σ6, e6, I6, f6⟩ := I5.put (X := X) 43 (.ref c.his) rfl rfl
  obtain ⟨σ7, e7, I7, f7⟩ := I6.put (X := X) 11 (.int ply) rfl rfl
  obtain ⟨σ8, e8, I8, f8⟩ := I7.put (X := X) 99 (.int 0) rfl rfl
  simp! only [e3, e4, e5, e6, e7, e8]
  refine lU rfl fun rd σ9 _ q2 _ hs9 => ?_
  have g1 : Fr [] σ8 σ9 := hs9 ▸ Fr.new q2
  have hrd : σ9 rd = some (.list []) := hs9 ▸ upd_self _ _ _
  have I8' := I8.keep0 g1
  obtain ⟨σa, ea, Ia, fa⟩ := I8'.put (X := X) 100 (.ref rd) rfl rfl
  simp! only [ea]
  refine lU rfl fun lo σb _ s2 _ hsb => ?_
  have g2 : Fr [] σa σb := hsb ▸ Fr.new s2
  have hlo : σb lo = some (.list []) := hsb ▸ upd_self _ _ _
  have Ia' := Ia.keep0 g2
  obtain ⟨σc, ec, Ic, fc⟩ := Ia'.put (X := X) 101 (.ref lo) rfl rfl
  simp! only [ec]
  have F23 : Fr [dp] σ2 σ8 := f3.trans (f4.trans (f5.trans (f6.trans (f7.trans f8))))
  have F12 : Fr [dp] σ0 σ2 := f1.trans f2.nil
  have F08 : Fr [dp] σ0 σ8 := F12.trans F23
  have F8a : Fr [dp] σ8 σa := g1.nil.trans fa
  have Fac : Fr [dp] σa σc := g2.nil.trans fc
  have nl : σ l = none := f0.none (f1.none l2)
  have nrd : σ rd = none := f0.none (F08.none q2)
  have nlo : σ lo = none := f0.none ((F08.trans F8a).none s2)
  have dl : l ≠ dp := (ne_of (σ := σ1) l2 I1.dd).symm
  have drd : rd ≠ dp := (ne_of (σ := σ8) q2 I8.dd).symm
  have dlo : lo ≠ dp := (ne_of (σ := σa) s2 Ia.dd).symm
  have hl8 : σ8 l = some (.list (ms.map .int)) := F23.k1 hl dl
  have hla := F8a.k1 hl8 dl
  have hlc := Fac.k1 hla dl
  have hrda := fa.k1 hrd drd
  have hrdc := Fac.k1 hrda drd
  have hloc := fc.k1 hlo dlo
  have out : ∀ m, σ m = none → m ∉ c.M ∧ c.F m = none := fun m hm => ⟨G.not_m hm, G.in_fix hm⟩
  have Id : σc dp = some (.sdict (pkD c ⟨p, dp, l, rd, lo, ply, 0, ms, []⟩)) := Ic.dd
  have all : ∀ m ∈ p :: Pk.own ⟨p, dp, l, rd, lo, ply, 0, ms, []⟩, σ m = none := by
    intro m hm
    simp only [Pk.own, List.mem_cons, List.not_mem_nil, or_false] at hm
    rcases hm with rfl | rfl | rfl | rfl | rfl <;> assumption
  exact ⟨rfl, hq ⟨p, dp, l, rd, lo, ply, 0, ms, []⟩ σc all (f0.fresh (F08.trans (F8a.trans Fac)) n2) ⟨Ic.i, Id, hlc, fun _ => ⟨[], hloc, trivial⟩, ⟨_, hrdc⟩, ⟨_, hloc⟩, fun m hm => out m (all m hm), ne_of q2 hl8, ne_of s2 hla, fun _ => ne_of s2 hrda⟩ rfl rfl rfl rfl ⟨[], hrdc, trivial⟩⟩
end
/-! PC -/
theorem Fr.andThen {M N : List Addr} {σ σ₁ σ₂ : St} (x : Fr M σ σ₁) (y : Fr N σ₁ σ₂) (h : ∀ a ∈ N, a ∈ M ∨ σ a = Option.none) : Fr M σ σ₂ :=
  ⟨fun a o e n => y.keep a o (x.keep a o e n) fun q => (h a q).elim n fun z => (by rw [z] at e; cases e), fun a h => y.dom a (x.dom a h)⟩
structure Ps where
  stage : Nat
  left : List Int
  ready : List (Int × Int)
  losing : List (Int × Int)
noncomputable def Ps.fill (w : Row) (s : LS) (ply : Nat) (q : Ps) : Ps := ⟨q.stage + 1, (fillM w s ply q.stage q.left q.losing).2.1, (fillM w s ply q.stage q.left q.losing).1, (fillM w s ply q.stage q.left q.losing).2.2⟩
noncomputable def Ps.take (q : Ps) : Int × Ps := ((q.ready.getD (bestIx q.ready) (0, 0)).2, { q with ready := q.ready.eraseIdx (bestIx q.ready) })
noncomputable def nextP (w : Row) (s : LS) (ply : Nat) : Nat → Ps → Int × Ps
  | 0, q => if q.ready ≠ [] then q.take else (0, q)
  | k + 1, q => if q.ready ≠ [] then q.take else nextP w s ply k (q.fill w s ply)
structure PsOk (w : Row) (q : Ps) : Prop where
  few : q.left.length ≤ 3
  pos : ∀ m ∈ q.left, 1 ≤ m ∧ m ≤ w.kids.length
  lf : q.losing.length ≤ 3
  rf : q.ready.length ≤ 3
  l0 : q.stage ≤ 1 → q.losing = []
theorem goodL_len (w : Row) : ∀ ms : List Int, (goodL w ms).length ≤ ms.length
  | [] => Nat.le_refl _
  | m :: ms => by unfold goodL; have := goodL_len w ms; split <;> simp only [List.length_cons] <;> lia
theorem loseL_len (w : Row) : ∀ ms : List Int, (loseL w ms).length ≤ ms.length
  | [] => Nat.le_refl _
  | m :: ms => by unfold loseL; have := loseL_len w ms; split <;> simp only [List.length_cons] <;> lia
theorem calmL_len (w : Row) : ∀ ms : List Int, (calmL w ms).length ≤ ms.length
  | [] => Nat.le_refl _
  | m :: ms => by unfold calmL; have := calmL_len w ms; split <;> simp only [List.length_cons] <;> lia
theorem killL_len : ∀ (ks ms : List Int), (killL ks ms).1.length ≤ ks.length ∧ (killL ks ms).2.length ≤ ms.length ∧ ∀ x ∈ (killL ks ms).2, x ∈ ms
  | [], ms => ⟨Nat.le_refl _, Nat.le_refl _, fun _ h => h⟩
  | k :: ks, ms => by
    unfold killL
    split
    · obtain ⟨a, b, d⟩ := killL_len ks (ms.erase k)
      have := List.length_erase_le (a := k) (l := ms)
      exact ⟨by simp only [List.length_cons]; lia, Nat.le_trans b this, fun x hx => List.mem_of_mem_erase (d x hx)⟩
    · obtain ⟨a, b, d⟩ := killL_len ks ms
      exact ⟨by simp only [List.length_cons]; lia, b, d⟩
theorem PsOk.fill {w : Row} {q : Ps} (h : PsOk w q) (s : LS) (ply : Nat) (hs : q.stage ≤ 4) : PsOk w (q.fill w s ply) := by
  have a1 := goodL_len w q.left
  have a2 := loseL_len w q.left
  have a3 := calmL_len w q.left
  obtain ⟨b1, b2, b3⟩ := killL_len [s.k1.getD ply 0, s.k2.getD ply 0] q.left
  have few := h.few
  have lf := h.lf
  have hst : q.stage = 0 ∨ q.stage = 1 ∨ q.stage = 2 ∨ q.stage = 3 ∨ q.stage = 4 := by lia
  unfold Ps.fill fillM
  rcases hst with e | e | e | e | e <;> rw [e]
  · exact ⟨few, h.pos, lf, by simp, fun _ => h.l0 (by lia)⟩
  · refine ⟨Nat.le_trans a3 few, fun m hm => h.pos m (calmL_mem hm), ?_, Nat.le_trans a1 few, fun q => absurd q (by simp)⟩
    show (q.losing ++ loseL w q.left).length ≤ 3
    rw [h.l0 (by lia), List.nil_append]; lia
  · exact ⟨Nat.le_trans b2 few, fun m hm => h.pos m (b3 m hm), lf, Nat.le_trans b1 (by simp), fun q => absurd q (by simp)⟩
  · exact ⟨few, h.pos, lf, by show (pastL s _ q.left).length ≤ 3; unfold pastL; rw [List.length_map]; exact few, fun q => absurd q (by simp)⟩
  · exact ⟨few, h.pos, lf, lf, fun q => absurd q (by simp)⟩
section
variable {X : Cx} {r : Nat} {c : Cw}
theorem PkOk.put2 {K : Pk} {σ σ' : St} (P : PkOk c K σ) (K' : Pk) (I : Ini 345 K.p K.dp (pkD c K') σ') (f : Fr [K.dp] σ σ') (hp : K'.p = K.p) (hd : K'.dp = K.dp) (hl : ∃ xs, σ K'.l = some (.list xs) ∧ xs = K'.left.map .int) (hr : ∃ xs, σ K'.rd = some (.list xs)) (ho : K'.lo = K.lo) (hlo : K'.stage ≤ 4 → K.stage ≤ 4 ∧ K'.losing = K.losing)
    (hsep : ∀ m ∈ K'.own, m ∉ c.M ∧ c.F m = none) (h1 : K'.l ≠ K'.rd) (h2 : K'.l ≠ K'.lo) (h3 : K'.stage ≤ 4 → K'.rd ≠ K'.lo) : PkOk c K' σ' := by
  obtain ⟨x, hx, rfl⟩ := hl
  obtain ⟨y, hy⟩ := hr
  obtain ⟨z, hz⟩ := P.lol
  have ne : ∀ {a : Addr} {xs : List V}, σ a = some (.list xs) → a ∉ [K.dp] := fun e q => by rw [List.mem_singleton] at q; rw [q, P.dict] at e; cases e
  have sp : ∀ m ∈ K'.p :: K'.own, m ∉ c.M ∧ c.F m = none := fun m hm => by
    rcases List.mem_cons.mp hm with rfl | hm
    · rw [hp]; exact P.sep _ (by simp)
    · exact hsep m hm
  refine ⟨?_, ?_, f.keep _ _ hx (ne hx), fun h => ?_, ⟨y, f.keep _ _ hy (ne hy)⟩, ⟨z, ?_⟩, sp, h1, h2, h3⟩
  · rw [hp, hd]; exact I.i
  · rw [hd]; exact I.dd
  · obtain ⟨q1, q2⟩ := hlo h
    rw [q2, ho]
    exact (P.losing q1).keep f (fun m hm xs e => by rw [List.mem_singleton] at hm; rw [hm, P.dict] at e; cases e) (ne hz)
  · rw [ho]; exact f.keep _ _ hz (ne hz)
/-- the picker's next one -/
def Nex (c : Cw) (K : Pk) (σ : St) (R : Int × Ps) (Q : V → St → Prop) : Prop :=
  ∀ (K' : Pk) (σ' : St), K'.p = K.p → K'.dp = K.dp → K'.ply = K.ply → (∀ m ∈ K'.own, m ∈ K.own ∨ σ m = none) → Fr K.own σ σ' → PkOk c K' σ' → Tups σ' K'.rd R.2.ready → K'.stage = R.2.stage → K'.left = R.2.left → K'.losing = R.2.losing → Q (.int R.1) σ'
inductive T316 (c : Cw) : TC
  | mk {σ Q} {K : Pk} {d p n w} {ready : List (Int × Int)} (a : Ask c K d p n w σ) (hs : K.stage ≤ 5) (hT : Tups σ K.rd ready) (hp : PsOk w ⟨K.stage, K.left, ready, K.losing⟩) (h : Nex c K σ (nextP w d.s p.length (5 - K.stage) ⟨K.stage, K.left, ready, K.losing⟩) Q) : T316 c [.ref K.p] σ Q
theorem tups_truth {σ : St} {l : Addr} {ps : List (Int × Int)} (h : Tups σ l ps) (hl : ps.length ≤ 3) : truthV X σ (.ref l) = some (!ps.isEmpty) := by
  obtain ⟨as, h1, h2⟩ := h
  have := h2.len
  rw [t_list h1 (by rw [List.length_map]; lia)]
  cases as with
  | nil => cases ps with
    | nil => rfl
    | cons _ _ => cases this
  | cons _ _ => cases ps with
    | nil => cases this
    | cons _ _ => rfl
inductive I316 (c : Cw) (K : Pk) (d : Dt) (p : List Nat) (n : Nat) (w : Row) (σ : St) (R : Int × Ps) (K' : Pk) (rdy : List (Int × Int)) (σ' : St) : Prop
  | mk (hs : K'.stage ≤ 5) (hp : K'.p = K.p) (hd : K'.dp = K.dp) (hl : K'.ply = K.ply) (hown : ∀ m ∈ K'.own, m ∈ K.own ∨ σ m = none) (f : Fr K.own σ σ') (a : Ask c K' d p n w σ') (hT : Tups σ' K'.rd rdy) (hps : PsOk w ⟨K'.stage, K'.left, rdy, K'.losing⟩)
    (hR : nextP w d.s p.length (5 - K'.stage) ⟨K'.stage, K'.left, rdy, K'.losing⟩ = R)
theorem Pk.o_rd (K : Pk) : K.rd ∈ K.own := by simp [Pk.own]
theorem Pk.o_dp (K : Pk) : K.dp ∈ K.own := by simp [Pk.own]
theorem c_316 (h6 : 6 ≤ r) (c_321 : SC X r (.ref 321) (T321 c)) (c_356 : SC X r (.ref 356) T356) : SC X (r + 3) (.ref 316) (T316 c) := by
  refine wG2 [(321, _), (356, _)] (hyC c_321 (hyC c_356 (hyN h6))) (fun Γ H (e321 : Γ 321 = T321 c) (e356 : Γ 356 = T356) => ?_) rfl rfl
  refine D_316.run H fun vs σ Q h => ?_
  induction h with | @mk σ Q K d p n w ready a hs hT hps hq =>
  refine prI rfl ?_
  simp! only []
  obtain ⟨R, hR⟩ : ∃ R, R = nextP w d.s p.length (5 - K.stage) ⟨K.stage, K.left, ready, K.losing⟩ := ⟨_, rfl⟩
  rw [← hR] at hq
  refine wM (fun _ => [(31, .ref K.p)]) (fun a : Pk × List (Int × Int) => 5 - a.1.stage) (fun a => I316 c K d p n w σ R a.1 a.2) (K, ready) rfl (.mk hs rfl rfl rfl (fun m h => .inl h) (.refl _ _) a hT hps hR.symm) fun a σ' h => ?_
  obtain ⟨K', rdy⟩ := a
  dsimp only at h
  cases h with | mk hs' hp hdp hpl hown f a' hT' hps' hR' =>
  have P' := a'.P
  rw [← hp]
  simp! only [P'.ats rfl, tups_truth (X := X) hT' hps'.rf]
  cases hrdy : rdy with
  | cons q qs =>
    have hne : rdy ≠ [] := by rw [hrdy]; exact nofun
    rw [← hrdy]
    refine nF (by rw [hrdy]; rfl) ?_
    obtain ⟨as, t1, t2⟩ := hT'
    simp! only [P'.ats rfl]
    refine cS e356 ⟨t1, t2, hne, by have := hps'.rf; dsimp only at this; lia, fun σ'' f2 t3 => ?_⟩
    have hRR : R = (Ps.take ⟨K'.stage, K'.left, rdy, K'.losing⟩) := by
      rw [← hR']
      cases 5 - K'.stage with
      | zero => unfold nextP; rw [if_pos hne]
      | succ j => unfold nextP; rw [if_pos hne]
    obtain ⟨y, hy⟩ := P'.lol
    have hprd : K'.p ≠ K'.rd := fun q => P'.p_own (by rw [q]; exact K'.o_rd)
    have hdrd : K'.dp ≠ K'.rd := fun q => by have := P'.dict; rw [q, t1] at this; cases this
    have nt : NoTup σ' [K'.rd] := all1 (p := fun x => ∀ xs, σ' x ≠ some (.tup xs)) fun xs q => by rw [t1] at q; cases q
    have P2 : PkOk c K' σ'' := by
      obtain ⟨bs, u1, u2⟩ := t3
      refine ⟨f2.k1 P'.inst hprd, f2.k1 P'.dict hdrd, f2.k1 P'.left P'.d1, fun h => (P'.losing h).keep f2 nt (fun q => P'.d3 h (List.mem_singleton.mp q).symm), ⟨_, u1⟩, ?_, P'.sep, P'.d1, P'.d2, P'.d3⟩
      by_cases q : K'.lo = K'.rd
      · rw [q]; exact ⟨_, u1⟩
      · exact ⟨y, f2.k1 hy q⟩
    rw [hRR] at hq
    simp! only []
    exact hq K' σ'' hp hdp hpl hown (f.andThen f2 (all1 (p := fun x => x ∈ K.own ∨ σ x = none) (hown K'.rd K'.o_rd))) P2 t3 rfl rfl rfl
  | nil =>
    rw [hrdy] at hT' hps' hR'
    refine nT rfl ?_
    simp! only [P'.ats rfl]
    by_cases e5 : K'.stage = 5
    · have hRR : R = (0, ⟨K'.stage, K'.left, [], K'.losing⟩) := by
        rw [← hR', e5]; rfl
      rw [hRR] at hq
      refine iT (by rw [e5]; rfl) ?_
      simp! only []
      exact hq K' σ' hp hdp hpl hown f P' hT' rfl rfl rfl
    · refine iF (fun h => e5 (Int.ofNat.inj h)) ?_
      simp! only [P'.ats rfl]
      refine ⟨P'.meth rfl, ?_⟩
      simp! only [P'.ats rfl]
      refine cS e321 ⟨a', by lia, fun b l' σ'' f2 hb hl' P2 hT2 hbl => ?_⟩
      have hps2 := hps'.fill d.s p.length (show K'.stage ≤ 4 by lia)
      have hstep : nextP w d.s p.length (5 - (K'.stage + 1)) (Ps.fill w d.s p.length ⟨K'.stage, K'.left, [], K'.losing⟩) = R := by
        rw [← hR']
        have : 5 - K'.stage = (5 - (K'.stage + 1)) + 1 := by lia
        rw [this]
        show _ = nextP _ _ _ (_ + 1) _
        conv => rhs; unfold nextP
        rw [if_neg (fun h => h rfl)]
      have h96 : b = K'.lo ∨ σ' b = none := hb.elim .inr fun h => .inl h.2
      have own2 : ∀ m ∈ Pk.own { K' with l := l', rd := b }, m ∈ K'.own ∨ σ' m = none := by
        intro m hm
        simp only [Pk.own, List.mem_cons, List.not_mem_nil, or_false] at hm ⊢
        rcases hm with rfl | rfl | rfl | rfl
        · exact .inl (.inl rfl)
        · rcases hl' with h | rfl
          · exact .inr h
          · exact .inl (.inr (.inl rfl))
        · rcases h96 with rfl | h
          · exact .inl (.inr (.inr (.inr rfl)))
          · exact .inr h
        · exact .inl (.inr (.inr (.inr rfl)))
      have own3 : ∀ m ∈ Pk.own { K' with l := l', rd := b }, m ∈ K.own ∨ σ m = none := fun m hm => (own2 m hm).elim (hown m) fun h => .inr (f.none h)
      have f3 := f.andThen f2 hown
      have hTb := hT2
      obtain ⟨as, t1, t2⟩ := hT2
      have sp : ∀ m ∈ K'.p :: Pk.own { K' with l := l', rd := b }, m ∉ c.M ∧ c.F m = none := fun m hm => by
        rcases List.mem_cons.mp hm with rfl | hm
        · exact P'.sep _ List.mem_cons_self
        · rcases own2 m hm with h | h
          · exact P'.sep m (List.mem_cons_of_mem _ h)
          · exact ⟨a'.G.not_m h, a'.G.in_fix h⟩
      obtain ⟨K1, hK1⟩ : ∃ K1 : Pk, K1 = { K' with l := l', left := (fillM w d.s p.length K'.stage K'.left K'.losing).2.1, losing := (fillM w d.s p.length K'.stage K'.left K'.losing).2.2 } := ⟨_, rfl⟩
      rw [← hK1] at P2
      obtain ⟨k1p, k1d, k1l, k1s, k1o, k1left, k1los⟩ : K1.p = K'.p ∧ K1.dp = K'.dp ∧ K1.l = l' ∧ K1.stage = K'.stage ∧ K1.lo = K'.lo ∧ K1.left = (fillM w d.s p.length K'.stage K'.left K'.losing).2.1 ∧ K1.losing = (fillM w d.s p.length K'.stage K'.left K'.losing).2.2 := by rw [hK1]; exact ⟨rfl, rfl, rfl, rfl, rfl, rfl, rfl⟩
      have I2 : Ini 345 K'.p K'.dp (pkD c K1) σ'' := ⟨k1p ▸ k1d ▸ P2.inst, k1d ▸ P2.dict, fun q => P'.p_own (by rw [q]; exact K'.o_dp)⟩
      obtain ⟨σ3, e3, I3, f3'⟩ := I2.put (X := X) 100 (.ref b) rfl rfl
      obtain ⟨σ4, e4, I4, f4⟩ := I3.put (X := X) 99 (.int (K1.stage + 1)) rfl rfl
      simp! only [e3, I3.ats (n := 99) (by decide) rfl, e4]
      obtain ⟨K2, hK2⟩ : ∃ K2 : Pk, K2 = { K1 with rd := b, stage := K1.stage + 1 } := ⟨_, rfl⟩
      have I4' : Ini 345 K'.p K'.dp (pkD c K2) σ4 := by rw [hK2]; exact I4
      have f34 : Fr [K'.dp] σ'' σ4 := f3'.trans f4
      have P4 : PkOk c K2 σ4 := P2.put2 K2 (by rw [k1p, k1d]; exact I4') (by rw [k1d]; exact f34) (by rw [hK2]) (by rw [hK2]) ⟨_, by rw [hK2]; exact P2.left, by rw [hK2]⟩ ⟨_, by rw [hK2]; exact t1⟩ (by rw [hK2]) (fun h => by rw [hK2] at h ⊢; exact ⟨Nat.le_of_succ_le h, rfl⟩)
        (fun m hm => sp m (List.mem_cons_of_mem _ (by rw [hK2, hK1] at hm; exact hm))) (by rw [hK2, hK1]; exact fun q => hbl q.symm) (by rw [hK2]; exact P2.d2)
        (fun h => by
          rw [hK2] at h ⊢
          have h : K1.stage + 1 ≤ 4 := h
          rcases hb with h' | ⟨h', -⟩
          · obtain ⟨y, hy⟩ := P'.lol
            exact fun q => by have q : b = K1.lo := q; rw [q, k1o, hy] at h'; cases h'
          · lia)
      have f5 : Fr K.own σ σ4 := f3.andThen f34 (all1 (p := fun x => x ∈ K.own ∨ σ x = none) (hown _ K'.o_dp))
      have dpt : σ'' K'.dp = some (.sdict (pkD c K1)) := I2.dd
      have tb : Tups σ4 b (fillM w d.s p.length K'.stage K'.left K'.losing).1 := hTb.keep f34 (all1 (p := fun x => ∀ xs, σ'' x ≠ some (.tup xs)) fun xs q => by rw [dpt] at q; cases q) (fun q => by rw [List.mem_singleton] at q; rw [q, dpt] at t1; cases t1)
      have G2 : GoodC c d σ4 := a'.G.pk (f2.trans (f34.sub (all1 (p := fun x => x ∈ K'.own) K'.o_dp))) P' (fun _ h => h) a'.ls
      have e1 : K2.stage = K'.stage + 1 := by rw [hK2, ← k1s]
      have e2 : (⟨K2.stage, K2.left, (fillM w d.s p.length K'.stage K'.left K'.losing).1, K2.losing⟩ : Ps) = Ps.fill w d.s p.length ⟨K'.stage, K'.left, [], K'.losing⟩ := by rw [hK2, hK1]; rfl
      have eo : K2.own = Pk.own { K' with l := l', rd := b } := by rw [hK2, hK1]; rfl
      refine jW (K2, (fillM w d.s p.length K'.stage K'.left K'.losing).1) (by dsimp only; lia) (by rw [hp]; exact (by repeat first | exact Sub.nil _ | refine Sub.cons rfl ?_)) (.mk (by dsimp only; lia) (by rw [hK2, ← hp, ← k1p]) (by rw [hK2, ← hdp, ← k1d]) (by rw [hK2, hK1]; exact hpl) (by rw [eo]; exact own3) f5
        ⟨a'.ok, G2, a'.A, P4, by rw [hK2, hK1]; exact a'.ply, fun m hm => ?_, by rw [hK2, hK1]; exact hps2.pos, by rw [hK2, hK1]; exact hps2.few, a'.pl, by rw [hK2, hK1]; exact hps2.lf⟩ (by rw [hK2]; exact tb) (by rw [e2]; exact hps2) (by rw [e2]; dsimp only; rw [e1]; exact hstep))
      rw [eo] at hm
      rcases own2 m hm with h | h
      · exact a'.ls m h
      · exact a'.G.not_ls h
end
/-! PD -/
/-! the law's own search, in plain terms -/
structure Acc where
  best : Int
  low : Int
  tried : List Int
  first : Bool
abbrev Stp := Int → Acc → LS → Option Int × Acc × LS
noncomputable def runTurn (f : Stp) : List Int → Acc → LS → Option Int × Acc × LS
  | [], a, s => (none, a, s)
  | m :: ms, a, s => match f m a s with
    | (some v, a', s') => (some v, a', s')
    | (none, a', s') => runTurn f ms a' s'
noncomputable def outL (rest turn : List Int) : List Int := rest.filter fun m => !turn.contains m
noncomputable def runStages (f : Stp) (st : LS → Nat → List Int → List Int) : List Nat → List Int → Acc → LS → Option Int × Acc × LS
  | [], rest, a, s => (none, a, s)
  | k :: ks, rest, a, s => match runTurn f (st s k rest) a s with
    | (some v, a', s') => (some v, a', s')
    | (none, a', s') => runStages f st ks (outL rest (st s k rest)) a' s'
noncomputable def goR (f : Stp) (st : LS → Nat → List Int → List Int) (ks : List Nat) (turn rest : List Int) (a : Acc) (s : LS) : Option Int × Acc × LS := match runTurn f turn a s with
  | (some v, a', s') => (some v, a', s')
  | (none, a', s') => runStages f st ks rest a' s'
noncomputable def nextL (st : Nat → List Int → List Int) : List Nat → List Int → List Int → Int × List Nat × List Int × List Int
  | ks, m :: ms, rest => (m, ks, ms, rest)
  | [], [], rest => (0, [], [], rest)
  | k :: ks, [], rest => nextL st ks (st k rest) (outL rest (st k rest))
noncomputable def thenR (f : Stp) (st : LS → Nat → List Int → List Int) (x : Int × List Nat × List Int × List Int) (a : Acc) (s : LS) : Option Int × Acc × LS :=
  if x.1 = 0 then (none, a, s) else match f x.1 a s with
    | (some v, a', s') => (some v, a', s')
    | (none, a', s') => goR f st x.2.1 x.2.2.1 x.2.2.2 a' s'
theorem next_go (f : Stp) (st : LS → Nat → List Int → List Int) (a : Acc) (s : LS) (hst : ∀ k rest, ∀ m ∈ st s k rest, m ∈ rest) : ∀ (ks : List Nat) (turn rest : List Int), (∀ m ∈ turn, m ≠ 0) → (∀ m ∈ rest, m ≠ 0) → goR f st ks turn rest a s = thenR f st (nextL (st s) ks turn rest) a s
  | ks, m :: ms, rest, h1, h2 => by
    have e : nextL (st s) ks (m :: ms) rest = (m, ks, ms, rest) := by cases ks <;> simp [nextL]
    rw [e]
    unfold thenR
    rw [if_neg (h1 m List.mem_cons_self)]
    unfold goR
    rw [runTurn]
    cases f m a s with
    | mk o p => cases o with
      | none => rfl
      | some v => rfl
  | [], [], rest, h1, h2 => by
    unfold nextL thenR goR runTurn runStages
    rw [if_pos rfl]
  | k :: ks, [], rest, h1, h2 => by
    have e : nextL (st s) (k :: ks) [] rest = nextL (st s) ks (st s k rest) (outL rest (st s k rest)) := by simp [nextL]
    rw [e, ← next_go f st a s hst ks (st s k rest) (outL rest (st s k rest)) (fun m hm => h2 m (hst k rest m hm)) (fun m hm => h2 m (List.mem_filter.mp hm).1)]
    unfold goR
    rw [runTurn]
    show runStages f st (k :: ks) rest a s = _
    rw [runStages]
/-! stages: the law's -/
noncomputable def LS.pairL (s : LS) (ply : Nat) : List Int := if ply < s.k1.length then [s.k1.getD ply 0, s.k2.getD ply 0] else []
noncomputable def markL (w : Row) (s : LS) (ply k : Nat) : List Int → List (Int × Int)
  | [] => []
  | m :: ms =>
    if w.ld m = true then (if k = (if 0 ≤ w.gn' m then 1 else 4) then (-w.gn' m, m) :: markL w s ply k ms else markL w s ply k ms)
    else if k = 2 ∧ (s.pairL ply).contains m = true then ((((s.pairL ply).idxOf m : Nat) : Int), m) :: markL w s ply k ms
    else if k = 3 then (-(s.past ((ply % 2 : Nat) : Int) m), m) :: markL w s ply k ms
    else markL w s ply k ms
noncomputable def sortL (ps : List (Int × Int)) : List Int := (ordK ps).map fun i => (ps.getD i (0, 0)).2
noncomputable def stM (w : Row) (ply : Nat) (s : LS) (k : Nat) (ms : List Int) : List Int := sortL (markL w s ply k ms)
noncomputable def negL (ps : List (Int × Int)) : List (Int × Int) := ps.map fun q => (-q.1, q.2)
noncomputable def takeL : Nat → List (Int × Int) → List Int
  | 0, _ => []
  | n + 1, ps => if ps = [] then [] else (ps.getD (bestIx ps) (0, 0)).2 :: takeL n (ps.eraseIdx (bestIx ps))
theorem mark1 (w : Row) (s : LS) (ply : Nat) : ∀ ms, markL w s ply 1 ms = negL (goodL w ms)
  | [] => rfl
  | m :: ms => by
    have ih := mark1 w s ply ms
    unfold markL goodL
    cases h : w.ld m with
    | false => simp [ih]
    | true =>
      by_cases g : 0 ≤ w.gn' m
      · simp [g, ih, negL]
      · simp [g, ih]
theorem mark4 (w : Row) (s : LS) (ply : Nat) : ∀ ms, markL w s ply 4 ms = negL (loseL w ms)
  | [] => rfl
  | m :: ms => by
    have ih := mark4 w s ply ms
    unfold markL loseL
    cases h : w.ld m with
    | false => simp [ih]
    | true =>
      by_cases g : 0 ≤ w.gn' m
      · simp [g, ih]
      · simp [g, ih, negL]
theorem mark3 (w : Row) (s : LS) (ply : Nat) : ∀ ms, markL w s ply 3 ms = negL (pastL s ((ply % 2 : Nat) : Int) (calmL w ms))
  | [] => rfl
  | m :: ms => by
    have ih := mark3 w s ply ms
    unfold markL calmL
    cases h : w.ld m with
    | false => simp [ih, negL, pastL]
    | true =>
      by_cases g : 0 ≤ w.gn' m
      · simp [g, ih]
      · simp [g, ih]
noncomputable def killMarks (pair : List Int) (l : List Int) : List (Int × Int) := (l.filter fun m => pair.contains m).map fun m => ((((pair.idxOf m : Nat)) : Int), m)
theorem mark2 (w : Row) (s : LS) (ply : Nat) : ∀ ms, markL w s ply 2 ms = killMarks (s.pairL ply) (calmL w ms)
  | [] => rfl
  | m :: ms => by
    have ih := mark2 w s ply ms
    unfold markL calmL
    cases h : w.ld m with
    | false =>
      by_cases g : (s.pairL ply).contains m = true
      · simp only [g, Bool.false_eq_true, if_false, and_self, if_true, ih, killMarks, List.filter_cons, List.map_cons]
      · simp only [g, Bool.false_eq_true, if_false, and_false, ih, killMarks, List.filter_cons]
        simp
    | true =>
      by_cases g : 0 ≤ w.gn' m
      · simp [g, ih]
      · simp [g, ih]
noncomputable def Asc : List (Int × Int) → Prop
  | [] => True
  | [_] => True
  | p :: q :: r => p.2 < q.2 ∧ Asc (q :: r)
theorem lt1 {g h a b : Int} (l : a < b) : ltP (-h, b) (-g, a) = decide (g < h) := by
  unfold ltP
  by_cases e : -h = -g
  · rw [if_pos e]; rw [decide_eq_false (by dsimp only; lia), decide_eq_false (by lia)]
  · rw [if_neg e]; congr 1; simp only [eq_iff_iff]; lia
theorem lt2 {g h a b : Int} (l : a < b) : ltP (-g, a) (-h, b) = decide (¬ g < h) := by
  unfold ltP
  by_cases e : -g = -h
  · rw [if_pos e]; rw [decide_eq_true (by dsimp only; lia), decide_eq_true (by lia)]
  · rw [if_neg e]; congr 1; simp only [eq_iff_iff]; lia
theorem sort_take : ∀ {ps : List (Int × Int)}, ps.length ≤ 3 → Asc ps → sortL (negL ps) = takeL ps.length ps
  | [], _, _ => rfl
  | [p], _, _ => by simp [sortL, negL, ordK, takeL, bestIx, bestGo]
  | [p, q], _, h => by
    obtain ⟨g, a⟩ := p; obtain ⟨k, b⟩ := q
    have l : a < b := h.1
    have e : List.range 1 = [0] := rfl
    by_cases c : g < k
    · simp [sortL, negL, ordK, takeL, bestIx, bestGo, lt1 l, c, e]
    · simp [sortL, negL, ordK, takeL, bestIx, bestGo, lt1 l, c, e]
  | [p, q, r], _, h => by
    obtain ⟨g, a⟩ := p; obtain ⟨k, b⟩ := q; obtain ⟨j, d⟩ := r
    have l : a < b := h.1
    have l' : b < d := h.2.1
    have l'' : a < d := by lia
    have e : List.range 1 = [0] := rfl
    have e2 : List.range 2 = [0, 1] := rfl
    by_cases c1 : g < k <;> by_cases c2 : k < j <;> by_cases c3 : g < j <;> first | (exfalso; lia) | simp [sortL, negL, ordK, takeL, bestIx, bestGo, lt1 l, lt1 l', lt1 l'', lt2 l, lt2 l', lt2 l'', c1, c2, c3, e, e2]
  | _ :: _ :: _ :: _ :: _, h, _ => by simp at h
/-! two killers -/
theorem con2 (f k m : Int) : [f, k].contains m = (m == f || m == k) := by
  rw [List.contains_cons, List.contains_cons, List.contains_nil, Bool.or_false]
theorem filt0 {f k : Int} {l : List Int} (hf : f ∉ l) (hk : k ∉ l) : l.filter (fun m => [f, k].contains m) = [] :=
  List.filter_eq_nil_iff.mpr fun m hm h => by
    rw [con2, Bool.or_eq_true, beq_iff_eq, beq_iff_eq] at h
    rcases h with h | h
    · exact hf (h ▸ hm)
    · exact hk (h ▸ hm)
theorem filtB {x : Int} {l : List Int} (n : l.Nodup) (hx : x ∈ l) : l.filter (fun m => m == x) = [x] := by
  induction l with
  | nil => cases hx
  | cons a l ih =>
    obtain ⟨n1, n2⟩ := List.nodup_cons.mp n
    rw [List.filter_cons]
    by_cases e : a = x
    · have : l.filter (fun m => m == x) = [] := List.filter_eq_nil_iff.mpr fun m hm h => n1 (by rw [e, ← beq_iff_eq.mp h]; exact hm)
      rw [if_pos (beq_iff_eq.mpr e), e, this]
    · rw [if_neg fun h => e (beq_iff_eq.mp h)]
      exact ih n2 ((List.mem_cons.mp hx).resolve_left (Ne.symm e))
theorem filt1 {f k x : Int} {l : List Int} (n : l.Nodup) (hx : x ∈ l) (h : ∀ m ∈ l, [f, k].contains m = (m == x)) : l.filter (fun m => [f, k].contains m) = [x] := by
  rw [List.filter_congr h]; exact filtB n hx
theorem filt2 {f k : Int} (e : f ≠ k) : ∀ l : List Int, l.Nodup → f ∈ l → k ∈ l → l.filter (fun m => [f, k].contains m) = [f, k] ∨ l.filter (fun m => [f, k].contains m) = [k, f] := by
  intro l
  induction l with
  | nil => intro _ h; cases h
  | cons a l ih =>
    intro n hf hk
    obtain ⟨n1, n2⟩ := List.nodup_cons.mp n
    rw [List.filter_cons, con2]
    by_cases q1 : a = f
    · left
      subst q1
      rw [beq_self_eq_true, Bool.true_or, if_pos rfl, filt1 n2 ((List.mem_cons.mp hk).resolve_left (Ne.symm e)) fun m hm => ?_]
      rw [con2, beq_eq_false_iff_ne.mpr fun q : m = a => n1 (q ▸ hm), Bool.false_or]
    · have hf' := (List.mem_cons.mp hf).resolve_left (Ne.symm q1)
      by_cases q2 : a = k
      · right
        subst q2
        rw [beq_self_eq_true, Bool.or_true, if_pos rfl, filt1 n2 hf' fun m hm => ?_]
        rw [con2, beq_eq_false_iff_ne.mpr fun q : m = a => n1 (q ▸ hm), Bool.or_false]
      · rw [beq_eq_false_iff_ne.mpr q1, beq_eq_false_iff_ne.mpr q2]
        exact ih n2 hf' ((List.mem_cons.mp hk).resolve_left (Ne.symm q2))
theorem kill_take (f k : Int) {l : List Int} (n : l.Nodup) : sortL (killMarks [f, k] l) = (killL [f, k] l).1.map (·.2) ∧ (killL [f, k] l).2 = outL l ((killL [f, k] l).1.map (·.2)) := by
  have i0 : ([f, k] : List Int).idxOf f = 0 := by rw [List.idxOf_cons, beq_self_eq_true]; rfl
  have out1 : ∀ x, l.erase x = outL l [x] := fun x => by
    rw [n.erase_eq_filter]; unfold outL
    refine List.filter_congr fun m _ => ?_
    rw [List.contains_cons, List.contains_nil, Bool.or_false]; rfl
  have out0 : l = outL l [] := by unfold outL; exact (List.filter_eq_self.mpr fun m _ => rfl).symm
  unfold killMarks
  by_cases hf : f ∈ l
  · have e1 : killL [f, k] l = ((0, f) :: (killL [k] (l.erase f)).1, (killL [k] (l.erase f)).2) := by
      show (if f ∈ l then _ else _) = _
      rw [if_pos hf]
    by_cases e : f = k
    · subst e
      have e2 : killL [f] (l.erase f) = ([], l.erase f) := by
        show (if f ∈ l.erase f then _ else _) = _
        rw [if_neg n.not_mem_erase]; rfl
      rw [e1, e2, filt1 n hf fun m _ => by rw [con2, Bool.or_self]]
      exact ⟨rfl, out1 f⟩
    · by_cases hk : k ∈ l
      · have i1 : ([f, k] : List Int).idxOf k = 1 := by rw [List.idxOf_cons, beq_eq_false_iff_ne.mpr e]; show [k].idxOf k + 1 = 1; rw [List.idxOf_cons, beq_self_eq_true]; rfl
        have e2 : killL [k] (l.erase f) = ([(0, k)], (l.erase f).erase k) := by
          show (if k ∈ l.erase f then _ else _) = _
          rw [if_pos ((List.mem_erase_of_ne (Ne.symm e)).mpr hk)]; rfl
        rw [e1, e2]
        refine ⟨?_, ?_⟩
        · rcases filt2 e l n hf hk with h | h <;> rw [h, List.map_cons, List.map_cons, List.map_nil, i0, i1] <;> rfl
        · show (l.erase f).erase k = outL l [f, k]
          rw [(n.erase f).erase_eq_filter, n.erase_eq_filter, List.filter_filter]; unfold outL
          refine List.filter_congr fun m _ => ?_
          rw [con2, Bool.not_or, Bool.and_comm]; rfl
      · have e2 : killL [k] (l.erase f) = ([], l.erase f) := by
          show (if k ∈ l.erase f then _ else _) = _
          rw [if_neg fun h => hk (List.mem_of_mem_erase h)]; rfl
        rw [e1, e2, filt1 n hf fun m hm => by rw [con2, beq_eq_false_iff_ne (b := k).mpr fun q => hk (q ▸ hm), Bool.or_false]]
        exact ⟨rfl, out1 f⟩
  · have e1 : killL [f, k] l = killL [k] l := by
      show (if f ∈ l then _ else _) = _
      rw [if_neg hf]
    by_cases hk : k ∈ l
    · have e2 : killL [k] l = ([(0, k)], l.erase k) := by
        show (if k ∈ l then _ else _) = _
        rw [if_pos hk]; rfl
      rw [e1, e2, filt1 n hk fun m hm => by rw [con2, beq_eq_false_iff_ne (b := f).mpr fun q => hf (q ▸ hm), Bool.false_or]]
      exact ⟨rfl, out1 k⟩
    · have e2 : killL [k] l = ([], l) := by
        show (if k ∈ l then _ else _) = _
        rw [if_neg hk]; rfl
      rw [e1, e2, filt0 hf hk]
      exact ⟨rfl, out0⟩
/-! PE -/
abbrev Up (l : List Int) : Prop := l.Pairwise (· < ·)
theorem goodL_snd (w : Row) : ∀ ms : List Int, (goodL w ms).map (·.2) = ms.filter fun m => w.ld m && decide (0 ≤ w.gn' m)
  | [] => rfl
  | m :: ms => by
    have ih := goodL_snd w ms
    unfold goodL
    rw [List.filter_cons]
    by_cases h : w.ld m = true ∧ 0 ≤ w.gn' m
    · rw [if_pos h, if_pos (by simp [h.1, h.2]), List.map_cons, ih]
    · rw [if_neg h, if_neg (by simpa using h), ih]
theorem loseL_snd (w : Row) : ∀ ms : List Int, (loseL w ms).map (·.2) = ms.filter fun m => w.ld m && !decide (0 ≤ w.gn' m)
  | [] => rfl
  | m :: ms => by
    have ih := loseL_snd w ms
    unfold loseL
    rw [List.filter_cons]
    by_cases h : w.ld m = true ∧ ¬ 0 ≤ w.gn' m
    · rw [if_pos h, if_pos (by simp [h.1, h.2]), List.map_cons, ih]
    · rw [if_neg h, if_neg (by simpa using h), ih]
theorem calmL_eq (w : Row) : ∀ ms : List Int, calmL w ms = ms.filter fun m => !w.ld m
  | [] => rfl
  | m :: ms => by
    have ih := calmL_eq w ms
    unfold calmL
    rw [List.filter_cons]
    cases w.ld m with
    | true => simpa using ih
    | false => simpa using ih
theorem loseL_filter (w : Row) (p : Int → Bool) : ∀ ms : List Int, (∀ m ∈ ms, w.ld m = true → ¬ 0 ≤ w.gn' m → p m = true) → loseL w (ms.filter p) = loseL w ms
  | [], _ => rfl
  | m :: ms, h => by
    have ih := loseL_filter w p ms fun x hx => h x (List.mem_cons_of_mem _ hx)
    rw [List.filter_cons]
    by_cases q : p m = true
    · rw [if_pos q]; unfold loseL; rw [ih]
    · rw [if_neg q, ih]
      conv => rhs; unfold loseL
      rw [if_neg fun g => q (h m List.mem_cons_self g.1 g.2)]
theorem asc_of : ∀ {ps : List (Int × Int)}, Up (ps.map (·.2)) → Asc ps
  | [], _ => trivial
  | [_], _ => trivial
  | p :: q :: r, h => by
    simp only [List.map_cons] at h
    have h' := List.pairwise_cons.mp h
    exact ⟨h'.1 _ List.mem_cons_self, asc_of (by simpa only [List.map_cons] using h'.2)⟩
theorem eraseIdx_sub {α : Type} : ∀ {l : List α} {i : Nat} {x : α}, x ∈ l.eraseIdx i → x ∈ l
  | [], _, _, h => by simp at h
  | a :: l, 0, x, h => List.mem_cons_of_mem _ (by simpa using h)
  | a :: l, i + 1, x, h => by
    rw [List.eraseIdx_cons_succ] at h
    rcases List.mem_cons.mp h with rfl | h
    · exact List.mem_cons_self
    · exact List.mem_cons_of_mem _ (eraseIdx_sub h)
theorem takeL_mem : ∀ {n : Nat} {ps : List (Int × Int)} {x : Int}, x ∈ takeL n ps → x ∈ ps.map (·.2)
  | 0, _, _, h => by cases h
  | n + 1, ps, x, h => by
    unfold takeL at h
    split at h
    · cases h
    · rename_i hne
      rcases List.mem_cons.mp h with rfl | h
      · have hl := bestIx_lt hne
        rw [List.getD_eq_getElem?_getD, List.getElem?_eq_getElem hl]
        exact List.mem_map_of_mem (List.getElem_mem hl)
      · have := takeL_mem h
        obtain ⟨q, hq, e⟩ := List.mem_map.mp this
        exact List.mem_map.mpr ⟨q, eraseIdx_sub hq, e⟩
theorem killL_mem : ∀ {ks l : List Int} {x : Int}, x ∈ (killL ks l).1.map (·.2) → x ∈ l
  | [], _, _, h => by cases h
  | k :: ks, l, x, h => by
    unfold killL at h
    split at h
    · rename_i hk
      rw [List.map_cons] at h
      rcases List.mem_cons.mp h with rfl | h
      · exact hk
      · exact List.mem_of_mem_erase (killL_mem h)
    · exact killL_mem h
theorem killL_score : ∀ {ks l : List Int} {p : Int × Int}, p ∈ (killL ks l).1 → p.1 = 0
  | [], _, _, h => by cases h
  | k :: ks, l, x, h => by
    unfold killL at h
    split at h
    · rcases List.mem_cons.mp h with rfl | h
      · rfl
      · exact killL_score h
    · exact killL_score h
theorem take_zero : ∀ {ps : List (Int × Int)}, ps.length ≤ 2 → (∀ p ∈ ps, p.1 = 0) → takeL ps.length ps = ps.map (·.2)
  | [], _, _ => rfl
  | [p], _, _ => by simp [takeL, bestIx, bestGo]
  | [p, q], _, h => by
    have h1 := h p (by simp)
    have h2 := h q (by simp)
    have e : List.range 1 = [0] := rfl
    simp [takeL, bestIx, bestGo, h1, h2, e]
  | _ :: _ :: _ :: _, h, _ => by simp at h
theorem killL_zero {l : List Int} (h : (0 : Int) ∉ l) : killL [0, 0] l = ([], l) := by
  simp [killL, h]
structure Link (w : Row) (ks : List Nat) (turn rest : List Int) (q : Ps) : Prop where
  asc : Up rest
  pos : ∀ m ∈ rest, 1 ≤ m ∧ m ≤ w.kids.length
  tpos : ∀ m ∈ turn, 1 ≤ m ∧ m ≤ w.kids.length
  few : rest.length ≤ 3
  turn : turn = takeL q.ready.length q.ready
  st : (q.stage ≤ 1 ∧ ks = [1, 2, 3, 4] ∧ q.left = rest ∧ q.losing = [] ∧ q.ready = []) ∨ (q.stage = 2 ∧ ks = [2, 3, 4] ∧ q.left = calmL w rest ∧ q.losing = loseL w rest) ∨ (q.stage = 3 ∧ ks = [3, 4] ∧ q.left = calmL w rest ∧ q.losing = loseL w rest) ∨ (q.stage = 4 ∧ ks = [4] ∧ q.losing = loseL w rest) ∨ (q.stage = 5 ∧ ks = [])
theorem outL_up {rest turn : List Int} (h : Up rest) : Up (outL rest turn) := h.filter _
theorem outL_mem {rest turn : List Int} {m : Int} (h : m ∈ outL rest turn) : m ∈ rest := (List.mem_filter.mp h).1
theorem outL_len (rest turn : List Int) : (outL rest turn).length ≤ rest.length := List.length_filter_le _ _
theorem good_in {w : Row} {ms : List Int} {x : Int} (h : x ∈ (goodL w ms).map (·.2)) : x ∈ ms ∧ w.ld x = true ∧ 0 ≤ w.gn' x := by
  rw [goodL_snd] at h
  obtain ⟨a, b⟩ := List.mem_filter.mp h
  simpa [a] using b
theorem lose_in {w : Row} {ms : List Int} {x : Int} (h : x ∈ (loseL w ms).map (·.2)) : x ∈ ms ∧ w.ld x = true ∧ ¬ 0 ≤ w.gn' x := by
  rw [loseL_snd] at h
  obtain ⟨a, b⟩ := List.mem_filter.mp h
  simpa [a] using b
theorem calm_in {w : Row} {ms : List Int} {x : Int} (h : x ∈ calmL w ms) : x ∈ ms ∧ w.ld x = false := by
  rw [calmL_eq] at h
  obtain ⟨a, b⟩ := List.mem_filter.mp h
  simpa [a] using b
theorem past_snd (s : LS) (side : Int) (l : List Int) : (pastL s side l).map (·.2) = l := by
  simp [pastL, List.map_map, Function.comp_def]
section
variable {w : Row} {s : LS} {ply : Nat}
theorem stage1 {rest : List Int} (h : Up rest) (few : rest.length ≤ 3) : stM w ply s 1 rest = takeL (goodL w rest).length (goodL w rest) := by
  unfold stM
  rw [mark1]
  exact sort_take (Nat.le_trans (goodL_len w rest) few) (asc_of (by rw [goodL_snd]; exact h.filter _))
theorem stage4 {rest : List Int} (h : Up rest) (few : rest.length ≤ 3) : stM w ply s 4 rest = takeL (loseL w rest).length (loseL w rest) := by
  unfold stM
  rw [mark4]
  exact sort_take (Nat.le_trans (loseL_len w rest) few) (asc_of (by rw [loseL_snd]; exact h.filter _))
theorem stage3 {rest : List Int} (h : Up rest) (few : rest.length ≤ 3) : stM w ply s 3 rest = takeL (pastL s ((ply % 2 : Nat) : Int) (calmL w rest)).length (pastL s ((ply % 2 : Nat) : Int) (calmL w rest)) := by
  unfold stM
  rw [mark3]
  refine sort_take ?_ (asc_of (by rw [past_snd, calmL_eq]; exact h.filter _))
  unfold pastL; rw [List.length_map]; exact Nat.le_trans (calmL_len w rest) few
theorem stage2 {rest : List Int} (h : Up rest) (few : rest.length ≤ 3) (hk : s.k1.length = s.k2.length) (pos : ∀ m ∈ rest, 1 ≤ m) :
    stM w ply s 2 rest = takeL (killL [s.k1.getD ply 0, s.k2.getD ply 0] (calmL w rest)).1.length (killL [s.k1.getD ply 0, s.k2.getD ply 0] (calmL w rest)).1 ∧
      (∀ x ∈ stM w ply s 2 rest, x ∈ calmL w rest) ∧ (killL [s.k1.getD ply 0, s.k2.getD ply 0] (calmL w rest)).2 = outL (calmL w rest) (stM w ply s 2 rest) := by
  have hup : Up (calmL w rest) := by rw [calmL_eq]; exact h.filter _
  have hfew : (calmL w rest).length ≤ 3 := Nat.le_trans (calmL_len w rest) few
  have htz := take_zero (ps := (killL [s.k1.getD ply 0, s.k2.getD ply 0] (calmL w rest)).1) (killL_len _ _).1 fun p hp => killL_score hp
  unfold stM
  rw [mark2]
  unfold LS.pairL
  by_cases hp : ply < s.k1.length
  · rw [if_pos hp]
    obtain ⟨e1, e2⟩ := kill_take (s.k1.getD ply 0) (s.k2.getD ply 0) (hup.imp fun h => Int.ne_of_lt h)
    rw [htz, e1]
    exact ⟨rfl, fun x hx => killL_mem hx, e2⟩
  · rw [if_neg hp]
    have e1 : s.k1.getD ply 0 = 0 := by rw [List.getD_eq_getElem?_getD, List.getElem?_eq_none (by lia)]; rfl
    have e2 : s.k2.getD ply 0 = 0 := by rw [List.getD_eq_getElem?_getD, List.getElem?_eq_none (by lia)]; rfl
    have h0 : (0 : Int) ∉ calmL w rest := fun hm => by have := pos 0 (calm_in hm).1; lia
    rw [e1, e2, killL_zero h0]
    have e3 : killMarks [] (calmL w rest) = [] := by unfold killMarks; simp
    rw [e3]
    refine ⟨rfl, fun x hx => (by cases hx), ?_⟩
    show calmL w rest = outL (calmL w rest) []
    unfold outL; simp only [List.contains_nil, Bool.not_false]; exact (List.filter_eq_self.mpr fun _ _ => rfl).symm
theorem calm_out {rest turn : List Int} (h : ∀ x ∈ turn, w.ld x = true) : calmL w (outL rest turn) = calmL w rest := by
  rw [calmL_eq, calmL_eq]
  unfold outL
  rw [List.filter_filter]
  apply List.filter_congr
  intro x hx
  cases hl : w.ld x with
  | true => simp
  | false =>
    have : x ∉ turn := fun q => by have := h x q; rw [hl] at this; cases this
    simp [this]
theorem calm_out2 {rest turn : List Int} : calmL w (outL rest turn) = outL (calmL w rest) turn := by
  rw [calmL_eq, calmL_eq]
  unfold outL
  rw [List.filter_filter, List.filter_filter]
  apply List.filter_congr
  intro x hx
  rw [Bool.and_comm]
theorem lose_out {rest turn : List Int} (h : ∀ x ∈ turn, ¬ (w.ld x = true ∧ ¬ 0 ≤ w.gn' x)) : loseL w (outL rest turn) = loseL w rest := by
  unfold outL
  apply loseL_filter
  intro m _ h1 h2
  have : m ∉ turn := fun q => h m q ⟨h1, h2⟩
  simp [this]
theorem link_fill {ks : List Nat} {turn rest : List Int} {q : Ps} (L : Link w ks turn rest q) (hr : q.ready = []) (hs : q.stage ≤ 4) (hk : s.k1.length = s.k2.length) :
    ∃ ks' turn' rest', nextL (stM w ply s) ks turn rest = nextL (stM w ply s) ks' turn' rest' ∧ Link w ks' turn' rest' (q.fill w s ply) := by
  obtain ⟨asc, pos, tpos, few, ht, st⟩ := L
  have ht0 : turn = [] := by rw [ht, hr]; rfl
  subst ht0
  have p1 : ∀ m ∈ rest, 1 ≤ m := fun m hm => (pos m hm).1
  have op : ∀ turn, ∀ m ∈ outL rest turn, 1 ≤ m ∧ m ≤ w.kids.length := fun turn m hm => pos m (outL_mem hm)
  have of' : ∀ turn, (outL rest turn).length ≤ 3 := fun turn => Nat.le_trans (outL_len rest turn) few
  rcases st with ⟨h1, rfl, h3, h4, h5⟩ | ⟨h1, rfl, h3, h4⟩ | ⟨h1, rfl, h3, h4⟩ | ⟨h1, rfl, h4⟩ | ⟨h1, -⟩
  · by_cases z : q.stage = 0
    · refine ⟨[1, 2, 3, 4], [], rest, rfl, asc, pos, tpos, few, ?_, .inl ?_⟩
      · unfold Ps.fill fillM; rw [z]; rfl
      · unfold Ps.fill fillM; rw [z]; exact ⟨Nat.le_refl _, rfl, h3, h4, rfl⟩
    · have z1 : q.stage = 1 := by lia
      have e : nextL (stM w ply s) [1, 2, 3, 4] [] rest = nextL (stM w ply s) [2, 3, 4] (stM w ply s 1 rest) (outL rest (stM w ply s 1 rest)) := by rw [nextL]
      have s1 := stage1 (w := w) (s := s) (ply := ply) asc few
      have mem : ∀ x ∈ stM w ply s 1 rest, x ∈ rest ∧ w.ld x = true ∧ 0 ≤ w.gn' x := fun x hx => good_in (takeL_mem (s1 ▸ hx))
      refine ⟨_, _, _, e, outL_up asc, op _, fun m hm => pos m (mem m hm).1, of' _, ?_, .inr (.inl ?_)⟩
      · rw [s1]; unfold Ps.fill fillM; rw [z1, h3]; rfl
      · unfold Ps.fill fillM
        rw [z1, h3, h4, calm_out fun x hx => (mem x hx).2.1, lose_out fun x hx g => g.2 (mem x hx).2.2]
        exact ⟨rfl, rfl, rfl, rfl⟩
  · have e : nextL (stM w ply s) [2, 3, 4] [] rest = nextL (stM w ply s) [3, 4] (stM w ply s 2 rest) (outL rest (stM w ply s 2 rest)) := by rw [nextL]
    obtain ⟨s2, mem, out⟩ := stage2 (w := w) (s := s) (ply := ply) asc few hk p1
    refine ⟨_, _, _, e, outL_up asc, op _, fun m hm => pos m (calm_in (mem m hm)).1, of' _, ?_, .inr (.inr (.inl ?_))⟩
    · rw [s2]; unfold Ps.fill fillM; rw [h1, h3]; rfl
    · unfold Ps.fill fillM
      rw [h1, h3, h4, calm_out2, lose_out fun x hx g => by rw [(calm_in (mem x hx)).2] at g; exact Bool.false_ne_true g.1]
      exact ⟨rfl, rfl, out, rfl⟩
  · have e : nextL (stM w ply s) [3, 4] [] rest = nextL (stM w ply s) [4] (stM w ply s 3 rest) (outL rest (stM w ply s 3 rest)) := by rw [nextL]
    have s3 := stage3 (w := w) (s := s) (ply := ply) asc few
    have mem : ∀ x ∈ stM w ply s 3 rest, x ∈ calmL w rest := fun x hx => by have := takeL_mem (s3 ▸ hx); rwa [past_snd] at this
    refine ⟨_, _, _, e, outL_up asc, op _, fun m hm => pos m (calm_in (mem m hm)).1, of' _, ?_, .inr (.inr (.inr (.inl ?_)))⟩
    · rw [s3]; unfold Ps.fill fillM; rw [h1, h3]; rfl
    · unfold Ps.fill fillM
      rw [h1, h4, lose_out fun x hx g => by rw [(calm_in (mem x hx)).2] at g; exact Bool.false_ne_true g.1]
      exact ⟨rfl, rfl, rfl⟩
  · have e : nextL (stM w ply s) [4] [] rest = nextL (stM w ply s) [] (stM w ply s 4 rest) (outL rest (stM w ply s 4 rest)) := by rw [nextL]
    have s4 := stage4 (w := w) (s := s) (ply := ply) asc few
    refine ⟨_, _, _, e, outL_up asc, op _, fun m hm => pos m (lose_in (takeL_mem (s4 ▸ hm))).1, of' _, ?_, .inr (.inr (.inr (.inr ?_)))⟩
    · rw [s4]; unfold Ps.fill fillM; rw [h1, h4]; rfl
    · unfold Ps.fill fillM
      rw [h1]
      exact ⟨rfl, rfl⟩
  · lia
theorem link_next (hk : s.k1.length = s.k2.length) : ∀ (k : Nat) {ks : List Nat} {turn rest : List Int} {q : Ps}, k = 5 - q.stage → q.stage ≤ 5 → Link w ks turn rest q →
    ∃ ks' turn' rest', nextL (stM w ply s) ks turn rest = ((nextP w s ply k q).1, ks', turn', rest') ∧ Link w ks' turn' rest' (nextP w s ply k q).2 ∧ (nextP w s ply k q).2.stage ≤ 5 := by
  have tk : ∀ {ks : List Nat} {turn rest : List Int} {q : Ps}, q.stage ≤ 5 → Link w ks turn rest q → q.ready ≠ [] → ∃ ks' turn' rest', nextL (stM w ply s) ks turn rest = (q.take.1, ks', turn', rest') ∧ Link w ks' turn' rest' q.take.2 ∧ q.take.2.stage ≤ 5 := by
    intro ks turn rest q hs L hr
    have hlen : q.ready.length = (q.ready.eraseIdx (bestIx q.ready)).length + 1 := by
      rw [List.length_eraseIdx_of_lt (bestIx_lt hr)]
      have := List.length_pos_iff.mpr hr; omega
    have e : turn = q.take.1 :: takeL (q.ready.eraseIdx (bestIx q.ready)).length (q.ready.eraseIdx (bestIx q.ready)) := by
      rw [L.turn, hlen]
      conv => lhs; unfold takeL
      rw [if_neg hr]; rfl
    refine ⟨ks, takeL (q.ready.eraseIdx (bestIx q.ready)).length (q.ready.eraseIdx (bestIx q.ready)), rest, ?_, ⟨L.asc, L.pos, fun m hm => L.tpos m (by rw [e]; exact List.mem_cons_of_mem _ hm), L.few, rfl, ?_⟩, hs⟩
    · rw [e]; cases ks <;> simp [nextL]
    · rcases L.st with ⟨h1, h2, h3, h4, h5⟩ | h | h | h | h
      · exact absurd h5 hr
      · exact .inr (.inl h)
      · exact .inr (.inr (.inl h))
      · exact .inr (.inr (.inr (.inl h)))
      · exact .inr (.inr (.inr (.inr h)))
  intro k
  induction k with
  | zero =>
    intro ks turn rest q hk' hs L
    unfold nextP
    by_cases hr : q.ready ≠ []
    · rw [if_pos hr]; exact tk hs L hr
    · rw [if_neg hr]
      have hr' : q.ready = [] := by simpa using hr
      have ht : turn = [] := by rw [L.turn, hr']; rfl
      have hks : ks = [] := by
        rcases L.st with ⟨h1, -⟩ | ⟨h1, -⟩ | ⟨h1, -⟩ | ⟨h1, -⟩ | ⟨h1, h⟩
        · omega
        · omega
        · omega
        · omega
        · exact h
      exact ⟨ks, turn, rest, by rw [ht, hks]; simp [nextL], L, hs⟩
  | succ k ih =>
    intro ks turn rest q hk' hs L
    unfold nextP
    by_cases hr : q.ready ≠ []
    · rw [if_pos hr]; exact tk hs L hr
    · rw [if_neg hr]
      have hr' : q.ready = [] := by simpa using hr
      obtain ⟨ks', turn', rest', e, L'⟩ := link_fill (s := s) (ply := ply) L hr' (by omega) hk
      rw [e]
      exact ih (by show k = 5 - (q.stage + 1); omega) (by show q.stage + 1 ≤ 5; omega) L'
end
/-! PF -/
/-! how much is left -/
noncomputable def Ps.mu (q : Ps) : Nat := (if q.stage ≤ 3 then q.left.length else 0) + q.ready.length + (if q.stage ≤ 4 then q.losing.length else 0)
theorem split_len (w : Row) : ∀ ms : List Int, (goodL w ms).length + (calmL w ms).length + (loseL w ms).length = ms.length
  | [] => rfl
  | m :: ms => by
    have ih := split_len w ms
    unfold goodL calmL loseL
    cases w.ld m with
    | false => simp; lia
    | true =>
      by_cases g : 0 ≤ w.gn' m
      · simp [g]; lia
      · simp [g]; lia
theorem kill_split : ∀ ks ms : List Int, (killL ks ms).1.length + (killL ks ms).2.length = ms.length
  | [], ms => by simp [killL]
  | k :: ks, ms => by
    unfold killL
    split
    · rename_i h
      have := kill_split ks (ms.erase k)
      have h2 := List.length_erase_of_mem h
      have h3 := List.length_pos_of_mem h
      simp only [List.length_cons]; lia
    · exact kill_split ks ms
theorem mu_fill {w : Row} {s : LS} {ply : Nat} {q : Ps} (hr : q.ready = []) (hs : q.stage ≤ 4) : (q.fill w s ply).mu ≤ q.mu := by
  have hst : q.stage = 0 ∨ q.stage = 1 ∨ q.stage = 2 ∨ q.stage = 3 ∨ q.stage = 4 := by lia
  have a1 := split_len w q.left
  have a2 := kill_split [s.k1.getD ply 0, s.k2.getD ply 0] q.left
  unfold Ps.fill fillM Ps.mu
  rcases hst with e | e | e | e | e <;> rw [e, hr]
  · simp
  · simp; lia
  · simp at a2 ⊢; lia
  · simp [pastL]
  · simp
theorem mu_take {q : Ps} (hr : q.ready ≠ []) : q.take.2.mu + 1 ≤ q.mu := by
  have h := List.length_eraseIdx_of_lt (bestIx_lt hr)
  have := List.length_pos_iff.mpr hr
  unfold Ps.take Ps.mu
  dsimp only
  rw [h]; lia
theorem mu_next {w : Row} {s : LS} {ply : Nat} : ∀ (k : Nat) {q : Ps}, k = 5 - q.stage → (nextP w s ply k q).1 ≠ 0 → (nextP w s ply k q).2.mu + 1 ≤ q.mu
  | 0, q, hk, h => by
    unfold nextP at h ⊢
    by_cases hr : q.ready ≠ []
    · rw [if_pos hr]; exact mu_take hr
    · rw [if_neg hr] at h; exact absurd rfl h
  | k + 1, q, hk, h => by
    unfold nextP at h ⊢
    by_cases hr : q.ready ≠ []
    · rw [if_pos hr]; exact mu_take hr
    · rw [if_neg hr] at h ⊢
      have h1 := mu_next k (by show k = 5 - (q.stage + 1); omega) h
      have h2 := mu_fill (w := w) (s := s) (ply := ply) (q := q) (by simpa using hr) (by omega)
      omega
theorem PsOk.take {w : Row} {q : Ps} (h : PsOk w q) : PsOk w q.take.2 :=
  ⟨h.few, h.pos, h.lf, Nat.le_trans (List.length_eraseIdx_le _ _) h.rf, h.l0⟩
theorem PsOk.next {w : Row} {s : LS} {ply : Nat} : ∀ (k : Nat) {q : Ps}, k = 5 - q.stage → PsOk w q → PsOk w (nextP w s ply k q).2
  | 0, q, hk, h => by
    unfold nextP
    split
    · exact h.take
    · exact h
  | k + 1, q, hk, h => by
    unfold nextP
    split
    · exact h.take
    · exact PsOk.next k (by show k = 5 - (q.stage + 1); lia) (h.fill s ply (by lia))
/-! the quiet search -/
noncomputable def rowD (t : List Row) (k : Nat) : Row := (t[k]?).getD ⟨0, 0, 0, [], 0, false, false, [], []⟩
noncomputable def kid (t : List Row) (w : Row) (m : Int) : Row := rowD t (w.kids.getD (m - 1).toNat 0)
noncomputable def quiet0 (w : Row) (ply : Nat) : Int := if 0 < ply ∧ w.drw = true then 0 else if w.chk = true ∧ w.kids = [] then (ply : Int) - 32000 else w.val
noncomputable def LS.see (s : LS) : LS := { s with seen := s.seen + 1 }
noncomputable def stepQ (t : List Row) (w : Row) (ply : Nat) (high : Int) : Stp := fun m a s =>
  (if high ≤ -(quiet0 (kid t w m) (ply + 1)) then some (if a.best < -(quiet0 (kid t w m) (ply + 1)) then -(quiet0 (kid t w m) (ply + 1)) else a.best) else none,
    { a with best := if a.best < -(quiet0 (kid t w m) (ply + 1)) then -(quiet0 (kid t w m) (ply + 1)) else a.best }, s.see)
noncomputable def allM (n : Nat) : List Int := (List.range n).map fun k : Nat => (k : Int) + 1
noncomputable def restQ (w : Row) : List Int := if w.chk = true then allM w.kids.length else (allM w.kids.length).filter w.ld
noncomputable def bestQ (w : Row) : Int := if w.chk = true then -32001 else w.val
noncomputable def runQ (t : List Row) (w : Row) (ply : Nat) (high : Int) (s : LS) : Option Int × Acc × LS := runStages (stepQ t w ply high) (stM w ply) [1, 2, 3, 4] (restQ w) ⟨bestQ w, 0, [], true⟩ s
noncomputable def resR (r : Option Int × Acc × LS) : Int × LS := (r.1.getD r.2.1.best, r.2.2)
noncomputable def quiet1 (t : List Row) (w : Row) (ply : Nat) (high : Int) (s : LS) : Int × LS :=
  if 0 < ply ∧ w.drw = true then (0, s.see) else if w.chk = true ∧ w.kids = [] then ((ply : Int) - 32000, s.see) else if ¬ w.chk = true ∧ high ≤ w.val then (w.val, s.see) else resR (runQ t w ply high s.see)
noncomputable def quietM (t : List Row) (lv : Nat) (w : Row) (ply : Nat) (high : Int) (s : LS) : Int × LS := if lv = 0 then (quiet0 w ply, s.see) else quiet1 t w ply high s
theorem allM_mem {n : Nat} {m : Int} (h : m ∈ allM n) : 1 ≤ m ∧ m ≤ n := by
  obtain ⟨k, hk, rfl⟩ := List.mem_map.mp h
  have := List.mem_range.mp hk
  lia
theorem allM_up (n : Nat) : Up (allM n) := by
  unfold allM Up
  rw [List.pairwise_map]
  exact List.pairwise_lt_range.imp fun h => by lia
theorem allM_len (n : Nat) : (allM n).length = n := by simp [allM]
section
variable {X : Cx} {r : Nat} {c : Cw}
theorem list_allM (n : Nat) : ((List.range n).map fun k : Nat => V.int (k + 1)) = (allM n).map .int := by
  unfold allM; rw [List.map_map]; rfl
inductive T431 (c : Cw) : TC
  | mk {σ Q d p n w} (G : GoodC c d σ) (A : At c d p n w) (h : New σ (.list (((allM w.kids.length).filter w.ld).map .int)) Q) : T431 c [.ref c.game] σ Q
inductive I431 (w : Row) (σ : St) (l D : Addr) (ns cs dn : List Int) (σ' : St) : Prop
  | mk (hD : σ' D = some (.list (cs.map .int))) (e2 : cs = dn.filter w.ld) (e : dn ++ ns = allM w.kids.length) (f : Fr [] σ σ') (hl : σ' l = some (.list ((allM w.kids.length).map .int))) (h0 : σ D = none) (hn : l ≠ D)
theorem c_431 (ok : c.Ok) (h6 : 6 ≤ r) (c_426 : SC X r (.ref 426) (T426 c)) (c_480 : SC X r (.ref 480) (T480 c)) : SC X (r + 3) (.ref 431) (T431 c) := by
  refine wG2 [(426, _), (480, _)] (hyC c_426 (hyC c_480 (hyN h6))) (fun Γ H (e426 : Γ 426 = T426 c) (e480 : Γ 480 = T480 c) => ?_) rfl rfl
  refine D_431.run H fun vs σ Q h => ?_
  induction h with | @mk σ Q d p n w G A hq =>
  refine prI rfl ?_
  have few := (ok.rows w A.mem).few
  simp! only []
  refine mS (G.m_game ok rfl) e426 ⟨G, A, fun l σ1 f1 l1 l2 => ?_⟩
  rw [list_allM] at l2
  simp! only []
  refine cM (src := .list l) V.int V.int (I431 w σ l) (allM w.kids.length) [] rfl rfl (rd_own l2) (by rw [allM_len]; lia) (fun D s _ r2 _ hs => .mk (hs ▸ upd_self _ _ _) rfl rfl (f1.trans (hs ▸ Fr.new r2)) (hs ▸ ne_upd r2 l2) (f1.none r2) (ne_of r2 l2))
    (fun D ns cs dn σ' h => ?_) (fun D m ns cs dn σ' h => ?_) (fun D cs dn σ' h => ?_)
  · induction h with | mk hD e2 e f hl _ _ =>
    refine ⟨rd_own hl, hD, ?_⟩
    have := List.length_filter_le w.ld dn
    rw [← e2] at this
    rw [← e, List.length_map, List.length_append]; lia
  · cases h with | mk hD e2 e f hl h0 hn =>
    have hm : m ∈ allM w.kids.length := by rw [← e]; exact List.mem_append_right _ List.mem_cons_self
    obtain ⟨m1, m2⟩ := allM_mem hm
    have G' := G.keep0 f
    simp! only []
    refine mS (G'.m_game ok rfl) e480 ⟨G', A, m1, m2, ?_⟩
    rw [show w.loud.getD (m - 1).toNat false = w.ld m from rfl]
    simp! only []
    refine ⟨fun hld => ?_, fun hld => ?_⟩
    · refine cT m (dn ++ [m]) hD (.mk ?_ ?_ (by rw [List.append_assoc]; exact e) (f.fresh Fr.u1 h0) ((upd_ne hn).trans hl) h0 hn)
      · rw [List.map_append]; exact upd_self _ _ _
      · rw [List.filter_append, e2]; simp [hld]
    · refine cN (dn ++ [m]) (.mk hD ?_ (by rw [List.append_assoc]; exact e) f hl h0 hn)
      rw [List.filter_append, e2]; simp [hld]
  · cases h with | mk hD e2 e f hl h0 hn =>
    rw [List.append_nil] at e
    subst e
    rw [e2] at hD
    exact hq D σ' f h0 hD
end
/-! PG -/
noncomputable def ordT : List (List Nat) := [[], [0], [1, 0], [0, 1], [2, 1, 0], [1, 2, 0], [1, 0, 2], [2, 0, 1], [0, 2, 1], [0, 1, 2]]
theorem ordK_in : ∀ ps : List (Int × Int), ordK ps ∈ ordT ∧ ∀ i ∈ ordK ps, i < ps.length
  | [] => ⟨by decide, by decide⟩
  | [p] => by
    show [0] ∈ ordT ∧ ∀ i ∈ [0], i < 1
    decide
  | [p, q] => by
    show (if ltP q p = true then [1, 0] else [0, 1]) ∈ ordT ∧ ∀ i ∈ (if ltP q p = true then [1, 0] else [0, 1]), i < 2
    generalize ltP q p = a
    revert a; decide
  | [p, q, r] => by
    show _ ∧ ∀ i ∈ _, i < 3
    simp only [ordK]
    generalize ltP q p = a1
    generalize ltP r q = a2
    generalize ltP q r = a3
    generalize ltP r p = a4
    generalize ltP p q = a5
    revert a1 a2 a3 a4 a5; decide
  | _ :: _ :: _ :: _ :: _ => by
    show [] ∈ ordT ∧ ∀ i ∈ [], i < _
    exact ⟨by decide, fun i h => by cases h⟩
theorem ordK_lt {ps : List (Int × Int)} {i : Nat} (h : i ∈ ordK ps) : i < ps.length := (ordK_in ps).2 i h
theorem ordK_len (ps : List (Int × Int)) : (ordK ps).length ≤ 3 := by
  have h : ∀ l ∈ ordT, l.length ≤ 3 := by decide
  exact h _ (ordK_in ps).1
theorem markL_mem {w : Row} {s : LS} {ply k : Nat} : ∀ {ms : List Int} {x : Int}, x ∈ (markL w s ply k ms).map (·.2) → x ∈ ms
  | [], _, h => by cases h
  | m :: ms, x, h => by
    unfold markL at h
    have ih := fun (h : x ∈ (markL w s ply k ms).map (·.2)) => List.mem_cons_of_mem m (markL_mem h)
    have two : ∀ i : Int, x ∈ ((i, m) :: markL w s ply k ms).map (·.2) → x ∈ m :: ms := fun i h => by
      rw [List.map_cons] at h
      rcases List.mem_cons.mp h with rfl | h
      · exact List.mem_cons_self
      · exact ih h
    repeat' split at h
    all_goals first | exact ih h | exact two _ h
theorem stM_mem {w : Row} {s : LS} {ply k : Nat} {ms : List Int} {x : Int} (h : x ∈ stM w ply s k ms) : x ∈ ms := by
  unfold stM sortL at h
  obtain ⟨i, hi, rfl⟩ := List.mem_map.mp h
  have hl := ordK_lt hi
  refine markL_mem (w := w) (s := s) (ply := ply) (k := k) ?_
  rw [List.getD_eq_getElem?_getD, List.getElem?_eq_getElem hl]
  exact List.mem_map_of_mem (List.getElem_mem hl)
noncomputable abbrev psK (K : Pk) (rdy : List (Int × Int)) : Ps := ⟨K.stage, K.left, rdy, K.losing⟩
structure Lp (c : Cw) (d : Dt) (p : List Nat) (n : Nat) (w : Row) (σ0 σ : St) (K : Pk) (rdy : List (Int × Int)) (ks : List Nat) (turn rest : List Int) : Prop where
  ask : Ask c K d p n w σ
  stg : K.stage ≤ 5
  tup : Tups σ K.rd rdy
  ps : PsOk w (psK K rdy)
  lk : Link w ks turn rest (psK K rdy)
  fr : ∀ x ∈ K.p :: K.own, σ0 x = none
section
variable {X : Cx} {r : Nat} {c : Cw} {d d' : Dt} {p : List Nat} {n : Nat} {w : Row} {σ0 σ σ' : St} {K : Pk} {rdy : List (Int × Int)} {ks : List Nat} {turn rest : List Int}
theorem Lp.world (L : Lp c d p n w σ0 σ K rdy ks turn rest) (G : GoodC c d' σ') (f : Fr c.MC σ σ') (hp : d'.path = d.path) (hl : NewIn σ d.ls d'.ls) : Lp c d' p n w σ0 σ' K rdy ks turn rest := by
  have a := L.ask
  have P := a.P
  have hown : ∀ m ∈ K.own, σ m ≠ none := fun m hm => by
    obtain ⟨x, hx⟩ := P.rdl
    obtain ⟨y, hy⟩ := P.lol
    unfold Pk.own at hm
    simp only [List.mem_cons, List.not_mem_nil, or_false] at hm
    rcases hm with rfl | rfl | rfl | rfl
    · rw [P.dict]; exact nofun
    · rw [P.left]; exact nofun
    · rw [hx]; exact nofun
    · rw [hy]; exact nofun
  refine ⟨⟨a.ok, G, ⟨hp.trans a.A.path, a.A.row⟩, P.mc a.G f, a.ply, fun m hm hq => ?_, a.pos, a.few, a.pl, a.lf⟩, L.stg, ?_, L.ps, L.lk, L.fr⟩
  · rcases hl m hq with h | h
    · exact a.ls m hm h
    · exact hown m hm h
  · refine L.tup.keep f a.G.notup fun h => (P.sep K.rd (by simp [Pk.own])).1 (mc_m h)
theorem Lp.next (L : Lp c d p n w σ0 σ K rdy ks turn rest) (h0 : ∀ x, σ0 x ≠ none → σ x ≠ none) {Q : V → St → Prop}
    (h : ∀ K' rdy' ks' turn' rest' m σ', Lp c d p n w σ0 σ' K' rdy' ks' turn' rest' → K'.p = K.p → nextL (stM w p.length d.s) ks turn rest = (m, ks', turn', rest') → (m ≠ 0 → (psK K' rdy').mu + 1 ≤ (psK K rdy).mu) → (m ≠ 0 → 1 ≤ m ∧ m ≤ w.kids.length) → Fr K.own σ σ' → (∀ x ∈ K'.own, x ∈ K.own ∨ σ x = none) → Q (.int m) σ') : T316 c [.ref K.p] σ Q := by
  have a := L.ask
  refine ⟨a, L.stg, L.tup, L.ps, ?_⟩
  have hk : d.s.k1.length = d.s.k2.length := a.G.n1.trans a.G.n2.symm
  obtain ⟨ks', turn', rest', e1, L1, s1⟩ := link_next (w := w) (s := d.s) (ply := p.length) hk (5 - K.stage) (q := psK K rdy) rfl L.stg L.lk
  intro K' σ' hp hd hply hown f P' T' q1 q2 q3
  have eK : psK K' (nextP w d.s p.length (5 - K.stage) (psK K rdy)).2.ready = (nextP w d.s p.length (5 - K.stage) (psK K rdy)).2 := by
    unfold psK at *; rw [q1, q2, q3]
  have ps' : PsOk w (psK K' (nextP w d.s p.length (5 - K.stage) (psK K rdy)).2.ready) := by
    rw [eK]; exact PsOk.next _ rfl L.ps
  have own' : ∀ m ∈ K'.own, m ∉ d.ls := fun m hm => (hown m hm).elim (a.ls m) a.G.not_ls
  refine h K' (nextP w d.s p.length (5 - K.stage) (psK K rdy)).2.ready ks' turn' rest' _ σ' ⟨⟨a.ok, a.G.pk f a.P (fun _ h => h) a.ls, a.A, P', hply.trans a.ply, own', ps'.pos, ps'.few, a.pl, ps'.lf⟩, by rw [q1]; exact s1, T', ps', by rw [eK]; exact L1, fun x hx => ?_⟩ hp e1 (fun hm => ?_) (fun hm => ?_) f hown
  · rcases List.mem_cons.mp hx with rfl | hx
    · rw [hp]; exact L.fr _ (by simp)
    · rcases hown x hx with h | h
      · exact L.fr x (List.mem_cons_of_mem _ h)
      · cases e : σ0 x with
        | none => rfl
        | some o => exact absurd h (h0 x (by rw [e]; exact nofun))
  · rw [eK]; exact mu_next _ rfl hm
  · have : ∀ (st : Nat → List Int → List Int) (hst : ∀ k rest, ∀ m ∈ st k rest, m ∈ rest) (ks : List Nat) (turn rest : List Int), (∀ m ∈ turn, 1 ≤ m ∧ m ≤ w.kids.length) → (∀ m ∈ rest, 1 ≤ m ∧ m ≤ w.kids.length) → (nextL st ks turn rest).1 ≠ 0 → 1 ≤ (nextL st ks turn rest).1 ∧ (nextL st ks turn rest).1 ≤ w.kids.length := by
      intro st hst ks
      induction ks with
      | nil =>
        intro turn rest h1 h2 h3
        cases turn with
        | nil => simp [nextL] at h3
        | cons m ms => simp only [nextL]; exact h1 m List.mem_cons_self
      | cons k ks ih =>
        intro turn rest h1 h2 h3
        cases turn with
        | nil => simp only [nextL] at h3 ⊢; exact ih _ _ (fun m hm => h2 m (hst _ _ m hm)) (fun m hm => h2 m (outL_mem hm)) h3
        | cons m ms => simp only [nextL]; exact h1 m List.mem_cons_self
    have g := this (stM w p.length d.s) (fun k rest m hm => stM_mem hm) ks turn rest L.lk.tpos L.lk.pos (by rw [e1]; exact hm)
    rw [e1] at g
    exact g

/-! quiesce -/
inductive T370 (c : Cw) (lv : Nat) : TC
  | mk {σ Q d p n w} {ml : Addr} {best alpha beta plyI : Int} {ms : List Int} (hlv : lv = 1) (hply : plyI = p.length) (G : GoodC c d σ) (A : At c d p n w) (hp : p.length < 8) (hml : σ ml = some (.list (ms.map .int))) (hup : Up ms) (hpos : ∀ m ∈ ms, 1 ≤ m ∧ m ≤ w.kids.length) (hfew : ms.length ≤ 3) (hb : best < beta ∨ best = -32001)
    (h : Nx c σ { d with s := (runStages (stepQ c.t w p.length beta) (stM w p.length) [1, 2, 3, 4] ms ⟨best, 0, [], true⟩ d.s).2.2 } fun σ' => Q (.int (resR (runStages (stepQ c.t w p.length beta) (stM w p.length) [1, 2, 3, 4] ms ⟨best, 0, [], true⟩ d.s)).1) σ') : T370 c lv [.ref c.ctx, .ref ml, .int best, .int alpha, .int beta, .int plyI, .int 1] σ Q
inductive T363 (c : Cw) (lv : Nat) : TC
  | mk {σ Q d p n w} {alpha beta plyI lvI : Int} (hply : plyI = p.length) (hlvI : lvI = (lv : Nat)) (G : GoodC c d σ) (A : At c d p n w) (hp : p.length + lv < 9) (hlv : lv ≤ 1)
    (h : Nx c σ { d with s := (quietM c.t lv w p.length beta d.s).2 } fun σ' => Q (.int (quietM c.t lv w p.length beta d.s).1) σ') : T363 c lv [.ref c.ctx, .int alpha, .int beta, .int plyI, .int lvI] σ Q
theorem quiet0_ge (ok : c.Ok) {w : Row} (hw : w ∈ c.t) (ply : Nat) (hp : ply ≤ 100) : -(quiet0 w ply) > -32001 := by
  obtain ⟨h1, h2⟩ := (ok.rows w hw).vb
  unfold quiet0
  split
  · lia
  · split <;> lia
theorem kid_at (ok : c.Ok) {w : Row} (hw : w ∈ c.t) {m : Int} (h1 : 1 ≤ m) (h2 : m ≤ w.kids.length) : c.t[w.kids.getD (m - 1).toNat 0]? = some (kid c.t w m) ∧ kid c.t w m ∈ c.t := by
  have R := ok.rows w hw
  have h : w.kids.getD (m - 1).toNat 0 ∈ w.kids := by
    rw [List.getD_eq_getElem?_getD, List.getElem?_eq_getElem (sub1 h1 h2)]
    exact List.getElem_mem _
  have hl := R.inn _ h
  have e : c.t[w.kids.getD (m - 1).toNat 0]? = some (kid c.t w m) := by
    unfold kid rowD
    rw [List.getElem?_eq_getElem hl]; rfl
  exact ⟨e, List.mem_of_getElem? e⟩
/-- what a loop over a picker holds -/
structure Lz where
  m : Int
  a : Acc
  bm : Int
  K : Pk
  rdy : List (Int × Int)
  ks : List Nat
  turn : List Int
  rest : List Int
  s : LS
  ls : List Addr
noncomputable def Lz.mu (z : Lz) : Nat := if z.m = 0 then 0 else (psK z.K z.rdy).mu + 1
theorem Lz.mu_lt {z z' : Lz} (h : z.m ≠ 0) (k : z'.m ≠ 0 → (psK z'.K z'.rdy).mu + 1 ≤ (psK z.K z.rdy).mu) : z'.mu < z.mu := by
  unfold Lz.mu
  rw [if_neg h]
  split
  · exact Nat.succ_pos _
  · rename_i q; exact Nat.lt_succ_of_le (k q)
inductive I370 (c : Cw) (d : Dt) (p : List Nat) (n : Nat) (w : Row) (σ0 : St) (beta : Int) (R : Option Int × Acc × LS) (kp : Addr) (z : Lz) (σ : St) : Prop
  | mk (L : Lp c { d with s := z.s } p n w σ0 σ z.K z.rdy z.ks z.turn z.rest) (hk : z.K.p = kp) (F : Fr c.MC σ0 σ) (mp : z.m ≠ 0 → 1 ≤ z.m ∧ z.m ≤ w.kids.length) (hR : thenR (stepQ c.t w p.length beta) (stM w p.length) (z.m, z.ks, z.turn, z.rest) ⟨z.a.best, 0, [], true⟩ z.s = R) (hb : z.a.best < beta ∨ z.a.best = -32001)
theorem c_370 (ok : c.Ok) (h6 : 6 ≤ r) (c_345 : SC X r (.ref 345) (T345 c)) (c_316 : SC X r (.ref 316) (T316 c)) (c_155 : SC X r (.ref 155) (T155 c)) (c_363 : SC X r (.ref 363) (T363 c 0)) (c_162 : SC X r (.ref 162) (T162 c)) : SC X (r + 3) (.ref 370) (T370 c 1) := by
  refine wG5 [(345, _), (316, _), (155, _), (363, _), (162, _)] (hyC c_345 (hyC c_316 (hyC c_155 (hyC c_363 (hyC c_162 (hyN h6)))))) (fun Γ H (e345 : Γ 345 = T345 c) (e316 : Γ 316 = T316 c) (e155 : Γ 155 = T155 c) (e363 : Γ 363 = T363 c 0) (e162 : Γ 162 = T162 c) => ?_) rfl rfl rfl rfl rfl
  refine D_370.run H fun vs σ Q h => ?_
  induction h with | @mk σ Q d p n w ml best alpha beta plyI ms _ hply G A hp hml hup hpos hfew hb hq =>
  subst hply
  refine prI rfl ?_
  obtain ⟨R, hR⟩ : ∃ R, R = runStages (stepQ c.t w p.length beta) (stM w p.length) [1, 2, 3, 4] ms ⟨best, 0, [], true⟩ d.s := ⟨_, rfl⟩
  rw [← hR] at hq
  simp! only [G.ctxs ok rfl]
  refine cS e345 ⟨G, hml, hfew, fun K σ1 fr f1 P st0 left0 los0 ply0 T0 => ?_⟩
  have G1 := G.keep0 f1
  have ps0 : PsOk w (psK K []) := ⟨by show K.left.length ≤ 3; rw [left0]; exact hfew, by show ∀ m ∈ K.left, _; rw [left0]; exact hpos, by show K.losing.length ≤ 3; rw [los0]; exact Nat.zero_le _, Nat.zero_le _, fun _ => los0⟩
  have lk0 : Link w [1, 2, 3, 4] [] ms (psK K []) := ⟨hup, hpos, fun m hm => by (cases hm), hfew, rfl, .inl ⟨by show K.stage ≤ 1; lia, rfl, left0, los0, rfl⟩⟩
  have L1 : Lp c d p n w σ σ1 K [] [1, 2, 3, 4] [] ms := ⟨⟨ok, G1, A, P, ply0, fun m hm => G.not_ls (fr m (List.mem_cons_of_mem _ hm)), by rw [left0]; exact hpos, by rw [left0]; exact hfew, by lia, by rw [los0]; exact Nat.zero_le _⟩, by lia, T0, ps0, lk0, fr⟩
  have own0 : ∀ x ∈ K.own, x ∈ c.MC ∨ σ x = none := fun x hx => .inr (fr x (List.mem_cons_of_mem _ hx))
  have hst : ∀ (s : LS) k rest, ∀ m ∈ stM w p.length s k rest, m ∈ rest := fun s k rest m hm => stM_mem hm
  simp! only []
  refine mS (P.meth rfl) e316 (L1.next (fun x hx => f1.dom x hx) fun K2 rdy2 ks2 turn2 rest2 m2 σ2 L2 kp2 nx2 mu2 mp2 f2 own2 => ?_)
  have R2 : thenR (stepQ c.t w p.length beta) (stM w p.length) (m2, ks2, turn2, rest2) ⟨best, 0, [], true⟩ d.s = R := by
    rw [← nx2, ← next_go _ (stM w p.length) _ _ (hst d.s) [1, 2, 3, 4] [] ms (fun m hm => by (cases hm)) (fun m hm => by have := hpos m hm; lia), hR]
    unfold goR runTurn; rfl
  simp! only []
  refine wM (fun z : Lz => [(50, .ref c.ctx), (95, .ref ml), (84, .int z.a.best), (25, .int z.bm), (26, .int beta), (11, .int p.length), (44, .int 1), (124, .ref K.p), (51, .int z.m)]) Lz.mu (I370 c d p n w σ beta R K.p) ⟨m2, ⟨best, 0, [], true⟩, alpha, K2, rdy2, ks2, turn2, rest2, d.s, d.ls⟩ rfl (.mk L2 kp2 (f1.nil.andThen f2 own0) mp2 R2 hb) fun z σ3 h => ?_
  obtain ⟨m, ⟨bst, _, _, _⟩, alp, K3, rdy3, ks3, turn3, rest3, s3, _⟩ := z
  cases h with | mk L3 kp3 F3 mp3 R3 hb3 =>
  dsimp only at L3 kp3 mp3 R3 hb3
  simp! only []
  refine iC (fun hm0 => ?_) fun hm0 => ?_
  · obtain ⟨m1, m2'⟩ := mp3 hm0
    have a3 := L3.ask
    obtain ⟨ek, hkid⟩ := kid_at ok A.mem m1 m2'
    simp! only []
    refine cS e155 ⟨a3.G, a3.A, by lia, m1, m2', fun σ4 G4 f4 => ?_⟩
    have A4 : At c { s := s3, made := d.made + 1, path := d.path ++ [w.kids.getD (m - 1).toNat 0], ls := d.ls } (p ++ [n]) (w.kids.getD (m - 1).toNat 0) (kid c.t w m) := ⟨by rw [A.path], ek⟩
    simp! only []
    refine cS e363 ⟨by simp, rfl, G4, A4, by simp; lia, by lia, fun σ5 G5 f5 => ?_⟩
    simp! only []
    refine cS e162 (T162.mk (p := p ++ [n]) G5 (by simp) (by rw [A4.path]) fun σ6 G6 f6 => ?_)
    have hs6 : (quietM c.t 0 (kid c.t w m) (p ++ [n]).length (-alp) s3) = (quiet0 (kid c.t w m) (p.length + 1), s3.see) := by
      unfold quietM; rw [if_pos rfl]; simp
    have G6' : GoodC c { d with s := s3.see } σ6 := by
      have e : ({ s := (quietM c.t 0 (kid c.t w m) (p ++ [n]).length (-alp) s3).2, made := d.made + 1 - 1, path := p ++ [n], ls := d.ls } : Dt) = { d with s := s3.see } := by
        rw [hs6, Int.add_sub_cancel, ← A.path]
      rw [← e]; exact G6
    have f46 := f4.trans (f5.trans f6)
    have L6 : Lp c { d with s := s3.see } p n w σ σ6 K3 rdy3 ks3 turn3 rest3 := L3.world G6' f46 rfl .refl
    rw [hs6]
    have hge := quiet0_ge ok hkid (p.length + 1) (by lia)
    dsimp only
    generalize hgv : -(quiet0 (kid c.t w m) (p.length + 1)) = v at hge
    unfold thenR at R3
    rw [if_neg hm0] at R3
    unfold stepQ at R3
    rw [hgv] at R3
    dsimp only at R3
    have F6 := F3.trans f46
    have fin : ∀ (bst' alp' : Int) {ρ : Loc} {Q' : V → St → Prop}, (bst' < beta ∨ bst' = -32001) → goR (stepQ c.t w p.length beta) (stM w p.length) ks3 turn3 rest3 ⟨bst', 0, [], true⟩ s3.see = R → (∀ z : Lz, z.mu < Lz.mu ⟨m, ⟨bst, 0, [], true⟩, alp, K3, rdy3, ks3, turn3, rest3, s3, d.ls⟩ → z.a.best = bst' → z.bm = alp' → ∀ σ', I370 c d p n w σ beta R K.p z σ' → Q' (.int z.m) σ') → MethB X 345 102 (V.ref K.p) σ6 ∧ Γ 316 [V.ref K.p] σ6 Q' := by
      intro bst' alp' ρ Q' hb' hgo hz
      rw [← kp3]
      refine mS (L6.ask.P.meth rfl) e316 (L6.next (fun x hx => F6.dom x hx) fun K7 rdy7 ks7 turn7 rest7 m7 σ7 L7 kp7 nx7 mu7 mp7 f7 own7 => ?_)
      refine hz ⟨m7, ⟨bst', 0, [], true⟩, alp', K7, rdy7, ks7, turn7, rest7, s3.see, d.ls⟩ (Lz.mu_lt hm0 mu7) rfl rfl σ7 (.mk L7 (kp7.trans kp3) (F6.andThen f7 fun x hx => .inr (L6.fr x (List.mem_cons_of_mem _ hx))) mp7 ?_ hb')
      dsimp only
      rw [← nx7, ← next_go _ (stM w p.length) _ _ (hst s3.see) ks3 turn3 rest3 (fun m hm => by have := L3.lk.tpos m hm; lia) (fun m hm => by have := L3.lk.pos m hm; lia)]
      exact hgo
    simp! only []
    refine iC (fun hlt => ?_) fun hlt => ?_
    · simp! only []
      refine iC (fun hbe => ?_) fun hbe => ?_
      · rw [if_pos hbe, if_pos hlt] at R3
        have e1 : resR R = (v, s3.see) := by rw [← R3]; rfl
        have e2 : R.2.2 = s3.see := by rw [← R3]
        rw [e1, e2] at hq
        simp! only []
        exact hq _ G6' F6
      · rw [if_neg hbe, if_pos hlt] at R3
        simp! only []
        refine fin v (if v > alp then v else alp) (ρ := []) (.inl (by lia)) R3 fun z hz e1 e2 σ' hI => ?_
        simp! only []
        exact jW z hz (by rw [e1, e2]; exact (by repeat first | exact Sub.nil _ | refine Sub.cons rfl ?_)) hI
    · have hbe : ¬ beta ≤ v := by lia
      rw [if_neg hbe, if_neg hlt] at R3
      simp! only []
      refine fin bst alp (ρ := []) hb3 R3 fun z hz e1 e2 σ' hI => ?_
      simp! only []
      exact jW z hz (by rw [e1, e2]; exact (by repeat first | exact Sub.nil _ | refine Sub.cons rfl ?_)) hI
  · have hm0 : m = 0 := Decidable.of_not_not hm0
    subst hm0
    unfold thenR at R3
    rw [if_pos rfl] at R3
    have e1 : resR R = (bst, s3) := by rw [← R3]; rfl
    have e2 : R.2.2 = s3 := by rw [← R3]
    rw [e1, e2] at hq
    simp! only []
    exact hq _ L3.ask.G F3
theorem c_363 (ok : c.Ok) (h6 : 6 ≤ r) (lv : Nat) (c_141 : SC X r (.ref 141) (T141 c)) (c_473 : SC X r (.ref 473) (T473 c)) (c_466 : SC X r (.ref 466) (T466 c)) (c_426 : SC X r (.ref 426) (T426 c)) (c_28 : SC X r (.ref 28) T28) (c_452 : SC X r (.ref 452) (T452 c)) (c_370 : SC X r (.ref 370) (T370 c lv)) (c_431 : SC X r (.ref 431) (T431 c)) : SC X (r + 3) (.ref 363) (T363 c lv) := by
  refine wG8 [(141, _), (473, _), (466, _), (426, _), (28, _), (452, _), (370, _), (431, _)] (hyC c_141 (hyC c_473 (hyC c_466 (hyC c_426 (hyC c_28 (hyC c_452 (hyC c_370 (hyC c_431 (hyN h6))))))))) (fun Γ H (e141 : Γ 141 = T141 c) (e473 : Γ 473 = T473 c) (e466 : Γ 466 = T466 c) (e426 : Γ 426 = T426 c) (e28 : Γ 28 = T28) (e452 : Γ 452 = T452 c) (e370 : Γ 370 = T370 c lv) (e431 : Γ 431 = T431 c) => ?_) rfl rfl rfl rfl rfl rfl rfl rfl
  refine D_363.run H fun vs σ Q h => ?_
  induction h with | @mk σ Q d p n w alpha beta plyI lvI hply hlvI G A hp hlv hq =>
  subst hply hlvI
  refine prI rfl ?_
  have few := (ok.rows w A.mem).few
  simp! only []
  refine mS (G.m_ctx ok rfl) e141 ⟨G, fun σ1 G1 f1 => ?_⟩
  have G1' : GoodC c { d with s := d.s.see } σ1 := G1
  have A1 : At c { d with s := d.s.see } p n w := ⟨A.path, A.row⟩
  have post : ∀ σ', GoodC c { d with s := d.s.see } σ' → Fr c.MC σ σ' → (quietM c.t lv w p.length beta d.s).2 = d.s.see → Q (.int (quietM c.t lv w p.length beta d.s).1) σ' := fun σ' G' f' e => hq _ (by rw [e]; exact G') f'
  simp! only [G1.ctxs ok rfl]
  by_cases hd : 0 < p.length ∧ w.drw = true
  · have eq : quietM c.t lv w p.length beta d.s = (0, d.s.see) := by
      unfold quietM quiet0 quiet1; rw [if_pos hd, if_pos hd]; split <;> rfl
    rw [eq] at post
    refine iT (Int.ofNat_lt.mpr hd.1) ?_
    simp! only []
    refine mS (G1.m_game ok rfl) e473 ⟨G1', A1, ?_⟩
    simp! only []
    rw [hd.2]
    simp! only []
    exact post _ G1' f1 rfl
  · apply jn
    · intro key
      refine iC (fun h0 => ?_) fun h0 => ?_
      · have hdf : w.drw = false := by
          cases e : w.drw with
          | false => rfl
          | true => exact absurd ⟨Int.ofNat_lt.mp h0, e⟩ hd
        simp! only []
        refine mS (G1.m_game ok rfl) e473 ⟨G1', A1, ?_⟩
        simp! only []
        rw [hdf]
        simp! only []
        exact key
      · simp! only []
        exact key
    have nd : ¬ (0 < p.length ∧ w.drw = true) := hd
    simp! only []
    refine mS (G1.m_game ok rfl) e466 ⟨G1', A1, ?_⟩
    simp! only []
    cases hchk : w.chk with
    | true =>
      simp! only []
      refine mS (G1.m_game ok rfl) e426 ⟨G1', A1, fun ml σ2 f2 m1 m2 => ?_⟩
      rw [list_allM] at m2
      have G2 : GoodC c { d with s := d.s.see } σ2 := G1'.keep0 f2
      have F2 : Fr c.MC σ σ2 := f1.trans f2.nil
      simp! only [t_list (X := X) m2 (by rw [List.length_map, allM_len]; lia)]
      by_cases hk : w.kids = []
      · have hc : w.chk = true ∧ w.kids = [] := ⟨hchk, hk⟩
        have eq : quietM c.t lv w p.length beta d.s = ((p.length : Int) - 32000, d.s.see) := by
          unfold quietM quiet0 quiet1; rw [if_neg nd, if_neg nd, if_pos hc, if_pos hc]; split <;> rfl
        rw [eq] at post
        rw [show ((allM w.kids.length).map V.int).isEmpty = true by rw [hk]; rfl]
        simp! only []
        refine cS e28 ⟨?_⟩
        simp! only []
        exact post _ G2 F2 rfl
      · rw [show ((allM w.kids.length).map V.int).isEmpty = false by
            cases hw : w.kids with
            | nil => exact absurd hw hk
            | cons a l => simp [allM]]
        have hne : ¬ (w.chk = true ∧ w.kids = []) := fun h => hk h.2
        simp! only []
        refine iC (fun hl => ?_) fun hl => ?_
        · have l0 : lv = 0 := by lia
          have eq : quietM c.t lv w p.length beta d.s = (w.val, d.s.see) := by
            unfold quietM quiet0; rw [if_pos l0, if_neg nd, if_neg hne]
          rw [eq] at post
          simp! only []
          refine mS (G2.m_game ok rfl) e452 ⟨G2, A1, ?_⟩
          simp! only []
          exact post _ G2 F2 rfl
        · have l1 : lv = 1 := by lia
          have eq : quietM c.t lv w p.length beta d.s = resR (runQ c.t w p.length beta d.s.see) := by
            unfold quietM quiet1; rw [if_neg (by lia), if_neg nd, if_neg hne, if_neg (fun h => h.1 hchk)]
          have er : restQ w = allM w.kids.length := by unfold restQ; rw [if_pos hchk]
          have eb : bestQ w = -32001 := by unfold bestQ; rw [if_pos hchk]
          unfold runQ at eq
          rw [er, eb] at eq
          rw [eq] at hq
          simp! only []
          subst l1
          refine cS e370 (T370.mk rfl rfl G2 A1 (by lia) m2 (allM_up _) (fun m hm => allM_mem hm) (by rw [allM_len]; exact few) (.inr rfl) fun σ' G' f' => ?_)
          simp! only []
          exact hq σ' G' (F2.trans f')
    | false =>
      simp! only []
      refine mS (G1.m_game ok rfl) e452 ⟨G1', A1, ?_⟩
      have hne : ¬ (w.chk = true ∧ w.kids = []) := fun h => by rw [hchk] at h; exact Bool.false_ne_true h.1
      simp! only []
      refine iC (fun hl => ?_) fun hl => ?_
      · have l0 : lv = 0 := by lia
        have eq : quietM c.t lv w p.length beta d.s = (w.val, d.s.see) := by
          unfold quietM quiet0; rw [if_pos l0, if_neg nd, if_neg hne]
        rw [eq] at post
        simp! only []
        exact post _ G1' f1 rfl
      · have l1 : lv = 1 := by lia
        simp! only []
        refine iC (fun hb => ?_) fun hb => ?_
        · have eq : quietM c.t lv w p.length beta d.s = (w.val, d.s.see) := by
            unfold quietM quiet1; rw [if_neg (by lia), if_neg nd, if_neg hne, if_pos ⟨by rw [hchk]; exact Bool.false_ne_true, hb⟩]
          rw [eq] at post
          simp! only []
          exact post _ G1' f1 rfl
        · simp! only []
          refine mS (G1.m_game ok rfl) e431 ⟨G1', A1, fun ml σ2 f2 m1 m2 => ?_⟩
          have G2 : GoodC c { d with s := d.s.see } σ2 := G1'.keep0 f2
          have F2 : Fr c.MC σ σ2 := f1.trans f2.nil
          have eq : quietM c.t lv w p.length beta d.s = resR (runQ c.t w p.length beta d.s.see) := by
            unfold quietM quiet1; rw [if_neg (by lia), if_neg nd, if_neg hne, if_neg (fun h => hb h.2)]
          have er : restQ w = (allM w.kids.length).filter w.ld := by unfold restQ; rw [if_neg (by rw [hchk]; exact Bool.false_ne_true)]
          have eb : bestQ w = w.val := by unfold bestQ; rw [if_neg (by rw [hchk]; exact Bool.false_ne_true)]
          unfold runQ at eq
          rw [er, eb] at eq
          rw [eq] at hq
          simp! only []
          subst l1
          refine cS e370 (T370.mk rfl rfl G2 A1 (by lia) m2 ((allM_up _).filter _) (fun m hm => allM_mem (List.mem_filter.mp hm).1) (Nat.le_trans (List.length_filter_le _ _) (by rw [allM_len]; exact few)) (.inl (by lia)) fun σ' G' f' => ?_)
          simp! only []
          exact hq σ' G' (F2.trans f')
end
/-! PH -/
/-! the search -/
abbrev Evl := Nat → Int → Int → LS → Int × LS
noncomputable def valS (ev : Evl) (k : Nat) (low : Int) (first : Bool) (high : Int) (s : LS) : Int × LS :=
  if first = true then (-(ev k (-high) (-low) s).1, (ev k (-high) (-low) s).2)
  else if low < -(ev k (-low - 1) (-low) s).1 ∧ -(ev k (-low - 1) (-low) s).1 < high then (-(ev k (-high) (-low) (ev k (-low - 1) (-low) s).2).1, (ev k (-high) (-low) (ev k (-low - 1) (-low) s).2).2)
  else (-(ev k (-low - 1) (-low) s).1, (ev k (-low - 1) (-low) s).2)
noncomputable def stepOf (w : Row) (limit : Int) (ply : Nat) (depth high : Int) (m : Int) (a : Acc) (r : Int × LS) : Option Int × Acc × LS :=
  if high ≤ r.1 then (some (if a.best < r.1 then r.1 else a.best), a, if w.ld m = true then r.2 else r.2.rewardM limit ((ply % 2 : Nat) : Int) ply depth m a.tried)
  else (none, ⟨if a.best < r.1 then r.1 else a.best, if a.low < r.1 then r.1 else a.low, if w.ld m = true then a.tried else a.tried ++ [m], false⟩, r.2)
noncomputable def stepS (ev : Evl) (w : Row) (limit : Int) (ply : Nat) (depth high : Int) : Stp := fun m a s => stepOf w limit ply depth high m a (valS ev (w.kids.getD (m - 1).toNat 0) a.low a.first high s)
noncomputable def lowS (ply : Nat) (low : Int) : Int := if (ply : Int) - 32000 > low then (ply : Int) - 32000 else low
noncomputable def highS (ply : Nat) (high : Int) : Int := if 32000 - ((ply : Int) + 1) < high then 32000 - ((ply : Int) + 1) else high
noncomputable def seekM (t : List Row) (lv : Nat) (limit : Int) : Nat → Nat → Evl
  | 0, ply => fun n low high s => quietM t lv (rowD t n) ply high s
  | k + 1, ply => fun n low high s =>
    if 0 < ply ∧ (rowD t n).drw = true then (0, s.see)
    else if 32000 - ((ply : Int) + 1) ≤ low then (32000 - ((ply : Int) + 1), s.see)
    else if high ≤ (ply : Int) - 32000 then ((ply : Int) - 32000, s.see)
    else if (rowD t n).kids = [] then (if (rowD t n).chk = true then (ply : Int) - 32000 else 0, s.see)
    else resR (runStages (stepS (seekM t lv limit k (ply + 1)) (rowD t n) limit ply ((k + 1 : Nat) : Int) (highS ply high)) (stM (rowD t n) ply) [1, 2, 3, 4] (allM (rowD t n).kids.length) ⟨-32001, lowS ply low, [], true⟩ (s.see.setK (ply + 2) 0 0))
section
variable {X : Cx} {r : Nat} {c : Cw}
inductive T398 (c : Cw) : TC
  | mk {σ Q d} {a b x y z : V} (G : GoodC c d σ) (h : New σ (.tup [.int 0, .none]) Q) : T398 c [.ref c.ctx, a, b, x, y, z] σ Q
theorem c_398 (ok : c.Ok) (h6 : 6 ≤ r) : SC X (r + 3) (.ref 398) (T398 c) := D_398.run (hyN h6) fun vs σ Q h => by
  induction h with | mk G hq =>
  refine prI rfl ?_
  simp! only [G.ctxs ok rfl]
  exact tN rfl hq
inductive T405 (c : Cw) : TC
  | mk {σ Q d} {a b x y z u v : V} (G : GoodC c d σ) (h : Q .none σ) : T405 c [.ref c.ctx, a, b, x, y, z, u, v] σ Q
theorem c_405 (ok : c.Ok) (h6 : 6 ≤ r) : SC X (r + 3) (.ref 405) (T405 c) := D_405.run (hyN h6) fun vs σ Q h => by
  induction h with | mk G hq =>
  refine prI rfl ?_
  simp! only [G.ctxs ok rfl]
  exact hq
/-- the code's own world goes on: to s, the lines being others -/
def Go (c : Cw) (d : Dt) (i : Nat) (σ : St) (s : LS) (Q : St → Prop) : Prop := ∀ ls', NewIn σ d.ls ls' → i < ls'.length → d.ls.length ≤ ls'.length → Nx c σ { d with s := s, ls := ls' } Q
inductive T377 (c : Cw) (k : Nat) : TC
  | mk {σ Q d p n w} {alpha beta plyI kI : Int} {pv : Bool} (hk : kI = k) (hp : plyI = p.length) (G : GoodC c d σ) (A : At c d p n w) (hl : p.length + k ≤ 4) (hk3 : k ≤ 3) (hab : alpha < beta)
    (h : Go c d p.length σ (seekM c.t c.left.toNat c.limit k p.length n alpha beta d.s).2 fun σ' => Q (.int (seekM c.t c.left.toNat c.limit k p.length n alpha beta d.s).1) σ') : T377 c k [.ref c.ctx, .int alpha, .int beta, .int kI, .int plyI, .bool pv] σ Q
inductive T391 (c : Cw) (k : Nat) : TC
  | mk {σ Q d p n w} {alpha beta plyI kI : Int} {pv first : Bool} (hk : kI = k + 1) (hp : plyI + 1 = p.length) (G : GoodC c d σ) (A : At c d p n w) (hl : p.length + k ≤ 4) (hk3 : k ≤ 3) (hab : alpha < beta)
    (h : Go c d p.length σ (valS (seekM c.t c.left.toNat c.limit k p.length) n alpha first beta d.s).2 fun σ' => Q (.int (valS (seekM c.t c.left.toNat c.limit k p.length) n alpha first beta d.s).1) σ') : T391 c k [.ref c.ctx, .int alpha, .int beta, .int kI, .int plyI, .bool pv, .bool first] σ Q
theorem c_391 (h6 : 6 ≤ r) (k : Nat) (c_377 : SC X r (.ref 377) (T377 c k)) : SC X (r + 3) (.ref 391) (T391 c k) := by
  refine wG1 [(377, _)] (hyC c_377 (hyN h6)) (fun Γ H (e377 : Γ 377 = T377 c k) => ?_) rfl
  refine D_391.run H fun vs σ Q h => ?_
  induction h with | @mk σ Q d p n w alpha beta plyI kI pv first hk hp G A hl hk3 hab hq =>
  subst hk
  refine prI rfl ?_
  have ek : (k : Int) + 1 - 1 = k := by lia
  simp! only []
  cases first with
  | true =>
    unfold valS at hq
    rw [if_pos rfl] at hq
    simp! only []
    refine cS e377 ⟨ek, hp, G, A, hl, hk3, by lia, fun ls' n1 n2 n3 σ' G' f' => ?_⟩
    simp! only []
    exact hq ls' n1 n2 n3 σ' G' f'
  | false =>
    unfold valS at hq
    rw [if_neg Bool.false_ne_true] at hq
    simp! only []
    refine cS e377 ⟨ek, hp, G, A, hl, hk3, by lia, fun ls' n1 n2 n3 σ' G' f' => ?_⟩
    simp! only []
    generalize hR : seekM c.t c.left.toNat c.limit k p.length n (-alpha - 1) (-alpha) d.s = R at hq G'
    refine iC (fun h1 => ?_) fun h1 => ?_
    · simp! only []
      refine iC (fun h2 => ?_) fun h2 => ?_
      · rw [if_pos ⟨h1, h2⟩] at hq
        have A' : At c { d with s := R.2, ls := ls' } p n w := ⟨A.path, A.row⟩
        simp! only []
        refine cS e377 ⟨ek, hp, G', A', hl, hk3, by lia, fun ls2 m1 m2 m3 σ2 G2 f2 => ?_⟩
        simp! only []
        exact hq ls2 (n1.trans m1 f') m2 (Nat.le_trans n3 m3) σ2 G2 (f'.trans f2)
      · rw [if_neg fun h => h2 h.2] at hq
        simp! only []
        exact hq ls' n1 n2 n3 σ' G' f'
    · rw [if_neg fun h => h1 h.1] at hq
      simp! only []
      exact hq ls' n1 n2 n3 σ' G' f'
end
/-! PI -/
section
variable {X : Cx} {r : Nat} {c : Cw}
noncomputable def runS (c : Cw) (k : Nat) (w : Row) (ply : Nat) (low high : Int) (s : LS) : Option Int × Acc × LS :=
  runStages (stepS (seekM c.t c.left.toNat c.limit k (ply + 1)) w c.limit ply ((k + 1 : Nat) : Int) high) (stM w ply) [1, 2, 3, 4] (allM w.kids.length) ⟨-32001, low, [], true⟩ (s.setK (ply + 2) 0 0)
inductive T384 (c : Cw) (k : Nat) : TC
  | mk {σ Q d p n w} {j : Nat} {ml : Addr} {key : V} {alpha beta plyI kI : Int} {pv : Bool} (hj : k = j + 1) (hk : kI = k) (hp : plyI = p.length) (G : GoodC c d σ) (A : At c d p n w) (hl : p.length + k ≤ 4) (hk3 : k ≤ 3) (hab : alpha < beta)
    (hml : σ ml = some (.list ((allM w.kids.length).map .int))) (hM : ml ∉ c.M) (hls : p.length < d.ls.length)
    (h : Go c d p.length σ (resR (runS c j w p.length alpha beta d.s)).2 fun σ' => Q (.int (resR (runS c j w p.length alpha beta d.s)).1) σ') : T384 c k [.ref c.ctx, .ref ml, .int 0, key, .int alpha, .int beta, .int kI, .int plyI, .bool pv] σ Q
theorem rowD_at {t : List Row} {n : Nat} {w : Row} (h : t[n]? = some w) : rowD t n = w := by unfold rowD; rw [h]; rfl
theorem c_377 (ok : c.Ok) (h6 : 6 ≤ r) (k : Nat) (c_169 : SC X r (.ref 169) (T169 c)) (c_363 : SC X r (.ref 363) (T363 c c.left.toNat)) (c_141 : SC X r (.ref 141) (T141 c)) (c_473 : SC X r (.ref 473) (T473 c)) (c_28 : SC X r (.ref 28) T28) (c_35 : SC X r (.ref 35) T35) (c_459 : SC X r (.ref 459) (T459 c)) (c_398 : SC X r (.ref 398) (T398 c)) (c_426 : SC X r (.ref 426) (T426 c)) (c_466 : SC X r (.ref 466) (T466 c)) (c_384 : SC X r (.ref 384) (T384 c k)) : SC X (r + 3) (.ref 377) (T377 c k) := by
  refine wG11 [(169, _), (363, _), (141, _), (473, _), (28, _), (35, _), (459, _), (398, _), (426, _), (466, _), (384, _)] (hyC c_169 (hyC c_363 (hyC c_141 (hyC c_473 (hyC c_28 (hyC c_35 (hyC c_459 (hyC c_398 (hyC c_426 (hyC c_466 (hyC c_384 (hyN h6)))))))))))) (fun Γ H (e169 : Γ 169 = T169 c) (e363 : Γ 363 = T363 c c.left.toNat) (e141 : Γ 141 = T141 c) (e473 : Γ 473 = T473 c) (e28 : Γ 28 = T28) (e35 : Γ 35 = T35) (e459 : Γ 459 = T459 c) (e398 : Γ 398 = T398 c) (e426 : Γ 426 = T426 c) (e466 : Γ 466 = T466 c) (e384 : Γ 384 = T384 c k) => ?_) rfl rfl rfl rfl rfl rfl rfl rfl rfl rfl rfl
  refine D_377.run H fun vs σ Q h => ?_
  induction h with | @mk σ Q d p n w alpha beta plyI kI pv hk hp G A hl hk3 hab hq =>
  subst hk hp
  refine prI rfl ?_
  have few := (ok.rows w A.mem).few
  have ew := rowD_at A.row
  have f0 := ok.f0
  have f1' := ok.f1
  simp! only []
  refine cS e169 ⟨G, by lia, fun ls1 n1 l1 l1' σ1 G1 F1 => ?_⟩
  have A1 : At c { d with ls := ls1 } p n w := ⟨A.path, A.row⟩
  simp! only []
  cases k with
  | zero =>
    refine iT (by decide) ?_
    simp! only [G1.ctxs ok rfl]
    refine cS e363 ⟨rfl, by lia, G1, A1, by lia, by lia, fun σ2 G2 F2 => ?_⟩
    unfold seekM at hq
    rw [ew] at hq
    simp! only []
    exact hq ls1 n1 l1 l1' σ2 G2 (F1.trans F2)
  | succ k =>
    refine iF (by lia) ?_
    simp! only []
    refine mS (G1.m_ctx ok rfl) e141 ⟨G1, fun σ2 G2 F2 => ?_⟩
    have G2' : GoodC c { d with s := d.s.see, ls := ls1 } σ2 := G2
    have A2 : At c { d with s := d.s.see, ls := ls1 } p n w := ⟨A.path, A.row⟩
    have F12 := F1.trans F2
    have post : ∀ v σ', GoodC c { d with s := d.s.see, ls := ls1 } σ' → Fr c.MC σ σ' → seekM c.t c.left.toNat c.limit (k + 1) p.length n alpha beta d.s = (v, d.s.see) → Q (.int v) σ' := fun v σ' G' F' e => by
      rw [e] at hq; exact hq ls1 n1 l1 l1' σ' G' F'
    unfold seekM at post hq
    rw [ew] at post hq
    simp! only [G2.ctxs ok rfl]
    by_cases hd : 0 < p.length ∧ w.drw = true
    · refine iT (Int.ofNat_lt.mpr hd.1) ?_
      simp! only []
      refine mS (G2.m_game ok rfl) e473 ⟨G2', A2, ?_⟩
      simp! only []
      rw [hd.2]
      simp! only []
      exact post 0 σ2 G2' F12 (by rw [if_pos hd])
    · apply jn
      · intro key
        refine iC (fun h0 => ?_) fun h0 => ?_
        · have hdf : w.drw = false := by
            cases e : w.drw with
            | false => rfl
            | true => exact absurd ⟨Int.ofNat_lt.mp h0, e⟩ hd
          simp! only []
          refine mS (G2.m_game ok rfl) e473 ⟨G2', A2, ?_⟩
          simp! only []
          rw [hdf]
          simp! only []
          exact key
        · simp! only []
          exact key
      rw [if_neg hd] at hq
      simp only [if_neg hd] at post
      simp! only []
      refine cS e28 ⟨?_⟩
      simp! only []
      refine cS e35 ⟨?_⟩
      simp! only []
      refine iC (fun c1 => ?_) fun c1 => ?_
      · simp! only []
        exact post _ σ2 G2' F12 (by rw [if_pos c1])
      rw [if_neg c1] at hq
      simp only [if_neg c1] at post
      simp! only []
      refine iC (fun c2 => ?_) fun c2 => ?_
      · simp! only []
        exact post _ σ2 G2' F12 (by rw [if_pos c2])
      rw [if_neg c2] at hq
      simp only [if_neg c2] at post
      simp! only []
      refine mS (G2.m_game ok rfl) e459 ⟨G2', A2, ?_⟩
      simp! only []
      refine cS e398 ⟨G2', fun tp σ3 F3 tp1 tp2 => ?_⟩
      have G3 : GoodC c { d with s := d.s.see, ls := ls1 } σ3 := G2'.keep0 F3
      have F13 : Fr c.MC σ σ3 := F12.trans F3.nil
      simp! only []
      refine uT (rd_own tp2) rfl ?_
      simp! only []
      have e4 : ¬ ((4 : Int) ≤ ((k + 1 : Nat) : Int)) := by lia
      apply jn
      · intro key
        refine ⟨fun _ => ?_, fun _ => ?_⟩
        · simp! only []
          refine iT rfl ?_
          simp! only []
          refine iF e4 ?_
          simp! only []
          exact key
        · simp! only []
          exact key
      simp! only []
      refine mS (G3.m_game ok rfl) e426 ⟨G3, A2, fun ml σ4 F4 m1 m2 => ?_⟩
      rw [list_allM] at m2
      have G4 : GoodC c { d with s := d.s.see, ls := ls1 } σ4 := G3.keep0 F4
      have F14 : Fr c.MC σ σ4 := F13.trans F4.nil
      simp! only [t_list (X := X) m2 (by rw [List.length_map, allM_len]; lia)]
      by_cases hk0 : w.kids = []
      · rw [show ((allM w.kids.length).map V.int).isEmpty = true by rw [hk0]; rfl]
        simp only [if_pos hk0] at post
        simp! only []
        refine mS (G4.m_game ok rfl) e466 ⟨G4, A2, ?_⟩
        simp! only []
        cases hchk : w.chk with
        | true =>
          simp! only []
          refine cS e28 ⟨?_⟩
          simp! only []
          exact post _ σ4 G4 F14 (by rw [hchk]; rfl)
        | false =>
          simp! only []
          exact post _ σ4 G4 F14 (by rw [hchk]; rfl)
      · rw [show ((allM w.kids.length).map V.int).isEmpty = false by
            cases hw : w.kids with
            | nil => exact absurd hw hk0
            | cons a l => simp [allM]]
        rw [if_neg hk0] at hq
        simp! only []
        refine cS e384 ⟨rfl, rfl, rfl, G4, A2, hl, hk3, by lia, m2, G3.not_m m1, l1, fun ls2 n2 l2 l2' σ5 G5 F5 => ?_⟩
        simp! only []
        exact hq ls2 (n1.trans n2 F14) l2 (Nat.le_trans l1' l2') σ5 G5 (F14.trans F5)
end
/-! PJ -/
theorem markL_sub {w : Row} {s : LS} {ply k : Nat} : ∀ {ms : List Int}, ((markL w s ply k ms).map (·.2)).Sublist ms
  | [] => .slnil
  | m :: ms => by
    have ih := markL_sub (w := w) (s := s) (ply := ply) (k := k) (ms := ms)
    unfold markL
    repeat' split
    all_goals first | exact ih.cons m | exact ih.cons₂ m
theorem sortL_nodup : ∀ {ps : List (Int × Int)}, (ps.map (·.2)).Nodup → (sortL ps).Nodup
  | [], _ => by simp [sortL, ordK]
  | [p], _ => by simp [sortL, ordK]
  | [p, q], h => by
    simp only [List.map_cons, List.map_nil, List.nodup_cons, List.mem_cons, List.not_mem_nil, or_false, not_or, not_false_eq_true, List.nodup_nil, and_true] at h
    have h' := Ne.symm h
    simp only [sortL, ordK]
    split <;> simp [h, h', Ne.symm h]
  | [p, q, r], h => by
    simp only [List.map_cons, List.map_nil, List.nodup_cons, List.mem_cons, List.not_mem_nil, or_false, not_or, not_false_eq_true, List.nodup_nil, and_true] at h
    obtain ⟨⟨h1, h2⟩, h3⟩ := h
    have g1 := Ne.symm h1
    have g2 := Ne.symm h2
    have g3 := Ne.symm h3
    simp only [sortL, ordK]
    repeat' split
    all_goals simp [h1, h2, h3, g1, g2, g3]
  | _ :: _ :: _ :: _ :: _, _ => by simp [sortL, ordK]
theorem stM_nodup {w : Row} {s : LS} {ply k : Nat} {ms : List Int} (h : ms.Nodup) : (stM w ply s k ms).Nodup := sortL_nodup (h.sublist markL_sub)
theorem st_split {w : Row} {s : LS} {ply k : Nat} {ms : List Int} (h : ms.Nodup) : (stM w ply s k ms ++ outL ms (stM w ply s k ms)).Nodup := by
  rw [List.nodup_append]
  refine ⟨stM_nodup h, h.sublist List.filter_sublist, fun a ha b hb e => ?_⟩
  subst e
  have := (List.mem_filter.mp hb).2
  simp [ha] at this
theorem nextL_nodup {w : Row} {s : LS} {ply : Nat} : ∀ (ks : List Nat) (turn rest : List Int), (turn ++ rest).Nodup → ∀ {m : Int} {ks' : List Nat} {turn' rest' : List Int}, nextL (stM w ply s) ks turn rest = (m, ks', turn', rest') →
    (m ≠ 0 → (m :: (turn' ++ rest')).Nodup ∧ m ∈ turn ++ rest) ∧ ∀ x ∈ turn' ++ rest', x ∈ turn ++ rest
  | ks, a :: l, rest, h, m, ks', turn', rest', e => by
    have e' : nextL (stM w ply s) ks (a :: l) rest = (a, ks, l, rest) := by cases ks <;> simp [nextL]
    rw [e'] at e
    cases e
    exact ⟨fun _ => ⟨h, List.mem_cons_self⟩, fun x hx => List.mem_cons_of_mem _ hx⟩
  | [], [], rest, h, m, ks', turn', rest', e => by
    simp only [nextL] at e
    cases e
    exact ⟨fun q => absurd rfl q, fun x hx => hx⟩
  | k :: ks, [], rest, h, m, ks', turn', rest', e => by
    have e' : nextL (stM w ply s) (k :: ks) [] rest = nextL (stM w ply s) ks (stM w ply s k rest) (outL rest (stM w ply s k rest)) := by simp [nextL]
    rw [e'] at e
    have h' : rest.Nodup := by simpa using h
    obtain ⟨h1, h2⟩ := nextL_nodup ks _ _ (st_split (w := w) (s := s) (ply := ply) (k := k) h') e
    have up : ∀ x, x ∈ stM w ply s k rest ++ outL rest (stM w ply s k rest) → x ∈ [] ++ rest := fun x hx => by
      rcases List.mem_append.mp hx with hx | hx
      · exact stM_mem hx
      · exact outL_mem hx
    exact ⟨fun hm => ⟨(h1 hm).1, up _ (h1 hm).2⟩, fun x hx => up x (h2 x hx)⟩
section
variable {X : Cx} {r : Nat} {c : Cw}
inductive I384 (c : Cw) (d : Dt) (p : List Nat) (n : Nat) (w : Row) (σ0 : St) (beta : Int) (f : Stp) (R : Option Int × Acc × LS) (kp tq : Addr) (z : Lz) (σ : St) : Prop
  | mk (L : Lp c { d with s := z.s, ls := z.ls } p n w σ0 σ z.K z.rdy z.ks z.turn z.rest) (hk : z.K.p = kp) (F : Fr c.MC σ0 σ) (mp : z.m ≠ 0 → 1 ≤ z.m ∧ z.m ≤ w.kids.length) (hR : thenR f (stM w p.length) (z.m, z.ks, z.turn, z.rest) z.a z.s = R) (low : z.a.low < beta)
    (ni : NewIn σ0 d.ls z.ls) (ll : p.length < z.ls.length) (ll' : d.ls.length ≤ z.ls.length) (tq1 : σ tq = some (.list (z.a.tried.map .int))) (tql : tq ∉ z.ls) (tqo : tq ∉ z.K.own) (nd : z.m ≠ 0 → (z.m :: (z.turn ++ z.rest)).Nodup)
    (tr : ∀ x ∈ z.a.tried, (1 ≤ x ∧ x ≤ 3) ∧ x ≠ z.m ∧ x ∉ z.turn ++ z.rest) (sz : z.a.tried.length + z.mu ≤ 10)
theorem c_384 (ok : c.Ok) (h6 : 6 ≤ r) (k : Nat) (c_267 : SC X r (.ref 267) (T267 c)) (c_494 : SC X r (.ref 494) (T494 c)) (c_345 : SC X r (.ref 345) (T345 c)) (c_316 : SC X r (.ref 316) (T316 c)) (c_480 : SC X r (.ref 480) (T480 c)) (c_155 : SC X r (.ref 155) (T155 c)) (c_391 : SC X r (.ref 391) (T391 c k)) (c_162 : SC X r (.ref 162) (T162 c)) (c_176 : SC X r (.ref 176) (T176 c)) (c_281 : SC X r (.ref 281) (T281 c)) (c_405 : SC X r (.ref 405) (T405 c)) : SC X (r + 3) (.ref 384) (T384 c (k + 1)) := by
  refine wG11 [(267, _), (494, _), (345, _), (316, _), (480, _), (155, _), (391, _), (162, _), (176, _), (281, _), (405, _)] (hyC c_267 (hyC c_494 (hyC c_345 (hyC c_316 (hyC c_480 (hyC c_155 (hyC c_391 (hyC c_162 (hyC c_176 (hyC c_281 (hyC c_405 (hyN h6)))))))))))) (fun Γ H (e267 : Γ 267 = T267 c) (e494 : Γ 494 = T494 c) (e345 : Γ 345 = T345 c) (e316 : Γ 316 = T316 c) (e480 : Γ 480 = T480 c) (e155 : Γ 155 = T155 c) (e391 : Γ 391 = T391 c k) (e162 : Γ 162 = T162 c) (e176 : Γ 176 = T176 c) (e281 : Γ 281 = T281 c) (e405 : Γ 405 = T405 c) => ?_) rfl rfl rfl rfl rfl rfl rfl rfl rfl rfl rfl
  refine D_384.run H fun vs σ Q h => ?_
  induction h with | @mk σ Q d p n w j ml key alpha beta plyI kI pv hj hk hp G A hl hk3 hab hml hmlM hls hq =>
  cases Nat.succ.inj hj
  subst hk hp
  refine prI rfl ?_
  have few := (ok.rows w A.mem).few
  simp! only [G.ctxs ok rfl]
  refine mS (G.m_kil ok rfl) e267 (T267.mk (i := p.length + 2) G (by omega) fun σ1 G1 F1 => ?_)
  have A1 : At c { d with s := d.s.setK (p.length + 2) 0 0 } p n w := ⟨A.path, A.row⟩
  simp! only [G1.ctxs ok rfl]
  refine mS (G1.m_game ok rfl) e494 ⟨G1, A1, by omega, ?_⟩
  simp! only [G1.ctxs ok rfl]
  have hml1 : σ1 ml = some (.list ((allM w.kids.length).map .int)) := F1.keep _ _ hml (fun h => hmlM (mc_m h))
  refine cS e345 ⟨G1, hml1, by rw [allM_len]; exact few, fun K σ2 fr F2 P st0 left0 los0 ply0 T0 => ?_⟩
  have G2 := G1.keep0 F2
  simp! only []
  refine lU rfl fun tq σ3 _ t2 _ hs3 => ?_
  have F12 : Fr c.MC σ σ2 := F1.trans F2.nil
  have F3 : Fr [] σ2 σ3 := hs3 ▸ Fr.new t2
  have htq : σ3 tq = some (.list []) := hs3 ▸ upd_self _ _ _
  have tq0 : σ tq = none := F12.none t2
  have tqM : tq ∉ c.M := G.not_m tq0
  have tqF : c.F tq = none := G.in_fix tq0
  have G3 := G2.keep0 F3
  have P3 := P.keep0 F3
  have F13 : Fr c.MC σ σ3 := F12.trans F3.nil
  have frs : ∀ x ∈ K.p :: K.own, σ x = none := fun x hx => F1.none (fr x hx)
  have tqown : tq ∉ K.own := fun h => P.new_out t2 (List.mem_cons_of_mem _ h)
  have ps0 : PsOk w (psK K []) := ⟨by show K.left.length ≤ 3; rw [left0, allM_len]; exact few, by show ∀ m ∈ K.left, _; rw [left0]; exact fun m hm => allM_mem hm, by show K.losing.length ≤ 3; rw [los0]; exact Nat.zero_le _, Nat.zero_le _, fun _ => los0⟩
  have lk0 : Link w [1, 2, 3, 4] [] (allM w.kids.length) (psK K []) := ⟨allM_up _, fun m hm => allM_mem hm, fun m hm => by (cases hm), by rw [allM_len]; exact few, rfl, .inl ⟨by show K.stage ≤ 1; omega, rfl, left0, los0, rfl⟩⟩
  have L3 : Lp c { d with s := d.s.setK (p.length + 2) 0 0 } p n w σ σ3 K [] [1, 2, 3, 4] [] (allM w.kids.length) := ⟨⟨ok, G3, A1, P3, ply0, fun m hm => G.not_ls (frs m (List.mem_cons_of_mem _ hm)), by rw [left0]; exact fun m hm => allM_mem hm, by rw [left0, allM_len]; exact few, by omega, by rw [los0]; exact Nat.zero_le _⟩, by omega, T0.keep F3 NoTup.nil (by simp), ps0, lk0, frs⟩
  obtain ⟨f, hf⟩ : ∃ f : Stp, f = stepS (seekM c.t c.left.toNat c.limit k (p.length + 1)) w c.limit p.length ((k + 1 : Nat) : Int) beta := ⟨_, rfl⟩
  obtain ⟨R, hR⟩ : ∃ R, R = runS c k w p.length alpha beta d.s := ⟨_, rfl⟩
  rw [← hR] at hq
  unfold runS at hR
  rw [← hf] at hR
  have hst : ∀ (s : LS) k rest, ∀ m ∈ stM w p.length s k rest, m ∈ rest := fun s k rest m hm => stM_mem hm
  have mu3 : (psK K []).mu ≤ 3 := by
    unfold Ps.mu; dsimp only [psK]; rw [left0, los0, allM_len]; simp; split <;> omega
  have post : ∀ σ' s ls' b, GoodC c { d with s := s, ls := ls' } σ' → Fr c.MC σ σ' → NewIn σ d.ls ls' → p.length < ls'.length → d.ls.length ≤ ls'.length → resR R = (b, s) → Q (.int b) σ' := fun σ' s ls' b G' F' n' l' l'' e => by
    rw [e] at hq; exact hq ls' n' l' l'' σ' G' F'
  simp! only []
  refine mS (P3.meth rfl) e316 (L3.next (fun x hx => F13.dom x hx) fun K4 rdy4 ks4 turn4 rest4 m4 σ4 L4 kp4 nx4 mu4 mp4 f4 own4 => ?_)
  have R4 : thenR f (stM w p.length) (m4, ks4, turn4, rest4) ⟨-32001, alpha, [], true⟩ (d.s.setK (p.length + 2) 0 0) = R := by
    rw [← nx4, ← next_go _ (stM w p.length) _ _ (hst (d.s.setK (p.length + 2) 0 0)) [1, 2, 3, 4] [] (allM w.kids.length) (fun m hm => by (cases hm)) (fun m hm => by have := allM_mem hm; omega), hR]
    unfold goR runTurn; rfl
  obtain ⟨nd4, sub4⟩ := nextL_nodup (w := w) (s := d.s.setK (p.length + 2) 0 0) (ply := p.length) [1, 2, 3, 4] [] (allM w.kids.length) (by rw [List.nil_append]; exact (allM_up w.kids.length).imp (fun h => Int.ne_of_lt h)) nx4
  simp! only []
  refine wM (fun z : Lz => [(50, .ref c.ctx), (95, .ref ml), (96, .int 0), (131, key), (25, .int z.a.low), (26, .int beta), (21, .int ((k + 1 : Nat) : Int)), (11, .int p.length), (128, .bool pv), (40, .ref c.game), (67, .int ((p.length % 2 : Nat) : Int)), (124, .ref K.p), (134, .int alpha), (84, .int z.a.best), (135, .int z.bm), (136, .ref tq), (137, .bool z.a.first), (51, .int z.m)]) Lz.mu
    (I384 c d p n w σ beta f R K.p tq) ⟨m4, ⟨-32001, alpha, [], true⟩, 0, K4, rdy4, ks4, turn4, rest4, d.s.setK (p.length + 2) 0 0, d.ls⟩ rfl
    (.mk L4 kp4 (F13.andThen f4 fun x hx => .inr (frs x (List.mem_cons_of_mem _ hx))) mp4 R4 hab .refl hls (Nat.le_refl _) (f4.keep _ _ htq tqown) (G.not_ls tq0) (fun h => ?_) (fun h => (nd4 h).1) (fun x hx => by (cases hx)) ?_) fun z σ5 h => ?_
  · rcases own4 tq h with h' | h'
    · exact tqown h'
    · rw [htq] at h'; cases h'
  · show 0 + Lz.mu _ ≤ 10
    unfold Lz.mu
    dsimp only
    split
    · exact Nat.zero_le _
    · rename_i h; have := mu4 h; omega
  obtain ⟨m, ⟨ab, al, tr, fst⟩, bm, K5, rdy5, ks5, turn5, rest5, s5, ls5⟩ := z
  cases h with | mk L5 kp5 F5 mp5 R5 hlow ni5 ll5 ll5' tq5 tql5 tqo5 nd5 tr5 sz5 =>
  dsimp only at L5 kp5 mp5 R5 hlow ni5 ll5 ll5' tq5 tql5 tqo5 nd5 tr5 sz5
  have a5 := L5.ask
  simp! only []
  refine iC (fun hm0 => ?_) fun hm0 => ?_
  · obtain ⟨m1, m2⟩ := mp5 hm0
    obtain ⟨ek, hkid⟩ := kid_at ok A.mem m1 m2
    simp! only []
    refine mS (a5.G.m_game ok rfl) e480 ⟨a5.G, a5.A, m1, m2, ?_⟩
    rw [show w.loud.getD (m - 1).toNat false = w.ld m from rfl]
    simp! only []
    refine cS e155 ⟨a5.G, a5.A, by omega, m1, m2, fun σ6 G6 f6 => ?_⟩
    have A6 : At c { s := s5, made := d.made + 1, path := d.path ++ [w.kids.getD (m - 1).toNat 0], ls := ls5 } (p ++ [n]) (w.kids.getD (m - 1).toNat 0) (kid c.t w m) := ⟨by rw [← A.path], ek⟩
    have elen : (p ++ [n]).length = p.length + 1 := by simp
    simp! only []
    refine cS e391 ⟨by omega, by rw [elen]; rfl, G6, A6, by omega, by omega, hlow, fun ls7 ni7 ll7 ll7' σ7 G7 f7 => ?_⟩
    rw [elen] at G7 ll7 ⊢
    generalize hV : valS (seekM c.t c.left.toNat c.limit k (p.length + 1)) (w.kids.getD (m - 1).toNat 0) al fst beta s5 = VV at G7
    obtain ⟨v, s7⟩ := VV
    simp! only []
    refine cS e162 (T162.mk (p := p ++ [n]) G7 (by simp) (by rw [A6.path]) fun σ8 G8 f8 => ?_)
    have G8' : GoodC c { d with s := s7, ls := ls7 } σ8 := by
      have e : ({ s := s7, made := d.made + 1 - 1, path := p ++ [n], ls := ls7 } : Dt) = { d with s := s7, ls := ls7 } := by rw [Int.add_sub_cancel, ← A.path]
      rw [← e]; exact G8
    have f58 := f6.trans (f7.trans f8)
    have ni57 : NewIn σ5 ls5 ls7 := fun x hx => (ni7 x hx).imp id fun h => f6.none h
    have L8 : Lp c { d with s := s7, ls := ls7 } p n w σ σ8 K5 rdy5 ks5 turn5 rest5 := L5.world G8' f58 rfl ni57
    have F8 := F5.trans f58
    have ni8 : NewIn σ d.ls ls7 := fun x hx => (ni57 x hx).elim (ni5 x) fun h => .inr (F5.none h)
    have tq8 : σ8 tq = some (.list (tr.map .int)) := f58.keep _ _ tq5 fun h => tqM (mc_m h)
    have tql7 : tq ∉ ls7 := fun h => by
      rcases ni57 tq h with h' | h'
      · exact tql5 h'
      · rw [tq5] at h'; cases h'
    unfold thenR at R5
    rw [if_neg hm0, hf] at R5
    unfold stepS at R5
    rw [hV] at R5
    unfold stepOf at R5
    dsimp only at R5
    have mnot : m ∉ turn5 ++ rest5 := (List.nodup_cons.mp (nd5 hm0)).1
    have ndup : (turn5 ++ rest5).Nodup := (List.nodup_cons.mp (nd5 hm0)).2
    have m3 : m ≤ 3 := by omega
    have l7' : d.ls.length ≤ ls7.length := by have : ls5.length ≤ ls7.length := ll7'; omega
    have sz : tr.length + (psK K5 rdy5).mu + 1 ≤ 10 := by unfold Lz.mu at sz5; dsimp only at sz5; rw [if_neg hm0] at sz5; omega
    simp! only []
    refine ifA rfl (fun _ h => h) ?_
    simp! only []
    have hres : beta ≤ v → resR R = (if v > ab then v else ab, if w.ld m = true then s7 else s7.rewardM c.limit ((p.length % 2 : Nat) : Int) p.length ((k + 1 : Nat) : Int) m tr) := fun h => by
      rw [if_pos h] at R5; rw [← R5]; rfl
    have hgo : ¬ beta ≤ v → goR f (stM w p.length) ks5 turn5 rest5 ⟨if v > ab then v else ab, if al < v then v else al, if w.ld m = true then tr else tr ++ [m], false⟩ s7 = R := fun h => by
      rw [if_neg h] at R5; rw [← R5, hf]; rfl
    generalize (if v > ab then v else ab) = b' at hres hgo
    have core : ∀ (σ10 : St) (ls9 : List Addr) (l' bm' : Int) (tr' : List Int) {Q' : V → St → Prop}, Fr c.MC σ σ10 → Lp c { d with s := s7, ls := ls9 } p n w σ σ10 K5 rdy5 ks5 turn5 rest5 → σ10 tq = some (.list (tr'.map .int)) → tq ∉ ls9 → NewIn σ d.ls ls9 → p.length < ls9.length → d.ls.length ≤ ls9.length → l' < beta →
        (∀ x ∈ tr', (1 ≤ x ∧ x ≤ 3) ∧ x ∉ turn5 ++ rest5) → tr'.length + (psK K5 rdy5).mu ≤ 10 → goR f (stM w p.length) ks5 turn5 rest5 ⟨b', l', tr', false⟩ s7 = R →
        (∀ z : Lz, z.mu < Lz.mu ⟨m, ⟨ab, al, tr, fst⟩, bm, K5, rdy5, ks5, turn5, rest5, s5, ls5⟩ → z.a = ⟨b', l', tr', false⟩ → z.bm = bm' → ∀ σ', I384 c d p n w σ beta f R K.p tq z σ' → Q' (.int z.m) σ') → MethB X 345 102 (V.ref K.p) σ10 ∧ Γ 316 [V.ref K.p] σ10 Q' := by
      intro σ10 ls9 l' bm' tr' Q' F10 L10 tq10 tql9 ni9 ll9 ll9' hlow' htr hsz hgo hz
      rw [← kp5]
      refine mS (L10.ask.P.meth rfl) e316 (L10.next (fun x hx => F10.dom x hx) fun K7 rdy7 ks7 turn7 rest7 m7 σ7 L7 kp7 nx7 mu7 mp7 f7 own7 => ?_)
      obtain ⟨nd7, sub7⟩ := nextL_nodup (w := w) (s := s7) (ply := p.length) ks5 turn5 rest5 ndup nx7
      refine hz ⟨m7, ⟨b', l', tr', false⟩, bm', K7, rdy7, ks7, turn7, rest7, s7, ls9⟩ (Lz.mu_lt hm0 mu7) rfl rfl σ7 (.mk L7 (kp7.trans kp5) (F10.andThen f7 fun x hx => .inr (L10.fr x (List.mem_cons_of_mem _ hx))) mp7 ?_ hlow' ni9 ll9 ll9' (f7.keep _ _ tq10 tqo5) tql9 (fun h => ?_) (fun h => (nd7 h).1) (fun x hx => ⟨(htr x hx).1, fun e => ?_, fun h => (htr x hx).2 (sub7 x h)⟩) ?_)
      · dsimp only
        rw [← nx7, ← next_go _ (stM w p.length) _ _ (hst s7) ks5 turn5 rest5 (fun m hm => by have := L5.lk.tpos m hm; omega) (fun m hm => by have := L5.lk.pos m hm; omega)]
        exact hgo
      · rcases own7 tq h with h' | h'
        · exact tqo5 h'
        · rw [tq10] at h'; cases h'
      · dsimp only at e
        by_cases z : m7 = 0
        · have := (htr x hx).1; omega
        · exact (htr x hx).2 (by rw [e]; exact (nd7 z).2)
      · show tr'.length + Lz.mu _ ≤ 10
        unfold Lz.mu
        dsimp only
        split
        · omega
        · rename_i z; have := mu7 z; omega
    apply jn3 (P := fun l' bm' σ9 => l' = (if al < v then v else al) ∧ l' < beta ∧ ¬ beta ≤ v ∧ Fr c.MC σ8 σ9 ∧ ∃ ls9, GoodC c { d with s := s7, ls := ls9 } σ9 ∧ NewIn σ8 ls7 ls9 ∧ ls9.length = ls7.length ∧ tq ∉ ls9)
      (Y := fun l' bm' σ9 => go X Γ _ [(50, .ref c.ctx), (95, .ref ml), (96, .int 0), (131, key), (25, .int l'), (26, .int beta), (21, .int ((k + 1 : Nat) : Int)), (11, .int p.length), (128, .bool pv), (40, .ref c.game), (67, .int ((p.length % 2 : Nat) : Int)), (124, .ref K.p), (134, .int alpha), (84, .int b'), (135, .int bm'), (136, .ref tq), (137, .bool false), (51, .int m), (112, .bool (w.ld m)), (14, .int v)] σ9 _)
    · intro goon
      refine iC (fun h2 => ?_) fun h2 => ?_
      · simp! only []
        apply jnS (P := fun σ9 => Fr c.MC σ8 σ9 ∧ ∃ ls9, GoodC c { d with s := s7, ls := ls9 } σ9 ∧ NewIn σ8 ls7 ls9 ∧ ls9.length = ls7.length ∧ tq ∉ ls9)
        · intro key1
          refine ⟨fun _ => ?_, fun _ => ?_⟩
          · simp! only []
            refine cS e176 ⟨G8', ll7, fun ls9 n9 l9 σ9 G9 f9 => ?_⟩
            simp! only []
            refine key1 σ9 ⟨f9, ls9, G9, n9, l9, fun h => ?_⟩
            rcases n9 tq h with h' | h'
            · exact tql7 h'
            · rw [tq8] at h'; cases h'
          · simp! only []
            exact key1 σ8 ⟨.refl _ _, ls7, G8', .refl, rfl, tql7⟩
        · rintro σ9 ⟨f9, ls9, G9, n9, l9, tql9⟩
          have F9 := F8.trans f9
          have tq9 : σ9 tq = some (.list (tr.map .int)) := f9.keep _ _ tq8 fun h => tqM (mc_m h)
          have ni9 : NewIn σ d.ls ls9 := fun x hx => (n9 x hx).elim (ni8 x) fun h => .inr (F8.none h)
          simp! only []
          refine iC (fun h3 => ?_) fun h3 => ?_
          · have e := hres h3
            simp! only []
            cases hld : w.ld m with
            | true =>
              rw [if_pos hld] at e
              simp! only []
              refine cS e405 ⟨G9, ?_⟩
              simp! only []
              exact post σ9 s7 ls9 b' G9 F9 ni9 (by omega) (by omega) e
            | false =>
              rw [if_neg (by rw [hld]; exact Bool.false_ne_true)] at e
              simp! only [G9.ctxs ok rfl]
              refine cS e281 (T281.mk (i := p.length) G9 (by omega) (by omega) (by omega) (by omega) (by omega) m1 m3 tq9 tqM (fun h => (tr5 m h).2.1 rfl) (fun x hx => (tr5 x hx).1) fun σ10 G10 f10 => ?_)
              simp! only []
              refine cS e405 ⟨G10, ?_⟩
              simp! only []
              exact post σ10 _ ls9 b' G10 (F9.trans f10) ni9 (by omega) (by omega) e
          · exact gN (gA (fun _ h => h) (goon v m σ9 ⟨(if_pos h2).symm, by omega, h3, f9, ls9, G9, n9, l9, tql9⟩))
      · have h3 : ¬ beta ≤ v := by omega
        exact gN (goon al bm σ8 ⟨(if_neg h2).symm, hlow, h3, .refl _ _, ls7, G8', .refl, rfl, tql7⟩)
    · rintro l' bm' σ9 ⟨el, hlow', h3, f9, ls9, G9, n9, l9, tql9⟩
      have e := hgo h3
      rw [← el] at e
      have F9 := F8.trans f9
      have tq9 : σ9 tq = some (.list (tr.map .int)) := f9.keep _ _ tq8 fun h => tqM (mc_m h)
      have ni9 : NewIn σ d.ls ls9 := fun x hx => (n9 x hx).elim (ni8 x) fun h => .inr (F8.none h)
      have L9 : Lp c { d with s := s7, ls := ls9 } p n w σ σ9 K5 rdy5 ks5 turn5 rest5 := L8.world G9 f9 rfl n9
      simp! only []
      cases hld : w.ld m with
      | true =>
        rw [if_pos hld] at e
        simp! only []
        refine core σ9 ls9 l' bm' tr F9 L9 tq9 tql9 ni9 (by omega) (by omega) hlow' (fun x hx => ⟨(tr5 x hx).1, (tr5 x hx).2.2⟩) (by omega) e fun z hz e1 e2 σ' hI => ?_
        simp! only []
        exact jW z hz (by rw [e1, e2]; exact (by repeat first | exact Sub.nil _ | refine Sub.cons rfl ?_)) hI
      | false =>
        rw [if_neg (by rw [hld]; exact Bool.false_ne_true)] at e
        simp! only []
        refine aS tq9 ?_
        simp! only []
        refine aT tq9 (by rw [List.length_map]; omega) ?_
        have f10 : Fr [tq] σ9 (upd σ9 tq (.list (tr.map V.int ++ [V.int m]))) := Fr.u1
        have tq10 : (upd σ9 tq (.list (tr.map V.int ++ [V.int m]))) tq = some (.list ((tr ++ [m]).map V.int)) := by rw [List.map_append]; exact upd_self _ _ _
        generalize upd σ9 tq (.list (tr.map V.int ++ [V.int m])) = σ10 at f10 tq10
        have G10 : GoodC c { d with s := s7, ls := ls9 } σ10 := G9.keep f10 (all1 (p := fun x => x ∉ c.MC ∧ c.F x = none ∧ x ∉ ls9) ⟨fun h => tqM (mc_m h), tqF, tql9⟩)
        have a9 := L9.ask
        have nt : NoTup σ9 [tq] := all1 (p := fun x => ∀ xs, σ9 x ≠ some (.tup xs)) fun xs q => by rw [tq9] at q; cases q
        have tqp : tq ∉ K5.p :: K5.own := fun h => by
          rcases List.mem_cons.mp h with h | h
          · have := a9.P.inst; rw [← h, tq9] at this; cases this
          · exact tqo5 h
        have P10 := a9.P.keep f10 (all1 (p := fun x => x ∉ K5.p :: K5.own) tqp) nt
        have L10 : Lp c { d with s := s7, ls := ls9 } p n w σ σ10 K5 rdy5 ks5 turn5 rest5 := ⟨⟨ok, G10, a9.A, P10, a9.ply, a9.ls, a9.pos, a9.few, a9.pl, a9.lf⟩, L9.stg, L9.tup.keep f10 nt (fun h => tqo5 (by rw [List.mem_singleton] at h; rw [← h]; exact K5.o_rd)), L9.ps, L9.lk, L9.fr⟩
        simp! only []
        refine core σ10 ls9 l' bm' (tr ++ [m]) (F9.fresh f10 tq0) L10 tq10 tql9 ni9 (by omega) (by omega) hlow' (fun x hx => ?_) (by rw [List.length_append]; simp only [List.length_cons, List.length_nil]; omega) e fun z hz e1 e2 σ' hI => ?_
        · rcases List.mem_append.mp hx with hx | hx
          · exact ⟨(tr5 x hx).1, (tr5 x hx).2.2⟩
          · rw [List.mem_singleton] at hx; subst hx; exact ⟨⟨m1, m3⟩, mnot⟩
        · simp! only []
          exact jW z hz (by rw [e1, e2]; exact (by repeat first | exact Sub.nil _ | refine Sub.cons rfl ?_)) hI
  · have hm0 : m = 0 := Decidable.of_not_not hm0
    subst hm0
    unfold thenR at R5
    rw [if_pos rfl] at R5
    simp! only []
    refine cS e405 ⟨a5.G, ?_⟩
    simp! only []
    exact post σ5 s5 ls5 ab a5.G F5 ni5 ll5 ll5' (by rw [← R5]; rfl)
end
/-! PK -/
/-! the law's own world -/
noncomputable def P6 : List (Int × Int) := [(0, 1), (0, 2), (0, 3), (1, 1), (1, 2), (1, 3)]
structure PastOk (es : List ((Int × Int) × Addr × V)) (f : Int → Int → Int) : Prop where
  nd : (es.map (·.1)).Nodup
  sub : ∀ k ∈ es.map (·.1), k ∈ P6
  val : ∀ side move : Int, 0 ≤ side → side ≤ 1 → 1 ≤ move → move ≤ 3 → (pget es (side, move)).getD (.int 0) = .int (f side move)
noncomputable def tabW (c : Cw) (s : LS) : List (Nat × V) := [(175, .ref c.tree), (97, .int c.left), (62, .int c.limit), (178, .ref c.past), (176, .ref c.kills), (181, .int s.seen)]
structure GoodL (c : Cw) (s : LS) (ow : List Addr) (σ : St) : Prop where
  fix : ∀ a o, c.F a = some o → σ a = some o
  world : σ c.world = some (.sdict (tabW c s))
  past : ∃ es, σ c.past = some (.pdict es) ∧ PastOk es s.past ∧ ∀ e ∈ es, e.2.1 ∈ ow ∧ e.2.1 ∉ c.M ∧ σ e.2.1 = some (.tup [.int e.1.1, .int e.1.2])
  kills : ∃ as : List Addr, σ c.kills = some (.list (as.map .ref)) ∧ as.length = c.plies ∧ ∀ (i : Nat) (a : Addr), as[i]? = some a → a ∈ ow ∧ a ∉ c.M ∧ σ a = some (.list [.int (s.k1.getD i 0), .int (s.k2.getD i 0)])
  n1 : s.k1.length = c.plies
  n2 : s.k2.length = c.plies
  al : ∀ m ∈ c.M, σ m ≠ none
  oal : ∀ a ∈ ow, σ a ≠ none
section
variable {X : Cx} {c : Cw} {s : LS} {ow : List Addr} {σ σ' : St}
theorem ml_m {m : Addr} (h : m ∈ c.ML) : m ∈ c.M := by
  unfold Cw.ML at h; unfold Cw.M
  simp only [List.mem_cons, List.not_mem_nil, or_false] at h ⊢
  rcases h with h | h | h <;> simp only [h, true_or, or_true]
theorem ml_w : c.world ∈ c.ML := List.mem_cons_self
theorem ml_p : c.past ∈ c.ML := List.mem_cons_of_mem _ List.mem_cons_self
theorem ml_k : c.kills ∈ c.ML := List.mem_cons_of_mem _ (List.mem_cons_of_mem _ List.mem_cons_self)
theorem GoodL.keep {N : List Addr} (G : GoodL c s ow σ) (f : Fr N σ σ') (h : ∀ m ∈ N, m ∉ c.ML ∧ c.F m = none ∧ m ∉ ow) : GoodL c s ow σ' := by
  have k : ∀ m ∈ c.ML, m ∉ N := fun m hm hn => (h m hn).1 hm
  have ko : ∀ m ∈ ow, m ∉ N := fun m hm hn => (h m hn).2.2 hm
  obtain ⟨es, h1, h2, h3⟩ := G.past
  obtain ⟨as, g1, g2, g3⟩ := G.kills
  exact ⟨fun a o e => f.keep _ _ (G.fix a o e) fun hn => (by rw [(h a hn).2.1] at e; cases e), f.keep _ _ G.world (k _ ml_w), ⟨es, f.keep _ _ h1 (k _ ml_p), h2, fun e he => let ⟨a, b, d⟩ := h3 e he; ⟨a, b, f.keep _ _ d (ko _ a)⟩⟩,
    ⟨as, f.keep _ _ g1 (k _ ml_k), g2, fun i a e => let ⟨x, y, z⟩ := g3 i a e; ⟨x, y, f.keep _ _ z (ko _ x)⟩⟩, G.n1, G.n2, fun m hm => f.dom m (G.al m hm), fun m hm => f.dom m (G.oal m hm)⟩
theorem GoodL.keep0 (G : GoodL c s ow σ) (f : Fr [] σ σ') : GoodL c s ow σ' := G.keep f fun _ h => by cases h
theorem GoodL.not_m (G : GoodL c s ow σ) {a : Addr} (e : σ a = none) : a ∉ c.M := fun h => G.al a h e
theorem GoodL.in_fix (G : GoodL c s ow σ) {a : Addr} (e : σ a = none) : c.F a = none := by
  cases q : c.F a with
  | none => rfl
  | some o => rw [G.fix _ _ q] at e; cases e
theorem lnd (ok : c.Ok) : c.world ≠ c.past ∧ c.world ≠ c.kills ∧ c.past ≠ c.kills := by
  obtain ⟨-, -, -, -, -, ⟨n1, n2⟩, n3, -⟩ := nd10 ok.nd
  exact ⟨n1, n2, n3⟩
theorem gd_eq {l : List Int} {i : Nat} {p : Int} (h : i < l.length) : (l.set i p).getD i 0 = p := by
  rw [List.getD_eq_getElem?_getD, List.getElem?_set, if_pos rfl, if_pos h]; rfl
theorem gd_ne {l : List Int} {i j : Nat} {p : Int} (h : ¬ i = j) : (l.set i p).getD j 0 = l.getD j 0 := by
  rw [List.getD_eq_getElem?_getD, List.getElem?_set, if_neg h, ← List.getD_eq_getElem?_getD]
theorem GoodL.see (G : GoodL c s ow σ) (ok : c.Ok) : ∃ σ', SetItem X σ (.ref c.world) (.str 181) (.int (s.seen + 1)) σ' ∧ GoodL c s.see ow σ' ∧ Fr c.ML σ σ' := by
  obtain ⟨n1, n2, n3⟩ := lnd ok
  have hm : c.world ∈ c.M := ml_m ml_w
  obtain ⟨es, h1, h2, h3⟩ := G.past
  obtain ⟨as, g1, g2, g3⟩ := G.kills
  refine ⟨upd σ c.world (.sdict (tabW c s.see)), ?_, ⟨fun a o e => (upd_ne (ok.out hm e)).trans (G.fix a o e), upd_self _ _ _, ⟨es, (upd_ne n1.symm).trans h1, h2, fun e he => let ⟨a, b, d⟩ := h3 e he; ⟨a, b, (upd_ne fun q => b (by rw [q]; exact hm)).trans d⟩⟩,
    ⟨as, (upd_ne n2.symm).trans g1, g2, fun i a e => let ⟨x, y, z⟩ := g3 i a e; ⟨x, y, (upd_ne fun q => y (by rw [q]; exact hm)).trans z⟩⟩, G.n1, G.n2, fun m hm => upd_dom m (G.al m hm), fun m hm => upd_dom m (G.oal m hm)⟩, Fr.upd ml_w⟩
  exact .sdict G.world (by show 6 < 1000; decide) (by show [175, 97, 62, 178, 176, 181].Nodup; decide)
theorem GoodL.set_past (G : GoodL c s ow σ) (ok : c.Ok) {es : List ((Int × Int) × Addr × V)} {f : Int → Int → Int} {ow' : List Addr} (hw : ∀ a ∈ ow, a ∈ ow') (hal : ∀ a ∈ ow', σ a ≠ none) (h2 : PastOk es f) (h3 : ∀ e ∈ es, e.2.1 ∈ ow' ∧ e.2.1 ∉ c.M ∧ σ e.2.1 = some (.tup [.int e.1.1, .int e.1.2])) : GoodL c { s with past := f } ow' (upd σ c.past (.pdict es)) := by
  obtain ⟨n1, n2, n3⟩ := lnd ok
  have hm : c.past ∈ c.M := ml_m ml_p
  obtain ⟨as, g1, g2, g3⟩ := G.kills
  exact ⟨fun a o e => (upd_ne (ok.out hm e)).trans (G.fix a o e), (upd_ne n1).trans G.world, ⟨es, upd_self _ _ _, h2, fun e he => let ⟨a, b, d⟩ := h3 e he; ⟨a, b, (upd_ne fun q => b (by rw [q]; exact hm)).trans d⟩⟩,
    ⟨as, (upd_ne n3.symm).trans g1, g2, fun i a e => let ⟨x, y, z⟩ := g3 i a e; ⟨hw _ x, y, (upd_ne fun q => y (by rw [q]; exact hm)).trans z⟩⟩, G.n1, G.n2, fun m hm => upd_dom m (G.al m hm), fun m hm => upd_dom m (hal m hm)⟩
theorem GoodL.set_kill (G : GoodL c s ow σ) (ok : c.Ok) {i : Nat} {b : Addr} {p q : Int} (hb : σ b = some (.list [.int p, .int q])) (hbM : b ∉ c.M) (hi : i < c.plies) : ∃ σ', SetItem X σ (.ref c.kills) (.int i) (.ref b) σ' ∧ GoodL c (s.setK i p q) (b :: ow) σ' ∧ Fr c.ML σ σ' := by
  obtain ⟨n1, n2, n3⟩ := lnd ok
  have hm : c.kills ∈ c.M := ml_m ml_k
  obtain ⟨es, h1, h2, h3⟩ := G.past
  obtain ⟨as, g1, g2, g3⟩ := G.kills
  have l1 := G.n1
  have l2 := G.n2
  have p4 := ok.p4
  refine ⟨upd σ c.kills (.list ((as.map .ref).set i (.ref b))), setitem_list g1 (by lia) (by lia) (by rw [List.length_map]; lia), ⟨fun a o e => (upd_ne (ok.out hm e)).trans (G.fix a o e), (upd_ne n2).trans G.world, ⟨es, (upd_ne n3).trans h1, h2, fun e he => let ⟨a, b, d⟩ := h3 e he; ⟨List.mem_cons_of_mem _ a, b, (upd_ne fun q => b (by rw [q]; exact hm)).trans d⟩⟩,
    ⟨as.set i b, (by rw [List.map_set]; exact upd_self _ _ _), (by rw [List.length_set]; exact g2), fun j a e => ?_⟩, (by show (s.k1.set i p).length = _; rw [List.length_set]; exact l1), (by show (s.k2.set i q).length = _; rw [List.length_set]; exact l2), fun m hm => upd_dom m (G.al m hm), fun m hm => upd_dom m ((List.mem_cons.mp hm).elim (fun e => by rw [e, hb]; exact nofun) (G.oal m))⟩, Fr.upd ml_k⟩
  rw [List.getElem?_set] at e
  unfold LS.setK
  by_cases z : i = j
  · subst z
    rw [if_pos rfl, if_pos (by lia)] at e
    cases e
    refine ⟨List.mem_cons_self, hbM, (upd_ne fun q => hbM (by rw [q]; exact hm)).trans ?_⟩
    rw [hb, gd_eq (by lia), gd_eq (by lia)]
  · rw [if_neg z] at e
    obtain ⟨x, y, w⟩ := g3 j a e
    refine ⟨List.mem_cons_of_mem _ x, y, (upd_ne fun q => y (by rw [q]; exact hm)).trans ?_⟩
    rw [w, gd_ne z, gd_ne z]
theorem str_of {a : Addr} {n : Nat} {es : List (Nat × V)} (h : σ a = some (.sdict es)) : getV X σ (.ref a) (.str n) = es.lookup n := by
  unfold getV; simp only [rd_own h]
theorem GoodL.w_at (G : GoodL c s ow σ) {n : Nat} {v : V} (h : (tabW c s).lookup n = some v) : getV X σ (.ref c.world) (.str n) = some v := (str_of G.world).trans h
theorem GoodL.row (G : GoodL c s ow σ) (ok : c.Ok) {b : Addr} {f : Row → V} (hb : c.F b = some (.list (c.t.map f))) {n : Nat} {w : Row} (hw : c.t[n]? = some w) : getV X σ (.ref b) (.int (n : Int)) = some (f w) := by
  have := (List.getElem?_eq_some_iff.mp hw).1
  have := ok.t7
  rw [sub_of (G.fix _ _ hb), getIdx_nat (by lia), List.getElem?_map, hw]; rfl
theorem GoodL.t4 (G : GoodL c s ow σ) (ok : c.Ok) : getV X σ (.ref c.tree) (.int 4) = some (.ref c.louds) := get_nat (k := 4) (G.fix _ _ ok.tree) (by decide) rfl
theorem GoodL.t5 (G : GoodL c s ow σ) (ok : c.Ok) : getV X σ (.ref c.tree) (.int 5) = some (.ref c.gains) := get_nat (k := 5) (G.fix _ _ ok.tree) (by decide) rfl
theorem GoodL.r_kid (G : GoodL c s ow σ) (ok : c.Ok) {w : Row} (hw : w ∈ c.t) {m : Int} (h1 : 1 ≤ m) (h2 : m ≤ w.kids.length) : getV X σ (.ref w.ka) (.int (m - 1)) = some (.int ((w.kids.getD (m - 1).toNat 0 : Nat) : Int)) := by
  have R := ok.rows w hw
  have := R.few
  rw [sub_of (G.fix _ _ R.ka), getIdx_int (by lia) (by lia), List.getElem?_map, List.getElem?_eq_getElem (sub1 h1 h2), Option.map_some, List.getD_eq_getElem?_getD, List.getElem?_eq_getElem (sub1 h1 h2)]; rfl
theorem GoodL.r_loud (G : GoodL c s ow σ) (ok : c.Ok) {w : Row} (hw : w ∈ c.t) {m : Int} (h1 : 1 ≤ m) (h2 : m ≤ w.kids.length) : getV X σ (.ref w.la) (.int (m - 1)) = some (.bool (w.ld m)) := by
  have R := ok.rows w hw
  have := R.few
  have e := R.ln
  rw [sub_of (G.fix _ _ R.la), getIdx_int (by lia) (by lia), List.getElem?_map, List.getElem?_eq_getElem (by lia), Option.map_some]
  unfold Row.ld
  rw [List.getD_eq_getElem?_getD, List.getElem?_eq_getElem (by lia)]; rfl
theorem GoodL.r_gain (G : GoodL c s ow σ) (ok : c.Ok) {w : Row} (hw : w ∈ c.t) {m : Int} (h1 : 1 ≤ m) (h2 : m ≤ w.kids.length) : getV X σ (.ref w.ga) (.int (m - 1)) = some (.int (w.gn' m)) := by
  have R := ok.rows w hw
  have := R.few
  have e := R.gn
  rw [sub_of (G.fix _ _ R.ga), getIdx_int (by lia) (by lia), List.getElem?_map, List.getElem?_eq_getElem (by lia), Option.map_some]
  unfold Row.gn'
  rw [List.getD_eq_getElem?_getD, List.getElem?_eq_getElem (by lia)]; rfl
theorem GoodL.len_kills (G : GoodL c s ow σ) (ok : c.Ok) : lenV X [.ref c.kills] σ = some (.int c.plies) := by
  obtain ⟨as, g1, g2, -⟩ := G.kills
  have := ok.p4
  rw [len_of g1 (by rw [List.length_map]; lia), List.length_map, g2]
theorem GoodL.l_kids (G : GoodL c s ow σ) (ok : c.Ok) {w : Row} (hw : w ∈ c.t) : lenV X [.ref w.ka] σ = some (.int w.kids.length) := by
  have R := ok.rows w hw
  have := R.few
  rw [len_of (G.fix _ _ R.ka) (by rw [List.length_map]; lia), List.length_map]
theorem GoodL.kill_at (G : GoodL c s ow σ) (ok : c.Ok) {i : Nat} (hi : i < c.plies) : ∃ a, getV X σ (.ref c.kills) (.int (i : Int)) = some (.ref a) ∧ a ∈ ow ∧ a ∉ c.M ∧ σ a = some (.list [.int (s.k1.getD i 0), .int (s.k2.getD i 0)]) := by
  obtain ⟨as, g1, g2, g3⟩ := G.kills
  have hl : i < as.length := by lia
  have := ok.p4
  obtain ⟨x, y, z⟩ := g3 i _ (List.getElem?_eq_getElem hl)
  exact ⟨as[i], get_nat g1 (by lia) (by rw [List.getElem?_map, List.getElem?_eq_getElem hl]; rfl), x, y, z⟩
theorem GoodL.pd (G : GoodL c s ow σ) {es : List ((Int × Int) × Addr × V)} (h3 : ∀ e ∈ es, e.2.1 ∈ ow ∧ e.2.1 ∉ c.M ∧ σ e.2.1 = some (.tup [.int e.1.1, .int e.1.2])) : PdOk X σ es := fun e he => rd_own (h3 e he).2.2
theorem GoodL.gQ (G : GoodL c s ow σ) {b : Addr} {side m : Int} (hb : σ b = some (.tup [.int side, .int m])) (h1 : 0 ≤ side) (h2 : side ≤ 1) (h3 : 1 ≤ m) (h4 : m ≤ 3) {P : List ((Int × Int) × Addr × V) → Addr → Int → Int → Prop} (k : ∀ es, (pget es (side, m)).getD (.int 0) = .int (s.past side m) → P es b side m) :
    ∃ es b' i j, rd X σ c.past = some (.pdict es) ∧ PdOk X σ es ∧ V.ref b = .ref b' ∧ rd X σ b' = some (.tup [.int i, .int j]) ∧ P es b' i j := by
  obtain ⟨es, d1, d2, d3⟩ := G.past
  exact ⟨es, b, side, m, rd_own d1, G.pd d3, rfl, rd_own hb, k es (d2.val _ _ h1 h2 h3 h4)⟩
theorem GoodL.gS (G : GoodL c s ow σ) (ok : c.Ok) {G' H : Addr → Prop} (k : G' c.past) : ∃ l', V.ref c.past = .ref l' ∧ l' ≠ 1 ∧ (H l' ∨ ((∃ es, σ l' = some (.pdict es)) ∧ G' l')) := by
  obtain ⟨es, d1, d2, d3⟩ := G.past
  exact gP ok.h1 d1 k
end
theorem mod2 (ply : Nat) : (ply : Int).fmod 2 = ((ply % 2 : Nat) : Int) := by
  rw [Int.fmod_eq_emod_of_nonneg _ (by decide)]; lia
/-! PL -/
section
variable {X : Cx} {r : Nat} {c : Cw}
theorem jnP {P Y G : Prop} (h : (P → Y) → G) (y : P → Y) : G := h y
theorem jnA {Y P : Addr → St → Prop} {G : Prop} (h : (∀ a s, P a s → Y a s) → G) (y : ∀ a s, P a s → Y a s) : G := h y
theorem uR {Γ : Nat → TC} {ρ : Loc} {σ : St} {Q : Fl → Loc → St → Prop} {t : Addr} {xs : List V} {ns : List Nat} {k : Cm} (ns' : List Nat) (xs' : List V) (h : rd X σ t = some (.tup xs)) (hl : xs.length = ns.length) (e1 : ns.reverse = ns') (e2 : xs.reverse = xs') (kk : go X Γ k (putMany ns' xs' ρ) σ Q) : ∃ src xs, SrcV X σ (.ref t) src ∧ SrcOk X σ src xs ∧ xs.length = ns.length ∧ go X Γ k (putMany ns.reverse xs.reverse ρ) σ Q :=
  uT h hl (by rw [e1, e2]; exact kk)
inductive T532 (c : Cw) : TC
  | mk {σ Q n ml s ow w} {ms : List Int} {ply k : Nat} (G : GoodL c s ow σ) (hw : c.t[n]? = some w) (hml : σ ml = some (.list (ms.map .int))) (few : ms.length ≤ 3) (pos : ∀ m ∈ ms, 1 ≤ m ∧ m ≤ w.kids.length) (h : New σ (.list ((stM w ply s k ms).map .int)) Q) : T532 c [.ref c.world, .int (n : Nat), .ref ml, .int ply, .int k] σ Q
theorem pairL_small {s : LS} (ply : Nat) : (s.pairL ply).length ≤ 2 := by
  unfold LS.pairL
  split
  · exact Nat.le_refl _
  · exact Nat.zero_le _
inductive I532 (σ : St) (w : Row) (s : LS) (ply k : Nat) (ms : List Int) (ma pa : Addr) (ns : List Int) (g : List (Int × Int)) (σ' : St) : Prop
  | mk (hin : ∀ x ∈ ns, x ∈ ms) (f : Fr [] σ σ') (T : Tups σ' ma g) (hp : σ' pa = some (.list ((s.pairL ply).map .int))) (sz : g.length + ns.length ≤ 3) (he : g ++ markL w s ply k ns = markL w s ply k ms)
section
variable {σ σ' σ₁ : St} {w : Row} {s : LS} {ply k : Nat} {ms ns : List Int} {ma pa : Addr} {g : List (Int × Int)} {m : Int}
theorem I532.keep (h : I532 σ w s ply k ms ma pa ns g σ') (f : Fr [] σ' σ₁) : I532 σ w s ply k ms ma pa ns g σ₁ := by
  cases h with | mk a b d e g h => exact .mk a (b.trans f) (d.keep f NoTup.nil (fun h => by cases h)) (f.k0 e) g h
theorem I532.skip (h : I532 σ w s ply k ms ma pa (m :: ns) g σ') (e : markL w s ply k ns = markL w s ply k (m :: ns)) : I532 σ w s ply k ms ma pa ns g σ' := by
  cases h with | mk a b d p q h => exact .mk (fun x hx => a x (List.mem_cons_of_mem _ hx)) b d p (Nat.le_trans (Nat.add_le_add_left (Nat.le_succ _) _) q) (by rw [e]; exact h)
theorem I532.tup (h : I532 σ w s ply k ms ma pa (m :: ns) g σ') (ma0 : σ ma = none) (hne : pa ≠ ma) {q : Int} (e : (q, m) :: markL w s ply k ns = markL w s ply k (m :: ns)) {P : V → List V → St → Prop}
    (kk : ∀ b xs s', I532 σ w s ply k ms ma pa ns (g ++ [(q, m)]) (upd s' ma (.list (xs ++ [.ref b]))) → P (.ref b) xs s') : [V.int q, .int m].length < 1000 ∧ Made X σ' (.tup [.int q, .int m]) fun v s' => ∃ xs, s' ma = some (.list xs) ∧ xs.length < 1000 ∧ P v xs s' := by
  refine tU rfl fun b s' _ hb _ hs => ?_
  subst hs
  cases h with | mk hin f T hp sz he =>
  obtain ⟨xs, h1, h2, h3⟩ := T.snoc (i := q) (j := m) hb
  rw [List.length_cons] at sz
  refine ⟨xs, h1, by lia, kk _ _ _ (.mk (fun x hx => hin x (List.mem_cons_of_mem _ hx)) ((f.trans (Fr.new hb)).fresh Fr.u1 ma0) h3 ((upd_ne hne).trans (ne_upd hb hp)) (by rw [List.length_append]; simp only [List.length_cons, List.length_nil]; lia) (by rw [List.append_assoc, ← he]; exact congrArg _ e))⟩
end
inductive J532 (σ : St) (g : List (Int × Int)) (D : Addr) (is : List Nat) (cs : List Int) (dn : List Nat) (σ' : St) : Prop
  | mk (hD : σ' D = some (.list (cs.map .int))) (e : cs = dn.map fun i => (g.getD i (0, 0)).2) (hdn : dn ++ is = ordK g) (f : Fr [] σ σ') (h0 : σ D = none)
theorem c_532 (ok : c.Ok) (h6 : 6 ≤ r) : SC X (r + 3) (.ref 532) (T532 c) := by
  refine D_532.run (hyN h6) fun vs σ Q h => ?_
  induction h with | @mk σ Q n ml s ow w ms ply k G hw hml few pos hq =>
  refine prI rfl ?_
  have hwm : w ∈ c.t := List.mem_of_getElem? hw
  have hkids := (ok.rows w hwm).few
  have n1 := G.n1
  simp! only [G.w_at rfl, G.t4 ok, G.t5 ok, G.row ok ok.louds hw, G.row ok ok.gains hw]
  refine tU rfl fun ta σ1 _ a2 _ hs1 => ?_
  have f1 : Fr [] σ σ1 := hs1 ▸ Fr.new a2
  have ht : σ1 ta = some (.tup [.ref w.la, .ref w.ga]) := hs1 ▸ upd_self _ _ _
  have G1 := G.keep0 f1
  refine uR [148, 165] [.ref w.ga, .ref w.la] (rd_own ht) rfl rfl rfl ?_
  simp! only [G1.w_at rfl, G1.len_kills ok]
  apply jnA (P := fun pa σ2 => Fr [] σ σ2 ∧ σ2 pa = some (.list ((s.pairL ply).map .int)))
  · intro key
    refine iC (fun hp => ?a) fun hp => ?b
    case b =>
      simp! only []
      refine lU rfl fun pa σ2 _ p2 _ hs2 => key pa σ2 ⟨f1.trans (hs2 ▸ Fr.new p2), ?_⟩
      unfold LS.pairL
      rw [if_neg (by omega), hs2]; exact upd_self _ _ _
    case a =>
      obtain ⟨pa, k1, k2, k3, k4⟩ := G1.kill_at (X := X) (i := ply) ok (by omega)
      simp! only [G1.w_at rfl, k1]
      refine key pa σ1 ⟨f1, ?_⟩
      unfold LS.pairL
      rw [k4, if_pos (by omega)]; rfl
  rintro pa σ2 ⟨F2, hpa⟩
  simp! only []
  refine lU rfl fun ma σ3 _ b2 _ hs3 => ?_
  have hma : σ3 ma = some (.list []) := hs3 ▸ upd_self _ _ _
  have ma0 := F2.none b2
  have hne : pa ≠ ma := fun q => by rw [← q, hpa] at b2; cases b2
  simp! only []
  refine fM (src := .list ml) V.int (fun _ : List (Int × Int) => [(174, .ref c.world), (166, .int n), (95, .ref ml), (11, .int ply), (99, .int k), (148, .ref w.ga), (165, .ref w.la), (81, .ref pa), (172, .ref ma)]) (I532 σ w s ply k ms ma pa) ms [] rfl rfl rfl
    (.mk (fun x h => h) (F2.trans (hs3 ▸ Fr.new b2)) ⟨[], hma, trivial⟩ (hs3 ▸ ne_upd b2 hpa) (by rw [List.length_nil]; omega) rfl) (fun _ _ σ' h => by cases h with | mk _ f _ _ _ _ => exact rd_own (f.k0 hml)) (fun m ns g σ' h => ?_) fun g σ' h => ?_
  · have h' := h
    cases h' with | mk hin f T hp sz he =>
    obtain ⟨m1, m2⟩ := pos m (hin m List.mem_cons_self)
    have G' := G.keep0 f
    obtain ⟨as0, hT1, hT2⟩ := T
    simp! only [G'.r_loud ok hwm m1 m2]
    refine ⟨fun hld => ?_, fun hld => ?_⟩
    · simp! only [G'.r_gain ok hwm m1 m2]
      refine iC (fun hg => ?_) fun hg => ?_
      · simp! only []
        refine iC (fun hk => ?_) fun hk => ?_
        · simp! only []
          refine aS hT1 ?_
          simp! only [G'.r_gain ok hwm m1 m2]
          refine h.tup ma0 hne (by conv => rhs; unfold markL; rw [if_pos hld, if_pos hg, if_pos (by omega)]) fun b xs s' hI => ?_
          simp! only []
          exact jM ns _ (by repeat first | exact Sub.nil _ | refine Sub.cons rfl ?_) hI
        · simp! only []
          exact jM ns g (by repeat first | exact Sub.nil _ | refine Sub.cons rfl ?_) (h.skip (by conv => rhs; unfold markL; rw [if_pos hld, if_pos hg, if_neg (by omega)]))
      · simp! only []
        refine iC (fun hk => ?_) fun hk => ?_
        · simp! only []
          refine aS hT1 ?_
          simp! only [G'.r_gain ok hwm m1 m2]
          refine h.tup ma0 hne (by conv => rhs; unfold markL; rw [if_pos hld, if_neg hg, if_pos (by omega)]) fun b xs s' hI => ?_
          simp! only []
          exact jM ns _ (by repeat first | exact Sub.nil _ | refine Sub.cons rfl ?_) hI
        · simp! only []
          exact jM ns g (by repeat first | exact Sub.nil _ | refine Sub.cons rfl ?_) (h.skip (by conv => rhs; unfold markL; rw [if_pos hld, if_neg hg, if_neg (by omega)]))
    · have hnl : ¬ w.ld m = true := by rw [hld]; exact Bool.false_ne_true
      apply jnP (P := ¬ (k = 2 ∧ (s.pairL ply).contains m = true))
      · intro key
        simp! only []
        refine iC (fun hk => ?_) fun hk => ?_
        · simp! only [in_of hp m]
          refine ⟨fun hc => ?_, fun hc => ?_⟩
          · have hcm : m ∈ s.pairL ply := List.contains_iff_mem.mp hc
            simp! only []
            refine aS hT1 ?_
            simp! only []
            refine aS hp ?_
            simp! only []
            refine ⟨_, _, hp, rfl, hcm, Nat.lt_of_le_of_lt (pairL_small ply) (by decide), ?_⟩
            simp! only []
            refine h.tup ma0 hne (by conv => rhs; unfold markL; rw [if_neg hnl, if_pos ⟨by omega, hc⟩]) fun b xs s' hI => ?_
            simp! only []
            exact jM ns _ (by repeat first | exact Sub.nil _ | refine Sub.cons rfl ?_) hI
          · exact key fun h => by rw [hc] at h; exact Bool.false_ne_true h.2
        · exact key fun h => hk (by omega)
      intro hno
      simp! only []
      refine iC (fun hk => ?_) fun hk => ?_
      · simp! only []
        refine aS hT1 ?_
        simp! only [G'.w_at rfl]
        refine G'.gS ok ?_
        simp! only [b_mod (j := 2) (by decide)]
        rw [mod2 ply]
        refine tU rfl fun kb σ4 _ u2 _ hs4 => ?_
        have fk : Fr [] σ' σ4 := hs4 ▸ Fr.new u2
        have hkb : σ4 kb = some (.tup [.int ((ply % 2 : Nat) : Int), .int m]) := hs4 ▸ upd_self _ _ _
        simp! only []
        refine (G'.keep0 fk).gQ hkb (by omega) (by omega) m1 (by omega) fun es ee => ?_
        rw [ee]
        simp! only []
        refine (h.keep fk).tup ma0 hne (by conv => rhs; unfold markL; rw [if_neg hnl, if_neg hno, if_pos (by omega)]) fun b xs s' hI => ?_
        simp! only []
        exact jM ns _ (by repeat first | exact Sub.nil _ | refine Sub.cons rfl ?_) hI
      · simp! only []
        exact jM ns g (by repeat first | exact Sub.nil _ | refine Sub.cons rfl ?_) (h.skip (by conv => rhs; unfold markL; rw [if_neg hnl, if_neg hno, if_neg (by omega)]))
  · cases h with | mk hin f T hp sz he =>
    have he' : g = markL w s ply k ms := by rw [← he]; unfold markL; rw [List.append_nil]
    obtain ⟨as, hT1, hT2⟩ := T
    have hlen := hT2.len
    have ol := ordK_len g
    simp! only []
    refine ⟨ma, as.map .ref, g, rfl, rd_own hT1, by rw [List.length_map, hlen], by simpa using sz, ?_, mU fun l2 σ5 _ z2 _ hs5 => ?_⟩
    · intro i v q e1 e2
      obtain ⟨a, x1, x2⟩ := hT2.get e2
      rw [List.getElem?_map, x1] at e1
      cases e1
      exact ⟨a, rfl, rd_own x2⟩
    have fl : Fr [] σ' σ5 := hs5 ▸ Fr.new z2
    have hl2 : σ5 l2 = some (.list ((ordK g).map fun i => (as.map V.ref).getD i .none)) := hs5 ▸ upd_self _ _ _
    refine cM (src := .list l2) (fun i => (as.map V.ref).getD i .none) V.int (J532 σ5 g) (ordK g) [] rfl rfl (rd_own hl2) (by omega) (fun D s _ x2 _ hs => .mk (hs ▸ upd_self _ _ _) rfl rfl (hs ▸ Fr.new x2) x2)
      (fun D is cs dn σ6 h => ?_) (fun D i is cs dn σ6 h => ?_) (fun D cs dn σ6 h => ?_)
    · cases h with | mk hD e hdn f6 h0 =>
      exact ⟨rd_own (f6.k0 hl2), hD, by rw [e, ← hdn, List.length_map, List.length_map, List.length_append]; exact Nat.le_refl _⟩
    · cases h with | mk hD e hdn f6 h0 =>
      have hi : i ∈ ordK g := by rw [← hdn]; exact List.mem_append_right _ List.mem_cons_self
      have hil := ordK_lt hi
      obtain ⟨a, q1, q2⟩ := hT2.get (List.getElem?_eq_getElem hil)
      have ea : (as.map V.ref).getD i .none = .ref a := by rw [List.getD_eq_getElem?_getD, List.getElem?_map, q1]; rfl
      have eg : g.getD i (0, 0) = g[i] := by rw [List.getD_eq_getElem?_getD, List.getElem?_eq_getElem hil]; rfl
      rw [ea]
      simp! only [(getV_tup (X := X) (f6.k0 (fl.k0 q2))).2]
      exact cT g[i].2 (dn ++ [i]) hD (.mk (by rw [List.map_append]; exact upd_self _ _ _) (by rw [List.map_append, e, List.map_singleton, eg]) (by rw [List.append_assoc]; exact hdn) (f6.fresh Fr.u1 h0) h0)
    · cases h with | mk hD e hdn f6 h0 =>
      rw [List.append_nil] at hdn
      have e : cs = stM w ply s k ms := by rw [e, hdn, he']; rfl
      rw [e] at hD
      exact hq D σ6 (f.trans (fl.trans f6)) (f.none (fl.none h0)) hD
end
/-! PM -/
theorem pget_storeP (es : List ((Int × Int) × Addr × V)) (k k' : Int × Int) (a : Addr) (v : V) : pget (storeP es k a v) k' = if k' = k then some v else pget es k' := by
  have m : ∀ es : List ((Int × Int) × Addr × V), pget (es.map fun e => if e.1 = k then (e.1, e.2.1, v) else e) k' = if k' = k then (pget es k).map fun _ => v else pget es k' := by
    intro es
    induction es with
    | nil => unfold pget; simp
    | cons e es ih =>
      unfold pget at ih ⊢
      rw [List.map_cons, List.find?_cons, List.find?_cons, List.find?_cons]
      by_cases h1 : e.1 = k
      · rw [if_pos h1]
        by_cases h2 : k' = k
        · subst h2; simp [h1]
        · have : ¬ e.1 = k' := fun q => h2 (q.symm.trans h1)
          simp only [this, decide_false, h2, if_false]
          rw [ih, if_neg h2]
      · rw [if_neg h1]
        by_cases h2 : k' = k
        · subst h2
          simp only [h1, decide_false, if_true]
          rw [ih, if_pos rfl]
        · by_cases h3 : e.1 = k'
          · simp [h3, h2]
          · simp only [h3, decide_false, h2, if_false]
            rw [ih, if_neg h2]
  unfold storeP
  by_cases hs : (pget es k).isSome = true
  · rw [if_pos hs, m]
    by_cases h2 : k' = k
    · rw [if_pos h2, if_pos h2]
      obtain ⟨x, hx⟩ := Option.isSome_iff_exists.mp hs
      rw [hx]; rfl
    · rw [if_neg h2, if_neg h2]
  · rw [if_neg hs]
    have hn : pget es k = none := by
      cases q : pget es k with
      | none => rfl
      | some x => rw [q] at hs; exact absurd rfl hs
    unfold pget at hn ⊢
    rw [List.find?_append]
    by_cases h2 : k' = k
    · subst h2
      rw [if_pos rfl]
      have : es.find? (fun e => decide (e.1 = k')) = none := by simpa using hn
      rw [this]; simp
    · rw [if_neg h2]
      cases es.find? (fun e => decide (e.1 = k')) with
      | some x => rfl
      | none => simp [Ne.symm h2]
theorem keys_storeP (es : List ((Int × Int) × Addr × V)) (k : Int × Int) (a : Addr) (v : V) : (storeP es k a v).map (·.1) = if k ∈ es.map (·.1) then es.map (·.1) else es.map (·.1) ++ [k] := by
  have e : (pget es k).isSome = decide (k ∈ es.map (·.1)) := by
    unfold pget
    rw [Bool.eq_iff_iff, decide_eq_true_eq, Option.isSome_map, List.find?_isSome]
    simp
  unfold storeP
  by_cases q : k ∈ es.map (·.1)
  · rw [if_pos (by rw [e]; exact decide_eq_true q), if_pos q, List.map_map]
    apply List.map_congr_left
    intro x _
    show (if x.1 = k then (x.1, x.2.1, v) else x).1 = x.1
    split <;> rfl
  · rw [if_neg (by rw [e, decide_eq_false q]; exact Bool.false_ne_true), if_neg q]; simp
theorem ndp_len {l m : List (Int × Int)} (h : l.Nodup) (hs : ∀ x ∈ l, x ∈ m) : l.length ≤ m.length := by
  induction l generalizing m with
  | nil => simp
  | cons a l ih =>
    rw [List.nodup_cons] at h
    have ha := hs a List.mem_cons_self
    have := ih (m := m.erase a) h.2 fun x hx => (List.mem_erase_of_ne fun q => h.1 (by rw [← q]; exact hx)).mpr (hs x (List.mem_cons_of_mem _ hx))
    rw [List.length_erase_of_mem ha] at this
    have := List.length_pos_of_mem ha
    simp only [List.length_cons]; lia
theorem PastOk.len {es : List ((Int × Int) × Addr × V)} {f : Int → Int → Int} (h : PastOk es f) : es.length < 1000 := by
  have := ndp_len h.nd h.sub
  rw [List.length_map] at this
  have : es.length ≤ 6 := this
  lia
theorem in_P6 {s m : Int} (h1 : 0 ≤ s) (h2 : s ≤ 1) (h3 : 1 ≤ m) (h4 : m ≤ 3) : (s, m) ∈ P6 := by
  have h : s = 0 ∨ s = 1 := by lia
  have h' : m = 1 ∨ m = 2 ∨ m = 3 := by lia
  unfold P6
  rcases h with e | e <;> rcases h' with e' | e' | e' <;> subst e e' <;> decide
theorem PastOk.store {es : List ((Int × Int) × Addr × V)} {s : LS} (h : PastOk es s.past) {side move limit b : Int} (a : Addr) (h1 : 0 ≤ side) (h2 : side ≤ 1) (h3 : 1 ≤ move) (h4 : move ≤ 3) :
    PastOk (storeP es (side, move) a (.int (newM limit (s.past side move) b))) (s.updP limit side move b).past := by
  refine ⟨?_, ?_, fun x y a1 a2 a3 a4 => ?_⟩
  · rw [keys_storeP]
    split
    · exact h.nd
    · rename_i q
      rw [List.nodup_append]
      exact ⟨h.nd, by simp, fun a ha b hb => by simp at hb; subst hb; intro e; subst e; exact q ha⟩
  · rw [keys_storeP]
    intro k hk
    split at hk
    · exact h.sub k hk
    · rcases List.mem_append.mp hk with hk | hk
      · exact h.sub k hk
      · simp at hk; subst hk; exact in_P6 h1 h2 h3 h4
  · rw [pget_storeP]
    unfold LS.updP
    dsimp only
    by_cases q : x = side ∧ y = move
    · obtain ⟨rfl, rfl⟩ := q
      rw [if_pos rfl, if_pos ⟨rfl, rfl⟩]; rfl
    · rw [if_neg fun e => q (by cases e; exact ⟨rfl, rfl⟩), if_neg q]; exact h.val x y a1 a2 a3 a4
theorem storeP_in {es : List ((Int × Int) × Addr × V)} {k : Int × Int} {a : Addr} {v : V} {P : Int × Int → Addr → Prop} (h : ∀ e ∈ es, P e.1 e.2.1) (ha : P k a) : ∀ e ∈ storeP es k a v, P e.1 e.2.1 := by
  intro e he
  unfold storeP at he
  split at he
  · obtain ⟨x, hx, rfl⟩ := List.mem_map.mp he
    have := h x hx
    split <;> exact this
  · rcases List.mem_append.mp he with he | he
    · exact h e he
    · rw [List.mem_singleton] at he; subst he; exact ha
theorem newM_eq (limit old b : Int) : old + b - (if 0 < old then (absM old * absM b).fdiv limit else -(absM old * absM b).fdiv limit) = newM limit old b := by
  unfold newM shareM
  by_cases h : old < 0
  · have e : absM old = -old := if_pos h
    rw [if_neg (by lia), if_pos h, e]
  · have e : absM old = old := if_neg h
    rw [if_neg h, e]
    by_cases h0 : 0 < old
    · rw [if_pos h0]
    · have : old = 0 := by lia
      subst this
      rw [if_neg h0]; simp
section
variable {X : Cx} {r : Nat} {c : Cw}
/-- the law's own world goes on to s' -/
def Nl (c : Cw) (σ : St) (ow : List Addr) (s' : LS) (Q : St → Prop) : Prop := ∀ ow' σ', NewIn σ ow ow' → GoodL c s' ow' σ' → Fr c.ML σ σ' → Q σ'
theorem GoodL.store {s : LS} {ow : List Addr} {σ : St} (G : GoodL c s ow σ) (ok : c.Ok) {side m b : Int} {a : Addr} (h1 : 0 ≤ side) (h2 : side ≤ 1) (h3 : 1 ≤ m) (h4 : m ≤ 3) (ha : σ a = some (.tup [.int side, .int m])) (hM : a ∉ c.M) : ∃ σ', SetItem X σ (.ref c.past) (.ref a) (.int (newM c.limit (s.past side m) b)) σ' ∧ GoodL c (s.updP c.limit side m b) (a :: ow) σ' ∧ Fr c.ML σ σ' := by
  obtain ⟨es, z1, z2, z3⟩ := G.past
  refine ⟨upd σ c.past (.pdict (storeP es (side, m) a (.int (newM c.limit (s.past side m) b)))), ?_, G.set_past ok (ow' := a :: ow) (fun a ha => List.mem_cons_of_mem _ ha) (fun x hx => (List.mem_cons.mp hx).elim (fun e => by rw [e, ha]; exact nofun) (G.oal x)) (z2.store (limit := c.limit) (b := b) a h1 h2 h3 h4) (storeP_in (P := fun k x => x ∈ a :: ow ∧ x ∉ c.M ∧ σ x = some (.tup [.int k.1, .int k.2])) (fun e he => let ⟨a, b, d⟩ := z3 e he; ⟨List.mem_cons_of_mem _ a, b, d⟩) ⟨List.mem_cons_self, hM, ha⟩), Fr.upd ml_p⟩
  exact .pdict z1 (rd_own ha) z2.len (G.pd z3)
theorem jnI {Y P : Int → Prop} {G : Prop} (h : (∀ i, P i → Y i) → G) (y : ∀ i, P i → Y i) : G := h y
inductive T544 (c : Cw) : TC
  | mk {σ Q s ow} {side m b : Int} (G : GoodL c s ow σ) (h1 : 0 ≤ side) (h2 : side ≤ 1) (h3 : 1 ≤ m) (h4 : m ≤ 3) (h5 : -1000 ≤ b) (h6 : b ≤ 1000) (h : Nl c σ ow (s.updP c.limit side m b) fun σ' => Q .none σ') : T544 c [.ref c.world, .int side, .int m, .int b] σ Q
theorem c_544 (ok : c.Ok) (h6 : 6 ≤ r) : SC X (r + 3) (.ref 544) (T544 c) := by
  refine D_544.run (hyN h6) fun vs σ Q h => ?_
  induction h with | @mk σ Q s ow side m b G h1 h2 h3 h4 h5 h7 hq =>
  refine prI rfl ?_
  have l1 := ok.l1
  have l2 := ok.l2
  have e1 : (absM b).natAbs < 1073741824 := by unfold absM; split <;> lia
  have e2 : c.limit.natAbs < 1073741824 := by lia
  have e3 : c.limit ≠ 0 := by lia
  simp! only [G.w_at rfl]
  refine G.gS ok ?_
  simp! only []
  refine tU rfl fun kb σ1 _ u2 _ hs => ?_
  have fk : Fr [] σ σ1 := hs ▸ Fr.new u2
  have hkb : σ1 kb = some (.tup [.int side, .int m]) := hs ▸ upd_self _ _ _
  have G1 := G.keep0 fk
  simp! only []
  refine G1.gQ hkb h1 h2 h3 h4 fun es ee => ?_
  rw [ee]
  simp! only [b_mul e1, G1.w_at rfl, b_fdiv e3 e2]
  have nm := newM_eq c.limit (s.past side m) b
  unfold absM at nm
  generalize ((if s.past side m < 0 then -s.past side m else s.past side m) * if b < 0 then -b else b).fdiv c.limit = q at nm ⊢
  apply jnI (P := fun i => i = newM c.limit (s.past side m) b)
  · intro key
    refine iC (fun hp => ?_) fun hp => ?_
    · rw [if_pos hp] at nm
      generalize s.past side m + b - q = i at nm ⊢
      exact key i nm
    · rw [if_neg hp] at nm
      generalize s.past side m + b - -q = i at nm ⊢
      exact key i nm
  · intro i hi
    subst hi
    simp! only [G1.w_at rfl]
    refine tU rfl fun kc σ2 _ v2 _ hs => ?_
    have fc : Fr [] σ1 σ2 := hs ▸ Fr.new v2
    have hkc : σ2 kc = some (.tup [.int side, .int m]) := hs ▸ upd_self _ _ _
    obtain ⟨σ3, x1, x2, x3⟩ := (G1.keep0 fc).store (b := b) ok h1 h2 h3 h4 hkc (G1.not_m v2)
    refine ⟨σ3, x1, ?_⟩
    simp! only []
    exact hq (kc :: ow) _ (fun a ha => (List.mem_cons.mp ha).elim (fun e => .inr (fk.none (e ▸ v2))) .inl) x2 ((fk.trans fc).nil.trans x3)
inductive T551 (c : Cw) : TC
  | mk {σ Q s ow l} {tr : List Int} {ply : Nat} {k m : Int} (G : GoodL c s ow σ) (h3 : ply < 100) (h4 : 0 ≤ k) (h5 : k ≤ 10) (h6 : 1 ≤ m) (h7 : m ≤ 3) (hl : σ l = some (.list (tr.map .int))) (hM : l ∉ c.M) (hall : ∀ x ∈ tr, 1 ≤ x ∧ x ≤ 3)
    (h : Nl c σ ow (s.rewardM c.limit ((ply % 2 : Nat) : Int) ply k m tr) fun σ' => Q .none σ') : T551 c [.ref c.world, .int ply, .int k, .int m, .ref l] σ Q
inductive I551 (c : Cw) (σ : St) (ow : List Addr) (b side : Int) (s0 : LS) (tr ns : List Int) (a : LS × List Addr) (σ' : St) : Prop
  | mk (hin : ∀ x ∈ ns, x ∈ tr) (G : GoodL c a.1 a.2 σ') (n : NewIn σ ow a.2) (f : Fr c.ML σ σ') (e : LS.triedM c.limit side (-b) ns a.1 = s0)
theorem c_551 (ok : c.Ok) (h6 : 6 ≤ r) (c_544 : SC X r (.ref 544) (T544 c)) : SC X (r + 3) (.ref 551) (T551 c) := by
  refine wG1 [(544, _)] (hyC c_544 (hyN h6)) (fun Γ H (e544 : Γ 544 = T544 c) => ?_) rfl
  refine D_551.run H fun vs σ Q h => ?_
  induction h with | @mk σ Q s ow l tr ply k m G h3 h4 h5 h6' h7 hl hM hall hq =>
  refine prI rfl ?_
  obtain ⟨b1, b2⟩ := bonus_le ok h4 h5
  have l1 := ok.l1
  have l2 := ok.l2
  have p4 := ok.p4
  have n1 := G.n1
  have ebon : (if 16 * k * (k + 2) < c.limit then 16 * k * (k + 2) else c.limit) = bonusM c.limit k := by
    unfold bonusM
    rw [show 16 * k * (k + 2) = 16 * k * k + 32 * k by rw [Int.mul_add]; omega]
  have ek2 : (k + 2).natAbs < 1073741824 := by omega
  have ek : k.natAbs < 1073741824 := by omega
  simp! only [G.w_at rfl, G.len_kills ok]
  apply jnS (P := fun σ1 => ∃ ow1, GoodL c (s.addK ply m) ow1 σ1 ∧ NewIn σ ow ow1 ∧ Fr c.ML σ σ1)
  · intro key
    refine iC (fun hp => ?_) fun hp => ?_
    · obtain ⟨pa, k1, k2, k3, k4⟩ := G.kill_at (X := X) (i := ply) ok (by omega)
      have g0 : getV X σ (.ref pa) (.int 0) = some (.int (s.k1.getD ply 0)) := get_nat (k := 0) k4 (by decide) rfl
      simp! only [G.w_at rfl, k1, g0]
      refine iC (fun he => ?_) fun he => ?_
      · have eadd : s.addK ply m = s.setK ply m (s.k1.getD ply 0) := by unfold LS.addK; rw [if_pos ⟨by omega, he⟩]
        simp! only [G.w_at rfl, k1, g0]
        refine lU rfl fun b σ1 _ u2 _ hs => ?_
        have fb : Fr [] σ σ1 := hs ▸ Fr.new u2
        have hb : σ1 b = some (.list [.int m, .int (s.k1.getD ply 0)]) := hs ▸ upd_self _ _ _
        have G1 := G.keep0 fb
        obtain ⟨σ2, x1, x2, x3⟩ := G1.set_kill ok (i := ply) hb (G.not_m u2) (by omega)
        simp! only [G1.w_at rfl]
        refine ⟨σ2, x1, ?_⟩
        simp! only []
        exact key σ2 ⟨b :: ow, by rw [eadd]; exact x2, fun a ha => (List.mem_cons.mp ha).elim (fun e => .inr (e ▸ u2)) .inl, fb.nil.trans x3⟩
      · simp! only []
        exact key σ ⟨ow, by unfold LS.addK; rw [if_neg fun h => he h.2]; exact G, .refl, .refl _ _⟩
    · simp! only []
      exact key σ ⟨ow, by unfold LS.addK; rw [if_neg fun h => by have := h.1; omega]; exact G, .refl, .refl _ _⟩
  · rintro σ1 ⟨ow1, G1, n1, f1⟩
    simp! only [G1.w_at rfl, b_mul ek, b_mul ek2, b_mod (j := 2) (by decide)]
    rw [ebon, mod2 ply]
    refine cS e544 ⟨G1, by omega, by omega, h6', h7, by omega, by omega, fun ow2 σ2 n2 G2 f2 => ?_⟩
    have F2 := f1.trans f2
    simp! only []
    refine fM (src := .list l) V.int (fun _ : LS × List Addr => [(174, .ref c.world), (11, .int ply), (21, .int k), (84, .int m), (85, .ref l), (69, .int (bonusM c.limit k))]) (I551 c σ ow (bonusM c.limit k) ((ply % 2 : Nat) : Int) (s.rewardM c.limit ((ply % 2 : Nat) : Int) ply k m tr) tr) tr (_, ow2) rfl rfl rfl
      (.mk (fun x h => h) G2 (n1.trans n2 f1) F2 rfl) (fun _ _ σ' h => by cases h with | mk _ _ _ f _ => exact rd_own (f.keep _ _ hl fun h => hM (ml_m h))) (fun x ns a σ' h => ?_) fun a σ' h => ?_
    · cases h with | mk hin G' n' f' e =>
      obtain ⟨x1, x2⟩ := hall x (hin x List.mem_cons_self)
      simp! only [b_mod (j := 2) (by decide)]
      rw [mod2 ply]
      refine cS e544 ⟨G', by omega, by omega, x1, x2, by omega, by omega, fun ow3 σ3 n3 G3 f3 => ?_⟩
      simp! only []
      exact jM ns (_, ow3) (by repeat first | exact Sub.nil _ | refine Sub.cons rfl ?_) (.mk (fun y hy => hin y (List.mem_cons_of_mem _ hy)) G3 (n'.trans n3 f') (f'.trans f3) e)
    · cases h with | mk hin G' n' f' e =>
      have e : a.1 = s.rewardM c.limit ((ply % 2 : Nat) : Int) ply k m tr := e
      rw [e] at G'
      simp! only []
      exact hq a.2 σ' n' G' f'
end
/-! PN -/
section
variable {X : Cx} {r : Nat} {c : Cw}
theorem restQ_eq (w : Row) : restQ w = (allM w.kids.length).filter fun m => w.chk || w.ld m := by
  unfold restQ
  cases w.chk with
  | true => rw [if_pos rfl]; exact (List.filter_eq_self.mpr fun _ _ => rfl).symm
  | false => rw [if_neg Bool.false_ne_true]; simp
theorem restQ_mem {w : Row} {m : Int} (h : m ∈ restQ w) : 1 ≤ m ∧ m ≤ w.kids.length := by
  rw [restQ_eq] at h; exact allM_mem (List.mem_filter.mp h).1
theorem restQ_len (w : Row) : (restQ w).length ≤ w.kids.length := by
  rw [restQ_eq]; exact Nat.le_trans (List.length_filter_le _ _) (by rw [allM_len]; exact Nat.le_refl _)
theorem runStages_go (f : Stp) (st : LS → Nat → List Int → List Int) (k : Nat) (ks : List Nat) (rest : List Int) (a : Acc) (s : LS) : runStages f st (k :: ks) rest a s = goR f st ks (st s k rest) (outL rest (st s k rest)) a s := by
  rw [runStages]; rfl
theorem goR_cons (f : Stp) (st : LS → Nat → List Int → List Int) (ks : List Nat) (m : Int) (ms rest : List Int) (a : Acc) (s : LS) : goR f st ks (m :: ms) rest a s = match f m a s with
    | (some v, a', s') => (some v, a', s')
    | (none, a', s') => goR f st ks ms rest a' s' := by
  unfold goR
  rw [runTurn]
  cases f m a s with
  | mk o p => cases o with
    | none => rfl
    | some v => rfl
theorem quietM0 {t : List Row} {w : Row} {ply : Nat} {high : Int} {s : LS} : quietM t 0 w ply high s = (quiet0 w ply, s.see) := by unfold quietM; rw [if_pos rfl]
inductive Io (σ : St) (rest turn : List Int) (D : Addr) (ns cs dn : List Int) (σ' : St) : Prop
  | mk (hD : σ' D = some (.list (cs.map .int))) (e : cs = outL dn turn) (hdn : dn ++ ns = rest) (f : Fr [] σ σ') (h0 : σ D = none)
theorem outC {Γ : Nat → TC} {ρ : Loc} {σ : St} {Q : Fl → Loc → St → Prop} {k : Cm} {ra ta : Addr} {rest turn : List Int} (hl : ρ.lookup 182 = some (.ref ra)) (hc : ∀ v, (putS 51 v (capt [(108, .local), (51, .local), (183, .free)] ρ)).lookup 51 = some v ∧ (putS 51 v (capt [(108, .local), (51, .local), (183, .free)] ρ)).lookup 183 = some (.ref ta)) (hra : σ ra = some (.list (rest.map .int))) (hta : σ ta = some (.list (turn.map .int))) (few : rest.length ≤ 3)
    (kk : ∀ D σ', Fr [] σ σ' → σ D = none → σ' D = some (.list ((outL rest turn).map .int)) → go X Γ k (putS 182 (.ref D) ρ) σ' Q) : go X Γ (.casgf 182 51 [(108, .local), (51, .local), (183, .free)] (.loc 182) (.cmp .NotIn (.loc 51) (.loc 183)) (.loc 51) k) ρ σ Q := by
  simp! only [hl]
  refine cM (src := .list ra) V.int V.int (Io σ rest turn) rest [] rfl rfl (rd_own hra) (by lia) (fun D s _ x2 _ hs => .mk (hs ▸ upd_self _ _ _) rfl rfl (hs ▸ Fr.new x2) x2)
    (fun D ns cs dn σ6 h => ?_) (fun D m ns cs dn σ6 h => ?_) (fun D cs dn σ6 h => ?_)
  · cases h with | mk hD e hdn f6 h0 =>
    have := outL_len dn turn
    exact ⟨rd_own (f6.k0 hra), hD, by rw [e, List.length_map, ← hdn, List.length_append]; lia⟩
  · cases h with | mk hD e hdn f6 h0 =>
    have hta6 := f6.k0 hta
    simp! only [(hc _).1, (hc _).2, nin_of hta6 m]
    refine ⟨fun hb => ?_, fun hb => ?_⟩
    · simp! only [(hc _).1]
      refine cT m (dn ++ [m]) hD (.mk (by rw [List.map_append]; exact upd_self _ _ _) ?_ (by rw [List.append_assoc]; exact hdn) (f6.fresh Fr.u1 h0) h0)
      rw [e]; unfold outL; rw [List.filter_append, List.filter_cons, if_pos (by simpa using hb)]; rfl
    · refine cN (dn ++ [m]) (.mk hD ?_ (by rw [List.append_assoc]; exact hdn) f6 h0)
      rw [e]; unfold outL; rw [List.filter_append, List.filter_cons, if_neg (by simpa using hb)]; exact (List.append_nil _).symm
  · cases h with | mk hD e hdn f6 h0 =>
    rw [List.append_nil] at hdn
    rw [e, hdn] at hD
    exact kk D σ6 f6 h0 hD
inductive T537 (c : Cw) (lv : Nat) : TC
  | mk {σ Q n s ow w} {low high lvI : Int} {ply : Nat} (hl : lvI = lv) (G : GoodL c s ow σ) (hw : c.t[n]? = some w) (hp : ply + lv < 9) (hlv : lv ≤ 1)
    (h : Nl c σ ow (quietM c.t lv w ply high s).2 fun σ' => Q (.int (quietM c.t lv w ply high s).1) σ') : T537 c lv [.ref c.world, .int (n : Nat), .int low, .int high, .int ply, .int lvI] σ Q
inductive T537r (c : Cw) (lv : Nat) : TC
  | mk {vs σ Q} (e : lv = 1) (h : T537 c 0 vs σ Q) : T537r c lv vs σ Q
structure Sl where
  lo : Int
  best : Int
  s : LS
  ow : List Addr
  ra : Addr
  rest : List Int
inductive I537 (c : Cw) (σ : St) (ow : List Addr) (w : Row) (ply : Nat) (high : Int) (tp : Addr) (R : Option Int × Acc × LS) (ks : List Nat) (z : Sl) (σ' : St) : Prop
  | mk (G : GoodL c z.s z.ow σ') (n : NewIn σ ow z.ow) (f : Fr c.ML σ σ') (ht : σ' tp = some (.tup [.int 1, .int 2, .int 3, .int 4])) (hra : σ' z.ra = some (.list (z.rest.map .int))) (hr : ∀ m ∈ z.rest, 1 ≤ m ∧ m ≤ w.kids.length) (few : z.rest.length ≤ 3)
    (e : runStages (stepQ c.t w ply high) (stM w ply) ks z.rest ⟨z.best, 0, [], true⟩ z.s = R)
inductive J537 (c : Cw) (σ : St) (ow : List Addr) (w : Row) (ply : Nat) (high : Int) (tp : Addr) (R : Option Int × Acc × LS) (ks : List Nat) (ta : Addr) (turn : List Int) (D : Addr) (rest : List Int) (ms : List Int) (z : Sl) (σ' : St) : Prop
  | mk (G : GoodL c z.s z.ow σ') (n : NewIn σ ow z.ow) (f : Fr c.ML σ σ') (ht : σ' tp = some (.tup [.int 1, .int 2, .int 3, .int 4])) (hta : σ' ta = some (.list (turn.map .int))) (hD : σ' D = some (.list (rest.map .int))) (hm : ∀ m ∈ ms, 1 ≤ m ∧ m ≤ w.kids.length)
    (e : goR (stepQ c.t w ply high) (stM w ply) ks ms rest ⟨z.best, 0, [], true⟩ z.s = R)
inductive K537 (σ : St) (w : Row) (D : Addr) (is : List Nat) (cs : List Int) (dn : List Nat) (σ' : St) : Prop
  | mk (hD : σ' D = some (.list (cs.map .int))) (e : cs = (dn.map fun i : Nat => (i : Int) + 1).filter fun m => w.chk || w.ld m) (hdn : dn ++ is = List.range w.kids.length) (f : Fr [] σ σ') (h0 : σ D = none)
theorem c_537 (ok : c.Ok) (h6 : 6 ≤ r) (lv : Nat) (c_532 : SC X r (.ref 532) (T532 c)) (c_537 : SC X r (.ref 537) (T537r c lv)) : SC X (r + 3) (.ref 537) (T537 c lv) := by
  refine wG2 [(532, _), (537, _)] (hyC c_532 (hyC c_537 (hyN h6))) (fun Γ H (e532 : Γ 532 = T532 c) (e537 : Γ 537 = T537r c lv) => ?_) rfl rfl
  refine D_537.run H fun vs σ Q h => ?_
  induction h with | @mk σ Q n s ow w low high lvI ply hlvI G hw hp hlv hq =>
  subst hlvI
  refine prI rfl ?_
  have hwm : w ∈ c.t := List.mem_of_getElem? hw
  have few := (ok.rows w hwm).few
  simp! only [G.w_at rfl]
  refine uL (rd_own (G.fix _ _ ok.tree)) rfl ?_
  simp! only [G.w_at rfl]
  obtain ⟨σ1, x1, G1, f1⟩ := G.see (X := X) ok
  refine ⟨σ1, x1, ?_⟩
  have post : ∀ v, quietM c.t lv w ply high s = (v, s.see) → Q (.int v) σ1 := fun v e => by
    rw [e] at hq; exact hq ow σ1 .refl G1 f1
  have htr : truthV X σ1 (.ref w.ka) = some (!w.kids.isEmpty) := by
    rw [t_list (G1.fix _ _ (ok.rows w hwm).ka) (by rw [List.length_map]; lia)]
    cases w.kids <;> rfl
  unfold quietM at post hq
  unfold quiet0 quiet1 at post hq
  by_cases hd : 0 < ply ∧ w.drw = true
  · simp! only [G1.row ok ok.drws hw]
    refine iT (Int.ofNat_lt.mpr hd.1) ?_
    simp! only [G1.row ok ok.drws hw]
    rw [hd.2]
    simp! only []
    exact post 0 (by rw [if_pos hd, if_pos hd]; split <;> rfl)
  simp only [if_neg hd] at post hq
  apply jn
  · intro key
    simp! only [G1.row ok ok.drws hw]
    refine iC (fun h0 => ?_) fun h0 => ?_
    · have hdf : w.drw = false := by
        cases e : w.drw with
        | false => rfl
        | true => exact absurd ⟨Int.ofNat_lt.mp h0, e⟩ hd
      simp! only [G1.row ok ok.drws hw]
      rw [hdf]
      simp! only []
      exact key
    · simp! only []
      exact key
  by_cases hc : w.chk = true ∧ w.kids = []
  · simp! only [G1.row ok ok.chks hw]
    rw [hc.1]
    simp! only [G1.row ok ok.kids hw, htr]
    refine bT (by rw [hc.2]; rfl) ?_
    simp! only []
    exact post _ (by rw [if_pos hc, if_pos hc]; split <;> rfl)
  simp only [if_neg hc] at post hq
  apply jn
  · intro key
    simp! only [G1.row ok ok.chks hw]
    refine ⟨fun h => ?_, fun _ => fF key⟩
    have hk : w.kids.isEmpty = false := by
      cases e : w.kids with
      | nil => exact absurd ⟨h, e⟩ hc
      | cons a l => rfl
    simp! only [G1.row ok ok.kids hw, htr]
    exact bF (by rw [hk]; rfl) (fF key)
  simp! only []
  refine iC (fun hl => ?_) fun hl => ?_
  · simp! only [G1.row ok ok.vals hw]
    exact post _ (by rw [if_pos (by lia)])
  by_cases hv : ¬ w.chk = true ∧ high ≤ w.val
  · simp! only [G1.row ok ok.chks hw]
    refine nT (by cases e : w.chk with | true => exact absurd e hv.1 | false => rfl) ?_
    simp! only [G1.row ok ok.vals hw]
    refine iT hv.2 ?_
    simp! only [G1.row ok ok.vals hw]
    exact post _ (by rw [if_neg (by lia), if_pos hv])
  rw [if_neg (by lia), if_neg hv] at hq
  apply jn
  · intro key
    simp! only [G1.row ok ok.chks hw]
    refine ⟨fun hb => ?_, fun _ => ?_⟩
    · simp! only [G1.row ok ok.vals hw]
      refine iF (fun h => hv ⟨fun q => by rw [q] at hb; exact Bool.false_ne_true hb, h⟩) ?_
      simp! only []
      exact key
    · simp! only []
      exact key
  simp! only [G1.row ok ok.chks hw]
  apply jnI (P := fun i => i = bestQ w)
  · intro key
    refine ⟨fun h => ?_, fun h => ?_⟩
    · generalize e : (-32001 : Int) = i
      exact key i (by rw [← e]; unfold bestQ; rw [if_pos h])
    · refine bS (G1.row ok ok.vals hw) ?_
      generalize e : w.val = i
      exact key i (by rw [← e]; unfold bestQ; rw [if_neg (by rw [h]; exact Bool.false_ne_true)])
  intro best hbest
  simp! only []
  generalize (if best > low then best else low) = lo
  simp! only [G1.row ok ok.kids hw, G1.l_kids ok hwm]
  refine r1 (mU fun ga σ2 _ r2 _ hs => ?_)
  have f2 : Fr [] σ1 σ2 := hs ▸ Fr.new r2
  have hga : σ2 ga = some (.range 0 w.kids.length) := hs ▸ upd_self _ _ _
  have G2 := G1.keep0 f2
  have F2 : Fr c.ML σ σ2 := f1.trans f2.nil
  simp! only []
  refine cM (src := .range 0 w.kids.length) (fun i : Nat => V.int (0 + (i : Int))) V.int (K537 σ2 w) (List.range w.kids.length) [] ⟨by rw [rd_own hga, Int.zero_add], by decide, by lia⟩ rfl rfl (by rw [List.length_range]; lia) (fun D s _ x2 _ hs => .mk (hs ▸ upd_self _ _ _) rfl rfl (hs ▸ Fr.new x2) x2)
    (fun D is cs dn σ6 h => ?_) (fun D i is cs dn σ6 h => ?_) (fun D cs dn σ3 h => ?_)
  · cases h with | mk hD e hdn f6 h0 =>
    refine ⟨rfl, hD, ?_⟩
    have := List.length_filter_le (fun m => w.chk || w.ld m) (dn.map fun i : Nat => (i : Int) + 1)
    rw [← e, List.length_map] at this
    rw [← hdn, List.length_map, List.length_append]; lia
  · cases h with | mk hD e hdn f6 h0 =>
    have hi : i < w.kids.length := List.mem_range.mp (by rw [← hdn]; exact List.mem_append_right _ List.mem_cons_self)
    have G' := G2.keep0 f6
    have hl := G'.r_loud (X := X) ok hwm (m := (i : Int) + 1) (by lia) (by lia)
    rw [show (i : Int) + 1 - 1 = 0 + (i : Int) by lia] at hl
    have yes : (w.chk || w.ld ((i : Int) + 1)) = true → σ6 D = some (.list (cs.map V.int)) ∧ JC (fun i : Nat => V.int (0 + (i : Int))) V.int (K537 σ2 w D) (is.map fun i : Nat => V.int (0 + (i : Int))) (cs.map V.int ++ [.int (0 + (i : Int) + 1)]) (upd σ6 D (.list (cs.map V.int ++ [.int (0 + (i : Int) + 1)]))) := fun hb => by
      refine cT (0 + (i : Int) + 1) (dn ++ [i]) hD (.mk (by rw [List.map_append]; exact upd_self _ _ _) ?_ (by rw [List.append_assoc]; exact hdn) (f6.fresh Fr.u1 h0) h0)
      rw [e, List.map_append, List.filter_append, List.map_singleton, List.filter_cons, if_pos hb, Int.zero_add]; rfl
    simp! only [G'.row ok ok.chks hw]
    refine ⟨fun hb => ?_, fun hb => ?_⟩
    · exact tT (yes (by rw [hb]; rfl))
    · simp! only [G'.row ok ok.louds hw, hl]
      refine ⟨fun hb' => ?_, fun hb' => ?_⟩
      · exact tT (yes (by rw [hb', Bool.or_true]))
      · refine fF (cN (dn ++ [i]) (.mk hD ?_ (by rw [List.append_assoc]; exact hdn) f6 h0))
        rw [e, List.map_append, List.filter_append, List.map_singleton, List.filter_cons, if_neg (by rw [hb, hb']; exact Bool.false_ne_true)]; exact (List.append_nil _).symm
  cases h with | mk hD e hdn f3 h0 =>
  rw [List.append_nil] at hdn
  have e : cs = restQ w := by rw [restQ_eq, e, hdn]; rfl
  subst e
  have G3 := G2.keep0 f3
  have F3 : Fr c.ML σ σ3 := F2.trans f3.nil
  simp! only []
  refine tU rfl fun tp σ4 _ t2 _ hs => ?_
  have f4 : Fr [] σ3 σ4 := hs ▸ Fr.new t2
  have htp : σ4 tp = some (.tup [.int 1, .int 2, .int 3, .int 4]) := hs ▸ upd_self _ _ _
  have tpM : tp ∉ c.M := G.not_m (F3.none t2)
  obtain ⟨R, hR⟩ : ∃ R, R = runQ c.t w ply high s.see := ⟨_, rfl⟩
  rw [← hR] at hq
  unfold runQ at hR
  rw [← hbest] at hR
  simp! only []
  refine fM (src := .tup tp) (fun k : Nat => V.int k) (fun z : Sl => [(174, .ref c.world), (166, .int n), (129, .int z.lo), (130, .int high), (11, .int ply), (97, .int (lv : Nat)), (152, .ref c.kids), (145, .ref c.vals), (146, .ref c.chks), (147, .ref c.drws), (165, .ref c.louds), (148, .ref c.gains), (84, .int z.best), (182, .ref z.ra)])
    (I537 c σ ow w ply high tp R) [1, 2, 3, 4] ⟨lo, best, s.see, ow, D, restQ w⟩ rfl rfl rfl (.mk (G3.keep0 f4) .refl (F3.trans f4.nil) htp (f4.k0 hD) (fun m hm => restQ_mem hm) (Nat.le_trans (restQ_len w) few) hR.symm)
    (fun _ _ _ h => by cases h with | mk _ _ _ ht _ _ _ _ => exact rd_own ht) (fun k ks z σ' h => ?_) fun z σ' h => ?_
  · obtain ⟨lo, best, s', ow', ra, rest⟩ := z
    cases h with | mk G' n' f' ht' hra hr h3 e =>
    dsimp only at G' n' hra hr h3 e
    simp! only []
    refine cS e532 ⟨G', hw, hra, h3, hr, fun ta σ5 f5 ta0 hta => ?_⟩
    have taM : ta ∉ c.M := G.not_m (f'.none ta0)
    generalize hturn : stM w ply s' k rest = turn at hta
    have tmem : ∀ m ∈ turn, 1 ≤ m ∧ m ≤ w.kids.length := fun m hm => hr m (stM_mem (hturn ▸ hm))
    rw [runStages_go, hturn] at e
    refine outC rfl (fun _ => ⟨rfl, rfl⟩) (f5.k0 hra) hta h3 fun D2 σ6 f6 D0 hD2 => ?_
    have F6 := f'.trans ((f5.trans f6).nil)
    have D2M : D2 ∉ c.M := G.not_m (f'.none (f5.none D0))
    simp! only []
    refine fM (src := .list ta) V.int (fun z : Sl => [(174, .ref c.world), (166, .int n), (129, .int z.lo), (130, .int high), (11, .int ply), (97, .int (lv : Nat)), (152, .ref c.kids), (145, .ref c.vals), (146, .ref c.chks), (147, .ref c.drws), (165, .ref c.louds), (148, .ref c.gains), (84, .int z.best), (182, .ref D2), (99, .int k), (183, .ref ta)])
      (J537 c σ ow w ply high tp R ks ta turn D2 (outL rest turn)) turn ⟨lo, best, s', ow', ra, rest⟩ rfl rfl rfl (.mk ((G'.keep0 f5).keep0 f6) n' F6 (f6.k0 (f5.k0 ht')) (f6.k0 hta) hD2 tmem e)
      (fun _ _ _ h => by cases h with | mk _ _ _ _ ht _ _ _ => exact rd_own ht) (fun m ms z σ7 h => ?_) fun z σ7 h => ?_
    · obtain ⟨lo, best, s7, ow7, _, _⟩ := z
      cases h with | mk G7 n7 f7 ht7 hta7 hD7 hm e =>
      dsimp only at G7 n7 e
      obtain ⟨m1, m2⟩ := hm m List.mem_cons_self
      obtain ⟨ek, hkid⟩ := kid_at ok hwm m1 m2
      simp! only [G7.row ok ok.kids hw, G7.r_kid ok hwm m1 m2]
      refine cS e537 ⟨by lia, T537.mk (ply := ply + 1) (by lia) G7 ek (by lia) (by lia) fun ow8 σ8 n8 G8 f8 => ?_⟩
      rw [quietM0] at G8 ⊢
      rw [goR_cons] at e
      unfold stepQ at e
      dsimp only at e ⊢
      generalize -(quiet0 (kid c.t w m) (ply + 1)) = v at e
      have n9 := n7.trans n8 f7
      have F9 := f7.trans f8
      simp! only []
      have keep : ∀ {x : Addr} {o : AObj}, σ7 x = some o → x ∉ c.M → σ8 x = some o := fun e h => f8.keep _ _ e fun q => h (ml_m q)
      refine iC (fun hv => ?_) fun hv => ?_
      · rw [if_pos hv] at e
        have e2 : resR R = (if best < v then v else best, s7.see) := by rw [← e]; rfl
        rw [e2] at hq
        simp! only []
        exact hq ow8 σ8 n9 G8 F9
      · rw [if_neg hv] at e
        simp! only []
        exact jM ms ⟨_, _, s7.see, ow8, ra, rest⟩ (by repeat first | exact Sub.nil _ | refine Sub.cons rfl ?_) (.mk G8 n9 F9 (keep ht7 tpM) (keep hta7 taM) (keep hD7 D2M) (fun x hx => hm x (List.mem_cons_of_mem _ hx)) e)
    · obtain ⟨lo, best, s7, ow7, _, _⟩ := z
      cases h with | mk G7 n7 f7 ht7 hta7 hD7 hm e =>
      simp! only []
      exact jM ks ⟨lo, best, s7, ow7, D2, outL rest turn⟩ (by repeat first | exact Sub.nil _ | refine Sub.cons rfl ?_) (.mk G7 n7 f7 ht7 hD7 (fun m hm => hr m (outL_mem hm)) (Nat.le_trans (outL_len _ _) h3) e)
  · obtain ⟨lo, best, s', ow', ra, rest⟩ := z
    cases h with | mk G' n' f' ht' hra hr h3 e =>
    have e2 : resR R = (best, s') := by rw [← e]; rfl
    rw [e2] at hq
    simp! only []
    exact hq ow' σ' n' G' f'
end
/-! PO -/
theorem stM_len (w : Row) (ply : Nat) (s : LS) (k : Nat) (ms : List Int) : (stM w ply s k ms).length ≤ 3 := by
  unfold stM sortL; rw [List.length_map]; exact ordK_len _
theorem jnV {Y P : Int → St → Prop} {G : Prop} (h : (∀ a s, P a s → Y a s) → G) (y : ∀ a s, P a s → Y a s) : G := h y
section
variable {X : Cx} {r : Nat} {c : Cw}
inductive T556 (c : Cw) (k : Nat) : TC
  | mk {σ Q n s ow w} {low high kI plyI : Int} {ply : Nat} (hP : plyI = ply) (hK : kI = k) (G : GoodL c s ow σ) (hw : c.t[n]? = some w) (hp : ply + k ≤ 4) (hk : k ≤ 3)
    (h : Nl c σ ow (seekM c.t c.left.toNat c.limit k ply n low high s).2 fun σ' => Q (.int (seekM c.t c.left.toNat c.limit k ply n low high s).1) σ') : T556 c k [.ref c.world, .int (n : Nat), .int low, .int high, .int kI, .int plyI] σ Q
inductive T556r (c : Cw) (k : Nat) : TC
  | mk {vs σ Q} (j : Nat) (e : k = j + 1) (h : T556 c j vs σ Q) : T556r c k vs σ Q
structure Sw where
  a : Acc
  s : LS
  ow : List Addr
  ra : Addr
  rest : List Int
inductive I556 (c : Cw) (σ : St) (ow : List Addr) (w : Row) (ply : Nat) (tp tq : Addr) (f : Stp) (R : Option Int × Acc × LS) (ks : List Nat) (z : Sw) (σ' : St) : Prop
  | mk (G : GoodL c z.s z.ow σ') (n : NewIn σ ow z.ow) (F : Fr c.ML σ σ') (ht : σ' tp = some (.tup [.int 1, .int 2, .int 3, .int 4])) (hra : σ' z.ra = some (.list (z.rest.map .int))) (hne : z.ra ≠ tq) (hr : ∀ m ∈ z.rest, 1 ≤ m ∧ m ≤ w.kids.length) (few : z.rest.length ≤ 3)
    (hq : σ' tq = some (.list (z.a.tried.map .int))) (ho : tq ∉ z.ow) (htr : ∀ x ∈ z.a.tried, 1 ≤ x ∧ x ≤ 3) (sz : z.a.tried.length + 3 * ks.length ≤ 12) (e : runStages f (stM w ply) ks z.rest z.a z.s = R)
inductive J556 (c : Cw) (σ : St) (ow : List Addr) (w : Row) (ply : Nat) (tp tq : Addr) (f : Stp) (R : Option Int × Acc × LS) (ks : List Nat) (ta : Addr) (turn : List Int) (D : Addr) (rest ms : List Int) (z : Sw) (σ' : St) : Prop
  | mk (G : GoodL c z.s z.ow σ') (n : NewIn σ ow z.ow) (F : Fr c.ML σ σ') (ht : σ' tp = some (.tup [.int 1, .int 2, .int 3, .int 4])) (hta : σ' ta = some (.list (turn.map .int))) (hD : σ' D = some (.list (rest.map .int))) (hm : ∀ m ∈ ms, 1 ≤ m ∧ m ≤ w.kids.length)
    (hq : σ' tq = some (.list (z.a.tried.map .int))) (ho : tq ∉ z.ow) (htr : ∀ x ∈ z.a.tried, 1 ≤ x ∧ x ≤ 3) (sz : z.a.tried.length + ms.length + 3 * ks.length ≤ 12) (e : goR f (stM w ply) ks ms rest z.a z.s = R)
theorem c_556 (ok : c.Ok) (h6 : 6 ≤ r) (k : Nat) (c_532 : SC X r (.ref 532) (T532 c)) (c_537 : SC X r (.ref 537) (T537 c c.left.toNat)) (c_556 : SC X r (.ref 556) (T556r c k)) (c_551 : SC X r (.ref 551) (T551 c)) : SC X (r + 3) (.ref 556) (T556 c k) := by
  refine wG4 [(532, _), (537, _), (556, _), (551, _)] (hyC c_532 (hyC c_537 (hyC c_556 (hyC c_551 (hyN h6))))) (fun Γ H (e532 : Γ 532 = T532 c) (e537 : Γ 537 = T537 c c.left.toNat) (e556 : Γ 556 = T556r c k) (e551 : Γ 551 = T551 c) => ?_) rfl rfl rfl rfl
  refine D_556.run H fun vs σ Q h => ?_
  induction h with | @mk σ Q n s ow w low high kI plyI ply hP hK G hw hp hk hq =>
  subst hP hK
  refine prI rfl ?_
  have hwm : w ∈ c.t := List.mem_of_getElem? hw
  have few := (ok.rows w hwm).few
  have ew := rowD_at hw
  have f0 := ok.f0
  have f1' := ok.f1
  simp! only [G.w_at rfl]
  refine uL (rd_own (G.fix _ _ ok.tree)) rfl ?_
  simp! only []
  cases k with
  | zero =>
    refine iT (by decide) ?_
    simp! only [G.w_at rfl]
    refine cS e537 ⟨by omega, G, hw, by omega, by omega, fun ow2 σ2 n2 G2 F2 => ?_⟩
    unfold seekM at hq
    rw [ew] at hq
    exact hq ow2 σ2 n2 G2 F2
  | succ k =>
  refine iF (by omega) ?_
  simp! only [G.w_at rfl]
  obtain ⟨σ1, x1, G1, f1⟩ := G.see (X := X) ok
  refine ⟨σ1, x1, ?_⟩
  have post : ∀ v, seekM c.t c.left.toNat c.limit (k + 1) ply n low high s = (v, s.see) → ∀ σ', GoodL c s.see ow σ' → Fr c.ML σ σ' → Q (.int v) σ' := fun v e σ' G' F' => by rw [e] at hq; exact hq ow σ' .refl G' F'
  have eh : (31999 : Int) - (ply : Int) = 32000 - ((ply : Int) + 1) := by omega
  unfold seekM at post hq
  rw [ew] at post hq
  by_cases hd : 0 < ply ∧ w.drw = true
  · simp! only [G1.row ok ok.drws hw]
    refine iT (Int.ofNat_lt.mpr hd.1) ?_
    simp! only [G1.row ok ok.drws hw]
    rw [hd.2]
    simp! only []
    exact post 0 (by rw [if_pos hd]) σ1 G1 f1
  rw [if_neg hd] at hq
  simp only [if_neg hd] at post
  apply jn
  · intro key
    simp! only []
    refine iC (fun h0 => ?_) fun h0 => ?_
    · have hdf : w.drw = false := by
        cases e : w.drw with
        | false => rfl
        | true => exact absurd ⟨Int.ofNat_lt.mp h0, e⟩ hd
      simp! only [G1.row ok ok.drws hw]
      rw [hdf]
      simp! only []
      exact key
    · simp! only []
      exact key
  simp! only []
  rw [eh]
  refine iC (fun c1 => ?_) fun c1 => ?_
  · simp! only []
    rw [eh]
    exact post _ (by rw [if_pos c1]) σ1 G1 f1
  rw [if_neg c1] at hq
  simp only [if_neg c1] at post
  simp! only []
  refine iC (fun c2 => ?_) fun c2 => ?_
  · simp! only []
    exact post _ (by rw [if_pos c2]) σ1 G1 f1
  rw [if_neg c2] at hq
  simp only [if_neg c2] at post
  simp! only []
  rw [eh]
  refine tU rfl fun sa σ2 _ v2 _ hs => ?_
  have fa : Fr [] σ1 σ2 := hs ▸ Fr.new v2
  have hsa : σ2 sa = some (.tup [.int (lowS ply low), .int (highS ply high)]) := hs ▸ upd_self _ _ _
  have G2 := G1.keep0 fa
  have F2 : Fr c.ML σ σ2 := f1.trans fa.nil
  refine uR [130, 129] [.int (highS ply high), .int (lowS ply low)] (rd_own hsa) rfl rfl rfl ?_
  have htr : truthV X σ2 (.ref w.ka) = some (!w.kids.isEmpty) := by
    rw [t_list (G2.fix _ _ (ok.rows w hwm).ka) (by rw [List.length_map]; omega)]
    cases w.kids <;> rfl
  simp! only [G2.row ok ok.kids hw, htr]
  by_cases hk0 : w.kids = []
  · refine bT (by rw [hk0]; rfl) ?_
    rw [if_pos hk0] at hq
    simp! only [G2.row ok ok.chks hw]
    refine ⟨fun h => ?_, fun h => ?_⟩
    · rw [if_pos h] at hq
      exact hq ow σ2 .refl G2 F2
    · rw [if_neg (by rw [h]; exact Bool.false_ne_true)] at hq
      exact hq ow σ2 .refl G2 F2
  refine bF (by cases e : w.kids with | nil => exact absurd e hk0 | cons a l => rfl) ?_
  rw [if_neg hk0] at hq
  simp! only [G2.w_at rfl, G2.len_kills ok]
  apply jnS (P := fun σ3 => ∃ ow3, GoodL c (s.see.setK (ply + 2) 0 0) ow3 σ3 ∧ NewIn σ ow ow3 ∧ Fr c.ML σ σ3)
  · intro key
    refine iC (fun hkl => ?_) fun hkl => ?_
    · simp! only []
      refine lU rfl fun b σ3 _ u2 _ hs => ?_
      have fb : Fr [] σ2 σ3 := hs ▸ Fr.new u2
      have hb : σ3 b = some (.list [.int 0, .int 0]) := hs ▸ upd_self _ _ _
      have G3 := G2.keep0 fb
      obtain ⟨σ4, y1, y2, y3⟩ := G3.set_kill ok (i := ply + 2) hb (G2.not_m u2) (by omega)
      simp! only [G3.w_at rfl]
      refine ⟨σ4, y1, ?_⟩
      simp! only []
      exact key σ4 ⟨b :: ow, y2, fun a ha => (List.mem_cons.mp ha).elim (fun e => .inr (F2.none (e ▸ u2))) .inl, (F2.trans fb.nil).trans y3⟩
    · simp! only []
      exact key σ2 ⟨ow, by rw [LS.setK_id _ _ _ _ (by rw [G2.n1]; omega) (by rw [G2.n2]; omega)]; exact G2, .refl, F2⟩
  rintro σk ⟨ow3, Gk, Nk, Fk⟩
  simp! only []
  refine lU rfl fun tq σq _ q2 _ hs => ?_
  have fq : Fr [] σk σq := hs ▸ Fr.new q2
  have htq0 : σq tq = some (.list []) := hs ▸ upd_self _ _ _
  have tqo : tq ∉ ow3 := fun h => Gk.oal tq h q2
  have tq0 : σ tq = none := Fk.none q2
  have tqM : tq ∉ c.M := G.not_m tq0
  have tqF : c.F tq = none := G.in_fix tq0
  simp! only []
  refine tU rfl fun sb σs _ w2 _ hs => ?_
  have fs : Fr [] σq σs := hs ▸ Fr.new w2
  have hsb : σs sb = some (.tup [.int (-32001), .ref tq, .bool true]) := hs ▸ upd_self _ _ _
  have Gs := Gk.keep0 (fq.trans fs)
  refine uR [137, 85, 84] [.bool true, .ref tq, .int (-32001)] (rd_own hsb) rfl rfl rfl ?_
  simp! only [Gs.row ok ok.kids hw, Gs.l_kids ok hwm]
  refine r2 (mU fun ga σb _ r2 _ hs => ?_)
  have fb : Fr [] σs σb := hs ▸ Fr.new r2
  have hga : σb ga = some (.range 1 ((w.kids.length : Int) + 1)) := hs ▸ upd_self _ _ _
  refine lR (n := w.kids.length) (by rw [rd_own hga, Int.add_comm]) (by decide) (by omega) (by omega) (mU fun D σc _ x2 _ hs => ?_)
  have fc : Fr [] σb σc := hs ▸ Fr.new x2
  have hD0 : σc D = some (.list ((allM w.kids.length).map .int)) := by
    rw [hs, upd_self]; unfold allM; rw [List.map_map]; congr 2; apply List.map_congr_left; intro i _; simp only [Function.comp]; rw [Int.add_comm]
  have hDne : D ≠ tq := fun q => by rw [q, fb.k0 (fs.k0 htq0)] at x2; cases x2
  simp! only []
  refine tU rfl fun tp σ4 _ t2 _ hs => ?_
  have f4 : Fr [] σc σ4 := hs ▸ Fr.new t2
  have htp : σ4 tp = some (.tup [.int 1, .int 2, .int 3, .int 4]) := hs ▸ upd_self _ _ _
  have fbc := fb.trans (fc.trans f4)
  have fk4 := (fq.trans fs).trans fbc
  have htq4 := fbc.k0 (fs.k0 htq0)
  have F4 : Fr c.ML σ σ4 := Fk.trans fk4.nil
  have netp : tp ≠ tq := fun q => by rw [q, htq4] at htp; cases htp
  have tpM : tp ∉ c.M := G.not_m (Fk.none ((fq.trans fs).none (fb.none (fc.none t2))))
  obtain ⟨f, hf⟩ : ∃ f : Stp, f = stepS (seekM c.t c.left.toNat c.limit k (ply + 1)) w c.limit ply ((k + 1 : Nat) : Int) (highS ply high) := ⟨_, rfl⟩
  rw [← hf] at hq
  generalize hR : runStages f (stM w ply) [1, 2, 3, 4] (allM w.kids.length) ⟨-32001, lowS ply low, [], true⟩ (s.see.setK (ply + 2) 0 0) = R at hq
  simp! only []
  refine fM (src := .tup tp) (fun k : Nat => V.int k) (fun z : Sw => [(174, .ref c.world), (166, .int n), (129, .int z.a.low), (130, .int (highS ply high)), (21, .int ((k + 1 : Nat) : Int)), (11, .int ply), (152, .ref c.kids), (145, .ref c.vals), (146, .ref c.chks), (147, .ref c.drws), (165, .ref c.louds), (148, .ref c.gains), (137, .bool z.a.first), (85, .ref tq), (84, .int z.a.best), (182, .ref z.ra)])
    (I556 c σ ow w ply tp tq f R) [1, 2, 3, 4] ⟨⟨-32001, lowS ply low, [], true⟩, s.see.setK (ply + 2) 0 0, ow3, D, allM w.kids.length⟩ rfl rfl rfl
    (.mk (Gk.keep0 fk4) Nk F4 htp (f4.k0 hD0) hDne (fun m hm => allM_mem hm) (by rw [allM_len]; exact few) htq4 tqo (fun x hx => by cases hx) (Nat.le_refl 12) hR)
    (fun _ _ _ h => by cases h with | mk _ _ _ ht => exact rd_own ht) (fun kk ks z σ' h => ?_) fun z σ' h => ?_
  · obtain ⟨a, s', ow', ra, rest⟩ := z
    cases h with | mk G' n' f' ht' hra hne hr h3 hq' ho htr' sz e =>
    dsimp only at G' n' hra hne hr h3 hq' ho htr' sz e
    refine absK fun K hK => ?_
    simp! only []
    refine cS e532 ⟨G', hw, hra, h3, hr, fun ta σ5 f5 ta0 hta => ?_⟩
    have taM : ta ∉ c.M := G.not_m (f'.none ta0)
    have neta : ta ≠ tq := fun q => by rw [q, hq'] at ta0; cases ta0
    generalize hturn : stM w ply s' kk rest = turn at hta
    have tmem : ∀ m ∈ turn, 1 ≤ m ∧ m ≤ w.kids.length := fun m hm => hr m (stM_mem (hturn ▸ hm))
    have tlen : turn.length ≤ 3 := by rw [← hturn]; exact stM_len _ _ _ _ _
    rw [runStages_go, hturn] at e
    refine outC rfl (fun _ => ⟨rfl, rfl⟩) (f5.k0 hra) hta h3 fun D2 σ6 f6 D0 hD2 => ?_
    have F6 := f'.trans ((f5.trans f6).nil)
    have D2M : D2 ∉ c.M := G.not_m (f'.none (f5.none D0))
    have neD : D2 ≠ tq := fun q => by rw [q, f5.k0 hq'] at D0; cases D0
    rw [List.length_cons] at sz
    simp! only []
    refine fM (src := .list ta) V.int (fun z : Sw => [(174, .ref c.world), (166, .int n), (129, .int z.a.low), (130, .int (highS ply high)), (21, .int ((k + 1 : Nat) : Int)), (11, .int ply), (152, .ref c.kids), (145, .ref c.vals), (146, .ref c.chks), (147, .ref c.drws), (165, .ref c.louds), (148, .ref c.gains), (137, .bool z.a.first), (85, .ref tq), (84, .int z.a.best), (182, .ref D2), (99, .int kk), (183, .ref ta)])
      (J556 c σ ow w ply tp tq f R ks ta turn D2 (outL rest turn)) turn ⟨a, s', ow', ra, rest⟩ rfl rfl rfl (.mk ((G'.keep0 f5).keep0 f6) n' F6 (f6.k0 (f5.k0 ht')) (f6.k0 hta) hD2 tmem (f6.k0 (f5.k0 hq')) ho htr' (by show a.tried.length + _ + _ ≤ _; omega) e)
      (fun _ _ _ h => by cases h with | mk _ _ _ _ ht => exact rd_own ht) (fun m ms z σ7 h => ?_) fun z σ7 h => ?_
    · obtain ⟨a, s', ow', _, _⟩ := z
      cases h with | mk G' n' f' ht' hta' hD' hm hq' ho htr' sz e =>
      dsimp only at G' n' hq' ho htr' sz e
      obtain ⟨m1, m2⟩ := hm m List.mem_cons_self
      obtain ⟨ek, hkid⟩ := kid_at ok hwm m1 m2
      have m3 : m ≤ 3 := by omega
      rw [List.length_cons] at sz
      refine absK fun K2 hK2 => ?_
      simp! only [G'.row ok ok.kids hw, G'.r_kid ok hwm m1 m2]
      apply jnV (P := fun v σ8 => ∃ s8 ow8, valS (seekM c.t c.left.toNat c.limit k (ply + 1)) (w.kids.getD (m - 1).toNat 0) a.low a.first (highS ply high) s' = (v, s8) ∧ GoodL c s8 ow8 σ8 ∧ NewIn σ7 ow' ow8 ∧ Fr c.ML σ7 σ8)
      · intro key
        refine ⟨fun hfirst => ?_, fun hfirst => ?_⟩
        · simp! only []
          refine cS e556 (.mk k rfl (.mk (ply := ply + 1) rfl (by omega) G' ek (by omega) (by omega) fun ow8 σ8 n8 G8 f8 => ?_))
          generalize hE : seekM c.t c.left.toNat c.limit k (ply + 1) (w.kids.getD (m - 1).toNat 0) (-highS ply high) (-a.low) s' = E at G8 ⊢
          obtain ⟨w1, s8⟩ := E
          simp! only []
          generalize hv : -w1 = v
          exact key v σ8 ⟨s8, ow8, by unfold valS; rw [if_pos hfirst, hE, ← hv], G8, n8, f8⟩
        · have hnf : ¬ a.first = true := by rw [hfirst]; exact Bool.false_ne_true
          simp! only []
          refine cS e556 (.mk k rfl (.mk (ply := ply + 1) rfl (by omega) G' ek (by omega) (by omega) fun ow8 σ8 n8 G8 f8 => ?_))
          generalize hE : seekM c.t c.left.toNat c.limit k (ply + 1) (w.kids.getD (m - 1).toNat 0) (-a.low - 1) (-a.low) s' = E at G8 ⊢
          obtain ⟨w1, s8⟩ := E
          dsimp only at G8
          simp! only []
          by_cases z : a.low < -w1 ∧ -w1 < highS ply high
          · refine iT z.1 ?_
            simp! only []
            refine iT z.2 ?_
            simp! only []
            refine cS e556 (.mk k rfl (.mk (ply := ply + 1) rfl (by omega) G8 ek (by omega) (by omega) fun ow9 σ9 n9 G9 f9 => ?_))
            generalize hE2 : seekM c.t c.left.toNat c.limit k (ply + 1) (w.kids.getD (m - 1).toNat 0) (-highS ply high) (-a.low) s8 = E at G9 ⊢
            obtain ⟨w2, s9⟩ := E
            simp! only []
            exact key (-w2) σ9 ⟨s9, ow9, by unfold valS; rw [if_neg hnf, hE, if_pos z, hE2], G9, n8.trans n9 f8, f8.trans f9⟩
          · have ev : valS (seekM c.t c.left.toNat c.limit k (ply + 1)) (w.kids.getD (m - 1).toNat 0) a.low a.first (highS ply high) s' = (-w1, s8) := by unfold valS; rw [if_neg hnf, hE, if_neg z]
            refine iC (fun z1 => ?_) fun z1 => ?_
            · simp! only []
              refine iF (fun z2 => z ⟨z1, z2⟩) ?_
              simp! only []
              exact key (-w1) σ8 ⟨s8, ow8, ev, G8, n8, f8⟩
            · simp! only []
              exact key (-w1) σ8 ⟨s8, ow8, ev, G8, n8, f8⟩
      rintro v σ8 ⟨s8, ow8, hV, G8, n8, f8⟩
      have es : f m a s' = stepOf w c.limit ply ((k + 1 : Nat) : Int) (highS ply high) m a (v, s8) := by
        rw [hf]; unfold stepS; rw [hV]
      rw [goR_cons, es] at e
      unfold stepOf at e
      dsimp only at e
      have keep : ∀ {x : Addr} {o : AObj}, σ7 x = some o → x ∉ c.M → σ8 x = some o := fun e h => f8.keep _ _ e fun q => h (ml_m q)
      have n9 : NewIn σ ow ow8 := n'.trans n8 f'
      have F9 : Fr c.ML σ σ8 := f'.trans f8
      have tqow : tq ∉ ow8 := fun h => by
        rcases n8 tq h with h' | h'
        · exact ho h'
        · rw [hq'] at h'; cases h'
      have hq8 := keep hq' tqM
      simp! only []
      refine iC (fun hv => ?_) fun hv => ?_
      · rw [if_pos hv] at e
        have e2 : resR R = (if a.best < v then v else a.best, if w.ld m = true then s8 else s8.rewardM c.limit ((ply % 2 : Nat) : Int) ply ((k + 1 : Nat) : Int) m a.tried) := by rw [← e]; rfl
        rw [e2] at hq
        simp! only [G8.row ok ok.louds hw, G8.r_loud ok hwm m1 m2]
        refine ⟨fun h => ?_, fun h => ?_⟩
        · have hnl : ¬ w.ld m = true := by rw [nb1 h]; exact Bool.false_ne_true
          rw [if_neg hnl] at hq
          simp! only []
          refine cS e551 ⟨G8, by omega, by omega, by omega, m1, m3, hq8, tqM, htr', fun ow9 σ9 n10 G9 f9 => ?_⟩
          simp! only []
          refine hK2 _ _ _ (hK _ _ _ ?_)
          exact hq ow9 σ9 (n9.trans n10 F9) G9 (F9.trans f9)
        · rw [if_pos (nb0 h)] at hq
          simp! only []
          refine hK2 _ _ _ (hK _ _ _ ?_)
          exact hq _ _ n9 G8 F9
      · rw [if_neg hv] at e
        simp! only [G8.row ok ok.louds hw, G8.r_loud ok hwm m1 m2]
        refine ⟨fun h => ?_, fun h => ?_⟩
        · have hnl : ¬ w.ld m = true := by rw [nb1 h]; exact Bool.false_ne_true
          rw [if_neg hnl] at e
          simp! only []
          refine aS hq8 ?_
          simp! only []
          refine aT hq8 (by rw [List.length_map]; omega) ?_
          have f10 : Fr [tq] σ8 (upd σ8 tq (.list (a.tried.map V.int ++ [V.int m]))) := Fr.u1
          have G10 := G8.keep f10 (all1 (p := fun x => x ∉ c.ML ∧ c.F x = none ∧ x ∉ ow8) ⟨fun h => tqM (ml_m h), tqF, tqow⟩)
          simp! only []
          refine hK2 _ _ _ <| jM ms ⟨⟨_, _, a.tried ++ [m], false⟩, s8, ow8, ra, rest⟩ (by repeat first | exact Sub.nil _ | refine Sub.cons rfl ?_) (.mk G10 n9 (F9.fresh f10 tq0) (f10.k1 (keep ht' tpM) netp) (f10.k1 (keep hta' taM) neta) (f10.k1 (keep hD' D2M) neD) (fun x hx => hm x (List.mem_cons_of_mem _ hx)) (by rw [List.map_append]; exact upd_self _ _ _) tqow (fun x hx => ?_) (by rw [List.length_append]; simp only [List.length_cons, List.length_nil]; omega) e)
          rcases List.mem_append.mp hx with hx | hx
          · exact htr' x hx
          · rw [List.mem_singleton] at hx; subst hx; exact ⟨m1, m3⟩
        · rw [if_pos (nb0 h)] at e
          simp! only []
          exact hK2 _ _ _ <| jM ms ⟨⟨_, _, a.tried, false⟩, s8, ow8, ra, rest⟩ (by repeat first | exact Sub.nil _ | refine Sub.cons rfl ?_) (.mk G8 n9 F9 (keep ht' tpM) (keep hta' taM) (keep hD' D2M) (fun x hx => hm x (List.mem_cons_of_mem _ hx)) hq8 tqow htr' (by dsimp only; omega) e)
    · obtain ⟨a, s', ow', _, _⟩ := z
      cases h with | mk G' n' f' ht' hta' hD' hm hq' ho htr' sz e =>
      simp! only []
      exact hK _ _ _ <| jM ks ⟨a, s', ow', D2, outL rest turn⟩ (by repeat first | exact Sub.nil _ | refine Sub.cons rfl ?_) (.mk G' n' f' ht' hD' neD (fun m hm => hr m (outL_mem hm)) (Nat.le_trans (outL_len _ _) h3) hq' ho htr' sz e)
  · obtain ⟨a, s', ow', ra, rest⟩ := z
    cases h with | mk G' n' f' ht' hra hne hr h3 hq' ho htr' sz e =>
    have e2 : resR R = (a.best, s') := by rw [← e]; rfl
    rw [e2] at hq
    simp! only []
    exact hq ow' σ' n' G' f'
end
/-! PP -/
/-- what lies below is not shadowed -/
def Free (X : Cx) (σ : St) : Prop := ∀ a o, X.τ a = some o → σ a = none
section
variable {X : Cx} {r : Nat} {c : Cw}
theorem Mid.free' {σ : St} {h : Heap} (M : Mid X σ h) : Free X σ := fun a o e => by
  obtain ⟨ob, e'⟩ := (X.tau a o e).some
  exact (M.kept a ob e').2
theorem SC.safe {f : Value} {T : TC} (h : SC X r f T) : SC X r f (fun vs σ Q => Free X σ → T vs σ fun v σ' => Free X σ' → Q v σ') := by
  intro A vs xs σ s Qa Q E R M ia hT hQ
  refine h A vs xs σ s (fun v σ' => Free X σ' → Qa v σ') Q E R M ia (hT M.free') fun v x σ' h' tk iv hq S' x' => ?_
  exact hQ v x σ' h' tk iv (hq (M.step S' x').free') S' x'
theorem SC.ex {ι : Type} {P : ι → Prop} {f : Value} {T : ι → TC} (h : ∀ i, P i → SC X r f (T i)) : SC X r f (fun vs σ Q => ∃ i, P i ∧ T i vs σ Q) := by
  intro A vs xs σ s Qa Q E R M ia ⟨i, hp, hT⟩ hQ
  exact h i hp A vs xs σ s Qa Q E R M ia hT hQ
theorem Free.new {σ : St} (F : Free X σ) {a : Addr} {o : AObj} (h : rd X σ a = none) : Free X (upd σ a o) := fun b p e => by
  have hb := F b p e
  have : b ≠ a := fun q => by
    subst q
    unfold rd at h
    rw [hb] at h
    dsimp only at h
    rw [e] at h; cases h
  exact (upd_ne this).trans hb
theorem Free.upd {σ : St} (F : Free X σ) {a : Addr} {o p : AObj} (h : σ a = some p) : Free X (upd σ a o) := fun b q e => by
  have hb := F b q e
  have : b ≠ a := fun z => by subst z; rw [hb] at h; cases h
  exact (upd_ne this).trans hb
structure Sx (X : Cx) (σ : St) (sl sc : Addr) (scr : List Int) (k : Nat) : Prop where
  free : Free X σ
  tau : X.τ sc = some (.slist (scr.map .int))
  len : scr.length < 1000
  st : σ sl = some (.list [.int (k : Int)])
  small : k < 500
theorem Sx.rd {σ : St} {sl sc : Addr} {scr : List Int} {k : Nat} (S : Sx X σ sl sc scr k) : Mine.rd X σ sc = some (.slist (scr.map .int)) := by
  unfold Mine.rd; rw [S.free _ _ S.tau]; exact S.tau
theorem Sx.put {σ : St} {sl sc a : Addr} {scr : List Int} {k : Nat} {o p : AObj} (S : Sx X σ sl sc scr k) (h : σ a = some p) (n : sl ≠ a) : Sx X (upd σ a o) sl sc scr k := ⟨S.free.upd h, S.tau, S.len, (upd_ne n).trans S.st, S.small⟩
theorem Sx.new {σ s : St} {sl sc a : Addr} {scr : List Int} {k : Nat} {o : AObj} (S : Sx X σ sl sc scr k) (r : Mine.rd X σ a = none) (n : σ a = none) (hs : s = upd σ a o) : Sx X s sl sc scr k ∧ Fr [] σ s ∧ s a = some o := by
  subst hs
  exact ⟨⟨S.free.new r, S.tau, S.len, ne_upd n S.st, S.small⟩, Fr.new n, upd_self _ _ _⟩
inductive T508 (X : Cx) : TC
  | mk {σ Q sl sc scr k} (S : Sx X σ sl sc scr k) (hk : k + 1 < 500) (h : ∀ (i : Int) σ', Sx X σ' sl sc scr (k + 1) → Fr [sl] σ σ' → Q (.int i) σ') : T508 X [.ref sl, .ref sc] σ Q
theorem c_508 (h6 : 6 ≤ r) : SC X (r + 3) (.ref 508) (T508 X) := by
  refine D_508.run (hyN h6) fun vs σ Q h => ?_
  induction h with | @mk σ Q sl sc scr k S hk hq =>
  refine prI rfl ?_
  have len := S.len
  have g0 : getV X σ (.ref sl) (.int 0) = some (.int (k : Int)) := get_nat (k := 0) S.st (by decide) rfl
  simp! only [g0]
  refine ⟨_, setitem_list S.st (by decide) (by decide) (by show (0 : Int) < ((1 : Nat) : Int); decide), ?_⟩
  have S1 : Sx X (upd σ sl (.list ([V.int (k : Int)].set (0 : Int).toNat (.int ((k : Int) + 1))))) sl sc scr (k + 1) := ⟨S.free.upd S.st, S.tau, S.len, upd_self _ _ _, hk⟩
  have hq' := fun i => hq i _ S1 Fr.u1
  have hrd := S1.rd
  generalize upd σ sl (.list ([V.int (k : Int)].set (0 : Int).toNat (.int ((k : Int) + 1)))) = σ1 at hq' hrd
  have hlen : lenV X [.ref sc] σ1 = some (.int scr.length) := by
    unfold lenV; simp only [hrd, List.length_map]; rw [if_pos (by lia)]
  simp! only [hlen]
  refine iC (fun hlt => ?_) fun _ => ?_
  · have hk : k < scr.length := by lia
    have g1 : getV X σ1 (.ref sc) (.int k) = some (.int scr[k]) := by
      unfold getV
      simp only [hrd]
      rw [getIdx_nat (by lia), List.getElem?_map, List.getElem?_eq_getElem hk]; rfl
    simp! only [g1]
    exact hq' _
  · simp! only [b_mul (j := k) (by lia), b_fdiv (j := 2) (by decide) (by decide)]
    exact hq' _
inductive T515 (X : Cx) : TC
  | mk {σ Q sl sc scr k} {size : Int} (S : Sx X σ sl sc scr k) (hk : k + 1 < 500) (hs : 1 ≤ size) (h : ∀ (i : Int) σ', 0 ≤ i → i < size → Sx X σ' sl sc scr (k + 1) → Fr [sl] σ σ' → Q (.int i) σ') : T515 X [.ref sl, .ref sc, .int size] σ Q
theorem c_515 (h6 : 6 ≤ r) (c_508 : SC X r (.ref 508) (T508 X)) : SC X (r + 3) (.ref 515) (T515 X) := by
  refine wG1 [(508, _)] (hyC c_508 (hyN h6)) (fun Γ H (e508 : Γ 508 = T508 X) => ?_) rfl
  refine D_515.run H fun vs σ Q h => ?_
  induction h with | @mk σ Q sl sc scr k size S hk hs hq =>
  refine prI rfl ?_
  simp! only []
  refine cS e508 ⟨S, hk, fun i σ1 S1 f1 => ?_⟩
  simp! only [b_mod (j := size) (by lia)]
  exact hq _ σ1 (Int.fmod_nonneg_of_pos i (by lia)) (Int.fmod_lt_of_pos i (by lia)) S1 f1
inductive T522 (X : Cx) : TC
  | mk {σ Q sl sc scr k} (S : Sx X σ sl sc scr k) (hk : k + 1 < 500) (h : ∀ (i : Int) σ', -31999 ≤ i → i ≤ 31999 → Sx X σ' sl sc scr (k + 1) → Fr [sl] σ σ' → Q (.int i) σ') : T522 X [.ref sl, .ref sc] σ Q
theorem c_522 (h6 : 6 ≤ r) (c_515 : SC X r (.ref 515) (T515 X)) : SC X (r + 3) (.ref 522) (T522 X) := by
  refine wG1 [(515, _)] (hyC c_515 (hyN h6)) (fun Γ H (e515 : Γ 515 = T515 X) => ?_) rfl
  refine D_522.run H fun vs σ Q h => ?_
  induction h with | @mk σ Q sl sc scr k S hk hq =>
  refine prI rfl ?_
  simp! only []
  refine cS e515 ⟨S, hk, by decide, fun i σ1 i0 i1 S1 f1 => ?_⟩
  have d1 : (i + 1).fdiv 2 = (i + 1) / 2 := Int.fdiv_eq_ediv_of_nonneg _ (by decide)
  have d2 : i.fdiv 2 = i / 2 := Int.fdiv_eq_ediv_of_nonneg _ (by decide)
  simp! only [b_mod (j := 2) (by decide)]
  refine iC (fun _ => ?_) fun _ => ?_
  · simp! only [b_fdiv (j := 2) (by decide) (by decide)]
    rw [d1]
    exact hq _ σ1 (by omega) (by omega) S1 f1
  · simp! only [b_fdiv (j := 2) (by decide) (by decide)]
    rw [d2]
    exact hq _ σ1 (by omega) (by omega) S1 f1
end
/-! PQ -/
structure RowF (σ0 σ : St) (N : List Addr) (size : Nat) (r : Row) : Prop where
  ka : σ r.ka = some (.list (r.kids.map fun k : Nat => .int (k : Int)))
  la : σ r.la = some (.list (r.loud.map .bool))
  ga : σ r.ga = some (.list (r.gain.map .int))
  ln : r.loud.length = r.kids.length
  gn : r.gain.length = r.kids.length
  few : r.kids.length ≤ 3
  inn : ∀ k ∈ r.kids, k < size
  vb : -31999 ≤ r.val ∧ r.val ≤ 31999
  nk : r.ka ∉ N ∧ r.la ∉ N ∧ r.ga ∉ N
  f0 : σ0 r.ka = none ∧ σ0 r.la = none ∧ σ0 r.ga = none
theorem RowF.keep {σ0 σ σ' : St} {N : List Addr} {size : Nat} {r : Row} (h : RowF σ0 σ N size r) (f : Fr N σ σ') : RowF σ0 σ' N size r :=
  ⟨f.keep _ _ h.ka h.nk.1, f.keep _ _ h.la h.nk.2.1, f.keep _ _ h.ga h.nk.2.2, h.ln, h.gn, h.few, h.inn, h.vb, h.nk, h.f0⟩
structure S6 (σ : St) (a1 a2 a3 a4 a5 a6 : Addr) (l1 l2 l3 l4 l5 l6 : List V) : Prop where
  e1 : σ a1 = some (.list l1)
  e2 : σ a2 = some (.list l2)
  e3 : σ a3 = some (.list l3)
  e4 : σ a4 = some (.list l4)
  e5 : σ a5 = some (.list l5)
  e6 : σ a6 = some (.list l6)
section
variable {X : Cx} {r : Nat} {c : Cw}
/-- what the tree's maker leaves -/
def TreeP (X : Cx) (σ : St) (sl : Addr) (size k : Nat) (Q : V → St → Prop) : Prop :=
  ∀ (a a1 a2 a3 a4 a5 a6 : Addr) (t : List Row) (k' : Nat) (σ' : St), k' ≤ k + 9 * size → Fr [sl] σ σ' → σ' sl = some (.list [.int (k' : Int)]) → σ' a = some (.list [.ref a1, .ref a2, .ref a3, .ref a4, .ref a5, .ref a6]) →
    S6 σ' a1 a2 a3 a4 a5 a6 (t.map fun r => .ref r.ka) (t.map fun r => .int r.val) (t.map fun r => .bool r.chk) (t.map fun r => .bool r.drw) (t.map fun r => .ref r.la) (t.map fun r => .ref r.ga) → (∀ r ∈ t, RowF σ σ' [sl, a1, a2, a3, a4, a5, a6] size r) → t.length = size →
    (σ a = none ∧ σ a1 = none ∧ σ a2 = none ∧ σ a3 = none ∧ σ a4 = none ∧ σ a5 = none ∧ σ a6 = none) → Free X σ' → Q (.ref a) σ'
/-- the lists that are being made -/
structure Tw (X : Cx) (N : List Addr) (σ0 : St) (sl sc : Addr) (scr : List Int) (k : Nat) (os : List (Addr × List V)) (τ : St) : Prop where
  F : Fr N σ0 τ
  S : Sx X τ sl sc scr k
  o : ∀ p ∈ os, τ p.1 = some (.list p.2)
  n : ∀ p ∈ os, p.1 ∈ N ∨ σ0 p.1 = none
  d : (sl :: os.map (·.1)).Nodup
section
variable {N : List Addr} {σ0 τ τ' : St} {sl sc : Addr} {scr : List Int} {k k' : Nat} {os : List (Addr × List V)}
theorem Tw.at (T : Tw X N σ0 sl sc scr k os τ) (i : Nat) {a : Addr} {l : List V} (h : os[i]? = some (a, l)) : τ a = some (.list l) := T.o (a, l) (List.mem_of_getElem? h)
theorem Tw.ne (T : Tw X N σ0 sl sc scr k os τ) {p : Addr × List V} (h : p ∈ os) : sl ≠ p.1 := fun q => (List.nodup_cons.mp T.d).1 (q ▸ List.mem_map_of_mem h)
theorem Tw.oth (T : Tw X N σ0 sl sc scr k os τ) {a : Addr} {o : AObj} (r : rd X τ a = none) (n : τ a = none) (hs : τ' = upd τ a o) : Tw X N σ0 sl sc scr k os τ' ∧ τ' a = some o := by
  obtain ⟨S, f, e⟩ := T.S.new r n hs
  exact ⟨⟨T.F.trans f.nil, S, fun p hp => f.k0 (T.o p hp), T.n, T.d⟩, e⟩
theorem Tw.new (T : Tw X N σ0 sl sc scr k os τ) {a : Addr} {l : List V} (r : rd X τ a = none) (n : τ a = none) (hs : τ' = upd τ a (.list l)) : Tw X N σ0 sl sc scr k ((a, l) :: os) τ' := by
  obtain ⟨⟨F, S, o, h, d⟩, e⟩ := T.oth r n hs
  refine ⟨F, S, fun p hp => ?_, fun p hp => ?_, ?_⟩
  · rcases List.mem_cons.mp hp with rfl | hp
    · exact e
    · exact o p hp
  · rcases List.mem_cons.mp hp with rfl | hp
    · exact .inr (T.F.none n)
    · exact h p hp
  · rw [List.map_cons]
    obtain ⟨d1, d2⟩ := List.nodup_cons.mp d
    refine List.nodup_cons.mpr ⟨fun q => ?_, List.nodup_cons.mpr ⟨fun q => ?_, d2⟩⟩
    · rcases List.mem_cons.mp q with q | q
      · have := T.S.st; rw [q, n] at this; cases this
      · exact d1 q
    · obtain ⟨p, hp, q⟩ := List.mem_map.mp q
      have := T.o p hp; rw [q, n] at this; cases this
theorem Tw.pull (T : Tw X N σ0 sl sc scr k os τ) (hN : sl ∈ N) (S : Sx X τ' sl sc scr k') (f : Fr [sl] τ τ') : Tw X N σ0 sl sc scr k' os τ' :=
  ⟨T.F.trans (f.sub (all1 (p := fun x => x ∈ N) hN)), S, fun p hp => f.k1 (T.o p hp) (T.ne hp).symm, T.n, T.d⟩
theorem Tw.put (T : Tw X N σ0 sl sc scr k os τ) (i : Nat) {a : Addr} {l : List V} (h : os[i]? = some (a, l)) (l' : List V) : Tw X N σ0 sl sc scr k (os.set i (a, l')) (upd τ a (.list l')) := by
  have hm := List.mem_of_getElem? h
  have em : (os.set i (a, l')).map (·.1) = os.map (·.1) := by
    rw [List.map_set]
    apply List.ext_getElem?
    intro j
    rw [List.getElem?_set]
    split
    · rename_i q
      subst q
      rw [List.getElem?_map, h, if_pos (by rw [List.length_map]; exact (List.getElem?_eq_some_iff.mp h).1)]; rfl
    · rfl
  refine ⟨?_, T.S.put (T.o _ hm) (T.ne hm), fun p hp => ?_, fun p hp => ?_, by rw [em]; exact T.d⟩
  · rcases T.n _ hm with q | q
    · exact T.F.trans (Fr.upd q)
    · exact T.F.fresh Fr.u1 q
  · obtain ⟨j, hj, e⟩ := List.mem_iff_getElem.mp hp
    rw [List.getElem_set] at e
    split at e
    · subst e; exact upd_self _ _ _
    · rename_i q
      rw [List.length_set] at hj
      refine (upd_ne fun z => q ?_).trans (T.o p (by rw [← e]; exact List.getElem_mem _))
      have d2 := (List.nodup_cons.mp T.d).2
      obtain ⟨hi, e2⟩ := List.getElem?_eq_some_iff.mp h
      refine (List.getElem_inj (xs := os.map (·.1)) (h₀ := by rw [List.length_map]; exact hi) (h₁ := by rw [List.length_map]; exact hj) d2).mp ?_
      rw [List.getElem_map, List.getElem_map, e2, e]; exact z.symm
  · have : p.1 ∈ os.map (·.1) := by rw [← em]; exact List.mem_map_of_mem hp
    obtain ⟨q, hq, e⟩ := List.mem_map.mp this
    rw [← e]; exact T.n q hq
theorem Tw.drop4 {p q x y : Addr × List V} (T : Tw X N σ0 sl sc scr k (p :: q :: x :: y :: os) τ) (h : ∀ z ∈ os, z.1 ∈ N) : Tw X N τ sl sc scr k os τ := by
  have up : ∀ z ∈ os, z ∈ p :: q :: x :: y :: os := fun z hz => List.mem_cons_of_mem _ (List.mem_cons_of_mem _ (List.mem_cons_of_mem _ (List.mem_cons_of_mem _ hz)))
  refine ⟨.refl _ _, T.S, fun z hz => T.o z (up z hz), fun z hz => .inl (h z hz), T.d.sublist (List.Sublist.cons_cons _ ?_)⟩
  exact (((List.sublist_cons_self _ _).trans (List.sublist_cons_self _ _)).trans (List.sublist_cons_self _ _)).trans (List.sublist_cons_self _ _)
end
noncomputable abbrev six (a1 a2 a3 a4 a5 a6 : Addr) (t : List Row) : List (Addr × List V) := [(a6, t.map fun r => .ref r.ga), (a5, t.map fun r => .ref r.la), (a4, t.map fun r => .bool r.drw), (a3, t.map fun r => .bool r.chk), (a2, t.map fun r => .int r.val), (a1, t.map fun r => .ref r.ka)]
inductive T527 (X : Cx) : TC
  | mk {σ Q sl sc scr k} {size : Nat} (S : Sx X σ sl sc scr k) (hk : k ≤ 50) (h1 : 1 ≤ size) (h7 : size ≤ 7) (h : TreeP X σ sl size k Q) : T527 X [.ref sl, .ref sc, .int size, .int 3] σ Q
inductive I527 (X : Cx) (σ : St) (sl sc : Addr) (scr : List Int) (k size : Nat) (a1 a2 a3 a4 a5 a6 : Addr) (N : List Addr) (is : List Nat) (z : List Row × Nat) (τ : St) : Prop
  | mk (hi : ∀ i ∈ is, i < size) (hl : z.1.length + is.length = size) (hk : z.2 + 9 * is.length ≤ k + 9 * size) (F : Fr [sl] σ τ) (T : Tw X N τ sl sc scr z.2 (six a1 a2 a3 a4 a5 a6 z.1) τ) (hr : ∀ r ∈ z.1, RowF σ τ N size r)
inductive K527 (X : Cx) (N : List Addr) (σ0 : St) (sl sc : Addr) (scr : List Int) (k size cnt : Nat) (ra : Addr) (os : List (Addr × List V)) (is : List Nat) (z : List Nat × Nat) (τ : St) : Prop
  | mk (hl : z.1.length + is.length = cnt) (hk : z.2 + is.length ≤ k + cnt) (hin : ∀ x ∈ z.1, x < size) (T : Tw X N σ0 sl sc scr z.2 ((ra, z.1.map fun j : Nat => .int (j : Int)) :: os) τ)
inductive M527 (X : Cx) (N : List Addr) (σ0 : St) (sl sc : Addr) (scr : List Int) (k len : Nat) (os : List (Addr × List V)) {C : Type} {B : Type} (g : C → V) (D : Addr) (js : List B) (cs : List C) (z : Nat) (τ : St) : Prop
  | mk (hl : cs.length + js.length = len) (hk : z + js.length ≤ k + len) (T : Tw X N σ0 sl sc scr z ((D, cs.map g) :: os) τ)
inductive L527 (X : Cx) (N : List Addr) (σ0 : St) (sl sc : Addr) (scr : List Int) (k len : Nat) (os : List (Addr × List V)) {C : Type} (g : C → V) (D : Addr) (js : List Int) (cs : List C) (z : Unit) (τ : St) : Prop
  | mk (hl : cs.length + js.length = len) (h0 : σ0 D = none) (T : Tw X N σ0 sl sc scr k ((D, cs.map g) :: os) τ)
theorem c_527 (h6 : 6 ≤ r) (c_515 : SC X r (.ref 515) (T515 X)) (c_522 : SC X r (.ref 522) (T522 X)) : SC X (r + 3) (.ref 527) (T527 X) := by
  refine wG2 [(515, _), (522, _)] (hyC c_515 (hyC c_522 (hyN h6))) (fun Γ H (e515 : Γ 515 = T515 X) (e522 : Γ 522 = T522 X) => ?_) rfl rfl
  refine D_527.run H fun vs σ Q h => ?_
  induction h with | @mk σ Q sl sc scr k size S hk hs1 hs7 hq =>
  refine prI rfl ?_
  have T0 : Tw X [] σ sl sc scr k [] σ := ⟨.refl _ _, S, fun _ h => (by cases h), fun _ h => (by cases h), by simp⟩
  simp! only []
  refine lU rfl fun a1 s1 r1 n1 _ hs => ?_
  have T1 := T0.new r1 n1 hs
  refine lU rfl fun a2 s2 r2 n2 _ hs => ?_
  have T2 := T1.new r2 n2 hs
  refine lU rfl fun a3 s3 r3 n3 _ hs => ?_
  have T3 := T2.new r3 n3 hs
  refine lU rfl fun a4 s4 r4 n4 _ hs => ?_
  have T4 := T3.new r4 n4 hs
  refine lU rfl fun a5 s5 r5 n5 _ hs => ?_
  have T5 := T4.new r5 n5 hs
  refine lU rfl fun a6 s6 r6 n6 _ hs => ?_
  have T6 := T5.new r6 n6 hs
  refine tU rfl fun tp s7 r7 n7 _ hs => ?_
  obtain ⟨T7, htp⟩ := T6.oth r7 n7 hs
  refine uT (rd_own htp) rfl ?_
  simp! only []
  refine Mine.r1 (mU fun ga s8 g1 g2 _ hs => ?_)
  obtain ⟨T8, hga⟩ := T7.oth g1 g2 hs
  have allN : ∀ (P : Addr → Prop) (t : List Row), P sl → (∀ p ∈ six a1 a2 a3 a4 a5 a6 t, P p.1) → ∀ x ∈ [sl, a1, a2, a3, a4, a5, a6], P x := fun P t h0 h x hx => by
    simp only [List.mem_cons, List.not_mem_nil, or_false] at hx
    rcases hx with e | e | e | e | e | e | e
    · rw [e]; exact h0
    · rw [e]; exact (h _ (List.mem_of_getElem? (i := 5) rfl) :)
    · rw [e]; exact (h _ (List.mem_of_getElem? (i := 4) rfl) :)
    · rw [e]; exact (h _ (List.mem_of_getElem? (i := 3) rfl) :)
    · rw [e]; exact (h _ (List.mem_of_getElem? (i := 2) rfl) :)
    · rw [e]; exact (h _ (List.mem_of_getElem? (i := 1) rfl) :)
    · rw [e]; exact (h _ (List.mem_of_getElem? (i := 0) rfl) :)
  have fr6 : ∀ p ∈ six a1 a2 a3 a4 a5 a6 [], σ p.1 = none := fun p hp => (T8.n p hp).elim (fun h => by cases h) id
  have fresh := allN (fun x => x = sl ∨ σ x = none) [] (.inl rfl) fun p hp => .inr (fr6 p hp)
  have slN : sl ∈ [sl, a1, a2, a3, a4, a5, a6] := List.mem_cons_self
  have sixN : ∀ (t : List Row), ∀ p ∈ six a1 a2 a3 a4 a5 a6 t, p.1 ∈ [sl, a1, a2, a3, a4, a5, a6] := fun t p hp => by
    simp only [List.mem_cons, List.not_mem_nil, or_false] at hp ⊢
    rcases hp with rfl | rfl | rfl | rfl | rfl | rfl <;> simp
  generalize hNN : [sl, a1, a2, a3, a4, a5, a6] = N at fresh slN sixN allN
  have TT : Tw X N s8 sl sc scr k (six a1 a2 a3 a4 a5 a6 []) s8 := ⟨.refl _ _, T8.S, T8.o, fun p hp => .inl (sixN [] p hp), T8.d⟩
  simp! only []
  refine fM (src := .range 0 size) (fun i : Nat => V.int (0 + (i : Int))) (fun z : List Row × Nat => [(157, .ref sl), (158, .ref sc), (160, .int size), (164, .int 3), (152, .ref a1), (145, .ref a2), (146, .ref a3), (147, .ref a4), (165, .ref a5), (148, .ref a6)]) (I527 X σ sl sc scr k size a1 a2 a3 a4 a5 a6 N) (List.range size) ([], k) ⟨by rw [rd_own hga, Int.zero_add], by decide, by lia⟩ rfl rfl
    (.mk (fun i hi => List.mem_range.mp hi) (by simp) (by simp) T8.F.nil TT (fun r hr => by cases hr)) (fun _ _ _ _ => rfl) (fun i is z σ' h => ?_) fun z σ' h => ?_
  · obtain ⟨t, k'⟩ := z
    cases h with | mk hi hl hk' F T hr =>
    dsimp only at hl hk' T hr
    rw [List.length_cons] at hl hk'
    have hil := hi i List.mem_cons_self
    have hNal := allN (fun x => σ' x ≠ none) t (by rw [T.S.st]; exact nofun) fun p hp => by rw [T.o p hp]; exact nofun
    have out : ∀ {x}, σ' x = none → x ∉ N := fun e h => hNal _ h e
    simp! only []
    apply jnV (P := fun cnt σ3 => 0 ≤ cnt ∧ cnt < 4 ∧ (0 < cnt → 0 < (size : Int) - 1 - (0 + (i : Int))) ∧ ∃ k3, k3 ≤ k' + 1 ∧ Tw X N σ' sl sc scr k3 (six a1 a2 a3 a4 a5 a6 t) σ3)
    · intro key
      refine iC (fun hroom => ?_) fun hroom => ?_
      · simp! only []
        refine cS e515 ⟨T.S, by lia, by decide, fun cnt σ3 c0 c1 S3 f3 => ?_⟩
        simp! only []
        exact key cnt σ3 ⟨c0, c1, fun _ => hroom, k' + 1, Nat.le_refl _, T.pull slN S3 f3⟩
      · simp! only []
        exact key 0 σ' ⟨by decide, by decide, fun h => absurd h (by decide), k', Nat.le_succ _, T⟩
    rintro cnt σ3 ⟨c0, c1, hroom, k3, hk3, T3⟩
    simp! only []
    refine lU rfl fun ra σ4 b1 b2 _ hs => ?_
    have T4 := T3.new b1 b2 hs
    have ra0 : σ' ra = none := T3.F.none b2
    simp! only []
    refine Mine.r1 (mU fun gb σ5 c1 c2 _ hs => ?_)
    obtain ⟨T5, hgb⟩ := T4.oth c1 c2 hs
    simp! only []
    refine fM (src := .range 0 cnt.toNat) (fun j : Nat => V.int (0 + (j : Int))) (fun z : List Nat × Nat => [(157, .ref sl), (158, .ref sc), (160, .int size), (164, .int 3), (152, .ref a1), (145, .ref a2), (146, .ref a3), (147, .ref a4), (165, .ref a5), (148, .ref a6), (166, .int (0 + (i : Int))), (167, .int ((size : Int) - 1 - (0 + (i : Int)))), (168, .int cnt), (169, .ref ra)]) (K527 X N σ' sl sc scr k3 size cnt.toNat ra (six a1 a2 a3 a4 a5 a6 t)) (List.range cnt.toNat) ([], k3)
      ⟨by rw [rd_own hgb, Int.zero_add, Int.toNat_of_nonneg c0], by decide, by lia⟩ rfl rfl (.mk (by simp) (by simp) (fun x hx => by cases hx) T5) (fun _ _ _ _ => rfl) (fun j is2 z τ h => ?_) fun z τ h => ?_
    · obtain ⟨kd, k4⟩ := z
      cases h with | mk hl2 hk4 hin Tk =>
      dsimp only at hl2 hk4 hin Tk
      rw [List.length_cons] at hl2 hk4
      simp! only []
      refine aS (Tk.at 0 rfl) ?_
      simp! only []
      refine cS e515 ⟨Tk.S, by lia, by have := hroom (by lia); lia, fun v τ2 v0 v1 S2 f2 => ?_⟩
      have T2 := Tk.pull slN S2 f2
      simp! only []
      refine aT (T2.at 0 rfl) (by rw [List.length_map]; lia) ?_
      simp! only []
      refine jM is2 (kd ++ [(0 + (i : Int) + 1 + v).toNat], k4 + 1) (by repeat first | exact Sub.nil _ | refine Sub.cons rfl ?_) (.mk (by rw [List.length_append, List.length_singleton]; lia) (by dsimp only; lia) (fun x hx => ?_) ?_)
      · rcases List.mem_append.mp hx with hx | hx
        · exact hin x hx
        · rw [List.mem_singleton] at hx; lia
      · rw [List.map_append, List.map_singleton, show (((0 + (i : Int) + 1 + v).toNat : Nat) : Int) = 0 + (i : Int) + 1 + v by lia]
        exact T2.put 0 rfl _
    · obtain ⟨kd, k4⟩ := z
      cases h with | mk hl2 hk4 hin Tk =>
      dsimp only at hl2 hk4 hin Tk
      rw [List.length_nil] at hl2 hk4
      have l3 : t.length < 1000 := by lia
      simp! only []
      refine aS (Tk.at 6 rfl) ?_
      simp! only []
      refine aT (Tk.at 6 rfl) (by rw [List.length_map]; exact l3) ?_
      have T1 := Tk.put 6 rfl (t.map (fun r => V.ref r.ka) ++ [.ref ra])
      generalize upd τ a1 _ = τ1 at T1 ⊢
      simp! only []
      refine aS (T1.at 5 rfl) ?_
      simp! only []
      refine cS e522 ⟨T1.S, by lia, fun val τ2 v0 v1 S2 f2 => ?_⟩
      have T2 := T1.pull slN S2 f2
      simp! only []
      refine aT (T2.at 5 rfl) (by rw [List.length_map]; exact l3) ?_
      have T3 := T2.put 5 rfl (t.map (fun r => V.int r.val) ++ [.int val])
      generalize upd τ2 a2 _ = τ3 at T3 ⊢
      simp! only []
      refine cS e515 ⟨T3.S, by lia, by decide, fun mark τ4 w0 w1 S4 f4 => ?_⟩
      have T4 := T3.pull slN S4 f4
      simp! only []
      refine aS (T4.at 4 rfl) ?_
      simp! only [b_mod (j := 3) (by decide)]
      generalize decide (mark.fmod 3 = 1) = B1
      refine aT (T4.at 4 rfl) (by rw [List.length_map]; exact l3) ?_
      have T5 := T4.put 4 rfl (t.map (fun r => V.bool r.chk) ++ [.bool B1])
      generalize upd τ4 a3 _ = τ5 at T5 ⊢
      simp! only []
      refine aS (T5.at 3 rfl) ?_
      simp! only []
      generalize decide (mark = 5) = B2
      refine aT (T5.at 3 rfl) (by rw [List.length_map]; exact l3) ?_
      have T6 := T5.put 3 rfl (t.map (fun r => V.bool r.drw) ++ [.bool B2])
      generalize upd τ5 a4 _ = τ6 at T6 ⊢
      simp! only []
      refine cM (src := .list ra) (fun j : Nat => V.int (j : Int)) V.int (M527 X N σ' sl sc scr (k4 + 2) kd.length _ V.int) kd (k4 + 2) rfl rfl (rd_own (T6.at 0 rfl)) (by lia) (fun D s d1 d2 _ hs => .mk (Nat.zero_add _) (Nat.le_refl _) (T6.new d1 d2 hs))
        (fun D js cs z s h => ?_) (fun D j js cs z s h => ?_) (fun D mk k5 τ7 h => ?_)
      · cases h with | mk hl hk T => exact ⟨rd_own (T.at 1 rfl), T.at 0 rfl, by rw [List.length_map]; lia⟩
      · cases h with | mk hl hk T =>
        rw [List.length_cons] at hl hk
        simp! only []
        refine cS e515 ⟨T.S, by lia, by decide, fun v s2 v0' v1' S2 f2 => ?_⟩
        have T2 := T.pull slN S2 f2
        refine cT v (z + 1) (T2.at 0 rfl) (.mk (by rw [List.length_append, List.length_singleton]; lia) (by lia) ?_)
        rw [List.map_append]; exact T2.put 0 rfl _
      cases h with | mk hl7 hk7 T7 =>
      rw [List.length_nil] at hl7 hk7
      simp! only []
      refine aS (T7.at 3 rfl) ?_
      simp! only []
      refine cM (src := .list D) V.int V.bool (L527 X N σ' sl sc scr k5 mk.length _ V.bool) mk () rfl rfl (rd_own (T7.at 0 rfl)) (by lia) (fun D s d1 d2 _ hs => .mk (Nat.zero_add _) (T7.F.none d2) (T7.new d1 d2 hs))
        (fun D js cs z s h => ?_) (fun D j js cs z s h => ?_) (fun E ls _ τ8 h => ?_)
      · cases h with | mk hl _ T => exact ⟨rd_own (T.at 1 rfl), T.at 0 rfl, by rw [List.length_map]; lia⟩
      · cases h with | mk hl h0 T =>
        rw [List.length_cons] at hl
        simp! only [b_mod (j := 2) (by decide)]
        refine cT _ () (T.at 0 rfl) (.mk (by rw [List.length_append, List.length_singleton]; lia) h0 ?_)
        rw [List.map_append]; exact T.put 0 rfl _
      cases h with | mk hl8 E0 T8' =>
      rw [List.length_nil] at hl8
      simp! only []
      refine aT (T8'.at 4 rfl) (by rw [List.length_map]; exact l3) ?_
      have T9 := T8'.put 4 rfl (t.map (fun r => V.ref r.la) ++ [.ref E])
      generalize upd τ8 a5 _ = τ9 at T9 ⊢
      simp! only []
      refine aS (T9.at 3 rfl) ?_
      simp! only []
      refine cM (src := .list D) V.int V.int (L527 X N σ' sl sc scr k5 mk.length _ V.int) mk () rfl rfl (rd_own (T9.at 1 rfl)) (by lia) (fun D s d1 d2 _ hs => .mk (Nat.zero_add _) (T9.F.none d2) (T9.new d1 d2 hs))
        (fun D js cs z s h => ?_) (fun D j js cs z s h => ?_) (fun H gs _ τ10 h => ?_)
      · cases h with | mk hl _ T => exact ⟨rd_own (T.at 2 rfl), T.at 0 rfl, by rw [List.length_map]; lia⟩
      · cases h with | mk hl h0 T =>
        rw [List.length_cons] at hl
        simp! only []
        refine cT _ () (T.at 0 rfl) (.mk (by rw [List.length_append, List.length_singleton]; lia) h0 ?_)
        rw [List.map_append]; exact T.put 0 rfl _
      cases h with | mk hl10 H0 T10 =>
      rw [List.length_nil] at hl10
      simp! only []
      refine aT (T10.at 4 rfl) (by rw [List.length_map]; exact l3) ?_
      have T11 := T10.put 4 rfl (t.map (fun r => V.ref r.ga) ++ [.ref H])
      generalize upd τ10 a6 _ = τ11 at T11 ⊢
      simp! only []
      have e6 : six a1 a2 a3 a4 a5 a6 (t ++ [⟨ra, E, H, kd, val, B1, B2, ls, gs⟩]) = [(a6, t.map (fun r => V.ref r.ga) ++ [.ref H]), (a5, t.map (fun r => V.ref r.la) ++ [.ref E]), (a4, t.map (fun r => V.bool r.drw) ++ [.bool B2]), (a3, t.map (fun r => V.bool r.chk) ++ [.bool B1]), (a2, t.map (fun r => V.int r.val) ++ [.int val]), (a1, t.map (fun r => V.ref r.ka) ++ [.ref ra])] := by
        unfold six; simp only [List.map_append, List.map_singleton]
      have T12 : Tw X N τ11 sl sc scr k5 (six a1 a2 a3 a4 a5 a6 (t ++ [⟨ra, E, H, kd, val, B1, B2, ls, gs⟩])) τ11 := by
        have := sixN (t ++ [⟨ra, E, H, kd, val, B1, B2, ls, gs⟩])
        rw [e6] at this ⊢
        exact T11.drop4 this
      refine jM is (t ++ [⟨ra, E, H, kd, val, B1, B2, ls, gs⟩], k5) (by repeat first | exact Sub.nil _ | refine Sub.cons rfl ?_) (.mk (fun j hj => hi j (List.mem_cons_of_mem _ hj)) (by rw [List.length_append, List.length_singleton]; lia) (by dsimp only; lia) (F.andThen T11.F fun x hx => (fresh x hx).imp (fun e => List.mem_singleton.mpr e) id) T12 fun r h => ?_)
      rcases List.mem_append.mp h with h | h
      · exact (hr r h).keep T11.F
      · rw [List.mem_singleton] at h
        subst h
        exact ⟨T11.at 3 rfl, T11.at 1 rfl, T11.at 0 rfl, by show ls.length = kd.length; lia, by show gs.length = kd.length; lia, by show kd.length ≤ 3; lia, hin, ⟨v0, v1⟩, ⟨out ra0, out E0, out H0⟩, F.none ra0, F.none E0, F.none H0⟩
  · obtain ⟨t, k'⟩ := z
    cases h with | mk hi hl hk' F T hr =>
    dsimp only at hl hk' T hr
    rw [List.length_nil] at hl hk'
    simp! only []
    refine lU rfl fun a σ2 b1 b2 _ hs => ?_
    obtain ⟨T2, ha⟩ := T.oth b1 b2 hs
    have fa : Fr [] σ' σ2 := hs ▸ Fr.new b2
    simp! only []
    refine hq a a1 a2 a3 a4 a5 a6 t k' σ2 (by lia) (F.trans fa.nil) T2.S.st ha ⟨T2.at 5 rfl, T2.at 4 rfl, T2.at 3 rfl, T2.at 2 rfl, T2.at 1 rfl, T2.at 0 rfl⟩ (fun r h => by rw [hNN]; exact (hr r h).keep fa.nil) hl ⟨F.none b2, fr6 (a1, []) ?_, fr6 (a2, []) ?_, fr6 (a3, []) ?_, fr6 (a4, []) ?_, fr6 (a5, []) ?_, fr6 (a6, []) ?_⟩ T2.S.free
    all_goals simp
end
/-! PR -/
section
variable {X : Cx} {r : Nat}
/-! the objects of the law -/
/-- an object that is being made -/
structure Im (C o d : Addr) (es : List (Nat × V)) (σ0 σ : St) : Prop where
  I : Ini C o d es σ
  F : Fr [d] σ0 σ
theorem Im.put {C o d : Addr} {es : List (Nat × V)} {σ0 σ : St} (M : Im C o d es σ0 σ) (n : Nat) (v : V) (hm : decide ((C, n) ∈ attrT) = true) (hl : decide (es.length < 900) = true) : ∃ σ', setAttrV X σ (.ref o) n v = some σ' ∧ Im C o d (putS n v es) σ0 σ' ∧ ∀ a p, σ a = some p → a ≠ d → σ' a = some p := by
  obtain ⟨σ', e, I, f⟩ := M.I.put (X := X) n v hm hl
  exact ⟨σ', e, ⟨I, M.F.trans f⟩, fun a p h n => f.k1 h n⟩
theorem Im.new {C o d a : Addr} {es : List (Nat × V)} {p : AObj} {σ0 σ s : St} (M : Im C o d es σ0 σ) (h : σ a = none) (hs : s = upd σ a p) : Im C o d es σ0 s ∧ s a = some p ∧ a ≠ d ∧ σ0 a = none ∧ ∀ b q, σ b = some q → s b = some q := by
  subst hs
  exact ⟨⟨M.I.keep0 (Fr.new h), M.F.trans (Fr.new h)⟩, upd_self _ _ _, (ne_of h M.I.dd).symm, M.F.none h, fun b q e => ne_upd h e⟩
inductive T497 : TC
  | mk {σ Q} {v1 v2 v3 v4 v5 v6 : V} (h : ∀ (o d p : Addr) (σ' : St), σ o = none → σ d = none → σ p = none → Fr [] σ σ' → σ' o = some (.inst 497 d) → σ' d = some (.sdict [(144, v1), (145, v2), (146, v3), (147, v4), (149, v5), (150, v6), (151, .ref p)]) → σ' p = some (.list [.int 0]) → Q (.ref o) σ') : T497 [v1, v2, v3, v4, v5, v6] σ Q
theorem c_497 (h6 : 6 ≤ r) : SC X (r + 6) (.ref 497) T497 := D_419.cls (ck_497 _) (init_497 _) (fk_419 X.w.params).isfn (hyN h6) fun vs σ Q h => by
  induction h with | @mk σ Q v1 v2 v3 v4 v5 v6 hq =>
  intro o dp σ0 _ _ n1 n2 hne p1 d1 I0 f0
  refine prI rfl ?_
  obtain ⟨σ1, e1, M1, -⟩ := (Im.mk I0 (.refl _ _)).put (X := X) 144 v1 rfl rfl
  obtain ⟨σ2, e2, M2, -⟩ := M1.put (X := X) 145 v2 rfl rfl
  obtain ⟨σ3, e3, M3, -⟩ := M2.put (X := X) 146 v3 rfl rfl
  obtain ⟨σ4, e4, M4, -⟩ := M3.put (X := X) 147 v4 rfl rfl
  obtain ⟨σ5, e5, M5, -⟩ := M4.put (X := X) 149 v5 rfl rfl
  obtain ⟨σ6, e6, M6, -⟩ := M5.put (X := X) 150 v6 rfl rfl
  simp! only [e1, e2, e3, e4, e5, e6]
  refine lU rfl fun p σ7 _ q2 _ hs => ?_
  obtain ⟨M7, hp, pd, p0, -⟩ := M6.new q2 hs
  obtain ⟨σ8, e8, M8, k8⟩ := M7.put (X := X) 151 (.ref p) rfl rfl
  simp! only [e8]
  exact ⟨rfl, hq o dp p σ8 n1 n2 (f0.none p0) (f0.fresh M8.F n2) M8.I.i M8.I.dd (k8 _ _ hp pd)⟩
inductive T144 : TC
  | mk {σ Q} {v1 v2 v3 v4 v5 v6 v7 : V} (h : ∀ (o d l i : Addr) (σ' : St), σ o = none → σ d = none → σ l = none → σ i = none → l ≠ i → Fr [] σ σ' → σ' o = some (.inst 144 d) → σ' d = some (.sdict [(40, v1), (41, v2), (42, v3), (43, v4), (44, v5), (24, v6), (45, v7), (35, .int 0), (46, .int 0), (47, .ref l)]) → σ' l = some (.list [.ref i]) → σ' i = some (.list []) → Q (.ref o) σ') : T144 [v1, v2, v3, v4, v5, v6, v7] σ Q
theorem c_144 (h6 : 6 ≤ r) : SC X (r + 6) (.ref 144) T144 := D_134.cls (ck_144 _) (init_144 _) (fk_134 X.w.params).isfn (hyN h6) fun vs σ Q h => by
  induction h with | @mk σ Q v1 v2 v3 v4 v5 v6 v7 hq =>
  intro o dp σ0 _ _ n1 n2 hne p1 d1 I0 f0
  refine prI rfl ?_
  obtain ⟨σ1, e1, M1, -⟩ := (Im.mk I0 (.refl _ _)).put (X := X) 40 v1 rfl rfl
  obtain ⟨σ2, e2, M2, -⟩ := M1.put (X := X) 41 v2 rfl rfl
  obtain ⟨σ3, e3, M3, -⟩ := M2.put (X := X) 42 v3 rfl rfl
  obtain ⟨σ4, e4, M4, -⟩ := M3.put (X := X) 43 v4 rfl rfl
  obtain ⟨σ5, e5, M5, -⟩ := M4.put (X := X) 44 v5 rfl rfl
  obtain ⟨σ6, e6, M6, -⟩ := M5.put (X := X) 24 v6 rfl rfl
  obtain ⟨σ7, e7, M7, -⟩ := M6.put (X := X) 45 v7 rfl rfl
  obtain ⟨σ8, e8, M8, -⟩ := M7.put (X := X) 35 (.int 0) rfl rfl
  obtain ⟨σ9, e9, M9, -⟩ := M8.put (X := X) 46 (.int 0) rfl rfl
  simp! only [e1, e2, e3, e4, e5, e6, e7, e8, e9]
  refine lU rfl fun i σa _ q2 _ hs => ?_
  obtain ⟨Ma, hi, id, i0, -⟩ := M9.new q2 hs
  refine lU rfl fun l σb _ s2 _ hs => ?_
  obtain ⟨Mb, hl, ld, l0, kb⟩ := Ma.new s2 hs
  obtain ⟨σc, ec, Mc, kc⟩ := Mb.put (X := X) 47 (.ref l) rfl rfl
  simp! only [ec]
  exact ⟨rfl, hq o dp l i σc n1 n2 (f0.none l0) (f0.none i0) (ne_of s2 hi).symm (f0.fresh Mc.F n2) Mc.I.i Mc.I.dd (kc _ _ hl ld) (kc _ _ (kb _ _ hi) id)⟩
inductive T228 : TC
  | mk {σ Q} {lim : Int} (hl : 1 ≤ lim) (h : ∀ (o d i : Addr) (σ' : St), σ o = none → σ d = none → σ i = none → i ≠ 1 → Fr [] σ σ' → σ' o = some (.inst 228 d) → σ' d = some (.sdict [(62, .int lim), (65, .ref i)]) → σ' i = some (.idict []) → Q (.ref o) σ') : T228 [.int lim] σ Q
theorem c_228 (h6 : 6 ≤ r) : SC X (r + 6) (.ref 228) T228 := D_197.cls (ck_228 _) (init_228 _) (fk_197 X.w.params).isfn (hyN h6) fun vs σ Q h => by
  induction h with | @mk σ Q lim hlim hq =>
  intro o dp σ0 _ _ n1 n2 hne p1 d1 I0 f0
  refine prI rfl ?_
  obtain ⟨σ1, e1, M1, -⟩ := (Im.mk I0 (.refl _ _)).put (X := X) 62 (.int lim) rfl rfl
  simp! only []
  refine iF (by lia) ?_
  simp! only [e1]
  refine mU fun i σ2 _ q2 q3 hs => ?_
  obtain ⟨M2, hi, id, i0, -⟩ := M1.new q2 hs
  obtain ⟨σ3, e3, M3, k3⟩ := M2.put (X := X) 65 (.ref i) rfl rfl
  simp! only [e3]
  exact ⟨rfl, hq o dp i σ3 n1 n2 (f0.none i0) q3 (f0.fresh M3.F n2) M3.I.i M3.I.dd (k3 _ _ hi id)⟩
inductive T270 : TC
  | mk {σ Q} {pl : Nat} (hl : pl ≤ 10) (h : ∀ (o d i j : Addr) (σ' : St), σ o = none → σ d = none → σ i = none → σ j = none → i ≠ j → Fr [] σ σ' → σ' o = some (.inst 270 d) → σ' d = some (.sdict [(77, .int pl), (78, .ref i), (79, .ref j)]) → σ' i = some (.list ((List.replicate pl (0 : Int)).map .int)) → σ' j = some (.list ((List.replicate pl (0 : Int)).map .int)) → Q (.ref o) σ') : T270 [.int pl] σ Q
theorem rep_int (pl : Nat) : (List.replicate pl [V.int 0]).flatten = (List.replicate pl (0 : Int)).map .int := by
  induction pl with
  | zero => rfl
  | succ n ih => rw [List.replicate_succ, List.replicate_succ, List.flatten_cons, ih]; rfl
theorem mL {σ : St} {d : Addr} {pl : Nat} {Q : V → St → Prop} (hb : σ d = some (.list [.int 0])) (hl : pl ≤ 10) (h : ∀ i s, σ i = none → s = upd σ i (.list ((List.replicate pl (0 : Int)).map .int)) → Q (.ref i) s) :
    ∃ d' xs k, V.ref d = .ref d' ∧ V.int pl = .int k ∧ rd X σ d' = some (.list xs) ∧ 0 ≤ k ∧ k ≤ 10000 ∧ xs.length * k.toNat ≤ 10000 ∧ Made X σ (.list (List.replicate k.toNat xs).flatten) Q :=
  ⟨d, _, pl, rfl, rfl, rd_own hb, by lia, by lia, by rw [List.length_singleton]; lia, mU fun i s _ q2 _ hs => h i s q2 (by rw [hs, ← rep_int]; rfl)⟩
theorem c_270 (h6 : 6 ≤ r) : SC X (r + 6) (.ref 270) T270 := D_246.cls (ck_270 _) (init_270 _) (fk_246 X.w.params).isfn (hyN h6) fun vs σ Q h => by
  induction h with | @mk σ Q pl hpl hq =>
  intro o dp σ0 _ _ n1 n2 hne p1 d1 I0 f0
  refine prI rfl ?_
  obtain ⟨σ1, e1, M1, -⟩ := (Im.mk I0 (.refl _ _)).put (X := X) 77 (.int pl) rfl rfl
  simp! only [e1]
  refine lU rfl fun b σ2 _ u2 _ hs => ?_
  obtain ⟨M2, hb, -, -, -⟩ := M1.new u2 hs
  simp! only []
  refine mL hb hpl fun i σ3 q2 hs => ?_
  obtain ⟨M3, hi, id, i0, -⟩ := M2.new q2 hs
  obtain ⟨σ4, e4, M4, k4⟩ := M3.put (X := X) 78 (.ref i) rfl rfl
  simp! only [e4]
  refine lU rfl fun b2 σ5 _ w2 _ hs => ?_
  obtain ⟨M5, hb2, -, -, k5⟩ := M4.new w2 hs
  simp! only []
  refine mL hb2 hpl fun j σ6 y2 hs => ?_
  obtain ⟨M6, hj, jd, j0, k6⟩ := M5.new y2 hs
  have hi5 := k5 _ _ (k4 _ _ hi id)
  obtain ⟨σ7, e7, M7, k7⟩ := M6.put (X := X) 79 (.ref j) rfl rfl
  simp! only [e7]
  exact ⟨rfl, hq o dp i j σ7 n1 n2 (f0.none i0) (f0.none j0) (ne_of y2 hi5) (f0.fresh M7.F n2) M7.I.i M7.I.dd (k7 _ _ (k6 _ _ hi5) id) (k7 _ _ hj jd)⟩
end
/-! PT -/
section
variable {X : Cx} {r : Nat}
noncomputable def U556 (X : Cx) : TC := fun vs σ Q => Free X σ → ∃ i : Cw × Nat, (i.1.Ok ∧ i.2 ≤ 3) ∧ T556 i.1 i.2 vs σ fun v σ' => Free X σ' → Q v σ'
noncomputable def U377 (X : Cx) : TC := fun vs σ Q => Free X σ → ∃ i : Cw × Nat, (i.1.Ok ∧ i.2 ≤ 3) ∧ T377 i.1 i.2 vs σ fun v σ' => Free X σ' → Q v σ'
noncomputable def U204 (X : Cx) : TC := fun vs σ Q => ∃ c : Cw, c.Ok ∧ T204 c vs σ Q
noncomputable def U260 (X : Cx) : TC := fun vs σ Q => ∃ c : Cw, c.Ok ∧ T260 c vs σ Q
noncomputable def US (X : Cx) (T : TC) : TC := fun vs σ Q => Free X σ → T vs σ fun v σ' => Free X σ' → Q v σ'
inductive T561 (X : Cx) : TC
  | mk {σ Q sc} {scr : List Int} (F : Free X σ) (ht : X.τ sc = some (.slist (scr.map .int))) (hl : scr.length < 1000) (h : ∀ σ', Q (.bool true) σ') : T561 X [.ref sc] σ Q
theorem Sx.to {σ σ' : St} {sl sc : Addr} {scr : List Int} {k : Nat} (S : Sx X σ sl sc scr k) (F : Free X σ') (f : Fr [] σ σ') : Sx X σ' sl sc scr k := ⟨F, S.tau, S.len, f.k0 S.st, S.small⟩
/-- what lives, each its own -/
structure Al (os : List Addr) (σ : St) : Prop where
  al : ∀ a ∈ os, σ a ≠ none
  nd : os.Nodup
theorem Al.to {os : List Addr} {N : List Addr} {σ σ' : St} (A : Al os σ) (f : Fr N σ σ') : Al os σ' := ⟨fun a h => f.dom a (A.al a h), A.nd⟩
theorem Al.add {os : List Addr} {N : List Addr} {σ σ' : St} {a : Addr} {o : AObj} (A : Al os σ) (f : Fr N σ σ') (h : σ a = none) (e : σ' a = some o) : Al (a :: os) σ' := by
  refine ⟨fun b hb => ?_, List.nodup_cons.mpr ⟨fun q => A.al a q h, A.nd⟩⟩
  rcases List.mem_cons.mp hb with rfl | hb
  · rw [e]; exact nofun
  · exact f.dom b (A.al b hb)
theorem Al.add2 {os : List Addr} {N : List Addr} {σ σ' : St} {a b : Addr} {o p : AObj} (A : Al os σ) (f : Fr N σ σ') (h : σ a = none) (e : σ' a = some o) (h2 : σ b = none) (e2 : σ' b = some p) (n : b ≠ a) : Al (b :: a :: os) σ' := by
  obtain ⟨x, y⟩ := A.add f h e
  refine ⟨fun c hc => ?_, List.nodup_cons.mpr ⟨fun q => ?_, y⟩⟩
  · rcases List.mem_cons.mp hc with rfl | hc
    · rw [e2]; exact nofun
    · exact x c hc
  · rcases List.mem_cons.mp q with q | q
    · exact n q
    · exact A.al b q h2
theorem nd_ix {C : List Addr} (h : C.Nodup) {ix : List Nat} (n : ix.Nodup) (l : ∀ i ∈ ix, i < C.length) : (ix.map fun i => C.getD i 0).Nodup := by
  unfold List.Nodup at n ⊢
  rw [List.pairwise_map]
  refine n.imp_of_mem fun {a b} ha hb q e => q ?_
  have la := l a ha
  have lb := l b hb
  rw [List.getD_eq_getElem?_getD, List.getD_eq_getElem?_getD, List.getElem?_eq_getElem la, List.getElem?_eq_getElem lb] at e
  exact (List.getElem_inj h).mp e
theorem mem_ix {C : List Addr} {ix : List Nat} (l : ∀ i ∈ ix, i < C.length) {m : Addr} (h : m ∈ ix.map fun i => C.getD i 0) : m ∈ C := by
  obtain ⟨i, hi, rfl⟩ := List.mem_map.mp h
  rw [List.getD_eq_getElem?_getD, List.getElem?_eq_getElem (l i hi)]
  exact List.getElem_mem _
/-- what kind of object it is -/
noncomputable def tagO : Option AObj → Nat
  | some (.inst _ _) => 1
  | some (.list _) => 2
  | some (.idict _) => 4
  | some (.pdict _) => 5
  | some (.sdict ((n, _) :: _)) => n + 10
  | _ => 3
theorem ml_mc {c : Cw} (ok : c.Ok) {m : Addr} (hm : m = c.world ∨ m = c.past ∨ m = c.kills ∨ m = c.state) : m ∉ c.MC := fun hm' => by
  obtain ⟨-, -, -, -, -, -, -, h, -⟩ := nd10 ok.nd
  obtain ⟨q1, q2, q3, q4, q5, q6⟩ := h m hm
  unfold Cw.MC at hm'
  simp only [List.mem_cons, List.not_mem_nil, or_false] at hm'
  rcases hm' with h | h | h | h | h | h
  · exact q1 h
  · exact q2 h
  · exact q3 h
  · exact q4 h
  · exact q5 h
  · exact q6 h
theorem ml_or {c : Cw} {m : Addr} (hm : m ∈ c.ML) : m = c.world ∨ m = c.past ∨ m = c.kills ∨ m = c.state := by
  unfold Cw.ML at hm
  simp only [List.mem_cons, List.not_mem_nil, or_false] at hm
  rcases hm with h | h | h
  · exact .inl h
  · exact .inr (.inl h)
  · exact .inr (.inr (.inl h))
theorem st_m {c : Cw} : c.state ∈ c.M := by simp [Cw.M]
theorem st_ml {c : Cw} (ok : c.Ok) : c.state ∉ c.ML := fun h => by
  obtain ⟨-, -, -, -, -, -, -, -, y1, y2, y3⟩ := nd10 ok.nd
  unfold Cw.ML at h
  simp only [List.mem_cons, List.not_mem_nil, or_false] at h
  rcases h with h | h | h
  · exact y1 h
  · exact y2 h
  · exact y3 h
theorem ls_m {c : Cw} {s : LS} {ls : List Addr} {τ : St} (G : GoodC c ⟨s, 0, [0], ls⟩ τ) {m : Addr} (hm : m ∈ c.M) : m ∉ ls := fun h => by
  obtain ⟨i, hi⟩ := List.mem_iff_getElem?.mp h
  exact (G.inner i m hi).1 hm
/-- a pull leaves the worlds -/
theorem pres {c : Cw} (ok : c.Ok) {s : LS} {ls ow : List Addr} {τ τ' : St} (G : GoodC c ⟨s, 0, [0], ls⟩ τ) (H : GoodL c s ow τ) (h : ∀ m ∈ c.M, m ∉ ow) (f : Fr [c.state] τ τ') : GoodC c ⟨s, 0, [0], ls⟩ τ' ∧ GoodL c s ow τ' :=
  ⟨G.keep f (all1 (p := fun x => x ∉ c.MC ∧ c.F x = none ∧ x ∉ ls) ⟨ml_mc ok (.inr (.inr (.inr rfl))), ok.none _ st_m, ls_m G st_m⟩), H.keep f (all1 (p := fun x => x ∉ c.ML ∧ c.F x = none ∧ x ∉ ow) ⟨st_ml ok, ok.none _ st_m, h _ st_m⟩)⟩
inductive I561a (X : Cx) (σ0 : St) (sl sc : Addr) (scr : List Int) (k pl : Nat) (ka : Addr) (is : List Nat) (as : List Addr) (z : Unit) (τ : St) : Prop
  | mk (hl : as.length + is.length = pl) (f : Fr [] σ0 τ) (hk : τ ka = some (.list (as.map .ref))) (S : Sx X τ sl sc scr k) (k0 : σ0 ka = none) (all : ∀ a ∈ as, σ0 a = none ∧ a ≠ ka ∧ τ a = some (.list [.int 0, .int 0]))
inductive I561 (X : Cx) (c : Cw) (sl sc : Addr) (scr : List Int) (is : List Nat) (z : (LS × List Addr) × (List Addr × Nat)) (τ : St) : Prop
  | mk (GC : GoodC c ⟨z.1.1, 0, [0], z.1.2⟩ τ) (GL : GoodL c z.1.1 z.2.1 τ) (S : Sx X τ sl sc scr z.2.2) (hM : ∀ m ∈ c.M, m ∉ z.2.1) (hk : z.2.2 + 5 * is.length ≤ 300)
inductive J561 (σ0 : St) (tp : Addr) (l : List V) (P : Int → Prop) (ss : List Int) (z : Unit) (τ : St) : Prop
  | mk (hs : ∀ x ∈ ss, P x) (f : Fr [] σ0 τ) (h : τ tp = some (.tup l))
inductive K561 (σ0 : St) (s : LS) (pl : Nat) (D : Addr) (is : List Nat) (bs : List Addr) (z : List Nat) (τ : St) : Prop
  | mk (hl : z ++ is = List.range pl) (hb : bs.length = z.length) (f : Fr [] σ0 τ) (hD : τ D = some (.list (bs.map .ref))) (D0 : σ0 D = none) (all : ∀ (i : Nat) (a : Addr), bs[i]? = some a → a ≠ D ∧ τ a = some (.list [.int (s.k1.getD i 0), .int (s.k2.getD i 0)]))
theorem c_561 (h6 : 6 ≤ r) (c_527 : SC X r (.ref 527) (T527 X)) (c_515 : SC X r (.ref 515) (T515 X)) (c_508 : SC X r (.ref 508) (T508 X)) (c_497 : SC X r (.ref 497) (US X T497)) (c_144 : SC X r (.ref 144) (US X T144)) (c_270 : SC X r (.ref 270) (US X T270)) (c_228 : SC X r (.ref 228) (US X T228)) (c_556 : SC X r (.ref 556) (U556 X)) (c_377 : SC X r (.ref 377) (U377 X)) (c_204 : SC X r (.ref 204) (U204 X)) (c_260 : SC X r (.ref 260) (U260 X)) : SC X (r + 3) (.ref 561) (T561 X) := by
  refine wG11 [(527, _), (515, _), (508, _), (497, _), (144, _), (270, _), (228, _), (556, _), (377, _), (204, _), (260, _)] (hyC c_527 (hyC c_515 (hyC c_508 (hyC c_497 (hyC c_144 (hyC c_270 (hyC c_228 (hyC c_556 (hyC c_377 (hyC c_204 (hyC c_260 (hyN h6)))))))))))) (fun Γ H (e527 : Γ 527 = T527 X) (e515 : Γ 515 = T515 X) (e508 : Γ 508 = T508 X) (e497 : Γ 497 = US X T497) (e144 : Γ 144 = US X T144) (e270 : Γ 270 = US X T270) (e228 : Γ 228 = US X T228) (e556 : Γ 556 = U556 X) (e377 : Γ 377 = U377 X) (e204 : Γ 204 = U204 X) (e260 : Γ 260 = U260 X) => ?_) rfl rfl rfl rfl rfl rfl rfl rfl rfl rfl rfl
  refine D_561.run H fun vs σ Q h => ?_
  induction h with | @mk σ Q sc scr F0 htau hlen hq =>
  refine prI rfl ?_
  simp! only []
  refine lU rfl fun sl σ1 r1 n1 _ hs => ?_
  have S1 : Sx X σ1 sl sc scr 0 := ⟨hs ▸ F0.new r1, htau, hlen, hs ▸ upd_self _ _ _, by decide⟩
  simp! only []
  refine cS e515 ⟨S1, by decide, by decide, fun sz σ2 s0 s1 S2 _ => ?_⟩
  obtain ⟨size, hsize⟩ : ∃ n : Nat, 3 + sz = (n : Int) := ⟨(3 + sz).toNat, by lia⟩
  simp! only []
  rw [hsize]
  refine cS e527 ⟨S2, by decide, by lia, by lia, ?_⟩
  intro ta a1 a2 a3 a4 a5 a6 t k3 σ3 hk3 f3 e3 hta s6 hrows ht fresh F3
  have S3 : Sx X σ3 sl sc scr k3 := ⟨F3, htau, hlen, e3, by lia⟩
  simp! only []
  refine cS e515 ⟨S3, by lia, by decide, fun left σ4 l0 l1 S4 g4 => ?_⟩
  simp! only []
  refine cS e515 ⟨S4, by lia, by decide, fun plI σ5 p0 p1 S5 g5 => ?_⟩
  obtain ⟨pl, hpl⟩ : ∃ pl : Nat, 1 + plI = (pl : Int) := ⟨(1 + plI).toNat, by lia⟩
  have pl1 : 1 ≤ pl := by lia
  have pl4 : pl ≤ 4 := by lia
  simp! only []
  rw [hpl]
  refine cS e515 ⟨S5, by lia, by decide, fun lmI σ6 m0 m1 S6 g6 => ?_⟩
  simp! only []
  obtain ⟨lim, hlim⟩ : ∃ l : Int, 1 + lmI = l := ⟨_, rfl⟩
  rw [hlim]
  have G36 : Fr [sl] σ3 σ6 := g4.trans (g5.trans g6)
  intro wa w1 w2 _
  generalize hs : upd σ6 wa (.sdict []) = σ7
  obtain ⟨S7, f7, e7⟩ := S6.new w1 w2 hs.symm
  simp! only []
  refine mU fun pa σ8 q1 q2 hpa1 hs => ?_
  obtain ⟨S8, f8, e8⟩ := S7.new q1 q2 hs
  simp! only []
  refine Mine.r1 (mU fun ga σ9 g1 g2 _ hs => ?_)
  obtain ⟨S9, f9, e9⟩ := S8.new g1 g2 hs
  simp! only []
  refine cM (src := .range 0 pl) (fun i : Nat => V.int (0 + (i : Int))) V.ref (I561a X σ9 sl sc scr (k3 + 1 + 1 + 1) pl) (List.range pl) () ⟨by rw [rd_own e9, Int.zero_add], by decide, by lia⟩ rfl rfl (by rw [List.length_range]; lia) (fun D s x1 x2 _ hs => ?_)
    (fun D is as _ τ h => ?_) (fun D i is as _ τ h => ?_) (fun ka as _ σ10 h => ?_)
  · obtain ⟨S', f', e'⟩ := S9.new x1 x2 hs
    exact .mk (by simp) f' e' S' x2 fun a h => by cases h
  · cases h with | mk hl f hk S _ _ => exact ⟨rfl, hk, by rw [List.length_map, List.length_range]; lia⟩
  · cases h with | mk hl f hk S k0 all =>
    rw [List.length_cons] at hl
    simp! only []
    refine lU rfl fun b s b1 b2 _ hs => ?_
    obtain ⟨Sb, fb, eb⟩ := S.new b1 b2 hs
    have hk' := fb.k0 hk
    have nb : b ≠ D := (ne_of b2 hk).symm
    refine cT b () hk' (.mk (by rw [List.length_append, List.length_singleton]; lia) ((f.trans fb).fresh Fr.u1 k0) (by rw [List.map_append]; exact upd_self _ _ _) (Sb.put hk' (ne_of k0 S9.st)) k0 fun x hx => ?_)
    rcases List.mem_append.mp hx with hx | hx
    · obtain ⟨x1, x2, x3⟩ := all x hx
      exact ⟨x1, x2, (upd_ne x2).trans (fb.k0 x3)⟩
    · rw [List.mem_singleton] at hx; subst hx
      exact ⟨f.none b2, nb, (upd_ne nb).trans eb⟩
  cases h with | mk hl f10 hka S10 k2 hall =>
  rw [List.length_nil, Nat.add_zero] at hl
  have f910 : Fr [] σ8 σ10 := f9.trans f10
  have f79 : Fr [] σ7 σ10 := f8.trans f910
  have wa10 := f79.k0 e7
  simp! only []
  refine ⟨wa10, ?_⟩
  have S11 := S10.put (o := .sdict [(175, .ref ta), (97, .int left), (62, .int lim), (178, .ref pa), (176, .ref ka), (181, .int 0)]) wa10 (ne_of w2 S6.st)
  have f11 : Fr [wa] σ10 (upd σ10 wa (.sdict [(175, .ref ta), (97, .int left), (62, .int lim), (178, .ref pa), (176, .ref ka), (181, .int 0)])) := Fr.u1
  have e11 := upd_self σ10 wa (.sdict [(175, V.ref ta), (97, .int left), (62, .int lim), (178, .ref pa), (176, .ref ka), (181, .int 0)])
  show go X Γ _ _ (upd σ10 wa (.sdict [(175, V.ref ta), (97, .int left), (62, .int lim), (178, .ref pa), (176, .ref ka), (181, .int 0)])) _
  generalize (upd σ10 wa (.sdict [(175, V.ref ta), (97, .int left), (62, .int lim), (178, .ref pa), (176, .ref ka), (181, .int 0)])) = σ11 at S11 f11 e11 ⊢
  have f611 : Fr [] σ6 σ11 := (f7.trans f79).fresh f11 w2
  have f311 : Fr [sl] σ3 σ11 := G36.trans f611.nil
  have ta11 := f311.k1 hta (ne_of fresh.1 S2.st).symm
  have tg : ∀ (i : Nat) (v : V), [V.ref a1, .ref a2, .ref a3, .ref a4, .ref a5, .ref a6][i]? = some v → getV X σ11 (.ref ta) (.int (i : Int)) = some v := fun i v h => get_nat ta11 (by have : i < 6 := (List.getElem?_eq_some_iff.mp h).1; lia) h
  simp! only [tg 0 _ rfl, tg 1 _ rfl, tg 2 _ rfl, tg 3 _ rfl, tg 4 _ rfl, tg 5 _ rfl]
  refine cS e497 fun _ => ⟨fun go gd gp σ12 b1 b2 b3 f12 c1 c2 c3 F12 => ?_⟩
  simp! only []
  refine cS e270 fun _ => ⟨by lia, fun ko kd ki kj σ13 b4 b5 b6 b7 nkij f13 c4 c5 c6 c7 F13 => ?_⟩
  simp! only []
  refine cS e228 fun _ => ⟨by lia, fun ho hd hi σ14 b8 b9 b10 hi1 f14 c8 c9 c10 F14 => ?_⟩
  simp! only []
  refine cS e144 fun _ => ⟨fun co cd cl ci σ15 b11 b12 b13 b14 ncl f15 c11 c12 c13 c14 F15 => ?_⟩
  have f1315 := f14.trans f15
  have f1215 := f13.trans f1315
  have f1115 := f12.trans f1215
  have f315 : Fr [sl] σ3 σ15 := f311.trans f1115.nil
  have S15 := S11.to F15 f1115
  have vgp := f1215.k0 c3
  have vgo := f1215.k0 c1
  have vgd := f1215.k0 c2
  have vko := f1315.k0 c4
  have vkd := f1315.k0 c5
  have vki := f1315.k0 c6
  have vkj := f1315.k0 c7
  have vho := f15.k0 c8
  have vhd := f15.k0 c9
  have vhi := f15.k0 c10
  have vwa := f1115.k0 e11
  have vpa := f1115.k0 (f11.k1 (f910.k0 e8) (ne_of q2 e7).symm)
  have wa9 := (f8.trans f9).k0 e7
  have ka11 := f11.k1 hka (ne_of k2 wa9).symm
  have vka := f1115.k0 ka11
  -- what is apart
  have A6 : Al [sl] σ6 := ⟨fun a h => by rw [List.mem_singleton.mp h, S6.st]; exact nofun, List.pairwise_singleton _ _⟩
  have A10 := (((A6.add f7 w2 e7).add f8 q2 e8).to f9).add f10 k2 hka
  have A14 := (((A10.to f11).add f12 b3 c3).add2 f13 b6 c6 b7 c7 nkij.symm).add f14 b10 c10
  have A15 := A14.add2 f15 b12 c12 b13 c13 fun q => by rw [q, c12] at c13; cases c13
  have l10 : ∀ i ∈ [5, 1, 0, 4, 3, 2, 8, 7, 6, 9], i < [cl, cd, hi, kj, ki, gp, ka, pa, wa, sl].length := by
    show ∀ i ∈ [5, 1, 0, 4, 3, 2, 8, 7, 6, 9], i < 10
    decide
  have nd : [gp, cd, cl, ki, kj, hi, wa, pa, ka, sl].Nodup := nd_ix A15.nd (ix := [5, 1, 0, 4, 3, 2, 8, 7, 6, 9]) (by decide) l10
  have inC : ∀ {m}, m ∈ [gp, cd, cl, ki, kj, hi, wa, pa, ka, sl] → m ∈ [cl, cd, hi, kj, ki, gp, ka, pa, wa, sl] := fun {m} h => mem_ix (ix := [5, 1, 0, 4, 3, 2, 8, 7, 6, 9]) l10 h
  have slM : sl ∈ [gp, cd, cl, ki, kj, hi, wa, pa, ka, sl] := by simp
  have kind : ∀ m ∈ [cl, cd, hi, kj, ki, gp, ka, pa, wa, sl], [2, 4, 5, 50, 185].contains (tagO (σ15 m)) = true := by
    intro m hm
    simp only [List.mem_cons, List.not_mem_nil, or_false] at hm
    rcases hm with h | h | h | h | h | h | h | h | h | h <;> rw [h]
    · rw [c13]; rfl
    · rw [c12]; rfl
    · rw [vhi]; rfl
    · rw [vkj]; rfl
    · rw [vki]; rfl
    · rw [vgp]; rfl
    · rw [vka]; rfl
    · rw [vpa]; rfl
    · rw [vwa]; rfl
    · rw [S15.st]; rfl
  have new : ∀ m ∈ [cl, cd, hi, kj, ki, gp, ka, pa, wa, sl], m ∈ [ka, pa, wa, sl] ∨ σ11 m = none := by
    intro m hm
    rcases List.mem_cons.mp hm with h | hm
    · exact .inr (h ▸ f12.none (f13.none (f14.none b13)))
    rcases List.mem_cons.mp hm with h | hm
    · exact .inr (h ▸ f12.none (f13.none (f14.none b12)))
    rcases List.mem_cons.mp hm with h | hm
    · exact .inr (h ▸ f12.none (f13.none b10))
    rcases List.mem_cons.mp hm with h | hm
    · exact .inr (h ▸ f12.none b7)
    rcases List.mem_cons.mp hm with h | hm
    · exact .inr (h ▸ f12.none b6)
    rcases List.mem_cons.mp hm with h | hm
    · exact .inr (h ▸ b3)
    · exact .inl hm
  have old3 : ∀ m ∈ [ka, pa, wa, sl], m = sl ∨ σ3 m = none := by
    intro m hm
    rcases List.mem_cons.mp hm with h | hm
    · exact .inr (h ▸ G36.none (f7.none (f8.none (f9.none k2))))
    rcases List.mem_cons.mp hm with h | hm
    · exact .inr (h ▸ G36.none (f7.none q2))
    rcases List.mem_cons.mp hm with h | hm
    · exact .inr (h ▸ G36.none w2)
    · exact .inl (List.mem_singleton.mp hm)
  have mT : ∀ {x}, [2, 4, 5, 50, 185].contains (tagO (σ15 x)) = false → x ∉ [gp, cd, cl, ki, kj, hi, wa, pa, ka, sl] := fun h hm => by rw [kind _ (inC hm)] at h; cases h
  have m3 : ∀ {x o}, σ3 x = some o → x ≠ sl → x ∉ [gp, cd, cl, ki, kj, hi, wa, pa, ka, sl] := fun {x o} h hx hm => by
    have : σ3 x = none := (new x (inC hm)).elim (fun h => (old3 x h).elim (fun e => absurd e hx) id) fun h => f311.none h
    rw [this] at h; cases h
  have ciM : ci ∉ [gp, cd, cl, ki, kj, hi, wa, pa, ka, sl] := fun hm => by
    rcases List.mem_cons.mp (inC hm) with h | hm
    · exact ncl h.symm
    rcases List.mem_cons.mp hm with h | hm
    · rw [h, c12] at c14; cases c14
    · exact A14.al ci hm b14
  have asM : ∀ a ∈ as, a ∉ [gp, cd, cl, ki, kj, hi, wa, pa, ka, sl] ∧ σ15 a = some (.list [.int 0, .int 0]) := by
    intro a ha
    obtain ⟨x1, x2, x3⟩ := hall a ha
    have a11 := f11.k1 x3 (ne_of x1 wa9).symm
    refine ⟨fun hm => ?_, f1115.k0 a11⟩
    rcases new a (inC hm) with h | h
    · rcases List.mem_cons.mp h with h | h
      · exact x2 h
      · exact (((A6.add f7 w2 e7).add f8 q2 e8).to f9).al a h x1
    · rw [a11] at h; cases h
  generalize hMM : [gp, cd, cl, ki, kj, hi, wa, pa, ka, sl] = M at nd slM mT m3 ciM asM
  have alM : ∀ m ∈ M, σ15 m ≠ none := fun m hm => A15.al m (inC (hMM ▸ hm))
  obtain ⟨c, hc⟩ : ∃ c : Cw, c = { F := fun a => if a ∈ M then none else σ15 a, t := t, game := go, dgame := gd, kids := a1, vals := a2, chks := a3, drws := a4, louds := a5, gains := a6, path := gp, ctx := co, dctx := cd, lines := cl, kil := ko, dkil := kd, first := ki, second := kj, his := ho, dhis := hd, scores := hi, tree := ta, world := wa, past := pa, kills := ka, state := sl, plies := pl, limit := lim, left := left } := ⟨_, rfl⟩
  have cM : c.M = M := by rw [hc, ← hMM]; rfl
  have cF : ∀ a, c.F a = if a ∈ M then none else σ15 a := fun a => by rw [hc]
  have hF : ∀ {x : Addr} {o : AObj}, σ15 x = some o → x ∉ M → c.F x = some o := fun {x o} h hx => by rw [cF, if_neg hx]; exact h
  have hK : ∀ {x : Addr} {o : AObj}, σ15 x = some o → [2, 4, 5, 50, 185].contains (tagO (some o)) = false → c.F x = some o := fun {x o} h hx => hF h (mT (by rw [h]; exact hx))
  have hT : ∀ {x : Addr} {l : List V}, σ3 x = some (.list l) → σ2 x = none → c.F x = some (.list l) := fun h hx => hF (f315.k1 h (ne_of hx S2.st).symm) (m3 h (ne_of hx S2.st).symm)
  obtain ⟨fr0, fr1, fr2, fr3, fr4, fr5, fr6⟩ := fresh
  have ok : c.Ok := by
    have rows : ∀ r ∈ t, RowOk c r := fun r hr => by
      have R := hrows r hr
      exact ⟨hT R.ka R.f0.1, hT R.la R.f0.2.1, hT R.ga R.f0.2.2, R.ln, R.gn, R.few, fun k hk => by rw [show c.t = t by rw [hc], ht]; exact R.inn k hk, R.vb⟩
    have nn : ∀ m ∈ M, c.F m = none := fun m hm => by rw [cF, if_pos hm]
    rw [← cM] at nn nd
    have p1 := hK vgo rfl
    have p2 := hK vgd rfl
    have p3 := hK c11 rfl
    have p4 := hK vko rfl
    have p5 := hK vkd rfl
    have p6 := hK vho rfl
    have p7 := hK vhd rfl
    have p8 := hT hta fr0
    have p9 := hT s6.e1 fr1
    have p10 := hT s6.e2 fr2
    have p11 := hT s6.e3 fr3
    have p12 := hT s6.e4 fr4
    have p13 := hT s6.e5 fr5
    have p14 := hT s6.e6 fr6
    clear hF hT hK cF cM
    subst hc
    exact ⟨p1, p2, p9, p10, p11, p12, p13, p14, p3, p4, p5, p6, p7, p8, rows, pl1, pl4, (by show 1 ≤ lim; lia), (by show lim ≤ 200; lia), l0, (by show left ≤ 1; lia), (by show 1 ≤ t.length; lia), (by show t.length ≤ 7; lia), hi1, hpa1, nn, nd⟩
  have fixC : ∀ a o, c.F a = some o → σ15 a = some o := fun a o h => by
    rw [cF] at h
    split at h
    · cases h
    · exact h
  obtain ⟨s0', hs0⟩ : ∃ s : LS, s = ⟨0, fun _ _ => 0, List.replicate pl 0, List.replicate pl 0⟩ := ⟨_, rfl⟩
  rw [← cM] at ciM alM asM slM
  have GC0 : GoodC c ⟨s0', 0, [0], [ci]⟩ σ15 := by
    have inn : ∀ (i : Nat) (a : Addr), [ci][i]? = some a → a ∉ c.M ∧ ∃ xs, σ15 a = some (.list xs) ∧ xs.length + i ≤ 10 := fun i a h => by
      cases i with
      | zero => cases h; exact ⟨ciM, [], c14, by decide⟩
      | succ i => cases h
    have sc0 : ScoresOk [] (fun _ _ => 0) := ⟨List.nodup_nil, fun k hk => (by cases hk), fun _ _ _ _ _ _ => rfl⟩
    have rl : (List.replicate pl (0 : Int)).length = pl := List.length_replicate
    clear hF hT hK cF cM
    subst hc hs0
    exact ⟨fixC, c12, vgp, (by show 1 ≤ 100; decide), c13, (by show 1 ≤ 10; decide), inn, vki, vkj, rl, rl, ⟨[], vhi, sc0⟩, alM⟩
  have GL0 : GoodL c s0' as σ15 := by
    have pst : PastOk [] (fun _ _ => 0) := ⟨List.nodup_nil, fun k hk => (by cases hk), fun _ _ _ _ _ _ => rfl⟩
    have er : ∀ i, (List.replicate pl (0 : Int)).getD i 0 = 0 := fun i => by
      rw [List.getD_eq_getElem?_getD, List.getElem?_replicate]; split <;> rfl
    have kl : ∀ (i : Nat) (a : Addr), as[i]? = some a → a ∈ as ∧ a ∉ c.M ∧ σ15 a = some (.list [.int (s0'.k1.getD i 0), .int (s0'.k2.getD i 0)]) := fun i a h => by
      have ha := List.mem_of_getElem? h
      refine ⟨ha, (asM a ha).1, ?_⟩
      rw [hs0, (asM a ha).2]
      dsimp only
      rw [er]
    have oal : ∀ a ∈ as, σ15 a ≠ none := fun a ha => by rw [(asM a ha).2]; exact nofun
    have rl : (List.replicate pl (0 : Int)).length = pl := List.length_replicate
    clear hF hT hK cF cM
    subst hc hs0
    exact ⟨fixC, vwa, ⟨[], vpa, pst, fun e he => (by cases he)⟩, ⟨as, vka, hl, kl⟩, rl, rl, alM, oal⟩
  have owM : ∀ m ∈ c.M, m ∉ as := fun m hm h => (asM m h).1 hm
  obtain ⟨w0, hw0⟩ : ∃ w, c.t[0]? = some w := ⟨c.t[0]'(by have := ok.t1; lia), List.getElem?_eq_getElem _⟩
  have csl : sl = c.state := by rw [hc]
  have cwa : wa = c.world := by rw [hc]
  have cco : co = c.ctx := by rw [hc]
  have cpl : pl = c.plies := by rw [hc]
  clear hF hT hK cF cM alM asM ciM mT m3 kind new old3 inC nd A6 A10 A14 A15 hc fixC
  subst csl cwa cco cpl
  refine Mine.r1 (mU fun gb σ16 d1 d2 _ hs => ?_)
  obtain ⟨S16, f16, e16⟩ := S15.new d1 d2 hs
  simp! only []
  refine fM (src := .range 0 2) (fun i : Nat => V.int (0 + (i : Int))) (fun _ : (LS × List Addr) × (List Addr × Nat) => [(158, .ref sc), (157, .ref c.state), (175, .ref ta), (97, .int left), (77, .int c.plies), (62, .int lim), (174, .ref c.world), (40, .ref go), (50, .ref c.ctx)]) (I561 X c c.state sc scr) (List.range 2) ((s0', [ci]), (as, k3 + 1 + 1 + 1)) ⟨by rw [rd_own e16]; rfl, by decide, by decide⟩ rfl rfl
    (.mk (GC0.keep0 f16) (GL0.keep0 f16) S16 owM (by show k3 + 1 + 1 + 1 + 5 * 2 ≤ 300; lia)) (fun _ _ _ _ => rfl) (fun i is z τ h => ?_) fun z τ h => ?_
  · obtain ⟨⟨s, ls⟩, ⟨ow, k⟩⟩ := z
    cases h with | mk GC GL S hM hk =>
    dsimp only at GC GL S hM hk
    rw [List.length_cons] at hk
    simp! only []
    refine cS e515 ⟨S, by lia, by decide, fun dpI τa dp0 dp1 Sa fa => ?_⟩
    obtain ⟨Ca, La⟩ := pres ok GC GL hM fa
    obtain ⟨dp, hdp⟩ : ∃ dp : Nat, dpI = (dp : Int) := ⟨dpI.toNat, by lia⟩
    subst hdp
    simp! only []
    refine cS e515 ⟨Sa, by lia, by decide, fun mnI τb _ _ Sb fb => ?_⟩
    obtain ⟨Cb, Lb⟩ := pres ok Ca La hM fb
    simp! only []
    refine cS e508 ⟨Sb, by lia, fun low τc Sc fc => ?_⟩
    obtain ⟨Cc, Lc⟩ := pres ok Cb Lb hM fc
    simp! only []
    refine cS e508 ⟨Sc, by lia, fun hx τd Sd fd => ?_⟩
    obtain ⟨Cd, Ld⟩ := pres ok Cc Lc hM fd
    simp! only []
    obtain ⟨high, hhigh⟩ : ∃ h : Int, low + 1 + (if hx < 0 then -hx else hx) = h := ⟨_, rfl⟩
    have hlt : low < high := by rw [← hhigh]; split <;> lia
    rw [hhigh]
    -- the law's own
    refine cS e556 fun _ => ⟨(c, dp), ⟨ok, by lia⟩, T556.mk (n := 0) (ply := 0) rfl rfl Ld hw0 (by lia) (by lia) fun ow2 τe n2' G2 fe Fe => ?_⟩
    have C2 : GoodC c ⟨s, 0, [0], ls⟩ τe := Cd.keep fe fun m hm => ⟨ml_mc ok (ml_or hm), ok.none _ (ml_m hm), ls_m Cd (ml_m hm)⟩
    have hM2 : ∀ m ∈ c.M, m ∉ ow2 := fun m hm h => (n2' m h).elim (hM m hm) fun e => Ld.al m hm e
    have Se : Sx X τe c.state sc scr _ := ⟨Fe, Sd.tau, Sd.len, fe.keep _ _ Sd.st (st_ml ok), Sd.small⟩
    simp! only []
    -- the code's
    refine cS e377 fun _ => ⟨(c, dp), ⟨ok, by lia⟩, T377.mk (p := []) (n := 0) rfl rfl C2 ⟨rfl, hw0⟩ (by show 0 + dp ≤ 4; lia) (by lia) hlt fun ls2 m1' m2' m3' τf C3 ff Ff => ?_⟩
    have G3 := G2.keep ff fun m hm => ⟨fun h => ml_mc ok (ml_or h) hm, ok.none _ (mc_m hm), hM2 _ (mc_m hm)⟩
    have Sf : Sx X τf c.state sc scr _ := ⟨Ff, Sd.tau, Sd.len, ff.keep _ _ Se.st (ml_mc ok (.inr (.inr (.inr rfl)))), Sd.small⟩
    dsimp only [List.length_nil] at C3 G3 ⊢
    generalize seekM c.t c.left.toNat c.limit dp 0 0 low high s = R at G3 C3 ⊢
    simp! only []
    refine iF (fun h => h rfl) ?_
    simp! only [C3.ctxs ok rfl, G3.w_at rfl]
    refine iF (fun h => h rfl) ?_
    simp! only []
    exact jM is ((R.2, ls2), (ow2, _)) (by repeat first | exact Sub.nil _ | refine Sub.cons rfl ?_) (.mk C3 G3 Sf hM2 (by dsimp only; lia))
  · obtain ⟨⟨s, ls⟩, ⟨ow, k⟩⟩ := z
    cases h with | mk GC GL S hM hk =>
    dsimp only at GC GL S hM hk
    simp! only []
    refine tU rfl fun tp τ1 _ t2' _ hs => ?_
    have f17 : Fr [] τ τ1 := hs ▸ Fr.new t2'
    have htp : τ1 tp = some (.tup [.int 0, .int 1]) := hs ▸ upd_self _ _ _
    simp! only []
    refine fM (src := .tup tp) V.int (fun _ : Unit => [(158, .ref sc), (157, .ref c.state), (175, .ref ta), (97, .int left), (77, .int c.plies), (62, .int lim), (174, .ref c.world), (40, .ref go), (50, .ref c.ctx)]) (J561 τ tp [.int 0, .int 1] fun x => 0 ≤ x ∧ x ≤ 1) [0, 1] () rfl rfl rfl (.mk (by decide) f17 htp) (fun _ _ _ h => by cases h with | mk _ _ h => exact rd_own h) (fun side ss _ τ' h => ?_) fun _ τ' h => ?_
    · cases h with | mk hss f3' htp' =>
      obtain ⟨sd0, sd1⟩ := hss side List.mem_cons_self
      simp! only []
      refine tU rfl fun tq τ2 _ x2 _ hs => ?_
      have f18 : Fr [] τ' τ2 := hs ▸ Fr.new x2
      have htq : τ2 tq = some (.tup [.int 1, .int 2, .int 3]) := hs ▸ upd_self _ _ _
      simp! only []
      refine fM (src := .tup tq) V.int (fun _ : Unit => [(158, .ref sc), (157, .ref c.state), (175, .ref ta), (97, .int left), (77, .int c.plies), (62, .int lim), (174, .ref c.world), (40, .ref go), (50, .ref c.ctx), (67, .int side)]) (J561 τ' tq [.int 1, .int 2, .int 3] fun x => 1 ≤ x ∧ x ≤ 3) [1, 2, 3] () rfl rfl rfl (.mk (by decide) f18 htq) (fun _ _ _ h => by cases h with | mk _ _ h => exact rd_own h) (fun m ms _ τ'' h => ?_) fun _ τ'' h => ?_
      · cases h with | mk hms f4' htq' =>
        obtain ⟨mv0, mv1⟩ := hms m List.mem_cons_self
        have C4 := (GC.keep0 f3').keep0 f4'
        have G4 := (GL.keep0 f3').keep0 f4'
        simp! only [C4.ctxs ok rfl]
        refine mS (C4.m_his ok rfl) e204 ⟨c, ok, T204.mk C4 sd0 sd1 mv0 mv1 ?_⟩
        simp! only [G4.w_at rfl]
        refine G4.gS ok ?_
        simp! only []
        refine tU rfl fun kb τ3 _ k2' _ hs => ?_
        have fk : Fr [] τ'' τ3 := hs ▸ Fr.new k2'
        have hkb : τ3 kb = some (.tup [.int side, .int m]) := hs ▸ upd_self _ _ _
        simp! only []
        refine (G4.keep0 fk).gQ hkb sd0 sd1 mv0 mv1 fun es ee => ?_
        rw [ee]
        simp! only []
        refine iF (fun h => h rfl) ?_
        simp! only []
        exact jM ms () (by repeat first | exact Sub.nil _ | refine Sub.cons rfl ?_) (.mk (fun x hx => hms x (List.mem_cons_of_mem _ hx)) (f4'.trans fk) (fk.k0 htq'))
      · cases h with | mk hms f4' htq' =>
        simp! only []
        exact jM ss () (by repeat first | exact Sub.nil _ | refine Sub.cons rfl ?_) (.mk (fun x hx => hss x (List.mem_cons_of_mem _ hx)) (f3'.trans f4') (f4'.k0 htp'))
    · cases h with | mk hss f3' htp' =>
      have C4 := GC.keep0 f3'
      have G4 := GL.keep0 f3'
      simp! only []
      refine Mine.r1 (mU fun gc τ4 _ u2 _ hs => ?_)
      have f19 : Fr [] τ' τ4 := hs ▸ Fr.new u2
      have e19 : τ4 gc = some (.range 0 c.plies) := hs ▸ upd_self _ _ _
      have C5 := C4.keep0 f19
      have G5 := G4.keep0 f19
      simp! only []
      refine cM (src := .range 0 c.plies) (fun i : Nat => V.int (0 + (i : Int))) V.ref (K561 τ4 s c.plies) (List.range c.plies) [] ⟨by rw [rd_own e19, Int.zero_add], by decide, by lia⟩ rfl rfl (by rw [List.length_range]; lia) (fun D s v1 v2 _ hs => .mk rfl rfl (hs ▸ Fr.new v2) (hs ▸ upd_self _ _ _) v2 fun i a h => by cases h)
        (fun D is bs dn τ5 h => ?_) (fun D i is bs dn τ5 h => ?_) (fun D bs dn τ5 h => ?_)
      · cases h with | mk hl hlb f5' hD D0 hall' => exact ⟨rfl, hD, by rw [List.length_map, ← hl, List.length_append]; lia⟩
      · cases h with | mk hl hlb f5' hD D0 hall' =>
        have hi : i = dn.length := by
          have h1 : (dn ++ i :: is)[dn.length]? = some i := by rw [List.getElem?_append_right (Nat.le_refl _), Nat.sub_self]; rfl
          have h2 := congrArg List.length hl
          rw [List.length_append, List.length_cons, List.length_range] at h2
          rw [hl, List.getElem?_range (by lia)] at h1
          exact (Option.some.inj h1).symm
        have hipl : i < c.plies := List.mem_range.mp (by rw [← hl]; exact List.mem_append_right _ List.mem_cons_self)
        have C6 := C5.keep0 f5'
        simp! only [C6.ctxs ok rfl]
        rw [Int.zero_add]
        refine mS (C6.m_kil ok rfl) e260 ⟨c, ok, T260.mk C6 (by lia) fun tu τ6 f6' tu0 htu => ?_⟩
        simp! only []
        refine lT (rd_own htu) (by show 2 < 1000; decide) (mU fun b τ7 _ x2 _ hs => ?_)
        have fb : Fr [] τ6 τ7 := hs ▸ Fr.new x2
        have hb : τ7 b = some (.list [.int (s.k1.getD i 0), .int (s.k2.getD i 0)]) := hs ▸ upd_self _ _ _
        have hD6 := f6'.k0 hD
        have bD : b ≠ D := (ne_of x2 hD6).symm
        refine cT b (dn ++ [i]) (fb.k0 hD6) (.mk (by rw [List.append_assoc]; exact hl) (by rw [List.length_append, List.length_append, hlb]; rfl) ((f5'.trans (f6'.trans fb)).fresh Fr.u1 D0) (by rw [List.map_append]; exact upd_self _ _ _) D0 fun j a hj => ?_)
        by_cases hjl : j < bs.length
        · rw [List.getElem?_append_left hjl] at hj
          obtain ⟨y1, y2⟩ := hall' j a hj
          exact ⟨y1, (upd_ne y1).trans (fb.k0 (f6'.k0 y2))⟩
        · rw [List.getElem?_append_right (by lia)] at hj
          obtain ⟨n, hn⟩ : ∃ n, j - bs.length = n := ⟨_, rfl⟩
          rw [hn] at hj
          cases n with
          | zero =>
            cases hj
            rw [show j = i by lia]
            exact ⟨bD, (upd_ne bD).trans hb⟩
          | succ n => cases hj
      · cases h with | mk hl hlb f5' hD D0 hall' =>
        rw [List.append_nil] at hl
        have G6 := G5.keep0 f5'
        obtain ⟨as2, h1, h2, h3⟩ := G6.kills
        simp! only [G6.w_at rfl]
        refine ⟨D, c.kills, bs, as2, rfl, rfl, rd_own hD, rd_own h1, by rw [hlb, hl, List.length_range, h2], fun i x y hx hy => ⟨_, _, rd_own (hall' i x hx).2, rd_own (h3 i y hy).2.2⟩, ?_⟩
        simp! only []
        exact hq _
end
/-! PS -/
section
variable {X : Cx} {c : Cw}
theorem z6 : 6 ≤ 6 := Nat.le_refl 6
theorem up {f : Value} {T : TC} {r r' : Nat} (h : SC X r f T) (e : Nat.ble r r' = true) : SC X r' f T := h.le (Nat.le_of_ble_eq_true e)
theorem sc_no {r : Nat} {f : Value} {T : TC} (h : ∀ vs σ Q, ¬ T vs σ Q) : SC X r f T := fun _ _ _ _ _ _ _ _ _ _ _ k _ => (h _ _ _ k).elim
theorem o6 {r : Nat} (h : Nat.ble 6 r = true) : 6 ≤ r := Nat.le_of_ble_eq_true h
theorem a_281 (ok : c.Ok) : SC X 15 (.ref 281) (T281 c) := c_281 ok (o6 rfl) (up (c_253 ok z6) rfl) (up (c_218 ok z6) rfl) (c_211 ok (o6 rfl) (c_183 z6))
theorem a_155 (ok : c.Ok) : SC X 12 (.ref 155) (T155 c) := c_155 ok (o6 rfl) (c_438 ok z6)
theorem a_162 (ok : c.Ok) : SC X 12 (.ref 162) (T162 c) := c_162 ok (o6 rfl) (c_445 ok z6)
theorem a_431 (ok : c.Ok) : SC X 12 (.ref 431) (T431 c) := c_431 ok (o6 rfl) (c_426 ok z6) (c_480 ok z6)
theorem a_321 (ok : c.Ok) : SC X 18 (.ref 321) (T321 c) := c_321 (o6 rfl) (up (c_328 z6) rfl) (up (c_335 (o6 rfl) (c_480 ok z6) (c_487 ok z6)) rfl) (c_342 (o6 rfl) (c_288 ok (o6 rfl) (c_260 ok z6))) (up (c_494 ok z6) rfl) (up (c_295 ok (o6 rfl) (c_204 ok z6)) rfl)
theorem a_316 (ok : c.Ok) : SC X 21 (.ref 316) (T316 c) := c_316 (o6 rfl) (a_321 ok) (up (c_356 z6) rfl)
theorem a_345 : SC X 12 (.ref 345) (T345 c) := c_345 z6
theorem b_363' (ok : c.Ok) (lv r : Nat) (hr : 12 ≤ r) (h : SC X r (.ref 370) (T370 c lv)) : SC X (r + 3) (.ref 363) (T363 c lv) :=
  c_363 ok (by lia) lv ((c_141 ok z6).le (by lia)) ((c_473 ok z6).le (by lia)) ((c_466 ok z6).le (by lia)) ((c_426 ok z6).le (by lia)) ((c_28 z6).le (by lia)) ((c_452 ok z6).le (by lia)) h ((a_431 ok).le hr)
theorem no_370 {r : Nat} : SC X r (.ref 370) (T370 c 0) := sc_no fun _ _ _ h => by cases h with | mk h => cases h
theorem d_363 (ok : c.Ok) : SC X 15 (.ref 363) (T363 c 0) := b_363' ok 0 12 (Nat.le_refl _) no_370
theorem a_370 (ok : c.Ok) : SC X 24 (.ref 370) (T370 c 1) := c_370 ok (o6 rfl) (up a_345 rfl) (a_316 ok) (up (a_155 ok) rfl) (up (d_363 ok) rfl) (up (a_162 ok) rfl)
theorem a_363 (ok : c.Ok) : ∀ lv : Nat, lv ≤ 1 → SC X 27 (.ref 363) (T363 c lv)
  | 0, _ => up (d_363 ok) rfl
  | 1, _ => b_363' ok 1 24 (by decide) (a_370 ok)
theorem b_377' (ok : c.Ok) (k r : Nat) (hr : 27 ≤ r) (h : SC X r (.ref 384) (T384 c k)) : SC X (r + 3) (.ref 377) (T377 c k) :=
  have l9 : 9 ≤ r := by lia
  c_377 ok (by lia) k ((c_169 ok z6).le l9) ((a_363 ok c.left.toNat (by have := ok.f1; lia)).le hr) ((c_141 ok z6).le l9) ((c_473 ok z6).le l9) ((c_28 z6).le l9) ((c_35 z6).le l9) ((c_459 ok z6).le l9) ((c_398 ok z6).le l9) ((c_426 ok z6).le l9) ((c_466 ok z6).le l9) h
theorem a_377 (ok : c.Ok) : ∀ k : Nat, SC X (30 + 9 * k) (.ref 377) (T377 c k)
  | 0 => b_377' ok 0 27 (Nat.le_refl _) (sc_no fun _ _ _ h => by cases h with | mk h => cases h)
  | k + 1 => by
    have l9 : 9 ≤ 33 + 9 * k := by lia
    have l12 : 12 ≤ 33 + 9 * k := by lia
    have h3 : SC X (36 + 9 * k) (.ref 384) (T384 c (k + 1)) := (c_384 ok (r := 33 + 9 * k) (by lia) k ((c_267 ok z6).le l9) ((c_494 ok z6).le l9) (a_345.le l12) ((a_316 ok).le (by lia)) ((c_480 ok z6).le l9) ((a_155 ok).le l12) ((c_391 (r := 30 + 9 * k) (by lia) k (a_377 ok k)).le (by lia)) ((a_162 ok).le l12) ((c_176 ok z6).le l9) ((a_281 ok).le (by lia)) ((c_405 ok z6).le l9)).le (by lia)
    exact (b_377' ok (k + 1) (36 + 9 * k) (by lia) h3).le (by lia)
theorem a_551 (ok : c.Ok) : SC X 12 (.ref 551) (T551 c) := c_551 ok (o6 rfl) (c_544 ok z6)
theorem d_537 (ok : c.Ok) : SC X 12 (.ref 537) (T537 c 0) := c_537 ok (o6 rfl) 0 (c_532 ok z6) (sc_no fun _ _ _ h => by cases h with | mk h => cases h)
theorem a_537 (ok : c.Ok) : ∀ lv : Nat, lv ≤ 1 → SC X 15 (.ref 537) (T537 c lv)
  | 0, _ => up (d_537 ok) rfl
  | 1, _ => c_537 ok (o6 rfl) 1 (up (c_532 ok z6) rfl) ((d_537 ok).conv fun vs σ Q h => by cases h with | mk _ h => exact h)
theorem a_556 (ok : c.Ok) : ∀ k : Nat, SC X (18 + 3 * k) (.ref 556) (T556 c k)
  | 0 => c_556 (r := 15) ok (o6 rfl) 0 (up (c_532 ok z6) rfl) (a_537 ok _ (by have := ok.f1; lia)) (sc_no fun _ _ _ h => by cases h with | mk _ h => cases h) (up (a_551 ok) rfl)
  | k + 1 => (c_556 (r := 18 + 3 * k) ok (by lia) (k + 1) ((c_532 ok z6).le (by lia)) ((a_537 ok _ (by have := ok.f1; lia)).le (by lia)) ((a_556 ok k).conv fun vs σ Q h => by cases h with | mk j h h' => cases Nat.succ.inj h; exact h') ((a_551 ok).le (by lia))).le (by lia)
end
section
variable {X : Cx}
theorem u_556 : SC X 60 (.ref 556) (U556 X) := (SC.ex (P := fun i : Cw × Nat => i.1.Ok ∧ i.2 ≤ 3) (T := fun i => T556 i.1 i.2) fun i h => (a_556 h.1 i.2).le (by lia)).safe
theorem u_377 : SC X 60 (.ref 377) (U377 X) := (SC.ex (P := fun i : Cw × Nat => i.1.Ok ∧ i.2 ≤ 3) (T := fun i => T377 i.1 i.2) fun i h => (a_377 h.1 i.2).le (by lia)).safe
theorem u_204 : SC X 60 (.ref 204) (U204 X) := SC.ex (P := Cw.Ok) (T := T204) fun c ok => up (c_204 ok z6) rfl
theorem u_260 : SC X 60 (.ref 260) (U260 X) := SC.ex (P := Cw.Ok) (T := T260) fun c ok => up (c_260 ok z6) rfl
theorem u_508 : SC X 9 (.ref 508) (T508 X) := c_508 z6
theorem u_515 : SC X 12 (.ref 515) (T515 X) := c_515 (o6 rfl) u_508
theorem u_527 : SC X 18 (.ref 527) (T527 X) := c_527 (o6 rfl) (up u_515 rfl) (c_522 (o6 rfl) u_515)
theorem a_561 : SC X 63 (.ref 561) (T561 X) := c_561 (o6 rfl) (up u_527 rfl) (up u_515 rfl) (up u_508 rfl) (up (c_497 z6) rfl).safe (up (c_144 z6) rfl).safe (up (c_270 z6) rfl).safe (up (c_228 z6) rfl).safe u_556 u_377 u_204 u_260
end
/-! PV -/
theorem ints_read {R : WRecords} {cl : Str → Option Addr} {h : Heap} : ∀ {vs : List Value} {xs : List WData} {as : List Addr}, ReadsAllW R cl h vs xs as → WShape.hasItems R xs .int = true → ∃ scr : List Int, scr.length = xs.length ∧ AllIs (scr.map V.int) vs := by
  intro vs xs
  induction xs generalizing vs with
  | nil =>
    intro as r _
    cases r
    exact ⟨[], rfl, rfl⟩
  | cons d xs ih =>
    intro as r hi
    cases r with
    | cons r1 r2 =>
      rw [WShape.hasItems, Bool.and_eq_true] at hi
      obtain ⟨scr, e1, e2⟩ := ih r2 hi.2
      have hd : ∃ i, d = .int i := by
        have h1 := hi.1
        clear hi ih r1 r2
        cases d <;> first | exact ⟨_, rfl⟩ | exact Bool.noConfusion (show false = true from h1)
      obtain ⟨i, rfl⟩ := hd
      obtain ⟨t, rfl, -⟩ := readsW_int_inv r1
      exact ⟨i :: scr, congrArg Nat.succ e1, _, _, rfl, ⟨t, rfl⟩, e2⟩
theorem args_of {args : List WData} (h : WShape.hasAll [] args [.list .int] = true) : ∃ xs, args = [.list xs] ∧ WShape.hasItems [] xs .int = true := by
  cases args with
  | nil => exact Bool.noConfusion (show false = true from h)
  | cons d r =>
    cases r with
    | nil =>
      have h1 : WShape.has [] d (.list .int) = true := (Bool.and_eq_true_iff.mp (show (WShape.has [] d (.list .int) && true) = true from h)).1
      cases d with
      | list xs => exact ⟨xs, rfl, (Bool.or_false _).symm.trans h1⟩
      | _ => exact Bool.noConfusion (show false = true from h1)
    | cons e r => exact Bool.noConfusion (Bool.and_eq_true_iff.mp (show (WShape.has [] d (.list .int) && false) = true from h)).2
theorem args_len {xs : List WData} (h : lawR.pre.holds [] { args := [.list xs] } = true) : xs.length < 1000 := by
  have hp3 : WTm.holds [] (.and (.not (.lt (.lit (.int 63)) (.len (.arg 0)))) (.lit (.bool true))) { args := [.list xs] } = true := h
  by_cases q : (63 : Int) < xs.length
  · exfalso
    unfold WTm.holds at hp3
    simp [WTm.value, PySem.W.less?, PySem.W.Num.less?, q] at hp3
  · omega
theorem reads_of {cl : Str → Option Addr} {h : Heap} {vals : List Value} {xs : List WData} {as : List Addr} (r : ReadsAllW [] cl h vals [.list xs] as) : ∃ (l : Addr) (ob : Obj) (vs : Array Value) (n : Nat) (bs : List Addr), vals = [.ref l] ∧ h.get? l = some ob ∧ ob.cls = .type "list" ∧ ob.data = .seq vs n ∧ ReadsAllW [] cl h vs.toList xs bs := by
  cases r with
  | cons r1 r2 =>
    cases r2
    obtain ⟨l, o, its, n, ai, rfl, h1, h2, h3, h4, -⟩ := readsW_list_open r1
    exact ⟨l, o, its, n, ai, rfl, h1, h2, h3, h4⟩
theorem call_ok (law : ∀ X : Cx, SC X 63 (.ref 561) (T561 X)) : WalkO qQ looseQ (XL qQ []) hookQ.says lawR.row.toRowW lawDef [] fun f vs => PySem.call f vs := by
  intro w s₀ s₁ mg mb G Y a o pm cd doc dV kV ho hd hcr hDf hmg hgens args vals as hpre hlay hreads hwell hsys
  have K : (KK w.params).In s₁.heap := kIn_of Y
  have hg : ∃ t, gTab.lookup 189 = some (t, .ref 561) := ⟨_, rfl⟩
  obtain ⟨t, hg⟩ := hg
  have ha : mg (st 189) = some (.ref 561) := mg_of K G.T.g (gl_some (P := w.params) hg)
  have ea : a = 561 := by
    have h1 : mg (st 189) = some (.ref a) := hmg
    rw [ha] at h1
    cases h1; rfl
  subst ea
  obtain ⟨hp1, hp2⟩ := Bool.and_eq_true_iff.mp (show (WShape.hasAll [] args [.list .int] && lawR.pre.holds [] { args := args }) = true from hpre)
  obtain ⟨xs, rfl, hint⟩ := args_of hp1
  have hlen := args_len hp2
  obtain ⟨l, ob, vs, n, bs, rfl, h1, h2, h3, h4⟩ := reads_of (show ReadsAllW [] (classAt s₀.heap) s₁.heap vals [.list xs] as from hreads)
  obtain ⟨scr, e1, e2⟩ := ints_read h4 hint
  let X : Cx := ⟨w, s₁.heap, fun b => if b = l then some (.slist (scr.map .int)) else none, K, ⟨_, _, _, _, _, G.T⟩, fun b p e => by
    have e : (if b = l then some (AObj.slist (scr.map .int)) else none) = some p := e
    by_cases q : b = l
    · rw [if_pos q] at e; cases e; subst q
      exact ⟨vs.toList, ⟨ob, h1, h2, n, by simpa using h3⟩, e2⟩
    · rw [if_neg q] at e; cases e⟩
  have free : Free X (fun _ => none) := fun _ _ _ => rfl
  have tau : X.τ l = some (.slist (scr.map .int)) := if_pos rfl
  have mid : Mid X (fun _ => none) s₁.heap := ⟨fun b p e => ⟨e, rfl⟩, fun b p e => by cases e⟩
  have room : Room 63 callerA := ⟨by decide, by decide, rfl⟩
  refine law X callerA [.ref l] [.ref l] (fun _ => none) s₁ (fun v σ' => v = .bool true) _ _ room mid ⟨_, _, rfl, rfl, rfl⟩ (.mk free tau (by omega) fun σ' => rfl) fun v x σ' h' tk iv hv S' x' => ?_
  subst hv
  cases iv
  refine ⟨.inl ⟨.bool true, .bool true, [], rfl, fun cls => rfl, .bool true, ?_, fun _ => ⟨List.nodup_nil, fun b hb => by cases hb⟩⟩, OldK.of_keep fun b p e => (x'.out b p e rfl).1, rfl, .of_eq hgens⟩
  exact Bool.and_eq_true_iff.mpr ⟨rfl, by show WTm.holds [] (.eq .res (.lit (.bool true))) { args := [.list xs], res := some (.bool true), after := [.list xs] } = true; simp [WTm.holds, WTm.value, same]⟩
end Mine
theorem PySem.Challenge.cw_nt0450_01_holds : PySem.Challenge.rw_nt0450_01.Holds := by
  exact Mine.head (Mine.call_ok fun X => Mine.a_561)
