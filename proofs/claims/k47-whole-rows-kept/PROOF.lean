import PyProof.Rows.All
import Wide.All
import OpenK.AllK
import Wide.FinOn
import KE.KStateDown
import Lean
import HandS.ForMost
import HandS.Exc
import HandS.TryOnly
import HandS.ExcOwn
import HandS.WordsExc
import HandS.More
import HandS.Conv
import HandS.DictTup
import HandS.IsInst
import HandS.Codes
import HandS.Defaults
import PyProof.DictMoreH
import HandS.Head0
import HandS.Head1
import HandS.Head2
import HandS.HeadEnd
import HandS.HeadHook1
import HandS.HeadHook2
import PySem.Challenge.RW_paneworks_k47_whole_rows_kept
set_option Elab.async false
set_option linter.all false
set_option maxRecDepth 100000
set_option maxHeartbeats 4000000
namespace Pw
open PySem PySem.Spec PyProof.Rows L2
/-! ### the text by places -/
def top (i : Nat) : Stmt := PySem.Challenge.pw_paneworks_k47_whole_rows_kept.main.body.getD i (.Pass ⟨0, 0, 0, 0⟩)
abbrev s_Dial_init : Stmt := inClass (top 8) 0
abbrev s_Dial_touch : Stmt := inClass (top 8) 2
abbrev s_Dial_clear : Stmt := inClass (top 8) 3
abbrev s_Dial_turn_on : Stmt := inClass (top 8) 5
abbrev s_Dial_choose : Stmt := inClass (top 8) 6
abbrev s_Files_init : Stmt := inClass (top 10) 0
abbrev s_Files_make : Stmt := inClass (top 10) 1
abbrev s_Files_size_of : Stmt := inClass (top 10) 2
abbrev s_Files_ask_page : Stmt := inClass (top 10) 3
abbrev s_Files_row_at : Stmt := inClass (top 10) 4
abbrev s_Files_store_row : Stmt := inClass (top 10) 5
abbrev s_Files_drop : Stmt := inClass (top 10) 6
abbrev s_Files_names : Stmt := inClass (top 10) 7
abbrev s_with_cells : Stmt := top 12
abbrev s_Frames_init : Stmt := inClass (top 14) 0
abbrev s_Frames_fill : Stmt := inClass (top 14) 1
abbrev s_Frames_empty : Stmt := inClass (top 14) 2
abbrev s_Frames_thing_in : Stmt := inClass (top 14) 3
abbrev s_Frames_row_in : Stmt := inClass (top 14) 4
abbrev s_Frames_put_in : Stmt := inClass (top 14) 5
abbrev s_Frames_is_soiled : Stmt := inClass (top 14) 6
abbrev s_Frames_least_free : Stmt := inClass (top 14) 7
abbrev s_Frames_where : Stmt := inClass (top 14) 8
abbrev s_Frames_things : Stmt := inClass (top 14) 9
abbrev s_Shelf_init : Stmt := inClass (top 16) 0
abbrev s_Shelf_put_on : Stmt := inClass (top 16) 1
abbrev s_Shelf_take_off : Stmt := inClass (top 16) 2
abbrev s_Shelf_row_of_sheet : Stmt := inClass (top 16) 3
abbrev s_Shelf_is_full : Stmt := inClass (top 16) 5
abbrev s_Shelf_sheets : Stmt := inClass (top 16) 6
abbrev s_Store_init : Stmt := inClass (top 18) 0
abbrev s_set_free : Stmt := top 19
abbrev s_put_out : Stmt := top 20
abbrev s_have_frame : Stmt := top 21
abbrev s_bring : Stmt := top 22
abbrev s_row_now : Stmt := top 23
abbrev s_file_now : Stmt := top 24
abbrev s_forget_file : Stmt := top 25
abbrev s_room_of : Stmt := top 27
abbrev s_new_sheet : Stmt := top 28
abbrev s_hold : Stmt := top 29
abbrev s_let_go : Stmt := top 30
abbrev s_l_cell_at : Stmt := top 32
abbrev s_l_whole : Stmt := top 33
abbrev s_l_alike : Stmt := top 34
abbrev s_l_num : Stmt := top 35
abbrev s_l_row : Stmt := top 36
abbrev s_l_name : Stmt := top 37
abbrev s_l_laid_in : Stmt := top 38
abbrev s_l_sizes : Stmt := top 39
abbrev s_l_new : Stmt := top 40
abbrev s_l_file : Stmt := top 41
abbrev s_l_counted : Stmt := top 42
abbrev s_l_moved : Stmt := top 43
abbrev s_l_written : Stmt := top 44
abbrev s_l_copied : Stmt := top 45
abbrev s_l_deed : Stmt := top 46
abbrev s_l_is_kept : Stmt := top 47
abbrev s_l_is_all : Stmt := top 48
abbrev s_law : Stmt := top 49
def d_Dial_init : He.DefD := ⟨("Dial", some "__init__"), "__init__", "Dial.__init__", defArgs s_Dial_init, defBody s_Dial_init, defScope s_Dial_init, [], []⟩
def d_Dial_touch : He.DefD := ⟨("Dial", some "touch"), "touch", "Dial.touch", defArgs s_Dial_touch, defBody s_Dial_touch, defScope s_Dial_touch, [], []⟩
def d_Dial_clear : He.DefD := ⟨("Dial", some "clear"), "clear", "Dial.clear", defArgs s_Dial_clear, defBody s_Dial_clear, defScope s_Dial_clear, [], []⟩
def d_Dial_turn_on : He.DefD := ⟨("Dial", some "turn_on"), "turn_on", "Dial.turn_on", defArgs s_Dial_turn_on, defBody s_Dial_turn_on, defScope s_Dial_turn_on, [], []⟩
def d_Dial_choose : He.DefD := ⟨("Dial", some "choose"), "choose", "Dial.choose", defArgs s_Dial_choose, defBody s_Dial_choose, defScope s_Dial_choose, [], []⟩
def d_Files_init : He.DefD := ⟨("Files", some "__init__"), "__init__", "Files.__init__", defArgs s_Files_init, defBody s_Files_init, defScope s_Files_init, [], []⟩
def d_Files_make : He.DefD := ⟨("Files", some "make"), "make", "Files.make", defArgs s_Files_make, defBody s_Files_make, defScope s_Files_make, [], []⟩
def d_Files_size_of : He.DefD := ⟨("Files", some "size_of"), "size_of", "Files.size_of", defArgs s_Files_size_of, defBody s_Files_size_of, defScope s_Files_size_of, [], []⟩
def d_Files_ask_page : He.DefD := ⟨("Files", some "ask_page"), "ask_page", "Files.ask_page", defArgs s_Files_ask_page, defBody s_Files_ask_page, defScope s_Files_ask_page, [], []⟩
def d_Files_row_at : He.DefD := ⟨("Files", some "row_at"), "row_at", "Files.row_at", defArgs s_Files_row_at, defBody s_Files_row_at, defScope s_Files_row_at, [], []⟩
def d_Files_store_row : He.DefD := ⟨("Files", some "store_row"), "store_row", "Files.store_row", defArgs s_Files_store_row, defBody s_Files_store_row, defScope s_Files_store_row, [], []⟩
def d_Files_drop : He.DefD := ⟨("Files", some "drop"), "drop", "Files.drop", defArgs s_Files_drop, defBody s_Files_drop, defScope s_Files_drop, [], []⟩
def d_Files_names : He.DefD := ⟨("Files", some "names"), "names", "Files.names", defArgs s_Files_names, defBody s_Files_names, defScope s_Files_names, [], []⟩
def d_with_cells : He.DefD := ⟨("with_cells", none), "with_cells", "with_cells", defArgs s_with_cells, defBody s_with_cells, defScope s_with_cells, [], []⟩
def d_Frames_init : He.DefD := ⟨("Frames", some "__init__"), "__init__", "Frames.__init__", defArgs s_Frames_init, defBody s_Frames_init, defScope s_Frames_init, [], []⟩
def d_Frames_fill : He.DefD := ⟨("Frames", some "fill"), "fill", "Frames.fill", defArgs s_Frames_fill, defBody s_Frames_fill, defScope s_Frames_fill, [], []⟩
def d_Frames_empty : He.DefD := ⟨("Frames", some "empty"), "empty", "Frames.empty", defArgs s_Frames_empty, defBody s_Frames_empty, defScope s_Frames_empty, [], []⟩
def d_Frames_thing_in : He.DefD := ⟨("Frames", some "thing_in"), "thing_in", "Frames.thing_in", defArgs s_Frames_thing_in, defBody s_Frames_thing_in, defScope s_Frames_thing_in, [], []⟩
def d_Frames_row_in : He.DefD := ⟨("Frames", some "row_in"), "row_in", "Frames.row_in", defArgs s_Frames_row_in, defBody s_Frames_row_in, defScope s_Frames_row_in, [], []⟩
def d_Frames_put_in : He.DefD := ⟨("Frames", some "put_in"), "put_in", "Frames.put_in", defArgs s_Frames_put_in, defBody s_Frames_put_in, defScope s_Frames_put_in, [], []⟩
def d_Frames_is_soiled : He.DefD := ⟨("Frames", some "is_soiled"), "is_soiled", "Frames.is_soiled", defArgs s_Frames_is_soiled, defBody s_Frames_is_soiled, defScope s_Frames_is_soiled, [], []⟩
def d_Frames_least_free : He.DefD := ⟨("Frames", some "least_free"), "least_free", "Frames.least_free", defArgs s_Frames_least_free, defBody s_Frames_least_free, defScope s_Frames_least_free, [], []⟩
def d_Frames_where : He.DefD := ⟨("Frames", some "where"), "where", "Frames.where", defArgs s_Frames_where, defBody s_Frames_where, defScope s_Frames_where, [], []⟩
def d_Frames_things : He.DefD := ⟨("Frames", some "things"), "things", "Frames.things", defArgs s_Frames_things, defBody s_Frames_things, defScope s_Frames_things, [], []⟩
def d_Shelf_init : He.DefD := ⟨("Shelf", some "__init__"), "__init__", "Shelf.__init__", defArgs s_Shelf_init, defBody s_Shelf_init, defScope s_Shelf_init, [], []⟩
def d_Shelf_put_on : He.DefD := ⟨("Shelf", some "put_on"), "put_on", "Shelf.put_on", defArgs s_Shelf_put_on, defBody s_Shelf_put_on, defScope s_Shelf_put_on, [], []⟩
def d_Shelf_take_off : He.DefD := ⟨("Shelf", some "take_off"), "take_off", "Shelf.take_off", defArgs s_Shelf_take_off, defBody s_Shelf_take_off, defScope s_Shelf_take_off, [], []⟩
def d_Shelf_row_of_sheet : He.DefD := ⟨("Shelf", some "row_of_sheet"), "row_of_sheet", "Shelf.row_of_sheet", defArgs s_Shelf_row_of_sheet, defBody s_Shelf_row_of_sheet, defScope s_Shelf_row_of_sheet, [], []⟩
def d_Shelf_is_full : He.DefD := ⟨("Shelf", some "is_full"), "is_full", "Shelf.is_full", defArgs s_Shelf_is_full, defBody s_Shelf_is_full, defScope s_Shelf_is_full, [], []⟩
def d_Shelf_sheets : He.DefD := ⟨("Shelf", some "sheets"), "sheets", "Shelf.sheets", defArgs s_Shelf_sheets, defBody s_Shelf_sheets, defScope s_Shelf_sheets, [], []⟩
def d_Store_init : He.DefD := ⟨("Store", some "__init__"), "__init__", "Store.__init__", defArgs s_Store_init, defBody s_Store_init, defScope s_Store_init, [], []⟩
def d_set_free : He.DefD := ⟨("set_free", none), "set_free", "set_free", defArgs s_set_free, defBody s_set_free, defScope s_set_free, [], []⟩
def d_put_out : He.DefD := ⟨("put_out", none), "put_out", "put_out", defArgs s_put_out, defBody s_put_out, defScope s_put_out, [], []⟩
def d_have_frame : He.DefD := ⟨("have_frame", none), "have_frame", "have_frame", defArgs s_have_frame, defBody s_have_frame, defScope s_have_frame, [], []⟩
def d_bring : He.DefD := ⟨("bring", none), "bring", "bring", defArgs s_bring, defBody s_bring, defScope s_bring, [], []⟩
def d_row_now : He.DefD := ⟨("row_now", none), "row_now", "row_now", defArgs s_row_now, defBody s_row_now, defScope s_row_now, [], []⟩
def d_file_now : He.DefD := ⟨("file_now", none), "file_now", "file_now", defArgs s_file_now, defBody s_file_now, defScope s_file_now, [], []⟩
def d_forget_file : He.DefD := ⟨("forget_file", none), "forget_file", "forget_file", defArgs s_forget_file, defBody s_forget_file, defScope s_forget_file, [], []⟩
def d_room_of : He.DefD := ⟨("room_of", none), "room_of", "room_of", defArgs s_room_of, defBody s_room_of, defScope s_room_of, [], []⟩
def d_new_sheet : He.DefD := ⟨("new_sheet", none), "new_sheet", "new_sheet", defArgs s_new_sheet, defBody s_new_sheet, defScope s_new_sheet, [], []⟩
def d_hold : He.DefD := ⟨("hold", none), "hold", "hold", defArgs s_hold, defBody s_hold, defScope s_hold, [], []⟩
def d_let_go : He.DefD := ⟨("let_go", none), "let_go", "let_go", defArgs s_let_go, defBody s_let_go, defScope s_let_go, [], []⟩
def d_l_cell_at : He.DefD := ⟨("_law_cell_at", none), "_law_cell_at", "_law_cell_at", defArgs s_l_cell_at, defBody s_l_cell_at, defScope s_l_cell_at, [], []⟩
def d_l_whole : He.DefD := ⟨("_law_whole", none), "_law_whole", "_law_whole", defArgs s_l_whole, defBody s_l_whole, defScope s_l_whole, [], []⟩
def d_l_alike : He.DefD := ⟨("_law_alike", none), "_law_alike", "_law_alike", defArgs s_l_alike, defBody s_l_alike, defScope s_l_alike, [], []⟩
def d_l_num : He.DefD := ⟨("_law_num", none), "_law_num", "_law_num", defArgs s_l_num, defBody s_l_num, defScope s_l_num, [], []⟩
def d_l_row : He.DefD := ⟨("_law_row", none), "_law_row", "_law_row", defArgs s_l_row, defBody s_l_row, defScope s_l_row, [], []⟩
def d_l_name : He.DefD := ⟨("_law_name", none), "_law_name", "_law_name", defArgs s_l_name, defBody s_l_name, defScope s_l_name, [], []⟩
def d_l_laid_in : He.DefD := ⟨("_law_laid_in", none), "_law_laid_in", "_law_laid_in", defArgs s_l_laid_in, defBody s_l_laid_in, defScope s_l_laid_in, [], []⟩
def d_l_sizes : He.DefD := ⟨("_law_sizes", none), "_law_sizes", "_law_sizes", defArgs s_l_sizes, defBody s_l_sizes, defScope s_l_sizes, [], []⟩
def d_l_new : He.DefD := ⟨("_law_new", none), "_law_new", "_law_new", defArgs s_l_new, defBody s_l_new, defScope s_l_new, [], []⟩
def d_l_file : He.DefD := ⟨("_law_file", none), "_law_file", "_law_file", defArgs s_l_file, defBody s_l_file, defScope s_l_file, [], []⟩
def d_l_counted : He.DefD := ⟨("_law_counted", none), "_law_counted", "_law_counted", defArgs s_l_counted, defBody s_l_counted, defScope s_l_counted, [], []⟩
def d_l_moved : He.DefD := ⟨("_law_moved", none), "_law_moved", "_law_moved", defArgs s_l_moved, defBody s_l_moved, defScope s_l_moved, [], []⟩
def d_l_written : He.DefD := ⟨("_law_written", none), "_law_written", "_law_written", defArgs s_l_written, defBody s_l_written, defScope s_l_written, [], []⟩
def d_l_copied : He.DefD := ⟨("_law_copied", none), "_law_copied", "_law_copied", defArgs s_l_copied, defBody s_l_copied, defScope s_l_copied, [], []⟩
def d_l_deed : He.DefD := ⟨("_law_deed", none), "_law_deed", "_law_deed", defArgs s_l_deed, defBody s_l_deed, defScope s_l_deed, [], []⟩
def d_l_is_kept : He.DefD := ⟨("_law_is_kept", none), "_law_is_kept", "_law_is_kept", defArgs s_l_is_kept, defBody s_l_is_kept, defScope s_l_is_kept, [], []⟩
def d_l_is_all : He.DefD := ⟨("_law_is_all", none), "_law_is_all", "_law_is_all", defArgs s_l_is_all, defBody s_l_is_all, defScope s_l_is_all, [], []⟩
def d_law : He.DefD := ⟨("law", none), "law", "law", defArgs s_law, defBody s_law, defScope s_law, [], []⟩
def fn0 : List He.DefD := [d_Dial_init, d_Dial_touch, d_Dial_clear, d_Dial_turn_on, d_Dial_choose, d_Files_init, d_Files_make, d_Files_size_of, d_Files_ask_page, d_Files_row_at, d_Files_store_row, d_Files_drop, d_Files_names, d_with_cells, d_Frames_init, d_Frames_fill, d_Frames_empty, d_Frames_thing_in, d_Frames_row_in, d_Frames_put_in]
def fn1 : List He.DefD := [d_Frames_is_soiled, d_Frames_least_free, d_Frames_where, d_Frames_things, d_Shelf_init, d_Shelf_put_on, d_Shelf_take_off, d_Shelf_row_of_sheet, d_Shelf_is_full, d_Shelf_sheets, d_Store_init, d_set_free, d_put_out, d_have_frame, d_bring, d_row_now, d_file_now, d_forget_file, d_room_of, d_new_sheet]
def fn2 : List He.DefD := [d_hold, d_let_go, d_l_cell_at, d_l_whole, d_l_alike, d_l_num, d_l_row, d_l_name, d_l_laid_in, d_l_sizes, d_l_new, d_l_file, d_l_counted, d_l_moved, d_l_written, d_l_copied, d_l_deed, d_l_is_kept, d_l_is_all, d_law]
def fn : List He.DefD := fn0 ++ (fn1 ++ (fn2))
def fa0 : List He.Fa := [.glo "with_cells", .glo "set_free", .glo "put_out", .glo "have_frame", .glo "bring", .glo "row_now", .glo "file_now", .glo "forget_file", .glo "room_of", .glo "new_sheet", .glo "hold", .glo "let_go", .glo "_law_cell_at", .glo "_law_whole", .glo "_law_alike", .glo "_law_num", .glo "_law_row", .glo "_law_name", .glo "_law_laid_in", .glo "_law_sizes"]
def fa1 : List He.Fa := [.glo "_law_new", .glo "_law_file", .glo "_law_counted", .glo "_law_moved", .glo "_law_written", .glo "_law_copied", .glo "_law_deed", .glo "_law_is_kept", .glo "_law_is_all", .glo "law", .glo "Dial", .glo "Files", .glo "Frames", .glo "Shelf", .glo "Store", .glo "Full", .free "len", .free "list", .free "isinstance", .free "range"]
def fa2 : List He.Fa := [.free "sorted", .free "int", .free "bool", .free "str", .free "tuple", .cls "Dial", .cls "Files", .cls "Frames", .cls "Shelf", .cls "Store", .noat "Dial" "my_spot", .noat "Dial" "my_marked", .noat "Files" "my_files", .noat "Frames" "my_things", .noat "Frames" "my_rows", .noat "Frames" "my_soil", .noat "Shelf" "my_sheets", .noat "Shelf" "my_rows", .noat "Store" "frames", .noat "Store" "dial"]
def fa3 : List He.Fa := [.noat "Store" "shelf", .noat "Store" "files", .noat "Store" "my_holders", .noat "Store" "my_newest", .meth "Dial" "touch", .meth "Dial" "clear", .meth "Dial" "turn_on", .meth "Dial" "choose", .meth "Files" "make", .meth "Files" "size_of", .meth "Files" "ask_page", .meth "Files" "row_at", .meth "Files" "store_row", .meth "Files" "drop", .meth "Files" "names", .meth "Frames" "fill", .meth "Frames" "empty", .meth "Frames" "thing_in", .meth "Frames" "row_in", .meth "Frames" "put_in"]
def fa4 : List He.Fa := [.meth "Frames" "is_soiled", .meth "Frames" "least_free", .meth "Frames" "where", .meth "Frames" "things", .meth "Shelf" "put_on", .meth "Shelf" "take_off", .meth "Shelf" "row_of_sheet", .meth "Shelf" "is_full", .meth "Shelf" "sheets", .mkr "Dial", .mkr "Files", .mkr "Frames", .mkr "Shelf", .mkr "Store", .exc "Full", .exm "Full" "Full" true]
def fa : List He.Fa := fa0 ++ (fa1 ++ (fa2 ++ (fa3 ++ (fa4))))
end Pw

set_option Elab.async false
set_option linter.all false
set_option maxRecDepth 100000
set_option maxHeartbeats 0
namespace Pw
open PySem PySem.Spec PyProof.Rows L2
abbrev R : PySem.W.OpenRow := PySem.W.OpenLaw.row PySem.Challenge.rw_paneworks_k47_whole_rows_kept
abbrev hk : PySem.W.Hook := He.hookD 5 fa fn
def ob (s : PySem.W.SharedT) : He.AlD := He.obsDG 5 fa fn (HandSHeadRun.getT s)
theorem ob_eq (s : PySem.W.SharedT) : ob s = hk.obs s.abs := He.obsDG_eq (HandSHeadRun.getT_eq s)
def names1 : List PySem.Str := ["_wall", "PaneError", "NoFile", "NoPage", "Taken", "Full", "Dial", "Files", "with_cells", "Frames", "Shelf", "Store", "set_free", "put_out", "have_frame", "bring", "row_now", "file_now", "forget_file", "room_of"]
def names2 : List PySem.Str := ["new_sheet", "hold", "let_go", "_law_cell_at", "_law_whole", "_law_alike", "_law_num", "_law_row", "_law_name", "_law_laid_in", "_law_sizes", "_law_new", "_law_file", "_law_counted", "_law_moved", "_law_written", "_law_copied", "_law_deed", "_law_is_kept", "_law_is_all"]
def names : List PySem.Str := names1 ++ names2
theorem run (w : World) : HandSHeadRun.RunEq R (PySem.W.view R.prog [49]) hk ob 6000 names w := by
  intro os
  kernel_rfl
end Pw

set_option Elab.async false
set_option linter.all false
set_option maxRecDepth 100000
set_option maxHeartbeats 4000000
namespace Pw
open PySem PySem.Spec PyProof.Rows L2
/-! ### facts by names -/
structure Tx (K : PySem.W.Frag) (mg : Str → Option Value) : Prop where
  says : He.SaysD fa fn K
  gl : ∀ x : Str, (He.Fa.glo x).ok K = true → mg x = some (.ref (He.ga K x))
  fr : ∀ x : Str, (He.Fa.free x).ok K = true → mg x = none
section
variable {K : PySem.W.Frag} {mg : Str → Option Value}
theorem Tx.g_with_cells (T : Tx K mg) : mg "with_cells" = some (.ref (He.ga K "with_cells")) := T.gl _ (T.says.fact 0 (f := .glo "with_cells") rfl)
theorem Tx.g_set_free (T : Tx K mg) : mg "set_free" = some (.ref (He.ga K "set_free")) := T.gl _ (T.says.fact 1 (f := .glo "set_free") rfl)
theorem Tx.g_put_out (T : Tx K mg) : mg "put_out" = some (.ref (He.ga K "put_out")) := T.gl _ (T.says.fact 2 (f := .glo "put_out") rfl)
theorem Tx.g_have_frame (T : Tx K mg) : mg "have_frame" = some (.ref (He.ga K "have_frame")) := T.gl _ (T.says.fact 3 (f := .glo "have_frame") rfl)
theorem Tx.g_bring (T : Tx K mg) : mg "bring" = some (.ref (He.ga K "bring")) := T.gl _ (T.says.fact 4 (f := .glo "bring") rfl)
theorem Tx.g_row_now (T : Tx K mg) : mg "row_now" = some (.ref (He.ga K "row_now")) := T.gl _ (T.says.fact 5 (f := .glo "row_now") rfl)
theorem Tx.g_file_now (T : Tx K mg) : mg "file_now" = some (.ref (He.ga K "file_now")) := T.gl _ (T.says.fact 6 (f := .glo "file_now") rfl)
theorem Tx.g_forget_file (T : Tx K mg) : mg "forget_file" = some (.ref (He.ga K "forget_file")) := T.gl _ (T.says.fact 7 (f := .glo "forget_file") rfl)
theorem Tx.g_room_of (T : Tx K mg) : mg "room_of" = some (.ref (He.ga K "room_of")) := T.gl _ (T.says.fact 8 (f := .glo "room_of") rfl)
theorem Tx.g_new_sheet (T : Tx K mg) : mg "new_sheet" = some (.ref (He.ga K "new_sheet")) := T.gl _ (T.says.fact 9 (f := .glo "new_sheet") rfl)
theorem Tx.g_hold (T : Tx K mg) : mg "hold" = some (.ref (He.ga K "hold")) := T.gl _ (T.says.fact 10 (f := .glo "hold") rfl)
theorem Tx.g_let_go (T : Tx K mg) : mg "let_go" = some (.ref (He.ga K "let_go")) := T.gl _ (T.says.fact 11 (f := .glo "let_go") rfl)
theorem Tx.g__law_cell_at (T : Tx K mg) : mg "_law_cell_at" = some (.ref (He.ga K "_law_cell_at")) := T.gl _ (T.says.fact 12 (f := .glo "_law_cell_at") rfl)
theorem Tx.g__law_whole (T : Tx K mg) : mg "_law_whole" = some (.ref (He.ga K "_law_whole")) := T.gl _ (T.says.fact 13 (f := .glo "_law_whole") rfl)
theorem Tx.g__law_alike (T : Tx K mg) : mg "_law_alike" = some (.ref (He.ga K "_law_alike")) := T.gl _ (T.says.fact 14 (f := .glo "_law_alike") rfl)
theorem Tx.g__law_num (T : Tx K mg) : mg "_law_num" = some (.ref (He.ga K "_law_num")) := T.gl _ (T.says.fact 15 (f := .glo "_law_num") rfl)
theorem Tx.g__law_row (T : Tx K mg) : mg "_law_row" = some (.ref (He.ga K "_law_row")) := T.gl _ (T.says.fact 16 (f := .glo "_law_row") rfl)
theorem Tx.g__law_name (T : Tx K mg) : mg "_law_name" = some (.ref (He.ga K "_law_name")) := T.gl _ (T.says.fact 17 (f := .glo "_law_name") rfl)
theorem Tx.g__law_laid_in (T : Tx K mg) : mg "_law_laid_in" = some (.ref (He.ga K "_law_laid_in")) := T.gl _ (T.says.fact 18 (f := .glo "_law_laid_in") rfl)
theorem Tx.g__law_sizes (T : Tx K mg) : mg "_law_sizes" = some (.ref (He.ga K "_law_sizes")) := T.gl _ (T.says.fact 19 (f := .glo "_law_sizes") rfl)
theorem Tx.g__law_new (T : Tx K mg) : mg "_law_new" = some (.ref (He.ga K "_law_new")) := T.gl _ (T.says.fact 20 (f := .glo "_law_new") rfl)
theorem Tx.g__law_file (T : Tx K mg) : mg "_law_file" = some (.ref (He.ga K "_law_file")) := T.gl _ (T.says.fact 21 (f := .glo "_law_file") rfl)
theorem Tx.g__law_counted (T : Tx K mg) : mg "_law_counted" = some (.ref (He.ga K "_law_counted")) := T.gl _ (T.says.fact 22 (f := .glo "_law_counted") rfl)
theorem Tx.g__law_moved (T : Tx K mg) : mg "_law_moved" = some (.ref (He.ga K "_law_moved")) := T.gl _ (T.says.fact 23 (f := .glo "_law_moved") rfl)
theorem Tx.g__law_written (T : Tx K mg) : mg "_law_written" = some (.ref (He.ga K "_law_written")) := T.gl _ (T.says.fact 24 (f := .glo "_law_written") rfl)
theorem Tx.g__law_copied (T : Tx K mg) : mg "_law_copied" = some (.ref (He.ga K "_law_copied")) := T.gl _ (T.says.fact 25 (f := .glo "_law_copied") rfl)
theorem Tx.g__law_deed (T : Tx K mg) : mg "_law_deed" = some (.ref (He.ga K "_law_deed")) := T.gl _ (T.says.fact 26 (f := .glo "_law_deed") rfl)
theorem Tx.g__law_is_kept (T : Tx K mg) : mg "_law_is_kept" = some (.ref (He.ga K "_law_is_kept")) := T.gl _ (T.says.fact 27 (f := .glo "_law_is_kept") rfl)
theorem Tx.g__law_is_all (T : Tx K mg) : mg "_law_is_all" = some (.ref (He.ga K "_law_is_all")) := T.gl _ (T.says.fact 28 (f := .glo "_law_is_all") rfl)
theorem Tx.g_law (T : Tx K mg) : mg "law" = some (.ref (He.ga K "law")) := T.gl _ (T.says.fact 29 (f := .glo "law") rfl)
theorem Tx.g_Dial (T : Tx K mg) : mg "Dial" = some (.ref (He.ga K "Dial")) := T.gl _ (T.says.fact 30 (f := .glo "Dial") rfl)
theorem Tx.g_Files (T : Tx K mg) : mg "Files" = some (.ref (He.ga K "Files")) := T.gl _ (T.says.fact 31 (f := .glo "Files") rfl)
theorem Tx.g_Frames (T : Tx K mg) : mg "Frames" = some (.ref (He.ga K "Frames")) := T.gl _ (T.says.fact 32 (f := .glo "Frames") rfl)
theorem Tx.g_Shelf (T : Tx K mg) : mg "Shelf" = some (.ref (He.ga K "Shelf")) := T.gl _ (T.says.fact 33 (f := .glo "Shelf") rfl)
theorem Tx.g_Store (T : Tx K mg) : mg "Store" = some (.ref (He.ga K "Store")) := T.gl _ (T.says.fact 34 (f := .glo "Store") rfl)
theorem Tx.g_Full (T : Tx K mg) : mg "Full" = some (.ref (He.ga K "Full")) := T.gl _ (T.says.fact 35 (f := .glo "Full") rfl)
theorem Tx.b_len (T : Tx K mg) : mg "len" = none := T.fr _ (T.says.fact 36 (f := .free "len") rfl)
theorem Tx.b_list (T : Tx K mg) : mg "list" = none := T.fr _ (T.says.fact 37 (f := .free "list") rfl)
theorem Tx.b_isinstance (T : Tx K mg) : mg "isinstance" = none := T.fr _ (T.says.fact 38 (f := .free "isinstance") rfl)
theorem Tx.b_range (T : Tx K mg) : mg "range" = none := T.fr _ (T.says.fact 39 (f := .free "range") rfl)
theorem Tx.b_sorted (T : Tx K mg) : mg "sorted" = none := T.fr _ (T.says.fact 40 (f := .free "sorted") rfl)
theorem Tx.b_int (T : Tx K mg) : mg "int" = none := T.fr _ (T.says.fact 41 (f := .free "int") rfl)
theorem Tx.b_bool (T : Tx K mg) : mg "bool" = none := T.fr _ (T.says.fact 42 (f := .free "bool") rfl)
theorem Tx.b_str (T : Tx K mg) : mg "str" = none := T.fr _ (T.says.fact 43 (f := .free "str") rfl)
theorem Tx.b_tuple (T : Tx K mg) : mg "tuple" = none := T.fr _ (T.says.fact 44 (f := .free "tuple") rfl)
theorem Tx.c_Dial (T : Tx K mg) : Cls K (He.ga K "Dial") := He.cls_ok (T.says.fact 45 (f := .cls "Dial") rfl)
theorem Tx.c_Files (T : Tx K mg) : Cls K (He.ga K "Files") := He.cls_ok (T.says.fact 46 (f := .cls "Files") rfl)
theorem Tx.c_Frames (T : Tx K mg) : Cls K (He.ga K "Frames") := He.cls_ok (T.says.fact 47 (f := .cls "Frames") rfl)
theorem Tx.c_Shelf (T : Tx K mg) : Cls K (He.ga K "Shelf") := He.cls_ok (T.says.fact 48 (f := .cls "Shelf") rfl)
theorem Tx.c_Store (T : Tx K mg) : Cls K (He.ga K "Store") := He.cls_ok (T.says.fact 49 (f := .cls "Store") rfl)
theorem Tx.n_Dial_my_spot (T : Tx K mg) : NoAttr K (He.ga K "Dial") "my_spot" := He.noat_ok (T.says.fact 50 (f := .noat "Dial" "my_spot") rfl)
theorem Tx.n_Dial_my_marked (T : Tx K mg) : NoAttr K (He.ga K "Dial") "my_marked" := He.noat_ok (T.says.fact 51 (f := .noat "Dial" "my_marked") rfl)
theorem Tx.n_Files_my_files (T : Tx K mg) : NoAttr K (He.ga K "Files") "my_files" := He.noat_ok (T.says.fact 52 (f := .noat "Files" "my_files") rfl)
theorem Tx.n_Frames_my_things (T : Tx K mg) : NoAttr K (He.ga K "Frames") "my_things" := He.noat_ok (T.says.fact 53 (f := .noat "Frames" "my_things") rfl)
theorem Tx.n_Frames_my_rows (T : Tx K mg) : NoAttr K (He.ga K "Frames") "my_rows" := He.noat_ok (T.says.fact 54 (f := .noat "Frames" "my_rows") rfl)
theorem Tx.n_Frames_my_soil (T : Tx K mg) : NoAttr K (He.ga K "Frames") "my_soil" := He.noat_ok (T.says.fact 55 (f := .noat "Frames" "my_soil") rfl)
theorem Tx.n_Shelf_my_sheets (T : Tx K mg) : NoAttr K (He.ga K "Shelf") "my_sheets" := He.noat_ok (T.says.fact 56 (f := .noat "Shelf" "my_sheets") rfl)
theorem Tx.n_Shelf_my_rows (T : Tx K mg) : NoAttr K (He.ga K "Shelf") "my_rows" := He.noat_ok (T.says.fact 57 (f := .noat "Shelf" "my_rows") rfl)
theorem Tx.n_Store_frames (T : Tx K mg) : NoAttr K (He.ga K "Store") "frames" := He.noat_ok (T.says.fact 58 (f := .noat "Store" "frames") rfl)
theorem Tx.n_Store_dial (T : Tx K mg) : NoAttr K (He.ga K "Store") "dial" := He.noat_ok (T.says.fact 59 (f := .noat "Store" "dial") rfl)
theorem Tx.n_Store_shelf (T : Tx K mg) : NoAttr K (He.ga K "Store") "shelf" := He.noat_ok (T.says.fact 60 (f := .noat "Store" "shelf") rfl)
theorem Tx.n_Store_files (T : Tx K mg) : NoAttr K (He.ga K "Store") "files" := He.noat_ok (T.says.fact 61 (f := .noat "Store" "files") rfl)
theorem Tx.n_Store_my_holders (T : Tx K mg) : NoAttr K (He.ga K "Store") "my_holders" := He.noat_ok (T.says.fact 62 (f := .noat "Store" "my_holders") rfl)
theorem Tx.n_Store_my_newest (T : Tx K mg) : NoAttr K (He.ga K "Store") "my_newest" := He.noat_ok (T.says.fact 63 (f := .noat "Store" "my_newest") rfl)
theorem Tx.m_Dial_touch (T : Tx K mg) : Meth K (He.ga K "Dial") "touch" (He.ma K (He.ga K "Dial") "touch") := He.meth_ok (T.says.fact 64 (f := .meth "Dial" "touch") rfl)
theorem Tx.m_Dial_clear (T : Tx K mg) : Meth K (He.ga K "Dial") "clear" (He.ma K (He.ga K "Dial") "clear") := He.meth_ok (T.says.fact 65 (f := .meth "Dial" "clear") rfl)
theorem Tx.m_Dial_turn_on (T : Tx K mg) : Meth K (He.ga K "Dial") "turn_on" (He.ma K (He.ga K "Dial") "turn_on") := He.meth_ok (T.says.fact 66 (f := .meth "Dial" "turn_on") rfl)
theorem Tx.m_Dial_choose (T : Tx K mg) : Meth K (He.ga K "Dial") "choose" (He.ma K (He.ga K "Dial") "choose") := He.meth_ok (T.says.fact 67 (f := .meth "Dial" "choose") rfl)
theorem Tx.m_Files_make (T : Tx K mg) : Meth K (He.ga K "Files") "make" (He.ma K (He.ga K "Files") "make") := He.meth_ok (T.says.fact 68 (f := .meth "Files" "make") rfl)
theorem Tx.m_Files_size_of (T : Tx K mg) : Meth K (He.ga K "Files") "size_of" (He.ma K (He.ga K "Files") "size_of") := He.meth_ok (T.says.fact 69 (f := .meth "Files" "size_of") rfl)
theorem Tx.m_Files_ask_page (T : Tx K mg) : Meth K (He.ga K "Files") "ask_page" (He.ma K (He.ga K "Files") "ask_page") := He.meth_ok (T.says.fact 70 (f := .meth "Files" "ask_page") rfl)
theorem Tx.m_Files_row_at (T : Tx K mg) : Meth K (He.ga K "Files") "row_at" (He.ma K (He.ga K "Files") "row_at") := He.meth_ok (T.says.fact 71 (f := .meth "Files" "row_at") rfl)
theorem Tx.m_Files_store_row (T : Tx K mg) : Meth K (He.ga K "Files") "store_row" (He.ma K (He.ga K "Files") "store_row") := He.meth_ok (T.says.fact 72 (f := .meth "Files" "store_row") rfl)
theorem Tx.m_Files_drop (T : Tx K mg) : Meth K (He.ga K "Files") "drop" (He.ma K (He.ga K "Files") "drop") := He.meth_ok (T.says.fact 73 (f := .meth "Files" "drop") rfl)
theorem Tx.m_Files_names (T : Tx K mg) : Meth K (He.ga K "Files") "names" (He.ma K (He.ga K "Files") "names") := He.meth_ok (T.says.fact 74 (f := .meth "Files" "names") rfl)
theorem Tx.m_Frames_fill (T : Tx K mg) : Meth K (He.ga K "Frames") "fill" (He.ma K (He.ga K "Frames") "fill") := He.meth_ok (T.says.fact 75 (f := .meth "Frames" "fill") rfl)
theorem Tx.m_Frames_empty (T : Tx K mg) : Meth K (He.ga K "Frames") "empty" (He.ma K (He.ga K "Frames") "empty") := He.meth_ok (T.says.fact 76 (f := .meth "Frames" "empty") rfl)
theorem Tx.m_Frames_thing_in (T : Tx K mg) : Meth K (He.ga K "Frames") "thing_in" (He.ma K (He.ga K "Frames") "thing_in") := He.meth_ok (T.says.fact 77 (f := .meth "Frames" "thing_in") rfl)
theorem Tx.m_Frames_row_in (T : Tx K mg) : Meth K (He.ga K "Frames") "row_in" (He.ma K (He.ga K "Frames") "row_in") := He.meth_ok (T.says.fact 78 (f := .meth "Frames" "row_in") rfl)
theorem Tx.m_Frames_put_in (T : Tx K mg) : Meth K (He.ga K "Frames") "put_in" (He.ma K (He.ga K "Frames") "put_in") := He.meth_ok (T.says.fact 79 (f := .meth "Frames" "put_in") rfl)
theorem Tx.m_Frames_is_soiled (T : Tx K mg) : Meth K (He.ga K "Frames") "is_soiled" (He.ma K (He.ga K "Frames") "is_soiled") := He.meth_ok (T.says.fact 80 (f := .meth "Frames" "is_soiled") rfl)
theorem Tx.m_Frames_least_free (T : Tx K mg) : Meth K (He.ga K "Frames") "least_free" (He.ma K (He.ga K "Frames") "least_free") := He.meth_ok (T.says.fact 81 (f := .meth "Frames" "least_free") rfl)
theorem Tx.m_Frames_where (T : Tx K mg) : Meth K (He.ga K "Frames") "where" (He.ma K (He.ga K "Frames") "where") := He.meth_ok (T.says.fact 82 (f := .meth "Frames" "where") rfl)
theorem Tx.m_Frames_things (T : Tx K mg) : Meth K (He.ga K "Frames") "things" (He.ma K (He.ga K "Frames") "things") := He.meth_ok (T.says.fact 83 (f := .meth "Frames" "things") rfl)
theorem Tx.m_Shelf_put_on (T : Tx K mg) : Meth K (He.ga K "Shelf") "put_on" (He.ma K (He.ga K "Shelf") "put_on") := He.meth_ok (T.says.fact 84 (f := .meth "Shelf" "put_on") rfl)
theorem Tx.m_Shelf_take_off (T : Tx K mg) : Meth K (He.ga K "Shelf") "take_off" (He.ma K (He.ga K "Shelf") "take_off") := He.meth_ok (T.says.fact 85 (f := .meth "Shelf" "take_off") rfl)
theorem Tx.m_Shelf_row_of_sheet (T : Tx K mg) : Meth K (He.ga K "Shelf") "row_of_sheet" (He.ma K (He.ga K "Shelf") "row_of_sheet") := He.meth_ok (T.says.fact 86 (f := .meth "Shelf" "row_of_sheet") rfl)
theorem Tx.m_Shelf_is_full (T : Tx K mg) : Meth K (He.ga K "Shelf") "is_full" (He.ma K (He.ga K "Shelf") "is_full") := He.meth_ok (T.says.fact 87 (f := .meth "Shelf" "is_full") rfl)
theorem Tx.m_Shelf_sheets (T : Tx K mg) : Meth K (He.ga K "Shelf") "sheets" (He.ma K (He.ga K "Shelf") "sheets") := He.meth_ok (T.says.fact 88 (f := .meth "Shelf" "sheets") rfl)
theorem Tx.k_Dial (T : Tx K mg) : Mk K (He.ga K "Dial") (He.ma K (He.ga K "Dial") "__init__") := He.mkr_ok (T.says.fact 89 (f := .mkr "Dial") rfl)
theorem Tx.k_Files (T : Tx K mg) : Mk K (He.ga K "Files") (He.ma K (He.ga K "Files") "__init__") := He.mkr_ok (T.says.fact 90 (f := .mkr "Files") rfl)
theorem Tx.k_Frames (T : Tx K mg) : Mk K (He.ga K "Frames") (He.ma K (He.ga K "Frames") "__init__") := He.mkr_ok (T.says.fact 91 (f := .mkr "Frames") rfl)
theorem Tx.k_Shelf (T : Tx K mg) : Mk K (He.ga K "Shelf") (He.ma K (He.ga K "Shelf") "__init__") := He.mkr_ok (T.says.fact 92 (f := .mkr "Shelf") rfl)
theorem Tx.k_Store (T : Tx K mg) : Mk K (He.ga K "Store") (He.ma K (He.ga K "Store") "__init__") := He.mkr_ok (T.says.fact 93 (f := .mkr "Store") rfl)
theorem Tx.x_Full (T : Tx K mg) : (He.Fa.exc "Full").ok K = true := T.says.fact 94 (f := .exc "Full") rfl
theorem Tx.e_Full (T : Tx K mg) : (He.Fa.exm "Full" "Full" true).ok K = true := T.says.fact 95 (f := .exm "Full" "Full" true) rfl
theorem Tx.fd_Dial_init (T : Tx K mg) : ∃ fd, FunD K "__init__" "Dial.__init__" (defArgs s_Dial_init) (defBody s_Dial_init) (defScope s_Dial_init) [] [] (He.ma K (He.ga K "Dial") "__init__") fd := T.says.def_ 0 (d := d_Dial_init) rfl
theorem Tx.fd_Dial_touch (T : Tx K mg) : ∃ fd, FunD K "touch" "Dial.touch" (defArgs s_Dial_touch) (defBody s_Dial_touch) (defScope s_Dial_touch) [] [] (He.ma K (He.ga K "Dial") "touch") fd := T.says.def_ 1 (d := d_Dial_touch) rfl
theorem Tx.fd_Dial_clear (T : Tx K mg) : ∃ fd, FunD K "clear" "Dial.clear" (defArgs s_Dial_clear) (defBody s_Dial_clear) (defScope s_Dial_clear) [] [] (He.ma K (He.ga K "Dial") "clear") fd := T.says.def_ 2 (d := d_Dial_clear) rfl
theorem Tx.fd_Dial_turn_on (T : Tx K mg) : ∃ fd, FunD K "turn_on" "Dial.turn_on" (defArgs s_Dial_turn_on) (defBody s_Dial_turn_on) (defScope s_Dial_turn_on) [] [] (He.ma K (He.ga K "Dial") "turn_on") fd := T.says.def_ 3 (d := d_Dial_turn_on) rfl
theorem Tx.fd_Dial_choose (T : Tx K mg) : ∃ fd, FunD K "choose" "Dial.choose" (defArgs s_Dial_choose) (defBody s_Dial_choose) (defScope s_Dial_choose) [] [] (He.ma K (He.ga K "Dial") "choose") fd := T.says.def_ 4 (d := d_Dial_choose) rfl
theorem Tx.fd_Files_init (T : Tx K mg) : ∃ fd, FunD K "__init__" "Files.__init__" (defArgs s_Files_init) (defBody s_Files_init) (defScope s_Files_init) [] [] (He.ma K (He.ga K "Files") "__init__") fd := T.says.def_ 5 (d := d_Files_init) rfl
theorem Tx.fd_Files_make (T : Tx K mg) : ∃ fd, FunD K "make" "Files.make" (defArgs s_Files_make) (defBody s_Files_make) (defScope s_Files_make) [] [] (He.ma K (He.ga K "Files") "make") fd := T.says.def_ 6 (d := d_Files_make) rfl
theorem Tx.fd_Files_size_of (T : Tx K mg) : ∃ fd, FunD K "size_of" "Files.size_of" (defArgs s_Files_size_of) (defBody s_Files_size_of) (defScope s_Files_size_of) [] [] (He.ma K (He.ga K "Files") "size_of") fd := T.says.def_ 7 (d := d_Files_size_of) rfl
theorem Tx.fd_Files_ask_page (T : Tx K mg) : ∃ fd, FunD K "ask_page" "Files.ask_page" (defArgs s_Files_ask_page) (defBody s_Files_ask_page) (defScope s_Files_ask_page) [] [] (He.ma K (He.ga K "Files") "ask_page") fd := T.says.def_ 8 (d := d_Files_ask_page) rfl
theorem Tx.fd_Files_row_at (T : Tx K mg) : ∃ fd, FunD K "row_at" "Files.row_at" (defArgs s_Files_row_at) (defBody s_Files_row_at) (defScope s_Files_row_at) [] [] (He.ma K (He.ga K "Files") "row_at") fd := T.says.def_ 9 (d := d_Files_row_at) rfl
theorem Tx.fd_Files_store_row (T : Tx K mg) : ∃ fd, FunD K "store_row" "Files.store_row" (defArgs s_Files_store_row) (defBody s_Files_store_row) (defScope s_Files_store_row) [] [] (He.ma K (He.ga K "Files") "store_row") fd := T.says.def_ 10 (d := d_Files_store_row) rfl
theorem Tx.fd_Files_drop (T : Tx K mg) : ∃ fd, FunD K "drop" "Files.drop" (defArgs s_Files_drop) (defBody s_Files_drop) (defScope s_Files_drop) [] [] (He.ma K (He.ga K "Files") "drop") fd := T.says.def_ 11 (d := d_Files_drop) rfl
theorem Tx.fd_Files_names (T : Tx K mg) : ∃ fd, FunD K "names" "Files.names" (defArgs s_Files_names) (defBody s_Files_names) (defScope s_Files_names) [] [] (He.ma K (He.ga K "Files") "names") fd := T.says.def_ 12 (d := d_Files_names) rfl
theorem Tx.fd_with_cells (T : Tx K mg) : ∃ fd, FunD K "with_cells" "with_cells" (defArgs s_with_cells) (defBody s_with_cells) (defScope s_with_cells) [] [] (He.ga K "with_cells") fd := T.says.def_ 13 (d := d_with_cells) rfl
theorem Tx.fd_Frames_init (T : Tx K mg) : ∃ fd, FunD K "__init__" "Frames.__init__" (defArgs s_Frames_init) (defBody s_Frames_init) (defScope s_Frames_init) [] [] (He.ma K (He.ga K "Frames") "__init__") fd := T.says.def_ 14 (d := d_Frames_init) rfl
theorem Tx.fd_Frames_fill (T : Tx K mg) : ∃ fd, FunD K "fill" "Frames.fill" (defArgs s_Frames_fill) (defBody s_Frames_fill) (defScope s_Frames_fill) [] [] (He.ma K (He.ga K "Frames") "fill") fd := T.says.def_ 15 (d := d_Frames_fill) rfl
theorem Tx.fd_Frames_empty (T : Tx K mg) : ∃ fd, FunD K "empty" "Frames.empty" (defArgs s_Frames_empty) (defBody s_Frames_empty) (defScope s_Frames_empty) [] [] (He.ma K (He.ga K "Frames") "empty") fd := T.says.def_ 16 (d := d_Frames_empty) rfl
theorem Tx.fd_Frames_thing_in (T : Tx K mg) : ∃ fd, FunD K "thing_in" "Frames.thing_in" (defArgs s_Frames_thing_in) (defBody s_Frames_thing_in) (defScope s_Frames_thing_in) [] [] (He.ma K (He.ga K "Frames") "thing_in") fd := T.says.def_ 17 (d := d_Frames_thing_in) rfl
theorem Tx.fd_Frames_row_in (T : Tx K mg) : ∃ fd, FunD K "row_in" "Frames.row_in" (defArgs s_Frames_row_in) (defBody s_Frames_row_in) (defScope s_Frames_row_in) [] [] (He.ma K (He.ga K "Frames") "row_in") fd := T.says.def_ 18 (d := d_Frames_row_in) rfl
theorem Tx.fd_Frames_put_in (T : Tx K mg) : ∃ fd, FunD K "put_in" "Frames.put_in" (defArgs s_Frames_put_in) (defBody s_Frames_put_in) (defScope s_Frames_put_in) [] [] (He.ma K (He.ga K "Frames") "put_in") fd := T.says.def_ 19 (d := d_Frames_put_in) rfl
theorem Tx.fd_Frames_is_soiled (T : Tx K mg) : ∃ fd, FunD K "is_soiled" "Frames.is_soiled" (defArgs s_Frames_is_soiled) (defBody s_Frames_is_soiled) (defScope s_Frames_is_soiled) [] [] (He.ma K (He.ga K "Frames") "is_soiled") fd := T.says.def_ 20 (d := d_Frames_is_soiled) rfl
theorem Tx.fd_Frames_least_free (T : Tx K mg) : ∃ fd, FunD K "least_free" "Frames.least_free" (defArgs s_Frames_least_free) (defBody s_Frames_least_free) (defScope s_Frames_least_free) [] [] (He.ma K (He.ga K "Frames") "least_free") fd := T.says.def_ 21 (d := d_Frames_least_free) rfl
theorem Tx.fd_Frames_where (T : Tx K mg) : ∃ fd, FunD K "where" "Frames.where" (defArgs s_Frames_where) (defBody s_Frames_where) (defScope s_Frames_where) [] [] (He.ma K (He.ga K "Frames") "where") fd := T.says.def_ 22 (d := d_Frames_where) rfl
theorem Tx.fd_Frames_things (T : Tx K mg) : ∃ fd, FunD K "things" "Frames.things" (defArgs s_Frames_things) (defBody s_Frames_things) (defScope s_Frames_things) [] [] (He.ma K (He.ga K "Frames") "things") fd := T.says.def_ 23 (d := d_Frames_things) rfl
theorem Tx.fd_Shelf_init (T : Tx K mg) : ∃ fd, FunD K "__init__" "Shelf.__init__" (defArgs s_Shelf_init) (defBody s_Shelf_init) (defScope s_Shelf_init) [] [] (He.ma K (He.ga K "Shelf") "__init__") fd := T.says.def_ 24 (d := d_Shelf_init) rfl
theorem Tx.fd_Shelf_put_on (T : Tx K mg) : ∃ fd, FunD K "put_on" "Shelf.put_on" (defArgs s_Shelf_put_on) (defBody s_Shelf_put_on) (defScope s_Shelf_put_on) [] [] (He.ma K (He.ga K "Shelf") "put_on") fd := T.says.def_ 25 (d := d_Shelf_put_on) rfl
theorem Tx.fd_Shelf_take_off (T : Tx K mg) : ∃ fd, FunD K "take_off" "Shelf.take_off" (defArgs s_Shelf_take_off) (defBody s_Shelf_take_off) (defScope s_Shelf_take_off) [] [] (He.ma K (He.ga K "Shelf") "take_off") fd := T.says.def_ 26 (d := d_Shelf_take_off) rfl
theorem Tx.fd_Shelf_row_of_sheet (T : Tx K mg) : ∃ fd, FunD K "row_of_sheet" "Shelf.row_of_sheet" (defArgs s_Shelf_row_of_sheet) (defBody s_Shelf_row_of_sheet) (defScope s_Shelf_row_of_sheet) [] [] (He.ma K (He.ga K "Shelf") "row_of_sheet") fd := T.says.def_ 27 (d := d_Shelf_row_of_sheet) rfl
theorem Tx.fd_Shelf_is_full (T : Tx K mg) : ∃ fd, FunD K "is_full" "Shelf.is_full" (defArgs s_Shelf_is_full) (defBody s_Shelf_is_full) (defScope s_Shelf_is_full) [] [] (He.ma K (He.ga K "Shelf") "is_full") fd := T.says.def_ 28 (d := d_Shelf_is_full) rfl
theorem Tx.fd_Shelf_sheets (T : Tx K mg) : ∃ fd, FunD K "sheets" "Shelf.sheets" (defArgs s_Shelf_sheets) (defBody s_Shelf_sheets) (defScope s_Shelf_sheets) [] [] (He.ma K (He.ga K "Shelf") "sheets") fd := T.says.def_ 29 (d := d_Shelf_sheets) rfl
theorem Tx.fd_Store_init (T : Tx K mg) : ∃ fd, FunD K "__init__" "Store.__init__" (defArgs s_Store_init) (defBody s_Store_init) (defScope s_Store_init) [] [] (He.ma K (He.ga K "Store") "__init__") fd := T.says.def_ 30 (d := d_Store_init) rfl
theorem Tx.fd_set_free (T : Tx K mg) : ∃ fd, FunD K "set_free" "set_free" (defArgs s_set_free) (defBody s_set_free) (defScope s_set_free) [] [] (He.ga K "set_free") fd := T.says.def_ 31 (d := d_set_free) rfl
theorem Tx.fd_put_out (T : Tx K mg) : ∃ fd, FunD K "put_out" "put_out" (defArgs s_put_out) (defBody s_put_out) (defScope s_put_out) [] [] (He.ga K "put_out") fd := T.says.def_ 32 (d := d_put_out) rfl
theorem Tx.fd_have_frame (T : Tx K mg) : ∃ fd, FunD K "have_frame" "have_frame" (defArgs s_have_frame) (defBody s_have_frame) (defScope s_have_frame) [] [] (He.ga K "have_frame") fd := T.says.def_ 33 (d := d_have_frame) rfl
theorem Tx.fd_bring (T : Tx K mg) : ∃ fd, FunD K "bring" "bring" (defArgs s_bring) (defBody s_bring) (defScope s_bring) [] [] (He.ga K "bring") fd := T.says.def_ 34 (d := d_bring) rfl
theorem Tx.fd_row_now (T : Tx K mg) : ∃ fd, FunD K "row_now" "row_now" (defArgs s_row_now) (defBody s_row_now) (defScope s_row_now) [] [] (He.ga K "row_now") fd := T.says.def_ 35 (d := d_row_now) rfl
theorem Tx.fd_file_now (T : Tx K mg) : ∃ fd, FunD K "file_now" "file_now" (defArgs s_file_now) (defBody s_file_now) (defScope s_file_now) [] [] (He.ga K "file_now") fd := T.says.def_ 36 (d := d_file_now) rfl
theorem Tx.fd_forget_file (T : Tx K mg) : ∃ fd, FunD K "forget_file" "forget_file" (defArgs s_forget_file) (defBody s_forget_file) (defScope s_forget_file) [] [] (He.ga K "forget_file") fd := T.says.def_ 37 (d := d_forget_file) rfl
theorem Tx.fd_room_of (T : Tx K mg) : ∃ fd, FunD K "room_of" "room_of" (defArgs s_room_of) (defBody s_room_of) (defScope s_room_of) [] [] (He.ga K "room_of") fd := T.says.def_ 38 (d := d_room_of) rfl
theorem Tx.fd_new_sheet (T : Tx K mg) : ∃ fd, FunD K "new_sheet" "new_sheet" (defArgs s_new_sheet) (defBody s_new_sheet) (defScope s_new_sheet) [] [] (He.ga K "new_sheet") fd := T.says.def_ 39 (d := d_new_sheet) rfl
theorem Tx.fd_hold (T : Tx K mg) : ∃ fd, FunD K "hold" "hold" (defArgs s_hold) (defBody s_hold) (defScope s_hold) [] [] (He.ga K "hold") fd := T.says.def_ 40 (d := d_hold) rfl
theorem Tx.fd_let_go (T : Tx K mg) : ∃ fd, FunD K "let_go" "let_go" (defArgs s_let_go) (defBody s_let_go) (defScope s_let_go) [] [] (He.ga K "let_go") fd := T.says.def_ 41 (d := d_let_go) rfl
theorem Tx.fd_l_cell_at (T : Tx K mg) : ∃ fd, FunD K "_law_cell_at" "_law_cell_at" (defArgs s_l_cell_at) (defBody s_l_cell_at) (defScope s_l_cell_at) [] [] (He.ga K "_law_cell_at") fd := T.says.def_ 42 (d := d_l_cell_at) rfl
theorem Tx.fd_l_whole (T : Tx K mg) : ∃ fd, FunD K "_law_whole" "_law_whole" (defArgs s_l_whole) (defBody s_l_whole) (defScope s_l_whole) [] [] (He.ga K "_law_whole") fd := T.says.def_ 43 (d := d_l_whole) rfl
theorem Tx.fd_l_alike (T : Tx K mg) : ∃ fd, FunD K "_law_alike" "_law_alike" (defArgs s_l_alike) (defBody s_l_alike) (defScope s_l_alike) [] [] (He.ga K "_law_alike") fd := T.says.def_ 44 (d := d_l_alike) rfl
theorem Tx.fd_l_num (T : Tx K mg) : ∃ fd, FunD K "_law_num" "_law_num" (defArgs s_l_num) (defBody s_l_num) (defScope s_l_num) [] [] (He.ga K "_law_num") fd := T.says.def_ 45 (d := d_l_num) rfl
theorem Tx.fd_l_row (T : Tx K mg) : ∃ fd, FunD K "_law_row" "_law_row" (defArgs s_l_row) (defBody s_l_row) (defScope s_l_row) [] [] (He.ga K "_law_row") fd := T.says.def_ 46 (d := d_l_row) rfl
theorem Tx.fd_l_name (T : Tx K mg) : ∃ fd, FunD K "_law_name" "_law_name" (defArgs s_l_name) (defBody s_l_name) (defScope s_l_name) [] [] (He.ga K "_law_name") fd := T.says.def_ 47 (d := d_l_name) rfl
theorem Tx.fd_l_laid_in (T : Tx K mg) : ∃ fd, FunD K "_law_laid_in" "_law_laid_in" (defArgs s_l_laid_in) (defBody s_l_laid_in) (defScope s_l_laid_in) [] [] (He.ga K "_law_laid_in") fd := T.says.def_ 48 (d := d_l_laid_in) rfl
theorem Tx.fd_l_sizes (T : Tx K mg) : ∃ fd, FunD K "_law_sizes" "_law_sizes" (defArgs s_l_sizes) (defBody s_l_sizes) (defScope s_l_sizes) [] [] (He.ga K "_law_sizes") fd := T.says.def_ 49 (d := d_l_sizes) rfl
theorem Tx.fd_l_new (T : Tx K mg) : ∃ fd, FunD K "_law_new" "_law_new" (defArgs s_l_new) (defBody s_l_new) (defScope s_l_new) [] [] (He.ga K "_law_new") fd := T.says.def_ 50 (d := d_l_new) rfl
theorem Tx.fd_l_file (T : Tx K mg) : ∃ fd, FunD K "_law_file" "_law_file" (defArgs s_l_file) (defBody s_l_file) (defScope s_l_file) [] [] (He.ga K "_law_file") fd := T.says.def_ 51 (d := d_l_file) rfl
theorem Tx.fd_l_counted (T : Tx K mg) : ∃ fd, FunD K "_law_counted" "_law_counted" (defArgs s_l_counted) (defBody s_l_counted) (defScope s_l_counted) [] [] (He.ga K "_law_counted") fd := T.says.def_ 52 (d := d_l_counted) rfl
theorem Tx.fd_l_moved (T : Tx K mg) : ∃ fd, FunD K "_law_moved" "_law_moved" (defArgs s_l_moved) (defBody s_l_moved) (defScope s_l_moved) [] [] (He.ga K "_law_moved") fd := T.says.def_ 53 (d := d_l_moved) rfl
theorem Tx.fd_l_written (T : Tx K mg) : ∃ fd, FunD K "_law_written" "_law_written" (defArgs s_l_written) (defBody s_l_written) (defScope s_l_written) [] [] (He.ga K "_law_written") fd := T.says.def_ 54 (d := d_l_written) rfl
theorem Tx.fd_l_copied (T : Tx K mg) : ∃ fd, FunD K "_law_copied" "_law_copied" (defArgs s_l_copied) (defBody s_l_copied) (defScope s_l_copied) [] [] (He.ga K "_law_copied") fd := T.says.def_ 55 (d := d_l_copied) rfl
theorem Tx.fd_l_deed (T : Tx K mg) : ∃ fd, FunD K "_law_deed" "_law_deed" (defArgs s_l_deed) (defBody s_l_deed) (defScope s_l_deed) [] [] (He.ga K "_law_deed") fd := T.says.def_ 56 (d := d_l_deed) rfl
theorem Tx.fd_l_is_kept (T : Tx K mg) : ∃ fd, FunD K "_law_is_kept" "_law_is_kept" (defArgs s_l_is_kept) (defBody s_l_is_kept) (defScope s_l_is_kept) [] [] (He.ga K "_law_is_kept") fd := T.says.def_ 57 (d := d_l_is_kept) rfl
theorem Tx.fd_l_is_all (T : Tx K mg) : ∃ fd, FunD K "_law_is_all" "_law_is_all" (defArgs s_l_is_all) (defBody s_l_is_all) (defScope s_l_is_all) [] [] (He.ga K "_law_is_all") fd := T.says.def_ 58 (d := d_l_is_all) rfl
theorem Tx.fd_law (T : Tx K mg) : ∃ fd, FunD K "law" "law" (defArgs s_law) (defBody s_law) (defScope s_law) [] [] (He.ga K "law") fd := T.says.def_ 59 (d := d_law) rfl
end
theorem sc_Dial_init : FnScope ["self", "many", "frame"] ["self", "many"] (defScope s_Dial_init) := C8.fnScope_by (by decide +kernel)
theorem sc_Dial_touch : FnScope ["self", "frame"] ["self", "frame"] (defScope s_Dial_touch) := C8.fnScope_by (by decide +kernel)
theorem sc_Dial_clear : FnScope ["self", "frame"] ["self", "frame"] (defScope s_Dial_clear) := C8.fnScope_by (by decide +kernel)
theorem sc_Dial_turn_on : FnScope ["self", "here"] ["self"] (defScope s_Dial_turn_on) := C8.fnScope_by (by decide +kernel)
theorem sc_Dial_choose : FnScope ["self", "may", "here"] ["self", "may"] (defScope s_Dial_choose) := C8.fnScope_by (by decide +kernel)
theorem sc_Files_init : FnScope ["self"] ["self"] (defScope s_Files_init) := C8.fnScope_by (by decide +kernel)
theorem sc_Files_make : FnScope ["self", "name", "rows", "row"] ["self", "name", "rows"] (defScope s_Files_make) := C8.fnScope_by (by decide +kernel)
theorem sc_Files_size_of : FnScope ["self", "name"] ["self", "name"] (defScope s_Files_size_of) := C8.fnScope_by (by decide +kernel)
theorem sc_Files_ask_page : FnScope ["self", "name", "page"] ["self", "name", "page"] (defScope s_Files_ask_page) := C8.fnScope_by (by decide +kernel)
theorem sc_Files_row_at : FnScope ["self", "name", "page"] ["self", "name", "page"] (defScope s_Files_row_at) := C8.fnScope_by (by decide +kernel)
theorem sc_Files_store_row : FnScope ["self", "name", "page", "row"] ["self", "name", "page", "row"] (defScope s_Files_store_row) := C8.fnScope_by (by decide +kernel)
theorem sc_Files_drop : FnScope ["self", "name"] ["self", "name"] (defScope s_Files_drop) := C8.fnScope_by (by decide +kernel)
theorem sc_Files_names : FnScope ["self"] ["self"] (defScope s_Files_names) := C8.fnScope_by (by decide +kernel)
theorem sc_with_cells : FnScope ["row", "cell", "numbers"] ["row", "cell", "numbers"] (defScope s_with_cells) := C8.fnScope_by (by decide +kernel)
theorem sc_Frames_init : FnScope ["self", "many", "frame"] ["self", "many"] (defScope s_Frames_init) := C8.fnScope_by (by decide +kernel)
theorem sc_Frames_fill : FnScope ["self", "frame", "thing", "row"] ["self", "frame", "thing", "row"] (defScope s_Frames_fill) := C8.fnScope_by (by decide +kernel)
theorem sc_Frames_empty : FnScope ["self", "frame"] ["self", "frame"] (defScope s_Frames_empty) := C8.fnScope_by (by decide +kernel)
theorem sc_Frames_thing_in : FnScope ["self", "frame"] ["self", "frame"] (defScope s_Frames_thing_in) := C8.fnScope_by (by decide +kernel)
theorem sc_Frames_row_in : FnScope ["self", "frame"] ["self", "frame"] (defScope s_Frames_row_in) := C8.fnScope_by (by decide +kernel)
theorem sc_Frames_put_in : FnScope ["self", "frame", "cell", "numbers"] ["self", "frame", "cell", "numbers"] (defScope s_Frames_put_in) := C8.fnScope_by (by decide +kernel)
theorem sc_Frames_is_soiled : FnScope ["self", "frame"] ["self", "frame"] (defScope s_Frames_is_soiled) := C8.fnScope_by (by decide +kernel)
theorem sc_Frames_least_free : FnScope ["self", "frame"] ["self"] (defScope s_Frames_least_free) := C8.fnScope_by (by decide +kernel)
theorem sc_Frames_where : FnScope ["self", "thing", "frame"] ["self", "thing"] (defScope s_Frames_where) := C8.fnScope_by (by decide +kernel)
theorem sc_Frames_things : FnScope ["self"] ["self"] (defScope s_Frames_things) := C8.fnScope_by (by decide +kernel)
theorem sc_Shelf_init : FnScope ["self", "many", "place"] ["self", "many"] (defScope s_Shelf_init) := C8.fnScope_by (by decide +kernel)
theorem sc_Shelf_put_on : FnScope ["self", "sheet", "row", "place"] ["self", "sheet", "row"] (defScope s_Shelf_put_on) := C8.fnScope_by (by decide +kernel)
theorem sc_Shelf_take_off : FnScope ["self", "sheet", "place"] ["self", "sheet"] (defScope s_Shelf_take_off) := C8.fnScope_by (by decide +kernel)
theorem sc_Shelf_row_of_sheet : FnScope ["self", "sheet"] ["self", "sheet"] (defScope s_Shelf_row_of_sheet) := C8.fnScope_by (by decide +kernel)
theorem sc_Shelf_is_full : FnScope ["self"] ["self"] (defScope s_Shelf_is_full) := C8.fnScope_by (by decide +kernel)
theorem sc_Shelf_sheets : FnScope ["self"] ["self"] (defScope s_Shelf_sheets) := C8.fnScope_by (by decide +kernel)
theorem sc_Store_init : FnScope ["self", "many", "places"] ["self", "many", "places"] (defScope s_Store_init) := C8.fnScope_by (by decide +kernel)
theorem sc_set_free : FnScope ["store", "frame"] ["store", "frame"] (defScope s_set_free) := C8.fnScope_by (by decide +kernel)
theorem sc_put_out : FnScope ["store", "frame", "thing", "row"] ["store", "frame"] (defScope s_put_out) := C8.fnScope_by (by decide +kernel)
theorem sc_have_frame : FnScope ["store", "frame", "full", "may", "thing"] ["store"] (defScope s_have_frame) := C8.fnScope_by (by decide +kernel)
theorem sc_bring : FnScope ["store", "thing", "frame", "row"] ["store", "thing"] (defScope s_bring) := C8.fnScope_by (by decide +kernel)
theorem sc_row_now : FnScope ["store", "thing", "frame"] ["store", "thing"] (defScope s_row_now) := C8.fnScope_by (by decide +kernel)
theorem sc_file_now : FnScope ["store", "name", "many", "page"] ["store", "name"] (defScope s_file_now) := C8.fnScope_by (by decide +kernel)
theorem sc_forget_file : FnScope ["store", "name", "held", "frame"] ["store", "name"] (defScope s_forget_file) := C8.fnScope_by (by decide +kernel)
theorem sc_room_of : FnScope ["store", "most"] ["store"] (defScope s_room_of) := C8.fnScope_by (by decide +kernel)
theorem sc_new_sheet : FnScope ["store", "row", "frame"] ["store", "row"] (defScope s_new_sheet) := C8.fnScope_by (by decide +kernel)
theorem sc_hold : FnScope ["store", "sheet"] ["store", "sheet"] (defScope s_hold) := C8.fnScope_by (by decide +kernel)
theorem sc_let_go : FnScope ["store", "sheet", "left", "frame"] ["store", "sheet"] (defScope s_let_go) := C8.fnScope_by (by decide +kernel)
theorem sc_l_cell_at : FnScope ["_law_script", "_law_k"] ["_law_script", "_law_k"] (defScope s_l_cell_at) := C8.fnScope_by (by decide +kernel)
theorem sc_l_whole : FnScope ["_law_found"] ["_law_found"] (defScope s_l_whole) := C8.fnScope_by (by decide +kernel)
theorem sc_l_alike : FnScope ["_law_found", "_law_due", "_law_k"] ["_law_found", "_law_due"] (defScope s_l_alike) := C8.fnScope_by (by decide +kernel)
theorem sc_l_num : FnScope ["_law_cell", "_law_k", "_law_most", "_law_big", "_law_way"] ["_law_cell", "_law_k"] (defScope s_l_num) := C8.fnScope_by (by decide +kernel)
theorem sc_l_row : FnScope ["_law_cell", "_law_k"] ["_law_cell"] (defScope s_l_row) := C8.fnScope_by (by decide +kernel)
theorem sc_l_name : FnScope ["_law_cell", "_law_turn", "_law_letters", "_law_size", "_law_spot", "_law_name_here", "_law_k", "_law_sign"] ["_law_cell", "_law_turn"] (defScope s_l_name) := C8.fnScope_by (by decide +kernel)
theorem sc_l_laid_in : FnScope ["_law_row_here", "_law_cell", "_law_nums", "_law_due", "_law_k"] ["_law_row_here", "_law_cell", "_law_nums"] (defScope s_l_laid_in) := C8.fnScope_by (by decide +kernel)
theorem sc_l_sizes : FnScope ["_law_cell"] ["_law_cell"] (defScope s_l_sizes) := C8.fnScope_by (by decide +kernel)
theorem sc_l_new : FnScope ["_law_store", "_law_rows", "_law_holders", "_law_room", "_law_row_here", "_law_left", "_law_sheet", "_law_refused", "_law_found", "_law_handed"] ["_law_store", "_law_rows", "_law_holders", "_law_room", "_law_row_here"] (defScope s_l_new) := C8.fnScope_by (by decide +kernel)
theorem sc_l_file : FnScope ["_law_store", "_law_rows", "_law_sizes_here", "_law_name_here", "_law_cell", "_law_page", "_law_many", "_law_made", "_law_k", "_law_handed", "_law_row_here"] ["_law_store", "_law_rows", "_law_sizes_here", "_law_name_here", "_law_cell"] (defScope s_l_file) := C8.fnScope_by (by decide +kernel)
theorem sc_l_counted : FnScope ["_law_store", "_law_rows", "_law_holders", "_law_cell", "_law_some", "_law_sheet"] ["_law_store", "_law_rows", "_law_holders", "_law_cell"] (defScope s_l_counted) := C8.fnScope_by (by decide +kernel)
theorem sc_l_moved : FnScope ["_law_store", "_law_many", "_law_rows", "_law_cell", "_law_frame", "_law_told", "_law_held"] ["_law_store", "_law_many", "_law_rows", "_law_cell"] (defScope s_l_moved) := C8.fnScope_by (by decide +kernel)
theorem sc_l_written : FnScope ["_law_store", "_law_many", "_law_rows", "_law_cell", "_law_things", "_law_thing", "_law_found", "_law_frame", "_law_at", "_law_nums", "_law_k"] ["_law_store", "_law_many", "_law_rows", "_law_cell"] (defScope s_l_written) := C8.fnScope_by (by decide +kernel)
theorem sc_l_copied : FnScope ["_law_store", "_law_rows", "_law_holders", "_law_room", "_law_cell", "_law_things", "_law_thing", "_law_row_here"] ["_law_store", "_law_rows", "_law_holders", "_law_room", "_law_cell"] (defScope s_l_copied) := C8.fnScope_by (by decide +kernel)
theorem sc_l_deed : FnScope ["_law_store", "_law_many", "_law_room", "_law_rows", "_law_holders", "_law_sizes_here", "_law_name_here", "_law_cell", "_law_kind"] ["_law_store", "_law_many", "_law_room", "_law_rows", "_law_holders", "_law_sizes_here", "_law_name_here", "_law_cell"] (defScope s_l_deed) := C8.fnScope_by (by decide +kernel)
theorem sc_l_is_kept : FnScope ["_law_store", "_law_rows", "_law_sizes_here", "_law_name_here", "_law_cell", "_law_things", "_law_thing", "_law_page"] ["_law_store", "_law_rows", "_law_sizes_here", "_law_name_here", "_law_cell"] (defScope s_l_is_kept) := C8.fnScope_by (by decide +kernel)
theorem sc_l_is_all : FnScope ["_law_store", "_law_rows", "_law_thing", "_law_found"] ["_law_store", "_law_rows"] (defScope s_l_is_all) := C8.fnScope_by (by decide +kernel)
theorem sc_law : FnScope ["_law_script", "_law_sizes_here", "_law_stores", "_law_names", "_law_turn", "_law_rows", "_law_holders", "_law_files", "_law_raw", "_law_cell", "_law_at", "_law_name_here", "_law_room", "_law_k", "_law_which"] ["_law_script"] (defScope s_law) := C8.fnScope_by (by decide +kernel)
/-! ### a def by its body -/
section
variable {P : Program} {w : World} {K : PySem.W.Frag} {mg : Str → Option Value} {base : Heap} {x qual m : Str} {args : Arguments} {body : List Stmt} {sc : Scope} {f C : Addr} {N ps : List Str} {k : Nat} {sp : Sp}
theorem mkCal (h : ∃ fd, FunD K x x args body sc [] [] f fd) (hm : mg x = some (.ref f)) (S : FnScope N ps sc)
    (bnd : ∀ (kV doc pm : Value) (an : Option Addr) (cdv ct : Value) (us : List Value), us.length = ps.length → bindArgs (PySem.W.fnOf x x args body sc .none kV doc pm an cdv ct) ⟨us, []⟩ = pure (ps.zip us))
    (len : ∀ vs H Q E, sp vs H Q E → vs.length = ps.length)
    (hbody : ∀ (cdv : Value) (A : Around) (outer : List Env) (s : Shared) (H : Hp) (vs : List V) (Q : VK) (E : XK), Room k (A.deeper (envOfC x sc s.heap.objs.size f cdv)) → sp vs H Q E →
      ∃ t, PSs (cxOf C8.CX0 P w K mg base N x sc f cdv A outer s H E).nox body t ∧ t { nx := fun _ H' => Q .non H', rt := Q } (start N vs) H) : C8.Cal P w K mg base (k + 1) x sp [] := by
  obtain ⟨fd, F⟩ := h
  refine ⟨f, fd, ps, [], F.ok S len fun cdv A outer s H vs Q E hr hsp => ?_, hm, F.kp, F.bindsN bnd, .nil⟩
  obtain ⟨t, ht, q⟩ := hbody cdv A outer s H vs Q E hr hsp
  exact ⟨t, ht.nox, q⟩
theorem mkMet (h : ∃ fd, FunD K m qual args body sc [] [] f fd) (c : Cls K C) (me : Meth K C m f) (S : FnScope N ps sc)
    (bnd : ∀ (kV doc pm : Value) (an : Option Addr) (cdv ct : Value) (us : List Value), us.length = ps.length → bindArgs (PySem.W.fnOf m qual args body sc .none kV doc pm an cdv ct) ⟨us, []⟩ = pure (ps.zip us))
    (len : ∀ vs H Q E, sp vs H Q E → vs.length = ps.length)
    (hbody : ∀ (cdv : Value) (A : Around) (outer : List Env) (s : Shared) (H : Hp) (vs : List V) (Q : VK) (E : XK), Room k (A.deeper (envOfC qual sc s.heap.objs.size f cdv)) → sp vs H Q E →
      ∃ t, PSs (cxOf C8.CX0 P w K mg base N qual sc f cdv A outer s H E).nox body t ∧ t { nx := fun _ H' => Q .non H', rt := Q } (start N vs) H) : C8.Met P w K mg base (k + 1) C m sp [] := by
  obtain ⟨fd, F⟩ := h
  refine ⟨f, fd, ps, [], c, me, F.ok S len fun cdv A outer s H vs Q E hr hsp => ?_, F.bindsN bnd, .nil⟩
  obtain ⟨t, ht, q⟩ := hbody cdv A outer s H vs Q E hr hsp
  exact ⟨t, ht.nox, q⟩
theorem mkMak (h : ∃ fd, FunD K "__init__" qual args body sc [] [] f fd) (M : Mk K C f) (hm : mg x = some (.ref C)) (S : FnScope N ps sc)
    (bnd : ∀ (kV doc pm : Value) (an : Option Addr) (cdv ct : Value) (us : List Value), us.length = ps.length → bindArgs (PySem.W.fnOf "__init__" qual args body sc .none kV doc pm an cdv ct) ⟨us, []⟩ = pure (ps.zip us))
    (len : ∀ vs H Q E, sp vs H Q E → vs.length = ps.length)
    (hbody : ∀ (cdv : Value) (A : Around) (outer : List Env) (s : Shared) (H : Hp) (vs : List V) (Q : VK) (E : XK), Room k (A.deeper (envOfC qual sc s.heap.objs.size f cdv)) → sp vs H Q E →
      ∃ t, PSs (cxOf C8.CX0 P w K mg base N qual sc f cdv A outer s H E).nox body t ∧ t { nx := fun _ H' => Q .non H', rt := Q } (start N vs) H) : C8.Mak P w K mg base (k + 1) x C sp [] := by
  obtain ⟨fd, F⟩ := h
  refine ⟨f, fd, ps, [], M, F.ok S len fun cdv A outer s H vs Q E hr hsp => ?_, hm, F.bindsN bnd, .nil⟩
  obtain ⟨t, ht, q⟩ := hbody cdv A outer s H vs Q E hr hsp
  exact ⟨t, ht.nox, q⟩
end
section
variable {X : Cx} {k j : Nat} {C : Addr} {x m : Str} {sp : Sp} {dvs : List V} {p pos apos : Pos} {e o : Expr} {es : List Expr} {ta : TE} {t : TA}
/-- C() of no written argument -/
theorem pe_mk0 (c : C8.Mak X.prog X.w X.K X.mg X.base k x C sp dvs) (hr : Room j X.A) (hk : k + 1 ≤ j) (hg : Gl X x)
    (hdb : (x == ("__debug__" : Str)) = false := by decide) :
    PE X (.Call (.Name x p) [] [] pos) (tMake C sp dvs C8.E0 tNil) := by
  obtain ⟨f, fd, ps, ds, M, F, hm, b, d⟩ := c.ex
  exact pe_make0 M F (hr.mono hk) hg hm b d C8.pass0 hdb
/-- dict.pop of one tuple key that is there -/
def rPopT1 : V → List V → Hp → VK → Prop := fun x xs H Q => ∃ (a : Addr) (kvs : List (List L2.Key × V)) (k : List L2.Key) (b : Addr) (v : V), x = .ref a ∧ xs = [.ref b] ∧ H a = some (.dT kvs) ∧ H b = some (.tup (k.map kV)) ∧
  valV kvs k = some v ∧ Q v (upd H a (.dT (dropK kvs k)))
theorem mt_popT1 (hu : X.A.units + 1 < cLine) : MtR X "dict.pop" rPopT1 := by
  intro pins s σ H x xs v us Q I rx rxs h
  obtain ⟨a, kvs, k, b, v1, rfl, rfl, ha, hb, hv, q1⟩ := h
  cases rx
  obtain ⟨u1, rfl, r1⟩ := vals1 rxs
  cases r1
  obtain ⟨z, hd, xs', rel, dd⟩ := dt_of I.hok ha
  have hz : xs'.length ≤ sizeLine := by rw [← Paired.length rel]; exact z
  have r := rel.val k
  rw [hv] at r
  cases hp : atKey xs' k with
  | none =>
    rw [hp] at r
    exact (show False from r).elim
  | some p =>
    rw [hp] at r
    refine PySem.call_pop_heap (more := []) (.inl rfl) (PySem.F.args_dict_pop_2 _ _) (tupleKind_room_in1 hu) (key_of I.hok hb) hd dd hp (fun h' dd' hs => ?_) hz
    obtain ⟨o, es, ep, hq, h2, h3, h4, _, h5⟩ := dd'
    exact ⟨v1, upd H a (.dT (dropK kvs k)), d_write (ob := .dT (dropK kvs k)) I (by rw [ha]; exact True.intro) hs ⟨o, hq⟩ ⟨Nat.le_trans (dropK_le kvs k) z, hd, _, (DX.KT_drop k rel).keeps (fun c ys ec => (by rw [upd_ne (ne_of ec ha (fun z => nomatch z))]; exact ec)), o, es, ep, hq, h2, h3, h4, h5⟩, r, q1⟩
end
end Pw


set_option Elab.async false
set_option linter.all false
set_option maxRecDepth 100000
set_option maxHeartbeats 4000000
namespace Pw
open PySem PySem.Spec PyProof.Rows L2
/-! ### data -/
inductive Thing where
  | own (s : Int)
  | file (n : Str) (p : Int)
  deriving DecidableEq
def Thing.key : Thing → List Key
  | .own s => [.inr "own", .inl s]
  | .file n p => [.inr "file", .inr n, .inl p]
theorem own_ne_file : ¬ (("own" : Str) = "file") := by decide +kernel
theorem Thing.key_inj : ∀ {t u : Thing}, t.key = u.key → t = u := by
  intro t u h
  cases t <;> cases u <;> simp [Thing.key] at h
  · rw [h]
  · rw [h.1, h.2]
abbrev Row := List Int
/-! ### who may change what: roles of tracked objects; what has none is never changed -/
abbrev Own := Addr → Option Nat
def Nt (o : HO) : Prop := ∀ xs, o ≠ .tup xs
def Dm (O : Own) (H : Hp) : Prop := ∀ a r, O a = some r → ∃ o, H a = some o ∧ Nt o
/-- what is without a role, or of a role outside P, stands as it stood -/
structure Kp (P : Nat → Prop) (O : Own) (H : Hp) (O' : Own) (H' : Hp) : Prop where
  at_none : ∀ {b : Addr} {o : HO}, H b = some o → O b = none → H' b = some o ∧ O' b = none
  at_role : ∀ {b : Addr} {o : HO} {r : Nat}, H b = some o → O b = some r → ¬ P r → H' b = some o ∧ O' b = some r
structure Stp (P : Nat → Prop) (O : Own) (H : Hp) (O' : Own) (H' : Hp) : Prop where
  kp : ∀ b o, H b = some o → (∀ r, O b = some r → ¬ P r) → H' b = some o
  ext : ∀ a, O' a = O a ∨ H a = none
  live : ∀ a o, H a = some o → ∃ o', H' a = some o'
  dm : Dm O' H'
abbrev Nop : Nat → Prop := fun _ => False
section
variable {P P' : Nat → Prop} {O O1 O2 : Own} {H H1 H2 : Hp} {a : Addr} {o : HO} {r : Nat}
theorem Dm.none (d : Dm O H) (h : H a = none) : O a = none := by
  cases e : O a with
  | none => rfl
  | some r =>
    obtain ⟨o, ho, _⟩ := d a r e
    rw [h] at ho
    cases ho
theorem Dm.tup (d : Dm O H) {xs : List V} (h : H a = some (.tup xs)) : O a = Option.none := by
  cases e : O a with
  | none => rfl
  | some r =>
    obtain ⟨o, ho, nt⟩ := d a r e
    rw [h] at ho
    cases ho
    exact absurd rfl (nt xs)
theorem Stp.refl (d : Dm O H) : Stp P O H O H := ⟨fun _ _ h _ => h, fun _ => .inl rfl, fun _ o h => ⟨o, h⟩, d⟩
theorem Stp.own (a : Stp P O H O1 H1) {b : Addr} {o : HO} (h : H b = some o) : O1 b = O b := (a.ext b).resolve_right fun z => by rw [h] at z; cases z
theorem Stp.trans (a : Stp P O H O1 H1) (b : Stp P O1 H1 O2 H2) : Stp P O H O2 H2 := by
  refine ⟨fun c u h n => b.kp c u (a.kp c u h n) fun r e => n r (by rw [← a.own h]; exact e), fun c => ?_, fun c u h => ?_, b.dm⟩
  · cases e : H c with
    | none => exact .inr rfl
    | some u =>
      obtain ⟨u', hu⟩ := a.live c u e
      exact .inl ((b.own hu).trans (a.own e))
  · obtain ⟨u', hu⟩ := a.live c u h
    exact b.live c u' hu
theorem Stp.mono (a : Stp P O H O1 H1) (h : ∀ r, P r → P' r) : Stp P' O H O1 H1 := ⟨fun c u e n => a.kp c u e fun r z p => n r z (h r p), a.ext, a.live, a.dm⟩
theorem Stp.nop (a : Stp Nop O H O1 H1) : Stp P O H O1 H1 := a.mono fun _ h => h.elim
theorem Stp.same (a : Stp Nop O H O1 H1) : Same H H1 := fun b o e => a.kp b o e fun _ _ h => h
theorem Stp.of_same (d : Dm O H) (s : Same H H1) : Stp P O H O H1 := ⟨fun b o e _ => s b o e, fun _ => .inl rfl, fun b o e => ⟨o, s b o e⟩, fun a r e => let ⟨o, ho, nt⟩ := d a r e; ⟨o, s a o ho, nt⟩⟩
theorem Same.alloc (h : H a = none) : Same H (upd H a o) := fun b u e => by rw [upd_ne (ne_of_none e h)]; exact e
theorem live_upd {b : Addr} {u : HO} (h : H b = some u) : ∃ u', upd H a o b = some u' := by
  by_cases hb : b = a
  · exact ⟨o, by rw [hb]; exact upd_same⟩
  · exact ⟨u, by rw [upd_ne hb]; exact h⟩
theorem Dm.upd (d : Dm O H) (nt : Nt o) : Dm O (upd H a o) := fun b r e => by
  by_cases hb : b = a
  · exact ⟨o, by rw [hb]; exact upd_same, nt⟩
  · obtain ⟨u, hu, nu⟩ := d b r e
    exact ⟨u, by rw [upd_ne hb]; exact hu, nu⟩
theorem Dm.alloc (d : Dm O H) (h : H a = Option.none) : Dm O (L2.upd H a o) := fun b r e => by
  obtain ⟨u, hu, nu⟩ := d b r e
  exact ⟨u, by rw [upd_ne (ne_of_none hu h)]; exact hu, nu⟩
theorem Stp.alloc (d : Dm O H) (h : H a = none) : Stp P O H O (upd H a o) := ⟨fun b u e _ => by rw [upd_ne (ne_of_none e h)]; exact e, fun _ => .inl rfl, fun _ _ e => live_upd e, d.alloc h⟩
theorem Stp.write (d : Dm O H) (h : O a = some r) (p : P r) (nt : Nt o := by intro xs z; cases z) : Stp P O H O (upd H a o) := ⟨fun b u e n => by
  rw [upd_ne (fun z => n r (by rw [z]; exact h) p)]
  exact e, fun _ => .inl rfl, fun _ _ e => live_upd e, d.upd nt⟩
theorem Stp.at_none (a : Stp P O H O1 H1) {b : Addr} {o : HO} (e : H b = some o) (n : O b = Option.none) : H1 b = some o ∧ O1 b = Option.none := ⟨a.kp b o e (fun r z => by rw [n] at z; cases z), (a.own e).trans n⟩
theorem Stp.at_role (a : Stp P O H O1 H1) {b : Addr} {o : HO} {r : Nat} (e : H b = some o) (n : O b = some r) (h : ¬ P r) : H1 b = some o ∧ O1 b = some r := ⟨a.kp b o e (fun r' z => by rw [n] at z; cases z; exact h), (a.own e).trans n⟩
theorem Stp.kq (a : Stp P O H O1 H1) : Kp P O H O1 H1 := ⟨fun e n => a.at_none e n, fun e n h => a.at_role e n h⟩
/-- a role given to a new object -/
def tag (O : Own) (a : Addr) (r : Nat) : Own := fun b => if b = a then some r else O b
theorem tag_same : tag O a r a = some r := if_pos rfl
theorem tag_ne {b : Addr} (h : b ≠ a) : tag O a r b = O b := if_neg h
theorem Stp.lay (d : Dm O H) (h : H a = Option.none) (nt : Nt o := by intro xs z; cases z) : Stp P O H (tag O a r) (L2.upd H a o) := by
  refine ⟨fun b u e _ => by rw [upd_ne (ne_of_none e h)]; exact e, fun b => ?_, fun _ _ e => live_upd e, fun b r' e => ?_⟩
  · by_cases hb : b = a
    · exact .inr (by rw [hb]; exact h)
    · exact .inl (tag_ne hb)
  · by_cases hb : b = a
    · exact ⟨o, by rw [hb]; exact upd_same, nt⟩
    · rw [tag_ne hb] at e
      obtain ⟨u, hu, nu⟩ := d b r' e
      exact ⟨u, by rw [upd_ne hb]; exact hu, nu⟩
theorem Dm.tag (d : Dm O H) (h : H a = some o) (nt : Nt o := by intro xs z; cases z) : Dm (tag O a r) H := fun b r' e => by
  by_cases hb : b = a
  · exact ⟨o, by rw [hb]; exact h, nt⟩
  · rw [tag_ne hb] at e
    exact d b r' e
end
/-! ### pairs of lists -/
section
variable {α β : Type} {R R' : α → β → Prop}
theorem _root_.PySem.Paired.pget {xs : List α} {ys : List β} (h : Paired R xs ys) : ∀ {i : Nat} {x : α}, xs[i]? = some x → ∃ y, ys[i]? = some y ∧ R x y := by
  induction h with
  | nil => intro i x e; simp at e
  | cons r t ih =>
    intro i x e
    cases i with
    | zero => simp at e; subst e; exact ⟨_, rfl, r⟩
    | succ i => simp at e; obtain ⟨y, h1, h2⟩ := ih e; exact ⟨y, by simpa using h1, h2⟩
theorem _root_.PySem.Paired.pget' {xs : List α} {ys : List β} (h : Paired R xs ys) : ∀ {i : Nat} {y : β}, ys[i]? = some y → ∃ x, xs[i]? = some x ∧ R x y := by
  induction h with
  | nil => intro i x e; simp at e
  | cons r t ih =>
    intro i x e
    cases i with
    | zero => simp at e; subst e; exact ⟨_, rfl, r⟩
    | succ i => simp at e; obtain ⟨y, h1, h2⟩ := ih e; exact ⟨y, by simpa using h1, h2⟩
theorem _root_.PySem.Paired.pset {xs : List α} {ys : List β} (h : Paired R xs ys) {x : α} {y : β} (r : R x y) : ∀ i : Nat, Paired R (xs.set i x) (ys.set i y) := by
  induction h with
  | nil => intro i; exact .nil
  | cons q t ih =>
    intro i
    cases i with
    | zero => exact .cons r t
    | succ i => exact .cons q (ih i)
theorem _root_.PySem.Paired.papp {xs : List α} {ys : List β} {xs' : List α} {ys' : List β} (h : Paired R xs ys) (h' : Paired R xs' ys') : Paired R (xs ++ xs') (ys ++ ys') := by
  induction h with
  | nil => exact h'
  | cons q t ih => exact .cons q ih
theorem _root_.PySem.Paired.pmono {xs : List α} {ys : List β} (h : Paired R xs ys) (f : ∀ a b, R a b → R' a b) : Paired R' xs ys := by
  induction h with
  | nil => exact .nil
  | cons q t ih => exact .cons (f _ _ q) ih
theorem _root_.PySem.Paired.pmono_at {xs : List α} {ys : List β} (h : Paired R xs ys) : (∀ (i : Nat) a b, xs[i]? = some a → ys[i]? = some b → R a b → R' a b) → Paired R' xs ys := by
  induction h with
  | nil => intro _; exact .nil
  | cons q t ih => intro f; exact .cons (f 0 _ _ rfl rfl q) (ih fun i a b e1 e2 => f (i + 1) a b e1 e2)
theorem _root_.PySem.Paired.plen {xs : List α} {ys : List β} (h : Paired R xs ys) : xs.length = ys.length := by
  induction h with
  | nil => rfl
  | cons q t ih => simp [ih]
end
/-! ### dicts of pairs -/
section
variable {κ γ β : Type} [DecidableEq κ] [DecidableEq γ]
def lk : List (κ × β) → κ → Option β
  | [], _ => none
  | p :: r, k => if p.1 = k then some p.2 else lk r k
def pt (xs : List (κ × β)) (k : κ) (b : β) : List (κ × β) := if (lk xs k).isSome then xs.map (fun p => if p.1 = k then (p.1, b) else p) else xs ++ [(k, b)]
def dl (xs : List (κ × β)) (k : κ) : List (κ × β) := xs.filter fun p => decide (p.1 ≠ k)
/-- kvs is xs: the keys by g, the values by R -/
abbrev Dk (g : κ → γ) (R : V → β → Prop) : List (γ × V) → List (κ × β) → Prop := Paired fun kv p => kv.1 = g p.1 ∧ R kv.2 p.2
variable {g : κ → γ} {R : V → β → Prop} {kvs : List (γ × V)} {xs : List (κ × β)} {k : κ}
theorem Dk.sm (h : Dk g R kvs xs) (hg : ∀ a b, g a = g b → a = b) {b : β} (e : lk xs k = some b) : ∃ v, valV kvs (g k) = some v ∧ R v b := by
  induction h with
  | nil => cases e
  | cons q t ih =>
    rename_i p z l1 l2
    unfold lk at e
    by_cases hk : z.1 = k
    · rw [if_pos hk] at e
      cases e
      exact ⟨p.2, valV_pos (by rw [q.1, hk]), q.2⟩
    · rw [if_neg hk] at e
      obtain ⟨v, h1, h2⟩ := ih e
      refine ⟨v, ?_, h2⟩
      rw [valV_neg (fun x => hk (hg _ _ (q.1.symm.trans x)))]
      exact h1
theorem Dk.nn (h : Dk g R kvs xs) (hg : ∀ a b, g a = g b → a = b) (e : lk xs k = none) : valV kvs (g k) = none := by
  induction h with
  | nil => rfl
  | cons q t ih =>
    rename_i p z l1 l2
    unfold lk at e
    by_cases hk : z.1 = k
    · rw [if_pos hk] at e
      cases e
    · rw [if_neg hk] at e
      rw [valV_neg (fun x => hk (hg _ _ (q.1.symm.trans x)))]
      exact ih e
theorem Dk.put (h : Dk g R kvs xs) (hg : ∀ a b, g a = g b → a = b) {v : V} {b : β} (r : R v b) : Dk g R (putK kvs (g k) v) (pt xs k b) := by
  unfold putK pt
  rw [valV_any]
  cases e : lk xs k with
  | none =>
    rw [h.nn hg e]
    simp only [Option.isSome_none, Bool.false_eq_true, if_false]
    exact Paired.papp h (.cons ⟨rfl, r⟩ .nil)
  | some b' =>
    obtain ⟨v', h1, _⟩ := h.sm hg e
    rw [h1]
    simp only [Option.isSome_some, if_true]
    clear e h1
    induction h with
    | nil => exact .nil
    | cons q t ih =>
      rename_i p z l1 l2
      refine .cons ?_ ih
      dsimp only
      by_cases hk : z.1 = k
      · rw [if_pos hk, if_pos (by rw [q.1, hk])]
        exact ⟨q.1, r⟩
      · rw [if_neg hk, if_neg (fun x => hk (hg _ _ (q.1.symm.trans x)))]
        exact q
theorem Dk.drop (h : Dk g R kvs xs) (hg : ∀ a b, g a = g b → a = b) : Dk g R (dropK kvs (g k)) (dl xs k) := by
  unfold dropK dl
  induction h with
  | nil => exact .nil
  | cons q t ih =>
    rename_i p z l1 l2
    by_cases hk : z.1 = k
    · rw [List.filter_cons_of_neg (by simp [q.1, hk]), List.filter_cons_of_neg (by simp [hk])]
      exact ih
    · rw [List.filter_cons_of_pos (by simp only [q.1, decide_eq_true_eq]; exact fun x => hk (hg _ _ x)), List.filter_cons_of_pos (by simp [hk])]
      exact .cons q ih
end
theorem inl_inj (a b : Int) (h : (Sum.inl a : Key) = Sum.inl b) : a = b := Sum.inl.inj h
theorem inr_inj (a b : Str) (h : (Sum.inr a : Key) = Sum.inr b) : a = b := Sum.inr.inj h
/-! ### rows and things -/
def Thing.ok : Thing → Prop
  | .own _ => True
  | .file n _ => PyData.strOk n = true
def RowV (O : Own) (H : Hp) (v : V) (row : Row) : Prop := ∃ a, v = .ref a ∧ H a = some (.lst (row.map V.int)) ∧ O a = none
def ThV (O : Own) (H : Hp) (v : V) (t : Thing) : Prop := ∃ a, v = .ref a ∧ H a = some (.tup (t.key.map kV)) ∧ O a = none ∧ t.ok
def OThV (O : Own) (H : Hp) (v : V) : Option Thing → Prop
  | none => v = .non
  | some t => ThV O H v t
section
variable {P : Nat → Prop} {O O1 : Own} {H H1 : Hp} {v : V} {row : Row} {t : Thing}
theorem RowV.kq (h : RowV O H v row) (s : Kp P O H O1 H1) : RowV O1 H1 v row := by
  obtain ⟨a, e, h1, h2⟩ := h
  exact ⟨a, e, s.at_none h1 h2⟩
theorem ThV.kq (h : ThV O H v t) (s : Kp P O H O1 H1) : ThV O1 H1 v t := by
  obtain ⟨a, e, h1, h2, h3⟩ := h
  obtain ⟨k1, k2⟩ := s.at_none h1 h2
  exact ⟨a, e, k1, k2, h3⟩
theorem OThV.kq : ∀ {ot : Option Thing}, OThV O H v ot → Kp P O H O1 H1 → OThV O1 H1 v ot
  | none, h, _ => h
  | some _, h, s => ThV.kq h s
theorem RowV.kp (h : RowV O H v row) (s : Stp P O H O1 H1) : RowV O1 H1 v row := h.kq s.kq
theorem ThV.kp (h : ThV O H v t) (s : Stp P O H O1 H1) : ThV O1 H1 v t := h.kq s.kq
theorem OThV.kp {ot : Option Thing} (h : OThV O H v ot) (s : Stp P O H O1 H1) : OThV O1 H1 v ot := h.kq s.kq
end
/-! ### small steps of readings -/
theorem ge_toNat {i : Int} (h : 0 ≤ i) : ((i.toNat : Nat) : Int) = i := Int.toNat_of_nonneg h
theorem ixN_ok {n j : Nat} (h : j < n) : ixN n (j : Int) = some j := by
  unfold ixN
  rw [if_pos (by omega), if_pos (by omega)]
  simp
end Pw
namespace Pw
open PySem PySem.Spec PyProof.Rows L2
/-! ### things compared -/
def Thing.dat : Thing → PyData
  | .own s => .tuple [.str "own", .int s]
  | .file n p => .tuple [.str "file", .str n, .int p]
theorem strOk_own : PyData.strOk "own" = true := by decide +kernel
theorem strOk_file : PyData.strOk "file" = true := by decide +kernel
theorem Thing.dat_shaped : ∀ t : Thing, t.ok → SeqAt.shaped t.dat = true
  | .own s, _ => by simp [Thing.dat, SeqAt.shaped, PyData.canLay0, PyData.depth, PyData.canLayAll0, PyData.depthAll, strOk_own]
  | .file n p, h => by
    have h : PyData.strOk n = true := h
    simp [Thing.dat, SeqAt.shaped, PyData.canLay0, PyData.depth, PyData.canLayAll0, PyData.depthAll, strOk_file, h]
theorem Thing.dat_eqv : ∀ t u : Thing, PyData.eqv t.dat u.dat = decide (t = u) := by
  intro t u
  cases t <;> cases u <;> simp [Thing.dat, PyData.eqv, PyData.eqvAll, own_ne_file, fun z : ("file" : Str) = "own" => own_ne_file z.symm]
  all_goals (rw [Bool.eq_iff_iff]; simp)
theorem ThV.dp {K : PySem.W.Frag} {O : Own} {H : Hp} {v : V} : ∀ {t : Thing}, ThV O H v t → Dp K H v t.dat
  | .own s, h => by
    obtain ⟨a, rfl, h1, _⟩ := h
    exact .tup (SqT.of h1) (.cons (.str _) (.cons (.int _) .nil))
  | .file n p, h => by
    obtain ⟨a, rfl, h1, _⟩ := h
    exact .tup (SqT.of h1) (.cons (.str _) (.cons (.str _) (.cons (.int _) .nil)))
def odat : Option Thing → PyData
  | none => .none
  | some t => t.dat
theorem odat_eqv (ot : Option Thing) (t : Thing) : PyData.eqv (odat ot) t.dat = decide (ot = some t) := by
  cases ot with
  | none => cases t <;> simp [odat, Thing.dat, PyData.eqv]
  | some u => simp [odat, Thing.dat_eqv]
theorem OThV.dp {K : PySem.W.Frag} {O : Own} {H : Hp} {v : V} : ∀ {ot : Option Thing}, OThV O H v ot → Dp K H v (odat ot) ∧ SeqAt.shaped (odat ot) = true
  | none, h => by
    have h : v = .non := h
    subst h
    exact ⟨.non, by simp [odat, SeqAt.shaped, PyData.canLay0, PyData.depth]⟩
  | some t, h => ⟨ThV.dp h, Thing.dat_shaped t (let ⟨_, _, _, _, x⟩ := (show ThV O H v t from h); x)⟩
end Pw
namespace Pw
open PySem PySem.Spec PyProof.Rows L2
section
variable {α β γ : Type} {R : α → β → Prop} {R' : α → γ → Prop} {f : β → γ}
theorem _root_.PySem.Paired.pmap_at {xs : List α} {ys : List β} (h : Paired R xs ys) : (∀ (i : Nat) a b, xs[i]? = some a → ys[i]? = some b → R a b → R' a (f b)) → Paired R' xs (ys.map f) := by
  induction h with
  | nil => intro _; exact .nil
  | cons q t ih => intro k; exact .cons (k 0 _ _ rfl rfl q) (ih fun i a b e1 e2 => k (i + 1) a b e1 e2)
theorem nodup_ix' {κ β : Type} {l : List (κ × β)} (h : (l.map (·.1)).Nodup) {i j : Nat} {k : κ} {a b : β} (e1 : l[i]? = some (k, a)) (e2 : l[j]? = some (k, b)) : i = j := by
  refine nd_ix h (x := k) ?_ ?_
  · rw [List.getElem?_map, e1] <;> rfl
  · rw [List.getElem?_map, e2] <;> rfl
end
section
variable {κ γ β : Type} [DecidableEq κ] [DecidableEq γ] {g : κ → γ} {R : V → β → Prop} {kvs : List (γ × V)} {xs : List (κ × β)} {k : κ}
theorem Dk.at_ (h : Dk g R kvs xs) (hg : ∀ a b, g a = g b → a = b) {b : β} (e : lk xs k = some b) : ∃ (i : Nat) (v : V), xs[i]? = some (k, b) ∧ kvs[i]? = some (g k, v) ∧ valV kvs (g k) = some v ∧ R v b := by
  induction h with
  | nil => cases e
  | cons q t ih =>
    rename_i p z l1 l2
    unfold lk at e
    by_cases hk : z.1 = k
    · rw [if_pos hk] at e
      cases e
      subst hk
      refine ⟨0, p.2, rfl, ?_, valV_pos q.1, q.2⟩
      show some p = _
      rw [← q.1]
    · rw [if_neg hk] at e
      obtain ⟨i, v, h1, h2, h3, h4⟩ := ih e
      refine ⟨i + 1, v, h1, h2, ?_, h4⟩
      rw [valV_neg (fun x => hk (hg _ _ (q.1.symm.trans x)))]
      exact h3
theorem lk_none {xs : List (κ × β)} {k : κ} : lk xs k = none ↔ ¬ k ∈ xs.map (·.1) := by
  induction xs with
  | nil => simp [lk]
  | cons p r ih =>
    unfold lk
    by_cases e : p.1 = k
    · rw [if_pos e]; simp [e]
    · rw [if_neg e, ih]; simp [e, Ne.symm e]
theorem lk_mem {xs : List (κ × β)} {k : κ} {b : β} (h : lk xs k = some b) : (k, b) ∈ xs := by
  induction xs with
  | nil => cases h
  | cons p r ih =>
    unfold lk at h
    by_cases e : p.1 = k
    · rw [if_pos e] at h; cases h; subst e; exact List.mem_cons_self ..
    · rw [if_neg e] at h; exact List.mem_cons_of_mem _ (ih h)
theorem lk_of_mem {xs : List (κ × β)} {k : κ} {b : β} (hn : (xs.map (·.1)).Nodup) (h : (k, b) ∈ xs) : lk xs k = some b := by
  induction xs with
  | nil => cases h
  | cons p r ih =>
    have hn : (p.1 :: r.map (·.1)).Nodup := hn
    obtain ⟨h1, h2⟩ := List.nodup_cons.mp hn
    unfold lk
    rcases List.mem_cons.mp h with e | m
    · rw [← e, if_pos rfl]
    · rw [if_neg, ih h2 m]
      intro e
      exact h1 (by rw [e]; exact List.mem_map.mpr ⟨_, m, rfl⟩)
theorem lk_app {xs ys : List (κ × β)} {k : κ} : lk (xs ++ ys) k = (lk xs k).or (lk ys k) := by
  induction xs with
  | nil => rfl
  | cons p r ih =>
    show (if p.1 = k then some p.2 else lk (r ++ ys) k) = (if p.1 = k then some p.2 else lk r k).or (lk ys k)
    by_cases e : p.1 = k
    · rw [if_pos e, if_pos e] <;> rfl
    · rw [if_neg e, if_neg e]; exact ih
theorem pt_new {xs : List (κ × β)} {k : κ} {b : β} (h : lk xs k = none) : pt xs k b = xs ++ [(k, b)] := by
  unfold pt
  rw [h]
  simp
theorem lk_dl {xs : List (κ × β)} {k j : κ} : lk (dl xs k) j = if j = k then none else lk xs j := by
  induction xs with
  | nil => unfold dl lk; simp
  | cons p r ih =>
    unfold dl at ih ⊢
    by_cases e : p.1 = k
    · rw [List.filter_cons_of_neg (by simp [e]), ih]
      by_cases ej : j = k
      · rw [if_pos ej, if_pos ej]
      · rw [if_neg ej, if_neg ej]
        conv => rhs; unfold lk
        rw [if_neg (fun z => ej (z.symm.trans e))]
    · rw [List.filter_cons_of_pos (by simp [e])]
      unfold lk
      by_cases ej : p.1 = j
      · rw [if_pos ej, if_pos ej, if_neg (fun z => e (ej.trans z))]
      · rw [if_neg ej, if_neg ej, ih]
theorem dl_no {xs : List (κ × β)} {k : κ} (h : ¬ k ∈ xs.map (·.1)) : dl xs k = xs := by
  unfold dl
  refine List.filter_eq_self.mpr fun p hp => ?_
  simp only [ne_eq, decide_not, Bool.not_eq_eq_eq_not, Bool.not_true, decide_eq_false_iff_not]
  exact fun e => h (List.mem_map.mpr ⟨p, hp, e⟩)
theorem dl_nodup {xs : List (κ × β)} {k : κ} (h : (xs.map (·.1)).Nodup) : ((dl xs k).map (·.1)).Nodup := h.sublist (List.Sublist.map _ List.filter_sublist)
theorem dl_len {xs : List (κ × β)} {k : κ} (hn : (xs.map (·.1)).Nodup) (h : lk xs k ≠ none) : (dl xs k).length + 1 = xs.length := by
  induction xs with
  | nil => exact absurd rfl h
  | cons p r ih =>
    have hn : (p.1 :: r.map (·.1)).Nodup := hn
    obtain ⟨h1, h2⟩ := List.nodup_cons.mp hn
    by_cases e : p.1 = k
    · have : dl (p :: r) k = dl r k := List.filter_cons_of_neg (by simp [e])
      rw [this, dl_no (by rw [← e]; exact h1)]
      rfl
    · have : dl (p :: r) k = p :: dl r k := List.filter_cons_of_pos (by simp [e])
      rw [this]
      unfold lk at h
      rw [if_neg e] at h
      simp [ih h2 h]
theorem nodup_snoc {xs : List (κ × β)} {k : κ} {b : β} (hn : (xs.map (·.1)).Nodup) (h : lk xs k = none) : ((xs ++ [(k, b)]).map (·.1)).Nodup := by
  rw [List.map_append]
  exact nd_snoc hn (lk_none.mp h)
end
/-! ### how many free places -/
def cN : List (Option Int) → Nat
  | [] => 0
  | none :: r => cN r + 1
  | some _ :: r => cN r
theorem cN_put {x : Int} : ∀ {l : List (Option Int)} {j : Nat}, l[j]? = some none → cN (l.set j (some x)) + 1 = cN l
  | [], j, h => by simp at h
  | a :: r, 0, h => by
    have e : a = none := by simpa using h
    subst e
    rfl
  | none :: r, j + 1, h => by
    have ih := cN_put (x := x) (l := r) (j := j) (by simpa using h)
    show cN (r.set j (some x)) + 1 + 1 = cN r + 1
    omega
  | some a :: r, j + 1, h => by
    have ih := cN_put (x := x) (l := r) (j := j) (by simpa using h)
    exact ih
theorem cN_take {x : Int} : ∀ {l : List (Option Int)} {j : Nat}, l[j]? = some (some x) → cN (l.set j none) = cN l + 1
  | [], j, h => by simp at h
  | a :: r, 0, h => by
    have e : a = some x := by simpa using h
    subst e
    rfl
  | none :: r, j + 1, h => by
    have ih := cN_take (x := x) (l := r) (j := j) (by simpa using h)
    show cN (r.set j none) + 1 = cN r + 1 + 1
    omega
  | some a :: r, j + 1, h => by
    have ih := cN_take (x := x) (l := r) (j := j) (by simpa using h)
    exact ih
theorem cN_le : ∀ l : List (Option Int), cN l ≤ l.length
  | [] => Nat.le_refl _
  | none :: r => by have := cN_le r; show cN r + 1 ≤ r.length + 1; omega
  | some _ :: r => by have := cN_le r; show cN r ≤ r.length + 1; omega
theorem cN_zero : ∀ {l : List (Option Int)}, (∀ i : Nat, l[i]? ≠ some none) → cN l = 0
  | [], _ => rfl
  | none :: r, h => absurd rfl (h 0)
  | some _ :: r, h => cN_zero (l := r) fun i => h (i + 1)
theorem cN_rep : ∀ n : Nat, cN (List.replicate n none) = n
  | 0 => rfl
  | n + 1 => by rw [List.replicate_succ]; show cN _ + 1 = _; rw [cN_rep n]
end Pw
namespace Pw
open PySem PySem.Spec PyProof.Rows L2
abbrev rListOf (K : PySem.W.Frag) : List V → Hp → VK → Prop := fun xs H Q => ∃ p ys, xs = [V.ref p] ∧ (SqL K H p ys ∨ SqT K H p ys) ∧ ∀ l, H l = none → Q (.ref l) (upd H l (.lst ys))
end Pw

set_option Elab.async false
set_option linter.all false
set_option maxRecDepth 100000
set_option maxHeartbeats 4000000
namespace Pw
open PySem PySem.Spec PyProof.Rows L2
/-! ### the dial -/
def diFs (spot : Int) (ml : Addr) : List (Str × V) := [("my_spot", .int spot), ("my_marked", .ref ml)]
theorem diFs_s (i : Int) (m : Addr) : (diFs i m).lookup ("my_spot" : Str) = some (.int i) := by rfl
theorem diFs_m (i : Int) (m : Addr) : (diFs i m).lookup ("my_marked" : Str) = some (.ref m) := by rfl
theorem diFs_put (i j : Int) (m : Addr) : putF "my_spot" (.int j) (diFs i m) = diFs j m := by rfl
theorem diFs_mk (m : Addr) : putF "my_marked" (.ref m) (putF "my_spot" (.int 0) []) = diFs 0 m := by rfl
structure DiX (K : PySem.W.Frag) (O : Own) (H : Hp) (r : Nat) (d : Addr) (dx ml : Addr) (spot : Int) (marks : List Bool) : Prop where
  ob : H d = some (.ins (He.ga K "Dial") dx (diFs spot ml))
  od : O d = some r
  om : O ml = some r
  lm : H ml = some (.lst (marks.map V.bl))
  s0 : 0 ≤ spot
  s1 : spot < marks.length
  big : marks.length ≤ 64
def DiAt (K : PySem.W.Frag) (O : Own) (H : Hp) (r : Nat) (d : Addr) (n : Nat) : Prop := ∃ dx ml spot marks, DiX K O H r d dx ml spot marks ∧ marks.length = n
theorem DiX.kq {K : PySem.W.Frag} {O O1 : Own} {H H1 : Hp} {P : Nat → Prop} {r : Nat} {d dx ml : Addr} {spot : Int} {marks : List Bool} (h : DiX K O H r d dx ml spot marks) (s : Kp P O H O1 H1) (n : ¬ P r) : DiX K O1 H1 r d dx ml spot marks := by
  obtain ⟨a1, a2⟩ := s.at_role h.ob h.od n
  obtain ⟨b1, b2⟩ := s.at_role h.lm h.om n
  exact ⟨a1, a2, b2, b1, h.s0, h.s1, h.big⟩
theorem DiAt.kq {K : PySem.W.Frag} {O O1 : Own} {H H1 : Hp} {P : Nat → Prop} {r : Nat} {d : Addr} {n : Nat} (h : DiAt K O H r d n) (s : Kp P O H O1 H1) (m : ¬ P r) : DiAt K O1 H1 r d n := by
  obtain ⟨dx, ml, spot, marks, x, e⟩ := h
  exact ⟨dx, ml, spot, marks, x.kq s m, e⟩
theorem DiAt.kp {K : PySem.W.Frag} {O O1 : Own} {H H1 : Hp} {P : Nat → Prop} {r : Nat} {d : Addr} {n : Nat} (h : DiAt K O H r d n) (s : Stp P O H O1 H1) (m : ¬ P r) : DiAt K O1 H1 r d n := h.kq s.kq m
def spDialInit (K : PySem.W.Frag) : Sp := fun vs H Q _ => ∃ (p dx : Addr) (n : Int) (r : Nat) (O : Own), vs = [.ref p, .int n] ∧ H p = some (.ins (He.ga K "Dial") dx []) ∧ O p = some r ∧ Dm O H ∧ 1 ≤ n ∧ n ≤ 64 ∧
  ∀ O' H', Stp (· = r) O H O' H' → DiAt K O' H' r p n.toNat → Q .non H'
def spDialMark (K : PySem.W.Frag) : Sp := fun vs H Q _ => ∃ (d : Addr) (n : Nat) (i : Int) (r : Nat) (O : Own), vs = [.ref d, .int i] ∧ DiAt K O H r d n ∧ Dm O H ∧ 0 ≤ i ∧ i < n ∧
  ∀ H', Stp (· = r) O H O H' → DiAt K O H' r d n → Q .non H'
def spTurnOn (K : PySem.W.Frag) : Sp := fun vs H Q _ => ∃ (d dx ml : Addr) (spot : Int) (marks : List Bool) (r : Nat) (O : Own), vs = [.ref d] ∧ DiX K O H r d dx ml spot marks ∧ Dm O H ∧
  ∀ H', Stp (· = r) O H O H' → DiX K O H' r d dx ml ((spot + 1) % (marks.length : Int)) marks → Q (.int spot) H'
def spChoose (K : PySem.W.Frag) : Sp := fun vs H Q _ => ∃ (d a : Addr) (n : Nat) (bs : List Bool) (r : Nat) (O : Own), vs = [.ref d, .ref a] ∧ DiAt K O H r d n ∧ Dm O H ∧ H a = some (.lst (bs.map V.bl)) ∧ O a = none ∧ bs.length = n ∧ (∃ j : Nat, bs[j]? = some true) ∧
  ∀ (i : Nat) H', bs[i]? = some true → Stp (· = r) O H O H' → DiAt K O H' r d n → Q (.int i) H'
section
variable {P : Program} {w : World} {K : PySem.W.Frag} {mg : Str → Option Value} {base : Heap}
theorem ok_Dial_init (T : Tx K mg) : C8.Mak P w K mg base 1 "Dial" (He.ga K "Dial") (spDialInit K) [] := by
  refine mkMak T.fd_Dial_init T.k_Dial T.g_Dial sc_Dial_init (fun _ _ _ _ _ _ us hl => match us, hl with | [_, _], _ => rfl) (fun vs H Q E h => ?_) (fun cdv A outer s H vs Q E hr h => ?_)
  · obtain ⟨p, dx, n, r, O, rfl, hp, hO, hD, n1, n2, k⟩ := h
    rfl
  · obtain ⟨p, dx, n, r, O, rfl, hp, hO, hD, n1, n2, k⟩ := h
    refine ⟨_, (pss_cons (ps_fld (pv 0) pe_int rfl)
      (pss_one (ps_fld (pv 0) (pe_lc (own := [("frame", 2)]) (g := gName 2) (tt := tYes) rfl sc_Dial_init.nd (pi_range1 (by rfl) T.b_range (pa_cons (pv 1) pa_nil)) (blkOk_by (own := [("frame", 2)]) (N := ["self", "many", "frame"]) (sc := defScope s_Dial_init) (by decide +kernel)) (fun _ _ _ _ _ => pg_name (i := 2) sc_Dial_init.nd rfl (Or.inl rfl)) (fun _ _ _ _ _ => pts_nil) (fun _ _ _ _ _ => pe_bl)) rfl))), ?_⟩
    refine ⟨_, rfl, p, _, dx, [], rfl, hp, T.c_Dial, T.n_Dial_my_spot, (by show 0 < 1000; decide), ?_⟩
    have s1 : Stp (· = r) O H O (upd H p (.ins (He.ga K "Dial") dx (putF "my_spot" (.int 0) []))) := Stp.write hD hO rfl
    generalize hH1 : upd H p (.ins (He.ga K "Dial") dx (putF "my_spot" (.int 0) [])) = H1 at *
    have hp1 : H1 p = some (.ins (He.ga K "Dial") dx (putF "my_spot" (.int 0) [])) := by rw [← hH1]; exact upd_same
    refine ⟨_, rfl, n, rfl, by omega, by omega, fun D hN => lc_range (fun i H' => H' = upd H1 D (.lst (List.replicate i (V.bl false)))) rfl (fun i H' hi e => ?_) (fun H' e => ?_)⟩
    · subst e
      exact ⟨rfl, _, upd_same, by rw [List.length_replicate]; exact Nat.lt_of_lt_of_le (Nat.lt_of_lt_of_le hi (by omega : n.toNat ≤ 64)) (by decide), by rw [upd_upd, List.replicate_succ']⟩
    · subst e
      have s2 : Stp (· = r) O H1 (tag O D r) (upd H1 D (.lst (List.replicate n.toNat (V.bl false)))) := Stp.lay s1.dm hN
      have ne : p ≠ D := ne_of_none hp1 hN
      refine ⟨_, rfl, p, _, dx, _, rfl, by rw [upd_ne ne]; exact hp1, T.c_Dial, T.n_Dial_my_marked, (by show 1 < 1000; decide), ?_⟩
      have s3 : Stp (· = r) (tag O D r) (upd H1 D (.lst (List.replicate n.toNat (V.bl false)))) (tag O D r) (upd (upd H1 D (.lst (List.replicate n.toNat (V.bl false)))) p (.ins (He.ga K "Dial") dx (diFs 0 D))) := Stp.write s2.dm ((tag_ne ne).trans hO) rfl
      refine k _ _ ((s1.trans s2).trans s3) ⟨dx, D, 0, List.replicate n.toNat false, ⟨upd_same, (tag_ne ne).trans hO, tag_same, by rw [upd_ne ne.symm, upd_same, List.map_replicate], by decide, by rw [List.length_replicate]; omega, by rw [List.length_replicate]; omega⟩, List.length_replicate ..⟩
theorem ok_Dial_touch (T : Tx K mg) : C8.Met P w K mg base 1 (He.ga K "Dial") "touch" (spDialMark K) [] := by
  refine mkMet T.fd_Dial_touch T.c_Dial T.m_Dial_touch sc_Dial_touch (fun _ _ _ _ _ _ us hl => match us, hl with | [_, _], _ => rfl) (fun vs H Q E h => ?_) (fun cdv A outer s H vs Q E hr h => ?_)
  · obtain ⟨d, n, i, r, O, rfl, hd, hD, i0, i1, k⟩ := h
    rfl
  · obtain ⟨d, n, i, r, O, rfl, hd, hD, i0, i1, k⟩ := h
    refine ⟨_, (pss_one (ps_asg pe_bl (pg_sub (pe_fld (pv 0) rfl) (pv 1) set_list))), ?_⟩
    obtain ⟨dx, ml, spot, marks, x, rfl⟩ := hd
    obtain ⟨j, rfl⟩ : ∃ j : Nat, i = (j : Int) := ⟨i.toNat, by omega⟩
    have hj : j < (marks.map V.bl).length := by rw [List.length_map]; omega
    refine ⟨_, rfl, d, _, dx, _, _, rfl, x.ob, T.c_Dial, T.n_Dial_my_marked, diFs_m _ _, _, rfl, ml, _, _, j, rfl, rfl, x.lm, ixN_ok hj, ?_⟩
    have st : Stp (· = r) O H O (upd H ml (.lst ((marks.map V.bl).set j (.bl true)))) := Stp.write hD x.om rfl
    have ne : d ≠ ml := ne_of x.ob x.lm (by intro z; cases z)
    refine k _ st ⟨dx, ml, spot, marks.set j true, ⟨by rw [upd_ne ne]; exact x.ob, x.od, x.om, by rw [upd_same, List.map_set], x.s0, by rw [List.length_set]; exact x.s1, by rw [List.length_set]; exact x.big⟩, List.length_set ..⟩
theorem ok_Dial_clear (T : Tx K mg) : C8.Met P w K mg base 1 (He.ga K "Dial") "clear" (spDialMark K) [] := by
  refine mkMet T.fd_Dial_clear T.c_Dial T.m_Dial_clear sc_Dial_clear (fun _ _ _ _ _ _ us hl => match us, hl with | [_, _], _ => rfl) (fun vs H Q E h => ?_) (fun cdv A outer s H vs Q E hr h => ?_)
  · obtain ⟨d, n, i, r, O, rfl, hd, hD, i0, i1, k⟩ := h
    rfl
  · obtain ⟨d, n, i, r, O, rfl, hd, hD, i0, i1, k⟩ := h
    refine ⟨_, (pss_one (ps_asg pe_bl (pg_sub (pe_fld (pv 0) rfl) (pv 1) set_list))), ?_⟩
    obtain ⟨dx, ml, spot, marks, x, rfl⟩ := hd
    obtain ⟨j, rfl⟩ : ∃ j : Nat, i = (j : Int) := ⟨i.toNat, by omega⟩
    have hj : j < (marks.map V.bl).length := by rw [List.length_map]; omega
    refine ⟨_, rfl, d, _, dx, _, _, rfl, x.ob, T.c_Dial, T.n_Dial_my_marked, diFs_m _ _, _, rfl, ml, _, _, j, rfl, rfl, x.lm, ixN_ok hj, ?_⟩
    have st : Stp (· = r) O H O (upd H ml (.lst ((marks.map V.bl).set j (.bl false)))) := Stp.write hD x.om rfl
    have ne : d ≠ ml := ne_of x.ob x.lm (by intro z; cases z)
    refine k _ st ⟨dx, ml, spot, marks.set j false, ⟨by rw [upd_ne ne]; exact x.ob, x.od, x.om, by rw [upd_same, List.map_set], x.s0, by rw [List.length_set]; exact x.s1, by rw [List.length_set]; exact x.big⟩, List.length_set ..⟩
theorem ok_Dial_turn_on (T : Tx K mg) : C8.Met P w K mg base 1 (He.ga K "Dial") "turn_on" (spTurnOn K) [] := by
  refine mkMet T.fd_Dial_turn_on T.c_Dial T.m_Dial_turn_on sc_Dial_turn_on (fun _ _ _ _ _ _ us hl => match us, hl with | [_], _ => rfl) (fun vs H Q E h => ?_) (fun cdv A outer s H vs Q E hr h => ?_)
  · obtain ⟨d, dx, ml, spot, marks, r, O, rfl, x, hD, k⟩ := h
    rfl
  · obtain ⟨d, dx, ml, spot, marks, r, O, rfl, x, hD, k⟩ := h
    refine ⟨_, (pss_cons (ps_set (i := 1) sc_Dial_turn_on.nd rfl (by first | exact Or.inl rfl | exact Or.inr rfl) (pe_fld (pv 0) rfl))
      (pss_cons (ps_fld (pv 0) (pe_op op_mod (pe_op op_add (pv 1) pe_int) (pe_callB call_len_seq (by rfl) T.b_len PySem.boot_len (pa_cons (pe_fld (pv 0) rfl) pa_nil))) rfl)
      (pss_one (ps_ret (pv 1))))), ?_⟩
    have pn : (0 : Int) < (marks.length : Int) := by have := x.s0; have := x.s1; omega
    refine ⟨_, rfl, d, _, dx, _, _, rfl, x.ob, T.c_Dial, T.n_Dial_my_spot, diFs_s _ _, ?_⟩
    refine ⟨_, rfl, _, _, rfl, rfl, _, rfl, d, _, dx, _, _, rfl, x.ob, T.c_Dial, T.n_Dial_my_marked, diFs_m _ _, ml, _, rfl, .inl (SqL.of x.lm), _, _, rfl, rfl, (by rw [List.length_map]; exact pn), _, rfl, d, _, dx, _, rfl, x.ob, T.c_Dial, T.n_Dial_my_spot, (by show 2 < 1000; decide), ?_⟩
    refine ⟨_, rfl, ?_⟩
    rw [List.length_map]
    refine k _ (Stp.write hD x.od rfl) ⟨upd_same, x.od, x.om, ?_, Int.emod_nonneg _ (by omega), Int.emod_lt_of_pos _ pn, x.big⟩
    rw [upd_ne (ne_of x.lm x.ob (by intro z; cases z))]
    exact x.lm
theorem dial_next {h n j : Nat} (hj : j < n) (hh : h < n) (ne : h ≠ j) : (j + n - (h + 1) % n) % n < (j + n - h) % n := by
  by_cases e : h + 1 = n
  · rw [e, Nat.mod_self]
    have : (j + n - h) % n = j + 1 := by
      rw [Nat.mod_eq_of_lt (by omega)]; omega
    rw [this, Nat.sub_zero, Nat.add_mod_right, Nat.mod_eq_of_lt hj]; omega
  · rw [Nat.mod_eq_of_lt (by omega : h + 1 < n)]
    by_cases l : h < j
    · have e1 : (j + n - (h + 1)) % n = j - (h + 1) := by
        rw [show j + n - (h + 1) = (j - (h + 1)) + n by omega, Nat.add_mod_right, Nat.mod_eq_of_lt (by omega)]
      have e2 : (j + n - h) % n = j - h := by
        rw [show j + n - h = (j - h) + n by omega, Nat.add_mod_right, Nat.mod_eq_of_lt (by omega)]
      omega
    · rw [Nat.mod_eq_of_lt (by omega), Nat.mod_eq_of_lt (by omega)]; omega
theorem dial_wrap {n j x : Nat} (hj : j < n) : x % n < n := Nat.mod_lt _ (by omega)
theorem ok_Dial_choose (T : Tx K mg) : C8.Met P w K mg base 2 (He.ga K "Dial") "choose" (spChoose K) [] := by
  refine mkMet T.fd_Dial_choose T.c_Dial T.m_Dial_choose sc_Dial_choose (fun _ _ _ _ _ _ us hl => match us, hl with | [_, _], _ => rfl) (fun vs H Q E h => ?_) (fun cdv A outer s H vs Q E hr h => ?_)
  · obtain ⟨d, a, n, bs, r, O, rfl, hd, hD, ha, hOa, hn, ⟨j, hj⟩, k⟩ := h
    rfl
  · obtain ⟨d, a, n, bs, r, O, rfl, hd, hD, ha, hOa, hn, ⟨j, hj⟩, k⟩ := h
    refine ⟨_, (pss_cons (ps_if (pt_cmpR op_notIn_seq pe_bl (pv 1) (by rfl)) (pss_one ps_never) pss_nil)
      (pss_cons (ps_set (i := 2) sc_Dial_choose.nd rfl (by first | exact Or.inl rfl | exact Or.inr rfl) (C8.pe_mt0 (ok_Dial_turn_on T) hr (by decide) (pv 0)))
      (pss_cons (ps_while PassesOwn.never (PW.pt (pw_or (pt_not (pt_val (pe_ix (r := rIxL K) ix_list (pv 1) (pv 2) (fun _ _ => rfl)))) (pw_or1 (pt_val (pe_ix (r := rIxL K) ix_list (pe_fld (pv 0) rfl) (pv 2) (fun _ _ => rfl)))))) (pss_cons (ps_if (pt_val (pe_ix (r := rIxL K) ix_list (pv 1) (pv 2) (fun _ _ => rfl))) (pss_one (ps_asg pe_bl (pg_sub (pe_fld (pv 0) rfl) (pv 2) set_list))) pss_nil)
      (pss_one (ps_set (i := 2) sc_Dial_choose.nd rfl (by first | exact Or.inl rfl | exact Or.inr rfl) (C8.pe_mt0 (ok_Dial_turn_on T) hr (by decide) (pv 0))))))
      (pss_one (ps_ret (pv 2)))))), ?_⟩
    have jn : j < n := by rw [← hn]; exact (List.getElem?_eq_some_iff.mp hj).1
    obtain ⟨dx, ml, spot, marks, x, hm⟩ := hd
    -- if True not in may
    have hin : inV (.bl true) (bs.map V.bl) = true := List.any_eq_true.mpr ⟨.bl true, List.mem_map.mpr ⟨true, List.mem_of_getElem? hj, rfl⟩, rfl⟩
    refine ⟨_, rfl, a, _, rfl, .inl (SqL.of ha), rfl, by rw [List.all_map]; exact List.all_eq_true.mpr fun _ _ => rfl, ?_⟩
    refine ⟨_, rfl, ?_⟩
    rw [hin]
    refine iteF ?_
    -- here = self.turn_on()
    refine ⟨_, rfl, d, dx, _, rfl, x.ob, rfl, d, dx, ml, spot, marks, r, O, rfl, x, hD, fun H1 s1 x1 => ?_⟩
    obtain ⟨h0, rfl⟩ : ∃ h0 : Nat, spot = (h0 : Int) := ⟨spot.toNat, (Int.toNat_of_nonneg x.s0).symm⟩
    have h0n : h0 < n := by have := x.s1; omega
    rw [hm] at x1
    -- the loop
    refine ⟨fun m σ H' => ∃ (h : Nat) (marks' : List Bool), h < n ∧ marks'.length = n ∧ σ = [some (.ref d), some (.ref a), some (.int h)] ∧ Stp (· = r) O H O H' ∧
      DiX K O H' r d dx ml (((h : Int) + 1) % (n : Int)) marks' ∧ m = (if marks'[j]? = some true then n else 0) + (j + n - h) % n, ⟨_, h0, marks, h0n, hm, rfl, s1, x1, rfl⟩, ?_⟩
    rintro m σ H' ⟨h, marks', hh, hm', rfl, s2, x2, rfl⟩
    have ha' : H' a = some (.lst (bs.map V.bl)) := (s2.at_none ha hOa).1
    obtain ⟨b, hb⟩ : ∃ b, bs[h]? = some b := ⟨_, List.getElem?_eq_getElem (by omega)⟩
    obtain ⟨mk, hk⟩ : ∃ mk, marks'[h]? = some mk := ⟨_, List.getElem?_eq_getElem (by omega)⟩
    have hb' : (bs.map V.bl)[h]? = some (.bl b) := by rw [List.getElem?_map, hb] <;> rfl
    have hk' : (marks'.map V.bl)[h]? = some (.bl mk) := by rw [List.getElem?_map, hk] <;> rfl
    have en : ((h : Int) + 1) % (n : Int) = (((h + 1) % n : Nat) : Int) := by rw [Int.natCast_emod]; rfl
    -- the next turn, from marks of whatever kind
    have next : ∀ (H2 : Hp) (marks2 : List Bool) (Z : L2.St → Hp → Prop), marks2.length = n → Stp (· = r) O H O H2 → DiX K O H2 r d dx ml (((h : Int) + 1) % (n : Int)) marks2 →
        (if marks2[j]? = some true then n else 0) + (j + n - ((h + 1) % n)) % n < (if marks'[j]? = some true then n else 0) + (j + n - h) % n →
        (∀ σ' H3, (∃ m', m' < (if marks'[j]? = some true then n else 0) + (j + n - h) % n ∧ ∃ (h : Nat) (marks' : List Bool), h < n ∧ marks'.length = n ∧ σ' = [some (.ref d), some (.ref a), some (.int h)] ∧ Stp (· = r) O H O H3 ∧
          DiX K O H3 r d dx ml (((h : Int) + 1) % (n : Int)) marks' ∧ m' = (if marks'[j]? = some true then n else 0) + (j + n - h) % n) → Z σ' H3) →
        spTurnOn K [.ref d] H2 (fun v H3 => Z [some (.ref d), some (.ref a), some v] H3) C8.E0 := fun H2 marks2 Z l2 s3 x3 lt z => by
      refine ⟨d, dx, ml, _, marks2, r, O, rfl, x3, s3.dm, fun H3 s4 x4 => ?_⟩
      rw [l2, en] at x4
      rw [en]
      exact z _ _ ⟨_, lt, (h + 1) % n, marks2, Nat.mod_lt _ (by omega), l2, rfl, s3.trans s4, x4, rfl⟩
    refine ⟨_, rfl, _, rfl, a, _, _, _, rfl, rfl, SqL.of ha', at_of rfl hb', _, rfl, ?_⟩
    cases b with
    | false =>
      refine ⟨_, fun _ _ z => z, ?_⟩
      refine ⟨_, rfl, _, rfl, a, _, _, _, rfl, rfl, SqL.of ha', at_of rfl hb', _, rfl, ?_⟩
      refine iteF ?_
      have hj' : h ≠ j := fun e => by rw [e, hj] at hb; cases hb
      refine ⟨_, rfl, d, dx, _, rfl, x2.ob, rfl, ?_⟩
      exact next H' marks' _ hm' s2 x2 (Nat.add_lt_add_left (dial_next jn hh hj') _) fun _ _ z => z
    | true =>
      refine ⟨_, rfl, d, _, dx, _, _, rfl, x2.ob, T.c_Dial, T.n_Dial_my_marked, diFs_m _ _, _, rfl, ml, _, _, _, rfl, rfl, SqL.of x2.lm, at_of rfl hk', _, rfl, ?_⟩
      cases mk with
      | false => exact iteF ⟨_, rfl, k h H' hb s2 ⟨dx, ml, _, marks', x2, hm'⟩⟩
      | true =>
        refine ⟨_, fun _ _ z => z, ?_⟩
        refine ⟨_, rfl, _, rfl, a, _, _, _, rfl, rfl, SqL.of ha', at_of rfl hb', _, rfl, ?_⟩
        refine iteT ?_
        have hl : h < (marks'.map V.bl).length := by rw [List.length_map]; omega
        refine ⟨_, rfl, d, _, dx, _, _, rfl, x2.ob, T.c_Dial, T.n_Dial_my_marked, diFs_m _ _, _, rfl, ml, _, _, h, rfl, rfl, x2.lm, ixN_ok hl, ?_⟩
        have st : Stp (· = r) O H' O (upd H' ml (.lst ((marks'.map V.bl).set h (.bl false)))) := Stp.write s2.dm x2.om rfl
        have ne : d ≠ ml := ne_of x2.ob x2.lm (by intro z; cases z)
        have x3 : DiX K O (upd H' ml (.lst ((marks'.map V.bl).set h (.bl false)))) r d dx ml (((h : Int) + 1) % (n : Int)) (marks'.set h false) :=
          ⟨by rw [upd_ne ne]; exact x2.ob, x2.od, x2.om, by rw [upd_same, List.map_set], x2.s0, by rw [List.length_set]; exact x2.s1, by rw [List.length_set]; exact x2.big⟩
        refine ⟨_, rfl, d, dx, _, rfl, x3.ob, rfl, ?_⟩
        refine next _ (marks'.set h false) _ (by rw [List.length_set]; exact hm') (s2.trans st) x3 ?_ fun _ _ z => z
        by_cases hj' : h = j
        · subst hj'
          rw [List.getElem?_set_self (by omega), hk, if_neg (by simp), if_pos rfl]
          have := Nat.mod_lt (h + n - ((h + 1) % n)) (by omega : 0 < n)
          omega
        · rw [List.getElem?_set_ne hj']
          exact Nat.add_lt_add_left (dial_next jn hh hj') _
end
end Pw


set_option Elab.async false
set_option linter.all false
set_option maxRecDepth 100000
set_option maxHeartbeats 4000000
namespace Pw
open PySem PySem.Spec PyProof.Rows L2
/-! ### frames -/
def frFs (tl rl sl : Addr) : List (Str × V) := [("my_things", .ref tl), ("my_rows", .ref rl), ("my_soil", .ref sl)]
theorem frFs_t (a b c : Addr) : (frFs a b c).lookup ("my_things" : Str) = some (.ref a) := by rfl
theorem frFs_r (a b c : Addr) : (frFs a b c).lookup ("my_rows" : Str) = some (.ref b) := by rfl
theorem frFs_s (a b c : Addr) : (frFs a b c).lookup ("my_soil" : Str) = some (.ref c) := by rfl
theorem frFs_mk (a b c : Addr) : putF "my_soil" (.ref c) (putF "my_rows" (.ref b) (putF "my_things" (.ref a) [])) = frFs a b c := by rfl
structure FrX (K : PySem.W.Frag) (O : Own) (H : Hp) (r : Nat) (f dx tl rl sl : Addr) (tv rv : List V) (ts : List (Option Thing)) (rs : List Row) (so : List Bool) : Prop where
  ob : H f = some (.ins (He.ga K "Frames") dx (frFs tl rl sl))
  of : O f = some r
  ot : O tl = some r
  oR : O rl = some r
  os : O sl = some r
  n1 : tl ≠ rl
  n2 : tl ≠ sl
  n3 : rl ≠ sl
  ht : H tl = some (.lst tv)
  hR : H rl = some (.lst rv)
  hs : H sl = some (.lst (so.map V.bl))
  pt : Paired (OThV O H) tv ts
  pr : Paired (RowV O H) rv rs
  l1 : rs.length = ts.length
  l2 : so.length = ts.length
  big : ts.length ≤ 64
def FrAt (K : PySem.W.Frag) (O : Own) (H : Hp) (r : Nat) (f : Addr) (ts : List (Option Thing)) (rs : List Row) (so : List Bool) : Prop := ∃ dx tl rl sl tv rv, FrX K O H r f dx tl rl sl tv rv ts rs so
section
variable {K : PySem.W.Frag} {O O1 : Own} {H H1 : Hp} {P : Nat → Prop} {r : Nat} {f dx tl rl sl : Addr} {tv rv : List V} {ts : List (Option Thing)} {rs : List Row} {so : List Bool}
theorem FrX.kq (h : FrX K O H r f dx tl rl sl tv rv ts rs so) (s : Kp P O H O1 H1) (n : ¬ P r) : FrX K O1 H1 r f dx tl rl sl tv rv ts rs so := by
  obtain ⟨a1, a2⟩ := s.at_role h.ob h.of n
  obtain ⟨b1, b2⟩ := s.at_role h.ht h.ot n
  obtain ⟨c1, c2⟩ := s.at_role h.hR h.oR n
  obtain ⟨d1, d2⟩ := s.at_role h.hs h.os n
  exact ⟨a1, a2, b2, c2, d2, h.n1, h.n2, h.n3, b1, c1, d1, h.pt.pmono fun _ _ q => q.kq s, h.pr.pmono fun _ _ q => q.kq s, h.l1, h.l2, h.big⟩
theorem FrAt.kq (h : FrAt K O H r f ts rs so) (s : Kp P O H O1 H1) (m : ¬ P r) : FrAt K O1 H1 r f ts rs so := by
  obtain ⟨dx, tl, rl, sl, tv, rv, x⟩ := h
  exact ⟨dx, tl, rl, sl, tv, rv, x.kq s m⟩
theorem FrAt.kp (h : FrAt K O H r f ts rs so) (s : Stp P O H O1 H1) (m : ¬ P r) : FrAt K O1 H1 r f ts rs so := h.kq s.kq m
theorem FrX.f1 (h : FrX K O H r f dx tl rl sl tv rv ts rs so) : f ≠ tl := ne_of h.ob h.ht (by intro z; cases z)
theorem FrX.f2 (h : FrX K O H r f dx tl rl sl tv rv ts rs so) : f ≠ rl := ne_of h.ob h.hR (by intro z; cases z)
theorem FrX.f3 (h : FrX K O H r f dx tl rl sl tv rv ts rs so) : f ≠ sl := ne_of h.ob h.hs (by intro z; cases z)
theorem FrX.row (h : FrX K O H r f dx tl rl sl tv rv ts rs so) {i : Nat} {row : Row} (e : rs[i]? = some row) : ∃ a, rv[i]? = some (.ref a) ∧ H a = some (.lst (row.map V.int)) ∧ O a = none := by
  obtain ⟨v, e1, a, rfl, e2, e3⟩ := h.pr.pget' e
  exact ⟨a, e1, e2, e3⟩
theorem FrX.lv (h : FrX K O H r f dx tl rl sl tv rv ts rs so) : tv.length = ts.length ∧ rv.length = ts.length := ⟨h.pt.plen, h.pr.plen.trans h.l1⟩
end
def wc (row : Row) (c : Nat) (nums : List Int) : Row := row.take c ++ nums ++ row.drop (c + nums.length)
def spFrInit (K : PySem.W.Frag) : Sp := fun vs H Q _ => ∃ (p dx : Addr) (n : Int) (r : Nat) (O : Own), vs = [.ref p, .int n] ∧ H p = some (.ins (He.ga K "Frames") dx []) ∧ O p = some r ∧ Dm O H ∧ 1 ≤ n ∧ n ≤ 64 ∧
  ∀ O' H', Stp (· = r) O H O' H' → FrAt K O' H' r p (List.replicate n.toNat none) (List.replicate n.toNat []) (List.replicate n.toNat false) → Q .non H'
def spFill (K : PySem.W.Frag) : Sp := fun vs H Q _ => ∃ (f b : Addr) (ts : List (Option Thing)) (rs : List Row) (so : List Bool) (i : Nat) (tv : V) (t : Thing) (row : Row) (r : Nat) (O : Own), vs = [.ref f, .int i, tv, .ref b] ∧ FrAt K O H r f ts rs so ∧ Dm O H ∧ i < ts.length ∧ ThV O H tv t ∧
  H b = some (.lst (row.map V.int)) ∧ O b ≠ some r ∧ ∀ H', Stp (· = r) O H O H' → FrAt K O H' r f (ts.set i (some t)) (rs.set i row) (so.set i false) → Q .non H'
def spEmpty (K : PySem.W.Frag) : Sp := fun vs H Q _ => ∃ (f : Addr) (ts : List (Option Thing)) (rs : List Row) (so : List Bool) (i : Nat) (r : Nat) (O : Own), vs = [.ref f, .int i] ∧ FrAt K O H r f ts rs so ∧ Dm O H ∧ i < ts.length ∧
  ∀ H', Stp (· = r) O H O H' → FrAt K O H' r f (ts.set i none) (rs.set i []) (so.set i false) → Q .non H'
def spThingIn (K : PySem.W.Frag) : Sp := fun vs H Q _ => ∃ (f : Addr) (ts : List (Option Thing)) (rs : List Row) (so : List Bool) (i : Nat) (ot : Option Thing) (r : Nat) (O : Own), vs = [.ref f, .int i] ∧ FrAt K O H r f ts rs so ∧ ts[i]? = some ot ∧
  ∀ v, OThV O H v ot → Q v H
def spRowIn (K : PySem.W.Frag) : Sp := fun vs H Q _ => ∃ (f : Addr) (ts : List (Option Thing)) (rs : List Row) (so : List Bool) (i : Nat) (row : Row) (r : Nat) (O : Own), vs = [.ref f, .int i] ∧ FrAt K O H r f ts rs so ∧ rs[i]? = some row ∧
  ∀ p, H p = none → Q (.ref p) (upd H p (.lst (row.map V.int)))
def spPutIn (K : PySem.W.Frag) : Sp := fun vs H Q _ => ∃ (f b : Addr) (ts : List (Option Thing)) (rs : List Row) (so : List Bool) (i c : Nat) (row : Row) (nums : List Int) (r : Nat) (O : Own), vs = [.ref f, .int i, .int c, .ref b] ∧ FrAt K O H r f ts rs so ∧ Dm O H ∧ rs[i]? = some row ∧
  H b = some (.lst (nums.map V.int)) ∧ O b ≠ some r ∧ c + nums.length ≤ row.length ∧ row.length ≤ 1000 ∧ ∀ H', Stp (· = r) O H O H' → FrAt K O H' r f ts (rs.set i (wc row c nums)) (so.set i true) → Q .non H'
def spIsSoiled (K : PySem.W.Frag) : Sp := fun vs H Q _ => ∃ (f : Addr) (ts : List (Option Thing)) (rs : List Row) (so : List Bool) (i : Nat) (b : Bool) (r : Nat) (O : Own), vs = [.ref f, .int i] ∧ FrAt K O H r f ts rs so ∧ so[i]? = some b ∧ Q (.bl b) H
def spLeastFree (K : PySem.W.Frag) : Sp := fun vs H Q _ => ∃ (f : Addr) (ts : List (Option Thing)) (rs : List Row) (so : List Bool) (r : Nat) (O : Own), vs = [.ref f] ∧ FrAt K O H r f ts rs so ∧
  (∀ i : Nat, ts[i]? = some none → Q (.int i) H) ∧ ((∀ i : Nat, ts[i]? ≠ some none) → Q .non H)
def spWhere (K : PySem.W.Frag) : Sp := fun vs H Q _ => ∃ (f : Addr) (ts : List (Option Thing)) (rs : List Row) (so : List Bool) (tv : V) (t : Thing) (r : Nat) (O : Own), vs = [.ref f, tv] ∧ FrAt K O H r f ts rs so ∧ ThV O H tv t ∧
  (∀ i : Nat, ts[i]? = some (some t) → Q (.int i) H) ∧ ((∀ i : Nat, ts[i]? ≠ some (some t)) → Q .non H)
def spThings (K : PySem.W.Frag) : Sp := fun vs H Q _ => ∃ (f : Addr) (ts : List (Option Thing)) (rs : List Row) (so : List Bool) (r : Nat) (O : Own), vs = [.ref f] ∧ FrAt K O H r f ts rs so ∧
  ∀ p tv, H p = none → Paired (OThV O H) tv ts → Q (.ref p) (upd H p (.lst tv))
def spWithCells : Sp := fun vs H Q _ => ∃ (a b : Addr) (c : Nat) (row nums : List Int), vs = [.ref a, .int c, .ref b] ∧ H a = some (.lst (row.map V.int)) ∧ H b = some (.lst (nums.map V.int)) ∧ c + nums.length ≤ row.length ∧ row.length ≤ 1000 ∧
  ∀ p H', Same H H' → H p = none → H' p = some (.lst ((wc row c nums).map V.int)) → Q (.ref p) H'
section
variable {P : Program} {w : World} {K : PySem.W.Frag} {mg : Str → Option Value} {base : Heap}
theorem ok_with_cells (T : Tx K mg) : C8.Cal P w K mg base 1 "with_cells" spWithCells [] := by
  refine mkCal T.fd_with_cells T.g_with_cells sc_with_cells (fun _ _ _ _ _ _ us hl => match us, hl with | [_, _, _], _ => rfl) (fun vs H Q E h => ?_) (fun cdv A outer s H vs Q E hr h => ?_)
  · obtain ⟨a, b, c, row, nums, rfl, ha, hb, hc, hbig, k⟩ := h
    rfl
  · obtain ⟨a, b, c, row, nums, rfl, ha, hb, hc, hbig, k⟩ := h
    refine ⟨_, (pss_one (ps_ret (pe_op op_cat (pe_op op_cat (pe_slice sl_list (pv 0) po_none (po_some (pv 1))) (pv 2)) (pe_slice sl_list (pv 0) (po_some (pe_op op_add (pv 1) (pe_callB call_len_seq (by rfl) T.b_len PySem.boot_len (pa_cons (pv 2) pa_nil)))) po_none)))), ?_⟩
    have sz : (1000 : Nat) ≤ sizeLine := by decide
    refine ⟨_, rfl, _, rfl, _, rfl, a, _, rfl, SqL.of ha, fun p1 n1 => ?_⟩
    have s1 : Same H (upd H p1 (.lst (cutV (row.map V.int) none (some (c : Int))))) := Same.alloc n1
    have e1 : (upd H p1 (.lst (cutV (row.map V.int) none (some (c : Int))))) p1 = some (.lst (cutV (row.map V.int) none (some (c : Int)))) := upd_same
    generalize (upd H p1 (.lst (cutV (row.map V.int) none (some (c : Int))))) = H1 at s1 e1 ⊢
    have c1 : cutV (row.map V.int) none (some (c : Int)) = (row.take c).map V.int := by
      unfold cutV
      rw [HT.sIx_none, HT.sIx_nat, List.drop_zero, Nat.sub_zero, List.length_map, Nat.min_eq_left (by omega), List.map_take]
    rw [c1] at e1
    refine ⟨_, rfl, p1, b, _, _, rfl, rfl, e1, s1 _ _ hb, ?_, fun p2 n2 => ?_⟩
    · rw [List.length_map, List.length_map, List.length_take]; omega
    have s2 : Same H1 (upd H1 p2 (.lst ((row.take c).map V.int ++ nums.map V.int))) := Same.alloc n2
    have e2 : (upd H1 p2 (.lst ((row.take c).map V.int ++ nums.map V.int))) p2 = some (.lst ((row.take c).map V.int ++ nums.map V.int)) := upd_same
    generalize (upd H1 p2 (.lst ((row.take c).map V.int ++ nums.map V.int))) = H2 at s2 e2 ⊢
    have ha2 := s2 _ _ (s1 _ _ ha)
    have hb2 := s2 _ _ (s1 _ _ hb)
    refine ⟨_, rfl, _, rfl, _, rfl, b, _, rfl, .inl (SqL.of hb2), _, _, rfl, rfl, _, rfl, a, _, rfl, SqL.of ha2, fun p3 n3 => ?_⟩
    have c3 : cutV (row.map V.int) (some ((c : Int) + ((nums.map V.int).length : Int))) none = (row.drop (c + nums.length)).map V.int := by
      have e : ((c : Int) + ((nums.map V.int).length : Int)) = ((c + nums.length : Nat) : Int) := by rw [List.length_map]; rfl
      unfold cutV
      rw [HT.sIx_none, e, HT.sIx_nat, List.length_map, Nat.min_eq_left (by omega), List.take_of_length_le (by rw [List.length_drop, List.length_map]; exact Nat.le_refl _), List.map_drop]
    have s3 : Same H2 (upd H2 p3 (.lst (cutV (row.map V.int) (some ((c : Int) + ((nums.map V.int).length : Int))) none))) := Same.alloc n3
    have e3 : (upd H2 p3 (.lst (cutV (row.map V.int) (some ((c : Int) + ((nums.map V.int).length : Int))) none))) p3 = some (.lst (cutV (row.map V.int) (some ((c : Int) + ((nums.map V.int).length : Int))) none)) := upd_same
    generalize (upd H2 p3 (.lst (cutV (row.map V.int) (some ((c : Int) + ((nums.map V.int).length : Int))) none))) = H3 at s3 e3 ⊢
    rw [c3] at e3
    refine ⟨p2, p3, _, _, rfl, rfl, s3 _ _ e2, e3, ?_, fun p4 n4 => ?_⟩
    · rw [List.length_append, List.length_map, List.length_map, List.length_map, List.length_take, List.length_drop]; omega
    have s13 : Same H H3 := (s1.trans s2).trans s3
    refine k p4 _ (s13.trans (Same.alloc n4)) (s13.free n4) ?_
    rw [upd_same]
    unfold wc
    rw [List.map_append, List.map_append]
theorem ok_Frames_fill (T : Tx K mg) : C8.Met P w K mg base 1 (He.ga K "Frames") "fill" (spFill K) [] := by
  refine mkMet T.fd_Frames_fill T.c_Frames T.m_Frames_fill sc_Frames_fill (fun _ _ _ _ _ _ us hl => match us, hl with | [_, _, _, _], _ => rfl) (fun vs H Q E h => ?_) (fun cdv A outer s H vs Q E hr h => ?_)
  · obtain ⟨f, b, ts, rs, so, i, tv, t, row, r, O, rfl, hf, hD, hi, ht, hb, hbr, k⟩ := h
    rfl
  · obtain ⟨f, b, ts, rs, so, i, tv, t, row, r, O, rfl, hf, hD, hi, ht, hb, hbr, k⟩ := h
    refine ⟨_, (pss_cons (ps_asg (pv 2) (pg_sub (pe_fld (pv 0) rfl) (pv 1) set_list))
      (pss_cons (ps_asg (pe_callTy (T := "list") (r := rListOf K) call_list_of (by rfl) T.b_list (by decide +kernel) (pa_cons (pv 3) pa_nil)) (pg_sub (pe_fld (pv 0) rfl) (pv 1) set_list))
      (pss_one (ps_asg pe_bl (pg_sub (pe_fld (pv 0) rfl) (pv 1) set_list))))), ?_⟩
    obtain ⟨dx, tl, rl, sl, tvs, rvs, x⟩ := hf
    obtain ⟨lt, lr⟩ := x.lv
    -- self.my_things[frame] = thing
    refine ⟨_, rfl, _, rfl, f, _, dx, _, _, rfl, x.ob, T.c_Frames, T.n_Frames_my_things, frFs_t _ _ _, _, rfl, tl, _, _, i, rfl, rfl, x.ht, ixN_ok (by omega), ?_⟩
    have st1 : Stp (· = r) O H O (upd H tl (.lst (tvs.set i tv))) := Stp.write hD x.ot rfl
    have b1 : (upd H tl (.lst (tvs.set i tv))) b = some (.lst (row.map V.int)) := by rw [upd_ne (fun z => hbr (by rw [z]; exact x.ot))]; exact hb
    have f1 : (upd H tl (.lst (tvs.set i tv))) f = some (.ins (He.ga K "Frames") dx (frFs tl rl sl)) := by rw [upd_ne x.f1]; exact x.ob
    have t1 : (upd H tl (.lst (tvs.set i tv))) tl = some (.lst (tvs.set i tv)) := upd_same
    have r1 : (upd H tl (.lst (tvs.set i tv))) rl = some (.lst rvs) := by rw [upd_ne x.n1.symm]; exact x.hR
    have l1 : (upd H tl (.lst (tvs.set i tv))) sl = some (.lst (so.map V.bl)) := by rw [upd_ne x.n2.symm]; exact x.hs
    generalize (upd H tl (.lst (tvs.set i tv))) = H1 at st1 b1 f1 t1 r1 l1 ⊢
    -- self.my_rows[frame] = list(row)
    refine ⟨_, rfl, b, _, rfl, .inl (SqL.of b1), fun p n1 => ?_⟩
    have st2 : Stp (· = r) O H1 O (upd H1 p (.lst (row.map V.int))) := Stp.alloc st1.dm n1
    have f2 := st2.kp
    have s2 : Same H1 (upd H1 p (.lst (row.map V.int))) := Same.alloc n1
    have p2 : (upd H1 p (.lst (row.map V.int))) p = some (.lst (row.map V.int)) := upd_same
    have pO : O p = none := st1.dm.none n1
    generalize (upd H1 p (.lst (row.map V.int))) = H2 at st2 s2 p2 ⊢
    refine ⟨_, rfl, f, _, dx, _, _, rfl, s2 _ _ f1, T.c_Frames, T.n_Frames_my_rows, frFs_r _ _ _, _, rfl, rl, _, _, i, rfl, rfl, s2 _ _ r1, ixN_ok (by omega), ?_⟩
    have st3 : Stp (· = r) O H2 O (upd H2 rl (.lst (rvs.set i (.ref p)))) := Stp.write st2.dm x.oR rfl
    have f3 : (upd H2 rl (.lst (rvs.set i (.ref p)))) f = some (.ins (He.ga K "Frames") dx (frFs tl rl sl)) := by rw [upd_ne x.f2]; exact s2 _ _ f1
    have t3 : (upd H2 rl (.lst (rvs.set i (.ref p)))) tl = some (.lst (tvs.set i tv)) := by rw [upd_ne x.n1]; exact s2 _ _ t1
    have r3 : (upd H2 rl (.lst (rvs.set i (.ref p)))) rl = some (.lst (rvs.set i (.ref p))) := upd_same
    have l3 : (upd H2 rl (.lst (rvs.set i (.ref p)))) sl = some (.lst (so.map V.bl)) := by rw [upd_ne x.n3.symm]; exact s2 _ _ l1
    have p3 : (upd H2 rl (.lst (rvs.set i (.ref p)))) p = some (.lst (row.map V.int)) := by rw [upd_ne (fun z => by rw [z, x.oR] at pO; cases pO)]; exact p2
    generalize (upd H2 rl (.lst (rvs.set i (.ref p)))) = H3 at st3 f3 t3 r3 l3 p3 ⊢
    -- self.my_soil[frame] = False
    refine ⟨_, rfl, f, _, dx, _, _, rfl, f3, T.c_Frames, T.n_Frames_my_soil, frFs_s _ _ _, _, rfl, sl, _, _, i, rfl, rfl, l3, ixN_ok (by rw [List.length_map, x.l2]; exact hi), ?_⟩
    have st4 : Stp (· = r) O H3 O (upd H3 sl (.lst ((so.map V.bl).set i (.bl false)))) := Stp.write st3.dm x.os rfl
    have st := ((st1.trans st2).trans st3).trans st4
    refine k _ st ⟨dx, tl, rl, sl, tvs.set i tv, rvs.set i (.ref p), by rw [upd_ne x.f3]; exact f3, x.of, x.ot, x.oR, x.os, x.n1, x.n2, x.n3, by rw [upd_ne x.n2]; exact t3, by rw [upd_ne x.n3]; exact r3, by rw [upd_same, List.map_set], ?_, ?_, by rw [List.length_set, List.length_set]; exact x.l1, by rw [List.length_set, List.length_set]; exact x.l2, by rw [List.length_set]; exact x.big⟩
    · exact (x.pt.pmono fun _ _ q => q.kp st).pset (show OThV O _ tv (some t) from ht.kp st) i
    · refine (x.pr.pmono fun _ _ q => q.kp st).pset ⟨p, rfl, (st4.at_none p3 pO).1, pO⟩ i
theorem ok_Frames_empty (T : Tx K mg) : C8.Met P w K mg base 1 (He.ga K "Frames") "empty" (spEmpty K) [] := by
  refine mkMet T.fd_Frames_empty T.c_Frames T.m_Frames_empty sc_Frames_empty (fun _ _ _ _ _ _ us hl => match us, hl with | [_, _], _ => rfl) (fun vs H Q E h => ?_) (fun cdv A outer s H vs Q E hr h => ?_)
  · obtain ⟨f, ts, rs, so, i, r, O, rfl, hf, hD, hi, k⟩ := h
    rfl
  · obtain ⟨f, ts, rs, so, i, r, O, rfl, hf, hD, hi, k⟩ := h
    refine ⟨_, (pss_cons (ps_asg pe_non (pg_sub (pe_fld (pv 0) rfl) (pv 1) set_list))
      (pss_cons (ps_asg (pe_lst pa_nil) (pg_sub (pe_fld (pv 0) rfl) (pv 1) set_list))
      (pss_one (ps_asg pe_bl (pg_sub (pe_fld (pv 0) rfl) (pv 1) set_list))))), ?_⟩
    obtain ⟨dx, tl, rl, sl, tvs, rvs, x⟩ := hf
    obtain ⟨lt, lr⟩ := x.lv
    -- self.my_things[frame] = None
    refine ⟨_, rfl, f, _, dx, _, _, rfl, x.ob, T.c_Frames, T.n_Frames_my_things, frFs_t _ _ _, _, rfl, tl, _, _, i, rfl, rfl, x.ht, ixN_ok (by omega), ?_⟩
    have st1 : Stp (· = r) O H O (upd H tl (.lst (tvs.set i .non))) := Stp.write hD x.ot rfl
    have f1 : (upd H tl (.lst (tvs.set i .non))) f = some (.ins (He.ga K "Frames") dx (frFs tl rl sl)) := by rw [upd_ne x.f1]; exact x.ob
    have t1 : (upd H tl (.lst (tvs.set i .non))) tl = some (.lst (tvs.set i .non)) := upd_same
    have r1 : (upd H tl (.lst (tvs.set i .non))) rl = some (.lst rvs) := by rw [upd_ne x.n1.symm]; exact x.hR
    have l1 : (upd H tl (.lst (tvs.set i .non))) sl = some (.lst (so.map V.bl)) := by rw [upd_ne x.n2.symm]; exact x.hs
    generalize (upd H tl (.lst (tvs.set i .non))) = H1 at st1 f1 t1 r1 l1 ⊢
    -- self.my_rows[frame] = []
    refine ⟨by decide, fun p n1 => ?_⟩
    have st2 : Stp (· = r) O H1 O (upd H1 p (.lst [])) := Stp.alloc st1.dm n1
    have s2 : Same H1 (upd H1 p (.lst [])) := Same.alloc n1
    have p2 : (upd H1 p (.lst [])) p = some (.lst []) := upd_same
    have pO : O p = none := st1.dm.none n1
    generalize (upd H1 p (.lst [])) = H2 at st2 s2 p2 ⊢
    refine ⟨_, rfl, f, _, dx, _, _, rfl, s2 _ _ f1, T.c_Frames, T.n_Frames_my_rows, frFs_r _ _ _, _, rfl, rl, _, _, i, rfl, rfl, s2 _ _ r1, ixN_ok (by omega), ?_⟩
    have st3 : Stp (· = r) O H2 O (upd H2 rl (.lst (rvs.set i (.ref p)))) := Stp.write st2.dm x.oR rfl
    have f3 : (upd H2 rl (.lst (rvs.set i (.ref p)))) f = some (.ins (He.ga K "Frames") dx (frFs tl rl sl)) := by rw [upd_ne x.f2]; exact s2 _ _ f1
    have t3 : (upd H2 rl (.lst (rvs.set i (.ref p)))) tl = some (.lst (tvs.set i .non)) := by rw [upd_ne x.n1]; exact s2 _ _ t1
    have r3 : (upd H2 rl (.lst (rvs.set i (.ref p)))) rl = some (.lst (rvs.set i (.ref p))) := upd_same
    have l3 : (upd H2 rl (.lst (rvs.set i (.ref p)))) sl = some (.lst (so.map V.bl)) := by rw [upd_ne x.n3.symm]; exact s2 _ _ l1
    have p3 : (upd H2 rl (.lst (rvs.set i (.ref p)))) p = some (.lst []) := by rw [upd_ne (fun z => by rw [z, x.oR] at pO; cases pO)]; exact p2
    generalize (upd H2 rl (.lst (rvs.set i (.ref p)))) = H3 at st3 f3 t3 r3 l3 p3 ⊢
    -- self.my_soil[frame] = False
    refine ⟨_, rfl, f, _, dx, _, _, rfl, f3, T.c_Frames, T.n_Frames_my_soil, frFs_s _ _ _, _, rfl, sl, _, _, i, rfl, rfl, l3, ixN_ok (by rw [List.length_map, x.l2]; exact hi), ?_⟩
    have st4 : Stp (· = r) O H3 O (upd H3 sl (.lst ((so.map V.bl).set i (.bl false)))) := Stp.write st3.dm x.os rfl
    have st := ((st1.trans st2).trans st3).trans st4
    refine k _ st ⟨dx, tl, rl, sl, tvs.set i .non, rvs.set i (.ref p), by rw [upd_ne x.f3]; exact f3, x.of, x.ot, x.oR, x.os, x.n1, x.n2, x.n3, by rw [upd_ne x.n2]; exact t3, by rw [upd_ne x.n3]; exact r3, by rw [upd_same, List.map_set], ?_, ?_, by rw [List.length_set, List.length_set]; exact x.l1, by rw [List.length_set, List.length_set]; exact x.l2, by rw [List.length_set]; exact x.big⟩
    · exact (x.pt.pmono fun _ _ q => q.kp st).pset (show OThV O _ .non none from rfl) i
    · exact (x.pr.pmono fun _ _ q => q.kp st).pset (show RowV O _ (.ref p) [] from ⟨p, rfl, (st4.at_none p3 pO).1, pO⟩) i
theorem ok_Frames_thing_in (T : Tx K mg) : C8.Met P w K mg base 1 (He.ga K "Frames") "thing_in" (spThingIn K) [] := by
  refine mkMet T.fd_Frames_thing_in T.c_Frames T.m_Frames_thing_in sc_Frames_thing_in (fun _ _ _ _ _ _ us hl => match us, hl with | [_, _], _ => rfl) (fun vs H Q E h => ?_) (fun cdv A outer s H vs Q E hr h => ?_)
  · obtain ⟨f, ts, rs, so, i, ot, r, O, rfl, hf, hi, k⟩ := h
    rfl
  · obtain ⟨f, ts, rs, so, i, ot, r, O, rfl, hf, hi, k⟩ := h
    refine ⟨_, (pss_one (ps_ret (pe_ix (r := rIxL K) ix_list (pe_fld (pv 0) rfl) (pv 1) (fun _ _ => rfl)))), ?_⟩
    obtain ⟨dx, tl, rl, sl, tvs, rvs, x⟩ := hf
    obtain ⟨v, hv, rv⟩ := x.pt.pget' hi
    refine ⟨_, rfl, f, _, dx, _, _, rfl, x.ob, T.c_Frames, T.n_Frames_my_things, frFs_t _ _ _, _, rfl, tl, _, _, _, rfl, rfl, SqL.of x.ht, at_of rfl hv, k v rv⟩
theorem ok_Frames_row_in (T : Tx K mg) : C8.Met P w K mg base 1 (He.ga K "Frames") "row_in" (spRowIn K) [] := by
  refine mkMet T.fd_Frames_row_in T.c_Frames T.m_Frames_row_in sc_Frames_row_in (fun _ _ _ _ _ _ us hl => match us, hl with | [_, _], _ => rfl) (fun vs H Q E h => ?_) (fun cdv A outer s H vs Q E hr h => ?_)
  · obtain ⟨f, ts, rs, so, i, row, r, O, rfl, hf, hi, k⟩ := h
    rfl
  · obtain ⟨f, ts, rs, so, i, row, r, O, rfl, hf, hi, k⟩ := h
    refine ⟨_, (pss_one (ps_ret (pe_callTy (T := "list") (r := rListOf K) call_list_of (by rfl) T.b_list (by decide +kernel) (pa_cons (pe_ix (r := rIxL K) ix_list (pe_fld (pv 0) rfl) (pv 1) (fun _ _ => rfl)) pa_nil)))), ?_⟩
    obtain ⟨dx, tl, rl, sl, tvs, rvs, x⟩ := hf
    obtain ⟨a, e1, e2, e3⟩ := x.row hi
    refine ⟨_, rfl, f, _, dx, _, _, rfl, x.ob, T.c_Frames, T.n_Frames_my_rows, frFs_r _ _ _, _, rfl, rl, _, _, _, rfl, rfl, SqL.of x.hR, at_of rfl e1, a, _, rfl, .inl (SqL.of e2), fun p hp => k p hp⟩
theorem ok_Frames_is_soiled (T : Tx K mg) : C8.Met P w K mg base 1 (He.ga K "Frames") "is_soiled" (spIsSoiled K) [] := by
  refine mkMet T.fd_Frames_is_soiled T.c_Frames T.m_Frames_is_soiled sc_Frames_is_soiled (fun _ _ _ _ _ _ us hl => match us, hl with | [_, _], _ => rfl) (fun vs H Q E h => ?_) (fun cdv A outer s H vs Q E hr h => ?_)
  · obtain ⟨f, ts, rs, so, i, b, r, O, rfl, hf, hi, k⟩ := h
    rfl
  · obtain ⟨f, ts, rs, so, i, b, r, O, rfl, hf, hi, k⟩ := h
    refine ⟨_, (pss_one (ps_ret (pe_ix (r := rIxL K) ix_list (pe_fld (pv 0) rfl) (pv 1) (fun _ _ => rfl)))), ?_⟩
    obtain ⟨dx, tl, rl, sl, tvs, rvs, x⟩ := hf
    have e : (so.map V.bl)[i]? = some (.bl b) := by rw [List.getElem?_map, hi] <;> rfl
    refine ⟨_, rfl, f, _, dx, _, _, rfl, x.ob, T.c_Frames, T.n_Frames_my_soil, frFs_s _ _ _, _, rfl, sl, _, _, _, rfl, rfl, SqL.of x.hs, at_of rfl e, k⟩
theorem ok_Frames_things (T : Tx K mg) : C8.Met P w K mg base 1 (He.ga K "Frames") "things" (spThings K) [] := by
  refine mkMet T.fd_Frames_things T.c_Frames T.m_Frames_things sc_Frames_things (fun _ _ _ _ _ _ us hl => match us, hl with | [_], _ => rfl) (fun vs H Q E h => ?_) (fun cdv A outer s H vs Q E hr h => ?_)
  · obtain ⟨f, ts, rs, so, r, O, rfl, hf, k⟩ := h
    rfl
  · obtain ⟨f, ts, rs, so, r, O, rfl, hf, k⟩ := h
    refine ⟨_, (pss_one (ps_ret (pe_callTy (T := "list") (r := rListOf K) call_list_of (by rfl) T.b_list (by decide +kernel) (pa_cons (pe_fld (pv 0) rfl) pa_nil)))), ?_⟩
    obtain ⟨dx, tl, rl, sl, tvs, rvs, x⟩ := hf
    refine ⟨_, rfl, f, _, dx, _, _, rfl, x.ob, T.c_Frames, T.n_Frames_my_things, frFs_t _ _ _, tl, _, rfl, .inl (SqL.of x.ht), fun p hp => k p tvs hp x.pt⟩
theorem ok_Frames_least_free (T : Tx K mg) : C8.Met P w K mg base 1 (He.ga K "Frames") "least_free" (spLeastFree K) [] := by
  refine mkMet T.fd_Frames_least_free T.c_Frames T.m_Frames_least_free sc_Frames_least_free (fun _ _ _ _ _ _ us hl => match us, hl with | [_], _ => rfl) (fun vs H Q E h => ?_) (fun cdv A outer s H vs Q E hr h => ?_)
  · obtain ⟨f, ts, rs, so, r, O, rfl, hf, k1, k2⟩ := h
    rfl
  · obtain ⟨f, ts, rs, so, r, O, rfl, hf, k1, k2⟩ := h
    refine ⟨_, (pss_cons (ps_for PassesOwn.never rfl (pi_range1 (by rfl) T.b_range (pa_cons (pe_callB call_len_seq (by rfl) T.b_len PySem.boot_len (pa_cons (pe_fld (pv 0) rfl) pa_nil)) pa_nil)) (pg_name (i := 1) sc_Frames_least_free.nd rfl (by first | exact Or.inl rfl | exact Or.inr rfl)) (pss_one (ps_if (pt_cmpR op_isN (pe_ix (r := rIxL K) ix_list (pe_fld (pv 0) rfl) (pv 1) (fun _ _ => rfl)) pe_non (nomark _)) (pss_one (ps_ret (pv 1))) pss_nil)))
      (pss_one (ps_ret pe_non))), ?_⟩
    obtain ⟨dx, tl, rl, sl, tvs, rvs, x⟩ := hf
    obtain ⟨lt, lr⟩ := x.lv
    have big := x.big
    refine ⟨_, rfl, f, _, dx, _, _, rfl, x.ob, T.c_Frames, T.n_Frames_my_things, frFs_t _ _ _, tl, _, rfl, .inl (SqL.of x.ht), _, rfl, by omega, by omega, ?_⟩
    refine for_range (fun i σ H' => σ[0]? = some (some (.ref f)) ∧ σ.length = 2 ∧ H' = H ∧ ∀ j, j < i → ts[j]? ≠ some none) ⟨rfl, rfl, rfl, fun j hj => absurd hj (Nat.not_lt_zero _)⟩ (fun i σ H' hi ⟨e0, el, eh, hn⟩ => ?_) (fun σ H' ⟨e0, el, eh, hn⟩ => ?_)
    · subst eh
      have hi : i < tvs.length := by simpa using hi
      obtain ⟨a, b, rfl⟩ : ∃ a b, σ = [a, b] := by
        match σ, el with
        | [a, b], _ => exact ⟨a, b, rfl⟩
      obtain ⟨ot, hot, rot⟩ := x.pt.pget (List.getElem?_eq_getElem hi)
      refine ⟨_, e0, f, _, dx, _, _, rfl, x.ob, T.c_Frames, T.n_Frames_my_things, frFs_t _ _ _, _, rfl, tl, _, _, _, rfl, rfl, SqL.of x.ht, at_of (Int.zero_add _) (List.getElem?_eq_getElem hi), rfl, _, rfl, ?_⟩
      cases ot with
      | none =>
        have e : tvs[i] = .non := rot
        rw [e]
        refine iteT ?_
        refine ⟨_, rfl, ?_⟩
        rw [Int.zero_add]
        exact k1 i hot
      | some t =>
        obtain ⟨a', e, _⟩ := (show ThV O H' _ t from rot)
        rw [e]
        refine iteF ?_
        refine ⟨e0, rfl, rfl, fun j hj => ?_⟩
        by_cases ej : j = i
        · rw [ej, hot]; intro z; cases z
        · exact hn j (by omega)
    · subst eh
      refine k2 fun i hi => hn i ?_ hi
      have := (List.getElem?_eq_some_iff.mp hi).1
      simp
      omega
theorem ok_Frames_where (T : Tx K mg) : C8.Met P w K mg base 1 (He.ga K "Frames") "where" (spWhere K) [] := by
  refine mkMet T.fd_Frames_where T.c_Frames T.m_Frames_where sc_Frames_where (fun _ _ _ _ _ _ us hl => match us, hl with | [_, _], _ => rfl) (fun vs H Q E h => ?_) (fun cdv A outer s H vs Q E hr h => ?_)
  · obtain ⟨f, ts, rs, so, tv, t, r, O, rfl, hf, ht, k1, k2⟩ := h
    rfl
  · obtain ⟨f, ts, rs, so, tv, t, r, O, rfl, hf, ht, k1, k2⟩ := h
    refine ⟨_, (pss_cons (ps_for PassesOwn.never rfl (pi_range1 (by rfl) T.b_range (pa_cons (pe_callB call_len_seq (by rfl) T.b_len PySem.boot_len (pa_cons (pe_fld (pv 0) rfl) pa_nil)) pa_nil)) (pg_name (i := 2) sc_Frames_where.nd rfl (by first | exact Or.inl rfl | exact Or.inr rfl)) (pss_one (ps_if (pt_cmpR (op_eqD hr.units) (pe_ix (r := rIxL K) ix_list (pe_fld (pv 0) rfl) (pv 2) (fun _ _ => rfl)) (pv 1) (nomark _)) (pss_one (ps_ret (pv 2))) pss_nil)))
      (pss_one (ps_ret pe_non))), ?_⟩
    obtain ⟨dx, tl, rl, sl, tvs, rvs, x⟩ := hf
    obtain ⟨lt, lr⟩ := x.lv
    have big := x.big
    refine ⟨_, rfl, f, _, dx, _, _, rfl, x.ob, T.c_Frames, T.n_Frames_my_things, frFs_t _ _ _, tl, _, rfl, .inl (SqL.of x.ht), _, rfl, by omega, by omega, ?_⟩
    refine for_range (fun i σ H' => σ[0]? = some (some (.ref f)) ∧ σ[1]? = some (some tv) ∧ σ.length = 3 ∧ H' = H ∧ ∀ j, j < i → ts[j]? ≠ some (some t)) ⟨rfl, rfl, rfl, rfl, fun j hj => absurd hj (Nat.not_lt_zero _)⟩ (fun i σ H' hi ⟨e0, e1, el, eh, hn⟩ => ?_) (fun σ H' ⟨e0, e1, el, eh, hn⟩ => ?_)
    · subst eh
      have hi : i < tvs.length := by simpa using hi
      obtain ⟨a, b, c, rfl⟩ : ∃ a b c, σ = [a, b, c] := by
        match σ, el with
        | [a, b, c], _ => exact ⟨a, b, c, rfl⟩
      obtain ⟨ot, hot, rot⟩ := x.pt.pget (List.getElem?_eq_getElem hi)
      obtain ⟨dp1, sh1⟩ := OThV.dp (K := K) rot
      have sh2 := Thing.dat_shaped t (let ⟨_, _, _, _, z⟩ := ht; z)
      refine ⟨_, e0, f, _, dx, _, _, rfl, x.ob, T.c_Frames, T.n_Frames_my_things, frFs_t _ _ _, _, rfl, tl, _, _, _, rfl, rfl, SqL.of x.ht, at_of (Int.zero_add _) (List.getElem?_eq_getElem hi), _, e1, _, _, dp1, ht.dp, sh1, sh2, _, rfl, ?_⟩
      rw [odat_eqv]
      by_cases eo : ot = some t
      · rw [decide_eq_true eo]
        refine iteT ?_
        refine ⟨_, rfl, ?_⟩
        rw [Int.zero_add]
        exact k1 i (by rw [hot, eo])
      · rw [decide_eq_false eo]
        refine iteF ?_
        refine ⟨e0, e1, rfl, rfl, fun j hj => ?_⟩
        by_cases ej : j = i
        · rw [ej, hot]; intro z; exact eo (Option.some.inj z)
        · exact hn j (by omega)
    · subst eh
      refine k2 fun i hi => hn i ?_ hi
      have := (List.getElem?_eq_some_iff.mp hi).1
      simp
      omega
theorem ok_Frames_put_in (T : Tx K mg) : C8.Met P w K mg base 2 (He.ga K "Frames") "put_in" (spPutIn K) [] := by
  refine mkMet T.fd_Frames_put_in T.c_Frames T.m_Frames_put_in sc_Frames_put_in (fun _ _ _ _ _ _ us hl => match us, hl with | [_, _, _, _], _ => rfl) (fun vs H Q E h => ?_) (fun cdv A outer s H vs Q E hr h => ?_)
  · obtain ⟨f, b, ts, rs, so, i, c, row, nums, r, O, rfl, hf, hD, hi, hb, hbr, hc, hbig, k⟩ := h
    rfl
  · obtain ⟨f, b, ts, rs, so, i, c, row, nums, r, O, rfl, hf, hD, hi, hb, hbr, hc, hbig, k⟩ := h
    refine ⟨_, (pss_cons (ps_asg (C8.pe_c (ok_with_cells T) hr (by decide) rfl (pa_cons (pe_ix (r := rIxL K) ix_list (pe_fld (pv 0) rfl) (pv 1) (fun _ _ => rfl)) (pa_cons (pv 2) (pa_cons (pv 3) pa_nil)))) (pg_sub (pe_fld (pv 0) rfl) (pv 1) set_list))
      (pss_one (ps_asg pe_bl (pg_sub (pe_fld (pv 0) rfl) (pv 1) set_list)))), ?_⟩
    obtain ⟨dx, tl, rl, sl, tvs, rvs, x⟩ := hf
    obtain ⟨lt, lr⟩ := x.lv
    obtain ⟨a, e1, e2, e3⟩ := x.row hi
    have hil : i < ts.length := by rw [← x.l1]; exact (List.getElem?_eq_some_iff.mp hi).1
    -- self.my_rows[frame] = with_cells(self.my_rows[frame], cell, numbers)
    refine ⟨_, rfl, f, _, dx, _, _, rfl, x.ob, T.c_Frames, T.n_Frames_my_rows, frFs_r _ _ _, _, rfl, rl, _, _, _, rfl, rfl, SqL.of x.hR, at_of rfl e1, _, rfl, _, rfl, ?_⟩
    refine ⟨a, b, c, row, nums, rfl, e2, hb, hc, hbig, fun p H2 s2 n1 p2 => ?_⟩
    have st2 : Stp (· = r) O H O H2 := Stp.of_same hD s2
    have pO : O p = none := hD.none n1
    refine ⟨_, rfl, f, _, dx, _, _, rfl, s2 _ _ x.ob, T.c_Frames, T.n_Frames_my_rows, frFs_r _ _ _, _, rfl, rl, _, _, i, rfl, rfl, s2 _ _ x.hR, ixN_ok (by omega), ?_⟩
    have st3 : Stp (· = r) O H2 O (upd H2 rl (.lst (rvs.set i (.ref p)))) := Stp.write st2.dm x.oR rfl
    have f3 : (upd H2 rl (.lst (rvs.set i (.ref p)))) f = some (.ins (He.ga K "Frames") dx (frFs tl rl sl)) := by rw [upd_ne x.f2]; exact s2 _ _ x.ob
    have t3 : (upd H2 rl (.lst (rvs.set i (.ref p)))) tl = some (.lst tvs) := by rw [upd_ne x.n1]; exact s2 _ _ x.ht
    have r3 : (upd H2 rl (.lst (rvs.set i (.ref p)))) rl = some (.lst (rvs.set i (.ref p))) := upd_same
    have l3 : (upd H2 rl (.lst (rvs.set i (.ref p)))) sl = some (.lst (so.map V.bl)) := by rw [upd_ne x.n3.symm]; exact s2 _ _ x.hs
    have p3 : (upd H2 rl (.lst (rvs.set i (.ref p)))) p = some (.lst ((wc row c nums).map V.int)) := by rw [upd_ne (fun z => by rw [z, x.oR] at pO; cases pO)]; exact p2
    generalize (upd H2 rl (.lst (rvs.set i (.ref p)))) = H3 at st3 f3 t3 r3 l3 p3 ⊢
    -- self.my_soil[frame] = True
    refine ⟨_, rfl, f, _, dx, _, _, rfl, f3, T.c_Frames, T.n_Frames_my_soil, frFs_s _ _ _, _, rfl, sl, _, _, i, rfl, rfl, l3, ixN_ok (by rw [List.length_map, x.l2]; exact hil), ?_⟩
    have st4 : Stp (· = r) O H3 O (upd H3 sl (.lst ((so.map V.bl).set i (.bl true)))) := Stp.write st3.dm x.os rfl
    have st := (st2.trans st3).trans st4
    refine k _ st ⟨dx, tl, rl, sl, tvs, rvs.set i (.ref p), by rw [upd_ne x.f3]; exact f3, x.of, x.ot, x.oR, x.os, x.n1, x.n2, x.n3, by rw [upd_ne x.n2]; exact t3, by rw [upd_ne x.n3]; exact r3, by rw [upd_same, List.map_set], ?_, ?_, by rw [List.length_set]; exact x.l1, by rw [List.length_set]; exact x.l2, x.big⟩
    · exact x.pt.pmono fun _ _ q => q.kp st
    · exact (x.pr.pmono fun _ _ q => q.kp st).pset (show RowV O _ (.ref p) _ from ⟨p, rfl, (st4.at_none p3 pO).1, pO⟩) i
end
end Pw


set_option Elab.async false
set_option linter.all false
set_option maxRecDepth 100000
set_option maxHeartbeats 4000000
namespace Pw
open PySem PySem.Spec PyProof.Rows L2
theorem Stp.layS {P : Nat → Prop} {O : Own} {H H' : Hp} {a : Addr} {o : HO} {r : Nat} (d : Dm O H) (h : H a = none) (s : Same H H') (e : H' a = some o) (nt : Nt o := by intro xs z; cases z) : Stp P O H (tag O a r) H' := by
  refine ⟨fun b u e _ => s b u e, fun b => ?_, fun b u e => ⟨u, s b u e⟩, fun b r' e' => ?_⟩
  · by_cases hb : b = a
    · exact .inr (by rw [hb]; exact h)
    · exact .inl (tag_ne hb)
  · by_cases hb : b = a
    · exact ⟨o, by rw [hb]; exact e, nt⟩
    · rw [tag_ne hb] at e'
      obtain ⟨u, hu, nu⟩ := d b r' e'
      exact ⟨u, s b u hu, nu⟩
section
variable {P : Program} {w : World} {K : PySem.W.Frag} {mg : Str → Option Value} {base : Heap}
theorem ok_Frames_init (T : Tx K mg) : C8.Mak P w K mg base 1 "Frames" (He.ga K "Frames") (spFrInit K) [] := by
  refine mkMak T.fd_Frames_init T.k_Frames T.g_Frames sc_Frames_init (fun _ _ _ _ _ _ us hl => match us, hl with | [_, _], _ => rfl) (fun vs H Q E h => ?_) (fun cdv A outer s H vs Q E hr h => ?_)
  · obtain ⟨p, dx, n, r, O, rfl, hp, hO, hD, n1, n2, k⟩ := h
    rfl
  · obtain ⟨p, dx, n, r, O, rfl, hp, hO, hD, n1, n2, k⟩ := h
    refine ⟨_, (pss_cons (ps_fld (pv 0) (pe_lc (own := [("frame", 2)]) (g := gName 2) (tt := tYes) rfl sc_Frames_init.nd (pi_range1 (by rfl) T.b_range (pa_cons (pv 1) pa_nil)) (blkOk_by (own := [("frame", 2)]) (N := ["self", "many", "frame"]) (sc := defScope s_Frames_init) (by decide +kernel)) (fun _ _ _ _ _ => pg_name (i := 2) sc_Frames_init.nd rfl (Or.inl rfl)) (fun _ _ _ _ _ => pts_nil) (fun _ _ _ _ _ => pe_non)) rfl)
      (pss_cons (ps_fld (pv 0) (pe_lc (own := [("frame", 2)]) (g := gName 2) (tt := tYes) rfl sc_Frames_init.nd (pi_range1 (by rfl) T.b_range (pa_cons (pv 1) pa_nil)) (blkOk_by (own := [("frame", 2)]) (N := ["self", "many", "frame"]) (sc := defScope s_Frames_init) (by decide +kernel)) (fun _ _ _ _ _ => pg_name (i := 2) sc_Frames_init.nd rfl (Or.inl rfl)) (fun _ _ _ _ _ => pts_nil) (fun _ _ _ _ _ => (pe_lst pa_nil))) rfl)
      (pss_one (ps_fld (pv 0) (pe_lc (own := [("frame", 2)]) (g := gName 2) (tt := tYes) rfl sc_Frames_init.nd (pi_range1 (by rfl) T.b_range (pa_cons (pv 1) pa_nil)) (blkOk_by (own := [("frame", 2)]) (N := ["self", "many", "frame"]) (sc := defScope s_Frames_init) (by decide +kernel)) (fun _ _ _ _ _ => pg_name (i := 2) sc_Frames_init.nd rfl (Or.inl rfl)) (fun _ _ _ _ _ => pts_nil) (fun _ _ _ _ _ => pe_bl)) rfl)))), ?_⟩
    have nb : ∀ i : Nat, i < n.toNat → i < sizeLine := fun i hi => Nat.lt_of_lt_of_le (Nat.lt_of_lt_of_le hi (by omega : n.toNat ≤ 64)) (by decide)
    -- self.my_things = [None for frame in range(many)]
    refine ⟨_, rfl, n, rfl, by omega, by omega, fun tl t0 => lc_range (fun i H' => H' = upd H tl (.lst (List.replicate i V.non))) rfl (fun i H' hi e => ?_) (fun H' e => ?_)⟩
    · subst e
      exact ⟨rfl, _, upd_same, by rw [List.length_replicate]; exact nb i hi, by rw [upd_upd, List.replicate_succ']⟩
    subst e
    have st1 : Stp (· = r) O H (tag O tl r) (upd H tl (.lst (List.replicate n.toNat V.non))) := Stp.lay hD t0
    have pt : p ≠ tl := ne_of_none hp t0
    have p1 : (upd H tl (.lst (List.replicate n.toNat V.non))) p = some (.ins (He.ga K "Frames") dx []) := by rw [upd_ne pt]; exact hp
    have t1 : (upd H tl (.lst (List.replicate n.toNat V.non))) tl = some (.lst (List.replicate n.toNat V.non)) := upd_same
    have op1 : (tag O tl r) p = some r := (tag_ne pt).trans hO
    have ot1 : (tag O tl r) tl = some r := tag_same
    generalize (upd H tl (.lst (List.replicate n.toNat V.non))) = H1 at st1 p1 t1 ⊢
    generalize tag O tl r = O1 at st1 op1 ot1 ⊢
    refine ⟨_, rfl, p, _, dx, [], rfl, p1, T.c_Frames, T.n_Frames_my_things, (by show 0 < 1000; decide), ?_⟩
    have st2 : Stp (· = r) O1 H1 O1 (upd H1 p (.ins (He.ga K "Frames") dx (putF "my_things" (.ref tl) []))) := Stp.write st1.dm op1 rfl
    have p2 : (upd H1 p (.ins (He.ga K "Frames") dx (putF "my_things" (.ref tl) []))) p = some (.ins (He.ga K "Frames") dx (putF "my_things" (.ref tl) [])) := upd_same
    have t2 : (upd H1 p (.ins (He.ga K "Frames") dx (putF "my_things" (.ref tl) []))) tl = some (.lst (List.replicate n.toNat V.non)) := by rw [upd_ne pt.symm]; exact t1
    generalize (upd H1 p (.ins (He.ga K "Frames") dx (putF "my_things" (.ref tl) []))) = H2 at st2 p2 t2 ⊢
    -- self.my_rows = [[] for frame in range(many)]
    refine ⟨_, rfl, n, rfl, by omega, by omega, fun rl r0 => lc_range (fun i H' => Same H2 H' ∧ ∃ vs, H' rl = some (.lst vs) ∧ vs.length = i ∧ Paired (fun v (row : Row) => ∃ a, v = .ref a ∧ H' a = some (.lst (row.map V.int)) ∧ H2 a = none ∧ a ≠ rl) vs (List.replicate i []))
      ⟨Same.alloc r0, [], upd_same, rfl, .nil⟩ (fun i H' hi hx => ?_) (fun H' hx => ?_)⟩
    · obtain ⟨s', vs, e1, e2, e3⟩ := hx
      refine ⟨rfl, by decide, fun q hq => ⟨vs, ?_, by rw [e2]; exact nb i hi, ?_⟩⟩
      · rw [upd_ne (ne_of_none e1 hq)]; exact e1
      · have qr : q ≠ rl := (ne_of_none e1 hq).symm
        have q2 : H2 q = none := s'.free hq
        refine ⟨fun b o e => ?_, vs ++ [.ref q], upd_same, by simp [e2], ?_⟩
        · rw [upd_ne (ne_of_none e r0), upd_ne (ne_of_none (s' b o e) hq)]; exact s' b o e
        · rw [List.replicate_succ']
          refine (e3.pmono fun v row ⟨a, h1, h2, h3, h4⟩ => ⟨a, h1, by rw [upd_ne h4, upd_ne (ne_of_none h2 hq)]; exact h2, h3, h4⟩).papp (.cons ⟨q, rfl, by rw [upd_ne qr, upd_same]; rfl, q2, qr⟩ .nil)
    obtain ⟨s', vs, e1, e2, e3⟩ := hx
    have st3 : Stp (· = r) O1 H2 (tag O1 rl r) H' := Stp.layS st2.dm r0 s' e1
    have pr : p ≠ rl := ne_of_none p2 r0
    have tr : tl ≠ rl := ne_of_none t2 r0
    have op3 : (tag O1 rl r) p = some r := (tag_ne pr).trans op1
    have ot3 : (tag O1 rl r) tl = some r := (tag_ne tr).trans ot1
    have or3 : (tag O1 rl r) rl = some r := tag_same
    have rows3 : Paired (RowV (tag O1 rl r) H') vs (List.replicate n.toNat []) := e3.pmono fun v row ⟨a, h1, h2, h3, h4⟩ => ⟨a, h1, h2, (tag_ne h4).trans (st2.dm.none h3)⟩
    have p3 := s' _ _ p2
    have t3 := s' _ _ t2
    generalize tag O1 rl r = O3 at st3 op3 ot3 or3 rows3 ⊢
    refine ⟨_, rfl, p, _, dx, _, rfl, p3, T.c_Frames, T.n_Frames_my_rows, (by show 1 < 1000; decide), ?_⟩
    have st4 : Stp (· = r) O3 H' O3 (upd H' p (.ins (He.ga K "Frames") dx (putF "my_rows" (.ref rl) (putF "my_things" (.ref tl) [])))) := Stp.write st3.dm op3 rfl
    have p4 : (upd H' p (.ins (He.ga K "Frames") dx (putF "my_rows" (.ref rl) (putF "my_things" (.ref tl) [])))) p = some (.ins (He.ga K "Frames") dx (putF "my_rows" (.ref rl) (putF "my_things" (.ref tl) []))) := upd_same
    have t4 : (upd H' p (.ins (He.ga K "Frames") dx (putF "my_rows" (.ref rl) (putF "my_things" (.ref tl) [])))) tl = some (.lst (List.replicate n.toNat V.non)) := by rw [upd_ne pt.symm]; exact t3
    have r4 : (upd H' p (.ins (He.ga K "Frames") dx (putF "my_rows" (.ref rl) (putF "my_things" (.ref tl) [])))) rl = some (.lst vs) := by rw [upd_ne pr.symm]; exact e1
    have rows4 := rows3.pmono fun _ _ q => q.kp st4
    generalize (upd H' p (.ins (He.ga K "Frames") dx (putF "my_rows" (.ref rl) (putF "my_things" (.ref tl) [])))) = H4 at st4 p4 t4 r4 rows4 ⊢
    -- self.my_soil = [False for frame in range(many)]
    refine ⟨_, rfl, n, rfl, by omega, by omega, fun sl s0 => lc_range (fun i H' => H' = upd H4 sl (.lst (List.replicate i (V.bl false)))) rfl (fun i H' hi e => ?_) (fun H' e => ?_)⟩
    · subst e
      exact ⟨rfl, _, upd_same, by rw [List.length_replicate]; exact nb i hi, by rw [upd_upd, List.replicate_succ']⟩
    subst e
    have st5 : Stp (· = r) O3 H4 (tag O3 sl r) (upd H4 sl (.lst (List.replicate n.toNat (V.bl false)))) := Stp.lay st4.dm s0
    have ps : p ≠ sl := ne_of_none p4 s0
    have ts : tl ≠ sl := ne_of_none t4 s0
    have rs : rl ≠ sl := ne_of_none r4 s0
    have p5 : (upd H4 sl (.lst (List.replicate n.toNat (V.bl false)))) p = some (.ins (He.ga K "Frames") dx (putF "my_rows" (.ref rl) (putF "my_things" (.ref tl) []))) := by rw [upd_ne ps]; exact p4
    refine ⟨_, rfl, p, _, dx, _, rfl, p5, T.c_Frames, T.n_Frames_my_soil, (by show 2 < 1000; decide), ?_⟩
    have st6 : Stp (· = r) (tag O3 sl r) (upd H4 sl (.lst (List.replicate n.toNat (V.bl false)))) (tag O3 sl r) (upd (upd H4 sl (.lst (List.replicate n.toNat (V.bl false)))) p (.ins (He.ga K "Frames") dx (frFs tl rl sl))) := Stp.write st5.dm ((tag_ne ps).trans op3) rfl
    refine k _ _ (((((st1.trans st2).trans st3).trans st4).trans st5).trans st6) ⟨dx, tl, rl, sl, List.replicate n.toNat V.non, vs, upd_same, (tag_ne ps).trans op3, (tag_ne ts).trans ot3, (tag_ne rs).trans or3, tag_same, tr, ts, rs, ?_, ?_, ?_, ?_, ?_, ?_, ?_, ?_⟩
    · rw [upd_ne pt.symm, upd_ne ts]; exact t4
    · rw [upd_ne pr.symm, upd_ne rs]; exact r4
    · rw [upd_ne ps.symm, upd_same, List.map_replicate]
    · have : ∀ m : Nat, Paired (OThV (tag O3 sl r) (upd (upd H4 sl (.lst (List.replicate n.toNat (V.bl false)))) p (.ins (He.ga K "Frames") dx (frFs tl rl sl)))) (List.replicate m V.non) (List.replicate m none) := fun m => by
        induction m with
        | zero => exact .nil
        | succ m ih => exact .cons rfl ih
      exact this _
    · exact (rows4.pmono fun _ _ q => q.kp st5).pmono fun _ _ q => q.kp st6
    · rw [List.length_replicate, List.length_replicate]
    · rw [List.length_replicate, List.length_replicate]
    · rw [List.length_replicate]; omega
end
end Pw


set_option Elab.async false
set_option linter.all false
set_option maxRecDepth 100000
set_option maxHeartbeats 4000000
namespace Pw
open PySem PySem.Spec PyProof.Rows L2
/-! ### the shelf -/
def shFs (pl rd : Addr) : List (Str × V) := [("my_sheets", .ref pl), ("my_rows", .ref rd)]
theorem shFs_s (a b : Addr) : (shFs a b).lookup ("my_sheets" : Str) = some (.ref a) := by rfl
theorem shFs_r (a b : Addr) : (shFs a b).lookup ("my_rows" : Str) = some (.ref b) := by rfl
def oV : Option Int → V
  | none => .non
  | some i => .int i
structure ShX (K : PySem.W.Frag) (O : Own) (H : Hp) (r : Nat) (s dx pl rd : Addr) (kvs : List (Key × V)) (ss : List (Option Int)) (sr : List (Int × Row)) : Prop where
  ob : H s = some (.ins (He.ga K "Shelf") dx (shFs pl rd))
  os : O s = some r
  op : O pl = some r
  od : O rd = some r
  hp : H pl = some (.lst (ss.map oV))
  hd : H rd = some (.dK kvs)
  dk : Dk Sum.inl (RowV O H) kvs sr
  cnt : sr.length + cN ss = ss.length
  nd : (sr.map (·.1)).Nodup
  big : ss.length ≤ 128
def ShAt (K : PySem.W.Frag) (O : Own) (H : Hp) (r : Nat) (s : Addr) (ss : List (Option Int)) (sr : List (Int × Row)) : Prop := ∃ dx pl rd kvs, ShX K O H r s dx pl rd kvs ss sr
section
variable {K : PySem.W.Frag} {O O1 : Own} {H H1 : Hp} {P : Nat → Prop} {r : Nat} {s dx pl rd : Addr} {kvs : List (Key × V)} {ss : List (Option Int)} {sr : List (Int × Row)}
theorem ShX.kq (h : ShX K O H r s dx pl rd kvs ss sr) (st : Kp P O H O1 H1) (n : ¬ P r) : ShX K O1 H1 r s dx pl rd kvs ss sr := by
  obtain ⟨a1, a2⟩ := st.at_role h.ob h.os n
  obtain ⟨b1, b2⟩ := st.at_role h.hp h.op n
  obtain ⟨c1, c2⟩ := st.at_role h.hd h.od n
  exact ⟨a1, a2, b2, c2, b1, c1, h.dk.pmono fun _ _ q => ⟨q.1, q.2.kq st⟩, h.cnt, h.nd, h.big⟩
theorem ShAt.kq (h : ShAt K O H r s ss sr) (st : Kp P O H O1 H1) (m : ¬ P r) : ShAt K O1 H1 r s ss sr := by
  obtain ⟨dx, pl, rd, kvs, x⟩ := h
  exact ⟨dx, pl, rd, kvs, x.kq st m⟩
theorem ShAt.kp (h : ShAt K O H r s ss sr) (st : Stp P O H O1 H1) (m : ¬ P r) : ShAt K O1 H1 r s ss sr := h.kq st.kq m
theorem ShX.n1 (h : ShX K O H r s dx pl rd kvs ss sr) : s ≠ pl := ne_of h.ob h.hp (by intro z; cases z)
theorem ShX.n2 (h : ShX K O H r s dx pl rd kvs ss sr) : s ≠ rd := ne_of h.ob h.hd (by intro z; cases z)
theorem ShX.n3 (h : ShX K O H r s dx pl rd kvs ss sr) : pl ≠ rd := ne_of h.hp h.hd (by intro z; cases z)
end
def spShInit (K : PySem.W.Frag) : Sp := fun vs H Q _ => ∃ (p dx : Addr) (n : Int) (r : Nat) (O : Own), vs = [.ref p, .int n] ∧ H p = some (.ins (He.ga K "Shelf") dx []) ∧ O p = some r ∧ Dm O H ∧ 0 ≤ n ∧ n ≤ 128 ∧
  ∀ O' H', Stp (· = r) O H O' H' → ShAt K O' H' r p (List.replicate n.toNat none) [] → Q .non H'
def spPutOn (K : PySem.W.Frag) : Sp := fun vs H Q _ => ∃ (s b : Addr) (ss : List (Option Int)) (sr : List (Int × Row)) (x : Int) (row : Row) (r : Nat) (O : Own), vs = [.ref s, .int x, .ref b] ∧ ShAt K O H r s ss sr ∧ Dm O H ∧
  H b = some (.lst (row.map V.int)) ∧ O b ≠ some r ∧ (∃ j : Nat, ss[j]? = some none) ∧ lk sr x = none ∧
  ∀ (j : Nat) H', ss[j]? = some none → Stp (· = r) O H O H' → ShAt K O H' r s (ss.set j (some x)) (sr ++ [(x, row)]) → Q (.int j) H'
def spTakeOff (K : PySem.W.Frag) : Sp := fun vs H Q _ => ∃ (s : Addr) (ss : List (Option Int)) (sr : List (Int × Row)) (x : Int) (row : Row) (r : Nat) (O : Own), vs = [.ref s, .int x] ∧ ShAt K O H r s ss sr ∧ Dm O H ∧
  (∃ j : Nat, ss[j]? = some (some x)) ∧ lk sr x = some row ∧
  ∀ (j : Nat) v H', ss[j]? = some (some x) → Stp (· = r) O H O H' → ShAt K O H' r s (ss.set j none) (dl sr x) → RowV O H' v row → Q v H'
def spRowOfSheet (K : PySem.W.Frag) : Sp := fun vs H Q _ => ∃ (s : Addr) (ss : List (Option Int)) (sr : List (Int × Row)) (x : Int) (row : Row) (r : Nat) (O : Own), vs = [.ref s, .int x] ∧ ShAt K O H r s ss sr ∧ lk sr x = some row ∧
  ∀ p, H p = none → Q (.ref p) (upd H p (.lst (row.map V.int)))
def spIsFull (K : PySem.W.Frag) : Sp := fun vs H Q _ => ∃ (s : Addr) (ss : List (Option Int)) (sr : List (Int × Row)) (r : Nat) (O : Own), vs = [.ref s] ∧ ShAt K O H r s ss sr ∧ ∀ b : Bool, (b = false → ∃ j : Nat, ss[j]? = some none) → (b = true → ∀ j : Nat, ss[j]? ≠ some none) → Q (.bl b) H
def spSheets (K : PySem.W.Frag) : Sp := fun vs H Q _ => ∃ (s : Addr) (ss : List (Option Int)) (sr : List (Int × Row)) (r : Nat) (O : Own), vs = [.ref s] ∧ ShAt K O H r s ss sr ∧ ∀ p, H p = none → Q (.ref p) (upd H p (.lst (ss.map oV)))
theorem oV_flat (o : Option Int) : flatV (oV o) = true := by cases o <;> rfl
theorem oV_eq (o : Option Int) (x : Int) : eqV (oV o) (.int x) = true ↔ o = some x := by
  cases o with
  | none => exact ⟨(fun h => Bool.noConfusion (show false = true from h)), (fun h => by cases h)⟩
  | some y =>
    show (y == x) = true ↔ _
    simp
theorem oV_non (o : Option Int) : eqV (oV o) .non = true ↔ o = none := by
  cases o with
  | none => exact ⟨fun _ => rfl, fun _ => rfl⟩
  | some y => exact ⟨(fun h => Bool.noConfusion (show false = true from h)), (fun h => by cases h)⟩
/-- the first place of what is there -/
theorem first_at {α : Type} [DecidableEq α] (x : α) : ∀ {l : List α} {j : Nat}, l[j]? = some x → ∃ i : Nat, l[i]? = some x ∧ ∀ (m : Nat) y, m < i → l[m]? = some y → y ≠ x
  | [], j, h => by simp at h
  | a :: r, j, h => by
    by_cases e : a = x
    · exact ⟨0, by rw [e]; rfl, fun m y hm => absurd hm (Nat.not_lt_zero _)⟩
    · cases j with
      | zero => simp at h; exact absurd h e
      | succ j =>
        obtain ⟨i, h1, h2⟩ := first_at x (l := r) (j := j) (by simpa using h)
        refine ⟨i + 1, by simpa using h1, fun m y hm hy => ?_⟩
        cases m with
        | zero => simp at hy; rw [← hy]; exact e
        | succ m => exact h2 m y (by omega) (by simpa using hy)
section
variable {P : Program} {w : World} {K : PySem.W.Frag} {mg : Str → Option Value} {base : Heap}
theorem ok_Shelf_init (T : Tx K mg) : C8.Mak P w K mg base 1 "Shelf" (He.ga K "Shelf") (spShInit K) [] := by
  refine mkMak T.fd_Shelf_init T.k_Shelf T.g_Shelf sc_Shelf_init (fun _ _ _ _ _ _ us hl => match us, hl with | [_, _], _ => rfl) (fun vs H Q E h => ?_) (fun cdv A outer s H vs Q E hr h => ?_)
  · obtain ⟨p, dx, n, r, O, rfl, hp, hO, hD, n1, n2, k⟩ := h
    rfl
  · obtain ⟨p, dx, n, r, O, rfl, hp, hO, hD, n1, n2, k⟩ := h
    refine ⟨_, (pss_cons (ps_fld (pv 0) (pe_lc (own := [("place", 2)]) (g := gName 2) (tt := tYes) rfl sc_Shelf_init.nd (pi_range1 (by rfl) T.b_range (pa_cons (pv 1) pa_nil)) (blkOk_by (own := [("place", 2)]) (N := ["self", "many", "place"]) (sc := defScope s_Shelf_init) (by decide +kernel)) (fun _ _ _ _ _ => pg_name (i := 2) sc_Shelf_init.nd rfl (Or.inl rfl)) (fun _ _ _ _ _ => pts_nil) (fun _ _ _ _ _ => pe_non)) rfl)
      (pss_one (ps_fld (pv 0) pe_dnewK rfl))), ?_⟩
    have nb : ∀ i : Nat, i < n.toNat → i < sizeLine := fun i hi => Nat.lt_of_lt_of_le (Nat.lt_of_lt_of_le hi (by omega : n.toNat ≤ 128)) (by decide)
    refine ⟨_, rfl, n, rfl, by omega, by omega, fun pl t0 => lc_range (fun i H' => H' = upd H pl (.lst (List.replicate i V.non))) rfl (fun i H' hi e => ?_) (fun H' e => ?_)⟩
    · subst e
      exact ⟨rfl, _, upd_same, by rw [List.length_replicate]; exact nb i hi, by rw [upd_upd, List.replicate_succ']⟩
    subst e
    have st1 : Stp (· = r) O H (tag O pl r) (upd H pl (.lst (List.replicate n.toNat V.non))) := Stp.lay hD t0
    have pt : p ≠ pl := ne_of_none hp t0
    have p1 : (upd H pl (.lst (List.replicate n.toNat V.non))) p = some (.ins (He.ga K "Shelf") dx []) := by rw [upd_ne pt]; exact hp
    have t1 : (upd H pl (.lst (List.replicate n.toNat V.non))) pl = some (.lst (List.replicate n.toNat V.non)) := upd_same
    have op1 : (tag O pl r) p = some r := (tag_ne pt).trans hO
    have ot1 : (tag O pl r) pl = some r := tag_same
    generalize (upd H pl (.lst (List.replicate n.toNat V.non))) = H1 at st1 p1 t1 ⊢
    generalize tag O pl r = O1 at st1 op1 ot1 ⊢
    refine ⟨_, rfl, p, _, dx, [], rfl, p1, T.c_Shelf, T.n_Shelf_my_sheets, (by show 0 < 1000; decide), ?_⟩
    have st2 : Stp (· = r) O1 H1 O1 (upd H1 p (.ins (He.ga K "Shelf") dx (putF "my_sheets" (.ref pl) []))) := Stp.write st1.dm op1 rfl
    have p2 : (upd H1 p (.ins (He.ga K "Shelf") dx (putF "my_sheets" (.ref pl) []))) p = some (.ins (He.ga K "Shelf") dx (putF "my_sheets" (.ref pl) [])) := upd_same
    have t2 : (upd H1 p (.ins (He.ga K "Shelf") dx (putF "my_sheets" (.ref pl) []))) pl = some (.lst (List.replicate n.toNat V.non)) := by rw [upd_ne pt.symm]; exact t1
    generalize (upd H1 p (.ins (He.ga K "Shelf") dx (putF "my_sheets" (.ref pl) []))) = H2 at st2 p2 t2 ⊢
    intro rd d0
    have st3 : Stp (· = r) O1 H2 (tag O1 rd r) (upd H2 rd (.dK [])) := Stp.lay st2.dm d0
    have pr : p ≠ rd := ne_of_none p2 d0
    have tr : pl ≠ rd := ne_of_none t2 d0
    refine ⟨_, rfl, p, _, dx, _, rfl, by rw [upd_ne pr]; exact p2, T.c_Shelf, T.n_Shelf_my_rows, (by show 1 < 1000; decide), ?_⟩
    have st4 : Stp (· = r) (tag O1 rd r) (upd H2 rd (.dK [])) (tag O1 rd r) (upd (upd H2 rd (.dK [])) p (.ins (He.ga K "Shelf") dx (shFs pl rd))) := Stp.write st3.dm ((tag_ne pr).trans op1) rfl
    refine k _ _ (((st1.trans st2).trans st3).trans st4) ⟨dx, pl, rd, [], upd_same, (tag_ne pr).trans op1, (tag_ne tr).trans ot1, tag_same, ?_, ?_, .nil, ?_, List.nodup_nil, ?_⟩
    · rw [upd_ne pt.symm, upd_ne tr, List.map_replicate]; exact t2
    · rw [upd_ne pr.symm, upd_same]
    · rw [cN_rep, List.length_replicate]; simp
    · rw [List.length_replicate]; omega
theorem ok_Shelf_is_full (T : Tx K mg) : C8.Met P w K mg base 1 (He.ga K "Shelf") "is_full" (spIsFull K) [] := by
  refine mkMet T.fd_Shelf_is_full T.c_Shelf T.m_Shelf_is_full sc_Shelf_is_full (fun _ _ _ _ _ _ us hl => match us, hl with | [_], _ => rfl) (fun vs H Q E h => ?_) (fun cdv A outer s H vs Q E hr h => ?_)
  · obtain ⟨s', ss, sr, r, O, rfl, hs, k⟩ := h
    rfl
  · obtain ⟨s', ss, sr, r, O, rfl, hs, k⟩ := h
    refine ⟨_, (pss_one (ps_ret (pe_cmpR op_notIn_seq pe_non (pe_fld (pv 0) rfl) (by rfl)))), ?_⟩
    obtain ⟨dx, pl, rd, kvs, x⟩ := hs
    refine ⟨_, rfl, s', _, dx, _, _, rfl, x.ob, T.c_Shelf, T.n_Shelf_my_sheets, shFs_s _ _, pl, _, rfl, .inl (SqL.of x.hp), rfl, by rw [List.all_map]; exact List.all_eq_true.mpr fun o _ => oV_flat o, ?_⟩
    have e : inV .non (ss.map oV) = true ↔ ∃ j : Nat, ss[j]? = some none := by
      unfold inV
      rw [List.any_map, List.any_eq_true]
      constructor
      · rintro ⟨o, ho, h⟩
        rw [(oV_non o).mp h] at ho
        obtain ⟨j, hj, e⟩ := List.getElem_of_mem ho
        exact ⟨j, by rw [List.getElem?_eq_getElem hj, e]⟩
      · rintro ⟨j, h⟩
        exact ⟨none, List.mem_of_getElem? h, rfl⟩
    cases h : inV .non (ss.map oV) with
    | true => exact k false (fun _ => e.mp h) (fun z => nomatch z)
    | false => exact k true (fun z => nomatch z) (fun _ j hj => by rw [e.mpr ⟨j, hj⟩] at h; cases h)
theorem ok_Shelf_sheets (T : Tx K mg) : C8.Met P w K mg base 1 (He.ga K "Shelf") "sheets" (spSheets K) [] := by
  refine mkMet T.fd_Shelf_sheets T.c_Shelf T.m_Shelf_sheets sc_Shelf_sheets (fun _ _ _ _ _ _ us hl => match us, hl with | [_], _ => rfl) (fun vs H Q E h => ?_) (fun cdv A outer s H vs Q E hr h => ?_)
  · obtain ⟨s', ss, sr, r, O, rfl, hs, k⟩ := h
    rfl
  · obtain ⟨s', ss, sr, r, O, rfl, hs, k⟩ := h
    refine ⟨_, (pss_one (ps_ret (pe_callTy (T := "list") (r := rListOf K) call_list_of (by rfl) T.b_list (by decide +kernel) (pa_cons (pe_fld (pv 0) rfl) pa_nil)))), ?_⟩
    obtain ⟨dx, pl, rd, kvs, x⟩ := hs
    refine ⟨_, rfl, s', _, dx, _, _, rfl, x.ob, T.c_Shelf, T.n_Shelf_my_sheets, shFs_s _ _, pl, _, rfl, .inl (SqL.of x.hp), fun p hp => k p hp⟩
theorem ok_Shelf_row_of_sheet (T : Tx K mg) : C8.Met P w K mg base 1 (He.ga K "Shelf") "row_of_sheet" (spRowOfSheet K) [] := by
  refine mkMet T.fd_Shelf_row_of_sheet T.c_Shelf T.m_Shelf_row_of_sheet sc_Shelf_row_of_sheet (fun _ _ _ _ _ _ us hl => match us, hl with | [_, _], _ => rfl) (fun vs H Q E h => ?_) (fun cdv A outer s H vs Q E hr h => ?_)
  · obtain ⟨s', ss, sr, x', row, r, O, rfl, hs, hx, k⟩ := h
    rfl
  · obtain ⟨s', ss, sr, x', row, r, O, rfl, hs, hx, k⟩ := h
    refine ⟨_, (pss_one (ps_ret (pe_callTy (T := "list") (r := rListOf K) call_list_of (by rfl) T.b_list (by decide +kernel) (pa_cons (pe_dget (hu_of hr) (pe_fld (pv 0) rfl) (pv 1) (fun _ _ => rfl)) pa_nil)))), ?_⟩
    obtain ⟨dx, pl, rd, kvs, x⟩ := hs
    obtain ⟨v, hv, a, rfl, h1, h2⟩ := x.dk.sm inl_inj hx
    refine ⟨_, rfl, s', _, dx, _, _, rfl, x.ob, T.c_Shelf, T.n_Shelf_my_rows, shFs_r _ _, _, rfl, rd, _, rfl, (by have := DGet.k (k := Sum.inl x') x.hd; rw [hv] at this; exact this), a, _, rfl, .inl (SqL.of h1), fun p hp => k p hp⟩
theorem ok_Shelf_take_off (T : Tx K mg) : C8.Met P w K mg base 1 (He.ga K "Shelf") "take_off" (spTakeOff K) [] := by
  refine mkMet T.fd_Shelf_take_off T.c_Shelf T.m_Shelf_take_off sc_Shelf_take_off (fun _ _ _ _ _ _ us hl => match us, hl with | [_, _], _ => rfl) (fun vs H Q E h => ?_) (fun cdv A outer s H vs Q E hr h => ?_)
  · obtain ⟨s', ss, sr, x', row, r, O, rfl, hs, hD, ⟨j0, hj0⟩, hx, k⟩ := h
    rfl
  · obtain ⟨s', ss, sr, x', row, r, O, rfl, hs, hD, ⟨j0, hj0⟩, hx, k⟩ := h
    refine ⟨_, (pss_cons (ps_set (i := 2) sc_Shelf_take_off.nd rfl (by first | exact Or.inl rfl | exact Or.inr rfl) (pe_bm PySem.F.plainAttrs_list PySem.F.slot_list_index PySem.F.type_list_index mt_index (pe_fld (pv 0) rfl) (pa_cons (pv 1) pa_nil)))
      (pss_cons (ps_asg pe_non (pg_sub (pe_fld (pv 0) rfl) (pv 2) set_list))
      (pss_one (ps_ret (pe_dpop1 (pe_fld (pv 0) rfl) (pv 1) ⟨rfl, rfl, rfl, rfl⟩))))), ?_⟩
    obtain ⟨dx, pl, rd, kvs, x⟩ := hs
    obtain ⟨j, hj, hf⟩ := first_at _ hj0
    obtain ⟨v, hv, rv⟩ := x.dk.sm inl_inj hx
    have hj' : (ss.map oV)[j]? = some (.int x') := by rw [List.getElem?_map, hj] <;> rfl
    refine ⟨_, rfl, s', _, dx, _, _, rfl, x.ob, T.c_Shelf, T.n_Shelf_my_sheets, shFs_s _ _, .inl ⟨rfl, _, SqL.of x.hp⟩, _, rfl, pl, _, _, j, _, rfl, rfl, SqL.of x.hp, rfl, by rw [List.all_map]; exact List.all_eq_true.mpr fun o _ => oV_flat o, hj', (oV_eq (some x') x').mpr rfl, fun m z hm hz => ?_, ?_⟩
    · rw [List.getElem?_map] at hz
      obtain ⟨o, ho, rfl⟩ := Option.map_eq_some_iff.mp hz
      have := hf m o hm ho
      cases e : eqV (oV o) (.int x') with
      | false => rfl
      | true => exact absurd ((oV_eq o x').mp e) this
    have jl : j < (ss.map oV).length := (List.getElem?_eq_some_iff.mp hj').1
    refine ⟨_, rfl, s', _, dx, _, _, rfl, x.ob, T.c_Shelf, T.n_Shelf_my_sheets, shFs_s _ _, _, rfl, pl, _, _, j, rfl, rfl, x.hp, ixN_ok jl, ?_⟩
    have st1 : Stp (· = r) O H O (upd H pl (.lst ((ss.map oV).set j .non))) := Stp.write hD x.op rfl
    have o1 : (upd H pl (.lst ((ss.map oV).set j .non))) s' = some (.ins (He.ga K "Shelf") dx (shFs pl rd)) := by rw [upd_ne x.n1]; exact x.ob
    have p1 : (upd H pl (.lst ((ss.map oV).set j .non))) pl = some (.lst ((ss.map oV).set j .non)) := upd_same
    have d1 : (upd H pl (.lst ((ss.map oV).set j .non))) rd = some (.dK kvs) := by rw [upd_ne x.n3.symm]; exact x.hd
    generalize (upd H pl (.lst ((ss.map oV).set j .non))) = H1 at st1 o1 p1 d1 ⊢
    refine ⟨_, rfl, s', _, dx, _, _, rfl, o1, T.c_Shelf, T.n_Shelf_my_rows, shFs_r _ _, rd, rfl, .inl ⟨_, .inl d1⟩, _, rfl, kvs, Sum.inl x', v, d1, rfl, hv, ?_⟩
    have st2 : Stp (· = r) O H1 O (upd H1 rd (.dK (dropK kvs (Sum.inl x')))) := Stp.write st1.dm x.od rfl
    have st := st1.trans st2
    refine k j v _ hj st ⟨dx, pl, rd, _, by rw [upd_ne x.n2]; exact o1, x.os, x.op, x.od, by rw [upd_ne x.n3, List.map_set]; exact p1, upd_same, ?_, ?_, dl_nodup x.nd, by rw [List.length_set]; exact x.big⟩ (rv.kp st)
    · exact Dk.drop (x.dk.pmono fun _ _ q => ⟨q.1, q.2.kp st⟩) inl_inj
    · have h1 := cN_take hj
      have h2 := dl_len x.nd (k := x') (by rw [hx]; exact fun z => nomatch z)
      have h3 := x.cnt
      rw [List.length_set]
      omega
theorem ok_Shelf_put_on (T : Tx K mg) : C8.Met P w K mg base 1 (He.ga K "Shelf") "put_on" (spPutOn K) [] := by
  refine mkMet T.fd_Shelf_put_on T.c_Shelf T.m_Shelf_put_on sc_Shelf_put_on (fun _ _ _ _ _ _ us hl => match us, hl with | [_, _, _], _ => rfl) (fun vs H Q E h => ?_) (fun cdv A outer s H vs Q E hr h => ?_)
  · obtain ⟨s', b, ss, sr, x', row, r, O, rfl, hs, hD, hb, hbr, ⟨j0, hj0⟩, hx, k⟩ := h
    rfl
  · obtain ⟨s', b, ss, sr, x', row, r, O, rfl, hs, hD, hb, hbr, ⟨j0, hj0⟩, hx, k⟩ := h
    refine ⟨_, (pss_cons (ps_for PassesOwn.never rfl (pi_range1 (by rfl) T.b_range (pa_cons (pe_callB call_len_seq (by rfl) T.b_len PySem.boot_len (pa_cons (pe_fld (pv 0) rfl) pa_nil)) pa_nil)) (pg_name (i := 3) sc_Shelf_put_on.nd rfl (by first | exact Or.inl rfl | exact Or.inr rfl)) (pss_one (ps_if (pt_cmpR op_isN (pe_ix (r := rIxL K) ix_list (pe_fld (pv 0) rfl) (pv 3) (fun _ _ => rfl)) pe_non (nomark _)) (pss_cons (ps_asg (pv 1) (pg_sub (pe_fld (pv 0) rfl) (pv 3) set_list))
      (pss_cons (ps_dput (hu_of hr) (pe_fld (pv 0) rfl) (pv 1) (pe_callTy (T := "list") (r := rListOf K) call_list_of (by rfl) T.b_list (by decide +kernel) (pa_cons (pv 2) pa_nil)) rfl)
      (pss_one (ps_ret (pv 3))))) pss_nil)))
      (pss_one ps_never)), ?_⟩
    obtain ⟨dx, pl, rd, kvs, x⟩ := hs
    have big := x.big
    refine ⟨_, rfl, s', _, dx, _, _, rfl, x.ob, T.c_Shelf, T.n_Shelf_my_sheets, shFs_s _ _, pl, _, rfl, .inl (SqL.of x.hp), _, rfl, by omega, by rw [List.length_map]; omega, ?_⟩
    refine for_range (fun i σ H' => σ[0]? = some (some (.ref s')) ∧ σ[1]? = some (some (.int x')) ∧ σ[2]? = some (some (.ref b)) ∧ σ.length = 4 ∧ H' = H ∧ ∀ j, j < i → ss[j]? ≠ some none) ⟨rfl, rfl, rfl, rfl, rfl, fun j hj => absurd hj (Nat.not_lt_zero _)⟩ (fun i σ H' hi ⟨e0, e1, e2, el, eh, hn⟩ => ?_) (fun σ H' ⟨e0, e1, e2, el, eh, hn⟩ => ?_)
    · subst eh
      have hi : i < ss.length := by simpa using hi
      obtain ⟨a, b', c, d, rfl⟩ : ∃ a b c d, σ = [a, b, c, d] := by
        match σ, el with
        | [a, b, c, d], _ => exact ⟨a, b, c, d, rfl⟩
      obtain ⟨o, ho⟩ : ∃ o, ss[i]? = some o := ⟨_, List.getElem?_eq_getElem hi⟩
      have ho' : (ss.map oV)[i]? = some (oV o) := by rw [List.getElem?_map, ho] <;> rfl
      refine ⟨_, e0, s', _, dx, _, _, rfl, x.ob, T.c_Shelf, T.n_Shelf_my_sheets, shFs_s _ _, _, rfl, pl, _, _, _, rfl, rfl, SqL.of x.hp, at_of (Int.zero_add _) ho', rfl, _, rfl, ?_⟩
      cases o with
      | some y =>
        refine iteF ?_
        refine ⟨e0, e1, e2, rfl, rfl, fun j hj => ?_⟩
        by_cases ej : j = i
        · rw [ej, ho]; intro z; cases z
        · exact hn j (by omega)
      | none =>
        refine iteT ?_
        have il : i < (ss.map oV).length := by rw [List.length_map]; exact hi
        refine ⟨_, e1, _, e0, s', _, dx, _, _, rfl, x.ob, T.c_Shelf, T.n_Shelf_my_sheets, shFs_s _ _, _, rfl, pl, _, _, i, rfl, rfl, x.hp, by rw [Int.zero_add]; exact ixN_ok il, ?_⟩
        have st1 : Stp (· = r) O H' O (upd H' pl (.lst ((ss.map oV).set i (.int x')))) := Stp.write hD x.op rfl
        have o1 : (upd H' pl (.lst ((ss.map oV).set i (.int x')))) s' = some (.ins (He.ga K "Shelf") dx (shFs pl rd)) := by rw [upd_ne x.n1]; exact x.ob
        have p1 : (upd H' pl (.lst ((ss.map oV).set i (.int x')))) pl = some (.lst ((ss.map oV).set i (.int x'))) := upd_same
        have d1 : (upd H' pl (.lst ((ss.map oV).set i (.int x')))) rd = some (.dK kvs) := by rw [upd_ne x.n3.symm]; exact x.hd
        have b1 : (upd H' pl (.lst ((ss.map oV).set i (.int x')))) b = some (.lst (row.map V.int)) := by rw [upd_ne (fun z => hbr (by rw [z]; exact x.op))]; exact hb
        generalize (upd H' pl (.lst ((ss.map oV).set i (.int x')))) = H1 at st1 o1 p1 d1 b1 ⊢
        refine ⟨_, e2, b, _, rfl, .inl (SqL.of b1), fun p n1 => ?_⟩
        have st2 : Stp (· = r) O H1 O (upd H1 p (.lst (row.map V.int))) := Stp.alloc st1.dm n1
        have s2 : Same H1 (upd H1 p (.lst (row.map V.int))) := Same.alloc n1
        have q2 : (upd H1 p (.lst (row.map V.int))) p = some (.lst (row.map V.int)) := upd_same
        have pO : O p = none := st1.dm.none n1
        generalize (upd H1 p (.lst (row.map V.int))) = H2 at st2 s2 q2 ⊢
        have kl : kvs.length < sizeLine := by
          have h1 := x.dk.plen
          have h2 := x.cnt
          exact Nat.lt_of_le_of_lt (by omega : kvs.length ≤ 128) (by decide)
        refine ⟨_, e0, s', _, dx, _, _, rfl, s2 _ _ o1, T.c_Shelf, T.n_Shelf_my_rows, shFs_r _ _, _, e1, rd, _, rfl, DPut.k (k := Sum.inl x') (s2 _ _ d1) kl, ?_⟩
        have st3 : Stp (· = r) O H2 O (upd H2 rd (.dK (putK kvs (Sum.inl x') (.ref p)))) := Stp.write st2.dm x.od rfl
        have st := (st1.trans st2).trans st3
        have pd : p ≠ rd := fun z => by rw [z, x.od] at pO; cases pO
        refine ⟨_, rfl, ?_⟩
        rw [Int.zero_add]
        refine k i _ ho st ⟨dx, pl, rd, _, by rw [upd_ne x.n2]; exact s2 _ _ o1, x.os, x.op, x.od, by rw [upd_ne x.n3, List.map_set]; exact s2 _ _ p1, upd_same, ?_, ?_, nodup_snoc x.nd hx, by rw [List.length_set]; exact x.big⟩
        · rw [← pt_new hx]
          exact Dk.put (x.dk.pmono fun _ _ q => ⟨q.1, q.2.kp st⟩) inl_inj ⟨p, rfl, by rw [upd_ne pd]; exact q2, pO⟩
        · have h1 := cN_put (x := x') ho
          have h3 := x.cnt
          rw [List.length_set, List.length_append]
          simp only [List.length_cons, List.length_nil]
          omega
    · exact hn j0 (by have := (List.getElem?_eq_some_iff.mp hj0).1; simp; exact this) hj0
end
end Pw


set_option Elab.async false
set_option linter.all false
set_option maxRecDepth 100000
set_option maxHeartbeats 4000000
namespace Pw
open PySem PySem.Spec PyProof.Rows L2
/-! ### files -/
def fiFs (fd : Addr) : List (Str × V) := [("my_files", .ref fd)]
theorem fiFs_f (a : Addr) : (fiFs a).lookup ("my_files" : Str) = some (.ref a) := by rfl
abbrev Fls := List (Str × List Row)
def FileV (O : Own) (H : Hp) (r : Nat) (v : V) (rows : List Row) : Prop := ∃ a rv, v = .ref a ∧ H a = some (.lst rv) ∧ O a = some r ∧ Paired (RowV O H) rv rows ∧ rows.length ≤ 64
structure FiX (K : PySem.W.Frag) (O : Own) (H : Hp) (r : Nat) (f dx fd : Addr) (kvs : List (Key × V)) (fs : Fls) : Prop where
  ob : H f = some (.ins (He.ga K "Files") dx (fiFs fd))
  of : O f = some r
  od : O fd = some r
  hd : H fd = some (.dK kvs)
  dk : Dk Sum.inr (FileV O H r) kvs fs
  nd : (fs.map (·.1)).Nodup
  vd : (kvs.map (·.2)).Nodup
def FiAt (K : PySem.W.Frag) (O : Own) (H : Hp) (r : Nat) (f : Addr) (fs : Fls) : Prop := ∃ dx fd kvs, FiX K O H r f dx fd kvs fs
section
variable {K : PySem.W.Frag} {O O1 : Own} {H H1 : Hp} {P : Nat → Prop} {r : Nat} {f dx fd : Addr} {kvs : List (Key × V)} {fs : Fls} {v : V} {rows : List Row}
theorem FileV.kq (h : FileV O H r v rows) (s : Kp P O H O1 H1) (n : ¬ P r) : FileV O1 H1 r v rows := by
  obtain ⟨a, rv, e, h1, h2, h3, h4⟩ := h
  obtain ⟨k1, k2⟩ := s.at_role h1 h2 n
  exact ⟨a, rv, e, k1, k2, h3.pmono fun _ _ q => q.kq s, h4⟩
/-- one object of the files' is changed, another than this one -/
theorem FileV.kp_ne {a : Addr} (h : FileV O H r v rows) (s : Stp P O H O1 H1) (k : ∀ b o, H b = some o → b ≠ a → H1 b = some o) (n : v ≠ .ref a) : FileV O1 H1 r v rows := by
  obtain ⟨c, rv, e, h1, h2, h3, h4⟩ := h
  exact ⟨c, rv, e, k c _ h1 (fun z => n (by rw [e, z])), (s.own h1).trans h2, h3.pmono fun _ _ q => q.kp s, h4⟩
theorem FiX.kq (h : FiX K O H r f dx fd kvs fs) (st : Kp P O H O1 H1) (n : ¬ P r) : FiX K O1 H1 r f dx fd kvs fs := by
  obtain ⟨a1, a2⟩ := st.at_role h.ob h.of n
  obtain ⟨c1, c2⟩ := st.at_role h.hd h.od n
  exact ⟨a1, a2, c2, c1, h.dk.pmono fun _ _ q => ⟨q.1, q.2.kq st n⟩, h.nd, h.vd⟩
theorem FiAt.kq (h : FiAt K O H r f fs) (st : Kp P O H O1 H1) (m : ¬ P r) : FiAt K O1 H1 r f fs := by
  obtain ⟨dx, fd, kvs, x⟩ := h
  exact ⟨dx, fd, kvs, x.kq st m⟩
theorem FiAt.kp (h : FiAt K O H r f fs) (st : Stp P O H O1 H1) (m : ¬ P r) : FiAt K O1 H1 r f fs := h.kq st.kq m
theorem FiX.n1 (h : FiX K O H r f dx fd kvs fs) : f ≠ fd := ne_of h.ob h.hd (by intro z; cases z)
theorem FiX.get (h : FiX K O H r f dx fd kvs fs) {n : Str} (e : lk fs n = some rows) : ∃ a rv, H a = some (.lst rv) ∧ O a = some r ∧ Paired (RowV O H) rv rows ∧ DGet H fd (.str n) (some (.ref a)) ∧ rows.length ≤ 64 := by
  obtain ⟨v, hv, a, rv, rfl, h1, h2, h3, h4⟩ := h.dk.sm inr_inj e
  have q := DGet.k (k := Sum.inr n) h.hd
  rw [hv] at q
  exact ⟨a, rv, h1, h2, h3, q, h4⟩
theorem FiX.miss (h : FiX K O H r f dx fd kvs fs) {n : Str} (e : lk fs n = none) : DGet H fd (.str n) none := by
  have q := DGet.k (k := Sum.inr n) h.hd
  rw [h.dk.nn inr_inj e] at q
  exact q
end
def upF (fs : Fls) (n : Str) (p : Nat) (row : Row) : Fls := fs.map fun q => if q.1 = n then (q.1, q.2.set p row) else q
theorem upF_keys (fs : Fls) (n : Str) (p : Nat) (row : Row) : (upF fs n p row).map (·.1) = fs.map (·.1) := by
  unfold upF
  rw [List.map_map]
  refine List.map_congr_left fun q _ => ?_
  show (if q.1 = n then (q.1, q.2.set p row) else q).1 = q.1
  split <;> rfl
def spFiInit (K : PySem.W.Frag) : Sp := fun vs H Q _ => ∃ (p dx : Addr) (r : Nat) (O : Own), vs = [.ref p] ∧ H p = some (.ins (He.ga K "Files") dx []) ∧ O p = some r ∧ Dm O H ∧
  ∀ O' H', Stp (· = r) O H O' H' → FiAt K O' H' r p [] → Q .non H'
def spMake (K : PySem.W.Frag) : Sp := fun vs H Q _ => ∃ (f b : Addr) (fs : Fls) (n : Str) (bv : List V) (rows : List Row) (r : Nat) (O : Own), vs = [.ref f, .str n, .ref b] ∧ FiAt K O H r f fs ∧ Dm O H ∧ lk fs n = none ∧ H b = some (.lst bv) ∧
  Paired (fun v (row : Row) => ∃ a, v = .ref a ∧ H a = some (.lst (row.map V.int))) bv rows ∧ rows.length ≤ 64 ∧ fs.length ≤ 1000 ∧
  ∀ O' H', Stp (· = r) O H O' H' → FiAt K O' H' r f (fs ++ [(n, rows)]) → Q .non H'
def spSizeOf (K : PySem.W.Frag) : Sp := fun vs H Q _ => ∃ (f : Addr) (fs : Fls) (n : Str) (rows : List Row) (r : Nat) (O : Own), vs = [.ref f, .str n] ∧ FiAt K O H r f fs ∧ lk fs n = some rows ∧ Q (.int rows.length) H
def spAskPage (K : PySem.W.Frag) : Sp := fun vs H Q _ => ∃ (f : Addr) (fs : Fls) (n : Str) (p : Int) (rows : List Row) (r : Nat) (O : Own), vs = [.ref f, .str n, .int p] ∧ FiAt K O H r f fs ∧ lk fs n = some rows ∧ p < rows.length ∧ Q .non H
def spRowAt (K : PySem.W.Frag) : Sp := fun vs H Q _ => ∃ (f : Addr) (fs : Fls) (n : Str) (p : Nat) (rows : List Row) (row : Row) (r : Nat) (O : Own), vs = [.ref f, .str n, .int p] ∧ FiAt K O H r f fs ∧ lk fs n = some rows ∧ rows[p]? = some row ∧
  ∀ q, H q = none → Q (.ref q) (upd H q (.lst (row.map V.int)))
def spStoreRow (K : PySem.W.Frag) : Sp := fun vs H Q _ => ∃ (f b : Addr) (fs : Fls) (n : Str) (p : Nat) (rows : List Row) (row : Row) (r : Nat) (O : Own), vs = [.ref f, .str n, .int p, .ref b] ∧ FiAt K O H r f fs ∧ Dm O H ∧ lk fs n = some rows ∧ p < rows.length ∧
  H b = some (.lst (row.map V.int)) ∧ ∀ H', Stp (· = r) O H O H' → FiAt K O H' r f (upF fs n p row) → Q .non H'
def spDrop (K : PySem.W.Frag) : Sp := fun vs H Q _ => ∃ (f : Addr) (fs : Fls) (n : Str) (r : Nat) (O : Own), vs = [.ref f, .str n] ∧ FiAt K O H r f fs ∧ Dm O H ∧ lk fs n ≠ none ∧ ∀ H', Stp (· = r) O H O H' → FiAt K O H' r f (dl fs n) → Q .non H'
def spNames (K : PySem.W.Frag) : Sp := fun vs H Q _ => ∃ (f : Addr) (fs : Fls) (r : Nat) (O : Own), vs = [.ref f] ∧ FiAt K O H r f fs ∧ fs.length < 64 ∧ ∀ (ys : List Str) p, (∀ n, n ∈ ys ↔ lk fs n ≠ none) → H p = none → Q (.ref p) (upd H p (.lst (ys.map V.str)))
section
variable {P : Program} {w : World} {K : PySem.W.Frag} {mg : Str → Option Value} {base : Heap}
theorem ok_Files_init (T : Tx K mg) : C8.Mak P w K mg base 1 "Files" (He.ga K "Files") (spFiInit K) [] := by
  refine mkMak T.fd_Files_init T.k_Files T.g_Files sc_Files_init (fun _ _ _ _ _ _ us hl => match us, hl with | [_], _ => rfl) (fun vs H Q E h => ?_) (fun cdv A outer s H vs Q E hr h => ?_)
  · obtain ⟨p, dx, r, O, rfl, hp, hO, hD, k⟩ := h
    rfl
  · obtain ⟨p, dx, r, O, rfl, hp, hO, hD, k⟩ := h
    refine ⟨_, (pss_one (ps_fld (pv 0) pe_dnewK rfl)), ?_⟩
    intro fd d0
    have st1 : Stp (· = r) O H (tag O fd r) (upd H fd (.dK [])) := Stp.lay hD d0
    have pr : p ≠ fd := ne_of_none hp d0
    refine ⟨_, rfl, p, _, dx, _, rfl, by rw [upd_ne pr]; exact hp, T.c_Files, T.n_Files_my_files, (by show 0 < 1000; decide), ?_⟩
    have st2 : Stp (· = r) (tag O fd r) (upd H fd (.dK [])) (tag O fd r) (upd (upd H fd (.dK [])) p (.ins (He.ga K "Files") dx (fiFs fd))) := Stp.write st1.dm ((tag_ne pr).trans hO) rfl
    exact k _ _ (st1.trans st2) ⟨dx, fd, [], upd_same, (tag_ne pr).trans hO, tag_same, by rw [upd_ne pr.symm, upd_same], .nil, List.nodup_nil, List.nodup_nil⟩
theorem ok_Files_size_of (T : Tx K mg) : C8.Met P w K mg base 1 (He.ga K "Files") "size_of" (spSizeOf K) [] := by
  refine mkMet T.fd_Files_size_of T.c_Files T.m_Files_size_of sc_Files_size_of (fun _ _ _ _ _ _ us hl => match us, hl with | [_, _], _ => rfl) (fun vs H Q E h => ?_) (fun cdv A outer s H vs Q E hr h => ?_)
  · obtain ⟨f, fs, n, rows, r, O, rfl, hf, hn, k⟩ := h
    rfl
  · obtain ⟨f, fs, n, rows, r, O, rfl, hf, hn, k⟩ := h
    refine ⟨_, (pss_cons (ps_if (pt_cmp (pc_dnotin (hu_of hr) (pv 1) (pe_fld (pv 0) rfl)) (by rfl)) (pss_one ps_never) pss_nil)
      (pss_one (ps_ret (pe_callB call_len_seq (by rfl) T.b_len PySem.boot_len (pa_cons (pe_dget (hu_of hr) (pe_fld (pv 0) rfl) (pv 1) (fun _ _ => rfl)) pa_nil))))), ?_⟩
    obtain ⟨dx, fd, kvs, x⟩ := hf
    obtain ⟨a, rv, h1, h2, h3, h4, h5⟩ := x.get hn
    refine ⟨_, rfl, _, rfl, f, _, dx, _, _, rfl, x.ob, T.c_Files, T.n_Files_my_files, fiFs_f _, fd, _, rfl, h4, _, rfl, iteF ?_⟩
    refine ⟨_, rfl, f, _, dx, _, _, rfl, x.ob, T.c_Files, T.n_Files_my_files, fiFs_f _, _, rfl, fd, _, rfl, h4, a, _, rfl, .inl (SqL.of h1), ?_⟩
    rw [h3.plen]
    exact k
theorem ok_Files_ask_page (T : Tx K mg) : C8.Met P w K mg base 2 (He.ga K "Files") "ask_page" (spAskPage K) [] := by
  refine mkMet T.fd_Files_ask_page T.c_Files T.m_Files_ask_page sc_Files_ask_page (fun _ _ _ _ _ _ us hl => match us, hl with | [_, _, _], _ => rfl) (fun vs H Q E h => ?_) (fun cdv A outer s H vs Q E hr h => ?_)
  · obtain ⟨f, fs, n, p, rows, r, O, rfl, hf, hn, hp, k⟩ := h
    rfl
  · obtain ⟨f, fs, n, p, rows, r, O, rfl, hf, hn, hp, k⟩ := h
    refine ⟨_, (pss_one (ps_if (pt_cmpR op_ge (pv 2) (C8.pe_mt (ok_Files_size_of T) hr (by decide) (pv 0) (pa_cons (pv 1) pa_nil)) (nomark _)) (pss_one ps_never) pss_nil)), ?_⟩
    have hf' := hf
    obtain ⟨dx, fd, kvs, x⟩ := hf
    refine ⟨_, rfl, _, rfl, f, dx, _, rfl, x.ob, rfl, _, rfl, f, fs, n, rows, r, O, rfl, hf', hn, ?_⟩
    refine ⟨_, _, rfl, rfl, _, rfl, ?_⟩
    rw [decide_eq_false (by omega)]
    exact iteF k
theorem ok_Files_row_at (T : Tx K mg) : C8.Met P w K mg base 3 (He.ga K "Files") "row_at" (spRowAt K) [] := by
  refine mkMet T.fd_Files_row_at T.c_Files T.m_Files_row_at sc_Files_row_at (fun _ _ _ _ _ _ us hl => match us, hl with | [_, _, _], _ => rfl) (fun vs H Q E h => ?_) (fun cdv A outer s H vs Q E hr h => ?_)
  · obtain ⟨f, fs, n, p, rows, row, r, O, rfl, hf, hn, hp, k⟩ := h
    rfl
  · obtain ⟨f, fs, n, p, rows, row, r, O, rfl, hf, hn, hp, k⟩ := h
    refine ⟨_, (pss_cons (ps_expr (C8.pe_mt (ok_Files_ask_page T) hr (by decide) (pv 0) (pa_cons (pv 1) (pa_cons (pv 2) pa_nil))))
      (pss_one (ps_ret (pe_callTy (T := "list") (r := rListOf K) call_list_of (by rfl) T.b_list (by decide +kernel) (pa_cons (pe_ix (r := rIxL K) ix_list (pe_dget (hu_of hr) (pe_fld (pv 0) rfl) (pv 1) (fun _ _ => rfl)) (pv 2) (fun _ _ => rfl)) pa_nil))))), ?_⟩
    have hf' := hf
    obtain ⟨dx, fd, kvs, x⟩ := hf
    have pl : p < rows.length := (List.getElem?_eq_some_iff.mp hp).1
    obtain ⟨a, rv, h1, h2, h3, h4, h5⟩ := x.get hn
    obtain ⟨v, hv, c, rfl, c1, c2⟩ := h3.pget' hp
    refine ⟨_, rfl, f, dx, _, rfl, x.ob, rfl, _, rfl, _, rfl, f, fs, n, p, rows, r, O, rfl, hf', hn, by omega, ?_⟩
    refine ⟨_, rfl, f, _, dx, _, _, rfl, x.ob, T.c_Files, T.n_Files_my_files, fiFs_f _, _, rfl, fd, _, rfl, h4, _, rfl, a, _, _, _, rfl, rfl, SqL.of h1, at_of rfl hv, c, _, rfl, .inl (SqL.of c1), fun q hq => k q hq⟩
theorem ok_Files_drop (T : Tx K mg) : C8.Met P w K mg base 1 (He.ga K "Files") "drop" (spDrop K) [] := by
  refine mkMet T.fd_Files_drop T.c_Files T.m_Files_drop sc_Files_drop (fun _ _ _ _ _ _ us hl => match us, hl with | [_, _], _ => rfl) (fun vs H Q E h => ?_) (fun cdv A outer s H vs Q E hr h => ?_)
  · obtain ⟨f, fs, n, r, O, rfl, hf, hD, hn, k⟩ := h
    rfl
  · obtain ⟨f, fs, n, r, O, rfl, hf, hD, hn, k⟩ := h
    refine ⟨_, (pss_cons (ps_if (pt_cmp (pc_dnotin (hu_of hr) (pv 1) (pe_fld (pv 0) rfl)) (by rfl)) (pss_one ps_never) pss_nil)
      (pss_one (ps_expr (pe_dpop1 (pe_fld (pv 0) rfl) (pv 1) ⟨rfl, rfl, rfl, rfl⟩)))), ?_⟩
    obtain ⟨dx, fd, kvs, x⟩ := hf
    obtain ⟨rows, hr'⟩ : ∃ rows, lk fs n = some rows := Option.ne_none_iff_exists'.mp hn
    obtain ⟨v, hv, rv⟩ := x.dk.sm inr_inj hr'
    have q := DGet.k (k := Sum.inr n) x.hd
    rw [hv] at q
    refine ⟨_, rfl, _, rfl, f, _, dx, _, _, rfl, x.ob, T.c_Files, T.n_Files_my_files, fiFs_f _, fd, _, rfl, q, _, rfl, iteF ?_⟩
    refine ⟨_, rfl, f, _, dx, _, _, rfl, x.ob, T.c_Files, T.n_Files_my_files, fiFs_f _, fd, rfl, .inl ⟨_, .inl x.hd⟩, _, rfl, kvs, Sum.inr n, v, x.hd, rfl, hv, ?_⟩
    have st : Stp (· = r) O H O (upd H fd (.dK (dropK kvs (Sum.inr n)))) := Stp.write hD x.od rfl
    have kp : ∀ b o, H b = some o → b ≠ fd → (upd H fd (.dK (dropK kvs (Sum.inr n)))) b = some o := fun b o e h => by rw [upd_ne h]; exact e
    refine k _ st ⟨dx, fd, _, by rw [upd_ne x.n1]; exact x.ob, x.of, x.od, upd_same, ?_, dl_nodup x.nd, x.vd.sublist (List.Sublist.map _ List.filter_sublist)⟩
    refine Dk.drop (x.dk.pmono fun kv p q => ⟨q.1, q.2.kp_ne st kp fun z => ?_⟩) inr_inj
    obtain ⟨a, rv, e, h1, _⟩ := q.2
    rw [e] at z
    have z2 : a = fd := by injection z
    rw [z2, x.hd] at h1
    cases h1
theorem ok_Files_names (T : Tx K mg) : C8.Met P w K mg base 1 (He.ga K "Files") "names" (spNames K) [] := by
  refine mkMet T.fd_Files_names T.c_Files T.m_Files_names sc_Files_names (fun _ _ _ _ _ _ us hl => match us, hl with | [_], _ => rfl) (fun vs H Q E h => ?_) (fun cdv A outer s H vs Q E hr h => ?_)
  · obtain ⟨f, fs, r, O, rfl, hf, hl, k⟩ := h
    rfl
  · obtain ⟨f, fs, r, O, rfl, hf, hl, k⟩ := h
    refine ⟨_, (pss_one (ps_ret (pe_callB (call_sortedD rfl) (by rfl) T.b_sorted (by decide +kernel) (pa_cons (pe_fld (pv 0) rfl) pa_nil)))), ?_⟩
    obtain ⟨dx, fd, kvs, x⟩ := hf
    have e : kvs.map (·.1) = (fs.map (·.1)).map Sum.inr := by
      have h := x.dk
      clear k hl x
      induction h with
      | nil => rfl
      | cons q t ih => simp [q.1, ih]
    refine ⟨_, rfl, f, _, dx, _, _, rfl, x.ob, T.c_Files, T.n_Files_my_files, fiFs_f _, fd, kvs, fs.map (·.1), rfl, .inl x.hd, e, by rw [List.length_map]; exact hl, fun ys p hp hs hn => k ys p (fun n => ?_) hn⟩
    rw [hp.mem_iff]
    by_cases hm : n ∈ fs.map (·.1)
    · exact ⟨fun _ z => lk_none.mp z hm, fun _ => hm⟩
    · exact ⟨fun z => absurd z hm, fun z => absurd (lk_none.mpr hm) z⟩
theorem ok_Files_store_row (T : Tx K mg) : C8.Met P w K mg base 3 (He.ga K "Files") "store_row" (spStoreRow K) [] := by
  refine mkMet T.fd_Files_store_row T.c_Files T.m_Files_store_row sc_Files_store_row (fun _ _ _ _ _ _ us hl => match us, hl with | [_, _, _, _], _ => rfl) (fun vs H Q E h => ?_) (fun cdv A outer s H vs Q E hr h => ?_)
  · obtain ⟨f, b, fs, n, p, rows, row, r, O, rfl, hf, hD, hn, hp, hb, k⟩ := h
    rfl
  · obtain ⟨f, b, fs, n, p, rows, row, r, O, rfl, hf, hD, hn, hp, hb, k⟩ := h
    refine ⟨_, (pss_cons (ps_expr (C8.pe_mt (ok_Files_ask_page T) hr (by decide) (pv 0) (pa_cons (pv 1) (pa_cons (pv 2) pa_nil))))
      (pss_one (ps_asg (pe_callTy (T := "list") (r := rListOf K) call_list_of (by rfl) T.b_list (by decide +kernel) (pa_cons (pv 3) pa_nil)) (pg_sub (pe_dget (hu_of hr) (pe_fld (pv 0) rfl) (pv 1) (fun _ _ => rfl)) (pv 2) set_list)))), ?_⟩
    have hf' := hf
    obtain ⟨dx, fd, kvs, x⟩ := hf
    obtain ⟨i0, v0, g1, g2, g3, a, rv, rfl, h1, h2, h3, h5⟩ := x.dk.at_ inr_inj hn
    have h4 : DGet H fd (.str n) (some (.ref a)) := by
      have q := DGet.k (k := Sum.inr n) x.hd
      rw [g3] at q
      exact q
    refine ⟨_, rfl, f, dx, _, rfl, x.ob, rfl, _, rfl, _, rfl, f, fs, n, p, rows, r, O, rfl, hf', hn, by omega, ?_⟩
    refine ⟨_, rfl, b, _, rfl, .inl (SqL.of hb), fun q n1 => ?_⟩
    have st1 : Stp (· = r) O H O (upd H q (.lst (row.map V.int))) := Stp.alloc hD n1
    have s1 : Same H (upd H q (.lst (row.map V.int))) := Same.alloc n1
    have q1 : (upd H q (.lst (row.map V.int))) q = some (.lst (row.map V.int)) := upd_same
    have qO : O q = none := hD.none n1
    have hd1 := s1 _ _ x.hd
    generalize (upd H q (.lst (row.map V.int))) = H1 at st1 s1 q1 hd1 ⊢
    have h41 : DGet H1 fd (.str n) (some (.ref a)) := by
      have q := DGet.k (k := Sum.inr n) hd1
      rw [g3] at q
      exact q
    have pl : p < rv.length := by rw [h3.plen]; exact hp
    refine ⟨_, rfl, f, _, dx, _, _, rfl, s1 _ _ x.ob, T.c_Files, T.n_Files_my_files, fiFs_f _, _, rfl, fd, _, rfl, h41, _, rfl, a, rv, _, p, rfl, rfl, s1 _ _ h1, ixN_ok pl, ?_⟩
    have st2 : Stp (· = r) O H1 O (upd H1 a (.lst (rv.set p (.ref q)))) := Stp.write st1.dm h2 rfl
    have st := st1.trans st2
    have qa : q ≠ a := fun z => by rw [z, h2] at qO; cases qO
    have kp : ∀ b o, H b = some o → b ≠ a → (upd H1 a (.lst (rv.set p (.ref q)))) b = some o := fun b o e h => by rw [upd_ne h]; exact s1 _ _ e
    refine k _ st ⟨dx, fd, kvs, kp _ _ x.ob (ne_of x.ob h1 (by intro z; cases z)), x.of, x.od, kp _ _ x.hd (ne_of x.hd h1 (by intro z; cases z)), ?_, by rw [upF_keys]; exact x.nd, x.vd⟩
    refine x.dk.pmap_at fun i kv q' e1 e2 hq => ?_
    by_cases en : q'.1 = n
    · rw [if_pos en]
      have ei : i = i0 := nodup_ix' x.nd (show fs[i]? = some (n, q'.2) by rw [e2, ← en]) g1
      subst ei
      rw [g1] at e2
      rw [g2] at e1
      cases e1
      cases e2
      refine ⟨rfl, a, rv.set p (.ref q), rfl, upd_same, h2, (h3.pmono fun _ _ z => z.kp st).pset ⟨q, rfl, ?_, qO⟩ p, by rw [List.length_set]; exact h5⟩
      rw [upd_ne qa]
      exact q1
    · rw [if_neg en]
      refine ⟨hq.1, hq.2.kp_ne st kp fun z => ?_⟩
      have ei : i = i0 := nd_ix x.vd (x := .ref a) (by rw [List.getElem?_map, e1, ← z] <;> rfl) (by rw [List.getElem?_map, g2] <;> rfl)
      rw [ei, g1] at e2
      cases e2
      exact en rfl
theorem ok_Files_make (T : Tx K mg) : C8.Met P w K mg base 1 (He.ga K "Files") "make" (spMake K) [] := by
  refine mkMet T.fd_Files_make T.c_Files T.m_Files_make sc_Files_make (fun _ _ _ _ _ _ us hl => match us, hl with | [_, _, _], _ => rfl) (fun vs H Q E h => ?_) (fun cdv A outer s H vs Q E hr h => ?_)
  · obtain ⟨f, b, fs, n, bv, rows, r, O, rfl, hf, hD, hn, hb, hrows, hl, hfl, k⟩ := h
    rfl
  · obtain ⟨f, b, fs, n, bv, rows, r, O, rfl, hf, hD, hn, hb, hrows, hl, hfl, k⟩ := h
    refine ⟨_, (pss_cons (ps_if (pt_cmp (pc_din (hu_of hr) (pv 1) (pe_fld (pv 0) rfl)) (by rfl)) (pss_one ps_never) pss_nil)
      (pss_one (ps_dput (hu_of hr) (pe_fld (pv 0) rfl) (pv 1) (pe_lc (own := [("row", 3)]) (g := gName 3) (tt := tYes) rfl sc_Files_make.nd (pi_list (pv 2)) (blkOk_by (own := [("row", 3)]) (N := ["self", "name", "rows", "row"]) (sc := defScope s_Files_make) (by decide +kernel)) (fun _ _ _ _ _ => pg_name (i := 3) sc_Files_make.nd rfl (Or.inl rfl)) (fun _ _ _ _ _ => pts_nil) (fun _ _ _ _ _ => (pe_callTy (T := "list") (r := rListOf K) call_list_of (by rfl) T.b_list (by decide +kernel) (pa_cons (pv 3) pa_nil)))) rfl))), ?_⟩
    obtain ⟨dx, fd, kvs, x⟩ := hf
    refine ⟨_, rfl, _, rfl, f, _, dx, _, _, rfl, x.ob, T.c_Files, T.n_Files_my_files, fiFs_f _, fd, _, rfl, x.miss hn, _, rfl, iteF ?_⟩
    refine ⟨_, rfl, b, rfl, ⟨_, SqL.of hb⟩, fun D d0 => lc_list (xs := bv) (fun i H' => Same H H' ∧ ∃ vs, H' D = some (.lst vs) ∧ vs.length = i ∧ Paired (fun v (row : Row) => ∃ a, v = .ref a ∧ H' a = some (.lst (row.map V.int)) ∧ H a = none ∧ a ≠ D) vs (rows.take i))
      ⟨Same.alloc d0, [], upd_same, rfl, .nil⟩ (fun i H' _ hx => .inl (.inl (hx.1 _ _ hb))) (fun i y H' hi hx => ?_) (fun H' hx => ?_)⟩
    · obtain ⟨s', vs, e1, e2, e3⟩ := hx
      obtain ⟨row, hrow, a, rfl, ha⟩ := hrows.pget hi
      have il : i < rows.length := (List.getElem?_eq_some_iff.mp hrow).1
      refine ⟨rfl, _, rfl, a, _, rfl, .inl (SqL.of (s' _ _ ha)), fun q hq => ⟨vs, ?_, by rw [e2]; exact Nat.lt_of_lt_of_le (Nat.lt_of_lt_of_le il hl) (by decide), ?_⟩⟩
      · rw [upd_ne (ne_of_none e1 hq)]; exact e1
      · have qr : q ≠ D := (ne_of_none e1 hq).symm
        have q2 : H q = none := s'.free hq
        refine ⟨fun b o e => ?_, vs ++ [.ref q], upd_same, by simp [e2], ?_⟩
        · rw [upd_ne (ne_of_none e d0), upd_ne (ne_of_none (s' b o e) hq)]; exact s' b o e
        · rw [List.take_succ, hrow]
          refine (e3.pmono fun v row ⟨a, h1, h2, h3, h4⟩ => ⟨a, h1, by rw [upd_ne h4, upd_ne (ne_of_none h2 hq)]; exact h2, h3, h4⟩).papp (.cons ⟨q, rfl, by rw [upd_ne qr, upd_same], q2, qr⟩ .nil)
    obtain ⟨s', vs, e1, e2, e3⟩ := hx
    rw [hrows.plen, List.take_length] at e3
    have st1 : Stp (· = r) O H (tag O D r) H' := Stp.layS hD d0 s' e1
    have fD : f ≠ D := ne_of_none x.ob d0
    have dD : fd ≠ D := ne_of_none x.hd d0
    have kl : kvs.length < sizeLine := by
      rw [x.dk.plen]
      exact Nat.lt_of_le_of_lt hfl (by decide)
    have pk : putK kvs (Sum.inr n) (.ref D) = kvs ++ [(Sum.inr n, .ref D)] := putK_new _ (x.dk.nn inr_inj hn)
    refine ⟨_, rfl, f, _, dx, _, _, rfl, s' _ _ x.ob, T.c_Files, T.n_Files_my_files, fiFs_f _, _, rfl, fd, _, rfl, DPut.k (k := Sum.inr n) (s' _ _ x.hd) kl, ?_⟩
    have st2 : Stp (· = r) (tag O D r) H' (tag O D r) (upd H' fd (.dK (putK kvs (Sum.inr n) (.ref D)))) := Stp.write st1.dm ((tag_ne dD).trans x.od) rfl
    have st := st1.trans st2
    have kp : ∀ b o, H b = some o → b ≠ fd → (upd H' fd (.dK (putK kvs (Sum.inr n) (.ref D)))) b = some o := fun b o e h => by rw [upd_ne h]; exact s' _ _ e
    refine k _ _ st ⟨dx, fd, _, kp _ _ x.ob x.n1, (tag_ne fD).trans x.of, (tag_ne dD).trans x.od, upd_same, ?_, nodup_snoc x.nd hn, ?_⟩
    · rw [← pt_new hn]
      refine Dk.put (x.dk.pmono fun kv p q => ⟨q.1, q.2.kp_ne st kp fun z => ?_⟩) inr_inj ⟨D, vs, rfl, by rw [upd_ne dD.symm]; exact e1, tag_same, e3.pmono fun v row ⟨a, h1, h2, h3, h4⟩ => ⟨a, h1, ?_, (tag_ne h4).trans (hD.none h3)⟩, hl⟩
      · obtain ⟨a, rv, e, h1, _⟩ := q.2
        rw [e] at z
        have z2 : a = fd := by injection z
        rw [z2, x.hd] at h1
        cases h1
      · rw [upd_ne (ne_of_none x.hd h3).symm]
        exact h2
    · rw [pk, List.map_append]
      refine nd_snoc x.vd fun m => ?_
      obtain ⟨kv, hkv, e⟩ := List.mem_map.mp m
      obtain ⟨i, hi, ei⟩ := List.getElem_of_mem hkv
      obtain ⟨p, hp, _, a, rv, e', h1, _⟩ := x.dk.pget (show kvs[i]? = some kv by rw [List.getElem?_eq_getElem hi, ei])
      rw [e'] at e
      have z2 : a = D := by injection e
      rw [z2, d0] at h1
      cases h1
end
end Pw


set_option Elab.async false
set_option linter.all false
set_option maxRecDepth 100000
set_option maxHeartbeats 4000000
namespace Pw
open PySem L2
/-! ### a store as plain data -/
structure Sto where
  ts : List (Option Thing)
  rs : List Row
  so : List Bool
  ss : List (Option Int)
  sr : List (Int × Row)
  fs : Fls
  hs : List (Int × Int)
  nw : Int
/-- the row of a thing that no frame has -/
def At (S : Sto) : Thing → Row → Prop
  | .own s, row => lk S.sr s = some row
  | .file n p, row => 0 ≤ p ∧ ∃ rows, lk S.fs n = some rows ∧ rows[p.toNat]? = some row
def Has (S : Sto) (t : Thing) (row : Row) : Prop := (∃ i : Nat, S.ts[i]? = some (some t) ∧ S.rs[i]? = some row) ∨ ((∀ i : Nat, S.ts[i]? ≠ some (some t)) ∧ At S t row)
structure SI (hand : Option Int) (S : Sto) : Prop where
  l1 : S.rs.length = S.ts.length
  l2 : S.so.length = S.ts.length
  n1 : 1 ≤ S.ts.length
  dis : ∀ (i j : Nat) t, S.ts[i]? = some (some t) → S.ts[j]? = some (some t) → i = j
  fh : ∀ (i : Nat) s, S.ts[i]? = some (some (.own s)) → lk S.hs s ≠ none ∧ lk S.sr s = none ∧ hand ≠ some s
  sh : ∀ s, lk S.sr s ≠ none → lk S.hs s ≠ none ∧ hand ≠ some s
  hf : ∀ s, lk S.hs s ≠ none → hand = some s ∨ lk S.sr s ≠ none ∨ ∃ i : Nat, S.ts[i]? = some (some (.own s))
  ff : ∀ (i : Nat) n p, S.ts[i]? = some (some (.file n p)) → 0 ≤ p ∧ ∃ rows row, lk S.fs n = some rows ∧ rows[p.toNat]? = some row ∧ (S.so[i]? = some false → S.rs[i]? = some row)
  ssr : ∀ s, (∃ j : Nat, S.ss[j]? = some (some s)) ↔ lk S.sr s ≠ none
  ssn : ∀ (i j : Nat) s, S.ss[i]? = some (some s) → S.ss[j]? = some (some s) → i = j
  srn : (S.sr.map (·.1)).Nodup
  cnt : S.sr.length + cN S.ss = S.ss.length
  hn : (S.hs.map (·.1)).Nodup
  cap : S.hs.length + 1 ≤ S.ts.length + S.ss.length
  ha : ∀ s, hand = some s → lk S.hs s ≠ none
  new : ∀ s, lk S.hs s ≠ none → s ≤ S.nw
  fsn : (S.fs.map (·.1)).Nodup
section
variable {α : Type}
theorem gs_eq {l : List α} {i : Nat} {a : α} (h : i < l.length) : (l.set i a)[i]? = some a := List.getElem?_set_self h
theorem gs_ne {l : List α} {i j : Nat} {a : α} (h : i ≠ j) : (l.set i a)[j]? = l[j]? := List.getElem?_set_ne h
theorem gs_cases {l : List α} {i j : Nat} {a x : α} (h : (l.set i a)[j]? = some x) : (j = i ∧ x = a) ∨ (j ≠ i ∧ l[j]? = some x) := by
  by_cases e : j = i
  · subst e
    have hl : j < l.length := by
      have := (List.getElem?_eq_some_iff.mp h).1
      rwa [List.length_set] at this
    rw [gs_eq hl] at h
    exact .inl ⟨rfl, (Option.some.inj h).symm⟩
  · rw [gs_ne (Ne.symm e)] at h
    exact .inr ⟨e, h⟩
theorem g_lt {l : List α} {i : Nat} {x : α} (h : l[i]? = some x) : i < l.length := (List.getElem?_eq_some_iff.mp h).1
theorem nodup_sub [DecidableEq α] : ∀ {l m : List α}, l.Nodup → (∀ x ∈ l, x ∈ m) → l.length ≤ m.length
  | [], _, _, _ => Nat.zero_le _
  | a :: r, m, hn, h => by
    obtain ⟨h1, h2⟩ := List.nodup_cons.mp hn
    have ha := h a (List.mem_cons_self ..)
    have ih := nodup_sub (l := r) (m := m.erase a) h2 fun x hx => by
      have hne : x ≠ a := fun e => h1 (e ▸ hx)
      exact (List.mem_erase_of_ne hne).mpr (h x (List.mem_cons_of_mem _ hx))
    have := List.length_erase_of_mem ha
    have hp : 0 < m.length := List.length_pos_of_mem ha
    simp only [List.length_cons]
    omega
end
def ownOf : Option Thing → Option Int
  | some (.own s) => some s
  | _ => none
/-- the sheets in frames -/
def owns (ts : List (Option Thing)) : List Int := ts.filterMap ownOf
theorem owns_mem {ts : List (Option Thing)} {s : Int} : s ∈ owns ts ↔ ∃ i : Nat, ts[i]? = some (some (.own s)) := by
  unfold owns
  rw [List.mem_filterMap]
  constructor
  · rintro ⟨o, ho, e⟩
    obtain ⟨i, hi, eo⟩ := List.getElem_of_mem ho
    have : o = some (.own s) := by
      match o, e with
      | some (.own s'), e => simp [ownOf] at e; rw [e]
    exact ⟨i, by rw [List.getElem?_eq_getElem hi, eo, this]⟩
  · rintro ⟨i, h⟩
    exact ⟨_, List.mem_of_getElem? h, rfl⟩
theorem owns_nodup : ∀ {ts : List (Option Thing)}, (∀ (i j : Nat) t, ts[i]? = some (some t) → ts[j]? = some (some t) → i = j) → (owns ts).Nodup
  | [], _ => List.nodup_nil
  | o :: r, h => by
    have ih : (owns r).Nodup := owns_nodup fun i j t h1 h2 => by
      have := h (i + 1) (j + 1) t (by simpa using h1) (by simpa using h2)
      omega
    match o, h with
    | none, h => exact ih
    | some (.file n p), h => exact ih
    | some (.own s), h =>
      show (s :: owns r).Nodup
      refine List.nodup_cons.mpr ⟨fun m => ?_, ih⟩
      obtain ⟨i, hi⟩ := owns_mem.mp m
      have := h 0 (i + 1) (.own s) rfl (by simpa using hi)
      omega
theorem owns_all : ∀ {ts : List (Option Thing)}, (∀ (i : Nat) o, ts[i]? = some o → ∃ s, o = some (.own s)) → (owns ts).length = ts.length
  | [], _ => rfl
  | o :: r, h => by
    obtain ⟨s, rfl⟩ := h 0 o rfl
    have ih := owns_all (ts := r) fun i o e => h (i + 1) o (by simpa using e)
    show (s :: owns r).length = _
    simp [ih]
/-- there is a frame to be had -/
theorem SI.can {hand : Option Int} {S : Sto} (I : SI hand S) (hno : ∀ i : Nat, S.ts[i]? ≠ some none) : (∃ (i : Nat) (n : Str) (p : Int), S.ts[i]? = some (some (.file n p))) ∨ ∃ j : Nat, S.ss[j]? = some none := by
  by_cases hf : ∃ (i : Nat) (n : Str) (p : Int), S.ts[i]? = some (some (.file n p))
  · exact .inl hf
  refine .inr (Classical.byContradiction fun hs => ?_)
  have hall : ∀ (i : Nat) o, S.ts[i]? = some o → ∃ s, o = some (.own s) := fun i o e => by
    match o, e with
    | none, e => exact absurd e (hno i)
    | some (.own s), _ => exact ⟨s, rfl⟩
    | some (.file n p), e => exact absurd ⟨i, n, p, e⟩ hf
  have h1 := owns_all hall
  have h2 : cN S.ss = 0 := cN_zero fun j hj => hs ⟨j, hj⟩
  have h3 := I.cnt
  have hnd : (owns S.ts ++ S.sr.map (·.1)).Nodup := by
    refine List.nodup_append.mpr ⟨owns_nodup I.dis, I.srn, fun a ha b hb e => ?_⟩
    subst e
    obtain ⟨i, hi⟩ := owns_mem.mp ha
    exact lk_none.mp (I.fh i a hi).2.1 hb
  have hsub : ∀ x ∈ owns S.ts ++ S.sr.map (·.1), x ∈ S.hs.map (·.1) := fun x hx => by
    refine Classical.byContradiction fun hm => ?_
    have hm' := lk_none.mpr hm
    rcases List.mem_append.mp hx with h | h
    · obtain ⟨i, hi⟩ := owns_mem.mp h
      exact (I.fh i x hi).1 hm'
    · exact (I.sh x fun z => lk_none.mp z h).1 hm'
  have h4 := nodup_sub hnd hsub
  rw [List.length_append, List.length_map, List.length_map, h1] at h4
  have h5 := I.cap
  omega
/-! ### a frame is emptied -/
def Sto.free (S : Sto) (i : Nat) : Sto := { S with ts := S.ts.set i none, rs := S.rs.set i [], so := S.so.set i false }
def Sto.shelve (S : Sto) (j : Nat) (s : Int) (row : Row) : Sto := { S with ss := S.ss.set j (some s), sr := S.sr ++ [(s, row)] }
def Sto.keepRow (S : Sto) (n : Str) (p : Nat) (row : Row) : Sto := { S with fs := upF S.fs n p row }
def Sto.fill (S : Sto) (i : Nat) (t : Thing) (row : Row) : Sto := { S with ts := S.ts.set i (some t), rs := S.rs.set i row, so := S.so.set i false }
def Sto.take (S : Sto) (j : Nat) (s : Int) : Sto := { S with ss := S.ss.set j none, sr := dl S.sr s }
/-- what stays the same when things only move -/
structure Mv (S S' : Sto) : Prop where
  has : ∀ t row, Has S t row → Has S' t row
  hs : S'.hs = S.hs
  nw : S'.nw = S.nw
  tl : S'.ts.length = S.ts.length
  sl : S'.ss.length = S.ss.length
  fk : S'.fs.map (fun q => (q.1, q.2.length)) = S.fs.map (fun q => (q.1, q.2.length))
theorem Mv.refl (S : Sto) : Mv S S := ⟨fun _ _ h => h, rfl, rfl, rfl, rfl, rfl⟩
theorem Mv.trans {S S1 S2 : Sto} (a : Mv S S1) (b : Mv S1 S2) : Mv S S2 := ⟨fun t row h => b.has t row (a.has t row h), b.hs.trans a.hs, b.nw.trans a.nw, b.tl.trans a.tl, b.sl.trans a.sl, b.fk.trans a.fk⟩
/-- .. and nothing comes into a frame -/
structure Mo (S S' : Sto) : Prop extends Mv S S' where
  old : ∀ (a : Nat) t, S'.ts[a]? = some (some t) → S.ts[a]? = some (some t)
theorem Mo.refl (S : Sto) : Mo S S := ⟨Mv.refl S, fun _ _ h => h⟩
theorem Mo.trans {S S1 S2 : Sto} (a : Mo S S1) (b : Mo S1 S2) : Mo S S2 := ⟨a.toMv.trans b.toMv, fun c t h => a.old c t (b.old c t h)⟩
theorem free_old {S : Sto} {i : Nat} (a : Nat) (t : Thing) (h : (S.free i).ts[a]? = some (some t)) : S.ts[a]? = some (some t) := by
  have h : (S.ts.set i none)[a]? = some (some t) := h
  by_cases e : a = i
  · subst e
    by_cases l : a < S.ts.length
    · rw [List.getElem?_set_self l] at h; cases h
    · rw [List.getElem?_eq_none (by rw [List.length_set]; omega)] at h; cases h
  · rw [List.getElem?_set_ne (Ne.symm e)] at h; exact h
theorem lk_sn {s x : Int} {row : Row} {sr : List (Int × Row)} : lk (sr ++ [(x, row)]) s = (lk sr s).or (if x = s then some row else none) := by
  rw [lk_app]
  rfl
/-- a sheet goes on the shelf -/
theorem SI.outOwn {hand : Option Int} {S : Sto} {i j : Nat} {s : Int} {row : Row} (I : SI hand S) (hi : S.ts[i]? = some (some (.own s))) (hr : S.rs[i]? = some row) (hj : S.ss[j]? = some none) :
    SI hand ((S.shelve j s row).free i) ∧ Mo S ((S.shelve j s row).free i) ∧ ((S.shelve j s row).free i).ts[i]? = some none := by
  obtain ⟨h1, h2, h3⟩ := I.fh i s hi
  have il := g_lt hi
  have jl := g_lt hj
  have hlk : ∀ x, lk (S.sr ++ [(s, row)]) x ≠ none ↔ (lk S.sr x ≠ none ∨ s = x) := fun x => by
    rw [lk_sn]
    cases e : lk S.sr x with
    | some _ => simp
    | none => by_cases es : s = x <;> simp [es]
  refine ⟨⟨?_, ?_, ?_, ?_, ?_, ?_, ?_, ?_, ?_, ?_, nodup_snoc I.srn h2, ?_, I.hn, ?_, I.ha, I.new, I.fsn⟩, ⟨⟨?_, rfl, rfl, by simp [Sto.free, Sto.shelve], by simp [Sto.free, Sto.shelve], rfl⟩, fun a t h => free_old (S := S.shelve j s row) a t h⟩, gs_eq il⟩
  · show (S.rs.set i []).length = (S.ts.set i none).length
    rw [List.length_set, List.length_set]; exact I.l1
  · show (S.so.set i false).length = (S.ts.set i none).length
    rw [List.length_set, List.length_set]; exact I.l2
  · show 1 ≤ (S.ts.set i none).length
    rw [List.length_set]; exact I.n1
  · intro a b t ha hb
    rcases gs_cases ha with ⟨_, e⟩ | ⟨_, ha⟩
    · cases e
    rcases gs_cases hb with ⟨_, e⟩ | ⟨_, hb⟩
    · cases e
    exact I.dis a b t ha hb
  · intro a x ha
    rcases gs_cases ha with ⟨_, e⟩ | ⟨ne, ha⟩
    · cases e
    obtain ⟨k1, k2, k3⟩ := I.fh a x ha
    refine ⟨k1, ?_, k3⟩
    show lk (S.sr ++ [(s, row)]) x = none
    rw [lk_sn, k2, if_neg]
    · rfl
    · intro e
      subst e
      exact ne (I.dis a i _ ha hi)
  · intro x hx
    rcases (hlk x).mp hx with h | h
    · exact I.sh x h
    · subst h
      exact ⟨h1, h3⟩
  · intro x hx
    rcases I.hf x hx with h | h | ⟨a, ha⟩
    · exact .inl h
    · exact .inr (.inl ((hlk x).mpr (.inl h)))
    · by_cases e : a = i
      · subst e
        rw [hi] at ha
        cases ha
        exact .inr (.inl ((hlk s).mpr (.inr rfl)))
      · exact .inr (.inr ⟨a, by show (S.ts.set i none)[a]? = _; rw [gs_ne (Ne.symm e)]; exact ha⟩)
  · intro a n p ha
    rcases gs_cases ha with ⟨_, e⟩ | ⟨ne, ha⟩
    · cases e
    obtain ⟨k0, rows, row', k1, k2, k3⟩ := I.ff a n p ha
    refine ⟨k0, rows, row', k1, k2, fun e => ?_⟩
    show (S.rs.set i [])[a]? = some row'
    have e : (S.so.set i false)[a]? = some false := e
    rw [gs_ne (Ne.symm ne)] at e ⊢
    exact k3 e
  · intro x
    show (∃ b : Nat, (S.ss.set j (some s))[b]? = some (some x)) ↔ lk (S.sr ++ [(s, row)]) x ≠ none
    rw [hlk x]
    constructor
    · rintro ⟨b, hb⟩
      rcases gs_cases hb with ⟨_, e⟩ | ⟨ne, hb⟩
      · exact .inr (Option.some.inj e).symm
      · exact .inl ((I.ssr x).mp ⟨b, hb⟩)
    · rintro (h | h)
      · obtain ⟨b, hb⟩ := (I.ssr x).mpr h
        refine ⟨b, ?_⟩
        show (S.ss.set j (some s))[b]? = _
        rw [gs_ne (fun e => by rw [← e, hj] at hb; cases hb)]
        exact hb
      · subst h
        exact ⟨j, gs_eq jl⟩
  · intro a b x ha hb
    rcases gs_cases ha with ⟨ea, e⟩ | ⟨na, ha⟩
    · rcases gs_cases hb with ⟨eb, _⟩ | ⟨nb, hb⟩
      · rw [ea, eb]
      · cases e
        exact absurd h2 ((I.ssr s).mp ⟨b, hb⟩)
    · rcases gs_cases hb with ⟨eb, e⟩ | ⟨nb, hb⟩
      · cases e
        exact absurd h2 ((I.ssr s).mp ⟨a, ha⟩)
      · exact I.ssn a b x ha hb
  · show (S.sr ++ [(s, row)]).length + cN (S.ss.set j (some s)) = (S.ss.set j (some s)).length
    have k1 := cN_put (x := s) hj
    have k2 := I.cnt
    rw [List.length_set, List.length_append]
    simp only [List.length_cons, List.length_nil]
    omega
  · show S.hs.length + 1 ≤ (S.ts.set i none).length + (S.ss.set j (some s)).length
    rw [List.length_set, List.length_set]; exact I.cap
  · rintro t row' (⟨a, ha, hra⟩ | ⟨hno, hat⟩)
    · by_cases e : a = i
      · subst e
        rw [hi] at ha
        cases ha
        rw [hr] at hra
        cases hra
        refine .inr ⟨fun b hb => ?_, ?_⟩
        · rcases gs_cases hb with ⟨_, e⟩ | ⟨ne, hb⟩
          · cases e
          · exact ne (I.dis b a _ hb hi)
        · show lk (S.sr ++ [(s, row)]) s = some row
          rw [lk_sn, h2, if_pos rfl] <;> rfl
      · refine .inl ⟨a, ?_, ?_⟩
        · show (S.ts.set i none)[a]? = _
          rw [gs_ne (Ne.symm e)]; exact ha
        · show (S.rs.set i [])[a]? = _
          rw [gs_ne (Ne.symm e)]; exact hra
    · refine .inr ⟨fun b hb => ?_, ?_⟩
      · rcases gs_cases hb with ⟨_, e⟩ | ⟨ne, hb⟩
        · cases e
        · exact hno b hb
      · cases t with
        | own x =>
          have hat : lk S.sr x = some row' := hat
          show lk (S.sr ++ [(s, row)]) x = some row'
          rw [lk_sn, hat] <;> rfl
        | file n p => exact hat
/-- a frame with a file's page is emptied: the file has the row -/
theorem SI.freeFile {hand : Option Int} {S : Sto} {i : Nat} {n : Str} {p : Int} {row : Row} (I : SI hand S) (hi : S.ts[i]? = some (some (.file n p))) (hr : S.rs[i]? = some row) (hat : At S (.file n p) row) :
    SI hand (S.free i) ∧ Mo S (S.free i) ∧ (S.free i).ts[i]? = some none := by
  have il := g_lt hi
  refine ⟨⟨?_, ?_, ?_, ?_, ?_, I.sh, ?_, ?_, I.ssr, I.ssn, I.srn, I.cnt, I.hn, ?_, I.ha, I.new, I.fsn⟩, ⟨⟨?_, rfl, rfl, by simp [Sto.free], rfl, rfl⟩, fun a t h => free_old a t h⟩, gs_eq il⟩
  · show (S.rs.set i []).length = (S.ts.set i none).length
    rw [List.length_set, List.length_set]; exact I.l1
  · show (S.so.set i false).length = (S.ts.set i none).length
    rw [List.length_set, List.length_set]; exact I.l2
  · show 1 ≤ (S.ts.set i none).length
    rw [List.length_set]; exact I.n1
  · intro a b t ha hb
    rcases gs_cases ha with ⟨_, e⟩ | ⟨_, ha⟩
    · cases e
    rcases gs_cases hb with ⟨_, e⟩ | ⟨_, hb⟩
    · cases e
    exact I.dis a b t ha hb
  · intro a x ha
    rcases gs_cases ha with ⟨_, e⟩ | ⟨ne, ha⟩
    · cases e
    exact I.fh a x ha
  · intro x hx
    rcases I.hf x hx with h | h | ⟨a, ha⟩
    · exact .inl h
    · exact .inr (.inl h)
    · have ne : i ≠ a := fun e => by rw [← e, hi] at ha; cases ha
      exact .inr (.inr ⟨a, by show (S.ts.set i none)[a]? = _; rw [gs_ne ne]; exact ha⟩)
  · intro a m q ha
    rcases gs_cases ha with ⟨_, e⟩ | ⟨ne, ha⟩
    · cases e
    obtain ⟨k0, rows, row', k1, k2, k3⟩ := I.ff a m q ha
    refine ⟨k0, rows, row', k1, k2, fun e => ?_⟩
    show (S.rs.set i [])[a]? = some row'
    have e : (S.so.set i false)[a]? = some false := e
    rw [gs_ne (Ne.symm ne)] at e ⊢
    exact k3 e
  · show S.hs.length + 1 ≤ (S.ts.set i none).length + S.ss.length
    rw [List.length_set]; exact I.cap
  · rintro t row' (⟨a, ha, hra⟩ | ⟨hno, hat'⟩)
    · by_cases e : a = i
      · subst e
        rw [hi] at ha
        cases ha
        rw [hr] at hra
        cases hra
        refine .inr ⟨fun b hb => ?_, hat⟩
        rcases gs_cases hb with ⟨_, e⟩ | ⟨ne, hb⟩
        · cases e
        · exact ne (I.dis b a _ hb hi)
      · refine .inl ⟨a, ?_, ?_⟩
        · show (S.ts.set i none)[a]? = _
          rw [gs_ne (Ne.symm e)]; exact ha
        · show (S.rs.set i [])[a]? = _
          rw [gs_ne (Ne.symm e)]; exact hra
    · refine .inr ⟨fun b hb => ?_, ?_⟩
      · rcases gs_cases hb with ⟨_, e⟩ | ⟨ne, hb⟩
        · cases e
        · exact hno b hb
      · cases t with
        | own x => exact hat'
        | file m q => exact hat'
theorem lk_upF {fs : Fls} {n m : Str} {p : Nat} {row : Row} : lk (upF fs n p row) m = (lk fs m).map fun rows => if m = n then rows.set p row else rows := by
  unfold upF
  induction fs with
  | nil => rfl
  | cons q r ih =>
    rw [List.map_cons]
    unfold lk
    by_cases e : q.1 = m
    · by_cases en : q.1 = n
      · have emn : m = n := e.symm.trans en
        simp [e, emn]
      · have emn : ¬ m = n := fun z => en (e.trans z)
        simp [e, emn]
    · by_cases en : q.1 = n
      · simp only [if_pos en, if_neg e]; exact ih
      · simp only [if_neg en, if_neg e]; exact ih
theorem upF_sizes (fs : Fls) (n : Str) (p : Nat) (row : Row) : (upF fs n p row).map (fun q => (q.1, q.2.length)) = fs.map (fun q => (q.1, q.2.length)) := by
  unfold upF
  rw [List.map_map]
  refine List.map_congr_left fun q _ => ?_
  show (fun q : Str × List Row => (q.1, q.2.length)) (if q.1 = n then (q.1, q.2.set p row) else q) = _
  split
  · simp
  · rfl
/-- a soiled frame's row is stored in its file -/
theorem SI.keepRow {hand : Option Int} {S : Sto} {i : Nat} {n : Str} {p : Int} {row : Row} (I : SI hand S) (hi : S.ts[i]? = some (some (.file n p))) (hr : S.rs[i]? = some row) :
    SI hand (S.keepRow n p.toNat row) ∧ Mo S (S.keepRow n p.toNat row) ∧ At (S.keepRow n p.toNat row) (.file n p) row := by
  obtain ⟨p0, rows0, row0, g1, g2, g3⟩ := I.ff i n p hi
  have pl := g_lt g2
  have hat : ∀ m q row', ¬ (m = n ∧ q = p) → 0 ≤ q → At S (.file m q) row' → At (S.keepRow n p.toNat row) (.file m q) row' := fun m q row' hne h0 ⟨_, rows, h1, h2⟩ => by
    refine ⟨h0, (if m = n then rows.set p.toNat row else rows), ?_, ?_⟩
    · show lk (upF S.fs n p.toNat row) m = _
      rw [lk_upF, h1] <;> rfl
    · by_cases e : m = n
      · rw [if_pos e, gs_ne (fun z => hne ⟨e, by omega⟩)]; exact h2
      · rw [if_neg e]; exact h2
  have hatp : At (S.keepRow n p.toNat row) (.file n p) row := by
    refine ⟨p0, rows0.set p.toNat row, ?_, gs_eq pl⟩
    show lk (upF S.fs n p.toNat row) n = _
    rw [lk_upF, g1]
    simp
  refine ⟨⟨I.l1, I.l2, I.n1, I.dis, I.fh, I.sh, I.hf, ?_, I.ssr, I.ssn, I.srn, I.cnt, I.hn, I.cap, I.ha, I.new, ?_⟩, ⟨⟨?_, rfl, rfl, rfl, rfl, upF_sizes ..⟩, fun _ _ h => h⟩, hatp⟩
  · intro a m q ha
    obtain ⟨k0, rows, row', k1, k2, k3⟩ := I.ff a m q ha
    by_cases e : m = n ∧ q = p
    · obtain ⟨rfl, rfl⟩ := e
      have ea : a = i := I.dis a i _ ha hi
      subst ea
      obtain ⟨_, rows', h1, h2⟩ := hatp
      exact ⟨p0, rows', row, h1, h2, fun _ => hr⟩
    · obtain ⟨_, rows', h1, h2⟩ := hat m q row' e k0 ⟨k0, rows, k1, k2⟩
      exact ⟨k0, rows', row', h1, h2, k3⟩
  · show ((upF S.fs n p.toNat row).map (·.1)).Nodup
    rw [upF_keys]; exact I.fsn
  · rintro t row' (h | ⟨hno, h⟩)
    · exact .inl h
    · refine .inr ⟨hno, ?_⟩
      cases t with
      | own x => exact h
      | file m q => exact hat m q row' (fun e => by obtain ⟨rfl, rfl⟩ := e; exact hno i hi) h.1 h
/-- a sheet that is in hand is put into a free frame -/
theorem SI.fillOwn {S : Sto} {i : Nat} {s : Int} {row : Row} (I : SI (some s) S) (hi : S.ts[i]? = some none) :
    SI none (S.fill i (.own s) row) ∧ Has (S.fill i (.own s) row) (.own s) row ∧ ∀ t row', t ≠ .own s → Has S t row' → Has (S.fill i (.own s) row) t row' := by
  have il := g_lt hi
  have hno : ∀ a : Nat, S.ts[a]? ≠ some (some (.own s)) := fun a ha => (I.fh a s ha).2.2 rfl
  refine ⟨⟨?_, ?_, ?_, ?_, ?_, ?_, ?_, ?_, I.ssr, I.ssn, I.srn, I.cnt, I.hn, ?_, (fun _ z => by cases z), I.new, I.fsn⟩, .inl ⟨i, gs_eq il, gs_eq (by rw [I.l1]; exact il)⟩, ?_⟩
  · show (S.rs.set i row).length = (S.ts.set i _).length
    rw [List.length_set, List.length_set]; exact I.l1
  · show (S.so.set i false).length = (S.ts.set i _).length
    rw [List.length_set, List.length_set]; exact I.l2
  · show 1 ≤ (S.ts.set i _).length
    rw [List.length_set]; exact I.n1
  · intro a b t ha hb
    rcases gs_cases ha with ⟨ea, e⟩ | ⟨na, ha⟩
    · rcases gs_cases hb with ⟨eb, _⟩ | ⟨nb, hb⟩
      · rw [ea, eb]
      · cases e
        exact absurd hb (hno b)
    · rcases gs_cases hb with ⟨eb, e⟩ | ⟨nb, hb⟩
      · cases e
        exact absurd ha (hno a)
      · exact I.dis a b t ha hb
  · intro a x ha
    refine ⟨?_, ?_, fun z => by cases z⟩
    · rcases gs_cases ha with ⟨_, e⟩ | ⟨ne, ha⟩
      · cases e
        exact I.ha s rfl
      · exact (I.fh a x ha).1
    · rcases gs_cases ha with ⟨_, e⟩ | ⟨ne, ha⟩
      · cases e
        show lk S.sr s = none
        cases e : lk S.sr s with
        | none => rfl
        | some r => exact absurd rfl (I.sh s (by rw [e]; exact fun z => nomatch z)).2
      · exact (I.fh a x ha).2.1
  · intro x hx
    exact ⟨(I.sh x hx).1, fun z => by cases z⟩
  · intro x hx
    rcases I.hf x hx with h | h | ⟨a, ha⟩
    · cases h
      exact .inr (.inr ⟨i, gs_eq il⟩)
    · exact .inr (.inl h)
    · have ne : i ≠ a := fun e => by rw [← e, hi] at ha; cases ha
      exact .inr (.inr ⟨a, by show (S.ts.set i _)[a]? = _; rw [gs_ne ne]; exact ha⟩)
  · intro a m q ha
    rcases gs_cases ha with ⟨_, e⟩ | ⟨ne, ha⟩
    · cases e
    obtain ⟨k0, rows, row', k1, k2, k3⟩ := I.ff a m q ha
    refine ⟨k0, rows, row', k1, k2, fun e => ?_⟩
    show (S.rs.set i row)[a]? = some row'
    have e : (S.so.set i false)[a]? = some false := e
    rw [gs_ne (Ne.symm ne)] at e ⊢
    exact k3 e
  · show S.hs.length + 1 ≤ (S.ts.set i _).length + S.ss.length
    rw [List.length_set]; exact I.cap
  · rintro t row' ht (⟨a, ha, hra⟩ | ⟨hn, hat⟩)
    · have ne : i ≠ a := fun e => by rw [← e, hi] at ha; cases ha
      refine .inl ⟨a, ?_, ?_⟩
      · show (S.ts.set i _)[a]? = _
        rw [gs_ne ne]; exact ha
      · show (S.rs.set i row)[a]? = _
        rw [gs_ne ne]; exact hra
    · refine .inr ⟨fun b hb => ?_, ?_⟩
      · rcases gs_cases hb with ⟨_, e⟩ | ⟨ne, hb⟩
        · cases e; exact ht rfl
        · exact hn b hb
      · cases t with
        | own x => exact hat
        | file m q => exact hat
/-- a file's page is put into a free frame -/
theorem SI.fillFile {S : Sto} {i : Nat} {n : Str} {p : Int} {row : Row} (I : SI none S) (hi : S.ts[i]? = some none) (hno : ∀ a : Nat, S.ts[a]? ≠ some (some (.file n p))) (hat : At S (.file n p) row) :
    SI none (S.fill i (.file n p) row) ∧ Mv S (S.fill i (.file n p) row) := by
  have il := g_lt hi
  refine ⟨⟨?_, ?_, ?_, ?_, ?_, I.sh, ?_, ?_, I.ssr, I.ssn, I.srn, I.cnt, I.hn, ?_, I.ha, I.new, I.fsn⟩, ⟨?_, rfl, rfl, by simp [Sto.fill], rfl, rfl⟩⟩
  · show (S.rs.set i row).length = (S.ts.set i _).length
    rw [List.length_set, List.length_set]; exact I.l1
  · show (S.so.set i false).length = (S.ts.set i _).length
    rw [List.length_set, List.length_set]; exact I.l2
  · show 1 ≤ (S.ts.set i _).length
    rw [List.length_set]; exact I.n1
  · intro a b t ha hb
    rcases gs_cases ha with ⟨ea, e⟩ | ⟨na, ha⟩
    · rcases gs_cases hb with ⟨eb, _⟩ | ⟨nb, hb⟩
      · rw [ea, eb]
      · cases e
        exact absurd hb (hno b)
    · rcases gs_cases hb with ⟨eb, e⟩ | ⟨nb, hb⟩
      · cases e
        exact absurd ha (hno a)
      · exact I.dis a b t ha hb
  · intro a x ha
    rcases gs_cases ha with ⟨_, e⟩ | ⟨ne, ha⟩
    · cases e
    · exact I.fh a x ha
  · intro x hx
    rcases I.hf x hx with h | h | ⟨a, ha⟩
    · exact .inl h
    · exact .inr (.inl h)
    · have ne : i ≠ a := fun e => by rw [← e, hi] at ha; cases ha
      exact .inr (.inr ⟨a, by show (S.ts.set i _)[a]? = _; rw [gs_ne ne]; exact ha⟩)
  · intro a m q ha
    rcases gs_cases ha with ⟨ea, e⟩ | ⟨ne, ha⟩
    · cases e
      obtain ⟨k0, rows, k1, k2⟩ := hat
      refine ⟨k0, rows, row, k1, k2, fun _ => ?_⟩
      rw [ea]
      exact gs_eq (by rw [I.l1]; exact il)
    obtain ⟨k0, rows, row', k1, k2, k3⟩ := I.ff a m q ha
    refine ⟨k0, rows, row', k1, k2, fun e => ?_⟩
    show (S.rs.set i row)[a]? = some row'
    have e : (S.so.set i false)[a]? = some false := e
    rw [gs_ne (Ne.symm ne)] at e ⊢
    exact k3 e
  · show S.hs.length + 1 ≤ (S.ts.set i _).length + S.ss.length
    rw [List.length_set]; exact I.cap
  · rintro t row' (⟨a, ha, hra⟩ | ⟨hn, hat'⟩)
    · have ne : i ≠ a := fun e => by rw [← e, hi] at ha; cases ha
      refine .inl ⟨a, ?_, ?_⟩
      · show (S.ts.set i _)[a]? = _
        rw [gs_ne ne]; exact ha
      · show (S.rs.set i row)[a]? = _
        rw [gs_ne ne]; exact hra
    · by_cases ht : t = .file n p
      · subst ht
        obtain ⟨k0, rows, k1, k2⟩ := hat
        obtain ⟨_, rows', k3, k4⟩ := hat'
        rw [k1] at k3
        cases k3
        rw [k2] at k4
        cases k4
        exact .inl ⟨i, gs_eq il, gs_eq (by rw [I.l1]; exact il)⟩
      · refine .inr ⟨fun b hb => ?_, ?_⟩
        · rcases gs_cases hb with ⟨_, e⟩ | ⟨ne, hb⟩
          · cases e; exact ht rfl
          · exact hn b hb
        · cases t with
          | own x => exact hat'
          | file m q => exact hat'
/-- a sheet is taken from the shelf, into the hand -/
theorem SI.takeOwn {S : Sto} {j : Nat} {s : Int} (I : SI none S) (hj : S.ss[j]? = some (some s)) :
    SI (some s) (S.take j s) ∧ ∀ t row', t ≠ .own s → Has S t row' → Has (S.take j s) t row' := by
  have hs : lk S.sr s ≠ none := (I.ssr s).mp ⟨j, hj⟩
  refine ⟨⟨I.l1, I.l2, I.n1, I.dis, ?_, ?_, ?_, I.ff, ?_, ?_, dl_nodup I.srn, ?_, I.hn, ?_, ?_, I.new, I.fsn⟩, ?_⟩
  · intro a x ha
    obtain ⟨k1, k2, _⟩ := I.fh a x ha
    refine ⟨k1, ?_, fun z => ?_⟩
    · show lk (dl S.sr s) x = none
      rw [lk_dl, k2]
      simp
    · cases z
      exact hs k2
  · intro x hx
    have hx : lk (dl S.sr s) x ≠ none := hx
    rw [lk_dl] at hx
    by_cases e : x = s
    · rw [if_pos e] at hx; exact absurd rfl hx
    · rw [if_neg e] at hx
      exact ⟨(I.sh x hx).1, fun z => e (Option.some.inj z).symm⟩
  · intro x hx
    by_cases e : x = s
    · exact .inl (by rw [e])
    · rcases I.hf x hx with h | h | h
      · cases h
      · refine .inr (.inl ?_)
        show lk (dl S.sr s) x ≠ none
        rw [lk_dl, if_neg e]; exact h
      · exact .inr (.inr h)
  · intro x
    show (∃ b : Nat, (S.ss.set j none)[b]? = some (some x)) ↔ lk (dl S.sr s) x ≠ none
    rw [lk_dl]
    constructor
    · rintro ⟨b, hb⟩
      rcases gs_cases hb with ⟨_, e⟩ | ⟨ne, hb⟩
      · cases e
      · rw [if_neg (fun e => ne (I.ssn b j s (by rw [← e]; exact hb) hj))]
        exact (I.ssr x).mp ⟨b, hb⟩
    · intro hx
      by_cases e : x = s
      · rw [if_pos e] at hx; exact absurd rfl hx
      · rw [if_neg e] at hx
        obtain ⟨b, hb⟩ := (I.ssr x).mpr hx
        refine ⟨b, ?_⟩
        rw [gs_ne (fun z => by rw [← z, hj] at hb; cases hb; exact e rfl)]
        exact hb
  · intro a b x ha hb
    rcases gs_cases ha with ⟨_, e⟩ | ⟨na, ha⟩
    · cases e
    rcases gs_cases hb with ⟨_, e⟩ | ⟨nb, hb⟩
    · cases e
    exact I.ssn a b x ha hb
  · show (dl S.sr s).length + cN (S.ss.set j none) = (S.ss.set j none).length
    have k1 := cN_take hj
    have k2 := I.cnt
    have k3 := dl_len I.srn hs
    rw [List.length_set]
    omega
  · show S.hs.length + 1 ≤ S.ts.length + (S.ss.set j none).length
    rw [List.length_set]; exact I.cap
  · intro x hx
    cases hx
    exact (I.sh s hs).1
  · rintro t row' ht (h | ⟨hn, hat⟩)
    · exact .inl h
    · refine .inr ⟨hn, ?_⟩
      cases t with
      | own x =>
        show lk (dl S.sr s) x = some row'
        rw [lk_dl, if_neg (fun e => ht (by rw [e]))]
        exact hat
      | file m q => exact hat
/-- a new number is given out -/
theorem SI.newSheet {S : Sto} (I : SI none S) (room : S.hs.length + 2 ≤ S.ts.length + S.ss.length) :
    SI (some (S.nw + 1)) { S with hs := S.hs ++ [(S.nw + 1, 1)], nw := S.nw + 1 } ∧ lk S.hs (S.nw + 1) = none := by
  have h0 : lk S.hs (S.nw + 1) = none := by
    cases e : lk S.hs (S.nw + 1) with
    | none => rfl
    | some c =>
      have := I.new (S.nw + 1) (by rw [e]; exact fun z => nomatch z)
      omega
  have hlk : ∀ x, lk (S.hs ++ [(S.nw + 1, (1 : Int))]) x ≠ none ↔ (lk S.hs x ≠ none ∨ S.nw + 1 = x) := fun x => by
    rw [lk_app]
    show (lk S.hs x).or (if S.nw + 1 = x then some 1 else none) ≠ none ↔ _
    cases e : lk S.hs x with
    | some _ => simp
    | none => by_cases es : S.nw + 1 = x <;> simp [es]
  refine ⟨⟨I.l1, I.l2, I.n1, I.dis, ?_, ?_, ?_, I.ff, I.ssr, I.ssn, I.srn, I.cnt, nodup_snoc I.hn h0, ?_, ?_, ?_, I.fsn⟩, h0⟩
  · intro a x ha
    obtain ⟨k1, k2, _⟩ := I.fh a x ha
    exact ⟨(hlk x).mpr (.inl k1), k2, fun z => k1 (by cases z; exact h0)⟩
  · intro x hx
    obtain ⟨k1, _⟩ := I.sh x hx
    exact ⟨(hlk x).mpr (.inl k1), fun z => k1 (by cases z; exact h0)⟩
  · intro x hx
    rcases (hlk x).mp hx with h | h
    · rcases I.hf x h with h | h
      · cases h
      · exact .inr h
    · exact .inl (by rw [h])
  · show (S.hs ++ [(S.nw + 1, (1 : Int))]).length + 1 ≤ S.ts.length + S.ss.length
    rw [List.length_append]
    simp only [List.length_cons, List.length_nil]
    omega
  · intro x hx
    exact (hlk x).mpr (.inr (Option.some.inj hx))
  · intro x hx
    show x ≤ S.nw + 1
    rcases (hlk x).mp hx with h | h
    · have := I.new x h
      omega
    · omega
theorem SI.setH {hand : Option Int} {S : Sto} {hs' : List (Int × Int)} (I : SI hand S) (hk : hs'.map (·.1) = S.hs.map (·.1)) : SI hand { S with hs := hs' } := by
  have hl : ∀ x, lk hs' x ≠ none ↔ lk S.hs x ≠ none := fun x => by
    rw [Ne, Ne, lk_none, lk_none, hk]
  refine ⟨I.l1, I.l2, I.n1, I.dis, fun a x ha => ?_, fun x hx => ?_, fun x hx => I.hf x ((hl x).mp hx), I.ff, I.ssr, I.ssn, I.srn, I.cnt, ?_, ?_, fun x hx => (hl x).mpr (I.ha x hx), fun x hx => I.new x ((hl x).mp hx), I.fsn⟩
  · obtain ⟨k1, k2, k3⟩ := I.fh a x ha
    exact ⟨(hl x).mpr k1, k2, k3⟩
  · obtain ⟨k1, k3⟩ := I.sh x hx
    exact ⟨(hl x).mpr k1, k3⟩
  · show (hs'.map (·.1)).Nodup
    rw [hk]; exact I.hn
  · have := congrArg List.length hk
    rw [List.length_map, List.length_map] at this
    show hs'.length + 1 ≤ _
    rw [this]; exact I.cap
theorem pt_keys {κ β : Type} [DecidableEq κ] {xs : List (κ × β)} {k : κ} {b : β} (h : lk xs k ≠ none) : (pt xs k b).map (·.1) = xs.map (·.1) := by
  unfold pt
  rw [if_pos (by cases e : lk xs k with
    | none => exact absurd e h
    | some _ => rfl), List.map_map]
  refine List.map_congr_left fun q _ => ?_
  show (if q.1 = k then (q.1, b) else q).1 = q.1
  split <;> rfl
/-- what is in hand is no more -/
theorem SI.dropHand {S : Sto} {s : Int} (I : SI (some s) S) : SI none { S with hs := dl S.hs s } := by
  have hs : lk S.hs s ≠ none := I.ha s rfl
  have hl : ∀ x, lk (dl S.hs s) x ≠ none ↔ (x ≠ s ∧ lk S.hs x ≠ none) := fun x => by
    rw [lk_dl]
    by_cases e : x = s
    · simp [e]
    · simp [e]
  refine ⟨I.l1, I.l2, I.n1, I.dis, fun a x ha => ?_, fun x hx => ?_, fun x hx => ?_, I.ff, I.ssr, I.ssn, I.srn, I.cnt, dl_nodup I.hn, ?_, (fun _ z => by cases z), fun x hx => I.new x ((hl x).mp hx).2, I.fsn⟩
  · obtain ⟨k1, k2, k3⟩ := I.fh a x ha
    exact ⟨(hl x).mpr ⟨fun e => k3 (by rw [e]), k1⟩, k2, fun z => by cases z⟩
  · obtain ⟨k1, k3⟩ := I.sh x hx
    exact ⟨(hl x).mpr ⟨fun e => k3 (by rw [e]), k1⟩, fun z => by cases z⟩
  · obtain ⟨h1, h2⟩ := (hl x).mp hx
    rcases I.hf x h2 with h | h
    · cases h; exact absurd rfl h1
    · exact .inr h
  · have := dl_len I.hn hs
    have := I.cap
    show (dl S.hs s).length + 1 ≤ S.ts.length + S.ss.length
    omega
/-- a sheet is taken from its frame, into the hand -/
theorem SI.freeOwn {S : Sto} {i : Nat} {s : Int} (I : SI none S) (hi : S.ts[i]? = some (some (.own s))) :
    SI (some s) (S.free i) ∧ ∀ t row', t ≠ .own s → Has S t row' → Has (S.free i) t row' := by
  have il := g_lt hi
  refine ⟨⟨?_, ?_, ?_, ?_, ?_, ?_, ?_, ?_, I.ssr, I.ssn, I.srn, I.cnt, I.hn, ?_, ?_, I.new, I.fsn⟩, ?_⟩
  · show (S.rs.set i []).length = (S.ts.set i none).length
    rw [List.length_set, List.length_set]; exact I.l1
  · show (S.so.set i false).length = (S.ts.set i none).length
    rw [List.length_set, List.length_set]; exact I.l2
  · show 1 ≤ (S.ts.set i none).length
    rw [List.length_set]; exact I.n1
  · intro a b t ha hb
    rcases gs_cases ha with ⟨_, e⟩ | ⟨_, ha⟩
    · cases e
    rcases gs_cases hb with ⟨_, e⟩ | ⟨_, hb⟩
    · cases e
    exact I.dis a b t ha hb
  · intro a x ha
    rcases gs_cases ha with ⟨_, e⟩ | ⟨ne, ha⟩
    · cases e
    obtain ⟨k1, k2, _⟩ := I.fh a x ha
    exact ⟨k1, k2, fun z => ne (I.dis a i _ ha (by cases z; exact hi))⟩
  · intro x hx
    exact ⟨(I.sh x hx).1, fun z => by cases z; exact hx (I.fh i s hi).2.1⟩
  · intro x hx
    rcases I.hf x hx with h | h | ⟨a, ha⟩
    · cases h
    · exact .inr (.inl h)
    · by_cases e : a = i
      · subst e
        rw [hi] at ha
        cases ha
        exact .inl rfl
      · exact .inr (.inr ⟨a, by show (S.ts.set i none)[a]? = _; rw [gs_ne (Ne.symm e)]; exact ha⟩)
  · intro a m q ha
    rcases gs_cases ha with ⟨_, e⟩ | ⟨ne, ha⟩
    · cases e
    obtain ⟨k0, rows, row', k1, k2, k3⟩ := I.ff a m q ha
    refine ⟨k0, rows, row', k1, k2, fun e => ?_⟩
    show (S.rs.set i [])[a]? = some row'
    have e : (S.so.set i false)[a]? = some false := e
    rw [gs_ne (Ne.symm ne)] at e ⊢
    exact k3 e
  · show S.hs.length + 1 ≤ (S.ts.set i none).length + S.ss.length
    rw [List.length_set]; exact I.cap
  · intro x hx
    cases hx
    exact (I.fh i s hi).1
  · rintro t row' ht (⟨a, ha, hra⟩ | ⟨hn, hat⟩)
    · have ne : i ≠ a := fun e => by rw [← e, hi] at ha; cases ha; exact ht rfl
      refine .inl ⟨a, ?_, ?_⟩
      · show (S.ts.set i _)[a]? = _
        rw [gs_ne ne]; exact ha
      · show (S.rs.set i _)[a]? = _
        rw [gs_ne ne]; exact hra
    · refine .inr ⟨fun b hb => ?_, ?_⟩
      · rcases gs_cases hb with ⟨_, e⟩ | ⟨ne, hb⟩
        · cases e
        · exact hn b hb
      · cases t with
        | own x => exact hat
        | file m q => exact hat
def Sto.put (S : Sto) (i : Nat) (row : Row) : Sto := { S with rs := S.rs.set i row, so := S.so.set i true }
/-- numbers are laid into a frame -/
theorem SI.putRow {hand : Option Int} {S : Sto} {i : Nat} {t : Thing} {row : Row} (I : SI hand S) (hi : S.ts[i]? = some (some t)) :
    SI hand (S.put i row) ∧ Has (S.put i row) t row ∧ ∀ t' row', t' ≠ t → Has S t' row' → Has (S.put i row) t' row' := by
  have il := g_lt hi
  refine ⟨⟨?_, ?_, I.n1, I.dis, I.fh, I.sh, I.hf, ?_, I.ssr, I.ssn, I.srn, I.cnt, I.hn, I.cap, I.ha, I.new, I.fsn⟩, .inl ⟨i, hi, gs_eq (by rw [I.l1]; exact il)⟩, ?_⟩
  · show (S.rs.set i row).length = S.ts.length
    rw [List.length_set]; exact I.l1
  · show (S.so.set i true).length = S.ts.length
    rw [List.length_set]; exact I.l2
  · intro a m q ha
    obtain ⟨k0, rows, row', k1, k2, k3⟩ := I.ff a m q ha
    refine ⟨k0, rows, row', k1, k2, fun e => ?_⟩
    have e : (S.so.set i true)[a]? = some false := e
    rcases gs_cases e with ⟨_, e⟩ | ⟨ne, e⟩
    · cases e
    · show (S.rs.set i row)[a]? = some row'
      rw [gs_ne (Ne.symm ne)]
      exact k3 e
  · rintro t' row' ht (⟨a, ha, hra⟩ | ⟨hn, hat⟩)
    · have ne : i ≠ a := fun e => by rw [← e, hi] at ha; cases ha; exact ht rfl
      refine .inl ⟨a, ha, ?_⟩
      show (S.rs.set i row)[a]? = _
      rw [gs_ne ne]; exact hra
    · refine .inr ⟨hn, ?_⟩
      cases t' with
      | own x => exact hat
      | file m q => exact hat
/-- a file's pages leave their frames -/
structure Fgt (n : Str) (k : Nat) (S S' : Sto) : Prop where
  tl : S'.ts.length = S.ts.length
  rl : S'.rs.length = S.rs.length
  sl : S'.so.length = S.so.length
  hit : ∀ (i : Nat) p, i < k → S.ts[i]? = some (some (.file n p)) → S'.ts[i]? = some none
  mis : ∀ i : Nat, (k ≤ i ∨ ∀ p, S.ts[i]? ≠ some (some (.file n p))) → S'.ts[i]? = S.ts[i]? ∧ S'.rs[i]? = S.rs[i]? ∧ S'.so[i]? = S.so[i]?
  ess : S'.ss = S.ss
  esr : S'.sr = S.sr
  efs : S'.fs = S.fs
  ehs : S'.hs = S.hs
  enw : S'.nw = S.nw
theorem Fgt.zero (n : Str) (S : Sto) : Fgt n 0 S S := ⟨rfl, rfl, rfl, fun i p h => absurd h (Nat.not_lt_zero _), fun _ _ => ⟨rfl, rfl, rfl⟩, rfl, rfl, rfl, rfl, rfl⟩
theorem Fgt.skip {n : Str} {k : Nat} {S S' : Sto} (F : Fgt n k S S') (h : ∀ p, S.ts[k]? ≠ some (some (.file n p))) : Fgt n (k + 1) S S' := by
  refine ⟨F.tl, F.rl, F.sl, fun i p hi e => ?_, fun i hi => F.mis i ?_, F.ess, F.esr, F.efs, F.ehs, F.enw⟩
  · by_cases ei : i = k
    · subst ei; exact absurd e (h p)
    · exact F.hit i p (by omega) e
  · rcases hi with hi | hi
    · exact .inl (by omega)
    · exact .inr hi
theorem Fgt.step {n : Str} {k : Nat} {p : Int} {S S' : Sto} (F : Fgt n k S S') (h : S.ts[k]? = some (some (.file n p))) : Fgt n (k + 1) S (S'.free k) := by
  have kl := g_lt h
  refine ⟨by simp [Sto.free, F.tl], by simp [Sto.free, F.rl], by simp [Sto.free, F.sl], fun i q hi e => ?_, fun i hi => ?_, F.ess, F.esr, F.efs, F.ehs, F.enw⟩
  · show (S'.ts.set k none)[i]? = some none
    by_cases ei : i = k
    · subst ei; exact gs_eq (by rw [F.tl]; exact kl)
    · rw [gs_ne (Ne.symm ei)]; exact F.hit i q (by omega) e
  · have ne : k ≠ i := fun e => by
      subst e
      rcases hi with hi | hi
      · omega
      · exact hi p h
    obtain ⟨h1, h2, h3⟩ := F.mis i (by
      rcases hi with hi | hi
      · exact .inl (by omega)
      · exact .inr hi)
    refine ⟨?_, ?_, ?_⟩
    · show (S'.ts.set k none)[i]? = _
      rw [gs_ne ne]; exact h1
    · show (S'.rs.set k [])[i]? = _
      rw [gs_ne ne]; exact h2
    · show (S'.so.set k false)[i]? = _
      rw [gs_ne ne]; exact h3
theorem SI.forget {S S' : Sto} {n : Str} (I : SI none S) (F : Fgt n S.ts.length S S') :
    SI none { S' with fs := dl S'.fs n } ∧ ∀ t row, (∀ p, t ≠ .file n p) → Has S t row → Has { S' with fs := dl S'.fs n } t row := by
  have old : ∀ (i : Nat) t, S'.ts[i]? = some (some t) → S.ts[i]? = some (some t) ∧ (∀ p, t ≠ .file n p) ∧ S'.rs[i]? = S.rs[i]? ∧ S'.so[i]? = S.so[i]? := fun i t e => by
    by_cases h : ∃ p, S.ts[i]? = some (some (.file n p))
    · obtain ⟨p, hp⟩ := h
      rw [F.hit i p (g_lt hp) hp] at e
      cases e
    · obtain ⟨h1, h2, h3⟩ := F.mis i (.inr fun p hp => h ⟨p, hp⟩)
      exact ⟨h1 ▸ e, fun p hp => h ⟨p, by rw [← h1, e, hp]⟩, h2, h3⟩
  have new : ∀ (i : Nat) t, (∀ p, t ≠ .file n p) → S.ts[i]? = some (some t) → S'.ts[i]? = some (some t) ∧ S'.rs[i]? = S.rs[i]? := fun i t ht e => by
    obtain ⟨h1, h2, h3⟩ := F.mis i (.inr fun p hp => ht p (by rw [e] at hp; cases hp; rfl))
    exact ⟨h1.trans e, h2⟩
  have at_ : ∀ t row, (∀ p, t ≠ .file n p) → At S t row → At { S' with fs := dl S'.fs n } t row := fun t row ht h => by
    cases t with
    | own s =>
      show lk S'.sr s = some row
      rw [F.esr]; exact h
    | file m q =>
      obtain ⟨h0, rows, h1, h2⟩ := h
      refine ⟨h0, rows, ?_, h2⟩
      show lk (dl S'.fs n) m = some rows
      rw [lk_dl, if_neg (fun e => ht q (by rw [e])), F.efs]
      exact h1
  refine ⟨⟨?_, ?_, ?_, ?_, ?_, ?_, ?_, ?_, ?_, ?_, ?_, ?_, ?_, ?_, (fun _ z => by cases z), ?_, ?_⟩, ?_⟩
  · show S'.rs.length = S'.ts.length
    rw [F.rl, F.tl]; exact I.l1
  · show S'.so.length = S'.ts.length
    rw [F.sl, F.tl]; exact I.l2
  · show 1 ≤ S'.ts.length
    rw [F.tl]; exact I.n1
  · intro a b t ha hb
    exact I.dis a b t (old a t ha).1 (old b t hb).1
  · intro a x ha
    show lk S'.hs x ≠ none ∧ lk S'.sr x = none ∧ _
    rw [F.ehs, F.esr]
    exact I.fh a x (old a _ ha).1
  · intro x hx
    have hx : lk S'.sr x ≠ none := hx
    show lk S'.hs x ≠ none ∧ _
    rw [F.ehs]
    rw [F.esr] at hx
    exact I.sh x hx
  · intro x hx
    have hx : lk S'.hs x ≠ none := hx
    rw [F.ehs] at hx
    show _ ∨ lk S'.sr x ≠ none ∨ _
    rw [F.esr]
    rcases I.hf x hx with h | h | ⟨a, ha⟩
    · exact .inl h
    · exact .inr (.inl h)
    · exact .inr (.inr ⟨a, (new a _ (fun p e => by cases e) ha).1⟩)
  · intro a m q ha
    obtain ⟨h1, h2, h3, h4⟩ := old a _ ha
    obtain ⟨k0, rows, row', k1, k2, k3⟩ := I.ff a m q h1
    refine ⟨k0, rows, row', ?_, k2, fun e => ?_⟩
    · show lk (dl S'.fs n) m = some rows
      rw [lk_dl, if_neg (fun e => h2 q (by rw [e])), F.efs]
      exact k1
    · show S'.rs[a]? = some row'
      rw [h3]
      exact k3 (h4 ▸ e)
  · show ∀ s, (∃ j : Nat, S'.ss[j]? = some (some s)) ↔ lk S'.sr s ≠ none
    rw [F.ess, F.esr]; exact I.ssr
  · show ∀ (i j : Nat) s, S'.ss[i]? = some (some s) → S'.ss[j]? = some (some s) → i = j
    rw [F.ess]; exact I.ssn
  · show (S'.sr.map (·.1)).Nodup
    rw [F.esr]; exact I.srn
  · show S'.sr.length + cN S'.ss = S'.ss.length
    rw [F.esr, F.ess]; exact I.cnt
  · show (S'.hs.map (·.1)).Nodup
    rw [F.ehs]; exact I.hn
  · show S'.hs.length + 1 ≤ S'.ts.length + S'.ss.length
    rw [F.ehs, F.tl, F.ess]; exact I.cap
  · show ∀ s, lk S'.hs s ≠ none → s ≤ S'.nw
    rw [F.ehs, F.enw]; exact I.new
  · show ((dl S'.fs n).map (·.1)).Nodup
    rw [F.efs]; exact dl_nodup I.fsn
  · rintro t row ht (⟨a, ha, hra⟩ | ⟨hn, hat⟩)
    · obtain ⟨h1, h2⟩ := new a t ht ha
      exact .inl ⟨a, h1, h2.trans hra⟩
    · exact .inr ⟨fun b hb => hn b (old b t hb).1, at_ t row ht hat⟩
end Pw

set_option Elab.async false
set_option linter.all false
set_option maxRecDepth 100000
set_option maxHeartbeats 4000000
namespace Pw
open PySem PySem.Spec PyProof.Rows L2
/-! ### the store -/
def stFs (fr di sh fi ho : Addr) (nw : Int) : List (Str × V) := [("frames", .ref fr), ("dial", .ref di), ("shelf", .ref sh), ("files", .ref fi), ("my_holders", .ref ho), ("my_newest", .int nw)]
section
variable (fr di sh fi ho : Addr) (nw : Int)
theorem stFs_fr : (stFs fr di sh fi ho nw).lookup ("frames" : Str) = some (.ref fr) := by rfl
theorem stFs_di : (stFs fr di sh fi ho nw).lookup ("dial" : Str) = some (.ref di) := by rfl
theorem stFs_sh : (stFs fr di sh fi ho nw).lookup ("shelf" : Str) = some (.ref sh) := by rfl
theorem stFs_fi : (stFs fr di sh fi ho nw).lookup ("files" : Str) = some (.ref fi) := by rfl
theorem stFs_ho : (stFs fr di sh fi ho nw).lookup ("my_holders" : Str) = some (.ref ho) := by rfl
theorem stFs_nw : (stFs fr di sh fi ho nw).lookup ("my_newest" : Str) = some (.int nw) := by rfl
theorem stFs_put (x : Int) : putF "my_newest" (.int x) (stFs fr di sh fi ho nw) = stFs fr di sh fi ho x := by rfl
end
def hK (hs : List (Int × Int)) : List (Key × V) := hs.map fun p => (Sum.inl p.1, V.int p.2)
theorem hK_dk (hs : List (Int × Int)) : Dk Sum.inl (fun v (c : Int) => v = .int c) (hK hs) hs := by
  unfold hK
  induction hs with
  | nil => exact .nil
  | cons p r ih => exact .cons ⟨rfl, rfl⟩ ih
theorem hK_of : ∀ {kvs : List (Key × V)} {hs : List (Int × Int)}, Dk Sum.inl (fun v (c : Int) => v = .int c) kvs hs → kvs = hK hs
  | _, _, .nil => rfl
  | _, _, .cons (a := a) (b := b) q t => by
    have ih := hK_of t
    obtain ⟨a1, a2⟩ := a
    have q1 : a1 = Sum.inl b.1 := q.1
    have q2 : a2 = .int b.2 := q.2
    subst q1 q2
    rw [ih]
    rfl
theorem hK_get {hs : List (Int × Int)} {s c : Int} (h : lk hs s = some c) : valV (hK hs) (Sum.inl s) = some (.int c) := by
  obtain ⟨v, h1, rfl⟩ := (hK_dk hs).sm inl_inj h
  exact h1
theorem hK_put (hs : List (Int × Int)) (s c : Int) : putK (hK hs) (Sum.inl s) (.int c) = hK (pt hs s c) := hK_of ((hK_dk hs).put inl_inj rfl)
theorem hK_drop (hs : List (Int × Int)) (s : Int) : dropK (hK hs) (Sum.inl s) = hK (dl hs s) := hK_of ((hK_dk hs).drop inl_inj)
theorem hK_len (hs : List (Int × Int)) : (hK hs).length = hs.length := List.length_map ..
structure StX (K : PySem.W.Frag) (k : Nat) (O : Own) (H : Hp) (p dx fr di sh fi ho : Addr) (S : Sto) : Prop where
  ob : H p = some (.ins (He.ga K "Store") dx (stFs fr di sh fi ho S.nw))
  op : O p = some (8 * k + 4)
  oh : O ho = some (8 * k + 4)
  hh : H ho = some (.dK (hK S.hs))
  fr : FrAt K O H (8 * k) fr S.ts S.rs S.so
  di : DiAt K O H (8 * k + 1) di S.ts.length
  sh : ShAt K O H (8 * k + 2) sh S.ss S.sr
  fi : FiAt K O H (8 * k + 3) fi S.fs
def StAt (K : PySem.W.Frag) (k : Nat) (O : Own) (H : Hp) (p : Addr) (S : Sto) : Prop := ∃ dx fr di sh fi ho, StX K k O H p dx fr di sh fi ho S
/-- what a store's deeds may change -/
def stP (k : Nat) : Nat → Prop := fun r => 8 * k ≤ r ∧ r < 8 * k + 5
section
variable {K : PySem.W.Frag} {O O1 : Own} {H H1 : Hp} {P : Nat → Prop} {k : Nat} {p dx fr di sh fi ho : Addr} {S : Sto} {ts : List (Option Thing)} {rs : List Row} {so : List Bool} {ss : List (Option Int)} {sr : List (Int × Row)} {fs : Fls}
theorem stP0 : ∀ r, r = 8 * k → stP k r := fun r h => ⟨by omega, by omega⟩
theorem stP1 : ∀ r, r = 8 * k + 1 → stP k r := fun r h => ⟨by omega, by omega⟩
theorem stP2 : ∀ r, r = 8 * k + 2 → stP k r := fun r h => ⟨by omega, by omega⟩
theorem stP3 : ∀ r, r = 8 * k + 3 → stP k r := fun r h => ⟨by omega, by omega⟩
theorem stP4 : ∀ r, r = 8 * k + 4 → stP k r := fun r h => ⟨by omega, by omega⟩
theorem StX.kq (x : StX K k O H p dx fr di sh fi ho S) (s : Kp P O H O1 H1) (n : ∀ r, stP k r → ¬ P r) : StX K k O1 H1 p dx fr di sh fi ho S := by
  obtain ⟨a1, a2⟩ := s.at_role x.ob x.op (n _ (stP4 _ rfl))
  obtain ⟨b1, b2⟩ := s.at_role x.hh x.oh (n _ (stP4 _ rfl))
  exact ⟨a1, a2, b2, b1, x.fr.kq s (n _ (stP0 _ rfl)), x.di.kq s (n _ (stP1 _ rfl)), x.sh.kq s (n _ (stP2 _ rfl)), x.fi.kq s (n _ (stP3 _ rfl))⟩
theorem StAt.kq (x : StAt K k O H p S) (s : Kp P O H O1 H1) (n : ∀ r, stP k r → ¬ P r) : StAt K k O1 H1 p S := by
  obtain ⟨dx, fr, di, sh, fi, ho, x⟩ := x
  exact ⟨dx, fr, di, sh, fi, ho, x.kq s n⟩
theorem StX.kp (x : StX K k O H p dx fr di sh fi ho S) (s : Stp P O H O1 H1) (n : ∀ r, stP k r → ¬ P r) : StX K k O1 H1 p dx fr di sh fi ho S := x.kq s.kq n
theorem StAt.kp (x : StAt K k O H p S) (s : Stp P O H O1 H1) (n : ∀ r, stP k r → ¬ P r) : StAt K k O1 H1 p S := x.kq s.kq n
theorem StX.setFr (x : StX K k O H p dx fr di sh fi ho S) (s : Stp (· = 8 * k) O H O1 H1) (f : FrAt K O1 H1 (8 * k) fr ts rs so) (l : ts.length = S.ts.length) : StX K k O1 H1 p dx fr di sh fi ho { S with ts := ts, rs := rs, so := so } := by
  obtain ⟨a1, a2⟩ := s.at_role x.ob x.op (by omega)
  obtain ⟨b1, b2⟩ := s.at_role x.hh x.oh (by omega)
  have d := x.di.kp s (by omega)
  rw [← l] at d
  exact ⟨a1, a2, b2, b1, f, d, x.sh.kp s (by omega), x.fi.kp s (by omega)⟩
theorem StX.setDi (x : StX K k O H p dx fr di sh fi ho S) (s : Stp (· = 8 * k + 1) O H O1 H1) (d : DiAt K O1 H1 (8 * k + 1) di S.ts.length) : StX K k O1 H1 p dx fr di sh fi ho S := by
  obtain ⟨a1, a2⟩ := s.at_role x.ob x.op (by omega)
  obtain ⟨b1, b2⟩ := s.at_role x.hh x.oh (by omega)
  exact ⟨a1, a2, b2, b1, x.fr.kp s (by omega), d, x.sh.kp s (by omega), x.fi.kp s (by omega)⟩
theorem StX.setSh (x : StX K k O H p dx fr di sh fi ho S) (s : Stp (· = 8 * k + 2) O H O1 H1) (d : ShAt K O1 H1 (8 * k + 2) sh ss sr) : StX K k O1 H1 p dx fr di sh fi ho { S with ss := ss, sr := sr } := by
  obtain ⟨a1, a2⟩ := s.at_role x.ob x.op (by omega)
  obtain ⟨b1, b2⟩ := s.at_role x.hh x.oh (by omega)
  exact ⟨a1, a2, b2, b1, x.fr.kp s (by omega), x.di.kp s (by omega), d, x.fi.kp s (by omega)⟩
theorem StX.setFi (x : StX K k O H p dx fr di sh fi ho S) (s : Stp (· = 8 * k + 3) O H O1 H1) (d : FiAt K O1 H1 (8 * k + 3) fi fs) : StX K k O1 H1 p dx fr di sh fi ho { S with fs := fs } := by
  obtain ⟨a1, a2⟩ := s.at_role x.ob x.op (by omega)
  obtain ⟨b1, b2⟩ := s.at_role x.hh x.oh (by omega)
  exact ⟨a1, a2, b2, b1, x.fr.kp s (by omega), x.di.kp s (by omega), x.sh.kp s (by omega), d⟩
theorem StX.setH {hs : List (Int × Int)} {nw : Int} (x : StX K k O H p dx fr di sh fi ho S) (s : Stp (· = 8 * k + 4) O H O1 H1) (h1 : H1 ho = some (.dK (hK hs))) (h2 : H1 p = some (.ins (He.ga K "Store") dx (stFs fr di sh fi ho nw))) : StX K k O1 H1 p dx fr di sh fi ho { S with hs := hs, nw := nw } :=
  ⟨h2, (s.own x.ob).trans x.op, (s.own x.hh).trans x.oh, h1, x.fr.kp s (by omega), x.di.kp s (by omega), x.sh.kp s (by omega), x.fi.kp s (by omega)⟩
theorem StX.ne (x : StX K k O H p dx fr di sh fi ho S) : p ≠ ho := ne_of x.ob x.hh (by intro z; cases z)
end
def spStInit (K : PySem.W.Frag) : Sp := fun vs H Q _ => ∃ (p dx : Addr) (n m : Int) (k : Nat) (O : Own), vs = [.ref p, .int n, .int m] ∧ H p = some (.ins (He.ga K "Store") dx []) ∧ O p = some (8 * k + 4) ∧ Dm O H ∧ 1 ≤ n ∧ n ≤ 64 ∧ 0 ≤ m ∧ m ≤ 128 ∧
  ∀ O' H', Stp (stP k) O H O' H' → StAt K k O' H' p ⟨List.replicate n.toNat none, List.replicate n.toNat [], List.replicate n.toNat false, List.replicate m.toNat none, [], [], [], 0⟩ → Q .non H'
def spSetFree (K : PySem.W.Frag) : Sp := fun vs H Q _ => ∃ (p : Addr) (k : Nat) (S : Sto) (i : Nat) (O : Own), vs = [.ref p, .int i] ∧ StAt K k O H p S ∧ Dm O H ∧ i < S.ts.length ∧ ∀ H', Stp (stP k) O H O H' → StAt K k O H' p (S.free i) → Q .non H'
def spPutOut (K : PySem.W.Frag) : Sp := fun vs H Q _ => ∃ (p : Addr) (k : Nat) (hand : Option Int) (S : Sto) (i : Nat) (t : Thing) (O : Own), vs = [.ref p, .int i] ∧ StAt K k O H p S ∧ Dm O H ∧ SI hand S ∧ S.ts[i]? = some (some t) ∧
  ((∃ s, t = .own s) → ∃ j : Nat, S.ss[j]? = some none) ∧ ∀ H' S', Stp (stP k) O H O H' → StAt K k O H' p S' → SI hand S' → Mo S S' → S'.ts[i]? = some none → Q .non H'
def spHaveFrame (K : PySem.W.Frag) : Sp := fun vs H Q _ => ∃ (p : Addr) (k : Nat) (hand : Option Int) (S : Sto) (O : Own), vs = [.ref p] ∧ StAt K k O H p S ∧ Dm O H ∧ SI hand S ∧
  ∀ (i : Nat) H' S', Stp (stP k) O H O H' → StAt K k O H' p S' → SI hand S' → Mo S S' → S'.ts[i]? = some none → Q (.int i) H'
theorem Stp.obj {P : Nat → Prop} {O : Own} {H : Hp} {x dx C : Addr} {r : Nat} (d : Dm O H) (nx : H x = none) (nd : H dx = none) (ne : dx ≠ x) : Stp P O H (tag O x r) (upd (upd H dx (.own x)) x (.ins C dx [])) := by
  have s1 : Stp P O H O (upd H dx (.own x)) := Stp.alloc d nd
  exact s1.trans (Stp.lay s1.dm (by rw [upd_ne ne.symm]; exact nx))
theorem iteTe {c : Bool} {A B : Prop} (h : c = true) (a : A) : if c = true then A else B := by rw [if_pos h]; exact a
theorem iteFe {c : Bool} {A B : Prop} (h : c = false) (b : B) : if c = true then A else B := by rw [h, if_neg Bool.false_ne_true]; exact b
theorem str_ne {a b : Str} (h : ¬ a = b) : decide (V.str a = V.str b) = false := decide_eq_false fun e => h (by injection e)
theorem str_eq {a b : Str} (h : a = b) : decide (V.str a = V.str b) = true := decide_eq_true (by rw [h])
section
variable {P : Program} {w : World} {K : PySem.W.Frag} {mg : Str → Option Value} {base : Heap}
theorem ok_set_free (T : Tx K mg) : C8.Cal P w K mg base 2 "set_free" (spSetFree K) [] := by
  refine mkCal T.fd_set_free T.g_set_free sc_set_free (fun _ _ _ _ _ _ us hl => match us, hl with | [_, _], _ => rfl) (fun vs H Q E h => ?_) (fun cdv A outer s H vs Q E hr h => ?_)
  · obtain ⟨p, k, S, i, O, rfl, hs, hD, hi, q⟩ := h
    rfl
  · obtain ⟨p, k, S, i, O, rfl, hs, hD, hi, q⟩ := h
    refine ⟨_, (pss_cons (ps_expr (C8.pe_mt (ok_Frames_empty T) hr (by decide) (pe_fld (pv 0) rfl) (pa_cons (pv 1) pa_nil)))
      (pss_one (ps_expr (C8.pe_mt (ok_Dial_clear T) hr (by decide) (pe_fld (pv 0) rfl) (pa_cons (pv 1) pa_nil))))), ?_⟩
    obtain ⟨dx, fr, di, sh, fi, ho, x⟩ := hs
    have xf := x.fr
    obtain ⟨fdx, tl, rl, sl, tv, rv, f⟩ := x.fr
    refine ⟨_, rfl, p, _, dx, _, _, rfl, x.ob, T.c_Store, T.n_Store_frames, stFs_fr .., fr, fdx, _, rfl, f.ob, rfl, _, rfl, fr, S.ts, S.rs, S.so, i, _, O, rfl, xf, hD, hi, fun H1 s1 f1 => ?_⟩
    have x1 := x.setFr s1 f1 (List.length_set ..)
    have xd := x1.di
    obtain ⟨ddx, ml, spot, marks, d, _⟩ := x1.di
    refine ⟨_, rfl, p, _, dx, _, _, rfl, x1.ob, T.c_Store, T.n_Store_dial, stFs_di .., di, ddx, _, rfl, d.ob, rfl, _, rfl, di, _, i, _, O, rfl, xd, s1.dm, by omega, (by show (i : Int) < (((S.ts.set i none).length : Nat) : Int); rw [List.length_set]; omega), fun H2 s2 d2 => ?_⟩
    exact q _ ((s1.mono stP0).trans (s2.mono stP1)) ⟨dx, fr, di, sh, fi, ho, x1.setDi s2 d2⟩
theorem ok_Store_init (T : Tx K mg) : C8.Mak P w K mg base 3 "Store" (He.ga K "Store") (spStInit K) [] := by
  refine mkMak T.fd_Store_init T.k_Store T.g_Store sc_Store_init (fun _ _ _ _ _ _ us hl => match us, hl with | [_, _, _], _ => rfl) (fun vs H Q E h => ?_) (fun cdv A outer s H vs Q E hr h => ?_)
  · obtain ⟨p, dx, n, m, k, O, rfl, hp, hO, hD, n1, n2, m1, m2, q⟩ := h
    rfl
  · obtain ⟨p, dx, n, m, k, O, rfl, hp, hO, hD, n1, n2, m1, m2, q⟩ := h
    refine ⟨_, (pss_cons (ps_fld (pv 0) (C8.pe_mk (ok_Frames_init T) hr (by decide) rfl (pa_cons (pv 1) pa_nil)) rfl)
      (pss_cons (ps_fld (pv 0) (C8.pe_mk (ok_Dial_init T) hr (by decide) rfl (pa_cons (pv 1) pa_nil)) rfl)
      (pss_cons (ps_fld (pv 0) (C8.pe_mk (ok_Shelf_init T) hr (by decide) rfl (pa_cons (pv 2) pa_nil)) rfl)
      (pss_cons (ps_fld (pv 0) (pe_mk0 (ok_Files_init T) hr (by decide) rfl) rfl)
      (pss_cons (ps_fld (pv 0) pe_dnewK rfl)
      (pss_one (ps_fld (pv 0) pe_int rfl))))))), ?_⟩
    -- self.frames = Frames(many)
    refine ⟨_, rfl, fun fr fdx nf nd ne => ⟨fr, fdx, n, 8 * k, tag O fr (8 * k), rfl, upd_same, tag_same, (Stp.obj (P := Nop) hD nf nd ne).dm, n1, n2, fun O1 H1 s1 f1 => ⟨rfl, ?_⟩⟩⟩
    have a1 : Stp (stP k) O H O1 H1 := (Stp.obj hD nf nd ne).trans (s1.mono stP0)
    have b0 : Stp (· = 8 * k) O H O1 H1 := (Stp.obj hD nf nd ne).trans s1
    obtain ⟨p1, o1⟩ := b0.at_role hp hO (by omega)
    clear s1 b0 nf nd ne
    refine ⟨_, rfl, p, _, dx, [], rfl, p1, T.c_Store, T.n_Store_frames, (by show 0 < 1000; decide), ?_⟩
    have s2 : Stp (· = 8 * k + 4) O1 H1 O1 (upd H1 p (.ins (He.ga K "Store") dx (putF "frames" (.ref fr) []))) := Stp.write a1.dm o1 rfl
    have p2 : (upd H1 p (.ins (He.ga K "Store") dx (putF "frames" (.ref fr) []))) p = some (.ins (He.ga K "Store") dx (putF "frames" (.ref fr) [])) := upd_same
    have f2 := f1.kp s2 (by omega)
    have a2 := a1.trans (s2.mono stP4)
    generalize (upd H1 p (.ins (He.ga K "Store") dx (putF "frames" (.ref fr) []))) = H2 at s2 p2 f2 a2 ⊢
    -- self.dial = Dial(many)
    refine ⟨_, rfl, fun di ddx nf nd ne => ⟨di, ddx, n, 8 * k + 1, tag O1 di (8 * k + 1), rfl, upd_same, tag_same, (Stp.obj (P := Nop) a2.dm nf nd ne).dm, n1, n2, fun O3 H3 s3 d3 => ⟨rfl, ?_⟩⟩⟩
    have b3 : Stp (· = 8 * k + 1) O1 H2 O3 H3 := (Stp.obj a2.dm nf nd ne).trans s3
    have a3 := a2.trans (b3.mono stP1)
    obtain ⟨p3, o3⟩ := b3.at_role p2 o1 (by omega)
    have f3 := f2.kp b3 (by omega)
    clear s3 nf nd ne s2 b3
    refine ⟨_, rfl, p, _, dx, _, rfl, p3, T.c_Store, T.n_Store_dial, (by show 1 < 1000; decide), ?_⟩
    have s4 : Stp (· = 8 * k + 4) O3 H3 O3 (upd H3 p (.ins (He.ga K "Store") dx (putF "dial" (.ref di) (putF "frames" (.ref fr) [])))) := Stp.write a3.dm o3 rfl
    have p4 : (upd H3 p (.ins (He.ga K "Store") dx (putF "dial" (.ref di) (putF "frames" (.ref fr) [])))) p = some (.ins (He.ga K "Store") dx (putF "dial" (.ref di) (putF "frames" (.ref fr) []))) := upd_same
    have f4 := f3.kp s4 (by omega)
    have d4 := d3.kp s4 (by omega)
    have a4 := a3.trans (s4.mono stP4)
    generalize (upd H3 p (.ins (He.ga K "Store") dx (putF "dial" (.ref di) (putF "frames" (.ref fr) [])))) = H4 at s4 p4 f4 d4 a4 ⊢
    -- self.shelf = Shelf(places)
    refine ⟨_, rfl, fun sh sdx nf nd ne => ⟨sh, sdx, m, 8 * k + 2, tag O3 sh (8 * k + 2), rfl, upd_same, tag_same, (Stp.obj (P := Nop) a4.dm nf nd ne).dm, m1, m2, fun O5 H5 s5 h5 => ⟨rfl, ?_⟩⟩⟩
    have b5 : Stp (· = 8 * k + 2) O3 H4 O5 H5 := (Stp.obj a4.dm nf nd ne).trans s5
    have a5 := a4.trans (b5.mono stP2)
    obtain ⟨p5, o5⟩ := b5.at_role p4 o3 (by omega)
    have f5 := f4.kp b5 (by omega)
    have d5 := d4.kp b5 (by omega)
    clear s5 nf nd ne s4 b5
    refine ⟨_, rfl, p, _, dx, _, rfl, p5, T.c_Store, T.n_Store_shelf, (by show 2 < 1000; decide), ?_⟩
    have s6 : Stp (· = 8 * k + 4) O5 H5 O5 (upd H5 p (.ins (He.ga K "Store") dx (putF "shelf" (.ref sh) (putF "dial" (.ref di) (putF "frames" (.ref fr) []))))) := Stp.write a5.dm o5 rfl
    have p6 : (upd H5 p (.ins (He.ga K "Store") dx (putF "shelf" (.ref sh) (putF "dial" (.ref di) (putF "frames" (.ref fr) []))))) p = some (.ins (He.ga K "Store") dx (putF "shelf" (.ref sh) (putF "dial" (.ref di) (putF "frames" (.ref fr) [])))) := upd_same
    have f6 := f5.kp s6 (by omega)
    have d6 := d5.kp s6 (by omega)
    have h6 := h5.kp s6 (by omega)
    have a6 := a5.trans (s6.mono stP4)
    generalize (upd H5 p (.ins (He.ga K "Store") dx (putF "shelf" (.ref sh) (putF "dial" (.ref di) (putF "frames" (.ref fr) []))))) = H6 at s6 p6 f6 d6 h6 a6 ⊢
    -- self.files = Files()
    refine fun fi idx nf nd ne => ⟨fi, idx, 8 * k + 3, tag O5 fi (8 * k + 3), rfl, upd_same, tag_same, (Stp.obj (P := Nop) a6.dm nf nd ne).dm, fun O7 H7 s7 i7 => ⟨rfl, ?_⟩⟩
    have b7 : Stp (· = 8 * k + 3) O5 H6 O7 H7 := (Stp.obj a6.dm nf nd ne).trans s7
    have a7 := a6.trans (b7.mono stP3)
    obtain ⟨p7, o7⟩ := b7.at_role p6 o5 (by omega)
    have f7 := f6.kp b7 (by omega)
    have d7 := d6.kp b7 (by omega)
    have h7 := h6.kp b7 (by omega)
    clear s7 nf nd ne s6 b7
    refine ⟨_, rfl, p, _, dx, _, rfl, p7, T.c_Store, T.n_Store_files, (by show 3 < 1000; decide), ?_⟩
    have s8 : Stp (· = 8 * k + 4) O7 H7 O7 (upd H7 p (.ins (He.ga K "Store") dx (putF "files" (.ref fi) (putF "shelf" (.ref sh) (putF "dial" (.ref di) (putF "frames" (.ref fr) [])))))) := Stp.write a7.dm o7 rfl
    have p8 : (upd H7 p (.ins (He.ga K "Store") dx (putF "files" (.ref fi) (putF "shelf" (.ref sh) (putF "dial" (.ref di) (putF "frames" (.ref fr) [])))))) p = some (.ins (He.ga K "Store") dx (putF "files" (.ref fi) (putF "shelf" (.ref sh) (putF "dial" (.ref di) (putF "frames" (.ref fr) []))))) := upd_same
    have f8 := f7.kp s8 (by omega)
    have d8 := d7.kp s8 (by omega)
    have h8 := h7.kp s8 (by omega)
    have i8 := i7.kp s8 (by omega)
    have a8 := a7.trans (s8.mono stP4)
    generalize (upd H7 p (.ins (He.ga K "Store") dx (putF "files" (.ref fi) (putF "shelf" (.ref sh) (putF "dial" (.ref di) (putF "frames" (.ref fr) [])))))) = H8 at s8 p8 f8 d8 h8 i8 a8 ⊢
    -- self.my_holders = {}
    intro ho nh
    have s9 : Stp (· = 8 * k + 4) O7 H8 (tag O7 ho (8 * k + 4)) (upd H8 ho (.dK [])) := Stp.lay a8.dm nh
    have pho : p ≠ ho := ne_of_none p8 nh
    have p9 : (upd H8 ho (.dK [])) p = some (.ins (He.ga K "Store") dx (putF "files" (.ref fi) (putF "shelf" (.ref sh) (putF "dial" (.ref di) (putF "frames" (.ref fr) []))))) := by rw [upd_ne pho]; exact p8
    have h9 : (upd H8 ho (.dK [])) ho = some (.dK []) := upd_same
    have o9 : (tag O7 ho (8 * k + 4)) p = some (8 * k + 4) := (tag_ne pho).trans o7
    have oh9 : (tag O7 ho (8 * k + 4)) ho = some (8 * k + 4) := tag_same
    generalize (upd H8 ho (.dK [])) = H9 at s9 p9 h9 ⊢
    generalize (tag O7 ho (8 * k + 4)) = O9 at s9 o9 oh9 ⊢
    refine ⟨_, rfl, p, _, dx, _, rfl, p9, T.c_Store, T.n_Store_my_holders, (by show 4 < 1000; decide), ?_⟩
    have s10 : Stp (· = 8 * k + 4) O9 H9 O9 (upd H9 p (.ins (He.ga K "Store") dx (putF "my_holders" (.ref ho) (putF "files" (.ref fi) (putF "shelf" (.ref sh) (putF "dial" (.ref di) (putF "frames" (.ref fr) []))))))) := Stp.write s9.dm o9 rfl
    refine ⟨_, rfl, p, _, dx, _, rfl, upd_same, T.c_Store, T.n_Store_my_newest, (by show 5 < 1000; decide), ?_⟩
    rw [upd_upd]
    have s11 : Stp (· = 8 * k + 4) O9 H9 O9 (upd H9 p (.ins (He.ga K "Store") dx (stFs fr di sh fi ho 0))) := Stp.write s9.dm o9 rfl
    have st := s9.trans s11
    refine q _ _ (a8.trans (st.mono stP4)) ⟨dx, fr, di, sh, fi, ho, upd_same, o9, oh9, by rw [upd_ne pho.symm]; exact h9, f8.kp st (by omega), ?_, h8.kp st (by omega), i8.kp st (by omega)⟩
    have d9 := d8.kp st (by omega)
    rw [show n.toNat = (List.replicate n.toNat (none : Option Thing)).length from (List.length_replicate ..).symm] at d9
    exact d9
theorem ok_put_out (T : Tx K mg) : C8.Cal P w K mg base 4 "put_out" (spPutOut K) [] := by
  refine mkCal T.fd_put_out T.g_put_out sc_put_out (fun _ _ _ _ _ _ us hl => match us, hl with | [_, _], _ => rfl) (fun vs H Q E h => ?_) (fun cdv A outer s H vs Q E hr h => ?_)
  · obtain ⟨p, k, hand, S, i, t, O, rfl, hs, hD, I, hi, hown, q⟩ := h
    rfl
  · obtain ⟨p, k, hand, S, i, t, O, rfl, hs, hD, I, hi, hown, q⟩ := h
    refine ⟨_, (pss_cons (ps_set (i := 2) sc_put_out.nd rfl (by first | exact Or.inl rfl | exact Or.inr rfl) (C8.pe_mt (ok_Frames_thing_in T) hr (by decide) (pe_fld (pv 0) rfl) (pa_cons (pv 1) pa_nil)))
      (pss_cons (ps_set (i := 3) sc_put_out.nd rfl (by first | exact Or.inl rfl | exact Or.inr rfl) (C8.pe_mt (ok_Frames_row_in T) hr (by decide) (pe_fld (pv 0) rfl) (pa_cons (pv 1) pa_nil)))
      (pss_cons (ps_if (pt_cmpR op_eq (pe_ix (r := rIxT K) ix_tup (pv 2) pe_int (fun _ _ => rfl)) pe_str (nomark _)) (pss_one (ps_expr (C8.pe_mt (ok_Shelf_put_on T) hr (by decide) (pe_fld (pv 0) rfl) (pa_cons (pe_ix (r := rIxT K) ix_tup (pv 2) pe_int (fun _ _ => rfl)) (pa_cons (pv 3) pa_nil))))) (pss_one (ps_if (pt_val (C8.pe_mt (ok_Frames_is_soiled T) hr (by decide) (pe_fld (pv 0) rfl) (pa_cons (pv 1) pa_nil))) (pss_one (ps_expr (C8.pe_mt (ok_Files_store_row T) hr (by decide) (pe_fld (pv 0) rfl) (pa_cons (pe_ix (r := rIxT K) ix_tup (pv 2) pe_int (fun _ _ => rfl)) (pa_cons (pe_ix (r := rIxT K) ix_tup (pv 2) pe_int (fun _ _ => rfl)) (pa_cons (pv 3) pa_nil)))))) pss_nil)))
      (pss_one (ps_expr (C8.pe_c (ok_set_free T) hr (by decide) rfl (pa_cons (pv 0) (pa_cons (pv 1) pa_nil)))))))), ?_⟩
    obtain ⟨dx, fr, di, sh, fi, ho, x⟩ := hs
    have xf := x.fr
    obtain ⟨fdx, tl, rl, sl, tvs, rv, f⟩ := x.fr
    have il := g_lt hi
    obtain ⟨row, hrow⟩ : ∃ row, S.rs[i]? = some row := ⟨_, List.getElem?_eq_getElem (by rw [I.l1]; exact il)⟩
    -- thing, row
    refine ⟨_, rfl, p, _, dx, _, _, rfl, x.ob, T.c_Store, T.n_Store_frames, stFs_fr .., fr, fdx, _, rfl, f.ob, rfl, _, rfl, fr, S.ts, S.rs, S.so, i, some t, _, O, rfl, xf, hi, fun tv ht => ?_⟩
    have ht : ThV O H tv t := ht
    refine ⟨_, rfl, p, _, dx, _, _, rfl, x.ob, T.c_Store, T.n_Store_frames, stFs_fr .., fr, fdx, _, rfl, f.ob, rfl, _, rfl, fr, S.ts, S.rs, S.so, i, row, _, O, rfl, xf, hrow, fun b nb => ?_⟩
    have s1 : Stp Nop O H O (upd H b (.lst (row.map V.int))) := Stp.alloc hD nb
    have x1 := x.kp s1 (fun _ _ z => z)
    have t1 := ht.kp s1
    have b1 : (upd H b (.lst (row.map V.int))) b = some (.lst (row.map V.int)) := upd_same
    have bO : O b = none := hD.none nb
    generalize (upd H b (.lst (row.map V.int))) = H1 at s1 x1 t1 b1 ⊢
    obtain ⟨fdx1, tl1, rl1, sl1, tvs1, rv1, f1⟩ := x1.fr
    obtain ⟨ta, rfl, ta1, ta2, tok⟩ := t1
    cases t with
    | own s' =>
      obtain ⟨j0, hj0⟩ := hown ⟨s', rfl⟩
      obtain ⟨sdx, pl, rd, kvs, y⟩ := x1.sh
      have hno := (I.fh i s' hi).2.1
      refine ⟨_, rfl, ta, _, _, _, rfl, rfl, SqT.of ta1, at_of (j := 0) rfl rfl, rfl, _, rfl, ?_⟩
      refine iteTe (str_eq rfl) ?_
      refine ⟨_, rfl, p, _, dx, _, _, rfl, x1.ob, T.c_Store, T.n_Store_shelf, stFs_sh .., sh, sdx, _, rfl, y.ob, rfl, _, rfl, ta, _, _, _, rfl, rfl, SqT.of ta1, at_of (j := 1) rfl rfl, _, rfl,
        sh, b, S.ss, S.sr, s', row, _, O, rfl, x1.sh, s1.dm, b1, (by rw [bO]; exact fun z => nomatch z), ⟨j0, hj0⟩, hno, fun j H2 hj s2 h2 => ?_⟩
      have x2 := x1.setSh s2 h2
      refine ⟨_, rfl, _, rfl, p, k, _, i, O, rfl, ⟨dx, fr, di, sh, fi, ho, x2⟩, s2.dm, il, fun H3 s3 h3 => ?_⟩
      obtain ⟨J, M, e⟩ := I.outOwn hi hrow hj
      exact q H3 _ (s1.nop.trans ((s2.mono stP2).trans s3)) h3 J M e
    | file n pg =>
      obtain ⟨p0, rows, row0, g1, g2, g3⟩ := I.ff i n pg hi
      have hpg : ((pg.toNat : Nat) : Int) = pg := Int.toNat_of_nonneg p0
      obtain ⟨so, hso⟩ : ∃ so, S.so[i]? = some so := ⟨_, List.getElem?_eq_getElem (by rw [I.l2]; exact il)⟩
      refine ⟨_, rfl, ta, _, _, _, rfl, rfl, SqT.of ta1, at_of (j := 0) rfl rfl, rfl, _, rfl, ?_⟩
      refine iteFe (str_ne (fun z => own_ne_file z.symm)) ?_
      refine ⟨_, rfl, p, _, dx, _, _, rfl, x1.ob, T.c_Store, T.n_Store_frames, stFs_fr .., fr, fdx1, _, rfl, f1.ob, rfl, _, rfl, fr, S.ts, S.rs, S.so, i, so, _, O, rfl, x1.fr, hso, _, rfl, ?_⟩
      cases so with
      | false =>
        refine iteF ?_
        refine ⟨_, rfl, _, rfl, p, k, _, i, O, rfl, ⟨dx, fr, di, sh, fi, ho, x1⟩, s1.dm, il, fun H3 s3 h3 => ?_⟩
        have er : row = row0 := Option.some.inj (hrow.symm.trans (g3 hso))
        obtain ⟨J, M, e⟩ := I.freeFile hi hrow ⟨p0, rows, g1, by rw [er]; exact g2⟩
        exact q H3 _ (s1.nop.trans s3) h3 J M e
      | true =>
        refine iteT ?_
        obtain ⟨idx, fd, kvs, y⟩ := x1.fi
        refine ⟨_, rfl, p, _, dx, _, _, rfl, x1.ob, T.c_Store, T.n_Store_files, stFs_fi .., fi, idx, _, rfl, y.ob, rfl, _, rfl, ta, _, _, _, rfl, rfl, SqT.of ta1, at_of (j := 1) rfl rfl, _, rfl, ta, _, _, _, rfl, rfl, SqT.of ta1, at_of (j := 2) rfl rfl, _, rfl,
          fi, b, S.fs, n, pg.toNat, rows, row, _, O, by rw [hpg]; rfl, x1.fi, s1.dm, g1, g_lt g2, b1, fun H2 s2 h2 => ?_⟩
        have x2 := x1.setFi s2 h2
        refine ⟨_, rfl, _, rfl, p, k, _, i, O, rfl, ⟨dx, fr, di, sh, fi, ho, x2⟩, s2.dm, il, fun H3 s3 h3 => ?_⟩
        obtain ⟨J1, M1, at1⟩ := I.keepRow hi hrow
        obtain ⟨J, M, e⟩ := J1.freeFile (i := i) (n := n) (p := pg) (row := row) hi hrow at1
        exact q H3 _ (s1.nop.trans ((s2.mono stP3).trans s3)) h3 J (M1.trans M) e
end
end Pw


set_option Elab.async false
set_option linter.all false
set_option maxRecDepth 100000
set_option maxHeartbeats 4000000
namespace Pw
open PySem PySem.Spec PyProof.Rows L2
def mayB (full : Bool) : Option Thing → Bool
  | some (.file _ _) => true
  | _ => !full
def spBring (K : PySem.W.Frag) : Sp := fun vs H Q _ => ∃ (p : Addr) (k : Nat) (S : Sto) (tv : V) (t : Thing) (row : Row) (O : Own), vs = [.ref p, tv] ∧ StAt K k O H p S ∧ Dm O H ∧ SI none S ∧ ThV O H tv t ∧ Has S t row ∧
  ∀ (i : Nat) (b : Bool) q H' S', Stp (stP k) O H O H' → StAt K k O H' p S' → SI none S' → Mv S S' → S'.ts[i]? = some (some t) → H' q = some (.tup [.int i, .bl b]) → O q = none → Q (.ref q) H'
def spRowNow (K : PySem.W.Frag) : Sp := fun vs H Q _ => ∃ (p : Addr) (k : Nat) (S : Sto) (tv : V) (t : Thing) (row : Row) (O : Own), vs = [.ref p, tv] ∧ StAt K k O H p S ∧ SI none S ∧ ThV O H tv t ∧ Has S t row ∧
  ∀ q, H q = none → Q (.ref q) (upd H q (.lst (row.map V.int)))
section
variable {P : Program} {w : World} {K : PySem.W.Frag} {mg : Str → Option Value} {base : Heap}
theorem ok_have_frame (T : Tx K mg) : C8.Cal P w K mg base 5 "have_frame" (spHaveFrame K) [] := by
  refine mkCal T.fd_have_frame T.g_have_frame sc_have_frame (fun _ _ _ _ _ _ us hl => match us, hl with | [_], _ => rfl) (fun vs H Q E h => ?_) (fun cdv A outer s H vs Q E hr h => ?_)
  · obtain ⟨p, k, hand, S, O, rfl, hs, hD, I, q⟩ := h
    rfl
  · obtain ⟨p, k, hand, S, O, rfl, hs, hD, I, q⟩ := h
    refine ⟨_, (pss_cons (ps_set (i := 1) sc_have_frame.nd rfl (by first | exact Or.inl rfl | exact Or.inr rfl) (C8.pe_mt0 (ok_Frames_least_free T) hr (by decide) (pe_fld (pv 0) rfl)))
      (pss_cons (ps_if (pt_cmpR op_isN (pv 1) pe_non (nomark _)) (pss_cons (ps_set (i := 2) sc_have_frame.nd rfl (by first | exact Or.inl rfl | exact Or.inr rfl) (C8.pe_mt0 (ok_Shelf_is_full T) hr (by decide) (pe_fld (pv 0) rfl)))
      (pss_cons (ps_setLc (i := 3) (own := [("thing", 4)]) (g := gName 4) (tt := tYes) rfl sc_have_frame.nd rfl rfl (sw_true rfl rfl rfl (by decide +kernel)) (pi_list (C8.pe_mt0 (ok_Frames_things T) hr (by decide) (pe_fld (pv 0) rfl))) (blkOk_by (own := [("thing", 4)]) (N := ["store", "frame", "full", "may", "thing"]) (sc := defScope s_have_frame) (by decide +kernel)) (fun _ _ _ _ _ => pg_name (i := 4) sc_have_frame.nd rfl (Or.inl rfl)) (fun _ _ _ _ _ => pts_nil) (fun _ _ _ _ _ => (pe_or (pe_cmpR op_eq (pe_ix (r := rIxT K) ix_tup (pv 4) pe_int (fun _ _ => rfl)) pe_str (nomark _)) (pe_one (pe_not (pv 2))))))
      (pss_cons (ps_set (i := 1) sc_have_frame.nd rfl (by first | exact Or.inl rfl | exact Or.inr rfl) (C8.pe_mt (ok_Dial_choose T) hr (by decide) (pe_fld (pv 0) rfl) (pa_cons (pv 3) pa_nil)))
      (pss_one (ps_expr (C8.pe_c (ok_put_out T) hr (by decide) rfl (pa_cons (pv 0) (pa_cons (pv 1) pa_nil)))))))) pss_nil)
      (pss_one (ps_ret (pv 1))))), ?_⟩
    have hs' := hs
    obtain ⟨dx, fr, di, sh, fi, ho, x⟩ := hs
    have xf := x.fr
    obtain ⟨fdx, tl, rl, sl, tvs, rv, f⟩ := x.fr
    refine ⟨_, rfl, p, _, dx, _, _, rfl, x.ob, T.c_Store, T.n_Store_frames, stFs_fr .., fr, fdx, _, rfl, f.ob, rfl, fr, S.ts, S.rs, S.so, _, O, rfl, xf, fun i hi => ?_, fun hno => ?_⟩
    · refine ⟨_, rfl, rfl, _, rfl, iteF ?_⟩
      exact ⟨_, rfl, q i H S (Stp.refl hD) hs' I (Mo.refl S) hi⟩
    refine ⟨_, rfl, rfl, _, rfl, iteT ?_⟩
    -- full = store.shelf.is_full()
    obtain ⟨sdx, pl, rd, kvs, y⟩ := x.sh
    refine ⟨_, rfl, p, _, dx, _, _, rfl, x.ob, T.c_Store, T.n_Store_shelf, stFs_sh .., sh, sdx, _, rfl, y.ob, rfl, sh, S.ss, S.sr, _, O, rfl, x.sh, fun full h0 h1 => ?_⟩
    -- may = [..]
    refine ⟨_, rfl, p, _, dx, _, _, rfl, x.ob, T.c_Store, T.n_Store_frames, stFs_fr .., fr, fdx, _, rfl, f.ob, rfl, fr, S.ts, S.rs, S.so, _, O, rfl, xf, fun a tv na pt => ?_⟩
    have s1 : Same H (upd H a (.lst tv)) := Same.alloc na
    have a1 : (upd H a (.lst tv)) a = some (.lst tv) := upd_same
    generalize (upd H a (.lst tv)) = H1 at s1 a1 ⊢
    have bl : (S.ts.map (mayB full)).length ≤ 64 := by rw [List.length_map]; exact f.big
    refine ⟨a, rfl, ⟨_, SqL.of a1⟩, fun D nD => lc_list (xs := tv) (fun i H' => H' = upd H1 D (.lst (((S.ts.map (mayB full)).take i).map V.bl))) rfl (fun i H' _ e => ?_) (fun i y H' hi e => ?_) (fun H' e => ?_)⟩
    · rw [e]
      exact SqL.of (by rw [upd_ne (ne_of_none a1 nD)]; exact a1)
    · subst e
      obtain ⟨ot, hot, rot⟩ := pt.pget hi
      have il := g_lt hot
      obtain ⟨t, rfl⟩ : ∃ t, ot = some t := by
        cases ot with
        | none => exact absurd hot (hno i)
        | some t => exact ⟨t, rfl⟩
      obtain ⟨ta, rfl, t1, t2, tok⟩ := (show ThV O H y t from rot)
      have t1' : (upd H1 D (.lst (((S.ts.map (mayB full)).take i).map V.bl))) ta = some (.tup (t.key.map kV)) := by rw [upd_ne (ne_of_none (s1 _ _ t1) nD)]; exact s1 _ _ t1
      have fin : ∀ v, v = V.bl (mayB full (some t)) → ∃ acc, (upd H1 D (.lst (((S.ts.map (mayB full)).take i).map V.bl))) D = some (.lst acc) ∧ acc.length < sizeLine ∧ upd (upd H1 D (.lst (((S.ts.map (mayB full)).take i).map V.bl))) D (.lst (acc ++ [v])) = upd H1 D (.lst (((S.ts.map (mayB full)).take (i + 1)).map V.bl)) := fun v hv => by
        refine ⟨_, upd_same, ?_, ?_⟩
        · rw [List.length_map, List.length_take]
          exact Nat.lt_of_le_of_lt (by omega : _ ≤ 64) (by decide)
        · rw [upd_upd, List.take_succ, List.getElem?_map, hot, List.map_append, hv]
          rfl
      cases t with
      | own s' =>
        refine ⟨rfl, _, rfl, ta, _, _, _, rfl, rfl, SqT.of t1', at_of (j := 0) rfl rfl, rfl, _, rfl, ?_⟩
        refine iteFe (str_ne own_ne_file) ?_
        exact ⟨_, rfl, _, rfl, fin _ rfl⟩
      | file n pg =>
        refine ⟨rfl, _, rfl, ta, _, _, _, rfl, rfl, SqT.of t1', at_of (j := 0) rfl rfl, rfl, _, rfl, ?_⟩
        refine iteTe (str_eq rfl) ?_
        exact fin _ rfl
    subst e
    have s2 : Stp Nop O H O (upd H1 D (.lst (((S.ts.map (mayB full)).take tv.length).map V.bl))) := Stp.of_same hD (s1.trans (Same.alloc nD))
    have D2 : (upd H1 D (.lst (((S.ts.map (mayB full)).take tv.length).map V.bl))) D = some (.lst ((S.ts.map (mayB full)).map V.bl)) := by
      rw [upd_same, List.take_of_length_le (by rw [List.length_map, pt.plen]; exact Nat.le_refl _)]
    have OD : O D = none := hD.none (s1.free nD)
    generalize (upd H1 D (.lst (((S.ts.map (mayB full)).take tv.length).map V.bl))) = H2 at s2 D2 ⊢
    have x2 := x.kp s2 (fun _ _ z => z)
    -- frame = store.dial.choose(may)
    obtain ⟨ddx, ml, spot, marks, d, hm⟩ := x2.di
    have exj : ∃ j : Nat, (S.ts.map (mayB full))[j]? = some true := by
      rcases I.can hno with ⟨i, n, pg, h⟩ | ⟨j, h⟩
      · exact ⟨i, by rw [List.getElem?_map, h]; rfl⟩
      · have ef : full = false := by
          cases full with
          | false => rfl
          | true => exact absurd h (h1 rfl j)
        subst ef
        have n1 := I.n1
        obtain ⟨ot, hot⟩ : ∃ ot, S.ts[0]? = some ot := ⟨_, List.getElem?_eq_getElem (by omega)⟩
        refine ⟨0, ?_⟩
        rw [List.getElem?_map, hot]
        match ot with
        | none => rfl
        | some (.own _) => rfl
        | some (.file _ _) => rfl
    refine ⟨_, rfl, p, _, dx, _, _, rfl, x2.ob, T.c_Store, T.n_Store_dial, stFs_di .., di, ddx, _, rfl, d.ob, rfl, _, rfl, di, D, _, S.ts.map (mayB full), _, O, rfl, x2.di, s2.dm, D2, OD, List.length_map .., exj, fun i H3 hi s3 d3 => ?_⟩
    have x3 := x2.setDi s3 d3
    rw [List.getElem?_map] at hi
    obtain ⟨ot, hot, hmay⟩ := Option.map_eq_some_iff.mp hi
    obtain ⟨t, rfl⟩ : ∃ t, ot = some t := by
      cases ot with
      | none => exact absurd hot (hno i)
      | some t => exact ⟨t, rfl⟩
    -- put_out(store, frame)
    refine ⟨_, rfl, _, rfl, p, k, hand, S, i, t, O, rfl, ⟨dx, fr, di, sh, fi, ho, x3⟩, s3.dm, I, hot, ?_, fun H4 S4 s4 h4 I4 M4 e4 => ?_⟩
    · rintro ⟨s', rfl⟩
      refine h0 ?_
      have : (!full) = true := hmay
      simpa using this
    exact ⟨_, rfl, q i H4 S4 (s2.nop.trans ((s3.mono stP1).trans s4)) h4 I4 M4 e4⟩
theorem ok_row_now (T : Tx K mg) : C8.Cal P w K mg base 4 "row_now" (spRowNow K) [] := by
  refine mkCal T.fd_row_now T.g_row_now sc_row_now (fun _ _ _ _ _ _ us hl => match us, hl with | [_, _], _ => rfl) (fun vs H Q E h => ?_) (fun cdv A outer s H vs Q E hr h => ?_)
  · obtain ⟨p, k, S, tv, t, row, O, rfl, hs, I, ht, hh, q⟩ := h
    rfl
  · obtain ⟨p, k, S, tv, t, row, O, rfl, hs, I, ht, hh, q⟩ := h
    refine ⟨_, (pss_cons (ps_set (i := 2) sc_row_now.nd rfl (by first | exact Or.inl rfl | exact Or.inr rfl) (C8.pe_mt (ok_Frames_where T) hr (by decide) (pe_fld (pv 0) rfl) (pa_cons (pv 1) pa_nil)))
      (pss_cons (ps_if (pt_cmpR op_notN (pv 2) pe_non (nomark _)) (pss_one (ps_ret (C8.pe_mt (ok_Frames_row_in T) hr (by decide) (pe_fld (pv 0) rfl) (pa_cons (pv 2) pa_nil)))) pss_nil)
      (pss_cons (ps_if (pt_cmpR op_eq (pe_ix (r := rIxT K) ix_tup (pv 1) pe_int (fun _ _ => rfl)) pe_str (nomark _)) (pss_one (ps_ret (C8.pe_mt (ok_Shelf_row_of_sheet T) hr (by decide) (pe_fld (pv 0) rfl) (pa_cons (pe_ix (r := rIxT K) ix_tup (pv 1) pe_int (fun _ _ => rfl)) pa_nil)))) pss_nil)
      (pss_one (ps_ret (C8.pe_mt (ok_Files_row_at T) hr (by decide) (pe_fld (pv 0) rfl) (pa_cons (pe_ix (r := rIxT K) ix_tup (pv 1) pe_int (fun _ _ => rfl)) (pa_cons (pe_ix (r := rIxT K) ix_tup (pv 1) pe_int (fun _ _ => rfl)) pa_nil)))))))), ?_⟩
    obtain ⟨dx, fr, di, sh, fi, ho, x⟩ := hs
    have xf := x.fr
    obtain ⟨fdx, tl, rl, sl, tvs, rv, f⟩ := x.fr
    refine ⟨_, rfl, p, _, dx, _, _, rfl, x.ob, T.c_Store, T.n_Store_frames, stFs_fr .., fr, fdx, _, rfl, f.ob, rfl, _, rfl, fr, S.ts, S.rs, S.so, tv, t, _, O, rfl, xf, ht, fun i hi => ?_, fun hno => ?_⟩
    · have hr' : S.rs[i]? = some row := by
        rcases hh with ⟨j, h1, h2⟩ | ⟨h1, _⟩
        · rw [I.dis i j t hi h1]; exact h2
        · exact absurd hi (h1 i)
      refine ⟨_, rfl, rfl, _, rfl, iteT ?_⟩
      exact ⟨_, rfl, p, _, dx, _, _, rfl, x.ob, T.c_Store, T.n_Store_frames, stFs_fr .., fr, fdx, _, rfl, f.ob, rfl, _, rfl, fr, S.ts, S.rs, S.so, i, row, _, O, rfl, xf, hr', fun b nb => q b nb⟩
    refine ⟨_, rfl, rfl, _, rfl, iteF ?_⟩
    have hat : At S t row := by
      rcases hh with ⟨j, h1, h2⟩ | ⟨_, h⟩
      · exact absurd h1 (hno j)
      · exact h
    obtain ⟨ta, rfl, t1, t2, tok⟩ := ht
    cases t with
    | own s' =>
      obtain ⟨sdx, pl, rd, kvs, y⟩ := x.sh
      refine ⟨_, rfl, ta, _, _, _, rfl, rfl, SqT.of t1, at_of (j := 0) rfl rfl, rfl, _, rfl, ?_⟩
      refine iteTe (str_eq rfl) ?_
      exact ⟨_, rfl, p, _, dx, _, _, rfl, x.ob, T.c_Store, T.n_Store_shelf, stFs_sh .., sh, sdx, _, rfl, y.ob, rfl, _, rfl, ta, _, _, _, rfl, rfl, SqT.of t1, at_of (j := 1) rfl rfl, sh, S.ss, S.sr, s', row, _, O, rfl, x.sh, hat, fun b nb => q b nb⟩
    | file n pg =>
      obtain ⟨p0, rows, g1, g2⟩ := hat
      have hpg : ((pg.toNat : Nat) : Int) = pg := Int.toNat_of_nonneg p0
      obtain ⟨idx, fd, kvs, y⟩ := x.fi
      refine ⟨_, rfl, ta, _, _, _, rfl, rfl, SqT.of t1, at_of (j := 0) rfl rfl, rfl, _, rfl, ?_⟩
      refine iteFe (str_ne (fun z => own_ne_file z.symm)) ?_
      exact ⟨_, rfl, p, _, dx, _, _, rfl, x.ob, T.c_Store, T.n_Store_files, stFs_fi .., fi, idx, _, rfl, y.ob, rfl, _, rfl, ta, _, _, _, rfl, rfl, SqT.of t1, at_of (j := 1) rfl rfl, _, rfl, ta, _, _, _, rfl, rfl, SqT.of t1, at_of (j := 2) rfl rfl,
        fi, S.fs, n, pg.toNat, rows, row, _, O, by rw [hpg]; rfl, x.fi, g1, g2, fun b nb => q b nb⟩
theorem ok_bring (T : Tx K mg) : C8.Cal P w K mg base 6 "bring" (spBring K) [] := by
  refine mkCal T.fd_bring T.g_bring sc_bring (fun _ _ _ _ _ _ us hl => match us, hl with | [_, _], _ => rfl) (fun vs H Q E h => ?_) (fun cdv A outer s H vs Q E hr h => ?_)
  · obtain ⟨p, k, S, tv, t, row, O, rfl, hs, hD, I, ht, hh, q⟩ := h
    rfl
  · obtain ⟨p, k, S, tv, t, row, O, rfl, hs, hD, I, ht, hh, q⟩ := h
    refine ⟨_, (pss_cons (ps_set (i := 2) sc_bring.nd rfl (by first | exact Or.inl rfl | exact Or.inr rfl) (C8.pe_mt (ok_Frames_where T) hr (by decide) (pe_fld (pv 0) rfl) (pa_cons (pv 1) pa_nil)))
      (pss_cons (ps_if (pt_cmpR op_notN (pv 2) pe_non (nomark _)) (pss_one (ps_ret (pe_tup (pa_cons (pv 2) (pa_cons pe_bl pa_nil))))) pss_nil)
      (pss_cons (ps_if (pt_cmpR op_eq (pe_ix (r := rIxT K) ix_tup (pv 1) pe_int (fun _ _ => rfl)) pe_str (nomark _)) (pss_one (ps_set (i := 3) sc_bring.nd rfl (by first | exact Or.inl rfl | exact Or.inr rfl) (C8.pe_mt (ok_Shelf_take_off T) hr (by decide) (pe_fld (pv 0) rfl) (pa_cons (pe_ix (r := rIxT K) ix_tup (pv 1) pe_int (fun _ _ => rfl)) pa_nil)))) (pss_one (ps_set (i := 3) sc_bring.nd rfl (by first | exact Or.inl rfl | exact Or.inr rfl) (C8.pe_mt (ok_Files_row_at T) hr (by decide) (pe_fld (pv 0) rfl) (pa_cons (pe_ix (r := rIxT K) ix_tup (pv 1) pe_int (fun _ _ => rfl)) (pa_cons (pe_ix (r := rIxT K) ix_tup (pv 1) pe_int (fun _ _ => rfl)) pa_nil))))))
      (pss_cons (ps_set (i := 2) sc_bring.nd rfl (by first | exact Or.inl rfl | exact Or.inr rfl) (C8.pe_c (ok_have_frame T) hr (by decide) rfl (pa_cons (pv 0) pa_nil)))
      (pss_cons (ps_expr (C8.pe_mt (ok_Frames_fill T) hr (by decide) (pe_fld (pv 0) rfl) (pa_cons (pv 2) (pa_cons (pv 1) (pa_cons (pv 3) pa_nil)))))
      (pss_one (ps_ret (pe_tup (pa_cons (pv 2) (pa_cons pe_bl pa_nil)))))))))), ?_⟩
    have hs' := hs
    obtain ⟨dx, fr, di, sh, fi, ho, x⟩ := hs
    have xf := x.fr
    obtain ⟨fdx, tl, rl, sl, tvs, rv, f⟩ := x.fr
    refine ⟨_, rfl, p, _, dx, _, _, rfl, x.ob, T.c_Store, T.n_Store_frames, stFs_fr .., fr, fdx, _, rfl, f.ob, rfl, _, rfl, fr, S.ts, S.rs, S.so, tv, t, _, O, rfl, xf, ht, fun i hi => ?_, fun hno => ?_⟩
    · refine ⟨_, rfl, rfl, _, rfl, iteT ?_⟩
      refine ⟨_, rfl, (by show 2 ≤ sizeLine; decide), fun b nb => ?_⟩
      have s1 : Stp (stP k) O H O (upd H b (.tup [.int i, .bl false])) := Stp.alloc hD nb
      exact q i false b _ S s1 (hs'.kp (Stp.alloc (P := Nop) hD nb) (fun _ _ z => z)) I (Mv.refl S) hi upd_same (hD.none nb)
    refine ⟨_, rfl, rfl, _, rfl, iteF ?_⟩
    have hat : At S t row := by
      rcases hh with ⟨j, h1, h2⟩ | ⟨_, h⟩
      · exact absurd h1 (hno j)
      · exact h
    obtain ⟨ta, rfl, t1, t2, tok⟩ := ht
    cases t with
    | own s' =>
      obtain ⟨sdx, pl, rd, kvs, y⟩ := x.sh
      have hat' : lk S.sr s' = some row := hat
      obtain ⟨j0, hj0⟩ := (I.ssr s').mpr (by rw [hat']; exact fun z => nomatch z)
      refine ⟨_, rfl, ta, _, _, _, rfl, rfl, SqT.of t1, at_of (j := 0) rfl rfl, rfl, _, rfl, ?_⟩
      refine iteTe (str_eq rfl) ?_
      refine ⟨_, rfl, p, _, dx, _, _, rfl, x.ob, T.c_Store, T.n_Store_shelf, stFs_sh .., sh, sdx, _, rfl, y.ob, rfl, _, rfl, ta, _, _, _, rfl, rfl, SqT.of t1, at_of (j := 1) rfl rfl, sh, S.ss, S.sr, s', row, _, O, rfl, x.sh, hD, ⟨j0, hj0⟩, hat', fun j v H1 hj s1 sh1 rv1 => ?_⟩
      obtain ⟨b, rfl, b1, bO⟩ := rv1
      have h1 : StAt K k O H1 p (S.take j s') := ⟨dx, fr, di, sh, fi, ho, x.setSh s1 sh1⟩
      replace s1 := s1.mono stP2
      obtain ⟨I1, hmv⟩ := I.takeOwn hj
      refine ⟨_, rfl, p, k, (some s'), (S.take j s'), O, rfl, h1, s1.dm, I1, fun i H2 S2 s2 h2 I2 M2 e2 => ?_⟩
      obtain ⟨dx', fr', di', sh', fi', ho', x2⟩ := h2
      obtain ⟨fdx2, tl2, rl2, sl2, tvs2, rv2, f2⟩ := x2.fr
      have b2 : H2 b = some (.lst (row.map V.int)) := (s2.at_none b1 bO).1
      have t2' : ThV O H2 (.ref ta) (.own s') := (ThV.kp ⟨ta, rfl, t1, t2, tok⟩ s1).kp s2
      refine ⟨_, rfl, p, _, dx', _, _, rfl, x2.ob, T.c_Store, T.n_Store_frames, stFs_fr .., fr', fdx2, _, rfl, f2.ob, rfl, _, rfl, _, rfl, _, rfl, fr', b, S2.ts, S2.rs, S2.so, i, _, (.own s'), row, _, O, rfl, x2.fr, s2.dm, g_lt e2, t2', b2, (by rw [bO]; exact fun z => nomatch z), fun H3 s3 f3 => ?_⟩
      have x3 : StX K k O H3 p dx' fr' di' sh' fi' ho' (S2.fill i (.own s') row) := x2.setFr s3 f3 (List.length_set ..)
      refine ⟨_, rfl, (by show 2 ≤ sizeLine; decide), fun r nr => ?_⟩
      have s4 : Stp Nop O H3 O (upd H3 r (.tup [.int i, .bl true])) := Stp.alloc s3.dm nr
      obtain ⟨J, hown, hoth⟩ := I2.fillOwn (row := row) e2
      have M : Mv S (S2.fill i (.own s') row) := by
        refine ⟨fun t' row' ht' => ?_, M2.hs, M2.nw, (List.length_set ..).trans M2.tl, M2.sl.trans (List.length_set ..), M2.fk⟩
        by_cases et : t' = .own s'
        · subst et
          rcases ht' with ⟨a, h, _⟩ | ⟨_, h⟩
          · exact absurd h (hno a)
          · have h : lk S.sr s' = some row' := h
            have hat : lk S.sr s' = some row := hat
            rw [hat] at h
            cases h
            exact hown
        · exact hoth t' row' et (M2.has t' row' (hmv t' row' et ht'))
      exact q i true r _ _ ((s1.trans s2).trans ((s3.mono stP0).trans s4.nop)) ((show StAt K k O H3 p _ from ⟨dx', fr', di', sh', fi', ho', x3⟩).kp s4 (fun _ _ z => z)) J M (gs_eq (g_lt e2)) upd_same (s3.dm.none nr)
    | file n pg =>
      have hat0 := hat
      obtain ⟨p0, rows, g1, g2⟩ := hat
      have hpg : ((pg.toNat : Nat) : Int) = pg := Int.toNat_of_nonneg p0
      obtain ⟨idx, fd, kvs, y⟩ := x.fi
      refine ⟨_, rfl, ta, _, _, _, rfl, rfl, SqT.of t1, at_of (j := 0) rfl rfl, rfl, _, rfl, ?_⟩
      refine iteFe (str_ne (fun z => own_ne_file z.symm)) ?_
      refine ⟨_, rfl, p, _, dx, _, _, rfl, x.ob, T.c_Store, T.n_Store_files, stFs_fi .., fi, idx, _, rfl, y.ob, rfl, _, rfl, ta, _, _, _, rfl, rfl, SqT.of t1, at_of (j := 1) rfl rfl, _, rfl, ta, _, _, _, rfl, rfl, SqT.of t1, at_of (j := 2) rfl rfl,
        fi, S.fs, n, pg.toNat, rows, row, _, O, by rw [hpg]; rfl, x.fi, g1, g2, fun b nb => ?_⟩
      have s1 : Stp (stP k) O H O (upd H b (.lst (row.map V.int))) := Stp.alloc hD nb
      have h1 : StAt K k O (upd H b (.lst (row.map V.int))) p S := hs'.kp (Stp.alloc (P := Nop) hD nb) (fun _ _ z => z)
      have b1 : (upd H b (.lst (row.map V.int))) b = some (.lst (row.map V.int)) := upd_same
      have bO : O b = none := hD.none nb
      generalize (upd H b (.lst (row.map V.int))) = H1 at s1 h1 b1 ⊢
      refine ⟨_, rfl, p, k, none, S, O, rfl, h1, s1.dm, I, fun i H2 S2 s2 h2 I2 M2 e2 => ?_⟩
      obtain ⟨dx', fr', di', sh', fi', ho', x2⟩ := h2
      obtain ⟨fdx2, tl2, rl2, sl2, tvs2, rv2, f2⟩ := x2.fr
      have b2 : H2 b = some (.lst (row.map V.int)) := (s2.at_none b1 bO).1
      have t2' : ThV O H2 (.ref ta) (.file n pg) := (ThV.kp ⟨ta, rfl, t1, t2, tok⟩ s1).kp s2
      refine ⟨_, rfl, p, _, dx', _, _, rfl, x2.ob, T.c_Store, T.n_Store_frames, stFs_fr .., fr', fdx2, _, rfl, f2.ob, rfl, _, rfl, _, rfl, _, rfl, fr', b, S2.ts, S2.rs, S2.so, i, _, (.file n pg), row, _, O, rfl, x2.fr, s2.dm, g_lt e2, t2', b2, (by rw [bO]; exact fun z => nomatch z), fun H3 s3 f3 => ?_⟩
      have x3 : StX K k O H3 p dx' fr' di' sh' fi' ho' (S2.fill i (.file n pg) row) := x2.setFr s3 f3 (List.length_set ..)
      refine ⟨_, rfl, (by show 2 ≤ sizeLine; decide), fun r nr => ?_⟩
      have s4 : Stp Nop O H3 O (upd H3 r (.tup [.int i, .bl true])) := Stp.alloc s3.dm nr
      have hno2 : ∀ a : Nat, S2.ts[a]? ≠ some (some (.file n pg)) := fun a ha => hno a (M2.old a _ ha)
      have hat2 : At S2 (.file n pg) row := by
        rcases M2.has _ _ hh with ⟨a, h, _⟩ | ⟨_, h⟩
        · exact absurd h (hno2 a)
        · exact h
      obtain ⟨J, M'⟩ := I2.fillFile (row := row) e2 hno2 hat2
      have M := M2.toMv.trans M'
      exact q i true r _ _ ((s1.trans s2).trans ((s3.mono stP0).trans s4.nop)) ((show StAt K k O H3 p _ from ⟨dx', fr', di', sh', fi', ho', x3⟩).kp s4 (fun _ _ z => z)) J M (gs_eq (g_lt e2)) upd_same (s3.dm.none nr)
end
end Pw


set_option Elab.async false
set_option linter.all false
set_option maxRecDepth 100000
set_option maxHeartbeats 4000000
namespace Pw
open PySem PySem.Spec PyProof.Rows L2
def spFileNow (K : PySem.W.Frag) : Sp := fun vs H Q _ => ∃ (p : Addr) (k : Nat) (S : Sto) (n : Str) (rows : List Row) (O : Own), vs = [.ref p, .str n] ∧ StAt K k O H p S ∧ Dm O H ∧ SI none S ∧ PyData.strOk n = true ∧ lk S.fs n = some rows ∧
  ∀ D H' vs, Same H H' → H D = none → H' D = some (.lst vs) → vs.length = rows.length → (∀ (j : Nat) v row, vs[j]? = some v → Has S (.file n j) row → ∃ a, v = .ref a ∧ H' a = some (.lst (row.map V.int)) ∧ H a = none ∧ a ≠ D) → Q (.ref D) H'
def spForget (K : PySem.W.Frag) : Sp := fun vs H Q _ => ∃ (p : Addr) (k : Nat) (S : Sto) (n : Str) (O : Own), vs = [.ref p, .str n] ∧ StAt K k O H p S ∧ Dm O H ∧ SI none S ∧ lk S.fs n ≠ none ∧
  ∀ H' S', Stp (stP k) O H O H' → StAt K k O H' p S' → SI none S' → (∀ t row, (∀ p, t ≠ .file n p) → Has S t row → Has S' t row) → S'.hs = S.hs → S'.nw = S.nw → S'.ts.length = S.ts.length → S'.ss.length = S.ss.length → S'.fs = dl S.fs n → Q .non H'
def spRoom (K : PySem.W.Frag) : Sp := fun vs H Q _ => ∃ (p : Addr) (k : Nat) (S : Sto) (O : Own), vs = [.ref p] ∧ StAt K k O H p S ∧ Dm O H ∧ ∀ H', Stp Nop O H O H' → Q (.int ((S.ts.length : Int) - 1 + (S.ss.length : Int) - (S.hs.length : Int))) H'
def spNew (K : PySem.W.Frag) : Sp := fun vs H Q E => ∃ (p b : Addr) (k : Nat) (S : Sto) (row : Row) (O : Own), vs = [.ref p, .ref b] ∧ StAt K k O H p S ∧ Dm O H ∧ SI none S ∧ H b = some (.lst (row.map V.int)) ∧ (∀ r, O b = some r → ¬ stP k r) ∧ S.hs.length ≤ 1000 ∧
  (S.hs.length + 1 = S.ts.length + S.ss.length → ∀ H', Stp Nop O H O H' → E (.ref (He.ga K "Full")) none H') ∧
  (S.hs.length + 1 < S.ts.length + S.ss.length → ∀ (i : Nat) q H' S', Stp (stP k) O H O H' → StAt K k O H' p S' → SI none S' → S'.hs = S.hs ++ [(S.nw + 1, 1)] → S'.nw = S.nw + 1 → S'.ts.length = S.ts.length → S'.ss.length = S.ss.length →
    S'.fs.map (fun q => (q.1, q.2.length)) = S.fs.map (fun q => (q.1, q.2.length)) → S'.ts[i]? = some (some (.own (S.nw + 1))) → Has S' (.own (S.nw + 1)) row → (∀ t row', t ≠ .own (S.nw + 1) → Has S t row' → Has S' t row') → lk S.hs (S.nw + 1) = none →
    H' q = some (.tup [.int (S.nw + 1), .int i]) → O q = none → Q (.ref q) H')
def spHold (K : PySem.W.Frag) : Sp := fun vs H Q _ => ∃ (p : Addr) (k : Nat) (S : Sto) (s c : Int) (O : Own), vs = [.ref p, .int s] ∧ StAt K k O H p S ∧ Dm O H ∧ lk S.hs s = some c ∧ S.hs.length ≤ 1000 ∧
  ∀ H', Stp (stP k) O H O H' → StAt K k O H' p { S with hs := pt S.hs s (c + 1) } → Q (.int (c + 1)) H'
def spLetGo (K : PySem.W.Frag) : Sp := fun vs H Q _ => ∃ (p : Addr) (k : Nat) (S : Sto) (s c : Int) (O : Own), vs = [.ref p, .int s] ∧ StAt K k O H p S ∧ Dm O H ∧ SI none S ∧ lk S.hs s = some c ∧ S.hs.length ≤ 1000 ∧
  (c ≠ 1 → ∀ H', Stp (stP k) O H O H' → StAt K k O H' p { S with hs := pt S.hs s (c - 1) } → Q (.int (c - 1)) H') ∧
  (c = 1 → ∀ H' S', Stp (stP k) O H O H' → StAt K k O H' p S' → SI none S' → S'.hs = dl S.hs s → S'.nw = S.nw → S'.ts.length = S.ts.length → S'.ss.length = S.ss.length → S'.fs = S.fs → (∀ t row', t ≠ .own s → Has S t row' → Has S' t row') → Q (.int 0) H')
theorem lk_map {κ β : Type} [DecidableEq κ] {k j : κ} {b : β} : ∀ {xs : List (κ × β)}, lk (xs.map fun p => if p.1 = k then (p.1, b) else p) j = if j = k then (lk xs k).map (fun _ => b) else lk xs j
  | [] => by unfold lk; simp
  | p :: r => by
    have ih := lk_map (k := k) (j := j) (b := b) (xs := r)
    rw [List.map_cons]
    by_cases ep : p.1 = k
    · rw [if_pos ep]
      by_cases ej : j = k
      · rw [if_pos ej]
        show (if p.1 = j then some b else lk _ j) = (if p.1 = k then some p.2 else lk r k).map _
        rw [if_pos (ep.trans ej.symm), if_pos ep] <;> rfl
      · rw [if_neg ej]
        show (if p.1 = j then some b else lk _ j) = (if p.1 = j then some p.2 else lk r j)
        have en : ¬ p.1 = j := fun z => ej (z.symm.trans ep)
        rw [if_neg en, if_neg en, ih, if_neg ej]
    · rw [if_neg ep]
      by_cases ej : j = k
      · rw [if_pos ej]
        show (if p.1 = j then some p.2 else lk _ j) = (if p.1 = k then some p.2 else lk r k).map _
        have en : ¬ p.1 = j := fun z => ep (z.trans ej)
        rw [if_neg en, if_neg ep, ih, if_pos ej]
      · rw [if_neg ej]
        show (if p.1 = j then some p.2 else lk _ j) = (if p.1 = j then some p.2 else lk r j)
        rw [ih, if_neg ej]
theorem lk_pt {κ β : Type} [DecidableEq κ] {xs : List (κ × β)} {k j : κ} {b : β} : lk (pt xs k b) j = if j = k then some b else lk xs j := by
  unfold pt
  cases e : lk xs k with
  | none =>
    simp only [Option.isSome_none, Bool.false_eq_true, if_false]
    rw [lk_app]
    show (lk xs j).or (if k = j then some b else none) = _
    by_cases ej : j = k
    · subst ej; rw [e]; simp
    · rw [if_neg (Ne.symm ej), if_neg ej]; simp
  | some b' =>
    simp only [Option.isSome_some, if_true]
    rw [lk_map, e]
    rfl
theorem dl_pt {κ β : Type} [DecidableEq κ] {xs : List (κ × β)} {k : κ} {b : β} (h : lk xs k ≠ none) : dl (pt xs k b) k = dl xs k := by
  unfold pt
  rw [if_pos (by cases e : lk xs k with
    | none => exact absurd e h
    | some _ => rfl)]
  clear h
  unfold dl
  induction xs with
  | nil => rfl
  | cons p r ih =>
    rw [List.map_cons]
    by_cases ep : p.1 = k
    · rw [if_pos ep, List.filter_cons_of_neg (by simp [ep]), List.filter_cons_of_neg (by simp [ep]), ih]
    · rw [if_neg ep, List.filter_cons_of_pos (by simp [ep]), List.filter_cons_of_pos (by simp [ep]), ih]
/-- a row of each page, as it is now -/
theorem SI.page {S : Sto} {n : Str} {rows : List Row} (I : SI none S) (hn : lk S.fs n = some rows) {j : Nat} (hj : j < rows.length) : ∃ row, Has S (.file n j) row := by
  by_cases h : ∃ i : Nat, S.ts[i]? = some (some (.file n j))
  · obtain ⟨i, hi⟩ := h
    exact ⟨_, .inl ⟨i, hi, List.getElem?_eq_getElem (by rw [I.l1]; exact g_lt hi)⟩⟩
  · refine ⟨rows[j], .inr ⟨fun i hi => h ⟨i, hi⟩, by omega, rows, hn, ?_⟩⟩
    rw [Int.toNat_natCast]
    exact List.getElem?_eq_getElem hj
section
variable {P : Program} {w : World} {K : PySem.W.Frag} {mg : Str → Option Value} {base : Heap}
theorem ok_file_now (T : Tx K mg) : C8.Cal P w K mg base 5 "file_now" (spFileNow K) [] := by
  refine mkCal T.fd_file_now T.g_file_now sc_file_now (fun _ _ _ _ _ _ us hl => match us, hl with | [_, _], _ => rfl) (fun vs H Q E h => ?_) (fun cdv A outer s H vs Q E hr h => ?_)
  · obtain ⟨p, k, S, n, rows, O, rfl, hs, hD, I, hok, hn, q⟩ := h
    rfl
  · obtain ⟨p, k, S, n, rows, O, rfl, hs, hD, I, hok, hn, q⟩ := h
    refine ⟨_, (pss_cons (ps_set (i := 2) sc_file_now.nd rfl (by first | exact Or.inl rfl | exact Or.inr rfl) (C8.pe_mt (ok_Files_size_of T) hr (by decide) (pe_fld (pv 0) rfl) (pa_cons (pv 1) pa_nil)))
      (pss_one (ps_ret (pe_lc (own := [("page", 3)]) (g := gName 3) (tt := tYes) rfl sc_file_now.nd (pi_range1 (by rfl) T.b_range (pa_cons (pv 2) pa_nil)) (blkOk_by (own := [("page", 3)]) (N := ["store", "name", "many", "page"]) (sc := defScope s_file_now) (by decide +kernel)) (fun _ _ _ _ _ => pg_name (i := 3) sc_file_now.nd rfl (Or.inl rfl)) (fun _ _ _ _ _ => pts_nil) (fun _ _ _ _ _ => (C8.pe_c (ok_row_now T) hr (by decide) rfl (pa_cons (pv 0) (pa_cons (pe_tup (pa_cons pe_str (pa_cons (pv 1) (pa_cons (pv 3) pa_nil)))) pa_nil)))))))), ?_⟩
    have hs' := hs
    obtain ⟨dx, fr, di, sh, fi, ho, x⟩ := hs
    obtain ⟨idx, fd, kvs, y⟩ := x.fi
    obtain ⟨_, _, _, _, _, _, rl⟩ := y.get hn
    refine ⟨_, rfl, p, _, dx, _, _, rfl, x.ob, T.c_Store, T.n_Store_files, stFs_fi .., fi, idx, _, rfl, y.ob, rfl, _, rfl, fi, S.fs, n, rows, _, O, rfl, x.fi, hn, ?_⟩
    refine ⟨_, rfl, _, rfl, by omega, by omega, fun D nD => lc_range (fun i H' => Same H H' ∧ ∃ vs, H' D = some (.lst vs) ∧ vs.length = i ∧ ∀ (j : Nat) v row, vs[j]? = some v → Has S (.file n j) row → ∃ a, v = .ref a ∧ H' a = some (.lst (row.map V.int)) ∧ H a = none ∧ a ≠ D)
      ⟨Same.alloc nD, [], upd_same, rfl, fun j v row h => by simp at h⟩ (fun i H' hi hx => ?_) (fun H' hx => ?_)⟩
    · obtain ⟨s', vs, e1, e2, e3⟩ := hx
      have hi : i < rows.length := by simpa using hi
      obtain ⟨row, hrow⟩ := I.page hn hi
      have st := Stp.of_same (P := Nop) hD s'
      refine ⟨rfl, _, rfl, _, rfl, _, rfl, (by show 3 ≤ sizeLine; decide), fun tq nq => ?_⟩
      have st2 : Stp Nop O H O (upd H' tq (.tup [.str "file", .str n, .int (0 + (i : Int))])) := st.trans (Stp.alloc st.dm nq)
      have t2 : (upd H' tq (.tup [.str "file", .str n, .int (0 + (i : Int))])) tq = some (.tup ((Thing.file n i).key.map kV)) := by rw [upd_same, Int.zero_add]; rfl
      have D2 : (upd H' tq (.tup [.str "file", .str n, .int (0 + (i : Int))])) D = some (.lst vs) := by rw [upd_ne (ne_of_none e1 nq)]; exact e1
      have v2 : ∀ b o, H' b = some o → (upd H' tq (.tup [.str "file", .str n, .int (0 + (i : Int))])) b = some o := Same.alloc nq
      generalize (upd H' tq (.tup [.str "file", .str n, .int (0 + (i : Int))])) = H2 at st2 t2 D2 v2 ⊢
      refine ⟨p, k, S, .ref tq, .file n i, row, O, rfl, hs'.kp st2 (fun _ _ z => z), I, ⟨tq, rfl, t2, st.dm.none nq, hok⟩, hrow, fun b nb => ⟨vs, ?_, ?_, ?_⟩⟩
      · rw [upd_ne (ne_of_none D2 nb)]; exact D2
      · rw [e2]; exact Nat.lt_of_lt_of_le (Nat.lt_of_lt_of_le hi rl) (by decide)
      · have bD : b ≠ D := (ne_of_none D2 nb).symm
        have bH : H b = none := st2.same.free nb
        refine ⟨fun c o e => ?_, vs ++ [.ref b], upd_same, by simp [e2], fun j v row' hv hr' => ?_⟩
        · rw [upd_ne (ne_of_none e nD), upd_ne (ne_of_none (st2.same c o e) nb)]; exact st2.same c o e
        · by_cases ej : j < vs.length
          · rw [List.getElem?_append_left ej] at hv
            obtain ⟨a, h1, h2, h3, h4⟩ := e3 j v row' hv hr'
            exact ⟨a, h1, by rw [upd_ne h4, upd_ne (ne_of_none (v2 _ _ h2) nb)]; exact v2 _ _ h2, h3, h4⟩
          · have ej2 : j = i := by
              have := (List.getElem?_eq_some_iff.mp hv).1
              rw [List.length_append, e2] at this
              simp at this
              omega
            subst ej2
            rw [List.getElem?_append_right (by omega), e2, Nat.sub_self] at hv
            cases hv
            refine ⟨b, rfl, ?_, bH, bD⟩
            rw [upd_ne bD, upd_same]
            have er : row = row' := by
              rcases hrow with ⟨a, h1, h2⟩ | ⟨h1, _, r1, h2, h3⟩
              · rcases hr' with ⟨a', h1', h2'⟩ | ⟨h1', _⟩
                · have := I.dis a a' _ h1 h1'
                  subst this
                  rw [h2] at h2'
                  exact Option.some.inj h2'
                · exact absurd h1 (h1' a)
              · rcases hr' with ⟨a', h1', h2'⟩ | ⟨_, _, r2, h2', h3'⟩
                · exact absurd h1' (h1 a')
                · rw [h2] at h2'
                  cases h2'
                  rw [h3] at h3'
                  exact Option.some.inj h3'
            rw [er]
    · obtain ⟨s', vs, e1, e2, e3⟩ := hx
      exact q D H' vs s' nD e1 (by rw [e2]; simp) e3
theorem ok_room_of (T : Tx K mg) : C8.Cal P w K mg base 2 "room_of" (spRoom K) [] := by
  refine mkCal T.fd_room_of T.g_room_of sc_room_of (fun _ _ _ _ _ _ us hl => match us, hl with | [_], _ => rfl) (fun vs H Q E h => ?_) (fun cdv A outer s H vs Q E hr h => ?_)
  · obtain ⟨p, k, S, O, rfl, hs, hD, q⟩ := h
    rfl
  · obtain ⟨p, k, S, O, rfl, hs, hD, q⟩ := h
    refine ⟨_, (pss_cons (ps_set (i := 1) sc_room_of.nd rfl (by first | exact Or.inl rfl | exact Or.inr rfl) (pe_op op_add (pe_op op_sub (pe_callB call_len_seq (by rfl) T.b_len PySem.boot_len (pa_cons (C8.pe_mt0 (ok_Frames_things T) hr (by decide) (pe_fld (pv 0) rfl)) pa_nil)) pe_int) (pe_callB call_len_seq (by rfl) T.b_len PySem.boot_len (pa_cons (C8.pe_mt0 (ok_Shelf_sheets T) hr (by decide) (pe_fld (pv 0) rfl)) pa_nil))))
      (pss_one (ps_ret (pe_op op_sub (pv 1) (pe_callB call_lenD (by rfl) T.b_len PySem.boot_len (pa_cons (pe_fld (pv 0) rfl) pa_nil)))))), ?_⟩
    obtain ⟨dx, fr, di, sh, fi, ho, x⟩ := hs
    have xf := x.fr
    obtain ⟨fdx, tl, rl, sl, tvs, rv, f⟩ := x.fr
    refine ⟨_, rfl, p, _, dx, _, _, rfl, x.ob, T.c_Store, T.n_Store_frames, stFs_fr .., fr, fdx, _, rfl, f.ob, rfl, fr, S.ts, S.rs, S.so, _, O, rfl, xf, fun a tv na pt => ?_⟩
    have s1 : Stp Nop O H O (upd H a (.lst tv)) := Stp.alloc hD na
    have a1 : (upd H a (.lst tv)) a = some (.lst tv) := upd_same
    generalize (upd H a (.lst tv)) = H1 at s1 a1 ⊢
    have x1 := x.kp s1 (fun _ _ z => z)
    obtain ⟨sdx, pl, rd, kvs, y⟩ := x1.sh
    refine ⟨a, _, rfl, .inl (SqL.of a1), _, _, rfl, rfl, ?_⟩
    refine ⟨_, rfl, p, _, dx, _, _, rfl, x1.ob, T.c_Store, T.n_Store_shelf, stFs_sh .., sh, sdx, _, rfl, y.ob, rfl, sh, S.ss, S.sr, _, O, rfl, x1.sh, fun b nb => ?_⟩
    have s2 : Stp Nop O H O (upd H1 b (.lst (S.ss.map oV))) := s1.trans (Stp.alloc s1.dm nb)
    have b2 : (upd H1 b (.lst (S.ss.map oV))) b = some (.lst (S.ss.map oV)) := upd_same
    generalize (upd H1 b (.lst (S.ss.map oV))) = H2 at s2 b2 ⊢
    have x2 := x.kp s2 (fun _ _ z => z)
    refine ⟨b, _, rfl, .inl (SqL.of b2), _, _, rfl, rfl, ?_⟩
    refine ⟨_, rfl, _, rfl, p, _, dx, _, _, rfl, x2.ob, T.c_Store, T.n_Store_my_holders, stFs_ho .., ho, _, rfl, x2.hh, _, _, rfl, rfl, ?_⟩
    have e := q H2 s2
    rw [hK_len, pt.plen, List.length_map]
    exact e
theorem ok_hold (T : Tx K mg) : C8.Cal P w K mg base 1 "hold" (spHold K) [] := by
  refine mkCal T.fd_hold T.g_hold sc_hold (fun _ _ _ _ _ _ us hl => match us, hl with | [_, _], _ => rfl) (fun vs H Q E h => ?_) (fun cdv A outer s H vs Q E hr h => ?_)
  · obtain ⟨p, k, S, s', c, O, rfl, hs, hD, hc, hl, q⟩ := h
    rfl
  · obtain ⟨p, k, S, s', c, O, rfl, hs, hD, hc, hl, q⟩ := h
    refine ⟨_, (pss_cons (ps_dput (hu_of hr) (pe_fld (pv 0) rfl) (pv 1) (pe_op op_add (pe_dget (hu_of hr) (pe_fld (pv 0) rfl) (pv 1) (fun _ _ => rfl)) pe_int) rfl)
      (pss_one (ps_ret (pe_dget (hu_of hr) (pe_fld (pv 0) rfl) (pv 1) (fun _ _ => rfl))))), ?_⟩
    obtain ⟨dx, fr, di, sh, fi, ho, x⟩ := hs
    have g1 : DGet H ho (.int s') (some (.int c)) := by
      have := DGet.k (k := Sum.inl s') x.hh
      rw [hK_get hc] at this
      exact this
    have kl : (hK S.hs).length < sizeLine := by rw [hK_len]; exact Nat.lt_of_le_of_lt hl (by decide)
    refine ⟨_, rfl, p, _, dx, _, _, rfl, x.ob, T.c_Store, T.n_Store_my_holders, stFs_ho .., _, rfl, ho, _, rfl, g1, _, _, rfl, rfl, _, rfl, p, _, dx, _, _, rfl, x.ob, T.c_Store, T.n_Store_my_holders, stFs_ho .., _, rfl, ho, _, rfl, DPut.k (k := Sum.inl s') x.hh kl, ?_⟩
    rw [hK_put]
    have s1 : Stp (· = 8 * k + 4) O H O (upd H ho (.dK (hK (pt S.hs s' (c + 1))))) := Stp.write hD x.oh rfl
    have x1 := x.setH (hs := pt S.hs s' (c + 1)) (nw := S.nw) s1 upd_same (by rw [upd_ne x.ne]; exact x.ob)
    have g2 : DGet (upd H ho (.dK (hK (pt S.hs s' (c + 1))))) ho (.int s') (some (.int (c + 1))) := by
      have := DGet.k (k := Sum.inl s') x1.hh
      rw [hK_get (c := c + 1) (by show lk (pt S.hs s' (c + 1)) s' = _; rw [lk_pt, if_pos rfl])] at this
      exact this
    exact ⟨_, rfl, p, _, dx, _, _, rfl, x1.ob, T.c_Store, T.n_Store_my_holders, stFs_ho .., _, rfl, ho, _, rfl, g2, q _ (s1.mono stP4) ⟨dx, fr, di, sh, fi, ho, x1⟩⟩
end
end Pw


set_option Elab.async false
set_option linter.all false
set_option maxRecDepth 100000
set_option maxHeartbeats 4000000
namespace Pw
open PySem PySem.Spec PyProof.Rows L2
theorem fr_len {K : PySem.W.Frag} {O : Own} {H : Hp} {r : Nat} {f : Addr} {ts : List (Option Thing)} {rs : List Row} {so : List Bool} (h : FrAt K O H r f ts rs so) : ts.length ≤ 64 := by
  obtain ⟨_, _, _, _, _, _, x⟩ := h
  exact x.big
theorem sh_len {K : PySem.W.Frag} {O : Own} {H : Hp} {r : Nat} {f : Addr} {ss : List (Option Int)} {sr : List (Int × Row)} (h : ShAt K O H r f ss sr) : ss.length ≤ 128 := by
  obtain ⟨_, _, _, _, x⟩ := h
  exact x.big
section
variable {P : Program} {w : World} {K : PySem.W.Frag} {mg : Str → Option Value} {base : Heap}
theorem ok_forget_file (T : Tx K mg) : C8.Cal P w K mg base 3 "forget_file" (spForget K) [] := by
  refine mkCal T.fd_forget_file T.g_forget_file sc_forget_file (fun _ _ _ _ _ _ us hl => match us, hl with | [_, _], _ => rfl) (fun vs H Q E h => ?_) (fun cdv A outer s H vs Q E hr h => ?_)
  · obtain ⟨p, k, S, n, O, rfl, hs, hD, I, hn, q⟩ := h
    rfl
  · obtain ⟨p, k, S, n, O, rfl, hs, hD, I, hn, q⟩ := h
    refine ⟨_, (pss_cons (ps_expr (C8.pe_mt (ok_Files_drop T) hr (by decide) (pe_fld (pv 0) rfl) (pa_cons (pv 1) pa_nil)))
      (pss_cons (ps_set (i := 2) sc_forget_file.nd rfl (by first | exact Or.inl rfl | exact Or.inr rfl) (C8.pe_mt0 (ok_Frames_things T) hr (by decide) (pe_fld (pv 0) rfl)))
      (pss_one (ps_for PassesOwn.never rfl (pi_range1 (by rfl) T.b_range (pa_cons (pe_callB call_len_seq (by rfl) T.b_len PySem.boot_len (pa_cons (pv 2) pa_nil)) pa_nil)) (pg_name (i := 3) sc_forget_file.nd rfl (by first | exact Or.inl rfl | exact Or.inr rfl)) (pss_one (ps_if (PW.pt (pw_and (pt_cmpR op_notN (pe_ix (r := rIxL K) ix_list (pv 2) (pv 3) (fun _ _ => rfl)) pe_non (nomark _)) (pw_and (pt_cmpR op_eq (pe_ix (r := rIxT K) ix_tup (pe_ix (r := rIxL K) ix_list (pv 2) (pv 3) (fun _ _ => rfl)) pe_int (fun _ _ => rfl)) pe_str (nomark _)) (pw_and1 (pt_cmpR op_eq (pe_ix (r := rIxT K) ix_tup (pe_ix (r := rIxL K) ix_list (pv 2) (pv 3) (fun _ _ => rfl)) pe_int (fun _ _ => rfl)) (pv 1) (nomark _)))))) (pss_one (ps_expr (C8.pe_c (ok_set_free T) hr (by decide) rfl (pa_cons (pv 0) (pa_cons (pv 3) pa_nil))))) pss_nil)))))), ?_⟩
    obtain ⟨dx, fr, di, sh, fi, ho, x⟩ := hs
    obtain ⟨idx, fd, kvs, y⟩ := x.fi
    refine ⟨_, rfl, p, _, dx, _, _, rfl, x.ob, T.c_Store, T.n_Store_files, stFs_fi .., fi, idx, _, rfl, y.ob, rfl, _, rfl, fi, S.fs, n, _, O, rfl, x.fi, hD, hn, fun H1 s1 i1 => ?_⟩
    have x1 := x.setFi s1 i1
    have big : S.ts.length ≤ 64 := fr_len x1.fr
    obtain ⟨fdx, tl, rl, sl, tvs, rv, f⟩ := x1.fr
    refine ⟨_, rfl, p, _, dx, _, _, rfl, x1.ob, T.c_Store, T.n_Store_frames, stFs_fr .., fr, fdx, _, rfl, f.ob, rfl, fr, S.ts, S.rs, S.so, _, O, rfl, x1.fr, fun a tv na pt => ?_⟩
    have s2 : Stp Nop O H1 O (upd H1 a (.lst tv)) := Stp.alloc s1.dm na
    have a2 : (upd H1 a (.lst tv)) a = some (.lst tv) := upd_same
    have aO : O a = none := s1.dm.none na
    generalize (upd H1 a (.lst tv)) = H2 at s2 a2 ⊢
    have x2 := x1.kp s2 (fun _ _ z => z)
    have pt2 := pt.pmono fun _ _ z => OThV.kp z s2
    have s02 := (s1.mono (stP3 (k := k))).trans s2.nop
    refine ⟨_, rfl, a, _, rfl, .inl (SqL.of a2), _, rfl, by omega, by rw [pt.plen]; omega, ?_⟩
    refine for_range (fun i σ H' => σ[0]? = some (some (.ref p)) ∧ σ[1]? = some (some (.str n)) ∧ σ[2]? = some (some (.ref a)) ∧ σ.length = 4 ∧ Stp (stP k) O H2 O H' ∧ ∃ Sk, Fgt n i S Sk ∧ StAt K k O H' p { Sk with fs := dl Sk.fs n }) ⟨rfl, rfl, rfl, rfl, Stp.refl s2.dm, S, Fgt.zero n S, ⟨dx, fr, di, sh, fi, ho, x2⟩⟩ (fun i σ H' hi hx => ?_) (fun σ H' hx => ?_)
    · obtain ⟨e0, e1, e2, el, st, Sk, F, hk⟩ := hx
      have hi : i < tv.length := by simpa using hi
      obtain ⟨c0, c1, c2, c3, rfl⟩ : ∃ a b c d, σ = [a, b, c, d] := by
        match σ, el with
        | [a, b, c, d], _ => exact ⟨a, b, c, d, rfl⟩
      obtain ⟨ot, hot, rot⟩ := pt2.pget (List.getElem?_eq_getElem hi)
      have rot' := OThV.kp rot st
      have a3 : H' a = some (.lst tv) := (st.at_none a2 aO).1
      have tvi : tv[i]? = some tv[i] := List.getElem?_eq_getElem hi
      have next : ∀ Sk' H3, Fgt n (i + 1) S Sk' → Stp (stP k) O H2 O H3 → StAt K k O H3 p { Sk' with fs := dl Sk'.fs n } →
          ([c0, c1, c2, c3].set 3 (some (V.int (0 + (i : Int)))))[0]? = some (some (.ref p)) ∧ ([c0, c1, c2, c3].set 3 (some (V.int (0 + (i : Int)))))[1]? = some (some (.str n)) ∧ ([c0, c1, c2, c3].set 3 (some (V.int (0 + (i : Int)))))[2]? = some (some (.ref a)) ∧ ([c0, c1, c2, c3].set 3 (some (V.int (0 + (i : Int))))).length = 4 ∧ Stp (stP k) O H2 O H3 ∧ ∃ Sk, Fgt n (i + 1) S Sk ∧ StAt K k O H3 p { Sk with fs := dl Sk.fs n } :=
        fun Sk' H3 F' s' h' => ⟨e0, e1, e2, rfl, s', Sk', F', h'⟩
      refine ⟨_, e2, _, rfl, a, _, _, _, rfl, rfl, SqL.of a3, at_of (Int.zero_add _) tvi, rfl, _, rfl, ?_⟩
      cases ot with
      | none =>
        have en : tv[i] = .non := rot
        rw [en]
        refine iteF ?_
        exact iteF (next Sk H' (F.skip fun pg e => by rw [hot] at e; cases e) st hk)
      | some t =>
        obtain ⟨ta, et, t1, t2, tok⟩ := (show ThV O H' tv[i] t from rot')
        rw [et] at tvi ⊢
        refine iteTe rfl ?_
        cases t with
        | own s' =>
          refine ⟨_, e2, _, rfl, a, _, _, _, rfl, rfl, SqL.of a3, at_of (Int.zero_add _) tvi, ta, _, _, _, rfl, rfl, SqT.of t1, at_of (j := 0) rfl rfl, rfl, _, rfl, ?_⟩
          refine iteFe (str_ne own_ne_file) ?_
          exact iteF (next Sk H' (F.skip fun pg e => by rw [hot] at e; cases e) st hk)
        | file m pg =>
          refine ⟨_, e2, _, rfl, a, _, _, _, rfl, rfl, SqL.of a3, at_of (Int.zero_add _) tvi, ta, _, _, _, rfl, rfl, SqT.of t1, at_of (j := 0) rfl rfl, rfl, _, rfl, ?_⟩
          refine iteTe (str_eq rfl) ?_
          refine ⟨_, e2, _, rfl, a, _, _, _, rfl, rfl, SqL.of a3, at_of (Int.zero_add _) tvi, ta, _, _, _, rfl, rfl, SqT.of t1, at_of (j := 1) rfl rfl, _, e1, rfl, _, rfl, ?_⟩
          by_cases em : m = n
          · subst em
            refine iteTe (str_eq rfl) ?_
            have hil : i < Sk.ts.length := by rw [F.tl]; exact g_lt hot
            refine ⟨_, e0, _, rfl, p, k, _, i, O, by rw [Int.zero_add]; rfl, hk, st.dm, hil, fun H3 s3 h3 => ?_⟩
            exact next (Sk.free i) H3 (F.step hot) (st.trans s3) h3
          · refine iteFe (str_ne em) ?_
            exact next Sk H' (F.skip fun pg' e => by rw [hot] at e; cases e; exact em rfl) st hk
    · obtain ⟨e0, e1, e2, el, st, Sk, F, hk⟩ := hx
      have el2 : ((tv.length : Int)).toNat = S.ts.length := by rw [pt.plen]; simp
      rw [el2] at F
      obtain ⟨J, hh⟩ := I.forget F
      exact q H' _ (s02.trans st) hk J hh F.ehs F.enw F.tl (by show Sk.ss.length = _; rw [F.ess]) (by show dl Sk.fs n = _; rw [F.efs])
theorem ok_let_go (T : Tx K mg) : C8.Cal P w K mg base 3 "let_go" (spLetGo K) [] := by
  refine mkCal T.fd_let_go T.g_let_go sc_let_go (fun _ _ _ _ _ _ us hl => match us, hl with | [_, _], _ => rfl) (fun vs H Q E h => ?_) (fun cdv A outer s H vs Q E hr h => ?_)
  · obtain ⟨p, k, S, s', c, O, rfl, hs, hD, I, hc, hl, q1, q2⟩ := h
    rfl
  · obtain ⟨p, k, S, s', c, O, rfl, hs, hD, I, hc, hl, q1, q2⟩ := h
    refine ⟨_, (pss_cons (ps_set (i := 2) sc_let_go.nd rfl (by first | exact Or.inl rfl | exact Or.inr rfl) (pe_op op_sub (pe_dget (hu_of hr) (pe_fld (pv 0) rfl) (pv 1) (fun _ _ => rfl)) pe_int))
      (pss_cons (ps_dput (hu_of hr) (pe_fld (pv 0) rfl) (pv 1) (pv 2) rfl)
      (pss_cons (ps_if (pt_cmpR op_eq (pv 2) pe_int (nomark _)) (pss_cons (ps_expr (pe_dpop1 (pe_fld (pv 0) rfl) (pv 1) ⟨rfl, rfl, rfl, rfl⟩))
      (pss_cons (ps_set (i := 3) sc_let_go.nd rfl (by first | exact Or.inl rfl | exact Or.inr rfl) (C8.pe_mt (ok_Frames_where T) hr (by decide) (pe_fld (pv 0) rfl) (pa_cons (pe_tup (pa_cons pe_str (pa_cons (pv 1) pa_nil))) pa_nil)))
      (pss_one (ps_if (pt_cmpR op_isN (pv 3) pe_non (nomark _)) (pss_one (ps_expr (C8.pe_mt (ok_Shelf_take_off T) hr (by decide) (pe_fld (pv 0) rfl) (pa_cons (pv 1) pa_nil)))) (pss_one (ps_expr (C8.pe_c (ok_set_free T) hr (by decide) rfl (pa_cons (pv 0) (pa_cons (pv 3) pa_nil))))))))) pss_nil)
      (pss_one (ps_ret (pv 2)))))), ?_⟩
    obtain ⟨dx, fr, di, sh, fi, ho, x⟩ := hs
    have g1 : DGet H ho (.int s') (some (.int c)) := by
      have := DGet.k (k := Sum.inl s') x.hh
      rw [hK_get hc] at this
      exact this
    have hne : lk S.hs s' ≠ none := by rw [hc]; exact fun z => nomatch z
    have kl : (hK S.hs).length < sizeLine := by rw [hK_len]; exact Nat.lt_of_le_of_lt hl (by decide)
    refine ⟨_, rfl, p, _, dx, _, _, rfl, x.ob, T.c_Store, T.n_Store_my_holders, stFs_ho .., _, rfl, ho, _, rfl, g1, _, _, rfl, rfl, ?_⟩
    refine ⟨_, rfl, _, rfl, p, _, dx, _, _, rfl, x.ob, T.c_Store, T.n_Store_my_holders, stFs_ho .., _, rfl, ho, _, rfl, DPut.k (k := Sum.inl s') x.hh kl, ?_⟩
    rw [hK_put]
    have s1 : Stp (· = 8 * k + 4) O H O (upd H ho (.dK (hK (pt S.hs s' (c - 1))))) := Stp.write hD x.oh rfl
    have x1 := x.setH (hs := pt S.hs s' (c - 1)) (nw := S.nw) s1 upd_same (by rw [upd_ne x.ne]; exact x.ob)
    generalize (upd H ho (.dK (hK (pt S.hs s' (c - 1))))) = H1 at s1 x1 ⊢
    refine ⟨_, rfl, rfl, _, rfl, ?_⟩
    by_cases hc1 : c = 1
    · refine iteTe (decide_eq_true (by rw [hc1]; rfl)) ?_
      have g2 : valV (hK (pt S.hs s' (c - 1))) (Sum.inl s') = some (.int (c - 1)) := hK_get (by rw [lk_pt, if_pos rfl])
      refine ⟨_, rfl, p, _, dx, _, _, rfl, x1.ob, T.c_Store, T.n_Store_my_holders, stFs_ho .., ho, rfl, .inl ⟨_, .inl x1.hh⟩, _, rfl, _, Sum.inl s', _, x1.hh, rfl, g2, ?_⟩
      rw [hK_drop, dl_pt hne]
      have s2 : Stp (· = 8 * k + 4) O H1 O (upd H1 ho (.dK (hK (dl S.hs s')))) := Stp.write s1.dm x1.oh rfl
      have x2 := x1.setH (hs := dl S.hs s') (nw := S.nw) s2 upd_same (by rw [upd_ne x1.ne]; exact x1.ob)
      generalize (upd H1 ho (.dK (hK (dl S.hs s')))) = H2 at s2 x2 ⊢
      -- frame = store.frames.where(('own', sheet))
      obtain ⟨fdx, tl, rl, sl, tvs, rv, f⟩ := x2.fr
      refine ⟨_, rfl, p, _, dx, _, _, rfl, x2.ob, T.c_Store, T.n_Store_frames, stFs_fr .., fr, fdx, _, rfl, f.ob, rfl, _, rfl, (by show 2 ≤ sizeLine; decide), fun tq nq => ?_⟩
      have s3 : Stp Nop O H2 O (upd H2 tq (.tup [.str "own", .int s'])) := Stp.alloc s2.dm nq
      have t3 : ThV O (upd H2 tq (.tup [.str "own", .int s'])) (.ref tq) (.own s') := ⟨tq, rfl, upd_same, s2.dm.none nq, trivial⟩
      generalize (upd H2 tq (.tup [.str "own", .int s'])) = H3 at s3 t3 ⊢
      have x3 := x2.kp s3 (fun _ _ z => z)
      have s03 := ((s1.mono (stP4 (k := k))).trans (s2.mono stP4)).trans s3.nop
      refine ⟨fr, S.ts, S.rs, S.so, .ref tq, .own s', _, O, rfl, x3.fr, t3, fun i hi => ?_, fun hno => ?_⟩
      · refine ⟨_, rfl, rfl, _, rfl, iteF ?_⟩
        refine ⟨_, rfl, _, rfl, p, k, _, i, O, rfl, ⟨dx, fr, di, sh, fi, ho, x3⟩, s3.dm, g_lt hi, fun H4 s4 h4 => ?_⟩
        obtain ⟨J, hm⟩ := I.freeOwn hi
        have e := q2 hc1 H4 _ (s03.trans s4) h4 J.dropHand rfl rfl (List.length_set ..) rfl rfl hm
        refine ⟨_, rfl, ?_⟩
        rw [hc1]
        exact e
      · refine ⟨_, rfl, rfl, _, rfl, iteT ?_⟩
        obtain ⟨sdx, pl, rd, kvs, y⟩ := x3.sh
        have hsr : lk S.sr s' ≠ none := by
          rcases I.hf s' hne with h | h | ⟨i, h⟩
          · cases h
          · exact h
          · exact absurd h (hno i)
        obtain ⟨row, hrow⟩ := Option.ne_none_iff_exists'.mp hsr
        obtain ⟨j0, hj0⟩ := (I.ssr s').mpr hsr
        refine ⟨_, rfl, p, _, dx, _, _, rfl, x3.ob, T.c_Store, T.n_Store_shelf, stFs_sh .., sh, sdx, _, rfl, y.ob, rfl, _, rfl, sh, S.ss, S.sr, s', row, _, O, rfl, x3.sh, s3.dm, ⟨j0, hj0⟩, hrow, fun j v H4 hj s4 sh4 rv4 => ?_⟩
        have x4 := x3.setSh s4 sh4
        obtain ⟨J, hm⟩ := I.takeOwn hj
        have e := q2 hc1 H4 _ (s03.trans (s4.mono stP2)) ⟨dx, fr, di, sh, fi, ho, x4⟩ J.dropHand rfl rfl rfl (List.length_set ..) rfl hm
        refine ⟨_, rfl, ?_⟩
        rw [hc1]
        exact e
    · refine iteFe (decide_eq_false fun z => hc1 (by injection z; omega)) ?_
      exact ⟨_, rfl, q1 hc1 H1 (s1.mono stP4) ⟨dx, fr, di, sh, fi, ho, x1⟩⟩
theorem ok_new_sheet (T : Tx K mg) : ∃ fd, FnOk P w K mg base (L2.CX P w) 6 (He.ga K "new_sheet") fd ["store", "row"] (spNew K) ∧ PySem.W.keepIn K (.ref (He.ga K "new_sheet")) = true ∧ Binds K fd ["store", "row"] [] := by
  obtain ⟨fd, F⟩ := T.fd_new_sheet
  refine ⟨fd, F.ok sc_new_sheet (fun vs H Q E h => ?_) (fun cdv A outer s H vs Q E hr h => ?_), F.kp, F.bindsN fun _ _ _ _ _ _ us hl => match us, hl with | [_, _], _ => rfl⟩
  · obtain ⟨p, b, k, S, row, O, rfl, _⟩ := h
    rfl
  · obtain ⟨p, b, k, S, row, O, rfl, hs, hD, I, hb, hbr, hl, q1, q2⟩ := h
    refine ⟨_, (pss_cons (ps_if (pt_cmpR op_eq (C8.pe_c (ok_room_of T) hr (by decide) rfl (pa_cons (pv 0) pa_nil)) pe_int (nomark _)) (pss_one (ps_raise rfl (takes_of rfl rfl rfl rfl) (pmk_own PySem.F.excBase_ValueError (He.exc_ok T.x_Full).1 T.g_Full (He.exc_ok T.x_Full).2.1 (raises_own (He.exc_ok T.x_Full).2.2.1 (He.exc_ok T.x_Full).2.2.2) rfl))) pss_nil)
      (pss_cons (ps_set (i := 2) sc_new_sheet.nd rfl (by first | exact Or.inl rfl | exact Or.inr rfl) (C8.pe_c (ok_have_frame T) hr (by decide) rfl (pa_cons (pv 0) pa_nil)))
      (pss_cons (ps_fld (pv 0) (pe_op op_add (pe_fld (pv 0) rfl) pe_int) rfl)
      (pss_cons (ps_dput (hu_of hr) (pe_fld (pv 0) rfl) (pe_fld (pv 0) rfl) pe_int rfl)
      (pss_cons (ps_expr (C8.pe_mt (ok_Frames_fill T) hr (by decide) (pe_fld (pv 0) rfl) (pa_cons (pv 2) (pa_cons (pe_tup (pa_cons pe_str (pa_cons (pe_fld (pv 0) rfl) pa_nil))) (pa_cons (pv 1) pa_nil)))))
      (pss_one (ps_ret (pe_tup (pa_cons (pe_fld (pv 0) rfl) (pa_cons (pv 2) pa_nil)))))))))), ?_⟩
    refine ⟨_, rfl, p, k, S, O, rfl, hs, hD, fun H1 s1 => ?_⟩
    refine ⟨rfl, _, rfl, ?_⟩
    have cap := I.cap
    have n1 := I.n1
    by_cases hroom : S.hs.length + 1 = S.ts.length + S.ss.length
    · refine iteTe (decide_eq_true (congrArg V.int (by omega))) ?_
      exact q1 hroom H1 s1
    refine iteFe (decide_eq_false fun z => hroom (by injection z; omega)) ?_
    have hs1 := hs.kp s1 (fun _ _ z => z)
    refine ⟨_, rfl, p, k, none, S, O, rfl, hs1, s1.dm, I, fun i H2 S2 s2 h2 I2 M2 e2 => ?_⟩
    obtain ⟨dx, fr, di, sh, fi, ho, x2⟩ := h2
    -- store.my_newest = store.my_newest + 1
    refine ⟨_, rfl, p, _, dx, _, _, rfl, x2.ob, T.c_Store, T.n_Store_my_newest, stFs_nw .., _, _, rfl, rfl, _, rfl, p, _, dx, _, rfl, x2.ob, T.c_Store, T.n_Store_my_newest, (by show 6 < 1000; decide), ?_⟩
    rw [stFs_put]
    have s3 : Stp (· = 8 * k + 4) O H2 O (upd H2 p (.ins (He.ga K "Store") dx (stFs fr di sh fi ho (S2.nw + 1)))) := Stp.write s2.dm x2.op rfl
    have x3 : StX K k O (upd H2 p (.ins (He.ga K "Store") dx (stFs fr di sh fi ho (S2.nw + 1)))) p dx fr di sh fi ho { S2 with hs := S2.hs, nw := S2.nw + 1 } := x2.setH s3 (by rw [upd_ne x2.ne.symm]; exact x2.hh) upd_same
    obtain ⟨H3, hH3⟩ : ∃ H3, H3 = upd H2 p (.ins (He.ga K "Store") dx (stFs fr di sh fi ho (S2.nw + 1))) := ⟨_, rfl⟩
    rw [← hH3] at s3 x3
    show tSeq _ _ _ _ (upd H2 p (.ins (He.ga K "Store") dx (stFs fr di sh fi ho (S2.nw + 1))))
    rw [← hH3]
    -- store.my_holders[store.my_newest] = 1
    have kl : (hK S2.hs).length < sizeLine := by rw [hK_len, M2.hs]; exact Nat.lt_of_le_of_lt hl (by decide)
    refine ⟨_, rfl, p, _, dx, _, _, rfl, x3.ob, T.c_Store, T.n_Store_my_holders, stFs_ho .., _, rfl, p, _, dx, _, _, rfl, x3.ob, T.c_Store, T.n_Store_my_newest, stFs_nw .., ho, _, rfl, DPut.k (k := Sum.inl (S2.nw + 1)) x3.hh kl, ?_⟩
    obtain ⟨J, hnew⟩ := I2.newSheet (by rw [M2.hs, M2.tl, M2.sl]; omega)
    show tSeq _ _ _ _ (upd H3 ho (.dK (putK (hK S2.hs) (Sum.inl (S2.nw + 1)) (.int 1))))
    rw [hK_put, pt_new hnew]
    have s4 : Stp (· = 8 * k + 4) O H3 O (upd H3 ho (.dK (hK (S2.hs ++ [(S2.nw + 1, 1)])))) := Stp.write s3.dm x3.oh rfl
    have x4 : StX K k O (upd H3 ho (.dK (hK (S2.hs ++ [(S2.nw + 1, 1)])))) p dx fr di sh fi ho { S2 with hs := S2.hs ++ [(S2.nw + 1, 1)], nw := S2.nw + 1 } := x3.setH s4 upd_same (by rw [upd_ne x3.ne]; exact x3.ob)
    generalize (upd H3 ho (.dK (hK (S2.hs ++ [(S2.nw + 1, 1)])))) = H4 at s4 x4 ⊢
    -- store.frames.fill(frame, ('own', store.my_newest), row)
    obtain ⟨fdx, tl, rl, sl, tvs, rv, f⟩ := x4.fr
    refine ⟨_, rfl, p, _, dx, _, _, rfl, x4.ob, T.c_Store, T.n_Store_frames, stFs_fr .., fr, fdx, _, rfl, f.ob, rfl, _, rfl, _, rfl, p, _, dx, _, _, rfl, x4.ob, T.c_Store, T.n_Store_my_newest, stFs_nw .., (by show 2 ≤ sizeLine; decide), fun tq nq => ?_⟩
    have s04 := ((s1.nop (P := stP k)).trans s2).trans ((s3.mono (stP4 (k := k))).trans (s4.mono stP4))
    have s5 : Stp Nop O H4 O (upd H4 tq (.tup [.str "own", .int (S2.nw + 1)])) := Stp.alloc s4.dm nq
    have t5 : ThV O (upd H4 tq (.tup [.str "own", .int (S2.nw + 1)])) (.ref tq) (.own (S2.nw + 1)) := ⟨tq, rfl, upd_same, s4.dm.none nq, trivial⟩
    generalize (upd H4 tq (.tup [.str "own", .int (S2.nw + 1)])) = H5 at s5 t5 ⊢
    have x5 := x4.kp s5 (fun _ _ z => z)
    have s05 := s04.trans s5.nop
    have b5 : H5 b = some (.lst (row.map V.int)) := s05.kp b _ hb hbr
    have bO5 : O b ≠ some (8 * k) := fun z => hbr _ z (stP0 _ rfl)
    refine ⟨_, rfl, fr, b, S2.ts, S2.rs, S2.so, i, _, .own (S2.nw + 1), row, _, O, rfl, x5.fr, s5.dm, g_lt e2, t5, b5, bO5, fun H6 s6 f6 => ?_⟩
    have x6 := x5.setFr s6 f6 (List.length_set ..)
    obtain ⟨I6, has6, oth6⟩ := J.fillOwn (i := i) (row := row) e2
    refine ⟨_, rfl, p, _, dx, _, _, rfl, x6.ob, T.c_Store, T.n_Store_my_newest, stFs_nw .., _, rfl, (by show 2 ≤ sizeLine; decide), fun r nr => ?_⟩
    have s7 : Stp Nop O H6 O (upd H6 r (.tup [.int (S2.nw + 1), .int i])) := Stp.alloc s6.dm nr
    have x7 := x6.kp s7 (fun _ _ z => z)
    have en := M2.nw
    have eh := M2.hs
    rw [en] at hnew I6 has6 oth6 x7 s7 ⊢
    rw [eh] at hnew I6 has6 oth6 x7
    exact q2 (by omega) i r _ _ ((s05.trans (s6.mono stP0)).trans s7.nop) ⟨dx, fr, di, sh, fi, ho, x7⟩ I6 rfl rfl ((List.length_set ..).trans M2.tl) M2.sl M2.fk (gs_eq (g_lt e2)) has6 (fun t row' ht hh => oth6 t row' ht (M2.has t row' hh)) hnew upd_same (s6.dm.none nr)
end
end Pw


set_option Elab.async false
set_option linter.all false
set_option maxRecDepth 100000
set_option maxHeartbeats 4000000
namespace Pw
open PySem PySem.Spec PyProof.Rows L2
/-! ### the law's small helpers -/
def Alk (H : Hp) : Nat → V → V → Prop
  | 0, x, y => x = y ∧ ((∃ i, x = .int i) ∨ ∃ z, x = .str z)
  | n + 1, x, y => (x = y ∧ ((∃ i, x = .int i) ∨ ∃ z, x = .str z)) ∨ ∃ (a b : Addr) (xs ys : List V), x = .ref a ∧ y = .ref b ∧ ((H a = some (.lst xs) ∧ H b = some (.lst ys)) ∨ (H a = some (.tup xs) ∧ H b = some (.tup ys))) ∧
      xs.length = ys.length ∧ xs.length ≤ 1000 ∧ ∀ (i : Nat) x y, xs[i]? = some x → ys[i]? = some y → Alk H n x y
def spAlike (n : Nat) : Sp := fun vs H Q _ => ∃ x y, vs = [x, y] ∧ Alk H n x y ∧ Q (.bl true) H
def spWhole : Sp := fun vs H Q _ => ∃ i : Int, vs = [.int i] ∧ Q (.bl true) H
def spCellAt (K : PySem.W.Frag) : Sp := fun vs H Q _ => ∃ (a : Addr) (ns : List Int) (k : Nat), vs = [.ref a, .int k] ∧ SqL K H a (ns.map V.int) ∧ Q (.int (ns.getD k 0)) H
def spNum : Sp := fun vs H Q _ => ∃ c k : Int, vs = [.int c, .int k] ∧ -(2 ^ 62) < c ∧ c < 2 ^ 62 ∧ 0 ≤ k ∧ k < 200 ∧ ∀ z H', Same H H' → Q (.int z) H'
def spRow : Sp := fun vs H Q _ => ∃ c : Int, vs = [.int c] ∧ -(2 ^ 61) < c ∧ c < 2 ^ 61 ∧ ∀ (row : Row) D H', row.length = 4 → Same H H' → H D = none → H' D = some (.lst (row.map V.int)) → Q (.ref D) H'
def spName : Sp := fun vs H Q _ => ∃ c t : Int, vs = [.int c, .int t] ∧ 0 ≤ t ∧ t < 100 ∧ ∀ z : Str, PyData.strOk z = true → Q (.str z) H
def spLaidIn : Sp := fun vs H Q _ => ∃ (a b : Addr) (c : Nat) (row nums : List Int), vs = [.ref a, .int c, .ref b] ∧ H a = some (.lst (row.map V.int)) ∧ H b = some (.lst (nums.map V.int)) ∧ c + nums.length ≤ row.length ∧ row.length ≤ 1000 ∧
  ∀ p H', Same H H' → H p = none → H' p = some (.lst ((wc row c nums).map V.int)) → Q (.ref p) H'
def spSizes : Sp := fun vs H Q _ => ∃ c : Int, vs = [.int c] ∧ ∀ (n m : Int) q, 1 ≤ n → n ≤ 64 → 0 ≤ m → m ≤ 128 → H q = none → Q (.ref q) (upd H q (.tup [.int n, .int m]))
section
variable {P : Program} {w : World} {K : PySem.W.Frag} {mg : Str → Option Value} {base : Heap}
theorem ok_l_cell_at (T : Tx K mg) : C8.Cal P w K mg base 1 "_law_cell_at" (spCellAt K) [] := by
  refine mkCal T.fd_l_cell_at T.g__law_cell_at sc_l_cell_at (fun _ _ _ _ _ _ us hl => match us, hl with | [_, _], _ => rfl) (fun vs H Q E h => ?_) (fun cdv A outer s H vs Q E hr h => ?_)
  · obtain ⟨a, ns, k, rfl, hS, q⟩ := h
    rfl
  · obtain ⟨a, ns, k, rfl, hS, q⟩ := h
    refine ⟨_, (pss_cons (ps_if (pt_cmpR op_lt (pv 1) (pe_callB call_len_seq (by rfl) T.b_len PySem.boot_len (pa_cons (pv 0) pa_nil)) (nomark _)) (pss_one (ps_ret (pe_ix (r := rIxL K) ix_list (pv 0) (pv 1) (fun _ _ => rfl)))) pss_nil)
      (pss_one (ps_ret pe_int))), ?_⟩
    refine ⟨_, rfl, _, rfl, a, _, rfl, .inl hS, _, _, rfl, rfl, _, rfl, ?_⟩
    rw [List.length_map]
    by_cases hk : k < ns.length
    · refine iteTe (decide_eq_true (by omega)) ?_
      refine ⟨_, rfl, _, rfl, a, _, _, _, rfl, rfl, hS, at_of (j := k) (v := .int (ns.getD k 0)) rfl ?_, q⟩
      rw [List.getElem?_map, List.getElem?_eq_getElem hk, List.getD_eq_getElem?_getD, List.getElem?_eq_getElem hk]
      rfl
    · refine iteFe (decide_eq_false (by omega)) ?_
      have e : ns.getD k 0 = 0 := by rw [List.getD_eq_getElem?_getD, List.getElem?_eq_none (by omega)]; rfl
      rw [e] at q
      exact q
theorem ok_l_whole (T : Tx K mg) : C8.Cal P w K mg base 1 "_law_whole" spWhole [] := by
  refine mkCal T.fd_l_whole T.g__law_whole sc_l_whole (fun _ _ _ _ _ _ us hl => match us, hl with | [_], _ => rfl) (fun vs H Q E h => ?_) (fun cdv A outer s H vs Q E hr h => ?_)
  · obtain ⟨i, rfl, q⟩ := h
    rfl
  · obtain ⟨i, rfl, q⟩ := h
    refine ⟨_, (pss_one (ps_ret (pe_and (pe_callB call_isi (by rfl) T.b_isinstance (by decide +kernel) (pa_cons (pv 0) (pa_cons (pe_bltn (v := .ty "int") (by rfl) T.b_int (by decide +kernel) rfl) pa_nil))) (pe_one (pe_not (pe_callB call_isi (by rfl) T.b_isinstance (by decide +kernel) (pa_cons (pv 0) (pa_cons (pe_bltn (v := .ty "bool") (by rfl) T.b_bool (by decide +kernel) rfl) pa_nil)))))))), ?_⟩
    exact ⟨_, rfl, .int i, .ty "int", .type "int", .type "int", true, rfl, .ty _, .base (.int i), kit_ty (by decide +kernel), _, rfl, iteT ⟨_, rfl, .int i, .ty "bool", .type "int", .type "bool", false, rfl, .ty _, .base (.int i), kit_ty (by decide +kernel), _, rfl, q⟩⟩
theorem ok_l_sizes (T : Tx K mg) : C8.Cal P w K mg base 1 "_law_sizes" spSizes [] := by
  refine mkCal T.fd_l_sizes T.g__law_sizes sc_l_sizes (fun _ _ _ _ _ _ us hl => match us, hl with | [_], _ => rfl) (fun vs H Q E h => ?_) (fun cdv A outer s H vs Q E hr h => ?_)
  · obtain ⟨c, rfl, q⟩ := h
    rfl
  · obtain ⟨c, rfl, q⟩ := h
    refine ⟨_, (pss_cons (ps_if (pt_cmpR op_eq (pe_op op_mod (pv 0) pe_int) pe_int (nomark _)) (pss_one (ps_ret (pe_tup (pa_cons (pe_op op_add pe_int (pe_op op_mod (pe_op op_fdiv (pv 0) pe_int) pe_int)) (pa_cons (pe_op op_mod (pe_op op_fdiv (pv 0) pe_int) pe_int) pa_nil))))) pss_nil)
      (pss_cons (ps_if (pt_cmpR op_eq (pe_op op_mod (pv 0) pe_int) pe_int (nomark _)) (pss_one (ps_ret (pe_tup (pa_cons (pe_op op_add pe_int (pe_op op_mod (pe_op op_fdiv (pv 0) pe_int) pe_int)) (pa_cons (pe_op op_mod (pe_op op_fdiv (pv 0) pe_int) pe_int) pa_nil))))) pss_nil)
      (pss_cons (ps_if (pt_cmpR op_eq (pe_op op_mod (pv 0) pe_int) pe_int (nomark _)) (pss_one (ps_ret (pe_tup (pa_cons (pe_op op_add pe_int (pe_op op_mod (pe_op op_fdiv (pv 0) pe_int) pe_int)) (pa_cons (pe_op op_mod (pe_op op_fdiv (pv 0) pe_int) pe_int) pa_nil))))) pss_nil)
      (pss_one (ps_ret (pe_tup (pa_cons (pe_op op_add pe_int (pe_op op_mod (pe_op op_fdiv (pv 0) pe_int) pe_int)) (pa_cons (pe_op op_mod (pe_op op_fdiv (pv 0) pe_int) pe_int) pa_nil)))))))), ?_⟩
    have go : ∀ (n m : Int), 1 ≤ n → n ≤ 64 → 0 ≤ m → m ≤ 128 → ([V.int n, V.int m].length ≤ sizeLine ∧ ∀ p, H p = none → Q (.ref p) (upd H p (.tup [.int n, .int m]))) := fun n m h1 h2 h3 h4 => ⟨(by show 2 ≤ sizeLine; decide), fun p hp => q n m p h1 h2 h3 h4 hp⟩
    have cd : ∀ j : Int, 0 < j → j < 1073741824 → CDiv 0 j := fun j h1 h2 => ⟨h1, h2⟩
    refine ⟨_, rfl, _, _, rfl, rfl, (by show (0 : Int) < 16; decide), rfl, _, rfl, ?_⟩
    refine ite2 (fun _ => ?_) (fun _ => ?_)
    · refine ⟨_, rfl, _, _, rfl, rfl, ⟨by decide, by decide⟩, _, _, rfl, rfl, (by show (0 : Int) < 64; decide), _, _, rfl, rfl, _, rfl, _, _, rfl, rfl, ⟨by decide, by decide⟩, _, _, rfl, rfl, (by show (0 : Int) < 20; decide), ?_⟩
      exact go _ _ (by omega) (by omega) (by omega) (by omega)
    refine ⟨_, rfl, _, _, rfl, rfl, (by show (0 : Int) < 32; decide), rfl, _, rfl, ?_⟩
    refine ite2 (fun _ => ?_) (fun _ => ?_)
    · refine ⟨_, rfl, _, _, rfl, rfl, ⟨by decide, by decide⟩, _, _, rfl, rfl, (by show (0 : Int) < 4; decide), _, _, rfl, rfl, _, rfl, _, _, rfl, rfl, ⟨by decide, by decide⟩, _, _, rfl, rfl, (by show (0 : Int) < 129; decide), ?_⟩
      exact go _ _ (by omega) (by omega) (by omega) (by omega)
    refine ⟨_, rfl, _, _, rfl, rfl, (by show (0 : Int) < 8; decide), rfl, _, rfl, ?_⟩
    refine ite2 (fun _ => ?_) (fun _ => ?_)
    · refine ⟨_, rfl, _, _, rfl, rfl, ⟨by decide, by decide⟩, _, _, rfl, rfl, (by show (0 : Int) < 9; decide), _, _, rfl, rfl, _, rfl, _, _, rfl, rfl, ⟨by decide, by decide⟩, _, _, rfl, rfl, (by show (0 : Int) < 30; decide), ?_⟩
      exact go _ _ (by omega) (by omega) (by omega) (by omega)
    · refine ⟨_, rfl, _, _, rfl, rfl, ⟨by decide, by decide⟩, _, _, rfl, rfl, (by show (0 : Int) < 5; decide), _, _, rfl, rfl, _, rfl, _, _, rfl, rfl, ⟨by decide, by decide⟩, _, _, rfl, rfl, (by show (0 : Int) < 6; decide), ?_⟩
      exact go _ _ (by omega) (by omega) (by omega) (by omega)
theorem alike_n (T : Tx K mg) : ∀ n : Nat, C8.Cal P w K mg base (n + 2) "_law_alike" (spAlike n) []
  | 0 => by
    refine mkCal (k := 1) T.fd_l_alike T.g__law_alike sc_l_alike (fun _ _ _ _ _ _ us hl => match us, hl with | [_, _], _ => rfl) (fun vs H Q E h => ?_) (fun cdv A outer s H vs Q E hr h => ?_)
    · obtain ⟨x, y, rfl, _⟩ := h
      rfl
    · obtain ⟨x, y, rfl, ha, q⟩ := h
      obtain ⟨rfl, hs⟩ := ha
      refine ⟨_, (pss_cons (ps_if (pt_cmpR op_isN (pv 1) pe_non (nomark _)) (pss_one (ps_ret (pe_cmpR op_isN (pv 0) pe_non (nomark _)))) pss_nil)
      (pss_cons (ps_if (pt_val (pe_callB call_isi (by rfl) T.b_isinstance (by decide +kernel) (pa_cons (pv 1) (pa_cons (pe_bltn (v := .ty "bool") (by rfl) T.b_bool (by decide +kernel) rfl) pa_nil)))) (pss_one (ps_ret (pe_and (pe_callB call_isi (by rfl) T.b_isinstance (by decide +kernel) (pa_cons (pv 0) (pa_cons (pe_bltn (v := .ty "bool") (by rfl) T.b_bool (by decide +kernel) rfl) pa_nil))) (pe_one (pe_cmpR op_eq (pv 0) (pv 1) (nomark _)))))) pss_nil)
      (pss_cons (ps_if (pt_val (pe_callB call_isi (by rfl) T.b_isinstance (by decide +kernel) (pa_cons (pv 1) (pa_cons (pe_bltn (v := .ty "int") (by rfl) T.b_int (by decide +kernel) rfl) pa_nil)))) (pss_one (ps_ret (pe_and (C8.pe_c (ok_l_whole T) hr (by decide) rfl (pa_cons (pv 0) pa_nil)) (pe_one (pe_cmpR op_eq (pv 0) (pv 1) (nomark _)))))) pss_nil)
      (pss_cons (ps_if (pt_val (pe_callB call_isi (by rfl) T.b_isinstance (by decide +kernel) (pa_cons (pv 1) (pa_cons (pe_bltn (v := .ty "str") (by rfl) T.b_str (by decide +kernel) rfl) pa_nil)))) (pss_one (ps_ret (pe_and (pe_callB call_isi (by rfl) T.b_isinstance (by decide +kernel) (pa_cons (pv 0) (pa_cons (pe_bltn (v := .ty "str") (by rfl) T.b_str (by decide +kernel) rfl) pa_nil))) (pe_one (pe_cmpR op_eq (pv 0) (pv 1) (nomark _)))))) pss_nil)
      pss_never)))), ?_⟩
      rcases hs with ⟨i, rfl⟩ | ⟨z, rfl⟩
      · skip
        refine ⟨_, rfl, rfl, _, rfl, iteF ?_⟩
        refine ⟨_, rfl, .int i, .ty "bool", .type "int", .type "bool", false, rfl, .ty _, .base (.int i), kit_ty (by decide +kernel), _, rfl, iteF ?_⟩
        refine ⟨_, rfl, .int i, .ty "int", .type "int", .type "int", true, rfl, .ty _, .base (.int i), kit_ty (by decide +kernel), _, rfl, iteT ?_⟩
        refine ⟨_, rfl, i, rfl, _, rfl, iteT ⟨_, rfl, _, rfl, rfl, ?_⟩⟩
        rw [decide_eq_true (rfl : V.int i = V.int i)]
        exact q
      · skip
        refine ⟨_, rfl, rfl, _, rfl, iteF ?_⟩
        refine ⟨_, rfl, .str z, .ty "bool", .type "str", .type "bool", false, rfl, .ty _, .base (.str z), kit_ty (by decide +kernel), _, rfl, iteF ?_⟩
        refine ⟨_, rfl, .str z, .ty "int", .type "str", .type "int", false, rfl, .ty _, .base (.str z), kit_ty (by decide +kernel), _, rfl, iteF ?_⟩
        refine ⟨_, rfl, .str z, .ty "str", .type "str", .type "str", true, rfl, .ty _, .base (.str z), kit_ty (by decide +kernel), _, rfl, iteT ?_⟩
        refine ⟨_, rfl, .str z, .ty "str", .type "str", .type "str", true, rfl, .ty _, .base (.str z), kit_ty (by decide +kernel), _, rfl, iteT ⟨_, rfl, _, rfl, rfl, ?_⟩⟩
        rw [decide_eq_true (rfl : V.str z = V.str z)]
        exact q
  | n + 1 => by
    have ih := alike_n T n
    refine mkCal (k := n + 2) T.fd_l_alike T.g__law_alike sc_l_alike (fun _ _ _ _ _ _ us hl => match us, hl with | [_, _], _ => rfl) (fun vs H Q E h => ?_) (fun cdv A outer s H vs Q E hr h => ?_)
    · obtain ⟨x, y, rfl, _⟩ := h
      rfl
    · obtain ⟨x, y, rfl, ha, q⟩ := h
      refine ⟨_, (pss_cons (ps_if (pt_cmpR op_isN (pv 1) pe_non (nomark _)) (pss_one (ps_ret (pe_cmpR op_isN (pv 0) pe_non (nomark _)))) pss_nil)
      (pss_cons (ps_if (pt_val (pe_callB call_isi (by rfl) T.b_isinstance (by decide +kernel) (pa_cons (pv 1) (pa_cons (pe_bltn (v := .ty "bool") (by rfl) T.b_bool (by decide +kernel) rfl) pa_nil)))) (pss_one (ps_ret (pe_and (pe_callB call_isi (by rfl) T.b_isinstance (by decide +kernel) (pa_cons (pv 0) (pa_cons (pe_bltn (v := .ty "bool") (by rfl) T.b_bool (by decide +kernel) rfl) pa_nil))) (pe_one (pe_cmpR op_eq (pv 0) (pv 1) (nomark _)))))) pss_nil)
      (pss_cons (ps_if (pt_val (pe_callB call_isi (by rfl) T.b_isinstance (by decide +kernel) (pa_cons (pv 1) (pa_cons (pe_bltn (v := .ty "int") (by rfl) T.b_int (by decide +kernel) rfl) pa_nil)))) (pss_one (ps_ret (pe_and (C8.pe_c (ok_l_whole T) hr (by omega) rfl (pa_cons (pv 0) pa_nil)) (pe_one (pe_cmpR op_eq (pv 0) (pv 1) (nomark _)))))) pss_nil)
      (pss_cons (ps_if (pt_val (pe_callB call_isi (by rfl) T.b_isinstance (by decide +kernel) (pa_cons (pv 1) (pa_cons (pe_bltn (v := .ty "str") (by rfl) T.b_str (by decide +kernel) rfl) pa_nil)))) (pss_one (ps_ret (pe_and (pe_callB call_isi (by rfl) T.b_isinstance (by decide +kernel) (pa_cons (pv 0) (pa_cons (pe_bltn (v := .ty "str") (by rfl) T.b_str (by decide +kernel) rfl) pa_nil))) (pe_one (pe_cmpR op_eq (pv 0) (pv 1) (nomark _)))))) pss_nil)
      (pss_cons (ps_if (pt_val (pe_callB call_isi (by rfl) T.b_isinstance (by decide +kernel) (pa_cons (pv 1) (pa_cons (pe_bltn (v := .ty "tuple") (by rfl) T.b_tuple (by decide +kernel) rfl) pa_nil)))) (pss_one (ps_if (pt_not (pt_val (pe_callB call_isi (by rfl) T.b_isinstance (by decide +kernel) (pa_cons (pv 0) (pa_cons (pe_bltn (v := .ty "tuple") (by rfl) T.b_tuple (by decide +kernel) rfl) pa_nil))))) (pss_one (ps_ret pe_bl)) pss_nil)) (pss_one (ps_if (pt_not (pt_val (pe_callB call_isi (by rfl) T.b_isinstance (by decide +kernel) (pa_cons (pv 0) (pa_cons (pe_bltn (v := .ty "list") (by rfl) T.b_list (by decide +kernel) rfl) pa_nil))))) (pss_one (ps_ret pe_bl)) pss_nil)))
      (pss_cons (ps_if (pt_cmpR op_ne (pe_callB call_len_seq (by rfl) T.b_len PySem.boot_len (pa_cons (pv 0) pa_nil)) (pe_callB call_len_seq (by rfl) T.b_len PySem.boot_len (pa_cons (pv 1) pa_nil)) (nomark _)) (pss_one (ps_ret pe_bl)) pss_nil)
      (pss_cons (ps_for PassesOwn.never rfl (pi_range1 (by rfl) T.b_range (pa_cons (pe_callB call_len_seq (by rfl) T.b_len PySem.boot_len (pa_cons (pv 1) pa_nil)) pa_nil)) (pg_name (i := 2) sc_l_alike.nd rfl (by first | exact Or.inl rfl | exact Or.inr rfl)) (pss_one (ps_if (pt_not (pt_val (C8.pe_c ih hr (Nat.le_refl _) rfl (pa_cons (pe_ix (r := rIx K) ix_seq (pv 0) (pv 2) (fun _ _ => rfl)) (pa_cons (pe_ix (r := rIx K) ix_seq (pv 1) (pv 2) (fun _ _ => rfl)) pa_nil))))) (pss_one (ps_ret pe_bl)) pss_nil)))
      (pss_one (ps_ret pe_bl))))))))), ?_⟩
      rcases ha with ⟨rfl, hs⟩ | ⟨a, b, xs, ys, rfl, rfl, hab, hl, hbig, hal⟩
      · rcases hs with ⟨i, rfl⟩ | ⟨z, rfl⟩
        · skip
          refine ⟨_, rfl, rfl, _, rfl, iteF ?_⟩
          refine ⟨_, rfl, .int i, .ty "bool", .type "int", .type "bool", false, rfl, .ty _, .base (.int i), kit_ty (by decide +kernel), _, rfl, iteF ?_⟩
          refine ⟨_, rfl, .int i, .ty "int", .type "int", .type "int", true, rfl, .ty _, .base (.int i), kit_ty (by decide +kernel), _, rfl, iteT ?_⟩
          refine ⟨_, rfl, i, rfl, _, rfl, iteT ⟨_, rfl, _, rfl, rfl, ?_⟩⟩
          rw [decide_eq_true (rfl : V.int i = V.int i)]
          exact q
        · skip
          refine ⟨_, rfl, rfl, _, rfl, iteF ?_⟩
          refine ⟨_, rfl, .str z, .ty "bool", .type "str", .type "bool", false, rfl, .ty _, .base (.str z), kit_ty (by decide +kernel), _, rfl, iteF ?_⟩
          refine ⟨_, rfl, .str z, .ty "int", .type "str", .type "int", false, rfl, .ty _, .base (.str z), kit_ty (by decide +kernel), _, rfl, iteF ?_⟩
          refine ⟨_, rfl, .str z, .ty "str", .type "str", .type "str", true, rfl, .ty _, .base (.str z), kit_ty (by decide +kernel), _, rfl, iteT ?_⟩
          refine ⟨_, rfl, .str z, .ty "str", .type "str", .type "str", true, rfl, .ty _, .base (.str z), kit_ty (by decide +kernel), _, rfl, iteT ⟨_, rfl, _, rfl, rfl, ?_⟩⟩
          rw [decide_eq_true (rfl : V.str z = V.str z)]
          exact q
      · rcases hab with ⟨ha, hb⟩ | ⟨ha, hb⟩
        · skip
          refine ⟨_, rfl, rfl, _, rfl, iteF ?_⟩
          refine ⟨_, rfl, .ref b, .ty "bool", .type "list", .type "bool", false, rfl, .ty _, .base (.lst hb), kit_ty (by decide +kernel), _, rfl, iteF ?_⟩
          refine ⟨_, rfl, .ref b, .ty "int", .type "list", .type "int", false, rfl, .ty _, .base (.lst hb), kit_ty (by decide +kernel), _, rfl, iteF ?_⟩
          refine ⟨_, rfl, .ref b, .ty "str", .type "list", .type "str", false, rfl, .ty _, .base (.lst hb), kit_ty (by decide +kernel), _, rfl, iteF ?_⟩
          refine ⟨_, rfl, .ref b, .ty "tuple", .type "list", .type "tuple", false, rfl, .ty _, .base (.lst hb), kit_ty (by decide +kernel), _, rfl, iteF ?_⟩
          refine ⟨_, rfl, .ref a, .ty "list", .type "list", .type "list", true, rfl, .ty _, .base (.lst ha), kit_ty (by decide +kernel), _, rfl, iteF ?_⟩
          refine ⟨_, rfl, a, _, rfl, .inl (SqL.of ha), _, rfl, b, _, rfl, .inl (SqL.of hb), rfl, _, rfl, ?_⟩
          refine iteFe (by rw [hl]; simp) ?_
          refine ⟨_, rfl, b, _, rfl, .inl (SqL.of hb), _, rfl, by omega, by omega, ?_⟩
          refine for_range (fun i σ H' => σ[0]? = some (some (.ref a)) ∧ σ[1]? = some (some (.ref b)) ∧ σ.length = 3 ∧ H' = H) ⟨rfl, rfl, rfl, rfl⟩ (fun i σ H' hi hx => ?_) (fun σ H' hx => ?_)
          · obtain ⟨e0, e1, el, eh⟩ := hx
            subst eh
            have hi : i < ys.length := by simpa using hi
            obtain ⟨c0, c1, c2, rfl⟩ : ∃ a b c, σ = [a, b, c] := by
              match σ, el with
              | [a, b, c], _ => exact ⟨a, b, c, rfl⟩
            have hxi : xs[i]? = some xs[i] := List.getElem?_eq_getElem (by omega)
            have hyi : ys[i]? = some ys[i] := List.getElem?_eq_getElem hi
            refine ⟨_, e0, _, rfl, .inl ⟨a, xs, _, _, rfl, rfl, SqL.of ha, at_of (Int.zero_add _) hxi, _, e1, _, rfl, .inl ⟨b, ys, _, _, rfl, rfl, SqL.of hb, at_of (Int.zero_add _) hyi, ?_⟩⟩⟩
            exact ⟨_, _, rfl, hal i _ _ hxi hyi, _, rfl, iteF ⟨e0, e1, rfl, rfl⟩⟩
          · obtain ⟨e0, e1, el, eh⟩ := hx
            subst eh
            exact q
        · skip
          refine ⟨_, rfl, rfl, _, rfl, iteF ?_⟩
          refine ⟨_, rfl, .ref b, .ty "bool", .type "tuple", .type "bool", false, rfl, .ty _, .base (.tup hb), kit_ty (by decide +kernel), _, rfl, iteF ?_⟩
          refine ⟨_, rfl, .ref b, .ty "int", .type "tuple", .type "int", false, rfl, .ty _, .base (.tup hb), kit_ty (by decide +kernel), _, rfl, iteF ?_⟩
          refine ⟨_, rfl, .ref b, .ty "str", .type "tuple", .type "str", false, rfl, .ty _, .base (.tup hb), kit_ty (by decide +kernel), _, rfl, iteF ?_⟩
          refine ⟨_, rfl, .ref b, .ty "tuple", .type "tuple", .type "tuple", true, rfl, .ty _, .base (.tup hb), kit_ty (by decide +kernel), _, rfl, iteT ?_⟩
          refine ⟨_, rfl, .ref a, .ty "tuple", .type "tuple", .type "tuple", true, rfl, .ty _, .base (.tup ha), kit_ty (by decide +kernel), _, rfl, iteF ?_⟩
          refine ⟨_, rfl, a, _, rfl, .inr (SqT.of ha), _, rfl, b, _, rfl, .inr (SqT.of hb), rfl, _, rfl, ?_⟩
          refine iteFe (by rw [hl]; simp) ?_
          refine ⟨_, rfl, b, _, rfl, .inr (SqT.of hb), _, rfl, by omega, by omega, ?_⟩
          refine for_range (fun i σ H' => σ[0]? = some (some (.ref a)) ∧ σ[1]? = some (some (.ref b)) ∧ σ.length = 3 ∧ H' = H) ⟨rfl, rfl, rfl, rfl⟩ (fun i σ H' hi hx => ?_) (fun σ H' hx => ?_)
          · obtain ⟨e0, e1, el, eh⟩ := hx
            subst eh
            have hi : i < ys.length := by simpa using hi
            obtain ⟨c0, c1, c2, rfl⟩ : ∃ a b c, σ = [a, b, c] := by
              match σ, el with
              | [a, b, c], _ => exact ⟨a, b, c, rfl⟩
            have hxi : xs[i]? = some xs[i] := List.getElem?_eq_getElem (by omega)
            have hyi : ys[i]? = some ys[i] := List.getElem?_eq_getElem hi
            refine ⟨_, e0, _, rfl, .inr (.inl ⟨a, xs, _, _, rfl, rfl, SqT.of ha, at_of (Int.zero_add _) hxi, _, e1, _, rfl, .inr (.inl ⟨b, ys, _, _, rfl, rfl, SqT.of hb, at_of (Int.zero_add _) hyi, ?_⟩)⟩)⟩
            exact ⟨_, _, rfl, hal i _ _ hxi hyi, _, rfl, iteF ⟨e0, e1, rfl, rfl⟩⟩
          · obtain ⟨e0, e1, el, eh⟩ := hx
            subst eh
            exact q
theorem ok_l_alike (T : Tx K mg) : C8.Cal P w K mg base 4 "_law_alike" (spAlike 2) [] := alike_n T 2
end
end Pw


set_option Elab.async false
set_option linter.all false
set_option maxRecDepth 100000
set_option maxHeartbeats 4000000
namespace Pw
open PySem PySem.Spec PyProof.Rows L2
theorem wc_step {row nums : List Int} {c i : Nat} {z : Int} (hc : c + nums.length ≤ row.length) (hz : nums[i]? = some z) : (wc row c (nums.take i)).set (c + i) z = wc row c (nums.take (i + 1)) := by
  have il := g_lt hz
  unfold wc
  rw [List.length_take, List.length_take, Nat.min_eq_left (by omega), Nat.min_eq_left (by omega)]
  refine List.ext_getElem? fun j => ?_
  have l1 : (row.take c).length = c := by rw [List.length_take]; omega
  have l2 : (nums.take i).length = i := by rw [List.length_take]; omega
  have l3 : (nums.take (i + 1)).length = i + 1 := by rw [List.length_take]; omega
  by_cases e : j = c + i
  · subst e
    rw [List.getElem?_set_self (by simp only [List.length_append, List.length_drop, l1, l2]; omega)]
    simp only [List.getElem?_append, List.length_append, l1, l2, l3]
    rw [if_pos (by omega), if_neg (by omega), show c + i - c = i by omega, List.getElem?_take, if_pos (by omega), hz]
  · rw [List.getElem?_set_ne (Ne.symm e)]
    simp only [List.getElem?_append, List.length_append, l1, l2, l3]
    by_cases h : j < c + i
    · have h' : j < c + (i + 1) := by omega
      by_cases h2 : j < c
      · simp only [if_pos h, if_pos h', if_pos h2]
      · simp only [if_pos h, if_pos h', if_neg h2]
        rw [List.getElem?_take, List.getElem?_take, if_pos (by omega), if_pos (by omega)]
    · have h' : ¬ j < c + (i + 1) := by omega
      simp only [if_neg h, if_neg h']
      rw [List.getElem?_drop, List.getElem?_drop]
      exact congrArg (fun x => row[x]?) (by omega)
theorem wc_all (row nums : List Int) (c : Nat) : wc row c (nums.take nums.length) = wc row c nums := by rw [List.take_length]
theorem wc_none (row nums : List Int) (c : Nat) (h : c ≤ row.length) : wc row c (nums.take 0) = row := by
  unfold wc
  simp
theorem wc_len {row nums : List Int} {c : Nat} (h : c + nums.length ≤ row.length) : (wc row c nums).length = row.length := by
  unfold wc
  simp only [List.length_append, List.length_take, List.length_drop]
  omega
def letters : Str := "abcdefghijklmnopqrstuvwxyz"
theorem letters_len : letters.cps.toList.length = 26 := by decide +kernel
theorem letters_ok : letters.cps.toList.all (· < 0x110000) = true := by decide +kernel
theorem letters_size : letters.length ≤ sizeLine := by decide +kernel
theorem strOk_app {x y : Str} (hx : PyData.strOk x = true) (hy : PyData.strOk y = true) : PyData.strOk (x ++ y) = true := by
  unfold PyData.strOk at *
  rw [Str.cps_append, Array.all_append, hx, hy]
  rfl
theorem strOk_cut {x : Str} (hx : PyData.strOk x = true) (lo hi : Option Int) : PyData.strOk (cutS x lo hi) = true := by
  unfold PyData.strOk at *
  rw [Array.all_eq_true_iff_forall_mem] at hx ⊢
  intro c hc
  refine hx c ?_
  have hc : c ∈ ((x.cps.toList.drop (HT.sIx x.length 0 lo)).take (HT.sIx x.length x.length hi - HT.sIx x.length 0 lo)).toArray := hc
  rw [List.mem_toArray] at hc
  exact Array.mem_toList_iff.mp (List.mem_of_mem_drop (List.mem_of_mem_take hc))
theorem str_app_len (x y : Str) : (x ++ y).length = x.length + y.length := by
  show (x ++ y).cps.size = x.cps.size + y.cps.size
  rw [Str.cps_append, Array.size_append]
theorem int_at4 {a b c d : Int} {j : Nat} (h : j < 4) : ∃ z, [V.int a, V.int b, V.int c, V.int d][j]? = some (V.int z) := by
  match j, h with
  | 0, _ => exact ⟨_, rfl⟩
  | 1, _ => exact ⟨_, rfl⟩
  | 2, _ => exact ⟨_, rfl⟩
  | 3, _ => exact ⟨_, rfl⟩
theorem int_at6 {a b c d e f : Int} {j : Nat} (h : j < 6) : ∃ z, [V.int a, V.int b, V.int c, V.int d, V.int e, V.int f][j]? = some (V.int z) := by
  match j, h with
  | 0, _ => exact ⟨_, rfl⟩
  | 1, _ => exact ⟨_, rfl⟩
  | 2, _ => exact ⟨_, rfl⟩
  | 3, _ => exact ⟨_, rfl⟩
  | 4, _ => exact ⟨_, rfl⟩
  | 5, _ => exact ⟨_, rfl⟩
theorem nat_of {z : Int} {m : Nat} (h0 : 0 ≤ z) (h1 : z < m) : ∃ j : Nat, j < m ∧ z = (j : Int) := ⟨z.toNat, by omega, by omega⟩
section
variable {P : Program} {w : World} {K : PySem.W.Frag} {mg : Str → Option Value} {base : Heap}
theorem ok_l_laid_in (T : Tx K mg) : C8.Cal P w K mg base 1 "_law_laid_in" spLaidIn [] := by
  refine mkCal T.fd_l_laid_in T.g__law_laid_in sc_l_laid_in (fun _ _ _ _ _ _ us hl => match us, hl with | [_, _, _], _ => rfl) (fun vs H Q E h => ?_) (fun cdv A outer s H vs Q E hr h => ?_)
  · obtain ⟨a, b, c, row, nums, rfl, ha, hb, hc, hbig, q⟩ := h
    rfl
  · obtain ⟨a, b, c, row, nums, rfl, ha, hb, hc, hbig, q⟩ := h
    refine ⟨_, (pss_cons (ps_set (i := 3) sc_l_laid_in.nd rfl (by first | exact Or.inl rfl | exact Or.inr rfl) (pe_callTy (T := "list") (r := rListOf K) call_list_of (by rfl) T.b_list (by decide +kernel) (pa_cons (pv 0) pa_nil)))
      (pss_cons (ps_for PassesOwn.never rfl (pi_range1 (by rfl) T.b_range (pa_cons (pe_callB call_len_seq (by rfl) T.b_len PySem.boot_len (pa_cons (pv 2) pa_nil)) pa_nil)) (pg_name (i := 4) sc_l_laid_in.nd rfl (by first | exact Or.inl rfl | exact Or.inr rfl)) (pss_one (ps_asg (pe_ix (r := rIxL K) ix_list (pv 2) (pv 4) (fun _ _ => rfl)) (pg_sub (pv 3) (pe_op op_add (pv 1) (pv 4)) set_list))))
      (pss_one (ps_ret (pv 3))))), ?_⟩
    refine ⟨_, rfl, a, _, rfl, .inl (SqL.of ha), fun p np => ?_⟩
    have s1 : Same H (upd H p (.lst (row.map V.int))) := Same.alloc np
    have b1 : ∀ u, (upd H p u) b = some (.lst (nums.map V.int)) := fun u => by rw [upd_ne (ne_of_none hb np)]; exact hb
    refine ⟨_, rfl, b, _, rfl, .inl (SqL.of (b1 _)), _, rfl, by omega, by rw [List.length_map]; omega, ?_⟩
    refine for_range (fun i σ H' => σ[1]? = some (some (.int c)) ∧ σ[2]? = some (some (.ref b)) ∧ σ[3]? = some (some (.ref p)) ∧ σ.length = 5 ∧ H' = upd H p (.lst ((wc row c (nums.take i)).map V.int))) ⟨rfl, rfl, rfl, rfl, by rw [wc_none _ _ _ (by omega)]⟩ (fun i σ H' hi hx => ?_) (fun σ H' hx => ?_)
    · obtain ⟨e1, e2, e3, el, eh⟩ := hx
      subst eh
      have hi : i < nums.length := by simpa using hi
      obtain ⟨c0, c1, c2, c3, c4, rfl⟩ : ∃ a b c d e, σ = [a, b, c, d, e] := by
        match σ, el with
        | [a, b, c, d, e], _ => exact ⟨a, b, c, d, e, rfl⟩
      have hz : nums[i]? = some nums[i] := List.getElem?_eq_getElem hi
      have hz' : (nums.map V.int)[i]? = some (.int nums[i]) := by rw [List.getElem?_map, hz] <;> rfl
      have wl : (wc row c (nums.take i)).length = row.length := wc_len (by rw [List.length_take]; omega)
      refine ⟨_, e2, _, rfl, b, _, _, _, rfl, rfl, SqL.of (b1 _), at_of (Int.zero_add _) hz', _, e3, _, e1, _, rfl, _, _, rfl, rfl, p, _, _, c + i, rfl, rfl, upd_same, ?_, ?_⟩
      · rw [Int.zero_add, ← Int.natCast_add]
        exact ixN_ok (by rw [List.length_map, wl]; omega)
      · refine ⟨e1, e2, e3, rfl, ?_⟩
        rw [upd_upd, ← wc_step hc hz, List.map_set]
    · obtain ⟨e1, e2, e3, el, eh⟩ := hx
      subst eh
      have en : ((nums.map V.int).length : Int).toNat = nums.length := by simp
      rw [en, wc_all]
      exact ⟨_, e3, q p _ (Same.alloc np) np upd_same⟩
theorem ok_l_num (T : Tx K mg) : C8.Cal P w K mg base 1 "_law_num" spNum [] := by
  refine mkCal T.fd_l_num T.g__law_num sc_l_num (fun _ _ _ _ _ _ us hl => match us, hl with | [_, _], _ => rfl) (fun vs H Q E h => ?_) (fun cdv A outer s H vs Q E hr h => ?_)
  · obtain ⟨c, k', rfl, c0, c1, k0, k1, q⟩ := h
    rfl
  · obtain ⟨c, k', rfl, c0, c1, k0, k1, q⟩ := h
    refine ⟨_, (pss_cons (ps_set (i := 2) sc_l_num.nd rfl (by first | exact Or.inl rfl | exact Or.inr rfl) (pe_op op_sub (pe_op op_pow pe_int pe_int) pe_int))
      (pss_cons (ps_set (i := 3) sc_l_num.nd rfl (by first | exact Or.inl rfl | exact Or.inr rfl) (pe_op op_add (pe_op op_mul (pv 0) (pe_ix (r := rIxL K) ix_list (pe_lst (pa_cons pe_int (pa_cons (pe_op op_add (pe_op op_pow pe_int pe_int) pe_int) (pa_cons (pe_op op_add (pe_op op_pow pe_int pe_int) pe_int) (pa_cons (pe_op op_add (pe_op op_pow pe_int pe_int) pe_int) pa_nil))))) (pe_op op_mod (pv 1) pe_int) (fun _ _ => rfl))) (pe_op op_mul (pe_op op_mul pe_int (pv 1)) (pv 1))))
      (pss_cons (ps_set (i := 4) sc_l_num.nd rfl (by first | exact Or.inl rfl | exact Or.inr rfl) (pe_op op_mod (pe_op op_mod (pe_op op_mul (pe_op op_add (pv 0) (pe_op op_mul pe_int (pv 1))) pe_int) pe_int) pe_int))
      (pss_one (ps_ret (pe_ix (r := rIxL K) ix_list (pe_lst (pa_cons (pe_op op_mod (pv 3) pe_int) (pa_cons (pe_op op_mod (pv 3) (pe_op op_add (pv 2) pe_int)) (pa_cons (pe_un un_neg (pe_op op_mod (pv 3) (pe_op op_add (pv 2) pe_int))) (pa_cons (pe_op op_sub (pv 2) (pe_op op_mod (pv 3) pe_int)) (pa_cons (pe_op op_sub (pe_op op_mod (pv 3) pe_int) (pv 2)) (pa_cons (pe_op op_sub (pe_un un_neg pe_int) (pe_op op_mod (pv 3) pe_int)) pa_nil))))))) (pv 4) (fun _ _ => rfl))))))), ?_⟩
    refine ⟨_, _, rfl, rfl, ⟨by decide, by decide, by decide⟩, _, _, rfl, rfl, ?_⟩
    have hm : (0 : Int) < (10 ^ (60 : Int).toNat - 1) + 1 := by decide
    obtain ⟨j, jl, ej⟩ := nat_of (Int.emod_nonneg k' (by decide : (4 : Int) ≠ 0)) (show k' % 4 < ((4 : Nat) : Int) by omega)
    refine ⟨_, rfl, _, _, rfl, rfl, ⟨by decide, by decide, by decide⟩, _, _, rfl, rfl, _, _, rfl, rfl, ⟨by decide, by decide, by decide⟩, _, _, rfl, rfl, _, _, rfl, rfl, ⟨by decide, by decide, by decide⟩, _, _, rfl, rfl, (by show 4 ≤ sizeLine; decide), fun p np => ?_⟩
    obtain ⟨z, hz⟩ := int_at4 (a := 48271) (b := 10 ^ (20 : Int).toNat + 39) (c := 10 ^ (40 : Int).toNat + 121) (d := 10 ^ (59 : Int).toNat + 7) jl
    refine ⟨_, rfl, _, _, rfl, rfl, (by show (0 : Int) < 4; decide), p, _, _, _, rfl, rfl, SqL.of upd_same, at_of ej hz, _, _, rfl, rfl, .inl ⟨by omega, by omega⟩, _, rfl, _, _, rfl, rfl, .inl ⟨by decide, by decide⟩, _, rfl, _, _, rfl, rfl, .inr ⟨by omega, by omega⟩, _, _, rfl, rfl, ?_⟩
    refine ⟨_, rfl, _, rfl, _, _, rfl, rfl, .inl ⟨by decide, by decide⟩, _, _, rfl, rfl, _, _, rfl, rfl, .inr ⟨by decide, by decide⟩, _, _, rfl, rfl, (by show (0 : Int) < 15101; decide), _, _, rfl, rfl, (by show (0 : Int) < 6; decide), ?_⟩
    obtain ⟨i, il, ei⟩ := nat_of (Int.emod_nonneg ((c + 5 * k') * 69621 % 15101) (by decide : (6 : Int) ≠ 0)) (show (c + 5 * k') * 69621 % 15101 % 6 < ((6 : Nat) : Int) from Int.emod_lt_of_pos _ (by decide))
    refine ⟨_, rfl, _, _, rfl, rfl, (by show (0 : Int) < 9; decide), _, rfl, _, rfl, _, _, rfl, rfl, _, _, rfl, rfl, hm, _, rfl, _, rfl, _, _, rfl, rfl, _, _, rfl, rfl, hm, _, rfl, _, rfl, _, rfl, _, _, rfl, rfl, (by show (0 : Int) < 2; decide), _, _, rfl, rfl, _, rfl, _, _, rfl, rfl, (by show (0 : Int) < 2; decide), _, rfl, _, _, rfl, rfl, _, rfl, _, rfl, _, _, rfl, rfl, (by show (0 : Int) < 7; decide), _, _, rfl, rfl, (by show 6 ≤ sizeLine; decide), fun p2 np2 => ?_⟩
    obtain ⟨z2, hz2⟩ := int_at6 (a := (c * z + 7919 * k' * k') % 9) (b := (c * z + 7919 * k' * k') % ((10 ^ (60 : Int).toNat - 1) + 1)) (c := -((c * z + 7919 * k' * k') % ((10 ^ (60 : Int).toNat - 1) + 1))) (d := (10 ^ (60 : Int).toNat - 1) - (c * z + 7919 * k' * k') % 2) (e := (c * z + 7919 * k' * k') % 2 - (10 ^ (60 : Int).toNat - 1)) (f := -1 - (c * z + 7919 * k' * k') % 7) il
    exact ⟨_, rfl, p2, _, _, _, rfl, rfl, SqL.of upd_same, at_of ei hz2, q z2 _ ((Same.alloc np).trans (Same.alloc np2))⟩
theorem ok_l_row (T : Tx K mg) : C8.Cal P w K mg base 2 "_law_row" spRow [] := by
  refine mkCal T.fd_l_row T.g__law_row sc_l_row (fun _ _ _ _ _ _ us hl => match us, hl with | [_], _ => rfl) (fun vs H Q E h => ?_) (fun cdv A outer s H vs Q E hr h => ?_)
  · obtain ⟨c, rfl, c0, c1, q⟩ := h
    rfl
  · obtain ⟨c, rfl, c0, c1, q⟩ := h
    refine ⟨_, (pss_one (ps_ret (pe_lc (own := [("_law_k", 1)]) (g := gName 1) (tt := tYes) rfl sc_l_row.nd (pi_range1 (by rfl) T.b_range (pa_cons pe_int pa_nil)) (blkOk_by (own := [("_law_k", 1)]) (N := ["_law_cell", "_law_k"]) (sc := defScope s_l_row) (by decide +kernel)) (fun _ _ _ _ _ => pg_name (i := 1) sc_l_row.nd rfl (Or.inl rfl)) (fun _ _ _ _ _ => pts_nil) (fun _ _ _ _ _ => (C8.pe_c (ok_l_num T) hr (by decide) rfl (pa_cons (pe_op op_add (pv 0) (pe_op op_mul pe_int (pv 1))) (pa_cons (pv 1) pa_nil))))))), ?_⟩
    refine ⟨4, rfl, by decide, by decide, fun D nD => lc_range (fun i H' => Same H H' ∧ ∃ row : Row, row.length = i ∧ H' D = some (.lst (row.map V.int))) ⟨Same.alloc nD, [], rfl, upd_same⟩ (fun i H' hi hx => ?_) (fun H' hx => ?_)⟩
    · obtain ⟨s', row, e1, e2⟩ := hx
      have hi : i < 4 := hi
      refine ⟨rfl, _, rfl, _, rfl, _, _, rfl, rfl, .inl ⟨by decide, by decide⟩, _, _, rfl, rfl, _, rfl, _, _, rfl, by omega, by omega, by omega, by omega, fun z H2 s2 => ?_⟩
      refine ⟨_, s2 _ _ e2, by rw [List.length_map, e1]; exact Nat.lt_of_lt_of_le hi (by decide), fun b o e => ?_, row ++ [z], by simp [e1], by rw [upd_same, List.map_append]; rfl⟩
      rw [upd_ne (ne_of_none e nD)]
      exact s2 _ _ (s' b o e)
    · obtain ⟨s', row, e1, e2⟩ := hx
      exact q row D H' e1 s' nD e2
theorem ok_l_name (T : Tx K mg) : C8.Cal P w K mg base 1 "_law_name" spName [] := by
  refine mkCal T.fd_l_name T.g__law_name sc_l_name (fun _ _ _ _ _ _ us hl => match us, hl with | [_, _], _ => rfl) (fun vs H Q E h => ?_) (fun cdv A outer s H vs Q E hr h => ?_)
  · obtain ⟨c, t, rfl, t0, t1, q⟩ := h
    rfl
  · obtain ⟨c, t, rfl, t0, t1, q⟩ := h
    refine ⟨_, (pss_cons (ps_set (i := 2) sc_l_name.nd rfl (by first | exact Or.inl rfl | exact Or.inr rfl) pe_str)
      (pss_cons (ps_set (i := 3) sc_l_name.nd rfl (by first | exact Or.inl rfl | exact Or.inr rfl) (pe_op op_add pe_int (pe_op op_mod (pv 0) pe_int)))
      (pss_cons (ps_set (i := 4) sc_l_name.nd rfl (by first | exact Or.inl rfl | exact Or.inr rfl) (pe_op op_mod (pe_op op_fdiv (pv 0) pe_int) (pv 3)))
      (pss_cons (ps_set (i := 5) sc_l_name.nd rfl (by first | exact Or.inl rfl | exact Or.inr rfl) pe_str)
      (pss_cons (ps_for PassesOwn.never rfl (pi_range1 (by rfl) T.b_range (pa_cons pe_int pa_nil)) (pg_name (i := 6) sc_l_name.nd rfl (by first | exact Or.inl rfl | exact Or.inr rfl)) (pss_cons (ps_set (i := 7) sc_l_name.nd rfl (by first | exact Or.inl rfl | exact Or.inr rfl) (pe_op op_mod (pe_op op_mod (pe_op op_mul (pe_op op_add (pe_op op_add (pe_op op_fdiv (pv 0) pe_int) (pe_op op_mul (pe_op op_mul pe_int (pv 6)) (pv 6))) (pv 6)) pe_int) pe_int) pe_int))
      (pss_cons (ps_if (PW.pt (pw_and (pt_cmpR op_eq (pv 6) (pv 4) (nomark _)) (pw_and1 (pt_cmpR op_ne (pe_op op_mod (pe_op op_fdiv (pv 0) pe_int) pe_int) pe_int (nomark _))))) (pss_one (ps_set (i := 7) sc_l_name.nd rfl (by first | exact Or.inl rfl | exact Or.inr rfl) (pe_op op_mod (pe_op op_add (pv 7) (pv 1)) pe_int))) pss_nil)
      (pss_one (ps_set (i := 5) sc_l_name.nd rfl (by first | exact Or.inl rfl | exact Or.inr rfl) (pe_op op_add_str (pv 5) (pe_ix ix_str (pv 2) (pv 7) (fun _ _ => rfl))))))))
      (pss_cons (ps_if (pt_cmpR op_eq (pe_op op_mod (pe_op op_fdiv (pv 0) pe_int) pe_int) pe_int (nomark _)) (pss_one (ps_ret (pe_slice sl_str (pv 5) po_none (po_some (pe_op op_add pe_int (pe_op op_mod (pe_op op_add (pv 0) (pv 1)) pe_int)))))) pss_nil)
      (pss_one (ps_ret (pe_slice sl_str (pv 5) po_none (po_some (pv 3))))))))))), ?_⟩
    have p8 : (0 : Int) < 8 := by decide
    have sz : 1 + c % 8 > 0 ∧ 1 + c % 8 < 1073741824 := by omega
    refine ⟨_, rfl, _, _, rfl, rfl, p8, _, _, rfl, rfl, ?_⟩
    refine ⟨_, rfl, _, _, rfl, rfl, ⟨by decide, by decide⟩, _, rfl, _, _, rfl, rfl, sz.1, ?_⟩
    refine ⟨8, rfl, by decide, by decide, ?_⟩
    refine for_range (fun i σ H' => σ[0]? = some (some (.int c)) ∧ σ[1]? = some (some (.int t)) ∧ σ[2]? = some (some (.str letters)) ∧ σ[3]? = some (some (.int (1 + c % 8))) ∧ σ[4]? = some (some (.int (c / 8 % (1 + c % 8)))) ∧ σ.length = 8 ∧ H' = H ∧ ∃ z : Str, σ[5]? = some (some (.str z)) ∧ z.length = i ∧ PyData.strOk z = true)
      ⟨rfl, rfl, rfl, rfl, rfl, rfl, rfl, Str.empty, rfl, rfl, by decide +kernel⟩ (fun i σ H' hi hx => ?_) (fun σ H' hx => ?_)
    · obtain ⟨e0, e1, e2, e3, e4, el, eh, z, e5, zl, zok⟩ := hx
      subst eh
      have hi : i < 8 := hi
      obtain ⟨a0, a1, a2, a3, a4, a5, a6, a7, rfl⟩ : ∃ a b c d e f g h, σ = [a, b, c, d, e, f, g, h] := by
        match σ, el with
        | [a, b, c, d, e, f, g, h], _ => exact ⟨a, b, c, d, e, f, g, h, rfl⟩
      have letter : ∀ sg : Int, 0 ≤ sg → sg < 26 → ∃ cc : Nat, atI letters.cps.toList sg = some cc ∧ cc < 0x110000 := fun sg h0 h1 => by
        obtain ⟨j, jl, rfl⟩ := nat_of (m := 26) h0 (by omega)
        have jl' : j < letters.cps.toList.length := by rw [letters_len]; exact jl
        have hc : letters.cps.toList[j]? = some letters.cps.toList[j] := List.getElem?_eq_getElem jl'
        refine ⟨_, atI_nat hc, ?_⟩
        have := List.all_eq_true.mp letters_ok _ (List.mem_of_getElem? hc)
        simpa using this
      have hlen : z.length + 1 ≤ sizeLine := by
        rw [zl]
        exact Nat.le_trans (by omega : i + 1 ≤ 8) (by decide)
      have one : ∀ {cc : Nat}, cc < 0x110000 → PyData.strOk ⟨#[cc]⟩ = true := fun {cc} h => by
        unfold PyData.strOk
        simp [h]
      have m26 : ∀ x : Int, 0 ≤ x % 26 ∧ x % 26 < 26 := fun x => by omega
      refine ⟨_, e0, _, _, rfl, rfl, ⟨by decide, by decide⟩, _, rfl, _, _, rfl, rfl, .inl ⟨by decide, by decide⟩, _, rfl, _, _, rfl, rfl, .inr ⟨by omega, by omega⟩, _, _, rfl, rfl, _, rfl, _, _, rfl, rfl, _, _, rfl, rfl, .inr ⟨by decide, by decide⟩, _, _, rfl, rfl, (by show (0 : Int) < 7919; decide), _, _, rfl, rfl, (by show (0 : Int) < 26; decide), ?_⟩
      refine ⟨_, rfl, _, e4, rfl, _, rfl, ?_⟩
      refine ite2 (fun _ => ?_) (fun _ => ?_)
      · refine ⟨_, e0, _, _, rfl, rfl, ⟨by decide, by decide⟩, _, _, rfl, rfl, (by show (0 : Int) < 3; decide), rfl, _, rfl, ?_⟩
        refine ite2 (fun _ => ?_) (fun _ => ?_)
        · refine ⟨_, rfl, _, e1, _, _, rfl, rfl, _, _, rfl, rfl, (by show (0 : Int) < 26; decide), ?_⟩
          obtain ⟨cc, hat, hok⟩ := letter _ (m26 _).1 (m26 _).2
          refine ⟨_, e5, _, e2, _, rfl, letters, _, cc, rfl, rfl, letters_size, hat, z, ⟨#[cc]⟩, rfl, rfl, hlen, ?_⟩
          exact ⟨e0, e1, e2, e3, e4, rfl, rfl, _, rfl, (by rw [str_app_len, zl]; rfl), strOk_app zok (one hok)⟩
        · skip
          obtain ⟨cc, hat, hok⟩ := letter _ (m26 _).1 (m26 _).2
          refine ⟨_, e5, _, e2, _, rfl, letters, _, cc, rfl, rfl, letters_size, hat, z, ⟨#[cc]⟩, rfl, rfl, hlen, ?_⟩
          exact ⟨e0, e1, e2, e3, e4, rfl, rfl, _, rfl, (by rw [str_app_len, zl]; rfl), strOk_app zok (one hok)⟩
      · refine iteF ?_
        obtain ⟨cc, hat, hok⟩ := letter _ (m26 _).1 (m26 _).2
        refine ⟨_, e5, _, e2, _, rfl, letters, _, cc, rfl, rfl, letters_size, hat, z, ⟨#[cc]⟩, rfl, rfl, hlen, ?_⟩
        exact ⟨e0, e1, e2, e3, e4, rfl, rfl, _, rfl, (by rw [str_app_len, zl]; rfl), strOk_app zok (one hok)⟩
    · obtain ⟨e0, e1, e2, e3, e4, el, eh, z, e5, zl, zok⟩ := hx
      subst eh
      have zs : z.length ≤ sizeLine := by rw [zl]; decide
      refine ⟨_, e0, _, _, rfl, rfl, ⟨by decide, by decide⟩, _, _, rfl, rfl, (by show (0 : Int) < 3; decide), rfl, _, rfl, ?_⟩
      refine ite2 (fun _ => ?_) (fun _ => ?_)
      · exact ⟨_, e5, _, e0, _, e1, _, _, rfl, rfl, _, _, rfl, rfl, (by show (0 : Int) < 8; decide), _, _, rfl, rfl, _, rfl, z, rfl, zs, q _ (strOk_cut zok _ _)⟩
      · exact ⟨_, e5, _, e3, _, rfl, z, rfl, zs, q _ (strOk_cut zok _ _)⟩
end
end Pw


set_option Elab.async false
set_option linter.all false
set_option maxRecDepth 100000
set_option maxHeartbeats 4000000
namespace Pw
open PySem L2
/-! ### a store and the plain dicts beside it -/
structure Wd where
  S : Sto
  lr : List (Thing × Row)
  lh : List (Int × Int)
  lf : List (Str × Int)
def living (lh : List (Int × Int)) : List (Int × Int) := lh.filter fun p => decide (0 < p.2)
structure WI (m : Nat) (W : Wd) : Prop where
  si : SI none W.S
  has : ∀ t row, lk W.lr t = some row → Has W.S t row ∧ row.length = 4 ∧ t.ok
  own : ∀ s, lk W.S.hs s ≠ none → lk W.lr (.own s) ≠ none
  fil : ∀ n rows (p : Int), lk W.S.fs n = some rows → 0 ≤ p → p < (rows.length : Int) → lk W.lr (.file n p) ≠ none
  ko : ∀ s, lk W.lr (.own s) ≠ none → lk W.S.hs s ≠ none
  kf : ∀ n (p : Int), lk W.lr (.file n p) ≠ none → ∃ rows, lk W.S.fs n = some rows ∧ 0 ≤ p ∧ p < (rows.length : Int)
  hh : W.S.hs = living W.lh
  lhk : ∀ (i : Nat) p, W.lh[i]? = some p → p.1 = (i : Int) + 1 ∧ 0 ≤ p.2
  nw : W.S.nw = W.lh.length
  ff : W.lf = W.S.fs.map (fun q => (q.1, (q.2.length : Int)))
  rn : (W.lr.map (·.1)).Nodup
  b1 : W.lh.length ≤ m
  b2 : W.lr.length ≤ 65 * m
  b3 : W.S.fs.length ≤ m
  fl : ∀ n rows, lk W.S.fs n = some rows → 1 ≤ rows.length ∧ rows.length ≤ 64
theorem lk_idx {κ β : Type} [DecidableEq κ] {xs : List (κ × β)} {k : κ} {b : β} (h : lk xs k = some b) : ∃ i : Nat, xs[i]? = some (k, b) := by
  obtain ⟨i, hi, e⟩ := List.getElem_of_mem (lk_mem h)
  exact ⟨i, by rw [List.getElem?_eq_getElem hi, e]⟩
theorem lk_at {κ β : Type} [DecidableEq κ] {xs : List (κ × β)} {k : κ} {b : β} {i : Nat} (hn : (xs.map (·.1)).Nodup) (h : xs[i]? = some (k, b)) : lk xs k = some b := lk_of_mem hn (List.mem_of_getElem? h)
/-- keys 1, 2, 3 .. -/
theorem keys_nodup : ∀ {l : List (Int × Int)} {c : Int}, (∀ (i : Nat) p, l[i]? = some p → p.1 = (i : Int) + c) → (l.map (·.1)).Nodup
  | [], _, _ => List.nodup_nil
  | p :: r, c, h => by
    have ih : (r.map (·.1)).Nodup := keys_nodup (l := r) (c := c + 1) fun i q hq => by
      have := h (i + 1) q (by simpa using hq)
      rw [this]
      omega
    show (p.1 :: r.map (·.1)).Nodup
    refine List.nodup_cons.mpr ⟨fun m => ?_, ih⟩
    obtain ⟨q, hq, e⟩ := List.mem_map.mp m
    obtain ⟨i, hi, eq⟩ := List.getElem_of_mem hq
    have h1 := h 0 p rfl
    have h2 := h (i + 1) q (by rw [List.getElem?_cons_succ, List.getElem?_eq_getElem hi, eq])
    rw [h1, h2] at e
    omega
theorem WI.lhn {m : Nat} {W : Wd} (I : WI m W) : (W.lh.map (·.1)).Nodup := keys_nodup (c := 1) fun i p h => (I.lhk i p h).1
theorem lk_living {lh : List (Int × Int)} (hn : (lh.map (·.1)).Nodup) {s c : Int} : lk (living lh) s = some c ↔ lk lh s = some c ∧ 0 < c := by
  have hn' : ((living lh).map (·.1)).Nodup := hn.sublist (List.Sublist.map _ List.filter_sublist)
  constructor
  · intro h
    have m := List.mem_filter.mp (lk_mem h)
    exact ⟨lk_of_mem hn m.1, of_decide_eq_true m.2⟩
  · rintro ⟨h1, h2⟩
    exact lk_of_mem hn' (List.mem_filter.mpr ⟨lk_mem h1, decide_eq_true h2⟩)
theorem living_keys {lh : List (Int × Int)} {s : Int} (h : lk (living lh) s ≠ none) : lk lh s ≠ none := by
  rw [Ne, lk_none, Classical.not_not] at h ⊢
  obtain ⟨q, hq, e⟩ := List.mem_map.mp h
  exact List.mem_map.mpr ⟨q, (List.mem_filter.mp hq).1, e⟩
/-- a count above nought is changed to one above nought -/
theorem living_pt {lh : List (Int × Int)} {s c c' : Int} (hn : (lh.map (·.1)).Nodup) (h : lk lh s = some c) (hc : 0 < c) (hc' : 0 < c') : living (pt lh s c') = pt (living lh) s c' := by
  have h1 : lk (living lh) s = some c := (lk_living hn).mpr ⟨h, hc⟩
  unfold pt
  rw [h, h1]
  simp only [Option.isSome_some, if_true]
  unfold living
  clear h1
  induction lh with
  | nil => rfl
  | cons p r ih =>
    have hn : (p.1 :: r.map (·.1)).Nodup := hn
    obtain ⟨n1, n2⟩ := List.nodup_cons.mp hn
    rw [List.map_cons]
    by_cases e : p.1 = s
    · have hp : p.2 = c := by
        unfold lk at h
        rw [if_pos e] at h
        exact Option.some.inj h
      have key : ∀ l : List (Int × Int), ¬ p.1 ∈ l.map (·.1) → l.map (fun q => if q.1 = s then (q.1, c') else q) = l := fun l hl => by
        induction l with
        | nil => rfl
        | cons q t ih2 =>
          rw [List.map_cons, if_neg (fun z => hl (List.mem_map.mpr ⟨q, List.mem_cons_self .., z.trans e.symm⟩)), ih2 fun m => hl (List.mem_cons_of_mem _ m)]
      have n1' : ¬ p.1 ∈ (r.filter fun p => decide (0 < p.2)).map (·.1) := fun m => n1 (by
        obtain ⟨q, hq, e⟩ := List.mem_map.mp m
        exact List.mem_map.mpr ⟨q, (List.mem_filter.mp hq).1, e⟩)
      rw [key r n1, if_pos e, List.filter_cons_of_pos (by simp [hc']), List.filter_cons_of_pos (by simp [hp, hc]), List.map_cons, if_pos e, key _ n1']
    · rw [if_neg e]
      have h' : lk r s = some c := by
        unfold lk at h
        rw [if_neg e] at h
        exact h
      by_cases hp : 0 < p.2
      · rw [List.filter_cons_of_pos (by simp [hp]), List.filter_cons_of_pos (by simp [hp]), List.map_cons, if_neg e, ih n2 h']
      · rw [List.filter_cons_of_neg (by simp [hp]), List.filter_cons_of_neg (by simp [hp]), ih n2 h']
/-- .. to nought -/
theorem living_zero {lh : List (Int × Int)} {s c : Int} (hn : (lh.map (·.1)).Nodup) (h : lk lh s = some c) : living (pt lh s 0) = dl (living lh) s := by
  unfold pt
  rw [h]
  simp only [Option.isSome_some, if_true]
  clear h hn
  unfold living dl
  induction lh with
  | nil => rfl
  | cons p r ih =>
    rw [List.map_cons]
    by_cases e : p.1 = s
    · rw [if_pos e, List.filter_cons_of_neg (by simp)]
      by_cases hp : 0 < p.2
      · rw [List.filter_cons_of_pos (a := p) (by simp [hp]), List.filter_cons_of_neg (by simp [e]), ih]
      · rw [List.filter_cons_of_neg (a := p) (by simp [hp]), ih]
    · rw [if_neg e]
      by_cases hp : 0 < p.2
      · rw [List.filter_cons_of_pos (by simp [hp]), List.filter_cons_of_pos (by simp [hp]), List.filter_cons_of_pos (by simp [e]), ih]
      · rw [List.filter_cons_of_neg (by simp [hp]), List.filter_cons_of_neg (by simp [hp]), ih]
theorem pt_len {κ β : Type} [DecidableEq κ] {xs : List (κ × β)} {k : κ} {b : β} (h : lk xs k ≠ none) : (pt xs k b).length = xs.length := by
  have := congrArg List.length (pt_keys (b := b) h)
  simpa using this
theorem pt_at {xs : List (Int × Int)} {k c : Int} (h : lk xs k ≠ none) (hc : 0 ≤ c) (hx : ∀ (i : Nat) p, xs[i]? = some p → p.1 = (i : Int) + 1 ∧ 0 ≤ p.2) : ∀ (i : Nat) p, (pt xs k c)[i]? = some p → p.1 = (i : Int) + 1 ∧ 0 ≤ p.2 := by
  unfold pt
  rw [if_pos (by cases e : lk xs k with
    | none => exact absurd e h
    | some _ => rfl)]
  intro i p hp
  rw [List.getElem?_map] at hp
  obtain ⟨q, hq, rfl⟩ := Option.map_eq_some_iff.mp hp
  obtain ⟨h1, h2⟩ := hx i q hq
  split
  · exact ⟨h1, hc⟩
  · exact ⟨h1, h2⟩
section
variable {m : Nat} {W : Wd}
theorem WI.mono (I : WI m W) {m' : Nat} (h : m ≤ m') : WI m' W := { I with b1 := Nat.le_trans I.b1 h, b2 := Nat.le_trans I.b2 (by omega), b3 := Nat.le_trans I.b3 h }
theorem fk_lk {fs fs' : Fls} (h : fs'.map (fun q => (q.1, q.2.length)) = fs.map (fun q => (q.1, q.2.length))) (n : Str) : (lk fs' n).map List.length = (lk fs n).map List.length := by
  induction fs generalizing fs' with
  | nil =>
    have : fs' = [] := by simpa using h
    rw [this]
  | cons q r ih =>
    match fs', h with
    | [], h => simp at h
    | q' :: r', h =>
      simp only [List.map_cons, List.cons.injEq, Prod.mk.injEq] at h
      obtain ⟨⟨h1, h2⟩, h3⟩ := h
      unfold lk
      by_cases e : q.1 = n
      · rw [if_pos e, if_pos (h1.trans e)]
        simp [h2]
      · rw [if_neg e, if_neg (fun z => e (h1.symm.trans z))]
        exact ih h3
theorem fk_some {fs fs' : Fls} (h : fs'.map (fun q => (q.1, q.2.length)) = fs.map (fun q => (q.1, q.2.length))) {n : Str} {rows : List Row} (e : lk fs' n = some rows) : ∃ rows', lk fs n = some rows' ∧ rows'.length = rows.length := by
  have := fk_lk h n
  rw [e] at this
  obtain ⟨r, h1, h2⟩ := Option.map_eq_some_iff.mp this.symm
  exact ⟨r, h1, h2⟩
/-- things only moved -/
theorem WI.mv (I : WI m W) {S' : Sto} (J : SI none S') (M : Mv W.S S') : WI m { W with S := S' } := by
  refine ⟨J, fun t row h => ⟨M.has t row (I.has t row h).1, (I.has t row h).2⟩, ?_, ?_, ?_, ?_, ?_, I.lhk, ?_, ?_, I.rn, I.b1, I.b2, ?_, ?_⟩
  · show ∀ s, lk S'.hs s ≠ none → _
    rw [M.hs]; exact I.own
  · intro n rows p h h0 h1
    obtain ⟨rows', e1, e2⟩ := fk_some M.fk h
    exact I.fil n rows' p e1 h0 (by omega)
  · show ∀ s, _ → lk S'.hs s ≠ none
    rw [M.hs]; exact I.ko
  · intro n p h
    obtain ⟨rows, e1, e2, e3⟩ := I.kf n p h
    obtain ⟨rows', e4, e5⟩ := fk_some M.fk.symm e1
    exact ⟨rows', e4, e2, by omega⟩
  · show S'.hs = _
    rw [M.hs]; exact I.hh
  · show S'.nw = _
    rw [M.nw]; exact I.nw
  · show W.lf = _
    rw [I.ff]
    have := congrArg (List.map fun q : Str × Nat => (q.1, (q.2 : Int))) M.fk
    rw [List.map_map, List.map_map] at this
    exact this.symm
  · have := congrArg List.length M.fk
    rw [List.length_map, List.length_map] at this
    show S'.fs.length ≤ m
    rw [this]; exact I.b3
  · intro n rows h
    obtain ⟨rows', e1, e2⟩ := fk_some M.fk h
    rw [← e2]
    exact I.fl n rows' e1
/-- numbers laid into a thing's frame, and into its row in the plain dict -/
theorem WI.putRow (I : WI m W) {i : Nat} {t : Thing} {row row' : Row} (hi : W.S.ts[i]? = some (some t)) (hl : lk W.lr t = some row) (h4 : row'.length = 4) : WI m { W with S := W.S.put i row', lr := pt W.lr t row' } := by
  obtain ⟨J, h1, h2⟩ := I.si.putRow (row := row') hi
  have hne : lk W.lr t ≠ none := by rw [hl]; exact fun z => nomatch z
  have hk : ∀ u, lk (pt W.lr t row') u ≠ none ↔ lk W.lr u ≠ none := fun u => by
    rw [Ne, Ne, lk_none, lk_none, pt_keys hne]
  refine ⟨J, fun u r h => ?_, fun s h => (hk _).mpr (I.own s h), fun n rows p h h0 h1 => (hk _).mpr (I.fil n rows p h h0 h1), fun s h => I.ko s ((hk _).mp h), fun n p h => I.kf n p ((hk _).mp h), I.hh, I.lhk, I.nw, I.ff, ?_, I.b1, ?_, I.b3, I.fl⟩
  · have h : lk (pt W.lr t row') u = some r := h
    rw [lk_pt] at h
    by_cases e : u = t
    · rw [if_pos e] at h
      cases h
      subst e
      exact ⟨h1, h4, (I.has _ _ hl).2.2⟩
    · rw [if_neg e] at h
      obtain ⟨a, b, c⟩ := I.has u r h
      exact ⟨h2 u r e a, b, c⟩
  · show ((pt W.lr t row').map (·.1)).Nodup
    rw [pt_keys hne]; exact I.rn
  · show (pt W.lr t row').length ≤ _
    rw [pt_len hne]; exact I.b2
/-- a new sheet -/
theorem WI.newSheet (I : WI m W) {S' : Sto} {row : Row} (J : SI none S') (h4 : row.length = 4) (e1 : S'.hs = W.S.hs ++ [(W.S.nw + 1, 1)]) (e2 : S'.nw = W.S.nw + 1) (e5 : S'.fs.map (fun q => (q.1, q.2.length)) = W.S.fs.map (fun q => (q.1, q.2.length)))
    (h1 : Has S' (.own (W.S.nw + 1)) row) (h2 : ∀ t row', t ≠ .own (W.S.nw + 1) → Has W.S t row' → Has S' t row') (hn : lk W.S.hs (W.S.nw + 1) = none) :
    WI (m + 1) ⟨S', W.lr ++ [(.own (W.S.nw + 1), row)], W.lh ++ [(W.S.nw + 1, 1)], W.lf⟩ ∧ lk W.lr (.own (W.S.nw + 1)) = none ∧ lk W.lh (W.S.nw + 1) = none := by
  have hr0 : lk W.lr (.own (W.S.nw + 1)) = none := by
    cases e : lk W.lr (.own (W.S.nw + 1)) with
    | none => rfl
    | some r => exact absurd hn (I.ko _ (by rw [e]; exact fun z => nomatch z))
  have hh0 : lk W.lh (W.S.nw + 1) = none := by
    rw [lk_none]
    intro hm
    obtain ⟨q, hq, e⟩ := List.mem_map.mp hm
    obtain ⟨i, hi, eq⟩ := List.getElem_of_mem hq
    have := (I.lhk i q (by rw [List.getElem?_eq_getElem hi, eq])).1
    rw [e, I.nw] at this
    omega
  have hk : ∀ u, lk (W.lr ++ [(Thing.own (W.S.nw + 1), row)]) u = if u = .own (W.S.nw + 1) then some row else lk W.lr u := fun u => by
    rw [lk_app]
    show (lk W.lr u).or (if Thing.own (W.S.nw + 1) = u then some row else none) = _
    by_cases e : u = .own (W.S.nw + 1)
    · subst e; rw [hr0]; simp
    · rw [if_neg (Ne.symm e), if_neg e]; simp
  have hs' : ∀ s, lk S'.hs s ≠ none ↔ (lk W.S.hs s ≠ none ∨ s = W.S.nw + 1) := fun s => by
    rw [e1, lk_app]
    show (lk W.S.hs s).or (if W.S.nw + 1 = s then some 1 else none) ≠ none ↔ _
    cases e : lk W.S.hs s with
    | some _ => simp
    | none =>
      by_cases es : s = W.S.nw + 1
      · subst es; simp
      · rw [if_neg (Ne.symm es)]; simp [es]
  refine ⟨⟨J, fun u r h => ?_, fun s h => ?_, fun n rows p h h0 h1 => ?_, fun s h => ?_, fun n p h => ?_, ?_, fun i p h => ?_, ?_, ?_, nodup_snoc I.rn hr0, ?_, ?_, ?_, fun n rows h => ?_⟩, hr0, hh0⟩
  · have h : lk (W.lr ++ [(Thing.own (W.S.nw + 1), row)]) u = some r := h
    rw [hk] at h
    by_cases e : u = .own (W.S.nw + 1)
    · rw [if_pos e] at h
      cases h
      subst e
      exact ⟨h1, h4, trivial⟩
    · rw [if_neg e] at h
      obtain ⟨a, b, c⟩ := I.has u r h
      exact ⟨h2 u r e a, b, c⟩
  · show lk (W.lr ++ [(Thing.own (W.S.nw + 1), row)]) (.own s) ≠ none
    rw [hk]
    rcases (hs' s).mp h with h | h
    · split
      · exact fun z => nomatch z
      · exact I.own s h
    · rw [if_pos (by rw [h])]
      exact fun z => nomatch z
  · show lk (W.lr ++ [(Thing.own (W.S.nw + 1), row)]) (.file n p) ≠ none
    rw [hk, if_neg (fun z => nomatch z)]
    obtain ⟨rows', f1, f2⟩ := fk_some e5 h
    exact I.fil n rows' p f1 h0 (by omega)
  · have h : lk (W.lr ++ [(Thing.own (W.S.nw + 1), row)]) (.own s) ≠ none := h
    rw [hk] at h
    refine (hs' s).mpr ?_
    by_cases e : s = W.S.nw + 1
    · exact .inr e
    · rw [if_neg (fun z => e (Thing.own.inj z))] at h
      exact .inl (I.ko s h)
  · have h : lk (W.lr ++ [(Thing.own (W.S.nw + 1), row)]) (.file n p) ≠ none := h
    rw [hk, if_neg (fun z => nomatch z)] at h
    obtain ⟨rows, f1, f2, f3⟩ := I.kf n p h
    obtain ⟨rows', f4, f5⟩ := fk_some e5.symm f1
    exact ⟨rows', f4, f2, by omega⟩
  · show S'.hs = living (W.lh ++ [(W.S.nw + 1, 1)])
    rw [e1, I.hh]
    unfold living
    rw [List.filter_append]
    rfl
  · have h : (W.lh ++ [(W.S.nw + 1, (1 : Int))])[i]? = some p := h
    by_cases hi : i < W.lh.length
    · rw [List.getElem?_append_left hi] at h
      exact I.lhk i p h
    · rw [List.getElem?_append_right (by omega)] at h
      have hi2 : i - W.lh.length = 0 := by
        have := g_lt h
        simp at this
        omega
      rw [hi2] at h
      cases h
      refine ⟨?_, (by show (0 : Int) ≤ 1; decide)⟩
      show W.S.nw + 1 = (i : Int) + 1
      rw [I.nw]
      omega
  · show S'.nw = ((W.lh ++ [(W.S.nw + 1, (1 : Int))]).length : Int)
    rw [e2, I.nw, List.length_append]
    rfl
  · show W.lf = _
    rw [I.ff]
    have := congrArg (List.map fun q : Str × Nat => (q.1, (q.2 : Int))) e5
    rw [List.map_map, List.map_map] at this
    exact this.symm
  · have := I.b1
    show (W.lh ++ [_]).length ≤ m + 1
    rw [List.length_append]
    exact Nat.add_le_add_right this 1
  · have := I.b2
    show (W.lr ++ [_]).length ≤ 65 * (m + 1)
    rw [List.length_append]
    simp only [List.length_cons, List.length_nil]
    omega
  · have := congrArg List.length e5
    rw [List.length_map, List.length_map] at this
    have := I.b3
    show S'.fs.length ≤ m + 1
    omega
  · obtain ⟨rows', f1, f2⟩ := fk_some e5 h
    rw [← f2]
    exact I.fl n rows' f1
/-- a count changed, from above nought to above nought -/
theorem WI.count (I : WI m W) {s c c' : Int} (h : lk W.lh s = some c) (hc : 0 < c) (hc' : 0 < c') : WI m { W with S := { W.S with hs := pt W.S.hs s c' }, lh := pt W.lh s c' } := by
  have hne : lk W.lh s ≠ none := by rw [h]; exact fun z => nomatch z
  have hs1 : lk W.S.hs s = some c := by rw [I.hh]; exact (lk_living I.lhn).mpr ⟨h, hc⟩
  have hsn : lk W.S.hs s ≠ none := by rw [hs1]; exact fun z => nomatch z
  have hk : ∀ x, lk (pt W.S.hs s c') x ≠ none ↔ lk W.S.hs x ≠ none := fun x => by
    rw [Ne, Ne, lk_none, lk_none, pt_keys hsn]
  refine ⟨I.si.setH (pt_keys hsn), I.has, fun x h => I.own x ((hk x).mp h), I.fil, fun x h => (hk x).mpr (I.ko x h), I.kf, ?_, pt_at hne (by omega) I.lhk, ?_, I.ff, I.rn, ?_, I.b2, I.b3, I.fl⟩
  · show pt W.S.hs s c' = living (pt W.lh s c')
    rw [living_pt I.lhn h hc hc', I.hh]
  · show W.S.nw = ((pt W.lh s c').length : Int)
    rw [pt_len hne]; exact I.nw
  · show (pt W.lh s c').length ≤ m
    rw [pt_len hne]; exact I.b1
/-- a sheet's end -/
theorem WI.endSheet (I : WI m W) {S' : Sto} {s c : Int} (h : lk W.lh s = some c) (J : SI none S') (e1 : S'.hs = dl W.S.hs s) (e2 : S'.nw = W.S.nw) (e3 : S'.fs = W.S.fs) (hm : ∀ t row', t ≠ .own s → Has W.S t row' → Has S' t row') :
    WI m ⟨S', dl W.lr (.own s), pt W.lh s 0, W.lf⟩ := by
  have hne : lk W.lh s ≠ none := by rw [h]; exact fun z => nomatch z
  refine ⟨J, fun t row h => ?_, fun x h => ?_, fun n rows p h h0 h1 => ?_, fun x h => ?_, fun n p h => ?_, ?_, pt_at hne (by omega) I.lhk, ?_, ?_, dl_nodup I.rn, ?_, ?_, ?_, ?_⟩
  · have h : lk (dl W.lr (.own s)) t = some row := h
    rw [lk_dl] at h
    by_cases e : t = .own s
    · rw [if_pos e] at h; cases h
    · rw [if_neg e] at h
      obtain ⟨a, b, c⟩ := I.has t row h
      exact ⟨hm t row e a, b, c⟩
  · have h : lk S'.hs x ≠ none := h
    show lk (dl W.lr (.own s)) (.own x) ≠ none
    rw [e1, lk_dl] at h
    rw [lk_dl]
    by_cases e : x = s
    · rw [if_pos e] at h; exact absurd rfl h
    · rw [if_neg e] at h
      rw [if_neg (fun z => e (Thing.own.inj z))]
      exact I.own x h
  · have h : lk S'.fs n = some rows := h
    rw [e3] at h
    show lk (dl W.lr (.own s)) (.file n p) ≠ none
    rw [lk_dl, if_neg (fun z => nomatch z)]
    exact I.fil n rows p h h0 h1
  · have h : lk (dl W.lr (.own s)) (.own x) ≠ none := h
    show lk S'.hs x ≠ none
    rw [lk_dl] at h
    rw [e1, lk_dl]
    by_cases e : x = s
    · rw [if_pos (by rw [e])] at h; exact absurd rfl h
    · rw [if_neg (fun z => e (Thing.own.inj z))] at h
      rw [if_neg e]
      exact I.ko x h
  · have h : lk (dl W.lr (.own s)) (.file n p) ≠ none := h
    rw [lk_dl, if_neg (fun z => nomatch z)] at h
    show ∃ rows, lk S'.fs n = some rows ∧ _
    rw [e3]
    exact I.kf n p h
  · show S'.hs = living (pt W.lh s 0)
    rw [living_zero I.lhn h, e1, I.hh]
  · show S'.nw = ((pt W.lh s 0).length : Int)
    rw [pt_len hne, e2]; exact I.nw
  · show W.lf = _
    rw [e3]; exact I.ff
  · show (pt W.lh s 0).length ≤ m
    rw [pt_len hne]; exact I.b1
  · exact Nat.le_trans (List.length_filter_le ..) I.b2
  · show S'.fs.length ≤ m
    rw [e3]; exact I.b3
  · show ∀ n rows, lk S'.fs n = some rows → _
    rw [e3]; exact I.fl
/-- the first k pages of a file struck from the plain dict -/
def popN (lr : List (Thing × Row)) (n : Str) : Nat → List (Thing × Row)
  | 0 => lr
  | k + 1 => dl (popN lr n k) (.file n k)
theorem lk_popN {lr : List (Thing × Row)} {n : Str} {t : Thing} : ∀ {k : Nat}, (∀ j : Nat, j < k → t ≠ .file n j) → lk (popN lr n k) t = lk lr t
  | 0, _ => rfl
  | k + 1, h => by
    show lk (dl (popN lr n k) (.file n k)) t = _
    rw [lk_dl, if_neg (h k (Nat.lt_succ_self k))]
    exact lk_popN fun j hj => h j (by omega)
theorem lk_popN' {lr : List (Thing × Row)} {n : Str} {j : Nat} : ∀ {k : Nat}, j < k → lk (popN lr n k) (.file n j) = none
  | 0, h => absurd h (Nat.not_lt_zero _)
  | k + 1, h => by
    show lk (dl (popN lr n k) (.file n k)) _ = _
    rw [lk_dl]
    by_cases e : j = k
    · subst e; rw [if_pos rfl]
    · rw [if_neg (fun z => e (by have := (Thing.file.inj z).2; omega))]
      exact lk_popN' (by omega)
theorem popN_nodup {lr : List (Thing × Row)} {n : Str} (h : (lr.map (·.1)).Nodup) : ∀ k : Nat, ((popN lr n k).map (·.1)).Nodup
  | 0 => h
  | k + 1 => dl_nodup (popN_nodup h k)
theorem popN_len {lr : List (Thing × Row)} {n : Str} : ∀ k : Nat, (popN lr n k).length ≤ lr.length
  | 0 => Nat.le_refl _
  | k + 1 => Nat.le_trans (List.length_filter_le ..) (popN_len k)
/-- a file is forgotten -/
theorem WI.forget (I : WI m W) {S' : Sto} {n : Str} {rows : List Row} (hn : lk W.S.fs n = some rows) (J : SI none S') (hm : ∀ t row, (∀ p, t ≠ .file n p) → Has W.S t row → Has S' t row) (e1 : S'.hs = W.S.hs) (e2 : S'.nw = W.S.nw) (e3 : S'.fs = dl W.S.fs n) :
    WI m ⟨S', popN W.lr n rows.length, W.lh, dl W.lf n⟩ := by
  have nof : ∀ t, lk (popN W.lr n rows.length) t ≠ none → ∀ p, t ≠ .file n p := fun t h p e => by
    subst e
    by_cases hp : 0 ≤ p ∧ p < rows.length
    · obtain ⟨j, hj, rfl⟩ := nat_of (m := rows.length) hp.1 hp.2
      exact h (lk_popN' hj)
    · rw [lk_popN (fun j hj z => hp (by have := (Thing.file.inj z).2; omega))] at h
      obtain ⟨rows', f1, f2, f3⟩ := I.kf n p h
      rw [hn] at f1
      cases f1
      exact hp ⟨f2, f3⟩
  have sm : ∀ t, (∀ p, t ≠ .file n p) → lk (popN W.lr n rows.length) t = lk W.lr t := fun t h => lk_popN fun j _ => h j
  refine ⟨J, fun t row h => ?_, fun x h => ?_, fun n' rows' p h h0 h1 => ?_, fun x h => ?_, fun n' p h => ?_, ?_, I.lhk, ?_, ?_, popN_nodup I.rn _, I.b1, Nat.le_trans (popN_len _) I.b2, ?_, fun n' rows' h => ?_⟩
  · have h : lk (popN W.lr n rows.length) t = some row := h
    have hne := nof t (by rw [h]; exact fun z => nomatch z)
    rw [sm t hne] at h
    obtain ⟨a, b, c⟩ := I.has t row h
    exact ⟨hm t row hne a, b, c⟩
  · have h : lk S'.hs x ≠ none := h
    show lk (popN W.lr n rows.length) (.own x) ≠ none
    rw [e1] at h
    rw [sm (.own x) (fun p z => nomatch z)]
    exact I.own x h
  · have h : lk S'.fs n' = some rows' := h
    rw [e3, lk_dl] at h
    show lk (popN W.lr n rows.length) (.file n' p) ≠ none
    by_cases e : n' = n
    · rw [if_pos e] at h; cases h
    · rw [if_neg e] at h
      rw [sm _ (fun p z => e (Thing.file.inj z).1)]
      exact I.fil n' rows' p h h0 h1
  · have h : lk (popN W.lr n rows.length) (.own x) ≠ none := h
    rw [sm (.own x) (fun p z => nomatch z)] at h
    show lk S'.hs x ≠ none
    rw [e1]
    exact I.ko x h
  · have h : lk (popN W.lr n rows.length) (.file n' p) ≠ none := h
    have hne := nof _ h
    rw [sm _ hne] at h
    obtain ⟨rows', f1, f2, f3⟩ := I.kf n' p h
    refine ⟨rows', ?_, f2, f3⟩
    show lk S'.fs n' = some rows'
    rw [e3, lk_dl, if_neg (fun z => hne p (by rw [z]))]
    exact f1
  · show S'.hs = _
    rw [e1]; exact I.hh
  · show S'.nw = _
    rw [e2]; exact I.nw
  · show dl W.lf n = S'.fs.map _
    rw [e3, I.ff]
    unfold dl
    rw [List.filter_map]
    rfl
  · show S'.fs.length ≤ m
    rw [e3]
    exact Nat.le_trans (List.length_filter_le ..) I.b3
  · have h : lk S'.fs n' = some rows' := h
    rw [e3, lk_dl] at h
    by_cases e : n' = n
    · rw [if_pos e] at h; cases h
    · rw [if_neg e] at h
      exact I.fl n' rows' h
/-- the first k pages of a new file laid into the plain dict -/
def addN (lr : List (Thing × Row)) (n : Str) (rows : List Row) : Nat → List (Thing × Row)
  | 0 => lr
  | k + 1 => pt (addN lr n rows k) (.file n k) (rows.getD k [])
theorem lk_addN {lr : List (Thing × Row)} {n : Str} {rows : List Row} {t : Thing} : ∀ {k : Nat}, (∀ j : Nat, j < k → t ≠ .file n j) → lk (addN lr n rows k) t = lk lr t
  | 0, _ => rfl
  | k + 1, h => by
    show lk (pt (addN lr n rows k) (.file n k) _) t = _
    rw [lk_pt, if_neg (h k (Nat.lt_succ_self k))]
    exact lk_addN fun j hj => h j (by omega)
theorem lk_addN' {lr : List (Thing × Row)} {n : Str} {rows : List Row} {j : Nat} : ∀ {k : Nat}, j < k → lk (addN lr n rows k) (.file n j) = some (rows.getD j [])
  | 0, h => absurd h (Nat.not_lt_zero _)
  | k + 1, h => by
    show lk (pt (addN lr n rows k) (.file n k) _) _ = _
    rw [lk_pt]
    by_cases e : j = k
    · subst e; rw [if_pos rfl]
    · rw [if_neg (fun z => e (by have := (Thing.file.inj z).2; omega))]
      exact lk_addN' (by omega)
theorem pt_nodup {κ β : Type} [DecidableEq κ] {xs : List (κ × β)} {k : κ} {b : β} (h : (xs.map (·.1)).Nodup) : ((pt xs k b).map (·.1)).Nodup := by
  cases e : lk xs k with
  | none =>
    rw [pt_new e]
    exact nodup_snoc h e
  | some c =>
    rw [pt_keys (by rw [e]; exact fun z => nomatch z)]
    exact h
theorem pt_le {κ β : Type} [DecidableEq κ] {xs : List (κ × β)} {k : κ} {b : β} : (pt xs k b).length ≤ xs.length + 1 := by
  cases e : lk xs k with
  | none =>
    rw [pt_new e, List.length_append]
    exact Nat.le_refl _
  | some c =>
    rw [pt_len (by rw [e]; exact fun z => nomatch z)]
    exact Nat.le_succ _
theorem addN_nodup {lr : List (Thing × Row)} {n : Str} {rows : List Row} (h : (lr.map (·.1)).Nodup) : ∀ k : Nat, ((addN lr n rows k).map (·.1)).Nodup
  | 0 => h
  | k + 1 => pt_nodup (addN_nodup h k)
theorem addN_len {lr : List (Thing × Row)} {n : Str} {rows : List Row} : ∀ k : Nat, (addN lr n rows k).length ≤ lr.length + k
  | 0 => Nat.le_refl _
  | k + 1 => Nat.le_trans pt_le (Nat.succ_le_succ (addN_len k))
/-- a file is made -/
theorem WI.make (I : WI m W) {n : Str} {rows : List Row} (hn : lk W.S.fs n = none) (hok : PyData.strOk n = true) (h4 : ∀ row ∈ rows, row.length = 4) (hl1 : 1 ≤ rows.length) (hl : rows.length ≤ 64) :
    WI (m + 1) ⟨{ W.S with fs := W.S.fs ++ [(n, rows)] }, addN W.lr n rows rows.length, W.lh, W.lf ++ [(n, (rows.length : Int))]⟩ := by
  have hfs : ∀ n', lk (W.S.fs ++ [(n, rows)]) n' = if n' = n then some rows else lk W.S.fs n' := fun n' => by
    rw [lk_app]
    show (lk W.S.fs n').or (if n = n' then some rows else none) = _
    by_cases e : n' = n
    · subst e; rw [hn]; simp
    · rw [if_neg (Ne.symm e), if_neg e]; simp
  have noframe : ∀ (i : Nat) p, W.S.ts[i]? ≠ some (some (.file n p)) := fun i p h => by
    obtain ⟨_, r, _, h1, _⟩ := I.si.ff i n p h
    rw [hn] at h1
    cases h1
  have hno : ∀ p, lk W.lr (.file n p) = none := fun p => by
    cases e : lk W.lr (.file n p) with
    | none => rfl
    | some r =>
      obtain ⟨_, h1, _⟩ := I.kf n p (by rw [e]; exact fun z => nomatch z)
      rw [hn] at h1
      cases h1
  have J : SI none { W.S with fs := W.S.fs ++ [(n, rows)] } := by
    obtain ⟨a1, a2, a3, a4, a5, a6, a7, a8, a9, a10, a11, a12, a13, a14, a15, a16, a17⟩ := I.si
    refine ⟨a1, a2, a3, a4, a5, a6, a7, fun i m' p h => ?_, a9, a10, a11, a12, a13, a14, a15, a16, nodup_snoc a17 hn⟩
    obtain ⟨b1, r, row, b2, b3, b4⟩ := a8 i m' p h
    refine ⟨b1, r, row, ?_, b3, b4⟩
    show lk (W.S.fs ++ [(n, rows)]) m' = _
    rw [hfs, if_neg (fun z => by rw [z, hn] at b2; cases b2)]
    exact b2
  have hm : ∀ t row, Has W.S t row → Has { W.S with fs := W.S.fs ++ [(n, rows)] } t row := fun t row h => by
    rcases h with h | ⟨h1, h2⟩
    · exact .inl h
    · refine .inr ⟨h1, ?_⟩
      cases t with
      | own s => exact h2
      | file m' p =>
        obtain ⟨c0, r, c1, c2⟩ := h2
        refine ⟨c0, r, ?_, c2⟩
        show lk (W.S.fs ++ [(n, rows)]) m' = _
        rw [hfs, if_neg (fun z => by rw [z, hn] at c1; cases c1)]
        exact c1
  have sm : ∀ t, (∀ p, t ≠ .file n p) → lk (addN W.lr n rows rows.length) t = lk W.lr t := fun t h => lk_addN fun j _ => h j
  have nw_ : ∀ p row, lk (addN W.lr n rows rows.length) (.file n p) = some row → ∃ j : Nat, p = (j : Int) ∧ rows[j]? = some row := fun p row h => by
    by_cases hp : 0 ≤ p ∧ p < rows.length
    · obtain ⟨j, hj, rfl⟩ := nat_of (m := rows.length) hp.1 hp.2
      rw [lk_addN' hj] at h
      refine ⟨j, rfl, ?_⟩
      rw [List.getD_eq_getElem?_getD, List.getElem?_eq_getElem hj] at h
      rw [List.getElem?_eq_getElem hj]
      exact h
    · rw [lk_addN (fun j hj z => hp (by have := (Thing.file.inj z).2; omega)), hno] at h
      cases h
  refine ⟨J, fun t row h => ?_, fun x h => ?_, fun n' rows' p h h0 h1 => ?_, fun x h => ?_, fun n' p h => ?_, I.hh, I.lhk, I.nw, ?_, addN_nodup I.rn _, Nat.le_succ_of_le I.b1, ?_, ?_, fun n' rows' h => ?_⟩
  · have h : lk (addN W.lr n rows rows.length) t = some row := h
    by_cases e : ∃ p, t = .file n p
    · obtain ⟨p, rfl⟩ := e
      obtain ⟨j, rfl, hj⟩ := nw_ p row h
      refine ⟨.inr ⟨fun i => noframe i _, by omega, rows, by show lk (W.S.fs ++ [(n, rows)]) n = _; rw [hfs, if_pos rfl], by rw [Int.toNat_natCast]; exact hj⟩, h4 row (List.mem_of_getElem? hj), hok⟩
    · rw [sm t (fun p z => e ⟨p, z⟩)] at h
      obtain ⟨a, b, c⟩ := I.has t row h
      exact ⟨hm t row a, b, c⟩
  · show lk (addN W.lr n rows rows.length) (.own x) ≠ none
    rw [sm (.own x) (fun p z => nomatch z)]
    exact I.own x h
  · have h : lk (W.S.fs ++ [(n, rows)]) n' = some rows' := h
    show lk (addN W.lr n rows rows.length) (.file n' p) ≠ none
    rw [hfs] at h
    by_cases e : n' = n
    · rw [if_pos e] at h
      cases h
      subst e
      have h1' : p < (rows.length : Int) := h1
      obtain ⟨j, hj, rfl⟩ := nat_of (m := rows.length) h0 h1'
      rw [lk_addN' hj]
      exact fun z => nomatch z
    · rw [if_neg e] at h
      rw [sm _ (fun p z => e (Thing.file.inj z).1)]
      exact I.fil n' rows' p h h0 h1
  · have h : lk (addN W.lr n rows rows.length) (.own x) ≠ none := h
    rw [sm (.own x) (fun p z => nomatch z)] at h
    exact I.ko x h
  · have h : lk (addN W.lr n rows rows.length) (.file n' p) ≠ none := h
    show ∃ rows', lk (W.S.fs ++ [(n, rows)]) n' = some rows' ∧ _
    rw [hfs]
    by_cases e : n' = n
    · subst e
      obtain ⟨row, hrow⟩ := Option.ne_none_iff_exists'.mp h
      obtain ⟨j, rfl, hj⟩ := nw_ p row hrow
      exact ⟨rows, if_pos rfl, by omega, by have := g_lt hj; omega⟩
    · rw [sm _ (fun p z => e (Thing.file.inj z).1)] at h
      rw [if_neg e]
      exact I.kf n' p h
  · show W.lf ++ _ = (W.S.fs ++ [(n, rows)]).map _
    rw [I.ff, List.map_append]
    rfl
  · have := addN_len (lr := W.lr) (n := n) (rows := rows) rows.length
    have := I.b2
    show (addN W.lr n rows rows.length).length ≤ _
    omega
  · have := I.b3
    show (W.S.fs ++ [(n, rows)]).length ≤ m + 1
    rw [List.length_append]
    simp only [List.length_cons, List.length_nil]
    omega
  · have h : lk (W.S.fs ++ [(n, rows)]) n' = some rows' := h
    rw [hfs] at h
    by_cases e : n' = n
    · rw [if_pos e] at h
      cases h
      exact ⟨hl1, hl⟩
    · rw [if_neg e] at h
      exact I.fl n' rows' h
end
end Pw

set_option Elab.async false
set_option linter.all false
set_option maxRecDepth 100000
set_option maxHeartbeats 4000000
namespace Pw
open PySem PySem.Spec PyProof.Rows L2
def fK (lf : List (Str × Int)) : List (Key × V) := lf.map fun p => (Sum.inr p.1, V.int p.2)
theorem fK_dk (lf : List (Str × Int)) : Dk Sum.inr (fun v (c : Int) => v = .int c) (fK lf) lf := by
  unfold fK
  induction lf with
  | nil => exact .nil
  | cons p r ih => exact .cons ⟨rfl, rfl⟩ ih
theorem fK_of : ∀ {kvs : List (Key × V)} {lf : List (Str × Int)}, Dk Sum.inr (fun v (c : Int) => v = .int c) kvs lf → kvs = fK lf
  | _, _, .nil => rfl
  | _, _, .cons (a := a) (b := b) q t => by
    have ih := fK_of t
    obtain ⟨a1, a2⟩ := a
    have q1 : a1 = Sum.inr b.1 := q.1
    have q2 : a2 = .int b.2 := q.2
    subst q1 q2
    rw [ih]
    rfl
theorem fK_get {lf : List (Str × Int)} {s : Str} {c : Int} (h : lk lf s = some c) : valV (fK lf) (Sum.inr s) = some (.int c) := by
  obtain ⟨v, h1, rfl⟩ := (fK_dk lf).sm inr_inj h
  exact h1
theorem fK_none {lf : List (Str × Int)} {s : Str} (h : lk lf s = none) : valV (fK lf) (Sum.inr s) = none := (fK_dk lf).nn inr_inj h
theorem fK_put (lf : List (Str × Int)) (s : Str) (c : Int) : putK (fK lf) (Sum.inr s) (.int c) = fK (pt lf s c) := fK_of ((fK_dk lf).put inr_inj rfl)
theorem fK_drop (lf : List (Str × Int)) (s : Str) : dropK (fK lf) (Sum.inr s) = fK (dl lf s) := fK_of ((fK_dk lf).drop inr_inj)
def wP (k : Nat) : Nat → Prop := fun r => 8 * k ≤ r ∧ r < 8 * k + 8
theorem wPs {k : Nat} : ∀ r, stP k r → wP k r := fun r h => ⟨h.1, by have := h.2; omega⟩
theorem wP5 {k : Nat} : ∀ r, r = 8 * k + 5 → wP k r := fun r h => ⟨by omega, by omega⟩
theorem wP6 {k : Nat} : ∀ r, r = 8 * k + 6 → wP k r := fun r h => ⟨by omega, by omega⟩
theorem wP7 {k : Nat} : ∀ r, r = 8 * k + 7 → wP k r := fun r h => ⟨by omega, by omega⟩
theorem key_inj' (a b : Thing) (h : a.key = b.key) : a = b := Thing.key_inj h
structure WdX (K : PySem.W.Frag) (k : Nat) (O : Own) (H : Hp) (p ra ha fa : Addr) (kvs : List (List Key × V)) (W : Wd) : Prop where
  st : StAt K k O H p W.S
  ora : O ra = some (8 * k + 5)
  hra : H ra = some (.dT kvs)
  dk : Dk Thing.key (RowV O H) kvs W.lr
  oha : O ha = some (8 * k + 6)
  hha : H ha = some (.dK (hK W.lh))
  ofa : O fa = some (8 * k + 7)
  hfa : H fa = some (.dK (fK W.lf))
def WdAt (K : PySem.W.Frag) (k : Nat) (O : Own) (H : Hp) (p ra ha fa : Addr) (W : Wd) : Prop := ∃ kvs, WdX K k O H p ra ha fa kvs W
section
variable {K : PySem.W.Frag} {O O1 : Own} {H H1 : Hp} {P : Nat → Prop} {k : Nat} {p ra ha fa : Addr} {kvs kvs' : List (List Key × V)} {W : Wd} {S' : Sto} {lr' : List (Thing × Row)} {lh' : List (Int × Int)} {lf' : List (Str × Int)}
theorem WdX.kq (x : WdX K k O H p ra ha fa kvs W) (s : Kp P O H O1 H1) (n : ∀ r, wP k r → ¬ P r) : WdX K k O1 H1 p ra ha fa kvs W := by
  obtain ⟨a1, a2⟩ := s.at_role x.hra x.ora (n _ (wP5 _ rfl))
  obtain ⟨b1, b2⟩ := s.at_role x.hha x.oha (n _ (wP6 _ rfl))
  obtain ⟨c1, c2⟩ := s.at_role x.hfa x.ofa (n _ (wP7 _ rfl))
  exact ⟨x.st.kq s (fun r h => n r (wPs r h)), a2, a1, x.dk.pmono fun _ _ q => ⟨q.1, q.2.kq s⟩, b2, b1, c2, c1⟩
theorem WdX.kp (x : WdX K k O H p ra ha fa kvs W) (s : Stp P O H O1 H1) (n : ∀ r, wP k r → ¬ P r) : WdX K k O1 H1 p ra ha fa kvs W := x.kq s.kq n
theorem WdX.nop (x : WdX K k O H p ra ha fa kvs W) (s : Stp Nop O H O1 H1) : WdX K k O1 H1 p ra ha fa kvs W := x.kq s.kq fun _ _ z => z
theorem WdAt.kq (x : WdAt K k O H p ra ha fa W) (s : Kp P O H O1 H1) (n : ∀ r, wP k r → ¬ P r) : WdAt K k O1 H1 p ra ha fa W := by
  obtain ⟨kvs, x⟩ := x
  exact ⟨kvs, x.kq s n⟩
theorem WdAt.kp (x : WdAt K k O H p ra ha fa W) (s : Stp P O H O1 H1) (n : ∀ r, wP k r → ¬ P r) : WdAt K k O1 H1 p ra ha fa W := x.kq s.kq n
theorem WdX.setS (x : WdX K k O H p ra ha fa kvs W) (s : Stp (stP k) O H O1 H1) (h : StAt K k O1 H1 p S') : WdX K k O1 H1 p ra ha fa kvs { W with S := S' } := by
  obtain ⟨a1, a2⟩ := s.at_role x.hra x.ora (fun z => by have := z.2; omega)
  obtain ⟨b1, b2⟩ := s.at_role x.hha x.oha (fun z => by have := z.2; omega)
  obtain ⟨c1, c2⟩ := s.at_role x.hfa x.ofa (fun z => by have := z.2; omega)
  exact ⟨h, a2, a1, x.dk.pmono fun _ _ q => ⟨q.1, q.2.kp s⟩, b2, b1, c2, c1⟩
theorem WdX.setR (x : WdX K k O H p ra ha fa kvs W) (s : Stp (· = 8 * k + 5) O H O1 H1) (h : H1 ra = some (.dT kvs')) (d : Dk Thing.key (RowV O1 H1) kvs' lr') : WdX K k O1 H1 p ra ha fa kvs' { W with lr := lr' } := by
  obtain ⟨b1, b2⟩ := s.at_role x.hha x.oha (by omega)
  obtain ⟨c1, c2⟩ := s.at_role x.hfa x.ofa (by omega)
  exact ⟨x.st.kp s (fun r h e => by have := h.2; omega), (s.own x.hra).trans x.ora, h, d, b2, b1, c2, c1⟩
theorem WdX.setH (x : WdX K k O H p ra ha fa kvs W) (s : Stp (· = 8 * k + 6) O H O1 H1) (h : H1 ha = some (.dK (hK lh'))) : WdX K k O1 H1 p ra ha fa kvs { W with lh := lh' } := by
  obtain ⟨a1, a2⟩ := s.at_role x.hra x.ora (by omega)
  obtain ⟨c1, c2⟩ := s.at_role x.hfa x.ofa (by omega)
  exact ⟨x.st.kp s (fun r h e => by have := h.2; omega), a2, a1, x.dk.pmono fun _ _ q => ⟨q.1, q.2.kp s⟩, (s.own x.hha).trans x.oha, h, c2, c1⟩
theorem WdX.setF (x : WdX K k O H p ra ha fa kvs W) (s : Stp (· = 8 * k + 7) O H O1 H1) (h : H1 fa = some (.dK (fK lf'))) : WdX K k O1 H1 p ra ha fa kvs { W with lf := lf' } := by
  obtain ⟨a1, a2⟩ := s.at_role x.hra x.ora (by omega)
  obtain ⟨b1, b2⟩ := s.at_role x.hha x.oha (by omega)
  exact ⟨x.st.kp s (fun r h e => by have := h.2; omega), a2, a1, x.dk.pmono fun _ _ q => ⟨q.1, q.2.kp s⟩, b2, b1, (s.own x.hfa).trans x.ofa, h⟩
/-- the row of a thing in the plain dict -/
theorem WdX.get (x : WdX K k O H p ra ha fa kvs W) {t : Thing} {row : Row} {b : Addr} (e : lk W.lr t = some row) (eb : H b = some (.tup (t.key.map kV))) : ∃ a, DGet H ra (.ref b) (some (.ref a)) ∧ H a = some (.lst (row.map V.int)) ∧ O a = none := by
  obtain ⟨v, hv, a, rfl, h1, h2⟩ := x.dk.sm key_inj' e
  have q := DGet.t (k := t.key) x.hra eb
  rw [hv] at q
  exact ⟨a, q, h1, h2⟩
theorem WdX.hget (x : WdX K k O H p ra ha fa kvs W) {s c : Int} (e : lk W.lh s = some c) : DGet H ha (.int s) (some (.int c)) := by
  have := DGet.k (k := Sum.inl s) x.hha
  rw [hK_get e] at this
  exact this
/-- the things that list(rows) tells -/
theorem WdX.keys {m : Nat} (x : WdX K k O H p ra ha fa kvs W) (d : Dm O H) (I : WI m W) {bs : List Addr} (h : IsKeys H kvs bs) : bs.length = W.lr.length ∧ ∀ (j : Nat) b, bs[j]? = some b → ∃ t row, W.lr[j]? = some (t, row) ∧ ThV O H (.ref b) t ∧ lk W.lr t = some row := by
  refine ⟨h.plen.symm.trans x.dk.plen, fun j b hb => ?_⟩
  obtain ⟨kv, hkv, e⟩ := h.pget' hb
  obtain ⟨tr, htr, e1, e2⟩ := x.dk.pget hkv
  have hl := lk_at I.rn (show W.lr[j]? = some (tr.1, tr.2) from htr)
  rw [e1] at e
  exact ⟨tr.1, tr.2, htr, ⟨b, rfl, e, d.tup e, (I.has _ _ hl).2.2⟩, hl⟩
end
theorem alk_int (H : Hp) (i : Int) : Alk H 2 (.int i) (.int i) := .inl ⟨rfl, .inl ⟨i, rfl⟩⟩
theorem alk_row {H : Hp} {a b : Addr} {row : Row} (ha : H a = some (.lst (row.map V.int))) (hb : H b = some (.lst (row.map V.int))) (hl : row.length ≤ 1000) : ∀ n : Nat, Alk H (n + 1) (.ref a) (.ref b) := fun n =>
  .inr ⟨a, b, _, _, rfl, rfl, .inl ⟨ha, hb⟩, rfl, by rw [List.length_map]; exact hl, fun i x y hx hy => by
    have e : x = y := Option.some.inj (hx.symm.trans hy)
    subst e
    rw [List.getElem?_map] at hx
    obtain ⟨z, _, rfl⟩ := Option.map_eq_some_iff.mp hx
    cases n with
    | zero => exact ⟨rfl, .inl ⟨z, rfl⟩⟩
    | succ n => exact .inl ⟨rfl, .inl ⟨z, rfl⟩⟩⟩
theorem alk_thing {O : Own} {H : Hp} {v v' : V} {t : Thing} (h : ThV O H v t) (h' : ThV O H v' t) : Alk H 2 v v' := by
  obtain ⟨a, rfl, h1, _⟩ := h
  obtain ⟨b, rfl, h2, _⟩ := h'
  refine .inr ⟨a, b, _, _, rfl, rfl, .inr ⟨h1, h2⟩, rfl, ?_, fun i x y hx hy => ?_⟩
  · rw [List.length_map]
    cases t <;> simp [Thing.key]
  · have e : x = y := Option.some.inj (hx.symm.trans hy)
    subst e
    rw [List.getElem?_map] at hx
    obtain ⟨z, _, rfl⟩ := Option.map_eq_some_iff.mp hx
    cases z with
    | inl i => exact .inl ⟨rfl, .inl ⟨i, rfl⟩⟩
    | inr s => exact .inl ⟨rfl, .inr ⟨s, rfl⟩⟩
/-- what a deed leaves -/
abbrev Post (K : PySem.W.Frag) (k : Nat) (O : Own) (H : Hp) (p ra ha fa : Addr) (m : Nat) (W : Wd) (Q : VK) : Prop := ∀ O' H' W', Stp (wP k) O H O' H' → WdAt K k O' H' p ra ha fa W' → WI (m + 1) W' → W'.S.ts.length = W.S.ts.length → W'.S.ss.length = W.S.ss.length → Q (.bl true) H'
def spCounted (K : PySem.W.Frag) : Sp := fun vs H Q _ => ∃ (p ra ha fa : Addr) (k m : Nat) (W : Wd) (c : Int) (O : Own), vs = [.ref p, .ref ra, .ref ha, .int c] ∧ WdAt K k O H p ra ha fa W ∧ Dm O H ∧ WI m W ∧ m ≤ 100 ∧ 0 ≤ c ∧ Post K k O H p ra ha fa m W Q
theorem living_take {lh : List (Int × Int)} {i : Nat} {q : Int × Int} (h : lh[i]? = some q) : living (lh.take (i + 1)) = living (lh.take i) ++ (if 0 < q.2 then [q] else []) := by
  rw [List.take_succ, h]
  unfold living
  rw [List.filter_append]
  congr 1
  by_cases e : 0 < q.2
  · rw [if_pos e]
    show List.filter _ [q] = [q]
    rw [List.filter_cons_of_pos (by simp [e])]
    rfl
  · rw [if_neg e]
    show List.filter _ [q] = []
    rw [List.filter_cons_of_neg (by simp [e])]
    rfl
section
variable {P : Program} {w : World} {K : PySem.W.Frag} {mg : Str → Option Value} {base : Heap}
theorem ok_l_counted (T : Tx K mg) : C8.Cal P w K mg base 5 "_law_counted" (spCounted K) [] := by
  refine mkCal T.fd_l_counted T.g__law_counted sc_l_counted (fun _ _ _ _ _ _ us hl => match us, hl with | [_, _, _, _], _ => rfl) (fun vs H Q E h => ?_) (fun cdv A outer s H vs Q E hr h => ?_)
  · obtain ⟨p, ra, ha, fa, k, m, W, c, O, rfl, hw, hD, I, hm, hc0, q⟩ := h
    rfl
  · obtain ⟨p, ra, ha, fa, k, m, W, c, O, rfl, hw, hD, I, hm, hc0, q⟩ := h
    refine ⟨_, (pss_cons (ps_setLc (i := 4) (own := [("_law_sheet", 5)]) (g := gName 5) rfl sc_l_counted.nd rfl rfl (sw_true rfl rfl rfl (by decide +kernel)) (pi_list (pe_callTy (call_list_dK rfl) (by rfl) T.b_list (by decide +kernel) (pa_cons (pv 2) pa_nil))) (blkOk_by (own := [("_law_sheet", 5)]) (N := ["_law_store", "_law_rows", "_law_holders", "_law_cell", "_law_some", "_law_sheet"]) (sc := defScope s_l_counted) (by decide +kernel)) (fun _ _ _ _ _ => pg_name (i := 5) sc_l_counted.nd rfl (Or.inl rfl)) (fun _ _ _ _ _ => (pts_one (pt_cmpR op_gt (pe_dget (hu_of hr) (pv 2) (pv 5) (fun _ _ => rfl)) pe_int (nomark _)))) (fun _ _ _ _ _ => (pv 5)))
      (pss_cons (ps_if (pt_cmpR op_eq (pe_callB call_len_seq (by rfl) T.b_len PySem.boot_len (pa_cons (pv 4) pa_nil)) pe_int (nomark _)) (pss_one (ps_ret pe_bl)) pss_nil)
      (pss_cons (ps_set (i := 5) sc_l_counted.nd rfl (by first | exact Or.inl rfl | exact Or.inr rfl) (pe_ix (r := rIxL K) ix_list (pv 4) (pe_op op_mod (pe_op op_fdiv (pv 3) pe_int) (pe_callB call_len_seq (by rfl) T.b_len PySem.boot_len (pa_cons (pv 4) pa_nil))) (fun _ _ => rfl)))
      (pss_cons (ps_if (pt_cmpR op_lt (pe_op op_mod (pv 3) pe_int) pe_int (nomark _)) (pss_cons (ps_dput (hu_of hr) (pv 2) (pv 5) (pe_op op_add (pe_dget (hu_of hr) (pv 2) (pv 5) (fun _ _ => rfl)) pe_int) rfl)
      (pss_one (ps_ret (C8.pe_c (ok_l_alike T) hr (by decide) rfl (pa_cons (C8.pe_c (ok_hold T) hr (by decide) rfl (pa_cons (pv 0) (pa_cons (pv 5) pa_nil))) (pa_cons (pe_dget (hu_of hr) (pv 2) (pv 5) (fun _ _ => rfl)) pa_nil)))))) pss_nil)
      (pss_cons (ps_dput (hu_of hr) (pv 2) (pv 5) (pe_op op_sub (pe_dget (hu_of hr) (pv 2) (pv 5) (fun _ _ => rfl)) pe_int) rfl)
      (pss_cons (ps_if (pt_cmpR op_eq (pe_dget (hu_of hr) (pv 2) (pv 5) (fun _ _ => rfl)) pe_int (nomark _)) (pss_one (ps_expr (pe_bm PySem.F.plainAttrs_dict PySem.F.slot_dict_pop PySem.F.type_dict_pop (mt_popT1 (hu_of hr)) (pv 1) (pa_cons (pe_tup (pa_cons pe_str (pa_cons (pv 5) pa_nil))) pa_nil)))) pss_nil)
      (pss_one (ps_ret (C8.pe_c (ok_l_alike T) hr (by decide) rfl (pa_cons (C8.pe_c (ok_let_go T) hr (by decide) rfl (pa_cons (pv 0) (pa_cons (pv 5) pa_nil))) (pa_cons (pe_dget (hu_of hr) (pv 2) (pv 5) (fun _ _ => rfl)) pa_nil))))))))))), ?_⟩
    obtain ⟨kvs, x⟩ := hw
    have b1 := I.b1
    -- some = [..]
    refine ⟨_, rfl, ha, _, rfl, x.hha, fun a na => ?_⟩
    have s1 : Stp Nop O H O (upd H a (.lst ((hK W.lh).map fun kv => kV kv.1))) := Stp.alloc hD na
    have a1 : (upd H a (.lst ((hK W.lh).map fun kv => kV kv.1))) a = some (.lst ((hK W.lh).map fun kv => kV kv.1)) := upd_same
    generalize (upd H a (.lst ((hK W.lh).map fun kv => kV kv.1))) = H1 at s1 a1 ⊢
    have x1 := x.nop s1
    refine ⟨a, rfl, ⟨_, SqL.of a1⟩, fun D nD => lc_list (xs := (hK W.lh).map fun kv => kV kv.1) (fun i H' => H' = upd H1 D (.lst ((living (W.lh.take i)).map fun q => V.int q.1))) rfl (fun i H' _ e => ?_) (fun i y H' hi e => ?_) (fun H' e => ?_)⟩
    · rw [e]
      exact SqL.of (by rw [upd_ne (ne_of_none a1 nD)]; exact a1)
    · subst e
      have hi' : ∃ q0, W.lh[i]? = some q0 ∧ y = .int q0.1 := by
        unfold hK at hi
        rw [List.map_map, List.getElem?_map] at hi
        obtain ⟨q0, h1, h2⟩ := Option.map_eq_some_iff.mp hi
        exact ⟨q0, h1, h2.symm⟩
      obtain ⟨q0, hq0, rfl⟩ := hi'
      have hl : lk W.lh q0.1 = some q0.2 := lk_at I.lhn (show W.lh[i]? = some (q0.1, q0.2) from hq0)
      have x2 := x1.nop (Stp.alloc (o := .lst ((living (W.lh.take i)).map fun q => V.int q.1)) s1.dm nD)
      have ll : (living (W.lh.take i)).length ≤ 100 := Nat.le_trans (List.length_filter_le ..) (Nat.le_trans (List.length_take_le ..) (by have := g_lt hq0; omega))
      refine ⟨rfl, _, rfl, _, rfl, ha, _, rfl, x2.hget hl, _, _, rfl, rfl, _, rfl, ?_⟩
      rw [living_take hq0]
      by_cases hpos : 0 < q0.2
      · refine iteTe (decide_eq_true hpos) ?_
        refine ⟨_, rfl, _, upd_same, by rw [List.length_map]; exact Nat.lt_of_le_of_lt ll (by decide), ?_⟩
        rw [upd_upd, if_pos hpos, List.map_append]
        rfl
      · refine iteFe (decide_eq_false hpos) ?_
        rw [if_neg hpos, List.append_nil]
    subst e
    have el : ((hK W.lh).map fun kv => kV kv.1).length = W.lh.length := by rw [List.length_map, hK_len]
    rw [el, List.take_length]
    have s2 : Stp Nop O H O (upd H1 D (.lst ((living W.lh).map fun q => V.int q.1))) := s1.trans (Stp.alloc s1.dm nD)
    have D2 : (upd H1 D (.lst ((living W.lh).map fun q => V.int q.1))) D = some (.lst ((living W.lh).map fun q => V.int q.1)) := upd_same
    generalize (upd H1 D (.lst ((living W.lh).map fun q => V.int q.1))) = H2 at s2 D2 ⊢
    have x2 := x.nop s2
    -- if len(some) == 0
    refine ⟨_, rfl, D, _, rfl, .inl (SqL.of D2), rfl, _, rfl, ?_⟩
    rw [List.length_map]
    by_cases h0 : (living W.lh).length = 0
    · refine iteTe (decide_eq_true (congrArg V.int (by omega))) ?_
      exact q O H2 W s2.nop ⟨kvs, x2⟩ (I.mono (Nat.le_succ m)) rfl rfl
    refine iteFe (decide_eq_false fun z => h0 (by injection z; omega)) ?_
    -- sheet = some[..]
    have lpos : (0 : Int) < ((living W.lh).length : Int) := by omega
    obtain ⟨j, hj, ej⟩ := nat_of (Int.emod_nonneg (c / 4) (by omega : ((living W.lh).length : Int) ≠ 0)) (Int.emod_lt_of_pos (c / 4) lpos)
    obtain ⟨⟨s', c'⟩, hsc⟩ : ∃ sc, (living W.lh)[j]? = some sc := ⟨_, List.getElem?_eq_getElem hj⟩
    have hn' : ((living W.lh).map (·.1)).Nodup := I.lhn.sublist (List.Sublist.map _ List.filter_sublist)
    obtain ⟨hlc, hcpos⟩ := (lk_living I.lhn).mp (lk_at hn' hsc)
    have hj' : ((living W.lh).map fun q => V.int q.1)[j]? = some (.int s') := by rw [List.getElem?_map, hsc] <;> rfl
    refine ⟨_, rfl, _, rfl, _, _, rfl, rfl, ⟨by decide, by decide⟩, _, rfl, D, _, rfl, .inl (SqL.of D2), _, _, rfl, rfl, by rw [List.length_map]; exact lpos, D, _, _, _, rfl, rfl, SqL.of D2, at_of (by rw [List.length_map]; exact ej) hj', ?_⟩
    have hlh : W.lh.length ≤ 1000 := by omega
    have kl : (hK W.lh).length < sizeLine := by rw [hK_len]; exact Nat.lt_of_le_of_lt hlh (by decide)
    have hs1 : lk W.S.hs s' = some c' := by rw [I.hh]; exact (lk_living I.lhn).mpr ⟨hlc, hcpos⟩
    have hhl : W.S.hs.length ≤ 1000 := by
      rw [I.hh]
      exact Nat.le_trans (List.length_filter_le ..) hlh
    refine ⟨_, rfl, _, _, rfl, rfl, (by show (0 : Int) < 4; decide), _, _, rfl, rfl, _, rfl, ?_⟩
    refine ite2 (fun _ => ?_) (fun _ => ?_)
    · -- one holder more
      refine ⟨_, rfl, _, rfl, ha, _, rfl, x2.hget hlc, _, _, rfl, rfl, _, rfl, _, rfl, ha, _, rfl, DPut.k (k := Sum.inl s') x2.hha kl, ?_⟩
      rw [hK_put]
      have s3 : Stp (· = 8 * k + 6) O H2 O (upd H2 ha (.dK (hK (pt W.lh s' (c' + 1))))) := Stp.write s2.dm x2.oha rfl
      have x3 := x2.setH (lh' := pt W.lh s' (c' + 1)) s3 upd_same
      generalize (upd H2 ha (.dK (hK (pt W.lh s' (c' + 1))))) = H3 at s3 x3 ⊢
      refine ⟨_, rfl, _, rfl, p, k, W.S, s', c', O, rfl, x3.st, s3.dm, hs1, hhl, fun H4 s4 st4 => ?_⟩
      have x4 := x3.setS s4 st4
      have g4 := x4.hget (s := s') (c := c' + 1) (by show lk (pt W.lh s' (c' + 1)) s' = _; rw [lk_pt, if_pos rfl])
      refine ⟨_, rfl, _, rfl, ha, _, rfl, g4, ?_⟩
      exact ⟨_, _, rfl, alk_int _ _, q O H4 _ (s2.nop.trans ((s3.mono wP6).trans (s4.mono wPs))) ⟨kvs, x4⟩ ((I.count hlc hcpos (by omega : 0 < c' + 1)).mono (Nat.le_succ m)) rfl rfl⟩
    · -- one holder less
      refine ⟨_, rfl, _, rfl, ha, _, rfl, x2.hget hlc, _, _, rfl, rfl, _, rfl, _, rfl, ha, _, rfl, DPut.k (k := Sum.inl s') x2.hha kl, ?_⟩
      rw [hK_put]
      have s3 : Stp (· = 8 * k + 6) O H2 O (upd H2 ha (.dK (hK (pt W.lh s' (c' - 1))))) := Stp.write s2.dm x2.oha rfl
      have x3 := x2.setH (lh' := pt W.lh s' (c' - 1)) s3 upd_same
      generalize (upd H2 ha (.dK (hK (pt W.lh s' (c' - 1))))) = H3 at s3 x3 ⊢
      have l3 : lk (pt W.lh s' (c' - 1)) s' = some (c' - 1) := by rw [lk_pt, if_pos rfl]
      refine ⟨_, rfl, _, rfl, ha, _, rfl, x3.hget l3, rfl, _, rfl, ?_⟩
      by_cases hc1 : c' = 1
      · refine iteTe (decide_eq_true (by rw [hc1]; rfl)) ?_
        obtain ⟨row, hrow⟩ := Option.ne_none_iff_exists'.mp (I.own s' (by rw [hs1]; exact fun z => nomatch z))
        refine ⟨_, rfl, .inr (.inr (.inl ⟨rfl, .inr ⟨_, x3.hra⟩⟩)), _, rfl, (by show 2 ≤ sizeLine; decide), fun tq nq => ?_⟩
        have s4 : Stp Nop O H3 O (upd H3 tq (.tup [.str "own", .int s'])) := Stp.alloc s3.dm nq
        have t4 : (upd H3 tq (.tup [.str "own", .int s'])) tq = some (.tup ((Thing.own s').key.map kV)) := upd_same
        generalize (upd H3 tq (.tup [.str "own", .int s'])) = H4 at s4 t4 ⊢
        have x4 := x3.nop s4
        obtain ⟨v, hv, _⟩ := x4.dk.sm key_inj' hrow
        refine ⟨ra, kvs, (Thing.own s').key, tq, v, rfl, rfl, x4.hra, t4, hv, ?_⟩
        have s5 : Stp (· = 8 * k + 5) O H4 O (upd H4 ra (.dT (dropK kvs (Thing.own s').key))) := Stp.write s4.dm x4.ora rfl
        have x5 := x4.setR s5 upd_same (Dk.drop (x4.dk.pmono fun _ _ z => ⟨z.1, z.2.kp s5⟩) key_inj')
        generalize (upd H4 ra (.dT (dropK kvs (Thing.own s').key))) = H5 at s5 x5 ⊢
        have s05 := (s2.nop.trans (s3.mono (wP6 (k := k)))).trans (s4.nop.trans (s5.mono wP5))
        refine ⟨_, rfl, _, rfl, p, k, W.S, s', c', O, rfl, x5.st, s5.dm, I.si, hs1, hhl, fun z => absurd hc1 z, fun _ H6 S6 s6 st6 I6 e1 e2 e3 e4 e5 e6 => ?_⟩
        have x6 := x5.setS s6 st6
        have g6 := x6.hget (s := s') (c := c' - 1) l3
        refine ⟨_, rfl, _, rfl, ha, _, rfl, g6, ?_⟩
        subst hc1
        exact ⟨_, _, rfl, alk_int _ _, q O H6 _ (s05.trans (s6.mono wPs)) ⟨_, x6⟩ ((I.endSheet hlc I6 e1 e2 e5 e6).mono (Nat.le_succ m)) e3 e4⟩
      · refine iteFe (decide_eq_false fun z => hc1 (by injection z; omega)) ?_
        refine ⟨_, rfl, _, rfl, p, k, W.S, s', c', O, rfl, x3.st, s3.dm, I.si, hs1, hhl, fun _ H6 s6 st6 => ?_, fun z => absurd z hc1⟩
        have x6 := x3.setS s6 st6
        have g6 := x6.hget (s := s') (c := c' - 1) l3
        refine ⟨_, rfl, _, rfl, ha, _, rfl, g6, ?_⟩
        exact ⟨_, _, rfl, alk_int _ _, q O H6 _ ((s2.nop.trans (s3.mono wP6)).trans (s6.mono wPs)) ⟨_, x6⟩ ((I.count hlc hcpos (by omega : 0 < c' - 1)).mono (Nat.le_succ m)) rfl rfl⟩
end
end Pw


set_option Elab.async false
set_option linter.all false
set_option maxRecDepth 100000
set_option maxHeartbeats 4000000
namespace Pw
open PySem PySem.Spec PyProof.Rows L2
def spMoved (K : PySem.W.Frag) : Sp := fun vs H Q _ => ∃ (p ra ha fa : Addr) (k m : Nat) (W : Wd) (c : Int) (O : Own), vs = [.ref p, .int W.S.ts.length, .ref ra, .int c] ∧ WdAt K k O H p ra ha fa W ∧ Dm O H ∧ WI m W ∧ m ≤ 100 ∧ 0 ≤ c ∧ Post K k O H p ra ha fa m W Q
def spWritten (K : PySem.W.Frag) : Sp := fun vs H Q _ => ∃ (p ra ha fa : Addr) (k m : Nat) (W : Wd) (c : Int) (O : Own), vs = [.ref p, .int W.S.ts.length, .ref ra, .int c] ∧ WdAt K k O H p ra ha fa W ∧ Dm O H ∧ WI m W ∧ m ≤ 100 ∧ 0 ≤ c ∧ c < 2 ^ 40 ∧ Post K k O H p ra ha fa m W Q
section
variable {P : Program} {w : World} {K : PySem.W.Frag} {mg : Str → Option Value} {base : Heap}
theorem ok_l_moved (T : Tx K mg) : C8.Cal P w K mg base 6 "_law_moved" (spMoved K) [] := by
  refine mkCal T.fd_l_moved T.g__law_moved sc_l_moved (fun _ _ _ _ _ _ us hl => match us, hl with | [_, _, _, _], _ => rfl) (fun vs H Q E h => ?_) (fun cdv A outer s H vs Q E hr h => ?_)
  · obtain ⟨p, ra, ha, fa, k, m, W, c, O, rfl, hw, hD, I, hm, hc0, q⟩ := h
    rfl
  · obtain ⟨p, ra, ha, fa, k, m, W, c, O, rfl, hw, hD, I, hm, hc0, q⟩ := h
    refine ⟨_, (pss_cons (ps_if (pt_cmpR op_eq (pe_op op_mod (pv 3) pe_int) pe_int (nomark _)) (pss_cons (ps_set (i := 4) sc_l_moved.nd rfl (by first | exact Or.inl rfl | exact Or.inr rfl) (C8.pe_c (ok_have_frame T) hr (by decide) rfl (pa_cons (pv 0) pa_nil)))
      (pss_one (ps_ret (pe_and (C8.pe_c (ok_l_whole T) hr (by decide) rfl (pa_cons (pv 4) pa_nil)) (pe_and (pe_chain op_le op_lt pe_int (pv 4) (pv 1)) (pe_one (pe_cmpR op_isN (C8.pe_mt (ok_Frames_thing_in T) hr (by decide) (pe_fld (pv 0) rfl) (pa_cons (pv 4) pa_nil)) pe_non (nomark _)))))))) pss_nil)
      (pss_cons (ps_set (i := 5) sc_l_moved.nd rfl (by first | exact Or.inl rfl | exact Or.inr rfl) (C8.pe_mt0 (ok_Frames_things T) hr (by decide) (pe_fld (pv 0) rfl)))
      (pss_cons (ps_setLc (i := 6) (own := [("_law_frame", 4)]) (g := gName 4) rfl sc_l_moved.nd rfl rfl (sw_true rfl rfl rfl (by decide +kernel)) (pi_range1 (by rfl) T.b_range (pa_cons (pv 1) pa_nil)) (blkOk_by (own := [("_law_frame", 4)]) (N := ["_law_store", "_law_many", "_law_rows", "_law_cell", "_law_frame", "_law_told", "_law_held"]) (sc := defScope s_l_moved) (by decide +kernel)) (fun _ _ _ _ _ => pg_name (i := 4) sc_l_moved.nd rfl (Or.inl rfl)) (fun _ _ _ _ _ => (pts_one (pt_cmpR op_notN (pe_ix (r := rIxL K) ix_list (pv 5) (pv 4) (fun _ _ => rfl)) pe_non (nomark _)))) (fun _ _ _ _ _ => (pv 4)))
      (pss_cons (ps_if (pt_cmpR op_eq (pe_callB call_len_seq (by rfl) T.b_len PySem.boot_len (pa_cons (pv 6) pa_nil)) pe_int (nomark _)) (pss_one (ps_ret pe_bl)) pss_nil)
      (pss_cons (ps_set (i := 4) sc_l_moved.nd rfl (by first | exact Or.inl rfl | exact Or.inr rfl) (pe_ix (r := rIxL K) ix_list (pv 6) (pe_op op_mod (pe_op op_fdiv (pv 3) pe_int) (pe_callB call_len_seq (by rfl) T.b_len PySem.boot_len (pa_cons (pv 6) pa_nil))) (fun _ _ => rfl)))
      (pss_cons (ps_if (pt_cmp (pc_dnotin (hu_of hr) (pe_ix (r := rIxL K) ix_list (pv 5) (pv 4) (fun _ _ => rfl)) (pv 2)) (by rfl)) (pss_one (ps_ret pe_bl)) pss_nil)
      (pss_cons (ps_if (pt_cmpR op_eq (pe_op op_mod (pv 3) pe_int) pe_int (nomark _)) (pss_one (ps_expr (C8.pe_mt (ok_Dial_touch T) hr (by decide) (pe_fld (pv 0) rfl) (pa_cons (pv 4) pa_nil)))) (pss_one (ps_if (PW.pt (pw_or (pt_cmpR op_eq (pe_ix (r := rIxT K) ix_tup (pe_ix (r := rIxL K) ix_list (pv 5) (pv 4) (fun _ _ => rfl)) pe_int (fun _ _ => rfl)) pe_str (nomark _)) (pw_or1 (pt_not (pt_val (C8.pe_mt0 (ok_Shelf_is_full T) hr (by decide) (pe_fld (pv 0) rfl))))))) (pss_cons (ps_expr (C8.pe_c (ok_put_out T) hr (by decide) rfl (pa_cons (pv 0) (pa_cons (pv 4) pa_nil))))
      (pss_one (ps_ret (pe_cmpR op_isN (C8.pe_mt (ok_Frames_thing_in T) hr (by decide) (pe_fld (pv 0) rfl) (pa_cons (pv 4) pa_nil)) pe_non (nomark _))))) pss_nil)))
      (pss_one (ps_ret pe_bl))))))))), ?_⟩
    obtain ⟨kvs, x⟩ := hw
    refine ⟨_, rfl, _, _, rfl, rfl, (by show (0 : Int) < 3; decide), rfl, _, rfl, ?_⟩
    refine ite2 (fun _ => ?_) (fun _ => ?_)
    · -- frame = have_frame(store)
      refine ⟨_, rfl, p, k, none, W.S, O, rfl, x.st, hD, I.si, fun i H1 S1 s1 st1 I1 M1 e1 => ?_⟩
      have x1 := x.setS s1 st1
      have il := g_lt e1
      have tl := M1.tl
      obtain ⟨dx, fr, di, sh, fi, ho, y⟩ := st1
      have yf := y.fr
      obtain ⟨fdx, tl', rl, sl, tvs, rv, f⟩ := y.fr
      refine ⟨_, rfl, _, rfl, _, rfl, iteT ?_⟩
      refine ⟨_, rfl, _, _, rfl, rfl, _, rfl, ?_⟩
      refine iteTe (decide_eq_true (by omega)) ?_
      refine ⟨_, rfl, _, _, rfl, rfl, _, rfl, ?_⟩
      refine iteTe (decide_eq_true (by omega)) ?_
      refine ⟨_, rfl, p, _, dx, _, _, rfl, y.ob, T.c_Store, T.n_Store_frames, stFs_fr .., fr, fdx, _, rfl, f.ob, rfl, _, rfl, fr, S1.ts, S1.rs, S1.so, i, none, _, O, rfl, yf, e1, fun v hv => ?_⟩
      have hv : v = .non := hv
      subst hv
      refine ⟨rfl, ?_⟩
      exact q O H1 _ (s1.mono wPs) ⟨kvs, x1⟩ ((I.mv I1 M1.toMv).mono (Nat.le_succ m)) M1.tl M1.sl
    -- told = store.frames.things()
    have stx := x.st
    obtain ⟨dx, fr, di, sh, fi, ho, y⟩ := x.st
    have yf := y.fr
    have big := fr_len y.fr
    obtain ⟨fdx, tl', rl, sl, tvs, rv, f⟩ := y.fr
    refine ⟨_, rfl, p, _, dx, _, _, rfl, y.ob, T.c_Store, T.n_Store_frames, stFs_fr .., fr, fdx, _, rfl, f.ob, rfl, fr, W.S.ts, W.S.rs, W.S.so, _, O, rfl, yf, fun a tv na pt => ?_⟩
    have s1 : Stp Nop O H O (upd H a (.lst tv)) := Stp.alloc hD na
    have a1 : (upd H a (.lst tv)) a = some (.lst tv) := upd_same
    generalize (upd H a (.lst tv)) = H1 at s1 a1 ⊢
    -- held = [..]
    refine ⟨_, rfl, _, rfl, by omega, by omega, fun D nD => lc_range (fun i H' => ∃ js : List Nat, H' = upd H1 D (.lst (js.map fun j : Nat => V.int (j : Int))) ∧ js.length ≤ i ∧ ∀ j ∈ js, ∃ t, W.S.ts[j]? = some (some t)) ⟨[], rfl, Nat.le_refl _, fun j h => nomatch h⟩ (fun i H' hi hx => ?_) (fun H' hx => ?_)⟩
    · obtain ⟨js, rfl, jl, jt⟩ := hx
      have hi : i < W.S.ts.length := by simpa using hi
      obtain ⟨v, hv, rv⟩ := pt.pget' (List.getElem?_eq_getElem hi)
      have a2 : (upd H1 D (.lst (js.map fun j : Nat => V.int (j : Int)))) a = some (.lst tv) := by rw [upd_ne (ne_of_none a1 nD)]; exact a1
      refine ⟨rfl, _, rfl, _, rfl, a, _, _, _, rfl, rfl, SqL.of a2, at_of (Int.zero_add _) hv, rfl, _, rfl, ?_⟩
      cases eo : W.S.ts[i] with
      | none =>
        rw [eo] at rv
        have ev : v = .non := rv
        subst ev
        refine iteF ⟨js, rfl, Nat.le_succ_of_le jl, jt⟩
      | some t =>
        rw [eo] at rv
        obtain ⟨ta, ev, _⟩ := (show ThV O H v t from rv)
        subst ev
        refine iteTe rfl ⟨_, rfl, _, upd_same, by rw [List.length_map]; exact Nat.lt_of_le_of_lt (by omega : js.length ≤ 64) (by decide), js ++ [i], ?_, by simp; omega, fun j hj => ?_⟩
        · rw [upd_upd, List.map_append, Int.zero_add]
          rfl
        · rcases List.mem_append.mp hj with h | h
          · exact jt j h
          · have : j = i := by simpa using h
            subst this
            exact ⟨t, by rw [List.getElem?_eq_getElem hi, eo]⟩
    obtain ⟨js, rfl, jl, jt⟩ := hx
    have s2 : Stp Nop O H O (upd H1 D (.lst (js.map fun j : Nat => V.int (j : Int)))) := s1.trans (Stp.alloc s1.dm nD)
    have D2 : (upd H1 D (.lst (js.map fun j : Nat => V.int (j : Int)))) D = some (.lst (js.map fun j : Nat => V.int (j : Int))) := upd_same
    have a2 : (upd H1 D (.lst (js.map fun j : Nat => V.int (j : Int)))) a = some (.lst tv) := by rw [upd_ne (ne_of_none a1 nD)]; exact a1
    generalize (upd H1 D (.lst (js.map fun j : Nat => V.int (j : Int)))) = H2 at s2 D2 a2 ⊢
    have x2 := x.nop s2
    -- if len(held) == 0
    refine ⟨_, rfl, D, _, rfl, .inl (SqL.of D2), rfl, _, rfl, ?_⟩
    rw [List.length_map]
    by_cases h0 : js.length = 0
    · refine iteTe (decide_eq_true (congrArg V.int (by omega))) ?_
      exact q O H2 W s2.nop ⟨kvs, x2⟩ (I.mono (Nat.le_succ m)) rfl rfl
    refine iteFe (decide_eq_false fun z => h0 (by injection z; omega)) ?_
    -- frame = held[..]
    have lpos : (0 : Int) < (js.length : Int) := by omega
    obtain ⟨j, hj, ej⟩ := nat_of (Int.emod_nonneg (c / 3) (by omega : (js.length : Int) ≠ 0)) (Int.emod_lt_of_pos (c / 3) lpos)
    obtain ⟨i, hi⟩ : ∃ i, js[j]? = some i := ⟨_, List.getElem?_eq_getElem hj⟩
    obtain ⟨t, ht⟩ := jt i (List.mem_of_getElem? hi)
    have hj' : (js.map fun j : Nat => V.int (j : Int))[j]? = some (.int i) := by rw [List.getElem?_map, hi] <;> rfl
    refine ⟨_, rfl, _, rfl, _, _, rfl, rfl, ⟨by decide, by decide⟩, _, rfl, D, _, rfl, .inl (SqL.of D2), _, _, rfl, rfl, by rw [List.length_map]; exact lpos, D, _, _, _, rfl, rfl, SqL.of D2, at_of (by rw [List.length_map]; exact ej) hj', ?_⟩
    -- if told[frame] not in rows
    obtain ⟨v, hv, rv⟩ := pt.pget' ht
    obtain ⟨ta, rfl, t1, t2, tok⟩ := (show ThV O H v t from rv)
    have t2' : H2 ta = some (.tup (t.key.map kV)) := s2.same _ _ t1
    have hin : lk W.lr t ≠ none := by
      cases t with
      | own s' => exact I.own s' (I.si.fh i s' ht).1
      | file n pg =>
        obtain ⟨p0, rows, row, g1, g2, _⟩ := I.si.ff i n pg ht
        exact I.fil n rows pg g1 p0 (by have := g_lt g2; omega)
    obtain ⟨row, hrow⟩ := Option.ne_none_iff_exists'.mp hin
    obtain ⟨_, g, _⟩ := x2.get hrow t2'
    refine ⟨_, rfl, _, rfl, a, _, _, _, rfl, rfl, SqL.of a2, at_of rfl hv, _, rfl, ra, _, rfl, g, _, rfl, iteF ?_⟩
    have il := g_lt ht
    have fin : ∀ O' H' W', Stp (wP k) O H2 O' H' → WdAt K k O' H' p ra ha fa W' → WI (m + 1) W' → W'.S.ts.length = W.S.ts.length → W'.S.ss.length = W.S.ss.length → Q (.bl true) H' := fun O' H' W' s' => q O' H' W' (s2.nop.trans s')
    -- if cell % 3 == 1
    have st2 := x2.st
    obtain ⟨dx2, fr2, di2, sh2, fi2, ho2, y2⟩ := x2.st
    refine ⟨_, rfl, _, _, rfl, rfl, (by show (0 : Int) < 3; decide), rfl, _, rfl, ?_⟩
    refine ite2 (fun _ => ?_) (fun _ => ?_)
    · obtain ⟨ddx, ml, spot, marks, d, _⟩ := y2.di
      refine ⟨_, rfl, p, _, dx2, _, _, rfl, y2.ob, T.c_Store, T.n_Store_dial, stFs_di .., di2, ddx, _, rfl, d.ob, rfl, _, rfl, di2, _, i, _, O, rfl, y2.di, s2.dm, by omega, by omega, fun H3 s3 d3 => ?_⟩
      have y3 := y2.setDi s3 d3
      have x3 := x2.setS (s3.mono stP1) ⟨dx2, fr2, di2, sh2, fi2, ho2, y3⟩
      exact fin O H3 W (s3.mono fun r h => wPs r (stP1 r h)) ⟨kvs, x3⟩ (I.mono (Nat.le_succ m)) rfl rfl
    cases t with
    | file n pg =>
      refine ⟨_, rfl, _, rfl, a, _, _, _, rfl, rfl, SqL.of a2, at_of rfl hv, ta, _, _, _, rfl, rfl, SqT.of t2', at_of (j := 0) rfl rfl, rfl, _, rfl, ?_⟩
      refine iteTe (str_eq rfl) ?_
      refine iteT ?_
      refine ⟨_, rfl, _, rfl, p, k, none, W.S, i, .file n pg, O, rfl, st2, s2.dm, I.si, ht, (fun ⟨s', z⟩ => by cases z), fun H3 S3 s3 st3 I3 M3 e3 => ?_⟩
      have x3 := x2.setS s3 st3
      obtain ⟨dx3, fr3, di3, sh3, fi3, ho3, y3⟩ := st3
      have yf3 := y3.fr
      obtain ⟨fdx3, _, _, _, _, _, f3⟩ := y3.fr
      refine ⟨_, rfl, p, _, dx3, _, _, rfl, y3.ob, T.c_Store, T.n_Store_frames, stFs_fr .., fr3, fdx3, _, rfl, f3.ob, rfl, _, rfl, fr3, S3.ts, S3.rs, S3.so, i, none, _, O, rfl, yf3, e3, fun v hv => ?_⟩
      have hv : v = .non := hv
      subst hv
      refine ⟨rfl, ?_⟩
      exact fin O H3 _ (s3.mono wPs) ⟨kvs, x3⟩ ((I.mv I3 M3.toMv).mono (Nat.le_succ m)) M3.tl M3.sl
    | own s' =>
      obtain ⟨sdx, pl, rd, kvs2, z2⟩ := y2.sh
      refine ⟨_, rfl, _, rfl, a, _, _, _, rfl, rfl, SqL.of a2, at_of rfl hv, ta, _, _, _, rfl, rfl, SqT.of t2', at_of (j := 0) rfl rfl, rfl, _, rfl, ?_⟩
      refine iteFe (str_ne own_ne_file) ?_
      refine ⟨_, rfl, p, _, dx2, _, _, rfl, y2.ob, T.c_Store, T.n_Store_shelf, stFs_sh .., sh2, sdx, _, rfl, z2.ob, rfl, sh2, W.S.ss, W.S.sr, _, O, rfl, y2.sh, fun full h0 h1 => ?_⟩
      refine ⟨_, rfl, ?_⟩
      cases full with
      | true =>
        refine iteF ?_
        exact fin O H2 W (Stp.refl s2.dm) ⟨kvs, x2⟩ (I.mono (Nat.le_succ m)) rfl rfl
      | false =>
        refine iteT ?_
        refine ⟨_, rfl, _, rfl, p, k, none, W.S, i, .own s', O, rfl, st2, s2.dm, I.si, ht, fun _ => h0 rfl, fun H3 S3 s3 st3 I3 M3 e3 => ?_⟩
        have x3 := x2.setS s3 st3
        obtain ⟨dx3, fr3, di3, sh3, fi3, ho3, y3⟩ := st3
        have yf3 := y3.fr
        obtain ⟨fdx3, _, _, _, _, _, f3⟩ := y3.fr
        refine ⟨_, rfl, p, _, dx3, _, _, rfl, y3.ob, T.c_Store, T.n_Store_frames, stFs_fr .., fr3, fdx3, _, rfl, f3.ob, rfl, _, rfl, fr3, S3.ts, S3.rs, S3.so, i, none, _, O, rfl, yf3, e3, fun v hv => ?_⟩
        have hv : v = .non := hv
        subst hv
        refine ⟨rfl, ?_⟩
        exact fin O H3 _ (s3.mono wPs) ⟨kvs, x3⟩ ((I.mv I3 M3.toMv).mono (Nat.le_succ m)) M3.tl M3.sl
theorem ok_l_written (T : Tx K mg) : C8.Cal P w K mg base 7 "_law_written" (spWritten K) [] := by
  refine mkCal T.fd_l_written T.g__law_written sc_l_written (fun _ _ _ _ _ _ us hl => match us, hl with | [_, _, _, _], _ => rfl) (fun vs H Q E h => ?_) (fun cdv A outer s H vs Q E hr h => ?_)
  · obtain ⟨p, ra, ha, fa, k, m, W, c, O, rfl, hw, hD, I, hm, hc0, hc1, q⟩ := h
    rfl
  · obtain ⟨p, ra, ha, fa, k, m, W, c, O, rfl, hw, hD, I, hm, hc0, hc1, q⟩ := h
    refine ⟨_, (pss_cons (ps_set (i := 4) sc_l_written.nd rfl (by first | exact Or.inl rfl | exact Or.inr rfl) (pe_callTy (call_list_dT rfl) (by rfl) T.b_list (by decide +kernel) (pa_cons (pv 2) pa_nil)))
      (pss_cons (ps_if (pt_cmpR op_eq (pe_callB call_len_seq (by rfl) T.b_len PySem.boot_len (pa_cons (pv 4) pa_nil)) pe_int (nomark _)) (pss_one (ps_ret pe_bl)) pss_nil)
      (pss_cons (ps_set (i := 5) sc_l_written.nd rfl (by first | exact Or.inl rfl | exact Or.inr rfl) (pe_ix (r := rIxL K) ix_list (pv 4) (pe_op op_mod (pe_op op_fdiv (pv 3) pe_int) (pe_callB call_len_seq (by rfl) T.b_len PySem.boot_len (pa_cons (pv 4) pa_nil))) (fun _ _ => rfl)))
      (pss_cons (ps_set (i := 6) sc_l_written.nd rfl (by first | exact Or.inl rfl | exact Or.inr rfl) (C8.pe_c (ok_bring T) hr (by decide) rfl (pa_cons (pv 0) (pa_cons (pv 5) pa_nil))))
      (pss_cons (ps_if (PW.pt (pw_or (pt_not (pt_val (pe_callB call_isi (by rfl) T.b_isinstance (by decide +kernel) (pa_cons (pv 6) (pa_cons (pe_bltn (v := .ty "tuple") (by rfl) T.b_tuple (by decide +kernel) rfl) pa_nil))))) (pw_or (pt_cmpR op_ne (pe_callB call_len_seq (by rfl) T.b_len PySem.boot_len (pa_cons (pv 6) pa_nil)) pe_int (nomark _)) (pw_or1 (pt_not (pt_val (pe_callB call_isi (by rfl) T.b_isinstance (by decide +kernel) (pa_cons (pe_ix (r := rIxT K) ix_tup (pv 6) pe_int (fun _ _ => rfl)) (pa_cons (pe_bltn (v := .ty "bool") (by rfl) T.b_bool (by decide +kernel) rfl) pa_nil))))))))) (pss_one (ps_ret pe_bl)) pss_nil)
      (pss_cons (ps_set (i := 7) sc_l_written.nd rfl (by first | exact Or.inl rfl | exact Or.inr rfl) (pe_ix (r := rIxT K) ix_tup (pv 6) pe_int (fun _ _ => rfl)))
      (pss_cons (ps_if (PW.pt (pw_or (pt_not (pt_val (C8.pe_c (ok_l_whole T) hr (by decide) rfl (pa_cons (pv 7) pa_nil)))) (pw_or (pt_not (pt_chain op_le op_lt pe_int (pv 7) (pv 1))) (pw_or1 (pt_not (pt_val (C8.pe_c (ok_l_alike T) hr (by decide) rfl (pa_cons (C8.pe_mt (ok_Frames_thing_in T) hr (by decide) (pe_fld (pv 0) rfl) (pa_cons (pv 7) pa_nil)) (pa_cons (pv 5) pa_nil))))))))) (pss_one (ps_ret pe_bl)) pss_nil)
      (pss_cons (ps_if (pt_not (pt_val (C8.pe_c (ok_l_alike T) hr (by decide) rfl (pa_cons (C8.pe_mt (ok_Frames_row_in T) hr (by decide) (pe_fld (pv 0) rfl) (pa_cons (pv 7) pa_nil)) (pa_cons (pe_dget (hu_of hr) (pv 2) (pv 5) (fun _ _ => rfl)) pa_nil))))) (pss_one (ps_ret pe_bl)) pss_nil)
      (pss_cons (ps_set (i := 8) sc_l_written.nd rfl (by first | exact Or.inl rfl | exact Or.inr rfl) (pe_op op_mod (pv 3) pe_int))
      (pss_cons (ps_setLc (i := 9) (own := [("_law_k", 10)]) (g := gName 10) (tt := tYes) rfl sc_l_written.nd rfl rfl (sw_true rfl rfl rfl (by decide +kernel)) (pi_range1 (by rfl) T.b_range (pa_cons (pe_op op_add pe_int (pe_op op_mod (pe_op op_fdiv (pv 3) pe_int) (pe_op op_sub pe_int (pv 8)))) pa_nil)) (blkOk_by (own := [("_law_k", 10)]) (N := ["_law_store", "_law_many", "_law_rows", "_law_cell", "_law_things", "_law_thing", "_law_found", "_law_frame", "_law_at", "_law_nums", "_law_k"]) (sc := defScope s_l_written) (by decide +kernel)) (fun _ _ _ _ _ => pg_name (i := 10) sc_l_written.nd rfl (Or.inl rfl)) (fun _ _ _ _ _ => pts_nil) (fun _ _ _ _ _ => (C8.pe_c (ok_l_num T) hr (by decide) rfl (pa_cons (pe_op op_add (pv 3) (pe_op op_mul pe_int (pv 10))) (pa_cons (pe_op op_add (pv 10) pe_int) pa_nil)))))
      (pss_cons (ps_expr (C8.pe_mt (ok_Frames_put_in T) hr (by decide) (pe_fld (pv 0) rfl) (pa_cons (pv 7) (pa_cons (pv 8) (pa_cons (pe_callTy (T := "list") (r := rListOf K) call_list_of (by rfl) T.b_list (by decide +kernel) (pa_cons (pv 9) pa_nil)) pa_nil)))))
      (pss_cons (ps_dput (hu_of hr) (pv 2) (pv 5) (C8.pe_c (ok_l_laid_in T) hr (by decide) rfl (pa_cons (pe_dget (hu_of hr) (pv 2) (pv 5) (fun _ _ => rfl)) (pa_cons (pv 8) (pa_cons (pv 9) pa_nil)))) rfl)
      (pss_one (ps_ret pe_bl)))))))))))))), ?_⟩
    obtain ⟨kvs, x⟩ := hw
    have b2 := I.b2
    have big := I.si.n1
    -- things = list(rows)
    refine ⟨_, rfl, ra, kvs, rfl, .inl x.hra, fun a bs na hk => ?_⟩
    obtain ⟨bl, bk⟩ := x.keys hD I hk
    have s1 : Stp Nop O H O (upd H a (.lst (bs.map V.ref))) := Stp.alloc hD na
    have a1 : (upd H a (.lst (bs.map V.ref))) a = some (.lst (bs.map V.ref)) := upd_same
    generalize (upd H a (.lst (bs.map V.ref))) = H1 at s1 a1 ⊢
    have x1 := x.nop s1
    refine ⟨_, rfl, a, _, rfl, .inl (SqL.of a1), rfl, _, rfl, ?_⟩
    rw [List.length_map]
    by_cases h0 : bs.length = 0
    · refine iteTe (decide_eq_true (congrArg V.int (by omega))) ?_
      exact q O H1 W s1.nop ⟨kvs, x1⟩ (I.mono (Nat.le_succ m)) rfl rfl
    refine iteFe (decide_eq_false fun z => h0 (by injection z; omega)) ?_
    -- thing = things[..]
    have lpos : (0 : Int) < (bs.length : Int) := by omega
    obtain ⟨j, hj, ej⟩ := nat_of (Int.emod_nonneg (c / 24) (by omega : (bs.length : Int) ≠ 0)) (Int.emod_lt_of_pos (c / 24) lpos)
    obtain ⟨b, hb⟩ : ∃ b, bs[j]? = some b := ⟨_, List.getElem?_eq_getElem hj⟩
    have hj' : (bs.map V.ref)[j]? = some (.ref b) := by rw [List.getElem?_map, hb] <;> rfl
    obtain ⟨t, row, hlr, ht, hlk⟩ := bk j b hb
    obtain ⟨hHas, hrow4, htok⟩ := I.has t row hlk
    refine ⟨_, rfl, _, rfl, _, _, rfl, rfl, ⟨by decide, by decide⟩, _, rfl, a, _, rfl, .inl (SqL.of a1), _, _, rfl, rfl, by rw [List.length_map]; exact lpos, a, _, _, _, rfl, rfl, SqL.of a1, at_of (by rw [List.length_map]; exact ej) hj', ?_⟩
    have ht1 := ht.kp s1
    -- found = bring(store, thing)
    refine ⟨_, rfl, _, rfl, p, k, W.S, .ref b, t, row, O, rfl, x1.st, s1.dm, I.si, ht1, hHas, fun i fb r H2 S2 s2 st2 I2 M2 e2 hr2 rO => ?_⟩
    have x2 := x1.setS s2 st2
    have ht2 := ht1.kp s2
    obtain ⟨_, eb, hb2, _⟩ := ht2
    cases eb
    have ht2 : ThV O H2 (.ref b) t := ht1.kp s2
    have il := g_lt e2
    have tl := M2.tl
    have hrow : S2.rs[i]? = some row := by
      rcases M2.has t row hHas with ⟨i', h1, h2⟩ | ⟨h1, _⟩
      · rw [I2.dis i i' t e2 h1]; exact h2
      · exact absurd e2 (h1 i)
    refine ⟨_, rfl, .ref r, .ty "tuple", .type "tuple", .type "tuple", true, rfl, .ty _, .base (.tup hr2), kit_ty (by decide +kernel), _, rfl, iteF ?_⟩
    refine ⟨_, rfl, r, _, rfl, .inr (SqT.of hr2), rfl, _, rfl, iteFe rfl ?_⟩
    refine ⟨_, rfl, r, _, _, _, rfl, rfl, SqT.of hr2, at_of (j := 1) rfl rfl, .bl fb, .ty "bool", .type "bool", .type "bool", true, rfl, .ty _, .base (.bl fb), kit_ty (by decide +kernel), _, rfl, iteF ?_⟩
    -- frame = found[0]
    refine ⟨_, rfl, r, _, _, _, rfl, rfl, SqT.of hr2, at_of (j := 0) rfl rfl, ?_⟩
    obtain ⟨dx, fr, di, sh, fi, ho, y⟩ := st2
    have yf := y.fr
    have big2 := fr_len y.fr
    obtain ⟨fdx, _, _, _, _, _, f⟩ := y.fr
    refine ⟨_, rfl, _, rfl, _, rfl, iteF ?_⟩
    refine ⟨_, rfl, _, _, rfl, rfl, _, rfl, ?_⟩
    refine iteTe (decide_eq_true (by omega)) ?_
    refine ⟨_, rfl, _, _, rfl, rfl, _, rfl, ?_⟩
    refine iteFe (by rw [decide_eq_true (by omega)]; rfl) ?_
    refine ⟨_, rfl, p, _, dx, _, _, rfl, y.ob, T.c_Store, T.n_Store_frames, stFs_fr .., fr, fdx, _, rfl, f.ob, rfl, _, rfl, fr, S2.ts, S2.rs, S2.so, i, some t, _, O, rfl, yf, e2, fun v hv => ?_⟩
    have hv : ThV O H2 v t := hv
    refine ⟨_, rfl, _, _, rfl, alk_thing hv ht2, _, rfl, iteF ?_⟩
    -- the rows are alike
    refine ⟨_, rfl, p, _, dx, _, _, rfl, y.ob, T.c_Store, T.n_Store_frames, stFs_fr .., fr, fdx, _, rfl, f.ob, rfl, _, rfl, fr, S2.ts, S2.rs, S2.so, i, row, _, O, rfl, yf, hrow, fun w1 nw1 => ?_⟩
    have s3 : Stp Nop O H2 O (upd H2 w1 (.lst (row.map V.int))) := Stp.alloc s2.dm nw1
    have w3 : (upd H2 w1 (.lst (row.map V.int))) w1 = some (.lst (row.map V.int)) := upd_same
    generalize (upd H2 w1 (.lst (row.map V.int))) = H3 at s3 w3 ⊢
    have x3 := x2.nop s3
    obtain ⟨ga, g3, ga3, _⟩ := x3.get (show lk W.lr t = some row from hlk) (s3.same _ _ hb2)
    refine ⟨_, rfl, _, rfl, ra, _, rfl, g3, _, _, rfl, alk_row w3 ga3 (by omega) 1, _, rfl, iteF ?_⟩
    -- at = cell % 4
    obtain ⟨at_, atl, eat⟩ := nat_of (Int.emod_nonneg c (by decide : (4 : Int) ≠ 0)) (show c % 4 < ((4 : Nat) : Int) by omega)
    refine ⟨_, rfl, _, _, rfl, rfl, (by show (0 : Int) < 4; decide), ?_⟩
    -- nums = [..]
    have dpos : (0 : Int) < 4 - c % 4 := by omega
    obtain ⟨n, nl, en⟩ := nat_of (m := 4 - at_) (Int.emod_nonneg (c / 4) (by omega : (4 - c % 4 : Int) ≠ 0)) (by have := Int.emod_lt_of_pos (c / 4) dpos; omega)
    refine ⟨_, rfl, _, _, rfl, rfl, ⟨by decide, by decide⟩, _, rfl, _, _, rfl, rfl, _, _, rfl, rfl, dpos, _, _, rfl, rfl, 1 + ((n : Nat) : Int), by rw [en], by omega, by omega, fun D nD => lc_range (fun i H' => Same H3 H' ∧ ∃ nums : List Int, nums.length = i ∧ H' D = some (.lst (nums.map V.int))) ⟨Same.alloc nD, [], rfl, upd_same⟩ (fun i H' hi hx => ?_) (fun H' hx => ?_)⟩
    · obtain ⟨s', nums, e1, e2'⟩ := hx
      have hi : i < 5 := by omega
      refine ⟨rfl, _, rfl, _, rfl, _, _, rfl, rfl, .inl ⟨by decide, by decide⟩, _, _, rfl, rfl, _, rfl, _, _, rfl, rfl, _, _, rfl, by omega, by omega, by omega, by omega, fun z H4 s4 => ?_⟩
      refine ⟨_, s4 _ _ e2', by rw [List.length_map, e1]; exact Nat.lt_of_lt_of_le hi (by decide), fun b o e => ?_, nums ++ [z], by simp [e1], by rw [upd_same, List.map_append]; rfl⟩
      rw [upd_ne (ne_of_none e nD)]
      exact s4 _ _ (s' b o e)
    obtain ⟨s', nums, nlen, e4⟩ := hx
    have nlen : nums.length = 1 + n := by rw [nlen]; omega
    have s4 : Stp Nop O H3 O H' := Stp.of_same s3.dm s'
    have x4 := x3.nop s4
    clear s'
    -- store.frames.put_in(frame, at, list(nums))
    obtain ⟨dx4, fr4, di4, sh4, fi4, ho4, y4⟩ := x4.st
    have yf4 := y4.fr
    obtain ⟨fdx4, _, _, _, _, _, f4⟩ := y4.fr
    refine ⟨_, rfl, p, _, dx4, _, _, rfl, y4.ob, T.c_Store, T.n_Store_frames, stFs_fr .., fr4, fdx4, _, rfl, f4.ob, rfl, _, rfl, _, rfl, _, rfl, D, _, rfl, .inl (SqL.of e4), fun nb nnb => ?_⟩
    have s5 : Stp Nop O H' O (upd H' nb (.lst (nums.map V.int))) := Stp.alloc s4.dm nnb
    have n5 : (upd H' nb (.lst (nums.map V.int))) nb = some (.lst (nums.map V.int)) := upd_same
    have nbO : O nb = none := s4.dm.none nnb
    generalize (upd H' nb (.lst (nums.map V.int))) = H5 at s5 n5 ⊢
    have x5 := x4.nop s5
    have y5 := y4.kp s5 (fun _ _ z => z)
    refine ⟨fr4, nb, S2.ts, S2.rs, S2.so, i, at_, row, nums, _, O, (by show [V.ref fr4, V.int (i : Int), V.int (c % 4), V.ref nb] = _; rw [eat]), y5.fr, s5.dm, hrow, n5, (by rw [nbO]; exact fun z => nomatch z), by omega, by omega, fun H6 s6 f6 => ?_⟩
    have y6 := y5.setFr s6 f6 rfl
    have x6 := x5.setS (s6.mono stP0) (show StAt K k O H6 p (S2.put i (wc row at_ nums)) from ⟨dx4, fr4, di4, sh4, fi4, ho4, y6⟩)
    -- rows[thing] = laid_in(rows[thing], at, nums)
    have s36 := s3.nop.trans (s4.nop.trans (s5.nop.trans (s6.mono (stP0 (k := k)))))
    have hb6 : H6 b = some (.tup (t.key.map kV)) := (s36.at_none hb2 (s2.dm.tup hb2)).1
    obtain ⟨g6a, g6, ga6, _⟩ := x6.get (show lk W.lr t = some row from hlk) hb6
    have s46 := s5.nop.trans (s6.mono (stP0 (k := k)))
    have D6 : H6 D = some (.lst (nums.map V.int)) := (s46.at_none e4 (s3.dm.none nD)).1
    refine ⟨_, rfl, _, rfl, ra, _, rfl, g6, _, rfl, _, rfl, g6a, D, at_, row, nums, (by show [V.ref g6a, V.int (c % 4), V.ref D] = _; rw [eat]), ga6, D6, by omega, by omega, fun w7 H7 s7 nw7 hw7 => ?_⟩
    have s7' : Stp Nop O H6 O H7 := Stp.of_same s6.dm s7
    have x7 := x6.nop s7'
    have w7O : O w7 = none := s6.dm.none nw7
    have kl : kvs.length < sizeLine := by
      rw [x7.dk.plen]
      exact Nat.lt_of_le_of_lt (by show W.lr.length ≤ 6500; omega) (by decide)
    refine ⟨_, rfl, _, rfl, ra, _, rfl, DPut.t (k := t.key) x7.hra (s7 _ _ hb6) kl, ?_⟩
    have s8 : Stp (· = 8 * k + 5) O H7 O (upd H7 ra (.dT (putK kvs t.key (.ref w7)))) := Stp.write s7'.dm x7.ora rfl
    have w8 : RowV O (upd H7 ra (.dT (putK kvs t.key (.ref w7)))) (.ref w7) (wc row at_ nums) := RowV.kp ⟨w7, rfl, hw7, w7O⟩ s8
    have x8 := x7.setR s8 upd_same (Dk.put (x7.dk.pmono fun _ _ z => ⟨z.1, z.2.kp s8⟩) key_inj' w8)
    refine q O _ _ ((s1.nop.trans (s2.mono wPs)).trans ((s36.mono wPs).trans (s7'.nop.trans (s8.mono wP5)))) ⟨_, x8⟩ (((I.mv I2 M2).putRow (i := i) (t := t) (row := row) e2 hlk (by rw [wc_len (by omega)]; exact hrow4)).mono (Nat.le_succ m)) M2.tl M2.sl
end
end Pw


set_option Elab.async false
set_option linter.all false
set_option maxRecDepth 100000
set_option maxHeartbeats 4000000
namespace Pw
open PySem PySem.Spec PyProof.Rows L2
/-- a role given for a while -/
def untag (O : Own) (h : Addr) : Own := fun b => if b = h then none else O b
section
variable {P : Nat → Prop} {O O' : Own} {H H' : Hp} {h : Addr} {o : HO} {q : Nat}
theorem untag_ne {b : Addr} (n : b ≠ h) : untag O h b = O b := if_neg n
theorem Stp.untag (s : Stp P O H O' H') (n : H h = none) : Stp P O H (Pw.untag O' h) (upd H' h o) := by
  refine ⟨fun b u e k => by rw [upd_ne (ne_of_none e n)]; exact s.kp b u e k, fun a => ?_, fun b u e => ?_, fun a r e => ?_⟩
  · by_cases ha : a = h
    · exact .inr (by rw [ha]; exact n)
    · rw [untag_ne ha]; exact s.ext a
  · rw [upd_ne (ne_of_none e n)]; exact s.live b u e
  · by_cases ha : a = h
    · have : Pw.untag O' h a = none := if_pos ha
      rw [this] at e; cases e
    · rw [untag_ne ha] at e
      rw [upd_ne ha]; exact s.dm a r e
theorem Kp.untag (e : O' h = some q) : Kp (· = q) O' H' (Pw.untag O' h) (upd H' h o) := by
  refine ⟨fun {b u} hb n => ?_, fun {b u r} hb n hr => ?_⟩
  · have hn : b ≠ h := fun z => by rw [z, e] at n; cases n
    rw [upd_ne hn, untag_ne hn]
    exact ⟨hb, n⟩
  · have hn : b ≠ h := fun z => by rw [z, e] at n; cases n; exact hr rfl
    rw [upd_ne hn, untag_ne hn]
    exact ⟨hb, n⟩
theorem Stp.tagn (d : Dm O H) (s : Same H H') (n : H h = none) (e : H' h = some o) (nt : Nt o := by intro xs z; cases z) : Stp P O H (tag O h q) H' := by
  refine ⟨fun b u e _ => s b u e, fun b => ?_, fun b u e => ⟨u, s b u e⟩, fun b r f => ?_⟩
  · by_cases hb : b = h
    · exact .inr (by rw [hb]; exact n)
    · exact .inl (tag_ne hb)
  · by_cases hb : b = h
    · exact ⟨o, by rw [hb]; exact e, nt⟩
    · rw [tag_ne hb] at f
      obtain ⟨u, hu, nu⟩ := d b r f
      exact ⟨u, s b u hu, nu⟩
end
theorem wPu {k : Nat} : ∀ r, wP k r → ¬ r = 8 * k + 8 := fun r h e => by have := h.2; omega
abbrev PostN (K : PySem.W.Frag) (k : Nat) (O : Own) (H : Hp) (p ra ha fa : Addr) (m : Nat) (W : Wd) (Q : VK) : Prop := ∀ O' H' W', Stp (wP k) O H O' H' → WdAt K k O' H' p ra ha fa W' → WI (m + 1) W' → W'.S.ts.length = W.S.ts.length → W'.S.ss.length = W.S.ss.length → (∀ t r, lk W.lr t = some r → lk W'.lr t = some r) → Q (.bl true) H'
def spLNew (K : PySem.W.Frag) : Sp := fun vs H Q _ => ∃ (p ra ha fa b : Addr) (k m : Nat) (W : Wd) (room : Int) (row : Row) (O : Own), vs = [.ref p, .ref ra, .ref ha, .int room, .ref b] ∧ room = (W.S.ts.length : Int) - 1 + (W.S.ss.length : Int) ∧ WdAt K k O H p ra ha fa W ∧ Dm O H ∧ WI m W ∧ m ≤ 100 ∧
  H b = some (.lst (row.map V.int)) ∧ O b = none ∧ row.length = 4 ∧ PostN K k O H p ra ha fa m W Q
section
variable {P : Program} {w : World} {K : PySem.W.Frag} {mg : Str → Option Value} {base : Heap}
theorem ok_l_new (T : Tx K mg) : C8.Cal P w K mg base 7 "_law_new" (spLNew K) [] := by
  obtain ⟨fdN, FN, kpN, bN⟩ := ok_new_sheet (P := P) (w := w) (base := base) T
  refine mkCal T.fd_l_new T.g__law_new sc_l_new (fun _ _ _ _ _ _ us hl => match us, hl with | [_, _, _, _, _], _ => rfl) (fun vs H Q E h => ?_) (fun cdv A outer s H vs Q E hr h => ?_)
  · obtain ⟨p, ra, ha, fa, b, k, m, W, room, row, O, rfl, _⟩ := h
    rfl
  · obtain ⟨p, ra, ha, fa, b, k, m, W, room, row, O, rfl, hroom, hw, hD, I, hm, hb, hbO, hr4, q⟩ := h
    refine ⟨_, (pss_cons (ps_set (i := 5) sc_l_new.nd rfl (by first | exact Or.inl rfl | exact Or.inr rfl) (pe_op op_sub (pv 3) (pe_callB call_len_seq (by rfl) T.b_len PySem.boot_len (pa_cons (pe_lc (own := [("_law_sheet", 6)]) (g := gName 6) rfl sc_l_new.nd (pi_list (pe_callTy (call_list_dK rfl) (by rfl) T.b_list (by decide +kernel) (pa_cons (pv 2) pa_nil))) (blkOk_by (own := [("_law_sheet", 6)]) (N := ["_law_store", "_law_rows", "_law_holders", "_law_room", "_law_row_here", "_law_left", "_law_sheet", "_law_refused", "_law_found", "_law_handed"]) (sc := defScope s_l_new) (by decide +kernel)) (fun _ _ _ _ _ => pg_name (i := 6) sc_l_new.nd rfl (Or.inl rfl)) (fun _ _ _ _ _ => (pts_one (pt_cmpR op_gt (pe_dget (hu_of hr) (pv 2) (pv 6) (fun _ _ => rfl)) pe_int (nomark _)))) (fun _ _ _ _ _ => (pv 6))) pa_nil))))
      (pss_cons (ps_set (i := 7) sc_l_new.nd rfl (by first | exact Or.inl rfl | exact Or.inr rfl) pe_bl)
      (pss_cons (ps_set (i := 8) sc_l_new.nd rfl (by first | exact Or.inl rfl | exact Or.inr rfl) pe_non)
      (pss_cons (ps_set (i := 9) sc_l_new.nd rfl (by first | exact Or.inl rfl | exact Or.inr rfl) (pe_callTy (T := "list") (r := rListOf K) call_list_of (by rfl) T.b_list (by decide +kernel) (pa_cons (pv 4) pa_nil)))
      (pss_cons (ps_try_only rfl rfl ⟨rfl, by decide, .inl T.g_Full⟩ takes0 (fun W pn xe tk _ => (pss_one (ps_set (i := 8) sc_l_new.nd rfl (by first | exact Or.inl rfl | exact Or.inr rfl) (pe_callS FN hr rfl T.g_new_sheet kpN bN (fun σ => passAt tk σ) (pa_cons (pv 0) (pa_cons (pv 9) pa_nil)))))) (fun a oe cls d pn _ _ => (pss_one (ps_set (i := 7) sc_l_new.nd rfl (by first | exact Or.inl rfl | exact Or.inr rfl) pe_bl))))
      (pss_cons (ps_if (PW.pt (pw_or (pt_cmpR op_eq (pv 5) pe_int (nomark _)) (pw_or1 (pt_val (pv 7))))) (pss_one (ps_ret (pe_and (pe_cmpR op_eq (pv 5) pe_int (nomark _)) (pe_one (pv 7))))) pss_nil)
      (pss_cons (ps_set (i := 6) sc_l_new.nd rfl (by first | exact Or.inl rfl | exact Or.inr rfl) (pe_op op_add pe_int (pe_callB call_lenD (by rfl) T.b_len PySem.boot_len (pa_cons (pv 2) pa_nil))))
      (pss_cons (ps_if (PW.pt (pw_or (pt_not (pt_val (pe_callB call_isi (by rfl) T.b_isinstance (by decide +kernel) (pa_cons (pv 8) (pa_cons (pe_bltn (v := .ty "tuple") (by rfl) T.b_tuple (by decide +kernel) rfl) pa_nil))))) (pw_or (pt_cmpR op_ne (pe_callB call_len_seq (by rfl) T.b_len PySem.boot_len (pa_cons (pv 8) pa_nil)) pe_int (nomark _)) (pw_or1 (pt_not (pt_val (C8.pe_c (ok_l_alike T) hr (by decide) rfl (pa_cons (pe_ix (r := rIxT K) ix_tup (pv 8) pe_int (fun _ _ => rfl)) (pa_cons (pv 6) pa_nil))))))))) (pss_one (ps_ret pe_bl)) pss_nil)
      (pss_cons (ps_asg (pe_op op_sub (pe_op op_pow pe_int pe_int) pe_int) (pg_sub (pv 9) pe_int set_list))
      (pss_cons (ps_dput (hu_of hr) (pv 2) (pv 6) pe_int rfl)
      (pss_cons (ps_dput (hu_of hr) (pv 1) (pe_tup (pa_cons pe_str (pa_cons (pv 6) pa_nil))) (pv 4) rfl)
      (pss_one (ps_ret (C8.pe_c (ok_l_alike T) hr (by decide) rfl (pa_cons (C8.pe_mt (ok_Frames_where T) hr (by decide) (pe_fld (pv 0) rfl) (pa_cons (pe_tup (pa_cons pe_str (pa_cons (pv 6) pa_nil))) pa_nil)) (pa_cons (pe_ix (r := rIxT K) ix_tup (pv 8) pe_int (fun _ _ => rfl)) pa_nil)))))))))))))))), ?_⟩
    obtain ⟨kvs, x⟩ := hw
    have b1 := I.b1
    have cap := I.si.cap
    have n1 := I.si.n1
    refine ⟨_, rfl, _, rfl, ha, _, rfl, x.hha, fun a na => ?_⟩
    have s1 : Stp Nop O H O (upd H a (.lst ((hK W.lh).map fun kv => kV kv.1))) := Stp.alloc hD na
    have a1 : (upd H a (.lst ((hK W.lh).map fun kv => kV kv.1))) a = some (.lst ((hK W.lh).map fun kv => kV kv.1)) := upd_same
    generalize (upd H a (.lst ((hK W.lh).map fun kv => kV kv.1))) = H1 at s1 a1 ⊢
    have x1 := x.nop s1
    refine ⟨a, rfl, ⟨_, SqL.of a1⟩, fun D nD => lc_list (xs := (hK W.lh).map fun kv => kV kv.1) (fun i H' => H' = upd H1 D (.lst ((living (W.lh.take i)).map fun q => V.int q.1))) rfl (fun i H' _ e => ?_) (fun i y H' hi e => ?_) (fun H' e => ?_)⟩
    · rw [e]
      exact SqL.of (by rw [upd_ne (ne_of_none a1 nD)]; exact a1)
    · subst e
      have hi' : ∃ q0, W.lh[i]? = some q0 ∧ y = .int q0.1 := by
        unfold hK at hi
        rw [List.map_map, List.getElem?_map] at hi
        obtain ⟨q0, h1, h2⟩ := Option.map_eq_some_iff.mp hi
        exact ⟨q0, h1, h2.symm⟩
      obtain ⟨q0, hq0, rfl⟩ := hi'
      have hl : lk W.lh q0.1 = some q0.2 := lk_at I.lhn (show W.lh[i]? = some (q0.1, q0.2) from hq0)
      have x2 := x1.nop (Stp.alloc (o := .lst ((living (W.lh.take i)).map fun q => V.int q.1)) s1.dm nD)
      have ll : (living (W.lh.take i)).length ≤ 100 := Nat.le_trans (List.length_filter_le ..) (Nat.le_trans (List.length_take_le ..) (by have := g_lt hq0; omega))
      refine ⟨rfl, _, rfl, _, rfl, ha, _, rfl, x2.hget hl, _, _, rfl, rfl, _, rfl, ?_⟩
      rw [living_take hq0]
      by_cases hpos : 0 < q0.2
      · refine iteTe (decide_eq_true hpos) ?_
        refine ⟨_, rfl, _, upd_same, by rw [List.length_map]; exact Nat.lt_of_le_of_lt ll (by decide), ?_⟩
        rw [upd_upd, if_pos hpos, List.map_append]
        rfl
      · refine iteFe (decide_eq_false hpos) ?_
        rw [if_neg hpos, List.append_nil]
    subst e
    have el : ((hK W.lh).map fun kv => kV kv.1).length = W.lh.length := by rw [List.length_map, hK_len]
    rw [el, List.take_length]
    have s2 : Stp Nop O H O (upd H1 D (.lst ((living W.lh).map fun q => V.int q.1))) := s1.trans (Stp.alloc s1.dm nD)
    have D2 : (upd H1 D (.lst ((living W.lh).map fun q => V.int q.1))) D = some (.lst ((living W.lh).map fun q => V.int q.1)) := upd_same
    generalize (upd H1 D (.lst ((living W.lh).map fun q => V.int q.1))) = H2 at s2 D2 ⊢
    refine ⟨D, _, rfl, .inl (SqL.of D2), _, _, rfl, rfl, ?_⟩
    rw [List.length_map]
    have hlen : (living W.lh).length = W.S.hs.length := by rw [I.hh]
    have b2 : H2 b = some (.lst (row.map V.int)) := s2.same _ _ hb
    -- handed = list(row)
    refine ⟨_, rfl, b, _, rfl, .inl (SqL.of b2), fun c nc => ?_⟩
    have s3 : Stp (wP k) O H (tag O c (8 * k + 8)) (upd H2 c (.lst (row.map V.int))) := s2.nop.trans (Stp.lay s2.dm nc)
    have x3 : WdX K k (tag O c (8 * k + 8)) (upd H2 c (.lst (row.map V.int))) p ra ha fa kvs W := x.kp (s2.trans (Stp.lay s2.dm nc)) (fun _ _ z => z)
    have c3 : (upd H2 c (.lst (row.map V.int))) c = some (.lst (row.map V.int)) := upd_same
    have cH : H c = none := by
      cases e : H c with
      | none => rfl
      | some u => rw [s2.same _ _ e] at nc; cases nc
    have bc : b ≠ c := ne_of_none b2 nc
    have b3 : (upd H2 c (.lst (row.map V.int))) b = some (.lst (row.map V.int)) := by rw [upd_ne bc]; exact b2
    generalize (upd H2 c (.lst (row.map V.int))) = H3 at s3 x3 c3 b3 ⊢
    have cO : tag O c (8 * k + 8) c = some (8 * k + 8) := tag_same
    have bO : tag O c (8 * k + 8) b = none := by rw [tag_ne bc]; exact hbO
    generalize hO1 : tag O c (8 * k + 8) = O1 at s3 x3 cO bO
    have hhl : W.S.hs.length ≤ 1000 := by
      rw [I.hh]
      exact Nat.le_trans (List.length_filter_le ..) (by omega)
    -- new_sheet
    refine ⟨_, rfl, _, rfl, p, c, k, W.S, row, O1, rfl, x3.st, s3.dm, I.si, c3, ?_, hhl, fun hfull H4 s4 => ?_, fun hfree i r H4 S4 s4 st4 I4 e1 e2 e3 e4 e5 e6 has4 oth4 hnew hr rO => ?_⟩
    · intro r' e z
      rw [cO] at e
      cases e
      have := z.2
      omega
    · refine ⟨true, He.exm_ok T.e_Full, fun _ a _ => ?_, fun z => nomatch z⟩
      refine ⟨_, rfl, rfl, _, rfl, iteTe (decide_eq_true (congrArg V.int (by omega))) ?_⟩
      refine ⟨_, rfl, rfl, _, rfl, iteTe (decide_eq_true (congrArg V.int (by omega))) ?_⟩
      exact ⟨_, rfl, q O1 H4 W (s3.trans s4.nop) ⟨kvs, x3.nop s4⟩ (I.mono (Nat.le_succ m)) rfl rfl (fun _ _ z => z)⟩
    refine ⟨_, rfl, rfl, _, rfl, iteFe (decide_eq_false fun z => by have := V.int.inj z; omega) ?_⟩
    refine ⟨_, rfl, _, rfl, iteF ?_⟩
    have x4 := x3.setS s4 st4
    have en : (1 : Int) + (W.lh.length : Int) = W.S.nw + 1 := by rw [I.nw]; omega
    obtain ⟨J, hr0, hh0⟩ := I.newSheet I4 hr4 e1 e2 e5 has4 oth4 hnew
    -- sheet = 1 + len(holders)
    refine ⟨_, rfl, ha, _, rfl, x4.hha, _, _, rfl, rfl, ?_⟩
    show gName 6 (V.int ((1 : Int) + ((hK W.lh).length : Int))) _ _ _
    rw [hK_len, en]
    -- the tuple
    refine ⟨_, rfl, .ref r, .ty "tuple", .type "tuple", .type "tuple", true, rfl, .ty _, .base (.tup hr), kit_ty (by decide +kernel), _, rfl, iteF ?_⟩
    refine ⟨_, rfl, r, _, rfl, .inr (SqT.of hr), rfl, _, rfl, iteFe rfl ?_⟩
    refine ⟨_, rfl, r, _, _, _, rfl, rfl, SqT.of hr, at_of (j := 0) rfl rfl, _, rfl, ?_⟩
    refine ⟨_, _, rfl, .inl ⟨rfl, .inl ⟨_, rfl⟩⟩, _, rfl, iteF ?_⟩
    -- handed[0] = ..
    have c4 := (s4.at_role c3 cO (fun z => by have := z.2; omega)).1
    refine ⟨_, _, rfl, rfl, ⟨by decide, by decide, by decide⟩, _, _, rfl, rfl, _, rfl, c, _, _, 0, rfl, rfl, c4, ixN_ok (j := 0) (by rw [List.length_map, hr4]; decide), ?_⟩
    have x5 : WdX K k (untag O1 c) (upd H4 c (.lst ((row.map V.int).set 0 (.int (10 ^ (60 : Int).toNat - 6))))) p ra ha fa kvs { W with S := S4 } := x4.kq (Kp.untag cO) wPu
    have s5 : Stp (wP k) O H (untag O1 c) (upd H4 c (.lst ((row.map V.int).set 0 (.int (10 ^ (60 : Int).toNat - 6))))) := (s3.trans (s4.mono wPs)).untag cH
    have w5 : RowV (untag O1 c) (upd H4 c (.lst ((row.map V.int).set 0 (.int (10 ^ (60 : Int).toNat - 6))))) (.ref b) row := (RowV.kp ⟨b, rfl, b3, bO⟩ s4).kq (Kp.untag cO)
    have r5 : (upd H4 c (.lst ((row.map V.int).set 0 (.int (10 ^ (60 : Int).toNat - 6))))) r = some (.tup [V.int (W.S.nw + 1), V.int i]) := ((Kp.untag cO).at_none hr (s4.dm.tup hr)).1
    generalize (upd H4 c (.lst ((row.map V.int).set 0 (.int (10 ^ (60 : Int).toNat - 6))))) = H5 at x5 s5 w5 r5 ⊢
    generalize untag O1 c = O5 at x5 s5 w5
    -- holders[sheet] = 1
    have kl : (hK W.lh).length < sizeLine := by rw [hK_len]; exact Nat.lt_of_le_of_lt (by omega : W.lh.length ≤ 1000) (by decide)
    refine ⟨_, rfl, _, rfl, ha, _, rfl, DPut.k (k := Sum.inl (W.S.nw + 1)) x5.hha kl, ?_⟩
    rw [hK_put, pt_new hh0]
    have s6 : Stp (· = 8 * k + 6) O5 H5 O5 (upd H5 ha (.dK (hK (W.lh ++ [(W.S.nw + 1, 1)])))) := Stp.write s5.dm x5.oha rfl
    have x6 := x5.setH (lh' := W.lh ++ [(W.S.nw + 1, 1)]) s6 upd_same
    have w6 := w5.kp s6
    have r6 := (s6.at_none r5 (s5.dm.tup r5)).1
    generalize (upd H5 ha (.dK (hK (W.lh ++ [(W.S.nw + 1, 1)])))) = H6 at s6 x6 w6 r6 ⊢
    -- rows[('own', sheet)] = row
    refine ⟨_, rfl, _, rfl, _, rfl, (by show 2 ≤ sizeLine; decide), fun tq nq => ?_⟩
    have s7 : Stp Nop O5 H6 O5 (upd H6 tq (.tup [.str "own", .int (W.S.nw + 1)])) := Stp.alloc s6.dm nq
    have t7 : (upd H6 tq (.tup [.str "own", .int (W.S.nw + 1)])) tq = some (.tup ((Thing.own (W.S.nw + 1)).key.map kV)) := upd_same
    have w7 := w6.kp s7
    have r7 := s7.same _ _ r6
    have x7 := x6.nop s7
    generalize (upd H6 tq (.tup [.str "own", .int (W.S.nw + 1)])) = H7 at s7 t7 w7 r7 x7 ⊢
    have kl7 : kvs.length < sizeLine := by
      rw [x7.dk.plen]
      have := I.b2
      exact Nat.lt_of_le_of_lt (by show W.lr.length ≤ 6500; omega) (by decide)
    refine ⟨ra, _, rfl, DPut.t (k := (Thing.own (W.S.nw + 1)).key) x7.hra t7 kl7, ?_⟩
    have s8 : Stp (· = 8 * k + 5) O5 H7 O5 (upd H7 ra (.dT (putK kvs (Thing.own (W.S.nw + 1)).key (.ref b)))) := Stp.write s7.dm x7.ora rfl
    have d8 := Dk.put (k := Thing.own (W.S.nw + 1)) (x7.dk.pmono fun _ _ z => ⟨z.1, z.2.kp s8⟩) key_inj' (w7.kp s8)
    rw [show pt W.lr (.own (W.S.nw + 1)) row = W.lr ++ [(.own (W.S.nw + 1), row)] from pt_new hr0] at d8
    have x8 := x7.setR s8 upd_same d8
    have r8 := (s8.at_none r7 (s7.dm.tup r7)).1
    generalize (upd H7 ra (.dT (putK kvs (Thing.own (W.S.nw + 1)).key (.ref b)))) = H8 at s8 x8 r8 ⊢
    have s08 := s5.trans ((s6.mono (wP6 (k := k))).trans (s7.nop.trans (s8.mono wP5)))
    -- where(('own', sheet)) is found[1]
    obtain ⟨dx, fr, di, sh, fi, ho, y⟩ := x8.st
    obtain ⟨fdx, _, _, _, _, _, f⟩ := y.fr
    refine ⟨_, rfl, p, _, dx, _, _, rfl, y.ob, T.c_Store, T.n_Store_frames, stFs_fr .., fr, fdx, _, rfl, f.ob, rfl, _, rfl, (by show 2 ≤ sizeLine; decide), fun tz nz => ?_⟩
    have s9 : Stp Nop O5 H8 O5 (upd H8 tz (.tup [.str "own", .int (W.S.nw + 1)])) := Stp.alloc s8.dm nz
    have t9 : ThV O5 (upd H8 tz (.tup [.str "own", .int (W.S.nw + 1)])) (.ref tz) (.own (W.S.nw + 1)) := ⟨tz, rfl, upd_same, s8.dm.none nz, trivial⟩
    generalize (upd H8 tz (.tup [.str "own", .int (W.S.nw + 1)])) = H9 at s9 t9 ⊢
    have x9 := x8.nop s9
    have y9 := y.kp s9 (fun _ _ z => z)
    have r9 := s9.same _ _ r8
    refine ⟨fr, S4.ts, S4.rs, S4.so, .ref tz, .own (W.S.nw + 1), _, O5, rfl, y9.fr, t9, fun i' hi' => ?_, fun hno => absurd e6 (hno i)⟩
    have ei : i' = i := I4.dis i' i _ hi' e6
    subst ei
    refine ⟨_, rfl, r, _, _, _, rfl, rfl, SqT.of r9, at_of (j := 1) rfl rfl, ?_⟩
    refine ⟨_, _, rfl, alk_int _ _, ?_⟩
    exact q O5 H9 _ (s08.trans s9.nop) ⟨_, x9⟩ J e3 e4 (fun t r' h => by
      show lk (W.lr ++ [_]) t = _
      rw [lk_app, h]
      rfl)
end
end Pw


set_option Elab.async false
set_option linter.all false
set_option maxRecDepth 100000
set_option maxHeartbeats 4000000
namespace Pw
open PySem PySem.Spec PyProof.Rows L2
def spLFile (K : PySem.W.Frag) : Sp := fun vs H Q _ => ∃ (p ra ha fa : Addr) (k m : Nat) (W : Wd) (n : Str) (c : Int) (O : Own), vs = [.ref p, .ref ra, .ref fa, .str n, .int c] ∧ WdAt K k O H p ra ha fa W ∧ Dm O H ∧ WI m W ∧ m ≤ 100 ∧ PyData.strOk n = true ∧ 0 ≤ c ∧ c < 2 ^ 40 ∧
  ∀ O' H' W', Stp (wP k) O H O' H' → WdAt K k O' H' p ra ha fa W' → WI (m + 1) W' → W'.S.ts.length = W.S.ts.length → W'.S.ss.length = W.S.ss.length → Q .non H'
theorem lk_ff {fs : Fls} {n : Str} : lk (fs.map fun q => (q.1, (q.2.length : Int))) n = (lk fs n).map fun rows => (rows.length : Int) := by
  induction fs with
  | nil => rfl
  | cons p r ih =>
    show (if p.1 = n then some (p.2.length : Int) else lk (r.map _) n) = _
    show _ = Option.map _ (if p.1 = n then some p.2 else lk r n)
    by_cases e : p.1 = n
    · rw [if_pos e, if_pos e] <;> rfl
    · rw [if_neg e, if_neg e]; exact ih
theorem fget {fa : Addr} {H : Hp} {lf : List (Str × Int)} {n : Str} {c : Int} (h : H fa = some (.dK (fK lf))) (e : lk lf n = some c) : DGet H fa (.str n) (some (.int c)) := by
  have := DGet.k (k := Sum.inr n) h
  rw [fK_get e] at this
  exact this
theorem fmiss {fa : Addr} {H : Hp} {lf : List (Str × Int)} {n : Str} (h : H fa = some (.dK (fK lf))) (e : lk lf n = none) : DGet H fa (.str n) none := by
  have := DGet.k (k := Sum.inr n) h
  rw [fK_none e] at this
  exact this
theorem joinN {α β : Type} {N : α → β → Prop} {G : Prop} (R : α → β → Prop) (h1 : (∀ σ H, R σ H → N σ H) → G) (h2 : ∀ σ H, R σ H → N σ H) : G := h1 h2
section
variable {P : Program} {w : World} {K : PySem.W.Frag} {mg : Str → Option Value} {base : Heap}
theorem ok_l_file (T : Tx K mg) : C8.Cal P w K mg base 4 "_law_file" (spLFile K) [] := by
  refine mkCal T.fd_l_file T.g__law_file sc_l_file (fun _ _ _ _ _ _ us hl => match us, hl with | [_, _, _, _, _], _ => rfl) (fun vs H Q E h => ?_) (fun cdv A outer s H vs Q E hr h => ?_)
  · obtain ⟨p, ra, ha, fa, k, m, W, n, c, O, rfl, hw, hD, I, hm, hnok, hc0, hc1, q⟩ := h
    rfl
  · obtain ⟨p, ra, ha, fa, k, m, W, n, c, O, rfl, hw, hD, I, hm, hnok, hc0, hc1, q⟩ := h
    refine ⟨_, (pss_cons (ps_if (pt_cmp (pc_din (hu_of hr) (pv 3) (pv 2)) (by rfl)) (pss_cons (ps_expr (C8.pe_c (ok_forget_file T) hr (by decide) rfl (pa_cons (pv 0) (pa_cons (pv 3) pa_nil))))
      (pss_cons (ps_for PassesOwn.never rfl (pi_range1 (by rfl) T.b_range (pa_cons (pe_dget (hu_of hr) (pv 2) (pv 3) (fun _ _ => rfl)) pa_nil)) (pg_name (i := 5) sc_l_file.nd rfl (by first | exact Or.inl rfl | exact Or.inr rfl)) (pss_one (ps_expr (pe_bm PySem.F.plainAttrs_dict PySem.F.slot_dict_pop PySem.F.type_dict_pop (mt_popT1 (hu_of hr)) (pv 1) (pa_cons (pe_tup (pa_cons pe_str (pa_cons (pv 3) (pa_cons (pv 5) pa_nil)))) pa_nil)))))
      (pss_cons (ps_expr (pe_dpop1 (pv 2) (pv 3) ⟨rfl, rfl, rfl, rfl⟩))
      (pss_one ps_retN)))) pss_nil)
      (pss_cons (ps_set (i := 6) sc_l_file.nd rfl (by first | exact Or.inl rfl | exact Or.inr rfl) (pe_op op_add pe_int (pe_op op_mod (pv 4) pe_int)))
      (pss_cons (ps_if (pt_cmpR op_eq (pe_op op_mod (pe_op op_fdiv (pv 4) pe_int) pe_int) pe_int (nomark _)) (pss_one (ps_set (i := 6) sc_l_file.nd rfl (by first | exact Or.inl rfl | exact Or.inr rfl) (pe_op op_add pe_int (pe_op op_mod (pe_op op_fdiv (pv 4) pe_int) pe_int)))) pss_nil)
      (pss_cons (ps_setLc (i := 7) (own := [("_law_k", 8)]) (g := gName 8) (tt := tYes) rfl sc_l_file.nd rfl rfl (sw_true rfl rfl rfl (by decide +kernel)) (pi_range1 (by rfl) T.b_range (pa_cons (pv 6) pa_nil)) (blkOk_by (own := [("_law_k", 8)]) (N := ["_law_store", "_law_rows", "_law_sizes_here", "_law_name_here", "_law_cell", "_law_page", "_law_many", "_law_made", "_law_k", "_law_handed", "_law_row_here"]) (sc := defScope s_l_file) (by decide +kernel)) (fun _ _ _ _ _ => pg_name (i := 8) sc_l_file.nd rfl (Or.inl rfl)) (fun _ _ _ _ _ => pts_nil) (fun _ _ _ _ _ => (C8.pe_c (ok_l_row T) hr (by decide) rfl (pa_cons (pe_op op_add (pe_op op_mod (pv 4) pe_int) (pe_op op_mul pe_int (pv 8))) pa_nil))))
      (pss_cons (ps_setLc (i := 9) (own := [("_law_row_here", 10)]) (g := gName 10) (tt := tYes) rfl sc_l_file.nd rfl rfl (sw_true rfl rfl rfl (by decide +kernel)) (pi_list (pv 7)) (blkOk_by (own := [("_law_row_here", 10)]) (N := ["_law_store", "_law_rows", "_law_sizes_here", "_law_name_here", "_law_cell", "_law_page", "_law_many", "_law_made", "_law_k", "_law_handed", "_law_row_here"]) (sc := defScope s_l_file) (by decide +kernel)) (fun _ _ _ _ _ => pg_name (i := 10) sc_l_file.nd rfl (Or.inl rfl)) (fun _ _ _ _ _ => pts_nil) (fun _ _ _ _ _ => (pe_callTy (T := "list") (r := rListOf K) call_list_of (by rfl) T.b_list (by decide +kernel) (pa_cons (pv 10) pa_nil))))
      (pss_cons (ps_expr (C8.pe_mt (ok_Files_make T) hr (by decide) (pe_fld (pv 0) rfl) (pa_cons (pv 3) (pa_cons (pv 9) pa_nil))))
      (pss_cons (ps_asg pe_int (pg_sub (pe_ix (r := rIxL K) ix_list (pv 9) (pe_op op_sub (pv 6) pe_int) (fun _ _ => rfl)) (pe_op op_mod (pv 4) pe_int) set_list))
      (pss_cons (ps_dput (hu_of hr) (pv 2) (pv 3) (pv 6) rfl)
      (pss_one (ps_for PassesOwn.never rfl (pi_range1 (by rfl) T.b_range (pa_cons (pv 6) pa_nil)) (pg_name (i := 5) sc_l_file.nd rfl (by first | exact Or.inl rfl | exact Or.inr rfl)) (pss_one (ps_dput (hu_of hr) (pv 1) (pe_tup (pa_cons pe_str (pa_cons (pv 3) (pa_cons (pv 5) pa_nil)))) (pe_ix (r := rIxL K) ix_list (pv 7) (pv 5) (fun _ _ => rfl)) rfl)))))))))))), ?_⟩
    obtain ⟨kvs, x⟩ := hw
    have b2 := I.b2
    have b3 := I.b3
    cases hn : lk W.S.fs n with
    | some rows =>
      obtain ⟨l1, l2⟩ := I.fl n rows hn
      have hlf : lk W.lf n = some (rows.length : Int) := by rw [I.ff, lk_ff, hn] <;> rfl
      refine ⟨_, rfl, _, rfl, fa, _, rfl, fget x.hfa hlf, _, rfl, iteT ?_⟩
      refine ⟨_, rfl, _, rfl, p, k, W.S, n, O, rfl, x.st, hD, I.si, (by rw [hn]; exact fun z => nomatch z), fun H1 S1 s1 st1 I1 hm1 e1 e2 e3 e4 e5 => ?_⟩
      have x1 := x.setS s1 st1
      refine ⟨_, rfl, _, rfl, fa, _, rfl, fget x1.hfa hlf, _, rfl, by omega, by omega, ?_⟩
      refine for_range (fun i σ H' => σ[0]? = some (some (.ref p)) ∧ σ[1]? = some (some (.ref ra)) ∧ σ[2]? = some (some (.ref fa)) ∧ σ[3]? = some (some (.str n)) ∧ σ.length = 11 ∧ Stp (wP k) O H1 O H' ∧ ∃ kvs', WdX K k O H' p ra ha fa kvs' { W with S := S1, lr := popN W.lr n i }) ⟨rfl, rfl, rfl, rfl, rfl, Stp.refl s1.dm, kvs, x1⟩ (fun i σ H' hi hx => ?_) (fun σ H' hx => ?_)
      · obtain ⟨f0, f1, f2, f3, fl, st, kvs', x2⟩ := hx
        have hi : i < rows.length := by simpa using hi
        obtain ⟨c0, c1, c2, c3, c4, c5, c6, c7, c8, c9, c10, rfl⟩ : ∃ c0 c1 c2 c3 c4 c5 c6 c7 c8 c9 c10, σ = [c0, c1, c2, c3, c4, c5, c6, c7, c8, c9, c10] := by
          match σ, fl with
          | [c0, c1, c2, c3, c4, c5, c6, c7, c8, c9, c10], _ => exact ⟨c0, c1, c2, c3, c4, c5, c6, c7, c8, c9, c10, rfl⟩
        have hin : lk (popN W.lr n i) (.file n (i : Int)) ≠ none := by
          rw [lk_popN fun j hj z => by have := (Thing.file.inj z).2; omega]
          exact I.fil n rows i hn (by omega) (by omega)
        obtain ⟨row, hrow⟩ := Option.ne_none_iff_exists'.mp hin
        refine ⟨_, f1, .inr (.inr (.inl ⟨rfl, .inr ⟨_, x2.hra⟩⟩)), _, f3, _, rfl, (by show 3 ≤ sizeLine; decide), fun tq nq => ?_⟩
        rw [Int.zero_add]
        have s4 : Stp Nop O H' O (upd H' tq (.tup [.str "file", .str n, .int i])) := Stp.alloc st.dm nq
        have t4 : (upd H' tq (.tup [.str "file", .str n, .int i])) tq = some (.tup ((Thing.file n i).key.map kV)) := upd_same
        generalize (upd H' tq (.tup [.str "file", .str n, .int i])) = H4 at s4 t4 ⊢
        have x4 := x2.nop s4
        obtain ⟨v, hv, _⟩ := x4.dk.sm key_inj' hrow
        refine ⟨ra, kvs', (Thing.file n i).key, tq, v, rfl, rfl, x4.hra, t4, hv, ?_⟩
        have s5 : Stp (· = 8 * k + 5) O H4 O (upd H4 ra (.dT (dropK kvs' (Thing.file n i).key))) := Stp.write s4.dm x4.ora rfl
        have x5 := x4.setR s5 upd_same (Dk.drop (k := Thing.file n i) (x4.dk.pmono fun _ _ z => ⟨z.1, z.2.kp s5⟩) key_inj')
        exact ⟨f0, f1, f2, f3, rfl, st.trans (s4.nop.trans (s5.mono wP5)), _, x5⟩
      · obtain ⟨f0, f1, f2, f3, fl, st, kvs', x2⟩ := hx
        rw [show ((rows.length : Int)).toNat = rows.length by simp] at x2
        refine ⟨_, f2, fa, rfl, .inl ⟨_, .inl x2.hfa⟩, _, f3, _, Sum.inr n, _, x2.hfa, rfl, fK_get hlf, ?_⟩
        rw [fK_drop]
        have s6 : Stp (· = 8 * k + 7) O H' O (upd H' fa (.dK (fK (dl W.lf n)))) := Stp.write st.dm x2.ofa rfl
        have x6 := x2.setF (lf' := dl W.lf n) s6 upd_same
        exact q O _ _ ((s1.mono wPs).trans (st.trans (s6.mono wP7))) ⟨_, x6⟩ ((I.forget hn I1 hm1 e1 e2 e5).mono (Nat.le_succ m)) e3 e4
    | none =>
      have hlf : lk W.lf n = none := by rw [I.ff, lk_ff, hn] <;> rfl
      refine ⟨_, rfl, _, rfl, fa, _, rfl, fmiss x.hfa hlf, _, rfl, iteF ?_⟩
      refine ⟨_, rfl, _, _, rfl, rfl, (by show (0 : Int) < 4; decide), _, _, rfl, rfl, ?_⟩
      refine ⟨_, rfl, _, _, rfl, rfl, ⟨by decide, by decide⟩, _, _, rfl, rfl, (by show (0 : Int) < 9; decide), rfl, _, rfl, ?_⟩
      refine joinN (N := ?N) (fun (σ : List (Option V)) (H' : Hp) => H' = H ∧ ∃ mm : Nat, 1 ≤ mm ∧ mm ≤ 32 ∧ σ = [some (.ref p), some (.ref ra), some (.ref fa), some (.str n), some (.int c), none, some (.int mm), none, none, none, none]) ?h1 ?h2
      case h1 =>
        intro rest
        refine ite2 (fun _ => ?_) (fun _ => ?_)
        · refine ⟨_, rfl, _, _, rfl, rfl, ⟨by decide, by decide⟩, _, _, rfl, rfl, (by show (0 : Int) < 32; decide), _, _, rfl, rfl, ?_⟩
          refine rest _ _ ⟨rfl, (1 + c / 36 % 32).toNat, by omega, by omega, ?_⟩
          rw [Int.toNat_of_nonneg (by omega)]
          rfl
        · refine rest _ _ ⟨rfl, (1 + c % 4).toNat, by omega, by omega, ?_⟩
          rw [Int.toNat_of_nonneg (by omega)]
          rfl
      case' h2 => rintro σ H' ⟨eH, mm, m1, m2, rfl⟩
      subst H'
      -- made = [..]
      refine ⟨_, rfl, _, rfl, by omega, by omega, fun D nD => lc_range (fun i H' => Same H H' ∧ ∃ (vs : List V) (rows : List Row), H' D = some (.lst vs) ∧ vs.length = i ∧ Paired (fun v (row : Row) => ∃ a, v = .ref a ∧ H' a = some (.lst (row.map V.int)) ∧ H a = none ∧ a ≠ D) vs rows ∧ ∀ row ∈ rows, row.length = 4) ⟨Same.alloc nD, [], [], upd_same, rfl, .nil, fun _ z => nomatch z⟩ (fun i H' hi hx => ?_) (fun H' hx => ?_)⟩
      · obtain ⟨s', vs, rows, g1, g2, g3, g4⟩ := hx
        have hi : i < mm := by omega
        refine ⟨rfl, _, rfl, _, _, rfl, rfl, (by show (0 : Int) < 9973; decide), _, rfl, _, _, rfl, rfl, .inl ⟨by decide, by decide⟩, _, _, rfl, rfl, ?_⟩
        refine ⟨_, rfl, by omega, by omega, fun row a H'' hl sm na ha => ?_⟩
        have aD : a ≠ D := (ne_of_none g1 na).symm
        have aH : H a = none := s'.free na
        refine ⟨vs, sm _ _ g1, by rw [g2]; exact Nat.lt_of_lt_of_le hi (Nat.le_trans m2 (by decide)), fun b o e => ?_, vs ++ [.ref a], rows ++ [row], upd_same, by simp [g2], ?_, ?_⟩
        · rw [upd_ne (ne_of_none e nD)]
          exact sm _ _ (s' b o e)
        · refine (g3.pmono fun v r ⟨a', h1, h2, h3, h4⟩ => ⟨a', h1, by rw [upd_ne h4]; exact sm _ _ h2, h3, h4⟩).papp (.cons ⟨a, rfl, by rw [upd_ne aD]; exact ha, aH, aD⟩ .nil)
        · intro r hr
          rcases List.mem_append.mp hr with h | h
          · exact g4 r h
          · have : r = row := by simpa using h
            rw [this]; exact hl
      obtain ⟨s1, vs, rows, g1, g2, g3, g4⟩ := hx
      have g2 : vs.length = mm := by rw [g2]; omega
      have rl : rows.length = mm := by rw [← g3.plen]; exact g2
      -- handed = [..]
      refine ⟨_, rfl, D, rfl, ⟨_, SqL.of g1⟩, fun D2 nD2 => lc_list (xs := vs) (fun i H'' => Same H' H'' ∧ ∃ bs : List V, H'' D2 = some (.lst bs) ∧ bs.length = i ∧ Paired (fun v (row : Row) => ∃ a, v = .ref a ∧ H'' a = some (.lst (row.map V.int)) ∧ H' a = none ∧ a ≠ D2) bs (rows.take i)) ⟨Same.alloc nD2, [], upd_same, rfl, .nil⟩ (fun i H'' _ hx => SqL.of (hx.1 _ _ g1)) (fun i y H'' hi hx => ?_) (fun H'' hx => ?_)⟩
      · obtain ⟨s', bs, k1, k2, k3⟩ := hx
        obtain ⟨row, hrow, a, rfl, ha, haH, haD⟩ := g3.pget hi
        have il : i < rows.length := g_lt hrow
        refine ⟨rfl, _, rfl, a, _, rfl, .inl (SqL.of (s' _ _ ha)), fun b nb => ⟨bs, ?_, by rw [k2]; exact Nat.lt_of_lt_of_le (Nat.lt_of_lt_of_le il (by omega : rows.length ≤ 32)) (by decide), ?_⟩⟩
        · rw [upd_ne (ne_of_none k1 nb)]; exact k1
        · have bD : b ≠ D2 := (ne_of_none k1 nb).symm
          have bH : H' b = none := s'.free nb
          refine ⟨fun c' o e => ?_, bs ++ [.ref b], upd_same, by simp [k2], ?_⟩
          · rw [upd_ne (ne_of_none e nD2), upd_ne (ne_of_none (s' c' o e) nb)]; exact s' c' o e
          · rw [List.take_succ, hrow]
            refine (k3.pmono fun v row ⟨a, h1, h2, h3, h4⟩ => ⟨a, h1, by rw [upd_ne h4, upd_ne (ne_of_none h2 nb)]; exact h2, h3, h4⟩).papp (.cons ⟨b, rfl, by rw [upd_ne bD, upd_same], bH, bD⟩ .nil)
      obtain ⟨s2, bs, k1, k2, k3⟩ := hx
      rw [g3.plen, List.take_length] at k3
      have k2 : bs.length = mm := by rw [k2, g2]
      -- the copy that will be changed
      obtain ⟨rowz, hrowz⟩ : ∃ row, rows[mm - 1]? = some row := ⟨_, List.getElem?_eq_getElem (by omega)⟩
      obtain ⟨bz, hbz, z, rfl, hz, hzH, hzD⟩ := k3.pget' hrowz
      have s12 : Same H H'' := s1.trans s2
      have hzH0 : H z = none := s1.free hzH
      have hr4 : rowz.length = 4 := g4 _ (List.mem_of_getElem? hrowz)
      have x1 : WdX K k (tag O z (8 * k + 8)) H'' p ra ha fa kvs W := x.kp (P := Nop) (Stp.tagn hD s12 hzH0 hz) (fun _ _ z => z)
      have t1 : Stp (wP k) O H (tag O z (8 * k + 8)) H'' := Stp.tagn hD s12 hzH0 hz
      have Dz : D ≠ z := ne_of_none g1 hzH
      have D2z : D2 ≠ z := hzD.symm
      have DH : H D = none := nD
      have D2H : H D2 = none := s1.free nD2
      have o1 : ∀ {a : Addr}, H a = none → a ≠ z → tag O z (8 * k + 8) a = none := fun h1 h2 => by rw [tag_ne h2]; exact hD.none h1
      have oD : tag O z (8 * k + 8) D = none := o1 DH Dz
      have oD2 : tag O z (8 * k + 8) D2 = none := o1 D2H D2z
      have oz : tag O z (8 * k + 8) z = some (8 * k + 8) := tag_same
      have pr : Paired (RowV (tag O z (8 * k + 8)) H'') vs rows := g3.pmono fun v row ⟨a, h1, h2, h3, h4⟩ => ⟨a, h1, s2 _ _ h2, o1 h3 (ne_of_none h2 hzH)⟩
      have g1' := s2 _ _ g1
      generalize tag O z (8 * k + 8) = O1 at x1 t1 oD oD2 oz pr
      -- store.files.make(name, handed)
      obtain ⟨dx, fr, di, sh, fi, ho, y⟩ := x1.st
      obtain ⟨fdx, fd, fkv, f⟩ := y.fi
      refine ⟨_, rfl, p, _, dx, _, _, rfl, y.ob, T.c_Store, T.n_Store_files, stFs_fi .., fi, fdx, _, rfl, f.ob, rfl, _, rfl, _, rfl, fi, D2, W.S.fs, n, bs, rows, _, O1, rfl, y.fi, t1.dm, hn, k1, k3.pmono fun v row ⟨a, h1, h2, _⟩ => ⟨a, h1, h2⟩, by omega, by omega, fun O2 H2 t2 f2 => ?_⟩
      have y2 := y.setFi t2 f2
      have x2 := x1.setS (t2.mono stP3) (show StAt K k O2 H2 p { W.S with fs := W.S.fs ++ [(n, rows)] } from ⟨dx, fr, di, sh, fi, ho, y2⟩)
      have oz2 := (t2.at_role hz oz (fun e => by omega)).2
      have hz2 := (t2.at_role hz oz (fun e => by omega)).1
      have hD2 := t2.at_none k1 oD2
      have hDm := t2.at_none g1' oD
      have pr2 := pr.pmono fun v row h => RowV.kp h t2
      -- handed[many - 1][cell % 4] = 4
      obtain ⟨j, jl, ej⟩ := nat_of (Int.emod_nonneg c (by decide : (4 : Int) ≠ 0)) (show c % 4 < ((4 : Nat) : Int) by omega)
      refine ⟨_, rfl, _, rfl, _, _, rfl, rfl, D2, _, _, _, rfl, rfl, SqL.of hD2.1, at_of (j := mm - 1) (by omega) hbz, _, rfl, _, _, rfl, rfl, (by show (0 : Int) < 4; decide), z, _, _, j, rfl, rfl, hz2, by rw [ej]; exact ixN_ok (by rw [List.length_map, hr4]; exact jl), ?_⟩
      have ku : Kp (· = 8 * k + 8) O2 H2 (untag O2 z) (upd H2 z (.lst ((rowz.map V.int).set j (.int 4)))) := Kp.untag oz2
      have x3 := x2.kq ku wPu
      have s3 : Stp (wP k) O H (untag O2 z) (upd H2 z (.lst ((rowz.map V.int).set j (.int 4)))) := (t1.trans (t2.mono fun r h => wPs r (stP3 r h))).untag hzH0
      have pr3 := pr2.pmono fun v row h => RowV.kq h ku
      have hDm3 := ku.at_none hDm.1 hDm.2
      generalize (upd H2 z (.lst ((rowz.map V.int).set j (.int 4)))) = H3 at ku x3 s3 pr3 hDm3 ⊢
      generalize untag O2 z = O3 at ku x3 s3 pr3 hDm3
      -- sizes[name] = many
      have kl : (fK W.lf).length < sizeLine := by
        unfold fK
        rw [List.length_map, I.ff, List.length_map]
        exact Nat.lt_of_le_of_lt (by omega : W.S.fs.length ≤ 1000) (by decide)
      refine ⟨_, rfl, _, rfl, _, rfl, fa, _, rfl, DPut.k (k := Sum.inr n) x3.hfa kl, ?_⟩
      rw [fK_put, pt_new hlf]
      have s4 : Stp (· = 8 * k + 7) O3 H3 O3 (upd H3 fa (.dK (fK (W.lf ++ [(n, (mm : Int))])))) := Stp.write s3.dm x3.ofa rfl
      have x4 := x3.setF (lf' := W.lf ++ [(n, (mm : Int))]) s4 upd_same
      have pr4 := pr3.pmono fun v row h => RowV.kp h s4
      have hDm4 := s4.at_none hDm3.1 hDm3.2
      generalize (upd H3 fa (.dK (fK (W.lf ++ [(n, (mm : Int))])))) = H4 at s4 x4 pr4 hDm4 ⊢
      -- for page in range(many): rows[..] = made[page]
      refine ⟨_, rfl, _, rfl, by omega, by omega, ?_⟩
      refine for_range (fun i σ H' => σ[1]? = some (some (.ref ra)) ∧ σ[3]? = some (some (.str n)) ∧ σ[7]? = some (some (.ref D)) ∧ σ.length = 11 ∧ Stp (wP k) O3 H4 O3 H' ∧ ∃ kvs', WdX K k O3 H' p ra ha fa kvs' { W with S := { W.S with fs := W.S.fs ++ [(n, rows)] }, lf := W.lf ++ [(n, (mm : Int))], lr := addN W.lr n rows i }) ⟨rfl, rfl, rfl, rfl, Stp.refl s4.dm, kvs, x4⟩ (fun i σ H' hi hx => ?_) (fun σ H' hx => ?_)
      · obtain ⟨f1, f3, f7, fl, st, kvs', x5⟩ := hx
        have hi : i < mm := by simpa using hi
        obtain ⟨c0, c1, c2, c3, c4, c5, c6, c7, c8, c9, c10, rfl⟩ : ∃ c0 c1 c2 c3 c4 c5 c6 c7 c8 c9 c10, σ = [c0, c1, c2, c3, c4, c5, c6, c7, c8, c9, c10] := by
          match σ, fl with
          | [c0, c1, c2, c3, c4, c5, c6, c7, c8, c9, c10], _ => exact ⟨c0, c1, c2, c3, c4, c5, c6, c7, c8, c9, c10, rfl⟩
        obtain ⟨row, hrow⟩ : ∃ row, rows[i]? = some row := ⟨_, List.getElem?_eq_getElem (by omega)⟩
        obtain ⟨v, hv, rv⟩ := pr4.pget' hrow
        have hDm5 := st.at_none hDm4.1 hDm4.2
        have kl5 : kvs'.length < sizeLine := by
          rw [x5.dk.plen]
          have := addN_len (lr := W.lr) (n := n) (rows := rows) i
          exact Nat.lt_of_le_of_lt (by show (addN W.lr n rows i).length ≤ 7000; omega) (by decide)
        refine ⟨_, f7, _, rfl, D, _, _, _, rfl, rfl, SqL.of hDm5.1, at_of (Int.zero_add _) hv, _, f1, _, f3, _, rfl, (by show 3 ≤ sizeLine; decide), fun tq nq => ?_⟩
        rw [Int.zero_add]
        have s6 : Stp Nop O3 H' O3 (upd H' tq (.tup [.str "file", .str n, .int i])) := Stp.alloc st.dm nq
        have t6 : (upd H' tq (.tup [.str "file", .str n, .int i])) tq = some (.tup ((Thing.file n i).key.map kV)) := upd_same
        have x6 := x5.nop s6
        have rv6 := (rv.kp st).kp s6
        generalize (upd H' tq (.tup [.str "file", .str n, .int i])) = H6 at s6 t6 x6 rv6 ⊢
        refine ⟨ra, _, rfl, DPut.t (k := (Thing.file n i).key) x6.hra t6 kl5, ?_⟩
        have s7 : Stp (· = 8 * k + 5) O3 H6 O3 (upd H6 ra (.dT (putK kvs' (Thing.file n i).key v))) := Stp.write s6.dm x6.ora rfl
        have er : rows.getD i [] = row := by rw [List.getD_eq_getElem?_getD, hrow] <;> rfl
        have x7 := x6.setR s7 upd_same (Dk.put (k := Thing.file n i) (x6.dk.pmono fun _ _ z => ⟨z.1, z.2.kp s7⟩) key_inj' (rv6.kp s7))
        rw [← er] at x7
        exact ⟨f1, f3, f7, rfl, st.trans (s6.nop.trans (s7.mono wP5)), _, x7⟩
      · obtain ⟨f1, f3, f7, fl, st, kvs', x5⟩ := hx
        rw [show ((mm : Int)).toNat = rows.length by rw [rl]; simp, ← rl] at x5
        exact q O3 H' _ (s3.trans ((s4.mono wP7).trans st)) ⟨_, x5⟩ (I.make hn hnok g4 (by omega) (by omega)) rfl rfl
end
end Pw


set_option Elab.async false
set_option linter.all false
set_option maxRecDepth 100000
set_option maxHeartbeats 4000000
namespace Pw
open PySem PySem.Spec PyProof.Rows L2
def spLCopied (K : PySem.W.Frag) : Sp := fun vs H Q _ => ∃ (p ra ha fa : Addr) (k m : Nat) (W : Wd) (room c : Int) (O : Own), vs = [.ref p, .ref ra, .ref ha, .int room, .int c] ∧ room = (W.S.ts.length : Int) - 1 + (W.S.ss.length : Int) ∧ WdAt K k O H p ra ha fa W ∧ Dm O H ∧ WI m W ∧ m ≤ 100 ∧ 0 ≤ c ∧ c < 2 ^ 40 ∧ Post K k O H p ra ha fa m W Q
def spLDeed (K : PySem.W.Frag) : Sp := fun vs H Q _ => ∃ (p ra ha fa : Addr) (k m : Nat) (W : Wd) (room c : Int) (n : Str) (O : Own), vs = [.ref p, .int W.S.ts.length, .int room, .ref ra, .ref ha, .ref fa, .str n, .int c] ∧ room = (W.S.ts.length : Int) - 1 + (W.S.ss.length : Int) ∧ WdAt K k O H p ra ha fa W ∧ Dm O H ∧ WI m W ∧ m ≤ 100 ∧ PyData.strOk n = true ∧ 0 ≤ c ∧ c < 2 ^ 40 ∧ Post K k O H p ra ha fa m W Q
section
variable {P : Program} {w : World} {K : PySem.W.Frag} {mg : Str → Option Value} {base : Heap}
theorem ok_l_copied (T : Tx K mg) : C8.Cal P w K mg base 8 "_law_copied" (spLCopied K) [] := by
  refine mkCal T.fd_l_copied T.g__law_copied sc_l_copied (fun _ _ _ _ _ _ us hl => match us, hl with | [_, _, _, _, _], _ => rfl) (fun vs H Q E h => ?_) (fun cdv A outer s H vs Q E hr h => ?_)
  · obtain ⟨p, ra, ha, fa, k, m, W, room, c, O, rfl, hroom, hw, hD, I, hm, hc0, hc1, q⟩ := h
    rfl
  · obtain ⟨p, ra, ha, fa, k, m, W, room, c, O, rfl, hroom, hw, hD, I, hm, hc0, hc1, q⟩ := h
    refine ⟨_, (pss_cons (ps_set (i := 5) sc_l_copied.nd rfl (by first | exact Or.inl rfl | exact Or.inr rfl) (pe_callTy (call_list_dT rfl) (by rfl) T.b_list (by decide +kernel) (pa_cons (pv 1) pa_nil)))
      (pss_cons (ps_if (pt_cmpR op_eq (pe_callB call_len_seq (by rfl) T.b_len PySem.boot_len (pa_cons (pv 5) pa_nil)) pe_int (nomark _)) (pss_one (ps_ret (C8.pe_c (ok_l_new T) hr (by decide) rfl (pa_cons (pv 0) (pa_cons (pv 1) (pa_cons (pv 2) (pa_cons (pv 3) (pa_cons (C8.pe_c (ok_l_row T) hr (by decide) rfl (pa_cons (pv 4) pa_nil)) pa_nil)))))))) pss_nil)
      (pss_cons (ps_set (i := 6) sc_l_copied.nd rfl (by first | exact Or.inl rfl | exact Or.inr rfl) (pe_ix (r := rIxL K) ix_list (pv 5) (pe_op op_mod (pv 4) (pe_callB call_len_seq (by rfl) T.b_len PySem.boot_len (pa_cons (pv 5) pa_nil))) (fun _ _ => rfl)))
      (pss_cons (ps_set (i := 7) sc_l_copied.nd rfl (by first | exact Or.inl rfl | exact Or.inr rfl) (C8.pe_c (ok_row_now T) hr (by decide) rfl (pa_cons (pv 0) (pa_cons (pv 6) pa_nil))))
      (pss_cons (ps_if (PW.pt (pw_or (pt_not (pt_val (C8.pe_c (ok_l_alike T) hr (by decide) rfl (pa_cons (pv 7) (pa_cons (pe_dget (hu_of hr) (pv 1) (pv 6) (fun _ _ => rfl)) pa_nil))))) (pw_or1 (pt_not (pt_val (C8.pe_c (ok_l_new T) hr (by decide) rfl (pa_cons (pv 0) (pa_cons (pv 1) (pa_cons (pv 2) (pa_cons (pv 3) (pa_cons (pe_callTy (T := "list") (r := rListOf K) call_list_of (by rfl) T.b_list (by decide +kernel) (pa_cons (pe_dget (hu_of hr) (pv 1) (pv 6) (fun _ _ => rfl)) pa_nil)) pa_nil))))))))))) (pss_one (ps_ret pe_bl)) pss_nil)
      (pss_one (ps_ret (C8.pe_c (ok_l_alike T) hr (by decide) rfl (pa_cons (pv 7) (pa_cons (pe_dget (hu_of hr) (pv 1) (pv 6) (fun _ _ => rfl)) pa_nil)))))))))), ?_⟩
    obtain ⟨kvs, x⟩ := hw
    have b2 := I.b2
    refine ⟨_, rfl, ra, kvs, rfl, .inl x.hra, fun a bs na hk => ?_⟩
    obtain ⟨bl, bk⟩ := x.keys hD I hk
    have s1 : Stp Nop O H O (upd H a (.lst (bs.map V.ref))) := Stp.alloc hD na
    have a1 : (upd H a (.lst (bs.map V.ref))) a = some (.lst (bs.map V.ref)) := upd_same
    generalize (upd H a (.lst (bs.map V.ref))) = H1 at s1 a1 ⊢
    have x1 := x.nop s1
    refine ⟨_, rfl, a, _, rfl, .inl (SqL.of a1), rfl, _, rfl, ?_⟩
    rw [List.length_map]
    by_cases h0 : bs.length = 0
    · refine iteTe (decide_eq_true (congrArg V.int (by omega))) ?_
      refine ⟨_, rfl, _, rfl, _, rfl, _, rfl, _, rfl, _, rfl, by omega, by omega, fun row d H2 l4 sm nd hd => ?_⟩
      have s2 : Stp Nop O H1 O H2 := Stp.of_same s1.dm sm
      refine ⟨p, ra, ha, fa, d, k, m, W, room, row, O, rfl, hroom, ⟨kvs, x1.nop s2⟩, s2.dm, I, hm, hd, s1.dm.none nd, l4, fun O' H' W' s' w' I' e1 e2 _ => ?_⟩
      exact q O' H' W' (s1.nop.trans (s2.nop.trans s')) w' I' e1 e2
    refine iteFe (decide_eq_false fun z => h0 (by injection z; omega)) ?_
    have lpos : (0 : Int) < (bs.length : Int) := by omega
    obtain ⟨j, hj, ej⟩ := nat_of (Int.emod_nonneg c (by omega : (bs.length : Int) ≠ 0)) (Int.emod_lt_of_pos c lpos)
    obtain ⟨b, hb⟩ : ∃ b, bs[j]? = some b := ⟨_, List.getElem?_eq_getElem hj⟩
    have hj' : (bs.map V.ref)[j]? = some (.ref b) := by rw [List.getElem?_map, hb] <;> rfl
    obtain ⟨t, row, hlr, ht, hlk⟩ := bk j b hb
    obtain ⟨hHas, hrow4, htok⟩ := I.has t row hlk
    refine ⟨_, rfl, _, rfl, _, rfl, a, _, rfl, .inl (SqL.of a1), _, _, rfl, rfl, by rw [List.length_map]; exact lpos, a, _, _, _, rfl, rfl, SqL.of a1, at_of (by rw [List.length_map]; exact ej) hj', ?_⟩
    have ht1 := ht.kp s1
    obtain ⟨_, eb, hb1, hbO, _⟩ := ht1
    cases eb
    have ht1 := ht.kp s1
    -- row_now
    refine ⟨_, rfl, _, rfl, p, k, W.S, .ref b, t, row, O, rfl, x1.st, I.si, ht1, hHas, fun w1 nw1 => ?_⟩
    have s2 : Stp Nop O H1 O (upd H1 w1 (.lst (row.map V.int))) := Stp.alloc s1.dm nw1
    have w2 : (upd H1 w1 (.lst (row.map V.int))) w1 = some (.lst (row.map V.int)) := upd_same
    generalize (upd H1 w1 (.lst (row.map V.int))) = H2 at s2 w2 ⊢
    have x2 := x1.nop s2
    have wO : O w1 = none := s1.dm.none nw1
    have hb2 := s2.same _ _ hb1
    obtain ⟨ga, g2, ga2, gaO⟩ := x2.get (show lk W.lr t = some row from hlk) hb2
    refine ⟨_, rfl, _, rfl, _, rfl, ra, _, rfl, g2, _, _, rfl, alk_row w2 ga2 (by omega) 1, _, rfl, iteF ?_⟩
    -- new
    refine ⟨_, rfl, _, rfl, _, rfl, _, rfl, _, rfl, _, rfl, ra, _, rfl, g2, ga, _, rfl, .inl (SqL.of ga2), fun d nd => ?_⟩
    have s3 : Stp Nop O H2 O (upd H2 d (.lst (row.map V.int))) := Stp.alloc s2.dm nd
    have d3 : (upd H2 d (.lst (row.map V.int))) d = some (.lst (row.map V.int)) := upd_same
    generalize (upd H2 d (.lst (row.map V.int))) = H3 at s3 d3 ⊢
    have x3 := x2.nop s3
    refine ⟨p, ra, ha, fa, d, k, m, W, room, row, O, rfl, hroom, ⟨kvs, x3⟩, s3.dm, I, hm, d3, s2.dm.none nd, hrow4, fun O' H' W' s' w' I' e1 e2 el => ?_⟩
    obtain ⟨kvs', x'⟩ := w'
    have hb' := (s'.at_none (s3.same _ _ hb2) hbO).1
    have w1' := (s'.at_none (s3.same _ _ w2) wO).1
    obtain ⟨ga', g', ga2', _⟩ := x'.get (el t row hlk) hb'
    refine ⟨_, rfl, iteF ?_⟩
    refine ⟨_, rfl, _, rfl, _, rfl, ra, _, rfl, g', _, _, rfl, alk_row w1' ga2' (by omega) 1, ?_⟩
    exact q O' H' W' (s1.nop.trans (s2.nop.trans (s3.nop.trans s'))) ⟨kvs', x'⟩ I' e1 e2
theorem ok_l_deed (T : Tx K mg) : C8.Cal P w K mg base 9 "_law_deed" (spLDeed K) [] := by
  refine mkCal T.fd_l_deed T.g__law_deed sc_l_deed (fun _ _ _ _ _ _ us hl => match us, hl with | [_, _, _, _, _, _, _, _], _ => rfl) (fun vs H Q E h => ?_) (fun cdv A outer s H vs Q E hr h => ?_)
  · obtain ⟨p, ra, ha, fa, k, m, W, room, c, n, O, rfl, hroom, hw, hD, I, hm, hnok, hc0, hc1, q⟩ := h
    rfl
  · obtain ⟨p, ra, ha, fa, k, m, W, room, c, n, O, rfl, hroom, hw, hD, I, hm, hnok, hc0, hc1, q⟩ := h
    refine ⟨_, (pss_cons (ps_set (i := 8) sc_l_deed.nd rfl (by first | exact Or.inl rfl | exact Or.inr rfl) (pe_op op_mod (pv 7) pe_int))
      (pss_cons (ps_if (pt_cmpR op_lt (pv 8) pe_int (nomark _)) (pss_one (ps_ret (C8.pe_c (ok_l_new T) hr (by decide) rfl (pa_cons (pv 0) (pa_cons (pv 3) (pa_cons (pv 4) (pa_cons (pv 2) (pa_cons (C8.pe_c (ok_l_row T) hr (by decide) rfl (pa_cons (pe_op op_fdiv (pv 7) pe_int) pa_nil)) pa_nil)))))))) pss_nil)
      (pss_cons (ps_if (pt_cmpR op_lt (pv 8) pe_int (nomark _)) (pss_one (ps_ret (C8.pe_c (ok_l_copied T) hr (by decide) rfl (pa_cons (pv 0) (pa_cons (pv 3) (pa_cons (pv 4) (pa_cons (pv 2) (pa_cons (pe_op op_fdiv (pv 7) pe_int) pa_nil)))))))) pss_nil)
      (pss_cons (ps_if (pt_cmpR op_eq (pv 8) pe_int (nomark _)) (pss_cons (ps_expr (C8.pe_c (ok_l_file T) hr (by decide) rfl (pa_cons (pv 0) (pa_cons (pv 3) (pa_cons (pv 5) (pa_cons (pv 6) (pa_cons (pe_op op_fdiv (pv 7) pe_int) pa_nil)))))))
      (pss_one (ps_ret pe_bl))) pss_nil)
      (pss_cons (ps_if (pt_cmpR op_lt (pv 8) pe_int (nomark _)) (pss_one (ps_ret (C8.pe_c (ok_l_counted T) hr (by decide) rfl (pa_cons (pv 0) (pa_cons (pv 3) (pa_cons (pv 4) (pa_cons (pe_op op_fdiv (pv 7) pe_int) pa_nil))))))) pss_nil)
      (pss_cons (ps_if (pt_cmpR op_lt (pv 8) pe_int (nomark _)) (pss_one (ps_ret (C8.pe_c (ok_l_moved T) hr (by decide) rfl (pa_cons (pv 0) (pa_cons (pv 1) (pa_cons (pv 3) (pa_cons (pe_op op_fdiv (pv 7) pe_int) pa_nil))))))) pss_nil)
      (pss_one (ps_ret (C8.pe_c (ok_l_written T) hr (by decide) rfl (pa_cons (pv 0) (pa_cons (pv 1) (pa_cons (pv 3) (pa_cons (pe_op op_fdiv (pv 7) pe_int) pa_nil))))))))))))), ?_⟩
    have d16 : CDiv c 16 := ⟨by decide, by decide⟩
    have d48 : CDiv c 48 := ⟨by decide, by decide⟩
    refine ⟨_, rfl, _, _, rfl, rfl, (by show (0 : Int) < 16; decide), ?_⟩
    refine ⟨_, rfl, _, _, rfl, rfl, _, rfl, ?_⟩
    refine ite2 (fun _ => ?_) (fun _ => ?_)
    · refine ⟨_, rfl, _, rfl, _, rfl, _, rfl, _, rfl, _, _, rfl, rfl, d16, _, rfl, by omega, by omega, fun row d H2 l4 sm nd hd => ?_⟩
      have s2 : Stp Nop O H O H2 := Stp.of_same hD sm
      refine ⟨p, ra, ha, fa, d, k, m, W, room, row, O, rfl, hroom, hw.kp s2 (fun _ _ z => z), s2.dm, I, hm, hd, hD.none nd, l4, fun O' H' W' s' w' I' e1 e2 _ => ?_⟩
      exact q O' H' W' (s2.nop.trans s') w' I' e1 e2
    refine ⟨_, rfl, _, _, rfl, rfl, _, rfl, ?_⟩
    refine ite2 (fun _ => ?_) (fun _ => ?_)
    · exact ⟨_, rfl, _, rfl, _, rfl, _, rfl, _, rfl, _, _, rfl, rfl, d16, p, ra, ha, fa, k, m, W, room, c / 16, O, rfl, hroom, hw, hD, I, hm, by omega, by omega, q⟩
    refine ⟨_, rfl, rfl, _, rfl, ?_⟩
    refine ite2 (fun _ => ?_) (fun _ => ?_)
    · refine ⟨_, rfl, _, rfl, _, rfl, _, rfl, _, rfl, _, _, rfl, rfl, d48, p, ra, ha, fa, k, m, W, n, c / 48, O, rfl, hw, hD, I, hm, hnok, by omega, by omega, fun O' H' W' s' w' I' e1 e2 => ?_⟩
      exact q O' H' W' s' w' I' e1 e2
    refine ⟨_, rfl, _, _, rfl, rfl, _, rfl, ?_⟩
    refine ite2 (fun _ => ?_) (fun _ => ?_)
    · exact ⟨_, rfl, _, rfl, _, rfl, _, rfl, _, _, rfl, rfl, d16, p, ra, ha, fa, k, m, W, c / 16, O, rfl, hw, hD, I, hm, by omega, q⟩
    refine ⟨_, rfl, _, _, rfl, rfl, _, rfl, ?_⟩
    refine ite2 (fun _ => ?_) (fun _ => ?_)
    · exact ⟨_, rfl, _, rfl, _, rfl, _, rfl, _, _, rfl, rfl, d16, p, ra, ha, fa, k, m, W, c / 16, O, rfl, hw, hD, I, hm, by omega, q⟩
    · exact ⟨_, rfl, _, rfl, _, rfl, _, rfl, _, _, rfl, rfl, d16, p, ra, ha, fa, k, m, W, c / 16, O, rfl, hw, hD, I, hm, by omega, by omega, q⟩
end
end Pw


set_option Elab.async false
set_option linter.all false
set_option maxRecDepth 100000
set_option maxHeartbeats 4000000
namespace Pw
open PySem PySem.Spec PyProof.Rows L2
def spLIsKept (K : PySem.W.Frag) : Sp := fun vs H Q _ => ∃ (p ra ha fa : Addr) (k m : Nat) (W : Wd) (n : Str) (c : Int) (O : Own), vs = [.ref p, .ref ra, .ref fa, .str n, .int c] ∧ WdAt K k O H p ra ha fa W ∧ Dm O H ∧ WI m W ∧ m ≤ 62 ∧ PyData.strOk n = true ∧ 0 ≤ c ∧ ∀ H', Stp Nop O H O H' → Q (.bl true) H'
def spLIsAll (K : PySem.W.Frag) : Sp := fun vs H Q _ => ∃ (p ra ha fa : Addr) (k m : Nat) (W : Wd) (O : Own), vs = [.ref p, .ref ra] ∧ WdAt K k O H p ra ha fa W ∧ Dm O H ∧ WI m W ∧ m ≤ 62 ∧ ∀ H', Stp (wP k) O H O H' → Q (.bl true) H'
theorem alk_rows {H : Hp} {a b : Addr} {xs ys : List V} (ha : H a = some (.lst xs)) (hb : H b = some (.lst ys)) (hl : xs.length = ys.length) (hs : xs.length ≤ 1000)
    (h : ∀ (i : Nat) x y, xs[i]? = some x → ys[i]? = some y → ∃ (c d : Addr) (row : Row), x = .ref c ∧ y = .ref d ∧ H c = some (.lst (row.map V.int)) ∧ H d = some (.lst (row.map V.int)) ∧ row.length ≤ 1000) : Alk H 2 (.ref a) (.ref b) :=
  .inr ⟨a, b, xs, ys, rfl, rfl, .inl ⟨ha, hb⟩, hl, hs, fun i x y hx hy => by
    obtain ⟨c, d, row, rfl, rfl, h1, h2, h3⟩ := h i x y hx hy
    exact alk_row h1 h2 h3 0⟩
section
variable {P : Program} {w : World} {K : PySem.W.Frag} {mg : Str → Option Value} {base : Heap}
theorem ok_l_is_kept (T : Tx K mg) : C8.Cal P w K mg base 6 "_law_is_kept" (spLIsKept K) [] := by
  refine mkCal T.fd_l_is_kept T.g__law_is_kept sc_l_is_kept (fun _ _ _ _ _ _ us hl => match us, hl with | [_, _, _, _, _], _ => rfl) (fun vs H Q E h => ?_) (fun cdv A outer s H vs Q E hr h => ?_)
  · obtain ⟨p, ra, ha, fa, k, m, W, n, c, O, rfl, hw, hD, I, hm, hnok, hc0, q⟩ := h
    rfl
  · obtain ⟨p, ra, ha, fa, k, m, W, n, c, O, rfl, hw, hD, I, hm, hnok, hc0, q⟩ := h
    refine ⟨_, (pss_cons (ps_set (i := 5) sc_l_is_kept.nd rfl (by first | exact Or.inl rfl | exact Or.inr rfl) (pe_callTy (call_list_dT rfl) (by rfl) T.b_list (by decide +kernel) (pa_cons (pv 1) pa_nil)))
      (pss_cons (ps_if (pt_cmpR op_gt (pe_callB call_len_seq (by rfl) T.b_len PySem.boot_len (pa_cons (pv 5) pa_nil)) pe_int (nomark _)) (pss_cons (ps_set (i := 6) sc_l_is_kept.nd rfl (by first | exact Or.inl rfl | exact Or.inr rfl) (pe_ix (r := rIxL K) ix_list (pv 5) (pe_op op_mod (pv 4) (pe_callB call_len_seq (by rfl) T.b_len PySem.boot_len (pa_cons (pv 5) pa_nil))) (fun _ _ => rfl)))
      (pss_one (ps_if (pt_not (pt_val (C8.pe_c (ok_l_alike T) hr (by decide) rfl (pa_cons (C8.pe_c (ok_row_now T) hr (by decide) rfl (pa_cons (pv 0) (pa_cons (pv 6) pa_nil))) (pa_cons (pe_dget (hu_of hr) (pv 1) (pv 6) (fun _ _ => rfl)) pa_nil))))) (pss_one (ps_ret pe_bl)) pss_nil))) pss_nil)
      (pss_cons (ps_if (pt_cmp (pc_dnotin (hu_of hr) (pv 3) (pv 2)) (by rfl)) (pss_one (ps_ret (pe_cmpR op_notIn_seq (pv 3) (C8.pe_mt0 (ok_Files_names T) hr (by decide) (pe_fld (pv 0) rfl)) (by rfl)))) pss_nil)
      (pss_cons (ps_if (PW.pt (pw_and (pt_cmpR op_gt (pe_dget (hu_of hr) (pv 2) (pv 3) (fun _ _ => rfl)) pe_int (nomark _)) (pw_and1 (pt_cmpR op_gt (pe_op op_mod (pv 4) pe_int) pe_int (nomark _))))) (pss_one (ps_ret pe_bl)) pss_nil)
      (pss_one (ps_ret (C8.pe_c (ok_l_alike T) hr (by decide) rfl (pa_cons (C8.pe_c (ok_file_now T) hr (by decide) rfl (pa_cons (pv 0) (pa_cons (pv 3) pa_nil))) (pa_cons (pe_lc (own := [("_law_page", 7)]) (g := gName 7) (tt := tYes) rfl sc_l_is_kept.nd (pi_range1 (by rfl) T.b_range (pa_cons (pe_dget (hu_of hr) (pv 2) (pv 3) (fun _ _ => rfl)) pa_nil)) (blkOk_by (own := [("_law_page", 7)]) (N := ["_law_store", "_law_rows", "_law_sizes_here", "_law_name_here", "_law_cell", "_law_things", "_law_thing", "_law_page"]) (sc := defScope s_l_is_kept) (by decide +kernel)) (fun _ _ _ _ _ => pg_name (i := 7) sc_l_is_kept.nd rfl (Or.inl rfl)) (fun _ _ _ _ _ => pts_nil) (fun _ _ _ _ _ => (pe_dget (hu_of hr) (pv 1) (pe_tup (pa_cons pe_str (pa_cons (pv 3) (pa_cons (pv 7) pa_nil)))) (fun _ _ => rfl)))) pa_nil))))))))), ?_⟩
    obtain ⟨kvs, x⟩ := hw
    have b2 := I.b2
    have b3 := I.b3
    refine ⟨_, rfl, ra, kvs, rfl, .inl x.hra, fun a bs na hk => ?_⟩
    obtain ⟨bl, bk⟩ := x.keys hD I hk
    have s1 : Stp Nop O H O (upd H a (.lst (bs.map V.ref))) := Stp.alloc hD na
    have a1 : (upd H a (.lst (bs.map V.ref))) a = some (.lst (bs.map V.ref)) := upd_same
    generalize (upd H a (.lst (bs.map V.ref))) = H1 at s1 a1 ⊢
    have x1 := x.nop s1
    refine ⟨_, rfl, a, _, rfl, .inl (SqL.of a1), _, _, rfl, rfl, _, rfl, ?_⟩
    rw [List.length_map]
    refine joinN (N := ?N) (fun (σ : List (Option V)) (H' : Hp) => Stp Nop O H O H' ∧ ∃ v6, σ = [some (.ref p), some (.ref ra), some (.ref fa), some (.str n), some (.int c), some (.ref a), v6, none]) ?h1 ?h2
    case h1 =>
      intro rest
      by_cases h0 : bs.length = 0
      · refine iteFe (decide_eq_false (by omega)) ?_
        exact rest _ _ ⟨s1, none, rfl⟩
      refine iteTe (decide_eq_true (by omega)) ?_
      have lpos : (0 : Int) < (bs.length : Int) := by omega
      obtain ⟨j, hj, ej⟩ := nat_of (Int.emod_nonneg c (by omega : (bs.length : Int) ≠ 0)) (Int.emod_lt_of_pos c lpos)
      obtain ⟨b, hb⟩ : ∃ b, bs[j]? = some b := ⟨_, List.getElem?_eq_getElem hj⟩
      have hj' : (bs.map V.ref)[j]? = some (.ref b) := by rw [List.getElem?_map, hb] <;> rfl
      obtain ⟨t, row, hlr, ht, hlk⟩ := bk j b hb
      obtain ⟨hHas, hrow4, htok⟩ := I.has t row hlk
      refine ⟨_, rfl, _, rfl, _, rfl, a, _, rfl, .inl (SqL.of a1), _, _, rfl, rfl, by rw [List.length_map]; exact lpos, a, _, _, _, rfl, rfl, SqL.of a1, at_of (by rw [List.length_map]; exact ej) hj', ?_⟩
      have ht1 := ht.kp s1
      obtain ⟨_, eb, hb1, hbO, _⟩ := ht1
      cases eb
      have ht1 := ht.kp s1
      refine ⟨_, rfl, _, rfl, p, k, W.S, .ref b, t, row, O, rfl, x1.st, I.si, ht1, hHas, fun w1 nw1 => ?_⟩
      have s2 : Stp Nop O H1 O (upd H1 w1 (.lst (row.map V.int))) := Stp.alloc s1.dm nw1
      have w2 : (upd H1 w1 (.lst (row.map V.int))) w1 = some (.lst (row.map V.int)) := upd_same
      generalize (upd H1 w1 (.lst (row.map V.int))) = H2 at s2 w2 ⊢
      have x2 := x1.nop s2
      obtain ⟨ga, g2, ga2, gaO⟩ := x2.get (show lk W.lr t = some row from hlk) (s2.same _ _ hb1)
      refine ⟨_, rfl, _, rfl, ra, _, rfl, g2, _, _, rfl, alk_row w2 ga2 (by omega) 1, _, rfl, iteF ?_⟩
      exact rest _ _ ⟨s1.trans s2, _, rfl⟩
    case' h2 => rintro σ H2 ⟨s2, v6, rfl⟩
    have x2 := x.nop s2
    cases hn : lk W.S.fs n with
    | none =>
      have hlf : lk W.lf n = none := by rw [I.ff, lk_ff, hn] <;> rfl
      refine ⟨_, rfl, _, rfl, fa, _, rfl, fmiss x2.hfa hlf, _, rfl, iteT ?_⟩
      obtain ⟨dx, fr, di, sh, fi, ho, y⟩ := x2.st
      have yf := y.fi
      obtain ⟨fdx, fd, fkv, f⟩ := y.fi
      refine ⟨_, rfl, _, rfl, p, _, dx, _, _, rfl, y.ob, T.c_Store, T.n_Store_files, stFs_fi .., fi, fdx, _, rfl, f.ob, rfl, fi, W.S.fs, _, O, rfl, yf, by omega, fun ys b hy nb => ?_⟩
      have s3 : Stp Nop O H2 O (upd H2 b (.lst (ys.map V.str))) := Stp.alloc s2.dm nb
      refine ⟨b, _, rfl, .inl (SqL.of upd_same), rfl, by rw [List.all_map]; exact List.all_eq_true.mpr fun _ _ => rfl, ?_⟩
      have e : inV (.str n) (ys.map V.str) = false := by
        unfold inV
        rw [List.any_map, List.any_eq_false]
        intro z hz h
        have ez : z = n := by
          have h : (z == n) = true := h
          exact eq_of_beq h
        rw [ez] at hz
        exact (hy n).mp hz hn
      rw [e]
      exact q _ (s2.trans s3)
    | some rows =>
      obtain ⟨l1, l2⟩ := I.fl n rows hn
      have hlf : lk W.lf n = some (rows.length : Int) := by rw [I.ff, lk_ff, hn] <;> rfl
      refine ⟨_, rfl, _, rfl, fa, _, rfl, fget x2.hfa hlf, _, rfl, iteF ?_⟩
      refine joinN (N := ?M) (fun (σ : List (Option V)) (H' : Hp) => H' = H2 ∧ σ = [some (.ref p), some (.ref ra), some (.ref fa), some (.str n), some (.int c), some (.ref a), v6, none]) ?g1 ?g2
      case g1 =>
        intro rest
        refine ⟨_, rfl, _, rfl, fa, _, rfl, fget x2.hfa hlf, _, _, rfl, rfl, _, rfl, ?_⟩
        refine ite2 (fun _ => ?_) (fun _ => ?_)
        · refine ⟨_, rfl, _, _, rfl, rfl, (by show (0 : Int) < 4; decide), _, _, rfl, rfl, _, rfl, ?_⟩
          refine ite2 (fun _ => ?_) (fun _ => ?_)
          · exact q H2 s2
          · exact rest _ _ ⟨rfl, rfl⟩
        · exact rest _ _ ⟨rfl, rfl⟩
      case' g2 => rintro σ H' ⟨eH, rfl⟩
      subst H'
      -- file_now
      refine ⟨_, rfl, _, rfl, p, k, W.S, n, rows, O, rfl, x2.st, s2.dm, I.si, hnok, hn, fun D H3 vs s3 dn d3 dl' dv => ?_⟩
      have t3 : Stp Nop O H2 O H3 := Stp.of_same s2.dm s3
      have x3 := x2.nop t3
      refine ⟨_, rfl, _, rfl, fa, _, rfl, fget x3.hfa hlf, _, rfl, by omega, by omega, fun E nE => lc_range (fun i H' => Same H3 H' ∧ ∃ ys : List V, H' E = some (.lst ys) ∧ ys.length = i ∧ ∀ (j : Nat) y, ys[j]? = some y → ∃ (d : Addr) (row : Row), y = .ref d ∧ lk W.lr (.file n j) = some row ∧ H3 d = some (.lst (row.map V.int))) ⟨Same.alloc nE, [], upd_same, rfl, fun j y h => by simp at h⟩ (fun i H' hi hx => ?_) (fun H' hx => ?_)⟩
      · obtain ⟨s', ys, e1, e2, e3⟩ := hx
        have hi : i < rows.length := by simpa using hi
        obtain ⟨row, hrow⟩ := Option.ne_none_iff_exists'.mp (I.fil n rows i hn (by omega) (by omega))
        have t' : Stp Nop O H3 O H' := Stp.of_same t3.dm s'
        refine ⟨rfl, _, rfl, _, rfl, _, rfl, (by show 3 ≤ sizeLine; decide), fun tq nq => ?_⟩
        rw [Int.zero_add]
        have s6 : Stp Nop O H' O (upd H' tq (.tup [.str "file", .str n, .int i])) := Stp.alloc t'.dm nq
        have t6 : (upd H' tq (.tup [.str "file", .str n, .int i])) tq = some (.tup ((Thing.file n i).key.map kV)) := upd_same
        generalize (upd H' tq (.tup [.str "file", .str n, .int i])) = H6 at s6 t6 ⊢
        have x6 := (x3.nop t').nop s6
        obtain ⟨v, hv, d, rfl, hd, _⟩ := x3.dk.sm key_inj' hrow
        have g6 := DGet.t (k := (Thing.file n i).key) x6.hra t6
        rw [hv] at g6
        have e6 := s6.same _ _ e1
        refine ⟨ra, _, rfl, g6, ys, e6, by rw [e2]; exact Nat.lt_of_lt_of_le hi (Nat.le_trans l2 (by decide)), fun b o e => ?_, ys ++ [.ref d], upd_same, by simp [e2], fun j y hj => ?_⟩
        · rw [upd_ne (ne_of_none e nE)]
          exact s6.same _ _ (s' b o e)
        · by_cases hji : j < ys.length
          · rw [List.getElem?_append_left hji] at hj
            exact e3 j y hj
          · have hl := g_lt hj
            rw [List.length_append] at hl
            simp only [List.length_cons, List.length_nil] at hl
            have ej : j = i := by omega
            subst ej
            rw [List.getElem?_append_right (by omega), e2, Nat.sub_self] at hj
            cases hj
            exact ⟨d, row, rfl, hrow, hd⟩
      obtain ⟨s', ys, e1, e2, e3⟩ := hx
      have e2 : ys.length = rows.length := by rw [e2]; simp
      refine ⟨_, _, rfl, alk_rows (s' _ _ d3) e1 (by rw [dl', e2]) (by omega) (fun i v y hv hy => ?_), ?_⟩
      · obtain ⟨d, row, rfl, hlk, hd⟩ := e3 i y hy
        obtain ⟨hHas, hrow4, _⟩ := I.has _ row hlk
        obtain ⟨a', rfl, ha', _⟩ := dv i v row hv hHas
        exact ⟨a', d, row, rfl, rfl, s' _ _ ha', s' _ _ hd, by omega⟩
      · exact q _ (s2.trans (t3.trans (Stp.of_same t3.dm s')))
theorem ok_l_is_all (T : Tx K mg) : C8.Cal P w K mg base 7 "_law_is_all" (spLIsAll K) [] := by
  refine mkCal T.fd_l_is_all T.g__law_is_all sc_l_is_all (fun _ _ _ _ _ _ us hl => match us, hl with | [_, _], _ => rfl) (fun vs H Q E h => ?_) (fun cdv A outer s H vs Q E hr h => ?_)
  · obtain ⟨p, ra, ha, fa, k, m, W, O, rfl, hw, hD, I, hm, q⟩ := h
    rfl
  · obtain ⟨p, ra, ha, fa, k, m, W, O, rfl, hw, hD, I, hm, q⟩ := h
    refine ⟨_, (pss_cons (ps_for PassesOwn.never rfl (pi_list (pe_callTy (call_list_dT rfl) (by rfl) T.b_list (by decide +kernel) (pa_cons (pv 1) pa_nil))) (pg_name (i := 2) sc_l_is_all.nd rfl (by first | exact Or.inl rfl | exact Or.inr rfl)) (pss_one (ps_if (pt_not (pt_val (C8.pe_c (ok_l_alike T) hr (by decide) rfl (pa_cons (C8.pe_c (ok_row_now T) hr (by decide) rfl (pa_cons (pv 0) (pa_cons (pv 2) pa_nil))) (pa_cons (pe_dget (hu_of hr) (pv 1) (pv 2) (fun _ _ => rfl)) pa_nil))))) (pss_one (ps_ret pe_bl)) pss_nil)))
      (pss_cons (ps_for PassesOwn.never rfl (pi_list (pe_callTy (call_list_dT rfl) (by rfl) T.b_list (by decide +kernel) (pa_cons (pv 1) pa_nil))) (pg_name (i := 2) sc_l_is_all.nd rfl (by first | exact Or.inl rfl | exact Or.inr rfl)) (pss_cons (ps_set (i := 3) sc_l_is_all.nd rfl (by first | exact Or.inl rfl | exact Or.inr rfl) (C8.pe_c (ok_bring T) hr (by decide) rfl (pa_cons (pv 0) (pa_cons (pv 2) pa_nil))))
      (pss_cons (ps_if (PW.pt (pw_or (pt_not (pt_val (pe_callB call_isi (by rfl) T.b_isinstance (by decide +kernel) (pa_cons (pv 3) (pa_cons (pe_bltn (v := .ty "tuple") (by rfl) T.b_tuple (by decide +kernel) rfl) pa_nil))))) (pw_or1 (pt_not (pt_val (C8.pe_c (ok_l_alike T) hr (by decide) rfl (pa_cons (C8.pe_mt (ok_Frames_where T) hr (by decide) (pe_fld (pv 0) rfl) (pa_cons (pv 2) pa_nil)) (pa_cons (pe_ix (r := rIxT K) ix_tup (pv 3) pe_int (fun _ _ => rfl)) pa_nil)))))))) (pss_one (ps_ret pe_bl)) pss_nil)
      (pss_one (ps_if (pt_not (pt_val (C8.pe_c (ok_l_alike T) hr (by decide) rfl (pa_cons (C8.pe_mt (ok_Frames_row_in T) hr (by decide) (pe_fld (pv 0) rfl) (pa_cons (pe_ix (r := rIxT K) ix_tup (pv 3) pe_int (fun _ _ => rfl)) pa_nil)) (pa_cons (pe_dget (hu_of hr) (pv 1) (pv 2) (fun _ _ => rfl)) pa_nil))))) (pss_one (ps_ret pe_bl)) pss_nil)))))
      (pss_one (ps_ret pe_bl)))), ?_⟩
    obtain ⟨kvs, x⟩ := hw
    refine ⟨_, rfl, ra, kvs, rfl, .inl x.hra, fun a bs na hk => ?_⟩
    obtain ⟨bl, bk⟩ := x.keys hD I hk
    have s1 : Stp Nop O H O (upd H a (.lst (bs.map V.ref))) := Stp.alloc hD na
    have a1 : (upd H a (.lst (bs.map V.ref))) a = some (.lst (bs.map V.ref)) := upd_same
    generalize (upd H a (.lst (bs.map V.ref))) = H1 at s1 a1 ⊢
    refine ⟨a, rfl, ⟨_, SqL.of a1⟩, for_list (xs := bs.map V.ref) (fun i σ H' => (∃ v2, σ = [some (.ref p), some (.ref ra), v2, none]) ∧ Stp Nop O H1 O H') ⟨⟨_, rfl⟩, Stp.refl s1.dm⟩ (fun i σ H' _ hx => SqL.of (hx.2.same _ _ a1)) (fun i y σ H' hi hx => ?_) (fun σ H' hx => ?_)⟩
    · obtain ⟨⟨v2, rfl⟩, s2⟩ := hx
      obtain ⟨b, hb, rfl⟩ : ∃ b, bs[i]? = some b ∧ y = .ref b := by
        rw [List.getElem?_map] at hi
        obtain ⟨b, h1, h2⟩ := Option.map_eq_some_iff.mp hi
        exact ⟨b, h1, h2.symm⟩
      obtain ⟨t, row, hlr, ht, hlk⟩ := bk i b hb
      obtain ⟨hHas, hrow4, htok⟩ := I.has t row hlk
      have s02 := s1.trans s2
      have ht1 := ht.kp s02
      obtain ⟨_, eb, hb1, hbO, _⟩ := ht1
      cases eb
      have ht1 := ht.kp s02
      have x2 := x.nop s02
      refine ⟨_, rfl, _, rfl, p, k, W.S, .ref b, t, row, O, rfl, x2.st, I.si, ht1, hHas, fun w1 nw1 => ?_⟩
      have s3 : Stp Nop O H' O (upd H' w1 (.lst (row.map V.int))) := Stp.alloc s2.dm nw1
      have w3 : (upd H' w1 (.lst (row.map V.int))) w1 = some (.lst (row.map V.int)) := upd_same
      generalize (upd H' w1 (.lst (row.map V.int))) = H3 at s3 w3 ⊢
      have x3 := x2.nop s3
      obtain ⟨ga, g3, ga3, gaO⟩ := x3.get (show lk W.lr t = some row from hlk) (s3.same _ _ hb1)
      refine ⟨_, rfl, _, rfl, ra, _, rfl, g3, _, _, rfl, alk_row w3 ga3 (by omega) 1, _, rfl, iteF ?_⟩
      exact ⟨⟨_, rfl⟩, s2.trans s3⟩
    obtain ⟨⟨v2, rfl⟩, s2⟩ := hx
    have s02 := s1.trans s2
    have x2 := x.nop s02
    clear hk bl bk
    refine ⟨_, rfl, ra, kvs, rfl, .inl x2.hra, fun a' cs na' hk => ?_⟩
    obtain ⟨bl, bk⟩ := x2.keys s02.dm I hk
    have s3 : Stp Nop O H' O (upd H' a' (.lst (cs.map V.ref))) := Stp.alloc s02.dm na'
    have a3 : (upd H' a' (.lst (cs.map V.ref))) a' = some (.lst (cs.map V.ref)) := upd_same
    generalize (upd H' a' (.lst (cs.map V.ref))) = H3 at s3 a3 ⊢
    have a3O : O a' = none := s02.dm.none na'
    have x3 := x2.nop s3
    refine ⟨a', rfl, ⟨_, SqL.of a3⟩, for_list (xs := cs.map V.ref) (fun i σ H4 => (∃ v2 v3, σ = [some (.ref p), some (.ref ra), v2, v3]) ∧ Stp (wP k) O H3 O H4 ∧ ∃ S', WdX K k O H4 p ra ha fa kvs { W with S := S' } ∧ SI none S' ∧ Mv W.S S') ⟨⟨_, _, rfl⟩, Stp.refl s3.dm, W.S, x3, I.si, Mv.refl _⟩ (fun i σ H4 _ hx => SqL.of (hx.2.1.at_none a3 a3O).1) (fun i y σ H4 hi hx => ?_) (fun σ H4 hx => ?_)⟩
    · obtain ⟨⟨v2, v3, rfl⟩, s4, S', x4, I4, M4⟩ := hx
      obtain ⟨b, hb, rfl⟩ : ∃ b, cs[i]? = some b ∧ y = .ref b := by
        rw [List.getElem?_map] at hi
        obtain ⟨b, h1, h2⟩ := Option.map_eq_some_iff.mp hi
        exact ⟨b, h1, h2.symm⟩
      obtain ⟨t, row, hlr, ht, hlk⟩ := bk i b hb
      obtain ⟨hHas, hrow4, htok⟩ := I.has t row hlk
      have hHas' := M4.has t row hHas
      have ht4 := (ht.kp s3).kp s4
      -- found = bring(store, thing)
      refine ⟨_, rfl, _, rfl, p, k, S', .ref b, t, row, O, rfl, x4.st, s4.dm, I4, ht4, hHas', fun i' fb r H5 S5 s5 st5 I5 M5 e5 hr5 rO => ?_⟩
      have x5 := x4.setS s5 st5
      have ht5 := ht4.kp s5
      obtain ⟨_, eb, hb5, hbO, _⟩ := ht5
      cases eb
      have ht5 : ThV O H5 (.ref b) t := ht4.kp s5
      have hrow : S5.rs[i']? = some row := by
        rcases M5.has t row hHas' with ⟨i2, h1, h2⟩ | ⟨h1, _⟩
        · rw [I5.dis i' i2 t e5 h1]; exact h2
        · exact absurd e5 (h1 i')
      refine ⟨_, rfl, .ref r, .ty "tuple", .type "tuple", .type "tuple", true, rfl, .ty _, .base (.tup hr5), kit_ty (by decide +kernel), _, rfl, iteF ?_⟩
      obtain ⟨dx, fr, di, sh, fi, ho, y⟩ := st5
      have yf := y.fr
      obtain ⟨fdx, _, _, _, _, _, f⟩ := y.fr
      refine ⟨_, rfl, p, _, dx, _, _, rfl, y.ob, T.c_Store, T.n_Store_frames, stFs_fr .., fr, fdx, _, rfl, f.ob, rfl, _, rfl, fr, S5.ts, S5.rs, S5.so, .ref b, t, _, O, rfl, yf, ht5, fun i2 hi2 => ?_, fun hno => absurd e5 (hno i')⟩
      have ei : i2 = i' := I5.dis i2 i' t hi2 e5
      subst ei
      refine ⟨_, rfl, r, _, _, _, rfl, rfl, SqT.of hr5, at_of (j := 0) rfl rfl, _, _, rfl, alk_int _ _, _, rfl, iteF ?_⟩
      refine ⟨_, rfl, p, _, dx, _, _, rfl, y.ob, T.c_Store, T.n_Store_frames, stFs_fr .., fr, fdx, _, rfl, f.ob, rfl, _, rfl, r, _, _, _, rfl, rfl, SqT.of hr5, at_of (j := 0) rfl rfl, fr, S5.ts, S5.rs, S5.so, i2, row, _, O, rfl, yf, hrow, fun w1 nw1 => ?_⟩
      have s6 : Stp Nop O H5 O (upd H5 w1 (.lst (row.map V.int))) := Stp.alloc s5.dm nw1
      have w6 : (upd H5 w1 (.lst (row.map V.int))) w1 = some (.lst (row.map V.int)) := upd_same
      generalize (upd H5 w1 (.lst (row.map V.int))) = H6 at s6 w6 ⊢
      have x6 := x5.nop s6
      obtain ⟨ga, g6, ga6, _⟩ := x6.get (show lk W.lr t = some row from hlk) (s6.same _ _ hb5)
      refine ⟨_, rfl, _, rfl, ra, _, rfl, g6, _, _, rfl, alk_row w6 ga6 (by omega) 1, _, rfl, iteF ?_⟩
      exact ⟨⟨_, _, rfl⟩, s4.trans ((s5.mono wPs).trans s6.nop), S5, x6, I5, M4.trans M5⟩
    obtain ⟨_, s4, _⟩ := hx
    exact q _ (s02.nop.trans (s3.nop.trans s4))
end
end Pw


set_option Elab.async false
set_option linter.all false
set_option maxRecDepth 100000
set_option maxHeartbeats 4000000
namespace Pw
open PySem PySem.Spec PyProof.Rows L2
/-! ### the two worlds -/
def S0 (n m : Nat) : Sto := ⟨List.replicate n none, List.replicate n [], List.replicate n false, List.replicate m none, [], [], [], 0⟩
theorem rep_no {α : Type} {n i : Nat} {x : α} : (List.replicate n (none : Option α))[i]? ≠ some (some x) := by
  rw [List.getElem?_replicate]
  split
  · exact fun z => nomatch z
  · exact fun z => nomatch z
theorem SI.init {n m : Nat} (h : 1 ≤ n) : SI none (S0 n m) := by
  have l : (S0 n m).ts.length = n := List.length_replicate ..
  have ls : (S0 n m).ss.length = m := List.length_replicate ..
  refine ⟨(List.length_replicate ..).trans l.symm, (List.length_replicate ..).trans l.symm, by omega, fun i j t e => absurd e rep_no, fun i s e => absurd e rep_no, fun s e => absurd rfl e, fun s e => absurd rfl e, fun i n' p e => absurd e rep_no,
    fun s => ⟨fun ⟨j, e⟩ => absurd e rep_no, fun e => absurd rfl e⟩, fun i j s e => absurd e rep_no, List.nodup_nil, ?_, List.nodup_nil, ?_, (fun s e => nomatch e), fun s e => absurd rfl e, List.nodup_nil⟩
  · show 0 + cN (List.replicate m none) = _
    rw [cN_rep, ls, Nat.zero_add]
  · show 0 + 1 ≤ _
    omega
theorem WI.init {n m : Nat} (h : 1 ≤ n) : WI 0 ⟨S0 n m, [], [], []⟩ :=
  ⟨SI.init h, (fun t row e => nomatch e), fun s e => absurd rfl e, (fun n rows p e => nomatch e), fun s e => absurd rfl e, fun n p e => absurd rfl e, rfl, (fun i p e => nomatch e), rfl, rfl, List.nodup_nil, Nat.le_refl _, Nat.zero_le _, Nat.le_refl _, (fun n rows e => nomatch e)⟩
def Un (O : Own) (H : Hp) (b : Addr) (o : HO) : Prop := H b = some o ∧ O b = none
def ScAt (K : PySem.W.Frag) (O : Own) (H : Hp) (a : Addr) (xs : List V) : Prop := (∃ o, H a = some o ∧ O a = none ∧ ∀ H' : Hp, H' a = some o → SqL K H' a xs) ∨ ∀ H' : Hp, SqL K H' a xs
theorem ScAt.of {K : PySem.W.Frag} {H : Hp} {a : Addr} {xs : List V} (h : SqL K H a xs) : ScAt K (fun _ => none) H a xs := by
  rcases h with (h | ⟨o, h⟩) | h
  · exact .inl ⟨_, h, rfl, fun H' e => .inl (.inl e)⟩
  · exact .inl ⟨_, h, rfl, fun H' e => .inl (.inr ⟨o, e⟩)⟩
  · exact .inr fun H' => .inr h
def pk {α : Type} (x y : α) : Nat → α
  | 0 => x
  | _ + 1 => y
theorem pk_two {f : Nat → V} : ∀ {j : Nat}, j < 2 → [f 0, f 1][j]? = some (f j)
  | 0, _ => rfl
  | 1, _ => rfl
  | j + 2, h => absurd h (by omega)
theorem pk_all {M : Nat → Prop} (h0 : M 0) (h1 : M 1) : ∀ j, j < 2 → M j
  | 0, _ => h0
  | 1, _ => h1
  | j + 2, h => absurd h (by omega)
section
variable {P : Nat → Prop} {K : PySem.W.Frag} {O O1 : Own} {H H1 : Hp} {a b : Addr} {o : HO} {xs : List V}
theorem Un.kp (h : Un O H b o) (s : Stp P O H O1 H1) : Un O1 H1 b o := s.at_none h.1 h.2
theorem ScAt.kp (h : ScAt K O H a xs) (s : Stp P O H O1 H1) : ScAt K O1 H1 a xs := by
  rcases h with ⟨o, h1, h2, h3⟩ | h
  · exact .inl ⟨o, (s.at_none h1 h2).1, (s.at_none h1 h2).2, h3⟩
  · exact .inr h
theorem ScAt.sq (h : ScAt K O H a xs) : SqL K H a xs := by
  rcases h with ⟨o, h1, h2, h3⟩ | h
  · exact h3 H h1
  · exact h H
end
structure LawI (K : PySem.W.Frag) (ns : List Int) (a z st nm rl hl fl : Addr) (p ra ha fa zz : Nat → Addr) (nn mm : Nat → Nat) (ys : List Str) (O : Own) (H : Hp) : Prop where
  sc : ScAt K O H a (ns.map V.int)
  hz : Un O H z (.lst [.ref (zz 0), .ref (zz 1)])
  hzz : ∀ j, j < 2 → Un O H (zz j) (.tup [.int (nn j), .int (mm j)])
  hst : Un O H st (.lst [.ref (p 0), .ref (p 1)])
  hnm : Un O H nm (.lst (ys.map V.str))
  hrl : Un O H rl (.lst [.ref (ra 0), .ref (ra 1)])
  hhl : Un O H hl (.lst [.ref (ha 0), .ref (ha 1)])
  hfl : Un O H fl (.lst [.ref (fa 0), .ref (fa 1)])
def AllW (K : PySem.W.Frag) (p ra ha fa : Nat → Addr) (nn mm : Nat → Nat) (i : Nat) (O : Own) (H : Hp) (W : Nat → Wd) : Prop := ∀ j, j < 2 → WdAt K j O H (p j) (ra j) (ha j) (fa j) (W j) ∧ WI i (W j) ∧ (W j).S.ts.length = nn j ∧ (W j).S.ss.length = mm j
section
variable {K : PySem.W.Frag} {P : Nat → Prop} {ns : List Int} {a z st nm rl hl fl : Addr} {p ra ha fa zz : Nat → Addr} {nn mm : Nat → Nat} {ys : List Str} {O O1 : Own} {H H1 : Hp} {W : Nat → Wd} {W' : Wd} {i j : Nat}
theorem LawI.kp (x : LawI K ns a z st nm rl hl fl p ra ha fa zz nn mm ys O H) (s : Stp P O H O1 H1) : LawI K ns a z st nm rl hl fl p ra ha fa zz nn mm ys O1 H1 :=
  ⟨x.sc.kp s, x.hz.kp s, fun j h => (x.hzz j h).kp s, x.hst.kp s, x.hnm.kp s, x.hrl.kp s, x.hhl.kp s, x.hfl.kp s⟩
theorem AllW.nop (x : AllW K p ra ha fa nn mm i O H W) (s : Stp Nop O H O1 H1) : AllW K p ra ha fa nn mm i O1 H1 W := fun j h => ⟨(x j h).1.kp s fun _ _ z => z, (x j h).2⟩
theorem AllW.step (x : AllW K p ra ha fa nn mm i O H W) (s : Stp (wP j) O H O1 H1) (w : WdAt K j O1 H1 (p j) (ra j) (ha j) (fa j) W') (I : WI (i + 1) W') (e1 : W'.S.ts.length = nn j) (e2 : W'.S.ss.length = mm j) :
    AllW K p ra ha fa nn mm (i + 1) O1 H1 (fun l => if l = j then W' else W l) := fun l h => by
  by_cases e : l = j
  · subst e
    show WdAt K l O1 H1 (p l) (ra l) (ha l) (fa l) (if l = l then W' else W l) ∧ WI (i + 1) (if l = l then W' else W l) ∧ (if l = l then W' else W l).S.ts.length = nn l ∧ (if l = l then W' else W l).S.ss.length = mm l
    rw [if_pos rfl]
    exact ⟨w, I, e1, e2⟩
  · show WdAt K l O1 H1 (p l) (ra l) (ha l) (fa l) (if l = j then W' else W l) ∧ WI (i + 1) (if l = j then W' else W l) ∧ (if l = j then W' else W l).S.ts.length = nn l ∧ (if l = j then W' else W l).S.ss.length = mm l
    rw [if_neg e]
    obtain ⟨y1, y2, y3, y4⟩ := x l h
    exact ⟨y1.kp s fun r h1 h2 => by
      have a1 := h1.1
      have a2 := h1.2
      have a3 := h2.1
      have a4 := h2.2
      omega, y2.mono (Nat.le_succ i), y3, y4⟩
end
theorem cut_int {ns : List Int} {lo hi : Option Int} {k : Nat} {v : V} (h : (cutV (ns.map V.int) lo hi)[k]? = some v) : ∃ r : Int, v = .int r := by
  unfold cutV at h
  rw [← List.map_drop, ← List.map_take, List.getElem?_map] at h
  obtain ⟨r, _, e⟩ := Option.map_eq_some_iff.mp h
  exact ⟨r, e.symm⟩
theorem cut_len {ns : List Int} (h : ns.length ≤ 63) : (cutV (ns.map V.int) (some 2) (some 80)).length ≤ 61 := by
  unfold cutV
  rw [List.length_take, List.length_drop, show (some (2 : Int)) = some (((2 : Nat) : Int)) from rfl, HT.sIx_nat, List.length_map]
  omega
end Pw


set_option Elab.async false
set_option linter.all false
set_option maxRecDepth 100000
set_option maxHeartbeats 4000000
namespace Pw
open PySem PySem.Spec PyProof.Rows L2
def spLaw (K : PySem.W.Frag) : Sp := fun vs H Q _ => ∃ (a : Addr) (ns : List Int), vs = [.ref a] ∧ ns.length ≤ 63 ∧ SqL K H a (ns.map V.int) ∧ ∀ H', Q (.bl true) H'
structure LawB (K : PySem.W.Frag) (ns : List Int) (a z st nm z0 z1 p0 p1 : Addr) (n0 m0 n1 m1 : Nat) (ys : List Str) (O : Own) (H : Hp) : Prop where
  sc : ScAt K O H a (ns.map V.int)
  u0 : Un O H z0 (.tup [.int n0, .int m0])
  u1 : Un O H z1 (.tup [.int n1, .int m1])
  uz : Un O H z (.lst [.ref z0, .ref z1])
  ust : Un O H st (.lst [.ref p0, .ref p1])
  unm : Un O H nm (.lst (ys.map V.str))
  st0 : StAt K 0 O H p0 (S0 n0 m0)
  st1 : StAt K 1 O H p1 (S0 n1 m1)
theorem LawB.nop {K : PySem.W.Frag} {ns : List Int} {a z st nm z0 z1 p0 p1 : Addr} {n0 m0 n1 m1 : Nat} {ys : List Str} {O O1 : Own} {H H1 : Hp} (x : LawB K ns a z st nm z0 z1 p0 p1 n0 m0 n1 m1 ys O H) (s : Stp Nop O H O1 H1) : LawB K ns a z st nm z0 z1 p0 p1 n0 m0 n1 m1 ys O1 H1 :=
  ⟨x.sc.kp s, x.u0.kp s, x.u1.kp s, x.uz.kp s, x.ust.kp s, x.unm.kp s, x.st0.kp s fun _ _ z => z, x.st1.kp s fun _ _ z => z⟩
def Rl (O : Own) (H : Hp) (b : Addr) (r : Nat) (o : HO) : Prop := H b = some o ∧ O b = some r
theorem Rl.nop {O O1 : Own} {H H1 : Hp} {b : Addr} {r : Nat} {o : HO} (x : Rl O H b r o) (s : Stp Nop O H O1 H1) : Rl O1 H1 b r o := s.at_role x.1 x.2 fun z => z
section
variable {P : Program} {w : World} {K : PySem.W.Frag} {mg : Str → Option Value} {base : Heap}
theorem ok_lawF {fd : FuncData} (F : FunD K "law" "law" (defArgs s_law) (defBody s_law) (defScope s_law) [] [] (He.ga K "law") fd) (T : Tx K mg) : FnOk P w K mg base C8.CX0 10 (He.ga K "law") fd ["_law_script"] (spLaw K) := by
  refine F.ok sc_law (fun vs H Q E h => ?_) (fun cdv A outer s H vs Q E hr h => ?_)
  · obtain ⟨a, ns, rfl, _⟩ := h
    rfl
  · obtain ⟨a, ns, rfl, hns, hsq, q⟩ := h
    refine ⟨_, PSs.nox (pss_cons (ps_set (i := 1) sc_law.nd rfl (by first | exact Or.inl rfl | exact Or.inr rfl) (pe_lst (pa_cons (C8.pe_c (ok_l_sizes T) hr (by decide) rfl (pa_cons (C8.pe_c (ok_l_cell_at T) hr (by decide) rfl (pa_cons (pv 0) (pa_cons pe_int pa_nil))) pa_nil)) (pa_cons (C8.pe_c (ok_l_sizes T) hr (by decide) rfl (pa_cons (pe_op op_fdiv (C8.pe_c (ok_l_cell_at T) hr (by decide) rfl (pa_cons (pv 0) (pa_cons pe_int pa_nil))) pe_int) pa_nil)) pa_nil))))
      (pss_cons (ps_set (i := 2) sc_law.nd rfl (by first | exact Or.inl rfl | exact Or.inr rfl) (pe_lst (pa_cons (C8.pe_mk (ok_Store_init T) hr (by decide) rfl (pa_cons (pe_ix (r := rIxT K) ix_tup (pe_ix (r := rIxL K) ix_list (pv 1) pe_int (fun _ _ => rfl)) pe_int (fun _ _ => rfl)) (pa_cons (pe_ix (r := rIxT K) ix_tup (pe_ix (r := rIxL K) ix_list (pv 1) pe_int (fun _ _ => rfl)) pe_int (fun _ _ => rfl)) pa_nil))) (pa_cons (C8.pe_mk (ok_Store_init T) hr (by decide) rfl (pa_cons (pe_ix (r := rIxT K) ix_tup (pe_ix (r := rIxL K) ix_list (pv 1) pe_int (fun _ _ => rfl)) pe_int (fun _ _ => rfl)) (pa_cons (pe_ix (r := rIxT K) ix_tup (pe_ix (r := rIxL K) ix_list (pv 1) pe_int (fun _ _ => rfl)) pe_int (fun _ _ => rfl)) pa_nil))) pa_nil))))
      (pss_cons (ps_setLc (i := 3) (own := [("_law_turn", 4)]) (g := gName 4) (tt := tYes) rfl sc_law.nd rfl rfl (sw_true rfl rfl rfl (by decide +kernel)) (pi_range1 (by rfl) T.b_range (pa_cons pe_int pa_nil)) (blkOk_by (own := [("_law_turn", 4)]) (N := ["_law_script", "_law_sizes_here", "_law_stores", "_law_names", "_law_turn", "_law_rows", "_law_holders", "_law_files", "_law_raw", "_law_cell", "_law_at", "_law_name_here", "_law_room", "_law_k", "_law_which"]) (sc := defScope s_law) (by decide +kernel)) (fun _ _ _ _ _ => pg_name (i := 4) sc_law.nd rfl (Or.inl rfl)) (fun _ _ _ _ _ => pts_nil) (fun _ _ _ _ _ => (C8.pe_c (ok_l_name T) hr (by decide) rfl (pa_cons (C8.pe_c (ok_l_cell_at T) hr (by decide) rfl (pa_cons (pv 0) (pa_cons pe_int pa_nil))) (pa_cons (pv 4) pa_nil)))))
      (pss_cons (ps_set (i := 5) sc_law.nd rfl (by first | exact Or.inl rfl | exact Or.inr rfl) (pe_lst (pa_cons pe_dnewT (pa_cons pe_dnewT pa_nil))))
      (pss_cons (ps_set (i := 6) sc_law.nd rfl (by first | exact Or.inl rfl | exact Or.inr rfl) (pe_lst (pa_cons pe_dnewK (pa_cons pe_dnewK pa_nil))))
      (pss_cons (ps_set (i := 7) sc_law.nd rfl (by first | exact Or.inl rfl | exact Or.inr rfl) (pe_lst (pa_cons pe_dnewK (pa_cons pe_dnewK pa_nil))))
      (pss_cons (ps_for PassesOwn.never rfl (pi_list (pe_slice sl_list (pv 0) (po_some pe_int) (po_some pe_int))) (pg_name (i := 8) sc_law.nd rfl (by first | exact Or.inl rfl | exact Or.inr rfl)) (pss_cons (ps_set (i := 9) sc_law.nd rfl (by first | exact Or.inl rfl | exact Or.inr rfl) (pe_op op_mod (pe_op op_mul (pv 8) pe_int) pe_int))
      (pss_cons (ps_set (i := 10) sc_law.nd rfl (by first | exact Or.inl rfl | exact Or.inr rfl) (pe_op op_mod (pe_op op_mod (pe_op op_mul (pe_op op_add (pv 8) (C8.pe_c (ok_l_cell_at T) hr (by decide) rfl (pa_cons (pv 0) (pa_cons pe_int pa_nil)))) pe_int) pe_int) pe_int))
      (pss_cons (ps_set (i := 11) sc_law.nd rfl (by first | exact Or.inl rfl | exact Or.inr rfl) (pe_ix (r := rIxL K) ix_list (pv 3) (pe_op op_mod (pe_op op_fdiv (pv 9) pe_int) pe_int) (fun _ _ => rfl)))
      (pss_cons (ps_set (i := 12) sc_law.nd rfl (by first | exact Or.inl rfl | exact Or.inr rfl) (pe_op op_add (pe_op op_sub (pe_ix (r := rIxT K) ix_tup (pe_ix (r := rIxL K) ix_list (pv 1) (pv 10) (fun _ _ => rfl)) pe_int (fun _ _ => rfl)) pe_int) (pe_ix (r := rIxT K) ix_tup (pe_ix (r := rIxL K) ix_list (pv 1) (pv 10) (fun _ _ => rfl)) pe_int (fun _ _ => rfl))))
      (pss_cons (ps_if (pt_not (pt_val (C8.pe_c (ok_l_deed T) hr (by decide) rfl (pa_cons (pe_ix (r := rIxL K) ix_list (pv 2) (pv 10) (fun _ _ => rfl)) (pa_cons (pe_ix (r := rIxT K) ix_tup (pe_ix (r := rIxL K) ix_list (pv 1) (pv 10) (fun _ _ => rfl)) pe_int (fun _ _ => rfl)) (pa_cons (pv 12) (pa_cons (pe_ix (r := rIxL K) ix_list (pv 5) (pv 10) (fun _ _ => rfl)) (pa_cons (pe_ix (r := rIxL K) ix_list (pv 6) (pv 10) (fun _ _ => rfl)) (pa_cons (pe_ix (r := rIxL K) ix_list (pv 7) (pv 10) (fun _ _ => rfl)) (pa_cons (pv 11) (pa_cons (pv 9) pa_nil))))))))))) (pss_one (ps_ret pe_bl)) pss_nil)
      (pss_one (ps_for PassesOwn.never rfl (pi_range1 (by rfl) T.b_range (pa_cons pe_int pa_nil)) (pg_name (i := 13) sc_law.nd rfl (by first | exact Or.inl rfl | exact Or.inr rfl)) (pss_cons (ps_set (i := 14) sc_law.nd rfl (by first | exact Or.inl rfl | exact Or.inr rfl) (pe_op op_mod (pe_op op_add (pv 13) (pe_op op_fdiv (pv 9) pe_int)) pe_int))
      (pss_one (ps_if (pt_not (pt_val (C8.pe_c (ok_l_is_kept T) hr (by decide) rfl (pa_cons (pe_ix (r := rIxL K) ix_list (pv 2) (pv 14) (fun _ _ => rfl)) (pa_cons (pe_ix (r := rIxL K) ix_list (pv 5) (pv 14) (fun _ _ => rfl)) (pa_cons (pe_ix (r := rIxL K) ix_list (pv 7) (pv 14) (fun _ _ => rfl)) (pa_cons (pv 11) (pa_cons (pe_op op_fdiv (pv 9) pe_int) pa_nil)))))))) (pss_one (ps_ret pe_bl)) pss_nil)))))))))))
      (pss_one (ps_ret (pe_and (C8.pe_c (ok_l_is_all T) hr (by decide) rfl (pa_cons (pe_ix (r := rIxL K) ix_list (pv 2) pe_int (fun _ _ => rfl)) (pa_cons (pe_ix (r := rIxL K) ix_list (pv 5) pe_int (fun _ _ => rfl)) pa_nil))) (pe_one (C8.pe_c (ok_l_is_all T) hr (by decide) rfl (pa_cons (pe_ix (r := rIxL K) ix_list (pv 2) pe_int (fun _ _ => rfl)) (pa_cons (pe_ix (r := rIxL K) ix_list (pv 5) pe_int (fun _ _ => rfl)) pa_nil)))))))))))))), ?_⟩
    have sc0 := ScAt.of hsq
    have D0 : Dm (fun _ => none) H := fun _ _ e => nomatch e
    generalize (fun _ => none : Own) = O at sc0 D0
    -- sizes = [..]
    refine ⟨_, rfl, a, ns, 0, rfl, sc0.sq, _, rfl, fun n0 m0 z0 a1 a2 a3 a4 nz0 => ?_⟩
    obtain ⟨n0, rfl⟩ := Int.eq_ofNat_of_zero_le (by omega : 0 ≤ n0)
    obtain ⟨m0, rfl⟩ := Int.eq_ofNat_of_zero_le (by omega : 0 ≤ m0)
    have s1 : Stp Nop O H O (upd H z0 (.tup [.int n0, .int m0])) := Stp.alloc D0 nz0
    have u0 : Un O (upd H z0 (.tup [.int n0, .int m0])) z0 (.tup [.int n0, .int m0]) := ⟨upd_same, D0.none nz0⟩
    have sc1 := sc0.kp s1
    generalize (upd H z0 (.tup [.int n0, .int m0])) = H1 at s1 u0 sc1 ⊢
    refine ⟨_, rfl, a, ns, 0, rfl, sc1.sq, _, _, rfl, rfl, ⟨by decide, by decide⟩, _, rfl, fun n1 m1 z1 b1 b2 b3 b4 nz1 => ?_⟩
    obtain ⟨n1, rfl⟩ := Int.eq_ofNat_of_zero_le (by omega : 0 ≤ n1)
    obtain ⟨m1, rfl⟩ := Int.eq_ofNat_of_zero_le (by omega : 0 ≤ m1)
    have s2 : Stp Nop O H1 O (upd H1 z1 (.tup [.int n1, .int m1])) := Stp.alloc s1.dm nz1
    have u1 : Un O (upd H1 z1 (.tup [.int n1, .int m1])) z1 (.tup [.int n1, .int m1]) := ⟨upd_same, s1.dm.none nz1⟩
    have sc2 := sc1.kp s2
    replace u0 := u0.kp s2
    generalize (upd H1 z1 (.tup [.int n1, .int m1])) = H2 at s2 u0 u1 sc2 ⊢
    refine ⟨(by show 2 ≤ sizeLine; decide), fun z nz => ?_⟩
    have s3 : Stp Nop O H2 O (upd H2 z (.lst [.ref z0, .ref z1])) := Stp.alloc s2.dm nz
    have uz : Un O (upd H2 z (.lst [.ref z0, .ref z1])) z (.lst [.ref z0, .ref z1]) := ⟨upd_same, s2.dm.none nz⟩
    have sc3 := sc2.kp s3
    replace u0 := u0.kp s3
    replace u1 := u1.kp s3
    generalize (upd H2 z (.lst [.ref z0, .ref z1])) = H3 at s3 u0 u1 uz sc3 ⊢
    -- stores = [..]
    refine ⟨_, rfl, z, _, _, _, rfl, rfl, SqL.of uz.1, at_of (j := 0) rfl rfl, z0, _, _, _, rfl, rfl, SqT.of u0.1, at_of (j := 0) rfl rfl, _, rfl, z, _, _, _, rfl, rfl, SqL.of uz.1, at_of (j := 0) rfl rfl, z0, _, _, _, rfl, rfl, SqT.of u0.1, at_of (j := 1) rfl rfl, ?_⟩
    refine fun p0 dx0 np nd ne => ⟨p0, dx0, _, _, 0, tag O p0 4, rfl, upd_same, tag_same, (Stp.obj (P := Nop) s3.dm np nd ne).dm, a1, a2, a3, a4, fun O4 H4 s4 st0 => ⟨rfl, ?_⟩⟩
    have t4 : Stp (stP 0) O H3 O4 H4 := (Stp.obj s3.dm np nd ne).trans s4
    clear s4 np nd ne
    have sc4 := sc3.kp t4
    replace u0 := u0.kp t4
    replace u1 := u1.kp t4
    replace uz := uz.kp t4
    refine ⟨_, rfl, z, _, _, _, rfl, rfl, SqL.of uz.1, at_of (j := 1) rfl rfl, z1, _, _, _, rfl, rfl, SqT.of u1.1, at_of (j := 0) rfl rfl, _, rfl, z, _, _, _, rfl, rfl, SqL.of uz.1, at_of (j := 1) rfl rfl, z1, _, _, _, rfl, rfl, SqT.of u1.1, at_of (j := 1) rfl rfl, ?_⟩
    refine fun p1 dx1 np nd ne => ⟨p1, dx1, _, _, 1, tag O4 p1 12, rfl, upd_same, tag_same, (Stp.obj (P := Nop) t4.dm np nd ne).dm, b1, b2, b3, b4, fun O5 H5 s5 st1 => ⟨rfl, ?_⟩⟩
    have t5 : Stp (stP 1) O4 H4 O5 H5 := (Stp.obj t4.dm np nd ne).trans s5
    clear s5 np nd ne
    replace st0 := st0.kp t5 (fun r h1 h2 => by
      have a1 := h1.2
      have a2 := h2.1
      omega)
    have sc5 := sc4.kp t5
    replace u0 := u0.kp t5
    replace u1 := u1.kp t5
    replace uz := uz.kp t5
    rw [Int.toNat_natCast, Int.toNat_natCast] at st0 st1
    replace st0 : StAt K 0 O5 H5 p0 (S0 n0 m0) := st0
    replace st1 : StAt K 1 O5 H5 p1 (S0 n1 m1) := st1
    refine ⟨(by show 2 ≤ sizeLine; decide), fun st ns' => ?_⟩
    have s6 : Stp Nop O5 H5 O5 (upd H5 st (.lst [.ref p0, .ref p1])) := Stp.alloc t5.dm ns'
    have ust : Un O5 (upd H5 st (.lst [.ref p0, .ref p1])) st (.lst [.ref p0, .ref p1]) := ⟨upd_same, t5.dm.none ns'⟩
    have sc6 := sc5.kp s6
    replace u0 := u0.kp s6
    replace u1 := u1.kp s6
    replace uz := uz.kp s6
    replace st0 := st0.kp s6 (fun _ _ z => z)
    replace st1 := st1.kp s6 (fun _ _ z => z)
    generalize (upd H5 st (.lst [.ref p0, .ref p1])) = H6 at s6 u0 u1 uz ust sc6 st0 st1 ⊢
    -- names = [..]
    refine ⟨_, rfl, by decide, by decide, fun D nD => lc_range (fun i H' => ∃ ys : List Str, H' = upd H6 D (.lst (ys.map V.str)) ∧ ys.length = i ∧ ∀ y ∈ ys, PyData.strOk y = true) ⟨[], rfl, rfl, fun _ e => nomatch e⟩ (fun i H' hi hx => ?_) (fun H' hx => ?_)⟩
    · obtain ⟨ys, rfl, yl, yo⟩ := hx
      have hi : i < 3 := hi
      have s7 : Stp Nop O5 H6 O5 (upd H6 D (.lst (ys.map V.str))) := Stp.alloc s6.dm nD
      refine ⟨rfl, _, rfl, a, ns, 1, rfl, (sc6.kp s7).sq, _, rfl, _, _, rfl, by omega, by omega, fun y hy => ?_⟩
      refine ⟨_, upd_same, by rw [List.length_map, yl]; exact Nat.lt_of_lt_of_le hi (by decide), ys ++ [y], ?_, by simp [yl], fun y' h => ?_⟩
      · rw [upd_upd, List.map_append]
        rfl
      · rcases List.mem_append.mp h with h | h
        · exact yo y' h
        · have : y' = y := by simpa using h
          rw [this]; exact hy
    obtain ⟨ys, rfl, yl, yo⟩ := hx
    have yl : ys.length = 3 := by rw [yl]; rfl
    have s7 : Stp Nop O5 H6 O5 (upd H6 D (.lst (ys.map V.str))) := Stp.alloc s6.dm nD
    have uD : Un O5 (upd H6 D (.lst (ys.map V.str))) D (.lst (ys.map V.str)) := ⟨upd_same, s6.dm.none nD⟩
    have sc7 := sc6.kp s7
    replace u0 := u0.kp s7
    replace u1 := u1.kp s7
    replace uz := uz.kp s7
    replace ust := ust.kp s7
    replace st0 := st0.kp s7 (fun _ _ z => z)
    replace st1 := st1.kp s7 (fun _ _ z => z)
    generalize (upd H6 D (.lst (ys.map V.str))) = H7 at s7 u0 u1 uz ust uD sc7 st0 st1 ⊢
    have B7 : LawB K ns a z st D z0 z1 p0 p1 n0 m0 n1 m1 ys O5 H7 := ⟨sc7, u0, u1, uz, ust, uD, st0, st1⟩
    have D7 := s7.dm
    clear s1 s2 s3 t4 t5 s6 s7 sc0 sc1 sc2 sc3 sc4 sc5 sc6 hsq nD ns' nz nz0 nz1 D0 u0 u1 uz ust uD st0 st1 sc7
    -- rows, holders, files
    refine fun ra0 nx => ?_
    have s21 : Stp Nop O5 H7 (tag O5 ra0 5) (upd H7 ra0 (.dT [])) := Stp.lay D7 nx
    have f_ra0 : Rl (tag O5 ra0 5) (upd H7 ra0 (.dT [])) ra0 5 (.dT []) := ⟨upd_same, tag_same⟩
    replace B7 := B7.nop s21
    have D21 := s21.dm
    generalize tag O5 ra0 5 = O21, upd H7 ra0 (.dT []) = H21 at s21 f_ra0 B7 D21 ⊢
    clear s21 nx D7
    refine fun ra1 nx => ?_
    have s22 : Stp Nop O21 H21 (tag O21 ra1 13) (upd H21 ra1 (.dT [])) := Stp.lay D21 nx
    have f_ra1 : Rl (tag O21 ra1 13) (upd H21 ra1 (.dT [])) ra1 13 (.dT []) := ⟨upd_same, tag_same⟩
    replace B7 := B7.nop s22
    replace f_ra0 := f_ra0.nop s22
    have D22 := s22.dm
    generalize tag O21 ra1 13 = O22, upd H21 ra1 (.dT []) = H22 at s22 f_ra0 f_ra1 B7 D22 ⊢
    clear s22 nx D21
    refine ⟨(by show 2 ≤ sizeLine; decide), fun rl nx => ?_⟩
    have s23 : Stp Nop O22 H22 O22 (upd H22 rl (.lst [.ref ra0, .ref ra1])) := Stp.alloc D22 nx
    have f_rl : Un O22 (upd H22 rl (.lst [.ref ra0, .ref ra1])) rl (.lst [.ref ra0, .ref ra1]) := ⟨upd_same, D22.none nx⟩
    replace B7 := B7.nop s23
    replace f_ra0 := f_ra0.nop s23
    replace f_ra1 := f_ra1.nop s23
    have D23 := s23.dm
    generalize upd H22 rl (.lst [.ref ra0, .ref ra1]) = H23 at s23 f_ra0 f_ra1 f_rl B7 D23 ⊢
    clear s23 nx D22
    refine fun ha0 nx => ?_
    have s24 : Stp Nop O22 H23 (tag O22 ha0 6) (upd H23 ha0 (.dK [])) := Stp.lay D23 nx
    have f_ha0 : Rl (tag O22 ha0 6) (upd H23 ha0 (.dK [])) ha0 6 (.dK []) := ⟨upd_same, tag_same⟩
    replace B7 := B7.nop s24
    replace f_ra0 := f_ra0.nop s24
    replace f_ra1 := f_ra1.nop s24
    replace f_rl := f_rl.kp s24
    have D24 := s24.dm
    generalize tag O22 ha0 6 = O24, upd H23 ha0 (.dK []) = H24 at s24 f_ra0 f_ra1 f_rl f_ha0 B7 D24 ⊢
    clear s24 nx D23
    refine fun ha1 nx => ?_
    have s25 : Stp Nop O24 H24 (tag O24 ha1 14) (upd H24 ha1 (.dK [])) := Stp.lay D24 nx
    have f_ha1 : Rl (tag O24 ha1 14) (upd H24 ha1 (.dK [])) ha1 14 (.dK []) := ⟨upd_same, tag_same⟩
    replace B7 := B7.nop s25
    replace f_ra0 := f_ra0.nop s25
    replace f_ra1 := f_ra1.nop s25
    replace f_rl := f_rl.kp s25
    replace f_ha0 := f_ha0.nop s25
    have D25 := s25.dm
    generalize tag O24 ha1 14 = O25, upd H24 ha1 (.dK []) = H25 at s25 f_ra0 f_ra1 f_rl f_ha0 f_ha1 B7 D25 ⊢
    clear s25 nx D24
    refine ⟨(by show 2 ≤ sizeLine; decide), fun hl nx => ?_⟩
    have s26 : Stp Nop O25 H25 O25 (upd H25 hl (.lst [.ref ha0, .ref ha1])) := Stp.alloc D25 nx
    have f_hl : Un O25 (upd H25 hl (.lst [.ref ha0, .ref ha1])) hl (.lst [.ref ha0, .ref ha1]) := ⟨upd_same, D25.none nx⟩
    replace B7 := B7.nop s26
    replace f_ra0 := f_ra0.nop s26
    replace f_ra1 := f_ra1.nop s26
    replace f_rl := f_rl.kp s26
    replace f_ha0 := f_ha0.nop s26
    replace f_ha1 := f_ha1.nop s26
    have D26 := s26.dm
    generalize upd H25 hl (.lst [.ref ha0, .ref ha1]) = H26 at s26 f_ra0 f_ra1 f_rl f_ha0 f_ha1 f_hl B7 D26 ⊢
    clear s26 nx D25
    refine fun fa0 nx => ?_
    have s27 : Stp Nop O25 H26 (tag O25 fa0 7) (upd H26 fa0 (.dK [])) := Stp.lay D26 nx
    have f_fa0 : Rl (tag O25 fa0 7) (upd H26 fa0 (.dK [])) fa0 7 (.dK []) := ⟨upd_same, tag_same⟩
    replace B7 := B7.nop s27
    replace f_ra0 := f_ra0.nop s27
    replace f_ra1 := f_ra1.nop s27
    replace f_rl := f_rl.kp s27
    replace f_ha0 := f_ha0.nop s27
    replace f_ha1 := f_ha1.nop s27
    replace f_hl := f_hl.kp s27
    have D27 := s27.dm
    generalize tag O25 fa0 7 = O27, upd H26 fa0 (.dK []) = H27 at s27 f_ra0 f_ra1 f_rl f_ha0 f_ha1 f_hl f_fa0 B7 D27 ⊢
    clear s27 nx D26
    refine fun fa1 nx => ?_
    have s28 : Stp Nop O27 H27 (tag O27 fa1 15) (upd H27 fa1 (.dK [])) := Stp.lay D27 nx
    have f_fa1 : Rl (tag O27 fa1 15) (upd H27 fa1 (.dK [])) fa1 15 (.dK []) := ⟨upd_same, tag_same⟩
    replace B7 := B7.nop s28
    replace f_ra0 := f_ra0.nop s28
    replace f_ra1 := f_ra1.nop s28
    replace f_rl := f_rl.kp s28
    replace f_ha0 := f_ha0.nop s28
    replace f_ha1 := f_ha1.nop s28
    replace f_hl := f_hl.kp s28
    replace f_fa0 := f_fa0.nop s28
    have D28 := s28.dm
    generalize tag O27 fa1 15 = O28, upd H27 fa1 (.dK []) = H28 at s28 f_ra0 f_ra1 f_rl f_ha0 f_ha1 f_hl f_fa0 f_fa1 B7 D28 ⊢
    clear s28 nx D27
    refine ⟨(by show 2 ≤ sizeLine; decide), fun fl nx => ?_⟩
    have s29 : Stp Nop O28 H28 O28 (upd H28 fl (.lst [.ref fa0, .ref fa1])) := Stp.alloc D28 nx
    have f_fl : Un O28 (upd H28 fl (.lst [.ref fa0, .ref fa1])) fl (.lst [.ref fa0, .ref fa1]) := ⟨upd_same, D28.none nx⟩
    replace B7 := B7.nop s29
    replace f_ra0 := f_ra0.nop s29
    replace f_ra1 := f_ra1.nop s29
    replace f_rl := f_rl.kp s29
    replace f_ha0 := f_ha0.nop s29
    replace f_ha1 := f_ha1.nop s29
    replace f_hl := f_hl.kp s29
    replace f_fa0 := f_fa0.nop s29
    replace f_fa1 := f_fa1.nop s29
    have D29 := s29.dm
    generalize upd H28 fl (.lst [.ref fa0, .ref fa1]) = H29 at s29 f_ra0 f_ra1 f_rl f_ha0 f_ha1 f_hl f_fa0 f_fa1 f_fl B7 D29 ⊢
    clear s29 nx D28
    have L0 : LawI K ns a z st D rl hl fl (pk p0 p1) (pk ra0 ra1) (pk ha0 ha1) (pk fa0 fa1) (pk z0 z1) (pk n0 n1) (pk m0 m1) ys O28 H29 := ⟨B7.sc, B7.uz, pk_all B7.u0 B7.u1, B7.ust, B7.unm, f_rl, f_hl, f_fl⟩
    have W0 : AllW K (pk p0 p1) (pk ra0 ra1) (pk ha0 ha1) (pk fa0 fa1) (pk n0 n1) (pk m0 m1) 0 O28 H29 (pk ⟨S0 n0 m0, [], [], []⟩ ⟨S0 n1 m1, [], [], []⟩) :=
      pk_all ⟨⟨[], B7.st0, f_ra0.2, f_ra0.1, .nil, f_ha0.2, f_ha0.1, f_fa0.2, f_fa0.1⟩, WI.init (by omega), List.length_replicate .., List.length_replicate ..⟩
        ⟨⟨[], B7.st1, f_ra1.2, f_ra1.1, .nil, f_ha1.2, f_ha1.1, f_fa1.2, f_fa1.1⟩, WI.init (by omega), List.length_replicate .., List.length_replicate ..⟩
    clear B7 f_ra0 f_ra1 f_ha0 f_ha1 f_fa0 f_fa1 f_rl f_hl f_fl
    generalize pk p0 p1 = p, pk ra0 ra1 = ra, pk ha0 ha1 = ha, pk fa0 fa1 = fa, pk z0 z1 = zz, pk n0 n1 = nn, pk m0 m1 = mm at L0 W0
    generalize (pk ⟨S0 n0 m0, [], [], []⟩ ⟨S0 n1 m1, [], [], []⟩ : Nat → Wd) = W at W0
    -- for raw in script[2:80]
    refine ⟨_, rfl, _, rfl, _, rfl, a, _, rfl, L0.sc.sq, fun c nc => ?_⟩
    have cl := cut_len hns
    have sc : Stp Nop O28 H29 O28 (upd H29 c (.lst (cutV (ns.map V.int) (some 2) (some 80)))) := Stp.alloc D29 nc
    have uc : Un O28 (upd H29 c (.lst (cutV (ns.map V.int) (some 2) (some 80)))) c (.lst (cutV (ns.map V.int) (some 2) (some 80))) := ⟨upd_same, D29.none nc⟩
    have L1 := L0.kp sc
    have W1 := W0.nop sc
    have D1 := sc.dm
    clear L0 W0 sc nc D29
    generalize (upd H29 c (.lst (cutV (ns.map V.int) (some 2) (some 80)))) = H1 at uc L1 W1 D1 ⊢
    generalize hxs : cutV (ns.map V.int) (some 2) (some 80) = xs at uc cl
    refine ⟨c, rfl, ⟨_, SqL.of uc.1⟩, for_list (xs := xs) (fun i σ H' => (∃ v8 v9 v10 v11 v12 v13 v14, σ = [some (.ref a), some (.ref z), some (.ref st), some (.ref D), none, some (.ref rl), some (.ref hl), some (.ref fl), v8, v9, v10, v11, v12, v13, v14]) ∧
      ∃ O' W', Un O' H' c (.lst xs) ∧ LawI K ns a z st D rl hl fl p ra ha fa zz nn mm ys O' H' ∧ AllW K p ra ha fa nn mm i O' H' W' ∧ Dm O' H') ⟨⟨_, _, _, _, _, _, _, rfl⟩, O28, W, uc, L1, W1, D1⟩ (fun i σ H' _ hx => ?_) (fun i y σ H' hi hx => ?_) (fun σ H' hx => ?_)⟩
    · obtain ⟨_, O', W', u, _⟩ := hx
      exact SqL.of u.1
    · obtain ⟨⟨v8, v9, v10, v11, v12, v13, v14, rfl⟩, O', W', u, L, A, DD⟩ := hx
      clear L1 W1 D1
      have il := g_lt hi
      obtain ⟨raw, rfl⟩ : ∃ r : Int, y = .int r := by
        rw [← hxs] at hi
        exact cut_int hi
      have cm : ∀ x : Int, CMul x 48271 := fun x => .inr ⟨by decide, by decide⟩
      have cm2 : ∀ x : Int, CMul x 69621 := fun x => .inr ⟨by decide, by decide⟩
      -- cell, at
      refine ⟨_, rfl, _, _, rfl, rfl, cm _, _, _, rfl, rfl, (by show (0 : Int) < 1299709; decide), ?_⟩
      refine ⟨_, rfl, _, rfl, a, ns, 1, rfl, L.sc.sq, _, _, rfl, rfl, _, _, rfl, rfl, cm2 _, _, _, rfl, rfl, (by show (0 : Int) < 7919; decide), _, _, rfl, rfl, (by show (0 : Int) < 2; decide), ?_⟩
      obtain ⟨cell, hcell⟩ : ∃ cell : Int, cell = raw * 48271 % 1299709 := ⟨_, rfl⟩
      have c0 : 0 ≤ cell := by omega
      have c1 : cell < 1299709 := by omega
      obtain ⟨j, jl, ej⟩ := nat_of (m := 2) (Int.emod_nonneg ((raw + ns.getD 1 0) * 69621 % 7919) (by decide : (2 : Int) ≠ 0)) (by omega)
      obtain ⟨tl, hT⟩ : ∃ tl : List (Option V), tl = [some (.int raw), some (.int cell), some (.int (j : Int)), v11, v12, v13, v14] := ⟨_, rfl⟩
      -- name
      obtain ⟨l, ll, el⟩ := nat_of (m := 3) (Int.emod_nonneg (cell / 16) (by decide : (3 : Int) ≠ 0)) (by omega)
      obtain ⟨nm, hnm⟩ : ∃ nm, ys[l]? = some nm := ⟨_, List.getElem?_eq_getElem (by omega)⟩
      have hnok := yo nm (List.mem_of_getElem? hnm)
      have hnm' : (ys.map V.str)[l]? = some (.str nm) := by rw [List.getElem?_map, hnm] <;> rfl
      refine ⟨_, rfl, _, rfl, _, _, rfl, rfl, ⟨by decide, by decide⟩, _, _, rfl, rfl, (by show (0 : Int) < 3; decide), D, _, _, _, rfl, rfl, SqL.of L.hnm.1, at_of (by rw [← hcell]; exact el) hnm', ?_⟩
      -- room
      have gz : SqL K H' z [.ref (zz 0), .ref (zz 1)] := SqL.of L.hz.1
      have gzz := L.hzz j jl
      refine ⟨_, rfl, _, rfl, z, _, _, _, rfl, rfl, gz, at_of ej (pk_two (f := fun j => .ref (zz j)) jl), zz j, _, _, _, rfl, rfl, SqT.of gzz.1, at_of (j := 0) rfl rfl, _, _, rfl, rfl, _, rfl, _, rfl, z, _, _, _, rfl, rfl, gz, at_of ej (pk_two (f := fun j => .ref (zz j)) jl), zz j, _, _, _, rfl, rfl, SqT.of gzz.1, at_of (j := 1) rfl rfl, _, _, rfl, rfl, ?_⟩
      -- deed
      obtain ⟨w, I, tl1, sl1⟩ := A j jl
      refine ⟨_, rfl, _, rfl, st, _, _, _, rfl, rfl, SqL.of L.hst.1, at_of ej (pk_two (f := fun j => .ref (p j)) jl), _, rfl, _, rfl, z, _, _, _, rfl, rfl, gz, at_of ej (pk_two (f := fun j => .ref (zz j)) jl), zz j, _, _, _, rfl, rfl, SqT.of gzz.1, at_of (j := 0) rfl rfl, _, rfl,
        _, rfl, _, rfl, rl, _, _, _, rfl, rfl, SqL.of L.hrl.1, at_of ej (pk_two (f := fun j => .ref (ra j)) jl), _, rfl, _, rfl, hl, _, _, _, rfl, rfl, SqL.of L.hhl.1, at_of ej (pk_two (f := fun j => .ref (ha j)) jl), _, rfl, _, rfl, fl, _, _, _, rfl, rfl, SqL.of L.hfl.1, at_of ej (pk_two (f := fun j => .ref (fa j)) jl), _, rfl, _, rfl, ?_⟩
      refine ⟨p j, ra j, ha j, fa j, j, i, W' j, (nn j : Int) - 1 + (mm j : Int), cell, nm, O', (by show [V.ref (p j), V.int (nn j : Int), V.int ((nn j : Int) - 1 + (mm j : Int)), V.ref (ra j), V.ref (ha j), V.ref (fa j), V.str nm, V.int (raw * 48271 % 1299709)] = _; rw [tl1, hcell]), by rw [tl1, sl1], w, DD, I, by omega, hnok, c0, by omega, fun O2 H2 W2 s2 w2 I2 e1 e2 => ?_⟩
      have L2' := L.kp s2
      have A2 := A.step s2 w2 I2 (e1.trans tl1) (e2.trans sl1)
      have u2 := u.kp s2
      have D2 := s2.dm
      generalize (fun l => if l = j then W2 else W' l) = W3 at A2
      refine ⟨_, rfl, iteF ?_⟩
      refine ⟨_, rfl, by decide, by decide, for_range (fun k σ H3 => (∃ v13 v14, σ = [some (.ref a), some (.ref z), some (.ref st), some (.ref D), none, some (.ref rl), some (.ref hl), some (.ref fl), some (.int raw), some (.int (raw * 48271 % 1299709)), some (.int ((raw + ns.getD 1 0) * 69621 % 7919 % 2)), some (.str nm), some (.int ((nn j : Int) - 1 + (mm j : Int))), v13, v14]) ∧ Stp Nop O2 H2 O2 H3) ⟨⟨_, _, rfl⟩, Stp.refl D2⟩ (fun k σ H3 hk hx => ?_) (fun σ H3 hx => ?_)⟩
      · obtain ⟨⟨v13, v14, rfl⟩, s3⟩ := hx
        have L3 := L2'.kp s3
        have A3 := A2.nop s3
        obtain ⟨j2, jl2, ej2⟩ := nat_of (m := 2) (Int.emod_nonneg (0 + (k : Int) + cell / 5) (by decide : (2 : Int) ≠ 0)) (by omega)
        rw [hcell] at ej2
        refine ⟨_, rfl, _, rfl, _, _, rfl, rfl, ⟨by decide, by decide⟩, _, _, rfl, rfl, _, _, rfl, rfl, (by show (0 : Int) < 2; decide), ?_⟩
        obtain ⟨w3, I3, _, _⟩ := A3 j2 jl2
        refine ⟨_, rfl, _, rfl, st, _, _, _, rfl, rfl, SqL.of L3.hst.1, at_of ej2 (pk_two (f := fun j => .ref (p j)) jl2), _, rfl, _, rfl, rl, _, _, _, rfl, rfl, SqL.of L3.hrl.1, at_of ej2 (pk_two (f := fun j => .ref (ra j)) jl2), _, rfl, _, rfl, fl, _, _, _, rfl, rfl, SqL.of L3.hfl.1, at_of ej2 (pk_two (f := fun j => .ref (fa j)) jl2), _, rfl, _, rfl, _, _, rfl, rfl, ⟨by decide, by decide⟩, ?_⟩
        refine ⟨p j2, ra j2, ha j2, fa j2, j2, i + 1, W3 j2, nm, _, O2, rfl, w3, s3.dm, I3, by omega, hnok, by omega, fun H4 s4 => ?_⟩
        exact ⟨_, rfl, iteF ⟨⟨_, _, rfl⟩, s3.trans s4⟩⟩
      · obtain ⟨⟨v13, v14, rfl⟩, s3⟩ := hx
        exact ⟨⟨_, _, _, _, _, _, _, rfl⟩, O2, W3, u2.kp s3, L2'.kp s3, A2.nop s3, s3.dm⟩
    · obtain ⟨⟨v8, v9, v10, v11, v12, v13, v14, rfl⟩, O', W', u, L, A, DD⟩ := hx
      obtain ⟨w0, I0, _, _⟩ := A 0 (by decide)
      refine ⟨_, rfl, st, _, _, _, rfl, rfl, SqL.of L.hst.1, at_of (j := 0) rfl rfl, _, rfl, rl, _, _, _, rfl, rfl, SqL.of L.hrl.1, at_of (j := 0) rfl rfl, ?_⟩
      refine ⟨p 0, ra 0, ha 0, fa 0, 0, xs.length, W' 0, O', rfl, w0, DD, I0, by omega, fun H2 s2 => ?_⟩
      have L2' := L.kp s2
      obtain ⟨w1, I1, _, _⟩ := A 1 (by decide)
      have w1' := w1.kp s2 (fun r h1 h2 => by
        have a1 := h1.1
        have a2 := h2.2
        omega)
      refine ⟨_, rfl, iteT ?_⟩
      refine ⟨_, rfl, st, _, _, _, rfl, rfl, SqL.of L2'.hst.1, at_of (j := 1) rfl rfl, _, rfl, rl, _, _, _, rfl, rfl, SqL.of L2'.hrl.1, at_of (j := 1) rfl rfl, ?_⟩
      exact ⟨p 1, ra 1, ha 1, fa 1, 1, xs.length, W' 1, O', rfl, w1', s2.dm, I1, by omega, fun H3 _ => q H3⟩
end
end Pw


set_option Elab.async false
set_option linter.all false
set_option maxRecDepth 100000
set_option maxHeartbeats 4000000
namespace Pw
open PySem PySem.Spec PyProof.Rows L2
theorem facts {P : Program} {w : World} {K : PySem.W.Frag} {h : Heap} {mg : Str → Option Value} {f : Addr} (X : K.In h) (G : h.Ns mainGlobals mg) (hfa : mg ("law" : Str) = some (.ref f)) (c : He.SaysD fa fn K) :
    ∃ fd : FuncData, (∀ (s : Shared) (v : Value), BindsTo s fd ⟨[v], []⟩ [("_law_script", v)]) ∧ ∀ base : Heap, FnOk P w K mg base C8.CX0 10 f fd ["_law_script"] (spLaw K) := by
  have T : Tx K mg := ⟨c, fun x hx => He.glo_ok X G hx, fun x hx => He.free_ok X G hx⟩
  have e := hfa.symm.trans T.g_law
  cases e
  obtain ⟨fd, F⟩ := T.fd_law
  have b := FunD.bindsA (ps := ["_law_script"]) F fun _ _ _ _ _ _ us hl => match us, hl with | [_], _ => rfl
  exact ⟨fd, fun s v => b s [v] rfl, fun base => ok_lawF F T⟩
end Pw
open PySem PySem.W PySem.Calls PyProof.Rows
theorem PySem.Challenge.cw_paneworks_k47_whole_rows_kept_holds : PySem.Challenge.rw_paneworks_k47_whole_rows_kept.Holds := by
  w_on; o_law
  refine HandSHeadRun.head_any (r := OpenLaw.row PySem.Challenge.rw_paneworks_k47_whole_rows_kept) (q := view (OpenLaw.row PySem.Challenge.rw_paneworks_k47_whole_rows_kept).prog [49]) (H := Pw.hk) (ob := Pw.ob) (M := 6000) (loose := Pw.names) (d := HandSHeadRun.topDef (OpenLaw.row PySem.Challenge.rw_paneworks_k47_whole_rows_kept).prog 49) (kwd := []) Pw.ob_eq
    (by kernel_rfl) (fun s => by kernel_rfl) Pw.run (by kernel_rfl) (by kernel_rfl) (by kernel_rfl) (by rfl) (by first | assumption | decide +kernel) (by decide +kernel) ⟨rfl, rfl, rfl, rfl, rfl, by decide +kernel⟩ ?hw ?hc
  case hw => w_witness2
  case hc =>
    refine L2.walk_ofE (l := PySem.Challenge.rw_paneworks_k47_whole_rows_kept) (n := 63) (k := 10) (x := "_law_script") (CX := C8.CX0) rfl (by decide) (by kernel_rfl) ⟨rfl, by decide, by decide⟩ ?F (fun _ _ _ _ z => z)
    intro w mg fa h Y G hmg0
    obtain ⟨K, KX, c⟩ := Y
    have hmg : mg ("law" : PySem.Str) = some (.ref fa) := by
      have e : (HandSHeadRun.topDef (OpenLaw.row PySem.Challenge.rw_paneworks_k47_whole_rows_kept).prog 49).name = ("law" : PySem.Str) := by kernel_rfl
      rw [← e]
      exact hmg0
    obtain ⟨fd, hb, hF⟩ := Pw.facts (P := (PySem.Challenge.rw_paneworks_k47_whole_rows_kept).prog) (w := w) KX G hmg c
    exact ⟨K, fd, Pw.spLaw K, KX, hb, fun H a ns hl _ hS => ⟨a, ns, rfl, hl, hS, fun _ => rfl⟩, fun base _ _ => hF base⟩
