import PyProof.Rows.All
import Wide.All
import OpenK.AllK
import Wide.FinOn
import KE.KStateDown
import HandS.Head0
import HandS.Head1
import HandS.Head2
import HandS.HeadEnd
import HandS.HeadHook1
import HandS.HeadHook2
import HandS.HeadHook3
import HandS.HeadHook4
import HandS.HeadWalk
import HandS.Words
import HandS.ExcInit
import HandS.ExcField
import HandS.ClsMeth
import HandS.Lambda
import PySem.Challenge.RW_casknotes_k96_whole_long_books
import HandS.ForMost
import HandS.Codes
import HandS.Defaults
import HandS.IsInst
import HandS.Evl
import HandS.ExcOwn
import HandS.Walk
import HandS.Zip
import HandS.OwnEq
import HandS.FStr
import HandS.Wide
import HandS.RaiseMore
import KE.KCallOwn
import HandS.Strs
import HandS.CallLocal
import HandS.TupAny
import HandS.More
import KE.SortKeyHeap
import KE.KSortKey
import PyProof.Rows.CallKwBuiltin
import HandS.MakeKw
import HandS.MakeKwOnly
import HandS.ExcInitHot
import HandS.SuiteRaise
import HandS.RaiseFrom
import HandS.StrMore
import HandS.Flow
import PyProof.Rows.StrCut
import PyProof.Rows.StrPins
import KE.SortData
import HandS.Style
import HandS.SetFor
import KE.KDictZip
import HandS.OwnIter
import HandS.GenList
import HandS.EndTab
import KE.KNestM
set_option Elab.async false
set_option linter.all false
set_option maxRecDepth 100000
set_option maxHeartbeats 0
namespace CK
open PySem PySem.Spec PyProof.Rows L2
abbrev R : PySem.W.OpenRow := PySem.W.OpenLaw.row PySem.Challenge.rw_casknotes_k96_whole_long_books
abbrev qv : Program := PySem.W.view R.prog [154]
def top (i : Nat) : Stmt := PySem.Challenge.pw_casknotes_k96_whole_long_books.main.body.getD i (.Pass ⟨0, 0, 0, 0⟩)
def d_is_whole : He.DefD := ⟨("is_whole", none), "is_whole", "is_whole", defArgs (top 30), defBody (top 30), defScope (top 30), [], []⟩
def d_is_name : He.DefD := ⟨("is_name", none), "is_name", "is_name", defArgs (top 31), defBody (top 31), defScope (top 31), [], []⟩
def d_is_mark : He.DefD := ⟨("is_mark", none), "is_mark", "is_mark", defArgs (top 32), defBody (top 32), defScope (top 32), [], []⟩
def d_is_grains : He.DefD := ⟨("is_grains", none), "is_grains", "is_grains", defArgs (top 34), defBody (top 34), defScope (top 34), [], []⟩
def d_is_day : He.DefD := ⟨("is_day", none), "is_day", "is_day", defArgs (top 35), defBody (top 35), defScope (top 35), [], []⟩
def d_divisor_of : He.DefD := ⟨("divisor_of", none), "divisor_of", "divisor_of", defArgs (top 39), defBody (top 39), defScope (top 39), [], []⟩
def d_Weight_u_init_u : He.DefD := ⟨("Weight", some "__init__"), "__init__", "Weight.__init__", defArgs (inClass (top 40) 0), defBody (inClass (top 40) 0), defScope (inClass (top 40) 0), [.int 1], []⟩
def d_Weight_u_eq_u : He.DefD := ⟨("Weight", some "__eq__"), "__eq__", "Weight.__eq__", defArgs (inClass (top 40) 1), defBody (inClass (top 40) 1), defScope (inClass (top 40) 1), [], []⟩
def d_Weight_u_str_u : He.DefD := ⟨("Weight", some "__str__"), "__str__", "Weight.__str__", defArgs (inClass (top 40) 2), defBody (inClass (top 40) 2), defScope (inClass (top 40) 2), [], []⟩
def d_Weight_is_nought : He.DefD := ⟨("Weight", some "is_nought"), "is_nought", "Weight.is_nought", defArgs (inClass (top 40) 8), defBody (inClass (top 40) 8), defScope (inClass (top 40) 8), [], []⟩
def d_number_in : He.DefD := ⟨("number_in", none), "number_in", "number_in", defArgs (top 42), defBody (top 42), defScope (top 42), [], []⟩
def d_read_weight : He.DefD := ⟨("read_weight", none), "read_weight", "read_weight", defArgs (top 43), defBody (top 43), defScope (top 43), [], []⟩
def d_is_part : He.DefD := ⟨("is_part", none), "is_part", "is_part", defArgs (top 46), defBody (top 46), defScope (top 46), [], []⟩
def d_is_parts : He.DefD := ⟨("is_parts", none), "is_parts", "is_parts", defArgs (top 47), defBody (top 47), defScope (top 47), [], []⟩
def d_are_unlike : He.DefD := ⟨("are_unlike", none), "are_unlike", "are_unlike", defArgs (top 53), defBody (top 53), defScope (top 53), [], []⟩
def d_is_none_or_name : He.DefD := ⟨("is_none_or_name", none), "is_none_or_name", "is_none_or_name", defArgs (top 54), defBody (top 54), defScope (top 54), [], []⟩
def d_are_pieces : He.DefD := ⟨("are_pieces", none), "are_pieces", "are_pieces", defArgs (top 55), defBody (top 55), defScope (top 55), [], []⟩
def d_is_weighing : He.DefD := ⟨("is_weighing", none), "is_weighing", "is_weighing", defArgs (top 56), defBody (top 56), defScope (top 56), [], []⟩
def d_is_burning : He.DefD := ⟨("is_burning", none), "is_burning", "is_burning", defArgs (top 57), defBody (top 57), defScope (top 57), [], []⟩
def d_is_making : He.DefD := ⟨("is_making", none), "is_making", "is_making", defArgs (top 58), defBody (top 58), defScope (top 58), [], []⟩
def d_is_parting : He.DefD := ⟨("is_parting", none), "is_parting", "is_parting", defArgs (top 59), defBody (top 59), defScope (top 59), [], []⟩
def d_is_merging : He.DefD := ⟨("is_merging", none), "is_merging", "is_merging", defArgs (top 60), defBody (top 60), defScope (top 60), [], []⟩
def d_is_losing : He.DefD := ⟨("is_losing", none), "is_losing", "is_losing", defArgs (top 61), defBody (top 61), defScope (top 61), [], []⟩
def d_is_drawing : He.DefD := ⟨("is_drawing", none), "is_drawing", "is_drawing", defArgs (top 62), defBody (top 62), defScope (top 62), [], []⟩
def d_is_sending : He.DefD := ⟨("is_sending", none), "is_sending", "is_sending", defArgs (top 63), defBody (top 63), defScope (top 63), [], []⟩
def d_is_paying : He.DefD := ⟨("is_paying", none), "is_paying", "is_paying", defArgs (top 64), defBody (top 64), defScope (top 64), [], []⟩
def d_is_firing : He.DefD := ⟨("is_firing", none), "is_firing", "is_firing", defArgs (top 65), defBody (top 65), defScope (top 65), [], []⟩
def d_is_deed : He.DefD := ⟨("is_deed", none), "is_deed", "is_deed", defArgs (top 68), defBody (top 68), defScope (top 68), [], []⟩
def d_is_loss : He.DefD := ⟨("is_loss", none), "is_loss", "is_loss", defArgs (top 76), defBody (top 76), defScope (top 76), [], []⟩
def d_is_drying : He.DefD := ⟨("is_drying", none), "is_drying", "is_drying", defArgs (top 77), defBody (top 77), defScope (top 77), [], []⟩
def d_Book_u_init_u : He.DefD := ⟨("Book", some "__init__"), "__init__", "Book.__init__", defArgs (inClass (top 106) 0), defBody (inClass (top 106) 0), defScope (inClass (top 106) 0), [.non], []⟩
def d_Book_u_len_u : He.DefD := ⟨("Book", some "__len__"), "__len__", "Book.__len__", defArgs (inClass (top 106) 1), defBody (inClass (top 106) 1), defScope (inClass (top 106) 1), [], []⟩
def d_Book_u_eq_u : He.DefD := ⟨("Book", some "__eq__"), "__eq__", "Book.__eq__", defArgs (inClass (top 106) 2), defBody (inClass (top 106) 2), defScope (inClass (top 106) 2), [], []⟩
def d_Book_numbers : He.DefD := ⟨("Book", some "numbers"), "numbers", "Book.numbers", defArgs (inClass (top 106) 3), defBody (inClass (top 106) 3), defScope (inClass (top 106) 3), [], []⟩
def d_Book_by_days : He.DefD := ⟨("Book", some "by_days"), "by_days", "Book.by_days", defArgs (inClass (top 106) 4), defBody (inClass (top 106) 4), defScope (inClass (top 106) 4), [], []⟩
def d_Book_tell : He.DefD := ⟨("Book", some "tell"), "tell", "Book.tell", defArgs (inClass (top 106) 5), defBody (inClass (top 106) 5), defScope (inClass (top 106) 5), [], []⟩
def d_Book_deed : He.DefD := ⟨("Book", some "deed"), "deed", "Book.deed", defArgs (inClass (top 106) 6), defBody (inClass (top 106) 6), defScope (inClass (top 106) 6), [], []⟩
def d_Book_strike : He.DefD := ⟨("Book", some "strike"), "strike", "Book.strike", defArgs (inClass (top 106) 7), defBody (inClass (top 106) 7), defScope (inClass (top 106) 7), [], []⟩
def d_words_of_pairs : He.DefD := ⟨("words_of_pairs", none), "words_of_pairs", "words_of_pairs", defArgs (top 109), defBody (top 109), defScope (top 109), [], []⟩
def d_word_of : He.DefD := ⟨("word_of", none), "word_of", "word_of", defArgs (top 110), defBody (top 110), defScope (top 110), [], []⟩
def d_words_behind : He.DefD := ⟨("words_behind", none), "words_behind", "words_behind", defArgs (top 111), defBody (top 111), defScope (top 111), [], []⟩
def d_row_of : He.DefD := ⟨("row_of", none), "row_of", "row_of", defArgs (top 112), defBody (top 112), defScope (top 112), [], []⟩
def d_drying_row : He.DefD := ⟨("drying_row", none), "drying_row", "drying_row", defArgs (top 113), defBody (top 113), defScope (top 113), [], []⟩
def d_show_book : He.DefD := ⟨("show_book", none), "show_book", "show_book", defArgs (top 114), defBody (top 114), defScope (top 114), [], []⟩
def d_must : He.DefD := ⟨("must", none), "must", "must", defArgs (top 115), defBody (top 115), defScope (top 115), [], []⟩
def d_in_pairs : He.DefD := ⟨("in_pairs", none), "in_pairs", "in_pairs", defArgs (top 116), defBody (top 116), defScope (top 116), [], []⟩
def d_name_in : He.DefD := ⟨("name_in", none), "name_in", "name_in", defArgs (top 117), defBody (top 117), defScope (top 117), [], []⟩
def d_read_parts : He.DefD := ⟨("read_parts", none), "read_parts", "read_parts", defArgs (top 118), defBody (top 118), defScope (top 118), [], []⟩
def d_read_pieces : He.DefD := ⟨("read_pieces", none), "read_pieces", "read_pieces", defArgs (top 119), defBody (top 119), defScope (top 119), [], []⟩
def d_read_burning : He.DefD := ⟨("read_burning", none), "read_burning", "read_burning", defArgs (top 120), defBody (top 120), defScope (top 120), [], []⟩
def d_read_making : He.DefD := ⟨("read_making", none), "read_making", "read_making", defArgs (top 121), defBody (top 121), defScope (top 121), [], []⟩
def d_read_merging : He.DefD := ⟨("read_merging", none), "read_merging", "read_merging", defArgs (top 122), defBody (top 122), defScope (top 122), [], []⟩
def d_read_paying : He.DefD := ⟨("read_paying", none), "read_paying", "read_paying", defArgs (top 123), defBody (top 123), defScope (top 123), [], []⟩
def d_read_sending : He.DefD := ⟨("read_sending", none), "read_sending", "read_sending", defArgs (top 124), defBody (top 124), defScope (top 124), [], []⟩
def d_read_burnt : He.DefD := ⟨("read_burnt", none), "read_burnt", "read_burnt", defArgs (top 125), defBody (top 125), defScope (top 125), [], []⟩
def d_read_names : He.DefD := ⟨("read_names", none), "read_names", "read_names", defArgs (top 126), defBody (top 126), defScope (top 126), [], []⟩
def d_day_and_deed : He.DefD := ⟨("day_and_deed", none), "day_and_deed", "day_and_deed", defArgs (top 128), defBody (top 128), defScope (top 128), [], []⟩
def d_loss_in : He.DefD := ⟨("loss_in", none), "loss_in", "loss_in", defArgs (top 129), defBody (top 129), defScope (top 129), [], []⟩
def d_drying_in : He.DefD := ⟨("drying_in", none), "drying_in", "drying_in", defArgs (top 130), defBody (top 130), defScope (top 130), [], []⟩
def d_read_row : He.DefD := ⟨("read_row", none), "read_row", "read_row", defArgs (top 131), defBody (top 131), defScope (top 131), [], []⟩
def d_read_book : He.DefD := ⟨("read_book", none), "read_book", "read_book", defArgs (top 132), defBody (top 132), defScope (top 132), [], []⟩
def d_NoText_u_init_u : He.DefD := ⟨("NoText", some "__init__"), "__init__", "NoText.__init__", defArgs (inClass (top 9) 0), defBody (inClass (top 9) 0), defScope (inClass (top 9) 0), [.int 0], []⟩
def d__law_cell_at : He.DefD := ⟨("_law_cell_at", none), "_law_cell_at", "_law_cell_at", defArgs (top 134), defBody (top 134), defScope (top 134), [], []⟩
def d__law_deck : He.DefD := ⟨("_law_deck", none), "_law_deck", "_law_deck", defArgs (top 135), defBody (top 135), defScope (top 135), [], []⟩
def d__law_draw : He.DefD := ⟨("_law_draw", none), "_law_draw", "_law_draw", defArgs (top 136), defBody (top 136), defScope (top 136), [], []⟩
def d__law_names : He.DefD := ⟨("_law_names", none), "_law_names", "_law_names", defArgs (top 137), defBody (top 137), defScope (top 137), [], []⟩
def d__law_sixteens : He.DefD := ⟨("_law_sixteens", none), "_law_sixteens", "_law_sixteens", defArgs (top 138), defBody (top 138), defScope (top 138), [], []⟩
def d__law_marks : He.DefD := ⟨("_law_marks", none), "_law_marks", "_law_marks", defArgs (top 139), defBody (top 139), defScope (top 139), [], []⟩
def d__law_day : He.DefD := ⟨("_law_day", none), "_law_day", "_law_day", defArgs (top 140), defBody (top 140), defScope (top 140), [], []⟩
def d__law_lowest : He.DefD := ⟨("_law_lowest", none), "_law_lowest", "_law_lowest", defArgs (top 141), defBody (top 141), defScope (top 141), [], []⟩
def d__law_drying : He.DefD := ⟨("_law_drying", none), "_law_drying", "_law_drying", defArgs (top 142), defBody (top 142), defScope (top 142), [], []⟩
def d__law_some : He.DefD := ⟨("_law_some", none), "_law_some", "_law_some", defArgs (top 143), defBody (top 143), defScope (top 143), [], []⟩
def d__law_pick : He.DefD := ⟨("_law_pick", none), "_law_pick", "_law_pick", defArgs (top 144), defBody (top 144), defScope (top 144), [], []⟩
def d__law_great : He.DefD := ⟨("_law_great", none), "_law_great", "_law_great", defArgs (top 145), defBody (top 145), defScope (top 145), [], []⟩
def d__law_weight : He.DefD := ⟨("_law_weight", none), "_law_weight", "_law_weight", defArgs (top 146), defBody (top 146), defScope (top 146), [], []⟩
def d__law_row : He.DefD := ⟨("_law_row", none), "_law_row", "_law_row", defArgs (top 147), defBody (top 147), defScope (top 147), [], []⟩
def d__law_pairs_of : He.DefD := ⟨("_law_pairs_of", none), "_law_pairs_of", "_law_pairs_of", defArgs (top 148), defBody (top 148), defScope (top 148), [], []⟩
def d__law_words : He.DefD := ⟨("_law_words", none), "_law_words", "_law_words", defArgs (top 149), defBody (top 149), defScope (top 149), [], []⟩
def d__law_told : He.DefD := ⟨("_law_told", none), "_law_told", "_law_told", defArgs (top 150), defBody (top 150), defScope (top 150), [], []⟩
def d__law_any_order : He.DefD := ⟨("_law_any_order", none), "_law_any_order", "_law_any_order", defArgs (top 151), defBody (top 151), defScope (top 151), [], []⟩
def d__law_spoilt_right : He.DefD := ⟨("_law_spoilt_right", none), "_law_spoilt_right", "_law_spoilt_right", defArgs (top 152), defBody (top 152), defScope (top 152), [], []⟩
def d__law_many_rows_right : He.DefD := ⟨("_law_many_rows_right", none), "_law_many_rows_right", "_law_many_rows_right", defArgs (top 153), defBody (top 153), defScope (top 153), [], []⟩
def d_law : He.DefD := ⟨("law", none), "law", "law", defArgs (top 154), defBody (top 154), defScope (top 154), [], []⟩
def fn : List He.DefD := [d_is_whole, d_is_name, d_is_mark, d_is_grains, d_is_day, d_divisor_of, d_Weight_u_init_u, d_Weight_u_eq_u, d_Weight_u_str_u, d_Weight_is_nought, d_number_in, d_read_weight, d_is_part, d_is_parts, d_are_unlike, d_is_none_or_name, d_are_pieces, d_is_weighing, d_is_burning, d_is_making, d_is_parting, d_is_merging, d_is_losing, d_is_drawing, d_is_sending, d_is_paying, d_is_firing, d_is_deed, d_is_loss, d_is_drying, d_Book_u_init_u, d_Book_u_len_u, d_Book_u_eq_u, d_Book_numbers, d_Book_by_days, d_Book_tell, d_Book_deed, d_Book_strike, d_words_of_pairs, d_word_of, d_words_behind, d_row_of, d_drying_row, d_show_book, d_must, d_in_pairs, d_name_in, d_read_parts, d_read_pieces, d_read_burning, d_read_making, d_read_merging, d_read_paying, d_read_sending, d_read_burnt, d_read_names, d_day_and_deed, d_loss_in, d_drying_in, d_read_row, d_read_book, d_NoText_u_init_u, d__law_cell_at, d__law_deck, d__law_draw, d__law_names, d__law_sixteens, d__law_marks, d__law_day, d__law_lowest, d__law_drying, d__law_some, d__law_pick, d__law_great, d__law_weight, d__law_row, d__law_pairs_of, d__law_words, d__law_told, d__law_any_order, d__law_spoilt_right, d__law_many_rows_right, d_law]
def fa : List He.Fa := [.glo "is_whole", .glo "is_name", .glo "is_mark", .glo "is_grains", .glo "is_day", .glo "divisor_of", .glo "number_in", .glo "read_weight", .glo "is_part", .glo "is_parts", .glo "are_unlike", .glo "is_none_or_name", .glo "are_pieces", .glo "is_weighing", .glo "is_burning", .glo "is_making", .glo "is_parting", .glo "is_merging", .glo "is_losing", .glo "is_drawing", .glo "is_sending", .glo "is_paying", .glo "is_firing", .glo "is_deed", .glo "is_loss", .glo "is_drying", .glo "words_of_pairs", .glo "word_of", .glo "words_behind", .glo "row_of", .glo "drying_row", .glo "show_book", .glo "must", .glo "in_pairs", .glo "name_in", .glo "read_parts", .glo "read_pieces", .glo "read_burning", .glo "read_making", .glo "read_merging", .glo "read_paying", .glo "read_sending", .glo "read_burnt", .glo "read_names", .glo "day_and_deed", .glo "loss_in", .glo "drying_in", .glo "read_row", .glo "read_book", .glo "_law_cell_at", .glo "_law_deck", .glo "_law_draw", .glo "_law_names", .glo "_law_sixteens", .glo "_law_marks", .glo "_law_day", .glo "_law_lowest", .glo "_law_drying", .glo "_law_some", .glo "_law_pick", .glo "_law_great", .glo "_law_weight", .glo "_law_row", .glo "_law_pairs_of", .glo "_law_words", .glo "_law_told", .glo "_law_any_order", .glo "_law_spoilt_right", .glo "_law_many_rows_right", .glo "law", .glo "Book", .glo "Weight", .glo "NoText", .glo "Wrong", .glo "SIZES", .glo "JUDGES", .glo "READERS", .free "isinstance", .free "int", .free "bool", .free "str", .free "tuple", .free "len", .free "all", .free "zip", .free "set", .free "sorted", .free "range", .free "list", .free "enumerate", .free "min", .free "max", .int "LONGEST_NAME" 8, .int "LONGEST_NUMBER" 6, .int "LAST_DAY" 1200, .int "MOST_FIGURES" 12, .int "MOST_PARTS" 4, .int "MOST_WARES" 4, .int "MOST_BOTTOM" 100, .str "LETTERS" "abcdefghijklmnopqrstuvwxyz", .str "SIXTEENS" "0123456789abcdef", .str "FIGURES" "0123456789", .str "NOBODY" "-", .cls "Book", .mkr "Book", .cls "Weight", .mkr "Weight", .noat "Book" "drying_told", .noat "Book" "told", .noat "Weight" "top", .noat "Weight" "bottom", .noat "NoText" "row", .meth "Book" "by_days", .meth "Book" "numbers", .meth "Book" "tell", .meth "Book" "deed", .meth "Book" "strike", .meth "Book" "__eq__", .meth "Book" "__len__", .meth "Weight" "is_nought", .meth "Weight" "__eq__", .meth "Weight" "__str__", .meth "NoText" "__init__", .exm "NoText" "NoText" true, .keep "NoText"]
def tabSIZES : List (PySem.Str × He.Dv) := [(.ofString "cask", .int 2), (.ofString "weigh", .int 2), (.ofString "burn", .int 3), (.ofString "make", .int 3), (.ofString "part", .int 2), (.ofString "merge", .int 2), (.ofString "lose", .int 2), (.ofString "draw", .int 1), (.ofString "send", .int 2), (.ofString "pay", .int 3), (.ofString "fire", .int 1)]
def keySIZES : List PySem.Str := [.ofString "cask", .ofString "weigh", .ofString "burn", .ofString "make", .ofString "part", .ofString "merge", .ofString "lose", .ofString "draw", .ofString "send", .ofString "pay", .ofString "fire"]
def tabJUDGES : List (PySem.Str × He.Dv) := [(.ofString "cask", .glo "is_weighing"), (.ofString "weigh", .glo "is_weighing"), (.ofString "burn", .glo "is_burning"), (.ofString "make", .glo "is_making"), (.ofString "part", .glo "is_parting"), (.ofString "merge", .glo "is_merging"), (.ofString "lose", .glo "is_losing"), (.ofString "draw", .glo "is_drawing"), (.ofString "send", .glo "is_sending"), (.ofString "pay", .glo "is_paying"), (.ofString "fire", .glo "is_firing")]
def keyJUDGES : List PySem.Str := [.ofString "cask", .ofString "weigh", .ofString "burn", .ofString "make", .ofString "part", .ofString "merge", .ofString "lose", .ofString "draw", .ofString "send", .ofString "pay", .ofString "fire"]
def tabREADERS : List (PySem.Str × He.Dv) := [(.ofString "cask", .glo "read_parts"), (.ofString "weigh", .glo "read_parts"), (.ofString "part", .glo "read_pieces"), (.ofString "burn", .glo "read_burning"), (.ofString "make", .glo "read_making"), (.ofString "merge", .glo "read_merging"), (.ofString "pay", .glo "read_paying"), (.ofString "send", .glo "read_sending"), (.ofString "fire", .glo "read_burnt"), (.ofString "lose", .glo "read_names"), (.ofString "draw", .glo "read_names")]
def keyREADERS : List PySem.Str := [.ofString "cask", .ofString "weigh", .ofString "part", .ofString "burn", .ofString "make", .ofString "merge", .ofString "pay", .ofString "send", .ofString "fire", .ofString "lose", .ofString "draw"]
def mask : List Bool := [false, false, true, false, false, false, false, false, true, false, false, false, false, false, false, false, false, false, false, false, false, false, false, false, false, false, false, false, true, true, true, false, true, true, false, false, true, true, false, true, true, false, true, true, false, false, false, false, true, true, true, true, true, true, true, true, true, true, true, true, true, true, true, true, false, false, false, false, false, false, true, true, false, false, false, false, false, false, false, false, false, false, false, false, false, false, false, false, false, false, false, false, false, false, false, true, false, true, true, true, true, true, true, true, true, true, true, true, true, true, true, true, true, true, true, true, true, true, true, true, true, true, true, true, true, true, true, true, true, true, true, true, true, true, true, true, true, true, true, true, true, true]
def loose0 : List PySem.Str := [.ofString "_wall", .ofString "CaskError", .ofString "Wrong", .ofString "NoName", .ofString "NoGrains", .ofString "NoDay", .ofString "NoWeight", .ofString "NoDeed", .ofString "NoText", .ofString "Unknown", .ofString "NoMark", .ofString "NoNote", .ofString "LostNote", .ofString "Unborne", .ofString "NotBorne", .ofString "Short", .ofString "Twice", .ofString "TooLate", .ofString "NoSum", .ofString "Full", .ofString "NoWhole", .ofString "NoWare", .ofString "NoPlace", .ofString "LETTERS", .ofString "SIXTEENS", .ofString "LONGEST_NAME", .ofString "LONGEST_NUMBER", .ofString "LAST_DAY", .ofString "is_whole", .ofString "is_name", .ofString "is_mark", .ofString "mark_number", .ofString "is_grains", .ofString "is_day", .ofString "FIGURES", .ofString "MOST_FIGURES", .ofString "divisor_of", .ofString "Weight", .ofString "total", .ofString "number_in"]
def loose1 : List PySem.Str := [.ofString "read_weight", .ofString "MOST_PARTS", .ofString "is_part", .ofString "is_parts", .ofString "Cask", .ofString "with_parts", .ofString "casks_by_age", .ofString "weight_in", .ofString "are_unlike", .ofString "is_none_or_name", .ofString "are_pieces", .ofString "is_weighing", .ofString "is_burning", .ofString "is_making", .ofString "is_parting", .ofString "is_merging", .ofString "is_losing", .ofString "is_drawing", .ofString "is_sending", .ofString "is_paying", .ofString "is_firing", .ofString "SIZES", .ofString "JUDGES", .ofString "is_deed", .ofString "done_with_casks", .ofString "done_with_notes", .ofString "done", .ofString "MOST_WARES", .ofString "MOST_BOTTOM", .ofString "MONTH", .ofString "is_loss", .ofString "is_drying", .ofString "turns", .ofString "dried_weight", .ofString "dried", .ofString "Note", .ofString "fields_of", .ofString "age_of", .ofString "by_age", .ofString "grains_of"]
def loose2 : List PySem.Str := [.ofString "of_ware", .ofString "shares_of", .ofString "taking", .ofString "taken_from", .ofString "MOST_CASKS", .ofString "MOST_NAMES", .ofString "STANDS", .ofString "in_row", .ofString "by_marks", .ofString "cask_of", .ofString "of_one_ware", .ofString "youngest_day", .ofString "fallen", .ofString "Store", .ofString "outcome", .ofString "Book", .ofString "NOBODY", .ofString "words_of_pairs", .ofString "word_of", .ofString "words_behind", .ofString "row_of", .ofString "drying_row", .ofString "show_book", .ofString "must", .ofString "in_pairs", .ofString "name_in", .ofString "read_parts", .ofString "read_pieces", .ofString "read_burning", .ofString "read_making", .ofString "read_merging", .ofString "read_paying", .ofString "read_sending", .ofString "read_burnt", .ofString "read_names", .ofString "READERS", .ofString "day_and_deed", .ofString "loss_in", .ofString "drying_in", .ofString "read_row"]
def loose3 : List PySem.Str := [.ofString "read_book", .ofString "_law_cell_at", .ofString "_law_deck", .ofString "_law_draw", .ofString "_law_names", .ofString "_law_sixteens", .ofString "_law_marks", .ofString "_law_day", .ofString "_law_lowest", .ofString "_law_drying", .ofString "_law_some", .ofString "_law_pick", .ofString "_law_great", .ofString "_law_weight", .ofString "_law_row", .ofString "_law_pairs_of", .ofString "_law_words", .ofString "_law_told", .ofString "_law_any_order", .ofString "_law_spoilt_right", .ofString "_law_many_rows_right"]
def loose : List PySem.Str := loose0 ++ loose1 ++ loose2 ++ loose3
def tabs : List He.Tab := [(fun K => He.ga K "SIZES", keySIZES), (fun K => He.ga K "JUDGES", keyJUDGES), (fun K => He.ga K "READERS", keyREADERS)]
def tfs : List He.Defn := [("Book", some "numbers")]
/-- the class at C is an exception's, over own classes and ValueError, with an __init__ of its own -/
def oexB (K : PySem.W.Frag) (C : Addr) : Bool := match K.lookup C with
  | some ⟨.type t, _, .cls cd, sl⟩ => decide (t = "type") && (match cd.mro, sl.toList with
    | .ref C' :: bm, [_, _, _, _, some (.builtin n), _] => decide (C' = C) && (decide (n = "ValueError.__new__") && (!cd.hasDel && (cd.hasDict && HandSPX.refsVE bm)))
    | _, _ => false)
  | _ => false
def initB (K : PySem.W.Frag) (C : Addr) : Bool := match PySem.W.findCls K (.ref C) (.type "type") "__init__" with
  | some (.val (.builtin n)) => decide (n = "ValueError.__init__")
  | _ => false
def exL (K : PySem.W.Frag) : List Bool :=
  [oexB K (He.ga K "NoText"),
   He.eqO (PySem.W.findIn K (.ref (He.ga K "NoText")) "__setattr__") (some (some (.builtin "object.__setattr__"))),
   decide (PySem.W.typeIn K (.ref (He.ga K "NoText")) = some (.type "type")),
   xfB K (He.ga K "NoText"),
   PySem.W.readsIn K (He.ga K "Wrong") (.type "type"),
   He.eqO (PySem.W.specialIn K (.ref (He.ga K "Wrong")) "__getattribute__") (some (some (.builtin "type.__getattribute__"))),
   initB K (He.ga K "Wrong"),
   He.valsB K (He.ga K "SIZES") tabSIZES, He.valsB K (He.ga K "JUDGES") tabJUDGES, He.valsB K (He.ga K "READERS") tabREADERS,
   He.eqO (PySem.W.findIn K (.ref (He.ga K "Book")) "__ne__") (some (some (.builtin "object.__ne__"))),
   decide (PySem.W.kitOne K (.ref (He.ga K "Book")) (.ref (He.ga K "Book")) = some true),
   decide (PySem.W.kitOne K (.ref (He.ga K "Weight")) (.ref (He.ga K "Weight")) = some true),
   He.eqO (PySem.W.specialIn K (.builtin "object.__class__") "__get__") (some (some (.builtin "getset_descriptor.__get__"))),
   decide (PySem.W.takesIn K (.builtin "object.__class__") = some true),
   He.eqO (PySem.W.findIn K (.ref (He.ga K "Book")) "__class__") (some (some (.builtin "object.__class__"))),
   decide (PySem.W.mroIn K (He.ga K "Book") (.type "object") = some true),
   He.eqO (PySem.W.findIn K (.ref (He.ga K "Weight")) "__class__") (some (some (.builtin "object.__class__"))),
   decide (PySem.W.mroIn K (He.ga K "Weight") (.type "object") = some true)]
def exB (K : PySem.W.Frag) : Bool := (exL K).all id
/-! ### what is looked at: the globals that are walked (by their places behind the first one), their classes and methods, code objects -/
def pick : List Bool → List DictEntry → List Addr
  | true :: r, e :: es => He.refV e.val ++ pick r es
  | false :: r, _ :: es => pick r es
  | _, _ => []
def since : List DictEntry → List DictEntry
  | [] => []
  | e :: es => match e.key with
    | .str x _ => (match decide (x = .ofString "_wall") with
      | true => e :: es
      | false => since es)
    | _ => since es
def nx1 (o : Obj) : List Addr := match o.data with
  | .func fd => He.refV fd.code ++ He.refV fd.defaults
  | .cls cd => cd.ns :: cd.mro.tail.flatMap He.refV
  | _ => []
def nx2 (o : Obj) : List Addr := match o.data with
  | .dict es _ => es.toList.flatMap fun e => He.refV e.val
  | .cls cd => [cd.ns]
  | _ => []
def level (f : Obj → List Addr) (g : Addr → Option Obj) (as : List Addr) : List Addr := as.flatMap fun a => match g a with
  | some o => f o
  | none => []
def asM (g : Addr → Option Obj) : List Addr :=
  let l1 := level (fun o => match o.data with
    | .dict es _ => pick mask (since es.toList)
    | _ => []) g [mainGlobals]
  let l2 := level nx1 g l1
  let l3 := level nx2 g l2
  mainGlobals :: cStatics :: (l1 ++ (l2 ++ (l3 ++ level nx1 g l3)))
abbrev KM (g : Addr → Option Obj) : PySem.W.Frag := He.frT g (asM g)
def obsM (g : Addr → Option Obj) : He.AlX := (He.obsT fa fn tabs (KM g), exB (KM g) && He.tabsB g tfs (KM g))
theorem says_of {w : World} {h : Heap} (e : obsM h.get? = He.valX fn tabs w) : He.SaysX fa fn tabs tfs exB w h (KM h.get?) := by
  have e1 := congrArg (fun z : He.AlX => z.1) e
  have e2 := congrArg (fun z : He.AlX => z.2) e
  obtain ⟨x1, x2⟩ := Bool.and_eq_true_iff.mp (show (exB (KM h.get?) && He.tabsB h.get? tfs (KM h.get?)) = true from e2)
  have each : ∀ p ∈ tfs, PySem.W.codeHdIn (KM h.get?) (He.cT (KM h.get?) p).1 (He.cT (KM h.get?) p).2 = true ∧ ∃ o, h.get? (He.cT (KM h.get?) p).2 = some o ∧ He.emptyTab o = true := by
    intro p hp
    have y := List.all_eq_true.mp x2 p hp
    obtain ⟨y1, y2⟩ := Bool.and_eq_true_iff.mp y
    refine ⟨y1, ?_⟩
    cases q : h.get? (He.cT (KM h.get?) p).2 with
    | none => rw [q] at y2; cases y2
    | some o => rw [q] at y2; exact ⟨o, rfl, y2⟩
  refine ⟨e1, x1, fun p hp => (each p hp).1, fun p hp => ?_, fun p hp => ?_⟩
  · obtain ⟨_, o, q, z⟩ := each p hp
    exact He.frT_none q z
  · obtain ⟨_, o, q, z⟩ := each p hp
    rw [q, He.emptyTab_eq z]
def hk : PySem.W.Hook where
  α := He.AlX
  obs := fun s => obsM s.heap.get?
  val := fun w => He.valX fn tabs w
  says := fun w h => ∃ K : PySem.W.Frag, K.In h ∧ He.SaysX fa fn tabs tfs exB w h K
  of := fun _ _ e => ⟨_, He.frT_in, says_of e⟩
  keeps := fun _ _ _ ⟨K, hK, c⟩ k => ⟨K, PySem.W.Frag.In.keeps hK k, ⟨c.t, c.more, c.hd, c.out, fun p hp => k _ _ (c.empty p hp)⟩⟩
def ob (s : PySem.W.SharedT) : He.AlX := obsM (HandSHeadRun.getT s)
theorem ob_eq (s : PySem.W.SharedT) : ob s = hk.obs s.abs := by
  have e : HandSHeadRun.getT s = s.abs.heap.get? := funext (HandSHeadRun.getT_eq s)
  unfold ob
  rw [e] <;> rfl

noncomputable section
open PySem.W HandSHeadRun
namespace Qk
/-- the tree's words by its own recursor -/
def getR (T : BT) : Nat → Option Obj := BT.rec (motive := fun _ => Nat → Option Obj) (fun _ => none) (fun v _ _ gl gr i => Bool.rec (motive := fun _ => Option Obj) (Bool.rec (motive := fun _ => Option Obj) (gr (i / 2 - 1)) (gl (i / 2)) (Nat.beq (i % 2) 1)) (some v) (Nat.beq i 0)) T
def setR (T : BT) : Nat → (Obj → Obj) → BT := BT.rec (motive := fun _ => Nat → (Obj → Obj) → BT) (fun _ _ => .nil) (fun v l r gl gr i f => Bool.rec (motive := fun _ => BT) (Bool.rec (motive := fun _ => BT) (.node v l (gr (i / 2 - 1) f)) (.node v (gl (i / 2) f) r) (Nat.beq (i % 2) 1)) (.node (f v) l r) (Nat.beq i 0)) T
def insR (T : BT) : Nat → Obj → BT := BT.rec (motive := fun _ => Nat → Obj → BT) (fun _ o => .node o .nil .nil) (fun v l r gl gr i o => Bool.rec (motive := fun _ => BT) (Bool.rec (motive := fun _ => BT) (.node v l (gr (i / 2 - 1) o)) (.node v (gl (i / 2) o) r) (Nat.beq (i % 2) 1)) (.node o l r) (Nat.beq i 0)) T
theorem getR_eq : ∀ (T : BT) (i : Nat), getR T i = T.get i
  | .nil, i => rfl
  | .node v l r, i => by
    show Bool.rec (motive := fun _ => Option Obj) (Bool.rec (motive := fun _ => Option Obj) (getR r (i / 2 - 1)) (getR l (i / 2)) (Nat.beq (i % 2) 1)) (some v) (Nat.beq i 0) = (match Nat.beq i 0 with | true => some v | false => match Nat.beq (i % 2) 1 with | true => l.get (i / 2) | false => r.get (i / 2 - 1))
    rw [getR_eq l, getR_eq r]
    cases Nat.beq i 0 <;> cases Nat.beq (i % 2) 1 <;> rfl
theorem setR_eq : ∀ (T : BT) (i : Nat) (f : Obj → Obj), setR T i f = T.set i f
  | .nil, i, f => rfl
  | .node v l r, i, f => by
    show Bool.rec (motive := fun _ => BT) (Bool.rec (motive := fun _ => BT) (.node v l (setR r (i / 2 - 1) f)) (.node v (setR l (i / 2) f) r) (Nat.beq (i % 2) 1)) (.node (f v) l r) (Nat.beq i 0) = (match Nat.beq i 0 with | true => .node (f v) l r | false => match Nat.beq (i % 2) 1 with | true => .node v (l.set (i / 2) f) r | false => .node v l (r.set (i / 2 - 1) f))
    rw [setR_eq l, setR_eq r]
    cases Nat.beq i 0 <;> cases Nat.beq (i % 2) 1 <;> rfl
theorem insR_eq : ∀ (T : BT) (i : Nat) (o : Obj), insR T i o = T.ins i o
  | .nil, i, o => rfl
  | .node v l r, i, o => by
    show Bool.rec (motive := fun _ => BT) (Bool.rec (motive := fun _ => BT) (.node v l (insR r (i / 2 - 1) o)) (.node v (insR l (i / 2) o) r) (Nat.beq (i % 2) 1)) (.node o l r) (Nat.beq i 0) = (match Nat.beq i 0 with | true => .node o l r | false => match Nat.beq (i % 2) 1 with | true => .node v (l.ins (i / 2) o) r | false => .node v l (r.ins (i / 2 - 1) o))
    rw [insR_eq l, insR_eq r]
    cases Nat.beq i 0 <;> cases Nat.beq (i % 2) 1 <;> rfl
variable (st : SharedT → Thread → Option (SharedT × Thread)) (p : Program) (w : World) (n0 : Nat) (ann : Option Value) (ih : SharedT → Thread → Option SharedT)
/-- a step by the machine's own words, all looks -/
def slow (s : SharedT) (t : Thread) : Option SharedT := match through t with
  | true => some s
  | false => match stepOk n0 ann t with
    | false => none
    | true => match st s t with
      | some (s', t') => frS s' fun s' => ih s' t'
      | none => none
/-- a step without looks -/
def plain (s : SharedT) (t : Thread) : Option SharedT := match st s t with
  | some (s', t') => frS s' fun s' => ih s' t'
  | none => none
def qLoad (s : SharedT) (code : Code) (pos : Pos) (stack : List Frame) (a : Addr) (_ : Option Value) (k : Obj → Sem Fin) : Option SharedT :=
  SharedT.rec (motive := fun _ => Option SharedT) (fun T n _ _ _ _ _ => Bool.rec (motive := fun _ => Option SharedT) none
    (Option.rec (motive := fun _ => Option SharedT) none (fun o => Option.rec (motive := fun _ => Option SharedT) none (fun o' => ih s ⟨k o', code, pos, stack⟩) (alive o)) (getR T a)) (Nat.blt a n)) s
def qUpdate (s : SharedT) (code : Code) (pos : Pos) (stack : List Frame) (a : Addr) (_ : Option Value) (f : Obj → Obj) (k : Unit → Sem Fin) : Option SharedT :=
  Bool.rec (motive := fun _ => Option SharedT) none (SharedT.rec (motive := fun _ => Option SharedT) (fun T n life gens drawn toks os => Bool.rec (motive := fun _ => Option SharedT) none
    (Option.rec (motive := fun _ => Option SharedT) none (fun o => Option.rec (motive := fun _ => Option SharedT) none (fun _ => ih ⟨setR T a f, n, life, gens, drawn, toks, os⟩ ⟨k (), code, pos, stack⟩) (alive o)) (getR T a)) (Nat.blt a n)) s)
    (Nat.ble n0 a || a == mainNs || a == cStatics || ann == some (.ref a))
def qAlloc (s : SharedT) (code : Code) (pos : Pos) (stack : List Frame) (o : Obj) (k : Addr → Sem Fin) : Option SharedT :=
  SharedT.rec (motive := fun _ => Option SharedT) (fun T n life gens drawn toks os => (fun T' : BT => Bool.rec (motive := fun _ => Option SharedT) none
    (frNat (n + 1) fun m => ih ⟨T', m, life, gens, drawn, toks, os⟩ ⟨k n, code, pos, stack⟩) (getR T' n).isSome) (insR T n o)) s
def qRule (s : SharedT) (code : Code) (pos : Pos) (stack : List Frame) (_ : String) (k : Unit → Sem Fin) : Option SharedT := ih s ⟨k (), code, pos, stack⟩
def qAt (s : SharedT) (code : Code) (_ : Pos) (stack : List Frame) (q : Pos) (k : Unit → Sem Fin) : Option SharedT := ih s ⟨k (), code, q, stack⟩
def qPoint (s : SharedT) (code : Code) (pos : Pos) (stack : List Frame) (_ : List Value) (k : Unit → Sem Fin) : Option SharedT := ih s ⟨k (), code, pos, stack⟩
def qFresh (s : SharedT) (code : Code) (pos : Pos) (stack : List Frame) (k : Tok → Sem Fin) : Option SharedT :=
  SharedT.rec (motive := fun _ => Option SharedT) (fun T n life gens drawn toks os => frNat (toks + 1) fun m => ih ⟨T, n, life, gens, drawn, m, os⟩ ⟨k toks, code, pos, stack⟩) s
def qAsk (s : SharedT) (code : Code) (pos : Pos) (stack : List Frame) (k : Setting → Sem Fin) : Option SharedT := ih s ⟨k ⟨p, w.params⟩, code, pos, stack⟩
/-- one step, by its kind -/
def one (s : SharedT) (t : Thread) : Option SharedT :=
  Thread.rec (motive := fun _ => Option SharedT) (fun cur code pos stack => Sem.casesOn (motive := fun _ => Option SharedT) cur
    (fun _ => slow st n0 ann ih s t) (fun _ => slow st n0 ann ih s t) (fun _ => none) (fun _ => none)
    (qRule ih s code pos stack) (qAt ih s code pos stack) (qLoad ih s code pos stack) (qUpdate n0 ann ih s code pos stack) (qAlloc ih s code pos stack)
    (fun _ _ => slow st n0 ann ih s t) (qPoint ih s code pos stack) (fun _ _ => none) (qFresh ih s code pos stack) (qAsk p w ih s code pos stack)
    (fun _ _ _ => slow st n0 ann ih s t) (fun _ _ _ => none) (fun _ _ _ _ _ => plain st ih s t) (fun _ _ => slow st n0 ann ih s t) (fun _ _ => slow st n0 ann ih s t) (fun _ _ => slow st n0 ann ih s t)
    (fun _ _ _ _ => slow st n0 ann ih s t) (fun _ _ _ _ => slow st n0 ann ih s t) (fun _ => plain st ih s t) (fun _ _ => none) (fun _ => slow st n0 ann ih s t) (fun _ _ _ _ _ => none)) t
end Qk
/-- the top to its end, quicker -/
def goR (st : SharedT → Thread → Option (SharedT × Thread)) (p : Program) (w : World) (n0 : Nat) (ann : Option Value) (m : Nat) : SharedT → Thread → Option SharedT :=
  Nat.rec (motive := fun _ => SharedT → Thread → Option SharedT) (fun _ _ => none) (fun _ ih => Qk.one st p w n0 ann ih) m
def endR (st : SharedT → Thread → Option (SharedT × Thread)) (M : Nat) (p : Program) (w : World) (os : OsState) : Option SharedT := match putAll (boot_heap w.params).objs.toList .nil 0 with
  | some (t, n) => frNat n fun n0 => goR st p w n0 (bootAnn w) M (bootT w os (t, n0)) (topStub p)
  | none => none
namespace Qk
variable {den : Code → Sem Fin} {p : Program} {w : World} {n0 : Nat} {ann : Option Value} {m : Nat}
theorem go_step {s s2 s' : SharedT} {t t2 : Thread} (ht : through t = false) (hk : stepOk n0 ann t = true) (hs : stepT den p w s t = some (s2, t2)) (e : goF (stepT den p w) n0 ann m s2 t2 = some s') : goF (stepT den p w) n0 ann (m + 1) s t = some s' := by
  show (match through t with
    | true => some s
    | false => match stepOk n0 ann t with
      | false => none
      | true => match stepT den p w s t with
        | some (s', t') => frS s' fun s' => goF (stepT den p w) n0 ann m s' t'
        | none => none) = some s'
  rw [ht, hk, hs]
  show (frS s2 fun s' => goF (stepT den p w) n0 ann m s' t2) = some s'
  rw [frS_eq]
  exact e
theorem slow_ok {ih : SharedT → Thread → Option SharedT} {s' : SharedT} (H : ∀ s t, ih s t = some s' → goF (stepT den p w) n0 ann m s t = some s') {s : SharedT} {t : Thread} (h : slow (stepT den p w) n0 ann ih s t = some s') : goF (stepT den p w) n0 ann (m + 1) s t = some s' := by
  unfold slow at h
  cases ht : through t with
  | true =>
    rw [ht] at h
    show (match through t with
      | true => some s
      | false => match stepOk n0 ann t with
        | false => none
        | true => match stepT den p w s t with
          | some (s', t') => frS s' fun s' => goF (stepT den p w) n0 ann m s' t'
          | none => none) = some s'
    rw [ht]
    exact h
  | false =>
    rw [ht] at h
    cases hk : stepOk n0 ann t with
    | false =>
      rw [hk] at h
      cases h
    | true =>
      rw [hk] at h
      have h2 : (match stepT den p w s t with
        | some (s', t') => frS s' fun s' => ih s' t'
        | none => none) = some s' := h
      cases hs : stepT den p w s t with
      | none =>
        rw [hs] at h2
        cases h2
      | some r =>
        obtain ⟨s2, t2⟩ := r
        rw [hs] at h2
        have h3 : (frS s2 fun s' => ih s' t2) = some s' := h2
        rw [frS_eq] at h3
        exact go_step ht hk hs (H _ _ h3)
theorem plain_ok {ih : SharedT → Thread → Option SharedT} {s' : SharedT} (H : ∀ s t, ih s t = some s' → goF (stepT den p w) n0 ann m s t = some s') {s : SharedT} {t : Thread} (ht : through t = false) (hk : stepOk n0 ann t = true) (h : plain (stepT den p w) ih s t = some s') : goF (stepT den p w) n0 ann (m + 1) s t = some s' := by
  unfold plain at h
  cases hs : stepT den p w s t with
  | none =>
    rw [hs] at h
    cases h
  | some r =>
    obtain ⟨s2, t2⟩ := r
    rw [hs] at h
    have h3 : (frS s2 fun s' => ih s' t2) = some s' := h
    rw [frS_eq] at h3
    exact go_step ht hk hs (H _ _ h3)
theorem one_ok {ih : SharedT → Thread → Option SharedT} {s' : SharedT} (H : ∀ s t, ih s t = some s' → goF (stepT den p w) n0 ann m s t = some s') {s : SharedT} {t : Thread} (h : one (stepT den p w) p w n0 ann ih s t = some s') : goF (stepT den p w) n0 ann (m + 1) s t = some s' := by
  obtain ⟨T, n, life, gens, drawn, toks, os⟩ := s
  obtain ⟨cur, code, pos, stack⟩ := t
  cases cur with
  | pure f => exact slow_ok H h
  | raise e => exact slow_ok H h
  | unsupported x => cases h
  | finish e => cases h
  | rule tag k => exact go_step (Bool.and_false _) rfl rfl (H _ _ h)
  | «at» q k => exact go_step (Bool.and_false _) rfl rfl (H _ _ h)
  | load a q k =>
    have h1 : Bool.rec (motive := fun _ => Option SharedT) none (Option.rec (motive := fun _ => Option SharedT) none (fun o => Option.rec (motive := fun _ => Option SharedT) none (fun o' => ih ⟨T, n, life, gens, drawn, toks, os⟩ ⟨k o', code, pos, stack⟩) (alive o)) (getR T a)) (Nat.blt a n) = some s' := h
    rw [getR_eq] at h1
    cases e1 : Nat.blt a n with
    | false =>
      rw [e1] at h1
      cases h1
    | true =>
      rw [e1] at h1
      cases e2 : T.get a with
      | none =>
        rw [e2] at h1
        cases h1
      | some o =>
        rw [e2] at h1
        have h2 : Option.rec (motive := fun _ => Option SharedT) none (fun o' => ih ⟨T, n, life, gens, drawn, toks, os⟩ ⟨k o', code, pos, stack⟩) (alive o) = some s' := h1
        cases e3 : alive o with
        | none =>
          rw [e3] at h2
          cases h2
        | some o' =>
          rw [e3] at h2
          refine go_step (Bool.and_false _) rfl ?_ (H _ _ h2)
          simp only [stepT, e1, e2, e3]
  | update a q f k =>
    have h0 : Bool.rec (motive := fun _ => Option SharedT) none (Bool.rec (motive := fun _ => Option SharedT) none
      (Option.rec (motive := fun _ => Option SharedT) none (fun o => Option.rec (motive := fun _ => Option SharedT) none (fun _ => ih ⟨setR T a f, n, life, gens, drawn, toks, os⟩ ⟨k (), code, pos, stack⟩) (alive o)) (getR T a)) (Nat.blt a n))
      (Nat.ble n0 a || a == mainNs || a == cStatics || ann == some (.ref a)) = some s' := h
    rw [getR_eq, setR_eq] at h0
    cases e0 : (Nat.ble n0 a || a == mainNs || a == cStatics || ann == some (.ref a)) with
    | false =>
      rw [e0] at h0
      cases h0
    | true =>
      rw [e0] at h0
      have h1 : Bool.rec (motive := fun _ => Option SharedT) none (Option.rec (motive := fun _ => Option SharedT) none (fun o => Option.rec (motive := fun _ => Option SharedT) none (fun _ => ih ⟨T.set a f, n, life, gens, drawn, toks, os⟩ ⟨k (), code, pos, stack⟩) (alive o)) (T.get a)) (Nat.blt a n) = some s' := h0
      cases e1 : Nat.blt a n with
      | false =>
        rw [e1] at h1
        cases h1
      | true =>
        rw [e1] at h1
        cases e2 : T.get a with
        | none =>
          rw [e2] at h1
          cases h1
        | some o =>
          rw [e2] at h1
          have h2 : Option.rec (motive := fun _ => Option SharedT) none (fun _ => ih ⟨T.set a f, n, life, gens, drawn, toks, os⟩ ⟨k (), code, pos, stack⟩) (alive o) = some s' := h1
          cases e3 : alive o with
          | none =>
            rw [e3] at h2
            cases h2
          | some o' =>
            rw [e3] at h2
            refine go_step (Bool.and_false _) ?_ ?_ (H _ _ h2)
            · exact (congrArg (fun b => true && b) e0)
            · simp only [stepT, e1, e2, e3]
  | alloc o k =>
    have h1 : Bool.rec (motive := fun _ => Option SharedT) none (frNat (n + 1) fun m => ih ⟨insR T n o, m, life, gens, drawn, toks, os⟩ ⟨k n, code, pos, stack⟩) (getR (insR T n o) n).isSome = some s' := h
    rw [getR_eq, insR_eq, frNat_eq] at h1
    cases e1 : ((T.ins n o).get n).isSome with
    | false =>
      rw [e1] at h1
      cases h1
    | true =>
      rw [e1] at h1
      refine go_step (Bool.and_false _) rfl ?_ (H _ _ h1)
      simp only [stepT, e1]
  | loadIfAlive a k => exact slow_ok H h
  | point l k => exact go_step (Bool.and_false _) rfl rfl (H _ _ h)
  | register a k => cases h
  | fresh k =>
    have h1 : (frNat (toks + 1) fun m => ih ⟨T, n, life, gens, drawn, m, os⟩ ⟨k toks, code, pos, stack⟩) = some s' := h
    rw [frNat_eq] at h1
    exact go_step (Bool.and_false _) rfl rfl (H _ _ h1)
  | ask k => exact go_step (Bool.and_false _) rfl rfl (H _ _ h)
  | choose c q k => exact slow_ok H h
  | os q l k => cases h
  | call c hd g l k => exact plain_ok H (Bool.and_false _) rfl h
  | handled own k => exact slow_ok H h
  | newGen c k => exact slow_ok H h
  | genState g k => exact slow_ok H h
  | resume g r l k => exact slow_ok H h
  | «yield» v g l k => exact slow_ok H h
  | stack k => exact plain_ok H (Bool.and_false _) rfl h
  | fork c k => cases h
  | thread k => exact slow_ok H h
  | await a tk td l k => cases h
end Qk
theorem goR_ok {den : Code → Sem Fin} {p : Program} {w : World} {n0 : Nat} {ann : Option Value} {s' : SharedT} : ∀ (m : Nat) (s : SharedT) (t : Thread), goR (stepT den p w) p w n0 ann m s t = some s' → goF (stepT den p w) n0 ann m s t = some s'
  | 0, s, t, h => by cases h
  | m + 1, s, t, h => Qk.one_ok (fun s t => goR_ok m s t) h
theorem endR_ok {den : Code → Sem Fin} {p : Program} {w : World} {M : Nat} {os : OsState} {s : SharedT} (h : endR (stepT den p w) M p w os = some s) : endF (stepT den p w) M p w os = some s := by
  unfold endR at h
  unfold endF
  cases e : putAll (boot_heap w.params).objs.toList .nil 0 with
  | none =>
    rw [e] at h
    cases h
  | some r =>
    obtain ⟨t, n⟩ := r
    rw [e] at h
    have h1 : (frNat n fun n0 => goR (stepT den p w) p w n0 (bootAnn w) M (bootT w os (t, n0)) (topStub p)) = some s := h
    show (frNat n fun n0 => goF (stepT den p w) n0 (bootAnn w) M (bootT w os (t, n0)) (topStub p)) = some s
    rw [frNat_eq] at h1 ⊢
    exact goR_ok _ _ _ h1
theorem endR_map {α : Type} {p : Program} {w : World} {M : Nat} {os : OsState} {f : SharedT → α} {v : α} (h : (endR (stepQ (denQ tabQ) p w) M p w os).map f = some v) : (endF (stepQ (denQ tabQ) p w) M p w os).map f = some v := by
  obtain ⟨s, e, q⟩ := Option.map_eq_some_iff.mp h
  rw [← stepQ_eq] at e ⊢
  rw [endR_ok e]
  exact congrArg some q
/-- the state behind the top -/
def ends (w : World) (os : OsState) : Option SharedT := endR (HandSHeadRun.stepQ (HandSHeadRun.denQ HandSHeadRun.tabQ) R.prog w) 60000 R.prog w os
def lookB (w : World) (s : SharedT) : Bool := HandSHeadRun.looksF R.prog (boot_heap w.params) s.abs
def seenB (s : SharedT) := HandSHeadRun.seenQ qv loose (importedModules R.prog.main.body) (fun s => xlAt qv [] s && recOk R.toRowW.records s) s.abs
theorem opt3 {α β γ δ : Type} {o : Option α} {l : α → β} {q : α → γ} {k : α → δ} {a : β} {b : γ} {c : δ} (h1 : o.map l = some a) (h3 : o.map q = some b) (h2 : o.map k = some c) : o.map (fun s => (l s, q s, k s)) = some (a, b, c) := by
  cases o with
  | none => cases h1
  | some s =>
    have e1 : l s = a := Option.some.inj h1
    have e3 : q s = b := Option.some.inj h3
    have e2 : k s = c := Option.some.inj h2
    show some (l s, q s, k s) = _
    rw [e1, e2, e3]
theorem obF (w : World) (os : OsState) : (ends (w.withFollow "special-get-raises" false) os).map ob = some (hk.val (w.withFollow "special-get-raises" false)) := by kernel_rfl
theorem lookF (w : World) (os : OsState) : (ends (w.withFollow "special-get-raises" false) os).map (fun s => lookB (w.withFollow "special-get-raises" false) s) = some true := by kernel_rfl
theorem seenF (w : World) (os : OsState) : (ends (w.withFollow "special-get-raises" false) os).map seenB = some (openGood qv loose) := by kernel_rfl
theorem obT (w : World) (os : OsState) : (ends (w.withFollow "special-get-raises" true) os).map ob = some (hk.val (w.withFollow "special-get-raises" true)) := by kernel_rfl
theorem lookT (w : World) (os : OsState) : (ends (w.withFollow "special-get-raises" true) os).map (fun s => lookB (w.withFollow "special-get-raises" true) s) = some true := by kernel_rfl
theorem seenT (w : World) (os : OsState) : (ends (w.withFollow "special-get-raises" true) os).map seenB = some (openGood qv loose) := by kernel_rfl
/-- the run's equation, its parts by names -/
def RunOk (w : World) : Prop := ∀ os : OsState, (ends w os).map (fun s => (lookB w s, seenB s, ob s)) = some (true, openGood qv loose, hk.val w)
theorem run_eq (w : World) (h : RunOk w) : HandSHeadRun.RunEq R qv hk ob 60000 loose w := fun os => endR_map (h os)
theorem runOk (w : World) : RunOk w := byRow2 "special-get-raises" (P := RunOk) (fun w os => opt3 (lookF w os) (seenF w os) (obF w os)) (fun w os => opt3 (lookT w os) (seenT w os) (obT w os)) w
theorem run (w : World) : HandSHeadRun.RunEq R qv hk ob 60000 loose w := run_eq w (runOk w)
end

end CK
set_option maxHeartbeats 4000000
namespace CK
open PySem PySem.Spec PyProof.Rows L2
/-! ### what the top tells -/
structure Tp (w : World) (K : PySem.W.Frag) (mg : Str → Option Value) (base : Heap) : Prop where
  d : He.SaysT fa fn tabs w K
  more : exB K = true
  X : K.In base
  G : base.Ns mainGlobals mg
  tb : LamX.TabB base mg (He.cT K ("Book", some "numbers")).1 (He.cT K ("Book", some "numbers")).2
section
variable {w : World} {K : PySem.W.Frag} {mg : Str → Option Value} {base : Heap}
theorem G_is_whole (T : Tp w K mg base) : mg "is_whole" = some (.ref (He.ga K "is_whole")) := He.glo_ok T.X T.G (T.d.d.fact 0 (f := .glo "is_whole") rfl)
theorem G_is_name (T : Tp w K mg base) : mg "is_name" = some (.ref (He.ga K "is_name")) := He.glo_ok T.X T.G (T.d.d.fact 1 (f := .glo "is_name") rfl)
theorem G_is_mark (T : Tp w K mg base) : mg "is_mark" = some (.ref (He.ga K "is_mark")) := He.glo_ok T.X T.G (T.d.d.fact 2 (f := .glo "is_mark") rfl)
theorem G_is_grains (T : Tp w K mg base) : mg "is_grains" = some (.ref (He.ga K "is_grains")) := He.glo_ok T.X T.G (T.d.d.fact 3 (f := .glo "is_grains") rfl)
theorem G_is_day (T : Tp w K mg base) : mg "is_day" = some (.ref (He.ga K "is_day")) := He.glo_ok T.X T.G (T.d.d.fact 4 (f := .glo "is_day") rfl)
theorem G_divisor_of (T : Tp w K mg base) : mg "divisor_of" = some (.ref (He.ga K "divisor_of")) := He.glo_ok T.X T.G (T.d.d.fact 5 (f := .glo "divisor_of") rfl)
theorem G_number_in (T : Tp w K mg base) : mg "number_in" = some (.ref (He.ga K "number_in")) := He.glo_ok T.X T.G (T.d.d.fact 6 (f := .glo "number_in") rfl)
theorem G_read_weight (T : Tp w K mg base) : mg "read_weight" = some (.ref (He.ga K "read_weight")) := He.glo_ok T.X T.G (T.d.d.fact 7 (f := .glo "read_weight") rfl)
theorem G_is_part (T : Tp w K mg base) : mg "is_part" = some (.ref (He.ga K "is_part")) := He.glo_ok T.X T.G (T.d.d.fact 8 (f := .glo "is_part") rfl)
theorem G_is_parts (T : Tp w K mg base) : mg "is_parts" = some (.ref (He.ga K "is_parts")) := He.glo_ok T.X T.G (T.d.d.fact 9 (f := .glo "is_parts") rfl)
theorem G_are_unlike (T : Tp w K mg base) : mg "are_unlike" = some (.ref (He.ga K "are_unlike")) := He.glo_ok T.X T.G (T.d.d.fact 10 (f := .glo "are_unlike") rfl)
theorem G_is_none_or_name (T : Tp w K mg base) : mg "is_none_or_name" = some (.ref (He.ga K "is_none_or_name")) := He.glo_ok T.X T.G (T.d.d.fact 11 (f := .glo "is_none_or_name") rfl)
theorem G_are_pieces (T : Tp w K mg base) : mg "are_pieces" = some (.ref (He.ga K "are_pieces")) := He.glo_ok T.X T.G (T.d.d.fact 12 (f := .glo "are_pieces") rfl)
theorem G_is_weighing (T : Tp w K mg base) : mg "is_weighing" = some (.ref (He.ga K "is_weighing")) := He.glo_ok T.X T.G (T.d.d.fact 13 (f := .glo "is_weighing") rfl)
theorem G_is_burning (T : Tp w K mg base) : mg "is_burning" = some (.ref (He.ga K "is_burning")) := He.glo_ok T.X T.G (T.d.d.fact 14 (f := .glo "is_burning") rfl)
theorem G_is_making (T : Tp w K mg base) : mg "is_making" = some (.ref (He.ga K "is_making")) := He.glo_ok T.X T.G (T.d.d.fact 15 (f := .glo "is_making") rfl)
theorem G_is_parting (T : Tp w K mg base) : mg "is_parting" = some (.ref (He.ga K "is_parting")) := He.glo_ok T.X T.G (T.d.d.fact 16 (f := .glo "is_parting") rfl)
theorem G_is_merging (T : Tp w K mg base) : mg "is_merging" = some (.ref (He.ga K "is_merging")) := He.glo_ok T.X T.G (T.d.d.fact 17 (f := .glo "is_merging") rfl)
theorem G_is_losing (T : Tp w K mg base) : mg "is_losing" = some (.ref (He.ga K "is_losing")) := He.glo_ok T.X T.G (T.d.d.fact 18 (f := .glo "is_losing") rfl)
theorem G_is_drawing (T : Tp w K mg base) : mg "is_drawing" = some (.ref (He.ga K "is_drawing")) := He.glo_ok T.X T.G (T.d.d.fact 19 (f := .glo "is_drawing") rfl)
theorem G_is_sending (T : Tp w K mg base) : mg "is_sending" = some (.ref (He.ga K "is_sending")) := He.glo_ok T.X T.G (T.d.d.fact 20 (f := .glo "is_sending") rfl)
theorem G_is_paying (T : Tp w K mg base) : mg "is_paying" = some (.ref (He.ga K "is_paying")) := He.glo_ok T.X T.G (T.d.d.fact 21 (f := .glo "is_paying") rfl)
theorem G_is_firing (T : Tp w K mg base) : mg "is_firing" = some (.ref (He.ga K "is_firing")) := He.glo_ok T.X T.G (T.d.d.fact 22 (f := .glo "is_firing") rfl)
theorem G_is_deed (T : Tp w K mg base) : mg "is_deed" = some (.ref (He.ga K "is_deed")) := He.glo_ok T.X T.G (T.d.d.fact 23 (f := .glo "is_deed") rfl)
theorem G_is_loss (T : Tp w K mg base) : mg "is_loss" = some (.ref (He.ga K "is_loss")) := He.glo_ok T.X T.G (T.d.d.fact 24 (f := .glo "is_loss") rfl)
theorem G_is_drying (T : Tp w K mg base) : mg "is_drying" = some (.ref (He.ga K "is_drying")) := He.glo_ok T.X T.G (T.d.d.fact 25 (f := .glo "is_drying") rfl)
theorem G_words_of_pairs (T : Tp w K mg base) : mg "words_of_pairs" = some (.ref (He.ga K "words_of_pairs")) := He.glo_ok T.X T.G (T.d.d.fact 26 (f := .glo "words_of_pairs") rfl)
theorem G_word_of (T : Tp w K mg base) : mg "word_of" = some (.ref (He.ga K "word_of")) := He.glo_ok T.X T.G (T.d.d.fact 27 (f := .glo "word_of") rfl)
theorem G_words_behind (T : Tp w K mg base) : mg "words_behind" = some (.ref (He.ga K "words_behind")) := He.glo_ok T.X T.G (T.d.d.fact 28 (f := .glo "words_behind") rfl)
theorem G_row_of (T : Tp w K mg base) : mg "row_of" = some (.ref (He.ga K "row_of")) := He.glo_ok T.X T.G (T.d.d.fact 29 (f := .glo "row_of") rfl)
theorem G_drying_row (T : Tp w K mg base) : mg "drying_row" = some (.ref (He.ga K "drying_row")) := He.glo_ok T.X T.G (T.d.d.fact 30 (f := .glo "drying_row") rfl)
theorem G_show_book (T : Tp w K mg base) : mg "show_book" = some (.ref (He.ga K "show_book")) := He.glo_ok T.X T.G (T.d.d.fact 31 (f := .glo "show_book") rfl)
theorem G_must (T : Tp w K mg base) : mg "must" = some (.ref (He.ga K "must")) := He.glo_ok T.X T.G (T.d.d.fact 32 (f := .glo "must") rfl)
theorem G_in_pairs (T : Tp w K mg base) : mg "in_pairs" = some (.ref (He.ga K "in_pairs")) := He.glo_ok T.X T.G (T.d.d.fact 33 (f := .glo "in_pairs") rfl)
theorem G_name_in (T : Tp w K mg base) : mg "name_in" = some (.ref (He.ga K "name_in")) := He.glo_ok T.X T.G (T.d.d.fact 34 (f := .glo "name_in") rfl)
theorem G_read_parts (T : Tp w K mg base) : mg "read_parts" = some (.ref (He.ga K "read_parts")) := He.glo_ok T.X T.G (T.d.d.fact 35 (f := .glo "read_parts") rfl)
theorem G_read_pieces (T : Tp w K mg base) : mg "read_pieces" = some (.ref (He.ga K "read_pieces")) := He.glo_ok T.X T.G (T.d.d.fact 36 (f := .glo "read_pieces") rfl)
theorem G_read_burning (T : Tp w K mg base) : mg "read_burning" = some (.ref (He.ga K "read_burning")) := He.glo_ok T.X T.G (T.d.d.fact 37 (f := .glo "read_burning") rfl)
theorem G_read_making (T : Tp w K mg base) : mg "read_making" = some (.ref (He.ga K "read_making")) := He.glo_ok T.X T.G (T.d.d.fact 38 (f := .glo "read_making") rfl)
theorem G_read_merging (T : Tp w K mg base) : mg "read_merging" = some (.ref (He.ga K "read_merging")) := He.glo_ok T.X T.G (T.d.d.fact 39 (f := .glo "read_merging") rfl)
theorem G_read_paying (T : Tp w K mg base) : mg "read_paying" = some (.ref (He.ga K "read_paying")) := He.glo_ok T.X T.G (T.d.d.fact 40 (f := .glo "read_paying") rfl)
theorem G_read_sending (T : Tp w K mg base) : mg "read_sending" = some (.ref (He.ga K "read_sending")) := He.glo_ok T.X T.G (T.d.d.fact 41 (f := .glo "read_sending") rfl)
theorem G_read_burnt (T : Tp w K mg base) : mg "read_burnt" = some (.ref (He.ga K "read_burnt")) := He.glo_ok T.X T.G (T.d.d.fact 42 (f := .glo "read_burnt") rfl)
theorem G_read_names (T : Tp w K mg base) : mg "read_names" = some (.ref (He.ga K "read_names")) := He.glo_ok T.X T.G (T.d.d.fact 43 (f := .glo "read_names") rfl)
theorem G_day_and_deed (T : Tp w K mg base) : mg "day_and_deed" = some (.ref (He.ga K "day_and_deed")) := He.glo_ok T.X T.G (T.d.d.fact 44 (f := .glo "day_and_deed") rfl)
theorem G_loss_in (T : Tp w K mg base) : mg "loss_in" = some (.ref (He.ga K "loss_in")) := He.glo_ok T.X T.G (T.d.d.fact 45 (f := .glo "loss_in") rfl)
theorem G_drying_in (T : Tp w K mg base) : mg "drying_in" = some (.ref (He.ga K "drying_in")) := He.glo_ok T.X T.G (T.d.d.fact 46 (f := .glo "drying_in") rfl)
theorem G_read_row (T : Tp w K mg base) : mg "read_row" = some (.ref (He.ga K "read_row")) := He.glo_ok T.X T.G (T.d.d.fact 47 (f := .glo "read_row") rfl)
theorem G_read_book (T : Tp w K mg base) : mg "read_book" = some (.ref (He.ga K "read_book")) := He.glo_ok T.X T.G (T.d.d.fact 48 (f := .glo "read_book") rfl)
theorem G__law_cell_at (T : Tp w K mg base) : mg "_law_cell_at" = some (.ref (He.ga K "_law_cell_at")) := He.glo_ok T.X T.G (T.d.d.fact 49 (f := .glo "_law_cell_at") rfl)
theorem G__law_deck (T : Tp w K mg base) : mg "_law_deck" = some (.ref (He.ga K "_law_deck")) := He.glo_ok T.X T.G (T.d.d.fact 50 (f := .glo "_law_deck") rfl)
theorem G__law_draw (T : Tp w K mg base) : mg "_law_draw" = some (.ref (He.ga K "_law_draw")) := He.glo_ok T.X T.G (T.d.d.fact 51 (f := .glo "_law_draw") rfl)
theorem G__law_names (T : Tp w K mg base) : mg "_law_names" = some (.ref (He.ga K "_law_names")) := He.glo_ok T.X T.G (T.d.d.fact 52 (f := .glo "_law_names") rfl)
theorem G__law_sixteens (T : Tp w K mg base) : mg "_law_sixteens" = some (.ref (He.ga K "_law_sixteens")) := He.glo_ok T.X T.G (T.d.d.fact 53 (f := .glo "_law_sixteens") rfl)
theorem G__law_marks (T : Tp w K mg base) : mg "_law_marks" = some (.ref (He.ga K "_law_marks")) := He.glo_ok T.X T.G (T.d.d.fact 54 (f := .glo "_law_marks") rfl)
theorem G__law_day (T : Tp w K mg base) : mg "_law_day" = some (.ref (He.ga K "_law_day")) := He.glo_ok T.X T.G (T.d.d.fact 55 (f := .glo "_law_day") rfl)
theorem G__law_lowest (T : Tp w K mg base) : mg "_law_lowest" = some (.ref (He.ga K "_law_lowest")) := He.glo_ok T.X T.G (T.d.d.fact 56 (f := .glo "_law_lowest") rfl)
theorem G__law_drying (T : Tp w K mg base) : mg "_law_drying" = some (.ref (He.ga K "_law_drying")) := He.glo_ok T.X T.G (T.d.d.fact 57 (f := .glo "_law_drying") rfl)
theorem G__law_some (T : Tp w K mg base) : mg "_law_some" = some (.ref (He.ga K "_law_some")) := He.glo_ok T.X T.G (T.d.d.fact 58 (f := .glo "_law_some") rfl)
theorem G__law_pick (T : Tp w K mg base) : mg "_law_pick" = some (.ref (He.ga K "_law_pick")) := He.glo_ok T.X T.G (T.d.d.fact 59 (f := .glo "_law_pick") rfl)
theorem G__law_great (T : Tp w K mg base) : mg "_law_great" = some (.ref (He.ga K "_law_great")) := He.glo_ok T.X T.G (T.d.d.fact 60 (f := .glo "_law_great") rfl)
theorem G__law_weight (T : Tp w K mg base) : mg "_law_weight" = some (.ref (He.ga K "_law_weight")) := He.glo_ok T.X T.G (T.d.d.fact 61 (f := .glo "_law_weight") rfl)
theorem G__law_row (T : Tp w K mg base) : mg "_law_row" = some (.ref (He.ga K "_law_row")) := He.glo_ok T.X T.G (T.d.d.fact 62 (f := .glo "_law_row") rfl)
theorem G__law_pairs_of (T : Tp w K mg base) : mg "_law_pairs_of" = some (.ref (He.ga K "_law_pairs_of")) := He.glo_ok T.X T.G (T.d.d.fact 63 (f := .glo "_law_pairs_of") rfl)
theorem G__law_words (T : Tp w K mg base) : mg "_law_words" = some (.ref (He.ga K "_law_words")) := He.glo_ok T.X T.G (T.d.d.fact 64 (f := .glo "_law_words") rfl)
theorem G__law_told (T : Tp w K mg base) : mg "_law_told" = some (.ref (He.ga K "_law_told")) := He.glo_ok T.X T.G (T.d.d.fact 65 (f := .glo "_law_told") rfl)
theorem G__law_any_order (T : Tp w K mg base) : mg "_law_any_order" = some (.ref (He.ga K "_law_any_order")) := He.glo_ok T.X T.G (T.d.d.fact 66 (f := .glo "_law_any_order") rfl)
theorem G__law_spoilt_right (T : Tp w K mg base) : mg "_law_spoilt_right" = some (.ref (He.ga K "_law_spoilt_right")) := He.glo_ok T.X T.G (T.d.d.fact 67 (f := .glo "_law_spoilt_right") rfl)
theorem G__law_many_rows_right (T : Tp w K mg base) : mg "_law_many_rows_right" = some (.ref (He.ga K "_law_many_rows_right")) := He.glo_ok T.X T.G (T.d.d.fact 68 (f := .glo "_law_many_rows_right") rfl)
theorem G_law (T : Tp w K mg base) : mg "law" = some (.ref (He.ga K "law")) := He.glo_ok T.X T.G (T.d.d.fact 69 (f := .glo "law") rfl)
theorem G_Book (T : Tp w K mg base) : mg "Book" = some (.ref (He.ga K "Book")) := He.glo_ok T.X T.G (T.d.d.fact 70 (f := .glo "Book") rfl)
theorem G_Weight (T : Tp w K mg base) : mg "Weight" = some (.ref (He.ga K "Weight")) := He.glo_ok T.X T.G (T.d.d.fact 71 (f := .glo "Weight") rfl)
theorem G_NoText (T : Tp w K mg base) : mg "NoText" = some (.ref (He.ga K "NoText")) := He.glo_ok T.X T.G (T.d.d.fact 72 (f := .glo "NoText") rfl)
theorem G_Wrong (T : Tp w K mg base) : mg "Wrong" = some (.ref (He.ga K "Wrong")) := He.glo_ok T.X T.G (T.d.d.fact 73 (f := .glo "Wrong") rfl)
theorem G_SIZES (T : Tp w K mg base) : mg "SIZES" = some (.ref (He.ga K "SIZES")) := He.glo_ok T.X T.G (T.d.d.fact 74 (f := .glo "SIZES") rfl)
theorem G_JUDGES (T : Tp w K mg base) : mg "JUDGES" = some (.ref (He.ga K "JUDGES")) := He.glo_ok T.X T.G (T.d.d.fact 75 (f := .glo "JUDGES") rfl)
theorem G_READERS (T : Tp w K mg base) : mg "READERS" = some (.ref (He.ga K "READERS")) := He.glo_ok T.X T.G (T.d.d.fact 76 (f := .glo "READERS") rfl)
theorem B_isinstance (T : Tp w K mg base) : mg "isinstance" = none := He.free_ok T.X T.G (T.d.d.fact 77 (f := .free "isinstance") rfl)
theorem B_int (T : Tp w K mg base) : mg "int" = none := He.free_ok T.X T.G (T.d.d.fact 78 (f := .free "int") rfl)
theorem B_bool (T : Tp w K mg base) : mg "bool" = none := He.free_ok T.X T.G (T.d.d.fact 79 (f := .free "bool") rfl)
theorem B_str (T : Tp w K mg base) : mg "str" = none := He.free_ok T.X T.G (T.d.d.fact 80 (f := .free "str") rfl)
theorem B_tuple (T : Tp w K mg base) : mg "tuple" = none := He.free_ok T.X T.G (T.d.d.fact 81 (f := .free "tuple") rfl)
theorem B_len (T : Tp w K mg base) : mg "len" = none := He.free_ok T.X T.G (T.d.d.fact 82 (f := .free "len") rfl)
theorem B_all (T : Tp w K mg base) : mg "all" = none := He.free_ok T.X T.G (T.d.d.fact 83 (f := .free "all") rfl)
theorem B_zip (T : Tp w K mg base) : mg "zip" = none := He.free_ok T.X T.G (T.d.d.fact 84 (f := .free "zip") rfl)
theorem B_set (T : Tp w K mg base) : mg "set" = none := He.free_ok T.X T.G (T.d.d.fact 85 (f := .free "set") rfl)
theorem B_sorted (T : Tp w K mg base) : mg "sorted" = none := He.free_ok T.X T.G (T.d.d.fact 86 (f := .free "sorted") rfl)
theorem B_range (T : Tp w K mg base) : mg "range" = none := He.free_ok T.X T.G (T.d.d.fact 87 (f := .free "range") rfl)
theorem B_list (T : Tp w K mg base) : mg "list" = none := He.free_ok T.X T.G (T.d.d.fact 88 (f := .free "list") rfl)
theorem B_enumerate (T : Tp w K mg base) : mg "enumerate" = none := He.free_ok T.X T.G (T.d.d.fact 89 (f := .free "enumerate") rfl)
theorem B_min (T : Tp w K mg base) : mg "min" = none := He.free_ok T.X T.G (T.d.d.fact 90 (f := .free "min") rfl)
theorem B_max (T : Tp w K mg base) : mg "max" = none := He.free_ok T.X T.G (T.d.d.fact 91 (f := .free "max") rfl)
theorem C_LONGEST_NAME (T : Tp w K mg base) : ∃ u, mg "LONGEST_NAME" = some u ∧ RelV (.int 8) u := let ⟨t, h⟩ := He.int_ok T.X T.G (T.d.d.fact 92 (f := .int "LONGEST_NAME" 8) rfl); ⟨_, h, t, rfl⟩
theorem C_LONGEST_NUMBER (T : Tp w K mg base) : ∃ u, mg "LONGEST_NUMBER" = some u ∧ RelV (.int 6) u := let ⟨t, h⟩ := He.int_ok T.X T.G (T.d.d.fact 93 (f := .int "LONGEST_NUMBER" 6) rfl); ⟨_, h, t, rfl⟩
theorem C_LAST_DAY (T : Tp w K mg base) : ∃ u, mg "LAST_DAY" = some u ∧ RelV (.int 1200) u := let ⟨t, h⟩ := He.int_ok T.X T.G (T.d.d.fact 94 (f := .int "LAST_DAY" 1200) rfl); ⟨_, h, t, rfl⟩
theorem C_MOST_FIGURES (T : Tp w K mg base) : ∃ u, mg "MOST_FIGURES" = some u ∧ RelV (.int 12) u := let ⟨t, h⟩ := He.int_ok T.X T.G (T.d.d.fact 95 (f := .int "MOST_FIGURES" 12) rfl); ⟨_, h, t, rfl⟩
theorem C_MOST_PARTS (T : Tp w K mg base) : ∃ u, mg "MOST_PARTS" = some u ∧ RelV (.int 4) u := let ⟨t, h⟩ := He.int_ok T.X T.G (T.d.d.fact 96 (f := .int "MOST_PARTS" 4) rfl); ⟨_, h, t, rfl⟩
theorem C_MOST_WARES (T : Tp w K mg base) : ∃ u, mg "MOST_WARES" = some u ∧ RelV (.int 4) u := let ⟨t, h⟩ := He.int_ok T.X T.G (T.d.d.fact 97 (f := .int "MOST_WARES" 4) rfl); ⟨_, h, t, rfl⟩
theorem C_MOST_BOTTOM (T : Tp w K mg base) : ∃ u, mg "MOST_BOTTOM" = some u ∧ RelV (.int 100) u := let ⟨t, h⟩ := He.int_ok T.X T.G (T.d.d.fact 98 (f := .int "MOST_BOTTOM" 100) rfl); ⟨_, h, t, rfl⟩
theorem C_LETTERS (T : Tp w K mg base) : ∃ u, mg "LETTERS" = some u ∧ RelV (.str (.ofString "abcdefghijklmnopqrstuvwxyz")) u := let ⟨t, h⟩ := He.str_ok T.X T.G (T.d.d.fact 99 (f := .str "LETTERS" "abcdefghijklmnopqrstuvwxyz") rfl); ⟨_, h, t, rfl⟩
theorem C_SIXTEENS (T : Tp w K mg base) : ∃ u, mg "SIXTEENS" = some u ∧ RelV (.str (.ofString "0123456789abcdef")) u := let ⟨t, h⟩ := He.str_ok T.X T.G (T.d.d.fact 100 (f := .str "SIXTEENS" "0123456789abcdef") rfl); ⟨_, h, t, rfl⟩
theorem C_FIGURES (T : Tp w K mg base) : ∃ u, mg "FIGURES" = some u ∧ RelV (.str (.ofString "0123456789")) u := let ⟨t, h⟩ := He.str_ok T.X T.G (T.d.d.fact 101 (f := .str "FIGURES" "0123456789") rfl); ⟨_, h, t, rfl⟩
theorem C_NOBODY (T : Tp w K mg base) : ∃ u, mg "NOBODY" = some u ∧ RelV (.str (.ofString "-")) u := let ⟨t, h⟩ := He.str_ok T.X T.G (T.d.d.fact 102 (f := .str "NOBODY" "-") rfl); ⟨_, h, t, rfl⟩
theorem K_Book (T : Tp w K mg base) : Cls K (He.ga K "Book") := He.cls_ok (T.d.d.fact 103 (f := .cls "Book") rfl)
theorem M_Book (T : Tp w K mg base) : Mk K (He.ga K "Book") (He.ma K (He.ga K "Book") "__init__") := He.mkr_ok (T.d.d.fact 104 (f := .mkr "Book") rfl)
theorem K_Weight (T : Tp w K mg base) : Cls K (He.ga K "Weight") := He.cls_ok (T.d.d.fact 105 (f := .cls "Weight") rfl)
theorem M_Weight (T : Tp w K mg base) : Mk K (He.ga K "Weight") (He.ma K (He.ga K "Weight") "__init__") := He.mkr_ok (T.d.d.fact 106 (f := .mkr "Weight") rfl)
theorem N_Book_drying_told (T : Tp w K mg base) : NoAttr K (He.ga K "Book") "drying_told" := He.noat_ok (T.d.d.fact 107 (f := .noat "Book" "drying_told") rfl)
theorem N_Book_told (T : Tp w K mg base) : NoAttr K (He.ga K "Book") "told" := He.noat_ok (T.d.d.fact 108 (f := .noat "Book" "told") rfl)
theorem N_Weight_top (T : Tp w K mg base) : NoAttr K (He.ga K "Weight") "top" := He.noat_ok (T.d.d.fact 109 (f := .noat "Weight" "top") rfl)
theorem N_Weight_bottom (T : Tp w K mg base) : NoAttr K (He.ga K "Weight") "bottom" := He.noat_ok (T.d.d.fact 110 (f := .noat "Weight" "bottom") rfl)
theorem N_NoText_row (T : Tp w K mg base) : NoAttr K (He.ga K "NoText") "row" := He.noat_ok (T.d.d.fact 111 (f := .noat "NoText" "row") rfl)
theorem M_Book_by_days (T : Tp w K mg base) : Meth K (He.ga K "Book") "by_days" (He.ma K (He.ga K "Book") "by_days") := He.meth_ok (T.d.d.fact 112 (f := .meth "Book" "by_days") rfl)
theorem M_Book_numbers (T : Tp w K mg base) : Meth K (He.ga K "Book") "numbers" (He.ma K (He.ga K "Book") "numbers") := He.meth_ok (T.d.d.fact 113 (f := .meth "Book" "numbers") rfl)
theorem M_Book_tell (T : Tp w K mg base) : Meth K (He.ga K "Book") "tell" (He.ma K (He.ga K "Book") "tell") := He.meth_ok (T.d.d.fact 114 (f := .meth "Book" "tell") rfl)
theorem M_Book_deed (T : Tp w K mg base) : Meth K (He.ga K "Book") "deed" (He.ma K (He.ga K "Book") "deed") := He.meth_ok (T.d.d.fact 115 (f := .meth "Book" "deed") rfl)
theorem M_Book_strike (T : Tp w K mg base) : Meth K (He.ga K "Book") "strike" (He.ma K (He.ga K "Book") "strike") := He.meth_ok (T.d.d.fact 116 (f := .meth "Book" "strike") rfl)
theorem M_Book__ueq_u (T : Tp w K mg base) : Meth K (He.ga K "Book") "__eq__" (He.ma K (He.ga K "Book") "__eq__") := He.meth_ok (T.d.d.fact 117 (f := .meth "Book" "__eq__") rfl)
theorem M_Book__ulen_u (T : Tp w K mg base) : Meth K (He.ga K "Book") "__len__" (He.ma K (He.ga K "Book") "__len__") := He.meth_ok (T.d.d.fact 118 (f := .meth "Book" "__len__") rfl)
theorem M_Weight_is_nought (T : Tp w K mg base) : Meth K (He.ga K "Weight") "is_nought" (He.ma K (He.ga K "Weight") "is_nought") := He.meth_ok (T.d.d.fact 119 (f := .meth "Weight" "is_nought") rfl)
theorem M_Weight__ueq_u (T : Tp w K mg base) : Meth K (He.ga K "Weight") "__eq__" (He.ma K (He.ga K "Weight") "__eq__") := He.meth_ok (T.d.d.fact 120 (f := .meth "Weight" "__eq__") rfl)
theorem M_Weight__ustr_u (T : Tp w K mg base) : Meth K (He.ga K "Weight") "__str__" (He.ma K (He.ga K "Weight") "__str__") := He.meth_ok (T.d.d.fact 121 (f := .meth "Weight" "__str__") rfl)
theorem M_NoText__uinit_u (T : Tp w K mg base) : Meth K (He.ga K "NoText") "__init__" (He.ma K (He.ga K "NoText") "__init__") := He.meth_ok (T.d.d.fact 122 (f := .meth "NoText" "__init__") rfl)
theorem X_NoText (T : Tp w K mg base) : PySem.W.exmOne K (.ref (He.ga K "NoText")) (.ref (He.ga K "NoText")) = some true := He.exm_ok (T.d.d.fact 123 (f := .exm "NoText" "NoText" true) rfl)
theorem P_NoText (T : Tp w K mg base) : PySem.W.keepIn K (.ref (He.ga K "NoText")) = true := He.keep_ok (T.d.d.fact 124 (f := .keep "NoText") rfl)
theorem F_is_whole (T : Tp w K mg base) : ∃ fd, FunD K "is_whole" "is_whole" (defArgs (top 30)) (defBody (top 30)) (defScope (top 30)) [] [] (He.ga K "is_whole") fd := T.d.d.def_ 0 (d := d_is_whole) rfl
theorem F_is_name (T : Tp w K mg base) : ∃ fd, FunD K "is_name" "is_name" (defArgs (top 31)) (defBody (top 31)) (defScope (top 31)) [] [] (He.ga K "is_name") fd := T.d.d.def_ 1 (d := d_is_name) rfl
theorem F_is_mark (T : Tp w K mg base) : ∃ fd, FunD K "is_mark" "is_mark" (defArgs (top 32)) (defBody (top 32)) (defScope (top 32)) [] [] (He.ga K "is_mark") fd := T.d.d.def_ 2 (d := d_is_mark) rfl
theorem F_is_grains (T : Tp w K mg base) : ∃ fd, FunD K "is_grains" "is_grains" (defArgs (top 34)) (defBody (top 34)) (defScope (top 34)) [] [] (He.ga K "is_grains") fd := T.d.d.def_ 3 (d := d_is_grains) rfl
theorem F_is_day (T : Tp w K mg base) : ∃ fd, FunD K "is_day" "is_day" (defArgs (top 35)) (defBody (top 35)) (defScope (top 35)) [] [] (He.ga K "is_day") fd := T.d.d.def_ 4 (d := d_is_day) rfl
theorem F_divisor_of (T : Tp w K mg base) : ∃ fd, FunD K "divisor_of" "divisor_of" (defArgs (top 39)) (defBody (top 39)) (defScope (top 39)) [] [] (He.ga K "divisor_of") fd := T.d.d.def_ 5 (d := d_divisor_of) rfl
theorem F_Weight_u_init_u (T : Tp w K mg base) : ∃ fd, FunD K "__init__" "Weight.__init__" (defArgs (inClass (top 40) 0)) (defBody (inClass (top 40) 0)) (defScope (inClass (top 40) 0)) [.int 1] [] (He.ma K (He.ga K "Weight") "__init__") fd := T.d.d.def_ 6 (d := d_Weight_u_init_u) rfl
theorem F_Weight_u_eq_u (T : Tp w K mg base) : ∃ fd, FunD K "__eq__" "Weight.__eq__" (defArgs (inClass (top 40) 1)) (defBody (inClass (top 40) 1)) (defScope (inClass (top 40) 1)) [] [] (He.ma K (He.ga K "Weight") "__eq__") fd := T.d.d.def_ 7 (d := d_Weight_u_eq_u) rfl
theorem F_Weight_u_str_u (T : Tp w K mg base) : ∃ fd, FunD K "__str__" "Weight.__str__" (defArgs (inClass (top 40) 2)) (defBody (inClass (top 40) 2)) (defScope (inClass (top 40) 2)) [] [] (He.ma K (He.ga K "Weight") "__str__") fd := T.d.d.def_ 8 (d := d_Weight_u_str_u) rfl
theorem F_Weight_is_nought (T : Tp w K mg base) : ∃ fd, FunD K "is_nought" "Weight.is_nought" (defArgs (inClass (top 40) 8)) (defBody (inClass (top 40) 8)) (defScope (inClass (top 40) 8)) [] [] (He.ma K (He.ga K "Weight") "is_nought") fd := T.d.d.def_ 9 (d := d_Weight_is_nought) rfl
theorem F_number_in (T : Tp w K mg base) : ∃ fd, FunD K "number_in" "number_in" (defArgs (top 42)) (defBody (top 42)) (defScope (top 42)) [] [] (He.ga K "number_in") fd := T.d.d.def_ 10 (d := d_number_in) rfl
theorem F_read_weight (T : Tp w K mg base) : ∃ fd, FunD K "read_weight" "read_weight" (defArgs (top 43)) (defBody (top 43)) (defScope (top 43)) [] [] (He.ga K "read_weight") fd := T.d.d.def_ 11 (d := d_read_weight) rfl
theorem F_is_part (T : Tp w K mg base) : ∃ fd, FunD K "is_part" "is_part" (defArgs (top 46)) (defBody (top 46)) (defScope (top 46)) [] [] (He.ga K "is_part") fd := T.d.d.def_ 12 (d := d_is_part) rfl
theorem F_is_parts (T : Tp w K mg base) : ∃ fd, FunD K "is_parts" "is_parts" (defArgs (top 47)) (defBody (top 47)) (defScope (top 47)) [] [] (He.ga K "is_parts") fd := T.d.d.def_ 13 (d := d_is_parts) rfl
theorem F_are_unlike (T : Tp w K mg base) : ∃ fd, FunD K "are_unlike" "are_unlike" (defArgs (top 53)) (defBody (top 53)) (defScope (top 53)) [] [] (He.ga K "are_unlike") fd := T.d.d.def_ 14 (d := d_are_unlike) rfl
theorem F_is_none_or_name (T : Tp w K mg base) : ∃ fd, FunD K "is_none_or_name" "is_none_or_name" (defArgs (top 54)) (defBody (top 54)) (defScope (top 54)) [] [] (He.ga K "is_none_or_name") fd := T.d.d.def_ 15 (d := d_is_none_or_name) rfl
theorem F_are_pieces (T : Tp w K mg base) : ∃ fd, FunD K "are_pieces" "are_pieces" (defArgs (top 55)) (defBody (top 55)) (defScope (top 55)) [] [] (He.ga K "are_pieces") fd := T.d.d.def_ 16 (d := d_are_pieces) rfl
theorem F_is_weighing (T : Tp w K mg base) : ∃ fd, FunD K "is_weighing" "is_weighing" (defArgs (top 56)) (defBody (top 56)) (defScope (top 56)) [] [] (He.ga K "is_weighing") fd := T.d.d.def_ 17 (d := d_is_weighing) rfl
theorem F_is_burning (T : Tp w K mg base) : ∃ fd, FunD K "is_burning" "is_burning" (defArgs (top 57)) (defBody (top 57)) (defScope (top 57)) [] [] (He.ga K "is_burning") fd := T.d.d.def_ 18 (d := d_is_burning) rfl
theorem F_is_making (T : Tp w K mg base) : ∃ fd, FunD K "is_making" "is_making" (defArgs (top 58)) (defBody (top 58)) (defScope (top 58)) [] [] (He.ga K "is_making") fd := T.d.d.def_ 19 (d := d_is_making) rfl
theorem F_is_parting (T : Tp w K mg base) : ∃ fd, FunD K "is_parting" "is_parting" (defArgs (top 59)) (defBody (top 59)) (defScope (top 59)) [] [] (He.ga K "is_parting") fd := T.d.d.def_ 20 (d := d_is_parting) rfl
theorem F_is_merging (T : Tp w K mg base) : ∃ fd, FunD K "is_merging" "is_merging" (defArgs (top 60)) (defBody (top 60)) (defScope (top 60)) [] [] (He.ga K "is_merging") fd := T.d.d.def_ 21 (d := d_is_merging) rfl
theorem F_is_losing (T : Tp w K mg base) : ∃ fd, FunD K "is_losing" "is_losing" (defArgs (top 61)) (defBody (top 61)) (defScope (top 61)) [] [] (He.ga K "is_losing") fd := T.d.d.def_ 22 (d := d_is_losing) rfl
theorem F_is_drawing (T : Tp w K mg base) : ∃ fd, FunD K "is_drawing" "is_drawing" (defArgs (top 62)) (defBody (top 62)) (defScope (top 62)) [] [] (He.ga K "is_drawing") fd := T.d.d.def_ 23 (d := d_is_drawing) rfl
theorem F_is_sending (T : Tp w K mg base) : ∃ fd, FunD K "is_sending" "is_sending" (defArgs (top 63)) (defBody (top 63)) (defScope (top 63)) [] [] (He.ga K "is_sending") fd := T.d.d.def_ 24 (d := d_is_sending) rfl
theorem F_is_paying (T : Tp w K mg base) : ∃ fd, FunD K "is_paying" "is_paying" (defArgs (top 64)) (defBody (top 64)) (defScope (top 64)) [] [] (He.ga K "is_paying") fd := T.d.d.def_ 25 (d := d_is_paying) rfl
theorem F_is_firing (T : Tp w K mg base) : ∃ fd, FunD K "is_firing" "is_firing" (defArgs (top 65)) (defBody (top 65)) (defScope (top 65)) [] [] (He.ga K "is_firing") fd := T.d.d.def_ 26 (d := d_is_firing) rfl
theorem F_is_deed (T : Tp w K mg base) : ∃ fd, FunD K "is_deed" "is_deed" (defArgs (top 68)) (defBody (top 68)) (defScope (top 68)) [] [] (He.ga K "is_deed") fd := T.d.d.def_ 27 (d := d_is_deed) rfl
theorem F_is_loss (T : Tp w K mg base) : ∃ fd, FunD K "is_loss" "is_loss" (defArgs (top 76)) (defBody (top 76)) (defScope (top 76)) [] [] (He.ga K "is_loss") fd := T.d.d.def_ 28 (d := d_is_loss) rfl
theorem F_is_drying (T : Tp w K mg base) : ∃ fd, FunD K "is_drying" "is_drying" (defArgs (top 77)) (defBody (top 77)) (defScope (top 77)) [] [] (He.ga K "is_drying") fd := T.d.d.def_ 29 (d := d_is_drying) rfl
theorem F_Book_u_init_u (T : Tp w K mg base) : ∃ fd, FunD K "__init__" "Book.__init__" (defArgs (inClass (top 106) 0)) (defBody (inClass (top 106) 0)) (defScope (inClass (top 106) 0)) [.non] [] (He.ma K (He.ga K "Book") "__init__") fd := T.d.d.def_ 30 (d := d_Book_u_init_u) rfl
theorem F_Book_u_len_u (T : Tp w K mg base) : ∃ fd, FunD K "__len__" "Book.__len__" (defArgs (inClass (top 106) 1)) (defBody (inClass (top 106) 1)) (defScope (inClass (top 106) 1)) [] [] (He.ma K (He.ga K "Book") "__len__") fd := T.d.d.def_ 31 (d := d_Book_u_len_u) rfl
theorem F_Book_u_eq_u (T : Tp w K mg base) : ∃ fd, FunD K "__eq__" "Book.__eq__" (defArgs (inClass (top 106) 2)) (defBody (inClass (top 106) 2)) (defScope (inClass (top 106) 2)) [] [] (He.ma K (He.ga K "Book") "__eq__") fd := T.d.d.def_ 32 (d := d_Book_u_eq_u) rfl
theorem F_Book_numbers (T : Tp w K mg base) : ∃ fd, FunD K "numbers" "Book.numbers" (defArgs (inClass (top 106) 3)) (defBody (inClass (top 106) 3)) (defScope (inClass (top 106) 3)) [] [] (He.ma K (He.ga K "Book") "numbers") fd := T.d.d.def_ 33 (d := d_Book_numbers) rfl
theorem F_Book_by_days (T : Tp w K mg base) : ∃ fd, FunD K "by_days" "Book.by_days" (defArgs (inClass (top 106) 4)) (defBody (inClass (top 106) 4)) (defScope (inClass (top 106) 4)) [] [] (He.ma K (He.ga K "Book") "by_days") fd := T.d.d.def_ 34 (d := d_Book_by_days) rfl
theorem F_Book_tell (T : Tp w K mg base) : ∃ fd, FunD K "tell" "Book.tell" (defArgs (inClass (top 106) 5)) (defBody (inClass (top 106) 5)) (defScope (inClass (top 106) 5)) [] [] (He.ma K (He.ga K "Book") "tell") fd := T.d.d.def_ 35 (d := d_Book_tell) rfl
theorem F_Book_deed (T : Tp w K mg base) : ∃ fd, FunD K "deed" "Book.deed" (defArgs (inClass (top 106) 6)) (defBody (inClass (top 106) 6)) (defScope (inClass (top 106) 6)) [] [] (He.ma K (He.ga K "Book") "deed") fd := T.d.d.def_ 36 (d := d_Book_deed) rfl
theorem F_Book_strike (T : Tp w K mg base) : ∃ fd, FunD K "strike" "Book.strike" (defArgs (inClass (top 106) 7)) (defBody (inClass (top 106) 7)) (defScope (inClass (top 106) 7)) [] [] (He.ma K (He.ga K "Book") "strike") fd := T.d.d.def_ 37 (d := d_Book_strike) rfl
theorem F_words_of_pairs (T : Tp w K mg base) : ∃ fd, FunD K "words_of_pairs" "words_of_pairs" (defArgs (top 109)) (defBody (top 109)) (defScope (top 109)) [] [] (He.ga K "words_of_pairs") fd := T.d.d.def_ 38 (d := d_words_of_pairs) rfl
theorem F_word_of (T : Tp w K mg base) : ∃ fd, FunD K "word_of" "word_of" (defArgs (top 110)) (defBody (top 110)) (defScope (top 110)) [] [] (He.ga K "word_of") fd := T.d.d.def_ 39 (d := d_word_of) rfl
theorem F_words_behind (T : Tp w K mg base) : ∃ fd, FunD K "words_behind" "words_behind" (defArgs (top 111)) (defBody (top 111)) (defScope (top 111)) [] [] (He.ga K "words_behind") fd := T.d.d.def_ 40 (d := d_words_behind) rfl
theorem F_row_of (T : Tp w K mg base) : ∃ fd, FunD K "row_of" "row_of" (defArgs (top 112)) (defBody (top 112)) (defScope (top 112)) [] [] (He.ga K "row_of") fd := T.d.d.def_ 41 (d := d_row_of) rfl
theorem F_drying_row (T : Tp w K mg base) : ∃ fd, FunD K "drying_row" "drying_row" (defArgs (top 113)) (defBody (top 113)) (defScope (top 113)) [] [] (He.ga K "drying_row") fd := T.d.d.def_ 42 (d := d_drying_row) rfl
theorem F_show_book (T : Tp w K mg base) : ∃ fd, FunD K "show_book" "show_book" (defArgs (top 114)) (defBody (top 114)) (defScope (top 114)) [] [] (He.ga K "show_book") fd := T.d.d.def_ 43 (d := d_show_book) rfl
theorem F_must (T : Tp w K mg base) : ∃ fd, FunD K "must" "must" (defArgs (top 115)) (defBody (top 115)) (defScope (top 115)) [] [] (He.ga K "must") fd := T.d.d.def_ 44 (d := d_must) rfl
theorem F_in_pairs (T : Tp w K mg base) : ∃ fd, FunD K "in_pairs" "in_pairs" (defArgs (top 116)) (defBody (top 116)) (defScope (top 116)) [] [] (He.ga K "in_pairs") fd := T.d.d.def_ 45 (d := d_in_pairs) rfl
theorem F_name_in (T : Tp w K mg base) : ∃ fd, FunD K "name_in" "name_in" (defArgs (top 117)) (defBody (top 117)) (defScope (top 117)) [] [] (He.ga K "name_in") fd := T.d.d.def_ 46 (d := d_name_in) rfl
theorem F_read_parts (T : Tp w K mg base) : ∃ fd, FunD K "read_parts" "read_parts" (defArgs (top 118)) (defBody (top 118)) (defScope (top 118)) [] [] (He.ga K "read_parts") fd := T.d.d.def_ 47 (d := d_read_parts) rfl
theorem F_read_pieces (T : Tp w K mg base) : ∃ fd, FunD K "read_pieces" "read_pieces" (defArgs (top 119)) (defBody (top 119)) (defScope (top 119)) [] [] (He.ga K "read_pieces") fd := T.d.d.def_ 48 (d := d_read_pieces) rfl
theorem F_read_burning (T : Tp w K mg base) : ∃ fd, FunD K "read_burning" "read_burning" (defArgs (top 120)) (defBody (top 120)) (defScope (top 120)) [] [] (He.ga K "read_burning") fd := T.d.d.def_ 49 (d := d_read_burning) rfl
theorem F_read_making (T : Tp w K mg base) : ∃ fd, FunD K "read_making" "read_making" (defArgs (top 121)) (defBody (top 121)) (defScope (top 121)) [] [] (He.ga K "read_making") fd := T.d.d.def_ 50 (d := d_read_making) rfl
theorem F_read_merging (T : Tp w K mg base) : ∃ fd, FunD K "read_merging" "read_merging" (defArgs (top 122)) (defBody (top 122)) (defScope (top 122)) [] [] (He.ga K "read_merging") fd := T.d.d.def_ 51 (d := d_read_merging) rfl
theorem F_read_paying (T : Tp w K mg base) : ∃ fd, FunD K "read_paying" "read_paying" (defArgs (top 123)) (defBody (top 123)) (defScope (top 123)) [] [] (He.ga K "read_paying") fd := T.d.d.def_ 52 (d := d_read_paying) rfl
theorem F_read_sending (T : Tp w K mg base) : ∃ fd, FunD K "read_sending" "read_sending" (defArgs (top 124)) (defBody (top 124)) (defScope (top 124)) [] [] (He.ga K "read_sending") fd := T.d.d.def_ 53 (d := d_read_sending) rfl
theorem F_read_burnt (T : Tp w K mg base) : ∃ fd, FunD K "read_burnt" "read_burnt" (defArgs (top 125)) (defBody (top 125)) (defScope (top 125)) [] [] (He.ga K "read_burnt") fd := T.d.d.def_ 54 (d := d_read_burnt) rfl
theorem F_read_names (T : Tp w K mg base) : ∃ fd, FunD K "read_names" "read_names" (defArgs (top 126)) (defBody (top 126)) (defScope (top 126)) [] [] (He.ga K "read_names") fd := T.d.d.def_ 55 (d := d_read_names) rfl
theorem F_day_and_deed (T : Tp w K mg base) : ∃ fd, FunD K "day_and_deed" "day_and_deed" (defArgs (top 128)) (defBody (top 128)) (defScope (top 128)) [] [] (He.ga K "day_and_deed") fd := T.d.d.def_ 56 (d := d_day_and_deed) rfl
theorem F_loss_in (T : Tp w K mg base) : ∃ fd, FunD K "loss_in" "loss_in" (defArgs (top 129)) (defBody (top 129)) (defScope (top 129)) [] [] (He.ga K "loss_in") fd := T.d.d.def_ 57 (d := d_loss_in) rfl
theorem F_drying_in (T : Tp w K mg base) : ∃ fd, FunD K "drying_in" "drying_in" (defArgs (top 130)) (defBody (top 130)) (defScope (top 130)) [] [] (He.ga K "drying_in") fd := T.d.d.def_ 58 (d := d_drying_in) rfl
theorem F_read_row (T : Tp w K mg base) : ∃ fd, FunD K "read_row" "read_row" (defArgs (top 131)) (defBody (top 131)) (defScope (top 131)) [] [] (He.ga K "read_row") fd := T.d.d.def_ 59 (d := d_read_row) rfl
theorem F_read_book (T : Tp w K mg base) : ∃ fd, FunD K "read_book" "read_book" (defArgs (top 132)) (defBody (top 132)) (defScope (top 132)) [] [] (He.ga K "read_book") fd := T.d.d.def_ 60 (d := d_read_book) rfl
theorem F_NoText_u_init_u (T : Tp w K mg base) : ∃ fd, FunD K "__init__" "NoText.__init__" (defArgs (inClass (top 9) 0)) (defBody (inClass (top 9) 0)) (defScope (inClass (top 9) 0)) [.int 0] [] (He.ma K (He.ga K "NoText") "__init__") fd := T.d.d.def_ 61 (d := d_NoText_u_init_u) rfl
theorem F__law_cell_at (T : Tp w K mg base) : ∃ fd, FunD K "_law_cell_at" "_law_cell_at" (defArgs (top 134)) (defBody (top 134)) (defScope (top 134)) [] [] (He.ga K "_law_cell_at") fd := T.d.d.def_ 62 (d := d__law_cell_at) rfl
theorem F__law_deck (T : Tp w K mg base) : ∃ fd, FunD K "_law_deck" "_law_deck" (defArgs (top 135)) (defBody (top 135)) (defScope (top 135)) [] [] (He.ga K "_law_deck") fd := T.d.d.def_ 63 (d := d__law_deck) rfl
theorem F__law_draw (T : Tp w K mg base) : ∃ fd, FunD K "_law_draw" "_law_draw" (defArgs (top 136)) (defBody (top 136)) (defScope (top 136)) [] [] (He.ga K "_law_draw") fd := T.d.d.def_ 64 (d := d__law_draw) rfl
theorem F__law_names (T : Tp w K mg base) : ∃ fd, FunD K "_law_names" "_law_names" (defArgs (top 137)) (defBody (top 137)) (defScope (top 137)) [] [] (He.ga K "_law_names") fd := T.d.d.def_ 65 (d := d__law_names) rfl
theorem F__law_sixteens (T : Tp w K mg base) : ∃ fd, FunD K "_law_sixteens" "_law_sixteens" (defArgs (top 138)) (defBody (top 138)) (defScope (top 138)) [] [] (He.ga K "_law_sixteens") fd := T.d.d.def_ 66 (d := d__law_sixteens) rfl
theorem F__law_marks (T : Tp w K mg base) : ∃ fd, FunD K "_law_marks" "_law_marks" (defArgs (top 139)) (defBody (top 139)) (defScope (top 139)) [] [] (He.ga K "_law_marks") fd := T.d.d.def_ 67 (d := d__law_marks) rfl
theorem F__law_day (T : Tp w K mg base) : ∃ fd, FunD K "_law_day" "_law_day" (defArgs (top 140)) (defBody (top 140)) (defScope (top 140)) [] [] (He.ga K "_law_day") fd := T.d.d.def_ 68 (d := d__law_day) rfl
theorem F__law_lowest (T : Tp w K mg base) : ∃ fd, FunD K "_law_lowest" "_law_lowest" (defArgs (top 141)) (defBody (top 141)) (defScope (top 141)) [] [] (He.ga K "_law_lowest") fd := T.d.d.def_ 69 (d := d__law_lowest) rfl
theorem F__law_drying (T : Tp w K mg base) : ∃ fd, FunD K "_law_drying" "_law_drying" (defArgs (top 142)) (defBody (top 142)) (defScope (top 142)) [] [] (He.ga K "_law_drying") fd := T.d.d.def_ 70 (d := d__law_drying) rfl
theorem F__law_some (T : Tp w K mg base) : ∃ fd, FunD K "_law_some" "_law_some" (defArgs (top 143)) (defBody (top 143)) (defScope (top 143)) [] [] (He.ga K "_law_some") fd := T.d.d.def_ 71 (d := d__law_some) rfl
theorem F__law_pick (T : Tp w K mg base) : ∃ fd, FunD K "_law_pick" "_law_pick" (defArgs (top 144)) (defBody (top 144)) (defScope (top 144)) [] [] (He.ga K "_law_pick") fd := T.d.d.def_ 72 (d := d__law_pick) rfl
theorem F__law_great (T : Tp w K mg base) : ∃ fd, FunD K "_law_great" "_law_great" (defArgs (top 145)) (defBody (top 145)) (defScope (top 145)) [] [] (He.ga K "_law_great") fd := T.d.d.def_ 73 (d := d__law_great) rfl
theorem F__law_weight (T : Tp w K mg base) : ∃ fd, FunD K "_law_weight" "_law_weight" (defArgs (top 146)) (defBody (top 146)) (defScope (top 146)) [] [] (He.ga K "_law_weight") fd := T.d.d.def_ 74 (d := d__law_weight) rfl
theorem F__law_row (T : Tp w K mg base) : ∃ fd, FunD K "_law_row" "_law_row" (defArgs (top 147)) (defBody (top 147)) (defScope (top 147)) [] [] (He.ga K "_law_row") fd := T.d.d.def_ 75 (d := d__law_row) rfl
theorem F__law_pairs_of (T : Tp w K mg base) : ∃ fd, FunD K "_law_pairs_of" "_law_pairs_of" (defArgs (top 148)) (defBody (top 148)) (defScope (top 148)) [] [] (He.ga K "_law_pairs_of") fd := T.d.d.def_ 76 (d := d__law_pairs_of) rfl
theorem F__law_words (T : Tp w K mg base) : ∃ fd, FunD K "_law_words" "_law_words" (defArgs (top 149)) (defBody (top 149)) (defScope (top 149)) [] [] (He.ga K "_law_words") fd := T.d.d.def_ 77 (d := d__law_words) rfl
theorem F__law_told (T : Tp w K mg base) : ∃ fd, FunD K "_law_told" "_law_told" (defArgs (top 150)) (defBody (top 150)) (defScope (top 150)) [] [] (He.ga K "_law_told") fd := T.d.d.def_ 78 (d := d__law_told) rfl
theorem F__law_any_order (T : Tp w K mg base) : ∃ fd, FunD K "_law_any_order" "_law_any_order" (defArgs (top 151)) (defBody (top 151)) (defScope (top 151)) [] [] (He.ga K "_law_any_order") fd := T.d.d.def_ 79 (d := d__law_any_order) rfl
theorem F__law_spoilt_right (T : Tp w K mg base) : ∃ fd, FunD K "_law_spoilt_right" "_law_spoilt_right" (defArgs (top 152)) (defBody (top 152)) (defScope (top 152)) [] [] (He.ga K "_law_spoilt_right") fd := T.d.d.def_ 80 (d := d__law_spoilt_right) rfl
theorem F__law_many_rows_right (T : Tp w K mg base) : ∃ fd, FunD K "_law_many_rows_right" "_law_many_rows_right" (defArgs (top 153)) (defBody (top 153)) (defScope (top 153)) [] [] (He.ga K "_law_many_rows_right") fd := T.d.d.def_ 81 (d := d__law_many_rows_right) rfl
theorem F_law (T : Tp w K mg base) : ∃ fd, FunD K "law" "law" (defArgs (top 154)) (defBody (top 154)) (defScope (top 154)) [] [] (He.ga K "law") fd := T.d.d.def_ 82 (d := d_law) rfl
end
/-! ### promises by their arguments -/
abbrev Pr := Hp → VK → XK → Prop
def sp1 (f : V → Pr) : Sp := fun vs H Q E => ∃ x, vs = [x] ∧ f x H Q E
def sp2 (f : V → V → Pr) : Sp := fun vs H Q E => ∃ x y, vs = [x, y] ∧ f x y H Q E
def sp3 (f : V → V → V → Pr) : Sp := fun vs H Q E => ∃ x y z, vs = [x, y, z] ∧ f x y z H Q E
theorem len1 {f : V → Pr} {ps : List Str} (h : ps.length = 1) : ∀ vs H Q E, sp1 f vs H Q E → vs.length = ps.length := by
  rintro vs H Q E ⟨x, rfl, _⟩
  exact h.symm
theorem len2 {f : V → V → Pr} {ps : List Str} (h : ps.length = 2) : ∀ vs H Q E, sp2 f vs H Q E → vs.length = ps.length := by
  rintro vs H Q E ⟨x, y, rfl, _⟩
  exact h.symm
theorem len3 {f : V → V → V → Pr} {ps : List Str} (h : ps.length = 3) : ∀ vs H Q E, sp3 f vs H Q E → vs.length = ps.length := by
  rintro vs H Q E ⟨x, y, z, rfl, _⟩
  exact h.symm
/-! ### a def that is called by its name -/
structure Cl (P : Program) (w : World) (K : PySem.W.Frag) (mg : Str → Option Value) (base : Heap) (CX : CXT) (k : Nat) (x : Str) (sp : Sp) : Prop where
  ex : ∃ (fd : FuncData) (ps : List Str), FnOk P w K mg base CX k (He.ga K x) fd ps sp ∧ mg x = some (.ref (He.ga K x)) ∧ PySem.W.keepIn K (.ref (He.ga K x)) = true ∧ Binds K fd ps []
section
variable {X : Cx} {k j : Nat} {x : Str} {sp : Sp} {p pos : Pos} {e : Expr} {es : List Expr} {t : TA}
theorem pe_f (c : Cl X.prog X.w X.K X.mg X.base CX0 k x sp) (hr : Room j X.A) (ha : PA X (e :: es) t) (hk : k ≤ j := by decide) (hg : Gl X x := by rfl)
    (hdb : (x == ("__debug__" : Str)) = false := by decide) (he : starEach (e :: es) X.env = (false, eval e X.env) :: starEach es X.env := by rfl) (hpl : (backTo pos (starEach es X.env)).any (·.1) = false := by rfl) :
    PE X (.Call (.Name x p) (e :: es) [] pos) (tCall sp [] E0 t) := by
  obtain ⟨fd, ps, F, hm, kp, b⟩ := c.ex
  exact pe_call F (hr.mono hk) hg hm kp b .nil pass0 ha hdb he hpl
theorem pe_fS {W : WX} (tk : Takes X W) (c : Cl X.prog X.w X.K X.mg X.base (L2.CX X.prog X.w) k x sp) (hr : Room j X.A) (ha : PA X (e :: es) t) (hk : k ≤ j := by decide) (hg : Gl X x := by rfl)
    (hdb : (x == ("__debug__" : Str)) = false := by decide) (he : starEach (e :: es) X.env = (false, eval e X.env) :: starEach es X.env := by rfl) (hpl : (backTo pos (starEach es X.env)).any (·.1) = false := by rfl) :
    PE X (.Call (.Name x p) (e :: es) [] pos) (tCallS sp (WE W) t) := by
  obtain ⟨fd, ps, F, hm, kp, b⟩ := c.ex
  exact pe_callS F (hr.mono hk) hg hm kp b (fun σ => passAt tk σ) ha hdb he hpl
end
end CK
set_option maxHeartbeats 4000000
namespace CK
open PySem PySem.Spec PyProof.Rows L2
/-! ### the heap grows: all but the one table stands, the table goes on telling the one lambda -/
def lamName : Str := .ofString "Book.numbers.<locals>.<lambda>"
def tabN (K : PySem.W.Frag) : Addr := (He.cT K ("Book", some "numbers")).2
def TT (K : PySem.W.Frag) : List (Addr × Str) := [(tabN K, lamName)]
structure Gr (K : PySem.W.Frag) (H H' : Hp) : Prop where
  keep : ∀ b o, H b = some o → (∀ ps, o ≠ .tbl ps) → H' b = some o
  tabs : LamX.Tabs (TT K) H → LamX.Tabs (TT K) H'
section
variable {K : PySem.W.Frag} {H H1 H' : Hp} {a b p : Addr} {o : HO} {xs ys : List V}
theorem Gr.refl (H : Hp) : Gr K H H := ⟨fun _ _ h _ => h, fun h => h⟩
theorem Gr.trans (a : Gr K H H1) (b : Gr K H1 H') : Gr K H H' := ⟨fun c o h n => b.keep c o (a.keep c o h n) n, fun h => b.tabs (a.tabs h)⟩
theorem Gr.same (e : Same H H') : Gr K H H' := ⟨fun b o h _ => e b o h, fun h => h.ext e⟩
theorem Gr.new (h : H p = none) : Gr K H (upd H p o) := .same fun b u e => by rw [upd_ne (ne_of_none e h)]; exact e
theorem Gr.add (e : Gr K H H1) (h : H1 p = none) : Gr K H (upd H1 p o) := e.trans (.new h)
theorem Gr.lst (e : Gr K H H') (h : H a = some (.lst xs)) : H' a = some (.lst xs) := e.keep _ _ h fun _ z => by cases z
theorem Gr.tup (e : Gr K H H') (h : H a = some (.tup xs)) : H' a = some (.tup xs) := e.keep _ _ h fun _ z => by cases z
theorem Gr.ins {C dx : Addr} {fs : List (Str × V)} (e : Gr K H H') (h : H a = some (.ins C dx fs)) : H' a = some (.ins C dx fs) := e.keep _ _ h fun _ z => by cases z
theorem Gr.frz {u : Obj} (e : Gr K H H') (h : H a = some (.frz u o)) : H' a = some (.frz u o) := e.keep _ _ h fun _ z => by cases z
theorem Gr.own {x : Addr} (e : Gr K H H') (h : H a = some (.own x)) : H' a = some (.own x) := e.keep _ _ h fun _ z => by cases z
theorem Gr.sqL (e : Gr K H H') (h : SqL K H a xs) : SqL K H' a xs := by
  rcases h with (h | ⟨u, h⟩) | h
  · exact .inl (.inl (e.lst h))
  · exact .inl (.inr ⟨u, e.frz h⟩)
  · exact .inr h
theorem Gr.sqT (e : Gr K H H') (h : SqT K H a xs) : SqT K H' a xs := by
  rcases h with (h | ⟨u, h⟩) | h
  · exact .inl (.inl (e.tup h))
  · exact .inl (.inr ⟨u, e.frz h⟩)
  · exact .inr h
/-- what is fresh behind was fresh before -/
theorem Gr.back (e : Gr K H H') (h : H' p = none) (nt : ∀ ps, H p ≠ some (.tbl ps)) : H p = none := by
  cases q : H p with
  | none => rfl
  | some u =>
    have z := e.keep p u q fun ps y => nt ps (by rw [q, y])
    rw [h] at z
    cases z
/-- a list that the start doesn't know may change -/
theorem Gr.put {l1 l2 : List V} (e : Gr K H H1) (h : H p = none) (h1 : H1 p = some (.lst l1)) : Gr K H (upd H1 p (.lst l2)) := by
  refine ⟨fun b u q n => ?_, fun t => ?_⟩
  · rw [upd_ne (ne_of_none q h)]
    exact e.keep b u q n
  · intro q hq
    obtain ⟨ps, e1, e2, e3⟩ := e.tabs t q hq
    have np : q.1 ≠ p := fun z => by rw [z, h1] at e1; cases e1
    refine ⟨ps, by rw [upd_ne np]; exact e1, e2, fun pos cv hc => ?_⟩
    obtain ⟨c, c1, c2⟩ := e3 pos cv hc
    have nc : c ≠ p := fun z => by rw [z, h1] at c2; cases c2
    exact ⟨c, c1, by rw [upd_ne nc]; exact c2⟩
theorem Gr.putI {C dx : Addr} {f1 f2 : List (Str × V)} (e : Gr K H H1) (h : H p = none) (h1 : H1 p = some (.ins C dx f1)) : Gr K H (upd H1 p (.ins C dx f2)) := by
  refine ⟨fun b u q n => ?_, fun t => ?_⟩
  · rw [upd_ne (ne_of_none q h)]
    exact e.keep b u q n
  · intro q hq
    obtain ⟨ps, e1, e2, e3⟩ := e.tabs t q hq
    have np : q.1 ≠ p := fun z => by rw [z, h1] at e1; cases e1
    refine ⟨ps, by rw [upd_ne np]; exact e1, e2, fun pos cv hc => ?_⟩
    obtain ⟨c, c1, c2⟩ := e3 pos cv hc
    have nc : c ≠ p := fun z => by rw [z, h1] at c2; cases c2
    exact ⟨c, c1, by rw [upd_ne nc]; exact c2⟩
end
/-! ### isinstance with a built-in class, written by its name -/
abbrev tIsi (K : PySem.W.Frag) (T : String) (te : TE) : TE := tCB (rIsi K) (tCons te (tCons (tC (.ty T)) tNil))
theorem pe_isi {X : Cx} {e : Expr} {te : TE} {p p2 pos : Pos} {T : String} {n : Str} (he : PE X e te) (hm : X.mg "isinstance" = none) (hm2 : X.mg n = none) (hv : bootBuiltins n = some (.type T) := by decide +kernel) (hg : Gl X "isinstance" := by rfl) (hg2 : Gl X n := by rfl)
    (hn : n ≠ "__name__" := by decide) (hdb : (n == ("__debug__" : Str)) = false := by decide)
    (h1 : starEach (e :: [.Name n p2]) X.env = (false, eval e X.env) :: starEach [.Name n p2] X.env := by rfl) (h2 : starEach (.Name n p2 :: []) X.env = (false, eval (.Name n p2) X.env) :: starEach [] X.env := by rfl) (hpl : (backTo pos (starEach [.Name n p2] X.env)).any (·.1) = false := by rfl) :
    PE X (.Call (.Name "isinstance" p) [e, .Name n p2] [] pos) (tIsi X.K T te) :=
  pe_callB call_isi hg hm (by decide +kernel) (pa_cons he (pa_cons (pe_bltn (pos := p2) (v := .ty T) hg2 hm2 hv rfl hn hdb) pa_nil h2) h1) (by decide) (by decide) h1 hpl
section
variable {K : PySem.W.Frag} {H : Hp} {Q : VK}
theorem kit_int : PySem.W.kitOne K (.type "int") (.type "int") = some true := kit_ty (by decide +kernel)
theorem kit_intB : PySem.W.kitOne K (.type "int") (.type "bool") = some false := kit_ty (by decide +kernel)
theorem kit_str : PySem.W.kitOne K (.type "str") (.type "str") = some true := kit_ty (by decide +kernel)
theorem kit_tup : PySem.W.kitOne K (.type "tuple") (.type "tuple") = some true := kit_ty (by decide +kernel)
theorem ty_tup {a : Addr} {xs : List V} (h : SqT K H a xs) : TyX K H (.ref a) (.type "tuple") := by
  rcases h with (h | ⟨o, h⟩) | ⟨o, its, n, h, c, _⟩
  · exact .base (.tup h)
  · exact .fTuple h
  · exact .kTuple h c
/-! ### lengths -/
theorem len_str {z : Str} (hz : z.length ≤ sizeLine) (q : Q (.int z.length) H) : ∃ z', ([.str z] : List V) = [.str z'] ∧ z'.length ≤ sizeLine ∧ Q (.int z'.length) H := ⟨z, rfl, hz, q⟩
end
/-! ### texts as lists of codes -/
abbrev cl (x : Str) : List Nat := x.cps.toList
theorem cl_len (x : Str) : (cl x).length = x.length := by simp [Str.length]
theorem S_cl (x : Str) : SX.S (cl x) = x := SX.S_tl x
/-- all signs of a text stand in another one -/
def allIn (z x : Str) : Bool := (cl x).all fun c => decide (c ∈ cl z)
section
variable {K : PySem.W.Frag} {H : Hp} {σ : L2.St} {Q : VK}
/-! ### comprehensions without tests: Iv i acc H tells what holds when i items are in the list acc -/
def LcI (D : Addr) (Iv : Nat → List V → Hp → Prop) (i : Nat) (H : Hp) : Prop := ∃ acc, acc.length = i ∧ H D = some (.lst acc) ∧ Iv i acc H
def LcE (D : Addr) (Iv : Nat → List V → Hp → Prop) (i : Nat) (y : V) (H : Hp) : Prop := ∃ acc, H D = some (.lst acc) ∧ acc.length < sizeLine ∧ LcI D Iv (i + 1) (upd H D (.lst (acc ++ [y])))
theorem LcE.of {D : Addr} {Iv : Nat → List V → Hp → Prop} {i : Nat} {y : V} {acc : List V} (hD : H D = some (.lst acc)) (hl : acc.length = i) (hz : i < sizeLine) (h : Iv (i + 1) (acc ++ [y]) (upd H D (.lst (acc ++ [y])))) : LcE D Iv i y H :=
  ⟨acc, hD, by rw [hl]; exact hz, acc ++ [y], by rw [List.length_append, hl] <;> rfl, upd_same, h⟩
theorem lc_I {J : It} {n : Nat} {G : Hp → Prop} {Y : Nat → Hp → V → Hp → Prop} (w : Walk J n G Y) {g : TG} {te : TE} {vs : List Nat} {H1 : Hp} {D : Addr} {Qd : Hp → Prop} (Iv : Nat → List V → Hp → Prop)
    (h0 : Iv 0 [] (upd H1 D (.lst []))) (hG : ∀ i acc H, Iv i acc H → G H)
    (hs : ∀ i x H H' acc, i < n → acc.length = i → H D = some (.lst acc) → Iv i acc H → Y i H x H' → g x (wipe σ vs) H' fun σ2 H2 => wipe σ2 vs = wipe σ vs ∧ te σ2 H2 (LcE D Iv i))
    (hd : ∀ H acc, acc.length = n → H D = some (.lst acc) → Iv n acc H → Qd H) :
    ∃ W : Nat → Nat → Hp → Prop, (∃ m, W 0 m (upd H1 D (.lst []))) ∧ ∀ i m H, W i m H →
      (J.stop i H ∧ Qd H) ∨ (J.go i H ∧ ∃ Nx : Hp → Prop, (∀ H', Nx H' → ∃ m', m' < m ∧ W (i + 1) m' H') ∧ ∀ x H', J.yld i H x H' → g x (wipe σ vs) H' fun σ2 H2 => wipe σ2 vs = wipe σ vs ∧ tYes σ2 H2 fun b H3 =>
        if b = true then te σ2 H3 fun y H4 => ∃ acc, H4 D = some (.lst acc) ∧ acc.length < sizeLine ∧ Nx (upd H4 D (.lst (acc ++ [y]))) else Nx H3) :=
  lc_it w (LcI D Iv) ⟨[], rfl, upd_same, h0⟩ (fun i H _ ⟨acc, _, _, h⟩ => hG i acc H h) (fun i x H H' hi ⟨acc, e, hD, h⟩ y => hs i x H H' acc hi e hD h y) (fun H ⟨acc, e, hD, h⟩ => hd H acc e hD h)
/-- [sign in SIGNS for sign in word] -/
def signs (z x : Str) : List Bool := (cl x).map fun c => decide (c ∈ cl z)
theorem signs_all (z x : Str) : (signs z x).all id = allIn z x := by
  unfold signs allIn
  rw [List.all_map] <;> rfl
theorem all_in {z x : Str} {i : Nat} {D : Addr} {H1 : Hp} {Qd : Hp → Prop} (hi : i < σ.length) (hz : x.length ≤ sizeLine) (hD : H1 D = none) (q : ∀ H', Gr K H1 H' → H' D = some (.lst ((signs z x).map V.bl)) → Qd H') :
    ∃ W : Nat → Nat → Hp → Prop, (∃ m, W 0 m (upd H1 D (.lst []))) ∧ ∀ j m H, W j m H →
      ((Its x).stop j H ∧ Qd H) ∨ ((Its x).go j H ∧ ∃ Nx : Hp → Prop, (∀ H', Nx H' → ∃ m', m' < m ∧ W (j + 1) m' H') ∧ ∀ v H', (Its x).yld j H v H' → gName i v (wipe σ [i]) H' fun σ2 H2 => wipe σ2 [i] = wipe σ [i] ∧ tYes σ2 H2 fun b H3 =>
        if b = true then tOp (fun x y H Q => ∃ (c : Nat) (z : Str), x = .str ⟨#[c]⟩ ∧ y = .str z ∧ Q (.bl (decide (c ∈ z.cps.toList))) H) (tVar i) (tC (.str z)) σ2 H3 fun y H4 => ∃ acc, H4 D = some (.lst acc) ∧ acc.length < sizeLine ∧ Nx (upd H4 D (.lst (acc ++ [y]))) else Nx H3) := by
  refine lc_I walk_str (fun j acc H => acc = ((cl x).take j).map (fun c => V.bl (decide (c ∈ cl z))) ∧ Gr K H1 H) ⟨rfl, Gr.new hD⟩ (fun _ _ _ _ => trivial) ?_ ?_
  · rintro j v H H' acc hj hl hDa ⟨ea, gr⟩ ⟨rfl, c, hc, rfl⟩
    have hc' : (cl x)[j]? = some c := by simpa using hc
    refine ⟨by simp [wipe], _, by simp [wipe, hi], c, z, rfl, rfl, ?_⟩
    refine LcE.of hDa hl (Nat.lt_of_lt_of_le hj (by simpa [Str.length] using hz)) ⟨?_, gr.put hD hDa⟩
    rw [ea, List.take_add_one, hc', Option.toList_some, List.map_append] <;> rfl
  · rintro H acc hl hDa ⟨ea, gr⟩
    have e : acc = (signs z x).map V.bl := by
      unfold signs
      rw [ea, List.take_of_length_le (by simp), List.map_map] <;> rfl
    exact q H gr (by rw [← e]; exact hDa)
end
end CK
namespace CK
open PySem PySem.Spec PyProof.Rows L2
section
variable {K : PySem.W.Frag} {H : Hp} {σ : L2.St} {Q : VK}
/-- a <= b <= c of whole numbers, c a constant -/
theorem chain_le {tc : TE} {a b c : Int} (hc : ∀ Q : VK, Q (.int c) H → tc σ H Q) (q : Q (.bl (decide (a ≤ b) && decide (b ≤ c))) H) :
    rI0 (fun i j => .bl (decide (i ≤ j))) (.int a) (.int b) H fun z H3 => ∃ k, z = .bl k ∧ (if k = true then tc σ H3 fun w' H4 => rI0 (fun i j => .bl (decide (i ≤ j))) (.int b) w' H4 Q else Q (.bl false) H3) := by
  refine ⟨a, b, rfl, rfl, _, rfl, ?_⟩
  by_cases h : a ≤ b
  · rw [decide_eq_true h] at q ⊢
    exact iteT (hc _ ⟨b, c, rfl, rfl, q⟩)
  · rw [decide_eq_false h] at q ⊢
    exact iteF q
end
/-- what a text is told by: f of it -/
def spT (K : PySem.W.Frag) (f : Str → Bool) : Sp := sp1 fun v H Q _ => ∃ x : Str, v = .str x ∧ x.length ≤ sizeLine ∧ ∀ H', Gr K H H' → Q (.bl (f x)) H'
/-- what a whole number is told by -/
def spZ (f : Int → Bool) : Sp := sp1 fun v H Q _ => ∃ i : Int, v = .int i ∧ Q (.bl (f i)) H
def isNm (x : Str) : Bool := (decide ((1 : Int) ≤ x.length) && decide ((x.length : Int) ≤ 8)) && allIn (.ofString "abcdefghijklmnopqrstuvwxyz") x
end CK
namespace CK
open PySem PySem.Spec PyProof.Rows L2
def six : Str := .ofString "0123456789abcdef"
def figs (l : List Nat) : Bool := (decide ((1 : Int) ≤ l.length) && decide ((l.length : Int) ≤ 6)) && (l.all (fun c => decide (c ∈ cl six)) && (decide (l = [48]) || !decide (l.head? = some 48)))
def isMk (x : Str) : Bool := decide ((cl x).take 1 = [99]) && figs ((cl x).drop 1)
theorem slice1 (x : Str) : Txt.slice x none (some 1) = SX.S ((cl x).take 1) := by
  have h := SX.slice_to (a := cl x) (i := 1) (by decide)
  rw [S_cl] at h
  exact h
theorem slice1f (x : Str) : Txt.slice x (some 1) none = SX.S ((cl x).drop 1) := by
  have h := SX.slice_from (a := cl x) (i := 1) (by decide)
  rw [S_cl] at h
  exact h
theorem S_dec (l m : List Nat) : decide (V.str (SX.S l) = V.str (SX.S m)) = decide (l = m) := by
  by_cases h : l = m
  · rw [h, decide_eq_true rfl, decide_eq_true rfl]
  · rw [decide_eq_false h, decide_eq_false fun z => h (SX.S_inj (V.str.inj z))]
theorem allIn_S (z : Str) (l : List Nat) : allIn z (SX.S l) = l.all fun c => decide (c ∈ cl z) := rfl
end CK
namespace CK
open PySem PySem.Spec PyProof.Rows L2
theorem at_0 {α : Type} {a : α} {r : List α} : atI (a :: r) 0 = some a := atI_nat (j := 0) rfl
theorem at_1 {α : Type} {a b : α} {r : List α} : atI (a :: b :: r) 1 = some b := atI_nat (j := 1) rfl
theorem at_2 {α : Type} {a b c : α} {r : List α} : atI (a :: b :: c :: r) 2 = some c := atI_nat (j := 2) rfl
theorem at_3 {α : Type} {a b c d : α} {r : List α} : atI (a :: b :: c :: d :: r) 3 = some d := atI_nat (j := 3) rfl
end CK
set_option maxHeartbeats 4000000
namespace CK
open PySem PySem.Spec PyProof.Rows L2
/-! ### numbers as texts -/
def nS (n : Nat) : Str := .ofString (toString ((n : Nat) : Int))
theorem nS_S (n : Nat) : nS n = SX.S (TL.numL n) := SX.num_S n
theorem cl_nS (n : Nat) : cl (nS n) = TL.numL n := TL.tl_num n
theorem nS_len (n : Nat) : (nS n).length = (TL.numL n).length := by rw [nS_S, SX.S_len]
theorem nS_pos (n : Nat) : 1 ≤ (nS n).length := by
  rw [nS_len]
  have := TL.numL_ne n
  cases h : TL.numL n with
  | nil => exact absurd h this
  | cons a r => exact Nat.succ_le_succ (Nat.zero_le _)
theorem nS_le {n : Nat} (h : n < 10 ^ 12) : (nS n).length ≤ 12 := by
  rw [nS_len]
  exact TL.numL_len (by decide) h
def figT : Str := .ofString "0123456789"
theorem fig_mem {c : Nat} (h : 48 ≤ c ∧ c ≤ 57) : c ∈ cl figT := by
  have e : cl figT = [48, 49, 50, 51, 52, 53, 54, 55, 56, 57] := by decide +kernel
  rw [e]
  have : c = 48 ∨ c = 49 ∨ c = 50 ∨ c = 51 ∨ c = 52 ∨ c = 53 ∨ c = 54 ∨ c = 55 ∨ c = 56 ∨ c = 57 := by omega
  simp only [List.mem_cons, List.not_mem_nil, or_false]
  exact this
theorem nS_figs (n : Nat) : allIn figT (nS n) = true := by
  unfold allIn
  rw [cl_nS, List.all_eq_true]
  intro c hc
  exact decide_eq_true (fig_mem (TL.numL_digits n c hc))
theorem numL_head (n : Nat) (h : n ≠ 0) : (TL.numL n).head? ≠ some 48 := by
  induction n using Nat.strongRecOn with
  | _ n ih =>
    by_cases h10 : n < 10
    · rw [TL.numL_lt h10]
      simp
      omega
    · have q := ih (n / 10) (by omega) (by omega)
      rw [TL.numL_step (by omega)]
      have ne := TL.numL_ne (n / 10)
      cases e : TL.numL (n / 10) with
      | nil => exact absurd e ne
      | cons a r => rw [e] at q; exact q
theorem int_nS {n : Nat} (h : n < 10 ^ 12) : intText? (nS n) = some (n : Int) := TL.int_num (Nat.le_trans (TL.numL_len (k := 12) (by decide) h) (by decide))
theorem nS_zero : nS 0 = .ofString "0" := by decide +kernel
theorem nS_inj {m n : Nat} (h : nS m = nS n) : m = n := TL.numL_inj (by rw [← cl_nS, ← cl_nS, h])
theorem nS_free {n s : Nat} (h : s < 48 ∨ 57 < s) : s ∉ cl (nS n) := by
  rw [cl_nS]
  exact TL.numL_free h
/-! ### weights as texts -/
def wS (t b : Nat) : Str := if b = 1 then nS t else nS t ++ (.ofString "/" ++ nS b)
theorem cl_app (x y : Str) : cl (x ++ y) = cl x ++ cl y := TL.tl_append x y
theorem cl_slash : cl (.ofString "/") = [47] := by decide +kernel
theorem cl_wS (t b : Nat) : cl (wS t b) = if b = 1 then TL.numL t else TL.numL t ++ 47 :: TL.numL b := by
  unfold wS
  split
  · exact cl_nS t
  · rw [cl_app, cl_app, cl_nS, cl_nS, cl_slash] <;> rfl
theorem wS_len {t b : Nat} (ht : t < 10 ^ 12) (hb : b < 10 ^ 12) : (wS t b).length ≤ 25 := by
  rw [← cl_len, cl_wS]
  have h1 := TL.numL_len (k := 12) (by decide) ht
  have h2 := TL.numL_len (k := 12) (by decide) hb
  split
  · omega
  · rw [List.length_append, List.length_cons]
    omega
theorem wS_free {t b s : Nat} (h : s < 47 ∨ 57 < s) : s ∉ cl (wS t b) := by
  rw [cl_wS]
  split
  · exact TL.numL_free (by omega)
  · intro hm
    rcases List.mem_append.mp hm with q | q
    · exact TL.numL_free (by omega) q
    · rcases List.mem_cons.mp q with q | q
      · omega
      · exact TL.numL_free (by omega) q
/-- a text that is joined of parts without the sign c, split there -/
theorem split_one {c : Nat} (hc : c < 256) {parts : List (List Nat)} (hne : parts ≠ []) (h : ∀ p ∈ parts, c ∉ p) : Txt.split (SX.S (TL.joinL [c] parts)) (SX.S [c]) = parts.map SX.S := by
  rw [SX.split_S (by simp) (by simp [hc]), SX.spl_join hne h]
theorem split_wS (t b : Nat) : Txt.split (wS t b) (.ofString "/") = if b = 1 then [nS t] else [nS t, nS b] := by
  have e0 : (Str.ofString "/") = SX.S [47] := by decide +kernel
  rw [e0, ← S_cl (wS t b), cl_wS]
  split
  · have := split_one (c := 47) (by decide) (parts := [TL.numL t]) (by simp) (by simp; exact TL.numL_free (by omega))
    rw [nS_S]
    exact this
  · have := split_one (c := 47) (by decide) (parts := [TL.numL t, TL.numL b]) (by simp) (by simp; exact ⟨TL.numL_free (by omega), TL.numL_free (by omega)⟩)
    rw [nS_S, nS_S]
    exact this
end CK
set_option maxHeartbeats 4000000
namespace CK
open PySem PySem.Spec PyProof.Rows L2
/-! ### data in the heap -/
inductive D where
  | s (x : Str)
  | i (n : Nat)
  | n
  | w (t b : Nat)
  | t (l : List D)
/-- the fields of a Weight -/
abbrev wF (t b : Nat) : List (Str × V) := [("top", .int (t : Int)), ("bottom", .int (b : Int))]
abbrev cW (K : PySem.W.Frag) : Addr := He.ga K "Weight"
def IsW (K : PySem.W.Frag) (H : Hp) (a : Addr) (t b : Nat) : Prop := ∃ dx, H a = some (.ins (cW K) dx (wF t b))
mutual
def Rep (K : PySem.W.Frag) (H : Hp) : D → V → Prop
  | .s x, y => y = .str x
  | .i n, y => y = .int n
  | .n, y => y = .non
  | .w t b, y => ∃ a, y = .ref a ∧ IsW K H a t b
  | .t l, y => ∃ a xs, y = .ref a ∧ SqT K H a xs ∧ RepL K H l xs
def RepL (K : PySem.W.Frag) (H : Hp) : List D → List V → Prop
  | [], xs => xs = []
  | d :: l, xs => ∃ x r, xs = x :: r ∧ Rep K H d x ∧ RepL K H l r
end
/-! ### growth with some objects open to change -/
structure GrE (K : PySem.W.Frag) (ex : Addr → Prop) (H H' : Hp) : Prop where
  keep : ∀ b o, H b = some o → (∀ ps, o ≠ .tbl ps) → ¬ ex b → H' b = some o
  tabs : LamX.Tabs (TT K) H → LamX.Tabs (TT K) H'
section
variable {K : PySem.W.Frag} {H H1 H' : Hp} {ex ex' : Addr → Prop} {a b p : Addr} {o : HO} {xs ys : List V}
theorem GrE.of (e : Gr K H H') : GrE K ex H H' := ⟨fun b o h n _ => e.keep b o h n, e.tabs⟩
theorem GrE.refl (H : Hp) : GrE K ex H H := .of (.refl H)
theorem GrE.trans (a : GrE K ex H H1) (b : GrE K ex H1 H') : GrE K ex H H' := ⟨fun c o h n x => b.keep c o (a.keep c o h n x) n x, fun h => b.tabs (a.tabs h)⟩
theorem GrE.mono (e : GrE K ex H H') (h : ∀ b, ex b → ex' b) : GrE K ex' H H' := ⟨fun b o q n x => e.keep b o q n fun z => x (h b z), e.tabs⟩
/-- what was open is new -/
theorem GrE.gr (e : GrE K ex H H') (h : ∀ b, ex b → H b = none) : Gr K H H' := ⟨fun b o q n => e.keep b o q n (fun z => by rw [h b z] at q; cases q), e.tabs⟩
theorem GrE.put {l1 l2 : List V} (he : ex a) (h : H a = some (.lst l1)) : GrE K ex H (upd H a (.lst l2)) := by
  refine ⟨fun b u q n x => ?_, fun t => ?_⟩
  · rw [upd_ne fun z => x (by rw [z]; exact he)]
    exact q
  · intro q hq
    obtain ⟨ps, e1, e2, e3⟩ := t q hq
    have np : q.1 ≠ a := fun z => by rw [z, h] at e1; cases e1
    refine ⟨ps, by rw [upd_ne np]; exact e1, e2, fun pos cv hc => ?_⟩
    obtain ⟨c, c1, c2⟩ := e3 pos cv hc
    have nc : c ≠ a := fun z => by rw [z, h] at c2; cases c2
    exact ⟨c, c1, by rw [upd_ne nc]; exact c2⟩
theorem GrE.new (h : H p = none) : GrE K ex H (upd H p o) := .of (.new h)
theorem GrE.add (e : GrE K ex H H1) (h : H1 p = none) : GrE K ex H (upd H1 p o) := e.trans (.new h)
theorem GrE.lst (e : GrE K ex H H') (h : H a = some (.lst xs)) (x : ¬ ex a) : H' a = some (.lst xs) := e.keep _ _ h (fun _ z => by cases z) x
/-! ### data stands -/
/-- all tuples and instances stand -/
structure Std (H H' : Hp) : Prop where
  tup : ∀ a xs, H a = some (.tup xs) → H' a = some (.tup xs)
  frz : ∀ a u o, H a = some (.frz u o) → H' a = some (.frz u o)
  ins : ∀ a C dx fs, fs ≠ [] → H a = some (.ins C dx fs) → H' a = some (.ins C dx fs)
theorem Std.refl (H : Hp) : Std H H := ⟨fun _ _ h => h, fun _ _ _ h => h, fun _ _ _ _ _ h => h⟩
theorem Std.trans (a : Std H H1) (b : Std H1 H') : Std H H' := ⟨fun c x h => b.tup c x (a.tup c x h), fun c x y h => b.frz c x y (a.frz c x y h), fun c x y z n h => b.ins c x y z n (a.ins c x y z n h)⟩
theorem Gr.std (e : Gr K H H') : Std H H' := ⟨fun _ _ h => e.tup h, fun _ _ _ h => e.frz h, fun _ _ _ _ _ h => e.ins h⟩
/-- only lists are open -/
theorem GrE.std (e : GrE K ex H H') (h : ∀ b, ex b → ∃ l, H b = some (.lst l)) : Std H H' := by
  have k : ∀ b o, H b = some o → (∀ ps, o ≠ .tbl ps) → (∀ l, o ≠ .lst l) → H' b = some o := fun b o q n nl => e.keep b o q n fun z => by
    obtain ⟨l, hl⟩ := h b z
    rw [hl] at q
    exact nl l (Option.some.inj q).symm
  exact ⟨fun a xs q => k a _ q (fun _ z => by cases z) (fun _ z => by cases z), fun a u o q => k a _ q (fun _ z => by cases z) (fun _ z => by cases z), fun a C dx fs _ q => k a _ q (fun _ z => by cases z) (fun _ z => by cases z)⟩
theorem Std.ext (e : Ext H H') : Std H H' := ⟨fun a _ h => e a _ h, fun a _ _ h => e a _ h, fun a _ _ _ _ h => e a _ h⟩
theorem Std.upd' (h : H p = none) : Std H (upd H p o) := .ext (Ext.upd h)
theorem Std.putL {l1 l2 : List V} (h : H a = some (.lst l1)) : Std H (upd H a (.lst l2)) := by
  have k : ∀ b o, H b = some o → (∀ l, o ≠ .lst l) → upd H a (.lst l2) b = some o := fun b o q n => by
    rw [upd_ne fun z => by rw [z, h] at q; exact n _ (Option.some.inj q).symm]
    exact q
  exact ⟨fun a xs q => k a _ q (fun _ z => by cases z), fun a u o q => k a _ q (fun _ z => by cases z), fun a C dx fs _ q => k a _ q (fun _ z => by cases z)⟩
theorem Std.sqT (e : Std H H') (h : SqT K H a xs) : SqT K H' a xs := by
  rcases h with (h | ⟨u, h⟩) | h
  · exact .inl (.inl (e.tup _ _ h))
  · exact .inl (.inr ⟨u, e.frz _ _ _ h⟩)
  · exact .inr h
theorem Std.isW {t b : Nat} (e : Std H H') (h : IsW K H a t b) : IsW K H' a t b := let ⟨dx, h⟩ := h; ⟨dx, e.ins _ _ _ _ (by simp) h⟩
mutual
theorem Rep.std (e : Std H H') : ∀ (d : D) (x : V), Rep K H d x → Rep K H' d x
  | .s _, _, h => h
  | .i _, _, h => h
  | .n, _, h => h
  | .w _ _, _, ⟨a, ea, h⟩ => ⟨a, ea, e.isW h⟩
  | .t l, _, ⟨a, xs, ea, h, hl⟩ => ⟨a, xs, ea, e.sqT h, RepL.std e l xs hl⟩
theorem RepL.std (e : Std H H') : ∀ (l : List D) (xs : List V), RepL K H l xs → RepL K H' l xs
  | [], _, h => h
  | d :: l, _, ⟨x, r, ex, h, hl⟩ => ⟨x, r, ex, Rep.std e d x h, RepL.std e l r hl⟩
end
theorem Rep.std' {d : D} {x : V} (h : Rep K H d x) (e : Std H H') : Rep K H' d x := Rep.std e d x h
theorem RepL.std' {l : List D} {xs : List V} (h : RepL K H l xs) (e : Std H H') : RepL K H' l xs := RepL.std e l xs h
theorem RepL.len : ∀ {l : List D} {xs : List V}, RepL K H l xs → xs.length = l.length
  | [], _, h => congrArg List.length h
  | d :: l, _, ⟨x, r, ex, h, hl⟩ => by rw [ex, List.length_cons, List.length_cons, RepL.len hl]
theorem RepL.at : ∀ {l : List D} {xs : List V} {i : Nat} {d : D}, RepL K H l xs → l[i]? = some d → ∃ x, xs[i]? = some x ∧ Rep K H d x
  | [], _, _, _, _, h => by simp at h
  | d :: l, _, 0, _, ⟨x, r, ex, h, hl⟩, e => ⟨x, by rw [ex] <;> rfl, by simp at e; rw [← e]; exact h⟩
  | d :: l, _, i + 1, _, ⟨x, r, ex, h, hl⟩, e => by
    obtain ⟨y, h1, h2⟩ := RepL.at (i := i) hl (by simpa using e)
    exact ⟨y, by rw [ex]; simpa using h1, h2⟩
theorem RepL.app : ∀ {l m : List D} {xs ys : List V}, RepL K H l xs → RepL K H m ys → RepL K H (l ++ m) (xs ++ ys)
  | [], _, _, _, h, g => by rw [show _ = [] from h]; exact g
  | d :: l, _, _, _, ⟨x, r, ex, h, hl⟩, g => ⟨x, r ++ _, by rw [ex] <;> rfl, h, RepL.app hl g⟩
theorem RepL.one {d : D} {x : V} (h : Rep K H d x) : RepL K H [d] [x] := ⟨x, [], rfl, h, rfl⟩
theorem RepL.strs : ∀ {l : List Str} {xs : List V}, RepL K H (l.map D.s) xs → xs = l.map V.str
  | [], _, h => h
  | y :: l, _, ⟨x, r, ex, h, hl⟩ => by
    have h' : x = .str y := h
    rw [ex, h', RepL.strs hl] <;> rfl
theorem RepL.of_strs : ∀ (l : List Str), RepL K H (l.map D.s) (l.map V.str)
  | [] => rfl
  | y :: l => ⟨.str y, l.map V.str, rfl, rfl, RepL.of_strs l⟩
theorem RepL.drop : ∀ {n : Nat} {l : List D} {xs : List V}, RepL K H l xs → RepL K H (l.drop n) (xs.drop n)
  | 0, _, _, h => h
  | n + 1, [], _, h => by rw [show _ = [] from h]; exact rfl
  | n + 1, d :: l, _, ⟨x, r, ex, h, hl⟩ => by rw [ex]; exact RepL.drop (n := n) hl
theorem Rep.tup {l : List D} {xs : List V} (h : RepL K H l xs) (e : H a = some (.tup xs)) : Rep K H (.t l) (.ref a) := ⟨a, xs, rfl, .inl (.inl e), h⟩
end
/-! ### equal data -/
def RW (K : PySem.W.Frag) : Addr → Addr → Hp → Prop := fun a b H => ∃ t n, IsW K H a t n ∧ IsW K H b t n
def DN (K : PySem.W.Frag) : Nat → Eqv
  | 0 => fun x y H => DFlat x y H ∨ DIns (cW K) (RW K) x y H
  | k + 1 => fun x y H => DN K k x y H ∨ DTup K (DN K k) x y H
theorem mon_RW {K : PySem.W.Frag} : ∀ a b H H', Ext H H' → RW K a b H → RW K a b H' := fun _ _ _ _ e ⟨t, n, h1, h2⟩ => ⟨t, n, (Std.ext e).isW h1, (Std.ext e).isW h2⟩
theorem mon_DN {K : PySem.W.Frag} : ∀ k, Mon (DN K k)
  | 0 => mon_flat.or (mon_ins mon_RW)
  | k + 1 => (mon_DN k).or (mon_tup (mon_DN k))
mutual
def D.dep : D → Nat
  | .t l => D.depL l + 1
  | _ => 0
def D.depL : List D → Nat
  | [] => 0
  | d :: l => max d.dep (D.depL l)
end
theorem DN_mono {K : PySem.W.Frag} {x y : V} {H : Hp} : ∀ {k m : Nat}, k ≤ m → DN K k x y H → DN K m x y H
  | k, 0, h, d => by rw [Nat.le_zero.mp h] at d; exact d
  | k, m + 1, h, d => by
    by_cases e : k = m + 1
    · rw [e] at d; exact d
    · exact .inl (DN_mono (by omega) d)
mutual
theorem dn_of {K : PySem.W.Frag} {H : Hp} : ∀ (d : D) (x y : V) (k : Nat), d.dep ≤ k → Rep K H d x → Rep K H d y → DN K k x y H
  | .s z, _, _, k, _, h, g => DN_mono (Nat.zero_le k) (.inl (by rw [show _ = V.str z from h, show _ = V.str z from g]; exact ⟨rfl, rfl, by simp [eqV]⟩))
  | .i z, _, _, k, _, h, g => DN_mono (Nat.zero_le k) (.inl (by rw [show _ = V.int z from h, show _ = V.int z from g]; exact ⟨rfl, rfl, by simp [eqV]⟩))
  | .n, _, _, k, _, h, g => DN_mono (Nat.zero_le k) (.inl (by rw [show _ = V.non from h, show _ = V.non from g]; exact ⟨rfl, rfl, by simp [eqV]⟩))
  | .w t b, _, _, k, _, ⟨a, ea, dx, h⟩, ⟨c, ec, dy, g⟩ => DN_mono (Nat.zero_le k) (.inr ⟨a, c, dx, dy, _, _, ea, ec, h, g, t, b, ⟨dx, h⟩, ⟨dy, g⟩⟩)
  | .t l, _, _, 0, hk, _, _ => absurd hk (by unfold D.dep; omega)
  | .t l, _, _, k + 1, hk, ⟨a, xs, ea, h, hl⟩, ⟨c, ys, ec, g, gl⟩ => .inr ⟨a, c, xs, ys, ea, ec, h, g, dnL_of l xs ys k (by unfold D.dep at hk; omega) hl gl⟩
theorem dnL_of {K : PySem.W.Frag} {H : Hp} : ∀ (l : List D) (xs ys : List V) (k : Nat), D.depL l ≤ k → RepL K H l xs → RepL K H l ys → Prs (DN K k) xs ys H
  | [], _, _, _, _, h, g => by rw [show _ = [] from h, show _ = [] from g]; exact .nil
  | d :: l, _, _, k, hk, ⟨x, r, ex, h, hl⟩, ⟨y, q, ey, g, gl⟩ => by
    rw [ex, ey]
    unfold D.depL at hk
    exact .cons (dn_of d x y k (by omega) h g) (dnL_of l r q k (by omega) hl gl)
end
/-- what Weight.__eq__ promises -/
theorem eqG_DN {X : Cx} {n : Nat} {f : Addr} {fd : FuncData} {ps : List Str} {E : XK} (F : FnOk X.prog X.w X.K X.mg X.base CX0 n f fd ps (spEq (RW X.K)))
    (hs : PySem.W.findIn X.K (.ref (cW X.K)) "__eq__" = some (some (.ref f))) (hf : PySem.W.isFn X.K (.ref f) = true) (hb : Binds X.K fd ps []) : ∀ k, EqG X (n + k) (DN X.K k)
  | 0 => (eqG_flat.mono (Nat.zero_le _)).or (eqG_ins (E := E0) F hs hf hb pass0)
  | k + 1 => ((eqG_DN (E := E) F hs hf hb k).mono (by omega)).or (eqG_tup (mon_DN k) (eqG_DN (E := E) F hs hf hb k))
end CK
set_option maxHeartbeats 0
namespace CK
open PySem PySem.Spec PyProof.Rows L2
section
variable {P : Program} {w : World} {K : PySem.W.Frag} {mg : Str → Option Value} {base : Heap}
theorem sc_is_whole : FnScope ["thing"] ["thing"] (defScope (top 30)) := ⟨rfl, rfl, rfl, by decide +kernel, rfl, by decide +kernel, by decide +kernel⟩
theorem ok_is_whole (T : Tp w K mg base) : Cl P w K mg base CX0 2 "is_whole" (spZ fun _ => true) := by
  obtain ⟨fd, F⟩ := F_is_whole T
  refine ⟨fd, ["thing"], F.ok sc_is_whole (len1 rfl) (fun cdv A outer s H vs Q E hr h => ?_), G_is_whole T, F.kp, F.bindsN fun _ _ _ _ _ _ us hl => match us, hl with | [_], _ => rfl⟩
  refine ⟨_, PSs.nox (pss_one (ps_ret (pe_and (pe_isi (T := "int") (pv 0) (B_isinstance T) (B_int T)) (pe_one (pe_not (pe_isi (T := "bool") (pv 0) (B_isinstance T) (B_bool T))))))), ?_⟩
  obtain ⟨v, rfl, i, rfl, q⟩ := h
  exact ⟨_, rfl, _, _, _, _, _, rfl, .ty _, .base (.int _), kit_int, true, rfl, iteT ⟨_, rfl, _, _, _, _, _, rfl, .ty _, .base (.int _), kit_intB, false, rfl, q⟩⟩

theorem sc_is_name : FnScope ["thing", "sign"] ["thing"] (defScope (top 31)) := ⟨rfl, rfl, rfl, by decide +kernel, rfl, by decide +kernel, by decide +kernel⟩
theorem ok_is_name (T : Tp w K mg base) : Cl P w K mg base CX0 2 "is_name" (spT K isNm) := by
  obtain ⟨fd, F⟩ := F_is_name T
  refine ⟨fd, ["thing"], F.ok sc_is_name (len1 rfl) (fun cdv A outer s H vs Q E hr h => ?_), G_is_name T, F.kp, F.bindsN fun _ _ _ _ _ _ us hl => match us, hl with | [_], _ => rfl⟩
  refine ⟨_, PSs.nox (pss_cons (ps_if (PW.pt (pw_or (pt_not (pt_val (pe_isi (T := "str") (pv 0) (B_isinstance T) (B_str T)))) (pw_or1 (pt_not (pt_chain op_le op_le pe_int (pe_callB call_len_str (by rfl) (B_len T) (by decide +kernel) (pa_cons (pv 0) pa_nil)) (C8.pe_gc (by rfl) (C_LONGEST_NAME T))))))) (pss_one (ps_ret pe_bl)) pss_nil)
  (pss_one (ps_ret (pe_callB (cr_all rfl) (by rfl) (B_all T) (by decide +kernel) (pa_cons (pe_lc (own := [("sign", 1)]) rfl sc_is_name.nd (pi_str (pv 0)) (blkOk_by (own := [("sign", 1)]) (N := ["thing", "sign"]) (sc := defScope (top 31)) (by decide +kernel)) (fun _ _ _ _ _ => (pg_name (i := 1) sc_is_name.nd rfl (Or.inl rfl))) (fun _ _ _ _ _ => pts_nil) (fun _ _ _ _ _ => (pe_cmpR op_in_sign (pv 1) (C8.pe_gc (by rfl) (C_LETTERS T)) rfl))) pa_nil))))), ?_⟩
  obtain ⟨v, rfl, x, rfl, hz, q⟩ := h
  refine ⟨_, rfl, _, _, _, _, _, rfl, .ty _, .base (.str _), kit_str, true, rfl, iteF ⟨_, rfl, _, rfl, hz, chain_le (fun _ q => q) ⟨_, rfl, ?_⟩⟩⟩
  unfold isNm at q
  cases hb : decide ((1 : Int) ≤ x.length) && decide ((x.length : Int) ≤ 8)
  · rw [hb] at q
    exact iteT (q H (.refl H))
  · rw [hb] at q
    exact iteF ⟨_, rfl, x, rfl, fun D hD => all_in (K := K) (i := 1) (by show 1 < 2; decide) hz hD fun H' gr h => ⟨_, _, rfl, SqL.of h, (signs_all _ x).symm ▸ q H' gr⟩⟩

theorem sc_is_mark : FnScope ["thing", "figures", "sign"] ["thing"] (defScope (top 32)) := ⟨rfl, rfl, rfl, by decide +kernel, rfl, by decide +kernel, by decide +kernel⟩
theorem ok_is_mark (T : Tp w K mg base) : Cl P w K mg base CX0 2 "is_mark" (spT K isMk) := by
  obtain ⟨fd, F⟩ := F_is_mark T
  refine ⟨fd, ["thing"], F.ok sc_is_mark (len1 rfl) (fun cdv A outer s H vs Q E hr h => ?_), G_is_mark T, F.kp, F.bindsN fun _ _ _ _ _ _ us hl => match us, hl with | [_], _ => rfl⟩
  refine ⟨_, PSs.nox (pss_cons (ps_if (PW.pt (pw_or (pt_not (pt_val (pe_isi (T := "str") (pv 0) (B_isinstance T) (B_str T)))) (pw_or1 (pt_cmpR op_ne (pe_slice C8.sl_txt (pv 0) po_none (po_some pe_int)) pe_str (nomark _))))) (pss_one (ps_ret pe_bl)) pss_nil)
  (pss_cons (ps_set (i := 1) sc_is_mark.nd rfl (Or.inl rfl) (pe_slice C8.sl_txt (pv 0) (po_some pe_int) po_none))
  (pss_cons (ps_if (PW.pt (pw_or (pt_not (pt_chain op_le op_le pe_int (pe_callB call_len_str (by rfl) (B_len T) (by decide +kernel) (pa_cons (pv 1) pa_nil)) (C8.pe_gc (by rfl) (C_LONGEST_NUMBER T)))) (pw_or1 (pt_not (pt_val (pe_callB (cr_all rfl) (by rfl) (B_all T) (by decide +kernel) (pa_cons (pe_lc (own := [("sign", 2)]) rfl sc_is_mark.nd (pi_str (pv 1)) (blkOk_by (own := [("sign", 2)]) (N := ["thing", "figures", "sign"]) (sc := defScope (top 32)) (by decide +kernel)) (fun _ _ _ _ _ => (pg_name (i := 2) sc_is_mark.nd rfl (Or.inl rfl))) (fun _ _ _ _ _ => pts_nil) (fun _ _ _ _ _ => (pe_cmpR op_in_sign (pv 2) (C8.pe_gc (by rfl) (C_SIXTEENS T)) rfl))) pa_nil))))))) (pss_one (ps_ret pe_bl)) pss_nil)
  (pss_one (ps_ret (pe_or (pe_cmpR op_eq (pv 1) pe_str (nomark _)) (pe_one (pe_cmpR op_ne (pe_ix ix_str (pv 1) pe_int (fun _ _ => rfl)) pe_str (nomark _))))))))), ?_⟩
  obtain ⟨v, rfl, x, rfl, hz, q⟩ := h
  have hl : (SX.S ((cl x).drop 1)).length ≤ sizeLine := by
    rw [SX.S_len, List.length_drop, cl_len]
    omega
  refine ⟨_, rfl, _, _, _, _, _, rfl, .ty _, .base (.str _), kit_str, true, rfl, iteF ⟨_, rfl, _, rfl, x, rfl, hz, rfl, _, rfl, ?_⟩⟩
  unfold isMk at q
  have e1 : decide (V.str (Txt.slice x none (some 1)) = V.str (.ofString "c")) = decide ((cl x).take 1 = [99]) := by
    rw [slice1]
    exact S_dec _ [99]
  rw [e1]
  cases h1 : decide ((cl x).take 1 = [99])
  · rw [h1] at q
    exact iteT (q H (.refl H))
  rw [h1] at q
  unfold figs at q
  refine iteF ⟨_, rfl, _, rfl, x, rfl, hz, ?_⟩
  rw [slice1f]
  refine ⟨_, rfl, _, rfl, hl, chain_le (fun _ q => q) ⟨_, rfl, ?_⟩⟩
  rw [SX.S_len]
  cases h2 : decide ((1 : Int) ≤ ((cl x).drop 1).length) && decide ((((cl x).drop 1).length : Int) ≤ 6)
  · rw [h2] at q
    exact iteT (q H (.refl H))
  rw [h2] at q
  refine iteF ⟨_, rfl, _, rfl, fun D hD => all_in (K := K) (z := six) (i := 2) (by show 2 < 3; decide) hl hD fun H' gr h => ⟨_, _, rfl, SqL.of h, _, rfl, ?_⟩⟩
  rw [signs_all, allIn_S]
  cases h3 : ((cl x).drop 1).all fun c => decide (c ∈ cl six)
  · rw [h3] at q
    exact iteT (q H' gr)
  rw [h3] at q
  refine iteF ⟨_, rfl, rfl, _, rfl, ?_⟩
  have e4 : decide (V.str (SX.S ((cl x).drop 1)) = V.str (.ofString "0")) = decide ((cl x).drop 1 = [48]) := S_dec _ [48]
  rw [e4]
  cases h4 : decide ((cl x).drop 1 = [48])
  · rw [h4] at q
    obtain ⟨d, r, e5⟩ : ∃ d r, (cl x).drop 1 = d :: r := by
      cases e : (cl x).drop 1 with
      | nil => rw [e] at h2; exact absurd h2 (by decide)
      | cons d r => exact ⟨d, r, rfl⟩
    refine iteF ⟨_, rfl, _, 0, d, rfl, rfl, hl, ?_, rfl, ?_⟩
    · rw [e5]
      exact at_0
    · have e6 : decide (V.str ⟨#[d]⟩ = V.str (.ofString "0")) = decide (((cl x).drop 1).head? = some 48) := by
        rw [e5]
        refine (S_dec [d] [48]).trans ?_
        simp
      rw [e6]
      exact q H' gr
  · rw [h4] at q
    exact iteT (q H' gr)

theorem sc_is_grains : FnScope ["thing"] ["thing"] (defScope (top 34)) := ⟨rfl, rfl, rfl, by decide +kernel, rfl, by decide +kernel, by decide +kernel⟩
theorem ok_is_grains (T : Tp w K mg base) : Cl P w K mg base CX0 3 "is_grains" (spZ fun i => decide (1 ≤ i)) := by
  obtain ⟨fd, F⟩ := F_is_grains T
  refine ⟨fd, ["thing"], F.ok sc_is_grains (len1 rfl) (fun cdv A outer s H vs Q E hr h => ?_), G_is_grains T, F.kp, F.bindsN fun _ _ _ _ _ _ us hl => match us, hl with | [_], _ => rfl⟩
  refine ⟨_, PSs.nox (pss_one (ps_ret (pe_and (pe_f (ok_is_whole T) hr (pa_cons (pv 0) pa_nil)) (pe_one (pe_cmpR op_ge (pv 0) pe_int (nomark _)))))), ?_⟩
  obtain ⟨v, rfl, i, rfl, q⟩ := h
  exact ⟨_, rfl, _, rfl, i, rfl, true, rfl, iteT ⟨_, rfl, _, _, rfl, rfl, q⟩⟩

theorem sc_is_day : FnScope ["thing"] ["thing"] (defScope (top 35)) := ⟨rfl, rfl, rfl, by decide +kernel, rfl, by decide +kernel, by decide +kernel⟩
theorem ok_is_day (T : Tp w K mg base) : Cl P w K mg base CX0 3 "is_day" (spZ fun i => decide (0 ≤ i) && decide (i ≤ 1200)) := by
  obtain ⟨fd, F⟩ := F_is_day T
  refine ⟨fd, ["thing"], F.ok sc_is_day (len1 rfl) (fun cdv A outer s H vs Q E hr h => ?_), G_is_day T, F.kp, F.bindsN fun _ _ _ _ _ _ us hl => match us, hl with | [_], _ => rfl⟩
  refine ⟨_, PSs.nox (pss_one (ps_ret (pe_and (pe_f (ok_is_whole T) hr (pa_cons (pv 0) pa_nil)) (pe_one (pe_chain op_le op_le pe_int (pv 0) (C8.pe_gc (by rfl) (C_LAST_DAY T))))))), ?_⟩
  obtain ⟨v, rfl, i, rfl, q⟩ := h
  exact ⟨_, rfl, _, rfl, i, rfl, true, rfl, iteT ⟨_, rfl, chain_le (fun _ q => q) q⟩⟩

end
end CK
set_option maxHeartbeats 0
namespace CK
open PySem PySem.Spec PyProof.Rows L2
section
variable {P : Program} {w : World} {K : PySem.W.Frag} {mg : Str → Option Value} {base : Heap}
def spGcd : Sp := sp2 fun x y H Q _ => ∃ a b : Nat, x = .int (a : Int) ∧ y = .int (b : Int) ∧ Q (.int (Nat.gcd a b : Nat)) H
theorem iteV {p q : Prop} {b : Bool} (h1 : b = true → p) (h2 : b = false → q) : (if b = true then p else q) := by
  cases b
  · rw [if_neg Bool.false_ne_true]; exact h2 rfl
  · rw [if_pos rfl]; exact h1 rfl
theorem dec_v0 {n : Nat} : decide (V.int (n : Int) = V.int 0) = decide (n = 0) := by
  rw [dec_int]
  cases n
  · rfl
  · simp only [Nat.add_one_ne_zero, decide_false]
    exact beq_false_of_ne (by omega)
theorem sc_divisor_of : FnScope ["one", "other"] ["one", "other"] (defScope (top 39)) := ⟨rfl, rfl, rfl, by decide +kernel, rfl, by decide +kernel, by decide +kernel⟩
theorem ok_divisor_of (T : Tp w K mg base) : Cl P w K mg base CX0 1 "divisor_of" spGcd := by
  obtain ⟨fd, F⟩ := F_divisor_of T
  refine ⟨fd, ["one", "other"], F.ok sc_divisor_of (len2 rfl) (fun cdv A outer s H vs Q E hr h => ?_), G_divisor_of T, F.kp, F.bindsN fun _ _ _ _ _ _ us hl => match us, hl with | [_, _], _ => rfl⟩
  refine ⟨_, PSs.nox (pss_cons (ps_while PassesOwn.never (pt_cmpR op_ne (pv 1) pe_int (nomark _)) (pss_one (ps_par (i := 0) (j := 1) (by rfl) sc_divisor_of.nd rfl rfl (by decide) rfl rfl (pa_cons (pv 1) (pa_cons (pe_op op_mod (pv 0) (pv 1)) pa_nil)) (by rfl))))
  (pss_one (ps_ret (pv 0)))), ?_⟩
  obtain ⟨v, v2, rfl, a, b, rfl, rfl, q⟩ := h
  refine ⟨fun m σ H' => ∃ x y : Nat, σ = [some (.int x), some (.int y)] ∧ H' = H ∧ m = y ∧ Nat.gcd x y = Nat.gcd a b, ⟨b, a, b, rfl, rfl, rfl, rfl⟩, ?_⟩
  rintro m σ H' ⟨x, y, rfl, rfl, rfl, hg⟩
  refine ⟨_, rfl, rfl, _, rfl, ?_⟩
  rw [dec_v0]
  refine iteV (fun hb => ?_) (fun hb => ?_)
  · have hy : m ≠ 0 := by simpa using hb
    refine ⟨fun σ' H'' => ∃ x' y' : Nat, σ' = [some (.int x'), some (.int y')] ∧ H'' = H' ∧ y' < m ∧ Nat.gcd x' y' = Nat.gcd a b, ?_, ?_⟩
    · rintro σ' H'' ⟨x', y', rfl, rfl, hl, hg'⟩
      exact ⟨y', hl, x', y', rfl, rfl, rfl, hg'⟩
    · refine ⟨_, rfl, _, rfl, _, rfl, _, _, rfl, rfl, by show (0 : Int) < m; omega, _, _, rfl, m, x % m, rfl, rfl, Nat.mod_lt _ (by omega), ?_⟩
      rw [← hg, Nat.gcd_comm m, ← Nat.gcd_rec, Nat.gcd_comm]
  · have hy : m = 0 := by simpa using hb
    subst hy
    exact ⟨_, rfl, by rw [← hg, Nat.gcd_zero_right] at q; exact q⟩

/-- only the object at a has changed -/
def Only (a : Addr) (H H' : Hp) : Prop := ∀ c, c ≠ a → H' c = H c
/-- Weight.__init__: of two whole numbers without a common divisor -/
def spWi (K : PySem.W.Frag) : Sp := sp3 fun x y z H Q _ => ∃ (a dx : Addr) (t b : Nat), x = .ref a ∧ y = .int (t : Int) ∧ z = .int (b : Int) ∧ H a = some (.ins (cW K) dx []) ∧ 0 < b ∧ Nat.gcd t b = 1 ∧ ∀ H', H' a = some (.ins (cW K) dx (wF t b)) → Only a H H' → Q .non H'
theorem dec_vpos {n : Nat} (h : 0 < n) : decide (V.int (n : Int) = V.int 0) = false := by
  rw [dec_v0]
  exact decide_eq_false (by omega)
theorem sc_Weight_u_init_u : FnScope ["self", "top", "bottom", "by"] ["self", "top", "bottom"] (defScope (inClass (top 40) 0)) := ⟨rfl, rfl, rfl, by decide +kernel, rfl, by decide +kernel, by decide +kernel⟩
theorem ok_Weight_u_init_u (T : Tp w K mg base) : ∃ fd, FnOk P w K mg base CX0 3 (He.ma K (He.ga K "Weight") "__init__") fd ["self", "top", "bottom"] (spWi K) ∧ (∃ ds, Vals [.int 1] ds ∧ Binds K fd ["self", "top", "bottom"] ds) ∧ (∃ ds, Vals [] ds ∧ Binds K fd ["self", "top", "bottom"] ds) := by
  obtain ⟨fd, F⟩ := F_Weight_u_init_u T
  refine ⟨fd, F.ok sc_Weight_u_init_u (len3 rfl) (fun cdv A outer s H vs Q E hr h => ?_), ⟨F.binds1 2 0 (by simp) rfl (fun T kV doc pm an cdv ct us its h1 h2 => match us, its, h1, h2 with | [_, _], [_], _, _ => ⟨_, rfl, rfl⟩), F.binds1 3 1 (by simp) rfl (fun T kV doc pm an cdv ct us its h1 h2 => match us, its, h1, h2 with | [_, _, _], [_], _, _ => ⟨_, rfl, rfl⟩)⟩⟩
  refine ⟨_, PSs.nox (pss_cons (ps_if (PW.pt (pw_and (pt_val (pe_f (ok_is_whole T) hr (pa_cons (pv 2) pa_nil))) (pw_and1 (pt_cmpR op_eq (pv 2) pe_int (nomark _))))) (pss_one ps_never) pss_nil)
  (pss_cons (ps_if (PW.pt (pw_or (pt_not (pt_val (pe_f (ok_is_whole T) hr (pa_cons (pv 1) pa_nil)))) (pw_or (pt_not (pt_val (pe_f (ok_is_whole T) hr (pa_cons (pv 2) pa_nil)))) (pw_or (pt_cmpR op_lt (pv 1) pe_int (nomark _)) (pw_or1 (pt_cmpR op_lt (pv 2) pe_int (nomark _))))))) (pss_one ps_never) pss_nil)
  (pss_cons (ps_set (i := 3) sc_Weight_u_init_u.nd rfl (Or.inl rfl) (pe_f (ok_divisor_of T) hr (pa_cons (pv 1) (pa_cons (pv 2) pa_nil))))
  (pss_cons (ps_fld (pv 0) (pe_op op_fdiv (pv 1) (pv 3)) rfl)
  (pss_one (ps_fld (pv 0) (pe_op op_fdiv (pv 2) (pv 3)) rfl)))))), ?_⟩
  obtain ⟨v, v2, v3, rfl, a, dx, t, b, rfl, rfl, rfl, ha, hb, hg, q⟩ := h
  refine ⟨_, rfl, _, rfl, _, rfl, true, rfl, iteT ⟨_, rfl, rfl, _, rfl, ?_⟩⟩
  rw [dec_vpos hb]
  refine iteF ⟨_, rfl, _, rfl, _, rfl, true, rfl, iteF ⟨_, rfl, _, rfl, _, rfl, true, rfl, iteF ⟨_, rfl, _, _, rfl, rfl, _, rfl, ?_⟩⟩⟩
  rw [show decide ((t : Int) < 0) = false from decide_eq_false (by omega)]
  refine iteF ⟨_, rfl, _, _, rfl, rfl, _, rfl, ?_⟩
  rw [show decide ((b : Int) < 1) = false from decide_eq_false (by omega)]
  refine iteF ⟨_, rfl, _, rfl, _, _, rfl, t, b, rfl, rfl, ?_⟩
  rw [hg]
  refine ⟨_, rfl, _, rfl, _, _, rfl, rfl, by constructor <;> decide, _, rfl, a, _, dx, _, rfl, ha, K_Weight T, N_Weight_top T, by decide, ?_⟩
  refine ⟨_, rfl, _, rfl, _, _, rfl, rfl, by constructor <;> decide, _, rfl, a, _, dx, _, rfl, upd_same, K_Weight T, N_Weight_bottom T, (by show 1 < 1000; decide), ?_⟩
  refine q _ ?_ ?_
  · rw [upd_same]
    simp only [Int.natCast_one, Int.ediv_one]
    rfl
  · intro c hc
    rw [upd_ne hc, upd_ne hc]

end
end CK
set_option maxHeartbeats 4000000
namespace CK
open PySem PySem.Spec PyProof.Rows L2
section
variable {P : Program} {w : World} {K : PySem.W.Frag} {mg : Str → Option Value} {base : Heap}
/-! ### the further facts -/
theorem xl (T : Tp w K mg base) {i : Nat} {b : Bool} (h : (exL K)[i]? = some b) : b = true := List.all_eq_true.mp T.more b (List.mem_of_getElem? h)
theorem isW_ (T : Tp w K mg base) : C8.InsC K (cW K) :=
  ⟨K_Weight T, He.eqO_ok (xl T (i := 17) rfl), He.eqO_ok (xl T (i := 13) rfl), of_decide_eq_true (xl T (i := 14) rfl), of_decide_eq_true (xl T (i := 18) rfl), of_decide_eq_true (xl T (i := 12) rfl)⟩
abbrev cB (K : PySem.W.Frag) : Addr := He.ga K "Book"
theorem isB_ (T : Tp w K mg base) : C8.InsC K (cB K) :=
  ⟨K_Book T, He.eqO_ok (xl T (i := 15) rfl), He.eqO_ok (xl T (i := 13) rfl), of_decide_eq_true (xl T (i := 14) rfl), of_decide_eq_true (xl T (i := 16) rfl), of_decide_eq_true (xl T (i := 11) rfl)⟩
end
/-- f'..' of parts -/
def tFS (ts : List TE) : TE := fun σ H Q => tJs ts Str.empty σ H fun out H1 => Q (.str out) H1
/-! ### isinstance with an own class -/
def tIsC (C : Addr) (te : TE) : TE := tCB (fun xs H Q => ∃ a dx fs, xs = [.ref a, .ref C] ∧ H a = some (.ins C dx fs) ∧ Q (.bl true) H) (tCons te (tCons (tC (.ref C)) tNil))
theorem pe_isiC {X : Cx} {C : Addr} {e : Expr} {te : TE} {p p2 pos : Pos} {n : Str} (he : PE X e te) (c : C8.InsC X.K C) (hm : X.mg "isinstance" = none) (hm2 : X.mg n = some (.ref C)) (hg : Gl X "isinstance" := by rfl) (hg2 : Gl X n := by rfl)
    (hdb : (n == ("__debug__" : Str)) = false := by decide)
    (h1 : starEach (e :: [.Name n p2]) X.env = (false, eval e X.env) :: starEach [.Name n p2] X.env := by rfl) (h2 : starEach (.Name n p2 :: []) X.env = (false, eval (.Name n p2) X.env) :: starEach [] X.env := by rfl) (hpl : (backTo pos (starEach [.Name n p2] X.env)).any (·.1) = false := by rfl) :
    PE X (.Call (.Name "isinstance" p) [e, .Name n p2] [] pos) (tIsC C te) :=
  pe_callB (C8.call_isC c) hg hm (by decide +kernel) (pa_cons he (pa_cons (pe_glob (pos := p2) hg2 hm2 rfl hdb) pa_nil h2) h1) (by decide) (by decide) h1 hpl
end CK
set_option maxHeartbeats 0
namespace CK
open PySem PySem.Spec PyProof.Rows L2
section
variable {P : Program} {w : World} {K : PySem.W.Frag} {mg : Str → Option Value} {base : Heap}
theorem dec_nat {m n : Nat} : decide (V.int (m : Int) = V.int (n : Int)) = decide (m = n) := by
  by_cases h : m = n
  · rw [h, decide_eq_true rfl, decide_eq_true rfl]
  · rw [decide_eq_false h, decide_eq_false fun z => h (by injection z; omega)]
theorem isW_eq {H : Hp} {a a' : Addr} {t b t' b' : Nat} (h : IsW K H a t b) (h' : IsW K H a' t' b') (e : a = a') : t = t' ∧ b = b' := by
  obtain ⟨dx, h⟩ := h
  obtain ⟨dx', h'⟩ := h'
  rw [e, h'] at h
  injection h with h
  injection h with _ _ h
  unfold wF at h
  simp only [List.cons.injEq, Prod.mk.injEq, V.int.injEq, true_and, and_true] at h
  omega
theorem nlog {n : Nat} (h : n < 10 ^ 12) : (n : Int).natAbs.log2 < 1920 := by
  rw [Int.natAbs_natCast]
  exact Nat.lt_of_lt_of_le (PySem.Flt.log2_lt_of (k := 40) (by decide) (Nat.lt_trans h (by decide))) (by decide)
theorem app_len (x y : Str) : (x ++ y).length = x.length + y.length := by
  rw [← cl_len, cl_app, List.length_append, cl_len, cl_len]
theorem emp_app (x : Str) : Str.empty ++ x = x := by
  apply TL.ext_tl
  rw [TL.tl_append]
  rfl
theorem app_assoc (x y z : Str) : x ++ y ++ z = x ++ (y ++ z) := by
  apply TL.ext_tl
  rw [TL.tl_append, TL.tl_append, TL.tl_append, TL.tl_append, List.append_assoc]
def spEqW (K : PySem.W.Frag) : Sp := sp2 fun x y H Q _ => ∃ a b t n u m, x = .ref a ∧ y = .ref b ∧ IsW K H a t n ∧ IsW K H b u m ∧ Q (.bl (decide (t = u) && decide (n = m))) H
theorem sc_Weight_u_eq_u : FnScope ["self", "other"] ["self", "other"] (defScope (inClass (top 40) 1)) := ⟨rfl, rfl, rfl, by decide +kernel, rfl, by decide +kernel, by decide +kernel⟩
theorem ok_Weight_u_eq_u (T : Tp w K mg base) : ∃ fd, FnOk P w K mg base CX0 2 (He.ma K (He.ga K "Weight") "__eq__") fd ["self", "other"] (spEqW K) ∧ Binds K fd ["self", "other"] [] := by
  obtain ⟨fd, F⟩ := F_Weight_u_eq_u T
  refine ⟨fd, F.ok sc_Weight_u_eq_u (len2 rfl) (fun cdv A outer s H vs Q E hr h => ?_), F.bindsN fun _ _ _ _ _ _ us hl => match us, hl with | [_, _], _ => rfl⟩
  refine ⟨_, PSs.nox (pss_one (ps_ret (pe_and (pe_isiC (pv 1) (isW_ T) (B_isinstance T) (G_Weight T)) (pe_and (pe_cmpR op_eq (show PE _ _ (tFld K _ _) from pe_fld (pv 0) rfl) (show PE _ _ (tFld K _ _) from pe_fld (pv 1) rfl) (nomark _)) (pe_one (pe_cmpR op_eq (show PE _ _ (tFld K _ _) from pe_fld (pv 0) rfl) (show PE _ _ (tFld K _ _) from pe_fld (pv 1) rfl) (nomark _))))))), ?_⟩
  obtain ⟨v, v2, rfl, a, b, t, n, u, m, rfl, rfl, ⟨dx, ha⟩, ⟨dy, hb⟩, q⟩ := h
  refine ⟨_, rfl, b, dy, _, rfl, hb, true, rfl, iteT ⟨_, rfl, _, _, _, _, _, rfl, ha, K_Weight T, N_Weight_top T, rfl, _, rfl, _, _, _, _, _, rfl, hb, K_Weight T, N_Weight_top T, rfl, rfl, _, rfl, ?_⟩⟩
  rw [dec_nat]
  refine iteV (fun h1 => ?_) (fun h1 => ?_)
  · rw [h1, Bool.true_and, ← dec_nat] at q
    exact ⟨_, rfl, _, _, _, _, _, rfl, ha, K_Weight T, N_Weight_bottom T, rfl, _, rfl, _, _, _, _, _, rfl, hb, K_Weight T, N_Weight_bottom T, rfl, rfl, q⟩
  · rw [h1, Bool.false_and] at q
    exact q

def spNo (K : PySem.W.Frag) : Sp := sp1 fun x H Q _ => ∃ a t n, x = .ref a ∧ IsW K H a t n ∧ Q (.bl (decide (t = 0))) H
theorem sc_Weight_is_nought : FnScope ["self"] ["self"] (defScope (inClass (top 40) 8)) := ⟨rfl, rfl, rfl, by decide +kernel, rfl, by decide +kernel, by decide +kernel⟩
theorem ok_Weight_is_nought (T : Tp w K mg base) : ∃ fd, FnOk P w K mg base CX0 2 (He.ma K (He.ga K "Weight") "is_nought") fd ["self"] (spNo K) ∧ Binds K fd ["self"] [] := by
  obtain ⟨fd, F⟩ := F_Weight_is_nought T
  refine ⟨fd, F.ok sc_Weight_is_nought (len1 rfl) (fun cdv A outer s H vs Q E hr h => ?_), F.bindsN fun _ _ _ _ _ _ us hl => match us, hl with | [_], _ => rfl⟩
  refine ⟨_, PSs.nox (pss_one (ps_ret (pe_cmpR op_eq (show PE _ _ (tFld K _ _) from pe_fld (pv 0) rfl) pe_int (nomark _)))), ?_⟩
  obtain ⟨v, rfl, a, t, n, rfl, ⟨dx, ha⟩, q⟩ := h
  refine ⟨_, rfl, _, _, _, _, _, rfl, ha, K_Weight T, N_Weight_top T, rfl, rfl, ?_⟩
  rw [dec_v0]
  exact q

def spStr (K : PySem.W.Frag) : Sp := sp1 fun x H Q _ => ∃ a t n, x = .ref a ∧ IsW K H a t n ∧ t < 10 ^ 12 ∧ n < 10 ^ 12 ∧ Q (.str (wS t n)) H
theorem sc_Weight_u_str_u : FnScope ["self"] ["self"] (defScope (inClass (top 40) 2)) := ⟨rfl, rfl, rfl, by decide +kernel, rfl, by decide +kernel, by decide +kernel⟩
theorem ok_Weight_u_str_u (T : Tp w K mg base) : ∃ fd, FnOk P w K mg base CX0 2 (He.ma K (He.ga K "Weight") "__str__") fd ["self"] (spStr K) ∧ Binds K fd ["self"] [] := by
  obtain ⟨fd, F⟩ := F_Weight_u_str_u T
  refine ⟨fd, F.ok sc_Weight_u_str_u (len1 rfl) (fun cdv A outer s H vs Q E hr h => ?_), F.bindsN fun _ _ _ _ _ _ us hl => match us, hl with | [_], _ => rfl⟩
  refine ⟨_, PSs.nox (pss_cons (ps_if (pt_cmpR op_eq (show PE _ _ (tFld K _ _) from pe_fld (pv 0) rfl) pe_int (nomark _)) (pss_one (ps_ret (pe_callTy call_str_int (by rfl) (B_str T) (by decide +kernel) (pa_cons (show PE _ _ (tFld K _ _) from pe_fld (pv 0) rfl) pa_nil)))) pss_nil)
  (pss_one (ps_ret (show PE _ _ (tFS _) from pe_joined (PJ.cons (pe_fmt (show PE _ _ (tFld K _ _) from pe_fld (pv 0) rfl)) (PJ.cons pe_str (PJ.cons (pe_fmt (show PE _ _ (tFld K _ _) from pe_fld (pv 0) rfl)) PJ.nil))))))), ?_⟩
  obtain ⟨v, rfl, a, t, n, rfl, ⟨dx, ha⟩, ht, hn, q⟩ := h
  refine ⟨_, rfl, _, _, _, _, _, rfl, ha, K_Weight T, N_Weight_bottom T, rfl, rfl, _, rfl, ?_⟩
  rw [show decide (V.int (n : Int) = .int 1) = decide (n = 1) from dec_nat (n := 1)]
  have hl := wS_len ht hn
  unfold wS at q hl
  refine iteV (fun h1 => ?_) (fun h1 => ?_)
  · rw [if_pos (of_decide_eq_true h1)] at q
    exact ⟨_, rfl, _, _, _, _, _, rfl, ha, K_Weight T, N_Weight_top T, rfl, _, rfl, nlog ht, q⟩
  · rw [if_neg (of_decide_eq_false h1)] at q hl
    rw [app_len, app_len] at hl
    have e1 : (Str.ofString "/").length = 1 := rfl
    refine ⟨_, rfl, _, _, _, _, _, rfl, ha, K_Weight T, N_Weight_top T, rfl, .inr ⟨_, rfl, nlog ht, _, rfl, ?_, _, rfl, ?_, _, rfl, _, _, _, _, _, rfl, ha, K_Weight T, N_Weight_bottom T, rfl, .inr ⟨_, rfl, nlog hn, _, rfl, ?_, ?_⟩⟩⟩
    · show (Str.empty ++ nS t).length ≤ sizeLine
      rw [emp_app]
      exact Nat.le_trans (by omega) (show 25 ≤ sizeLine by decide)
    · show ((Str.empty ++ nS t) ++ Str.ofString "/").length ≤ sizeLine
      rw [emp_app, app_len]
      exact Nat.le_trans (by omega) (show 25 ≤ sizeLine by decide)
    · show ((Str.empty ++ nS t) ++ Str.ofString "/" ++ nS n).length ≤ sizeLine
      rw [emp_app, app_len, app_len]
      exact Nat.le_trans (by omega) (show 25 ≤ sizeLine by decide)
    · show Q (.str ((Str.empty ++ nS t) ++ Str.ofString "/" ++ nS n)) H
      rw [emp_app, app_assoc]
      exact q

/-! ### str(..) -/
section
variable {X : Cx} {CX : CXT} {k : Nat} {f : Addr} {fd : FuncData} {ps : List Str} {sp : Sp} {dvs : List V} {ds : List Value} {E : XK} {A : Around} {pins : List (Addr × Obj)} {σ : L2.St} {H : Hp} {s : Shared} {Q : VK} {us : List Value} {vs : List V}
/-- a def runs somewhere below the body -/
theorem run_at (sb : Sub X k A) (F : FnOk X.prog X.w X.K X.mg X.base CX k f fd ps sp) (hb : Binds X.K fd ps ds) (hd : Vals dvs ds) (hx : Passes CX X E) (I : Inv X pins σ H s) (r : Vals vs us) (h : sp (vs ++ dvs) H Q E) :
    wpAny (model X.prog X.w) A (call (.ref f) us) (EP X pins σ Q) X.xe s := by
  have e0 : Env0 X.prog X.w X.K X.mg X.base A X.stack s H := { I.env0 with frames := by rw [sb.fr]; exact I.env0.frames }
  have r2 : Vals (vs ++ dvs) (us ++ ds) := r.append hd
  have hl : (us ++ ds).length = ps.length := by
    rw [← r2.length]
    exact F.len _ _ _ _ h
  refine wpAny_call (codeAny_mono (F.run A X.stack s H ⟨us, []⟩ (us ++ ds) (vs ++ dvs) Q E sb.room e0 (hb s us I.kIn hl) r2 h) fun z s' hq => ?_)
  match z, hq with
  | .error e, hq => exact hx pins σ H s e s' I hq
  | .ok (.ret u), hq => exact I.after hq
end
@[irreducible] def rStr (K : PySem.W.Frag) : List V → Hp → VK → Prop := fun xs H Q => (∃ n : Nat, xs = [.int (n : Int)] ∧ n < 10 ^ 12 ∧ Q (.str (nS n)) H) ∨ (∃ z, xs = [.str z] ∧ Q (.str z) H) ∨ ∃ a t n, xs = [.ref a] ∧ IsW K H a t n ∧ t < 10 ^ 12 ∧ n < 10 ^ 12 ∧ Q (.str (wS t n)) H
theorem call_strW {X : Cx} (T : Tp X.w X.K X.mg X.base) (hr : Room 4 X.A) : CallR X (.type "str") (rStr X.K) := by
  intro pins s σ H xs us Q I r h
  unfold rStr at h
  rcases h with ⟨n, rfl, hn, q⟩ | ⟨z, rfl, q⟩ | ⟨a, t, n, rfl, ⟨dx, ha⟩, ht, hn, q⟩
  · exact call_str_int pins s σ H _ us Q I r ⟨_, rfl, nlog hn, q⟩
  · exact SkE.call_str_str pins s σ H _ us Q I r ⟨_, rfl, q⟩
  · obtain ⟨u, rfl, e⟩ := vals1 r
    cases e
    obtain ⟨mA, J, _⟩ := ins_get I.hok ha
    obtain ⟨od, J, _⟩ := J.look
    obtain ⟨fd, F, b⟩ := ok_Weight_u_str_u (P := X.prog) T
    have M := M_Weight__ustr_u T
    refine PySem.W.kso_call hr.in1.in1.units0 I.kIn J M.at_ M.fn (thn (run_at (k := 2) (E := E0) ⟨hr.in1.in1, rfl⟩ F b .nil pass0 I (.cons (a := V.ref a) rfl .nil) (Q := fun v H' => v = .str (wS t n) ∧ H' = H) ⟨_, rfl, a, t, n, rfl, ⟨dx, ha⟩, ht, hn, rfl, rfl⟩) ?_)
    rintro u s' ⟨v, H', I', rv, rfl, rfl⟩
    obtain ⟨tk, rfl⟩ := rv
    exact ⟨.str (wS t n), _, I', ⟨tk, rfl⟩, q⟩
end
end CK
set_option maxHeartbeats 4000000
/-! len(set(texts)) of a tuple of unlike texts -/
namespace CK
open PySem PySem.Spec PyProof.Rows
section
variable {prog : Program} {w : World} {A : Around} {R : Result → Shared → Prop} {I : Addr} {fp wr : List Addr} {G : Array GenState → Array GenState → Prop} {n : Nat} {P : Nat → Value → Prop} {St : Nat → Shared → Prop}
theorem take_any {xs : List Str} (hx : xs.Nodup) {i : Nat} (hi : i < xs.length) : ((xs.take i).any (· == xs.getD i Str.empty)) = false ∧ xs.take (i + 1) = xs.take i ++ [xs.getD i Str.empty] := by
  have e : xs.getD i Str.empty = xs[i] := by
    rw [List.getD_eq_getElem?_getD, List.getElem?_eq_getElem hi] <;> rfl
  rw [e]
  refine ⟨?_, by rw [List.take_add_one, List.getElem?_eq_getElem hi] <;> rfl⟩
  rw [List.any_eq_false]
  intro y hy he
  obtain ⟨j, hj, ej⟩ := List.getElem_of_mem hy
  rw [List.length_take] at hj
  rw [List.getElem_take] at ej
  rw [eq_of_beq he] at ej
  exact List.pairwise_iff_getElem.mp hx j i (by omega) hi (by omega) ej
theorem unlike_loop (W : WalksS prog w A.in1 I fp wr G n P St) (S : Addr) (hSf : S ∉ fp) {xs : List Str} (hx : xs.Nodup) (hsz : xs.length = n) (hb : n + 1 < scanBound)
    (hval : ∀ i v, P i v → ∃ t, v = .str (xs.getD i Str.empty) t) :
    ∀ (k i : Nat) (s : Shared), n - i = k → i ≤ n → St i s → s.heap.SetOf (strKind prog w) S (fun y => (xs.take i).any (· == y)) i →
      (∀ s', Moved (S :: wr) G s s' → s'.heap.SetOf (strKind prog w) S (fun y => (xs.take n).any (· == y)) n → R (.ok (.ret .none)) s') →
      codeAny (model prog w) A (.builtin "set.update.loop" ⟨[.ref S, .ref I], []⟩) R s := by
  have hSw : S ∉ wr := fun h => hSf (W.sub _ h)
  have wide : ∀ b ∈ wr, b ∈ S :: wr := fun b h => List.mem_cons_of_mem _ h
  intro k
  induction k with
  | zero =>
    intro i s hk hi hst hS hR
    obtain rfl : i = n := by omega
    refine codeAny_builtin F.entry_set_update_loop ?_
    rw [Around.under_plainId F.plain_set_update_loop _]
    refine wpAny_bind (W.done s _ _ hst fun s' hm => wpAny_pure (hR s' (hm.mono wide) ?_))
    obtain ⟨o, es, ep, t, ho, r⟩ := hS
    exact ⟨o, es, ep, t, hm.heap S _ hSw ho, r⟩
  | succ k ih =>
    intro i s hk hi hst hS hR
    have hlt : i < n := by omega
    refine codeAny_builtin F.entry_set_update_loop ?_
    rw [Around.under_plainId F.plain_set_update_loop _]
    refine wpAny_bind (W.item i s _ _ hlt hst fun v s' hP hst' hm => ?_)
    obtain ⟨t, rfl⟩ := hval i v hP
    have hS' : s'.heap.SetOf (strKind prog w) S (fun y => (xs.take i).any (· == y)) i := by
      obtain ⟨o, es, ep, tb, ho, r⟩ := hS
      exact ⟨o, es, ep, tb, hm.heap S _ hSw ho, r⟩
    refine wpAny_bind (m := holding _ _) (wpAny_holding ?_)
    unfold setAdd
    refine wpAny_holding (wpAny_bind ((strKind prog w).pyHash (k := xs.getD i Str.empty) (strKind_is _ _ _ _) ?_))
    refine wpAny_setAddHashed_of (knd := strKind prog w) (s := { s' with toks := s'.toks + 1 }) (strKind_is _ _ _ _) rfl hS' (by omega) fun h' hsb hS2 => ?_
    obtain ⟨no, tk⟩ := take_any hx (i := i) (by omega)
    have hSi : h'.SetOf (strKind prog w) S (fun y => (xs.take (i + 1)).any (· == y)) (i + 1) := by
      refine SetOf_congr hS2 (fun y => ?_) (by rw [no] <;> rfl)
      rw [tk, List.any_append]
      congr 1
      by_cases e : y = xs.getD i Str.empty
      · rw [e]; simp
      · rw [decide_eq_false e]
        show false = ((xs.getD i Str.empty == y) || false)
        rw [Bool.or_false]
        exact (beq_false_of_ne fun z => e z.symm).symm
    refine wpAny_pure ⟨plainId_quiet F.plain_set_update_loop _, ih (i + 1) _ (by omega) hlt (W.frame _ s' _ _ hst' (Nat.le_succ _) fun b hb o e => ?_) hSi fun s'' hm'' hS'' => ?_⟩
    · rw [hsb.2 b fun h : b = S => hSf (by rw [← h]; exact hb)]; exact e
    · refine hR s'' (Moved.trans W.gtrans ((hm.mono wide).then_heap (Nat.le_succ _) fun b o hb e => ?_) hm'') hS''
      rw [hsb.2 b fun h : b = S => hb (by rw [h]; exact List.mem_cons_self)]; exact e
end
section
variable {prog : Program} {w : World} {A : Around} {E : Value → Shared → Prop} {s : Shared}
def freshSet (led : Bool) : Obj := { cls := .type "set", dict := none, data := .set #[] 0 (.fresh 0 0 led) }
set_option maxHeartbeats 3200000 in
theorem call_unlike {l : Addr} {items : Array Value} {xs : List Str} {Q : Value → Shared → Prop} (hx : xs.Nodup) (hb : xs.length + 1 < scanBound)
    (hh : A.handled = none) (hl : s.heap.IsTuple l items) (hi : StrsAre items.toList xs)
    (h : ∀ (h' : Heap) (tk : Nat) (S : Str → Bool), h'.SetOf (strKind prog w) s.heap.objs.size S xs.length → (∀ b o, b < s.heap.objs.size → s.heap.get? b = some o → h'.get? b = some o) → Q (.ref s.heap.objs.size) { s with heap := h', toks := tk }) :
    wpAny (model prog w) A (call (.type "set") [.ref l]) Q E s := by
  obtain ⟨c, tl, hmro⟩ := PySem.F.called_set.mro
  have a1 := PySem.F.called_set.made
  have a2 := PySem.F.called_set.sub
  have a3 := PySem.F.called_set.notType
  have a4 := PySem.F.called_set.canCreate
  have a5 := PySem.F.typeCall_set_1 (.ref l)
  have hsz : xs.length = items.size := by rw [← StrsAre.len_eq hi, Array.length_toList]
  refine wpAny_call (codeAny_of_tree ?_)
  show wpAny _ _ (callAny (.type "set") _) _ _ _
  refine wpAny_pure ⟨Code.quiet_builtin _ (by decide +kernel), codeAny_builtin F.entry_type_call ?_⟩
  rw [Around.under_plain (weight_type_call_type "set" [.ref l] []) rfl]
  repeat (any_goals (first | assumption | wp_step))
  refine codeAny_mono (code_set_new_1 (.ref l) (E := E) (Q₁ := fun obj s₁ => ∃ led : Bool, obj = .ref s.heap.objs.size ∧ s₁ = { s with heap := s.heap.push (freshSet led) }) fun led => ⟨led, rfl, rfl⟩) fun r s₁ hr => ?_
  match r, hr with
  | .error e, hr => exact hr
  | .ok (.ret obj), hr =>
    obtain ⟨led, rfl, rfl⟩ := hr
    have hS : (s.heap.push (freshSet led)).get? s.heap.objs.size = some (freshSet led) := Heap.get?_push_size _ rfl
    have hT : Shared.TypeIs { s with heap := s.heap.push (freshSet led) } (.ref s.heap.objs.size) "set" := ⟨_, hS, rfl⟩
    have b1 := PySem.F.called_set.init.lookup
    have b2 := PySem.F.called_set.init.bind (.ref s.heap.objs.size)
    repeat (any_goals (first | assumption | wp_step))
    refine codeAny_mono (codeAny_call_builtin (R := wants (fun r s₂ => r = .none ∧ ∃ h' tk, s₂ = { s with heap := h', toks := tk } ∧ h'.SetOf (strKind prog w) s.heap.objs.size (fun y => (xs.take items.size).any (· == y)) items.size ∧
        (∀ b o, b < s.heap.objs.size → s.heap.get? b = some o → h'.get? b = some o)) E) PySem.F.called_set.init.plain PySem.F.entry_set_init (check_set_init_1 hT ?_)) fun r₂ s₂ hr₂ => ?_
    · obtain ⟨⟨ocls, odict, odata, oslots⟩, hol, hcl, nl, hdl⟩ := hl
      simp only at hcl hdl
      subst hcl hdl
      have hol' : (s.heap.push (freshSet led)).get? l = some { cls := .type "tuple", dict := odict, data := .seq items nl, slots := oslots } := Heap.get?_push_of_some _ hol
      have c1 := PySem.F.sub_tuple_set
      have c2 := PySem.F.sub_tuple_frozenset
      have c3 : (Value.type "tuple" == Value.type "dict") = false := by decide
      have hl1 : (s.heap.push (freshSet led)).IsTuple l items := ⟨_, hol', rfl, nl, rfl⟩
      unfold Builtin.«set.__init__» noKeywords Builtin.Frozenset.updateFrom
      generalize hPI : pyIter = PI
      wp_walk
      subst hPI
      refine wpAny_pyIter_tuple hl1 (wpAny_bind (wpAny_runValue ?_))
      have hlS : l < s.heap.objs.size := Heap.lt_size hol
      have h3 : A.in1.in1.in1.handled = none := by simp [hh]
      have hneI : l ≠ (s.heap.push (freshSet led)).objs.size := by
        rw [Heap.size_push]
        exact Nat.ne_of_lt (Nat.lt_succ_of_lt hlS)
      have hSf : s.heap.objs.size ∉ [(s.heap.push (freshSet led)).objs.size, l] := by
        rw [Heap.size_push]
        simp only [List.mem_cons, List.not_mem_nil, or_false, not_or]
        exact ⟨Nat.ne_of_lt (Nat.lt_succ_self _), Nat.ne_of_gt hlS⟩
      refine unlike_loop ((Walks.tuple h3 _ l hneI items).toS) s.heap.objs.size hSf hx hsz (by rw [← hsz]; exact hb) (fun i v hv => SS.strs_at hi i v (by rw [Array.getElem?_toList]; exact hv)) (items.size - 0) 0 _ (by omega) (Nat.zero_le _)
        ⟨⟨_, Heap.get?_push_size _ rfl, rfl, rfl⟩, hl1.push _⟩ ?_ fun s' hm hS' => ?_
      · exact SetOf_congr ((setObjOf_fresh (knd := strKind prog w) led).setOf (Heap.get?_push_of_some _ hS) (by unfold scanBound; omega)) (fun _ => rfl) rfl
      · obtain ⟨h', g', d', tk', os'⟩ := s'
        obtain rfl : g' = s.gens := hm.gens
        obtain rfl : d' = s.drawn := hm.drawn
        obtain rfl : os' = s.os := hm.os
        refine wpAny_pure (wpAny_pure ⟨rfl, h', tk', rfl, hS', fun b o hb e => hm.heap b o ?_ (Heap.get?_push_of_some _ (Heap.get?_push_of_some _ e))⟩)
        rw [Heap.size_push]
        simp only [List.mem_cons, List.not_mem_nil, or_false, not_or]
        exact ⟨Nat.ne_of_lt hb, Nat.ne_of_lt (Nat.lt_succ_of_lt hb)⟩
    · match r₂, hr₂ with
      | .error e, hr₂ => exact hr₂
      | .ok (.ret r), hr₂ =>
        obtain ⟨rfl, h', tk, rfl, hS', hk'⟩ := hr₂
        repeat (any_goals (first | assumption | wp_step))
        exact h _ _ _ (by rw [hsz]; exact hS') hk'
end
open L2
/-- len(set(e)), e a tuple of unlike texts -/
def tLenU (K : PySem.W.Frag) (ta : TE) : TE := fun σ H Q => ta σ H fun x H1 => ∃ l, ∃ xs : List Str, x = .ref l ∧ SqT K H1 l (xs.map V.str) ∧ xs.Nodup ∧ xs.length ≤ 1000 ∧ Q (.int (xs.length : Nat)) H1
theorem pe_lenU {X : Cx} {a : Expr} {ta : TE} {p p2 q pos : Pos} (hc : X.calm = true) (hg : Gl X "len") (hm : X.mg "len" = none) (hg2 : Gl X "set") (hm2 : X.mg "set" = none) (ha : PE X a ta)
    (na : starEach [a] X.env = (false, eval a X.env) :: starEach [] X.env := by rfl) : PE X (.Call (.Name "len" p) [.Call (.Name "set" p2) [a] [] q] [] pos) (tLenU X.K ta) := by
  refine ⟨fun pins s σ H Q I h => ?_⟩
  refine Call_ (ld_blt I hg hm boot_len ?_)
  refine PyProof.Rows.callWith_builtin1 (PyProof.Rows.args_cons ?_ rfl) rfl rfl
  refine Call_ (ld_blt I hg2 hm2 boot_set ?_)
  refine PyProof.Rows.callWith_type1 (PyProof.Rows.args_cons (thn (ha.run pins s σ H _ I h) fun v s1 ⟨x, H1, I1, r1, q1⟩ => PyProof.Rows.args_nil ?_) na) na rfl
  obtain ⟨l, xs, rfl, hq, hx, hl, q1⟩ := q1
  cases r1
  obtain ⟨its, r, pl, hz⟩ := I1.tuple hq
  refine call_unlike hx (by unfold scanBound; omega) (I1.ok.hd hc) pl (by simpa using strsAre_of r) fun h' tk S hS hk => PyProof.Rows.args_nil ?_
  obtain ⟨o, es, ep, t, ho, hex, hd, _, _, _, hf, hn⟩ := hS
  have I2 : Inv X pins σ H1 { s1 with heap := h', toks := tk } := I1.kept fun b o e => hk b o (Heap.lt_size e) e
  exact call_len_set ho hex hd hf (by rw [hn] <;> omega) ⟨.int xs.length, H1, I2.tok _, ⟨_, by rw [hn]⟩, q1⟩
end CK
set_option maxHeartbeats 4000000
namespace CK
open PySem PySem.Spec PyProof.Rows L2
/-! ### deeds -/
inductive Deed where
  | parts (k : Bool) (m : Str) (ps : List (Str × Nat × Nat))
  | burn (m u : Str) (t b : Nat)
  | make (n u : Str) (g : Nat)
  | part (n : Str) (ps : List (Str × Nat))
  | merge (ns : List Str) (f : Str)
  | pay (ns : List Str) (g : Nat) (o : Option Str)
  | fire (ms : List Str)
  | lose (ws : List Str)
  | draw (ws : List Str)
  | send (m : Str) (o : Option Str)
namespace Deed
def word : Deed → Str
  | .parts false .. => .ofString "cask"
  | .parts true .. => .ofString "weigh"
  | .burn .. => .ofString "burn"
  | .make .. => .ofString "make"
  | .part .. => .ofString "part"
  | .merge .. => .ofString "merge"
  | .pay .. => .ofString "pay"
  | .fire .. => .ofString "fire"
  | .lose .. => .ofString "lose"
  | .draw .. => .ofString "draw"
  | .send .. => .ofString "send"
end Deed
abbrev pW (p : Str × Nat × Nat) : D := .t [.s p.1, .w p.2.1 p.2.2]
abbrev pI (p : Str × Nat) : D := .t [.s p.1, .i p.2]
def optD : Option Str → D
  | none => .n
  | some x => .s x
def optS : Option Str → Str
  | none => .ofString "-"
  | some x => x
namespace Deed
def rest : Deed → List D
  | .parts _ m ps => [.s m, .t (ps.map pW)]
  | .burn m u t b => [.s m, .s u, .w t b]
  | .make n u g => [.s n, .s u, .i g]
  | .part n ps => [.s n, .t (ps.map pI)]
  | .merge ns f => [.t (ns.map .s), .s f]
  | .pay ns g o => [.t (ns.map .s), .i g, optD o]
  | .fire ms => [.t (ms.map .s)]
  | .lose ws => ws.map .s
  | .draw ws => ws.map .s
  | .send m o => [.s m, optD o]
def d (e : Deed) : D := .t (.s e.word :: e.rest)
/-- its words behind the first -/
def body : Deed → List Str
  | .parts _ m ps => m :: ps.flatMap fun p => [p.1, wS p.2.1 p.2.2]
  | .burn m u t b => [m, u, wS t b]
  | .make n u g => [n, u, nS g]
  | .part n ps => n :: ps.flatMap fun p => [p.1, nS p.2]
  | .merge ns f => f :: ns
  | .pay ns g o => nS g :: optS o :: ns
  | .fire ms => ms
  | .lose ws => ws
  | .draw ws => ws
  | .send m o => [m, optS o]
/-- as the law writes it: a pair in one text -/
def row : Deed → List Str
  | .parts k m ps => (Deed.parts k m ps).word :: m :: ps.map fun p => p.1 ++ .ofString " " ++ wS p.2.1 p.2.2
  | .part n ps => .ofString "part" :: n :: ps.map fun p => p.1 ++ .ofString " " ++ nS p.2
  | e => e.word :: e.body
end Deed
/-! ### what is good -/
def okW (t b : Nat) : Prop := 0 < t ∧ t < 10 ^ 12 ∧ 0 < b ∧ b < 10 ^ 12 ∧ Nat.gcd t b = 1
def okG (g : Nat) : Prop := 0 < g ∧ g < 10 ^ 12
def okNs (least : Nat) (ns : List Str) : Prop := least ≤ ns.length ∧ ns.length ≤ 100 ∧ (∀ n ∈ ns, isNm n = true) ∧ ns.Nodup
def okMs (ns : List Str) : Prop := 1 ≤ ns.length ∧ ns.length ≤ 100 ∧ (∀ n ∈ ns, isMk n = true) ∧ ns.Nodup
def okO : Option Str → Prop
  | none => True
  | some x => isNm x = true
/-- names one above the other -/
def up : List Str → Prop := List.Pairwise fun x y => cl x < cl y
namespace Deed
def Good : Deed → Prop
  | .parts _ m ps => isMk m = true ∧ ps.length ≤ 4 ∧ (∀ p ∈ ps, isNm p.1 = true ∧ okW p.2.1 p.2.2) ∧ up (ps.map (·.1))
  | .burn m u t b => isMk m = true ∧ isNm u = true ∧ okW t b
  | .make n u g => isNm n = true ∧ isNm u = true ∧ okG g
  | .part n ps => isNm n = true ∧ okNs 2 (ps.map (·.1)) ∧ ∀ p ∈ ps, okG p.2
  | .merge ns f => okNs 2 ns ∧ isNm f = true
  | .pay ns g o => okNs 1 ns ∧ okG g ∧ okO o
  | .fire ms => okMs ms
  | .lose ws => ws.length = 2 ∧ ∀ x ∈ ws, isNm x = true
  | .draw ws => ws.length = 1 ∧ ∀ x ∈ ws, isNm x = true
  | .send m o => isMk m = true ∧ okO o
/-- texts of a size, one of them no name -/
def Odd (f : Str → Bool) (ns : List Str) : Prop := ns.length ≤ 1000 ∧ (∀ n ∈ ns, n.length ≤ sizeLine) ∧ ∃ n ∈ ns, f n = false
def Bad : Deed → Prop
  | .merge ns _ => Odd isNm ns
  | .pay ns _ _ => Odd isNm ns
  | .fire ms => Odd isMk ms
  | .lose ws => ws.length ≠ 2 ∧ ws.length ≤ 1000
  | .draw ws => ws.length ≠ 1 ∧ ws.length ≤ 1000
  | _ => False
end Deed
theorem isNm_len {x : Str} (h : isNm x = true) : 1 ≤ x.length ∧ x.length ≤ 8 := by
  unfold isNm at h
  simp only [Bool.and_eq_true, decide_eq_true_eq] at h
  omega
theorem isMk_len {x : Str} (h : isMk x = true) : 2 ≤ x.length ∧ x.length ≤ 7 := by
  unfold isMk figs at h
  simp only [Bool.and_eq_true, decide_eq_true_eq] at h
  obtain ⟨h0, ⟨h1, h2⟩, _⟩ := h
  rw [List.length_drop, cl_len] at h1 h2
  omega
theorem small {n : Nat} (h : n ≤ 1000) : n ≤ sizeLine := Nat.le_trans h (by decide)
end CK
set_option maxHeartbeats 4000000
namespace CK
open PySem PySem.Spec PyProof.Rows L2 RZ
section
variable {K : PySem.W.Frag} {a b p : Addr} {xs ys : List V} {H H' : Hp} {Q : VK}
theorem walk_zipT {n : Nat} (hn : n = min xs.length ys.length) : Walk (ItzT K a b) n (fun H => SqT K H a xs ∧ SqT K H b ys) (YPair (fun i => xs[i]?) (fun i => ys[i]?)) := by
  subst hn
  refine ⟨fun i _ hi q => ?_, fun _ q => ⟨xs, ys, q.1, q.2, by omega⟩, fun i H v H' _ q y => ?_⟩
  · have h1 : i < xs.length := by omega
    have h2 : i < ys.length := by omega
    exact ⟨xs, ys, xs[i], ys[i], q.1, q.2, List.getElem?_eq_getElem h1, List.getElem?_eq_getElem h2⟩
  · obtain ⟨T, x, z, h1, h2, h3, h4, h5⟩ := y
    exact ⟨T, x, z, h1, h2, h3, h4 xs q.1, h5 ys q.2⟩
/-! ### slices of tuples -/
theorem cut_from (n : Nat) : cutV xs (some (n : Int)) none = xs.drop n := by
  unfold cutV
  rw [HT.sIx_none, HT.sIx_nat]
  by_cases h : n ≤ xs.length
  · rw [Nat.min_eq_left h]
    exact List.take_of_length_le (by rw [List.length_drop] <;> omega)
  · rw [Nat.min_eq_right (by omega), List.drop_length, List.drop_eq_nil_of_le (by omega)]
    simp
theorem cut_last : cutV xs none (some (-1)) = xs.dropLast := by
  unfold cutV
  rw [HT.sIx_none]
  have e : HT.sIx xs.length xs.length (some (-1)) = xs.length - 1 := by
    show (if (-1 : Int) < 0 then ((-1 : Int) + (xs.length : Int)).toNat else min (-1 : Int).toNat xs.length) = xs.length - 1
    rw [if_pos (by decide)]
    omega
  rw [e, List.drop_zero, Nat.sub_zero, List.dropLast_eq_take]
/-- a slice of a tuple: a tuple of the items, here or new -/
theorem sl_A {a : Addr} {lo hi : Option Int} (h : SqT K H a xs) (q : ∀ H' b, Gr K H H' → SqT K H' b (cutV xs lo hi) → Q (.ref b) H') : rSlA K (.ref a) lo hi H Q := by
  refine ⟨a, xs, rfl, h, fun e => q H a (.refl H) ?_, fun _ p hp => q _ p (.new hp) (.inl (.inl upd_same))⟩
  unfold cutV
  rw [e.1, e.2, List.drop_zero, Nat.sub_zero, List.take_length]
  exact h
end
/-- slices of tuples, told by growth -/
def rSlG (K : PySem.W.Frag) : V → Option Int → Option Int → Hp → VK → Prop := fun x lo hi H Q => ∃ a xs, x = .ref a ∧ SqT K H a xs ∧ ∀ H' b, Gr K H H' → SqT K H' b (cutV xs lo hi) → Q (.ref b) H'
theorem sl_G {X : Cx} {K : PySem.W.Frag} (h : X.K = K) : SlR X (rSlG K) := by
  intro pins s σ H x v vl vu lo hi sl Q I rx hs pl pu q
  obtain ⟨a, xs, rfl, ha, q⟩ := q
  subst h
  exact sl_tupA pins s σ H _ v vl vu lo hi sl Q I rx hs pl pu (sl_A ha q)
/-! ### comprehensions without tests, told item by item -/
section
variable {K : PySem.W.Frag} {σ : L2.St}
/-- ex: what the steps may change; S i: what holds of the heap behind i steps; R i y: what the i-th item is -/
theorem lc_E {ex : Addr → Prop} {J : It} {n : Nat} {G : Hp → Prop} {Y : Nat → Hp → V → Hp → Prop} (w : Walk J n G Y) {g : TG} {te : TE} {vs : List Nat} {H1 : Hp} {D : Addr} {Qd : Hp → Prop} (S : Nat → Hp → Prop) (R : Nat → V → Hp → Prop)
    (hD : H1 D = none) (hn : n ≤ sizeLine) (hx : ∀ b, ex b → H1 b ≠ none) (h0 : S 0 H1) (hS : ∀ i H o, S i H → S i (upd H D o)) (hG : ∀ i H, i ≤ n → GrE K ex H1 H → S i H → G H)
    (mon : ∀ i y H H', GrE K ex H H' → R i y H → R i y H') (put : ∀ i y H l1 l2, H D = some (.lst l1) → R i y H → R i y (upd H D (.lst l2)))
    (hs : ∀ i x H H' (Q : VK), i < n → GrE K ex H1 H → S i H → Y i H x H' → (∀ y H3, GrE K ex H H3 → S (i + 1) H3 → R i y H3 → Q y H3) → g x (wipe σ vs) H' fun σ2 H2 => wipe σ2 vs = wipe σ vs ∧ te σ2 H2 Q)
    (hd : ∀ H acc, GrE K ex H1 H → S n H → H D = some (.lst acc) → acc.length = n → (∀ i y, acc[i]? = some y → R i y H) → Qd H) :
    ∃ W : Nat → Nat → Hp → Prop, (∃ m, W 0 m (upd H1 D (.lst []))) ∧ ∀ i m H, W i m H →
      (J.stop i H ∧ Qd H) ∨ (J.go i H ∧ ∃ Nx : Hp → Prop, (∀ H', Nx H' → ∃ m', m' < m ∧ W (i + 1) m' H') ∧ ∀ x H', J.yld i H x H' → g x (wipe σ vs) H' fun σ2 H2 => wipe σ2 vs = wipe σ vs ∧ tYes σ2 H2 fun b H3 =>
        if b = true then te σ2 H3 fun y H4 => ∃ acc, H4 D = some (.lst acc) ∧ acc.length < sizeLine ∧ Nx (upd H4 D (.lst (acc ++ [y]))) else Nx H3) := by
  have xD : ¬ ex D := fun z => hx D z hD
  refine lc_it w (fun i H => ∃ acc, acc.length = i ∧ H D = some (.lst acc) ∧ GrE K ex H1 H ∧ S i H ∧ ∀ j y, acc[j]? = some y → R j y H) ⟨[], rfl, upd_same, .new hD, hS _ _ _ h0, fun j y h => by simp at h⟩
    (fun i H hi ⟨acc, _, _, gr, s, _⟩ => hG i H hi gr s) ?_ (fun H ⟨acc, e, hDa, gr, s, r⟩ => hd H acc gr s hDa e r)
  rintro i x H H' hi ⟨acc, e, hDa, gr, s, r⟩ y
  refine hs i x H H' (fun y H4 => ∃ acc, H4 D = some (.lst acc) ∧ acc.length < sizeLine ∧ ∃ acc', acc'.length = i + 1 ∧ upd H4 D (.lst (acc ++ [y])) D = some (.lst acc') ∧ GrE K ex H1 (upd H4 D (.lst (acc ++ [y]))) ∧ S (i + 1) (upd H4 D (.lst (acc ++ [y]))) ∧ ∀ j y', acc'[j]? = some y' → R j y' (upd H4 D (.lst (acc ++ [y])))) hi gr s y ?_
  intro y H3 g3 s3 r3
  have hD3 := g3.lst hDa xD
  refine ⟨acc, hD3, by omega, acc ++ [y], by rw [List.length_append, e] <;> rfl, upd_same, ?_, hS _ _ _ s3, fun j y' hj => ?_⟩
  · have a1 := gr.trans g3
    refine ⟨fun c u hu n x => ?_, fun t => ?_⟩
    · rw [upd_ne (ne_of_none hu hD)]
      exact a1.keep c u hu n x
    · exact (GrE.put (K := K) (ex := fun b => b = D) rfl hD3).tabs (a1.tabs t)
  · by_cases hj' : j < acc.length
    · rw [List.getElem?_append_left hj'] at hj
      exact put _ _ _ _ _ hD3 (mon _ _ _ _ g3 (r j y' hj))
    · have ej : j = acc.length := by
        have := (List.getElem?_eq_some_iff.mp hj).1
        rw [List.length_append] at this
        simp at this
        omega
      rw [ej, List.getElem?_append_right (Nat.le_refl _), Nat.sub_self] at hj
      simp at hj
      rw [← hj, ej, e]
      exact put _ _ _ _ _ hD3 r3
/-- nothing changes -/
theorem lc_R {J : It} {n : Nat} {G : Hp → Prop} {Y : Nat → Hp → V → Hp → Prop} (w : Walk J n G Y) {g : TG} {te : TE} {vs : List Nat} {H1 : Hp} {D : Addr} {Qd : Hp → Prop} (R : Nat → V → Hp → Prop)
    (hD : H1 D = none) (hn : n ≤ sizeLine) (hG : ∀ H, Gr K H1 H → G H) (mon : ∀ i y H H', Std H H' → R i y H → R i y H')
    (hs : ∀ i x H H' (Q : VK), i < n → Gr K H1 H → Y i H x H' → (∀ y H3, Gr K H H3 → R i y H3 → Q y H3) → g x (wipe σ vs) H' fun σ2 H2 => wipe σ2 vs = wipe σ vs ∧ te σ2 H2 Q)
    (hd : ∀ H acc, Gr K H1 H → H D = some (.lst acc) → acc.length = n → (∀ i y, acc[i]? = some y → R i y H) → Qd H) :
    ∃ W : Nat → Nat → Hp → Prop, (∃ m, W 0 m (upd H1 D (.lst []))) ∧ ∀ i m H, W i m H →
      (J.stop i H ∧ Qd H) ∨ (J.go i H ∧ ∃ Nx : Hp → Prop, (∀ H', Nx H' → ∃ m', m' < m ∧ W (i + 1) m' H') ∧ ∀ x H', J.yld i H x H' → g x (wipe σ vs) H' fun σ2 H2 => wipe σ2 vs = wipe σ vs ∧ tYes σ2 H2 fun b H3 =>
        if b = true then te σ2 H3 fun y H4 => ∃ acc, H4 D = some (.lst acc) ∧ acc.length < sizeLine ∧ Nx (upd H4 D (.lst (acc ++ [y]))) else Nx H3) := by
  have gr : ∀ {H H' : Hp}, GrE K (fun _ => False) H H' → Gr K H H' := fun e => e.gr fun _ z => z.elim
  exact lc_E (ex := fun _ => False) w (fun _ _ => True) R hD hn (fun _ z => z.elim) trivial (fun _ _ _ _ => trivial) (fun i H _ g _ => hG H (gr g)) (fun i y H H' g => mon i y H H' (gr g).std) (fun i y H l1 l2 h => mon i y _ _ (Std.putL h))
    (fun i x H H' Q hi g _ y k => hs i x H H' Q hi (gr g) y fun y H3 g3 r => k y H3 (.of g3) trivial r) (fun H acc g _ => hd H acc (gr g))
/-- a list of truths, told by f -/
theorem lc_B {J : It} {n : Nat} {G : Hp → Prop} {Y : Nat → Hp → V → Hp → Prop} (w : Walk J n G Y) {g : TG} {te : TE} {vs : List Nat} {H1 : Hp} {D : Addr} {Qd : Hp → Prop} (f : Nat → Bool)
    (hD : H1 D = none) (hn : n ≤ sizeLine) (hG : ∀ H, Gr K H1 H → G H)
    (hs : ∀ i x H H' (Q : VK), i < n → Gr K H1 H → Y i H x H' → (∀ H3, Gr K H H3 → Q (.bl (f i)) H3) → g x (wipe σ vs) H' fun σ2 H2 => wipe σ2 vs = wipe σ vs ∧ te σ2 H2 Q)
    (hd : ∀ H, Gr K H1 H → H D = some (.lst (((List.range n).map f).map V.bl)) → Qd H) :
    ∃ W : Nat → Nat → Hp → Prop, (∃ m, W 0 m (upd H1 D (.lst []))) ∧ ∀ i m H, W i m H →
      (J.stop i H ∧ Qd H) ∨ (J.go i H ∧ ∃ Nx : Hp → Prop, (∀ H', Nx H' → ∃ m', m' < m ∧ W (i + 1) m' H') ∧ ∀ x H', J.yld i H x H' → g x (wipe σ vs) H' fun σ2 H2 => wipe σ2 vs = wipe σ vs ∧ tYes σ2 H2 fun b H3 =>
        if b = true then te σ2 H3 fun y H4 => ∃ acc, H4 D = some (.lst acc) ∧ acc.length < sizeLine ∧ Nx (upd H4 D (.lst (acc ++ [y]))) else Nx H3) := by
  refine lc_R w (fun i y _ => y = .bl (f i)) hD hn hG (fun _ _ _ _ _ h => h) (fun i x H H' Q hi g y k => hs i x H H' Q hi g y fun H3 g3 => k _ H3 g3 rfl) (fun H acc g hDa e r => hd H g ?_)
  have e2 : acc = ((List.range n).map f).map V.bl := by
    apply List.ext_getElem?
    intro i
    by_cases hi : i < n
    · rw [List.getElem?_eq_getElem (by omega)]
      rw [r i _ (List.getElem?_eq_getElem (by omega))]
      simp [hi]
    · rw [List.getElem?_eq_none (by omega), List.getElem?_eq_none (by simp; omega)]
  rw [← e2]
  exact hDa
/-- a list of known values -/
theorem lc_V {J : It} {n : Nat} {G : Hp → Prop} {Y : Nat → Hp → V → Hp → Prop} (w : Walk J n G Y) {g : TG} {te : TE} {vs : List Nat} {H1 : Hp} {D : Addr} {Qd : Hp → Prop} (ys : List V) (hy : ys.length = n)
    (hD : H1 D = none) (hn : n ≤ sizeLine) (hG : ∀ H, Gr K H1 H → G H)
    (hs : ∀ i x H H' (Q : VK) y, ys[i]? = some y → Gr K H1 H → Y i H x H' → (∀ H3, Gr K H H3 → Q y H3) → g x (wipe σ vs) H' fun σ2 H2 => wipe σ2 vs = wipe σ vs ∧ te σ2 H2 Q)
    (hd : ∀ H, Gr K H1 H → H D = some (.lst ys) → Qd H) :
    ∃ W : Nat → Nat → Hp → Prop, (∃ m, W 0 m (upd H1 D (.lst []))) ∧ ∀ i m H, W i m H →
      (J.stop i H ∧ Qd H) ∨ (J.go i H ∧ ∃ Nx : Hp → Prop, (∀ H', Nx H' → ∃ m', m' < m ∧ W (i + 1) m' H') ∧ ∀ x H', J.yld i H x H' → g x (wipe σ vs) H' fun σ2 H2 => wipe σ2 vs = wipe σ vs ∧ tYes σ2 H2 fun b H3 =>
        if b = true then te σ2 H3 fun y H4 => ∃ acc, H4 D = some (.lst acc) ∧ acc.length < sizeLine ∧ Nx (upd H4 D (.lst (acc ++ [y]))) else Nx H3) := by
  refine lc_R w (fun i y _ => ys[i]? = some y) hD hn hG (fun _ _ _ _ _ h => h) (fun i x H H' Q hi g y k => ?_) (fun H acc g hDa e r => hd H g ?_)
  · have e := List.getElem?_eq_getElem (l := ys) (i := i) (by omega)
    exact hs i x H H' Q _ e g y fun H3 g3 => k _ H3 g3 e
  · have e2 : acc = ys := by
      apply List.ext_getElem?
      intro i
      by_cases hi : i < n
      · rw [List.getElem?_eq_getElem (l := acc) (by omega), r i _ (List.getElem?_eq_getElem (by omega))]
      · rw [List.getElem?_eq_none (by omega), List.getElem?_eq_none (by omega)]
    rw [← e2]
    exact hDa
end
theorem all_range {n : Nat} {f : Nat → Bool} : ((List.range n).map f).all id = true ↔ ∀ i, i < n → f i = true := by simp
theorem all_rangeF {n i : Nat} {f : Nat → Bool} (hi : i < n) (h : f i = false) : ((List.range n).map f).all id = false := by
  rw [List.all_eq_false]
  exact ⟨f i, List.mem_map.mpr ⟨i, List.mem_range.mpr hi, rfl⟩, by rw [h]; decide⟩
/-! ### a call of a slot that holds some def -/
structure HeldC (P : Program) (w : World) (K : PySem.W.Frag) (mg : Str → Option Value) (base : Heap) (CX : CXT) (k : Nat) (f : Addr) (sp : Sp) : Prop where
  ex : ∃ (fd : FuncData) (ps : List Str), FnOk P w K mg base CX k f fd ps sp ∧ PySem.W.keepIn K (.ref f) = true ∧ Binds K fd ps []
theorem Cl.held {P : Program} {w : World} {K : PySem.W.Frag} {mg : Str → Option Value} {base : Heap} {CX : CXT} {k j : Nat} {x : Str} {sp : Sp} (c : Cl P w K mg base CX k x sp) (h : k ≤ j) : HeldC P w K mg base CX j (He.ga K x) sp := by
  obtain ⟨fd, ps, F, hm, kp, b⟩ := c.ex
  exact ⟨fd, ps, F.mono h, kp, b⟩
def tCallH (P : Program) (w : World) (K : PySem.W.Frag) (mg : Str → Option Value) (base : Heap) (CX : CXT) (k i : Nat) (E : XK) (t : TA) : TE := fun σ H Q => ∃ f sp, σ[i]? = some (some (.ref f)) ∧ HeldC P w K mg base CX k f sp ∧ t σ H fun vs H1 => sp vs H1 Q E
section
variable {X : Cx} {CX : CXT} {k i : Nat} {E : XK} {x : Str} {p pos : Pos} {e : Expr} {es : List Expr} {t : TA}
theorem pe_callH (hr : Room k X.A) (hx : Passes CX X E) (ha : PA X (e :: es) t) (hN : X.N[i]? = some x := by rfl) (hv : Vis X.env.scope x := by first | exact Or.inl rfl | exact Or.inr (Or.inl rfl) | exact Or.inr (Or.inr rfl))
    (hdb : (x == ("__debug__" : Str)) = false := by decide) (hcd : (x == ("__classdict__" : Str)) = false := by decide)
    (he : starEach (e :: es) X.env = (false, eval e X.env) :: starEach es X.env := by rfl) (hpl : (backTo pos (starEach es X.env)).any (·.1) = false := by rfl) : PE X (.Call (.Name x p) (e :: es) [] pos) (tCallH X.prog X.w X.K X.mg X.base CX k i E t) := by
  refine ⟨fun pins s σ H Q I h => ?_⟩
  obtain ⟨f, sp, hs, c, ht⟩ := h
  obtain ⟨fd, ps, F, hk, hb⟩ := c.ex
  refine (pe_callL (i := i) (f := f) (sp := sp) (dvs := []) (E := E) F hr hN hv hk hb .nil hx ha hdb hcd he hpl).run pins s σ H Q I ⟨hs, ?_⟩
  simp only [List.append_nil]
  exact ht
end
end CK
set_option maxHeartbeats 0
namespace CK
open PySem PySem.Spec PyProof.Rows L2
section
variable {P : Program} {w : World} {K : PySem.W.Frag} {mg : Str → Option Value} {base : Heap}
theorem nS_head {n : Nat} : ∃ d r, cl (nS n) = d :: r := by
  rw [cl_nS]
  have := TL.numL_ne n
  cases e : TL.numL n with
  | nil => exact absurd e this
  | cons d r => exact ⟨d, r, rfl⟩
/-- number_in: of a number's word -/
def spNum (K : PySem.W.Frag) : Sp := sp1 fun x H Q _ => ∃ n : Nat, x = .str (nS n) ∧ n < 10 ^ 12 ∧ ∀ H', Gr K H H' → Q (.int (n : Int)) H'
theorem S_dec' (x y : Str) : decide (V.str x = V.str y) = decide (x = y) := by
  by_cases h : x = y
  · rw [h, decide_eq_true rfl, decide_eq_true rfl]
  · rw [decide_eq_false h, decide_eq_false fun z => h (V.str.inj z)]
theorem sc_number_in : FnScope ["word", "sign"] ["word"] (defScope (top 42)) := ⟨rfl, rfl, rfl, by decide +kernel, rfl, by decide +kernel, by decide +kernel⟩
theorem ok_number_in (T : Tp w K mg base) : Cl P w K mg base CX0 1 "number_in" (spNum K) := by
  obtain ⟨fd, F⟩ := F_number_in T
  refine ⟨fd, ["word"], F.ok sc_number_in (len1 rfl) (fun cdv A outer s H vs Q E hr h => ?_), G_number_in T, F.kp, F.bindsN fun _ _ _ _ _ _ us hl => match us, hl with | [_], _ => rfl⟩
  refine ⟨_, PSs.nox (pss_cons (ps_if (PW.pt (pw_or (pt_not (pt_chain op_le op_le pe_int (pe_callB call_len_str (by rfl) (B_len T) (by decide +kernel) (pa_cons (pv 0) pa_nil)) (C8.pe_gc (by rfl) (C_MOST_FIGURES T)))) (pw_or1 (pt_not (pt_val (pe_callB (cr_all rfl) (by rfl) (B_all T) (by decide +kernel) (pa_cons (pe_lc (own := [("sign", 1)]) rfl sc_number_in.nd (pi_str (pv 0)) (blkOk_by (own := [("sign", 1)]) (N := ["word", "sign"]) (sc := defScope (top 42)) (by decide +kernel)) (fun _ _ _ _ _ => (pg_name (i := 1) sc_number_in.nd rfl (Or.inl rfl))) (fun _ _ _ _ _ => pts_nil) (fun _ _ _ _ _ => (pe_cmpR op_in_sign (pv 1) (C8.pe_gc (by rfl) (C_FIGURES T)) rfl))) pa_nil))))))) (pss_one ps_never) pss_nil)
  (pss_cons (ps_if (PW.pt (pw_and (pt_cmpR op_eq (pe_ix ix_str (pv 0) pe_int (fun _ _ => rfl)) pe_str (nomark _)) (pw_and1 (pt_cmpR op_ne (pv 0) pe_str (nomark _))))) (pss_one ps_never) pss_nil)
  (pss_one (ps_ret (pe_callTy call_int_str (by rfl) (B_int T) (by decide +kernel) (pa_cons (pv 0) pa_nil)))))), ?_⟩
  obtain ⟨v, rfl, n, rfl, hn, q⟩ := h
  have h1 := nS_pos n
  have h2 := nS_le hn
  have hz : (nS n).length ≤ sizeLine := Nat.le_trans h2 (show 12 ≤ sizeLine by decide)
  obtain ⟨d, r, hd⟩ := nS_head (n := n)
  refine ⟨_, rfl, _, rfl, hz, chain_le (fun _ q => q) ⟨_, rfl, ?_⟩⟩
  rw [show (decide ((1 : Int) ≤ ((nS n).length : Int)) && decide (((nS n).length : Int) ≤ 12)) = true by rw [decide_eq_true (by omega), decide_eq_true (by omega)] <;> rfl]
  refine iteF ⟨_, rfl, _, rfl, fun D hD => all_in (K := K) (i := 1) (by show 1 < 2; decide) hz hD fun H' gr h => ⟨_, _, rfl, SqL.of h, _, rfl, ?_⟩⟩
  rw [signs_all, show allIn (.ofString "0123456789") (nS n) = true from nS_figs n]
  refine iteF ⟨_, rfl, _, 0, d, rfl, rfl, hz, (show atI (cl (nS n)) 0 = some d by rw [hd]; exact at_0), rfl, _, rfl, ?_⟩
  have fin : ∃ v, (L2.start ["word", "sign"] [V.str (nS n)])[0]? = some (some v) ∧ ∃ a m, [v] = [V.str a] ∧ intText? a = some m ∧ a.length ≤ 640 ∧ Q (.int m) H' :=
    ⟨_, rfl, _, _, rfl, int_nS hn, by omega, q H' gr⟩
  rw [show decide (V.str ⟨#[d]⟩ = V.str (.ofString "0")) = decide (d = 48) from (S_dec [d] [48]).trans (by simp)]
  refine iteV (fun h48 => ?_) (fun _ => fin)
  refine ⟨_, rfl, rfl, _, rfl, ?_⟩
  by_cases h0 : n = 0
  · subst h0
    rw [nS_zero, decide_eq_true rfl]
    rw [nS_zero] at fin
    exact iteF fin
  · have e := numL_head n h0
    rw [← cl_nS, hd, of_decide_eq_true h48] at e
    exact absurd rfl e

/-! ### Weight(..) -/
def spW1 (K : PySem.W.Frag) (t b : Nat) (H : Hp) (Q : VK) : Prop := ∀ H' a, Gr K H H' → IsW K H' a t b → Q (.ref a) H'
theorem mak_W1 (T : Tp w K mg base) : C8.Mak P w K mg base 3 "Weight" (cW K) (spWi K) [.int 1] := by
  obtain ⟨fd, F, ⟨ds, d, b⟩, _⟩ := ok_Weight_u_init_u (P := P) T
  exact ⟨_, fd, _, ds, M_Weight T, F, G_Weight T, b, d⟩
theorem mak_W2 (T : Tp w K mg base) : C8.Mak P w K mg base 3 "Weight" (cW K) (spWi K) [] := by
  obtain ⟨fd, F, _, ⟨ds, d, b⟩⟩ := ok_Weight_u_init_u (P := P) T
  exact ⟨_, fd, _, ds, M_Weight T, F, G_Weight T, b, d⟩
/-- what the make asks, from what is wanted of the new weight -/
theorem made_W {H : Hp} {t b : Nat} {Q : VK} {H0 : Hp} (gr : Gr K H0 H) (hb : 0 < b) (hg : Nat.gcd t b = 1) (q : ∀ H' a, Gr K H0 H' → IsW K H' a t b → Q (.ref a) H') :
    ∀ x dx, H x = none → H dx = none → dx ≠ x → (spWi K) (.ref x :: ([V.int t, V.int b])) (upd (upd H dx (.own x)) x (.ins (cW K) dx [])) (fun v H2 => v = .non ∧ Q (.ref x) H2) C8.E0 := by
  intro x dx hx hdx hne
  refine ⟨_, _, _, rfl, x, dx, t, b, rfl, rfl, rfl, upd_same, hb, hg, fun H' e o => ⟨rfl, q H' x ?_ ⟨dx, e⟩⟩⟩
  refine gr.trans ⟨fun c u hu n => ?_, fun ht => ?_⟩
  · rw [o c (ne_of_none hu hx), upd_ne (ne_of_none hu hx), upd_ne (ne_of_none hu hdx)]
    exact hu
  · refine ht.ext fun c u hu => ?_
    rw [o c (ne_of_none hu hx), upd_ne (ne_of_none hu hx), upd_ne (ne_of_none hu hdx)]
    exact hu
/-- read_weight: of a weight's text -/
def spRW (K : PySem.W.Frag) : Sp := sp1 fun x H Q _ => ∃ t b : Nat, x = .str (wS t b) ∧ t < 10 ^ 12 ∧ b < 10 ^ 12 ∧ 0 < b ∧ Nat.gcd t b = 1 ∧ ∀ H' a, Gr K H H' → IsW K H' a t b → Q (.ref a) H'
theorem sc_read_weight : FnScope ["text", "words", "top", "bottom"] ["text"] (defScope (top 43)) := ⟨rfl, rfl, rfl, by decide +kernel, rfl, by decide +kernel, by decide +kernel⟩
theorem ok_read_weight (T : Tp w K mg base) : Cl P w K mg base CX0 5 "read_weight" (spRW K) := by
  obtain ⟨fd, F⟩ := F_read_weight T
  refine ⟨fd, ["text"], F.ok sc_read_weight (len1 rfl) (fun cdv A outer s H vs Q E hr h => ?_), G_read_weight T, F.kp, F.bindsN fun _ _ _ _ _ _ us hl => match us, hl with | [_], _ => rfl⟩
  refine ⟨_, PSs.nox (pss_cons (ps_if (pt_not (pt_val (pe_isi (T := "str") (pv 0) (B_isinstance T) (B_str T)))) (pss_one ps_never) pss_nil)
  (pss_cons (ps_set (i := 1) sc_read_weight.nd rfl (Or.inl rfl) (pe_split (pv 0) pe_str))
  (pss_cons (ps_if (pt_cmpR op_eq (pe_callB call_len_seq (by rfl) (B_len T) (by decide +kernel) (pa_cons (pv 1) pa_nil)) pe_int (nomark _)) (pss_one (ps_ret (C8.pe_mk (mak_W1 T) hr (by decide) rfl (pa_cons (pe_f (ok_number_in T) hr (pa_cons (pv 0) pa_nil)) pa_nil)))) pss_nil)
  (pss_cons (ps_par (i := 2) (j := 3) (by rfl) sc_read_weight.nd rfl rfl (by decide) rfl rfl (pa_cons (pe_f (ok_number_in T) hr (pa_cons (pe_ix (show IxR _ (rIxL K) from ix_list) (pv 1) pe_int (fun _ _ => rfl)) pa_nil)) (pa_cons (pe_f (ok_number_in T) hr (pa_cons (pe_ix (show IxR _ (rIxL K) from ix_list) (pv 1) pe_int (fun _ _ => rfl)) pa_nil)) pa_nil)) (by rfl))
  (pss_cons (ps_if (PW.pt (pw_or (pt_cmpR op_gt (pe_callB call_len_seq (by rfl) (B_len T) (by decide +kernel) (pa_cons (pv 1) pa_nil)) pe_int (nomark _)) (pw_or (pt_cmpR op_lt (pv 3) pe_int (nomark _)) (pw_or1 (pt_cmpR op_gt (pe_f (ok_divisor_of T) hr (pa_cons (pv 2) (pa_cons (pv 3) pa_nil))) pe_int (nomark _)))))) (pss_one ps_never) pss_nil)
  (pss_one (ps_ret (C8.pe_mk (mak_W2 T) hr (by decide) rfl (pa_cons (pv 2) (pa_cons (pv 3) pa_nil)))))))))), ?_⟩
  obtain ⟨v, rfl, t, b, rfl, ht, hb, hb0, hg, q⟩ := h
  have hz : (wS t b).length ≤ sizeLine := Nat.le_trans (wS_len ht hb) (show 25 ≤ sizeLine by decide)
  have hz2 : (wS t b).length + 2 ≤ sizeLine := Nat.le_trans (Nat.add_le_add_right (wS_len ht hb) 2) (show 27 ≤ sizeLine by decide)
  refine ⟨_, rfl, _, _, _, _, _, rfl, .ty _, .base (.str _), kit_str, true, rfl, iteF ⟨_, rfl, ⟨_, rfl⟩, _, _, rfl, rfl, rfl, hz2, fun p hp => ?_⟩⟩
  rw [split_wS]
  refine ⟨_, rfl, p, _, rfl, .inl (SqL.of upd_same), rfl, _, rfl, ?_⟩
  have gr : Gr K H (upd H p (.lst ((if b = 1 then [nS t] else [nS t, nS b]).map V.str))) := .new hp
  by_cases h1 : b = 1
  · subst h1
    simp only [if_true] at gr ⊢
    refine iteT ⟨_, rfl, _, rfl, t, by unfold wS; rw [if_pos rfl], ht, fun H' g => ?_⟩
    exact made_W (gr.trans g) hb0 hg q
  · simp only [if_neg h1] at gr ⊢
    refine iteF ⟨_, rfl, p, _, 0, _, rfl, rfl, SqL.of upd_same, at_0, _, rfl, t, rfl, ht, fun H1 g1 => ?_⟩
    refine ⟨_, rfl, p, _, 1, _, rfl, rfl, g1.sqL (SqL.of upd_same), at_1, _, rfl, b, rfl, hb, fun H2 g2 => ⟨_, _, rfl, ?_⟩⟩
    have g12 := gr.trans (g1.trans g2)
    refine ⟨_, rfl, p, _, rfl, .inl (g2.sqL (g1.sqL (SqL.of upd_same))), _, _, rfl, rfl, _, rfl, ?_⟩
    refine iteF ⟨_, rfl, _, _, rfl, rfl, _, rfl, ?_⟩
    rw [show decide ((b : Int) < 2) = false from decide_eq_false (by omega)]
    refine iteF ⟨_, rfl, _, rfl, _, _, rfl, t, b, rfl, rfl, ?_⟩
    rw [hg]
    refine ⟨_, _, rfl, rfl, _, rfl, ?_⟩
    refine iteF ⟨_, rfl, _, rfl, ?_⟩
    exact made_W g12 hb0 hg q

end
end CK
set_option maxHeartbeats 0
namespace CK
open PySem PySem.Spec PyProof.Rows L2
section
variable {P : Program} {w : World} {K : PySem.W.Frag} {mg : Str → Option Value} {base : Heap}
theorem met_is_nought (T : Tp w K mg base) : C8.Met P w K mg base 2 (cW K) "is_nought" (spNo K) [] := by
  obtain ⟨fd, F, b⟩ := ok_Weight_is_nought (P := P) T
  exact ⟨_, fd, _, [], K_Weight T, M_Weight_is_nought T, F, b, .nil⟩
def okP (p : Str × Nat × Nat) : Prop := isNm p.1 = true ∧ okW p.2.1 p.2.2
def spPart (K : PySem.W.Frag) : Sp := sp1 fun x H Q _ => ∃ p, Rep K H (pW p) x ∧ okP p ∧ ∀ H', Gr K H H' → Q (.bl true) H'
theorem rep2 {H : Hp} {d e : D} {x : V} (h : Rep K H (.t [d, e]) x) : ∃ a y z, x = .ref a ∧ SqT K H a [y, z] ∧ Rep K H d y ∧ Rep K H e z := by
  obtain ⟨a, xs, rfl, hs, y, r, rfl, h1, z, r2, rfl, h2, rfl⟩ := h
  exact ⟨a, y, z, rfl, hs, h1, h2⟩
theorem sc_is_part : FnScope ["thing"] ["thing"] (defScope (top 46)) := ⟨rfl, rfl, rfl, by decide +kernel, rfl, by decide +kernel, by decide +kernel⟩
theorem ok_is_part (T : Tp w K mg base) : Cl P w K mg base CX0 3 "is_part" (spPart K) := by
  obtain ⟨fd, F⟩ := F_is_part T
  refine ⟨fd, ["thing"], F.ok sc_is_part (len1 rfl) (fun cdv A outer s H vs Q E hr h => ?_), G_is_part T, F.kp, F.bindsN fun _ _ _ _ _ _ us hl => match us, hl with | [_], _ => rfl⟩
  refine ⟨_, PSs.nox (pss_cons (ps_if (PW.pt (pw_or (pt_not (pt_val (pe_isi (T := "tuple") (pv 0) (B_isinstance T) (B_tuple T)))) (pw_or (pt_cmpR op_ne (pe_callB call_len_seq (by rfl) (B_len T) (by decide +kernel) (pa_cons (pv 0) pa_nil)) pe_int (nomark _)) (pw_or1 (pt_not (pt_val (pe_f (ok_is_name T) hr (pa_cons (pe_ix (show IxR _ (rIxT K) from ix_tup) (pv 0) pe_int (fun _ _ => rfl)) pa_nil)))))))) (pss_one (ps_ret pe_bl)) pss_nil)
  (pss_one (ps_ret (pe_and (pe_isiC (pe_ix (show IxR _ (rIxT K) from ix_tup) (pv 0) pe_int (fun _ _ => rfl)) (isW_ T) (B_isinstance T) (G_Weight T)) (pe_one (pe_not (C8.pe_mt0 (met_is_nought T) hr (by decide) (pe_ix (show IxR _ (rIxT K) from ix_tup) (pv 0) pe_int (fun _ _ => rfl))))))))), ?_⟩
  obtain ⟨v, rfl, ⟨nm, t, n⟩, h, ⟨hnm, hw⟩, q⟩ := h
  obtain ⟨a, y, z, rfl, hs, h1, b, hz, hb⟩ := rep2 h
  obtain rfl : y = .str nm := h1
  subst hz
  refine ⟨_, rfl, _, _, _, _, _, rfl, .ty _, ty_tup hs, kit_tup, true, rfl, iteF ⟨_, rfl, a, _, rfl, .inr hs, rfl, _, rfl, iteF ⟨_, rfl, a, _, 0, _, rfl, rfl, hs, at_0, _, rfl, nm, rfl, small (Nat.le_trans (isNm_len hnm).2 (by decide)), fun H' gr => ⟨isNm nm, rfl, ?_⟩⟩⟩⟩
  rw [hnm]
  have hb' := gr.std.isW hb
  obtain ⟨dx, hb2⟩ := id hb'
  refine iteF ⟨_, rfl, a, _, 1, _, rfl, rfl, gr.sqT hs, at_1, b, dx, _, rfl, hb2, true, rfl, iteT ⟨_, rfl, a, _, 1, _, rfl, rfl, gr.sqT hs, at_1, b, dx, _, rfl, hb2, rfl, _, rfl, b, t, n, rfl, hb', _, rfl, ?_⟩⟩
  rw [show decide (t = 0) = false from decide_eq_false (Nat.pos_iff_ne_zero.mp hw.1)]
  exact q H' gr

theorem rep2at {H : Hp} {ps : List (Str × Nat × Nat)} {xs : List V} {i : Nat} {p : Str × Nat × Nat} (h : RepL K H (ps.map pW) xs) (hp : ps[i]? = some p) : ∃ x, xs[i]? = some x ∧ ∃ a y z, x = .ref a ∧ SqT K H a [y, z] ∧ y = .str p.1 ∧ Rep K H (.w p.2.1 p.2.2) z := by
  obtain ⟨x, e1, hrep⟩ := h.at (i := i) (d := pW p) (by rw [List.getElem?_map, hp] <;> rfl)
  obtain ⟨a, y, z, h1, h2, h3, h4⟩ := rep2 hrep
  exact ⟨x, e1, a, y, z, h1, h2, h3, h4⟩
def okPs (ps : List (Str × Nat × Nat)) : Prop := ps.length ≤ 4 ∧ (∀ p ∈ ps, okP p) ∧ up (ps.map (·.1))
def spParts (K : PySem.W.Frag) : Sp := sp1 fun x H Q _ => ∃ ps, Rep K H (.t (ps.map pW)) x ∧ okPs ps ∧ ∀ H', Gr K H H' → Q (.bl true) H'
theorem up_at {xs : List Str} (h : up xs) {i : Nat} {x y : Str} (h1 : xs[i]? = some x) (h2 : xs[i + 1]? = some y) : cl x < cl y := by
  obtain ⟨l1, e1⟩ := List.getElem?_eq_some_iff.mp h1
  obtain ⟨l2, e2⟩ := List.getElem?_eq_some_iff.mp h2
  rw [← e1, ← e2]
  exact List.pairwise_iff_getElem.mp h i (i + 1) l1 l2 (by omega)
theorem range_true {n : Nat} {f : Nat → Bool} (h : ∀ i, i < n → f i = true) : ((List.range n).map f).all id = true := all_range.mpr h
theorem sc_is_parts : FnScope ["thing", "one", "other"] ["thing"] (defScope (top 47)) := ⟨rfl, rfl, rfl, by decide +kernel, rfl, by decide +kernel, by decide +kernel⟩
theorem ok_is_parts (T : Tp w K mg base) : Cl P w K mg base CX0 4 "is_parts" (spParts K) := by
  obtain ⟨fd, F⟩ := F_is_parts T
  refine ⟨fd, ["thing"], F.ok sc_is_parts (len1 rfl) (fun cdv A outer s H vs Q E hr h => ?_), G_is_parts T, F.kp, F.bindsN fun _ _ _ _ _ _ us hl => match us, hl with | [_], _ => rfl⟩
  refine ⟨_, PSs.nox (pss_cons (ps_if (PW.pt (pw_or (pt_not (pt_val (pe_isi (T := "tuple") (pv 0) (B_isinstance T) (B_tuple T)))) (pw_or (pt_cmpR op_gt (pe_callB call_len_seq (by rfl) (B_len T) (by decide +kernel) (pa_cons (pv 0) pa_nil)) (C8.pe_gc (by rfl) (C_MOST_PARTS T)) (nomark _)) (pw_or1 (pt_not (pt_val (pe_callB (cr_all rfl) (by rfl) (B_all T) (by decide +kernel) (pa_cons (pe_lc (own := [("one", 1)]) rfl sc_is_parts.nd (pi_tup (pv 0)) (blkOk_by (own := [("one", 1)]) (N := ["thing", "one", "other"]) (sc := defScope (top 47)) (by decide +kernel)) (fun _ _ _ _ _ => (pg_name (i := 1) sc_is_parts.nd rfl (Or.inl rfl))) (fun _ _ _ _ _ => pts_nil) (fun _ _ _ _ _ => (pe_f (ok_is_part T) hr (pa_cons (pv 1) pa_nil)))) pa_nil)))))))) (pss_one (ps_ret pe_bl)) pss_nil)
  (pss_one (ps_ret (pe_callB (cr_all rfl) (by rfl) (B_all T) (by decide +kernel) (pa_cons (pe_lc (own := [("one", 1), ("other", 2)]) rfl sc_is_parts.nd (RZ.pi_zipA (by rfl) (B_zip T) (pa_cons (pe_slice (sl_G (K := K) rfl) (pv 0) po_none (po_some (pe_un un_neg pe_int))) (pa_cons (pe_slice (sl_G (K := K) rfl) (pv 0) (po_some pe_int) po_none) pa_nil))) (blkOk_by (own := [("one", 1), ("other", 2)]) (N := ["thing", "one", "other"]) (sc := defScope (top 47)) (by decide +kernel)) (fun _ _ _ _ _ => (show PG _ _ (gTup K 2 _) from pg_tup rfl (pgs_cons (pg_name (i := 1) sc_is_parts.nd rfl (Or.inl rfl)) (pgs_cons (pg_name (i := 2) sc_is_parts.nd rfl (Or.inl rfl)) pgs_nil)))) (fun _ _ _ _ _ => pts_nil) (fun _ _ _ _ _ => (pe_cmpR op_lt_str (pe_ix (show IxR _ (rIxT K) from ix_tup) (pv 1) pe_int (fun _ _ => rfl)) (pe_ix (show IxR _ (rIxT K) from ix_tup) (pv 2) pe_int (fun _ _ => rfl)) (nomark _)))) pa_nil))))), ?_⟩
  obtain ⟨v, rfl, ps, ⟨a, xs, rfl, hs, hr2⟩, ⟨hlen, hok, hup⟩, q⟩ := h
  have hl : xs.length = ps.length := by rw [hr2.len, List.length_map]
  refine ⟨_, rfl, _, _, _, _, _, rfl, .ty _, ty_tup hs, kit_tup, true, rfl, iteF ⟨_, rfl, a, _, rfl, .inr hs, _, _, rfl, rfl, _, rfl, ?_⟩⟩
  rw [show decide ((4 : Int) < (xs.length : Int)) = false from decide_eq_false (by omega)]
  have sz : ps.length ≤ sizeLine := small (by omega)
  refine iteF ⟨_, rfl, a, rfl, ⟨_, hs⟩, fun D hD => lc_B (K := K) (walk_tup (K := K) (a := a) (xs := xs)) (fun _ => true) hD (by rw [hl]; exact sz) (fun H g => g.sqT hs) ?_ fun H1 g1 h1 => ⟨_, _, rfl, SqL.of h1, _, rfl, ?_⟩⟩
  · rintro i x H1 _ Q' hi gr ⟨rfl, hx⟩ k
    obtain ⟨p, hp⟩ : ∃ p, ps[i]? = some p := ⟨ps[i], List.getElem?_eq_getElem (by omega)⟩
    obtain ⟨x', e1, hrep⟩ := hr2.at (i := i) (d := pW p) (by rw [List.getElem?_map, hp] <;> rfl)
    rw [hx] at e1
    cases e1
    exact ⟨rfl, _, rfl, _, rfl, p, hrep.std' gr.std, hok p (List.mem_of_getElem? hp), fun H3 g3 => k H3 g3⟩
  rw [range_true fun _ _ => rfl]
  refine iteF ⟨_, rfl, _, rfl, _, rfl, a, xs, rfl, g1.sqT hs, fun H2 b g2 hb => ⟨_, rfl, _, rfl, a, xs, rfl, g2.sqT (g1.sqT hs), fun H3 c g3 hc => ?_⟩⟩
  rw [cut_last] at hb
  have hc' : SqT K H3 c (xs.drop 1) := cut_from (xs := xs) 1 ▸ hc
  have hb' := g3.sqT hb
  have g123 := g1.trans (g2.trans g3)
  refine ⟨b, c, _, _, rfl, .inr ⟨hb', hc', fun D2 hD2 => lc_B (K := K) (walk_zipT (K := K) (n := ps.length - 1) (by rw [List.length_dropLast, List.length_drop, hl]; omega)) (fun _ => true) hD2 (by omega) (fun H g => ⟨g.sqT hb', g.sqT hc'⟩) ?_ fun H4 g4 h4 => ⟨_, _, rfl, SqL.of h4, ?_⟩⟩⟩
  · rintro i x H4 _ Q' hi gr ⟨U, y, z, rfl, hU, rfl, hy, hz⟩ k
    obtain ⟨p, hp⟩ : ∃ p, ps[i]? = some p := ⟨ps[i], List.getElem?_eq_getElem (by omega)⟩
    obtain ⟨p2, hp2⟩ : ∃ p, ps[i + 1]? = some p := ⟨ps[i + 1], List.getElem?_eq_getElem (by omega)⟩
    obtain ⟨y', e1, a1, u1, v1, rfl, hs1, hu1, _⟩ := rep2at hr2 hp
    obtain ⟨z', e2, a2, u2, v2, rfl, hs2, hu2, _⟩ := rep2at hr2 hp2
    have hy : xs.dropLast[i]? = some y := hy
    have hz : (xs.drop 1)[i]? = some z := hz
    rw [List.dropLast_eq_take, List.getElem?_take, if_pos (by omega), e1] at hy
    rw [List.getElem?_drop, Nat.add_comm, e2] at hz
    cases hy
    cases hz
    have gu := (g123.trans gr).trans (Gr.new (o := .tup [.ref a1, .ref a2]) hU)
    refine ⟨U, _, rfl, .inl (.inl upd_same), rfl, .ref a1, _, rfl, .ref a2, _, rfl, rfl, rfl, _, rfl, a1, _, 0, _, rfl, rfl, gu.sqT hs1, at_0, _, rfl, a2, _, 0, _, rfl, rfl, gu.sqT hs2, at_0, p.1, p2.1, hu1, hu2, ?_⟩
    rw [show decide (p.1.cps.toList < p2.1.cps.toList) = true from decide_eq_true (up_at hup (by rw [List.getElem?_map, hp] <;> rfl) (by rw [List.getElem?_map, hp2] <;> rfl))]
    exact k _ (.new hU)
  rw [range_true fun _ _ => rfl]
  exact q _ (g123.trans g4)

end
end CK
set_option maxHeartbeats 4000000
namespace CK
open PySem PySem.SeqAt
open AutoSeq1 (wpAny_loadPart')
open MeetsSeq MeetsSeq2 MeetsSeq3 SeqRoads2
open GQ (FinOf call_here)
section
variable {prog : Program} {w : World} {A : Around} {E : Value → Shared → Prop} {s : Shared}
/-- two tuples, the second one empty -/
theorem rc_tup0 {l b : Addr} {items : Array Value} {Q : Value → Shared → Prop} (hz : items.size ≠ 0) (hu : A.units < cLine) (hl : s.heap.IsTuple l items) (hb : s.heap.IsTuple b #[])
    (h : Q (.bool false) s) : wpAny (model prog w) A (richCompare .Eq (.ref l) (.ref b)) Q E s := by
  obtain ⟨⟨cls, dd, data, sl⟩, ho, hc, n, hd⟩ := id hl
  obtain ⟨⟨cls2, dd2, data2, sl2⟩, ho2, hc2, n2, hd2⟩ := id hb
  simp only at hc hd hc2 hd2
  subst hc hd hc2 hd2
  refine wpAny_richCompare_same_room (op := .Eq) ⟨_, ho, rfl⟩ ⟨_, ho2, rfl⟩ F.slot_tuple_eq (call_here F.slot_tuple_eq ⟨_, ho, rfl⟩ F.entry_tuple_eq (F.args_tuple_eq_2 _ _) ?_) hu
  have f2 := AutoSeq1.sub_tuple_tuple
  have hQ : wants (fun v s' => v ≠ .notImplemented ∧ Q v s') E (.ok (.ret (.bool false))) s := ⟨(fun x => nomatch x), h⟩
  obtain ⟨hp, g, d, tk, os⟩ := s
  wp_walk using wpAny_loadPart' ho, wpAny_loadPart' ho2, wpAny_forIn_list _ (fun rest b s' => b.1 = none ∧ rest = [] ∧ s' = ⟨hp, g, d, tk, os⟩) _
  case turn =>
    rintro ⟨y, x⟩ rest b s' ⟨_, h0, _⟩
    cases h0
  case fin =>
    rintro ⟨b1, b2⟩ s' ⟨hb', _, rfl⟩
    simp only at hb'
    subst hb'
    wp_walk
    show wants (fun v s' => v ≠ .notImplemented ∧ Q v s') E (.ok (.ret (.bool (items.size == 0)))) _
    rw [beq_false_of_ne hz]
    exact hQ
  case h =>
    exact ⟨rfl, by simp, rfl⟩
/-- two lists of unlike lengths -/
theorem rc_listLen {l b : Addr} {items items2 : Array Value} {Q : Value → Shared → Prop} (hz : items.size ≠ items2.size) (hu : A.units < cLine) (hl : s.heap.IsList l items) (hb : s.heap.IsList b items2)
    (h : Q (.bool false) s) : wpAny (model prog w) A (richCompare .Eq (.ref l) (.ref b)) Q E s := by
  obtain ⟨⟨cls, dd, data, sl⟩, ho, hc, n, hd⟩ := id hl
  obtain ⟨⟨cls2, dd2, data2, sl2⟩, ho2, hc2, n2, hd2⟩ := id hb
  simp only at hc hd hc2 hd2
  subst hc hd hc2 hd2
  refine wpAny_richCompare_same_room (op := .Eq) ⟨_, ho, rfl⟩ ⟨_, ho2, rfl⟩ F.slot_list_eq (call_here F.slot_list_eq ⟨_, ho, rfl⟩ F.entry_list_eq (F.args_list_eq_2 _ _) ?_) hu
  have f3 := AutoSeq1.sub_list_list
  have hQ : wants (fun v s' => v ≠ .notImplemented ∧ Q v s') E (.ok (.ret (.bool false))) s := ⟨(fun x => nomatch x), h⟩
  obtain ⟨hp, g, d, tk, os⟩ := s
  have hne : (items.size != items2.size) = true := by simpa using hz
  wp_walk using wpAny_loadPart' ho, wpAny_loadPart' ho2
  exact hQ
end
open PySem.Spec PyProof.Rows L2
section
variable {X : Cx}
/-- t == (), t not empty -/
def rEqT0 (K : PySem.W.Frag) : R2 := fun x y H Q => ∃ a b xs, x = .ref a ∧ y = .ref b ∧ SqT K H a xs ∧ SqT K H b [] ∧ xs ≠ [] ∧ Q (.bl false) H
theorem op_eqT0 (hr : Room 1 X.A) : OpR X (compareOp .Eq) (rEqT0 X.K) := by
  intro pins s σ H x y v u Q I rx ry h
  obtain ⟨a, b, xs, rfl, rfl, ha, hb, hn, q⟩ := h
  cases rx
  cases ry
  obtain ⟨its, r, e, z⟩ := I.tuple ha
  obtain ⟨its2, r2, e2, z2⟩ := I.tuple hb
  cases r2
  refine rc_tup0 ?_ hr.units0 e e2 ⟨.bl false, H, I, rfl, q⟩
  rw [List.size_toArray, ← r.length]
  exact fun z => hn (List.length_eq_zero_iff.mp z)
end
end CK
set_option maxHeartbeats 0
namespace CK
open PySem PySem.Spec PyProof.Rows L2
section
variable {P : Program} {w : World} {K : PySem.W.Frag} {mg : Str → Option Value} {base : Heap}
/-- are_unlike: texts, each judged by g -/
def spUn (P : Program) (w : World) (K : PySem.W.Frag) (mg : Str → Option Value) (base : Heap) : Sp := sp3 fun x y z H Q _ => ∃ (ns : List Str) (m : Nat) (f : Addr) (g : Str → Bool), Rep K H (.t (ns.map D.s)) x ∧ y = .int (m : Int) ∧ z = .ref f ∧ HeldC P w K mg base CX0 2 f (spT K g) ∧
  ns.length ≤ 1000 ∧ (∀ n ∈ ns, n.length ≤ sizeLine) ∧ ((∃ n ∈ ns, g n = false) ∨ ns.Nodup) ∧ ∀ H', Gr K H H' → Q (.bl (decide (m ≤ ns.length) && ns.all g)) H'
theorem range_all {ns : List Str} {g : Str → Bool} : ((List.range ns.length).map fun i => g (ns.getD i Str.empty)).all id = ns.all g := by
  rw [List.all_map]
  rw [Bool.eq_iff_iff, List.all_eq_true, List.all_eq_true]
  constructor
  · intro h n hn
    obtain ⟨i, hi, e⟩ := List.getElem_of_mem hn
    have := h i (List.mem_range.mpr hi)
    simpa [List.getD_eq_getElem?_getD, List.getElem?_eq_getElem hi, e] using this
  · intro h i hi
    have hi := List.mem_range.mp hi
    have := h ns[i] (List.getElem_mem hi)
    simpa [List.getD_eq_getElem?_getD, List.getElem?_eq_getElem hi] using this
theorem sc_are_unlike : FnScope ["thing", "least", "judge", "one"] ["thing", "least", "judge"] (defScope (top 53)) := ⟨rfl, rfl, rfl, by decide +kernel, rfl, by decide +kernel, by decide +kernel⟩
theorem ok_are_unlike (T : Tp w K mg base) : Cl P w K mg base CX0 3 "are_unlike" (spUn P w K mg base) := by
  obtain ⟨fd, F⟩ := F_are_unlike T
  refine ⟨fd, ["thing", "least", "judge"], F.ok sc_are_unlike (len3 rfl) (fun cdv A outer s H vs Q E hr h => ?_), G_are_unlike T, F.kp, F.bindsN fun _ _ _ _ _ _ us hl => match us, hl with | [_, _, _], _ => rfl⟩
  refine ⟨_, PSs.nox (pss_cons (ps_if (PW.pt (pw_or (pt_not (pt_val (pe_isi (T := "tuple") (pv 0) (B_isinstance T) (B_tuple T)))) (pw_or (pt_cmpR op_lt (pe_callB call_len_seq (by rfl) (B_len T) (by decide +kernel) (pa_cons (pv 0) pa_nil)) (pv 1) (nomark _)) (pw_or1 (pt_not (pt_val (pe_callB (cr_all rfl) (by rfl) (B_all T) (by decide +kernel) (pa_cons (pe_lc (own := [("one", 3)]) rfl sc_are_unlike.nd (pi_tup (pv 0)) (blkOk_by (own := [("one", 3)]) (N := ["thing", "least", "judge", "one"]) (sc := defScope (top 53)) (by decide +kernel)) (fun _ _ _ _ _ => (pg_name (i := 3) sc_are_unlike.nd rfl (Or.inl rfl))) (fun _ _ _ _ _ => pts_nil) (fun _ _ _ _ _ => (show PE _ _ (tCallH P w K mg base CX0 2 2 E0 _) from pe_callH hr pass0 (pa_cons (pv 3) pa_nil)))) pa_nil)))))))) (pss_one (ps_ret pe_bl)) pss_nil)
  (pss_one (ps_ret (pe_cmpR op_eq (pe_lenU (by rfl) (by rfl) (B_len T) (by rfl) (B_set T) (pv 0)) (pe_callB call_len_seq (by rfl) (B_len T) (by decide +kernel) (pa_cons (pv 0) pa_nil)) (nomark _))))), ?_⟩
  obtain ⟨v, v2, v3, rfl, ns, m, f, g, ⟨a, xs, rfl, hs, hr2⟩, rfl, rfl, hj, hl, hz, hc, q⟩ := h
  obtain rfl := hr2.strs
  refine ⟨_, rfl, _, _, _, _, _, rfl, .ty _, ty_tup hs, kit_tup, true, rfl, iteF ⟨_, rfl, a, _, rfl, .inr hs, _, rfl, _, _, rfl, rfl, _, rfl, ?_⟩⟩
  rw [List.length_map]
  refine iteV (fun hlt => ?_) (fun hlt => ?_)
  · have hlt := of_decide_eq_true hlt
    rw [show decide (m ≤ ns.length) = false from decide_eq_false (by omega)] at q
    exact q H (.refl H)
  · have hlt := of_decide_eq_false hlt
    rw [show decide (m ≤ ns.length) = true from decide_eq_true (by omega)] at q
    refine ⟨_, rfl, a, rfl, ⟨_, hs⟩, fun D hD => lc_B (K := K) (walk_tup (K := K) (a := a) (xs := ns.map V.str)) (fun i => g (ns.getD i Str.empty)) hD (by rw [List.length_map]; exact small hl) (fun H g => g.sqT hs) ?_ fun H1 g1 h1 => ⟨_, _, rfl, SqL.of h1, _, rfl, ?_⟩⟩
    · rintro i x H1 _ Q' hi gr ⟨rfl, hx⟩ k
      rw [List.length_map] at hi
      rw [List.getElem?_map, List.getElem?_eq_getElem hi] at hx
      cases hx
      have e : ns.getD i Str.empty = ns[i] := by rw [List.getD_eq_getElem?_getD, List.getElem?_eq_getElem hi] <;> rfl
      rw [e] at k
      exact ⟨rfl, f, _, rfl, hj, _, rfl, _, rfl, ns[i], rfl, hz _ (List.getElem_mem hi), fun H3 g3 => k H3 g3⟩
    · rw [List.length_map, range_all]
      refine iteV (fun h => ?_) (fun h => ?_)
      · have h : ns.all g = false := by simpa using h
        rw [h] at q
        exact q H1 g1
      · have h : ns.all g = true := by simpa using h
        have nd : ns.Nodup := by
          rcases hc with ⟨n, hn, hb⟩ | nd
          · rw [List.all_eq_true.mp h n hn] at hb
            cases hb
          · exact nd
        rw [h] at q
        refine ⟨_, rfl, a, ns, rfl, g1.sqT hs, nd, hl, _, rfl, a, _, rfl, .inr (g1.sqT hs), rfl, ?_⟩
        rw [List.length_map, decide_eq_true rfl]
        exact q H1 g1

/-- a name or None -/
def spON (K : PySem.W.Frag) : Sp := sp1 fun x H Q _ => ∃ o : Option Str, Rep K H (optD o) x ∧ okO o ∧ ∀ H', Gr K H H' → Q (.bl true) H'
theorem sc_is_none_or_name : FnScope ["thing"] ["thing"] (defScope (top 54)) := ⟨rfl, rfl, rfl, by decide +kernel, rfl, by decide +kernel, by decide +kernel⟩
theorem ok_is_none_or_name (T : Tp w K mg base) : Cl P w K mg base CX0 3 "is_none_or_name" (spON K) := by
  obtain ⟨fd, F⟩ := F_is_none_or_name T
  refine ⟨fd, ["thing"], F.ok sc_is_none_or_name (len1 rfl) (fun cdv A outer s H vs Q E hr h => ?_), G_is_none_or_name T, F.kp, F.bindsN fun _ _ _ _ _ _ us hl => match us, hl with | [_], _ => rfl⟩
  refine ⟨_, PSs.nox (pss_one (ps_ret (pe_or (pe_cmp (pc_isN (pv 0)) rfl) (pe_one (pe_f (ok_is_name T) hr (pa_cons (pv 0) pa_nil)))))), ?_⟩
  obtain ⟨v, rfl, o, hr2, ho, q⟩ := h
  cases o with
  | none =>
    obtain rfl : v = .non := hr2
    exact ⟨_, rfl, true, rfl, iteT (q H (.refl H))⟩
  | some z =>
    obtain rfl : v = .str z := hr2
    refine ⟨_, rfl, false, rfl, iteF ⟨_, rfl, _, rfl, z, rfl, small (Nat.le_trans (isNm_len ho).2 (by decide)), fun H' gr => ?_⟩⟩
    rw [show isNm z = true from ho]
    exact q H' gr

/-- pieces -/
def spPieces (K : PySem.W.Frag) : Sp := sp1 fun x H Q _ => ∃ ps : List (Str × Nat), Rep K H (.t (ps.map pI)) x ∧ okNs 2 (ps.map (·.1)) ∧ (∀ p ∈ ps, okG p.2) ∧ ∀ H', Gr K H H' → Q (.bl true) H'
theorem sc_are_pieces : FnScope ["thing", "piece"] ["thing"] (defScope (top 55)) := ⟨rfl, rfl, rfl, by decide +kernel, rfl, by decide +kernel, by decide +kernel⟩
theorem ok_are_pieces (T : Tp w K mg base) : Cl P w K mg base CX0 4 "are_pieces" (spPieces K) := by
  obtain ⟨fd, F⟩ := F_are_pieces T
  refine ⟨fd, ["thing"], F.ok sc_are_pieces (len1 rfl) (fun cdv A outer s H vs Q E hr h => ?_), G_are_pieces T, F.kp, F.bindsN fun _ _ _ _ _ _ us hl => match us, hl with | [_], _ => rfl⟩
  refine ⟨_, PSs.nox (pss_cons (ps_if (pt_not (pt_val (pe_isi (T := "tuple") (pv 0) (B_isinstance T) (B_tuple T)))) (pss_one (ps_ret pe_bl)) pss_nil)
  (pss_cons (ps_for PassesOwn.never rfl (pi_tup (pv 0)) (pg_name (i := 1) sc_are_pieces.nd rfl (Or.inl rfl))
    (pss_one (ps_if (PW.pt (pw_or (pt_not (pt_val (pe_isi (T := "tuple") (pv 1) (B_isinstance T) (B_tuple T)))) (pw_or (pt_cmpR op_ne (pe_callB call_len_seq (by rfl) (B_len T) (by decide +kernel) (pa_cons (pv 1) pa_nil)) pe_int (nomark _)) (pw_or1 (pt_not (pt_val (pe_f (ok_is_grains T) hr (pa_cons (pe_ix (show IxR _ (rIxT K) from ix_tup) (pv 1) pe_int (fun _ _ => rfl)) pa_nil)))))))) (pss_one (ps_ret pe_bl)) pss_nil)))
  (pss_one (ps_ret (pe_f (ok_are_unlike T) hr (pa_cons (pe_callTy call_tuple_of (by rfl) (B_tuple T) (by decide +kernel) (pa_cons (pe_lc (own := [("piece", 1)]) rfl sc_are_pieces.nd (pi_tup (pv 0)) (blkOk_by (own := [("piece", 1)]) (N := ["thing", "piece"]) (sc := defScope (top 55)) (by decide +kernel)) (fun _ _ _ _ _ => (pg_name (i := 1) sc_are_pieces.nd rfl (Or.inl rfl))) (fun _ _ _ _ _ => pts_nil) (fun _ _ _ _ _ => (pe_ix (show IxR _ (rIxT K) from ix_tup) (pv 1) pe_int (fun _ _ => rfl)))) pa_nil)) (pa_cons pe_int (pa_cons (pe_glob (v := .ref (He.ga K "is_name")) (by rfl) (G_is_name T) rfl) pa_nil)))))))), ?_⟩
  obtain ⟨v, rfl, ps, ⟨a, xs, rfl, hs, hr2⟩, ho, hg, q⟩ := h
  refine ⟨_, rfl, _, _, _, _, _, rfl, .ty _, ty_tup hs, kit_tup, true, rfl, iteF ?_⟩
  have hl : xs.length = ps.length := by rw [hr2.len, List.length_map]
  have h100 : ps.length ≤ 100 := by have := ho.2.1; rwa [List.length_map] at this
  have at_ : ∀ {i : Nat} {x : V}, xs[i]? = some x → ∃ p b, ps[i]? = some p ∧ x = .ref b ∧ SqT K H b [.str p.1, .int (p.2 : Int)] := fun {i x} hx => by
    have hi := (List.getElem?_eq_some_iff.mp hx).1
    have hp := List.getElem?_eq_getElem (l := ps) (i := i) (by omega)
    obtain ⟨x', e1, hrep⟩ := hr2.at (i := i) (d := pI ps[i]) (by rw [List.getElem?_map, hp] <;> rfl)
    rw [hx] at e1
    cases e1
    obtain ⟨b, y, z, h1, h2, h3, h4⟩ := rep2 hrep
    obtain rfl : y = .str ps[i].1 := h3
    obtain rfl : z = .int (ps[i].2 : Int) := h4
    exact ⟨_, b, hp, h1, h2⟩
  refine ⟨_, rfl, a, rfl, ⟨_, hs⟩, for_it (walk_tup (K := K) (a := a) (xs := xs)) (fun i σ H' => H' = H ∧ ∃ o, σ = [some (.ref a), o]) ⟨rfl, _, rfl⟩ (fun i σ H' _ h => by rw [h.1]; exact hs) ?_ ?_⟩
  · rintro i x _ H1 _ hi ⟨rfl, o, rfl⟩ ⟨rfl, hx⟩
    obtain ⟨p, b, hp, rfl, hb⟩ := at_ hx
    refine ⟨_, rfl, _, _, _, _, _, rfl, .ty _, ty_tup hb, kit_tup, true, rfl, iteF ⟨_, rfl, b, _, rfl, .inr hb, rfl, _, rfl, iteF ⟨_, rfl, b, _, 1, _, rfl, rfl, hb, at_1, _, rfl, _, rfl, true, congrArg V.bl (decide_eq_true (by have := (hg p (List.mem_of_getElem? hp)).1; omega)), iteF ⟨rfl, _, rfl⟩⟩⟩⟩
  · rintro _ H1 ⟨rfl, o, rfl⟩
    refine ⟨_, rfl, a, rfl, ⟨_, hs⟩, fun D hD => lc_V (K := K) (walk_tup (K := K) (a := a) (xs := xs)) ((ps.map (·.1)).map V.str) (by rw [List.length_map, List.length_map, hl]) hD (by rw [hl]; exact small (by omega)) (fun H g => g.sqT hs) ?_ fun H2 g2 h2 => ⟨D, _, rfl, .inl ⟨SqL.of h2, fun l hl' => ?_⟩⟩⟩
    · rintro i x H2 _ Q' y hy gr ⟨rfl, hx⟩ k
      obtain ⟨p, b, hp, rfl, hb⟩ := at_ hx
      rw [List.getElem?_map, List.getElem?_map, hp] at hy
      cases hy
      exact ⟨rfl, _, rfl, b, _, 0, _, rfl, rfl, gr.sqT hb, at_0, k _ (.refl _)⟩
    · have gl := g2.trans (Gr.new (o := .tup ((ps.map (·.1)).map V.str)) hl')
      refine ⟨_, _, _, rfl, ps.map (·.1), 2, _, isNm, Rep.tup (RepL.of_strs _) upd_same, rfl, rfl, (ok_is_name T).held (by decide), by rw [List.length_map]; omega, fun n hn => small (Nat.le_trans (isNm_len (ho.2.2.1 n hn)).2 (by decide)), .inr ho.2.2.2, fun H3 g3 => ?_⟩
      rw [decide_eq_true ho.1, List.all_eq_true.mpr ho.2.2.1]
      exact q H3 (gl.trans g3)

end
end CK
set_option maxHeartbeats 4000000
namespace CK
open PySem PySem.Spec PyProof.Rows L2
/-! ### the three tables -/
theorem key_str {e : DictEntry} {x : Str} {h : Int} (q : He.keyOf e = some (x, h)) : ∃ t, e.key = .str x t := by
  unfold He.keyOf at q
  split at q
  · rename_i y t e1
    have := Option.some.inj q
    obtain ⟨rfl, _⟩ := Prod.mk.inj this
    exact ⟨t, e1⟩
  · cases q
theorem ns_none {K : PySem.W.Frag} {P : Params} {a : Addr} {ks : List Str} {z : Str} (h : He.dicW K a = some (He.keysIn P ks)) (hz : z ∉ ks) : PySem.W.nsIn K a z = some none := by
  unfold He.dicW at h
  split at h
  · rename_i c es n sl q
    split at h
    · have e := Option.some.inj h
      have each : ∀ d ∈ es.toList, ∃ x t, x ∈ ks ∧ d.key = .str x t := by
        intro d hd
        have hm : He.keyOf d ∈ es.toList.map He.keyOf := List.mem_map_of_mem hd
        rw [e] at hm
        obtain ⟨x, hx, e2⟩ := List.mem_map.mp hm
        obtain ⟨t, e3⟩ := key_str e2.symm
        exact ⟨x, t, hx, e3⟩
      unfold PySem.W.nsIn
      rw [q]
      have f1 : es.toList.find? (·.key.isStr z) = none := by
        rw [List.find?_eq_none]
        intro d hd hs
        obtain ⟨x, t, hx, e3⟩ := each d hd
        rw [e3] at hs
        have : x = z := by simpa [Value.isStr] using hs
        exact hz (this ▸ hx)
      have f2 : es.toList.any (·.refKey) = false := by
        rw [List.any_eq_false]
        intro d hd hs
        obtain ⟨x, t, hx, e3⟩ := each d hd
        unfold DictEntry.refKey at hs
        rw [e3] at hs
        cases hs
      show (match es.toList.find? (·.key.isStr z) with
        | some e => some (some e.val)
        | none => if es.toList.any (·.refKey) then none else some none) = some none
      rw [f1]
      show (if es.toList.any (·.refKey) = true then none else some none) = some none
      rw [f2]
      rfl
    · cases h
  · cases h
namespace Deed
def size : Deed → Nat
  | .parts .. => 2
  | .burn .. => 3
  | .make .. => 3
  | .part .. => 2
  | .merge .. => 2
  | .pay .. => 3
  | .fire .. => 1
  | .lose .. => 2
  | .draw .. => 1
  | .send .. => 2
def judge : Deed → Str
  | .parts .. => "is_weighing"
  | .burn .. => "is_burning"
  | .make .. => "is_making"
  | .part .. => "is_parting"
  | .merge .. => "is_merging"
  | .pay .. => "is_paying"
  | .fire .. => "is_firing"
  | .lose .. => "is_losing"
  | .draw .. => "is_drawing"
  | .send .. => "is_sending"
def reader : Deed → Str
  | .parts .. => "read_parts"
  | .burn .. => "read_burning"
  | .make .. => "read_making"
  | .part .. => "read_pieces"
  | .merge .. => "read_merging"
  | .pay .. => "read_paying"
  | .fire .. => "read_burnt"
  | .lose .. => "read_names"
  | .draw .. => "read_names"
  | .send .. => "read_sending"
end Deed
section
variable {P : Program} {w : World} {K : PySem.W.Frag} {mg : Str → Option Value} {base : Heap}
theorem memS (e : Deed) : (e.word, He.Dv.int e.size) ∈ tabSIZES := by
  cases e with
  | parts k => cases k <;> (unfold tabSIZES Deed.word Deed.size; simp)
  | _ => unfold tabSIZES Deed.word Deed.size; simp
theorem memJ (e : Deed) : (e.word, He.Dv.glo e.judge) ∈ tabJUDGES := by
  cases e with
  | parts k => cases k <;> (unfold tabJUDGES Deed.word Deed.judge; simp)
  | _ => unfold tabJUDGES Deed.word Deed.judge; simp
theorem memR (e : Deed) : (e.word, He.Dv.glo e.reader) ∈ tabREADERS := by
  cases e with
  | parts k => cases k <;> (unfold tabREADERS Deed.word Deed.reader; simp)
  | _ => unfold tabREADERS Deed.word Deed.reader; simp
theorem kdct {d : Addr} {es : Array DictEntry} {n : Nat} {kvs : List (Str × He.Dv)} {q : Str × He.Dv} (D : KDict K w d es n) (h : He.valsB K d kvs = true) (hq : q ∈ kvs) : KDct K w d q.1 (q.2.v K) := by
  obtain ⟨u, h1, h2⟩ := He.valsB_ok h hq
  exact ⟨es, n, u, D.at_, D.lit, h1, h2⟩
theorem ixS (T : Tp w K mg base) (e : Deed) : KDct K w (He.ga K "SIZES") e.word (.int (e.size : Nat)) := by
  obtain ⟨es, n, D⟩ := T.d.tab 0
  exact kdct D (xl T (i := 7) rfl) (memS e)
theorem ixJ (T : Tp w K mg base) (e : Deed) : KDct K w (He.ga K "JUDGES") e.word (.ref (He.ga K e.judge)) := by
  obtain ⟨es, n, D⟩ := T.d.tab 1
  exact kdct D (xl T (i := 8) rfl) (memJ e)
theorem ixR (T : Tp w K mg base) (e : Deed) : KDct K w (He.ga K "READERS") e.word (.ref (He.ga K e.reader)) := by
  obtain ⟨es, n, D⟩ := T.d.tab 2
  exact kdct D (xl T (i := 9) rfl) (memR e)
theorem inS (T : Tp w K mg base) (e : Deed) : ∃ u, PySem.W.nsIn K (He.ga K "SIZES") e.word = some (some u) := let ⟨_, _, u, _, _, h, _⟩ := ixS T e; ⟨u, h⟩
theorem inR (T : Tp w K mg base) (e : Deed) : ∃ u, PySem.W.nsIn K (He.ga K "READERS") e.word = some (some u) := let ⟨_, _, u, _, _, h, _⟩ := ixR T e; ⟨u, h⟩
theorem notR (T : Tp w K mg base) {z : Str} (h : z ∉ keyREADERS) : PySem.W.nsIn K (He.ga K "READERS") z = some none := by
  have e : tabs.map (fun t => He.dicW K (t.1 K)) = tabs.map fun t => some (He.keysIn w.params t.2) := congrArg (fun z : He.AlT => z.2) T.d
  have e2 : (tabs.map fun t => He.dicW K (t.1 K))[2]? = (tabs.map fun t => some (He.keysIn w.params t.2))[2]? := by rw [e]
  exact ns_none (Option.some.inj e2) h
end
end CK
set_option maxHeartbeats 0
namespace CK
open PySem PySem.Spec PyProof.Rows L2
section
variable {P : Program} {w : World} {K : PySem.W.Frag} {mg : Str → Option Value} {base : Heap}
/-- a judge of the rests of the deeds that it judges -/
def spJ (K : PySem.W.Frag) (j : Str) : Sp := sp1 fun x H Q _ => ∃ e : Deed, e.judge = j ∧ Rep K H (.t e.rest) x ∧ ((e.Good ∧ ∀ H', Gr K H H' → Q (.bl true) H') ∨ (e.Bad ∧ e.size = e.rest.length ∧ ∀ H', Gr K H H' → Q (.bl false) H'))
theorem rep1 {H : Hp} {d : D} {x : V} (h : Rep K H (.t [d]) x) : ∃ a y, x = .ref a ∧ SqT K H a [y] ∧ Rep K H d y := by
  obtain ⟨a, xs, rfl, hs, y, r, rfl, h1, rfl⟩ := h
  exact ⟨a, y, rfl, hs, h1⟩
theorem rep3 {H : Hp} {d e f : D} {x : V} (h : Rep K H (.t [d, e, f]) x) : ∃ a y z u, x = .ref a ∧ SqT K H a [y, z, u] ∧ Rep K H d y ∧ Rep K H e z ∧ Rep K H f u := by
  obtain ⟨a, xs, rfl, hs, y, r, rfl, h1, z, r2, rfl, h2, u, r3, rfl, h3, rfl⟩ := h
  exact ⟨a, y, z, u, rfl, hs, h1, h2, h3⟩
theorem odd_all {f : Str → Bool} {ns : List Str} (h : Deed.Odd f ns) (m : Nat) : (decide (m ≤ ns.length) && ns.all f) = false := by
  obtain ⟨_, _, n, hn, hf⟩ := h
  rw [Bool.and_eq_false_iff]
  right
  rw [List.all_eq_false]
  exact ⟨n, hn, by rw [hf]; decide⟩
theorem oks_all {f : Str → Bool} {ns : List Str} {m : Nat} (h : m ≤ ns.length) (g : ∀ n ∈ ns, f n = true) : (decide (m ≤ ns.length) && ns.all f) = true := by
  rw [decide_eq_true h, List.all_eq_true.mpr g]
  rfl
theorem sc_is_weighing : FnScope ["rest"] ["rest"] (defScope (top 56)) := ⟨rfl, rfl, rfl, by decide +kernel, rfl, by decide +kernel, by decide +kernel⟩
theorem ok_is_weighing (T : Tp w K mg base) : Cl P w K mg base CX0 5 "is_weighing" (spJ K "is_weighing") := by
  obtain ⟨fd, F⟩ := F_is_weighing T
  refine ⟨fd, ["rest"], F.ok sc_is_weighing (len1 rfl) (fun cdv A outer s H vs Q E hr h => ?_), G_is_weighing T, F.kp, F.bindsN fun _ _ _ _ _ _ us hl => match us, hl with | [_], _ => rfl⟩
  refine ⟨_, PSs.nox (pss_one (ps_ret (pe_and (pe_f (ok_is_mark T) hr (pa_cons (pe_ix (show IxR _ (rIxT K) from ix_tup) (pv 0) pe_int (fun _ _ => rfl)) pa_nil)) (pe_one (pe_f (ok_is_parts T) hr (pa_cons (pe_ix (show IxR _ (rIxT K) from ix_tup) (pv 0) pe_int (fun _ _ => rfl)) pa_nil)))))), ?_⟩
  obtain ⟨v, rfl, e, hj, hrep, hq⟩ := h
  cases e with
  | parts k m ps =>
    obtain ⟨⟨hm, h4, hp, hu⟩, q⟩ | ⟨hb, _, q⟩ := hq
    rotate_left
    · exact hb.elim
    obtain ⟨a, y0, y1, rfl, hs, r0, r1⟩ := rep2 hrep
    obtain rfl : y0 = .str m := r0
    refine ⟨_, rfl, a, _, 0, _, rfl, rfl, hs, at_0, _, rfl, _, rfl, small (Nat.le_trans (isMk_len hm).2 (by decide)), fun H1 g1 => ⟨isMk m, rfl, ?_⟩⟩
    rw [hm]
    exact iteT ⟨_, rfl, a, _, 1, _, rfl, rfl, g1.sqT hs, at_1, _, rfl, ps, r1.std' g1.std, ⟨h4, hp, hu⟩, fun H2 g2 => q H2 (g1.trans g2)⟩
  | _ => exact absurd hj (by simp only [Deed.judge]; decide)

theorem sc_is_burning : FnScope ["rest"] ["rest"] (defScope (top 57)) := ⟨rfl, rfl, rfl, by decide +kernel, rfl, by decide +kernel, by decide +kernel⟩
theorem ok_is_burning (T : Tp w K mg base) : Cl P w K mg base CX0 5 "is_burning" (spJ K "is_burning") := by
  obtain ⟨fd, F⟩ := F_is_burning T
  refine ⟨fd, ["rest"], F.ok sc_is_burning (len1 rfl) (fun cdv A outer s H vs Q E hr h => ?_), G_is_burning T, F.kp, F.bindsN fun _ _ _ _ _ _ us hl => match us, hl with | [_], _ => rfl⟩
  refine ⟨_, PSs.nox (pss_cons (ps_if (PW.pt (pw_or (pt_not (pt_val (pe_f (ok_is_mark T) hr (pa_cons (pe_ix (show IxR _ (rIxT K) from ix_tup) (pv 0) pe_int (fun _ _ => rfl)) pa_nil)))) (pw_or (pt_not (pt_val (pe_f (ok_is_name T) hr (pa_cons (pe_ix (show IxR _ (rIxT K) from ix_tup) (pv 0) pe_int (fun _ _ => rfl)) pa_nil)))) (pw_or1 (pt_not (pt_val (pe_isiC (pe_ix (show IxR _ (rIxT K) from ix_tup) (pv 0) pe_int (fun _ _ => rfl)) (isW_ T) (B_isinstance T) (G_Weight T)))))))) (pss_one (ps_ret pe_bl)) pss_nil)
  (pss_one (ps_ret (pe_not (C8.pe_mt0 (met_is_nought T) hr (by decide) (pe_ix (show IxR _ (rIxT K) from ix_tup) (pv 0) pe_int (fun _ _ => rfl))))))), ?_⟩
  obtain ⟨v, rfl, e, hj, hrep, hq⟩ := h
  cases e with
  | burn m u t b =>
    obtain ⟨⟨hm, hu, hw⟩, q⟩ | ⟨hb, _, q⟩ := hq
    rotate_left
    · exact hb.elim
    obtain ⟨a, y0, y1, y2, rfl, hs, r0, r1, r2⟩ := rep3 hrep
    obtain rfl : y0 = .str m := r0
    obtain rfl : y1 = .str u := r1
    obtain ⟨c, rfl, hc⟩ := r2
    refine ⟨_, rfl, a, _, 0, _, rfl, rfl, hs, at_0, _, rfl, _, rfl, small (Nat.le_trans (isMk_len hm).2 (by decide)), fun H1 g1 => ⟨isMk m, rfl, ?_⟩⟩
    rw [hm]
    refine iteF ⟨_, rfl, a, _, 1, _, rfl, rfl, g1.sqT hs, at_1, _, rfl, _, rfl, small (Nat.le_trans (isNm_len hu).2 (by decide)), fun H2 g2 => ⟨isNm u, rfl, ?_⟩⟩
    rw [hu]
    have g12 := g1.trans g2
    have hc2 := g12.std.isW hc
    obtain ⟨dx, hc3⟩ := id hc2
    refine iteF ⟨_, rfl, a, _, 2, _, rfl, rfl, g12.sqT hs, at_2, c, dx, _, rfl, hc3, true, rfl, iteF ⟨_, rfl, a, _, 2, _, rfl, rfl, g12.sqT hs, at_2, c, dx, _, rfl, hc3, rfl, _, rfl, c, t, b, rfl, hc2, _, rfl, ?_⟩⟩
    rw [show decide (t = 0) = false from decide_eq_false (Nat.pos_iff_ne_zero.mp hw.1)]
    exact q H2 g12
  | _ => exact absurd hj (by simp only [Deed.judge]; decide)

theorem sc_is_making : FnScope ["rest"] ["rest"] (defScope (top 58)) := ⟨rfl, rfl, rfl, by decide +kernel, rfl, by decide +kernel, by decide +kernel⟩
theorem ok_is_making (T : Tp w K mg base) : Cl P w K mg base CX0 5 "is_making" (spJ K "is_making") := by
  obtain ⟨fd, F⟩ := F_is_making T
  refine ⟨fd, ["rest"], F.ok sc_is_making (len1 rfl) (fun cdv A outer s H vs Q E hr h => ?_), G_is_making T, F.kp, F.bindsN fun _ _ _ _ _ _ us hl => match us, hl with | [_], _ => rfl⟩
  refine ⟨_, PSs.nox (pss_one (ps_ret (pe_and (pe_f (ok_is_name T) hr (pa_cons (pe_ix (show IxR _ (rIxT K) from ix_tup) (pv 0) pe_int (fun _ _ => rfl)) pa_nil)) (pe_and (pe_f (ok_is_name T) hr (pa_cons (pe_ix (show IxR _ (rIxT K) from ix_tup) (pv 0) pe_int (fun _ _ => rfl)) pa_nil)) (pe_one (pe_f (ok_is_grains T) hr (pa_cons (pe_ix (show IxR _ (rIxT K) from ix_tup) (pv 0) pe_int (fun _ _ => rfl)) pa_nil))))))), ?_⟩
  obtain ⟨v, rfl, e, hj, hrep, hq⟩ := h
  cases e with
  | make n u g =>
    obtain ⟨⟨hn, hu, hg⟩, q⟩ | ⟨hb, _, q⟩ := hq
    rotate_left
    · exact hb.elim
    obtain ⟨a, y0, y1, y2, rfl, hs, r0, r1, r2⟩ := rep3 hrep
    obtain rfl : y0 = .str n := r0
    obtain rfl : y1 = .str u := r1
    obtain rfl : y2 = .int (g : Int) := r2
    refine ⟨_, rfl, a, _, 0, _, rfl, rfl, hs, at_0, _, rfl, _, rfl, small (Nat.le_trans (isNm_len hn).2 (by decide)), fun H1 g1 => ⟨isNm n, rfl, ?_⟩⟩
    rw [hn]
    refine iteT ⟨_, rfl, a, _, 1, _, rfl, rfl, g1.sqT hs, at_1, _, rfl, _, rfl, small (Nat.le_trans (isNm_len hu).2 (by decide)), fun H2 g2 => ⟨isNm u, rfl, ?_⟩⟩
    rw [hu]
    have g12 := g1.trans g2
    refine iteT ⟨_, rfl, a, _, 2, _, rfl, rfl, g12.sqT hs, at_2, _, rfl, _, rfl, ?_⟩
    show Q (.bl (decide ((1 : Int) ≤ (g : Int)))) H2
    rw [show decide ((1 : Int) ≤ (g : Int)) = true from decide_eq_true (by have := hg.1; omega)]
    exact q H2 g12
  | _ => exact absurd hj (by simp only [Deed.judge]; decide)

theorem sc_is_parting : FnScope ["rest"] ["rest"] (defScope (top 59)) := ⟨rfl, rfl, rfl, by decide +kernel, rfl, by decide +kernel, by decide +kernel⟩
theorem ok_is_parting (T : Tp w K mg base) : Cl P w K mg base CX0 5 "is_parting" (spJ K "is_parting") := by
  obtain ⟨fd, F⟩ := F_is_parting T
  refine ⟨fd, ["rest"], F.ok sc_is_parting (len1 rfl) (fun cdv A outer s H vs Q E hr h => ?_), G_is_parting T, F.kp, F.bindsN fun _ _ _ _ _ _ us hl => match us, hl with | [_], _ => rfl⟩
  refine ⟨_, PSs.nox (pss_one (ps_ret (pe_and (pe_f (ok_is_name T) hr (pa_cons (pe_ix (show IxR _ (rIxT K) from ix_tup) (pv 0) pe_int (fun _ _ => rfl)) pa_nil)) (pe_one (pe_f (ok_are_pieces T) hr (pa_cons (pe_ix (show IxR _ (rIxT K) from ix_tup) (pv 0) pe_int (fun _ _ => rfl)) pa_nil)))))), ?_⟩
  obtain ⟨v, rfl, e, hj, hrep, hq⟩ := h
  cases e with
  | part n ps =>
    obtain ⟨⟨hn, ho, hg⟩, q⟩ | ⟨hb, _, q⟩ := hq
    rotate_left
    · exact hb.elim
    obtain ⟨a, y0, y1, rfl, hs, r0, r1⟩ := rep2 hrep
    obtain rfl : y0 = .str n := r0
    refine ⟨_, rfl, a, _, 0, _, rfl, rfl, hs, at_0, _, rfl, _, rfl, small (Nat.le_trans (isNm_len hn).2 (by decide)), fun H1 g1 => ⟨isNm n, rfl, ?_⟩⟩
    rw [hn]
    exact iteT ⟨_, rfl, a, _, 1, _, rfl, rfl, g1.sqT hs, at_1, _, rfl, ps, r1.std' g1.std, ho, hg, fun H2 g2 => q H2 (g1.trans g2)⟩
  | _ => exact absurd hj (by simp only [Deed.judge]; decide)

theorem sc_is_merging : FnScope ["rest"] ["rest"] (defScope (top 60)) := ⟨rfl, rfl, rfl, by decide +kernel, rfl, by decide +kernel, by decide +kernel⟩
theorem ok_is_merging (T : Tp w K mg base) : Cl P w K mg base CX0 5 "is_merging" (spJ K "is_merging") := by
  obtain ⟨fd, F⟩ := F_is_merging T
  refine ⟨fd, ["rest"], F.ok sc_is_merging (len1 rfl) (fun cdv A outer s H vs Q E hr h => ?_), G_is_merging T, F.kp, F.bindsN fun _ _ _ _ _ _ us hl => match us, hl with | [_], _ => rfl⟩
  refine ⟨_, PSs.nox (pss_one (ps_ret (pe_and (pe_f (ok_are_unlike T) hr (pa_cons (pe_ix (show IxR _ (rIxT K) from ix_tup) (pv 0) pe_int (fun _ _ => rfl)) (pa_cons pe_int (pa_cons (pe_glob (v := .ref (He.ga K "is_name")) (by rfl) (G_is_name T) rfl) pa_nil)))) (pe_one (pe_f (ok_is_name T) hr (pa_cons (pe_ix (show IxR _ (rIxT K) from ix_tup) (pv 0) pe_int (fun _ _ => rfl)) pa_nil)))))), ?_⟩
  obtain ⟨v, rfl, e, hj, hrep, hq⟩ := h
  cases e with
  | merge ns f =>
    obtain ⟨a, y0, y1, rfl, hs, r0, r1⟩ := rep2 hrep
    obtain rfl : y1 = .str f := r1
    have hl : ns.length ≤ 1000 := by
      rcases hq with ⟨h, _⟩ | ⟨h, _⟩
      · have := h.1.2.1; omega
      · exact h.1
    have hz : ∀ n ∈ ns, n.length ≤ sizeLine := by
      rcases hq with ⟨h, _⟩ | ⟨h, _⟩
      · exact fun n hn => small (Nat.le_trans (isNm_len (h.1.2.2.1 n hn)).2 (by decide))
      · exact h.2.1
    have hc : (∃ n ∈ ns, isNm n = false) ∨ ns.Nodup := by
      rcases hq with ⟨h, _⟩ | ⟨h, _⟩
      · exact .inr h.1.2.2.2
      · exact .inl h.2.2
    refine ⟨_, rfl, a, _, 0, _, rfl, rfl, hs, at_0, _, _, _, rfl, ns, 2, _, isNm, r0, rfl, rfl, (ok_is_name T).held (by decide), hl, hz, hc, fun H1 g1 => ⟨_, rfl, ?_⟩⟩
    rcases hq with ⟨⟨ho, hf⟩, q⟩ | ⟨hb, _, q⟩
    · rw [oks_all ho.1 ho.2.2.1]
      refine iteT ⟨_, rfl, a, _, 1, _, rfl, rfl, g1.sqT hs, at_1, _, rfl, _, rfl, small (Nat.le_trans (isNm_len hf).2 (by decide)), fun H2 g2 => ?_⟩
      rw [hf]
      exact q H2 (g1.trans g2)
    · rw [odd_all hb]
      exact iteF (q H1 g1)
  | _ => exact absurd hj (by simp only [Deed.judge]; decide)

theorem sc_is_losing : FnScope ["rest"] ["rest"] (defScope (top 61)) := ⟨rfl, rfl, rfl, by decide +kernel, rfl, by decide +kernel, by decide +kernel⟩
theorem ok_is_losing (T : Tp w K mg base) : Cl P w K mg base CX0 5 "is_losing" (spJ K "is_losing") := by
  obtain ⟨fd, F⟩ := F_is_losing T
  refine ⟨fd, ["rest"], F.ok sc_is_losing (len1 rfl) (fun cdv A outer s H vs Q E hr h => ?_), G_is_losing T, F.kp, F.bindsN fun _ _ _ _ _ _ us hl => match us, hl with | [_], _ => rfl⟩
  refine ⟨_, PSs.nox (pss_one (ps_ret (pe_and (pe_f (ok_is_name T) hr (pa_cons (pe_ix (show IxR _ (rIxT K) from ix_tup) (pv 0) pe_int (fun _ _ => rfl)) pa_nil)) (pe_one (pe_f (ok_is_name T) hr (pa_cons (pe_ix (show IxR _ (rIxT K) from ix_tup) (pv 0) pe_int (fun _ _ => rfl)) pa_nil)))))), ?_⟩
  obtain ⟨v, rfl, e, hj, hrep, hq⟩ := h
  cases e with
  | lose ws =>
    obtain ⟨⟨hl, hw⟩, q⟩ | ⟨hb, e, q⟩ := hq
    rotate_left
    · exact absurd (show 2 = (ws.map D.s).length from e).symm (by rw [List.length_map]; exact hb.1)
    obtain ⟨x, y, rfl⟩ : ∃ x y, ws = [x, y] := match ws, hl with | [x, y], _ => ⟨x, y, rfl⟩
    obtain ⟨a, y0, y1, rfl, hs, r0, r1⟩ := rep2 hrep
    obtain rfl : y0 = .str x := r0
    obtain rfl : y1 = .str y := r1
    have h0 := hw x (by simp)
    have h1 := hw y (by simp)
    refine ⟨_, rfl, a, _, 0, _, rfl, rfl, hs, at_0, _, rfl, _, rfl, small (Nat.le_trans (isNm_len h0).2 (by decide)), fun H1 g1 => ⟨isNm x, rfl, ?_⟩⟩
    rw [h0]
    refine iteT ⟨_, rfl, a, _, 1, _, rfl, rfl, g1.sqT hs, at_1, _, rfl, _, rfl, small (Nat.le_trans (isNm_len h1).2 (by decide)), fun H2 g2 => ?_⟩
    rw [h1]
    exact q H2 (g1.trans g2)
  | _ => exact absurd hj (by simp only [Deed.judge]; decide)

theorem sc_is_drawing : FnScope ["rest"] ["rest"] (defScope (top 62)) := ⟨rfl, rfl, rfl, by decide +kernel, rfl, by decide +kernel, by decide +kernel⟩
theorem ok_is_drawing (T : Tp w K mg base) : Cl P w K mg base CX0 5 "is_drawing" (spJ K "is_drawing") := by
  obtain ⟨fd, F⟩ := F_is_drawing T
  refine ⟨fd, ["rest"], F.ok sc_is_drawing (len1 rfl) (fun cdv A outer s H vs Q E hr h => ?_), G_is_drawing T, F.kp, F.bindsN fun _ _ _ _ _ _ us hl => match us, hl with | [_], _ => rfl⟩
  refine ⟨_, PSs.nox (pss_one (ps_ret (pe_f (ok_is_name T) hr (pa_cons (pe_ix (show IxR _ (rIxT K) from ix_tup) (pv 0) pe_int (fun _ _ => rfl)) pa_nil)))), ?_⟩
  obtain ⟨v, rfl, e, hj, hrep, hq⟩ := h
  cases e with
  | draw ws =>
    obtain ⟨⟨hl, hw⟩, q⟩ | ⟨hb, e, q⟩ := hq
    rotate_left
    · exact absurd (show 1 = (ws.map D.s).length from e).symm (by rw [List.length_map]; exact hb.1)
    obtain ⟨x, rfl⟩ : ∃ x, ws = [x] := match ws, hl with | [x], _ => ⟨x, rfl⟩
    obtain ⟨a, y0, rfl, hs, r0⟩ := rep1 hrep
    obtain rfl : y0 = .str x := r0
    have h0 := hw x (by simp)
    refine ⟨_, rfl, a, _, 0, _, rfl, rfl, hs, at_0, _, rfl, _, rfl, small (Nat.le_trans (isNm_len h0).2 (by decide)), fun H1 g1 => ?_⟩
    rw [h0]
    exact q H1 g1
  | _ => exact absurd hj (by simp only [Deed.judge]; decide)

theorem sc_is_sending : FnScope ["rest"] ["rest"] (defScope (top 63)) := ⟨rfl, rfl, rfl, by decide +kernel, rfl, by decide +kernel, by decide +kernel⟩
theorem ok_is_sending (T : Tp w K mg base) : Cl P w K mg base CX0 5 "is_sending" (spJ K "is_sending") := by
  obtain ⟨fd, F⟩ := F_is_sending T
  refine ⟨fd, ["rest"], F.ok sc_is_sending (len1 rfl) (fun cdv A outer s H vs Q E hr h => ?_), G_is_sending T, F.kp, F.bindsN fun _ _ _ _ _ _ us hl => match us, hl with | [_], _ => rfl⟩
  refine ⟨_, PSs.nox (pss_one (ps_ret (pe_and (pe_f (ok_is_mark T) hr (pa_cons (pe_ix (show IxR _ (rIxT K) from ix_tup) (pv 0) pe_int (fun _ _ => rfl)) pa_nil)) (pe_one (pe_f (ok_is_none_or_name T) hr (pa_cons (pe_ix (show IxR _ (rIxT K) from ix_tup) (pv 0) pe_int (fun _ _ => rfl)) pa_nil)))))), ?_⟩
  obtain ⟨v, rfl, e, hj, hrep, hq⟩ := h
  cases e with
  | send m o =>
    obtain ⟨⟨hm, ho⟩, q⟩ | ⟨hb, _, q⟩ := hq
    rotate_left
    · exact hb.elim
    obtain ⟨a, y0, y1, rfl, hs, r0, r1⟩ := rep2 hrep
    obtain rfl : y0 = .str m := r0
    refine ⟨_, rfl, a, _, 0, _, rfl, rfl, hs, at_0, _, rfl, _, rfl, small (Nat.le_trans (isMk_len hm).2 (by decide)), fun H1 g1 => ⟨isMk m, rfl, ?_⟩⟩
    rw [hm]
    exact iteT ⟨_, rfl, a, _, 1, _, rfl, rfl, g1.sqT hs, at_1, _, rfl, o, r1.std' g1.std, ho, fun H2 g2 => q H2 (g1.trans g2)⟩
  | _ => exact absurd hj (by simp only [Deed.judge]; decide)

theorem sc_is_paying : FnScope ["rest"] ["rest"] (defScope (top 64)) := ⟨rfl, rfl, rfl, by decide +kernel, rfl, by decide +kernel, by decide +kernel⟩
theorem ok_is_paying (T : Tp w K mg base) : Cl P w K mg base CX0 5 "is_paying" (spJ K "is_paying") := by
  obtain ⟨fd, F⟩ := F_is_paying T
  refine ⟨fd, ["rest"], F.ok sc_is_paying (len1 rfl) (fun cdv A outer s H vs Q E hr h => ?_), G_is_paying T, F.kp, F.bindsN fun _ _ _ _ _ _ us hl => match us, hl with | [_], _ => rfl⟩
  refine ⟨_, PSs.nox (pss_one (ps_ret (pe_and (pe_f (ok_are_unlike T) hr (pa_cons (pe_ix (show IxR _ (rIxT K) from ix_tup) (pv 0) pe_int (fun _ _ => rfl)) (pa_cons pe_int (pa_cons (pe_glob (v := .ref (He.ga K "is_name")) (by rfl) (G_is_name T) rfl) pa_nil)))) (pe_and (pe_f (ok_is_grains T) hr (pa_cons (pe_ix (show IxR _ (rIxT K) from ix_tup) (pv 0) pe_int (fun _ _ => rfl)) pa_nil)) (pe_one (pe_f (ok_is_none_or_name T) hr (pa_cons (pe_ix (show IxR _ (rIxT K) from ix_tup) (pv 0) pe_int (fun _ _ => rfl)) pa_nil))))))), ?_⟩
  obtain ⟨v, rfl, e, hj, hrep, hq⟩ := h
  cases e with
  | pay ns g o =>
    obtain ⟨a, y0, y1, y2, rfl, hs, r0, r1, r2⟩ := rep3 hrep
    obtain rfl : y1 = .int (g : Int) := r1
    have hl : ns.length ≤ 1000 := by
      rcases hq with ⟨h, _⟩ | ⟨h, _⟩
      · have := h.1.2.1; omega
      · exact h.1
    have hz : ∀ n ∈ ns, n.length ≤ sizeLine := by
      rcases hq with ⟨h, _⟩ | ⟨h, _⟩
      · exact fun n hn => small (Nat.le_trans (isNm_len (h.1.2.2.1 n hn)).2 (by decide))
      · exact h.2.1
    have hc : (∃ n ∈ ns, isNm n = false) ∨ ns.Nodup := by
      rcases hq with ⟨h, _⟩ | ⟨h, _⟩
      · exact .inr h.1.2.2.2
      · exact .inl h.2.2
    refine ⟨_, rfl, a, _, 0, _, rfl, rfl, hs, at_0, _, _, _, rfl, ns, 1, _, isNm, r0, rfl, rfl, (ok_is_name T).held (by decide), hl, hz, hc, fun H1 g1 => ⟨_, rfl, ?_⟩⟩
    rcases hq with ⟨⟨ho, hg, hoo⟩, q⟩ | ⟨hb, _, q⟩
    · rw [oks_all ho.1 ho.2.2.1]
      refine iteT ⟨_, rfl, a, _, 1, _, rfl, rfl, g1.sqT hs, at_1, _, rfl, _, rfl, true, congrArg V.bl (decide_eq_true (by have := hg.1; omega)), iteT ⟨_, rfl, a, _, 2, _, rfl, rfl, g1.sqT hs, at_2, _, rfl, o, r2.std' g1.std, hoo, fun H2 g2 => q H2 (g1.trans g2)⟩⟩
    · rw [odd_all hb]
      exact iteF (q H1 g1)
  | _ => exact absurd hj (by simp only [Deed.judge]; decide)

theorem sc_is_firing : FnScope ["rest"] ["rest"] (defScope (top 65)) := ⟨rfl, rfl, rfl, by decide +kernel, rfl, by decide +kernel, by decide +kernel⟩
theorem ok_is_firing (T : Tp w K mg base) : Cl P w K mg base CX0 5 "is_firing" (spJ K "is_firing") := by
  obtain ⟨fd, F⟩ := F_is_firing T
  refine ⟨fd, ["rest"], F.ok sc_is_firing (len1 rfl) (fun cdv A outer s H vs Q E hr h => ?_), G_is_firing T, F.kp, F.bindsN fun _ _ _ _ _ _ us hl => match us, hl with | [_], _ => rfl⟩
  refine ⟨_, PSs.nox (pss_one (ps_ret (pe_f (ok_are_unlike T) hr (pa_cons (pe_ix (show IxR _ (rIxT K) from ix_tup) (pv 0) pe_int (fun _ _ => rfl)) (pa_cons pe_int (pa_cons (pe_glob (v := .ref (He.ga K "is_mark")) (by rfl) (G_is_mark T) rfl) pa_nil)))))), ?_⟩
  obtain ⟨v, rfl, e, hj, hrep, hq⟩ := h
  cases e with
  | fire ms =>
    obtain ⟨a, y0, rfl, hs, r0⟩ := rep1 hrep
    have hl : ms.length ≤ 1000 := by
      rcases hq with ⟨h, _⟩ | ⟨h, _⟩
      · have := h.2.1; omega
      · exact h.1
    have hz : ∀ n ∈ ms, n.length ≤ sizeLine := by
      rcases hq with ⟨h, _⟩ | ⟨h, _⟩
      · exact fun n hn => small (Nat.le_trans (isMk_len (h.2.2.1 n hn)).2 (by decide))
      · exact h.2.1
    have hc : (∃ n ∈ ms, isMk n = false) ∨ ms.Nodup := by
      rcases hq with ⟨h, _⟩ | ⟨h, _⟩
      · exact .inr h.2.2.2
      · exact .inl h.2.2
    refine ⟨_, rfl, a, _, 0, _, rfl, rfl, hs, at_0, _, _, _, rfl, ms, 1, _, isMk, r0, rfl, rfl, (ok_is_mark T).held (by decide), hl, hz, hc, fun H1 g1 => ?_⟩
    rcases hq with ⟨ho, q⟩ | ⟨hb, _, q⟩
    · rw [oks_all ho.1 ho.2.2.1]
      exact q H1 g1
    · rw [odd_all hb]
      exact q H1 g1
  | _ => exact absurd hj (by simp only [Deed.judge]; decide)

theorem held_J (T : Tp w K mg base) (e : Deed) : HeldC P w K mg base CX0 5 (He.ga K e.judge) (spJ K e.judge) := by
  cases e with
  | parts => exact (ok_is_weighing T).held (by decide)
  | burn => exact (ok_is_burning T).held (by decide)
  | make => exact (ok_is_making T).held (by decide)
  | part => exact (ok_is_parting T).held (by decide)
  | merge => exact (ok_is_merging T).held (by decide)
  | pay => exact (ok_is_paying T).held (by decide)
  | fire => exact (ok_is_firing T).held (by decide)
  | lose => exact (ok_is_losing T).held (by decide)
  | draw => exact (ok_is_drawing T).held (by decide)
  | send => exact (ok_is_sending T).held (by decide)
end
end CK
set_option maxHeartbeats 0
namespace CK
open PySem PySem.Spec PyProof.Rows L2
section
variable {P : Program} {w : World} {K : PySem.W.Frag} {mg : Str → Option Value} {base : Heap}
def spDeed (K : PySem.W.Frag) : Sp := sp1 fun x H Q _ => ∃ e : Deed, Rep K H e.d x ∧ ((e.Good ∧ ∀ H', Gr K H H' → Q (.bl true) H') ∨ (e.Bad ∧ ∀ H', Gr K H H' → Q (.bl false) H'))
theorem ne_same {m n : Nat} (h : m = n) : V.bl (!decide (V.int ((m : Int) + 1) = V.int ((n : Int) + 1))) = .bl false := by
  rw [h, decide_eq_true rfl]
  rfl
theorem ne_diff {m n : Nat} (h : m ≠ n) : V.bl (!decide (V.int ((m : Int) + 1) = V.int ((n : Int) + 1))) = .bl true := by
  rw [decide_eq_false fun z => h (by injection z; omega)]
  rfl
theorem good_size {e : Deed} (h : e.Good) : e.size = e.rest.length := by
  cases e with
  | lose ws => exact (show (ws.map D.s).length = 2 by rw [List.length_map]; exact h.1).symm
  | draw ws => exact (show (ws.map D.s).length = 1 by rw [List.length_map]; exact h.1).symm
  | _ => rfl
theorem sc_is_deed : FnScope ["thing", "judge"] ["thing"] (defScope (top 68)) := ⟨rfl, rfl, rfl, by decide +kernel, rfl, by decide +kernel, by decide +kernel⟩
theorem ok_is_deed (T : Tp w K mg base) : Cl P w K mg base CX0 6 "is_deed" (spDeed K) := by
  obtain ⟨es0, n0, D⟩ := T.d.tab 0
  obtain ⟨fd, F⟩ := F_is_deed T
  refine ⟨fd, ["thing"], F.ok sc_is_deed (len1 rfl) (fun cdv A outer s H vs Q E hr h => ?_), G_is_deed T, F.kp, F.bindsN fun _ _ _ _ _ _ us hl => match us, hl with | [_], _ => rfl⟩
  refine ⟨_, PSs.nox (pss_cons (ps_if (PW.pt (pw_or (pt_not (pt_val (pe_isi (T := "tuple") (pv 0) (B_isinstance T) (B_tuple T)))) (pw_or (pt_cmpR (op_eqT0 (hr.mono (by decide))) (pv 0) (pe_tup pa_nil) (nomark _)) (pw_or (pt_not (pt_val (pe_isi (T := "str") (pe_ix (show IxR _ (rIxT K) from ix_tup) (pv 0) pe_int (fun _ _ => rfl)) (B_isinstance T) (B_str T)))) (pw_or1 (pt_cmpR (op_notIn_kd D) (pe_ix (show IxR _ (rIxT K) from ix_tup) (pv 0) pe_int (fun _ _ => rfl)) (pe_glob (v := .ref (He.ga K "SIZES")) (by rfl) (G_SIZES T) rfl) (by rfl))))))) (pss_one (ps_ret pe_bl)) pss_nil)
  (pss_cons (ps_if (pt_cmpR op_ne (pe_callB call_len_seq (by rfl) (B_len T) (by decide +kernel) (pa_cons (pv 0) pa_nil)) (pe_op op_add (pe_ix ix_kdict (pe_glob (v := .ref (He.ga K "SIZES")) (by rfl) (G_SIZES T) rfl) (pe_ix (show IxR _ (rIxT K) from ix_tup) (pv 0) pe_int (fun _ _ => rfl)) (fun _ _ => rfl)) pe_int) (nomark _)) (pss_one (ps_ret pe_bl)) pss_nil)
  (pss_cons (ps_set (i := 1) sc_is_deed.nd rfl (Or.inl rfl) (pe_ix ix_kdict (pe_glob (v := .ref (He.ga K "JUDGES")) (by rfl) (G_JUDGES T) rfl) (pe_ix (show IxR _ (rIxT K) from ix_tup) (pv 0) pe_int (fun _ _ => rfl)) (fun _ _ => rfl)))
  (pss_one (ps_ret (pe_callH (k := 5) (i := 1) (E := E0) hr pass0 (pa_cons (pe_slice (sl_G (K := K) rfl) (pv 0) (po_some pe_int) po_none) pa_nil))))))), ?_⟩
  obtain ⟨v, rfl, e, ⟨a, xs, rfl, hs, y, r, rfl, h1, hr2⟩, hq⟩ := h
  obtain rfl : y = .str e.word := h1
  have hl : r.length = e.rest.length := hr2.len
  obtain ⟨u, hu⟩ := inS T e
  refine ⟨_, rfl, _, _, _, _, _, rfl, .ty _, ty_tup hs, kit_tup, true, rfl, iteF ⟨_, rfl, show [].length ≤ sizeLine by decide, fun p hp => ?_⟩⟩
  have g1 : Gr K H (upd H p (.tup [])) := .new hp
  refine ⟨a, p, _, rfl, rfl, g1.sqT hs, .inl (.inl upd_same), by simp, _, rfl, iteF ⟨_, rfl, a, _, 0, _, rfl, rfl, g1.sqT hs, at_0, _, _, _, _, _, rfl, .ty _, .base (.str _), kit_str, true, rfl, iteF ⟨_, rfl, a, _, 0, _, rfl, rfl, g1.sqT hs, at_0, e.word, _, rfl, rfl, hu, _, rfl, iteF ?_⟩⟩⟩
  have el : ((V.str e.word :: r).length : Int) = (e.rest.length : Int) + 1 := by rw [List.length_cons, hl]; rfl
  refine ⟨_, rfl, a, _, rfl, .inr (g1.sqT hs), _, rfl, a, _, 0, _, rfl, rfl, g1.sqT hs, at_0, _, _, _, rfl, rfl, ixS T e, _, _, rfl, rfl, rfl, ?_⟩
  rw [el]
  by_cases hz : e.rest.length = e.size
  · refine ⟨false, ne_same hz, iteF ?_⟩
    refine ⟨_, rfl, a, _, 0, _, rfl, rfl, g1.sqT hs, at_0, _, _, _, rfl, rfl, ixJ T e, He.ga K e.judge, _, rfl, held_J T e, _, rfl, _, rfl, a, _, rfl, g1.sqT hs, fun H2 b g2 hb => ⟨_, rfl, e, rfl, ?_, ?_⟩⟩
    · refine ⟨b, r, rfl, ?_, RepL.std' hr2 (g1.trans g2).std⟩
      have := cut_from (xs := V.str e.word :: r) 1 ▸ hb
      exact this
    · rcases hq with ⟨h, q⟩ | ⟨h, q⟩
      · exact .inl ⟨h, fun H3 g3 => q H3 (g1.trans (g2.trans g3))⟩
      · exact .inr ⟨h, hz.symm, fun H3 g3 => q H3 (g1.trans (g2.trans g3))⟩
  · rcases hq with ⟨h, q⟩ | ⟨h, q⟩
    · exact absurd (good_size h).symm hz
    · exact ⟨true, ne_diff hz, iteT (q _ g1)⟩

end
end CK
set_option maxHeartbeats 4000000
namespace CK
open PySem PySem.Spec PyProof.Rows L2
section
variable {X : Cx} {a b c d : Expr} {ta tb tc td : TE} {pos : Pos}
/-- a op b op' c op'' d -/
def tChain3 (r r' r'' : R2) (ta tb tc td : TE) : TE := fun σ H Q => ta σ H fun x H1 => tb σ H1 fun y H2 => r x y H2 fun z H3 => ∃ k, z = .bl k ∧
  (if k = true then tc σ H3 fun y' H4 => r' y y' H4 fun z' H5 => ∃ k', z' = .bl k' ∧ (if k' = true then td σ H5 fun w' H6 => r'' y' w' H6 Q else Q (.bl false) H5) else Q (.bl false) H3)
theorem pe_chain3 {op op' op'' : CmpOp} {r r' r'' : R2} (ho : OpR X (compareOp op) r) (ho' : OpR X (compareOp op') r') (ho'' : OpR X (compareOp op'') r'') (ha : PE X a ta) (hb : PE X b tb) (hc : PE X c tc) (hd : PE X d td)
    (hm : lastMarks [op, op', op''] [b, c, d] = false := by with_unfolding_all rfl) : PE X (.Compare a [op, op', op''] [b, c, d] pos) (tChain3 r r' r'' ta tb tc td) := by
  refine ⟨fun pins s σ H Q I h => ?_⟩
  refine Compare_chain (thn (ha.run pins s σ H _ I h) fun v s1 ⟨x, H1, I1, r1, q1⟩ => chain_link (thn (hb.run pins s1 σ H1 _ I1 q1) fun u s2 ⟨y, H2, I2, r2, q2⟩ =>
    thn (ho pins s2 σ H2 x y v u _ I2 r1 r2 q2) fun d s3 ⟨z, H3, I3, r3, k, e, q3⟩ => ?_)) hm
  subst e
  cases r3
  refine wpAny_truthy_bool ?_
  cases k with
  | false => exact ite_ff ⟨.bl false, H3, I3, rfl, q3⟩
  | true =>
    refine ite_tt (chain_link (thn (hc.run pins s3 σ H3 _ I3 q3) fun u' s4 ⟨y', H4, I4, r4, q4⟩ => thn (ho' pins s4 σ H4 y y' u u' _ I4 r2 r4 q4) fun d' s5 ⟨z', H5, I5, r5, k', e', q5⟩ => ?_))
    subst e'
    cases r5
    refine wpAny_truthy_bool ?_
    cases k' with
    | false => exact ite_ff ⟨.bl false, H5, I5, rfl, q5⟩
    | true => exact ite_tt (chain_last (thn (hd.run pins s5 σ H5 _ I5 q5) fun w' s6 ⟨z2, H6, I6, r6, q6⟩ => ho'' pins s6 σ H6 y' z2 u' w' Q I6 r4 r6 q6))
end
end CK
set_option maxHeartbeats 0
namespace CK
open PySem PySem.Spec PyProof.Rows L2
section
variable {P : Program} {w : World} {K : PySem.W.Frag} {mg : Str → Option Value} {base : Heap}
abbrev Loss : Type := Str × Nat × Nat
abbrev pL (p : Loss) : D := .t [.s p.1, .i p.2.1, .i p.2.2]
def okL (p : Loss) : Prop := isNm p.1 = true ∧ p.2.1 < p.2.2 ∧ p.2.2 ≤ 100
def okLs (ps : List Loss) : Prop := ps.length ≤ 4 ∧ (∀ p ∈ ps, okL p) ∧ up (ps.map (·.1))
theorem repL3 {H : Hp} {p : Loss} {x : V} (h : Rep K H (pL p) x) : ∃ a, x = .ref a ∧ SqT K H a [.str p.1, .int (p.2.1 : Int), .int (p.2.2 : Int)] := by
  obtain ⟨a, y, z, u, rfl, hs, h1, h2, h3⟩ := rep3 h
  rw [show y = _ from h1, show z = _ from h2, show u = _ from h3] at hs
  exact ⟨a, rfl, hs⟩
def spLoss (K : PySem.W.Frag) : Sp := sp1 fun x H Q _ => ∃ p, Rep K H (pL p) x ∧ okL p ∧ ∀ H', Gr K H H' → Q (.bl true) H'
theorem sc_is_loss : FnScope ["thing", "ware", "top", "bottom"] ["thing"] (defScope (top 76)) := ⟨rfl, rfl, rfl, by decide +kernel, rfl, by decide +kernel, by decide +kernel⟩
theorem ok_is_loss (T : Tp w K mg base) : Cl P w K mg base CX0 4 "is_loss" (spLoss K) := by
  obtain ⟨fd, F⟩ := F_is_loss T
  refine ⟨fd, ["thing"], F.ok sc_is_loss (len1 rfl) (fun cdv A outer s H vs Q E hr h => ?_), G_is_loss T, F.kp, F.bindsN fun _ _ _ _ _ _ us hl => match us, hl with | [_], _ => rfl⟩
  refine ⟨_, PSs.nox (pss_cons (ps_if (PW.pt (pw_or (pt_not (pt_val (pe_isi (T := "tuple") (pv 0) (B_isinstance T) (B_tuple T)))) (pw_or (pt_cmpR op_ne (pe_callB call_len_seq (by rfl) (B_len T) (by decide +kernel) (pa_cons (pv 0) pa_nil)) pe_int (nomark _)) (pw_or1 (pt_not (pt_val (pe_f (ok_is_name T) hr (pa_cons (pe_ix (show IxR _ (rIxT K) from ix_tup) (pv 0) pe_int (fun _ _ => rfl)) pa_nil)))))))) (pss_one (ps_ret pe_bl)) pss_nil)
  (pss_cons (ps_asg (pv 0) (show PG _ _ (gTup K 3 _) from pg_tup rfl (pgs_cons (pg_name (i := 1) sc_is_loss.nd rfl (Or.inl rfl)) (pgs_cons (pg_name (i := 2) sc_is_loss.nd rfl (Or.inl rfl)) (pgs_cons (pg_name (i := 3) sc_is_loss.nd rfl (Or.inl rfl)) pgs_nil)))))
  (pss_one (ps_ret (pe_and (pe_f (ok_is_whole T) hr (pa_cons (pv 2) pa_nil)) (pe_and (pe_f (ok_is_whole T) hr (pa_cons (pv 3) pa_nil)) (pe_one (pe_chain3 op_le op_lt op_le pe_int (pv 2) (pv 3) (C8.pe_gc (by rfl) (C_MOST_BOTTOM T)))))))))), ?_⟩
  obtain ⟨v, rfl, p, hrep, ⟨hn, h1, h2⟩, q⟩ := h
  obtain ⟨a, rfl, hs⟩ := repL3 hrep
  refine ⟨_, rfl, _, _, _, _, _, rfl, .ty _, ty_tup hs, kit_tup, true, rfl, iteF ⟨_, rfl, a, _, rfl, .inr hs, rfl, _, rfl, iteF ⟨_, rfl, a, _, 0, _, rfl, rfl, hs, at_0, _, rfl, _, rfl, small (Nat.le_trans (isNm_len hn).2 (by decide)), fun H1 g1 => ⟨isNm p.1, rfl, ?_⟩⟩⟩⟩
  rw [hn]
  refine iteF ⟨_, rfl, a, _, rfl, g1.sqT hs, rfl, _, _, rfl, _, _, rfl, _, _, rfl, rfl, ?_⟩
  refine ⟨_, rfl, _, rfl, _, rfl, true, rfl, iteT ⟨_, rfl, _, rfl, _, rfl, true, rfl, iteT ⟨_, rfl, _, _, rfl, rfl, true, congrArg V.bl (decide_eq_true (by omega)), iteT ⟨_, rfl, _, _, rfl, rfl, true, congrArg V.bl (decide_eq_true (by omega)), iteT ⟨_, _, rfl, rfl, ?_⟩⟩⟩⟩⟩
  show Q (.bl (decide ((p.2.2 : Int) ≤ 100))) H1
  rw [show decide ((p.2.2 : Int) ≤ 100) = true from decide_eq_true (by omega)]
  exact q H1 g1

theorem loss_at {H : Hp} {ps : List Loss} {xs : List V} {i : Nat} {x : V} (h : RepL K H (ps.map pL) xs) (hx : xs[i]? = some x) : ∃ p a, ps[i]? = some p ∧ x = .ref a ∧ SqT K H a [.str p.1, .int (p.2.1 : Int), .int (p.2.2 : Int)] := by
  have hi := (List.getElem?_eq_some_iff.mp hx).1
  rw [h.len, List.length_map] at hi
  have hp := List.getElem?_eq_getElem (l := ps) (i := i) hi
  obtain ⟨x', e1, hrep⟩ := h.at (i := i) (d := pL ps[i]) (by rw [List.getElem?_map, hp] <;> rfl)
  rw [hx] at e1
  cases e1
  obtain ⟨b, h1, h2⟩ := repL3 hrep
  exact ⟨_, b, hp, h1, h2⟩
def dD (ps : List Loss) : D := .t (ps.map pL)
def spDry (K : PySem.W.Frag) : Sp := sp1 fun x H Q _ => ∃ ps, Rep K H (dD ps) x ∧ okLs ps ∧ ∀ H', Gr K H H' → Q (.bl true) H'
theorem sc_is_drying : FnScope ["thing", "one", "other"] ["thing"] (defScope (top 77)) := ⟨rfl, rfl, rfl, by decide +kernel, rfl, by decide +kernel, by decide +kernel⟩
theorem ok_is_drying (T : Tp w K mg base) : Cl P w K mg base CX0 5 "is_drying" (spDry K) := by
  obtain ⟨fd, F⟩ := F_is_drying T
  refine ⟨fd, ["thing"], F.ok sc_is_drying (len1 rfl) (fun cdv A outer s H vs Q E hr h => ?_), G_is_drying T, F.kp, F.bindsN fun _ _ _ _ _ _ us hl => match us, hl with | [_], _ => rfl⟩
  refine ⟨_, PSs.nox (pss_cons (ps_if (PW.pt (pw_or (pt_not (pt_val (pe_isi (T := "tuple") (pv 0) (B_isinstance T) (B_tuple T)))) (pw_or (pt_cmpR op_gt (pe_callB call_len_seq (by rfl) (B_len T) (by decide +kernel) (pa_cons (pv 0) pa_nil)) (C8.pe_gc (by rfl) (C_MOST_WARES T)) (nomark _)) (pw_or1 (pt_not (pt_val (pe_callB (cr_all rfl) (by rfl) (B_all T) (by decide +kernel) (pa_cons (pe_lc (own := [("one", 1)]) rfl sc_is_drying.nd (pi_tup (pv 0)) (blkOk_by (own := [("one", 1)]) (N := ["thing", "one", "other"]) (sc := defScope (top 77)) (by decide +kernel)) (fun _ _ _ _ _ => (pg_name (i := 1) sc_is_drying.nd rfl (Or.inl rfl))) (fun _ _ _ _ _ => pts_nil) (fun _ _ _ _ _ => (pe_f (ok_is_loss T) hr (pa_cons (pv 1) pa_nil)))) pa_nil)))))))) (pss_one (ps_ret pe_bl)) pss_nil)
  (pss_one (ps_ret (pe_callB (cr_all rfl) (by rfl) (B_all T) (by decide +kernel) (pa_cons (pe_lc (own := [("one", 1), ("other", 2)]) rfl sc_is_drying.nd (RZ.pi_zipA (by rfl) (B_zip T) (pa_cons (pe_slice (sl_G (K := K) rfl) (pv 0) po_none (po_some (pe_un un_neg pe_int))) (pa_cons (pe_slice (sl_G (K := K) rfl) (pv 0) (po_some pe_int) po_none) pa_nil))) (blkOk_by (own := [("one", 1), ("other", 2)]) (N := ["thing", "one", "other"]) (sc := defScope (top 77)) (by decide +kernel)) (fun _ _ _ _ _ => (show PG _ _ (gTup K 2 _) from pg_tup rfl (pgs_cons (pg_name (i := 1) sc_is_drying.nd rfl (Or.inl rfl)) (pgs_cons (pg_name (i := 2) sc_is_drying.nd rfl (Or.inl rfl)) pgs_nil)))) (fun _ _ _ _ _ => pts_nil) (fun _ _ _ _ _ => (pe_cmpR op_lt_str (pe_ix (show IxR _ (rIxT K) from ix_tup) (pv 1) pe_int (fun _ _ => rfl)) (pe_ix (show IxR _ (rIxT K) from ix_tup) (pv 2) pe_int (fun _ _ => rfl)) (nomark _)))) pa_nil))))), ?_⟩
  obtain ⟨v, rfl, ps, ⟨a, xs, rfl, hs, hr2⟩, ⟨hlen, hok, hup⟩, q⟩ := h
  have hl : xs.length = ps.length := by rw [hr2.len, List.length_map]
  refine ⟨_, rfl, _, _, _, _, _, rfl, .ty _, ty_tup hs, kit_tup, true, rfl, iteF ⟨_, rfl, a, _, rfl, .inr hs, _, _, rfl, rfl, _, rfl, ?_⟩⟩
  rw [show decide ((4 : Int) < (xs.length : Int)) = false from decide_eq_false (by omega)]
  have sz : ps.length ≤ sizeLine := small (by omega)
  refine iteF ⟨_, rfl, a, rfl, ⟨_, hs⟩, fun D hD => lc_B (K := K) (walk_tup (K := K) (a := a) (xs := xs)) (fun _ => true) hD (by rw [hl]; exact sz) (fun H g => g.sqT hs) ?_ fun H1 g1 h1 => ⟨_, _, rfl, SqL.of h1, _, rfl, ?_⟩⟩
  · rintro i x H1 _ Q' hi gr ⟨rfl, hx⟩ k
    obtain ⟨p, hp⟩ : ∃ p, ps[i]? = some p := ⟨ps[i], List.getElem?_eq_getElem (by omega)⟩
    obtain ⟨x', e1, hrep⟩ := hr2.at (i := i) (d := pL p) (by rw [List.getElem?_map, hp] <;> rfl)
    rw [hx] at e1
    cases e1
    exact ⟨rfl, _, rfl, _, rfl, p, hrep.std' gr.std, hok p (List.mem_of_getElem? hp), fun H3 g3 => k H3 g3⟩
  rw [range_true fun _ _ => rfl]
  refine iteF ⟨_, rfl, _, rfl, _, rfl, a, xs, rfl, g1.sqT hs, fun H2 b g2 hb => ⟨_, rfl, _, rfl, a, xs, rfl, g2.sqT (g1.sqT hs), fun H3 c g3 hc => ?_⟩⟩
  rw [cut_last] at hb
  have hc' : SqT K H3 c (xs.drop 1) := cut_from (xs := xs) 1 ▸ hc
  have hb' := g3.sqT hb
  have g123 := g1.trans (g2.trans g3)
  refine ⟨b, c, _, _, rfl, .inr ⟨hb', hc', fun D2 hD2 => lc_B (K := K) (walk_zipT (K := K) (n := ps.length - 1) (by rw [List.length_dropLast, List.length_drop, hl]; omega)) (fun _ => true) hD2 (by omega) (fun H g => ⟨g.sqT hb', g.sqT hc'⟩) ?_ fun H4 g4 h4 => ⟨_, _, rfl, SqL.of h4, ?_⟩⟩⟩
  · rintro i x H4 _ Q' hi gr ⟨U, y, z, rfl, hU, rfl, hy, hz⟩ k
    have hy : xs.dropLast[i]? = some y := hy
    have hz : (xs.drop 1)[i]? = some z := hz
    rw [List.dropLast_eq_take, List.getElem?_take, if_pos (by omega)] at hy
    rw [List.getElem?_drop, Nat.add_comm] at hz
    obtain ⟨p, a1, hp, rfl, hs1⟩ := loss_at hr2 hy
    obtain ⟨p2, a2, hp2, rfl, hs2⟩ := loss_at hr2 hz
    have gu := (g123.trans gr).trans (Gr.new (o := .tup [.ref a1, .ref a2]) hU)
    refine ⟨U, _, rfl, .inl (.inl upd_same), rfl, .ref a1, _, rfl, .ref a2, _, rfl, rfl, rfl, _, rfl, a1, _, 0, _, rfl, rfl, gu.sqT hs1, at_0, _, rfl, a2, _, 0, _, rfl, rfl, gu.sqT hs2, at_0, p.1, p2.1, rfl, rfl, ?_⟩
    rw [show decide (p.1.cps.toList < p2.1.cps.toList) = true from decide_eq_true (up_at hup (by rw [List.getElem?_map, hp] <;> rfl) (by rw [List.getElem?_map, hp2] <;> rfl))]
    exact k _ (.new hU)
  rw [range_true fun _ _ => rfl]
  exact q _ (g123.trans g4)

end
end CK
set_option maxHeartbeats 4000000
/-! sorted(numbers, key=lambda number: self.told[number][0]) -/
namespace CK
open PySem PySem.Spec PyProof.Rows L2
abbrev bF (v : V) (L : Addr) : List (Str × V) := [("drying_told", v), ("told", .ref L)]
/-- what the lambda reads: the book's list and the days in it -/
structure DayAt (K : PySem.W.Frag) (H : Hp) (b : Addr) (day : Nat → Nat) (ns : List Nat) : Prop where
  ex : ∃ dx vd L xs, H b = some (.ins (cB K) dx (bF vd L)) ∧ H L = some (.lst xs) ∧ ∀ n ∈ ns, n < sizeLine ∧ ∃ tp y, xs[n]? = some (.ref tp) ∧ SqT K H tp [.int (day n : Nat), y]
section
variable {X : Cx} {pins : List (Addr × Obj)} {σ : L2.St} {H : Hp} {s : Shared} {b f c c' : Addr} {day : Nat → Nat} {ns : List Nat} {pm ctv : Value} {params : Arguments} {scope : Scope} {q : Str} {clos : List (Str × Addr)} {p1 p2 p3 p4 p5 p6 : Pos} {j0 : Nat} {A : Around}
/-- the lambda's body, by hand: all that was there stands -/
theorem day_turn (I : Inv X pins σ H s) (kB : Cls X.K (cB X.K)) (nT : NoAttr X.K (cB X.K) "told") (hd : DayAt X.K H b day ns)
    (hbind : ∀ v, bindArgs (PySem.W.kla_fn "<lambda>" q params (.Subscript (.Subscript (.Attribute (.Name "self" p1) "told" p2) (.Name "number" p3) p4) (.Constant (.int 0) j0 p5) p6) scope clos pm (.ref c') ctv) ⟨[v], []⟩ = pure [(("number" : Str), v)])
    (hk : scope.kind = .function) (hco : scope.isCoroutine = false) (hge : scope.isGenerator = false) (hcell : ∀ y ∈ scope.names, y.2 ≠ .cell) (hnum : scope.names.lookup ("number" : Str) = some .local) (hself : scope.names.lookup ("self" : Str) = some .free)
    (hc : clos.lookup ("self" : Str) = some c) (hcv : s.heap.IsCell c (some (.ref b))) (hf : s.heap.get? f = some (PySem.W.kla_obj "<lambda>" q params (.Subscript (.Subscript (.Attribute (.Name "self" p1) "told" p2) (.Name "number" p3) p4) (.Constant (.int 0) j0 p5) p6) scope clos pm c' ctv))
    (hq : H c' = some (LamX.CodeO c' q)) (hr : A.depth < recursionLimit) {n : Nat} {t : Tok} (hn : n ∈ ns) (h : Heap) (tk : Nat) (kp : ∀ b o, s.heap.get? b = some o → h.get? b = some o) :
    wpAny (model X.prog X.w) A (call (.ref f) [.int (n : Int) t]) (PySem.W.KeyPure (.int (day n : Nat)) { s with heap := h, toks := tk }) (fun _ _ => False) { s with heap := h, toks := tk } := by
  have J : Inv X pins σ H { s with heap := h, toks := tk } := I.kept kp
  obtain ⟨⟨oc, vs, tq, hoc, hdc, hvc⟩, _, _⟩ := J.hok c' _ hq
  refine wpAny_call (PySem.W.kla_callFunE hr (kp _ _ hf) rfl hco hge rfl ⟨c', oc, vs, tq, rfl, hoc, hdc, hvc⟩ ?_)
  rw [hbind]
  refine wpAny_pure (wpAny_newFunctionEnv (fun y hy => hcell y hy) (fun y hy => by simp at hy; rw [hy]; exact hnum) (fun h₁ hns hsb => ⟨J.nolimit.fresh _ hsb, ?_⟩) hk)
  have kp1 : ∀ b o, h.get? b = some o → h₁.get? b = some o := fun b o e => hsb.extBut b o (Nat.ne_of_lt (Heap.lt_size e)) (Heap.get?_push_of_some _ e)
  have J1 : Inv X pins σ H { s with heap := h₁, toks := tk + 1 } := J.kept kp1
  refine PySem.W.kla_codeExpr ?_
  obtain ⟨dx, vd, L, xs, hb, hL, hall⟩ := hd.ex
  obtain ⟨nl, tp, y, hx, hy⟩ := hall n hn
  have hself' : h₁.IsCell c (some (.ref b)) := by
    obtain ⟨o, e1, e2⟩ := hcv
    exact ⟨o, kp1 _ _ (kp _ _ e1), e2⟩
  show wpAny _ _ (eval _ (newEnv scope h.objs.size mainGlobals clos _ _ _ _ _)) _ _ { s with heap := h₁, toks := tk + 1 }
  refine Subscript_ (Subscript_ (attr_of rfl (wpAny_Name (wpAny_loadName_free hk hself hc hself' ?_) (by decide))))
  obtain ⟨mA, O, r, _, _, _⟩ := ins_get J1.hok hb
  obtain ⟨u, hu, ru⟩ := RelO.some_of (v := V.ref L) (o := mA "told") (by rw [show V.ref L = V.ref L from rfl]; exact r "told")
  have eu : u = .ref L := ru
  subst eu
  refine get_map J1.kIn O (kB.get "told") kB.hd nT hu (handed_of (v := V.ref L) rfl) ?_
  refine wpAny_Name (wpAny_loadName_local hk hnum hns rfl ?_) (by decide)
  obtain ⟨its, r2, pl, hz⟩ := J1.list (.inl (.inl hL))
  obtain ⟨w2, ew, rw2⟩ := r2.get hx
  have ew2 : w2 = .ref tp := rw2
  subst ew2
  have l63 := line63
  refine item_listR pl.isList (by omega) (by omega) (by simpa using ew) ?_ (by rfl)
  refine wpAny_Constant_int ?_
  obtain ⟨its2, r3, pl2, hz2⟩ := J1.tuple hy
  obtain ⟨w3, ew3, rw3⟩ := r3.get (i := 0) rfl
  obtain ⟨t3, e3⟩ := (show ∃ t, w3 = Value.int (day n : Nat) t from rw3)
  subst e3
  refine subscriptTail_builtinR (x := .int (day n : Nat) t3) pl2.typeIs slot_tuple_getitem.lookup (getItem_tuple (j := 0) pl2 (by decide) (by decide) ?_ (by simpa using ew3) ⟨rfl, ?_⟩) (by rfl)
  · have hl := r3.length
    rw [List.size_toArray, ← hl]
    rfl
  · exact ⟨h₁, _, rfl, kp1, .int _ _⟩
end
end CK
set_option maxHeartbeats 4000000
namespace CK
open PySem PySem.Spec PyProof.Rows L2
def byDay (day : Nat → Nat) (ns : List Nat) : List Nat := ns.mergeSort fun a b => decide ((day a : Int) ≤ (day b : Int))
abbrev iV (ns : List Nat) : List V := ns.map fun n => V.int (n : Nat)
def tSortDay (K : PySem.W.Frag) (i : Nat) (te : TE) : TE := fun σ H Q => ∃ b, σ[i]? = some (some (.ref b)) ∧ te σ H fun x H1 => ∃ p ns day, x = .ref p ∧ SqL K H1 p (iV ns) ∧ DayAt K H1 b day ns ∧ LamX.Tabs (TT K) H1 ∧
  ∀ H2 q, Gr K H1 H2 → H2 q = some (.lst (iV (byDay day ns))) → Q (.ref q) H2
theorem each_of : ∀ {ns : List Nat} {us : List Value}, Vals (iV ns) us → PySem.W.EachIs (fun v (n : Nat) => ∃ t, v = .int (n : Nat) t) us ns
  | [], _, .nil => .nil
  | n :: ns, _, .cons r t => .cons r (each_of t)
theorem vals_of : ∀ {ns : List Nat} {us : List Value}, PySem.W.EachIs (fun v (n : Nat) => ∃ t, v = .int (n : Nat) t) us ns → Vals (iV ns) us
  | [], _, .nil => .nil
  | n :: ns, _, .cons r t => .cons r (vals_of t)
theorem DayAt.gr {K : PySem.W.Frag} {H H' : Hp} {b : Addr} {day : Nat → Nat} {ns : List Nat} (d : DayAt K H b day ns) (g : Gr K H H') : DayAt K H' b day ns := by
  obtain ⟨dx, vd, L, xs, h1, h2, h3⟩ := d.ex
  exact ⟨dx, vd, L, xs, g.ins h1, g.lst h2, fun n hn => by
    obtain ⟨a, tp, y, b, c⟩ := h3 n hn
    exact ⟨a, tp, y, b, g.sqT c⟩⟩
section
variable {X : Cx} {i j0 : Nat} {e : Expr} {te : TE} {params : Arguments} {scope : Scope} {c P : Addr} {p pos kpos lpos p1 p2 p3 p4 p5 p6 : Pos}
theorem pe_sortDay (hc0 : X.calm = true) (ha : PE X e te) (kB : Cls X.K (cB X.K)) (nT : NoAttr X.K (cB X.K) "told") (TB : LamX.TabB X.base X.mg c P) (hcode : X.env.code = .ref c) (hP : TT X.K = [(P, X.env.qual ++ "<lambda>")])
    (hN : X.N[i]? = some ("self" : Str)) (hv : X.env.scope.names.lookup ("self" : Str) = some .cell) (hr : Room 4 X.A) (hm : X.mg "sorted" = none) (hg : Gl X "sorted")
    (hbind : ∀ (q : Str) (cl : List (Str × Addr)) (pm cv ctv v : Value), bindArgs (PySem.W.kla_fn "<lambda>" q params (.Subscript (.Subscript (.Attribute (.Name "self" p1) "told" p2) (.Name "number" p3) p4) (.Constant (.int 0) j0 p5) p6) scope cl pm cv ctv) ⟨[v], []⟩ = pure [(("number" : Str), v)])
    (hdef : defaultsOf params X.env = ([], [])) (hk : scope.kind = .function) (hco : scope.isCoroutine = false) (hge : scope.isGenerator = false) (hnames : scope.names = [(("number" : Str), NameKind.local), (("self" : Str), NameKind.free)])
    (h1 : starEach (e :: []) X.env = (false, eval e X.env) :: starEach [] X.env := by rfl) :
    PE X (.Call (.Name "sorted" p) [e] [⟨some "key", .Lambda params (.Subscript (.Subscript (.Attribute (.Name "self" p1) "told" p2) (.Name "number" p3) p4) (.Constant (.int 0) j0 p5) p6) scope lpos, kpos⟩] pos) (tSortDay X.K i te) := by
  refine ⟨fun pins s σ H Q I h => ?_⟩
  obtain ⟨b, hs, h⟩ := h
  have hfree : ∀ y ∈ scope.names, y.2 = NameKind.free → ∃ c, X.env.cells.lookup y.1 = some c := fun y hy e => by
    rw [hnames] at hy
    simp only [List.mem_cons, List.not_mem_nil, or_false] at hy
    rcases hy with rfl | rfl
    · cases e
    · exact I.ok.has _ (.inl hv)
  refine wpAny_Call_Name_kw (ld_blt (u := .builtin "sorted") I hg hm (by decide +kernel) ?_)
  have ha' := (pa_cons (X := X) ha pa_nil h1)
  refine PyProof.Rows.callWith_kw (thn (ha'.run pos pins s σ H (fun vs H1 => match vs with
    | [x] => ∃ p ns day, x = .ref p ∧ SqL X.K H1 p (iV ns) ∧ DayAt X.K H1 b day ns ∧ LamX.Tabs (TT X.K) H1 ∧ ∀ H2 q, Gr X.K H1 H2 → H2 q = some (.lst (iV (byDay day ns))) → Q (.ref q) H2
    | _ => False) I h) fun us s1 ⟨vs, H1, I1, r1, q1⟩ => ?_) (by rw [h1] <;> rfl) (by rw [h1] <;> rfl) (by rfl) (by rfl)
  match vs, q1 with
  | [x], ⟨p0, ns, day, ex, hl, hd, hT, q⟩ =>
  subst ex
  obtain ⟨u, rfl, ru⟩ := vals1 r1
  cases ru
  show wpAny _ _ (evalAll ((do let v ← eval _ X.env; standAt pos; pure v) :: [])) _ _ s1
  refine wpAny_evalAll_cons (wpAny_bind (LamX.lam_make2 (T := TT X.K) I1 TB hcode (by rw [hP]; exact List.mem_singleton.mpr rfl) (fun p hp _ => by rw [hP] at hp; rw [List.mem_singleton.mp hp]) hT hdef hfree fun f c' pm ctv H2 s2 I2 eN T2 hf hfn hfr hco' => wpAny_bind (wpAny_standAt (wpAny_pure ?_))))
  refine wpAny_evalAll_nil ?_
  show wpAny _ _ (call (.builtin "sorted") [.ref p0] [(("key" : Str), .ref f)]) _ _ s2
  have g : Gr X.K H1 H2 := ⟨eN, fun _ => T2⟩
  have hd2 := hd.gr g
  obtain ⟨its, r, pl, hz⟩ := I2.list (g.sqL hl)
  have hlen : ns.length ≤ sizeLine := by
    have := hz
    rw [List.length_map] at this
    exact this
  obtain ⟨c0, hc1, hc2⟩ : ∃ c0, X.env.cells.lookup ("self" : Str) = some c0 ∧ s2.heap.IsCell c0 (some (.ref b)) := by
    obtain ⟨m, hn, hl'⟩ := I2.loc
    obtain ⟨u, ru, lk⟩ := hl' i "self" (.ref b) hN hs (.inr (.inl hv))
    cases ru
    rcases lk with ⟨z, _⟩ | ⟨_, c0, e1, e2⟩
    · have z : X.env.scope.names.lookup ("self" : Str) = some .local := z
      rw [hv] at z
      cases z
    · exact ⟨c0, e1, e2⟩
  refine PySem.W.sorted_key_data (R := fun v (n : Nat) => ∃ t, v = .int (n : Nat) t) (bs := ns) (b := false) (fun n => .int (day n : Nat)) pl.isList (each_of r) (PySem.W.AllAlike.of fun _ _ => by simp [PySem.W.alike]) (PySem.W.Sortable.others fun _ => ⟨by simp, by simp⟩) hlen
    (fun n _ => by
      have := hr.units
      simp only [PyData.depth]
      omega) (PyProof.Rows.ksk_s1 _ _) (fun _ => PyProof.Rows.ksk_l1 _ _) (fun _ => PyProof.Rows.ksk_t1 _ _) (fun v n ⟨t, ev⟩ hn h tk kp => ?_) fun out cc h' tk kp _ hget hol hE => ?_
  · subst ev
    exact day_turn I2 kB nT hd2 (hbind _ _ _ _ _) hk hco hge (by rw [hnames]; decide) (by rw [hnames]; rfl) (by rw [hnames]; rfl) (by rw [hnames]; simp [cloFrom, hc1]) hc2 hf hco' hr.in1.in1.depth hn h tk kp
  · have e1 : ns.mergeSort (PySem.W.dataLe false fun n => .int (day n : Nat)) = byDay day ns := by
      rw [PySem.W.dataLe_int]
      rfl
    rw [e1] at hE
    have hfr2 : H2 (s2.heap.objs.size + 1) = none := I2.hok.fresh (Nat.le_succ _)
    refine ⟨.ref _, upd H2 (s2.heap.objs.size + 1) (.lst (iV (byDay day ns))), I2.laid (t' := tk) kp (Nat.le_succ _) ⟨?_, out, cc, vals_of hE, hget⟩, rfl, q _ _ (g.add hfr2) upd_same⟩
    rw [List.length_map]
    unfold byDay
    rw [List.length_mergeSort]
    exact hlen
end
end CK
set_option maxHeartbeats 4000000
namespace CK
open PySem PySem.Spec PyProof.Rows L2
section
variable {K : PySem.W.Frag} {σ : L2.St}
/-- a comprehension with a test -/
theorem lc_T {J : It} {n : Nat} {G : Hp → Prop} {Y : Nat → Hp → V → Hp → Prop} (w : Walk J n G Y) {g : TG} {tt : L2.TT} {te : TE} {vs : List Nat} {H1 : Hp} {D : Addr} {Qd : Hp → Prop} (kp : Nat → Bool) (val : Nat → V)
    (hD : H1 D = none) (hn : n ≤ sizeLine) (hG : ∀ H, Gr K H1 H → G H)
    (hs : ∀ i x H H' (QY : VK) (QN : Hp → Prop), i < n → Gr K H1 H → Y i H x H' → (kp i = true → ∀ H3, Gr K H H3 → QY (val i) H3) → (kp i = false → ∀ H3, Gr K H H3 → QN H3) →
      g x (wipe σ vs) H' fun σ2 H2 => wipe σ2 vs = wipe σ vs ∧ tt σ2 H2 fun b H3 => if b = true then te σ2 H3 QY else QN H3)
    (hd : ∀ H, Gr K H1 H → H D = some (.lst (((List.range n).filter kp).map val)) → Qd H) :
    ∃ W : Nat → Nat → Hp → Prop, (∃ m, W 0 m (upd H1 D (.lst []))) ∧ ∀ i m H, W i m H →
      (J.stop i H ∧ Qd H) ∨ (J.go i H ∧ ∃ Nx : Hp → Prop, (∀ H', Nx H' → ∃ m', m' < m ∧ W (i + 1) m' H') ∧ ∀ x H', J.yld i H x H' → g x (wipe σ vs) H' fun σ2 H2 => wipe σ2 vs = wipe σ vs ∧ tt σ2 H2 fun b H3 =>
        if b = true then te σ2 H3 fun y H4 => ∃ acc, H4 D = some (.lst acc) ∧ acc.length < sizeLine ∧ Nx (upd H4 D (.lst (acc ++ [y]))) else Nx H3) := by
  refine lc_it w (fun i H => H D = some (.lst (((List.range i).filter kp).map val)) ∧ Gr K H1 H) ⟨upd_same, .new hD⟩ (fun i H _ ⟨_, gr⟩ => hG H gr) ?_ (fun H ⟨e, gr⟩ => hd H gr e)
  rintro i x H H' hi ⟨hDa, gr⟩ y
  refine hs i x H H' _ _ hi gr y (fun hk H3 g3 => ?_) (fun hk H3 g3 => ?_)
  · have hD3 := g3.lst hDa
    have hl : (((List.range i).filter kp).map val).length ≤ i := by
      rw [List.length_map]
      exact Nat.le_trans (List.length_filter_le _ _) (by simp)
    refine ⟨_, hD3, by omega, ?_, (gr.trans g3).put hD hD3⟩
    rw [upd_same, List.range_succ, List.filter_append, List.map_append]
    simp [hk]
  · refine ⟨?_, gr.trans g3⟩
    rw [g3.lst hDa, List.range_succ, List.filter_append, List.map_append]
    simp [hk]
end
/-! ### books -/
abbrev Itm : Type := Option (Nat × Deed)
abbrev pE (p : Nat × Deed) : D := .t [.i p.1, p.2.d]
def itD : Itm → D
  | none => .n
  | some p => pE p
structure Bk (K : PySem.W.Frag) (H : Hp) (b L : Addr) (dr : List Loss) (its : List Itm) : Prop where
  ex : ∃ dx vd xs, H b = some (.ins (cB K) dx (bF vd L)) ∧ H L = some (.lst xs) ∧ Rep K H (dD dr) vd ∧ RepL K H (its.map itD) xs
  len : its.length ≤ 1000
section
variable {K : PySem.W.Frag} {H H' : Hp} {b L : Addr} {dr : List Loss} {its : List Itm}
theorem Bk.gr (B : Bk K H b L dr its) (g : Gr K H H') : Bk K H' b L dr its := by
  obtain ⟨dx, vd, xs, h1, h2, h3, h4⟩ := B.ex
  exact ⟨⟨dx, vd, xs, g.ins h1, g.lst h2, h3.std' g.std, h4.std' g.std⟩, B.len⟩
/-- another book's list, or the deck, may change -/
theorem Bk.grE {ex : Addr → Prop} (B : Bk K H b L dr its) (g : GrE K ex H H') (hx : ∀ c, ex c → (∃ l, H c = some (.lst l)) ∧ c ≠ L) : Bk K H' b L dr its := by
  obtain ⟨dx, vd, xs, h1, h2, h3, h4⟩ := B.ex
  have st := g.std fun c hc => (hx c hc).1
  exact ⟨⟨dx, vd, xs, st.ins _ _ _ _ (by simp) h1, g.lst h2 fun z => (hx L z).2 rfl, h3.std' st, h4.std' st⟩, B.len⟩
/-- the numbers that are told -/
def live (its : List Itm) : List Nat := (List.range its.length).filter fun i => (its.getD i none).isSome
def dayOf (its : List Itm) (n : Nat) : Nat := match its.getD n none with
  | some p => p.1
  | none => 0
def nums (its : List Itm) : List Nat := byDay (dayOf its) (live its)
def days (its : List Itm) : List (Nat × Deed) := (nums its).filterMap fun n => its.getD n none
theorem itm_at {xs : List V} (h : RepL K H (its.map itD) xs) {i : Nat} (hi : i < its.length) : ∃ x, xs[i]? = some x ∧ Rep K H (itD (its.getD i none)) x := by
  have e : its[i]? = some (its.getD i none) := by rw [List.getD_eq_getElem?_getD, List.getElem?_eq_getElem hi] <;> rfl
  exact h.at (by rw [List.getElem?_map, e] <;> rfl)
theorem itD_none {o : Itm} {x : V} (h : Rep K H (itD o) x) : (x = .non ↔ o = none) := by
  cases o with
  | none => exact ⟨fun _ => rfl, fun _ => h⟩
  | some p =>
    obtain ⟨a, xs, e, _⟩ := h
    exact ⟨fun z => (by rw [e] at z; cases z), fun z => (by cases z)⟩
theorem live_lt {n : Nat} (h : n ∈ live its) : n < its.length ∧ ∃ p, its.getD n none = some p := by
  unfold live at h
  obtain ⟨h1, h2⟩ := List.mem_filter.mp h
  exact ⟨List.mem_range.mp h1, Option.isSome_iff_exists.mp h2⟩
theorem Bk.dayAt (B : Bk K H b L dr its) : DayAt K H b (dayOf its) (live its) := by
  obtain ⟨dx, vd, xs, h1, h2, h3, h4⟩ := B.ex
  refine ⟨dx, vd, L, xs, h1, h2, fun n hn => ?_⟩
  obtain ⟨hl, p, hp⟩ := live_lt hn
  refine ⟨Nat.lt_of_lt_of_le hl (Nat.le_trans B.len (by decide)), ?_⟩
  obtain ⟨x, hx, hr⟩ := itm_at h4 hl
  rw [hp] at hr
  obtain ⟨a, y, z, rfl, hs, e1, _⟩ := rep2 hr
  rw [show y = .int (p.1 : Int) from e1] at hs
  refine ⟨a, z, hx, ?_⟩
  unfold dayOf
  rw [hp]
  exact hs
theorem nums_mem {n : Nat} : n ∈ nums its ↔ n ∈ live its := by
  unfold nums byDay
  exact (List.mergeSort_perm _ _).mem_iff
end
end CK
set_option maxHeartbeats 0
namespace CK
open PySem PySem.Spec PyProof.Rows L2
section
variable {P : Program} {w : World} {K : PySem.W.Frag} {mg : Str → Option Value} {base : Heap}
/-- Book.numbers -/
def spNums (K : PySem.W.Frag) : Sp := sp1 fun x H Q _ => ∃ b L dr its, x = .ref b ∧ Bk K H b L dr its ∧ LamX.Tabs (TT K) H ∧ ∀ H' q, Gr K H H' → H' q = some (.lst (iV (nums its))) → Q (.ref q) H'
theorem filter_live {its : List Itm} : ((List.range its.length).filter fun i => (its.getD i none).isSome) = live its := rfl
theorem sc_Book_numbers : FnScope ["self", "counting", "number", "one"] ["self"] (defScope (inClass (top 106) 3)) := ⟨rfl, rfl, rfl, by decide +kernel, rfl, by decide +kernel, by decide +kernel⟩
theorem ok_Book_numbers (T : Tp w K mg base) : ∃ fd, FnOk P w K mg base CX0 6 (He.ma K (He.ga K "Book") "numbers") fd ["self"] (spNums K) ∧ Binds K fd ["self"] [] := by
  obtain ⟨fd, F⟩ := F_Book_numbers T
  have hb : Binds K fd ["self"] [] := F.bindsN fun _ _ _ _ _ _ us hl => match us, hl with | [_], _ => rfl
  obtain ⟨oc, od, dV, kV, doc, pm, an, cdv, ct, osl, rfl, lk, hcd, _, _⟩ := F.ex
  obtain ⟨c, rfl⟩ := He.codeIn_ref hcd
  have ec : (He.cT K ("Book", some "numbers")).1 = c := He.codeOf_eq lk rfl
  refine ⟨_, fn_of lk hcd sc_Book_numbers (len1 rfl) (fun A outer s H vs Q E hr h => ?_), hb⟩
  refine ⟨_, PSs.nox (pss_cons (ps_setLc (i := 1) (own := [("number", 2), ("one", 3)]) rfl sc_Book_numbers.nd rfl rfl (sw_true rfl rfl rfl (by decide +kernel)) (pi_enum (by rfl) (B_enumerate T) (pa_cons (show PE _ _ (tFld K _ _) from pe_fld (pv 0) rfl) pa_nil)) (blkOk_by (own := [("number", 2), ("one", 3)]) (N := ["self", "counting", "number", "one"]) (sc := defScope (inClass (top 106) 3)) (by decide +kernel)) (fun _ _ _ _ _ => (show PG _ _ (gTup K 2 _) from pg_tup rfl (pgs_cons (pg_name (i := 2) sc_Book_numbers.nd rfl (Or.inl rfl)) (pgs_cons (pg_name (i := 3) sc_Book_numbers.nd rfl (Or.inl rfl)) pgs_nil)))) (fun _ _ _ _ _ => (pts_one (pt_cmp (pc_notN (pv 3))))) (fun _ _ _ _ _ => (pv 2)))
  (pss_one (ps_ret (pe_sortDay (i := 0) rfl (pv 1) (K_Book T) (N_Book_told T) T.tb (congrArg Value.ref ec.symm) (by rfl) rfl rfl (hr.mono (by decide)) (B_sorted T) (by rfl) (fun _ _ _ _ _ _ => rfl) rfl rfl rfl rfl rfl)))), ?_⟩
  obtain ⟨v, rfl, b, L, dr, its, rfl, B, hT, q⟩ := h
  obtain ⟨dx, vd, xs, h1, h2, h3, h4⟩ := B.ex
  have hl : xs.length = its.length := by rw [h4.len, List.length_map]
  refine ⟨_, rfl, b, _, dx, _, _, rfl, h1, K_Book T, N_Book_told T, rfl, L, xs, rfl, SqL.of h2, fun D hD => lc_T (K := K) (walk_enum (K := K) (a := L) (xs := xs)) (fun i => (its.getD i none).isSome) (fun i => .int (i : Nat)) hD (by rw [hl]; exact small B.len) (fun H g => g.sqL (SqL.of h2)) ?_ fun H2 g2 e2 => ?_⟩
  · rintro i x H2 _ QY QN hi gr ⟨U, y, z, rfl, hU, rfl, hy, hz⟩ k1 k2
    cases (show some (V.int (i : Nat)) = some y from hy)
    have hz : xs[i]? = some z := hz
    obtain ⟨x', e1, e2⟩ := itm_at h4 (i := i) (by omega)
    rw [hz] at e1
    cases e1
    refine ⟨U, _, rfl, .inl (.inl upd_same), rfl, _, _, rfl, _, _, rfl, rfl, rfl, _, rfl, _, rfl, ?_⟩
    cases ho : its.getD i none with
    | none =>
      rw [decide_eq_true ((itD_none e2).mpr ho)]
      exact iteF (k2 (by rw [ho] <;> rfl) _ (.new hU))
    | some p =>
      rw [decide_eq_false fun zz => by rw [(itD_none e2).mp zz] at ho; cases ho]
      exact iteT ⟨_, rfl, k1 (by rw [ho] <;> rfl) _ (.new hU)⟩
  · rw [hl, filter_live] at e2
    exact ⟨b, rfl, _, rfl, D, live its, dayOf its, rfl, SqL.of e2, (B.gr g2).dayAt, g2.tabs hT, fun H3 q' g3 e3 => q H3 q' (g2.trans g3) e3⟩
theorem met_numbers (T : Tp w K mg base) : C8.Met P w K mg base 6 (cB K) "numbers" (spNums K) [] := by
  obtain ⟨fd, F, b⟩ := ok_Book_numbers (P := P) T
  exact ⟨_, fd, _, [], K_Book T, M_Book_numbers T, F, b, .nil⟩
/-- Book.by_days -/
theorem repL_of {H : Hp} {f : Nat → Itm} : ∀ {ns : List Nat} {acc : List V}, acc.length = ns.length → (∀ (i : Nat) (y : V), acc[i]? = some y → ∃ (n : Nat) (p : Nat × Deed), ns[i]? = some n ∧ f n = some p ∧ Rep K H (pE p) y) → RepL K H ((ns.filterMap f).map pE) acc
  | [], acc, hl, _ => List.length_eq_zero_iff.mp hl
  | n :: ns, [], hl, _ => by cases hl
  | n :: ns, y :: acc, hl, h => by
    obtain ⟨n', p, e1, e2, e3⟩ := h 0 y rfl
    cases (show some n = some n' from e1)
    rw [List.filterMap_cons_some e2]
    refine ⟨y, acc, rfl, e3, repL_of (Nat.succ.inj hl) fun i z hz => ?_⟩
    exact h (i + 1) z (by simpa using hz)
theorem nums_len {its : List Itm} : (nums its).length ≤ its.length := by
  unfold nums byDay live
  rw [List.length_mergeSort]
  exact Nat.le_trans (List.length_filter_le _ _) (by simp)
def spDays (K : PySem.W.Frag) : Sp := sp1 fun x H Q _ => ∃ b L dr its, x = .ref b ∧ Bk K H b L dr its ∧ LamX.Tabs (TT K) H ∧ ∀ H' q ys, Gr K H H' → H' q = some (.lst ys) → RepL K H' ((days its).map pE) ys → Q (.ref q) H'
theorem sc_Book_by_days : FnScope ["self", "number"] ["self"] (defScope (inClass (top 106) 4)) := ⟨rfl, rfl, rfl, by decide +kernel, rfl, by decide +kernel, by decide +kernel⟩
theorem ok_Book_by_days (T : Tp w K mg base) : ∃ fd, FnOk P w K mg base CX0 7 (He.ma K (He.ga K "Book") "by_days") fd ["self"] (spDays K) ∧ Binds K fd ["self"] [] := by
  obtain ⟨fd, F⟩ := F_Book_by_days T
  refine ⟨fd, F.ok sc_Book_by_days (len1 rfl) (fun cdv A outer s H vs Q E hr h => ?_), F.bindsN fun _ _ _ _ _ _ us hl => match us, hl with | [_], _ => rfl⟩
  refine ⟨_, PSs.nox (pss_one (ps_ret (pe_lc (own := [("number", 1)]) rfl sc_Book_by_days.nd (pi_list (C8.pe_mt0 (met_numbers T) hr (by decide) (pv 0))) (blkOk_by (own := [("number", 1)]) (N := ["self", "number"]) (sc := defScope (inClass (top 106) 4)) (by decide +kernel)) (fun _ _ _ _ _ => (pg_name (i := 1) sc_Book_by_days.nd rfl (Or.inl rfl))) (fun _ _ _ _ _ => pts_nil) (fun _ _ _ _ _ => (pe_ix (show IxR _ (rIxL K) from ix_list) (show PE _ _ (tFld K _ _) from pe_fld (pv 0) rfl) (pv 1) (fun _ _ => rfl)))))), ?_⟩
  obtain ⟨v, rfl, b, L, dr, its, rfl, B, hT, q⟩ := h
  obtain ⟨dx, vd, xs, h1, h2, h3, h4⟩ := B.ex
  refine ⟨_, rfl, b, dx, _, rfl, h1, rfl, _, rfl, b, L, dr, its, rfl, B, hT, fun H2 q2 g2 e2 => ⟨q2, rfl, ⟨_, SqL.of e2⟩, fun D hD => lc_R (K := K) (walk_list (K := K) (a := q2) (xs := iV (nums its))) (fun i y H' => ∃ n p, (nums its)[i]? = some n ∧ its.getD n none = some p ∧ Rep K H' (pE p) y) hD ?_ (fun H g => g.sqL (SqL.of e2)) ?_ ?_ ?_⟩⟩
  · rw [List.length_map]
    exact small (Nat.le_trans nums_len B.len)
  · rintro i y H3 H4 e ⟨n, p, a1, a2, a3⟩
    exact ⟨n, p, a1, a2, a3.std' e⟩
  · rintro i x H3 _ Q' hi gr ⟨rfl, hx⟩ k
    rw [List.getElem?_map] at hx
    cases hn : (nums its)[i]? with
    | none => rw [hn] at hx; cases hx
    | some n =>
      rw [hn] at hx
      cases hx
      have gg := g2.trans gr
      obtain ⟨hlt, p, hp⟩ := live_lt (nums_mem.mp (List.mem_of_getElem? hn))
      obtain ⟨y, hy, hrep⟩ := itm_at h4 hlt
      rw [hp] at hrep
      exact ⟨rfl, _, rfl, b, _, dx, _, _, rfl, gg.ins h1, K_Book T, N_Book_told T, rfl, _, rfl, L, xs, _, y, rfl, rfl, SqL.of (gg.lst h2), atI_nat (j := n) hy, k _ _ (.refl _) ⟨n, p, hn, hp, Rep.std' hrep gg.std⟩⟩
  · intro H3 acc g3 e3 hl hR
    exact q H3 D acc (g2.trans g3) e3 (repL_of (by rw [hl, List.length_map]) hR)

end
end CK
set_option maxHeartbeats 0
namespace CK
open PySem PySem.Spec PyProof.Rows L2
section
variable {P : Program} {w : World} {K : PySem.W.Frag} {mg : Str → Option Value} {base : Heap}
theorem met_by_days (T : Tp w K mg base) : C8.Met P w K mg base 7 (cB K) "by_days" (spDays K) [] := by
  obtain ⟨fd, F, b⟩ := ok_Book_by_days (P := P) T
  exact ⟨_, fd, _, [], K_Book T, M_Book_by_days T, F, b, .nil⟩
def spTell (K : PySem.W.Frag) : Sp := sp3 fun x y z H Q _ => ∃ b L dr its d e, x = .ref b ∧ Bk K H b L dr its ∧ y = .int (d : Nat) ∧ d ≤ 1200 ∧ Rep K H (Deed.d e) z ∧ e.Good ∧ its.length < 1000 ∧
  ∀ H', GrE K (fun c => c = L) H H' → Bk K H' b L dr (its ++ [some (d, e)]) → Q (.int (its.length : Nat)) H'
theorem sc_Book_tell : FnScope ["self", "day", "deed"] ["self", "day", "deed"] (defScope (inClass (top 106) 5)) := ⟨rfl, rfl, rfl, by decide +kernel, rfl, by decide +kernel, by decide +kernel⟩
theorem ok_Book_tell (T : Tp w K mg base) : ∃ fd, FnOk P w K mg base CX0 7 (He.ma K (He.ga K "Book") "tell") fd ["self", "day", "deed"] (spTell K) ∧ Binds K fd ["self", "day", "deed"] [] := by
  obtain ⟨fd, F⟩ := F_Book_tell T
  refine ⟨fd, F.ok sc_Book_tell (len3 rfl) (fun cdv A outer s H vs Q E hr h => ?_), F.bindsN fun _ _ _ _ _ _ us hl => match us, hl with | [_, _, _], _ => rfl⟩
  refine ⟨_, PSs.nox (pss_cons (ps_if (pt_not (pt_val (pe_f (ok_is_day T) hr (pa_cons (pv 1) pa_nil)))) (pss_one ps_never) pss_nil)
  (pss_cons (ps_if (pt_not (pt_val (pe_f (ok_is_deed T) hr (pa_cons (pv 2) pa_nil)))) (pss_one ps_never) pss_nil)
  (pss_cons (ps_expr (pe_bm PySem.F.plainAttrs_list PySem.F.slot_list_append PySem.F.type_list_append mt_append (show PE _ _ (tFld K _ _) from pe_fld (pv 0) rfl) (pa_cons (pe_tup (pa_cons (pv 1) (pa_cons (pv 2) pa_nil))) pa_nil)))
  (pss_one (ps_ret (pe_op op_sub (pe_callB call_len_seq (by rfl) (B_len T) (by decide +kernel) (pa_cons (show PE _ _ (tFld K _ _) from pe_fld (pv 0) rfl) pa_nil)) pe_int)))))), ?_⟩
  obtain ⟨v, v2, v3, rfl, b, L, dr, its, d, e, rfl, B, rfl, hd, hr2, hg, hl, q⟩ := h
  refine ⟨_, rfl, _, rfl, _, rfl, true, congrArg V.bl (by show (decide ((0 : Int) ≤ (d : Nat)) && decide (((d : Nat) : Int) ≤ 1200)) = true; rw [decide_eq_true (show (0 : Int) ≤ (d : Nat) by omega), decide_eq_true (show ((d : Nat) : Int) ≤ 1200 by omega)]; rfl), iteF ⟨_, rfl, _, rfl, e, hr2, .inl ⟨hg, fun H1 g1 => ⟨true, rfl, iteF ?_⟩⟩⟩⟩
  obtain ⟨dx, vd, xs, h1, h2, h3, h4⟩ := B.ex
  have hlx : xs.length = its.length := by rw [h4.len, List.length_map]
  refine ⟨_, rfl, b, _, dx, _, _, rfl, g1.ins h1, K_Book T, N_Book_told T, rfl, .inl ⟨rfl, xs, SqL.of (g1.lst h2)⟩, _, rfl, _, rfl, (show 2 ≤ sizeLine by decide), fun p hp => ?_⟩
  have g2 : Gr K H (upd H1 p (.tup [.int (d : Nat), v3])) := g1.add hp
  have hL := g2.lst h2
  have hnb : b ≠ L := fun z => by rw [z, h2] at h1; cases h1
  refine ⟨L, xs, _, rfl, rfl, hL, by rw [hlx]; exact Nat.lt_of_lt_of_le hl (by decide), ?_⟩
  have e1 : GrE K (fun c => c = L) H (upd (upd H1 p (.tup [.int (d : Nat), v3])) L (.lst (xs ++ [.ref p]))) := (GrE.of g2).trans (.put rfl hL)
  have st := e1.std fun c hc => ⟨xs, by rw [hc]; exact h2⟩
  refine ⟨_, rfl, b, _, dx, _, _, rfl, st.ins _ _ _ _ (by simp) h1, K_Book T, N_Book_told T, rfl, L, _, rfl, .inl (SqL.of upd_same), _, _, rfl, rfl, ?_⟩
  have e3 : (((xs ++ [V.ref p]).length : Nat) : Int) - 1 = (its.length : Nat) := by rw [List.length_append, hlx]; show (((its.length + 1 : Nat)) : Int) - 1 = _; omega
  show Q (.int ((((xs ++ [V.ref p]).length : Nat) : Int) - 1)) _
  rw [e3]
  refine q _ e1 ⟨⟨dx, vd, _, st.ins _ _ _ _ (by simp) h1, upd_same, h3.std' st, ?_⟩, by rw [List.length_append]; show its.length + 1 ≤ 1000; omega⟩
  rw [List.map_append]
  refine RepL.app (h4.std' st) (RepL.one ?_)
  have hpL : p ≠ L := fun z => by rw [z, g1.lst h2] at hp; cases hp
  exact Rep.tup (a := p) ⟨_, _, rfl, rfl, _, _, rfl, hr2.std' st, rfl⟩ (by rw [upd_ne hpL, upd_same])

def spDeedM (K : PySem.W.Frag) : Sp := sp2 fun x y H Q _ => ∃ b L dr its n p, x = .ref b ∧ Bk K H b L dr its ∧ y = .int (n : Nat) ∧ n < its.length ∧ its.getD n none = some p ∧ ∀ v, Rep K H (pE p) v → Q v H
theorem sc_Book_deed : FnScope ["self", "number"] ["self", "number"] (defScope (inClass (top 106) 6)) := ⟨rfl, rfl, rfl, by decide +kernel, rfl, by decide +kernel, by decide +kernel⟩
theorem ok_Book_deed (T : Tp w K mg base) : ∃ fd, FnOk P w K mg base CX0 4 (He.ma K (He.ga K "Book") "deed") fd ["self", "number"] (spDeedM K) ∧ Binds K fd ["self", "number"] [] := by
  obtain ⟨fd, F⟩ := F_Book_deed T
  refine ⟨fd, F.ok sc_Book_deed (len2 rfl) (fun cdv A outer s H vs Q E hr h => ?_), F.bindsN fun _ _ _ _ _ _ us hl => match us, hl with | [_, _], _ => rfl⟩
  refine ⟨_, PSs.nox (pss_cons (ps_if (PW.pt (pw_or (pt_not (pt_val (pe_f (ok_is_whole T) hr (pa_cons (pv 1) pa_nil)))) (pw_or (pt_not (pt_chain op_le op_lt pe_int (pv 1) (pe_callB call_len_seq (by rfl) (B_len T) (by decide +kernel) (pa_cons (show PE _ _ (tFld K _ _) from pe_fld (pv 0) rfl) pa_nil)))) (pw_or1 (pt_cmp (pc_isN (pe_ix (show IxR _ (rIxL K) from ix_list) (show PE _ _ (tFld K _ _) from pe_fld (pv 0) rfl) (pv 1) (fun _ _ => rfl)))))))) (pss_one ps_never) pss_nil)
  (pss_one (ps_ret (pe_ix (show IxR _ (rIxL K) from ix_list) (show PE _ _ (tFld K _ _) from pe_fld (pv 0) rfl) (pv 1) (fun _ _ => rfl))))), ?_⟩
  obtain ⟨v, v2, rfl, b, L, dr, its, n, p, rfl, B, rfl, hn, hp, q⟩ := h
  obtain ⟨dx, vd, xs, h1, h2, h3, h4⟩ := B.ex
  have hl : xs.length = its.length := by rw [h4.len, List.length_map]
  obtain ⟨x, hx, hrep⟩ := itm_at h4 hn
  rw [hp] at hrep
  have f1 : decide ((0 : Int) ≤ (n : Nat)) = true := decide_eq_true (by omega)
  have f2 : decide (((n : Nat) : Int) < (xs.length : Nat)) = true := decide_eq_true (by omega)
  refine ⟨_, rfl, _, rfl, _, rfl, true, rfl, iteF ⟨_, rfl, _, _, rfl, rfl, true, congrArg V.bl f1, iteT ⟨_, rfl, b, _, dx, _, _, rfl, h1, K_Book T, N_Book_told T, rfl, L, xs, rfl, .inl (SqL.of h2), _, _, rfl, rfl, true, congrArg V.bl f2, iteF ⟨_, rfl, b, _, dx, _, _, rfl, h1, K_Book T, N_Book_told T, rfl, _, rfl, L, xs, _, x, rfl, rfl, SqL.of h2, atI_nat (j := n) hx, false, congrArg V.bl (decide_eq_false fun z => by cases (itD_none hrep).mp z), iteF ⟨_, rfl, b, _, dx, _, _, rfl, h1, K_Book T, N_Book_told T, rfl, _, rfl, L, xs, _, x, rfl, rfl, SqL.of h2, atI_nat (j := n) hx, q x hrep⟩⟩⟩⟩⟩

theorem met_deed (T : Tp w K mg base) : C8.Met P w K mg base 4 (cB K) "deed" (spDeedM K) [] := by
  obtain ⟨fd, F, b⟩ := ok_Book_deed (P := P) T
  exact ⟨_, fd, _, [], K_Book T, M_Book_deed T, F, b, .nil⟩
theorem met_tell (T : Tp w K mg base) : C8.Met P w K mg base 7 (cB K) "tell" (spTell K) [] := by
  obtain ⟨fd, F, b⟩ := ok_Book_tell (P := P) T
  exact ⟨_, fd, _, [], K_Book T, M_Book_tell T, F, b, .nil⟩
theorem RepL.set {H : Hp} : ∀ {l : List D} {xs : List V} {n : Nat} {d : D} {x : V}, RepL K H l xs → Rep K H d x → RepL K H (l.set n d) (xs.set n x)
  | [], _, _, _, _, h, _ => by rw [show _ = [] from h]; exact rfl
  | e :: l, _, 0, _, x, ⟨y, r, ex, h, hl⟩, g => by rw [ex]; exact ⟨x, r, rfl, g, hl⟩
  | e :: l, _, n + 1, _, x, ⟨y, r, ex, h, hl⟩, g => by rw [ex]; exact ⟨y, r.set n x, rfl, h, RepL.set hl g⟩
theorem ixN_nat {n k : Nat} (h : n < k) : ixN k (n : Nat) = some n := by
  unfold ixN
  rw [if_pos (by omega), if_pos (by omega), Int.toNat_natCast]
def spStrike (K : PySem.W.Frag) : Sp := sp2 fun x y H Q _ => ∃ b L dr its n p, x = .ref b ∧ Bk K H b L dr its ∧ y = .int (n : Nat) ∧ n < its.length ∧ its.getD n none = some p ∧
  ∀ H', GrE K (fun c => c = L) H H' → Bk K H' b L dr (its.set n none) → Q .non H'
theorem sc_Book_strike : FnScope ["self", "number"] ["self", "number"] (defScope (inClass (top 106) 7)) := ⟨rfl, rfl, rfl, by decide +kernel, rfl, by decide +kernel, by decide +kernel⟩
theorem ok_Book_strike (T : Tp w K mg base) : ∃ fd, FnOk P w K mg base CX0 5 (He.ma K (He.ga K "Book") "strike") fd ["self", "number"] (spStrike K) ∧ Binds K fd ["self", "number"] [] := by
  obtain ⟨fd, F⟩ := F_Book_strike T
  refine ⟨fd, F.ok sc_Book_strike (len2 rfl) (fun cdv A outer s H vs Q E hr h => ?_), F.bindsN fun _ _ _ _ _ _ us hl => match us, hl with | [_, _], _ => rfl⟩
  refine ⟨_, PSs.nox (pss_cons (ps_expr (C8.pe_mt (met_deed T) hr (by decide) (pv 0) (pa_cons (pv 1) pa_nil)))
  (pss_one (ps_asg pe_non (pg_sub (show PE _ _ (tFld K _ _) from pe_fld (pv 0) rfl) (pv 1) set_list)))), ?_⟩
  obtain ⟨v, v2, rfl, b, L, dr, its, n, p, rfl, B, rfl, hn, hp, q⟩ := h
  obtain ⟨dx, vd, xs, h1, h2, h3, h4⟩ := B.ex
  have hlx : xs.length = its.length := by rw [h4.len, List.length_map]
  refine ⟨_, rfl, b, dx, _, rfl, h1, rfl, _, rfl, _, _, rfl, b, L, dr, its, n, p, rfl, B, rfl, hn, hp, fun v hv => ?_⟩
  refine ⟨_, rfl, b, _, dx, _, _, rfl, h1, K_Book T, N_Book_told T, rfl, _, rfl, L, xs, _, n, rfl, rfl, h2, ixN_nat (by omega), ?_⟩
  have e1 : GrE K (fun c => c = L) H (upd H L (.lst (xs.set n .non))) := .put rfl h2
  have st := e1.std fun c hc => ⟨xs, by rw [hc]; exact h2⟩
  refine q _ e1 ⟨⟨dx, vd, _, st.ins _ _ _ _ (by simp) h1, upd_same, h3.std' st, ?_⟩, by rw [List.length_set]; exact B.len⟩
  rw [List.map_set]
  exact RepL.set (h4.std' st) rfl

theorem met_strike (T : Tp w K mg base) : C8.Met P w K mg base 5 (cB K) "strike" (spStrike K) [] := by
  obtain ⟨fd, F, b⟩ := ok_Book_strike (P := P) T
  exact ⟨_, fd, _, [], K_Book T, M_Book_strike T, F, b, .nil⟩
/-- Book.__init__ -/
def spBi (K : PySem.W.Frag) : Sp := sp2 fun x y H Q _ => ∃ b dx dr, x = .ref b ∧ Rep K H (dD dr) y ∧ H b = some (.ins (cB K) dx []) ∧
  ∀ H' L, (∀ c u, c ≠ b → H c = some u → H' c = some u) → H L = none → Bk K H' b L dr [] → Q .non H'
theorem sc_Book_u_init_u : FnScope ["self", "drying"] ["self", "drying"] (defScope (inClass (top 106) 0)) := ⟨rfl, rfl, rfl, by decide +kernel, rfl, by decide +kernel, by decide +kernel⟩
theorem ok_Book_u_init_u (T : Tp w K mg base) : ∃ fd, FnOk P w K mg base CX0 2 (He.ma K (He.ga K "Book") "__init__") fd ["self", "drying"] (spBi K) ∧ (∃ ds, Vals [.non] ds ∧ Binds K fd ["self", "drying"] ds) ∧ (∃ ds, Vals [] ds ∧ Binds K fd ["self", "drying"] ds) ∧ ∃ its : List Value, KBn K fd ["self", "drying"] 1 ["drying"] (fun us ws => us ++ ws) (fun vs zs => vs ++ zs) := by
  obtain ⟨fd, F⟩ := F_Book_u_init_u T
  refine ⟨fd, F.ok sc_Book_u_init_u (len2 rfl) (fun cdv A outer s H vs Q E hr h => ?_), ⟨F.binds1 1 0 (by simp) rfl (fun T kV doc pm an cdv ct us its h1 h2 => match us, its, h1, h2 with | [_], [_], _, _ => ⟨_, rfl, rfl⟩), F.binds1 2 1 (by simp) rfl (fun T kV doc pm an cdv ct us its h1 h2 => match us, its, h1, h2 with | [_, _], [_], _, _ => ⟨_, rfl, rfl⟩), F.kbindsD (ps := ["self", "drying"]) 1 ["drying"] (fun us _ ws => us ++ ws) (by simp) (fun r1 _ r2 => r1.append r2) (fun _ _ _ _ _ _ _ us its ws h1 h2 h3 => match us, its, ws, h1, h2, h3 with | [_], [_], [_], _, _, _ => ⟨_, rfl, rfl⟩)⟩⟩
  refine ⟨_, PSs.nox (pss_cons (ps_fld (pv 0) (pe_ifExp (pt_cmp (pc_isN (pv 1))) (pe_tup pa_nil) (pv 1)) rfl)
  (pss_one (ps_fld (pv 0) (pe_lst pa_nil) rfl))), ?_⟩
  obtain ⟨v, v2, rfl, b, dx, dr, rfl, hd, hb, q⟩ := h
  obtain ⟨a, xs, rfl, hs, hr2⟩ := id hd
  refine ⟨_, rfl, false, rfl, iteF ⟨_, rfl, _, rfl, b, _, dx, _, rfl, hb, K_Book T, N_Book_drying_told T, by decide, ?_⟩⟩
  refine ⟨(show 0 ≤ sizeLine by decide), fun L hL => ⟨_, rfl, b, cB K, dx, [("drying_told", .ref a)], rfl, ?_, K_Book T, N_Book_told T, (show 1 < 1000 by decide), ?_⟩⟩
  · have hne : b ≠ L := fun z => by rw [← z, upd_same] at hL; cases hL
    rw [upd_ne hne, upd_same]
    rfl
  · have hne : b ≠ L := fun z => by rw [← z, upd_same] at hL; cases hL
    have hL0 : H L = none := by rw [upd_ne (Ne.symm hne)] at hL; exact hL
    have keep : ∀ c u, c ≠ b → H c = some u → upd (upd (upd H b (.ins (cB K) dx [("drying_told", V.ref a)])) L (.lst [])) b (.ins (cB K) dx (bF (.ref a) L)) c = some u := fun c u hc hu => by
      rw [upd_ne hc, upd_ne (ne_of_none hu hL0), upd_ne hc]
      exact hu
    have std : Std H (upd (upd (upd H b (.ins (cB K) dx [("drying_told", V.ref a)])) L (.lst [])) b (.ins (cB K) dx (bF (.ref a) L))) := by
      have nb : ∀ c u, H c = some u → (∀ x, u ≠ .ins (cB K) x []) → c ≠ b := fun c u hu n z => by rw [z, hb] at hu; exact n dx (Option.some.inj hu).symm
      exact ⟨fun c l h => keep c _ (nb c _ h fun x z => by cases z) h, fun c u o h => keep c _ (nb c _ h fun x z => by cases z) h, fun c C x fs n h => keep c _ (nb c _ h fun x z => by injection z with _ _ z; exact n z) h⟩
    have st := hd.std' std
    refine q _ L keep hL0 ⟨⟨dx, _, [], upd_same, by rw [upd_ne (Ne.symm hne), upd_same], st, rfl⟩, by simp⟩

def spLen (K : PySem.W.Frag) : Sp := sp1 fun x H Q _ => ∃ b L dr its, x = .ref b ∧ Bk K H b L dr its ∧ ∀ H', Gr K H H' → Q (.int ((live its).length : Nat)) H'
theorem sc_Book_u_len_u : FnScope ["self", "one"] ["self"] (defScope (inClass (top 106) 1)) := ⟨rfl, rfl, rfl, by decide +kernel, rfl, by decide +kernel, by decide +kernel⟩
theorem ok_Book_u_len_u (T : Tp w K mg base) : ∃ fd, FnOk P w K mg base CX0 2 (He.ma K (He.ga K "Book") "__len__") fd ["self"] (spLen K) ∧ Binds K fd ["self"] [] := by
  obtain ⟨fd, F⟩ := F_Book_u_len_u T
  refine ⟨fd, F.ok sc_Book_u_len_u (len1 rfl) (fun cdv A outer s H vs Q E hr h => ?_), F.bindsN fun _ _ _ _ _ _ us hl => match us, hl with | [_], _ => rfl⟩
  refine ⟨_, PSs.nox (pss_one (ps_ret (pe_callB call_len_seq (by rfl) (B_len T) (by decide +kernel) (pa_cons (pe_lc (own := [("one", 1)]) rfl sc_Book_u_len_u.nd (pi_list (show PE _ _ (tFld K _ _) from pe_fld (pv 0) rfl)) (blkOk_by (own := [("one", 1)]) (N := ["self", "one"]) (sc := defScope (inClass (top 106) 1)) (by decide +kernel)) (fun _ _ _ _ _ => (pg_name (i := 1) sc_Book_u_len_u.nd rfl (Or.inl rfl))) (fun _ _ _ _ _ => (pts_one (pt_cmp (pc_notN (pv 1))))) (fun _ _ _ _ _ => (pv 1))) pa_nil)))), ?_⟩
  obtain ⟨v, rfl, b, L, dr, its, rfl, B, q⟩ := h
  obtain ⟨dx, vd, xs, h1, h2, h3, h4⟩ := B.ex
  have hl : xs.length = its.length := by rw [h4.len, List.length_map]
  refine ⟨_, rfl, b, _, dx, _, _, rfl, h1, K_Book T, N_Book_told T, rfl, L, rfl, ⟨xs, SqL.of h2⟩, fun D hD => lc_T (K := K) (walk_list (K := K) (a := L) (xs := xs)) (fun i => (its.getD i none).isSome) (fun i => xs.getD i .non) hD (by rw [hl]; exact small B.len) (fun H g => g.sqL (SqL.of h2)) ?_ fun H2 g2 e2 => ?_⟩
  · rintro i x H2 _ QY QN hi gr ⟨rfl, hx⟩ k1 k2
    obtain ⟨x', e1, e2⟩ := itm_at h4 (i := i) (by omega)
    rw [hx] at e1
    cases e1
    refine ⟨rfl, _, rfl, _, rfl, ?_⟩
    cases ho : its.getD i none with
    | none =>
      rw [decide_eq_true ((itD_none e2).mpr ho)]
      exact iteF (k2 (by rw [ho] <;> rfl) _ (.refl _))
    | some p =>
      rw [decide_eq_false fun zz => by rw [(itD_none e2).mp zz] at ho; cases ho]
      have ex : xs.getD i .non = x := by rw [List.getD_eq_getElem?_getD, hx] <;> rfl
      rw [ex] at k1
      exact iteT ⟨_, rfl, k1 (by rw [ho] <;> rfl) _ (.refl _)⟩
  · rw [hl, filter_live] at e2
    refine ⟨D, _, rfl, .inl (SqL.of e2), ?_⟩
    rw [List.length_map]
    exact q H2 g2

end
end CK
set_option maxHeartbeats 4000000
namespace CK
open PySem PySem.Spec PyProof.Rows L2
/-! ### a drying as plain data -/
def lossP (p : Loss) : PyData := .tuple [.str p.1, .int (p.2.1 : Nat), .int (p.2.2 : Nat)]
def dryP (dr : List Loss) : PyData := .tuple (dr.map lossP)
theorem dp_loss {K : PySem.W.Frag} {H : Hp} : ∀ {dr : List Loss} {xs : List V}, RepL K H (dr.map pL) xs → DpAll K H xs (dr.map lossP)
  | [], _, h => by rw [show _ = [] from h]; exact .nil
  | p :: dr, _, ⟨x, r, ex, h, hl⟩ => by
    obtain ⟨a, rfl, hs⟩ := repL3 h
    rw [ex]
    exact .cons (.tup hs (.cons (.str _) (.cons (.int _) (.cons (.int _) .nil)))) (dp_loss hl)
theorem dp_dry {K : PySem.W.Frag} {H : Hp} {dr : List Loss} {x : V} (h : Rep K H (dD dr) x) : Dp K H x (dryP dr) := by
  obtain ⟨a, xs, rfl, hs, hl⟩ := h
  exact .tup hs (dp_loss hl)
/-! ### plain texts -/
def asc (x : Str) : Prop := ∀ c ∈ cl x, c < 128
theorem asc_ok {x : Str} (h : asc x) : PyData.strOk x = true := by
  unfold PyData.strOk
  rw [← Array.all_toList, List.all_eq_true]
  intro c hc
  exact decide_eq_true (Nat.lt_trans (h c hc) (by decide))
theorem asc_in {z x : Str} (hz : asc z) (h : allIn z x = true) : asc x := fun c hc => by
  have := List.all_eq_true.mp h c hc
  exact hz c (of_decide_eq_true this)
theorem asc_app {x y : Str} (h : asc x) (g : asc y) : asc (x ++ y) := fun c hc => by
  rw [cl_app] at hc
  exact (List.mem_append.mp hc).elim (h c) (g c)
theorem asc_nm {x : Str} (h : isNm x = true) : asc x := by
  unfold isNm at h
  exact asc_in (z := .ofString "abcdefghijklmnopqrstuvwxyz") (by
    have : (cl (.ofString "abcdefghijklmnopqrstuvwxyz")).all (fun c => decide (c < 128)) = true := by decide +kernel
    exact fun c hc => of_decide_eq_true (List.all_eq_true.mp this c hc)) (Bool.and_eq_true_iff.mp h).2
theorem lay_loss : ∀ {dr : List Loss}, (∀ p ∈ dr, isNm p.1 = true) → PyData.canLayAll0 (dr.map lossP) = true
  | [], _ => rfl
  | p :: dr, h => by
    have h1 := asc_ok (asc_nm (h p (by simp)))
    have h2 := lay_loss fun q hq => h q (List.mem_cons_of_mem _ hq)
    simp [PyData.canLayAll0, PyData.canLay0, lossP, h1, h2]
theorem dep_loss : ∀ dr : List Loss, PyData.depthAll (dr.map lossP) ≤ 1
  | [] => by simp [PyData.depthAll]
  | p :: dr => by
    have := dep_loss dr
    simp [PyData.depthAll, PyData.depth, lossP]
    omega
theorem lay_dry {dr : List Loss} (h : ∀ p ∈ dr, isNm p.1 = true) : (dryP dr).canLay0 = true := by
  unfold dryP
  rw [PyData.canLay0]
  exact lay_loss h
theorem shaped_dry {dr : List Loss} (h : ∀ p ∈ dr, isNm p.1 = true) : SeqAt.shaped (dryP dr) = true := by
  unfold SeqAt.shaped
  rw [lay_dry h, Bool.true_and]
  refine decide_eq_true ?_
  have := dep_loss dr
  unfold dryP
  simp [PyData.depth]
  omega
theorem eqv_dry {dr : List Loss} (h : ∀ p ∈ dr, isNm p.1 = true) : PyData.eqv (dryP dr) (dryP dr) = true := SeqAt.eqv_refl _ (lay_dry h)
/-! ### == of two lists of days -/
theorem depL_le {l : List D} {k : Nat} (h : ∀ d ∈ l, d.dep ≤ k) : D.depL l ≤ k := by
  induction l with
  | nil => unfold D.depL; omega
  | cons d l ih =>
    unfold D.depL
    have h1 := h d (by simp)
    have h2 := ih fun e he => h e (List.mem_cons_of_mem _ he)
    omega
theorem dep_t {l : List D} {k : Nat} (h : ∀ d ∈ l, d.dep ≤ k) : (D.t l).dep ≤ k + 1 := by
  unfold D.dep
  have := depL_le h
  omega
theorem dep_s {x : Str} : (D.s x).dep = 0 := by unfold D.dep; rfl
theorem dep_i {x : Nat} : (D.i x).dep = 0 := by unfold D.dep; rfl
theorem dep_n : D.n.dep = 0 := by unfold D.dep; rfl
theorem dep_w {t b : Nat} : (D.w t b).dep = 0 := by unfold D.dep; rfl
theorem dep_o (o : Option Str) : (optD o).dep = 0 := by
  cases o with
  | none => exact dep_n
  | some x => exact dep_s
theorem dep_strs (ns : List Str) : (D.t (ns.map .s)).dep ≤ 1 := dep_t (k := 0) fun d hd => by
  obtain ⟨x, _, rfl⟩ := List.mem_map.mp hd
  exact Nat.le_of_eq dep_s
theorem dep_pW (p : Str × Nat × Nat) : (pW p).dep ≤ 1 := dep_t (k := 0) fun d hd => by
  simp only [List.mem_cons, List.not_mem_nil, or_false] at hd
  rcases hd with rfl | rfl
  · exact Nat.le_of_eq dep_s
  · exact Nat.le_of_eq dep_w
theorem dep_pI (p : Str × Nat) : (pI p).dep ≤ 1 := dep_t (k := 0) fun d hd => by
  simp only [List.mem_cons, List.not_mem_nil, or_false] at hd
  rcases hd with rfl | rfl
  · exact Nat.le_of_eq dep_s
  · exact Nat.le_of_eq dep_i
theorem dep_rest (e : Deed) : ∀ d ∈ e.rest, d.dep ≤ 2 := by
  have s0 : ∀ x, (D.s x).dep ≤ 2 := fun x => by rw [dep_s]; omega
  have i0 : ∀ x, (D.i x).dep ≤ 2 := fun x => by rw [dep_i]; omega
  have w0 : ∀ t b, (D.w t b).dep ≤ 2 := fun t b => by rw [dep_w]; omega
  have o0 : ∀ o, (optD o).dep ≤ 2 := fun o => by rw [dep_o]; omega
  have l0 : ∀ ns : List Str, (D.t (ns.map .s)).dep ≤ 2 := fun ns => Nat.le_trans (dep_strs ns) (by omega)
  intro d hd
  cases e with
  | parts k m ps =>
    simp only [Deed.rest, List.mem_cons, List.not_mem_nil, or_false] at hd
    rcases hd with rfl | rfl
    · exact s0 _
    · exact dep_t (k := 1) fun d hd => by obtain ⟨p, _, rfl⟩ := List.mem_map.mp hd; exact dep_pW p
  | part n ps =>
    simp only [Deed.rest, List.mem_cons, List.not_mem_nil, or_false] at hd
    rcases hd with rfl | rfl
    · exact s0 _
    · exact dep_t (k := 1) fun d hd => by obtain ⟨p, _, rfl⟩ := List.mem_map.mp hd; exact dep_pI p
  | lose ws =>
    obtain ⟨x, _, rfl⟩ := List.mem_map.mp (show d ∈ ws.map D.s from hd)
    exact s0 _
  | draw ws =>
    obtain ⟨x, _, rfl⟩ := List.mem_map.mp (show d ∈ ws.map D.s from hd)
    exact s0 _
  | _ =>
    simp only [Deed.rest, List.mem_cons, List.not_mem_nil, or_false] at hd
    rcases hd with rfl | rfl | rfl <;> first | exact s0 _ | exact i0 _ | exact w0 _ _ | exact o0 _ | exact l0 _
theorem dep_pE (p : Nat × Deed) : (pE p).dep ≤ 4 := dep_t (k := 3) fun d hd => by
  simp only [List.mem_cons, List.not_mem_nil, or_false] at hd
  rcases hd with rfl | rfl
  · rw [dep_i]; omega
  · exact dep_t (k := 2) fun d hd => by
      rcases List.mem_cons.mp hd with rfl | hd
      · rw [dep_s]; omega
      · exact dep_rest _ d hd
/-! ### the rule -/
def rEqL (K : PySem.W.Frag) (k : Nat) : R2 := fun x y H Q => (DList (DN K k) x y H ∧ ∀ H', Ext H H' → Q (.bl true) H') ∨ ∃ a b xs ys, x = .ref a ∧ y = .ref b ∧ SqL K H a xs ∧ SqL K H b ys ∧ xs.length ≠ ys.length ∧ Q (.bl false) H
theorem op_eqL {X : Cx} (T : Tp X.w X.K X.mg X.base) (hr : Room 7 X.A) : OpR X (compareOp .Eq) (rEqL X.K 4) := by
  intro pins s σ H x y v u Q I rx ry h
  rcases h with h | ⟨a, b, xs, ys, rfl, rfl, ha, hb, hn, q⟩
  · obtain ⟨fd, F, b⟩ := ok_Weight_u_eq_u (P := X.prog) T
    have M := M_Weight__ueq_u T
    have F' := F.imp (sp' := spEq (RW X.K)) fun vs H Q E ⟨a, b, e, ⟨t, n, h1, h2⟩, q⟩ => ⟨.ref a, .ref b, e, a, b, t, n, t, n, rfl, rfl, h1, h2, by
      have := q H Ext.rfl'
      simpa using this⟩
    exact op_eqG (rcG_list (mon_DN 4) (eqG_DN (E := E0) F' M.at_ M.fn b 4)) hr pins s σ H x y v u Q I rx ry h
  · cases rx
    cases ry
    obtain ⟨its, r, pl, hz⟩ := I.list ha
    obtain ⟨its2, r2, pl2, hz2⟩ := I.list hb
    refine rc_listLen ?_ hr.units0 pl.isList pl2.isList ⟨.bl false, H, I, rfl, q⟩
    rw [List.size_toArray, List.size_toArray, ← r.length, ← r2.length]
    exact hn
theorem prs_days {K : PySem.W.Frag} {H : Hp} {l : List (Nat × Deed)} {xs ys : List V} (h : RepL K H (l.map pE) xs) (g : RepL K H (l.map pE) ys) : Prs (DN K 4) xs ys H :=
  dnL_of _ _ _ 4 (depL_le fun d hd => by obtain ⟨p, _, rfl⟩ := List.mem_map.mp hd; exact dep_pE p) h g
end CK
set_option maxHeartbeats 0
namespace CK
open PySem PySem.Spec PyProof.Rows L2
section
variable {P : Program} {w : World} {K : PySem.W.Frag} {mg : Str → Option Value} {base : Heap}
def spEqB (K : PySem.W.Frag) : Sp := sp2 fun x y H Q _ => ∃ a L dr its b L' its' r, x = .ref a ∧ y = .ref b ∧ Bk K H a L dr its ∧ Bk K H b L' dr its' ∧ (∀ p ∈ dr, isNm p.1 = true) ∧ LamX.Tabs (TT K) H ∧
  ((days its = days its' ∧ r = true) ∨ ((days its).length ≠ (days its').length ∧ r = false)) ∧ ∀ H', Gr K H H' → Q (.bl r) H'
theorem sc_Book_u_eq_u : FnScope ["self", "other"] ["self", "other"] (defScope (inClass (top 106) 2)) := ⟨rfl, rfl, rfl, by decide +kernel, rfl, by decide +kernel, by decide +kernel⟩
theorem ok_Book_u_eq_u (T : Tp w K mg base) : ∃ fd, FnOk P w K mg base CX0 8 (He.ma K (He.ga K "Book") "__eq__") fd ["self", "other"] (spEqB K) ∧ Binds K fd ["self", "other"] [] := by
  obtain ⟨fd, F⟩ := F_Book_u_eq_u T
  refine ⟨fd, F.ok sc_Book_u_eq_u (len2 rfl) (fun cdv A outer s H vs Q E hr h => ?_), F.bindsN fun _ _ _ _ _ _ us hl => match us, hl with | [_, _], _ => rfl⟩
  refine ⟨_, PSs.nox (pss_cons (ps_if (PW.pt (pw_or (pt_not (pt_val (pe_isiC (pv 1) (isB_ T) (B_isinstance T) (G_Book T)))) (pw_or1 (pt_cmpR (op_neD (by have := hr.units; exact this)) (pe_fld (pv 0) rfl) (pe_fld (pv 1) rfl) (nomark _))))) (pss_one (ps_ret pe_bl)) pss_nil)
  (pss_one (ps_ret (pe_cmpR (op_eqL T hr) (C8.pe_mt0 (met_by_days T) hr (by decide) (pv 0)) (C8.pe_mt0 (met_by_days T) hr (by decide) (pv 1)) (nomark _))))), ?_⟩
  obtain ⟨v, v2, rfl, a, L, dr, its, b, L', its', r, rfl, rfl, B, B', hdr, hT, hrr, q⟩ := h
  obtain ⟨dx, vd, xs, h1, h2, h3, h4⟩ := B.ex
  obtain ⟨dx', vd', xs', h1', h2', h3', h4'⟩ := B'.ex
  refine ⟨_, rfl, b, dx', _, rfl, h1', true, rfl, iteF ⟨_, rfl, a, _, dx, _, _, rfl, h1, K_Book T, N_Book_drying_told T, rfl, _, rfl, b, _, dx', _, _, rfl, h1', K_Book T, N_Book_drying_told T, rfl, dryP dr, dryP dr, dp_dry h3, dp_dry h3', shaped_dry hdr, shaped_dry hdr, false, by rw [eqv_dry hdr]; rfl, iteF ?_⟩⟩
  refine ⟨_, rfl, a, dx, _, rfl, h1, rfl, _, rfl, a, L, dr, its, rfl, B, hT, fun H1 c ys g1 hc hy => ?_⟩
  refine ⟨_, rfl, b, dx', _, rfl, g1.ins h1', rfl, _, rfl, b, L', dr, its', rfl, B'.gr g1, g1.tabs hT, fun H2 c' ys' g2 hc' hy' => ?_⟩
  have g12 := g1.trans g2
  have hy2 := hy.std' g2.std
  rcases hrr with ⟨e, rfl⟩ | ⟨e, rfl⟩
  · rw [← e] at hy'
    exact .inl ⟨⟨c, c', ys, ys', rfl, rfl, g2.lst hc, hc', prs_days hy2 hy'⟩, fun H3 e3 => q H3 (g12.trans (.same e3))⟩
  · refine .inr ⟨c, c', ys, ys', rfl, rfl, SqL.of (g2.lst hc), SqL.of hc', ?_, q H2 g12⟩
    rw [hy.len, hy'.len, List.length_map, List.length_map]
    exact e

end
end CK
set_option maxHeartbeats 4000000
/-! x != y, x == y, len(x) of an own class: __ne__ is object's -/
namespace CK
open PySem PySem.Spec PyProof.Rows
section
variable {prog : Program} {w : World} {A : Around} {E : Value → Shared → Prop} {s : Shared} {K : PySem.W.Frag} {x C : Addr} {ox : Obj} {od : Option Obj} {b : Value}
theorem ifBound_ne {M : Model} {Q : Option Value → Shared → Prop} (X : K.In s.heap) (I : PySem.W.InstAt s.heap x ox C od) (hs : PySem.W.findIn K (.ref C) "__ne__" = some (some (.builtin "object.__ne__")))
    (h : wpAny M A (call (.builtin "object.__ne__") (.ref x :: [b])) (fun v => Q (some v)) E s) : wpAny M A (callSpecialIfBound? (.ref x) "__ne__" [b]) Q E s := by
  simp only [callSpecialIfBound?, bindSpecialIfBound?]
  refine wpAny_holding (wpAny_bind (wpAny_bind (wpAny_bind (I.type.here ((PySem.W.looks_findIn X hs).here ?_)))))
  simp only [F.cmp_object.ne.bind]
  refine wpAny_bind (wpAny_askSetting (wpAny_ite ?_))
  have fin : wpAny M A (call (.builtin "object.__ne__") ([.ref x] ++ [b]) >>= fun v => pure (some v)) Q E s := wpAny_bind (wpAny_mono h (fun v s' h' => wpAny_pure h') fun _ _ h' => h')
  split
  · exact wpAny_bind (wpAny_pure (wpAny_pure fin))
  · exact wpAny_tryCatch (wpAny_bind (wpAny_pure (wpAny_pure fin)))
theorem check_ne {M : Model} {Q : Unit → Shared → Prop} (X : K.In s.heap) (I : PySem.W.InstAt s.heap x ox C od) (hm : PySem.W.mroIn K C (.type "object") = some true) (hq : Q () s) :
    wpAny M A (checkBuiltinCall "object.__ne__" ⟨[.ref x, b], []⟩) Q E s := by
  simp only [checkBuiltinCall, F.cmpKind_ne, F.cmpSplit_ne]
  refine wpAny_bind ?_
  unfold isInstance
  refine wpAny_bind (I.type.here ((PySem.W.looks_mroIn X hm).here ?_))
  have ha := F.cmpArgs_ne (.ref x) b
  cases hsig : Manifest.signature? "object.__ne__" with
  | none => exact wpAny_pure hq
  | some sig =>
    simp only [argsOk, hsig] at ha
    have h2 : Bind.checkArgs "object.__ne__" sig ⟨[.ref x, b], []⟩ = pure () := ha
    show wpAny M A (Bind.checkArgs "object.__ne__" sig ⟨[.ref x, b], []⟩) Q E _
    rw [h2]
    exact wpAny_pure hq
theorem call_ne {f : Addr} {Q : Value → Shared → Prop} (hu : A.in1.units < cLine) (X : K.In s.heap) (I : PySem.W.InstAt s.heap x ox C od) (hm : PySem.W.mroIn K C (.type "object") = some true)
    (he : PySem.W.findIn K (.ref C) "__eq__" = some (some (.ref f))) (hf : PySem.W.isFn K (.ref f) = true)
    (h : wpAny (model prog w) A.in1 (call (.ref f) [.ref x, b]) (fun v s' => ∃ r, v = .bool r ∧ Q (.bool (!r)) s') E s) : wpAny (model prog w) A (call (.builtin "object.__ne__") [.ref x, b]) Q E s := by
  refine wpAny_call (codeAny_call_builtin F.cmp_object.ne.plain F.cmpEntry_ne (check_ne X I hm ?_))
  show wpAny (model prog w) A.in1 (Builtin.«object.__ne__» ⟨[.ref x, b], []⟩) (GQ.FinOf prog w A (wants Q E)) (fun e s' => wants Q E (.error e) s') s
  unfold Builtin.«object.__ne__»
  refine wpAny_bind (m := slotArgs "__ne__" 1 _) (wpAny_pure ?_)
  refine wpAny_bind (m := cRoomFor _ _) (wpAny_cRoomFor hu ?_)
  refine wpAny_bind (m := callSpecialIfBound? _ _ _) (PySem.W.ifBound_K X I he hf (wpAny_mono h (fun v s' hv => ?_) fun _ _ e => e))
  obtain ⟨r, rfl, q⟩ := hv
  exact wpAny_bind (wpAny_truthy_bool (wpAny_pure q))
theorem rich_ne {f : Addr} {y : Addr} {Q : Value → Shared → Prop} {oy : Obj} {od' : Option Obj} (hu : A.units + 2 < cLine) (hu2 : A.in1.units < cLine) (X : K.In s.heap) (I : PySem.W.InstAt s.heap x ox C od) (I' : PySem.W.InstAt s.heap y oy C od') (hm : PySem.W.mroIn K C (.type "object") = some true)
    (hs : PySem.W.findIn K (.ref C) "__ne__" = some (some (.builtin "object.__ne__"))) (he : PySem.W.findIn K (.ref C) "__eq__" = some (some (.ref f))) (hf : PySem.W.isFn K (.ref f) = true)
    (h : wpAny (model prog w) A.in1 (call (.ref f) [.ref x, .ref y]) (fun v s' => ∃ r, v = .bool r ∧ Q (.bool (!r)) s') E s) : wpAny (model prog w) A (richCompare .NotEq (.ref x) (.ref y)) Q E s := by
  have one : wpAny (model prog w) A (tryCompare (.ref x) (cmpInfo .NotEq).2.1 (.ref y)) (fun r s' => ∃ v, r = some v ∧ Q v s') E s := by
    unfold tryCompare
    refine wpAny_bind (ifBound_ne X I hs (call_ne hu2 X I hm he hf (wpAny_mono h (fun v s' hv => ?_) fun _ _ e => e)))
    obtain ⟨r, rfl, q⟩ := hv
    exact ⟨r, rfl, wpAny_pure ⟨_, rfl, q⟩⟩
  unfold richCompare
  simp only [oneThing_ref]
  refine wpAny_holding (wpAny_bind (wpAny_cRoomFor (by omega) ?_))
  refine wpAny_bind (I.type.here (wpAny_bind (I'.type.here ?_)))
  refine wpAny_ite_split (fun q => absurd q (by simp)) (fun _ => ?_)
  refine wpAny_bind (wpAny_pure ?_)
  simp only [Bool.false_eq_true, if_false]
  refine wpAny_bind (wpAny_mono one (fun r s' z => ?_) fun _ _ e => e)
  obtain ⟨v, rfl, hq⟩ := z
  exact wpAny_pure hq
end
end CK
set_option maxHeartbeats 4000000
namespace CK
open PySem PySem.Spec PyProof.Rows L2
section
variable {X : Cx}
def rEqBk (K : PySem.W.Frag) : R2 := fun x y H Q => spEqB K [x, y] H Q E0
def rNeBk (K : PySem.W.Frag) : R2 := fun x y H Q => spEqB K [x, y] H (fun v H' => ∃ r, v = .bl r ∧ Q (.bl (!r)) H') E0
theorem op_eqB (T : Tp X.w X.K X.mg X.base) (hr : Room 9 X.A) : OpR X (compareOp .Eq) (rEqBk X.K) := by
  intro pins s σ H x y v u Q I rx ry h
  obtain ⟨x', y', e0, a, L, dr, its, b, L', its', r, rfl, rfl, B, B', h1, h2, h3, q⟩ := id h
  cases e0
  cases rx
  cases ry
  obtain ⟨dx, vd, xs, ha, _, _, _⟩ := B.ex
  obtain ⟨dy, vd', xs', hb, _, _, _⟩ := B'.ex
  obtain ⟨mA, J, _⟩ := ins_get I.hok ha
  obtain ⟨mB, J', _⟩ := ins_get I.hok hb
  obtain ⟨od, J, _⟩ := J.look
  obtain ⟨od', J', _⟩ := J'.look
  obtain ⟨m, hF⟩ := I.fr
  obtain ⟨fd, F, bd⟩ := ok_Book_u_eq_u (P := X.prog) T
  have M := M_Book__ueq_u T
  refine PySem.W.cmp_K (op := .Eq) (tb := .ref (cB X.K)) hr.units0 hF I.ok.mod.kin J J'.type (by simp [PySem.W.notFirst]) M.at_ M.fn (thn (run_at (k := 8) (dvs := []) ⟨hr.mono (by decide), rfl⟩ F bd .nil pass0 I (.cons (a := V.ref a) rfl (.cons (a := V.ref b) rfl .nil)) (Q := fun v H' => (∃ r, v = .bl r) ∧ Q v H') (E := E0) ?_) ?_)
  · exact ⟨_, _, rfl, a, L, dr, its, b, L', its', r, rfl, rfl, B, B', h1, h2, h3, fun H' g => ⟨⟨r, rfl⟩, q H' g⟩⟩
  · rintro w s' ⟨z, H', I', rz, ⟨r, rfl⟩, q'⟩
    cases rz
    exact ⟨.bl r, H', I', rfl, q'⟩
theorem op_neB (T : Tp X.w X.K X.mg X.base) (hr : Room 10 X.A) : OpR X (compareOp .NotEq) (rNeBk X.K) := by
  intro pins s σ H x y v u Q I rx ry h
  obtain ⟨x', y', e0, a, L, dr, its, b, L', its', r, rfl, rfl, B, B', h1, h2, h3, q⟩ := id h
  cases e0
  cases rx
  cases ry
  obtain ⟨dx, vd, xs, ha, _, _, _⟩ := B.ex
  obtain ⟨dy, vd', xs', hb, _, _, _⟩ := B'.ex
  obtain ⟨mA, J, _⟩ := ins_get I.hok ha
  obtain ⟨mB, J', _⟩ := ins_get I.hok hb
  obtain ⟨od, J, _⟩ := J.look
  obtain ⟨od', J', _⟩ := J'.look
  obtain ⟨fd, F, bd⟩ := ok_Book_u_eq_u (P := X.prog) T
  have M := M_Book__ueq_u T
  have c := isB_ T
  refine rich_ne (by have := hr.units; omega) hr.in1.units0 I.kIn J J' c.hm (He.eqO_ok (xl T (i := 10) rfl)) M.at_ M.fn (thn (run_at (k := 8) (dvs := []) ⟨hr.in1.mono (by decide), rfl⟩ F bd .nil pass0 I (.cons (a := V.ref a) rfl (.cons (a := V.ref b) rfl .nil)) (Q := fun v H' => ∃ r, v = .bl r ∧ Q (.bl (!r)) H') (E := E0) ?_) ?_)
  · exact ⟨_, _, rfl, a, L, dr, its, b, L', its', r, rfl, rfl, B, B', h1, h2, h3, fun H' g => ⟨r, rfl, by
      obtain ⟨r', e, q⟩ := q H' g
      cases e
      exact q⟩⟩
  · rintro w s' ⟨z, H', I', rz, r, rfl, q'⟩
    cases rz
    exact ⟨r, rfl, .bl (!r), H', I', rfl, q'⟩
/-- len(book) -/
theorem cr_lenB (T : Tp X.w X.K X.mg X.base) (hr : Room 4 X.A) : CallR X (.builtin "len") (fun xs H Q => spLen X.K xs H Q E0) := by
  intro pins s σ H xs us Q I r h
  obtain ⟨x, rfl, b, L, dr, its, rfl, B, q⟩ := h
  obtain ⟨u, rfl, e⟩ := vals1 r
  cases e
  obtain ⟨dx, vd, xs, ha, _, _, _⟩ := B.ex
  obtain ⟨mA, J, _⟩ := ins_get I.hok ha
  obtain ⟨od, J, _⟩ := J.look
  obtain ⟨m, hF⟩ := I.fr
  obtain ⟨fd, F, bd⟩ := ok_Book_u_len_u (P := X.prog) T
  have M := M_Book__ulen_u T
  refine PySem.W.len_K hF I.ok.mod.kin J M.at_ M.fn (thn (run_at (k := 2) (dvs := []) ⟨hr.in1.mono (by decide), rfl⟩ F bd .nil pass0 I (.cons (a := V.ref b) rfl .nil) (Q := fun v H' => v = .int ((live its).length : Nat) ∧ Q v H') (E := E0) ?_) ?_)
  · exact ⟨_, rfl, b, L, dr, its, rfl, B, fun H' g => ⟨rfl, q H' g⟩⟩
  · rintro w s' ⟨z, H', I', rz, rfl, q'⟩
    obtain ⟨t, rfl⟩ := rz
    have hl : (live its).length ≤ 1000 := by
      unfold live
      exact Nat.le_trans (List.length_filter_le _ _) (by rw [List.length_range]; exact B.len)
    exact ⟨⟨by omega, by omega⟩, .int ((live its).length : Nat), H', I'.tok _, ⟨_, rfl⟩, q'⟩
end
end CK
set_option maxHeartbeats 0
namespace CK
open PySem PySem.Spec PyProof.Rows L2
section
variable {P : Program} {w : World} {K : PySem.W.Frag} {mg : Str → Option Value} {base : Heap}
/-- the text of a pair's second part -/
def TxOf : D → Str → Prop
  | .w t b, x => x = wS t b ∧ t < 10 ^ 12 ∧ b < 10 ^ 12
  | .i n, x => x = nS n ∧ n < 10 ^ 12
  | _, _ => False
abbrev Pr2 : Type := Str × D × Str
abbrev pP (q : Pr2) : D := .t [.s q.1, q.2.1]
abbrev flatP (qs : List Pr2) : List Str := qs.flatMap fun q => [q.1, q.2.2]
theorem str_of {H : Hp} {d : D} {x : Str} {v : V} {Q : VK} (h : TxOf d x) (r : Rep K H d v) (q : Q (.str x) H) : rStr K [v] H Q := by
  unfold rStr
  cases d with
  | i n => obtain ⟨rfl, hn⟩ := h; exact .inl ⟨n, by rw [show v = _ from r], hn, q⟩
  | w t b => obtain ⟨rfl, ht, hb⟩ := h; obtain ⟨a, rfl, ha⟩ := r; exact .inr (.inr ⟨a, t, b, rfl, ha, ht, hb, q⟩)
  | _ => exact h.elim
theorem pair_at {H : Hp} {qs : List Pr2} {xs : List V} {i : Nat} {x : V} (h : RepL K H (qs.map pP) xs) (hx : xs[i]? = some x) : ∃ q a v, qs[i]? = some q ∧ x = .ref a ∧ SqT K H a [.str q.1, v] ∧ Rep K H q.2.1 v := by
  have hi := (List.getElem?_eq_some_iff.mp hx).1
  rw [h.len, List.length_map] at hi
  have hp := List.getElem?_eq_getElem (l := qs) (i := i) hi
  obtain ⟨x', e1, hrep⟩ := h.at (i := i) (d := pP qs[i]) (by rw [List.getElem?_map, hp] <;> rfl)
  rw [hx] at e1
  cases e1
  obtain ⟨a, y, z, rfl, hs, h1, h2⟩ := rep2 hrep
  rw [show y = _ from h1] at hs
  exact ⟨_, a, z, hp, rfl, hs, h2⟩
def spWp (K : PySem.W.Frag) : Sp := sp1 fun x H Q _ => ∃ qs : List Pr2, Rep K H (.t (qs.map pP)) x ∧ (∀ q ∈ qs, TxOf q.2.1 q.2.2) ∧ qs.length ≤ 400 ∧ ∀ H' a, Gr K H H' → H' a = some (.lst ((flatP qs).map V.str)) → Q (.ref a) H'
theorem flat_len (qs : List Pr2) (i : Nat) : (flatP (qs.take i)).length ≤ 2 * qs.length := by
  have e : ∀ l : List Pr2, (flatP l).length = 2 * l.length := fun l => by
    induction l with
    | nil => rfl
    | cons q l ih =>
      have : flatP (q :: l) = [q.1, q.2.2] ++ flatP l := rfl
      rw [this, List.length_append, ih]
      show 2 + 2 * l.length = 2 * (l.length + 1)
      omega
  rw [e, List.length_take]
  omega
theorem sc_words_of_pairs : FnScope ["pairs", "found", "name", "one"] ["pairs"] (defScope (top 109)) := ⟨rfl, rfl, rfl, by decide +kernel, rfl, by decide +kernel, by decide +kernel⟩
theorem ok_words_of_pairs (T : Tp w K mg base) : Cl P w K mg base CX0 5 "words_of_pairs" (spWp K) := by
  obtain ⟨fd, F⟩ := F_words_of_pairs T
  refine ⟨fd, ["pairs"], F.ok sc_words_of_pairs (len1 rfl) (fun cdv A outer s H vs Q E hr h => ?_), G_words_of_pairs T, F.kp, F.bindsN fun _ _ _ _ _ _ us hl => match us, hl with | [_], _ => rfl⟩
  refine ⟨_, PSs.nox (pss_cons (ps_set (i := 1) sc_words_of_pairs.nd rfl (Or.inl rfl) (pe_lst pa_nil))
  (pss_cons (ps_for PassesOwn.never rfl (pi_tup (pv 0)) (show PG _ _ (gTup K 2 _) from pg_tup rfl (pgs_cons (pg_name (i := 2) sc_words_of_pairs.nd rfl (Or.inl rfl)) (pgs_cons (pg_name (i := 3) sc_words_of_pairs.nd rfl (Or.inl rfl)) pgs_nil)))
    (pss_one (ps_expr (pe_bm PySem.F.plainAttrs_list PySem.F.slot_list_extend PySem.F.type_list_extend mt_extend (pv 1) (pa_cons (pe_lst (pa_cons (pv 2) (pa_cons (pe_callTy (call_strW T (hr.mono (by decide))) (by rfl) (B_str T) (by decide +kernel) (pa_cons (pv 3) pa_nil)) pa_nil))) pa_nil)))))
  (pss_one (ps_ret (pv 1))))), ?_⟩
  obtain ⟨v, rfl, qs, ⟨a, xs, rfl, hs, hr2⟩, ht, hl, q⟩ := h
  have hlx : xs.length = qs.length := by rw [hr2.len, List.length_map]
  refine ⟨(show 0 ≤ sizeLine by decide), fun fa hfa => ⟨_, rfl, a, rfl, ⟨_, Std.sqT (.upd' hfa) hs⟩, for_it (walk_tup (K := K) (a := a) (xs := xs)) (fun i σ H' => Gr K H H' ∧ H' fa = some (.lst ((flatP (qs.take i)).map V.str)) ∧ ∃ o p, σ = [some (.ref a), some (.ref fa), o, p]) ⟨.new hfa, upd_same, _, _, rfl⟩ (fun i σ H' _ h => h.1.sqT hs) ?_ ?_⟩⟩
  · rintro i x _ H1 _ hi ⟨g1, hf, o, p, rfl⟩ ⟨rfl, hx⟩
    obtain ⟨qq, b, v, hq, rfl, hb, hv⟩ := pair_at hr2 hx
    have hb1 := g1.sqT hb
    refine ⟨b, _, rfl, hb1, rfl, _, _, rfl, _, _, rfl, rfl, _, rfl, .inl ⟨rfl, _, SqL.of hf⟩, _, rfl, _, rfl, str_of (ht qq (List.mem_of_getElem? hq)) (hv.std' g1.std) ⟨(show 2 ≤ sizeLine by decide), fun p hp => ?_⟩⟩
    have hne : fa ≠ p := fun z => by rw [← z, hf] at hp; cases hp
    have hl1 := flat_len qs i
    refine ⟨fa, p, _, _, rfl, rfl, by rw [upd_ne hne]; exact hf, upd_same, ?_, (g1.add hp).put hfa (by rw [upd_ne hne]; exact hf), ?_, _, _, rfl⟩
    · rw [List.length_map]
      exact small (show (flatP (qs.take i)).length + 2 ≤ 1000 by omega)
    · rw [upd_same]
      have e1 : qs.take (i + 1) = qs.take i ++ [qq] := by rw [List.take_add_one, hq]; rfl
      rw [e1]
      simp [flatP]
  · rintro _ H1 ⟨g1, hf, o, p, rfl⟩
    rw [hlx, List.take_length] at hf
    exact ⟨_, rfl, q H1 fa g1 hf⟩

def spWo (K : PySem.W.Frag) : Sp := sp1 fun x H Q _ => ∃ o : Option Str, Rep K H (optD o) x ∧ Q (.str (optS o)) H
theorem sc_word_of : FnScope ["name"] ["name"] (defScope (top 110)) := ⟨rfl, rfl, rfl, by decide +kernel, rfl, by decide +kernel, by decide +kernel⟩
theorem ok_word_of (T : Tp w K mg base) : Cl P w K mg base CX0 1 "word_of" (spWo K) := by
  obtain ⟨fd, F⟩ := F_word_of T
  refine ⟨fd, ["name"], F.ok sc_word_of (len1 rfl) (fun cdv A outer s H vs Q E hr h => ?_), G_word_of T, F.kp, F.bindsN fun _ _ _ _ _ _ us hl => match us, hl with | [_], _ => rfl⟩
  refine ⟨_, PSs.nox (pss_cons (ps_if (pt_cmp (pc_isN (pv 0))) (pss_one (ps_ret (C8.pe_gc (by rfl) (C_NOBODY T)))) pss_nil)
  (pss_one (ps_ret (pv 0)))), ?_⟩
  obtain ⟨v, rfl, o, hr2, q⟩ := h
  cases o with
  | none =>
    obtain rfl : v = .non := hr2
    exact ⟨_, rfl, true, rfl, iteT q⟩
  | some z =>
    obtain rfl : v = .str z := hr2
    exact ⟨_, rfl, false, rfl, iteF ⟨_, rfl, q⟩⟩

end
end CK
set_option maxHeartbeats 0
namespace CK
open PySem PySem.Spec PyProof.Rows L2
section
variable {P : Program} {w : World} {K : PySem.W.Frag} {mg : Str → Option Value} {base : Heap}
/-- words_behind: of a good deed -/
def spWb (K : PySem.W.Frag) : Sp := sp1 fun x H Q _ => ∃ e : Deed, Rep K H e.d x ∧ e.Good ∧ ∀ H' a, Gr K H H' → H' a = some (.lst (e.body.map V.str)) → Q (.ref a) H'
def qW (ps : List (Str × Nat × Nat)) : List Pr2 := ps.map fun p => (p.1, .w p.2.1 p.2.2, wS p.2.1 p.2.2)
def qI (ps : List (Str × Nat)) : List Pr2 := ps.map fun p => (p.1, .i p.2, nS p.2)
theorem qW_D (ps : List (Str × Nat × Nat)) : (qW ps).map pP = ps.map pW := by unfold qW; rw [List.map_map]; rfl
theorem qI_D (ps : List (Str × Nat)) : (qI ps).map pP = ps.map pI := by unfold qI; rw [List.map_map]; rfl
theorem qW_flat (ps : List (Str × Nat × Nat)) : flatP (qW ps) = ps.flatMap fun p => [p.1, wS p.2.1 p.2.2] := by unfold qW flatP; rw [List.flatMap_map]
theorem qI_flat (ps : List (Str × Nat)) : flatP (qI ps) = ps.flatMap fun p => [p.1, nS p.2] := by unfold qI flatP; rw [List.flatMap_map]
theorem flat_len2 (qs : List Pr2) : (flatP qs).length ≤ 2 * qs.length := by
  have := flat_len qs qs.length
  rw [List.take_length] at this
  exact this
theorem rStr_n {H : Hp} {n : Nat} {Q : VK} (hn : n < 10 ^ 12) (q : Q (.str (nS n)) H) : rStr K [.int (n : Nat)] H Q := by
  unfold rStr
  exact .inl ⟨n, rfl, hn, q⟩
theorem rStr_w {H : Hp} {a : Addr} {t b : Nat} {Q : VK} (ha : IsW K H a t b) (ht : t < 10 ^ 12) (hb : b < 10 ^ 12) (q : Q (.str (wS t b)) H) : rStr K [.ref a] H Q := by
  unfold rStr
  exact .inr (.inr ⟨a, t, b, rfl, ha, ht, hb, q⟩)
theorem rStr_s {H : Hp} {z : Str} {Q : VK} (q : Q (.str z) H) : rStr K [.str z] H Q := by
  unfold rStr
  exact .inr (.inl ⟨z, rfl, q⟩)
theorem sc_words_behind : FnScope ["deed", "word", "one"] ["deed"] (defScope (top 111)) := ⟨rfl, rfl, rfl, by decide +kernel, rfl, by decide +kernel, by decide +kernel⟩
theorem ok_words_behind (T : Tp w K mg base) : Cl P w K mg base CX0 6 "words_behind" (spWb K) := by
  obtain ⟨fd, F⟩ := F_words_behind T
  refine ⟨fd, ["deed"], F.ok sc_words_behind (len1 rfl) (fun cdv A outer s H vs Q E hr h => ?_), G_words_behind T, F.kp, F.bindsN fun _ _ _ _ _ _ us hl => match us, hl with | [_], _ => rfl⟩
  refine ⟨_, PSs.nox (pss_cons (ps_set (i := 1) sc_words_behind.nd rfl (Or.inl rfl) (pe_ix (show IxR _ (rIxT K) from ix_tup) (pv 0) pe_int (fun _ _ => rfl)))
  (pss_cons (ps_if (pt_cmpR op_in_seq (pv 1) (pe_tup (pa_cons pe_str (pa_cons pe_str (pa_cons pe_str pa_nil)))) (by rfl)) (pss_one (ps_ret (pe_op op_cat (pe_lst (pa_cons (pe_ix (show IxR _ (rIxT K) from ix_tup) (pv 0) pe_int (fun _ _ => rfl)) pa_nil)) (pe_f (ok_words_of_pairs T) hr (pa_cons (pe_ix (show IxR _ (rIxT K) from ix_tup) (pv 0) pe_int (fun _ _ => rfl)) pa_nil))))) pss_nil)
  (pss_cons (ps_if (pt_cmpR op_in_seq (pv 1) (pe_tup (pa_cons pe_str (pa_cons pe_str pa_nil))) (by rfl)) (pss_one (ps_ret (pe_lst (pa_cons (pe_ix (show IxR _ (rIxT K) from ix_tup) (pv 0) pe_int (fun _ _ => rfl)) (pa_cons (pe_ix (show IxR _ (rIxT K) from ix_tup) (pv 0) pe_int (fun _ _ => rfl)) (pa_cons (pe_callTy (call_strW T (hr.mono (by decide))) (by rfl) (B_str T) (by decide +kernel) (pa_cons (pe_ix (show IxR _ (rIxT K) from ix_tup) (pv 0) pe_int (fun _ _ => rfl)) pa_nil)) pa_nil)))))) pss_nil)
  (pss_cons (ps_if (pt_cmpR op_eq (pv 1) pe_str (nomark _)) (pss_one (ps_ret (pe_op op_cat (pe_lst (pa_cons (pe_ix (show IxR _ (rIxT K) from ix_tup) (pv 0) pe_int (fun _ _ => rfl)) pa_nil)) (pe_callTy call_list_of (by rfl) (B_list T) (by decide +kernel) (pa_cons (pe_ix (show IxR _ (rIxT K) from ix_tup) (pv 0) pe_int (fun _ _ => rfl)) pa_nil))))) pss_nil)
  (pss_cons (ps_if (pt_cmpR op_eq (pv 1) pe_str (nomark _)) (pss_one (ps_ret (pe_op op_cat (pe_lst (pa_cons (pe_callTy (call_strW T (hr.mono (by decide))) (by rfl) (B_str T) (by decide +kernel) (pa_cons (pe_ix (show IxR _ (rIxT K) from ix_tup) (pv 0) pe_int (fun _ _ => rfl)) pa_nil)) (pa_cons (pe_f (ok_word_of T) hr (pa_cons (pe_ix (show IxR _ (rIxT K) from ix_tup) (pv 0) pe_int (fun _ _ => rfl)) pa_nil)) pa_nil))) (pe_callTy call_list_of (by rfl) (B_list T) (by decide +kernel) (pa_cons (pe_ix (show IxR _ (rIxT K) from ix_tup) (pv 0) pe_int (fun _ _ => rfl)) pa_nil))))) pss_nil)
  (pss_cons (ps_if (pt_cmpR op_eq (pv 1) pe_str (nomark _)) (pss_one (ps_ret (pe_callTy call_list_of (by rfl) (B_list T) (by decide +kernel) (pa_cons (pe_ix (show IxR _ (rIxT K) from ix_tup) (pv 0) pe_int (fun _ _ => rfl)) pa_nil)))) pss_nil)
  (pss_one (ps_ret (pe_lc (own := [("one", 2)]) rfl sc_words_behind.nd (pi_tup (pe_slice (sl_G (K := K) rfl) (pv 0) (po_some pe_int) po_none)) (blkOk_by (own := [("one", 2)]) (N := ["deed", "word", "one"]) (sc := defScope (top 111)) (by decide +kernel)) (fun _ _ _ _ _ => (pg_name (i := 2) sc_words_behind.nd rfl (Or.inl rfl))) (fun _ _ _ _ _ => pts_nil) (fun _ _ _ _ _ => (pe_f (ok_word_of T) hr (pa_cons (pv 2) pa_nil)))))))))))), ?_⟩
  obtain ⟨v, rfl, e, ⟨a, xs, rfl, hs, y, r, rfl, h1, hr2⟩, hg, q⟩ := h
  obtain rfl : y = .str e.word := h1
  refine ⟨_, rfl, a, _, 0, _, rfl, rfl, hs, at_0, _, rfl, (show 3 ≤ sizeLine by decide), fun p0 hp0 => ?_⟩
  have g0 : Gr K H (upd H p0 (.tup [.str (.ofString "cask"), .str (.ofString "weigh"), .str (.ofString "part")])) := .new hp0
  refine ⟨p0, _, rfl, .inr (.inl (.inl upd_same)), rfl, rfl, _, rfl, ?_⟩
  refine iteV (fun h => ?_) (fun h => ?_)
  · -- pairs
    obtain ⟨m, qs, w2, er, h2, ht, hl, eb⟩ : ∃ (m : Str) (qs : List Pr2) (w2 : V), r = [.str m, w2] ∧ Rep K H (.t (qs.map pP)) w2 ∧ (∀ q ∈ qs, TxOf q.2.1 q.2.2) ∧ qs.length ≤ 400 ∧ e.body = m :: flatP qs := by
      cases e with
      | parts k m ps =>
        obtain ⟨y1, r1, rfl, e1, y2, r2, rfl, e2, rfl⟩ := hr2
        obtain rfl : y1 = .str m := e1
        refine ⟨m, qW ps, y2, rfl, by rw [qW_D]; exact e2, fun qq hq => ?_, by unfold qW; rw [List.length_map]; have := hg.2.1; omega, by rw [qW_flat]; rfl⟩
        obtain ⟨p, hp, rfl⟩ := List.mem_map.mp hq
        have := (hg.2.2.1 p hp).2
        exact ⟨rfl, this.2.1, this.2.2.2.1⟩
      | part n ps =>
        obtain ⟨y1, r1, rfl, e1, y2, r2, rfl, e2, rfl⟩ := hr2
        obtain rfl : y1 = .str n := e1
        refine ⟨n, qI ps, y2, rfl, by rw [qI_D]; exact e2, fun qq hq => ?_, by unfold qI; rw [List.length_map]; have := hg.2.1.2.1; rw [List.length_map] at this; omega, by rw [qI_flat]; rfl⟩
        obtain ⟨p, hp, rfl⟩ := List.mem_map.mp hq
        exact ⟨rfl, (hg.2.2 p hp).2⟩
      | _ => exact absurd h (by simp only [Deed.word]; decide)
    subst er
    refine ⟨_, rfl, a, _, 1, _, rfl, rfl, g0.sqT hs, at_1, (show 1 ≤ sizeLine by decide), fun p hp => ⟨_, rfl, a, _, 2, _, rfl, rfl, (g0.add hp).sqT hs, at_2, _, rfl, qs, h2.std' (g0.add hp).std, ht, hl, fun H2 b g2 hb => ⟨p, b, _, _, rfl, rfl, g2.lst upd_same, hb, ?_, fun p2 hp2 => q _ p2 (((g0.add hp).trans g2).add hp2) ?_⟩⟩⟩
    · rw [List.length_map]
      have := flat_len2 qs
      exact small (show 1 + (flatP qs).length ≤ 1000 by omega)
    · rw [upd_same, eb]
      rfl
  refine ⟨_, rfl, (show 2 ≤ sizeLine by decide), fun p1 hp1 => ?_⟩
  have g1 := g0.add (o := .tup [.str (.ofString "burn"), .str (.ofString "make")]) hp1
  refine ⟨p1, _, rfl, .inr (.inl (.inl upd_same)), rfl, rfl, _, rfl, ?_⟩
  refine iteV (fun h' => ?_) (fun h' => ?_)
  · cases e with
    | burn m u t b =>
      obtain ⟨y1, r1, rfl, e1, y2, r2, rfl, e2, y3, r3, rfl, ⟨c, rfl, hc⟩, rfl⟩ := hr2
      obtain rfl : y1 = .str m := e1
      obtain rfl : y2 = .str u := e2
      have hw := hg.2.2
      refine ⟨_, rfl, a, _, 1, _, rfl, rfl, g1.sqT hs, at_1, _, rfl, a, _, 2, _, rfl, rfl, g1.sqT hs, at_2, _, rfl, a, _, 3, _, rfl, rfl, g1.sqT hs, at_3, rStr_w (g1.std.isW hc) hw.2.1 hw.2.2.2.1 ⟨(show 3 ≤ sizeLine by decide), fun p hp => q _ p (g1.add hp) ?_⟩⟩
      rw [upd_same]
      rfl
    | make n u g =>
      obtain ⟨y1, r1, rfl, e1, y2, r2, rfl, e2, y3, r3, rfl, e3, rfl⟩ := hr2
      obtain rfl : y1 = .str n := e1
      obtain rfl : y2 = .str u := e2
      obtain rfl : y3 = .int (g : Nat) := e3
      refine ⟨_, rfl, a, _, 1, _, rfl, rfl, g1.sqT hs, at_1, _, rfl, a, _, 2, _, rfl, rfl, g1.sqT hs, at_2, _, rfl, a, _, 3, _, rfl, rfl, g1.sqT hs, at_3, rStr_n hg.2.2.2 ⟨(show 3 ≤ sizeLine by decide), fun p hp => q _ p (g1.add hp) ?_⟩⟩
      rw [upd_same]
      rfl
    | parts k m ps => cases k <;> exact absurd h' (by simp only [Deed.word]; decide)
    | _ => exact absurd h' (by simp only [Deed.word]; decide)
  refine ⟨_, rfl, rfl, _, rfl, ?_⟩
  refine iteV (fun h2 => ?_) (fun h2 => ?_)
  · have h2 := V.str.inj (of_decide_eq_true h2)
    cases e with
    | merge ns f =>
      obtain ⟨y1, r1, rfl, ⟨c, zs, rfl, hc, hzs⟩, y2, r2, rfl, e2, rfl⟩ := hr2
      obtain rfl : y2 = .str f := e2
      obtain rfl := hzs.strs
      refine ⟨_, rfl, a, _, 2, _, rfl, rfl, g1.sqT hs, at_2, (show 1 ≤ sizeLine by decide), fun p hp => ⟨_, rfl, a, _, 1, _, rfl, rfl, (g1.add hp).sqT hs, at_1, c, _, rfl, .inr ((g1.add hp).sqT hc), fun l hl => ?_⟩⟩
      have hne : p ≠ l := fun z => by rw [← z, upd_same] at hl; cases hl
      refine ⟨p, l, _, _, rfl, rfl, by rw [upd_ne hne, upd_same], upd_same, ?_, fun p2 hp2 => q _ p2 (((g1.add hp).add hl).add hp2) ?_⟩
      · rw [List.length_map]
        have := hg.1.2.1
        exact small (show 1 + ns.length ≤ 1000 by omega)
      · rw [upd_same]
        rfl
    | parts k m ps => cases k <;> exact absurd h2 (by simp only [Deed.word]; decide)
    | _ => exact absurd h2 (by simp only [Deed.word]; decide)
  refine ⟨_, rfl, rfl, _, rfl, ?_⟩
  refine iteV (fun h3 => ?_) (fun h3 => ?_)
  · have h3 := V.str.inj (of_decide_eq_true h3)
    cases e with
    | pay ns g o =>
      obtain ⟨y1, r1, rfl, ⟨c, zs, rfl, hc, hzs⟩, y2, r2, rfl, e2, y3, r3, rfl, e3, rfl⟩ := hr2
      obtain rfl : y2 = .int (g : Nat) := e2
      obtain rfl := hzs.strs
      refine ⟨_, rfl, a, _, 2, _, rfl, rfl, g1.sqT hs, at_2, rStr_n hg.2.1.2 ⟨_, rfl, a, _, 3, _, rfl, rfl, g1.sqT hs, at_3, _, rfl, o, e3.std' g1.std, (show 2 ≤ sizeLine by decide), fun p hp => ⟨_, rfl, a, _, 1, _, rfl, rfl, (g1.add hp).sqT hs, at_1, c, _, rfl, .inr ((g1.add hp).sqT hc), fun l hl => ?_⟩⟩⟩
      have hne : p ≠ l := fun z => by rw [← z, upd_same] at hl; cases hl
      refine ⟨p, l, _, _, rfl, rfl, by rw [upd_ne hne, upd_same], upd_same, ?_, fun p2 hp2 => q _ p2 (((g1.add hp).add hl).add hp2) ?_⟩
      · rw [List.length_map]
        have := hg.1.2.1
        exact small (show 2 + ns.length ≤ 1000 by omega)
      · rw [upd_same]
        rfl
    | parts k m ps => cases k <;> exact absurd h3 (by simp only [Deed.word]; decide)
    | _ => exact absurd h3 (by simp only [Deed.word]; decide)
  refine ⟨_, rfl, rfl, _, rfl, ?_⟩
  refine iteV (fun h4 => ?_) (fun h4 => ?_)
  · have h4 := V.str.inj (of_decide_eq_true h4)
    cases e with
    | fire ms =>
      obtain ⟨y1, r1, rfl, ⟨c, zs, rfl, hc, hzs⟩, rfl⟩ := hr2
      obtain rfl := hzs.strs
      exact ⟨_, rfl, a, _, 1, _, rfl, rfl, g1.sqT hs, at_1, c, _, rfl, .inr (g1.sqT hc), fun l hl => q _ l (g1.add hl) upd_same⟩
    | parts k m ps => cases k <;> exact absurd h4 (by simp only [Deed.word]; decide)
    | _ => exact absurd h4 (by simp only [Deed.word]; decide)
  obtain ⟨os, eos, eb, hls⟩ : ∃ os : List (Option Str), e.rest = os.map optD ∧ e.body = os.map optS ∧ os.length ≤ 2 := by
    cases e with
    | lose ws => exact ⟨ws.map some, by rw [List.map_map]; rfl, by rw [List.map_map]; exact (List.map_id ws).symm, by rw [List.length_map]; exact Nat.le_of_eq hg.1⟩
    | draw ws => exact ⟨ws.map some, by rw [List.map_map]; rfl, by rw [List.map_map]; exact (List.map_id ws).symm, by rw [List.length_map]; exact Nat.le_trans (Nat.le_of_eq hg.1) (by decide)⟩
    | send m o => exact ⟨[some m, o], rfl, rfl, Nat.le_refl 2⟩
    | parts k m ps => cases k <;> exact absurd h (by simp only [Deed.word]; decide)
    | part n ps => exact absurd h (by simp only [Deed.word]; decide)
    | burn m u t b => exact absurd h' (by simp only [Deed.word]; decide)
    | make n u g => exact absurd h' (by simp only [Deed.word]; decide)
    | merge ns f => exact absurd rfl (of_decide_eq_false h2)
    | pay ns g o => exact absurd rfl (of_decide_eq_false h3)
    | fire ms => exact absurd rfl (of_decide_eq_false h4)
  rw [eos] at hr2
  have hlr : r.length = os.length := by rw [hr2.len, List.length_map]
  refine ⟨_, rfl, _, rfl, a, _, rfl, g1.sqT hs, fun H2 b g2 hb0 => ?_⟩
  have hb : SqT K H2 b ((V.str e.word :: r).drop 1) := cut_from (xs := V.str e.word :: r) 1 ▸ hb0
  have hb : SqT K H2 b r := hb
  refine ⟨b, rfl, ⟨_, hb⟩, fun D hD => lc_V (K := K) (walk_tup (K := K) (a := b) (xs := r)) ((os.map optS).map V.str) (by rw [List.length_map, List.length_map, hlr]) hD (by rw [hlr]; exact small (by omega)) (fun H g => g.sqT hb) ?_ fun H3 g3 h3 => q H3 D ((g1.trans g2).trans g3) (by rw [eb]; exact h3)⟩
  rintro i x H3 _ Q' y hy gr ⟨rfl, hx⟩ k
  cases ho : os[i]? with
  | none => rw [List.getElem?_map, List.getElem?_map, ho] at hy; cases hy
  | some o =>
    rw [List.getElem?_map, List.getElem?_map, ho] at hy
    cases hy
    obtain ⟨x', e1, hrep⟩ := hr2.at (i := i) (d := optD o) (by rw [List.getElem?_map, ho] <;> rfl)
    rw [hx] at e1
    cases e1
    exact ⟨rfl, _, rfl, _, rfl, o, hrep.std' ((g1.trans g2).trans gr).std, k _ (.refl _)⟩

end
end CK
set_option maxHeartbeats 4000000
namespace CK
open PySem PySem.Spec PyProof.Rows L2
/-! ### joined texts -/
abbrev jn (c : Nat) (ws : List Str) : Str := Txt.join ⟨#[c]⟩ ws
theorem cl_jn (c : Nat) (ws : List Str) : cl (jn c ws) = TL.joinL [c] (ws.map cl) := by
  have e : ws = (ws.map cl).map SX.S := by
    rw [List.map_map]
    exact (List.map_id' ws).symm.trans (List.map_congr_left fun x _ => (S_cl x).symm)
  have := SX.join_S [c] (ws.map cl)
  rw [← e] at this
  show cl (Txt.join (SX.S [c]) ws) = _
  rw [this]
theorem joinL_len (c : Nat) : ∀ l : List (List Nat), (TL.joinL [c] l).length ≤ (l.map (·.length)).sum + l.length
  | [] => by simp [TL.joinL]
  | [x] => by simp [TL.joinL]
  | x :: y :: l => by
    have ih := joinL_len c (y :: l)
    have e : TL.joinL [c] (x :: y :: l) = x ++ ([c] ++ TL.joinL [c] (y :: l)) := by simp [TL.joinL]
    rw [e, List.length_append, List.length_append]
    simp only [List.map_cons, List.sum_cons, List.length_cons] at ih ⊢
    simp only [List.length_nil]
    omega
theorem jn_len (c : Nat) (ws : List Str) : (jn c ws).length ≤ (ws.map (·.length)).sum + ws.length := by
  rw [← cl_len, cl_jn]
  refine Nat.le_trans (joinL_len c _) ?_
  rw [List.map_map, List.length_map]
  have : (ws.map ((fun x : List Nat => x.length) ∘ cl)) = ws.map (·.length) := List.map_congr_left fun x _ => cl_len x
  rw [this]
  exact Nat.le_refl _
theorem sum_le {k : Nat} {ws : List Str} (h : ∀ w ∈ ws, w.length ≤ k) : (ws.map (·.length)).sum ≤ k * ws.length := by
  induction ws with
  | nil => simp
  | cons w ws ih =>
    have h1 := h w (by simp)
    have h2 := ih fun x hx => h x (List.mem_cons_of_mem _ hx)
    simp only [List.map_cons, List.sum_cons, List.length_cons, Nat.mul_add, Nat.mul_one]
    omega
theorem jn_le {k c : Nat} {ws : List Str} (h : ∀ w ∈ ws, w.length ≤ k) : (jn c ws).length ≤ (k + 1) * ws.length := by
  have h1 := jn_len c ws
  have h2 := sum_le h
  rw [Nat.add_mul, Nat.one_mul]
  omega
/-! ### rows -/
def rowT (d : Nat) (e : Deed) : Str := jn 32 (nS d :: e.word :: e.body)
def lossT (p : Loss) : Str := p.1 ++ .ofString " " ++ nS p.2.1 ++ .ofString "/" ++ nS p.2.2
def headT (dr : List Loss) : Str := jn 32 (.ofString "drying" :: dr.map lossT)
def bookT (dr : List Loss) (l : List (Nat × Deed)) : Str := jn 10 (headT dr :: l.map fun p => rowT p.1 p.2)
theorem word_len (e : Deed) : e.word.length ≤ 5 := by
  cases e with
  | parts k => cases k <;> (simp only [Deed.word]; decide)
  | _ => simp only [Deed.word]; decide
theorem nm_le {x : Str} (h : isNm x = true) : x.length ≤ 25 := Nat.le_trans (isNm_len h).2 (by decide)
theorem mk_le {x : Str} (h : isMk x = true) : x.length ≤ 25 := Nat.le_trans (isMk_len h).2 (by decide)
theorem nS_le25 {n : Nat} (h : n < 10 ^ 12) : (nS n).length ≤ 25 := Nat.le_trans (nS_le h) (by decide)
theorem optS_le {o : Option Str} (h : okO o) : (optS o).length ≤ 25 := by
  cases o with
  | none => show (Str.ofString "-").length ≤ 25; decide
  | some x => exact nm_le h
theorem body_len {e : Deed} (h : e.Good) : e.body.length ≤ 202 ∧ ∀ w ∈ e.body, w.length ≤ 25 := by
  cases e with
  | parts k m ps =>
    obtain ⟨hm, h4, hp, _⟩ := h
    refine ⟨?_, fun w hw => ?_⟩
    · have e1 : (Deed.parts k m ps).body = m :: flatP (qW ps) := by rw [qW_flat]; rfl
      have := flat_len2 (qW ps)
      rw [e1, List.length_cons]
      unfold qW at this
      rw [List.length_map] at this
      unfold qW
      omega
    · rcases List.mem_cons.mp (show w ∈ m :: ps.flatMap fun p => [p.1, wS p.2.1 p.2.2] from hw) with rfl | hw
      · exact mk_le hm
      · obtain ⟨p, hp', hw⟩ := List.mem_flatMap.mp hw
        simp only [List.mem_cons, List.not_mem_nil, or_false] at hw
        rcases hw with rfl | rfl
        · exact nm_le (hp p hp').1
        · exact wS_len (hp p hp').2.2.1 (hp p hp').2.2.2.2.1
  | part n ps =>
    obtain ⟨hn, ho, hg⟩ := h
    refine ⟨?_, fun w hw => ?_⟩
    · have e1 : (Deed.part n ps).body = n :: flatP (qI ps) := by rw [qI_flat]; rfl
      have := flat_len2 (qI ps)
      have h100 := ho.2.1
      rw [List.length_map] at h100
      rw [e1, List.length_cons]
      unfold qI at this
      rw [List.length_map] at this
      unfold qI
      omega
    · rcases List.mem_cons.mp (show w ∈ n :: ps.flatMap fun p => [p.1, nS p.2] from hw) with rfl | hw
      · exact nm_le hn
      · obtain ⟨p, hp', hw⟩ := List.mem_flatMap.mp hw
        simp only [List.mem_cons, List.not_mem_nil, or_false] at hw
        rcases hw with rfl | rfl
        · exact nm_le (ho.2.2.1 _ (List.mem_map_of_mem hp'))
        · exact nS_le25 (hg p hp').2
  | burn m u t b =>
    obtain ⟨hm, hu, hw⟩ := h
    refine ⟨by show 3 ≤ 202; decide, fun w hw' => ?_⟩
    simp only [Deed.body, List.mem_cons, List.not_mem_nil, or_false] at hw'
    rcases hw' with rfl | rfl | rfl
    · exact mk_le hm
    · exact nm_le hu
    · exact wS_len hw.2.1 hw.2.2.2.1
  | make n u g =>
    obtain ⟨hn, hu, hg⟩ := h
    refine ⟨by show 3 ≤ 202; decide, fun w hw' => ?_⟩
    simp only [Deed.body, List.mem_cons, List.not_mem_nil, or_false] at hw'
    rcases hw' with rfl | rfl | rfl
    · exact nm_le hn
    · exact nm_le hu
    · exact nS_le25 hg.2
  | merge ns f =>
    obtain ⟨ho, hf⟩ := h
    refine ⟨by show ns.length + 1 ≤ 202; have := ho.2.1; omega, fun w hw => ?_⟩
    rcases List.mem_cons.mp (show w ∈ f :: ns from hw) with rfl | hw
    · exact nm_le hf
    · exact nm_le (ho.2.2.1 w hw)
  | pay ns g o =>
    obtain ⟨ho, hg, hoo⟩ := h
    refine ⟨by show ns.length + 1 + 1 ≤ 202; have := ho.2.1; omega, fun w hw => ?_⟩
    rcases List.mem_cons.mp (show w ∈ nS g :: optS o :: ns from hw) with rfl | hw
    · exact nS_le25 hg.2
    · rcases List.mem_cons.mp hw with rfl | hw
      · exact optS_le hoo
      · exact nm_le (ho.2.2.1 w hw)
  | fire ms => exact ⟨by show ms.length ≤ 202; have := h.2.1; omega, fun w hw => mk_le (h.2.2.1 w hw)⟩
  | lose ws => exact ⟨by show ws.length ≤ 202; have := h.1; omega, fun w hw => nm_le (h.2 w hw)⟩
  | draw ws => exact ⟨by show ws.length ≤ 202; have := h.1; omega, fun w hw => nm_le (h.2 w hw)⟩
  | send m o =>
    obtain ⟨hm, ho⟩ := h
    refine ⟨by show 2 ≤ 202; decide, fun w hw => ?_⟩
    simp only [Deed.body, List.mem_cons, List.not_mem_nil, or_false] at hw
    rcases hw with rfl | rfl
    · exact mk_le hm
    · exact optS_le ho
theorem rowT_words {d : Nat} {e : Deed} (hd : d ≤ 1200) (h : e.Good) : ∀ w ∈ nS d :: e.word :: e.body, w.length ≤ 25 := by
  intro w hw
  rcases List.mem_cons.mp hw with rfl | hw
  · exact nS_le25 (by omega)
  · rcases List.mem_cons.mp hw with rfl | hw
    · exact Nat.le_trans (word_len e) (by decide)
    · exact (body_len h).2 w hw
theorem rowT_len {d : Nat} {e : Deed} (hd : d ≤ 1200) (h : e.Good) : (rowT d e).length ≤ 5304 := by
  have h1 := jn_le (c := 32) (rowT_words hd h)
  have h2 := (body_len h).1
  unfold rowT
  simp only [List.length_cons] at h1
  omega
theorem lossT_len {p : Loss} (h : okL p) : (lossT p).length ≤ 34 := by
  unfold lossT
  have h1 := (isNm_len h.1).2
  have h2 := nS_le (n := p.2.1) (by have := h.2; omega)
  have h3 := nS_le (n := p.2.2) (by have := h.2; omega)
  have e1 : (Str.ofString " ").length = 1 := rfl
  have e2 : (Str.ofString "/").length = 1 := rfl
  simp only [app_len, e1, e2]
  omega
theorem headT_words {dr : List Loss} (h : okLs dr) : ∀ w ∈ Str.ofString "drying" :: dr.map lossT, w.length ≤ 34 := by
  intro w hw
  rcases List.mem_cons.mp hw with rfl | hw
  · decide
  · obtain ⟨p, hp, rfl⟩ := List.mem_map.mp hw
    exact lossT_len (h.2.1 p hp)
theorem headT_len {dr : List Loss} (h : okLs dr) : (headT dr).length ≤ 175 := by
  have h1 := jn_le (c := 32) (headT_words h)
  have h2 := h.1
  unfold headT
  simp only [List.length_cons, List.length_map] at h1
  omega
end CK
set_option maxHeartbeats 0
namespace CK
open PySem PySem.Spec PyProof.Rows L2
section
variable {P : Program} {w : World} {K : PySem.W.Frag} {mg : Str → Option Value} {base : Heap}
def spRow (K : PySem.W.Frag) : Sp := sp2 fun x y H Q _ => ∃ (d : Nat) (e : Deed), x = .int (d : Nat) ∧ d ≤ 1200 ∧ Rep K H e.d y ∧ e.Good ∧ ∀ H', Gr K H H' → Q (.str (rowT d e)) H'
theorem sum_bd {k : Nat} {ws : List Str} (h : ∀ w ∈ ws, w.length ≤ k) (n : Nat) (hn : ws.length ≤ n) (hk : (k + 1) * n ≤ 16777216) : (ws.map (·.length)).sum + ws.length * 1 ≤ 16777216 := by
  have h1 := sum_le h
  have h2 : (k + 1) * ws.length ≤ (k + 1) * n := Nat.mul_le_mul_left _ hn
  rw [Nat.add_mul, Nat.one_mul] at h2
  omega
theorem sc_row_of : FnScope ["day", "deed"] ["day", "deed"] (defScope (top 112)) := ⟨rfl, rfl, rfl, by decide +kernel, rfl, by decide +kernel, by decide +kernel⟩
theorem ok_row_of (T : Tp w K mg base) : Cl P w K mg base CX0 7 "row_of" (spRow K) := by
  obtain ⟨fd, F⟩ := F_row_of T
  refine ⟨fd, ["day", "deed"], F.ok sc_row_of (len2 rfl) (fun cdv A outer s H vs Q E hr h => ?_), G_row_of T, F.kp, F.bindsN fun _ _ _ _ _ _ us hl => match us, hl with | [_, _], _ => rfl⟩
  refine ⟨_, PSs.nox (pss_one (ps_ret (pe_join pe_str (pe_op op_cat (pe_lst (pa_cons (pe_callTy (call_strW T (hr.mono (by decide))) (by rfl) (B_str T) (by decide +kernel) (pa_cons (pv 0) pa_nil)) (pa_cons (pe_ix (show IxR _ (rIxT K) from ix_tup) (pv 1) pe_int (fun _ _ => rfl)) pa_nil))) (pe_f (ok_words_behind T) hr (pa_cons (pv 1) pa_nil)))))), ?_⟩
  obtain ⟨v, v2, rfl, d, e, rfl, hd, hrep, hg, q⟩ := h
  obtain ⟨a, xs, rfl, hs, y, r, rfl, h1, hr2⟩ := id hrep
  obtain rfl : y = .str e.word := h1
  refine ⟨⟨_, rfl⟩, _, rfl, rStr_n (by omega) ⟨_, rfl, a, _, 0, _, rfl, rfl, hs, at_0, (show 2 ≤ sizeLine by decide), fun p hp => ⟨_, rfl, _, rfl, e, Rep.std' hrep (Std.upd' hp), hg, fun H2 b g2 hb => ?_⟩⟩⟩
  have g1 : Gr K H (upd H p (.lst [.str (nS d), .str e.word])) := .new hp
  have hbl := body_len hg
  refine ⟨p, b, _, _, rfl, rfl, g2.lst upd_same, hb, by rw [List.length_map]; exact small (show 2 + e.body.length ≤ 1000 by omega), fun p2 hp2 => ?_⟩
  refine ⟨_, p2, nS d :: e.word :: e.body, rfl, rfl, .inl (SqL.of ?_), sum_bd (rowT_words hd hg) 204 (by simp only [List.length_cons]; omega) (by decide), q _ ((g1.trans g2).add hp2)⟩
  rw [upd_same]
  rfl

def spHead (K : PySem.W.Frag) : Sp := sp1 fun x H Q _ => ∃ dr, Rep K H (dD dr) x ∧ okLs dr ∧ ∀ H', Gr K H H' → Q (.str (headT dr)) H'
theorem sc_drying_row : FnScope ["drying", "ware", "top", "bottom"] ["drying"] (defScope (top 113)) := ⟨rfl, rfl, rfl, by decide +kernel, rfl, by decide +kernel, by decide +kernel⟩
theorem ok_drying_row (T : Tp w K mg base) : Cl P w K mg base CX0 2 "drying_row" (spHead K) := by
  obtain ⟨fd, F⟩ := F_drying_row T
  refine ⟨fd, ["drying"], F.ok sc_drying_row (len1 rfl) (fun cdv A outer s H vs Q E hr h => ?_), G_drying_row T, F.kp, F.bindsN fun _ _ _ _ _ _ us hl => match us, hl with | [_], _ => rfl⟩
  refine ⟨_, PSs.nox (pss_one (ps_ret (pe_join pe_str (pe_op op_cat (pe_lst (pa_cons pe_str pa_nil)) (pe_lc (own := [("ware", 1), ("top", 2), ("bottom", 3)]) rfl sc_drying_row.nd (pi_tup (pv 0)) (blkOk_by (own := [("ware", 1), ("top", 2), ("bottom", 3)]) (N := ["drying", "ware", "top", "bottom"]) (sc := defScope (top 113)) (by decide +kernel)) (fun _ _ _ _ _ => (show PG _ _ (gTup K 3 _) from pg_tup rfl (pgs_cons (pg_name (i := 1) sc_drying_row.nd rfl (Or.inl rfl)) (pgs_cons (pg_name (i := 2) sc_drying_row.nd rfl (Or.inl rfl)) (pgs_cons (pg_name (i := 3) sc_drying_row.nd rfl (Or.inl rfl)) pgs_nil))))) (fun _ _ _ _ _ => pts_nil) (fun _ _ _ _ _ => (show PE _ _ (tFS _) from pe_joined (PJ.cons (pe_fmt (pv 1)) (PJ.cons pe_str (PJ.cons (pe_fmt (pv 2)) (PJ.cons pe_str (PJ.cons (pe_fmt (pv 3)) PJ.nil)))))))))))), ?_⟩
  obtain ⟨v, rfl, dr, ⟨a, xs, rfl, hs, hr2⟩, ho, q⟩ := h
  have hl : xs.length = dr.length := by rw [hr2.len, List.length_map]
  refine ⟨⟨_, rfl⟩, (show 1 ≤ sizeLine by decide), fun p hp => ⟨_, rfl, a, rfl, ⟨_, Std.sqT (.upd' hp) hs⟩, fun D hD => ?_⟩⟩
  have g1 : Gr K H (upd H p (.lst [.str (.ofString "drying")])) := .new hp
  refine lc_V (K := K) (walk_tup (K := K) (a := a) (xs := xs)) ((dr.map lossT).map V.str) (by rw [List.length_map, List.length_map, hl]) hD (by rw [hl]; exact small (by have := ho.1; omega)) (fun H g => (g1.trans g).sqT hs) ?_ fun H3 g3 h3 => ?_
  · rintro i x H3 _ Q' y hy gr ⟨rfl, hx⟩ k
    obtain ⟨pp, b, hp', rfl, hb⟩ := loss_at hr2 hx
    rw [List.getElem?_map, List.getElem?_map, hp'] at hy
    cases hy
    have hok := ho.2.1 pp (List.mem_of_getElem? hp')
    have n1 := (isNm_len hok.1).2
    have n2 : pp.2.1 < 10 ^ 12 := by have := hok.2; omega
    have n3 : pp.2.2 < 10 ^ 12 := by have := hok.2; omega
    have l2 := nS_le n2
    have l3 := nS_le n3
    have e1 : (Str.ofString " ").length = 1 := rfl
    have e2 : (Str.ofString "/").length = 1 := rfl
    have e0 : Str.empty.length = 0 := rfl
    refine ⟨b, _, rfl, (g1.trans gr).sqT hb, rfl, _, _, rfl, _, _, rfl, _, _, rfl, rfl, rfl, _, rfl, .inl ⟨_, rfl, small (by omega), _, rfl, ?_, _, rfl, ?_, _, rfl, .inr ⟨_, rfl, nlog n2, _, rfl, ?_, _, rfl, ?_, _, rfl, .inr ⟨_, rfl, nlog n3, _, rfl, ?_, ?_⟩⟩⟩⟩
    · rw [app_len]; exact small (by omega)
    · rw [app_len, app_len]; exact small (by omega)
    · show (Str.empty ++ pp.1 ++ Str.ofString " " ++ nS pp.2.1).length ≤ sizeLine
      rw [app_len, app_len, app_len]; exact small (by omega)
    · show (Str.empty ++ pp.1 ++ Str.ofString " " ++ nS pp.2.1 ++ Str.ofString "/").length ≤ sizeLine
      rw [app_len, app_len, app_len, app_len]; exact small (by omega)
    · show (Str.empty ++ pp.1 ++ Str.ofString " " ++ nS pp.2.1 ++ Str.ofString "/" ++ nS pp.2.2).length ≤ sizeLine
      rw [app_len, app_len, app_len, app_len, app_len]; exact small (by omega)
    · show Q' (.str (Str.empty ++ pp.1 ++ Str.ofString " " ++ nS pp.2.1 ++ Str.ofString "/" ++ nS pp.2.2)) _
      rw [emp_app]
      exact k _ (.refl _)
  · have h4 := ho.1
    refine ⟨p, D, _, _, rfl, rfl, g3.lst upd_same, h3, by rw [List.length_map, List.length_map]; exact small (show 1 + dr.length ≤ 1000 by omega), fun p2 hp2 => ?_⟩
    refine ⟨_, p2, .ofString "drying" :: dr.map lossT, rfl, rfl, .inl (SqL.of ?_), sum_bd (headT_words ho) 5 (by simp only [List.length_cons, List.length_map]; omega) (by decide), q _ ((g1.trans g3).add hp2)⟩
    rw [upd_same]
    rfl

theorem nl_eq : Str.ofString "\n" = ⟨#[10]⟩ := by decide +kernel
theorem nl_len : (Str.ofString "\n").length = 1 := by decide +kernel
/-- the deeds that are told are good -/
def okDays (l : List (Nat × Deed)) : Prop := ∀ p ∈ l, p.1 ≤ 1200 ∧ p.2.Good
theorem bookT_words {dr : List Loss} {l : List (Nat × Deed)} (h : okLs dr) (g : okDays l) : ∀ w ∈ headT dr :: l.map fun p => rowT p.1 p.2, w.length ≤ 5304 := by
  intro w hw
  rcases List.mem_cons.mp hw with rfl | hw
  · exact Nat.le_trans (headT_len h) (by decide)
  · obtain ⟨p, hp, rfl⟩ := List.mem_map.mp hw
    exact rowT_len (g p hp).1 (g p hp).2
theorem days_len {its : List Itm} : (days its).length ≤ its.length := by
  unfold days
  exact Nat.le_trans (List.length_filterMap_le _ _) nums_len
def spShow (K : PySem.W.Frag) : Sp := sp1 fun x H Q _ => ∃ b L dr its, x = .ref b ∧ Bk K H b L dr its ∧ okLs dr ∧ okDays (days its) ∧ LamX.Tabs (TT K) H ∧ ∀ H', Gr K H H' → Q (.str (bookT dr (days its))) H'
theorem sc_show_book : FnScope ["book", "rows", "day", "deed"] ["book"] (defScope (top 114)) := ⟨rfl, rfl, rfl, by decide +kernel, rfl, by decide +kernel, by decide +kernel⟩
theorem ok_show_book (T : Tp w K mg base) : Cl P w K mg base CX0 8 "show_book" (spShow K) := by
  obtain ⟨fd, F⟩ := F_show_book T
  refine ⟨fd, ["book"], F.ok sc_show_book (len1 rfl) (fun cdv A outer s H vs Q E hr h => ?_), G_show_book T, F.kp, F.bindsN fun _ _ _ _ _ _ us hl => match us, hl with | [_], _ => rfl⟩
  refine ⟨_, PSs.nox (pss_cons (ps_set (i := 1) sc_show_book.nd rfl (Or.inl rfl) (pe_lst (pa_cons (pe_f (ok_drying_row T) hr (pa_cons (show PE _ _ (tFld K _ _) from pe_fld (pv 0) rfl) pa_nil)) pa_nil)))
  (pss_cons (ps_expr (pe_bm PySem.F.plainAttrs_list PySem.F.slot_list_extend PySem.F.type_list_extend mt_extend (pv 1) (pa_cons (pe_lc (own := [("day", 2), ("deed", 3)]) rfl sc_show_book.nd (pi_list (C8.pe_mt0 (met_by_days T) hr (by decide) (pv 0))) (blkOk_by (own := [("day", 2), ("deed", 3)]) (N := ["book", "rows", "day", "deed"]) (sc := defScope (top 114)) (by decide +kernel)) (fun _ _ _ _ _ => (show PG _ _ (gTup K 2 _) from pg_tup rfl (pgs_cons (pg_name (i := 2) sc_show_book.nd rfl (Or.inl rfl)) (pgs_cons (pg_name (i := 3) sc_show_book.nd rfl (Or.inl rfl)) pgs_nil)))) (fun _ _ _ _ _ => pts_nil) (fun _ _ _ _ _ => (pe_f (ok_row_of T) hr (pa_cons (pv 2) (pa_cons (pv 3) pa_nil))))) pa_nil)))
  (pss_one (ps_ret (pe_join pe_str (pv 1)))))), ?_⟩
  obtain ⟨v, rfl, b, L, dr, its, rfl, B, ho, hd, hT, q⟩ := h
  obtain ⟨dx, vd, xs, h1, h2, h3, h4⟩ := B.ex
  have hdl : (days its).length ≤ 1000 := Nat.le_trans days_len B.len
  refine ⟨_, rfl, b, _, dx, _, _, rfl, h1, K_Book T, N_Book_drying_told T, rfl, _, rfl, dr, h3, ho, fun H1 g1 => ⟨(show 1 ≤ sizeLine by decide), fun r hr' => ?_⟩⟩
  have g2 : Gr K H (upd H1 r (.lst [.str (headT dr)])) := g1.add hr'
  refine ⟨_, rfl, .inl ⟨rfl, _, SqL.of upd_same⟩, _, rfl, b, dx, _, rfl, g2.ins h1, rfl, _, rfl, b, L, dr, its, rfl, B.gr g2, g2.tabs hT, fun H3 c ys g3 e3 hy => ⟨c, rfl, ⟨_, SqL.of e3⟩, fun D hD => ?_⟩⟩
  have g23 := g2.trans g3
  refine lc_V (K := K) (walk_list (K := K) (a := c) (xs := ys)) (((days its).map fun p => rowT p.1 p.2).map V.str) (by rw [List.length_map, List.length_map, hy.len, List.length_map]) hD (by rw [hy.len, List.length_map]; exact small hdl) (fun H g => g.sqL (SqL.of e3)) ?_ fun H4 g4 e4 => ?_
  · rintro i x H4 _ Q' y hy' gr ⟨rfl, hx⟩ k
    cases hp : (days its)[i]? with
    | none => rw [List.getElem?_map, List.getElem?_map, hp] at hy'; cases hy'
    | some p =>
      rw [List.getElem?_map, List.getElem?_map, hp] at hy'
      cases hy'
      obtain ⟨x', f1, hrep⟩ := hy.at (i := i) (d := pE p) (by rw [List.getElem?_map, hp] <;> rfl)
      rw [hx] at f1
      cases f1
      obtain ⟨a, y, z, rfl, hs, hy1, hz⟩ := rep2 hrep
      obtain rfl : y = .int (p.1 : Nat) := hy1
      have hok := hd p (List.mem_of_getElem? hp)
      exact ⟨a, _, rfl, gr.sqT hs, rfl, _, _, rfl, _, _, rfl, rfl, rfl, _, rfl, _, rfl, _, _, rfl, p.1, p.2, rfl, hok.1, hz.std' gr.std, hok.2, fun H5 g5 => k _ g5⟩
  · have hlr := g4.lst (g3.lst upd_same)
    have hne : r ≠ D := fun z => by rw [← z, g3.lst upd_same] at hD; cases hD
    have gr : Gr K H (upd H4 r (.lst ([.str (headT dr)] ++ ((days its).map fun p => rowT p.1 p.2).map V.str))) := g1.trans ((((Gr.new hr').trans g3).trans g4).put hr' hlr)
    have hbd : ((headT dr :: (days its).map fun p => rowT p.1 p.2).map (·.length)).sum + (headT dr :: (days its).map fun p => rowT p.1 p.2).length * 1 ≤ 16777216 := sum_bd (bookT_words ho hd) 1001 (by simp only [List.length_cons, List.length_map]; omega) (by omega)
    refine ⟨r, D, _, _, rfl, rfl, hlr, e4, ?_, ?_⟩
    · rw [List.length_map, List.length_map]
      exact Nat.le_trans (show 1 + (days its).length ≤ 1001 by omega) (show 1001 ≤ sizeLine by decide)
    refine ⟨⟨_, rfl⟩, _, rfl, ?_⟩
    refine ⟨_, r, headT dr :: (days its).map (fun p => rowT p.1 p.2), rfl, rfl, .inl (SqL.of ?_), ?_, ?_⟩
    · rw [upd_same]
      rfl
    · rw [nl_len]
      exact hbd
    · rw [nl_eq]
      exact q _ gr

end
end CK
set_option maxHeartbeats 4000000
namespace CK
open PySem PySem.Spec PyProof.Rows L2
abbrev cN (K : PySem.W.Frag) : Addr := He.ga K "NoText"
abbrev cR (K : PySem.W.Frag) : Addr := He.ga K "Wrong"
theorem oexB_ok {K : PySem.W.Frag} {C : Addr} (h : oexB K C = true) : ∃ nm q N bs bm sn sub ab col dd k0 k1 k2 k3 k5, K.lookup C = some (excClassObj nm q C N bs bm true sn sub ab col dd k0 k1 k2 k3 k5 "ValueError.__new__") ∧ PySem.HandSPX.refsVE bm = true := by
  unfold oexB at h
  split at h
  · rename_i t od cd sl hl
    obtain ⟨h1, h2⟩ := Bool.and_eq_true_iff.mp h
    have e1 := of_decide_eq_true h1
    split at h2
    · rename_i C' bm k0 k1 k2 k3 n k5 hm hs
      simp only [Bool.and_eq_true, decide_eq_true_eq, Bool.not_eq_true'] at h2
      obtain ⟨rfl, rfl, h3, h4, h5⟩ := h2
      obtain ⟨nm, bs, mro, ns, qn, hd, sn, sub, ab, col, del⟩ := cd
      subst e1
      simp only at hm h3 h4
      subst hm h3 h4
      have es : sl = #[k0, k1, k2, k3, some (Value.builtin "ValueError.__new__"), k5] := by
        apply Array.ext'
        exact hs
      subst es
      exact ⟨nm, qn, ns, bs, bm, sn, sub, ab, col, od, k0, k1, k2, k3, k5, hl, h5⟩
    · cases h2
  · cases h
theorem initB_ok {K : PySem.W.Frag} {C : Addr} (h : initB K C = true) : PySem.W.findCls K (.ref C) (.type "type") "__init__" = some (.val (.builtin "ValueError.__init__")) := by
  unfold initB at h
  split at h
  · rename_i n e
    rw [e, of_decide_eq_true h]
  · cases h
theorem oexC_ {w : World} {K : PySem.W.Frag} {mg : Str → Option Value} {base : Heap} (T : Tp w K mg base) : OexC K (cN K) :=
  ⟨oexB_ok (xl T (i := 0) rfl), He.eqO_ok (xl T (i := 1) rfl), (xfB_ok (xl T (i := 3) rfl)).exC, of_decide_eq_true (xl T (i := 2) rfl), P_NoText T⟩
section
variable {X : Cx} {e : Expr} {es : List Expr} {ta : TA} {p1 p2 pos : Pos}
/-- Wrong.__init__(self, ..): ValueError's -/
theorem pe_wrinit {pl : Sem Bool} (T : Tp X.w X.K X.mg X.base) (hg : Gl X "Wrong") (hm : X.mg "Wrong" = some (.ref (cR X.K))) (ha : PA X (e :: es) ta)
    (hc : eval (.Call (.Attribute (.Name "Wrong" p1) "__init__" p2) (e :: es) [] pos) X.env = (do
      let ov ← eval (.Name "Wrong" p1) X.env
      standAt p2.atName
      let (f, first) ← holding [ov] (getMethod ov "__init__" pl)
      callWith pos f first (backTo pos (starEach (e :: es) X.env)) (backToKw pos (keywordEach [] X.env))) := by rfl)
    (he : starEach (e :: es) X.env = (false, eval e X.env) :: starEach es X.env := by rfl) (hpl : (backTo pos (starEach es X.env)).any (·.1) = false := by rfl) :
    PE X (.Call (.Attribute (.Name "Wrong" p1) "__init__" p2) (e :: es) [] pos) (tVeI X.K ta) := by
  refine ⟨fun pins s σ H Q I h => ?_⟩
  refine PySem.W.methodCall_KW (ld_glob I hg hm ?_) hc
  refine PySem.W.method_cls I.kIn (He.eqO_ok (xl T (i := 5) rfl)) (PySem.W.cls_value I.kIn (xl T (i := 4) rfl) (v := .builtin "ValueError.__init__") (initB_ok (xl T (i := 6) rfl)) (by decide +kernel) ?_)
  show wpAny _ _ (callWith pos (Value.builtin "ValueError.__init__") [] (backTo pos (starEach (e :: es) X.env)) []) _ _ _
  refine PyProof.Rows.callWith_method1 (thn (ha.run pos pins _ σ H _ (I.tok _) h) fun us s1 ⟨vs, H1, I1, r1, a, C, ws, ev, hl, T', ea, q⟩ => ?_) he hpl
  subst ev
  cases r1 with
  | @cons _ u0 _ ur ra rw' =>
    obtain rfl : u0 = Value.ref a := ra
    have hlen : ur.length ≤ sizeLine := by
      rw [← Paired.length rw', sizeLine_eq]
      omega
    exact oinit_ok T' I1 ea hlen fun s' J => ⟨.non, H1, J, rfl, q⟩
/-- C(), C's own __init__ with defaults -/
theorem pmk_oex0 {CX : CXT} {x : Str} {C fI : Addr} {k : Nat} {fd : FuncData} {ps : List Str} {sp : Sp} {ds : List Value} {dvs : List V} {p : Pos} (T : OexC X.K C) (iC : PySem.W.findIn X.K (.ref C) "__init__" = some (some (.ref fI))) (tI : PySem.W.typeIn X.K (.ref fI) = some (.type "function"))
    (F1 : FnOk X.prog X.w X.K X.mg X.base CX k fI fd ps sp) (hr : Room (k + 1) X.A) (hb : Binds X.K fd ps ds) (hd : Vals dvs ds) (hx : Passes CX X (fun _ _ _ => False)) (hg : Gl X x) (hm : X.mg x = some (.ref C))
    (hdb : (x == ("__debug__" : Str)) = false := by decide) : L2N.PMk X (.Call (.Name x p) [] [] pos) (tMkO C sp dvs tNil) := by
  intro pins s σ H Q I h
  obtain ⟨nm, q, N, bs, bm, sn, sub, ab, col, dd, k0, k1, k2, k3, k5, hC, hbm⟩ := T.cls
  refine wpAny_Call_Name_kw (ld_glob I hg hm ?_ hdb)
  refine PySem.W.callWith_K0 I.kIn T.kC ?_
  show wpAny _ _ (call (.ref C) []) _ _ _
  obtain ⟨_, q1⟩ := h
  obtain ⟨hp, g, dr, tk, os⟩ := s
  have hsz : hp.objs.size ≤ hp.objs.size + 1 := Nat.le_succ _
  have hn : H (hp.objs.size + 1) = none := I.hok.fresh hsz
  have hq := q1 (hp.objs.size + 1) hn
  rw [List.nil_append] at hq
  have kk : ∀ b o, hp.get? b = some o → ((hp.push (PySem.W.kdv_tup [])).push (PySem.HandSPX.excO C hp.objs.size)).get? b = some o := fun b o e => Heap.get?_push_of_some _ (Heap.get?_push_of_some _ e)
  have hget : ((hp.push (PySem.W.kdv_tup [])).push (PySem.HandSPX.excO C hp.objs.size)).get? (hp.objs.size + 1) = some (PySem.HandSPX.excO C hp.objs.size) := by heap_get
  have I2 : Inv X pins σ (upd H (hp.objs.size + 1) (exo (hp.objs.size + 1) C none)) ⟨(hp.push (PySem.W.kdv_tup [])).push (PySem.HandSPX.excO C hp.objs.size), g, dr, tk, os⟩ :=
    I.laid (t' := tk) (a := hp.objs.size + 1) (o := exo (hp.objs.size + 1) C none) (h' := (hp.push (PySem.W.kdv_tup [])).push (PySem.HandSPX.excO C hp.objs.size)) kk hsz (exo_ok hget)
  have r2 : Vals (V.ref (hp.objs.size + 1) :: dvs) (Value.ref (hp.objs.size + 1) :: ds) := .cons rfl hd
  have hl : ([Value.ref (hp.objs.size + 1)] ++ ds).length = ps.length := by
    have e := r2.length
    rw [F1.len _ _ _ _ hq] at e
    exact e.symm
  refine wpAny_call (PySem.HandSPX.call_own F.excBase_ValueError (fun Y => PySem.HandSPX.refsVE_contains Y bm hbm) (I.kIn _ _ hC) (PySem.W.looks_findIn I.kIn iC) (fun self => PySem.W.bind_fn I.kIn self tI) (show ([] : List Value).length ≤ sizeLine from Nat.zero_le _)
    (codeAny_mono (F1.run _ X.stack _ _ ⟨[Value.ref (hp.objs.size + 1)], []⟩ (Value.ref (hp.objs.size + 1) :: ds) _ _ (fun _ _ _ => False) (hr.make C [] []) (I2.env0.make C [] []) (hb _ [Value.ref (hp.objs.size + 1)] I2.kIn hl) r2 hq) fun r s' hq' => ?_))
  match r, hq' with
  | .error er, hq' => exact hx pins σ _ _ er s' I2 hq'
  | .ok (.ret u), hq' =>
    obtain ⟨v, H2, os2, bare2, un2, hok2, rv, ev, d, fs, ea, ed, hd1, q2⟩ := hq'
    subst ev
    obtain ⟨h2, g2, d2, t2, os'⟩ := s'
    obtain ⟨t0, G, J, kG, ge, hoe, na⟩ := mk_end0 (d2 := d2) (t2 := t2) I hsz kk un2 hok2 os2 bare2 ea ed hd1
    refine ⟨rv, hp.objs.size + 1, _, _, ⟨G, g2, d2, t2, os'⟩, _, .ref C, some d, rfl, J, kG, ge, hoe, ⟨rfl, rfl, fun vs hv => ?_⟩, rfl, rfl, na, rfl, bare2, raises_own T.exC T.tyC, q2⟩
    cases hv
    rfl
end
/-! ### defs that raise where nothing is handled -/
section
variable {X : Cx} {k j : Nat} {x : Str} {sp : Sp} {p pos : Pos} {e : Expr} {es : List Expr} {t : TA}
theorem pe_fN {W : WX} (tk : L2N.Takes X W) (c : Cl X.prog X.w X.K X.mg X.base (L2N.CX X.prog X.w) k x sp) (hr : Room j X.A) (ha : PA X (e :: es) t) (hk : k ≤ j := by decide) (hg : Gl X x := by rfl)
    (hdb : (x == ("__debug__" : Str)) = false := by decide) (he : starEach (e :: es) X.env = (false, eval e X.env) :: starEach es X.env := by rfl) (hpl : (backTo pos (starEach es X.env)).any (·.1) = false := by rfl) :
    PE X (.Call (.Name x p) (e :: es) [] pos) (tCallS sp (WE W) t) := by
  obtain ⟨fd, ps, F, hm, kp, b⟩ := c.ex
  exact pe_callS F (hr.mono hk) hg hm kp b (fun σ => L2N.passAt tk σ) ha hdb he hpl
/-- the context is forgotten -/
theorem cx_forget {P : Program} {w : World} {outer : List Env} {H : Hp} {s : Shared} {E : XK} {u : Value} {s' : Shared} (h : L2N.CX P w outer H s E u s') : L2.CX P w outer H s E u s' := by
  obtain ⟨a, B, H', cls, d, rfl, fl, r⟩ := h
  obtain ⟨k1, k2, k3, oe, vs, T, oT, ts', he, hz, hd⟩ := fl
  exact ⟨a, B, H', cls, d, rfl, ⟨k1, k2, k3, oe, vs, T, oT, ts', he, hz.zc, hd⟩, r⟩
theorem Cl.forget {P : Program} {w : World} {K : PySem.W.Frag} {mg : Str → Option Value} {base : Heap} (c : Cl P w K mg base (L2N.CX P w) k x sp) : Cl P w K mg base (L2.CX P w) k x sp := by
  obtain ⟨fd, ps, F, r⟩ := c.ex
  refine ⟨fd, ps, ⟨F.len, fun A outer s H args us vs Q E hr he hb hv hs => codeAny_mono (F.run A outer s H args us vs Q E hr he hb hv hs) fun z s' q => ?_⟩, r⟩
  match z, q with
  | .error e, q => exact cx_forget q
  | .ok (.ret u), q => exact q
end
end CK
set_option maxHeartbeats 0
namespace CK
open PySem PySem.Spec PyProof.Rows L2
section
variable {P : Program} {w : World} {K : PySem.W.Frag} {mg : Str → Option Value} {base : Heap}
/-- NoText.__init__ -/
def spNi (K : PySem.W.Frag) : Sp := sp2 fun x y H Q _ => ∃ a, x = .ref a ∧ H a = some (exo a (cN K) none) ∧ ∀ dx, H dx = none → dx ≠ a → Q .non (upd (upd H dx (exd dx [("row", y)])) a (exo a (cN K) (some dx)))
theorem sc_NoText_u_init_u : FnScope ["self", "row"] ["self", "row"] (defScope (inClass (top 9) 0)) := ⟨rfl, rfl, rfl, by decide +kernel, rfl, by decide +kernel, by decide +kernel⟩
theorem ok_NoText_u_init_u (T : Tp w K mg base) : ∃ fd, FnOk P w K mg base CX0 2 (He.ma K (He.ga K "NoText") "__init__") fd ["self", "row"] (spNi K) ∧ (∃ ds, Vals [.int 0] ds ∧ Binds K fd ["self", "row"] ds) ∧ (∃ ds, Vals [] ds ∧ Binds K fd ["self", "row"] ds) := by
  obtain ⟨fd, F⟩ := F_NoText_u_init_u T
  refine ⟨fd, F.ok sc_NoText_u_init_u (len2 rfl) (fun cdv A outer s H vs Q E hr h => ?_), ⟨F.binds1 1 0 (by simp) rfl (fun T kV doc pm an cdv ct us its h1 h2 => match us, its, h1, h2 with | [_], [_], _, _ => ⟨_, rfl, rfl⟩), F.binds1 2 1 (by simp) rfl (fun T kV doc pm an cdv ct us its h1 h2 => match us, its, h1, h2 with | [_, _], [_], _, _ => ⟨_, rfl, rfl⟩)⟩⟩
  refine ⟨_, PSs.nox (pss_cons (ps_expr (pe_wrinit T (by rfl) (G_Wrong T) (pa_cons (pv 0) (pa_cons pe_str pa_nil))))
  (pss_one (ps_ost (pv 0) (pv 1)))), ?_⟩
  obtain ⟨v, y, rfl, a, rfl, ha, q⟩ := h
  have O := oexC_ T
  exact ⟨_, rfl, a, cN K, [.str (.ofString "no such text")], rfl, by decide, O, ha, _, rfl, _, rfl, a, cN K, rfl, O, N_NoText_row T, .inl ⟨ha, fun dx h1 h2 => q dx h1 h2⟩⟩

/-- NoText(): what it leaves -/
def Rs (K : PySem.W.Frag) (H : Hp) (r : V) (E : XK) : Prop := ∀ d H', Gr K H H' → H' d = some (.xd [("row", r)]) → E (.ref (cN K)) (some d) H'
theorem made_N {H1 : Hp} {r : V} {Q : XK} (h : Rs K H1 r Q) : ∀ a, H1 a = none → spNi K [.ref a, r] (upd H1 a (exo a (cN K) none))
    (fun v H2 => v = .non ∧ ∃ (d : Addr) (fs : List (Str × V)), H2 a = some (exo a (cN K) (some d)) ∧ H2 d = some (exd d fs) ∧ H1 d = none ∧ Q (.ref (cN K)) (some d) (upd (del H2 a) d (.xd fs))) (fun _ _ _ => False) := by
  intro a ha
  refine ⟨_, _, rfl, a, rfl, upd_same, fun dx h1 h2 => ⟨rfl, dx, _, upd_same, by rw [upd_ne h2, upd_same], by rw [upd_ne h2] at h1; exact h1, h dx _ ?_ upd_same⟩⟩
  have h1' : H1 dx = none := by rw [upd_ne h2] at h1; exact h1
  refine .same fun b u hu => ?_
  have nb : b ≠ dx := ne_of_none hu h1'
  have na : b ≠ a := ne_of_none hu ha
  rw [upd_ne nb, del_ne na, upd_ne na, upd_ne nb, upd_ne na]
  exact hu
def spMust (K : PySem.W.Frag) : Sp := sp1 fun x H Q E => ∃ k, x = .bl k ∧ ((k = true ∧ Q .non H) ∨ (k = false ∧ Rs K H (.int 0) E))
theorem sc_must : FnScope ["good"] ["good"] (defScope (top 115)) := ⟨rfl, rfl, rfl, by decide +kernel, rfl, by decide +kernel, by decide +kernel⟩
theorem ok_must (T : Tp w K mg base) : Cl P w K mg base (L2N.CX P w) 4 "must" (spMust K) := by
  obtain ⟨fN, FN, ⟨dsN, dN, bN⟩, _⟩ := ok_NoText_u_init_u (P := P) T
  obtain ⟨fd, F⟩ := F_must T
  refine ⟨fd, ["good"], F.ok sc_must (len1 rfl) (fun cdv A outer s H vs Q E hr h => ?_), G_must T, F.kp, F.bindsN fun _ _ _ _ _ _ us hl => match us, hl with | [_], _ => rfl⟩
  have tk : L2N.Takes (cxOf (L2N.CX P w) P w K mg base ["good"] "must" (defScope (top 115)) (He.ga K "must") cdv A outer s H E) (fun cls d _ H' => E cls d H') := L2N.takes_of rfl rfl rfl rfl
  refine ⟨_, (pss_one (ps_if (pt_not (pt_val (pv 0))) (pss_one (L2N.ps_raise (by rfl) tk (pmk_oex0 (oexC_ T) (M_NoText__uinit_u T).at_ (beq_iff_eq.mp (M_NoText__uinit_u T).fn) FN hr bN dN (fun _ _ _ _ _ _ _ z => z.elim) (by rfl) (G_NoText T)))) pss_nil)), ?_⟩
  obtain ⟨v, rfl, k, rfl, hk⟩ := h
  rcases hk with ⟨rfl, q⟩ | ⟨rfl, r⟩
  · exact ⟨_, rfl, true, rfl, iteF q⟩
  · exact ⟨_, rfl, false, rfl, iteT ⟨(show 0 ≤ 1000 by decide), made_N r⟩⟩

def spNameIn (K : PySem.W.Frag) : Sp := sp1 fun x H Q _ => ∃ o : Option Str, x = .str (optS o) ∧ okO o ∧ ∀ v, (∀ H', Rep K H' (optD o) v) → Q v H
theorem sc_name_in : FnScope ["word"] ["word"] (defScope (top 117)) := ⟨rfl, rfl, rfl, by decide +kernel, rfl, by decide +kernel, by decide +kernel⟩
theorem ok_name_in (T : Tp w K mg base) : Cl P w K mg base CX0 1 "name_in" (spNameIn K) := by
  obtain ⟨fd, F⟩ := F_name_in T
  refine ⟨fd, ["word"], F.ok sc_name_in (len1 rfl) (fun cdv A outer s H vs Q E hr h => ?_), G_name_in T, F.kp, F.bindsN fun _ _ _ _ _ _ us hl => match us, hl with | [_], _ => rfl⟩
  refine ⟨_, PSs.nox (pss_cons (ps_if (pt_cmpR op_eq (pv 0) (C8.pe_gc (by rfl) (C_NOBODY T)) (nomark _)) (pss_one (ps_ret pe_non)) pss_nil)
  (pss_one (ps_ret (pv 0)))), ?_⟩
  obtain ⟨v, rfl, o, rfl, ho, q⟩ := h
  refine ⟨_, rfl, rfl, _, rfl, ?_⟩
  cases o with
  | none =>
    rw [show decide (V.str (optS none) = V.str (.ofString "-")) = true from decide_eq_true rfl]
    exact iteT (q _ fun _ => rfl)
  | some z =>
    have hn : z ≠ .ofString "-" := fun e => by
      have hz : isNm z = true := ho
      rw [e] at hz
      exact absurd hz (by decide +kernel)
    rw [show decide (V.str (optS (some z)) = V.str (.ofString "-")) = false from decide_eq_false fun e => hn (V.str.inj e)]
    exact iteF ⟨_, rfl, q _ fun _ => rfl⟩

abbrev pS (p : Str × Str) : D := .t [.s p.1, .s p.2]
abbrev flatS (ps : List (Str × Str)) : List Str := ps.flatMap fun p => [p.1, p.2]
theorem repL_pt {H : Hp} : ∀ {l : List D} {acc : List V}, acc.length = l.length → (∀ (i : Nat) (y : V), acc[i]? = some y → ∃ d, l[i]? = some d ∧ Rep K H d y) → RepL K H l acc
  | [], acc, hl, _ => List.length_eq_zero_iff.mp hl
  | d :: l, [], hl, _ => by cases hl
  | d :: l, y :: acc, hl, h => by
    obtain ⟨d', e1, e2⟩ := h 0 y rfl
    cases (show some d = some d' from e1)
    exact ⟨y, acc, rfl, e2, repL_pt (Nat.succ.inj hl) fun i z hz => h (i + 1) z (by simpa using hz)⟩
theorem rs2 (n : Nat) (h : n ≤ 1000) : Builtin.Range.rangeSize 0 ((2 * n : Nat) : Int) 2 = n := by
  unfold Builtin.Range.rangeSize
  rw [if_pos (by decide)]
  by_cases h0 : n = 0
  · rw [h0, if_neg (by decide)]
    rfl
  · rw [if_pos (by omega)]
    omega
theorem sm2 (n : Nat) (h : n ≤ 1000) : Builtin.Range.small 0 ((2 * n : Nat) : Int) 2 = true := by
  unfold Builtin.Range.small
  rw [rs2 n h]
  have f : ∀ x : Int, -(2 ^ 62) ≤ x → x < 2 ^ 62 → Builtin.Range.rangeFitsLong x = true := fun x h1 h2 => by
    unfold Builtin.Range.rangeFitsLong
    rw [decide_eq_true, decide_eq_true] <;> first | rfl | omega
  rw [f 0 (by decide) (by decide), f _ (by omega) (by omega), f 2 (by decide) (by decide), f (n : Int) (by omega) (by omega), if_pos (by decide), f _ (by omega) (by omega), Bool.or_true]
  rfl
def spPairs (K : PySem.W.Frag) : Sp := sp1 fun x H Q E => ∃ (a : Addr) (ws : List Str), x = .ref a ∧ SqL K H a (ws.map V.str) ∧ ws.length ≤ 1000 ∧
  ((∃ ps, ws = flatS ps ∧ ∀ H' q ys, Gr K H H' → H' q = some (.lst ys) → RepL K H' (ps.map pS) ys → Q (.ref q) H') ∨ (ws.length % 2 = 1 ∧ Rs K H (.int 0) E))
theorem flatS_len (ps : List (Str × Str)) : (flatS ps).length = 2 * ps.length := by
  induction ps with
  | nil => rfl
  | cons p ps ih =>
    have e : flatS (p :: ps) = [p.1, p.2] ++ flatS ps := rfl
    rw [e, List.length_append, ih]
    show 2 + 2 * ps.length = 2 * (ps.length + 1)
    omega
theorem flatS_at {ps : List (Str × Str)} {i : Nat} {p : Str × Str} (h : ps[i]? = some p) : (flatS ps)[2 * i]? = some p.1 ∧ (flatS ps)[2 * i + 1]? = some p.2 := by
  induction ps generalizing i with
  | nil => simp at h
  | cons q ps ih =>
    have e : flatS (q :: ps) = q.1 :: q.2 :: flatS ps := rfl
    rw [e]
    cases i with
    | zero => simp at h; subst h; exact ⟨rfl, rfl⟩
    | succ i =>
      have := ih (i := i) (by simpa using h)
      exact ⟨this.1, this.2⟩
theorem sc_in_pairs : FnScope ["words", "k"] ["words"] (defScope (top 116)) := ⟨rfl, rfl, rfl, by decide +kernel, rfl, by decide +kernel, by decide +kernel⟩
theorem ok_in_pairs (T : Tp w K mg base) : Cl P w K mg base (L2N.CX P w) 5 "in_pairs" (spPairs K) := by
  obtain ⟨fd, F⟩ := F_in_pairs T
  refine ⟨fd, ["words"], F.ok sc_in_pairs (len1 rfl) (fun cdv A outer s H vs Q E hr h => ?_), G_in_pairs T, F.kp, F.bindsN fun _ _ _ _ _ _ us hl => match us, hl with | [_], _ => rfl⟩
  have tk : L2N.Takes (cxOf (L2N.CX P w) P w K mg base ["words", "k"] "in_pairs" (defScope (top 116)) (He.ga K "in_pairs") cdv A outer s H E) (fun cls d _ H' => E cls d H') := L2N.takes_of rfl rfl rfl rfl
  refine ⟨_, (pss_cons (ps_expr (pe_fN tk (ok_must T) hr (pa_cons (pe_cmpR op_eq (pe_op op_mod (pe_callB call_len_seq (by rfl) (B_len T) (by decide +kernel) (pa_cons (pv 0) pa_nil)) pe_int) pe_int (nomark _)) pa_nil)))
  (pss_one (ps_ret (pe_lc (own := [("k", 1)]) rfl sc_in_pairs.nd (pi_range3 (by rfl) (B_range T) (pa_cons pe_int (pa_cons (pe_callB call_len_seq (by rfl) (B_len T) (by decide +kernel) (pa_cons (pv 0) pa_nil)) (pa_cons pe_int pa_nil)))) (blkOk_by (own := [("k", 1)]) (N := ["words", "k"]) (sc := defScope (top 116)) (by decide +kernel)) (fun _ _ _ _ _ => (pg_name (i := 1) sc_in_pairs.nd rfl (Or.inl rfl))) (fun _ _ _ _ _ => pts_nil) (fun _ _ _ _ _ => (pe_tup (pa_cons (pe_ix (show IxR _ (rIxL K) from ix_list) (pv 0) (pv 1) (fun _ _ => rfl)) (pa_cons (pe_ix (show IxR _ (rIxL K) from ix_list) (pv 0) (pe_op op_add (pv 1) pe_int) (fun _ _ => rfl)) pa_nil)))))))), ?_⟩
  obtain ⟨v, rfl, a, ws, rfl, hs, hl, h⟩ := h
  refine ⟨_, rfl, a, _, rfl, .inl hs, _, _, rfl, rfl, (show (0 : Int) < 2 by decide), rfl, _, rfl, ?_⟩
  rcases h with ⟨ps, rfl, q⟩ | ⟨hodd, r⟩
  · have hlen := flatS_len ps
    refine ⟨true, congrArg V.bl (decide_eq_true ?_), .inl ⟨rfl, ?_⟩⟩
    · show V.int ((((flatS ps).map V.str).length : Nat) % 2 : Int) = .int 0
      rw [List.length_map, hlen]
      congr 1
      omega
    · refine ⟨_, rfl, a, _, rfl, .inl hs, _, _, _, ps.length, rfl, ?_, fun D hD => lc_R (K := K) walk_rangeC (fun i y H' => ∃ p, ps[i]? = some p ∧ Rep K H' (pS p) y) hD (small (by omega)) (fun _ _ => trivial) (fun i y H H' e ⟨p, a1, a2⟩ => ⟨p, a1, a2.std' e⟩) ?_ ?_⟩
      · rw [List.length_map, hlen]
        exact ⟨by decide, by decide, sm2 _ (by omega), rs2 _ (by omega)⟩
      · rintro i x H1 _ Q' hi gr ⟨rfl, rfl⟩ k
        have hp := List.getElem?_eq_getElem (l := ps) hi
        obtain ⟨e1, e2⟩ := flatS_at hp
        have at1 : ((flatS ps).map V.str)[2 * i]? = some (.str ps[i].1) := by rw [List.getElem?_map, e1]; rfl
        have at2 : ((flatS ps).map V.str)[2 * i + 1]? = some (.str ps[i].2) := by rw [List.getElem?_map, e2]; rfl
        refine ⟨rfl, _, rfl, _, rfl, a, _, _, _, rfl, rfl, gr.sqL hs, ?_, _, rfl, _, rfl, _, _, rfl, rfl, a, _, _, _, rfl, rfl, gr.sqL hs, ?_, (show 2 ≤ sizeLine by decide), fun q hq => k _ _ (.new hq) ⟨_, hp, Rep.tup ⟨_, _, rfl, rfl, _, _, rfl, rfl, rfl⟩ upd_same⟩⟩
        · rw [show (0 : Int) + (i : Nat) * 2 = ((2 * i : Nat) : Int) by omega]
          exact atI_nat at1
        · rw [show (0 : Int) + (i : Nat) * 2 + 1 = ((2 * i + 1 : Nat) : Int) by omega]
          exact atI_nat at2
      · intro H3 acc g3 e3 hl3 hR
        exact q H3 D acc g3 e3 (repL_pt (by rw [List.length_map]; exact hl3) fun i y hy => by
          obtain ⟨p, a1, a2⟩ := hR i y hy
          exact ⟨pS p, by rw [List.getElem?_map, a1] <;> rfl, a2⟩)
  · refine ⟨false, congrArg V.bl (decide_eq_false fun z => ?_), .inr ⟨rfl, r⟩⟩
    have z : V.int ((((ws.map V.str).length : Nat) : Int) % 2) = .int 0 := z
    rw [List.length_map] at z
    injection z
    omega

end
end CK
set_option maxHeartbeats 4000000
namespace CK
open PySem PySem.SeqAt
open AutoSeq1 (wpAny_loadPart')
open MeetsSeq MeetsSeq2 MeetsSeq3 SeqRoads2
open GQ (FinOf call_here)
section
variable {prog : Program} {w : World} {A : Around} {E : Value → Shared → Prop} {s : Shared}
/-- two lists of unlike lengths, != -/
theorem rc_listLenNe {l b : Addr} {items items2 : Array Value} {Q : Value → Shared → Prop} (hz : items.size ≠ items2.size) (hu : A.units < cLine) (hl : s.heap.IsList l items) (hb : s.heap.IsList b items2)
    (h : Q (.bool true) s) : wpAny (model prog w) A (richCompare .NotEq (.ref l) (.ref b)) Q E s := by
  obtain ⟨⟨cls, dd, data, sl⟩, ho, hc, n, hd⟩ := id hl
  obtain ⟨⟨cls2, dd2, data2, sl2⟩, ho2, hc2, n2, hd2⟩ := id hb
  simp only at hc hd hc2 hd2
  subst hc hd hc2 hd2
  refine wpAny_richCompare_same_room (op := .NotEq) ⟨_, ho, rfl⟩ ⟨_, ho2, rfl⟩ F.slot_list_ne (call_here F.slot_list_ne ⟨_, ho, rfl⟩ F.entry_list_ne (F.args_list_ne_2 _ _) ?_) hu
  have f3 := AutoSeq1.sub_list_list
  have hQ : wants (fun v s' => v ≠ .notImplemented ∧ Q v s') E (.ok (.ret (.bool true))) s := ⟨(fun x => nomatch x), h⟩
  obtain ⟨hp, g, d, tk, os⟩ := s
  have hne : (items.size != items2.size) = true := by simpa using hz
  wp_walk using wpAny_loadPart' ho, wpAny_loadPart' ho2
  exact hQ
end
open PySem.Spec PyProof.Rows L2
section
variable {X : Cx}
/-- l != m, of unlike lengths -/
def rNeLen (K : PySem.W.Frag) : R2 := fun x y H Q => ∃ a b xs ys, x = .ref a ∧ y = .ref b ∧ SqL K H a xs ∧ SqL K H b ys ∧ xs.length ≠ ys.length ∧ Q (.bl true) H
theorem op_neLen (hr : Room 1 X.A) : OpR X (compareOp .NotEq) (rNeLen X.K) := by
  intro pins s σ H x y v u Q I rx ry h
  obtain ⟨a, b, xs, ys, rfl, rfl, ha, hb, hn, q⟩ := h
  cases rx
  cases ry
  obtain ⟨its, r, pl, hz⟩ := I.list ha
  obtain ⟨its2, r2, pl2, hz2⟩ := I.list hb
  refine rc_listLenNe ?_ hr.units0 pl.isList pl2.isList ⟨.bl true, H, I, rfl, q⟩
  rw [List.size_toArray, List.size_toArray, ← r.length, ← r2.length]
  exact hn
end
/-! ### what the readers read -/
def Deed.Rd : Deed → Prop
  | .parts _ _ ps => ∀ p ∈ ps, okW p.2.1 p.2.2
  | .burn _ _ t b => okW t b
  | .make _ _ g => g < 10 ^ 12
  | .part _ ps => ∀ p ∈ ps, p.2 < 10 ^ 12
  | .pay ns g o => ns ≠ [] ∧ g < 10 ^ 12 ∧ okO o
  | .send _ o => okO o
  | _ => True
def BadW (j : Str) (ws : List Str) : Prop := ((j = "read_parts" ∨ j = "read_pieces") ∧ ws.length % 2 = 0) ∨ ((j = "read_burning" ∨ j = "read_making") ∧ ws.length ≠ 3) ∨ (j = "read_sending" ∧ ws.length ≠ 2)
def spRd (K : PySem.W.Frag) (j : Str) : Sp := sp1 fun x H Q E => ∃ (a : Addr) (ws : List Str), x = .ref a ∧ SqL K H a (ws.map V.str) ∧ ws ≠ [] ∧ ws.length ≤ 1000 ∧
  ((∃ e : Deed, e.reader = j ∧ ws = e.body ∧ e.Rd ∧ ∀ H' v, Gr K H H' → Rep K H' (.t e.rest) v → Q v H') ∨ (BadW j ws ∧ Rs K H (.int 0) E))
end CK
set_option maxHeartbeats 0
namespace CK
open PySem PySem.Spec PyProof.Rows L2
section
variable {P : Program} {w : World} {K : PySem.W.Frag} {mg : Str → Option Value} {base : Heap}
theorem sc_read_parts : FnScope ["words", "ware", "weight"] ["words"] (defScope (top 118)) := ⟨rfl, rfl, rfl, by decide +kernel, rfl, by decide +kernel, by decide +kernel⟩
theorem ok_read_parts (T : Tp w K mg base) : Cl P w K mg base (L2N.CX P w) 6 "read_parts" (spRd K "read_parts") := by
  obtain ⟨fd, F⟩ := F_read_parts T
  refine ⟨fd, ["words"], F.ok sc_read_parts (len1 rfl) (fun cdv A outer s H vs Q E hr h => ?_), G_read_parts T, F.kp, F.bindsN fun _ _ _ _ _ _ us hl => match us, hl with | [_], _ => rfl⟩
  have tk : L2N.Takes (cxOf (L2N.CX P w) P w K mg base ["words", "ware", "weight"] "read_parts" (defScope (top 118)) (He.ga K "read_parts") cdv A outer s H E) (fun cls d _ H' => E cls d H') := L2N.takes_of rfl rfl rfl rfl
  refine ⟨_, (pss_cons (ps_expr (pe_fN tk (ok_must T) hr (pa_cons (pe_cmpR (op_neLen (hr.mono (by decide))) (pv 0) (pe_lst pa_nil) (nomark _)) pa_nil)))
  (pss_one (ps_ret (pe_tup (pa_cons (pe_ix (show IxR _ (rIxL K) from ix_list) (pv 0) pe_int (fun _ _ => rfl)) (pa_cons (pe_callTy call_tuple_of (by rfl) (B_tuple T) (by decide +kernel) (pa_cons (pe_lc (own := [("ware", 1), ("weight", 2)]) rfl sc_read_parts.nd (pi_list (pe_fN tk (ok_in_pairs T) hr (pa_cons (pe_slice sl_list (pv 0) (po_some pe_int) po_none) pa_nil))) (blkOk_by (own := [("ware", 1), ("weight", 2)]) (N := ["words", "ware", "weight"]) (sc := defScope (top 118)) (by decide +kernel)) (fun _ _ _ _ _ => (show PG _ _ (gTup K 2 _) from pg_tup rfl (pgs_cons (pg_name (i := 1) sc_read_parts.nd rfl (Or.inl rfl)) (pgs_cons (pg_name (i := 2) sc_read_parts.nd rfl (Or.inl rfl)) pgs_nil)))) (fun _ _ _ _ _ => pts_nil) (fun _ _ _ _ _ => (pe_tup (pa_cons (pv 1) (pa_cons (pe_f (ok_read_weight T) hr (pa_cons (pv 2) pa_nil)) pa_nil))))) pa_nil)) pa_nil)))))), ?_⟩
  obtain ⟨v, rfl, a, ws, rfl, hs, hne, hl, h⟩ := h
  refine ⟨_, rfl, (show 0 ≤ sizeLine by decide), fun p hp => ?_⟩
  have g0 : Gr K H (upd H p (.lst [])) := .new hp
  refine ⟨a, p, _, _, rfl, rfl, g0.sqL hs, SqL.of upd_same, by rw [List.length_map]; exact fun z => hne (List.length_eq_zero_iff.mp z), _, rfl, true, rfl, .inl ⟨rfl, ?_⟩⟩
  cases ws with
  | nil => exact absurd rfl hne
  | cons m rest =>
    rw [List.length_cons] at hl
    refine ⟨_, rfl, a, _, 0, _, rfl, rfl, g0.sqL hs, at_0, _, rfl, _, rfl, a, _, rfl, g0.sqL hs, fun p2 hp2 => ?_⟩
    have g1 := g0.add (o := .lst (cutV ((m :: rest).map V.str) (some 1) none)) hp2
    have ec : cutV ((m :: rest).map V.str) (some ((1 : Nat) : Int)) none = rest.map V.str := cut_from 1
    refine ⟨_, rfl, p2, rest, rfl, SqL.of (upd_same.trans (congrArg (fun z => some (HO.lst z)) ec)), by omega, ?_⟩
    rcases h with ⟨e, he, hb, hrd, q⟩ | ⟨hb, r⟩
    · cases e with
      | parts k n ps =>
        obtain ⟨rfl, hb2⟩ := List.cons.inj (show m :: rest = n :: ps.flatMap (fun p => [p.1, wS p.2.1 p.2.2]) from hb)
        refine .inl ⟨ps.map fun p => (p.1, wS p.2.1 p.2.2), by rw [hb2]; unfold flatS; rw [List.flatMap_map], fun H3 q3 ys g3 e3 hy => ?_⟩
        have hyl : ys.length = ps.length := by rw [hy.len, List.length_map, List.length_map]
        have hpl : ps.length ≤ 1000 := by
          have := flatS_len (ps.map fun p => (p.1, wS p.2.1 p.2.2))
          rw [List.length_map] at this
          have e2 : rest = flatS (ps.map fun p => (p.1, wS p.2.1 p.2.2)) := by rw [hb2]; unfold flatS; rw [List.flatMap_map]
          rw [← e2] at this
          omega
        have g13 := g1.trans g3
        refine ⟨q3, rfl, ⟨_, SqL.of e3⟩, fun D hD => lc_R (K := K) (walk_list (K := K) (a := q3) (xs := ys)) (fun i y H' => ∃ p, ps[i]? = some p ∧ Rep K H' (pW p) y) hD (by rw [hyl]; exact small hpl) (fun H g => g.sqL (SqL.of e3)) (fun i y H H' e ⟨p, a1, a2⟩ => ⟨p, a1, a2.std' e⟩) ?_ ?_⟩
        · rintro i x H4 _ Q' hi gr ⟨rfl, hx⟩ k
          have hp := List.getElem?_eq_getElem (l := ps) (i := i) (by omega)
          obtain ⟨x', f1, hrep⟩ := hy.at (i := i) (d := pS (ps[i].1, (fun p => wS p.2.1 p.2.2) ps[i])) (by rw [List.getElem?_map, List.getElem?_map, hp] <;> rfl)
          rw [hx] at f1
          cases f1
          obtain ⟨b, y, z, rfl, hsb, hy1, hz1⟩ := rep2 hrep
          obtain rfl : y = .str ps[i].1 := hy1
          obtain rfl : z = .str ((fun p => wS p.2.1 p.2.2) ps[i]) := hz1
          have hok := hrd _ (List.mem_of_getElem? hp)
          exact ⟨b, _, rfl, gr.sqT hsb, rfl, _, _, rfl, _, _, rfl, rfl, rfl, _, rfl, _, rfl, _, rfl, _, _, rfl, hok.2.1, hok.2.2.2.1, hok.2.2.1, hok.2.2.2.2, fun H5 c g5 hc => ⟨(show 2 ≤ sizeLine by decide), fun t ht => k _ _ (g5.add ht) ⟨_, hp, Rep.tup ⟨_, _, rfl, rfl, _, _, rfl, ⟨c, rfl, (Std.upd' ht).isW hc⟩, rfl⟩ upd_same⟩⟩⟩
        · intro H4 acc g4 e4 hl4 hR
          refine ⟨D, _, rfl, .inl ⟨SqL.of e4, fun l hl => ⟨(show 2 ≤ sizeLine by decide), fun t ht => ?_⟩⟩⟩
          have g5 := ((g13.trans g4).add (o := .tup acc) hl).add (o := .tup [.str m, .ref l]) ht
          refine q _ _ g5 (Rep.tup (l := Deed.rest (.parts k m ps)) ⟨_, _, rfl, rfl, _, _, rfl, ⟨l, acc, rfl, ?_, ?_⟩, rfl⟩ upd_same)
          · refine .inl (.inl ?_)
            rw [upd_ne (fun z => by rw [← z, upd_same] at ht; cases ht), upd_same]
          · refine repL_pt (by rw [List.length_map, hl4, hyl]) fun i y hy => ?_
            obtain ⟨p, a1, a2⟩ := hR i y hy
            exact ⟨_, by rw [List.getElem?_map, a1] <;> rfl, a2.std' (((Std.upd' hl).trans (Std.upd' ht)))⟩
      | _ => exact absurd he (by simp only [Deed.reader]; decide)
    · refine .inr ⟨?_, fun d H' g hd => r d H' (g1.trans g) hd⟩
      rcases hb with ⟨_, hb⟩ | ⟨hb, _⟩ | ⟨hb, _⟩
      · rw [List.length_cons] at hb
        omega
      · rcases hb with hb | hb <;> exact absurd hb (by decide)
      · exact absurd hb (by decide)

theorem sc_read_pieces : FnScope ["words", "name", "grains"] ["words"] (defScope (top 119)) := ⟨rfl, rfl, rfl, by decide +kernel, rfl, by decide +kernel, by decide +kernel⟩
theorem ok_read_pieces (T : Tp w K mg base) : Cl P w K mg base (L2N.CX P w) 6 "read_pieces" (spRd K "read_pieces") := by
  obtain ⟨fd, F⟩ := F_read_pieces T
  refine ⟨fd, ["words"], F.ok sc_read_pieces (len1 rfl) (fun cdv A outer s H vs Q E hr h => ?_), G_read_pieces T, F.kp, F.bindsN fun _ _ _ _ _ _ us hl => match us, hl with | [_], _ => rfl⟩
  have tk : L2N.Takes (cxOf (L2N.CX P w) P w K mg base ["words", "name", "grains"] "read_pieces" (defScope (top 119)) (He.ga K "read_pieces") cdv A outer s H E) (fun cls d _ H' => E cls d H') := L2N.takes_of rfl rfl rfl rfl
  refine ⟨_, (pss_cons (ps_expr (pe_fN tk (ok_must T) hr (pa_cons (pe_cmpR (op_neLen (hr.mono (by decide))) (pv 0) (pe_lst pa_nil) (nomark _)) pa_nil)))
  (pss_one (ps_ret (pe_tup (pa_cons (pe_ix (show IxR _ (rIxL K) from ix_list) (pv 0) pe_int (fun _ _ => rfl)) (pa_cons (pe_callTy call_tuple_of (by rfl) (B_tuple T) (by decide +kernel) (pa_cons (pe_lc (own := [("name", 1), ("grains", 2)]) rfl sc_read_pieces.nd (pi_list (pe_fN tk (ok_in_pairs T) hr (pa_cons (pe_slice sl_list (pv 0) (po_some pe_int) po_none) pa_nil))) (blkOk_by (own := [("name", 1), ("grains", 2)]) (N := ["words", "name", "grains"]) (sc := defScope (top 119)) (by decide +kernel)) (fun _ _ _ _ _ => (show PG _ _ (gTup K 2 _) from pg_tup rfl (pgs_cons (pg_name (i := 1) sc_read_pieces.nd rfl (Or.inl rfl)) (pgs_cons (pg_name (i := 2) sc_read_pieces.nd rfl (Or.inl rfl)) pgs_nil)))) (fun _ _ _ _ _ => pts_nil) (fun _ _ _ _ _ => (pe_tup (pa_cons (pv 1) (pa_cons (pe_f (ok_number_in T) hr (pa_cons (pv 2) pa_nil)) pa_nil))))) pa_nil)) pa_nil)))))), ?_⟩
  obtain ⟨v, rfl, a, ws, rfl, hs, hne, hl, h⟩ := h
  refine ⟨_, rfl, (show 0 ≤ sizeLine by decide), fun p hp => ?_⟩
  have g0 : Gr K H (upd H p (.lst [])) := .new hp
  refine ⟨a, p, _, _, rfl, rfl, g0.sqL hs, SqL.of upd_same, by rw [List.length_map]; exact fun z => hne (List.length_eq_zero_iff.mp z), _, rfl, true, rfl, .inl ⟨rfl, ?_⟩⟩
  cases ws with
  | nil => exact absurd rfl hne
  | cons m rest =>
    rw [List.length_cons] at hl
    refine ⟨_, rfl, a, _, 0, _, rfl, rfl, g0.sqL hs, at_0, _, rfl, _, rfl, a, _, rfl, g0.sqL hs, fun p2 hp2 => ?_⟩
    have g1 := g0.add (o := .lst (cutV ((m :: rest).map V.str) (some 1) none)) hp2
    have ec : cutV ((m :: rest).map V.str) (some ((1 : Nat) : Int)) none = rest.map V.str := cut_from 1
    refine ⟨_, rfl, p2, rest, rfl, SqL.of (upd_same.trans (congrArg (fun z => some (HO.lst z)) ec)), by omega, ?_⟩
    rcases h with ⟨e, he, hb, hrd, q⟩ | ⟨hb, r⟩
    · cases e with
      | part n ps =>
        obtain ⟨rfl, hb2⟩ := List.cons.inj (show m :: rest = n :: ps.flatMap (fun p => [p.1, nS p.2]) from hb)
        refine .inl ⟨ps.map fun p => (p.1, nS p.2), by rw [hb2]; unfold flatS; rw [List.flatMap_map], fun H3 q3 ys g3 e3 hy => ?_⟩
        have hyl : ys.length = ps.length := by rw [hy.len, List.length_map, List.length_map]
        have hpl : ps.length ≤ 1000 := by
          have := flatS_len (ps.map fun p => (p.1, nS p.2))
          rw [List.length_map] at this
          have e2 : rest = flatS (ps.map fun p => (p.1, nS p.2)) := by rw [hb2]; unfold flatS; rw [List.flatMap_map]
          rw [← e2] at this
          omega
        have g13 := g1.trans g3
        refine ⟨q3, rfl, ⟨_, SqL.of e3⟩, fun D hD => lc_R (K := K) (walk_list (K := K) (a := q3) (xs := ys)) (fun i y H' => ∃ p, ps[i]? = some p ∧ Rep K H' (pI p) y) hD (by rw [hyl]; exact small hpl) (fun H g => g.sqL (SqL.of e3)) (fun i y H H' e ⟨p, a1, a2⟩ => ⟨p, a1, a2.std' e⟩) ?_ ?_⟩
        · rintro i x H4 _ Q' hi gr ⟨rfl, hx⟩ k
          have hp := List.getElem?_eq_getElem (l := ps) (i := i) (by omega)
          obtain ⟨x', f1, hrep⟩ := hy.at (i := i) (d := pS (ps[i].1, (fun p => nS p.2) ps[i])) (by rw [List.getElem?_map, List.getElem?_map, hp] <;> rfl)
          rw [hx] at f1
          cases f1
          obtain ⟨b, y, z, rfl, hsb, hy1, hz1⟩ := rep2 hrep
          obtain rfl : y = .str ps[i].1 := hy1
          obtain rfl : z = .str ((fun p => nS p.2) ps[i]) := hz1
          have hok := hrd _ (List.mem_of_getElem? hp)
          exact ⟨b, _, rfl, gr.sqT hsb, rfl, _, _, rfl, _, _, rfl, rfl, rfl, _, rfl, _, rfl, _, rfl, _, rfl, hok, fun H5 g5 => ⟨(show 2 ≤ sizeLine by decide), fun t ht => k _ _ (g5.add ht) ⟨_, hp, Rep.tup ⟨_, _, rfl, rfl, _, _, rfl, rfl, rfl⟩ upd_same⟩⟩⟩
        · intro H4 acc g4 e4 hl4 hR
          refine ⟨D, _, rfl, .inl ⟨SqL.of e4, fun l hl => ⟨(show 2 ≤ sizeLine by decide), fun t ht => ?_⟩⟩⟩
          have g5 := ((g13.trans g4).add (o := .tup acc) hl).add (o := .tup [.str m, .ref l]) ht
          refine q _ _ g5 (Rep.tup (l := Deed.rest (.part m ps)) ⟨_, _, rfl, rfl, _, _, rfl, ⟨l, acc, rfl, ?_, ?_⟩, rfl⟩ upd_same)
          · refine .inl (.inl ?_)
            rw [upd_ne (fun z => by rw [← z, upd_same] at ht; cases ht), upd_same]
          · refine repL_pt (by rw [List.length_map, hl4, hyl]) fun i y hy => ?_
            obtain ⟨p, a1, a2⟩ := hR i y hy
            exact ⟨_, by rw [List.getElem?_map, a1] <;> rfl, a2.std' (((Std.upd' hl).trans (Std.upd' ht)))⟩
      | _ => exact absurd he (by simp only [Deed.reader]; decide)
    · refine .inr ⟨?_, fun d H' g hd => r d H' (g1.trans g) hd⟩
      rcases hb with ⟨_, hb⟩ | ⟨hb, _⟩ | ⟨hb, _⟩
      · rw [List.length_cons] at hb
        omega
      · rcases hb with hb | hb <;> exact absurd hb (by decide)
      · exact absurd hb (by decide)

theorem sc_read_burning : FnScope ["words"] ["words"] (defScope (top 120)) := ⟨rfl, rfl, rfl, by decide +kernel, rfl, by decide +kernel, by decide +kernel⟩
theorem ok_read_burning (T : Tp w K mg base) : Cl P w K mg base (L2N.CX P w) 6 "read_burning" (spRd K "read_burning") := by
  obtain ⟨fd, F⟩ := F_read_burning T
  refine ⟨fd, ["words"], F.ok sc_read_burning (len1 rfl) (fun cdv A outer s H vs Q E hr h => ?_), G_read_burning T, F.kp, F.bindsN fun _ _ _ _ _ _ us hl => match us, hl with | [_], _ => rfl⟩
  have tk : L2N.Takes (cxOf (L2N.CX P w) P w K mg base ["words"] "read_burning" (defScope (top 120)) (He.ga K "read_burning") cdv A outer s H E) (fun cls d _ H' => E cls d H') := L2N.takes_of rfl rfl rfl rfl
  refine ⟨_, (pss_cons (ps_expr (pe_fN tk (ok_must T) hr (pa_cons (pe_cmpR op_eq (pe_callB call_len_seq (by rfl) (B_len T) (by decide +kernel) (pa_cons (pv 0) pa_nil)) pe_int (nomark _)) pa_nil)))
  (pss_one (ps_ret (pe_tup (pa_cons (pe_ix (show IxR _ (rIxL K) from ix_list) (pv 0) pe_int (fun _ _ => rfl)) (pa_cons (pe_ix (show IxR _ (rIxL K) from ix_list) (pv 0) pe_int (fun _ _ => rfl)) (pa_cons (pe_f (ok_read_weight T) hr (pa_cons (pe_ix (show IxR _ (rIxL K) from ix_list) (pv 0) pe_int (fun _ _ => rfl)) pa_nil)) pa_nil))))))), ?_⟩
  obtain ⟨v, rfl, a, ws, rfl, hs, hne, hl, h⟩ := h
  refine ⟨_, rfl, a, _, rfl, .inl hs, rfl, _, rfl, ?_⟩
  rcases h with ⟨e, he, hb, hrd, q⟩ | ⟨hb, r⟩
  · cases e with
    | burn m u t b =>
      obtain rfl : ws = [m, u, wS t b] := hb
      refine ⟨true, rfl, .inl ⟨rfl, _, rfl, a, _, 0, _, rfl, rfl, hs, at_0, _, rfl, a, _, 1, _, rfl, rfl, hs, at_1, _, rfl, a, _, 2, _, rfl, rfl, hs, at_2, _, rfl, t, b, rfl, hrd.2.1, hrd.2.2.2.1, hrd.2.2.1, hrd.2.2.2.2, fun H1 c g1 hc => ⟨(show 3 ≤ sizeLine by decide), fun p hp => q _ _ (g1.add hp) (Rep.tup (l := Deed.rest (.burn m u t b)) ⟨_, _, rfl, rfl, _, _, rfl, rfl, _, _, rfl, ⟨c, rfl, (Std.upd' hp).isW hc⟩, rfl⟩ upd_same)⟩⟩⟩
    | _ => exact absurd he (by simp only [Deed.reader]; decide)
  · rcases hb with ⟨hb, _⟩ | ⟨hb, hb2⟩ | ⟨hb, hb2⟩
    · rcases hb with hb | hb <;> exact absurd hb (by decide)
    · rw [List.length_map]
      refine ⟨false, congrArg V.bl (decide_eq_false fun z => hb2 (by injection z; omega)), .inr ⟨rfl, r⟩⟩
    · exact absurd hb (by decide)

theorem sc_read_making : FnScope ["words"] ["words"] (defScope (top 121)) := ⟨rfl, rfl, rfl, by decide +kernel, rfl, by decide +kernel, by decide +kernel⟩
theorem ok_read_making (T : Tp w K mg base) : Cl P w K mg base (L2N.CX P w) 6 "read_making" (spRd K "read_making") := by
  obtain ⟨fd, F⟩ := F_read_making T
  refine ⟨fd, ["words"], F.ok sc_read_making (len1 rfl) (fun cdv A outer s H vs Q E hr h => ?_), G_read_making T, F.kp, F.bindsN fun _ _ _ _ _ _ us hl => match us, hl with | [_], _ => rfl⟩
  have tk : L2N.Takes (cxOf (L2N.CX P w) P w K mg base ["words"] "read_making" (defScope (top 121)) (He.ga K "read_making") cdv A outer s H E) (fun cls d _ H' => E cls d H') := L2N.takes_of rfl rfl rfl rfl
  refine ⟨_, (pss_cons (ps_expr (pe_fN tk (ok_must T) hr (pa_cons (pe_cmpR op_eq (pe_callB call_len_seq (by rfl) (B_len T) (by decide +kernel) (pa_cons (pv 0) pa_nil)) pe_int (nomark _)) pa_nil)))
  (pss_one (ps_ret (pe_tup (pa_cons (pe_ix (show IxR _ (rIxL K) from ix_list) (pv 0) pe_int (fun _ _ => rfl)) (pa_cons (pe_ix (show IxR _ (rIxL K) from ix_list) (pv 0) pe_int (fun _ _ => rfl)) (pa_cons (pe_f (ok_number_in T) hr (pa_cons (pe_ix (show IxR _ (rIxL K) from ix_list) (pv 0) pe_int (fun _ _ => rfl)) pa_nil)) pa_nil))))))), ?_⟩
  obtain ⟨v, rfl, a, ws, rfl, hs, hne, hl, h⟩ := h
  refine ⟨_, rfl, a, _, rfl, .inl hs, rfl, _, rfl, ?_⟩
  rcases h with ⟨e, he, hb, hrd, q⟩ | ⟨hb, r⟩
  · cases e with
    | make n u g =>
      obtain rfl : ws = [n, u, nS g] := hb
      refine ⟨true, rfl, .inl ⟨rfl, _, rfl, a, _, 0, _, rfl, rfl, hs, at_0, _, rfl, a, _, 1, _, rfl, rfl, hs, at_1, _, rfl, a, _, 2, _, rfl, rfl, hs, at_2, _, rfl, g, rfl, hrd, fun H1 g1 => ⟨(show 3 ≤ sizeLine by decide), fun p hp => q _ _ (g1.add hp) (Rep.tup (l := Deed.rest (.make n u g)) ⟨_, _, rfl, rfl, _, _, rfl, rfl, _, _, rfl, rfl, rfl⟩ upd_same)⟩⟩⟩
    | _ => exact absurd he (by simp only [Deed.reader]; decide)
  · rcases hb with ⟨hb, _⟩ | ⟨hb, hb2⟩ | ⟨hb, hb2⟩
    · rcases hb with hb | hb <;> exact absurd hb (by decide)
    · rw [List.length_map]
      refine ⟨false, congrArg V.bl (decide_eq_false fun z => hb2 (by injection z; omega)), .inr ⟨rfl, r⟩⟩
    · exact absurd hb (by decide)

theorem sc_read_sending : FnScope ["words"] ["words"] (defScope (top 124)) := ⟨rfl, rfl, rfl, by decide +kernel, rfl, by decide +kernel, by decide +kernel⟩
theorem ok_read_sending (T : Tp w K mg base) : Cl P w K mg base (L2N.CX P w) 6 "read_sending" (spRd K "read_sending") := by
  obtain ⟨fd, F⟩ := F_read_sending T
  refine ⟨fd, ["words"], F.ok sc_read_sending (len1 rfl) (fun cdv A outer s H vs Q E hr h => ?_), G_read_sending T, F.kp, F.bindsN fun _ _ _ _ _ _ us hl => match us, hl with | [_], _ => rfl⟩
  have tk : L2N.Takes (cxOf (L2N.CX P w) P w K mg base ["words"] "read_sending" (defScope (top 124)) (He.ga K "read_sending") cdv A outer s H E) (fun cls d _ H' => E cls d H') := L2N.takes_of rfl rfl rfl rfl
  refine ⟨_, (pss_cons (ps_expr (pe_fN tk (ok_must T) hr (pa_cons (pe_cmpR op_eq (pe_callB call_len_seq (by rfl) (B_len T) (by decide +kernel) (pa_cons (pv 0) pa_nil)) pe_int (nomark _)) pa_nil)))
  (pss_one (ps_ret (pe_tup (pa_cons (pe_ix (show IxR _ (rIxL K) from ix_list) (pv 0) pe_int (fun _ _ => rfl)) (pa_cons (pe_f (ok_name_in T) hr (pa_cons (pe_ix (show IxR _ (rIxL K) from ix_list) (pv 0) pe_int (fun _ _ => rfl)) pa_nil)) pa_nil)))))), ?_⟩
  obtain ⟨v, rfl, a, ws, rfl, hs, hne, hl, h⟩ := h
  refine ⟨_, rfl, a, _, rfl, .inl hs, rfl, _, rfl, ?_⟩
  rcases h with ⟨e, he, hb, hrd, q⟩ | ⟨hb, r⟩
  · cases e with
    | send m o =>
      obtain rfl : ws = [m, optS o] := hb
      refine ⟨true, rfl, .inl ⟨rfl, _, rfl, a, _, 0, _, rfl, rfl, hs, at_0, _, rfl, a, _, 1, _, rfl, rfl, hs, at_1, _, rfl, o, rfl, hrd, fun v hv => ⟨(show 2 ≤ sizeLine by decide), fun p hp => q _ _ (.new hp) (Rep.tup (l := Deed.rest (.send m o)) ⟨_, _, rfl, rfl, _, _, rfl, hv _, rfl⟩ upd_same)⟩⟩⟩
    | _ => exact absurd he (by simp only [Deed.reader]; decide)
  · rcases hb with ⟨hb, _⟩ | ⟨hb, hb2⟩ | ⟨hb, hb2⟩
    · rcases hb with hb | hb <;> exact absurd hb (by decide)
    · rcases hb with hb | hb <;> exact absurd hb (by decide)
    · rw [List.length_map]
      refine ⟨false, congrArg V.bl (decide_eq_false fun z => hb2 (by injection z; omega)), .inr ⟨rfl, r⟩⟩

theorem sc_read_merging : FnScope ["words"] ["words"] (defScope (top 122)) := ⟨rfl, rfl, rfl, by decide +kernel, rfl, by decide +kernel, by decide +kernel⟩
theorem ok_read_merging (T : Tp w K mg base) : Cl P w K mg base (L2N.CX P w) 6 "read_merging" (spRd K "read_merging") := by
  obtain ⟨fd, F⟩ := F_read_merging T
  refine ⟨fd, ["words"], F.ok sc_read_merging (len1 rfl) (fun cdv A outer s H vs Q E hr h => ?_), G_read_merging T, F.kp, F.bindsN fun _ _ _ _ _ _ us hl => match us, hl with | [_], _ => rfl⟩
  have tk : L2N.Takes (cxOf (L2N.CX P w) P w K mg base ["words"] "read_merging" (defScope (top 122)) (He.ga K "read_merging") cdv A outer s H E) (fun cls d _ H' => E cls d H') := L2N.takes_of rfl rfl rfl rfl
  refine ⟨_, (pss_cons (ps_expr (pe_fN tk (ok_must T) hr (pa_cons (pe_cmpR (op_neLen (hr.mono (by decide))) (pv 0) (pe_lst pa_nil) (nomark _)) pa_nil)))
  (pss_one (ps_ret (pe_tup (pa_cons (pe_callTy call_tuple_of (by rfl) (B_tuple T) (by decide +kernel) (pa_cons (pe_slice sl_list (pv 0) (po_some pe_int) po_none) pa_nil)) (pa_cons (pe_ix (show IxR _ (rIxL K) from ix_list) (pv 0) pe_int (fun _ _ => rfl)) pa_nil)))))), ?_⟩
  obtain ⟨v, rfl, a, ws, rfl, hs, hne, hl, h⟩ := h
  refine ⟨_, rfl, (show 0 ≤ sizeLine by decide), fun p hp => ?_⟩
  have g0 : Gr K H (upd H p (.lst [])) := .new hp
  refine ⟨a, p, _, _, rfl, rfl, g0.sqL hs, SqL.of upd_same, by rw [List.length_map]; exact fun z => hne (List.length_eq_zero_iff.mp z), _, rfl, true, rfl, .inl ⟨rfl, ?_⟩⟩
  rcases h with ⟨e, he, hb, hrd, q⟩ | ⟨hb, r⟩
  · cases e with
    | merge ns f =>
      obtain rfl : ws = f :: ns := hb
      refine ⟨_, rfl, _, rfl, a, _, rfl, g0.sqL hs, fun p2 hp2 => ?_⟩
      have ec : cutV ((f :: ns).map V.str) (some ((1 : Nat) : Int)) none = ns.map V.str := cut_from 1
      refine ⟨p2, ns.map V.str, rfl, .inl ⟨SqL.of (upd_same.trans (congrArg (fun z => some (HO.lst z)) ec)), fun l hl => ?_⟩⟩
      have g2 := (g0.add (o := .lst (cutV ((f :: ns).map V.str) (some 1) none)) hp2).add (o := .tup (ns.map V.str)) hl
      refine ⟨_, rfl, a, _, 0, _, rfl, rfl, g2.sqL hs, at_0, (show 2 ≤ sizeLine by decide), fun t ht => q _ _ (g2.add ht) (Rep.tup (l := Deed.rest (.merge ns f)) ⟨_, _, rfl, ⟨l, _, rfl, ?_, RepL.of_strs ns⟩, _, _, rfl, rfl, rfl⟩ upd_same)⟩
      refine .inl (.inl ?_)
      rw [upd_ne (fun z => by rw [← z, upd_same] at ht; cases ht), upd_same]
    | _ => exact absurd he (by simp only [Deed.reader]; decide)
  · rcases hb with ⟨hb, _⟩ | ⟨hb, _⟩ | ⟨hb, _⟩
    · rcases hb with hb | hb <;> exact absurd hb (by decide)
    · rcases hb with hb | hb <;> exact absurd hb (by decide)
    · exact absurd hb (by decide)

theorem sc_read_burnt : FnScope ["words"] ["words"] (defScope (top 125)) := ⟨rfl, rfl, rfl, by decide +kernel, rfl, by decide +kernel, by decide +kernel⟩
theorem ok_read_burnt (T : Tp w K mg base) : Cl P w K mg base (L2N.CX P w) 6 "read_burnt" (spRd K "read_burnt") := by
  obtain ⟨fd, F⟩ := F_read_burnt T
  refine ⟨fd, ["words"], F.ok sc_read_burnt (len1 rfl) (fun cdv A outer s H vs Q E hr h => ?_), G_read_burnt T, F.kp, F.bindsN fun _ _ _ _ _ _ us hl => match us, hl with | [_], _ => rfl⟩
  have tk : L2N.Takes (cxOf (L2N.CX P w) P w K mg base ["words"] "read_burnt" (defScope (top 125)) (He.ga K "read_burnt") cdv A outer s H E) (fun cls d _ H' => E cls d H') := L2N.takes_of rfl rfl rfl rfl
  refine ⟨_, (pss_one (ps_ret (pe_tup (pa_cons (pe_callTy call_tuple_of (by rfl) (B_tuple T) (by decide +kernel) (pa_cons (pv 0) pa_nil)) pa_nil)))), ?_⟩
  obtain ⟨v, rfl, a, ws, rfl, hs, hne, hl, h⟩ := h
  rcases h with ⟨e, he, hb, hrd, q⟩ | ⟨hb, r⟩
  · cases e with
    | fire ms =>
      obtain rfl : ws = ms := hb
      refine ⟨_, rfl, a, _, rfl, .inl ⟨hs, fun l hl => ⟨(show 1 ≤ sizeLine by decide), fun t ht => q _ _ ((Gr.new hl).add ht) (Rep.tup (l := Deed.rest (.fire ws)) ⟨_, _, rfl, ⟨l, _, rfl, ?_, RepL.of_strs ws⟩, rfl⟩ upd_same)⟩⟩⟩
      refine .inl (.inl ?_)
      rw [upd_ne (fun z => by rw [← z, upd_same] at ht; cases ht), upd_same]
    | _ => exact absurd he (by simp only [Deed.reader]; decide)
  · rcases hb with ⟨hb, _⟩ | ⟨hb, _⟩ | ⟨hb, _⟩
    · rcases hb with hb | hb <;> exact absurd hb (by decide)
    · rcases hb with hb | hb <;> exact absurd hb (by decide)
    · exact absurd hb (by decide)

theorem sc_read_names : FnScope ["words"] ["words"] (defScope (top 126)) := ⟨rfl, rfl, rfl, by decide +kernel, rfl, by decide +kernel, by decide +kernel⟩
theorem ok_read_names (T : Tp w K mg base) : Cl P w K mg base (L2N.CX P w) 6 "read_names" (spRd K "read_names") := by
  obtain ⟨fd, F⟩ := F_read_names T
  refine ⟨fd, ["words"], F.ok sc_read_names (len1 rfl) (fun cdv A outer s H vs Q E hr h => ?_), G_read_names T, F.kp, F.bindsN fun _ _ _ _ _ _ us hl => match us, hl with | [_], _ => rfl⟩
  have tk : L2N.Takes (cxOf (L2N.CX P w) P w K mg base ["words"] "read_names" (defScope (top 126)) (He.ga K "read_names") cdv A outer s H E) (fun cls d _ H' => E cls d H') := L2N.takes_of rfl rfl rfl rfl
  refine ⟨_, (pss_one (ps_ret (pe_callTy call_tuple_of (by rfl) (B_tuple T) (by decide +kernel) (pa_cons (pv 0) pa_nil)))), ?_⟩
  obtain ⟨v, rfl, a, ws, rfl, hs, hne, hl, h⟩ := h
  rcases h with ⟨e, he, hb, hrd, q⟩ | ⟨hb, r⟩
  · cases e with
    | lose ms =>
      obtain rfl : ws = ms := hb
      exact ⟨_, rfl, a, _, rfl, .inl ⟨hs, fun l hl => q _ _ (.new hl) (Rep.tup (l := Deed.rest (.lose ws)) (RepL.of_strs ws) upd_same)⟩⟩
    | draw ms =>
      obtain rfl : ws = ms := hb
      exact ⟨_, rfl, a, _, rfl, .inl ⟨hs, fun l hl => q _ _ (.new hl) (Rep.tup (l := Deed.rest (.draw ws)) (RepL.of_strs ws) upd_same)⟩⟩
    | _ => exact absurd he (by simp only [Deed.reader]; decide)
  · rcases hb with ⟨hb, _⟩ | ⟨hb, _⟩ | ⟨hb, _⟩
    · rcases hb with hb | hb <;> exact absurd hb (by decide)
    · rcases hb with hb | hb <;> exact absurd hb (by decide)
    · exact absurd hb (by decide)

theorem sc_read_paying : FnScope ["words"] ["words"] (defScope (top 123)) := ⟨rfl, rfl, rfl, by decide +kernel, rfl, by decide +kernel, by decide +kernel⟩
theorem ok_read_paying (T : Tp w K mg base) : Cl P w K mg base (L2N.CX P w) 6 "read_paying" (spRd K "read_paying") := by
  obtain ⟨fd, F⟩ := F_read_paying T
  refine ⟨fd, ["words"], F.ok sc_read_paying (len1 rfl) (fun cdv A outer s H vs Q E hr h => ?_), G_read_paying T, F.kp, F.bindsN fun _ _ _ _ _ _ us hl => match us, hl with | [_], _ => rfl⟩
  have tk : L2N.Takes (cxOf (L2N.CX P w) P w K mg base ["words"] "read_paying" (defScope (top 123)) (He.ga K "read_paying") cdv A outer s H E) (fun cls d _ H' => E cls d H') := L2N.takes_of rfl rfl rfl rfl
  refine ⟨_, (pss_cons (ps_expr (pe_fN tk (ok_must T) hr (pa_cons (pe_cmpR op_gt (pe_callB call_len_seq (by rfl) (B_len T) (by decide +kernel) (pa_cons (pv 0) pa_nil)) pe_int (nomark _)) pa_nil)))
  (pss_one (ps_ret (pe_tup (pa_cons (pe_callTy call_tuple_of (by rfl) (B_tuple T) (by decide +kernel) (pa_cons (pe_slice sl_list (pv 0) (po_some pe_int) po_none) pa_nil)) (pa_cons (pe_f (ok_number_in T) hr (pa_cons (pe_ix (show IxR _ (rIxL K) from ix_list) (pv 0) pe_int (fun _ _ => rfl)) pa_nil)) (pa_cons (pe_f (ok_name_in T) hr (pa_cons (pe_ix (show IxR _ (rIxL K) from ix_list) (pv 0) pe_int (fun _ _ => rfl)) pa_nil)) pa_nil))))))), ?_⟩
  obtain ⟨v, rfl, a, ws, rfl, hs, hne, hl, h⟩ := h
  rcases h with ⟨e, he, hb, hrd, q⟩ | ⟨hb, r⟩
  · cases e with
    | pay ns g o =>
      obtain rfl : ws = nS g :: optS o :: ns := hb
      obtain ⟨h1, h2, h3⟩ := hrd
      have hlt : decide ((2 : Int) < (((nS g :: optS o :: ns).map V.str).length : Nat)) = true := decide_eq_true (by
        rw [List.length_map, List.length_cons, List.length_cons]
        have : 0 < ns.length := List.length_pos_iff.mpr h1
        omega)
      refine ⟨_, rfl, a, _, rfl, .inl hs, _, _, rfl, rfl, _, rfl, true, congrArg V.bl hlt, .inl ⟨rfl, _, rfl, _, rfl, a, _, rfl, hs, fun p2 hp2 => ?_⟩⟩
      have ec : cutV ((nS g :: optS o :: ns).map V.str) (some ((2 : Nat) : Int)) none = ns.map V.str := cut_from 2
      refine ⟨p2, ns.map V.str, rfl, .inl ⟨SqL.of (upd_same.trans (congrArg (fun z => some (HO.lst z)) ec)), fun l hl => ?_⟩⟩
      have g2 := (Gr.new (K := K) (o := .lst (cutV ((nS g :: optS o :: ns).map V.str) (some 2) none)) hp2).add (o := .tup (ns.map V.str)) hl
      refine ⟨_, rfl, a, _, 0, _, rfl, rfl, g2.sqL hs, at_0, _, rfl, g, rfl, h2, fun H3 g3 => ⟨_, rfl, a, _, 1, _, rfl, rfl, (g2.trans g3).sqL hs, at_1, _, rfl, o, rfl, h3, fun v hv => ⟨(show 3 ≤ sizeLine by decide), fun t ht => q _ _ ((g2.trans g3).add ht) (Rep.tup (l := Deed.rest (.pay ns g o)) ⟨_, _, rfl, ⟨l, _, rfl, ?_, RepL.of_strs ns⟩, _, _, rfl, rfl, _, _, rfl, hv _, rfl⟩ upd_same)⟩⟩⟩
      have hl3 := g3.tup (a := l) upd_same
      refine .inl (.inl ?_)
      rw [upd_ne (fun z => by rw [← z, hl3] at ht; cases ht)]
      exact hl3
    | _ => exact absurd he (by simp only [Deed.reader]; decide)
  · rcases hb with ⟨hb, _⟩ | ⟨hb, _⟩ | ⟨hb, _⟩
    · rcases hb with hb | hb <;> exact absurd hb (by decide)
    · rcases hb with hb | hb <;> exact absurd hb (by decide)
    · exact absurd hb (by decide)

theorem held_R (T : Tp w K mg base) (e : Deed) : HeldC P w K mg base (L2N.CX P w) 6 (He.ga K e.reader) (spRd K e.reader) := by
  cases e with
  | parts => exact (ok_read_parts T).held (by decide)
  | burn => exact (ok_read_burning T).held (by decide)
  | make => exact (ok_read_making T).held (by decide)
  | part => exact (ok_read_pieces T).held (by decide)
  | merge => exact (ok_read_merging T).held (by decide)
  | pay => exact (ok_read_paying T).held (by decide)
  | fire => exact (ok_read_burnt T).held (by decide)
  | lose => exact (ok_read_names T).held (by decide)
  | draw => exact (ok_read_names T).held (by decide)
  | send => exact (ok_read_sending T).held (by decide)
end
end CK
set_option maxHeartbeats 4000000
namespace CK
open PySem PySem.Spec PyProof.Rows L2
/-! ### a call of a slot that holds some raising def -/
def tCallHS (P : Program) (w : World) (K : PySem.W.Frag) (mg : Str → Option Value) (base : Heap) (CX : CXT) (k i : Nat) (E : L2.St → XK) (t : TA) : TE := fun σ H Q => ∃ f sp, σ[i]? = some (some (.ref f)) ∧ HeldC P w K mg base CX k f sp ∧ t σ H fun vs H1 => sp vs H1 Q (E σ)
section
variable {X : Cx} {k j i : Nat} {x : Str} {p pos : Pos} {e : Expr} {es : List Expr} {t : TA}
theorem pe_callHS {W : WX} (tk : L2N.Takes X W) (hr : Room j X.A) (ha : PA X (e :: es) t) (hk : k ≤ j := by decide) (hN : X.N[i]? = some x := by rfl) (hv : Vis X.env.scope x := by first | exact Or.inl rfl | exact Or.inr (Or.inl rfl) | exact Or.inr (Or.inr rfl))
    (hdb : (x == ("__debug__" : Str)) = false := by decide) (hcd : (x == ("__classdict__" : Str)) = false := by decide)
    (he : starEach (e :: es) X.env = (false, eval e X.env) :: starEach es X.env := by rfl) (hpl : (backTo pos (starEach es X.env)).any (·.1) = false := by rfl) :
    PE X (.Call (.Name x p) (e :: es) [] pos) (tCallHS X.prog X.w X.K X.mg X.base (L2N.CX X.prog X.w) k i (WE W) t) := by
  refine ⟨fun pins s σ H Q I h => ?_⟩
  obtain ⟨f, sp, hs, c, ht⟩ := h
  obtain ⟨fd, ps, F, hkp, hb⟩ := c.ex
  refine wpAny_Call_Name_kw (thn ((pe_var (pos := p) hN hv hdb hcd).run pins s σ H (fun v H1 => v = .ref f ∧ H1 = H) I ⟨.ref f, hs, rfl, rfl⟩) fun u s1 ⟨v, H1, I1, r1, q1⟩ => ?_)
  obtain ⟨rfl, rfl⟩ := q1
  cases r1
  exact PySem.W.callWith_K (h₀ := X.base) I.ok.mod.kin hkp (thn (ha.run pos pins s1 σ _ _ I1 ht) fun us s2 ⟨vs, H2, I2, r, q⟩ => ⟨I2.kIn, run_fnS F (hr.mono hk) hb (L2N.passAt tk σ) I2 r q⟩) he hpl
end
end CK
set_option maxHeartbeats 0
namespace CK
open PySem PySem.Spec PyProof.Rows L2
section
variable {P : Program} {w : World} {K : PySem.W.Frag} {mg : Str → Option Value} {base : Heap}
theorem word_key (e : Deed) : e.word ∈ keyREADERS := by
  cases e with
  | parts k => cases k <;> (unfold keyREADERS; simp [Deed.word])
  | _ => unfold keyREADERS; simp [Deed.word]
/-- bad words of a row -/
def BadRow (ws : List Str) : Prop := ws.length ≤ 2 ∨ (∃ d w r, ws = d :: w :: r ∧ w ∉ keyREADERS) ∨ (∃ (d : Nat) (e : Deed) (r : List Str), ws = nS d :: e.word :: r ∧ d < 10 ^ 12 ∧ r ≠ [] ∧ BadW e.reader r) ∨
  ∃ (d : Nat) (e : Deed), ws = nS d :: e.word :: e.body ∧ d < 10 ^ 12 ∧ e.body ≠ [] ∧ e.Rd ∧ ((1200 < d ∧ (e.Good ∨ e.Bad)) ∨ e.Bad)
theorem rest_ne {e : Deed} (h : e.body ≠ []) : e.rest ≠ [] := by
  cases e with
  | lose ws => exact fun z => h (List.map_eq_nil_iff.mp z)
  | draw ws => exact fun z => h (List.map_eq_nil_iff.mp z)
  | _ => simp [Deed.rest]
theorem rest_len {e : Deed} (h : e.body.length ≤ 1000) : e.rest.length ≤ 1000 := by
  cases e with
  | lose ws => rw [show (Deed.lose ws).rest = ws.map .s from rfl, List.length_map]; exact h
  | draw ws => rw [show (Deed.draw ws).rest = ws.map .s from rfl, List.length_map]; exact h
  | _ => simp [Deed.rest]
/-- day_and_deed -/
def spDd (K : PySem.W.Frag) : Sp := sp1 fun x H Q E => ∃ (z : Str) (ws : List Str), x = .str z ∧ z.length + 2 ≤ sizeLine ∧ Txt.split z (.ofString " ") = ws ∧ ws.length ≤ 1000 ∧
  ((∃ (d : Nat) (e : Deed), ws = nS d :: e.word :: e.body ∧ d ≤ 1200 ∧ e.Good ∧ e.Rd ∧ e.body ≠ [] ∧ ∀ H' v, Gr K H H' → Rep K H' (pE (d, e)) v → Q v H') ∨ (BadRow ws ∧ Rs K H (.int 0) E))
theorem sc_day_and_deed : FnScope ["row", "words", "reader", "day", "deed"] ["row"] (defScope (top 128)) := ⟨rfl, rfl, rfl, by decide +kernel, rfl, by decide +kernel, by decide +kernel⟩
theorem ok_day_and_deed (T : Tp w K mg base) : Cl P w K mg base (L2N.CX P w) 7 "day_and_deed" (spDd K) := by
  obtain ⟨es0, n0, D⟩ := T.d.tab 2
  obtain ⟨fd, F⟩ := F_day_and_deed T
  refine ⟨fd, ["row"], F.ok sc_day_and_deed (len1 rfl) (fun cdv A outer s H vs Q E hr h => ?_), G_day_and_deed T, F.kp, F.bindsN fun _ _ _ _ _ _ us hl => match us, hl with | [_], _ => rfl⟩
  have tk : L2N.Takes (cxOf (L2N.CX P w) P w K mg base ["row", "words", "reader", "day", "deed"] "day_and_deed" (defScope (top 128)) (He.ga K "day_and_deed") cdv A outer s H E) (fun cls d _ H' => E cls d H') := L2N.takes_of rfl rfl rfl rfl
  refine ⟨_, (pss_cons (ps_expr (pe_fN tk (ok_must T) hr (pa_cons (pe_isi (T := "str") (pv 0) (B_isinstance T) (B_str T)) pa_nil)))
  (pss_cons (ps_set (i := 1) sc_day_and_deed.nd rfl (Or.inl rfl) (pe_split (pv 0) pe_str))
  (pss_cons (ps_expr (pe_fN tk (ok_must T) hr (pa_cons (pe_and (pe_cmpR op_gt (pe_callB call_len_seq (by rfl) (B_len T) (by decide +kernel) (pa_cons (pv 1) pa_nil)) pe_int (nomark _)) (pe_one (pe_cmpR (op_in_kd D) (pe_ix (show IxR _ (rIxL K) from ix_list) (pv 1) pe_int (fun _ _ => rfl)) (pe_glob (v := .ref (He.ga K "READERS")) (by rfl) (G_READERS T) rfl) (by rfl)))) pa_nil)))
  (pss_cons (ps_set (i := 2) sc_day_and_deed.nd rfl (Or.inl rfl) (pe_ix ix_kdict (pe_glob (v := .ref (He.ga K "READERS")) (by rfl) (G_READERS T) rfl) (pe_ix (show IxR _ (rIxL K) from ix_list) (pv 1) pe_int (fun _ _ => rfl)) (fun _ _ => rfl)))
  (pss_cons (ps_set (i := 3) sc_day_and_deed.nd rfl (Or.inl rfl) (pe_f (ok_number_in T) hr (pa_cons (pe_ix (show IxR _ (rIxL K) from ix_list) (pv 1) pe_int (fun _ _ => rfl)) pa_nil)))
  (pss_cons (ps_set (i := 4) sc_day_and_deed.nd rfl (Or.inl rfl) (pe_op op_catA (pe_tup (pa_cons (pe_ix (show IxR _ (rIxL K) from ix_list) (pv 1) pe_int (fun _ _ => rfl)) pa_nil)) (pe_callHS tk (k := 6) (i := 2) hr (pa_cons (pe_slice sl_list (pv 1) (po_some pe_int) po_none) pa_nil))))
  (pss_cons (ps_expr (pe_fN tk (ok_must T) hr (pa_cons (pe_and (pe_f (ok_is_day T) hr (pa_cons (pv 3) pa_nil)) (pe_one (pe_f (ok_is_deed T) hr (pa_cons (pv 4) pa_nil)))) pa_nil)))
  (pss_one (ps_ret (pe_tup (pa_cons (pv 3) (pa_cons (pv 4) pa_nil)))))))))))), ?_⟩
  obtain ⟨v, rfl, z, ws, rfl, hz, hw, hl, h⟩ := h
  refine ⟨_, rfl, _, _, _, _, _, rfl, .ty _, .base (.str _), kit_str, _, rfl, true, rfl, .inl ⟨rfl, _, rfl, ⟨_, rfl⟩, _, _, rfl, rfl, rfl, hz, fun p hp => ?_⟩⟩
  rw [hw]
  have g1 : Gr K H (upd H p (.lst (ws.map V.str))) := .new hp
  have hs : SqL K (upd H p (.lst (ws.map V.str))) p (ws.map V.str) := SqL.of upd_same
  refine ⟨_, rfl, p, _, rfl, .inl hs, _, _, rfl, rfl, ?_⟩
  -- the rest, of a row with a reader
  by_cases hle : ws.length ≤ 2
  · have r : Rs K H (.int 0) E := by
      rcases h with ⟨d, e, rfl, _, _, _, hb, _⟩ | ⟨_, r⟩
      · have := List.length_pos_iff.mpr hb
        simp only [List.length_cons] at hle
        omega
      · exact r
    exact ⟨false, congrArg V.bl (decide_eq_false (by rw [List.length_map]; omega)), iteF ⟨_, rfl, false, rfl, .inr ⟨rfl, fun d H' g hd => r d H' (g1.trans g) hd⟩⟩⟩
  obtain ⟨w0, w1, rr, rfl⟩ : ∃ w0 w1 rr, ws = w0 :: w1 :: rr := by
    match ws, hle with
    | [], h => exact absurd (Nat.zero_le 2) h
    | [_], h => exact absurd (show 1 ≤ 2 by decide) h
    | a :: b :: r, _ => exact ⟨a, b, r, rfl⟩
  have hrr : rr ≠ [] := fun z => hle (by rw [z]; exact Nat.le_refl 2)
  refine ⟨true, congrArg V.bl (decide_eq_true (by rw [List.length_map]; omega)), iteT ?_⟩
  by_cases hw1 : w1 ∈ keyREADERS
  · have hx : ∃ (d : Nat) (e : Deed), w0 = nS d ∧ d < 10 ^ 12 ∧ w1 = e.word ∧ ((BadW e.reader rr ∧ Rs K H (.int 0) E) ∨ (rr = e.body ∧ e.Rd ∧ ((d ≤ 1200 ∧ e.Good ∧ ∀ H' v, Gr K H H' → Rep K H' (pE (d, e)) v → Q v H') ∨ (((1200 < d ∧ (e.Good ∨ e.Bad)) ∨ e.Bad) ∧ Rs K H (.int 0) E)))) := by
      rcases h with ⟨d, e, eq, h1, h2, h3, _, q⟩ | ⟨hb, r⟩
      · injection eq with e1 eq
        injection eq with e2 e3
        exact ⟨d, e, e1, by omega, e2, .inr ⟨e3, h3, .inl ⟨h1, h2, q⟩⟩⟩
      · rcases hb with hb | ⟨d, x, y, eq, hn⟩ | ⟨d, e, y, eq, h1, _, h2⟩ | ⟨d, e, eq, h1, _, h2, h3⟩
        · exact absurd hb hle
        · injection eq with e1 eq
          injection eq with e2 e3
          exact absurd (e2 ▸ hw1) hn
        · injection eq with e1 eq
          injection eq with e2 e3
          exact ⟨d, e, e1, h1, e2, .inl ⟨e3 ▸ h2, r⟩⟩
        · injection eq with e1 eq
          injection eq with e2 e3
          exact ⟨d, e, e1, h1, e2, .inr ⟨e3, h2, .inr ⟨h3, r⟩⟩⟩
    obtain ⟨d, e, rfl, hd, rfl, hx⟩ := hx
    obtain ⟨u, hu⟩ := inR T e
    refine ⟨_, rfl, p, _, 1, _, rfl, rfl, hs, at_1, e.word, _, rfl, rfl, hu, _, rfl, true, rfl, .inl ⟨rfl, _, rfl, p, _, 1, _, rfl, rfl, hs, at_1, _, _, _, rfl, rfl, ixR T e, _, rfl, p, _, 0, _, rfl, rfl, hs, at_0, _, rfl, d, rfl, hd, fun H2 g2 => ?_⟩⟩
    have hs2 := g2.sqL hs
    have g12 := g1.trans g2
    refine ⟨_, rfl, p, _, 1, _, rfl, rfl, hs2, at_1, (show 1 ≤ sizeLine by decide), fun p1 hp1 => ?_⟩
    have hs3 := (g2.add (o := .tup [.str e.word]) hp1).sqL hs
    refine ⟨He.ga K e.reader, spRd K e.reader, rfl, held_R T e, _, rfl, _, rfl, p, _, rfl, hs3, fun p2 hp2 => ?_⟩
    have ec : cutV ((nS d :: e.word :: rr).map V.str) (some ((2 : Nat) : Int)) none = rr.map V.str := cut_from 2
    have hrl : rr.length ≤ 1000 := by
      rw [List.length_cons, List.length_cons] at hl
      omega
    have g13 := (g12.add (o := .tup [.str e.word]) hp1).add (o := .lst (cutV ((nS d :: e.word :: rr).map V.str) (some 2) none)) hp2
    have ht : SqT K (upd (upd H2 p1 (.tup [.str e.word])) p2 (.lst (cutV ((nS d :: e.word :: rr).map V.str) (some 2) none))) p1 [.str e.word] := by
      refine .inl (.inl ?_)
      rw [upd_ne (fun z => by rw [← z, upd_same] at hp2; cases hp2), upd_same]
    refine ⟨_, rfl, p2, rr, rfl, SqL.of (upd_same.trans (congrArg (fun z => some (HO.lst z)) ec)), hrr, hrl, ?_⟩
    rcases hx with ⟨hb, r⟩ | ⟨rfl, hrd, hx⟩
    · exact .inr ⟨hb, fun d H' g hd => r d H' (g13.trans g) hd⟩
    · refine .inl ⟨e, rfl, rfl, hrd, fun H5 v g5 hv => ?_⟩
      obtain ⟨b, ys, rfl, hb, hy⟩ := hv
      have hne : e.rest ≠ [] := rest_ne hrr
      have hyl : ys.length = e.rest.length := hy.len
      have hys : ys ≠ [] := fun z => hne (List.length_eq_zero_iff.mp (by rw [← hyl, z]; rfl))
      refine ⟨p1, b, [.str e.word], ys, rfl, rfl, g5.sqT ht, hb, by rw [hyl]; exact Nat.le_trans (Nat.add_le_add_left (rest_len hrl) 1) (by decide), (fun z => by cases z), fun _ z => absurd z hys, fun _ _ p3 hp3 => ?_⟩
      have hdd : Rep K (upd H5 p3 (.tup (V.str e.word :: ys))) e.d (.ref p3) := Rep.tup (l := .s e.word :: e.rest) ⟨_, _, rfl, rfl, hy.std' (Std.upd' hp3)⟩ upd_same
      have g6 := (g13.trans g5).add (o := .tup (V.str e.word :: ys)) hp3
      have dayB : ∀ k : Bool, (decide (d ≤ 1200)) = k → V.bl (decide ((0 : Int) ≤ (d : Nat)) && decide (((d : Nat) : Int) ≤ 1200)) = V.bl k := fun k hk => by
        rw [decide_eq_true (show (0 : Int) ≤ (d : Nat) by omega), Bool.true_and, ← hk]
        exact congrArg V.bl (decide_eq_decide.mpr (by omega))
      rcases hx with ⟨hd', hg, q⟩ | ⟨hbad, r⟩
      · refine ⟨_, rfl, _, rfl, d, rfl, true, dayB _ (decide_eq_true hd'), iteT ⟨_, rfl, _, rfl, e, hdd, .inl ⟨hg, fun H7 g7 => ⟨_, rfl, true, rfl, .inl ⟨rfl, _, rfl, _, rfl, (show 2 ≤ sizeLine by decide), fun p4 hp4 => ?_⟩⟩⟩⟩⟩
        exact q _ _ ((g6.trans g7).add hp4) (Rep.tup (l := [.i d, e.d]) ⟨_, _, rfl, rfl, _, _, rfl, hdd.std' (g7.std.trans (Std.upd' hp4)), rfl⟩ upd_same)
      · by_cases hd' : d ≤ 1200
        · refine ⟨_, rfl, _, rfl, d, rfl, true, dayB _ (decide_eq_true hd'), iteT ⟨_, rfl, _, rfl, e, hdd, .inr ⟨?_, fun H7 g7 => ⟨_, rfl, false, rfl, .inr ⟨rfl, fun d H' g hd => r d H' ((g6.trans g7).trans g) hd⟩⟩⟩⟩⟩
          rcases hbad with ⟨h, _⟩ | h
          · omega
          · exact h
        · exact ⟨_, rfl, _, rfl, d, rfl, false, dayB _ (decide_eq_false hd'), iteF ⟨_, rfl, false, rfl, .inr ⟨rfl, fun d H' g hd => r d H' (g6.trans g) hd⟩⟩⟩
  · have r : Rs K H (.int 0) E := by
      rcases h with ⟨d, e, eq, _⟩ | ⟨_, r⟩
      · obtain ⟨_, eq⟩ := List.cons.inj eq
        obtain ⟨eq, _⟩ := List.cons.inj eq
        exact absurd (by rw [eq]; exact word_key e) hw1
      · exact r
    exact ⟨_, rfl, p, _, 1, _, rfl, rfl, hs, at_1, w1, none, rfl, rfl, notR T hw1, _, rfl, false, rfl, .inr ⟨rfl, fun d H' g hd => r d H' (g1.trans g) hd⟩⟩

end
end CK
set_option maxHeartbeats 0
namespace CK
open PySem PySem.Spec PyProof.Rows L2
section
variable {P : Program} {w : World} {K : PySem.W.Frag} {mg : Str → Option Value} {base : Heap}
def spLi (K : PySem.W.Frag) : Sp := sp2 fun x y H Q _ => ∃ (l : Loss) (z : Str), x = .str l.1 ∧ y = .str z ∧ z.length + 2 ≤ sizeLine ∧ Txt.split z (.ofString "/") = [nS l.2.1, nS l.2.2] ∧ l.2.1 < 10 ^ 12 ∧ l.2.2 < 10 ^ 12 ∧
  ∀ H' v, Gr K H H' → Rep K H' (pL l) v → Q v H'
theorem sc_loss_in : FnScope ["ware", "share", "words"] ["ware", "share"] (defScope (top 129)) := ⟨rfl, rfl, rfl, by decide +kernel, rfl, by decide +kernel, by decide +kernel⟩
theorem ok_loss_in (T : Tp w K mg base) : Cl P w K mg base (L2N.CX P w) 5 "loss_in" (spLi K) := by
  obtain ⟨fd, F⟩ := F_loss_in T
  refine ⟨fd, ["ware", "share"], F.ok sc_loss_in (len2 rfl) (fun cdv A outer s H vs Q E hr h => ?_), G_loss_in T, F.kp, F.bindsN fun _ _ _ _ _ _ us hl => match us, hl with | [_, _], _ => rfl⟩
  have tk : L2N.Takes (cxOf (L2N.CX P w) P w K mg base ["ware", "share", "words"] "loss_in" (defScope (top 129)) (He.ga K "loss_in") cdv A outer s H E) (fun cls d _ H' => E cls d H') := L2N.takes_of rfl rfl rfl rfl
  refine ⟨_, (pss_cons (ps_set (i := 2) sc_loss_in.nd rfl (Or.inl rfl) (pe_split (pv 1) pe_str))
  (pss_cons (ps_expr (pe_fN tk (ok_must T) hr (pa_cons (pe_cmpR op_eq (pe_callB call_len_seq (by rfl) (B_len T) (by decide +kernel) (pa_cons (pv 2) pa_nil)) pe_int (nomark _)) pa_nil)))
  (pss_one (ps_ret (pe_tup (pa_cons (pv 0) (pa_cons (pe_f (ok_number_in T) hr (pa_cons (pe_ix (show IxR _ (rIxL K) from ix_list) (pv 2) pe_int (fun _ _ => rfl)) pa_nil)) (pa_cons (pe_f (ok_number_in T) hr (pa_cons (pe_ix (show IxR _ (rIxL K) from ix_list) (pv 2) pe_int (fun _ _ => rfl)) pa_nil)) pa_nil)))))))), ?_⟩
  obtain ⟨v, y, rfl, l, z, rfl, rfl, hz, hw, h1, h2, q⟩ := h
  refine ⟨_, rfl, ⟨_, rfl⟩, _, _, rfl, rfl, rfl, hz, fun p hp => ?_⟩
  rw [hw]
  have g1 : Gr K H (upd H p (.lst ([nS l.2.1, nS l.2.2].map V.str))) := .new hp
  have hs : SqL K (upd H p (.lst ([nS l.2.1, nS l.2.2].map V.str))) p ([nS l.2.1, nS l.2.2].map V.str) := SqL.of upd_same
  refine ⟨_, rfl, p, _, rfl, .inl hs, rfl, _, rfl, true, rfl, .inl ⟨rfl, _, rfl, _, rfl, p, _, 0, _, rfl, rfl, hs, at_0, _, rfl, l.2.1, rfl, h1, fun H2 g2 => ⟨_, rfl, p, _, 1, _, rfl, rfl, g2.sqL hs, at_1, _, rfl, l.2.2, rfl, h2, fun H3 g3 => ⟨(show 3 ≤ sizeLine by decide), fun t ht => ?_⟩⟩⟩⟩
  exact q _ _ (((g1.trans g2).trans g3).add ht) (Rep.tup (l := [.s l.1, .i l.2.1, .i l.2.2]) ⟨_, _, rfl, rfl, _, _, rfl, rfl, _, _, rfl, rfl, rfl⟩ upd_same)

theorem li_never (T : Tp w K mg base) : Cl P w K mg base CX0 5 "loss_in" (spLi K) := by
  obtain ⟨fd, ps, F, r⟩ := (ok_loss_in (P := P) T).ex
  refine ⟨fd, ps, ⟨F.len, fun A outer s H args us vs Q E hr he hb hv hs => codeAny_mono (F.run A outer s H args us vs Q (fun _ _ _ => False) hr he hb hv hs) fun z s' q => ?_⟩, r⟩
  match z, q with
  | .error e, q =>
    obtain ⟨_, _, _, _, _, _, _, _, _, _, _, _, h⟩ := q
    exact False.elim h
  | .ok (.ret u), q => exact q
def shT (p : Loss) : Str := nS p.2.1 ++ .ofString "/" ++ nS p.2.2
theorem split_sh (p : Loss) : Txt.split (shT p) (.ofString "/") = [nS p.2.1, nS p.2.2] := by
  have := split_one (c := 47) (by decide) (parts := [TL.numL p.2.1, TL.numL p.2.2]) (by simp) (by simp; exact ⟨TL.numL_free (by omega), TL.numL_free (by omega)⟩)
  unfold shT
  rw [nS_S, nS_S]
  have e0 : (Str.ofString "/") = SX.S [47] := by decide +kernel
  rw [e0]
  have e1 : SX.S (TL.numL p.2.1) ++ SX.S [47] ++ SX.S (TL.numL p.2.2) = SX.S (TL.joinL [47] [TL.numL p.2.1, TL.numL p.2.2]) := by
    rw [← S_cl (_ ++ _ ++ _), cl_app, cl_app, ← nS_S, ← nS_S, cl_nS, cl_nS]
    rw [← e0, cl_slash]
    simp [TL.joinL]
  rw [e1]
  exact this
theorem sh_len {p : Loss} (h1 : p.2.1 < 10 ^ 12) (h2 : p.2.2 < 10 ^ 12) : (shT p).length + 2 ≤ sizeLine := by
  unfold shT
  have := nS_le25 h1
  have := nS_le25 h2
  have : 25 + 1 + 25 + 2 ≤ sizeLine := by decide
  have e2 : (Str.ofString "/").length = 1 := rfl
  simp only [app_len, e2]
  omega
abbrev hdP (dr : List Loss) : List (Str × Str) := dr.map fun p => (p.1, shT p)
/-- bad words of a head -/
def BadHd (ws : List Str) : Prop := ws.head? ≠ some (.ofString "drying") ∨ ws.length % 2 = 0
def spHd (K : PySem.W.Frag) : Sp := sp1 fun x H Q E => ∃ (z : Str) (ws : List Str), x = .str z ∧ z.length + 2 ≤ sizeLine ∧ Txt.split z (.ofString " ") = ws ∧ ws ≠ [] ∧ ws.length ≤ 1000 ∧
  ((∃ dr, ws = .ofString "drying" :: flatS (hdP dr) ∧ okLs dr ∧ ∀ H' v, Gr K H H' → Rep K H' (dD dr) v → Q v H') ∨ (BadHd ws ∧ Rs K H (.int 0) E))
theorem sc_drying_in : FnScope ["row", "words", "found", "ware", "share"] ["row"] (defScope (top 130)) := ⟨rfl, rfl, rfl, by decide +kernel, rfl, by decide +kernel, by decide +kernel⟩
theorem ok_drying_in (T : Tp w K mg base) : Cl P w K mg base (L2N.CX P w) 6 "drying_in" (spHd K) := by
  obtain ⟨fd, F⟩ := F_drying_in T
  refine ⟨fd, ["row"], F.ok sc_drying_in (len1 rfl) (fun cdv A outer s H vs Q E hr h => ?_), G_drying_in T, F.kp, F.bindsN fun _ _ _ _ _ _ us hl => match us, hl with | [_], _ => rfl⟩
  have tk : L2N.Takes (cxOf (L2N.CX P w) P w K mg base ["row", "words", "found", "ware", "share"] "drying_in" (defScope (top 130)) (He.ga K "drying_in") cdv A outer s H E) (fun cls d _ H' => E cls d H') := L2N.takes_of rfl rfl rfl rfl
  refine ⟨_, (pss_cons (ps_set (i := 1) sc_drying_in.nd rfl (Or.inl rfl) (pe_split (pv 0) pe_str))
  (pss_cons (ps_expr (pe_fN tk (ok_must T) hr (pa_cons (pe_cmpR op_eq (pe_ix (show IxR _ (rIxL K) from ix_list) (pv 1) pe_int (fun _ _ => rfl)) pe_str (nomark _)) pa_nil)))
  (pss_cons (ps_set (i := 2) sc_drying_in.nd rfl (Or.inl rfl) (pe_callTy call_tuple_of (by rfl) (B_tuple T) (by decide +kernel) (pa_cons (pe_lc (own := [("ware", 3), ("share", 4)]) rfl sc_drying_in.nd (pi_list (pe_fN tk (ok_in_pairs T) hr (pa_cons (pe_slice sl_list (pv 1) (po_some pe_int) po_none) pa_nil))) (blkOk_by (own := [("ware", 3), ("share", 4)]) (N := ["row", "words", "found", "ware", "share"]) (sc := defScope (top 130)) (by decide +kernel)) (fun _ _ _ _ _ => (show PG _ _ (gTup K 2 _) from pg_tup rfl (pgs_cons (pg_name (i := 3) sc_drying_in.nd rfl (Or.inl rfl)) (pgs_cons (pg_name (i := 4) sc_drying_in.nd rfl (Or.inl rfl)) pgs_nil)))) (fun _ _ _ _ _ => pts_nil) (fun _ _ _ _ _ => (pe_f (li_never T) hr (pa_cons (pv 3) (pa_cons (pv 4) pa_nil))))) pa_nil)))
  (pss_cons (ps_expr (pe_fN tk (ok_must T) hr (pa_cons (pe_f (ok_is_drying T) hr (pa_cons (pv 2) pa_nil)) pa_nil)))
  (pss_one (ps_ret (pv 2))))))), ?_⟩
  obtain ⟨v, rfl, z, ws, rfl, hz, hw, hne, hl, h⟩ := h
  refine ⟨_, rfl, ⟨_, rfl⟩, _, _, rfl, rfl, rfl, hz, fun p hp => ?_⟩
  rw [hw]
  have g1 : Gr K H (upd H p (.lst (ws.map V.str))) := .new hp
  have hs : SqL K (upd H p (.lst (ws.map V.str))) p (ws.map V.str) := SqL.of upd_same
  cases ws with
  | nil => exact absurd rfl hne
  | cons w0 rr =>
    rw [List.length_cons] at hl
    refine ⟨_, rfl, p, _, 0, _, rfl, rfl, hs, at_0, rfl, _, rfl, ?_⟩
    by_cases h0 : w0 = .ofString "drying"
    · subst h0
      refine ⟨true, congrArg V.bl (decide_eq_true rfl), .inl ⟨rfl, _, rfl, _, rfl, p, _, rfl, hs, fun p2 hp2 => ?_⟩⟩
      have g2 := g1.add (o := .lst (cutV ((.ofString "drying" :: rr).map V.str) (some 1) none)) hp2
      have ec : cutV ((.ofString "drying" :: rr).map V.str) (some ((1 : Nat) : Int)) none = rr.map V.str := cut_from 1
      refine ⟨_, rfl, p2, rr, rfl, SqL.of (upd_same.trans (congrArg (fun z => some (HO.lst z)) ec)), by omega, ?_⟩
      rcases h with ⟨dr, e, hok, q⟩ | ⟨hb, r⟩
      · obtain rfl : rr = flatS (hdP dr) := (List.cons.inj e).2
        refine .inl ⟨hdP dr, rfl, fun H3 q3 ys g3 e3 hy => ?_⟩
        have hyl : ys.length = dr.length := by rw [hy.len, List.length_map, List.length_map]
        have g13 := g2.trans g3
        refine ⟨q3, rfl, ⟨_, SqL.of e3⟩, fun D hD => lc_R (K := K) (walk_list (K := K) (a := q3) (xs := ys)) (fun i y H' => ∃ p, dr[i]? = some p ∧ Rep K H' (pL p) y) hD (by rw [hyl]; exact small (Nat.le_trans hok.1 (by decide))) (fun H g => g.sqL (SqL.of e3)) (fun i y H H' e ⟨p, a1, a2⟩ => ⟨p, a1, a2.std' e⟩) ?_ ?_⟩
        · rintro i x H4 _ Q' hi gr ⟨rfl, hx⟩ k
          have hp := List.getElem?_eq_getElem (l := dr) (i := i) (by omega)
          obtain ⟨x', f1, hrep⟩ := hy.at (i := i) (d := pS (dr[i].1, shT dr[i])) (by rw [List.getElem?_map, List.getElem?_map, hp] <;> rfl)
          rw [hx] at f1
          cases f1
          obtain ⟨b, y, z, rfl, hsb, hy1, hz1⟩ := rep2 hrep
          obtain rfl : y = .str dr[i].1 := hy1
          obtain rfl : z = .str (shT dr[i]) := hz1
          obtain ⟨_, k1, k2⟩ := hok.2.1 _ (List.mem_of_getElem? hp)
          have n1 : dr[i].2.1 < 10 ^ 12 := by omega
          have n2 : dr[i].2.2 < 10 ^ 12 := by omega
          exact ⟨b, _, rfl, gr.sqT hsb, rfl, _, _, rfl, _, _, rfl, rfl, rfl, _, rfl, _, rfl, _, _, rfl, dr[i], _, rfl, rfl, sh_len n1 n2, split_sh _, n1, n2, fun H5 c g5 hc => k _ _ g5 ⟨_, hp, hc⟩⟩
        · intro H4 acc g4 e4 hl4 hR
          have hrl : RepL K H4 (dr.map pL) acc := repL_pt (by rw [List.length_map, hl4, hyl]) fun i y hy => by
            obtain ⟨p, a1, a2⟩ := hR i y hy
            exact ⟨_, by rw [List.getElem?_map, a1] <;> rfl, a2⟩
          refine ⟨D, _, rfl, .inl ⟨SqL.of e4, fun l hl => ?_⟩⟩
          have hd : Rep K (upd H4 l (.tup acc)) (dD dr) (.ref l) := Rep.tup (hrl.std' (Std.upd' hl)) upd_same
          have g5 := (g13.trans g4).add (o := .tup acc) hl
          exact ⟨_, rfl, _, rfl, dr, hd, hok, fun H6 g6 => ⟨_, rfl, true, rfl, .inl ⟨rfl, _, rfl, q _ _ (g5.trans g6) (hd.std' g6.std)⟩⟩⟩
      · refine .inr ⟨?_, fun d H' g hd => r d H' (g2.trans g) hd⟩
        rcases hb with hb | hb
        · exact absurd rfl hb
        · rw [List.length_cons] at hb
          omega
    · refine ⟨false, congrArg V.bl (decide_eq_false fun z => h0 (V.str.inj z)), .inr ⟨rfl, ?_⟩⟩
      rcases h with ⟨dr, e, hok, q⟩ | ⟨hb, r⟩
      · exact absurd (List.cons.inj e).1 h0
      · exact fun d H' g hd => r d H' (g1.trans g) hd

end
end CK
set_option maxHeartbeats 4000000
/-! except X as e: raise Y(..) from e -/
namespace CK
open PySem PySem.Spec PyProof.Rows L2 L2H HotX
section
variable {X : Cx} {pins : List (Addr × Obj)} {σ : L2.St} {H : Hp} {s sI : Shared}
/-- a local's value, the state as it is -/
theorem ld_loc {E Q : Value → Shared → Prop} {i : Nat} {x : Str} {v : V} {pos : Pos} (I : Inv X pins σ H s) (hN : X.N[i]? = some x) (hl : X.env.kindOf x = some .local) (hs : σ[i]? = some (some v)) (h : ∀ u, RelV v u → Q u s)
    (hd : (x == ("__debug__" : Str)) = false := by decide) : wpAny (model X.prog X.w) X.A (eval (.Name x pos) X.env) Q E s := by
  obtain ⟨m, hn, hl'⟩ := I.loc
  obtain ⟨u, r, l⟩ := hl' i x v hN hs (.inl hl)
  have hl2 : X.env.scope.names.lookup x = some .local := hl
  rcases l with ⟨hk, hm⟩ | ⟨hk, _⟩
  · exact wpAny_Name (wpAny_loadName_local I.ok.kind hk hn hm (h u r)) hd
  · rcases hk with hk | hk
    · have hk : X.env.scope.names.lookup x = some .cell := hk
      rw [hl2] at hk
      cases hk
    · have hk : X.env.scope.names.lookup x = some .free := hk
      rw [hl2] at hk
      cases hk
/-- what was laid behind -/
theorem inv_more {s' : Shared} (J : Inv X pins σ H sI) (k : ∀ b o, sI.heap.get? b = some o → s'.heap.get? b = some o) (os : s'.os = sI.os) (ag : AllBare s'.gens) : Inv X pins σ H s' :=
  J.landed (B := PySem.W.hideAll sI.heap (frs X.stack)) (fun b o e hb => PySem.W.hideAll_get _ e hb) (fun b o e => k b o (PySem.W.of_hideAll _ e)) (Heap.UpToSlots.of_keeps k) os ag
end
/-! ### raise .. from e -/
/-- the heap behind it: field 3 tells the cause, field 4 is True -/
def causeOf (h : Heap) (a : Addr) (c : Value) : Heap := (h.update a (Obj.mapFields (·.setIfInBounds 3 c))).update a (Obj.mapFields (·.setIfInBounds 4 (.bool true)))
theorem causeOf_at {h : Heap} {a : Addr} {c : Value} {oe : Obj} {vs : Array Value} (ha : h.get? a = some oe) (hd : oe.data = .fields vs) :
    (causeOf h a c).get? a = some ((oe.mapFields (·.setIfInBounds 3 c)).mapFields (·.setIfInBounds 4 (.bool true))) ∧ ((oe.mapFields (·.setIfInBounds 3 c)).mapFields (·.setIfInBounds 4 (.bool true))).data = .fields ((vs.setIfInBounds 3 c).setIfInBounds 4 (.bool true)) := by
  have d3 := Obj.data_mapFields hd (·.setIfInBounds 3 c)
  have a3 := Heap.get?_update_self (Obj.mapFields (·.setIfInBounds 3 c)) ha (Obj.isFreed_of_fields d3)
  have d4 := Obj.data_mapFields d3 (·.setIfInBounds 4 (.bool true))
  exact ⟨Heap.get?_update_self (Obj.mapFields (·.setIfInBounds 4 (.bool true))) a3 (Obj.isFreed_of_fields d4), d4⟩
theorem causeOf_ne {h : Heap} {a b : Addr} {c : Value} (hne : a ≠ b) : (causeOf h a c).get? b = h.get? b := by
  unfold causeOf
  rw [Heap.get?_update_other _ _ hne, Heap.get?_update_other _ _ hne]
section
variable {prog : Program} {w : World} {A : Around} {E : Value → Shared → Prop}
theorem not_type {s : Shared} {a : Addr} {oe : Obj} {vs : Array Value} (ha : s.heap.get? a = some oe) (hd : oe.data = .fields vs) {Q : Bool → Shared → Prop} (q : Q false s) : wpAny (model prog w) A (isType (.ref a)) Q E s := by
  simp only [isType, loadHead]
  refine wpAny_bind (wpAny_loadPart ha ?_)
  rw [hd]
  exact wpAny_pure q
/-- an exception's object, handed to raise -/
theorem from_value {s : Shared} {a : Addr} {oe : Obj} {vs : Array Value} {msg : String} (ha : s.heap.get? a = some oe) (hd : oe.data = .fields vs) (L : PySem.W.Looks (model prog w) s.heap (isSubtype oe.cls (.type "BaseException")) true) {Q : Value → Shared → Prop} (q : Q (.ref a) s) :
    wpAny (model prog w) A (excFromValue (.ref a) msg) Q E s := by
  have LT : PySem.W.Looks (model prog w) s.heap (typeOf (.ref a)) oe.cls := fun A Q E s k q => wpAny_typeOf_ref (k _ _ ha) q
  have LI : PySem.W.Looks (model prog w) s.heap (isInstance (.ref a) (.type "BaseException")) true := LT.andThen L
  unfold excFromValue isExcClass
  refine wpAny_bind (wpAny_bind (not_type ha hd ?_))
  simp only [Bool.false_eq_true, if_false]
  refine wpAny_pure ?_
  simp only [Bool.false_eq_true, if_false]
  refine wpAny_bind (LI.here ?_)
  simp only [if_true]
  exact wpAny_pure q
theorem raise_from {env : Env} {s : Shared} {x c : Sem Value} {Q : Flow → Shared → Prop} {x1 : Addr}
    (h : wpAny (model prog w) A x (fun v s₁ => ∃ a oe vs o1 v1, v = .ref a ∧ s₁.heap.get? a = some oe ∧ oe.data = .fields vs ∧ vs[1]? = some .none ∧ 4 < vs.size ∧ x1 ≠ a ∧ A.handled = some (.ref x1) ∧ s₁.heap.get? x1 = some o1 ∧ o1.data = .fields v1 ∧ v1[2]? = some .none ∧
      PySem.W.Looks (model prog w) s₁.heap (isSubtype oe.cls (.type "BaseException")) true ∧ PySem.W.Looks (model prog w) s₁.heap (isSubtype o1.cls (.type "BaseException")) true ∧ PySem.W.Looks (model prog w) (causeOf s₁.heap a (.ref x1)) (typeOf oe.cls) (.type "type") ∧
      (∀ Q' : Value → Shared → Prop, Q' (.ref x1) s₁ → wpAny (model prog w) A c Q' E s₁) ∧ E (.ref a) { s₁ with heap := (causeOf s₁.heap a (.ref x1)).update a (Obj.mapFields (·.setIfInBounds 2 (.ref x1))) }) E s) :
    wpAny (model prog w) A (raiseStmt env (some x) (some c)) Q E s := by
  unfold raiseStmt
  dsimp only
  refine wpAny_bind (wpAny_mono h (fun v s₁ h₁ => ?_) fun _ _ x => x)
  obtain ⟨a, oe, vs, o1, v1, rfl, ha, hd, h1, hi, hne, hh, g1, d1, c1, L1, L2, L3, hcs, hE⟩ := h₁
  have hd3 := Obj.data_mapFields hd (·.setIfInBounds 3 (.ref x1))
  have ha3 := Heap.get?_update_self (Obj.mapFields (·.setIfInBounds 3 (.ref x1))) ha (Obj.isFreed_of_fields hd3)
  obtain ⟨ha4, hd4⟩ := causeOf_at (c := .ref x1) ha hd
  have s3 : 3 < vs.size := by omega
  have s4 : 4 < (vs.setIfInBounds 3 (Value.ref x1)).size := by rw [set_size]; exact hi
  have s2 : 2 < ((vs.setIfInBounds 3 (Value.ref x1)).setIfInBounds 4 (Value.bool true)).size := by rw [set_size, set_size]; omega
  have h14 : ((vs.setIfInBounds 3 (Value.ref x1)).setIfInBounds 4 (Value.bool true))[1]? = some Value.none := set_other (by decide) (set_other (by decide) h1)
  have hcls4 : ((oe.mapFields (·.setIfInBounds 3 (.ref x1))).mapFields (·.setIfInBounds 4 (.bool true))).cls = oe.cls := by rw [Obj.cls_mapFields, Obj.cls_mapFields]
  have LT4 : PySem.W.Looks (model prog w) (causeOf s₁.heap a (.ref x1)) (typeOf (.ref a)) oe.cls := fun A Q E s k q => wpAny_typeOf_ref (k _ _ ha4) (by rw [hcls4]; exact q)
  have hot4 : HotAt A x1 (causeOf s₁.heap a (.ref x1)) := ⟨hh, o1, v1, by rw [causeOf_ne (Ne.symm hne)]; exact g1, d1, c1⟩
  have rest : wpAny (model prog w) A (do
      let b ← isType (.ref a)
      if b = true then do
        let e ← holding [.ref a] (raisedFor (.ref a) (.ref a))
        setFlight e none
        raiseNew e
      else do
        let e ← raisedInstance (.ref a)
        setFlight e none
        raiseNew e : Sem Flow) Q E { s₁ with heap := causeOf s₁.heap a (.ref x1) } := by
    refine wpAny_bind (not_type (s := { s₁ with heap := causeOf s₁.heap a (.ref x1) }) ha4 hd4 ?_)
    simp only [Bool.false_eq_true, if_false]
    unfold raisedInstance
    refine wpAny_bind (wpAny_bind (LT4.here (wpAny_bind (L3.here ?_))))
    rw [if_pos (beq_self_eq_true _)]
    refine wpAny_pure ?_
    unfold setFlight
    refine wpAny_bind (wpAny_bind (wpAny_field ha4 hd4 h14 ?_))
    rw [if_neg (by decide)]
    refine wpAny_pure ?_
    exact raiseNew_hot hot4 hne ha4 hd4 s2 hE
  refine wpAny_bind (wpAny_holding (hcs _ (wpAny_bind (wpAny_pure ?_))))
  dsimp only
  refine wpAny_bind (wpAny_holding (from_value ha hd L1 ?_))
  rw [if_neg (show ¬ ((Value.ref x1 == Value.none) = true) from by simp)]
  first
  | refine wpAny_bind (wpAny_holding (from_value g1 d1 L2 ?_))
  | refine wpAny_bind (wpAny_bind (wpAny_holding (from_value g1 d1 L2 ?_)))
  first
  | refine wpAny_bind (wpAny_setField ha hd s3 (wpAny_bind (wpAny_setField ha3 hd3 s4 ?_)))
  | refine wpAny_bind (wpAny_bind (wpAny_setField ha hd s3 (wpAny_bind (wpAny_setField ha3 hd3 s4 ?_))))
  | refine wpAny_bind (wpAny_setField ha hd s3 (wpAny_setField ha3 hd3 s4 ?_))
  first
  | exact rest
  | (dsimp only; exact rest)
  | (refine wpAny_pure ?_; exact rest)
end
/-- raise X(..) from n, n the exception that is handled -/
theorem ps_raiseHF {X : Cx} {W : WX} {e : Expr} {t : L2.St → Hp → XK → Prop} {i : Nat} {n : Str} {q : Addr × Obj} {cls0 : Value} {cpos pos : Pos} (hot : Hot1 X.A q) (hq : q ∈ X.pn) (hc0 : q.2.cls = cls0) (tk : L2.Takes X W) (he : PMk5 X e t) (hN : X.N[i]? = some n) (hl : X.env.kindOf n = some .local)
    (hdb : (n == ("__debug__" : Str)) = false := by decide) :
    PS X (.Raise (some e) (some (.Name n cpos)) pos) (fun _ σ H => σ[i]? = some (some (.ref q.1)) ∧ PySem.W.subIn X.K cls0 (.type "BaseException") = some true ∧ t σ H fun cls d H' => W cls d σ H') := by
  refine ⟨fun pins s σ H D I h => ?_⟩
  obtain ⟨hs, hsub, h⟩ := h
  obtain ⟨hh, v1, e1, c1⟩ := hot
  show wpAny _ _ (do standAt pos; raiseStmt X.env (some (do let v ← eval e X.env; standAt pos; pure v)) (some (do let v ← eval (.Name n cpos) X.env; standAt pos; pure v))) _ _ _
  refine wpAny_bind (wpAny_standAt (raise_from (x1 := q.1) (wpAny_bind (wpAny_mono (he pins s σ H _ I h) (fun u s1 hu => wpAny_bind (wpAny_standAt (wpAny_pure ?_))) fun _ _ x => x))))
  obtain ⟨⟨a, oe, vs, sI, H', cls, d, rfl, J, k, hne, ha, hz, hd, h1, na, os, ag, r, w⟩, h5⟩ := hu
  have hi : 4 < vs.size := h5 a oe vs rfl ha hd
  have J1 := inv_more J k os ag
  have k4 : ∀ b u, sI.heap.get? b = some u → (causeOf s1.heap a (.ref q.1)).get? b = some u := fun b u z => by
    have nab : a ≠ b := fun y => by
      rw [← y, hne] at z
      cases z
    rw [causeOf_ne nab]
    exact k b u z
  have KI := J.kIn
  obtain ⟨r1, _⟩ := r (model X.prog X.w) s1.heap (KI.keeps k)
  obtain ⟨_, r2⟩ := r (model X.prog X.w) (causeOf s1.heap a (.ref q.1)) (KI.keeps k4)
  have P1 := (J.pin q (List.mem_append_left _ hq)).1
  have nap : q.1 ≠ a := fun z => by
    rw [z, hne] at P1
    cases P1
  obtain ⟨ha4, hd4⟩ := causeOf_at (c := .ref q.1) ha hd
  have h12 : (((vs.setIfInBounds 3 (Value.ref q.1)).setIfInBounds 4 (Value.bool true)).setIfInBounds 2 (Value.ref q.1))[1]? = some Value.none := set_other (by decide) (set_other (by decide) (set_other (by decide) h1))
  refine ⟨a, oe, vs, q.2, v1, rfl, ha, hd, h1, hi, nap, hh, k _ _ P1, e1, c1, by rw [hz.1]; exact r1, by rw [hc0]; exact PySem.W.looks_subIn (KI.keeps k) hsub, by rw [hz.1]; exact r2, fun Q' q' => wpAny_bind (ld_loc J1 hN hl hs (fun u ru => wpAny_bind (wpAny_standAt (wpAny_pure (by
    obtain rfl : u = Value.ref q.1 := ru
    exact q')))) hdb), tk _ _ (XE.new J (fun b u z => ?_) hne (Heap.get?_update_self _ ha4 (Obj.isFreed_of_fields (Obj.data_mapFields hd4 _)))
    ⟨by rw [Obj.cls_mapFields, Obj.cls_mapFields, Obj.cls_mapFields]; exact hz.1, by rw [HandSPX.dict_mapFields, HandSPX.dict_mapFields, HandSPX.dict_mapFields]; exact hz.2.1⟩ (Obj.data_mapFields hd4 _) h12 na os ag w)⟩
  have nab : a ≠ b := fun y => by
    rw [← y, hne] at z
    cases z
  show ((causeOf s1.heap a (.ref q.1)).update a (Obj.mapFields (·.setIfInBounds 2 (.ref q.1)))).get? b = some u
  rw [Heap.get?_update_other _ _ nab]
  exact k4 b u z
end CK
set_option maxHeartbeats 4000000
/-! try: .. except X as n: a suite that raises out -/
namespace CK
open PySem PySem.Spec PyProof.Rows L2 L2H HotX
theorem frames_on {h h' B : Heap} : ∀ {l : List Env}, h.FunFrames B l → (∀ b o, h.get? b = some o → (∀ vs, o.data ≠ .fields vs) → ∃ o', h'.get? b = some o' ∧ ∀ vs, o'.data ≠ .fields vs) → h'.FunFrames B l
  | [], _, _ => trivial
  | env :: l, ⟨k, ⟨L, o, e1, e2, e3, e4⟩, r⟩, f => ⟨k, (let ⟨o', a, b⟩ := f L o e3 e4; ⟨L, o', e1, e2, a, b⟩), frames_on r f⟩
/-- the locals' table changes -/
theorem held_on {h h' B : Heap} {l : List Env} {a L : Addr} {Z : Obj → Prop} {m : Str → Option Value} (x : HandSPX.HeldZ B l a Z L h) (hs : Heap.SameBut L h h') (hL : L ∈ frs l) (hn : h'.Ns L m) : HandSPX.HeldZ B l a Z L h' := by
  obtain ⟨k1, k2, k3, oe, vs, T, oT, ts, he, hz, hd, h1, hnT, hTe, hT, hdT, h3⟩ := x
  obtain ⟨bn, oL, gL, nL⟩ := k3.mem hL
  have other : ∀ b, b ≠ L → h'.get? b = h.get? b := hs.2
  have na : a ≠ L := fun z => by
    rw [z, gL] at he
    cases he
    exact nL _ hd
  have nT : T ≠ L := fun z => by
    rw [z, gL] at hT
    cases hT
    exact nL _ hdT
  refine ⟨fun b o e => ?_, k2, frames_on k3 fun b o e n => ?_, oe, vs, T, oT, ts, by rw [other a na]; exact he, hz, hd, h1, hnT, hTe, by rw [other T nT]; exact hT, hdT, h3⟩
  · have nb : b ≠ L := fun z => by rw [z, bn] at e; cases e
    rw [other b nb]
    exact k1 b o e
  · by_cases hb : b = L
    · subst hb
      obtain ⟨o', es, ep, e1, e2, _⟩ := hn
      exact ⟨o', e1, fun vs z => by rw [e2] at z; cases z⟩
    · exact ⟨o, by rw [other b hb]; exact e, n⟩
section
variable {X : Cx} {pins : List (Addr × Obj)} {σ : L2.St} {H : Hp} {s sI : Shared} {i : Nat} {n : Str}
/-- the state with the name gone, the exception not in it -/
theorem inv_gone {s1 : Shared} {h' : Heap} {v0 : Option Value} {m1 : Str → Option Value} (J : Inv X pins σ H sI) (J1 : Inv X pins σ H s1) (hN : X.N.Nodup) (hi : X.N[i]? = some n) (hl : X.env.kindOf n = some .local)
    (hm : ∀ (j : Nat) (y : Str) (v : V), X.N[j]? = some y → σ[j]? = some (some v) → Vis X.env.scope y → ∃ u, RelV v u ∧ Look X.env s1.heap m1 y u) (hn' : h'.Ns X.env.locals (fun x => if x = n then v0 else m1 x)) :
    ∃ G : Heap, Heap.SameBut X.env.locals sI.heap G ∧ G.get? X.env.locals = h'.get? X.env.locals ∧ Inv X pins (σ.set i none) H { sI with heap := G } := by
  obtain ⟨m, hn, hlk⟩ := id J.loc
  obtain ⟨oL, esL, epL, hoL, hdL, hsL, hfL⟩ := id hn'
  obtain ⟨oI, _, _, hoI, _⟩ := id hn
  have hs : Heap.SameBut X.env.locals sI.heap (sI.heap.update X.env.locals fun _ => oL) := Heap.SameBut.update _ _ _
  have hG : (sI.heap.update X.env.locals fun _ => oL).get? X.env.locals = some oL := Heap.get?_update_self (fun _ => oL) hoI (Obj.isFreed_of_dict hdL)
  refine ⟨_, hs, by rw [hG, hoL], ?_⟩
  have neL : ∀ b o, X.s_0.heap.get? b = some o → b ≠ X.env.locals := fun b o e => Nat.ne_of_lt (Nat.lt_of_lt_of_le (Heap.lt_size e) J.ok.above)
  refine ⟨J.ok, J.os, J.bare, ⟨fun b o e n hb hx => ?_, fun b o e n hb hx => ?_, J.base.free, fun b o e hx => ?_, J.base.tups, J.base.frzs, J.base.tbls⟩, ⟨_, ⟨oL, esL, epL, hG, hdL, hsL, hfL⟩, fun j y v' e1 e2 e3 => ?_⟩, fun y c e => ?_, J.free, J.freeC, fun p hp => ?_, fun b ob e => ?_, by simpa using J.len⟩
  · exact (hs.2 b (neL b o e)).trans (J.base.keep b o e n hb hx)
  · obtain ⟨sl, e1⟩ := J.base.slot b o e n hb hx
    exact ⟨sl, (hs.2 b (neL b o e)).trans e1⟩
  · obtain ⟨o', e1⟩ := J.base.there b o e hx
    exact ⟨o', (hs.2 b (neL b o e)).trans e1⟩
  · by_cases hj : j = i
    · subst hj
      by_cases hlt : j < σ.length
      · rw [List.getElem?_set_self hlt] at e2; cases e2
      · rw [List.getElem?_eq_none (by simpa using hlt)] at e2; cases e2
    · rw [List.getElem?_set_ne (Ne.symm hj)] at e2
      obtain ⟨u1, r1, q1⟩ := hm j y v' e1 e2 e3
      rcases q1 with ⟨k, e⟩ | ⟨k, c1, ec1, z1⟩
      · have ny : y ≠ n := fun e => hj (nodup_ix hN e1 (e ▸ hi))
        exact ⟨u1, r1, .inl ⟨k, (if_neg ny).trans e⟩⟩
      · obtain ⟨u', r', q⟩ := hlk j y v' e1 e2 e3
        rcases q with ⟨k', e⟩ | ⟨k', c, e, z⟩
        · exfalso
          have k' : X.env.scope.names.lookup y = some .local := k'
          rcases k with k | k
          · have k : X.env.scope.names.lookup y = some .cell := k
            rw [k] at k'
            cases k'
          · have k : X.env.scope.names.lookup y = some .free := k
            rw [k] at k'
            cases k'
        · exact ⟨u', r', .inr ⟨k', c, e, z.sameBut hs (J.cne y c e)⟩⟩
  · obtain ⟨w', z⟩ := J.cell y c e
    exact ⟨w', z.sameBut hs (J.cne y c e)⟩
  · obtain ⟨e, n, ne, nf, d⟩ := J.pin p hp
    exact ⟨(hs.2 p.1 ne).trans e, n, ne, nf, d⟩
  · refine (J.hok b ob e).stay (fun c w' hc q => (hs.2 c ?_).trans q) (fun _ q => q) fun _ _ q => q
    intro z
    subst z
    rcases hc with hc | hc
    · rw [← hc, J.free] at e; cases e
    · rw [J.free] at hc; cases hc
end
/-- the context of an except suite that may raise, with its own wish -/
abbrev suiteY (X : Cx) (a : Addr) (pn : List (Addr × Obj)) (xe : Value → Shared → Prop) : Cx := { X with A := X.A.mark (some (.ref a)), calm := false, pn := pn, xe := xe }
section
variable {X : Cx} {pins : List (Addr × Obj)} {σ : L2.St} {H : Hp} {s : Shared}
theorem suiteY_of {a : Addr} {pn pn' : List (Addr × Obj)} {xe : Value → Shared → Prop} (I : Inv (X.suite a pn) pn' σ H s) : Inv (suiteY X a pn xe) pn' σ H s := Inv.unwish (X := suiteY X a pn xe) (E := fun _ _ => False) I
theorem unsuiteY {a : Addr} {q : Addr × Obj} {pn' : List (Addr × Obj)} {xe : Value → Shared → Prop} (I : Inv (suiteY X a (q :: (X.pn ++ pins)) xe) pn' σ H s) (ok : X.Ok) : Inv X pins σ H s :=
  Inv.unsuite (X := X) (a := a) (q := q) (pn' := pn') (show Inv (X.suite a (q :: (X.pn ++ pins))) pn' σ H s from I.wish fun _ _ => False) ok
/-- an exception that leaves the suite: it is noted, the name goes, it flies on -/
theorem as_out {n : Str} {i : Nat} {pos : Pos} {a : Addr} {q : Addr × Obj} {xe : Value → Shared → Prop} {E : XK} {u : Value} (ok : X.Ok) (hs : X.stack = X.env :: X.outer) (hf : X.env.frame = some X.env.locals) (hN : X.N.Nodup) (hi : X.N[i]? = some n) (hln : X.env.kindOf n = some .local)
    (hpa : ∀ hd : Option Value, PassesOwnAt (model X.prog X.w) (X.A.mark hd) X.A X.env X.xe) (tk : L2.Takes X (fun cls d _ H => E cls d H)) (x : L2.XE (suiteY X a (q :: (X.pn ++ pins)) xe) (fun cls d _ H => E cls d H) u s) :
    AsSuiteRaised (model X.prog X.w) (X.A.mark (some (.ref a))) X.env n pos (notedBy (model X.prog X.w) (X.A.mark (some (.ref a))) X.env (cameBackBy (model X.prog X.w) X.A X.env X.xe)) u s := by
  obtain ⟨a2, B, sI, pn2, σ2, H2, cls2, d2, rfl, I2, nb, up, sky, na, os, ag, w⟩ := x
  have J : Inv X pins σ2 H2 sI := unsuiteY I2 ok
  have hfr : (X.A.mark (some (.ref a))).frames = some (X.env :: X.outer) := by
    have := ok.frames
    rw [hs] at this
    exact this
  have nb : ∀ b o, sI.heap.get? b = some o → b ∉ frs X.stack → B.get? b = some o := nb
  have sky : L2.Sky B (X.env :: X.outer) a2 (Zc cls2 d2) X.env.locals s.heap := by rw [← hs]; exact sky
  have hLm : X.env.locals ∈ frs (X.env :: X.outer) := List.mem_filterMap.mpr ⟨X.env, List.mem_cons_self, hf⟩
  have fin : ∀ h1, HandSPX.HeldZ B (X.env :: X.outer) a2 (Zc cls2 d2) X.env.locals h1 → s.heap.UpToSlots h1 → wpAny (model X.prog X.w) (X.A.mark (some (.ref a))) (do bindName X.env n .none; unbindBehindTheSuite X.env n pos)
      (fun _ s₂ => wpAny (model X.prog X.w) (X.A.mark (some (.ref a))) (PySem.passOn "try.except-as" (.ref a2) X.env : Sem Flow) (fun _ _ => False) (notedBy (model X.prog X.w) (X.A.mark (some (.ref a))) X.env (cameBackBy (model X.prog X.w) X.A X.env X.xe)) s₂)
      (fun y s₂ => wpAny (model X.prog X.w) (X.A.mark (some (.ref a))) (setFlight (.ref a2) none) (fun _ s₃ => notedBy (model X.prog X.w) (X.A.mark (some (.ref a))) X.env (cameBackBy (model X.prog X.w) X.A X.env X.xe) y s₃) (notedBy (model X.prog X.w) (X.A.mark (some (.ref a))) X.env (cameBackBy (model X.prog X.w) X.A X.env X.xe)) s₂) { s with heap := h1 } := by
    intro h1 hh up1
    have J1 : Inv X pins σ2 H2 { s with heap := h1 } := J.landed nb hh.1 (up.trans up1) os ag
    obtain ⟨m1, hn1, hlk1⟩ := id J1.loc
    have hcls : (X.env.scope.kind == .class || (X.env.scope.kind == .module && X.env.locals != X.env.globals)) = false := by rw [ok.kind]; rfl
    refine wpAny_nameGoes_keeps hln hn1 hcls fun h' v hn' hsb => ?_
    obtain ⟨G, g1, g2, JG⟩ := inv_gone J J1 hN hi hln hlk1 hn'
    have hh' := held_on hh hsb hLm hn'
    obtain ⟨k1, k2, k3, oe, vs, T, oT, ts, he, hz, hd, e1, r⟩ := id hh'
    unfold PySem.passOn
    refine wpAny_bind (wpAny_field he hd e1 ?_)
    rw [if_neg (show ¬ ((Value.ref T == Value.none) = true) from by simp)]
    have fly : wpAny (model X.prog X.w) (X.A.mark (some (.ref a))) (setFlight (.ref a2) X.env.frame) (fun _ s4 => wpAny (model X.prog X.w) (X.A.mark (some (.ref a))) (throw (.ref a2) : Sem Flow) (fun _ _ => False) (notedBy (model X.prog X.w) (X.A.mark (some (.ref a))) X.env (cameBackBy (model X.prog X.w) X.A X.env X.xe)) s4)
        (notedBy (model X.prog X.w) (X.A.mark (some (.ref a))) X.env (cameBackBy (model X.prog X.w) X.A X.env X.xe)) { s with heap := h', toks := s.toks + 1 } := by
      rw [hf]
      refine HandSPX.setFlight_onZ (s := { s with heap := h', toks := s.toks + 1 }) hh' fun h4 hh4 up4 => wpAny_throw (hpa (some (.ref a)) _ _ (tk _ _ ?_))
      refine ⟨a2, B, { sI with heap := G }, pins, _, H2, cls2, d2, rfl, JG, fun b o e hb => ?_, fun b o e nf => ?_, .inr (.inr (by rw [hs]; exact hh4)), na, os, ag, w⟩
      · have ne : b ≠ X.env.locals := fun z => hb (by rw [hs, z]; exact hLm)
        have e : G.get? b = some o := e
        rw [g1.2 b ne] at e
        exact nb b o e hb
      · have e : G.get? b = some o := e
        by_cases hb : b = X.env.locals
        · subst hb
          rw [g2] at e
          exact up4 _ o e nf
        · rw [g1.2 b hb] at e
          obtain ⟨sl, q1⟩ := (up.trans up1) b o e nf
          have q1 : h1.get? b = some { o with slots := sl } := q1
          rw [← hsb.2 b hb] at q1
          obtain ⟨sl2, q2⟩ := up4 b _ q1 nf
          exact ⟨sl2, q2⟩
    first
      | exact wpAny_bind (wpAny_pure (wpAny_bind fly))
      | exact wpAny_bind fly
  show wpAny _ _ (noteFrame (.ref a2) X.env) _ _ s
  rcases sky with ⟨hB, hn, hl, oe, vs, he, hz, hd, h1⟩ | fl | hh
  · exact HandSPX.look_newZ Zc.steady hfr hl hf he hB hn hd h1 hz fin
  · exact HandSPX.looks_onZ Zc.steady hfr hf fl fin
  · exact HandSPX.againZ hf hh.2.2.2 (fin s.heap hh (Heap.UpToSlots.refl _))
end
/-- what the body's exceptions are wished: of the class, caught by the name in slot i -/
def wAsY (K : PySem.W.Frag) (c : Value) (i : Nat) (ts : Addr → Value → Option Addr → TS) (D : Ends) : WX := fun cls d σ H =>
  PySem.W.exmOne K cls c = some true ∧ ∀ a, H a = none → ts a cls d { nx := fun σ' H' => D.nx (σ'.set i none) H', rt := D.rt, bk := fun σ' H' => D.bk (σ'.set i none) H', ct := fun σ' H' => D.ct (σ'.set i none) H' } (σ.set i (some (.ref a))) H
section
variable {X : Cx} {x n : Str} {c : Value} {i : Nat} {body suite : List Stmt} {b₀ : Stmt} {np pos pos' : Pos} {tb : WX → TS} {ts : Addr → Value → Option Addr → TS} {E : XK}
theorem ps_try_asY (hs : X.stack = X.env :: X.outer) (hf : X.env.frame = some X.env.locals) (hN : X.N.Nodup) (hi : X.N[i]? = some n) (hln : X.env.kindOf n = some .local) (hc : Names X x c) (hpa : ∀ hd : Option Value, PassesOwnAt (model X.prog X.w) (X.A.mark hd) X.A X.env X.xe)
    (tk : L2.Takes X (fun cls d _ H => E cls d H))
    (hb : ∀ (W : WX) (pn : List (Addr × Obj)) (xe : Value → Shared → Prop), L2N.Takes (X.tr pn xe) W → PassesOwn (model X.prog X.w) X.A X.env xe → PSs (X.tr pn xe) body (tb W))
    (hsu : ∀ (a : Addr) (oe : Obj) (cls : Value) (d : Option Addr) (pn : List (Addr × Obj)) (xe : Value → Shared → Prop), L2N.Zn cls d oe → L2.Takes (suiteY X a ((a, oe) :: pn) xe) (fun cls d _ H => E cls d H) → Hot1 (X.A.mark (some (.ref a))) (a, oe) → PSs (suiteY X a ((a, oe) :: pn) xe) (b₀ :: suite) (ts a cls d)) :
    PS X (.Try body [.ExceptHandler (some (.Name x np)) (some n) (b₀ :: suite) pos'] [] [] pos) (fun D σ H => tb (wAsY X.K c i ts D) D σ H) := by
  refine ⟨fun pins s σ H D I h => ?_⟩
  have ok := I.ok
  have hfr : X.A.frames = some (X.env :: X.outer) := by rw [ok.frames, hs]
  have hloc : Loc X.env.scope n := .inl hln
  refine wpAny_Try_except ?_
  refine wpAny_mono ((hb (wAsY X.K c i ts D) (X.pn ++ pins) (fun e s₁ => wpAny (model X.prog X.w) X.A (noteFrame e X.env) (fun _ s₂ => wpAny (model X.prog X.w) X.A (setFlight e none) (fun _ s₃ =>
    wpAny (model X.prog X.w) X.A (handleBy e X.env [.ExceptHandler (some (.Name x np)) (some n) (b₀ :: suite) pos']) (SP X pins D) X.xe s₃) X.xe s₂) X.xe s₁) (fun u s' xx => ?_) PassesOwn.looking).run [] s σ H D (I.toTry _) h) (fun f s1 hsp => ?_) (fun e s1 he => he)
  · obtain ⟨a, B, sI, pins', σ', H', cls, d, rfl, J', nb, up, sky, na, os, ag, hb1, hyes⟩ := xx
    have J : Inv X pins σ' H' sI := J'.ofTry ok
    have sky' : L2.Sky B (X.env :: X.outer) a (L2N.Zn cls d) X.env.locals s'.heap := by rw [← hs]; exact sky
    show wpAny (model X.prog X.w) X.A (noteFrame (.ref a) X.env) _ _ _
    refine L2N.Sky.land L2N.Zn.steady hfr hf sky' fun h3 fl3 up3 => ?_
    have J3 : Inv X pins σ' H' { s' with heap := h3 } := J.landed nb fl3.1 (up.trans up3) os ag
    obtain ⟨oe3, vs3, he3, hz3, hd3⟩ := fl3.there
    have nfr : a ∉ frs (X.env :: X.outer) := fun hm => by
      obtain ⟨_, o', e', hnf⟩ := fl3.2.2.1.mem hm
      rw [he3] at e'
      cases e'
      exact hnf _ hd3
    have nL : a ≠ X.env.locals := fun z => nfr (List.mem_filterMap.mpr ⟨X.env, List.mem_cons_self, by rw [hf, z]⟩)
    have nF : a ∉ X.fs := fun hm => by
      obtain ⟨e, he, q⟩ := List.mem_filterMap.mp hm
      exact nfr (List.mem_filterMap.mpr ⟨e, List.mem_cons_of_mem _ he, q⟩)
    have S3 := J3.suite he3 hd3 na nL nF
    refine wpAny_handleBy_cons (codeAny_handlers_test ?_) (by intro q; cases q)
    have LT : PySem.W.Looks (model X.prog X.w) h3 (typeOf (.ref a)) cls := fun A Q E s k q => wpAny_typeOf_ref (k _ _ he3) (by rw [hz3.1]; exact q)
    have LM := PySem.W.exm_one (M := model X.prog X.w) (J3.kIn) LT hb1
    have test : ∀ {Q : Value → Shared → Prop} {E : Value → Shared → Prop}, Q c { s' with heap := h3 } → wpAny (model X.prog X.w) (X.A.mark (some (.ref a))) (eval (.Name x np) X.env) Q E { s' with heap := h3 } := fun {Q E} q => by
      obtain ⟨hg, hdbg, hm | ⟨hm, hv, hnn⟩⟩ := hc
      · exact ld_glob (X := X.suite a ((a, oe3) :: (X.pn ++ pins))) S3 hg hm q hdbg
      · exact ld_blt (X := X.suite a ((a, oe3) :: (X.pn ++ pins))) S3 hg hm hv q hnn hdbg
    refine test (LM.here ?_)
    refine codeAny_handlers_suite_as ?_
    refine HandSPX.lands_againZ fl3 fun h4 fl4 up4 => ?_
    have J4 : Inv X pins σ' H' { s' with heap := h4 } := J.landed nb fl4.1 ((up.trans up3).trans up4) os ag
    obtain ⟨oe4, vs4, he4, hz4, hd4⟩ := fl4.there
    have S4 := J4.suite he4 hd4 na nL nF
    refine store_ok (X := X.suite a ((a, oe4) :: (X.pn ++ pins))) (v := .ref a) S4 hN hi hloc rfl (fun s5 S5 => ?_) (.inr hln)
    refine wpAny_mono ((hsu a oe4 cls d (X.pn ++ pins) (fun y s4 => AsSuiteRaised (model X.prog X.w) (X.A.mark (some (.ref a))) X.env n pos' (notedBy (model X.prog X.w) (X.A.mark (some (.ref a))) X.env (cameBackBy (model X.prog X.w) X.A X.env X.xe)) y s4) hz4
      (fun u4 s4 x4 => as_out (i := i) ok hs hf hN hi hln hpa tk x4) ⟨rfl, vs4, hd4, hz4.2.2 vs4 hd4⟩).run [] s5 _ H' _ (suiteY_of S5) (hyes a na)) (fun f s6 hsp => ?_) (fun e6 s6 z => z)
    have end_ : ∀ {σ6 : L2.St} {H6 : Hp} {Q : Shared → Prop}, Inv X pins σ6 H6 s6 → (∀ s7, Inv X pins (σ6.set i none) H6 s7 → Q s7) →
        wpAny (model X.prog X.w) X.A (do bindName X.env n .none; unbindBehindTheSuite X.env n pos') (fun _ s7 => Q s7) X.xe s6 := fun {σ6 H6 Q} S6 hq => gone_ok S6 hN hi hln hq
    cases f with
    | next =>
      obtain ⟨σ6, H6, S6, q6⟩ := hsp
      exact end_ (unsuiteY S6 ok) fun s7 J7 => ⟨_, _, J7, q6⟩
    | brk =>
      obtain ⟨σ6, H6, S6, q6⟩ := hsp
      exact end_ (unsuiteY S6 ok) fun s7 J7 => ⟨_, _, J7, q6⟩
    | cont =>
      obtain ⟨σ6, H6, S6, q6⟩ := hsp
      exact end_ (unsuiteY S6 ok) fun s7 J7 => ⟨_, _, J7, q6⟩
    | ret u =>
      obtain ⟨v6, σ6, H6, S6, r6, q6⟩ := hsp
      exact end_ (unsuiteY S6 ok) fun s7 J7 => ⟨_, _, _, J7, r6, q6⟩
  · cases f with
    | next =>
      obtain ⟨σ', H', J', q⟩ := hsp
      exact wpAny_execs_nil ⟨σ', H', J'.ofTry ok, q⟩
    | brk =>
      obtain ⟨σ', H', J', q⟩ := hsp
      exact ⟨σ', H', J'.ofTry ok, q⟩
    | cont =>
      obtain ⟨σ', H', J', q⟩ := hsp
      exact ⟨σ', H', J'.ofTry ok, q⟩
    | ret u =>
      obtain ⟨v, σ', H', J', r, q⟩ := hsp
      exact ⟨v, σ', H', J'.ofTry ok, r, q⟩
end
end CK
set_option maxHeartbeats 4000000
/-! an own exception's class called with keywords alone -/
namespace CK
open PySem PySem.HandSPX
section
variable {M : Model} {A : Around} {E : Value → Shared → Prop} {h : Heap} {g : Array GenState} {d : Drawn} {t : Nat} {os : OsState}
variable {nm q : Str} {C N : Addr} {bs bm bmB : List Value} {hdct : Bool} {sn : List Str} {sub : List Value} {ab : Bool} {col : Option Bool} {dd : Option Addr} {k0 k1 k2 k3 k5 : Option Value} {B newId initId : String} {kw : List (Str × Value)}
theorem check_kw (F : ExcBaseFacts B newId initId bmB) (hT : ∀ X : String, bm.contains (.type X) = bmB.contains (.type X)) {Q : Unit → Shared → Prop}
    (hC : h.get? C = some (excClassObj nm q C N bs bm hdct sn sub ab col dd k0 k1 k2 k3 k5 newId)) (hq : Q () ⟨h, g, d, t, os⟩) : wpAny M A (checkBuiltinCall newId ⟨[.ref C], kw⟩) Q E ⟨h, g, d, t, os⟩ := by
  have hB : (Value.ref C :: bm).contains (.type B) = true := by rw [List.contains_cons, hT, F.hasB, Bool.or_true]
  have hstar := F.noStar
  simp only [checkBuiltinCall, F.newKind, F.newSplit, F.newRow]
  repeat (first | refine wpAny_loadPart_at hC ?_ | (refine wpAny_isSubtype_exc hC ?_; rw [hB]) | refine wpAny_staticBase_exc hC ?_ | refine wpAny_madeBy_exc hC ?_ | simp only [bne_self_eq_false, Bool.false_eq_true, if_false] | wp_step)
  exact hq
end
section
variable {prog : Program} {w : World} {A : Around} {E : Value → Shared → Prop} {R : Result → Shared → Prop} {h : Heap} {g : Array GenState} {d : Drawn} {t : Nat} {os : OsState}
variable {nm q : Str} {C N : Addr} {bs bm bmB : List Value} {hdct : Bool} {sn : List Str} {sub : List Value} {ab : Bool} {col : Option Bool} {dd : Option Addr} {k0 k1 k2 k3 k5 : Option Value} {B newId initId : String} {kw : List (Str × Value)}
theorem new_kw (F : ExcBaseFacts B newId initId bmB) (hT : ∀ X : String, bm.contains (.type X) = bmB.contains (.type X))
    (hC : h.get? C = some (excClassObj nm q C N bs bm hdct sn sub ab col dd k0 k1 k2 k3 k5 newId))
    (hq : R (.ok (.ret (.ref (h.objs.size + 1)))) ⟨(h.push (W.kdv_tup [])).push (excO C h.objs.size), g, d, t, os⟩) : codeAny (model prog w) A (.builtin newId ⟨[.ref C], kw⟩) R ⟨h, g, d, t, os⟩ := by
  have hends := F.ends
  have hB : (Value.ref C :: bm).contains (.type B) = true := by rw [List.contains_cons, hT, F.hasB, Bool.or_true]
  have hA : (Value.ref C :: bm).contains (.type "AttributeError") = false := by rw [List.contains_cons, hT, F.noAttr]; rfl
  have hN : (Value.ref C :: bm).contains (.type "NameError") = false := by rw [List.contains_cons, hT, F.noName]; rfl
  refine codeAny_builtinAt F.entry ?_
  unfold Builtin.«BaseException.__new__»
  refine wpAt_bind ?_
  show wpAt _ _ _ (stack >>= _) _ _ _
  refine wpAt_bind (wpAt_stack fun p below => wpAt_of_wpAny ?_)
  wp_walk
  refine wpAt_of_wpAny ?_
  rw [F.owner]
  repeat (first | with_reducible refine wpAny_madeHere_exc F.canon hC ?_ | with_reducible refine wpAny_loadPart_at hC ?_ | (with_reducible refine wpAny_isSubtype_exc hC ?_; first | rw [hB] | rw [hA] | rw [hN]) | wp_step)
  show R _ _
  rw [Heap.size_push]
  exact hq
theorem type_call_kw (F : ExcBaseFacts B newId initId bmB) (hT : ∀ X : String, bm.contains (.type X) = bmB.contains (.type X)) {fI : Addr} {Q : Fin → Shared → Prop}
    (hC : h.get? C = some (excClassObj nm q C N bs bm hdct sn sub ab col dd k0 k1 k2 k3 k5 newId))
    (hi : W.Looks (model prog w) h (typeLookup (.ref C) "__init__") (some (.ref fI))) (hb : ∀ self, W.Looks (model prog w) h (bindSpecial (.ref fI) self) (.ref fI, [self]))
    (hq : codeAny (model prog w) A (.call (.ref fI) ⟨[.ref (h.objs.size + 1)], kw⟩)
      (fun r s' => match r with | .ok (.ret v) => v = .none ∧ Q (.done (.ret (.ref (h.objs.size + 1)))) s' | .ok _ => False | .error e => E e s')
      ⟨(h.push (W.kdv_tup [])).push (excO C h.objs.size), g, d, t, os⟩) :
    wpAny (model prog w) A (Builtin.«type.__call__» ⟨[.ref C], kw⟩) Q E ⟨h, g, d, t, os⟩ := by
  repeat (first | with_reducible refine wpAny_loadPart_at hC ?_ | with_reducible refine wpAny_madeBy_exc hC ?_ | wp_step)
  refine codeAny_call_builtin_code (Code.quiet_builtin _ F.quiet) (check_kw F hT hC ?_)
  refine new_kw F hT hC ?_
  show wpAny _ _ _ _ _ _
  have k : ∀ b o, h.get? b = some o → ((h.push (W.kdv_tup [])).push (excO C h.objs.size)).get? b = some o := fun b o e => Heap.get?_push_of_some _ (Heap.get?_push_of_some _ e)
  have hC₁ := k _ _ hC
  have hget : ((h.push (W.kdv_tup [])).push (excO C h.objs.size)).get? (h.objs.size + 1) = some (excO C h.objs.size) := by heap_get
  have hcC : (Value.ref C :: bm).contains (.ref C) = true := by simp
  have i1 := hi.keeps k
  have b1 := (hb (.ref (h.objs.size + 1))).keeps k
  unfold isInstance
  repeat (first | with_reducible refine wpAny_loadPart_at hget ?_ | (with_reducible refine wpAny_isSubtype_exc hC₁ ?_; rw [hcC]) | wp_step)
  show wpAny _ _ (typeLookup (.ref C) _) _ _ _
  refine i1.at ?_
  refine wpAny_holding (wpAny_bind (b1.at ?_))
  refine wpAny_bind (wpAny_call (codeAny_mono hq fun r s' z => ?_))
  rcases r with e | (v | _ | _ | _) <;> first | exact z | exact z.elim | skip
  obtain ⟨rfl, z⟩ := z
  first
    | exact wpAny_pure (wpAny_pure z)
    | (wp_walk; exact z)
theorem check_type_kw {M : Model} {Q : Unit → Shared → Prop} (hC : h.get? C = some (excClassObj nm q C N bs bm hdct sn sub ab col dd k0 k1 k2 k3 k5 newId))
    (hq : Q () ⟨h, g, d, t, os⟩) : wpAny M A (checkBuiltinCall "type.__call__" ⟨[.ref C], kw⟩) Q E ⟨h, g, d, t, os⟩ := by
  have f3 := tc_sub
  have hT : (⟨h, g, d, t, os⟩ : Shared).TypeIs (.ref C) "type" := ⟨_, hC, rfl⟩
  simp only [checkBuiltinCall, tc_kind, tc_split]
  repeat (any_goals (first | assumption | with_reducible refine wpAny_loadPart_at hC ?_ | with_reducible refine wpAny_onRaise ?_ | with_reducible refine wpAny_map ?_ | wp_step))
theorem call_kw (F : ExcBaseFacts B newId initId bmB) (hT : ∀ X : String, bm.contains (.type X) = bmB.contains (.type X)) {fI : Addr}
    (hC : h.get? C = some (excClassObj nm q C N bs bm hdct sn sub ab col dd k0 k1 k2 k3 k5 newId))
    (hi : W.Looks (model prog w) h (typeLookup (.ref C) "__init__") (some (.ref fI))) (hb : ∀ self, W.Looks (model prog w) h (bindSpecial (.ref fI) self) (.ref fI, [self]))
    (hq : codeAny (model prog w) (A.under (.builtin "type.__call__" ⟨[.ref C], kw⟩)) (.call (.ref fI) ⟨[.ref (h.objs.size + 1)], kw⟩) (W.InitBack (h.objs.size + 1) R)
      ⟨(h.push (W.kdv_tup [])).push (excO C h.objs.size), g, d, t, os⟩) :
    codeAny (model prog w) A (.call (.ref C) ⟨[], kw⟩) R ⟨h, g, d, t, os⟩ := by
  have f1 := tc_lookup
  have f2 := tc_bind (.ref C)
  have hTy : (⟨h, g, d, t, os⟩ : Shared).TypeIs (.ref C) "type" := ⟨_, hC, rfl⟩
  refine codeAny_of_tree ?_
  show wpAny _ _ (callAny (.ref C) _) _ _ _
  repeat (any_goals (first | assumption | with_reducible refine wpAny_loadPart_at hC ?_ | wp_step))
  refine ⟨rfl, ?_⟩
  refine codeAny_call_builtin_at (Code.quiet_builtin _ (by decide +kernel)) entry_typeCall (check_type_kw hC (type_call_kw F hT hC hi hb ?_))
  refine codeAny_mono hq fun r s' z => ?_
  rcases r with e | (v | _ | _ | _) <;> exact z
end
end CK
set_option maxHeartbeats 4000000
namespace CK
open PySem PySem.Spec PyProof.Rows L2 L2H HotX
/-- C(k = v, ..), C's own __init__ keeping sp -/
def tMkK (C : Addr) (m : Nat) (sp : Sp) (gV : List V → List V → List V) (tk : TA) : L2.St → Hp → XK → Prop := fun σ H Q => tk σ H fun zs H1 => zs.length = m ∧ ∀ a, H1 a = none → sp (gV [.ref a] zs) (upd H1 a (exo a C none))
  (fun v H2 => v = .non ∧ ∃ (d : Addr) (fs : List (Str × V)), H2 a = some (exo a C (some d)) ∧ H2 d = some (exd d fs) ∧ H1 d = none ∧ Q (.ref C) (some d) (upd (del H2 a) d (.xd fs))) (fun _ _ _ => False)
theorem pmk5_kw {X : Cx} {CX : CXT} {x : Str} {kws : List Keyword} {tk : TA} {p pos : Pos} {C fI : Addr} {k : Nat} {fd : FuncData} {ps ks : List Str} {sp : Sp} {g : List Value → List Value → List Value} {gV : List V → List V → List V} (T : OexC X.K C)
    (iC : PySem.W.findIn X.K (.ref C) "__init__" = some (some (.ref fI))) (tI : PySem.W.typeIn X.K (.ref fI) = some (.type "function"))
    (F1 : FnH X.prog X.w X.K X.mg X.base CX k fI fd ps sp) (hr : RoomH (k + 1) X.A) (hc : HotC X) (hb : KBn X.K fd ps 1 ks g gV) (hx : Passes CX X (fun _ _ _ => False)) (hg : Gl X x) (hm : X.mg x = some (.ref C)) (hkw : PK X kws tk)
    (hall : (backToKw pos (keywordEach kws X.env)).all (·.1.isSome) = true := by rfl) (hks : (backToKw pos (keywordEach kws X.env)).filterMap (·.1) = ks := by rfl) (hdb : (x == ("__debug__" : Str)) = false := by decide)
    (hpl : ((backTo pos (starEach [] X.env)).any (·.1) || (backToKw pos (keywordEach kws X.env)).any (·.1.isNone)) = false := by rfl) :
    PMk5 X (.Call (.Name x p) [] kws pos) (tMkK C ks.length sp gV tk) := by
  intro pins s σ H Q I h
  obtain ⟨nm, q, N, bs, bm, sn, sub, ab, col, dd, k0, k1, k2, k3, k5, hC, hbm⟩ := T.cls
  obtain ⟨pn, hot, hpn⟩ := hc
  refine wpAny_Call_Name_kw (ld_glob I hg hm ?_ hdb)
  refine PySem.W.callWith_KW0 (h₀ := X.base) I.ok.mod.kin T.kC hall ?_ hpl
  refine thn (hkw.run pos pins s σ H _ I h) fun ws s1 ⟨zs, H1, I1, rz, l2, q1⟩ => ⟨I1.kIn, ?_⟩
  rw [hks]
  show wpAny _ _ (call (.ref C) [] (ks.zip ws)) _ _ _
  obtain ⟨hp, g1, dr, tk1, os⟩ := s1
  have hsz : hp.objs.size ≤ hp.objs.size + 1 := Nat.le_succ _
  have hn : H1 (hp.objs.size + 1) = none := I1.hok.fresh hsz
  have hq := q1 (hp.objs.size + 1) hn
  have kk : ∀ b o, hp.get? b = some o → ((hp.push (PySem.W.kdv_tup [])).push (PySem.HandSPX.excO C hp.objs.size)).get? b = some o := fun b o e => Heap.get?_push_of_some _ (Heap.get?_push_of_some _ e)
  have hget : ((hp.push (PySem.W.kdv_tup [])).push (PySem.HandSPX.excO C hp.objs.size)).get? (hp.objs.size + 1) = some (PySem.HandSPX.excO C hp.objs.size) := by heap_get
  have I2 : Inv X pins σ (upd H1 (hp.objs.size + 1) (exo (hp.objs.size + 1) C none)) ⟨(hp.push (PySem.W.kdv_tup [])).push (PySem.HandSPX.excO C hp.objs.size), g1, dr, tk1, os⟩ :=
    I1.laid (t' := tk1) (a := hp.objs.size + 1) (o := exo (hp.objs.size + 1) C none) (h' := (hp.push (PySem.W.kdv_tup [])).push (PySem.HandSPX.excO C hp.objs.size)) kk hsz (exo_ok hget)
  have r1 : Vals [V.ref (hp.objs.size + 1)] [Value.ref (hp.objs.size + 1)] := .cons rfl .nil
  have r2 := hb.rel r1 rz
  have b2 := hb.to _ [Value.ref (hp.objs.size + 1)] ws I2.kIn rfl (rz.length.symm.trans l2)
  have P1 := I2.pin pn (List.mem_append_left _ hpn)
  have hpin : PinOk X.stack (upd H1 (hp.objs.size + 1) (exo (hp.objs.size + 1) C none)) ⟨(hp.push (PySem.W.kdv_tup [])).push (PySem.HandSPX.excO C hp.objs.size), g1, dr, tk1, os⟩ pn :=
    ⟨P1.1, P1.2.1, fun hmm => (List.mem_cons.mp (I2.stkSub pn.1 hmm)).elim P1.2.2.1 P1.2.2.2.1, P1.2.2.2.2⟩
  have hrun := F1.run (X.A.under (.builtin "type.__call__" ⟨[.ref C], ks.zip ws⟩)) X.stack _ _ ⟨[Value.ref (hp.objs.size + 1)], ks.zip ws⟩ _ _ _ (fun _ _ _ => False) pn ⟨by have := hr.dp; rw [make_depth]; omega, by have := hr.un; rw [make_units]; omega⟩ ⟨hot.1, hot.2⟩ hpin (I2.env0.make C [] (ks.zip ws)) b2 r2 hq
  refine wpAny_call (call_kw F.excBase_ValueError (fun Y => PySem.HandSPX.refsVE_contains Y bm hbm) (I1.kIn _ _ hC) (PySem.W.looks_findIn I1.kIn iC) (fun self => PySem.W.bind_fn I1.kIn self tI)
    (codeAny_mono hrun fun r s' hq' => ?_))
  cases r with
  | error er => exact hx pins σ _ _ er s' I2 hq'
  | ok fl =>
    cases fl with
    | ret u =>
      obtain ⟨v, H2, os2, bare2, un2, hok2, rv, ev, d, fs, ea, ed, hd1, q2⟩ := hq'
      subst ev
      obtain ⟨h2, g2, d2, t2, os'⟩ := s'
      obtain ⟨t0, G, J, kG, ge, hoe, na⟩ := mk_end0 (d2 := d2) (t2 := t2) I1 hsz kk un2 hok2 os2 bare2 ea ed hd1
      refine ⟨rv, ⟨hp.objs.size + 1, _, _, ⟨G, g2, d2, t2, os'⟩, _, .ref C, some d, rfl, J, kG, ge, hoe, ⟨rfl, rfl, fun vs hv => ?_⟩, rfl, rfl, na, rfl, bare2, raises_own T.exC T.tyC, q2⟩, fun a oe vs ea2 hg2 hd2 => ?_⟩
      · cases hv
        rfl
      · cases ea2
        have hg3 : h2.get? (hp.objs.size + 1) = some oe := hg2
        rw [hoe] at hg3
        cases hg3
        cases hd2
        show (4 : Nat) < 6
        decide
    | next => exact False.elim hq'
    | brk => exact False.elim hq'
    | cont => exact False.elim hq'
end CK
set_option maxHeartbeats 0
namespace CK
open PySem PySem.Spec PyProof.Rows L2
section
variable {P : Program} {w : World} {K : PySem.W.Frag} {mg : Str → Option Value} {base : Heap}
/-- NoText.__init__ where an exception is handled -/
theorem okH_init (T : Tp w K mg base) : ∃ fd, L2H.FnH P w K mg base CX0 2 (He.ma K (He.ga K "NoText") "__init__") fd ["self", "row"] (spNi K) ∧ ∃ its : List Value, KBn K fd ["self", "row"] 1 ["row"] (fun us ws => us ++ ws) (fun vs zs => vs ++ zs) := by
  obtain ⟨fd, F⟩ := F_NoText_u_init_u T
  have kb := F.kbindsD (ps := ["self", "row"]) 1 ["row"] (fun us _ ws => us ++ ws) (by simp) (fun r1 _ r2 => r1.append r2) (fun _ _ _ _ _ _ _ us its ws h1 h2 h3 => match us, its, ws, h1, h2, h3 with
    | [_], [_], [_], _, _, _ => ⟨_, rfl, rfl⟩)
  obtain ⟨oc, od, dV, kV, doc, pm, an, cdv, ct, osl, rfl, lk, hcd, _, _⟩ := F.ex
  refine ⟨_, L2H.fn_ofH lk hcd sc_NoText_u_init_u (len2 rfl) (fun A outer s H vs Q E p hot hr h => ?_), kb⟩
  obtain ⟨v, y, rfl, a, rfl, ha, q⟩ := h
  have O := oexC_ T
  exact ⟨_, PSs.nox (pss_cons (ps_expr (pe_wrinit T (by rfl) (G_Wrong T) (pa_cons (pv 0) (pa_cons pe_str pa_nil))))
  (pss_one (ps_ost (pv 0) (pv 1)))), _, rfl, a, cN K, [.str (.ofString "no such text")], rfl, by decide, O, ha, _, rfl, _, rfl, a, cN K, rfl, O, N_NoText_row T, .inl ⟨ha, fun dx h1 h2 => q dx h1 h2⟩⟩
theorem suite_row {X : Cx} {W : WX} {a : Addr} {oe : Obj} {cls0 : Value} {K : PySem.W.Frag} {p p2 p3 p4 p5 p6 : Pos} (hK : X.K = K) (T : Tp X.w X.K X.mg X.base) (hot : L2H.Hot1 X.A (a, oe)) (hq : (a, oe) ∈ X.pn) (hc0 : oe.cls = cls0) (tk : L2.Takes X W) (hr : L2H.RoomH 3 X.A)
    (hN : X.N[5]? = some (.ofString "e")) (hl : X.env.kindOf "e" = some .local) (h1 : X.N[1]? = some (.ofString "at")) (hv : Vis X.env.scope "at") (hg : Gl X "NoText") :
    PS X (.Raise (some (.Call (.Name "NoText" p) [] [⟨some "row", .Name "at" p2, p3⟩] p4)) (some (.Name "e" p5)) p6) (fun _ σ H => σ[5]? = some (some (.ref a)) ∧ PySem.W.subIn K cls0 (.type "BaseException") = some true ∧
      tMkK (cN K) 1 (spNi K) (fun vs zs => vs ++ zs) (tCons (tVar 1) tNil) σ H fun cls d H' => W cls d σ H') := by
  subst hK
  obtain ⟨fH, FH, itsH, kbH⟩ := okH_init (P := X.prog) T
  have mk : L2H.PMk5 X (.Call (.Name "NoText" p) [] [⟨some "row", .Name "at" p2, p3⟩] p4) (tMkK (cN X.K) 1 (spNi X.K) (fun vs zs => vs ++ zs) (tCons (tVar 1) tNil)) :=
    pmk5_kw (oexC_ T) (M_NoText__uinit_u T).at_ (beq_iff_eq.mp (M_NoText__uinit_u T).fn) FH hr ⟨_, hot, hq⟩ kbH pass0 hg (G_NoText T) (pk_cons (pe_var h1 hv) pk_nil)
  exact ps_raiseHF hot hq hc0 tk mk hN hl
/-- read_row -/
def spRr (K : PySem.W.Frag) : Sp := sp3 fun x y z H Q E => ∃ (zz : Str) (ws : List Str) (n l : Nat), x = .str zz ∧ y = .int (n : Nat) ∧ z = .int (l : Nat) ∧ zz.length + 2 ≤ sizeLine ∧ Txt.split zz (.ofString " ") = ws ∧ ws.length ≤ 1000 ∧
  ((∃ (d : Nat) (e : Deed), ws = nS d :: e.word :: e.body ∧ d ≤ 1200 ∧ l ≤ d ∧ e.Good ∧ e.Rd ∧ e.body ≠ [] ∧ ∀ H' v, Gr K H H' → Rep K H' (pE (d, e)) v → Q v H') ∨ (BadRow ws ∧ Rs K H (.int (n : Nat)) E))
theorem sc_read_row : FnScope ["row", "at", "last", "day", "deed", "e"] ["row", "at", "last"] (defScope (top 131)) := ⟨rfl, rfl, rfl, by decide +kernel, rfl, by decide +kernel, by decide +kernel⟩
theorem ok_read_row (T : Tp w K mg base) : Cl P w K mg base (L2.CX P w) 8 "read_row" (spRr K) := by
  obtain ⟨fd, F⟩ := F_read_row T
  refine ⟨fd, ["row", "at", "last"], F.ok sc_read_row (len3 rfl) (fun cdv A outer s H vs Q E hr h => ?_), G_read_row T, F.kp, F.bindsN fun _ _ _ _ _ _ us hl => match us, hl with | [_, _, _], _ => rfl⟩
  have tk : L2.Takes (cxOf (L2.CX P w) P w K mg base ["row", "at", "last", "day", "deed", "e"] "read_row" (defScope (top 131)) (He.ga K "read_row") cdv A outer s H E) (fun cls d _ H' => E cls d H') := L2.takes_of rfl rfl rfl rfl
  refine ⟨_, (pss_cons (ps_try_asY (i := 5) (c := .ref (cN K)) rfl rfl sc_read_row.nd rfl rfl ⟨rfl, by decide, .inl (G_NoText T)⟩ (fun hd => L2H.passesAt_of rfl hd) tk (fun W pn xe tkb po => (pss_cons (ps_asg (pe_fN tkb (ok_day_and_deed T) hr (pa_cons (pv 0) pa_nil)) (show PG _ _ (gTup K 2 _) from pg_tup rfl (pgs_cons (pg_name (i := 3) sc_read_row.nd rfl (Or.inl rfl)) (pgs_cons (pg_name (i := 4) sc_read_row.nd rfl (Or.inl rfl)) pgs_nil))))
  (pss_one (ps_expr (pe_fN tkb (ok_must T) hr (pa_cons (pe_cmpR op_ge (pv 3) (pv 2) (nomark _)) pa_nil)))))) (fun a oe cls d pn xe hz tks hot => (pss_one (suite_row (K := K) rfl T hot List.mem_cons_self hz.1 tks (L2H.roomH_mark (hr.mono (by decide)) _) rfl rfl rfl (Or.inl rfl) (by rfl)))))
  (pss_one (ps_ret (pe_tup (pa_cons (pv 3) (pa_cons (pv 4) pa_nil)))))), ?_⟩
  obtain ⟨v, v2, v3, rfl, zz, ws, n, l, rfl, rfl, rfl, hz, hw, hl, h⟩ := h
  refine ⟨_, rfl, _, rfl, zz, ws, rfl, hz, hw, hl, ?_⟩
  rcases h with ⟨d, e, e1, h1, h2, h3, h4, h5, q⟩ | ⟨hb, r⟩
  · refine .inl ⟨d, e, e1, h1, h3, h4, h5, fun H1 v g1 hv => ?_⟩
    obtain ⟨a, y, z, rfl, hs, hy, hzz⟩ := rep2 hv
    obtain rfl : y = .int (d : Nat) := hy
    refine ⟨a, _, rfl, hs, rfl, _, _, rfl, _, _, rfl, rfl, _, rfl, _, rfl, _, _, rfl, rfl, _, rfl, true, congrArg V.bl (decide_eq_true (by omega)), .inl ⟨rfl, _, rfl, _, rfl, (show 2 ≤ sizeLine by decide), fun p hp => ?_⟩⟩
    exact q _ _ (g1.add hp) (Rep.tup (l := [.i d, e.d]) ⟨_, _, rfl, rfl, _, _, rfl, hzz.std' (Std.upd' hp), rfl⟩ upd_same)
  · refine .inr ⟨hb, fun d H1 g1 hd => ⟨X_NoText T, fun a ha => ⟨rfl, (oexC_ T).exC, _, rfl, rfl, made_N fun d2 H2 g2 hd2 => r d2 H2 (g1.trans g2) hd2⟩⟩⟩

end
end CK
set_option maxHeartbeats 4000000
namespace CK
open PySem PySem.Spec PyProof.Rows L2
/-! ### rows split at blanks, texts at line ends -/
/-- all signs between - and z -/
def hiW (x : Str) : Prop := ∀ c ∈ cl x, 45 ≤ c ∧ c ≤ 122
theorem hi_nm {x : Str} (h : isNm x = true) : hiW x := by
  unfold isNm allIn at h
  simp only [Bool.and_eq_true, List.all_eq_true, decide_eq_true_eq] at h
  intro c hc
  have e : ∀ c ∈ cl (.ofString "abcdefghijklmnopqrstuvwxyz"), 45 ≤ c ∧ c ≤ 122 := by decide +kernel
  exact e c (h.2 c hc)
theorem hi_mk {x : Str} (h : isMk x = true) : hiW x := by
  unfold isMk figs at h
  simp only [Bool.and_eq_true, List.all_eq_true, decide_eq_true_eq] at h
  obtain ⟨h1, _, h2, _⟩ := h
  have e : ∀ c ∈ cl six, 45 ≤ c ∧ c ≤ 122 := by decide +kernel
  intro c hc
  rw [← List.take_append_drop 1 (cl x), h1] at hc
  rcases List.mem_append.mp hc with q | q
  · simp at q
    omega
  · exact e c (h2 c q)
theorem hi_nS (n : Nat) : hiW (nS n) := by
  intro c hc
  rw [cl_nS] at hc
  have := TL.numL_digits n c hc
  omega
theorem hi_wS (t b : Nat) : hiW (wS t b) := by
  intro c hc
  refine ⟨Nat.le_of_not_lt fun z => ?_, Nat.le_of_not_lt fun z => ?_⟩
  · exact wS_free (s := c) (.inl (by omega)) hc
  · exact wS_free (s := c) (.inr (by omega)) hc
theorem hi_opt {o : Option Str} (h : okO o) : hiW (optS o) := by
  cases o with
  | none => show ∀ c ∈ cl (.ofString "-"), 45 ≤ c ∧ c ≤ 122; decide +kernel
  | some x => exact hi_nm h
theorem hi_word (e : Deed) : hiW e.word := by
  cases e with
  | parts k => cases k <;> (show ∀ c ∈ cl (.ofString _), 45 ≤ c ∧ c ≤ 122; decide +kernel)
  | _ => show ∀ c ∈ cl (.ofString _), 45 ≤ c ∧ c ≤ 122; decide +kernel
theorem hi_body {e : Deed} (h : e.Good) : ∀ w ∈ e.body, hiW w := by
  intro w hw
  cases e with
  | parts k m ps =>
    rcases List.mem_cons.mp (show w ∈ m :: ps.flatMap fun p => [p.1, wS p.2.1 p.2.2] from hw) with rfl | hw
    · exact hi_mk h.1
    · obtain ⟨p, hp, hw⟩ := List.mem_flatMap.mp hw
      simp only [List.mem_cons, List.not_mem_nil, or_false] at hw
      rcases hw with rfl | rfl
      · exact hi_nm (h.2.2.1 p hp).1
      · exact hi_wS _ _
  | part n ps =>
    rcases List.mem_cons.mp (show w ∈ n :: ps.flatMap fun p => [p.1, nS p.2] from hw) with rfl | hw
    · exact hi_nm h.1
    · obtain ⟨p, hp, hw⟩ := List.mem_flatMap.mp hw
      simp only [List.mem_cons, List.not_mem_nil, or_false] at hw
      rcases hw with rfl | rfl
      · exact hi_nm (h.2.1.2.2.1 _ (List.mem_map_of_mem hp))
      · exact hi_nS _
  | burn m u t b =>
    simp only [Deed.body, List.mem_cons, List.not_mem_nil, or_false] at hw
    rcases hw with rfl | rfl | rfl
    · exact hi_mk h.1
    · exact hi_nm h.2.1
    · exact hi_wS _ _
  | make n u g =>
    simp only [Deed.body, List.mem_cons, List.not_mem_nil, or_false] at hw
    rcases hw with rfl | rfl | rfl
    · exact hi_nm h.1
    · exact hi_nm h.2.1
    · exact hi_nS _
  | merge ns f =>
    rcases List.mem_cons.mp (show w ∈ f :: ns from hw) with rfl | hw
    · exact hi_nm h.2
    · exact hi_nm (h.1.2.2.1 w hw)
  | pay ns g o =>
    rcases List.mem_cons.mp (show w ∈ nS g :: optS o :: ns from hw) with rfl | hw
    · exact hi_nS _
    · rcases List.mem_cons.mp hw with rfl | hw
      · exact hi_opt h.2.2
      · exact hi_nm (h.1.2.2.1 w hw)
  | fire ms => exact hi_mk (h.2.2.1 w hw)
  | lose ws => exact hi_nm (h.2 w hw)
  | draw ws => exact hi_nm (h.2 w hw)
  | send m o =>
    simp only [Deed.body, List.mem_cons, List.not_mem_nil, or_false] at hw
    rcases hw with rfl | rfl
    · exact hi_mk h.1
    · exact hi_opt h.2
theorem hi_free {x : Str} {c : Nat} (h : hiW x) (hc : c < 45) : c ∉ cl x := fun z => by
  have := (h c z).1
  omega
theorem sep_S (c : Nat) : (⟨#[c]⟩ : Str) = SX.S [c] := rfl
theorem split_jn {c : Nat} (hc : c < 256) {ws : List Str} (hne : ws ≠ []) (h : ∀ w ∈ ws, c ∉ cl w) : Txt.split (jn c ws) ⟨#[c]⟩ = ws := by
  have e : jn c ws = SX.S (TL.joinL [c] (ws.map cl)) := by rw [← S_cl (jn c ws), cl_jn]
  rw [e, sep_S, split_one hc (fun z => hne (List.map_eq_nil_iff.mp z)) (fun p hp => by
    obtain ⟨w, hw, rfl⟩ := List.mem_map.mp hp
    exact h w hw), List.map_map]
  exact (List.map_congr_left fun x _ => S_cl x).trans (List.map_id' ws)
theorem bl_eq : Str.ofString " " = ⟨#[32]⟩ := by decide +kernel
theorem split_row {d : Nat} {e : Deed} (h : e.Good) : Txt.split (rowT d e) (.ofString " ") = nS d :: e.word :: e.body := by
  rw [bl_eq]
  refine split_jn (by decide) (fun z => by cases z) fun w hw => hi_free ?_ (by decide)
  rcases List.mem_cons.mp hw with rfl | hw
  · exact hi_nS d
  · rcases List.mem_cons.mp hw with rfl | hw
    · exact hi_word e
    · exact hi_body h w hw
theorem joinL_cons (c : Nat) : ∀ (a : List Nat) (l : List (List Nat)), TL.joinL [c] (a :: l) = a ++ l.flatMap fun x => c :: x
  | a, [] => by simp [TL.joinL]
  | a, b :: l => by
    have e : TL.joinL [c] (a :: b :: l) = a ++ ([c] ++ TL.joinL [c] (b :: l)) := by simp [TL.joinL]
    rw [e, joinL_cons c b l]
    simp
/-- pairs joined within are joined as all -/
theorem joinL_pairs (c : Nat) (a : List Nat) (ps : List (List Nat × List Nat)) : TL.joinL [c] (a :: ps.map fun p => p.1 ++ c :: p.2) = TL.joinL [c] (a :: ps.flatMap fun p => [p.1, p.2]) := by
  rw [joinL_cons, joinL_cons, List.flatMap_map, List.flatMap_assoc]
  congr 1
  refine congrArg (fun f => List.flatMap f ps) (funext fun p => ?_)
  simp
theorem jn_pairs {α : Type} (c : Nat) (a : Str) (ps : List α) (f g : α → Str) (h : α → Str) (e : ∀ p, cl (h p) = cl (f p) ++ c :: cl (g p)) (pre : List Str) : jn c (a :: (pre ++ ps.map h)) = jn c (a :: (pre ++ ps.flatMap fun p => [f p, g p])) := by
  rw [← S_cl (jn c _), ← S_cl (jn c (a :: (pre ++ ps.flatMap _))), cl_jn, cl_jn]
  congr 1
  simp only [List.map_cons, List.map_append, List.map_map, List.map_flatMap, List.map_nil]
  rw [joinL_cons, joinL_cons]
  simp only [List.flatMap_append]
  congr 2
  rw [List.flatMap_map, List.flatMap_assoc]
  refine congrArg (fun f => List.flatMap f ps) (funext fun p => ?_)
  show c :: (cl (h p)) = _
  rw [e p]
  simp
theorem headT_flat (dr : List Loss) : headT dr = jn 32 (.ofString "drying" :: flatS (hdP dr)) := by
  unfold headT flatS hdP
  rw [List.flatMap_map]
  have := jn_pairs 32 (.ofString "drying") dr (fun p => p.1) (fun p => shT p) lossT (fun p => by
    unfold lossT shT
    simp only [cl_app]
    have e : cl (.ofString " ") = [32] := by decide +kernel
    rw [e]
    simp) []
  exact this
theorem split_head {dr : List Loss} (h : okLs dr) : Txt.split (headT dr) (.ofString " ") = .ofString "drying" :: flatS (hdP dr) := by
  rw [bl_eq, headT_flat]
  refine split_jn (by decide) (fun z => by cases z) fun w hw => hi_free ?_ (by decide)
  rcases List.mem_cons.mp hw with rfl | hw
  · show ∀ c ∈ cl (.ofString _), 45 ≤ c ∧ c ≤ 122; decide +kernel
  · obtain ⟨q, hq, hw⟩ := List.mem_flatMap.mp hw
    obtain ⟨p, hp, rfl⟩ := List.mem_map.mp hq
    simp only [List.mem_cons, List.not_mem_nil, or_false] at hw
    rcases hw with rfl | rfl
    · exact hi_nm (h.2.1 p hp).1
    · intro c hc
      unfold shT at hc
      rw [cl_app, cl_app, cl_slash] at hc
      simp only [List.mem_append, List.mem_cons, List.not_mem_nil, or_false] at hc
      rcases hc with (hc | rfl) | hc
      · exact hi_nS _ c hc
      · decide
      · exact hi_nS _ c hc
theorem ne_of_len {ws : List Str} {n : Nat} (h : n ≤ ws.length) (hn : 0 < n) : ws ≠ [] := fun z => by
  rw [z] at h
  exact absurd (Nat.lt_of_lt_of_le hn h) (by decide)
theorem good_rd {e : Deed} (h : e.Good) : e.Rd := by
  cases e with
  | parts k m ps => exact fun p hp => (h.2.2.1 p hp).2
  | burn m u t b => exact h.2.2
  | make n u g => exact h.2.2.2
  | part n ps => exact fun p hp => (h.2.2 p hp).2
  | pay ns g o => exact ⟨ne_of_len h.1.1 (by decide), h.2.1.2, h.2.2⟩
  | send m o => exact h.2
  | _ => trivial
theorem body_ne {e : Deed} (h : e.Good) : e.body ≠ [] := by
  cases e with
  | fire ms => exact ne_of_len (show 1 ≤ ms.length from h.1) (by decide)
  | lose ws => exact ne_of_len (show 2 ≤ ws.length from Nat.le_of_eq h.1.symm) (by decide)
  | draw ws => exact ne_of_len (show 1 ≤ ws.length from Nat.le_of_eq h.1.symm) (by decide)
  | _ => exact fun z => by cases z
end CK
set_option maxHeartbeats 0
namespace CK
open PySem PySem.Spec PyProof.Rows L2
section
variable {P : Program} {w : World} {K : PySem.W.Frag} {mg : Str → Option Value} {base : Heap}
/-- nothing that is kept stands there -/
def Nw (H : Hp) (a : Addr) : Prop := ∀ o, H a = some o → ∃ ps, o = .tbl ps
theorem Nw.of {H : Hp} {a : Addr} (h : H a = none) : Nw H a := fun o e => by rw [h] at e; cases e
theorem Nw.back {H H1 : Hp} {a : Addr} (g : Gr K H H1) (h : Nw H1 a) : Nw H a := fun o e => by
  cases o with
  | tbl ps => exact ⟨ps, rfl⟩
  | _ =>
    obtain ⟨ps, z⟩ := h _ (g.keep a _ e fun ps z => by cases z)
    cases z
theorem Nw.ne {H : Hp} {a b : Addr} {xs : List V} (h : Nw H a) (e : H b = some (.lst xs)) : a ≠ b := fun z => by
  rw [← z] at e
  obtain ⟨ps, w⟩ := h _ e
  cases w
theorem GrE.grN {ex : Addr → Prop} {H H' : Hp} (e : GrE K ex H H') (h : ∀ b, ex b → Nw H b) : Gr K H H' := ⟨fun b o q n => e.keep b o q n (fun z => by
  obtain ⟨ps, w⟩ := h b z o q
  exact n ps w), e.tabs⟩
theorem mk_bk {H : Hp} {x dx : Addr} {dr : List Loss} {v : V} {Q : Hp → Prop} {E : XK} (h1 : H x = none) (h2 : H dx = none) (hn : dx ≠ x) (rep : Rep K H (dD dr) v) (q : ∀ H' L, Gr K H H' → H L = none → L ≠ x → Bk K H' x L dr [] → Q H') :
    spBi K [.ref x, v] (upd (upd H dx (.own x)) x (.ins (cB K) dx [])) (fun u H3 => u = .non ∧ Q H3) E := by
  have s0 : Same H (upd (upd H dx (.own x)) x (.ins (cB K) dx [])) := fun b u hb => by
    rw [upd_ne (ne_of_none hb h1), upd_ne (ne_of_none hb h2)]
    exact hb
  refine ⟨_, _, rfl, x, dx, dr, rfl, rep.std' (Gr.same (K := K) s0).std, upd_same, fun H' L k hL B => ⟨rfl, q H' L (.same fun b u hb => k b u (ne_of_none hb h1) (s0 b u hb)) ?_ ?_ B⟩⟩
  · cases e : H L with
    | none => rfl
    | some u => rw [s0 L u e] at hL; cases hL
  · intro z
    rw [z, upd_same] at hL
    cases hL
def lastD (l : List (Nat × Deed)) : Nat := match l.getLast? with
  | some p => p.1
  | none => 0
theorem lastD_take {l : List (Nat × Deed)} {i : Nat} {p : Nat × Deed} (h : l[i]? = some p) : lastD (l.take (i + 1)) = p.1 := by
  unfold lastD
  rw [List.take_add_one, h]
  simp
theorem lastD_le {l : List (Nat × Deed)} (hs : l.Pairwise fun p q => p.1 ≤ q.1) {i : Nat} {p : Nat × Deed} (h : l[i]? = some p) : lastD (l.take i) ≤ p.1 := by
  cases i with
  | zero => exact Nat.zero_le _
  | succ j =>
    have hj : j < l.length := by
      have := (List.getElem?_eq_some_iff.mp h).1
      omega
    have e := List.getElem?_eq_getElem hj
    rw [lastD_take e]
    obtain ⟨h1, h2⟩ := List.getElem?_eq_some_iff.mp h
    rw [← h2]
    exact List.pairwise_iff_getElem.mp hs j (j + 1) hj h1 (by omega)
def rowsT (l : List (Nat × Deed)) : List Str := l.map fun p => rowT p.1 p.2
/-- a bad row's text -/
def BadZ (z : Str) : Prop := z.length + 2 ≤ sizeLine ∧ (Txt.split z (.ofString " ")).length ≤ 1000 ∧ BadRow (Txt.split z (.ofString " "))
def BadH (z : Str) : Prop := z.length + 2 ≤ sizeLine ∧ Txt.split z (.ofString " ") ≠ [] ∧ (Txt.split z (.ofString " ")).length ≤ 1000 ∧ BadHd (Txt.split z (.ofString " "))
def okB (dr : List Loss) (l : List (Nat × Deed)) : Prop := okLs dr ∧ okDays l ∧ l.Pairwise fun p q => p.1 ≤ q.1
/-- lines whose first bad one is that at k -/
def BadAt (ls : List Str) (k : Nat) : Prop := (k = 0 ∧ ∃ h r, ls = h :: r ∧ BadH h) ∨ ∃ dr l z r, ls = headT dr :: (rowsT l ++ z :: r) ∧ okB dr l ∧ BadZ z ∧ k = l.length + 1
/-- read_book -/
def spRb (K : PySem.W.Frag) : Sp := sp1 fun x H Q E => ∃ (z : Str) (ls : List Str), x = .str z ∧ z.length + 2 ≤ sizeLine ∧ Txt.split z (.ofString "\n") = ls ∧ ls.length ≤ 600 ∧
  ((∃ dr l, ls = headT dr :: rowsT l ∧ okB dr l ∧ ∀ H' b L, Gr K H H' → Nw H b → Nw H L → Bk K H' b L dr (l.map some) → Q (.ref b) H') ∨ (∃ k, BadAt ls k ∧ Rs K H (.int (k : Nat)) E))
theorem sc_read_book : FnScope ["text", "rows", "book", "last", "at", "row", "deed"] ["text"] (defScope (top 132)) := ⟨rfl, rfl, rfl, by decide +kernel, rfl, by decide +kernel, by decide +kernel⟩
theorem ok_read_book (T : Tp w K mg base) : Cl P w K mg base (L2.CX P w) 9 "read_book" (spRb K) := by
  obtain ⟨fB, FB, _, _, itsB, kbB⟩ := ok_Book_u_init_u (P := P) T
  obtain ⟨fd, F⟩ := F_read_book T
  refine ⟨fd, ["text"], F.ok sc_read_book (len1 rfl) (fun cdv A outer s H vs Q E hr h => ?_), G_read_book T, F.kp, F.bindsN fun _ _ _ _ _ _ us hl => match us, hl with | [_], _ => rfl⟩
  have tk : L2.Takes (cxOf (L2.CX P w) P w K mg base ["text", "rows", "book", "last", "at", "row", "deed"] "read_book" (defScope (top 132)) (He.ga K "read_book") cdv A outer s H E) (fun cls d _ H' => E cls d H') := L2.takes_of rfl rfl rfl rfl
  refine ⟨_, (pss_cons (ps_expr (pe_fS tk (ok_must T).forget hr (pa_cons (pe_isi (T := "str") (pv 0) (B_isinstance T) (B_str T)) pa_nil)))
  (pss_cons (ps_set (i := 1) sc_read_book.nd rfl (Or.inl rfl) (pe_split (pv 0) pe_str))
  (pss_cons (ps_set (i := 2) sc_read_book.nd rfl (Or.inl rfl) (pe_makeK0 (M_Book T) FB (hr.mono (by decide)) (by rfl) (G_Book T) kbB pass0 (pk_cons (pe_fS tk (ok_drying_in T).forget hr (pa_cons (pe_ix (show IxR _ (rIxL K) from ix_list) (pv 1) pe_int (fun _ _ => rfl)) pa_nil)) pk_nil)))
  (pss_cons (ps_set (i := 3) sc_read_book.nd rfl (Or.inl rfl) pe_int)
  (pss_cons (ps_for (L2.passes_of rfl) rfl (pi_enum (by rfl) (B_enumerate T) (pa_cons (pe_slice sl_list (pv 1) (po_some pe_int) po_none) pa_nil)) (show PG _ _ (gTup K 2 _) from pg_tup rfl (pgs_cons (pg_name (i := 4) sc_read_book.nd rfl (Or.inl rfl)) (pgs_cons (pg_name (i := 5) sc_read_book.nd rfl (Or.inl rfl)) pgs_nil)))
    (pss_cons (ps_asg (pe_fS tk (ok_read_row T) hr (pa_cons (pv 5) (pa_cons (pe_op op_add (pv 4) pe_int) (pa_cons (pv 3) pa_nil)))) (show PG _ _ (gTup K 2 _) from pg_tup rfl (pgs_cons (pg_name (i := 3) sc_read_book.nd rfl (Or.inl rfl)) (pgs_cons (pg_name (i := 6) sc_read_book.nd rfl (Or.inl rfl)) pgs_nil))))
  (pss_one (ps_expr (C8.pe_mt (met_tell T) hr (by decide) (pv 2) (pa_cons (pv 3) (pa_cons (pv 6) pa_nil)))))))
  (pss_one (ps_ret (pv 2)))))))), ?_⟩
  obtain ⟨v, rfl, z, ls, rfl, hz, hw, hl, h⟩ := h
  refine ⟨_, rfl, _, _, _, _, _, rfl, .ty _, .base (.str _), kit_str, _, rfl, true, rfl, .inl ⟨rfl, _, rfl, ⟨_, rfl⟩, _, _, rfl, rfl, by rw [nl_len]; rfl, hz, fun p hp => ?_⟩⟩
  rw [hw]
  have g1 : Gr K H (upd H p (.lst (ls.map V.str))) := .new hp
  have hs : SqL K (upd H p (.lst (ls.map V.str))) p (ls.map V.str) := SqL.of upd_same
  have hx : (∃ h r, ls = h :: r ∧ BadH h ∧ Rs K H (.int (0 : Nat)) E) ∨ ∃ dr l bad, ls = headT dr :: (rowsT l ++ bad) ∧ okB dr l ∧ ((bad = [] ∧ ∀ H' b L, Gr K H H' → Nw H b → Nw H L → Bk K H' b L dr (l.map some) → Q (.ref b) H') ∨ ∃ z r, bad = z :: r ∧ BadZ z ∧ Rs K H (.int ((l.length + 1 : Nat) : Nat)) E) := by
    rcases h with ⟨dr, l, e, hb, q⟩ | ⟨k, hb, r⟩
    · exact .inr ⟨dr, l, [], by rw [e, List.append_nil], hb, .inl ⟨rfl, q⟩⟩
    · rcases hb with ⟨rfl, h0, t0, e, hb⟩ | ⟨dr, l, z, t0, e, hb, hz, rfl⟩
      · exact .inl ⟨h0, t0, e, hb, r⟩
      · exact .inr ⟨dr, l, z :: t0, e, hb, .inr ⟨z, t0, rfl, hz, r⟩⟩
  rcases hx with ⟨h0, t0, rfl, hb, r⟩ | ⟨dr, l, bad, rfl, ⟨ok1, ok2, ok3⟩, hx⟩
  · exact ⟨_, rfl, p, _, 0, _, rfl, rfl, hs, at_0, _, rfl, h0, _, rfl, hb.1, rfl, hb.2.1, hb.2.2.1, .inr ⟨hb.2.2.2, fun d H' g hd => r d H' (g1.trans g) hd⟩⟩
  have hl2 : l.length + bad.length + 1 ≤ 600 := by
    rw [List.length_cons, List.length_append] at hl
    unfold rowsT at hl
    rw [List.length_map] at hl
    exact hl
  refine ⟨_, rfl, p, _, 0, _, rfl, rfl, hs, at_0, _, rfl, headT dr, _, rfl, small (by have := headT_len ok1; omega), split_head ok1, (fun z => by cases z), ?_, .inl ⟨dr, rfl, ok1, fun H2 v g2 hv => ⟨rfl, rfl, fun b dx hb hdx hne => ?_⟩⟩⟩
  · rw [List.length_cons, flatS_len]
    unfold hdP
    rw [List.length_map]
    have := ok1.1
    omega
  refine mk_bk hb hdx hne hv fun H3 L g3 hL hLb B => ?_
  have g13 := (g1.trans g2).trans g3
  refine ⟨_, rfl, _, rfl, p, _, rfl, (g2.trans g3).sqL hs, fun p2 hp2 => ?_⟩
  have ec : cutV ((headT dr :: (rowsT l ++ bad)).map V.str) (some ((1 : Nat) : Int)) none = (rowsT l ++ bad).map V.str := cut_from 1
  have hne2 : p2 ≠ L := fun z => by
    obtain ⟨_, _, xs, _, h2, _⟩ := B.ex
    rw [z, h2] at hp2
    cases hp2
  have g14 := g13.add (o := .lst (cutV ((headT dr :: (rowsT l ++ bad)).map V.str) (some 1) none)) hp2
  have B2 := B.gr (Gr.new (K := K) (o := .lst (cutV ((headT dr :: (rowsT l ++ bad)).map V.str) (some 1) none)) hp2)
  have hs2 : (upd H3 p2 (.lst (cutV ((headT dr :: (rowsT l ++ bad)).map V.str) (some 1) none))) p2 = some (.lst ((rowsT l ++ bad).map V.str)) := upd_same.trans (congrArg (fun z => some (HO.lst z)) ec)
  have nwb : Nw H b := (Nw.of hb).back (g1.trans g2)
  have nwL : Nw H L := (Nw.of hL).back (g1.trans g2)
  refine ⟨p2, (rowsT l ++ bad).map V.str, rfl, SqL.of hs2, ?_⟩
  have hrl : ((rowsT l ++ bad).map V.str).length = l.length + bad.length := by
    rw [List.length_map, List.length_append]
    unfold rowsT
    rw [List.length_map]
  refine for_it (walk_enum (K := K) (a := p2) (xs := (rowsT l ++ bad).map V.str)) (fun i σ H' => i ≤ l.length ∧ GrE K (fun c => c = L) (upd H3 p2 (.lst (cutV ((headT dr :: (rowsT l ++ bad)).map V.str) (some 1) none))) H' ∧ Bk K H' b L dr ((l.take i).map some) ∧
    ∃ o1 o2 o3, σ = [some (.str z), some (.ref p), some (.ref b), some (.int (lastD (l.take i) : Nat)), o1, o2, o3]) ⟨Nat.zero_le _, .refl _, B2, _, _, _, rfl⟩ (fun i σ H' _ h => SqL.of (h.2.1.lst hs2 hne2)) ?_ ?_
  · rintro i x σ H4 H4' hi ⟨hil, g4, B4, o1, o2, o3, rfl⟩ ⟨U, y, w, rfl, hU, rfl, hy, hw⟩
    cases (show some (V.int (i : Nat)) = some y from hy)
    have hw : ((rowsT l ++ bad).map V.str)[i]? = some w := hw
    rw [List.getElem?_map] at hw
    have gU : Gr K H4 (upd H4 U (.tup [.int (i : Nat), w])) := .new hU
    have gg := (GrE.trans (.of g14) g4).grN fun c hc => by rw [hc]; exact nwL
    by_cases hlt : i < l.length
    · have hp := List.getElem?_eq_getElem (l := l) hlt
      have e1 : (rowsT l ++ bad)[i]? = some (rowT l[i].1 l[i].2) := by
        rw [List.getElem?_append_left (by unfold rowsT; rw [List.length_map]; exact hlt)]
        unfold rowsT
        rw [List.getElem?_map, hp]
        rfl
      rw [e1] at hw
      cases hw
      have okp := ok2 _ (List.mem_of_getElem? hp)
      refine ⟨U, _, rfl, .inl (.inl upd_same), rfl, _, _, rfl, _, _, rfl, rfl, _, rfl, _, rfl, _, _, rfl, rfl, _, rfl, _, _, _, rfl, rowT l[i].1 l[i].2, _, i + 1, lastD (l.take i), rfl, rfl, rfl, ?_, split_row okp.2, ?_, .inl ⟨l[i].1, l[i].2, rfl, okp.1, lastD_le ok3 hp, okp.2, good_rd okp.2, body_ne okp.2, fun H5 v g5 hv => ?_⟩⟩
      · have := rowT_len okp.1 okp.2
        exact Nat.le_trans (show _ ≤ 5306 by omega) (by decide)
      · have := (body_len okp.2).1
        simp only [List.length_cons]
        omega
      obtain ⟨a, y, zz, rfl, hsa, hy1, hz1⟩ := rep2 hv
      obtain rfl : y = .int (l[i].1 : Nat) := hy1
      have B5 := (B4.gr gU).gr g5
      obtain ⟨dx5, vd5, xs5, h51, _⟩ := id B5.ex
      refine ⟨a, _, rfl, hsa, rfl, _, _, rfl, _, _, rfl, rfl, _, rfl, b, dx5, _, rfl, h51, rfl, _, rfl, _, rfl, _, _, _, rfl, b, L, dr, _, l[i].1, l[i].2, rfl, B5, rfl, okp.1, hz1, okp.2, ?_, fun H6 g6 B6 => ⟨by omega, (g4.trans (.of (gU.trans g5))).trans g6, ?_, _, _, _, by rw [lastD_take hp]; exact rfl⟩⟩
      · rw [List.length_map, List.length_take]
        omega
      · have e3 : (l.take i).map some ++ [some (l[i].1, l[i].2)] = (l.take (i + 1)).map some := by
          rw [List.take_add_one, hp, List.map_append]
          rfl
        rw [← e3]
        exact B6
    · rcases hx with ⟨hb0, _⟩ | ⟨z0, r, hb0, hz0, hr0⟩
      · rw [hrl, hb0, List.length_nil] at hi
        omega
      · have ei : i = l.length := by omega
        have e1 : (rowsT l ++ bad)[i]? = some z0 := by
          rw [List.getElem?_append_right (by unfold rowsT; rw [List.length_map]; omega), hb0]
          unfold rowsT
          rw [List.length_map, ei, Nat.sub_self]
          rfl
        rw [e1] at hw
        cases hw
        exact ⟨U, _, rfl, .inl (.inl upd_same), rfl, _, _, rfl, _, _, rfl, rfl, _, rfl, _, rfl, _, _, rfl, rfl, _, rfl, _, _, _, rfl, z0, _, i + 1, lastD (l.take i), rfl, rfl, rfl, hz0.1, rfl, hz0.2.1, .inr ⟨hz0.2.2, fun d H' g hd => hr0 d H' ((gg.trans gU).trans g) (by rw [← ei]; exact hd)⟩⟩
  · rintro σ H4 ⟨hil, g4, B4, o1, o2, o3, rfl⟩
    rw [hrl] at hil
    have hb0 : bad = [] := List.length_eq_zero_iff.mp (by omega)
    rcases hx with ⟨_, q⟩ | ⟨z, r, e, _⟩
    · rw [hrl, hb0, List.length_nil, Nat.add_zero, List.take_length] at B4
      exact ⟨_, rfl, q H4 b L ((GrE.trans (.of g14) g4).grN fun c hc => by rw [hc]; exact nwL) nwb nwL B4⟩
    · rw [e] at hb0
      cases hb0

end
end CK
set_option maxHeartbeats 0
namespace CK
open PySem PySem.Spec PyProof.Rows L2
section
variable {P : Program} {w : World} {K : PySem.W.Frag} {mg : Str → Option Value} {base : Heap}
/-- len, its piece named -/
def rLenSq (K : PySem.W.Frag) : List V → Hp → VK → Prop := fun xs H Q => ∃ p ys, xs = [.ref p] ∧ (SqL K H p ys ∨ SqT K H p ys) ∧ Q (.int (ys.length : Nat)) H
/-! ### the deck -/
structure Dk (H : Hp) (a : Addr) (n : Nat) : Prop where
  ex : ∃ x c m : Nat, H a = some (.lst [.int (x : Nat), .int (c : Nat), .int (m : Nat)]) ∧ c ≤ n ∧ m < 2147483647
abbrev GD (K : PySem.W.Frag) (a : Addr) (H H' : Hp) : Prop := GrE K (fun c => c = a) H H'
theorem Dk.mono {H : Hp} {a : Addr} {n m : Nat} (d : Dk H a n) (h : n ≤ m) : Dk H a m := by
  obtain ⟨x, c, k, e, h1, h2⟩ := d.ex
  exact ⟨x, c, k, e, Nat.le_trans h1 h, h2⟩
theorem Dk.gr {H H' : Hp} {a : Addr} {n : Nat} (d : Dk H a n) (g : Gr K H H') : Dk H' a n := by
  obtain ⟨x, c, k, e, h1, h2⟩ := d.ex
  exact ⟨x, c, k, g.lst e, h1, h2⟩
theorem Dk.add {H : Hp} {a p : Addr} {n : Nat} {o : HO} (d : Dk H a n) (h : H p = none) : Dk (upd H p o) a n := by
  obtain ⟨x, c, k, e, h1, h2⟩ := d.ex
  exact ⟨x, c, k, by rw [upd_ne (ne_of_none e h)]; exact e, h1, h2⟩
theorem Dk.std {H H' : Hp} {a : Addr} {n : Nat} (d : Dk H a n) (g : GD K a H H') : Std H H' := g.std fun b hb => by
  obtain ⟨x, c, k, e, _⟩ := d.ex
  exact ⟨_, by rw [hb]; exact e⟩
/-- a list of other things stands elsewhere -/
theorem Dk.ne {H : Hp} {a b : Addr} {n : Nat} {xs : List V} (d : Dk H a n) (h : H b = some (.lst xs)) (hx : ∀ i j k, xs ≠ [.int i, .int j, .int k]) : b ≠ a := fun z => by
  obtain ⟨x, c, k, e, _⟩ := d.ex
  rw [z, e] at h
  exact hx _ _ _ (HO.lst.inj (Option.some.inj h)).symm
theorem Dk.new {H : Hp} {a b : Addr} {n : Nat} (d : Dk H a n) (h : H b = none) : b ≠ a := fun z => by
  obtain ⟨x, c, k, e, _⟩ := d.ex
  rw [z, e] at h
  cases h
def cap : Nat := 1000000
def spCell (K : PySem.W.Frag) : Sp := sp2 fun x y H Q _ => ∃ (a : Addr) (is : List Int) (k : Nat), x = .ref a ∧ SqL K H a (is.map V.int) ∧ y = .int (k : Nat) ∧ k < 100 ∧ ∀ i, Q (.int i) H
theorem sc__law_cell_at : FnScope ["_law_script", "_law_k"] ["_law_script", "_law_k"] (defScope (top 134)) := ⟨rfl, rfl, rfl, by decide +kernel, rfl, by decide +kernel, by decide +kernel⟩
theorem ok__law_cell_at (T : Tp w K mg base) : Cl P w K mg base CX0 1 "_law_cell_at" (spCell K) := by
  obtain ⟨fd, F⟩ := F__law_cell_at T
  refine ⟨fd, ["_law_script", "_law_k"], F.ok sc__law_cell_at (len2 rfl) (fun cdv A outer s H vs Q E hr h => ?_), G__law_cell_at T, F.kp, F.bindsN fun _ _ _ _ _ _ us hl => match us, hl with | [_, _], _ => rfl⟩
  refine ⟨_, PSs.nox (pss_cons (ps_if (pt_cmpR op_lt (pv 1) (pe_callB call_len_seq (by rfl) (B_len T) (by decide +kernel) (pa_cons (pv 0) pa_nil)) (nomark _)) (pss_one (ps_ret (pe_ix (show IxR _ (rIxL K) from ix_list) (pv 0) (pv 1) (fun _ _ => rfl)))) pss_nil)
  (pss_one (ps_ret pe_int))), ?_⟩
  obtain ⟨v, y, rfl, a, is, k, rfl, hs, rfl, hk, q⟩ := h
  refine ⟨_, rfl, _, rfl, a, _, rfl, .inl hs, _, _, rfl, rfl, _, rfl, ?_⟩
  refine iteV (fun h => ?_) (fun h => q 0)
  have hl : k < (is.map V.int).length := by
    have := of_decide_eq_true h
    omega
  have e := List.getElem?_eq_getElem hl
  refine ⟨_, rfl, _, rfl, a, _, _, _, rfl, rfl, hs, atI_nat e, ?_⟩
  rw [List.getElem_map]
  exact q _

def spDeck (K : PySem.W.Frag) : Sp := sp1 fun x H Q _ => ∃ i : Int, x = .int i ∧ ∀ a H', Gr K H H' → Nw H a → Dk H' a 0 → Q (.ref a) H'
theorem sc__law_deck : FnScope ["_law_cell"] ["_law_cell"] (defScope (top 135)) := ⟨rfl, rfl, rfl, by decide +kernel, rfl, by decide +kernel, by decide +kernel⟩
theorem ok__law_deck (T : Tp w K mg base) : Cl P w K mg base CX0 1 "_law_deck" (spDeck K) := by
  obtain ⟨fd, F⟩ := F__law_deck T
  refine ⟨fd, ["_law_cell"], F.ok sc__law_deck (len1 rfl) (fun cdv A outer s H vs Q E hr h => ?_), G__law_deck T, F.kp, F.bindsN fun _ _ _ _ _ _ us hl => match us, hl with | [_], _ => rfl⟩
  refine ⟨_, PSs.nox (pss_cons (ps_if (pt_cmpR op_lt (pv 0) (pe_op op_pow pe_int pe_int) (nomark _)) (pss_one (ps_ret (pe_lst (pa_cons pe_int (pa_cons pe_int (pa_cons (pe_op op_mod (pv 0) pe_int) pa_nil)))))) pss_nil)
  (pss_one (ps_ret (pe_lst (pa_cons (pv 0) (pa_cons pe_int (pa_cons (pe_op op_mod (pv 0) pe_int) pa_nil))))))), ?_⟩
  obtain ⟨v, rfl, i, rfl, q⟩ := h
  have hm : ∃ m : Nat, i % 2147483647 = (m : Nat) ∧ m < 2147483647 := ⟨(i % 2147483647).toNat, by omega, by omega⟩
  obtain ⟨m, em, hm⟩ := hm
  refine ⟨_, rfl, _, _, rfl, rfl, ⟨by decide, by decide, by decide⟩, _, _, rfl, rfl, _, rfl, ?_⟩
  refine iteV (fun h => ?_) (fun h => ?_)
  · refine ⟨_, rfl, _, _, rfl, rfl, (by show (0 : Int) < 2147483647; decide), (show 3 ≤ sizeLine by decide), fun p hp => q p _ (.new hp) (.of hp) ⟨0, 0, m, ?_, Nat.le_refl _, hm⟩⟩
    rw [upd_same]
    show some (HO.lst [V.int 0, V.int 0, V.int (i % 2147483647)]) = _
    rw [em]
    rfl
  · have h := of_decide_eq_false h
    have h0 : ¬ (i < 10 ^ 18) := h
    refine ⟨_, rfl, _, rfl, _, _, rfl, rfl, (by show (0 : Int) < 2147483647; decide), (show 3 ≤ sizeLine by decide), fun p hp => q p _ (.new hp) (.of hp) ⟨i.toNat, 0, m, ?_, Nat.le_refl _, hm⟩⟩
    rw [upd_same]
    show some (HO.lst [V.int i, V.int 0, V.int (i % 2147483647)]) = _
    rw [em, Int.toNat_of_nonneg (by omega)]
    rfl

theorem of_emod {Q : VK} {H : Hp} {z : Int} {k : Nat} (hk : 0 < k) (q : ∀ i : Nat, i < k → Q (.int (i : Nat)) H) : Q (.int (z % (k : Nat))) H := by
  have e : z % (k : Int) = ((z % (k : Int)).toNat : Nat) := (Int.toNat_of_nonneg (Int.emod_nonneg _ (by omega))).symm
  rw [e]
  have := Int.emod_lt_of_pos z (show (0 : Int) < (k : Nat) by omega)
  exact q _ (by omega)
def spDraw (K : PySem.W.Frag) : Sp := sp2 fun x y H Q _ => ∃ (a : Addr) (n k : Nat), x = .ref a ∧ Dk H a n ∧ n < cap ∧ y = .int (k : Nat) ∧ 0 < k ∧ k < 1073741824 ∧ ∀ (i : Nat) H', i < k → GD K a H H' → Dk H' a (n + 1) → Q (.int (i : Nat)) H'
theorem sc__law_draw : FnScope ["_law_deck_here", "_law_most", "_law_found", "_law_mixed"] ["_law_deck_here", "_law_most"] (defScope (top 136)) := ⟨rfl, rfl, rfl, by decide +kernel, rfl, by decide +kernel, by decide +kernel⟩
theorem ok__law_draw (T : Tp w K mg base) : Cl P w K mg base CX0 1 "_law_draw" (spDraw K) := by
  obtain ⟨fd, F⟩ := F__law_draw T
  refine ⟨fd, ["_law_deck_here", "_law_most"], F.ok sc__law_draw (len2 rfl) (fun cdv A outer s H vs Q E hr h => ?_), G__law_draw T, F.kp, F.bindsN fun _ _ _ _ _ _ us hl => match us, hl with | [_, _], _ => rfl⟩
  refine ⟨_, PSs.nox (pss_cons (ps_if (pt_cmpR op_gt (pe_ix (show IxR _ (rIxL K) from ix_list) (pv 0) pe_int (fun _ _ => rfl)) pe_int (nomark _)) (pss_cons (ps_set (i := 2) sc__law_draw.nd rfl (Or.inl rfl) (pe_op op_mod (pe_ix (show IxR _ (rIxL K) from ix_list) (pv 0) pe_int (fun _ _ => rfl)) (pv 1)))
  (pss_cons (ps_asg (pe_op op_fdiv (pe_ix (show IxR _ (rIxL K) from ix_list) (pv 0) pe_int (fun _ _ => rfl)) (pv 1)) (pg_sub (pv 0) pe_int set_list))
  (pss_one (ps_ret (pv 2))))) pss_nil)
  (pss_cons (ps_asg (pe_op op_add (pe_ix (show IxR _ (rIxL K) from ix_list) (pv 0) pe_int (fun _ _ => rfl)) pe_int) (pg_sub (pv 0) pe_int set_list))
  (pss_cons (ps_set (i := 3) sc__law_draw.nd rfl (Or.inl rfl) (pe_op op_mod (pe_op op_mul (pe_op op_add (pe_ix (show IxR _ (rIxL K) from ix_list) (pv 0) pe_int (fun _ _ => rfl)) (pe_op op_mul (pe_op op_mul pe_int (pe_ix (show IxR _ (rIxL K) from ix_list) (pv 0) pe_int (fun _ _ => rfl))) (pe_ix (show IxR _ (rIxL K) from ix_list) (pv 0) pe_int (fun _ _ => rfl)))) pe_int) pe_int))
  (pss_one (ps_ret (pe_op op_mod (pe_op op_fdiv (pe_op op_mod (pe_op op_mul (pv 3) (pe_op op_add (pv 3) pe_int)) pe_int) pe_int) (pv 1))))))), ?_⟩
  obtain ⟨v, y, rfl, a, n, k, rfl, hd, hn, rfl, hk, hk2, q⟩ := h
  obtain ⟨x, c, m, e, hc, hm⟩ := hd.ex
  have hcap : n < 1000000 := hn
  refine ⟨_, rfl, a, _, 0, _, rfl, rfl, SqL.of e, at_0, _, _, rfl, rfl, _, rfl, ?_⟩
  refine iteV (fun h => ?_) (fun h => ?_)
  · refine ⟨_, rfl, a, _, 0, _, rfl, rfl, SqL.of e, at_0, _, rfl, _, _, rfl, rfl, (show (0 : Int) < (k : Nat) by omega), _, rfl, a, _, 0, _, rfl, rfl, SqL.of e, at_0, _, rfl, _, _, rfl, rfl, ⟨by omega, by omega⟩, _, rfl, a, _, _, 0, rfl, rfl, e, rfl, _, rfl, ?_⟩
    have e1 : ((x : Nat) : Int) % (k : Nat) = ((x % k : Nat) : Nat) := by omega
    have e2 : ((x : Nat) : Int) / (k : Nat) = ((x / k : Nat) : Nat) := by omega
    have hq := q (x % k) _ (Nat.mod_lt _ hk) (GrE.put (l2 := [.int ((x / k : Nat) : Int), .int (c : Nat), .int (m : Nat)]) rfl e) ⟨x / k, c, m, upd_same, by omega, hm⟩
    rw [← e1, ← e2] at hq
    exact hq
  · refine ⟨_, rfl, a, _, 1, _, rfl, rfl, SqL.of e, at_1, _, _, rfl, rfl, _, rfl, a, _, _, 1, rfl, rfl, e, rfl, ?_⟩
    have g1 : GD K a H (upd H a (.lst [.int (x : Nat), .int ((c + 1 : Nat) : Int), .int (m : Nat)])) := .put rfl e
    have e1 : (upd H a (.lst [.int (x : Nat), .int ((c + 1 : Nat) : Int), .int (m : Nat)])) a = some (.lst [.int (x : Nat), .int ((c + 1 : Nat) : Int), .int (m : Nat)]) := upd_same
    have b1 : 7919 * (c + 1) ≤ 7919 * 1000001 := by omega
    have b2 : 7919 * (c + 1) * (c + 1) ≤ 7919 * 1000001 * 1000001 := Nat.mul_le_mul b1 (by omega)
    have b3 : (0 : Int) ≤ 7919 * ((c + 1 : Nat) : Int) * ((c + 1 : Nat) : Int) ∧ 7919 * ((c + 1 : Nat) : Int) * ((c + 1 : Nat) : Int) ≤ 7919 * 1000001 * 1000001 := by
      have e3 : 7919 * ((c + 1 : Nat) : Int) * ((c + 1 : Nat) : Int) = ((7919 * (c + 1) * (c + 1) : Nat) : Int) := by rw [Int.natCast_mul, Int.natCast_mul]; rfl
      rw [e3]
      exact ⟨Int.natCast_nonneg _, Int.ofNat_le.mpr b2⟩
    refine ⟨_, rfl, a, _, 2, _, rfl, rfl, SqL.of e1, at_2, _, rfl, a, _, 1, _, rfl, rfl, SqL.of e1, at_1, _, _, rfl, rfl, .inl ⟨by decide, by decide⟩, _, rfl, a, _, 1, _, rfl, rfl, SqL.of e1, at_1, _, _, rfl, rfl, .inl ⟨by omega, by omega⟩, _, _, rfl, rfl, _, _, rfl, rfl, .inr ⟨by decide, by decide⟩, _, _, rfl, rfl, (by show (0 : Int) < 2147483647; decide), _, rfl, _, rfl, _, _, rfl, rfl, _, _, rfl, rfl, .inl ⟨by omega, by omega⟩, _, _, rfl, rfl, (by show (0 : Int) < 2147483629; decide), _, _, rfl, rfl, ⟨by decide, by decide⟩, _, rfl, _, _, rfl, rfl, (show (0 : Int) < (k : Nat) by omega), ?_⟩
    exact of_emod hk fun i hi => q i _ hi g1 ⟨x, c + 1, m, e1, by omega, hm⟩

end
end CK
set_option maxHeartbeats 0
namespace CK
open PySem PySem.Spec PyProof.Rows L2
section
variable {P : Program} {w : World} {K : PySem.W.Frag} {mg : Str → Option Value} {base : Heap}
theorem at_iV {ds : List Nat} {i : Nat} (h : i < ds.length) : ∃ d ∈ ds, atI (iV ds) (i : Nat) = some (.int (d : Nat)) := by
  refine ⟨ds[i], List.getElem_mem h, atI_nat ?_⟩
  rw [List.getElem?_map, List.getElem?_eq_getElem h]
  rfl
theorem at_str {ws : List Str} {i : Nat} (h : i < ws.length) : ∃ w ∈ ws, atI (ws.map V.str) (i : Nat) = some (.str w) := by
  refine ⟨ws[i], List.getElem_mem h, atI_nat ?_⟩
  rw [List.getElem?_map, List.getElem?_eq_getElem h]
  rfl
theorem GrE.addN {ex : Addr → Prop} {H H1 : Hp} {p : Addr} {o : HO} (e : GrE K ex H H1) (h : H1 p = none) : GrE K ex H (upd H1 p o) := e.trans (.of (.new h))
def spDay (K : PySem.W.Frag) : Sp := sp1 fun x H Q _ => ∃ (a : Addr) (n : Nat), x = .ref a ∧ Dk H a n ∧ n + 10 < cap ∧ ∀ (d : Nat) H', d ≤ 1200 → GD K a H H' → Dk H' a (n + 2) → Q (.int (d : Nat)) H'
theorem sc__law_day : FnScope ["_law_deck_here", "_law_some_here"] ["_law_deck_here"] (defScope (top 140)) := ⟨rfl, rfl, rfl, by decide +kernel, rfl, by decide +kernel, by decide +kernel⟩
theorem ok__law_day (T : Tp w K mg base) : Cl P w K mg base CX0 2 "_law_day" (spDay K) := by
  obtain ⟨fd, F⟩ := F__law_day T
  refine ⟨fd, ["_law_deck_here"], F.ok sc__law_day (len1 rfl) (fun cdv A outer s H vs Q E hr h => ?_), G__law_day T, F.kp, F.bindsN fun _ _ _ _ _ _ us hl => match us, hl with | [_], _ => rfl⟩
  refine ⟨_, PSs.nox (pss_cons (ps_set (i := 1) sc__law_day.nd rfl (Or.inl rfl) (pe_lst (pa_cons pe_int (pa_cons pe_int (pa_cons pe_int (pa_cons pe_int (pa_cons pe_int (pa_cons pe_int (pa_cons pe_int (pa_cons pe_int (pa_cons pe_int (pa_cons pe_int pa_nil))))))))))))
  (pss_one (ps_ret (pe_ix (show IxR _ (rIxL K) from ix_list) (pe_op op_cat (pv 1) (pe_op op_rep (pe_lst (pa_cons (pe_f (ok__law_draw T) hr (pa_cons (pv 0) (pa_cons pe_int pa_nil))) pa_nil)) pe_int)) (pe_f (ok__law_draw T) hr (pa_cons (pv 0) (pa_cons pe_int pa_nil))) (fun _ _ => rfl))))), ?_⟩
  obtain ⟨v, rfl, a, n, rfl, hd, hn, q⟩ := h
  refine ⟨(show 10 ≤ sizeLine by decide), fun p hp => ⟨_, rfl, _, rfl, _, _, rfl, a, _, 1201, rfl, (hd.add hp), by omega, rfl, by decide, by decide, fun i1 H1 hi1 g1 d1 => ⟨(show 1 ≤ sizeLine by decide), fun p2 hp2 => ?_⟩⟩⟩
  have s1 := g1.lst upd_same (hd.new hp)
  have s2 := (Gr.new (K := K) (o := .lst [.int (i1 : Nat)]) hp2).lst s1
  refine ⟨p2, 4, _, rfl, rfl, upd_same, by decide, by decide, (show 1 * 4 ≤ sizeLine by decide), fun p3 hp3 => ?_⟩
  have s3 := (Gr.new (K := K) (o := .lst (List.replicate (4 : Int).toNat [V.int (i1 : Nat)]).flatten) hp3).lst s2
  refine ⟨p, p3, _, _, rfl, rfl, s3, upd_same, (show 10 + 4 ≤ sizeLine by decide), fun p4 hp4 => ?_⟩
  have g4 : Gr K H1 (upd (upd (upd H1 p2 (.lst [.int (i1 : Nat)])) p3 (.lst (List.replicate (4 : Int).toNat [V.int (i1 : Nat)]).flatten)) p4 (.lst (iV [0, 1, 29, 30, 31, 59, 60, 1199, 1200, 1170, i1, i1, i1, i1]))) := ((Gr.new hp2).add hp3).add hp4
  have d4 : Dk _ a _ := d1.gr g4
  refine ⟨_, rfl, _, _, rfl, a, _, 14, rfl, d4, by omega, rfl, by decide, by decide, fun i2 H2 hi2 g2 d2 => ?_⟩
  have s5 := g2.lst upd_same (((d1.add hp2).add hp3).new hp4)
  obtain ⟨d, hmem, he⟩ := at_iV (ds := [0, 1, 29, 30, 31, 59, 60, 1199, 1200, 1170, i1, i1, i1, i1]) (i := i2) hi2
  refine ⟨p4, _, _, _, rfl, rfl, SqL.of s5, he, q d H2 ?_ (((GrE.new hp).trans g1).trans ((GrE.of g4).trans g2)) d2⟩
  simp only [List.mem_cons, List.not_mem_nil, or_false] at hmem
  omega

end
end CK
set_option maxHeartbeats 0
namespace CK
open PySem PySem.Spec PyProof.Rows L2
section
variable {P : Program} {w : World} {K : PySem.W.Frag} {mg : Str → Option Value} {base : Heap}
theorem gcd_low {t b : Nat} (ht : 0 < t) : Nat.gcd (t / Nat.gcd t b) (b / Nat.gcd t b) = 1 := by
  have hg : 0 < Nat.gcd t b := Nat.gcd_pos_of_pos_left _ ht
  have h1 := Nat.gcd_mul_left (Nat.gcd t b) (t / Nat.gcd t b) (b / Nat.gcd t b)
  rw [Nat.mul_div_cancel' (Nat.gcd_dvd_left t b), Nat.mul_div_cancel' (Nat.gcd_dvd_right t b)] at h1
  have h2 : Nat.gcd t b * 1 = Nat.gcd t b * Nat.gcd (t / Nat.gcd t b) (b / Nat.gcd t b) := by rw [Nat.mul_one]; exact h1
  exact (Nat.eq_of_mul_eq_mul_left hg h2).symm
def spLow (K : PySem.W.Frag) : Sp := sp2 fun x y H Q _ => ∃ t b : Nat, x = .int (t : Nat) ∧ y = .int (b : Nat) ∧ 0 < t ∧ t < 10 ^ 12 ∧ 0 < b ∧ b < 10 ^ 12 ∧ ∀ H' t' b' v, okW t' b' → Gr K H H' → Rep K H' (.t [.i t', .i b']) v → Q v H'
theorem sc__law_lowest : FnScope ["_law_top", "_law_bottom", "_law_one", "_law_other"] ["_law_top", "_law_bottom"] (defScope (top 141)) := ⟨rfl, rfl, rfl, by decide +kernel, rfl, by decide +kernel, by decide +kernel⟩
theorem ok__law_lowest (T : Tp w K mg base) : Cl P w K mg base CX0 1 "_law_lowest" (spLow K) := by
  obtain ⟨fd, F⟩ := F__law_lowest T
  refine ⟨fd, ["_law_top", "_law_bottom"], F.ok sc__law_lowest (len2 rfl) (fun cdv A outer s H vs Q E hr h => ?_), G__law_lowest T, F.kp, F.bindsN fun _ _ _ _ _ _ us hl => match us, hl with | [_, _], _ => rfl⟩
  refine ⟨_, PSs.nox (pss_cons (ps_par (i := 2) (j := 3) (by rfl) sc__law_lowest.nd rfl rfl (by decide) rfl rfl (pa_cons (pv 0) (pa_cons (pv 1) pa_nil)) (by rfl))
  (pss_cons (ps_while PassesOwn.never (pt_cmpR op_gt (pv 3) pe_int (nomark _)) (pss_one (ps_par (i := 2) (j := 3) (by rfl) sc__law_lowest.nd rfl rfl (by decide) rfl rfl (pa_cons (pv 3) (pa_cons (pe_op op_mod (pv 2) (pv 3)) pa_nil)) (by rfl))))
  (pss_one (ps_ret (pe_tup (pa_cons (pe_op op_fdivW (pv 0) (pv 2)) (pa_cons (pe_op op_fdivW (pv 1) (pv 2)) pa_nil))))))), ?_⟩
  obtain ⟨v, v2, rfl, t, b, rfl, rfl, h1, h2, h3, h4, q⟩ := h
  refine ⟨_, rfl, _, rfl, _, _, rfl, fun m σ H' => ∃ x y : Nat, σ = [some (.int (t : Nat)), some (.int (b : Nat)), some (.int (x : Nat)), some (.int (y : Nat))] ∧ H' = H ∧ m = y ∧ Nat.gcd x y = Nat.gcd t b, ⟨b, t, b, rfl, rfl, rfl, rfl⟩, ?_⟩
  rintro m σ H' ⟨x, y, rfl, rfl, rfl, hg⟩
  refine ⟨_, rfl, _, _, rfl, rfl, _, rfl, ?_⟩
  refine iteV (fun hb => ?_) (fun hb => ?_)
  · have hb := of_decide_eq_true hb
    refine ⟨fun σ' H'' => ∃ x' y' : Nat, σ' = [some (.int (t : Nat)), some (.int (b : Nat)), some (.int (x' : Nat)), some (.int (y' : Nat))] ∧ H'' = H' ∧ y' < m ∧ Nat.gcd x' y' = Nat.gcd t b, ?_, ?_⟩
    · rintro σ' H'' ⟨x', y', rfl, rfl, hl, hg'⟩
      exact ⟨y', hl, x', y', rfl, rfl, rfl, hg'⟩
    · refine ⟨_, rfl, _, rfl, _, rfl, _, _, rfl, rfl, by show (0 : Int) < m; omega, _, _, rfl, m, x % m, rfl, rfl, Nat.mod_lt _ (by omega), ?_⟩
      rw [← hg, Nat.gcd_comm m, ← Nat.gcd_rec, Nat.gcd_comm]
  · have hb := of_decide_eq_false hb
    have hy : m = 0 := by omega
    subst hy
    rw [Nat.gcd_zero_right] at hg
    have hx : 0 < x := by rw [hg]; exact Nat.gcd_pos_of_pos_left _ h1
    have hxt : x ≤ t := by rw [hg]; exact Nat.gcd_le_left _ h1
    have hxb : x ≤ b := by rw [hg]; exact Nat.gcd_le_right _ h3
    have dv : CDivW ((t : Nat) : Int) ((x : Nat) : Int) := wide_div (b := 40) (by omega) (by rw [Int.natAbs_natCast]; exact Nat.lt_of_le_of_lt hxt (Nat.lt_trans h2 (by decide))) (by decide) (by decide)
    have dv2 : CDivW ((b : Nat) : Int) ((x : Nat) : Int) := dv
    refine ⟨_, rfl, _, rfl, _, _, rfl, rfl, dv, _, rfl, _, rfl, _, _, rfl, rfl, dv2, (show 2 ≤ sizeLine by decide), fun p hp => ?_⟩
    refine q _ (t / x) (b / x) _ ⟨Nat.div_pos hxt hx, Nat.lt_of_le_of_lt (Nat.div_le_self _ _) h2, Nat.div_pos hxb hx, Nat.lt_of_le_of_lt (Nat.div_le_self _ _) h4, by rw [hg]; exact gcd_low h1⟩ (.new hp) (Rep.tup (l := [.i (t / x), .i (b / x)]) ⟨_, _, rfl, rfl, _, _, rfl, rfl, rfl⟩ upd_same)

def spGreat (K : PySem.W.Frag) : Sp := sp1 fun x H Q _ => ∃ (a : Addr) (n : Nat), x = .ref a ∧ Dk H a n ∧ n + 10 < cap ∧ ∀ (g : Nat) H', okG g → GD K a H H' → Dk H' a (n + 5) → Q (.int (g : Nat)) H'
theorem int_nat {Q : VK} {H : Hp} {z : Int} {n : Nat} (e : z = n) (q : Q (.int (n : Nat)) H) : Q (.int z) H := by rw [e]; exact q
theorem sc__law_great : FnScope ["_law_deck_here", "_law_way"] ["_law_deck_here"] (defScope (top 145)) := ⟨rfl, rfl, rfl, by decide +kernel, rfl, by decide +kernel, by decide +kernel⟩
theorem ok__law_great (T : Tp w K mg base) : Cl P w K mg base CX0 2 "_law_great" (spGreat K) := by
  obtain ⟨fd, F⟩ := F__law_great T
  refine ⟨fd, ["_law_deck_here"], F.ok sc__law_great (len1 rfl) (fun cdv A outer s H vs Q E hr h => ?_), G__law_great T, F.kp, F.bindsN fun _ _ _ _ _ _ us hl => match us, hl with | [_], _ => rfl⟩
  refine ⟨_, PSs.nox (pss_cons (ps_set (i := 1) sc__law_great.nd rfl (Or.inl rfl) (pe_f (ok__law_draw T) hr (pa_cons (pv 0) (pa_cons pe_int pa_nil))))
  (pss_cons (ps_if (pt_cmpR op_lt (pv 1) pe_int (nomark _)) (pss_one (ps_ret (pe_op op_add pe_int (pe_f (ok__law_draw T) hr (pa_cons (pv 0) (pa_cons (pe_ix (show IxR _ (rIxL K) from ix_list) (pe_lst (pa_cons pe_int (pa_cons (pe_op op_pow pe_int pe_int) pa_nil))) (pv 1) (fun _ _ => rfl)) pa_nil)))))) pss_nil)
  (pss_cons (ps_if (pt_cmpR op_eq (pv 1) pe_int (nomark _)) (pss_one (ps_ret (pe_op op_sub (pe_op op_sub (pe_op op_pow pe_int pe_int) pe_int) (pe_f (ok__law_draw T) hr (pa_cons (pv 0) (pa_cons pe_int pa_nil)))))) pss_nil)
  (pss_one (ps_ret (pe_op op_add (pe_op op_add (pe_op op_mul (pe_f (ok__law_draw T) hr (pa_cons (pv 0) (pa_cons (pe_op op_pow pe_int pe_int) pa_nil))) (pe_op op_pow pe_int pe_int)) pe_int) (pe_f (ok__law_draw T) hr (pa_cons (pv 0) (pa_cons pe_int pa_nil))))))))), ?_⟩
  obtain ⟨v, rfl, a, n, rfl, hd, hn, q⟩ := h
  refine ⟨_, rfl, _, _, rfl, a, _, 4, rfl, hd, by omega, rfl, by decide, by decide, fun i1 H1 hi1 g1 d1 => ⟨_, rfl, _, _, rfl, rfl, _, rfl, ?_⟩⟩
  refine iteV (fun hb => ?_) (fun hb => ?_)
  · have hb := of_decide_eq_true hb
    refine ⟨_, rfl, _, _, rfl, rfl, ⟨by decide, by decide, by decide⟩, (show 2 ≤ sizeLine by decide), fun p hp => ?_⟩
    obtain ⟨k, hk, he⟩ := at_iV (ds := [9, 1000000]) (i := i1) (by show i1 < 2; omega)
    simp only [List.mem_cons, List.not_mem_nil, or_false] at hk
    refine ⟨_, rfl, p, _, _, _, rfl, rfl, SqL.of upd_same, he, _, _, rfl, a, _, k, rfl, d1.add hp, by omega, rfl, by omega, by omega, fun i2 H2 hi2 g2 d2 => ⟨_, _, rfl, rfl, ?_⟩⟩
    exact int_nat (n := 1 + i2) (by omega) (q _ _ ⟨by omega, by omega⟩ ((g1.addN hp).trans g2) (d2.mono (by omega)))
  · refine ⟨_, rfl, rfl, _, rfl, ?_⟩
    refine iteV (fun _ => ?_) (fun _ => ?_)
    · refine ⟨_, _, rfl, rfl, ⟨by decide, by decide, by decide⟩, _, _, rfl, rfl, _, rfl, _, _, rfl, a, _, 3, rfl, d1, by omega, rfl, by decide, by decide, fun i2 H2 hi2 g2 d2 => ⟨_, _, rfl, rfl, ?_⟩⟩
      refine int_nat (n := 10 ^ 12 - 1 - i2) ?_ (q _ _ ⟨by omega, by omega⟩ (g1.trans g2) (d2.mono (by omega)))
      show (10 : Int) ^ 12 - 1 - (i2 : Nat) = _
      omega
    · refine ⟨_, rfl, _, _, rfl, rfl, ⟨by decide, by decide, by decide⟩, _, _, rfl, a, _, 1000000, rfl, d1, by omega, rfl, by decide, by decide, fun i2 H2 hi2 g2 d2 => ⟨_, _, rfl, rfl, ⟨by decide, by decide, by decide⟩, _, _, rfl, rfl, .inl ⟨by omega, by omega⟩, _, _, rfl, rfl, _, rfl, _, _, rfl, a, _, 999999, rfl, d2, by omega, rfl, by decide, by decide, fun i3 H3 hi3 g3 d3 => ⟨_, _, rfl, rfl, ?_⟩⟩⟩
      refine int_nat (n := i2 * 1000000 + 1 + i3) ?_ (q _ _ ⟨by omega, by omega⟩ ((g1.trans g2).trans g3) (d3.mono (by omega)))
      show ((i2 : Nat) : Int) * 10 ^ 6 + 1 + (i3 : Nat) = _
      omega

def spPick (K : PySem.W.Frag) : Sp := sp2 fun x y H Q _ => ∃ (a l : Addr) (n : Nat) (ws : List Str), x = .ref a ∧ Dk H a n ∧ n + 10 < cap ∧ y = .ref l ∧ H l = some (.lst (ws.map V.str)) ∧ l ≠ a ∧ ws ≠ [] ∧ ws.length ≤ 1000 ∧ ∀ w H', w ∈ ws → GD K a H H' → Dk H' a (n + 1) → Q (.str w) H'
theorem sc__law_pick : FnScope ["_law_deck_here", "_law_words_here"] ["_law_deck_here", "_law_words_here"] (defScope (top 144)) := ⟨rfl, rfl, rfl, by decide +kernel, rfl, by decide +kernel, by decide +kernel⟩
theorem ok__law_pick (T : Tp w K mg base) : Cl P w K mg base CX0 2 "_law_pick" (spPick K) := by
  obtain ⟨fd, F⟩ := F__law_pick T
  refine ⟨fd, ["_law_deck_here", "_law_words_here"], F.ok sc__law_pick (len2 rfl) (fun cdv A outer s H vs Q E hr h => ?_), G__law_pick T, F.kp, F.bindsN fun _ _ _ _ _ _ us hl => match us, hl with | [_, _], _ => rfl⟩
  refine ⟨_, PSs.nox (pss_one (ps_ret (pe_ix (show IxR _ (rIxL K) from ix_list) (pv 1) (pe_f (ok__law_draw T) hr (pa_cons (pv 0) (pa_cons (pe_callB call_len_seq (by rfl) (B_len T) (by decide +kernel) (pa_cons (pv 1) pa_nil)) pa_nil))) (fun _ _ => rfl)))), ?_⟩
  obtain ⟨v, v2, rfl, a, l, n, ws, rfl, hd, hn, rfl, hl, hne, h0, hw, q⟩ := h
  have hpos := List.length_pos_iff.mpr h0
  refine ⟨_, rfl, _, rfl, _, rfl, l, _, rfl, .inl (SqL.of hl), _, _, rfl, a, n, ws.length, rfl, hd, by omega, by rw [List.length_map], hpos, by omega, fun i H1 hi g1 d1 => ?_⟩
  obtain ⟨w, hm, he⟩ := at_str (ws := ws) hi
  exact ⟨l, _, _, _, rfl, rfl, SqL.of (g1.lst hl hne), he, q w H1 hm g1 d1⟩

end
end CK
set_option maxHeartbeats 0
namespace CK
open PySem PySem.Spec PyProof.Rows L2
section
variable {P : Program} {w : World} {K : PySem.W.Frag} {mg : Str → Option Value} {base : Heap}
theorem app_emp (x : Str) : x ++ .ofString "" = x := by
  apply TL.ext_tl
  rw [TL.tl_append]
  exact List.append_nil _
def spWeight (K : PySem.W.Frag) : Sp := sp1 fun x H Q _ => ∃ (a : Addr) (n : Nat), x = .ref a ∧ Dk H a n ∧ n + 20 < cap ∧ ∀ (t b : Nat) H', okW t b → GD K a H H' → Dk H' a (n + 15) → Q (.str (wS t b)) H'
theorem sc__law_weight : FnScope ["_law_deck_here", "_law_top", "_law_bottom"] ["_law_deck_here"] (defScope (top 146)) := ⟨rfl, rfl, rfl, by decide +kernel, rfl, by decide +kernel, by decide +kernel⟩
theorem ok__law_weight (T : Tp w K mg base) : Cl P w K mg base CX0 3 "_law_weight" (spWeight K) := by
  obtain ⟨fd, F⟩ := F__law_weight T
  refine ⟨fd, ["_law_deck_here"], F.ok sc__law_weight (len1 rfl) (fun cdv A outer s H vs Q E hr h => ?_), G__law_weight T, F.kp, F.bindsN fun _ _ _ _ _ _ us hl => match us, hl with | [_], _ => rfl⟩
  refine ⟨_, PSs.nox (pss_cons (ps_asg (pe_f (ok__law_lowest T) hr (pa_cons (pe_f (ok__law_great T) hr (pa_cons (pv 0) pa_nil)) (pa_cons (pe_ix (show IxR _ (rIxL K) from ix_list) (pe_lst (pa_cons pe_int (pa_cons (pe_f (ok__law_great T) hr (pa_cons (pv 0) pa_nil)) pa_nil))) (pe_f (ok__law_draw T) hr (pa_cons (pv 0) (pa_cons pe_int pa_nil))) (fun _ _ => rfl)) pa_nil))) (show PG _ _ (gTup K 2 _) from pg_tup rfl (pgs_cons (pg_name (i := 1) sc__law_weight.nd rfl (Or.inl rfl)) (pgs_cons (pg_name (i := 2) sc__law_weight.nd rfl (Or.inl rfl)) pgs_nil))))
  (pss_one (ps_ret (pe_op op_add_str (pe_callTy call_str_int (by rfl) (B_str T) (by decide +kernel) (pa_cons (pv 1) pa_nil)) (pe_ix (show IxR _ (rIxL K) from ix_list) (pe_lst (pa_cons (pe_op op_add_str pe_str (pe_callTy call_str_int (by rfl) (B_str T) (by decide +kernel) (pa_cons (pv 2) pa_nil))) (pa_cons pe_str pa_nil))) (pe_callTy call_int1 (by rfl) (B_int T) (by decide +kernel) (pa_cons (pe_cmpR op_eq (pv 2) pe_int (nomark _)) pa_nil)) (fun _ _ => rfl)))))), ?_⟩
  obtain ⟨v, rfl, a, n, rfl, hd, hn, q⟩ := h
  refine ⟨_, rfl, _, rfl, a, n, rfl, hd, by omega, fun g H1 hg g1 d1 => ⟨_, rfl, _, rfl, a, _, rfl, d1, by omega, fun g' H2 hg' g2 d2 => ⟨(show 2 ≤ sizeLine by decide), fun p hp => ?_⟩⟩⟩
  refine ⟨_, rfl, _, _, rfl, a, _, 2, rfl, d2.add hp, by omega, rfl, by decide, by decide, fun i H3 hi g3 d3 => ?_⟩
  obtain ⟨b0, hb0, he⟩ := at_iV (ds := [1, g']) (i := i) hi
  have hb1 : 0 < b0 ∧ b0 < 10 ^ 12 := by
    simp only [List.mem_cons, List.not_mem_nil, or_false] at hb0
    rcases hb0 with rfl | rfl
    · exact ⟨by decide, by decide⟩
    · exact hg'
  have s1 := g3.lst upd_same (d2.new hp)
  refine ⟨p, _, _, _, rfl, rfl, SqL.of s1, he, _, _, rfl, g, b0, rfl, rfl, hg.1, hg.2, hb1.1, hb1.2, fun H4 t b v hw g4 hv => ?_⟩
  obtain ⟨c, y, z, rfl, hc, hy, hz⟩ := rep2 hv
  obtain rfl : y = .int (t : Nat) := hy
  obtain rfl : z = .int (b : Nat) := hz
  have l1 := nS_le hw.2.1
  have l2 := nS_le hw.2.2.2.1
  have e1 : (Str.ofString "/").length = 1 := rfl
  refine ⟨c, _, rfl, hc, rfl, _, _, rfl, _, _, rfl, rfl, _, rfl, _, rfl, nlog hw.2.1, _, rfl, _, rfl, nlog hw.2.2.2.1, _, _, rfl, rfl, small (show (Str.ofString "/").length + (nS b).length ≤ 1000 by omega), (show 2 ≤ sizeLine by decide), fun p2 hp2 => ?_⟩
  have d5 := (d3.gr g4).add (o := .lst [V.str (.ofString "/" ++ nS b), V.str (.ofString "")]) hp2
  have g5 : GD K a H (upd H4 p2 (.lst [V.str (.ofString "/" ++ nS b), V.str (.ofString "")])) := (((g1.trans g2).addN hp).trans g3).trans (.of (g4.add hp2))
  have key : ∀ z : Str, nS t ++ z = wS t b → z.length ≤ 13 → ∃ i j : Str, V.str (nS t) = .str i ∧ V.str z = .str j ∧ i.length + j.length ≤ sizeLine ∧ Q (.str (i ++ j)) (upd H4 p2 (.lst [V.str (.ofString "/" ++ nS b), V.str (.ofString "")])) := fun z hz hl => by
    refine ⟨_, _, rfl, rfl, small (by omega), ?_⟩
    rw [hz]
    exact q t b _ hw g5 (d5.mono (by omega))
  by_cases hb : b = 1
  · subst hb
    exact ⟨_, rfl, rfl, .inr ⟨_, rfl, p2, _, 1, _, rfl, rfl, SqL.of upd_same, at_1, key _ (by rw [app_emp]; rfl) (by decide)⟩⟩
  · refine ⟨_, rfl, rfl, .inr ⟨_, rfl, ?_⟩⟩
    rw [show decide (V.int (b : Nat) = V.int 1) = false from decide_eq_false fun z => hb (by injection z; omega)]
    exact ⟨p2, _, 0, _, rfl, rfl, SqL.of upd_same, at_0, key _ (by unfold wS; rw [if_neg hb]; rfl) (show (Str.ofString "/" ++ nS b).length ≤ 13 by rw [app_len]; omega)⟩

theorem erase_perm {α : Type} : ∀ {l : List α} {i : Nat} {x : α}, l[i]? = some x → (x :: l.eraseIdx i).Perm l
  | [], _, _, h => by simp at h
  | y :: l, 0, x, h => by
    simp at h
    subst h
    exact .refl _
  | y :: l, i + 1, x, h => by
    have ih := erase_perm (l := l) (i := i) (x := x) (by simpa using h)
    exact (List.Perm.swap y x (l.eraseIdx i)).trans (ih.cons y)
theorem erase_map {α β : Type} (f : α → β) : ∀ {l : List α} {i : Nat}, (l.map f).eraseIdx i = (l.eraseIdx i).map f
  | [], _ => rfl
  | _ :: _, 0 => rfl
  | x :: l, i + 1 => by
    show f x :: (l.map f).eraseIdx i = f x :: (l.eraseIdx i).map f
    rw [erase_map f]
theorem GrE.drop {a l : Addr} {H H' : Hp} (g : GrE K (fun c => c = a ∨ c = l) H H') (h : Nw H l) : GD K a H H' := ⟨fun b o q n x => g.keep b o q n fun z => by
  rcases z with z | z
  · exact x z
  · rw [z] at q
    obtain ⟨ps, w⟩ := h o q
    exact n ps w, g.tabs⟩
theorem GrE.putN {ex : Addr → Prop} {H H1 : Hp} {p : Addr} {l1 l2 : List V} (e : GrE K ex H H1) (h : H p = none) (h1 : H1 p = some (.lst l1)) : GrE K ex H (upd H1 p (.lst l2)) :=
  ⟨fun b o q n x => by
    rw [upd_ne (ne_of_none q h)]
    exact e.keep b o q n x, fun t => (GrE.put (K := K) (ex := fun c => c = p) rfl h1).tabs (e.tabs t)⟩
theorem Dk.put {H : Hp} {a p : Addr} {n : Nat} {o : HO} (d : Dk H a n) (h : p ≠ a) : Dk (upd H p o) a n := by
  obtain ⟨x, c, k, e, h1, h2⟩ := d.ex
  exact ⟨x, c, k, by rw [upd_ne (Ne.symm h)]; exact e, h1, h2⟩
theorem Nw.backE {ex : Addr → Prop} {H H1 : Hp} {a : Addr} (g : GrE K ex H H1) (nx : ¬ ex a) (h : Nw H1 a) : Nw H a := fun o e => by
  cases o with
  | tbl ps => exact ⟨ps, rfl⟩
  | _ =>
    obtain ⟨ps, z⟩ := h _ (g.keep a _ e (fun ps z => by cases z) nx)
    cases z
theorem GrE.dropN {ex : Addr → Prop} {a : Addr} {H H' : Hp} (g : GrE K ex H H') (h : ∀ c, ex c → c = a ∨ Nw H c) : GD K a H H' := ⟨fun b o q n x => g.keep b o q n fun z => by
  rcases h b z with z | z
  · exact x z
  · obtain ⟨ps, w⟩ := z o q
    exact n ps w, g.tabs⟩
def spSome (K : PySem.W.Frag) : Sp := sp3 fun x y z H Q _ => ∃ (a l : Addr) (n m : Nat) (ws : List Str), x = .ref a ∧ Dk H a n ∧ n + 100 < cap ∧ y = .ref l ∧ H l = some (.lst (ws.map V.str)) ∧ ws.length ≤ 20 ∧ z = .int (m : Nat) ∧ 0 < m ∧
  ∀ (q : Addr) (vs rem : List Str) H', H' q = some (.lst (vs.map V.str)) → (vs ++ rem).Perm ws → min ws.length m ≤ vs.length → vs.length ≤ m + 2 → GD K a H H' → Dk H' a (n + 25) → Nw H q → q ≠ a → Q (.ref q) H'
theorem sc__law_some : FnScope ["_law_deck_here", "_law_words_here", "_law_least", "_law_left", "_law_many", "_law_k"] ["_law_deck_here", "_law_words_here", "_law_least"] (defScope (top 143)) := ⟨rfl, rfl, rfl, by decide +kernel, rfl, by decide +kernel, by decide +kernel⟩
theorem ok__law_some (T : Tp w K mg base) : Cl P w K mg base CX0 2 "_law_some" (spSome K) := by
  obtain ⟨fd, F⟩ := F__law_some T
  refine ⟨fd, ["_law_deck_here", "_law_words_here", "_law_least"], F.ok sc__law_some (len3 rfl) (fun cdv A outer s H vs Q E hr h => ?_), G__law_some T, F.kp, F.bindsN fun _ _ _ _ _ _ us hl => match us, hl with | [_, _, _], _ => rfl⟩
  refine ⟨_, PSs.nox (pss_cons (ps_set (i := 3) sc__law_some.nd rfl (Or.inr rfl) (pe_callTy call_list_of (by rfl) (B_list T) (by decide +kernel) (pa_cons (pv 1) pa_nil)))
  (pss_cons (ps_set (i := 4) sc__law_some.nd rfl (Or.inl rfl) (pe_callB (call_min2 rfl) (by rfl) (B_min T) (by decide +kernel) (pa_cons (pe_callB call_len_seq (by rfl) (B_len T) (by decide +kernel) (pa_cons (pv 1) pa_nil)) (pa_cons (pe_op op_add (pv 2) (pe_f (ok__law_draw T) hr (pa_cons (pv 0) (pa_cons pe_int pa_nil)))) pa_nil))))
  (pss_one (ps_ret (pe_lc (own := [("_law_k", 5)]) rfl sc__law_some.nd (pi_range1 (by rfl) (B_range T) (pa_cons (pv 4) pa_nil)) (blkOk_by (own := [("_law_k", 5)]) (N := ["_law_deck_here", "_law_words_here", "_law_least", "_law_left", "_law_many", "_law_k"]) (sc := defScope (top 143)) (by decide +kernel)) (fun _ _ _ _ _ => (pg_name (i := 5) sc__law_some.nd rfl (Or.inl rfl))) (fun _ _ _ _ _ => pts_nil) (fun _ _ _ _ _ => (show PE _ _ (tBM K "list" rPopAt _ _) from pe_bm PySem.F.plainAttrs_list PySem.F.slot_list_pop PySem.F.type_list_pop mt_popAt (pv 3) (pa_cons (pe_f (ok__law_draw T) hr (pa_cons (pv 0) (pa_cons (show PE _ _ (tCB (rLenSq K) _) from pe_callB call_len_seq (by rfl) (B_len T) (by decide +kernel) (pa_cons (pv 3) pa_nil)) pa_nil))) pa_nil)))))))), ?_⟩
  obtain ⟨v, v2, v3, rfl, a, l, n, m, ws, rfl, hd, hn, rfl, hl, hw, rfl, hm, q⟩ := h
  refine ⟨_, rfl, l, _, rfl, .inl (SqL.of hl), fun p hp => ⟨_, rfl, l, _, rfl, .inl (SqL.of ((Gr.new (K := K) hp).lst hl)), _, rfl, _, rfl, _, _, rfl, a, _, 3, rfl, hd.add hp, by omega, rfl, by decide, by decide, fun i1 H1 hi1 g1 d1 => ⟨_, _, rfl, rfl, ?_⟩⟩⟩
  have hpa := hd.new hp
  have s1 := g1.lst upd_same hpa
  obtain ⟨k, ek, hk1, hk2, hk3⟩ : ∃ k : Nat, (if (m : Int) + (i1 : Nat) < (((ws.map V.str).length : Nat) : Int) then (m : Int) + (i1 : Nat) else (((ws.map V.str).length : Nat) : Int)) = (k : Nat) ∧ min ws.length m ≤ k ∧ k ≤ ws.length ∧ k ≤ m + 2 := by
    rw [List.length_map]
    by_cases hlt : (m : Int) + (i1 : Nat) < ((ws.length : Nat) : Int)
    · rw [if_pos hlt]
      exact ⟨m + i1, by omega, by omega, by omega, by omega⟩
    · rw [if_neg hlt]
      exact ⟨ws.length, rfl, by omega, by omega, by omega⟩
  refine ⟨_, _, rfl, ?_⟩
  rw [ek]
  refine ⟨_, rfl, k, rfl, by omega, by omega, ?_⟩
  refine fun D hD => lc_I (walk_range (lo := 0) (n := k)) (fun i acc H' => ∃ vs rem : List Str, acc = vs.map V.str ∧ vs.length = i ∧ (vs ++ rem).Perm ws ∧ H' p = some (.lst (rem.map V.str)) ∧ GrE K (fun c => c = a ∨ c = p) H1 H' ∧ Dk H' a (n + 1 + i)) ?_ (fun _ _ _ _ => trivial) ?_ ?_
  · exact ⟨[], ws, rfl, rfl, .refl _, (Gr.new (K := K) hD).lst s1, .of (.new hD), d1.add hD⟩
  · rintro i x H2 _ acc hi hla hDa ⟨vs, rem, rfl, hvl, hpm, hp2, g2, d2⟩ ⟨rfl, rfl⟩
    have hrem : 0 < rem.length := by
      have := hpm.length_eq
      rw [List.length_append] at this
      omega
    have hrl : rem.length ≤ 20 := by
      have := hpm.length_eq
      rw [List.length_append] at this
      omega
    refine ⟨rfl, _, rfl, .inl ⟨rfl, _, SqL.of hp2⟩, _, rfl, _, rfl, p, _, rfl, .inl (SqL.of hp2), _, _, rfl, a, _, rem.length, rfl, d2, by omega, by rw [List.length_map], hrem, by omega, fun i2 H3 hi2 g3 d3 => ?_⟩
    have s3 := g3.lst hp2 hpa
    have hDne : D ≠ a := fun z => by
      rw [z] at hD
      obtain ⟨_, _, _, e, _⟩ := d1.ex
      rw [e] at hD
      cases hD
    have hDp : D ≠ p := fun z => by rw [z, s1] at hD; cases hD
    have D3 := g3.lst hDa hDne
    have ex := List.getElem?_eq_getElem (l := rem) (i := i2) hi2
    refine ⟨p, _, _, i2, .str rem[i2], rfl, rfl, s3, by omega, by omega, (ixN_seq (ixN_nat (by rw [List.length_map]; exact hi2))).1, by rw [List.getElem?_map, ex]; rfl, ?_⟩
    rw [erase_map]
    have g4 : GrE K (fun c => c = a ∨ c = p) H1 (upd H3 p (.lst ((rem.eraseIdx i2).map V.str))) := (g2.trans (g3.mono fun _ z => .inl z)).trans (.put (.inr rfl) s3)
    have D4 : (upd H3 p (.lst ((rem.eraseIdx i2).map V.str))) D = some (.lst (vs.map V.str)) := by rw [upd_ne hDp]; exact D3
    refine LcE.of D4 (by rw [List.length_map]; exact hvl) (small (by omega)) ⟨vs ++ [rem[i2]], rem.eraseIdx i2, by rw [List.map_append]; rfl, by rw [List.length_append, hvl]; rfl, ?_, ?_, ?_, ?_⟩
    · rw [List.append_assoc]
      exact ((erase_perm ex).append_left vs).trans hpm
    · rw [upd_ne (Ne.symm hDp), upd_same]
    · exact g4.putN hD D4
    · exact (((d3.mono (by omega)).put (Dk.ne d3 s3 (fun _ _ _ z => by cases rem <;> cases z))).put hDne)
  · rintro H2 acc hla hDa ⟨vs, rem, rfl, hvl, hpm, hp2, g2, d2⟩
    exact q D vs rem H2 hDa hpm (by omega) (by omega) ((((GrE.new hp).trans g1).mono fun _ z => .inl z).trans g2 |>.drop (.of hp)) (d2.mono (by omega)) (Nw.backE ((GrE.new hp).trans g1) (d1.new hD) (.of hD)) (d1.new hD)

end
end CK
set_option maxHeartbeats 0
namespace CK
open PySem PySem.Spec PyProof.Rows L2
section
variable {P : Program} {w : World} {K : PySem.W.Frag} {mg : Str → Option Value} {base : Heap}
/-- join, its piece named -/
def rJoin (K : PySem.W.Frag) : V → List V → Hp → VK → Prop := fun x xs H Q => ∃ a p, ∃ ys : List Str, x = .str a ∧ xs = [.ref p] ∧ (SqL K H p (ys.map V.str) ∨ SqT K H p (ys.map V.str)) ∧ (ys.map (·.length)).sum + ys.length * a.length ≤ 16777216 ∧ Q (.str (Txt.join a ys)) H
/-- names by the numbers of their letters -/
def nm (ss : List Nat) : Str := SX.S (ss.map (97 + ·))
def let1 (s : Nat) : Str := ⟨#[97 + s]⟩
theorem cl_nm (ss : List Nat) : cl (nm ss) = ss.map (97 + ·) := rfl
theorem nm_inj {a b : List Nat} (h : nm a = nm b) : a = b := by
  have e : cl (nm a) = cl (nm b) := by rw [h]
  rw [cl_nm, cl_nm] at e
  exact (List.map_inj_right (fun x y h => by omega)).mp e
theorem nm_ok {ss : List Nat} (h1 : 1 ≤ ss.length) (h2 : ss.length ≤ 8) (h : ∀ s ∈ ss, s < 26) : isNm (nm ss) = true := by
  unfold isNm
  have hl : (nm ss).length = ss.length := by rw [← cl_len, cl_nm, List.length_map]
  rw [hl, decide_eq_true (by omega), decide_eq_true (by omega), Bool.true_and, Bool.true_and]
  unfold allIn
  rw [cl_nm, List.all_eq_true]
  intro c hc
  obtain ⟨s, hs, rfl⟩ := List.mem_map.mp hc
  have := h s hs
  have e : cl (.ofString "abcdefghijklmnopqrstuvwxyz") = (List.range 26).map (97 + ·) := by decide +kernel
  rw [e]
  exact decide_eq_true (List.mem_map.mpr ⟨s, List.mem_range.mpr this, rfl⟩)
theorem letter_at {s : Nat} (h : s < 26) : atI (Str.cps (.ofString "abcdefghijklmnopqrstuvwxyz")).toList (s : Nat) = some (97 + s) := by
  have e : cl (.ofString "abcdefghijklmnopqrstuvwxyz") = (List.range 26).map (97 + ·) := by decide +kernel
  refine atI_nat ?_
  show (cl (.ofString "abcdefghijklmnopqrstuvwxyz"))[s]? = _
  rw [e, List.getElem?_map, List.getElem?_range h]
  rfl
theorem joinL_nil : ∀ l : List (List Nat), TL.joinL [] l = l.flatten
  | [] => rfl
  | [x] => by simp [TL.joinL]
  | x :: y :: l => by
    have e : TL.joinL [] (x :: y :: l) = x ++ TL.joinL [] (y :: l) := by simp [TL.joinL]
    rw [e, joinL_nil (y :: l)]
    simp
theorem join_nm (ss : List Nat) : Txt.join (.ofString "") (ss.map let1) = nm ss := by
  have e0 : Str.ofString "" = SX.S [] := by decide +kernel
  have e1 : ss.map let1 = (ss.map fun s => [97 + s]).map SX.S := by rw [List.map_map]; rfl
  rw [e0, e1, SX.join_S, joinL_nil]
  unfold nm
  have e2 : ∀ l : List Nat, (l.map fun s => [97 + s]).flatten = l.map (97 + ·) := fun l => by
    induction l with
    | nil => rfl
    | cons s l ih => simp [ih]
  rw [e2]
theorem sum_let (ss : List Nat) (h : ss.length ≤ 1000) : ((ss.map let1).map (·.length)).sum + (ss.map let1).length * (Str.ofString "").length ≤ 16777216 := by
  have e : ((ss.map let1).map (·.length)) = ss.map fun _ => 1 := by rw [List.map_map]; rfl
  have e2 : (ss.map fun _ : Nat => 1).sum = ss.length := by
    clear h e
    induction ss with
    | nil => rfl
    | cons s ss ih => simp [ih]; omega
  have e3 : (Str.ofString "").length = 0 := rfl
  rw [e, e2, e3]
  omega
theorem ints_of {acc : List V} {k : Nat} (h : ∀ (i : Nat) (y : V), acc[i]? = some y → ∃ s : Nat, s < k ∧ y = .int (s : Nat)) : ∃ ss : List Nat, acc = iV ss ∧ ∀ s ∈ ss, s < k := by
  induction acc with
  | nil => exact ⟨[], rfl, fun s hs => by cases hs⟩
  | cons y acc ih =>
    obtain ⟨ss, e, hs⟩ := ih fun i z hz => h (i + 1) z (by simpa using hz)
    obtain ⟨s, h1, h2⟩ := h 0 y rfl
    exact ⟨s :: ss, by rw [h2, e]; rfl, fun x hx => by
      rcases List.mem_cons.mp hx with rfl | hx
      · exact h1
      · exact hs x hx⟩
/-- names: eight, unlike -/
def okN (ns : List Str) : Prop := ns.length = 8 ∧ (∀ n ∈ ns, isNm n = true) ∧ ns.Nodup
theorem names1 {ss : List Nat} (hl : ss.length = 8) (h : ∀ s ∈ ss, s < 26) : okN ((List.range 8).map fun k => nm (ss.take (k + 1))) := by
  refine ⟨by simp, fun n hn => ?_, ?_⟩
  · obtain ⟨k, hk, rfl⟩ := List.mem_map.mp hn
    have := List.mem_range.mp hk
    refine nm_ok ?_ ?_ fun s hs => h s (List.mem_of_mem_take hs)
    · rw [List.length_take]; omega
    · rw [List.length_take]; omega
  · refine List.pairwise_map.mpr (List.Pairwise.imp_of_mem (fun {a b} ha hb hab e => hab ?_) (List.nodup_range (n := 8)))
    have := congrArg List.length (nm_inj e)
    rw [List.length_take, List.length_take] at this
    have h1 := List.mem_range.mp ha
    have h2 := List.mem_range.mp hb
    omega
theorem names2 {ss : List Nat} {j w : Nat} (h1 : 1 ≤ ss.length) (h2 : ss.length ≤ 8) (h : ∀ s ∈ ss, s < 26) (hj : j < ss.length) : okN ((List.range 8).map fun k => nm (ss.set j ((w + k + 1) % 26))) := by
  refine ⟨by simp, fun n hn => ?_, ?_⟩
  · obtain ⟨k, hk, rfl⟩ := List.mem_map.mp hn
    refine nm_ok (by rw [List.length_set]; exact h1) (by rw [List.length_set]; exact h2) fun s hs => ?_
    rcases List.mem_or_eq_of_mem_set hs with q | rfl
    · exact h s q
    · exact Nat.mod_lt _ (by decide)
  · refine List.pairwise_map.mpr (List.Pairwise.imp_of_mem (fun {a b} ha hb hab e => hab ?_) (List.nodup_range (n := 8)))
    have e2 := congrArg (fun l : List Nat => l[j]?) (nm_inj e)
    simp only [List.getElem?_set_self hj] at e2
    have e3 := Option.some.inj e2
    have h1 := List.mem_range.mp ha
    have h2 := List.mem_range.mp hb
    omega
theorem cut_to {xs : List V} {z : Int} {n : Nat} (e : z = n) : cutV xs none (some z) = xs.take n := by
  unfold cutV
  rw [HT.sIx_none, e, HT.sIx_nat, List.drop_zero, Nat.sub_zero]
  by_cases h : n ≤ xs.length
  · rw [Nat.min_eq_left h]
  · rw [Nat.min_eq_right (by omega), List.take_of_length_le (Nat.le_refl _), List.take_of_length_le (by omega)]
theorem set_self {ss : List Nat} {j w : Nat} (h : ss[j]? = some w) (hw : w < 26) : ss.set j ((w + 0) % 26) = ss := by
  rw [Nat.add_zero, Nat.mod_eq_of_lt hw]
  obtain ⟨h1, h2⟩ := List.getElem?_eq_some_iff.mp h
  rw [← h2]
  exact List.set_getElem_self h1
def spNames (K : PySem.W.Frag) : Sp := sp2 fun x y H Q _ => ∃ (a : Addr) (n : Nat), x = .ref a ∧ Dk H a n ∧ n + 100 < cap ∧ y = .int 8 ∧ ∀ (q : Addr) (ns : List Str) H', H' q = some (.lst (ns.map V.str)) → okN ns → GD K a H H' → Dk H' a (n + 20) → Nw H q → q ≠ a → Q (.ref q) H'
theorem sc__law_names : FnScope ["_law_deck_here", "_law_many", "_law_letters", "_law_way", "_law_word", "_law_at", "_law_found", "_law_k", "_law_sign"] ["_law_deck_here", "_law_many"] (defScope (top 137)) := ⟨rfl, rfl, rfl, by decide +kernel, rfl, by decide +kernel, by decide +kernel⟩
theorem ok__law_names (T : Tp w K mg base) : Cl P w K mg base CX0 3 "_law_names" (spNames K) := by
  obtain ⟨fd, F⟩ := F__law_names T
  refine ⟨fd, ["_law_deck_here", "_law_many"], F.ok sc__law_names (len2 rfl) (fun cdv A outer s H vs Q E hr h => ?_), G__law_names T, F.kp, F.bindsN fun _ _ _ _ _ _ us hl => match us, hl with | [_, _], _ => rfl⟩
  refine ⟨_, PSs.nox (pss_cons (ps_set (i := 2) sc__law_names.nd rfl (Or.inr rfl) pe_str)
  (pss_cons (ps_set (i := 3) sc__law_names.nd rfl (Or.inl rfl) (pe_f (ok__law_draw T) hr (pa_cons (pv 0) (pa_cons pe_int pa_nil))))
  (pss_cons (ps_set (i := 4) sc__law_names.nd rfl (Or.inr rfl) (pe_lc (own := [("_law_k", 7)]) rfl sc__law_names.nd (pi_range1 (by rfl) (B_range T) (pa_cons pe_int pa_nil)) (blkOk_by (own := [("_law_k", 7)]) (N := ["_law_deck_here", "_law_many", "_law_letters", "_law_way", "_law_word", "_law_at", "_law_found", "_law_k", "_law_sign"]) (sc := defScope (top 137)) (by decide +kernel)) (fun _ _ _ _ _ => (pg_name (i := 7) sc__law_names.nd rfl (Or.inl rfl))) (fun _ _ _ _ _ => pts_nil) (fun _ _ _ _ _ => (pe_f (ok__law_draw T) hr (pa_cons (pv 0) (pa_cons pe_int pa_nil))))))
  (pss_cons (ps_if (pt_cmpR op_eq (pv 3) pe_int (nomark _)) (pss_one (ps_ret (pe_lc (own := [("_law_k", 7)]) rfl sc__law_names.nd (pi_range1 (by rfl) (B_range T) (pa_cons (pe_callB (call_min2 rfl) (by rfl) (B_min T) (by decide +kernel) (pa_cons pe_int (pa_cons (pv 1) pa_nil))) pa_nil)) (blkOk_by (own := [("_law_k", 7)]) (N := ["_law_deck_here", "_law_many", "_law_letters", "_law_way", "_law_word", "_law_at", "_law_found", "_law_k", "_law_sign"]) (sc := defScope (top 137)) (by decide +kernel)) (fun _ _ _ _ _ => (pg_name (i := 7) sc__law_names.nd rfl (Or.inl rfl))) (fun _ _ _ _ _ => pts_nil) (fun _ _ _ _ _ => (show PE _ _ (tM1 (rJoin K) _ _) from pe_join pe_str (pe_lc (own := [("_law_sign", 8)]) rfl sc__law_names.nd (show PI _ _ _ (iList K _) from pi_list (pe_slice (show SlR _ (rSlL K) from sl_list) (pv 4) po_none (po_some (pe_op op_add (pv 7) pe_int)))) (blkOk_by (own := [("_law_sign", 8)]) (by kernel_rfl)) (fun _ _ _ _ _ => (pg_name (i := 8) sc__law_names.nd rfl (Or.inl rfl))) (fun _ _ _ _ _ => pts_nil) (fun _ _ _ _ _ => (pe_ix ix_str (pv 2) (pv 8) (fun _ _ => rfl))))))))) pss_nil)
  (pss_cons (ps_set (i := 4) sc__law_names.nd rfl (Or.inr rfl) (pe_slice sl_list (pv 4) po_none (po_some (pe_op op_add pe_int (pe_f (ok__law_draw T) hr (pa_cons (pv 0) (pa_cons pe_int pa_nil)))))))
  (pss_cons (ps_set (i := 5) sc__law_names.nd rfl (Or.inl rfl) (pe_f (ok__law_draw T) hr (pa_cons (pv 0) (pa_cons (pe_callB call_len_seq (by rfl) (B_len T) (by decide +kernel) (pa_cons (pv 4) pa_nil)) pa_nil))))
  (pss_cons (ps_set (i := 6) sc__law_names.nd rfl (Or.inl rfl) (pe_lst pa_nil))
  (pss_cons (ps_for PassesOwn.never rfl (pi_range1 (by rfl) (B_range T) (pa_cons (pv 1) pa_nil)) (pg_name (i := 7) sc__law_names.nd rfl (Or.inl rfl))
    (pss_cons (ps_asg (pe_op op_mod (pe_op op_add (pe_ix (show IxR _ (rIxL K) from ix_list) (pv 4) (pv 5) (fun _ _ => rfl)) pe_int) pe_int) (pg_sub (pv 4) (pv 5) set_list))
  (pss_one (ps_expr (pe_bm PySem.F.plainAttrs_list PySem.F.slot_list_append PySem.F.type_list_append mt_append (pv 6) (pa_cons (pe_join pe_str (pe_lc (own := [("_law_sign", 8)]) rfl sc__law_names.nd (pi_list (pv 4)) (blkOk_by (own := [("_law_sign", 8)]) (N := ["_law_deck_here", "_law_many", "_law_letters", "_law_way", "_law_word", "_law_at", "_law_found", "_law_k", "_law_sign"]) (sc := defScope (top 137)) (by decide +kernel)) (fun _ _ _ _ _ => (pg_name (i := 8) sc__law_names.nd rfl (Or.inl rfl))) (fun _ _ _ _ _ => pts_nil) (fun _ _ _ _ _ => (pe_ix ix_str (pv 2) (pv 8) (fun _ _ => rfl))))) pa_nil))))))
  (pss_one (ps_ret (pv 6))))))))))), ?_⟩
  obtain ⟨v, v2, rfl, a, n, rfl, hd, hn, rfl, q⟩ := h
  refine ⟨_, rfl, _, _, rfl, a, _, 3, rfl, hd, by omega, rfl, by decide, by decide, fun i0 H1 hi0 g1 d1 => ⟨8, rfl, by decide, by decide, fun D hD => ?_⟩⟩
  have hDa : D ≠ a := d1.new hD
  refine lc_E (K := K) (ex := fun c => c = a) (walk_range (lo := 0) (n := 8)) (fun i H' => Dk H' a (n + 1 + i)) (fun i y _ => ∃ s : Nat, s < 26 ∧ y = .int (s : Nat)) hD (by decide) (fun b hb => by rw [hb]; obtain ⟨_, _, _, e, _⟩ := d1.ex; rw [e]; exact fun z => by cases z) d1 (fun i H' o d => d.put hDa) (fun _ _ _ _ _ => trivial) (fun _ _ _ _ _ h => h) (fun _ _ _ _ _ _ h => h) ?_ ?_
  · rintro i x H2 _ Q' hi g2 s2 ⟨rfl, rfl⟩ k
    exact ⟨rfl, _, rfl, _, _, rfl, a, _, 26, rfl, s2, by omega, rfl, by decide, by decide, fun s H3 hs g3 d3 => k _ _ g3 d3 ⟨s, hs, rfl⟩⟩
  intro H2 acc g2 s2 hD2 hl hR
  obtain ⟨ss, rfl, hss⟩ := ints_of fun i y h => hR i y h
  rw [List.length_map] at hl
  have gA : GD K a H H2 := g1.trans g2
  have g2' := g2
  refine ⟨_, rfl, rfl, _, rfl, ?_⟩
  refine iteV (fun hb => ?_) (fun hb => ?_)
  · refine ⟨_, rfl, _, _, rfl, _, rfl, by decide, by decide, fun D2 hD2' => lc_V (K := K) (walk_range (lo := 0) (n := 8)) ((List.range 8).map fun k => V.str (nm (ss.take (k + 1)))) (by simp) hD2' (by decide) (fun _ _ => trivial) ?_ fun H3 g3 e3 => ?_⟩
    · rintro i x _ H3 Q' y hy gr ⟨rfl, rfl⟩ k
      have hi8 : i < 8 := by
        have := (List.getElem?_eq_some_iff.mp hy).1
        rw [List.length_map, List.length_range] at this
        exact this
      rw [List.getElem?_map, List.getElem?_range hi8] at hy
      cases hy
      refine ⟨rfl, ⟨_, rfl⟩, _, rfl, _, rfl, _, _, rfl, rfl, _, rfl, D, _, rfl, SqL.of (gr.lst hD2), fun w hw => ?_⟩
      have ew : (upd H3 w (.lst (cutV (iV ss) none (some (0 + (i : Nat) + 1))))) w = some (.lst (iV (ss.take (i + 1)))) := by
        rw [upd_same, cut_to (n := i + 1) (by omega), ← List.map_take]
      refine ⟨w, rfl, ⟨_, SqL.of ew⟩, fun D3 hD3 => lc_V (K := K) (walk_list (K := K) (a := w) (xs := iV (ss.take (i + 1)))) ((ss.take (i + 1)).map fun s => V.str (let1 s)) (by rw [List.length_map, List.length_map]) hD3 (by rw [List.length_map, List.length_take]; exact small (by omega)) (fun H g => g.sqL (SqL.of ew)) ?_ fun H6 g6 e6 => ?_⟩
      · rintro j x H5 _ Q'' y hy gr2 ⟨rfl, hx⟩ k2
        cases hs : (ss.take (i + 1))[j]? with
        | none => rw [List.getElem?_map, hs] at hy; cases hy
        | some c =>
          rw [List.getElem?_map, hs] at hy hx
          cases hy
          cases hx
          exact ⟨rfl, _, rfl, _, rfl, _, _, _, rfl, rfl, by decide, letter_at (hss c (List.mem_of_mem_take (List.mem_of_getElem? hs))), k2 _ (.refl _)⟩
      · refine ⟨_, D3, (ss.take (i + 1)).map let1, rfl, rfl, .inl (SqL.of (by rw [e6, List.map_map]; rfl)), sum_let _ (by rw [List.length_take]; omega), ?_⟩
        rw [join_nm]
        exact k _ ((Gr.new hw).trans g6)
    · exact q D2 ((List.range 8).map fun k => nm (ss.take (k + 1))) H3 (by rw [List.map_map]; exact e3) (names1 hl hss) (gA.trans (.of g3)) ((s2.gr g3).mono (by omega)) (Nw.backE gA (s2.new hD2') (.of hD2')) (s2.new hD2')
  · refine ⟨_, rfl, _, rfl, _, _, rfl, a, _, 8, rfl, s2, by omega, rfl, by decide, by decide, fun i1 H3 hi1 g3 d3 => ⟨_, _, rfl, rfl, _, rfl, D, _, rfl, SqL.of (g3.lst hD2 hDa), fun w hw => ?_⟩⟩
    have hwa : w ≠ a := d3.new hw
    have gB : GD K a H H3 := gA.trans g3
    have ew : (upd H3 w (.lst (cutV (iV ss) none (some (1 + (i1 : Nat)))))) w = some (.lst (iV (ss.take (i1 + 1)))) := by
      rw [upd_same, cut_to (n := i1 + 1) (by omega), ← List.map_take]
    have d4 : Dk (upd H3 w (.lst (cutV (iV ss) none (some (1 + (i1 : Nat)))))) a _ := d3.add hw
    obtain ⟨st, hst⟩ : ∃ st, st = ss.take (i1 + 1) := ⟨_, rfl⟩
    have hsl : st.length = i1 + 1 := by rw [hst, List.length_take]; omega
    have hs26 : ∀ s ∈ st, s < 26 := fun s hs => hss s (List.mem_of_mem_take (hst ▸ hs))
    rw [← hst] at ew
    refine ⟨_, rfl, _, rfl, w, _, rfl, .inl (SqL.of ew), _, _, rfl, a, _, st.length, rfl, d4, by omega, by rw [List.length_map], by omega, by omega, fun j H4 hj g4 d5 => ⟨(show 0 ≤ sizeLine by decide), fun f hf => ?_⟩⟩
    have ew4 := g4.lst ew hwa
    have hfw : f ≠ w := fun z => by rw [z, ew4] at hf; cases hf
    have hfa : f ≠ a := d5.new hf
    have gC : GD K a H H4 := gB.trans ((GrE.new hw).trans g4)
    have hj2 := List.getElem?_eq_getElem hj
    have hw0 := hs26 st[j] (List.getElem_mem hj)
    refine ⟨_, rfl, 8, rfl, by decide, by decide, for_it (walk_range (lo := 0) (n := 8)) (fun i σ H' => (∃ o7 o8, σ = [some (.ref a), some (.int 8), some (.str (.ofString "abcdefghijklmnopqrstuvwxyz")), some (.int (i0 : Nat)), some (.ref w), some (.int (j : Nat)), some (.ref f), o7, o8]) ∧
      H' w = some (.lst (iV (st.set j ((st[j] + i) % 26)))) ∧ H' f = some (.lst (((List.range i).map fun k => nm (st.set j ((st[j] + k + 1) % 26))).map V.str)) ∧ GrE K (fun c => c = a ∨ c = w ∨ c = f) (upd H4 f (.lst [])) H' ∧ Dk H' a (n + 15)) ?_ (fun _ _ _ _ _ => trivial) ?_ ?_⟩
    · refine ⟨⟨_, _, rfl⟩, ?_, upd_same, .refl _, (d5.add hf).mono (by omega)⟩
      rw [upd_ne (Ne.symm hfw), ew4, set_self hj2 hw0]
    · rintro i x σ _ H5 hi ⟨⟨o7, o8, rfl⟩, e1, e2, g5, d6⟩ ⟨rfl, rfl⟩
      have hjl : j < (st.set j ((st[j] + i) % 26)).length := by rw [List.length_set]; exact hj
      have at1 : (iV (st.set j ((st[j] + i) % 26)))[j]? = some (.int (((st[j] + i) % 26 : Nat) : Int)) := by
        rw [List.getElem?_map, List.getElem?_set_self hj]
        rfl
      refine ⟨_, rfl, _, rfl, w, _, _, _, rfl, rfl, SqL.of e1, atI_nat at1, _, _, rfl, rfl, _, _, rfl, rfl, (by show (0 : Int) < 26; decide), _, rfl, _, rfl, w, _, _, j, rfl, rfl, e1, ixN_nat (by rw [List.length_map]; exact hjl), ?_⟩
      have ev : (iV (st.set j ((st[j] + i) % 26))).set j (V.int (((((st[j] + i) % 26 : Nat) : Int) + 1) % 26)) = iV (st.set j ((st[j] + i + 1) % 26)) := by
        have e3 : ((((st[j] + i) % 26 : Nat) : Int) + 1) % 26 = (((st[j] + i + 1) % 26 : Nat) : Int) := by omega
        rw [e3, ← List.map_set (f := fun n : Nat => V.int (n : Nat)), List.set_set]
      have e6 : (upd H5 w (.lst ((iV (st.set j ((st[j] + i) % 26))).set j (V.int (((((st[j] + i) % 26 : Nat) : Int) + 1) % 26))))) w = some (.lst (iV (st.set j ((st[j] + i + 1) % 26)))) := by rw [upd_same, ev]
      have f6 : (upd H5 w (.lst ((iV (st.set j ((st[j] + i) % 26))).set j (V.int (((((st[j] + i) % 26 : Nat) : Int) + 1) % 26))))) f = some (.lst (((List.range i).map fun k => nm (st.set j ((st[j] + k + 1) % 26))).map V.str)) := by rw [upd_ne hfw]; exact e2
      have d7 : Dk (upd H5 w (.lst ((iV (st.set j ((st[j] + i) % 26))).set j (V.int (((((st[j] + i) % 26 : Nat) : Int) + 1) % 26))))) a _ := d6.put hwa
      have g7 := g5.trans (GrE.put (K := K) (ex := fun c => c = a ∨ c = w ∨ c = f) (l2 := (iV (st.set j ((st[j] + i) % 26))).set j (V.int (((((st[j] + i) % 26 : Nat) : Int) + 1) % 26))) (.inr (.inl rfl)) e1)
      refine ⟨_, rfl, .inl ⟨rfl, _, SqL.of f6⟩, ⟨_, rfl⟩, _, rfl, w, rfl, ⟨_, SqL.of e6⟩, fun D3 hD3 => ?_⟩
      refine lc_V (K := K) (walk_list (K := K) (a := w) (xs := iV (st.set j ((st[j] + i + 1) % 26)))) ((st.set j ((st[j] + i + 1) % 26)).map fun s => V.str (let1 s)) (by rw [List.length_map, List.length_map]) hD3 (by rw [List.length_map, List.length_set]; exact small (by omega)) (fun H g => g.sqL (SqL.of e6)) ?_ fun H6 g6 e8 => ?_
      · rintro k x H5 _ Q'' y hy gr2 ⟨rfl, hx⟩ k2
        cases hs : (st.set j ((st[j] + i + 1) % 26))[k]? with
        | none => rw [List.getElem?_map, hs] at hy; cases hy
        | some c =>
          rw [List.getElem?_map, hs] at hy hx
          cases hy
          cases hx
          have hc : c < 26 := by
            rcases List.mem_or_eq_of_mem_set (List.mem_of_getElem? hs) with q | rfl
            · exact hs26 c q
            · exact Nat.mod_lt _ (by decide)
          exact ⟨rfl, _, rfl, _, rfl, _, _, _, rfl, rfl, by decide, letter_at hc, k2 _ (.refl _)⟩
      · refine ⟨_, D3, (st.set j ((st[j] + i + 1) % 26)).map let1, rfl, rfl, .inl (SqL.of (by rw [e8, List.map_map]; rfl)), sum_let _ (by rw [List.length_set]; omega), ?_⟩
        rw [join_nm]
        refine ⟨f, _, _, rfl, rfl, g6.lst f6, by rw [List.length_map, List.length_map, List.length_range]; exact Nat.lt_of_lt_of_le hi (by decide), ⟨_, _, rfl⟩, ?_, ?_, (g7.trans (.of g6)).trans (.put (.inr (.inr rfl)) (g6.lst f6)), (d7.gr g6).put hfa⟩
        · rw [upd_ne (Ne.symm hfw)]
          exact g6.lst e6
        · rw [upd_same, List.range_succ, List.map_append, List.map_append]
          rfl
    · rintro σ H5 ⟨⟨o7, o8, rfl⟩, e1, e2, g5, d6⟩
      exact ⟨_, rfl, q f _ H5 e2 (names2 (by omega) (by omega) hs26 hj) (((gC.addN hf).mono fun _ z => .inl z).trans g5 |>.dropN fun c hc => by
        rcases hc with hc | hc | hc
        · exact .inl hc
        · rw [hc]; exact .inr (Nw.backE gB hwa (.of hw))
        · rw [hc]; exact .inr (Nw.backE gC hfa (.of hf))) (d6.mono (by omega)) (Nw.backE gC hfa (.of hf)) hfa⟩

end
end CK
set_option maxHeartbeats 0
namespace CK
open PySem PySem.Spec PyProof.Rows L2
section
variable {P : Program} {w : World} {K : PySem.W.Frag} {mg : Str → Option Value} {base : Heap}
theorem drop_tw {α : Type} (p : α → Bool) : ∀ l : List α, l.drop (l.takeWhile p).length = l.dropWhile p
  | [] => rfl
  | a :: l => by
    by_cases h : p a = true
    · rw [List.takeWhile_cons_of_pos h, List.dropWhile_cons_of_pos h, List.length_cons, List.drop_succ_cons, drop_tw p l]
    · rw [List.takeWhile_cons_of_neg h, List.dropWhile_cons_of_neg h]
      rfl
theorem cl_lstrip (x y : Str) : cl (Txt.lstripChars x y) = (cl x).dropWhile y.cps.contains := by
  unfold Txt.lstripChars
  rw [PyProof.Rows.stripBy_eq]
  have e : stripHi y.cps.contains false x (stripLo y.cps.contains true x) = x.length := rfl
  rw [e]
  show TL.tl (Builtin.Str.strSub x (stripLo y.cps.contains true x) x.length) = _
  rw [TL.tl_strSub_end]
  exact drop_tw _ _
theorem mk_ok {f : Str} (hl : f.length = 6) (h : allIn six f = true) : ∃ r : Str, isMk (.ofString "c" ++ r) = true ∧ r.length ≤ 6 ∧ ((Txt.lstripChars f (.ofString "0")).length ≠ 0 → r = Txt.lstripChars f (.ofString "0")) ∧ ((Txt.lstripChars f (.ofString "0")).length = 0 → r = .ofString "0") := by
  have key : ∀ r : Str, figs (cl r) = true → isMk (.ofString "c" ++ r) = true := fun r hr => by
    unfold isMk
    rw [cl_app]
    have e : cl (.ofString "c") = [99] := by decide +kernel
    rw [e]
    show (decide ((99 :: cl r).take 1 = [99]) && figs ((99 :: cl r).drop 1)) = true
    rw [List.drop_succ_cons, List.drop_zero, hr]
    rfl
  have hc := cl_lstrip f (.ofString "0")
  have hsub : ∀ c ∈ cl (Txt.lstripChars f (.ofString "0")), c ∈ cl six := fun c hcm => by
    rw [hc] at hcm
    unfold allIn at h
    exact of_decide_eq_true (List.all_eq_true.mp h c ((List.dropWhile_sublist _).subset hcm))
  have hlen : (cl (Txt.lstripChars f (.ofString "0"))).length ≤ 6 := by
    rw [hc]
    have := (List.dropWhile_sublist (l := cl f) (Str.cps (.ofString "0")).contains).length_le
    rw [cl_len, hl] at this
    exact this
  by_cases h0 : (Txt.lstripChars f (.ofString "0")).length = 0
  · exact ⟨.ofString "0", key _ (by decide +kernel), by decide, fun z => absurd h0 z, fun _ => rfl⟩
  · refine ⟨_, key _ ?_, by rw [← cl_len]; exact hlen, fun _ => rfl, fun z => absurd z h0⟩
    have h1 : 1 ≤ (cl (Txt.lstripChars f (.ofString "0"))).length := by rw [cl_len]; omega
    unfold figs
    rw [decide_eq_true (by omega), decide_eq_true (by omega), Bool.true_and, Bool.true_and, Bool.and_eq_true]
    refine ⟨List.all_eq_true.mpr fun c hcm => decide_eq_true (hsub c hcm), ?_⟩
    rw [Bool.or_eq_true]
    refine .inr ?_
    rw [Bool.not_eq_true', decide_eq_false_iff_not]
    intro hh
    rw [hc] at hh
    have := List.head?_dropWhile_not (Str.cps (.ofString "0")).contains (cl f)
    rw [hh] at this
    exact absurd this (by decide +kernel)
def spSix (K : PySem.W.Frag) : Sp := sp1 fun x H Q _ => ∃ n : Nat, x = .int (n : Nat) ∧ ∀ r : Str, isMk (.ofString "c" ++ r) = true → r.length ≤ 6 → Q (.str r) H
theorem sc__law_sixteens : FnScope ["_law_number", "_law_found", "_law_k"] ["_law_number"] (defScope (top 138)) := ⟨rfl, rfl, rfl, by decide +kernel, rfl, by decide +kernel, by decide +kernel⟩
theorem ok__law_sixteens (T : Tp w K mg base) : Cl P w K mg base CX0 1 "_law_sixteens" (spSix K) := by
  obtain ⟨fd, F⟩ := F__law_sixteens T
  refine ⟨fd, ["_law_number"], F.ok sc__law_sixteens (len1 rfl) (fun cdv A outer s H vs Q E hr h => ?_), G__law_sixteens T, F.kp, F.bindsN fun _ _ _ _ _ _ us hl => match us, hl with | [_], _ => rfl⟩
  refine ⟨_, PSs.nox (pss_cons (ps_set (i := 1) sc__law_sixteens.nd rfl (Or.inl rfl) pe_str)
  (pss_cons (ps_for PassesOwn.never rfl (pi_range1 (by rfl) (B_range T) (pa_cons pe_int pa_nil)) (pg_name (i := 2) sc__law_sixteens.nd rfl (Or.inl rfl))
    (pss_cons (ps_set (i := 1) sc__law_sixteens.nd rfl (Or.inl rfl) (pe_op op_add_str (pe_ix ix_str pe_str (pe_op op_mod (pv 0) pe_int) (fun _ _ => rfl)) (pv 1)))
  (pss_one (ps_set (i := 0) sc__law_sixteens.nd rfl (Or.inl rfl) (pe_op op_fdiv (pv 0) pe_int)))))
  (pss_one (ps_ret (pe_orT (pe_bm PySem.F.plainAttrs_str PySem.F.slot_str_lstrip PySem.F.type_str_lstrip mt_lstripChars (pv 1) (pa_cons pe_str pa_nil)) (pe_one pe_str)))))), ?_⟩
  obtain ⟨v, rfl, n, rfl, q⟩ := h
  refine ⟨6, rfl, by decide, by decide, for_it (walk_range (lo := 0) (n := 6)) (fun i σ H' => H' = H ∧ ∃ (f : Str) (m : Nat) (o : Option V), σ = [some (.int (m : Nat)), some (.str f), o] ∧ f.length = i ∧ allIn six f = true) ⟨rfl, _, n, _, rfl, rfl, rfl⟩ (fun _ _ _ _ _ => trivial) ?_ ?_⟩
  · rintro i x σ _ H5 hi ⟨rfl, f, m, o, rfl, hl, ha⟩ ⟨rfl, e5⟩
    subst e5
    have hm : m % 16 < (cl six).length := Nat.lt_of_lt_of_le (Nat.mod_lt m (by decide)) (by decide)
    have e := List.getElem?_eq_getElem hm
    refine ⟨_, rfl, _, _, rfl, rfl, (by show (0 : Int) < 16; decide), _, _, _, rfl, rfl, by decide, atI_nat (j := m % 16) e, _, rfl, _, _, rfl, rfl, small (by show 1 + f.length ≤ 1000; omega), _, rfl, _, _, rfl, rfl, ⟨by decide, by decide⟩, rfl, _, m / 16, _, rfl, ?_, ?_⟩
    · rw [app_len, hl]
      show 1 + i = i + 1
      omega
    · unfold allIn
      rw [cl_app, List.all_append, Bool.and_eq_true]
      exact ⟨by simp [cl, List.getElem_mem], ha⟩
  · rintro σ H5 ⟨rfl, f, m, o, rfl, hl, ha⟩
    obtain ⟨r, h1, h2, h3, h4⟩ := mk_ok hl ha
    have hs : (Txt.lstripChars f (.ofString "0")).length ≤ sizeLine := Nat.le_trans (PyProof.Rows.len_lstripChars _ _) (small (by omega))
    refine ⟨_, rfl, rfl, _, _, rfl, rfl, small (by omega), _, ⟨hs, rfl⟩, ?_⟩
    by_cases h0 : (Txt.lstripChars f (.ofString "0")).length = 0
    · rw [h0]
      exact iteF (by rw [← h4 h0]; exact q r h1 h2)
    · rw [show (((Txt.lstripChars f (.ofString "0")).length : Int) != 0) = true from bne_iff_ne.mpr (by omega)]
      exact iteT (by rw [← h3 h0]; exact q r h1 h2)

theorem in_str {m : Str} {ms : List Str} : inV (.str m) (ms.map V.str) = decide (m ∈ ms) := by
  unfold inV
  rw [List.any_map]
  by_cases h : m ∈ ms
  · rw [decide_eq_true h, List.any_eq_true]
    exact ⟨m, h, by simp [eqV]⟩
  · rw [decide_eq_false h, List.any_eq_false]
    intro x hx
    simp only [Function.comp, eqV]
    intro z
    have z : x = m := by simpa using z
    exact h (z ▸ hx)
theorem flat_str {ms : List Str} : (ms.map V.str).all flatV = true := by
  rw [List.all_map, List.all_eq_true]
  exact fun _ _ => rfl
def okM (ms : List Str) : Prop := ms ≠ [] ∧ ms.length ≤ 6 ∧ (∀ m ∈ ms, isMk m = true) ∧ ms.Nodup
def spMarks (K : PySem.W.Frag) : Sp := sp2 fun x y H Q _ => ∃ (a : Addr) (n : Nat), x = .ref a ∧ Dk H a n ∧ n + 300 < cap ∧ y = .int 6 ∧ ∀ (q : Addr) (ms : List Str) H', H' q = some (.lst (ms.map V.str)) → okM ms → GD K a H H' → Dk H' a (n + 200) → Nw H q → q ≠ a → Q (.ref q) H'
theorem sc__law_marks : FnScope ["_law_deck_here", "_law_many", "_law_found", "_law_k", "_law_way", "_law_some_here", "_law_number", "_law_mark"] ["_law_deck_here", "_law_many"] (defScope (top 139)) := ⟨rfl, rfl, rfl, by decide +kernel, rfl, by decide +kernel, by decide +kernel⟩
theorem ok__law_marks (T : Tp w K mg base) : Cl P w K mg base CX0 3 "_law_marks" (spMarks K) := by
  obtain ⟨fd, F⟩ := F__law_marks T
  refine ⟨fd, ["_law_deck_here", "_law_many"], F.ok sc__law_marks (len2 rfl) (fun cdv A outer s H vs Q E hr h => ?_), G__law_marks T, F.kp, F.bindsN fun _ _ _ _ _ _ us hl => match us, hl with | [_, _], _ => rfl⟩
  refine ⟨_, PSs.nox (pss_cons (ps_set (i := 2) sc__law_marks.nd rfl (Or.inl rfl) (pe_lst pa_nil))
  (pss_cons (ps_for PassesOwn.never rfl (pi_range1 (by rfl) (B_range T) (pa_cons (pe_op op_mul pe_int (pv 1)) pa_nil)) (pg_name (i := 3) sc__law_marks.nd rfl (Or.inl rfl))
    (pss_cons (ps_set (i := 4) sc__law_marks.nd rfl (Or.inl rfl) (pe_f (ok__law_draw T) hr (pa_cons (pv 0) (pa_cons pe_int pa_nil))))
  (pss_cons (ps_set (i := 5) sc__law_marks.nd rfl (Or.inl rfl) (pe_lst (pa_cons (pe_f (ok__law_draw T) hr (pa_cons (pv 0) (pa_cons pe_int pa_nil))) (pa_cons (pe_op op_mul pe_int (pe_f (ok__law_draw T) hr (pa_cons (pv 0) (pa_cons pe_int pa_nil)))) (pa_cons pe_int pa_nil)))))
  (pss_cons (ps_asg (pe_ix (show IxR _ (rIxL K) from ix_list) (pe_lst (pa_cons pe_int (pa_cons pe_int (pa_cons pe_int (pa_cons pe_int (pa_cons pe_int (pa_cons pe_int (pa_cons pe_int (pa_cons pe_int (pa_cons pe_int (pa_cons pe_int pa_nil))))))))))) (pe_f (ok__law_draw T) hr (pa_cons (pv 0) (pa_cons pe_int pa_nil))) (fun _ _ => rfl)) (pg_sub (pv 5) pe_int set_list))
  (pss_cons (ps_set (i := 6) sc__law_marks.nd rfl (Or.inl rfl) (pe_ix (show IxR _ (rIxL K) from ix_list) (pe_op op_cat (pv 5) (pe_lst (pa_cons (pe_op op_add (pe_op op_mul (pe_f (ok__law_draw T) hr (pa_cons (pv 0) (pa_cons pe_int pa_nil))) pe_int) (pe_f (ok__law_draw T) hr (pa_cons (pv 0) (pa_cons pe_int pa_nil)))) pa_nil))) (pv 4) (fun _ _ => rfl)))
  (pss_cons (ps_set (i := 7) sc__law_marks.nd rfl (Or.inl rfl) (pe_op op_add_str pe_str (pe_f (ok__law_sixteens T) hr (pa_cons (pv 6) pa_nil))))
  (pss_one (ps_if (PW.pt (pw_and (pt_cmpR op_notIn_seq (pv 7) (pv 2) (by rfl)) (pw_and1 (pt_cmpR op_lt (pe_callB call_len_seq (by rfl) (B_len T) (by decide +kernel) (pa_cons (pv 2) pa_nil)) (pv 1) (nomark _))))) (pss_one (ps_expr (pe_bm PySem.F.plainAttrs_list PySem.F.slot_list_append PySem.F.type_list_append mt_append (pv 2) (pa_cons (pv 7) pa_nil)))) pss_nil))))))))
  (pss_one (ps_ret (pv 2))))), ?_⟩
  obtain ⟨v, v2, rfl, a, n, rfl, hd, hn, rfl, q⟩ := h
  refine ⟨(show 0 ≤ sizeLine by decide), fun f hf => ?_⟩
  have hfa : f ≠ a := hd.new hf
  refine ⟨_, rfl, _, _, rfl, rfl, .inl ⟨by decide, by decide⟩, 18, rfl, by decide, by decide, for_it (walk_range (lo := 0) (n := 18)) (fun i σ H' => (∃ o3 o4 o5 o6 o7, σ = [some (.ref a), some (.int 6), some (.ref f), o3, o4, o5, o6, o7]) ∧ ∃ ms : List Str, H' f = some (.lst (ms.map V.str)) ∧ (∀ m ∈ ms, isMk m = true) ∧ ms.Nodup ∧ ms.length ≤ 6 ∧ (0 < i → ms ≠ []) ∧
    GrE K (fun c => c = a ∨ c = f) H H' ∧ Dk H' a (n + 10 * i)) ⟨⟨_, _, _, _, _, rfl⟩, [], upd_same, (fun _ h => by cases h), .nil, Nat.zero_le _, (fun h => absurd h (by decide)), .of (.new hf), hd.add hf⟩ (fun _ _ _ _ _ => trivial) ?_ ?_⟩
  · rintro i x σ _ H0 hi ⟨⟨o3, o4, o5, o6, o7, rfl⟩, ms, hms, hmk, hnd, hle, hpos, g0, d0⟩ ⟨rfl, e5⟩
    subst e5
    refine ⟨_, rfl, _, _, rfl, a, _, 4, rfl, d0, by omega, rfl, by decide, by decide, fun w H1 hw g1 d1 => ⟨_, rfl, _, _, rfl, a, _, 20, rfl, d1, by omega, rfl, by decide, by decide, fun i1 H2 hi1 g2 d2 => ⟨_, rfl, _, _, rfl, a, _, 20, rfl, d2, by omega, rfl, by decide, by decide, fun i2 H3 hi2 g3 d3 => ⟨_, _, rfl, rfl, .inl ⟨by decide, by decide⟩, (show 3 ≤ sizeLine by decide), fun s hs => ?_⟩⟩⟩⟩
    have d4 := d3.add (o := .lst (iV [i1, 16 * i2, 0])) hs
    have e4 : (upd H3 s (.lst (iV [i1, 16 * i2, 0]))) s = some (.lst (iV [i1, 16 * i2, 0])) := upd_same
    have hsa := d3.new hs
    refine ⟨(show 10 ≤ sizeLine by decide), fun t ht => ?_⟩
    refine ⟨_, rfl, _, _, rfl, a, _, 10, rfl, d4.add ht, by omega, rfl, by decide, by decide, fun i3 H5 hi3 g5 d5 => ?_⟩
    obtain ⟨k3, _, he3⟩ := at_iV (ds := [0, 1, 10, 15, 16, 255, 256, 4095, 4096, 16777215]) (i := i3) hi3
    have hta := d4.new ht
    have s5 := g5.lst ((Gr.new (K := K) ht).lst e4) hsa
    refine ⟨t, _, _, _, rfl, rfl, SqL.of (g5.lst upd_same hta), he3, _, rfl, s, _, _, 2, rfl, rfl, s5, rfl, ?_⟩
    have d6 : Dk (upd H5 s (.lst (iV [i1, 16 * i2, k3]))) a _ := d5.put hsa
    have s6 : (upd H5 s (.lst (iV [i1, 16 * i2, k3]))) s = some (.lst (iV [i1, 16 * i2, k3])) := upd_same
    refine ⟨_, rfl, _, rfl, _, _, rfl, a, _, 4096, rfl, d6, by omega, rfl, by decide, by decide, fun i4 H7 hi4 g7 d7 => ⟨_, _, rfl, rfl, .inl ⟨by omega, by omega⟩, _, rfl, _, _, rfl, a, _, 4096, rfl, d7, by omega, rfl, by decide, by decide, fun i5 H8 hi5 g8 d8 => ⟨_, _, rfl, rfl, (show 1 ≤ sizeLine by decide), fun r hr => ?_⟩⟩⟩
    have s8 := (Gr.new (K := K) (o := .lst (iV [i4 * 4096 + i5])) hr).lst (g8.lst (g7.lst s6 hsa) hsa)
    refine ⟨s, r, _, _, rfl, rfl, s8, upd_same, (show 3 + 1 ≤ sizeLine by decide), fun u hu => ?_⟩
    obtain ⟨k9, _, he9⟩ := at_iV (ds := [i1, 16 * i2, k3, i4 * 4096 + i5]) (i := w) hw
    refine ⟨_, rfl, u, _, _, _, rfl, rfl, SqL.of upd_same, he9, _, rfl, _, rfl, k9, rfl, fun r9 hr9 hl9 => ⟨_, _, rfl, rfl, small (by show 1 + r9.length ≤ 1000; omega), ?_⟩⟩
    have hfs : f ≠ s := fun z => by
      have := g3.lst (g2.lst (g1.lst hms hfa) hfa) hfa
      rw [z, hs] at this
      cases this
    have h3 := g3.lst (g2.lst (g1.lst hms hfa) hfa) hfa
    have h5 := g5.lst ((Gr.new (K := K) (o := .lst (iV [0, 1, 10, 15, 16, 255, 256, 4095, 4096, 16777215])) ht).lst ((Gr.new (K := K) (o := .lst (iV [i1, 16 * i2, 0])) hs).lst h3)) hfa
    have h6 : (upd H5 s (.lst (iV [i1, 16 * i2, k3]))) f = some (.lst (ms.map V.str)) := by rw [upd_ne hfs]; exact h5
    have h9 := ((Gr.new (K := K) (o := .lst (iV [i4 * 4096 + i5])) hr).add (o := .lst (iV [i1, 16 * i2, k3, i4 * 4096 + i5])) hu).lst (g8.lst (g7.lst h6 hfa) hfa)
    have gp : GD K a H3 (upd H5 s (.lst (iV [i1, 16 * i2, k3]))) := GrE.putN (((GrE.new hs).addN ht).trans g5) hs s5
    have gT : GD K a H0 (upd (upd H8 r (.lst (iV [i4 * 4096 + i5]))) u (.lst (iV [i1, 16 * i2, k3, i4 * 4096 + i5]))) := ((g1.trans g2).trans g3).trans (gp.trans ((g7.trans g8).trans (.of ((Gr.new hr).add hu))))
    have gE := g0.trans (gT.mono fun _ z => Or.inl z)
    have d9 : Dk (upd (upd H8 r (.lst (iV [i4 * 4096 + i5]))) u (.lst (iV [i1, 16 * i2, k3, i4 * 4096 + i5]))) a (n + 10 * (i + 1)) := ((d8.add hr).add hu).mono (by omega)
    refine ⟨_, rfl, _, rfl, f, _, rfl, .inl (SqL.of h9), rfl, flat_str, _, rfl, ?_⟩
    rw [in_str]
    by_cases hm : (.ofString "c" ++ r9) ∈ ms
    · rw [decide_eq_true hm]
      refine iteF ⟨⟨_, _, _, _, _, rfl⟩, ms, h9, hmk, hnd, hle, (fun _ z => by rw [z] at hm; cases hm), gE, d9⟩
    · rw [decide_eq_false hm]
      refine iteT ⟨_, rfl, f, _, rfl, .inl (SqL.of h9), _, rfl, _, _, rfl, rfl, _, rfl, ?_⟩
      rw [List.length_map]
      refine iteV (fun hb => ?_) (fun hb => ?_)
      · have hb := of_decide_eq_true hb
        refine ⟨_, rfl, .inl ⟨rfl, _, SqL.of h9⟩, _, rfl, f, _, _, rfl, rfl, h9, by rw [List.length_map]; exact Nat.lt_of_le_of_lt hle (by decide), ⟨_, _, _, _, _, rfl⟩, ms ++ [.ofString "c" ++ r9], by rw [upd_same, List.map_append]; rfl, ?_, ?_, by rw [List.length_append]; show ms.length + 1 ≤ 6; omega, (fun _ z => by simp at z), gE.trans (.put (.inr rfl) h9), d9.put hfa⟩
        · intro m hm'
          rcases List.mem_append.mp hm' with q | q
          · exact hmk m q
          · rw [List.mem_singleton.mp q]
            exact hr9
        · exact List.nodup_append.mpr ⟨hnd, by simp, fun x hx y hy e => hm (by rw [List.mem_singleton.mp hy] at e; rw [← e]; exact hx)⟩
      · have hb := of_decide_eq_false hb
        exact ⟨⟨_, _, _, _, _, rfl⟩, ms, h9, hmk, hnd, hle, (fun _ z => by rw [z] at hb; exact hb (by decide)), gE, d9⟩
  · rintro σ H' ⟨⟨o3, o4, o5, o6, o7, rfl⟩, ms, hms, hmk, hnd, hle, hpos, g0, d0⟩
    exact ⟨_, rfl, q f ms H' hms ⟨hpos (by decide), hle, hmk, hnd⟩ (g0.drop (.of hf)) (d0.mono (by omega)) (.of hf) hfa⟩

end
end CK
set_option maxHeartbeats 4000000
/-! sorted of data -/
namespace CK
open PySem PySem.Spec PyProof.Rows L2
def rSortD (K : PySem.W.Frag) : List V → Hp → VK → Prop := fun xs H Q => ∃ (p : Addr) (β : Type) (val : β → V) (enc : β → PyData) (bs : List β), xs = [.ref p] ∧ SqL K H p (bs.map val) ∧ (∀ b ∈ bs, Dp K H (val b) (enc b)) ∧
  (∀ b b', PySem.W.alike (enc b) (enc b') = true) ∧ PySem.W.Sortable (bs.map enc) ∧ (∀ b ∈ bs, (enc b).depth ≤ 8) ∧ ∀ q, H q = none → Q (.ref q) (upd H q (.lst ((bs.mergeSort (PySem.W.dataLe false enc)).map val)))
theorem each_mk {β : Type} {val : β → V} : ∀ {bs : List β} {us : List Value}, Vals (bs.map val) us → PySem.W.EachIs (fun v b => RelV (val b) v) us bs
  | [], _, .nil => .nil
  | b :: bs, _, .cons r t => .cons r (each_mk t)
theorem vals_mk {β : Type} {val : β → V} : ∀ {bs : List β} {us : List Value}, PySem.W.EachIs (fun v b => RelV (val b) v) us bs → Vals (bs.map val) us
  | [], _, .nil => .nil
  | b :: bs, _, .cons r t => .cons r (vals_mk t)
theorem each_reads {X : Cx} {pins : List (Addr × Obj)} {σ : L2.St} {H : Hp} {s : Shared} (I : Inv X pins σ H s) {β : Type} {val : β → V} {enc : β → PyData} : ∀ {bs : List β} {us : List Value}, (∀ b ∈ bs, Dp X.K H (val b) (enc b)) → Vals (bs.map val) us →
    PySem.W.EachIs (fun v b => ∃ as, Reads s.heap v (enc b) as) us bs
  | [], _, _, .nil => .nil
  | b :: bs, _, h, .cons r t => .cons (Dp.reads I (enc b) (val b) _ (h b List.mem_cons_self) r) (each_reads I (fun x hx => h x (List.mem_cons_of_mem _ hx)) t)
theorem cr_sortD {X : Cx} (hr : Room 4 X.A) : CallR X (.builtin "sorted") (rSortD X.K) := by
  intro pins s σ H vs us Q I r h
  obtain ⟨p, β, val, enc, bs, rfl, hs, hd, hal, hk, hdep, q⟩ := h
  obtain ⟨its, rv, hl, hz⟩ := I.list hs
  rw [Vals.ref1 r]
  have hlen : bs.length ≤ sizeLine := by
    have := hz
    rw [List.length_map] at this
    exact this
  refine PySem.W.sorted_data (R := fun v b => RelV (val b) v) hl.isList (each_mk rv) (each_reads I hd rv) (PySem.W.AllAlike.of hal) hk hlen (fun b hb => ?_) fun out ho eo => ?_
  · have := hr.units
    have := hdep b hb
    omega
  · obtain ⟨ep, he'⟩ := PyProof.Rows.sortedAll_at s.heap its out.toArray
    have hl2 : ((bs.mergeSort (PySem.W.dataLe false enc)).map val).length ≤ sizeLine := by rw [List.length_map, List.length_mergeSort]; exact hlen
    exact ⟨.ref _, upd H (s.heap.objs.size + 1) (.lst ((bs.mergeSort (PySem.W.dataLe false enc)).map val)), I.laid (t' := s.toks) (fun _ _ => PyProof.Rows.sortedAll_old) (Nat.le_succ _) ⟨hl2, out, ep, vals_mk eo, he'⟩, rfl, q _ (I.hok.fresh (Nat.le_succ _))⟩
/-- the order of the sorted -/
theorem sortD_pw {β : Type} (enc : β → PyData) (bs : List β) : (bs.mergeSort (PySem.W.dataLe false enc)).Pairwise fun a b => PySem.W.dataLe false enc a b = true := by
  have t := PySem.W.sortLe_total (listOrd itemOrd) false fun b : β => PySem.W.keyToks (enc b)
  exact List.pairwise_mergeSort t.trans (fun a b => by rcases t.total a b with h | h <;> simp [h]) bs
end CK
set_option maxHeartbeats 0
namespace CK
open PySem PySem.Spec PyProof.Rows L2
section
variable {P : Program} {w : World} {K : PySem.W.Frag} {mg : Str → Option Value} {base : Heap}
def encL (p : Loss) : PyData := .tuple [.str p.1, .int (p.2.1 : Nat), .int (p.2.2 : Nat)]
theorem dp_L {H : Hp} {p : Loss} {x : V} (h : Rep K H (pL p) x) : Dp K H x (encL p) := by
  obtain ⟨a, rfl, hs⟩ := repL3 h
  exact .tup hs (.cons (.str _) (.cons (.int _) (.cons (.int _) .nil)))
theorem alike_L (p q : Loss) : PySem.W.alike (encL p) (encL q) = true := by
  unfold encL
  simp [PySem.W.alike, PySem.W.alikeAll]
theorem depth_L (p : Loss) : (encL p).depth ≤ 8 := by
  unfold encL
  simp [PyData.depth, PyData.depthAll]
theorem lt_tri {x y : List Nat} (h : ¬ (y < x)) (n : x ≠ y) : x < y := by
  rcases List.le_iff_lt_or_eq.mp (List.not_lt.mp h) with h | h
  · exact h
  · exact absurd h n
theorem cl_inj {x y : Str} (h : cl x = cl y) : x = y := TL.ext_tl h
theorem le_L {p q : Loss} (h : PySem.W.dataLe false encL p q = true) (n : p.1 ≠ q.1) : cl p.1 < cl q.1 := by
  have h : (!PySem.W.dataLt (encL q) (encL p)) = true := h
  rw [Bool.not_eq_true'] at h
  unfold encL at h
  rw [PySem.W.dataLt_tuple, PySem.W.dataLt_cons (by simp [PySem.W.alike])] at h
  have e : PyData.eqv (.str q.1) (.str p.1) = false := by
    simp only [PyData.eqv]
    exact beq_false_of_ne (Ne.symm n)
  rw [e, if_neg (by decide), PySem.W.dataLt_str, decide_eq_false_iff_not] at h
  exact lt_tri h fun z => n (cl_inj z)
/-- a drying, sorted -/
theorem dry_sorted {α : Type} {l : List (Loss × α)} (hl : l.length ≤ 4) (h : ∀ p ∈ l, okL p.1) (hn : (l.map (·.1.1)).Nodup) : okLs ((l.mergeSort (PySem.W.dataLe false fun b => encL b.1)).map (·.1)) := by
  have hp := List.mergeSort_perm l (PySem.W.dataLe false fun b => encL b.1)
  refine ⟨by rw [List.length_map, List.length_mergeSort]; exact hl, fun p hpm => ?_, ?_⟩
  · obtain ⟨b, hb, rfl⟩ := List.mem_map.mp hpm
    exact h b (hp.mem_iff.mp hb)
  · have h1 := sortD_pw (fun b : Loss × α => encL b.1) l
    have h2 : ((l.mergeSort (PySem.W.dataLe false fun b => encL b.1)).map (·.1.1)).Nodup := (hp.map (·.1.1)).nodup_iff.mpr hn
    have h2' := List.pairwise_map.mp h2
    unfold up
    rw [List.map_map]
    refine List.pairwise_map.mpr ((h1.and h2').imp fun {a b} hab => ?_)
    exact le_L (p := a.1) (q := b.1) hab.1 hab.2
def spDryL (K : PySem.W.Frag) : Sp := sp2 fun x y H Q _ => ∃ (a l : Addr) (n : Nat) (ns : List Str), x = .ref a ∧ Dk H a n ∧ n + 100 < cap ∧ y = .ref l ∧ H l = some (.lst (ns.map V.str)) ∧ okN ns ∧ ∀ dr v H', okLs dr → Rep K H' (dD dr) v → GD K a H H' → Dk H' a (n + 40) → Q v H'
theorem sc__law_drying : FnScope ["_law_deck_here", "_law_names_here", "_law_left", "_law_found", "_law_k", "_law_bottom", "_law_top"] ["_law_deck_here", "_law_names_here"] (defScope (top 142)) := ⟨rfl, rfl, rfl, by decide +kernel, rfl, by decide +kernel, by decide +kernel⟩
theorem ok__law_drying (T : Tp w K mg base) : Cl P w K mg base CX0 6 "_law_drying" (spDryL K) := by
  obtain ⟨fd, F⟩ := F__law_drying T
  refine ⟨fd, ["_law_deck_here", "_law_names_here"], F.ok sc__law_drying (len2 rfl) (fun cdv A outer s H vs Q E hr h => ?_), G__law_drying T, F.kp, F.bindsN fun _ _ _ _ _ _ us hl => match us, hl with | [_, _], _ => rfl⟩
  refine ⟨_, PSs.nox (pss_cons (ps_set (i := 2) sc__law_drying.nd rfl (Or.inl rfl) (pe_callTy call_list_of (by rfl) (B_list T) (by decide +kernel) (pa_cons (pv 1) pa_nil)))
  (pss_cons (ps_set (i := 3) sc__law_drying.nd rfl (Or.inl rfl) (pe_lst pa_nil))
  (pss_cons (ps_for PassesOwn.never rfl (pi_range1 (by rfl) (B_range T) (pa_cons (pe_callB (call_min2 rfl) (by rfl) (B_min T) (by decide +kernel) (pa_cons (pe_callB call_len_seq (by rfl) (B_len T) (by decide +kernel) (pa_cons (pv 1) pa_nil)) (pa_cons (pe_f (ok__law_draw T) hr (pa_cons (pv 0) (pa_cons pe_int pa_nil))) pa_nil))) pa_nil)) (pg_name (i := 4) sc__law_drying.nd rfl (Or.inl rfl))
    (pss_cons (ps_set (i := 5) sc__law_drying.nd rfl (Or.inl rfl) (pe_ix (show IxR _ (rIxL K) from ix_list) (pe_lst (pa_cons (pe_op op_add pe_int (pe_f (ok__law_draw T) hr (pa_cons (pv 0) (pa_cons pe_int pa_nil)))) (pa_cons pe_int (pa_cons pe_int (pa_cons pe_int pa_nil))))) (pe_f (ok__law_draw T) hr (pa_cons (pv 0) (pa_cons pe_int pa_nil))) (fun _ _ => rfl)))
  (pss_cons (ps_set (i := 6) sc__law_drying.nd rfl (Or.inl rfl) (pe_ix (show IxR _ (rIxL K) from ix_list) (pe_lst (pa_cons (pe_f (ok__law_draw T) hr (pa_cons (pv 0) (pa_cons (pv 5) pa_nil))) (pa_cons (pe_op op_sub (pv 5) pe_int) (pa_cons pe_int pa_nil)))) (pe_f (ok__law_draw T) hr (pa_cons (pv 0) (pa_cons pe_int pa_nil))) (fun _ _ => rfl)))
  (pss_one (ps_expr (pe_bm PySem.F.plainAttrs_list PySem.F.slot_list_append PySem.F.type_list_append mt_append (pv 3) (pa_cons (pe_tup (pa_cons (pe_bm PySem.F.plainAttrs_list PySem.F.slot_list_pop PySem.F.type_list_pop mt_popAt (pv 2) (pa_cons (pe_f (ok__law_draw T) hr (pa_cons (pv 0) (pa_cons (pe_callB call_len_seq (by rfl) (B_len T) (by decide +kernel) (pa_cons (pv 2) pa_nil)) pa_nil))) pa_nil)) (pa_cons (pv 6) (pa_cons (pv 5) pa_nil)))) pa_nil)))))))
  (pss_one (ps_ret (pe_callTy call_tuple_of (by rfl) (B_tuple T) (by decide +kernel) (pa_cons (pe_callB (cr_sortD (hr.mono (by decide))) (by rfl) (B_sorted T) (by decide +kernel) (pa_cons (pv 3) pa_nil)) pa_nil))))))), ?_⟩
  obtain ⟨v, v2, rfl, a, l, n, ns, rfl, hd, hn, rfl, hl, hns, q⟩ := h
  have hnl := hns.1
  refine ⟨_, rfl, l, _, rfl, .inl (SqL.of hl), fun p hp => ⟨(show 0 ≤ sizeLine by decide), fun f hf => ?_⟩⟩
  have hpa := hd.new hp
  have d0 := (hd.add (o := .lst (ns.map V.str)) hp).add (o := .lst []) hf
  have hfa := (hd.add (o := .lst (ns.map V.str)) hp).new hf
  have hfp : f ≠ p := fun z => by rw [z, upd_same] at hf; cases hf
  have hf0 : H f = none := by rw [upd_ne hfp] at hf; exact hf
  have l0 := ((Gr.new (K := K) (o := .lst (ns.map V.str)) hp).add (o := .lst []) hf).lst hl
  refine ⟨_, rfl, l, _, rfl, .inl (SqL.of l0), _, rfl, _, _, rfl, a, _, 5, rfl, d0, by omega, rfl, by decide, by decide, fun i0 H1 hi0 g1 d1 => ⟨_, _, rfl, ?_⟩⟩
  obtain ⟨k, ek, hk1, hk2⟩ : ∃ k : Nat, (if ((i0 : Nat) : Int) < (((ns.map V.str).length : Nat) : Int) then ((i0 : Nat) : Int) else (((ns.map V.str).length : Nat) : Int)) = (k : Nat) ∧ k ≤ 4 ∧ k ≤ ns.length := by
    rw [List.length_map]
    by_cases hlt : ((i0 : Nat) : Int) < ((ns.length : Nat) : Int)
    · rw [if_pos hlt]
      exact ⟨i0, rfl, by omega, by omega⟩
    · rw [if_neg hlt]
      exact ⟨ns.length, rfl, by omega, by omega⟩
  rw [ek]
  have p0 : (upd (upd H p (.lst (ns.map V.str))) f (.lst [])) p = some (.lst (ns.map V.str)) := by rw [upd_ne (Ne.symm hfp), upd_same]
  refine ⟨k, rfl, by omega, by omega, for_it (walk_range (lo := 0) (n := k)) (fun i σ H' => (∃ o4 o5 o6, σ = [some (.ref a), some (.ref l), some (.ref p), some (.ref f), o4, o5, o6]) ∧ ∃ (bs : List (Loss × V)) (rem : List Str), H' f = some (.lst (bs.map Prod.snd)) ∧ H' p = some (.lst (rem.map V.str)) ∧ bs.length = i ∧ (bs.map (·.1.1) ++ rem).Perm ns ∧ (∀ b ∈ bs, okL b.1 ∧ Rep K H' (pL b.1) b.2) ∧
    GrE K (fun c => c = a ∨ c = p ∨ c = f) H H' ∧ Dk H' a (n + 1 + 5 * i)) ⟨⟨_, _, _, rfl⟩, [], ns, g1.lst upd_same hfa, g1.lst p0 hpa, rfl, .refl _, (fun _ h => by cases h), (((GrE.new hp).addN hf).trans g1).mono fun _ z => Or.inl z, d1⟩ (fun _ _ _ _ _ => trivial) ?_ ?_⟩
  · rintro i x σ _ H2 hi ⟨⟨o4, o5, o6, rfl⟩, bs, rem, hbf, hrp, hbl, hpm, hbs, g2, d2⟩ ⟨rfl, e5⟩
    subst e5
    have hrl := hpm.length_eq
    rw [List.length_append, List.length_map] at hrl
    refine ⟨_, rfl, _, _, rfl, a, _, 100, rfl, d2, by omega, rfl, by decide, by decide, fun i1 H3 hi1 g3 d3 => ⟨_, _, rfl, rfl, (show 4 ≤ sizeLine by decide), fun s hs => ?_⟩⟩
    refine ⟨_, rfl, _, _, rfl, a, _, 4, rfl, d3.add hs, by omega, rfl, by decide, by decide, fun i2 H4 hi2 g4 d4 => ?_⟩
    obtain ⟨b, hbm, hbe⟩ := at_iV (ds := [1 + i1, 100, 10, 1]) (i := i2) hi2
    have hb : 0 < b ∧ b ≤ 100 := by
      simp only [List.mem_cons, List.not_mem_nil, or_false] at hbm
      omega
    refine ⟨s, _, _, _, rfl, rfl, SqL.of (g4.lst upd_same (d3.new hs)), hbe, _, rfl, _, rfl, _, _, rfl, a, _, b, rfl, d4, by omega, rfl, hb.1, by omega, fun i3 H5 hi3 g5 d5 => ⟨_, rfl, _, _, rfl, rfl, (show 3 ≤ sizeLine by decide), fun t ht => ?_⟩⟩
    refine ⟨_, rfl, _, _, rfl, a, _, 3, rfl, d5.add ht, by omega, rfl, by decide, by decide, fun i4 H6 hi4 g6 d6 => ?_⟩
    obtain ⟨tp, htp, hte⟩ : ∃ t : Nat, t < b ∧ atI [V.int (i3 : Nat), V.int ((b : Nat) - 1), V.int 0] (i4 : Nat) = some (.int (t : Nat)) := by
      have e1 : ((b : Nat) : Int) - 1 = ((b - 1 : Nat) : Int) := by omega
      rw [e1]
      obtain ⟨t, h1, h2⟩ := at_iV (ds := [i3, b - 1, 0]) (i := i4) hi4
      refine ⟨t, ?_, h2⟩
      simp only [List.mem_cons, List.not_mem_nil, or_false] at h1
      omega
    have gA : GD K a H2 H6 := ((g3.trans ((GrE.new hs).trans g4)).trans g5).trans ((GrE.new ht).trans g6)
    have f6 := gA.lst hbf hfa
    have p6 := gA.lst hrp hpa
    refine ⟨t, _, _, _, rfl, rfl, SqL.of (g6.lst upd_same (d5.new ht)), hte, ?_⟩
    refine ⟨_, rfl, .inl ⟨rfl, _, SqL.of f6⟩, _, rfl, .inl ⟨rfl, _, SqL.of p6⟩, _, rfl, _, rfl, p, _, rfl, .inl (SqL.of p6), _, _, rfl, a, _, rem.length, rfl, d6, by omega, by rw [List.length_map], by omega, by omega, fun i5 H7 hi5 g7 d7 => ?_⟩
    have ex := List.getElem?_eq_getElem (l := rem) (i := i5) hi5
    have p7 := g7.lst p6 hpa
    refine ⟨p, _, _, i5, .str rem[i5], rfl, rfl, p7, by omega, by omega, (ixN_seq (ixN_nat (by rw [List.length_map]; exact hi5))).1, by rw [List.getElem?_map, ex]; rfl, ?_⟩
    rw [erase_map]
    refine ⟨_, rfl, _, rfl, (show 3 ≤ sizeLine by decide), fun u hu => ?_⟩
    have hfp2 : f ≠ p := hfp
    have f8 : (upd H7 p (.lst ((rem.eraseIdx i5).map V.str))) f = some (.lst (bs.map Prod.snd)) := by rw [upd_ne hfp]; exact g7.lst f6 hfa
    have f9 := (Gr.new (K := K) (o := .tup [.str rem[i5], .int (tp : Nat), .int (b : Nat)]) hu).lst f8
    have p9 : (upd (upd H7 p (.lst ((rem.eraseIdx i5).map V.str))) u (.tup [.str rem[i5], .int (tp : Nat), .int (b : Nat)])) p = some (.lst ((rem.eraseIdx i5).map V.str)) := (Gr.new (K := K) hu).lst upd_same
    have std9 : Std H2 (upd (upd H7 p (.lst ((rem.eraseIdx i5).map V.str))) u (.tup [.str rem[i5], .int (tp : Nat), .int (b : Nat)])) := (((d2.std (gA.trans g7)).trans (Std.putL p7)).trans (Std.upd' hu))
    have g9 : GrE K (fun c => c = a ∨ c = p ∨ c = f) H (upd (upd H7 p (.lst ((rem.eraseIdx i5).map V.str))) u (.tup [.str rem[i5], .int (tp : Nat), .int (b : Nat)])) := ((g2.trans ((gA.trans g7).mono fun _ z => Or.inl z)).trans (.put (.inr (.inl rfl)) p7)).addN hu
    have okb : okL (rem[i5], tp, b) := ⟨hns.2.1 _ (hpm.mem_iff.mp (List.mem_append_right _ (List.getElem_mem hi5))), htp, hb.2⟩
    refine ⟨f, _, _, rfl, rfl, f9, by rw [List.length_map]; exact Nat.lt_of_le_of_lt (show bs.length ≤ 4 by omega) (by decide), ⟨_, _, _, rfl⟩, bs ++ [((rem[i5], tp, b), .ref u)], rem.eraseIdx i5, by rw [upd_same, List.map_append]; rfl, by rw [upd_ne (Ne.symm hfp)]; exact p9, by rw [List.length_append, hbl]; rfl, ?_, ?_, g9.trans (.put (.inr (.inr rfl)) f9), (((d7.put hpa).add hu).put hfa).mono (by omega)⟩
    · rw [List.map_append, List.append_assoc]
      exact ((erase_perm ex).append_left _).trans hpm
    · intro c hc
      rcases List.mem_append.mp hc with hc | hc
      · exact ⟨(hbs c hc).1, (hbs c hc).2.std' (std9.trans (Std.putL f9))⟩
      · rw [List.mem_singleton.mp hc]
        refine ⟨okb, ?_⟩
        refine Rep.std' (H := (upd (upd H7 p (.lst ((rem.eraseIdx i5).map V.str))) u (.tup [.str rem[i5], .int (tp : Nat), .int (b : Nat)]))) ?_ (Std.putL f9)
        exact Rep.tup (l := [.s rem[i5], .i tp, .i b]) ⟨_, _, rfl, rfl, _, _, rfl, rfl, _, _, rfl, rfl, rfl⟩ upd_same
  · rintro σ H2 ⟨⟨o4, o5, o6, rfl⟩, bs, rem, hbf, hrp, hbl, hpm, hbs, g2, d2⟩
    refine ⟨_, rfl, f, _, Prod.snd, (fun b => encL b.1), bs, rfl, SqL.of hbf, fun b hb => dp_L (hbs b hb).2, fun b b' => alike_L _ _, PySem.W.Sortable.tuples fun b => ⟨_, _, rfl⟩, fun b _ => depth_L _, fun r hr' => ⟨r, _, rfl, .inl ⟨SqL.of upd_same, fun t ht => ?_⟩⟩⟩
    have hok := dry_sorted (l := bs) (by omega) (fun b hb => (hbs b hb).1) (((hpm.nodup_iff.mpr hns.2.2).sublist (List.sublist_append_left _ _)))
    have hperm := List.mergeSort_perm bs (PySem.W.dataLe false fun b : Loss × V => encL b.1)
    refine q _ _ _ hok (Rep.tup (a := t) (xs := (bs.mergeSort (PySem.W.dataLe false fun b : Loss × V => encL b.1)).map Prod.snd) ?_ upd_same) (((g2.dropN fun c hc => ?_).addN hr').addN ht) (((d2.add hr').add ht).mono (by omega))
    · have hst : Std H2 (upd (upd H2 r (.lst ((bs.mergeSort (PySem.W.dataLe false fun b : Loss × V => encL b.1)).map Prod.snd))) t (.tup ((bs.mergeSort (PySem.W.dataLe false fun b : Loss × V => encL b.1)).map Prod.snd))) := (Std.upd' hr').trans (Std.upd' ht)
      have key : ∀ cs : List (Loss × V), (∀ b ∈ cs, Rep K H2 (pL b.1) b.2) → RepL K H2 ((cs.map (·.1)).map pL) (cs.map Prod.snd) := fun cs hcs => by
        induction cs with
        | nil => exact rfl
        | cons c cs ih => exact ⟨_, _, rfl, hcs c List.mem_cons_self, ih fun b hb => hcs b (List.mem_cons_of_mem _ hb)⟩
      exact (key _ fun b hb => (hbs b (hperm.mem_iff.mp hb)).2).std' hst
    · rcases hc with hc | hc | hc
      · exact .inl hc
      · rw [hc]; exact .inr (.of hp)
      · rw [hc]; exact .inr (.of hf0)

end
end CK
set_option maxHeartbeats 0
namespace CK
open PySem PySem.Spec PyProof.Rows L2
section
variable {P : Program} {w : World} {K : PySem.W.Frag} {mg : Str → Option Value} {base : Heap}
theorem str_ne {ws : List Str} (i j k : Int) : ws.map V.str ≠ [.int i, .int j, .int k] := fun z => by
  cases ws with
  | nil => cases z
  | cons w ws =>
    injection z with h
    cases h
/-- sorted texts, unlike -/
theorem up_sorted {vs : List Str} (hn : vs.Nodup) : up (vs.mergeSort (PySem.W.dataLe false PyData.str)) := by
  have h1 := sortD_pw PyData.str vs
  have h2 := (List.mergeSort_perm vs (PySem.W.dataLe false PyData.str)).nodup_iff.mpr hn
  refine (h1.and h2).imp fun {a b} hab => ?_
  have h : (!PySem.W.dataLt (.str b) (.str a)) = true := hab.1
  rw [Bool.not_eq_true', PySem.W.dataLt_str, decide_eq_false_iff_not] at h
  exact lt_tri h fun z => hab.2 (cl_inj z)
theorem pairs_of {β : Type} {f : Str → β → Str} {ok : β → Prop} : ∀ {vs : List Str} {acc : List V}, acc.length = vs.length → (∀ (i : Nat) (y : V), acc[i]? = some y → ∃ x b, vs[i]? = some x ∧ ok b ∧ y = .str (f x b)) →
    ∃ ps : List (Str × β), ps.map (·.1) = vs ∧ acc = (ps.map fun p => f p.1 p.2).map V.str ∧ ∀ p ∈ ps, ok p.2
  | [], [], _, _ => ⟨[], rfl, rfl, fun _ h => by cases h⟩
  | [], _ :: _, h, _ => by cases h
  | _ :: _, [], h, _ => by cases h
  | v :: vs, y :: acc, hl, h => by
    obtain ⟨x, b, e1, e2, e3⟩ := h 0 y rfl
    cases (show some v = some x from e1)
    obtain ⟨ps, p1, p2, p3⟩ := pairs_of (f := f) (ok := ok) (vs := vs) (acc := acc) (Nat.succ.inj hl) fun i z hz => h (i + 1) z (by simpa using hz)
    refine ⟨(v, b) :: ps, by rw [List.map_cons, p1], by rw [e3, p2]; rfl, fun p hp => ?_⟩
    rcases List.mem_cons.mp hp with rfl | hp
    · exact e2
    · exact p3 p hp
def spLRow (K : PySem.W.Frag) : Sp := sp3 fun x y z H Q _ => ∃ (a l lm : Addr) (n : Nat) (ns ms : List Str), x = .ref a ∧ Dk H a n ∧ n + 1100 < cap ∧ y = .ref l ∧ H l = some (.lst (ns.map V.str)) ∧ okN ns ∧ z = .ref lm ∧ H lm = some (.lst (ms.map V.str)) ∧ okM ms ∧
  ∀ (q : Addr) (e : Deed) H', H' q = some (.lst (e.row.map V.str)) → e.Good → GD K a H H' → Dk H' a (n + 1000) → Nw H q → q ≠ a → Q (.ref q) H'
theorem sc__law_row : FnScope ["_law_deck_here", "_law_names_here", "_law_marks_here", "_law_way", "_law_name", "_law_ware", "_law_mark", "_law_nobody", "_law_some_here", "_law_one"] ["_law_deck_here", "_law_names_here", "_law_marks_here"] (defScope (top 147)) := ⟨rfl, rfl, rfl, by decide +kernel, rfl, by decide +kernel, by decide +kernel⟩
theorem ok__law_row (T : Tp w K mg base) : Cl P w K mg base CX0 6 "_law_row" (spLRow K) := by
  obtain ⟨fd, F⟩ := F__law_row T
  refine ⟨fd, ["_law_deck_here", "_law_names_here", "_law_marks_here"], F.ok sc__law_row (len3 rfl) (fun cdv A outer s H vs Q E hr h => ?_), G__law_row T, F.kp, F.bindsN fun _ _ _ _ _ _ us hl => match us, hl with | [_, _, _], _ => rfl⟩
  refine ⟨_, PSs.nox (pss_cons (ps_set (i := 3) sc__law_row.nd rfl (Or.inl rfl) (pe_f (ok__law_draw T) hr (pa_cons (pv 0) (pa_cons pe_int pa_nil))))
  (pss_cons (ps_par3 (i := 4) (j := 5) (l := 6) (by rfl) sc__law_row.nd rfl rfl rfl (by decide) (by decide) (by decide) rfl rfl rfl (pa_cons (pe_f (ok__law_pick T) hr (pa_cons (pv 0) (pa_cons (pv 1) pa_nil))) (pa_cons (pe_f (ok__law_pick T) hr (pa_cons (pv 0) (pa_cons (pv 1) pa_nil))) (pa_cons (pe_f (ok__law_pick T) hr (pa_cons (pv 0) (pa_cons (pv 2) pa_nil))) pa_nil))) (by rfl))
  (pss_cons (ps_set (i := 7) sc__law_row.nd rfl (Or.inl rfl) (pe_ix (show IxR _ (rIxL K) from ix_list) (pe_lst (pa_cons (pv 4) (pa_cons pe_str pa_nil))) (pe_f (ok__law_draw T) hr (pa_cons (pv 0) (pa_cons pe_int pa_nil))) (fun _ _ => rfl)))
  (pss_cons (ps_if (pt_cmpR op_lt (pv 3) pe_int (nomark _)) (pss_cons (ps_set (i := 8) sc__law_row.nd rfl (Or.inl rfl) (pe_callB (cr_sortD (hr.mono (by decide))) (by rfl) (B_sorted T) (by decide +kernel) (pa_cons (pe_f (ok__law_some T) hr (pa_cons (pv 0) (pa_cons (pv 1) (pa_cons pe_int pa_nil)))) pa_nil)))
  (pss_one (ps_ret (pe_op op_cat (pe_lst (pa_cons (pe_ix (show IxR _ (rIxL K) from ix_list) (pe_lst (pa_cons pe_str (pa_cons pe_str pa_nil))) (pv 3) (fun _ _ => rfl)) (pa_cons (pv 6) pa_nil))) (pe_lc (own := [("_law_one", 9)]) rfl sc__law_row.nd (pi_list (pv 8)) (blkOk_by (own := [("_law_one", 9)]) (N := ["_law_deck_here", "_law_names_here", "_law_marks_here", "_law_way", "_law_name", "_law_ware", "_law_mark", "_law_nobody", "_law_some_here", "_law_one"]) (sc := defScope (top 147)) (by decide +kernel)) (fun _ _ _ _ _ => (pg_name (i := 9) sc__law_row.nd rfl (Or.inl rfl))) (fun _ _ _ _ _ => pts_nil) (fun _ _ _ _ _ => (pe_op op_add_str (pe_op op_add_str (pv 9) pe_str) (pe_f (ok__law_weight T) hr (pa_cons (pv 0) pa_nil))))))))) pss_nil)
  (pss_cons (ps_if (pt_cmpR op_eq (pv 3) pe_int (nomark _)) (pss_one (ps_ret (pe_lst (pa_cons pe_str (pa_cons (pv 6) (pa_cons (pv 5) (pa_cons (pe_f (ok__law_weight T) hr (pa_cons (pv 0) pa_nil)) pa_nil))))))) pss_nil)
  (pss_cons (ps_if (pt_cmpR op_eq (pv 3) pe_int (nomark _)) (pss_one (ps_ret (pe_lst (pa_cons pe_str (pa_cons (pv 4) (pa_cons (pv 5) (pa_cons (pe_callTy call_str_int (by rfl) (B_str T) (by decide +kernel) (pa_cons (pe_f (ok__law_great T) hr (pa_cons (pv 0) pa_nil)) pa_nil)) pa_nil))))))) pss_nil)
  (pss_cons (ps_if (pt_cmpR op_eq (pv 3) pe_int (nomark _)) (pss_one (ps_ret (pe_op op_cat (pe_lst (pa_cons pe_str (pa_cons (pv 4) pa_nil))) (pe_lc (own := [("_law_one", 9)]) rfl sc__law_row.nd (pi_list (pe_f (ok__law_some T) hr (pa_cons (pv 0) (pa_cons (pv 1) (pa_cons pe_int pa_nil))))) (blkOk_by (own := [("_law_one", 9)]) (N := ["_law_deck_here", "_law_names_here", "_law_marks_here", "_law_way", "_law_name", "_law_ware", "_law_mark", "_law_nobody", "_law_some_here", "_law_one"]) (sc := defScope (top 147)) (by decide +kernel)) (fun _ _ _ _ _ => (pg_name (i := 9) sc__law_row.nd rfl (Or.inl rfl))) (fun _ _ _ _ _ => pts_nil) (fun _ _ _ _ _ => (pe_op op_add_str (pe_op op_add_str (pv 9) pe_str) (pe_callTy call_str_int (by rfl) (B_str T) (by decide +kernel) (pa_cons (pe_f (ok__law_great T) hr (pa_cons (pv 0) pa_nil)) pa_nil)))))))) pss_nil)
  (pss_cons (ps_if (pt_cmpR op_eq (pv 3) pe_int (nomark _)) (pss_one (ps_ret (pe_op op_cat (pe_lst (pa_cons pe_str (pa_cons (pv 4) pa_nil))) (pe_f (ok__law_some T) hr (pa_cons (pv 0) (pa_cons (pv 1) (pa_cons pe_int pa_nil))))))) pss_nil)
  (pss_cons (ps_if (pt_cmpR op_eq (pv 3) pe_int (nomark _)) (pss_one (ps_ret (pe_lst (pa_cons pe_str (pa_cons (pv 6) (pa_cons (pv 7) pa_nil)))))) pss_nil)
  (pss_cons (ps_if (pt_cmpR op_eq (pv 3) pe_int (nomark _)) (pss_one (ps_ret (pe_op op_cat (pe_lst (pa_cons pe_str (pa_cons (pe_callTy call_str_int (by rfl) (B_str T) (by decide +kernel) (pa_cons (pe_f (ok__law_great T) hr (pa_cons (pv 0) pa_nil)) pa_nil)) (pa_cons (pv 7) pa_nil)))) (pe_f (ok__law_some T) hr (pa_cons (pv 0) (pa_cons (pv 1) (pa_cons pe_int pa_nil))))))) pss_nil)
  (pss_one (ps_ret (pe_ix (show IxR _ (rIxL K) from ix_list) (pe_lst (pa_cons (pe_lst (pa_cons pe_str (pa_cons (pv 4) (pa_cons (pv 5) pa_nil)))) (pa_cons (pe_lst (pa_cons pe_str (pa_cons (pv 4) pa_nil))) (pa_cons (pe_op op_cat (pe_lst (pa_cons pe_str pa_nil)) (pe_f (ok__law_some T) hr (pa_cons (pv 0) (pa_cons (pv 2) (pa_cons pe_int pa_nil))))) pa_nil)))) (pe_callB (call_min2 rfl) (by rfl) (B_min T) (by decide +kernel) (pa_cons pe_int (pa_cons (pe_op op_sub (pv 3) pe_int) pa_nil))) (fun _ _ => rfl)))))))))))))), ?_⟩
  obtain ⟨v, v2, v3, rfl, a, l, lm, n, ns, ms, rfl, hd, hn, rfl, hl, hns, rfl, hlm, hms, q⟩ := h
  have hla := hd.ne hl str_ne
  have hma := hd.ne hlm str_ne
  have n0 : ns ≠ [] := ne_of_len (n := 8) (Nat.le_of_eq hns.1.symm) (by decide)
  have nlen : ns.length ≤ 20 := by have := hns.1; omega
  have mlen : ms.length ≤ 20 := by have := hms.2.1; omega
  refine ⟨_, rfl, _, _, rfl, a, _, 11, rfl, hd, by omega, rfl, by decide, by decide, fun w H1 hw g1 d1 => ⟨_, rfl, _, rfl, _, _, rfl, a, l, _, ns, rfl, d1, by omega, rfl, g1.lst hl hla, hla, n0, by omega, fun nm1 H2 hnm1 g2 d2 => ⟨_, rfl, _, rfl, _, _, rfl, a, l, _, ns, rfl, d2, by omega, rfl, (g1.trans g2).lst hl hla, hla, n0, by omega, fun wr H3 hwr g3 d3 =>
    ⟨_, rfl, _, rfl, _, _, rfl, a, lm, _, ms, rfl, d3, by omega, rfl, ((g1.trans g2).trans g3).lst hlm hma, hma, hms.1, by omega, fun mk1 H4 hmk1 g4 d4 => ⟨_, _, _, rfl, _, rfl, (show 2 ≤ sizeLine by decide), fun p hp => ⟨_, rfl, _, _, rfl, a, _, 2, rfl, d4.add hp, by omega, rfl, by decide, by decide, fun o0 H5 ho0 g5 d5 => ?_⟩⟩⟩⟩⟩⟩
  have nmk := hns.2.1 nm1 hnm1
  have wrk := hns.2.1 wr hwr
  have mkk := hms.2.2.1 mk1 hmk1
  obtain ⟨o, ho, he⟩ : ∃ o : Option Str, okO o ∧ atI [V.str nm1, V.str (.ofString "-")] (o0 : Nat) = some (.str (optS o)) := by
    match o0, ho0 with
    | 0, _ => exact ⟨some nm1, nmk, at_0⟩
    | 1, _ => exact ⟨none, trivial, at_1⟩
  refine ⟨p, _, _, _, rfl, rfl, SqL.of (g5.lst upd_same (d4.new hp)), he, ?_⟩
  have gA : GD K a H H5 := (((g1.trans g2).trans g3).trans g4).trans ((GrE.new hp).trans g5)
  have l5 := gA.lst hl hla
  have m5 := gA.lst hlm hma
  have fin : ∀ (q : Addr) (e : Deed) H', e.Good → H' q = some (.lst (e.row.map V.str)) → GD K a H5 H' → Dk H' a (n + 1000) → Nw H5 q → q ≠ a → Q (.ref q) H' := fun q0 e H' h1 h2 h3 h4 h5 h6 => q q0 e H' h2 h1 (gA.trans h3) h4 (Nw.backE gA h6 h5) h6
  refine ⟨_, rfl, _, _, rfl, rfl, _, rfl, ?_⟩
  refine iteV (fun hb => ?_) (fun hb => ?_)
  · have hb := of_decide_eq_true hb
    refine ⟨_, rfl, _, rfl, _, _, _, rfl, a, l, _, 1, ns, rfl, d5, by omega, rfl, l5, nlen, rfl, by decide, fun s0 vs rem H6 e6 hpm hmin hmax g6 d6 nw6 ne6 => ⟨s0, Str, V.str, PyData.str, vs, rfl, SqL.of e6, fun b _ => .str b, fun b b' => by simp [PySem.W.alike], PySem.W.Sortable.others fun b => ⟨by simp, by simp⟩, fun b _ => by simp [PyData.depth], fun r hr' => ?_⟩⟩
    have hvn : vs.Nodup := (hpm.nodup_iff.mpr hns.2.2).sublist (List.sublist_append_left _ _)
    have hup := up_sorted hvn
    have hpm2 := List.mergeSort_perm vs (PySem.W.dataLe false PyData.str)
    obtain ⟨us, hus⟩ : ∃ us, us = vs.mergeSort (PySem.W.dataLe false PyData.str) := ⟨_, rfl⟩
    rw [← hus] at hup hpm2
    rw [← hus]
    have hul : us.length ≤ 3 := by rw [hpm2.length_eq]; exact hmax
    have huN : ∀ u ∈ us, isNm u = true := fun u hu => hns.2.1 u (hpm.mem_iff.mp (List.mem_append_left _ (hpm2.mem_iff.mp hu)))
    refine ⟨(show 2 ≤ sizeLine by decide), fun p7 hp7 => ?_⟩
    obtain ⟨k, ek⟩ : ∃ k : Bool, atI [V.str (.ofString "cask"), V.str (.ofString "weigh")] (w : Nat) = some (.str (Deed.parts k mk1 []).word) := by
      have hw2 : w < 2 := by omega
      match w, hw2 with
      | 0, _ => exact ⟨false, at_0⟩
      | 1, _ => exact ⟨true, at_1⟩
    refine ⟨_, rfl, p7, _, _, _, rfl, rfl, SqL.of upd_same, ek, _, rfl, (show 2 ≤ sizeLine by decide), fun u hu => ?_⟩
    have d7 := ((d6.add (o := .lst (us.map V.str)) hr').add (o := .lst [V.str (.ofString "cask"), V.str (.ofString "weigh")]) hp7).add (o := .lst [V.str (Deed.parts k mk1 []).word, .str mk1]) hu
    have r7 := ((Gr.new (K := K) (o := .lst [V.str (.ofString "cask"), V.str (.ofString "weigh")]) hp7).add (o := .lst [V.str (Deed.parts k mk1 []).word, .str mk1]) hu).lst (upd_same (H := H6) (a := r) (o := .lst (us.map V.str)))
    have g7 : GD K a H5 (upd (upd (upd H6 r (.lst (us.map V.str))) p7 (.lst [V.str (.ofString "cask"), V.str (.ofString "weigh")])) u (.lst [V.str (Deed.parts k mk1 []).word, .str mk1])) := ((g6.addN hr').addN hp7).addN hu
    have hra := d6.new hr'
    have hua := ((d6.add (o := .lst (us.map V.str)) hr').add (o := .lst [V.str (.ofString "cask"), V.str (.ofString "weigh")]) hp7).new hu
    refine ⟨_, rfl, r, rfl, ⟨_, SqL.of r7⟩, fun D hD => ?_⟩
    have hDa := d7.new hD
    refine lc_E (K := K) (ex := fun c => c = a) (walk_list (K := K) (a := r) (xs := us.map V.str)) (fun i H' => Dk H' a (n + 100 + 20 * i)) (fun i y _ => ∃ (x : Str) (tb : Nat × Nat), us[i]? = some x ∧ okW tb.1 tb.2 ∧ y = .str (x ++ .ofString " " ++ wS tb.1 tb.2)) hD (by rw [List.length_map]; exact small (by omega)) (fun b hb => by rw [hb]; obtain ⟨_, _, _, e, _⟩ := d7.ex; rw [e]; exact fun z => by cases z) (d7.mono (by omega)) (fun i H' o d => d.put hDa) (fun i H _ g _ => SqL.of (g.lst r7 hra)) (fun _ _ _ _ _ h => h) (fun _ _ _ _ _ _ h => h) ?_ ?_
    · rintro i x H8 _ Q' hi g8 s8 ⟨rfl, hx⟩ k'
      rw [List.length_map] at hi
      have hus := List.getElem?_eq_getElem (l := us) hi
      rw [List.getElem?_map, hus] at hx
      cases hx
      have l1 := (isNm_len (huN us[i] (List.getElem_mem hi))).2
      have e1 : (Str.ofString " ").length = 1 := rfl
      refine ⟨rfl, _, rfl, _, _, rfl, rfl, small (by omega), _, rfl, _, rfl, a, _, rfl, s8, by omega, fun t b H9 hw9 g9 d9 => ⟨_, _, rfl, rfl, ?_, k' _ _ g9 (d9.mono (by omega)) ⟨us[i], (t, b), hus, hw9, rfl⟩⟩⟩
      have l2 := wS_len hw9.2.1 hw9.2.2.2.1
      rw [app_len]
      exact small (by omega)
    · intro H8 acc g8 s8 hD8 hl8 hR
      obtain ⟨ps, p1, p2, p3⟩ := pairs_of (f := fun x (tb : Nat × Nat) => x ++ .ofString " " ++ wS tb.1 tb.2) (ok := fun tb => okW tb.1 tb.2) (vs := us) (acc := acc) (by rw [hl8, List.length_map]) hR
      have hpl : ps.length = us.length := by rw [← p1, List.length_map]
      have hal : acc.length = us.length := by rw [hl8, List.length_map]
      rw [List.length_map] at s8
      refine ⟨u, D, _, _, rfl, rfl, g8.lst upd_same hua, hD8, small (show 2 + acc.length ≤ 1000 by omega), fun q0 hq0 => fin q0 (.parts k mk1 ps) _ ⟨mkk, by omega, fun p hp => ⟨huN _ (by rw [← p1]; exact List.mem_map_of_mem hp), p3 p hp⟩, by rw [p1]; exact hup⟩ ?_ ((g7.trans g8).addN hq0) ((s8.add hq0).mono (by omega)) (Nw.backE (g7.trans g8) (s8.new hq0) (.of hq0)) (s8.new hq0)⟩
      rw [upd_same, p2]
      cases k <;> rfl
  have nV : ∀ {m : Nat} {z : Int}, decide (V.int ((m : Nat) : Int) = V.int z) = false → ((m : Nat) : Int) ≠ z := fun h e => of_decide_eq_false h (by rw [e])
  have yV : ∀ {m : Nat} {z : Int}, decide (V.int ((m : Nat) : Int) = V.int z) = true → ((m : Nat) : Int) = z := fun h => V.int.inj (of_decide_eq_true h)
  have b0 := of_decide_eq_false hb
  refine ⟨_, rfl, rfl, _, rfl, ?_⟩
  refine iteV (fun hb => ?_) (fun hb => ?_)
  · exact ⟨_, rfl, _, rfl, _, rfl, _, rfl, a, _, rfl, d5, by omega, fun t b H6 hw6 g6 d6 => ⟨(show 4 ≤ sizeLine by decide), fun q0 hq0 => fin q0 (.burn mk1 wr t b) _ ⟨mkk, wrk, hw6⟩ (by rw [upd_same]; rfl) (g6.addN hq0) ((d6.add hq0).mono (by omega)) (Nw.backE g6 (d6.new hq0) (.of hq0)) (d6.new hq0)⟩⟩
  have b2 := nV hb
  refine ⟨_, rfl, rfl, _, rfl, ?_⟩
  refine iteV (fun hb => ?_) (fun hb => ?_)
  · exact ⟨_, rfl, _, rfl, _, rfl, _, rfl, a, _, rfl, d5, by omega, fun g0 H6 hg6 g6 d6 => ⟨_, rfl, nlog hg6.2, (show 4 ≤ sizeLine by decide), fun q0 hq0 => fin q0 (.make nm1 wr g0) _ ⟨nmk, wrk, hg6⟩ (by rw [upd_same]; rfl) (g6.addN hq0) ((d6.add hq0).mono (by omega)) (Nw.backE g6 (d6.new hq0) (.of hq0)) (d6.new hq0)⟩⟩
  have b3 := nV hb
  refine ⟨_, rfl, rfl, _, rfl, ?_⟩
  refine iteV (fun hb => ?_) (fun hb => ?_)
  · refine ⟨_, rfl, (show 2 ≤ sizeLine by decide), fun u hu => ?_⟩
    have gu : Gr K H5 (upd H5 u (.lst [V.str (.ofString "part"), .str nm1])) := .new hu
    have hua := d5.new hu
    refine ⟨_, rfl, _, rfl, _, _, _, rfl, a, l, _, 2, ns, rfl, d5.add hu, by omega, rfl, gu.lst l5, nlen, rfl, by decide, fun s0 vs rem H6 e6 hpm hmin hmax g6 d6 nw6 ne6 => ⟨s0, rfl, ⟨_, SqL.of e6⟩, fun D hD => ?_⟩⟩
    have hvn : vs.Nodup := (hpm.nodup_iff.mpr hns.2.2).sublist (List.sublist_append_left _ _)
    have huN : ∀ u ∈ vs, isNm u = true := fun u hu => hns.2.1 u (hpm.mem_iff.mp (List.mem_append_left _ hu))
    have hDa := d6.new hD
    have hn8 := hns.1
    refine lc_E (K := K) (ex := fun c => c = a) (walk_list (K := K) (a := s0) (xs := vs.map V.str)) (fun i H' => Dk H' a (n + 100 + 20 * i)) (fun i y _ => ∃ (x : Str) (g : Nat), vs[i]? = some x ∧ okG g ∧ y = .str (x ++ .ofString " " ++ nS g)) hD (by rw [List.length_map]; exact small (by omega)) (fun b hb => by rw [hb]; obtain ⟨_, _, _, e, _⟩ := d6.ex; rw [e]; exact fun z => by cases z) (d6.mono (by omega)) (fun i H' o d => d.put hDa) (fun i H _ g _ => SqL.of (g.lst e6 ne6)) (fun _ _ _ _ _ h => h) (fun _ _ _ _ _ _ h => h) ?_ ?_
    · rintro i x H8 _ Q' hi g8 s8 ⟨rfl, hx⟩ k'
      rw [List.length_map] at hi
      have hus := List.getElem?_eq_getElem (l := vs) hi
      rw [List.getElem?_map, hus] at hx
      cases hx
      have l1 := (isNm_len (huN vs[i] (List.getElem_mem hi))).2
      have e1 : (Str.ofString " ").length = 1 := rfl
      refine ⟨rfl, _, rfl, _, _, rfl, rfl, small (by omega), _, rfl, _, rfl, a, _, rfl, s8, by omega, fun g0 H9 hg9 g9 d9 => ⟨_, rfl, nlog hg9.2, _, _, rfl, rfl, ?_, k' _ _ g9 (d9.mono (by omega)) ⟨vs[i], g0, hus, hg9, rfl⟩⟩⟩
      have l2 : (nS g0).length ≤ 12 := nS_le hg9.2
      have l3 : (vs[i] ++ Str.ofString " ").length + (nS g0).length ≤ 1000 := by rw [app_len]; omega
      exact small l3
    · intro H8 acc g8 s8 hD8 hl8 hR
      obtain ⟨ps, p1, p2, p3⟩ := pairs_of (f := fun x (g : Nat) => x ++ .ofString " " ++ nS g) (ok := fun g => okG g) (vs := vs) (acc := acc) (by rw [hl8, List.length_map]) hR
      have hpl : ps.length = vs.length := by rw [← p1, List.length_map]
      have hal : acc.length = vs.length := by rw [hl8, List.length_map]
      rw [List.length_map] at s8
      have gT : GD K a H5 H8 := (GrE.of gu).trans (g6.trans g8)
      refine ⟨u, D, _, _, rfl, rfl, (g6.trans g8).lst upd_same hua, hD8, small (show 2 + acc.length ≤ 1000 by omega), fun q0 hq0 => fin q0 (.part nm1 ps) _ ⟨nmk, ⟨by rw [p1]; omega, by rw [p1]; omega, by rw [p1]; exact huN, by rw [p1]; exact hvn⟩, p3⟩ ?_ (gT.addN hq0) ((s8.add hq0).mono (by omega)) (Nw.backE gT (s8.new hq0) (.of hq0)) (s8.new hq0)⟩
      rw [upd_same, p2]
      rfl
  have b4 := nV hb
  refine ⟨_, rfl, rfl, _, rfl, ?_⟩
  refine iteV (fun hb => ?_) (fun hb => ?_)
  · refine ⟨_, rfl, (show 2 ≤ sizeLine by decide), fun u hu => ?_⟩
    have gu : Gr K H5 (upd H5 u (.lst [V.str (.ofString "merge"), .str nm1])) := .new hu
    have hua := d5.new hu
    refine ⟨_, rfl, _, rfl, _, _, _, rfl, a, l, _, 2, ns, rfl, d5.add hu, by omega, rfl, gu.lst l5, nlen, rfl, by decide, fun s0 vs rem H6 e6 hpm hmin hmax g6 d6 nw6 ne6 => ?_⟩
    have hvn : vs.Nodup := (hpm.nodup_iff.mpr hns.2.2).sublist (List.sublist_append_left _ _)
    have huN : ∀ u ∈ vs, isNm u = true := fun u hu => hns.2.1 u (hpm.mem_iff.mp (List.mem_append_left _ hu))
    have hn8 := hns.1
    have gT : GD K a H5 H6 := (GrE.of gu).trans g6
    exact ⟨u, s0, _, _, rfl, rfl, g6.lst upd_same hua, e6, small (by rw [List.length_map]; show 2 + vs.length ≤ 1000; omega), fun q0 hq0 => fin q0 (.merge vs nm1) _ ⟨⟨by omega, by omega, huN, hvn⟩, nmk⟩ (by rw [upd_same]; rfl) (gT.addN hq0) ((d6.add hq0).mono (by omega)) (Nw.backE gT (d6.new hq0) (.of hq0)) (d6.new hq0)⟩
  have b5 := nV hb
  refine ⟨_, rfl, rfl, _, rfl, ?_⟩
  refine iteV (fun hb => ?_) (fun hb => ?_)
  · exact ⟨_, rfl, _, rfl, (show 3 ≤ sizeLine by decide), fun q0 hq0 => fin q0 (.send mk1 o) _ ⟨mkk, ho⟩ (by rw [upd_same]; rfl) (.of (.new hq0)) ((d5.add hq0).mono (by omega)) (.of hq0) (d5.new hq0)⟩
  have b8 := nV hb
  refine ⟨_, rfl, rfl, _, rfl, ?_⟩
  refine iteV (fun hb => ?_) (fun hb => ?_)
  · refine ⟨_, rfl, _, rfl, a, _, rfl, d5, by omega, fun g0 H6 hg6 g6 d6 => ⟨_, rfl, nlog hg6.2, _, rfl, (show 3 ≤ sizeLine by decide), fun u hu => ?_⟩⟩
    have gu : GD K a H5 (upd H6 u (.lst [V.str (.ofString "pay"), .str (nS g0), .str (optS o)])) := g6.addN hu
    have hua := d6.new hu
    refine ⟨_, rfl, _, rfl, _, _, _, rfl, a, l, _, 1, ns, rfl, d6.add hu, by omega, rfl, gu.lst l5 hla, nlen, rfl, by decide, fun s0 vs rem H7 e7 hpm hmin hmax g7 d7 nw7 ne7 => ?_⟩
    have hvn : vs.Nodup := (hpm.nodup_iff.mpr hns.2.2).sublist (List.sublist_append_left _ _)
    have huN : ∀ u ∈ vs, isNm u = true := fun u hu => hns.2.1 u (hpm.mem_iff.mp (List.mem_append_left _ hu))
    have hn8 := hns.1
    have gT : GD K a H5 H7 := gu.trans g7
    exact ⟨u, s0, _, _, rfl, rfl, g7.lst upd_same hua, e7, small (by rw [List.length_map]; show 3 + vs.length ≤ 1000; omega), fun q0 hq0 => fin q0 (.pay vs g0 o) _ ⟨⟨by omega, by omega, huN, hvn⟩, hg6, ho⟩ (by rw [upd_same]; rfl) (gT.addN hq0) ((d7.add hq0).mono (by omega)) (Nw.backE gT (d7.new hq0) (.of hq0)) (d7.new hq0)⟩
  have b9 := nV hb
  refine ⟨_, rfl, _, rfl, (show 3 ≤ sizeLine by decide), fun p1 hp1 => ⟨_, rfl, (show 2 ≤ sizeLine by decide), fun p2 hp2 => ⟨(show 1 ≤ sizeLine by decide), fun p3 hp3 => ?_⟩⟩⟩
  have ga : Gr K H5 (upd H5 p1 (.lst [V.str (.ofString "lose"), .str nm1, .str wr])) := .new hp1
  have gb := ga.add (o := .lst [V.str (.ofString "draw"), .str nm1]) hp2
  have gc := gb.add (o := .lst [V.str (.ofString "fire")]) hp3
  have da := (d5.add (o := .lst [V.str (.ofString "lose"), .str nm1, .str wr]) hp1)
  have db := da.add (o := .lst [V.str (.ofString "draw"), .str nm1]) hp2
  have dc := db.add (o := .lst [V.str (.ofString "fire")]) hp3
  refine ⟨_, rfl, _, rfl, _, _, _, rfl, a, lm, _, 1, ms, rfl, dc, by omega, rfl, gc.lst m5, mlen, rfl, by decide, fun s0 vs rem H7 e7 hpm hmin hmax g7 d7 nw7 ne7 => ?_⟩
  have hvn : vs.Nodup := (hpm.nodup_iff.mpr hms.2.2.2).sublist (List.sublist_append_left _ _)
  have huN : ∀ u ∈ vs, isMk u = true := fun u hu => hms.2.2.1 u (hpm.mem_iff.mp (List.mem_append_left _ hu))
  have hm0 := List.length_pos_iff.mpr hms.1
  have x1 := g7.lst (((Gr.new (K := K) (o := .lst [V.str (.ofString "draw"), .str nm1]) hp2).add (o := .lst [V.str (.ofString "fire")]) hp3).lst (upd_same (H := H5) (a := p1))) (d5.new hp1)
  have x2 := g7.lst ((Gr.new (K := K) (o := .lst [V.str (.ofString "fire")]) hp3).lst (upd_same (a := p2))) (da.new hp2)
  have x3 := g7.lst upd_same (db.new hp3)
  refine ⟨p3, s0, _, _, rfl, rfl, x3, e7, small (by rw [List.length_map]; show 1 + vs.length ≤ 1000; omega), fun p4 hp4 => ⟨(show 3 ≤ sizeLine by decide), fun p5 hp5 => ⟨_, rfl, _, _, rfl, rfl, _, _, rfl, ?_⟩⟩⟩
  have gT : GD K a H5 (upd (upd H7 p4 (.lst ([V.str (.ofString "fire")] ++ vs.map V.str))) p5 (.lst [.ref p1, .ref p2, .ref p4])) := (((GrE.of gc).trans g7).addN hp4).addN hp5
  have dT := ((d7.add (o := .lst ([V.str (.ofString "fire")] ++ vs.map V.str)) hp4).add (o := .lst [.ref p1, .ref p2, .ref p4]) hp5)
  have keep := (Gr.new (K := K) (o := .lst ([V.str (.ofString "fire")] ++ vs.map V.str)) hp4).add (o := .lst [.ref p1, .ref p2, .ref p4]) hp5
  have hw3 : w = 6 ∨ w = 7 ∨ w = 10 := by omega
  rcases hw3 with rfl | rfl | rfl
  · refine ⟨p5, _, 0, _, rfl, rfl, SqL.of upd_same, at_0, fin p1 (.lose [nm1, wr]) _ ⟨rfl, fun x hx => ?_⟩ (keep.lst x1) gT (dT.mono (by omega)) (.of hp1) (d5.new hp1)⟩
    simp only [List.mem_cons, List.not_mem_nil, or_false] at hx
    rcases hx with rfl | rfl
    · exact nmk
    · exact wrk
  · refine ⟨p5, _, 1, _, rfl, rfl, SqL.of upd_same, at_1, fin p2 (.draw [nm1]) _ ⟨rfl, fun x hx => ?_⟩ (keep.lst x2) gT (dT.mono (by omega)) (Nw.back ga (.of hp2)) (da.new hp2)⟩
    rw [List.mem_singleton.mp hx]
    exact nmk
  · exact ⟨p5, _, 2, _, rfl, rfl, SqL.of upd_same, at_2, fin p4 (.fire vs) _ ⟨by omega, by omega, huN, hvn⟩ ((Gr.new (K := K) hp5).lst upd_same) gT (dT.mono (by omega)) (Nw.backE ((GrE.of gc).trans g7) (d7.new hp4) (.of hp4)) (d7.new hp4)⟩

end
end CK
set_option maxHeartbeats 0
namespace CK
open PySem PySem.Spec PyProof.Rows L2
section
variable {P : Program} {w : World} {K : PySem.W.Frag} {mg : Str → Option Value} {base : Heap}
def rStrN (K : PySem.W.Frag) : List V → Hp → VK → Prop := fun xs H Q => (xs = [.non] ∧ Q (.str (.ofString "None")) H) ∨ rStr K xs H Q
theorem call_strN {X : Cx} (T : Tp X.w X.K X.mg X.base) (hr : Room 4 X.A) : CallR X (.type "str") (rStrN X.K) := by
  intro pins s σ H xs us Q I r h
  rcases h with ⟨rfl, q⟩ | h
  · obtain ⟨u, rfl, e⟩ := vals1 r
    obtain rfl : u = Value.none := e
    exact PySem.P.str_of_none ⟨.str _, H, I.tok _, ⟨_, rfl⟩, q⟩
  · exact call_strW T hr pins s σ H xs us Q I r h
def prT (q : Pr2) : Str := q.1 ++ .ofString " " ++ q.2.2
theorem tx_len {d : D} {x : Str} (h : TxOf d x) : x.length ≤ 25 := by
  cases d with
  | i n => obtain ⟨rfl, hn⟩ := h; exact nS_le25 hn
  | w t b => obtain ⟨rfl, ht, hb⟩ := h; exact wS_len ht hb
  | _ => exact h.elim
def spPo (K : PySem.W.Frag) : Sp := sp1 fun x H Q _ => ∃ qs : List Pr2, Rep K H (.t (qs.map pP)) x ∧ (∀ q ∈ qs, TxOf q.2.1 q.2.2 ∧ q.1.length ≤ 8) ∧ qs.length ≤ 400 ∧ ∀ H' a, Gr K H H' → H' a = some (.lst ((qs.map prT).map V.str)) → Q (.ref a) H'
theorem sc__law_pairs_of : FnScope ["_law_pairs", "_law_one", "_law_many"] ["_law_pairs"] (defScope (top 148)) := ⟨rfl, rfl, rfl, by decide +kernel, rfl, by decide +kernel, by decide +kernel⟩
theorem ok__law_pairs_of (T : Tp w K mg base) : Cl P w K mg base CX0 5 "_law_pairs_of" (spPo K) := by
  obtain ⟨fd, F⟩ := F__law_pairs_of T
  refine ⟨fd, ["_law_pairs"], F.ok sc__law_pairs_of (len1 rfl) (fun cdv A outer s H vs Q E hr h => ?_), G__law_pairs_of T, F.kp, F.bindsN fun _ _ _ _ _ _ us hl => match us, hl with | [_], _ => rfl⟩
  refine ⟨_, PSs.nox (pss_one (ps_ret (pe_lc (own := [("_law_one", 1), ("_law_many", 2)]) rfl sc__law_pairs_of.nd (pi_tup (pv 0)) (blkOk_by (own := [("_law_one", 1), ("_law_many", 2)]) (N := ["_law_pairs", "_law_one", "_law_many"]) (sc := defScope (top 148)) (by decide +kernel)) (fun _ _ _ _ _ => (show PG _ _ (gTup K 2 _) from pg_tup rfl (pgs_cons (pg_name (i := 1) sc__law_pairs_of.nd rfl (Or.inl rfl)) (pgs_cons (pg_name (i := 2) sc__law_pairs_of.nd rfl (Or.inl rfl)) pgs_nil)))) (fun _ _ _ _ _ => pts_nil) (fun _ _ _ _ _ => (pe_op op_add_str (pe_op op_add_str (pv 1) pe_str) (show PE _ _ (tCB (rStr K) _) from pe_callTy (call_strW T (hr.mono (by decide))) (by rfl) (B_str T) (by decide +kernel) (pa_cons (pv 2) pa_nil))))))), ?_⟩
  obtain ⟨v, rfl, qs, ⟨a, xs, rfl, hs, hr2⟩, ht, hl, q⟩ := h
  have hlx : xs.length = qs.length := by rw [hr2.len, List.length_map]
  refine ⟨_, rfl, a, rfl, ⟨_, hs⟩, fun D hD => lc_V (K := K) (walk_tup (K := K) (a := a) (xs := xs)) ((qs.map prT).map V.str) (by rw [List.length_map, List.length_map, hlx]) hD (by rw [hlx]; exact small (by omega)) (fun H g => g.sqT hs) ?_ fun H3 g3 e3 => q H3 D g3 e3⟩
  rintro i x H2 _ Q' y hy gr ⟨rfl, hx⟩ k
  obtain ⟨qq, b, v, hq, rfl, hb, hv⟩ := pair_at hr2 hx
  rw [List.getElem?_map, List.getElem?_map, hq] at hy
  cases hy
  obtain ⟨h1, h2⟩ := ht qq (List.mem_of_getElem? hq)
  have h3 := tx_len h1
  have e1 : (Str.ofString " ").length = 1 := rfl
  refine ⟨b, _, rfl, gr.sqT hb, rfl, _, _, rfl, _, _, rfl, rfl, rfl, _, rfl, _, _, rfl, rfl, small (by omega), _, rfl, str_of h1 (hv.std' gr.std) ⟨_, _, rfl, rfl, ?_, k _ (.refl _)⟩⟩
  rw [app_len]
  exact small (by omega)

/-- the text of a part behind the first -/
def TxN : D → Str → Prop
  | .n, x => x = .ofString "-"
  | .s z, x => x = z
  | d, x => TxOf d x
theorem body_tail {e : Deed} (hg : e.Good) (h1 : e.word ≠ .ofString "cask") (h2 : e.word ≠ .ofString "weigh") (h3 : e.word ≠ .ofString "part") (h4 : e.word ≠ .ofString "merge") (h5 : e.word ≠ .ofString "pay") (h6 : e.word ≠ .ofString "fire") :
    ∃ (f : Str) (ds : List D) (xs : List Str), e.rest = .s f :: ds ∧ e.row = e.word :: f :: xs ∧ ds.length = xs.length ∧ xs.length ≤ 2 ∧ ∀ (i : Nat) (d : D) (x : Str), ds[i]? = some d → xs[i]? = some x → TxN d x := by
  cases e with
  | burn m u t b => exact ⟨m, [.s u, .w t b], [u, wS t b], rfl, rfl, rfl, Nat.le_refl 2, fun i d x hd hx => by
      match i with
      | 0 => cases hd; cases hx; exact rfl
      | 1 => cases hd; cases hx; exact ⟨rfl, hg.2.2.2.1, hg.2.2.2.2.2.1⟩
      | i + 2 => simp at hd⟩
  | make n u g => exact ⟨n, [.s u, .i g], [u, nS g], rfl, rfl, rfl, Nat.le_refl 2, fun i d x hd hx => by
      match i with
      | 0 => cases hd; cases hx; exact rfl
      | 1 => cases hd; cases hx; exact ⟨rfl, hg.2.2.2⟩
      | i + 2 => simp at hd⟩
  | lose ws =>
    obtain ⟨hl, _⟩ := hg
    match ws, hl with
    | [a, b], _ => exact ⟨a, [.s b], [b], rfl, rfl, rfl, by show 1 ≤ 2; decide, fun i d x hd hx => by
        match i with
        | 0 => cases hd; cases hx; exact rfl
        | i + 1 => simp at hd⟩
  | draw ws =>
    obtain ⟨hl, _⟩ := hg
    match ws, hl with
    | [a], _ => exact ⟨a, [], [], rfl, rfl, rfl, by show 0 ≤ 2; decide, fun i d x hd hx => by simp at hd⟩
  | send m o => exact ⟨m, [optD o], [optS o], rfl, rfl, rfl, by show 1 ≤ 2; decide, fun i d x hd hx => by
      match i with
      | 0 => cases hd; cases hx; cases o <;> exact rfl
      | i + 1 => simp at hd⟩
  | parts k m ps => cases k
                    · exact absurd rfl h1
                    · exact absurd rfl h2
  | part n ps => exact absurd rfl h3
  | merge ns f => exact absurd rfl h4
  | pay ns g o => exact absurd rfl h5
  | fire ms => exact absurd rfl h6
/-- _law_words -/
def spLw (K : PySem.W.Frag) : Sp := sp1 fun x H Q _ => ∃ e : Deed, Rep K H e.d x ∧ e.Good ∧ ∀ H' a, Gr K H H' → H' a = some (.lst (e.row.map V.str)) → Q (.ref a) H'
theorem sc__law_words : FnScope ["_law_deed", "_law_word", "_law_one", "_law_part"] ["_law_deed"] (defScope (top 149)) := ⟨rfl, rfl, rfl, by decide +kernel, rfl, by decide +kernel, by decide +kernel⟩
theorem ok__law_words (T : Tp w K mg base) : Cl P w K mg base CX0 6 "_law_words" (spLw K) := by
  obtain ⟨fd, F⟩ := F__law_words T
  refine ⟨fd, ["_law_deed"], F.ok sc__law_words (len1 rfl) (fun cdv A outer s H vs Q E hr h => ?_), G__law_words T, F.kp, F.bindsN fun _ _ _ _ _ _ us hl => match us, hl with | [_], _ => rfl⟩
  refine ⟨_, PSs.nox (pss_cons (ps_asg (pe_slice (sl_G (K := K) rfl) (pv 0) po_none (po_some pe_int)) (show PG _ _ (gTup K 2 _) from pg_tup rfl (pgs_cons (pg_name (i := 1) sc__law_words.nd rfl (Or.inl rfl)) (pgs_cons (pg_name (i := 2) sc__law_words.nd rfl (Or.inl rfl)) pgs_nil))))
  (pss_cons (ps_if (pt_cmpR op_in_seq (pv 1) (pe_tup (pa_cons pe_str (pa_cons pe_str (pa_cons pe_str pa_nil)))) (by rfl)) (pss_one (ps_ret (pe_op op_cat (pe_lst (pa_cons (pv 1) (pa_cons (pv 2) pa_nil))) (pe_f (ok__law_pairs_of T) hr (pa_cons (pe_ix (show IxR _ (rIxT K) from ix_tup) (pv 0) pe_int (fun _ _ => rfl)) pa_nil))))) pss_nil)
  (pss_cons (ps_if (pt_cmpR op_eq (pv 1) pe_str (nomark _)) (pss_one (ps_ret (pe_op op_cat (pe_lst (pa_cons (pv 1) (pa_cons (pe_ix (show IxR _ (rIxT K) from ix_tup) (pv 0) pe_int (fun _ _ => rfl)) pa_nil))) (pe_callTy call_list_of (by rfl) (B_list T) (by decide +kernel) (pa_cons (pv 2) pa_nil))))) pss_nil)
  (pss_cons (ps_if (pt_cmpR op_eq (pv 1) pe_str (nomark _)) (pss_one (ps_ret (pe_op op_cat (pe_lst (pa_cons (pv 1) (pa_cons (pe_callTy (call_strW T (hr.mono (by decide))) (by rfl) (B_str T) (by decide +kernel) (pa_cons (pe_ix (show IxR _ (rIxT K) from ix_tup) (pv 0) pe_int (fun _ _ => rfl)) pa_nil)) (pa_cons (pe_orT (pe_ix (show IxR _ (rIxT K) from ix_tup) (pv 0) pe_int (fun _ _ => rfl)) (pe_one pe_str)) pa_nil)))) (pe_callTy call_list_of (by rfl) (B_list T) (by decide +kernel) (pa_cons (pv 2) pa_nil))))) pss_nil)
  (pss_cons (ps_if (pt_cmpR op_eq (pv 1) pe_str (nomark _)) (pss_one (ps_ret (pe_op op_cat (pe_lst (pa_cons (pv 1) pa_nil)) (pe_callTy call_list_of (by rfl) (B_list T) (by decide +kernel) (pa_cons (pv 2) pa_nil))))) pss_nil)
  (pss_one (ps_ret (pe_op op_cat (pe_lst (pa_cons (pv 1) (pa_cons (pv 2) pa_nil))) (pe_lc (own := [("_law_part", 3)]) rfl sc__law_words.nd (pi_tup (pe_slice (sl_G (K := K) rfl) (pv 0) (po_some pe_int) po_none)) (blkOk_by (own := [("_law_part", 3)]) (N := ["_law_deed", "_law_word", "_law_one", "_law_part"]) (sc := defScope (top 149)) (by decide +kernel)) (fun _ _ _ _ _ => (pg_name (i := 3) sc__law_words.nd rfl (Or.inl rfl))) (fun _ _ _ _ _ => pts_nil) (fun _ _ _ _ _ => (pe_ix (show IxR _ (rIxL K) from ix_list) (pe_lst (pa_cons pe_str (pa_cons (show PE _ _ (tCB (rStrN K) _) from pe_callTy (call_strN T (hr.mono (by decide))) (by rfl) (B_str T) (by decide +kernel) (pa_cons (pv 3) pa_nil)) pa_nil))) (pe_callTy call_int1 (by rfl) (B_int T) (by decide +kernel) (pa_cons (pe_cmp (pc_notN (pv 3)) rfl) pa_nil)) (fun _ _ => rfl)))))))))))), ?_⟩
  obtain ⟨v, rfl, e, ⟨a, xs, rfl, hs, y, r, rfl, h1, hr2⟩, hg, q⟩ := h
  obtain rfl : y = .str e.word := h1
  have hrl : r.length = e.rest.length := hr2.len
  obtain ⟨one, r', rfl⟩ : ∃ one r', r = one :: r' := by
    cases r with
    | nil => exact absurd hrl.symm (by
        intro z
        exact rest_ne (body_ne hg) (List.length_eq_zero_iff.mp z))
    | cons o r => exact ⟨o, r, rfl⟩
  refine ⟨_, rfl, _, rfl, a, _, rfl, hs, fun H1 b g1 hb0 => ?_⟩
  have hb : SqT K H1 b [V.str e.word, one] := by
    have e2 := cut_to (xs := V.str e.word :: one :: r') (z := 2) (n := 2) rfl
    rw [e2] at hb0
    exact hb0
  refine ⟨b, _, rfl, hb, rfl, _, _, rfl, _, _, rfl, rfl, _, rfl, (show 3 ≤ sizeLine by decide), fun p0 hp0 => ?_⟩
  have g0 : Gr K H (upd H1 p0 (.tup [.str (.ofString "cask"), .str (.ofString "weigh"), .str (.ofString "part")])) := g1.add hp0
  refine ⟨p0, _, rfl, .inr (.inl (.inl upd_same)), rfl, rfl, _, rfl, ?_⟩
  refine iteV (fun h => ?_) (fun h => ?_)
  · obtain ⟨m, qs, w2, er, h2, ht, hl, eb⟩ : ∃ (m : Str) (qs : List Pr2) (w2 : V), one :: r' = [.str m, w2] ∧ Rep K H (.t (qs.map pP)) w2 ∧ (∀ q ∈ qs, TxOf q.2.1 q.2.2 ∧ q.1.length ≤ 8) ∧ qs.length ≤ 400 ∧ e.row = e.word :: m :: qs.map prT := by
      cases e with
      | parts k m ps =>
        obtain ⟨y1, r1, e0, e1, y2, r2, rfl, e2, rfl⟩ := hr2
        obtain ⟨rfl, rfl⟩ := List.cons.inj e0
        obtain rfl : one = .str m := e1
        refine ⟨m, qW ps, y2, rfl, by rw [qW_D]; exact e2, fun qq hq => ?_, by unfold qW; rw [List.length_map]; have := hg.2.1; omega, by unfold qW; rw [List.map_map]; rfl⟩
        obtain ⟨p, hp, rfl⟩ := List.mem_map.mp hq
        have := (hg.2.2.1 p hp).2
        exact ⟨⟨rfl, this.2.1, this.2.2.2.1⟩, (isNm_len (hg.2.2.1 p hp).1).2⟩
      | part n ps =>
        obtain ⟨y1, r1, e0, e1, y2, r2, rfl, e2, rfl⟩ := hr2
        obtain ⟨rfl, rfl⟩ := List.cons.inj e0
        obtain rfl : one = .str n := e1
        refine ⟨n, qI ps, y2, rfl, by rw [qI_D]; exact e2, fun qq hq => ?_, by unfold qI; rw [List.length_map]; have := hg.2.1.2.1; rw [List.length_map] at this; omega, by unfold qI; rw [List.map_map]; rfl⟩
        obtain ⟨p, hp, rfl⟩ := List.mem_map.mp hq
        exact ⟨⟨rfl, (hg.2.2 p hp).2⟩, (isNm_len (hg.2.1.2.2.1 _ (List.mem_map_of_mem hp))).2⟩
      | _ => exact absurd h (by simp only [Deed.word]; decide)
    obtain ⟨rfl, rfl⟩ := List.cons.inj er
    refine ⟨_, rfl, _, rfl, (show 2 ≤ sizeLine by decide), fun p hp => ⟨_, rfl, a, _, 2, _, rfl, rfl, (g0.add hp).sqT hs, at_2, _, rfl, qs, h2.std' (g0.add hp).std, ht, hl, fun H2 b g2 hb => ⟨p, b, _, _, rfl, rfl, g2.lst upd_same, hb, ?_, fun p2 hp2 => q _ p2 (((g0.add hp).trans g2).add hp2) ?_⟩⟩⟩
    · rw [List.length_map, List.length_map]
      exact small (show 2 + qs.length ≤ 1000 by omega)
    · rw [upd_same, eb]
      rfl
  refine ⟨_, rfl, rfl, _, rfl, ?_⟩
  refine iteV (fun h2 => ?_) (fun h2 => ?_)
  · have h2 := V.str.inj (of_decide_eq_true h2)
    cases e with
    | merge ns f =>
      obtain ⟨y1, r1, e0, ⟨c, zs, e1, hc, hzs⟩, y2, r2, rfl, e2, rfl⟩ := hr2
      obtain ⟨rfl, rfl⟩ := List.cons.inj e0
      subst e1
      obtain rfl : y2 = .str f := e2
      obtain rfl := hzs.strs
      refine ⟨_, rfl, _, rfl, a, _, 2, _, rfl, rfl, g0.sqT hs, at_2, (show 2 ≤ sizeLine by decide), fun p hp => ⟨_, rfl, c, _, rfl, .inr ((g0.add hp).sqT hc), fun l hl => ?_⟩⟩
      have hne : p ≠ l := fun z => by rw [← z, upd_same] at hl; cases hl
      refine ⟨p, l, _, _, rfl, rfl, by rw [upd_ne hne, upd_same], upd_same, ?_, fun p2 hp2 => q _ p2 (((g0.add hp).add hl).add hp2) ?_⟩
      · rw [List.length_map]
        have := hg.1.2.1
        exact small (show 2 + ns.length ≤ 1000 by omega)
      · rw [upd_same]
        rfl
    | parts k m ps => cases k <;> exact absurd h2 (by simp only [Deed.word]; decide)
    | _ => exact absurd h2 (by simp only [Deed.word]; decide)
  refine ⟨_, rfl, rfl, _, rfl, ?_⟩
  refine iteV (fun h3 => ?_) (fun h3 => ?_)
  · have h3 := V.str.inj (of_decide_eq_true h3)
    cases e with
    | pay ns g o =>
      obtain ⟨y1, r1, e0, ⟨c, zs, e1, hc, hzs⟩, y2, r2, rfl, e2, y3, r3, rfl, e3, rfl⟩ := hr2
      obtain ⟨rfl, rfl⟩ := List.cons.inj e0
      subst e1
      obtain rfl : y2 = .int (g : Nat) := e2
      obtain rfl := hzs.strs
      refine ⟨_, rfl, _, rfl, a, _, 2, _, rfl, rfl, g0.sqT hs, at_2, rStr_n hg.2.1.2 ⟨_, rfl, a, _, 3, _, rfl, rfl, g0.sqT hs, at_3, ?_⟩⟩
      cases o with
      | none =>
        obtain rfl : y3 = .non := e3
        refine ⟨false, rfl, iteF ⟨(show 3 ≤ sizeLine by decide), fun p hp => ⟨_, rfl, c, _, rfl, .inr ((g0.add hp).sqT hc), fun l hl => ?_⟩⟩⟩
        have hne : p ≠ l := fun z => by rw [← z, upd_same] at hl; cases hl
        refine ⟨p, l, _, _, rfl, rfl, by rw [upd_ne hne, upd_same], upd_same, small (by rw [List.length_map]; show 3 + ns.length ≤ 1000; have := hg.1.2.1; omega), fun p2 hp2 => q _ p2 (((g0.add hp).add hl).add hp2) ?_⟩
        rw [upd_same]
        rfl
      | some z =>
        obtain rfl : y3 = .str z := e3
        have hz := isNm_len (show isNm z = true from hg.2.2)
        refine ⟨_, ⟨small (by omega), rfl⟩, ?_⟩
        rw [show ((z.length : Int) != 0) = true from bne_iff_ne.mpr (by omega)]
        refine iteT ?_
        refine ⟨(show 3 ≤ sizeLine by decide), fun p hp => ⟨_, rfl, c, _, rfl, .inr ((g0.add hp).sqT hc), fun l hl => ?_⟩⟩
        have hne : p ≠ l := fun z => by rw [← z, upd_same] at hl; cases hl
        refine ⟨p, l, _, _, rfl, rfl, by rw [upd_ne hne, upd_same], upd_same, small (by rw [List.length_map]; show 3 + ns.length ≤ 1000; have := hg.1.2.1; omega), fun p2 hp2 => q _ p2 (((g0.add hp).add hl).add hp2) ?_⟩
        rw [upd_same]
        rfl
    | parts k m ps => cases k <;> exact absurd h3 (by simp only [Deed.word]; decide)
    | _ => exact absurd h3 (by simp only [Deed.word]; decide)
  refine ⟨_, rfl, rfl, _, rfl, ?_⟩
  refine iteV (fun h4 => ?_) (fun h4 => ?_)
  · have h4 := V.str.inj (of_decide_eq_true h4)
    cases e with
    | fire ms =>
      obtain ⟨y1, r1, e0, ⟨c, zs, e1, hc, hzs⟩, e9⟩ := hr2
      subst e9
      obtain ⟨rfl, rfl⟩ := List.cons.inj e0
      subst e1
      obtain rfl := hzs.strs
      refine ⟨_, rfl, (show 1 ≤ sizeLine by decide), fun p hp => ⟨_, rfl, c, _, rfl, .inr ((g0.add hp).sqT hc), fun l hl => ?_⟩⟩
      have hne : p ≠ l := fun z => by rw [← z, upd_same] at hl; cases hl
      refine ⟨p, l, _, _, rfl, rfl, by rw [upd_ne hne, upd_same], upd_same, small (by rw [List.length_map]; show 1 + ms.length ≤ 1000; have := hg.2.1; omega), fun p2 hp2 => q _ p2 (((g0.add hp).add hl).add hp2) ?_⟩
      rw [upd_same]
      rfl
    | parts k m ps => cases k <;> exact absurd h4 (by simp only [Deed.word]; decide)
    | _ => exact absurd h4 (by simp only [Deed.word]; decide)
  have nS' : ∀ {a b : Str}, decide (V.str a = V.str b) = false → a ≠ b := fun h e => of_decide_eq_false h (by rw [e])
  have hw3 : e.word ≠ .ofString "cask" ∧ e.word ≠ .ofString "weigh" ∧ e.word ≠ .ofString "part" := by
    refine ⟨fun z => ?_, fun z => ?_, fun z => ?_⟩ <;> (rw [z] at h; exact absurd h (by decide))
  obtain ⟨f, ds, zs, er, ew, hlen, hz2, htx⟩ := body_tail hg hw3.1 hw3.2.1 hw3.2.2 (nS' h2) (nS' h3) (nS' h4)
  rw [er] at hr2
  obtain ⟨y1, r1, e0, e1, hrs⟩ := hr2
  obtain ⟨rfl, rfl⟩ := List.cons.inj e0
  obtain rfl : one = .str f := e1
  have hr1 : r'.length = zs.length := by rw [hrs.len, hlen]
  refine ⟨_, rfl, _, rfl, (show 2 ≤ sizeLine by decide), fun p hp => ⟨_, rfl, _, rfl, a, _, rfl, (g0.add hp).sqT hs, fun H2 b2 g2 hb2 => ?_⟩⟩
  have hb3 : SqT K H2 b2 r' := by
    have e2 : cutV (V.str e.word :: V.str f :: r') (some ((2 : Nat) : Int)) none = r' := cut_from 2
    rw [show (some (2 : Int)) = some ((2 : Nat) : Int) from rfl, e2] at hb2
    exact hb2
  have gT := (g0.add hp).trans g2
  refine ⟨b2, rfl, ⟨_, hb3⟩, fun D hD => lc_V (K := K) (walk_tup (K := K) (a := b2) (xs := r')) (zs.map V.str) (by rw [List.length_map, hr1]) hD (by rw [hr1]; exact small (by omega)) (fun H g => g.sqT hb3) ?_ fun H3 g3 e3 => ?_⟩
  · rintro i x H3 _ Q' y hy gr ⟨rfl, hx⟩ k
    cases hz : zs[i]? with
    | none => rw [List.getElem?_map, hz] at hy; cases hy
    | some z =>
      rw [List.getElem?_map, hz] at hy
      cases hy
      have hi : i < ds.length := by rw [hlen]; exact (List.getElem?_eq_some_iff.mp hz).1
      have hd := List.getElem?_eq_getElem (l := ds) hi
      obtain ⟨x', e4, hrep⟩ := hrs.at hd
      rw [hx] at e4
      cases e4
      have ht := htx i _ _ hd hz
      have hrep := hrep.std' (gT.trans gr).std
      generalize ds[i] = d at ht hrep
      have some1 : ∀ v : V, v ≠ .non → decide (v = .non) = false := fun v h => decide_eq_false h
      cases d with
      | n =>
        obtain rfl : x = .non := hrep
        obtain rfl : z = .ofString "-" := ht
        refine ⟨rfl, _, rfl, .inl ⟨rfl, (show 2 ≤ sizeLine by decide), fun p9 hp9 => ⟨_, rfl, .inr ⟨_, rfl, ?_⟩⟩⟩⟩
        rw [show decide (V.non = V.non) = true from decide_eq_true rfl]
        exact ⟨p9, _, 0, _, rfl, rfl, SqL.of upd_same, at_0, k _ (.new hp9)⟩
      | s w =>
        obtain rfl : x = .str w := hrep
        obtain rfl : z = w := ht
        refine ⟨rfl, _, rfl, .inr (rStr_s ⟨(show 2 ≤ sizeLine by decide), fun p9 hp9 => ⟨_, rfl, .inr ⟨_, rfl, ?_⟩⟩⟩)⟩
        rw [some1 _ (fun z => by cases z)]
        exact ⟨p9, _, 1, _, rfl, rfl, SqL.of upd_same, at_1, k _ (.new hp9)⟩
      | i m =>
        refine ⟨rfl, _, rfl, .inr (str_of (d := .i m) ht hrep ⟨(show 2 ≤ sizeLine by decide), fun p9 hp9 => ⟨_, rfl, .inr ⟨_, rfl, ?_⟩⟩⟩)⟩
        rw [some1 _ (fun z => by rw [show x = V.int (m : Nat) from hrep] at z; cases z)]
        exact ⟨p9, _, 1, _, rfl, rfl, SqL.of upd_same, at_1, k _ (.new hp9)⟩
      | w t b =>
        refine ⟨rfl, _, rfl, .inr (str_of (d := .w t b) ht hrep ⟨(show 2 ≤ sizeLine by decide), fun p9 hp9 => ⟨_, rfl, .inr ⟨_, rfl, ?_⟩⟩⟩)⟩
        obtain ⟨c, e5, _⟩ := hrep
        rw [some1 _ (fun z => by rw [e5] at z; cases z)]
        exact ⟨p9, _, 1, _, rfl, rfl, SqL.of upd_same, at_1, k _ (.new hp9)⟩
      | t l => exact ht.elim
  · refine ⟨p, D, _, _, rfl, rfl, g3.lst (g2.lst upd_same), e3, small (by rw [List.length_map]; show 2 + zs.length ≤ 1000; omega), fun p2 hp2 => q _ p2 ((gT.trans g3).add hp2) ?_⟩
    rw [upd_same, ew]
    rfl

end
end CK
set_option maxHeartbeats 4000000
namespace CK
open PySem PySem.Spec PyProof.Rows L2
/-! ### the deeds by their days -/
theorem sorted_ext {α : Type} : ∀ {l m : List (Nat × α)}, l.Pairwise (fun p q => p.1 ≤ q.1) → m.Pairwise (fun p q => p.1 ≤ q.1) → (∀ d, l.filter (fun p => p.1 == d) = m.filter (fun p => p.1 == d)) → l = m
  | [], [], _, _, _ => rfl
  | [], y :: m, _, _, h => by
    have := h y.1
    simp at this
  | x :: l, [], _, _, h => by
    have := h x.1
    simp at this
  | x :: l, y :: m, hl, hm, h => by
    have mx : x ∈ y :: m := by
      have e := h x.1
      have : x ∈ (x :: l).filter (fun p => p.1 == x.1) := List.mem_filter.mpr ⟨List.mem_cons_self, by simp⟩
      rw [e] at this
      exact (List.mem_filter.mp this).1
    have my : y ∈ x :: l := by
      have e := h y.1
      have : y ∈ (y :: m).filter (fun p => p.1 == y.1) := List.mem_filter.mpr ⟨List.mem_cons_self, by simp⟩
      rw [← e] at this
      exact (List.mem_filter.mp this).1
    have h1 : y.1 ≤ x.1 := by
      rcases List.mem_cons.mp mx with z | z
      · rw [z]; exact Nat.le_refl _
      · exact (List.pairwise_cons.mp hm).1 x z
    have h2 : x.1 ≤ y.1 := by
      rcases List.mem_cons.mp my with z | z
      · rw [z]; exact Nat.le_refl _
      · exact (List.pairwise_cons.mp hl).1 y z
    have exy : x = y := by
      have e := h x.1
      rw [List.filter_cons_of_pos (by simp), List.filter_cons_of_pos (by simp; omega)] at e
      exact (List.cons.inj e).1
    subst exy
    rw [sorted_ext (List.pairwise_cons.mp hl).2 (List.pairwise_cons.mp hm).2 fun d => ?_]
    have e := h d
    by_cases hd : x.1 = d
    · rw [List.filter_cons_of_pos (by simp [hd]), List.filter_cons_of_pos (by simp [hd])] at e
      exact (List.cons.inj e).2
    · rw [List.filter_cons_of_neg (by simp [hd]), List.filter_cons_of_neg (by simp [hd])] at e
      exact e
theorem byDay_perm {day : Nat → Nat} {ns : List Nat} : (byDay day ns).Perm ns := List.mergeSort_perm _ _
theorem le_trans' {day : Nat → Nat} : ∀ a b c : Nat, decide ((day a : Int) ≤ (day b : Int)) = true → decide ((day b : Int) ≤ (day c : Int)) = true → decide ((day a : Int) ≤ (day c : Int)) = true := by
  intro a b c h1 h2
  simp only [decide_eq_true_eq] at *
  omega
theorem le_total' {day : Nat → Nat} : ∀ a b : Nat, (decide ((day a : Int) ≤ (day b : Int)) || decide ((day b : Int) ≤ (day a : Int))) = true := by
  intro a b
  simp only [Bool.or_eq_true, decide_eq_true_eq]
  omega
theorem byDay_sorted {day : Nat → Nat} {ns : List Nat} : (byDay day ns).Pairwise fun a b => day a ≤ day b := by
  have := List.pairwise_mergeSort (le_trans' (day := day)) (le_total' (day := day)) ns
  refine List.Pairwise.imp (fun {a b} h => ?_) this
  simp only [decide_eq_true_eq] at h
  omega
theorem byDay_filter {day : Nat → Nat} {ns : List Nat} (d : Nat) : (byDay day ns).filter (fun n => day n == d) = ns.filter (fun n => day n == d) := by
  have hp : (ns.filter (fun n => day n == d)).Pairwise (fun a b => decide ((day a : Int) ≤ (day b : Int)) = true) := by
    refine List.pairwise_of_forall_mem_list ?_
    intro a ha b hb
    have h1 := (List.mem_filter.mp ha).2
    have h2 := (List.mem_filter.mp hb).2
    simp only [beq_iff_eq] at h1 h2
    simp only [decide_eq_true_eq]
    omega
  have hs := List.sublist_mergeSort (le_trans' (day := day)) (le_total' (day := day)) hp List.filter_sublist
  have hs2 := hs.filter (fun n => day n == d)
  rw [List.filter_filter] at hs2
  simp only [Bool.and_self] at hs2
  exact (hs2.eq_of_length (byDay_perm.filter _).length_eq.symm).symm
theorem filterMap_key {α : Type} {f : Nat → Option (Nat × α)} {day : Nat → Nat} (d : Nat) : ∀ {ns : List Nat}, (∀ n ∈ ns, ∃ p, f n = some p ∧ day n = p.1) → (ns.filterMap f).filter (fun p => p.1 == d) = (ns.filter (fun n => day n == d)).filterMap f
  | [], _ => rfl
  | n :: ns, h => by
    obtain ⟨p, e, ed⟩ := h n List.mem_cons_self
    have ih := filterMap_key d (ns := ns) fun x hx => h x (List.mem_cons_of_mem _ hx)
    rw [List.filterMap_cons_some e]
    by_cases hd : p.1 = d
    · rw [List.filter_cons_of_pos (by simp [hd]), List.filter_cons_of_pos (by simp [ed, hd]), List.filterMap_cons_some e, ih]
    · rw [List.filter_cons_of_neg (by simp [hd]), List.filter_cons_of_neg (by simp [ed, hd]), ih]
theorem sorted_fm {α : Type} {f : Nat → Option (Nat × α)} {day : Nat → Nat} : ∀ {ns : List Nat}, (∀ n ∈ ns, ∃ p, f n = some p ∧ day n = p.1) → ns.Pairwise (fun a b => day a ≤ day b) → (ns.filterMap f).Pairwise (fun p q => p.1 ≤ q.1)
  | [], _, _ => .nil
  | n :: ns, h, hp => by
    obtain ⟨p, e, ed⟩ := h n List.mem_cons_self
    rw [List.filterMap_cons_some e]
    obtain ⟨h1, h2⟩ := List.pairwise_cons.mp hp
    refine List.pairwise_cons.mpr ⟨fun q hq => ?_, sorted_fm (fun x hx => h x (List.mem_cons_of_mem _ hx)) h2⟩
    obtain ⟨m, hm, em⟩ := List.mem_filterMap.mp hq
    obtain ⟨q', e', ed'⟩ := h m (List.mem_cons_of_mem _ hm)
    rw [em] at e'
    cases e'
    have := h1 m hm
    omega
/-- the items by their places -/
theorem range_fm {α : Type} : ∀ (its : List (Option α)), ((List.range its.length).filter fun i => (its.getD i none).isSome).filterMap (fun n => its.getD n none) = its.filterMap id
  | [] => rfl
  | o :: its => by
    have ih := range_fm its
    rw [List.length_cons, List.range_succ_eq_map, List.filter_cons]
    have e : ((List.map Nat.succ (List.range its.length)).filter fun i => ((o :: its).getD i none).isSome) = ((List.range its.length).filter fun i => (its.getD i none).isSome).map Nat.succ := by
      rw [List.filter_map]
      rfl
    have e2 : (((List.range its.length).filter fun i => (its.getD i none).isSome).map Nat.succ).filterMap (fun n => (o :: its).getD n none) = its.filterMap id := by
      rw [List.filterMap_map]
      exact ih
    cases o with
    | none => 
      rw [e]
      simp only [List.getD_cons_zero, Option.isSome_none, Bool.false_eq_true, if_false]
      rw [e2]
      rfl
    | some a =>
      rw [e]
      simp only [List.getD_cons_zero, Option.isSome_some, if_true]
      rw [List.filterMap_cons_some (b := a) (by rfl), e2]
      rfl
def kept (its : List Itm) : List (Nat × Deed) := its.filterMap id
theorem live_day {its : List Itm} : ∀ n ∈ live its, ∃ p, its.getD n none = some p ∧ dayOf its n = p.1 := fun n hn => by
  obtain ⟨_, p, hp⟩ := live_lt hn
  refine ⟨p, hp, ?_⟩
  unfold dayOf
  rw [hp]
theorem live_kept {its : List Itm} : (live its).filterMap (fun n => its.getD n none) = kept its := range_fm its
theorem live_len {its : List Itm} : (live its).length = (kept its).length := by
  rw [← live_kept]
  have : ∀ ns : List Nat, (∀ n ∈ ns, ∃ p, its.getD n none = some p) → (ns.filterMap fun n => its.getD n none).length = ns.length := fun ns h => by
    induction ns with
    | nil => rfl
    | cons n ns ih =>
      obtain ⟨p, hp⟩ := h n List.mem_cons_self
      rw [List.filterMap_cons_some (f := fun n => its.getD n none) (b := p) hp, List.length_cons, List.length_cons, ih fun m hm => h m (List.mem_cons_of_mem _ hm)]
  exact (this _ fun n hn => let ⟨p, hp, _⟩ := live_day n hn; ⟨p, hp⟩).symm
theorem nums_day {its : List Itm} : ∀ n ∈ nums its, ∃ p, its.getD n none = some p ∧ dayOf its n = p.1 := fun n hn => live_day n (nums_mem.mp hn)
theorem days_filter {its : List Itm} (d : Nat) : (days its).filter (fun p => p.1 == d) = (kept its).filter (fun p => p.1 == d) := by
  unfold days
  rw [filterMap_key d nums_day]
  unfold nums
  rw [byDay_filter, ← filterMap_key d live_day, live_kept]
theorem days_sorted {its : List Itm} : (days its).Pairwise fun p q => p.1 ≤ q.1 := sorted_fm nums_day byDay_sorted
theorem days_of {its : List Itm} {l : List (Nat × Deed)} (hs : l.Pairwise fun p q => p.1 ≤ q.1) (h : ∀ d, (kept its).filter (fun p => p.1 == d) = l.filter (fun p => p.1 == d)) : days its = l :=
  sorted_ext days_sorted hs fun d => (days_filter d).trans (h d)
theorem kept_some (l : List (Nat × Deed)) : kept (l.map some) = l := by
  unfold kept
  rw [List.filterMap_map]
  exact List.filterMap_some
theorem days_some {l : List (Nat × Deed)} (hs : l.Pairwise fun p q => p.1 ≤ q.1) : days (l.map some) = l := days_of hs fun d => by rw [kept_some]
theorem days_len2 {its : List Itm} : (days its).length = (kept its).length := by
  have e : (days its).length = (nums its).length := by
    have : ∀ ns : List Nat, (∀ n ∈ ns, ∃ p, its.getD n none = some p) → (ns.filterMap fun n => its.getD n none).length = ns.length := fun ns h => by
      induction ns with
      | nil => rfl
      | cons n ns ih =>
        obtain ⟨p, hp⟩ := h n List.mem_cons_self
        rw [List.filterMap_cons_some (f := fun n => its.getD n none) (b := p) hp, List.length_cons, List.length_cons, ih fun m hm => h m (List.mem_cons_of_mem _ hm)]
    exact this _ fun n hn => let ⟨p, hp, _⟩ := nums_day n hn; ⟨p, hp⟩
  rw [e, ← live_len]
  unfold nums
  exact (byDay_perm (day := dayOf its) (ns := live its)).length_eq
end CK
set_option maxHeartbeats 0
namespace CK
open PySem PySem.Spec PyProof.Rows L2
section
variable {P : Program} {w : World} {K : PySem.W.Frag} {mg : Str → Option Value} {base : Heap}
theorem ck_takes0 {X : Cx} : L2.Takes X (fun _ _ _ _ => False) := fun _ _ x => by
  obtain ⟨_, _, _, _, _, _, _, _, _, _, _, _, _, _, _, _, z⟩ := x
  exact z.elim
theorem xfC_ (T : Tp w K mg base) : XfC K (cN K) := xfB_ok (xl T (i := 3) rfl)
/-- _law_told -/
def spTold (K : PySem.W.Frag) : Sp := sp1 fun x H Q _ => ∃ (z : Str) (ls : List Str), x = .str z ∧ z.length + 2 ≤ sizeLine ∧ Txt.split z (.ofString "\n") = ls ∧ ls.length ≤ 600 ∧ LamX.Tabs (TT K) H ∧
  ((∃ dr l, ls = headT dr :: rowsT l ∧ okB dr l ∧ ∀ H', Gr K H H' → Q (.str (bookT dr l)) H') ∨ (∃ k : Nat, BadAt ls k ∧ ∀ H', Gr K H H' → Q (.int (k : Nat)) H'))
theorem sc__law_told : FnScope ["_law_written", "_law_told_here", "e"] ["_law_written"] (defScope (top 150)) := ⟨rfl, rfl, rfl, by decide +kernel, rfl, by decide +kernel, by decide +kernel⟩
theorem ok__law_told (T : Tp w K mg base) : Cl P w K mg base CX0 10 "_law_told" (spTold K) := by
  obtain ⟨fd, F⟩ := F__law_told T
  refine ⟨fd, ["_law_written"], F.ok sc__law_told (len1 rfl) (fun cdv A outer s H vs Q E hr h => ?_), G__law_told T, F.kp, F.bindsN fun _ _ _ _ _ _ us hl => match us, hl with | [_], _ => rfl⟩
  refine ⟨_, PSs.nox (pss_cons (ps_set (i := 1) sc__law_told.nd rfl (Or.inl rfl) pe_str)
  (pss_cons (L2.ps_try_as (i := 2) (c := .ref (cN K)) rfl rfl sc__law_told.nd rfl rfl ⟨rfl, by decide, .inl (G_NoText T)⟩ ck_takes0 (fun W pn xe tkb po => (pss_one (ps_set (i := 1) sc__law_told.nd rfl (Or.inl rfl) (pe_f (ok_show_book T) hr (pa_cons (pe_fS tkb (ok_read_book T) hr (pa_cons (pv 0) pa_nil)) pa_nil))))) (fun a oe cls d pn hz hf => (pss_one (ps_set (i := 1) sc__law_told.nd rfl (Or.inl rfl) (pe_xf (xfC_ T) (N_NoText_row T) hz hf (pv 2))))))
  (pss_one (ps_ret (pv 1))))), ?_⟩
  obtain ⟨v, rfl, z, ls, rfl, hz, hw, hl, hT, h⟩ := h
  refine ⟨_, rfl, _, rfl, z, ls, rfl, hz, hw, hl, ?_⟩
  rcases h with ⟨dr, l, e, hb, q⟩ | ⟨k, hb, q⟩
  · refine .inl ⟨dr, l, e, hb, fun H1 b L g1 _ _ B => ⟨_, rfl, b, L, dr, _, rfl, B, hb.1, by rw [days_some hb.2.2]; exact hb.2.1, g1.tabs hT, fun H2 g2 => ⟨_, rfl, ?_⟩⟩⟩
    rw [days_some hb.2.2]
    exact q H2 (g1.trans g2)
  · exact .inr ⟨k, hb, fun d H1 g1 hd => ⟨true, X_NoText T, fun _ a ha => ⟨_, rfl, rfl, rfl, d, _, _, rfl, hd, rfl, _, rfl, q H1 g1⟩, fun z => nomatch z⟩⟩

end
end CK
set_option maxHeartbeats 4000000
/-! set(xs), xs a list of whole numbers -/
namespace CK
open PySem PySem.Spec PyProof.Rows L2
section
variable {P : Program} {w : World} {A : Around} {E : Value → Shared → Prop} {s : Shared}
theorem set_listI {l : Addr} {items : Array Value} (ns : List Int) {Q : Value → Shared → Prop} (hh : A.handled = none) (hl : s.heap.IsList l items) (hit : IntsAre items.toList ns) (hb : ns.length + 1 < scanBound)
    (h : ∀ (h' : Heap) (tk c : Nat), SetR w h' s.heap.objs.size (fun j => decide (j ∈ ns)) c → c ≤ ns.length → (∀ b o, s.heap.get? b = some o → h'.get? b = some o) → Q (.ref s.heap.objs.size) { s with heap := h', toks := tk }) :
    wpAny (model P w) A (call (.type "set") [.ref l]) Q E s := by
  have hisz : items.size = ns.length := by
    have q := IntsAre.length hit
    rw [Array.length_toList] at q
    exact q
  obtain ⟨c, tl, hmro⟩ := F.called_set.mro
  have hmade := F.called_set.made
  have hsub := F.called_set.sub
  refine wpAny_call (codeAny_of_tree ?_)
  show wpAny _ _ (callAny (.type "set") _) _ _ _
  refine wpAny_pure ⟨Code.quiet_builtin _ (by decide +kernel), codeAny_builtin F.entry_type_call ?_⟩
  rw [Around.under_plain (weight_type_call_type "set" [.ref l] []) rfl]
  have h1 := F.called_set.notType
  have h2 := F.called_set.canCreate
  have hct := F.typeCall_set_1 (.ref l)
  repeat (any_goals (first | assumption | wp_step))

  refine codeAny_mono (code_set_led1 (.ref l) (E := E) (Q₁ := fun obj s₁ => obj = .ref s.heap.objs.size ∧ s₁ = { s with heap := s.heap.push { cls := .type "set", dict := none, data := .set #[] 0 (.fresh 0 0 (!w.params.followText "set-order")) } }) ⟨rfl, rfl⟩) fun r s₁ hr => ?_
  cases r with
  | error e => exact hr
  | ok fl =>
    cases fl with
    | ret obj =>
      obtain ⟨rfl, rfl⟩ := hr
      have hS : (s.heap.push { cls := .type "set", dict := none, data := .set #[] 0 (.fresh 0 0 (!w.params.followText "set-order")) }).get? s.heap.objs.size = some { cls := .type "set", dict := none, data := .set #[] 0 (.fresh 0 0 (!w.params.followText "set-order")) } := Heap.get?_push_size _ rfl
      have hT : Shared.TypeIs { s with heap := s.heap.push { cls := .type "set", dict := none, data := .set #[] 0 (.fresh 0 0 (!w.params.followText "set-order")) } } (.ref s.heap.objs.size) "set" := ⟨_, hS, rfl⟩
      have hli := F.called_set.init.lookup
      have hbi := F.called_set.init.bind (.ref s.heap.objs.size)
      repeat (any_goals (first | assumption | wp_step))

      refine codeAny_mono (codeAny_call_builtin (R := wants (fun r s₂ => r = .none ∧ ∃ h' tk c, s₂ = { s with heap := h', toks := tk } ∧ SetR w h' s.heap.objs.size (fun j => decide (j ∈ ns)) c ∧ c ≤ ns.length ∧
          (∀ b o, s.heap.get? b = some o → h'.get? b = some o)) E) F.called_set.init.plain F.entry_set_init (check_set_init_1 hT ?_)) fun r₂ s₂ hr₂ => ?_
      · obtain ⟨ol, hol, hcl, nl, hdl⟩ := hl
        obtain ⟨ocls, odict, odata, oslots⟩ := ol
        simp only at hcl hdl
        subst hcl; subst hdl
        have hol' : (s.heap.push { cls := .type "set", dict := none, data := .set #[] 0 (.fresh 0 0 (!w.params.followText "set-order")) }).get? l = some { cls := .type "list", dict := odict, data := .seq items nl, slots := oslots } := Heap.get?_push_of_some _ hol
        have hsls := F.sub_list_set
        have hslf := F.sub_list_frozenset
        have hne : (Value.type "list" == Value.type "dict") = false := by decide
        have hl1 : (s.heap.push { cls := .type "set", dict := none, data := .set #[] 0 (.fresh 0 0 (!w.params.followText "set-order")) }).IsList l items := ⟨_, hol', rfl, nl, rfl⟩
        unfold Builtin.«set.__init__» noKeywords Builtin.Frozenset.updateFrom
        generalize hPI : pyIter = PI
        wp_walk
        subst hPI

        refine wpAny_pyIter_list hl1 ?_
        refine wpAny_bind (wpAny_runValue ?_)
        have hlS : l < s.heap.objs.size := Heap.lt_size hol
        have hh3 : A.in1.in1.in1.handled = none := by simp [hh]
        have hz1 : (s.heap.push { cls := .type "set", dict := none, data := .set #[] 0 (.fresh 0 0 (!w.params.followText "set-order")) }).objs.size = s.heap.objs.size + 1 := Heap.size_push ..
        have hneI : l ≠ (s.heap.push { cls := .type "set", dict := none, data := .set #[] 0 (.fresh 0 0 (!w.params.followText "set-order")) }).objs.size := by
          rw [Heap.size_push]; exact Nat.ne_of_lt (Nat.lt_succ_of_lt hlS)
        have hSf : s.heap.objs.size ∉ [(s.heap.push { cls := .type "set", dict := none, data := .set #[] 0 (.fresh 0 0 (!w.params.followText "set-order")) }).objs.size, l] := by
          rw [Heap.size_push]; simp only [List.mem_cons, List.mem_singleton, List.not_mem_nil, or_false, not_or]
          exact ⟨Nat.ne_of_lt (Nat.lt_succ_self _), Nat.ne_of_gt hlS⟩
        have hval : ∀ (i : Nat) (v : Value), items[i]? = some v → ∃ k t, ns[i]? = some k ∧ v = .int k t := fun i v hv => by
          have hi : i < ns.length := by rw [← hisz]; exact (Array.getElem?_eq_some_iff.mp hv).1
          obtain ⟨t, e⟩ := PyProof.Rows.IntsAre.int_at hit i v (by rw [Array.getElem?_toList]; exact hv)
          refine ⟨ns[i], t, List.getElem?_eq_getElem hi, ?_⟩
          rw [e, List.getD_eq_getElem?_getD, List.getElem?_eq_getElem hi] <;> rfl
        refine set_update_ints ((Walks.list hh3 _ l hneI items).toS) s.heap.objs.size
          hSf ns hisz hb hval (items.size - 0) 0 _ (by omega) (Nat.zero_le _)
          ⟨⟨_, Heap.get?_push_size _ rfl, rfl, rfl⟩, (hl1.push _)⟩ ?hS0 ?hR
        case hS0 =>
          have hget : ((s.heap.push { cls := .type "set", dict := none, data := .set #[] 0 (.fresh 0 0 (!w.params.followText "set-order")) }).push { cls := .type "list_iterator", data := .fields #[.ref l, .int 0 0] }).get? s.heap.objs.size
              = some { cls := .type "set", dict := none, data := .set #[] 0 (.fresh 0 0 (!w.params.followText "set-order")) } := Heap.get?_push_of_some _ hS
          exact ⟨0, Nat.le_refl 0, setR_new_at hget⟩
        case hR =>
          intro s' c' hm hc' hS'
          obtain ⟨h', g2, d', tk', os'⟩ := s'
          have eg : g2 = s.gens := hm.gens
          have ed : d' = s.drawn := hm.drawn
          have eo : os' = s.os := hm.os
          subst eg; subst ed; subst eo
          show wpAny _ _ _ _ _ _
          refine wpAny_pure ?_
          show wpAny _ _ (ret Value.none) _ _ _
          rw [hisz] at hc'
          refine wpAny_pure ⟨rfl, h', tk', c', rfl, hS', hc', fun b o e => ?_⟩
          have hb0 : b < s.heap.objs.size := Heap.lt_size e
          have hb1 : b ≠ s.heap.objs.size := Nat.ne_of_lt hb0
          have hb2 : b ≠ (s.heap.push { cls := .type "set", dict := none, data := .set #[] 0 (.fresh 0 0 (!w.params.followText "set-order")) }).objs.size := by
            rw [Heap.size_push]; exact Nat.ne_of_lt (Nat.lt_succ_of_lt hb0)
          exact hm.heap b o (by simp only [List.mem_cons, List.mem_singleton, List.not_mem_nil, or_false, not_or]; exact ⟨hb1, hb2⟩) (Heap.get?_push_of_some _ (Heap.get?_push_of_some _ e))

      · cases r₂ with
        | error e => exact hr₂
        | ok fl₂ =>
          cases fl₂ with
          | ret r =>
            obtain ⟨rfl, h', tk, c', rfl, hS', hc', hk'⟩ := hr₂
            repeat (any_goals (first | assumption | wp_step))
            exact h _ _ _ hS' hc' hk'
          | _ => exact hr₂.elim
    | _ => exact hr.elim

end
def rSetI (K : PySem.W.Frag) (w : World) : List V → Hp → VK → Prop := fun xs H Q => ∃ (p : Addr) (ns : List Int), xs = [.ref p] ∧ SqL K H p (ns.map V.int) ∧ ns.length < 64 ∧ ∀ q c, H q = none → c ≤ ns.length → Q (.ref q) (upd H q (SetO w q (fun j => decide (j ∈ ns)) c))
theorem cr_setI {X : Cx} (hc : X.calm = true) : CallR X (.type "set") (rSetI X.K X.w) := by
  intro pins s σ H xs us Q I r h
  obtain ⟨p, ns, rfl, hs, h64, q⟩ := h
  rw [Vals.ref1 r]
  obtain ⟨its, rv, pl, hz⟩ := I.list hs
  refine set_listI ns (I.ok.hd hc) pl.isList (by simpa using rv.ints) (Nat.lt_of_lt_of_le (show ns.length + 1 < 65 by omega) (by decide)) fun h' tk c hS hcl hk => ?_
  exact ⟨.ref _, upd H s.heap.objs.size (SetO X.w s.heap.objs.size (fun j => decide (j ∈ ns)) c), I.laid (t' := tk) hk (Nat.le_refl _) (setO_new hS), rfl, q _ c (I.hok.fresh (Nat.le_refl _)) hcl⟩
end CK
set_option maxHeartbeats 0
namespace CK
open PySem PySem.Spec PyProof.Rows L2
section
variable {P : Program} {w : World} {K : PySem.W.Frag} {mg : Str → Option Value} {base : Heap}
theorem lay_ints : ∀ ns : List Nat, PyData.canLayAll0 (ns.map fun n => PyData.int (n : Nat)) = true
  | [] => rfl
  | n :: ns => by
    have := lay_ints ns
    simp [PyData.canLayAll0, PyData.canLay0, this]
theorem dep_ints : ∀ ns : List Nat, PyData.depthAll (ns.map fun n => PyData.int (n : Nat)) = 0
  | [] => by simp [PyData.depthAll]
  | n :: ns => by
    have := dep_ints ns
    simp [PyData.depthAll, PyData.depth, this]
theorem shaped_ints (ns : List Nat) : SeqAt.shaped (.list (ns.map fun n => PyData.int (n : Nat))) = true := by
  unfold SeqAt.shaped
  rw [show (PyData.list (ns.map fun n => PyData.int (n : Nat))).canLay0 = true by rw [PyData.canLay0]; exact lay_ints ns, Bool.true_and]
  refine decide_eq_true ?_
  simp [PyData.depth, dep_ints]
theorem dp_ints {H : Hp} {p : Addr} {ns : List Nat} (h : SqL K H p (iV ns)) : Dp K H (.ref p) (.list (ns.map fun n => PyData.int (n : Nat))) := by
  refine .lst h ?_
  clear h
  induction ns with
  | nil => exact .nil
  | cons n ns ih => exact .cons (.int _) ih
theorem eqv_nil (ns : List Nat) : PyData.eqv (.list (ns.map fun n => PyData.int (n : Nat))) (.list []) = decide (ns = []) := by
  cases ns with
  | nil => simp [PyData.eqv, PyData.eqvAll]
  | cons n ns => simp [PyData.eqv, PyData.eqvAll]
theorem kept_app {its : List Itm} {p : Nat × Deed} : kept (its ++ [some p]) = kept its ++ [p] := by
  unfold kept
  rw [List.filterMap_append]
  rfl
theorem kept_struck {its : List Itm} {p : Nat × Deed} : kept ((its ++ [some p]).set its.length none) = kept its := by
  rw [List.set_append_right _ _ (Nat.le_refl _), Nat.sub_self]
  unfold kept
  rw [List.filterMap_append]
  simp
/-- the deeds of some days -/
def inDs (ds : List Nat) (l : List (Nat × Deed)) : List (Nat × Deed) := l.filter fun p => decide (p.1 ∈ ds)
def ofD (d : Nat) (l : List (Nat × Deed)) : List (Nat × Deed) := l.filter fun p => p.1 == d
theorem inDs_split {d : Nat} {ds ds' : List Nat} (hp : (d :: ds').Perm ds) (hn : ds.Nodup) (l : List (Nat × Deed)) : (inDs ds l).length = (ofD d l).length + (inDs ds' l).length := by
  have hn' := (hp.nodup_iff.mpr hn)
  have hd : d ∉ ds' := (List.nodup_cons.mp hn').1
  induction l with
  | nil => rfl
  | cons p l ih =>
    unfold inDs ofD at ih ⊢
    have e1 : ∀ (es : List Nat), (List.filter (fun p : Nat × Deed => decide (p.1 ∈ es)) (p :: l)).length = (if p.1 ∈ es then 1 else 0) + (List.filter (fun p : Nat × Deed => decide (p.1 ∈ es)) l).length := fun es => by
      by_cases h : p.1 ∈ es
      · rw [List.filter_cons_of_pos (p := fun p : Nat × Deed => decide (p.1 ∈ es)) (decide_eq_true h), if_pos h, List.length_cons]
        omega
      · rw [List.filter_cons_of_neg (p := fun p : Nat × Deed => decide (p.1 ∈ es)) (by simpa using h), if_neg h]
        omega
    have e2 : (List.filter (fun p : Nat × Deed => p.1 == d) (p :: l)).length = (if p.1 = d then 1 else 0) + (List.filter (fun p : Nat × Deed => p.1 == d) l).length := by
      by_cases h : p.1 = d
      · rw [List.filter_cons_of_pos (p := fun p : Nat × Deed => p.1 == d) (by simp [h]), if_pos h, List.length_cons]
        omega
      · rw [List.filter_cons_of_neg (p := fun p : Nat × Deed => p.1 == d) (by simpa using h), if_neg h]
        omega
    rw [e1, e1, e2]
    by_cases h1 : p.1 = d
    · rw [if_pos (hp.mem_iff.mp (by rw [h1]; exact List.mem_cons_self)), if_pos h1, if_neg (by rw [h1]; exact hd)]
      omega
    · rw [if_neg h1]
      by_cases h2 : p.1 ∈ ds'
      · rw [if_pos (hp.mem_iff.mp (List.mem_cons_of_mem _ h2)), if_pos h2]
        omega
      · rw [if_neg (fun z => by
          rcases List.mem_cons.mp (hp.mem_iff.mpr z) with z | z
          · exact h1 z
          · exact h2 z), if_neg h2]
        omega
theorem inDs_all {ds : List Nat} {l : List (Nat × Deed)} (h : ∀ p ∈ l, p.1 ∈ ds) : inDs ds l = l := by
  unfold inDs
  exact List.filter_eq_self.mpr fun p hp => decide_eq_true (h p hp)
theorem ofD_take {d : Nat} {l : List (Nat × Deed)} {i : Nat} {p : Nat × Deed} (h : l[i]? = some p) : ofD d (l.take (i + 1)) = ofD d (l.take i) ++ (if p.1 = d then [p] else []) := by
  unfold ofD
  rw [List.take_add_one, h, List.filter_append]
  congr 1
  by_cases e : p.1 = d
  · simp [e]
  · simp [e]
theorem ofD_len {d : Nat} {l : List (Nat × Deed)} (i : Nat) : (ofD d (l.take i)).length ≤ (ofD d l).length := ((List.take_sublist i l).filter _).length_le
theorem ofD_ofD {d e : Nat} {l : List (Nat × Deed)} : ofD e (ofD d l) = if e = d then ofD d l else [] := by
  unfold ofD
  rw [List.filter_filter]
  by_cases h : e = d
  · subst h
    rw [if_pos rfl]
    congr 1
    funext p
    simp
  · rw [if_neg h, List.filter_eq_nil_iff]
    intro p _ z
    simp at z
    exact h (z.1.symm.trans z.2)
theorem ofD_app {d : Nat} {l m : List (Nat × Deed)} : ofD d (l ++ m) = ofD d l ++ ofD d m := List.filter_append ..
theorem Dk.keepE {ex : Addr → Prop} {H H' : Hp} {a : Addr} {n : Nat} (d : Dk H a n) (g : GrE K ex H H') (nx : ¬ ex a) : Dk H' a n := by
  obtain ⟨x, c, k, e, h1, h2⟩ := d.ex
  exact ⟨x, c, k, g.lst e nx, h1, h2⟩
/-- between the days -/
def AnyI (K : PySem.W.Frag) (a rl b L pd : Addr) (v2 : V) (dr : List Loss) (l : List (Nat × Deed)) (n : Nat) (H0 : Hp) (m : Nat) (σ : L2.St) (H' : Hp) : Prop := ∃ (ds : List Nat) (its : List Itm) (s k : Nat) (sp : Int) (o6 o7 : Option V),
  σ = [some (.ref a), some v2, some (.ref rl), some (.ref b), some (.int sp), some (.ref pd), o6, o7] ∧ m = ds.length ∧ sp = (s : Nat) ∧ H' pd = some (.lst (iV ds)) ∧ ds.Nodup ∧ Bk K H' b L dr its ∧ (∀ d, ofD d (kept its) = if d ∈ ds then [] else ofD d l) ∧ (kept its).length + (inDs ds l).length = l.length ∧
  its.length + s ≤ (kept its).length + 60 ∧ GrE K (fun c => c = a ∨ c = L ∨ c = pd) H0 H' ∧ Dk H' a (n + k) ∧ k + ds.length + 2 * s ≤ 200
/-- within a day's rows -/
def AnyJ (K : PySem.W.Frag) (a rl b L pd : Addr) (v2 : V) (dr : List Loss) (l : List (Nat × Deed)) (n : Nat) (H0 : Hp) (ds' : List Nat) (ks : List (Nat × Deed)) (d : Nat) (i : Nat) (σ : L2.St) (H' : Hp) : Prop := ∃ (its : List Itm) (s k : Nat) (sp : Int) (o7 : Option V),
  σ = [some (.ref a), some v2, some (.ref rl), some (.ref b), some (.int sp), some (.ref pd), some (.int (d : Nat)), o7] ∧ sp = (s : Nat) ∧ H' pd = some (.lst (iV ds')) ∧ Bk K H' b L dr its ∧ kept its = ks ++ ofD d (l.take i) ∧
  its.length + s ≤ (kept its).length + 60 ∧ GrE K (fun c => c = a ∨ c = L ∨ c = pd) H0 H' ∧ Dk H' a (n + k) ∧ k + ds'.length + 2 * s ≤ 200
/-- _law_any_order -/
def spAny (K : PySem.W.Frag) : Sp := sp3 fun x y z H Q _ => ∃ (a rl : Addr) (n : Nat) (dr : List Loss) (l : List (Nat × Deed)) (xs : List V), x = .ref a ∧ Dk H a n ∧ n + 400 < cap ∧ Rep K H (dD dr) y ∧ z = .ref rl ∧ H rl = some (.lst xs) ∧ rl ≠ a ∧ RepL K H (l.map pE) xs ∧ okB dr l ∧ l.length ≤ 60 ∧
  ∀ b L its H', Bk K H' b L dr its → days its = l → GD K a H H' → Dk H' a (n + 300) → Nw H L → L ≠ a → Q (.ref b) H'
theorem sc__law_any_order : FnScope ["_law_deck_here", "_law_shares", "_law_rows", "_law_found", "_law_spare", "_law_days", "_law_day_here", "_law_row_here"] ["_law_deck_here", "_law_shares", "_law_rows"] (defScope (top 151)) := ⟨rfl, rfl, rfl, by decide +kernel, rfl, by decide +kernel, by decide +kernel⟩
theorem ok__law_any_order (T : Tp w K mg base) : Cl P w K mg base CX0 10 "_law_any_order" (spAny K) := by
  obtain ⟨fB, FB, _, _, itsB, kbB⟩ := ok_Book_u_init_u (P := P) T
  obtain ⟨fd, F⟩ := F__law_any_order T
  refine ⟨fd, ["_law_deck_here", "_law_shares", "_law_rows"], F.ok sc__law_any_order (len3 rfl) (fun cdv A outer s H vs Q E hr h => ?_), G__law_any_order T, F.kp, F.bindsN fun _ _ _ _ _ _ us hl => match us, hl with | [_, _, _], _ => rfl⟩
  refine ⟨_, PSs.nox (pss_cons (ps_set (i := 3) sc__law_any_order.nd rfl (Or.inl rfl) (pe_makeK0 (M_Book T) FB (hr.mono (by decide)) (by rfl) (G_Book T) kbB pass0 (pk_cons (pv 1) pk_nil)))
  (pss_cons (ps_set (i := 4) sc__law_any_order.nd rfl (Or.inl rfl) (pe_op op_sub pe_int (pe_callB call_len_seq (by rfl) (B_len T) (by decide +kernel) (pa_cons (pv 2) pa_nil))))
  (pss_cons (ps_set (i := 5) sc__law_any_order.nd rfl (Or.inl rfl) (pe_callB (cr_sortedSet rfl) (by rfl) (B_sorted T) (by decide +kernel) (pa_cons (pe_callTy (cr_setI rfl) (by rfl) (B_set T) (by decide +kernel) (pa_cons (pe_lc (own := [("_law_row_here", 7)]) rfl sc__law_any_order.nd (pi_list (pv 2)) (blkOk_by (own := [("_law_row_here", 7)]) (N := ["_law_deck_here", "_law_shares", "_law_rows", "_law_found", "_law_spare", "_law_days", "_law_day_here", "_law_row_here"]) (sc := defScope (top 151)) (by decide +kernel)) (fun _ _ _ _ _ => (pg_name (i := 7) sc__law_any_order.nd rfl (Or.inl rfl))) (fun _ _ _ _ _ => pts_nil) (fun _ _ _ _ _ => (pe_ix (show IxR _ (rIxT K) from ix_tup) (pv 7) pe_int (fun _ _ => rfl)))) pa_nil)) pa_nil)))
  (pss_cons (ps_while PassesOwn.never (pt_cmpR (op_neD (by have := hr.units; exact this)) (pv 5) (pe_lst pa_nil) (nomark _)) (pss_cons (ps_set (i := 6) sc__law_any_order.nd rfl (Or.inl rfl) (pe_bm PySem.F.plainAttrs_list PySem.F.slot_list_pop PySem.F.type_list_pop mt_popAt (pv 5) (pa_cons (pe_f (ok__law_draw T) hr (pa_cons (pv 0) (pa_cons (pe_callB call_len_seq (by rfl) (B_len T) (by decide +kernel) (pa_cons (pv 5) pa_nil)) pa_nil))) pa_nil)))
  (pss_one (ps_for PassesOwn.never rfl (pi_list (pv 2)) (pg_name (i := 7) sc__law_any_order.nd rfl (Or.inl rfl))
    (pss_cons (ps_if (PW.pt (pw_and (pt_cmpR op_eq (pe_ix (show IxR _ (rIxT K) from ix_tup) (pv 7) pe_int (fun _ _ => rfl)) (pv 6) (nomark _)) (pw_and1 (pt_cmpR op_gt (pv 4) pe_int (nomark _))))) (pss_cons (ps_expr (C8.pe_mt (met_strike T) hr (by decide) (pv 3) (pa_cons (C8.pe_mt (met_tell T) hr (by decide) (pv 3) (pa_cons (pe_f (ok__law_day T) hr (pa_cons (pv 0) pa_nil)) (pa_cons (pe_ix (show IxR _ (rIxT K) from ix_tup) (pv 7) pe_int (fun _ _ => rfl)) pa_nil))) pa_nil)))
  (pss_one (ps_set (i := 4) sc__law_any_order.nd rfl (Or.inl rfl) (pe_op op_sub (pv 4) pe_int)))) pss_nil)
  (pss_one (ps_if (pt_cmpR op_eq (pe_ix (show IxR _ (rIxT K) from ix_tup) (pv 7) pe_int (fun _ _ => rfl)) (pv 6) (nomark _)) (pss_one (ps_expr (C8.pe_mt (met_tell T) hr (by decide) (pv 3) (pa_cons (pv 6) (pa_cons (pe_ix (show IxR _ (rIxT K) from ix_tup) (pv 7) pe_int (fun _ _ => rfl)) pa_nil))))) pss_nil)))))))
  (pss_one (ps_ret (pv 3))))))), ?_⟩
  obtain ⟨v, v2, v3, rfl, a, rl, n, dr, l, xs, rfl, hd, hn, hdr, rfl, hrl, hrla, hxs, hb, hl, q⟩ := h
  have hxl : xs.length = l.length := by rw [hxs.len, List.length_map]
  refine ⟨_, rfl, rfl, rfl, fun b dx hb0 hdx hne => ?_⟩
  refine mk_bk hb0 hdx hne hdr fun H1 L g1 hL hLb B => ?_
  have nwL : Nw H L := .of hL
  have hLa : L ≠ a := hd.new hL
  have r1 := g1.lst hrl
  have d1 : Dk H1 a n := hd.gr g1
  refine ⟨_, rfl, rl, _, rfl, .inl (SqL.of r1), _, _, rfl, rfl, ?_⟩
  have hcl : (l.map (·.1)).length ≤ 60 := by rw [List.length_map]; exact hl
  refine ⟨_, rfl, rl, rfl, ⟨_, SqL.of r1⟩, fun D hD => lc_V (K := K) (walk_list (K := K) (a := rl) (xs := xs)) (iV (l.map (·.1))) (by rw [List.length_map, List.length_map, hxl]) hD (by rw [hxl]; exact small (by omega)) (fun H g => g.sqL (SqL.of r1)) ?_ fun H2 g2 e2 => ?_⟩
  · rintro i x H2 _ Q' y hy gr ⟨rfl, hx⟩ k
    have hi : i < l.length := by
      have := (List.getElem?_eq_some_iff.mp hx).1
      omega
    have hp := List.getElem?_eq_getElem (l := l) hi
    obtain ⟨x', f1, hrep⟩ := hxs.at (i := i) (d := pE l[i]) (by rw [List.getElem?_map, hp]; rfl)
    rw [hx] at f1
    cases f1
    obtain ⟨u, y', z, rfl, hu, hy1, _⟩ := rep2 hrep
    obtain rfl : y' = .int (l[i].1 : Nat) := hy1
    rw [List.getElem?_map, List.getElem?_map, hp] at hy
    cases hy
    exact ⟨rfl, _, rfl, u, _, 0, _, rfl, rfl, (g1.trans gr).sqT hu, at_0, k _ (.refl _)⟩
  have e2' : H2 D = some (.lst (((l.map (·.1)).map fun d => ((d : Nat) : Int)).map V.int)) := by rw [e2, List.map_map]; rfl
  refine ⟨D, _, rfl, SqL.of e2', by rw [List.length_map]; omega, fun sx c hsx hc => ⟨sx, _, c, rfl, upd_same, by rw [List.length_map] at hc; omega, fun ns pd hpw hmem hlen hpd => ?_⟩⟩
  have hpd : upd H2 sx (SetO w sx (fun j => decide (j ∈ (l.map (·.1)).map fun d => ((d : Nat) : Int))) c) pd = none := hpd
  obtain ⟨ds, hds, hdn, hdm⟩ : ∃ ds : List Nat, ns.map V.int = iV ds ∧ ds.Nodup ∧ ∀ d, d ∈ ds ↔ d ∈ l.map (·.1) := by
    have hm2 : ∀ k : Int, k ∈ ns ↔ ∃ d, d ∈ l.map (·.1) ∧ ((d : Nat) : Int) = k := fun k => by
      rw [hmem k, decide_eq_true_iff]
      exact List.mem_map
    refine ⟨ns.map Int.toNat, ?_, ?_, fun d => ?_⟩
    · show ns.map V.int = (ns.map Int.toNat).map (fun n : Nat => V.int (n : Nat))
      rw [List.map_map]
      refine List.map_congr_left fun k hk => ?_
      obtain ⟨d, _, e⟩ := (hm2 k).mp hk
      show V.int k = V.int ((k.toNat : Nat) : Int)
      rw [← e]
      rfl
    · refine List.pairwise_map.mpr (List.Pairwise.imp_of_mem (fun {x y} hx hy hlt e => ?_) hpw)
      obtain ⟨d, _, e1⟩ := (hm2 x).mp hx
      obtain ⟨d', _, e3⟩ := (hm2 y).mp hy
      omega
    · rw [List.mem_map]
      constructor
      · rintro ⟨k, hk, rfl⟩
        obtain ⟨d, h1, e⟩ := (hm2 k).mp hk
        rw [← e]
        exact h1
      · intro h1
        exact ⟨(d : Nat), (hm2 _).mpr ⟨d, h1, rfl⟩, rfl⟩
  have hdl : ds.length ≤ 60 := by
    have e4 := congrArg List.length hds
    rw [List.length_map, List.length_map] at e4
    rw [List.length_map] at hc
    omega
  rw [hds]
  obtain ⟨H0, hH0⟩ : ∃ H0, H0 = upd (upd H2 sx (SetO w sx (fun j => decide (j ∈ (l.map (·.1)).map fun d => ((d : Nat) : Int))) c)) pd (.lst (iV ds)) := ⟨_, rfl⟩
  have g12 : Gr K H1 H0 := by rw [hH0]; exact (g2.add hsx).add hpd
  have pd0 : H0 pd = some (.lst (iV ds)) := by rw [hH0]; exact upd_same
  have d0 := d1.gr g12
  have B0 := B.gr g12
  obtain ⟨dx0, vd0, xs0, hb00, hL00, _, _⟩ := id B0.ex
  have l0 := g12.lst r1
  have hpa : pd ≠ a := Dk.new (((d1.gr g2).add hsx)) hpd
  have hpL : pd ≠ L := fun z => by
    have := ((B.gr g2).gr (Gr.new (K := K) (o := SetO w sx (fun j => decide (j ∈ (l.map (·.1)).map fun d => ((d : Nat) : Int))) c) hsx)).ex
    obtain ⟨_, _, _, _, h2, _⟩ := this
    rw [z, h2] at hpd
    cases hpd
  have hprl : pd ≠ rl := fun z => by
    have := (g2.add (o := SetO w sx (fun j => decide (j ∈ (l.map (·.1)).map fun d => ((d : Nat) : Int))) c) hsx).lst r1
    rw [z, this] at hpd
    cases hpd
  have hrL : rl ≠ L := fun z => by rw [z] at hrl; rw [hL] at hrl; cases hrl
  have nwpd : Nw H pd := (Nw.of hpd).back (g1.trans (g2.add hsx))
  have lists : ∀ c, (c = a ∨ c = L ∨ c = pd) → ∃ t, H0 c = some (.lst t) := fun c hc => by
    rcases hc with rfl | rfl | rfl
    · obtain ⟨_, _, _, e, _⟩ := d0.ex
      exact ⟨_, e⟩
    · exact ⟨_, hL00⟩
    · exact ⟨_, pd0⟩
  have keepR : ∀ {H' : Hp}, GrE K (fun c => c = a ∨ c = L ∨ c = pd) H0 H' → H' rl = some (.lst xs) ∧ RepL K H' (l.map pE) xs := fun {H'} g => by
    refine ⟨g.lst l0 fun z => ?_, hxs.std' ((g1.trans g12).std.trans (g.std lists))⟩
    rcases z with z | z | z
    · exact hrla z
    · exact hrL z
    · exact hprl z.symm
  have BkG : ∀ {H' H'' : Hp} {its : List Itm}, Bk K H' b L dr its → Dk H' a 0 ∨ (∃ m, Dk H' a m) → GD K a H' H'' → Bk K H'' b L dr its := fun {H' H'' its} B hd g => B.grE g fun c hc => by
    rw [hc]
    rcases hd with hd | ⟨m, hd⟩ <;> (obtain ⟨_, _, _, e, _⟩ := hd.ex; exact ⟨⟨_, e⟩, Ne.symm hLa⟩)
  refine ⟨AnyI K a rl b L pd v2 dr l n H0, ⟨ds.length, ds, [], 60 - l.length, 0, _, _, _, rfl, rfl, by rw [hxl]; omega, by rw [hH0] at pd0; exact pd0, hdn, by rw [hH0] at B0; exact B0, fun d => ?_, ?_, ?_, by rw [hH0]; exact .refl _, by rw [hH0] at d0; exact d0, by omega⟩, ?_⟩
  · by_cases h : d ∈ ds
    · rw [if_pos h]; rfl
    · rw [if_neg h]
      unfold ofD
      refine (List.filter_eq_nil_iff.mpr fun p hp z => h ?_).symm
      rw [hdm]
      have z : p.1 = d := by simpa using z
      rw [← z]
      exact List.mem_map_of_mem hp
  · rw [inDs_all fun p hp => (hdm p.1).mpr (List.mem_map_of_mem hp)]
    show 0 + l.length = l.length
    omega
  · show 0 + (60 - l.length) ≤ 0 + 60
    omega
  rintro m σ H3 ⟨ds, its, s, k, sp, o6, o7, rfl, rfl, rfl, hpd3, hdn, B3, hof, hsum, hits, g3, d3, hbud⟩
  refine ⟨_, rfl, (show 0 ≤ sizeLine by decide), fun pn hpn => ⟨_, _, dp_ints (SqL.of ((Gr.new (K := K) hpn).lst hpd3)), .lst (SqL.of upd_same) .nil, shaped_ints ds, shaped_ints [], _, rfl, ?_⟩⟩
  rw [eqv_nil]
  have B4 := B3.gr (Gr.new (K := K) (o := .lst []) hpn)
  have d4 := d3.add (o := .lst []) hpn
  have p4 := (Gr.new (K := K) (o := .lst []) hpn).lst hpd3
  have g4 := g3.addN (o := .lst []) hpn
  by_cases hds0 : ds = []
  · rw [decide_eq_true hds0]
    refine iteF ?_
    subst hds0
    have hdays : days its = l := days_of hb.2.2 fun d => by
      have := hof d
      rw [if_neg (by simp)] at this
      exact this
    refine ⟨_, rfl, q b L its _ B4 hdays ?_ (d4.mono (by omega)) nwL hLa⟩
    exact (((GrE.of (g1.trans g12)).trans g4).dropN fun c hc => by
      rcases hc with hc | hc | hc
      · exact .inl hc
      · rw [hc]; exact .inr nwL
      · rw [hc]; exact .inr nwpd)
  · rw [decide_eq_false hds0]
    have hpos := List.length_pos_iff.mpr hds0
    refine iteT ⟨fun σ' H'' => ∃ m', m' < ds.length ∧ AnyI K a rl b L pd v2 dr l n H0 m' σ' H'', fun σ' H'' ⟨m', h1, h2⟩ => ⟨m', h1, h2⟩, ?_⟩
    refine ⟨_, rfl, .inl ⟨rfl, _, SqL.of p4⟩, _, rfl, _, rfl, pd, _, rfl, .inl (SqL.of p4), _, _, rfl, a, _, ds.length, rfl, d4, by omega, by rw [List.length_map], hpos, by omega, fun i5 H5 hi5 g5 d5 => ?_⟩
    have ex := List.getElem?_eq_getElem (l := ds) hi5
    have p5 := g5.lst p4 hpa
    refine ⟨pd, _, _, i5, .int (ds[i5] : Nat), rfl, rfl, p5, by omega, by omega, (ixN_seq (ixN_nat (by rw [List.length_map]; exact hi5))).1, by rw [List.getElem?_map, ex]; rfl, ?_⟩
    rw [erase_map]
    have hpm := erase_perm ex
    have hn' := hpm.nodup_iff.mpr hdn
    have hel : (ds.eraseIdx i5).length + 1 = ds.length := by
      have := hpm.length_eq
      rw [List.length_cons] at this
      exact this
    have B5 := BkG B4 (.inr ⟨_, d4⟩) g5
    have g6 : GrE K (fun c => c = a ∨ c = L ∨ c = pd) H0 (upd H5 pd (.lst (iV (ds.eraseIdx i5)))) := (g4.trans (g5.mono fun _ z => Or.inl z)).trans (.put (.inr (.inr rfl)) p5)
    have B6 : Bk K (upd H5 pd (.lst (iV (ds.eraseIdx i5)))) b L dr its := B5.grE (GrE.put (K := K) (ex := fun c => c = pd) rfl p5) fun c hc => by rw [hc]; exact ⟨⟨_, p5⟩, hpL⟩
    have hsplit := inDs_split hpm hdn l
    obtain ⟨l6, _⟩ := keepR g6
    refine ⟨_, rfl, rl, rfl, ⟨_, SqL.of l6⟩, for_it (walk_list (K := K) (a := rl) (xs := xs)) (fun i σ H' => AnyJ K a rl b L pd v2 dr l n H0 (ds.eraseIdx i5) (kept its) ds[i5] i σ H') ⟨its, s, k + 1, _, _, rfl, rfl, upd_same, B6, (by show kept its = kept its ++ ofD ds[i5] []; unfold ofD; simp), hits, g6, (d5.put hpa).mono (by omega), by omega⟩ (fun i σ H' _ h => ?_) ?_ ?_⟩
    · obtain ⟨_, _, _, _, _, _, _, _, _, _, _, g, _⟩ := h
      exact SqL.of (keepR g).1
    · rintro i x σ _ H7 hi ⟨its7, s7, k7, sp7, o7', rfl, rfl, p7, B7, hk7, hits7, g7, d7, hbud7⟩ ⟨e5, hx⟩
      subst e5
      obtain ⟨l7, r7⟩ := keepR g7
      have hil : i < l.length := by omega
      have hp := List.getElem?_eq_getElem (l := l) hil
      obtain ⟨x', f1, hrep⟩ := r7.at (i := i) (d := pE l[i]) (by rw [List.getElem?_map, hp]; rfl)
      rw [hx] at f1
      cases f1
      obtain ⟨u, y', z, rfl, hu, hy1, hz⟩ := rep2 hrep
      obtain rfl : y' = .int (l[i].1 : Nat) := hy1
      have okp := hb.2.1 _ (List.mem_of_getElem? hp)
      have hkl : (kept its7).length ≤ 60 := by
        rw [hk7, List.length_append]
        have := ofD_len (d := ds[i5]) (l := l) i
        omega
      have hof2 := ofD_take (d := ds[i5]) hp
      have rowAt : ∀ {H' : Hp}, GrE K (fun c => c = a ∨ c = L ∨ c = pd) H0 H' → ∃ z, SqT K H' u [.int (l[i].1 : Nat), z] ∧ Rep K H' l[i].2.d z := fun {H'} g => by
        obtain ⟨_, r⟩ := keepR g
        obtain ⟨x', f1, hrep⟩ := r.at (i := i) (d := pE l[i]) (by rw [List.getElem?_map, hp]; rfl)
        rw [hx] at f1
        cases f1
        obtain ⟨u', y', z, e, hu, hy1, hz⟩ := rep2 hrep
        cases e
        obtain rfl : y' = .int (l[i].1 : Nat) := hy1
        exact ⟨z, hu, hz⟩
      refine ⟨_, rfl, u, _, 0, _, rfl, rfl, hu, at_0, _, rfl, rfl, _, rfl, ?_⟩
      by_cases hd : l[i].1 = ds[i5]
      · have eqT : decide (V.int (l[i].1 : Nat) = V.int (ds[i5] : Nat)) = true := decide_eq_true (by rw [hd])
        rw [eqT]
        refine iteT ⟨_, rfl, _, _, rfl, rfl, _, rfl, ?_⟩
        by_cases hs7 : 0 < s7
        · rw [show decide (((s7 : Nat) : Int) > 0) = true from decide_eq_true (by omega)]
          refine iteT ?_
          obtain ⟨dx7, vd7, xs7, h71, _⟩ := id B7.ex
          refine ⟨_, rfl, b, dx7, _, rfl, h71, rfl, _, rfl, b, dx7, _, rfl, h71, rfl, _, rfl, _, rfl, a, _, rfl, d7, by omega, fun d8 H8 hd8 g8 dk8 => ?_⟩
          have B8 := BkG B7 (.inr ⟨_, d7⟩) g8
          have g8T := g7.trans (g8.mono fun _ z => Or.inl z)
          obtain ⟨z8, hu8, hz8⟩ := rowAt g8T
          refine ⟨_, rfl, u, _, 1, _, rfl, rfl, hu8, at_1, _, _, _, rfl, b, L, dr, its7, d8, l[i].2, rfl, B8, rfl, hd8, hz8, okp.2, by omega, fun H9 g9 B9 => ?_⟩
          refine ⟨_, _, rfl, b, L, dr, _, its7.length, (d8, l[i].2), rfl, B9, rfl, by rw [List.length_append]; show its7.length < its7.length + 1; omega, ?_, fun H10 g10 B10 => ?_⟩
          · rw [List.getD_eq_getElem?_getD, List.getElem?_append_right (Nat.le_refl _), Nat.sub_self]
            rfl
          have g10T := (g8T.trans (g9.mono fun _ z => Or.inr (Or.inl z))).trans (g10.mono fun _ z => Or.inr (Or.inl z))
          have d10 := (dk8.keepE g9 (fun z => hLa z.symm)).keepE g10 (fun z => hLa z.symm)
          have pd10 := g10.lst (g9.lst (g8.lst p7 hpa) hpL) hpL
          refine ⟨_, rfl, _, _, rfl, rfl, ?_⟩
          obtain ⟨zz, hu9, hz9⟩ := rowAt g10T
          obtain ⟨dx9, vd9, xs9, h91, _⟩ := id (B10).ex
          refine ⟨_, rfl, u, _, 0, _, rfl, rfl, hu9, at_0, _, rfl, rfl, _, rfl, ?_⟩
          rw [eqT]
          refine iteT ⟨_, rfl, b, dx9, _, rfl, h91, rfl, _, rfl, _, rfl, u, _, 1, _, rfl, rfl, hu9, at_1, _, _, _, rfl, b, L, dr, _, ds[i5], l[i].2, rfl, B10, rfl, by rw [← hd]; exact okp.1, hz9, okp.2, by rw [List.length_set, List.length_append]; show its7.length + 1 < 1000; omega, fun H12 g12 B12 => ⟨_, s7 - 1, k7 + 2, _, _, rfl, (by omega), g12.lst pd10 hpL, B12, ?_, ?_, g10T.trans (g12.mono fun _ z => Or.inr (Or.inl z)), (d10).keepE g12 (fun z => hLa z.symm), by omega⟩⟩
          · rw [kept_app, kept_struck, hk7, hof2, if_pos hd, List.append_assoc, ← hd]
          · rw [kept_app, kept_struck, List.length_append, List.length_append]
            rw [List.length_set, List.length_append]
            show its7.length + 1 + 1 + (s7 - 1) ≤ (kept its7).length + 1 + 60
            omega
        · rw [show decide (((s7 : Nat) : Int) > 0) = false from decide_eq_false (by omega)]
          refine iteF ?_
          obtain ⟨zz, hu9, hz9⟩ := rowAt g7
          obtain ⟨dx9, vd9, xs9, h91, _⟩ := id (B7).ex
          refine ⟨_, rfl, u, _, 0, _, rfl, rfl, hu9, at_0, _, rfl, rfl, _, rfl, ?_⟩
          rw [eqT]
          refine iteT ⟨_, rfl, b, dx9, _, rfl, h91, rfl, _, rfl, _, rfl, u, _, 1, _, rfl, rfl, hu9, at_1, _, _, _, rfl, b, L, dr, _, ds[i5], l[i].2, rfl, B7, rfl, by rw [← hd]; exact okp.1, hz9, okp.2, by omega, fun H12 g12 B12 => ⟨_, s7, k7, _, _, rfl, rfl, g12.lst p7 hpL, B12, ?_, ?_, g7.trans (g12.mono fun _ z => Or.inr (Or.inl z)), (d7).keepE g12 (fun z => hLa z.symm), by omega⟩⟩
          · rw [kept_app, hk7, hof2, if_pos hd, List.append_assoc, ← hd]
          · rw [kept_app, List.length_append, List.length_append]
            show its7.length + 1 + s7 ≤ (kept its7).length + 1 + 60
            omega
      · have eqF : decide (V.int (l[i].1 : Nat) = V.int (ds[i5] : Nat)) = false := decide_eq_false fun z => hd (by injection z; omega)
        rw [eqF]
        refine iteF ⟨_, rfl, u, _, 0, _, rfl, rfl, hu, at_0, _, rfl, rfl, _, rfl, ?_⟩
        rw [eqF]
        exact iteF ⟨its7, s7, k7, _, _, rfl, rfl, p7, B7, by rw [hk7, hof2, if_neg hd, List.append_nil], hits7, g7, d7, hbud7⟩
    · rintro σ H7 ⟨its7, s7, k7, sp7, o7', rfl, rfl, p7, B7, hk7, hits7, g7, d7, hbud7⟩
      rw [hxl, List.take_length] at hk7
      refine ⟨(ds.eraseIdx i5).length, by omega, ds.eraseIdx i5, its7, s7, k7, _, _, _, rfl, rfl, rfl, p7, (List.nodup_cons.mp hn').2, B7, fun d => ?_, ?_, hits7, g7, d7, hbud7⟩
      · rw [hk7, ofD_app, hof d, ofD_ofD]
        by_cases e : d = ds[i5]
        · rw [if_pos e, if_pos (hpm.mem_iff.mp (by rw [e]; exact List.mem_cons_self)), if_neg (by rw [e]; exact (List.nodup_cons.mp hn').1), e]
          rfl
        · rw [if_neg e, List.append_nil]
          have : d ∈ ds ↔ d ∈ ds.eraseIdx i5 := by
            rw [← hpm.mem_iff, List.mem_cons]
            exact ⟨fun z => z.resolve_left e, .inr⟩
          by_cases h : d ∈ ds
          · rw [if_pos h, if_pos (this.mp h)]
          · rw [if_neg h, if_neg fun z => h (this.mpr z)]
      · rw [hk7, List.length_append]
        omega

end
end CK
set_option maxHeartbeats 4000000
namespace CK
open PySem PySem.Spec PyProof.Rows L2
/-! ### rows spoilt -/
/-- all signs from the blank on -/
def loW (x : Str) : Prop := ∀ c ∈ cl x, 32 ≤ c ∧ c ≤ 122
theorem hiW.lo {x : Str} (h : hiW x) : loW x := fun c hc => by
  have := h c hc
  omega
theorem lo_nl {x : Str} (h : loW x) : 10 ∉ cl x := fun z => by
  have := h 10 z
  omega
theorem joinL_mem {s : List Nat} : ∀ {ps : List (List Nat)} {c : Nat}, c ∈ TL.joinL s ps → c ∈ s ∨ ∃ p ∈ ps, c ∈ p
  | [], c, h => by simp [TL.joinL] at h
  | [p], c, h => by
    simp [TL.joinL] at h
    exact .inr ⟨p, List.mem_cons_self, h⟩
  | p :: q :: ps, c, h => by
    have e : TL.joinL s (p :: q :: ps) = p ++ (s ++ TL.joinL s (q :: ps)) := by simp [TL.joinL]
    rw [e, List.mem_append, List.mem_append] at h
    rcases h with h | h | h
    · exact .inr ⟨p, List.mem_cons_self, h⟩
    · exact .inl h
    · rcases joinL_mem h with h | ⟨r, hr, h⟩
      · exact .inl h
      · exact .inr ⟨r, List.mem_cons_of_mem _ hr, h⟩
theorem lo_jn {ws : List Str} (h : ∀ w ∈ ws, hiW w) : loW (jn 32 ws) := by
  intro c hc
  rw [cl_jn] at hc
  rcases joinL_mem hc with hc | ⟨p, hp, hc⟩
  · simp at hc
    omega
  · obtain ⟨w, hw, rfl⟩ := List.mem_map.mp hp
    exact (h w hw).lo c hc
theorem lo_app {x y : Str} (hx : loW x) (hy : loW y) : loW (x ++ y) := fun c hc => by
  rw [cl_app] at hc
  rcases List.mem_append.mp hc with h | h
  · exact hx c h
  · exact hy c h
theorem cl_bl : cl (.ofString " ") = [32] := by decide +kernel
theorem lo_bl : loW (.ofString " ") := by show ∀ c ∈ cl (.ofString _), 32 ≤ c ∧ c ≤ 122; decide +kernel
theorem lo_A : loW (.ofString " A") := by show ∀ c ∈ cl (.ofString _), 32 ≤ c ∧ c ≤ 122; decide +kernel
theorem jn_snoc {ws : List Str} (hne : ws ≠ []) (x : Str) : jn 32 ws ++ (.ofString " " ++ x) = jn 32 (ws ++ [x]) := by
  rw [← S_cl (jn 32 ws ++ _), ← S_cl (jn 32 (ws ++ [x])), cl_app, cl_jn, cl_jn, cl_app, cl_bl]
  congr 1
  cases ws with
  | nil => exact absurd rfl hne
  | cons w ws =>
    simp only [List.map_cons, List.cons_append, List.map_append, List.map_nil]
    rw [joinL_cons, joinL_cons, List.flatMap_append]
    simp
theorem jn_front {ws : List Str} (hne : ws ≠ []) : .ofString " " ++ jn 32 ws = jn 32 (Str.empty :: ws) := by
  rw [← S_cl (.ofString " " ++ jn 32 ws), ← S_cl (jn 32 (Str.empty :: ws)), cl_app, cl_jn, cl_jn, cl_bl]
  congr 1
  cases ws with
  | nil => exact absurd rfl hne
  | cons w ws =>
    simp only [List.map_cons]
    rw [joinL_cons, joinL_cons]
    have e : cl Str.empty = [] := rfl
    rw [e]
    simp
theorem bl_A : Str.ofString " A" = .ofString " " ++ .ofString "A" := by decide +kernel
theorem app_empty (x : Str) : x ++ Str.empty = x := by
  rw [← S_cl (x ++ Str.empty), cl_app, show cl Str.empty = [] from rfl, List.append_nil, S_cl]
/-- as upper has a word of these signs -/
def upS (x : Str) : Str := SX.S ((cl x).map PyProof.Rows.up1)
theorem lo_upper {x : Str} (h : loW x) : Txt.upper x = upS x := by
  have := SX.upper_S (a := cl x) (List.all_eq_true.mpr fun c hc => decide_eq_true (by have := h c hc; omega))
  rw [S_cl] at this
  exact this
theorem up1_lo {c : Nat} (h : 32 ≤ c ∧ c ≤ 122) : 32 ≤ PyProof.Rows.up1 c ∧ PyProof.Rows.up1 c ≤ 122 := by
  unfold PyProof.Rows.up1
  split <;> omega
theorem up1_hi {c : Nat} (h : 45 ≤ c ∧ c ≤ 122) : 45 ≤ PyProof.Rows.up1 c ∧ PyProof.Rows.up1 c ≤ 122 := by
  unfold PyProof.Rows.up1
  split <;> omega
theorem cl_upS (x : Str) : cl (upS x) = (cl x).map PyProof.Rows.up1 := rfl
theorem upS_lo {x : Str} (h : loW x) : loW (upS x) := fun c hc => by
  rw [cl_upS] at hc
  obtain ⟨d, hd, rfl⟩ := List.mem_map.mp hc
  exact up1_lo (h d hd)
theorem upS_hi {x : Str} (h : hiW x) : hiW (upS x) := fun c hc => by
  rw [cl_upS] at hc
  obtain ⟨d, hd, rfl⟩ := List.mem_map.mp hc
  exact up1_hi (h d hd)
theorem upS_len (x : Str) : (upS x).length = x.length := by
  rw [← cl_len, cl_upS, List.length_map, cl_len]
theorem joinL_up : ∀ ps : List (List Nat), (TL.joinL [32] ps).map PyProof.Rows.up1 = TL.joinL [32] (ps.map (List.map PyProof.Rows.up1))
  | [] => by simp [TL.joinL]
  | p :: ps => by
    rw [List.map_cons, joinL_cons, joinL_cons, List.map_append, List.map_flatMap, List.flatMap_map]
    rfl
theorem upS_jn (ws : List Str) : upS (jn 32 ws) = jn 32 (ws.map upS) := by
  rw [← S_cl (jn 32 (ws.map upS)), cl_jn]
  unfold upS
  rw [cl_jn, joinL_up, List.map_map, List.map_map]
  rfl
theorem sp_words {ws : List Str} (hne : ws ≠ []) (h : ∀ w ∈ ws, hiW w) : Txt.split (jn 32 ws) (.ofString " ") = ws := by
  rw [bl_eq]
  exact split_jn (by decide) hne fun w hw => hi_free (h w hw) (by decide)
theorem hi_empty : hiW Str.empty := fun c hc => by cases hc
theorem hi_A : hiW (.ofString "A") := by show ∀ c ∈ cl (.ofString _), 45 ≤ c ∧ c ≤ 122; decide +kernel
theorem sp_blank {ws : List Str} (hne : ws ≠ []) (h : ∀ w ∈ ws, hiW w) : Txt.split (jn 32 ws ++ .ofString " ") (.ofString " ") = ws ++ [Str.empty] := by
  rw [show Str.ofString " " = .ofString " " ++ Str.empty from (app_empty _).symm, jn_snoc hne, app_empty]
  exact sp_words (by simp) fun w hw => by
    rcases List.mem_append.mp hw with hw | hw
    · exact h w hw
    · rw [List.mem_singleton.mp hw]; exact hi_empty
theorem sp_A {ws : List Str} (hne : ws ≠ []) (h : ∀ w ∈ ws, hiW w) : Txt.split (jn 32 ws ++ .ofString " A") (.ofString " ") = ws ++ [.ofString "A"] := by
  rw [bl_A, jn_snoc hne]
  exact sp_words (by simp) fun w hw => by
    rcases List.mem_append.mp hw with hw | hw
    · exact h w hw
    · rw [List.mem_singleton.mp hw]; exact hi_A
theorem sp_front {ws : List Str} (hne : ws ≠ []) (h : ∀ w ∈ ws, hiW w) : Txt.split (.ofString " " ++ jn 32 ws) (.ofString " ") = Str.empty :: ws := by
  rw [jn_front hne]
  exact sp_words (by simp) fun w hw => by
    rcases List.mem_cons.mp hw with rfl | hw
    · exact hi_empty
    · exact h w hw
theorem sp_upper {ws : List Str} (hne : ws ≠ []) (h : ∀ w ∈ ws, hiW w) : Txt.split (Txt.upper (jn 32 ws)) (.ofString " ") = ws.map upS := by
  rw [lo_upper (lo_jn h), upS_jn]
  exact sp_words (by simpa using hne) fun w hw => by
    obtain ⟨x, hx, rfl⟩ := List.mem_map.mp hw
    exact upS_hi (h x hx)
/-- the six ways a row is spoilt -/
def odds (z : Str) : List Str := [Str.empty, z ++ .ofString " ", .ofString " " ++ z, Txt.upper z, z ++ .ofString " A", .ofString "1201 draw a"]
theorem odds_lo {z : Str} (h : loW z) : ∀ o ∈ odds z, loW o := by
  intro o ho
  simp only [odds, List.mem_cons, List.not_mem_nil, or_false] at ho
  rcases ho with rfl | rfl | rfl | rfl | rfl | rfl
  · exact hi_empty.lo
  · exact lo_app h lo_bl
  · exact lo_app lo_bl h
  · rw [lo_upper h]; exact upS_lo h
  · exact lo_app h lo_A
  · show ∀ c ∈ cl (.ofString _), 32 ≤ c ∧ c ≤ 122; decide +kernel
theorem odds_len {z : Str} (h : loW z) {n : Nat} (hz : z.length ≤ n) (hn : 9 ≤ n) : ∀ o ∈ odds z, o.length ≤ n + 2 := by
  have e1 : (Str.ofString " ").length = 1 := by decide +kernel
  have e2 : (Str.ofString " A").length = 2 := by decide +kernel
  have e3 : (Str.ofString "1201 draw a").length = 11 := by decide +kernel
  have e4 : Str.empty.length = 0 := rfl
  intro o ho
  simp only [odds, List.mem_cons, List.not_mem_nil, or_false] at ho
  rcases ho with rfl | rfl | rfl | rfl | rfl | rfl
  · omega
  · rw [app_len]; omega
  · rw [app_len]; omega
  · rw [lo_upper h, upS_len]; omega
  · rw [app_len]; omega
  · omega
theorem nS_no_key (d : Nat) : nS d ∉ keyREADERS := fun z => by
  have h : ∀ k ∈ keyREADERS, ∃ c ∈ cl k, 97 ≤ c := by decide +kernel
  obtain ⟨c, hc, h1⟩ := h _ z
  rw [cl_nS] at hc
  have := TL.numL_digits d c hc
  omega
theorem up_no_key (e : Deed) : upS e.word ∉ keyREADERS := by
  cases e with
  | parts k => cases k <;> (show upS (.ofString _) ∉ keyREADERS; decide +kernel)
  | _ => show upS (.ofString _) ∉ keyREADERS; decide +kernel
theorem len_flat2 {α : Type} (f g : α → Str) (ps : List α) : (ps.flatMap fun p => [f p, g p]).length = 2 * ps.length := by
  induction ps with
  | nil => rfl
  | cons p ps ih =>
    rw [List.flatMap_cons, List.length_append, ih]
    show 2 + 2 * ps.length = 2 * (ps.length + 1)
    omega
/-- one word more, and that no name -/
theorem bad_more {d : Nat} {e : Deed} (hd : d < 10 ^ 12) (h : e.Good) {x : Str} (h1 : isNm x = false) (h2 : isMk x = false) (h3 : x.length ≤ 1) : BadRow (nS d :: e.word :: (e.body ++ [x])) := by
  have hne : e.body ++ [x] ≠ [] := by simp
  have oddN : ∀ {ns : List Str}, ns.length ≤ 100 → (∀ n ∈ ns, isNm n = true) → Deed.Odd isNm (ns ++ [x]) := fun {ns} hl hn => ⟨by rw [List.length_append]; show ns.length + 1 ≤ 1000; omega, fun n hm => by
    rcases List.mem_append.mp hm with hm | hm
    · exact small (by have := (isNm_len (hn n hm)).2; omega)
    · rw [List.mem_singleton.mp hm]; exact small (by omega), x, by simp, h1⟩
  cases e with
  | parts k m ps =>
    refine .inr (.inr (.inl ⟨d, _, _, rfl, hd, hne, .inl ⟨.inl ?_, ?_⟩⟩))
    · cases k <;> rfl
    · show ((m :: ps.flatMap fun p => [p.1, wS p.2.1 p.2.2]) ++ [x]).length % 2 = 0
      rw [List.length_append, List.length_cons, len_flat2]
      show (2 * ps.length + 1 + 1) % 2 = 0
      omega
  | part n ps =>
    refine .inr (.inr (.inl ⟨d, _, _, rfl, hd, hne, .inl ⟨.inr rfl, ?_⟩⟩))
    show ((n :: ps.flatMap fun p => [p.1, nS p.2]) ++ [x]).length % 2 = 0
    rw [List.length_append, List.length_cons, len_flat2]
    show (2 * ps.length + 1 + 1) % 2 = 0
    omega
  | burn m u t b => exact .inr (.inr (.inl ⟨d, _, _, rfl, hd, hne, .inr (.inl ⟨.inl rfl, by show ¬ 4 = 3; decide⟩)⟩))
  | make n u g => exact .inr (.inr (.inl ⟨d, _, _, rfl, hd, hne, .inr (.inl ⟨.inr rfl, by show ¬ 4 = 3; decide⟩)⟩))
  | send m o => exact .inr (.inr (.inl ⟨d, _, _, rfl, hd, hne, .inr (.inr ⟨rfl, by show ¬ 3 = 2; decide⟩)⟩))
  | merge ns f => exact .inr (.inr (.inr ⟨d, .merge (ns ++ [x]) f, rfl, hd, by simp [Deed.body], trivial, .inr (oddN h.1.2.1 h.1.2.2.1)⟩))
  | pay ns g o => exact .inr (.inr (.inr ⟨d, .pay (ns ++ [x]) g o, rfl, hd, by simp [Deed.body], ⟨by simp, h.2.1.2, h.2.2⟩, .inr (oddN h.1.2.1 h.1.2.2.1)⟩))
  | fire ms =>
    refine .inr (.inr (.inr ⟨d, .fire (ms ++ [x]), rfl, hd, by simp [Deed.body], trivial, .inr ⟨?_, fun n hm => ?_, x, by simp, h2⟩⟩))
    · rw [List.length_append]
      have : ms.length ≤ 100 := h.2.1
      show ms.length + 1 ≤ 1000
      omega
    · rcases List.mem_append.mp hm with hm | hm
      · exact small (by have := (isMk_len (h.2.2.1 n hm)).2; omega)
      · rw [List.mem_singleton.mp hm]; exact small (by omega)
  | lose ws => exact .inr (.inr (.inr ⟨d, .lose (ws ++ [x]), rfl, hd, by simp [Deed.body], trivial, .inr ⟨by rw [List.length_append, h.1, List.length_singleton]; decide, by rw [List.length_append, h.1, List.length_singleton]; decide⟩⟩))
  | draw ws => exact .inr (.inr (.inr ⟨d, .draw (ws ++ [x]), rfl, hd, by simp [Deed.body], trivial, .inr ⟨by rw [List.length_append, h.1, List.length_singleton]; decide, by rw [List.length_append, h.1, List.length_singleton]; decide⟩⟩))
theorem split_empty : Txt.split Str.empty (.ofString " ") = [Str.empty] := by
  have := sp_words (ws := [Str.empty]) (by simp) (by intro w hw; rw [List.mem_singleton.mp hw]; exact hi_empty)
  exact this
theorem late_jn : Str.ofString "1201 draw a" = rowT 1201 (.draw [.ofString "a"]) := by decide +kernel
theorem good_a : (Deed.draw [.ofString "a"]).Good := ⟨rfl, fun x hx => by rw [List.mem_singleton.mp hx]; decide +kernel⟩
theorem split_late : Txt.split (.ofString "1201 draw a") (.ofString " ") = [nS 1201, .ofString "draw", .ofString "a"] := by
  rw [late_jn]
  exact split_row good_a
theorem rowW_hi {d : Nat} {e : Deed} (h : e.Good) : ∀ w ∈ nS d :: e.word :: e.body, hiW w := fun w hw => by
  rcases List.mem_cons.mp hw with rfl | hw
  · exact hi_nS d
  · rcases List.mem_cons.mp hw with rfl | hw
    · exact hi_word e
    · exact hi_body h w hw
theorem row_odd {d : Nat} {e : Deed} (hd : d ≤ 1200) (h : e.Good) : ∀ o ∈ odds (rowT d e), BadZ o := by
  have hw := rowW_hi (d := d) h
  have hl := odds_len (lo_jn hw) (show (jn 32 (nS d :: e.word :: e.body)).length ≤ 5304 from rowT_len hd h) (by decide)
  have hb := (body_len h).1
  have hd' : d < 10 ^ 12 := Nat.lt_of_le_of_lt hd (by decide)
  intro o ho
  refine ⟨Nat.le_trans (Nat.add_le_add_right (hl o ho) 2) (by decide), ?_⟩
  simp only [odds, List.mem_cons, List.not_mem_nil, or_false] at ho
  rcases ho with rfl | rfl | rfl | rfl | rfl | rfl
  · rw [split_empty]
    exact ⟨by decide, .inl (by decide)⟩
  · rw [show rowT d e = jn 32 (nS d :: e.word :: e.body) from rfl, sp_blank (by simp) hw]
    refine ⟨?_, bad_more hd' h (by decide +kernel) (by decide +kernel) (by decide)⟩
    rw [List.length_append, List.length_cons, List.length_cons]
    show e.body.length + 1 + 1 + 1 ≤ 1000
    omega
  · rw [show rowT d e = jn 32 (nS d :: e.word :: e.body) from rfl, sp_front (by simp) hw]
    refine ⟨?_, .inr (.inl ⟨_, _, _, rfl, nS_no_key d⟩)⟩
    rw [List.length_cons, List.length_cons, List.length_cons]
    omega
  · rw [show rowT d e = jn 32 (nS d :: e.word :: e.body) from rfl, sp_upper (by simp) hw]
    refine ⟨?_, .inr (.inl ⟨_, _, _, rfl, up_no_key e⟩)⟩
    rw [List.length_map, List.length_cons, List.length_cons]
    omega
  · rw [show rowT d e = jn 32 (nS d :: e.word :: e.body) from rfl, sp_A (by simp) hw]
    refine ⟨?_, bad_more hd' h (by decide +kernel) (by decide +kernel) (by decide)⟩
    rw [List.length_append, List.length_cons, List.length_cons]
    show e.body.length + 1 + 1 + 1 ≤ 1000
    omega
  · rw [split_late]
    exact ⟨by show 3 ≤ 1000; decide, .inr (.inr (.inr ⟨1201, .draw [.ofString "a"], rfl, by decide, by simp [Deed.body], trivial, .inl ⟨by decide, .inl good_a⟩⟩))⟩
theorem headW_hi {dr : List Loss} (h : okLs dr) : ∀ w ∈ .ofString "drying" :: flatS (hdP dr), hiW w := fun w hw => by
  rcases List.mem_cons.mp hw with rfl | hw
  · show ∀ c ∈ cl (.ofString _), 45 ≤ c ∧ c ≤ 122; decide +kernel
  · obtain ⟨q, hq, hw⟩ := List.mem_flatMap.mp hw
    obtain ⟨p, hp, rfl⟩ := List.mem_map.mp hq
    simp only [List.mem_cons, List.not_mem_nil, or_false] at hw
    rcases hw with rfl | rfl
    · exact hi_nm (h.2.1 p hp).1
    · intro c hc
      unfold shT at hc
      rw [cl_app, cl_app, cl_slash] at hc
      simp only [List.mem_append, List.mem_cons, List.not_mem_nil, or_false] at hc
      rcases hc with (hc | rfl) | hc
      · exact hi_nS _ c hc
      · decide
      · exact hi_nS _ c hc
theorem head_odd {dr : List Loss} (h : okLs dr) : ∀ o ∈ odds (headT dr), BadH o := by
  have hw := headW_hi h
  have hl := odds_len (by rw [headT_flat]; exact lo_jn hw) (headT_len h) (by decide)
  have hn : (flatS (hdP dr)).length = 2 * dr.length := by
    rw [flatS_len]
    unfold hdP
    rw [List.length_map]
  have hd := h.1
  intro o ho
  refine ⟨Nat.le_trans (Nat.add_le_add_right (hl o ho) 2) (by decide), ?_⟩
  simp only [odds, List.mem_cons, List.not_mem_nil, or_false] at ho
  rcases ho with rfl | rfl | rfl | rfl | rfl | rfl
  · rw [split_empty]
    exact ⟨by simp, by decide, .inl (by decide +kernel)⟩
  · rw [headT_flat, sp_blank (by simp) hw]
    refine ⟨by simp, ?_, .inr ?_⟩
    · rw [List.length_append, List.length_cons, hn]
      show 2 * dr.length + 1 + 1 ≤ 1000
      omega
    · rw [List.length_append, List.length_cons, hn]
      show (2 * dr.length + 1 + 1) % 2 = 0
      omega
  · rw [headT_flat, sp_front (by simp) hw]
    refine ⟨by simp, ?_, .inl ?_⟩
    · rw [List.length_cons, List.length_cons, hn]
      omega
    · rw [List.head?_cons]
      decide +kernel
  · rw [headT_flat, sp_upper (by simp) hw]
    refine ⟨by simp, ?_, .inl ?_⟩
    · rw [List.length_map, List.length_cons, hn]
      omega
    · rw [List.map_cons, List.head?_cons]
      decide +kernel
  · rw [headT_flat, sp_A (by simp) hw]
    refine ⟨by simp, ?_, .inr ?_⟩
    · rw [List.length_append, List.length_cons, hn]
      show 2 * dr.length + 1 + 1 ≤ 1000
      omega
    · rw [List.length_append, List.length_cons, hn]
      show (2 * dr.length + 1 + 1) % 2 = 0
      omega
  · rw [split_late]
    exact ⟨by simp, by show 3 ≤ 1000; decide, .inl (by rw [List.head?_cons]; decide +kernel)⟩
/-- the lines of a book -/
def linesT (dr : List Loss) (l : List (Nat × Deed)) : List Str := headT dr :: rowsT l
theorem linesT_len (dr : List Loss) (l : List (Nat × Deed)) : (linesT dr l).length = l.length + 1 := by
  unfold linesT rowsT
  rw [List.length_cons, List.length_map]
theorem linesT_lo {dr : List Loss} {l : List (Nat × Deed)} (h : okB dr l) : ∀ w ∈ linesT dr l, loW w := fun w hw => by
  rcases List.mem_cons.mp hw with rfl | hw
  · rw [headT_flat]; exact lo_jn (headW_hi h.1)
  · obtain ⟨p, hp, rfl⟩ := List.mem_map.mp hw
    exact lo_jn (rowW_hi (h.2.1 p hp).2)
theorem linesT_le {dr : List Loss} {l : List (Nat × Deed)} (h : okB dr l) : ∀ w ∈ linesT dr l, w.length ≤ 5304 := fun w hw => by
  rcases List.mem_cons.mp hw with rfl | hw
  · have := headT_len h.1; omega
  · obtain ⟨p, hp, rfl⟩ := List.mem_map.mp hw
    exact rowT_len (h.2.1 p hp).1 (h.2.1 p hp).2
theorem okB_take {dr : List Loss} {l : List (Nat × Deed)} (h : okB dr l) (n : Nat) : okB dr (l.take n) := ⟨h.1, fun p hp => h.2.1 p (List.mem_of_mem_take hp), h.2.2.sublist (List.take_sublist n l)⟩
/-- a book's lines, one of them spoilt -/
theorem spoilt_at {dr : List Loss} {l : List (Nat × Deed)} (h : okB dr l) {k : Nat} {z : Str} (hz : (linesT dr l)[k]? = some z) {o : Str} (ho : o ∈ odds z) (r : List Str) : BadAt ((linesT dr l).take k ++ o :: r) k := by
  cases k with
  | zero =>
    cases (show some (headT dr) = some z from hz)
    exact .inl ⟨rfl, o, r, rfl, head_odd h.1 o ho⟩
  | succ i =>
    have hz : (rowsT l)[i]? = some z := hz
    unfold rowsT at hz
    rw [List.getElem?_map] at hz
    cases hp : l[i]? with
    | none => rw [hp] at hz; cases hz
    | some p =>
      rw [hp] at hz
      cases (show some (rowT p.1 p.2) = some z from hz)
      have ok := h.2.1 p (List.mem_of_getElem? hp)
      have hi := (List.getElem?_eq_some_iff.mp hp).1
      refine .inr ⟨dr, l.take i, o, r, ?_, okB_take h i, row_odd ok.1 ok.2 o ho, by rw [List.length_take]; omega⟩
      unfold linesT rowsT
      rw [List.take_succ_cons, List.map_take]
      rfl
theorem split_lines {ls : List Str} (hne : ls ≠ []) (h : ∀ w ∈ ls, loW w) : Txt.split (jn 10 ls) (.ofString "\n") = ls := by
  rw [nl_eq]
  exact split_jn (by decide) hne fun w hw => lo_nl (h w hw)
/-- lines joined are a text that splits so -/
theorem told_ok {S : List Str} (hne : S ≠ []) (hlo : ∀ w ∈ S, loW w) (hle : ∀ w ∈ S, w.length ≤ 5306) (hl : S.length ≤ 500) :
    (S.map (·.length)).sum + S.length * (Str.ofString "\n").length ≤ 16777216 ∧ (Txt.join (.ofString "\n") S).length + 2 ≤ sizeLine ∧ Txt.split (Txt.join (.ofString "\n") S) (.ofString "\n") = S := by
  have h1 := jn_len 10 S
  have h2 := sum_le hle
  have h3 : 5306 * S.length ≤ 5306 * 500 := Nat.mul_le_mul_left _ hl
  have e : Txt.join (.ofString "\n") S = jn 10 S := by rw [nl_eq]
  rw [e, nl_len]
  refine ⟨by omega, Nat.le_trans (show _ ≤ 5306 * 500 + 500 + 2 by omega) (by decide), split_lines hne hlo⟩
/-- one line odd -/
def oddL (ls : List Str) (k : Nat) (o : Str) : List Str := ls.take k ++ o :: ls.drop (k + 1)
/-- and one put in behind -/
def oddX (ls : List Str) (k m : Nat) (o : Str) : List Str := (oddL ls k o).take (k + 1 + m) ++ .ofString "x" :: (oddL ls k o).drop (k + 1 + m)
theorem oddL_mem {ls : List Str} {k : Nat} {o w : Str} (h : w ∈ oddL ls k o) : w ∈ ls ∨ w = o := by
  rcases List.mem_append.mp h with h | h
  · exact .inl (List.mem_of_mem_take h)
  · rcases List.mem_cons.mp h with h | h
    · exact .inr h
    · exact .inl (List.mem_of_mem_drop h)
theorem oddX_mem {ls : List Str} {k m : Nat} {o w : Str} (h : w ∈ oddX ls k m o) : w ∈ oddL ls k o ∨ w = .ofString "x" := by
  rcases List.mem_append.mp h with h | h
  · exact .inl (List.mem_of_mem_take h)
  · rcases List.mem_cons.mp h with h | h
    · exact .inr h
    · exact .inl (List.mem_of_mem_drop h)
theorem oddL_len {ls : List Str} {k : Nat} {o : Str} (h : k < ls.length) : (oddL ls k o).length = ls.length := by
  unfold oddL
  rw [List.length_append, List.length_cons, List.length_take, List.length_drop]
  omega
theorem oddX_len {ls : List Str} {k m : Nat} {o : Str} (h : k < ls.length) : (oddX ls k m o).length = ls.length + 1 := by
  unfold oddX
  rw [List.length_append, List.length_cons, List.length_take, List.length_drop, oddL_len h]
  omega
theorem oddX_eq {ls : List Str} {k m : Nat} {o : Str} (h : k < ls.length) : ∃ r, oddX ls k m o = ls.take k ++ o :: r := by
  have e : (ls.take k).length = k := by rw [List.length_take]; omega
  refine ⟨(ls.drop (k + 1)).take m ++ .ofString "x" :: (oddL ls k o).drop (k + 1 + m), ?_⟩
  unfold oddX
  have e2 : (oddL ls k o).take (k + 1 + m) = ls.take k ++ o :: (ls.drop (k + 1)).take m := by
    unfold oddL
    rw [List.take_append, e, List.take_of_length_le (by rw [e]; omega)]
    congr 1
    rw [show k + 1 + m - k = m + 1 by omega, List.take_succ_cons]
  rw [e2, List.append_assoc, List.cons_append]
theorem lo_x : loW (.ofString "x") := by show ∀ c ∈ cl (.ofString _), 32 ≤ c ∧ c ≤ 122; decide +kernel
theorem x_len : (Str.ofString "x").length ≤ 5306 := by decide +kernel
end CK
set_option maxHeartbeats 0
namespace CK
open PySem PySem.Spec PyProof.Rows L2
section
variable {P : Program} {w : World} {K : PySem.W.Frag} {mg : Str → Option Value} {base : Heap}
theorem ne_self (v : V) : V.bl (!decide (v = v)) = V.bl false := by rw [decide_eq_true rfl]; rfl
/-- _law_spoilt_right -/
def spSpoilt (K : PySem.W.Frag) : Sp := sp2 fun x y H Q _ => ∃ (a : Addr) (n : Nat) (dr : List Loss) (l : List (Nat × Deed)), x = .ref a ∧ Dk H a n ∧ n + 100 < cap ∧ y = .str (bookT dr l) ∧ okB dr l ∧ l.length ≤ 400 ∧ LamX.Tabs (TT K) H ∧
  ∀ H', GD K a H H' → Dk H' a (n + 2) → Q (.bl true) H'
theorem sc__law_spoilt_right : FnScope ["_law_deck_here", "_law_written", "_law_rows", "_law_at", "_law_later", "_law_odd", "_law_some_here"] ["_law_deck_here", "_law_written"] (defScope (top 152)) := ⟨rfl, rfl, rfl, by decide +kernel, rfl, by decide +kernel, by decide +kernel⟩
theorem ok__law_spoilt_right (T : Tp w K mg base) : Cl P w K mg base CX0 11 "_law_spoilt_right" (spSpoilt K) := by
  obtain ⟨fd, F⟩ := F__law_spoilt_right T
  refine ⟨fd, ["_law_deck_here", "_law_written"], F.ok sc__law_spoilt_right (len2 rfl) (fun cdv A outer s H vs Q E hr h => ?_), G__law_spoilt_right T, F.kp, F.bindsN fun _ _ _ _ _ _ us hl => match us, hl with | [_, _], _ => rfl⟩
  refine ⟨_, PSs.nox (pss_cons (ps_set (i := 2) sc__law_spoilt_right.nd rfl (Or.inl rfl) (pe_split (pv 1) pe_str))
  (pss_cons (ps_set (i := 3) sc__law_spoilt_right.nd rfl (Or.inl rfl) (pe_f (ok__law_draw T) hr (pa_cons (pv 0) (pa_cons (pe_callB call_len_seq (by rfl) (B_len T) (by decide +kernel) (pa_cons (pv 2) pa_nil)) pa_nil))))
  (pss_cons (ps_set (i := 4) sc__law_spoilt_right.nd rfl (Or.inl rfl) (pe_op op_add (pe_op op_add (pv 3) pe_int) (pe_f (ok__law_draw T) hr (pa_cons (pv 0) (pa_cons (pe_op op_sub (pe_callB call_len_seq (by rfl) (B_len T) (by decide +kernel) (pa_cons (pv 2) pa_nil)) (pv 3)) pa_nil)))))
  (pss_cons (ps_for PassesOwn.never rfl (pi_list (pe_lst (pa_cons pe_str (pa_cons (pe_op op_add_str (pe_ix (show IxR _ (rIxL K) from ix_list) (pv 2) (pv 3) (fun _ _ => rfl)) pe_str) (pa_cons (pe_op op_add_str pe_str (pe_ix (show IxR _ (rIxL K) from ix_list) (pv 2) (pv 3) (fun _ _ => rfl))) (pa_cons (pe_upper (pe_ix (show IxR _ (rIxL K) from ix_list) (pv 2) (pv 3) (fun _ _ => rfl))) (pa_cons (pe_op op_add_str (pe_ix (show IxR _ (rIxL K) from ix_list) (pv 2) (pv 3) (fun _ _ => rfl)) pe_str) (pa_cons pe_str pa_nil)))))))) (pg_name (i := 5) sc__law_spoilt_right.nd rfl (Or.inl rfl))
    (pss_cons (ps_set (i := 6) sc__law_spoilt_right.nd rfl (Or.inl rfl) (pe_op op_cat (pe_op op_cat (pe_slice sl_list (pv 2) po_none (po_some (pv 3))) (pe_lst (pa_cons (pv 5) pa_nil))) (pe_slice sl_list (pv 2) (po_some (pe_op op_add (pv 3) pe_int)) po_none)))
  (pss_one (ps_if (PW.pt (pw_or (pt_cmpR op_ne (pe_f (ok__law_told T) hr (pa_cons (pe_join pe_str (pv 6)) pa_nil)) (pv 3) (nomark _)) (pw_or1 (pt_cmpR op_ne (pe_f (ok__law_told T) hr (pa_cons (pe_join pe_str (pe_op op_cat (pe_op op_cat (pe_slice sl_list (pv 6) po_none (po_some (pv 4))) (pe_lst (pa_cons pe_str pa_nil))) (pe_slice sl_list (pv 6) (po_some (pv 4)) po_none))) pa_nil)) (pv 3) (nomark _))))) (pss_one (ps_ret pe_bl)) pss_nil))))
  (pss_one (ps_ret pe_bl)))))), ?_⟩
  obtain ⟨v, y, rfl, a, n, dr, l, rfl, hd, hn, rfl, hb, hl, hT, q⟩ := h
  have hcap : n + 100 < 1000000 := hn
  have hLl := linesT_len dr l
  have hbl : (bookT dr l).length + 2 ≤ sizeLine := by
    have h1 := jn_len 10 (linesT dr l)
    have h2 := sum_le (linesT_le hb)
    rw [hLl] at h1 h2
    have h3 : 5304 * (l.length + 1) ≤ 5304 * 401 := Nat.mul_le_mul_left _ (by omega)
    exact Nat.le_trans (show (jn 10 (linesT dr l)).length + 2 ≤ 5304 * 401 + 401 + 2 by omega) (by decide)
  have hsp : Txt.split (bookT dr l) (.ofString "\n") = linesT dr l := split_lines (by simp [linesT]) (linesT_lo hb)
  refine ⟨_, rfl, ⟨_, rfl⟩, _, _, rfl, rfl, by rw [nl_len]; rfl, hbl, fun p hp => ?_⟩
  rw [hsp]
  have hlo := linesT_lo hb
  have hle := linesT_le hb
  obtain ⟨ls, hls⟩ : ∃ ls, ls = linesT dr l := ⟨_, rfl⟩
  rw [← hls] at hLl hlo hle ⊢
  have d1 : Dk (upd H p (.lst (ls.map V.str))) a n := hd.add hp
  have g1 : Gr K H (upd H p (.lst (ls.map V.str))) := .new hp
  have hpa : p ≠ a := hd.new hp
  have r1 : (upd H p (.lst (ls.map V.str))) p = some (.lst (ls.map V.str)) := upd_same
  refine ⟨_, rfl, _, rfl, p, _, rfl, .inl (SqL.of r1), _, _, rfl, a, n, ls.length, rfl, d1, by omega, by rw [List.length_map], by omega, by omega, fun k H2 hk g2 d2 => ?_⟩
  have r2 := g2.lst r1 hpa
  refine ⟨_, rfl, _, _, rfl, rfl, _, rfl, _, rfl, p, _, rfl, .inl (SqL.of r2), _, rfl, _, _, rfl, rfl, _, _, rfl, a, n + 1, ls.length - k, rfl, d2, by omega, congrArg V.int (by rw [List.length_map]; omega), by omega, by omega, fun m H3 hm g3 d3 => ⟨_, _, rfl, rfl, ?_⟩⟩
  have r3 := g3.lst r2 hpa
  have hz := List.getElem?_eq_getElem hk
  obtain ⟨z, hz'⟩ : ∃ z, z = ls[k] := ⟨_, rfl⟩
  rw [← hz'] at hz
  have hzm : z ∈ ls := List.mem_of_getElem? hz
  have hzv : (ls.map V.str)[k]? = some (.str z) := by rw [List.getElem?_map, hz]; rfl
  have ix : ∀ {H' : Hp}, SqL K H' p (ls.map V.str) → ∀ {Q : VK}, Q (.str z) H' → rIxL K (.ref p) (.int (k : Nat)) H' Q := fun {H'} s {Q} q => ⟨p, _, _, _, rfl, rfl, s, atI_nat hzv, q⟩
  have hlow : loW z := hlo z hzm
  have hzl : z.length ≤ 5304 := hle z hzm
  have slen : z.length + 11 ≤ sizeLine := Nat.le_trans (Nat.add_le_add_right hzl 11) (by decide)
  have e1 : (Str.ofString " ").length = 1 := by decide +kernel
  have e2 : (Str.ofString " A").length = 2 := by decide +kernel
  refine ⟨_, rfl, _, rfl, ix (SqL.of r3) ⟨_, _, rfl, rfl, by omega, _, rfl, _, rfl, ix (SqL.of r3) ⟨_, _, rfl, rfl, by omega, _, rfl, _, rfl, ix (SqL.of r3) ⟨⟨_, rfl⟩, _, rfl, rfl, Nat.le_trans hzl (by decide), _, rfl, _, rfl, ix (SqL.of r3) ⟨_, _, rfl, rfl, by omega, (show 6 ≤ sizeLine by decide), fun po hpo => ?_⟩⟩⟩⟩⟩
  obtain ⟨lt, hlt⟩ : ∃ lt : Int, lt = ((k : Nat) : Int) + 1 + (m : Nat) := ⟨_, rfl⟩
  have e0 : Str.ofString "" = Str.empty := by decide +kernel
  rw [e0]
  have ro : (upd H3 po (.lst ((odds z).map V.str))) po = some (.lst ((odds z).map V.str)) := upd_same
  have g03 : GD K a H H3 := ((GrE.of g1).trans g2).trans g3
  have g4 : Gr K H3 (upd H3 po (.lst ((odds z).map V.str))) := .new hpo
  refine ⟨po, rfl, ⟨_, SqL.of ro⟩, for_it (walk_list (K := K) (a := po) (xs := (odds z).map V.str)) (fun i σ H' => Gr K (upd H3 po (.lst ((odds z).map V.str))) H' ∧ ∃ o5 o6, σ = [some (.ref a), some (.str (bookT dr l)), some (.ref p), some (.int (k : Nat)), some (.int lt), o5, o6]) ⟨.refl _, _, _, by rw [hlt]; rfl⟩ (fun i σ H' _ h => h.1.sqL (SqL.of ro)) ?_ ?_⟩
  · rintro i x σ _ H5 hi ⟨g5, o5, o6, rfl⟩ ⟨e5, hx⟩
    subst e5
    rw [List.getElem?_map] at hx
    obtain ⟨o, ho, rfl⟩ : ∃ o, (odds z)[i]? = some o ∧ x = .str o := by
      cases h : (odds z)[i]? with
      | none => rw [h] at hx; cases hx
      | some o => rw [h] at hx; cases hx; exact ⟨o, rfl, rfl⟩
    have hom := List.mem_of_getElem? ho
    have olo := odds_lo hlow o hom
    have ole := odds_len hlow hzl (by decide) o hom
    have g45 := g4.trans g5
    have r5 := g45.lst r3
    refine ⟨_, rfl, _, rfl, _, rfl, p, ls.map V.str, rfl, SqL.of r5, fun p1 hp1 => ⟨_, rfl, (show 1 ≤ sizeLine by decide), fun p2 hp2 => ?_⟩⟩
    rw [cut_to (n := k) rfl] at hp2 ⊢
    have n12 : p1 ≠ p2 := fun z => by rw [← z, upd_same] at hp2; cases hp2
    refine ⟨p1, p2, (ls.map V.str).take k, [.str o], rfl, rfl, by rw [upd_ne n12]; exact upd_same, upd_same, Nat.le_trans (show _ ≤ 401 + 1 by rw [List.length_take, List.length_map]; show min k ls.length + 1 ≤ 402; omega) (by decide), fun p3 hp3 => ?_⟩
    have g6 := (Gr.new (K := K) (o := .lst ((ls.map V.str).take k)) hp1).add (o := .lst [.str o]) hp2
    have g7 := g6.add (o := .lst ((ls.map V.str).take k ++ [.str o])) hp3
    have r7 := g7.lst r5
    refine ⟨_, rfl, _, rfl, _, _, rfl, rfl, _, rfl, p, ls.map V.str, rfl, SqL.of r7, fun p4 hp4 => ?_⟩
    rw [show ((k : Nat) : Int) + 1 = ((k + 1 : Nat) : Int) by omega, cut_from]
    have n34 : p3 ≠ p4 := fun z => by rw [← z, upd_same] at hp4; cases hp4
    refine ⟨p3, p4, (ls.map V.str).take k ++ [.str o], (ls.map V.str).drop (k + 1), rfl, rfl, by rw [upd_ne n34]; exact upd_same, upd_same, Nat.le_trans (show _ ≤ 402 + 401 by rw [List.length_append, List.length_take, List.length_drop, List.length_map]; show min k ls.length + 1 + (ls.length - (k + 1)) ≤ 803; omega) (by decide), fun p5 hp5 => ?_⟩
    have eS : (ls.map V.str).take k ++ [.str o] ++ (ls.map V.str).drop (k + 1) = (oddL ls k o).map V.str := by
      unfold oddL
      rw [List.map_append, List.map_cons, List.map_take, List.map_drop, List.append_assoc]
      rfl
    rw [eS]
    have oS := oddL_len (o := o) hk
    have hS : ∀ w ∈ oddL ls k o, loW w ∧ w.length ≤ 5306 := fun w hw => by
      rcases oddL_mem hw with hw | rfl
      · exact ⟨hlo w hw, by have := hle w hw; omega⟩
      · exact ⟨olo, ole⟩
    obtain ⟨t1, t2, t3⟩ := told_ok (S := oddL ls k o) (fun z => by rw [z] at oS; simp at oS; omega) (fun w hw => (hS w hw).1) (fun w hw => (hS w hw).2) (by omega)
    have oX := oddX_len (m := m) (o := o) hk
    have hX : ∀ w ∈ oddX ls k m o, loW w ∧ w.length ≤ 5306 := fun w hw => by
      rcases oddX_mem hw with hw | rfl
      · exact hS w hw
      · exact ⟨lo_x, x_len⟩
    obtain ⟨u1, u2, u3⟩ := told_ok (S := oddX ls k m o) (fun z => by rw [z] at oX; simp at oX) (fun w hw => (hX w hw).1) (fun w hw => (hX w hw).2) (by omega)
    have bS : BadAt (oddL ls k o) k := by
      rw [hls]
      exact spoilt_at hb (by rw [← hls]; exact hz) hom _
    have bX : BadAt (oddX ls k m o) k := by
      obtain ⟨r, e⟩ := oddX_eq (m := m) (o := o) hk
      rw [e, hls]
      exact spoilt_at hb (by rw [← hls]; exact hz) hom r
    have g8 := (g7.add (o := .lst ((ls.map V.str).drop (k + 1))) hp4).add (o := .lst ((oddL ls k o).map V.str)) hp5
    have gT : GD K a H _ := g03.trans (.of (g45.trans g8))
    refine ⟨⟨_, rfl⟩, _, rfl, _, p5, oddL ls k o, rfl, rfl, .inl (SqL.of upd_same), t1, _, rfl, _, _, rfl, t2, t3, by omega, gT.tabs hT, .inr ⟨k, bS, fun H9 g9 => ⟨_, rfl, rfl, false, ne_self _, iteF ?_⟩⟩⟩
    have el : lt = ((k + 1 + m : Nat) : Int) := by omega
    have r9 : H9 p5 = some (.lst ((oddL ls k o).map V.str)) := g9.lst upd_same
    refine ⟨⟨_, rfl⟩, _, rfl, _, rfl, _, rfl, p5, (oddL ls k o).map V.str, rfl, SqL.of r9, fun q1 hq1 => ⟨(show 1 ≤ sizeLine by decide), fun q2 hq2 => ?_⟩⟩
    rw [cut_to el] at hq2 ⊢
    have m12 : q1 ≠ q2 := fun z => by rw [← z, upd_same] at hq2; cases hq2
    refine ⟨q1, q2, ((oddL ls k o).map V.str).take (k + 1 + m), [.str (.ofString "x")], rfl, rfl, by rw [upd_ne m12]; exact upd_same, upd_same, Nat.le_trans (show _ ≤ 401 + 1 by rw [List.length_take, List.length_map, oS]; show min (k + 1 + m) ls.length + 1 ≤ 402; omega) (by decide), fun q3 hq3 => ?_⟩
    have g10 := ((Gr.new (K := K) (o := .lst (((oddL ls k o).map V.str).take (k + 1 + m))) hq1).add (o := .lst [.str (.ofString "x")]) hq2).add (o := .lst (((oddL ls k o).map V.str).take (k + 1 + m) ++ [.str (.ofString "x")])) hq3
    have r10 := g10.lst r9
    refine ⟨_, rfl, _, rfl, _, rfl, p5, (oddL ls k o).map V.str, rfl, SqL.of r10, fun q4 hq4 => ?_⟩
    rw [el, cut_from] at *
    have m34 : q3 ≠ q4 := fun z => by rw [← z, upd_same] at hq4; cases hq4
    refine ⟨q3, q4, ((oddL ls k o).map V.str).take (k + 1 + m) ++ [.str (.ofString "x")], ((oddL ls k o).map V.str).drop (k + 1 + m), rfl, rfl, by rw [upd_ne m34]; exact upd_same, upd_same, Nat.le_trans (show _ ≤ 402 + 401 by rw [List.length_append, List.length_take, List.length_drop, List.length_map, oS]; show min (k + 1 + m) ls.length + 1 + (ls.length - (k + 1 + m)) ≤ 803; omega) (by decide), fun q5 hq5 => ?_⟩
    have eX : ((oddL ls k o).map V.str).take (k + 1 + m) ++ [.str (.ofString "x")] ++ ((oddL ls k o).map V.str).drop (k + 1 + m) = (oddX ls k m o).map V.str := by
      unfold oddX
      rw [List.map_append, List.map_cons, List.map_take, List.map_drop, List.append_assoc]
      rfl
    rw [eX]
    have g11 := (g10.add (o := .lst (((oddL ls k o).map V.str).drop (k + 1 + m))) hq4).add (o := .lst ((oddX ls k m o).map V.str)) hq5
    refine ⟨_, q5, oddX ls k m o, rfl, rfl, .inl (SqL.of upd_same), u1, _, rfl, _, _, rfl, u2, u3, by omega, (gT.trans (.of (g9.trans g11))).tabs hT, .inr ⟨k, bX, fun H12 g12 => ⟨_, rfl, rfl, false, ne_self _, iteF ⟨(g5.trans g8).trans ((g9.trans g11).trans g12), _, _, rfl⟩⟩⟩⟩
  · rintro σ H5 ⟨g5, o5, o6, rfl⟩
    exact q H5 (g03.trans (.of (g4.trans g5))) ((d3.gr g4).gr g5)

end
end CK
set_option maxHeartbeats 4000000
namespace CK
open PySem PySem.Spec PyProof.Rows L2
/-! ### many short rows -/
theorem jn_cons {x : Str} {ws : List Str} (hne : ws ≠ []) : jn 32 (x :: ws) = x ++ .ofString " " ++ jn 32 ws := by
  rw [← S_cl (x ++ _ ++ _), ← S_cl (jn 32 (x :: ws)), cl_app, cl_app, cl_jn, cl_jn, cl_bl]
  congr 1
  cases ws with
  | nil => exact absurd rfl hne
  | cons w ws =>
    simp only [List.map_cons]
    rw [joinL_cons, joinL_cons]
    simp
def wds : List Str := [.ofString "draw a", .ofString "fire c0", .ofString "lose a b", .ofString "send c1 -"]
theorem many_deed {w : Str} (h : w ∈ wds) : w.length ≤ 10 ∧ ∃ e : Deed, e.Good ∧ ∀ d, rowT d e = nS d ++ .ofString " " ++ w := by
  have fin : ∀ {w : Str} (e : Deed), jn 32 (e.word :: e.body) = w → ∀ d, rowT d e = nS d ++ .ofString " " ++ w := fun {w} e h d => by
    rw [← h]
    exact jn_cons (by simp)
  simp only [wds, List.mem_cons, List.not_mem_nil, or_false] at h
  rcases h with rfl | rfl | rfl | rfl
  · exact ⟨by decide +kernel, .draw [.ofString "a"], good_a, fin _ (by decide +kernel)⟩
  · exact ⟨by decide +kernel, .fire [.ofString "c0"], ⟨by decide, by decide, fun x hx => by rw [List.mem_singleton.mp hx]; decide +kernel, by simp⟩, fin _ (by decide +kernel)⟩
  · exact ⟨by decide +kernel, .lose [.ofString "a", .ofString "b"], ⟨rfl, fun x hx => by
      simp only [List.mem_cons, List.not_mem_nil, or_false] at hx
      rcases hx with rfl | rfl <;> decide +kernel⟩, fin _ (by decide +kernel)⟩
  · exact ⟨by decide +kernel, .send (.ofString "c1") none, ⟨by decide +kernel, trivial⟩, fin _ (by decide +kernel)⟩
def manyL (e : Deed) (m : Nat) : List (Nat × Deed) := (List.range m).map fun i => (i / 100, e)
theorem manyL_len (e : Deed) (m : Nat) : (manyL e m).length = m := by
  unfold manyL
  rw [List.length_map, List.length_range]
theorem manyL_at {e : Deed} {m i : Nat} (h : i < m) : (manyL e m)[i]? = some (i / 100, e) := by
  unfold manyL
  rw [List.getElem?_map, List.getElem?_range h]
  rfl
theorem manyL_ok {e : Deed} {m : Nat} (h : e.Good) (hm : m ≤ 400) : okB [] (manyL e m) := by
  refine ⟨⟨by decide, (fun p hp => absurd hp (by simp)), List.Pairwise.nil⟩, fun p hp => ?_, ?_⟩
  · obtain ⟨i, hi, rfl⟩ := List.mem_map.mp hp
    have := List.mem_range.mp hi
    exact ⟨by show i / 100 ≤ 1200; omega, h⟩
  · unfold manyL
    rw [List.pairwise_map]
    exact List.pairwise_lt_range.imp fun {a b} h => by show a / 100 ≤ b / 100; omega
theorem head_nil : headT [] = .ofString "drying" := by decide +kernel
theorem many_lines {e : Deed} {w : Str} (h : ∀ d, rowT d e = nS d ++ .ofString " " ++ w) (m : Nat) : linesT [] (manyL e m) = .ofString "drying" :: (List.range m).map fun i => nS (i / 100) ++ .ofString " " ++ w := by
  unfold linesT rowsT manyL
  rw [head_nil, List.map_map]
  congr 1
  exact List.map_congr_left fun i _ => h _
theorem jn_nl {ws : List Str} (hne : ws ≠ []) : jn 10 ws ++ .ofString "\n" = jn 10 (ws ++ [Str.empty]) := by
  rw [← S_cl (jn 10 ws ++ _), ← S_cl (jn 10 (ws ++ [Str.empty])), cl_app, cl_jn, cl_jn, nl_eq]
  congr 1
  cases ws with
  | nil => exact absurd rfl hne
  | cons w ws =>
    simp only [List.map_cons, List.cons_append, List.map_append, List.map_nil]
    rw [joinL_cons, joinL_cons, List.flatMap_append]
    have e : cl Str.empty = [] := rfl
    rw [e]
    simp
theorem bad_end {dr : List Loss} {l : List (Nat × Deed)} (h : okB dr l) : BadAt (linesT dr l ++ [Str.empty]) (l.length + 1) := by
  refine .inr ⟨dr, l, Str.empty, [], rfl, h, ⟨by decide, ?_⟩, rfl⟩
  rw [split_empty]
  exact ⟨by decide, .inl (by decide)⟩
/-- read_book of a good text lets nothing out -/
def spRb0 (K : PySem.W.Frag) : Sp := sp1 fun x H Q _ => ∃ (z : Str) (dr : List Loss) (l : List (Nat × Deed)), x = .str z ∧ z.length + 2 ≤ sizeLine ∧ Txt.split z (.ofString "\n") = linesT dr l ∧ l.length ≤ 500 ∧ okB dr l ∧
  ∀ H' b L, Gr K H H' → Nw H b → Nw H L → Bk K H' b L dr (l.map some) → Q (.ref b) H'
section
variable {P : Program} {w : World} {K : PySem.W.Frag} {mg : Str → Option Value} {base : Heap}
theorem rb_never (T : Tp w K mg base) : Cl P w K mg base CX0 9 "read_book" (spRb0 K) := by
  obtain ⟨fd, ps, F, r⟩ := (ok_read_book (P := P) T).ex
  refine ⟨fd, ps, ⟨fun vs H Q E h => ?_, fun A outer s H args us vs Q E hr he hb hv hs => ?_⟩, r⟩
  · obtain ⟨x, rfl, z, dr, l, rfl, h1, h2, h3, h4, q⟩ := h
    exact F.len _ H Q E ⟨_, rfl, z, _, rfl, h1, h2, by rw [linesT_len]; omega, .inl ⟨dr, l, rfl, h4, q⟩⟩
  · obtain ⟨x, rfl, z, dr, l, rfl, h1, h2, h3, h4, q⟩ := hs
    refine codeAny_mono (F.run A outer s H args us _ Q (fun _ _ _ => False) hr he hb hv ⟨_, rfl, z, _, rfl, h1, h2, by rw [linesT_len]; omega, .inl ⟨dr, l, rfl, h4, q⟩⟩) fun z s' q => ?_
    match z, q with
    | .error e, q =>
      obtain ⟨_, _, _, _, _, _, _, _, _, _, _, _, h⟩ := q
      exact False.elim h
    | .ok (.ret u), q => exact q
end
theorem days_all {l : List (Nat × Deed)} {dr : List Loss} (h : okB dr l) : days (l.map some) = l := days_some h.2.2
theorem bookT_lines (dr : List Loss) (l : List (Nat × Deed)) : bookT dr l = jn 10 (linesT dr l) := rfl
theorem bookT_ok {dr : List Loss} {l : List (Nat × Deed)} (hb : okB dr l) (hl : l.length ≤ 400) : (bookT dr l).length + 3 ≤ sizeLine ∧ Txt.split (bookT dr l) (.ofString "\n") = linesT dr l := by
  refine ⟨?_, split_lines (by simp [linesT]) (linesT_lo hb)⟩
  have h1 := jn_len 10 (linesT dr l)
  have h2 := sum_le (linesT_le hb)
  have hLl := linesT_len dr l
  rw [hLl] at h1 h2
  have h3 : 5304 * (l.length + 1) ≤ 5304 * 401 := Nat.mul_le_mul_left _ (by omega)
  exact Nat.le_trans (show (jn 10 (linesT dr l)).length + 3 ≤ 5304 * 401 + 401 + 3 by omega) (by decide)
end CK
set_option maxHeartbeats 0
namespace CK
open PySem PySem.Spec PyProof.Rows L2
section
variable {P : Program} {w : World} {K : PySem.W.Frag} {mg : Str → Option Value} {base : Heap}
/-- _law_many_rows_right -/
def spMany (K : PySem.W.Frag) : Sp := sp1 fun x H Q _ => ∃ (a : Addr) (n : Nat), x = .ref a ∧ Dk H a n ∧ n + 100 < cap ∧ LamX.Tabs (TT K) H ∧ ∀ H', GD K a H H' → Dk H' a (n + 2) → Q (.bl true) H'
theorem sc__law_many_rows_right : FnScope ["_law_deck_here", "_law_many", "_law_word", "_law_rows", "_law_written", "_law_book", "_law_at"] ["_law_deck_here"] (defScope (top 153)) := ⟨rfl, rfl, rfl, by decide +kernel, rfl, by decide +kernel, by decide +kernel⟩
theorem ok__law_many_rows_right (T : Tp w K mg base) : Cl P w K mg base CX0 11 "_law_many_rows_right" (spMany K) := by
  obtain ⟨fd, F⟩ := F__law_many_rows_right T
  refine ⟨fd, ["_law_deck_here"], F.ok sc__law_many_rows_right (len1 rfl) (fun cdv A outer s H vs Q E hr h => ?_), G__law_many_rows_right T, F.kp, F.bindsN fun _ _ _ _ _ _ us hl => match us, hl with | [_], _ => rfl⟩
  refine ⟨_, PSs.nox (pss_cons (ps_set (i := 1) sc__law_many_rows_right.nd rfl (Or.inl rfl) (pe_op op_add pe_int (pe_f (ok__law_draw T) hr (pa_cons (pv 0) (pa_cons pe_int pa_nil)))))
  (pss_cons (ps_set (i := 2) sc__law_many_rows_right.nd rfl (Or.inr rfl) (pe_f (ok__law_pick T) hr (pa_cons (pv 0) (pa_cons (pe_lst (pa_cons pe_str (pa_cons pe_str (pa_cons pe_str (pa_cons pe_str pa_nil))))) pa_nil))))
  (pss_cons (ps_set (i := 3) sc__law_many_rows_right.nd rfl (Or.inl rfl) (pe_op op_cat (pe_lst (pa_cons pe_str pa_nil)) (pe_lc (own := [("_law_at", 6)]) rfl sc__law_many_rows_right.nd (pi_range1 (by rfl) (B_range T) (pa_cons (pv 1) pa_nil)) (blkOk_by (own := [("_law_at", 6)]) (N := ["_law_deck_here", "_law_many", "_law_word", "_law_rows", "_law_written", "_law_book", "_law_at"]) (sc := defScope (top 153)) (by decide +kernel)) (fun _ _ _ _ _ => (pg_name (i := 6) sc__law_many_rows_right.nd rfl (Or.inl rfl))) (fun _ _ _ _ _ => pts_nil) (fun _ _ _ _ _ => (pe_op op_add_str (pe_op op_add_str (pe_callTy call_str_int (by rfl) (B_str T) (by decide +kernel) (pa_cons (pe_op op_fdiv (pv 6) pe_int) pa_nil)) pe_str) (pv 2))))))
  (pss_cons (ps_set (i := 4) sc__law_many_rows_right.nd rfl (Or.inl rfl) (pe_join pe_str (pv 3)))
  (pss_cons (ps_set (i := 5) sc__law_many_rows_right.nd rfl (Or.inl rfl) (pe_f (rb_never T) hr (pa_cons (pv 4) pa_nil)))
  (pss_cons (ps_if (PW.pt (pw_or (pt_cmpR op_ne (pe_callB (cr_lenB T (hr.mono (by decide))) (by rfl) (B_len T) (by decide +kernel) (pa_cons (pv 5) pa_nil)) (pv 1) (nomark _)) (pw_or (pt_cmpR op_ne (pe_f (ok_show_book T) hr (pa_cons (pv 5) pa_nil)) (pv 4) (nomark _)) (pw_or1 (pt_cmpR op_ne (pe_ix (show IxR _ (rIxT K) from ix_tup) (C8.pe_mt (met_deed T) hr (by decide) (pv 5) (pa_cons (pe_op op_sub (pv 1) pe_int) pa_nil)) pe_int (fun _ _ => rfl)) (pe_op op_fdiv (pe_op op_sub (pv 1) pe_int) pe_int) (nomark _)))))) (pss_one (ps_ret pe_bl)) pss_nil)
  (pss_one (ps_ret (pe_and (pe_cmpR op_eq (pe_f (ok__law_told T) hr (pa_cons (pe_join pe_str (pe_op op_cat (pe_slice sl_list (pv 3) po_none (po_some (pe_un un_neg pe_int))) (pe_lst (pa_cons (pe_op op_add_str (pe_ix (show IxR _ (rIxL K) from ix_list) (pv 3) (pe_un un_neg pe_int) (fun _ _ => rfl)) pe_str) pa_nil)))) pa_nil)) (pv 1) (nomark _)) (pe_one (pe_cmpR op_eq (pe_f (ok__law_told T) hr (pa_cons (pe_op op_add_str (pv 4) pe_str) pa_nil)) (pe_op op_add (pv 1) pe_int) (nomark _)))))))))))), ?_⟩
  obtain ⟨v, rfl, a, n, rfl, hd, hn, hT, q⟩ := h
  have hcap : n + 100 < 1000000 := hn
  refine ⟨_, rfl, _, _, rfl, a, n, 340, rfl, hd, by omega, rfl, by decide, by decide, fun m0 H1 hm0 g1 d1 => ⟨_, _, rfl, rfl, ?_⟩⟩
  obtain ⟨m, hm⟩ : ∃ m, m = 61 + m0 := ⟨_, rfl⟩
  have em : (61 : Int) + (m0 : Nat) = (m : Nat) := by omega
  show gName 1 (V.int (61 + ((m0 : Nat) : Int))) _ _ _
  rw [em]
  have hm2 : 61 ≤ m ∧ m ≤ 400 := by omega
  clear em hm hm0
  refine ⟨_, rfl, (show 4 ≤ sizeLine by decide), fun p hp => ⟨_, _, rfl, a, p, n + 1, wds, rfl, d1.add hp, by omega, rfl, upd_same, d1.new hp, by simp [wds], by decide, fun w H2 hw g2 d2 => ⟨(show 1 ≤ sizeLine by decide), fun pd hpd => ?_⟩⟩⟩
  obtain ⟨hwl, e, he, hrow⟩ := many_deed hw
  have hb := manyL_ok he hm2.2
  have hll := manyL_len e m
  have hlin := many_lines hrow m
  have g02 : GD K a H H2 := (g1.addN hp).trans g2
  have ys : List Str := []
  obtain ⟨ls, hls⟩ : ∃ ls, ls = (List.range m).map fun i => nS (i / 100) ++ .ofString " " ++ w := ⟨_, rfl⟩
  rw [← hls] at hlin
  have hlen : ls.length = m := by rw [hls, List.length_map, List.length_range]
  have e1 : (Str.ofString " ").length = 1 := by decide +kernel
  refine ⟨_, rfl, m, rfl, by omega, by omega, fun D hD => lc_V (K := K) (walk_range (lo := 0) (n := m)) (ls.map V.str) (by rw [List.length_map, hlen]) hD (small (by omega)) (fun _ _ => trivial) ?_ fun H3 g3 e3 => ?_⟩
  · rintro i x _ H3 Q' y hy gr ⟨rfl, rfl⟩ k
    have hi : i < m := by
      have := (List.getElem?_eq_some_iff.mp hy).1
      rw [List.length_map, hlen] at this
      exact this
    rw [List.getElem?_map, hls, List.getElem?_map, List.getElem?_range hi] at hy
    cases hy
    have ei : (0 : Int) + (i : Nat) = (i : Nat) := by omega
    show gName 6 (V.int (0 + ((i : Nat) : Int))) _ _ _
    rw [ei]
    have hl2 : (nS (i / 100)).length ≤ 12 := nS_le (show i / 100 < 10 ^ 12 from Nat.lt_of_le_of_lt (show i / 100 ≤ 400 by omega) (by decide))
    refine ⟨rfl, _, rfl, _, _, rfl, rfl, ⟨by decide, by decide⟩, ((i / 100 : Nat) : Int), rfl, nlog (Nat.lt_of_le_of_lt (show i / 100 ≤ 400 by omega) (by decide)), nS (i / 100), _, rfl, rfl, small (by omega), _, rfl, nS (i / 100) ++ .ofString " ", w, rfl, rfl, by rw [app_len]; exact small (by omega), k _ (.refl _)⟩
  have hpdD : pd ≠ D := fun z => by rw [← z, upd_same] at hD; cases hD
  have g3a := (Gr.new (K := K) (o := .lst [V.str (.ofString "drying")]) hpd).trans g3
  refine ⟨pd, D, [.str (.ofString "drying")], ls.map V.str, rfl, rfl, g3.lst upd_same, e3, small (by rw [List.length_map, hlen]; show 1 + m ≤ 1000; omega), fun pr hpr => ?_⟩
  have eR : [V.str (.ofString "drying")] ++ ls.map V.str = (linesT [] (manyL e m)).map V.str := by rw [hlin]; rfl
  rw [eR]
  have hLL := linesT_len [] (manyL e m)
  rw [hll] at hLL
  have hlo := linesT_lo hb
  have hle := linesT_le hb
  obtain ⟨t1, t2, t3⟩ := told_ok (S := linesT [] (manyL e m)) (by simp [linesT]) hlo (fun w hw => by have := hle w hw; omega) (by omega)
  obtain ⟨l, hl⟩ : ∃ l, l = manyL e m := ⟨_, rfl⟩
  have hat : ∀ i, i < m → l[i]? = some (i / 100, e) := fun i hi => by rw [hl]; exact manyL_at hi
  rw [← hl] at t1 t2 t3 hlo hle hLL hb hll hlin
  rw [← hl]
  have bok := bookT_ok hb (by omega)
  have g4 := (g3a.add (o := .lst ((linesT [] l).map V.str)) hpr)
  have gT : GD K a H (upd H3 pr (.lst ((linesT [] l).map V.str))) := g02.trans (.of g4)
  have eW : Txt.join (.ofString "
") (linesT [] l) = bookT [] l := by rw [nl_eq]; rfl
  rw [eW] at t2 t3
  refine ⟨⟨_, rfl⟩, _, rfl, _, pr, linesT [] l, rfl, rfl, .inl (SqL.of upd_same), t1, ?_⟩
  rw [eW]
  refine ⟨_, rfl, _, rfl, _, [], l, rfl, t2, t3, by omega, hb, fun H5 b L g5 nb nL B => ?_⟩
  have gT5 := gT.trans (.of g5)
  refine ⟨_, rfl, _, rfl, b, L, [], _, rfl, B, fun H6 g6 => ?_⟩
  rw [live_len, kept_some, hll]
  have B6 := B.gr g6
  refine ⟨_, rfl, rfl, false, ne_self _, iteF ⟨_, rfl, _, rfl, b, L, [], _, rfl, B6, hb.1, by rw [days_all hb]; exact hb.2.1, (gT5.trans (.of g6)).tabs hT, fun H7 g7 => ?_⟩⟩
  rw [days_all hb]
  have B7 := B6.gr g7
  obtain ⟨dx7, vd7, xs7, h71, _⟩ := id B7.ex
  refine ⟨_, rfl, rfl, false, ne_self _, iteF ⟨_, rfl, b, dx7, _, rfl, h71, rfl, _, rfl, _, _, rfl, rfl, _, _, rfl, b, L, [], _, m - 1, ((m - 1) / 100, e), rfl, B7, congrArg V.int (by omega), by rw [List.length_map]; omega, ?_, fun v hv => ?_⟩⟩
  · rw [List.getD_eq_getElem?_getD, List.getElem?_map, hat _ (by omega)]
    rfl
  obtain ⟨u, y, z, rfl, hu, hy1, hz⟩ := rep2 hv
  obtain rfl : y = .int (((m - 1) / 100 : Nat) : Nat) := hy1
  refine ⟨u, _, 0, _, rfl, rfl, hu, at_0, _, rfl, _, _, rfl, rfl, _, _, rfl, rfl, ⟨by decide, by decide⟩, rfl, false, ?_, iteF ?_⟩
  · have eD : (((m - 1) / 100 : Nat) : Int) = (((m : Nat) : Int) - 1) / 100 := by omega
    rw [eD]
    exact ne_self _
  obtain ⟨S, hS⟩ : ∃ S, S = linesT [] l := ⟨_, rfl⟩
  rw [← hS] at hLL hlo hle g4 gT
  have hmS : m < S.length := by omega
  have hz := List.getElem?_eq_getElem hmS
  obtain ⟨zl, hzl⟩ : ∃ z, z = S[m] := ⟨_, rfl⟩
  rw [← hzl] at hz
  have hzm : zl ∈ S := List.mem_of_getElem? hz
  have eS : S = S.take m ++ [zl] := by
    have := List.take_add_one (l := S) (i := m)
    rw [hz, List.take_of_length_le (by omega)] at this
    exact this
  have r7 : H7 pr = some (.lst (S.map V.str)) := ((g5.trans g6).trans g7).lst (by rw [hS]; exact upd_same)
  have z1 : zl.length + 11 ≤ sizeLine := Nat.le_trans (Nat.add_le_add_right (hle zl hzm) 11) (by decide)
  have e2 : (Str.ofString " A").length = 2 := by decide +kernel
  refine ⟨⟨_, rfl⟩, _, rfl, _, rfl, _, rfl, pr, S.map V.str, rfl, SqL.of r7, fun q1 hq1 => ⟨_, rfl, _, rfl, pr, S.map V.str, _, .str zl, rfl, rfl, SqL.of ((Gr.new (K := K) hq1).lst r7), ?_, _, _, rfl, rfl, by omega, (show 1 ≤ sizeLine by decide), fun q2 hq2 => ?_⟩⟩
  · rw [eS, List.map_append]
    exact atI_last _ _
  rw [cut_last] at hq2 ⊢
  have n12 : q1 ≠ q2 := fun z => by rw [← z, upd_same] at hq2; cases hq2
  have eT : (S.map V.str).dropLast = (S.take m).map V.str := by
    rw [List.dropLast_eq_take, List.length_map, ← List.map_take, hLL]
    rfl
  refine ⟨q1, q2, (S.map V.str).dropLast, [.str (zl ++ .ofString " A")], rfl, rfl, by rw [upd_ne n12]; exact upd_same, upd_same, small (by rw [eT, List.length_map, List.length_take]; show min m S.length + 1 ≤ 1000; omega), fun q3 hq3 => ?_⟩
  obtain ⟨o, ho⟩ : ∃ o, o = zl ++ .ofString " A" := ⟨_, rfl⟩
  rw [← ho] at hq3 ⊢
  have hom : o ∈ odds zl := by rw [ho]; simp [odds]
  have olo := odds_lo (hlo zl hzm) o hom
  have ole := odds_len (hlo zl hzm) (hle zl hzm) (by decide) o hom
  have oS := oddL_len (o := o) hmS
  have hO : ∀ w ∈ oddL S m o, loW w ∧ w.length ≤ 5306 := fun w hw => by
    rcases oddL_mem hw with hw | rfl
    · exact ⟨hlo w hw, by have := hle w hw; omega⟩
    · exact ⟨olo, ole⟩
  have bS : BadAt (oddL S m o) m := by
    rw [hS]
    exact spoilt_at hb (by rw [← hS]; exact hz) hom _
  obtain ⟨u1, u2, u3⟩ := told_ok (S := oddL S m o) (fun z => by rw [z] at oS; simp at oS; omega) (fun w hw => (hO w hw).1) (fun w hw => (hO w hw).2) (by omega)
  have eO : (S.map V.str).dropLast ++ [.str o] = (oddL S m o).map V.str := by
    unfold oddL
    rw [eT, List.drop_eq_nil_of_le (by omega), List.map_append]
    rfl
  rw [eO]
  have g8 := ((Gr.new (K := K) (o := .lst (S.map V.str).dropLast) hq1).add (o := .lst [.str o]) hq2).add (o := .lst ((oddL S m o).map V.str)) hq3
  have gT8 := (gT5.trans (.of (g6.trans g7))).trans (.of g8)
  refine ⟨_, q3, oddL S m o, rfl, rfl, .inl (SqL.of upd_same), u1, _, rfl, _, _, rfl, u2, u3, by omega, gT8.tabs hT, .inr ⟨m, bS, fun H9 g9 => ⟨_, rfl, rfl, true, congrArg V.bl (decide_eq_true rfl), iteT ?_⟩⟩⟩
  have e3 : (Str.ofString "
").length = 1 := nl_len
  have lE := bookT_lines [] l
  have hne : linesT [] l ≠ [] := by simp [linesT]
  refine ⟨_, rfl, _, _, rfl, rfl, by rw [e3]; omega, _, rfl, _, linesT [] l ++ [Str.empty], rfl, ?_, ?_, ?_, (gT8.trans (.of g9)).tabs hT, .inr ⟨m + 1, by have := bad_end hb; rw [hll] at this; exact this, fun H10 g10 => ⟨_, rfl, _, _, rfl, rfl, rfl, ?_⟩⟩⟩
  · rw [app_len, e3]; omega
  · rw [lE, jn_nl hne]
    refine split_lines (by simp) fun w hw => ?_
    rcases List.mem_append.mp hw with hw | hw
    · exact hlo w (by rw [hS]; exact hw)
    · rw [List.mem_singleton.mp hw]; exact hi_empty.lo
  · rw [List.length_append, linesT_len, hll]
    show m + 1 + 1 ≤ 600
    omega
  · have eM : ((m + 1 : Nat) : Int) = ((m : Nat) : Int) + 1 := by omega
    rw [eM]
    show Q (V.bl (decide (V.int (((m : Nat) : Int) + 1) = V.int (((m : Nat) : Int) + 1)))) _
    rw [decide_eq_true rfl]
    exact q H10 ((gT8.trans (.of g9)).trans (.of g10)) (((((((((d2.gr (K := K) (by rw [← hS]; exact g4)).gr g5)).gr g6).gr g7).gr g8).gr g9).gr g10).mono (by omega))

end
end CK
set_option maxHeartbeats 4000000
namespace CK
open PySem PySem.Spec PyProof.Rows L2
/-! ### a list of what zip hands out -/
theorem zipNoLen : typeLookup (.type "zip") "__len__" = pure none := am_miss_of_fast (by decide +kernel)
theorem zipNoHint : typeLookup (.type "zip") "__length_hint__" = pure none := am_miss_of_fast (by decide +kernel)
/-- zip at turn i, while a list is filled at S -/
def ZS (z TI TO i1 i2 a b S : Addr) (i : Nat) (h : Heap) : Prop := IsPair h TI (.ref i1) (.ref i2) ∧ h.IsListIter i1 a i ∧ h.IsListIter i2 b i ∧
  ((IsZip h z TI TO .none ∧ ∃ x y, IsPair h TO x y) ∨ ∃ T f oT, IsZipHeld h z TI TO T f ∧ h.get? T = some oT ∧ T ≠ z ∧ T ≠ i1 ∧ T ≠ i2 ∧ T ≠ S ∧ ∃ o, h.get? TO = some o)
theorem ZS.keep {z TI TO i1 i2 a b S : Addr} {i : Nat} {h h' : Heap} (st : ZS z TI TO i1 i2 a b S i h) (hS : S ∉ [z, TI, TO, i1, i2]) (k : ∀ c o, c ≠ S → h.get? c = some o → h'.get? c = some o) : ZS z TI TO i1 i2 a b S i h' := by
  simp only [List.mem_cons, List.not_mem_nil, or_false, not_or] at hS
  obtain ⟨n1, n2, n3, n4, n5⟩ := hS
  obtain ⟨s1, s2, s3, s4⟩ := st
  refine ⟨k _ _ (Ne.symm n2) s1, s2.at fun o e => k _ o (Ne.symm n4) e, s3.at fun o e => k _ o (Ne.symm n5) e, ?_⟩
  rcases s4 with ⟨hz, x, y, hTO⟩ | ⟨T, f, oT, hz, hT, r1, r2, r3, r4, oO, hO⟩
  · exact .inl ⟨k _ _ (Ne.symm n1) hz, x, y, k _ _ (Ne.symm n3) hTO⟩
  · exact .inr ⟨T, f, oT, k _ _ (Ne.symm n1) hz, k _ _ r4 hT, r1, r2, r3, r4, oO, k _ _ (Ne.symm n3) hO⟩
section
variable {X : Cx} {pins : List (Addr × Obj)} {σ : L2.St} {a b z TI TO i1 i2 S : Addr} {xs ys : List V} {H1 : Hp} {A : Around} {R : Result → Shared → Prop}
/-- next(z) -/
theorem zs_item {Q : Option Value → Shared → Prop} {E : Value → Shared → Prop} {H : Hp} {s : Shared} {i : Nat} {x y : V} (D : ZipApart z TI TO i1 i2 a b) (hS : S ∉ [z, TI, TO, i1, i2]) (hSl : S < s.heap.objs.size) (I : Inv X pins σ H s) (hf : ∀ c ∈ [z, TI, TO, i1, i2], FpOk X pins H c)
    (st : ZS z TI TO i1 i2 a b S i s.heap) (ha : H a = some (.lst xs)) (hb : H b = some (.lst ys)) (hx : xs[i]? = some x) (hy : ys[i]? = some y)
    (q : ∀ T s', H T = none → T ≠ S → (∀ c ∈ [z, TI, TO, i1, i2], c ≠ T) → Inv X pins σ (upd H T (.tup [x, y])) s' → ZS z TI TO i1 i2 a b S (i + 1) s'.heap → S < s'.heap.objs.size → Q (some (.ref T)) s') : wpAny (model X.prog X.w) A (pyNext (.ref z)) Q E s := by
  obtain ⟨_, its, n, rv, _, e⟩ := I.lstM ha
  obtain ⟨_, its2, n2, rv2, _, e2⟩ := I.lstM hb
  obtain ⟨u, hu, ru⟩ := rv.get hx
  obtain ⟨u2, hu2, ru2⟩ := rv2.get hy
  have l1 : s.heap.IsList a its.toArray := ⟨_, e, rfl, _, rfl⟩
  have l2 : s.heap.IsList b its2.toArray := ⟨_, e2, rfl, _, rfl⟩
  obtain ⟨hTI, h1, h2, hz⟩ := st
  have lt : ∀ {c o}, s.heap.get? c = some o → s.heap.objs.size ≠ c := fun e => Nat.ne_of_gt (Heap.lt_size e)
  have m1 : s.heap.objs.size ≠ i1 := let ⟨_, e, _⟩ := h1; lt e
  have m2 : s.heap.objs.size ≠ i2 := let ⟨_, e, _⟩ := h2; lt e
  have hfr : H s.heap.objs.size = none := I.hok.fresh (Nat.le_refl _)
  have fin : ∀ (h' : Heap), IsPair h' s.heap.objs.size u u2 → h'.objs.size = s.heap.objs.size + 1 → (∀ c o, c ∉ [z, TI, TO, i1, i2] → s.heap.get? c = some o → h'.get? c = some o) → TO < s.heap.objs.size → z < s.heap.objs.size → ZS z TI TO i1 i2 a b S (i + 1) h' → Q (some (.ref s.heap.objs.size)) { s with heap := h' } := fun h' hp hsz hk lTO lz hs => by
    refine q _ _ hfr (Nat.ne_of_gt hSl) (fun c hc => ?_) (I.turnedNew (t' := s.toks) (ch := [z, TI, TO, i1, i2]) hk hf (Nat.le_refl _) ⟨(by show 2 ≤ sizeLine; decide), [u, u2], .cons ru (.cons ru2 .nil), ⟨_, hp, rfl, _, rfl⟩⟩) hs (by show S < h'.objs.size; rw [hsz]; exact Nat.lt_succ_of_lt hSl)
    simp only [List.mem_cons, List.not_mem_nil, or_false] at hc
    rcases hc with rfl | rfl | rfl | rfl | rfl
    · exact Nat.ne_of_lt lz
    · exact Nat.ne_of_lt (Heap.lt_size hTI)
    · exact Nat.ne_of_lt lTO
    · exact Ne.symm m1
    · exact Ne.symm m2
  have off : ∀ {c : Addr}, c ∉ [z, TI, TO, i1, i2] → c ≠ z ∧ c ≠ TI ∧ c ≠ TO ∧ c ≠ i1 ∧ c ≠ i2 := fun {c} hc => by
    simp only [List.mem_cons, List.not_mem_nil, or_false, not_or] at hc
    exact hc
  rcases hz with ⟨hz, x0, y0, hTO⟩ | ⟨T, f, oT, hz, hT, r1, r2, r3, r4, oO, hO⟩
  · refine wpAny_pyNext_zip_item D hz hTI hTO h1 h2 l1 l2 (x := u) (y := u2) (by simpa using hu) (by simpa using hu2) fun h' a1 a2 a3 a4 a5 a6 hk => ?_
    exact fin h' a5 a6 (fun c o hc e => hk c o (off hc).1 (off hc).2.2.1 (off hc).2.2.2.1 (off hc).2.2.2.2 e) (Heap.lt_size hTO) (Heap.lt_size hz) ⟨hk _ _ D.TIz D.TITO D.TIi1 D.TIi2 hTI, a3, a4, .inr ⟨s.heap.objs.size, false, _, a1, a5, lt hz, m1, m2, Nat.ne_of_gt hSl, _, a2⟩⟩
  · have lTO : TO < s.heap.objs.size := Heap.lt_size hO
    refine wpAny_pyNext_zip_item_held D hz hT hTI h1 h2 l1 l2 (x := u) (y := u2) (by simpa using hu) (by simpa using hu2) fun h' a1 a3 a4 a5 a6 hk => ?_
    exact fin h' a5 a6 (fun c o hc e => hk c o (off hc).1 (off hc).2.2.2.1 (off hc).2.2.2.2 e) lTO (Heap.lt_size hz) ⟨hk _ _ D.TIz D.TIi1 D.TIi2 hTI, a3, a4, .inr ⟨T, true, oT, a1, hk _ _ r1 r2 r3 hT, r1, r2, r3, r4, oO, hk _ _ D.TOz D.TOi1 D.TOi2 hO⟩⟩
theorem zs_done {Q : Option Value → Shared → Prop} {E : Value → Shared → Prop} {H : Hp} {s : Shared} {i : Nat} (hh : A.handled = none) (D : ZipApart z TI TO i1 i2 a b) (I : Inv X pins σ H s) (hf : ∀ c ∈ [z, TI, TO, i1, i2], FpOk X pins H c)
    (st : ZS z TI TO i1 i2 a b S i s.heap) (ha : H a = some (.lst xs)) (hb : H b = some (.lst ys)) (hi : xs.length ≤ i) (q : ∀ s', Inv X pins σ H s' → Q none s') : wpAny (model X.prog X.w) A (pyNext (.ref z)) Q E s := by
  obtain ⟨_, its, n, rv, hl, e⟩ := I.lstM ha
  obtain ⟨_, its2, n2, rv2, _, e2⟩ := I.lstM hb
  have l1 : s.heap.IsList a its.toArray := ⟨_, e, rfl, _, rfl⟩
  have l2 : s.heap.IsList b its2.toArray := ⟨_, e2, rfl, _, rfl⟩
  obtain ⟨hTI, h1, h2, hz⟩ := st
  have hend : its.toArray[i]? = none ∨ its2.toArray[i]? = none := .inl (by rw [Array.getElem?_eq_none (by rw [List.size_toArray]; omega)])
  have off : ∀ {c : Addr}, c ∉ [z, TI, TO, i1, i2] → c ≠ z ∧ c ≠ TI ∧ c ≠ TO ∧ c ≠ i1 ∧ c ≠ i2 := fun {c} hc => by
    simp only [List.mem_cons, List.not_mem_nil, or_false, not_or] at hc
    exact hc
  rcases hz with ⟨hz, x0, y0, hTO⟩ | ⟨T, f, oT, hz, hT, r1, r2, r3, r4, oO, hO⟩
  · exact wpAny_pyNext_zip_end hh D hz hTI hTO h1 h2 l1 l2 hend fun h' hk => q _ (I.turnedL (t' := s.toks) (ch := [z, TI, TO, i1, i2]) (fun c o hc e => hk c o (off hc).1 (off hc).2.2.1 (off hc).2.2.2.1 (off hc).2.2.2.2 e) hf)
  · exact wpAny_pyNext_zip_end_held hh D hz hT hTI h1 h2 l1 l2 hend fun h' hk => q _ (I.turnedL (t' := s.toks) (ch := [z, TI, TO, i1, i2]) (fun c o hc e => hk c o (off hc).1 (off hc).2.2.2.1 (off hc).2.2.2.2 e) hf)
/-- the pairs so far -/
def Zd (xs ys : List V) (ts : List V) (H : Hp) : Prop := ∀ (j : Nat) (x y : V), j < ts.length → xs[j]? = some x → ys[j]? = some y → ∃ T, ts[j]? = some (.ref T) ∧ H T = some (.tup [x, y])
theorem fpOk_upd {H : Hp} {c d : Addr} {o : HO} (h : FpOk X pins H c) (n : c ≠ d) : FpOk X pins (upd H d o) c := ⟨by rw [upd_ne n]; exact h.1, h.2⟩
theorem zs_drain (hh : A.handled = none) (D : ZipApart z TI TO i1 i2 a b) (hS : S ∉ [z, TI, TO, i1, i2]) (hl : xs.length = ys.length) (hz : xs.length ≤ 1000) (hSn : H1 S = none) (ha : H1 a = some (.lst xs)) (hb : H1 b = some (.lst ys))
    (hend : ∀ H' s' ts, Inv X pins σ H' s' → (∀ c o, H1 c = some o → H' c = some o) → H' S = some (.lst ts) → ts.length = xs.length → Zd xs ys ts H' → R (.ok (.ret .none)) s') :
    ∀ (m : Nat) (H : Hp) (ts : List V) (s : Shared), ts.length + m = xs.length → Inv X pins σ H s → S < s.heap.objs.size → (∀ c o, H1 c = some o → H c = some o) → (∀ c ∈ [z, TI, TO, i1, i2], FpOk X pins H c) → ZS z TI TO i1 i2 a b S ts.length s.heap → H S = some (.lst ts) → Zd xs ys ts H →
      codeAny (model X.prog X.w) A (.builtin "list.extend.loop" ⟨[.ref S, .ref z, .none], []⟩) R s := by
  intro m
  induction m with
  | zero =>
    intro H ts s hm I hSl k hf st hts hd
    refine codeAny_builtin PySem.F.entry_extend_loop ?_
    rw [Around.under_plainId PySem.F.plain_extend_loop _]
    show wpAny _ A.in1 (pyNext (.ref z) >>= _) _ _ s
    refine wpAny_bind (zs_done (A := A.in1) hh D I hf st (k _ _ ha) (k _ _ hb) (by omega) fun s' I' => ?_)
    exact wpAny_pure (hend H s' ts I' k hts (by omega) hd)
  | succ m ih =>
    intro H ts s hm I hSl k hf st hts hd
    refine codeAny_builtin PySem.F.entry_extend_loop ?_
    rw [Around.under_plainId PySem.F.plain_extend_loop _]
    show wpAny _ A.in1 (pyNext (.ref z) >>= _) _ _ s
    have hi : ts.length < xs.length := by omega
    have ex := List.getElem?_eq_getElem hi
    have ey := List.getElem?_eq_getElem (show ts.length < ys.length by omega)
    refine wpAny_bind (zs_item (A := A.in1) D hS hSl I hf st (k _ _ ha) (k _ _ hb) ex ey fun T s' hT hTS hTz I' st' hSl' => ?_)
    show wpAny _ A.in1 (updateSeq S (·.push (.ref T)) >>= _) _ _ _
    have hq' : upd H T (.tup [xs[ts.length], ys[ts.length]]) S = some (.lst ts) := by rw [upd_ne (Ne.symm hTS)]; exact hts
    obtain ⟨_, its, n, r2, hl2, e⟩ := I'.lstM hq'
    have big : 1002 ≤ sizeLine := by decide
    refine wpAny_bind (wpAny_updateSeq e rfl (wpAny_pure ⟨plainId_quiet PySem.F.plain_extend_loop _, ?_⟩) (by rw [List.size_toArray]; omega) (by show (its.toArray.push (Value.ref T)).size ≤ sizeLine + 1; rw [Array.size_push, List.size_toArray]; omega))
    have I2 := I'.lset (its' := its ++ [.ref T]) (t' := s'.toks) (ys := ts ++ [.ref T]) hq' e (f := (·.push (.ref T))) (by simp) (r2.append (show Vals [V.ref T] [Value.ref T] from .cons rfl .nil)) (by rw [List.length_append, List.length_singleton]; omega)
    refine ih _ (ts ++ [.ref T]) _ (by rw [List.length_append, List.length_singleton]; omega) I2 ?_ (fun c o hc => ?_) (fun c hc => ?_) ?_ upd_same ?_
    · show S < (s'.heap.update S _).objs.size
      rw [Heap.size_update]
      exact hSl'
    · rw [upd_ne (ne_of_none hc hSn), upd_ne (ne_of_none (k c o hc) hT)]
      exact k c o hc
    · exact fpOk_upd (fpOk_upd (hf c hc) (hTz c hc)) fun z => hS (z ▸ hc)
    · rw [List.length_append, List.length_singleton]
      exact st'.keep hS fun c o hc e => (Heap.get?_update_other s'.heap _ (Ne.symm hc)).trans e
    · intro j x y hj hx hy
      rw [List.length_append, List.length_singleton] at hj
      by_cases h : j < ts.length
      · obtain ⟨T', e1, e2⟩ := hd j x y h hx hy
        refine ⟨T', by rw [List.getElem?_append_left h]; exact e1, ?_⟩
        rw [upd_ne (fun z => by rw [z, hts] at e2; cases e2), upd_ne (ne_of_none e2 hT)]
        exact e2
      · have : j = ts.length := by omega
        subst this
        rw [ex] at hx
        rw [ey] at hy
        cases hx
        cases hy
        refine ⟨T, by rw [List.getElem?_append_right (Nat.le_refl _), Nat.sub_self]; rfl, ?_⟩
        rw [upd_ne hTS, upd_same]
/-- list(zip(x, y)) of two lists of one length -/
def tLz (ta : TA) : TE := fun σ H Q => ta σ H fun vs H1 => ∃ a b xs ys, vs = [.ref a, .ref b] ∧ H1 a = some (.lst xs) ∧ H1 b = some (.lst ys) ∧ xs.length = ys.length ∧ xs.length ≤ 1000 ∧
  ∀ S H2 ts, H1 S = none → (∀ c o, H1 c = some o → H2 c = some o) → H2 S = some (.lst ts) → ts.length = xs.length → Zd xs ys ts H2 → Q (.ref S) H2
theorem call_lz {Q : Value → Shared → Prop} {E : Value → Shared → Prop} {H1 : Hp} {s : Shared} (hc : X.calm = true) (I : Inv X pins σ H1 s) (hl : xs.length = ys.length) (hz : xs.length ≤ 1000) (ha : H1 a = some (.lst xs)) (hb : H1 b = some (.lst ys))
    (q : ∀ S H2 ts s', Inv X pins σ H2 s' → H1 S = none → (∀ c o, H1 c = some o → H2 c = some o) → H2 S = some (.lst ts) → ts.length = xs.length → Zd xs ys ts H2 → Q (.ref S) s') :
    wpAny (model X.prog X.w) X.A (call (.type "zip") [.ref a, .ref b]) (fun u s' => wpAny (model X.prog X.w) X.A (call (.type "list") [u]) Q E s') E s := by
  obtain ⟨_, its, n, rv, _, e⟩ := I.lstM ha
  obtain ⟨_, its2, n2, rv2, _, e2⟩ := I.lstM hb
  have l1 : s.heap.IsList a its.toArray := ⟨_, e, rfl, _, rfl⟩
  have l2 : s.heap.IsList b its2.toArray := ⟨_, e2, rfl, _, rfl⟩
  refine call_zip_2 l1 l2 fun h' hz1 hTI hTO h1 h2 hsz hk => ?_
  have I2 : Inv X pins σ H1 { s with heap := h' } := I.kept (t' := s.toks) hk
  have fresh5 : ∀ c ∈ [s.heap.objs.size + 4, s.heap.objs.size + 2, s.heap.objs.size + 3, s.heap.objs.size, s.heap.objs.size + 1], s.heap.objs.size ≤ c ∧ c < s.heap.objs.size + 5 := fun c hc => by
    simp only [List.mem_cons, List.not_mem_nil, or_false] at hc
    rcases hc with rfl | rfl | rfl | rfl | rfl <;> exact ⟨by omega, by omega⟩
  refine callType_codes (Q₁ := fun obj s₁ => obj = .ref h'.objs.size ∧ s₁ = { s with heap := h'.push { cls := .type "list", data := .seq #[] } }) PySem.F.called_list (PySem.F.typeCall_list_1 _) PySem.F.entry_list_init
    (code_list_new _ ⟨rfl, rfl⟩) fun obj s₁ h₁ => ?_
  obtain ⟨rfl, rfl⟩ := h₁
  have hS : (h'.push { cls := .type "list", data := .seq #[] }).get? h'.objs.size = some { cls := .type "list", data := .seq #[] } := Heap.get?_push_size _ rfl
  refine ⟨⟨_, hS, rfl⟩, PySem.F.args_list_init_2 _ _, ?_⟩
  have fr : H1 h'.objs.size = none := I2.hok.fresh (Nat.le_refl _)
  have I3 : Inv X pins σ (upd H1 h'.objs.size (.lst [])) { s with heap := h'.push { cls := .type "list", data := .seq #[] } } := I2.lnew (its := []) (t' := s.toks) .nil (Nat.zero_le _)
  show wpAny _ _ (do let old ← Builtin.List.listItems (.ref h'.objs.size); Builtin.List.listUpdate (.ref h'.objs.size) (fun _ => #[]); letGo old.toList.reverse; Builtin.List.listExtendWith (.ref h'.objs.size) (.ref (s.heap.objs.size + 4)) .none) _ _ _
  refine wpAny_bind ?_
  unfold Builtin.List.listItems
  refine wpAny_bind (wpAny_seqItems hS rfl (wpAny_pure ?_))
  show wpAny _ _ (updateSeq h'.objs.size (fun _ => #[]) >>= fun _ => letGo (#[] : Array Value).toList.reverse >>= fun _ => Builtin.List.listExtendWith (.ref h'.objs.size) (.ref (s.heap.objs.size + 4)) .none) _ _ _
  refine wpAny_bind (wpAny_updateSeq hS rfl ?_)
  have I4 := I3.lset (f := fun _ => #[]) (its := []) (its' := []) (ys := []) (t' := s.toks) upd_same hS rfl .nil (Nat.zero_le _)
  rw [upd_upd] at I4
  refine wpAny_bind (wpAny_letGo ?_)
  obtain ⟨S, hSe⟩ : ∃ S, S = h'.objs.size := ⟨_, rfl⟩
  rw [← hSe] at fr I4 hS ⊢
  have hSm : S ∉ [s.heap.objs.size + 4, s.heap.objs.size + 2, s.heap.objs.size + 3, s.heap.objs.size, s.heap.objs.size + 1] := fun z => by
    have := (fresh5 S z).2
    omega
  have hn1 : s.heap.objs.size + 4 ≠ S := fun z => hSm (by rw [← z]; simp)
  have kp : ∀ c o, c ≠ S → h'.get? c = some o → ((h'.push { cls := .type "list", data := .seq #[] }).update S (Obj.mapSeq fun _ => #[])).get? c = some o := fun c o hc e => (Heap.get?_update_other _ _ (Ne.symm hc)).trans (Heap.get?_push_of_some _ e)
  have hzz := kp _ _ hn1 hz1
  have tz : ({ s with heap := (h'.push { cls := .type "list", data := .seq #[] }).update S (Obj.mapSeq fun _ => #[]) } : Shared).TypeIs (.ref (s.heap.objs.size + 4)) "zip" := ⟨_, hzz, rfl⟩
  unfold Builtin.List.listExtendWith
  refine wpAny_bind (wpAny_typeOf tz ?_)
  have b1 : Builtin.List.listSameRef (.ref S) (.ref (s.heap.objs.size + 4)) = false := by simp [Builtin.List.listSameRef, Ne.symm hn1]
  have b2 : (Value.type "zip" == Value.type "list") = false := by decide
  have b3 : (Value.type "zip" == Value.type "tuple") = false := by decide
  simp only [b1, b2, b3, Bool.or_false, Bool.false_eq_true, if_false]
  refine wpAny_bind (wpAny_pyIter_zip hzz ?_)
  refine wpAny_bind (wpAny_holding ?_)
  unfold Builtin.List.listLengthHint
  refine wpAny_bind (wpAny_specialOf tz zipNoLen ?_)
  show wpAny _ _ (specialOf (Value.ref (s.heap.objs.size + 4)) (Str.ofString "__length_hint__") >>= _) _ _ _
  refine wpAny_bind (wpAny_specialOf tz zipNoHint ?_)
  refine wpAny_pure ?_
  refine wpAny_ite_split (fun _ => ?_) fun hn => absurd rfl hn
  refine wpAny_bind (wpAny_rule (wpAny_bind ?_))
  show wpAny _ _ (updateSeq S (·.push .none) >>= fun _ => updateSeq S (·.pop)) _ _ _
  obtain ⟨_, is5, n5, r5, _, e5⟩ := I4.lstM upd_same
  cases r5
  refine wpAny_bind (wpAny_updateSeq e5 rfl ?_)
  have I5 := I4.lset (f := (·.push Value.none)) (its' := [Value.none]) (ys := [.non]) (t' := s.toks) upd_same e5 (by simp) (.cons rfl .nil) (by rw [List.length_singleton]; decide)
  obtain ⟨_, is6, n6, r6, _, e6⟩ := I5.lstM upd_same
  obtain ⟨u6, rfl, _⟩ := r6.one
  have I6 := I5.lset (f := (·.pop)) (its := [u6]) (its' := []) (ys := []) (t' := s.toks) upd_same e6 (by rfl) .nil (Nat.zero_le _)
  rw [upd_upd, upd_upd] at I6
  refine wpAny_updateSeq e6 rfl ?_ (by show 1 ≤ sizeLine; decide) (by show 0 ≤ sizeLine + 1; exact Nat.zero_le _)
  have up : ∀ (h : Heap) (f : Obj → Obj), (∀ c o, c ≠ S → h'.get? c = some o → h.get? c = some o) → ∀ c o, c ≠ S → h'.get? c = some o → (h.update S f).get? c = some o := fun h f k c o hc e => (Heap.get?_update_other _ _ (Ne.symm hc)).trans (k c o hc e)
  have kp3 := up _ (Obj.mapSeq (·.pop)) (up _ (Obj.mapSeq (·.push Value.none)) kp)
  refine wpAny_pure ⟨plainId_quiet PySem.F.plain_extend_loop _, ?_⟩
  have st0 : ZS (s.heap.objs.size + 4) (s.heap.objs.size + 2) (s.heap.objs.size + 3) s.heap.objs.size (s.heap.objs.size + 1) a b S 0 h' := ⟨hTI, h1, h2, .inl ⟨hz1, _, _, hTO⟩⟩
  refine zs_drain (A := X.A.in1) (R := wants (fun r s₂ => r = .none ∧ Q (.ref S) s₂) E) (H1 := H1) (xs := xs) (ys := ys) (a := a) (b := b) (I.ok.hd hc) (PySem.W.ktu_apart s.heap.objs.size a b (Heap.lt_size e) (Heap.lt_size e2)) hSm hl hz fr ha hb
    (fun H' s' ts I' k1 k2 k3 k4 => ⟨rfl, q S H' ts s' I' fr k1 k2 k3 k4⟩) xs.length _ [] _ (Nat.zero_add _) I6 ?_ (fun c o e => ?_) (fun c hcm => ?_) (st0.keep hSm kp3) upd_same (fun j x y hj => absurd hj (Nat.not_lt_zero _))
  · show S < (((Heap.push h' { cls := .type "list", data := .seq #[] }).update S _).update S _ |>.update S _).objs.size
    rw [Heap.size_update, Heap.size_update, Heap.size_update, Heap.size_push, hSe]
    exact Nat.lt_succ_self _
  · rw [upd_ne (ne_of_none e fr)]
    exact e
  · have hlo := (fresh5 c hcm).1
    exact fpOk_upd (I.fpOk hlo (I.hok.fresh hlo)) fun z => hSm (z ▸ hcm)
theorem pe_listZip {e e2 : Expr} {ta : TA} {p p2 pos pos2 : Pos} (hc : X.calm = true) (hgl : Gl X "list") (hml : X.mg "list" = none) (hg : Gl X "zip") (hm : X.mg "zip" = none) (ha : PA X [e, e2] ta)
    (hs : starEach [e, e2] X.env = (false, eval e X.env) :: starEach [e2] X.env := by rfl) (hpl : (backTo pos (starEach [e2] X.env)).any (·.1) = false := by rfl)
    (hs2 : starEach [.Call (.Name "zip" p) [e, e2] [] pos] X.env = (false, eval (.Call (.Name "zip" p) [e, e2] [] pos) X.env) :: starEach [] X.env := by rfl) (hpl2 : (backTo pos2 (starEach [] X.env)).any (·.1) = false := by rfl) :
    PE X (.Call (.Name "list" p2) [.Call (.Name "zip" p) [e, e2] [] pos] [] pos2) (tLz ta) := by
  refine ⟨fun pins s σ H Q I h => ?_⟩
  refine Call_ (ld_blt I hgl hml PyProof.Rows.boot_list (PyProof.Rows.callWith_type1 ?_ hs2 hpl2))
  rw [hs2]
  show wpAny _ _ (spliced ((false, eval (.Call (.Name "zip" p) [e, e2] [] pos) X.env) :: backTo pos2 (starEach [] X.env))) _ _ s
  refine Calls.spliced_cons ?_
  refine Call_ (ld_blt I hg hm PyProof.Rows.boot_zip (PyProof.Rows.callWith_type1 (thn (ha.run pos pins s σ H _ I h) fun us s1 ⟨vs, H1, I1, r1, q1⟩ => ?_) hs hpl))
  obtain ⟨a, b, xs, ys, rfl, h1, h2, h3, h4, q⟩ := q1
  cases r1 with
  | cons r rr =>
    cases rr with
    | cons r' rr =>
      cases rr
      cases r
      cases r'
      refine thn (call_lz hc I1 h3 h4 h1 h2 (Q := EP X pins σ Q) fun S H2 ts s' I' k1 k2 k3 k4 k5 => ⟨.ref S, H2, I', rfl, q S H2 ts k1 k2 k3 k4 k5⟩) fun u s' hw => ?_
      exact Calls.spliced_nil hw
end
end CK
set_option maxHeartbeats 4000000
namespace CK
open PySem PySem.Spec PyProof.Rows L2
/-! ### what the law lays side by side -/
theorem row_lo {e : Deed} (h : e.Good) : ∀ w ∈ e.row, loW w := by
  have hb := hi_body h
  have plain : ∀ w ∈ e.word :: e.body, loW w := fun w hw => by
    rcases List.mem_cons.mp hw with rfl | hw
    · exact (hi_word e).lo
    · exact (hb w hw).lo
  intro w hw
  cases e with
  | parts k m ps =>
    rcases List.mem_cons.mp (show w ∈ (Deed.parts k m ps).word :: m :: ps.map fun p => p.1 ++ .ofString " " ++ wS p.2.1 p.2.2 from hw) with rfl | hw
    · exact (hi_word _).lo
    · rcases List.mem_cons.mp hw with rfl | hw
      · exact (hi_mk h.1).lo
      · obtain ⟨p, hp, rfl⟩ := List.mem_map.mp hw
        exact lo_app (lo_app (hi_nm (h.2.2.1 p hp).1).lo lo_bl) (hi_wS _ _).lo
  | part n ps =>
    rcases List.mem_cons.mp (show w ∈ Str.ofString "part" :: n :: ps.map fun p => p.1 ++ .ofString " " ++ nS p.2 from hw) with rfl | hw
    · exact (hi_word (.part n ps)).lo
    · rcases List.mem_cons.mp hw with rfl | hw
      · exact (hi_nm h.1).lo
      · obtain ⟨p, hp, rfl⟩ := List.mem_map.mp hw
        exact lo_app (lo_app (hi_nm (h.2.1.2.2.1 _ (List.mem_map_of_mem hp))).lo lo_bl) (hi_nS _).lo
  | burn _ _ _ _ => exact plain w hw
  | make _ _ _ => exact plain w hw
  | merge _ _ => exact plain w hw
  | pay _ _ _ => exact plain w hw
  | fire _ => exact plain w hw
  | lose _ => exact plain w hw
  | draw _ => exact plain w hw
  | send _ _ => exact plain w hw
theorem row_ne (e : Deed) : e.row ≠ [] := by cases e <;> exact fun z => by cases z
theorem row_jn (d : Nat) (e : Deed) : nS d ++ .ofString " " ++ jn 32 e.row = rowT d e := by
  rw [← jn_cons (row_ne e)]
  have pr : ∀ (x y : Str), cl (x ++ .ofString " " ++ y) = cl x ++ 32 :: cl y := fun x y => by
    rw [cl_app, cl_app, cl_bl]
    simp
  cases e with
  | parts k m ps => exact jn_pairs 32 (nS d) ps (fun p => p.1) (fun p => wS p.2.1 p.2.2) _ (fun p => pr _ _) [(Deed.parts k m ps).word, m]
  | part n ps => exact jn_pairs 32 (nS d) ps (fun p => p.1) (fun p => nS p.2) _ (fun p => pr _ _) [.ofString "part", n]
  | _ => rfl
theorem row_len {e : Deed} (h : e.Good) : e.row.length ≤ 210 ∧ ∀ w ∈ e.row, w.length ≤ 60 := by
  have hb := body_len h
  have hwl := word_len e
  have plain : (e.word :: e.body).length ≤ 210 ∧ ∀ w ∈ e.word :: e.body, w.length ≤ 60 := by
    refine ⟨by rw [List.length_cons]; omega, fun w hw => ?_⟩
    rcases List.mem_cons.mp hw with rfl | hw
    · omega
    · have := hb.2 w hw; omega
  have e1 : (Str.ofString " ").length = 1 := by decide +kernel
  cases e with
  | parts k m ps =>
    have h2 : ps.length ≤ 4 := h.2.1
    refine ⟨by show (ps.map _).length + 1 + 1 ≤ 210; rw [List.length_map]; omega, fun w hw => ?_⟩
    rcases List.mem_cons.mp (show w ∈ (Deed.parts k m ps).word :: m :: ps.map fun p => p.1 ++ .ofString " " ++ wS p.2.1 p.2.2 from hw) with rfl | hw
    · omega
    · rcases List.mem_cons.mp hw with rfl | hw
      · have := (isMk_len h.1).2; omega
      · obtain ⟨p, hp, rfl⟩ := List.mem_map.mp hw
        have l1 := (isNm_len (h.2.2.1 p hp).1).2
        have ok := (h.2.2.1 p hp).2
        have l2 := wS_len ok.2.1 ok.2.2.2.1
        rw [app_len, app_len]
        omega
  | part n ps =>
    have h2 : (ps.map (·.1)).length ≤ 100 := h.2.1.2.1
    rw [List.length_map] at h2
    refine ⟨by show (ps.map _).length + 1 + 1 ≤ 210; rw [List.length_map]; omega, fun w hw => ?_⟩
    rcases List.mem_cons.mp (show w ∈ Str.ofString "part" :: n :: ps.map fun p => p.1 ++ .ofString " " ++ nS p.2 from hw) with rfl | hw
    · exact Nat.le_trans hwl (by decide)
    · rcases List.mem_cons.mp hw with rfl | hw
      · have := (isNm_len h.1).2; omega
      · obtain ⟨p, hp, rfl⟩ := List.mem_map.mp hw
        have l1 := (isNm_len (h.2.1.2.2.1 _ (List.mem_map_of_mem hp))).2
        have l2 : (nS p.2).length ≤ 12 := nS_le (h.2.2 p hp).2
        rw [app_len, app_len]
        omega
  | burn _ _ _ _ => exact plain
  | make _ _ _ => exact plain
  | merge _ _ => exact plain
  | pay _ _ _ => exact plain
  | fire _ => exact plain
  | lose _ => exact plain
  | draw _ => exact plain
  | send _ _ => exact plain
/-- days and rows, as data -/
def rowP (p : Nat × Deed) : PyData := .tuple [.int (p.1 : Nat), .list (p.2.row.map .str)]
def rowsP (l : List (Nat × Deed)) : PyData := .list (l.map rowP)
theorem lo_asc {x : Str} (h : loW x) : asc x := fun c hc => by
  have := h c hc
  omega
theorem lay_strs : ∀ {ws : List Str}, (∀ w ∈ ws, loW w) → PyData.canLayAll0 (ws.map .str) = true
  | [], _ => rfl
  | x :: ws, h => by
    have h1 := asc_ok (lo_asc (h x (by simp)))
    have h2 := lay_strs fun w hw => h w (List.mem_cons_of_mem _ hw)
    simp [PyData.canLayAll0, PyData.canLay0, h1, h2]
theorem lay_rows : ∀ {l : List (Nat × Deed)}, (∀ p ∈ l, p.2.Good) → PyData.canLayAll0 (l.map rowP) = true
  | [], _ => rfl
  | p :: l, h => by
    have h1 := lay_strs (row_lo (h p (by simp)))
    have h2 := lay_rows fun q hq => h q (List.mem_cons_of_mem _ hq)
    simp [PyData.canLayAll0, PyData.canLay0, rowP, h1, h2]
theorem dep_strsP : ∀ ws : List Str, PyData.depthAll (ws.map .str) = 0
  | [] => by simp [PyData.depthAll]
  | x :: ws => by
    have := dep_strsP ws
    simp [PyData.depthAll, PyData.depth, this]
theorem dep_rows : ∀ l : List (Nat × Deed), PyData.depthAll (l.map rowP) ≤ 2
  | [] => by simp [PyData.depthAll]
  | p :: l => by
    have := dep_rows l
    simp [PyData.depthAll, PyData.depth, rowP, dep_strsP]
    omega
theorem lay_rowsP {l : List (Nat × Deed)} (h : ∀ p ∈ l, p.2.Good) : (rowsP l).canLay0 = true := by
  unfold rowsP
  rw [PyData.canLay0]
  exact lay_rows h
theorem shaped_rows {l : List (Nat × Deed)} (h : ∀ p ∈ l, p.2.Good) : SeqAt.shaped (rowsP l) = true := by
  unfold SeqAt.shaped
  rw [lay_rowsP h, Bool.true_and]
  refine decide_eq_true ?_
  have := dep_rows l
  unfold rowsP
  simp [PyData.depth]
  omega
theorem eqv_rows {l : List (Nat × Deed)} (h : ∀ p ∈ l, p.2.Good) : PyData.eqv (rowsP l) (rowsP l) = true := SeqAt.eqv_refl _ (lay_rowsP h)
section
variable {K : PySem.W.Frag} {H : Hp}
theorem dp_strsP : ∀ ws : List Str, DpAll K H (ws.map V.str) (ws.map .str)
  | [] => .nil
  | x :: ws => .cons (.str x) (dp_strsP ws)
theorem dp_row {T q : Addr} {p : Nat × Deed} (h : H T = some (.tup [.int (p.1 : Nat), .ref q])) (hq : H q = some (.lst (p.2.row.map V.str))) : Dp K H (.ref T) (rowP p) :=
  .tup (.inl (.inl h)) (.cons (.int _) (.cons (.lst (SqL.of hq) (dp_strsP _)) .nil))
theorem dp_rows {S : Addr} {ts : List V} {l : List (Nat × Deed)} (hS : H S = some (.lst ts)) (hl : ts.length = l.length) (h : ∀ (i : Nat) (p : Nat × Deed), l[i]? = some p → ∃ T q, ts[i]? = some (.ref T) ∧ H T = some (.tup [.int (p.1 : Nat), .ref q]) ∧ H q = some (.lst (p.2.row.map V.str))) : Dp K H (.ref S) (rowsP l) := by
  refine .lst (SqL.of hS) ?_
  clear hS
  induction l generalizing ts with
  | nil =>
    rw [List.length_eq_zero_iff.mp hl]
    exact .nil
  | cons p l ih =>
    cases ts with
    | nil => cases hl
    | cons t ts =>
      obtain ⟨T, q, e1, e2, e3⟩ := h 0 p rfl
      cases (show some t = some (.ref T) from e1)
      exact .cons (dp_row e2 e3) (ih (Nat.succ.inj hl) fun i r hr => h (i + 1) r hr)
end
theorem nat_le {a b : Nat} (h : PySem.W.dataLe false (fun n : Nat => PyData.int (n : Nat)) a b = true) : a ≤ b := by
  have h : (!PySem.W.dataLt (.int (b : Nat)) (.int (a : Nat))) = true := h
  rw [Bool.not_eq_true', PySem.W.dataLt_int, decide_eq_false_iff_not] at h
  omega
/-- the days, sorted, beside the rows -/
theorem ok_zip {dr : List Loss} {ds : List Nat} {es : List Deed} (h : okLs dr) (hl : ds.length = es.length) (h1 : ∀ d ∈ ds, d ≤ 1200) (h2 : ds.Pairwise (· ≤ ·)) (h3 : ∀ e ∈ es, e.Good) : okB dr (ds.zip es) := by
  refine ⟨h, fun p hp => ?_, ?_⟩
  · obtain ⟨a, b⟩ := p
    have := List.of_mem_zip hp
    exact ⟨h1 _ this.1, h3 _ this.2⟩
  · have e : (ds.zip es).map (·.1) = ds := by rw [List.map_fst_zip (Nat.le_of_eq hl)]
    rw [← e] at h2
    exact List.pairwise_map.mp h2
theorem days_ints : ∀ {acc : List V}, (∀ (i : Nat) (y : V), acc[i]? = some y → ∃ d : Nat, d ≤ 1200 ∧ y = .int (d : Nat)) → ∃ ds : List Nat, acc = iV ds ∧ ∀ d ∈ ds, d ≤ 1200
  | [], _ => ⟨[], rfl, fun d hd => by cases hd⟩
  | y :: acc, h => by
    obtain ⟨d, h1, h2⟩ := h 0 y rfl
    obtain ⟨ds, e, h3⟩ := days_ints (acc := acc) fun i z hz => h (i + 1) z (by simpa using hz)
    refine ⟨d :: ds, by rw [h2, e]; rfl, fun d' hd' => ?_⟩
    rcases List.mem_cons.mp hd' with rfl | hd'
    · exact h1
    · exact h3 d' hd'
/-- the rows' lists -/
def RowsAt (a D : Addr) (H : Hp) (es : List Deed) (acc : List V) : Prop := acc.length = es.length ∧ ∀ (j : Nat) (e : Deed), es[j]? = some e → ∃ q, acc[j]? = some (.ref q) ∧ H q = some (.lst (e.row.map V.str)) ∧ q ≠ a ∧ q ≠ D
section
variable {K : PySem.W.Frag} {H H' : Hp} {a D : Addr} {es : List Deed} {acc : List V}
theorem RowsAt.gd (h : RowsAt a D H es acc) (g : GD K a H H') : RowsAt a D H' es acc := ⟨h.1, fun j e he => by
  obtain ⟨q, e1, e2, e3, e4⟩ := h.2 j e he
  exact ⟨q, e1, g.lst e2 e3, e3, e4⟩⟩
theorem RowsAt.gr (h : RowsAt a D H es acc) (g : Gr K H H') : RowsAt a D H' es acc := h.gd (.of g)
theorem RowsAt.put (h : RowsAt a D H es acc) (o : HO) : RowsAt a D (upd H D o) es acc := ⟨h.1, fun j e he => by
  obtain ⟨q, e1, e2, e3, e4⟩ := h.2 j e he
  exact ⟨q, e1, by rw [upd_ne e4]; exact e2, e3, e4⟩⟩
theorem RowsAt.snoc (h : RowsAt a D H es acc) {q : Addr} {e : Deed} (e2 : H q = some (.lst (e.row.map V.str))) (e3 : q ≠ a) (e4 : q ≠ D) : RowsAt a D H (es ++ [e]) (acc ++ [.ref q]) := by
  refine ⟨by rw [List.length_append, List.length_append, h.1]; rfl, fun j e' he => ?_⟩
  by_cases hj : j < es.length
  · rw [List.getElem?_append_left hj] at he
    obtain ⟨q', e1, r⟩ := h.2 j e' he
    exact ⟨q', by rw [List.getElem?_append_left (by rw [h.1]; exact hj)]; exact e1, r⟩
  · have hj2 := (List.getElem?_eq_some_iff.mp he).1
    rw [List.length_append, List.length_singleton] at hj2
    obtain rfl : j = es.length := by omega
    rw [List.getElem?_append_right (Nat.le_refl _), Nat.sub_self] at he
    cases he
    exact ⟨q, by rw [← h.1, List.getElem?_append_right (Nat.le_refl _), Nat.sub_self]; rfl, e2, e3, e4⟩
end
/-- what was found: the days and the words of the deeds read -/
def FndAt (D : Addr) (H : Hp) (l : List (Nat × Deed)) (acc : List V) : Prop := acc.length = l.length ∧ ∀ (j : Nat) (p : Nat × Deed), l[j]? = some p → ∃ T q, acc[j]? = some (.ref T) ∧ H T = some (.tup [.int (p.1 : Nat), .ref q]) ∧ H q = some (.lst (p.2.row.map V.str)) ∧ q ≠ D
section
variable {K : PySem.W.Frag} {H H' : Hp} {D : Addr} {l : List (Nat × Deed)} {acc : List V}
theorem FndAt.gr (h : FndAt D H l acc) (g : Gr K H H') : FndAt D H' l acc := ⟨h.1, fun j e he => by
  obtain ⟨T, q, e1, e2, e3, e4⟩ := h.2 j e he
  exact ⟨T, q, e1, g.keep _ _ e2 (fun ps z => by cases z), g.lst e3, e4⟩⟩
theorem FndAt.put (h : FndAt D H l acc) {xs ys : List V} (hD : H D = some (.lst xs)) : FndAt D (upd H D (.lst ys)) l acc := ⟨h.1, fun j e he => by
  obtain ⟨T, q, e1, e2, e3, e4⟩ := h.2 j e he
  exact ⟨T, q, e1, by rw [upd_ne (fun z => by rw [z, hD] at e2; cases e2)]; exact e2, by rw [upd_ne e4]; exact e3, e4⟩⟩
theorem FndAt.snoc (h : FndAt D H l acc) {T q : Addr} {p : Nat × Deed} (e2 : H T = some (.tup [.int (p.1 : Nat), .ref q])) (e3 : H q = some (.lst (p.2.row.map V.str))) (e4 : q ≠ D) : FndAt D H (l ++ [p]) (acc ++ [.ref T]) := by
  refine ⟨by rw [List.length_append, List.length_append, h.1]; rfl, fun j e' he => ?_⟩
  by_cases hj : j < l.length
  · rw [List.getElem?_append_left hj] at he
    obtain ⟨T', q', e1, r⟩ := h.2 j e' he
    exact ⟨T', q', by rw [List.getElem?_append_left (by rw [h.1]; exact hj)]; exact e1, r⟩
  · have hj2 := (List.getElem?_eq_some_iff.mp he).1
    rw [List.length_append, List.length_singleton] at hj2
    obtain rfl : j = l.length := by omega
    rw [List.getElem?_append_right (Nat.le_refl _), Nat.sub_self] at he
    cases he
    exact ⟨T, q, by rw [← h.1, List.getElem?_append_right (Nat.le_refl _), Nat.sub_self]; rfl, e2, e3, e4⟩
/-- a row's list is no list of pairs -/
theorem fnd_ne {q : Addr} {e : Deed} (h : FndAt D H l acc) (hq : H' q = some (.lst (e.row.map V.str))) (hD : H' D = some (.lst acc)) : q ≠ D := fun z => by
  rw [z, hD] at hq
  have e1 : acc = e.row.map V.str := HO.lst.inj (Option.some.inj hq)
  cases hr : e.row with
  | nil => exact row_ne e hr
  | cons w r =>
    rw [hr] at e1
    have hl : 0 < l.length := by rw [← h.1, e1]; exact Nat.succ_pos _
    obtain ⟨T, _, e2, _⟩ := h.2 0 l[0] (List.getElem?_eq_getElem hl)
    rw [e1] at e2
    cases e2
end
theorem kept_set_len : ∀ (l : List (Nat × Deed)) (i : Nat), i < l.length → (kept ((l.map some).set i none)).length + 1 = l.length
  | [], i, h => absurd h (Nat.not_lt_zero _)
  | p :: l, 0, _ => by
    have := congrArg List.length (kept_some l)
    show (kept (none :: l.map some)).length + 1 = l.length + 1
    exact congrArg (· + 1) this
  | p :: l, i + 1, h => by
    have := kept_set_len l i (Nat.lt_of_succ_lt_succ h)
    show (kept (some p :: (l.map some).set i none)).length + 1 = l.length + 1
    show (kept ((l.map some).set i none)).length + 1 + 1 = l.length + 1
    rw [this]
theorem join_bl (ws : List Str) : Txt.join (.ofString " ") ws = jn 32 ws := congrArg (fun s => Txt.join s ws) bl_eq
theorem join_nl (ws : List Str) : Txt.join (.ofString "\n") ws = jn 10 ws := congrArg (fun s => Txt.join s ws) nl_eq
theorem wipe_off {i : Nat} {o : Option V} : ∀ {vs : List Nat} {σ : L2.St}, i ∉ vs → wipe (σ.set i o) vs = (wipe σ vs).set i o
  | [], _, _ => rfl
  | k :: vs, σ, h => by
    simp only [List.mem_cons, not_or] at h
    show (wipe (σ.set i o) vs).set k none = ((wipe σ vs).set k none).set i o
    rw [wipe_off h.2, List.set_comm _ _ h.1]
theorem wipe_set {σ : L2.St} {i : Nat} {o : Option V} : ∀ {vs : List Nat}, i ∈ vs → wipe (σ.set i o) vs = wipe σ vs
  | [], h => absurd h (by simp)
  | j :: vs, h => by
    show (wipe (σ.set i o) vs).set j none = (wipe σ vs).set j none
    by_cases hv : i ∈ vs
    · rw [wipe_set hv]
    · have e : i = j := by simpa [hv] using h
      subst e
      rw [wipe_off hv, List.set_set]
theorem wipe_idem : ∀ {vs : List Nat} {σ : L2.St}, wipe (wipe σ vs) vs = wipe σ vs
  | [], _ => rfl
  | v :: vs, σ => by
    show (wipe ((wipe σ vs).set v none) vs).set v none = (wipe σ vs).set v none
    by_cases hv : v ∈ vs
    · rw [wipe_set hv, wipe_idem]
    · rw [wipe_off hv, wipe_idem, List.set_set]
theorem wipe1 {σ : L2.St} {vs : List Nat} {i : Nat} {x : Option V} (h : i ∈ vs) : wipe ((wipe σ vs).set i x) vs = wipe σ vs := by rw [wipe_set h, wipe_idem]
theorem wipe2 {σ : L2.St} {vs : List Nat} {i j : Nat} {x y : Option V} (h : i ∈ vs) (g : j ∈ vs) : wipe (((wipe σ vs).set i x).set j y) vs = wipe σ vs := by rw [wipe_set g, wipe1 h]
theorem wipe3 {σ : L2.St} {vs : List Nat} {i j k : Nat} {x y z : Option V} (h : i ∈ vs) (g : j ∈ vs) (f : k ∈ vs) : wipe ((((wipe σ vs).set i x).set j y).set k z) vs = wipe σ vs := by rw [wipe_set f, wipe2 h g]
theorem lk3a {σ : L2.St} {vs : List Nat} {i j k : Nat} {x y z : Option V} (h : i < σ.length) (h1 : i ≠ j) (h2 : i ≠ k) : ((((wipe σ vs).set i x).set j y).set k z)[i]? = some x := by
  rw [List.getElem?_set_ne (Ne.symm h2), List.getElem?_set_ne (Ne.symm h1), List.getElem?_set_self (by rw [wipe_length]; exact h)]
theorem lk3b {σ : L2.St} {vs : List Nat} {i j k : Nat} {x y z : Option V} (h : j < σ.length) (h2 : j ≠ k) : ((((wipe σ vs).set i x).set j y).set k z)[j]? = some y := by
  rw [List.getElem?_set_ne (Ne.symm h2), List.getElem?_set_self (by rw [List.length_set, wipe_length]; exact h)]
theorem lk3c {σ : L2.St} {vs : List Nat} {i j k : Nat} {x y z : Option V} (h : k < σ.length) : ((((wipe σ vs).set i x).set j y).set k z)[k]? = some z := by
  rw [List.getElem?_set_self (by rw [List.length_set, List.length_set, wipe_length]; exact h)]
theorem lk2a {σ : L2.St} {vs : List Nat} {i j : Nat} {x y : Option V} (h : i < σ.length) (h1 : i ≠ j) : (((wipe σ vs).set i x).set j y)[i]? = some x := by
  rw [List.getElem?_set_ne (Ne.symm h1), List.getElem?_set_self (by rw [wipe_length]; exact h)]
theorem lk2b {σ : L2.St} {vs : List Nat} {i j : Nat} {x y : Option V} (h : j < σ.length) : (((wipe σ vs).set i x).set j y)[j]? = some y := by
  rw [List.getElem?_set_self (by rw [List.length_set, wipe_length]; exact h)]
end CK
set_option maxHeartbeats 0
namespace CK
open PySem PySem.Spec PyProof.Rows L2
section
variable {P : Program} {w : World} {K : PySem.W.Frag} {mg : Str → Option Value} {base : Heap}
theorem join_lines (dr : List Loss) (l : List (Nat × Deed)) : Txt.join (.ofString "\n") (linesT dr l) = bookT dr l := join_nl _
theorem join_head (dr : List Loss) : Txt.join (.ofString " ") (.ofString "drying" :: dr.map lossT) = headT dr := join_bl _
theorem gname_at {i : Nat} {v : V} {σ τ : L2.St} {H : Hp} {Q : L2.St → Hp → Prop} (e : σ.set i (some v) = τ) (h : Q τ H) : gName i v σ H Q := by
  rw [← e] at h
  exact h
theorem ne_eq {u v : V} (h : u = v) : V.bl (!decide (u = v)) = V.bl false := by rw [decide_eq_true h]; rfl
theorem Bk.gd {H H' : Hp} {a b L : Addr} {n : Nat} {dr : List Loss} {its : List Itm} (B : Bk K H b L dr its) (d : Dk H a n) (h : L ≠ a) (g : GD K a H H') : Bk K H' b L dr its := B.grE g fun c hc => by
  rw [hc]
  obtain ⟨_, _, _, e, _⟩ := d.ex
  exact ⟨⟨_, e⟩, Ne.symm h⟩
theorem Bk.lst {H : Hp} {b L : Addr} {dr : List Loss} {its : List Itm} (B : Bk K H b L dr its) : ∃ xs, H L = some (.lst xs) := by
  obtain ⟨_, _, xs, _, e, _⟩ := B.ex
  exact ⟨xs, e⟩
theorem great_case {gb : Bool} {σ : L2.St} {H : Hp} {a : Addr} {n : Nat} {Qb : Bool → Hp → Prop} (h2 : σ[2]? = some (some (.ref a))) (d : Dk H a n) (hn : n + 100 < cap) (hT : LamX.Tabs (TT K) H) (tail : ∀ H', GD K a H H' → Dk H' a (n + 2) → Qb false H') :
    if gb = true then (tNot (tB (tCall (spMany K) [] E0 (tCons (tVar 2) tNil)))) σ H Qb else Qb false H := by
  refine iteV (fun _ => ?_) (fun _ => tail H (.refl _) (d.mono (by omega)))
  exact ⟨_, h2, _, rfl, a, n, rfl, d, hn, hT, fun H' g d => ⟨true, rfl, tail H' g d⟩⟩
/-- the law -/
def spLaw (K : PySem.W.Frag) : Sp := sp1 fun x H Q _ => ∃ (a : Addr) (is : List Int), x = .ref a ∧ SqL K H a (is.map V.int) ∧ is.length ≤ 63 ∧ LamX.Tabs (TT K) H ∧ ∀ H', Q (.bl true) H'
theorem sc_law : FnScope ["_law_script", "_law_k", "_law_deck_here", "_law_great_here", "_law_many", "_law_names_here", "_law_marks_here", "_law_shares", "_law_days", "_law_rows", "_law_head", "_law_lines", "_law_written", "_law_first", "_law_second", "_law_deeds", "_law_found", "_law_told_here", "_law_day_here", "_law_deed", "_law_other", "_law_one", "_law_turn", "_law_ware", "_law_top", "_law_bottom", "_law_words_here", "_law_number"] ["_law_script"] (defScope (top 154)) := ⟨rfl, rfl, rfl, by decide +kernel, rfl, by decide +kernel, by decide +kernel⟩
theorem ok_law (T : Tp w K mg base) {fd : FuncData} (F : FunD K "law" "law" (defArgs (top 154)) (defBody (top 154)) (defScope (top 154)) [] [] (He.ga K "law") fd) : FnOk P w K mg base CX0 12 (He.ga K "law") fd ["_law_script"] (spLaw K) := by
  obtain ⟨fB, FB, _, ⟨ds0, dv0, bdB⟩, _⟩ := ok_Book_u_init_u (P := P) T
  refine F.ok sc_law (len1 rfl) (fun cdv A outer s H vs Q E hr h => ?_)
  refine ⟨_, PSs.nox (pss_cons (ps_for PassesOwn.never rfl (pi_range1 (by rfl) (B_range T) (pa_cons (pe_callB (call_max2 rfl) (by rfl) (B_max T) (by decide +kernel) (pa_cons pe_int (pa_cons (pe_callB (call_min2 rfl) (by rfl) (B_min T) (by decide +kernel) (pa_cons (pe_callB call_len_seq (by rfl) (B_len T) (by decide +kernel) (pa_cons (pv 0) pa_nil)) (pa_cons pe_int pa_nil))) pa_nil))) pa_nil)) (pg_name (i := 1) sc_law.nd rfl (Or.inl rfl))
    (pss_cons (ps_set (i := 2) sc_law.nd rfl (Or.inr rfl) (pe_f (ok__law_deck T) hr (pa_cons (pe_f (ok__law_cell_at T) hr (pa_cons (pv 0) (pa_cons (pv 1) pa_nil))) pa_nil)))
  (pss_cons (ps_set (i := 3) sc_law.nd rfl (Or.inl rfl) (pe_cmpR op_eq (pe_f (ok__law_draw T) hr (pa_cons (pv 2) (pa_cons pe_int pa_nil))) pe_int (nomark _)))
  (pss_cons (ps_set (i := 4) sc_law.nd rfl (Or.inl rfl) (pe_op op_add pe_int (pe_f (ok__law_draw T) hr (pa_cons (pv 2) (pa_cons pe_int pa_nil)))))
  (pss_cons (ps_set (i := 5) sc_law.nd rfl (Or.inr rfl) (pe_f (ok__law_names T) hr (pa_cons (pv 2) (pa_cons pe_int pa_nil))))
  (pss_cons (ps_set (i := 6) sc_law.nd rfl (Or.inr rfl) (pe_f (ok__law_marks T) hr (pa_cons (pv 2) (pa_cons pe_int pa_nil))))
  (pss_cons (ps_set (i := 7) sc_law.nd rfl (Or.inl rfl) (pe_f (ok__law_drying T) hr (pa_cons (pv 2) (pa_cons (pv 5) pa_nil))))
  (pss_cons (ps_set (i := 8) sc_law.nd rfl (Or.inl rfl) (pe_callB (cr_sortD (hr.mono (by decide))) (by rfl) (B_sorted T) (by decide +kernel) (pa_cons (pe_lc (own := [("_law_turn", 22)]) rfl sc_law.nd (pi_range1 (by rfl) (B_range T) (pa_cons (pv 4) pa_nil)) (blkOk_by (own := [("_law_turn", 22)]) (N := ["_law_script", "_law_k", "_law_deck_here", "_law_great_here", "_law_many", "_law_names_here", "_law_marks_here", "_law_shares", "_law_days", "_law_rows", "_law_head", "_law_lines", "_law_written", "_law_first", "_law_second", "_law_deeds", "_law_found", "_law_told_here", "_law_day_here", "_law_deed", "_law_other", "_law_one", "_law_turn", "_law_ware", "_law_top", "_law_bottom", "_law_words_here", "_law_number"]) (sc := defScope (top 154)) (by decide +kernel)) (fun _ _ _ _ _ => (pg_name (i := 22) sc_law.nd rfl (Or.inl rfl))) (fun _ _ _ _ _ => pts_nil) (fun _ _ _ _ _ => (pe_f (ok__law_day T) hr (pa_cons (pv 2) pa_nil)))) pa_nil)))
  (pss_cons (ps_setLc (i := 9) (own := [("_law_turn", 22)]) rfl sc_law.nd rfl rfl (sw_true rfl rfl rfl (by decide +kernel)) (pi_range1 (by rfl) (B_range T) (pa_cons (pv 4) pa_nil)) (blkOk_by (own := [("_law_turn", 22)]) (N := ["_law_script", "_law_k", "_law_deck_here", "_law_great_here", "_law_many", "_law_names_here", "_law_marks_here", "_law_shares", "_law_days", "_law_rows", "_law_head", "_law_lines", "_law_written", "_law_first", "_law_second", "_law_deeds", "_law_found", "_law_told_here", "_law_day_here", "_law_deed", "_law_other", "_law_one", "_law_turn", "_law_ware", "_law_top", "_law_bottom", "_law_words_here", "_law_number"]) (sc := defScope (top 154)) (by decide +kernel)) (fun _ _ _ _ _ => (pg_name (i := 22) sc_law.nd rfl (Or.inl rfl))) (fun _ _ _ _ _ => pts_nil) (fun _ _ _ _ _ => (pe_f (ok__law_row T) hr (pa_cons (pv 2) (pa_cons (pv 5) (pa_cons (pv 6) pa_nil))))))
  (pss_cons (ps_set (i := 10) sc_law.nd rfl (Or.inl rfl) (pe_join pe_str (pe_op op_cat (pe_lst (pa_cons pe_str pa_nil)) (pe_lc (own := [("_law_ware", 23), ("_law_top", 24), ("_law_bottom", 25)]) rfl sc_law.nd (pi_tup (pv 7)) (blkOk_by (own := [("_law_ware", 23), ("_law_top", 24), ("_law_bottom", 25)]) (N := ["_law_script", "_law_k", "_law_deck_here", "_law_great_here", "_law_many", "_law_names_here", "_law_marks_here", "_law_shares", "_law_days", "_law_rows", "_law_head", "_law_lines", "_law_written", "_law_first", "_law_second", "_law_deeds", "_law_found", "_law_told_here", "_law_day_here", "_law_deed", "_law_other", "_law_one", "_law_turn", "_law_ware", "_law_top", "_law_bottom", "_law_words_here", "_law_number"]) (sc := defScope (top 154)) (by decide +kernel)) (fun _ _ _ _ _ => (show PG _ _ (gTup K 3 _) from pg_tup rfl (pgs_cons (pg_name (i := 23) sc_law.nd rfl (Or.inl rfl)) (pgs_cons (pg_name (i := 24) sc_law.nd rfl (Or.inl rfl)) (pgs_cons (pg_name (i := 25) sc_law.nd rfl (Or.inl rfl)) pgs_nil))))) (fun _ _ _ _ _ => pts_nil) (fun _ _ _ _ _ => (pe_op op_add_str (pe_op op_add_str (pe_op op_add_str (pe_op op_add_str (pv 23) pe_str) (pe_callTy call_str_int (by rfl) (B_str T) (by decide +kernel) (pa_cons (pv 24) pa_nil))) pe_str) (pe_callTy call_str_int (by rfl) (B_str T) (by decide +kernel) (pa_cons (pv 25) pa_nil))))))))
  (pss_cons (ps_setLc (i := 11) (own := [("_law_day_here", 18), ("_law_words_here", 26)]) rfl sc_law.nd rfl rfl (sw_true rfl rfl rfl (by decide +kernel)) (RZ.pi_zipA (by rfl) (B_zip T) (pa_cons (pv 8) (pa_cons (pv 9) pa_nil))) (blkOk_by (own := [("_law_day_here", 18), ("_law_words_here", 26)]) (N := ["_law_script", "_law_k", "_law_deck_here", "_law_great_here", "_law_many", "_law_names_here", "_law_marks_here", "_law_shares", "_law_days", "_law_rows", "_law_head", "_law_lines", "_law_written", "_law_first", "_law_second", "_law_deeds", "_law_found", "_law_told_here", "_law_day_here", "_law_deed", "_law_other", "_law_one", "_law_turn", "_law_ware", "_law_top", "_law_bottom", "_law_words_here", "_law_number"]) (sc := defScope (top 154)) (by decide +kernel)) (fun _ _ _ _ _ => (show PG _ _ (gTup K 2 _) from pg_tup rfl (pgs_cons (pg_name (i := 18) sc_law.nd rfl (Or.inl rfl)) (pgs_cons (pg_name (i := 26) sc_law.nd rfl (Or.inl rfl)) pgs_nil)))) (fun _ _ _ _ _ => pts_nil) (fun _ _ _ _ _ => (pe_op op_add_str (pe_op op_add_str (pe_callTy call_str_int (by rfl) (B_str T) (by decide +kernel) (pa_cons (pv 18) pa_nil)) pe_str) (show PE _ _ (tM1 (rJoin K) _ _) from pe_join pe_str (pv 26)))))
  (pss_cons (ps_set (i := 12) sc_law.nd rfl (Or.inl rfl) (pe_join pe_str (pe_op op_cat (pe_lst (pa_cons (pv 10) pa_nil)) (pv 11))))
  (pss_cons (ps_asg (pe_tup (pa_cons (pe_f (rb_never T) hr (pa_cons (pv 12) pa_nil)) (pa_cons (pe_f (rb_never T) hr (pa_cons (pv 12) pa_nil)) pa_nil))) (show PG _ _ (gTup K 2 _) from pg_tup rfl (pgs_cons (pg_name (i := 13) sc_law.nd rfl (Or.inr rfl)) (pgs_cons (pg_name (i := 14) sc_law.nd rfl (Or.inl rfl)) pgs_nil))))
  (pss_cons (ps_setLc (i := 15) (own := [("_law_number", 27)]) rfl sc_law.nd rfl rfl (sw_true rfl rfl rfl (by decide +kernel)) (pi_range1 (by rfl) (B_range T) (pa_cons (pe_callB (cr_lenB T (hr.mono (by decide))) (by rfl) (B_len T) (by decide +kernel) (pa_cons (pv 13) pa_nil)) pa_nil)) (blkOk_by (own := [("_law_number", 27)]) (N := ["_law_script", "_law_k", "_law_deck_here", "_law_great_here", "_law_many", "_law_names_here", "_law_marks_here", "_law_shares", "_law_days", "_law_rows", "_law_head", "_law_lines", "_law_written", "_law_first", "_law_second", "_law_deeds", "_law_found", "_law_told_here", "_law_day_here", "_law_deed", "_law_other", "_law_one", "_law_turn", "_law_ware", "_law_top", "_law_bottom", "_law_words_here", "_law_number"]) (sc := defScope (top 154)) (by decide +kernel)) (fun _ _ _ _ _ => (pg_name (i := 27) sc_law.nd rfl (Or.inl rfl))) (fun _ _ _ _ _ => pts_nil) (fun _ _ _ _ _ => (C8.pe_mt (met_deed T) hr (by decide) (pv 13) (pa_cons (pv 27) pa_nil))))
  (pss_cons (ps_setLc (i := 16) (own := [("_law_day_here", 18), ("_law_deed", 19)]) rfl sc_law.nd rfl rfl (sw_true rfl rfl rfl (by decide +kernel)) (pi_list (pv 15)) (blkOk_by (own := [("_law_day_here", 18), ("_law_deed", 19)]) (N := ["_law_script", "_law_k", "_law_deck_here", "_law_great_here", "_law_many", "_law_names_here", "_law_marks_here", "_law_shares", "_law_days", "_law_rows", "_law_head", "_law_lines", "_law_written", "_law_first", "_law_second", "_law_deeds", "_law_found", "_law_told_here", "_law_day_here", "_law_deed", "_law_other", "_law_one", "_law_turn", "_law_ware", "_law_top", "_law_bottom", "_law_words_here", "_law_number"]) (sc := defScope (top 154)) (by decide +kernel)) (fun _ _ _ _ _ => (show PG _ _ (gTup K 2 _) from pg_tup rfl (pgs_cons (pg_name (i := 18) sc_law.nd rfl (Or.inl rfl)) (pgs_cons (pg_name (i := 19) sc_law.nd rfl (Or.inl rfl)) pgs_nil)))) (fun _ _ _ _ _ => pts_nil) (fun _ _ _ _ _ => (pe_tup (pa_cons (pv 18) (pa_cons (pe_f (ok__law_words T) hr (pa_cons (pv 19) pa_nil)) pa_nil)))))
  (pss_cons (ps_if (PW.pt (pw_or (pt_cmpR (op_neD (by have := hr.units; exact this)) (pv 16) (pe_listZip (by rfl) (by rfl) (B_list T) (by rfl) (B_zip T) (pa_cons (pv 8) (pa_cons (pv 9) pa_nil))) (nomark _)) (pw_or1 (pt_cmpR op_ne (pe_f (ok_show_book T) hr (pa_cons (pv 13) pa_nil)) (pv 12) (nomark _))))) (pss_one (ps_ret pe_bl)) pss_nil)
  (pss_cons (ps_set (i := 17) sc_law.nd rfl (Or.inl rfl) (pe_make (M_Book T) FB (hr.mono (by decide)) (by rfl) (G_Book T) bdB dv0 pass0 (pa_cons (pv 7) pa_nil)))
  (pss_cons (ps_for PassesOwn.never rfl (pi_list (pv 15)) (show PG _ _ (gTup K 2 _) from pg_tup rfl (pgs_cons (pg_name (i := 18) sc_law.nd rfl (Or.inl rfl)) (pgs_cons (pg_name (i := 19) sc_law.nd rfl (Or.inl rfl)) pgs_nil)))
    (pss_one (ps_expr (C8.pe_mt (met_tell T) hr (by decide) (pv 17) (pa_cons (pv 18) (pa_cons (pv 19) pa_nil))))))
  (pss_cons (ps_set (i := 20) sc_law.nd rfl (Or.inl rfl) (pe_f (ok__law_any_order T) hr (pa_cons (pv 2) (pa_cons (pv 7) (pa_cons (pv 15) pa_nil)))))
  (pss_cons (ps_for PassesOwn.never rfl (pi_tup (pe_tup (pa_cons (pv 17) (pa_cons (pv 20) (pa_cons (pv 14) (pa_cons (pe_f (rb_never T) hr (pa_cons (pe_f (ok_show_book T) hr (pa_cons (pv 17) pa_nil)) pa_nil)) pa_nil)))))) (pg_name (i := 21) sc_law.nd rfl (Or.inl rfl))
    (pss_one (ps_if (PW.pt (pw_or (pt_cmpR (op_neB T (hr.mono (by decide))) (pv 21) (pv 13) (nomark _)) (pw_or (pt_cmpR op_ne (pe_f (ok_show_book T) hr (pa_cons (pv 21) pa_nil)) (pv 12) (nomark _)) (pw_or1 (pt_cmpR op_ne (pe_callB (cr_lenB T (hr.mono (by decide))) (by rfl) (B_len T) (by decide +kernel) (pa_cons (pv 21) pa_nil)) (pv 4) (nomark _)))))) (pss_one (ps_ret pe_bl)) pss_nil)))
  (pss_cons (ps_if (PW.pt (pw_or (pt_not (pt_val (pe_f (ok__law_spoilt_right T) hr (pa_cons (pv 2) (pa_cons (pv 12) pa_nil))))) (pw_or1 (PW.pt (pw_and (pt_val (pv 3)) (pw_and1 (pt_not (pt_val (pe_f (ok__law_many_rows_right T) hr (pa_cons (pv 2) pa_nil)))))))))) (pss_one (ps_ret pe_bl)) pss_nil)
  (pss_cons (ps_expr (C8.pe_mt (met_strike T) hr (by decide) (pv 13) (pa_cons (pe_f (ok__law_draw T) hr (pa_cons (pv 2) (pa_cons (pv 4) pa_nil))) pa_nil)))
  (pss_one (ps_if (PW.pt (pw_or (pt_cmpR (op_eqB T (hr.mono (by decide))) (pv 13) (pv 14) (nomark _)) (pw_or (pt_cmpR op_ne (pe_f (ok_show_book T) hr (pa_cons (pv 14) pa_nil)) (pv 12) (nomark _)) (pw_or (pt_cmpR (op_neB T (hr.mono (by decide))) (pv 14) (pv 17) (nomark _)) (pw_or1 (pt_cmpR op_ne (pe_callB (cr_lenB T (hr.mono (by decide))) (by rfl) (B_len T) (by decide +kernel) (pa_cons (pv 13) pa_nil)) (pe_op op_sub (pv 4) pe_int) (nomark _))))))) (pss_one (ps_ret pe_bl)) pss_nil))))))))))))))))))))))))
  (pss_one (ps_ret pe_bl))), ?_⟩
  obtain ⟨v, rfl, a0, is, rfl, hs0, hl0, hT0, q⟩ := h
  obtain ⟨nn, hnn, enn⟩ : ∃ nn : Nat, nn ≤ 2 ∧ (if (if (2 : Int) < ((is.map V.int).length : Nat) then (2 : Int) else ((is.map V.int).length : Nat)) > 1 then (if (2 : Int) < ((is.map V.int).length : Nat) then (2 : Int) else ((is.map V.int).length : Nat)) else 1) = (nn : Nat) := by
    refine ⟨(if (if (2 : Int) < ((is.map V.int).length : Nat) then (2 : Int) else ((is.map V.int).length : Nat)) > 1 then (if (2 : Int) < ((is.map V.int).length : Nat) then (2 : Int) else ((is.map V.int).length : Nat)) else 1).toNat, ?_, ?_⟩ <;> split <;> (try split) <;> omega
  refine ⟨_, rfl, a0, _, rfl, .inl hs0, _, _, rfl, _, _, rfl, (nn : Nat), congrArg (fun z => [V.int z]) enn, by omega, by omega, for_it (walk_range (lo := 0) (n := nn)) (fun i σ H' => Gr K H H' ∧ ∃ o1 o2 o3 o4 o5 o6 o7 o8 o9 o10 o11 o12 o13 o14 o15 o16 o17 o18 o19 o20 o21 o22 o23 o24 o25 o26 o27, σ = [some (.ref a0), o1, o2, o3, o4, o5, o6, o7, o8, o9, o10, o11, o12, o13, o14, o15, o16, o17, o18, o19, o20, o21, o22, o23, o24, o25, o26, o27]) ⟨.refl _, _, _, _, _, _, _, _, _, _, _, _, _, _, _, _, _, _, _, _, _, _, _, _, _, _, _, _, rfl⟩ (fun _ _ _ _ _ => trivial) ?_ (fun σ H' _ => q H')⟩
  rintro k x σ _ H5 hk ⟨g5, o1, o2, o3, o4, o5, o6, o7, o8, o9, o10, o11, o12, o13, o14, o15, o16, o17, o18, o19, o20, o21, o22, o23, o24, o25, o26, o27, rfl⟩ ⟨rfl, e5⟩
  subst e5
  have hcp : cap = 1000000 := rfl
  have hT5 := g5.tabs hT0
  have s5 := g5.sqL hs0
  refine ⟨_, rfl, _, rfl, _, _, rfl, a0, is, k, rfl, s5, congrArg V.int (by omega), by omega, fun c0 => ⟨_, rfl, c0, rfl, fun a H6 g6 nwa d0 => ?_⟩⟩
  refine ⟨_, rfl, _, _, rfl, a, _, 8, rfl, d0, by omega, rfl, by decide, by decide, fun i1 H7 hi1 g7 d1 => ⟨rfl, _, rfl, _, _, rfl, a, _, 31, rfl, d1, by omega, rfl, by decide, by decide, fun i2 H8 hi2 g8 d2 => ⟨_, _, rfl, rfl, ?_⟩⟩⟩
  obtain ⟨m, hm1, hm2, em⟩ : ∃ m : Nat, 30 ≤ m ∧ m ≤ 60 ∧ (30 : Int) + (i2 : Nat) = (m : Nat) := ⟨30 + i2, by omega, by omega, by omega⟩
  show gName 4 (V.int (30 + ((i2 : Nat) : Int))) _ _ _
  rw [em]
  clear em
  refine ⟨_, rfl, _, _, rfl, a, _, rfl, d2, by omega, rfl, fun qn ns H9 hqn okn g9 d9 nwn nea => ⟨_, rfl, _, _, rfl, a, _, rfl, d9, by omega, rfl, fun qm ms H10 hqm okm g10 d10 nwm nem => ⟨_, rfl, _, rfl, _, _, rfl, a, qn, _, ns, rfl, d10, by omega, rfl, g10.lst hqn nea, okn, fun dr vd H11 okdr hvd g11 d11 => ?_⟩⟩⟩
  have d11 : Dk H11 a 300 := d11.mono (by omega)
  have g611 : GD K a H6 H11 := ((((g7.trans g8).trans g9).trans g10).trans g11)
  have qn11 := (g10.trans g11).lst hqn nea
  have qm11 := g11.lst hqm nem
  refine ⟨_, rfl, m, rfl, by omega, by omega, fun D1 hD1 => ?_⟩
  have hD1a := d11.new hD1
  refine lc_E (K := K) (ex := fun c => c = a) (walk_range (lo := 0) (n := m)) (fun i H' => Dk H' a (300 + 2 * i)) (fun i y _ => ∃ d : Nat, d ≤ 1200 ∧ y = .int (d : Nat)) hD1 (small (by omega)) (fun b hb => by rw [hb]; obtain ⟨_, _, _, e, _⟩ := d11.ex; rw [e]; exact fun z => by cases z) d11 (fun i H' o d => d.put hD1a) (fun _ _ _ _ _ => trivial) (fun _ _ _ _ _ h => h) (fun _ _ _ _ _ _ h => h) ?_ ?_
  · rintro i x H12 _ Q' hi g12 s12 ⟨rfl, rfl⟩ k'
    exact ⟨rfl, _, rfl, _, rfl, a, _, rfl, s12, by omega, fun d H13 hd g13 d13 => k' _ _ g13 (d13.mono (by omega)) ⟨d, hd, rfl⟩⟩
  intro H12 acc1 g12 s12 hD12 hl12 hR1
  obtain ⟨ds1, rfl, hds1⟩ := days_ints hR1
  rw [List.length_map] at hl12
  refine ⟨D1, Nat, fun n : Nat => V.int (n : Nat), fun n : Nat => PyData.int (n : Nat), ds1, rfl, SqL.of hD12, fun b _ => .int _, fun b b' => by simp [PySem.W.alike], PySem.W.Sortable.others fun b => ⟨by simp, by simp⟩, fun b _ => by simp [PyData.depth], fun sd hsd => ?_⟩
  have hpm := List.mergeSort_perm ds1 (PySem.W.dataLe false fun n : Nat => PyData.int (n : Nat))
  have hpw := (sortD_pw (fun n : Nat => PyData.int (n : Nat)) ds1).imp fun {a b} h => nat_le h
  obtain ⟨ds, hds⟩ : ∃ ds, ds = ds1.mergeSort (PySem.W.dataLe false fun n : Nat => PyData.int (n : Nat)) := ⟨_, rfl⟩
  rw [← hds] at hpm hpw ⊢
  have hdl : ds.length = m := by rw [hpm.length_eq]; exact hl12
  have hd12 : ∀ d ∈ ds, d ≤ 1200 := fun d hd => hds1 d (hpm.mem_iff.mp hd)
  have d13 : Dk (upd H12 sd (.lst (iV ds))) a 500 := (s12.mono (by omega)).add hsd
  have g13 : GD K a H11 (upd H12 sd (.lst (iV ds))) := g12.addN hsd
  have hsda := s12.new hsd
  have r13 : (upd H12 sd (.lst (iV ds))) sd = some (.lst (iV ds)) := upd_same
  have qn13 := g13.lst qn11 nea
  have qm13 := g13.lst qm11 nem
  obtain ⟨H13, hH13⟩ : ∃ H13, H13 = upd H12 sd (.lst (iV ds)) := ⟨_, rfl⟩
  have hvd13 : Rep K H13 (dD dr) vd := hvd.std' (by rw [hH13]; exact d11.std g13)
  rw [← hH13] at d13 g13 r13 qn13 qm13
  show _
  refine ⟨_, rfl, m, rfl, by omega, by omega, fun D2 hD2 => ?_⟩
  have hD2 : H13 D2 = none := by rw [hH13]; exact hD2
  have hD2a := d13.new hD2
  have hD2n : D2 ≠ qn := fun z => by rw [z, qn13] at hD2; cases hD2
  have hD2m : D2 ≠ qm := fun z => by rw [z, qm13] at hD2; cases hD2
  rw [show upd H12 sd (.lst (List.map (fun n : Nat => V.int (n : Nat)) ds)) = H13 from hH13.symm]
  refine lc_I (walk_range (lo := 0) (n := m)) (fun i acc H' => ∃ es : List Deed, es.length = i ∧ (∀ e ∈ es, e.Good) ∧ RowsAt a D2 H' es acc ∧ GD K a H13 H' ∧ Dk H' a (500 + 1000 * i)) ⟨[], rfl, fun e he => absurd he (by simp), ⟨rfl, fun j e he => by simp at he⟩, .of (.new hD2), d13.add hD2⟩ (fun _ _ _ _ => trivial) ?_ ?_
  · rintro i x H14 _ acc hi hla hDa ⟨es, hel, heg, hra, g14, d14⟩ ⟨rfl, rfl⟩
    refine ⟨rfl, _, rfl, _, rfl, _, rfl, _, _, _, rfl, a, qn, qm, _, ns, ms, rfl, d14, by omega, rfl, g14.lst qn13 nea, okn, rfl, g14.lst qm13 nem, okm, fun q0 e H15 e15 hg g15 d15 nw15 ne15 => ?_⟩
    have hDa2 := g15.lst hDa hD2a
    have hq0D : q0 ≠ D2 := nw15.ne hDa
    refine LcE.of hDa2 hla (small (by omega)) ⟨es ++ [e], by rw [List.length_append, hel]; rfl, fun e' he' => ?_, ((hra.gd g15).snoc e15 ne15 hq0D).put _, (g14.trans g15).putN hD2 hDa2, (d15.put hD2a).mono (by omega)⟩
    rcases List.mem_append.mp he' with he' | he'
    · exact heg e' he'
    · rw [List.mem_singleton.mp he']; exact hg
  rintro H14 acc2 hla2 hD14 ⟨es, hel, heg, hra, g14, d14⟩
  have d14 : Dk H14 a 61000 := d14.mono (by omega)
  have hvd14 : Rep K H14 (dD dr) vd := hvd13.std' (d13.std g14)
  have r14 := g14.lst r13 hsda
  have g614 : GD K a H6 H14 := (g611.trans g13).trans g14
  obtain ⟨l, hl⟩ : ∃ l, l = ds.zip es := ⟨_, rfl⟩
  have okl : okB dr l := by rw [hl]; exact ok_zip okdr (by rw [hdl, hel]) hd12 hpw heg
  have hll : l.length = m := by rw [hl, List.length_zip, hdl, hel, Nat.min_self]
  have good : ∀ p ∈ l, p.2.Good := fun p hp => (okl.2.1 p hp).2
  have lat : ∀ {i : Nat} {p : Nat × Deed}, l[i]? = some p → ds[i]? = some p.1 ∧ es[i]? = some p.2 := fun {i p} h => by
    rw [hl, List.getElem?_zip_eq_some] at h
    exact h
  obtain ⟨vb, vxs, rfl, hvs, hvr⟩ := id hvd14
  have hvl : vxs.length = dr.length := by rw [hvr.len, List.length_map]
  have hd4 : dr.length ≤ 4 := okdr.1
  have e1 : (Str.ofString " ").length = 1 := by decide +kernel
  have e2 : (Str.ofString "/").length = 1 := by decide +kernel
  have big : 100000 ≤ sizeLine := by decide
  refine ⟨⟨_, rfl⟩, (show 1 ≤ sizeLine by decide), fun p1 hp1 => ⟨_, rfl, vb, rfl, ⟨_, Std.sqT (.upd' hp1) hvs⟩, fun D3 hD3 => lc_V (K := K) (walk_tup (K := K) (a := vb) (xs := vxs)) ((dr.map lossT).map V.str) (by rw [List.length_map, List.length_map, hvl]) hD3 (by rw [hvl]; exact small (by omega)) (fun H g => g.sqT (Std.sqT (.upd' hp1) hvs)) ?_ fun H16 g16 e16 => ?_⟩⟩
  · rintro i x _ H15 Q' y hy gr ⟨rfl, hx⟩ k'
    obtain ⟨pp, u, hpp, rfl, hu⟩ := loss_at (hvr.std' (Std.upd' hp1)) hx
    rw [List.getElem?_map, List.getElem?_map, hpp] at hy
    cases hy
    have ok := okdr.2.1 pp (List.mem_of_getElem? hpp)
    have l1 := (isNm_len ok.1).2
    have b1 : pp.2.1 < 10 ^ 12 := Nat.lt_trans ok.2.1 (Nat.lt_of_le_of_lt ok.2.2 (by decide))
    have b2 : pp.2.2 < 10 ^ 12 := Nat.lt_of_le_of_lt ok.2.2 (by decide)
    have l2 : (nS pp.2.1).length ≤ 12 := nS_le b1
    have l3 : (nS pp.2.2).length ≤ 12 := nS_le b2
    obtain ⟨n1, hn1⟩ : ∃ n1, n1 = nS pp.2.1 := ⟨_, rfl⟩
    obtain ⟨n2, hn2⟩ : ∃ n2, n2 = nS pp.2.2 := ⟨_, rfl⟩
    have hk : ∀ H3, Gr K H15 H3 → Q' (.str (pp.1 ++ .ofString " " ++ n1 ++ .ofString "/" ++ n2)) H3 := fun H3 g => by
      have := k' H3 g
      unfold lossT at this
      rw [hn1, hn2]
      exact this
    rw [← hn1] at l2
    rw [← hn2] at l3
    have m1 : (pp.1 ++ .ofString " ").length ≤ 9 := by rw [app_len]; omega
    have m2 : (pp.1 ++ .ofString " " ++ n1).length ≤ 21 := by rw [app_len]; omega
    have m3 : (pp.1 ++ .ofString " " ++ n1 ++ .ofString "/").length ≤ 22 := by rw [app_len]; omega
    refine ⟨u, _, rfl, gr.sqT hu, rfl, _, _, rfl, _, _, rfl, _, _, rfl, rfl, wipe3 (by decide) (by decide) (by decide), _, lk3a (by simp) (by decide) (by decide), pp.1, .ofString " ", rfl, rfl, small (by omega), _, lk3b (by simp) (by decide), (pp.2.1 : Nat), rfl, nlog b1, pp.1 ++ .ofString " ", n1, rfl, by rw [hn1]; rfl, small (by omega), pp.1 ++ .ofString " " ++ n1, .ofString "/", rfl, rfl, small (by omega), _, lk3c (by simp), (pp.2.2 : Nat), rfl, nlog b2, pp.1 ++ .ofString " " ++ n1 ++ .ofString "/", n2, rfl, by rw [hn2]; rfl, small (by omega), ?_⟩
    exact hk _ (.refl _)
  refine ⟨p1, D3, [.str (.ofString "drying")], (dr.map lossT).map V.str, rfl, rfl, g16.lst upd_same, e16, small (by rw [List.length_map, List.length_map]; show 1 + dr.length ≤ 1000; omega), fun p2 hp2 => ?_⟩
  have g17 := ((Gr.new (K := K) (o := .lst [V.str (.ofString "drying")]) hp1).trans g16).add (o := .lst ([V.str (.ofString "drying")] ++ (dr.map lossT).map V.str)) hp2
  refine ⟨_, p2, .ofString "drying" :: dr.map lossT, rfl, rfl, .inl (SqL.of upd_same), ?_, ?_⟩
  · have hb : ∀ w ∈ Str.ofString "drying" :: dr.map lossT, w.length ≤ 60 := fun w hw => by
      rcases List.mem_cons.mp hw with rfl | hw
      · decide +kernel
      · obtain ⟨pp, hpp, rfl⟩ := List.mem_map.mp hw
        have ok := okdr.2.1 pp hpp
        have l1 := (isNm_len ok.1).2
        have l2 : (nS pp.2.1).length ≤ 12 := nS_le (Nat.lt_trans ok.2.1 (Nat.lt_of_le_of_lt ok.2.2 (by decide)))
        have l3 : (nS pp.2.2).length ≤ 12 := nS_le (Nat.lt_of_le_of_lt ok.2.2 (by decide))
        unfold lossT
        rw [app_len, app_len, app_len, app_len]
        omega
    have := sum_le hb
    rw [List.length_cons, List.length_map] at this
    rw [e1, List.length_cons, List.length_map]
    omega
  rw [join_head]
  have hra17 := hra.gr (g17)
  have r17 := g17.lst r14
  have rD17 := g17.lst hD14
  have gR17 := g17
  have iat : ∀ {i : Nat} {p : Nat × Deed}, l[i]? = some p → (iV ds)[i]? = some (.int (p.1 : Nat)) := fun {i p} h => by rw [List.getElem?_map, (lat h).1]; rfl
  obtain ⟨H17, hH17⟩ : ∃ H17, H17 = upd H16 p2 (.lst ([V.str (.ofString "drying")] ++ (dr.map lossT).map V.str)) := ⟨_, rfl⟩
  rw [← hH17] at hra17 r17 rD17 g17
  have lz : ∀ {i : Nat} {x y : V} {H' : Hp}, RowsAt a D2 H' es acc2 → (iV ds)[i]? = some x → acc2[i]? = some y → ∃ p q, l[i]? = some p ∧ x = .int (p.1 : Nat) ∧ y = .ref q ∧ H' q = some (.lst (p.2.row.map V.str)) := fun {i x y H'} hr hx hy => by
    have hi : i < l.length := by
      have := (List.getElem?_eq_some_iff.mp hx).1
      rw [List.length_map, hdl] at this
      omega
    have hp := List.getElem?_eq_getElem hi
    rw [iat hp] at hx
    cases hx
    obtain ⟨q, e1, e2, _⟩ := hr.2 i _ (lat hp).2
    rw [e1] at hy
    cases hy
    exact ⟨_, q, hp, rfl, rfl, e2⟩
  refine ⟨_, rfl, _, rfl, sd, D2, iV ds, acc2, rfl, .inl ⟨SqL.of (by rw [← hH17]; exact r17), SqL.of (by rw [← hH17]; exact rD17), ?_⟩⟩
  rw [← hH17]
  refine fun D4 hD4 => lc_V (K := K) (walk_zip (K := K) (a := sd) (b := D2) (xs := iV ds) (ys := acc2) (n := m) (by rw [List.length_map, hdl, hla2, Nat.min_self])) ((rowsT l).map V.str) (by unfold rowsT; rw [List.length_map, List.length_map, hll]) hD4 (small (by omega)) (fun H g => ⟨SqL.of (g.lst r17), SqL.of (g.lst rD17)⟩) ?_ fun H18 g18 e18 => ?_
  · rintro i x H15 _ Q' y hy gr ⟨U, x1, y1, rfl, hU, rfl, hx1, hy1⟩ k'
    obtain ⟨p, q0, hp, rfl, rfl, hq0⟩ := lz (hra17.gr gr) hx1 hy1
    unfold rowsT at hy
    rw [List.getElem?_map, List.getElem?_map, hp] at hy
    cases hy
    have ok := okl.2.1 p (List.mem_of_getElem? hp)
    have d12 : p.1 < 10 ^ 12 := Nat.lt_of_le_of_lt ok.1 (by decide)
    have l2 : (nS p.1).length ≤ 12 := nS_le d12
    have rl := row_len ok.2
    have rs := sum_le rl.2
    have rj := jn_len 32 p.2.row
    have hq1 := (Gr.new (K := K) (o := .tup [.int (p.1 : Nat), .ref q0]) hU).lst hq0
    obtain ⟨n1, hn1⟩ : ∃ n1, n1 = nS p.1 := ⟨_, rfl⟩
    obtain ⟨jw, hjw⟩ : ∃ jw, jw = Txt.join (.ofString " ") p.2.row := ⟨_, rfl⟩
    have hk : ∀ H3, Gr K H15 H3 → Q' (.str (n1 ++ .ofString " " ++ jw)) H3 := fun H3 g => by
      rw [hn1, hjw, join_bl, row_jn]
      exact k' H3 g
    rw [← hn1] at l2
    have m1 : (n1 ++ .ofString " ").length ≤ 13 := by rw [app_len]; omega
    have m2 : jw.length ≤ 60 * 210 + 210 := by
      rw [hjw, join_bl]
      have : 60 * p.2.row.length ≤ 60 * 210 := Nat.mul_le_mul_left _ rl.1
      omega
    refine ⟨U, _, rfl, .inl (.inl upd_same), rfl, _, _, rfl, _, _, rfl, rfl, wipe2 (by decide) (by decide), _, lk2a (by simp) (by decide), (p.1 : Nat), rfl, nlog d12, n1, .ofString " ", by rw [hn1]; rfl, rfl, small (by omega), ⟨_, rfl⟩, _, lk2b (by simp), _, q0, p.2.row, rfl, rfl, .inl (SqL.of hq1), ?_, n1 ++ .ofString " ", jw, rfl, by rw [hjw], by omega, ?_⟩
    · have : 60 * p.2.row.length ≤ 60 * 210 := Nat.mul_le_mul_left _ rl.1
      rw [e1]
      omega
    · exact hk _ (.new hU)
  obtain ⟨t1, t2, t3⟩ := told_ok (S := linesT dr l) (by simp [linesT]) (linesT_lo okl) (fun w hw => by have := linesT_le okl w hw; omega) (by rw [linesT_len]; omega)
  rw [join_lines] at t2 t3
  refine ⟨⟨_, rfl⟩, _, rfl, (show 1 ≤ sizeLine by decide), fun p3 hp3 => ⟨_, rfl, p3, D4, [.str (headT dr)], (rowsT l).map V.str, rfl, rfl, upd_same, (Gr.new (K := K) hp3).lst e18, small (by unfold rowsT; rw [List.length_map, List.length_map]; show 1 + l.length ≤ 1000; omega), fun p4 hp4 => ⟨_, p4, linesT dr l, rfl, rfl, .inl (SqL.of upd_same), t1, ?_⟩⟩⟩
  have g19 := (g18.add (o := .lst [.str (headT dr)]) hp3).add (o := .lst ([.str (headT dr)] ++ (rowsT l).map V.str)) hp4
  rw [join_lines]
  refine gname_at (τ := [some (.ref a0), some (.int (0 + ((k : Nat) : Int))), some (.ref a), some (.bl (decide (V.int (i1 : Nat) = V.int 5))), some (.int (m : Nat)), some (.ref qn), some (.ref qm), some (.ref vb), some (.ref sd), some (.ref D2), some (.str (headT dr)), some (.ref D4), some (.str (bookT dr l)), o13, o14, o15, o16, o17, o18, o19, o20, o21, o22, o23, o24, o25, o26, o27]) rfl ?_
  refine ⟨_, rfl, _, rfl, _, dr, l, rfl, t2, t3, by omega, okl, fun H20 b1 L1 g20 nb1 nL1 B1 => ⟨_, rfl, _, rfl, _, dr, l, rfl, t2, t3, by omega, okl, fun H21 b2 L2 g21 nb2 nL2 B2 => ⟨(show 2 ≤ sizeLine by decide), fun pt hpt => ⟨pt, _, rfl, .inl (.inl upd_same), rfl, _, _, rfl, _, _, rfl, rfl, ?_⟩⟩⟩⟩
  have gpt : Gr K H21 (upd H21 pt (.tup [.ref b1, .ref b2])) := .new hpt
  have B1a := (B1.gr g21).gr gpt
  have B2a := B2.gr gpt
  have g22 := ((g19.trans g20).trans g21).trans gpt
  have nb1' : Nw H17 L1 := nL1.back g19
  have nb2' : Nw H17 L2 := nL2.back (g19.trans g20)
  refine ⟨_, rfl, _, rfl, b1, L1, dr, _, rfl, B1a, fun H23 g23 => ⟨(m : Nat), congrArg (fun n : Nat => [V.int ((n : Nat) : Int)]) (by rw [live_len, kept_some, hll]), by omega, by omega, fun D5 hD5 => lc_R (K := K) (walk_range (lo := 0) (n := m)) (fun i y H' => ∃ p, l[i]? = some p ∧ Rep K H' (pE p) y) hD5 (small (by omega)) (fun _ _ => trivial) (fun i y H H' e ⟨p, a1, a2⟩ => ⟨p, a1, a2.std' e⟩) ?_ ?_⟩⟩
  · rintro i x H15 _ Q' hi gr ⟨rfl, rfl⟩ k'
    have hp := List.getElem?_eq_getElem (l := l) (show i < l.length by omega)
    have Bi := (B1a.gr g23).gr gr
    obtain ⟨dxi, _, _, hi1, _⟩ := id Bi.ex
    refine ⟨wipe1 (by decide), _, rfl, b1, dxi, _, rfl, hi1, rfl, _, rfl, _, _, rfl, b1, L1, dr, _, i, l[i], rfl, Bi, congrArg V.int (by omega), by rw [List.length_map]; omega, ?_, fun v hv => k' v _ (.refl _) ⟨_, hp, hv⟩⟩
    rw [List.getD_eq_getElem?_getD, List.getElem?_map, hp]
    rfl
  intro H24 acc3 g24 hD24 hl24 hR
  have hR3 : RepL K H24 (l.map pE) acc3 := repL_pt (by rw [hl24, List.length_map, hll]) fun i y hy => by
    obtain ⟨p, e1, e2⟩ := hR i y hy
    exact ⟨pE p, by rw [List.getElem?_map, e1]; rfl, e2⟩
  have repAt : ∀ {i : Nat} {x : V} {H' : Hp}, Std H24 H' → acc3[i]? = some x → ∃ p u z, l[i]? = some p ∧ x = .ref u ∧ SqT K H' u [.int (p.1 : Nat), z] ∧ Rep K H' p.2.d z := fun {i x H'} gr hx => by
    have hi : i < l.length := by
      have := (List.getElem?_eq_some_iff.mp hx).1
      omega
    have hp := List.getElem?_eq_getElem (l := l) hi
    obtain ⟨x', f1, hrep⟩ := (hR3.std' gr).at (i := i) (d := pE l[i]) (by rw [List.getElem?_map, hp]; rfl)
    rw [hx] at f1
    cases f1
    obtain ⟨u, y', z, rfl, hu, hy1, hz⟩ := rep2 hrep
    obtain rfl : y' = .int (l[i].1 : Nat) := hy1
    exact ⟨_, u, z, hp, rfl, hu, hz⟩
  refine ⟨_, rfl, D5, rfl, ⟨_, SqL.of hD24⟩, fun D6 hD6 => lc_I (walk_list (K := K) (a := D5) (xs := acc3)) (fun i acc H' => Gr K H24 H' ∧ FndAt D6 H' (l.take i) acc) ⟨.new hD6, rfl, fun j p hj => by simp at hj⟩ (fun i acc H' h => h.1.sqL (SqL.of hD24)) ?_ ?_⟩
  · rintro i x H15 _ acc hi hla hDa ⟨gr, fnd⟩ ⟨rfl, hx⟩
    obtain ⟨p, u, z, hp, rfl, hu, hz⟩ := repAt gr.std hx
    refine ⟨u, _, rfl, hu, rfl, _, _, rfl, _, _, rfl, rfl, wipe2 (by decide) (by decide), _, lk2a (by simp) (by decide), _, lk2b (by simp), _, rfl, p.2, hz, good _ (List.mem_of_getElem? hp), fun H16 q0 gq hq => ⟨(show 2 ≤ sizeLine by decide), fun U hU => ?_⟩⟩
    have hDq := gq.lst hDa
    have hqD := fnd_ne (fnd.gr gq) hq hDq
    have gU : Gr K H16 (upd H16 U (.tup [.int (p.1 : Nat), .ref q0])) := .new hU
    have hDU := gU.lst hDq
    have eT : l.take (i + 1) = l.take i ++ [p] := by rw [List.take_add_one, hp]; rfl
    refine LcE.of hDU hla (small (by omega)) ⟨((gr.trans gq).trans gU).put hD6 hDU, ?_⟩
    rw [eT]
    exact (((fnd.gr gq).gr gU).snoc upd_same (gU.lst hq) hqD).put hDU
  rintro H25 acc4 hla4 hD25 ⟨g25, fnd⟩
  rw [hl24, List.take_of_length_le (by omega)] at fnd
  have gA := (((g22.trans g23).trans g24).trans g25)
  refine ⟨_, rfl, _, rfl, _, rfl, sd, D2, iV ds, acc2, rfl, gA.lst r17, gA.lst rD17, by rw [List.length_map, hdl, hla2], by rw [List.length_map, hdl]; omega, fun S H26 ts hS kp hSl htl zd => ?_⟩
  have g26 : Gr K H25 H26 := .same kp
  have hra26 := (hra17.gr gA).gr g26
  refine ⟨rowsP l, rowsP l, dp_rows (g26.lst hD25) fnd.1 fun i p hp => ?_, dp_rows hSl (by rw [htl, List.length_map, hdl, hll]) fun i p hp => ?_, shaped_rows good, shaped_rows good, false, by rw [eqv_rows good]; rfl, iteF ?_⟩
  · obtain ⟨U, q0, f1, f2, f3, _⟩ := (fnd.gr g26).2 i p hp
    exact ⟨U, q0, f1, f2, f3⟩
  · obtain ⟨q0, f1, f2, _⟩ := hra26.2 i p.2 (lat hp).2
    obtain ⟨U, f3, f4⟩ := zd i _ _ (by rw [htl, List.length_map, hdl]; have := (List.getElem?_eq_some_iff.mp hp).1; omega) (iat hp) f1
    exact ⟨U, q0, f3, f4, f2⟩
  have gB := ((g23.trans g24).trans g25).trans g26
  have B1b := B1a.gr gB
  have B2b := B2a.gr gB
  have g6all : GD K a H6 H26 := g614.trans (.of ((gR17.trans (by rw [← hH17]; exact g22)).trans gB))
  have hT6 := (g5.trans g6).tabs hT0
  obtain ⟨gb, hgb⟩ : ∃ gb, gb = decide (V.int (i1 : Nat) = V.int 5) := ⟨_, rfl⟩
  have dA : Dk H26 a 61000 := ((d14.gr gR17).gr (K := K) (by rw [← hH17]; exact g22)).gr gB
  have d17 : Dk H17 a 61000 := by rw [hH17]; exact d14.gr gR17
  have L1a : L1 ≠ a := by obtain ⟨_, _, _, e, _⟩ := d17.ex; exact nb1'.ne e
  have L2a : L2 ≠ a := by obtain ⟨_, _, _, e, _⟩ := d17.ex; exact nb2'.ne e
  have L21 : L2 ≠ L1 := by obtain ⟨_, e⟩ := B1.lst; exact nL2.ne e
  have okd : okDays (days (l.map some)) := by rw [days_all okl]; exact okl.2.1
  have bkd : bookT dr (days (l.map some)) = bookT dr l := by rw [days_all okl]
  have nms : ∀ p ∈ dr, isNm p.1 = true := fun p hp => (okdr.2.1 p hp).1
  refine ⟨_, rfl, _, rfl, b1, L1, dr, _, rfl, B1b, okl.1, okd, g6all.tabs hT6, fun H27 g27 => ⟨_, rfl, rfl, false, ne_eq (congrArg V.str bkd), iteF ?_⟩⟩
  have hvd26 : Rep K H26 (dD dr) (.ref vb) := (hvd14.std' gR17.std).std' (Std.trans (by rw [← hH17]; exact g22.std) gB.std)
  refine ⟨_, rfl, fun b3 dx3 hb3 hdx3 hne3 => mk_bk hb3 hdx3 hne3 (hvd26.std' g27.std) fun H28 L3 g28 hL3 hLb3 B3 => ?_⟩
  have g2628 := g27.trans g28
  have hD28 : H28 D5 = some (.lst acc3) := ((g25.trans g26).trans g2628).lst hD24
  have L3a : L3 ≠ a := (dA.gr g27).new hL3
  have L31 : L3 ≠ L1 := by obtain ⟨_, e⟩ := (B1b.gr g27).lst; exact fun z => by rw [z, e] at hL3; cases hL3
  have L32 : L3 ≠ L2 := by obtain ⟨_, e⟩ := (B2b.gr g27).lst; exact fun z => by rw [z, e] at hL3; cases hL3
  have D53 : D5 ≠ L3 := fun z => by rw [← z, g27.lst ((g25.trans g26).lst hD24)] at hL3; cases hL3
  have D5a : D5 ≠ a := (((d14.gr gR17).gr (K := K) (by rw [← hH17]; exact g22)).gr g23).new hD5
  have st28 : Std H24 H28 := ((g25.trans g26).trans g2628).std
  have l3list : ∀ c, c = L3 → ∃ t, H28 c = some (.lst t) := fun c hc => by rw [hc]; exact B3.lst
  refine ⟨_, rfl, D5, rfl, ⟨_, SqL.of hD28⟩, for_it (walk_list (K := K) (a := D5) (xs := acc3)) (fun i σ H' => (∃ p18 p19, σ = [some (.ref a0), some (.int (0 + ((k : Nat) : Int))), some (.ref a), some (.bl gb), some (.int (m : Nat)), some (.ref qn), some (.ref qm), some (.ref vb), some (.ref sd), some (.ref D2), some (.str (headT dr)), some (.ref D4), some (.str (bookT dr l)), some (.ref b1), some (.ref b2), some (.ref D5), some (.ref D6), some (.ref b3), p18, p19, o20, o21, o22, o23, o24, o25, o26, o27]) ∧ GrE K (fun c => c = L3) H28 H' ∧ Bk K H' b3 L3 dr ((l.take i).map some)) ⟨⟨_, _, by rw [hgb]; rfl⟩, .refl _, B3⟩ (fun i σ H' _ h => SqL.of (h.2.1.lst hD28 D53)) ?_ ?_⟩
  · rintro i x σ _ H15 hi ⟨⟨p18, p19, rfl⟩, ge, Bi⟩ ⟨e5, hx⟩
    subst e5
    obtain ⟨p, u, z, hp, rfl, hu, hz⟩ := repAt (st28.trans (ge.std l3list)) hx
    have okp := okl.2.1 p (List.mem_of_getElem? hp)
    obtain ⟨dxi, _, _, hi1, _⟩ := id Bi.ex
    refine ⟨u, _, rfl, hu, rfl, _, _, rfl, _, _, rfl, rfl, _, rfl, b3, dxi, _, rfl, hi1, rfl, _, rfl, _, rfl, _, _, _, rfl, b3, L3, dr, _, p.1, p.2, rfl, Bi, rfl, okp.1, hz, okp.2, by rw [List.length_map, List.length_take]; omega, fun H16 g16 B16 => ⟨⟨_, _, rfl⟩, ge.trans g16, ?_⟩⟩
    have e3 : (l.take i).map some ++ [some (p.1, p.2)] = (l.take (i + 1)).map some := by
      rw [List.take_add_one, hp, List.map_append]
      rfl
    rw [← e3]
    exact B16
  rintro σ H29 ⟨⟨p18, p19, rfl⟩, g29, B3t⟩
  rw [hl24, List.take_of_length_le (by omega)] at B3t
  have stL : ∀ c, c = L3 → (∃ t, H28 c = some (.lst t)) ∧ c ≠ L1 := fun c hc => ⟨l3list c hc, by rw [hc]; exact L31⟩
  have B1c : Bk K H29 b1 L1 dr (l.map some) := (B1b.gr g2628).grE g29 stL
  have B2c : Bk K H29 b2 L2 dr (l.map some) := (B2b.gr g2628).grE g29 fun c hc => ⟨l3list c hc, by rw [hc]; exact L32⟩
  have d29 : Dk H29 a 61000 := ((dA.gr g2628)).keepE g29 fun z => L3a z.symm
  have st29 := st28.trans (g29.std l3list)
  have hD29 := g29.lst hD28 D53
  refine ⟨_, rfl, _, rfl, _, rfl, _, _, _, rfl, a, D5, 61000, dr, l, acc3, rfl, d29, by omega, (hvd26.std' g2628.std).std' (g29.std l3list), rfl, hD29, D5a, hR3.std' st29, okl, by omega, fun b4 L4 its4 H30 B4 hdays4 g30 d30 nw4 ne4 => ?_⟩
  have B1d := B1c.gd d29 L1a g30
  have B2d := B2c.gd d29 L2a g30
  have B3d := B3t.gd d29 L3a g30
  have g26e : GrE K (fun c => c = a ∨ c = L1 ∨ c = L3) H6 H30 := (((g6all.mono fun _ z => Or.inl z).trans (.of g2628)).trans (g29.mono fun _ z => Or.inr (Or.inr z))).trans (g30.mono fun _ z => Or.inl z)
  refine ⟨_, rfl, _, rfl, _, rfl, _, rfl, _, rfl, b3, L3, dr, _, rfl, B3d, okl.1, okd, g26e.tabs hT6, fun H31 g31 => ⟨_, rfl, _, dr, l, rfl, by rw [bkd]; exact t2, by rw [bkd]; exact t3, by omega, okl, fun H32 b5 L5 g32 nb5 nL5 B5 => ⟨(show 4 ≤ sizeLine by decide), fun pu hpu => ?_⟩⟩⟩
  have g3033 := ((g31.trans g32).add (o := .tup [.ref b3, .ref b4, .ref b2, .ref b5]) hpu)
  have gpu : Gr K H32 (upd H32 pu (.tup [.ref b3, .ref b4, .ref b2, .ref b5])) := .new hpu
  have all4 : ∀ (i : Nat) (x : V), ([.ref b3, .ref b4, .ref b2, .ref b5] : List V)[i]? = some x → ∃ b L its, x = .ref b ∧ Bk K (upd H32 pu (.tup [.ref b3, .ref b4, .ref b2, .ref b5])) b L dr its ∧ days its = l := fun i x hx => by
    match i, hx with
    | 0, hx => cases hx; exact ⟨_, _, _, rfl, B3d.gr g3033, days_all okl⟩
    | 1, hx => cases hx; exact ⟨_, _, _, rfl, B4.gr g3033, hdays4⟩
    | 2, hx => cases hx; exact ⟨_, _, _, rfl, B2d.gr g3033, days_all okl⟩
    | 3, hx => cases hx; exact ⟨_, _, _, rfl, B5.gr gpu, days_all okl⟩
  have B1e := B1d.gr g3033
  have g33e := g26e.trans (.of g3033)
  refine ⟨pu, rfl, ⟨_, .inl (.inl upd_same)⟩, for_it (walk_tup (K := K) (a := pu) (xs := [.ref b3, .ref b4, .ref b2, .ref b5])) (fun i σ H' => Gr K (upd H32 pu (.tup [.ref b3, .ref b4, .ref b2, .ref b5])) H' ∧ ∃ p21, σ = [some (.ref a0), some (.int (0 + ((k : Nat) : Int))), some (.ref a), some (.bl gb), some (.int (m : Nat)), some (.ref qn), some (.ref qm), some (.ref vb), some (.ref sd), some (.ref D2), some (.str (headT dr)), some (.ref D4), some (.str (bookT dr l)), some (.ref b1), some (.ref b2), some (.ref D5), some (.ref D6), some (.ref b3), p18, p19, some (.ref b4), p21, o22, o23, o24, o25, o26, o27]) ⟨.refl _, _, rfl⟩ (fun i σ H' _ h => h.1.sqT (.inl (.inl upd_same))) ?_ ?_⟩
  · rintro i x σ _ H15 hi ⟨gr, p21, rfl⟩ ⟨e5, hx⟩
    subst e5
    obtain ⟨b, L, its, rfl, B, hd⟩ := all4 i x hx
    have Bg := B.gr gr
    refine ⟨_, rfl, _, rfl, _, _, rfl, b, L, dr, its, b1, L1, _, true, rfl, rfl, Bg, B1e.gr gr, nms, (g33e.trans (.of gr)).tabs hT6, .inl ⟨by rw [hd, days_all okl], rfl⟩, fun Ha ga => ⟨true, rfl, false, rfl, iteF ?_⟩⟩
    refine ⟨_, rfl, _, rfl, b, L, dr, its, rfl, Bg.gr ga, okl.1, by rw [hd]; exact okl.2.1, ((g33e.trans (.of gr)).trans (.of ga)).tabs hT6, fun Hb gb' => ⟨_, rfl, rfl, false, ne_eq (by rw [hd]), iteF ?_⟩⟩
    exact ⟨_, rfl, _, rfl, b, L, dr, its, rfl, (Bg.gr ga).gr gb', fun Hc gc => ⟨_, rfl, rfl, false, ne_eq (by rw [live_len, ← days_len2, hd, hll]), iteF ⟨((gr.trans ga).trans gb').trans gc, _, rfl⟩⟩⟩
  rintro σ H34 ⟨g34, p21, rfl⟩
  have g34' := g3033.trans g34
  have B1g := B1d.gr g34'
  have B2g := B2d.gr g34'
  have B3g := B3d.gr g34'
  have d34 : Dk H34 a 62000 := (d30.gr g34').mono (by omega)
  have g34e := g26e.trans (.of g34')
  have nL1 : Nw H5 L1 := (Nw.backE (g614.trans (.of gR17)) L1a (by rw [← hH17]; exact nb1')).back g6
  have nL3 : Nw H5 L3 := (Nw.backE (g6all.trans (.of g27)) L3a (.of hL3)).back g6
  refine ⟨_, rfl, _, rfl, _, _, rfl, a, _, dr, l, rfl, d34, by omega, rfl, okl, by omega, g34e.tabs hT6, fun H35 g35 d35 => ⟨true, rfl, iteF ⟨_, rfl, _, rfl, ?_⟩⟩⟩
  have B1h := B1g.gd d34 L1a g35
  have B2h := B2g.gd d34 L2a g35
  have B3h := B3g.gd d34 L3a g35
  have g35e := g34e.trans (g35.mono fun _ z => Or.inl z)
  refine great_case (K := K) (a := a) rfl d35 (by omega) (g35e.tabs hT6) fun H36 g36 d36 => iteF ?_
  have B1i := B1h.gd d35 L1a g36
  have B2i := B2h.gd d35 L2a g36
  have B3i := B3h.gd d35 L3a g36
  have g36e := g35e.trans (g36.mono fun _ z => Or.inl z)
  obtain ⟨dx1, _, _, hx1, _⟩ := id B1i.ex
  refine ⟨_, rfl, b1, dx1, _, rfl, hx1, rfl, _, rfl, _, rfl, _, _, rfl, a, _, m, rfl, d36, by omega, rfl, by omega, by omega, fun i H37 hi g37 d37 => ?_⟩
  have hp := List.getElem?_eq_getElem (l := l) (show i < l.length by omega)
  have B1j := B1i.gd d36 L1a g37
  have hks := kept_set_len l i (by omega)
  refine ⟨_, _, rfl, b1, L1, dr, _, i, l[i], rfl, B1j, rfl, by rw [List.length_map]; omega, ?_, fun H38 g38 B1f => ?_⟩
  · rw [List.getD_eq_getElem?_getD, List.getElem?_map, hp]
    rfl
  have B2f := (B2i.gd d36 L2a g37).grE g38 fun c hc => ⟨by rw [hc]; exact B1j.lst, by rw [hc]; exact Ne.symm L21⟩
  have B3f := (B3i.gd d36 L3a g37).grE g38 fun c hc => ⟨by rw [hc]; exact B1j.lst, by rw [hc]; exact Ne.symm L31⟩
  have g38e := (g36e.trans (g37.mono fun _ z => Or.inl z)).trans (g38.mono fun _ z => Or.inr (Or.inl z))
  refine ⟨_, rfl, _, rfl, _, _, rfl, b1, L1, dr, _, b2, L2, _, false, rfl, rfl, B1f, B2f, nms, g38e.tabs hT6, .inr ⟨?_, rfl⟩, fun Ha ga => ⟨false, rfl, iteF ?_⟩⟩
  · rw [days_len2, days_len2, kept_some]
    omega
  refine ⟨_, rfl, _, rfl, b2, L2, dr, _, rfl, B2f.gr ga, okl.1, okd, (g38e.trans (.of ga)).tabs hT6, fun Hb gb' => ⟨_, rfl, rfl, false, ne_eq (congrArg V.str bkd), iteF ?_⟩⟩
  refine ⟨_, rfl, _, rfl, _, _, rfl, b2, L2, dr, _, b3, L3, _, true, rfl, rfl, (B2f.gr ga).gr gb', (B3f.gr ga).gr gb', nms, ((g38e.trans (.of ga)).trans (.of gb')).tabs hT6, .inl ⟨rfl, rfl⟩, fun Hc gc => ⟨true, rfl, false, rfl, iteF ?_⟩⟩
  refine ⟨_, rfl, _, rfl, b1, L1, dr, _, rfl, ((B1f.gr ga).gr gb').gr gc, fun Hd gd => ⟨_, rfl, _, _, rfl, rfl, rfl, false, ne_eq ?_, iteF ?_⟩⟩
  · refine congrArg V.int ?_
    rw [live_len]
    omega
  have gE := g38e.trans (.of (((ga.trans gb').trans gc).trans gd))
  refine ⟨g5.trans (((GrE.of g6).trans gE).grN fun c hc => ?_), _, _, _, _, _, _, _, _, _, _, _, _, _, _, _, _, _, _, _, _, _, _, _, _, _, _, _, rfl⟩
  rcases hc with hc | hc | hc
  · rw [hc]; exact nwa
  · rw [hc]; exact nL1
  · rw [hc]; exact nL3

end
end CK
set_option maxHeartbeats 0
namespace CK
open PySem PySem.Spec PyProof.Rows L2
theorem tabs_start {H : Hp} {P : Addr} {q : Str} (h : H P = some (.tbl #[])) : LamX.TabS H P q := ⟨#[], h, by first | exact trivial | exact .nil | simp [TriplesOk], fun pos cv e => by cases e⟩
theorem facts {w : World} {K : PySem.W.Frag} {h : Heap} {mg : Str → Option Value} {f : Addr} (KX : K.In h) (G : h.Ns mainGlobals mg) (c : He.SaysX fa fn tabs tfs exB w h K) (hmg : mg "law" = some (.ref f)) :
    LamX.LawAtS PySem.Challenge.rw_casknotes_k96_whole_long_books w K CX0 12 63 "_law_script" mg f h := by
  have eF : mg "law" = some (.ref (He.ga K "law")) := He.glo_ok KX G (c.t.d.fact 69 (f := .glo "law") rfl)
  have e := hmg.symm.trans eF
  cases e
  obtain ⟨fd, F⟩ := c.t.d.def_ 82 (d := d_law) rfl
  have b := FunD.bindsA (ps := ["_law_script"]) F fun _ _ _ _ _ _ us hl => match us, hl with | [_], _ => rfl
  have one : ∀ {P : Addr × Addr → Prop}, P (He.cT K ("Book", some "numbers")) → ∀ p ∈ [He.cT K ("Book", some "numbers")], P p := fun h p hp => by
    rw [List.mem_singleton.mp hp]
    exact h
  have hm : (("Book", some "numbers") : He.Defn) ∈ tfs := List.mem_cons_self
  refine ⟨fd, [He.cT K ("Book", some "numbers")], spLaw K, one (c.empty _ hm), one (c.out _ hm), one (PySem.W.codeHd_of_K KX (c.hd _ hm)), fun s v => b s [v] rfl, fun H a ns hl _ hs hS => ?_, fun base X G' hT => ?_⟩
  · refine ⟨_, rfl, a, ns, rfl, hS, hl, fun p hp => ?_, fun _ => rfl⟩
    rw [List.mem_singleton.mp hp]
    exact tabs_start (hs _ (List.mem_singleton.mpr rfl))
  · exact ok_law (P := PySem.Challenge.rw_casknotes_k96_whole_long_books.prog) (⟨c.t, c.more, X, G', hT _ (List.mem_singleton.mpr rfl)⟩ : Tp w K mg base) F
end CK
open PySem PySem.W PySem.Calls PyProof.Rows
theorem PySem.Challenge.cw_casknotes_k96_whole_long_books_holds : PySem.Challenge.rw_casknotes_k96_whole_long_books.Holds := by
  w_on; o_law
  refine HandSHeadRun.head_any (r := OpenLaw.row PySem.Challenge.rw_casknotes_k96_whole_long_books) (q := CK.qv) (H := CK.hk) (ob := CK.ob) (M := 60000) (loose := CK.loose) (d := HandSHeadRun.topDef (OpenLaw.row PySem.Challenge.rw_casknotes_k96_whole_long_books).prog 154) (kwd := []) CK.ob_eq
    (by kernel_rfl) (fun s => by kernel_rfl) CK.run (by kernel_rfl) (by kernel_rfl) (by kernel_rfl) (by rfl) (by first | assumption | decide +kernel) (by decide +kernel) ⟨rfl, rfl, rfl, rfl, rfl, by decide +kernel⟩ ?hw ?hc
  case hw => w_witness2
  case hc =>
    refine LamX.walk_ofTsE (l := PySem.Challenge.rw_casknotes_k96_whole_long_books) (n := 63) (k := 12) (x := "_law_script") (CX := fun _ => L2.CX0) rfl (by decide) (by kernel_rfl) ⟨rfl, by decide, by decide⟩ ?F (fun _ _ _ _ _ z => z)
    intro w mg fa h Y G hmg0
    obtain ⟨K, KX, c⟩ := Y
    have hmg : mg ("law" : PySem.Str) = some (.ref fa) := by
      have e : (HandSHeadRun.topDef (OpenLaw.row PySem.Challenge.rw_casknotes_k96_whole_long_books).prog 154).name = ("law" : PySem.Str) := by kernel_rfl
      rw [← e]
      exact hmg0
    exact ⟨K, KX, CK.facts KX G c hmg⟩

