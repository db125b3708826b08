import PyProof.Rows.All
import Wide.All
import OpenK.AllK
import Wide.FinOn
import KE.KStateDown
import Lean
import HandS.ForMost
import HandS.ForExc
import HandS.Defaults
import HandS.Flow
import HandS.Style
import HandS.IsInst
import HandS.NoneIn
import HandS.Zip
import HandS.Walk
import HandS.FStr
import HandS.Star
import HandS.MethStar
import HandS.MakeKw
import HandS.MakeKwOnly
import HandS.Property
import HandS.Finally
import HandS.TryMany
import HandS.Lambda
import HandS.EndTab
import HandS.DictComp
import HandS.TupAny
import HandS.SetKeys
import HandS.Strs
import HandS.ExcInit
import HandS.HotCalls
import HandS.Codes
import HandS.CallSlots
import HandS.IterVal
import HandS.OwnIter
import HandS.Deep
import HandS.RaiseMore
import HandS.ClsMeth
import HandS.Wide
import KE.KSuper
import HandS.HeadHook4
import PySem.Challenge.RW_lastslip_k72_whole_steps_of_libraries
import HandS.Head0
import HandS.Head1
import HandS.Head2
import HandS.HeadEnd
import HandS.HeadWalk
import HandS.ExcField
import KE.KNestM
import KE.KExcInit
import KE.KTryMore
import HandS.SetFor
import HandS.Nested
import KE.GoesEnum
import PyProof.EnumMake
import OpenK.KOps
import OpenK.KMeth
import KE.KOwnIter
set_option Elab.async false
set_option linter.all false
set_option maxRecDepth 100000
set_option maxHeartbeats 0
/-! ## LBase -/
namespace Lst
open PySem PySem.Spec PyProof.Rows L2
/-! ### the text by places -/
def top (i : Nat) : Stmt := PySem.Challenge.pw_lastslip_k72_whole_steps_of_libraries.main.body.getD i (.Pass ⟨0, 0, 0, 0⟩)
abbrev s_Missing_init : Stmt := inClass (top 13) 0
abbrev N_Missing_init : List Str := ["self", "code"]
abbrev P_Missing_init : List Str := ["self", "code"]
def d_Missing_init : He.DefD := ⟨("Missing", some "__init__"), "__init__", "Missing.__init__", defArgs s_Missing_init, defBody s_Missing_init, defScope s_Missing_init, [], []⟩
abbrev s_UnknownName_init : Stmt := inClass (top 14) 0
abbrev N_UnknownName_init : List Str := ["self", "name"]
abbrev P_UnknownName_init : List Str := ["self", "name"]
def d_UnknownName_init : He.DefD := ⟨("UnknownName", some "__init__"), "__init__", "UnknownName.__init__", defArgs s_UnknownName_init, defBody s_UnknownName_init, defScope s_UnknownName_init, [], []⟩
abbrev s_NothingLeft_init : Stmt := inClass (top 15) 0
abbrev N_NothingLeft_init : List Str := ["self"]
abbrev P_NothingLeft_init : List Str := ["self"]
def d_NothingLeft_init : He.DefD := ⟨("NothingLeft", some "__init__"), "__init__", "NothingLeft.__init__", defArgs s_NothingLeft_init, defBody s_NothingLeft_init, defScope s_NothingLeft_init, [], []⟩
abbrev s_is_number : Stmt := top 19
abbrev N_is_number : List Str := ["value", "least", "most"]
abbrev P_is_number : List Str := ["value", "least", "most"]
def d_is_number : He.DefD := ⟨("is_number", none), "is_number", "is_number", defArgs s_is_number, defBody s_is_number, defScope s_is_number, [], []⟩
abbrev s_is_word : Stmt := top 20
abbrev N_is_word : List Str := ["value", "most", "letter"]
abbrev P_is_word : List Str := ["value", "most"]
def d_is_word : He.DefD := ⟨("is_word", none), "is_word", "is_word", defArgs s_is_word, defBody s_is_word, defScope s_is_word, [.int 200], []⟩
abbrev s_is_alphabet : Stmt := top 21
abbrev N_is_alphabet : List Str := ["value", "at"]
abbrev P_is_alphabet : List Str := ["value"]
def d_is_alphabet : He.DefD := ⟨("is_alphabet", none), "is_alphabet", "is_alphabet", defArgs s_is_alphabet, defBody s_is_alphabet, defScope s_is_alphabet, [], []⟩
abbrev s_is_name : Stmt := top 26
abbrev N_is_name : List Str := ["value"]
abbrev P_is_name : List Str := ["value"]
def d_is_name : He.DefD := ⟨("is_name", none), "is_name", "is_name", defArgs s_is_name, defBody s_is_name, defScope s_is_name, [], []⟩
abbrev s_Wish_init : Stmt := inClass (top 27) 0
abbrev N_Wish_init : List Str := ["self", "parts", "last", "part", "token"]
abbrev P_Wish_init : List Str := ["self", "parts", "last"]
def d_Wish_init : He.DefD := ⟨("Wish", some "__init__"), "__init__", "Wish.__init__", defArgs s_Wish_init, defBody s_Wish_init, defScope s_Wish_init, [], []⟩
abbrev s_Wish_tokens : Stmt := inClass (top 27) 1
abbrev N_Wish_tokens : List Str := ["self"]
abbrev P_Wish_tokens : List Str := ["self"]
def d_Wish_tokens : He.DefD := ⟨("Wish", some "tokens"), "tokens", "Wish.tokens", defArgs s_Wish_tokens, defBody s_Wish_tokens, defScope s_Wish_tokens, [], []⟩
abbrev s_Wish_names : Stmt := inClass (top 27) 3
abbrev N_Wish_names : List Str := ["self", "token"]
abbrev P_Wish_names : List Str := ["self"]
def d_Wish_names : He.DefD := ⟨("Wish", some "names"), "names", "Wish.names", defArgs s_Wish_names, defBody s_Wish_names, defScope s_Wish_names, [], []⟩
abbrev s_Wish_needed : Stmt := inClass (top 27) 4
abbrev N_Wish_needed : List Str := ["self", "found", "part", "letter"]
abbrev P_Wish_needed : List Str := ["self"]
def d_Wish_needed : He.DefD := ⟨("Wish", some "needed"), "needed", "Wish.needed", defArgs s_Wish_needed, defBody s_Wish_needed, defScope s_Wish_needed, [], []⟩
abbrev s_Words_init : Stmt := inClass (top 28) 1
abbrev N_Words_init : List Str := ["self", "words", "word"]
abbrev P_Words_init : List Str := ["self", "words"]
def d_Words_init : He.DefD := ⟨("Words", some "__init__"), "__init__", "Words.__init__", defArgs s_Words_init, defBody s_Words_init, defScope s_Words_init, [], []⟩
abbrev s_Words_needed : Stmt := inClass (top 28) 2
abbrev N_Words_needed : List Str := ["self", "letter"]
abbrev P_Words_needed : List Str := ["self"]
def d_Words_needed : He.DefD := ⟨("Words", some "needed"), "needed", "Words.needed", defArgs s_Words_needed, defBody s_Words_needed, defScope s_Words_needed, [], []⟩
abbrev s_Behind_init : Stmt := inClass (top 31) 0
abbrev N_Behind_init : List Str := ["self", "word", "part"]
abbrev P_Behind_init : List Str := ["self", "word", "part"]
def d_Behind_init : He.DefD := ⟨("Behind", some "__init__"), "__init__", "Behind.__init__", defArgs s_Behind_init, defBody s_Behind_init, defScope s_Behind_init, [], []⟩
abbrev s_Behind_needed : Stmt := inClass (top 31) 1
abbrev N_Behind_needed : List Str := ["self", "found", "letter"]
abbrev P_Behind_needed : List Str := ["self"]
def d_Behind_needed : He.DefD := ⟨("Behind", some "needed"), "needed", "Behind.needed", defArgs s_Behind_needed, defBody s_Behind_needed, defScope s_Behind_needed, [], []⟩
abbrev s_Both_init : Stmt := inClass (top 32) 0
abbrev N_Both_init : List Str := ["self", "one", "other"]
abbrev P_Both_init : List Str := ["self", "one", "other"]
def d_Both_init : He.DefD := ⟨("Both", some "__init__"), "__init__", "Both.__init__", defArgs s_Both_init, defBody s_Both_init, defScope s_Both_init, [], []⟩
abbrev s_Either_init : Stmt := inClass (top 33) 0
abbrev N_Either_init : List Str := ["self", "one", "other"]
abbrev P_Either_init : List Str := ["self", "one", "other"]
def d_Either_init : He.DefD := ⟨("Either", some "__init__"), "__init__", "Either.__init__", defArgs s_Either_init, defBody s_Either_init, defScope s_Either_init, [], []⟩
abbrev s_Named_init : Stmt := inClass (top 34) 0
abbrev N_Named_init : List Str := ["self", "name"]
abbrev P_Named_init : List Str := ["self", "name"]
def d_Named_init : He.DefD := ⟨("Named", some "__init__"), "__init__", "Named.__init__", defArgs s_Named_init, defBody s_Named_init, defScope s_Named_init, [], []⟩
abbrev s_words_token : Stmt := top 35
abbrev N_words_token : List Str := ["token", "stack", "head", "_", "tail", "words", "word"]
abbrev P_words_token : List Str := ["token", "stack"]
def d_words_token : He.DefD := ⟨("words_token", none), "words_token", "words_token", defArgs s_words_token, defBody s_words_token, defScope s_words_token, [], []⟩
abbrev s_token_read : Stmt := top 36
abbrev N_token_read : List Str := ["token", "stack", "one", "other"]
abbrev P_token_read : List Str := ["token", "stack"]
def d_token_read : He.DefD := ⟨("token_read", none), "token_read", "token_read", defArgs s_token_read, defBody s_token_read, defScope s_token_read, [], []⟩
abbrev s_read_wish : Stmt := top 37
abbrev N_read_wish : List Str := ["text", "tokens", "stack", "at", "token", "late"]
abbrev P_read_wish : List Str := ["text"]
def d_read_wish : He.DefD := ⟨("read_wish", none), "read_wish", "read_wish", defArgs s_read_wish, defBody s_read_wish, defScope s_read_wish, [], []⟩
abbrev s_Library_init : Stmt := inClass (top 41) 1
abbrev N_Library_init : List Str := ["self", "alphabet", "limit"]
abbrev P_Library_init : List Str := ["self", "alphabet", "limit"]
def d_Library_init : He.DefD := ⟨("Library", some "__init__"), "__init__", "Library.__init__", defArgs s_Library_init, defBody s_Library_init, defScope s_Library_init, [], [("limit", .int 6)]⟩
abbrev s_Library_busy : Stmt := inClass (top 41) 5
abbrev N_Library_busy : List Str := ["self"]
abbrev P_Library_busy : List Str := ["self"]
def d_Library_busy : He.DefD := ⟨("Library", some "busy"), "busy", "Library.busy", defArgs s_Library_busy, defBody s_Library_busy, defScope s_Library_busy, [], []⟩
abbrev s_Library_check_known : Stmt := inClass (top 41) 7
abbrev N_Library_check_known : List Str := ["self", "name"]
abbrev P_Library_check_known : List Str := ["self", "name"]
def d_Library_check_known : He.DefD := ⟨("Library", some "check_known"), "check_known", "Library.check_known", defArgs s_Library_check_known, defBody s_Library_check_known, defScope s_Library_check_known, [], []⟩
abbrev s_Library_names : Stmt := inClass (top 41) 8
abbrev N_Library_names : List Str := ["self"]
abbrev P_Library_names : List Str := ["self"]
def d_Library_names : He.DefD := ⟨("Library", some "names"), "names", "Library.names", defArgs s_Library_names, defBody s_Library_names, defScope s_Library_names, [], []⟩
abbrev s_Library_users : Stmt := inClass (top 41) 9
abbrev N_Library_users : List Str := ["self", "name", "late"]
abbrev P_Library_users : List Str := ["self", "name"]
def d_Library_users : He.DefD := ⟨("Library", some "users"), "users", "Library.users", defArgs s_Library_users, defBody s_Library_users, defScope s_Library_users, [], []⟩
abbrev s_Library_touched : Stmt := inClass (top 41) 10
abbrev N_Library_touched : List Str := ["self", "name", "found", "late", "used"]
abbrev P_Library_touched : List Str := ["self", "name"]
def d_Library_touched : He.DefD := ⟨("Library", some "touched"), "touched", "Library.touched", defArgs s_Library_touched, defBody s_Library_touched, defScope s_Library_touched, [], []⟩
abbrev s_Library_checked : Stmt := inClass (top 41) 11
abbrev N_Library_checked : List Str := ["self", "text", "early", "wish", "letter", "name"]
abbrev P_Library_checked : List Str := ["self", "text", "early"]
def d_Library_checked : He.DefD := ⟨("Library", some "checked"), "checked", "Library.checked", defArgs s_Library_checked, defBody s_Library_checked, defScope s_Library_checked, [], []⟩
abbrev s_Library_apply : Stmt := inClass (top 41) 16
abbrev N_Library_apply : List Str := ["self", "commands", "before", "kept", "done", "at", "command"]
abbrev P_Library_apply : List Str := ["self", "commands"]
def d_Library_apply : He.DefD := ⟨("Library", some "apply"), "apply", "Library.apply", defArgs s_Library_apply, defBody s_Library_apply, defScope s_Library_apply, [], []⟩
abbrev s_Library_done : Stmt := inClass (top 41) 17
abbrev N_Library_done : List Str := ["self", "command", "word", "name", "early", "wish"]
abbrev P_Library_done : List Str := ["self", "command"]
def d_Library_done : He.DefD := ⟨("Library", some "done"), "done", "Library.done", defArgs s_Library_done, defBody s_Library_done, defScope s_Library_done, [], []⟩
abbrev s_Library_let_go : Stmt := inClass (top 41) 18
abbrev N_Library_let_go : List Str := ["self", "names", "name"]
abbrev P_Library_let_go : List Str := ["self", "names"]
def d_Library_let_go : He.DefD := ⟨("Library", some "let_go"), "let_go", "Library.let_go", defArgs s_Library_let_go, defBody s_Library_let_go, defScope s_Library_let_go, [], []⟩
abbrev s_Library_moved : Stmt := inClass (top 41) 19
abbrev N_Library_moved : List Str := ["self", "name", "late", "wishes", "kept", "one", "tokens", "token"]
abbrev P_Library_moved : List Str := ["self", "name", "late"]
def d_Library_moved : He.DefD := ⟨("Library", some "moved"), "moved", "Library.moved", defArgs s_Library_moved, defBody s_Library_moved, defScope s_Library_moved, [], []⟩
abbrev s_Library_wish_of : Stmt := inClass (top 41) 20
abbrev N_Library_wish_of : List Str := ["self", "name"]
abbrev P_Library_wish_of : List Str := ["self", "name"]
def d_Library_wish_of : He.DefD := ⟨("Library", some "wish_of"), "wish_of", "Library.wish_of", defArgs s_Library_wish_of, defBody s_Library_wish_of, defScope s_Library_wish_of, [], []⟩
abbrev s_Library_undo : Stmt := inClass (top 41) 25
abbrev N_Library_undo : List Str := ["self"]
abbrev P_Library_undo : List Str := ["self"]
def d_Library_undo : He.DefD := ⟨("Library", some "undo"), "undo", "Library.undo", defArgs s_Library_undo, defBody s_Library_undo, defScope s_Library_undo, [], []⟩
abbrev s_Library_redo : Stmt := inClass (top 41) 26
abbrev N_Library_redo : List Str := ["self"]
abbrev P_Library_redo : List Str := ["self"]
def d_Library_redo : He.DefD := ⟨("Library", some "redo"), "redo", "Library.redo", defArgs s_Library_redo, defBody s_Library_redo, defScope s_Library_redo, [], []⟩
abbrev s_Library_history : Stmt := inClass (top 41) 27
abbrev N_Library_history : List Str := ["self"]
abbrev P_Library_history : List Str := ["self"]
def d_Library_history : He.DefD := ⟨("Library", some "history"), "history", "Library.history", defArgs s_Library_history, defBody s_Library_history, defScope s_Library_history, [], []⟩
abbrev s_Library_contains : Stmt := inClass (top 41) 29
abbrev N_Library_contains : List Str := ["self", "name"]
abbrev P_Library_contains : List Str := ["self", "name"]
def d_Library_contains : He.DefD := ⟨("Library", some "__contains__"), "__contains__", "Library.__contains__", defArgs s_Library_contains, defBody s_Library_contains, defScope s_Library_contains, [], []⟩
abbrev s_Library_getitem : Stmt := inClass (top 41) 30
abbrev N_Library_getitem : List Str := ["self", "name"]
abbrev P_Library_getitem : List Str := ["self", "name"]
def d_Library_getitem : He.DefD := ⟨("Library", some "__getitem__"), "__getitem__", "Library.__getitem__", defArgs s_Library_getitem, defBody s_Library_getitem, defScope s_Library_getitem, [], []⟩
abbrev s_Library_iter : Stmt := inClass (top 41) 32
abbrev N_Library_iter : List Str := ["self"]
abbrev P_Library_iter : List Str := ["self"]
def d_Library_iter : He.DefD := ⟨("Library", some "__iter__"), "__iter__", "Library.__iter__", defArgs s_Library_iter, defBody s_Library_iter, defScope s_Library_iter, [], []⟩
abbrev s_Library_len : Stmt := inClass (top 41) 33
abbrev N_Library_len : List Str := ["self"]
abbrev P_Library_len : List Str := ["self"]
def d_Library_len : He.DefD := ⟨("Library", some "__len__"), "__len__", "Library.__len__", defArgs s_Library_len, defBody s_Library_len, defScope s_Library_len, [], []⟩
abbrev s_Library_repr : Stmt := inClass (top 41) 36
abbrev N_Library_repr : List Str := ["self"]
abbrev P_Library_repr : List Str := ["self"]
def d_Library_repr : He.DefD := ⟨("Library", some "__repr__"), "__repr__", "Library.__repr__", defArgs s_Library_repr, defBody s_Library_repr, defScope s_Library_repr, [], []⟩
abbrev s_is_command : Stmt := top 42
abbrev N_is_command : List Str := ["value"]
abbrev P_is_command : List Str := ["value"]
def d_is_command : He.DefD := ⟨("is_command", none), "is_command", "is_command", defArgs s_is_command, defBody s_is_command, defScope s_is_command, [], []⟩
abbrev s_l_field : Stmt := top 44
abbrev N_l_field : List Str := ["_law_e"]
abbrev P_l_field : List Str := ["_law_e"]
def d_l_field : He.DefD := ⟨("_law_field", none), "_law_field", "_law_field", defArgs s_l_field, defBody s_l_field, defScope s_l_field, [], []⟩
abbrev s_l_draws : Stmt := top 45
abbrev N_l_draws : List Str := ["_law_script", "_law_seed", "_law_cell"]
abbrev P_l_draws : List Str := ["_law_script"]
def d_l_draws : He.DefD := ⟨("_law_draws", none), "_law_draws", "_law_draws", defArgs s_l_draws, defBody s_l_draws, defScope s_l_draws, [], []⟩
abbrev s_l_pull : Stmt := top 46
abbrev N_l_pull : List Str := ["_law_bag", "_law_sides", "_law_cell", "_law_digit", "_law_seed"]
abbrev P_l_pull : List Str := ["_law_bag", "_law_sides"]
def d_l_pull : He.DefD := ⟨("_law_pull", none), "_law_pull", "_law_pull", defArgs s_l_pull, defBody s_l_pull, defScope s_l_pull, [], []⟩
abbrev s_l_any : Stmt := top 47
abbrev N_l_any : List Str := ["_law_bag", "_law_rows"]
abbrev P_l_any : List Str := ["_law_bag", "_law_rows"]
def d_l_any : He.DefD := ⟨("_law_any", none), "_law_any", "_law_any", defArgs s_l_any, defBody s_l_any, defScope s_l_any, [], []⟩
abbrev s_l_mixed : Stmt := top 48
abbrev N_l_mixed : List Str := ["_law_bag", "_law_rows", "_law_found", "_law_row"]
abbrev P_l_mixed : List Str := ["_law_bag", "_law_rows"]
def d_l_mixed : He.DefD := ⟨("_law_mixed", none), "_law_mixed", "_law_mixed", defArgs s_l_mixed, defBody s_l_mixed, defScope s_l_mixed, [], []⟩
abbrev s_l_like : Stmt := top 49
abbrev N_l_like : List Str := ["_law_a", "_law_b", "_law_same", "_law_c", "_law_d"]
abbrev P_l_like : List Str := ["_law_a", "_law_b"]
def d_l_like : He.DefD := ⟨("_law_like", none), "_law_like", "_law_like", defArgs s_l_like, defBody s_l_like, defScope s_l_like, [], []⟩
abbrev s_l_try : Stmt := top 50
abbrev N_l_try : List Str := ["_law_ask", "_law_e"]
abbrev P_l_try : List Str := ["_law_ask"]
def d_l_try : He.DefD := ⟨("_law_try", none), "_law_try", "_law_try", defArgs s_l_try, defBody s_l_try, defScope s_l_try, [], []⟩
abbrev s_l_alphabet : Stmt := top 51
abbrev N_l_alphabet : List Str := ["_law_bag", "_law_most", "_law_abc", "_law_many", "_law_first", "_law_second", "_law_at"]
abbrev P_l_alphabet : List Str := ["_law_bag", "_law_most"]
def d_l_alphabet : He.DefD := ⟨("_law_alphabet", none), "_law_alphabet", "_law_alphabet", defArgs s_l_alphabet, defBody s_l_alphabet, defScope s_l_alphabet, [], []⟩
abbrev s_l_word : Stmt := top 52
abbrev N_l_word : List Str := ["_law_bag", "_law_alphabet_here", "_law_low", "_law_high", "_law_k"]
abbrev P_l_word : List Str := ["_law_bag", "_law_alphabet_here", "_law_low", "_law_high"]
def d_l_word : He.DefD := ⟨("_law_word", none), "_law_word", "_law_word", defArgs s_l_word, defBody s_l_word, defScope s_l_word, [], []⟩
abbrev s_l_words : Stmt := top 53
abbrev N_l_words : List Str := ["_law_bag", "_law_alphabet_here", "_law_most", "_law_k"]
abbrev P_l_words : List Str := ["_law_bag", "_law_alphabet_here", "_law_most"]
def d_l_words : He.DefD := ⟨("_law_words", none), "_law_words", "_law_words", defArgs s_l_words, defBody s_l_words, defScope s_l_words, [], []⟩
abbrev s_l_leaf : Stmt := top 54
abbrev N_l_leaf : List Str := ["_law_bag", "_law_alphabet_here", "_law_most", "_law_names_here", "_law_way"]
abbrev P_l_leaf : List Str := ["_law_bag", "_law_alphabet_here", "_law_most", "_law_names_here"]
def d_l_leaf : He.DefD := ⟨("_law_leaf", none), "_law_leaf", "_law_leaf", defArgs s_l_leaf, defBody s_l_leaf, defScope s_l_leaf, [], []⟩
abbrev s_l_tree : Stmt := top 55
abbrev N_l_tree : List Str := ["_law_bag", "_law_alphabet_here", "_law_most", "_law_names_here", "_law_line", "_law_k", "_law_turn"]
abbrev P_l_tree : List Str := ["_law_bag", "_law_alphabet_here", "_law_most", "_law_names_here"]
def d_l_tree : He.DefD := ⟨("_law_tree", none), "_law_tree", "_law_tree", defArgs s_l_tree, defBody s_l_tree, defScope s_l_tree, [], []⟩
abbrev s_l_tokens : Stmt := top 56
abbrev N_l_tokens : List Str := ["_law_tree_here"]
abbrev P_l_tokens : List Str := ["_law_tree_here"]
def d_l_tokens : He.DefD := ⟨("_law_tokens", none), "_law_tokens", "_law_tokens", defArgs s_l_tokens, defBody s_l_tokens, defScope s_l_tokens, [], []⟩
abbrev s_l_names : Stmt := top 57
abbrev N_l_names : List Str := ["_law_bag", "_law_many", "_law_stem", "_law_k", "_law_at", "_law_tails", "_law_tail"]
abbrev P_l_names : List Str := ["_law_bag", "_law_many"]
def d_l_names : He.DefD := ⟨("_law_names", none), "_law_names", "_law_names", defArgs s_l_names, defBody s_l_names, defScope s_l_names, [], []⟩
abbrev s_l_uses : Stmt := top 58
abbrev N_l_uses : List Str := ["_law_tree_here", "_law_token"]
abbrev P_l_uses : List Str := ["_law_tree_here"]
def d_l_uses : He.DefD := ⟨("_law_uses", none), "_law_uses", "_law_uses", defArgs s_l_uses, defBody s_l_uses, defScope s_l_uses, [], []⟩
abbrev s_l_renamed : Stmt := top 59
abbrev N_l_renamed : List Str := ["_law_tree_here", "_law_name", "_law_late"]
abbrev P_l_renamed : List Str := ["_law_tree_here", "_law_name", "_law_late"]
def d_l_renamed : He.DefD := ⟨("_law_renamed", none), "_law_renamed", "_law_renamed", defArgs s_l_renamed, defBody s_l_renamed, defScope s_l_renamed, [], []⟩
abbrev s_l_done : Stmt := top 60
abbrev N_l_done : List Str := ["_law_model", "_law_command_here", "_law_word_here", "_law_name", "_law_one", "_law_tree_here"]
abbrev P_l_done : List Str := ["_law_model", "_law_command_here"]
def d_l_done : He.DefD := ⟨("_law_done", none), "_law_done", "_law_done", defArgs s_l_done, defBody s_l_done, defScope s_l_done, [], []⟩
abbrev s_l_command : Stmt := top 61
abbrev N_l_command : List Str := ["_law_bag", "_law_alphabet_here", "_law_model", "_law_names_here", "_law_known", "_law_one", "_law_tree_here", "_law_free", "_law_way", "_law_name", "_law_loose", "_law_late"]
abbrev P_l_command : List Str := ["_law_bag", "_law_alphabet_here", "_law_model", "_law_names_here"]
def d_l_command : He.DefD := ⟨("_law_command", none), "_law_command", "_law_command", defArgs s_l_command, defBody s_l_command, defScope s_l_command, [], []⟩
abbrev s_l_as_text : Stmt := top 62
abbrev N_l_as_text : List Str := ["_law_command_here"]
abbrev P_l_as_text : List Str := ["_law_command_here"]
def d_l_as_text : He.DefD := ⟨("_law_as_text", none), "_law_as_text", "_law_as_text", defArgs s_l_as_text, defBody s_l_as_text, defScope s_l_as_text, [], []⟩
abbrev s_l_shows : Stmt := top 63
abbrev N_l_shows : List Str := ["_law_library", "_law_model", "_law_known", "_law_one", "_law_tree_here", "_law_name", "_law_users", "_law_late", "_law_other"]
abbrev P_l_shows : List Str := ["_law_library", "_law_model"]
def d_l_shows : He.DefD := ⟨("_law_shows", none), "_law_shows", "_law_shows", defArgs s_l_shows, defBody s_l_shows, defScope s_l_shows, [], []⟩
abbrev s_law : Stmt := top 64
abbrev N_law : List Str := ["_law_script", "_law_bag", "_law_turn", "_law_alphabet_here", "_law_names_here", "_law_model", "_law_library", "_law_past", "_law_gone", "_law_deed", "_law_way", "_law_command_here", "_law_late", "_law_commands", "_law_one", "_law_told"]
abbrev P_law : List Str := ["_law_script"]
def d_law : He.DefD := ⟨("law", none), "law", "law", defArgs s_law, defBody s_law, defScope s_law, [], []⟩
def fns : List (He.DefD) := [d_Missing_init, d_UnknownName_init, d_NothingLeft_init, d_is_number, d_is_word, d_is_alphabet, d_is_name, d_Wish_init, d_Wish_tokens, d_Wish_names, d_Wish_needed, d_Words_needed, d_words_token, d_token_read, d_read_wish, d_Library_init, d_Library_check_known, d_Library_names, d_Library_users, d_Library_touched, d_Library_checked, d_Library_apply, d_Library_done, d_Library_let_go, d_Library_moved, d_Library_wish_of, d_Library_undo, d_Library_redo, d_Library_history, d_Library_contains, d_Library_getitem, d_Library_iter, d_Library_len, d_Library_repr, d_is_command, d_l_field, d_l_draws, d_l_pull, d_l_any, d_l_mixed, d_l_like, d_l_try, d_l_alphabet, d_l_word, d_l_words, d_l_leaf, d_l_tree, d_l_tokens, d_l_names, d_l_uses, d_l_renamed, d_l_done, d_l_command, d_l_as_text, d_l_shows, d_law]
def fcs : List (He.DefD × Str) := [(d_Words_init, "Words"), (d_Behind_init, "Behind"), (d_Behind_needed, "Behind"), (d_Both_init, "Both"), (d_Either_init, "Either"), (d_Named_init, "Named")]
def gNames : List Str := (["SlipError", "InvalidAlphabet", "InvalidWord", "InvalidName", "InvalidLimit", "StrangeLetter", "InvalidWish", "InvalidCommand", "TooMany", "DuplicateName", "InUse", "Missing", "UnknownName", "NothingLeft", "is_number", "is_word", "is_alphabet", "is_name", "Wish", "Words", "Never", "Blocks", "Behind", "Both"] : List (Str)) ++ (["Either", "Named", "words_token", "token_read", "read_wish", "Library", "is_command", "_law_field", "_law_draws", "_law_pull", "_law_any", "_law_mixed", "_law_like", "_law_try", "_law_alphabet", "_law_word", "_law_words", "_law_leaf", "_law_tree", "_law_tokens", "_law_names", "_law_uses", "_law_renamed", "_law_done"] : List (Str)) ++ (["_law_command", "_law_as_text", "_law_shows", "law"] : List (Str))
def fNames : List Str := ["isinstance", "len", "all", "any", "sorted", "set", "list", "dict", "tuple", "str", "int", "bool", "range", "zip", "enumerate", "iter", "min", "max", "super", "ValueError", "LookupError", "repr"]
def cNames : List Str := ["Never", "Blocks", "Behind", "Both", "Either", "Named", "Library"]
def aNames : List (Str × Str) := ([("Never", "parts"), ("Never", "own_tokens"), ("Never", "words"), ("Never", "word"), ("Never", "name"), ("Blocks", "parts"), ("Blocks", "own_tokens"), ("Blocks", "words"), ("Blocks", "word"), ("Blocks", "name"), ("Behind", "parts"), ("Behind", "own_tokens"), ("Behind", "words"), ("Behind", "word"), ("Behind", "name"), ("Both", "parts"), ("Both", "own_tokens"), ("Both", "words"), ("Both", "word"), ("Both", "name"), ("Either", "parts"), ("Either", "own_tokens"), ("Either", "words"), ("Either", "word")] : List (Str × Str)) ++ ([("Either", "name"), ("Named", "parts"), ("Named", "own_tokens"), ("Named", "words"), ("Named", "word"), ("Named", "name"), ("Library", "alphabet"), ("Library", "own_limit"), ("Library", "own_wishes"), ("Library", "own_kept"), ("Library", "own_past"), ("Library", "own_undone"), ("Library", "own_count"), ("Library", "own_busy")] : List (Str × Str))
def mNames : List (Str × Str) := ([("Never", "tokens"), ("Never", "names"), ("Never", "needed"), ("Blocks", "tokens"), ("Blocks", "names"), ("Blocks", "needed"), ("Behind", "tokens"), ("Behind", "names"), ("Behind", "needed"), ("Both", "tokens"), ("Both", "names"), ("Both", "needed"), ("Either", "tokens"), ("Either", "names"), ("Either", "needed"), ("Named", "tokens"), ("Named", "names"), ("Named", "needed"), ("Library", "check_known"), ("Library", "names"), ("Library", "users"), ("Library", "touched"), ("Library", "checked"), ("Library", "apply")] : List (Str × Str)) ++ ([("Library", "done"), ("Library", "let_go"), ("Library", "moved"), ("Library", "wish_of"), ("Library", "undo"), ("Library", "redo"), ("Library", "history"), ("Library", "__contains__"), ("Library", "__getitem__"), ("Library", "__iter__"), ("Library", "__len__"), ("Library", "__repr__")] : List (Str × Str))
def kNames : List Str := ["Never", "Blocks", "Behind", "Both", "Either", "Named", "Library"]
/-! ### defs whose closure is the class's own cell (super) -/
/-- the closure's names in the place of the cells -/
abbrev FnC : Type := Option (Str × Str × Arguments × FuncBody × Scope × Addr × List Str × Addr)
def fnC (K : PySem.W.Frag) (p : Str × Option Str) : FnC := match K.lookup (He.fAd K p) with
  | some ⟨_, _, .func fd, _⟩ => some (fd.name, fd.qualname, fd.params, fd.body, fd.scope, fd.globals, fd.closure.map (·.1), fd.builtins)
  | _ => none
def fnCv (d : He.DefD) : FnC := some (d.name, d.qual, d.params, .stmts d.body, d.scope, mainGlobals, ["__class__"], builtinsNs)
def cellTo (K : PySem.W.Frag) (cc D : Addr) : Bool := match K.lookup cc with
  | some ⟨_, _, .cell (some (.ref D')), _⟩ => decide (D' = D)
  | _ => false
def noV : Value → Bool
  | .none => true
  | _ => false
def fnCok (K : PySem.W.Frag) (q : He.DefD × Str) : Bool := PySem.W.keepIn K (.ref (He.fAd K q.1.at_)) && (match K.lookup (He.fAd K q.1.at_) with
  | some ⟨_, _, .func fd, _⟩ => PySem.W.codeIn K fd.code q.1.qual && (noV fd.defaults && (match fd.closure with
    | [(_, cc)] => cellTo K cc (He.ga K q.2)
    | _ => false))
  | _ => false)
/-- such a def as it stands behind the top -/
structure FunC (K : PySem.W.Frag) (d : He.DefD) (D f : Addr) (fd : FuncData) : Prop where
  ex : ∃ (oc : Value) (od : Option Addr) (kV doc pm : Value) (an : Option Addr) (cdv ct : Value) (osl : Array (Option Value)) (cc : Addr),
    fd = PySem.W.ksFn d.name d.qual d.params d.body d.scope .none kV doc pm an cdv ct cc ∧ K.lookup f = some ⟨oc, od, .func fd, osl⟩ ∧ PySem.W.codeIn K cdv d.qual = true ∧ cellTo K cc D = true
  kp : PySem.W.keepIn K (.ref f) = true
/-- the function's data at an address -/
def fdA (K : PySem.W.Frag) (a : Addr) : FuncData := match K.lookup a with
  | some ⟨_, _, .func fd, _⟩ => fd
  | _ => ⟨"", "", ⟨[], [], none, [], [], none, []⟩, .stmts [], ⟨.function, [], false, false, []⟩, 0, [], .none, .none, .none, .none, none, .none, .none, 0⟩
theorem fdA_of {K : PySem.W.Frag} {a : Addr} {oc : Value} {od : Option Addr} {fd : FuncData} {sl : Array (Option Value)} (h : K.lookup a = some ⟨oc, od, .func fd, sl⟩) : fdA K a = fd := by
  unfold fdA
  rw [h]
/-- a def of the text stands at its place -/
abbrev FD (K : PySem.W.Frag) (d : He.DefD) : Prop := FunD K d.name d.qual d.params d.body d.scope (d.dvs K) (d.kws K) (He.fAd K d.at_) (fdA K (He.fAd K d.at_))
abbrev FC (K : PySem.W.Frag) (d : He.DefD) (D : Str) : Prop := FunC K d (He.ga K D) (He.fAd K d.at_) (fdA K (He.fAd K d.at_))
theorem FD.of {K : PySem.W.Frag} {d : He.DefD} (h : ∃ fd, FunD K d.name d.qual d.params d.body d.scope (d.dvs K) (d.kws K) (He.fAd K d.at_) fd) : FD K d := by
  obtain ⟨fd, F⟩ := h
  obtain ⟨oc, od, dV, kV, doc, pm, an, cdv, ct, osl, e, l, r⟩ := id F.ex
  have q := fdA_of l
  show FunD K d.name d.qual d.params d.body d.scope (d.dvs K) (d.kws K) (He.fAd K d.at_) (fdA K (He.fAd K d.at_))
  rw [q]
  exact F
/-! ### what the written part tells -/
structure Txt (K : PySem.W.Frag) (mg : Str → Option Value) : Prop where
  fn : ∀ (i : Nat) (d : He.DefD), fns[i]? = some d → FD K d
  fc : ∀ (i : Nat) (q : He.DefD × Str), fcs[i]? = some q → FC K q.1 q.2
  glo : ∀ x ∈ gNames, mg x = some (.ref (He.ga K x))
  kp : ∀ x ∈ gNames, PySem.W.keepIn K (.ref (He.ga K x)) = true
  free : ∀ x ∈ fNames, mg x = none
  cl : ∀ x ∈ cNames, Cls K (He.ga K x)
  no : ∀ p ∈ aNames, NoAttr K (He.ga K p.1) p.2
  me : ∀ p ∈ mNames, Meth K (He.ga K p.1) p.2 (He.ma K (He.ga K p.1) p.2)
  mkO : ∀ x ∈ kNames, Mk K (He.ga K x) (He.ma K (He.ga K x) "__init__")
  vLETTERS : ∃ t, mg "LETTERS" = some (.str "abcdefghijklmnopqrstuvwxyz" t)
  vLet : ∃ t, mg "MOST_LETTERS" = some (.int 200 t)
  vTok : ∃ t, mg "MOST_TOKENS" = some (.int 20 t)
  vWords : ∃ t, mg "MOST_WORDS" = some (.int 4 t)
  vLong : ∃ t, mg "MOST_LONG" = some (.int 6 t)
  vNames : ∃ t, mg "MOST_NAMES" = some (.int 12 t)
section
variable {K : PySem.W.Frag} {mg : Str → Option Value}
theorem Txt.g (T : Txt K mg) (x : Str) (h : x ∈ gNames := by decide +kernel) : mg x = some (.ref (He.ga K x)) := T.glo x h
theorem Txt.k (T : Txt K mg) (x : Str) (h : x ∈ gNames := by decide +kernel) : PySem.W.keepIn K (.ref (He.ga K x)) = true := T.kp x h
theorem Txt.f (T : Txt K mg) {x : Str} (h : x ∈ fNames := by decide +kernel) : mg x = none := T.free x h
theorem Txt.c (T : Txt K mg) (x : Str) (h : x ∈ cNames := by decide +kernel) : Cls K (He.ga K x) := T.cl x h
theorem Txt.n (T : Txt K mg) (x a : Str) (h : (x, a) ∈ aNames := by decide +kernel) : NoAttr K (He.ga K x) a := T.no (x, a) h
theorem Txt.m (T : Txt K mg) (x a : Str) (h : (x, a) ∈ mNames := by decide +kernel) : Meth K (He.ga K x) a (He.ma K (He.ga K x) a) := T.me (x, a) h
theorem Txt.mkr (T : Txt K mg) (x : Str) (h : x ∈ kNames := by decide +kernel) : Mk K (He.ga K x) (He.ma K (He.ga K x) "__init__") := T.mkO x h
theorem Txt.f_Missing_init (T : Txt K mg) : FD K d_Missing_init := T.fn 0 d_Missing_init rfl
theorem Txt.f_UnknownName_init (T : Txt K mg) : FD K d_UnknownName_init := T.fn 1 d_UnknownName_init rfl
theorem Txt.f_NothingLeft_init (T : Txt K mg) : FD K d_NothingLeft_init := T.fn 2 d_NothingLeft_init rfl
theorem Txt.f_is_number (T : Txt K mg) : FD K d_is_number := T.fn 3 d_is_number rfl
theorem Txt.f_is_word (T : Txt K mg) : FD K d_is_word := T.fn 4 d_is_word rfl
theorem Txt.f_is_alphabet (T : Txt K mg) : FD K d_is_alphabet := T.fn 5 d_is_alphabet rfl
theorem Txt.f_is_name (T : Txt K mg) : FD K d_is_name := T.fn 6 d_is_name rfl
theorem Txt.f_Wish_init (T : Txt K mg) : FD K d_Wish_init := T.fn 7 d_Wish_init rfl
theorem Txt.f_Wish_tokens (T : Txt K mg) : FD K d_Wish_tokens := T.fn 8 d_Wish_tokens rfl
theorem Txt.f_Wish_names (T : Txt K mg) : FD K d_Wish_names := T.fn 9 d_Wish_names rfl
theorem Txt.f_Wish_needed (T : Txt K mg) : FD K d_Wish_needed := T.fn 10 d_Wish_needed rfl
theorem Txt.f_Words_needed (T : Txt K mg) : FD K d_Words_needed := T.fn 11 d_Words_needed rfl
theorem Txt.f_words_token (T : Txt K mg) : FD K d_words_token := T.fn 12 d_words_token rfl
theorem Txt.f_token_read (T : Txt K mg) : FD K d_token_read := T.fn 13 d_token_read rfl
theorem Txt.f_read_wish (T : Txt K mg) : FD K d_read_wish := T.fn 14 d_read_wish rfl
theorem Txt.f_Library_init (T : Txt K mg) : FD K d_Library_init := T.fn 15 d_Library_init rfl
theorem Txt.f_Library_check_known (T : Txt K mg) : FD K d_Library_check_known := T.fn 16 d_Library_check_known rfl
theorem Txt.f_Library_names (T : Txt K mg) : FD K d_Library_names := T.fn 17 d_Library_names rfl
theorem Txt.f_Library_users (T : Txt K mg) : FD K d_Library_users := T.fn 18 d_Library_users rfl
theorem Txt.f_Library_touched (T : Txt K mg) : FD K d_Library_touched := T.fn 19 d_Library_touched rfl
theorem Txt.f_Library_checked (T : Txt K mg) : FD K d_Library_checked := T.fn 20 d_Library_checked rfl
theorem Txt.f_Library_apply (T : Txt K mg) : FD K d_Library_apply := T.fn 21 d_Library_apply rfl
theorem Txt.f_Library_done (T : Txt K mg) : FD K d_Library_done := T.fn 22 d_Library_done rfl
theorem Txt.f_Library_let_go (T : Txt K mg) : FD K d_Library_let_go := T.fn 23 d_Library_let_go rfl
theorem Txt.f_Library_moved (T : Txt K mg) : FD K d_Library_moved := T.fn 24 d_Library_moved rfl
theorem Txt.f_Library_wish_of (T : Txt K mg) : FD K d_Library_wish_of := T.fn 25 d_Library_wish_of rfl
theorem Txt.f_Library_undo (T : Txt K mg) : FD K d_Library_undo := T.fn 26 d_Library_undo rfl
theorem Txt.f_Library_redo (T : Txt K mg) : FD K d_Library_redo := T.fn 27 d_Library_redo rfl
theorem Txt.f_Library_history (T : Txt K mg) : FD K d_Library_history := T.fn 28 d_Library_history rfl
theorem Txt.f_Library_contains (T : Txt K mg) : FD K d_Library_contains := T.fn 29 d_Library_contains rfl
theorem Txt.f_Library_getitem (T : Txt K mg) : FD K d_Library_getitem := T.fn 30 d_Library_getitem rfl
theorem Txt.f_Library_iter (T : Txt K mg) : FD K d_Library_iter := T.fn 31 d_Library_iter rfl
theorem Txt.f_Library_len (T : Txt K mg) : FD K d_Library_len := T.fn 32 d_Library_len rfl
theorem Txt.f_Library_repr (T : Txt K mg) : FD K d_Library_repr := T.fn 33 d_Library_repr rfl
theorem Txt.f_is_command (T : Txt K mg) : FD K d_is_command := T.fn 34 d_is_command rfl
theorem Txt.f_l_field (T : Txt K mg) : FD K d_l_field := T.fn 35 d_l_field rfl
theorem Txt.f_l_draws (T : Txt K mg) : FD K d_l_draws := T.fn 36 d_l_draws rfl
theorem Txt.f_l_pull (T : Txt K mg) : FD K d_l_pull := T.fn 37 d_l_pull rfl
theorem Txt.f_l_any (T : Txt K mg) : FD K d_l_any := T.fn 38 d_l_any rfl
theorem Txt.f_l_mixed (T : Txt K mg) : FD K d_l_mixed := T.fn 39 d_l_mixed rfl
theorem Txt.f_l_like (T : Txt K mg) : FD K d_l_like := T.fn 40 d_l_like rfl
theorem Txt.f_l_try (T : Txt K mg) : FD K d_l_try := T.fn 41 d_l_try rfl
theorem Txt.f_l_alphabet (T : Txt K mg) : FD K d_l_alphabet := T.fn 42 d_l_alphabet rfl
theorem Txt.f_l_word (T : Txt K mg) : FD K d_l_word := T.fn 43 d_l_word rfl
theorem Txt.f_l_words (T : Txt K mg) : FD K d_l_words := T.fn 44 d_l_words rfl
theorem Txt.f_l_leaf (T : Txt K mg) : FD K d_l_leaf := T.fn 45 d_l_leaf rfl
theorem Txt.f_l_tree (T : Txt K mg) : FD K d_l_tree := T.fn 46 d_l_tree rfl
theorem Txt.f_l_tokens (T : Txt K mg) : FD K d_l_tokens := T.fn 47 d_l_tokens rfl
theorem Txt.f_l_names (T : Txt K mg) : FD K d_l_names := T.fn 48 d_l_names rfl
theorem Txt.f_l_uses (T : Txt K mg) : FD K d_l_uses := T.fn 49 d_l_uses rfl
theorem Txt.f_l_renamed (T : Txt K mg) : FD K d_l_renamed := T.fn 50 d_l_renamed rfl
theorem Txt.f_l_done (T : Txt K mg) : FD K d_l_done := T.fn 51 d_l_done rfl
theorem Txt.f_l_command (T : Txt K mg) : FD K d_l_command := T.fn 52 d_l_command rfl
theorem Txt.f_l_as_text (T : Txt K mg) : FD K d_l_as_text := T.fn 53 d_l_as_text rfl
theorem Txt.f_l_shows (T : Txt K mg) : FD K d_l_shows := T.fn 54 d_l_shows rfl
theorem Txt.f_law (T : Txt K mg) : FD K d_law := T.fn 55 d_law rfl
theorem Txt.c_Words_init (T : Txt K mg) : FC K d_Words_init "Words" := T.fc 0 (d_Words_init, "Words") rfl
theorem Txt.c_Behind_init (T : Txt K mg) : FC K d_Behind_init "Behind" := T.fc 1 (d_Behind_init, "Behind") rfl
theorem Txt.c_Behind_needed (T : Txt K mg) : FC K d_Behind_needed "Behind" := T.fc 2 (d_Behind_needed, "Behind") rfl
theorem Txt.c_Both_init (T : Txt K mg) : FC K d_Both_init "Both" := T.fc 3 (d_Both_init, "Both") rfl
theorem Txt.c_Either_init (T : Txt K mg) : FC K d_Either_init "Either" := T.fc 4 (d_Either_init, "Either") rfl
theorem Txt.c_Named_init (T : Txt K mg) : FC K d_Named_init "Named" := T.fc 5 (d_Named_init, "Named") rfl
theorem Txt.b_Missing_init (T : Txt K mg) : Binds K (fdA K (He.fAd K d_Missing_init.at_)) P_Missing_init [] := T.f_Missing_init.bindsN fun _ _ _ _ _ _ us hl => match us, hl with | [_, _], _ => rfl
theorem Txt.b_UnknownName_init (T : Txt K mg) : Binds K (fdA K (He.fAd K d_UnknownName_init.at_)) P_UnknownName_init [] := T.f_UnknownName_init.bindsN fun _ _ _ _ _ _ us hl => match us, hl with | [_, _], _ => rfl
theorem Txt.b_NothingLeft_init (T : Txt K mg) : Binds K (fdA K (He.fAd K d_NothingLeft_init.at_)) P_NothingLeft_init [] := T.f_NothingLeft_init.bindsN fun _ _ _ _ _ _ us hl => match us, hl with | [_], _ => rfl
theorem Txt.b_is_number (T : Txt K mg) : Binds K (fdA K (He.fAd K d_is_number.at_)) P_is_number [] := T.f_is_number.bindsN fun _ _ _ _ _ _ us hl => match us, hl with | [_, _, _], _ => rfl
theorem Txt.b_is_alphabet (T : Txt K mg) : Binds K (fdA K (He.fAd K d_is_alphabet.at_)) P_is_alphabet [] := T.f_is_alphabet.bindsN fun _ _ _ _ _ _ us hl => match us, hl with | [_], _ => rfl
theorem Txt.b_is_name (T : Txt K mg) : Binds K (fdA K (He.fAd K d_is_name.at_)) P_is_name [] := T.f_is_name.bindsN fun _ _ _ _ _ _ us hl => match us, hl with | [_], _ => rfl
theorem Txt.b_Wish_init (T : Txt K mg) : Binds K (fdA K (He.fAd K d_Wish_init.at_)) P_Wish_init [] := T.f_Wish_init.bindsN fun _ _ _ _ _ _ us hl => match us, hl with | [_, _, _], _ => rfl
theorem Txt.b_Wish_tokens (T : Txt K mg) : Binds K (fdA K (He.fAd K d_Wish_tokens.at_)) P_Wish_tokens [] := T.f_Wish_tokens.bindsN fun _ _ _ _ _ _ us hl => match us, hl with | [_], _ => rfl
theorem Txt.b_Wish_names (T : Txt K mg) : Binds K (fdA K (He.fAd K d_Wish_names.at_)) P_Wish_names [] := T.f_Wish_names.bindsN fun _ _ _ _ _ _ us hl => match us, hl with | [_], _ => rfl
theorem Txt.b_Wish_needed (T : Txt K mg) : Binds K (fdA K (He.fAd K d_Wish_needed.at_)) P_Wish_needed [] := T.f_Wish_needed.bindsN fun _ _ _ _ _ _ us hl => match us, hl with | [_], _ => rfl
theorem Txt.b_Words_needed (T : Txt K mg) : Binds K (fdA K (He.fAd K d_Words_needed.at_)) P_Words_needed [] := T.f_Words_needed.bindsN fun _ _ _ _ _ _ us hl => match us, hl with | [_], _ => rfl
theorem Txt.b_words_token (T : Txt K mg) : Binds K (fdA K (He.fAd K d_words_token.at_)) P_words_token [] := T.f_words_token.bindsN fun _ _ _ _ _ _ us hl => match us, hl with | [_, _], _ => rfl
theorem Txt.b_token_read (T : Txt K mg) : Binds K (fdA K (He.fAd K d_token_read.at_)) P_token_read [] := T.f_token_read.bindsN fun _ _ _ _ _ _ us hl => match us, hl with | [_, _], _ => rfl
theorem Txt.b_read_wish (T : Txt K mg) : Binds K (fdA K (He.fAd K d_read_wish.at_)) P_read_wish [] := T.f_read_wish.bindsN fun _ _ _ _ _ _ us hl => match us, hl with | [_], _ => rfl
theorem Txt.b_Library_check_known (T : Txt K mg) : Binds K (fdA K (He.fAd K d_Library_check_known.at_)) P_Library_check_known [] := T.f_Library_check_known.bindsN fun _ _ _ _ _ _ us hl => match us, hl with | [_, _], _ => rfl
theorem Txt.b_Library_names (T : Txt K mg) : Binds K (fdA K (He.fAd K d_Library_names.at_)) P_Library_names [] := T.f_Library_names.bindsN fun _ _ _ _ _ _ us hl => match us, hl with | [_], _ => rfl
theorem Txt.b_Library_users (T : Txt K mg) : Binds K (fdA K (He.fAd K d_Library_users.at_)) P_Library_users [] := T.f_Library_users.bindsN fun _ _ _ _ _ _ us hl => match us, hl with | [_, _], _ => rfl
theorem Txt.b_Library_touched (T : Txt K mg) : Binds K (fdA K (He.fAd K d_Library_touched.at_)) P_Library_touched [] := T.f_Library_touched.bindsN fun _ _ _ _ _ _ us hl => match us, hl with | [_, _], _ => rfl
theorem Txt.b_Library_checked (T : Txt K mg) : Binds K (fdA K (He.fAd K d_Library_checked.at_)) P_Library_checked [] := T.f_Library_checked.bindsN fun _ _ _ _ _ _ us hl => match us, hl with | [_, _, _], _ => rfl
theorem Txt.b_Library_done (T : Txt K mg) : Binds K (fdA K (He.fAd K d_Library_done.at_)) P_Library_done [] := T.f_Library_done.bindsN fun _ _ _ _ _ _ us hl => match us, hl with | [_, _], _ => rfl
theorem Txt.b_Library_let_go (T : Txt K mg) : Binds K (fdA K (He.fAd K d_Library_let_go.at_)) P_Library_let_go [] := T.f_Library_let_go.bindsN fun _ _ _ _ _ _ us hl => match us, hl with | [_, _], _ => rfl
theorem Txt.b_Library_moved (T : Txt K mg) : Binds K (fdA K (He.fAd K d_Library_moved.at_)) P_Library_moved [] := T.f_Library_moved.bindsN fun _ _ _ _ _ _ us hl => match us, hl with | [_, _, _], _ => rfl
theorem Txt.b_Library_wish_of (T : Txt K mg) : Binds K (fdA K (He.fAd K d_Library_wish_of.at_)) P_Library_wish_of [] := T.f_Library_wish_of.bindsN fun _ _ _ _ _ _ us hl => match us, hl with | [_, _], _ => rfl
theorem Txt.b_Library_undo (T : Txt K mg) : Binds K (fdA K (He.fAd K d_Library_undo.at_)) P_Library_undo [] := T.f_Library_undo.bindsN fun _ _ _ _ _ _ us hl => match us, hl with | [_], _ => rfl
theorem Txt.b_Library_redo (T : Txt K mg) : Binds K (fdA K (He.fAd K d_Library_redo.at_)) P_Library_redo [] := T.f_Library_redo.bindsN fun _ _ _ _ _ _ us hl => match us, hl with | [_], _ => rfl
theorem Txt.b_Library_history (T : Txt K mg) : Binds K (fdA K (He.fAd K d_Library_history.at_)) P_Library_history [] := T.f_Library_history.bindsN fun _ _ _ _ _ _ us hl => match us, hl with | [_], _ => rfl
theorem Txt.b_Library_contains (T : Txt K mg) : Binds K (fdA K (He.fAd K d_Library_contains.at_)) P_Library_contains [] := T.f_Library_contains.bindsN fun _ _ _ _ _ _ us hl => match us, hl with | [_, _], _ => rfl
theorem Txt.b_Library_getitem (T : Txt K mg) : Binds K (fdA K (He.fAd K d_Library_getitem.at_)) P_Library_getitem [] := T.f_Library_getitem.bindsN fun _ _ _ _ _ _ us hl => match us, hl with | [_, _], _ => rfl
theorem Txt.b_Library_iter (T : Txt K mg) : Binds K (fdA K (He.fAd K d_Library_iter.at_)) P_Library_iter [] := T.f_Library_iter.bindsN fun _ _ _ _ _ _ us hl => match us, hl with | [_], _ => rfl
theorem Txt.b_Library_len (T : Txt K mg) : Binds K (fdA K (He.fAd K d_Library_len.at_)) P_Library_len [] := T.f_Library_len.bindsN fun _ _ _ _ _ _ us hl => match us, hl with | [_], _ => rfl
theorem Txt.b_Library_repr (T : Txt K mg) : Binds K (fdA K (He.fAd K d_Library_repr.at_)) P_Library_repr [] := T.f_Library_repr.bindsN fun _ _ _ _ _ _ us hl => match us, hl with | [_], _ => rfl
theorem Txt.b_is_command (T : Txt K mg) : Binds K (fdA K (He.fAd K d_is_command.at_)) P_is_command [] := T.f_is_command.bindsN fun _ _ _ _ _ _ us hl => match us, hl with | [_], _ => rfl
theorem Txt.b_l_field (T : Txt K mg) : Binds K (fdA K (He.fAd K d_l_field.at_)) P_l_field [] := T.f_l_field.bindsN fun _ _ _ _ _ _ us hl => match us, hl with | [_], _ => rfl
theorem Txt.b_l_draws (T : Txt K mg) : Binds K (fdA K (He.fAd K d_l_draws.at_)) P_l_draws [] := T.f_l_draws.bindsN fun _ _ _ _ _ _ us hl => match us, hl with | [_], _ => rfl
theorem Txt.b_l_pull (T : Txt K mg) : Binds K (fdA K (He.fAd K d_l_pull.at_)) P_l_pull [] := T.f_l_pull.bindsN fun _ _ _ _ _ _ us hl => match us, hl with | [_, _], _ => rfl
theorem Txt.b_l_any (T : Txt K mg) : Binds K (fdA K (He.fAd K d_l_any.at_)) P_l_any [] := T.f_l_any.bindsN fun _ _ _ _ _ _ us hl => match us, hl with | [_, _], _ => rfl
theorem Txt.b_l_mixed (T : Txt K mg) : Binds K (fdA K (He.fAd K d_l_mixed.at_)) P_l_mixed [] := T.f_l_mixed.bindsN fun _ _ _ _ _ _ us hl => match us, hl with | [_, _], _ => rfl
theorem Txt.b_l_like (T : Txt K mg) : Binds K (fdA K (He.fAd K d_l_like.at_)) P_l_like [] := T.f_l_like.bindsN fun _ _ _ _ _ _ us hl => match us, hl with | [_, _], _ => rfl
theorem Txt.b_l_try (T : Txt K mg) : Binds K (fdA K (He.fAd K d_l_try.at_)) P_l_try [] := T.f_l_try.bindsN fun _ _ _ _ _ _ us hl => match us, hl with | [_], _ => rfl
theorem Txt.b_l_alphabet (T : Txt K mg) : Binds K (fdA K (He.fAd K d_l_alphabet.at_)) P_l_alphabet [] := T.f_l_alphabet.bindsN fun _ _ _ _ _ _ us hl => match us, hl with | [_, _], _ => rfl
theorem Txt.b_l_word (T : Txt K mg) : Binds K (fdA K (He.fAd K d_l_word.at_)) P_l_word [] := T.f_l_word.bindsN fun _ _ _ _ _ _ us hl => match us, hl with | [_, _, _, _], _ => rfl
theorem Txt.b_l_words (T : Txt K mg) : Binds K (fdA K (He.fAd K d_l_words.at_)) P_l_words [] := T.f_l_words.bindsN fun _ _ _ _ _ _ us hl => match us, hl with | [_, _, _], _ => rfl
theorem Txt.b_l_leaf (T : Txt K mg) : Binds K (fdA K (He.fAd K d_l_leaf.at_)) P_l_leaf [] := T.f_l_leaf.bindsN fun _ _ _ _ _ _ us hl => match us, hl with | [_, _, _, _], _ => rfl
theorem Txt.b_l_tree (T : Txt K mg) : Binds K (fdA K (He.fAd K d_l_tree.at_)) P_l_tree [] := T.f_l_tree.bindsN fun _ _ _ _ _ _ us hl => match us, hl with | [_, _, _, _], _ => rfl
theorem Txt.b_l_tokens (T : Txt K mg) : Binds K (fdA K (He.fAd K d_l_tokens.at_)) P_l_tokens [] := T.f_l_tokens.bindsN fun _ _ _ _ _ _ us hl => match us, hl with | [_], _ => rfl
theorem Txt.b_l_names (T : Txt K mg) : Binds K (fdA K (He.fAd K d_l_names.at_)) P_l_names [] := T.f_l_names.bindsN fun _ _ _ _ _ _ us hl => match us, hl with | [_, _], _ => rfl
theorem Txt.b_l_uses (T : Txt K mg) : Binds K (fdA K (He.fAd K d_l_uses.at_)) P_l_uses [] := T.f_l_uses.bindsN fun _ _ _ _ _ _ us hl => match us, hl with | [_], _ => rfl
theorem Txt.b_l_renamed (T : Txt K mg) : Binds K (fdA K (He.fAd K d_l_renamed.at_)) P_l_renamed [] := T.f_l_renamed.bindsN fun _ _ _ _ _ _ us hl => match us, hl with | [_, _, _], _ => rfl
theorem Txt.b_l_done (T : Txt K mg) : Binds K (fdA K (He.fAd K d_l_done.at_)) P_l_done [] := T.f_l_done.bindsN fun _ _ _ _ _ _ us hl => match us, hl with | [_, _], _ => rfl
theorem Txt.b_l_command (T : Txt K mg) : Binds K (fdA K (He.fAd K d_l_command.at_)) P_l_command [] := T.f_l_command.bindsN fun _ _ _ _ _ _ us hl => match us, hl with | [_, _, _, _], _ => rfl
theorem Txt.b_l_as_text (T : Txt K mg) : Binds K (fdA K (He.fAd K d_l_as_text.at_)) P_l_as_text [] := T.f_l_as_text.bindsN fun _ _ _ _ _ _ us hl => match us, hl with | [_], _ => rfl
theorem Txt.b_l_shows (T : Txt K mg) : Binds K (fdA K (He.fAd K d_l_shows.at_)) P_l_shows [] := T.f_l_shows.bindsN fun _ _ _ _ _ _ us hl => match us, hl with | [_, _], _ => rfl
theorem Txt.b_law (T : Txt K mg) : Binds K (fdA K (He.fAd K d_law.at_)) P_law [] := T.f_law.bindsN fun _ _ _ _ _ _ us hl => match us, hl with | [_], _ => rfl
theorem Txt.b_is_word1 (T : Txt K mg) : ∃ ds, Vals [V.int 200] ds ∧ Binds K (fdA K (He.ga K "is_word")) P_is_word ds :=
  T.f_is_word.binds1 1 0 (show [V.int 200] ≠ [] from List.cons_ne_nil _ _) rfl fun _ _ _ _ _ _ _ us its hu hi => match us, its, hu, hi with | [_], [_], _, _ => ⟨_, rfl, rfl⟩
theorem Txt.b_is_word2 (T : Txt K mg) : ∃ ds, Vals ([] : List V) ds ∧ Binds K (fdA K (He.ga K "is_word")) P_is_word ds :=
  T.f_is_word.binds1 2 1 (show [V.int 200] ≠ [] from List.cons_ne_nil _ _) rfl fun _ _ _ _ _ _ _ us its hu hi => match us, its, hu, hi with | [_, _], [_], _, _ => ⟨_, rfl, rfl⟩
end
/-- a def of the module, a method, keeps its promise at level k -/
abbrev OkG (P : Program) (w : World) (K : PySem.W.Frag) (mg : Str → Option Value) (base : Heap) (CX : CXT) (k : Nat) (x : Str) (ps : List Str) (sp : Sp) : Prop := FnOk P w K mg base CX k (He.ga K x) (fdA K (He.ga K x)) ps sp
abbrev OkM (P : Program) (w : World) (K : PySem.W.Frag) (mg : Str → Option Value) (base : Heap) (CX : CXT) (k : Nat) (x m : Str) (ps : List Str) (sp : Sp) : Prop := FnOk P w K mg base CX k (He.ma K (He.ga K x) m) (fdA K (He.ma K (He.ga K x) m)) ps sp
theorem sc_Missing_init : FnScope N_Missing_init P_Missing_init (defScope s_Missing_init) := ⟨rfl, rfl, rfl, by decide +kernel, rfl, by decide +kernel, by decide +kernel⟩
theorem sc_UnknownName_init : FnScope N_UnknownName_init P_UnknownName_init (defScope s_UnknownName_init) := ⟨rfl, rfl, rfl, by decide +kernel, rfl, by decide +kernel, by decide +kernel⟩
theorem sc_NothingLeft_init : FnScope N_NothingLeft_init P_NothingLeft_init (defScope s_NothingLeft_init) := ⟨rfl, rfl, rfl, by decide +kernel, rfl, by decide +kernel, by decide +kernel⟩
theorem sc_is_number : FnScope N_is_number P_is_number (defScope s_is_number) := ⟨rfl, rfl, rfl, by decide +kernel, rfl, by decide +kernel, by decide +kernel⟩
theorem sc_is_word : FnScope N_is_word P_is_word (defScope s_is_word) := ⟨rfl, rfl, rfl, by decide +kernel, rfl, by decide +kernel, by decide +kernel⟩
theorem sc_is_alphabet : FnScope N_is_alphabet P_is_alphabet (defScope s_is_alphabet) := ⟨rfl, rfl, rfl, by decide +kernel, rfl, by decide +kernel, by decide +kernel⟩
theorem sc_is_name : FnScope N_is_name P_is_name (defScope s_is_name) := ⟨rfl, rfl, rfl, by decide +kernel, rfl, by decide +kernel, by decide +kernel⟩
theorem sc_Wish_init : FnScope N_Wish_init P_Wish_init (defScope s_Wish_init) := ⟨rfl, rfl, rfl, by decide +kernel, rfl, by decide +kernel, by decide +kernel⟩
theorem sc_Wish_tokens : FnScope N_Wish_tokens P_Wish_tokens (defScope s_Wish_tokens) := ⟨rfl, rfl, rfl, by decide +kernel, rfl, by decide +kernel, by decide +kernel⟩
theorem sc_Wish_names : FnScope N_Wish_names P_Wish_names (defScope s_Wish_names) := ⟨rfl, rfl, rfl, by decide +kernel, rfl, by decide +kernel, by decide +kernel⟩
theorem sc_Wish_needed : FnScope N_Wish_needed P_Wish_needed (defScope s_Wish_needed) := ⟨rfl, rfl, rfl, by decide +kernel, rfl, by decide +kernel, by decide +kernel⟩
theorem sc_Words_needed : FnScope N_Words_needed P_Words_needed (defScope s_Words_needed) := ⟨rfl, rfl, rfl, by decide +kernel, rfl, by decide +kernel, by decide +kernel⟩
theorem sc_words_token : FnScope N_words_token P_words_token (defScope s_words_token) := ⟨rfl, rfl, rfl, by decide +kernel, rfl, by decide +kernel, by decide +kernel⟩
theorem sc_token_read : FnScope N_token_read P_token_read (defScope s_token_read) := ⟨rfl, rfl, rfl, by decide +kernel, rfl, by decide +kernel, by decide +kernel⟩
theorem sc_read_wish : FnScope N_read_wish P_read_wish (defScope s_read_wish) := ⟨rfl, rfl, rfl, by decide +kernel, rfl, by decide +kernel, by decide +kernel⟩
theorem sc_Library_init : FnScope N_Library_init P_Library_init (defScope s_Library_init) := ⟨rfl, rfl, rfl, by decide +kernel, rfl, by decide +kernel, by decide +kernel⟩
theorem sc_Library_check_known : FnScope N_Library_check_known P_Library_check_known (defScope s_Library_check_known) := ⟨rfl, rfl, rfl, by decide +kernel, rfl, by decide +kernel, by decide +kernel⟩
theorem sc_Library_names : FnScope N_Library_names P_Library_names (defScope s_Library_names) := ⟨rfl, rfl, rfl, by decide +kernel, rfl, by decide +kernel, by decide +kernel⟩
theorem sc_Library_users : FnScope N_Library_users P_Library_users (defScope s_Library_users) := ⟨rfl, rfl, rfl, by decide +kernel, rfl, by decide +kernel, by decide +kernel⟩
theorem sc_Library_touched : FnScope N_Library_touched P_Library_touched (defScope s_Library_touched) := ⟨rfl, rfl, rfl, by decide +kernel, rfl, by decide +kernel, by decide +kernel⟩
theorem sc_Library_checked : FnScope N_Library_checked P_Library_checked (defScope s_Library_checked) := ⟨rfl, rfl, rfl, by decide +kernel, rfl, by decide +kernel, by decide +kernel⟩
theorem sc_Library_apply : FnScope N_Library_apply P_Library_apply (defScope s_Library_apply) := ⟨rfl, rfl, rfl, by decide +kernel, rfl, by decide +kernel, by decide +kernel⟩
theorem sc_Library_done : FnScope N_Library_done P_Library_done (defScope s_Library_done) := ⟨rfl, rfl, rfl, by decide +kernel, rfl, by decide +kernel, by decide +kernel⟩
theorem sc_Library_let_go : FnScope N_Library_let_go P_Library_let_go (defScope s_Library_let_go) := ⟨rfl, rfl, rfl, by decide +kernel, rfl, by decide +kernel, by decide +kernel⟩
theorem sc_Library_moved : FnScope N_Library_moved P_Library_moved (defScope s_Library_moved) := ⟨rfl, rfl, rfl, by decide +kernel, rfl, by decide +kernel, by decide +kernel⟩
theorem sc_Library_wish_of : FnScope N_Library_wish_of P_Library_wish_of (defScope s_Library_wish_of) := ⟨rfl, rfl, rfl, by decide +kernel, rfl, by decide +kernel, by decide +kernel⟩
theorem sc_Library_undo : FnScope N_Library_undo P_Library_undo (defScope s_Library_undo) := ⟨rfl, rfl, rfl, by decide +kernel, rfl, by decide +kernel, by decide +kernel⟩
theorem sc_Library_redo : FnScope N_Library_redo P_Library_redo (defScope s_Library_redo) := ⟨rfl, rfl, rfl, by decide +kernel, rfl, by decide +kernel, by decide +kernel⟩
theorem sc_Library_history : FnScope N_Library_history P_Library_history (defScope s_Library_history) := ⟨rfl, rfl, rfl, by decide +kernel, rfl, by decide +kernel, by decide +kernel⟩
theorem sc_Library_contains : FnScope N_Library_contains P_Library_contains (defScope s_Library_contains) := ⟨rfl, rfl, rfl, by decide +kernel, rfl, by decide +kernel, by decide +kernel⟩
theorem sc_Library_getitem : FnScope N_Library_getitem P_Library_getitem (defScope s_Library_getitem) := ⟨rfl, rfl, rfl, by decide +kernel, rfl, by decide +kernel, by decide +kernel⟩
theorem sc_Library_iter : FnScope N_Library_iter P_Library_iter (defScope s_Library_iter) := ⟨rfl, rfl, rfl, by decide +kernel, rfl, by decide +kernel, by decide +kernel⟩
theorem sc_Library_len : FnScope N_Library_len P_Library_len (defScope s_Library_len) := ⟨rfl, rfl, rfl, by decide +kernel, rfl, by decide +kernel, by decide +kernel⟩
theorem sc_Library_repr : FnScope N_Library_repr P_Library_repr (defScope s_Library_repr) := ⟨rfl, rfl, rfl, by decide +kernel, rfl, by decide +kernel, by decide +kernel⟩
theorem sc_is_command : FnScope N_is_command P_is_command (defScope s_is_command) := ⟨rfl, rfl, rfl, by decide +kernel, rfl, by decide +kernel, by decide +kernel⟩
theorem sc_l_field : FnScope N_l_field P_l_field (defScope s_l_field) := ⟨rfl, rfl, rfl, by decide +kernel, rfl, by decide +kernel, by decide +kernel⟩
theorem sc_l_draws : FnScope N_l_draws P_l_draws (defScope s_l_draws) := ⟨rfl, rfl, rfl, by decide +kernel, rfl, by decide +kernel, by decide +kernel⟩
theorem sc_l_pull : FnScope N_l_pull P_l_pull (defScope s_l_pull) := ⟨rfl, rfl, rfl, by decide +kernel, rfl, by decide +kernel, by decide +kernel⟩
theorem sc_l_any : FnScope N_l_any P_l_any (defScope s_l_any) := ⟨rfl, rfl, rfl, by decide +kernel, rfl, by decide +kernel, by decide +kernel⟩
theorem sc_l_mixed : FnScope N_l_mixed P_l_mixed (defScope s_l_mixed) := ⟨rfl, rfl, rfl, by decide +kernel, rfl, by decide +kernel, by decide +kernel⟩
theorem sc_l_like : FnScope N_l_like P_l_like (defScope s_l_like) := ⟨rfl, rfl, rfl, by decide +kernel, rfl, by decide +kernel, by decide +kernel⟩
theorem sc_l_try : FnScope N_l_try P_l_try (defScope s_l_try) := ⟨rfl, rfl, rfl, by decide +kernel, rfl, by decide +kernel, by decide +kernel⟩
theorem sc_l_alphabet : FnScope N_l_alphabet P_l_alphabet (defScope s_l_alphabet) := ⟨rfl, rfl, rfl, by decide +kernel, rfl, by decide +kernel, by decide +kernel⟩
theorem sc_l_word : FnScope N_l_word P_l_word (defScope s_l_word) := ⟨rfl, rfl, rfl, by decide +kernel, rfl, by decide +kernel, by decide +kernel⟩
theorem sc_l_words : FnScope N_l_words P_l_words (defScope s_l_words) := ⟨rfl, rfl, rfl, by decide +kernel, rfl, by decide +kernel, by decide +kernel⟩
theorem sc_l_leaf : FnScope N_l_leaf P_l_leaf (defScope s_l_leaf) := ⟨rfl, rfl, rfl, by decide +kernel, rfl, by decide +kernel, by decide +kernel⟩
theorem sc_l_tree : FnScope N_l_tree P_l_tree (defScope s_l_tree) := ⟨rfl, rfl, rfl, by decide +kernel, rfl, by decide +kernel, by decide +kernel⟩
theorem sc_l_tokens : FnScope N_l_tokens P_l_tokens (defScope s_l_tokens) := ⟨rfl, rfl, rfl, by decide +kernel, rfl, by decide +kernel, by decide +kernel⟩
theorem sc_l_names : FnScope N_l_names P_l_names (defScope s_l_names) := ⟨rfl, rfl, rfl, by decide +kernel, rfl, by decide +kernel, by decide +kernel⟩
theorem sc_l_uses : FnScope N_l_uses P_l_uses (defScope s_l_uses) := ⟨rfl, rfl, rfl, by decide +kernel, rfl, by decide +kernel, by decide +kernel⟩
theorem sc_l_renamed : FnScope N_l_renamed P_l_renamed (defScope s_l_renamed) := ⟨rfl, rfl, rfl, by decide +kernel, rfl, by decide +kernel, by decide +kernel⟩
theorem sc_l_done : FnScope N_l_done P_l_done (defScope s_l_done) := ⟨rfl, rfl, rfl, by decide +kernel, rfl, by decide +kernel, by decide +kernel⟩
theorem sc_l_command : FnScope N_l_command P_l_command (defScope s_l_command) := ⟨rfl, rfl, rfl, by decide +kernel, rfl, by decide +kernel, by decide +kernel⟩
theorem sc_l_as_text : FnScope N_l_as_text P_l_as_text (defScope s_l_as_text) := ⟨rfl, rfl, rfl, by decide +kernel, rfl, by decide +kernel, by decide +kernel⟩
theorem sc_l_shows : FnScope N_l_shows P_l_shows (defScope s_l_shows) := ⟨rfl, rfl, rfl, by decide +kernel, rfl, by decide +kernel, by decide +kernel⟩
theorem sc_law : FnScope N_law P_law (defScope s_law) := ⟨rfl, rfl, rfl, by decide +kernel, rfl, by decide +kernel, by decide +kernel⟩
theorem sc_Library_busy : FnScope N_Library_busy P_Library_busy (defScope s_Library_busy) := ⟨rfl, rfl, rfl, by decide +kernel, rfl, by decide +kernel, by decide +kernel⟩
/-- the getter of the property -/
def busyA (K : PySem.W.Frag) : Addr := match PySem.W.recIn K (He.ma K (He.ga K "Library") "busy") "property" with
  | some (.ref g :: _) => g
  | _ => 0
abbrev FPb (K : PySem.W.Frag) : Prop := FunD K d_Library_busy.name d_Library_busy.qual d_Library_busy.params d_Library_busy.body d_Library_busy.scope [] [] (busyA K) (fdA K (busyA K))
end Lst

/-! ## LRun -/
/-! the facts of the text, looked at in one part of the heap -/
namespace Lst
open PySem PySem.Spec PyProof.Rows L2
/-! ### the part of the heap -/
def refsAll (g : Addr → Option Obj) : List Addr → List Addr
  | [] => []
  | a :: r => (match g a with
    | some o => He.refsD o
    | none => []) ++ refsAll g r
def freshA {α : Type} : List Addr → Nat → List Addr → (List Addr → Nat → α) → α
  | [], seen, acc, k => k acc.reverse seen
  | a :: r, seen, acc, k => HandSHeadRun.frNat a fun a => match Nat.testBit seen a with
    | true => freshA r seen acc k
    | false => HandSHeadRun.frNat (Nat.lor seen (Nat.shiftLeft 1 a)) fun seen' => freshA r seen' (a :: acc) k
def growA (g : Addr → Option Obj) : Nat → List Addr → Nat → List Addr → List Addr
  | 0, _, _, all => all
  | n + 1, front, seen, all => freshA (refsAll g front) seen [] fun new seen' => growA g n new seen' (all ++ new)
def asL (g : Addr → Option Obj) : List Addr := growA g 5 [mainGlobals] (Nat.shiftLeft 1 mainGlobals) [mainGlobals, cStatics]
def KF (g : Addr → Option Obj) : PySem.W.Frag := He.frT g (asL g)
/-! ### what is looked at -/
def faL : List He.Fa := gNames.map .glo ++ (gNames.map .keep ++ (fNames.map .free ++ (cNames.map .cls ++ ((aNames.map fun p => .noat p.1 p.2) ++ ((mNames.map fun p => .meth p.1 p.2) ++ (kNames.map .mkr ++
  ([.str "LETTERS" "abcdefghijklmnopqrstuvwxyz", .int "MOST_LETTERS" 200, .int "MOST_TOKENS" 20, .int "MOST_WORDS" 4, .int "MOST_LONG" 6, .int "MOST_NAMES" 12, .glo "SIZES"] : List He.Fa)))))))
def tsL : List He.Tab := [(fun K => He.ga K "SIZES", ["put", "change", "drop", "rename"])]
abbrev bmL : List Value := [.type "LookupError", .type "Exception", .type "BaseException", .type "object"]
abbrev WCh : List Str := ["Never", "Blocks", "Behind", "Both", "Either", "Named"]
def ndOfh (cn : Str) : Str := if cn = "Never" ∨ cn = "Blocks" then "Words" else if cn = "Behind" then "Behind" else "Wish"
def inOfh (cn : Str) : Str := if cn = "Never" ∨ cn = "Blocks" then "Words" else cn
/-- the program -/
abbrev lawP : Program := PySem.Challenge.pw_lastslip_k72_whole_steps_of_libraries
section
variable (K : PySem.W.Frag)
def methTo (cn m D : Str) : Bool := He.eqO (PySem.W.findIn K (.ref (He.ga K cn)) m) (some (some (.ref (He.ma K (He.ga K D) m)))) && (PySem.W.isFn K (.ref (He.ma K (He.ga K D) m)) && PySem.W.keepIn K (.ref (He.ma K (He.ga K D) m)))
def mkTo (cn D : Str) : Bool := PySem.W.makesIn K (He.ga K cn) && (He.eqO (PySem.W.findIn K (.ref (He.ga K cn)) "__init__") (some (some (.ref (He.ma K (He.ga K D) "__init__")))) && (PySem.W.isFn K (.ref (He.ma K (He.ga K D) "__init__")) && PySem.W.keepIn K (.ref (He.ga K cn))))
def supB (C D : Addr) (m : Str) (f2 : Addr) : Bool := (PySem.W.clsIn K C).isSome && ((PySem.W.clsIn K D).isSome && (decide (PySem.W.mroIn K C (.ref D) = some true) && (He.eqO (PySem.W.ks_superIn K C D m) (some (some (.ref f2))) &&
  (decide (PySem.W.typeIn K (.ref f2) = some (.type "function")) && (PySem.W.fnIn K f2 && He.eqO (PySem.W.nsIn K cStatics "thirdparty.any") (some none))))))
def rcB (P : Program) (d : He.DefD) : Bool := match K.lookup (He.fAd K d.at_) with
  | some ⟨_, _, .func fd, _⟩ => (match fd.code with
    | .ref c => (match K.lookup c with
      | some ⟨_, _, .fields vs, _⟩ => (match (vs[2]? : Option Value) with
        | some (.str file _) => (P.main.file : Str) == file
        | _ => false)
      | _ => false)
    | _ => false)
  | _ => false
def lexInB (C : Addr) : Bool := match K.lookup C with
  | some ⟨.type t, _, .cls cd, sl⟩ => (match cd.mro, sl.toList with
    | .ref C' :: bm, [_, _, _, _, some (.builtin n), _] => decide (t = "type") && (decide (C' = C) && (decide (n = "LookupError.__new__") && (!cd.hasDel && (cd.hasDict && PySem.W.excTail bmL bm))))
    | _, _ => false)
  | _ => false
def lexB (C : Addr) : Bool := lexInB K C && (PySem.W.excOver K C bmL && (He.eqO (PySem.W.findIn K (.ref C) "__setattr__") (some (some (.builtin "object.__setattr__"))) &&
  (decide (PySem.W.subIn K (.ref C) (.type "BaseException") = some true) && (decide (PySem.W.typeIn K (.ref C) = some (.type "type")) && PySem.W.keepIn K (.ref C)))))
def excNames : List Str := ["UnknownName", "NothingLeft"]
def valB (C : Value) (m : Str) (v : Value) : Bool := match PySem.W.findCls K C (.type "type") m with
  | some (.val u) => decide (u = v)
  | _ => false
def recB (p g : Addr) : Bool := match PySem.W.recIn K p "property" with
  | some (.ref g' :: _) => decide (g' = g)
  | _ => false
def fnWb : He.FnW := match K.lookup (busyA K) with
  | some ⟨_, _, .func fd, _⟩ => some (fd.name, fd.qualname, fd.params, fd.body, fd.scope, fd.globals, fd.closure, fd.builtins)
  | _ => none
def busyB : Bool := PySem.W.keepIn K (.ref (busyA K)) && (match K.lookup (busyA K) with
  | some ⟨_, _, .func fd, _⟩ => PySem.W.codeIn K fd.code d_Library_busy.qual && (He.dflB K fd.defaults [] && He.kwdB K fd.kwdefaults [])
  | _ => false)
def propB : Bool := He.eqO (PySem.W.findIn K (.ref (He.ga K "Library")) "busy") (some (some (.ref (He.ma K (He.ga K "Library") "busy")))) && (He.eqO (PySem.W.specialIn K (.ref (He.ma K (He.ga K "Library") "busy")) "__get__") (some (some (.builtin "property.__get__"))) &&
  (decide (PySem.W.takesIn K (.ref (He.ma K (He.ga K "Library") "busy")) = some true) && recB K (He.ma K (He.ga K "Library") "busy") (busyA K)))
def exs : List Bool := [
  fcs.all (fnCok K),
  WCh.all fun cn => methTo K cn "tokens" "Wish",
  WCh.all fun cn => methTo K cn "names" "Wish",
  WCh.all fun cn => methTo K cn "needed" (ndOfh cn),
  WCh.all fun cn => mkTo K cn (inOfh cn),
  fcs.all fun q => rcB K lawP q.1,
  WCh.all fun cn => supB K (He.ga K cn) (He.ga K (inOfh cn)) "__init__" (He.ma K (He.ga K "Wish") "__init__"),
  supB K (He.ga K "Behind") (He.ga K "Behind") "needed" (He.ma K (He.ga K "Wish") "needed"),
  He.conB K "Never" "HEAD" (.str "never"),
  He.conB K "Blocks" "HEAD" (.str "blocks"),
  excNames.all fun x => lexB K (He.ga K x),
  excNames.all fun x => methTo K x "__init__" x && decide (PySem.W.typeIn K (.ref (He.ma K (He.ga K x) "__init__")) = some (.type "function")),
  excNames.all fun x => He.eqO (PySem.W.findIn K (.ref (He.ga K x)) "code") (some none) && He.eqO (PySem.W.findIn K (.ref (He.ga K x)) "name") (some none),
  valB K (.type "LookupError") "__init__" (.builtin "LookupError.__init__"),
  PySem.W.readsIn K (He.ga K "Missing") (.type "type") && He.eqO (PySem.W.specialIn K (.ref (He.ga K "Missing")) "__getattribute__") (some (some (.builtin "type.__getattribute__"))),
  valB K (.ref (He.ga K "Missing")) "__init__" (.ref (He.ma K (He.ga K "Missing") "__init__")) && PySem.W.keepIn K (.ref (He.ma K (He.ga K "Missing") "__init__")),
  He.valsB K (He.ga K "SIZES") [("put", .int 3), ("change", .int 3), ("rename", .int 3), ("drop", .int 2)],
  excNames.all fun x => L2.xfB K (He.ga K x),
  excNames.all fun x => decide (PySem.W.exmAny K (.ref (He.ga K x)) [.ref (He.ga K "SlipError"), .ref (He.ga K "Missing")] = some true),
  PySem.W.noSeq K (He.ga K "Library"),
  propB K,
  busyB K]
end
def exL (K : PySem.W.Frag) : Bool := (exs K).all id
/-! ### the Hook -/
abbrev tfL : List He.Defn := [("law", none)]
abbrev AlL : Type := He.AlT × Bool × List FnC × He.FnW
def obsK (g : Addr → Option Obj) (K : PySem.W.Frag) : AlL := (He.obsT faL fns tsL K, exL K && He.tabsB g tfL K, fcs.map fun q => fnC K q.1.at_, fnWb K)
def obsL (g : Addr → Option Obj) : AlL := obsK g (KF g)
def valL (w : World) : AlL := (He.valT fns tsL w, true, fcs.map fun q => fnCv q.1, d_Library_busy.val)
structure SaysL (w : World) (h : Heap) (K : PySem.W.Frag) : Prop where
  x : He.SaysX faL fns tsL tfL exL w h K
  fc : fcs.map (fun q => fnC K q.1.at_) = fcs.map fun q => fnCv q.1
  fb : fnWb K = d_Library_busy.val
theorem saysL_of {w : World} {h : Heap} (e : obsL h.get? = valL w) : SaysL w h (KF h.get?) := by
  have e1 : He.obsT faL fns tsL (KF h.get?) = He.valT fns tsL w := congrArg (fun z : AlL => z.1) e
  have e2 : (exL (KF h.get?) && He.tabsB h.get? tfL (KF h.get?)) = true := congrArg (fun z : AlL => z.2.1) e
  have e3 : fcs.map (fun q => fnC (KF h.get?) q.1.at_) = fcs.map fun q => fnCv q.1 := congrArg (fun z : AlL => z.2.2.1) e
  have e4 : fnWb (KF h.get?) = d_Library_busy.val := congrArg (fun z : AlL => z.2.2.2) e
  obtain ⟨h1, h2⟩ := He.ba e2
  have key : ∀ p ∈ tfL, PySem.W.codeHdIn (KF h.get?) (He.cT (KF h.get?) p).1 (He.cT (KF h.get?) p).2 = true ∧ ∃ o, h.get? (He.cT (KF h.get?) p).2 = some o ∧ He.emptyTab o = true := fun p hp => by
    obtain ⟨h3, h4⟩ := He.ba (List.all_eq_true.mp h2 p hp)
    refine ⟨h3, ?_⟩
    cases q : h.get? (He.cT (KF h.get?) p).2 with
    | none =>
      rw [q] at h4
      cases h4
    | some o =>
      rw [q] at h4
      exact ⟨o, rfl, h4⟩
  exact ⟨⟨e1, h1, fun p hp => (key p hp).1, fun p hp => by
    obtain ⟨_, o, q, z⟩ := key p hp
    exact He.frT_none q z, fun p hp => by
    obtain ⟨_, o, q, z⟩ := key p hp
    rw [q, He.emptyTab_eq z]⟩, e3, e4⟩
def hookL : PySem.W.Hook where
  α := AlL
  obs := fun s => obsL s.heap.get?
  val := fun w => valL w
  says := fun w h => ∃ K : PySem.W.Frag, K.In h ∧ SaysL w h K
  of := fun _ _ e => ⟨_, He.frT_in, saysL_of e⟩
  keeps := fun _ _ _ ⟨K, hK, c⟩ k => ⟨K, PySem.W.Frag.In.keeps hK k, ⟨⟨c.x.t, c.x.more, c.x.hd, c.x.out, fun p hp => k _ _ (c.x.empty p hp)⟩, c.fc, c.fb⟩⟩
theorem obsL_eq {g : Addr → Option Obj} {s : Shared} (h : ∀ a, g a = s.heap.get? a) : obsL g = hookL.obs s := by
  have e : g = s.heap.get? := funext h
  rw [e] <;> rfl
end Lst
/-! the run of the top -/
namespace Lst
open PySem PySem.Spec PyProof.Rows L2
def loose : List PySem.Str := (["_wall", "SlipError", "InvalidAlphabet", "InvalidWord", "InvalidName", "InvalidLimit", "StrangeLetter", "InvalidWish", "InvalidCommand", "TooMany", "DuplicateName", "InUse", "Missing", "UnknownName", "NothingLeft", "LETTERS", "MOST_LETTERS", "is_number", "is_word", "is_alphabet", "MOST_TOKENS", "MOST_WORDS", "MOST_LONG", "is_name", "Wish", "Words", "Never", "Blocks", "Behind", "Both"] : List PySem.Str) ++ (["Either", "Named", "words_token", "token_read", "read_wish", "MOST_NAMES", "SIZES", "Library", "is_command", "_law_field", "_law_draws", "_law_pull", "_law_any", "_law_mixed", "_law_like", "_law_try", "_law_alphabet", "_law_word", "_law_words", "_law_leaf", "_law_tree", "_law_tokens", "_law_names", "_law_uses", "_law_renamed", "_law_done", "_law_command", "_law_as_text", "_law_shows"] : List PySem.Str)
abbrev rwL : PySem.W.OpenLaw := PySem.Challenge.rw_lastslip_k72_whole_steps_of_libraries
abbrev opR : PySem.W.OpenRow := PySem.W.OpenLaw.row rwL
def obL (s : PySem.W.SharedT) : AlL := obsL (HandSHeadRun.getT s)
theorem obL_eq (s : PySem.W.SharedT) : obL s = hookL.obs s.abs := obsL_eq (HandSHeadRun.getT_eq s)
theorem runF (w : World) : HandSHeadRun.RunEq opR (PySem.W.view opR.prog [64]) hookL obL 20000 loose (w.withFollow "special-get-raises" false) := by
  intro os
  kernel_rfl
theorem runT (w : World) : HandSHeadRun.RunEq opR (PySem.W.view opR.prog [64]) hookL obL 20000 loose (w.withFollow "special-get-raises" true) := by
  intro os
  kernel_rfl
theorem runL (w : World) : HandSHeadRun.RunEq opR (PySem.W.view opR.prog [64]) hookL obL 20000 loose w :=
  PySem.W.byRow2 "special-get-raises" (P := fun w => HandSHeadRun.RunEq opR (PySem.W.view opR.prog [64]) hookL obL 20000 loose w) runF runT w
end Lst

/-! ## LGr -/
namespace Lst
open PySem PySem.Spec PyProof.Rows L2
/-! ### two heaps: H, and within it S, what is never written again. From (H, S) to (H', S'): only what ms names may have been written, all else is kept, S has grown by new objects -/
structure Gm (ms : Addr → Prop) (H S H' S' : Hp) : Prop where
  all : ∀ b o, H b = some o → ¬ ms b → H' b = some o
  live : ∀ b, H b ≠ none → H' b ≠ none
  sub : Same S' H'
  mono : Same S S'
  new : ∀ b, S b = none → H b ≠ none → S' b = none
abbrev noM : Addr → Prop := fun _ => False
abbrev Gr (H S H' S' : Hp) : Prop := Gm noM H S H' S'
abbrev one (β : Addr) : Addr → Prop := fun b => b = β
section
variable {ms ms' : Addr → Prop} {H S H1 S1 H2 S2 H' S' : Hp} {a p : Addr} {o : HO}
theorem Gm.rfl' (h : Same S H) : Gm ms H S H S := ⟨fun _ _ h _ => h, fun _ h => h, h, Same.refl S, fun _ h _ => h⟩
theorem Gm.trans (g : Gm ms H S H1 S1) (k : Gm ms H1 S1 H2 S2) : Gm ms H S H2 S2 :=
  ⟨fun b o h n => k.all b o (g.all b o h n) n, fun b h => k.live b (g.live b h), k.sub, g.mono.trans k.mono, fun b h h' => k.new b (g.new b h h') (g.live b h')⟩
theorem Gm.weak (g : Gm ms H S H1 S1) (h : ∀ b, ms b → ms' b) : Gm ms' H S H1 S1 :=
  ⟨fun b o e n => g.all b o e fun z => n (h b z), g.live, g.sub, g.mono, g.new⟩
theorem Gr.m (g : Gr H S H1 S1) : Gm ms H S H1 S1 := g.weak fun _ z => z.elim
theorem Gr.same (g : Gr H S H1 S1) : Same H H1 := fun b o h => g.all b o h fun z => z
theorem Gm.tr (g : Gm ms H S H1 S1) (k : Gr H1 S1 H2 S2) : Gm ms H S H2 S2 := g.trans k.m
theorem live_of {b : Addr} {o : HO} (h : H b = some o) : H b ≠ none := fun z => by rw [z] at h; cases h
theorem Gm.free (g : Gm ms H S H1 S1) (h : H1 p = none) : H p = none := by
  cases q : H p with
  | none => rfl
  | some o => exact absurd h (g.live p (live_of q))
theorem upd_live (h : ∀ b, H b ≠ none → H1 b ≠ none) : ∀ b, H b ≠ none → upd H1 a o b ≠ none := fun b hb => by
  by_cases e : b = a
  · rw [e, upd_same]
    exact fun z => nomatch z
  · rw [upd_ne e]
    exact h b hb
theorem upd0_ (h : Same S H) (n : H p = none) : Same S (upd H p o) := fun b u e => by
  rw [upd_ne (ne_of_none (h b u e) n)]
  exact h b u e
theorem upd1_ (h : Same S H) : Same (upd S p o) (upd H p o) := fun b u e => by
  by_cases q : b = p
  · rw [q, upd_same] at e ⊢
    exact e
  · rw [upd_ne q] at e ⊢
    exact h b u e
/-- a new object, never written again -/
theorem Gm.laid (g : Gm ms H S H1 S1) (n : H1 p = none) : Gm ms H S (upd H1 p o) (upd S1 p o) := by
  have nS : S1 p = none := Same.free g.sub n
  refine ⟨fun b u e hn => ?_, upd_live g.live, upd1_ g.sub, fun b u e => ?_, fun b h h' => ?_⟩
  · rw [upd_ne (ne_of_none (g.all b u e hn) n)]
    exact g.all b u e hn
  · rw [upd_ne (ne_of_none (g.mono b u e) nS)]
    exact g.mono b u e
  · rw [upd_ne (fun z => h' (by rw [z]; exact g.free n))]
    exact g.new b h h'
/-- a new object that may be written -/
theorem Gm.laid0 (g : Gm ms H S H1 S1) (n : H1 p = none) : Gm ms H S (upd H1 p o) S1 :=
  ⟨fun b u e hn => by rw [upd_ne (ne_of_none (g.all b u e hn) n)]; exact g.all b u e hn, upd_live g.live, upd0_ g.sub n, g.mono, g.new⟩
theorem updN_ (h : Same S H) (n : S p = none) : Same S (upd H p o) := fun b u e => by
  rw [upd_ne (ne_of_none e n)]
  exact h b u e
/-- a store to an object that is newer than H -/
theorem Gm.write (g : Gm ms H S H1 S1) (n : H p = none) (nS : S1 p = none) : Gm ms H S (upd H1 p o) S1 :=
  ⟨fun b u e hn => by rw [upd_ne (ne_of_none e n)]; exact g.all b u e hn, upd_live g.live, updN_ g.sub nS, g.mono, g.new⟩
/-- a store to one of ms -/
theorem Gm.store (g : Gm ms H S H1 S1) (n : ms p) (nS : S1 p = none) : Gm ms H S (upd H1 p o) S1 :=
  ⟨fun b u e hn => by rw [upd_ne (fun z => hn (by rw [z]; exact n))]; exact g.all b u e hn, upd_live g.live, updN_ g.sub nS, g.mono, g.new⟩
/-- from now on an object is never written again -/
theorem Gm.freeze (g : Gm ms H S H1 S1) (e : H1 p = some o) (n : H p = none) (nS : S1 p = none) : Gm ms H S H1 (upd S1 p o) := by
  refine ⟨g.all, g.live, fun b u q => ?_, fun b u q => ?_, fun b h h' => ?_⟩
  · by_cases z : b = p
    · rw [z, upd_same] at q
      rw [z, e]
      exact q
    · rw [upd_ne z] at q
      exact g.sub b u q
  · rw [upd_ne (ne_of_none (g.mono b u q) nS)]
    exact g.mono b u q
  · rw [upd_ne (fun z => h' (by rw [z]; exact n))]
    exact g.new b h h'
theorem Gm.at_ (g : Gm ms H S H1 S1) {b : Addr} {u : HO} (h : S1 b = some u) : H1 b = some u := g.sub b u h
theorem Gm.kept (g : Gm ms H S H1 S1) {b : Addr} {u : HO} (h : H b = some u) (hn : ¬ ms b) : H1 b = some u := g.all b u h hn
theorem Gm.none_ (g : Gm ms H S H1 S1) {b : Addr} (h : S b = none) (h' : H b ≠ none) : S1 b = none := g.new b h h'
end
/-- what is read of S is read of H -/
theorem Same.up {S H : Hp} (h : Same S H) {b : Addr} {u : HO} (e : S b = some u) : H b = some u := h b u e
theorem sql {K : PySem.W.Frag} {H : Hp} {a : Addr} {xs : List V} (h : H a = some (.lst xs)) : SqL K H a xs := SqL.of h
theorem sqt {K : PySem.W.Frag} {H : Hp} {a : Addr} {xs : List V} (h : H a = some (.tup xs)) : SqT K H a xs := SqT.of h
/-! ### a list comprehension: R tells the list so far by S, Z what holds of the rest of H -/
/-- behind i turns -/
def LcP (ms : Addr → Prop) (H1 S1 : Hp) (D : Addr) (R : Nat → List V → Hp → Prop) (Z : Hp → Hp → Prop) (i : Nat) (H : Hp) : Prop :=
  ∃ S acc, Gm ms H1 S1 H S ∧ R i acc S ∧ Z S H ∧ H D = some (.lst acc) ∧ S D = none
section
variable {J : It} {n : Nat} {G : Hp → Prop} {Y : Nat → Hp → V → Hp → Prop} {ms : Addr → Prop} {H1 S1 : Hp} {D : Addr} {R : Nat → List V → Hp → Prop} {Z : Hp → Hp → Prop}
/-- the end of a turn that adds y -/
theorem LcP.add (hD : H1 D = none) (hms : ¬ ms D) (hZ : ∀ S H o, Z S H → Z S (upd H D o)) {i : Nat} {H S H4 S4 : Hp} {acc : List V} {y : V} (g1 : Gm ms H1 S1 H S) (e : H D = some (.lst acc)) (eS : S D = none) (g : Gm ms H S H4 S4) (hl : acc.length < sizeLine)
    (r : R (i + 1) (acc ++ [y]) S4) (z : Z S4 H4) : ∃ acc, H4 D = some (.lst acc) ∧ acc.length < sizeLine ∧ LcP ms H1 S1 D R Z (i + 1) (upd H4 D (.lst (acc ++ [y]))) := by
  have n4 : S4 D = none := g.new D eS (live_of e)
  exact ⟨acc, g.all D _ e hms, hl, S4, acc ++ [y], (g1.trans g).write hD n4, r, hZ _ _ _ z, upd_same, n4⟩
/-- the end of a turn that adds nothing -/
theorem LcP.skip (hms : ¬ ms D) {i : Nat} {H S H4 S4 : Hp} {acc : List V} (g1 : Gm ms H1 S1 H S) (e : H D = some (.lst acc)) (eS : S D = none) (g : Gm ms H S H4 S4)
    (r : R (i + 1) acc S4) (z : Z S4 H4) : LcP ms H1 S1 D R Z (i + 1) H4 :=
  ⟨S4, acc, g1.trans g, r, z, g.all D _ e hms, g.new D eS (live_of e)⟩
theorem lc_g (w : Walk J n G Y) {g : TG} {tt : TT} {te : TE} {vs : List Nat} {σ : L2.St} {Qd : Hp → Prop} (R : Nat → List V → Hp → Prop) (Z : Hp → Hp → Prop) (ms : Addr → Prop) (hD : H1 D = none) (hS : Same S1 H1)
    (h0 : R 0 [] S1) (z0 : Z S1 H1) (hZ : ∀ S H o, Z S H → Z S (upd H D o)) (hG : ∀ i H S acc, i ≤ n → Gm ms H1 S1 H S → R i acc S → Z S H → G H)
    (hs : ∀ i x H H' S acc, i < n → Gm ms H1 S1 H S → R i acc S → Z S H → H D = some (.lst acc) → S D = none → Y i H x H' → g x (wipe σ vs) H' fun σ2 H2 => wipe σ2 vs = wipe σ vs ∧ tt σ2 H2 fun b H3 =>
      if b = true then te σ2 H3 fun y H4 => ∃ acc, H4 D = some (.lst acc) ∧ acc.length < sizeLine ∧ LcP ms H1 S1 D R Z (i + 1) (upd H4 D (.lst (acc ++ [y]))) else LcP ms H1 S1 D R Z (i + 1) H3)
    (hd : ∀ H S acc, Gm ms H1 S1 H S → R n acc S → Z S H → H D = some (.lst acc) → S D = none → Qd H) :
    ∃ W : Nat → Nat → Hp → Prop, (∃ m, W 0 m (upd H1 D (.lst []))) ∧ ∀ i m H, W i m H →
      (J.stop i H ∧ Qd H) ∨ (J.go i H ∧ ∃ Nx : Hp → Prop, (∀ H', Nx H' → ∃ m', m' < m ∧ W (i + 1) m' H') ∧ ∀ x H', J.yld i H x H' → g x (wipe σ vs) H' fun σ2 H2 => wipe σ2 vs = wipe σ vs ∧ tt σ2 H2 fun b H3 =>
        if b = true then te σ2 H3 fun y H4 => ∃ acc, H4 D = some (.lst acc) ∧ acc.length < sizeLine ∧ Nx (upd H4 D (.lst (acc ++ [y]))) else Nx H3) := by
  have nS : S1 D = none := Same.free hS hD
  exact lc_it w (LcP ms H1 S1 D R Z) ⟨S1, [], (Gm.rfl' hS).laid0 hD, h0, hZ _ _ _ z0, upd_same, nS⟩ (fun i H hi ⟨S, acc, g1, r, z, _, _⟩ => hG i H S acc hi g1 r z)
    (fun i x H H' hi ⟨S, acc, g1, r, z, e, eS⟩ y => hs i x H H' S acc hi g1 r z e eS y) fun H ⟨S, acc, g1, r, z, e, eS⟩ => hd H S acc g1 r z e eS
end
/-- nothing more is asked of H -/
abbrev noZ : Hp → Hp → Prop := fun _ _ => True
end Lst

/-! ## LSp -/
namespace Lst
open PySem PySem.Spec PyProof.Rows L2
/-! ### texts -/
def LET : Str := "abcdefghijklmnopqrstuvwxyz"
abbrev sg (x : Str) : List Nat := x.cps.toList
/-- lowercase letters alone -/
def lowS (z : Str) : Bool := (sg z).all fun c => decide (c ∈ sg LET)
def isWordB (z : Str) (m : Int) : Bool := decide ((z.length : Int) ≤ m) && lowS z
def nameOk (z : Str) : Bool := isWordB z 8 && !decide (z ∈ (["", "both", "either"] : List Str))
def wordOk (z : Str) : Bool := isWordB z 6 && !decide (z = "")
/-- the order of texts -/
def ltS (a b : Str) : Prop := sg a < sg b
instance (a b : Str) : Decidable (ltS a b) := inferInstanceAs (Decidable (sg a < sg b))
/-- x put into an ascending list without doubles -/
def ins (x : Str) : List Str → List Str
  | [] => [x]
  | y :: r => if x = y then y :: r else if ltS x y then x :: y :: r else y :: ins x r
/-- sorted(set(xs)) -/
def sd (xs : List Str) : List Str := xs.foldr ins []
/-! ### wishes as trees -/
inductive Tr where
  | nm (n : Str)
  | lf (b : Bool) (ws : List Str)
  | bh (w : Str) (t : Tr)
  | op (b : Bool) (l r : Tr)
def hdS (b : Bool) : Str := if b then "never" else "blocks"
def opS (b : Bool) : Str := if b then "both" else "either"
def leafTok (b : Bool) (ws : List Str) : Str := hdS b ++ ":" ++ Txt.join "," (sd ws)
def bhTok (w : Str) : Str := "behind:" ++ w
def toks : Tr → List Str
  | .nm n => [n]
  | .lf b ws => [leafTok b ws]
  | .bh w t => toks t ++ [bhTok w]
  | .op b l r => toks l ++ toks r ++ [opS b]
/-- the names, with doubles -/
def nms : Tr → List Str
  | .nm n => [n]
  | .lf _ _ => []
  | .bh _ t => nms t
  | .op _ l r => nms l ++ nms r
def depth : Tr → Nat
  | .nm _ => 0
  | .lf _ _ => 0
  | .bh _ t => depth t + 1
  | .op _ l r => max (depth l) (depth r) + 1
/-- the signs of the words -/
def lets : Tr → List Nat
  | .nm _ => []
  | .lf _ ws => ws.flatMap sg
  | .bh w t => lets t ++ sg w
  | .op _ l r => lets l ++ lets r
def ren (a b : Str) : Tr → Tr
  | .nm n => .nm (if n = a then b else n)
  | .lf c ws => .lf c ws
  | .bh w t => .bh w (ren a b t)
  | .op c l r => .op c (ren a b l) (ren a b r)
/-- what read_wish takes -/
def trOk : Tr → Prop
  | .nm n => nameOk n = true
  | .lf _ ws => ws ≠ [] ∧ (sd ws).length ≤ 4 ∧ ∀ x ∈ ws, wordOk x = true
  | .bh w t => wordOk w = true ∧ trOk t
  | .op _ l r => trOk l ∧ trOk r
/-- a word that the law draws -/
def wordIn (al w : Str) : Prop := 1 ≤ w.length ∧ w.length ≤ 2 ∧ ∀ c ∈ sg w, c ∈ sg al
/-- a tree that the law draws -/
def goodT (al : Str) (ns : List Str) : Tr → Prop
  | .nm n => n ∈ ns
  | .lf _ ws => 1 ≤ ws.length ∧ ws.length ≤ 4 ∧ ∀ x ∈ ws, wordIn al x
  | .bh w t => wordIn al w ∧ goodT al ns t
  | .op _ l r => goodT al ns l ∧ goodT al ns r
/-- a drawn alphabet -/
structure AlOk (al : Str) : Prop where
  lo : 1 ≤ al.length
  hi : al.length ≤ 2
  low : lowS al = true
  up : (sg al).Pairwise (· < ·)
/-- the drawn names -/
structure NsOk (ns : List Str) : Prop where
  len : ns.length = 4
  nd : ns.Nodup
  ok : ∀ n ∈ ns, nameOk n = true
  short : ∀ n ∈ ns, n.length ≤ 7
  noz : ∀ n ∈ ns, 122 ∉ sg n
/-! ### where such data stand, in a heap S of what is never written -/
def StrsAt (S : Hp) (v : V) (xs : List Str) : Prop := ∃ a, v = .ref a ∧ S a = some (.lst (xs.map V.str))
def TreeAt (S : Hp) : V → Tr → Prop
  | v, .nm n => ∃ a, v = .ref a ∧ S a = some (.lst [.str "name", .str n])
  | v, .lf b ws => ∃ a l, v = .ref a ∧ S a = some (.lst [.str (hdS b), .ref l]) ∧ S l = some (.lst (ws.map V.str))
  | v, .bh w t => ∃ a u, v = .ref a ∧ S a = some (.lst [.str "behind", .str w, u]) ∧ TreeAt S u t
  | v, .op b l r => ∃ a x y, v = .ref a ∧ S a = some (.lst [.str (opS b), x, y]) ∧ TreeAt S x l ∧ TreeAt S y r
section
variable {S S' : Hp} {v : V}
theorem StrsAt.mono {xs : List Str} (h : Same S S') (t : StrsAt S v xs) : StrsAt S' v xs := by
  obtain ⟨a, e, h1⟩ := t
  exact ⟨a, e, h _ _ h1⟩
theorem TreeAt.mono (h : Same S S') : ∀ {t : Tr} {v : V}, TreeAt S v t → TreeAt S' v t
  | .nm n, v, ⟨a, e, h1⟩ => ⟨a, e, h _ _ h1⟩
  | .lf b ws, v, ⟨a, l, e, h1, h2⟩ => ⟨a, l, e, h _ _ h1, h _ _ h2⟩
  | .bh w t, v, ⟨a, u, e, h1, h2⟩ => ⟨a, u, e, h _ _ h1, TreeAt.mono h h2⟩
  | .op b l r, v, ⟨a, x, y, e, h1, h2, h3⟩ => ⟨a, x, y, e, h _ _ h1, TreeAt.mono h h2, TreeAt.mono h h3⟩
end
/-- the classes of wishes -/
abbrev WC : List Str := ["Never", "Blocks", "Behind", "Both", "Either", "Named"]
abbrev wMeth : List Str := ["tokens", "names", "needed"]
/-- a wish, by its tokens -/
def TokAt (K : PySem.W.Frag) (S : Hp) (v : V) (ts : List Str) : Prop := ∃ (a : Addr) (cn : Str) (dx : Addr) (fs : List (Str × V)) (l : Addr), v = .ref a ∧ cn ∈ WC ∧ S a = some (.ins (He.ga K cn) dx fs) ∧ fs.lookup ("own_tokens" : Str) = some (V.ref l) ∧ S l = some (.lst (ts.map V.str)) ∧ ∀ m ∈ wMeth, fs.lookup m = none
/-- the common part of a wish: its class, its parts, its tokens -/
def fsW (pt l : Addr) : List (Str × V) := [("parts", .ref pt), ("own_tokens", .ref l)]
def fsN (pt l : Addr) (n : Str) : List (Str × V) := [("parts", .ref pt), ("own_tokens", .ref l), ("name", .str n)]
def fsB (pt l : Addr) (w : Str) : List (Str × V) := [("parts", .ref pt), ("own_tokens", .ref l), ("word", .str w)]
def fsV (wt pt l : Addr) : List (Str × V) := [("words", .ref wt), ("parts", .ref pt), ("own_tokens", .ref l)]
def WishAt (K : PySem.W.Frag) (S : Hp) : V → Tr → Prop
  | v, .nm n => ∃ a dx pt l, v = .ref a ∧ S a = some (.ins (He.ga K "Named") dx (fsN pt l n)) ∧ S pt = some (.tup []) ∧ S l = some (.lst [.str n])
  | v, .lf b ws => ∃ a dx wt pt l, v = .ref a ∧ S a = some (.ins (He.ga K (if b then "Never" else "Blocks")) dx (fsV wt pt l)) ∧ S wt = some (.tup ((sd ws).map V.str)) ∧ S pt = some (.tup []) ∧ S l = some (.lst [.str (leafTok b ws)])
  | v, .bh w t => ∃ a dx pt l u, v = .ref a ∧ S a = some (.ins (He.ga K "Behind") dx (fsB pt l w)) ∧ S pt = some (.tup [u]) ∧ S l = some (.lst ((toks (.bh w t)).map V.str)) ∧ WishAt K S u t
  | v, .op b x y => ∃ a dx pt l u u', v = .ref a ∧ S a = some (.ins (He.ga K (if b then "Both" else "Either")) dx (fsW pt l)) ∧ S pt = some (.tup [u, u']) ∧ S l = some (.lst ((toks (.op b x y)).map V.str)) ∧ WishAt K S u x ∧ WishAt K S u' y
theorem lk_no : ∀ {fs : List (Str × V)} {m : Str}, ¬ m ∈ fs.map (·.1) → fs.lookup m = none
  | [], m, _ => rfl
  | p :: r, m, h => by
    obtain ⟨x, v⟩ := p
    have h1 : ¬ m = x := fun e => h (by rw [e]; exact List.mem_cons_self ..)
    have h2 : (m == x) = false := by simpa using h1
    show (match m == x with | true => some v | false => r.lookup m) = none
    rw [h2]
    exact lk_no fun z => h (List.mem_cons_of_mem _ z)
theorem no_wm {fs : List (Str × V)} (l : List Str) (e : fs.map (·.1) = l) (h : ∀ m ∈ wMeth, ¬ m ∈ l) : ∀ m ∈ wMeth, fs.lookup m = none := fun m hm => lk_no (by rw [e]; exact h m hm)
section
variable {K : PySem.W.Frag} {S S' : Hp}
theorem TokAt.mono {v : V} {ts : List Str} (h : Same S S') (t : TokAt K S v ts) : TokAt K S' v ts := by
  obtain ⟨a, cn, dx, fs, l, e, hc, h1, h2, h3, h4⟩ := t
  exact ⟨a, cn, dx, fs, l, e, hc, h _ _ h1, h2, h _ _ h3, h4⟩
theorem WishAt.mono (h : Same S S') : ∀ {t : Tr} {v : V}, WishAt K S v t → WishAt K S' v t
  | .nm n, v, ⟨a, dx, pt, l, e, h1, h2, h3⟩ => ⟨a, dx, pt, l, e, h _ _ h1, h _ _ h2, h _ _ h3⟩
  | .lf b ws, v, ⟨a, dx, wt, pt, l, e, h1, h2, h3, h4⟩ => ⟨a, dx, wt, pt, l, e, h _ _ h1, h _ _ h2, h _ _ h3, h _ _ h4⟩
  | .bh w t, v, ⟨a, dx, pt, l, u, e, h1, h2, h3, h4⟩ => ⟨a, dx, pt, l, u, e, h _ _ h1, h _ _ h2, h _ _ h3, WishAt.mono h h4⟩
  | .op b x y, v, ⟨a, dx, pt, l, u, u', e, h1, h2, h3, h4, h5⟩ => ⟨a, dx, pt, l, u, u', e, h _ _ h1, h _ _ h2, h _ _ h3, WishAt.mono h h4, WishAt.mono h h5⟩
theorem WishAt.tok : ∀ {t : Tr} {v : V}, WishAt K S v t → TokAt K S v (toks t)
  | .nm n, v, ⟨a, dx, pt, l, e, h1, h2, h3⟩ => ⟨a, "Named", dx, _, l, e, by decide +kernel, h1, rfl, h3, no_wm ["parts", "own_tokens", "name"] rfl (by decide +kernel)⟩
  | .lf true ws, v, ⟨a, dx, wt, pt, l, e, h1, h2, h3, h4⟩ => ⟨a, "Never", dx, _, l, e, by decide +kernel, h1, rfl, h4, no_wm ["words", "parts", "own_tokens"] rfl (by decide +kernel)⟩
  | .lf false ws, v, ⟨a, dx, wt, pt, l, e, h1, h2, h3, h4⟩ => ⟨a, "Blocks", dx, _, l, e, by decide +kernel, h1, rfl, h4, no_wm ["words", "parts", "own_tokens"] rfl (by decide +kernel)⟩
  | .bh w t, v, ⟨a, dx, pt, l, u, e, h1, h2, h3, h4⟩ => ⟨a, "Behind", dx, _, l, e, by decide +kernel, h1, rfl, h3, no_wm ["parts", "own_tokens", "word"] rfl (by decide +kernel)⟩
  | .op true x y, v, ⟨a, dx, pt, l, u, u', e, h1, h2, h3, h4, h5⟩ => ⟨a, "Both", dx, _, l, e, by decide +kernel, h1, rfl, h3, no_wm ["parts", "own_tokens"] rfl (by decide +kernel)⟩
  | .op false x y, v, ⟨a, dx, pt, l, u, u', e, h1, h2, h3, h4, h5⟩ => ⟨a, "Either", dx, _, l, e, by decide +kernel, h1, rfl, h3, no_wm ["parts", "own_tokens"] rfl (by decide +kernel)⟩
end
/-! ### a model: names and their trees -/
abbrev Mo := List (Str × Tr)
def EntAt (S : Hp) (v : V) (m : Str × Tr) : Prop := ∃ t u, v = .ref t ∧ S t = some (.tup [.str m.1, u]) ∧ TreeAt S u m.2
def ModelAt (S : Hp) (v : V) (M : Mo) : Prop := ∃ a vs, v = .ref a ∧ S a = some (.lst vs) ∧ Paired (EntAt S) vs M
inductive Cmd where
  | put (n : Str) (t : Tr)
  | chg (n : Str) (t : Tr)
  | drp (n : Str)
  | rnm (a b : Str)
def CmdAt (S : Hp) (v : V) : Cmd → Prop
  | .put n t => ∃ a u, v = .ref a ∧ S a = some (.tup [.str "put", .str n, u]) ∧ TreeAt S u t
  | .chg n t => ∃ a u, v = .ref a ∧ S a = some (.tup [.str "change", .str n, u]) ∧ TreeAt S u t
  | .drp n => ∃ a, v = .ref a ∧ S a = some (.tup [.str "drop", .str n])
  | .rnm x y => ∃ a, v = .ref a ∧ S a = some (.tup [.str "rename", .str x, .str y])
/-- the same with the text in the tree's place -/
def txtOf (t : Tr) : Str := Txt.join " " (toks t)
def cmdVs : Cmd → List V
  | .put n t => [.str "put", .str n, .str (txtOf t)]
  | .chg n t => [.str "change", .str n, .str (txtOf t)]
  | .drp n => [.str "drop", .str n]
  | .rnm x y => [.str "rename", .str x, .str y]
def step (M : Mo) : Cmd → Mo
  | .put n t => M ++ [(n, t)]
  | .chg n t => M.map fun m => (m.1, if m.1 = n then t else m.2)
  | .drp n => M.filter fun m => !decide (m.1 = n)
  | .rnm x y => M.map fun m => (if m.1 = x then y else m.1, ren x y m.2)
def mnames (M : Mo) : List Str := M.map (·.1)
/-- the names ahead of n -/
def ahead (M : Mo) (n : Str) : List Str := (mnames M).takeWhile fun x => !decide (x = n)
/-- the names of those that use n -/
def usersM (M : Mo) (n : Str) : List Str := (M.filter fun m => decide (n ∈ nms m.2)).map (·.1)
/-- a model that the law comes to: e, the names ahead of it -/
def MOk (al : Str) (ns : List Str) : List Str → Mo → Prop
  | _, [] => True
  | e, (n, t) :: r => n ∈ ns ∧ n ∉ e ∧ (goodT al e t ∧ (toks t).length ≤ 7 ∧ depth t ≤ 4) ∧ MOk al ns (e ++ [n]) r
/-- a right command for a model -/
def CmdOk (al : Str) (ns : List Str) (M : Mo) : Cmd → Prop
  | .put n t => n ∈ ns ∧ n ∉ mnames M ∧ goodT al (mnames M) t ∧ (toks t).length ≤ 7 ∧ depth t ≤ 4
  | .chg n t => n ∈ mnames M ∧ goodT al (ahead M n) t ∧ (toks t).length ≤ 7 ∧ depth t ≤ 4
  | .drp n => n ∈ mnames M ∧ usersM M n = []
  | .rnm x y => x ∈ mnames M ∧ y ∈ ns ∧ y ∉ mnames M
theorem EntAt.mono {S S' : Hp} {v : V} {m : Str × Tr} (h : Same S S') (t : EntAt S v m) : EntAt S' v m := by
  obtain ⟨a, u, e, h1, h2⟩ := t
  exact ⟨a, u, e, h _ _ h1, h2.mono h⟩
theorem ModelAt.mono {S S' : Hp} {v : V} {M : Mo} (h : Same S S') (t : ModelAt S v M) : ModelAt S' v M := by
  obtain ⟨a, vs, e, h1, h2⟩ := t
  exact ⟨a, vs, e, h _ _ h1, L2.Paired.mapP h2 fun _ _ z => z.mono h⟩
/-! ### the bag of draws -/
structure BagAt (S H : Hp) (β : Addr) : Prop where
  ex : ∃ (c : Addr) (cells : List Int) (i big seed cnt : Int), H β = some (.lst [.ref c, .int i, .int big, .int seed, .int cnt]) ∧ S c = some (.lst (cells.map V.int)) ∧ 0 ≤ i ∧ i ≤ cells.length ∧ cells.length ≤ 63 ∧ 0 ≤ big ∧ 0 ≤ seed ∧ seed < 2147483549
  out : S β = none
/-! ### promises of the small defs -/
def sp_is_word : Sp := fun vs H Q _ => ∃ (z : Str) (m : Int), vs = [.str z, .int m] ∧ z.length ≤ 1000000 ∧ ∀ H', Same H H' → Q (.bl (isWordB z m)) H'
def sp_is_name : Sp := fun vs H Q _ => ∃ (z : Str), vs = [.str z] ∧ z.length ≤ 1000000 ∧ ∀ H', Same H H' → Q (.bl (nameOk z)) H'
/-- a draw: changes the bag alone -/
def Drawn (S H : Hp) (β : Addr) (k : Hp → Hp → Prop) : Prop := Same S H ∧ BagAt S H β ∧ ∀ H' S', Gm (one β) H S H' S' → BagAt S' H' β → k H' S'
def sp_pull : Sp := fun vs H Q _ => ∃ (β : Addr) (n : Int) (S : Hp), vs = [.ref β, .int n] ∧ 0 < n ∧ n < 1000000 ∧ Drawn S H β fun H' _ => ∀ d : Int, 0 ≤ d → d < n → Q (.int d) H'
theorem Gr.ofSame {H S H' : Hp} (hS : Same S H) (h : Same H H') : Gr H S H' S :=
  ⟨fun b o e _ => h b o e, fun b hb => by
    cases q : H b with
    | none => exact absurd q hb
    | some o => exact live_of (h b o q), hS.trans h, Same.refl S, fun _ e _ => e⟩
/-! ### small readings -/
theorem isi_str {K : PySem.W.Frag} {z : Str} {H : Hp} {Q : VK} (q : Q (.bl true) H) : rIsi K [.str z, .ty "str"] H Q := ⟨_, _, _, _, true, rfl, .ty _, .base (.str z), kit_ty (by decide +kernel), q⟩
theorem take_map {α : Type} {f : α → V} : ∀ {l : List α} {i : Nat} {x : α}, l[i]? = some x → (l.take (i + 1)).map f = (l.take i).map f ++ [f x]
  | [], i, x, h => by simp at h
  | a :: l, 0, x, h => by
    have e : a = x := Option.some.inj h
    subst e
    rfl
  | a :: l, i + 1, x, h => by
    have ih := take_map (f := f) (l := l) (i := i) (x := x) h
    show f a :: (l.take (i + 1)).map f = f a :: (l.take i).map f ++ [f x]
    rw [ih]
    rfl
theorem szL {n : Nat} (h : n ≤ 1000000) : n < sizeLine := Nat.lt_of_le_of_lt h (by decide)
theorem szE {n : Nat} (h : n ≤ 1000000) : n ≤ sizeLine := Nat.le_of_lt (szL h)
end Lst
namespace Lst
open PySem PySem.Spec PyProof.Rows L2
theorem sg_len (z : Str) : (sg z).length = z.length := Array.length_toList
theorem inV_str (z : Str) : ∀ xs : List Str, inV (.str z) (xs.map V.str) = decide (z ∈ xs)
  | [] => by simp [inV]
  | x :: r => by
    have ih := inV_str z r
    show (eqV (.str x) (.str z) || inV (.str z) (r.map V.str)) = _
    rw [ih]
    by_cases e : x = z
    · have h1 : eqV (.str x) (.str z) = true := by
        show (x == z) = true
        rw [e]
        exact beq_self_eq_true z
      rw [h1, Bool.true_or, decide_eq_true (show z ∈ x :: r by rw [e]; exact List.mem_cons_self ..)]
    · have h1 : eqV (.str x) (.str z) = false := by
        show (x == z) = false
        simpa using e
      rw [h1, Bool.false_or]
      exact decide_eq_decide.mpr ⟨fun h => List.mem_cons_of_mem _ h, fun h => (List.mem_cons.mp h).resolve_left fun q => e q.symm⟩
theorem flat_strs : ∀ xs : List Str, (xs.map V.str).all flatV = true
  | [] => rfl
  | _ :: r => flat_strs r
end Lst
namespace Lst
open PySem PySem.Spec PyProof.Rows L2
section
variable {K : PySem.W.Frag} {H : Hp} {a : Addr} {xs : List V} {i : Int} {v : V} {Q : VK}
theorem rd_ix (h : H a = some (.lst xs)) (hi : atI xs i = some v) (q : Q v H) : rIxL K (.ref a) (.int i) H Q := ⟨a, xs, i, v, rfl, rfl, sql h, hi, q⟩
theorem rd_ixt (h : H a = some (.tup xs)) (hi : atI xs i = some v) (q : Q v H) : rIxT K (.ref a) (.int i) H Q := ⟨a, xs, i, v, rfl, rfl, sqt h, hi, q⟩
end
end Lst
namespace Lst
open PySem PySem.Spec PyProof.Rows L2
theorem rd_set {H : Hp} {β : Addr} {xs : List V} {k : Int} {j : Nat} {v : V} {R : Hp → Prop} (h : H β = some (.lst xs)) (hj : ixN xs.length k = some j) (q : ∀ H1, H1 = upd H β (.lst (xs.set j v)) → R H1) :
    ∃ p ys k' j', V.ref β = .ref p ∧ V.int k = .int k' ∧ H p = some (.lst ys) ∧ ixN ys.length k' = some j' ∧ R (upd H p (.lst (ys.set j' v))) := ⟨β, xs, k, j, rfl, rfl, h, hj, q _ rfl⟩
theorem Gm.put {ms : Addr → Prop} {H S H1 S1 H2 : Hp} {p : Addr} {o : HO} (g : Gm ms H S H1 S1) (e : H2 = upd H1 p o) (n : ms p) (nS : S1 p = none) : Gm ms H S H2 S1 := by
  rw [e]
  exact g.store n nS
theorem at_put {H1 H2 : Hp} {p : Addr} {o : HO} (e : H2 = upd H1 p o) : H2 p = some o := by
  rw [e]
  exact upd_same
end Lst
namespace Lst
open PySem PySem.Spec PyProof.Rows L2
section
variable {ms : Addr → Prop} {H S H1 S1 H2 : Hp} {p b : Addr} {o u : HO}
/-- behind a new object -/
theorem old_at (e : upd H1 p o = H2) (n : H1 p = none) (h : H1 b = some u) : H2 b = some u := by
  rw [← e, upd_ne (ne_of_none h n)]
  exact h
theorem new_at (e : upd H1 p o = H2) : H2 p = some o := by
  rw [← e]
  exact upd_same
theorem oth_at (e : upd H1 p o = H2) (n : b ≠ p) (h : H1 b = some u) : H2 b = some u := by
  rw [← e, upd_ne n]
  exact h
theorem Gm.l0 (g : Gm ms H S H1 S1) (e : upd H1 p o = H2) (n : H1 p = none) : Gm ms H S H2 S1 := by
  rw [← e]
  exact g.laid0 n
theorem Gm.ld (g : Gm ms H S H1 S1) (e : upd H1 p o = H2) (n : H1 p = none) : Gm ms H S H2 (upd S1 p o) := by
  rw [← e]
  exact g.laid n
end
theorem pw18 : (10 : Int) ^ (18 : Int).toNat = 1000000000000000000 := by decide
end Lst
namespace Lst
open PySem PySem.Spec PyProof.Rows L2
abbrev s1 (c : Nat) : Str := ⟨#[c]⟩
def sp_any : Sp := fun vs H Q _ => ∃ (β : Addr) (v : V) (S : Hp), vs = [.ref β, v] ∧
  ((∃ r xs, v = .ref r ∧ S r = some (.lst xs) ∧ 0 < xs.length ∧ xs.length < 1000000 ∧ Drawn S H β fun H' _ => ∀ x ∈ xs, Q x H') ∨
    (∃ z : Str, v = .str z ∧ 0 < z.length ∧ z.length < 1000000 ∧ Drawn S H β fun H' _ => ∀ c ∈ sg z, Q (.str (s1 c)) H'))
def sp_word : Sp := fun vs H Q _ => ∃ (β : Addr) (al : Str) (lo hi : Int) (S : Hp), vs = [.ref β, .str al, .int lo, .int hi] ∧ 0 ≤ lo ∧ lo ≤ hi ∧ hi ≤ 100 ∧ 0 < al.length ∧ al.length ≤ 1000 ∧
  Drawn S H β fun H' _ => ∀ x : Str, lo ≤ (x.length : Int) → (x.length : Int) ≤ hi → (∀ c ∈ sg x, c ∈ sg al) → Q (.str x) H'
def sp_words : Sp := fun vs H Q _ => ∃ (β : Addr) (al : Str) (S : Hp), vs = [.ref β, .str al, .int 2] ∧ 0 < al.length ∧ al.length ≤ 1000 ∧
  Drawn S H β fun H' S' => ∀ (p : Addr) (ws : List Str), S' p = some (.lst (ws.map V.str)) → 1 ≤ ws.length → ws.length ≤ 4 → (∀ x ∈ ws, wordIn al x) → Q (.ref p) H'
def sp_leaf : Sp := fun vs H Q _ => ∃ (β : Addr) (al : Str) (v : V) (ns : List Str) (S : Hp), vs = [.ref β, .str al, .int 2, v] ∧ StrsAt S v ns ∧ ns.length ≤ 12 ∧ 0 < al.length ∧ al.length ≤ 1000 ∧
  Drawn S H β fun H' S' => ∀ (u : V) (t : Tr), TreeAt S' u t → goodT al ns t → (toks t).length = 1 → depth t = 0 → Q u H'
def sp_tree : Sp := fun vs H Q _ => ∃ (β : Addr) (al : Str) (v : V) (ns : List Str) (S : Hp), vs = [.ref β, .str al, .int 2, v] ∧ StrsAt S v ns ∧ ns.length ≤ 12 ∧ 0 < al.length ∧ al.length ≤ 1000 ∧
  Drawn S H β fun H' S' => ∀ (u : V) (t : Tr), TreeAt S' u t → goodT al ns t → (toks t).length ≤ 7 → depth t ≤ 4 → Q u H'
def sp_mixed : Sp := fun vs H Q _ => ∃ (β r : Addr) (xs : List V) (S : Hp), vs = [.ref β, .ref r] ∧ S r = some (.lst xs) ∧ xs.length ≤ 100 ∧
  Drawn S H β fun H' S' => ∀ (p : Addr) (ys : List V), S' p = some (.lst ys) → ys.Perm xs → Q (.ref p) H'
def sp_lnames : Sp := fun vs H Q _ => ∃ (β : Addr) (S : Hp), vs = [.ref β, .int 4] ∧ Drawn S H β fun H' S' => ∀ (v : V) (ns : List Str), StrsAt S' v ns → NsOk ns → Q v H'
def sp_alphabet : Sp := fun vs H Q _ => ∃ (β : Addr) (S : Hp), vs = [.ref β, .int 2] ∧ Drawn S H β fun H' _ => ∀ al : Str, AlOk al → Q (.str al) H'
def sp_draws (K : PySem.W.Frag) : Sp := fun vs H Q _ => ∃ (a : Addr) (ns : List Int) (S : Hp), vs = [.ref a] ∧ SqL K H a (ns.map V.int) ∧ ns.length ≤ 63 ∧ Same S H ∧ ∀ (H' S' : Hp) (β : Addr), Gr H S H' S' → H β = none → BagAt S' H' β → Q (.ref β) H'
theorem Drawn.mk {S H : Hp} {β : Addr} {k : Hp → Hp → Prop} (h : Same S H) (b : BagAt S H β) (q : ∀ H' S', Gm (one β) H S H' S' → BagAt S' H' β → k H' S') : Drawn S H β k := ⟨h, b, q⟩
theorem BagAt.live {S H : Hp} {β : Addr} (b : BagAt S H β) : H β ≠ none := by
  obtain ⟨c, cells, i, big, seed, cnt, h, _⟩ := b.ex
  exact live_of h
/-- the bag stays while only others are written -/
theorem BagAt.gr {S H S' H' : Hp} {β : Addr} (b : BagAt S H β) (g : Gr H S H' S') : BagAt S' H' β := by
  obtain ⟨c, cells, i, big, seed, cnt, h, h2, r⟩ := id b.ex
  exact ⟨⟨c, cells, i, big, seed, cnt, g.same _ _ h, g.mono _ _ h2, r⟩, g.new β b.out b.live⟩
theorem BagAt.updO {S H : Hp} {β p : Addr} {o : HO} (b : BagAt S H β) (n : β ≠ p) : BagAt S (upd H p o) β := by
  obtain ⟨c, cells, i, big, seed, cnt, h, h2, r⟩ := id b.ex
  exact ⟨⟨c, cells, i, big, seed, cnt, by rw [upd_ne n]; exact h, h2, r⟩, b.out⟩
theorem tl_join0 : ∀ parts : List Str, sg (Txt.join "" parts) = parts.flatMap sg := by
  intro parts
  rw [TL.join_eq]
  refine (TL.tl_join "" parts).trans ?_
  induction parts with
  | nil => rfl
  | cons x r ih =>
    cases r with
    | nil =>
      show sg x = sg x ++ []
      rw [List.append_nil]
    | cons y q =>
      show sg x ++ ([] ++ TL.joinL [] ((y :: q).map TL.tl)) = _
      rw [List.nil_append]
      exact congrArg (sg x ++ ·) ih
theorem join_ones (cs : List Nat) : sg (Txt.join "" (cs.map s1)) = cs := by
  rw [tl_join0, List.flatMap_map]
  induction cs with
  | nil => rfl
  | cons c r ih =>
    show [c] ++ List.flatMap (fun a => sg (s1 a)) r = c :: r
    rw [ih]
    rfl
theorem sum_ones (cs : List Nat) : ((cs.map s1).map (·.length)).sum = cs.length := by
  induction cs with
  | nil => rfl
  | cons c r ih =>
    show 1 + ((r.map s1).map (·.length)).sum = r.length + 1
    rw [ih, Nat.add_comm]
end Lst

/-! ## LSet -/
namespace Lst
open PySem PySem.Spec PyProof.Rows L2
/-! ### sets of texts: made of a list or a tuple, walked in some order, sorted (turned from the ints of HandS.Set and HandS.SetFor) -/
def keyS (e : Int × Value) : Str := match e.2 with | .str k _ => k | _ => ⟨#[]⟩
def GoodS (w : World) (e : Int × Value) : Prop := ∃ k tk, e.2 = Value.str k tk ∧ e.1 = hashStr w k
/-- the set of texts at a: S its members, n their number; its table rises and can be walked -/
def SetS (w : World) (h : Heap) (a : Addr) (S : Str → Bool) (n : Nat) : Prop :=
  ∃ o es ep t, h.get? a = some o ∧ o.ExactSet ∧ o.data = .set es ep t ∧ (∀ e ∈ es.toList, GoodS w e) ∧ (es.toList.map keyS).Nodup ∧ (∀ k, S k = true ↔ k ∈ es.toList.map keyS) ∧
    es.size < scanBound ∧ t.fits es.size = true ∧ es.size = n ∧ Ris t.place.toList ∧ (w.params.followText "set-order" = true ∨ t.led = true)

section
variable {P : Program} {w : World} {h h' : Heap} {a : Addr} {S : Str → Bool} {n : Nat}

theorem SetS.at (R : SetS w h a S n) (k : ∀ o, h.get? a = some o → h'.get? a = some o) : SetS w h' a S n := by
  obtain ⟨o, es, ep, t, ho, r⟩ := R
  exact ⟨o, es, ep, t, k o ho, r⟩
theorem SetS.lt (R : SetS w h a S n) : a < h.objs.size := by
  obtain ⟨o, es, ep, t, ho, r⟩ := R
  exact Heap.lt_size ho
theorem SetS.congr {S' : Str → Bool} (R : SetS w h a S n) (e : ∀ k, S' k = S k) : SetS w h a S' n := by
  have q : S' = S := funext e
  rw [q]; exact R
theorem goodS_elems {l : List (Int × Value)} (g : ∀ e ∈ l, GoodS w e) : ElemsOf (PySem.strKind P w) l := fun e he => by
  obtain ⟨k, tk, h1, h2⟩ := g e he
  refine ⟨⟨k, ?_, h2⟩, ?_⟩
  · rw [h1]
    exact PySem.strKind_is P w k tk
  · rw [h1]
    rfl
theorem goodS_is {e : Int × Value} (g : GoodS w e) (k : Str) : (PySem.strKind P w).is k e.2 = true ↔ keyS e = k := by
  obtain ⟨k0, tk, h1, _⟩ := g
  unfold keyS
  rw [h1]
  constructor
  · intro h
    have h2 : Value.isStrOf k (.str k0 tk) = true := h
    obtain ⟨t, q⟩ := Value.isStrOf_shape h2
    injection q
  · intro h
    rw [← h]
    exact PySem.strKind_is P w k0 tk
theorem goodS_mem {l : List (Int × Value)} (g : ∀ e ∈ l, GoodS w e) (k : Str) : k ∈ l.map keyS ↔ ∃ e ∈ l, (PySem.strKind P w).is k e.2 = true := by
  rw [List.mem_map]
  constructor
  · rintro ⟨e, he, q⟩
    exact ⟨e, he, (goodS_is (g e he) k).2 q⟩
  · rintro ⟨e, he, q⟩
    exact ⟨e, he, (goodS_is (g e he) k).1 q⟩
end
section
variable {P : Program} {w : World} {A : Around} {E : Value → Shared → Prop} {s : Shared} {a : Addr} {S : Str → Bool} {n : Nat}

theorem setS_tail {g : Bool → Sem Unit} (hg : ∀ (b : Bool) (s₁ : Shared) (Q' : Unit → Shared → Prop), Q' () s₁ → wpAny (model P w) A (g b) Q' E s₁)
    {o : Obj} {es : Array (Int × Value)} {ep : Nat} {t : SetTable} (ho : s.heap.get? a = some o) (hex : o.ExactSet) (hd : o.data = .set es ep t)
    {es1 : Array (Int × Value)} {t2 : SetTable} {S' : Str → Bool} (g1 : ∀ e ∈ es1.toList, GoodS w e) (nd1 : (es1.toList.map keyS).Nodup) (m1 : ∀ k, S' k = true ↔ k ∈ es1.toList.map keyS)
    (hb1 : es1.size < scanBound) (hf2 : t2.fits es1.size = true) (hr : Ris t2.place.toList) (hl : w.params.followText "set-order" = true ∨ t2.led = true) {wasDummy : Bool} {R : Option Bool → Shared → Prop}
    (hR : ∀ h', Heap.SameBut a s.heap h' → SetS w h' a S' es1.size → R (some true) { s with heap := h' }) :
    wpAny (model P w) A (do
        storeSet a es1 t2
        if (!wasDummy && t2.tooFull) = true then do
            g (relayAll t2 es1 (SetTable.grown es1.size)).2.2
            storeSet a (relayAll t2 es1 (SetTable.grown es1.size)).1 (relayAll t2 es1 (SetTable.grown es1.size)).2.1
            pure (some true)
          else pure (some true)) R E s := by
  refine wpAny_bind (wpAny_storeSet_of ho hd ?_ (fits_of_scanBound hb1))
  have ho1 := L2.store_at (es' := es1) (t' := t2) ho hd
  have sb1 := Heap.SameBut.update s.heap a (Obj.putSet es1 t2)
  split
  · have pm := relayAll_perm t2 es1 (SetTable.grown es1.size)
    have hf3 := relayAll_fits t2 es1 (SetTable.grown es1.size)
    have hr3 := relayAll_ris t2 es1 (SetTable.grown es1.size)
    have hl3 := relayAll_led t2 es1 (SetTable.grown es1.size)
    generalize relayAll t2 es1 (SetTable.grown es1.size) = Z at pm hf3 hr3 hl3 ⊢
    obtain ⟨es2, t3, gave⟩ := Z
    dsimp only at pm hf3 hr3 hl3 ⊢
    have hsz : es2.size = es1.size := by rw [← Array.length_toList, pm.length_eq, Array.length_toList]
    have hb2 : es2.size < scanBound := by rw [hsz]; exact hb1
    refine wpAny_bind (hg _ _ _ ?_)
    refine wpAny_bind (wpAny_storeSet_of ho1 rfl ?_ (fits_of_scanBound hb2))
    have ho2 := L2.store_at (es' := es2) (t' := t3) ho1 rfl
    refine wpAny_pure (hR _ (sb1.trans (Heap.SameBut.update _ a _)) ?_)
    exact ⟨_, es2, _, t3, ho2, hex, rfl, fun e he => g1 e (pm.mem_iff.mp he), (pm.map keyS).nodup_iff.mpr nd1, fun k => (m1 k).trans (pm.map keyS).mem_iff.symm, hb2, hf3, hsz, hr3,
      hl.imp id fun z => by rw [hl3]; exact z⟩
  · exact wpAny_pure (hR _ sb1 ⟨_, es1, _, t2, ho1, hex, rfl, g1, nd1, m1, hb1, hf2, rfl, hr, hl⟩)

theorem setS_add {k : Str} {tk : Tok} {Q : Bool → Shared → Prop} (R : SetS w s.heap a S n) (room : n + 1 < scanBound)
    (hQ : ∀ h', Heap.SameBut a s.heap h' → SetS w h' a (fun j => S j || decide (j = k)) (if S k = true then n else n + 1) → Q (!S k) { s with heap := h' }) :
    wpAny (model P w) A (setAddHashed a (.str k tk) ((PySem.strKind P w).hash k)) Q E s := by
  obtain ⟨o, es, ep, t, ho, hex, hd, g, nd, hm, hb, hf, hn, hr, hl⟩ := R
  have hkey : (PySem.strKind P w).is k (.str k tk) = true := PySem.strKind_is P w k tk
  have hsc : (Value.str k tk).scannable = true := rfl
  have hel : ElemsOf (PySem.strKind P w) es.toList := goodS_elems g
  unfold setAddHashed setAddHashedIn
  refine wpAny_holding (wpAny_bind (wpAny_setState_of ho hd hf ?_))
  dsimp only
  rw [byScan_of hsc hb hel]
  simp only [↓reduceIte]
  unfold setAddByScan
  refine wpAny_bind ?_
  refine wpAny_bind (wpAny_rule ?_)
  refine wpAny_bind (wpAny_setScan_of hkey ho hd hf hel ?_)
  cases hfi : List.findIdx? (fun e => (PySem.strKind P w).is k e.2) es.toList with
  | some j =>
    dsimp only
    obtain ⟨hj, pj, _⟩ := List.findIdx?_eq_some_iff_getElem.mp hfi
    have hSk : S k = true := (hm k).2 ((goodS_mem (P := P) (w := w) g k).2 ⟨es.toList[j], List.getElem_mem hj, pj⟩)
    refine wpAny_pure (wpAny_pure ?_)
    have q := hQ s.heap (Heap.SameBut.refl a s.heap) ⟨o, es, ep, t, ho, hex, hd, g, nd, fun i => by
      rw [Bool.or_eq_true, decide_eq_true_eq, ← hm i]
      exact ⟨fun z => z.elim id (fun e => e ▸ hSk), .inl⟩, hb, hf, by rw [if_pos hSk]; exact hn, hr, hl⟩
    rw [hSk] at q
    exact q
  | none =>
    dsimp only
    have hnk : k ∉ es.toList.map keyS := fun z => by
      obtain ⟨e, he, q⟩ := (goodS_mem (P := P) (w := w) g k).1 z
      have c := List.findIdx?_eq_none_iff.mp hfi e he
      rw [q] at c
      cases c
    have hSk : S k = false := by
      cases q : S k with
      | false => rfl
      | true => exact absurd ((hm k).1 q) hnk
    have hgw : ∀ (b : Bool) {s₁ : Shared} {Q' : Unit → Shared → Prop}, Q' () s₁ → wpAny (model P w) A (match b with | true => rule "set.scan.the-table-gave-way" | false => pure ()) Q' E s₁ :=
      fun b s₁ Q' q => by cases b <;> first | exact wpAny_pure q | exact wpAny_rule q
    have pm := layNew_perm t es ((PySem.strKind P w).hash k) (.str k tk)
    have hf1 := layNew_fits t es ((PySem.strKind P w).hash k) (.str k tk)
    have hr1 := layNew_ris t es ((PySem.strKind P w).hash k) (.str k tk) hr
    have hl1 := layNew_led t es ((PySem.strKind P w).hash k) (.str k tk)
    generalize layNew t es ((PySem.strKind P w).hash k) (.str k tk) = Z at pm hf1 hr1 hl1 ⊢
    obtain ⟨es1, t1, wasDummy, gave⟩ := Z
    dsimp only at pm hf1 hr1 hl1 ⊢
    rw [Array.toList_push] at pm
    have pc : es1.toList.Perm (((PySem.strKind P w).hash k, Value.str k tk) :: es.toList) := pm.trans (List.perm_append_singleton _ _)
    have pk : (es1.toList.map keyS).Perm (k :: es.toList.map keyS) := pc.map keyS
    have g1 : ∀ e ∈ es1.toList, GoodS w e := fun e he => by
      rcases List.mem_cons.mp (pc.mem_iff.mp he) with z | z
      · rw [z]; exact ⟨k, tk, rfl, rfl⟩
      · exact g e z
    have nd1 : (es1.toList.map keyS).Nodup := pk.nodup_iff.mpr (List.nodup_cons.mpr ⟨hnk, nd⟩)
    have m1 : ∀ i, (S i || decide (i = k)) = true ↔ i ∈ es1.toList.map keyS := fun i => by
      rw [Bool.or_eq_true, decide_eq_true_eq, hm i, pk.mem_iff, List.mem_cons]
      exact Or.comm
    have hsz : es1.size = n + 1 := by rw [← Array.length_toList, pc.length_eq, List.length_cons, Array.length_toList, hn]
    have hb1 : es1.size < scanBound := by rw [hsz]; exact room
    have hled : w.params.followText "set-order" = true ∨ t1.led = true := hl.imp id fun z => by rw [hl1]; exact z
    have fin : ∀ h', Heap.SameBut a s.heap h' → SetS w h' a (fun j => S j || decide (j = k)) es1.size → Q true { s with heap := h' } := fun h' sb r => by
      have q := hQ h' sb
      rw [hSk] at q
      rw [hsz] at r
      exact q r
    refine wpAny_bind (hgw _ ?_)
    split
    · refine wpAny_bind ?_
      rw [hashByValue_scannable 8 hsc]
      refine wpAny_pure ?_
      refine setS_tail ?_ ho hex hd g1 nd1 m1 hb1 ?_ ?_ ?_ ?_
      · intro b s₁ Q' q; cases b <;> first | exact wpAny_pure q | exact wpAny_rule q
      · first | (split <;> first | exact hf1 | exact SetTable.fits_plain_off hf1) | exact hf1
      · first | (split <;> exact hr1) | exact hr1
      · first | (split <;> exact hled) | exact hled
      · intro h' sb r; dsimp only; exact wpAny_pure (fin h' sb r)
    · refine wpAny_bind (wpAny_pure ?_)
      simp only [↓reduceIte]
      refine setS_tail ?_ ho hex hd g1 nd1 m1 hb1 hf1 hr1 hled ?_
      · intro b s₁ Q' q; cases b <;> first | exact wpAny_pure q | exact wpAny_rule q
      · intro h' sb r; dsimp only; exact wpAny_pure (fin h' sb r)

end
/-! ### set(t) of a tuple of ints -/
theorem setS_new {w : World} {h : Heap} {a : Addr} {ns : List Str} (ho : h.get? a = some { cls := .type "set", dict := none, data := .set #[] 0 (.fresh 0 0 (!w.params.followText "set-order")) }) : SetS w h a (fun j => decide (j ∈ ns.take 0)) 0 :=
  ⟨_, #[], 0, _, ho, ⟨rfl, rfl, rfl⟩, rfl, (fun e he => by simp at he), (by simp), (fun k => by simp), (by decide), (by rfl), rfl, List.Pairwise.nil, by
    show _ ∨ (!w.params.followText "set-order") = true
    cases w.params.followText "set-order"
    · exact .inr rfl
    · exact .inl rfl⟩
section
variable {P : Program} {w : World} {A : Around} {E : Value → Shared → Prop} {s : Shared}
theorem setS_update {I : Addr} {fp wr : List Addr} {G : Array GenState → Array GenState → Prop} {n : Nat} {Pv : Nat → Value → Prop} {St : Nat → Shared → Prop} {R : Result → Shared → Prop}
    (W : WalksS P w A.in1 I fp wr G n Pv St) (S : Addr) (hSf : S ∉ fp) (ns : List Str) (hn : n = ns.length) (hb : ns.length + 1 < scanBound) (hval : ∀ i v, Pv i v → ∃ k t, ns[i]? = some k ∧ v = .str k t) :
    ∀ (k i : Nat) (s : Shared), n - i = k → i ≤ n → St i s → (∃ c, c ≤ i ∧ SetS w s.heap S (fun j => decide (j ∈ ns.take i)) c) →
      (∀ s' c, Moved (S :: wr) G s s' → c ≤ n → SetS w s'.heap S (fun j => decide (j ∈ ns)) c → R (.ok (.ret .none)) s') →
      codeAny (model P w) A (.builtin "set.update.loop" ⟨[.ref S, .ref I], []⟩) R s := by
  have hSw : S ∉ wr := fun h => hSf (W.sub _ h)
  have hsub : ∀ b ∈ wr, b ∈ S :: wr := fun b hb => List.mem_cons_of_mem _ hb
  intro k
  induction k with
  | zero =>
    intro i s hk' hi hst ⟨c, hc, hS⟩ hR
    have hin : i = n := by omega
    subst hin
    refine codeAny_builtin F.entry_set_update_loop ?_
    rw [Around.under_plainId F.plain_set_update_loop _]
    show wpAny _ A.in1 (pyNext (.ref I) >>= _) _ _ s
    refine wpAny_bind (W.done s _ _ hst fun s' hm => ?_)
    show wpAny _ A.in1 (ret Value.none) _ _ s'
    have e : ns.take i = ns := List.take_of_length_le (by omega)
    rw [e] at hS
    exact wpAny_pure (hR s' c (hm.mono hsub) hc (hS.at fun o e => hm.heap S o hSw e))
  | succ k ih =>
    intro i s hk' hi hst ⟨c, hc, hS⟩ hR
    have hlt : i < n := by omega
    refine codeAny_builtin F.entry_set_update_loop ?_
    rw [Around.under_plainId F.plain_set_update_loop _]
    show wpAny _ A.in1 (pyNext (.ref I) >>= _) _ _ s
    refine wpAny_bind (W.item i s _ _ hlt hst fun v s' hP hst' hm => ?_)
    obtain ⟨z, t, hz, rfl⟩ := hval i v hP
    have hS' : SetS w s'.heap S (fun j => decide (j ∈ ns.take i)) c := hS.at fun o e => hm.heap S o hSw e
    show wpAny _ A.in1 (holding [Value.str z t] (setAdd S (.str z t)) >>= _) _ _ s'
    refine wpAny_bind (wpAny_holding ?_)
    unfold setAdd
    refine wpAny_holding ?_
    refine wpAny_bind ((PySem.strKind P w).pyHash (k := z) (PySem.strKind_is _ _ _ _) ?_)
    refine setS_add (s := { s' with toks := s'.toks + 1 }) hS' (by omega) fun h' hsb hS2 => ?_
    have hS3 : SetS w h' S (fun j => decide (j ∈ ns.take (i + 1))) (if decide (z ∈ ns.take i) = true then c else c + 1) := hS2.congr fun j => by
      rw [List.take_add_one, hz]
      simp [List.mem_append]
    have hc3 : (if decide (z ∈ ns.take i) = true then c else c + 1) ≤ i + 1 := by
      split <;> omega
    refine wpAny_pure ⟨plainId_quiet F.plain_set_update_loop _, ih (i + 1) _ (by omega) hlt (W.frame _ s' _ _ hst' (Nat.le_succ _) fun b hb o e => ?_) ⟨_, hc3, hS3⟩ fun s'' c2 hm'' hc'' hS'' => ?_⟩
    · rw [hsb.2 b (fun h : b = S => hSf (by rw [← h]; exact hb))]; exact e
    · refine hR s'' c2 (Moved.trans W.gtrans ((hm.mono hsub).then_heap (Nat.le_succ _) fun b o hb e => ?_) hm'') hc'' hS''
      rw [hsb.2 b (fun h : b = S => hb (by rw [h]; exact List.mem_cons_self))]; exact e

set_option maxRecDepth 100000 in
set_option maxHeartbeats 3200000 in
theorem call_set_tupS {l : Addr} {items : Array Value} (ns : List Str) {Q : Value → Shared → Prop} (hh : A.handled = none) (hl : s.heap.IsTuple l items) (hit : StrsAre items.toList ns) (hb : ns.length + 1 < scanBound)
    (h : ∀ (h' : Heap) (tk c : Nat), SetS w h' s.heap.objs.size (fun j => decide (j ∈ ns)) c → c ≤ ns.length → (∀ b o, s.heap.get? b = some o → h'.get? b = some o) → Q (.ref s.heap.objs.size) { s with heap := h', toks := tk }) :
    wpAny (model P w) A (call (.type "set") [.ref l]) Q E s := by
  have hisz : items.size = ns.length := by
    have q := StrsAre.length hit
    rw [Array.length_toList] at q
    exact q
  obtain ⟨c, tl, hmro⟩ := F.called_set.mro
  have hmade := F.called_set.made
  have hsub := F.called_set.sub
  refine wpAny_call (codeAny_of_tree ?_)
  show wpAny _ _ (callAny (.type "set") _) _ _ _
  refine wpAny_pure ⟨Code.quiet_builtin _ (by decide +kernel), codeAny_builtin F.entry_type_call ?_⟩
  rw [Around.under_plain (weight_type_call_type "set" [.ref l] []) rfl]
  have h1 := F.called_set.notType
  have h2 := F.called_set.canCreate
  have hct := F.typeCall_set_1 (.ref l)
  repeat (any_goals (first | assumption | wp_step))

  refine codeAny_mono (L2.code_set_led1 (.ref l) (E := E) (Q₁ := fun obj s₁ => obj = .ref s.heap.objs.size ∧ s₁ = { s with heap := s.heap.push { cls := .type "set", dict := none, data := .set #[] 0 (.fresh 0 0 (!w.params.followText "set-order")) } }) ⟨rfl, rfl⟩) fun r s₁ hr => ?_
  cases r with
  | error e => exact hr
  | ok fl =>
    cases fl with
    | ret obj =>
      obtain ⟨rfl, rfl⟩ := hr
      have hS : (s.heap.push { cls := .type "set", dict := none, data := .set #[] 0 (.fresh 0 0 (!w.params.followText "set-order")) }).get? s.heap.objs.size = some { cls := .type "set", dict := none, data := .set #[] 0 (.fresh 0 0 (!w.params.followText "set-order")) } := Heap.get?_push_size _ rfl
      have hT : Shared.TypeIs { s with heap := s.heap.push { cls := .type "set", dict := none, data := .set #[] 0 (.fresh 0 0 (!w.params.followText "set-order")) } } (.ref s.heap.objs.size) "set" := ⟨_, hS, rfl⟩
      have hli := F.called_set.init.lookup
      have hbi := F.called_set.init.bind (.ref s.heap.objs.size)
      repeat (any_goals (first | assumption | wp_step))

      refine codeAny_mono (codeAny_call_builtin (R := wants (fun r s₂ => r = .none ∧ ∃ h' tk c, s₂ = { s with heap := h', toks := tk } ∧ SetS w h' s.heap.objs.size (fun j => decide (j ∈ ns)) c ∧ c ≤ ns.length ∧
          (∀ b o, s.heap.get? b = some o → h'.get? b = some o)) E) F.called_set.init.plain F.entry_set_init (check_set_init_1 hT ?_)) fun r₂ s₂ hr₂ => ?_
      · obtain ⟨ol, hol, hcl, nl, hdl⟩ := hl
        obtain ⟨ocls, odict, odata, oslots⟩ := ol
        simp only at hcl hdl
        subst hcl; subst hdl
        have hol' : (s.heap.push { cls := .type "set", dict := none, data := .set #[] 0 (.fresh 0 0 (!w.params.followText "set-order")) }).get? l = some { cls := .type "tuple", dict := odict, data := .seq items nl, slots := oslots } := Heap.get?_push_of_some _ hol
        have hsls := F.sub_tuple_set
        have hslf := F.sub_tuple_frozenset
        have hne : (Value.type "tuple" == Value.type "dict") = false := by decide
        have hl1 : (s.heap.push { cls := .type "set", dict := none, data := .set #[] 0 (.fresh 0 0 (!w.params.followText "set-order")) }).IsTuple l items := ⟨_, hol', rfl, nl, rfl⟩
        unfold Builtin.«set.__init__» noKeywords Builtin.Frozenset.updateFrom
        generalize hPI : pyIter = PI
        wp_walk
        subst hPI

        refine wpAny_pyIter_tuple hl1 ?_
        refine wpAny_bind (wpAny_runValue ?_)
        have hlS : l < s.heap.objs.size := Heap.lt_size hol
        have hh3 : A.in1.in1.in1.handled = none := by simp [hh]
        have hz1 : (s.heap.push { cls := .type "set", dict := none, data := .set #[] 0 (.fresh 0 0 (!w.params.followText "set-order")) }).objs.size = s.heap.objs.size + 1 := Heap.size_push ..
        have hneI : l ≠ (s.heap.push { cls := .type "set", dict := none, data := .set #[] 0 (.fresh 0 0 (!w.params.followText "set-order")) }).objs.size := by
          rw [Heap.size_push]; exact Nat.ne_of_lt (Nat.lt_succ_of_lt hlS)
        have hSf : s.heap.objs.size ∉ [(s.heap.push { cls := .type "set", dict := none, data := .set #[] 0 (.fresh 0 0 (!w.params.followText "set-order")) }).objs.size, l] := by
          rw [Heap.size_push]; simp only [List.mem_cons, List.mem_singleton, List.not_mem_nil, or_false, not_or]
          exact ⟨Nat.ne_of_lt (Nat.lt_succ_self _), Nat.ne_of_gt hlS⟩
        have hval : ∀ (i : Nat) (v : Value), items[i]? = some v → ∃ k t, ns[i]? = some k ∧ v = .str k t := fun i v hv => by
          have hi : i < ns.length := by rw [← hisz]; exact (Array.getElem?_eq_some_iff.mp hv).1
          obtain ⟨t, e⟩ := SS.strs_at hit i v (by rw [Array.getElem?_toList]; exact hv)
          refine ⟨ns[i], t, List.getElem?_eq_getElem hi, ?_⟩
          rw [e, List.getD_eq_getElem?_getD, List.getElem?_eq_getElem hi] <;> rfl
        refine setS_update ((Walks.tuple hh3 _ l hneI items).toS) s.heap.objs.size
          hSf ns hisz hb hval (items.size - 0) 0 _ (by omega) (Nat.zero_le _)
          ⟨⟨_, Heap.get?_push_size _ rfl, rfl, rfl⟩, (hl1.push _)⟩ ?hS0 ?hR
        case hS0 =>
          have hget : ((s.heap.push { cls := .type "set", dict := none, data := .set #[] 0 (.fresh 0 0 (!w.params.followText "set-order")) }).push { cls := .type "tuple_iterator", data := .fields #[.ref l, .int 0 0] }).get? s.heap.objs.size
              = some { cls := .type "set", dict := none, data := .set #[] 0 (.fresh 0 0 (!w.params.followText "set-order")) } := Heap.get?_push_of_some _ hS
          exact ⟨0, Nat.le_refl 0, setS_new hget⟩
        case hR =>
          intro s' c' hm hc' hS'
          obtain ⟨h', g2, d', tk', os'⟩ := s'
          have eg : g2 = s.gens := hm.gens
          have ed : d' = s.drawn := hm.drawn
          have eo : os' = s.os := hm.os
          subst eg; subst ed; subst eo
          show wpAny _ _ _ _ _ _
          refine wpAny_pure ?_
          show wpAny _ _ (ret Value.none) _ _ _
          rw [hisz] at hc'
          refine wpAny_pure ⟨rfl, h', tk', c', rfl, hS', hc', fun b o e => ?_⟩
          have hb0 : b < s.heap.objs.size := Heap.lt_size e
          have hb1 : b ≠ s.heap.objs.size := Nat.ne_of_lt hb0
          have hb2 : b ≠ (s.heap.push { cls := .type "set", dict := none, data := .set #[] 0 (.fresh 0 0 (!w.params.followText "set-order")) }).objs.size := by
            rw [Heap.size_push]; exact Nat.ne_of_lt (Nat.lt_succ_of_lt hb0)
          exact hm.heap b o (by simp only [List.mem_cons, List.mem_singleton, List.not_mem_nil, or_false, not_or]; exact ⟨hb1, hb2⟩) (Heap.get?_push_of_some _ (Heap.get?_push_of_some _ e))

      · cases r₂ with
        | error e => exact hr₂
        | ok fl₂ =>
          cases fl₂ with
          | ret r =>
            obtain ⟨rfl, h', tk, c', rfl, hS', hc', hk'⟩ := hr₂
            repeat (any_goals (first | assumption | wp_step))
            exact h _ _ _ hS' hc' hk'
          | _ => exact hr₂.elim
    | _ => exact hr.elim

set_option maxRecDepth 100000 in
set_option maxHeartbeats 3200000 in
theorem call_set_lstS {l : Addr} {items : Array Value} (ns : List Str) {Q : Value → Shared → Prop} (hh : A.handled = none) (hl : s.heap.IsList l items) (hit : StrsAre items.toList ns) (hb : ns.length + 1 < scanBound)
    (h : ∀ (h' : Heap) (tk c : Nat), SetS w h' s.heap.objs.size (fun j => decide (j ∈ ns)) c → c ≤ ns.length → (∀ b o, s.heap.get? b = some o → h'.get? b = some o) → Q (.ref s.heap.objs.size) { s with heap := h', toks := tk }) :
    wpAny (model P w) A (call (.type "set") [.ref l]) Q E s := by
  have hisz : items.size = ns.length := by
    have q := StrsAre.length hit
    rw [Array.length_toList] at q
    exact q
  obtain ⟨c, tl, hmro⟩ := F.called_set.mro
  have hmade := F.called_set.made
  have hsub := F.called_set.sub
  refine wpAny_call (codeAny_of_tree ?_)
  show wpAny _ _ (callAny (.type "set") _) _ _ _
  refine wpAny_pure ⟨Code.quiet_builtin _ (by decide +kernel), codeAny_builtin F.entry_type_call ?_⟩
  rw [Around.under_plain (weight_type_call_type "set" [.ref l] []) rfl]
  have h1 := F.called_set.notType
  have h2 := F.called_set.canCreate
  have hct := F.typeCall_set_1 (.ref l)
  repeat (any_goals (first | assumption | wp_step))

  refine codeAny_mono (L2.code_set_led1 (.ref l) (E := E) (Q₁ := fun obj s₁ => obj = .ref s.heap.objs.size ∧ s₁ = { s with heap := s.heap.push { cls := .type "set", dict := none, data := .set #[] 0 (.fresh 0 0 (!w.params.followText "set-order")) } }) ⟨rfl, rfl⟩) fun r s₁ hr => ?_
  cases r with
  | error e => exact hr
  | ok fl =>
    cases fl with
    | ret obj =>
      obtain ⟨rfl, rfl⟩ := hr
      have hS : (s.heap.push { cls := .type "set", dict := none, data := .set #[] 0 (.fresh 0 0 (!w.params.followText "set-order")) }).get? s.heap.objs.size = some { cls := .type "set", dict := none, data := .set #[] 0 (.fresh 0 0 (!w.params.followText "set-order")) } := Heap.get?_push_size _ rfl
      have hT : Shared.TypeIs { s with heap := s.heap.push { cls := .type "set", dict := none, data := .set #[] 0 (.fresh 0 0 (!w.params.followText "set-order")) } } (.ref s.heap.objs.size) "set" := ⟨_, hS, rfl⟩
      have hli := F.called_set.init.lookup
      have hbi := F.called_set.init.bind (.ref s.heap.objs.size)
      repeat (any_goals (first | assumption | wp_step))

      refine codeAny_mono (codeAny_call_builtin (R := wants (fun r s₂ => r = .none ∧ ∃ h' tk c, s₂ = { s with heap := h', toks := tk } ∧ SetS w h' s.heap.objs.size (fun j => decide (j ∈ ns)) c ∧ c ≤ ns.length ∧
          (∀ b o, s.heap.get? b = some o → h'.get? b = some o)) E) F.called_set.init.plain F.entry_set_init (check_set_init_1 hT ?_)) fun r₂ s₂ hr₂ => ?_
      · obtain ⟨ol, hol, hcl, nl, hdl⟩ := hl
        obtain ⟨ocls, odict, odata, oslots⟩ := ol
        simp only at hcl hdl
        subst hcl; subst hdl
        have hol' : (s.heap.push { cls := .type "set", dict := none, data := .set #[] 0 (.fresh 0 0 (!w.params.followText "set-order")) }).get? l = some { cls := .type "list", dict := odict, data := .seq items nl, slots := oslots } := Heap.get?_push_of_some _ hol
        have hsls := F.sub_list_set
        have hslf := F.sub_list_frozenset
        have hne : (Value.type "list" == Value.type "dict") = false := by decide
        have hl1 : (s.heap.push { cls := .type "set", dict := none, data := .set #[] 0 (.fresh 0 0 (!w.params.followText "set-order")) }).IsList l items := ⟨_, hol', rfl, nl, rfl⟩
        unfold Builtin.«set.__init__» noKeywords Builtin.Frozenset.updateFrom
        generalize hPI : pyIter = PI
        wp_walk
        subst hPI

        refine wpAny_pyIter_list hl1 ?_
        refine wpAny_bind (wpAny_runValue ?_)
        have hlS : l < s.heap.objs.size := Heap.lt_size hol
        have hh3 : A.in1.in1.in1.handled = none := by simp [hh]
        have hz1 : (s.heap.push { cls := .type "set", dict := none, data := .set #[] 0 (.fresh 0 0 (!w.params.followText "set-order")) }).objs.size = s.heap.objs.size + 1 := Heap.size_push ..
        have hneI : l ≠ (s.heap.push { cls := .type "set", dict := none, data := .set #[] 0 (.fresh 0 0 (!w.params.followText "set-order")) }).objs.size := by
          rw [Heap.size_push]; exact Nat.ne_of_lt (Nat.lt_succ_of_lt hlS)
        have hSf : s.heap.objs.size ∉ [(s.heap.push { cls := .type "set", dict := none, data := .set #[] 0 (.fresh 0 0 (!w.params.followText "set-order")) }).objs.size, l] := by
          rw [Heap.size_push]; simp only [List.mem_cons, List.mem_singleton, List.not_mem_nil, or_false, not_or]
          exact ⟨Nat.ne_of_lt (Nat.lt_succ_self _), Nat.ne_of_gt hlS⟩
        have hval : ∀ (i : Nat) (v : Value), items[i]? = some v → ∃ k t, ns[i]? = some k ∧ v = .str k t := fun i v hv => by
          have hi : i < ns.length := by rw [← hisz]; exact (Array.getElem?_eq_some_iff.mp hv).1
          obtain ⟨t, e⟩ := SS.strs_at hit i v (by rw [Array.getElem?_toList]; exact hv)
          refine ⟨ns[i], t, List.getElem?_eq_getElem hi, ?_⟩
          rw [e, List.getD_eq_getElem?_getD, List.getElem?_eq_getElem hi] <;> rfl
        refine setS_update ((Walks.list hh3 _ l hneI items).toS) s.heap.objs.size
          hSf ns hisz hb hval (items.size - 0) 0 _ (by omega) (Nat.zero_le _)
          ⟨⟨_, Heap.get?_push_size _ rfl, rfl, rfl⟩, (hl1.push _)⟩ ?hS0 ?hR
        case hS0 =>
          have hget : ((s.heap.push { cls := .type "set", dict := none, data := .set #[] 0 (.fresh 0 0 (!w.params.followText "set-order")) }).push { cls := .type "list_iterator", data := .fields #[.ref l, .int 0 0] }).get? s.heap.objs.size
              = some { cls := .type "set", dict := none, data := .set #[] 0 (.fresh 0 0 (!w.params.followText "set-order")) } := Heap.get?_push_of_some _ hS
          exact ⟨0, Nat.le_refl 0, setS_new hget⟩
        case hR =>
          intro s' c' hm hc' hS'
          obtain ⟨h', g2, d', tk', os'⟩ := s'
          have eg : g2 = s.gens := hm.gens
          have ed : d' = s.drawn := hm.drawn
          have eo : os' = s.os := hm.os
          subst eg; subst ed; subst eo
          show wpAny _ _ _ _ _ _
          refine wpAny_pure ?_
          show wpAny _ _ (ret Value.none) _ _ _
          rw [hisz] at hc'
          refine wpAny_pure ⟨rfl, h', tk', c', rfl, hS', hc', fun b o e => ?_⟩
          have hb0 : b < s.heap.objs.size := Heap.lt_size e
          have hb1 : b ≠ s.heap.objs.size := Nat.ne_of_lt hb0
          have hb2 : b ≠ (s.heap.push { cls := .type "set", dict := none, data := .set #[] 0 (.fresh 0 0 (!w.params.followText "set-order")) }).objs.size := by
            rw [Heap.size_push]; exact Nat.ne_of_lt (Nat.lt_succ_of_lt hb0)
          exact hm.heap b o (by simp only [List.mem_cons, List.mem_singleton, List.not_mem_nil, or_false, not_or]; exact ⟨hb1, hb2⟩) (Heap.get?_push_of_some _ (Heap.get?_push_of_some _ e))

      · cases r₂ with
        | error e => exact hr₂
        | ok fl₂ =>
          cases fl₂ with
          | ret r =>
            obtain ⟨rfl, h', tk, c', rfl, hS', hc', hk'⟩ := hr₂
            repeat (any_goals (first | assumption | wp_step))
            exact h _ _ _ hS' hc' hk'
          | _ => exact hr₂.elim
    | _ => exact hr.elim

end
end Lst

/-! ## LSd -/
namespace Lst
open PySem PySem.Spec PyProof.Rows L2
/-! ### sorted(set(xs)): sd, in plain Lean -/
theorem nl_trans {a b c : List Nat} (h : a < b) (k : b < c) : a < c := List.lt_trans h k
theorem nl_irr (a : List Nat) : ¬ a < a := List.lt_irrefl a
theorem nl_tri (a b : List Nat) : a < b ∨ a = b ∨ b < a := by
  by_cases h : a < b
  · exact .inl h
  · by_cases k : b < a
    · exact .inr (.inr k)
    · exact .inr (.inl (List.le_antisymm k h))
theorem sg_inj {a b : Str} (h : sg a = sg b) : a = b := by
  cases a
  cases b
  simp only [Str.mk.injEq]
  exact Array.toList_inj.mp h
theorem lts_trans {a b c : Str} (h : ltS a b) (k : ltS b c) : ltS a c := nl_trans h k
theorem lts_ne {a b : Str} (h : ltS a b) : a ≠ b := fun e => nl_irr (sg a) (by rw [e] at h; rw [e]; exact h)
theorem mem_ins {z x : Str} : ∀ l : List Str, z ∈ ins x l ↔ z = x ∨ z ∈ l
  | [] => by simp [ins]
  | y :: r => by
    unfold ins
    by_cases e : x = y
    · rw [if_pos e, List.mem_cons, e]
      exact ⟨.inr, fun h => h.elim .inl id⟩
    · rw [if_neg e]
      by_cases c : ltS x y
      · rw [if_pos c, List.mem_cons]
      · rw [if_neg c, List.mem_cons, mem_ins r, List.mem_cons]
        exact ⟨fun h => h.elim (fun a => .inr (.inl a)) fun h => h.elim .inl fun a => .inr (.inr a), fun h => h.elim (fun a => .inr (.inl a)) fun h => h.elim .inl fun a => .inr (.inr a)⟩
theorem ins_up {x : Str} : ∀ {l : List Str}, l.Pairwise ltS → (ins x l).Pairwise ltS
  | [], _ => List.pairwise_singleton ..
  | y :: r, h => by
    obtain ⟨h1, h2⟩ := List.pairwise_cons.mp h
    unfold ins
    by_cases e : x = y
    · rw [if_pos e]
      exact h
    · rw [if_neg e]
      by_cases c : ltS x y
      · rw [if_pos c]
        refine List.pairwise_cons.mpr ⟨fun z hz => ?_, h⟩
        rcases List.mem_cons.mp hz with q | q
        · rw [q]
          exact c
        · exact lts_trans c (h1 z q)
      · rw [if_neg c]
        refine List.pairwise_cons.mpr ⟨fun z hz => ?_, ins_up h2⟩
        rcases (mem_ins r).mp hz with q | q
        · rw [q]
          rcases nl_tri (sg x) (sg y) with u | u | u
          · exact absurd u c
          · exact absurd (sg_inj u) e
          · exact u
        · exact h1 z q
theorem ins_len (x : Str) : ∀ l : List Str, (ins x l).length ≤ l.length + 1
  | [] => Nat.le_refl _
  | y :: r => by
    unfold ins
    have ih := ins_len x r
    split
    · exact Nat.le_succ _
    · split
      · exact Nat.le_refl _
      · rw [List.length_cons, List.length_cons]
        omega
theorem sd_up : ∀ xs : List Str, (sd xs).Pairwise ltS
  | [] => List.Pairwise.nil
  | _ :: r => ins_up (sd_up r)
theorem mem_sd {z : Str} : ∀ xs : List Str, z ∈ sd xs ↔ z ∈ xs
  | [] => Iff.rfl
  | x :: r => (mem_ins (sd r)).trans ((or_congr Iff.rfl (mem_sd r)).trans List.mem_cons.symm)
theorem sd_len : ∀ xs : List Str, (sd xs).length ≤ xs.length
  | [] => Nat.le_refl _
  | x :: r => Nat.le_trans (ins_len x (sd r)) (Nat.succ_le_succ (sd_len r))
theorem sd_ne {xs : List Str} (h : xs ≠ []) : sd xs ≠ [] := fun e => by
  cases xs with
  | nil => exact h rfl
  | cons x r =>
    have q := (mem_sd (z := x) (x :: r)).mpr (List.mem_cons_self ..)
    rw [e] at q
    cases q
theorem up_uniq : ∀ {l k : List Str}, l.Pairwise ltS → k.Pairwise ltS → (∀ z, z ∈ l ↔ z ∈ k) → l = k
  | [], [], _, _, _ => rfl
  | [], y :: r, _, _, h => nomatch (h y).mpr (List.mem_cons_self ..)
  | x :: r, [], _, _, h => nomatch (h x).mp (List.mem_cons_self ..)
  | x :: r, y :: q, h1, h2, h => by
    obtain ⟨a1, a2⟩ := List.pairwise_cons.mp h1
    obtain ⟨b1, b2⟩ := List.pairwise_cons.mp h2
    have e : x = y := by
      rcases List.mem_cons.mp ((h x).mp (List.mem_cons_self ..)) with c | c
      · exact c
      · rcases List.mem_cons.mp ((h y).mpr (List.mem_cons_self ..)) with d | d
        · exact d.symm
        · exact absurd (nl_trans (a1 y d) (b1 x c)) (nl_irr _)
    subst e
    refine congrArg (x :: ·) (up_uniq a2 b2 fun z => ⟨fun hz => ?_, fun hz => ?_⟩)
    · rcases List.mem_cons.mp ((h z).mp (List.mem_cons_of_mem _ hz)) with c | c
      · exact absurd c.symm (lts_ne (a1 z hz))
      · exact c
    · rcases List.mem_cons.mp ((h z).mpr (List.mem_cons_of_mem _ hz)) with c | c
      · exact absurd c.symm (lts_ne (b1 z hz))
      · exact c
theorem sd_congr {xs ys : List Str} (h : ∀ z, z ∈ xs ↔ z ∈ ys) : sd xs = sd ys := up_uniq (sd_up xs) (sd_up ys) fun z => (mem_sd xs).trans ((h z).trans (mem_sd ys).symm)
theorem sd_of_up {l : List Str} (h : l.Pairwise ltS) : sd l = l := up_uniq (sd_up l) h fun z => mem_sd l
theorem sd_sd (xs : List Str) : sd (sd xs) = sd xs := sd_of_up (sd_up xs)
theorem up_nodup {l : List Str} (h : l.Pairwise ltS) : l.Nodup := h.imp fun q => lts_ne q
theorem rising_pw : ∀ (p : Str) (l : List Str), risingS p l = true → (p :: l).Pairwise fun a b => ¬ sg b < sg a
  | p, [], _ => List.pairwise_singleton ..
  | p, x :: r, h => by
    have h' : (!ltCps (sg x) (sg p) && risingS x r) = true := h
    obtain ⟨a, b⟩ := Bool.and_eq_true_iff.mp h'
    have n : ¬ sg x < sg p := fun z => by
      rw [ltCps_eq, decide_eq_true z] at a
      cases a
    have ih := rising_pw x r b
    refine List.pairwise_cons.mpr ⟨fun z hz => ?_, ih⟩
    rcases List.mem_cons.mp hz with q | q
    · rw [q]
      exact n
    · intro u
      have v := (List.pairwise_cons.mp ih).1 z q
      rcases nl_tri (sg z) (sg x) with c | c | c
      · exact v c
      · rw [c] at u
        exact n u
      · exact n (nl_trans c u)
theorem sorted_pw : ∀ (l : List Str), sortedS l = true → l.Pairwise fun a b => ¬ sg b < sg a
  | [], _ => List.Pairwise.nil
  | x :: r, h => rising_pw x r h
theorem sorted_up {l : List Str} (h : sortedS l = true) (n : l.Nodup) : l.Pairwise ltS := by
  have q := sorted_pw l h
  induction l with
  | nil => exact List.Pairwise.nil
  | cons x r ih =>
    obtain ⟨n1, n2⟩ := List.nodup_cons.mp n
    obtain ⟨q1, q2⟩ := List.pairwise_cons.mp q
    refine List.pairwise_cons.mpr ⟨fun z hz => ?_, ?_⟩
    · rcases nl_tri (sg x) (sg z) with c | c | c
      · exact c
      · exact absurd (by rw [sg_inj c]; exact hz) n1
      · exact absurd c (q1 z hz)
    · have up : ∀ {l : List Str}, l.Nodup → (l.Pairwise fun a b => ¬ sg b < sg a) → l.Pairwise ltS := by
        intro l
        induction l with
        | nil => intro _ _; exact List.Pairwise.nil
        | cons y t ih2 =>
          intro m1 m2
          obtain ⟨u1, u2⟩ := List.nodup_cons.mp m1
          obtain ⟨v1, v2⟩ := List.pairwise_cons.mp m2
          refine List.pairwise_cons.mpr ⟨fun z hz => ?_, ih2 u2 v2⟩
          rcases nl_tri (sg y) (sg z) with c | c | c
          · exact c
          · exact absurd (by rw [sg_inj c]; exact hz) u1
          · exact absurd c (v1 z hz)
      exact up n2 q2
/-! ### the calls -/
def SetSO (w : World) (a : Addr) (xs : List Str) (c : Nat) : HO := .ext fun h => SetS w h a (fun j => decide (j ∈ xs)) c
section
variable {X : Cx}
theorem setSO_new {w : World} {P : Program} {H : Hp} {h : Heap} {a : Addr} {xs : List Str} {c : Nat} (R : SetS w h a (fun j => decide (j ∈ xs)) c) : ObjOk P w H h a (SetSO w a xs c) := by
  have ⟨o, _, _, _, ho, _⟩ := R
  exact ⟨R, ⟨o, ho⟩, fun h1 h2 p k => p.at k⟩
def rSetS (w : World) (K : PySem.W.Frag) : List V → Hp → VK → Prop := fun vs H Q => ∃ (l : Addr) (xs : List Str), vs = [.ref l] ∧ (SqL K H l (xs.map V.str) ∨ SqT K H l (xs.map V.str)) ∧ xs.length < 1000 ∧
  ∀ p c, H p = none → c ≤ xs.length → Q (.ref p) (upd H p (SetSO w p xs c))
theorem cr_setS (hc : X.calm = true) : CallR X (.type "set") (rSetS X.w X.K) := by
  intro pins s σ H vs us Q I r h
  obtain ⟨l, xs, rfl, hl, hx, q⟩ := h
  rw [Vals.ref1 r]
  have hn : H s.heap.objs.size = none := I.hok.fresh (Nat.le_refl _)
  have hb : xs.length + 1 < scanBound := by unfold scanBound; omega
  have fin : ∀ (h' : Heap) (tk c : Nat), SetS X.w h' s.heap.objs.size (fun j => decide (j ∈ xs)) c → c ≤ xs.length → (∀ b o, s.heap.get? b = some o → h'.get? b = some o) →
      ∃ v H1, Inv X pins σ H1 { s with heap := h', toks := tk } ∧ RelV v (Value.ref s.heap.objs.size) ∧ Q v H1 := fun h' tk c R hc k =>
    ⟨.ref s.heap.objs.size, upd H s.heap.objs.size (SetSO X.w s.heap.objs.size xs c), I.laid (t' := tk) k (Nat.le_refl _) (setSO_new R), rfl, q _ c hn hc⟩
  rcases hl with hl | hl
  · obtain ⟨its, rv, pl, hz⟩ := I.list hl
    exact call_set_lstS (P := X.prog) xs (I.ok.hd hc) pl.isList rv.strs hb fin
  · obtain ⟨its, rv, pl, hz⟩ := I.tuple hl
    exact call_set_tupS (P := X.prog) xs (I.ok.hd hc) pl rv.strs hb fin
def rSortSS (w : World) : List V → Hp → VK → Prop := fun vs H Q => ∃ (a : Addr) (xs : List Str) (c : Nat), vs = [.ref a] ∧ H a = some (SetSO w a xs c) ∧ c < 64 ∧
  ∀ p, H p = none → Q (.ref p) (upd H p (.lst ((sd xs).map V.str)))
theorem cr_sortSS (hcalm : X.calm = true) : CallR X (.builtin "sorted") (rSortSS X.w) := by
  intro pins s σ H vs us Q I r h
  obtain ⟨a, xs, c, rfl, ha, h64, q⟩ := h
  have R : SetS X.w s.heap a (fun j => decide (j ∈ xs)) c := (I.hok a _ ha).1
  rw [Vals.ref1 r]
  obtain ⟨o, es, ep, t, ho, hex, hd, g, nd, hm, hb, hf, hn, hr, hl⟩ := R
  refine Calls.call_function_entry PyProof.Rows.kind_sorted PyProof.Rows.plain_sorted PyProof.Rows.entry_sorted (PyProof.Rows.args_sorted1 _) ?_
  unfold Builtin.«sorted»
  refine wpAny_bind (m := checkCount "sorted" 1 1 _) (wpAny_pure ?_)
  refine wpAny_bind (collect_set (A := X.A.in1) (I.ok.hd hcalm) ⟨o, ho, hex.1, hd⟩ hf hb hr hl fun s1 vs k1 hz g1 o1 pm => ?_)
  have hvl : vs.length = c := by rw [pm.length_eq, List.length_map, Array.length_toList]; exact hn
  have hS : StrsAre vs (vs.map PyProof.Rows.strOf) := strsAre_map vs fun v hv => by
    obtain ⟨e, he, q⟩ := List.mem_map.mp (pm.mem_iff.mp hv)
    obtain ⟨k, tk, h1, _⟩ := g e he
    exact ⟨k, tk, by rw [← q]; exact h1⟩
  have pk : (vs.map PyProof.Rows.strOf).Perm (es.toList.map keyS) := by
    have q := pm.map PyProof.Rows.strOf
    rw [List.map_map] at q
    refine q.trans (List.Perm.of_eq (List.map_congr_left fun e he => ?_))
    obtain ⟨k, tk, h1, _⟩ := g e he
    show PyProof.Rows.strOf e.2 = keyS e
    unfold keyS
    rw [h1]
    rfl
  refine wpAny_bind (wpAny_newList ?_ (by rw [hvl, sizeLine_eq]; omega))
  have hoL : (s1.heap.push (seqObj "list" vs.toArray 0)).get? s1.heap.objs.size = some (seqObj "list" vs.toArray 0) := Heap.get?_push_size _ rfl
  refine wpAny_bind (wpAny_holding (wpAny_call_entry PyProof.Rows.slot_list_sort ⟨_, hoL, rfl⟩ PyProof.Rows.entry_list_sort
    (list_sort_treeK strKind_oneLt (s := { s1 with heap := s1.heap.push (seqObj "list" vs.toArray 0) }) hoL hS.keysOf (fun v₁ v₂ rest e => keyKind_strs (by rw [← e]; exact hS)) (by rw [hvl]; exact h64) fun st' hp hs => ⟨_, rfl, ?_⟩)
    (PyProof.Rows.args_list_sort _)))
  obtain ⟨ys, y1, y2, y3⟩ := sorted_out_str hS hp hs
  obtain ⟨e', he'⟩ := PyProof.Rows.sortedHeap_at (vs := vs) (out := (arrOf st').map (·.2)) hoL
  have pn : ys.Perm (es.toList.map keyS) := y2.trans pk
  have ey : ys = sd xs := up_uniq (sorted_up y3 (pn.nodup_iff.mpr nd)) (sd_up xs) fun z => by
    rw [pn.mem_iff, ← hm z, mem_sd]
    exact decide_eq_true_iff
  have hlen : (ys.map V.str).length ≤ sizeLine := by
    rw [List.length_map, pn.length_eq, List.length_map, Array.length_toList, hn, sizeLine_eq]
    omega
  have hnp : H s1.heap.objs.size = none := I.hok.fresh hz
  have k2 : ∀ b u, s.heap.get? b = some u → (PyProof.Rows.sortedHeap (s1.heap.push (seqObj "list" vs.toArray 0)) s1.heap.objs.size vs ((arrOf st').map (·.2))).get? b = some u := fun b u e => by
    have q := k1 b u e
    have hlt := Heap.lt_size q
    rw [PyProof.Rows.sortedHeap_old (Nat.ne_of_lt hlt) (by rw [size_push']; exact Nat.lt_succ_of_lt hlt)]
    exact Heap.get?_push_of_some _ q
  have J : Inv X pins σ (upd H s1.heap.objs.size (.lst (ys.map V.str))) { s with heap := PyProof.Rows.sortedHeap (s1.heap.push (seqObj "list" vs.toArray 0)) s1.heap.objs.size vs ((arrOf st').map (·.2)), gens := s1.gens, drawn := s1.drawn, toks := s1.toks } :=
    I.call (ch := []) (Un.laid k2 hz hnp) (I.hok.laid k2 hz ⟨hlen, ((arrOf st').map (·.2)).toList, e', vals_of_strs y1, by rw [Array.toArray_toList]; exact he'⟩) (by rw [g1]; exact I.bare) (fun _ z => nomatch z)
  refine wpAny_pure ⟨_, rfl, .ref s1.heap.objs.size, _, ?_, rfl, q s1.heap.objs.size hnp⟩
  rw [← ey]
  cases s1
  cases s
  cases o1
  exact J
end
end Lst

/-! ## LOp -/
namespace Lst
open PySem PySem.Spec PyProof.Rows L2
/-! ### a list == [], a list != [] -/
section
variable {X : Cx}
def rEqNil (K : PySem.W.Frag) (f : Bool → Bool) : R2 := fun x y H Q => ∃ (a b : Addr) (xs : List V), x = .ref a ∧ y = .ref b ∧ SqL K H a xs ∧ SqL K H b [] ∧ Q (.bl (f xs.isEmpty)) H
theorem op_eqNil (hu : X.A.units + 64 < cLine) : OpR X (compareOp .Eq) (rEqNil X.K fun b => b) := by
  intro pins s σ H x y v u Q I rx ry h
  obtain ⟨a, b, xs, rfl, rfl, ha, hb, q⟩ := h
  cases rx
  cases ry
  obtain ⟨its, rv, la, _⟩ := I.list ha
  obtain ⟨its2, rv2, lb, _⟩ := I.list hb
  cases rv2
  have hu2 : X.A.units < cLine := by omega
  cases rv with
  | nil => exact SeqAt.RcAt.lists (e := fun _ => true) la.isList lb.isList rfl hu2 (fun j h1 _ => absurd h1 (Nat.not_lt_zero j)) X.prog X.w _ _ ⟨.bl true, H, I, rfl, q⟩
  | cons r t => exact SeqAt.RcAt.lists_lengths la.isList lb.isList rfl hu2 X.prog X.w _ _ ⟨.bl false, H, I, rfl, q⟩
theorem op_neNil (hu : X.A.units + 64 < cLine) : OpR X (compareOp .NotEq) (rEqNil X.K fun b => !b) := by
  intro pins s σ H x y v u Q I rx ry h
  obtain ⟨a, b, xs, rfl, rfl, ha, hb, q⟩ := h
  cases rx
  cases ry
  obtain ⟨its, rv, la, _⟩ := I.list ha
  obtain ⟨its2, rv2, lb, _⟩ := I.list hb
  cases rv2
  have hu2 : X.A.units < cLine := by omega
  cases rv with
  | nil => exact SeqAt.RcNeAt.lists (e := fun _ => true) la.isList lb.isList rfl hu2 (fun j h1 _ => absurd h1 (Nat.not_lt_zero j)) X.prog X.w _ _ ⟨.bl false, H, I, rfl, q⟩
  | cons r t => exact SeqAt.RcNeAt.lists_lengths la.isList lb.isList rfl hu2 X.prog X.w _ _ ⟨.bl true, H, I, rfl, q⟩
theorem rd_nil {K : PySem.W.Frag} {H : Hp} {a b : Addr} {xs : List V} {f : Bool → Bool} {Q : VK} (h : H a = some (.lst xs)) (h' : H b = some (.lst [])) (q : Q (.bl (f xs.isEmpty)) H) : rEqNil K f (.ref a) (.ref b) H Q :=
  ⟨a, b, xs, rfl, rfl, sql h, sql h', q⟩
end
/-! ### the rules with the fragment named -/
section
variable {X : Cx} {K : PySem.W.Frag}
def rLenK (K : PySem.W.Frag) : List V → Hp → VK → Prop := fun xs H Q => ∃ p ys, xs = [.ref p] ∧ (SqL K H p ys ∨ SqT K H p ys) ∧ Q (.int ys.length) H
def rListK (K : PySem.W.Frag) : List V → Hp → VK → Prop := fun xs H Q => ∃ p ys, xs = [.ref p] ∧ (SqL K H p ys ∨ SqT K H p ys) ∧ ∀ l, H l = none → Q (.ref l) (upd H l (.lst ys))
def rTupK (K : PySem.W.Frag) : List V → Hp → VK → Prop := fun xs H Q => ∃ p ys, xs = [.ref p] ∧ ((SqL K H p ys ∧ ∀ l, H l = none → Q (.ref l) (upd H l (.tup ys))) ∨ (SqT K H p ys ∧ Q (.ref p) H))
def rJoinK (K : PySem.W.Frag) : V → List V → Hp → VK → Prop := fun x xs H Q => ∃ a p, ∃ ys : List Str, x = .str a ∧ xs = [.ref p] ∧ (SqL K H p (ys.map V.str) ∨ SqT K H p (ys.map V.str)) ∧ (ys.map (·.length)).sum + ys.length * a.length ≤ 16777216 ∧ Q (.str (Txt.join a ys)) H
theorem ix_listK (h : X.K = K) : IxR X (rIxL K) := h ▸ ix_list
theorem ix_tupK (h : X.K = K) : IxR X (rIxT K) := h ▸ ix_tup
theorem sl_listK (h : X.K = K) : SlR X (rSlL K) := h ▸ sl_list
theorem sl_tupK (h : X.K = K) : SlR X (rSlA K) := h ▸ sl_tupA
theorem inK (h : X.K = K) : OpR X (compareOp .In) (rIn K false) := h ▸ op_in_seq
theorem ninK (h : X.K = K) : OpR X (compareOp .NotIn) (rIn K true) := h ▸ op_notIn_seq
theorem catAK (h : X.K = K) : OpR X (binaryOp .Add) (rCatA K) := h ▸ op_catA
theorem eqDK (h : X.K = K) (hu : X.A.units + 64 < cLine) : OpR X (compareOp .Eq) (rEqD K) := h ▸ op_eqD hu
theorem neDK (h : X.K = K) (hu : X.A.units + 64 < cLine) : OpR X (compareOp .NotEq) (rNeD K) := h ▸ op_neD hu
theorem eqNilK (h : X.K = K) (hu : X.A.units + 64 < cLine) : OpR X (compareOp .Eq) (rEqNil K fun b => b) := h ▸ op_eqNil hu
theorem neNilK (h : X.K = K) (hu : X.A.units + 64 < cLine) : OpR X (compareOp .NotEq) (rEqNil K fun b => !b) := h ▸ op_neNil hu
theorem lenK (h : X.K = K) : CallR X (.builtin "len") (rLenK K) := h ▸ call_len_seq
theorem listK (h : X.K = K) : CallR X (.type "list") (rListK K) := h ▸ call_list_of
theorem tupK (h : X.K = K) : CallR X (.type "tuple") (rTupK K) := h ▸ call_tuple_of
theorem allK (h : X.K = K) (hc : X.calm = true) : CallR X (.builtin "all") (rAll K) := h ▸ cr_all hc
theorem anyK (h : X.K = K) (hc : X.calm = true) : CallR X (.builtin "any") (rAny K) := h ▸ cr_any hc
theorem setK {w : World} (h : X.K = K) (hw : X.w = w) (hc : X.calm = true) : CallR X (.type "set") (rSetS w K) := by
  subst h
  subst hw
  exact cr_setS hc
theorem sortSK {w : World} (hw : X.w = w) (hc : X.calm = true) : CallR X (.builtin "sorted") (rSortSS w) := by
  subst hw
  exact cr_sortSS hc
theorem isiK (h : X.K = K) : CallR X (.builtin "isinstance") (rIsi K) := h ▸ call_isi
theorem isiTK (h : X.K = K) : CallR X (.builtin "isinstance") (rIsiT K) := h ▸ call_isiT
theorem pi_listK {tg l : Expr} {tl : TE} (h : X.K = K) (hl : PE X l tl) : PI X tg l (iList K tl) := h ▸ pi_list hl
theorem pi_tupK {tg l : Expr} {tl : TE} (h : X.K = K) (hl : PE X l tl) : PI X tg l (iTup K tl) := h ▸ pi_tup hl
theorem pg_tupK {es : List Expr} {k : Nat} {t : TGs} {n : Nat} {pos : Pos} (h0 : X.K = K) (hc : X.calm = true) (h : PGs X es t)
    (hn : (assignEach es X.env).length = n := by rfl) (hst : (assignEach es X.env).findIdx? (·.1) = none := by rfl) : PG X (.Tuple es k pos) (gTup K n t) := h0 ▸ pg_tup hc h hn hst
theorem fldK {e : Expr} {f : Str} {pos : Pos} {ta : TE} (h : X.K = K) (he : PE X e ta) (hb : attributeBase e f X.env (eval e X.env) = eval e X.env) : PE X (.Attribute e f pos) (tFld K ta f) := h ▸ pe_fld he hb
theorem ps_fldK {o value : Expr} {f : Str} {pos pos' : Pos} {ta tv : TE} (h : X.K = K) (ha : PE X o ta) (hv : PE X value tv) (hs : swapsWith value (some (.Attribute o f pos')) pos.line X.env = pure false) : PS X (.Assign [.Attribute o f pos'] value pos) (sFld K ta tv f) := h ▸ ps_fld ha hv hs
theorem joinK {o e : Expr} {to te : TE} {apos pos : Pos} (h : X.K = K) (ho : PE X o to) (he : PE X e te) (hs : starEach [e] X.env = [(false, eval e X.env)] := by rfl) (hbase : attributeBase o "join" X.env (eval o X.env) = eval o X.env := by rfl) (hline : (apos.endLine == pos.line) = true := by rfl) :
    PE X (.Call (.Attribute o "join" apos) [e] [] pos) (tM1 (rJoinK K) to te) := by
  subst h
  exact pe_join ho he hs hbase hline
end
/-! ### a list comprehension whose parts stay closed -/
def LcG (J : It) (g : TG) (tt : TT) (te : TE) (vs : List Nat) (σ : L2.St) (H1 : Hp) (D : Addr) (Q : VK) : Prop := ∃ W : Nat → Nat → Hp → Prop, (∃ m, W 0 m (upd H1 D (.lst []))) ∧ ∀ i m H, W i m H →
  (J.stop i H ∧ Q (.ref D) H) ∨ (J.go i H ∧ ∃ Nx : Hp → Prop, (∀ H', Nx H' → ∃ m', m' < m ∧ W (i + 1) m' H') ∧ ∀ x H', J.yld i H x H' → g x (wipe σ vs) H' fun σ2 H2 => wipe σ2 vs = wipe σ vs ∧ tt σ2 H2 fun b H3 =>
    if b = true then te σ2 H3 fun y H4 => ∃ acc, H4 D = some (.lst acc) ∧ acc.length < sizeLine ∧ Nx (upd H4 D (.lst (acc ++ [y]))) else Nx H3)
theorem lc_open {wi : TI} {g : TG} {tt : TT} {te : TE} {vs : List Nat} {σ : L2.St} {H : Hp} {Q : VK} (h : wi σ H fun J H1 => ∀ D, H1 D = none → LcG J g tt te vs σ H1 D Q) : tLc wi g tt te vs σ H Q := h
theorem lcg {J : It} {n : Nat} {G : Hp → Prop} {Y : Nat → Hp → V → Hp → Prop} {H1 S1 : Hp} {D : Addr} (w : Walk J n G Y) (R : Nat → List V → Hp → Prop) (Z : Hp → Hp → Prop) {g : TG} {tt : TT} {te : TE} {vs : List Nat} {σ : L2.St} {Q : VK} (ms : Addr → Prop) (hD : H1 D = none) (hS : Same S1 H1)
    (h0 : R 0 [] S1) (z0 : Z S1 H1) (hZ : ∀ S H o, Z S H → Z S (upd H D o)) (hG : ∀ i H S acc, i ≤ n → Gm ms H1 S1 H S → R i acc S → Z S H → G H)
    (hs : ∀ i x H H' S acc, i < n → Gm ms H1 S1 H S → R i acc S → Z S H → H D = some (.lst acc) → S D = none → Y i H x H' → g x (wipe σ vs) H' fun σ2 H2 => wipe σ2 vs = wipe σ vs ∧ tt σ2 H2 fun b H3 =>
      if b = true then te σ2 H3 fun y H4 => ∃ acc, H4 D = some (.lst acc) ∧ acc.length < sizeLine ∧ LcP ms H1 S1 D R Z (i + 1) (upd H4 D (.lst (acc ++ [y]))) else LcP ms H1 S1 D R Z (i + 1) H3)
    (hd : ∀ H S acc, Gm ms H1 S1 H S → R n acc S → Z S H → H D = some (.lst acc) → S D = none → Q (.ref D) H) : LcG J g tt te vs σ H1 D Q :=
  lc_g w (Qd := fun H => Q (.ref D) H) R Z ms hD hS h0 z0 hZ hG hs hd
theorem Gm.same {H S H1 S1 : Hp} (g : Gm noM H S H1 S1) : Same H H1 := Gr.same g
theorem Gm.m {ms : Addr → Prop} {H S H1 S1 : Hp} (g : Gm noM H S H1 S1) : Gm ms H S H1 S1 := Gr.m g
end Lst

/-! a reading, opened; one step of it that asks nothing; as many as there are -/
local macro_rules | `(tactic| walk_at "rs") => `(tactic| dsimp only [L2.tRet, L2.tRetN, L2.tAndV, L2.tOrV, L2.tNotV, L2.tCB, L2.tCons, L2.tVar, L2.tC, L2.tNil, L2.tOp, L2.rI0, L2.rI, L2.tSeq, L2.tAsg, L2.gName, L2.tIfS, L2.tB, L2.tTest, L2.tIf, L2.tAnd, L2.tOr, L2.tNot, L2.tNext, L2.tDrop, L2.tLst, L2.tTup, L2.tCall, L2.tFld, L2.sFld, L2.tM1, L2.tM0, L2.tBM, L2.tBM0, L2.tSl, L2.tPart, L2.tNoPart, L2.tNever, L2.tPar, L2.tChain, L2.rEq, L2.rNe, L2.gTup, L2.gUnl, L2.gCons, L2.gNil, L2.gSub, L2.tCmp, L2.t2I, L2.tMeth, L2.tMake, L2.rSetL, Lst.rLenK, Lst.rListK, Lst.rTupK, Lst.rJoinK, L2.tYes, L2.tUn, L2.rU, C8.tCut, StX.tMakeR, StX.tStar])
local macro_rules | `(tactic| walk_at "r1") => `(tactic| first | ((with_reducible refine Lst.lc_open ?_); dsimp only [L2.iList, L2.iTup, L2.iStr, L2.iRng1, L2.iRng2, L2.iKeys]; (try walk_at "rs")) | (rw [if_neg Bool.false_ne_true]) | (rw [if_pos (rfl : true = true)]) | (refine ⟨_, rfl, ?_⟩) | (refine ⟨_, _, rfl, rfl, ?_⟩) | (refine ⟨_, _, rfl, ?_⟩) | (refine ⟨_, rfl, rfl, ?_⟩) | (refine ⟨rfl, ?_⟩) | (refine Or.inl ⟨_, rfl, ?_⟩) | (refine ⟨(by decide : (0 : Int) < _), ?_⟩) | (refine ⟨Or.inr ⟨by decide, by decide⟩, ?_⟩))
local macro_rules | `(tactic| walk_at "rd") => `(tactic| repeat walk_at "r1")
local macro_rules | `(tactic| walk_at "sz") => `(tactic| (first | exact Nat.le_of_ble_eq_true rfl | (simp only [List.length_cons, List.length_nil, List.length_map]; decide)))
local macro_rules | `(tactic| walk_at "ri") => `(tactic| ((first | (with_reducible refine Lst.lc_open ?_) | skip); dsimp only [L2.tFor, L2.iList, L2.iTup, L2.iStr, L2.iRng1, L2.iRng2, L2.iKeys]; walk_at "rs"))

/-! ## LBag3 -/
namespace Lst
open PySem PySem.Spec PyProof.Rows L2
theorem BagAt.frz {S H : Hp} {β D : Addr} {o : HO} (b : BagAt S H β) (n : S D = none) (h : β ≠ D) : BagAt (upd S D o) H β := by
  obtain ⟨c, cells, i, big, seed, cnt, e, h2, r⟩ := id b.ex
  exact ⟨⟨c, cells, i, big, seed, cnt, e, by rw [upd_ne (ne_of_none h2 n)]; exact h2, r⟩, by rw [upd_ne h]; exact b.out⟩
/-- a new object beside the bag -/
theorem BagAt.l0 {S H H2 : Hp} {β p : Addr} {o : HO} (b : BagAt S H β) (e : upd H p o = H2) (hp : H p = none) : BagAt S H2 β := by
  rw [← e]
  exact b.updO fun z => b.live (by rw [z]; exact hp)
theorem BagAt.ld {S H H2 : Hp} {β p : Addr} {o : HO} (b : BagAt S H β) (e : upd H p o = H2) (hp : H p = none) (hS : Same S H) : BagAt (upd S p o) H2 β := by
  have n : β ≠ p := fun z => b.live (by rw [z]; exact hp)
  rw [← e]
  exact (b.updO n).frz (Same.free hS hp) n
section
variable {P : Program} {w : World} {K : PySem.W.Frag} {mg : Str → Option Value} {base : Heap}
theorem ok_leaf (T : Txt K mg) (G_l_pull : OkG P w K mg base CX0 1 "_law_pull" P_l_pull sp_pull) (G_l_any : OkG P w K mg base CX0 2 "_law_any" P_l_any sp_any) (G_l_words : OkG P w K mg base CX0 4 "_law_words" P_l_words sp_words) : OkG P w K mg base CX0 5 "_law_leaf" P_l_leaf sp_leaf := by
  refine (T.f_l_leaf).ok sc_l_leaf (fun vs H Q E h => ?_) (fun cdv A outer s H vs Q E hr h => ?_)
  · obtain ⟨β, al, v, ns, S, rfl, _⟩ := h
    rfl
  · obtain ⟨β, al, v, ns, S, rfl, ⟨na, rfl, hns⟩, nl, a0, a1, hS, hB, k⟩ := h
    refine ⟨_, PSs.nox (pss_cons (ps_set (i := 4) sc_l_leaf.nd rfl (Or.inl rfl) (pe_call G_l_pull (hr.mono (by first | decide | omega)) (by rfl) (T.g "_law_pull") (T.k "_law_pull") T.b_l_pull .nil pass0 (pa_cons (pv 0) (pa_cons pe_int pa_nil))))
        (pss_cons (ps_if (PW.pt (pw_and (pt_cmpR op_eq (pv 4) pe_int (nomark _)) (pw_and1 (pt_cmpR (neNilK (K := K) rfl hr.units) (pv 3) (pe_lst pa_nil) (nomark _))))) (pss_one (ps_ret (pe_lst (pa_cons pe_str (pa_cons (pe_call G_l_any (hr.mono (by first | decide | omega)) (by rfl) (T.g "_law_any") (T.k "_law_any") T.b_l_any .nil pass0 (pa_cons (pv 0) (pa_cons (pv 3) pa_nil))) pa_nil))))) pss_nil)
        (pss_one (ps_ret (pe_lst (pa_cons (pe_ifExp (pt_cmpR op_lt (pv 4) pe_int (nomark _)) pe_str pe_str) (pa_cons (pe_call G_l_words (hr.mono (by first | decide | omega)) (by rfl) (T.g "_law_words") (T.k "_law_words") T.b_l_words .nil pass0 (pa_cons (pv 0) (pa_cons (pv 1) (pa_cons (pv 2) pa_nil)))) pa_nil))))))), ?_⟩
    walk_at "rs"
    walk_at "rd"
    refine ⟨β, _, S, rfl, by omega, by omega, hS, hB, fun H1 S1 g1 b1 way w0 w1 => ?_⟩
    walk_at "rd"
    have blk : ∀ (H2 S2 : Hp), Gm (one β) H S H2 S2 → BagAt S2 H2 β → ∀ bb : Bool, sp_words [V.ref β, V.str al, V.int 2] H2 (fun z H3 => [V.str (hdS bb), z].length ≤ sizeLine ∧ ∀ p, H3 p = none → Q (V.ref p) (upd H3 p (.lst [V.str (hdS bb), z]))) E := by
      intro H2 S2 g2 b2 bb
      refine ⟨β, al, S2, rfl, a0, a1, g2.sub, b2, fun H3 S3 g3 b3 p ws hp l0 l1 hw => ⟨by walk_at "sz", fun q hq => ?_⟩⟩
      have g4 := (g2.trans g3)
      generalize e : upd H3 q (HO.lst [V.str (hdS bb), V.ref p]) = H4
      have g5 := g4.ld e hq
      refine k H4 _ g5 (b3.ld e hq g4.sub) (V.ref q) (.lf bb ws) ⟨q, p, rfl, upd_same, ?_⟩ ⟨l0, l1, hw⟩ rfl rfl
      rw [upd_ne (ne_of_none hp (Same.free g4.sub hq))]
      exact hp
    by_cases c : way = 0
    · rw [if_pos (decide_eq_true (by rw [c]))]
      walk_at "rd"
      refine ⟨by walk_at "sz", fun p hp => ?_⟩
      generalize e1 : upd H1 p (HO.lst []) = H2
      have g2 := g1.l0 e1 hp
      have b2 := b1.l0 e1 hp
      refine rd_nil (g2.sub _ _ (g1.mono _ _ hns)) (new_at e1) ?_
      walk_at "rd"
      cases ens : ns with
      | nil =>
        walk_at "rd"
        rw [if_pos (show decide (way < 3) = true from decide_eq_true (by omega))]
        walk_at "rd"
        exact blk H2 S1 g2 b2 true
      | cons n0 nr =>
        rw [if_pos (show (!(List.map V.str (n0 :: nr)).isEmpty) = true from rfl)]
        walk_at "rd"
        refine ⟨β, _, S1, rfl, .inl ⟨na, _, rfl, g1.mono _ _ hns, by rw [ens]; exact Nat.succ_pos _, by rw [List.length_map]; omega, g2.sub, b2, fun H3 S3 g3 b3 x hx => ?_⟩⟩
        obtain ⟨n, hn, rfl⟩ := List.mem_map.mp hx
        refine ⟨by walk_at "sz", fun q hq => ?_⟩
        generalize e3 : upd H3 q (HO.lst [V.str (Str.ofString "name"), V.str n]) = H4
        have g4 := g2.trans g3
        exact k H4 _ (g4.ld e3 hq) (b3.ld e3 hq g4.sub) (V.ref q) (.nm n) ⟨q, rfl, upd_same⟩ hn rfl rfl
    · rw [if_neg (by rw [decide_eq_false (fun z => c (V.int.inj z))]; decide)]
      walk_at "rd"
      by_cases c3 : way < 3
      · rw [if_pos (decide_eq_true c3)]
        walk_at "rd"
        exact blk H1 S1 g1 b1 true
      · rw [if_neg (by rw [decide_eq_false c3]; decide)]
        walk_at "rd"
        exact blk H1 S1 g1 b1 false
end
end Lst

/-! ## LBag4 -/
namespace Lst
open PySem PySem.Spec PyProof.Rows L2
/-! ### a line of trees -/
def LineAt (S : Hp) (v : V) (ts : List Tr) : Prop := ∃ a us, v = .ref a ∧ S a = some (.lst us) ∧ Paired (TreeAt S) us ts
theorem LineAt.mono {S S' : Hp} {v : V} {ts : List Tr} (h : Same S S') (t : LineAt S v ts) : LineAt S' v ts := by
  obtain ⟨a, us, e, h1, h2⟩ := t
  exact ⟨a, us, e, h _ _ h1, L2.Paired.mapP h2 fun _ _ z => z.mono h⟩
/-- behind n steps -/
structure LineOk (al : Str) (ns : List Str) (ts : List Tr) (n : Nat) : Prop where
  lo : 1 ≤ ts.length
  hi : ts.length ≤ 3
  good : ∀ t ∈ ts, goodT al ns t ∧ depth t ≤ n
  sum : (ts.flatMap toks).length ≤ 3 + n
theorem LineOk.weak {al : Str} {ns : List Str} {ts : List Tr} {n m : Nat} (h : LineOk al ns ts n) (k : n ≤ m) : LineOk al ns ts m :=
  ⟨h.lo, h.hi, fun t ht => ⟨(h.good t ht).1, Nat.le_trans (h.good t ht).2 k⟩, Nat.le_trans h.sum (Nat.add_le_add_left k 3)⟩
theorem LineOk.bh {al : Str} {ns : List Str} {ts : List Tr} {t : Tr} {w : Str} {n : Nat} (h : LineOk al ns (ts ++ [t]) n) (hw : wordIn al w) : LineOk al ns (ts ++ [.bh w t]) (n + 1) := by
  have q := h.sum
  rw [List.flatMap_append, List.length_append, List.flatMap_singleton] at q
  have gt := h.good t (List.mem_append_right _ (List.mem_singleton.mpr rfl))
  refine ⟨?_, ?_, fun y hy => ?_, ?_⟩
  · rw [List.length_append]
    exact Nat.le_add_left ..
  · have := h.hi
    rw [List.length_append] at this ⊢
    exact this
  · rcases List.mem_append.mp hy with z | z
    · exact ⟨(h.good y (List.mem_append_left _ z)).1, Nat.le_succ_of_le (h.good y (List.mem_append_left _ z)).2⟩
    · rw [List.mem_singleton.mp z]
      exact ⟨⟨hw, gt.1⟩, Nat.succ_le_succ gt.2⟩
  · rw [List.flatMap_append, List.length_append, List.flatMap_singleton]
    show _ + (toks t ++ [bhTok w]).length ≤ _
    rw [List.length_append, List.length_singleton]
    omega
theorem LineOk.op {al : Str} {ns : List Str} {ts : List Tr} {t u : Tr} {b : Bool} {n : Nat} (h : LineOk al ns ((ts ++ [t]) ++ [u]) n) : LineOk al ns (ts ++ [.op b t u]) (n + 1) := by
  have q := h.sum
  rw [List.flatMap_append, List.length_append, List.flatMap_singleton, List.flatMap_append, List.length_append, List.flatMap_singleton] at q
  have gt := h.good t (List.mem_append_left _ (List.mem_append_right _ (List.mem_singleton.mpr rfl)))
  have gu := h.good u (List.mem_append_right _ (List.mem_singleton.mpr rfl))
  refine ⟨?_, ?_, fun y hy => ?_, ?_⟩
  · rw [List.length_append]
    exact Nat.le_add_left ..
  · have := h.hi
    rw [List.length_append, List.length_append, List.length_singleton, List.length_singleton] at this
    rw [List.length_append, List.length_singleton]
    omega
  · rcases List.mem_append.mp hy with z | z
    · have := h.good y (List.mem_append_left _ (List.mem_append_left _ z))
      exact ⟨this.1, Nat.le_succ_of_le this.2⟩
    · rw [List.mem_singleton.mp z]
      exact ⟨⟨gt.1, gu.1⟩, Nat.succ_le_succ (Nat.max_le.mpr ⟨gt.2, gu.2⟩)⟩
  · rw [List.flatMap_append, List.length_append, List.flatMap_singleton]
    show _ + (toks t ++ toks u ++ [opS b]).length ≤ _
    rw [List.length_append, List.length_append, List.length_singleton]
    omega
theorem pair_up {S S' : Hp} {us : List V} {ts : List Tr} (h : Same S S') (p : Paired (TreeAt S) us ts) : Paired (TreeAt S') us ts := L2.Paired.mapP p fun _ _ z => z.mono h
theorem sIx_neg {n : Nat} {d k : Nat} (h : k ≤ n) (h0 : 0 < k) : HT.sIx n d (some (-(k : Int))) = n - k := by
  show (if (-(k : Int)) < 0 then (-(k : Int) + (n : Int)).toNat else min (-(k : Int)).toNat n) = n - k
  rw [if_pos (by omega)]
  omega
theorem cut_pre {xs : List V} {k : Nat} (h : k ≤ xs.length) (h0 : 0 < k) : cutV xs none (some (-(k : Int))) = xs.take (xs.length - k) := by
  unfold cutV
  rw [HT.sIx_none, sIx_neg h h0, List.drop_zero, Nat.sub_zero]
theorem cut_suf {xs : List V} {k : Nat} (h : k ≤ xs.length) (h0 : 0 < k) : cutV xs (some (-(k : Int))) none = xs.drop (xs.length - k) := by
  unfold cutV
  rw [HT.sIx_none, sIx_neg h h0]
  exact List.take_of_length_le (by rw [List.length_drop]; exact Nat.le_refl _)
theorem cut_to {xs : List V} {k : Nat} : cutV xs none (some (k : Int)) = xs.take k := by
  unfold cutV
  rw [HT.sIx_none, HT.sIx_nat, List.drop_zero, Nat.sub_zero]
  rcases Nat.le_total k xs.length with h | h
  · rw [Nat.min_eq_left h]
  · rw [Nat.min_eq_right h, List.take_of_length_le (Nat.le_refl _), List.take_of_length_le h]
theorem cut_l1 (xs : List V) (x : V) : cutV (xs ++ [x]) none (some (-1)) = xs := by
  have q := cut_pre (xs := xs ++ [x]) (k := 1) (by rw [List.length_append]; exact Nat.le_add_left ..) (by decide)
  refine q.trans ?_
  rw [List.length_append]
  exact List.take_left
theorem cut_l2 (xs : List V) (x y : V) : cutV (xs ++ [x, y]) none (some (-2)) = xs := by
  have q := cut_pre (xs := xs ++ [x, y]) (k := 2) (by rw [List.length_append]; exact Nat.le_add_left ..) (by decide)
  refine q.trans ?_
  rw [List.length_append]
  exact List.take_left
theorem cut_r2 (xs : List V) (x y : V) : cutV (xs ++ [x, y]) (some (-2)) none = [x, y] := by
  have q := cut_suf (xs := xs ++ [x, y]) (k := 2) (by rw [List.length_append]; exact Nat.le_add_left ..) (by decide)
  refine q.trans ?_
  rw [List.length_append]
  exact List.drop_left
theorem at_neg {xs : List V} {k : Nat} {v : V} (h0 : 0 < k) (h : k ≤ xs.length) (e : xs[xs.length - k]? = some v) : atI xs (-(k : Int)) = some v := by
  unfold atI ixN
  rw [if_neg (by omega), if_pos (by omega)]
  show xs[((-(k : Int)) + (xs.length : Int)).toNat]? = some v
  rw [show ((-(k : Int)) + (xs.length : Int)).toNat = xs.length - k by omega]
  exact e
theorem at_0 (x : V) (xs : List V) : atI (x :: xs) 0 = some x := atI_nat (xs := x :: xs) (j := 0) (v := x) rfl
theorem at_l1 (xs : List V) (x : V) : atI (xs ++ [x]) (-1) = some x :=
  at_neg (k := 1) (by decide) (by rw [List.length_append]; exact Nat.le_add_left ..) (by rw [List.length_append, List.length_singleton, Nat.add_sub_cancel]; exact List.getElem?_concat_length)
theorem at_m1 (xs : List V) (x y : V) : atI (xs ++ [x, y]) (-1) = some y := by
  have q := at_l1 (xs ++ [x]) y
  rw [List.append_assoc] at q
  exact q
theorem at_m2 (xs : List V) (x y : V) : atI (xs ++ [x, y]) (-2) = some x :=
  at_neg (k := 2) (by decide) (by rw [List.length_append]; exact Nat.le_add_left ..) (by
    rw [List.length_append, show xs.length + [x, y].length - 2 = xs.length from Nat.add_sub_cancel .., List.getElem?_append_right (Nat.le_refl _), Nat.sub_self]
    rfl)
theorem pair_last {α β : Type} {F : α → β → Prop} : ∀ {us : List α} {ts : List β}, Paired F us ts → 1 ≤ ts.length → ∃ us' u ts' t, us = us' ++ [u] ∧ ts = ts' ++ [t] ∧ Paired F us' ts' ∧ F u t
  | _, _, .nil, h => nomatch h
  | _, _, .cons (a := a) (b := b) h .nil, _ => ⟨[], a, [], b, rfl, rfl, .nil, h⟩
  | _, _, .cons (a := a) (b := b) h (.cons h2 r), _ => by
    obtain ⟨us', u, ts', t, e1, e2, p, q⟩ := pair_last (.cons h2 r) (Nat.succ_pos _)
    exact ⟨a :: us', u, b :: ts', t, by rw [e1]; rfl, by rw [e2]; rfl, .cons h p, q⟩
section
variable {P : Program} {w : World} {K : PySem.W.Frag} {mg : Str → Option Value} {base : Heap}
theorem ok_tree (T : Txt K mg) (G_l_pull : OkG P w K mg base CX0 1 "_law_pull" P_l_pull sp_pull) (G_l_any : OkG P w K mg base CX0 2 "_law_any" P_l_any sp_any) (G_l_word : OkG P w K mg base CX0 3 "_law_word" P_l_word sp_word) (G_l_leaf : OkG P w K mg base CX0 5 "_law_leaf" P_l_leaf sp_leaf) : OkG P w K mg base CX0 6 "_law_tree" P_l_tree sp_tree := by
  refine (T.f_l_tree).ok sc_l_tree (fun vs H Q E h => ?_) (fun cdv A outer s H vs Q E hr h => ?_)
  · obtain ⟨β, al, v, ns, S, rfl, _⟩ := h
    rfl
  · obtain ⟨β, al, v, ns, S, rfl, hns, nl, a0, a1, hS, hB, k⟩ := h
    refine ⟨_, PSs.nox (pss_cons (ps_setLc (i := 4) (own := [("_law_k", 5)]) (g := (gName 5)) (tt := tYes) rfl sc_l_tree.nd rfl rfl (by rfl) (pi_range1 (by rfl) T.f (pa_cons (pe_op op_add pe_int (pe_call G_l_pull (hr.mono (by first | decide | omega)) (by rfl) (T.g "_law_pull") (T.k "_law_pull") T.b_l_pull .nil pass0 (pa_cons (pv 0) (pa_cons pe_int pa_nil)))) pa_nil)) (by first | exact blkOk_by (N := N_l_tree) (sc := defScope s_l_tree) (by decide +kernel) | exact blkOk_by (N := N_l_tree) (sc := { kind := .function, names := [], isGenerator := false, isCoroutine := false }) (by decide +kernel)) (fun _ _ _ _ _ => (pg_name (i := 5) sc_l_tree.nd rfl (Or.inl rfl))) (fun _ _ _ _ _ => pts_nil) (fun _ _ _ _ _ => (pe_call G_l_leaf (hr.mono (by first | decide | omega)) (by rfl) (T.g "_law_leaf") (T.k "_law_leaf") T.b_l_leaf .nil pass0 (pa_cons (pv 0) (pa_cons (pv 1) (pa_cons (pv 2) (pa_cons (pv 3) pa_nil)))))))
        (pss_cons (ps_for PassesOwn.never rfl (pi_range1 (by rfl) T.f (pa_cons pe_int pa_nil)) (pg_name (i := 6) sc_l_tree.nd rfl (Or.inl rfl)) (C8.pss_cut (ps_set (i := 4) sc_l_tree.nd rfl (Or.inl rfl) (pe_ifExp (pt_cmpR op_eq (pe_call G_l_pull (hr.mono (by first | decide | omega)) (by rfl) (T.g "_law_pull") (T.k "_law_pull") T.b_l_pull .nil pass0 (pa_cons (pv 0) (pa_cons pe_int pa_nil))) pe_int (nomark _)) (pe_op op_cat (pe_slice (sl_listK (K := K) rfl) (pv 4) po_none (po_some (pe_un un_neg pe_int))) (pe_lst (pa_cons (pe_lst (pa_cons pe_str (pa_cons (pe_call G_l_word (hr.mono (by first | decide | omega)) (by rfl) (T.g "_law_word") (T.k "_law_word") T.b_l_word .nil pass0 (pa_cons (pv 0) (pa_cons (pv 1) (pa_cons pe_int (pa_cons pe_int pa_nil))))) (pa_cons (pe_ix (ix_listK (K := K) rfl) (pv 4) (pe_un un_neg pe_int) (fun _ _ => rfl)) pa_nil)))) pa_nil))) (pv 4)))
        (pss_one (ps_if (pt_cmpR op_gt (pe_callB (lenK (K := K) rfl) (by rfl) T.f (by decide +kernel) (pa_cons (pv 4) pa_nil)) pe_int (nomark _)) (pss_one (ps_set (i := 4) sc_l_tree.nd rfl (Or.inl rfl) (pe_op op_cat (pe_slice (sl_listK (K := K) rfl) (pv 4) po_none (po_some (pe_un un_neg pe_int))) (pe_lst (pa_cons (pe_lst (pa_cons (pe_call G_l_any (hr.mono (by first | decide | omega)) (by rfl) (T.g "_law_any") (T.k "_law_any") T.b_l_any .nil pass0 (pa_cons (pv 0) (pa_cons (pe_lst (pa_cons pe_str (pa_cons pe_str pa_nil))) pa_nil))) (pa_cons (pe_ix (ix_listK (K := K) rfl) (pv 4) (pe_un un_neg pe_int) (fun _ _ => rfl)) (pa_cons (pe_ix (ix_listK (K := K) rfl) (pv 4) (pe_un un_neg pe_int) (fun _ _ => rfl)) pa_nil)))) pa_nil))))) pss_nil))))
        (pss_one (ps_ret (pe_ix (ix_listK (K := K) rfl) (pv 4) pe_int (fun _ _ => rfl)))))), ?_⟩
    walk_at "rs"
    walk_at "rd"
    refine ⟨β, _, S, rfl, by omega, by omega, hS, hB, fun H1 S1 g1 b1 d d0 d1 => ?_⟩
    walk_at "rd"
    refine ⟨by omega, by omega, fun D hD => ?_⟩
    have nDβ : β ≠ D := fun z => b1.live (by rw [z]; exact hD)
    refine lc_g walk_range (fun i acc S => ∃ ts, Paired (TreeAt S) acc ts ∧ ts.length = i ∧ (∀ t ∈ ts, goodT al ns t ∧ depth t ≤ 0) ∧ (ts.flatMap toks).length = i) (fun S H => BagAt S H β) (one β) hD g1.sub ⟨[], .nil, rfl, (fun _ z => nomatch z), rfl⟩ b1 (fun S H o z => z.updO nDβ) (fun _ _ _ _ _ _ _ _ => trivial) ?_ ?_
    · rintro i x H2 H3 S2 acc hi2 g2 ⟨ts, hp, el, ec, es⟩ b2 e eS ⟨rfl, rfl⟩
      walk_at "rs"
      walk_at "rd"
      refine ⟨β, al, v, ns, S2, rfl, hns.mono (g1.mono.trans g2.mono), nl, a0, a1, g2.sub, b2, fun H4 S4 g4 b4 u t ht gt tl td => ?_⟩
      refine LcP.add hD (fun z => nDβ z.symm) (fun S H o z => z.updO nDβ) g2 e eS g4 (szL (by rw [hp.length, el]; omega)) ⟨ts ++ [t], (L2.Paired.mapP hp fun _ _ z => z.mono g4.mono).snoc ht, by rw [List.length_append, el]; rfl, fun y hy => ?_, by rw [List.flatMap_append, List.length_append, es, List.flatMap_singleton, tl]⟩ b4
      rcases List.mem_append.mp hy with z | z
      · exact ec y z
      · rw [List.mem_singleton.mp z]
        exact ⟨gt, Nat.le_of_eq td⟩
    · rintro H2 S2 acc g2 ⟨ts, hp, el, ec, es⟩ b2 e eS
      have g3 := (g1.trans g2).freeze e (g1.free hD) eS
      have b3 : BagAt (upd S2 D (.lst acc)) H2 β := b2.frz eS nDβ
      have mo : Same S2 (upd S2 D (.lst acc)) := fun b u q => by rw [upd_ne (ne_of_none q eS)]; exact q
      have hp3 := L2.Paired.mapP hp fun _ _ z => TreeAt.mono mo z
      have hD3 : (upd S2 D (HO.lst acc)) D = some (.lst acc) := upd_same
      generalize upd S2 D (.lst acc) = S3 at g3 b3 hp3 hD3
      walk_at "rd"
      refine ⟨by omega, by omega, ?_⟩
      refine for_range (n := 2) (fun i σ H => ∃ S a us ts x, σ = [some (.ref β), some (.str al), some (.int 2), some v, some (.ref a), none, x] ∧ Gm (one β) H2 S3 H S ∧ BagAt S H β ∧ S a = some (.lst us) ∧ Paired (TreeAt S) us ts ∧ LineOk al ns ts (2 * i)) ⟨S3, D, acc, ts, none, rfl, Gm.rfl' g3.sub, b3, hD3, hp3, ⟨by omega, by omega, ec, by omega⟩⟩ ?_ ?_
      · rintro i σ H4 hi ⟨S4, a, us, ts, x, rfl, g4, b4, ha, hp4, ok⟩
        walk_at "rs"
        walk_at "rd"
        refine ⟨fun σ H => ∃ S a us ts x, σ = [some (.ref β), some (.str al), some (.int 2), some v, some (.ref a), none, x] ∧ Gm (one β) H2 S3 H S ∧ BagAt S H β ∧ S a = some (.lst us) ∧ Paired (TreeAt S) us ts ∧ LineOk al ns ts (2 * i + 1), ?_, ?_⟩
        · walk_at "rd"
          refine ⟨β, _, S4, rfl, by omega, by omega, g4.sub, b4, fun H5 S5 g5 b5 d5 d50 d51 => ?_⟩
          have g6 := g4.trans g5
          have ha5 := g5.mono _ _ ha
          have hp5 := pair_up g5.mono hp4
          walk_at "rd"
          by_cases c : d5 = 0
          · rw [if_pos (decide_eq_true (by rw [c]))]
            walk_at "rd"
            obtain ⟨us', u, ts', t, rfl, rfl, hq, hu⟩ := pair_last hp5 ok.lo
            refine ⟨a, _, rfl, sql (g6.sub _ _ ha5), fun p1 hp1 => ?_⟩
            rw [cut_l1]
            generalize e1 : upd H5 p1 (HO.lst us') = H6
            have g7 := g6.l0 e1 hp1
            have b7 := b5.l0 e1 hp1
            have n1 : ¬ one β p1 := fun z => b5.live (by rw [← show p1 = β from z]; exact hp1)
            walk_at "rd"
            refine ⟨β, al, 1, 2, S5, rfl, by omega, by omega, by omega, a0, a1, g7.sub, b7, fun H7 S7 g8 b8 y y0 y1 y2 => ?_⟩
            have g9 := g7.trans g8
            have h1 := g8.kept (new_at e1) n1
            walk_at "rd"
            refine rd_ix (g9.sub _ _ (g8.mono _ _ ha5)) (at_l1 us' u) ?_
            refine ⟨by walk_at "sz", fun p2 hp2 => ?_⟩
            generalize e2 : upd H7 p2 (HO.lst [V.str (Str.ofString "behind"), V.str y, u]) = H8
            have g10 := g9.ld e2 hp2
            have b10 := b8.ld e2 hp2 g9.sub
            have n2 : S7 p2 = none := Same.free g9.sub hp2
            refine ⟨by walk_at "sz", fun p3 hp3 => ?_⟩
            generalize e3 : upd H8 p3 (HO.lst [V.ref p2]) = H9
            have g11 := g10.l0 e3 hp3
            have b11 := b10.l0 e3 hp3
            refine ⟨p1, p3, us', [V.ref p2], rfl, rfl, old_at e3 hp3 (old_at e2 hp2 h1), new_at e3, szE (by have := hq.length; have := ok.hi; rw [List.length_append] at this; show us'.length + 1 ≤ _; omega), fun p4 hp4 => ?_⟩
            generalize e4 : upd H9 p4 (HO.lst (us' ++ [V.ref p2])) = H10
            have g12 := g11.ld e4 hp4
            have b12 := b11.ld e4 hp4 g11.sub
            have mo : Same S5 (upd (upd S7 p2 (HO.lst [V.str (Str.ofString "behind"), V.str y, u])) p4 (HO.lst (us' ++ [V.ref p2]))) :=
              g8.mono.trans ((upd0_ (Same.refl _) n2).trans (upd0_ (Same.refl _) (Same.free g11.sub hp4)))
            have hn : TreeAt (upd (upd S7 p2 (HO.lst [V.str (Str.ofString "behind"), V.str y, u])) p4 (HO.lst (us' ++ [V.ref p2]))) (V.ref p2) (.bh y t) := by
              refine ⟨p2, u, rfl, ?_, hu.mono mo⟩
              rw [upd_ne (ne_of_none upd_same (Same.free g11.sub hp4))]
              exact upd_same
            exact ⟨_, p4, us' ++ [V.ref p2], ts' ++ [.bh y t], _, rfl, g12, b12, upd_same, (pair_up mo hq).snoc hn, ok.bh ⟨by omega, by omega, y2⟩⟩
          · rw [if_neg (by rw [decide_eq_false (fun z => c (V.int.inj z))]; decide)]
            walk_at "rd"
            exact ⟨S5, a, us, ts, _, rfl, g6, b5, ha5, hp5, ok.weak (Nat.le_succ _)⟩
        · rintro σ H5 ⟨S5, a, us, ts, x, rfl, g5, b5, ha5, hp5, ok⟩
          walk_at "rd"
          refine ⟨a, us, rfl, .inl (sql (g5.sub _ _ ha5)), ?_⟩
          walk_at "rd"
          have ul := hp5.length
          by_cases c : (1 : Int) < us.length
          · rw [if_pos (decide_eq_true c)]
            walk_at "rd"
            obtain ⟨us1, u, ts1, t, rfl, rfl, hq1, hu⟩ := pair_last hp5 ok.lo
            obtain ⟨us', u', ts', t', rfl, rfl, hq, hu'⟩ := pair_last hq1 (by rw [List.length_append, List.length_singleton] at c; have := hq1.length; omega)
            have ha5 : S5 a = some (.lst (us' ++ [u', u])) := by
              rw [ha5, List.append_assoc]
              rfl
            refine ⟨a, _, rfl, sql (g5.sub _ _ ha5), fun p1 hp1 => ?_⟩
            rw [cut_l2]
            generalize e1 : upd H5 p1 (HO.lst us') = H6
            have g7 := g5.l0 e1 hp1
            have b7 := b5.l0 e1 hp1
            have n1 : ¬ one β p1 := fun z => b5.live (by rw [← show p1 = β from z]; exact hp1)
            walk_at "rd"
            refine ⟨by walk_at "sz", fun p2 hp2 => ?_⟩
            generalize e2 : upd H6 p2 (HO.lst [V.str (Str.ofString "both"), V.str (Str.ofString "either")]) = H7
            have g8 := g7.ld e2 hp2
            have b8 := b7.ld e2 hp2 g7.sub
            have n2 : S5 p2 = none := Same.free g7.sub hp2
            refine ⟨β, V.ref p2, _, rfl, .inl ⟨p2, _, rfl, upd_same, by decide, by decide, g8.sub, b8, fun H8 S8 g9 b9 x hx => ?_⟩⟩
            have ex : ∃ b, x = V.str (opS b) := by
              rcases List.mem_cons.mp hx with z | z
              · exact ⟨true, z⟩
              · exact ⟨false, List.mem_singleton.mp z⟩
            obtain ⟨b, rfl⟩ := ex
            have g10 := g8.trans g9
            have h1 := g9.kept (old_at e2 hp2 (new_at e1)) n1
            have mo1 : Same S5 S8 := (upd0_ (Same.refl _) n2).trans g9.mono
            walk_at "rd"
            refine rd_ix (g10.sub _ _ (mo1 _ _ ha5)) (at_m2 us' u' u) ?_
            walk_at "rd"
            refine rd_ix (g10.sub _ _ (mo1 _ _ ha5)) (at_m1 us' u' u) ?_
            refine ⟨by walk_at "sz", fun p3 hp3 => ?_⟩
            generalize e3 : upd H8 p3 (HO.lst [V.str (opS b), u', u]) = H9
            have g11 := g10.ld e3 hp3
            have b11 := b9.ld e3 hp3 g10.sub
            have n3 : S8 p3 = none := Same.free g10.sub hp3
            refine ⟨by walk_at "sz", fun p4 hp4 => ?_⟩
            generalize e4 : upd H9 p4 (HO.lst [V.ref p3]) = H10
            have g12 := g11.l0 e4 hp4
            have b12 := b11.l0 e4 hp4
            refine ⟨p1, p4, us', [V.ref p3], rfl, rfl, old_at e4 hp4 (old_at e3 hp3 h1), new_at e4, szE (by have := hq.length; have := ok.hi; rw [List.length_append, List.length_append] at this; show us'.length + 1 ≤ _; omega), fun p5 hp5 => ?_⟩
            generalize e5 : upd H10 p5 (HO.lst (us' ++ [V.ref p3])) = H11
            have g13 := g12.ld e5 hp5
            have b13 := b12.ld e5 hp5 g12.sub
            have mo : Same S5 (upd (upd S8 p3 (HO.lst [V.str (opS b), u', u])) p5 (HO.lst (us' ++ [V.ref p3]))) :=
              mo1.trans ((upd0_ (Same.refl _) n3).trans (upd0_ (Same.refl _) (Same.free g12.sub hp5)))
            have hn : TreeAt (upd (upd S8 p3 (HO.lst [V.str (opS b), u', u])) p5 (HO.lst (us' ++ [V.ref p3]))) (V.ref p3) (.op b t' t) := by
              refine ⟨p3, u', u, rfl, ?_, hu'.mono mo, hu.mono mo⟩
              rw [upd_ne (ne_of_none upd_same (Same.free g12.sub hp5))]
              exact upd_same
            exact ⟨_, p5, us' ++ [V.ref p3], ts' ++ [.op b t' t], _, rfl, g13, b13, upd_same, (pair_up mo hq).snoc hn, ok.op⟩
          · rw [if_neg (by rw [decide_eq_false c]; decide)]
            exact ⟨S5, a, us, ts, _, rfl, g5, b5, ha5, hp5, ok.weak (Nat.le_succ _)⟩
      · rintro σ H4 ⟨S4, a, us, ts, x, rfl, g4, b4, ha, hp4, ok⟩
        walk_at "rs"
        walk_at "rd"
        cases hp4 with
        | nil => exact absurd ok.lo (Nat.not_succ_le_zero 0)
        | cons ht hr =>
          have gt := ok.good _ (List.mem_cons_self ..)
          refine rd_ix (g4.sub _ _ ha) (at_0 ..) (k H4 S4 (g3.trans g4) b4 _ _ ht gt.1 ?_ gt.2)
          have q := ok.sum
          rw [List.flatMap_cons, List.length_append] at q
          omega
end
end Lst

/-! ## LBag5 -/
namespace Lst
open PySem PySem.Spec PyProof.Rows L2
theorem sg_app (x y : Str) : sg (x ++ y) = sg x ++ sg y := TL.tl_append x y
theorem ext_sg {x y : Str} (h : sg x = sg y) : x = y := sg_inj h
theorem sg_to (z : Str) (n : Nat) : sg (cutS z none (some (n : Int))) = (sg z).take n := by
  show (((z.cps.toList.drop (HT.sIx z.length 0 none)).take (HT.sIx z.length z.length (some (n : Int)) - HT.sIx z.length 0 none)).toArray).toList = _
  rw [HT.sIx_none, HT.sIx_nat, List.drop_zero, Nat.sub_zero]
  show (sg z).take (min n z.length) = _
  rcases Nat.le_total n z.length with h | h
  · rw [Nat.min_eq_left h]
  · rw [Nat.min_eq_right h, List.take_of_length_le (Nat.le_of_eq (sg_len z)), List.take_of_length_le (by rw [sg_len]; exact h)]
theorem sg_from (z : Str) (n : Nat) (h : n ≤ z.length) : sg (cutS z (some (n : Int)) none) = (sg z).drop n := by
  show (((z.cps.toList.drop (HT.sIx z.length 0 (some (n : Int)))).take (HT.sIx z.length z.length none - HT.sIx z.length 0 (some (n : Int)))).toArray).toList = _
  rw [HT.sIx_none, HT.sIx_nat, Nat.min_eq_left h]
  show (List.drop n (sg z)).take (z.length - n) = _
  exact List.take_of_length_le (by rw [List.length_drop, sg_len]; exact Nat.le_refl _)
theorem let_at : ∀ i : Nat, i < 26 → (sg LET)[i]? = some (97 + i) := by decide +kernel
theorem let_mem (i : Nat) (h : i < 26) : 97 + i ∈ sg LET := List.mem_of_getElem? (let_at i h)
theorem SqL.up {K : PySem.W.Frag} {H H' : Hp} {a : Addr} {xs : List V} (h : SqL K H a xs) (s : Same H H') : SqL K H' a xs :=
  h.elim (fun h => .inl (h.elim (fun h => .inl (s _ _ h)) fun ⟨o, h⟩ => .inr ⟨o, s _ _ h⟩)) .inr
theorem SqT.up {K : PySem.W.Frag} {H H' : Hp} {a : Addr} {xs : List V} (h : SqT K H a xs) (s : Same H H') : SqT K H' a xs :=
  h.elim (fun h => .inl (h.elim (fun h => .inl (s _ _ h)) fun ⟨o, h⟩ => .inr ⟨o, s _ _ h⟩)) .inr
section
variable {P : Program} {w : World} {K : PySem.W.Frag} {mg : Str → Option Value} {base : Heap}
theorem ok_mixed (T : Txt K mg) (G_l_pull : OkG P w K mg base CX0 1 "_law_pull" P_l_pull sp_pull) : OkG P w K mg base CX0 2 "_law_mixed" P_l_mixed sp_mixed := by
  refine (T.f_l_mixed).ok sc_l_mixed (fun vs H Q E h => ?_) (fun cdv A outer s H vs Q E hr h => ?_)
  · obtain ⟨β, r, xs, S, rfl, _⟩ := h
    rfl
  · obtain ⟨β, r, xs, S, rfl, hx, xl, hS, hB, k⟩ := h
    refine ⟨_, PSs.nox (pss_cons (ps_set (i := 2) sc_l_mixed.nd rfl (Or.inl rfl) (pe_lst pa_nil))
        (pss_cons (ps_for PassesOwn.never rfl (pi_listK (K := K) rfl (pv 1)) (pg_name (i := 3) sc_l_mixed.nd rfl (Or.inl rfl)) (pss_one (ps_expr (pe_bm PySem.F.plainAttrs_list PySem.F.slot_list_insert PySem.F.type_list_insert mt_insert (pv 2) (pa_cons (pe_call G_l_pull (hr.mono (by first | decide | omega)) (by rfl) (T.g "_law_pull") (T.k "_law_pull") T.b_l_pull .nil pass0 (pa_cons (pv 0) (pa_cons (pe_op op_add (pe_callB (lenK (K := K) rfl) (by rfl) T.f (by decide +kernel) (pa_cons (pv 2) pa_nil)) pe_int) pa_nil))) (pa_cons (pv 3) pa_nil))))))
        (pss_one (ps_ret (pv 2))))), ?_⟩
    walk_at "rs"
    walk_at "rd"
    refine ⟨by walk_at "sz", fun D hD => ?_⟩
    have nDβ : β ≠ D := fun z => hB.live (by rw [z]; exact hD)
    have nS : S D = none := Same.free hS hD
    refine ⟨V.ref r, rfl, r, rfl, ⟨xs, sql ((upd0_ hS hD) _ _ hx)⟩, ?_⟩
    refine for_list (xs := xs) (fun i σ H4 => ∃ S4 acc x, σ = [some (.ref β), some (.ref r), some (.ref D), x] ∧ Gm (one β) H S H4 S4 ∧ BagAt S4 H4 β ∧ H4 D = some (.lst acc) ∧ S4 D = none ∧ acc.Perm (xs.take i))
      ⟨S, [], none, rfl, (Gm.rfl' hS).laid0 hD, hB.updO nDβ, upd_same, nS, List.Perm.refl _⟩ ?_ ?_ ?_
    · rintro i σ H4 hi ⟨S4, acc, x, rfl, g4, b4, e4, n4, pm⟩
      exact sql (g4.sub _ _ (g4.mono _ _ hx))
    · rintro i y σ H4 hy ⟨S4, acc, x, rfl, g4, b4, e4, n4, pm⟩
      have al : acc.length ≤ 100 := by rw [pm.length_eq, List.length_take]; omega
      walk_at "rs"
      walk_at "rd"
      refine ⟨.inl ⟨rfl, _, sql e4⟩, ?_⟩
      walk_at "rd"
      refine ⟨D, acc, rfl, .inl (sql e4), ?_⟩
      walk_at "rd"
      refine ⟨β, _, S4, rfl, by omega, by omega, g4.sub, b4, fun H5 S5 g5 b5 d d0 d1 => ?_⟩
      walk_at "rd"
      have n5 := g5.new D n4 (live_of e4)
      refine ⟨D, acc, d, y, rfl, rfl, g5.kept e4 (fun z => nDβ z.symm), szL (by omega), d0, by omega, ?_⟩
      generalize e6 : upd H5 D (HO.lst (acc.take d.toNat ++ [y] ++ acc.drop d.toNat)) = H6
      refine ⟨S5, _, _, rfl, ?_, ?_, new_at e6, n5, ?_⟩
      · rw [← e6]
        exact (g4.trans g5).write hD n5
      · rw [← e6]
        exact b5.updO nDβ
      · rw [List.take_add_one, hy]
        refine List.Perm.trans ?_ (pm.append_right _)
        rw [List.append_assoc]
        refine List.perm_append_comm_assoc _ _ _ |>.trans ?_
        rw [List.take_append_drop]
        exact List.perm_append_comm
    · rintro σ H4 ⟨S4, acc, x, rfl, g4, b4, e4, n4, pm⟩
      walk_at "rs"
      walk_at "rd"
      have g5 := g4.freeze e4 hD n4
      rw [List.take_of_length_le (Nat.le_refl _)] at pm
      exact k H4 _ g5 (b4.frz n4 nDβ) D acc upd_same pm
theorem ok_alphabet (T : Txt K mg) (G_l_pull : OkG P w K mg base CX0 1 "_law_pull" P_l_pull sp_pull) (G_l_any : OkG P w K mg base CX0 2 "_law_any" P_l_any sp_any) : OkG P w K mg base CX0 3 "_law_alphabet" P_l_alphabet sp_alphabet := by
  refine (T.f_l_alphabet).ok sc_l_alphabet (fun vs H Q E h => ?_) (fun cdv A outer s H vs Q E hr h => ?_)
  · obtain ⟨β, S, rfl, _⟩ := h
    rfl
  · obtain ⟨β, S, rfl, hS, hB, k⟩ := h
    refine ⟨_, PSs.nox (pss_cons (ps_set (i := 2) sc_l_alphabet.nd rfl (Or.inr rfl) pe_str)
        (pss_cons (ps_set (i := 3) sc_l_alphabet.nd rfl (Or.inl rfl) (pe_callB (call_min2 rfl) (by rfl) T.f (by decide +kernel) (pa_cons (pv 1) (pa_cons (pe_call G_l_any (hr.mono (by first | decide | omega)) (by rfl) (T.g "_law_any") (T.k "_law_any") T.b_l_any .nil pass0 (pa_cons (pv 0) (pa_cons (pe_lst (pa_cons pe_int (pa_cons pe_int (pa_cons pe_int (pa_cons pe_int (pa_cons pe_int (pa_cons pe_int pa_nil))))))) pa_nil))) pa_nil))))
        (pss_cons (ps_set (i := 4) sc_l_alphabet.nd rfl (Or.inl rfl) (pe_call G_l_pull (hr.mono (by first | decide | omega)) (by rfl) (T.g "_law_pull") (T.k "_law_pull") T.b_l_pull .nil pass0 (pa_cons (pv 0) (pa_cons pe_int pa_nil))))
        (pss_cons (ps_set (i := 5) sc_l_alphabet.nd rfl (Or.inl rfl) (pe_op op_add (pe_op op_add (pv 4) pe_int) (pe_call G_l_pull (hr.mono (by first | decide | omega)) (by rfl) (T.g "_law_pull") (T.k "_law_pull") T.b_l_pull .nil pass0 (pa_cons (pv 0) (pa_cons pe_int pa_nil)))))
        (pss_one (ps_ret (joinK (K := K) rfl pe_str (pe_lc (own := [("_law_at", 6)]) (g := (gName 6)) (tt := tYes) rfl sc_l_alphabet.nd (pi_listK (K := K) rfl (pe_slice (sl_listK (K := K) rfl) (pe_lst (pa_cons (pv 4) (pa_cons (pv 5) (pa_cons (pe_op op_add (pe_op op_add (pv 5) pe_int) (pe_call G_l_pull (hr.mono (by first | decide | omega)) (by rfl) (T.g "_law_pull") (T.k "_law_pull") T.b_l_pull .nil pass0 (pa_cons (pv 0) (pa_cons pe_int pa_nil)))) pa_nil)))) po_none (po_some (pv 3)))) (by first | exact blkOk_by (N := N_l_alphabet) (sc := defScope s_l_alphabet) (by decide +kernel) | exact blkOk_by (N := N_l_alphabet) (sc := { kind := .function, names := [], isGenerator := false, isCoroutine := false }) (by decide +kernel)) (fun _ _ _ _ _ => (pg_name (i := 6) sc_l_alphabet.nd rfl (Or.inl rfl))) (fun _ _ _ _ _ => pts_nil) (fun _ _ _ _ _ => (pe_ix ix_str (pv 2) (pv 6) (fun _ _ => rfl))))))))))), ?_⟩
    walk_at "rs"
    walk_at "rd"
    refine ⟨by walk_at "sz", fun p hp => ?_⟩
    have g0 : Gm (one β) H S H S := Gm.rfl' hS
    generalize e1 : upd H p (HO.lst [V.int 2, V.int 1, V.int 2, V.int 3, V.int 2, V.int 3]) = H1
    have g1 := g0.ld e1 hp
    have b1 := hB.ld e1 hp hS
    refine ⟨β, V.ref p, _, rfl, .inl ⟨p, _, rfl, upd_same, by decide, by decide, g1.sub, b1, fun H2 S2 g2 b2 x hx => ?_⟩⟩
    have ex : ∃ m : Int, x = V.int m ∧ 1 ≤ m ∧ m ≤ 3 := by
      simp only [List.mem_cons, List.not_mem_nil, or_false] at hx
      rcases hx with z | z | z | z | z | z <;> exact ⟨_, z, by decide, by decide⟩
    obtain ⟨m, rfl, m1, m2⟩ := ex
    have g3 := g1.trans g2
    walk_at "rd"
    refine ⟨β, _, S2, rfl, by omega, by omega, g3.sub, b2, fun H4 S4 g4 b4 d d0 d1 => ?_⟩
    walk_at "rd"
    refine ⟨β, _, S4, rfl, by omega, by omega, g4.sub, b4, fun H5 S5 g5 b5 f f0 f1 => ?_⟩
    walk_at "rd"
    refine ⟨⟨_, rfl⟩, ?_⟩
    walk_at "ri"
    walk_at "rd"
    refine ⟨β, _, S5, rfl, by omega, by omega, g5.sub, b5, fun H6 S6 g6 b6 g g0 g1' => ?_⟩
    walk_at "rd"
    refine ⟨by walk_at "sz", fun l hl => ?_⟩
    generalize e7 : upd H6 l (HO.lst [V.int d, V.int (d + 1 + f), V.int (d + 1 + f + 1 + g)]) = H7
    have g36 := ((g3.trans g4).trans g5).trans g6
    have g7 := g36.l0 e7 hl
    have b7 := b6.l0 e7 hl
    walk_at "rd"
    obtain ⟨n, hn, n1, n2⟩ : ∃ n : Nat, (if m < 2 then m else 2) = (n : Int) ∧ 1 ≤ n ∧ n ≤ 2 := by
      by_cases c : m < 2
      · exact ⟨m.toNat, by rw [if_pos c]; omega, by omega, by omega⟩
      · exact ⟨2, by rw [if_neg c]; rfl, by decide, by decide⟩
    rw [hn]
    have hl7 := new_at e7
    refine ⟨l, _, rfl, sql hl7, fun q hq => ?_⟩
    rw [cut_to]
    obtain ⟨ks, hks, kl, kb, ku⟩ : ∃ ks : List Nat, List.take n [V.int d, V.int (d + 1 + f), V.int (d + 1 + f + 1 + g)] = ks.map (fun k : Nat => V.int (k : Int)) ∧ ks.length = n ∧ (∀ k ∈ ks, k < 26) ∧ ks.Pairwise (· < ·) := by
      refine ⟨[d.toNat, (d + 1 + f).toNat, (d + 1 + f + 1 + g).toNat].take n, ?_, ?_, ?_, ?_⟩
      · rw [List.map_take]
        congr 1
        show [V.int d, V.int (d + 1 + f), V.int (d + 1 + f + 1 + g)] = [V.int (d.toNat : Int), V.int ((d + 1 + f).toNat : Int), V.int ((d + 1 + f + 1 + g).toNat : Int)]
        rw [Int.toNat_of_nonneg d0, Int.toNat_of_nonneg (by omega), Int.toNat_of_nonneg (by omega)]
      · rw [List.length_take]
        show min n 3 = n
        omega
      · intro k hk
        have := List.mem_of_mem_take hk
        simp only [List.mem_cons, List.not_mem_nil, or_false] at this
        omega
      · refine List.Pairwise.sublist (List.take_sublist _ _) ?_
        simp only [List.pairwise_cons, List.mem_cons, List.not_mem_nil, or_false, List.Pairwise.nil, and_true]
        exact ⟨fun a ha => by omega, fun a ha => by omega, fun a ha => by cases ha⟩
    rw [hks]
    generalize e8 : upd H7 q (HO.lst (ks.map (fun k : Nat => V.int (k : Int)))) = H8
    have g8 := g7.ld e8 hq
    have b8 := b7.ld e8 hq g7.sub
    have hq8 : (upd S6 q (HO.lst (ks.map (fun k : Nat => V.int (k : Int))))) q = some (.lst (ks.map (fun k : Nat => V.int (k : Int)))) := upd_same
    generalize upd S6 q (HO.lst (ks.map (fun k : Nat => V.int (k : Int)))) = S8 at g8 b8 hq8
    walk_at "rd"
    refine ⟨⟨_, sql (g8.sub _ _ hq8)⟩, fun D hD => ?_⟩
    have nDβ : β ≠ D := fun z => b8.live (by rw [z]; exact hD)
    refine lcg walk_list (fun i acc S => acc = ((ks.take i).map fun k => s1 (97 + k)).map V.str) (fun S H => BagAt S H β) (one β) hD g8.sub rfl b8 (fun S H o z => z.updO nDβ) (fun i H9 S9 _ _ g9 _ _ => sql (g9.sub _ _ (g9.mono _ _ hq8))) ?_ ?_
    · rintro i x H9 H10 S9 acc hi g9 r b9 e eS ⟨rfl, hx⟩
      rw [List.getElem?_map] at hx
      obtain ⟨k0, hk0, rfl⟩ := Option.map_eq_some_iff.mp hx
      walk_at "rs"
      walk_at "rd"
      refine ⟨LET, _, 97 + k0, rfl, rfl, by decide, atI_nat (let_at k0 (kb k0 (List.mem_of_getElem? hk0))), ?_⟩
      rw [List.length_map] at hi
      refine LcP.add hD (fun z => nDβ z.symm) (fun S H o z => z.updO nDβ) g9 e eS (Gm.rfl' g9.sub) (szL (by rw [r, List.length_map, List.length_map, List.length_take]; omega)) ?_ b9
      rw [r, List.take_add_one, hk0, List.map_append, List.map_append]
      rfl
    · rintro H9 S9 acc g9 r b9 e eS
      rw [List.length_map, List.take_of_length_le (Nat.le_refl _)] at r
      have ey : acc = ((ks.map (97 + ·)).map s1).map V.str := by
        rw [r]
        simp only [List.map_map]
        rfl
      refine ⟨"", D, (ks.map (97 + ·)).map s1, rfl, rfl, .inl (sql (by rw [e, ey])), by rw [sum_ones, List.length_map]; show _ + _ * 0 ≤ _; rw [List.length_map]; omega, ?_⟩
      have ej : sg (Txt.join "" ((ks.map (97 + ·)).map s1)) = ks.map (97 + ·) := join_ones _
      have el : (Txt.join "" ((ks.map (97 + ·)).map s1)).length = n := by rw [← sg_len, ej, List.length_map, kl]
      refine k H9 S9 (g8.trans g9) b9 _ ⟨by rw [el]; exact n1, by rw [el]; exact n2, ?_, ?_⟩
      · unfold lowS
        rw [ej, List.all_map]
        exact List.all_eq_true.mpr fun a ha => decide_eq_true (let_mem a (kb a ha))
      · rw [ej]
        exact List.pairwise_map.mpr (ku.imp fun h => Nat.add_lt_add_left h 97)
theorem ok_draws (T : Txt K mg) : OkG P w K mg base CX0 1 "_law_draws" P_l_draws (sp_draws K) := by
  refine (T.f_l_draws).ok sc_l_draws (fun vs H Q E h => ?_) (fun cdv A outer s H vs Q E hr h => ?_)
  · obtain ⟨a, ns, S, rfl, _⟩ := h
    rfl
  · obtain ⟨a, ns, S, rfl, ha, nl, hS, k⟩ := h
    refine ⟨_, PSs.nox (pss_cons (ps_set (i := 1) sc_l_draws.nd rfl (Or.inl rfl) pe_int)
        (pss_cons (ps_for PassesOwn.never rfl (pi_listK (K := K) rfl (pe_slice (sl_listK (K := K) rfl) (pv 0) po_none (po_some pe_int))) (pg_name (i := 2) sc_l_draws.nd rfl (Or.inl rfl)) (pss_one (ps_set (i := 1) sc_l_draws.nd rfl (Or.inl rfl) (pe_op op_mod (pe_callTy call_int1 (by rfl) T.f (by decide +kernel) (pa_cons (pe_op op_add (pe_op op_add (pe_op op_mul (pv 1) pe_int) (pe_op op_mod (pe_callTy call_int1 (by rfl) T.f (by decide +kernel) (pa_cons (pv 2) pa_nil)) pe_int)) pe_int) pa_nil)) pe_int))))
        (pss_one (ps_ret (pe_lst (pa_cons (pe_callTy (listK (K := K) rfl) (by rfl) T.f (by decide +kernel) (pa_cons (pe_slice (sl_listK (K := K) rfl) (pv 0) po_none (po_some pe_int)) pa_nil)) (pa_cons pe_int (pa_cons pe_int (pa_cons (pv 1) (pa_cons pe_int pa_nil)))))))))), ?_⟩
    walk_at "rs"
    walk_at "rd"
    refine ⟨a, _, rfl, ha, fun p hp => ?_⟩
    rw [show cutV (List.map V.int ns) none (some 63) = ns.map V.int from cut_to.trans (List.take_of_length_le (by rw [List.length_map]; exact nl))]
    refine ⟨p, rfl, ⟨_, sql upd_same⟩, ?_⟩
    have g0 : Gr H S H S := Gm.rfl' hS
    generalize e1 : upd H p (HO.lst (ns.map V.int)) = H1
    have g1 := g0.l0 e1 hp
    have hp1 := new_at e1
    refine for_list (xs := ns.map V.int) (fun i σ H4 => ∃ seed x, σ = [some (.ref a), some (.int seed), x] ∧ H4 = H1 ∧ 0 ≤ seed ∧ seed < 2147483549) ⟨12013, none, rfl, rfl, by decide, by decide⟩ (fun i σ H4 _ ⟨_, _, _, e, _⟩ => by rw [e]; exact sql hp1) ?_ ?_
    · rintro i x σ H4 hx ⟨seed, y, rfl, rfl, s0, s1⟩
      rw [List.getElem?_map] at hx
      obtain ⟨c, _, rfl⟩ := Option.map_eq_some_iff.mp hx
      walk_at "rs"
      walk_at "rd"
      exact ⟨Int.emod_nonneg _ (by decide), Int.emod_lt_of_pos _ (by decide)⟩
    · rintro σ H4 ⟨seed, y, rfl, rfl, s0, s1⟩
      walk_at "rs"
      walk_at "rd"
      have sm : Same H H4 := Gr.same g1
      have ha4 : SqL K H4 a (ns.map V.int) := by
        exact SqL.up ha sm
      refine ⟨a, _, rfl, ha4, fun q hq => ?_⟩
      rw [show cutV (List.map V.int ns) none (some 63) = ns.map V.int from cut_to.trans (List.take_of_length_le (by rw [List.length_map]; exact nl))]
      generalize e2 : upd H4 q (HO.lst (ns.map V.int)) = H5
      have g2 := g1.l0 e2 hq
      refine ⟨q, _, rfl, .inl (sql (new_at e2)), fun l hl => ?_⟩
      generalize e3 : upd H5 l (HO.lst (ns.map V.int)) = H6
      have g3 := g2.ld e3 hl
      walk_at "rd"
      refine ⟨by walk_at "sz", fun β hβ => ?_⟩
      generalize e4 : upd H6 β (HO.lst [V.ref l, V.int 0, V.int 0, V.int seed, V.int 0]) = H7
      have g4 := g3.l0 e4 hβ
      exact k H7 _ β g4 (g3.free hβ) ⟨⟨l, ns, 0, 0, seed, 0, new_at e4, upd_same, Int.le_refl 0, by omega, nl, Int.le_refl 0, s0, s1⟩, Same.free g3.sub hβ⟩
end
end Lst

/-! ## LBag6 -/
namespace Lst
open PySem PySem.Spec PyProof.Rows L2
def STEM : Str := "abcdfghjklmnopq"
abbrev TAILS : List Str := ["x", "y", "w", "xw", "yx"]
def nmS (st : Str) (n : Nat) (t : Str) : Str := cutS st none (some (n : Int)) ++ t ++ cutS st (some (n : Int)) none
theorem sg_nm {st t : Str} {n : Nat} (h : n ≤ st.length) : sg (nmS st n t) = (sg st).take n ++ sg t ++ (sg st).drop n := by
  unfold nmS
  rw [sg_app, sg_app, sg_to, sg_from st n h]
theorem tails_ok : ∀ t ∈ TAILS, (sg t).length ≤ 2 ∧ (sg t).all (fun c => decide (c ∈ sg LET)) = true ∧ (∃ c ∈ sg t, c ∈ [119, 120, 121]) ∧ 122 ∉ sg t := by decide +kernel
theorem stem_low : ∀ c ∈ sg STEM, c ∈ sg LET ∧ c ≠ 122 := by decide +kernel
theorem no_wxy : ∀ z ∈ (["", "both", "either"] : List Str), ∀ c ∈ sg z, c ∉ [119, 120, 121] := by decide +kernel
theorem ns_ok {st : Str} {n : Nat} {zs : List Str} (hs : ∀ c ∈ sg st, c ∈ sg STEM) (hl : st.length ≤ 5) (hn : n ≤ st.length) (hz : zs.Perm TAILS) : NsOk ((zs.take 4).map (nmS st n)) := by
  have tm : ∀ t ∈ zs.take 4, t ∈ TAILS := fun t ht => hz.mem_iff.mp (List.mem_of_mem_take ht)
  have nd : (zs.take 4).Nodup := List.Nodup.sublist (List.take_sublist _ _) (hz.nodup_iff.mpr (by decide +kernel))
  have sl : (sg st).length ≤ 5 := by rw [sg_len]; exact hl
  have el : ∀ t ∈ zs.take 4, (nmS st n t).length ≤ 7 := fun t ht => by
    have h2 := (tails_ok t (tm t ht)).1
    rw [← sg_len, sg_nm hn, List.length_append, List.length_append, List.length_take, List.length_drop, sg_len]
    rw [sg_len] at sl
    omega
  refine ⟨?_, ?_, fun x hx => ?_, fun x hx => ?_, fun x hx => ?_⟩
  · rw [List.length_map, List.length_take, hz.length_eq]
    rfl
  · refine List.pairwise_map.mpr (nd.imp_of_mem fun {a b} ha hb h e => h ?_)
    have q := congrArg sg e
    rw [sg_nm hn, sg_nm hn] at q
    exact sg_inj (List.append_cancel_left (List.append_cancel_right q))
  · obtain ⟨t, ht, rfl⟩ := List.mem_map.mp hx
    obtain ⟨t1, t2, ⟨c, c1, c2⟩, t4⟩ := tails_ok t (tm t ht)
    have l := el t ht
    have a : isWordB (nmS st n t) 8 = true := by
      unfold isWordB lowS
      rw [Bool.and_eq_true]
      refine ⟨decide_eq_true (by omega), ?_⟩
      rw [sg_nm hn, List.all_append, List.all_append, t2]
      rw [List.all_eq_true.mpr fun c hc => decide_eq_true (stem_low c (hs c (List.mem_of_mem_take hc))).1, List.all_eq_true.mpr fun c hc => decide_eq_true (stem_low c (hs c (List.mem_of_mem_drop hc))).1]
      rfl
    unfold nameOk
    rw [a, Bool.true_and, decide_eq_false fun m => no_wxy _ m c (by rw [sg_nm hn]; exact List.mem_append_left _ (List.mem_append_right _ c1)) c2]
    rfl
  · obtain ⟨t, ht, rfl⟩ := List.mem_map.mp hx
    exact el t ht
  · obtain ⟨t, ht, rfl⟩ := List.mem_map.mp hx
    rw [sg_nm hn]
    intro m
    rcases List.mem_append.mp m with m | m
    · rcases List.mem_append.mp m with m | m
      · exact (stem_low _ (hs _ (List.mem_of_mem_take m))).2 rfl
      · exact (tails_ok t (tm t ht)).2.2.2 m
    · exact (stem_low _ (hs _ (List.mem_of_mem_drop m))).2 rfl
theorem len_app (x y : Str) : (x ++ y).length = x.length + y.length := by
  rw [← sg_len, sg_app, List.length_append, sg_len, sg_len]
theorem take_snoc {α : Type} {l : List α} {i : Nat} {x : α} (h : l[i]? = some x) : l.take (i + 1) = l.take i ++ [x] := by
  rw [List.take_add_one, h]
  rfl
def unS : V → Str
  | .str z => z
  | _ => ""
theorem perm_strs {ys : List V} {zs : List Str} (h : ys.Perm (zs.map V.str)) : ∃ xs : List Str, ys = xs.map V.str ∧ xs.Perm zs := by
  refine ⟨ys.map unS, ?_, ?_⟩
  · have : ∀ y ∈ ys, V.str (unS y) = y := fun y hy => by
      obtain ⟨z, _, rfl⟩ := List.mem_map.mp (h.mem_iff.mp hy)
      rfl
    rw [List.map_map]
    exact ((List.map_congr_left (g := id) fun y hy => this y hy).trans (List.map_id ys)).symm
  · have q := h.map unS
    rw [List.map_map] at q
    exact q.trans (List.Perm.of_eq ((List.map_congr_left (g := id) fun _ _ => rfl).trans (List.map_id zs)))
section
variable {P : Program} {w : World} {K : PySem.W.Frag} {mg : Str → Option Value} {base : Heap}
theorem ok_lnames (T : Txt K mg) (G_l_pull : OkG P w K mg base CX0 1 "_law_pull" P_l_pull sp_pull) (G_l_any : OkG P w K mg base CX0 2 "_law_any" P_l_any sp_any) (G_l_mixed : OkG P w K mg base CX0 2 "_law_mixed" P_l_mixed sp_mixed) : OkG P w K mg base CX0 3 "_law_names" P_l_names sp_lnames := by
  refine (T.f_l_names).ok sc_l_names (fun vs H Q E h => ?_) (fun cdv A outer s H vs Q E hr h => ?_)
  · obtain ⟨β, S, rfl, _⟩ := h
    rfl
  · obtain ⟨β, S, rfl, hS, hB, k⟩ := h
    refine ⟨_, PSs.nox (pss_cons (ps_set (i := 2) sc_l_names.nd rfl (Or.inr rfl) (joinK (K := K) rfl pe_str (pe_lc (own := [("_law_k", 3)]) (g := (gName 3)) (tt := tYes) rfl sc_l_names.nd (pi_range1 (by rfl) T.f (pa_cons (pe_call G_l_pull (hr.mono (by first | decide | omega)) (by rfl) (T.g "_law_pull") (T.k "_law_pull") T.b_l_pull .nil pass0 (pa_cons (pv 0) (pa_cons pe_int pa_nil))) pa_nil)) (by first | exact blkOk_by (N := N_l_names) (sc := defScope s_l_names) (by decide +kernel) | exact blkOk_by (N := N_l_names) (sc := { kind := .function, names := [], isGenerator := false, isCoroutine := false }) (by decide +kernel)) (fun _ _ _ _ _ => (pg_name (i := 3) sc_l_names.nd rfl (Or.inl rfl))) (fun _ _ _ _ _ => pts_nil) (fun _ _ _ _ _ => (pe_call G_l_any (hr.mono (by first | decide | omega)) (by rfl) (T.g "_law_any") (T.k "_law_any") T.b_l_any .nil pass0 (pa_cons (pv 0) (pa_cons pe_str pa_nil)))))))
        (pss_cons (ps_set (i := 4) sc_l_names.nd rfl (Or.inr rfl) (pe_call G_l_pull (hr.mono (by first | decide | omega)) (by rfl) (T.g "_law_pull") (T.k "_law_pull") T.b_l_pull .nil pass0 (pa_cons (pv 0) (pa_cons (pe_op op_add (pe_callB call_len_str (by rfl) T.f (by decide +kernel) (pa_cons (pv 2) pa_nil)) pe_int) pa_nil))))
        (pss_cons (ps_set (i := 5) sc_l_names.nd rfl (Or.inl rfl) (pe_call G_l_mixed (hr.mono (by first | decide | omega)) (by rfl) (T.g "_law_mixed") (T.k "_law_mixed") T.b_l_mixed .nil pass0 (pa_cons (pv 0) (pa_cons (pe_lst (pa_cons pe_str (pa_cons pe_str (pa_cons pe_str (pa_cons pe_str (pa_cons pe_str pa_nil)))))) pa_nil))))
        (pss_one (ps_ret (pe_lc (own := [("_law_tail", 6)]) (g := (gName 6)) (tt := tYes) rfl sc_l_names.nd (pi_listK (K := K) rfl (pe_slice (sl_listK (K := K) rfl) (pv 5) po_none (po_some (pv 1)))) (by first | exact blkOk_by (N := N_l_names) (sc := defScope s_l_names) (by decide +kernel) | exact blkOk_by (N := N_l_names) (sc := { kind := .function, names := [], isGenerator := false, isCoroutine := false }) (by decide +kernel)) (fun _ _ _ _ _ => (pg_name (i := 6) sc_l_names.nd rfl (Or.inl rfl))) (fun _ _ _ _ _ => pts_nil) (fun _ _ _ _ _ => (pe_op op_add_str (pe_op op_add_str (pe_slice sl_str (pv 2) po_none (po_some (pv 4))) (pv 6)) (pe_slice sl_str (pv 2) (po_some (pv 4)) po_none))))))))), ?_⟩
    walk_at "rs"
    walk_at "rd"
    refine ⟨⟨_, rfl⟩, ?_⟩
    walk_at "ri"
    walk_at "rd"
    refine ⟨β, _, S, rfl, by omega, by omega, hS, hB, fun H1 S1 g1 b1 d d0 d1 => ?_⟩
    walk_at "rd"
    refine ⟨by omega, by omega, fun D hD => ?_⟩
    have nDβ : β ≠ D := fun z => b1.live (by rw [z]; exact hD)
    refine lcg walk_range (fun i acc S => ∃ cs : List Nat, acc = (cs.map s1).map V.str ∧ cs.length = i ∧ ∀ c ∈ cs, c ∈ sg STEM) (fun S H => BagAt S H β) (one β) hD g1.sub ⟨[], rfl, rfl, fun _ z => nomatch z⟩ b1 (fun S H o z => z.updO nDβ) (fun _ _ _ _ _ _ _ _ => trivial) ?_ ?_
    · rintro i x H2 H3 S2 acc hi2 g2 ⟨cs, ea, el, ec⟩ b2 e eS ⟨rfl, rfl⟩
      walk_at "rs"
      walk_at "rd"
      refine ⟨β, _, S2, rfl, .inr ⟨STEM, rfl, by decide +kernel, by decide +kernel, g2.sub, b2, fun H4 S4 g4 b4 c hc => ?_⟩⟩
      exact LcP.add hD (fun z => nDβ z.symm) (fun S H o z => z.updO nDβ) g2 e eS g4 (szL (by rw [ea, List.length_map, List.length_map, el]; omega)) ⟨cs ++ [c], by rw [ea, List.map_append, List.map_append]; rfl, by rw [List.length_append, el]; rfl, fun y hy => (List.mem_append.mp hy).elim (ec y) fun z => by rw [List.mem_singleton.mp z]; exact hc⟩ b4
    · rintro H2 S2 acc g2 ⟨cs, ea, el, ec⟩ b2 e eS
      refine ⟨"", D, cs.map s1, rfl, rfl, .inl (sql (by rw [e, ea])), by rw [sum_ones, List.length_map]; show cs.length + cs.length * 0 ≤ 16777216; omega, ?_⟩
      have ej : sg (Txt.join "" (cs.map s1)) = cs := join_ones cs
      have el2 : (Txt.join "" (cs.map s1)).length = cs.length := by rw [← sg_len, ej]
      have hst : ∀ c ∈ sg (Txt.join "" (cs.map s1)), c ∈ sg STEM := by rw [ej]; exact ec
      generalize Txt.join "" (cs.map s1) = st at el2 hst
      have sl : st.length ≤ 5 := by omega
      have g3 := g1.trans g2
      walk_at "rd"
      refine ⟨szE (by omega), ?_⟩
      walk_at "rd"
      refine ⟨β, _, S2, rfl, by omega, by omega, g3.sub, b2, fun H4 S4 g4 b4 a a0 a1 => ?_⟩
      walk_at "rd"
      refine ⟨by walk_at "sz", fun p hp => ?_⟩
      have g5 := g3.trans g4
      generalize e5 : upd H4 p (HO.lst [V.str (Str.ofString "x"), V.str (Str.ofString "y"), V.str (Str.ofString "w"), V.str (Str.ofString "xw"), V.str (Str.ofString "yx")]) = H5
      have g6 := g5.ld e5 hp
      have b6 := b4.ld e5 hp g5.sub
      refine ⟨β, p, _, _, rfl, upd_same, by decide, g6.sub, b6, fun H7 S7 g7 b7 q ys hq pm => ?_⟩
      obtain ⟨zs, rfl, pz⟩ := perm_strs (zs := TAILS) pm
      have g8 := g6.trans g7
      walk_at "ri"
      walk_at "rd"
      refine ⟨q, _, rfl, sql (g8.sub _ _ hq), fun l hl => ?_⟩
      rw [show cutV (zs.map V.str) none (some 4) = (zs.take 4).map V.str from (cut_to (k := 4)).trans (List.map_take ..).symm]
      generalize e9 : upd H7 l (HO.lst ((zs.take 4).map V.str)) = H9
      have g9 := g8.ld e9 hl
      have b9 := b7.ld e9 hl g8.sub
      have hl9 : (upd S7 l (HO.lst ((zs.take 4).map V.str))) l = some (.lst ((zs.take 4).map V.str)) := upd_same
      generalize upd S7 l (HO.lst ((zs.take 4).map V.str)) = S9 at g9 b9 hl9
      walk_at "rd"
      refine ⟨⟨_, sql (g9.sub _ _ hl9)⟩, fun D2 hD2 => ?_⟩
      have nD2 : β ≠ D2 := fun z => b9.live (by rw [z]; exact hD2)
      have ea2 : a = ((a.toNat : Nat) : Int) := (Int.toNat_of_nonneg a0).symm
      have hn : a.toNat ≤ st.length := by omega
      have ok := ns_ok hst sl hn pz
      refine lcg walk_list (fun i acc S => acc = ((zs.take 4).take i).map fun t => V.str (nmS st a.toNat t)) (fun S H => BagAt S H β) (one β) hD2 g9.sub rfl b9 (fun S H o z => z.updO nD2) (fun i H9 S9 _ _ g _ _ => sql (g.sub _ _ (g.mono _ _ hl9))) ?_ ?_
      · rintro i x H10 H11 S10 acc hi g10 r b10 e10 eS10 ⟨rfl, hx⟩
        rw [List.getElem?_map] at hx
        obtain ⟨t, ht, rfl⟩ := Option.map_eq_some_iff.mp hx
        walk_at "rs"
        walk_at "rd"
        have tl : t.length ≤ 2 := by
          rw [← sg_len]
          exact (tails_ok t (pz.mem_iff.mp (List.mem_of_mem_take (List.mem_of_getElem? ht)))).1
        have c1 := cutS_length st none (some a)
        have c2 := cutS_length st (some a) none
        refine ⟨szE (by omega), ?_⟩
        walk_at "rd"
        refine ⟨szE (by omega), ?_⟩
        walk_at "rd"
        refine ⟨szE (by omega), ?_⟩
        walk_at "rd"
        refine ⟨szE (by rw [len_app]; omega), ?_⟩
        refine LcP.add hD2 (fun z => nD2 z.symm) (fun S H o z => z.updO nD2) g10 e10 eS10 (Gm.rfl' g10.sub) (szL (by rw [r, List.length_map, List.length_take, List.length_take]; omega)) ?_ b10
        rw [r, take_snoc ht, List.map_append]
        show _ ++ [V.str (cutS st none (some a) ++ t ++ cutS st (some a) none)] = _ ++ [V.str (nmS st a.toNat t)]
        unfold nmS
        rw [← ea2]
      · rintro H10 S10 acc g10 r b10 e10 eS10
        rw [List.length_map, List.take_of_length_le (Nat.le_refl _)] at r
        have g11 := (g9.trans g10).freeze e10 (g9.free hD2) eS10
        refine k H10 _ g11 (b10.frz eS10 nD2) (V.ref D2) _ ⟨D2, rfl, ?_⟩ ok
        rw [upd_same, r, List.map_map]
        rfl
end
end Lst

/-! ## LSup -/
namespace Lst
open PySem PySem.Spec PyProof.Rows L2
/-! ### statements and expressions of a body that asks for its own code: super() -/
structure QE (X : Cx) (body : List Stmt) (e : Expr) (t : TE) : Prop where
  run : ∀ (pins : List (Addr × Obj)) (s : Shared) (σ : L2.St) (H : Hp) (Q : VK), Inv X pins σ H s → t σ H Q → _root_.PySem.wpAt (model X.prog X.w) X.A (.func body X.env) (eval e X.env) (EP X pins σ Q) X.xe s
structure QS (X : Cx) (body : List Stmt) (st : Stmt) (t : TS) : Prop where
  run : ∀ (pins : List (Addr × Obj)) (s : Shared) (σ : L2.St) (H : Hp) (D : Ends), Inv X pins σ H s → t D σ H → _root_.PySem.wpAt (model X.prog X.w) X.A (.func body X.env) (exec st X.env) (SP X pins D) X.xe s
structure QSs (X : Cx) (body : List Stmt) (st : List Stmt) (t : TS) : Prop where
  run : ∀ (pins : List (Addr × Obj)) (s : Shared) (σ : L2.St) (H : Hp) (D : Ends), Inv X pins σ H s → t D σ H → _root_.PySem.wpAt (model X.prog X.w) X.A (.func body X.env) (execs st X.env) (SP X pins D) X.xe s
section
variable {X : Cx} {body : List Stmt} {st : Stmt} {rest : List Stmt} {t u : TS}
theorem qs_of (h : PS X st t) : QS X body st t := ⟨fun pins s σ H D I q => _root_.PySem.wpAt_of_wpAny (h.run pins s σ H D I q)⟩
theorem qss_of (h : PSs X rest t) : QSs X body rest t := ⟨fun pins s σ H D I q => _root_.PySem.wpAt_of_wpAny (h.run pins s σ H D I q)⟩
theorem qss_cons (h1 : QS X body st t) (h2 : QSs X body rest u) : QSs X body (st :: rest) (tSeq t u) := by
  refine ⟨fun pins s σ H D I h => ?_⟩
  refine ks_wpAt_execs_cons (ks_wpAt_mono (h1.run pins s σ H { D with nx := u D } I h) (fun f s1 q => ?_) fun _ _ x => x)
  cases f with
  | next =>
    obtain ⟨σ', H', I', q⟩ := q
    exact h2.run pins s1 σ' H' D I' q
  | ret v => exact q
  | brk => exact q
  | cont => exact q
theorem qss_one (h1 : QS X body st t) : QSs X body [st] t := by
  refine ⟨fun pins s σ H D I h => ?_⟩
  refine ks_wpAt_execs_cons (ks_wpAt_mono (h1.run pins s σ H D I h) (fun f s1 q => ?_) fun _ _ x => x)
  cases f with
  | next => exact _root_.PySem.wpAt_of_wpAny (wpAny_execs_nil q)
  | ret v => exact q
  | brk => exact q
  | cont => exact q
theorem qs_expr {e : Expr} {pos : Pos} {te : TE} (he : QE X body e te) (hs : swapsWith e none pos.line X.env = pure false := by rfl) : QS X body (.Expr e pos) (tDrop te) := by
  refine ⟨fun pins s σ H D I h => ?_⟩
  exact ks_wpAt_Expr_any (ks_wpAt_mono (he.run pins s σ H _ I h) (fun v s1 ⟨x, H1, I1, r1, q1⟩ => ⟨σ, H1, I1, q1⟩) fun _ _ x => x) I.quiet hs
theorem qs_set {i : Nat} {x : Str} {e : Expr} {te : TE} {pos pos' : Pos} (hN : X.N.Nodup) (hi : X.N[i]? = some x) (hx : Loc X.env.scope x) (he : QE X body e te) (hs : swapsWith e (some (.Name x pos')) pos.line X.env = pure false := by rfl)
    (hf : X.fn x = true ∨ X.env.scope.names.lookup x = some .local := by first | exact .inl rfl | exact .inr rfl | assumption) : QS X body (.Assign [.Name x pos'] e pos) (tAsg te (gName i)) := by
  refine ⟨fun pins s σ H D I h => ?_⟩
  refine ks_wpAt_Assign_Name (ks_wpAt_mono (he.run pins s σ H _ I h) (fun v s1 ⟨y, H1, I1, r1, q1⟩ => ?_) fun _ _ x => x) hs
  exact store_ok I1 hN hi hx r1 (fun s2 I2 => ⟨_, H1, I2, q1⟩) hf
theorem qe_op {a b : Expr} {ta tb : TE} {op : Operator} {r : R2} {pos : Pos} (ho : OpR X (binaryOp op) r) (ha : QE X body a ta) (hb : PE X b tb) : QE X body (.BinOp a op b pos) (tOp r ta tb) := by
  refine ⟨fun pins s σ H Q I h => ?_⟩
  exact ks_wpAt_BinOp (ks_wpAt_mono (ha.run pins s σ H _ I h) (fun v s1 ⟨x, H1, I1, rx, q1⟩ => thn (hb.run pins s1 σ H1 _ I1 q1) fun u s2 ⟨y, H2, I2, ry, q2⟩ => ho pins s2 σ H2 x y v u Q I2 rx ry q2) fun _ _ x => x)
end
/-- what the text must have for super().m of an instance of C in a body of the class D -/
structure SupM (K : PySem.W.Frag) (C D : Addr) (m : Str) (f2 : Addr) : Prop where
  c : (PySem.W.clsIn K C).isSome = true
  d : (PySem.W.clsIn K D).isSome = true
  sub : PySem.W.mroIn K C (.ref D) = some true
  at_ : PySem.W.ks_superIn K C D m = some (some (.ref f2))
  ty : PySem.W.typeIn K (.ref f2) = some (.type "function")
  fi : PySem.W.fnIn K f2 = true
  op : PySem.W.nsIn K cStatics "thirdparty.any" = some none
/-- the function's own record and its code's -/
structure SupF (K : PySem.W.Frag) (P : Program) (f : Addr) (c : Addr) : Prop where
  f : ∃ oc od fd osl ar, K.lookup f = some ⟨oc, od, .func fd, osl⟩ ∧ (fd.params.posonlyargs ++ fd.params.args).head? = some ar ∧ ar.arg = "self"
  c : ∃ ccl cdd vs ccs file tf, K.lookup c = some ⟨ccl, cdd, .fields vs, ccs⟩ ∧ vs[2]? = some (.str file tf) ∧ ((P.main.file : Str) == file) = true
  top : (P.main.scope.names.lookup ("super" : Str)).isSome = false
/-- super().m(..): self at slot 0, __class__ at slot j -/
def tSup (ok : Addr → Prop) (sp : Sp) (E : XK) (D : Addr) (j : Nat) (t : TA) : TE := fun σ H Q => ∃ a C dx fs, σ[0]? = some (some (.ref a)) ∧ σ[j]? = some (some (.ref D)) ∧ H a = some (.ins C dx fs) ∧ ok C ∧ t σ H fun vs H1 => sp (.ref a :: vs) H1 Q E
section
variable {X : Cx} {body : List Stmt} {CX : CXT} {k j : Nat} {f cda D f2 : Addr} {m : Str} {ok : Addr → Prop} {sp : Sp} {E : XK} {p0 p1 apos pos : Pos} {es : List Expr} {t : TA} {pl : Sem Bool}
theorem sup_base {pins : List (Addr × Obj)} {s : Shared} {σ : L2.St} {H : Hp} {a C dx : Addr} {fs : List (Str × V)} {Q : Value → Shared → Prop} {whole : Sem Value} (I : Inv X pins σ H s) (S : SupF X.K X.prog f cda) (hC : SupM X.K C D m f2)
    (hks : X.env.kindOf "super" = some .globalImplicit) (hkc : X.env.kindOf "__class__" = some .free) (hat : (m == ("__class__" : Str)) = false) (hfu : X.env.func = some f) (hco : X.env.code = .ref cda) (hsu : X.mg "super" = none)
    (hN0 : X.N[0]? = some ("self" : Str)) (hv0 : X.env.scope.names.lookup ("self" : Str) = some .local) (hNj : X.N[j]? = some ("__class__" : Str))
    (h0 : σ[0]? = some (some (.ref a))) (hj : σ[j]? = some (some (.ref D))) (ha : H a = some (.ins C dx fs))
    (h : ∀ so h' t', Inv X pins σ H { s with heap := h', toks := t' } → h'.get? so = some (PySem.W.ks_superObj D a C) → Q (.ref so) { s with heap := h', toks := t' }) :
    _root_.PySem.wpAt (model X.prog X.w) X.A (.func body X.env) (attributeBase (.Call (.Name "super" p0) [] [] p1) m X.env whole) Q X.xe s := by
  obtain ⟨oc, od, fd, osl, ar, lf, hp, har⟩ := S.f
  obtain ⟨ccl, cdd, vs, ccs, file, tf, lc, hvs, hfile⟩ := S.c
  have KX := I.kIn
  obtain ⟨cdD, hD⟩ := Option.isSome_iff_exists.mp hC.d
  obtain ⟨oD, hD1, hD2⟩ : ∃ oD, s.heap.get? D = some oD ∧ oD.data = .cls cdD := by
    unfold PySem.W.clsIn at hD
    split at hD
    · rename_i c d cd' sl ho
      cases hD
      exact ⟨_, KX _ _ ho, rfl⟩
    · cases hD
  obtain ⟨mA, O, _, _, _, _⟩ := ins_get I.hok ha
  obtain ⟨odx, J, _⟩ := O.look
  obtain ⟨mL, hn, hl⟩ := I.loc
  refine ks_wpAt_super_base hks hkc hat hfu (KX _ _ lf) rfl hp hco (KX _ _ lc) rfl hvs hfile S.top ?_
  obtain ⟨mb, b1, b2⟩ := I.mod.blt
  refine PySem.W.ks_loadName_global I.ok.kind hks (Calls.loadGlobal_builtin (by rw [I.ok.glob]; exact I.mod.glob.keeps I.bk) hsu (by rw [I.ok.blt]; exact b1.keeps I.bk) ((b2 _ (by decide)).trans (show bootBuiltins "super" = some (.type "super") by decide +kernel)) ⟨rfl, ?_⟩)
  obtain ⟨u1, r1, l1⟩ := hl j "__class__" _ hNj hj (.inr (.inr hkc))
  obtain rfl : u1 = Value.ref D := r1
  have cell : ∃ c, X.env.cells.lookup ("__class__" : Str) = some c ∧ s.heap.IsCell c (some (.ref D)) := by
    rcases l1 with ⟨z, _⟩ | ⟨_, z⟩
    · rw [hkc] at z
      cases z
    · exact z
  obtain ⟨cc, hc1, hc2⟩ := cell
  refine wpAny_loadName_free I.ok.kind hkc hc1 hc2 ?_ (by decide)
  obtain ⟨u0, r0, l0⟩ := hl 0 "self" _ hN0 h0 (.inl hv0)
  obtain rfl : u0 = Value.ref a := r0
  have loc : X.env.kindOf "self" = some .local ∧ mL "self" = some (.ref a) := by
    rcases l0 with z | ⟨z, _⟩
    · exact z
    · have z2 : X.env.kindOf "self" = some .local := hv0
      rw [z2] at z
      rcases z with z | z <;> cases z
  rw [har]
  refine wpAny_loadName_local I.ok.kind loc.1 hn loc.2 ?_
  obtain ⟨hh, g, d, tk, os⟩ := s
  refine ks_wpAny_isType_cls hD1 hD2 ⟨rfl, ?_⟩
  refine ks_wpAny_call_super hD1 hD2 J.at_ J.cls (fun c e => ?_) (PySem.W.looks_mroIn KX hC.sub) fun h' e kp => ?_
  · have := J.no
    unfold PySem.W.notCls at this
    rw [e] at this
    exact Bool.noConfusion this
  · exact h _ h' tk (I.kept (t' := tk) kp) e
theorem qe_super (S : SupF X.K X.prog f cda) (hok : ∀ C, ok C → SupM X.K C D m f2) (hsu : X.mg "super" = none) (F : FnR X.prog X.w X.K X.mg X.base CX k f2 sp) (hr : Room k X.A) (hx : Passes CX X E) {e : Expr} (ha : PA X (e :: es) t)
    (hks : X.env.kindOf "super" = some .globalImplicit := by rfl) (hkc : X.env.kindOf "__class__" = some .free := by rfl) (hat : (m == ("__class__" : Str)) = false := by decide) (hfu : X.env.func = some f := by rfl) (hco : X.env.code = .ref cda := by rfl)
    (hN0 : X.N[0]? = some ("self" : Str) := by rfl) (hv0 : X.env.scope.names.lookup ("self" : Str) = some .local := by rfl) (hNj : X.N[j]? = some ("__class__" : Str) := by rfl)
    (hst : starEach (e :: es) X.env = (false, eval e X.env) :: starEach es X.env := by rfl) (hpl : (backTo pos (starEach es X.env)).any (·.1) = false := by rfl)
    (ht : eval (.Call (.Attribute (.Call (.Name "super" p0) [] [] p1) m apos) (e :: es) [] pos) X.env = (do
      let ov ← attributeBase (.Call (.Name "super" p0) [] [] p1) m X.env (eval (.Call (.Name "super" p0) [] [] p1) X.env)
      standAt apos.atName
      let (f, first) ← holding [ov] (getMethod ov m pl)
      callWith pos f first (backTo pos (starEach (e :: es) X.env)) []) := by rfl) :
    QE X body (.Call (.Attribute (.Call (.Name "super" p0) [] [] p1) m apos) (e :: es) [] pos) (tSup ok sp E D j t) := by
  refine ⟨fun pins s σ H Q I h => ?_⟩
  obtain ⟨a, C, dx, fs, h0, hj, hh, hC, h⟩ := h
  have M := hok C hC
  refine ks_wpAt_MethodCall (sup_base I S M hks hkc hat hfu hco hsu hN0 hv0 hNj h0 hj hh fun so h' t' I1 hso => ?_) ht
  obtain ⟨cd, hcd⟩ := Option.isSome_iff_exists.mp M.c
  have KX := I1.kIn
  obtain ⟨mA, O, _, _, _, _⟩ := ins_get I1.hok hh
  obtain ⟨odx, J, _⟩ := O.look
  have al : PySem.W.alongIn X.K m ((cd.mro.dropWhile (· != .ref D)).drop 1) = some (some (.ref f2)) := by
    have q := M.at_
    unfold PySem.W.ks_superIn at q
    rw [hcd] at q
    exact q
  obtain ⟨of, hof, hofc⟩ : ∃ of, h'.get? f2 = some of ∧ of.cls = .type "function" := by
    have ht' : (X.K.lookup f2).map (·.cls) = some (.type "function") := M.ty
    cases z : X.K.lookup f2 with
    | none => rw [z] at ht'; cases ht'
    | some of => rw [z] at ht'; exact ⟨of, KX _ _ z, Option.some.inj ht'⟩
  refine ks_wpAny_getMethod_super hso (PySem.W.looks_opaque KX M.op) (l₀ := cd.mro) ?_ rfl KX al hof hofc (PySem.W.ks_ne KX J hcd) hat ?_
  · exact fun A Q E s k q => wpAny_bind ((PySem.W.looks_clsIn KX hcd) A _ E s k (wpAny_pure q))
  have I2 := ClX.met_new (g := f2) (C := a) I1
  refine ClX.callwith_cm I2 (ClX.base_none I1 (Nat.le_refl _)) M.fi (thn (ha.run pos _ _ σ H _ I2 h) fun us s3 ⟨vs, H2, I3, rv, q2⟩ => ⟨⟨ClX.pin_at I3, I3.kIn⟩, ?_⟩) hst hpl
  exact ClX.run_cm F hr hx I3 rv q2
theorem qe_super0 (S : SupF X.K X.prog f cda) (hok : ∀ C, ok C → SupM X.K C D m f2) (hsu : X.mg "super" = none) (F : FnR X.prog X.w X.K X.mg X.base CX k f2 sp) (hr : Room k X.A) (hx : Passes CX X E)
    (hks : X.env.kindOf "super" = some .globalImplicit := by rfl) (hkc : X.env.kindOf "__class__" = some .free := by rfl) (hat : (m == ("__class__" : Str)) = false := by decide) (hfu : X.env.func = some f := by rfl) (hco : X.env.code = .ref cda := by rfl)
    (hN0 : X.N[0]? = some ("self" : Str) := by rfl) (hv0 : X.env.scope.names.lookup ("self" : Str) = some .local := by rfl) (hNj : X.N[j]? = some ("__class__" : Str) := by rfl)
    (ht : eval (.Call (.Attribute (.Call (.Name "super" p0) [] [] p1) m apos) [] [] pos) X.env = (do
      let ov ← attributeBase (.Call (.Name "super" p0) [] [] p1) m X.env (eval (.Call (.Name "super" p0) [] [] p1) X.env)
      standAt apos.atName
      let (f, first) ← holding [ov] (getMethod ov m pl)
      callWith pos f first (backTo pos (starEach [] X.env)) []) := by rfl) :
    QE X body (.Call (.Attribute (.Call (.Name "super" p0) [] [] p1) m apos) [] [] pos) (tSup ok sp E D j tNil) := by
  refine ⟨fun pins s σ H Q I h => ?_⟩
  obtain ⟨a, C, dx, fs, h0, hj, hh, hC, h⟩ := h
  have M := hok C hC
  refine ks_wpAt_MethodCall (sup_base I S M hks hkc hat hfu hco hsu hN0 hv0 hNj h0 hj hh fun so h' t' I1 hso => ?_) ht
  obtain ⟨cd, hcd⟩ := Option.isSome_iff_exists.mp M.c
  have KX := I1.kIn
  obtain ⟨mA, O, _, _, _, _⟩ := ins_get I1.hok hh
  obtain ⟨odx, J, _⟩ := O.look
  have al : PySem.W.alongIn X.K m ((cd.mro.dropWhile (· != .ref D)).drop 1) = some (some (.ref f2)) := by
    have q := M.at_
    unfold PySem.W.ks_superIn at q
    rw [hcd] at q
    exact q
  obtain ⟨of, hof, hofc⟩ : ∃ of, h'.get? f2 = some of ∧ of.cls = .type "function" := by
    have ht' : (X.K.lookup f2).map (·.cls) = some (.type "function") := M.ty
    cases z : X.K.lookup f2 with
    | none => rw [z] at ht'; cases ht'
    | some of => rw [z] at ht'; exact ⟨of, KX _ _ z, Option.some.inj ht'⟩
  refine ks_wpAny_getMethod_super hso (PySem.W.looks_opaque KX M.op) (l₀ := cd.mro) ?_ rfl KX al hof hofc (PySem.W.ks_ne KX J hcd) hat ?_
  · exact fun A Q E s k q => wpAny_bind ((PySem.W.looks_clsIn KX hcd) A _ E s k (wpAny_pure q))
  have I2 := ClX.met_new (g := f2) (C := a) I1
  refine PySem.W.callWith_M0 (K := X.K) (first := []) ⟨ClX.pin_at I2, I2.kIn⟩ M.fi ?_
  exact ClX.run_cm (us := []) (vs := []) F hr hx I2 .nil h
end
end Lst

/-! ## LSup2 -/
namespace Lst
open PySem PySem.Spec PyProof.Rows L2
/-- a def of the text that says super(): its record at f, its code's at c, its class at D -/
structure FunS (K : PySem.W.Frag) (P : Program) (d : He.DefD) (D f c : Addr) : Prop where
  ex : ∃ (oc : Value) (od : Option Addr) (kV doc pm : Value) (an : Option Addr) (ct : Value) (osl : Array (Option Value)) (cc : Addr),
    K.lookup f = some ⟨oc, od, .func (PySem.W.ksFn d.name d.qual d.params d.body d.scope .none kV doc pm an (.ref c) ct cc), osl⟩ ∧ PySem.W.codeIn K (.ref c) d.qual = true ∧ cellTo K cc D = true
  rc : ∃ ccl cdd vs ccs file tf, K.lookup c = some ⟨ccl, cdd, .fields vs, ccs⟩ ∧ vs[2]? = some (.str file tf) ∧ ((P.main.file : Str) == file) = true
  top : (P.main.scope.names.lookup ("super" : Str)).isSome = false
theorem FunS.sup {K : PySem.W.Frag} {P : Program} {d : He.DefD} {D f c : Addr} (F : FunS K P d D f c) {ar : Arg} (h : (d.params.posonlyargs ++ d.params.args).head? = some ar) (h2 : ar.arg = "self") : SupF K P f c := by
  obtain ⟨oc, od, kV, doc, pm, an, ct, osl, cc, lk, _⟩ := F.ex
  exact ⟨⟨_, _, _, _, ar, lk, h, h2⟩, F.rc, F.top⟩
abbrev nfS (d : He.DefD) (cc c : Addr) : NdefX.NF := ⟨d.name, d.qual, d.params, d.body, d.scope, [("__class__", cc)], c⟩
section
variable {CX : CXT} {P : Program} {w : World} {K : PySem.W.Frag} {mg : Str → Option Value} {base : Heap} {N ps : List Str} {d : He.DefD} {D f c : Addr} {k : Nat} {sp : Sp}
theorem cells_one {A : Around} {outer : List Env} {s : Shared} {H : Hp} {cc : Addr} (e0 : Env0 P w K mg base A outer s H) (h : cellTo K cc D = true) : NdefX.CellsAt [("__class__", cc)] ["__class__"] [some (.ref D)] s.heap H := by
  unfold cellTo at h
  split at h
  · rename_i oc od D' sl lk
    have hD : D' = D := of_decide_eq_true h
    subst hD
    have b1 := e0.mod.kin _ _ lk
    have b2 := e0.bs _ _ b1
    have lc : ∀ (y : Str) (x : Addr), List.lookup y [(("__class__" : Str), cc)] = some x → y = "__class__" ∧ x = cc := fun y x h => by
      by_cases q : y = "__class__"
      · subst q
        exact ⟨rfl, (Option.some.inj h).symm⟩
      · have q2 : (y == ("__class__" : Str)) = false := by simpa using q
        have z : List.lookup y [(("__class__" : Str), cc)] = none := by
          show (match y == ("__class__" : Str) with | true => some cc | false => none) = none
          rw [q2]
        rw [z] at h
        cases h
    refine ⟨rfl, fun y x h => ?_, fun x y z h1 h2 => ?_, fun i y h => ?_⟩
    · obtain ⟨_, rfl⟩ := lc y x h
      exact ⟨b2.2, _, _, b2.1, rfl⟩
    · rw [(lc x z h1).1, (lc y z h2).1]
    · cases i with
      | zero =>
        obtain rfl : ("__class__" : Str) = y := Option.some.inj h
        exact ⟨cc, rfl, fun v hv => ⟨.ref D', by rw [← Option.some.inj (Option.some.inj hv)]; rfl, _, b2.1, rfl⟩⟩
      | succ i => simp at h
  · cases h
theorem core_S (S : NdefX.NScope N ps ["__class__"] d.scope) {oc : Value} {od : Option Addr} {kV doc pm : Value} {an : Option Addr} {ct : Value} {osl : Array (Option Value)} {cc : Addr} (hcell : cellTo K cc D = true)
    (hbody : ∀ (cc : Addr) (A : Around) (outer : List Env) (s : Shared) (H : Hp) (vs : List V) (Q : VK) (E : XK), Room k (A.deeper (NdefX.envF (nfS d cc c) f s.heap.objs.size)) → sp vs H Q E →
      ∃ t, QSs (NdefX.ncx CX P w K mg base N (nfS d cc c) f A outer s H E) d.body d.body t ∧ t { nx := fun _ H' => Q .non H', rt := Q } (NdefX.startF N vs [some (.ref D)]) H)
    {A : Around} {outer : List Env} {s : Shared} {H : Hp} {us : List Value} {vs : List V} {Q : VK} {E : XK} (hr : Room (k + 1) A) (e0 : Env0 P w K mg base A outer s H) (hl : vs.length = ps.length) (r : Vals vs us) (hsp : sp vs H Q E) :
    wpAny (model P w) A.in1 (newFunctionEnv d.scope mainGlobals [("__class__", cc)] (ps.zip us) (d.qual ++ ".<locals>.") (some f) (.ref c) none builtinsNs)
      (fun env s₂ => s₂.heap.NoLimit ∧ codeAny (model P w) A (.func d.body env) (CR CX outer P w H s Q E) s₂) (fun e s' => CR CX outer P w H s Q E (.error e) s') s := by
  have lim : s.heap.NoLimit := e0.mod.nolimit.keeps fun b o e => (e0.bs b o e).1
  refine wpAny_newFunctionEnv S.nocell (fun ⟨n, _⟩ hy => S.par n (List.of_mem_zip hy).1) (fun h₁ hns hsb => ⟨lim.fresh _ hsb, ?_⟩) S.kind
  show codeAny _ _ (.func d.body (NdefX.envF (nfS d cc c) f s.heap.objs.size)) _ _
  refine ks_codeAny_funcAt ?_
  have kp : ∀ b o, s.heap.get? b = some o → h₁.get? b = some o := fun b o e => hsb.extBut b o (Nat.ne_of_lt (Heap.lt_size e)) (Heap.get?_push_of_some _ e)
  obtain ⟨t, ht, hq⟩ := hbody cc A outer s H vs Q E (hr.deeper _) hsp
  have I : Inv (NdefX.ncx CX P w K mg base N (nfS d cc c) f A outer s H E) [] (NdefX.startF N vs [some (.ref D)]) H { s with heap := h₁, toks := s.toks + (ps.zip us).length } := NdefX.inv_startN S hr.hd e0 hl r (cells_one e0 hcell) hns kp
  refine ks_wpAt_mono (ht.run [] _ (NdefX.startF N vs [some (.ref D)]) H _ I hq) (fun fl s' hs => ?_) fun e s' hs => hs
  have fin : ∀ {σ' : L2.St} {H' : Hp} {v : V} {u : Value}, Inv (NdefX.ncx CX P w K mg base N (nfS d cc c) f A outer s H E) [] σ' H' s' → L2.RelV v u → Q v H' → CE outer P w H s Q u s' :=
    fun {σ' H' v u} J rv q => ⟨v, H', J.os, J.bare, J.base, J.hok, rv, q⟩
  cases fl with
  | ret u =>
    obtain ⟨v, σ', H', J, rv, q⟩ := hs
    exact fin J rv q
  | next =>
    obtain ⟨σ', H', J, q⟩ := hs
    exact fin (v := V.non) (u := Value.none) J rfl q
  | brk =>
    obtain ⟨_, _, _, q⟩ := hs
    exact False.elim q
  | cont =>
    obtain ⟨_, _, _, q⟩ := hs
    exact False.elim q
/-- THE RULE for such a def -/
theorem fn_ofS (F : FunS K P d D f c) (S : NdefX.NScope N ps ["__class__"] d.scope) (len : ∀ vs H Q E, sp vs H Q E → vs.length = ps.length)
    (hbody : ∀ (cc : Addr) (A : Around) (outer : List Env) (s : Shared) (H : Hp) (vs : List V) (Q : VK) (E : XK), Room k (A.deeper (NdefX.envF (nfS d cc c) f s.heap.objs.size)) → sp vs H Q E →
      ∃ t, QSs (NdefX.ncx CX P w K mg base N (nfS d cc c) f A outer s H E) d.body d.body t ∧ t { nx := fun _ H' => Q .non H', rt := Q } (NdefX.startF N vs [some (.ref D)]) H) :
    FnOk P w K mg base CX (k + 1) f (fdA K f) ps sp := by
  obtain ⟨oc, od, kV, doc, pm, an, ct, osl, cc, lk, hcd, hcell⟩ := F.ex
  rw [fdA_of lk]
  refine ⟨len, fun A outer s H args us vs Q E hr e0 hb r hsp => ?_⟩
  have KX : K.In s.heap := e0.mod.kin.keeps fun b o e => (e0.bs b o e).1
  exact codeAny_call_function hr.depth (KX _ _ lk) rfl S.co S.gen rfl (PySem.W.codeRec_of KX hcd) (hb _ _ _ _ (core_S (oc := oc) (od := od) (kV := kV) (doc := doc) (pm := pm) (an := an) (ct := ct) (osl := osl) S hcell hbody hr e0 (len _ _ _ _ hsp) r hsp))
/-- .. def f(a, *r): the rest's tuple is laid at the call -/
theorem fn_ofSV {pa pv : Str} {nmax : Nat} (F : FunS K P d D f c) (S : NdefX.NScope N [pa, pv] ["__class__"] d.scope) (len : ∀ vs H Q E, sp vs H Q E → vs.length = 2) (hz : nmax ≤ sizeLine)
    (hb : ∀ (kV doc pm : Value) (an : Option Addr) (ct : Value) (cc : Addr) (u : Value) (rest : List Value), rest.length ≤ nmax → bindArgs (PySem.W.ksFn d.name d.qual d.params d.body d.scope .none kV doc pm an (.ref c) ct cc) ⟨u :: rest, []⟩ = (newTuple rest >>= fun t => pure [(pa, u), (pv, t)]))
    (hCX : CXNew CX)
    (hbody : ∀ (cc : Addr) (A : Around) (outer : List Env) (s : Shared) (H : Hp) (vs : List V) (Q : VK) (E : XK), Room k (A.deeper (NdefX.envF (nfS d cc c) f s.heap.objs.size)) → sp vs H Q E →
      ∃ t, QSs (NdefX.ncx CX P w K mg base N (nfS d cc c) f A outer s H E) d.body d.body t ∧ t { nx := fun _ H' => Q .non H', rt := Q } (NdefX.startF N vs [some (.ref D)]) H) :
    FnR P w K mg base CX (k + 1) f (fun vs H Q E => ∃ v rest, vs = v :: rest ∧ rest.length ≤ nmax ∧ ∀ p, H p = none → sp [v, .ref p] (upd H p (.tup rest)) Q E) := by
  obtain ⟨oc, od, kV, doc, pm, an, ct, osl, cc, lk, hcd, hcell⟩ := F.ex
  intro A outer s H us vs Q E hr e0 r hsp
  obtain ⟨v, rest, ev, hl, hq⟩ := hsp
  subst ev
  obtain ⟨u, ur, eu, rv, rr⟩ : ∃ u ur, us = u :: ur ∧ RelV v u ∧ Vals rest ur := by
    cases r with
    | cons x y => exact ⟨_, _, rfl, x, y⟩
  subst eu
  have hl' : ur.length ≤ nmax := by rw [← rr.length]; exact hl
  have KX : K.In s.heap := e0.mod.kin.keeps fun b o e => (e0.bs b o e).1
  have hn : H s.heap.objs.size = none := e0.hok.fresh (Nat.le_refl _)
  have hp := hq s.heap.objs.size hn
  have kp : ∀ b o, s.heap.get? b = some o → (s.heap.push ({ cls := .type "tuple", data := .seq ur.toArray } : Obj)).get? b = some o := fun b o e => Heap.get?_push_of_some _ e
  have new : ObjOk P w (upd H s.heap.objs.size (.tup rest)) (s.heap.push ({ cls := .type "tuple", data := .seq ur.toArray } : Obj)) s.heap.objs.size (.tup rest) :=
    ⟨Nat.le_trans hl hz, ur, rr, ⟨_, Heap.get?_push_size _ rfl, rfl, _, rfl⟩⟩
  have hok2 := e0.hok.laid kp (Nat.le_refl _) new
  have un : Un (frs outer) [] H (upd H s.heap.objs.size (.tup rest)) s.heap (s.heap.push ({ cls := .type "tuple", data := .seq ur.toArray } : Obj)) := Un.laid kp (Nat.le_refl _) hn
  have e2 : Env0 P w K mg base A outer { s with heap := s.heap.push ({ cls := .type "tuple", data := .seq ur.toArray } : Obj) } (upd H s.heap.objs.size (.tup rest)) := by
    refine ⟨e0.frames, e0.mod, fun b o e => ⟨kp b o (e0.bs b o e).1, ?_⟩, ?_, Heap.FunFrames.of_keeps (fun b o e _ => ⟨o, kp b o e, rfl⟩) e0.funs, fun b hb' => ?_, hok2, e0.bare⟩
    · rw [upd_ne (Nat.ne_of_lt (Heap.lt_size (e0.bs b o e).1))]
      exact (e0.bs b o e).2
    · show base.objs.size ≤ (s.heap.push _).objs.size
      rw [Heap.size_push]
      exact Nat.le_succ_of_le e0.bsz
    · obtain ⟨_, o, ho, _⟩ := e0.funs.mem hb'
      rw [upd_ne (Nat.ne_of_lt (Heap.lt_size ho))]
      exact e0.frf b hb'
  refine codeAny_call_function hr.depth (KX _ _ lk) rfl S.co S.gen rfl (PySem.W.codeRec_of KX hcd) ?_
  rw [hb kV doc pm an ct cc u ur hl']
  refine wpAny_bind (wpAny_newTuple (wpAny_pure ?_) (Nat.le_trans hl' hz))
  have r2 : Vals [v, V.ref s.heap.objs.size] [u, Value.ref s.heap.objs.size] := .cons rv (.cons rfl .nil)
  have q := core_S (oc := oc) (od := od) (kV := kV) (doc := doc) (pm := pm) (an := an) (ct := ct) (osl := osl) S hcell hbody hr e2 rfl r2 hp
  have conv : ∀ (r : Result) (s' : Shared), CR CX outer P w (upd H s.heap.objs.size (.tup rest)) { s with heap := s.heap.push ({ cls := .type "tuple", data := .seq ur.toArray } : Obj) } Q E r s' → CR CX outer P w H s Q E r s' := fun r s' h => by
    cases r with
    | error e => exact hCX outer s H _ _ rest E e s' kp (Nat.le_refl _) hn h
    | ok fl =>
      cases fl with
      | ret u' =>
        obtain ⟨v', H', a, b, J, c, d⟩ := h
        exact ⟨v', H', a, b, un.trans J, c, d⟩
      | _ => exact h
  exact wpAny_mono q (fun env s₂ ⟨l, h⟩ => ⟨l, codeAny_mono h conv⟩) fun e s' h => conv (.error e) s' h
end
end Lst

/-! ## LWish -/
namespace Lst
open PySem PySem.Spec PyProof.Rows L2
/-! ### two rules -/
/-- o.m(), o an instance of one of several classes -/
def tMethF (K : PySem.W.Frag) (nms : List Str) (m : Str) (sp : Str → Sp) (E : XK) (ta : TE) : TE := fun σ H Q => ta σ H fun x H1 => ∃ a cn dx fs, x = .ref a ∧ H1 a = some (.ins (He.ga K cn) dx fs) ∧ cn ∈ nms ∧ fs.lookup m = none ∧ sp cn [x] H1 Q E
section
variable {X : Cx} {CX : CXT} {k : Nat} {nms : List Str} {spF : Str → Sp} {sp : Sp} {E : XK} {x m : Str} {p pos apos : Pos} {o e : Expr} {ta te : TE} {K : PySem.W.Frag}
theorem pe_methF0 {pl : Sem Bool} (hK : X.K = K) (he : PE X o ta) (F : ∀ cn ∈ nms, ∃ f, Cls X.K (He.ga K cn) ∧ Meth X.K (He.ga K cn) m f ∧ FnR X.prog X.w X.K X.mg X.base CX k f (spF cn)) (hr : Room k X.A) (hx : Passes CX X E)
    (ht : eval (.Call (.Attribute o m apos) [] [] pos) X.env = (do
      let ov ← eval o X.env
      standAt apos.atName
      let (f, first) ← holding [ov] (getMethod ov m pl)
      callWith pos f first (backTo pos (starEach [] X.env)) (backToKw pos (keywordEach [] X.env))) := by rfl) :
    PE X (.Call (.Attribute o m apos) [] [] pos) (tMethF K nms m spF E ta) := by
  refine ⟨fun pins s σ H Q I h => ?_⟩
  refine PySem.W.methodCall_KW (pl := pl) (thn (he.run pins s σ H _ I h) fun u s1 ⟨x, H1, I1, rx, a, cn, dx, fs, ex, ea, hC, l, q⟩ => ?_) ht
  subst ex
  obtain rfl : u = Value.ref a := rx
  obtain ⟨f, c, hm, Fn⟩ := F cn hC
  refine getmeth_ok I1 ea c hm l ?_
  exact PySem.W.callWith_K0 (first := [.ref a]) I1.kIn hm.kp (wpAny_call (run_fnR (us := [.ref a]) (vs := [.ref a]) Fn hr hx I1 (.cons rfl .nil) q))
theorem pe_makeS1 {C f : Addr} {sp_ : Pos} (M : Mk X.K C f) (F : FnR X.prog X.w X.K X.mg X.base CX k f sp) (hr : Room (k + 1) X.A) (hg : Gl X x) (hm : X.mg x = some (.ref C)) (hx : Passes CX X E) (he : PE X e te) (hd : (x == ("__debug__" : Str)) = false := by decide)
    (hst : starEach [.Starred e sp_] X.env = [(true, eval e X.env)] := by rfl) :
    PE X (.Call (.Name x p) [.Starred e sp_] [] pos) (StX.tMakeR C sp E (StX.tStar X.K te tNil)) := by
  refine ⟨fun pins s σ H Q I h => ?_⟩
  refine wpAny_Call_Name_kw (ld_glob I hg hm ?_ hd)
  refine PySem.W.callWith_S (h₀ := X.base) I.ok.mod.kin M.kp (thn (he.run pins s σ H _ I h) fun v s1 ⟨y, H1, I1, ry, a, xs, ey, hxs, q⟩ => ?_) hst
  subst ey
  obtain rfl : v = Value.ref a := ry
  have q : ∀ x dx, H1 x = none → H1 dx = none → dx ≠ x → sp (V.ref x :: xs) (upd (upd H1 dx (HO.own x)) x (HO.ins C dx [])) (fun v H2 => v = V.non ∧ Q (V.ref x) H2) E := by
    have z : xs ++ [] = xs := List.append_nil xs
    intro x dx h1 h2 h3
    have q2 := q x dx h1 h2 h3
    rw [z] at q2
    exact q2
  exact StX.star_any I1 hxs fun us s2 I2 rv => ⟨I2.kIn, StX.run_makeR M F hr hx I2 rv q⟩
end
/-! ### the facts of the wishes' classes -/
abbrev okW (K : PySem.W.Frag) : Addr → Prop := fun C => ∃ cn ∈ WC, C = He.ga K cn
/-- whose needed a class has -/
def ndOf (cn : Str) : Str := if cn = "Never" ∨ cn = "Blocks" then "Words" else if cn = "Behind" then "Behind" else "Wish"
def inOf (cn : Str) : Str := if cn = "Never" ∨ cn = "Blocks" then "Words" else cn
structure Txt2 (K : PySem.W.Frag) (P : Program) (mg : Str → Option Value) : Prop where
  sup : mg "super" = none
  tok : ∀ cn ∈ WC, Meth K (He.ga K cn) "tokens" (He.ma K (He.ga K "Wish") "tokens")
  nam : ∀ cn ∈ WC, Meth K (He.ga K cn) "names" (He.ma K (He.ga K "Wish") "names")
  nee : ∀ cn ∈ WC, Meth K (He.ga K cn) "needed" (He.ma K (He.ga K (ndOf cn)) "needed")
  mk2 : ∀ cn ∈ WC, Mk K (He.ga K cn) (He.ma K (He.ga K (inOf cn)) "__init__")
  fs : ∀ (i : Nat) (q : He.DefD × Str), fcs[i]? = some q → ∃ c, FunS K P q.1 (He.ga K q.2) (He.fAd K q.1.at_) c
  sm : ∀ cn ∈ WC, SupM K (He.ga K cn) (He.ga K (inOf cn)) "__init__" (He.ma K (He.ga K "Wish") "__init__")
  sn : SupM K (He.ga K "Behind") (He.ga K "Behind") "needed" (He.ma K (He.ga K "Wish") "needed")
  head : ∀ b : Bool, ∃ u, Con K (He.ga K (if b then "Never" else "Blocks")) "HEAD" (.str (hdS b)) u
/-! ### tokens, names -/
def sp_wtokens (K : PySem.W.Frag) : Sp := fun vs H Q _ => ∃ (v : V) (ts : List Str) (S : Hp), vs = [v] ∧ TokAt K S v ts ∧ ts.length ≤ 1000 ∧ Same S H ∧ ∀ (H' S' : Hp) (p : Addr), Gr H S H' S' → S' p = some (.lst (ts.map V.str)) → Q (.ref p) H'
def sp_wnames (K : PySem.W.Frag) : Sp := fun vs H Q _ => ∃ (v : V) (ts : List Str) (S : Hp), vs = [v] ∧ TokAt K S v ts ∧ ts.length ≤ 60 ∧ (∀ t ∈ ts, t.length ≤ 1000000) ∧ Same S H ∧
  ∀ (H' S' : Hp) (p : Addr), Gr H S H' S' → S' p = some (.lst ((sd (ts.filter nameOk)).map V.str)) → Q (.ref p) H'
abbrev owntok : Str := "own_tokens"
theorem Txt.nW {K : PySem.W.Frag} {mg : Str → Option Value} (T : Txt K mg) {cn : Str} (h : cn ∈ WC) (a : Str) (ha : a ∈ (["parts", "own_tokens", "words", "word", "name"] : List Str)) : NoAttr K (He.ga K cn) a := by
  refine T.no (cn, a) ?_
  have all : ∀ cn ∈ WC, ∀ a ∈ (["parts", "own_tokens", "words", "word", "name"] : List Str), (cn, a) ∈ aNames := by decide +kernel
  exact all cn h a ha
theorem Txt.cW {K : PySem.W.Frag} {mg : Str → Option Value} (T : Txt K mg) {cn : Str} (h : cn ∈ WC) : Cls K (He.ga K cn) := by
  refine T.cl cn ?_
  have all : ∀ cn ∈ WC, cn ∈ cNames := by decide +kernel
  exact all cn h
section
variable {P : Program} {w : World} {K : PySem.W.Frag} {mg : Str → Option Value} {base : Heap}
theorem ok_wtokens (T : Txt K mg) : OkM P w K mg base CX0 1 "Wish" "tokens" P_Wish_tokens (sp_wtokens K) := by
  refine (T.f_Wish_tokens).ok sc_Wish_tokens (fun vs H Q E h => ?_) (fun cdv A outer s H vs Q E hr h => ?_)
  · obtain ⟨v, ts, S, rfl, _⟩ := h
    rfl
  · obtain ⟨v, ts, S, rfl, ⟨a, cn, dx, fs, l, rfl, hcn, ha, hl, hl2, hm⟩, tl, hS, k⟩ := h
    refine ⟨_, PSs.nox (pss_one (ps_ret (pe_callTy (listK (K := K) rfl) (by rfl) T.f (by decide +kernel) (pa_cons (fldK (K := K) rfl (pv 0) rfl) pa_nil)))), ?_⟩
    walk_at "rs"
    walk_at "rd"
    refine ⟨a, _, dx, fs, _, rfl, hS _ _ ha, T.cW hcn, T.nW hcn _ (by decide +kernel), hl, l, _, rfl, .inl (sql (hS _ _ hl2)), fun p hp => ?_⟩
    generalize e1 : upd H p (HO.lst (ts.map V.str)) = H1
    exact k H1 _ p ((Gm.rfl' hS).ld e1 hp) upd_same
theorem ok_wnames (T : Txt K mg) (G_is_name : OkG P w K mg base CX0 2 "is_name" P_is_name sp_is_name) : OkM P w K mg base CX0 3 "Wish" "names" P_Wish_names (sp_wnames K) := by
  refine (T.f_Wish_names).ok sc_Wish_names (fun vs H Q E h => ?_) (fun cdv A outer s H vs Q E hr h => ?_)
  · obtain ⟨v, ts, S, rfl, _⟩ := h
    rfl
  · obtain ⟨v, ts, S, rfl, ⟨a, cn, dx, fs, l, rfl, hcn, ha, hl, hl2, hm⟩, tl, tz, hS, k⟩ := h
    refine ⟨_, PSs.nox (pss_one (ps_ret (pe_callB (sortSK (w := w) rfl rfl) (by rfl) T.f (by decide +kernel) (pa_cons (pe_callTy (setK (K := K) (w := w) rfl rfl rfl) (by rfl) T.f (by decide +kernel) (pa_cons (pe_lc (own := [("token", 1)]) (g := (gName 1)) rfl sc_Wish_names.nd (pi_listK (K := K) rfl (fldK (K := K) rfl (pv 0) rfl)) (by first | exact blkOk_by (N := N_Wish_names) (sc := defScope s_Wish_names) (by decide +kernel) | exact blkOk_by (N := N_Wish_names) (sc := { kind := .function, names := [], isGenerator := false, isCoroutine := false }) (by decide +kernel)) (fun _ _ _ _ _ => (pg_name (i := 1) sc_Wish_names.nd rfl (Or.inl rfl))) (fun _ _ _ _ _ => pts_one (pt_val (pe_call G_is_name (hr.mono (by first | decide | omega)) (by rfl) (T.g "is_name") (T.k "is_name") T.b_is_name .nil pass0 (pa_cons (pv 1) pa_nil)))) (fun _ _ _ _ _ => (pv 1))) pa_nil)) pa_nil)))), ?_⟩
    walk_at "rs"
    walk_at "rd"
    refine ⟨a, _, dx, fs, _, rfl, hS _ _ ha, T.cW hcn, T.nW hcn _ (by decide +kernel), hl, l, rfl, ⟨_, sql (hS _ _ hl2)⟩, fun D hD => ?_⟩
    refine lcg walk_list (fun i acc S => acc = ((ts.take i).filter nameOk).map V.str) noZ noM hD hS rfl trivial (fun _ _ _ _ => trivial) (fun i H9 S9 _ _ g _ _ => sql (g.sub _ _ (g.mono _ _ hl2))) ?_ ?_
    · rintro i x H2 H3 S2 acc hi g2 r _ e eS ⟨rfl, hx⟩
      rw [List.getElem?_map] at hx
      obtain ⟨z, hz, rfl⟩ := Option.map_eq_some_iff.mp hx
      have al : acc.length ≤ 60 := by
        rw [r, List.length_map]
        exact Nat.le_trans (List.length_filter_le _ _) (by rw [List.length_take]; omega)
      walk_at "rs"
      walk_at "rd"
      refine ⟨tz z (List.mem_of_getElem? hz), fun H4 s4 => ?_⟩
      have g4 : Gm noM H3 S2 H4 S2 := Gr.ofSame g2.sub s4
      walk_at "rd"
      cases c : nameOk z with
      | true =>
        walk_at "rd"
        refine LcP.add hD (fun z => z) (fun _ _ _ _ => trivial) g2 e eS g4 (szL (by omega)) ?_ trivial
        rw [r, take_snoc hz, List.filter_append, List.filter_cons, if_pos c, List.filter_nil, List.map_append]
        rfl
      | false =>
        walk_at "rd"
        refine LcP.skip (fun z => z) g2 e eS g4 ?_ trivial
        rw [r, take_snoc hz, List.filter_append, List.filter_cons, if_neg (by rw [c]; decide), List.filter_nil, List.append_nil]
    · rintro H2 S2 acc g2 r _ e eS
      rw [List.length_map, List.take_of_length_le (Nat.le_refl _)] at r
      have fl : (ts.filter nameOk).length ≤ 60 := Nat.le_trans (List.length_filter_le _ _) tl
      have g0 : Gr H S H S := Gm.rfl' hS
      have g3 := g0.trans g2
      refine ⟨D, ts.filter nameOk, rfl, .inl (sql (by rw [e, r])), by omega, fun p c hp hc => ?_⟩
      generalize e4 : upd H2 p (SetSO w p (ts.filter nameOk) c) = H4
      have g4 := g3.l0 e4 hp
      refine ⟨p, _, c, rfl, new_at e4, by omega, fun q hq => ?_⟩
      generalize e5 : upd H4 q (HO.lst ((sd (ts.filter nameOk)).map V.str)) = H5
      exact k H5 _ q (g4.ld e5 hq) upd_same
end
end Lst

/-! ## LWish2 -/
namespace Lst
open PySem PySem.Spec PyProof.Rows L2
def sp_Winit (K : PySem.W.Frag) : Sp := fun vs H Q _ => ∃ (a pt : Addr) (last cn : Str) (dx : Addr) (fs : List (Str × V)) (us : List V) (tss : List (List Str)) (S : Hp), vs = [.ref a, .ref pt, .str last] ∧ cn ∈ WC ∧ H a = some (.ins (He.ga K cn) dx fs) ∧ S a = none ∧
  (fs = [] ∨ ∃ v, fs = ([("words", v)] : List (Str × V))) ∧ S pt = some (.tup us) ∧ Paired (TokAt K S) us tss ∧ tss.flatten.length ≤ 50 ∧ Same S H ∧
  ∀ (H' S' : Hp) (l : Addr), Gm (one a) H S H' S' → H' a = some (.ins (He.ga K cn) dx (fs ++ fsW pt l)) → S' l = some (.lst ((tss.flatten ++ [last]).map V.str)) → Q .non H'
theorem pair_at2 {α β : Type} {F : α → β → Prop} : ∀ {us : List α} {ts : List β} {i : Nat} {x : α}, Paired F us ts → us[i]? = some x → ∃ t, ts[i]? = some t ∧ F x t
  | _, _, i, x, .nil, h => by simp at h
  | _, _, 0, x, .cons (b := b) r t, h => ⟨b, rfl, by rw [← Option.some.inj h]; exact r⟩
  | _, _, i + 1, x, .cons r t, h => pair_at2 (i := i) t h
section
variable {P : Program} {w : World} {K : PySem.W.Frag} {mg : Str → Option Value} {base : Heap}
theorem ok_Winit (T : Txt K mg) : OkM P w K mg base CX0 1 "Wish" "__init__" P_Wish_init (sp_Winit K) := by
  refine (T.f_Wish_init).ok sc_Wish_init (fun vs H Q E h => ?_) (fun cdv A outer s H vs Q E hr h => ?_)
  · obtain ⟨a, pt, last, cn, dx, fs, us, tss, S, rfl, _⟩ := h
    rfl
  · obtain ⟨a, pt, last, cn, dx, fs, us, tss, S, rfl, hcn, ha, nS, hfs, hpt, hp, hl, hS, k⟩ := h
    have fl : fs.length ≤ 1 := by
      rcases hfs with e | ⟨v, e⟩
      · rw [e]
        exact Nat.zero_le _
      · rw [e]
        exact Nat.le_refl 1
    refine ⟨_, PSs.nox (pss_cons (ps_fldK (K := K) rfl (pv 0) (pv 1) rfl)
        (pss_one (ps_fldK (K := K) rfl (pv 0) (pe_op op_cat (pe_lc2 (own := [("part", 3), ("token", 4)]) (vs1 := [4]) (tt := tYes) (tt1 := tYes) (g := gName 3) (g1 := gName 4) rfl sc_Wish_init.nd (pi_tupK (K := K) rfl (pv 1)) (blkOk_by (N := N_Wish_init) (sc := defScope s_Wish_init) (by decide +kernel)) (by decide) (fun _ _ _ _ _ => pg_name (i := 3) sc_Wish_init.nd rfl (Or.inl rfl)) (fun _ _ _ _ _ => pts_nil) (fun _ _ _ _ _ => pi_listK (K := K) rfl (fldK (K := K) rfl (pv 3) rfl)) (fun _ _ _ _ _ => pg_name (i := 4) sc_Wish_init.nd rfl (Or.inl rfl)) (fun _ _ _ _ _ => pts_nil) (fun _ _ _ _ _ => (pv 4))) (pe_lst (pa_cons (pv 2) pa_nil))) rfl))), ?_⟩
    walk_at "rs"
    walk_at "rd"
    refine ⟨a, _, dx, fs, rfl, ha, T.cW hcn, T.nW hcn _ (by decide +kernel), by omega, ?_⟩
    have e1 : putF "parts" (V.ref pt) fs = fs ++ ([("parts", .ref pt)] : List (Str × V)) := by
      rcases hfs with e | ⟨v, e⟩
      · rw [e]
        rfl
      · rw [e]
        rfl
    rw [show putF (Str.ofString "parts") (V.ref pt) fs = fs ++ ([("parts", .ref pt)] : List (Str × V)) from e1]
    generalize eH : upd H a (HO.ins (He.ga K cn) dx (fs ++ ([("parts", .ref pt)] : List (Str × V)))) = H1
    have g0 : Gm (one a) H S H S := Gm.rfl' hS
    have g1 := g0.put eH.symm rfl nS
    have ha1 := at_put eH.symm
    have hpt1 : H1 pt = some (.tup us) := g1.sub _ _ hpt
    have tl := hp.length
    dsimp only [tLc2]
    walk_at "ri"
    walk_at "rd"
    refine ⟨⟨us, sqt hpt1⟩, fun D hD => ?_⟩
    have nDa : a ≠ D := fun z => by rw [z, hD] at ha1; cases ha1
    have upS : ∀ o, Same S (upd H1 D o) := fun o b u e => by rw [upd_ne (ne_of_none (g1.sub _ _ e) hD)]; exact g1.sub _ _ e
    have sz : ∀ i, (tss.take i).flatten.length ≤ 50 := fun i => by
      refine Nat.le_trans ?_ hl
      have q : tss.flatten = (tss.take i).flatten ++ (tss.drop i).flatten := by rw [← List.flatten_append, List.take_append_drop]
      rw [q, List.length_append]
      exact Nat.le_add_right ..
    refine ⟨fun i m H => m = us.length - i ∧ i ≤ us.length ∧ H = upd H1 D (.lst (((tss.take i).flatten).map V.str)), ⟨us.length, by rw [Nat.sub_zero], Nat.zero_le _, rfl⟩, ?_⟩
    rintro i m H2 ⟨rfl, hi, rfl⟩
    by_cases hlt : i < us.length
    · refine .inr ⟨(walk_tup (K := K) (a := pt) (xs := us)).goes i _ hlt (sqt (upS _ _ _ hpt)), fun H => H = upd H1 D (.lst (((tss.take (i + 1)).flatten).map V.str)), fun H' e => ⟨us.length - (i + 1), by omega, rfl, hlt, e⟩, fun x H' y => ?_⟩
      obtain ⟨rfl, hx⟩ := (walk_tup (K := K) (a := pt) (xs := us)).yields i _ x H' hlt (sqt (upS _ _ _ hpt)) y
      obtain ⟨ts, hts, b, cn2, dx2, fs2, l2, rfl, hc2, hb, hlk, hl2, _⟩ := pair_at2 hp hx
      walk_at "rd"
      refine ⟨b, _, dx2, fs2, _, rfl, upS _ _ _ hb, T.cW hc2, T.nW hc2 _ (by decide +kernel), hlk, l2, rfl, ⟨_, sql (upS _ _ _ hl2)⟩, ?_⟩
      refine ⟨fun j k H => k = ts.length - j ∧ j ≤ ts.length ∧ H = upd H1 D (.lst (((tss.take i).flatten ++ ts.take j).map V.str)), ⟨ts.length, by rw [Nat.sub_zero], Nat.zero_le _, by rw [List.take_zero, List.append_nil]⟩, ?_⟩
      rintro j k2 H3 ⟨rfl, hj, rfl⟩
      have nx : (tss.take (i + 1)).flatten = (tss.take i).flatten ++ ts := by
        rw [take_snoc hts, List.flatten_append]
        exact congrArg _ (List.append_nil ts)
      by_cases hjl : j < ts.length
      · refine .inr ⟨(walk_list (K := K) (a := l2) (xs := ts.map V.str)).goes j _ (by rw [List.length_map]; exact hjl) (sql (upS _ _ _ hl2)), fun H => H = upd H1 D (.lst (((tss.take i).flatten ++ ts.take (j + 1)).map V.str)), fun H' e => ⟨ts.length - (j + 1), by omega, rfl, hjl, e⟩, fun x H' y => ?_⟩
        obtain ⟨rfl, hx2⟩ := (walk_list (K := K) (a := l2) (xs := ts.map V.str)).yields j _ x H' (by rw [List.length_map]; exact hjl) (sql (upS _ _ _ hl2)) y
        rw [List.getElem?_map] at hx2
        obtain ⟨z, hz, rfl⟩ := Option.map_eq_some_iff.mp hx2
        walk_at "rd"
        refine ⟨_, upd_same, szL (by
          rw [List.length_map, List.length_append, List.length_take]
          have q := sz (i + 1)
          rw [nx, List.length_append] at q
          omega), ?_⟩
        rw [take_snoc hz, ← List.append_assoc, List.map_append (l₂ := [z])]
        funext y
        by_cases e : y = D
        · rw [e, upd_same, upd_same]
          rfl
        · rw [upd_ne e, upd_ne e, upd_ne e]
      · refine .inl ⟨?_, ?_⟩
        · have e : j = (ts.map V.str).length := by rw [List.length_map]; omega
          rw [e]
          exact (walk_list (K := K) (a := l2) (xs := ts.map V.str)).stops _ (sql (upS _ _ _ hl2))
        · show upd H1 D _ = upd H1 D _
          rw [nx, show ts.take j = ts from List.take_of_length_le (by omega)]
    · refine .inl ⟨?_, ?_⟩
      · have e : i = us.length := by omega
        rw [e]
        exact (walk_tup (K := K) (a := pt) (xs := us)).stops _ (sqt (upS _ _ _ hpt))
      · rw [List.take_of_length_le (by omega)]
        generalize e2 : upd H1 D (HO.lst (tss.flatten.map V.str)) = H2
        have g2 := g1.l0 e2 hD
        walk_at "rd"
        refine ⟨by walk_at "sz", fun p hp1 => ?_⟩
        generalize e3 : upd H2 p (HO.lst [V.str last]) = H3
        have g3 := g2.l0 e3 hp1
        refine ⟨D, p, _, _, rfl, rfl, old_at e3 hp1 (new_at e2), new_at e3, szE (by rw [List.length_map]; show _ + 1 ≤ _; omega), fun q hq => ?_⟩
        generalize e4 : upd H3 q (HO.lst (tss.flatten.map V.str ++ [V.str last])) = H4
        have g4 := g3.ld e4 hq
        have ha4 : H4 a = _ := old_at e4 hq (old_at e3 hp1 (old_at e2 hD ha1))
        walk_at "rd"
        refine ⟨a, _, dx, _, rfl, ha4, T.cW hcn, T.nW hcn _ (by decide +kernel), by rw [List.length_append]; show _ + 1 < _; omega, ?_⟩
        have e5 : putF "own_tokens" (V.ref q) (fs ++ ([("parts", .ref pt)] : List (Str × V))) = fs ++ fsW pt q := by
          rcases hfs with e | ⟨v, e⟩
          · rw [e]
            rfl
          · rw [e]
            rfl
        rw [show putF (Str.ofString "own_tokens") (V.ref q) (fs ++ ([("parts", .ref pt)] : List (Str × V))) = fs ++ fsW pt q from e5]
        generalize e6 : upd H4 a (HO.ins (He.ga K cn) dx (fs ++ fsW pt q)) = H5
        have nq : (upd S q (HO.lst (tss.flatten.map V.str ++ [V.str last]))) a = none := by
          rw [upd_ne (fun z => by rw [z] at ha4; have := g3.free hq; rw [← z] at this; rw [this] at ha; cases ha)]
          exact nS
        have g5 := g4.put e6.symm rfl nq
        refine k H5 _ q g5 (at_put e6.symm) ?_
        rw [upd_same, List.map_append]
        rfl
end
end Lst

/-! ## LTok -/
namespace Lst
open PySem PySem.Spec PyProof.Rows L2
/-- sizes -/
def smT : Tr → Prop
  | .nm n => n.length ≤ 8
  | .lf _ ws => ws.length ≤ 4 ∧ ∀ x ∈ ws, x.length ≤ 6
  | .bh w t => w.length ≤ 6 ∧ smT t
  | .op _ l r => smT l ∧ smT r
/-- trees of depth below d -/
def sp_tokens (d : Nat) : Sp := fun vs H Q _ => ∃ (u : V) (t : Tr) (S : Hp), vs = [u] ∧ TreeAt S u t ∧ smT t ∧ depth t < d ∧ (toks t).length ≤ 100 ∧ Same S H ∧
  ∀ (H' S' : Hp) (p : Addr), Gr H S H' S' → S' p = some (.lst ((toks t).map V.str)) → Q (.ref p) H'
theorem join_len (s : Str) : ∀ xs : List Str, (Txt.join s xs).length ≤ (xs.map (·.length)).sum + xs.length * s.length := by
  intro xs
  rw [TL.join_eq, ← sg_len]
  have e : sg (Str.join s xs) = TL.joinL (sg s) (xs.map sg) := TL.tl_join s xs
  rw [e]
  clear e
  induction xs with
  | nil => exact Nat.zero_le _
  | cons x r ih =>
    cases r with
    | nil =>
      show (sg x).length ≤ x.length + 0 + 1 * s.length
      rw [sg_len]
      omega
    | cons y q =>
      show (sg x ++ (sg s ++ TL.joinL (sg s) ((y :: q).map sg))).length ≤ _
      have e1 : ((x :: y :: q).map (·.length)).sum = x.length + ((y :: q).map (·.length)).sum := rfl
      have e2 : (x :: y :: q).length * s.length = (y :: q).length * s.length + s.length := Nat.succ_mul _ _
      have e3 : TL.joinL (sg s) (sg y :: List.map sg q) = TL.joinL (sg s) ((y :: q).map sg) := rfl
      rw [List.length_append, List.length_append, sg_len, sg_len, e1, e2]
      omega
theorem sum_le_of {xs : List Str} {n : Nat} (h : ∀ x ∈ xs, x.length ≤ n) : (xs.map (·.length)).sum ≤ xs.length * n := by
  induction xs with
  | nil => exact Nat.zero_le _
  | cons x r ih =>
    have := ih fun y hy => h y (List.mem_cons_of_mem _ hy)
    have := h x (List.mem_cons_self ..)
    rw [List.map_cons, List.sum_cons, List.length_cons, Nat.succ_mul]
    omega
theorem rd_in {K : PySem.W.Frag} {H : Hp} {p : Addr} {z : Str} {zs : List Str} {Q : VK} (h : SqL K H p (zs.map V.str) ∨ SqT K H p (zs.map V.str)) (q : Q (.bl (decide (z ∈ zs))) H) : rIn K false (.str z) (.ref p) H Q := by
  refine ⟨p, _, rfl, h, rfl, flat_strs zs, ?_⟩
  rw [if_neg Bool.false_ne_true, inV_str]
  exact q
theorem rd_nin {K : PySem.W.Frag} {H : Hp} {p : Addr} {z : Str} {zs : List Str} {Q : VK} (h : SqL K H p (zs.map V.str) ∨ SqT K H p (zs.map V.str)) (q : Q (.bl (!decide (z ∈ zs))) H) : rIn K true (.str z) (.ref p) H Q := by
  refine ⟨p, _, rfl, h, rfl, flat_strs zs, ?_⟩
  rw [if_pos rfl, inV_str]
  exact q
section
variable {P : Program} {w : World} {K : PySem.W.Frag} {mg : Str → Option Value} {base : Heap}
theorem ok_tokens0 (T : Txt K mg) : OkG P w K mg base CX0 1 "_law_tokens" P_l_tokens (sp_tokens 0) :=
  (T.f_l_tokens).ok sc_l_tokens (fun vs H Q E ⟨_, _, _, _, _, _, h, _⟩ => absurd h (Nat.not_lt_zero _)) (fun cdv A outer s H vs Q E hr ⟨_, _, _, _, _, _, h, _⟩ => absurd h (Nat.not_lt_zero _))
theorem ok_tokensS (T : Txt K mg) (d : Nat) (G_l_tokens : OkG P w K mg base CX0 (d + 1) "_law_tokens" P_l_tokens (sp_tokens d)) : OkG P w K mg base CX0 (d + 2) "_law_tokens" P_l_tokens (sp_tokens (d + 1)) := by
  refine (T.f_l_tokens).ok sc_l_tokens (fun vs H Q E h => ?_) (fun cdv A outer s H vs Q E hr h => ?_)
  · obtain ⟨u, t, S, rfl, _⟩ := h
    rfl
  · obtain ⟨u, t, S, rfl, ht, sm, hd, hl, hS, k⟩ := h
    refine ⟨_, PSs.nox (pss_cons (ps_if (pt_cmpR op_eq (pe_ix (ix_listK (K := K) rfl) (pv 0) pe_int (fun _ _ => rfl)) pe_str (nomark _)) (pss_one (ps_ret (pe_lst (pa_cons (pe_ix (ix_listK (K := K) rfl) (pv 0) pe_int (fun _ _ => rfl)) pa_nil)))) pss_nil)
        (pss_cons (ps_if (pt_cmpR (inK (K := K) rfl) (pe_ix (ix_listK (K := K) rfl) (pv 0) pe_int (fun _ _ => rfl)) (pe_tup (pa_cons pe_str (pa_cons pe_str pa_nil))) (by rfl)) (pss_one (ps_ret (pe_lst (pa_cons (pe_op op_add_str (pe_op op_add_str (pe_ix (ix_listK (K := K) rfl) (pv 0) pe_int (fun _ _ => rfl)) pe_str) (joinK (K := K) rfl pe_str (pe_callB (sortSK (w := w) rfl rfl) (by rfl) T.f (by decide +kernel) (pa_cons (pe_callTy (setK (K := K) (w := w) rfl rfl rfl) (by rfl) T.f (by decide +kernel) (pa_cons (pe_ix (ix_listK (K := K) rfl) (pv 0) pe_int (fun _ _ => rfl)) pa_nil)) pa_nil)))) pa_nil)))) pss_nil)
        (pss_cons (ps_if (pt_cmpR op_eq (pe_ix (ix_listK (K := K) rfl) (pv 0) pe_int (fun _ _ => rfl)) pe_str (nomark _)) (pss_one (ps_ret (pe_op op_cat (pe_call G_l_tokens (hr.mono (by first | decide | omega)) (by rfl) (T.g "_law_tokens") (T.k "_law_tokens") T.b_l_tokens .nil pass0 (pa_cons (pe_ix (ix_listK (K := K) rfl) (pv 0) pe_int (fun _ _ => rfl)) pa_nil)) (pe_lst (pa_cons (pe_op op_add_str pe_str (pe_ix (ix_listK (K := K) rfl) (pv 0) pe_int (fun _ _ => rfl))) pa_nil))))) pss_nil)
        (pss_one (ps_ret (pe_op op_cat (pe_op op_cat (pe_call G_l_tokens (hr.mono (by first | decide | omega)) (by rfl) (T.g "_law_tokens") (T.k "_law_tokens") T.b_l_tokens .nil pass0 (pa_cons (pe_ix (ix_listK (K := K) rfl) (pv 0) pe_int (fun _ _ => rfl)) pa_nil)) (pe_call G_l_tokens (hr.mono (by first | decide | omega)) (by rfl) (T.g "_law_tokens") (T.k "_law_tokens") T.b_l_tokens .nil pass0 (pa_cons (pe_ix (ix_listK (K := K) rfl) (pv 0) pe_int (fun _ _ => rfl)) pa_nil))) (pe_lst (pa_cons (pe_ix (ix_listK (K := K) rfl) (pv 0) pe_int (fun _ _ => rfl)) pa_nil)))))))), ?_⟩
    walk_at "rs"
    have g0 : Gr H S H S := Gm.rfl' hS
    have fin : ∀ (H1 S1 : Hp) (ts : List Str) (p : Addr), Gr H S H1 S1 → ts = toks t → H1 p = none → Q (.ref p) (upd H1 p (.lst (ts.map V.str))) := fun H1 S1 ts p g e hp => by
      subst e
      exact k _ _ p (g.laid hp) upd_same
    cases t with
    | nm n =>
      obtain ⟨a, rfl, ha⟩ := ht
      walk_at "rd"
      refine rd_ix (hS _ _ ha) (at_0 ..) ?_
      walk_at "rd"
      refine rd_ix (hS _ _ ha) (by rfl) ?_
      refine ⟨by walk_at "sz", fun p hp => ?_⟩
      exact fin H S [n] p g0 rfl hp
    | lf b ws =>
      obtain ⟨a, l, rfl, ha, hw⟩ := ht
      walk_at "rd"
      refine rd_ix (hS _ _ ha) (at_0 ..) ?_
      have c1 : decide (V.str (hdS b) = V.str "name") = false := by cases b <;> decide +kernel
      walk_at "rd"
      rw [if_neg (by rw [c1]; decide)]
      walk_at "rd"
      refine rd_ix (hS _ _ ha) (at_0 ..) ?_
      refine ⟨by walk_at "sz", fun p hp => ?_⟩
      generalize e1 : upd H p (HO.tup [V.str (Str.ofString "never"), V.str (Str.ofString "blocks")]) = H1
      have g1 := g0.l0 e1 hp
      refine rd_in (zs := ["never", "blocks"]) (.inr (sqt (new_at e1))) ?_
      rw [show decide (hdS b ∈ (["never", "blocks"] : List Str)) = true by cases b <;> decide +kernel]
      walk_at "rd"
      refine rd_ix (g1.sub _ _ ha) (at_0 ..) ?_
      walk_at "rd"
      have hb6 : (hdS b).length ≤ 6 := by cases b <;> decide +kernel
      refine ⟨szE (by show _ + 1 ≤ _; omega), ⟨_, rfl⟩, ?_⟩
      walk_at "rd"
      refine rd_ix (g1.sub _ _ ha) (by rfl) ?_
      refine ⟨l, ws, rfl, .inl (sql (g1.sub _ _ hw)), by have := sm.1; omega, fun q c hq hc => ?_⟩
      generalize e2 : upd H1 q (SetSO w q ws c) = H2
      have g2 := g1.l0 e2 hq
      refine ⟨q, ws, c, rfl, new_at e2, by have := sm.1; omega, fun r hr => ?_⟩
      generalize e3 : upd H2 r (HO.lst ((sd ws).map V.str)) = H3
      have g3 := g2.l0 e3 hr
      have j1 : ((sd ws).map (·.length)).sum ≤ (sd ws).length * 6 := sum_le_of fun x hx => sm.2 x ((mem_sd ws).mp hx)
      have j2 := sd_len ws
      have j3 := sm.1
      have j4 := join_len "," (sd ws)
      have j5 : (sd ws).length * (Str.ofString ",").length = (sd ws).length := Nat.mul_one _
      refine ⟨",", r, sd ws, rfl, rfl, .inl (sql (new_at e3)), by omega, ?_⟩
      walk_at "rd"
      refine ⟨szE (by rw [len_app]; show _ + 1 + _ ≤ _; omega), by walk_at "sz", fun v hv => ?_⟩
      exact fin H3 S [leafTok b ws] v g3 rfl hv
    | bh y t =>
      obtain ⟨a, u, rfl, ha, hu⟩ := ht
      walk_at "rd"
      refine rd_ix (hS _ _ ha) (at_0 ..) ?_
      walk_at "rd"
      refine rd_ix (hS _ _ ha) (at_0 ..) ?_
      refine ⟨by walk_at "sz", fun p hp => ?_⟩
      generalize e1 : upd H p (HO.tup [V.str (Str.ofString "never"), V.str (Str.ofString "blocks")]) = H1
      have g1 := g0.l0 e1 hp
      refine rd_in (zs := ["never", "blocks"]) (.inr (sqt (new_at e1))) ?_
      rw [show decide (("behind" : Str) ∈ (["never", "blocks"] : List Str)) = false by decide +kernel]
      walk_at "rd"
      refine rd_ix (g1.sub _ _ ha) (at_0 ..) ?_
      walk_at "rd"
      refine rd_ix (g1.sub _ _ ha) (by rfl) ?_
      have hl2 : (toks t).length + 1 ≤ 100 := by
        rw [show toks (.bh y t) = toks t ++ [bhTok y] from rfl, List.length_append] at hl
        exact hl
      refine ⟨u, t, S, rfl, hu, sm.2, Nat.lt_of_succ_lt_succ hd, by omega, g1.sub, fun H2 S2 q g2 hq => ?_⟩
      have g3 := g1.trans g2
      walk_at "rd"
      refine rd_ix (g3.sub _ _ (g3.mono _ _ ha)) (by rfl) ?_
      walk_at "rd"
      refine ⟨szE (by have := sm.1; show 7 + _ ≤ _; omega), by walk_at "sz", fun r hr => ?_⟩
      generalize e4 : upd H2 r (HO.lst [V.str (Str.ofString "behind:" ++ y)]) = H3
      have g4 := g3.l0 e4 hr
      refine ⟨q, r, (toks t).map V.str, [V.str (bhTok y)], rfl, rfl, old_at e4 hr (g3.sub _ _ hq), new_at e4, szE (by rw [List.length_map]; exact Nat.le_trans hl2 (by decide)), fun v hv => ?_⟩
      have q := fin H3 S2 (toks t ++ [bhTok y]) v g4 rfl hv
      rw [List.map_append] at q
      exact q
    | op b l r =>
      obtain ⟨a, x, y, rfl, ha, hx, hy⟩ := ht
      have hl2 : (toks l).length + (toks r).length + 1 ≤ 100 := by
        rw [show toks (.op b l r) = toks l ++ toks r ++ [opS b] from rfl, List.length_append, List.length_append] at hl
        exact hl
      have hd2 : depth l < d ∧ depth r < d := by
        have : max (depth l) (depth r) + 1 < d + 1 := hd
        omega
      walk_at "rd"
      refine rd_ix (hS _ _ ha) (at_0 ..) ?_
      walk_at "rd"
      rw [if_neg (by rw [show decide (V.str (opS b) = V.str "name") = false by cases b <;> decide +kernel]; decide)]
      walk_at "rd"
      refine rd_ix (hS _ _ ha) (at_0 ..) ?_
      refine ⟨by walk_at "sz", fun p hp => ?_⟩
      generalize e1 : upd H p (HO.tup [V.str (Str.ofString "never"), V.str (Str.ofString "blocks")]) = H1
      have g1 := g0.l0 e1 hp
      refine rd_in (zs := ["never", "blocks"]) (.inr (sqt (new_at e1))) ?_
      rw [show decide (opS b ∈ (["never", "blocks"] : List Str)) = false by cases b <;> decide +kernel]
      walk_at "rd"
      refine rd_ix (g1.sub _ _ ha) (at_0 ..) ?_
      walk_at "rd"
      rw [if_neg (by rw [show decide (V.str (opS b) = V.str "behind") = false by cases b <;> decide +kernel]; decide)]
      walk_at "rd"
      refine rd_ix (g1.sub _ _ ha) (by rfl) ?_
      refine ⟨x, l, S, rfl, hx, sm.1, hd2.1, by omega, g1.sub, fun H2 S2 q1 g2 hq1 => ?_⟩
      have g3 := g1.trans g2
      walk_at "rd"
      refine rd_ix (g3.sub _ _ (g3.mono _ _ ha)) (by rfl) ?_
      refine ⟨y, r, S2, rfl, hy.mono g3.mono, sm.2, hd2.2, by omega, g3.sub, fun H4 S4 q2 g4 hq2 => ?_⟩
      have g5 := g3.trans g4
      refine ⟨q1, q2, _, _, rfl, rfl, g5.sub _ _ (g4.mono _ _ hq1), g5.sub _ _ hq2, szE (by rw [List.length_map, List.length_map]; exact Nat.le_trans (by omega : _ ≤ 100) (by decide)), fun v hv => ?_⟩
      generalize e5 : upd H4 v (HO.lst ((toks l).map V.str ++ (toks r).map V.str)) = H5
      have g6 := g5.l0 e5 hv
      walk_at "rd"
      refine rd_ix (g6.sub _ _ (g5.mono _ _ ha)) (at_0 ..) ?_
      refine ⟨by walk_at "sz", fun z hz => ?_⟩
      generalize e6 : upd H5 z (HO.lst [V.str (opS b)]) = H6
      have g7 := g6.l0 e6 hz
      refine ⟨v, z, _, _, rfl, rfl, old_at e6 hz (new_at e5), new_at e6, szE (by rw [List.length_append, List.length_map, List.length_map]; exact Nat.le_trans hl2 (by decide)), fun j hj => ?_⟩
      have q := fin H6 S4 (toks l ++ toks r ++ [opS b]) j g7 rfl hj
      rw [List.map_append, List.map_append] at q
      exact q
end
end Lst

/-! ## LTok2 -/
namespace Lst
open PySem PySem.Spec PyProof.Rows L2
/-- a name among the tokens -/
def isNm (z : Str) : Bool := !decide (58 ∈ sg z) && !decide (z ∈ (["both", "either"] : List Str))
def sp_uses (d : Nat) : Sp := fun vs H Q _ => ∃ (u : V) (t : Tr) (S : Hp), vs = [u] ∧ TreeAt S u t ∧ smT t ∧ trOk t ∧ depth t < d ∧ (toks t).length ≤ 100 ∧ Same S H ∧
  ∀ (H' S' : Hp) (p : Addr), Gr H S H' S' → S' p = some (.lst ((nms t).map V.str)) → Q (.ref p) H'
def sp_renamed (d : Nat) : Sp := fun vs H Q _ => ∃ (u : V) (t : Tr) (a b : Str) (S : Hp), vs = [u, .str a, .str b] ∧ TreeAt S u t ∧ depth t < d ∧ Same S H ∧
  ∀ (H' S' : Hp) (v : V), Gr H S H' S' → TreeAt S' v (ren a b t) → Q v H'
def sp_done : Sp := fun vs H Q _ => ∃ (m c : V) (M : Mo) (cm : Cmd) (S : Hp), vs = [m, c] ∧ ModelAt S m M ∧ CmdAt S c cm ∧ M.length ≤ 100 ∧ (∀ e ∈ M, depth e.2 ≤ 4) ∧ Same S H ∧
  ∀ (H' S' : Hp) (v : V), Gr H S H' S' → ModelAt S' v (step M cm) → Q v H'
def cmT : Cmd → Prop
  | .put n t => smT t ∧ depth t ≤ 4 ∧ (toks t).length ≤ 7
  | .chg n t => smT t ∧ depth t ≤ 4 ∧ (toks t).length ≤ 7
  | _ => True
def sp_astext : Sp := fun vs H Q _ => ∃ (c : V) (cm : Cmd) (S : Hp), vs = [c] ∧ CmdAt S c cm ∧ cmT cm ∧ Same S H ∧
  ∀ (H' S' : Hp) (p : Addr), Gr H S H' S' → S' p = some (.tup (cmdVs cm)) → Q (.ref p) H'
theorem let58 : 58 ∉ sg LET := by decide +kernel
theorem low_not {z : Str} (h : lowS z = true) : 58 ∉ sg z := fun m => let58 (of_decide_eq_true (List.all_eq_true.mp h 58 m))
theorem nameOk_low {z : Str} (h : nameOk z = true) : lowS z = true := by
  unfold nameOk isWordB at h
  exact (Bool.and_eq_true_iff.mp (Bool.and_eq_true_iff.mp h).1).2
theorem nameOk_len {z : Str} (h : nameOk z = true) : z.length ≤ 8 := by
  unfold nameOk isWordB at h
  have := of_decide_eq_true (Bool.and_eq_true_iff.mp (Bool.and_eq_true_iff.mp h).1).1
  omega
theorem nameOk_ne {z : Str} (h : nameOk z = true) : z ≠ "" ∧ z ≠ "both" ∧ z ≠ "either" := by
  unfold nameOk at h
  have q := (Bool.and_eq_true_iff.mp h).2
  have n : z ∉ (["", "both", "either"] : List Str) := fun m => by
    rw [decide_eq_true m] at q
    cases q
  exact ⟨fun e => n (by rw [e]; exact List.mem_cons_self ..), fun e => n (by rw [e]; exact List.mem_cons_of_mem _ (List.mem_cons_self ..)), fun e => n (by rw [e]; exact List.mem_cons_of_mem _ (List.mem_cons_of_mem _ (List.mem_cons_self ..)))⟩
theorem isNm_name {z : Str} (h : nameOk z = true) : isNm z = true := by
  obtain ⟨_, h2, h3⟩ := nameOk_ne h
  unfold isNm
  rw [decide_eq_false (low_not (nameOk_low h)), decide_eq_false fun m => by
    rcases List.mem_cons.mp m with e | e
    · exact h2 e
    · exact h3 (List.mem_singleton.mp e)]
  rfl
theorem isNm_58 {z : Str} (h : 58 ∈ sg z) : isNm z = false := by
  unfold isNm
  rw [decide_eq_true h]
  rfl
theorem leaf58 (b : Bool) (ws : List Str) : 58 ∈ sg (leafTok b ws) := by
  unfold leafTok
  rw [sg_app, sg_app]
  exact List.mem_append_left _ (List.mem_append_right _ (List.mem_singleton.mpr rfl))
theorem bh58 (w : Str) : 58 ∈ sg (bhTok w) := by
  unfold bhTok
  rw [sg_app]
  exact List.mem_append_left _ (by decide +kernel)
theorem filt_nms : ∀ t : Tr, trOk t → (toks t).filter isNm = nms t
  | .nm n, h => by
    show [n].filter isNm = [n]
    rw [List.filter_cons, isNm_name h]
    rfl
  | .lf b ws, h => by
    show [leafTok b ws].filter isNm = []
    rw [List.filter_cons, isNm_58 (leaf58 b ws)]
    rfl
  | .bh w t, h => by
    show (toks t ++ [bhTok w]).filter isNm = nms t
    rw [List.filter_append, filt_nms t h.2, List.filter_cons, isNm_58 (bh58 w)]
    exact List.append_nil _
  | .op b l r, h => by
    show (toks l ++ toks r ++ [opS b]).filter isNm = nms l ++ nms r
    rw [List.filter_append, List.filter_append, filt_nms l h.1, filt_nms r h.2, List.filter_cons, show isNm (opS b) = false by cases b <;> decide +kernel]
    exact List.append_nil _
theorem pair_at {α β : Type} {F : α → β → Prop} : ∀ {us : List α} {ts : List β} {i : Nat} {x : α}, Paired F us ts → us[i]? = some x → ∃ t, ts[i]? = some t ∧ F x t
  | _, _, i, x, .nil, h => by simp at h
  | _, _, 0, x, .cons (b := b) r t, h => ⟨b, rfl, by rw [← Option.some.inj h]; exact r⟩
  | _, _, i + 1, x, .cons r t, h => pair_at (i := i) t h
section
variable {P : Program} {w : World} {K : PySem.W.Frag} {mg : Str → Option Value} {base : Heap}
theorem ok_tokens (T : Txt K mg) : ∀ d, OkG P w K mg base CX0 (d + 1) "_law_tokens" P_l_tokens (sp_tokens d)
  | 0 => ok_tokens0 T
  | d + 1 => ok_tokensS T d (ok_tokens T d)
theorem ok_uses (T : Txt K mg) (d : Nat) (G_l_tokens : OkG P w K mg base CX0 (d + 1) "_law_tokens" P_l_tokens (sp_tokens d)) : OkG P w K mg base CX0 (d + 2) "_law_uses" P_l_uses (sp_uses d) := by
  refine (T.f_l_uses).ok sc_l_uses (fun vs H Q E h => ?_) (fun cdv A outer s H vs Q E hr h => ?_)
  · obtain ⟨u, t, S, rfl, _⟩ := h
    rfl
  · obtain ⟨u, t, S, rfl, ht, sm, ok, hd, hl, hS, k⟩ := h
    refine ⟨_, PSs.nox (pss_one (ps_ret (pe_lc (own := [("_law_token", 1)]) (g := (gName 1)) rfl sc_l_uses.nd (pi_listK (K := K) rfl (pe_call G_l_tokens (hr.mono (by first | decide | omega)) (by rfl) (T.g "_law_tokens") (T.k "_law_tokens") T.b_l_tokens .nil pass0 (pa_cons (pv 0) pa_nil))) (by first | exact blkOk_by (N := N_l_uses) (sc := defScope s_l_uses) (by decide +kernel) | exact blkOk_by (N := N_l_uses) (sc := { kind := .function, names := [], isGenerator := false, isCoroutine := false }) (by decide +kernel)) (fun _ _ _ _ _ => (pg_name (i := 1) sc_l_uses.nd rfl (Or.inl rfl))) (fun _ _ _ _ _ => pts_one (PW.pt (pw_and (pt_cmpR op_notIn_sign pe_str (pv 1) rfl) (pw_and1 (pt_cmpR (ninK (K := K) rfl) (pv 1) (pe_tup (pa_cons pe_str (pa_cons pe_str pa_nil))) (by rfl)))))) (fun _ _ _ _ _ => (pv 1))))), ?_⟩
    walk_at "rs"
    walk_at "ri"
    walk_at "rd"
    refine ⟨u, t, S, rfl, ht, sm, hd, hl, hS, fun H1 S1 p g1 hp => ?_⟩
    walk_at "rd"
    refine ⟨⟨_, sql (g1.sub _ _ hp)⟩, fun D hD => ?_⟩
    refine lcg walk_list (fun i acc S => acc = (((toks t).take i).filter isNm).map V.str) noZ noM hD g1.sub rfl trivial (fun _ _ _ _ => trivial) (fun i H9 S9 _ _ g _ _ => sql (g.sub _ _ (g.mono _ _ hp))) ?_ ?_
    · rintro i x H2 H3 S2 acc hi g2 r _ e eS ⟨rfl, hx⟩
      rw [List.getElem?_map] at hx
      obtain ⟨z, hz, rfl⟩ := Option.map_eq_some_iff.mp hx
      walk_at "rs"
      walk_at "rd"
      have rr : isNm z = (!decide (58 ∈ sg z) && !decide (z ∈ (["both", "either"] : List Str))) := rfl
      have rt : (toks t).take (i + 1) = (toks t).take i ++ [z] := take_snoc hz
      have al : acc.length ≤ 100 := by
        rw [r, List.length_map]
        exact Nat.le_trans (List.length_filter_le _ _) (by rw [List.length_take]; omega)
      change if (!decide (58 ∈ sg z)) = true then _ else _
      by_cases c : 58 ∈ sg z
      · rw [if_neg (by rw [decide_eq_true c]; decide)]
        refine LcP.skip (fun z => z) g2 e eS (Gm.rfl' g2.sub) ?_ trivial
        rw [r, rt, List.filter_append, List.filter_cons, isNm_58 c]
        exact congrArg _ (List.append_nil _).symm
      · rw [if_pos (by rw [decide_eq_false c]; decide)]
        walk_at "rd"
        refine ⟨by walk_at "sz", fun q hq => ?_⟩
        generalize e1 : upd H3 q (HO.tup [V.str (Str.ofString "both"), V.str (Str.ofString "either")]) = H4
        have g3 : Gm noM H3 S2 H4 S2 := (Gm.rfl' g2.sub).l0 e1 hq
        refine rd_nin (zs := ["both", "either"]) (.inr (sqt (new_at e1))) ?_
        walk_at "rd"
        by_cases c2 : z ∈ (["both", "either"] : List Str)
        · rw [if_neg (by rw [decide_eq_true c2]; decide)]
          refine LcP.skip (fun z => z) g2 e eS g3 ?_ trivial
          rw [r, rt, List.filter_append, List.filter_cons, rr, decide_eq_true c2, Bool.not_true, Bool.and_false]
          exact congrArg _ (List.append_nil _).symm
        · rw [if_pos (by rw [decide_eq_false c2]; decide)]
          walk_at "rd"
          refine LcP.add hD (fun z => z) (fun _ _ _ _ => trivial) g2 e eS g3 (szL (by omega)) ?_ trivial
          rw [r, rt, List.filter_append, List.filter_cons, rr, decide_eq_false c2, decide_eq_false c, List.map_append]
          rfl
    · rintro H2 S2 acc g2 r _ e eS
      rw [List.length_map, List.take_of_length_le (Nat.le_refl _), filt_nms t ok] at r
      have g3 := (g1.trans g2).freeze e (g1.free hD) eS
      exact k H2 _ D g3 (by rw [upd_same, r])
theorem ok_renamed0 (T : Txt K mg) : OkG P w K mg base CX0 1 "_law_renamed" P_l_renamed (sp_renamed 0) :=
  (T.f_l_renamed).ok sc_l_renamed (fun vs H Q E ⟨_, _, _, _, _, _, _, h, _⟩ => absurd h (Nat.not_lt_zero _)) (fun cdv A outer s H vs Q E hr ⟨_, _, _, _, _, _, _, h, _⟩ => absurd h (Nat.not_lt_zero _))
end
end Lst

/-! ## LWish3 -/
namespace Lst
open PySem PySem.Spec PyProof.Rows L2
/-! ### the inits that say super() -/
theorem FunS.binds {K : PySem.W.Frag} {P : Program} {d : He.DefD} {D f c : Addr} {ps : List Str} (F : FunS K P d D f c)
    (h : ∀ (kV doc pm : Value) (an : Option Addr) (ct : Value) (cc : Addr) (us : List Value), us.length = ps.length → bindArgs (PySem.W.ksFn d.name d.qual d.params d.body d.scope .none kV doc pm an (.ref c) ct cc) ⟨us, []⟩ = pure (ps.zip us)) : Binds K (fdA K f) ps [] := by
  obtain ⟨oc, od, kV, doc, pm, an, ct, osl, cc, lk, _, _⟩ := F.ex
  rw [fdA_of lk]
  exact Binds.all fun us hl => h kV doc pm an ct cc us hl
theorem FnOk.raw0 {P : Program} {w : World} {K : PySem.W.Frag} {mg : Str → Option Value} {base : Heap} {CX : CXT} {k : Nat} {f : Addr} {fd : FuncData} {ps : List Str} {sp : Sp} (F : FnOk P w K mg base CX k f fd ps sp) (hb : Binds K fd ps []) : FnR P w K mg base CX k f sp :=
  (F.raw hb .nil).imp fun vs H Q E h => by
    show sp (vs ++ []) H Q E
    rw [List.append_nil]
    exact h
abbrev M_Both_init : List Str := ["self", "one", "other", "__class__"]
abbrev M_Named_init : List Str := ["self", "name", "__class__"]
abbrev M_Behind_init : List Str := ["self", "word", "part", "__class__"]
theorem ms_Both : NdefX.NScope M_Both_init P_Both_init ["__class__"] d_Both_init.scope := NdefX.nscope_by (by decide +kernel)
theorem ms_Either : NdefX.NScope M_Both_init P_Either_init ["__class__"] d_Either_init.scope := NdefX.nscope_by (by decide +kernel)
theorem ms_Named : NdefX.NScope M_Named_init P_Named_init ["__class__"] d_Named_init.scope := NdefX.nscope_by (by decide +kernel)
theorem ms_Behind : NdefX.NScope M_Behind_init P_Behind_init ["__class__"] d_Behind_init.scope := NdefX.nscope_by (by decide +kernel)
def sp_opinit (K : PySem.W.Frag) (b : Bool) : Sp := fun vs H Q _ => ∃ (a dx : Addr) (u v : V) (ts tt : List Str) (S : Hp), vs = [.ref a, u, v] ∧ H a = some (.ins (He.ga K (if b then "Both" else "Either")) dx []) ∧ S a = none ∧ TokAt K S u ts ∧ TokAt K S v tt ∧ ts.length + tt.length ≤ 50 ∧ Same S H ∧
  ∀ (H' S' : Hp) (pt l : Addr), Gm (one a) H S H' S' → H' a = some (.ins (He.ga K (if b then "Both" else "Either")) dx (fsW pt l)) → S' pt = some (.tup [u, v]) → S' l = some (.lst ((ts ++ tt ++ [opS b]).map V.str)) → Q .non H'
theorem wordOk_len {z : Str} (h : wordOk z = true) : isWordB z 6 = true ∧ z.length ≤ 6 ∧ z ≠ "" ∧ lowS z = true := by
  unfold wordOk at h
  obtain ⟨h1, h2⟩ := Bool.and_eq_true_iff.mp h
  have h3 := h1
  unfold isWordB at h3
  obtain ⟨h4, h5⟩ := Bool.and_eq_true_iff.mp h3
  have := of_decide_eq_true h4
  refine ⟨h1, by omega, fun e => ?_, h5⟩
  rw [decide_eq_true e] at h2
  cases h2
section
variable {P : Program} {w : World} {K : PySem.W.Frag} {mg : Str → Option Value} {base : Heap}
theorem ok_both (T : Txt K mg) (T2 : Txt2 K P mg) (G : OkM P w K mg base CX0 1 "Wish" "__init__" P_Wish_init (sp_Winit K)) : OkM P w K mg base CX0 2 "Both" "__init__" P_Both_init (sp_opinit K true) := by
  obtain ⟨c, F⟩ := T2.fs 3 (d_Both_init, "Both") rfl
  refine fn_ofS (d := d_Both_init) F ms_Both (fun vs H Q E h => ?_) (fun cc A outer s H vs Q E hr h => ?_)
  · obtain ⟨a, dx, u, v, ts, tt, S, rfl, _⟩ := h
    rfl
  · obtain ⟨a, dx, u, v, ts, tt, S, rfl, ha, nS, hu, hv, hl, hS, k⟩ := h
    refine ⟨_, qss_one (qs_expr (qe_super (f := He.ma K (He.ga K "Both") "__init__") (cda := c) (D := He.ga K "Both") (f2 := He.ma K (He.ga K "Wish") "__init__") (ok := fun C => C = He.ga K "Both") (j := 3) (sp := sp_Winit K) (F.sup rfl rfl) (fun C h => by subst h; exact T2.sm "Both" (by decide +kernel)) T2.sup (FnOk.raw0 G T.b_Wish_init) hr pass0 (pa_cons (pe_tup (pa_cons (pv 1) (pa_cons (pv 2) pa_nil))) (pa_cons pe_str pa_nil)))), ?_⟩
    walk_at "rs"
    refine ⟨a, _, dx, [], rfl, rfl, ha, rfl, ?_⟩
    walk_at "rs"
    walk_at "rd"
    refine ⟨by walk_at "sz", fun p hp => ?_⟩
    generalize e1 : upd H p (HO.tup [u, v]) = H1
    have g0 : Gm (one a) H S H S := Gm.rfl' hS
    have g1 := g0.ld e1 hp
    have mo : Same S (upd S p (HO.tup [u, v])) := upd0_ (Same.refl _) (Same.free hS hp)
    have npa : a ≠ p := fun z => by rw [z, hp] at ha; cases ha
    have hp1 : (upd S p (HO.tup [u, v])) p = some (.tup [u, v]) := upd_same
    have nS1 : (upd S p (HO.tup [u, v])) a = none := by rw [upd_ne npa]; exact nS
    refine ⟨a, p, "both", "Both", dx, [], [u, v], [ts, tt], _, rfl, by decide +kernel, old_at e1 hp ha, nS1, .inl rfl, hp1, .cons (hu.mono mo) (.cons (hv.mono mo) .nil), by simp only [List.flatten_cons, List.flatten_nil, List.append_nil, List.length_append]; exact hl, g1.sub, fun H2 S2 l g2 ha2 hl2 => ?_⟩
    refine k H2 S2 p l (g1.trans g2) ha2 (g2.mono _ _ hp1) ?_
    rw [hl2]
    simp only [List.flatten_cons, List.flatten_nil, List.append_nil]
    rfl
theorem ok_either (T : Txt K mg) (T2 : Txt2 K P mg) (G : OkM P w K mg base CX0 1 "Wish" "__init__" P_Wish_init (sp_Winit K)) : OkM P w K mg base CX0 2 "Either" "__init__" P_Either_init (sp_opinit K false) := by
  obtain ⟨c, F⟩ := T2.fs 4 (d_Either_init, "Either") rfl
  refine fn_ofS (d := d_Either_init) F ms_Either (fun vs H Q E h => ?_) (fun cc A outer s H vs Q E hr h => ?_)
  · obtain ⟨a, dx, u, v, ts, tt, S, rfl, _⟩ := h
    rfl
  · obtain ⟨a, dx, u, v, ts, tt, S, rfl, ha, nS, hu, hv, hl, hS, k⟩ := h
    refine ⟨_, qss_one (qs_expr (qe_super (f := He.ma K (He.ga K "Either") "__init__") (cda := c) (D := He.ga K "Either") (f2 := He.ma K (He.ga K "Wish") "__init__") (ok := fun C => C = He.ga K "Either") (j := 3) (sp := sp_Winit K) (F.sup rfl rfl) (fun C h => by subst h; exact T2.sm "Either" (by decide +kernel)) T2.sup (FnOk.raw0 G T.b_Wish_init) hr pass0 (pa_cons (pe_tup (pa_cons (pv 1) (pa_cons (pv 2) pa_nil))) (pa_cons pe_str pa_nil)))), ?_⟩
    walk_at "rs"
    refine ⟨a, _, dx, [], rfl, rfl, ha, rfl, ?_⟩
    walk_at "rs"
    walk_at "rd"
    refine ⟨by walk_at "sz", fun p hp => ?_⟩
    generalize e1 : upd H p (HO.tup [u, v]) = H1
    have g0 : Gm (one a) H S H S := Gm.rfl' hS
    have g1 := g0.ld e1 hp
    have mo : Same S (upd S p (HO.tup [u, v])) := upd0_ (Same.refl _) (Same.free hS hp)
    have npa : a ≠ p := fun z => by rw [z, hp] at ha; cases ha
    have hp1 : (upd S p (HO.tup [u, v])) p = some (.tup [u, v]) := upd_same
    have nS1 : (upd S p (HO.tup [u, v])) a = none := by rw [upd_ne npa]; exact nS
    refine ⟨a, p, "either", "Either", dx, [], [u, v], [ts, tt], _, rfl, by decide +kernel, old_at e1 hp ha, nS1, .inl rfl, hp1, .cons (hu.mono mo) (.cons (hv.mono mo) .nil), by simp only [List.flatten_cons, List.flatten_nil, List.append_nil, List.length_append]; exact hl, g1.sub, fun H2 S2 l g2 ha2 hl2 => ?_⟩
    refine k H2 S2 p l (g1.trans g2) ha2 (g2.mono _ _ hp1) ?_
    rw [hl2]
    simp only [List.flatten_cons, List.flatten_nil, List.append_nil]
    rfl
def sp_nminit (K : PySem.W.Frag) : Sp := fun vs H Q _ => ∃ (a dx : Addr) (n : Str) (S : Hp), vs = [.ref a, .str n] ∧ H a = some (.ins (He.ga K "Named") dx []) ∧ S a = none ∧ nameOk n = true ∧ Same S H ∧
  ∀ (H' S' : Hp) (pt l : Addr), Gm (one a) H S H' S' → H' a = some (.ins (He.ga K "Named") dx (fsN pt l n)) → S' pt = some (.tup []) → S' l = some (.lst [.str n]) → Q .non H'
def sp_bhinit (K : PySem.W.Frag) : Sp := fun vs H Q _ => ∃ (a dx : Addr) (y : Str) (u : V) (ts : List Str) (S : Hp), vs = [.ref a, .str y, u] ∧ H a = some (.ins (He.ga K "Behind") dx []) ∧ S a = none ∧ wordOk y = true ∧ TokAt K S u ts ∧ ts.length ≤ 50 ∧ Same S H ∧
  ∀ (H' S' : Hp) (pt l : Addr), Gm (one a) H S H' S' → H' a = some (.ins (He.ga K "Behind") dx (fsB pt l y)) → S' pt = some (.tup [u]) → S' l = some (.lst ((ts ++ [bhTok y]).map V.str)) → Q .non H'
theorem ok_named (T : Txt K mg) (T2 : Txt2 K P mg) (G : OkM P w K mg base CX0 1 "Wish" "__init__" P_Wish_init (sp_Winit K)) (G_is_name : OkG P w K mg base CX0 2 "is_name" P_is_name sp_is_name) : OkM P w K mg base CX0 3 "Named" "__init__" P_Named_init (sp_nminit K) := by
  obtain ⟨c, F⟩ := T2.fs 5 (d_Named_init, "Named") rfl
  refine fn_ofS (d := d_Named_init) F ms_Named (fun vs H Q E h => ?_) (fun cc A outer s H vs Q E hr h => ?_)
  · obtain ⟨a, dx, n, S, rfl, _⟩ := h
    rfl
  · obtain ⟨a, dx, n, S, rfl, ha, nS, hn, hS, k⟩ := h
    refine ⟨_, qss_cons (qs_of (ps_if (pt_not (pt_val (pe_call G_is_name (hr.mono (by first | decide | omega)) (by rfl) (T.g "is_name") (T.k "is_name") T.b_is_name .nil pass0 (pa_cons (pv 1) pa_nil)))) (pss_one ps_never) pss_nil)) (qss_cons (qs_expr (qe_super (f := He.ma K (He.ga K "Named") "__init__") (cda := c) (D := He.ga K "Named") (f2 := He.ma K (He.ga K "Wish") "__init__") (ok := fun C => C = He.ga K "Named") (j := 2) (sp := sp_Winit K) (F.sup rfl rfl) (fun C h => by subst h; exact T2.sm "Named" (by decide +kernel)) T2.sup (FnOk.raw0 G T.b_Wish_init) (hr.mono (by decide)) pass0 (pa_cons (pe_tup pa_nil) (pa_cons (pv 1) pa_nil)))) (qss_one (qs_of (ps_fldK (K := K) rfl (pv 0) (pv 1) rfl)))), ?_⟩
    walk_at "rs"
    walk_at "rd"
    refine ⟨Nat.le_trans (nameOk_len hn) (by decide), fun H1 s1 => ?_⟩
    rw [hn]
    walk_at "rd"
    have g0 : Gm (one a) H S H S := Gm.rfl' hS
    have g1 := g0.tr (Gr.ofSame hS s1)
    have ha1 := s1 _ _ ha
    refine ⟨a, _, dx, [], rfl, rfl, ha1, rfl, ?_⟩
    walk_at "rs"
    refine ⟨by walk_at "sz", fun p hp => ?_⟩
    generalize e1 : upd H1 p (HO.tup []) = H2
    have g2 := g1.ld e1 hp
    have npa : a ≠ p := fun z => by rw [z, hp] at ha1; cases ha1
    have hp1 : (upd S p (HO.tup [])) p = some (.tup []) := upd_same
    have nS1 : (upd S p (HO.tup [])) a = none := by rw [upd_ne npa]; exact nS
    walk_at "rd"
    refine ⟨a, p, n, "Named", dx, [], [], [], _, rfl, by decide +kernel, old_at e1 hp ha1, nS1, .inl rfl, hp1, .nil, by decide, g2.sub, fun H3 S3 l g3 ha3 hl3 => ?_⟩
    have g4 := g2.trans g3
    walk_at "rd"
    refine ⟨a, _, dx, _, rfl, ha3, T.cW (by decide +kernel), T.nW (by decide +kernel) _ (by decide +kernel), (by show (2 : Nat) < 1000; decide), ?_⟩
    generalize e4 : upd H3 a _ = H4
    have nS3 : S3 a = none := g3.none_ nS1 (live_of (old_at e1 hp ha1))
    refine k H4 S3 p l (g4.put e4.symm rfl nS3) ?_ (g3.mono _ _ hp1) hl3
    rw [at_put e4.symm]
    rfl
theorem ok_behind (T : Txt K mg) (T2 : Txt2 K P mg) (G : OkM P w K mg base CX0 1 "Wish" "__init__" P_Wish_init (sp_Winit K)) (G_is_word : OkG P w K mg base CX0 1 "is_word" P_is_word sp_is_word) : OkM P w K mg base CX0 2 "Behind" "__init__" P_Behind_init (sp_bhinit K) := by
  obtain ⟨c, F⟩ := T2.fs 1 (d_Behind_init, "Behind") rfl
  obtain ⟨ds2, hd2, hb2⟩ := T.b_is_word2
  refine fn_ofS (d := d_Behind_init) F ms_Behind (fun vs H Q E h => ?_) (fun cc A outer s H vs Q E hr h => ?_)
  · obtain ⟨a, dx, y, u, ts, S, rfl, _⟩ := h
    rfl
  · obtain ⟨a, dx, y, u, ts, S, rfl, ha, nS, hy, hu, hl, hS, k⟩ := h
    refine ⟨_, qss_cons (qs_of (ps_if (PW.pt (pw_or (pt_not (pt_val (pe_call G_is_word (hr.mono (by first | decide | omega)) (by rfl) (T.g "is_word") (T.k "is_word") hb2 hd2 pass0 (pa_cons (pv 1) (pa_cons (pe_glob (v := .int 6) (by rfl) T.vLong.choose_spec ⟨_, rfl⟩) pa_nil))))) (pw_or1 (pt_cmpR op_eq (pv 1) pe_str (nomark _))))) (pss_one ps_never) pss_nil)) (qss_cons (qs_expr (qe_super (f := He.ma K (He.ga K "Behind") "__init__") (cda := c) (D := He.ga K "Behind") (f2 := He.ma K (He.ga K "Wish") "__init__") (ok := fun C => C = He.ga K "Behind") (j := 3) (sp := sp_Winit K) (F.sup rfl rfl) (fun C h => by subst h; exact T2.sm "Behind" (by decide +kernel)) T2.sup (FnOk.raw0 G T.b_Wish_init) hr pass0 (pa_cons (pe_tup (pa_cons (pv 2) pa_nil)) (pa_cons (pe_op op_add_str pe_str (pv 1)) pa_nil)))) (qss_one (qs_of (ps_fldK (K := K) rfl (pv 0) (pv 1) rfl)))), ?_⟩
    walk_at "rs"
    walk_at "rd"
    obtain ⟨y1, y2, y3, y4⟩ := wordOk_len hy
    refine ⟨Nat.le_trans y2 (by decide), fun H1 s1 => ?_⟩
    rw [y1]
    walk_at "rd"
    rw [if_neg (by rw [decide_eq_false (fun z => y3 (V.str.inj z))]; decide)]
    have g0 : Gm (one a) H S H S := Gm.rfl' hS
    have g1 := g0.tr (Gr.ofSame hS s1)
    have ha1 := s1 _ _ ha
    refine ⟨a, _, dx, [], rfl, rfl, ha1, rfl, ?_⟩
    walk_at "rs"
    walk_at "rd"
    refine ⟨by walk_at "sz", fun p hp => ?_⟩
    generalize e1 : upd H1 p (HO.tup [u]) = H2
    have g2 := g1.ld e1 hp
    have mo : Same S (upd S p (HO.tup [u])) := upd0_ (Same.refl _) (Same.free g1.sub hp)
    have npa : a ≠ p := fun z => by rw [z, hp] at ha1; cases ha1
    have hp1 : (upd S p (HO.tup [u])) p = some (.tup [u]) := upd_same
    have nS1 : (upd S p (HO.tup [u])) a = none := by rw [upd_ne npa]; exact nS
    walk_at "rd"
    refine ⟨szE (by show 7 + _ ≤ _; omega), ?_⟩
    refine ⟨a, p, bhTok y, "Behind", dx, [], [u], [ts], _, rfl, by decide +kernel, old_at e1 hp ha1, nS1, .inl rfl, hp1, .cons (hu.mono mo) .nil, by simp only [List.flatten_cons, List.flatten_nil, List.append_nil]; exact hl, g2.sub, fun H3 S3 l g3 ha3 hl3 => ?_⟩
    have g4 := g2.trans g3
    walk_at "rd"
    refine ⟨a, _, dx, _, rfl, ha3, T.cW (by decide +kernel), T.nW (by decide +kernel) _ (by decide +kernel), (by show (2 : Nat) < 1000; decide), ?_⟩
    generalize e4 : upd H3 a _ = H4
    have nS3 : S3 a = none := g3.none_ nS1 (live_of (old_at e1 hp ha1))
    refine k H4 S3 p l (g4.put e4.symm rfl nS3) ?_ (g3.mono _ _ hp1) ?_
    · rw [at_put e4.symm]
      rfl
    · rw [hl3]
      simp only [List.flatten_cons, List.flatten_nil, List.append_nil]
end
end Lst

/-! ## LWish4 -/
namespace Lst
open PySem PySem.Spec PyProof.Rows L2
abbrev M_Words_init : List Str := ["self", "words", "__class__", "word"]
theorem ms_Words : NdefX.NScope M_Words_init ["self", "words"] ["__class__"] d_Words_init.scope := NdefX.nscope_by (by decide +kernel)
def wcls (b : Bool) : Str := if b then "Never" else "Blocks"
theorem wcls_mem (b : Bool) : wcls b ∈ WC := by cases b <;> decide +kernel
def sp_wdinit (K : PySem.W.Frag) (b : Bool) : Sp := fun vs H Q _ => ∃ (a dx p : Addr) (ws : List Str) (S : Hp), vs = [.ref a, .ref p] ∧ H a = some (.ins (He.ga K (wcls b)) dx []) ∧ S a = none ∧ S p = some (.tup (ws.map V.str)) ∧ 1 ≤ ws.length ∧ ws.length ≤ 4 ∧ (∀ x ∈ ws, wordOk x = true) ∧ Same S H ∧
  ∀ (H' S' : Hp) (wt pt l : Addr), Gm (one a) H S H' S' → H' a = some (.ins (He.ga K (wcls b)) dx (fsV wt pt l)) → S' wt = some (.tup ((sd ws).map V.str)) → S' pt = some (.tup []) → S' l = some (.lst [.str (leafTok b ws)]) → Q .non H'
theorem QSs.nox {X : Cx} {body st : List Stmt} {t : TS} (h : QSs X.nox body st t) : QSs X body st t := ⟨fun pins s σ H D I hw =>
  ks_wpAt_mono (h.run pins s σ H D (I.wish _) hw) (fun _ _ q => q.unwish) fun _ _ z => False.elim z⟩
theorem conK {X : Cx} {K : PySem.W.Frag} {e : Expr} {f : Str} {pos : Pos} {ta : TE} (h : X.K = K) (he : PE X e ta) (hb : attributeBase e f X.env (eval e X.env) = eval e X.env := by rfl) : PE X (.Attribute e f pos) (tCon K ta f) := h ▸ pe_con he hb
section
variable {P : Program} {w : World} {K : PySem.W.Frag} {mg : Str → Option Value} {base : Heap}
theorem ok_wdinit (T : Txt K mg) (T2 : Txt2 K P mg) (b : Bool) (G : OkM P w K mg base CX0 1 "Wish" "__init__" P_Wish_init (sp_Winit K)) (G_is_word : OkG P w K mg base CX0 1 "is_word" P_is_word sp_is_word) :
    FnR P w K mg base CX0 2 (He.ma K (He.ga K "Words") "__init__") (fun vs H Q E => ∃ v rest, vs = v :: rest ∧ rest.length ≤ 1000 ∧ ∀ p, H p = none → sp_wdinit K b [v, .ref p] (upd H p (.tup rest)) Q E) := by
  obtain ⟨c, F⟩ := T2.fs 0 (d_Words_init, "Words") rfl
  obtain ⟨ds2, hd2, hb2⟩ := T.b_is_word2
  refine fn_ofSV (d := d_Words_init) F ms_Words (fun vs H Q E h => ?_) (by decide) (fun kV doc pm an ct cc u rest hl => ?_) (fun _ _ _ _ _ _ _ _ _ _ _ _ z => z) (fun cc A outer s H vs Q E hr h => ?_)
  · obtain ⟨a, dx, p, ws, S, rfl, _⟩ := h
    rfl
  · cases rest with
    | nil => rfl
    | cons x r => rfl
  · obtain ⟨a, dx, p, ws, S, rfl, ha, nS, hp, l1, l4, hw, hS, k⟩ := h
    refine ⟨_, QSs.nox (qss_cons (qs_of (ps_for PassesOwn.never rfl (pi_tupK (K := K) rfl (pv 1)) (pg_name (i := 3) ms_Words.nd rfl (Or.inl rfl)) (pss_one (ps_if (PW.pt (pw_or (pt_not (pt_val (pe_call G_is_word (hr.mono (by first | decide | omega)) (by rfl) (T.g "is_word") (T.k "is_word") hb2 hd2 pass0 (pa_cons (pv 3) (pa_cons (pe_glob (v := .int 6) (by rfl) T.vLong.choose_spec ⟨_, rfl⟩) pa_nil))))) (pw_or1 (pt_cmpR op_eq (pv 3) pe_str (nomark _))))) (pss_one ps_never) pss_nil))))
      (qss_cons (qs_of (ps_if (pt_not (pt_chain op_le op_le pe_int (pe_callB (lenK (K := K) rfl) (by rfl) T.f (by decide +kernel) (pa_cons (pv 1) pa_nil)) (pe_glob (v := .int 4) (by rfl) T.vWords.choose_spec ⟨_, rfl⟩))) (pss_one ps_never) pss_nil)) (qss_cons (qs_of (ps_fldK (K := K) rfl (pv 0) (pe_callTy (tupK (K := K) rfl) (by rfl) T.f (by decide +kernel) (pa_cons (pe_callB (sortSK (w := w) rfl rfl) (by rfl) T.f (by decide +kernel) (pa_cons (pe_callTy (setK (K := K) (w := w) rfl rfl rfl) (by rfl) T.f (by decide +kernel) (pa_cons (pv 1) pa_nil)) pa_nil)) pa_nil)) rfl)) (qss_one (qs_expr (qe_super (f := He.ma K (He.ga K "Words") "__init__") (cda := c) (D := He.ga K "Words") (f2 := He.ma K (He.ga K "Wish") "__init__") (ok := fun C => C = He.ga K (wcls b)) (j := 2) (sp := sp_Winit K) (F.sup rfl rfl) (fun C h => by subst h; cases b <;> exact T2.sm _ (by decide +kernel)) T2.sup (FnOk.raw0 G T.b_Wish_init) hr pass0
        (pa_cons (pe_tup pa_nil) (pa_cons (pe_op op_add_str (pe_op op_add_str (conK (K := K) rfl (pv 0)) pe_str) (joinK (K := K) rfl pe_str (fldK (K := K) rfl (pv 0) rfl))) pa_nil)))))))), ?_⟩
    walk_at "rs"
    walk_at "rd"
    have hpH := hS _ _ hp
    refine ⟨⟨_, sqt hpH⟩, ?_⟩
    refine for_it (walk_tup (xs := ws.map V.str)) (fun i σ H' => ∃ x, σ = [some (.ref a), some (.ref p), some (V.ref (He.ga K "Words")), x] ∧ Same H H') ⟨none, rfl, Same.refl H⟩ (fun i σ H' _ ⟨x, _, s1⟩ => sqt (s1 _ _ hpH)) ?_ ?_
    · rintro i y σ H1 H2 hi ⟨x, rfl, s1⟩ ⟨rfl, hx⟩
      rw [List.getElem?_map] at hx
      obtain ⟨z, hz, rfl⟩ := Option.map_eq_some_iff.mp hx
      obtain ⟨z1, z2, z3, z4⟩ := wordOk_len (hw z (List.mem_of_getElem? hz))
      walk_at "rs"
      walk_at "rd"
      refine ⟨Nat.le_trans z2 (by decide), fun H3 s3 => ?_⟩
      rw [z1]
      walk_at "rd"
      rw [if_neg (by rw [decide_eq_false (fun e => z3 (V.str.inj e))]; decide)]
      exact ⟨_, rfl, s1.trans s3⟩
    · rintro σ H1 ⟨x, rfl, s1⟩
      have g0 : Gm (one a) H S H S := Gm.rfl' hS
      have g1 := g0.tr (Gr.ofSame hS s1)
      have ha1 := s1 _ _ ha
      have hp1 := s1 _ _ hpH
      walk_at "rs"
      walk_at "rd"
      refine ⟨p, _, rfl, .inr (sqt hp1), ?_⟩
      walk_at "rd"
      rw [if_pos (decide_eq_true (by rw [List.length_map]; omega))]
      walk_at "rd"
      rw [if_neg (by rw [decide_eq_true (show ((ws.map V.str).length : Int) ≤ 4 by rw [List.length_map]; omega)]; decide)]
      walk_at "rd"
      refine ⟨p, ws, rfl, .inr (sqt hp1), by omega, fun q c hq hc => ?_⟩
      generalize e2 : upd H1 q (SetSO w q ws c) = H2
      have g2 := g1.l0 e2 hq
      refine ⟨q, ws, c, rfl, new_at e2, by omega, fun r hr => ?_⟩
      generalize e3 : upd H2 r (HO.lst ((sd ws).map V.str)) = H3
      have g3 := g2.l0 e3 hr
      refine ⟨r, _, rfl, .inl ⟨sql (new_at e3), fun wt hwt => ?_⟩⟩
      generalize e4 : upd H3 wt (HO.tup ((sd ws).map V.str)) = H4
      have g4 := g3.ld e4 hwt
      have ha4 := old_at e4 hwt (old_at e3 hr (old_at e2 hq ha1))
      have hcn := wcls_mem b
      walk_at "rd"
      refine ⟨a, _, dx, [], rfl, ha4, T.cW hcn, T.nW hcn _ (by decide +kernel), by decide, ?_⟩
      have naw : a ≠ wt := fun z => by
        have := g3.free hwt
        rw [← z, ha] at this
        cases this
      have nS4 : (upd S wt (HO.tup ((sd ws).map V.str))) a = none := by rw [upd_ne naw]; exact nS
      have hw4 : (upd S wt (HO.tup ((sd ws).map V.str))) wt = some (.tup ((sd ws).map V.str)) := upd_same
      generalize e5 : upd H4 a (HO.ins (He.ga K (wcls b)) dx (putF (Str.ofString "words") (V.ref wt) [])) = H5
      have g5 := g4.put e5.symm rfl nS4
      have ha5 : H5 a = some (.ins (He.ga K (wcls b)) dx ([("words", .ref wt)] : List (Str × V))) := at_put e5.symm
      generalize upd S wt (HO.tup ((sd ws).map V.str)) = S4 at g4 g5 nS4 hw4
      clear e5 e4 e3 e2
      refine ⟨a, _, dx, _, rfl, rfl, ha5, rfl, ?_⟩
      walk_at "rs"
      refine ⟨by walk_at "sz", fun pt hpt => ?_⟩
      generalize e6 : upd H5 pt (HO.tup []) = H6
      have g6 := g5.ld e6 hpt
      have hpt6 : (upd S4 pt (HO.tup [])) pt = some (.tup []) := upd_same
      have nS6 : (upd S4 pt (HO.tup [])) a = none := by
        rw [upd_ne (fun z => by rw [z, hpt] at ha5; cases ha5)]
        exact nS4
      have hw6 : (upd S4 pt (HO.tup [])) wt = some (.tup ((sd ws).map V.str)) := upd0_ (Same.refl _) (Same.free g5.sub hpt) _ _ hw4
      have ha6 := old_at e6 hpt ha5
      generalize upd S4 pt (HO.tup []) = S6 at g6 hpt6 nS6 hw6
      walk_at "rd"
      obtain ⟨u, hu⟩ := T2.head b
      have con : Con K (He.ga K (wcls b)) "HEAD" (.str (hdS b)) u := hu
      refine ⟨a, _, dx, _, _, u, rfl, ha6, T.cW hcn, con, rfl, ?_⟩
      walk_at "rd"
      have hb6 : (hdS b).length ≤ 6 := by cases b <;> decide +kernel
      refine ⟨szE (by show _ + 1 ≤ _; omega), ?_⟩
      walk_at "rd"
      refine ⟨⟨_, rfl⟩, ?_⟩
      walk_at "rd"
      refine ⟨a, _, dx, _, _, rfl, ha6, T.cW hcn, T.nW hcn _ (by decide +kernel), rfl, ?_⟩
      have j1 : ((sd ws).map (·.length)).sum ≤ (sd ws).length * 6 := sum_le_of fun x hx => (wordOk_len (hw x ((mem_sd ws).mp hx))).2.1
      have j2 := sd_len ws
      have j4 := join_len "," (sd ws)
      have j5 : (sd ws).length * (Str.ofString ",").length = (sd ws).length := Nat.mul_one _
      refine ⟨",", wt, sd ws, rfl, rfl, .inr (sqt (g6.sub _ _ hw6)), by omega, ?_⟩
      walk_at "rd"
      refine ⟨szE (by rw [len_app]; show _ + 1 + _ ≤ _; omega), ?_⟩
      refine ⟨a, pt, leafTok b ws, wcls b, dx, _, [], [], S6, rfl, hcn, ha6, nS6, .inr ⟨_, rfl⟩, hpt6, .nil, by decide, g6.sub, fun H7 S7 l g7 ha7 hl7 => ?_⟩
      exact k H7 S7 wt pt l (g6.trans g7) ha7 (g7.mono _ _ hw6) (g7.mono _ _ hpt6) hl7
end
end Lst

/-! ## LWish5 -/
namespace Lst
open PySem PySem.Spec PyProof.Rows L2
def cname : Tr → Str
  | .nm _ => "Named"
  | .lf b _ => wcls b
  | .bh _ _ => "Behind"
  | .op b _ _ => if b then "Both" else "Either"
/-- a wish of the class cn, of depth below d: its letters are among the tree's -/
def sp_needed (K : PySem.W.Frag) (d : Nat) (cn : Str) : Sp := fun vs H Q _ => ∃ (v : V) (t : Tr) (S : Hp), vs = [v] ∧ WishAt K S v t ∧ cn = cname t ∧ smT t ∧ depth t < d ∧ Same S H ∧
  ∀ (H' : Hp) (z : Str), Same H H' → (∀ c ∈ sg z, c ∈ lets t) → z.length ≤ 26 → Q (.str z) H'
/-- what Wish.needed gathers -/
def letsP : Tr → List Nat
  | .nm _ => []
  | .lf _ _ => []
  | .bh _ t => lets t
  | .op _ l r => lets l ++ lets r
def sp_wneeded (K : PySem.W.Frag) (d : Nat) : Sp := fun vs H Q _ => ∃ (v : V) (t : Tr) (S : Hp), vs = [v] ∧ WishAt K S v t ∧ (∀ b ws, t ≠ .lf b ws) ∧ smT t ∧ depth t < d + 1 ∧ Same S H ∧
  ∀ (H' : Hp) (z : Str), Same H H' → (∀ c ∈ sg z, c ∈ letsP t) → z.length ≤ 26 → Q (.str z) H'
/-- the letters of LETTERS that stand in found -/
def pickL (found : Str) : List Str := ((sg LET).filter fun c => decide (c ∈ sg found)).map s1
theorem pick_lc {H1 S : Hp} {σ : L2.St} {i : Nat} {found : Str} {vs : List Nat} {Q : VK} {tj : TE} (hS : Same S H1) (hi : ∀ x, ((wipe σ vs).set i x)[i]? = some x) (hj : ∀ x H2 Q, Gr H1 S H2 S → Q (.str found) H2 → tj ((wipe σ vs).set i x) H2 Q) (hw : ∀ x, wipe ((wipe σ vs).set i x) vs = wipe σ vs)
    (q : ∀ D H2, Gr H1 S H2 S → H2 D = some (.lst ((pickL found).map V.str)) → Q (.ref D) H2) {D : Addr} (hD : H1 D = none) :
    LcG (Its LET) (gName i) (tTest (tOp (fun x y H Q => ∃ c z, x = V.str ⟨#[c]⟩ ∧ y = V.str z ∧ Q (V.bl (decide (c ∈ z.cps.toList))) H) (tVar i) tj)) (tVar i) vs σ H1 D Q := by
  refine lcg walk_str (fun i acc S' => S' = S ∧ acc = ((((sg LET).take i).filter fun c => decide (c ∈ sg found)).map s1).map V.str) noZ noM hD hS ⟨rfl, rfl⟩ trivial (fun _ _ _ _ => trivial) (fun _ _ _ _ _ _ _ _ => trivial) ?_ ?_
  · rintro n x H2 H3 S2 acc hn g2 ⟨rfl, r⟩ _ e eS ⟨rfl, ch, hc, rfl⟩
    have hc2 : (sg LET)[n]? = some ch := by rw [← hc]; exact Array.getElem?_toList
    have al : acc.length ≤ 26 := by
      rw [r, List.length_map, List.length_map]
      refine Nat.le_trans (List.length_filter_le _ _) ?_
      rw [List.length_take]
      exact Nat.le_trans (Nat.min_le_right ..) (by decide +kernel)
    refine ⟨hw _, ?_⟩
    walk_at "rs"
    refine ⟨_, hi _, hj _ _ _ g2 ⟨ch, found, rfl, rfl, _, rfl, ?_⟩⟩
    change if decide (ch ∈ sg found) = true then _ else _
    have st : (sg LET).take (n + 1) = (sg LET).take n ++ [ch] := take_snoc hc2
    by_cases c : ch ∈ sg found
    · rw [if_pos (decide_eq_true c)]
      refine ⟨_, hi _, ?_⟩
      refine LcP.add hD (fun z => z) (fun _ _ _ _ => trivial) g2 e eS (Gm.rfl' g2.sub) (szL (by omega)) ⟨rfl, ?_⟩ trivial
      rw [r, st, List.filter_append, List.filter_cons, if_pos (decide_eq_true c), List.filter_nil, List.map_append, List.map_append]
      rfl
    · rw [if_neg (by rw [decide_eq_false c]; decide)]
      refine LcP.skip (fun z => z) g2 e eS (Gm.rfl' g2.sub) ⟨rfl, ?_⟩ trivial
      rw [r, st, List.filter_append, List.filter_cons, if_neg (by rw [decide_eq_false c]; decide), List.filter_nil, List.append_nil]
  · rintro H2 S2 acc g2 ⟨rfl, r⟩ _ e eS
    refine q D H2 g2 ?_
    rw [e, r, List.take_of_length_le (show (sg LET).length ≤ LET.cps.size from Nat.le_of_eq (sg_len LET))]
    rfl
theorem pick_join {K : PySem.W.Frag} {H : Hp} {D : Addr} {found : Str} {Q : VK} (h : H D = some (.lst ((pickL found).map V.str))) (q : ∀ z : Str, (∀ c ∈ sg z, c ∈ sg found) → z.length ≤ 26 → Q (.str z) H) : rJoinK K (.str "") [.ref D] H Q := by
  have l1 : (pickL found).length ≤ 26 := by
    unfold pickL
    rw [List.length_map]
    exact Nat.le_trans (List.length_filter_le _ _) (by decide +kernel)
  have e1 : ((pickL found).map (·.length)).sum = (pickL found).length := by
    unfold pickL
    rw [sum_ones, List.length_map]
  have ej : sg (Txt.join "" (pickL found)) = (sg LET).filter fun c => decide (c ∈ sg found) := join_ones _
  refine ⟨"", D, pickL found, rfl, rfl, .inl (sql h), by rw [e1]; show _ + _ * 0 ≤ _; omega, q _ (fun c hc => ?_) ?_⟩
  · rw [ej] at hc
    exact of_decide_eq_true (List.mem_filter.mp hc).2
  · rw [← sg_len, ej]
    exact Nat.le_trans (List.length_filter_le _ _) (by decide +kernel)
theorem WishAt.parts {K : PySem.W.Frag} {S : Hp} {v : V} : ∀ {t : Tr}, WishAt K S v t → (∀ b ws, t ≠ .lf b ws) → smT t → ∃ a dx fs pt us ts, v = .ref a ∧ S a = some (.ins (He.ga K (cname t)) dx fs) ∧ cname t ∈ WC ∧ fs.lookup ("parts" : Str) = some (.ref pt) ∧ S pt = some (.tup us) ∧ Paired (WishAt K S) us ts ∧ letsP t = ts.flatMap lets ∧ (∀ s ∈ ts, smT s ∧ depth s < depth t) ∧ ts.length ≤ 2
  | .nm n, ⟨a, dx, pt, l, e, h1, h2, h3⟩, _, _ => ⟨a, dx, _, pt, [], [], e, h1, by show ("Named" : Str) ∈ WC; decide +kernel, rfl, h2, .nil, rfl, (fun _ z => nomatch z), Nat.zero_le _⟩
  | .lf b ws, _, h, _ => absurd rfl (h b ws)
  | .bh w t, ⟨a, dx, pt, l, u, e, h1, h2, h3, h4⟩, _, sm => ⟨a, dx, _, pt, [u], [t], e, h1, by show ("Behind" : Str) ∈ WC; decide +kernel, rfl, h2, .cons h4 .nil, (List.append_nil _).symm, (fun s hs => by rw [List.mem_singleton.mp hs]; exact ⟨sm.2, Nat.lt_succ_self _⟩), Nat.le_succ 1⟩
  | .op b x y, ⟨a, dx, pt, l, u, u', e, h1, h2, h3, h4, h5⟩, _, sm => ⟨a, dx, _, pt, [u, u'], [x, y], e, h1, by cases b <;> (first | (show ("Both" : Str) ∈ WC; decide +kernel) | (show ("Either" : Str) ∈ WC; decide +kernel)), rfl, h2, .cons h4 (.cons h5 .nil), (congrArg _ (List.append_nil _)).symm, (fun s hs => by
      rcases List.mem_cons.mp hs with q | q
      · rw [q]
        exact ⟨sm.1, Nat.lt_succ_of_le (Nat.le_max_left ..)⟩
      · rw [List.mem_singleton.mp q]
        exact ⟨sm.2, Nat.lt_succ_of_le (Nat.le_max_right ..)⟩), Nat.le_refl 2⟩
theorem WishAt.needF {K : PySem.W.Frag} {S : Hp} {v : V} : ∀ {t : Tr}, WishAt K S v t → ∃ a dx fs, v = .ref a ∧ S a = some (.ins (He.ga K (cname t)) dx fs) ∧ cname t ∈ WC ∧ fs.lookup ("needed" : Str) = none
  | .nm n, ⟨a, dx, pt, l, e, h1, _⟩ => ⟨a, dx, _, e, h1, by show ("Named" : Str) ∈ WC; decide +kernel, by rfl⟩
  | .lf b ws, ⟨a, dx, wt, pt, l, e, h1, _⟩ => ⟨a, dx, _, e, h1, wcls_mem b, by rfl⟩
  | .bh w t, ⟨a, dx, pt, l, u, e, h1, _⟩ => ⟨a, dx, _, e, h1, by show ("Behind" : Str) ∈ WC; decide +kernel, by rfl⟩
  | .op b x y, ⟨a, dx, pt, l, u, u', e, h1, _⟩ => ⟨a, dx, _, e, h1, by cases b <;> (first | (show ("Both" : Str) ∈ WC; decide +kernel) | (show ("Either" : Str) ∈ WC; decide +kernel)), by rfl⟩
section
variable {P : Program} {w : World} {K : PySem.W.Frag} {mg : Str → Option Value} {base : Heap}
theorem ok_wneeded (T : Txt K mg) (d k : Nat) (GF : ∀ cn ∈ WC, ∃ f, Cls K (He.ga K cn) ∧ Meth K (He.ga K cn) "needed" f ∧ FnR P w K mg base CX0 k f (sp_needed K d cn)) : OkM P w K mg base CX0 (k + 1) "Wish" "needed" P_Wish_needed (sp_wneeded K d) := by
  refine (T.f_Wish_needed).ok sc_Wish_needed (fun vs H Q E h => ?_) (fun cdv A outer s H vs Q E hr h => ?_)
  · obtain ⟨v, t, S, rfl, _⟩ := h
    rfl
  · obtain ⟨v, t, S, rfl, ht, nl, sm, hd, hS, k⟩ := h
    refine ⟨_, PSs.nox (pss_cons (ps_set (i := 1) sc_Wish_needed.nd rfl (Or.inr rfl) (joinK (K := K) rfl pe_str (pe_lc (own := [("part", 2)]) (g := (gName 2)) (tt := tYes) rfl sc_Wish_needed.nd (pi_tupK (K := K) rfl (fldK (K := K) rfl (pv 0) rfl)) (by first | exact blkOk_by (N := N_Wish_needed) (sc := defScope s_Wish_needed) (by decide +kernel) | exact blkOk_by (N := N_Wish_needed) (sc := { kind := .function, names := [], isGenerator := false, isCoroutine := false }) (by decide +kernel)) (fun _ _ _ _ _ => (pg_name (i := 2) sc_Wish_needed.nd rfl (Or.inl rfl))) (fun _ _ _ _ _ => pts_nil) (fun _ _ _ _ _ => (pe_methF0 (K := K) (nms := WC) (spF := sp_needed K d) rfl (pv 2) GF (hr.mono (by first | decide | omega)) pass0)))))
        (pss_one (ps_ret (joinK (K := K) rfl pe_str (pe_lc (own := [("letter", 3)]) (g := (gName 3)) rfl sc_Wish_needed.nd (pi_str (pe_glob (v := .str LET) (by rfl) T.vLETTERS.choose_spec ⟨_, rfl⟩)) (by first | exact blkOk_by (N := N_Wish_needed) (sc := defScope s_Wish_needed) (by decide +kernel) | exact blkOk_by (N := N_Wish_needed) (sc := { kind := .function, names := [], isGenerator := false, isCoroutine := false }) (by decide +kernel)) (fun _ _ _ _ _ => (pg_name (i := 3) sc_Wish_needed.nd rfl (Or.inl rfl))) (fun _ _ _ _ _ => pts_one (pt_cmpR op_in_sign (pv 3) (pv 1) rfl)) (fun _ _ _ _ _ => (pv 3))))))), ?_⟩
    walk_at "rs"
    walk_at "rd"
    refine ⟨⟨_, rfl⟩, ?_⟩
    obtain ⟨a, dx, fs, pt, us, ts, rfl, ha, hcn, hpt, hpt2, hp, el, ht2, tl⟩ := ht.parts nl sm
    have tl2 := hp.length
    walk_at "rd"
    refine ⟨a, _, dx, fs, _, rfl, hS _ _ ha, T.cW hcn, T.nW hcn _ (by decide +kernel), hpt, pt, rfl, ⟨_, sqt (hS _ _ hpt2)⟩, fun D hD => ?_⟩
    refine lcg walk_tup (fun i acc S => ∃ zs : List Str, acc = zs.map V.str ∧ zs.length = i ∧ ∀ z ∈ zs, (∀ c ∈ sg z, c ∈ letsP t) ∧ z.length ≤ 26) noZ noM hD hS ⟨[], rfl, rfl, fun _ z => nomatch z⟩ trivial (fun _ _ _ _ => trivial) (fun i H9 S9 _ _ g _ _ => sqt (g.sub _ _ (g.mono _ _ hpt2))) ?_ ?_
    · rintro i x H2 H3 S2 acc hi g2 ⟨zs, ea, ez, hz⟩ _ e eS ⟨rfl, hx⟩
      obtain ⟨t1, ht1, hw⟩ := pair_at2 hp hx
      have hw2 := hw.mono g2.mono
      obtain ⟨b, dx1, fs1, rfl, hb, hcn1, hlk⟩ := hw2.needF
      obtain ⟨sm1, hd1⟩ := ht2 t1 (List.mem_of_getElem? ht1)
      walk_at "rs"
      walk_at "rd"
      refine ⟨b, cname t1, dx1, fs1, rfl, g2.sub _ _ hb, hcn1, hlk, V.ref b, t1, S2, rfl, hw2, rfl, sm1, by omega, g2.sub, fun H4 z s4 z1 z2 => ?_⟩
      refine LcP.add hD (fun z => z) (fun _ _ _ _ => trivial) g2 e eS (Gr.ofSame g2.sub s4) (szL (by rw [ea, List.length_map, ez]; omega)) ⟨zs ++ [z], by rw [ea, List.map_append]; rfl, by rw [List.length_append, ez]; rfl, fun y hy => ?_⟩ trivial
      rcases List.mem_append.mp hy with q | q
      · exact hz y q
      · rw [List.mem_singleton.mp q]
        refine ⟨fun c hc => ?_, z2⟩
        rw [el]
        exact List.mem_flatMap.mpr ⟨t1, List.mem_of_getElem? ht1, z1 c hc⟩
    · rintro H2 S2 acc g2 ⟨zs, ea, ez, hz⟩ _ e eS
      have j1 : (zs.map (·.length)).sum ≤ zs.length * 26 := sum_le_of fun x hx => (hz x hx).2
      refine ⟨"", D, zs, rfl, rfl, .inl (sql (by rw [e, ea])), by show _ + _ * 0 ≤ _; omega, ?_⟩
      have ef : ∀ c ∈ sg (Txt.join "" zs), c ∈ letsP t := fun c hc => by
        rw [tl_join0] at hc
        obtain ⟨z, hz1, hz2⟩ := List.mem_flatMap.mp hc
        exact (hz z hz1).1 c hz2
      generalize Txt.join "" zs = found at ef
      refine ⟨⟨_, rfl⟩, ?_⟩
      walk_at "rd"
      intro D2 hD2
      refine pick_lc (found := found) g2.sub (fun x => rfl) (fun x H Q g q => ⟨_, rfl, q⟩) (fun x => rfl) (fun D3 H3 g3 h3 => ?_) hD2
      exact pick_join h3 fun z z1 z2 => k H3 z (g2.same.trans g3.same) (fun c hc => ef c (z1 c hc)) z2
end
end Lst

/-! ## LSup3 -/
namespace Lst
open PySem PySem.Spec PyProof.Rows L2
/-! ### a def that says super() and has one captured local y -/
structure NScope2 (N ps : List Str) (y : Str) (sc : Scope) : Prop where
  kind : sc.kind = .function
  co : sc.isCoroutine = false
  gen : sc.isGenerator = false
  nd : N.Nodup
  pre : N.take (ps.length + 1) = ps ++ [("__class__" : Str)]
  par : ∀ x ∈ ps, sc.names.lookup x = some .local
  cell : ∀ z ∈ sc.names, z.2 = .cell → z.1 = y
  free : ∀ z ∈ sc.names, z.2 = .free → z.1 = "__class__"
  frk : sc.names.lookup ("__class__" : Str) = some .free
  cl : ∀ n cc, cellsFrom n sc.names [(("__class__" : Str), cc)] = [(y, n), ("__class__", cc)]
  ny : y ≠ "__class__"
def ncx2 (CX : CXT) (P : Program) (w : World) (K : PySem.W.Frag) (mg : Str → Option Value) (base : Heap) (N : List Str) (d : He.DefD) (y : Str) (cc c f : Addr) (A : Around) (outer : List Env) (s : Shared) (H : Hp) (E : XK) : Cx :=
  let env := PySem.W.envX d.qual d.scope s.heap.objs.size f (.ref c) [(y, s.heap.objs.size + 1), ("__class__", cc)]
  { prog := P, w := w, K := K, mg := mg, base := base, A := A.deeper env, N := N, s_0 := s, H_0 := H, env := env, outer := outer, stack := env :: outer, ex := [], calm := true, fn := fun x => decide (x = y), pn := []
    xe := fun e s' => wpAny (model P w) (A.deeper env) (leaving env e) (fun _ s'' => CX outer H s E e s'') (fun e' s'' => CX outer H s E e' s'') s' }
section
variable {M : Model} {A : Around} {E : Value → Shared → Prop} {s : Shared}
theorem newEnv_both {scope : Scope} {globals : Addr} {closure cells : List (Str × Addr)} {binds : List (Str × Value)} {qual : Str} {func : Option Addr} {code : Value} {builtins : Addr} {Q : Env → Shared → Prop}
    (hl : ∀ x ∈ binds, scope.names.lookup x.1 = some .local) (hk : scope.kind = .function) (hc : cellsFrom (s.heap.objs.size + 1) scope.names closure = cells)
    (hQ : ∀ h' tk, h'.Ns s.heap.objs.size (fun x => binds.reverse.lookup x) → (∀ b o, s.heap.get? b = some o → h'.get? b = some o) → (∀ b o, (pushCells (s.heap.push { cls := .type "frame", data := .dict #[] }) scope.names).get? b = some o → b ≠ s.heap.objs.size → h'.get? b = some o) →
      Q (newEnv scope s.heap.objs.size globals cells qual func code none builtins) { s with heap := h', toks := tk }) :
    wpAny M A (newFunctionEnv scope globals closure binds qual func code none builtins) Q E s := by
  simp only [newFunctionEnv, Option.isSome_none, Bool.false_eq_true, if_false]
  refine wpAny_bind (wpAny_alloc ?_)
  refine wpAny_bind (wpAny_layCells _ (fun name kind cells => by cases hkc : kind == NameKind.cell <;> simp [hkc]) _ _ _ _ ?_)
  rw [show ({ s with heap := s.heap.push { cls := .type "frame", data := .dict #[] } } : Shared).heap.objs.size = s.heap.objs.size + 1 from Heap.size_push .., hc]
  have ns0 : (pushCells (s.heap.push { cls := .type "frame", data := .dict #[] }) scope.names).Ns s.heap.objs.size (fun _ => none) := (Heap.Ns.new s.heap (.type "frame")).keeps (pushCells_keeps _ _)
  refine wpAny_bind ?_
  refine wpAny_forIn_list _
    (fun rest _ s' => ∃ done h', binds = done ++ rest ∧ s' = { s with heap := h', toks := s.toks + done.length } ∧
      h'.Ns s.heap.objs.size (fun x => done.reverse.lookup x) ∧ Heap.SameBut s.heap.objs.size (pushCells (s.heap.push { cls := .type "frame", data := .dict #[] }) scope.names) h') _ ?_ ?_ binds _
    ⟨[], _, rfl, rfl, ns0, Heap.SameBut.refl ..⟩
  · rintro ⟨name, v⟩ rest _ s' ⟨done, h', hb, rfl, hns, hsb⟩
    have hk' : Env.kindOf (newEnv scope s.heap.objs.size globals cells qual func code none builtins) name = some .local := hl (name, v) (by rw [hb]; simp)
    have hp : ((newEnv scope s.heap.objs.size globals cells qual func code none builtins).scope.kind == .class || ((newEnv scope s.heap.objs.size globals cells qual func code none builtins).scope.kind == .module &&
        (newEnv scope s.heap.objs.size globals cells qual func code none builtins).locals != (newEnv scope s.heap.objs.size globals cells qual func code none builtins).globals)) = false := by
      show (scope.kind == .class || (scope.kind == .module && _)) = false
      rw [hk]
      rfl
    show wpAny _ _ (do storeName (newEnv scope s.heap.objs.size globals cells qual func code none builtins) name v; pure (ForInStep.yield PUnit.unit)) _ _ _
    rw [storeName_local hk' hp]
    refine wpAny_bind (wpAny_nsSet hns fun h'' hns' hsb' => wpAny_pure ⟨done ++ [(name, v)], h'', by simp [hb], ?_, ?_, hsb.trans hsb'⟩)
    · simp [Nat.add_assoc]
    · rw [lookup_reverse_snoc]
      exact hns'
  · rintro _ s' ⟨done, h', hb, rfl, hns, hsb⟩
    rw [List.append_nil] at hb
    subst hb
    refine wpAny_pure (hQ h' _ hns (fun b o e => ?_) fun b o e hb => (hsb.2 b hb).trans e)
    have ne : b ≠ s.heap.objs.size := Nat.ne_of_lt (Heap.lt_size e)
    exact (hsb.2 b ne).trans (pushCells_keeps _ _ b o (Heap.get?_push_of_some _ e))
end
section
variable {CX : CXT} {P : Program} {w : World} {K : PySem.W.Frag} {mg : Str → Option Value} {base : Heap} {N ps : List Str} {y : Str} {d : He.DefD} {D f c cc : Addr} {k : Nat} {sp : Sp} {A : Around} {outer : List Env} {s : Shared} {H : Hp} {E : XK} {us : List Value} {vs : List V}
theorem inv_start2 {h₁ : Heap} {tk : Nat} (S : NScope2 N ps y d.scope) (hd : A.handled = none) (e0 : Env0 P w K mg base A outer s H) (hl : vs.length = ps.length) (r : Vals vs us) (hcell : cellTo K cc D = true) (hns : h₁.Ns s.heap.objs.size fun y => (ps.zip us).reverse.lookup y)
    (kp : ∀ b o, s.heap.get? b = some o → h₁.get? b = some o) (hy : h₁.IsCell (s.heap.objs.size + 1) none) : Inv (ncx2 CX P w K mg base N d y cc c f A outer s H E) [] (NdefX.startF N vs [some (.ref D)]) H { s with heap := h₁, toks := tk } := by
  have C := cells_one e0 hcell
  have hccl : ([(("__class__" : Str), cc)] : List (Str × Addr)).lookup ("__class__" : Str) = some cc := rfl
  obtain ⟨c1, v1, c2⟩ := C.all _ _ hccl
  have ccl : cc < s.heap.objs.size := c2.lt
  have hpl : ps.length + 1 ≤ N.length := by
    have q := congrArg List.length S.pre
    rw [List.length_take, List.length_append] at q
    have : (["__class__"] : List Str).length = 1 := rfl
    omega
  have noA : ∀ b : Addr, b ∉ (ncx2 CX P w K mg base N d y cc c f A outer s H E).ex := fun b z => absurd (show b ∈ ([] : List Addr) from z) (by simp)
  have cellK : ∀ {c : Addr} {v : Option Value}, s.heap.IsCell c v → h₁.IsCell c v := fun {c v} ⟨o, ho, hd⟩ => ⟨o, kp _ _ ho, hd⟩
  have lk : ∀ (x : Str) (a : Addr), List.lookup x [(y, s.heap.objs.size + 1), (("__class__" : Str), cc)] = some a → (x = y ∧ a = s.heap.objs.size + 1) ∨ (x = "__class__" ∧ a = cc) := fun x a h => by
    by_cases q : x = y
    · subst q
      have z : List.lookup x [(x, s.heap.objs.size + 1), (("__class__" : Str), cc)] = some (s.heap.objs.size + 1) := by simp [List.lookup]
      rw [z] at h
      exact .inl ⟨rfl, (Option.some.inj h).symm⟩
    · have q1 : (x == y) = false := by simpa using q
      by_cases q3 : x = "__class__"
      · subst q3
        have z : List.lookup ("__class__" : Str) [(y, s.heap.objs.size + 1), (("__class__" : Str), cc)] = some cc := by simp [List.lookup, q1]
        rw [z] at h
        exact .inr ⟨rfl, (Option.some.inj h).symm⟩
      · have q2 : (x == ("__class__" : Str)) = false := by simpa using q3
        have z : List.lookup x [(y, s.heap.objs.size + 1), (("__class__" : Str), cc)] = none := by simp [List.lookup, q1, q2]
        rw [z] at h
        cases h
  have lky : List.lookup y [(y, s.heap.objs.size + 1), (("__class__" : Str), cc)] = some (s.heap.objs.size + 1) := by simp [List.lookup]
  have lkc : List.lookup ("__class__" : Str) [(y, s.heap.objs.size + 1), (("__class__" : Str), cc)] = some cc := by
    have q1 : (("__class__" : Str) == y) = false := by simpa using fun z : ("__class__" : Str) = y => S.ny z.symm
    simp [List.lookup, q1]
  refine ⟨⟨e0.mod, S.kind, rfl, rfl, Nat.le_refl _, fun x z a h1 h2 => ?_, fun x hx => ?_, fun x a hf h => ?_, fun _ => hd, Around.frames_deeper e0.frames, .inr ⟨rfl, rfl⟩, fun b z => absurd z (noA b), e0.bs, e0.bsz, fun b _ _ => noA b,
      fun b z => absurd z (noA b), e0.funs, e0.frf⟩,
    rfl, e0.bare, Un.kept kp, ⟨_, hns, fun i x v e1 e2 e3 => ?_⟩, fun x a e => ?_, e0.hok.fresh (Nat.le_refl _), fun x a e => ?_, fun q hq => absurd (show q ∈ ([] : List (Addr × Obj)) ++ [] from hq) (by simp), e0.hok.kept kp, ?_⟩
  · rcases lk x a h1 with ⟨a1, a2⟩ | ⟨a1, a2⟩ <;> rcases lk z a h2 with ⟨b1, b2⟩ | ⟨b1, b2⟩
    · rw [a1, b1]
    · exact absurd ccl (by rw [← a2.symm.trans b2]; exact Nat.not_lt.mpr (Nat.le_succ _))
    · exact absurd ccl (by rw [a2.symm.trans b2]; exact Nat.not_lt.mpr (Nat.le_succ _))
    · rw [a1, b1]
  · have hx : d.scope.names.lookup x = some .cell ∨ d.scope.names.lookup x = some .free := hx
    rcases hx with hx | hx
    · have e := S.cell _ (PySem.mem_of_lookup hx) rfl
      have e : x = y := e
      subst e
      exact ⟨_, lky⟩
    · have e := S.free _ (PySem.mem_of_lookup hx) rfl
      have e : x = "__class__" := e
      subst e
      exact ⟨_, lkc⟩
  · have hf : decide (x = y) = true := hf
    rcases lk x a h with ⟨a1, a2⟩ | ⟨a1, a2⟩
    · rw [a2]
      exact Nat.le_succ _
    · have := of_decide_eq_true hf
      exact absurd (this.symm.trans a1) S.ny
  · have e1 : N[i]? = some x := e1
    unfold NdefX.startF at e2
    have h1l : ([some (V.ref D)] : List (Option V)).length = 1 := rfl
    by_cases h1 : i < ps.length
    · have hq : (ps ++ [("__class__" : Str)])[i]? = some x := by
        rw [← S.pre, List.getElem?_take_of_lt (by omega)]
        exact e1
      rw [List.getElem?_append_left h1] at hq
      rw [List.getElem?_append_left (by rw [List.length_map]; omega), List.getElem?_map] at e2
      have ha : vs[i]? = some v := by
        cases e : vs[i]? with
        | none => rw [e] at e2; cases e2
        | some a => rw [e] at e2; cases e2; rfl
      obtain ⟨u, hu, rv⟩ := r.get ha
      have ndP : ps.Nodup := by
        have q := S.nd.sublist (List.take_sublist (ps.length + 1) N)
        rw [S.pre] at q
        exact (List.nodup_append.mp q).1
      exact ⟨u, rv, .inl ⟨S.par x (List.mem_of_getElem? hq), NdefX.zip_look ndP hq hu⟩⟩
    · rw [List.getElem?_append_right (by rw [List.length_map]; omega), List.length_map] at e2
      by_cases h2 : i < ps.length + 1
      · have hi : i = ps.length := by omega
        have hq : (ps ++ [("__class__" : Str)])[i]? = some x := by
          rw [← S.pre, List.getElem?_take_of_lt (by omega)]
          exact e1
        rw [hi, List.getElem?_append_right (Nat.le_refl _), Nat.sub_self] at hq
        obtain rfl : ("__class__" : Str) = x := Option.some.inj hq
        rw [hl, hi, Nat.sub_self] at e2
        have e2 : some (some (V.ref D)) = some (some v) := e2
        obtain ⟨c0, hc0, hv0⟩ := C.has 0 "__class__" rfl
        obtain ⟨u, ru, hu⟩ := hv0 v e2
        have e3 : c0 = cc := by
          rw [hccl] at hc0
          exact (Option.some.inj hc0).symm
        subst e3
        exact ⟨u, ru, .inr ⟨.inr S.frk, c0, lkc, cellK hu⟩⟩
      · rw [List.getElem?_append_right (by omega), List.getElem?_replicate] at e2
        split at e2 <;> cases e2
  · rcases lk x a e with ⟨_, a2⟩ | ⟨_, a2⟩
    · rw [a2]
      exact ⟨none, hy⟩
    · rw [a2]
      exact ⟨v1, cellK c2⟩
  · rcases lk x a e with ⟨_, a2⟩ | ⟨_, a2⟩
    · rw [a2]
      exact e0.hok.fresh (Nat.le_succ _)
    · rw [a2]
      exact c1
  · unfold NdefX.startF
    show _ = N.length
    rw [List.length_append, List.length_append, List.length_map, List.length_replicate]
    have : ([some (V.ref D)] : List (Option V)).length = 1 := rfl
    omega
theorem pushed_cell {h : Heap} : ∀ (names : List (Str × NameKind)) (h : Heap) {y : Str} {acc : List (Str × Addr)}, (y, h.objs.size) ∈ cellsFrom h.objs.size names [] → (pushCells h names).IsCell h.objs.size none := fun names h y _ hm =>
  ((cellsFrom_ok names h h.objs.size [] ⟨fun _ _ hm => (nomatch hm), List.Pairwise.nil⟩ (Nat.le_refl _)).empty _ _ hm).1
/-- THE RULE for such a def -/
theorem fn_ofS2 (F : FunS K P d D f c) (S : NScope2 N ps y d.scope) (hy : ∀ n, (y, n) ∈ cellsFrom n d.scope.names []) (len : ∀ vs H Q E, sp vs H Q E → vs.length = ps.length)
    (hbody : ∀ (cc : Addr) (A : Around) (outer : List Env) (s : Shared) (H : Hp) (vs : List V) (Q : VK) (E : XK), Room k (ncx2 CX P w K mg base N d y cc c f A outer s H E).A → sp vs H Q E →
      ∃ t, QSs (ncx2 CX P w K mg base N d y cc c f A outer s H E) d.body d.body t ∧ t { nx := fun _ H' => Q .non H', rt := Q } (NdefX.startF N vs [some (.ref D)]) H) :
    FnOk P w K mg base CX (k + 1) f (fdA K f) ps sp := by
  obtain ⟨oc, od, kV, doc, pm, an, ct, osl, cc, lk, hcd, hcell⟩ := F.ex
  rw [fdA_of lk]
  refine ⟨len, fun A outer s H args us vs Q E hr e0 hb r hsp => ?_⟩
  have KX : K.In s.heap := e0.mod.kin.keeps fun b o e => (e0.bs b o e).1
  have lim : s.heap.NoLimit := e0.mod.nolimit.keeps fun b o e => (e0.bs b o e).1
  refine codeAny_call_function hr.depth (KX _ _ lk) rfl S.co S.gen rfl (PySem.W.codeRec_of KX hcd) (hb _ _ _ _ ?_)
  refine newEnv_both (fun ⟨n, _⟩ hz => S.par n (List.of_mem_zip hz).1) S.kind (S.cl _ cc) fun h₁ tk hns kp kc => ⟨lim.keeps kp, ?_⟩
  show codeAny _ _ (.func d.body (ncx2 CX P w K mg base N d y cc c f A outer s H E).env) _ _
  refine ks_codeAny_funcAt ?_
  obtain ⟨t, ht, hq⟩ := hbody cc A outer s H vs Q E (hr.deeper _) hsp
  have hcl : h₁.IsCell (s.heap.objs.size + 1) none := by
    have q := pushed_cell (h := s.heap) d.scope.names (s.heap.push { cls := .type "frame", data := .dict #[] }) (y := y) (acc := []) (by rw [Heap.size_push]; exact hy _)
    rw [Heap.size_push] at q
    obtain ⟨o, ho, hd⟩ := q
    exact ⟨o, kc _ _ ho (Nat.succ_ne_self _), hd⟩
  have I : Inv (ncx2 CX P w K mg base N d y cc c f A outer s H E) [] (NdefX.startF N vs [some (.ref D)]) H { s with heap := h₁, toks := tk } := inv_start2 S hr.hd e0 (len _ _ _ _ hsp) r hcell hns kp hcl
  refine ks_wpAt_mono (ht.run [] _ (NdefX.startF N vs [some (.ref D)]) H _ I hq) (fun fl s' hs => ?_) fun e s' hs => hs
  have fin : ∀ {σ' : L2.St} {H' : Hp} {v : V} {u : Value}, Inv (ncx2 CX P w K mg base N d y cc c f A outer s H E) [] σ' H' s' → L2.RelV v u → Q v H' → CE outer P w H s Q u s' :=
    fun {σ' H' v u} J rv q => ⟨v, H', J.os, J.bare, J.base, J.hok, rv, q⟩
  cases fl with
  | ret u =>
    obtain ⟨v, σ', H', J, rv, q⟩ := hs
    exact fin J rv q
  | next =>
    obtain ⟨σ', H', J, q⟩ := hs
    exact fin (v := V.non) (u := Value.none) J rfl q
  | brk =>
    obtain ⟨_, _, _, q⟩ := hs
    exact False.elim q
  | cont =>
    obtain ⟨_, _, _, q⟩ := hs
    exact False.elim q
end
end Lst

/-! ## LWish6 -/
namespace Lst
open PySem PySem.Spec PyProof.Rows L2
def sp_wdneeded (K : PySem.W.Frag) : Sp := fun vs H Q _ => ∃ (v : V) (b : Bool) (ws : List Str) (S : Hp), vs = [v] ∧ WishAt K S v (.lf b ws) ∧ smT (.lf b ws) ∧ Same S H ∧
  ∀ (H' : Hp) (z : Str), Same H H' → (∀ c ∈ sg z, c ∈ lets (.lf b ws)) → z.length ≤ 26 → Q (.str z) H'
abbrev M_Behind_needed : List Str := ["self", "__class__", "found", "letter"]
theorem ms_Bneeded : NScope2 M_Behind_needed P_Behind_needed "found" d_Behind_needed.scope :=
  ⟨rfl, rfl, rfl, by decide +kernel, rfl, by decide +kernel, by decide +kernel, by decide +kernel, by decide +kernel, fun n cc => rfl, by decide +kernel⟩
section
variable {P : Program} {w : World} {K : PySem.W.Frag} {mg : Str → Option Value} {base : Heap}
theorem ok_wdneeded (T : Txt K mg) : OkM P w K mg base CX0 1 "Words" "needed" P_Words_needed (sp_wdneeded K) := by
  obtain ⟨tl, hL⟩ := T.vLETTERS
  refine (T.f_Words_needed).ok sc_Words_needed (fun vs H Q E h => ?_) (fun cdv A outer s H vs Q E hr h => ?_)
  · obtain ⟨v, b, ws, S, rfl, _⟩ := h
    rfl
  · obtain ⟨v, b, ws, S, rfl, ⟨a, dx, wt, pt, l, rfl, ha, hw, hp, hl⟩, sm, hS, k⟩ := h
    refine ⟨_, PSs.nox (pss_one (ps_ret (joinK (K := K) rfl pe_str (pe_lc (own := [("letter", 1)]) (g := (gName 1)) rfl sc_Words_needed.nd (pi_str (pe_glob (v := .str LET) (by rfl) T.vLETTERS.choose_spec ⟨_, rfl⟩)) (by first | exact blkOk_by (N := N_Words_needed) (sc := defScope s_Words_needed) (by decide +kernel) | exact blkOk_by (N := N_Words_needed) (sc := { kind := .function, names := [], isGenerator := false, isCoroutine := false }) (by decide +kernel)) (fun _ _ _ _ _ => (pg_name (i := 1) sc_Words_needed.nd rfl (Or.inl rfl))) (fun _ _ _ _ _ => pts_one (pt_cmpR op_in_sign (pv 1) (joinK (K := K) rfl pe_str (fldK (K := K) rfl (pv 0) rfl)) rfl)) (fun _ _ _ _ _ => (pv 1)))))), ?_⟩
    walk_at "rs"
    walk_at "rd"
    refine ⟨⟨_, rfl⟩, ?_⟩
    walk_at "rd"
    intro D hD
    have j1 : ((sd ws).map (·.length)).sum ≤ (sd ws).length * 6 := sum_le_of fun x hx => sm.2 x ((mem_sd ws).mp hx)
    have j2 := sd_len ws
    have j3 := sm.1
    refine pick_lc (found := Txt.join "" (sd ws)) hS (fun x => rfl) (fun x H2 Q2 g q => ?_) (fun x => rfl) (fun D3 H3 g3 h3 => ?_) hD
    · refine ⟨⟨_, rfl⟩, ?_⟩
      walk_at "rs"
      walk_at "rd"
      refine ⟨a, _, dx, _, _, rfl, g.sub _ _ ha, T.cW (wcls_mem b), T.nW (wcls_mem b) _ (by decide +kernel), rfl, ?_⟩
      exact ⟨"", wt, sd ws, rfl, rfl, .inr (sqt (g.sub _ _ hw)), by show _ + _ * 0 ≤ _; omega, q⟩
    · refine pick_join h3 fun z z1 z2 => k H3 z g3.same (fun c hc => ?_) z2
      have q := z1 c hc
      rw [tl_join0] at q
      obtain ⟨y, hy1, hy2⟩ := List.mem_flatMap.mp q
      exact List.mem_flatMap.mpr ⟨y, (mem_sd ws).mp hy1, hy2⟩
theorem ok_bneeded (T : Txt K mg) (T2 : Txt2 K P mg) (d k : Nat) (G : OkM P w K mg base CX0 (k + 1) "Wish" "needed" P_Wish_needed (sp_wneeded K d)) : OkM P w K mg base CX0 (k + 2) "Behind" "needed" P_Behind_needed (sp_needed K (d + 1) "Behind") := by
  obtain ⟨c, F⟩ := T2.fs 2 (d_Behind_needed, "Behind") rfl
  obtain ⟨tl, hL⟩ := T.vLETTERS
  refine fn_ofS2 (d := d_Behind_needed) F ms_Bneeded (fun n => List.mem_cons_self ..) (fun vs H Q E h => ?_) (fun cc A outer s H vs Q E hr h => ?_)
  · obtain ⟨v, t, S, rfl, _⟩ := h
    rfl
  · obtain ⟨v, t, S, rfl, ht, ec, sm, hd, hS, kk⟩ := h
    cases t with
    | nm n => exact absurd (show ("Behind" : Str) = "Named" from ec) (by decide +kernel)
    | lf b ws => exact absurd (show ("Behind" : Str) = wcls b from ec) (by cases b <;> decide +kernel)
    | op b l r => exact absurd (show ("Behind" : Str) = (if b then ("Both" : Str) else "Either") from ec) (by cases b <;> decide +kernel)
    | bh y t =>
      have ht' := ht
      obtain ⟨a, dx, pt, l, u, rfl, ha, hp, hl, hu⟩ := ht
      refine ⟨_, QSs.nox (qss_cons (qs_set (i := 2) ms_Bneeded.nd rfl (Or.inr rfl) (qe_op op_add_str (qe_super0 (f := He.ma K (He.ga K "Behind") "needed") (cda := c) (D := He.ga K "Behind") (f2 := He.ma K (He.ga K "Wish") "needed") (ok := fun C => C = He.ga K "Behind") (j := 1) (sp := sp_wneeded K d) (F.sup rfl rfl) (fun C h => by subst h; exact T2.sn) T2.sup (FnOk.raw0 G T.b_Wish_needed) hr pass0) (fldK (K := K) rfl (pv 0) rfl)))
        (qss_one (qs_of (ps_ret (joinK (K := K) rfl pe_str (pe_lc (own := [("letter", 3)]) (g := (gName 3)) rfl ms_Bneeded.nd (pi_str (pe_glob (v := .str LET) (by rfl) T.vLETTERS.choose_spec ⟨_, rfl⟩)) (by first | exact blkOk_by (N := M_Behind_needed) (sc := defScope s_Behind_needed) (by decide +kernel) | exact blkOk_by (N := M_Behind_needed) (sc := { kind := .function, names := [], isGenerator := false, isCoroutine := false }) (by decide +kernel)) (fun _ _ _ _ _ => (pg_name (i := 3) ms_Bneeded.nd rfl (Or.inl rfl))) (fun _ _ _ _ _ => pts_one (pt_cmpR op_in_sign (pv 3) (pv 2) rfl)) (fun _ _ _ _ _ => (pv 3)))))))), ?_⟩
      walk_at "rs"
      refine ⟨a, _, dx, _, rfl, rfl, hS _ _ ha, rfl, ?_⟩
      walk_at "rs"
      refine ⟨V.ref a, .bh y t, S, rfl, ht', (fun b ws e => nomatch e), sm, hd, hS, fun H1 z s1 z1 z2 => ?_⟩
      walk_at "rs"
      walk_at "rd"
      refine ⟨a, _, dx, _, _, rfl, s1 _ _ (hS _ _ ha), T.cW (by decide +kernel), T.nW (by decide +kernel) _ (by decide +kernel), rfl, ?_⟩
      walk_at "rd"
      refine ⟨szE (by have := sm.1; omega), ⟨_, rfl⟩, ?_⟩
      walk_at "rd"
      intro D hD
      refine pick_lc (found := z ++ y) (s1 |> fun q => hS.trans q) (fun x => rfl) (fun x H Q g q => ⟨_, rfl, q⟩) (fun x => rfl) (fun D3 H3 g3 h3 => ?_) hD
      refine pick_join h3 fun z' z1' z2' => kk H3 z' (s1.trans g3.same) (fun c hc => ?_) z2'
      have q := z1' c hc
      rw [sg_app] at q
      rcases List.mem_append.mp q with q | q
      · exact List.mem_append_left _ (z1 c q)
      · exact List.mem_append_right _ q
/-! ### needed, of whatever class -/
theorem ok_needed (T : Txt K mg) (T2 : Txt2 K P mg) : ∀ d : Nat, ∀ cn ∈ WC, ∃ f, Cls K (He.ga K cn) ∧ Meth K (He.ga K cn) "needed" f ∧ FnR P w K mg base CX0 (2 * d + 1) f (sp_needed K d cn)
  | 0, cn, hcn => ⟨_, T.cW hcn, T2.nee cn hcn, fun A outer s H us vs Q E _ _ _ ⟨_, _, _, _, _, _, _, h, _⟩ => absurd h (Nat.not_lt_zero _)⟩
  | d + 1, cn, hcn => by
    have GF := ok_needed T T2 d
    have GW := ok_wneeded (w := w) (base := base) T d (2 * d + 1) GF
    have hm := T2.nee cn hcn
    refine ⟨_, T.cW hcn, hm, ?_⟩
    have own : cn = "Never" ∨ cn = "Blocks" ∨ cn = "Behind" ∨ cn = "Both" ∨ cn = "Either" ∨ cn = "Named" := by
      simp only [List.mem_cons, List.not_mem_nil, or_false] at hcn
      exact hcn
    have wd : ∀ b : Bool, cn = wcls b → FnR P w K mg base CX0 (2 * (d + 1) + 1) (He.ma K (He.ga K "Words") "needed") (sp_needed K (d + 1) cn) := fun b hb => by
      have G := (FnOk.raw0 (ok_wdneeded (P := P) (w := w) (base := base) T) T.b_Words_needed).mono (show 1 ≤ 2 * (d + 1) + 1 by omega)
      refine G.imp fun vs H Q E h => ?_
      obtain ⟨v, t, S, rfl, ht, ec, sm, hd, hS, k⟩ := h
      rw [hb] at ec
      cases t with
      | nm n => exact absurd (show wcls b = "Named" from ec) (by cases b <;> decide +kernel)
      | bh y t => exact absurd (show wcls b = "Behind" from ec) (by cases b <;> decide +kernel)
      | op b' l r => exact absurd (show wcls b = (if b' then ("Both" : Str) else "Either") from ec) (by cases b <;> cases b' <;> decide +kernel)
      | lf b' ws => exact ⟨v, b', ws, S, rfl, ht, sm, hS, k⟩
    have wsh : cn = "Both" ∨ cn = "Either" ∨ cn = "Named" → FnR P w K mg base CX0 (2 * (d + 1) + 1) (He.ma K (He.ga K "Wish") "needed") (sp_needed K (d + 1) cn) := fun hb => by
      have G := (FnOk.raw0 GW T.b_Wish_needed).mono (show 2 * d + 1 + 1 ≤ 2 * (d + 1) + 1 by omega)
      refine G.imp fun vs H Q E h => ?_
      obtain ⟨v, t, S, rfl, ht, ec, sm, hd, hS, k⟩ := h
      cases t with
      | lf b' ws =>
        have ec : cn = wcls b' := ec
        rcases hb with e | e | e <;> rw [e] at ec <;> exact absurd ec (by cases b' <;> decide +kernel)
      | bh y t =>
        have ec : cn = "Behind" := ec
        rcases hb with e | e | e <;> rw [e] at ec <;> exact absurd ec (by decide +kernel)
      | nm n => exact ⟨v, .nm n, S, rfl, ht, (fun b ws e => nomatch e), sm, hd, hS, k⟩
      | op b' l r => exact ⟨v, .op b' l r, S, rfl, ht, (fun b ws e => nomatch e), sm, hd, hS, k⟩
    rcases own with e | e | e | e | e | e
    · subst e
      exact wd true rfl
    · subst e
      exact wd false rfl
    · subst e
      obtain ⟨c, F⟩ := T2.fs 2 (d_Behind_needed, "Behind") rfl
      have G := ok_bneeded (w := w) (base := base) T T2 d (2 * d + 1) GW
      exact (FnOk.raw0 G (F.binds fun kV doc pm an ct cc us hl => match us, hl with | [_], _ => rfl)).mono (show 2 * d + 1 + 2 ≤ 2 * (d + 1) + 1 by omega)
    · subst e
      exact wsh (.inl rfl)
    · subst e
      exact wsh (.inr (.inl rfl))
    · subst e
      exact wsh (.inr (.inr rfl))
end
end Lst

/-! ## LRead -/
namespace Lst
open PySem PySem.Spec PyProof.Rows L2
/-! ### reading tokens, in plain Lean -/
inductive Stp : List Tr → Str → List Tr → Prop
  | nm {ts : List Tr} {n : Str} : nameOk n = true → Stp ts n (ts ++ [.nm n])
  | lf {ts : List Tr} {b : Bool} {ws : List Str} : trOk (.lf b ws) → Stp ts (leafTok b ws) (ts ++ [.lf b ws])
  | bh {ts : List Tr} {t : Tr} {y : Str} : wordOk y = true → Stp (ts ++ [t]) (bhTok y) (ts ++ [.bh y t])
  | op {ts : List Tr} {l r : Tr} {b : Bool} : Stp (ts ++ [l, r]) (opS b) (ts ++ [.op b l r])
inductive Stps : List Tr → List Str → List Tr → Prop
  | nil {a : List Tr} : Stps a [] a
  | cons {a b c : List Tr} {x : Str} {r : List Str} : Stp a x b → Stps b r c → Stps a (x :: r) c
theorem Stps.app {a b c : List Tr} {x y : List Str} (h : Stps a x b) (k : Stps b y c) : Stps a (x ++ y) c := by
  induction h with
  | nil => exact k
  | cons s _ ih => exact .cons s (ih k)
theorem stps_tree : ∀ (t : Tr) (ts : List Tr), trOk t → Stps ts (toks t) (ts ++ [t])
  | .nm n, ts, h => .cons (.nm h) .nil
  | .lf b ws, ts, h => .cons (.lf h) .nil
  | .bh w t, ts, h => (stps_tree t ts h.2).app (.cons (.bh h.1) .nil)
  | .op b l r, ts, h => by
    have h2 := stps_tree r (ts ++ [l]) h.2
    rw [List.append_assoc] at h2
    exact ((stps_tree l ts h.1).app h2).app (.cons .op .nil)
theorem Stp.size {a b : List Tr} {x : Str} (h : Stp a x b) : b.flatMap toks = a.flatMap toks ++ [x] := by
  cases h with
  | nm h => rw [List.flatMap_append, List.flatMap_singleton]; rfl
  | lf h => rw [List.flatMap_append, List.flatMap_singleton]; rfl
  | bh h =>
    rw [List.flatMap_append, List.flatMap_append, List.flatMap_singleton, List.flatMap_singleton, List.append_assoc]
    rfl
  | op =>
    rw [List.flatMap_append, List.flatMap_append, List.flatMap_singleton, List.append_assoc]
    show _ ++ (toks _ ++ toks _ ++ [opS _]) = _ ++ ((toks _ ++ (toks _ ++ [])) ++ [opS _])
    rw [List.append_nil]
theorem Stps.size {a b : List Tr} {x : List Str} (h : Stps a x b) : b.flatMap toks = a.flatMap toks ++ x := by
  induction h with
  | nil => rw [List.append_nil]
  | cons s _ ih => rw [ih, s.size, List.append_assoc]; rfl
theorem flat_le {ts : List Tr} {t : Tr} (h : t ∈ ts) : (toks t).length ≤ (ts.flatMap toks).length := by
  induction ts with
  | nil => cases h
  | cons x r ih =>
    rw [List.flatMap_cons, List.length_append]
    rcases List.mem_cons.mp h with e | e
    · rw [e]
      exact Nat.le_add_right ..
    · exact Nat.le_trans (ih e) (Nat.le_add_left ..)
theorem toks_pos : ∀ t : Tr, 1 ≤ (toks t).length
  | .nm _ => Nat.le_refl 1
  | .lf _ _ => Nat.le_refl 1
  | .bh w t => by
    show 1 ≤ (toks t ++ [bhTok w]).length
    rw [List.length_append]
    exact Nat.le_add_left ..
  | .op b l r => by
    show 1 ≤ (toks l ++ toks r ++ [opS b]).length
    rw [List.length_append]
    exact Nat.le_add_left ..
theorem tree_count : ∀ ts : List Tr, ts.length ≤ (ts.flatMap toks).length
  | [] => Nat.le_refl 0
  | t :: r => by
    rw [List.flatMap_cons, List.length_append, List.length_cons]
    have := toks_pos t
    have := tree_count r
    omega
theorem low44 {z : Str} (h : lowS z = true) : 44 ∉ sg z := fun m => (by decide +kernel : 44 ∉ sg LET) (of_decide_eq_true (List.all_eq_true.mp h 44 m))
theorem part_leaf (b : Bool) (ws : List Str) : Txt.partition (leafTok b ws) ":" = (hdS b, (":" : Str), Txt.join "," (sd ws)) :=
  TL.partition_app (y := ":") (s := 58) (S := []) (by decide +kernel) (a := hdS b) (b := Txt.join "," (sd ws)) (by cases b <;> decide +kernel)
theorem part_bh (y : Str) : Txt.partition (bhTok y) ":" = (("behind" : Str), (":" : Str), y) := by
  have e : bhTok y = ("behind" ++ ":" : Str) ++ y := by
    unfold bhTok
    rw [show ("behind" ++ ":" : Str) = "behind:" by decide +kernel]
  rw [e]
  exact TL.partition_app (y := ":") (s := 58) (S := []) (by decide +kernel) (a := "behind") (b := y) (by decide +kernel)
theorem split_leaf {ws : List Str} (h : ws ≠ []) (hw : ∀ x ∈ ws, wordOk x = true) : Txt.split (Txt.join "," (sd ws)) "," = sd ws :=
  TL.split_join (y := ",") (s := 44) (S := []) (by decide +kernel) (by decide +kernel) (sd_ne h) fun p hp => low44 (wordOk_len (hw p ((mem_sd ws).mp hp))).2.2.2
theorem join1 (y : Str) : Txt.join "," [y] = y := by
  apply sg_inj
  rw [TL.join_eq]
  exact TL.tl_join "," [y]
theorem split_one {y : Str} (h : wordOk y = true) : Txt.split y "," = [y] := by
  have q := TL.split_join (y := ",") (s := 44) (S := []) (by decide +kernel) (by decide +kernel) (parts := [y]) (List.cons_ne_nil _ _) fun p hp => by
    rw [List.mem_singleton.mp hp]
    exact low44 (wordOk_len h).2.2.2
  rw [join1] at q
  exact q
/-! ### an instance, made and then never written again -/
section
variable {ms : Addr → Prop} {H0 S0 H S H' S' H2 S2 : Hp} {x dx : Addr} {o : HO}
theorem Gm.absorb (g : Gm ms H0 S0 H S) (n : H0 x = none) (k : Gm (one x) H S H' S') : Gm ms H0 S0 H' S' :=
  ⟨fun b o e hn => k.all b o (g.all b o e hn) (fun z => by rw [show b = x from z, n] at e; cases e), fun b h => k.live b (g.live b h), k.sub, g.mono.trans k.mono, fun b h h' => k.new b (g.new b h h') (g.live b h')⟩
theorem Gm.made {R : Prop} (g : Gm ms H0 S0 H S) (hx : H x = none) (hd : H dx = none) (ne : dx ≠ x) (C : Addr) (q : ∀ H', upd (upd H dx (.own x)) x (.ins C dx []) = H' → Gm ms H0 S0 H' S → H' x = some (.ins C dx []) → S x = none → Same H H' → H' dx = some (.own x) →  R) : R := by
  have g1 := g.laid0 (o := .own x) hd
  have hx1 : upd H dx (.own x) x = none := by rw [upd_ne (Ne.symm ne)]; exact hx
  refine q _ rfl (g1.laid0 hx1) upd_same (Same.free g.sub hx) ((upd0_ (Same.refl H) hd).trans (upd0_ (Same.refl _) hx1)) ?_
  rw [upd_ne ne, upd_same]
/-- the new instance is frozen -/
theorem Gm.fin (g : Gm ms H0 S0 H S) (n : H0 x = none) (k : Gm (one x) H S H' S') (h : H x ≠ none) (nS : S x = none) (e : H' x = some o) : Gm ms H0 S0 H' (upd S' x o) ∧ Same S' (upd S' x o) ∧ upd S' x o x = some o :=
  ⟨(g.absorb n k).freeze e n (k.new x nS h), upd0_ (Same.refl _) (k.new x nS h), upd_same⟩
end
theorem leaf_sd (b : Bool) (ws : List Str) : leafTok b (sd ws) = leafTok b ws := by
  unfold leafTok
  rw [sd_sd]
/-! ### stacks -/
def StkAt (K : PySem.W.Frag) (S : Hp) (v : V) (ts : List Tr) : Prop := ∃ a us, v = .ref a ∧ S a = some (.lst us) ∧ Paired (WishAt K S) us ts
def sp_wtok (K : PySem.W.Frag) : Sp := fun vs H Q _ => ∃ (tok : Str) (v : V) (ts ts' : List Tr) (S : Hp), vs = [.str tok, v] ∧ StkAt K S v ts ∧ Stp ts tok ts' ∧ (ts'.flatMap toks).length ≤ 20 ∧ Same S H ∧ ((∃ b ws, tok = leafTok b ws ∧ trOk (.lf b ws) ∧ ts' = ts ++ [.lf b ws]) ∨ ∃ y t0 t, tok = bhTok y ∧ wordOk y = true ∧ ts = t0 ++ [t] ∧ ts' = t0 ++ [.bh y t]) ∧
  ∀ (H' S' : Hp) (v' : V), Gr H S H' S' → StkAt K S' v' ts' → Q v' H'
theorem mk_of {K : PySem.W.Frag} {P : Program} {mg : Str → Option Value} (T2 : Txt2 K P mg) (cn o : Str) (h : cn ∈ WC := by decide +kernel) (e : inOf cn = o := by decide +kernel) : Mk K (He.ga K cn) (He.ma K (He.ga K o) "__init__") := by
  rw [← e]
  exact T2.mk2 cn h
section
variable {P : Program} {w : World} {K : PySem.W.Frag} {mg : Str → Option Value} {base : Heap}
theorem ok_wtok (T : Txt K mg) (T2 : Txt2 K P mg) (GN : FnR P w K mg base CX0 2 (He.ma K (He.ga K "Words") "__init__") (fun vs H Q E => ∃ v rest, vs = v :: rest ∧ rest.length ≤ 1000 ∧ ∀ p, H p = none → sp_wdinit K true [v, .ref p] (upd H p (.tup rest)) Q E))
    (GB : FnR P w K mg base CX0 2 (He.ma K (He.ga K "Words") "__init__") (fun vs H Q E => ∃ v rest, vs = v :: rest ∧ rest.length ≤ 1000 ∧ ∀ p, H p = none → sp_wdinit K false [v, .ref p] (upd H p (.tup rest)) Q E))
    (GH : OkM P w K mg base CX0 2 "Behind" "__init__" P_Behind_init (sp_bhinit K)) (G_is_word : OkG P w K mg base CX0 1 "is_word" P_is_word sp_is_word) : OkG P w K mg base CX0 4 "words_token" P_words_token (sp_wtok K) := by
  have mkN := mk_of T2 "Never" "Words"
  have mkB := mk_of T2 "Blocks" "Words"
  have mkH := mk_of T2 "Behind" "Behind"
  have bH : L2.Binds K (fdA K (He.ma K (He.ga K "Behind") "__init__")) P_Behind_init [] := by
    obtain ⟨c, F⟩ := T2.fs 1 (d_Behind_init, "Behind") rfl
    exact F.binds fun kV doc pm an ct cc us hl => match us, hl with | [_, _, _], _ => rfl
  obtain ⟨ds2, hd2, hb2⟩ := T.b_is_word2
  refine (T.f_words_token).ok sc_words_token (fun vs H Q E h => ?_) (fun cdv A outer s H vs Q E hr h => ?_)
  · obtain ⟨tok, v, ts, ts', S, rfl, _⟩ := h
    rfl
  · obtain ⟨tok, v, ts, ts', S, rfl, ⟨sa, us, rfl, hsa, hp⟩, hst, hl, hS, hor, k⟩ := h
    refine ⟨_, PSs.nox (pss_cons (ps_asg (pe_partition (pv 0) pe_str) (pg_tupK (K := K) (n := 3) rfl rfl (pgs_cons (pg_name (i := 2) sc_words_token.nd rfl (Or.inl rfl)) (pgs_cons (pg_name (i := 3) sc_words_token.nd rfl (Or.inl rfl)) (pgs_cons (pg_name (i := 4) sc_words_token.nd rfl (Or.inl rfl)) pgs_nil)))))
        (pss_cons (ps_set (i := 5) sc_words_token.nd rfl (Or.inl rfl) (pe_split (pv 4) pe_str))
        (pss_cons (ps_if (PW.pt (pw_or (pt_not (pt_val (pe_callB (allK (K := K) rfl rfl) (by rfl) T.f (by decide +kernel) (pa_cons (pe_lc (own := [("word", 6)]) (g := (gName 6)) (tt := tYes) rfl sc_words_token.nd (pi_listK (K := K) rfl (pv 5)) (by first | exact blkOk_by (N := N_words_token) (sc := defScope s_words_token) (by decide +kernel) | exact blkOk_by (N := N_words_token) (sc := { kind := .function, names := [], isGenerator := false, isCoroutine := false }) (by decide +kernel)) (fun _ _ _ _ _ => (pg_name (i := 6) sc_words_token.nd rfl (Or.inl rfl))) (fun _ _ _ _ _ => pts_nil) (fun _ _ _ _ _ => (pe_and (pe_call G_is_word (hr.mono (by first | decide | omega)) (by rfl) (T.g "is_word") (T.k "is_word") hb2 hd2 pass0 (pa_cons (pv 6) (pa_cons (pe_glob (v := .int 6) (by rfl) T.vLong.choose_spec ⟨_, rfl⟩) pa_nil))) (pe_one (pe_cmpR op_ne (pv 6) pe_str (nomark _)))))) pa_nil)))) (pw_or1 (pt_cmpR op_gt (pe_callB (lenK (K := K) rfl) (by rfl) T.f (by decide +kernel) (pa_cons (pv 5) pa_nil)) (pe_glob (v := .int 4) (by rfl) T.vWords.choose_spec ⟨_, rfl⟩) (nomark _))))) (pss_one (ps_ret pe_non)) pss_nil)
        (pss_cons (ps_if (pt_cmpR (inK (K := K) rfl) (pv 2) (pe_tup (pa_cons pe_str (pa_cons pe_str pa_nil))) (by rfl)) (pss_one (ps_ret (pe_op op_cat (pv 1) (pe_lst (pa_cons (pe_ifExp (pt_cmpR op_eq (pv 2) pe_str (nomark _)) (pe_makeS1 mkN GN (hr.mono (by first | decide | omega)) (by rfl) (T.g "Never") pass0 (pv 5)) (pe_makeS1 mkB GB (hr.mono (by first | decide | omega)) (by rfl) (T.g "Blocks") pass0 (pv 5))) pa_nil))))) pss_nil)
        (pss_cons (ps_if (PW.pt (pw_or (pt_cmpR op_ne (pv 2) pe_str (nomark _)) (pw_or (pt_cmpR op_gt (pe_callB (lenK (K := K) rfl) (by rfl) T.f (by decide +kernel) (pa_cons (pv 5) pa_nil)) pe_int (nomark _)) (pw_or1 (pt_cmpR (eqNilK (K := K) rfl hr.units) (pv 1) (pe_lst pa_nil) (nomark _)))))) (pss_one (ps_ret pe_non)) pss_nil)
        (pss_one (ps_ret (pe_op op_cat (pe_slice (sl_listK (K := K) rfl) (pv 1) po_none (po_some (pe_un un_neg pe_int))) (pe_lst (pa_cons (pe_make mkH GH (hr.mono (by first | decide | omega)) (by rfl) (T.g "Behind") bH .nil pass0 (pa_cons (pe_ix (ix_listK (K := K) rfl) (pv 5) pe_int (fun _ _ => rfl)) (pa_cons (pe_ix (ix_listK (K := K) rfl) (pv 1) (pe_un un_neg pe_int) (fun _ _ => rfl)) pa_nil))) pa_nil)))))))))), ?_⟩
    walk_at "rs"
    walk_at "rd"
    have facts : ∃ (hd tl : Str) (wl : List Str), Txt.partition tok ":" = (hd, (":" : Str), tl) ∧ Txt.split tl "," = wl ∧ (∀ x ∈ wl, wordOk x = true) ∧ 1 ≤ wl.length ∧ wl.length ≤ 4 ∧ tok.length ≤ 100 ∧ tl.length ≤ 100 := by
      rcases hor with ⟨b, ws, rfl, ok, _⟩ | ⟨y, t0, t, rfl, ok, _⟩
      · have w1 : ∀ x ∈ sd ws, wordOk x = true := fun x hx => ok.2.2 x ((mem_sd ws).mp hx)
        have j1 : ((sd ws).map (·.length)).sum ≤ (sd ws).length * 6 := sum_le_of fun x hx => (wordOk_len (w1 x hx)).2.1
        have j4 := join_len "," (sd ws)
        have j5 : (sd ws).length * ("," : Str).length = (sd ws).length := Nat.mul_one _
        have j6 : (hdS b).length ≤ 6 := by cases b <;> decide +kernel
        have j7 := ok.2.1
        refine ⟨hdS b, Txt.join "," (sd ws), sd ws, part_leaf b ws, split_leaf ok.1 ok.2.2, w1, List.length_pos_iff.mpr (sd_ne ok.1), j7, ?_, by omega⟩
        unfold leafTok
        rw [len_app, len_app]
        show (hdS b).length + 1 + _ ≤ 100
        omega
      · have := (wordOk_len ok).2.1
        refine ⟨"behind", y, [y], part_bh y, split_one ok, fun x hx => by rw [List.mem_singleton.mp hx]; exact ok, Nat.le_refl 1, (by show (1 : Nat) ≤ 4; decide), ?_, by omega⟩
        unfold bhTok
        rw [len_app]
        show 7 + _ ≤ 100
        omega
    obtain ⟨hd, tl, wl, e1, e2, hw, w1, w4, tk1, tl1⟩ := facts
    refine ⟨⟨_, rfl⟩, _, _, rfl, rfl, rfl, szE (by omega), fun p hpp => ?_⟩
    rw [e1]
    generalize eH1 : upd H p (HO.tup [V.str hd, V.str ":", V.str tl]) = H1
    have g0 : Gr H S H S := Gm.rfl' hS
    have g1 := g0.l0 eH1 hpp
    have hp1 := new_at eH1
    refine ⟨p, _, rfl, sqt hp1, rfl, _, _, rfl, _, _, rfl, _, _, rfl, rfl, ?_⟩
    refine ⟨_, rfl, ⟨_, rfl⟩, _, _, rfl, rfl, rfl, szE (by omega), ?_⟩
    rw [e2]
    intro q hq
    generalize eH2 : upd H1 q (HO.lst (wl.map V.str)) = H2
    have g2 := g1.ld eH2 hq
    have hq2 : (upd S q (HO.lst (wl.map V.str))) q = some (.lst (wl.map V.str)) := upd_same
    have mo2 : Same S (upd S q (HO.lst (wl.map V.str))) := upd0_ (Same.refl _) (Same.free g1.sub hq)
    generalize upd S q (HO.lst (wl.map V.str)) = S2 at g2 hq2 mo2
    walk_at "ri"
    walk_at "rd"
    refine ⟨⟨_, sql (g2.sub _ _ hq2)⟩, fun D hD => ?_⟩
    refine lcg walk_list (fun i acc S' => acc = (List.replicate i true).map V.bl) noZ noM hD g2.sub rfl trivial (fun _ _ _ _ => trivial) (fun i H9 S9 _ _ g _ _ => sql (g.sub _ _ (g.mono _ _ hq2))) ?_ ?_
    · rintro i x H3 H4 S3 acc hi g3 r _ e eS ⟨rfl, hx⟩
      rw [List.getElem?_map] at hx
      obtain ⟨z, hz, rfl⟩ := Option.map_eq_some_iff.mp hx
      obtain ⟨z1, z2, z3, z4⟩ := wordOk_len (hw z (List.mem_of_getElem? hz))
      rw [List.length_map] at hi
      walk_at "rs"
      walk_at "rd"
      refine ⟨Nat.le_trans z2 (by decide), fun H5 s5 => ?_⟩
      rw [z1]
      walk_at "rd"
      rw [show (!decide (V.str z = V.str "")) = true by rw [decide_eq_false (fun e => z3 (V.str.inj e))]; rfl]
      refine LcP.add hD (fun z => z) (fun _ _ _ _ => trivial) g3 e eS (Gr.ofSame g3.sub s5) (szL (by rw [r, List.length_map, List.length_replicate]; omega)) ?_ trivial
      rw [r, List.replicate_succ', List.map_append]
      rfl
    · rintro H3 S3 acc g3a r _ e eS
      have g3 := g2.trans g3a
      have hq3 := g3a.mono _ _ hq2
      have mo3 := mo2.trans g3a.mono
      refine ⟨D, _, rfl, sql (by rw [e, r]), ?_⟩
      rw [show (List.replicate (wl.map V.str).length true).all id = true by rw [List.all_replicate]; simp]
      walk_at "rd"
      refine ⟨q, _, rfl, .inl (sql (g3.sub _ _ hq3)), ?_⟩
      walk_at "rd"
      rw [if_neg (by rw [decide_eq_false (by rw [List.length_map]; omega)]; decide)]
      walk_at "rd"
      refine ⟨by walk_at "sz", fun l hl2 => ?_⟩
      generalize eH4 : upd H3 l (HO.tup [V.str (Str.ofString "never"), V.str (Str.ofString "blocks")]) = H4
      have g4 := g3.l0 eH4 hl2
      refine rd_in (zs := ["never", "blocks"]) (.inr (sqt (new_at eH4))) ?_
      walk_at "rd"
      have cat : ∀ (H5 S5 : Hp) (u : V) (us0 : List V) (ts0 : List Tr) (t : Tr) (la : Addr), Gr H S H5 S5 → H5 la = some (.lst us0) → Paired (WishAt K S5) us0 ts0 → us0.length ≤ 20 → WishAt K S5 u t → ts' = ts0 ++ [t] → [u].length ≤ sizeLine ∧ ∀ p, H5 p = none → rCat (V.ref la) (V.ref p) (upd H5 p (HO.lst [u])) Q := by
        intro H5 S5 u us0 ts0 t la g5 hla hp0 hl0 hu et
        refine ⟨by walk_at "sz", fun p hp => ?_⟩
        generalize e6 : upd H5 p (HO.lst [u]) = H6
        have g6 := g5.l0 e6 hp
        refine ⟨la, p, us0, [u], rfl, rfl, old_at e6 hp hla, new_at e6, szE (by show _ + 1 ≤ _; omega), fun r hr => ?_⟩
        have mo6 : Same S5 (upd S5 r (HO.lst (us0 ++ [u]))) := upd0_ (Same.refl _) (Same.free g6.sub hr)
        refine k _ _ (V.ref r) (g6.laid hr) ⟨r, _, rfl, upd_same, ?_⟩
        rw [et]
        exact (L2.Paired.mapP hp0 fun _ _ z => WishAt.mono mo6 z).snoc (hu.mono mo6)
      have ul : us.length ≤ 20 := by
        have q := hst.size
        rw [q, List.length_append] at hl
        have := tree_count ts
        rw [hp.length]
        omega
      have mk : ∀ (b : Bool) (ws : List Str), tok = leafTok b ws → trOk (.lf b ws) → ts' = ts ++ [.lf b ws] → wl = sd ws → hd = hdS b → ∀ x dx, H4 x = none → H4 dx = none → dx ≠ x → ∃ v rest, V.ref x :: (wl.map V.str ++ []) = v :: rest ∧ rest.length ≤ 1000 ∧ ∀ p, upd (upd H4 dx (HO.own x)) x (HO.ins (He.ga K (wcls b)) dx []) p = none →
          sp_wdinit K b [v, V.ref p] (upd (upd (upd H4 dx (HO.own x)) x (HO.ins (He.ga K (wcls b)) dx [])) p (HO.tup rest)) (fun v_4 H2 => v_4 = V.non ∧ [V.ref x].length ≤ sizeLine ∧ ∀ p, H2 p = none → rCat (V.ref sa) (V.ref p) (upd H2 p (HO.lst [V.ref x])) Q) E := by
        intro b ws et ok ets ewl ehd x dx hx hdx ne
        refine ⟨_, _, rfl, by rw [List.append_nil, List.length_map]; omega, fun p hp5 => ?_⟩
        rw [List.append_nil] at *
        refine g4.made hx hdx ne (He.ga K (wcls b)) fun H5 e5 g5 hx5 nS5 sm5 _ => ?_
        rw [e5] at hp5 ⊢
        generalize e6 : upd H5 p (HO.tup (wl.map V.str)) = H6
        have g6 := g5.ld e6 hp5
        have nxp : x ≠ p := fun z => by rw [z, hp5] at hx5; cases hx5
        have hx6 := old_at e6 hp5 hx5
        have nS6 : (upd S3 p (HO.tup (wl.map V.str))) x = none := by rw [upd_ne nxp]; exact nS5
        have hp6 : (upd S3 p (HO.tup (wl.map V.str))) p = some (.tup (wl.map V.str)) := upd_same
        have mo6 : Same S3 (upd S3 p (HO.tup (wl.map V.str))) := upd0_ (Same.refl _) (Same.free g5.sub hp5)
        generalize upd S3 p (HO.tup (wl.map V.str)) = S6 at g6 nS6 hp6 mo6
        refine ⟨x, dx, p, wl, S6, rfl, hx6, nS6, hp6, w1, w4, hw, g6.sub, fun H7 S7 wt pt l7 g7 hx7 hwt hpt hl7 => ⟨rfl, ?_⟩⟩
        obtain ⟨g8, mo8, hx8⟩ := g6.fin (g4.free hx) g7 (live_of hx6) nS6 hx7
        have mo9 := (mo3.trans mo6).trans (g7.mono.trans mo8)
        refine cat H7 _ (V.ref x) us ts (.lf b ws) sa g8 (g8.sub _ _ (mo9 _ _ hsa)) (L2.Paired.mapP hp fun _ _ z => WishAt.mono mo9 z) ul ⟨x, dx, wt, pt, l7, rfl, hx8, ?_, mo8 _ _ hpt, ?_⟩ ets
        · rw [mo8 _ _ hwt, ewl, sd_sd]
        · rw [mo8 _ _ hl7, ewl, leaf_sd]
      rcases hor with ⟨b, ws, rfl, ok, ets⟩ | ⟨y, t0, t, rfl, ok, ets, ets'⟩
      · have q1 := e1.symm.trans (part_leaf b ws)
        obtain ⟨rfl, q2⟩ := Prod.mk.inj q1
        obtain ⟨_, rfl⟩ := Prod.mk.inj q2
        have q3 : wl = sd ws := e2.symm.trans (split_leaf ok.1 ok.2.2)
        rw [decide_eq_true (show hdS b ∈ (["never", "blocks"] : List Str) by cases b <;> decide +kernel)]
        walk_at "rd"
        cases b with
        | true =>
          walk_at "rd"
          exact ⟨q, _, rfl, .inr (sql (g4.sub _ _ hq3)), mk true ws rfl ok ets q3 rfl⟩
        | false =>
          walk_at "rd"
          exact ⟨q, _, rfl, .inr (sql (g4.sub _ _ hq3)), mk false ws rfl ok ets q3 rfl⟩
      · have q1 := e1.symm.trans (part_bh y)
        obtain ⟨rfl, q2⟩ := Prod.mk.inj q1
        obtain ⟨_, rfl⟩ := Prod.mk.inj q2
        have q3 : wl = [tl] := e2.symm.trans (split_one ok)
        rw [decide_eq_false (show ¬ ("behind" : Str) ∈ (["never", "blocks"] : List Str) by decide +kernel)]
        walk_at "rd"
        subst ets
        obtain ⟨us0, u, ts0, t1, eus, ets0, hp0, hu⟩ := pair_last hp (by rw [List.length_append]; exact Nat.le_add_left ..)
        obtain ⟨rfl, ett⟩ := List.append_inj' ets0 rfl
        have ett : t = t1 := (List.cons.inj ett).1
        subst ett
        subst eus
        refine ⟨q, _, rfl, .inl (sql (g4.sub _ _ hq3)), ?_⟩
        walk_at "rd"
        rw [if_neg (by rw [decide_eq_false (by rw [List.length_map, q3]; show ¬ (1 : Int) < ((1 : Nat) : Int); decide)]; decide)]
        walk_at "rd"
        refine ⟨by walk_at "sz", fun n1 hn1 => ?_⟩
        generalize eH5 : upd H4 n1 (HO.lst []) = H5
        have g5 := g4.l0 eH5 hn1
        refine rd_nil (g5.sub _ _ (mo3 _ _ hsa)) (new_at eH5) ?_
        walk_at "rd"
        rw [if_neg (by cases us0 <;> exact Bool.false_ne_true)]
        walk_at "rd"
        refine ⟨sa, _, rfl, sql (g5.sub _ _ (mo3 _ _ hsa)), fun la hla => ?_⟩
        rw [cut_l1]
        generalize eH6 : upd H5 la (HO.lst us0) = H6
        have g6 := g5.l0 eH6 hla
        have hla6 := new_at eH6
        walk_at "rd"
        refine rd_ix (g6.sub _ _ hq3) (by rw [q3]; exact at_0 ..) ?_
        walk_at "rd"
        refine rd_ix (g6.sub _ _ (mo3 _ _ hsa)) (at_l1 ..) ?_
        intro x dx hx hdx ne
        refine g6.made hx hdx ne (He.ga K "Behind") fun H7 e7 g7 hx7 nS7 sm7 _ => ?_
        rw [show upd (upd H6 dx (HO.own x)) x (HO.ins (He.ga K (Str.ofString "Behind")) dx []) = H7 from e7]
        have lt : (toks t).length ≤ 50 := by
          have q := hst.size
          rw [q, List.length_append] at hl
          have := flat_le (ts := t0 ++ [t]) (t := t) (List.mem_append_right _ (List.mem_singleton.mpr rfl))
          omega
        refine ⟨x, dx, tl, u, toks t, S3, rfl, hx7, nS7, ok, (hu.mono mo3).tok, lt, g7.sub, fun H8 S8 pt l8 g8 hx8 hpt8 hl8 => ⟨rfl, ?_⟩⟩
        obtain ⟨g9, mo9, hx9⟩ := g7.fin (g6.free hx) g8 (live_of hx7) nS7 hx8
        have mo := mo3.trans (g8.mono.trans mo9)
        have nlx : ¬ one x la := fun z => by rw [← show la = x from z, hla6] at hx; cases hx
        have hla9 := g8.kept (sm7 _ _ hla6) nlx
        refine cat H8 _ (V.ref x) us0 t0 (.bh tl t) la g9 hla9 (L2.Paired.mapP hp0 fun _ _ z => WishAt.mono mo z) (by have := ul; rw [List.length_append] at this; omega) ⟨x, dx, pt, l8, u, rfl, hx9, mo9 _ _ hpt8, mo9 _ _ hl8, hu.mono mo⟩ ets'
end
end Lst

/-! ## LRead2 -/
namespace Lst
open PySem PySem.Spec PyProof.Rows L2
def sp_tread (K : PySem.W.Frag) : Sp := fun vs H Q _ => ∃ (tok : Str) (v : V) (ts ts' : List Tr) (S : Hp), vs = [.str tok, v] ∧ StkAt K S v ts ∧ Stp ts tok ts' ∧ (ts'.flatMap toks).length ≤ 20 ∧ Same S H ∧ ∀ (H' S' : Hp) (v' : V), Gr H S H' S' → StkAt K S' v' ts' → v' ≠ .non → Q v' H'
theorem StkAt.ref {K : PySem.W.Frag} {S : Hp} {v : V} {ts : List Tr} (h : StkAt K S v ts) : v ≠ .non := by
  obtain ⟨a, us, rfl, _⟩ := h
  exact fun z => nomatch z
section
variable {P : Program} {w : World} {K : PySem.W.Frag} {mg : Str → Option Value} {base : Heap}
theorem ok_tread (T : Txt K mg) (T2 : Txt2 K P mg) (G_words_token : OkG P w K mg base CX0 4 "words_token" P_words_token (sp_wtok K)) (GO : OkM P w K mg base CX0 2 "Both" "__init__" P_Both_init (sp_opinit K true)) (GE : OkM P w K mg base CX0 2 "Either" "__init__" P_Either_init (sp_opinit K false))
    (GM : OkM P w K mg base CX0 3 "Named" "__init__" P_Named_init (sp_nminit K)) (G_is_name : OkG P w K mg base CX0 2 "is_name" P_is_name sp_is_name) : OkG P w K mg base CX0 5 "token_read" P_token_read (sp_tread K) := by
  have mkO := mk_of T2 "Both" "Both"
  have mkE := mk_of T2 "Either" "Either"
  have mkM := mk_of T2 "Named" "Named"
  have bO : L2.Binds K (fdA K (He.ma K (He.ga K "Both") "__init__")) P_Both_init [] := by
    obtain ⟨c, F⟩ := T2.fs 3 (d_Both_init, "Both") rfl
    exact F.binds fun kV doc pm an ct cc us hl => match us, hl with | [_, _, _], _ => rfl
  have bE : L2.Binds K (fdA K (He.ma K (He.ga K "Either") "__init__")) P_Either_init [] := by
    obtain ⟨c, F⟩ := T2.fs 4 (d_Either_init, "Either") rfl
    exact F.binds fun kV doc pm an ct cc us hl => match us, hl with | [_, _, _], _ => rfl
  have bM : L2.Binds K (fdA K (He.ma K (He.ga K "Named") "__init__")) P_Named_init [] := by
    obtain ⟨c, F⟩ := T2.fs 5 (d_Named_init, "Named") rfl
    exact F.binds fun kV doc pm an ct cc us hl => match us, hl with | [_, _], _ => rfl
  refine (T.f_token_read).ok sc_token_read (fun vs H Q E h => ?_) (fun cdv A outer s H vs Q E hr h => ?_)
  · obtain ⟨tok, v, ts, ts', S, rfl, _⟩ := h
    rfl
  · obtain ⟨tok, v, ts, ts', S, rfl, hv, hst, hl, hS, k⟩ := h
    have hv' := hv
    obtain ⟨sa, us, rfl, hsa, hp⟩ := hv
    have ul : us.length ≤ 20 := by
      have q := hst.size
      rw [q, List.length_append] at hl
      have := tree_count ts
      rw [hp.length]
      omega
    refine ⟨_, PSs.nox (pss_cons (ps_if (pt_cmpR op_in_sign pe_str (pv 0) rfl) (pss_one (ps_ret (pe_call G_words_token (hr.mono (by first | decide | omega)) (by rfl) (T.g "words_token") (T.k "words_token") T.b_words_token .nil pass0 (pa_cons (pv 0) (pa_cons (pv 1) pa_nil))))) pss_nil)
        (pss_cons (ps_if (pt_cmpR (inK (K := K) rfl) (pv 0) (pe_tup (pa_cons pe_str (pa_cons pe_str pa_nil))) (by rfl)) (pss_cons (ps_if (pt_cmpR op_lt (pe_callB (lenK (K := K) rfl) (by rfl) T.f (by decide +kernel) (pa_cons (pv 1) pa_nil)) pe_int (nomark _)) (pss_one (ps_ret pe_non)) pss_nil)
        (pss_cons (ps_asg (pe_slice (sl_listK (K := K) rfl) (pv 1) (po_some (pe_un un_neg pe_int)) po_none) (pg_unl (n := 2) rfl (pgs_cons (pg_name (i := 2) sc_token_read.nd rfl (Or.inl rfl)) (pgs_cons (pg_name (i := 3) sc_token_read.nd rfl (Or.inl rfl)) pgs_nil))))
        (pss_one (ps_ret (pe_op op_cat (pe_slice (sl_listK (K := K) rfl) (pv 1) po_none (po_some (pe_un un_neg pe_int))) (pe_lst (pa_cons (pe_ifExp (pt_cmpR op_eq (pv 0) pe_str (nomark _)) (pe_make mkO GO (hr.mono (by first | decide | omega)) (by rfl) (T.g "Both") bO .nil pass0 (pa_cons (pv 2) (pa_cons (pv 3) pa_nil))) (pe_make mkE GE (hr.mono (by first | decide | omega)) (by rfl) (T.g "Either") bE .nil pass0 (pa_cons (pv 2) (pa_cons (pv 3) pa_nil)))) pa_nil))))))) pss_nil)
        (pss_one (ps_ret (pe_ifExp (pt_val (pe_call G_is_name (hr.mono (by first | decide | omega)) (by rfl) (T.g "is_name") (T.k "is_name") T.b_is_name .nil pass0 (pa_cons (pv 0) pa_nil))) (pe_op op_cat (pv 1) (pe_lst (pa_cons (pe_make mkM GM (hr.mono (by first | decide | omega)) (by rfl) (T.g "Named") bM .nil pass0 (pa_cons (pv 0) pa_nil)) pa_nil))) pe_non))))), ?_⟩
    walk_at "rs"
    walk_at "rd"
    change if decide (58 ∈ sg tok) = true then _ else _
    have cat : ∀ (H5 S5 : Hp) (u : V) (us0 : List V) (ts0 : List Tr) (t : Tr) (la : Addr), Gr H S H5 S5 → H5 la = some (.lst us0) → Paired (WishAt K S5) us0 ts0 → us0.length ≤ 20 → WishAt K S5 u t → ts' = ts0 ++ [t] → [u].length ≤ sizeLine ∧ ∀ p, H5 p = none → rCat (V.ref la) (V.ref p) (upd H5 p (HO.lst [u])) Q := by
      intro H5 S5 u us0 ts0 t la g5 hla hp0 hl0 hu et
      refine ⟨by walk_at "sz", fun p hp => ?_⟩
      generalize e6 : upd H5 p (HO.lst [u]) = H6
      have g6 := g5.l0 e6 hp
      refine ⟨la, p, us0, [u], rfl, rfl, old_at e6 hp hla, new_at e6, szE (by show _ + 1 ≤ _; omega), fun r hr => ?_⟩
      have mo6 : Same S5 (upd S5 r (HO.lst (us0 ++ [u]))) := upd0_ (Same.refl _) (Same.free g6.sub hr)
      refine k _ _ (V.ref r) (g6.laid hr) ⟨r, _, rfl, upd_same, ?_⟩ (fun z => nomatch z)
      rw [et]
      exact (L2.Paired.mapP hp0 fun _ _ z => WishAt.mono mo6 z).snoc (hu.mono mo6)
    have g0 : Gr H S H S := Gm.rfl' hS
    by_cases c58 : 58 ∈ sg tok
    · rw [if_pos (decide_eq_true c58)]
      walk_at "rd"
      have hst2 := hst
      refine ⟨tok, V.ref sa, ts, ts', S, rfl, hv', hst, hl, hS, ?_, fun H1 S1 v1 g1 h1 => k H1 S1 v1 g1 h1 h1.ref⟩
      cases hst2 with
      | nm h => exact absurd c58 (low_not (nameOk_low h))
      | lf h => exact .inl ⟨_, _, rfl, h, rfl⟩
      | bh h => exact .inr ⟨_, _, _, rfl, h, rfl, rfl⟩
      | op => exact absurd c58 (by rename_i b; cases b <;> decide +kernel)
    · rw [if_neg (by rw [decide_eq_false c58]; decide)]
      walk_at "rd"
      refine ⟨by walk_at "sz", fun p hpp => ?_⟩
      generalize eH1 : upd H p (HO.tup [V.str (Str.ofString "both"), V.str (Str.ofString "either")]) = H1
      have g1 := g0.l0 eH1 hpp
      refine rd_in (zs := ["both", "either"]) (.inr (sqt (new_at eH1))) ?_
      walk_at "rd"
      cases hst with
      | lf h => exact absurd (leaf58 _ _) c58
      | bh h => exact absurd (bh58 _) c58
      | nm hn =>
        have hne : ¬ tok ∈ (["both", "either"] : List Str) := fun m => by
          obtain ⟨_, h2, h3⟩ := nameOk_ne hn
          rcases List.mem_cons.mp m with e | e
          · exact h2 e
          · exact h3 (List.mem_singleton.mp e)
        rw [if_neg (by rw [decide_eq_false hne]; decide)]
        walk_at "rd"
        refine ⟨Nat.le_trans (nameOk_len hn) (by decide), fun H2 s2 => ?_⟩
        rw [hn]
        have g2 := g1.trans (Gr.ofSame g1.sub s2)
        walk_at "rd"
        intro x dx hx hdx ne
        refine g2.made hx hdx ne (He.ga K "Named") fun H3 e3 g3 hx3 nS3 sm3 _ => ?_
        rw [show upd (upd H2 dx (HO.own x)) x (HO.ins (He.ga K (Str.ofString "Named")) dx []) = H3 from e3]
        refine ⟨x, dx, tok, S, rfl, hx3, nS3, hn, g3.sub, fun H8 S8 pt l8 g8 hx8 hpt8 hl8 => ⟨rfl, ?_⟩⟩
        obtain ⟨g9, mo9, hx9⟩ := g3.fin (g2.free hx) g8 (live_of hx3) nS3 hx8
        have mo := g8.mono.trans mo9
        exact cat H8 _ (V.ref x) us ts (.nm tok) sa g9 (g9.sub _ _ (mo _ _ hsa)) (L2.Paired.mapP hp fun _ _ z => WishAt.mono mo z) ul ⟨x, dx, pt, l8, rfl, hx9, mo9 _ _ hpt8, mo9 _ _ hl8⟩ rfl
      | op =>
        rename_i t0 l r b
        rw [if_pos (decide_eq_true (show opS b ∈ (["both", "either"] : List Str) by cases b <;> decide +kernel))]
        walk_at "rd"
        obtain ⟨us1, u2, ts1, t2, eus, ets1, hp1, hu2⟩ := pair_last hp (by rw [List.length_append]; exact Nat.le_add_left ..)
        have ets1 : (t0 ++ [l]) ++ [r] = ts1 ++ [t2] := by rw [← ets1, List.append_assoc]; rfl
        obtain ⟨rfl, ett⟩ := List.append_inj' ets1 rfl
        have ett : r = t2 := (List.cons.inj ett).1
        subst ett
        obtain ⟨us0, u1, ts0, t1, eus1, ets0, hp0, hu1⟩ := pair_last hp1 (by rw [List.length_append]; exact Nat.le_add_left ..)
        obtain ⟨rfl, ett⟩ := List.append_inj' ets0 rfl
        have ett : l = t1 := (List.cons.inj ett).1
        subst ett
        subst eus1
        subst eus
        rw [List.append_assoc] at hsa
        have hsa : S sa = some (.lst (us0 ++ [u1, u2])) := hsa
        have ul2 : (us0 ++ [u1, u2]).length = us0.length + 2 := List.length_append
        refine ⟨sa, _, rfl, .inl (sql (g1.sub _ _ hsa)), ?_⟩
        walk_at "rd"
        rw [if_neg (by rw [decide_eq_false (by rw [ul2]; omega)]; decide)]
        walk_at "rd"
        refine ⟨sa, _, rfl, sql (g1.sub _ _ hsa), fun n1 hn1 => ?_⟩
        rw [cut_r2]
        generalize eH2 : upd H1 n1 (HO.lst [u1, u2]) = H2
        have g2 := g1.l0 eH2 hn1
        refine ⟨n1, _, rfl, sql (new_at eH2), rfl, ?_⟩
        walk_at "rd"
        refine ⟨sa, _, rfl, sql (g2.sub _ _ hsa), fun la hla => ?_⟩
        rw [cut_l2]
        generalize eH3 : upd H2 la (HO.lst us0) = H3
        have g3 := g2.l0 eH3 hla
        have hla3 := new_at eH3
        have hl2 : (toks l).length + (toks r).length ≤ 50 := by
          have q := (Stp.op (ts := t0) (l := l) (r := r) (b := b)).size
          rw [q, List.length_append, List.flatMap_append, List.length_append] at hl
          have : ([l, r].flatMap toks).length = (toks l).length + (toks r).length := by
            show (toks l ++ (toks r ++ [])).length = _
            rw [List.append_nil, List.length_append]
          omega
        have mkop : ∀ x dx, H3 x = none → H3 dx = none → dx ≠ x → sp_opinit K b [V.ref x, u1, u2] (upd (upd H3 dx (HO.own x)) x (HO.ins (He.ga K (if b then "Both" else "Either")) dx [])) (fun v_4 H2 => v_4 = V.non ∧ [V.ref x].length ≤ sizeLine ∧ ∀ p, H2 p = none → rCat (V.ref la) (V.ref p) (upd H2 p (HO.lst [V.ref x])) Q) E := by
          intro x dx hx hdx ne
          refine g3.made hx hdx ne (He.ga K (if b then "Both" else "Either")) fun H5 e5 g5 hx5 nS5 sm5 _ => ?_
          rw [e5]
          refine ⟨x, dx, u1, u2, toks l, toks r, S, rfl, hx5, nS5, hu1.tok, hu2.tok, hl2, g5.sub, fun H8 S8 pt l8 g8 hx8 hpt8 hl8 => ⟨rfl, ?_⟩⟩
          obtain ⟨g9, mo9, hx9⟩ := g5.fin (g3.free hx) g8 (live_of hx5) nS5 hx8
          have mo := g8.mono.trans mo9
          have nlx : ¬ one x la := fun z => by rw [← show la = x from z, hla3] at hx; cases hx
          have hla9 := g8.kept (sm5 _ _ hla3) nlx
          exact cat H8 _ (V.ref x) us0 t0 (.op b l r) la g9 hla9 (L2.Paired.mapP hp0 fun _ _ z => WishAt.mono mo z) (by rw [List.length_append, List.length_append] at ul; omega) ⟨x, dx, pt, l8, u1, u2, rfl, hx9, mo9 _ _ hpt8, mo9 _ _ hl8, hu1.mono mo, hu2.mono mo⟩ rfl
        cases b with
        | true =>
          walk_at "rd"
          exact mkop
        | false =>
          walk_at "rd"
          exact mkop
end
end Lst

/-! ## LTok3 -/
namespace Lst
open PySem PySem.Spec PyProof.Rows L2
section
variable {P : Program} {w : World} {K : PySem.W.Frag} {mg : Str → Option Value} {base : Heap}
theorem ok_renamedS (T : Txt K mg) (d : Nat) (G_l_renamed : OkG P w K mg base CX0 (d + 1) "_law_renamed" P_l_renamed (sp_renamed d)) : OkG P w K mg base CX0 (d + 2) "_law_renamed" P_l_renamed (sp_renamed (d + 1)) := by
  refine (T.f_l_renamed).ok sc_l_renamed (fun vs H Q E h => ?_) (fun cdv A outer s H vs Q E hr h => ?_)
  · obtain ⟨u, t, x, y, S, rfl, _⟩ := h
    rfl
  · obtain ⟨u, t, x, y, S, rfl, ht, hd, hS, k⟩ := h
    refine ⟨_, PSs.nox (pss_cons (ps_if (pt_cmpR op_eq (pe_ix (ix_listK (K := K) rfl) (pv 0) pe_int (fun _ _ => rfl)) pe_str (nomark _)) (pss_one (ps_ret (pe_lst (pa_cons pe_str (pa_cons (pe_ifExp (pt_cmpR op_eq (pe_ix (ix_listK (K := K) rfl) (pv 0) pe_int (fun _ _ => rfl)) (pv 1) (nomark _)) (pv 2) (pe_ix (ix_listK (K := K) rfl) (pv 0) pe_int (fun _ _ => rfl))) pa_nil))))) pss_nil)
        (pss_cons (ps_if (pt_cmpR (inK (K := K) rfl) (pe_ix (ix_listK (K := K) rfl) (pv 0) pe_int (fun _ _ => rfl)) (pe_tup (pa_cons pe_str (pa_cons pe_str pa_nil))) (by rfl)) (pss_one (ps_ret (pv 0))) pss_nil)
        (pss_cons (ps_if (pt_cmpR op_eq (pe_ix (ix_listK (K := K) rfl) (pv 0) pe_int (fun _ _ => rfl)) pe_str (nomark _)) (pss_one (ps_ret (pe_lst (pa_cons pe_str (pa_cons (pe_ix (ix_listK (K := K) rfl) (pv 0) pe_int (fun _ _ => rfl)) (pa_cons (pe_call G_l_renamed (hr.mono (by first | decide | omega)) (by rfl) (T.g "_law_renamed") (T.k "_law_renamed") T.b_l_renamed .nil pass0 (pa_cons (pe_ix (ix_listK (K := K) rfl) (pv 0) pe_int (fun _ _ => rfl)) (pa_cons (pv 1) (pa_cons (pv 2) pa_nil)))) pa_nil)))))) pss_nil)
        (pss_one (ps_ret (pe_lst (pa_cons (pe_ix (ix_listK (K := K) rfl) (pv 0) pe_int (fun _ _ => rfl)) (pa_cons (pe_call G_l_renamed (hr.mono (by first | decide | omega)) (by rfl) (T.g "_law_renamed") (T.k "_law_renamed") T.b_l_renamed .nil pass0 (pa_cons (pe_ix (ix_listK (K := K) rfl) (pv 0) pe_int (fun _ _ => rfl)) (pa_cons (pv 1) (pa_cons (pv 2) pa_nil)))) (pa_cons (pe_call G_l_renamed (hr.mono (by first | decide | omega)) (by rfl) (T.g "_law_renamed") (T.k "_law_renamed") T.b_l_renamed .nil pass0 (pa_cons (pe_ix (ix_listK (K := K) rfl) (pv 0) pe_int (fun _ _ => rfl)) (pa_cons (pv 1) (pa_cons (pv 2) pa_nil)))) pa_nil))))))))), ?_⟩
    walk_at "rs"
    have g0 : Gr H S H S := Gm.rfl' hS
    cases t with
    | nm n =>
      obtain ⟨a, rfl, ha⟩ := ht
      walk_at "rd"
      refine rd_ix (hS _ _ ha) (at_0 ..) ?_
      walk_at "rd"
      refine rd_ix (hS _ _ ha) (by rfl) ?_
      walk_at "rd"
      by_cases c : n = x
      · rw [if_pos (decide_eq_true (by rw [c]))]
        walk_at "rd"
        refine ⟨by walk_at "sz", fun p hp => ?_⟩
        generalize e1 : upd H p (HO.lst [V.str (Str.ofString "name"), V.str y]) = H1
        refine k H1 _ (V.ref p) (g0.ld e1 hp) ⟨p, rfl, ?_⟩
        rw [if_pos c]
        exact upd_same
      · rw [if_neg (by rw [decide_eq_false (fun z => c (V.str.inj z))]; decide)]
        walk_at "rd"
        refine rd_ix (hS _ _ ha) (by rfl) ?_
        refine ⟨by walk_at "sz", fun p hp => ?_⟩
        generalize e1 : upd H p (HO.lst [V.str (Str.ofString "name"), V.str n]) = H1
        refine k H1 _ (V.ref p) (g0.ld e1 hp) ⟨p, rfl, ?_⟩
        rw [if_neg c]
        exact upd_same
    | lf b ws =>
      have ht' := ht
      obtain ⟨a, l, rfl, ha, hw⟩ := ht
      walk_at "rd"
      refine rd_ix (hS _ _ ha) (at_0 ..) ?_
      have c1 : decide (V.str (hdS b) = V.str "name") = false := by cases b <;> decide +kernel
      walk_at "rd"
      rw [if_neg (by rw [c1]; decide)]
      walk_at "rd"
      refine rd_ix (hS _ _ ha) (at_0 ..) ?_
      refine ⟨by walk_at "sz", fun p hp => ?_⟩
      generalize e1 : upd H p (HO.tup [V.str (Str.ofString "never"), V.str (Str.ofString "blocks")]) = H1
      have g1 := g0.l0 e1 hp
      refine rd_in (zs := ["never", "blocks"]) (.inr (sqt (new_at e1))) ?_
      rw [show decide (hdS b ∈ (["never", "blocks"] : List Str)) = true by cases b <;> decide +kernel]
      walk_at "rd"
      exact k H1 S _ g1 ht'
    | bh z t =>
      obtain ⟨a, u, rfl, ha, hu⟩ := ht
      walk_at "rd"
      refine rd_ix (hS _ _ ha) (at_0 ..) ?_
      walk_at "rd"
      refine rd_ix (hS _ _ ha) (at_0 ..) ?_
      refine ⟨by walk_at "sz", fun p hp => ?_⟩
      generalize e1 : upd H p (HO.tup [V.str (Str.ofString "never"), V.str (Str.ofString "blocks")]) = H1
      have g1 := g0.l0 e1 hp
      refine rd_in (zs := ["never", "blocks"]) (.inr (sqt (new_at e1))) ?_
      rw [show decide (("behind" : Str) ∈ (["never", "blocks"] : List Str)) = false by decide +kernel]
      walk_at "rd"
      refine rd_ix (g1.sub _ _ ha) (at_0 ..) ?_
      walk_at "rd"
      refine rd_ix (g1.sub _ _ ha) (by rfl) ?_
      walk_at "rd"
      refine rd_ix (g1.sub _ _ ha) (by rfl) ?_
      walk_at "rd"
      refine ⟨u, t, x, y, S, rfl, hu, Nat.lt_of_succ_lt_succ hd, g1.sub, fun H2 S2 v g2 hv => ?_⟩
      have g3 := g1.trans g2
      refine ⟨by walk_at "sz", fun q hq => ?_⟩
      generalize e4 : upd H2 q (HO.lst [V.str (Str.ofString "behind"), V.str z, v]) = H3
      exact k H3 _ (V.ref q) (g3.ld e4 hq) ⟨q, v, rfl, upd_same, hv.mono (upd0_ (Same.refl _) (Same.free g3.sub hq))⟩
    | op b l r =>
      obtain ⟨a, u, v, rfl, ha, hx, hy⟩ := ht
      have hd2 : depth l < d ∧ depth r < d := by
        have : max (depth l) (depth r) + 1 < d + 1 := hd
        omega
      walk_at "rd"
      refine rd_ix (hS _ _ ha) (at_0 ..) ?_
      walk_at "rd"
      rw [if_neg (by rw [show decide (V.str (opS b) = V.str "name") = false by cases b <;> decide +kernel]; decide)]
      walk_at "rd"
      refine rd_ix (hS _ _ ha) (at_0 ..) ?_
      refine ⟨by walk_at "sz", fun p hp => ?_⟩
      generalize e1 : upd H p (HO.tup [V.str (Str.ofString "never"), V.str (Str.ofString "blocks")]) = H1
      have g1 := g0.l0 e1 hp
      refine rd_in (zs := ["never", "blocks"]) (.inr (sqt (new_at e1))) ?_
      rw [show decide (opS b ∈ (["never", "blocks"] : List Str)) = false by cases b <;> decide +kernel]
      walk_at "rd"
      refine rd_ix (g1.sub _ _ ha) (at_0 ..) ?_
      walk_at "rd"
      rw [if_neg (by rw [show decide (V.str (opS b) = V.str "behind") = false by cases b <;> decide +kernel]; decide)]
      walk_at "rd"
      refine rd_ix (g1.sub _ _ ha) (at_0 ..) ?_
      walk_at "rd"
      refine rd_ix (g1.sub _ _ ha) (by rfl) ?_
      walk_at "rd"
      refine ⟨u, l, x, y, S, rfl, hx, hd2.1, g1.sub, fun H2 S2 u2 g2 hu2 => ?_⟩
      have g3 := g1.trans g2
      walk_at "rd"
      refine rd_ix (g3.sub _ _ (g3.mono _ _ ha)) (by rfl) ?_
      walk_at "rd"
      refine ⟨v, r, x, y, S2, rfl, hy.mono g3.mono, hd2.2, g3.sub, fun H4 S4 v2 g4 hv2 => ?_⟩
      have g5 := g3.trans g4
      refine ⟨by walk_at "sz", fun q hq => ?_⟩
      generalize e5 : upd H4 q (HO.lst [V.str (opS b), u2, v2]) = H5
      have mo : Same S4 (upd S4 q (HO.lst [V.str (opS b), u2, v2])) := upd0_ (Same.refl _) (Same.free g5.sub hq)
      exact k H5 _ (V.ref q) (g5.ld e5 hq) ⟨q, u2, v2, rfl, upd_same, hu2.mono (g4.mono.trans mo), hv2.mono mo⟩
theorem ok_renamed (T : Txt K mg) : ∀ d, OkG P w K mg base CX0 (d + 1) "_law_renamed" P_l_renamed (sp_renamed d)
  | 0 => ok_renamed0 T
  | d + 1 => ok_renamedS T d (ok_renamed T d)
end
end Lst

/-! ## LTok4 -/
namespace Lst
open PySem PySem.Spec PyProof.Rows L2
theorem rd_sl2 {K : PySem.W.Frag} {H : Hp} {p : Addr} {x y : V} {r : List V} {Q : VK} (h : H p = some (.tup (x :: y :: r))) (q : ∀ (p' : Addr) (H1 : Hp), Same H H1 → H1 p' = some (.tup [x, y]) → Q (.ref p') H1) : rSlA K (.ref p) none (some 2) H Q := by
  refine ⟨p, _, rfl, sqt h, fun e => ?_, fun _ p' hp => ?_⟩
  · cases r with
    | nil => exact q p H (Same.refl H) h
    | cons z r =>
      have e2 := e.2
      rw [show HT.sIx (x :: y :: z :: r).length (x :: y :: z :: r).length (some 2) = min 2 (x :: y :: z :: r).length from HT.sIx_nat _ _ 2] at e2
      simp only [List.length_cons] at e2
      omega
  · rw [show cutV (x :: y :: r) none (some 2) = [x, y] from cut_to (k := 2)]
    exact q p' _ (upd0_ (Same.refl H) hp) upd_same
section
variable {P : Program} {w : World} {K : PySem.W.Frag} {mg : Str → Option Value} {base : Heap}
theorem ok_done (T : Txt K mg) (G_l_renamed : OkG P w K mg base CX0 6 "_law_renamed" P_l_renamed (sp_renamed 5)) : OkG P w K mg base CX0 7 "_law_done" P_l_done sp_done := by
  refine (T.f_l_done).ok sc_l_done (fun vs H Q E h => ?_) (fun cdv A outer s H vs Q E hr h => ?_)
  · obtain ⟨m, c, M, cm, S, rfl, _⟩ := h
    rfl
  · obtain ⟨m, c, M, cm, S, rfl, ⟨ma, us, rfl, hm, hp⟩, hc, ml, md, hS, k⟩ := h
    have ul := hp.length
    refine ⟨_, PSs.nox (pss_cons (ps_asg (pe_slice (sl_tupK (K := K) rfl) (pv 1) po_none (po_some pe_int)) (pg_tupK (K := K) (n := 2) rfl rfl (pgs_cons (pg_name (i := 2) sc_l_done.nd rfl (Or.inl rfl)) (pgs_cons (pg_name (i := 3) sc_l_done.nd rfl (Or.inr rfl)) pgs_nil))))
        (pss_cons (ps_if (pt_cmpR op_eq (pv 2) pe_str (nomark _)) (pss_one (ps_ret (pe_op op_cat (pv 0) (pe_lst (pa_cons (pe_tup (pa_cons (pv 3) (pa_cons (pe_ix (ix_tupK (K := K) rfl) (pv 1) pe_int (fun _ _ => rfl)) pa_nil))) pa_nil))))) pss_nil)
        (pss_cons (ps_if (pt_cmpR op_eq (pv 2) pe_str (nomark _)) (pss_one (ps_ret (pe_lc (own := [("_law_one", 4), ("_law_tree_here", 5)]) (g := (gTup K 2 (gCons (gName 4) (gCons (gName 5) gNil)))) (tt := tYes) rfl sc_l_done.nd (pi_listK (K := K) rfl (pv 0)) (by first | exact blkOk_by (N := N_l_done) (sc := defScope s_l_done) (by decide +kernel) | exact blkOk_by (N := N_l_done) (sc := { kind := .function, names := [], isGenerator := false, isCoroutine := false }) (by decide +kernel)) (fun _ _ _ _ _ => (pg_tupK (K := K) (n := 2) rfl rfl (pgs_cons (pg_name (i := 4) sc_l_done.nd rfl (Or.inl rfl)) (pgs_cons (pg_name (i := 5) sc_l_done.nd rfl (Or.inl rfl)) pgs_nil)))) (fun _ _ _ _ _ => pts_nil) (fun _ _ _ _ _ => (pe_tup (pa_cons (pv 4) (pa_cons (pe_ifExp (pt_cmpR op_eq (pv 4) (pv 3) (nomark _)) (pe_ix (ix_tupK (K := K) rfl) (pv 1) pe_int (fun _ _ => rfl)) (pv 5)) pa_nil))))))) pss_nil)
        (pss_cons (ps_if (pt_cmpR op_eq (pv 2) pe_str (nomark _)) (pss_one (ps_ret (pe_lc (own := [("_law_one", 4), ("_law_tree_here", 5)]) (g := (gTup K 2 (gCons (gName 4) (gCons (gName 5) gNil)))) rfl sc_l_done.nd (pi_listK (K := K) rfl (pv 0)) (by first | exact blkOk_by (N := N_l_done) (sc := defScope s_l_done) (by decide +kernel) | exact blkOk_by (N := N_l_done) (sc := { kind := .function, names := [], isGenerator := false, isCoroutine := false }) (by decide +kernel)) (fun _ _ _ _ _ => (pg_tupK (K := K) (n := 2) rfl rfl (pgs_cons (pg_name (i := 4) sc_l_done.nd rfl (Or.inl rfl)) (pgs_cons (pg_name (i := 5) sc_l_done.nd rfl (Or.inl rfl)) pgs_nil)))) (fun _ _ _ _ _ => pts_one (pt_cmpR op_ne (pv 4) (pv 3) (nomark _))) (fun _ _ _ _ _ => (pe_tup (pa_cons (pv 4) (pa_cons (pv 5) pa_nil))))))) pss_nil)
        (pss_one (ps_ret (pe_lc (own := [("_law_one", 4), ("_law_tree_here", 5)]) (g := (gTup K 2 (gCons (gName 4) (gCons (gName 5) gNil)))) (tt := tYes) rfl sc_l_done.nd (pi_listK (K := K) rfl (pv 0)) (by first | exact blkOk_by (N := N_l_done) (sc := defScope s_l_done) (by decide +kernel) | exact blkOk_by (N := N_l_done) (sc := { kind := .function, names := [], isGenerator := false, isCoroutine := false }) (by decide +kernel)) (fun _ _ _ _ _ => (pg_tupK (K := K) (n := 2) rfl rfl (pgs_cons (pg_name (i := 4) sc_l_done.nd rfl (Or.inl rfl)) (pgs_cons (pg_name (i := 5) sc_l_done.nd rfl (Or.inl rfl)) pgs_nil)))) (fun _ _ _ _ _ => pts_nil) (fun _ _ _ _ _ => (pe_tup (pa_cons (pe_ifExp (pt_cmpR op_eq (pv 4) (pv 3) (nomark _)) (pe_ix (ix_tupK (K := K) rfl) (pv 1) pe_int (fun _ _ => rfl)) (pv 4)) (pa_cons (pe_call G_l_renamed (hr.mono (by first | decide | omega)) (by rfl) (T.g "_law_renamed") (T.k "_law_renamed") T.b_l_renamed .nil pass0 (pa_cons (pv 5) (pa_cons (pv 3) (pa_cons (pe_ix (ix_tupK (K := K) rfl) (pv 1) pe_int (fun _ _ => rfl)) pa_nil)))) pa_nil))))))))))), ?_⟩
    walk_at "rs"
    walk_at "rd"
    cases cm with
    | put n t =>
      obtain ⟨a, u, rfl, ha, hu⟩ := hc
      refine rd_sl2 (hS _ _ ha) fun q H1 s1 hq => ⟨q, _, rfl, sqt hq, rfl, ?_⟩
      have g1 := Gr.ofSame hS s1
      walk_at "rd"
      refine rd_ixt (g1.sub _ _ ha) (by rfl) ?_
      refine ⟨by walk_at "sz", fun p hp1 => ?_⟩
      generalize e1 : upd H1 p (HO.tup [V.str n, u]) = H2
      have g2 := g1.ld e1 hp1
      refine ⟨by walk_at "sz", fun p2 hp2 => ?_⟩
      generalize e2 : upd H2 p2 (HO.lst [V.ref p]) = H3
      have g3 := g2.l0 e2 hp2
      refine ⟨ma, p2, us, [V.ref p], rfl, rfl, g3.sub _ _ (g2.mono _ _ hm), new_at e2, szE (by simp only [List.length_cons, List.length_nil]; omega), fun p3 hp3 => ?_⟩
      generalize e3 : upd H3 p3 (HO.lst (us ++ [V.ref p])) = H4
      have mo : Same (upd S p (HO.tup [V.str n, u])) (upd (upd S p (HO.tup [V.str n, u])) p3 (HO.lst (us ++ [V.ref p]))) := upd0_ (Same.refl _) (Same.free g3.sub hp3)
      have mo0 : Same S (upd S p (HO.tup [V.str n, u])) := upd0_ (Same.refl _) (Same.free g1.sub hp1)
      refine k H4 _ (V.ref p3) (g3.ld e3 hp3) ⟨p3, _, rfl, upd_same, ?_⟩
      exact (L2.Paired.mapP hp fun _ _ z => EntAt.mono (mo0.trans mo) z).snoc ⟨p, u, rfl, mo _ _ upd_same, hu.mono (mo0.trans mo)⟩
    | chg n t =>
      obtain ⟨a, u, rfl, ha, hu⟩ := hc
      refine rd_sl2 (hS _ _ ha) fun q H1 s1 hq => ⟨q, _, rfl, sqt hq, rfl, ?_⟩
      have g1 := Gr.ofSame hS s1
      walk_at "rd"
      refine ⟨⟨_, sql (g1.sub _ _ hm)⟩, fun D hD => ?_⟩
      refine lcg walk_list (fun i acc S => Paired (EntAt S) acc ((M.take i).map fun m => (m.1, if m.1 = n then t else m.2))) noZ noM hD g1.sub .nil trivial (fun _ _ _ _ => trivial) (fun i H9 S9 _ _ g _ _ => sql (g.sub _ _ (g.mono _ _ hm))) ?_ ?_
      · rintro i x H2 H3 S2 acc hi g2 r _ e eS ⟨rfl, hx⟩
        obtain ⟨m, hm1, b, v, rfl, hb, hv⟩ := pair_at hp hx
        have g3 := g1.trans g2
        walk_at "rs"
        refine ⟨b, _, rfl, sqt (g3.sub _ _ (g3.mono _ _ hb)), rfl, ?_⟩
        walk_at "rd"
        have lm : i < M.length := by omega
        have al : acc.length ≤ 100 := by rw [r.length, List.length_map, List.length_take]; omega
        have fin : ∀ v' t', TreeAt S2 v' t' → t' = (if m.1 = n then t else m.2) → [V.str m.1, v'].length ≤ sizeLine ∧ ∀ p, H3 p = none → ∃ acc, upd H3 p (.tup [V.str m.1, v']) D = some (.lst acc) ∧ acc.length < sizeLine ∧ LcP noM H1 S D (fun i acc S => Paired (EntAt S) acc ((M.take i).map fun m => (m.1, if m.1 = n then t else m.2))) noZ (i + 1) (upd (upd H3 p (.tup [V.str m.1, v'])) D (.lst (acc ++ [V.ref p]))) := by
          intro v' t' ht' he
          refine ⟨by walk_at "sz", fun p hp3 => ?_⟩
          generalize e3 : upd H3 p (HO.tup [V.str m.1, v']) = H4
          have g4 : Gm noM H3 S2 H4 (upd S2 p (HO.tup [V.str m.1, v'])) := (Gm.rfl' g2.sub).ld e3 hp3
          refine LcP.add hD (fun z => z) (fun _ _ _ _ => trivial) g2 e eS g4 (szL (by omega)) ?_ trivial
          rw [take_snoc hm1, List.map_append]
          refine (L2.Paired.mapP r fun _ _ z => EntAt.mono g4.mono z).snoc ⟨p, v', rfl, upd_same, ?_⟩
          show TreeAt _ v' (if m.1 = n then t else m.2)
          rw [← he]
          exact ht'.mono g4.mono
        by_cases c : m.1 = n
        · rw [if_pos (decide_eq_true (by rw [c]))]
          walk_at "rd"
          refine rd_ixt (g3.sub _ _ (g3.mono _ _ ha)) (by rfl) ?_
          exact fin u t (hu.mono g3.mono) (by rw [if_pos c])
        · rw [if_neg (by rw [decide_eq_false (fun z => c (V.str.inj z))]; decide)]
          walk_at "rd"
          exact fin v m.2 (hv.mono g3.mono) (by rw [if_neg c])
      · rintro H2 S2 acc g2 r _ e eS
        rw [ul, List.take_of_length_le (Nat.le_refl _)] at r
        have g3 := (g1.trans g2).freeze e (g1.free hD) eS
        exact k H2 _ (V.ref D) g3 ⟨D, acc, rfl, upd_same, L2.Paired.mapP r fun _ _ z => EntAt.mono (upd0_ (Same.refl _) eS) z⟩
    | drp n =>
      obtain ⟨a, rfl, ha⟩ := hc
      refine rd_sl2 (hS _ _ ha) fun q H1 s1 hq => ⟨q, _, rfl, sqt hq, rfl, ?_⟩
      have g1 := Gr.ofSame hS s1
      walk_at "rd"
      refine ⟨⟨_, sql (g1.sub _ _ hm)⟩, fun D hD => ?_⟩
      refine lcg walk_list (fun i acc S => Paired (EntAt S) acc ((M.take i).filter fun m => !decide (m.1 = n))) noZ noM hD g1.sub .nil trivial (fun _ _ _ _ => trivial) (fun i H9 S9 _ _ g _ _ => sql (g.sub _ _ (g.mono _ _ hm))) ?_ ?_
      · rintro i x H2 H3 S2 acc hi g2 r _ e eS ⟨rfl, hx⟩
        obtain ⟨m, hm1, b, v, rfl, hb, hv⟩ := pair_at hp hx
        have g3 := g1.trans g2
        walk_at "rs"
        refine ⟨b, _, rfl, sqt (g3.sub _ _ (g3.mono _ _ hb)), rfl, ?_⟩
        walk_at "rd"
        have lm : i < M.length := by omega
        have al : acc.length ≤ 100 := by
          rw [r.length]
          exact Nat.le_trans (List.length_filter_le _ _) (by rw [List.length_take]; omega)
        by_cases c : m.1 = n
        · rw [if_neg (by rw [decide_eq_true (by rw [c])]; decide)]
          refine LcP.skip (fun z => z) g2 e eS (Gm.rfl' g2.sub) ?_ trivial
          rw [take_snoc hm1, List.filter_append, List.filter_cons, if_neg (by rw [decide_eq_true c]; decide), List.filter_nil, List.append_nil]
          exact r
        · rw [if_pos (by rw [decide_eq_false (fun z => c (V.str.inj z))]; decide)]
          walk_at "rd"
          refine ⟨by walk_at "sz", fun p hp3 => ?_⟩
          generalize e3 : upd H3 p (HO.tup [V.str m.1, v]) = H4
          have g4 : Gm noM H3 S2 H4 (upd S2 p (HO.tup [V.str m.1, v])) := (Gm.rfl' g2.sub).ld e3 hp3
          refine LcP.add hD (fun z => z) (fun _ _ _ _ => trivial) g2 e eS g4 (szL (by omega)) ?_ trivial
          rw [take_snoc hm1, List.filter_append, List.filter_cons, if_pos (by rw [decide_eq_false c]; rfl), List.filter_nil]
          exact (L2.Paired.mapP r fun _ _ z => EntAt.mono g4.mono z).snoc ⟨p, v, rfl, upd_same, hv.mono (g3.mono.trans g4.mono)⟩
      · rintro H2 S2 acc g2 r _ e eS
        rw [ul, List.take_of_length_le (Nat.le_refl _)] at r
        have g3 := (g1.trans g2).freeze e (g1.free hD) eS
        exact k H2 _ (V.ref D) g3 ⟨D, acc, rfl, upd_same, L2.Paired.mapP r fun _ _ z => EntAt.mono (upd0_ (Same.refl _) eS) z⟩
    | rnm x y =>
      obtain ⟨a, rfl, ha⟩ := hc
      refine rd_sl2 (hS _ _ ha) fun q H1 s1 hq => ⟨q, _, rfl, sqt hq, rfl, ?_⟩
      have g1 := Gr.ofSame hS s1
      walk_at "rd"
      refine ⟨⟨_, sql (g1.sub _ _ hm)⟩, fun D hD => ?_⟩
      refine lcg walk_list (fun i acc S => Paired (EntAt S) acc ((M.take i).map fun m => (if m.1 = x then y else m.1, ren x y m.2))) noZ noM hD g1.sub .nil trivial (fun _ _ _ _ => trivial) (fun i H9 S9 _ _ g _ _ => sql (g.sub _ _ (g.mono _ _ hm))) ?_ ?_
      · rintro i z H2 H3 S2 acc hi g2 r _ e eS ⟨rfl, hx⟩
        obtain ⟨m, hm1, b, v, rfl, hb, hv⟩ := pair_at hp hx
        have g3 := g1.trans g2
        walk_at "rs"
        refine ⟨b, _, rfl, sqt (g3.sub _ _ (g3.mono _ _ hb)), rfl, ?_⟩
        walk_at "rd"
        have lm : i < M.length := by omega
        have al : acc.length ≤ 100 := by rw [r.length, List.length_map, List.length_take]; omega
        have fin : ∀ (n' : Str), n' = (if m.1 = x then y else m.1) → sp_renamed 5 [v, V.str x, V.str y] H3 (fun v' H4 => [V.str n', v'].length ≤ sizeLine ∧ ∀ p, H4 p = none → ∃ acc, upd H4 p (.tup [V.str n', v']) D = some (.lst acc) ∧ acc.length < sizeLine ∧ LcP noM H1 S D (fun i acc S => Paired (EntAt S) acc ((M.take i).map fun m => (if m.1 = x then y else m.1, ren x y m.2))) noZ (i + 1) (upd (upd H4 p (.tup [V.str n', v'])) D (.lst (acc ++ [V.ref p])))) E := by
          intro n' en
          refine ⟨v, m.2, x, y, S2, rfl, hv.mono g3.mono, by have := md m (List.mem_of_getElem? hm1); omega, g2.sub, fun H4 S4 v' g4 hv' => ⟨by walk_at "sz", fun p hp3 => ?_⟩⟩
          have hS4 : Same S4 H4 := g4.sub
          generalize e3 : upd H4 p (HO.tup [V.str n', v']) = H5
          have g5 := g4.ld e3 hp3
          refine LcP.add hD (fun z => z) (fun _ _ _ _ => trivial) g2 e eS g5 (szL (by omega)) ?_ trivial
          rw [take_snoc hm1, List.map_append]
          refine (L2.Paired.mapP r fun _ _ z => EntAt.mono g5.mono z).snoc ⟨p, v', rfl, ?_, hv'.mono (upd0_ (Same.refl _) (Same.free hS4 hp3))⟩
          show upd S4 p _ p = some (.tup [V.str (if m.1 = x then y else m.1), v'])
          rw [upd_same, en]
        by_cases c : m.1 = x
        · rw [if_pos (decide_eq_true (by rw [c]))]
          walk_at "rd"
          refine rd_ixt (g3.sub _ _ (g3.mono _ _ ha)) (by rfl) ?_
          walk_at "rd"
          refine rd_ixt (g3.sub _ _ (g3.mono _ _ ha)) (by rfl) ?_
          exact fin y (by rw [if_pos c])
        · rw [if_neg (by rw [decide_eq_false (fun z => c (V.str.inj z))]; decide)]
          walk_at "rd"
          refine rd_ixt (g3.sub _ _ (g3.mono _ _ ha)) (by rfl) ?_
          exact fin m.1 (by rw [if_neg c])
      · rintro H2 S2 acc g2 r _ e eS
        rw [ul, List.take_of_length_le (Nat.le_refl _)] at r
        have g3 := (g1.trans g2).freeze e (g1.free hD) eS
        exact k H2 _ (V.ref D) g3 ⟨D, acc, rfl, upd_same, L2.Paired.mapP r fun _ _ z => EntAt.mono (upd0_ (Same.refl _) eS) z⟩
end
end Lst

/-! ## LTok5 -/
namespace Lst
open PySem PySem.Spec PyProof.Rows L2
theorem tok_len : ∀ t : Tr, smT t → ∀ z ∈ toks t, z.length ≤ 100
  | .nm n, h, z, hz => by
    rw [List.mem_singleton.mp hz]
    exact Nat.le_trans h (by decide)
  | .lf b ws, h, z, hz => by
    rw [List.mem_singleton.mp hz]
    unfold leafTok
    have j1 : ((sd ws).map (·.length)).sum ≤ (sd ws).length * 6 := sum_le_of fun x hx => h.2 x ((mem_sd ws).mp hx)
    have j2 := sd_len ws
    have j3 := h.1
    have j4 := join_len "," (sd ws)
    have j5 : (sd ws).length * (Str.ofString ",").length = (sd ws).length := Nat.mul_one _
    have j6 : (hdS b).length ≤ 6 := by cases b <;> decide +kernel
    rw [len_app, len_app]
    show (hdS b).length + 1 + _ ≤ 100
    omega
  | .bh w t, h, z, hz => by
    rcases List.mem_append.mp hz with q | q
    · exact tok_len t h.2 z q
    · rw [List.mem_singleton.mp q]
      unfold bhTok
      rw [len_app]
      have := h.1
      show 7 + _ ≤ 100
      omega
  | .op b l r, h, z, hz => by
    rcases List.mem_append.mp hz with q | q
    · rcases List.mem_append.mp q with q | q
      · exact tok_len l h.1 z q
      · exact tok_len r h.2 z q
    · rw [List.mem_singleton.mp q]
      cases b <;> decide +kernel
theorem txt_small {t : Tr} (h : smT t) (hl : (toks t).length ≤ 100) : ((toks t).map (·.length)).sum + (toks t).length * (Str.ofString " ").length ≤ 16777216 := by
  have j1 := sum_le_of (tok_len t h)
  have j5 : (toks t).length * (Str.ofString " ").length = (toks t).length := Nat.mul_one _
  have : (toks t).length * 100 ≤ 100 * 100 := Nat.mul_le_mul_right _ hl
  omega
theorem txt_len {t : Tr} (h : smT t) (hl : (toks t).length ≤ 100) : (txtOf t).length ≤ 10100 := by
  have j1 := sum_le_of (tok_len t h)
  have j5 : (toks t).length * (Str.ofString " ").length = (toks t).length := Nat.mul_one _
  have : (toks t).length * 100 ≤ 100 * 100 := Nat.mul_le_mul_right _ hl
  have j4 := join_len " " (toks t)
  show (Txt.join " " (toks t)).length ≤ _
  have j6 : (toks t).length * (" " : Str).length = (toks t).length := Nat.mul_one _
  omega
section
variable {P : Program} {w : World} {K : PySem.W.Frag} {mg : Str → Option Value} {base : Heap}
theorem ok_astext (T : Txt K mg) (G_l_tokens : OkG P w K mg base CX0 6 "_law_tokens" P_l_tokens (sp_tokens 5)) : OkG P w K mg base CX0 7 "_law_as_text" P_l_as_text sp_astext := by
  refine (T.f_l_as_text).ok sc_l_as_text (fun vs H Q E h => ?_) (fun cdv A outer s H vs Q E hr h => ?_)
  · obtain ⟨c, cm, S, rfl, _⟩ := h
    rfl
  · obtain ⟨c, cm, S, rfl, hc, ht, hS, k⟩ := h
    have g0 : Gr H S H S := Gm.rfl' hS
    refine ⟨_, PSs.nox (pss_cons (ps_if (pt_cmpR (inK (K := K) rfl) (pe_ix (ix_tupK (K := K) rfl) (pv 0) pe_int (fun _ _ => rfl)) (pe_tup (pa_cons pe_str (pa_cons pe_str pa_nil))) (by rfl)) (pss_one (ps_ret (pe_op (catAK (K := K) rfl) (pe_slice (sl_tupK (K := K) rfl) (pv 0) po_none (po_some pe_int)) (pe_tup (pa_cons (joinK (K := K) rfl pe_str (pe_call G_l_tokens (hr.mono (by first | decide | omega)) (by rfl) (T.g "_law_tokens") (T.k "_law_tokens") T.b_l_tokens .nil pass0 (pa_cons (pe_ix (ix_tupK (K := K) rfl) (pv 0) pe_int (fun _ _ => rfl)) pa_nil))) pa_nil))))) pss_nil)
        (pss_one (ps_ret (pv 0)))), ?_⟩
    walk_at "rs"
    walk_at "rd"
    have two : (∃ a x n u t, c = V.ref a ∧ x ∈ (["put", "change"] : List Str) ∧ S a = some (.tup [.str x, .str n, u]) ∧ TreeAt S u t ∧ smT t ∧ depth t ≤ 4 ∧ (toks t).length ≤ 7 ∧ cmdVs cm = [.str x, .str n, .str (txtOf t)]) ∨
        ∃ a x r, c = V.ref a ∧ x ∉ (["put", "change"] : List Str) ∧ S a = some (.tup (.str x :: r)) ∧ cmdVs cm = .str x :: r := by
      cases cm with
      | put n t =>
        obtain ⟨a, u, e, ha, hu⟩ := hc
        exact .inl ⟨a, "put", n, u, t, e, by decide +kernel, ha, hu, ht.1, ht.2.1, ht.2.2, rfl⟩
      | chg n t =>
        obtain ⟨a, u, e, ha, hu⟩ := hc
        exact .inl ⟨a, "change", n, u, t, e, by decide +kernel, ha, hu, ht.1, ht.2.1, ht.2.2, rfl⟩
      | drp n =>
        obtain ⟨a, e, ha⟩ := hc
        exact .inr ⟨a, "drop", _, e, by decide +kernel, ha, rfl⟩
      | rnm x y =>
        obtain ⟨a, e, ha⟩ := hc
        exact .inr ⟨a, "rename", _, e, by decide +kernel, ha, rfl⟩
    rcases two with ⟨a, x, n, u, t, rfl, hx, ha, hu, h1, h2, h3, he⟩ | ⟨a, x, r, rfl, hx, ha, he⟩
    · refine rd_ixt (hS _ _ ha) (at_0 ..) ?_
      refine ⟨by walk_at "sz", fun p hp => ?_⟩
      generalize e1 : upd H p (HO.tup [V.str (Str.ofString "put"), V.str (Str.ofString "change")]) = H1
      have g1 := g0.l0 e1 hp
      refine rd_in (zs := ["put", "change"]) (.inr (sqt (new_at e1))) ?_
      rw [decide_eq_true hx]
      walk_at "rd"
      refine rd_sl2 (g1.sub _ _ ha) fun q H2 s2 hq => ?_
      have g2 := g1.trans (Gr.ofSame g1.sub s2)
      refine ⟨⟨_, rfl⟩, ?_⟩
      walk_at "rd"
      refine rd_ixt (g2.sub _ _ ha) (by rfl) ?_
      refine ⟨u, t, S, rfl, hu, h1, by omega, by omega, g2.sub, fun H3 S3 p g3 hp => ?_⟩
      have g4 := g2.trans g3
      refine ⟨" ", p, toks t, rfl, rfl, .inl (sql (g4.sub _ _ hp)), txt_small h1 (by omega), by walk_at "sz", fun l hl => ?_⟩
      generalize e5 : upd H3 l (HO.tup [V.str (Txt.join " " (toks t))]) = H5
      have g5 := g4.l0 e5 hl
      refine ⟨q, l, _, _, rfl, rfl, sqt (old_at e5 hl (g3.same _ _ hq)), sqt (new_at e5), by walk_at "sz", (fun z => nomatch z), (fun _ z => nomatch z), fun _ _ r hr => ?_⟩
      refine k _ _ r (g5.laid hr) ?_
      rw [he]
      exact upd_same
    · refine rd_ixt (hS _ _ ha) (at_0 ..) ?_
      refine ⟨by walk_at "sz", fun p hp => ?_⟩
      generalize e1 : upd H p (HO.tup [V.str (Str.ofString "put"), V.str (Str.ofString "change")]) = H1
      have g1 := g0.l0 e1 hp
      refine rd_in (zs := ["put", "change"]) (.inr (sqt (new_at e1))) ?_
      rw [decide_eq_false hx]
      walk_at "rd"
      exact k H1 S a g1 (by rw [ha, he])
end
end Lst

/-! ## LRead3 -/
namespace Lst
open PySem PySem.Spec PyProof.Rows L2
theorem mem_join {s : Str} {c : Nat} : ∀ {xs : List Str}, c ∈ sg (Txt.join s xs) → c ∈ sg s ∨ ∃ x ∈ xs, c ∈ sg x := by
  intro xs h
  rw [TL.join_eq] at h
  have e : sg (Str.join s xs) = TL.joinL (sg s) (xs.map sg) := TL.tl_join s xs
  rw [e] at h
  clear e
  induction xs with
  | nil => cases h
  | cons x r ih =>
    cases r with
    | nil => exact .inr ⟨x, List.mem_singleton.mpr rfl, h⟩
    | cons y q =>
      have h : c ∈ sg x ++ (sg s ++ TL.joinL (sg s) ((y :: q).map sg)) := h
      rcases List.mem_append.mp h with h | h
      · exact .inr ⟨x, List.mem_cons_self .., h⟩
      · rcases List.mem_append.mp h with h | h
        · exact .inl h
        · rcases ih h with z | ⟨z, h1, h2⟩
          · exact .inl z
          · exact .inr ⟨z, List.mem_cons_of_mem _ h1, h2⟩
theorem low32 {z : Str} (h : lowS z = true) : 32 ∉ sg z := fun m => (by decide +kernel : 32 ∉ sg LET) (of_decide_eq_true (List.all_eq_true.mp h 32 m))
theorem tok32 : ∀ t : Tr, trOk t → ∀ z ∈ toks t, 32 ∉ sg z ∧ z ≠ ""
  | .nm n, h, z, hz => by
    rw [List.mem_singleton.mp hz]
    exact ⟨low32 (nameOk_low h), (nameOk_ne h).1⟩
  | .lf b ws, h, z, hz => by
    rw [List.mem_singleton.mp hz]
    refine ⟨fun m => ?_, fun e => ?_⟩
    · unfold leafTok at m
      rw [sg_app, sg_app] at m
      rcases List.mem_append.mp m with m | m
      · rcases List.mem_append.mp m with m | m
        · exact (by cases b <;> decide +kernel : 32 ∉ sg (hdS b)) m
        · exact (by decide +kernel : 32 ∉ sg ":") m
      · rcases mem_join m with m | ⟨x, hx, m⟩
        · exact (by decide +kernel : 32 ∉ sg ",") m
        · exact low32 (wordOk_len (h.2.2 x ((mem_sd ws).mp hx))).2.2.2 m
    · have q := leaf58 b ws
      rw [e] at q
      exact absurd q (by decide +kernel)
  | .bh w t, h, z, hz => by
    rcases List.mem_append.mp hz with q | q
    · exact tok32 t h.2 z q
    · rw [List.mem_singleton.mp q]
      refine ⟨fun m => ?_, fun e => ?_⟩
      · unfold bhTok at m
        rw [sg_app] at m
        rcases List.mem_append.mp m with m | m
        · exact (by decide +kernel : 32 ∉ sg "behind:") m
        · exact low32 (wordOk_len h.1).2.2.2 m
      · have q := bh58 w
        rw [e] at q
        exact absurd q (by decide +kernel)
  | .op b l r, h, z, hz => by
    rcases List.mem_append.mp hz with q | q
    · rcases List.mem_append.mp q with q | q
      · exact tok32 l h.1 z q
      · exact tok32 r h.2 z q
    · rw [List.mem_singleton.mp q]
      cases b <;> exact ⟨by decide +kernel, by decide +kernel⟩
theorem toks_ne (t : Tr) : toks t ≠ [] := fun e => by
  have := toks_pos t
  rw [e] at this
  exact absurd this (by decide)
theorem split_txt {t : Tr} (h : trOk t) : Txt.split (txtOf t) " " = toks t :=
  TL.split_join (y := " ") (s := 32) (S := []) (by decide +kernel) (by decide +kernel) (toks_ne t) fun p hp => (tok32 t h p hp).1
theorem txt_ne {t : Tr} (h : trOk t) : txtOf t ≠ "" := fun e => by
  have q := split_txt h
  rw [e] at q
  have q2 : ([""] : List Str) = toks t := (by decide +kernel : ([""] : List Str) = Txt.split "" " ").trans q
  exact (tok32 t h "" (by rw [← q2]; exact List.mem_singleton.mpr rfl)).2 rfl
def sp_read (K : PySem.W.Frag) : Sp := fun vs H Q _ => ∃ (t : Tr) (S : Hp), vs = [.str (txtOf t)] ∧ trOk t ∧ (toks t).length ≤ 20 ∧ (txtOf t).length ≤ 100000 ∧ Same S H ∧ ∀ (H' S' : Hp) (v : V), Gr H S H' S' → WishAt K S' v t → Q v H'
section
variable {P : Program} {w : World} {K : PySem.W.Frag} {mg : Str → Option Value} {base : Heap}
theorem ok_read (T : Txt K mg) (G_token_read : OkG P w K mg base CX0 5 "token_read" P_token_read (sp_tread K)) : OkG P w K mg base CX0 6 "read_wish" P_read_wish (sp_read K) := by
  refine (T.f_read_wish).ok sc_read_wish (fun vs H Q E h => ?_) (fun cdv A outer s H vs Q E hr h => ?_)
  · obtain ⟨t, S, rfl, _⟩ := h
    rfl
  · obtain ⟨t, S, rfl, ok, hl, hz, hS, k⟩ := h
    refine ⟨_, PSs.nox (pss_cons (ps_if (PW.pt (pw_or (pt_not (pt_val (pe_callB (isiK (K := K) rfl) (by rfl) T.f (by decide +kernel) (pa_cons (pv 0) (pa_cons (pe_bltn (v := .ty "str") (by rfl) T.f (by decide +kernel) rfl) pa_nil))))) (pw_or1 (pt_cmpR op_eq (pv 0) pe_str (nomark _))))) (pss_one ps_never) pss_nil)
        (pss_cons (ps_par (i := 1) (j := 2) (by rfl) sc_read_wish.nd rfl rfl (by decide) rfl rfl (pa_cons (pe_split (pv 0) pe_str) (pa_cons (pe_lst pa_nil) pa_nil)) (by rfl))
        (pss_cons (ps_for PassesOwn.never rfl (pi_enum (by rfl) T.f (pa_cons (pv 1) pa_nil)) (pg_tupK (K := K) (n := 2) rfl rfl (pgs_cons (pg_name (i := 3) sc_read_wish.nd rfl (Or.inl rfl)) (pgs_cons (pg_name (i := 4) sc_read_wish.nd rfl (Or.inl rfl)) pgs_nil))) (pss_cons (ps_set (i := 5) sc_read_wish.nd rfl (Or.inl rfl) (pe_ifExp (pt_cmpR op_ge (pv 3) (pe_glob (v := .int 20) (by rfl) T.vTok.choose_spec ⟨_, rfl⟩) (nomark _)) pe_non (pe_call G_token_read (hr.mono (by first | decide | omega)) (by rfl) (T.g "token_read") (T.k "token_read") T.b_token_read .nil pass0 (pa_cons (pv 4) (pa_cons (pv 2) pa_nil)))))
        (pss_cons (ps_if (pt_cmpR op_isN (pv 5) pe_non (nomark _)) (pss_one ps_never) pss_nil)
        (pss_one (ps_set (i := 2) sc_read_wish.nd rfl (Or.inl rfl) (pv 5))))))
        (pss_cons (ps_if (pt_cmpR op_ne (pe_callB (lenK (K := K) rfl) (by rfl) T.f (by decide +kernel) (pa_cons (pv 2) pa_nil)) pe_int (nomark _)) (pss_one ps_never) pss_nil)
        (pss_one (ps_ret (pe_ix (ix_listK (K := K) rfl) (pv 2) pe_int (fun _ _ => rfl)))))))), ?_⟩
    walk_at "rs"
    walk_at "rd"
    refine isi_str ?_
    walk_at "rd"
    rw [if_neg (by rw [decide_eq_false (fun e => txt_ne ok (V.str.inj e))]; decide)]
    walk_at "rd"
    refine ⟨⟨_, rfl⟩, _, _, rfl, rfl, rfl, szE (by omega), fun tk htk => ?_⟩
    rw [show Txt.split (txtOf t) (Str.ofString " ") = toks t from split_txt ok]
    have g0 : Gr H S H S := Gm.rfl' hS
    generalize e1 : upd H tk (HO.lst ((toks t).map V.str)) = H1
    have g1 := g0.ld e1 htk
    have hk1 : (upd S tk (HO.lst ((toks t).map V.str))) tk = some (.lst ((toks t).map V.str)) := upd_same
    generalize upd S tk (HO.lst ((toks t).map V.str)) = S1 at g1 hk1
    refine ⟨by walk_at "sz", fun p hp => ⟨_, _, rfl, ?_⟩⟩
    generalize e2 : upd H1 p (HO.lst []) = H2
    have g2 := g1.ld e2 hp
    have hp2 : (upd S1 p (HO.lst [])) p = some (.lst []) := upd_same
    have hk2 : (upd S1 p (HO.lst [])) tk = some (.lst ((toks t).map V.str)) := upd0_ (Same.refl _) (Same.free g1.sub hp) _ _ hk1
    generalize upd S1 p (HO.lst []) = S2 at g2 hp2 hk2
    refine ⟨_, rfl, tk, _, rfl, sql (g2.sub _ _ hk2), ?_⟩
    refine for_it (walk_enum (xs := (toks t).map V.str)) (fun i σ H' => ∃ S' stk ts x3 x4 x5, σ = [some (.str (txtOf t)), some (.ref tk), some stk, x3, x4, x5] ∧ Gr H2 S2 H' S' ∧ StkAt K S' stk ts ∧ Stps ts ((toks t).drop i) [t])
      ⟨S2, .ref p, [], none, none, none, rfl, Gm.rfl' g2.sub, ⟨p, [], rfl, hp2, .nil⟩, by rw [List.drop_zero]; exact stps_tree t [] ok⟩ (fun i σ H' _ ⟨S', _, _, _, _, _, _, g, _⟩ => sql (g.sub _ _ (g.mono _ _ hk2))) ?_ ?_
    · rintro i x σ H3 H4 hi ⟨S3, stk, ts, x3, x4, x5, rfl, g3, hst, hstp⟩ ⟨q, x, y, rfl, hq, rfl, hx, hy⟩
      rw [List.length_map] at hi
      obtain rfl : V.int (i : Nat) = x := Option.some.inj hx
      have hy : ((toks t).map V.str)[i]? = some y := hy
      rw [List.getElem?_map] at hy
      obtain ⟨z, hz, rfl⟩ := Option.map_eq_some_iff.mp hy
      generalize e4 : upd H3 q (HO.tup [V.int (i : Nat), V.str z]) = H4
      have g4 := g3.l0 e4 hq
      walk_at "rs"
      refine ⟨q, _, rfl, sqt (new_at e4), rfl, ?_⟩
      walk_at "rd"
      rw [if_neg (by rw [decide_eq_false (by omega)]; decide)]
      walk_at "rd"
      rw [List.drop_eq_getElem_cons hi] at hstp
      have ez : (toks t)[i] = z := by
        rw [List.getElem?_eq_getElem hi] at hz
        exact Option.some.inj hz
      rw [ez] at hstp
      cases hstp with
      | cons hs hr2 =>
        rename_i ts'
        have sz := hr2.size
        have szl : (ts'.flatMap toks).length ≤ 20 := by
          have q := congrArg List.length sz
          rw [List.flatMap_singleton, List.length_append] at q
          omega
        refine ⟨z, stk, ts, ts', S3, rfl, hst, hs, szl, g4.sub, fun H5 S5 v5 g5 h5 n5 => ?_⟩
        walk_at "rd"
        rw [if_neg (by rw [decide_eq_false n5]; decide)]
        walk_at "rd"
        exact ⟨S5, v5, ts', _, _, _, rfl, g4.trans g5, h5, hr2⟩
    · rintro σ H3 ⟨S3, stk, ts, x3, x4, x5, rfl, g3, hst, hstp⟩
      rw [List.length_map, List.drop_of_length_le (Nat.le_refl _)] at hstp
      cases hstp
      obtain ⟨sa, us, rfl, hsa, hp3⟩ := hst
      walk_at "rs"
      walk_at "rd"
      refine ⟨sa, _, rfl, .inl (sql (g3.sub _ _ hsa)), ?_⟩
      have ul : us.length = 1 := hp3.length
      walk_at "rd"
      rw [if_neg (by rw [ul]; decide)]
      walk_at "rd"
      cases hp3 with
      | cons h1 h2 =>
        refine rd_ix (g3.sub _ _ hsa) (at_0 ..) ?_
        exact k H3 S3 _ (g2.trans g3) h1
end
end Lst

/-! ## LLib -/
namespace Lst
open PySem PySem.Spec PyProof.Rows L2
theorem hu_of {A : Around} {k : Nat} (hr : Room k A) : A.units + 1 < cLine := by
  have := hr.units
  omega
/-! ### dicts of wishes, by name -/
abbrev DKv := List (Key × V)
def EntW (K : PySem.W.Frag) (S : Hp) (kv : Key × V) (m : Str × Tr) : Prop := kv.1 = .inr m.1 ∧ WishAt K S kv.2 m.2
abbrev DPairs (K : PySem.W.Frag) (S : Hp) (kvs : DKv) (M : Mo) : Prop := Paired (EntW K S) kvs M
theorem EntW.mono {K : PySem.W.Frag} {S S' : Hp} {kv : Key × V} {m : Str × Tr} (h : Same S S') (t : EntW K S kv m) : EntW K S' kv m := ⟨t.1, t.2.mono h⟩
theorem DPairs.mono {K : PySem.W.Frag} {S S' : Hp} {kvs : DKv} {M : Mo} (h : Same S S') (t : DPairs K S kvs M) : DPairs K S' kvs M := L2.Paired.mapP t fun _ _ z => z.mono h
section
variable {K : PySem.W.Frag} {S : Hp}
theorem dp_keys {kvs : DKv} {M : Mo} (h : DPairs K S kvs M) : (kvs.map fun kv => kV kv.1) = (mnames M).map V.str := by
  induction h with
  | nil => rfl
  | cons a b ih =>
    rw [List.map_cons, ih, a.1]
    rfl
theorem dp_some {kvs : DKv} {M : Mo} (h : DPairs K S kvs M) (n : Str) : (valV kvs (.inr n : Key)).isSome = decide (n ∈ mnames M) := by
  induction h with
  | nil => rfl
  | @cons p m ps ms a b ih =>
    by_cases e : p.1 = .inr n
    · rw [valV_pos e]
      have e2 : m.1 = n := by
        rw [a.1] at e
        exact Sum.inr.inj e
      rw [decide_eq_true (show n ∈ mnames (m :: ms) by rw [← e2]; exact List.mem_cons_self ..)]
      rfl
    · rw [valV_neg e, ih]
      refine decide_eq_decide.mpr ⟨fun q => List.mem_cons_of_mem _ q, fun q => (List.mem_cons.mp q).resolve_left fun z => e ?_⟩
      rw [a.1]
      exact congrArg Sum.inr z.symm
theorem dp_get {kvs : DKv} {M : Mo} (h : DPairs K S kvs M) (nd : (mnames M).Nodup) : ∀ m ∈ M, ∃ v, valV kvs (.inr m.1 : Key) = some v ∧ WishAt K S v m.2 := by
  induction h with
  | nil => exact fun m hm => nomatch hm
  | @cons p m ps ms a b ih =>
    intro m' hm
    obtain ⟨n1, n2⟩ := List.nodup_cons.mp nd
    by_cases e : m'.1 = m.1
    · rcases List.mem_cons.mp hm with q | q
      · rw [q]
        exact ⟨p.2, valV_pos a.1, a.2⟩
      · exact absurd (show m.1 ∈ mnames ms from List.mem_map.mpr ⟨m', q, e⟩) n1
    · rcases List.mem_cons.mp hm with q | q
      · exact absurd (by rw [q]) e
      · obtain ⟨v, h1, h2⟩ := ih n2 m' q
        refine ⟨v, ?_, h2⟩
        rw [valV_neg (fun z => e ?_)]
        · exact h1
        · rw [a.1] at z
          exact (Sum.inr.inj z).symm
theorem dp_key {kvs : DKv} {M : Mo} (h : DPairs K S kvs M) {i : Nat} {k : Key} {v : V} (hi : kvs[i]? = some (k, v)) : ∃ m, M[i]? = some m ∧ k = .inr m.1 ∧ WishAt K S v m.2 := by
  induction h generalizing i with
  | nil => simp at hi
  | @cons p m ps ms a b ih =>
    cases i with
    | zero =>
      have e : p = (k, v) := Option.some.inj hi
      subst e
      exact ⟨m, rfl, a.1, a.2⟩
    | succ i => exact ih hi
theorem dp_new {kvs : DKv} {M : Mo} (h : DPairs K S kvs M) {n : Str} {v : V} {t : Tr} (hn : n ∉ mnames M) (hv : WishAt K S v t) : DPairs K S (putK kvs (.inr n : Key) v) (M ++ [(n, t)]) := by
  rw [putK_new v (by
    have := dp_some h n
    rw [decide_eq_false hn] at this
    cases q : valV kvs (.inr n : Key) with
    | none => rfl
    | some x => rw [q] at this; cases this)]
  exact Paired.snoc h ⟨rfl, hv⟩
theorem dp_put {kvs : DKv} {M : Mo} (h : DPairs K S kvs M) {n : Str} {v : V} {t : Tr} (hn : n ∈ mnames M) (hv : WishAt K S v t) : DPairs K S (putK kvs (.inr n : Key) v) (M.map fun m => (m.1, if m.1 = n then t else m.2)) := by
  unfold putK
  rw [valV_any, dp_some h n, decide_eq_true hn, if_pos rfl]
  clear hn
  induction h with
  | nil => exact .nil
  | @cons p m ps ms a b ih =>
    refine .cons ?_ ih
    dsimp only
    by_cases e : m.1 = n
    · rw [if_pos (show p.1 = .inr n by rw [a.1, e]), if_pos e]
      exact ⟨a.1, hv⟩
    · rw [if_neg (show ¬ p.1 = .inr n by rw [a.1]; exact fun z => e (Sum.inr.inj z)), if_neg e]
      exact a
theorem dp_drop {kvs : DKv} {M : Mo} (h : DPairs K S kvs M) {n : Str} : DPairs K S (dropK kvs (.inr n : Key)) (M.filter fun m => !decide (m.1 = n)) := by
  unfold dropK
  induction h with
  | nil => exact .nil
  | @cons p m ps ms a b ih =>
    rw [List.filter_cons, List.filter_cons]
    by_cases e : m.1 = n
    · rw [if_neg (by rw [a.1, e]; simp), if_neg (by rw [decide_eq_true e]; decide)]
      exact ih
    · rw [if_pos (by rw [a.1]; exact decide_eq_true fun z => e (Sum.inr.inj z)), if_pos (by rw [decide_eq_false e]; rfl)]
      exact .cons a ih
end
/-! ### the library's state -/
def fsL (al : Str) (d k p u : Addr) (b : Bool) : List (Str × V) := [("alphabet", .str al), ("own_limit", .int 12), ("own_wishes", .ref d), ("own_kept", .ref k), ("own_past", .ref p), ("own_undone", .ref u), ("own_count", .int 0), ("own_busy", .bl b)]
def DctAt (K : PySem.W.Frag) (S H : Hp) (d : Addr) (M : Mo) : Prop := ∃ kvs, H d = some (.dK kvs) ∧ DPairs K S kvs M
structure LibO (K : PySem.W.Frag) (al : Str) (S H : Hp) (a dx d k p u : Addr) (ps us : List Addr) (b : Bool) (M : Mo) (Ps Us : List Mo) : Prop where
  ob : H a = some (.ins (He.ga K "Library") dx (fsL al d k p u b))
  di : DctAt K S H d M
  kp : H k = some (.dK [])
  pa : H p = some (.lst (ps.map V.ref))
  un : H u = some (.lst (us.map V.ref))
  ds : Paired (DctAt K S H) ps Ps
  es : Paired (DctAt K S H) us Us
  nd : (a :: d :: k :: p :: u :: (ps ++ us)).Nodup
  out : ∀ x ∈ a :: d :: k :: p :: u :: (ps ++ us), S x = none
abbrev fpL (a d k p u : Addr) (ps us : List Addr) : List Addr := a :: d :: k :: p :: u :: (ps ++ us)
def LibI (K : PySem.W.Frag) (al : Str) (S H : Hp) (a : Addr) (fp : List Addr) (b : Bool) (M : Mo) (Ps Us : List Mo) : Prop := ∃ dx d k p u ps us, fp = fpL a d k p u ps us ∧ LibO K al S H a dx d k p u ps us b M Ps Us
theorem DctAt.gm {K : PySem.W.Frag} {ms : Addr → Prop} {S H S' H' : Hp} {d : Addr} {M : Mo} (t : DctAt K S H d M) (g : Gm ms H S H' S') (n : ¬ ms d) : DctAt K S' H' d M := by
  obtain ⟨kvs, h1, h2⟩ := t
  exact ⟨kvs, g.kept h1 n, h2.mono g.mono⟩
theorem pair_imp {α β : Type} {R T : α → β → Prop} {xs : List α} {ys : List β} (h : Paired R xs ys) (k : ∀ x ∈ xs, ∀ y, R x y → T x y) : Paired T xs ys := by
  induction h with
  | nil => exact .nil
  | cons a b ih => exact .cons (k _ (List.mem_cons_self ..) _ a) (ih fun x hx => k x (List.mem_cons_of_mem _ hx))
section
variable {K : PySem.W.Frag} {al : Str} {S H S' H' : Hp} {a dx d k p u : Addr} {ps us fp : List Addr} {b : Bool} {M : Mo} {Ps Us : List Mo}
theorem pair_live {R : Addr → Mo → Prop} {xs : List Addr} {ys : List Mo} (h : Paired R xs ys) (q : ∀ x y, R x y → H x ≠ none) : ∀ x ∈ xs, H x ≠ none := by
  induction h with
  | nil => exact fun x hx => nomatch hx
  | cons a b ih =>
    intro x hx
    rcases List.mem_cons.mp hx with e | e
    · rw [e]
      exact q _ _ a
    · exact ih x e
theorem DctAt.live {d : Addr} (t : DctAt K S H d M) : H d ≠ none := by
  obtain ⟨kvs, h1, _⟩ := t
  exact live_of h1
theorem LibO.live (t : LibO K al S H a dx d k p u ps us b M Ps Us) : ∀ x ∈ fpL a d k p u ps us, H x ≠ none := by
  intro x hx
  simp only [List.mem_cons, List.mem_append] at hx
  rcases hx with e | e | e | e | e | e | e
  · rw [e]; exact live_of t.ob
  · rw [e]; exact t.di.live
  · rw [e]; exact live_of t.kp
  · rw [e]; exact live_of t.pa
  · rw [e]; exact live_of t.un
  · exact pair_live t.ds (fun _ _ z => z.live) x e
  · exact pair_live t.es (fun _ _ z => z.live) x e
/-- the library stays where its footprint is not written -/
theorem LibO.gm {ms : Addr → Prop} (t : LibO K al S H a dx d k p u ps us b M Ps Us) (g : Gm ms H S H' S') (n : ∀ x ∈ fpL a d k p u ps us, ¬ ms x) : LibO K al S' H' a dx d k p u ps us b M Ps Us := by
  have mp : ∀ x ∈ ps, x ∈ fpL a d k p u ps us := fun x hx => by simp [hx]
  have mu : ∀ x ∈ us, x ∈ fpL a d k p u ps us := fun x hx => by simp [hx]
  exact ⟨g.kept t.ob (n _ (by simp)), t.di.gm g (n _ (by simp)), g.kept t.kp (n _ (by simp)), g.kept t.pa (n _ (by simp)), g.kept t.un (n _ (by simp)),
    pair_imp t.ds fun x hx y q => q.gm g (n x (mp x hx)), pair_imp t.es fun x hx y q => q.gm g (n x (mu x hx)), t.nd, fun x hx => g.new x (t.out x hx) (t.live x hx)⟩
theorem LibO.gr (t : LibO K al S H a dx d k p u ps us b M Ps Us) (g : Gr H S H' S') : LibO K al S' H' a dx d k p u ps us b M Ps Us := t.gm g fun _ _ z => z
theorem LibI.live (t : LibI K al S H a fp b M Ps Us) : ∀ x ∈ fp, H x ≠ none := by
  obtain ⟨dx, d, k, p, u, ps, us, rfl, o⟩ := t
  exact o.live
theorem LibI.gm {ms : Addr → Prop} (t : LibI K al S H a fp b M Ps Us) (g : Gm ms H S H' S') (n : ∀ x ∈ fp, ¬ ms x) : LibI K al S' H' a fp b M Ps Us := by
  obtain ⟨dx, d, k, p, u, ps, us, rfl, o⟩ := t
  exact ⟨dx, d, k, p, u, ps, us, rfl, o.gm g n⟩
theorem LibI.gr (t : LibI K al S H a fp b M Ps Us) (g : Gr H S H' S') : LibI K al S' H' a fp b M Ps Us := t.gm g fun _ _ z => z
theorem LibI.mem (t : LibI K al S H a fp b M Ps Us) : a ∈ fp := by
  obtain ⟨dx, d, k, p, u, ps, us, rfl, o⟩ := t
  exact List.mem_cons_self ..
theorem LibI.out (t : LibI K al S H a fp b M Ps Us) : ∀ x ∈ fp, S x = none := by
  obtain ⟨dx, d, k, p, u, ps, us, rfl, o⟩ := t
  exact o.out
/-- behind a walk over a locked thing -/
theorem Gm.unlock {ms : Addr → Prop} {d : Addr} {od : Obj} {o : HO} (g : Gm ms (upd H d (.frz od o)) S H' S') (h : H d = some o) (nS : S d = none) : Gm ms H S (upd H' d o) S' := by
  have hl : ∀ b, H b ≠ none → (upd H d (.frz od o)) b ≠ none := fun b hb => by
    by_cases e : b = d
    · rw [e, upd_same]
      exact fun z => nomatch z
    · rw [upd_ne e]
      exact hb
  have nS' : S' d = none := g.new d nS (by rw [upd_same]; exact fun z => nomatch z)
  refine ⟨fun b x hb hn => ?_, fun b hb => ?_, fun b x hb => ?_, g.mono, fun b hb hb' => g.new b hb (hl b hb')⟩
  · by_cases e : b = d
    · rw [e, upd_same, ← h, ← e, hb]
    · rw [upd_ne e]
      exact g.all b x (by rw [upd_ne e]; exact hb) hn
  · by_cases e : b = d
    · rw [e, upd_same]
      exact fun z => nomatch z
    · rw [upd_ne e]
      exact g.live b (hl b hb)
  · rw [upd_ne (ne_of_none hb nS')]
    exact g.sub b x hb
theorem lock_sub {d : Addr} {o : HO} (h : Same S H) (nS : S d = none) : Same S (upd H d o) := fun b x hb => by
  rw [upd_ne (ne_of_none hb nS)]
  exact h b x hb
end
end Lst

/-! ## LLib2 -/
namespace Lst
open PySem PySem.Spec PyProof.Rows L2
def sp_Lnames (K : PySem.W.Frag) : Sp := fun vs H Q _ => ∃ (al : Str) (a : Addr) (fp : List Addr) (b : Bool) (M : Mo) (Ps Us : List Mo) (S : Hp), vs = [.ref a] ∧ LibI K al S H a fp b M Ps Us ∧ M.length ≤ 1000 ∧ Same S H ∧
  ∀ (H' S' : Hp) (p : Addr), Gr H S H' S' → S' p = some (.lst ((mnames M).map V.str)) → Q (.ref p) H'
def sp_Lknown (K : PySem.W.Frag) : Sp := fun vs H Q _ => ∃ (al : Str) (a : Addr) (n : Str) (fp : List Addr) (b : Bool) (M : Mo) (Ps Us : List Mo) (S : Hp), vs = [.ref a, .str n] ∧ LibI K al S H a fp b M Ps Us ∧ n ∈ mnames M ∧ nameOk n = true ∧ n.length ≤ 1000000 ∧ Same S H ∧
  ∀ (H' : Hp), Same H H' → Q .non H'
def sp_Lwish (K : PySem.W.Frag) : Sp := fun vs H Q _ => ∃ (al : Str) (a : Addr) (n : Str) (t : Tr) (fp : List Addr) (b : Bool) (M : Mo) (Ps Us : List Mo) (S : Hp), vs = [.ref a, .str n] ∧ LibI K al S H a fp b M Ps Us ∧ (n, t) ∈ M ∧ (mnames M).Nodup ∧ nameOk n = true ∧ n.length ≤ 1000000 ∧ Same S H ∧
  ∀ (H' S' : Hp) (v : V), Gr H S H' S' → WishAt K S' v t → Q v H'
section
variable {K : PySem.W.Frag} {mg : Str → Option Value} {H : Hp} {a dx d k p u : Addr} {al : Str} {b : Bool} {C : Addr} {Q : VK}
end
section
variable {P : Program} {w : World} {K : PySem.W.Frag} {mg : Str → Option Value} {base : Heap}
theorem ok_Lnames (T : Txt K mg) : OkM P w K mg base CX0 1 "Library" "names" P_Library_names (sp_Lnames K) := by
  refine (T.f_Library_names).ok sc_Library_names (fun vs H Q E h => ?_) (fun cdv A outer s H vs Q E hr h => ?_)
  · obtain ⟨al, a, fp, b, M, Ps, Us, S, rfl, _⟩ := h
    rfl
  · obtain ⟨al, a, fp, b, M, Ps, Us, S, rfl, ⟨dx, d, k, p, u, ps, us, rfl, o⟩, ml, hS, kk⟩ := h
    obtain ⟨kvs, hd, hp⟩ := o.di
    refine ⟨_, PSs.nox (pss_one (ps_ret (pe_callTy (call_listD rfl) (by rfl) T.f (by decide +kernel) (pa_cons (fldK (K := K) rfl (pv 0) rfl) pa_nil)))), ?_⟩
    walk_at "rs"
    walk_at "rd"
    refine ⟨_, _, _, _, _, rfl, o.ob, T.c "Library", T.n "Library" "own_wishes", rfl, ?_⟩
    refine ⟨d, kvs, rfl, .inl hd, fun l hl => ?_⟩
    rw [dp_keys hp]
    generalize e1 : upd H l (HO.lst ((mnames M).map V.str)) = H1
    exact kk H1 _ l ((Gm.rfl' hS).ld e1 hl) upd_same
theorem ok_Lknown (T : Txt K mg) (G_is_name : OkG P w K mg base CX0 2 "is_name" P_is_name sp_is_name) : OkM P w K mg base CX0 3 "Library" "check_known" P_Library_check_known (sp_Lknown K) := by
  refine (T.f_Library_check_known).ok sc_Library_check_known (fun vs H Q E h => ?_) (fun cdv A outer s H vs Q E hr h => ?_)
  · obtain ⟨al, a, n, fp, b, M, Ps, Us, S, rfl, _⟩ := h
    rfl
  · obtain ⟨al, a, n, fp, b, M, Ps, Us, S, rfl, ⟨dx, d, k, p, u, ps, us, rfl, o⟩, hn, nok, nl, hS, kk⟩ := h
    refine ⟨_, PSs.nox (pss_one (ps_if (PW.pt (pw_or (pt_not (pt_val (pe_call G_is_name (hr.mono (by first | decide | omega)) (by rfl) (T.g "is_name") (T.k "is_name") T.b_is_name .nil pass0 (pa_cons (pv 1) pa_nil)))) (pw_or1 (pt_cmp (pc_dnotin (hu_of hr) (pv 1) (fldK (K := K) rfl (pv 0) rfl)))))) (pss_one ps_never) pss_nil)), ?_⟩
    walk_at "rs"
    walk_at "rd"
    refine ⟨nl, fun H1 s1 => ?_⟩
    rw [nok]
    walk_at "rd"
    have o1 := o.gr (Gr.ofSame hS s1)
    obtain ⟨kvs, hd, hp⟩ := o1.di
    refine ⟨_, _, _, _, _, rfl, o1.ob, T.c "Library", T.n "Library" "own_wishes", rfl, ?_⟩
    refine ⟨d, _, rfl, DGet.k (k := .inr n) hd, ?_⟩
    rw [dp_some hp n, decide_eq_true hn]
    walk_at "rd"
    exact kk _ s1
theorem ok_Lwish (T : Txt K mg) (G_Library_check_known : OkM P w K mg base CX0 3 "Library" "check_known" P_Library_check_known (sp_Lknown K)) : OkM P w K mg base CX0 4 "Library" "wish_of" P_Library_wish_of (sp_Lwish K) := by
  refine (T.f_Library_wish_of).ok sc_Library_wish_of (fun vs H Q E h => ?_) (fun cdv A outer s H vs Q E hr h => ?_)
  · obtain ⟨al, a, n, t, fp, b, M, Ps, Us, S, rfl, _⟩ := h
    rfl
  · obtain ⟨al, a, n, t, fp, b, M, Ps, Us, S, rfl, ⟨dx, d, k, p, u, ps, us, rfl, o⟩, hm, nd, nok, nl, hS, kk⟩ := h
    refine ⟨_, PSs.nox (pss_cons (ps_expr (pe_meth (pv 0) (T.c "Library") (T.m "Library" "check_known") G_Library_check_known (hr.mono (by first | decide | omega)) T.b_Library_check_known .nil pass0 (pa_cons (pv 1) pa_nil)))
        (pss_one (ps_ret (pe_dget (hu_of hr) (fldK (K := K) rfl (pv 0) rfl) (pv 1) (fun _ _ => rfl))))), ?_⟩
    walk_at "rs"
    walk_at "rd"
    refine ⟨a, dx, _, rfl, o.ob, by rfl, ?_⟩
    walk_at "rd"
    refine ⟨al, a, n, _, b, M, Ps, Us, S, rfl, ⟨dx, d, k, p, u, ps, us, rfl, o⟩, List.mem_map.mpr ⟨_, hm, rfl⟩, nok, nl, hS, fun H1 s1 => ?_⟩
    have g1 : Gr H S H1 S := Gr.ofSame hS s1
    have o1 := o.gr g1
    obtain ⟨kvs, hd, hp⟩ := o1.di
    obtain ⟨v, hv, hw⟩ := dp_get hp nd _ hm
    walk_at "rd"
    refine ⟨_, _, _, _, _, rfl, o1.ob, T.c "Library", T.n "Library" "own_wishes", rfl, ?_⟩
    walk_at "rd"
    refine ⟨d, v, rfl, ?_, kk H1 S v g1 hw⟩
    have q := DGet.k (k := .inr n) hd
    rw [hv] at q
    exact q
end
end Lst

/-! ## LLib3 -/
namespace Lst
open PySem PySem.Spec PyProof.Rows L2
theorem ok_58 {z : Str} (h : 58 ∈ sg z) : nameOk z = false := by
  cases c : nameOk z with
  | false => rfl
  | true => exact absurd (of_decide_eq_true (List.all_eq_true.mp (nameOk_low c) 58 h)) (by decide +kernel)
theorem filt_ok : ∀ t : Tr, trOk t → (toks t).filter nameOk = nms t
  | .nm n, h => by
    show [n].filter nameOk = [n]
    rw [List.filter_cons, show nameOk n = true from h]
    rfl
  | .lf b ws, h => by
    show [leafTok b ws].filter nameOk = []
    rw [List.filter_cons, ok_58 (leaf58 b ws)]
    rfl
  | .bh w t, h => by
    show (toks t ++ [bhTok w]).filter nameOk = nms t
    rw [List.filter_append, filt_ok t h.2, List.filter_cons, ok_58 (bh58 w)]
    exact List.append_nil _
  | .op b l r, h => by
    show (toks l ++ toks r ++ [opS b]).filter nameOk = nms l ++ nms r
    rw [List.filter_append, List.filter_append, filt_ok l h.1, filt_ok r h.2, List.filter_cons, show nameOk (opS b) = false by cases b <;> decide +kernel]
    exact List.append_nil _
/-- what the walks over a library's wishes ask of the model -/
structure MSm (M : Mo) : Prop where
  nd : (mnames M).Nodup
  len : M.length ≤ 12
  tr : ∀ m ∈ M, nameOk m.1 = true ∧ m.1.length ≤ 1000000 ∧ smT m.2 ∧ trOk m.2 ∧ (toks m.2).length ≤ 20
theorem MSm.tl {M : Mo} (h : MSm M) {m : Str × Tr} (hm : m ∈ M) : ∀ t ∈ toks m.2, t.length ≤ 1000000 := fun t ht => by
  have := tok_len m.2 (h.tr m hm).2.2.1 t ht
  omega
def sp_Lusers (K : PySem.W.Frag) : Sp := fun vs H Q _ => ∃ (al : Str) (a : Addr) (n : Str) (fp : List Addr) (b : Bool) (M : Mo) (Ps Us : List Mo) (S : Hp), vs = [.ref a, .str n] ∧ LibI K al S H a fp b M Ps Us ∧ n ∈ mnames M ∧ MSm M ∧ Same S H ∧
  ∀ (H' S' : Hp) (p : Addr), Gr H S H' S' → S' p = some (.lst ((usersM M n).map V.str)) → Q (.ref p) H'
def sp_Ltouched (K : PySem.W.Frag) : Sp := fun vs H Q _ => ∃ (al : Str) (a : Addr) (n : Str) (fp : List Addr) (b : Bool) (M : Mo) (Ps Us : List Mo) (S : Hp), vs = [.ref a, .str n] ∧ LibI K al S H a fp b M Ps Us ∧ n ∈ mnames M ∧ MSm M ∧ Same S H ∧
  ∀ (H' S' : Hp) (p : Addr) (xs : List Str), Gr H S H' S' → H' p = some (.lst (xs.map V.str)) → Q (.ref p) H'
theorem mname_at {M : Mo} {n : Str} (h : n ∈ mnames M) : ∃ m ∈ M, m.1 = n := List.mem_map.mp h
section
variable {P : Program} {w : World} {K : PySem.W.Frag} {mg : Str → Option Value} {base : Heap}
theorem ok_Lusers (T : Txt K mg) (GFn : ∀ cn ∈ WC, ∃ f, Cls K (He.ga K cn) ∧ Meth K (He.ga K cn) "names" f ∧ FnR P w K mg base CX0 3 f (sp_wnames K)) (G_Library_check_known : OkM P w K mg base CX0 3 "Library" "check_known" P_Library_check_known (sp_Lknown K)) :
    OkM P w K mg base CX0 4 "Library" "users" P_Library_users (sp_Lusers K) := by
  refine (T.f_Library_users).ok sc_Library_users (fun vs H Q E h => ?_) (fun cdv A outer s H vs Q E hr h => ?_)
  · obtain ⟨al, a, n, fp, b, M, Ps, Us, S, rfl, _⟩ := h
    rfl
  · obtain ⟨al, a, n, fp, b, M, Ps, Us, S, rfl, ⟨dx, d, k, p, u, ps, us, rfl, o⟩, hn, sm, hS, kk⟩ := h
    refine ⟨_, PSs.nox (pss_cons (ps_expr (pe_meth (pv 0) (T.c "Library") (T.m "Library" "check_known") G_Library_check_known (hr.mono (by first | decide | omega)) T.b_Library_check_known .nil pass0 (pa_cons (pv 1) pa_nil)))
        (pss_one (ps_ret (pe_lock (pe_lc (own := [("late", 2)]) (g := (gName 2)) rfl sc_Library_users.nd (pi_keys (fldK (K := K) rfl (pv 0) rfl)) (by first | exact blkOk_by (N := N_Library_users) (sc := defScope s_Library_users) (by decide +kernel) | exact blkOk_by (N := N_Library_users) (sc := { kind := .function, names := [], isGenerator := false, isCoroutine := false }) (by decide +kernel)) (fun _ _ _ _ _ => (pg_name (i := 2) sc_Library_users.nd rfl (Or.inl rfl))) (fun _ _ _ _ _ => pts_one (pt_cmpR (inK (K := K) rfl) (pv 1) (pe_methF0 (K := K) (nms := WC) (spF := fun _ => sp_wnames K) rfl (pe_dget (hu_of hr) (fldK (K := K) rfl (pv 0) rfl) (pv 2) (fun _ _ => rfl)) GFn (hr.mono (by first | decide | omega)) pass0) (by rfl))) (fun _ _ _ _ _ => (pv 2))))))), ?_⟩
    walk_at "rs"
    walk_at "rd"
    refine ⟨a, dx, _, rfl, o.ob, by rfl, ?_⟩
    walk_at "rd"
    obtain ⟨m0, hm0, e0⟩ := mname_at hn
    refine ⟨al, a, n, _, b, M, Ps, Us, S, rfl, ⟨dx, d, k, p, u, ps, us, rfl, o⟩, hn, by rw [← e0]; exact (sm.tr m0 hm0).1, by rw [← e0]; exact (sm.tr m0 hm0).2.1, hS, fun H1 s1 => ?_⟩
    have g1 : Gr H S H1 S := Gr.ofSame hS s1
    have o1 := o.gr g1
    obtain ⟨kvs, hd, hp⟩ := id o1.di
    have nSd : S d = none := o1.out d (by simp)
    walk_at "rd"
    refine ⟨d, _, hd, trivial, fun od => ?_⟩
    have nad : a ≠ d := by
      have := o1.nd
      simp only [List.nodup_cons, List.mem_cons] at this
      exact fun z => this.1 (Or.inl z)
    have obL : (upd H1 d (HO.frz od (HO.dK kvs))) a = some (.ins (He.ga K "Library") dx (fsL al d k p u b)) := by
      rw [upd_ne nad]
      exact o1.ob
    have hSL := lock_sub (o := HO.frz od (HO.dK kvs)) g1.sub nSd
    have hdL : (upd H1 d (HO.frz od (HO.dK kvs))) d = some (HO.frz od (HO.dK kvs)) := upd_same
    generalize eL : upd H1 d (HO.frz od (HO.dK kvs)) = HL at obL hSL hdL
    walk_at "rd"
    refine ⟨_, _, _, _, _, rfl, obL, T.c "Library", T.n "Library" "own_wishes", rfl, ?_⟩
    refine ⟨d, od, rfl, .inl ⟨kvs, hdL, fun D hD => ?_⟩⟩
    have klen : kvs.length = M.length := hp.length
    refine lcg walk_keys (fun i acc S => acc = (((M.take i).filter fun m => decide (n ∈ nms m.2)).map (·.1)).map V.str) noZ noM hD hSL rfl trivial (fun _ _ _ _ => trivial) (fun i H9 S9 _ _ g _ _ => g.kept hdL fun z => z) ?_ ?_
    · rintro i x H2 H3 S2 acc hi g2 r _ e eS ⟨rfl, ky, v, hk, rfl⟩
      obtain ⟨m, hm, rfl, hw⟩ := dp_key hp hk
      have hmm : m ∈ M := List.mem_of_getElem? hm
      obtain ⟨t1, t2, t3, t4, t5⟩ := sm.tr m hmm
      walk_at "rs"
      walk_at "rd"
      refine ⟨_, _, _, _, _, rfl, (g2.kept obL fun z => z), T.c "Library", T.n "Library" "own_wishes", rfl, ?_⟩
      walk_at "rd"
      obtain ⟨v2, hv2, hw2⟩ := dp_get hp sm.nd m hmm
      refine ⟨d, v2, rfl, .inl ⟨kvs, .inr m.1, .inr ⟨od, g2.kept hdL fun z => z⟩, rfl, hv2.symm⟩, ?_⟩
      have ht := (hw2.tok).mono g2.mono
      obtain ⟨wa, cn, wdx, wfs, wl, rfl, hcn, hwa, hl1, hl2, hno⟩ := id ht
      refine ⟨wa, cn, wdx, wfs, rfl, g2.sub _ _ hwa, hcn, hno "names" (by decide +kernel), _, _, S2, rfl, ht, by omega, sm.tl hmm, g2.sub, fun H4 S4 p g4 hp4 => ?_⟩
      rw [filt_ok m.2 t4] at hp4
      refine rd_in (zs := sd (nms m.2)) (.inl (sql (g4.sub _ _ hp4))) ?_
      rw [show decide (n ∈ sd (nms m.2)) = decide (n ∈ nms m.2) from decide_eq_decide.mpr (mem_sd _)]
      walk_at "rd"
      have al : acc.length ≤ 12 := by
        rw [r, List.length_map, List.length_map]
        refine Nat.le_trans (List.length_filter_le _ _) ?_
        rw [List.length_take]
        have := sm.len
        omega
      by_cases c : n ∈ nms m.2
      · rw [if_pos (decide_eq_true c)]
        walk_at "rd"
        refine LcP.add hD (fun z => z) (fun _ _ _ _ => trivial) g2 e eS g4 (szL (by omega)) ?_ trivial
        rw [r, take_snoc hm, List.filter_append, List.filter_cons, if_pos (decide_eq_true c), List.filter_nil, List.map_append, List.map_append]
        rfl
      · rw [if_neg (by rw [decide_eq_false c]; decide)]
        refine LcP.skip (fun z => z) g2 e eS g4 ?_ trivial
        rw [r, take_snoc hm, List.filter_append, List.filter_cons, if_neg (by rw [decide_eq_false c]; decide), List.filter_nil, List.append_nil]
    · rintro H2 S2 acc g2 r _ e eS
      rw [klen, List.take_of_length_le (Nat.le_refl _)] at r
      have hdl : H2 d = some (HO.frz od (HO.dK kvs)) := g2.kept hdL fun z => z
      refine ⟨hdl, ?_⟩
      have g3 := g2.freeze e hD eS
      rw [← eL] at g3
      have g4 := g1.trans (g3.unlock hd nSd)
      refine kk _ _ D g4 ?_
      rw [upd_same, r]
      rfl
end
end Lst

/-! ## LLib4 -/
namespace Lst
open PySem PySem.Spec PyProof.Rows L2
theorem Gm.join {ms ms' : Addr → Prop} {H S H1 S1 H2 S2 : Hp} (g : Gm ms H S H1 S1) (k : Gm ms' H1 S1 H2 S2) (n : ∀ b, ms' b → H b ≠ none → ms b) : Gm ms H S H2 S2 :=
  ⟨fun b o h hn => k.all b o (g.all b o h hn) fun z => hn (n b z (live_of h)), fun b h => k.live b (g.live b h), k.sub, g.mono.trans k.mono, fun b h h' => k.new b (g.new b h h') (g.live b h')⟩
section
variable {P : Program} {w : World} {K : PySem.W.Frag} {mg : Str → Option Value} {base : Heap}
theorem ok_Ltouched (T : Txt K mg) (GFn : ∀ cn ∈ WC, ∃ f, Cls K (He.ga K cn) ∧ Meth K (He.ga K cn) "names" f ∧ FnR P w K mg base CX0 3 f (sp_wnames K)) (G_Library_check_known : OkM P w K mg base CX0 3 "Library" "check_known" P_Library_check_known (sp_Lknown K)) :
    OkM P w K mg base CX0 4 "Library" "touched" P_Library_touched (sp_Ltouched K) := by
  refine (T.f_Library_touched).ok sc_Library_touched (fun vs H Q E h => ?_) (fun cdv A outer s H vs Q E hr h => ?_)
  · obtain ⟨al, a, n, fp, b, M, Ps, Us, S, rfl, _⟩ := h
    rfl
  · obtain ⟨al, a, n, fp, b, M, Ps, Us, S, rfl, ⟨dx, d, k, p, u, ps, us, rfl, o⟩, hn, sm, hS, kk⟩ := h
    refine ⟨_, PSs.nox (pss_cons (ps_expr (pe_meth (pv 0) (T.c "Library") (T.m "Library" "check_known") G_Library_check_known (hr.mono (by first | decide | omega)) T.b_Library_check_known .nil pass0 (pa_cons (pv 1) pa_nil)))
        (pss_cons (ps_set (i := 2) sc_Library_touched.nd rfl (Or.inr rfl) (pe_lst (pa_cons (pv 1) pa_nil)))
        (pss_cons (ps_lock (ps_for PassesOwn.never rfl (pi_keys (fldK (K := K) rfl (pv 0) rfl)) (pg_name (i := 3) sc_Library_touched.nd rfl (Or.inl rfl)) (pss_one (ps_if (pt_val (pe_callB (anyK (K := K) rfl rfl) (by rfl) T.f (by decide +kernel) (pa_cons (pe_lc (own := [("used", 4)]) (g := (gName 4)) (tt := tYes) rfl sc_Library_touched.nd (pi_listK (K := K) rfl (pe_methF0 (K := K) (nms := WC) (spF := fun _ => sp_wnames K) rfl (pe_dget (hu_of hr) (fldK (K := K) rfl (pv 0) rfl) (pv 3) (fun _ _ => rfl)) GFn (hr.mono (by first | decide | omega)) pass0)) (by first | exact blkOk_by (N := N_Library_touched) (sc := defScope s_Library_touched) (by decide +kernel) | exact blkOk_by (N := N_Library_touched) (sc := { kind := .function, names := [], isGenerator := false, isCoroutine := false }) (by decide +kernel)) (fun _ _ _ _ _ => (pg_name (i := 4) sc_Library_touched.nd rfl (Or.inl rfl))) (fun _ _ _ _ _ => pts_nil) (fun _ _ _ _ _ => (pe_cmpR (inK (K := K) rfl) (pv 4) (pv 2) (by rfl)))) pa_nil))) (pss_one (ps_expr (pe_bm PySem.F.plainAttrs_list PySem.F.slot_list_append PySem.F.type_list_append mt_append (pv 2) (pa_cons (pv 3) pa_nil)))) pss_nil))))
        (pss_one (ps_ret (pv 2)))))), ?_⟩
    walk_at "rs"
    walk_at "rd"
    refine ⟨a, dx, _, rfl, o.ob, by rfl, ?_⟩
    walk_at "rd"
    obtain ⟨m0, hm0, e0⟩ := mname_at hn
    refine ⟨al, a, n, _, b, M, Ps, Us, S, rfl, ⟨dx, d, k, p, u, ps, us, rfl, o⟩, hn, by rw [← e0]; exact (sm.tr m0 hm0).1, by rw [← e0]; exact (sm.tr m0 hm0).2.1, hS, fun H1 s1 => ?_⟩
    have g1 : Gr H S H1 S := Gr.ofSame hS s1
    walk_at "rd"
    refine ⟨by walk_at "sz", fun q hq => ?_⟩
    generalize e2 : upd H1 q (HO.lst [V.str n]) = H2
    have g2 := g1.l0 e2 hq
    have o2 := o.gr g2
    have nSq : S q = none := Same.free g1.sub hq
    have hq2 := new_at e2
    have hqH : H q = none := g1.free hq
    clear e2
    obtain ⟨kvs, hd, hp⟩ := id o2.di
    have nSd : S d = none := o2.out d (by simp)
    have nad : a ≠ d := by
      have := o2.nd
      simp only [List.nodup_cons, List.mem_cons] at this
      exact fun z => this.1 (Or.inl z)
    have nqd : q ≠ d := fun z => by
      rw [z, hd] at hq2
      cases hq2
    walk_at "rd"
    refine ⟨d, _, hd, trivial, fun od => ?_⟩
    have obL : (upd H2 d (HO.frz od (HO.dK kvs))) a = some (.ins (He.ga K "Library") dx (fsL al d k p u b)) := by
      rw [upd_ne nad]
      exact o2.ob
    have hqL : (upd H2 d (HO.frz od (HO.dK kvs))) q = some (HO.lst [V.str n]) := by
      rw [upd_ne nqd]
      exact hq2
    have hSL := lock_sub (o := HO.frz od (HO.dK kvs)) g2.sub nSd
    have hdL : (upd H2 d (HO.frz od (HO.dK kvs))) d = some (HO.frz od (HO.dK kvs)) := upd_same
    generalize eL : upd H2 d (HO.frz od (HO.dK kvs)) = HL at obL hSL hdL hqL
    refine ⟨_, rfl, _, _, _, _, _, rfl, obL, T.c "Library", T.n "Library" "own_wishes", rfl, d, od, rfl, .inl ⟨kvs, hdL, ?_⟩⟩
    have naq : ¬ one q a := fun z => by
      have z : a = q := z
      rw [z, hqL] at obL
      cases obL
    have ndq : ¬ one q d := fun z => nqd z.symm
    refine for_it walk_keys (fun i σ H' => ∃ S' xs x3 x4, σ = [some (.ref a), some (.str n), some (.ref q), x3, x4] ∧ Gm (one q) HL S H' S' ∧ H' q = some (.lst (xs.map V.str)) ∧ S' q = none ∧ xs.length ≤ i + 1)
      ⟨S, [n], none, none, rfl, Gm.rfl' hSL, hqL, nSq, Nat.le_refl _⟩ (fun i σ H' _ ⟨S', _, _, _, _, g, _⟩ => g.kept hdL ndq) ?_ ?_
    · rintro i x σ H3 H4 hi ⟨S3, xs, x3, x4, rfl, g3, hq3, nq3, xl⟩ ⟨rfl, ky, v, hk, rfl⟩
      obtain ⟨m, hm, rfl, hw⟩ := dp_key hp hk
      have hmm : m ∈ M := List.mem_of_getElem? hm
      obtain ⟨t1, t2, t3, t4, t5⟩ := sm.tr m hmm
      walk_at "rs"
      walk_at "rd"
      refine ⟨_, _, _, _, _, rfl, (g3.kept obL naq), T.c "Library", T.n "Library" "own_wishes", rfl, ?_⟩
      walk_at "rd"
      obtain ⟨v2, hv2, hw2⟩ := dp_get hp sm.nd m hmm
      refine ⟨d, v2, rfl, .inl ⟨kvs, .inr m.1, .inr ⟨od, g3.kept hdL ndq⟩, rfl, hv2.symm⟩, ?_⟩
      have ht := (hw2.tok).mono g3.mono
      obtain ⟨wa, cn, wdx, wfs, wl, rfl, hcn, hwa, hl1, hl2, hno⟩ := id ht
      refine ⟨wa, cn, wdx, wfs, rfl, g3.sub _ _ hwa, hcn, hno "names" (by decide +kernel), _, _, S3, rfl, ht, by omega, sm.tl hmm, g3.sub, fun H5 S4 p2 g4 hp4 => ?_⟩
      refine ⟨p2, rfl, ⟨_, sql (g4.sub _ _ hp4)⟩, fun D hD => ?_⟩
      have hq5 := g4.same _ _ hq3
      have sl : (sd ((toks m.2).filter nameOk)).length ≤ 20 := Nat.le_trans (sd_len _) (Nat.le_trans (List.length_filter_le _ _) t5)
      refine lcg walk_list (fun i acc S => ∃ bs : List Bool, acc = bs.map V.bl ∧ bs.length ≤ i) noZ noM hD g4.sub ⟨[], rfl, Nat.le_refl _⟩ trivial (fun _ _ _ _ => trivial) (fun i H9 S9 _ _ g _ _ => sql (g.sub _ _ (g.mono _ _ hp4))) ?_ ?_
      · rintro j x H6 H7 S6 acc hj g6 ⟨bs, rfl, bl⟩ _ e eS ⟨rfl, hx⟩
        rw [List.length_map] at hj
        rw [List.getElem?_map] at hx
        obtain ⟨z, hz, rfl⟩ := Option.map_eq_some_iff.mp hx
        walk_at "rs"
        walk_at "rd"
        refine rd_in (zs := xs) (.inl (sql (g6.same _ _ hq5))) ?_
        refine LcP.add hD (fun z => z) (fun _ _ _ _ => trivial) g6 e eS (Gm.rfl' g6.sub) (szL (by rw [List.length_map]; omega)) ⟨bs ++ [decide (z ∈ xs)], ?_, ?_⟩ trivial
        · rw [List.map_append]
          rfl
        · rw [List.length_append]
          exact Nat.succ_le_succ bl
      · rintro H6 S6 acc g6 ⟨bs, rfl, _⟩ _ e eS
        refine ⟨D, bs, rfl, sql e, ?_⟩
        have g7 : Gm (one q) HL S H6 S6 := g3.tr (g4.trans g6)
        have hq6 : H6 q = some (.lst (xs.map V.str)) := g6.same _ _ hq5
        have nq6 : S6 q = none := (g4.trans g6).none_ nq3 (live_of hq3)
        walk_at "rd"
        cases c : bs.any id with
        | true =>
          walk_at "rd"
          refine ⟨.inl ⟨rfl, _, sql hq6⟩, ?_⟩
          walk_at "rd"
          have hlen := sm.len
          refine ⟨q, _, _, rfl, rfl, hq6, szL (by rw [List.length_map]; have := hp.length; omega), S6, xs ++ [m.1], _, _, rfl, g7.store rfl nq6, ?_, nq6, ?_⟩
          · rw [upd_same, List.map_append]
            rfl
          · rw [List.length_append]
            exact Nat.succ_le_succ xl
        | false =>
          walk_at "rd"
          exact ⟨S6, xs, _, _, rfl, g7, hq6, nq6, Nat.le_succ_of_le xl⟩
    · rintro σ H3 ⟨S3, xs, x3, x4, rfl, g3, hq3, nq3, xl⟩
      refine ⟨g3.kept hdL ndq, ?_⟩
      rw [← eL] at g3
      have g4 := g3.unlock hd nSd
      walk_at "rd"
      refine kk _ _ q xs (g2.join g4 fun b hb h => ?_) ?_
      · have hb : b = q := hb
        rw [hb] at h
        exact h hqH
      · rw [upd_ne nqd]
        exact hq3
end
end Lst

/-! ## LLib5 -/
namespace Lst
open PySem PySem.Spec PyProof.Rows L2
def sp_Lchecked (K : PySem.W.Frag) : Sp := fun vs H Q _ => ∃ (al : Str) (a e : Addr) (t : Tr) (er : List Str) (fp : List Addr) (b : Bool) (M : Mo) (Ps Us : List Mo) (S : Hp), vs = [.ref a, .str (txtOf t), .ref e] ∧ LibI K al S H a fp b M Ps Us ∧ H e = some (.lst (er.map V.str)) ∧
  (smT t ∧ trOk t ∧ (toks t).length ≤ 20 ∧ depth t ≤ 4) ∧ al.length ≤ 1000 ∧ (∀ c ∈ lets t, c ∈ sg al) ∧ (∀ n ∈ nms t, n ∈ er) ∧ Same S H ∧ ∀ (H' S' : Hp) (v : V), Gr H S H' S' → WishAt K S' v t → Q v H'
section
variable {P : Program} {w : World} {K : PySem.W.Frag} {mg : Str → Option Value} {base : Heap}
theorem ok_Lchecked (T : Txt K mg) (G_read_wish : OkG P w K mg base CX0 6 "read_wish" P_read_wish (sp_read K)) (GF : ∀ cn ∈ WC, ∃ f, Cls K (He.ga K cn) ∧ Meth K (He.ga K cn) "needed" f ∧ FnR P w K mg base CX0 11 f (sp_needed K 5 cn))
    (GFn : ∀ cn ∈ WC, ∃ f, Cls K (He.ga K cn) ∧ Meth K (He.ga K cn) "names" f ∧ FnR P w K mg base CX0 3 f (sp_wnames K)) : OkM P w K mg base CX0 12 "Library" "checked" P_Library_checked (sp_Lchecked K) := by
  refine (T.f_Library_checked).ok sc_Library_checked (fun vs H Q E h => ?_) (fun cdv A outer s H vs Q E hr h => ?_)
  · obtain ⟨al, a, e, t, er, fp, b, M, Ps, Us, S, rfl, _⟩ := h
    rfl
  · obtain ⟨al, a, e, t, er, fp, b, M, Ps, Us, S, rfl, ⟨dx, d, k, p, u, ps, us, rfl, o⟩, he, ⟨st, ot, tl, dt⟩, hal, hl, hn, hS, kk⟩ := h
    refine ⟨_, PSs.nox (pss_cons (ps_set (i := 3) sc_Library_checked.nd rfl (Or.inl rfl) (pe_call G_read_wish (hr.mono (by first | decide | omega)) (by rfl) (T.g "read_wish") (T.k "read_wish") T.b_read_wish .nil pass0 (pa_cons (pv 1) pa_nil)))
        (pss_cons (ps_for PassesOwn.never rfl (pi_str (pe_methF0 (K := K) (nms := WC) (spF := sp_needed K 5) rfl (pv 3) GF (hr.mono (by first | decide | omega)) pass0)) (pg_name (i := 4) sc_Library_checked.nd rfl (Or.inl rfl)) (pss_one (ps_if (pt_cmpR op_notIn_sign (pv 4) (fldK (K := K) rfl (pv 0) rfl) rfl) (pss_one ps_never) pss_nil)))
        (pss_cons (ps_for PassesOwn.never rfl (pi_listK (K := K) rfl (pe_methF0 (K := K) (nms := WC) (spF := fun _ => sp_wnames K) rfl (pv 3) GFn (hr.mono (by first | decide | omega)) pass0)) (pg_name (i := 5) sc_Library_checked.nd rfl (Or.inl rfl)) (pss_one (ps_if (pt_cmpR (ninK (K := K) rfl) (pv 5) (pv 2) (by rfl)) (pss_one ps_never) pss_nil)))
        (pss_one (ps_ret (pv 3)))))), ?_⟩
    walk_at "rs"
    walk_at "rd"
    have zl := txt_len st (by omega)
    refine ⟨t, S, rfl, ot, tl, by omega, hS, fun H1 S1 v g1 hv => ?_⟩
    walk_at "rd"
    obtain ⟨wa0, ndx, nfs, e0, hna, hnc, hnl⟩ := hv.needF
    have ht := hv.tok
    obtain ⟨wa, cn, wdx, wfs, wl, e1, hcn, hwa, hl1, hl2, hno⟩ := id ht
    refine ⟨wa0, cname t, ndx, nfs, e0, g1.sub _ _ hna, hnc, hnl, v, t, S1, rfl, hv, rfl, st, by omega, g1.sub, fun H2 z s2 zc zl2 => ?_⟩
    have g2 : Gr H S H2 S1 := g1.trans (Gr.ofSame g1.sub s2)
    have ob2 := (o.gr g2).ob
    refine ⟨z, rfl, ?_⟩
    refine for_it walk_str (fun i σ H' => ∃ x4 x5, σ = [some (.ref a), some (.str (txtOf t)), some (.ref e), some v, x4, x5] ∧ H' = H2) ⟨none, none, rfl, rfl⟩ (fun _ _ _ _ _ => trivial) ?_ ?_
    · rintro i x σ H3 H4 hi ⟨x4, x5, rfl, rfl⟩ ⟨rfl, c, hc, rfl⟩
      walk_at "rs"
      walk_at "rd"
      refine ⟨_, _, _, _, _, rfl, ob2, T.c "Library", T.n "Library" "alphabet", rfl, ?_⟩
      have hcz : c ∈ sg z := by
        rw [← Array.getElem?_toList] at hc
        exact List.mem_of_getElem? hc
      refine ⟨c, al, rfl, rfl, ?_⟩
      rw [decide_eq_true (show c ∈ al.cps.toList from hl c (zc c hcz))]
      walk_at "rd"
      first | exact rfl | exact ⟨_, _, rfl, rfl⟩
    · rintro σ H3 ⟨x4, x5, rfl, rfl⟩
      walk_at "rs"
      refine ⟨v, rfl, wa, cn, wdx, wfs, e1, g2.sub _ _ hwa, hcn, hno "names" (by decide +kernel), v, _, S1, rfl, ht, by omega, fun y hy => by have := tok_len t st y hy; omega, g2.sub, fun H4 S4 p4 g4 hp4 => ?_⟩
      rw [filt_ok t ot] at hp4
      have g5 := g2.trans g4
      have he4 : H4 e = some (.lst (er.map V.str)) := g5.same _ _ he
      refine ⟨p4, rfl, ⟨_, sql (g4.sub _ _ hp4)⟩, ?_⟩
      refine for_list (xs := (sd (nms t)).map V.str) (fun i σ H' => ∃ x4 x5, σ = [some (.ref a), some (.str (txtOf t)), some (.ref e), some v, x4, x5] ∧ H' = H4) ⟨_, _, rfl, rfl⟩ (fun i σ H' _ ⟨_, _, _, e⟩ => by rw [e]; exact sql (g4.sub _ _ hp4)) ?_ ?_
      · rintro i x σ H5 hx ⟨x4', x5', rfl, rfl⟩
        rw [List.getElem?_map] at hx
        obtain ⟨n, hn1, rfl⟩ := Option.map_eq_some_iff.mp hx
        have hne : n ∈ er := hn n ((mem_sd _).mp (List.mem_of_getElem? hn1))
        walk_at "rs"
        walk_at "rd"
        refine rd_nin (zs := er) (.inl (sql he4)) ?_
        rw [decide_eq_true hne]
        walk_at "rd"
        first | exact rfl | exact ⟨_, _, rfl, rfl⟩
      · rintro σ H5 ⟨x4', x5', rfl, rfl⟩
        walk_at "rs"
        walk_at "rd"
        exact kk _ S4 v g5 (hv.mono g4.mono)
end
end Lst

/-! ## LLib6 -/
namespace Lst
open PySem PySem.Spec PyProof.Rows L2
/-- an operation on a library: what it writes is the library's; what is the library's now was so, or is new -/
def LStep (K : PySem.W.Frag) (al : Str) (a : Addr) (S H : Hp) (fp : List Addr) (b' : Bool) (M' : Mo) (Ps' Us' : List Mo) (k : Hp → Prop) : Prop :=
  ∀ (H' S' : Hp) (fp' : List Addr), Gm (fun x => x ∈ fp) H S H' S' → LibI K al S' H' a fp' b' M' Ps' Us' → (∀ x ∈ fp', x ∈ fp ∨ H x = none) → k H'
theorem nd_put {l1 l2 : List Addr} {x y : Addr} (h : (l1 ++ x :: l2).Nodup) (n : y ∉ l1 ++ x :: l2) : (l1 ++ y :: l2).Nodup := by
  rw [List.perm_middle.nodup_iff] at h ⊢
  obtain ⟨_, h2⟩ := List.nodup_cons.mp h
  refine List.nodup_cons.mpr ⟨fun z => n ?_, h2⟩
  rcases List.mem_append.mp z with q | q
  · exact List.mem_append_left _ q
  · exact List.mem_append_right _ (List.mem_cons_of_mem _ q)
section
variable {a d k p u D : Addr} {ps us : List Addr}
theorem nd_k (h : (fpL a d k p u ps us).Nodup) (n : D ∉ fpL a d k p u ps us) : (fpL a d D p u ps us).Nodup := nd_put (l1 := [a, d]) h n
theorem nd_d (h : (fpL a d k p u ps us).Nodup) (n : D ∉ fpL a d k p u ps us) : (fpL a D k p u ps us).Nodup := nd_put (l1 := [a]) h n
theorem nd_u (h : (fpL a d k p u ps us).Nodup) (n : D ∉ fpL a d k p u ps us) : (fpL a d k p D ps us).Nodup := nd_put (l1 := [a, d, k, p]) h n
theorem nd_q {q : Addr} (h : (fpL a d k p u (ps ++ [q]) us).Nodup) : (fpL a q k p u ps (us ++ [d])).Nodup := by
  refine (List.Perm.nodup_iff ?_).mp h
  refine List.perm_iff_count.mpr fun x => ?_
  simp only [fpL, List.count_append, List.count_cons, List.count_nil]
  omega
theorem nd_r {q : Addr} (h : (fpL a d k p u ps (us ++ [q])).Nodup) : (fpL a q k p u (ps ++ [d]) us).Nodup := by
  refine (List.Perm.nodup_iff ?_).mp h
  refine List.perm_iff_count.mpr fun x => ?_
  simp only [fpL, List.count_append, List.count_cons, List.count_nil]
  omega
end
section
variable {K : PySem.W.Frag} {al : Str} {S H S' H' : Hp} {a dx d k p u : Addr} {ps us : List Addr} {b : Bool} {M : Mo} {Ps Us : List Mo}
theorem LibO.new (o : LibO K al S H a dx d k p u ps us b M Ps Us) {x : Addr} (h : H x = none) : x ∉ fpL a d k p u ps us := fun z => o.live x z h
/-- what is not written of a library -/
theorem LibO.ne (o : LibO K al S H a dx d k p u ps us b M Ps Us) : a ≠ d ∧ a ≠ k ∧ a ≠ p ∧ a ≠ u ∧ d ≠ k ∧ d ≠ p ∧ d ≠ u ∧ k ≠ p ∧ k ≠ u ∧ p ≠ u ∧ (∀ x ∈ ps, x ≠ a ∧ x ≠ d ∧ x ≠ k ∧ x ≠ p ∧ x ≠ u) ∧ ∀ x ∈ us, x ≠ a ∧ x ≠ d ∧ x ≠ k ∧ x ≠ p ∧ x ≠ u := by
  have h := o.nd
  simp only [List.nodup_cons, List.mem_cons, List.mem_append, not_or] at h
  obtain ⟨⟨h1, h2, h3, h4, h5, h6⟩, ⟨i1, i2, i3, i4, i5⟩, ⟨j1, j2, j3, j4⟩, ⟨l1, l2, l3⟩, ⟨m1, m2⟩, _⟩ := h
  refine ⟨h1, h2, h3, h4, i1, i2, i3, j1, j2, l1, fun x hx => ⟨fun e => h5 (e ▸ hx), fun e => i4 (e ▸ hx), fun e => j3 (e ▸ hx), fun e => l2 (e ▸ hx), fun e => m1 (e ▸ hx)⟩, fun x hx => ⟨fun e => h6 (e ▸ hx), fun e => i5 (e ▸ hx), fun e => j4 (e ▸ hx), fun e => l3 (e ▸ hx), fun e => m2 (e ▸ hx)⟩⟩
end
theorem DctAt.upd {K : PySem.W.Frag} {S H : Hp} {d x : Addr} {M : Mo} {o : HO} (t : DctAt K S H d M) (n : d ≠ x) : DctAt K S (upd H x o) d M := by
  obtain ⟨kvs, h1, h2⟩ := t
  exact ⟨kvs, by rw [upd_ne n]; exact h1, h2⟩
section
variable {K : PySem.W.Frag} {al : Str} {S H S' H' : Hp} {a dx d k p u : Addr} {ps us : List Addr} {b : Bool} {M : Mo} {Ps Us : List Mo}
structure FpNe (a d k p u : Addr) (ps us : List Addr) : Prop where
  ad : a ≠ d
  ak : a ≠ k
  ap : a ≠ p
  au : a ≠ u
  dk : d ≠ k
  dp : d ≠ p
  du : d ≠ u
  kp : k ≠ p
  ku : k ≠ u
  pu : p ≠ u
  ps : ∀ x ∈ ps, x ≠ a ∧ x ≠ d ∧ x ≠ k ∧ x ≠ p ∧ x ≠ u
  us : ∀ x ∈ us, x ≠ a ∧ x ≠ d ∧ x ≠ k ∧ x ≠ p ∧ x ≠ u
theorem fpNe (h : (fpL a d k p u ps us).Nodup) : FpNe a d k p u ps us := by
  simp only [List.nodup_cons, List.mem_cons, List.mem_append, not_or] at h
  obtain ⟨⟨h1, h2, h3, h4, h5, h6⟩, ⟨i1, i2, i3, i4, i5⟩, ⟨j1, j2, j3, j4⟩, ⟨l1, l2, l3⟩, ⟨m1, m2⟩, _⟩ := h
  exact ⟨h1, h2, h3, h4, i1, i2, i3, j1, j2, l1, fun x hx => ⟨fun e => h5 (e ▸ hx), fun e => i4 (e ▸ hx), fun e => j3 (e ▸ hx), fun e => l2 (e ▸ hx), fun e => m1 (e ▸ hx)⟩, fun x hx => ⟨fun e => h6 (e ▸ hx), fun e => i5 (e ▸ hx), fun e => j4 (e ▸ hx), fun e => l3 (e ▸ hx), fun e => m2 (e ▸ hx)⟩⟩
/-- the object is written -/
theorem LibO.wa {o : HO} (ho : o = .ins (He.ga K "Library") dx (fsL al d k p u b)) (hd : DctAt K S H d M) (hk : H k = some (.dK [])) (hp : H p = some (.lst (ps.map V.ref))) (hu : H u = some (.lst (us.map V.ref))) (h1 : Paired (DctAt K S H) ps Ps) (h2 : Paired (DctAt K S H) us Us)
    (nd : (fpL a d k p u ps us).Nodup) (out : ∀ x ∈ fpL a d k p u ps us, S x = none) : LibO K al S (upd H a o) a dx d k p u ps us b M Ps Us := by
  have n := fpNe nd
  exact ⟨by rw [upd_same, ho], hd.upd n.ad.symm, by rw [upd_ne n.ak.symm]; exact hk, by rw [upd_ne n.ap.symm]; exact hp, by rw [upd_ne n.au.symm]; exact hu, pair_imp h1 fun x hx y q => q.upd (n.ps x hx).1, pair_imp h2 fun x hx y q => q.upd (n.us x hx).1, nd, out⟩
/-- the dict is written -/
theorem LibO.wd (o : LibO K al S H a dx d k p u ps us b M Ps Us) {kvs : DKv} {M' : Mo} (h : DPairs K S kvs M') : LibO K al S (upd H d (.dK kvs)) a dx d k p u ps us b M' Ps Us := by
  have n := fpNe o.nd
  exact ⟨by rw [upd_ne n.ad]; exact o.ob, ⟨kvs, upd_same, h⟩, by rw [upd_ne n.dk.symm]; exact o.kp, by rw [upd_ne n.dp.symm]; exact o.pa, by rw [upd_ne n.du.symm]; exact o.un, pair_imp o.ds fun x hx y q => q.upd (n.ps x hx).2.1, pair_imp o.es fun x hx y q => q.upd (n.us x hx).2.1, o.nd, o.out⟩
end
theorem putF_kept {al : Str} {d k p u D : Addr} {b : Bool} : putF "own_kept" (.ref D) (fsL al d k p u b) = fsL al d D p u b := rfl
theorem putF_wish {al : Str} {d k p u D : Addr} {b : Bool} : putF "own_wishes" (.ref D) (fsL al d k p u b) = fsL al D k p u b := rfl
theorem putF_und {al : Str} {d k p u D : Addr} {b : Bool} : putF "own_undone" (.ref D) (fsL al d k p u b) = fsL al d k p D b := rfl
theorem putF_busy {al : Str} {d k p u : Addr} {b c : Bool} : putF "own_busy" (.bl c) (fsL al d k p u b) = fsL al d k p u c := rfl
def sp_Lletgo (K : PySem.W.Frag) : Sp := fun vs H Q _ => ∃ (al : Str) (a : Addr) (v : V) (fp : List Addr) (b : Bool) (M : Mo) (Ps Us : List Mo) (S : Hp), vs = [.ref a, v] ∧ LibI K al S H a fp b M Ps Us ∧ Same S H ∧ LStep K al a S H fp b M Ps Us fun H' => Q .non H'
section
variable {P : Program} {w : World} {K : PySem.W.Frag} {mg : Str → Option Value} {base : Heap}
theorem ok_Lletgo (T : Txt K mg) : OkM P w K mg base CX0 1 "Library" "let_go" P_Library_let_go (sp_Lletgo K) := by
  refine (T.f_Library_let_go).ok sc_Library_let_go (fun vs H Q E h => ?_) (fun cdv A outer s H vs Q E hr h => ?_)
  · obtain ⟨al, a, v, fp, b, M, Ps, Us, S, rfl, _⟩ := h
    rfl
  · obtain ⟨al, a, v, fp, b, M, Ps, Us, S, rfl, ⟨dx, d, k, p, u, ps, us, rfl, o⟩, hS, kk⟩ := h
    refine ⟨_, PSs.nox (pss_one (ps_fldK (K := K) rfl (pv 0) (pe_lock (pe_dc (own := [("name", 2)]) (g := (gName 2)) rfl sc_Library_let_go.nd (pi_keys (fldK (K := K) rfl (pv 0) rfl)) (blkOk_by (N := N_Library_let_go) (sc := defScope s_Library_let_go) (by decide +kernel)) (fun _ _ _ _ _ => (pg_name (i := 2) sc_Library_let_go.nd rfl (Or.inl rfl))) (fun _ _ _ _ _ => pts_one (pt_cmpR (ninK (K := K) rfl) (pv 2) (pv 1) (by rfl))) (fun _ _ _ _ _ => (pv 2)) (fun _ _ _ _ _ => (pe_dget (hu_of hr) (fldK (K := K) rfl (pv 0) rfl) (pv 2) (fun _ _ => rfl))))) rfl)), ?_⟩
    walk_at "rs"
    refine ⟨k, _, o.kp, trivial, fun od => ?_⟩
    have n := fpNe o.nd
    have nSk : S k = none := o.out k (by simp)
    have obL : (upd H k (HO.frz od (HO.dK []))) a = some (.ins (He.ga K "Library") dx (fsL al d k p u b)) := by
      rw [upd_ne n.ak]
      exact o.ob
    have hSL := lock_sub (o := HO.frz od (HO.dK [])) hS nSk
    refine ⟨_, rfl, _, _, _, _, _, rfl, obL, T.c "Library", T.n "Library" "own_kept", rfl, k, od, rfl, .inl ⟨[], upd_same, fun D hD => ?_⟩⟩
    have g1 := ((Gm.rfl' hSL : Gr _ S _ S).laid0 (o := .dK []) hD).unlock o.kp nSk
    have hDk : D ≠ k := fun z => by
      rw [z, upd_same] at hD
      cases hD
    have hDH : H D = none := by
      rw [upd_ne hDk] at hD
      exact hD
    have o1 := o.gr g1
    have hD1 : (upd (upd (upd H k (HO.frz od (HO.dK []))) D (HO.dK [])) k (HO.dK [])) D = some (.dK []) := by rw [upd_ne hDk, upd_same]
    refine ⟨fun i m H' => i = 0 ∧ H' = upd (upd H k (HO.frz od (HO.dK []))) D (HO.dK []), ⟨0, rfl, rfl⟩, ?_⟩
    rintro i m H' ⟨rfl, rfl⟩
    have hkD : (upd (upd H k (HO.frz od (HO.dK []))) D (HO.dK [])) k = some (HO.frz od (HO.dK [])) := by rw [upd_ne hDk.symm, upd_same]
    refine .inl ⟨walk_keys.stops _ hkD, hkD, _, rfl, a, _, dx, _, rfl, o1.ob, T.c "Library", T.n "Library" "own_kept", (by show 8 < 1000; decide), ?_⟩
    have nD : D ∉ fpL a d k p u ps us := o.new hDH
    have SD : S D = none := Same.free hS hDH
    refine kk _ S (fpL a d D p u ps us) (g1.m.store (List.mem_cons_self ..) (o1.out a (by simp))) ⟨dx, d, D, p, u, ps, us, rfl, LibO.wa (by rw [putF_kept]) o1.di hD1 o1.pa o1.un o1.ds o1.es (nd_k o.nd nD) fun x hx => ?_⟩ fun x hx => ?_
    · simp only [List.mem_cons, List.mem_append] at hx
      rcases hx with e | e | e | e | e | e | e
      · exact o.out x (by simp [e])
      · exact o.out x (by simp [e])
      · rw [e]; exact SD
      · exact o.out x (by simp [e])
      · exact o.out x (by simp [e])
      · exact o.out x (by simp [e])
      · exact o.out x (by simp [e])
    · simp only [List.mem_cons, List.mem_append] at hx ⊢
      rcases hx with e | e | e | e | e | e | e <;> simp [e, hDH]
end
end Lst

/-! ## LLib7 -/
namespace Lst
open PySem PySem.Spec PyProof.Rows L2
/-! ### o.f, a target among others -/
def gFld (K : PySem.W.Frag) (f : Str) (to : TE) : TG := fun v σ H Q => to σ H fun x H1 => ∃ a C dx fs, x = .ref a ∧ H1 a = some (.ins C dx fs) ∧ Cls K C ∧ NoAttr K C f ∧ fs.length < 1000 ∧ Q σ (upd H1 a (.ins C dx (putF f v fs)))
theorem pg_fldK {X : Cx} {K : PySem.W.Frag} {o : Expr} {f : Str} {pos : Pos} {to : TE} (hK : X.K = K) (ho : PE X o to)
    (ha : ∀ v, assign (.Attribute o f pos) X.env v = (do
      let ov ← holding [v] (eval o X.env)
      standAt pos.atName
      holding [v, ov] (setAttr ov f v)
      release [v, ov] []) := by intro _; rfl) : PG X (.Attribute o f pos) (gFld K f to) := by
  refine ⟨fun pins s σ H v u Q I r h => ?_⟩
  subst hK
  rw [ha]
  refine wpAny_bind (wpAny_holding (thn (ho.run pins s σ H _ I h) fun ov s1 ⟨x, H1, I1, r1, a, C, dx, fs, ex, ea, c, n, l, q⟩ => ?_))
  subst ex
  obtain rfl : ov = Value.ref a := r1
  refine wpAny_bind (wpAny_standAt (wpAny_bind (wpAny_holding (setattr_ok I1 ea c n l r fun s2 I2 => ?_))))
  exact wpAny_release ⟨σ, _, I2, q⟩
/-! ### another name in a tree -/
theorem ne_58 {n z : Str} (h : nameOk n = true) (hz : 58 ∈ sg z) : z ≠ n := fun e => by
  have := ok_58 hz
  rw [e, h] at this
  cases this
theorem ne_op {n : Str} (h : nameOk n = true) (b : Bool) : opS b ≠ n := fun e => by
  rw [← e] at h
  exact absurd h (by cases b <;> decide +kernel)
theorem toks_ren {n l : Str} (h : nameOk n = true) : ∀ t : Tr, toks (ren n l t) = (toks t).map fun z => if z = n then l else z
  | .nm x => rfl
  | .lf b ws => by
    show [leafTok b ws] = [if leafTok b ws = n then l else leafTok b ws]
    rw [if_neg (ne_58 h (leaf58 b ws))]
  | .bh w t => by
    show toks (ren n l t) ++ [bhTok w] = (toks t ++ [bhTok w]).map _
    rw [List.map_append, toks_ren h t, List.map_singleton, if_neg (ne_58 h (bh58 w))]
  | .op b x y => by
    show toks (ren n l x) ++ toks (ren n l y) ++ [opS b] = (toks x ++ toks y ++ [opS b]).map _
    rw [List.map_append, List.map_append, toks_ren h x, toks_ren h y, List.map_singleton, if_neg (ne_op h b)]
theorem ren_ok {n l : Str} (h : nameOk l = true) : ∀ t : Tr, smT t → trOk t → smT (ren n l t) ∧ trOk (ren n l t)
  | .nm x, s, o => by
    show (if x = n then l else x).length ≤ 8 ∧ nameOk (if x = n then l else x) = true
    by_cases e : x = n
    · rw [if_pos e]
      exact ⟨nameOk_len h, h⟩
    · rw [if_neg e]
      exact ⟨s, o⟩
  | .lf b ws, s, o => ⟨s, o⟩
  | .bh w t, s, o => ⟨⟨s.1, (ren_ok h t s.2 o.2).1⟩, o.1, (ren_ok h t s.2 o.2).2⟩
  | .op b x y, s, o => ⟨⟨(ren_ok h x s.1 o.1).1, (ren_ok h y s.2 o.2).1⟩, (ren_ok h x s.1 o.1).2, (ren_ok h y s.2 o.2).2⟩
def renM (n l : Str) (m : Str × Tr) : Str × Tr := (if m.1 = n then l else m.1, ren n l m.2)
def sp_Lmoved (K : PySem.W.Frag) : Sp := fun vs H Q _ => ∃ (al : Str) (a : Addr) (n l : Str) (fp : List Addr) (b : Bool) (M : Mo) (Ps Us : List Mo) (S : Hp), vs = [.ref a, .str n, .str l] ∧ LibI K al S H a fp b M Ps Us ∧ nameOk n = true ∧ nameOk l = true ∧ l ∉ mnames M ∧ MSm M ∧ Same S H ∧
  LStep K al a S H fp b (M.map (renM n l)) Ps Us fun H' => Q .non H'
section
variable {P : Program} {w : World} {K : PySem.W.Frag} {mg : Str → Option Value} {base : Heap}
theorem ok_Lmoved (T : Txt K mg) (G_is_name : OkG P w K mg base CX0 2 "is_name" P_is_name sp_is_name) (G_read_wish : OkG P w K mg base CX0 6 "read_wish" P_read_wish (sp_read K))
    (GFt : ∀ cn ∈ WC, ∃ f, Cls K (He.ga K cn) ∧ Meth K (He.ga K cn) "tokens" f ∧ FnR P w K mg base CX0 1 f (sp_wtokens K)) : OkM P w K mg base CX0 7 "Library" "moved" P_Library_moved (sp_Lmoved K) := by
  refine (T.f_Library_moved).ok sc_Library_moved (fun vs H Q E h => ?_) (fun cdv A outer s H vs Q E hr h => ?_)
  · obtain ⟨al, a, n, l, fp, b, M, Ps, Us, S, rfl, _⟩ := h
    rfl
  · obtain ⟨al, a, n, l, fp, b, M, Ps, Us, S, rfl, ⟨dx, d, k, p, u, ps, us, rfl, o⟩, nok, lok, hl, sm, hS, kk⟩ := h
    refine ⟨_, PSs.nox (pss_cons (ps_if (pt_not (pt_val (pe_call G_is_name (hr.mono (by first | decide | omega)) (by rfl) (T.g "is_name") (T.k "is_name") T.b_is_name .nil pass0 (pa_cons (pv 2) pa_nil)))) (pss_one ps_never) pss_nil)
        (pss_cons (ps_if (pt_cmp (pc_din (hu_of hr) (pv 2) (fldK (K := K) rfl (pv 0) rfl))) (pss_one ps_never) pss_nil)
        (pss_cons (ps_par (i := 3) (j := 4) (by rfl) sc_Library_moved.nd rfl rfl (by decide) rfl rfl (pa_cons pe_dnewK (pa_cons pe_dnewK pa_nil)) (by rfl))
        (pss_cons (ps_lock (ps_for PassesOwn.never rfl (pi_keys (fldK (K := K) rfl (pv 0) rfl)) (pg_name (i := 5) sc_Library_moved.nd rfl (Or.inl rfl)) (pss_cons (ps_setLc (i := 6) (own := [("token", 7)]) (g := (gName 7)) (tt := tYes) rfl sc_Library_moved.nd rfl rfl (by rfl) (pi_listK (K := K) rfl (pe_methF0 (K := K) (nms := WC) (spF := fun _ => sp_wtokens K) rfl (pe_dget (hu_of hr) (fldK (K := K) rfl (pv 0) rfl) (pv 5) (fun _ _ => rfl)) GFt (hr.mono (by first | decide | omega)) pass0)) (by first | exact blkOk_by (N := N_Library_moved) (sc := defScope s_Library_moved) (by decide +kernel) | exact blkOk_by (N := N_Library_moved) (sc := { kind := .function, names := [], isGenerator := false, isCoroutine := false }) (by decide +kernel)) (fun _ _ _ _ _ => (pg_name (i := 7) sc_Library_moved.nd rfl (Or.inl rfl))) (fun _ _ _ _ _ => pts_nil) (fun _ _ _ _ _ => (pe_ifExp (pt_cmpR op_eq (pv 7) (pv 1) (nomark _)) (pv 2) (pv 7))))
        (pss_one (ps_dput (hu_of hr) (pv 3) (pe_ifExp (pt_cmpR op_eq (pv 5) (pv 1) (nomark _)) (pv 2) (pv 5)) (pe_call G_read_wish (hr.mono (by first | decide | omega)) (by rfl) (T.g "read_wish") (T.k "read_wish") T.b_read_wish .nil pass0 (pa_cons (joinK (K := K) rfl pe_str (pv 6)) pa_nil)) rfl)))))
        (pss_cons (ps_lock (ps_for PassesOwn.never rfl (pi_keys (fldK (K := K) rfl (pv 0) rfl)) (pg_name (i := 5) sc_Library_moved.nd rfl (Or.inl rfl)) (pss_one (ps_dput (hu_of hr) (pv 4) (pe_ifExp (pt_cmpR op_eq (pv 5) (pv 1) (nomark _)) (pv 2) (pv 5)) (pe_dget (hu_of hr) (fldK (K := K) rfl (pv 0) rfl) (pv 5) (fun _ _ => rfl)) rfl))))
        (pss_one (ps_asg (pe_tup (pa_cons (pv 3) (pa_cons (pv 4) pa_nil))) (pg_tupK (K := K) (n := 2) rfl rfl (pgs_cons (pg_fldK (K := K) rfl (pv 0)) (pgs_cons (pg_fldK (K := K) rfl (pv 0)) pgs_nil)))))))))), ?_⟩
    walk_at "rs"
    walk_at "rd"
    refine ⟨by have := nameOk_len lok; omega, fun H1 s1 => ?_⟩
    rw [lok]
    walk_at "rd"
    have g1 : Gr H S H1 S := Gr.ofSame hS s1
    have o1 := o.gr g1
    obtain ⟨kvs, hd, hp⟩ := o1.di
    refine ⟨_, _, _, _, _, rfl, o1.ob, T.c "Library", T.n "Library" "own_wishes", rfl, ?_⟩
    refine ⟨d, _, rfl, DGet.k (k := .inr l) hd, ?_⟩
    rw [dp_some hp l, decide_eq_false hl]
    walk_at "rd"
    refine fun W hW => ?_
    generalize e2 : upd H1 W (HO.dK []) = H2
    refine fun D hD => ?_
    have hW2 := new_at e2
    have g2 := g1.l0 e2 hW
    have hWH : H W = none := g1.free hW
    have nSW : S W = none := Same.free hS hWH
    have hDH : H D = none := g2.free hD
    have nSD : S D = none := Same.free hS hDH
    have nWD : W ≠ D := ne_of_none hW2 hD
    generalize e3 : upd H2 D (HO.dK []) = H3
    have g3 := g2.l0 e3 hD
    have hW3 := old_at e3 hD hW2
    have hD3 := new_at e3
    clear e2 e3
    walk_at "rd"
    have o3 := o.gr g3
    obtain ⟨kvs, hd, hp⟩ := id o3.di
    have nSd : S d = none := o3.out d (by simp)
    have ne3 := fpNe o3.nd
    have nWf : W ∉ fpL a d k p u ps us := o.new hWH
    have nDf : D ∉ fpL a d k p u ps us := o.new hDH
    have nWd : W ≠ d := fun z => nWf (by rw [z]; simp)
    have nDd : D ≠ d := fun z => nDf (by rw [z]; simp)
    have nWa : W ≠ a := fun z => nWf (by rw [z]; simp)
    refine ⟨d, _, hd, trivial, fun od => ?_⟩
    have obL : (upd H3 d (HO.frz od (HO.dK kvs))) a = some (.ins (He.ga K "Library") dx (fsL al d k p u b)) := by
      rw [upd_ne ne3.ad]
      exact o3.ob
    have hWL : (upd H3 d (HO.frz od (HO.dK kvs))) W = some (HO.dK []) := by
      rw [upd_ne nWd]
      exact hW3
    have hSL := lock_sub (o := HO.frz od (HO.dK kvs)) g3.sub nSd
    have hdL : (upd H3 d (HO.frz od (HO.dK kvs))) d = some (HO.frz od (HO.dK kvs)) := upd_same
    generalize eL : upd H3 d (HO.frz od (HO.dK kvs)) = HL at obL hSL hdL hWL
    refine ⟨_, rfl, _, _, _, _, _, rfl, obL, T.c "Library", T.n "Library" "own_wishes", rfl, d, od, rfl, .inl ⟨kvs, hdL, ?_⟩⟩
    have naW : ¬ one W a := fun z => nWa (Eq.symm z)
    have ndW : ¬ one W d := fun z => nWd (Eq.symm z)
    have klen : kvs.length = M.length := hp.length
    refine for_it walk_keys (fun i σ H' => ∃ S' kv x5 x6 x7, σ = [some (.ref a), some (.str n), some (.str l), some (.ref W), some (.ref D), x5, x6, x7] ∧ Gm (one W) HL S H' S' ∧ H' W = some (.dK kv) ∧ DPairs K S' kv ((M.take i).map (renM n l)) ∧ S' W = none)
      ⟨S, [], none, none, none, rfl, Gm.rfl' hSL, hWL, .nil, nSW⟩ (fun i σ H' _ ⟨S', _, _, _, _, _, g, _⟩ => g.kept hdL ndW) ?_ ?_
    · rintro i x σ H4 H5 hi ⟨S4, kv, x5, x6, x7, rfl, g4, hW4, hp4, nW4⟩ ⟨rfl, ky, v, hk, rfl⟩
      obtain ⟨m, hm, rfl, hw⟩ := dp_key hp hk
      have hmm : m ∈ M := List.mem_of_getElem? hm
      obtain ⟨t1, t2, t3, t4, t5⟩ := sm.tr m hmm
      walk_at "rs"
      walk_at "rd"
      refine ⟨_, _, _, _, _, rfl, (g4.kept obL naW), T.c "Library", T.n "Library" "own_wishes", rfl, ?_⟩
      walk_at "rd"
      obtain ⟨v2, hv2, hw2⟩ := dp_get hp sm.nd m hmm
      refine ⟨d, v2, rfl, .inl ⟨kvs, .inr m.1, .inr ⟨od, g4.kept hdL ndW⟩, rfl, hv2.symm⟩, ?_⟩
      have ht := (hw2.tok).mono g4.mono
      obtain ⟨wa, cn, wdx, wfs, wl, rfl, hcn, hwa, hl1, hl2, hno⟩ := id ht
      refine ⟨wa, cn, wdx, wfs, rfl, g4.sub _ _ hwa, hcn, hno "tokens" (by decide +kernel), _, _, S4, rfl, ht, by omega, g4.sub, fun H6 S6 p2 g6 hp6 => ?_⟩
      refine ⟨p2, rfl, ⟨_, sql (g6.sub _ _ hp6)⟩, fun L hL => ?_⟩
      have nWL : W ≠ L := ne_of_none (g6.same _ _ hW4) hL
      refine lcg walk_list (fun i acc S => acc = (((toks m.2).take i).map fun z => if z = n then l else z).map V.str) noZ noM hL g6.sub rfl trivial (fun _ _ _ _ => trivial) (fun i H9 S9 _ _ g _ _ => sql (g.sub _ _ (g.mono _ _ hp6))) ?_ ?_
      · rintro j x H7 H8 S7 acc hj g7 r _ e eS ⟨rfl, hx⟩
        rw [List.length_map] at hj
        rw [List.getElem?_map] at hx
        obtain ⟨z, hz, rfl⟩ := Option.map_eq_some_iff.mp hx
        have al : acc.length ≤ 20 := by
          rw [r, List.length_map, List.length_map, List.length_take]
          omega
        walk_at "rs"
        walk_at "rd"
        by_cases c : z = n
        · rw [if_pos (decide_eq_true (by rw [c]))]
          walk_at "rd"
          refine LcP.add hL (fun z => z) (fun _ _ _ _ => trivial) g7 e eS (Gm.rfl' g7.sub) (szL (by omega)) ?_ trivial
          rw [r, take_snoc hz, List.map_append, List.map_append, List.map_singleton, if_pos c]
          rfl
        · rw [if_neg (by rw [decide_eq_false (fun q => c (V.str.inj q))]; decide)]
          walk_at "rd"
          refine LcP.add hL (fun z => z) (fun _ _ _ _ => trivial) g7 e eS (Gm.rfl' g7.sub) (szL (by omega)) ?_ trivial
          rw [r, take_snoc hz, List.map_append, List.map_append, List.map_singleton, if_neg c]
          rfl
      · rintro H7 S7' acc g7' r _ e eS
        rw [List.length_map, List.take_of_length_le (Nat.le_refl _), ← toks_ren nok m.2] at r
        have g67 := g4.tr (g6.trans (g7'.freeze e hL eS))
        obtain ⟨rs, ro⟩ := ren_ok (n := n) lok m.2 t3 t4
        have rl : (toks (ren n l m.2)).length ≤ 20 := by
          rw [toks_ren nok m.2, List.length_map]
          exact t5
        have hW7 : H7 W = some (.dK kv) := g7'.same _ _ (g6.same _ _ hW4)
        have nW7 : (upd S7' L (HO.lst acc)) W = none := by
          rw [upd_ne nWL]
          exact (g6.trans g7').none_ nW4 (live_of hW4)
        have mo : Same S4 (upd S7' L (HO.lst acc)) := (g6.trans (g7'.freeze e hL eS)).mono
        have hL7 : (upd S7' L (HO.lst acc)) L = some (.lst ((toks (ren n l m.2)).map V.str)) := by rw [upd_same, r]
        generalize upd S7' L (HO.lst acc) = S7 at g67 nW7 mo hL7
        walk_at "rd"
        refine ⟨⟨_, rfl⟩, _, rfl, " ", L, _, rfl, rfl, .inl (sql (g67.sub _ _ hL7)), txt_small rs (by omega), ?_⟩
        have zl := txt_len rs (by omega)
        refine ⟨ren n l m.2, S7, rfl, ro, rl, by omega, g67.sub, fun H8 S8 v8 g8 hv8 => ?_⟩
        have hW8 : H8 W = some (.dK kv) := g8.same _ _ hW7
        have nW8 := g8.none_ nW7 (live_of hW7)
        walk_at "rd"
        have kvl : kv.length ≤ 12 := by
          rw [hp4.length, List.length_map, List.length_take]
          have := sm.len
          omega
        have hp8 : DPairs K S8 kv ((M.take i).map (renM n l)) := hp4.mono (mo.trans g8.mono)
        have old : (if m.1 = n then l else m.1) ∉ mnames ((M.take i).map (renM n l)) := by
          intro z
          obtain ⟨m', hm', e'⟩ := List.mem_map.mp z
          obtain ⟨m2, hm2, rfl⟩ := List.mem_map.mp hm'
          have e' : (if m2.1 = n then l else m2.1) = if m.1 = n then l else m.1 := e'
          have in2 : m2 ∈ M := List.mem_of_mem_take hm2
          have ne2 : m2.1 ≠ m.1 := by
            have q := sm.nd
            have e9 : M = M.take i ++ m :: M.drop (i + 1) := by
              have hi' : i < M.length := by rw [← klen]; exact hi
              have : M[i] = m := by
                rw [List.getElem?_eq_getElem hi'] at hm
                exact Option.some.inj hm
              rw [← this, List.getElem_cons_drop, List.take_append_drop]
            rw [e9] at q
            unfold mnames at q
            rw [List.map_append, List.map_cons, List.nodup_append] at q
            exact q.2.2 _ (List.mem_map.mpr ⟨m2, hm2, rfl⟩) _ (List.mem_cons_self ..)
          have hl2 : ∀ x ∈ M, x.1 ≠ l := fun x hx z => hl (by rw [← z]; exact List.mem_map.mpr ⟨x, hx, rfl⟩)
          by_cases c1 : m2.1 = n
          · by_cases c2 : m.1 = n
            · exact ne2 (by rw [c1, c2])
            · rw [if_pos c1, if_neg c2] at e'
              exact hl2 m hmm e'.symm
          · by_cases c2 : m.1 = n
            · rw [if_neg c1, if_pos c2] at e'
              exact hl2 m2 in2 e'
            · rw [if_neg c1, if_neg c2] at e'
              exact ne2 e'
        have fin : ∀ y : Str, y = (if m.1 = n then l else m.1) → ∃ a_1 H4, V.ref W = V.ref a_1 ∧ DPut H8 a_1 (V.str y) v8 H4 ∧ (∃ S' kv y5 y6 y7, [some (V.ref a), some (V.str n), some (V.str l), some (V.ref W), some (V.ref D), some (V.str m.1), some (V.ref L), x7] = [some (V.ref a), some (V.str n), some (V.str l), some (V.ref W), some (V.ref D), y5, y6, y7] ∧
            Gm (one W) HL S H4 S' ∧ H4 W = some (.dK kv) ∧ DPairs K S' kv ((M.take (i + 1)).map (renM n l)) ∧ S' W = none) := by
          rintro y rfl
          refine ⟨W, _, rfl, DPut.k (k := .inr _) hW8 (szL (by omega)), S8, _, _, _, _, rfl, (g67.tr g8).store rfl nW8, upd_same, ?_, nW8⟩
          rw [take_snoc hm, List.map_append]
          exact dp_new hp8 old hv8
        dsimp only
        by_cases c : m.1 = n
        · rw [if_pos (decide_eq_true (show kV (Sum.inr m.1) = V.str n by rw [c]; rfl))]
          walk_at "rd"
          exact fin _ (if_pos c).symm
        · rw [if_neg (by rw [decide_eq_false (show ¬ kV (Sum.inr m.1) = V.str n from fun q => c (V.str.inj q))]; decide)]
          walk_at "rd"
          exact fin _ (if_neg c).symm
    · rintro σ H4 ⟨S4, kv, x5, x6, x7, rfl, g4, hW4, hp4, nW4⟩
      refine ⟨g4.kept hdL ndW, ?_⟩
      rw [klen, List.take_of_length_le (Nat.le_refl _)] at hp4
      rw [← eL] at g4
      have g5 : Gm noM H S (upd H4 d (HO.dK kvs)) S4 := g3.join (g4.unlock hd nSd) fun b hb h => by
        have hb : b = W := hb
        rw [hb] at h
        exact h hWH
      have hW5 : (upd H4 d (HO.dK kvs)) W = some (.dK kv) := by
        rw [upd_ne nWd]
        exact hW4
      have hD5 : (upd H4 d (HO.dK kvs)) D = some (.dK []) := by
        rw [upd_ne nDd]
        refine g4.kept ?_ fun z => nWD (Eq.symm z)
        rw [upd_ne nDd]
        exact hD3
      have nD4 : S4 D = none := g4.none_ nSD (live_of (o := HO.dK []) (by rw [upd_ne nDd]; exact hD3))
      generalize upd H4 d (HO.dK kvs) = H5 at g5 hW5 hD5
      have o5 := o.gr g5
      have ne5 := ne3
      have nSk : S4 k = none := o5.out k (by simp)
      walk_at "rs"
      refine ⟨k, _, o5.kp, trivial, fun od2 => ?_⟩
      have obK : (upd H5 k (HO.frz od2 (HO.dK []))) a = some (.ins (He.ga K "Library") dx (fsL al d k p u b)) := by
        rw [upd_ne ne5.ak]
        exact o5.ob
      have hkK : (upd H5 k (HO.frz od2 (HO.dK []))) k = some (HO.frz od2 (HO.dK [])) := upd_same
      refine ⟨_, rfl, _, _, _, _, _, rfl, obK, T.c "Library", T.n "Library" "own_kept", rfl, k, od2, rfl, .inl ⟨[], hkK, ?_⟩⟩
      have eK : upd (upd H5 k (HO.frz od2 (HO.dK []))) k (HO.dK []) = H5 := by
        rw [upd_upd]
        funext x
        by_cases e : x = k
        · rw [e, upd_same, o5.kp]
        · rw [upd_ne e]
      refine for_it walk_keys (fun i σ H' => σ = [some (.ref a), some (.str n), some (.str l), some (.ref W), some (.ref D), x5, x6, x7] ∧ H' = upd H5 k (HO.frz od2 (HO.dK []))) ⟨rfl, rfl⟩ (fun i σ H' _ q => by rw [q.2]; exact hkK) (fun i x σ H H' hi => absurd hi (Nat.not_lt_zero i)) ?_
      rintro σ H6 ⟨rfl, rfl⟩
      refine ⟨hkK, ?_⟩
      rw [eK]
      walk_at "rs"
      walk_at "rd"
      refine ⟨by walk_at "sz", fun q hq => ?_⟩
      generalize e6 : upd H5 q (HO.tup [V.ref W, V.ref D]) = H6
      have g6 := g5.l0 e6 hq
      have o6 := o.gr g6
      refine ⟨q, _, rfl, sqt (new_at e6), rfl, ?_⟩
      refine ⟨_, _, rfl, _, rfl, a, _, dx, _, rfl, o6.ob, T.c "Library", T.n "Library" "own_wishes", (by show 8 < 1000; decide), ?_⟩
      refine ⟨_, _, rfl, _, rfl, a, _, dx, _, rfl, upd_same, T.c "Library", T.n "Library" "own_kept", (by show 8 < 1000; decide), rfl, ?_⟩
      rw [upd_upd]
      have nDW : D ∉ fpL a W k p u ps us := fun z => by
        simp only [List.mem_cons, List.mem_append] at z nDf
        rcases z with z | z | z
        · exact nDf (.inl z)
        · exact nWD z.symm
        · exact nDf (.inr (.inr z))
      have nd2 : (fpL a W D p u ps us).Nodup := nd_k (nd_d o.nd nWf) nDW
      refine kk _ S4 (fpL a W D p u ps us) (g6.m.store (List.mem_cons_self ..) (o6.out a (by simp))) ⟨dx, W, D, p, u, ps, us, rfl, LibO.wa (by rw [putF_wish, putF_kept]) ⟨kv, old_at e6 hq hW5, hp4⟩ (old_at e6 hq hD5) o6.pa o6.un o6.ds o6.es nd2 fun x hx => ?_⟩ fun x hx => ?_
      · simp only [List.mem_cons, List.mem_append] at hx
        rcases hx with e | e | e | e | e | e | e
        · exact o6.out x (by simp [e])
        · rw [e]; exact nW4
        · rw [e]; exact nD4
        · exact o6.out x (by simp [e])
        · exact o6.out x (by simp [e])
        · exact o6.out x (by simp [e])
        · exact o6.out x (by simp [e])
      · simp only [List.mem_cons, List.mem_append] at hx ⊢
        rcases hx with e | e | e | e | e | e | e <;> simp [e, hDH, hWH]
end
end Lst

/-! ## LExc -/
namespace PySem
namespace LOE
open PySem.W PySem.Calls PyProof.Rows PySem.HandSPX Builtin Builtin.ObjectAttr
abbrev bmLE : List Value := [.type "LookupError", .type "Exception", .type "BaseException", .type "object"]
section
variable {prog : Program} {w : World} {A : Around} {E : Value → Shared → Prop} {R : Result → Shared → Prop} {hp : Heap} {g : Array GenState} {d : Drawn} {t : Nat} {os : OsState}
theorem taker0 {K : Frag} {C : Addr} {name : Str} (ha : findIn K (.ref C) name = some none) : takerIn K C name = some none := by
  unfold takerIn
  rw [ha]
  rfl
/-- the first field of an exception without a dict -/
theorem le_osa {K : W.Frag} {name : Str} {tk : Tok} {v : Value} {x C : Addr} {fv : Array Value} {cd : ClassData}
    (X : K.In hp) (hx : hp.get? x = some { cls := .ref C, data := .fields fv }) (hcd : W.clsIn K C = some cd) (ho : excOver K C bmLE = true) (hh : cd.hasDict = true) (ha : W.findIn K (.ref C) name = some none)
    (hq : ∀ h' tk' dx, (∀ b o, b ≠ x → hp.get? b = some o → h'.get? b = some o) → hp.objs.size ≤ dx → dx ≠ x → h'.get? x = some { cls := .ref C, dict := some dx, data := .fields fv } →
      h'.Ns1 dx (fun y => if y = name then some v else none) → R (.ok (.ret .none)) ⟨h', g, d, tk', os⟩) :
    codeAny (model prog w) A (.call (.builtin "object.__setattr__") ⟨[.ref x, .str name tk, v], []⟩) R ⟨hp, g, d, t, os⟩ := by
  have I : W.InstAt hp x { cls := .ref C, data := .fields fv } C none := ⟨hx, rfl, rfl, trivial⟩
  have hxs : x ≠ hp.objs.size := Nat.ne_of_lt (Heap.lt_size hx)
  have hcls : W.Looks (model prog w) hp (classData C) cd := W.looks_clsIn X hcd
  refine osa_openX PySem.F.store_LookupError X I ho (taker0 ha) fun b => ?_
  show wpAny _ _ (storeInOwnDict (.ref x) (.ref C) (.str name tk) name v b) _ _ _
  obtain ⟨nm, bs, mro, ns, qn, hd, sn, sb, ab, col, del⟩ := cd
  dsimp only at hh
  subst hh
  unfold storeInOwnDict ownDictForStores
  repeat (first | with_reducible refine store_in_new ?_ ?_ | with_reducible refine wpAny_loadPart_at hx ?_ | with_reducible refine hcls.at ?_ | wp_step)
  · exact ⟨_, #[], _, (Heap.get?_update_ne _ _ _ _ hxs.symm).trans (Heap.get?_push_at rfl rfl), rfl, fun e he => absurd he (by simp), fun _ => rfl⟩
  · intro h' tk' hn' hs
    have hx1 : (hp.push { cls := .type "dict", data := .dict #[] }).get? x = some { cls := .ref C, data := .fields fv } := Heap.get?_push_of_some _ hx
    refine hq h' tk' hp.objs.size (fun b o hb ho => ?_) (Nat.le_refl _) hxs.symm ?_ hn'
    · exact (hs.2 b (Nat.ne_of_lt (Heap.lt_size ho))).trans ((Heap.get?_update_ne _ _ _ _ hb).trans (Heap.get?_push_of_some _ ho))
    · exact (hs.2 x hxs).trans (Heap.get?_update_self _ hx1 rfl)
/-- a further field -/
theorem le_osa2 {K : W.Frag} {name : Str} {tk : Tok} {v : Value} {x C dx : Addr} {fv : Array Value} {cd : ClassData} {m0 : Str → Option Value} {nl : List Str}
    (X : K.In hp) (hx : hp.get? x = some { cls := .ref C, dict := some dx, data := .fields fv }) (hns : hp.Ns1 dx m0) (hw : Within m0 nl) (hz : nl.length ≤ 1000) (hcd : W.clsIn K C = some cd) (ho : excOver K C bmLE = true) (hh : cd.hasDict = true)
    (ha : W.findIn K (.ref C) name = some none)
    (hq : ∀ h' tk', (∀ b o, b ≠ dx → hp.get? b = some o → h'.get? b = some o) → h'.Ns1 dx (fun y => if y = name then some v else m0 y) → R (.ok (.ret .none)) ⟨h', g, d, tk', os⟩) :
    codeAny (model prog w) A (.call (.builtin "object.__setattr__") ⟨[.ref x, .str name tk, v], []⟩) R ⟨hp, g, d, t, os⟩ := by
  obtain ⟨oD, esD, epD, hoD, hdD, _⟩ := hns.count hw
  have I : W.InstAt hp x { cls := .ref C, dict := some dx, data := .fields fv } C (some oD) := ⟨hx, rfl, rfl, hoD⟩
  have hcls : W.Looks (model prog w) hp (classData C) cd := W.looks_clsIn X hcd
  refine osa_openX PySem.F.store_LookupError X I ho (taker0 ha) fun b => ?_
  show wpAny _ _ (storeInOwnDict (.ref x) (.ref C) (.str name tk) name v b) _ _ _
  obtain ⟨nm, bs, mro, ns, qn, hd, sn, sb, ab, col, del⟩ := cd
  dsimp only at hh
  subst hh
  unfold storeInOwnDict ownDictForStores
  repeat (first | with_reducible refine PySem.OEX.store_in_old hns hw hz ?_ | with_reducible refine wpAny_loadPart_at hx ?_ | with_reducible refine hcls.at ?_ | wp_step)
  intro h' tk' hn' hs
  exact hq h' tk' (fun b o hb ho => (hs.2 b hb).trans ho) hn'
theorem typ_LE : typeOf (.type "LookupError") = pure (.type "type") := by kernel_rfl
end
end LOE
end PySem

/-! ## LExc2 -/
namespace Lst
open PySem PySem.Spec PyProof.Rows L2
/-! ### own exceptions over LookupError -/
structure LexC (K : PySem.W.Frag) (C : Addr) : Prop where
  cls : ∃ nm q N bs bm sn sub ab col dd k0 k1 k2 k3 k5, K.lookup C = some (excClassObj nm q C N bs bm true sn sub ab col dd k0 k1 k2 k3 k5 "LookupError.__new__") ∧ PySem.W.excTail PySem.LOE.bmLE bm = true
  over : PySem.W.excOver K C PySem.LOE.bmLE = true
  sa : PySem.W.findIn K (.ref C) "__setattr__" = some (some (.builtin "object.__setattr__"))
  exC : PySem.W.subIn K (.ref C) (.type "BaseException") = some true
  tyC : PySem.W.typeIn K (.ref C) = some (.type "type")
  kC : PySem.W.keepIn K (.ref C) = true
section
variable {X : Cx} {pins : List (Addr × Obj)} {σ : L2.St} {H : Hp} {s : Shared} {a C dx : Addr} {f : Str} {y : V} {u : Value} {fs : List (Str × V)} {Q : Unit → Shared → Prop} {E : Value → Shared → Prop} {A : Around}
theorem LexC.cd {K : PySem.W.Frag} (T : LexC K C) : ∃ cd : ClassData, PySem.W.clsIn K C = some cd ∧ cd.hasDict = true := by
  obtain ⟨nm, q, N, bs, bm, sn, sub, ab, col, dd, k0, k1, k2, k3, k5, hC, _⟩ := T.cls
  refine ⟨{ name := nm, bases := bs, mro := .ref C :: bm, ns := N, qualname := q, hasDict := true, slotNames := sn, subclasses := sub, abstract := ab, collection := col, hasDel := false }, ?_, rfl⟩
  unfold PySem.W.clsIn
  rw [hC]
  try rfl
theorem lst_new (T : LexC X.K C) (I : Inv X pins σ H s) (e : H a = some (exo a C none)) (hno : PySem.W.findIn X.K (.ref C) f = some none) (ry : RelV y u)
    (h : ∀ dx s', H dx = none → dx ≠ a → Inv X pins σ (upd (upd H dx (exd dx [(f, y)])) a (exo a C (some dx))) s' → Q () s') : wpAny (model X.prog X.w) A (setAttr (.ref a) f u) Q E s := by
  obtain ⟨cd, hcl, hh⟩ := T.cd
  obtain ⟨t1, ho⟩ := exo_at I.hok e
  obtain ⟨hp, g, d, t, os⟩ := s
  refine PySem.W.set_plain I.kIn (ox := { cls := .ref C, dict := none, data := .fields #[.ref t1, .none, .none, .none, .bool false, .none] }) (od := none) ⟨ho, rfl, rfl, trivial⟩ T.sa ?_
  refine PySem.LOE.le_osa I.kIn ho hcl T.over hh hno (fun h' tk' dx k dn dne hx hn => ?_)
  have hnd : H dx = none := I.hok.fresh dn
  have nd : ∀ {b : Addr} {o : Obj}, hp.get? b = some o → b ≠ dx := fun {b o} q => Nat.ne_of_lt (Nat.lt_of_lt_of_le (Heap.lt_size q) dn)
  have na : ∀ {b : Addr}, H b = none → b ≠ a := fun {b} n z => by
    rw [z, e] at n
    cases n
  refine h dx _ hnd dne (I.un (t' := tk') ⟨fun b o q n _ _ => k b o (na n) q, fun b o q n _ _ => ⟨o.slots, k b o (na n) q⟩, fun b o q n _ => by rw [upd_ne (na n), upd_ne (nd q)]; exact n, fun b o q _ => ?_,
    fun b xs q => by rw [upd_ne (at_ne e q exo_tup), upd_ne (ne_of_none q hnd)]; exact q, fun b o v q => by rw [upd_ne (at_ne e q exo_frz), upd_ne (ne_of_none q hnd)]; exact q, fun b ps q => ⟨#[], by rw [upd_ne (at_ne e q exo_tbl), upd_ne (ne_of_none q hnd), q]; simp⟩⟩ fun b o q => ?_)
  · by_cases hb : b = a
    · exact ⟨_, by rw [hb]; exact hx⟩
    · exact ⟨o, k b o hb q⟩
  · by_cases hb : b = a
    · subst hb
      rw [upd_same] at q
      cases q
      exact exo_ok hx
    · rw [upd_ne hb] at q
      by_cases hd : b = dx
      · subst hd
        rw [upd_same] at q
        cases q
        exact exd_ok hn (relO_put (fs := []) ry fun g => True.intro)
      · rw [upd_ne hd] at q
        refine (I.hok b o q).stay (fun c v hc z => k c v ?_ z) (fun c hc => by rw [upd_ne (at_ne e hc exo_own), upd_ne (ne_of_none hc hnd)]; exact hc) (fun c xs hc => by rw [upd_ne (at_ne e hc exo_tup), upd_ne (ne_of_none hc hnd)]; exact hc)
        rcases hc with hc | hc
        · rw [hc]
          exact hb
        · exact at_ne e hc exo_own
theorem lst_old (T : LexC X.K C) (I : Inv X pins σ H s) (e : H a = some (exo a C (some dx))) (ed : H dx = some (exd dx fs)) (hl : fs.length ≤ 900) (hno : PySem.W.findIn X.K (.ref C) f = some none) (ry : RelV y u)
    (h : ∀ s', Inv X pins σ (upd H dx (exd dx ((f, y) :: fs))) s' → Q () s') : wpAny (model X.prog X.w) A (setAttr (.ref a) f u) Q E s := by
  obtain ⟨cd, hcl, hh⟩ := T.cd
  obtain ⟨t1, ho⟩ := exo_at I.hok e
  obtain ⟨mA, hns, rel⟩ := exd_at I.hok ed
  have hw := within_of rel
  obtain ⟨hp, g, d, t, os⟩ := s
  obtain ⟨oD, _, _, hoD, _, _⟩ := hns.count hw
  refine PySem.W.set_plain I.kIn (ox := { cls := .ref C, dict := some dx, data := .fields #[.ref t1, .none, .none, .none, .bool false, .none] }) (od := some oD) ⟨ho, rfl, rfl, hoD⟩ T.sa ?_
  refine PySem.LOE.le_osa2 I.kIn ho hns hw (by rw [List.length_map]; omega) hcl T.over hh hno (fun h' tk' k hn => ?_)
  obtain ⟨o, _, _, e', _⟩ := id hn
  exact h _ (I.write (t' := tk') (x := dx) (e := dx) (o := exd dx ((f, y) :: fs)) (by rw [ed]; exact True.intro) (.inl rfl) k ⟨o, e'⟩ (exd_ok hn (relO_put ry rel)))
theorem linit_ok {us : List Value} {Q : Value → Shared → Prop} (T : LexC X.K C) (I : Inv X pins σ H s) (e : H a = some (exo a C none)) (hl : us.length ≤ sizeLine) (h : ∀ s', Inv X pins σ H s' → Q .none s') :
    wpAny (model X.prog X.w) A (call (.builtin "LookupError.__init__") (.ref a :: us)) Q E s := by
  obtain ⟨nm, q, N, bs, bm, sn, sub, ab, col, dd, k0, k1, k2, k3, k5, hC, hbm⟩ := T.cls
  obtain ⟨t1, ho⟩ := exo_at I.hok e
  obtain ⟨hp, g, d, t, os⟩ := s
  refine wpAny_call (PySem.HandSPX.init_base F.excBase_LookupError (fun Y => PySem.W.excTail_contains Y bm hbm) (I.kIn _ _ hC) ho hl fun h' t2 k hx => ?_)
  have J := I.write (t' := t) (x := a) (e := a) (o := exo a C none) (by rw [e]; exact True.intro) (.inl rfl) k ⟨_, hx⟩ (exo_ok hx)
  rw [show upd H a (exo a C none) = H by
    funext b
    by_cases hb : b = a
    · rw [hb, upd_same, e]
    · rw [upd_ne hb]] at J
  exact h _ J
end
/-- LookupError.__init__(self, ..) -/
def tLeI (K : PySem.W.Frag) (ta : TA) : TE := fun σ H Q => ta σ H fun vs H1 => ∃ (a C : Addr) (ws : List V), vs = .ref a :: ws ∧ ws.length ≤ 1000 ∧ LexC K C ∧ H1 a = some (exo a C none) ∧ Q .non H1
/-- self.f = e -/
def tLst1 (K : PySem.W.Frag) (f : Str) (to te : TE) : TS := fun D σ H => te σ H fun y H1 => to σ H1 fun x H2 => ∃ a C : Addr, x = .ref a ∧ LexC K C ∧ PySem.W.findIn K (.ref C) f = some none ∧
  ((H2 a = some (exo a C none) ∧ ∀ dx, H2 dx = none → dx ≠ a → D.nx σ (upd (upd H2 dx (exd dx [(f, y)])) a (exo a C (some dx)))) ∨
    ∃ (dx : Addr) (fs : List (Str × V)), H2 a = some (exo a C (some dx)) ∧ H2 dx = some (exd dx fs) ∧ fs.length ≤ 900 ∧ D.nx σ (upd H2 dx (exd dx ((f, y) :: fs))))
section
variable {X : Cx} {o e : Expr} {es : List Expr} {to te : TE} {ta : TA} {f : Str} {p p' p1 p2 pos : Pos}
theorem pe_leinit {pl : Sem Bool} (hg : Gl X "LookupError") (hm : X.mg "LookupError" = none) (vV : PySem.W.findCls X.K (.type "LookupError") (.type "type") "__init__" = some (.val (.builtin "LookupError.__init__"))) (ha : PA X (e :: es) ta)
    (hc : eval (.Call (.Attribute (.Name "LookupError" p1) "__init__" p2) (e :: es) [] pos) X.env = (do
      let ov ← eval (.Name "LookupError" p1) X.env
      standAt p2.atName
      let (f, first) ← holding [ov] (getMethod ov "__init__" pl)
      callWith pos f first (backTo pos (starEach (e :: es) X.env)) (backToKw pos (keywordEach [] X.env))) := by rfl)
    (he : starEach (e :: es) X.env = (false, eval e X.env) :: starEach es X.env := by rfl) (hpl : (backTo pos (starEach es X.env)).any (·.1) = false := by rfl) :
    PE X (.Call (.Attribute (.Name "LookupError" p1) "__init__" p2) (e :: es) [] pos) (tLeI X.K ta) := by
  refine ⟨fun pins s σ H Q I h => ?_⟩
  refine PySem.W.methodCall_KW (ld_blt I hg hm PyProof.Rows.Boot.«LookupError» ?_ (by decide) (by decide)) hc
  obtain ⟨m, fr⟩ := I.fr
  refine PySem.W.method_type fr I.ok.mod.kin PySem.LOE.typ_LE (by decide +kernel) vV (by decide +kernel) ?_
  show wpAny _ _ (callWith pos (Value.builtin "LookupError.__init__") [] (backTo pos (starEach (e :: es) X.env)) []) _ _ _
  refine PyProof.Rows.callWith_method1 (thn (ha.run pos pins _ σ H _ (I.tok _) h) fun us s1 ⟨vs, H1, I1, r1, a, C, ws, ev, hl, T, ea, q⟩ => ?_) he hpl
  subst ev
  cases r1 with
  | @cons _ u0 _ ur ra rw' =>
    obtain rfl : u0 = Value.ref a := ra
    exact linit_ok T I1 ea (by rw [← Paired.length rw', sizeLine_eq]; omega) fun s' J => ⟨.non, H1, J, rfl, q⟩
theorem ps_lst (ho : PE X o to) (he : PE X e te) (hs : swapsWith e (some (.Attribute o f p')) pos.line X.env = pure false := by rfl) : PS X (.Assign [.Attribute o f p'] e pos) (tLst1 X.K f to te) := by
  refine ⟨fun pins s σ H D I h => ?_⟩
  refine plainObj_wpAny_Assign_Attribute (thn (he.run pins s σ H _ I h) fun v s1 ⟨y, H1, I1, r1, q1⟩ => thn (ho.run pins s1 σ H1 _ I1 q1) fun u s2 ⟨x, H2, I2, r2, a, C, ex, T, hno, q⟩ => ?_) hs
  subst ex
  obtain rfl : u = Value.ref a := r2
  rcases q with ⟨ea, q⟩ | ⟨dx, fs, ea, ed, hl, q⟩
  · exact lst_new T I2 ea hno r1 fun dx s' n ne J => ⟨σ, _, J, q dx n ne⟩
  · exact lst_old T I2 ea ed hl hno r1 fun s' J => ⟨σ, _, J, q⟩
theorem run_lex {CX : CXT} {C fI : Addr} {k : Nat} {sp : Sp} {pins : List (Addr × Obj)} {σ : L2.St} {H1 : Hp} {Q : XK} {s1 : Shared} {us : List Value} {vs : List V} (T : LexC X.K C) (iC : PySem.W.findIn X.K (.ref C) "__init__" = some (some (.ref fI))) (tI : PySem.W.typeIn X.K (.ref fI) = some (.type "function"))
    (F1 : FnR X.prog X.w X.K X.mg X.base CX k fI sp) (hr : Room (k + 1) X.A) (hx : Passes CX X (fun _ _ _ => False)) (I1 : Inv X pins σ H1 s1) (r1 : Vals vs us) (hz : vs.length ≤ 1000)
    (q1 : ∀ a, H1 a = none → sp (.ref a :: vs) (upd H1 a (exo a C none)) (fun v H2 => v = .non ∧ ∃ (d : Addr) (fs : List (Str × V)), H2 a = some (exo a C (some d)) ∧ H2 d = some (exd d fs) ∧ H1 d = none ∧ Q (.ref C) (some d) (upd (del H2 a) d (.xd fs))) (fun _ _ _ => False)) :
    wpAny (model X.prog X.w) X.A (call (.ref C) us) (fun u s' => MkP X pins σ Q u s') X.xe s1 := by
  obtain ⟨nm, q, N, bs, bm, sn, sub, ab, col, dd, k0, k1, k2, k3, k5, hC, hbm⟩ := T.cls
  obtain ⟨hp, g, dr, tk, os⟩ := s1
  have hsz : hp.objs.size ≤ hp.objs.size + 1 := Nat.le_succ _
  have hn : H1 (hp.objs.size + 1) = none := I1.hok.fresh hsz
  have hq := q1 (hp.objs.size + 1) hn
  have kk : ∀ b o, hp.get? b = some o → ((hp.push (PySem.W.kdv_tup us)).push (PySem.HandSPX.excO C hp.objs.size)).get? b = some o := fun b o e => Heap.get?_push_of_some _ (Heap.get?_push_of_some _ e)
  have hget : ((hp.push (PySem.W.kdv_tup us)).push (PySem.HandSPX.excO C hp.objs.size)).get? (hp.objs.size + 1) = some (PySem.HandSPX.excO C hp.objs.size) := by heap_get
  have I2 : Inv X pins σ (upd H1 (hp.objs.size + 1) (exo (hp.objs.size + 1) C none)) ⟨(hp.push (PySem.W.kdv_tup us)).push (PySem.HandSPX.excO C hp.objs.size), g, dr, tk, os⟩ :=
    I1.laid (t' := tk) (a := hp.objs.size + 1) (o := exo (hp.objs.size + 1) C none) (h' := (hp.push (PySem.W.kdv_tup us)).push (PySem.HandSPX.excO C hp.objs.size)) kk hsz (exo_ok hget)
  have r2 : Vals (V.ref (hp.objs.size + 1) :: vs) (Value.ref (hp.objs.size + 1) :: us) := .cons rfl r1
  have hus : us.length ≤ sizeLine := by
    rw [← Paired.length r1, sizeLine_eq]
    omega
  refine wpAny_call (PySem.HandSPX.call_own F.excBase_LookupError (fun Y => PySem.W.excTail_contains Y bm hbm) (I1.kIn _ _ hC) (PySem.W.looks_findIn I1.kIn iC) (fun self => PySem.W.bind_fn I1.kIn self tI) hus
    (codeAny_mono (F1 _ X.stack _ _ (Value.ref (hp.objs.size + 1) :: us) _ _ (fun _ _ _ => False) (hr.make C us []) (I2.env0.make C us []) r2 hq) fun r s' hq' => ?_))
  cases r with
  | error er => exact hx pins σ _ _ er s' I2 hq'
  | ok fl =>
    cases fl with
    | ret u =>
      obtain ⟨v, H2, os2, bare2, un2, hok2, rv, ev, d, fs, ea, ed, hd1, q2⟩ := hq'
      subst ev
      obtain ⟨h2, g2, d2, t2, os'⟩ := s'
      exact ⟨rv, mk_end (raises_own T.exC T.tyC) I1 hsz kk un2 hok2 os2 bare2 ea ed hd1 q2⟩
    | next => exact False.elim hq'
    | brk => exact False.elim hq'
    | cont => exact False.elim hq'
theorem pmk_lex {CX : CXT} {x : Str} {C fI : Addr} {k : Nat} {sp : Sp} (T : LexC X.K C) (iC : PySem.W.findIn X.K (.ref C) "__init__" = some (some (.ref fI))) (tI : PySem.W.typeIn X.K (.ref fI) = some (.type "function"))
    (F1 : FnR X.prog X.w X.K X.mg X.base CX k fI sp) (hr : Room (k + 1) X.A) (hx : Passes CX X (fun _ _ _ => False)) (hg : Gl X x) (hm : X.mg x = some (.ref C)) (ha : PA X (e :: es) ta)
    (hdb : (x == ("__debug__" : Str)) = false := by decide) (he : starEach (e :: es) X.env = (false, eval e X.env) :: starEach es X.env := by rfl) (hpl : (backTo pos (starEach es X.env)).any (·.1) = false := by rfl) :
    PMk X (.Call (.Name x p) (e :: es) [] pos) (tMkO C sp [] ta) := by
  intro pins s σ H Q I h
  refine wpAny_Call_Name_kw (ld_glob I hg hm ?_ hdb)
  refine PySem.W.callWith_K (h₀ := X.base) I.ok.mod.kin T.kC (thn (ha.run pos pins s σ H _ I h) fun us s1 ⟨vs, H1, I1, r1, hz, q1⟩ => ⟨I1.kIn, ?_⟩) he hpl
  show wpAny _ _ (call (.ref C) us) _ _ _
  refine run_lex T iC tI F1 hr hx I1 r1 hz fun a ha => ?_
  have q2 := q1 a ha
  rw [List.append_nil] at q2
  exact q2
theorem pmk_lex0 {CX : CXT} {x : Str} {C fI : Addr} {k : Nat} {sp : Sp} (T : LexC X.K C) (iC : PySem.W.findIn X.K (.ref C) "__init__" = some (some (.ref fI))) (tI : PySem.W.typeIn X.K (.ref fI) = some (.type "function"))
    (F1 : FnR X.prog X.w X.K X.mg X.base CX k fI sp) (hr : Room (k + 1) X.A) (hx : Passes CX X (fun _ _ _ => False)) (hg : Gl X x) (hm : X.mg x = some (.ref C)) (hdb : (x == ("__debug__" : Str)) = false := by decide) :
    PMk X (.Call (.Name x p) [] [] pos) (tMkO C sp [] tNil) := by
  intro pins s σ H Q I h
  refine wpAny_Call_Name_kw (ld_glob I hg hm ?_ hdb)
  obtain ⟨hz, q1⟩ := h
  refine PySem.W.callWith_K0 (first := []) I.kIn T.kC ?_
  show wpAny _ _ (call (.ref C) []) _ _ _
  exact run_lex T iC tI F1 hr hx I .nil hz fun a ha => q1 a ha
end
/-! ### C.m(e, ..), m a def of the class at C, called as it stands -/
def tClsF (C : Addr) (sp : Sp) (E : XK) (ta : TE) (t : TA) : TE := fun σ H Q => ta σ H fun x H1 => x = .ref C ∧ t σ H1 fun vs H2 => sp vs H2 Q E
theorem pe_clsfn {X : Cx} {CX : CXT} {k : Nat} {C g : Addr} {mc : Value} {sp : Sp} {E : XK} {o e : Expr} {es : List Expr} {m : Str} {pos apos : Pos} {ta : TE} {t : TA} {pl : Sem Bool} (he : PE X o ta) (r : ClX.CRead X.K C mc) (c : ClX.CVal X.K C mc m (.ref g) (.ref g)) (kp : PySem.W.keepIn X.K (.ref g) = true)
    (F : FnR X.prog X.w X.K X.mg X.base CX k g sp) (hr : Room k X.A) (hx : Passes CX X E) (ha : PA X (e :: es) t)
    (hst : starEach (e :: es) X.env = (false, eval e X.env) :: starEach es X.env := by rfl) (hpl : (backTo pos (starEach es X.env)).any (·.1) = false := by rfl)
    (ht : eval (.Call (.Attribute o m apos) (e :: es) [] pos) X.env = (do
      let ov ← eval o X.env
      standAt apos.atName
      let (f, first) ← holding [ov] (getMethod ov m pl)
      callWith pos f first (backTo pos (starEach (e :: es) X.env)) (backToKw pos (keywordEach [] X.env))) := by rfl) :
    PE X (.Call (.Attribute o m apos) (e :: es) [] pos) (tClsF C sp E ta t) := by
  refine ⟨fun pins s σ H Q I h => ?_⟩
  refine PySem.W.methodCall_KW (pl := pl) (thn (he.run pins s σ H _ I h) fun u s1 ⟨x, H1, I1, rx, ex, q⟩ => ?_) ht
  subst ex
  obtain rfl : u = Value.ref C := rx
  refine PySem.W.method_cls I1.kIn r.ga (ClX.getcval_ok I1 r c fun s2 I2 => ?_)
  refine PySem.W.callWith_K (first := []) (h₀ := X.base) I2.ok.mod.kin kp (thn (ha.run pos pins s2 σ H1 _ I2 q) fun us s3 ⟨vs, H2, I3, rv, q2⟩ => ⟨I3.kIn, ?_⟩) hst hpl
  exact wpAny_call (run_fnR (us := us) (vs := vs) F hr hx I3 rv q2)
end Lst

/-! ## LExc3 -/
namespace Lst
open PySem PySem.Spec PyProof.Rows L2
/-- what the written part says of the exceptions -/
structure Txt3 (K : PySem.W.Frag) : Prop where
  lexU : LexC K (He.ga K "UnknownName")
  lexN : LexC K (He.ga K "NothingLeft")
  iU : PySem.W.findIn K (.ref (He.ga K "UnknownName")) "__init__" = some (some (.ref (He.ma K (He.ga K "UnknownName") "__init__")))
  tU : PySem.W.typeIn K (.ref (He.ma K (He.ga K "UnknownName") "__init__")) = some (.type "function")
  iN : PySem.W.findIn K (.ref (He.ga K "NothingLeft")) "__init__" = some (some (.ref (He.ma K (He.ga K "NothingLeft") "__init__")))
  tN : PySem.W.typeIn K (.ref (He.ma K (He.ga K "NothingLeft") "__init__")) = some (.type "function")
  noC : ∀ x ∈ (["UnknownName", "NothingLeft"] : List Str), PySem.W.findIn K (.ref (He.ga K x)) "code" = some none
  noN : PySem.W.findIn K (.ref (He.ga K "UnknownName")) "name" = some none
  vLE : PySem.W.findCls K (.type "LookupError") (.type "type") "__init__" = some (.val (.builtin "LookupError.__init__"))
  misR : ClX.CRead K (He.ga K "Missing") (.type "type")
  misV : ClX.CVal K (He.ga K "Missing") (.type "type") "__init__" (.ref (He.ma K (He.ga K "Missing") "__init__")) (.ref (He.ma K (He.ga K "Missing") "__init__"))
  misK : PySem.W.keepIn K (.ref (He.ma K (He.ga K "Missing") "__init__")) = true
def sp_Missing (K : PySem.W.Frag) : Sp := fun vs H Q _ => ∃ (a C : Addr) (c : Str), vs = [.ref a, .str c] ∧ LexC K C ∧ PySem.W.findIn K (.ref C) "code" = some none ∧ H a = some (exo a C none) ∧
  ∀ dx, H dx = none → dx ≠ a → Q .non (upd (upd H dx (exd dx [("code", .str c)])) a (exo a C (some dx)))
def sp_Unknown (K : PySem.W.Frag) : Sp := fun vs H Q _ => ∃ (a : Addr) (n : Str), vs = [.ref a, .str n] ∧ H a = some (exo a (He.ga K "UnknownName") none) ∧
  ∀ dx, H dx = none → dx ≠ a → Q .non (upd (upd (upd H dx (exd dx [("code", .str "UnknownName")])) a (exo a (He.ga K "UnknownName") (some dx))) dx (exd dx [("name", .str n), ("code", .str "UnknownName")]))
def sp_Nothing (K : PySem.W.Frag) : Sp := fun vs H Q _ => ∃ (a : Addr), vs = [.ref a] ∧ H a = some (exo a (He.ga K "NothingLeft") none) ∧
  ∀ dx, H dx = none → dx ≠ a → Q .non (upd (upd H dx (exd dx [("code", .str "NothingLeft")])) a (exo a (He.ga K "NothingLeft") (some dx)))
section
variable {P : Program} {w : World} {K : PySem.W.Frag} {mg : Str → Option Value} {base : Heap}
theorem ok_Missing (T : Txt K mg) (T3 : Txt3 K) : OkM P w K mg base CX0 1 "Missing" "__init__" P_Missing_init (sp_Missing K) := by
  refine (T.f_Missing_init).ok sc_Missing_init (fun vs H Q E h => ?_) (fun cdv A outer s H vs Q E hr h => ?_)
  · obtain ⟨a, C, c, rfl, _⟩ := h
    rfl
  · obtain ⟨a, C, c, rfl, lx, no, ha, k⟩ := h
    refine ⟨_, PSs.nox (pss_cons (ps_expr (pe_leinit (by rfl) T.f T3.vLE (pa_cons (pv 0) (pa_cons (pv 1) pa_nil))))
        (pss_one (ps_lst (pv 0) (pv 1)))), ?_⟩
    exact ⟨_, rfl, _, rfl, a, C, _, rfl, (by show 1 ≤ 1000; decide), lx, ha, _, rfl, _, rfl, a, C, rfl, lx, no, .inl ⟨ha, fun dx h1 h2 => k dx h1 h2⟩⟩
theorem ok_Unknown (T : Txt K mg) (T3 : Txt3 K) (GM : FnR P w K mg base CX0 1 (He.ma K (He.ga K "Missing") "__init__") (sp_Missing K)) : OkM P w K mg base CX0 2 "UnknownName" "__init__" P_UnknownName_init (sp_Unknown K) := by
  refine (T.f_UnknownName_init).ok sc_UnknownName_init (fun vs H Q E h => ?_) (fun cdv A outer s H vs Q E hr h => ?_)
  · obtain ⟨a, n, rfl, _⟩ := h
    rfl
  · obtain ⟨a, n, rfl, ha, k⟩ := h
    refine ⟨_, PSs.nox (pss_cons (ps_expr (pe_clsfn (pe_glob (v := .ref (He.ga K "Missing")) (by rfl) (T.g "Missing") rfl) T3.misR T3.misV T3.misK GM (hr.mono (by first | decide | omega)) pass0 (pa_cons (pv 0) (pa_cons pe_str pa_nil))))
        (pss_one (ps_lst (pv 0) (pv 1)))), ?_⟩
    refine ⟨rfl, _, rfl, a, _, _, rfl, T3.lexU, T3.noC _ (by decide +kernel), ha, fun dx h1 h2 => ?_⟩
    refine ⟨_, rfl, _, rfl, a, _, rfl, T3.lexU, T3.noN, .inr ⟨dx, _, upd_same, by rw [upd_ne h2, upd_same], (by show 1 ≤ 900; decide), k dx h1 h2⟩⟩
theorem ok_Nothing (T : Txt K mg) (T3 : Txt3 K) (GM : FnR P w K mg base CX0 1 (He.ma K (He.ga K "Missing") "__init__") (sp_Missing K)) : OkM P w K mg base CX0 2 "NothingLeft" "__init__" P_NothingLeft_init (sp_Nothing K) := by
  refine (T.f_NothingLeft_init).ok sc_NothingLeft_init (fun vs H Q E h => ?_) (fun cdv A outer s H vs Q E hr h => ?_)
  · obtain ⟨a, rfl, _⟩ := h
    rfl
  · obtain ⟨a, rfl, ha, k⟩ := h
    refine ⟨_, PSs.nox (pss_one (ps_expr (pe_clsfn (pe_glob (v := .ref (He.ga K "Missing")) (by rfl) (T.g "Missing") rfl) T3.misR T3.misV T3.misK GM (hr.mono (by first | decide | omega)) pass0 (pa_cons (pv 0) (pa_cons pe_str pa_nil))))), ?_⟩
    exact ⟨rfl, _, rfl, a, _, _, rfl, T3.lexN, T3.noC _ (by decide +kernel), ha, fun dx h1 h2 => k dx h1 h2⟩
end
end Lst

/-! ## LLib8 -/
namespace Lst
open PySem PySem.Spec PyProof.Rows L2
/-- an exception goes out: its class, what it holds; nothing else was done -/
def Thr (K : PySem.W.Frag) (x : Str) (fs : List (Str × V)) (H : Hp) (E : XK) : Prop := ∀ (H' : Hp) (d : Addr), Same H H' → H' d = some (.xd fs) → E (.ref (He.ga K x)) (some d) H'
abbrev fU (n : Str) : List (Str × V) := [("name", .str n), ("code", .str "UnknownName")]
abbrev fN : List (Str × V) := [("code", .str "NothingLeft")]
theorem thr_U {K : PySem.W.Frag} {n : Str} {H H1 : Hp} {E : XK} (t : Thr K "UnknownName" (fU n) H E) (s : Same H H1) {a dx : Addr} {C : Addr} {o1 o2 o3 o4 : HO} (ha : H1 a = none) (hd : H1 dx = none) (ne : dx ≠ a) :
    E (.ref (He.ga K "UnknownName")) (some dx) (upd (del (upd (upd (upd (upd H1 a o1) dx o2) a o3) dx o4) a) dx (.xd (fU n))) := by
  refine t _ dx (fun b o h => ?_) upd_same
  have h1 := s b o h
  have n1 : b ≠ dx := ne_of_none h1 hd
  have n2 : b ≠ a := ne_of_none h1 ha
  rw [upd_ne n1, del_ne n2, upd_ne n1, upd_ne n2, upd_ne n1, upd_ne n2]
  exact h1
theorem thr_N {K : PySem.W.Frag} {H H1 : Hp} {E : XK} (t : Thr K "NothingLeft" fN H E) (s : Same H H1) {a dx : Addr} {o1 o2 o3 : HO} (ha : H1 a = none) (hd : H1 dx = none) (ne : dx ≠ a) :
    E (.ref (He.ga K "NothingLeft")) (some dx) (upd (del (upd (upd (upd H1 a o1) dx o2) a o3) a) dx (.xd fN)) := by
  refine t _ dx (fun b o h => ?_) upd_same
  have h1 := s b o h
  have n1 : b ≠ dx := ne_of_none h1 hd
  have n2 : b ≠ a := ne_of_none h1 ha
  rw [upd_ne n1, del_ne n2, upd_ne n2, upd_ne n1, upd_ne n2]
  exact h1
def sp_LknownX (K : PySem.W.Frag) : Sp := fun vs H Q E => ∃ (al : Str) (a : Addr) (n : Str) (fp : List Addr) (b : Bool) (M : Mo) (Ps Us : List Mo) (S : Hp), vs = [.ref a, .str n] ∧ LibI K al S H a fp b M Ps Us ∧ nameOk n = true ∧ n.length ≤ 1000000 ∧ Same S H ∧
  (n ∈ mnames M → ∀ (H' : Hp), Same H H' → Q .non H') ∧ (n ∉ mnames M → Thr K "UnknownName" (fU n) H E)
section
variable {P : Program} {w : World} {K : PySem.W.Frag} {mg : Str → Option Value} {base : Heap}
theorem ok_LknownX (T : Txt K mg) (T3 : Txt3 K) (G_is_name : OkG P w K mg base CX0 2 "is_name" P_is_name sp_is_name) (GU : FnR P w K mg base CX0 2 (He.ma K (He.ga K "UnknownName") "__init__") (sp_Unknown K)) :
    OkM P w K mg base (L2.CX P w) 4 "Library" "check_known" P_Library_check_known (sp_LknownX K) := by
  refine (T.f_Library_check_known).ok sc_Library_check_known (fun vs H Q E h => ?_) (fun cdv A outer s H vs Q E hr h => ?_)
  · obtain ⟨al, a, n, fp, b, M, Ps, Us, S, rfl, _⟩ := h
    rfl
  · obtain ⟨al, a, n, fp, b, M, Ps, Us, S, rfl, ⟨dx, d, k, p, u, ps, us, rfl, o⟩, nok, nl, hS, k1, k2⟩ := h
    refine ⟨_, (pss_one (ps_if (PW.pt (pw_or (pt_not (pt_val (pe_call G_is_name (hr.mono (by first | decide | omega)) (by rfl) (T.g "is_name") (T.k "is_name") T.b_is_name .nil pass0 (pa_cons (pv 1) pa_nil)))) (pw_or1 (pt_cmp (pc_dnotin (hu_of hr) (pv 1) (fldK (K := K) rfl (pv 0) rfl)))))) (pss_one (ps_raise rfl (takes_of rfl rfl rfl rfl) (pmk_lex T3.lexU T3.iU T3.tU GU (hr.mono (by first | decide | omega)) pass0 (by rfl) (T.g "UnknownName") (pa_cons (pv 1) pa_nil)))) pss_nil)), ?_⟩
    walk_at "rs"
    walk_at "rd"
    refine ⟨nl, fun H1 s1 => ?_⟩
    rw [nok]
    walk_at "rd"
    have o1 := o.gr (Gr.ofSame hS s1)
    obtain ⟨kvs, hd, hp⟩ := o1.di
    refine ⟨_, _, _, _, _, rfl, o1.ob, T.c "Library", T.n "Library" "own_wishes", rfl, ?_⟩
    refine ⟨d, _, rfl, DGet.k (k := .inr n) hd, ?_⟩
    rw [dp_some hp n]
    by_cases c : n ∈ mnames M
    · rw [decide_eq_true c]
      walk_at "rd"
      exact k1 c _ s1
    · rw [decide_eq_false c]
      walk_at "rd"
      refine ⟨by show 1 ≤ 1000; decide, fun x hx => ⟨x, n, rfl, upd_same, fun dy h1 h2 => ⟨rfl, dy, fU n, ?_, upd_same, ?_, thr_U (C := 0) (k2 c) s1 hx ?_ h2⟩⟩⟩
      · rw [upd_ne h2.symm, upd_same]
      · rw [upd_ne h2] at h1
        exact h1
      · rw [upd_ne h2] at h1
        exact h1
end
end Lst

/-! ## LLib9 -/
namespace Lst
open PySem PySem.Spec PyProof.Rows L2
theorem pair_snoc {α β : Type} {R : α → β → Prop} : ∀ {xs : List α} {ys : List β} {y : β}, Paired R xs (ys ++ [y]) → ∃ xs0 x, xs = xs0 ++ [x] ∧ Paired R xs0 ys ∧ R x y
  | _, [], y, .cons h .nil => ⟨[], _, rfl, .nil, h⟩
  | _, z :: r, y, .cons h t => by
    obtain ⟨xs0, x, e, h1, h2⟩ := pair_snoc t
    exact ⟨_ :: xs0, x, by rw [e]; rfl, .cons h h1, h2⟩
def sp_Lundo (K : PySem.W.Frag) : Sp := fun vs H Q E => ∃ (al : Str) (a : Addr) (fp : List Addr) (b : Bool) (M : Mo) (Ps Us : List Mo) (S : Hp), vs = [.ref a] ∧ LibI K al S H a fp b M Ps Us ∧ Ps.length ≤ 1000 ∧ Us.length ≤ 1000 ∧ Same S H ∧
  (∀ Ts0 Mq, Ps = Ts0 ++ [Mq] → LStep K al a S H fp b Mq Ts0 (Us ++ [M]) fun H' => Q .non H') ∧ (Ps = [] → Thr K "NothingLeft" fN H E)
section
variable {P : Program} {w : World} {K : PySem.W.Frag} {mg : Str → Option Value} {base : Heap}
theorem ok_Lundo (T : Txt K mg) (T3 : Txt3 K) (GN : FnR P w K mg base CX0 2 (He.ma K (He.ga K "NothingLeft") "__init__") (sp_Nothing K)) : OkM P w K mg base (L2.CX P w) 4 "Library" "undo" P_Library_undo (sp_Lundo K) := by
  refine (T.f_Library_undo).ok sc_Library_undo (fun vs H Q E h => ?_) (fun cdv A outer s H vs Q E hr h => ?_)
  · obtain ⟨al, a, fp, b, M, Ps, Us, S, rfl, _⟩ := h
    rfl
  · obtain ⟨al, a, fp, b, M, Ps, Us, S, rfl, ⟨dx, d, k, p, u, ps, us, rfl, o⟩, pl, ul, hS, k1, k2⟩ := h
    refine ⟨_, (pss_cons (ps_if (pt_cmpR (eqNilK (K := K) rfl hr.units) (fldK (K := K) rfl (pv 0) rfl) (pe_lst pa_nil) (nomark _)) (pss_one (ps_raise rfl (takes_of rfl rfl rfl rfl) (pmk_lex0 T3.lexN T3.iN T3.tN GN (hr.mono (by first | decide | omega)) pass0 (by rfl) (T.g "NothingLeft")))) pss_nil)
        (pss_cons (ps_expr (pe_bm PySem.F.plainAttrs_list PySem.F.slot_list_append PySem.F.type_list_append mt_append (fldK (K := K) rfl (pv 0) rfl) (pa_cons (fldK (K := K) rfl (pv 0) rfl) pa_nil)))
        (pss_cons (ps_fldK (K := K) rfl (pv 0) (pe_bm0 PySem.F.plainAttrs_list PySem.F.slot_list_pop PySem.F.type_list_pop mt_pop (fldK (K := K) rfl (pv 0) rfl)) rfl)
        (pss_one (ps_fldK (K := K) rfl (pv 0) pe_dnewK rfl))))), ?_⟩
    walk_at "rs"
    walk_at "rd"
    refine ⟨_, _, _, _, _, rfl, o.ob, T.c "Library", T.n "Library" "own_past", rfl, ?_⟩
    walk_at "rd"
    refine ⟨by walk_at "sz", fun e0 he0 => ?_⟩
    generalize e1 : upd H e0 (HO.lst []) = H1
    have g1 : Gr H S H1 S := (Gm.rfl' hS).l0 e1 he0
    have o1 := o.gr g1
    refine rd_nil o1.pa (new_at e1) ?_
    rcases List.eq_nil_or_concat Ps with c | ⟨Ts0, Mq, c⟩
    · have c2 : ps = [] := by
        have := o1.ds.length
        rw [c] at this
        exact List.eq_nil_of_length_eq_zero this
      rw [c2]
      walk_at "rd"
      refine ⟨by show 0 ≤ 1000; decide, fun x hx => ⟨x, rfl, upd_same, fun dy h1 h2 => ⟨rfl, dy, fN, upd_same, ?_, ?_, thr_N (k2 c) g1.same hx ?_ h2⟩⟩⟩
      · rw [upd_ne h2, upd_same]
      · rw [upd_ne h2] at h1
        exact h1
      · rw [upd_ne h2] at h1
        exact h1
    · rw [List.concat_eq_append] at c
      have kk := k1 Ts0 Mq c
      subst c
      obtain ⟨ps0, q, rfl, hp0, hq0⟩ := pair_snoc o1.ds
      have ne := fpNe o.nd
      have ne0 := fpNe (nd_q o.nd)
      refine ⟨_, rfl, ?_⟩
      rw [if_neg (by simp)]
      walk_at "rd"
      refine ⟨_, _, _, _, _, rfl, o1.ob, T.c "Library", T.n "Library" "own_undone", rfl, ?_⟩
      refine ⟨.inl ⟨rfl, _, sql o1.un⟩, ?_⟩
      walk_at "rd"
      refine ⟨_, _, _, _, _, rfl, o1.ob, T.c "Library", T.n "Library" "own_wishes", rfl, ?_⟩
      have putl : us.length ≤ 1000 := by
        rw [o1.es.length]
        assumption
      refine ⟨u, _, _, rfl, rfl, o1.un, szL (by rw [List.length_map]; omega), ?_⟩
      generalize e2 : upd H1 u (HO.lst (us.map V.ref ++ [V.ref d])) = H2
      have obs2 : ∀ x : Addr, x ≠ u → H2 x = H1 x := fun x hx => by rw [← e2, upd_ne hx]
      have hp2 : H2 u = some (.lst ((us ++ [d]).map V.ref)) := by rw [← e2, upd_same, List.map_append]; rfl
      have g2 : Gm (fun x => x ∈ fpL a d k p u (ps0 ++ [q]) us) H S H2 S := by
        rw [← e2]
        exact g1.m.store (by simp) (o1.out u (by simp))
      have oba2 := (obs2 a ne.au).trans o1.ob
      walk_at "rd"
      refine ⟨_, _, _, _, _, rfl, oba2, T.c "Library", T.n "Library" "own_past", rfl, ?_⟩
      refine ⟨.inl ⟨rfl, _, sql ((obs2 p ne.pu).trans o1.pa)⟩, ?_⟩
      walk_at "rd"
      refine ⟨p, _, V.ref q, rfl, rfl, (obs2 p ne.pu).trans o1.pa, by simp, ?_⟩
      rw [show ((ps0 ++ [q]).map V.ref).dropLast = ps0.map V.ref by simp]
      generalize e3 : upd H2 p (HO.lst (ps0.map V.ref)) = H3
      have obs3 : ∀ x : Addr, x ≠ u → x ≠ p → H3 x = H1 x := fun x hx hy => by rw [← e3, upd_ne hy]; exact obs2 x hx
      have hp3 : H3 u = some (.lst ((us ++ [d]).map V.ref)) := by rw [← e3, upd_ne ne.pu.symm]; exact hp2
      have ht3 : H3 p = some (.lst (ps0.map V.ref)) := by rw [← e3, upd_same]
      have g3 : Gm (fun x => x ∈ fpL a d k p u (ps0 ++ [q]) us) H S H3 S := by
        rw [← e3]
        exact g2.store (by simp) (o1.out p (by simp))
      have oba3 := (obs3 a ne.au ne.ap).trans o1.ob
      walk_at "rd"
      refine ⟨a, _, dx, _, rfl, oba3, T.c "Library", T.n "Library" "own_wishes", (by show 8 < 1000; decide), ?_⟩
      generalize e4 : upd H3 a (HO.ins (He.ga K "Library") dx (putF "own_wishes" (V.ref q) (fsL al d k p u b))) = H4
      have g4 : Gm (fun x => x ∈ fpL a d k p u (ps0 ++ [q]) us) H S H4 S := by
        rw [← e4]
        exact g3.store (by simp) (o1.out a (by simp))
      refine fun D hD => ?_
      have hDH : H D = none := g4.free hD
      have nDf : D ∉ fpL a d k p u (ps0 ++ [q]) us := o.new hDH
      have nD : ∀ x ∈ fpL a d k p u (ps0 ++ [q]) us, x ≠ D := fun x hx e => nDf (e ▸ hx)
      have SD : S D = none := Same.free hS hDH
      have ha4 : H4 a = some (.ins (He.ga K "Library") dx (fsL al q k p u b)) := by rw [← e4, upd_same, putF_wish]
      generalize e5 : upd H4 D (HO.dK []) = H5
      have g5 := g4.l0 e5 hD
      have obs5 : ∀ x : Addr, x ≠ u → x ≠ p → x ≠ a → x ≠ D → H5 x = H1 x := fun x h1 h2 h3 h4 => by rw [← e5, upd_ne h4, ← e4, upd_ne h3]; exact obs3 x h1 h2
      have hp5 : H5 u = some (.lst ((us ++ [d]).map V.ref)) := by rw [← e5, upd_ne (nD _ (by simp)), ← e4, upd_ne ne.au.symm]; exact hp3
      have ht5 : H5 p = some (.lst (ps0.map V.ref)) := by rw [← e5, upd_ne (nD _ (by simp)), ← e4, upd_ne ne.ap.symm]; exact ht3
      have ha5 : H5 a = some (.ins (He.ga K "Library") dx (fsL al q k p u b)) := old_at e5 hD ha4
      have hD5 := new_at e5
      have tr : ∀ (x : Addr) (m : Mo), DctAt K S H1 x m → x ≠ u → x ≠ p → x ≠ a → x ≠ D → DctAt K S H5 x m := fun x m ⟨kv, h, hh⟩ h1 h2 h3 h4 => ⟨kv, (obs5 x h1 h2 h3 h4).trans h, hh⟩
      have hdq : DctAt K S H5 q Mq := tr q Mq hq0 (ne.ps q (by simp)).2.2.2.2 (ne.ps q (by simp)).2.2.2.1 (ne.ps q (by simp)).1 (nD q (by simp))
      have pT : Paired (DctAt K S H5) ps0 Ts0 := pair_imp hp0 fun x hx y z => tr x y z (ne.ps x (by simp [hx])).2.2.2.2 (ne.ps x (by simp [hx])).2.2.2.1 (ne.ps x (by simp [hx])).1 (nD x (by simp [hx]))
      have pP : Paired (DctAt K S H5) (us ++ [d]) (Us ++ [M]) := Paired.snoc (pair_imp o1.es fun x hx y z => tr x y z (ne.us x hx).2.2.2.2 (ne.us x hx).2.2.2.1 (ne.us x hx).1 (nD x (by simp [hx]))) (tr d M o1.di ne.du ne.dp ne.ad.symm (nD d (by simp)))
      walk_at "rd"
      refine ⟨a, _, dx, _, rfl, ha5, T.c "Library", T.n "Library" "own_kept", (by show 8 < 1000; decide), ?_⟩
      have nDq : D ∉ fpL a q k p u (ps0) (us ++ [d]) := fun z => nDf (by simp only [List.mem_cons, List.mem_append, List.not_mem_nil, or_false] at z ⊢; rcases z with z | z | z | z | z | z | z <;> simp_all)
      refine kk _ S (fpL a q D p u (ps0) (us ++ [d])) (g5.store (by simp) (o1.out a (by simp))) ⟨dx, q, D, p, u, _, _, rfl, LibO.wa (by rw [putF_kept]) hdq hD5 ht5 hp5 pT pP (nd_k (nd_q o.nd) nDq) fun x hx => ?_⟩ fun x hx => ?_
      · by_cases z : x = D
        · rw [z]; exact SD
        · refine o1.out x ?_
          simp only [List.mem_cons, List.mem_append, List.not_mem_nil, or_false] at hx ⊢
          rcases hx with e | e | e | e | e | e | e <;> first | (exact absurd e z) | (simp [e]; done) | (rcases e with e | e <;> simp [e])
      · by_cases z : x = D
        · rw [z]; exact .inr hDH
        · refine .inl ?_
          simp only [List.mem_cons, List.mem_append, List.not_mem_nil, or_false] at hx ⊢
          rcases hx with e | e | e | e | e | e | e <;> first | (exact absurd e z) | (simp [e]; done) | (rcases e with e | e <;> simp [e])
end
def sp_Lredo (K : PySem.W.Frag) : Sp := fun vs H Q E => ∃ (al : Str) (a : Addr) (fp : List Addr) (b : Bool) (M : Mo) (Ps Us : List Mo) (S : Hp), vs = [.ref a] ∧ LibI K al S H a fp b M Ps Us ∧ Ps.length ≤ 1000 ∧ Us.length ≤ 1000 ∧ Same S H ∧
  (∀ Ts0 Mq, Us = Ts0 ++ [Mq] → LStep K al a S H fp b Mq (Ps ++ [M]) Ts0 fun H' => Q .non H') ∧ (Us = [] → Thr K "NothingLeft" fN H E)
section
variable {P : Program} {w : World} {K : PySem.W.Frag} {mg : Str → Option Value} {base : Heap}
theorem ok_Lredo (T : Txt K mg) (T3 : Txt3 K) (GN : FnR P w K mg base CX0 2 (He.ma K (He.ga K "NothingLeft") "__init__") (sp_Nothing K)) : OkM P w K mg base (L2.CX P w) 4 "Library" "redo" P_Library_redo (sp_Lredo K) := by
  refine (T.f_Library_redo).ok sc_Library_redo (fun vs H Q E h => ?_) (fun cdv A outer s H vs Q E hr h => ?_)
  · obtain ⟨al, a, fp, b, M, Ps, Us, S, rfl, _⟩ := h
    rfl
  · obtain ⟨al, a, fp, b, M, Ps, Us, S, rfl, ⟨dx, d, k, p, u, ps, us, rfl, o⟩, pl, ul, hS, k1, k2⟩ := h
    refine ⟨_, (pss_cons (ps_if (pt_cmpR (eqNilK (K := K) rfl hr.units) (fldK (K := K) rfl (pv 0) rfl) (pe_lst pa_nil) (nomark _)) (pss_one (ps_raise rfl (takes_of rfl rfl rfl rfl) (pmk_lex0 T3.lexN T3.iN T3.tN GN (hr.mono (by first | decide | omega)) pass0 (by rfl) (T.g "NothingLeft")))) pss_nil)
        (pss_cons (ps_expr (pe_bm PySem.F.plainAttrs_list PySem.F.slot_list_append PySem.F.type_list_append mt_append (fldK (K := K) rfl (pv 0) rfl) (pa_cons (fldK (K := K) rfl (pv 0) rfl) pa_nil)))
        (pss_cons (ps_fldK (K := K) rfl (pv 0) (pe_bm0 PySem.F.plainAttrs_list PySem.F.slot_list_pop PySem.F.type_list_pop mt_pop (fldK (K := K) rfl (pv 0) rfl)) rfl)
        (pss_one (ps_fldK (K := K) rfl (pv 0) pe_dnewK rfl))))), ?_⟩
    walk_at "rs"
    walk_at "rd"
    refine ⟨_, _, _, _, _, rfl, o.ob, T.c "Library", T.n "Library" "own_undone", rfl, ?_⟩
    walk_at "rd"
    refine ⟨by walk_at "sz", fun e0 he0 => ?_⟩
    generalize e1 : upd H e0 (HO.lst []) = H1
    have g1 : Gr H S H1 S := (Gm.rfl' hS).l0 e1 he0
    have o1 := o.gr g1
    refine rd_nil o1.un (new_at e1) ?_
    rcases List.eq_nil_or_concat Us with c | ⟨Ts0, Mq, c⟩
    · have c2 : us = [] := by
        have := o1.es.length
        rw [c] at this
        exact List.eq_nil_of_length_eq_zero this
      rw [c2]
      walk_at "rd"
      refine ⟨by show 0 ≤ 1000; decide, fun x hx => ⟨x, rfl, upd_same, fun dy h1 h2 => ⟨rfl, dy, fN, upd_same, ?_, ?_, thr_N (k2 c) g1.same hx ?_ h2⟩⟩⟩
      · rw [upd_ne h2, upd_same]
      · rw [upd_ne h2] at h1
        exact h1
      · rw [upd_ne h2] at h1
        exact h1
    · rw [List.concat_eq_append] at c
      have kk := k1 Ts0 Mq c
      subst c
      obtain ⟨us0, q, rfl, hp0, hq0⟩ := pair_snoc o1.es
      have ne := fpNe o.nd
      have ne0 := fpNe (nd_r o.nd)
      refine ⟨_, rfl, ?_⟩
      rw [if_neg (by simp)]
      walk_at "rd"
      refine ⟨_, _, _, _, _, rfl, o1.ob, T.c "Library", T.n "Library" "own_past", rfl, ?_⟩
      refine ⟨.inl ⟨rfl, _, sql o1.pa⟩, ?_⟩
      walk_at "rd"
      refine ⟨_, _, _, _, _, rfl, o1.ob, T.c "Library", T.n "Library" "own_wishes", rfl, ?_⟩
      have putl : ps.length ≤ 1000 := by
        rw [o1.ds.length]
        assumption
      refine ⟨p, _, _, rfl, rfl, o1.pa, szL (by rw [List.length_map]; omega), ?_⟩
      generalize e2 : upd H1 p (HO.lst (ps.map V.ref ++ [V.ref d])) = H2
      have obs2 : ∀ x : Addr, x ≠ p → H2 x = H1 x := fun x hx => by rw [← e2, upd_ne hx]
      have hp2 : H2 p = some (.lst ((ps ++ [d]).map V.ref)) := by rw [← e2, upd_same, List.map_append]; rfl
      have g2 : Gm (fun x => x ∈ fpL a d k p u ps (us0 ++ [q])) H S H2 S := by
        rw [← e2]
        exact g1.m.store (by simp) (o1.out p (by simp))
      have oba2 := (obs2 a ne.ap).trans o1.ob
      walk_at "rd"
      refine ⟨_, _, _, _, _, rfl, oba2, T.c "Library", T.n "Library" "own_undone", rfl, ?_⟩
      refine ⟨.inl ⟨rfl, _, sql ((obs2 u ne.pu.symm).trans o1.un)⟩, ?_⟩
      walk_at "rd"
      refine ⟨u, _, V.ref q, rfl, rfl, (obs2 u ne.pu.symm).trans o1.un, by simp, ?_⟩
      rw [show ((us0 ++ [q]).map V.ref).dropLast = us0.map V.ref by simp]
      generalize e3 : upd H2 u (HO.lst (us0.map V.ref)) = H3
      have obs3 : ∀ x : Addr, x ≠ p → x ≠ u → H3 x = H1 x := fun x hx hy => by rw [← e3, upd_ne hy]; exact obs2 x hx
      have hp3 : H3 p = some (.lst ((ps ++ [d]).map V.ref)) := by rw [← e3, upd_ne ne.pu]; exact hp2
      have ht3 : H3 u = some (.lst (us0.map V.ref)) := by rw [← e3, upd_same]
      have g3 : Gm (fun x => x ∈ fpL a d k p u ps (us0 ++ [q])) H S H3 S := by
        rw [← e3]
        exact g2.store (by simp) (o1.out u (by simp))
      have oba3 := (obs3 a ne.ap ne.au).trans o1.ob
      walk_at "rd"
      refine ⟨a, _, dx, _, rfl, oba3, T.c "Library", T.n "Library" "own_wishes", (by show 8 < 1000; decide), ?_⟩
      generalize e4 : upd H3 a (HO.ins (He.ga K "Library") dx (putF "own_wishes" (V.ref q) (fsL al d k p u b))) = H4
      have g4 : Gm (fun x => x ∈ fpL a d k p u ps (us0 ++ [q])) H S H4 S := by
        rw [← e4]
        exact g3.store (by simp) (o1.out a (by simp))
      refine fun D hD => ?_
      have hDH : H D = none := g4.free hD
      have nDf : D ∉ fpL a d k p u ps (us0 ++ [q]) := o.new hDH
      have nD : ∀ x ∈ fpL a d k p u ps (us0 ++ [q]), x ≠ D := fun x hx e => nDf (e ▸ hx)
      have SD : S D = none := Same.free hS hDH
      have ha4 : H4 a = some (.ins (He.ga K "Library") dx (fsL al q k p u b)) := by rw [← e4, upd_same, putF_wish]
      generalize e5 : upd H4 D (HO.dK []) = H5
      have g5 := g4.l0 e5 hD
      have obs5 : ∀ x : Addr, x ≠ p → x ≠ u → x ≠ a → x ≠ D → H5 x = H1 x := fun x h1 h2 h3 h4 => by rw [← e5, upd_ne h4, ← e4, upd_ne h3]; exact obs3 x h1 h2
      have hp5 : H5 p = some (.lst ((ps ++ [d]).map V.ref)) := by rw [← e5, upd_ne (nD _ (by simp)), ← e4, upd_ne ne.ap.symm]; exact hp3
      have ht5 : H5 u = some (.lst (us0.map V.ref)) := by rw [← e5, upd_ne (nD _ (by simp)), ← e4, upd_ne ne.au.symm]; exact ht3
      have ha5 : H5 a = some (.ins (He.ga K "Library") dx (fsL al q k p u b)) := old_at e5 hD ha4
      have hD5 := new_at e5
      have tr : ∀ (x : Addr) (m : Mo), DctAt K S H1 x m → x ≠ p → x ≠ u → x ≠ a → x ≠ D → DctAt K S H5 x m := fun x m ⟨kv, h, hh⟩ h1 h2 h3 h4 => ⟨kv, (obs5 x h1 h2 h3 h4).trans h, hh⟩
      have hdq : DctAt K S H5 q Mq := tr q Mq hq0 (ne.us q (by simp)).2.2.2.1 (ne.us q (by simp)).2.2.2.2 (ne.us q (by simp)).1 (nD q (by simp))
      have pT : Paired (DctAt K S H5) us0 Ts0 := pair_imp hp0 fun x hx y z => tr x y z (ne.us x (by simp [hx])).2.2.2.1 (ne.us x (by simp [hx])).2.2.2.2 (ne.us x (by simp [hx])).1 (nD x (by simp [hx]))
      have pP : Paired (DctAt K S H5) (ps ++ [d]) (Ps ++ [M]) := Paired.snoc (pair_imp o1.ds fun x hx y z => tr x y z (ne.ps x hx).2.2.2.1 (ne.ps x hx).2.2.2.2 (ne.ps x hx).1 (nD x (by simp [hx]))) (tr d M o1.di ne.dp ne.du ne.ad.symm (nD d (by simp)))
      walk_at "rd"
      refine ⟨a, _, dx, _, rfl, ha5, T.c "Library", T.n "Library" "own_kept", (by show 8 < 1000; decide), ?_⟩
      have nDq : D ∉ fpL a q k p u (ps ++ [d]) (us0) := fun z => nDf (by simp only [List.mem_cons, List.mem_append, List.not_mem_nil, or_false] at z ⊢; rcases z with z | z | z | z | z | z | z <;> simp_all)
      refine kk _ S (fpL a q D p u (ps ++ [d]) (us0)) (g5.store (by simp) (o1.out a (by simp))) ⟨dx, q, D, p, u, _, _, rfl, LibO.wa (by rw [putF_kept]) hdq hD5 hp5 ht5 pP pT (nd_k (nd_r o.nd) nDq) fun x hx => ?_⟩ fun x hx => ?_
      · by_cases z : x = D
        · rw [z]; exact SD
        · refine o1.out x ?_
          simp only [List.mem_cons, List.mem_append, List.not_mem_nil, or_false] at hx ⊢
          rcases hx with e | e | e | e | e | e | e <;> first | (exact absurd e z) | (simp [e]; done) | (rcases e with e | e <;> simp [e])
      · by_cases z : x = D
        · rw [z]; exact .inr hDH
        · refine .inl ?_
          simp only [List.mem_cons, List.mem_append, List.not_mem_nil, or_false] at hx ⊢
          rcases hx with e | e | e | e | e | e | e <;> first | (exact absurd e z) | (simp [e]; done) | (rcases e with e | e <;> simp [e])
end
end Lst

/-! ## LCmd -/
namespace Lst
open PySem PySem.Spec PyProof.Rows L2
def sp_command : Sp := fun vs H Q _ => ∃ (β : Addr) (al : Str) (m v : V) (M : Mo) (ns : List Str) (S : Hp), vs = [.ref β, .str al, m, v] ∧ ModelAt S m M ∧ StrsAt S v ns ∧ AlOk al ∧ NsOk ns ∧ MOk al ns [] M ∧
  Drawn S H β fun H' S' => Q .non H' ∧ ∀ (c : V) (cm : Cmd), CmdAt S' c cm → CmdOk al ns M cm → Q c H'
/-! ### what the law draws is right -/
theorem word_ok {al w : Str} (h : lowS al = true) (hw : wordIn al w) : wordOk w = true := by
  obtain ⟨h1, h2, h3⟩ := hw
  unfold wordOk isWordB lowS
  rw [Bool.and_eq_true, Bool.and_eq_true]
  refine ⟨⟨decide_eq_true (by omega), List.all_eq_true.mpr fun c hc => List.all_eq_true.mp h c (h3 c hc)⟩, ?_⟩
  rw [decide_eq_false fun e => by rw [e] at h1; exact absurd h1 (by decide +kernel)]
  rfl
theorem good_ok {al : Str} {ns : List Str} (h : lowS al = true) (hn : ∀ n ∈ ns, nameOk n = true) : ∀ t : Tr, goodT al ns t → smT t ∧ trOk t
  | .nm n, g => ⟨nameOk_len (hn n g), hn n g⟩
  | .lf b ws, g => by
    refine ⟨⟨g.2.1, fun x hx => Nat.le_trans (g.2.2 x hx).2.1 (by decide)⟩, fun e => ?_, Nat.le_trans (sd_len ws) g.2.1, fun x hx => word_ok h (g.2.2 x hx)⟩
    have := g.1
    rw [e] at this
    exact absurd this (by decide)
  | .bh w t, g => ⟨⟨Nat.le_trans g.1.2.1 (by decide), (good_ok h hn t g.2).1⟩, word_ok h g.1, (good_ok h hn t g.2).2⟩
  | .op b l r, g => ⟨⟨(good_ok h hn l g.1).1, (good_ok h hn r g.2).1⟩, (good_ok h hn l g.1).2, (good_ok h hn r g.2).2⟩
theorem mok_all {al : Str} {ns : List Str} (h : lowS al = true) (hn : ∀ n ∈ ns, nameOk n = true) : ∀ {M : Mo} {e : List Str}, (∀ n ∈ e, n ∈ ns) → MOk al ns e M → ∀ m ∈ M, m.1 ∈ ns ∧ smT m.2 ∧ trOk m.2 ∧ (toks m.2).length ≤ 7 ∧ depth m.2 ≤ 4
  | [], e, _, _, m, hm => nomatch hm
  | (n, t) :: r, e, he, h1, m, hm => by
    obtain ⟨a, b, ⟨c, d, f⟩, g⟩ := h1
    rcases List.mem_cons.mp hm with q | q
    · subst q
      have := good_ok h (fun x hx => hn x (he x hx)) t c
      exact ⟨a, this.1, this.2, d, f⟩
    · exact mok_all h hn (fun x hx => by
        rcases List.mem_append.mp hx with z | z
        · exact he x z
        · rw [List.mem_singleton.mp z]
          exact a) g m q
theorem mok_nd {al : Str} {ns : List Str} : ∀ {M : Mo} {e : List Str}, MOk al ns e M → (mnames M).Nodup ∧ ∀ n ∈ mnames M, n ∉ e
  | [], e, _ => ⟨List.nodup_nil, fun _ h => nomatch h⟩
  | (n, t) :: r, e, h => by
    obtain ⟨a, b, c, g⟩ := h
    obtain ⟨h1, h2⟩ := mok_nd g
    refine ⟨List.nodup_cons.mpr ⟨fun m => h2 n m (List.mem_append_right _ (List.mem_singleton.mpr rfl)), h1⟩, fun x hx => ?_⟩
    rcases List.mem_cons.mp hx with q | q
    · rw [q]
      exact b
    · exact fun z => h2 x q (List.mem_append_left _ z)
theorem mok_len {al : Str} {ns : List Str} {M : Mo} (h : lowS al = true) (hn : NsOk ns) (k : MOk al ns [] M) : M.length ≤ 4 := by
  have q := (mok_nd k).1.length_le_of_subset (l₂ := ns) fun x hx => by
    obtain ⟨m, hm, rfl⟩ := List.mem_map.mp hx
    exact (mok_all (e := []) h hn.ok (fun _ z => nomatch z) k m hm).1
  rw [hn.len] at q
  rw [← List.length_map (f := (·.1)) (as := M)]
  exact q
theorem first_at {n : Str} : ∀ {xs : List Str}, n ∈ xs → ∃ j, xs[j]? = some n ∧ (∀ i < j, xs[i]? ≠ some n) ∧ xs.take j = xs.takeWhile fun x => !decide (x = n)
  | x :: r, h => by
    by_cases e : x = n
    · exact ⟨0, by rw [e]; rfl, fun i hi => absurd hi (Nat.not_lt_zero i), by rw [List.takeWhile_cons, if_neg (by rw [decide_eq_true e]; decide)]; rfl⟩
    · have hr : n ∈ r := (List.mem_cons.mp h).resolve_left fun z => e z.symm
      obtain ⟨j, h1, h2, h3⟩ := first_at hr
      refine ⟨j + 1, h1, fun i hi => ?_, ?_⟩
      · cases i with
        | zero => exact fun z => e (Option.some.inj z)
        | succ i => exact h2 i (by omega)
      · rw [List.takeWhile_cons, if_pos (by rw [decide_eq_false e]; rfl)]
        exact congrArg (x :: ·) h3
section
variable {P : Program} {w : World} {K : PySem.W.Frag} {mg : Str → Option Value} {base : Heap}
theorem ok_command (T : Txt K mg) (G_l_pull : OkG P w K mg base CX0 1 "_law_pull" P_l_pull sp_pull) (G_l_any : OkG P w K mg base CX0 2 "_law_any" P_l_any sp_any) (G_l_tree : OkG P w K mg base CX0 6 "_law_tree" P_l_tree sp_tree) (G_l_uses : OkG P w K mg base CX0 7 "_law_uses" P_l_uses (sp_uses 5)) : OkG P w K mg base CX0 8 "_law_command" P_l_command sp_command := by
  refine (T.f_l_command).ok sc_l_command (fun vs H Q E h => ?_) (fun cdv A outer s H vs Q E hr h => ?_)
  · obtain ⟨β, al, m, v, M, ns, S, rfl, _⟩ := h
    rfl
  · obtain ⟨β, al, m, v, M, ns, S, rfl, ⟨ma, us, rfl, hm, hp⟩, ⟨na, rfl, hns⟩, hal, nok, mok, hS, hB, k⟩ := h
    have ul := hp.length
    have ml := mok_len hal.low nok mok
    have ma4 := mok_all (e := []) hal.low nok.ok (fun _ z => nomatch z) mok
    refine ⟨_, PSs.nox (pss_cons (ps_set (i := 4) sc_l_command.nd rfl (Or.inr rfl) (pe_lc (own := [("_law_one", 5), ("_law_tree_here", 6)]) (g := (gTup K 2 (gCons (gName 5) (gCons (gName 6) gNil)))) (tt := tYes) rfl sc_l_command.nd (pi_listK (K := K) rfl (pv 2)) (by first | exact blkOk_by (N := N_l_command) (sc := defScope s_l_command) (by decide +kernel) | exact blkOk_by (N := N_l_command) (sc := { kind := .function, names := [(".0", .local), ("_law_one", .cell), ("_law_model", .cell)], isGenerator := false, isCoroutine := false }) (by decide +kernel)) (fun _ _ _ _ _ => (pg_tupK (K := K) (n := 2) rfl rfl (pgs_cons (pg_name (i := 5) sc_l_command.nd rfl (Or.inl rfl)) (pgs_cons (pg_name (i := 6) sc_l_command.nd rfl (Or.inl rfl)) pgs_nil)))) (fun _ _ _ _ _ => pts_nil) (fun _ _ _ _ _ => (pv 5))))
        (pss_cons (ps_par (i := 7) (j := 8) (by rfl) sc_l_command.nd rfl rfl (by decide) rfl rfl (pa_cons (pe_lc (own := [("_law_name", 9)]) (g := (gName 9)) rfl sc_l_command.nd (pi_listK (K := K) rfl (pv 3)) (by first | exact blkOk_by (N := N_l_command) (sc := defScope s_l_command) (by decide +kernel) | exact blkOk_by (N := N_l_command) (sc := { kind := .function, names := [(".0", .local), ("_law_one", .cell), ("_law_model", .cell)], isGenerator := false, isCoroutine := false }) (by decide +kernel)) (fun _ _ _ _ _ => (pg_name (i := 9) sc_l_command.nd rfl (Or.inl rfl))) (fun _ _ _ _ _ => pts_one (pt_cmpR (ninK (K := K) rfl) (pv 9) (pv 4) (by rfl))) (fun _ _ _ _ _ => (pv 9))) (pa_cons (pe_call G_l_pull (hr.mono (by first | decide | omega)) (by rfl) (T.g "_law_pull") (T.k "_law_pull") T.b_l_pull .nil pass0 (pa_cons (pv 0) (pa_cons pe_int pa_nil))) pa_nil)) (by rfl))
        (C8.pss_cut (ps_if (PW.pt (pw_and (pt_cmpR op_lt (pv 8) pe_int (nomark _)) (pw_and1 (pt_cmpR (neNilK (K := K) rfl hr.units) (pv 7) (pe_lst pa_nil) (nomark _))))) (pss_one (ps_ret (pe_tup (pa_cons pe_str (pa_cons (pe_call G_l_any (hr.mono (by first | decide | omega)) (by rfl) (T.g "_law_any") (T.k "_law_any") T.b_l_any .nil pass0 (pa_cons (pv 0) (pa_cons (pv 7) pa_nil))) (pa_cons (pe_call G_l_tree (hr.mono (by first | decide | omega)) (by rfl) (T.g "_law_tree") (T.k "_law_tree") T.b_l_tree .nil pass0 (pa_cons (pv 0) (pa_cons (pv 1) (pa_cons pe_int (pa_cons (pv 4) pa_nil))))) pa_nil)))))) pss_nil)
        (C8.pss_cut (ps_if (PW.pt (pw_and (pt_cmpR op_eq (pv 8) pe_int (nomark _)) (pw_and1 (pt_cmpR (neNilK (K := K) rfl hr.units) (pv 4) (pe_lst pa_nil) (nomark _))))) (pss_cons (ps_set (i := 9) sc_l_command.nd rfl (Or.inl rfl) (pe_call G_l_any (hr.mono (by first | decide | omega)) (by rfl) (T.g "_law_any") (T.k "_law_any") T.b_l_any .nil pass0 (pa_cons (pv 0) (pa_cons (pv 4) pa_nil))))
        (pss_one (ps_ret (pe_tup (pa_cons pe_str (pa_cons (pv 9) (pa_cons (pe_call G_l_tree (hr.mono (by first | decide | omega)) (by rfl) (T.g "_law_tree") (T.k "_law_tree") T.b_l_tree .nil pass0 (pa_cons (pv 0) (pa_cons (pv 1) (pa_cons pe_int (pa_cons (pe_slice (sl_listK (K := K) rfl) (pv 4) po_none (po_some (pe_bm PySem.F.plainAttrs_list PySem.F.slot_list_index PySem.F.type_list_index mt_index (pv 4) (pa_cons (pv 9) pa_nil)))) pa_nil))))) pa_nil))))))) pss_nil)
        (pss_cons (ps_setLc (i := 10) (own := [("_law_one", 5)]) (g := (gName 5)) rfl sc_l_command.nd rfl rfl (by rfl) (pi_listK (K := K) rfl (pv 4)) (by first | exact blkOk_by (N := N_l_command) (sc := defScope s_l_command) (by decide +kernel) | exact blkOk_by (N := N_l_command) (sc := { kind := .function, names := [(".0", .local), ("_law_one", .cell), ("_law_model", .cell)], isGenerator := false, isCoroutine := false }) (by decide +kernel)) (fun _ _ _ _ _ => (pg_name (i := 5) sc_l_command.nd rfl (Or.inr rfl))) (fun _ _ _ _ _ => pts_one (pt_cmpR (eqNilK (K := K) rfl hr.units) (pe_lc (own := [("_law_late", 11), ("_law_tree_here", 6)]) (g := (gTup K 2 (gCons (gName 11) (gCons (gName 6) gNil)))) rfl sc_l_command.nd (pi_listK (K := K) rfl (pv 2)) (by first | exact blkOk_by (N := N_l_command) (sc := defScope s_l_command) (by decide +kernel) | exact blkOk_by (N := N_l_command) (sc := { kind := .function, names := [(".0", .local), ("_law_one", .cell), ("_law_model", .cell)], isGenerator := false, isCoroutine := false }) (by decide +kernel)) (fun _ _ _ _ _ => (pg_tupK (K := K) (n := 2) rfl rfl (pgs_cons (pg_name (i := 11) sc_l_command.nd rfl (Or.inl rfl)) (pgs_cons (pg_name (i := 6) sc_l_command.nd rfl (Or.inl rfl)) pgs_nil)))) (fun _ _ _ _ _ => pts_one (pt_cmpR (inK (K := K) rfl) (pv 5) (pe_call G_l_uses (hr.mono (by first | decide | omega)) (by rfl) (T.g "_law_uses") (T.k "_law_uses") T.b_l_uses .nil pass0 (pa_cons (pv 6) pa_nil)) (by rfl))) (fun _ _ _ _ _ => (pv 11))) (pe_lst pa_nil) (nomark _))) (fun _ _ _ _ _ => (pv 5)))
        (pss_cons (ps_if (PW.pt (pw_and (pt_cmpR op_eq (pv 8) pe_int (nomark _)) (pw_and1 (pt_cmpR (neNilK (K := K) rfl hr.units) (pv 10) (pe_lst pa_nil) (nomark _))))) (pss_one (ps_ret (pe_tup (pa_cons pe_str (pa_cons (pe_call G_l_any (hr.mono (by first | decide | omega)) (by rfl) (T.g "_law_any") (T.k "_law_any") T.b_l_any .nil pass0 (pa_cons (pv 0) (pa_cons (pv 10) pa_nil))) pa_nil))))) pss_nil)
        (pss_cons (ps_if (PW.pt (pw_and (pt_cmpR op_eq (pv 8) pe_int (nomark _)) (pw_and (pt_cmpR (neNilK (K := K) rfl hr.units) (pv 4) (pe_lst pa_nil) (nomark _)) (pw_and1 (pt_cmpR (neNilK (K := K) rfl hr.units) (pv 7) (pe_lst pa_nil) (nomark _)))))) (pss_one (ps_ret (pe_tup (pa_cons pe_str (pa_cons (pe_call G_l_any (hr.mono (by first | decide | omega)) (by rfl) (T.g "_law_any") (T.k "_law_any") T.b_l_any .nil pass0 (pa_cons (pv 0) (pa_cons (pv 4) pa_nil))) (pa_cons (pe_call G_l_any (hr.mono (by first | decide | omega)) (by rfl) (T.g "_law_any") (T.k "_law_any") T.b_l_any .nil pass0 (pa_cons (pv 0) (pa_cons (pv 7) pa_nil))) pa_nil)))))) pss_nil)
        (pss_one (ps_ret pe_non))))))))), ?_⟩
    walk_at "rs"
    walk_at "rd"
    refine ⟨⟨_, sql (hS _ _ hm)⟩, fun D hD => ?_⟩
    have nDβ : β ≠ D := fun z => hB.live (by rw [z]; exact hD)
    refine lcg walk_list (fun i acc S => acc = ((mnames M).take i).map V.str) noZ noM hD hS rfl trivial (fun _ _ _ _ => trivial) (fun i H9 S9 _ _ g _ _ => sql (g.sub _ _ (g.mono _ _ hm))) ?_ ?_
    · rintro i x H2 H3 S2 acc hi g2 r _ e eS ⟨rfl, hx⟩
      obtain ⟨m, hm1, b, v, rfl, hb, hv⟩ := pair_at hp hx
      walk_at "rs"
      refine ⟨b, _, rfl, sqt (g2.sub _ _ (g2.mono _ _ hb)), rfl, ?_⟩
      walk_at "rd"
      have hn : (mnames M)[i]? = some m.1 := by
        unfold mnames
        rw [List.getElem?_map, hm1]
        rfl
      refine LcP.add hD (fun z => z) (fun _ _ _ _ => trivial) g2 e eS (Gm.rfl' g2.sub) (szL (by rw [r, List.length_map, List.length_take]; omega)) ?_ trivial
      rw [r, take_snoc hn, List.map_append]
      rfl
    · rintro H1 S1' acc g1' r _ e eS
      rw [ul, List.take_of_length_le (by unfold mnames; rw [List.length_map]; exact Nat.le_refl _)] at r
      have g1 : Gm noM H S H1 (upd S1' D (.lst acc)) := g1'.freeze e hD eS
      have hk1 : (upd S1' D (HO.lst acc)) D = some (.lst ((mnames M).map V.str)) := by rw [upd_same, r]
      generalize upd S1' D (.lst acc) = S1 at g1 hk1
      clear e eS r g1'
      have b1 := hB.gr g1
      walk_at "rd"
      refine ⟨⟨_, sql (g1.sub _ _ (g1.mono _ _ hns))⟩, fun D2 hD2 => ?_⟩
      refine lcg walk_list (fun i acc S => acc = ((ns.take i).filter fun n => !decide (n ∈ mnames M)).map V.str) noZ noM hD2 g1.sub rfl trivial (fun _ _ _ _ => trivial) (fun i H9 S9 _ _ g _ _ => sql (g.sub _ _ (g.mono _ _ (g1.mono _ _ hns)))) ?_ ?_
      · rintro i x H2 H3 S2 acc hi g2 r _ e eS ⟨rfl, hx⟩
        rw [List.getElem?_map] at hx
        obtain ⟨n, hn, rfl⟩ := Option.map_eq_some_iff.mp hx
        walk_at "rs"
        walk_at "rd"
        refine rd_nin (zs := mnames M) (.inl (sql (g2.sub _ _ (g2.mono _ _ hk1)))) ?_
        walk_at "rd"
        by_cases c : n ∈ mnames M
        · rw [if_neg (by rw [decide_eq_true c]; decide)]
          refine LcP.skip (fun z => z) g2 e eS (Gm.rfl' g2.sub) ?_ trivial
          rw [r, take_snoc hn, List.filter_append, List.filter_cons, if_neg (by rw [decide_eq_true c]; decide), List.filter_nil, List.append_nil]
        · rw [if_pos (by rw [decide_eq_false c]; decide)]
          walk_at "rd"
          have al : acc.length ≤ 100 := by
            rw [r, List.length_map]
            refine Nat.le_trans (List.length_filter_le _ _) ?_
            rw [List.length_take, nok.len]
            omega
          refine LcP.add hD2 (fun z => z) (fun _ _ _ _ => trivial) g2 e eS (Gm.rfl' g2.sub) (szL (by omega)) ?_ trivial
          rw [r, take_snoc hn, List.filter_append, List.filter_cons, if_pos (by rw [decide_eq_false c]; decide), List.filter_nil, List.map_append]
          rfl
      · rintro H2 S2' acc g2' r _ e eS
        rw [List.length_map, List.take_of_length_le (Nat.le_refl _)] at r
        have g2a := g2'.freeze e hD2 eS
        have hf2 : (upd S2' D2 (HO.lst acc)) D2 = some (.lst ((ns.filter fun n => !decide (n ∈ mnames M)).map V.str)) := by rw [upd_same, r]
        generalize upd S2' D2 (.lst acc) = S2 at g2a hf2
        clear e eS r g2'
        have g2 := g1.trans g2a
        have b2 := b1.gr g2a
        have hk2 := g2a.mono _ _ hk1
        have kl : (mnames M).length ≤ 4 := by unfold mnames; rw [List.length_map]; exact ml
        have fl : (ns.filter fun n => !decide (n ∈ mnames M)).length ≤ 4 := Nat.le_trans (List.length_filter_le _ _) (by rw [nok.len]; exact Nat.le_refl _)
        have fm : ∀ n ∈ ns.filter fun n => !decide (n ∈ mnames M), n ∈ ns ∧ n ∉ mnames M := fun n hn => by
          obtain ⟨a, b⟩ := List.mem_filter.mp hn
          exact ⟨a, fun z => by rw [decide_eq_true z] at b; cases b⟩
        generalize ns.filter (fun n => !decide (n ∈ mnames M)) = fr at hf2 fl fm
        walk_at "rd"
        refine ⟨β, _, S2, rfl, by omega, by omega, g2.sub, b2, fun H3 S3 g3a b3 way w0 w1 => ?_⟩
        have g3 := (g2.m (ms := one β)).trans g3a
        have hk3 := g3a.mono _ _ hk2
        have hf3 := g3a.mono _ _ hf2
        walk_at "rd"
        refine ⟨fun σ H' => ∃ S', σ = [some (.ref β), some (.str al), some (.ref ma), some (.ref na), some (.ref D), none, none, some (.ref D2), some (.int way), none, none, none] ∧ Gm (one β) H S H' S' ∧ BagAt S' H' β ∧ S' D = some (.lst ((mnames M).map V.str)) ∧ S' D2 = some (.lst (fr.map V.str)), ?_, ?_⟩
        · walk_at "rd"
          by_cases c : way < 2
          · rw [if_pos (decide_eq_true c)]
            walk_at "rd"
            refine ⟨by walk_at "sz", fun p hp => ?_⟩
            generalize e4 : upd H3 p (HO.lst []) = H4
            have g4 := g3.l0 e4 hp
            have b4 := b3.l0 e4 hp
            refine rd_nil (g4.sub _ _ hf3) (new_at e4) ?_
            walk_at "rd"
            cases fr with
            | nil => exact ⟨S3, rfl, g4, b4, hk3, hf3⟩
            | cons f0 fr' =>
              rw [if_pos (show (!(List.map V.str (f0 :: fr')).isEmpty) = true from rfl)]
              walk_at "rd"
              refine ⟨β, _, S3, rfl, .inl ⟨D2, _, rfl, hf3, by rw [List.length_map]; exact Nat.succ_pos _, by rw [List.length_map]; omega, g4.sub, b4, fun H5 S5 g5 b5 x hx => ?_⟩⟩
              obtain ⟨n, hn, rfl⟩ := List.mem_map.mp hx
              have g6 := g4.trans g5
              walk_at "rd"
              refine ⟨β, al, V.ref D, mnames M, S5, rfl, ⟨D, rfl, g5.mono _ _ hk3⟩, by omega, hal.lo, by have := hal.hi; omega, g6.sub, b5, fun H7 S7 g7 b7 u t hu ht tl td => ?_⟩
              have g8 := g6.trans g7
              refine ⟨by walk_at "sz", fun q hq => ?_⟩
              generalize e9 : upd H7 q (HO.tup [V.str (Str.ofString "put"), V.str n, u]) = H9
              have hc : CmdAt (upd S7 q (HO.tup [V.str (Str.ofString "put"), V.str n, u])) (V.ref q) (.put n t) := ⟨q, u, rfl, upd_same, hu.mono (upd0_ (Same.refl _) (Same.free g8.sub hq))⟩
              exact (k H9 _ (g8.ld e9 hq) (b7.ld e9 hq g8.sub)).2 _ _ hc ⟨(fm n hn).1, (fm n hn).2, ht, tl, td⟩
          · rw [if_neg (by rw [decide_eq_false c]; decide)]
            exact ⟨S3, rfl, g3, b3, hk3, hf3⟩
        · rintro σ H4 ⟨S4, rfl, g4, b4, hk4, hf4⟩
          refine ⟨fun σ H' => ∃ S', σ = [some (.ref β), some (.str al), some (.ref ma), some (.ref na), some (.ref D), none, none, some (.ref D2), some (.int way), none, none, none] ∧ Gm (one β) H S H' S' ∧ BagAt S' H' β ∧ S' D = some (.lst ((mnames M).map V.str)) ∧ S' D2 = some (.lst (fr.map V.str)), ?_, ?_⟩
          · walk_at "rd"
            by_cases c : way = 2
            · rw [if_pos (decide_eq_true (by rw [c]))]
              walk_at "rd"
              refine ⟨by walk_at "sz", fun p hp => ?_⟩
              generalize e5 : upd H4 p (HO.lst []) = H5
              have g5 := g4.l0 e5 hp
              have b5 := b4.l0 e5 hp
              refine rd_nil (g5.sub _ _ hk4) (new_at e5) ?_
              walk_at "rd"
              by_cases ek : mnames M = []
              · rw [if_neg (by rw [ek]; decide)]
                exact ⟨S4, rfl, g5, b5, hk4, hf4⟩
              · have kp : 0 < (mnames M).length := List.length_pos_iff.mpr ek
                rw [if_pos (by cases hq : mnames M with | nil => exact absurd hq ek | cons _ _ => rfl)]
                walk_at "rd"
                refine ⟨β, _, S4, rfl, .inl ⟨D, _, rfl, hk4, by rw [List.length_map]; exact kp, by rw [List.length_map]; omega, g5.sub, b5, fun H6 S6 g6a b6 x hx => ?_⟩⟩
                obtain ⟨n, hn, rfl⟩ := List.mem_map.mp hx
                have g6 := g5.trans g6a
                have hk6 := g6a.mono _ _ hk4
                walk_at "rd"
                obtain ⟨j, j1, j2, j3⟩ := first_at hn
                refine ⟨.inl ⟨rfl, _, sql (g6.sub _ _ hk6)⟩, ?_⟩
                walk_at "rd"
                have ix : ∀ (i : Nat) (z' : V), i < j → ((mnames M).map V.str)[i]? = some z' → eqV z' (V.str n) = false := fun i z' hi hz => by
                  rw [List.getElem?_map] at hz
                  obtain ⟨y, hy, rfl⟩ := Option.map_eq_some_iff.mp hz
                  show (y == n) = false
                  have : y ≠ n := fun e => j2 i hi (by rw [hy, e])
                  simpa using this
                refine ⟨D, _, _, j, _, rfl, rfl, sql (g6.sub _ _ hk6), rfl, L2.flat_strs _, by rw [List.getElem?_map, j1]; rfl, (show eqV (V.str n) (V.str n) = true from beq_self_eq_true n), ix, ?_⟩
                walk_at "rd"
                refine ⟨D, _, rfl, sql (g6.sub _ _ hk6), fun q hq => ?_⟩
                rw [cut_to, ← List.map_take]
                have ea : (mnames M).take j = ahead M n := j3
                rw [ea]
                generalize e7 : upd H6 q (HO.lst ((ahead M n).map V.str)) = H7
                have g7 := g6.ld e7 hq
                have b7 := b6.ld e7 hq g6.sub
                refine ⟨β, al, V.ref q, ahead M n, _, rfl, ⟨q, rfl, upd_same⟩, by rw [← ea, List.length_take]; omega, hal.lo, by have := hal.hi; omega, g7.sub, b7, fun H8 S8 g8a b8 u t hu ht tl td => ?_⟩
                have g8 := g7.trans g8a
                refine ⟨by walk_at "sz", fun l hl => ?_⟩
                generalize e9 : upd H8 l (HO.tup [V.str (Str.ofString "change"), V.str n, u]) = H9
                have hc : CmdAt (upd S8 l (HO.tup [V.str (Str.ofString "change"), V.str n, u])) (V.ref l) (.chg n t) := ⟨l, u, rfl, upd_same, hu.mono (upd0_ (Same.refl _) (Same.free g8.sub hl))⟩
                exact (k H9 _ (g8.ld e9 hl) (b8.ld e9 hl g8.sub)).2 _ _ hc ⟨hn, ht, tl, td⟩
            · rw [if_neg (by rw [decide_eq_false (fun z => c (V.int.inj z))]; decide)]
              exact ⟨S4, rfl, g4, b4, hk4, hf4⟩
          · rintro σ H5 ⟨S5, rfl, g5, b5, hk5, hf5⟩
            walk_at "rd"
            refine ⟨⟨_, sql (g5.sub _ _ hk5)⟩, fun L hL => ?_⟩
            have nLβ : β ≠ L := fun z => b5.live (by rw [z]; exact hL)
            have hm5 : S5 ma = some (.lst us) := by
              have := g5.mono _ _ hm
              exact this
            refine lcg walk_list (fun i acc S => acc = (((mnames M).take i).filter fun n => (usersM M n).isEmpty).map V.str) (fun S H => BagAt S H β) noM hL g5.sub rfl b5 (fun S H o z => z.updO nLβ) (fun i H9 S9 _ _ g _ _ => sql (g.sub _ _ (g.mono _ _ hk5))) ?_ ?_
            · rintro i x H6 H7 S6 acc hi g6 r b6 e eS ⟨rfl, hx⟩
              rw [List.getElem?_map] at hx
              obtain ⟨n, hn, rfl⟩ := Option.map_eq_some_iff.mp hx
              have al4 : acc.length ≤ 4 := by
                rw [r, List.length_map]
                exact Nat.le_trans (List.length_filter_le _ _) (by rw [List.length_take]; omega)
              walk_at "rs"
              walk_at "rd"
              refine ⟨⟨_, sql (g6.sub _ _ (g6.mono _ _ hm5))⟩, fun I hI => ?_⟩
              have g7 : Gm noM H5 S5 H7 S6 := g6
              refine lcg walk_list (fun i acc S => acc = (((M.take i).filter fun m => decide (n ∈ nms m.2)).map (·.1)).map V.str) noZ noM hI g6.sub rfl trivial (fun _ _ _ _ => trivial) (fun i H9 S9 _ _ g _ _ => sql (g.sub _ _ (g.mono _ _ (g6.mono _ _ hm5)))) ?_ ?_
              · rintro i2 x H8 H9 S8 acc2 hi2 g8 r2 _ e2 eS2 ⟨rfl, hx⟩
                have mo5 : Same S S5 := g5.mono
                obtain ⟨m, hm1, b, v, rfl, hb, hv⟩ := pair_at (L2.Paired.mapP hp fun _ _ z => EntAt.mono (mo5.trans (g6.mono.trans g8.mono)) z) hx
                obtain ⟨o1, o2, o3, o4, o5⟩ := ma4 m (List.mem_of_getElem? hm1)
                have al2 : acc2.length ≤ 4 := by
                  rw [r2, List.length_map, List.length_map]
                  exact Nat.le_trans (List.length_filter_le _ _) (by rw [List.length_take]; omega)
                walk_at "rs"
                refine ⟨b, _, rfl, sqt (g8.sub _ _ hb), rfl, ?_⟩
                walk_at "rd"
                refine ⟨v, m.2, S8, rfl, hv, o2, o3, by omega, by omega, g8.sub, fun H10 S10 p g10 hp10 => ?_⟩
                refine rd_in (zs := nms m.2) (.inl (sql (g10.sub _ _ hp10))) ?_
                walk_at "rd"
                by_cases c : n ∈ nms m.2
                · rw [if_pos (decide_eq_true c)]
                  walk_at "rd"
                  refine LcP.add hI (fun z => z) (fun _ _ _ _ => trivial) g8 e2 eS2 g10 (szL (by omega)) ?_ trivial
                  rw [r2, take_snoc hm1, List.filter_append, List.filter_cons, if_pos (decide_eq_true c), List.filter_nil, List.map_append, List.map_append]
                  rfl
                · rw [if_neg (by rw [decide_eq_false c]; decide)]
                  refine LcP.skip (fun z => z) g8 e2 eS2 g10 ?_ trivial
                  rw [r2, take_snoc hm1, List.filter_append, List.filter_cons, if_neg (by rw [decide_eq_false c]; decide), List.filter_nil, List.append_nil]
              · rintro H8 S8 acc2 g8 r2 _ e2 eS2
                rw [ul, List.take_of_length_le (Nat.le_refl _)] at r2
                refine ⟨by walk_at "sz", fun q hq => ?_⟩
                generalize e9 : upd H8 q (HO.lst []) = H9
                refine rd_nil (old_at e9 hq e2) (new_at e9) ?_
                have g9 : Gm noM H7 S6 H9 S8 := g8.l0 e9 hq
                have b9 : BagAt S8 H9 β := b6.gr g9
                have ee : acc2.isEmpty = (usersM M n).isEmpty := by
                  rw [r2, List.isEmpty_map]
                  rfl
                rw [ee]
                walk_at "rd"
                cases c : (usersM M n).isEmpty with
                | true =>
                  walk_at "rd"
                  refine LcP.add hL (fun z => z) (fun S H o z => z.updO nLβ) g6 e eS g9 (szL (by omega)) ?_ b9
                  rw [r, take_snoc hn, List.filter_append, List.filter_cons, if_pos c, List.filter_nil, List.map_append]
                  rfl
                | false =>
                  walk_at "rd"
                  refine LcP.skip (fun z => z) g6 e eS g9 ?_ b9
                  rw [r, take_snoc hn, List.filter_append, List.filter_cons, if_neg (by rw [c]; decide), List.filter_nil, List.append_nil]
            · rintro H6 S6' acc g6a r b6' e eS
              rw [List.length_map, List.take_of_length_le (Nat.le_refl _)] at r
              have g6 := (g5.tr g6a).freeze e (g5.free hL) eS
              have b6 := b6'.frz (o := HO.lst acc) eS nLβ
              have mo6 : Same S5 (upd S6' L (.lst acc)) := g6a.mono.trans (upd0_ (Same.refl _) eS)
              have hk6 := mo6 _ _ hk5
              have hf6 := mo6 _ _ hf5
              have hl6 : (upd S6' L (HO.lst acc)) L = some (.lst (((mnames M).filter fun n => (usersM M n).isEmpty).map V.str)) := by rw [upd_same, r]
              have lm : ∀ n ∈ (mnames M).filter fun n => (usersM M n).isEmpty, n ∈ mnames M ∧ usersM M n = [] := fun n hn => by
                obtain ⟨a, b⟩ := List.mem_filter.mp hn
                exact ⟨a, List.isEmpty_iff.mp b⟩
              have ll : ((mnames M).filter fun n => (usersM M n).isEmpty).length ≤ 4 := Nat.le_trans (List.length_filter_le _ _) kl
              generalize upd S6' L (.lst acc) = S6 at g6 b6 mo6 hk6 hf6 hl6
              generalize (mnames M).filter (fun n => (usersM M n).isEmpty) = lo at hl6 lm ll
              clear e eS r g6a b6'
              walk_at "rd"
              by_cases c3 : way = 3
              · rw [if_pos (decide_eq_true (by rw [c3]))]
                walk_at "rd"
                refine ⟨by walk_at "sz", fun p hp => ?_⟩
                generalize e7 : upd H6 p (HO.lst []) = H7
                have g7 := g6.l0 e7 hp
                have b7 := b6.l0 e7 hp
                refine rd_nil (g7.sub _ _ hl6) (new_at e7) ?_
                walk_at "rd"
                cases lo with
                | nil =>
                  rw [if_neg (by decide)]
                  walk_at "rd"
                  rw [if_neg (by rw [c3]; decide)]
                  exact (k H7 S6 g7 b7).1
                | cons f0 lo' =>
                  rw [if_pos (show (!(List.map V.str (f0 :: lo')).isEmpty) = true from rfl)]
                  walk_at "rd"
                  refine ⟨β, _, S6, rfl, .inl ⟨L, _, rfl, hl6, by rw [List.length_map]; exact Nat.succ_pos _, by rw [List.length_map]; omega, g7.sub, b7, fun H8 S8 g8a b8 x hx => ?_⟩⟩
                  obtain ⟨n, hn, rfl⟩ := List.mem_map.mp hx
                  have g8 := g7.trans g8a
                  refine ⟨by walk_at "sz", fun l hl => ?_⟩
                  generalize e9 : upd H8 l (HO.tup [V.str (Str.ofString "drop"), V.str n]) = H9
                  have hc : CmdAt (upd S8 l (HO.tup [V.str (Str.ofString "drop"), V.str n])) (V.ref l) (.drp n) := ⟨l, rfl, upd_same⟩
                  exact (k H9 _ (g8.ld e9 hl) (b8.ld e9 hl g8.sub)).2 _ _ hc (lm n hn)
              · rw [if_neg (by rw [decide_eq_false (fun z => c3 (V.int.inj z))]; decide)]
                walk_at "rd"
                by_cases c4 : way = 4
                · rw [if_pos (decide_eq_true (by rw [c4]))]
                  walk_at "rd"
                  refine ⟨by walk_at "sz", fun p hp => ?_⟩
                  generalize e7 : upd H6 p (HO.lst []) = H7
                  have g7 := g6.l0 e7 hp
                  have b7 := b6.l0 e7 hp
                  refine rd_nil (g7.sub _ _ hk6) (new_at e7) ?_
                  walk_at "rd"
                  by_cases ek : mnames M = []
                  · rw [if_neg (by rw [ek]; decide)]
                    exact (k H7 S6 g7 b7).1
                  · have kp : 0 < (mnames M).length := List.length_pos_iff.mpr ek
                    rw [if_pos (by cases hq : mnames M with | nil => exact absurd hq ek | cons _ _ => rfl)]
                    walk_at "rd"
                    refine ⟨by walk_at "sz", fun p2 hp2 => ?_⟩
                    generalize e8 : upd H7 p2 (HO.lst []) = H8
                    have g8 := g7.l0 e8 hp2
                    have b8 := b7.l0 e8 hp2
                    refine rd_nil (g8.sub _ _ hf6) (new_at e8) ?_
                    walk_at "rd"
                    cases fr with
                    | nil =>
                      rw [if_neg (by decide)]
                      exact (k H8 S6 g8 b8).1
                    | cons f0 fr' =>
                      rw [if_pos (show (!(List.map V.str (f0 :: fr')).isEmpty) = true from rfl)]
                      walk_at "rd"
                      refine ⟨β, _, S6, rfl, .inl ⟨D, _, rfl, hk6, by rw [List.length_map]; exact kp, by rw [List.length_map]; omega, g8.sub, b8, fun H9 S9 g9a b9 x hx => ?_⟩⟩
                      obtain ⟨n, hn, rfl⟩ := List.mem_map.mp hx
                      have g9 := g8.trans g9a
                      walk_at "rd"
                      refine ⟨β, _, S9, rfl, .inl ⟨D2, _, rfl, g9a.mono _ _ hf6, by rw [List.length_map]; exact Nat.succ_pos _, by rw [List.length_map]; omega, g9.sub, b9, fun H10 S10 g10a b10 x2 hx2 => ?_⟩⟩
                      obtain ⟨n2, hn2, rfl⟩ := List.mem_map.mp hx2
                      have g10 := g9.trans g10a
                      refine ⟨by walk_at "sz", fun l hl => ?_⟩
                      generalize e11 : upd H10 l (HO.tup [V.str (Str.ofString "rename"), V.str n, V.str n2]) = H11
                      have hc : CmdAt (upd S10 l (HO.tup [V.str (Str.ofString "rename"), V.str n, V.str n2])) (V.ref l) (.rnm n n2) := ⟨l, rfl, upd_same⟩
                      exact (k H11 _ (g10.ld e11 hl) (b10.ld e11 hl g10.sub)).2 _ _ hc ⟨hn, fm n2 hn2⟩
                · rw [if_neg (by rw [decide_eq_false (fun z => c4 (V.int.inj z))]; decide)]
                  exact (k H6 S6 g6 b6).1
end
end Lst

/-! ## LLib10 -/
namespace Lst
open PySem PySem.Spec PyProof.Rows L2
/-- a tree that the library takes -/
def TrL (al : Str) (t : Tr) : Prop := smT t ∧ trOk t ∧ (toks t).length ≤ 20 ∧ depth t ≤ 4 ∧ ∀ c ∈ lets t, c ∈ sg al
/-- a command that the library does -/
def CmdL (al : Str) (M : Mo) : Cmd → Prop
  | .put n t => nameOk n = true ∧ n.length ≤ 1000000 ∧ n ∉ mnames M ∧ M.length < 12 ∧ TrL al t ∧ ∀ x ∈ nms t, x ∈ mnames M
  | .chg n t => n ∈ mnames M ∧ TrL al t ∧ ∀ x ∈ nms t, x ∈ ahead M n
  | .drp n => n ∈ mnames M ∧ usersM M n = []
  | .rnm x y => x ∈ mnames M ∧ nameOk y = true ∧ y ∉ mnames M
def sp_Ldone (K : PySem.W.Frag) : Sp := fun vs H Q E => ∃ (al : Str) (a c : Addr) (cm : Cmd) (fp : List Addr) (b : Bool) (M : Mo) (Ps Us : List Mo) (S : Hp), vs = [.ref a, .ref c] ∧ LibI K al S H a fp b M Ps Us ∧ H c = some (.tup (cmdVs cm)) ∧ MSm M ∧ al.length ≤ 1000 ∧ Same S H ∧
  ((CmdL al M cm ∧ LStep K al a S H fp b (step M cm) Ps Us fun H' => Q .non H') ∨ ∃ n, cm = .drp n ∧ n ∉ mnames M ∧ nameOk n = true ∧ Thr K "UnknownName" (fU n) H E)
theorem LStep.of {K : PySem.W.Frag} {al : Str} {a : Addr} {S H S2 H2 : Hp} {fp : List Addr} {b' : Bool} {M' : Mo} {Ps' Us' : List Mo} {k : Hp → Prop} (h : LStep K al a S H fp b' M' Ps' Us' k) (g : Gr H S H2 S2) : LStep K al a S2 H2 fp b' M' Ps' Us' k :=
  fun H' S' fp' g' l m => h H' S' fp' (g.m.trans g') l fun x hx => (m x hx).imp id g.free
theorem Gm.stw {ms : Addr → Prop} {H S H1 S1 : Hp} {p : Addr} {o : HO} (g : Gm ms H S H1 S1) (n : ms p ∨ H p = none) (nS : S1 p = none) : Gm ms H S (upd H1 p o) S1 := n.elim (fun z => g.store z nS) fun z => g.write z nS
section
variable {P : Program} {w : World} {K : PySem.W.Frag} {mg : Str → Option Value} {base : Heap}
theorem ok_Ldone (T : Txt K mg) (G_is_name : OkG P w K mg base CX0 2 "is_name" P_is_name sp_is_name) (G_Library_checked : OkM P w K mg base CX0 12 "Library" "checked" P_Library_checked (sp_Lchecked K)) (G_Library_check_known : OkM P w K mg base (L2.CX P w) 4 "Library" "check_known" P_Library_check_known (sp_LknownX K))
    (G_Library_touched : OkM P w K mg base CX0 4 "Library" "touched" P_Library_touched (sp_Ltouched K)) (G_Library_users : OkM P w K mg base CX0 4 "Library" "users" P_Library_users (sp_Lusers K)) (G_Library_let_go : OkM P w K mg base CX0 1 "Library" "let_go" P_Library_let_go (sp_Lletgo K))
    (G_Library_moved : OkM P w K mg base CX0 7 "Library" "moved" P_Library_moved (sp_Lmoved K)) : OkM P w K mg base (L2.CX P w) 13 "Library" "done" P_Library_done (sp_Ldone K) := by
  refine (T.f_Library_done).ok sc_Library_done (fun vs H Q E h => ?_) (fun cdv A outer s H vs Q E hr h => ?_)
  · obtain ⟨al, a, c, cm, fp, b, M, Ps, Us, S, rfl, _⟩ := h
    rfl
  · obtain ⟨al, a, c, cm, fp, b, M, Ps, Us, S, rfl, hL, hc, sm, all, hS, hh⟩ := h
    obtain ⟨dx, d, k, p, u, ps, us, rfl, o⟩ := id hL
    have nml : ∀ m ∈ M, nameOk m.1 = true ∧ m.1.length ≤ 1000000 := fun m hm => ⟨(sm.tr m hm).1, (sm.tr m hm).2.1⟩
    have nmn : ∀ n ∈ mnames M, nameOk n = true ∧ n.length ≤ 1000000 := fun n hn => by
      obtain ⟨m, hm, rfl⟩ := mname_at hn
      exact nml m hm
    refine ⟨_, (pss_cons (ps_asg (pe_slice (sl_tupK (K := K) rfl) (pv 1) po_none (po_some pe_int)) (pg_tupK (K := K) (n := 2) rfl rfl (pgs_cons (pg_name (i := 2) sc_Library_done.nd rfl (Or.inl rfl)) (pgs_cons (pg_name (i := 3) sc_Library_done.nd rfl (Or.inl rfl)) pgs_nil))))
        (pss_cons (ps_if (pt_cmpR op_eq (pv 2) pe_str (nomark _)) (pss_cons (ps_if (pt_not (pt_val (pe_call G_is_name (hr.mono (by first | decide | omega)) (by rfl) (T.g "is_name") (T.k "is_name") T.b_is_name .nil pass0 (pa_cons (pv 3) pa_nil)))) (pss_one ps_never) pss_nil)
        (pss_cons (ps_if (pt_cmp (pc_din (hu_of hr) (pv 3) (fldK (K := K) rfl (pv 0) rfl))) (pss_one ps_never) pss_nil)
        (pss_cons (ps_if (pt_cmpR op_ge (pe_callB call_lenD (by rfl) T.f (by decide +kernel) (pa_cons (fldK (K := K) rfl (pv 0) rfl) pa_nil)) (fldK (K := K) rfl (pv 0) rfl) (nomark _)) (pss_one ps_never) pss_nil)
        (pss_cons (ps_dput (hu_of hr) (fldK (K := K) rfl (pv 0) rfl) (pv 3) (pe_meth (pv 0) (T.c "Library") (T.m "Library" "checked") G_Library_checked (hr.mono (by first | decide | omega)) T.b_Library_checked .nil pass0 (pa_cons (pe_ix (ix_tupK (K := K) rfl) (pv 1) pe_int (fun _ _ => rfl)) (pa_cons (pe_callTy (call_listD rfl) (by rfl) T.f (by decide +kernel) (pa_cons (fldK (K := K) rfl (pv 0) rfl) pa_nil)) pa_nil))) rfl)
        (pss_one (ps_retN)))))) pss_nil)
        (pss_cons (ps_expr (pe_meth (pv 0) (T.c "Library") (T.m "Library" "check_known") G_Library_check_known (hr.mono (by first | decide | omega)) T.b_Library_check_known .nil (passes_call (E := E) (takes_of rfl rfl rfl rfl) (fun _ _ _ _ h => h)) (pa_cons (pv 3) pa_nil)))
        (pss_cons (ps_if (pt_cmpR op_eq (pv 2) pe_str (nomark _)) (pss_cons (ps_set (i := 4) sc_Library_done.nd rfl (Or.inl rfl) (pe_callTy (call_listD rfl) (by rfl) T.f (by decide +kernel) (pa_cons (fldK (K := K) rfl (pv 0) rfl) pa_nil)))
        (pss_cons (ps_set (i := 5) sc_Library_done.nd rfl (Or.inl rfl) (pe_meth (pv 0) (T.c "Library") (T.m "Library" "checked") G_Library_checked (hr.mono (by first | decide | omega)) T.b_Library_checked .nil pass0 (pa_cons (pe_ix (ix_tupK (K := K) rfl) (pv 1) pe_int (fun _ _ => rfl)) (pa_cons (pe_slice (sl_listK (K := K) rfl) (pv 4) po_none (po_some (pe_bm PySem.F.plainAttrs_list PySem.F.slot_list_index PySem.F.type_list_index mt_index (pv 4) (pa_cons (pv 3) pa_nil)))) pa_nil))))
        (pss_cons (ps_expr (pe_meth (pv 0) (T.c "Library") (T.m "Library" "let_go") G_Library_let_go (hr.mono (by first | decide | omega)) T.b_Library_let_go .nil pass0 (pa_cons (pe_meth (pv 0) (T.c "Library") (T.m "Library" "touched") G_Library_touched (hr.mono (by first | decide | omega)) T.b_Library_touched .nil pass0 (pa_cons (pv 3) pa_nil)) pa_nil)))
        (pss_one (ps_dput (hu_of hr) (fldK (K := K) rfl (pv 0) rfl) (pv 3) (pv 5) rfl))))) pss_nil)
        (pss_cons (ps_if (pt_cmpR op_eq (pv 2) pe_str (nomark _)) (pss_cons (ps_if (pt_cmpR (neNilK (K := K) rfl hr.units) (pe_meth (pv 0) (T.c "Library") (T.m "Library" "users") G_Library_users (hr.mono (by first | decide | omega)) T.b_Library_users .nil pass0 (pa_cons (pv 3) pa_nil)) (pe_lst pa_nil) (nomark _)) (pss_one ps_never) pss_nil)
        (pss_cons (ps_expr (pe_meth (pv 0) (T.c "Library") (T.m "Library" "let_go") G_Library_let_go (hr.mono (by first | decide | omega)) T.b_Library_let_go .nil pass0 (pa_cons (pe_lst (pa_cons (pv 3) pa_nil)) pa_nil)))
        (pss_one (ps_ddel (fldK (K := K) rfl (pv 0) rfl) (pv 3))))) pss_nil)
        (pss_one (ps_if (pt_cmpR op_eq (pv 2) pe_str (nomark _)) (pss_one (ps_expr (pe_meth (pv 0) (T.c "Library") (T.m "Library" "moved") G_Library_moved (hr.mono (by first | decide | omega)) T.b_Library_moved .nil pass0 (pa_cons (pv 3) (pa_cons (pe_ix (ix_tupK (K := K) rfl) (pv 1) pe_int (fun _ _ => rfl)) pa_nil))))) pss_nil))))))), ?_⟩
    walk_at "rs"
    walk_at "rd"
    cases cm with
    | put n t =>
      refine rd_sl2 hc fun q H1 s1 hq1 => ?_
      have g1 : Gr H S H1 S := Gr.ofSame hS s1
      have o1 := o.gr g1
      have hc1 := g1.same _ _ hc
      refine ⟨q, _, rfl, sqt hq1, rfl, _, _, rfl, _, _, rfl, rfl, ?_⟩
      walk_at "rd"
      rcases hh with ⟨⟨nok, nl, hn, ml, ⟨t1, t2, t3, t4, t5⟩, t6⟩, kk⟩ | ⟨_, e, _⟩
      · refine ⟨nl, fun H2 s2 => ?_⟩
        rw [nok]
        walk_at "rd"
        have g2 := g1.trans (Gr.ofSame g1.sub s2)
        have o2 := o.gr g2
        have hc2 := g2.same _ _ hc
        obtain ⟨kvs, hd, hp⟩ := o2.di
        have kvl : kvs.length = M.length := hp.length
        refine ⟨_, _, _, _, _, rfl, o2.ob, T.c "Library", T.n "Library" "own_wishes", rfl, ?_⟩
        refine ⟨d, _, rfl, DGet.k (k := .inr n) hd, ?_⟩
        rw [dp_some hp n, decide_eq_false hn]
        walk_at "rd"
        refine ⟨_, _, _, _, _, rfl, o2.ob, T.c "Library", T.n "Library" "own_wishes", rfl, ?_⟩
        refine ⟨d, kvs, rfl, hd, ?_⟩
        walk_at "rd"
        refine ⟨_, _, _, _, _, rfl, o2.ob, T.c "Library", T.n "Library" "own_limit", rfl, ?_⟩
        walk_at "rd"
        rw [if_neg (by rw [decide_eq_false (by omega)]; decide)]
        walk_at "rd"
        refine ⟨a, dx, _, rfl, o2.ob, by rfl, ?_⟩
        walk_at "rd"
        walk_at "rs"
        walk_at "rd"
        refine rd_ixt hc2 (by rfl) ?_
        walk_at "rd"
        refine ⟨_, _, _, _, _, rfl, o2.ob, T.c "Library", T.n "Library" "own_wishes", rfl, ?_⟩
        refine ⟨d, kvs, rfl, .inl hd, fun e he => ?_⟩
        rw [dp_keys hp]
        generalize e3 : upd H2 e (HO.lst ((mnames M).map V.str)) = H3
        have g3 := g2.l0 e3 he
        refine ⟨al, a, e, t, mnames M, _, b, M, Ps, Us, S, rfl, ⟨dx, d, k, p, u, ps, us, rfl, o.gr g3⟩, new_at e3, ⟨t1, t2, t3, t4⟩, all, t5, t6, g3.sub, fun H4 S4 v g4 hv => ?_⟩
        have g5 := g3.trans g4
        have o4 := o.gr g5
        obtain ⟨kvs4, hd4, hp4⟩ := id o4.di
        have kvl4 : kvs4.length = M.length := hp4.length
        walk_at "rd"
        refine ⟨_, _, _, _, _, rfl, o4.ob, T.c "Library", T.n "Library" "own_wishes", rfl, ?_⟩
        walk_at "rd"
        refine ⟨d, _, rfl, DPut.k (k := .inr n) hd4 (szL (by omega)), ?_⟩
        exact kk _ S4 _ (g5.m.store (by simp) (o4.out d (by simp))) ⟨dx, d, k, p, u, ps, us, rfl, o4.wd (dp_new hp4 hn hv)⟩ fun x hx => .inl hx
      · cases e
    | chg n t =>
      rcases hh with ⟨⟨hn, ⟨t1, t2, t3, t4, t5⟩, t6⟩, kk⟩ | ⟨_, e, _⟩
      rotate_left
      · cases e
      refine rd_sl2 hc fun q H1 s1 hq1 => ?_
      have g1 : Gr H S H1 S := Gr.ofSame hS s1
      have o1 := o.gr g1
      have hc1 := g1.same _ _ hc
      refine ⟨q, _, rfl, sqt hq1, rfl, _, _, rfl, _, _, rfl, rfl, ?_⟩
      walk_at "rd"
      refine ⟨a, dx, _, rfl, o1.ob, by rfl, ?_⟩
      walk_at "rd"
      obtain ⟨nok, nl⟩ := nmn n hn
      refine ⟨al, a, n, _, b, M, Ps, Us, S, rfl, ⟨dx, d, k, p, u, ps, us, rfl, o1⟩, nok, nl, g1.sub, fun _ H2 s2 => ?_, fun z => absurd hn z⟩
      have g2 := g1.trans (Gr.ofSame g1.sub s2)
      have o2 := o.gr g2
      have hc2 := g2.same _ _ hc
      obtain ⟨kvs, hd, hp⟩ := id o2.di
      have kvl : kvs.length = M.length := hp.length
      have sml := sm.len
      walk_at "rd"
      refine ⟨_, _, _, _, _, rfl, o2.ob, T.c "Library", T.n "Library" "own_wishes", rfl, ?_⟩
      refine ⟨d, kvs, rfl, .inl hd, fun e he => ?_⟩
      rw [dp_keys hp]
      generalize e3 : upd H2 e (HO.lst ((mnames M).map V.str)) = H3
      have g3 := g2.l0 e3 he
      have o3 := o.gr g3
      have he3 := new_at e3
      walk_at "rd"
      refine ⟨a, dx, _, rfl, o3.ob, by rfl, ?_⟩
      walk_at "rd"
      refine rd_ixt (g3.same _ _ hc) (by rfl) ?_
      walk_at "rd"
      obtain ⟨j, j1, j2, j3⟩ := first_at hn
      refine ⟨.inl ⟨rfl, _, sql he3⟩, ?_⟩
      walk_at "rd"
      have ix : ∀ (i : Nat) (z' : V), i < j → ((mnames M).map V.str)[i]? = some z' → eqV z' (V.str n) = false := fun i z' hi hz => by
        rw [List.getElem?_map] at hz
        obtain ⟨y, hy, rfl⟩ := Option.map_eq_some_iff.mp hz
        show (y == n) = false
        have : y ≠ n := fun e => j2 i hi (by rw [hy, e])
        simpa using this
      refine ⟨e, _, _, j, _, rfl, rfl, sql he3, rfl, L2.flat_strs _, by rw [List.getElem?_map, j1]; rfl, (show eqV (V.str n) (V.str n) = true from beq_self_eq_true n), ix, ?_⟩
      walk_at "rd"
      refine ⟨e, _, rfl, sql he3, fun q2 hq2 => ?_⟩
      rw [cut_to, ← List.map_take]
      have ea : (mnames M).take j = ahead M n := j3
      rw [ea]
      generalize e4 : upd H3 q2 (HO.lst ((ahead M n).map V.str)) = H4
      have g4 := g3.l0 e4 hq2
      refine ⟨al, a, q2, t, ahead M n, _, b, M, Ps, Us, S, rfl, ⟨dx, d, k, p, u, ps, us, rfl, o.gr g4⟩, new_at e4, ⟨t1, t2, t3, t4⟩, all, t5, t6, g4.sub, fun H5 S5 v g5a hv => ?_⟩
      have g5 := g4.trans g5a
      walk_at "rd"
      refine ⟨a, dx, _, rfl, (o.gr g5).ob, by rfl, ?_⟩
      walk_at "rd"
      refine ⟨a, dx, _, rfl, (o.gr g5).ob, by rfl, ?_⟩
      walk_at "rd"
      refine ⟨al, a, n, _, b, M, Ps, Us, S5, rfl, ⟨dx, d, k, p, u, ps, us, rfl, o.gr g5⟩, hn, sm, g5.sub, fun H6 S6 p6 xs6 g6a hp6 => ?_⟩
      have g6 := g5.trans g6a
      refine ⟨al, a, _, _, b, M, Ps, Us, S6, rfl, ⟨dx, d, k, p, u, ps, us, rfl, o.gr g6⟩, g6.sub, fun H7 S7 fp7 g7 ⟨dx7, d7, k7, p7, u7, ps7, us7, e7, o7⟩ m7 => ?_⟩
      subst e7
      obtain ⟨kvs7, hd7, hp7⟩ := id o7.di
      have kvl7 : kvs7.length = M.length := hp7.length
      walk_at "rd"
      refine ⟨_, _, _, _, _, rfl, o7.ob, T.c "Library", T.n "Library" "own_wishes", rfl, ?_⟩
      walk_at "rd"
      refine ⟨d7, _, rfl, DPut.k (k := .inr n) hd7 (szL (by omega)), ?_⟩
      walk_at "rd"
      have m8 : ∀ x ∈ fpL a d7 k7 p7 u7 ps7 us7, x ∈ fpL a d k p u ps us ∨ H x = none := fun x hx => (m7 x hx).imp id g6.free
      exact kk _ S7 _ (((g6.m.trans g7).stw (m8 d7 (by simp)) (o7.out d7 (by simp)))) ⟨dx7, d7, k7, p7, u7, ps7, us7, rfl, o7.wd (dp_put hp7 hn (hv.mono ((g6a.mono).trans g7.mono)))⟩ m8
    | drp n =>
      rcases hh with ⟨⟨hn, hu⟩, kk⟩ | ⟨n', e, hn, nok, th⟩
      rotate_left
      · cases e
        refine rd_sl2 hc fun q H1 s1 hq1 => ?_
        have g1 : Gr H S H1 S := Gr.ofSame hS s1
        have o1 := o.gr g1
        have hc1 := g1.same _ _ hc
        refine ⟨q, _, rfl, sqt hq1, rfl, _, _, rfl, _, _, rfl, rfl, ?_⟩
        walk_at "rd"
        refine ⟨a, dx, _, rfl, o1.ob, by rfl, ?_⟩
        walk_at "rd"
        refine ⟨al, a, n, _, b, M, Ps, Us, S, rfl, ⟨dx, d, k, p, u, ps, us, rfl, o1⟩, nok, (by have := nameOk_len nok; omega), g1.sub, (fun z => absurd z hn), fun _ H2 dd s2 h2 => th H2 dd (s1.trans s2) h2⟩
      refine rd_sl2 hc fun q H1 s1 hq1 => ?_
      have g1 : Gr H S H1 S := Gr.ofSame hS s1
      have o1 := o.gr g1
      have hc1 := g1.same _ _ hc
      refine ⟨q, _, rfl, sqt hq1, rfl, _, _, rfl, _, _, rfl, rfl, ?_⟩
      walk_at "rd"
      refine ⟨a, dx, _, rfl, o1.ob, by rfl, ?_⟩
      walk_at "rd"
      obtain ⟨nok, nl⟩ := nmn n hn
      refine ⟨al, a, n, _, b, M, Ps, Us, S, rfl, ⟨dx, d, k, p, u, ps, us, rfl, o1⟩, nok, nl, g1.sub, fun _ H2 s2 => ?_, fun z => absurd hn z⟩
      have g2 := g1.trans (Gr.ofSame g1.sub s2)
      have o2 := o.gr g2
      have hc2 := g2.same _ _ hc
      obtain ⟨kvs, hd, hp⟩ := id o2.di
      have kvl : kvs.length = M.length := hp.length
      have sml := sm.len
      walk_at "rd"
      refine ⟨a, dx, _, rfl, o2.ob, by rfl, ?_⟩
      walk_at "rd"
      refine ⟨al, a, n, _, b, M, Ps, Us, S, rfl, ⟨dx, d, k, p, u, ps, us, rfl, o2⟩, hn, sm, g2.sub, fun H3 S3 p3 g3a hp3 => ?_⟩
      rw [hu] at hp3
      have g3 := g2.trans g3a
      refine ⟨by walk_at "sz", fun q2 hq2 => ?_⟩
      generalize e4 : upd H3 q2 (HO.lst []) = H4
      have g4 := g3.l0 e4 hq2
      refine rd_nil (g4.sub _ _ hp3) (new_at e4) ?_
      walk_at "rd"
      refine ⟨a, dx, _, rfl, (o.gr g4).ob, by rfl, ?_⟩
      walk_at "rd"
      refine ⟨by walk_at "sz", fun q3 hq3 => ?_⟩
      generalize e5 : upd H4 q3 (HO.lst [V.str n]) = H5
      have g5 := g4.l0 e5 hq3
      refine ⟨al, a, _, _, b, M, Ps, Us, S3, rfl, ⟨dx, d, k, p, u, ps, us, rfl, o.gr g5⟩, g5.sub, fun H7 S7 fp7 g7 ⟨dx7, d7, k7, p7, u7, ps7, us7, e7, o7⟩ m7 => ?_⟩
      subst e7
      obtain ⟨kvs7, hd7, hp7⟩ := id o7.di
      walk_at "rd"
      refine ⟨_, _, _, _, _, rfl, o7.ob, T.c "Library", T.n "Library" "own_wishes", rfl, ?_⟩
      walk_at "rd"
      have m8 : ∀ x ∈ fpL a d7 k7 p7 u7 ps7 us7, x ∈ fpL a d k p u ps us ∨ H x = none := fun x hx => (m7 x hx).imp id g5.free
      refine ⟨d7, _, .inr n, rfl, hd7, rfl, by rw [dp_some hp7 n, decide_eq_true hn], ?_⟩
      walk_at "rs"
      walk_at "rd"
      exact kk _ S7 _ (((g5.m.trans g7).stw (m8 d7 (by simp)) (o7.out d7 (by simp)))) ⟨dx7, d7, k7, p7, u7, ps7, us7, rfl, o7.wd (dp_drop hp7)⟩ m8
    | rnm x y =>
      rcases hh with ⟨⟨hn, yok, hy⟩, kk⟩ | ⟨_, e, _⟩
      rotate_left
      · cases e
      refine rd_sl2 hc fun q H1 s1 hq1 => ?_
      have g1 : Gr H S H1 S := Gr.ofSame hS s1
      have o1 := o.gr g1
      have hc1 := g1.same _ _ hc
      refine ⟨q, _, rfl, sqt hq1, rfl, _, _, rfl, _, _, rfl, rfl, ?_⟩
      walk_at "rd"
      refine ⟨a, dx, _, rfl, o1.ob, by rfl, ?_⟩
      walk_at "rd"
      obtain ⟨nok, nl⟩ := nmn x hn
      refine ⟨al, a, x, _, b, M, Ps, Us, S, rfl, ⟨dx, d, k, p, u, ps, us, rfl, o1⟩, nok, nl, g1.sub, fun _ H2 s2 => ?_, fun z => absurd hn z⟩
      have g2 := g1.trans (Gr.ofSame g1.sub s2)
      have o2 := o.gr g2
      have hc2 := g2.same _ _ hc
      obtain ⟨kvs, hd, hp⟩ := id o2.di
      have kvl : kvs.length = M.length := hp.length
      have sml := sm.len
      walk_at "rd"
      refine ⟨a, dx, _, rfl, o2.ob, by rfl, _, rfl, _, rfl, rd_ixt hc2 (by rfl) ?_⟩
      exact ⟨al, a, x, y, _, b, M, Ps, Us, S, rfl, ⟨dx, d, k, p, u, ps, us, rfl, o2⟩, nok, yok, hy, sm, g2.sub, kk.of g2⟩
end
end Lst

/-! ## LFin -/
namespace Lst
open PySem PySem.Spec PyProof.Rows L2
/-! ### try: body finally: suite, the body may raise -/
def tFinL (tb : WX → TS) (tf tfs : TS) (Wout : WX) : TS := fun D σ H => tb (wFin tfs Wout) { nx := fun σ1 H1 => tf D σ1 H1, rt := fun _ _ => False } σ H
section
variable {X : Cx} {body : List Stmt} {f₀ : Stmt} {fs : List Stmt} {pos : Pos} {tb : WX → TS} {tf tfs : TS} {Wout : WX}
theorem ps_finL (hs : X.stack = X.env :: X.outer) (hf : X.env.frame = some X.env.locals) (hex : X.ex = []) (tk : Takes X Wout)
    (hb : ∀ (W : WX) (pn : List (Addr × Obj)) (xe : Value → Shared → Prop), Takes (X.tr pn xe) W → PassesOwn (model X.prog X.w) X.A X.env xe → PSs (X.tr pn xe) body (tb W))
    (hfin : PSs X.nox (f₀ :: fs) tf) (hsu : ∀ (a : Addr) (pn : List (Addr × Obj)), PSs (X.suite a pn) (f₀ :: fs) tfs) : PS X (.Try body [] [] (f₀ :: fs) pos) (tFinL tb tf tfs Wout) := by
  refine ⟨fun pins s σ H D I h => ?_⟩
  have ok := I.ok
  refine wpAny_Try_finally ?_
  have tb1 := (hb (wFin tfs Wout) (X.pn ++ pins) (fun x s₁ => wpAny (model X.prog X.w) X.A (noteFrame x X.env) (fun _ s₂ => FinallyRaised X.prog X.w X.A X.xe X.env (f₀ :: fs) (SP X pins D) x s₂) (FinallyRaised X.prog X.w X.A X.xe X.env (f₀ :: fs) (SP X pins D)) s₁)
    (fun u s' xx => fin_exc hs hf hex ok tk hsu xx) PassesOwn.looking).run [] s σ H { nx := fun σ1 H1 => tf D σ1 H1, rt := fun _ _ => False } (I.toTry _) h
  refine wpAny_mono tb1 (fun g s1 z => ?_) (fun x s1 hx => hx)
  rcases g with _ | _ | _ | u
  · obtain ⟨σ1, H1, J1, q1⟩ := z
    refine wpAny_execs_nil (wpAny_mono (hfin.run pins s1 σ1 H1 D ((J1.ofTry ok).wish _) q1) (fun g2 s2 q2 => ?_) fun _ _ e => False.elim e)
    have q3 : SP X pins D g2 s2 := q2.unwish
    cases g2 <;> exact q3
  · obtain ⟨_, _, _, q⟩ := z
    exact False.elim q
  · obtain ⟨_, _, _, q⟩ := z
    exact False.elim q
  · obtain ⟨_, _, _, _, _, q⟩ := z
    exact False.elim q
end
/-- o.m(e, ..): what it raises is wished for at the slots as they stand -/
def tMethW (C : Addr) (m : Str) (sp : Sp) (E : L2.St → XK) (ta : TE) (t : TA) : TE := fun σ H Q => ta σ H fun x H1 => ∃ a dx fs, x = .ref a ∧ H1 a = some (.ins C dx fs) ∧ fs.lookup m = none ∧ t σ H1 fun vs H2 => sp (x :: vs) H2 Q (E σ)
theorem pe_methW {X : Cx} {CX : CXT} {k : Nat} {f C : Addr} {fd : FuncData} {ps : List Str} {sp : Sp} {E : L2.St → XK} {m : Str} {pos apos : Pos} {e o : Expr} {es : List Expr} {ta : TE} {t : TA} {pl : Sem Bool} (he : PE X o ta) (c : Cls X.K C) (hm : Meth X.K C m f)
    (F : FnOk X.prog X.w X.K X.mg X.base CX k f fd ps sp) (hr : Room k X.A) (hb : Binds X.K fd ps []) (hx : ∀ σ, PassesAt CX X σ (E σ)) (ha : PA X (e :: es) t)
    (hst : starEach (e :: es) X.env = (false, eval e X.env) :: starEach es X.env := by rfl) (hpl : (backTo pos (starEach es X.env)).any (·.1) = false := by rfl)
    (ht : eval (.Call (.Attribute o m apos) (e :: es) [] pos) X.env = (do
      let ov ← eval o X.env
      standAt apos.atName
      let (f, first) ← holding [ov] (getMethod ov m pl)
      callWith pos f first (backTo pos (starEach (e :: es) X.env)) (backToKw pos (keywordEach [] X.env))) := by rfl) :
    PE X (.Call (.Attribute o m apos) (e :: es) [] pos) (tMethW C m sp E ta t) := by
  refine ⟨fun pins s σ H Q I h => ?_⟩
  refine PySem.W.methodCall_KW (pl := pl) (thn (he.run pins s σ H _ I h) fun u s1 ⟨x, H1, I1, rx, a, dx, fs, ex, ea, l, q⟩ => ?_) ht
  subst ex
  obtain rfl : u = Value.ref a := rx
  refine getmeth_ok I1 ea c hm l (PySem.W.callWith_K (first := [.ref a]) (h₀ := X.base) I.ok.mod.kin hm.kp (thn (ha.run pos pins s1 σ H1 _ I1 q) fun us s2 ⟨vs, H2, I2, r, q2⟩ => ⟨I2.kIn, ?_⟩) hst hpl)
  exact run_fnS (us := .ref a :: us) (vs := .ref a :: vs) F hr hb (hx σ) I2 (.cons rfl r) q2
end Lst

/-! ## LCom -/
namespace Lst
open PySem PySem.Spec PyProof.Rows L2
/-- a tuple == () -/
def rEqNilT (K : PySem.W.Frag) : R2 := fun x y H Q => ∃ (a b : Addr) (xs : List V), x = .ref a ∧ y = .ref b ∧ SqT K H a xs ∧ SqT K H b [] ∧ Q (.bl xs.isEmpty) H
theorem op_eqNilT {X : Cx} {K : PySem.W.Frag} (hK : X.K = K) (hu : X.A.units + 64 < cLine) : OpR X (compareOp .Eq) (rEqNilT K) := by
  subst hK
  intro pins s σ H x y v u Q I rx ry h
  obtain ⟨a, b, xs, rfl, rfl, ha, hb, q⟩ := h
  cases rx
  cases ry
  obtain ⟨its, rv, la, _⟩ := I.tuple ha
  obtain ⟨its2, rv2, lb, _⟩ := I.tuple hb
  cases rv2
  have hu2 : X.A.units < cLine := by omega
  cases rv with
  | nil => exact SeqAt.RcAt.tuples (e := fun _ => true) la lb hu2 (fun j h1 _ => absurd h1 (Nat.not_lt_zero j)) X.prog X.w _ _ ⟨.bl true, H, I, rfl, q⟩
  | cons r t => exact SeqAt.RcAt.tuples (e := fun _ => true) la lb hu2 (fun j _ h2 => absurd h2 (Nat.not_lt_zero j)) X.prog X.w _ _ ⟨.bl false, H, I, rfl, q⟩
/-- the written dict of sizes -/
structure Txt4 (K : PySem.W.Frag) (w : World) (mg : Str → Option Value) : Prop where
  vSIZES : mg "SIZES" = some (.ref (He.ga K "SIZES"))
  kd : ∃ es n, KDict K w (He.ga K "SIZES") es n
  at3 : ∀ x ∈ (["put", "change", "rename"] : List Str), ∃ t, PySem.W.nsIn K (He.ga K "SIZES") x = some (some (.int 3 t))
  at2 : ∃ t, PySem.W.nsIn K (He.ga K "SIZES") "drop" = some (some (.int 2 t))
def sp_iscmd : Sp := fun vs H Q _ => ∃ (c : Addr) (cm : Cmd), vs = [.ref c] ∧ H c = some (.tup (cmdVs cm)) ∧ ∀ H', Same H H' → Q (.bl true) H'
section
variable {P : Program} {w : World} {K : PySem.W.Frag} {mg : Str → Option Value} {base : Heap}
theorem ok_iscmd (T : Txt K mg) (T4 : Txt4 K w mg) : OkG P w K mg base CX0 1 "is_command" P_is_command sp_iscmd := by
  refine (T.f_is_command).ok sc_is_command (fun vs H Q E h => ?_) (fun cdv A outer s H vs Q E hr h => ?_)
  · obtain ⟨c, cm, rfl, _⟩ := h
    rfl
  · obtain ⟨c, cm, rfl, hc, k⟩ := h
    obtain ⟨es, nn, kd⟩ := T4.kd
    have sh : ∃ z n r, cmdVs cm = .str z :: .str n :: r ∧ ∃ t, PySem.W.nsIn K (He.ga K "SIZES") z = some (some (.int (cmdVs cm).length t)) := by
      cases cm with
      | put n t => exact ⟨_, _, _, rfl, T4.at3 "put" (by decide +kernel)⟩
      | chg n t => exact ⟨_, _, _, rfl, T4.at3 "change" (by decide +kernel)⟩
      | drp n => exact ⟨_, _, _, rfl, T4.at2⟩
      | rnm x y => exact ⟨_, _, _, rfl, T4.at3 "rename" (by decide +kernel)⟩
    obtain ⟨z, n, r, ex, t, hz⟩ := sh
    rw [ex] at hc hz
    clear ex
    refine ⟨_, PSs.nox (pss_cons (ps_if (PW.pt (pw_or (pt_not (pt_val (pe_callB (isiK (K := K) rfl) (by rfl) T.f (by decide +kernel) (pa_cons (pv 0) (pa_cons (pe_bltn (v := .ty "tuple") (by rfl) T.f (by decide +kernel) rfl) pa_nil))))) (pw_or (pt_cmpR (op_eqNilT (K := K) rfl hr.units) (pv 0) (pe_tup pa_nil) (nomark _)) (pw_or1 (pt_not (pt_val (pe_callB (isiK (K := K) rfl) (by rfl) T.f (by decide +kernel) (pa_cons (pe_ix (ix_tupK (K := K) rfl) (pv 0) pe_int (fun _ _ => rfl)) (pa_cons (pe_bltn (v := .ty "str") (by rfl) T.f (by decide +kernel) rfl) pa_nil))))))))) (pss_one (ps_ret pe_bl)) pss_nil)
        (pss_one (ps_ret (pe_and (pe_cmpR (op_in_kd kd) (pe_ix (ix_tupK (K := K) rfl) (pv 0) pe_int (fun _ _ => rfl)) (pe_glob (v := .ref (He.ga K "SIZES")) (by rfl) T4.vSIZES rfl) (by rfl)) (pe_one (pe_cmpR op_eq (pe_callB (lenK (K := K) rfl) (by rfl) T.f (by decide +kernel) (pa_cons (pv 0) pa_nil)) (pe_ix ix_kdict (pe_glob (v := .ref (He.ga K "SIZES")) (by rfl) T4.vSIZES rfl) (pe_ix (ix_tupK (K := K) rfl) (pv 0) pe_int (fun _ _ => rfl)) (fun _ _ => rfl)) (nomark _))))))), ?_⟩
    walk_at "rs"
    walk_at "rd"
    refine ⟨_, _, _, _, true, rfl, .ty _, .base (.tup hc), kit_ty (by decide +kernel), ?_⟩
    walk_at "rd"
    refine ⟨by walk_at "sz", fun p hp => ?_⟩
    generalize e1 : upd H p (HO.tup []) = H1
    have g1 : Same H H1 := fun b o h => old_at e1 hp h
    have hc1 := g1 _ _ hc
    refine ⟨c, p, _, rfl, rfl, sqt hc1, sqt (new_at e1), ?_⟩
    walk_at "rd"
    refine rd_ixt hc1 (at_0 ..) ?_
    refine isi_str ?_
    walk_at "rd"
    refine rd_ixt hc1 (at_0 ..) ?_
    refine ⟨z, _, rfl, rfl, hz, ?_⟩
    walk_at "rd"
    refine ⟨c, _, rfl, .inr (sqt hc1), ?_⟩
    walk_at "rd"
    refine rd_ixt hc1 (at_0 ..) ?_
    refine ⟨_, z, .int (V.str z :: V.str n :: r).length, rfl, rfl, ⟨es, nn, _, kd.at_, kd.lit, hz, ⟨t, rfl⟩⟩, ?_⟩
    refine ⟨rfl, ?_⟩
    rw [decide_eq_true rfl]
    exact k _ g1
end
end Lst

/-! ## LEnum -/
namespace PySem
namespace LEN
open PySem.Calls
set_option maxHeartbeats 1000000 in
theorem meets_enum1 {v : Value} {o : Obj} {H : Heap → Prop} (B : Begins v o H) :
    Meets (Builtin.«enumerate.__new__» ⟨[.type "enumerate", v], []⟩) (fun _ R s => H s.heap ∧
      R (.ok (.ret (.ref (s.heap.push o).objs.size))) { s with heap := (s.heap.push o).push { cls := .type "enumerate", data := .fields #[.none, .bool false, .ref s.heap.objs.size, rawInt 0, .none, .none] } }) :=
  .of_wp fun prog w A R s h => by
    obtain ⟨hp, g, d, tk, os⟩ := s
    obtain ⟨h1, h⟩ := h
    have hsub := sub_enumerate
    have q1 : ∀ {A' : Around} {E : Value → Shared → Prop} {Q : Value → Shared → Prop}, Q (.ref hp.objs.size) ⟨hp.push o, g, d, tk, os⟩ → wpAny (model prog w) A' (pyIter v) Q E ⟨hp, g, d, tk, os⟩ :=
      fun q => B.iter prog w _ _ ⟨hp, g, d, tk, os⟩ _ h1 q
    wp_walk using q1
    refine wpAny_stack_any fun st => wpAny_pure ?_
    split
    · rename_i c _ _ _ _ _
      cases (c == Value.type "enumerate")
      · wp_walk using q1
        exact ⟨_, rfl, h⟩
      · wp_walk using q1
        exact ⟨_, rfl, h⟩
    · wp_walk using q1
      exact ⟨_, rfl, h⟩
theorem enum1 {prog : Program} {w : World} {A : Around} {E : Value → Shared → Prop} {s : Shared} {v : Value} {o : Obj} {H : Heap → Prop} {Q : Value → Shared → Prop} (B : Begins v o H) (h1 : H s.heap)
    (h : ∀ h', IsEnum h' (s.heap.objs.size + 1) s.heap.objs.size 0 .none → h'.get? s.heap.objs.size = some o → h'.objs.size = s.heap.objs.size + 2 →
      (∀ b o, s.heap.get? b = some o → h'.get? b = some o) → Q (.ref (s.heap.objs.size + 1)) { s with heap := h' }) :
    wpAny (model prog w) A (call (.type "enumerate") [v]) Q E s := by
  refine callType_new F.called_enumerate (by decide) (F.typeCall_enumerate_1 _) (F.newCall_enumerate_1 _) (fun obj => F.args_object_init_2 obj _) F.entry_enumerate_new (meets_enum1 B) ⟨h1, ?_⟩
  have hz : (s.heap.push o).objs.size = s.heap.objs.size + 1 := Heap.size_push ..
  show _ ∧ _
  rw [hz]
  have he : IsEnum ((s.heap.push o).push { cls := .type "enumerate", data := .fields #[.none, .bool false, .ref s.heap.objs.size, rawInt 0, .none, .none] }) (s.heap.objs.size + 1) s.heap.objs.size 0 .none := by
    have := Heap.get?_push_size (s.heap.push o) (o := { cls := .type "enumerate", data := .fields #[.none, .bool false, .ref s.heap.objs.size, rawInt 0, .none, .none] }) rfl
    rw [hz] at this
    exact this
  exact ⟨⟨_, he, rfl⟩, h _ he (Heap.get?_push_of_some _ (Heap.get?_push_size _ B.free)) (by rw [Heap.size_push, hz]) fun b o x => Heap.get?_push_of_some _ (Heap.get?_push_of_some _ x)⟩
end LEN
end PySem
namespace Lst
open PySem PySem.Spec PyProof.Rows L2
/-- the tuple at a, each item in a new pair -/
def Itet (a : Addr) (xs : List V) : It :=
  ⟨fun i H => H a = some (.tup xs) ∧ i < xs.length, fun i H v H' => ∃ T x, v = .ref T ∧ H T = none ∧ H' = upd H T (.tup [.int (i : Nat), x]) ∧ xs[i]? = some x, fun i H => H a = some (.tup xs) ∧ i = xs.length⟩
theorem turn_enumT {P : Program} {w : World} {K : PySem.W.Frag} {elts : List Expr} {kk : Nat} {tpos : Pos} {xs : List V} (a e it : Addr) (hat : a ≠ it) (hae : e ≠ a) :
    Turn P w K (.Tuple elts kk tpos) (Itet a xs) [e, it] e (fun i h => (∃ old, IsEnum h e it ((i : Nat) : Int) old) ∧ h.IsTupleIter it a i ∧ e ≠ it) where
  mem := by simp
  obj := fun i h st b hb => by
    obtain ⟨⟨old, he⟩, hi, _⟩ := st
    have e' : b = e ∨ b = it := by simpa using hb
    rcases e' with z | z
    · rw [z]; exact ⟨_, he, fun v q => nomatch q⟩
    · obtain ⟨o, ho, hc, hd⟩ := hi
      rw [z]; exact ⟨o, ho, fun v q => by rw [hd] at q; cases q⟩
  keep := fun i h h' st k => let ⟨⟨old, he⟩, hi, hne⟩ := st; ⟨⟨old, k e (by simp) _ he⟩, hi.at fun o q => k it (by simp) o q, hne⟩
  item := by
    intro X hP hw hK hc i pins s σ H E I hf st hg
    subst hP hw hK
    obtain ⟨⟨old, he⟩, hit, hne⟩ := st
    obtain ⟨hq, hi⟩ := hg
    obtain ⟨its, rv, p, hz⟩ := I.tuple (sqt hq)
    have hl := rv.length
    have hel : e < s.heap.objs.size := Heap.lt_size he
    have hil : it < s.heap.objs.size := by obtain ⟨_, q, _⟩ := hit; exact Heap.lt_size q
    have D : Draws X.prog X.w X.A.in1 it [it, a] its.toArray.size (fun i v => its.toArray[i]? = some v) (fun i h => h.IsTupleIter it a i ∧ h.IsTuple a its.toArray) := Draws.tuple (A := X.A.in1) (I.ok.hd hc) it a hat its.toArray
    refine wpAny_pyNext_enum_itemD D he ⟨hit, p⟩ (by rw [List.size_toArray]; omega) hne (by simp [hne, hae]) fun x h' tk hx ho hst hT hsz hk => ?_
    have hxs : ∃ y, xs[i]? = some y := ⟨xs[i], List.getElem?_eq_getElem hi⟩
    obtain ⟨y, hy⟩ := hxs
    obtain ⟨u, hu, ru⟩ := rv.get hy
    have hux : u = x := by
      have hx' : its[i]? = some x := by simpa using hx
      rw [hu] at hx'
      exact Option.some.inj hx'
    subst hux
    refine ⟨_, rfl, wpAny_letOwnedTupleGo_enum (s := { s with heap := h', toks := tk + 1 }) ho fun h'' he' sb => ?_⟩
    have hT2 : h''.get? s.heap.objs.size = some { cls := .type "tuple", data := .seq #[.int i tk, u] } := (sb.2 _ (Nat.ne_of_gt hel)).trans hT
    have new : ObjOk X.prog X.w (upd H s.heap.objs.size (.tup [.int (i : Nat), y])) h'' s.heap.objs.size (.tup [.int (i : Nat), y]) :=
      ⟨by show 2 ≤ sizeLine; decide, [.int i tk, u], .cons ⟨_, rfl⟩ (.cons ru .nil), ⟨_, hT2, rfl, _, rfl⟩⟩
    have I1 : Inv X pins σ (upd H s.heap.objs.size (.tup [.int (i : Nat), y])) { s with heap := h'', toks := tk + 1 } :=
      I.turnedNew (ch := [e, it]) (fun b ob hb q => (sb.2 b (fun z => hb (by simp [z]))).trans (hk b ob (fun z => hb (by simp [z])) (fun z => hb (by simp [z])) q)) hf (Nat.le_refl _) new
    refine ⟨.ref s.heap.objs.size, _, I1, rfl, ⟨_, y, rfl, I.hok.fresh (Nat.le_refl _), rfl, hy⟩, ⟨⟨u, ?_⟩, hst.1.at fun o q => (sb.2 it (Ne.symm hne)).trans q, hne⟩, fun b hb => ?_⟩
    · have e1 : ((i + 1 : Nat) : Int) = (i : Int) + 1 := by omega
      rw [e1]; exact he'
    · have hb' : b < s.heap.objs.size := by
        have e' : b = e ∨ b = it := by simpa using hb
        rcases e' with z | z
        · rw [z]; exact hel
        · rw [z]; exact hil
      rw [upd_ne (Nat.ne_of_lt hb')]
      exact (hf b hb).1
  done := by
    intro X hP hw hK hc i pins s σ H E I hf st hg
    subst hP hw hK
    obtain ⟨⟨old, he⟩, hit, hne⟩ := st
    obtain ⟨hq, rfl⟩ := hg
    obtain ⟨its, rv, p, hz⟩ := I.tuple (sqt hq)
    obtain ⟨f0, f1, f2, f3, f4, f5⟩ := hf it (by simp)
    have hl := rv.length
    have D : Draws X.prog X.w X.A.in1 it [it, a] its.toArray.size (fun i v => its.toArray[i]? = some v) (fun i h => h.IsTupleIter it a i ∧ h.IsTuple a its.toArray) := Draws.tuple (A := X.A.in1) (I.ok.hd hc) it a hat its.toArray
    refine wpAny_pyNext_enum_endD D he ⟨?_, p⟩ fun h' eb => ⟨rfl, I.turned (t' := s.toks) (fun b o hb q => eb b o hb q) f0 f1 f3 f4 f5⟩
    rw [List.size_toArray, ← hl]
    exact hit
  self := fun A i s Q E st h => let ⟨⟨_, he⟩, _⟩ := st; wpAny_pyIter_enum he h
theorem walk_enumT {a : Addr} {xs : List V} : Walk (Itet a xs) xs.length (fun H => H a = some (.tup xs)) (YPair (fun i => some (.int (i : Nat))) (fun i => xs[i]?)) :=
  ⟨fun i _ hi q => ⟨q, hi⟩, fun _ q => ⟨q, rfl⟩, fun i H v H' _ q y => by
    obtain ⟨T, x, h1, h2, h3, h4⟩ := y
    exact ⟨T, .int (i : Nat), x, h1, h2, h3, rfl, h4⟩⟩
def iEnumT (ta : TA) : TI := fun σ H R => ta σ H fun vs H1 => ∃ a xs, vs = [.ref a] ∧ H1 a = some (.tup xs) ∧ R (Itet a xs) H1
theorem pi_enumT {X : Cx} {e : Expr} {ta : TA} {p pos tpos : Pos} {elts : List Expr} {kk : Nat} (hg : Gl X "enumerate") (hm : X.mg "enumerate" = none) (ha : PA X [e] ta) (hs : starEach [e] X.env = [(false, eval e X.env)] := by rfl) :
    PI X (.Tuple elts kk tpos) (.Call (.Name "enumerate" p) [e] [] pos) (iEnumT ta) := by
  refine ⟨fun pins s σ H R I h => ?_⟩
  refine Call_ (ld_blt I hg hm boot_enumerate (PyProof.Rows.callWith_type1 (thn (ha.run pos pins s σ H _ I h) fun us s1 ⟨vs, H1, I1, r1, q1⟩ => ?_) hs rfl))
  obtain ⟨a, xs, ex, hq, q⟩ := q1
  subst ex
  cases r1 with
  | cons r rr =>
    cases rr
    cases r
    obtain ⟨its, rv, p', hz⟩ := I1.tuple (sqt hq)
    have hal : a < s1.heap.objs.size := by
      obtain ⟨o, ho, _⟩ := id p'
      exact Heap.lt_size ho
    refine PySem.LEN.enum1 (begins_tuple a its.toArray) p' fun h' he hit hsz hk => wpAny_pyIter_enum he ?_
    have I2 : Inv X pins σ H1 { s1 with heap := h' } := I1.kept (t' := s1.toks) hk
    refine ⟨s1.heap.objs.size + 1, [s1.heap.objs.size + 1, s1.heap.objs.size], _, _, H1, rfl, I2, turn_enumT a (s1.heap.objs.size + 1) s1.heap.objs.size (Nat.ne_of_lt hal) (Nat.ne_of_gt (Nat.lt_succ_of_lt hal)), ⟨⟨.none, he⟩, ⟨_, hit, rfl, rfl⟩, Nat.succ_ne_self _⟩, fun b hb => ?_, q⟩
    have e' : b = s1.heap.objs.size + 1 ∨ b = s1.heap.objs.size := by simpa using hb
    have hle : s1.heap.objs.size ≤ b := by
      rcases e' with z | z
      · rw [z]; exact Nat.le_add_right _ _
      · rw [z]; exact Nat.le_refl _
    exact I1.fpOk hle (I1.hok.fresh hle)
end Lst

/-! ## LApp -/
namespace Lst
open PySem PySem.Spec PyProof.Rows L2
/-- commands that are done one after the other -/
def ChainL (al : Str) : Mo → List Cmd → Prop
  | _, [] => True
  | M, c :: r => MSm M ∧ CmdL al M c ∧ ChainL al (step M c) r
theorem chain_at {al : Str} : ∀ {cms : List Cmd} {M : Mo} {i : Nat} {c : Cmd}, ChainL al M cms → cms[i]? = some c → MSm ((cms.take i).foldl step M) ∧ CmdL al ((cms.take i).foldl step M) c ∧ (cms.take (i + 1)).foldl step M = step ((cms.take i).foldl step M) c
  | [], M, i, c, _, h => by simp at h
  | d :: r, M, 0, c, ⟨h1, h2, _⟩, h => by
    have e : d = c := Option.some.inj h
    subst e
    exact ⟨h1, h2, rfl⟩
  | d :: r, M, i + 1, c, ⟨_, _, h3⟩, h => chain_at (cms := r) h3 h
theorem pair_mem {α β : Type} {R : α → β → Prop} {xs : List α} {ys : List β} (h : Paired R xs ys) : ∀ x ∈ xs, ∃ y, R x y := by
  induction h with
  | nil => exact fun x hx => nomatch hx
  | cons a b ih =>
    intro x hx
    rcases List.mem_cons.mp hx with e | e
    · rw [e]
      exact ⟨_, a⟩
    · exact ih x e
/-- what is no list, dict or instance is not the library's -/
theorem LibO.notup {K : PySem.W.Frag} {al : Str} {S H : Hp} {a dx d k p u : Addr} {ps us : List Addr} {b : Bool} {M : Mo} {Ps Us : List Mo} (o : LibO K al S H a dx d k p u ps us b M Ps Us) {x : Addr} {xs : List V} (h : H x = some (.tup xs)) : x ∉ fpL a d k p u ps us := by
  intro hx
  simp only [List.mem_cons, List.mem_append] at hx
  have dct : ∀ y m, DctAt K S H y m → x ≠ y := fun y m ⟨kv, hy, _⟩ e => by
    rw [← e, h] at hy
    cases hy
  rcases hx with e | e | e | e | e | e | e
  · have q := o.ob
    rw [← e, h] at q
    cases q
  · exact dct _ _ o.di e
  · have q := o.kp
    rw [← e, h] at q
    cases q
  · have q := o.pa
    rw [← e, h] at q
    cases q
  · have q := o.un
    rw [← e, h] at q
    cases q
  · obtain ⟨m, hm⟩ := pair_mem o.ds x e
    exact dct _ _ hm rfl
  · obtain ⟨m, hm⟩ := pair_mem o.es x e
    exact dct _ _ hm rfl
def sp_Lapply (K : PySem.W.Frag) : Sp := fun vs H Q E => ∃ (al : Str) (a p : Addr) (cs : List Addr) (cms : List Cmd) (fp : List Addr) (M : Mo) (Ps Us : List Mo) (S : Hp), vs = [.ref a, .ref p] ∧ LibI K al S H a fp false M Ps Us ∧ H p = some (.tup (cs.map V.ref)) ∧
  Paired (fun c cm => H c = some (.tup (cmdVs cm))) cs cms ∧ al.length ≤ 1000 ∧ Ps.length ≤ 1000 ∧ Us.length ≤ 1000 ∧ M.length ≤ 1000 ∧ Same S H ∧
  ((ChainL al M cms ∧ LStep K al a S H fp false (cms.foldl step M) (Ps ++ [M]) [] fun H' => Q .non H') ∨
    ∃ good n, cms = good ++ [.drp n] ∧ ChainL al M good ∧ MSm (good.foldl step M) ∧ n ∉ mnames (good.foldl step M) ∧ nameOk n = true ∧
      ∀ (H' S' : Hp) (fp' : List Addr) (d : Addr), Gm (fun x => x ∈ fp) H S H' S' → LibI K al S' H' a fp' false M Ps Us → (∀ x ∈ fp', x ∈ fp ∨ H x = none) → H' d = some (.xd (fU n)) → E (.ref (He.ga K "UnknownName")) (some d) H')
section
variable {P : Program} {w : World} {K : PySem.W.Frag} {mg : Str → Option Value} {base : Heap}
theorem ok_Lapply (T : Txt K mg) (G_is_command : OkG P w K mg base CX0 1 "is_command" P_is_command sp_iscmd) (G_Library_done : OkM P w K mg base (L2.CX P w) 13 "Library" "done" P_Library_done (sp_Ldone K)) :
    FnR P w K mg base (L2.CX P w) 14 (He.ma K (He.ga K "Library") "apply") (fun vs H Q E => ∃ ws rest, vs = ws ++ rest ∧ ws.length = 1 ∧ rest.length ≤ sizeLine ∧ ∀ p, H p = Option.none → sp_Lapply K (ws ++ [V.ref p]) (upd H p (.tup rest)) Q E) := by
  obtain ⟨oc, od, dV, kV, doc, pm, an, cdv, ct, osl, efd, lk, hcd, hD, _⟩ := (T.f_Library_apply).ex
  obtain rfl : dV = .none := hD.elim (fun z => z.2) fun z => absurd rfl z.1
  rw [efd] at lk
  refine StX.fn_star (pv := "commands") (ps := ["self"]) (N := N_Library_apply) lk hcd sc_Library_apply StX.cxUp (fun us rest hl => ?_) (fun A outer s H vs Q E hr h => ?_)
  · match us, hl with
    | [u], _ =>
      cases rest with
      | nil => rfl
      | cons x r => rfl
  · obtain ⟨al, a, p, cs, cms, fp, M, Ps, Us, S, rfl, hL, hp, hcs, all, pl, ul, ml, hS, hh⟩ := h
    refine ⟨_, (pss_cons (ps_par (i := 2) (j := 3) (by rfl) sc_Library_apply.nd rfl rfl (by decide) rfl rfl (pa_cons (pe_callTy call_dictD (by rfl) T.f (by decide +kernel) (pa_cons (fldK (K := K) rfl (pv 0) rfl) pa_nil)) (pa_cons (pe_callTy call_dictD (by rfl) T.f (by decide +kernel) (pa_cons (fldK (K := K) rfl (pv 0) rfl) pa_nil)) pa_nil)) (by rfl))
        (pss_cons (ps_set (i := 4) sc_Library_apply.nd rfl (Or.inl rfl) pe_non)
        (pss_cons (ps_fldK (K := K) rfl (pv 0) pe_bl rfl)
        (pss_cons (ps_finL rfl rfl rfl (takes_of rfl rfl rfl rfl) (fun W pn xe tk hp => (pss_cons (ps_for hp rfl (pi_enumT (by rfl) T.f (pa_cons (pv 1) pa_nil)) (pg_tupK (K := K) (n := 2) rfl rfl (pgs_cons (pg_name (i := 5) sc_Library_apply.nd rfl (Or.inl rfl)) (pgs_cons (pg_name (i := 6) sc_Library_apply.nd rfl (Or.inl rfl)) pgs_nil))) (pss_cons (ps_if (pt_not (pt_val (pe_call G_is_command (hr.mono (by first | decide | omega)) (by rfl) (T.g "is_command") (T.k "is_command") T.b_is_command .nil pass0 (pa_cons (pv 6) pa_nil)))) (pss_one ps_never) pss_nil)
        (pss_one (ps_expr (pe_methW (pv 0) (T.c "Library") (T.m "Library" "done") G_Library_done (hr.mono (by first | decide | omega)) T.b_Library_done (fun σ => passAt tk σ) (pa_cons (pv 6) pa_nil))))))
        (pss_one (ps_set (i := 4) sc_Library_apply.nd rfl (Or.inl rfl) (pv 1))))) (pss_cons (ps_fldK (K := K) rfl (pv 0) pe_bl rfl)
        (pss_one (ps_if (pt_cmpR op_isN (pv 4) pe_non (nomark _)) (pss_cons (ps_fldK (K := K) rfl (pv 0) (pv 2) rfl)
        (pss_one (ps_fldK (K := K) rfl (pv 0) (pv 3) rfl))) pss_nil))) (fun a pn => (pss_cons (ps_fldK (K := K) rfl (pv 0) pe_bl rfl)
        (pss_one (ps_if (pt_cmpR op_isN (pv 4) pe_non (nomark _)) (pss_cons (ps_fldK (K := K) rfl (pv 0) (pv 2) rfl)
        (pss_one (ps_fldK (K := K) rfl (pv 0) (pv 3) rfl))) pss_nil)))))
        (pss_cons (ps_expr (pe_bm PySem.F.plainAttrs_list PySem.F.slot_list_append PySem.F.type_list_append mt_append (fldK (K := K) rfl (pv 0) rfl) (pa_cons (pv 2) pa_nil)))
        (pss_one (ps_fldK (K := K) rfl (pv 0) (pe_lst pa_nil) rfl))))))), ?_⟩
    walk_at "rs"
    walk_at "rd"
    obtain ⟨dx, d, k, p1, u, ps, us, rfl, o⟩ := id hL
    obtain ⟨kvs, hd, hpr⟩ := id o.di
    refine ⟨_, _, _, _, _, rfl, o.ob, T.c "Library", T.n "Library" "own_wishes", rfl, ?_⟩
    refine ⟨d, kvs, rfl, .inl hd, fun B hB => ?_⟩
    generalize e1 : upd H B (HO.dK kvs) = H1
    have g1 : Gr H S H1 S := (Gm.rfl' hS).l0 e1 hB
    have o1 := o.gr g1
    have hB1 := new_at e1
    have nBf : B ∉ fpL a d k p1 u ps us := o.new hB
    have nSB : S B = none := Same.free hS hB
    walk_at "rd"
    refine ⟨_, _, _, _, _, rfl, o1.ob, T.c "Library", T.n "Library" "own_kept", rfl, ?_⟩
    refine ⟨k, [], rfl, .inl o1.kp, fun Kc hKc => ?_⟩
    generalize e2 : upd H1 Kc (HO.dK []) = H2
    have g2 := g1.l0 e2 hKc
    have hKH : H Kc = none := g1.free hKc
    have nKf : Kc ∉ fpL a d k p1 u ps us := o.new hKH
    have nSK : S Kc = none := Same.free hS hKH
    have hB2 := old_at e2 hKc hB1
    have hK2 := new_at e2
    have o2 := o.gr g2
    have nBK : B ≠ Kc := ne_of_none hB1 hKc
    walk_at "rd"
    refine ⟨a, _, dx, _, rfl, o2.ob, T.c "Library", T.n "Library" "own_busy", (by show 8 < 1000; decide), ?_⟩
    rw [putF_busy]
    generalize e3 : upd H2 a (HO.ins (He.ga K "Library") dx (fsL al d k p1 u true)) = H3
    have o3 : LibO K al S H3 a dx d k p1 u ps us true M Ps Us := by
      rw [← e3]
      exact LibO.wa rfl o2.di o2.kp o2.pa o2.un o2.ds o2.es o2.nd o2.out
    have g3 : Gm (fun x => x ∈ fpL a d k p1 u ps us) H2 S H3 S := by
      rw [← e3]
      exact (Gm.rfl' g2.sub).store (by simp) (o2.out a (by simp))
    have hp2 : H2 p = some (.tup (cs.map V.ref)) := g2.same _ _ hp
    have obj : ∀ (x : Addr) (zs : List V), H x = some (.tup zs) → H2 x = some (.tup zs) ∧ x ∉ fpL a d k p1 u ps us := fun x zs h => ⟨g2.same _ _ h, o.notup h⟩
    obtain ⟨good, hch, hcm⟩ : ∃ good, ChainL al M good ∧ ((cms = good ∧ LStep K al a S H (fpL a d k p1 u ps us) false (good.foldl step M) (Ps ++ [M]) [] fun H' => Q .non H') ∨ ∃ n, cms = good ++ [.drp n] ∧ MSm (good.foldl step M) ∧ n ∉ mnames (good.foldl step M) ∧ nameOk n = true ∧
      ∀ (H' S' : Hp) (fp' : List Addr) (d' : Addr), Gm (fun x => x ∈ fpL a d k p1 u ps us) H S H' S' → LibI K al S' H' a fp' false M Ps Us → (∀ x ∈ fp', x ∈ fpL a d k p1 u ps us ∨ H x = none) → H' d' = some (.xd (fU n)) → E (.ref (He.ga K "UnknownName")) (some d') H') := by
      rcases hh with ⟨h1, h2⟩ | ⟨good, n, h1, h2, h3, h4, h5, h6⟩
      · exact ⟨cms, h1, .inl ⟨rfl, h2⟩⟩
      · exact ⟨good, h2, .inr ⟨n, h1, h3, h4, h5, h6⟩⟩
    clear hh
    refine ⟨_, rfl, p, _, rfl, (by rw [← e3, upd_ne (fun z => (obj p _ hp).2 (by rw [z]; simp))]; exact hp2), ?_⟩
    refine for_it walk_enumT (fun i σ H' => ∃ S' fp' x5 x6, σ = [some (.ref a), some (.ref p), some (.ref B), some (.ref Kc), some .non, x5, x6] ∧ i ≤ good.length ∧ Gm (fun x => x ∈ fpL a d k p1 u ps us) H2 S H' S' ∧ LibI K al S' H' a fp' true ((good.take i).foldl step M) Ps Us ∧ ∀ x ∈ fp', x ∈ fpL a d k p1 u ps us ∨ H2 x = none)
      ⟨S, _, none, none, rfl, Nat.zero_le _, g3, ⟨dx, d, k, p1, u, ps, us, rfl, o3⟩, fun x hx => .inl hx⟩ (fun i σ H' _ ⟨S', _, _, _, _, _, g, _⟩ => g.kept hp2 (obj p _ hp).2) ?_ ?_
    · rintro i x σ H4 H5 hi ⟨S4, fp4, x5, x6, rfl, il, g4, l4, m4⟩ ⟨q, y1, y2, rfl, hq, rfl, h1, h2⟩
      obtain rfl : V.int (i : Nat) = y1 := Option.some.inj h1
      have h2 : (cs.map V.ref)[i]? = some y2 := h2
      rw [List.getElem?_map] at h2
      obtain ⟨c, hc, rfl⟩ := Option.map_eq_some_iff.mp h2
      obtain ⟨cm, hcm1, hcH⟩ := pair_at hcs hc
      obtain ⟨hc2, hcf⟩ := obj c _ hcH
      generalize e5 : upd H4 q (HO.tup [V.int (i : Nat), V.ref c]) = H5
      have g5 := g4.l0 e5 hq
      have l5 := l4.gr ((Gm.rfl' g4.sub).l0 e5 hq)
      have hc5 := g5.kept hc2 hcf
      walk_at "rs"
      refine ⟨q, _, rfl, sqt (new_at e5), rfl, ?_⟩
      walk_at "rd"
      refine ⟨c, cm, rfl, hc5, fun H6 s6 => ?_⟩
      have gs6 := Gr.ofSame g5.sub s6
      have g6 := g5.tr gs6
      have l6 := l5.gr gs6
      have hc6 := s6 _ _ hc5
      walk_at "rd"
      obtain ⟨dx6, d6, k6, p6, u6, ps6, us6, e6, o6⟩ := id l6
      refine ⟨a, dx6, _, rfl, o6.ob, by rfl, ?_⟩
      walk_at "rd"
      have mm : ∀ (H7 : Hp) (S7 : Hp), (∀ b, H6 b ≠ none → H7 b ≠ none) → ∀ fp7 : List Addr, (∀ x ∈ fp7, x ∈ fp4 ∨ H6 x = none) → ∀ x ∈ fp7, x ∈ fpL a d k p1 u ps us ∨ H2 x = none := fun H7 S7 _ fp7 m7 x hx => (m7 x hx).elim (m4 x) fun z => .inr (g6.free z)
      by_cases hig : i < good.length
      · have hgi : good[i]? = some cm := by
          rcases hcm with ⟨e, _⟩ | ⟨n, e, _⟩
          · rw [← e]
            exact hcm1
          · rw [e, List.getElem?_append_left hig] at hcm1
            exact hcm1
        obtain ⟨c1, c2, c3⟩ := chain_at hch hgi
        refine ⟨al, a, c, cm, fp4, true, _, Ps, Us, S4, rfl, l6, hc6, c1, all, g6.sub, .inl ⟨c2, fun H7 S7 fp7 g7 l7 m7 => ?_⟩⟩
        rw [← c3] at l7
        exact ⟨S7, fp7, _, _, rfl, hig, g6.join g7 fun b hb h => (m4 b hb).resolve_right h, l7, mm H7 S7 g7.live fp7 m7⟩
      · have hie : i = good.length := by omega
        subst hie
        rcases hcm with ⟨e, _⟩ | ⟨n, e, b1, b2, b3, b4⟩
        · rw [e, List.getElem?_eq_none (Nat.le_refl _)] at hcm1
          cases hcm1
        · rw [e, List.getElem?_append_right (Nat.le_refl _), Nat.sub_self] at hcm1
          have ecm : cm = .drp n := (Option.some.inj hcm1).symm
          subst ecm
          rw [List.take_of_length_le (Nat.le_refl _)] at l6
          refine ⟨al, a, c, .drp n, fp4, true, _, Ps, Us, S4, rfl, l6, hc6, b1, all, g6.sub, .inr ⟨n, rfl, b2, b3, fun H7 dd s7 h7 => ?_⟩⟩
          have gs7 := Gr.ofSame g6.sub s7
          have g7 := g6.tr gs7
          have o7 := o6.gr gs7
          have hB7 := g7.kept hB2 nBf
          have hK7 := g7.kept hK2 nKf
          refine ⟨_, rfl, a, _, dx6, _, rfl, o7.ob, T.c "Library", T.n "Library" "own_busy", (by show 8 < 1000; decide), ?_⟩
          rw [putF_busy]
          refine ⟨_, rfl, rfl, _, rfl, ?_⟩
          dsimp only
          rw [if_pos (decide_eq_true rfl)]
          refine ⟨_, rfl, _, rfl, a, _, dx6, _, rfl, upd_same, T.c "Library", T.n "Library" "own_wishes", (by show 8 < 1000; decide), ?_⟩
          rw [putF_wish, upd_upd]
          refine ⟨_, rfl, _, rfl, a, _, dx6, _, rfl, upd_same, T.c "Library", T.n "Library" "own_kept", (by show 8 < 1000; decide), ?_⟩
          rw [putF_kept, upd_upd]
          have nB4 : B ∉ fp4 := fun z => (m4 B z).elim nBf fun q => by rw [hB2] at q; cases q
          have nK4 : Kc ∉ fp4 := fun z => (m4 Kc z).elim nKf fun q => by rw [hK2] at q; cases q
          rw [e6] at nB4 nK4
          have sB : S4 B = none := g4.new B nSB (live_of hB2)
          have sK : S4 Kc = none := g4.new Kc nSK (live_of hK2)
          have nK5 : Kc ∉ fpL a B k6 p6 u6 ps6 us6 := fun z => by
            simp only [List.mem_cons] at z nK4
            rcases z with z | z | z
            · exact nK4 (.inl z)
            · exact nBK z.symm
            · exact nK4 (.inr (.inr z))
          have ina : a ∈ fpL a d k p1 u ps us := by simp
          refine b4 _ S4 (fpL a B Kc p6 u6 ps6 us6) dd ((g2.m.trans g7).store ina (o7.out a (by simp))) ⟨dx6, B, Kc, p6, u6, ps6, us6, rfl, LibO.wa rfl ⟨kvs, hB7, hpr.mono g7.mono⟩ hK7 o7.pa o7.un o7.ds o7.es (nd_k (nd_d o6.nd nB4) nK5) fun x hx => ?_⟩ (fun x hx => ?_) ?_
          · simp only [List.mem_cons] at hx
            rcases hx with z | z | z | z
            · exact o7.out x (by simp [z])
            · rw [z]; exact sB
            · rw [z]; exact sK
            · exact o7.out x (by simp only [List.mem_cons]; exact .inr (.inr (.inr z)))
          · simp only [List.mem_cons] at hx
            rcases hx with z | z | z | z
            · exact .inl (by rw [z]; exact ina)
            · exact .inr (by rw [z]; exact hB)
            · exact .inr (by rw [z]; exact hKH)
            · exact (m4 x (by rw [e6]; simp only [List.mem_cons]; exact .inr (.inr (.inr z)))).imp id g2.free
          · rw [upd_ne (fun z => by rw [z, o7.ob] at h7; cases h7)]
            exact h7
    · rintro σ H4 ⟨S4, fp4, x5, x6, rfl, il, g4, l4, m4⟩
      have hcl := hcs.length
      rw [List.length_map] at il
      rcases hcm with ⟨rfl, kk⟩ | ⟨n, rfl, _⟩
      · rw [List.length_map, List.take_of_length_le (by omega)] at l4
        obtain ⟨dx6, d6, k6, p6, u6, ps6, us6, e6, o6⟩ := id l4
        subst e6
        walk_at "rs"
        walk_at "rd"
        refine ⟨a, _, dx6, _, rfl, o6.ob, T.c "Library", T.n "Library" "own_busy", (by show 8 < 1000; decide), _, rfl, rfl, _, rfl, ?_⟩
        rw [putF_busy, if_neg (by rw [decide_eq_false (fun z => nomatch z)]; decide)]
        have nB4 : B ∉ fpL a d6 k6 p6 u6 ps6 us6 := fun z => (m4 B z).elim nBf fun q => by rw [hB2] at q; cases q
        have sB : S4 B = none := g4.new B nSB (live_of hB2)
        have hB4 := g4.kept hB2 nBf
        have n6 := fpNe o6.nd
        generalize e7 : upd H4 a (HO.ins (He.ga K "Library") dx6 (fsL al d6 k6 p6 u6 false)) = H7
        have o7 : LibO K al S4 H7 a dx6 d6 k6 p6 u6 ps6 us6 false (cms.foldl step M) Ps Us := by
          rw [← e7]
          exact LibO.wa rfl o6.di o6.kp o6.pa o6.un o6.ds o6.es o6.nd o6.out
        have hB7 : H7 B = some (.dK kvs) := by
          rw [← e7, upd_ne (fun z => nB4 (by rw [z]; simp))]
          exact hB4
        have g7 : Gm (fun x => x ∈ fpL a d k p1 u ps us) H S H7 S4 := by
          rw [← e7]
          exact (g2.m.trans g4).store (by simp) (o6.out a (by simp))
        walk_at "rd"
        refine ⟨_, _, _, _, _, rfl, o7.ob, T.c "Library", T.n "Library" "own_past", rfl, ?_⟩
        refine ⟨.inl ⟨rfl, _, sql o7.pa⟩, ?_⟩
        walk_at "rd"
        have psl : ps6.length ≤ 1000 := by rw [o7.ds.length]; exact pl
        refine ⟨p6, _, _, rfl, rfl, o7.pa, szL (by rw [List.length_map]; omega), ?_⟩
        generalize e8 : upd H7 p6 (HO.lst (ps6.map V.ref ++ [V.ref B])) = H8
        have np6 : p6 ∈ fpL a d k p1 u ps us ∨ H p6 = none := (m4 p6 (by simp)).imp id g2.free
        have g8 : Gm (fun x => x ∈ fpL a d k p1 u ps us) H S H8 S4 := by
          rw [← e8]
          exact g7.stw np6 (o7.out p6 (by simp))
        have ob8 : ∀ x, x ≠ p6 → H8 x = H7 x := fun x hx => by rw [← e8, upd_ne hx]
        have hp8 : H8 p6 = some (.lst ((ps6 ++ [B]).map V.ref)) := by rw [← e8, upd_same, List.map_append]; rfl
        refine ⟨by walk_at "sz", fun Ul hU => ?_⟩
        generalize e9 : upd H8 Ul (HO.lst []) = H9
        have g9 := g8.l0 e9 hU
        have hUH : H Ul = none := g8.free hU
        have nU8 : ∀ x, H8 x ≠ none → x ≠ Ul := fun x hx z => hx (by rw [z]; exact hU)
        have li : ∀ x ∈ fpL a d6 k6 p6 u6 ps6 us6, H8 x ≠ none := fun x hx => by
          by_cases z : x = p6
          · rw [z, hp8]; exact fun q => nomatch q
          · rw [ob8 x z]; exact o7.live x hx
        have nUf : Ul ∉ fpL a d6 k6 p6 u6 ps6 us6 := fun z => li _ z hU
        have ob9 : ∀ x, x ≠ p6 → x ≠ Ul → H9 x = H7 x := fun x h1 h2 => by rw [← e9, upd_ne h2]; exact ob8 x h1
        have tr : ∀ (x : Addr) (m : Mo), DctAt K S4 H7 x m → x ≠ p6 → x ≠ Ul → DctAt K S4 H9 x m := fun x m ⟨kv, h, hh⟩ h1 h2 => ⟨kv, (ob9 x h1 h2).trans h, hh⟩
        have sU : S4 Ul = none := Same.free g8.sub hU
        have nBp : B ≠ p6 := fun z => nB4 (by rw [z]; simp)
        have nBU : B ≠ Ul := nU8 B (by rw [ob8 B nBp, hB7]; exact fun q => nomatch q)
        have n1 := nd_u o6.nd nUf
        have n2 : (a :: d6 :: k6 :: p6 :: Ul :: ps6).Nodup := n1.sublist (.cons₂ _ (.cons₂ _ (.cons₂ _ (.cons₂ _ (.cons₂ _ (List.sublist_append_left ps6 us6))))))
        have n3 : (fpL a d6 k6 p6 Ul (ps6 ++ [B]) []).Nodup := by
          have q : ((a :: d6 :: k6 :: p6 :: Ul :: ps6) ++ [B]).Nodup := List.nodup_append.mpr ⟨n2, by simp, fun x hx y hy e => by
            rw [List.mem_singleton.mp hy] at e
            simp only [List.mem_cons] at hx
            simp only [List.mem_cons, List.mem_append, not_or] at nB4
            rcases hx with z | z | z | z | z | z
            · exact nB4.1 (by rw [← e, z])
            · exact nB4.2.1 (by rw [← e, z])
            · exact nB4.2.2.1 (by rw [← e, z])
            · exact nB4.2.2.2.1 (by rw [← e, z])
            · exact nBU (by rw [← e, z])
            · exact nB4.2.2.2.2.2.1 (by rw [← e]; exact z)⟩
          simpa [fpL] using q
        have obA : H9 a = some (.ins (He.ga K "Library") dx6 (fsL al d6 k6 p6 u6 false)) := (ob9 a n6.ap (fun z => nUf (by rw [← z]; simp))).trans o7.ob
        walk_at "rd"
        refine ⟨a, _, dx6, _, rfl, obA, T.c "Library", T.n "Library" "own_undone", (by show 8 < 1000; decide), ?_⟩
        refine kk _ S4 (fpL a d6 k6 p6 Ul (ps6 ++ [B]) []) (g9.store (by simp) (o7.out a (by simp))) ⟨dx6, d6, k6, p6, Ul, ps6 ++ [B], [], rfl, LibO.wa (by rw [putF_und]) (tr _ _ o7.di n6.dp (fun z => nUf (by rw [← z]; simp))) ((ob9 k6 n6.kp (fun z => nUf (by rw [← z]; simp))).trans o7.kp) (old_at e9 hU hp8) (new_at e9)
          (Paired.snoc (pair_imp o7.ds fun x hx y z => tr x y z (n6.ps x hx).2.2.2.1 (fun q => nUf (by rw [← q]; simp [hx]))) (tr B M ⟨kvs, hB7, hpr.mono g9.mono⟩ nBp nBU)) .nil n3 fun x hx => ?_⟩ fun x hx => ?_
        · simp only [List.mem_cons, List.mem_append, List.not_mem_nil, or_false] at hx
          rcases hx with z | z | z | z | z | z | z
          · exact o7.out x (by simp [z])
          · exact o7.out x (by simp [z])
          · exact o7.out x (by simp [z])
          · exact o7.out x (by simp [z])
          · rw [z]; exact sU
          · exact o7.out x (by simp [z])
          · rw [z]; exact sB
        · simp only [List.mem_cons, List.mem_append, List.not_mem_nil, or_false] at hx
          have old : x ∈ fpL a d6 k6 p6 u6 ps6 us6 → x ∈ fpL a d k p1 u ps us ∨ H x = none := fun q => (m4 x q).imp id g2.free
          rcases hx with z | z | z | z | z | z | z
          · exact old (by simp [z])
          · exact old (by simp [z])
          · exact old (by simp [z])
          · exact old (by simp [z])
          · rw [z]; exact .inr hUH
          · exact old (by simp [z])
          · rw [z]; exact .inr hB
      · rw [List.length_append, List.length_singleton] at hcl
        omega
end
end Lst

/-! ## LObj -/
namespace Lst
open PySem PySem.Spec PyProof.Rows L2
def sp_Lhist (K : PySem.W.Frag) : Sp := fun vs H Q _ => ∃ (al : Str) (a : Addr) (fp : List Addr) (b : Bool) (M : Mo) (Ps Us : List Mo) (S : Hp), vs = [.ref a] ∧ LibI K al S H a fp b M Ps Us ∧ Same S H ∧
  ∀ (H' S' : Hp) (p : Addr), Gr H S H' S' → S' p = some (.tup [.int Ps.length, .int Us.length]) → Q (.ref p) H'
def sp_Lbusy (K : PySem.W.Frag) : Sp := fun vs H Q _ => ∃ (al : Str) (a : Addr) (fp : List Addr) (b : Bool) (M : Mo) (Ps Us : List Mo) (S : Hp), vs = [.ref a] ∧ LibI K al S H a fp b M Ps Us ∧ Q (.bl b) H
def sp_Llen (K : PySem.W.Frag) : Sp := fun vs H Q _ => ∃ (al : Str) (a : Addr) (fp : List Addr) (b : Bool) (M : Mo) (Ps Us : List Mo) (S : Hp), vs = [.ref a] ∧ LibI K al S H a fp b M Ps Us ∧ Q (.int M.length) H
def sp_Lhas (K : PySem.W.Frag) : Sp := fun vs H Q _ => ∃ (al : Str) (a : Addr) (n : Str) (fp : List Addr) (b : Bool) (M : Mo) (Ps Us : List Mo) (S : Hp), vs = [.ref a, .str n] ∧ LibI K al S H a fp b M Ps Us ∧ nameOk n = true ∧ n.length ≤ 1000000 ∧ Same S H ∧ ∀ H', Same H H' → Q (.bl (decide (n ∈ mnames M))) H'
section
variable {P : Program} {w : World} {K : PySem.W.Frag} {mg : Str → Option Value} {base : Heap}
theorem ok_Lhist (T : Txt K mg) : OkM P w K mg base CX0 1 "Library" "history" P_Library_history (sp_Lhist K) := by
  refine (T.f_Library_history).ok sc_Library_history (fun vs H Q E h => ?_) (fun cdv A outer s H vs Q E hr h => ?_)
  · obtain ⟨al, a, fp, b, M, Ps, Us, S, rfl, _⟩ := h
    rfl
  · obtain ⟨al, a, fp, b, M, Ps, Us, S, rfl, ⟨dx, d, k, p, u, ps, us, rfl, o⟩, hS, kk⟩ := h
    refine ⟨_, PSs.nox (pss_one (ps_ret (pe_tup (pa_cons (pe_callB (lenK (K := K) rfl) (by rfl) T.f (by decide +kernel) (pa_cons (fldK (K := K) rfl (pv 0) rfl) pa_nil)) (pa_cons (pe_callB (lenK (K := K) rfl) (by rfl) T.f (by decide +kernel) (pa_cons (fldK (K := K) rfl (pv 0) rfl) pa_nil)) pa_nil))))), ?_⟩
    walk_at "rs"
    walk_at "rd"
    refine ⟨_, _, _, _, _, rfl, o.ob, T.c "Library", T.n "Library" "own_past", rfl, ?_⟩
    refine ⟨p, _, rfl, .inl (sql o.pa), ?_⟩
    walk_at "rd"
    refine ⟨_, _, _, _, _, rfl, o.ob, T.c "Library", T.n "Library" "own_undone", rfl, ?_⟩
    refine ⟨u, _, rfl, .inl (sql o.un), ?_⟩
    refine ⟨by walk_at "sz", fun q hq => ?_⟩
    generalize e1 : upd H q _ = H1
    refine kk H1 _ q ((Gm.rfl' hS).ld e1 hq) ?_
    rw [upd_same, List.length_map, List.length_map, o.ds.length, o.es.length]
theorem ok_Lbusy (T : Txt K mg) (F : FPb K) : FnOk P w K mg base CX0 1 (busyA K) (fdA K (busyA K)) P_Library_busy (sp_Lbusy K) := by
  refine F.ok sc_Library_busy (fun vs H Q E h => ?_) (fun cdv A outer s H vs Q E hr h => ?_)
  · obtain ⟨al, a, fp, b, M, Ps, Us, S, rfl, _⟩ := h
    rfl
  · obtain ⟨al, a, fp, b, M, Ps, Us, S, rfl, ⟨dx, d, k, p, u, ps, us, rfl, o⟩, kk⟩ := h
    refine ⟨_, PSs.nox (pss_one (ps_ret (fldK (K := K) rfl (pv 0) rfl))), ?_⟩
    walk_at "rs"
    walk_at "rd"
    refine ⟨_, _, _, _, _, rfl, o.ob, T.c "Library", T.n "Library" "own_busy", rfl, ?_⟩
    exact kk
theorem ok_Llen (T : Txt K mg) : OkM P w K mg base CX0 1 "Library" "__len__" P_Library_len (sp_Llen K) := by
  refine (T.f_Library_len).ok sc_Library_len (fun vs H Q E h => ?_) (fun cdv A outer s H vs Q E hr h => ?_)
  · obtain ⟨al, a, fp, b, M, Ps, Us, S, rfl, _⟩ := h
    rfl
  · obtain ⟨al, a, fp, b, M, Ps, Us, S, rfl, ⟨dx, d, k, p, u, ps, us, rfl, o⟩, kk⟩ := h
    obtain ⟨kvs, hd, hp⟩ := id o.di
    refine ⟨_, PSs.nox (pss_one (ps_ret (pe_callB call_lenD (by rfl) T.f (by decide +kernel) (pa_cons (fldK (K := K) rfl (pv 0) rfl) pa_nil)))), ?_⟩
    walk_at "rs"
    walk_at "rd"
    refine ⟨_, _, _, _, _, rfl, o.ob, T.c "Library", T.n "Library" "own_wishes", rfl, ?_⟩
    refine ⟨d, kvs, rfl, hd, ?_⟩
    rw [hp.length]
    exact kk
theorem ok_Lhas (T : Txt K mg) (G_is_name : OkG P w K mg base CX0 2 "is_name" P_is_name sp_is_name) : OkM P w K mg base CX0 3 "Library" "__contains__" P_Library_contains (sp_Lhas K) := by
  refine (T.f_Library_contains).ok sc_Library_contains (fun vs H Q E h => ?_) (fun cdv A outer s H vs Q E hr h => ?_)
  · obtain ⟨al, a, n, fp, b, M, Ps, Us, S, rfl, _⟩ := h
    rfl
  · obtain ⟨al, a, n, fp, b, M, Ps, Us, S, rfl, ⟨dx, d, k, p, u, ps, us, rfl, o⟩, nok, nl, hS, kk⟩ := h
    refine ⟨_, PSs.nox (pss_one (ps_ret (pe_and (pe_call G_is_name (hr.mono (by first | decide | omega)) (by rfl) (T.g "is_name") (T.k "is_name") T.b_is_name .nil pass0 (pa_cons (pv 1) pa_nil)) (pe_one (pe_cmp (pc_din (hu_of hr) (pv 1) (fldK (K := K) rfl (pv 0) rfl)) rfl))))), ?_⟩
    walk_at "rs"
    walk_at "rd"
    refine ⟨nl, fun H1 s1 => ?_⟩
    have o1 := o.gr (Gr.ofSame hS s1)
    obtain ⟨kvs, hd, hp⟩ := id o1.di
    rw [nok]
    refine ⟨_, rfl, ?_⟩
    rw [if_pos rfl]
    refine ⟨_, rfl, _, rfl, _, _, _, _, _, rfl, o1.ob, T.c "Library", T.n "Library" "own_wishes", rfl, d, _, rfl, DGet.k (k := .inr n) hd, ?_⟩
    rw [dp_some hp n]
    exact kk _ s1
/-- library[name] -/
def sp_Lget (K : PySem.W.Frag) : Sp := fun vs H Q _ => ∃ (al : Str) (a : Addr) (n : Str) (t : Tr) (fp : List Addr) (b : Bool) (M : Mo) (Ps Us : List Mo) (S : Hp), vs = [.ref a, .str n] ∧ LibI K al S H a fp b M Ps Us ∧ (n, t) ∈ M ∧ MSm M ∧ Same S H ∧ ∀ H', Same H H' → Q (.str (txtOf t)) H'
theorem ok_Lget (T : Txt K mg) (G_is_name : OkG P w K mg base CX0 2 "is_name" P_is_name sp_is_name) : OkM P w K mg base CX0 3 "Library" "__getitem__" P_Library_getitem (sp_Lget K) := by
  refine (T.f_Library_getitem).ok sc_Library_getitem (fun vs H Q E h => ?_) (fun cdv A outer s H vs Q E hr h => ?_)
  · obtain ⟨al, a, n, t, fp, b, M, Ps, Us, S, rfl, _⟩ := h
    rfl
  · obtain ⟨al, a, n, t, fp, b, M, Ps, Us, S, rfl, ⟨dx, d, k, p, u, ps, us, rfl, o⟩, hm, sm, hS, kk⟩ := h
    obtain ⟨t1, t2, t3, t4, t5⟩ := sm.tr _ hm
    refine ⟨_, PSs.nox (pss_cons (ps_if (PW.pt (pw_or (pt_not (pt_val (pe_call G_is_name (hr.mono (by first | decide | omega)) (by rfl) (T.g "is_name") (T.k "is_name") T.b_is_name .nil pass0 (pa_cons (pv 1) pa_nil)))) (pw_or1 (pt_cmp (pc_dnotin (hu_of hr) (pv 1) (fldK (K := K) rfl (pv 0) rfl)))))) (pss_one ps_never) pss_nil)
        (pss_one (ps_ret (joinK (K := K) rfl pe_str (fldK (K := K) rfl (pe_dget (hu_of hr) (fldK (K := K) rfl (pv 0) rfl) (pv 1) (fun _ _ => rfl)) rfl))))), ?_⟩
    walk_at "rs"
    walk_at "rd"
    refine ⟨t2, fun H1 s1 => ?_⟩
    have g1 : Gr H S H1 S := Gr.ofSame hS s1
    have o1 := o.gr g1
    obtain ⟨kvs, hd, hp⟩ := id o1.di
    obtain ⟨v, hv, hw⟩ := dp_get hp sm.nd _ hm
    rw [t1]
    walk_at "rd"
    refine ⟨_, _, _, _, _, rfl, o1.ob, T.c "Library", T.n "Library" "own_wishes", rfl, ?_⟩
    refine ⟨d, _, rfl, DGet.k (k := .inr n) hd, ?_⟩
    rw [dp_some hp n, decide_eq_true (show n ∈ mnames M from List.mem_map.mpr ⟨_, hm, rfl⟩)]
    walk_at "rd"
    refine ⟨⟨_, rfl⟩, _, rfl, _, _, _, _, _, rfl, o1.ob, T.c "Library", T.n "Library" "own_wishes", rfl, _, rfl, d, v, rfl, .inl ⟨kvs, .inr n, .inl hd, rfl, hv.symm⟩, ?_⟩
    obtain ⟨wa, cn, wdx, wfs, wl, rfl, hcn, hwa, hl1, hl2, hno⟩ := hw.tok
    refine ⟨wa, _, wdx, wfs, _, rfl, g1.sub _ _ hwa, T.cW hcn, T.nW hcn _ (by decide +kernel), hl1, " ", wl, toks t, rfl, rfl, .inl (sql (g1.sub _ _ hl2)), txt_small t3 (Nat.le_trans t5 (by decide)), ?_⟩
    exact kk _ s1
end
end Lst

/-! ## LCx0 -/
namespace Lst
open PySem PySem.Spec PyProof.Rows L2
/-- a promise without an exception -/
theorem cx0_of {P : Program} {w : World} {K : PySem.W.Frag} {mg : Str → Option Value} {base : Heap} {k : Nat} {f : Addr} {sp : Sp} (F : FnR P w K mg base (L2.CX P w) k f sp) : FnR P w K mg base CX0 k f (fun vs H Q _ => sp vs H Q fun _ _ _ => False) := by
  intro A outer s H us vs Q E hr e0 r h
  refine codeAny_mono (F A outer s H us vs Q (fun _ _ _ => False) hr e0 r h) fun r s' q => ?_
  cases r with
  | error e =>
    obtain ⟨_, _, _, _, _, _, _, _, _, _, _, _, z⟩ := q
    exact z.elim
  | ok fl =>
    cases fl <;> exact q
end Lst

/-! ## LNum -/
namespace Lst
open PySem PySem.Spec PyProof.Rows L2
def sp_isnum : Sp := fun vs H Q _ => ∃ (v lo hi : Int), vs = [.int v, .int lo, .int hi] ∧ Q (.bl (decide (lo ≤ v) && decide (v ≤ hi))) H
section
variable {P : Program} {w : World} {K : PySem.W.Frag} {mg : Str → Option Value} {base : Heap}
theorem ok_isnum (T : Txt K mg) : OkG P w K mg base CX0 1 "is_number" P_is_number sp_isnum := by
  refine (T.f_is_number).ok sc_is_number (fun vs H Q E h => ?_) (fun cdv A outer s H vs Q E hr h => ?_)
  · obtain ⟨v, lo, hi, rfl, _⟩ := h
    rfl
  · obtain ⟨v, lo, hi, rfl, k⟩ := h
    refine ⟨_, PSs.nox (pss_one (ps_ret (pe_and (pe_callB (isiK (K := K) rfl) (by rfl) T.f (by decide +kernel) (pa_cons (pv 0) (pa_cons (pe_bltn (v := .ty "int") (by rfl) T.f (by decide +kernel) rfl) pa_nil))) (pe_and (pe_not (pe_callB (isiK (K := K) rfl) (by rfl) T.f (by decide +kernel) (pa_cons (pv 0) (pa_cons (pe_bltn (v := .ty "bool") (by rfl) T.f (by decide +kernel) rfl) pa_nil)))) (pe_one (pe_chain op_le op_le (pv 1) (pv 0) (pv 2))))))), ?_⟩
    walk_at "rs"
    walk_at "rd"
    refine ⟨_, _, _, _, true, rfl, .ty _, .base (.int v), kit_ty (by decide +kernel), ?_⟩
    walk_at "rd"
    refine ⟨_, _, _, _, false, rfl, .ty _, .base (.int v), kit_ty (by decide +kernel), ?_⟩
    refine ⟨_, rfl, _, rfl, ?_⟩
    rw [if_pos (show (!false) = true from rfl)]
    refine ⟨_, rfl, _, rfl, _, _, rfl, rfl, _, rfl, ?_⟩
    by_cases c : lo ≤ v
    · rw [if_pos (decide_eq_true c)]
      refine ⟨_, rfl, _, _, rfl, rfl, ?_⟩
      rw [decide_eq_true c] at k
      exact k
    · rw [if_neg (by rw [decide_eq_false c]; decide)]
      rw [decide_eq_false c] at k
      exact k
end
end Lst

/-! ## LAlp -/
namespace Lst
open PySem PySem.Spec PyProof.Rows L2
def sp_isalp : Sp := fun vs H Q _ => ∃ (al : Str) (S : Hp), vs = [.str al] ∧ AlOk al ∧ Same S H ∧ ∀ H', Same H H' → Q (.bl true) H'
section
variable {P : Program} {w : World} {K : PySem.W.Frag} {mg : Str → Option Value} {base : Heap}
theorem ok_isalp (T : Txt K mg) (G_is_word : OkG P w K mg base CX0 1 "is_word" P_is_word sp_is_word) : OkG P w K mg base CX0 2 "is_alphabet" P_is_alphabet sp_isalp := by
  obtain ⟨ds1, hd1, hb1⟩ := T.b_is_word1
  refine (T.f_is_alphabet).ok sc_is_alphabet (fun vs H Q E h => ?_) (fun cdv A outer s H vs Q E hr h => ?_)
  · obtain ⟨al, S, rfl, _⟩ := h
    rfl
  · obtain ⟨al, S, rfl, ok, hS, k⟩ := h
    refine ⟨_, PSs.nox (pss_cons (ps_if (PW.pt (pw_or (pt_not (pt_val (pe_callB (isiK (K := K) rfl) (by rfl) T.f (by decide +kernel) (pa_cons (pv 0) (pa_cons (pe_bltn (v := .ty "str") (by rfl) T.f (by decide +kernel) rfl) pa_nil))))) (pw_or1 (pt_not (pt_chain op_le op_le pe_int (pe_callB call_len_str (by rfl) T.f (by decide +kernel) (pa_cons (pv 0) pa_nil)) pe_int))))) (pss_one (ps_ret pe_bl)) pss_nil)
        (pss_one (ps_ret (pe_and (pe_call G_is_word (hr.mono (by first | decide | omega)) (by rfl) (T.g "is_word") (T.k "is_word") hb1 hd1 pass0 (pa_cons (pv 0) pa_nil)) (pe_one (pe_callB (allK (K := K) rfl rfl) (by rfl) T.f (by decide +kernel) (pa_cons (pe_lc (own := [("at", 1)]) (g := (gName 1)) (tt := tYes) rfl sc_is_alphabet.nd (pi_range2 (by rfl) T.f (pa_cons pe_int (pa_cons (pe_callB call_len_str (by rfl) T.f (by decide +kernel) (pa_cons (pv 0) pa_nil)) pa_nil))) (by first | exact blkOk_by (N := N_is_alphabet) (sc := defScope s_is_alphabet) (by decide +kernel) | exact blkOk_by (N := N_is_alphabet) (sc := { kind := .function, names := [], isGenerator := false, isCoroutine := false }) (by decide +kernel)) (fun _ _ _ _ _ => (pg_name (i := 1) sc_is_alphabet.nd rfl (Or.inl rfl))) (fun _ _ _ _ _ => pts_nil) (fun _ _ _ _ _ => (pe_cmpR op_lt_str (pe_ix ix_str (pv 0) (pe_op op_sub (pv 1) pe_int) (fun _ _ => rfl)) (pe_ix ix_str (pv 0) (pv 1) (fun _ _ => rfl)) (nomark _)))) pa_nil))))))), ?_⟩
    walk_at "rs"
    walk_at "rd"
    refine isi_str ?_
    walk_at "rd"
    have l1 := ok.lo
    have l2 := ok.hi
    refine ⟨szE (by omega), _, _, rfl, rfl, _, rfl, ?_⟩
    rw [if_pos (decide_eq_true (by omega))]
    refine ⟨_, _, rfl, rfl, _, rfl, ?_⟩
    rw [decide_eq_true (by omega), if_neg (by decide)]
    refine ⟨_, rfl, al, 200, rfl, by omega, fun H1 s1 => ⟨_, rfl, ?_⟩⟩
    have iw : isWordB al 200 = true := by
      unfold isWordB
      rw [ok.low, decide_eq_true (by omega)]
      rfl
    rw [if_pos iw]
    walk_at "rd"
    refine ⟨szE (by omega), 1, al.length, rfl, ⟨by decide, by decide, by omega, by omega⟩, fun D hD => ?_⟩
    have g1 : Gr H S H1 S := Gr.ofSame hS s1
    have en : ((al.length : Int) - 1).toNat = al.length - 1 := by omega
    rw [en]
    have sl := sg_len al
    refine lcg walk_range (fun i acc S => acc = (List.replicate i true).map V.bl) noZ noM hD g1.sub rfl trivial (fun _ _ _ _ => trivial) (fun _ _ _ _ _ _ _ _ => trivial) ?_ ?_
    · rintro i x H2 H3 S2 acc hi g2 r _ e eS ⟨rfl, rfl⟩
      have i0 : i = 0 := by omega
      subst i0
      have l2' : al.length = 2 := by omega
      obtain ⟨c1, c2, hc⟩ : ∃ c1 c2, sg al = [c1, c2] := by
        have q : (sg al).length = 2 := sl.trans l2'
        cases h : sg al with
        | nil => rw [h] at q; cases q
        | cons c1 r =>
          cases r with
          | nil => rw [h] at q; cases q
          | cons c2 r2 =>
            cases r2 with
            | nil => exact ⟨c1, c2, rfl⟩
            | cons c3 r3 => rw [h] at q; cases q
      have lt : c1 < c2 := by
        have q := ok.up
        rw [hc] at q
        exact (List.pairwise_cons.mp q).1 c2 (List.mem_singleton.mpr rfl)
      have hc' : al.cps.toList = [c1, c2] := hc
      walk_at "rs"
      walk_at "rd"
      refine ⟨al, _, c1, rfl, rfl, szE (by omega), by rw [hc']; rfl, _, rfl, _, rfl, al, _, c2, rfl, rfl, szE (by omega), by rw [hc']; rfl, _, _, rfl, rfl, ?_⟩
      rw [decide_eq_true (show ([c1] : List Nat) < [c2] from List.Lex.rel lt)]
      exact LcP.add hD (fun z => z) (fun _ _ _ _ => trivial) g2 e eS (Gm.rfl' g2.sub) (szL (by rw [r]; simp)) (by rw [r]; rfl) trivial
    · rintro H2 S2 acc g2 r _ e eS
      refine ⟨D, _, rfl, sql (by rw [e, r]), ?_⟩
      rw [show (List.replicate (al.length - 1) true).all id = true by simp]
      exact k H2 (s1.trans g2.same)
end
end Lst

/-! ## LIni -/
namespace Lst
open PySem PySem.Spec PyProof.Rows L2
def f2L (al : Str) : List (Str × V) := [("alphabet", .str al), ("own_limit", .int 12)]
def sp_Linit (K : PySem.W.Frag) : Sp := fun vs H Q _ => ∃ (al : Str) (a dx : Addr) (S : Hp), vs = [.ref a, .str al, .int 12] ∧ H a = some (.ins (He.ga K "Library") dx []) ∧ S a = none ∧ AlOk al ∧ Same S H ∧
  ∀ (H' S' : Hp) (fp : List Addr), Gm (one a) H S H' S' → LibI K al S' H' a fp false [] [] [] → (∀ x ∈ fp, x = a ∨ H x = none) → Q .non H'
section
variable {P : Program} {w : World} {K : PySem.W.Frag} {mg : Str → Option Value} {base : Heap}
theorem ok_Linit (T : Txt K mg) (G_is_alphabet : OkG P w K mg base CX0 2 "is_alphabet" P_is_alphabet sp_isalp) (G_is_number : OkG P w K mg base CX0 1 "is_number" P_is_number sp_isnum) : OkM P w K mg base CX0 3 "Library" "__init__" P_Library_init (sp_Linit K) := by
  refine (T.f_Library_init).ok sc_Library_init (fun vs H Q E h => ?_) (fun cdv A outer s H vs Q E hr h => ?_)
  · obtain ⟨al, a, dx, S, rfl, _⟩ := h
    rfl
  · obtain ⟨al, a, dx, S, rfl, ha, nS, ok, hS, kk⟩ := h
    refine ⟨_, PSs.nox (pss_cons (ps_if (pt_not (pt_val (pe_call G_is_alphabet (hr.mono (by first | decide | omega)) (by rfl) (T.g "is_alphabet") (T.k "is_alphabet") T.b_is_alphabet .nil pass0 (pa_cons (pv 1) pa_nil)))) (pss_one ps_never) pss_nil)
        (pss_cons (ps_if (pt_not (pt_val (pe_call G_is_number (hr.mono (by first | decide | omega)) (by rfl) (T.g "is_number") (T.k "is_number") T.b_is_number .nil pass0 (pa_cons (pv 2) (pa_cons pe_int (pa_cons (pe_glob (v := .int 12) (by rfl) T.vNames.choose_spec ⟨_, rfl⟩) pa_nil)))))) (pss_one ps_never) pss_nil)
        (pss_cons (ps_fldK (K := K) rfl (pv 0) (pv 1) rfl)
        (pss_cons (ps_fldK (K := K) rfl (pv 0) (pv 2) rfl)
        (pss_cons (ps_fldK (K := K) rfl (pv 0) pe_dnewK rfl)
        (pss_cons (ps_fldK (K := K) rfl (pv 0) pe_dnewK rfl)
        (pss_cons (ps_fldK (K := K) rfl (pv 0) (pe_lst pa_nil) rfl)
        (pss_cons (ps_fldK (K := K) rfl (pv 0) (pe_lst pa_nil) rfl)
        (pss_cons (ps_fldK (K := K) rfl (pv 0) pe_int rfl)
        (pss_one (ps_fldK (K := K) rfl (pv 0) pe_bl rfl))))))))))), ?_⟩
    walk_at "rs"
    walk_at "rd"
    refine ⟨al, S, rfl, ok, hS, fun H1 s1 => ⟨_, rfl, ?_⟩⟩
    walk_at "rd"
    refine ⟨12, 1, 12, rfl, _, rfl, ?_⟩
    walk_at "rd"
    have ha1 := s1 _ _ ha
    refine ⟨a, _, dx, _, rfl, ha1, T.c "Library", T.n "Library" "alphabet", (by show 0 < 1000; decide), _, rfl, _, rfl, a, _, dx, _, rfl, upd_same, T.c "Library", T.n "Library" "own_limit", (by show 1 < 1000; decide), ?_⟩
    rw [upd_upd]
    have g1 : Gm (one a) H S H1 S := (Gr.ofSame hS s1).m
    rw [show putF "own_limit" (V.int 12) (putF "alphabet" (V.str al) []) = f2L al from rfl]
    generalize e2 : upd H1 a (HO.ins (He.ga K "Library") dx (f2L al)) = H2
    have g2 : Gm (one a) H S H2 S := by
      rw [← e2]
      exact g1.store rfl nS
    have ha2 : H2 a = some (HO.ins (He.ga K "Library") dx (f2L al)) := by rw [← e2, upd_same]
    refine fun d hd => ?_
    generalize e3 : upd H2 d (HO.dK []) = H3
    have g3 := g2.l0 e3 hd
    have ha3 := old_at e3 hd ha2
    have hd3 := new_at e3
    walk_at "rd"
    have nad : d ≠ a := fun z => by
      rw [z, ha2] at hd
      cases hd
    have nSd : S d = none := Same.free g2.sub hd
    have fd : H d = none := g2.free hd
    refine ⟨a, _, dx, _, rfl, ha3, T.c "Library", T.n "Library" "own_wishes", (by show 2 < 1000; decide), ?_⟩
    generalize e4 : upd H3 a _ = H4
    have g4 : Gm (one a) H S H4 S := by
      rw [← e4]
      exact g3.store rfl nS
    have ha4 := new_at e4
    have hd4 := oth_at e4 nad hd3
    refine fun k hk => ?_
    generalize e5 : upd H4 k (HO.dK []) = H5
    have g5 := g4.l0 e5 hk
    have nak : k ≠ a := fun z => by
      rw [z, ha4] at hk
      cases hk
    have nSk : S k = none := Same.free g4.sub hk
    have fk : H k = none := g4.free hk
    have ha5 := old_at e5 hk ha4
    have hk5 := new_at e5
    have ndk : d ≠ k := ne_of_none hd4 hk
    have hd5 := old_at e5 hk hd4
    walk_at "rd"
    refine ⟨a, _, dx, _, rfl, ha5, T.c "Library", T.n "Library" "own_kept", (by show 3 < 1000; decide), ?_⟩
    generalize e6 : upd H5 a _ = H6
    have g6 : Gm (one a) H S H6 S := by
      rw [← e6]
      exact g5.store rfl nS
    have ha6 := new_at e6
    have hd6 := oth_at e6 nad hd5
    have hk6 := oth_at e6 nak hk5
    refine ⟨by walk_at "sz", fun p hp => ?_⟩
    generalize e7 : upd H6 p (HO.lst []) = H7
    have g7 := g6.l0 e7 hp
    have nap : p ≠ a := fun z => by
      rw [z, ha6] at hp
      cases hp
    have nSp : S p = none := Same.free g6.sub hp
    have fp : H p = none := g6.free hp
    have ha7 := old_at e7 hp ha6
    have hp7 := new_at e7
    have ndp : d ≠ p := ne_of_none hd6 hp
    have hd7 := old_at e7 hp hd6
    have nkp : k ≠ p := ne_of_none hk6 hp
    have hk7 := old_at e7 hp hk6
    walk_at "rd"
    refine ⟨a, _, dx, _, rfl, ha7, T.c "Library", T.n "Library" "own_past", (by show 4 < 1000; decide), ?_⟩
    generalize e8 : upd H7 a _ = H8
    have g8 : Gm (one a) H S H8 S := by
      rw [← e8]
      exact g7.store rfl nS
    have ha8 := new_at e8
    have hd8 := oth_at e8 nad hd7
    have hk8 := oth_at e8 nak hk7
    have hp8 := oth_at e8 nap hp7
    refine ⟨by walk_at "sz", fun u hu => ?_⟩
    generalize e9 : upd H8 u (HO.lst []) = H9
    have g9 := g8.l0 e9 hu
    have nau : u ≠ a := fun z => by
      rw [z, ha8] at hu
      cases hu
    have nSu : S u = none := Same.free g8.sub hu
    have fu : H u = none := g8.free hu
    have ha9 := old_at e9 hu ha8
    have hu9 := new_at e9
    have ndu : d ≠ u := ne_of_none hd8 hu
    have hd9 := old_at e9 hu hd8
    have nku : k ≠ u := ne_of_none hk8 hu
    have hk9 := old_at e9 hu hk8
    have npu : p ≠ u := ne_of_none hp8 hu
    have hp9 := old_at e9 hu hp8
    walk_at "rd"
    refine ⟨a, _, dx, _, rfl, ha9, T.c "Library", T.n "Library" "own_undone", (by show 5 < 1000; decide), ?_⟩
    generalize e10 : upd H9 a _ = H10
    have g10 : Gm (one a) H S H10 S := by
      rw [← e10]
      exact g9.store rfl nS
    have ha10 := new_at e10
    have hd10 := oth_at e10 nad hd9
    have hk10 := oth_at e10 nak hk9
    have hp10 := oth_at e10 nap hp9
    have hu10 := oth_at e10 nau hu9
    walk_at "rd"
    refine ⟨a, _, dx, _, rfl, ha10, T.c "Library", T.n "Library" "own_count", (by show 6 < 1000; decide), ?_⟩
    generalize e11 : upd H10 a _ = H11
    have g11 : Gm (one a) H S H11 S := by
      rw [← e11]
      exact g10.store rfl nS
    have ha11 := new_at e11
    have hd11 := oth_at e11 nad hd10
    have hk11 := oth_at e11 nak hk10
    have hp11 := oth_at e11 nap hp10
    have hu11 := oth_at e11 nau hu10
    walk_at "rd"
    refine ⟨a, _, dx, _, rfl, ha11, T.c "Library", T.n "Library" "own_busy", (by show 7 < 1000; decide), ?_⟩
    generalize e12 : upd H11 a _ = H12
    have g12 : Gm (one a) H S H12 S := by
      rw [← e12]
      exact g11.store rfl nS
    have ha12 := new_at e12
    have hd12 := oth_at e12 nad hd11
    have hk12 := oth_at e12 nak hk11
    have hp12 := oth_at e12 nap hp11
    have hu12 := oth_at e12 nau hu11
    refine kk H12 S (fpL a d k p u [] []) g12 ⟨dx, d, k, p, u, [], [], rfl, ha12, ⟨[], hd12, .nil⟩, hk12, hp12, hu12, .nil, .nil, ?_, ?_⟩ ?_
    · simp [nad.symm, nak.symm, nap.symm, nau.symm, ndk, ndp, ndu, nkp, nku, npu]
    · intro x hx
      simp only [List.mem_cons, List.append_nil, List.not_mem_nil, or_false] at hx
      rcases hx with e | e | e | e | e <;> rw [e] <;> assumption
    · intro x hx
      simp only [List.mem_cons, List.append_nil, List.not_mem_nil, or_false] at hx
      rcases hx with e | e | e | e | e
      · exact .inl e
      · exact .inr (by rw [e]; exact fd)
      · exact .inr (by rw [e]; exact fk)
      · exact .inr (by rw [e]; exact fp)
      · exact .inr (by rw [e]; exact fu)
end
end Lst

/-! ## LDun -/
namespace Lst
open PySem PySem.Spec PyProof.Rows L2
/-! ### len(o), repr(o), x in o, o[x] by an own class's methods -/
section
variable {X : Cx} {CX : CXT} {k : Nat} {C f : Addr} {fd : FuncData} {ps : List Str} {sp : Sp} {E : XK}
theorem inst_of {pins : List (Addr × Obj)} {σ : L2.St} {H : Hp} {s : Shared} {a dx : Addr} {fs : List (Str × V)} (I : Inv X pins σ H s) (ea : H a = some (.ins C dx fs)) : ∃ ox od, PySem.W.InstAt s.heap a ox C od := by
  obtain ⟨mA, O, _, _, _, _⟩ := ins_get I.hok ea
  obtain ⟨od, J, _⟩ := O.look
  exact ⟨_, od, J⟩
/-- the method called at one unit more -/
theorem own_call {pins : List (Addr × Obj)} {σ : L2.St} {H : Hp} {s : Shared} {us : List Value} {vs : List V} {Q : VK} (F : FnOk X.prog X.w X.K X.mg X.base CX k f fd ps sp) (hr : Room (k + 1) X.A) (hb : Binds X.K fd ps []) (hx : Passes CX X.nox E)
    (I : Inv X pins σ H s) (r : Vals vs us) (h : sp vs H Q E) {E' : Value → Shared → Prop} : wpAny (model X.prog X.w) X.A.in1 (call (.ref f) us) (EP X pins σ Q) E' s := by
  have hl : us.length = ps.length := by rw [← r.length]; exact F.len _ _ _ _ h
  have b := hb s us I.kIn (by rw [List.append_nil]; exact hl)
  rw [List.append_nil] at b
  refine wpAny_call (codeAny_mono (F.run X.A.in1 X.stack s H ⟨us, []⟩ us vs Q E hr.in1 I.env0.in1 b r h) fun r s' hq => ?_)
  cases r with
  | error er => exact False.elim (hx pins σ H s er s' (I.wish _) hq)
  | ok fl =>
    cases fl with
    | ret u => exact I.after hq
    | next => exact False.elim hq
    | brk => exact False.elim hq
    | cont => exact False.elim hq
def rOwnLen (C : Addr) (sp : Sp) (E : XK) : List V → Hp → VK → Prop := fun xs H Q => ∃ a dx fs, xs = [.ref a] ∧ H a = some (.ins C dx fs) ∧ sp [.ref a] H (fun v H' => ∃ n : Int, v = .int n ∧ (0 ≤ n ∧ n < 2 ^ 63) ∧ Q (.int n) H') E
theorem call_lenO (hs : PySem.W.findIn X.K (.ref C) "__len__" = some (some (.ref f))) (hf : PySem.W.isFn X.K (.ref f) = true) (F : FnOk X.prog X.w X.K X.mg X.base CX k f fd ps sp) (hr : Room (k + 1) X.A) (hb : Binds X.K fd ps []) (hx : Passes CX X.nox E) :
    CallR X (.builtin "len") (rOwnLen C sp E) := by
  intro pins s σ H xs us Q I r h
  obtain ⟨a, dx, fs, rfl, ea, h⟩ := h
  obtain ⟨u, rfl, ru⟩ := vals1 r
  obtain rfl : u = Value.ref a := ru
  obtain ⟨m, F0⟩ := I.fr
  obtain ⟨ox, od, J⟩ := inst_of I ea
  refine PySem.W.len_K F0 I.mod.kin J hs hf (wpAny_mono (own_call F hr hb hx I r h) (fun v s' hq => ?_) fun _ _ z => z)
  obtain ⟨x, H', I', rx, n, rfl, hn, q⟩ := hq
  obtain ⟨t, rfl⟩ := rx
  exact ⟨hn, .int n, H', I'.tok _, ⟨_, rfl⟩, q⟩
def rOwnRepr (C : Addr) (sp : Sp) (E : XK) : List V → Hp → VK → Prop := fun xs H Q => ∃ a dx fs, xs = [.ref a] ∧ H a = some (.ins C dx fs) ∧ sp [.ref a] H (fun v H' => ∃ z : Str, v = .str z ∧ Q (.str z) H') E
theorem call_reprO (hs : PySem.W.findIn X.K (.ref C) "__repr__" = some (some (.ref f))) (hf : PySem.W.isFn X.K (.ref f) = true) (F : FnOk X.prog X.w X.K X.mg X.base CX k f fd ps sp) (hr : Room (k + 1) X.A) (hb : Binds X.K fd ps []) (hx : Passes CX X.nox E) :
    CallR X (.builtin "repr") (rOwnRepr C sp E) := by
  intro pins s σ H xs us Q I r h
  obtain ⟨a, dx, fs, rfl, ea, h⟩ := h
  obtain ⟨u, rfl, ru⟩ := vals1 r
  obtain rfl : u = Value.ref a := ru
  obtain ⟨m, F0⟩ := I.fr
  obtain ⟨ox, od, J⟩ := inst_of I ea
  refine PySem.W.repr_K hr.in1.units0 F0 I.mod.kin J hs hf (wpAny_mono (own_call F hr hb hx I r h) (fun v s' hq => ?_) fun _ _ z => z)
  obtain ⟨x, H', I', rx, n, rfl, q⟩ := hq
  obtain ⟨t, rfl⟩ := rx
  exact ⟨.str n, H', I', ⟨_, rfl⟩, q⟩
def rOwnIn (C : Addr) (sp : Sp) (E : XK) : R2 := fun x y H Q => ∃ a dx fs, y = .ref a ∧ H a = some (.ins C dx fs) ∧ sp [.ref a, x] H (fun v H' => ∃ b : Bool, v = .bl b ∧ Q (.bl b) H') E
theorem op_inO (hs : PySem.W.findIn X.K (.ref C) "__contains__" = some (some (.ref f))) (hf : PySem.W.isFn X.K (.ref f) = true) (F : FnOk X.prog X.w X.K X.mg X.base CX k f fd ps sp) (hr : Room k X.A) (hb : Binds X.K fd ps []) (hx : Passes CX X E) :
    OpR X (compareOp .In) (rOwnIn C sp E) := by
  intro pins s σ H x y v u Q I rx ry h
  obtain ⟨a, dx, fs, rfl, ea, h⟩ := h
  obtain rfl : u = Value.ref a := ry
  obtain ⟨m, F0⟩ := I.fr
  obtain ⟨ox, od, J⟩ := inst_of I ea
  refine PySem.W.in_K F0 I.mod.kin J hs hf (wpAny_mono (run_fn (ds := []) (dvs := []) (us := [.ref a, v]) (vs := [.ref a, x]) F hr hb .nil hx I (.cons rfl (.cons rx .nil)) h) (fun v s' hq => ?_) fun _ _ z => z)
  obtain ⟨x, H', I', rx, n, rfl, q⟩ := hq
  obtain rfl : v = Value.bool n := rx
  exact wpAny_pure ⟨.bl n, H', I', rfl, q⟩
def rOwnGet (C : Addr) (sp : Sp) (E : XK) : R2 := fun x y H Q => ∃ a dx fs, x = .ref a ∧ H a = some (.ins C dx fs) ∧ sp [.ref a, y] H Q E
theorem pe_subO {a b : Expr} {ta tb : TE} {pos : Pos} (hs : PySem.W.findIn X.K (.ref C) "__getitem__" = some (some (.ref f))) (hfi : PySem.W.fnIn X.K f = true) (hf : PySem.W.isFn X.K (.ref f) = true) (F : FnOk X.prog X.w X.K X.mg X.base CX k f fd ps sp) (hr : Room (k + 1) X.A) (hb : Binds X.K fd ps []) (hx : Passes CX X.nox E)
    (ha : PE X a ta) (hb2 : PE X b tb) (hsl : ∀ v u, subscripted b true v u = runValue (.builtin "lifetime.subscript" ⟨[v, u], []⟩)) : PE X (.Subscript a b pos) (tOp (rOwnGet C sp E) ta tb) := by
  refine ⟨fun pins s σ H Q I h => ?_⟩
  refine Subscript_ (binT ha hb2 I h fun v u s2 x y H2 I2 rx ry q => ?_)
  obtain ⟨a', dx, fs, rfl, ea, h⟩ := q
  obtain rfl : v = Value.ref a' := rx
  obtain ⟨m, F0⟩ := I2.fr
  obtain ⟨ox, od, J⟩ := inst_of I2 ea
  exact PySem.W.sub_K F0 I2.mod.kin J hs hfi hf (own_call (us := [.ref a', u]) (vs := [.ref a', y]) F hr hb hx I2 (.cons rfl (.cons ry .nil)) h) (hsl _ _)
end
theorem fnIn_of {K : PySem.W.Frag} {x qual : Str} {params : Arguments} {body : List Stmt} {scope : Scope} {dvs : List V} {kws : List (Str × V)} {f : Addr} {fd : FuncData} (F : FunD K x qual params body scope dvs kws f fd) : PySem.W.fnIn K f = true := by
  obtain ⟨oc, od, dV, kV, doc, pm, an, cdv, ct, osl, rfl, lk, _⟩ := F.ex
  unfold PySem.W.fnIn
  rw [lk]
/-! ### for k in o, o's __iter__ hands on a dict's own iterator -/
/-- a dict's iterator that has not begun -/
def KeO (o : Obj) (d it : Addr) (n : Nat) : HO := .ext fun h => ∃ es ep, o.data = .dict es ep ∧ h.IsKeyIter it d 0 n ep
theorem keO_ok {P : Program} {w : World} {H : Hp} {h : Heap} {o ob : Obj} {d it : Addr} {n ep : Nat} {es : Array DictEntry} (e : h.get? it = some ob) (hdt : o.data = .dict es ep) (hk : h.IsKeyIter it d 0 n ep) : ObjOk P w H h it (KeO o d it n) := ⟨⟨es, ep, hdt, hk⟩, ⟨_, e⟩, fun h1 h2 ⟨es, ep, e, z⟩ st => ⟨es, ep, e, z.at fun o q => st o q⟩⟩
def rIterD (n : Nat) : List V → Hp → VK → Prop := fun xs H Q => ∃ d o kvs, xs = [.ref d] ∧ H d = some (.frz o (.dK kvs)) ∧ ∀ it, H it = none → n ≤ it → Q (.ref it) (upd H it (KeO o d it kvs.length))
theorem call_iterD {X : Cx} : CallR X (.builtin "iter") (rIterD X.s_0.heap.objs.size) := by
  intro pins s σ H xs us Q I r h
  obtain ⟨d, o, kvs, rfl, hd, q⟩ := h
  obtain ⟨u, rfl, ru⟩ := vals1 r
  obtain rfl : u = Value.ref d := ru
  obtain ⟨hs, hgd, hx, es, ep, vs, hdt, hsz, kv, hm⟩ := I.frzK hd
  refine Calls.call_function_entry (by decide +kernel) (by decide +kernel) PySem.W.kdk_entry_iter (PySem.W.kdk_args_iter _) ?_
  unfold Builtin.«iter»
  refine wpAny_bind (m := someArgs "iter" 1 2 _) (wpAny_of_eq (a := [Value.ref d]) (by first | rfl | kernel_rfl!) ?_)
  show wpAny _ _ (pyIter (.ref d) >>= _) _ _ _
  refine wpAny_bind (iter_keys hs hgd hx hdt ?_)
  refine wpAny_pure ⟨_, rfl, ?_⟩
  have hk : (s.heap.push { cls := .type "dict_keyiterator", data := .fields #[.ref d, .int 0 0, .int es.size 0, .int ep 0] }).IsKeyIter s.heap.objs.size d 0 kvs.length ep := by
    refine ⟨_, Heap.get?_push_size _ rfl, rfl, ?_⟩
    rw [hsz] <;> rfl
  exact ⟨.ref s.heap.objs.size, _, I.laid (t' := s.toks) (fun b u e => Heap.get?_push_of_some _ e) (Nat.le_refl _) (keO_ok (Heap.get?_push_size _ rfl) hdt hk), rfl, q _ (I.hok.fresh (Nat.le_refl _)) I.sz⟩
def iLib (K : PySem.W.Frag) (te : TE) : TI := fun σ H R => te σ H fun x H1 => ∃ a dx fs d o kvs, x = .ref a ∧ H1 a = some (.ins (He.ga K "Library") dx fs) ∧ fs.lookup ("own_wishes" : Str) = some (.ref d) ∧ H1 d = some (.frz o (.dK kvs)) ∧ R (Itk d o kvs) H1
theorem pi_iterL {X : Cx} {e tg : Expr} {te : TE} (T : Txt X.K X.mg) (hr : Room 2 X.A) (he : PE X e te) : PI X tg e (iLib X.K te) := by
  refine ⟨fun pins s σ H R I h => ?_⟩
  refine thn (he.run pins s σ H _ I h) fun u s1 ⟨x, H1, I1, rx, a, dx, fs, d, o, kvs, ex, ea, l, hd, q⟩ => ?_
  subst ex
  obtain rfl : u = Value.ref a := rx
  obtain ⟨m, F0⟩ := I1.fr
  obtain ⟨ox, od, J⟩ := inst_of I1 ea
  have M := T.m "Library" "__iter__"
  refine PySem.W.owit_iter F0 I1.mod.kin J M.at_ M.fn ?_
  obtain ⟨oc, od', dV, kV, doc, pm, an, cdv, ct, osl, efd, lk, hcd, hD, _⟩ := (T.f_Library_iter).ex
  obtain rfl : dV = .none := hD.elim (fun z => z.2) fun z => absurd rfl z.1
  rw [efd] at lk
  have b := T.b_Library_iter
  rw [efd] at b
  have b2 := b s1 [.ref a] I1.kIn rfl
  rw [List.append_nil] at b2
  have rc := LamX.run_ofS (CX := C8.CX0) (P := X.prog) (w := X.w) (mg := X.mg) (base := X.base) (k := 1) (N := N_Library_iter) (ps := P_Library_iter) (A := X.A) (outer := X.stack) (H := H1) (vs := [.ref a]) (E := C8.E0)
    (Q := fun v H' => ∃ it, v = .ref it ∧ H1 it = none ∧ s1.heap.objs.size ≤ it ∧ H' = upd H1 it (KeO o d it kvs.length)) lk hcd sc_Library_iter hr I1.env0 b2 (.cons rfl .nil) rfl (fun hr => by
      let A : Around := X.A
      refine ⟨_, PSs.nox (pss_one (ps_ret (pe_callB call_iterD (by rfl) T.f (by decide +kernel) (pa_cons (fldK (K := X.K) rfl (pv 0) rfl) pa_nil)))), ?_⟩
      walk_at "rs"
      walk_at "rd"
      exact ⟨a, _, dx, _, _, rfl, ea, T.c "Library", T.n "Library" "own_wishes", l, d, o, kvs, rfl, hd, fun it hit hle => ⟨it, rfl, hit, hle, rfl⟩⟩)
  refine wpAny_call (codeAny_mono rc fun r s2 hq => ?_)
  cases r with
  | error e => exact (show False from hq).elim
  | ok fl =>
    cases fl with
    | next => exact False.elim hq
    | brk => exact False.elim hq
    | cont => exact False.elim hq
    | ret u =>
      obtain ⟨v, H', I3, rv, it, rfl, hit, hle, rfl⟩ := I1.after hq
      obtain rfl : u = Value.ref it := rv
      have ok : ObjOk X.prog X.w (upd H1 it (KeO o d it kvs.length)) s2.heap it (KeO o d it kvs.length) := I3.hok it _ upd_same
      obtain ⟨⟨es, ep, hdt, hk⟩, _⟩ := id ok
      have hT : s2.TypeIs (.ref it) "dict_keyiterator" := hk.typeIs
      have I4 := ItX.inv_drop I3 (a := it) (by rw [upd_same]; rfl)
      have fp := ItX.inv_fp I3 (a := it) upd_same (Nat.le_trans I1.sz hle)
      rw [ItX.dropH_upd hit] at I4 fp
      unfold PySem.W.OwitIt
      refine wpAny_specialOf hT F.slot_dict_keyiterator_next.lookup ?_
      refine ⟨it, [it], _, _, H1, rfl, I4, turn_keys it hdt, hk, fun b hb => ?_, q⟩
      have e : b = it := by simpa using hb
      rw [e]
      exact fp
end Lst

/-! ## LTry -/
namespace Lst
open PySem PySem.Spec PyProof.Rows L2
/-! ### err.f, err the handled exception that the context bears -/
theorem pe_xfG {X : Cx} {a C : Addr} {oe : Obj} {cls : Value} {d : Option Addr} {e : Expr} {te : TE} {pos : Pos} {n : Str} (T : XfC X.K C) (hno : PySem.W.findIn X.K (.ref C) n = some none) (hm : (a, oe) ∈ X.pn)
    (hz : Zc cls d oe) (hf : ∃ vs, oe.data = .fields vs) (he : PE X e te) (hb : attributeBase e n X.env (eval e X.env) = eval e X.env := by rfl) : PE X (.Attribute e n pos) (tXf a cls d C n te) := by
  refine ⟨fun pins s σ H Q I h => ?_⟩
  refine attr_of hb (thn (he.run pins s σ H _ I h) fun u s1 hh => ?_)
  obtain ⟨x, H1, I1, rx, ex, ec, dd, fs, v, ed, ea, l, q⟩ := hh
  subst ex
  obtain rfl : u = Value.ref a := rx
  subst ec
  subst ed
  obtain ⟨ha, _⟩ := I1.pin (a, oe) (List.mem_append_left _ hm)
  obtain ⟨vs, hd⟩ := hf
  have hx : ObjOk X.prog X.w H1 s1.heap dd (.xd fs) := I1.hok dd _ ea
  obtain ⟨mA, hns, hr⟩ := hx
  obtain ⟨od, ho, hl⟩ := lookIn_ns hns
  obtain ⟨u, hu, ru⟩ := RelO.some_of (v := v) (o := mA n) (by rw [← l]; exact hr n)
  have J : PySem.W.InstAt s1.heap a oe C (some od) := ⟨ha, hz.1, by unfold PySem.W.notCls; rw [hd] <;> rfl, by rw [hz.2]; exact ho⟩
  exact HandSPX.exc_get I1.kIn J T.ga T.gg T.exC (PySem.W.findObj_own T.hdC hno rfl (by rw [hl, hu])) (handed_of ru) ⟨v, H1, I1.tok _, ru, q⟩
/-! ### a def called in an except suite, its promise told of the very exception -/
theorem run_ofH {CX : CXT} {P : Program} {w : World} {K : PySem.W.Frag} {mg : Str → Option Value} {base : Heap} {k : Nat} {f : Addr} {name qual : Str} {params : Arguments} {body : List Stmt} {scope : Scope} {dV kV doc pm cdv ct oc : Value} {an od : Option Addr}
    {osl : Array (Option Value)} {N ps : List Str} (lk : K.lookup f = some ⟨oc, od, .func (PySem.W.fnOf name qual params body scope dV kV doc pm an cdv ct), osl⟩) (hcd : PySem.W.codeIn K cdv qual = true) (S : FnScope N ps scope)
    {A : Around} {outer : List Env} {s : Shared} {H : Hp} {args : Args} {us : List Value} {vs : List V} {Q : VK} {E : XK} {p : Addr × Obj} (hr : L2H.RoomH (k + 1) A) (hpin : L2H.PinOk outer H s p) (e0 : Env0 P w K mg base A outer s H)
    (hb : BindsTo s (PySem.W.fnOf name qual params body scope dV kV doc pm an cdv ct) args (ps.zip us)) (r : Vals vs us) (hl : vs.length = ps.length)
    (hbody : L2H.RoomH k (A.deeper (envOfC qual scope s.heap.objs.size f cdv)) → ∃ t, PSs (L2H.cxH CX P w K mg base N qual scope f cdv A outer s H E p) body t ∧ t { nx := fun _ H' => Q .non H', rt := Q } (L2.start N vs) H) :
    codeAny (model P w) A (.call (.ref f) args) (CR CX outer P w H s Q E) s := by
  have KX : K.In s.heap := e0.mod.kin.keeps fun b o e => (e0.bs b o e).1
  have lim : s.heap.NoLimit := e0.mod.nolimit.keeps fun b o e => (e0.bs b o e).1
  have hkind : ∀ y ∈ ps.zip us, scope.names.lookup y.1 = some .local ∨ (scope.names.lookup y.1 = some .cell ∧ ((cellsFrom (s.heap.objs.size + 1) scope.names []).lookup y.1).isSome = true) := fun ⟨n, v⟩ hy => by
    rcases S.par n (List.of_mem_zip hy).1 with q | q
    · exact .inl q
    · exact .inr ⟨q, PySem.W.cellsFrom_some _ _ _ (.inl q)⟩
  refine codeAny_call_function hr.depth (KX _ _ lk) rfl S.co S.gen rfl (PySem.W.codeRec_of KX hcd) (hb _ _ _ _ ?_)
  refine wpAny_newFunctionEnv_cells S.kind hkind fun env he s1 x => ?_
  subst he
  refine ⟨lim.keeps x.toInCall.keep, codeAny_func ?_⟩
  obtain ⟨t, ht, hq⟩ := hbody (hr.deeper _)
  have I : Inv (L2H.cxH CX P w K mg base N qual scope f cdv A outer s H E p) [] (L2.start N vs) H s1 := L2H.inv_startH S hpin e0 hl r x
  refine wpAny_mono (ht.run [] s1 (L2.start N vs) H _ I hq) (fun fl s' hs => ?_) fun e s' hs => hs
  have fin : ∀ {σ' : L2.St} {H' : Hp} {v : V} {u : Value}, Inv (L2H.cxH CX P w K mg base N qual scope f cdv A outer s H E p) [] σ' H' s' → L2.RelV v u → Q v H' → CE outer P w H s Q u s' :=
    fun {σ' H' v u} J rv q => ⟨v, H', J.os, J.bare, J.base, J.hok, rv, q⟩
  cases fl with
  | ret u =>
    obtain ⟨v, σ', H', J, rv, q⟩ := hs
    exact fin J rv q
  | next =>
    obtain ⟨σ', H', J, q⟩ := hs
    exact fin (v := V.non) (u := Value.none) J rfl q
  | brk =>
    obtain ⟨_, _, _, q⟩ := hs
    exact False.elim q
  | cont =>
    obtain ⟨_, _, _, q⟩ := hs
    exact False.elim q
/-! ### try: body, except (x1, x2) as n: suite; one of the two it is -/
/-- what the clause wishes of an exception of the body: slot i is n's -/
def wAs2 (K : PySem.W.Frag) (m : Nat) (c1 c2 : Value) (i : Nat) (ts : Addr → Value → Option Addr → TS) (D : Ends) : WX := fun cls d σ H =>
  PySem.W.exmAny K cls [c1, c2] = some true ∧ (σ.length = m → ∀ a, H a = none → ts a cls d { nx := fun σ' H' => D.nx (σ'.set i none) H', rt := D.rt, bk := fun σ' H' => D.bk (σ'.set i none) H', ct := fun σ' H' => D.ct (σ'.set i none) H' } (σ.set i (some (.ref a))) H)
theorem fly_keeps {base h h' : Heap} {l : List Env} {e : Addr} {Z : Obj → Prop} (x : HandSPX.FlyingZ base l e Z h) (k : ∀ b o, h.get? b = some o → h'.get? b = some o) : HandSPX.FlyingZ base l e Z h' := by
  obtain ⟨f1, f2, f3, oe, vs, T, oT, ts, he, hz, hd, h1, hnT, hTe, hT, hdT, h3⟩ := x
  exact ⟨fun b o z => k _ _ (f1 b o z), f2, f3.of_keeps fun b o hb hnf => ⟨o, k b o hb, rfl⟩, oe, vs, T, oT, ts, k _ _ he, hz, hd, h1, hnT, hTe, k _ _ hT, hdT, h3⟩
section
variable {X : Cx} {x1 x2 n : Str} {c1 c2 : Value} {i kk : Nat} {body suite : List Stmt} {b₀ : Stmt} {np1 np2 tpos pos pos' : Pos} {tb : WX → TS} {ts : Addr → Value → Option Addr → TS}
theorem ps_try_as2 (hs : X.stack = X.env :: X.outer) (hf : X.env.frame = some X.env.locals) (hN : X.N.Nodup) (hi : X.N[i]? = some n) (hln : X.env.kindOf n = some .local)
    (hg1 : Gl X x1) (hm1 : X.mg x1 = some c1) (hdb1 : (x1 == ("__debug__" : Str)) = false) (hg2 : Gl X x2) (hm2 : X.mg x2 = some c2) (hdb2 : (x2 == ("__debug__" : Str)) = false)
    (hb : ∀ (W : WX) (pn : List (Addr × Obj)) (xe : Value → Shared → Prop), Takes (X.tr pn xe) W → PassesOwn (model X.prog X.w) X.A X.env xe → PSs (X.tr pn xe) body (tb W))
    (hsu : ∀ (a : Addr) (oe : Obj) (cls : Value) (d : Option Addr) (pn : List (Addr × Obj)), Zc cls d oe → (∃ vs, oe.data = .fields vs) → PSs (X.suite a ((a, oe) :: pn)) (b₀ :: suite) (ts a cls d)) :
    PS X (.Try body [.ExceptHandler (some (.Tuple [.Name x1 np1, .Name x2 np2] kk tpos)) (some n) (b₀ :: suite) pos'] [] [] pos) (fun D σ H => tb (wAs2 X.K X.N.length c1 c2 i ts D) D σ H) := by
  refine ⟨fun pins s σ H D I h => ?_⟩
  have ok := I.ok
  have hfr : X.A.frames = some (X.env :: X.outer) := by rw [ok.frames, hs]
  have hloc : Loc X.env.scope n := .inl hln
  refine wpAny_Try_except ?_
  refine wpAny_mono ((hb (wAs2 X.K X.N.length c1 c2 i ts D) (X.pn ++ pins) (fun e s₁ => wpAny (model X.prog X.w) X.A (noteFrame e X.env) (fun _ s₂ => wpAny (model X.prog X.w) X.A (setFlight e none) (fun _ s₃ =>
    wpAny (model X.prog X.w) X.A (handleBy e X.env [.ExceptHandler (some (.Tuple [.Name x1 np1, .Name x2 np2] kk tpos)) (some n) (b₀ :: suite) pos']) (SP X pins D) X.xe s₃) X.xe s₂) X.xe s₁) (fun u s' xx => ?_) PassesOwn.looking).run [] s σ H D (I.toTry _) h) (fun f s1 hsp => ?_) (fun e s1 he => he)
  · -- the catch
    obtain ⟨a, B, sI, pins', σ', H', cls, d, rfl, J', nb, up, sky, na, os, ag, hb1, hyes⟩ := xx
    have J : Inv X pins σ' H' sI := J'.ofTry ok
    have sky' : Sky B (X.env :: X.outer) a (Zc cls d) X.env.locals s'.heap := by rw [← hs]; exact sky
    show wpAny (model X.prog X.w) X.A (noteFrame (.ref a) X.env) _ _ _
    refine Sky.land Zc.steady hfr hf sky' fun h3 fl3 up3 => ?_
    have J3 : Inv X pins σ' H' { s' with heap := h3 } := J.landed nb fl3.1 (up.trans up3) os ag
    obtain ⟨oe3, vs3, he3, hz3, hd3⟩ := fl3.there
    have notFr : ∀ {h : Heap} {o : Obj} {vs : Array Value}, h.FunFrames B (X.env :: X.outer) → h.get? a = some o → o.data = .fields vs → a ∉ frs (X.env :: X.outer) := fun {h o vs} ff e dd hm => by
      obtain ⟨_, o', e', hnf⟩ := ff.mem hm
      rw [e] at e'; cases e'
      exact hnf _ dd
    have nfr := notFr fl3.2.2.1 he3 hd3
    have nL : a ≠ X.env.locals := fun z => nfr (List.mem_filterMap.mpr ⟨X.env, List.mem_cons_self, by rw [hf, z]⟩)
    have nF : a ∉ X.fs := fun hm => by
      obtain ⟨e, he, q⟩ := List.mem_filterMap.mp hm
      exact nfr (List.mem_filterMap.mpr ⟨e, List.mem_cons_of_mem _ he, q⟩)
    have S3 := J3.suite he3 hd3 na nL nF
    refine wpAny_handleBy_cons (codeAny_handlers_test ?_) (by intro q; cases q)
    have LT : PySem.W.Looks (model X.prog X.w) h3 (typeOf (.ref a)) cls := fun A Q E s k q => wpAny_typeOf_ref (k _ _ he3) (by rw [hz3.1]; exact q)
    have kp : ∀ q o, h3.get? q = some o → (h3.push { cls := .type "tuple", data := .seq [c1, c2].toArray }).get? q = some o := fun _ _ z => Heap.get?_push_of_some _ z
    refine wpAny_Tuple ?_
    refine wpAny_items_cons (ld_glob (X := X.suite a ((a, oe3) :: (X.pn ++ pins))) S3 hg1 hm1 ?_ hdb1)
    refine wpAny_items_cons (ld_glob (X := X.suite a ((a, oe3) :: (X.pn ++ pins))) S3 hg2 hm2 ?_ hdb2)
    refine wpAny_items_nil ⟨by size_fits, ?_⟩
    refine (PySem.W.exm_tup2 ((J3.kIn).keeps kp) (LT.keeps kp) (Heap.get?_push_size h3 rfl) hb1).here ?_
    refine codeAny_handlers_suite_as ?_
    have fl3' := fly_keeps fl3 kp
    refine HandSPX.lands_againZ fl3' fun h4 fl4 up4 => ?_
    have J4 : Inv X pins σ' H' { s' with heap := h4 } := J.landed nb fl4.1 (((up.trans up3).trans (Heap.UpToSlots.of_keeps kp)).trans up4) os ag
    obtain ⟨oe4, vs4, he4, hz4, hd4⟩ := fl4.there
    have S4 := J4.suite he4 hd4 na nL nF
    refine store_ok (X := X.suite a ((a, oe4) :: (X.pn ++ pins))) (v := .ref a) S4 hN hi hloc rfl (fun s5 S5 => ?_) (.inr hln)
    refine wpAny_mono ((hsu a oe4 cls d (X.pn ++ pins) hz4 ⟨_, hd4⟩).run [] s5 _ H' _ S5 (hyes J.len a na)) (fun f s6 hsp => ?_) (fun _ _ z => False.elim z)
    have end_ : ∀ {σ6 : L2.St} {H6 : Hp} {Q : Shared → Prop}, Inv (X.suite a ((a, oe4) :: (X.pn ++ pins))) [] σ6 H6 s6 → (∀ s7, Inv X pins (σ6.set i none) H6 s7 → Q s7) →
        wpAny (model X.prog X.w) X.A (do bindName X.env n .none; unbindBehindTheSuite X.env n pos') (fun _ s7 => Q s7) X.xe s6 := fun {σ6 H6 Q} S6 hq => gone_ok (S6.unsuite ok) hN hi hln hq
    cases f with
    | next =>
      obtain ⟨σ6, H6, S6, q6⟩ := hsp
      exact end_ S6 fun s7 J7 => ⟨_, _, J7, q6⟩
    | brk =>
      obtain ⟨σ6, H6, S6, q6⟩ := hsp
      exact end_ S6 fun s7 J7 => ⟨_, _, J7, q6⟩
    | cont =>
      obtain ⟨σ6, H6, S6, q6⟩ := hsp
      exact end_ S6 fun s7 J7 => ⟨_, _, J7, q6⟩
    | ret u =>
      obtain ⟨v6, σ6, H6, S6, r6, q6⟩ := hsp
      exact end_ S6 fun s7 J7 => ⟨_, _, _, J7, r6, q6⟩
  · cases f with
    | next =>
      obtain ⟨σ', H', J', q⟩ := hsp
      exact wpAny_execs_nil ⟨σ', H', J'.ofTry ok, q⟩
    | brk =>
      obtain ⟨σ', H', J', q⟩ := hsp
      exact ⟨σ', H', J'.ofTry ok, q⟩
    | cont =>
      obtain ⟨σ', H', J', q⟩ := hsp
      exact ⟨σ', H', J'.ofTry ok, q⟩
    | ret u =>
      obtain ⟨v, σ', H', J', r, q⟩ := hsp
      exact ⟨v, σ', H', J'.ofTry ok, r, q⟩
end
/-- what the written part says of the exceptions as they are caught -/
structure Txt5 (K : PySem.W.Frag) : Prop where
  xf : ∀ x ∈ (["UnknownName", "NothingLeft"] : List Str), XfC K (He.ga K x)
  noN : ∀ x ∈ (["UnknownName", "NothingLeft"] : List Str), PySem.W.findIn K (.ref (He.ga K x)) "name" = some none
  noC : ∀ x ∈ (["UnknownName", "NothingLeft"] : List Str), PySem.W.findIn K (.ref (He.ga K x)) "code" = some none
  ex : ∀ x ∈ (["UnknownName", "NothingLeft"] : List Str), PySem.W.exmAny K (.ref (He.ga K x)) [.ref (He.ga K "SlipError"), .ref (He.ga K "Missing")] = some true
  seq : PySem.W.noSeq K (He.ga K "Library") = true
/-- _law_field(e) in the except suite -/
def tField (a : Addr) (cls : Value) (d : Option Addr) (C : Addr) (t : TA) : TE := fun σ H Q => t σ H fun vs H1 => vs = [.ref a] ∧ cls = .ref C ∧ ∃ (dd : Addr) (fs : List (Str × V)) (c : Str), d = some dd ∧ H1 dd = some (.xd fs) ∧ fs.lookup ("code" : Str) = some (.str c) ∧
  (c = "UnknownName" → ∃ n, fs.lookup ("name" : Str) = some n ∧ ∀ p, H1 p = none → Q (.ref p) (upd H1 p (.tup [n]))) ∧ (c ≠ "UnknownName" → ∀ p, H1 p = none → Q (.ref p) (upd H1 p (.tup [])))
section
variable {X : Cx} {e : Expr} {es : List Expr} {ta : TA} {q pos : Pos}
theorem pe_field {K : PySem.W.Frag} {mg : Str → Option Value} (hK : X.K = K) (hmg : X.mg = mg) (T : Txt K mg) (T5 : Txt5 K) {x : Str} (hx : x ∈ (["UnknownName", "NothingLeft"] : List Str)) {a : Addr} {oe : Obj} {cls : Value} {d : Option Addr} (hz : Zc cls d oe) (hf : ∃ vs, oe.data = .fields vs) (hm : (a, oe) ∈ X.pn) (hr : L2H.RoomH 2 X.A)
    (hg : Gl X "_law_field") (ha : PA X (e :: es) ta) (he : starEach (e :: es) X.env = (false, eval e X.env) :: starEach es X.env := by rfl) (hpl : (backTo pos (starEach es X.env)).any (·.1) = false := by rfl) :
    PE X (.Call (.Name "_law_field" q) (e :: es) [] pos) (tField a cls d (He.ga K x) ta) := by
  subst hK
  subst hmg
  refine ⟨fun pins s σ H Q I h => ?_⟩
  refine wpAny_Call_Name_kw (ld_glob I hg (T.g "_law_field") ?_ (by decide))
  refine PySem.W.callWith_K (h₀ := X.base) I.ok.mod.kin (T.k "_law_field") (thn (ha.run pos pins s σ H _ I h) fun us s1 ⟨vs, H1, I1, r, q⟩ => ⟨I1.kIn, ?_⟩) he hpl
  obtain ⟨rfl, ec, dd, fs, c, ed, hdd, hc, k1, k2⟩ := q
  obtain ⟨oc, od', dV, kV, doc, pm, an, cdv, ct, osl, efd, lk, hcd, hD, _⟩ := (T.f_l_field).ex
  obtain rfl : dV = .none := hD.elim (fun z => z.2) fun z => absurd rfl z.1
  rw [efd] at lk
  have b := T.b_l_field
  rw [efd] at b
  have b2 := b s1 us I1.kIn (by rw [List.append_nil, ← r.length]; rfl)
  rw [List.append_nil] at b2
  have P1 := I1.pin (a, oe) (List.mem_append_left _ hm)
  have hpin : L2H.PinOk X.stack H1 s1 (a, oe) := ⟨P1.1, P1.2.1, fun hm => (List.mem_cons.mp (I1.stkSub a hm)).elim P1.2.2.1 P1.2.2.2.1, P1.2.2.2.2⟩
  have rc := run_ofH (CX := C8.CX0) (P := X.prog) (w := X.w) (mg := X.mg) (base := X.base) (k := 1) (N := N_l_field) (ps := P_l_field) (A := X.A) (outer := X.stack) (H := H1) (vs := [.ref a]) (E := C8.E0) (Q := Q) (p := (a, oe)) lk hcd sc_l_field hr hpin I1.env0 b2 r rfl (fun hr2 => by
      refine ⟨_, PSs.nox (pss_cons (ps_if (pt_cmpR op_eq (pe_xfG (T5.xf x hx) (T5.noC x hx) (List.mem_singleton.mpr rfl) hz hf (pv 0)) pe_str (nomark _)) (pss_one (ps_ret (pe_tup (pa_cons (pe_xfG (T5.xf x hx) (T5.noN x hx) (List.mem_singleton.mpr rfl) hz hf (pv 0)) pa_nil)))) pss_nil)
        (pss_one (ps_ret (pe_tup pa_nil)))), ?_⟩
      walk_at "rs"
      walk_at "rd"
      refine ⟨ec, dd, fs, _, ed, hdd, hc, ?_⟩
      walk_at "rd"
      by_cases ce : c = "UnknownName"
      · obtain ⟨n, hn, k⟩ := k1 ce
        rw [if_pos (by rw [ce]; exact decide_eq_true rfl)]
        refine ⟨_, rfl, rfl, ec, dd, fs, _, ed, hdd, hn, by walk_at "sz", k⟩
      · rw [if_neg (by rw [decide_eq_false (fun z => ce (V.str.inj z))]; exact Bool.false_ne_true)]
        exact ⟨by walk_at "sz", k2 ce⟩)
  refine wpAny_call (codeAny_mono rc fun r s2 hq => ?_)
  cases r with
  | error e => exact (show False from hq).elim
  | ok fl =>
    cases fl with
    | ret u => exact I1.after hq
    | next => exact False.elim hq
    | brk => exact False.elim hq
    | cont => exact False.elim hq
end
end Lst

/-! ## LTry2 -/
namespace Lst
open PySem PySem.Spec PyProof.Rows L2
/-- _law_try(a): a() raises the own exception x, its code (and name) is handed on -/
def TTry (K : PySem.W.Frag) (x : Str) : (XK → Hp → VK → Prop) → Hp → VK → Prop := fun tl H Q =>
  tl (fun cls d H' => cls = .ref (He.ga K x) ∧ ∃ (dd : Addr) (fs : List (Str × V)) (c : Str), d = some dd ∧ H' dd = some (.xd fs) ∧ fs.lookup ("code" : Str) = some (.str c) ∧
      (c = "UnknownName" → ∃ n, fs.lookup ("name" : Str) = some n ∧ ∀ H'' p, Same H' H'' → H'' p = some (.tup [.str c, n]) → Q (.ref p) H'') ∧ (c ≠ "UnknownName" → ∀ H'' p, Same H' H'' → H'' p = some (.tup [.str c]) → Q (.ref p) H''))
    H (fun v H' => 2 ≤ sizeLine ∧ ∀ p, H' p = none → Q (.ref p) (upd H' p (.tup [.str "", v])))
theorem room_mark {k : Nat} {A : Around} (r : Room k A) (v : Option Value) : L2H.RoomH k (A.mark v) := ⟨r.dp, r.un⟩
theorem try_gives {X : Cx} (T : Txt X.K X.mg) (T5 : Txt5 X.K) {x : Str} (hx : x ∈ (["UnknownName", "NothingLeft"] : List Str)) (hr : Room 3 X.A) {g : Addr} {cdg : Value} {q : Str} :
    LamX.GivesTo X N_l_try "_law_try" (defScope s_l_try) g cdg (defBody s_l_try) "_law_ask" q (TTry X.K x) := by
  intro f c' s H Q tl act hc h
  refine ⟨_, pss_one (ps_try_as2 (X := (cxOf C8.CX0 X.prog X.w X.K X.mg X.base N_l_try "_law_try" (defScope s_l_try) g cdg X.A X.stack s H C8.E0).nox) (i := 1) (n := "_law_e") (c1 := .ref (He.ga X.K "SlipError")) (c2 := .ref (He.ga X.K "Missing"))
      (tb := fun W D σ H => ∃ Ech : XK, (∀ cls d σ' H', Ech cls d H' → W cls d σ' H') ∧ σ[0]? = some (some (.ref f)) ∧ H c' = some (LamX.CodeO c' q) ∧ tl Ech H (fun v H' => 2 ≤ sizeLine ∧ ∀ p, H' p = none → D.rt (.ref p) (upd H' p (.tup [.str "", v]))))
      rfl rfl sc_l_try.nd rfl rfl (by rfl) (T.g "SlipError") (by decide) (by rfl) (T.g "Missing") (by decide) (fun W pn xe tk _ => ?_) (fun a oe cls d pn hz hf => pss_one (ps_ret (pe_op (catAK (K := X.K) rfl) (pe_tup (pa_cons (pe_xfG (T5.xf x hx) (T5.noC x hx) List.mem_cons_self hz hf (pv 1)) pa_nil))
        (pe_field (by rfl) (by rfl) T T5 hx hz hf List.mem_cons_self ?_ (by rfl) (pa_cons (pv 1) pa_nil)))))), ?_⟩
  · refine ⟨fun pins s' σ H' D I h' => ?_⟩
    obtain ⟨Ech, hW, h1, h2, h3⟩ := h'
    exact (pss_one (ps_ret (pe_tup (pa_cons pe_str (pa_cons (act W pn xe Ech _ _ tk hW) pa_nil))))).run pins s' σ H' D I ⟨h1, h2, h3⟩
  · exact room_mark (hr.deeper _) _
  · refine ⟨_, fun cls d σ' H' hE => ?_, rfl, hc, h⟩
    obtain ⟨ec, dd, fs, c, ed, hdd, hco, k1, k2⟩ := hE
    refine ⟨by rw [ec]; exact T5.ex x hx, fun hl a na => ?_⟩
    have s1 : (σ'.set 1 (some (.ref a)))[1]? = some (some (.ref a)) := List.getElem?_set_self (by rw [hl]; exact (by decide : 1 < N_l_try.length))
    refine ⟨.ref a, s1, rfl, ec, dd, fs, _, ed, hdd, hco, by walk_at "sz", fun t1 ht1 => ⟨.ref a, s1, rfl, ec, dd, fs, c, ed, ?_, hco, fun e => ?_, fun e => ?_⟩⟩
    · rw [upd_ne (ne_of_none hdd ht1)]
      exact hdd
    · obtain ⟨n, hn, kk⟩ := k1 e
      refine ⟨n, hn, fun p hp => ?_⟩
      have n1 : t1 ≠ p := ne_of_none upd_same hp
      refine ⟨t1, p, [.str c], [n], rfl, rfl, sqt (by rw [upd_ne n1, upd_same]), sqt upd_same, (by show 1 + 1 ≤ sizeLine; decide), (fun z => by cases z), (fun _ z => by cases z), fun _ _ r hr => kk _ r (fun b u hb => ?_) upd_same⟩
      have hb1 : upd H' t1 (HO.tup [V.str c]) b = some u := by
        rw [upd_ne (ne_of_none hb ht1)]
        exact hb
      have hb2 : upd (upd H' t1 (HO.tup [V.str c])) p (HO.tup [n]) b = some u := by
        rw [upd_ne (ne_of_none hb1 hp)]
        exact hb1
      rw [upd_ne (ne_of_none hb2 hr)]
      exact hb2
    · intro p hp
      have n1 : t1 ≠ p := ne_of_none upd_same hp
      refine ⟨t1, p, [.str c], [], rfl, rfl, sqt (by rw [upd_ne n1, upd_same]), sqt upd_same, (by show 1 + 0 ≤ sizeLine; decide), (fun z => by cases z), (fun _ _ => k2 e _ t1 (fun b u hb => ?_) (by rw [upd_ne n1, upd_same])), fun _ z => absurd rfl z⟩
      have hb1 : upd H' t1 (HO.tup [V.str c]) b = some u := by
        rw [upd_ne (ne_of_none hb ht1)]
        exact hb
      rw [upd_ne (ne_of_none hb1 hp)]
      exact hb1
end Lst

/-! ## LLike -/
namespace Lst
open PySem PySem.Spec PyProof.Rows L2
def iZipK (K : PySem.W.Frag) (ta : TA) : TI := fun σ H R => ta σ H fun vs H1 => ∃ a b xs ys, vs = [.ref a, .ref b] ∧ ((SqL K H1 a xs ∧ SqL K H1 b ys ∧ R (Itz K a b) H1) ∨ (SqT K H1 a xs ∧ SqT K H1 b ys ∧ R (RZ.ItzT K a b) H1))
theorem pi_zipK {X : Cx} {K : PySem.W.Frag} {e e2 : Expr} {ta : TA} {p pos tpos : Pos} {elts : List Expr} {kk : Nat} (hK : X.K = K) (hg : Gl X "zip") (hm : X.mg "zip" = none) (ha : PA X [e, e2] ta)
    (hs : starEach [e, e2] X.env = (false, eval e X.env) :: starEach [e2] X.env := by rfl) (hpl : (backTo pos (starEach [e2] X.env)).any (·.1) = false := by rfl) :
    PI X (.Tuple elts kk tpos) (.Call (.Name "zip" p) [e, e2] [] pos) (iZipK K ta) := by
  subst hK
  exact RZ.pi_zipA hg hm ha hs hpl
/-- two values alike, part by part, d deep -/
def Alike : Nat → Hp → V → V → Prop
  | 0, _, v, w => v = w ∧ ((∃ n, v = .int n) ∨ (∃ z, v = .str z) ∨ ∃ b, v = .bl b)
  | d + 1, S, v, w => Alike d S v w ∨ ∃ a b xs ys, v = .ref a ∧ w = .ref b ∧ xs.length ≤ 1000 ∧ (S a = some (.lst xs) ∧ S b = some (.lst ys) ∨ S a = some (.tup xs) ∧ S b = some (.tup ys)) ∧ Paired (Alike d S) xs ys
theorem Alike.mono {S S' : Hp} (h : Same S S') : ∀ {d : Nat} {v w : V}, Alike d S v w → Alike d S' v w
  | 0, v, w, t => t
  | d + 1, v, w, .inl t => .inl (Alike.mono h t)
  | d + 1, v, w, .inr ⟨a, b, xs, ys, e1, e2, l, e, p⟩ => .inr ⟨a, b, xs, ys, e1, e2, l, e.imp (fun z => ⟨h _ _ z.1, h _ _ z.2⟩) (fun z => ⟨h _ _ z.1, h _ _ z.2⟩), L2.Paired.mapP p fun _ _ z => Alike.mono h z⟩
theorem al_int {S : Hp} (n : Int) : Alike 0 S (.int n) (.int n) := ⟨rfl, .inl ⟨n, rfl⟩⟩
theorem al_str {S : Hp} (z : Str) : Alike 0 S (.str z) (.str z) := ⟨rfl, .inr (.inl ⟨z, rfl⟩)⟩
theorem al_bl {S : Hp} (b : Bool) : Alike 0 S (.bl b) (.bl b) := ⟨rfl, .inr (.inr ⟨b, rfl⟩)⟩
def sp_like (d : Nat) : Sp := fun vs H Q _ => ∃ (v w : V) (S : Hp), vs = [v, w] ∧ Alike d S v w ∧ Same S H ∧ ∀ H', Same H H' → Q (.bl true) H'
section
variable {K : PySem.W.Frag} {H : Hp} {v : V} {n m : String} {Q : VK}
theorem isi2 {b : Bool} (hv : TyX K H v (.type n)) (e : kitB n m = some b) (q : Q (.bl b) H) : rIsi K [v, .ty m] H Q := ⟨v, .ty m, .type n, .type m, b, rfl, .ty _, hv, kit_ty e, q⟩
theorem isi2T {b1 b2 : Bool} {p : Addr} (hv : TyX K H v (.type n)) (hp : H p = some (.tup [.ty "list", .ty "tuple"])) (e1 : kitB n "list" = some b1) (e2 : kitB n "tuple" = some b2) (q : Q (.bl (b1 || b2)) H) : rIsiT K [v, .ref p] H Q := by
  refine ⟨v, p, _, .type n, [.type "list", .type "tuple"], b1 || b2, rfl, hp, .cons (.ty _) (.cons (.ty _) .nil), hv, ?_, q⟩
  refine kitAny_cons (kit_ty e1) (fun z => ?_) (fun z => by rw [z]; rfl)
  refine kitAny_cons (kit_ty e2) (fun z2 => ?_) (fun z2 => by rw [z2, Bool.or_true])
  rw [z, z2]
  rfl
end
section
variable {P : Program} {w : World} {K : PySem.W.Frag} {mg : Str → Option Value} {base : Heap}
theorem ok_like0 (T : Txt K mg) (G_l_like : OkG P w K mg base CX0 1 "_law_like" P_l_like (fun _ _ _ _ => False)) : OkG P w K mg base CX0 2 "_law_like" P_l_like (sp_like 0) := by
  refine (T.f_l_like).ok sc_l_like (fun vs H Q E h => ?_) (fun cdv A outer s H vs Q E hr h => ?_)
  · obtain ⟨v, w, S, rfl, _⟩ := h
    rfl
  · obtain ⟨v, w, S, rfl, ⟨rfl, ha⟩, hS, k⟩ := h
    obtain ⟨n, b3, b4, b5, hv, e1, e2, e3, e4, e5, hne, hsc⟩ : ∃ (n : String) (b3 b4 b5 : Bool), (∀ H', TyX K H' v (.type n)) ∧ kitB n "list" = some false ∧ kitB n "tuple" = some false ∧ kitB n "bool" = some b3 ∧ kitB n "int" = some b4 ∧ kitB n "str" = some b5 ∧ v ≠ .non ∧ scal v v = true := by
      rcases ha with ⟨n, rfl⟩ | ⟨z, rfl⟩ | ⟨b, rfl⟩
      · exact ⟨"int", false, true, false, fun _ => .base (.int n), by decide +kernel, by decide +kernel, by decide +kernel, by decide +kernel, by decide +kernel, (fun z => by cases z), rfl⟩
      · exact ⟨"str", false, false, true, fun _ => .base (.str z), by decide +kernel, by decide +kernel, by decide +kernel, by decide +kernel, by decide +kernel, (fun z => by cases z), rfl⟩
      · exact ⟨"bool", true, true, false, fun _ => .base (.bl b), by decide +kernel, by decide +kernel, by decide +kernel, by decide +kernel, by decide +kernel, (fun z => by cases z), rfl⟩
    clear ha
    refine ⟨_, PSs.nox (pss_cons (ps_if (pt_val (pe_callB (isiTK (K := K) rfl) (by rfl) T.f (by decide +kernel) (pa_cons (pv 1) (pa_cons (pe_tup (pa_cons (pe_bltn (v := .ty "list") (by rfl) T.f (by decide +kernel) rfl) (pa_cons (pe_bltn (v := .ty "tuple") (by rfl) T.f (by decide +kernel) rfl) pa_nil))) pa_nil)))) (pss_cons (ps_set (i := 2) sc_l_like.nd rfl (Or.inl rfl) (pe_and (pe_cmpR op_eq (pe_callB (isiK (K := K) rfl) (by rfl) T.f (by decide +kernel) (pa_cons (pv 0) (pa_cons (pe_bltn (v := .ty "list") (by rfl) T.f (by decide +kernel) rfl) pa_nil))) (pe_callB (isiK (K := K) rfl) (by rfl) T.f (by decide +kernel) (pa_cons (pv 1) (pa_cons (pe_bltn (v := .ty "list") (by rfl) T.f (by decide +kernel) rfl) pa_nil))) (nomark _)) (pe_one (pe_cmpR op_eq (pe_callB (isiK (K := K) rfl) (by rfl) T.f (by decide +kernel) (pa_cons (pv 0) (pa_cons (pe_bltn (v := .ty "tuple") (by rfl) T.f (by decide +kernel) rfl) pa_nil))) (pe_callB (isiK (K := K) rfl) (by rfl) T.f (by decide +kernel) (pa_cons (pv 1) (pa_cons (pe_bltn (v := .ty "tuple") (by rfl) T.f (by decide +kernel) rfl) pa_nil))) (nomark _)))))
        (pss_one (ps_ret (pe_and (pv 2) (pe_and (pe_cmpR op_eq (pe_callB (lenK (K := K) rfl) (by rfl) T.f (by decide +kernel) (pa_cons (pv 0) pa_nil)) (pe_callB (lenK (K := K) rfl) (by rfl) T.f (by decide +kernel) (pa_cons (pv 1) pa_nil)) (nomark _)) (pe_one (pe_callB (allK (K := K) rfl rfl) (by rfl) T.f (by decide +kernel) (pa_cons (pe_lc (own := [("_law_c", 3), ("_law_d", 4)]) (g := (gTup K 2 (gCons (gName 3) (gCons (gName 4) gNil)))) (tt := tYes) rfl sc_l_like.nd (pi_zipK (K := K) rfl (by rfl) T.f (pa_cons (pv 0) (pa_cons (pv 1) pa_nil))) (by first | exact blkOk_by (N := N_l_like) (sc := defScope s_l_like) (by decide +kernel) | exact blkOk_by (N := N_l_like) (sc := { kind := .function, names := [], isGenerator := false, isCoroutine := false }) (by decide +kernel)) (fun _ _ _ _ _ => (pg_tupK (K := K) (n := 2) rfl rfl (pgs_cons (pg_name (i := 3) sc_l_like.nd rfl (Or.inl rfl)) (pgs_cons (pg_name (i := 4) sc_l_like.nd rfl (Or.inl rfl)) pgs_nil)))) (fun _ _ _ _ _ => pts_nil) (fun _ _ _ _ _ => (pe_call G_l_like (hr.mono (by first | decide | omega)) (by rfl) (T.g "_law_like") (T.k "_law_like") T.b_l_like .nil pass0 (pa_cons (pv 3) (pa_cons (pv 4) pa_nil))))) pa_nil)))))))) pss_nil)
        (pss_cons (ps_if (PW.pt (pw_or (pt_cmpR op_isN (pv 0) pe_non (nomark _)) (pw_or (pt_cmpR op_isN (pv 1) pe_non (nomark _)) (pw_or1 (pt_cmpR op_ne (pe_callB (isiK (K := K) rfl) (by rfl) T.f (by decide +kernel) (pa_cons (pv 0) (pa_cons (pe_bltn (v := .ty "bool") (by rfl) T.f (by decide +kernel) rfl) pa_nil))) (pe_callB (isiK (K := K) rfl) (by rfl) T.f (by decide +kernel) (pa_cons (pv 1) (pa_cons (pe_bltn (v := .ty "bool") (by rfl) T.f (by decide +kernel) rfl) pa_nil))) (nomark _)))))) (pss_one (ps_ret (pe_and (pe_cmpR op_isN (pv 0) pe_non (nomark _)) (pe_one (pe_cmpR op_isN (pv 1) pe_non (nomark _)))))) pss_nil)
        (pss_one (ps_ret (pe_and (pe_cmpR op_eq (pe_callB (isiK (K := K) rfl) (by rfl) T.f (by decide +kernel) (pa_cons (pv 0) (pa_cons (pe_bltn (v := .ty "int") (by rfl) T.f (by decide +kernel) rfl) pa_nil))) (pe_callB (isiK (K := K) rfl) (by rfl) T.f (by decide +kernel) (pa_cons (pv 1) (pa_cons (pe_bltn (v := .ty "int") (by rfl) T.f (by decide +kernel) rfl) pa_nil))) (nomark _)) (pe_and (pe_cmpR op_eq (pe_callB (isiK (K := K) rfl) (by rfl) T.f (by decide +kernel) (pa_cons (pv 0) (pa_cons (pe_bltn (v := .ty "str") (by rfl) T.f (by decide +kernel) rfl) pa_nil))) (pe_callB (isiK (K := K) rfl) (by rfl) T.f (by decide +kernel) (pa_cons (pv 1) (pa_cons (pe_bltn (v := .ty "str") (by rfl) T.f (by decide +kernel) rfl) pa_nil))) (nomark _)) (pe_one (pe_cmpR op_eq (pv 0) (pv 1) (nomark _))))))))), ?_⟩
    walk_at "rs"
    walk_at "rd"
    refine ⟨by walk_at "sz", fun p hp => isi2T (hv _) upd_same e1 e2 ?_⟩
    generalize e0 : upd H p _ = H1
    have s1 : Same H H1 := fun b o h => old_at e0 hp h
    walk_at "rd"
    have nv : ¬ decide (v = V.non) = true := by
      rw [decide_eq_false hne]
      exact Bool.false_ne_true
    rw [if_neg nv]
    walk_at "rd"
    rw [if_neg nv]
    walk_at "rd"
    refine isi2 (hv _) e3 ⟨_, rfl, isi2 (hv _) e3 ⟨rfl, _, rfl, ?_⟩⟩
    rw [if_neg (by rw [decide_eq_true rfl]; exact Bool.false_ne_true)]
    walk_at "rd"
    refine isi2 (hv _) e4 ⟨_, rfl, isi2 (hv _) e4 ⟨rfl, _, rfl, ?_⟩⟩
    rw [if_pos (decide_eq_true rfl)]
    walk_at "rd"
    refine isi2 (hv _) e5 ⟨_, rfl, isi2 (hv _) e5 ⟨rfl, _, rfl, ?_⟩⟩
    rw [if_pos (decide_eq_true rfl)]
    walk_at "rd"
    refine ⟨hsc, ?_⟩
    rw [decide_eq_true rfl]
    exact k _ s1
theorem walk_zipT {K : PySem.W.Frag} {a b : Addr} {xs ys : List V} {n : Nat} (hn : n = min xs.length ys.length) : Walk (RZ.ItzT K a b) n (fun H => SqT K H a xs ∧ SqT K H b ys) (YPair (fun i => xs[i]?) (fun i => ys[i]?)) := by
  subst hn
  refine ⟨fun i _ hi q => ?_, fun _ q => ⟨xs, ys, q.1, q.2, by omega⟩, fun i H v H' _ q y => ?_⟩
  · have h1 : i < xs.length := by omega
    have h2 : i < ys.length := by omega
    exact ⟨xs, ys, xs[i], ys[i], q.1, q.2, by simp [h1], by simp [h2]⟩
  · obtain ⟨T, x, y', h1, h2, h3, h4, h5⟩ := y
    exact ⟨T, x, y', h1, h2, h3, h4 xs q.1, h5 ys q.2⟩
/-- the parts one less deep -/
def sp_likeP (d : Nat) : Sp := fun vs H Q _ => ∃ (a b : Addr) (xs ys : List V) (S : Hp), vs = [.ref a, .ref b] ∧ xs.length ≤ 1000 ∧ (S a = some (.lst xs) ∧ S b = some (.lst ys) ∨ S a = some (.tup xs) ∧ S b = some (.tup ys)) ∧ Paired (Alike d S) xs ys ∧ Same S H ∧ ∀ H', Same H H' → Q (.bl true) H'
theorem ok_likeP (T : Txt K mg) {d : Nat} (G_l_like : OkG P w K mg base CX0 (d + 2) "_law_like" P_l_like (sp_like d)) : OkG P w K mg base CX0 (d + 3) "_law_like" P_l_like (sp_likeP d) := by
  refine (T.f_l_like).ok sc_l_like (fun vs H Q E h => ?_) (fun cdv A outer s H vs Q E hr h => ?_)
  · obtain ⟨a, b, xs, ys, S, rfl, _⟩ := h
    rfl
  · obtain ⟨a, b, xs, ys, S, rfl, hl, hab, hp, hS, k⟩ := h
    obtain ⟨n, b1, b2, ta, tb, e1, e2, e3⟩ : ∃ (n : String) (b1 b2 : Bool), (∀ H', Same S H' → TyX K H' (.ref a) (.type n)) ∧ (∀ H', Same S H' → TyX K H' (.ref b) (.type n)) ∧ kitB n "list" = some b1 ∧ kitB n "tuple" = some b2 ∧ (b1 || b2) = true := by
      rcases hab with ⟨ha, hb⟩ | ⟨ha, hb⟩
      · exact ⟨"list", true, false, fun H' s => .base (.lst (s _ _ ha)), fun H' s => .base (.lst (s _ _ hb)), by decide +kernel, by decide +kernel, rfl⟩
      · exact ⟨"tuple", false, true, fun H' s => .base (.tup (s _ _ ha)), fun H' s => .base (.tup (s _ _ hb)), by decide +kernel, by decide +kernel, rfl⟩
    refine ⟨_, PSs.nox (pss_cons (ps_if (pt_val (pe_callB (isiTK (K := K) rfl) (by rfl) T.f (by decide +kernel) (pa_cons (pv 1) (pa_cons (pe_tup (pa_cons (pe_bltn (v := .ty "list") (by rfl) T.f (by decide +kernel) rfl) (pa_cons (pe_bltn (v := .ty "tuple") (by rfl) T.f (by decide +kernel) rfl) pa_nil))) pa_nil)))) (pss_cons (ps_set (i := 2) sc_l_like.nd rfl (Or.inl rfl) (pe_and (pe_cmpR op_eq (pe_callB (isiK (K := K) rfl) (by rfl) T.f (by decide +kernel) (pa_cons (pv 0) (pa_cons (pe_bltn (v := .ty "list") (by rfl) T.f (by decide +kernel) rfl) pa_nil))) (pe_callB (isiK (K := K) rfl) (by rfl) T.f (by decide +kernel) (pa_cons (pv 1) (pa_cons (pe_bltn (v := .ty "list") (by rfl) T.f (by decide +kernel) rfl) pa_nil))) (nomark _)) (pe_one (pe_cmpR op_eq (pe_callB (isiK (K := K) rfl) (by rfl) T.f (by decide +kernel) (pa_cons (pv 0) (pa_cons (pe_bltn (v := .ty "tuple") (by rfl) T.f (by decide +kernel) rfl) pa_nil))) (pe_callB (isiK (K := K) rfl) (by rfl) T.f (by decide +kernel) (pa_cons (pv 1) (pa_cons (pe_bltn (v := .ty "tuple") (by rfl) T.f (by decide +kernel) rfl) pa_nil))) (nomark _)))))
        (pss_one (ps_ret (pe_and (pv 2) (pe_and (pe_cmpR op_eq (pe_callB (lenK (K := K) rfl) (by rfl) T.f (by decide +kernel) (pa_cons (pv 0) pa_nil)) (pe_callB (lenK (K := K) rfl) (by rfl) T.f (by decide +kernel) (pa_cons (pv 1) pa_nil)) (nomark _)) (pe_one (pe_callB (allK (K := K) rfl rfl) (by rfl) T.f (by decide +kernel) (pa_cons (pe_lc (own := [("_law_c", 3), ("_law_d", 4)]) (g := (gTup K 2 (gCons (gName 3) (gCons (gName 4) gNil)))) (tt := tYes) rfl sc_l_like.nd (pi_zipK (K := K) rfl (by rfl) T.f (pa_cons (pv 0) (pa_cons (pv 1) pa_nil))) (by first | exact blkOk_by (N := N_l_like) (sc := defScope s_l_like) (by decide +kernel) | exact blkOk_by (N := N_l_like) (sc := { kind := .function, names := [], isGenerator := false, isCoroutine := false }) (by decide +kernel)) (fun _ _ _ _ _ => (pg_tupK (K := K) (n := 2) rfl rfl (pgs_cons (pg_name (i := 3) sc_l_like.nd rfl (Or.inl rfl)) (pgs_cons (pg_name (i := 4) sc_l_like.nd rfl (Or.inl rfl)) pgs_nil)))) (fun _ _ _ _ _ => pts_nil) (fun _ _ _ _ _ => (pe_call G_l_like (hr.mono (by first | decide | omega)) (by rfl) (T.g "_law_like") (T.k "_law_like") T.b_l_like .nil pass0 (pa_cons (pv 3) (pa_cons (pv 4) pa_nil))))) pa_nil)))))))) pss_nil)
        (pss_cons (ps_if (PW.pt (pw_or (pt_cmpR op_isN (pv 0) pe_non (nomark _)) (pw_or (pt_cmpR op_isN (pv 1) pe_non (nomark _)) (pw_or1 (pt_cmpR op_ne (pe_callB (isiK (K := K) rfl) (by rfl) T.f (by decide +kernel) (pa_cons (pv 0) (pa_cons (pe_bltn (v := .ty "bool") (by rfl) T.f (by decide +kernel) rfl) pa_nil))) (pe_callB (isiK (K := K) rfl) (by rfl) T.f (by decide +kernel) (pa_cons (pv 1) (pa_cons (pe_bltn (v := .ty "bool") (by rfl) T.f (by decide +kernel) rfl) pa_nil))) (nomark _)))))) (pss_one (ps_ret (pe_and (pe_cmpR op_isN (pv 0) pe_non (nomark _)) (pe_one (pe_cmpR op_isN (pv 1) pe_non (nomark _)))))) pss_nil)
        (pss_one (ps_ret (pe_and (pe_cmpR op_eq (pe_callB (isiK (K := K) rfl) (by rfl) T.f (by decide +kernel) (pa_cons (pv 0) (pa_cons (pe_bltn (v := .ty "int") (by rfl) T.f (by decide +kernel) rfl) pa_nil))) (pe_callB (isiK (K := K) rfl) (by rfl) T.f (by decide +kernel) (pa_cons (pv 1) (pa_cons (pe_bltn (v := .ty "int") (by rfl) T.f (by decide +kernel) rfl) pa_nil))) (nomark _)) (pe_and (pe_cmpR op_eq (pe_callB (isiK (K := K) rfl) (by rfl) T.f (by decide +kernel) (pa_cons (pv 0) (pa_cons (pe_bltn (v := .ty "str") (by rfl) T.f (by decide +kernel) rfl) pa_nil))) (pe_callB (isiK (K := K) rfl) (by rfl) T.f (by decide +kernel) (pa_cons (pv 1) (pa_cons (pe_bltn (v := .ty "str") (by rfl) T.f (by decide +kernel) rfl) pa_nil))) (nomark _)) (pe_one (pe_cmpR op_eq (pv 0) (pv 1) (nomark _))))))))), ?_⟩
    walk_at "rs"
    walk_at "rd"
    refine ⟨by walk_at "sz", fun p hp0 => isi2T (tb _ (upd0_ hS hp0)) upd_same e1 e2 ?_⟩
    generalize e0 : upd H p _ = H1
    have s1 : Same H H1 := fun b o h => old_at e0 hp0 h
    have hS1 := hS.trans s1
    rw [e3]
    walk_at "rd"
    refine isi2 (ta _ hS1) e1 ⟨_, rfl, isi2 (tb _ hS1) e1 ⟨rfl, _, rfl, ?_⟩⟩
    rw [if_pos (decide_eq_true rfl)]
    walk_at "rd"
    refine isi2 (ta _ hS1) e2 ⟨_, rfl, isi2 (tb _ hS1) e2 ⟨rfl, ?_⟩⟩
    rw [decide_eq_true (rfl : V.bl b2 = V.bl b2)]
    walk_at "rd"
    have el := Paired.length hp
    have sq : (S a = some (.lst xs) ∧ S b = some (.lst ys)) ∨ (S a = some (.tup xs) ∧ S b = some (.tup ys)) := hab
    refine ⟨a, xs, rfl, sq.imp (fun z => sql (hS1 _ _ z.1)) (fun z => sqt (hS1 _ _ z.1)), ?_⟩
    refine ⟨_, rfl, b, ys, rfl, sq.imp (fun z => sql (hS1 _ _ z.2)) (fun z => sqt (hS1 _ _ z.2)), rfl, _, rfl, ?_⟩
    rw [if_pos (decide_eq_true (by rw [el]))]
    have fin : ∀ (J : It) (G : Hp → Prop) (w : Walk J xs.length G (YPair (fun i => xs[i]?) (fun i => ys[i]?))) (hG : ∀ H', Same S H' → G H') (D : Addr), H1 D = none →
        LcG J (gTup K 2 (gCons (gName 3) (gCons (gName 4) gNil))) tYes (tCall (sp_like d) [] E0 (tCons (tVar 3) (tCons (tVar 4) tNil))) [3, 4] (List.set (L2.start N_l_like [V.ref a, V.ref b]) 2 (some (V.bl true))) H1 D (fun x H1 => rAll K [x] H1 Q) := by
      intro J G w hG D hD
      refine lcg w (fun i acc S => acc = (List.replicate i true).map V.bl) noZ noM hD hS1 rfl trivial (fun _ _ _ _ => trivial) (fun i H2 S2 acc _ g2 _ _ => hG _ (g2.mono.trans g2.sub)) ?_ ?_
      · rintro i x H2 H3 S2 acc hi g2 r _ e eS ⟨T', x1, y1, rfl, hT, rfl, hx, hy⟩
        generalize e3 : upd H2 T' _ = H3
        walk_at "rs"
        refine ⟨T', _, rfl, sqt (new_at e3), rfl, ?_⟩
        walk_at "rd"
        obtain ⟨y2, hy2, al⟩ := pair_at hp hx
        obtain rfl : y1 = y2 := Option.some.inj (hy.symm.trans hy2)
        have g3 := (Gm.rfl' g2.sub).l0 (ms := noM) e3 hT
        refine ⟨x1, y1, S2, rfl, al.mono g2.mono, g3.sub, fun H4 s4 => ?_⟩
        exact LcP.add hD (fun z => z) (fun _ _ _ _ => trivial) g2 e eS (g3.trans (Gr.ofSame g3.sub s4)) (szL (by rw [r, List.length_map, List.length_replicate]; omega)) (by rw [r, List.replicate_succ', List.map_append]; rfl) trivial
      · rintro H2 S2 acc g2 r _ e eS
        refine ⟨D, _, rfl, sql (by rw [e, r]), ?_⟩
        rw [show (List.replicate xs.length true).all id = true by simp]
        exact k H2 (s1.trans g2.same)
    refine Lst.lc_open ?_
    dsimp only [iZipK]
    walk_at "rs"
    walk_at "rd"
    rcases sq with ⟨ha, hb⟩ | ⟨ha, hb⟩
    · exact ⟨a, b, xs, ys, rfl, .inl ⟨sql (hS1 _ _ ha), sql (hS1 _ _ hb), fun D hD => fin _ _ (walk_zip (by omega)) (fun H' s => ⟨sql (s _ _ ha), sql (s _ _ hb)⟩) D hD⟩⟩
    · exact ⟨a, b, xs, ys, rfl, .inr ⟨sqt (hS1 _ _ ha), sqt (hS1 _ _ hb), fun D hD => fin _ _ (walk_zipT (by omega)) (fun H' s => ⟨sqt (s _ _ ha), sqt (s _ _ hb)⟩) D hD⟩⟩
theorem ok_likeS (T : Txt K mg) {d : Nat} (G : OkG P w K mg base CX0 (d + 2) "_law_like" P_l_like (sp_like d)) : OkG P w K mg base CX0 (d + 3) "_law_like" P_l_like (sp_like (d + 1)) := by
  have F := ok_likeP T G
  refine ⟨fun vs H Q E h => ?_, fun A outer s H args us vs Q E hr e0 hb r h => ?_⟩
  · obtain ⟨v, w, S, rfl, _⟩ := h
    rfl
  · obtain ⟨v, w, S, rfl, h | ⟨a, b, xs, ys, rfl, rfl, hl, hab, hp⟩, hS, k⟩ := h
    · exact G.run A outer s H args us _ Q E (hr.mono (Nat.le_succ _)) e0 hb r ⟨v, w, S, rfl, h, hS, k⟩
    · exact F.run A outer s H args us _ Q E hr e0 hb r ⟨a, b, xs, ys, S, rfl, hl, hab, hp, hS, k⟩
/-- lists of lists, tuples of texts and numbers -/
theorem ok_like (T : Txt K mg) : OkG P w K mg base CX0 4 "_law_like" P_l_like (sp_like 2) := ok_likeS T (ok_likeS T (ok_like0 T ⟨fun _ _ _ _ h => h.elim, fun _ _ _ _ _ _ _ _ _ _ _ _ _ h => h.elim⟩))
end
end Lst

/-! ## LRepr -/
namespace Lst
open PySem PySem.Spec PyProof.Rows L2
def reprS (n : Nat) : Str := ("Library(" ++ toString (n : Int)) ++ " wishes)"
theorem repr_sz : ∀ n ∈ List.range 13, ((Str.empty ++ Str.ofString "Library(") ++ (toString (n : Int) : Str)).length ≤ 100 ∧ ((Str.empty ++ Str.ofString "Library(") ++ (toString (n : Int) : Str) ++ Str.ofString " wishes)").length ≤ 100 ∧ (Str.empty ++ Str.ofString "Library(") ++ (toString (n : Int) : Str) ++ Str.ofString " wishes)" = reprS n ∧ ((n : Int)).natAbs.log2 < 1920 ∧ ("Library(" : Str).length + (toString (n : Int) : Str).length ≤ 100 ∧ ("Library(" ++ (toString (n : Int) : Str) : Str).length + (" wishes)" : Str).length ≤ 100 := by decide +kernel
def sp_Lrepr (K : PySem.W.Frag) : Sp := fun vs H Q _ => ∃ (al : Str) (a : Addr) (fp : List Addr) (b : Bool) (M : Mo) (Ps Us : List Mo) (S : Hp), vs = [.ref a] ∧ LibI K al S H a fp b M Ps Us ∧ M.length ≤ 12 ∧ Q (.str (reprS M.length)) H
section
variable {P : Program} {w : World} {K : PySem.W.Frag} {mg : Str → Option Value} {base : Heap}
theorem ok_Lrepr (T : Txt K mg) : OkM P w K mg base CX0 1 "Library" "__repr__" P_Library_repr (sp_Lrepr K) := by
  refine (T.f_Library_repr).ok sc_Library_repr (fun vs H Q E h => ?_) (fun cdv A outer s H vs Q E hr h => ?_)
  · obtain ⟨al, a, fp, b, M, Ps, Us, S, rfl, _⟩ := h
    rfl
  · obtain ⟨al, a, fp, b, M, Ps, Us, S, rfl, ⟨dx, d, k, p, u, ps, us, rfl, o⟩, ml, kk⟩ := h
    obtain ⟨kvs, hd, hp⟩ := id o.di
    refine ⟨_, PSs.nox (pss_one (ps_ret (pe_joined (.cons pe_str (.cons (pe_fmt (pe_callB call_lenD (by rfl) T.f (by decide +kernel) (pa_cons (fldK (K := K) rfl (pv 0) rfl) pa_nil))) (.cons pe_str .nil)))))), ?_⟩
    walk_at "rs"
    walk_at "rd"
    obtain ⟨z1, z2, z3, z4, _⟩ := repr_sz M.length (List.mem_range.mpr (by omega))
    refine ⟨by decide +kernel, ?_⟩
    unfold tJs
    dsimp only [tFmt, tCB, tCons, tFld, tVar, tNil]
    refine ⟨_, rfl, a, _, dx, _, _, rfl, o.ob, T.c "Library", T.n "Library" "own_wishes", rfl, d, kvs, rfl, hd, .inr ⟨_, rfl, ?_⟩⟩
    rw [hp.length]
    refine ⟨z4, _, rfl, Nat.le_trans z1 (by decide), ?_⟩
    unfold tJs
    refine ⟨_, rfl, Nat.le_trans z2 (by decide), ?_⟩
    unfold tJs
    show Q (V.str _) H
    rw [z3]
    exact kk
end
theorem pi_iterLK {X : Cx} {K : PySem.W.Frag} {mg : Str → Option Value} {e tg : Expr} {te : TE} (hK : X.K = K) (hmg : X.mg = mg) (T : Txt K mg) (hr : Room 2 X.A) (he : PE X e te) : PI X tg e (iLib K te) := by
  subst hK
  subst hmg
  exact pi_iterL T hr he
end Lst

/-! ## LShows -/
namespace Lst
open PySem PySem.Spec PyProof.Rows L2
def sp_shows (K : PySem.W.Frag) : Sp := fun vs H Q _ => ∃ (al : Str) (a : Addr) (v : V) (fp : List Addr) (b : Bool) (M : Mo) (Ps Us : List Mo) (S : Hp), vs = [.ref a, v] ∧ LibI K al S H a fp b M Ps Us ∧ ModelAt S v M ∧ MSm M ∧ (∀ m ∈ M, depth m.2 ≤ 4) ∧ Same S H ∧
  ∀ H' S', Gr H S H' S' → Q (.bl true) H'
theorem al_strs {S : Hp} : ∀ xs : List Str, Paired (Alike 0 S) (xs.map V.str) (xs.map V.str)
  | [] => .nil
  | x :: r => .cons (al_str x) (al_strs r)
section
variable {P : Program} {w : World} {K : PySem.W.Frag} {mg : Str → Option Value} {base : Heap}
theorem ok_shows (T : Txt K mg) (T5 : Txt5 K) (G_l_like : OkG P w K mg base CX0 4 "_law_like" P_l_like (sp_like 2)) (G_l_tokens : OkG P w K mg base CX0 6 "_law_tokens" P_l_tokens (sp_tokens 5)) (G_l_uses : OkG P w K mg base CX0 7 "_law_uses" P_l_uses (sp_uses 5))
    (GFt : ∀ cn ∈ WC, ∃ f, Cls K (He.ga K cn) ∧ Meth K (He.ga K cn) "tokens" f ∧ FnR P w K mg base CX0 1 f (sp_wtokens K)) (G_Library_names : OkM P w K mg base CX0 1 "Library" "names" P_Library_names (sp_Lnames K)) (G_Library_wish_of : OkM P w K mg base CX0 4 "Library" "wish_of" P_Library_wish_of (sp_Lwish K))
    (G_Library_users : OkM P w K mg base CX0 4 "Library" "users" P_Library_users (sp_Lusers K)) (G_Library_len : OkM P w K mg base CX0 1 "Library" "__len__" P_Library_len (sp_Llen K)) (G_Library_repr : OkM P w K mg base CX0 1 "Library" "__repr__" P_Library_repr (sp_Lrepr K))
    (G_Library_getitem : OkM P w K mg base CX0 3 "Library" "__getitem__" P_Library_getitem (sp_Lget K)) (G_Library_contains : OkM P w K mg base CX0 3 "Library" "__contains__" P_Library_contains (sp_Lhas K)) : OkG P w K mg base CX0 8 "_law_shows" P_l_shows (sp_shows K) := by
  refine (T.f_l_shows).ok sc_l_shows (fun vs H Q E h => ?_) (fun cdv A outer s H vs Q E hr h => ?_)
  · obtain ⟨al, a, v, fp, b, M, Ps, Us, S, rfl, _⟩ := h
    rfl
  · obtain ⟨al, a, v, fp, b, M, Ps, Us, S, rfl, hL, ⟨ma, us, rfl, hm, hp⟩, sm, dp, hS, kk⟩ := h
    obtain ⟨dx, d, k, p, u, ps, us', rfl, o⟩ := id hL
    have ul := hp.length
    refine ⟨_, PSs.nox (pss_cons (ps_setLc (i := 2) (own := [("_law_one", 3), ("_law_tree_here", 4)]) (g := (gTup K 2 (gCons (gName 3) (gCons (gName 4) gNil)))) (tt := tYes) rfl sc_l_shows.nd rfl rfl (by rfl) (pi_listK (K := K) rfl (pv 1)) (by first | exact blkOk_by (N := N_l_shows) (sc := defScope s_l_shows) (by decide +kernel) | exact blkOk_by (N := N_l_shows) (sc := { kind := .function, names := [], isGenerator := false, isCoroutine := false }) (by decide +kernel)) (fun _ _ _ _ _ => (pg_tupK (K := K) (n := 2) rfl rfl (pgs_cons (pg_name (i := 3) sc_l_shows.nd rfl (Or.inl rfl)) (pgs_cons (pg_name (i := 4) sc_l_shows.nd rfl (Or.inl rfl)) pgs_nil)))) (fun _ _ _ _ _ => pts_nil) (fun _ _ _ _ _ => (pv 3)))
        (pss_cons (ps_if (pt_not (pt_val (pe_call G_l_like (hr.mono (by first | decide | omega)) (by rfl) (T.g "_law_like") (T.k "_law_like") T.b_l_like .nil pass0 (pa_cons (pe_lst (pa_cons (pe_meth0 (pv 0) (T.c "Library") (T.m "Library" "names") G_Library_names (hr.mono (by first | decide | omega)) T.b_Library_names .nil pass0) (pa_cons (pe_lock (pe_lc (own := [("_law_one", 3)]) (g := (gName 3)) (tt := tYes) rfl sc_l_shows.nd (pi_iterLK (K := K) rfl rfl T (hr.mono (by decide)) (pv 0)) (by first | exact blkOk_by (N := N_l_shows) (sc := defScope s_l_shows) (by decide +kernel) | exact blkOk_by (N := N_l_shows) (sc := { kind := .function, names := [], isGenerator := false, isCoroutine := false }) (by decide +kernel)) (fun _ _ _ _ _ => (pg_name (i := 3) sc_l_shows.nd rfl (Or.inl rfl))) (fun _ _ _ _ _ => pts_nil) (fun _ _ _ _ _ => (pv 3)))) (pa_cons (pe_callB (call_lenO (T.m "Library" "__len__").at_ (T.m "Library" "__len__").fn G_Library_len (hr.mono (by decide)) T.b_Library_len pass0) (by rfl) T.f (by decide +kernel) (pa_cons (pv 0) pa_nil)) (pa_cons (pe_callB (call_reprO (T.m "Library" "__repr__").at_ (T.m "Library" "__repr__").fn G_Library_repr (hr.mono (by decide)) T.b_Library_repr pass0) (by rfl) T.f (by decide +kernel) (pa_cons (pv 0) pa_nil)) pa_nil))))) (pa_cons (pe_lst (pa_cons (pv 2) (pa_cons (pv 2) (pa_cons (pe_callB (lenK (K := K) rfl) (by rfl) T.f (by decide +kernel) (pa_cons (pv 1) pa_nil)) (pa_cons (pe_op op_add_str (pe_op op_add_str pe_str (pe_callTy call_str_int (by rfl) T.f (by decide +kernel) (pa_cons (pe_callB (lenK (K := K) rfl) (by rfl) T.f (by decide +kernel) (pa_cons (pv 1) pa_nil)) pa_nil))) pe_str) pa_nil))))) pa_nil))))) (pss_one (ps_ret pe_bl)) pss_nil)
        (pss_cons (ps_for PassesOwn.never rfl (pi_listK (K := K) rfl (pv 1)) (pg_tupK (K := K) (n := 2) rfl rfl (pgs_cons (pg_name (i := 5) sc_l_shows.nd rfl (Or.inr rfl)) (pgs_cons (pg_name (i := 4) sc_l_shows.nd rfl (Or.inl rfl)) pgs_nil))) (pss_cons (ps_setLc (i := 6) (own := [("_law_late", 7), ("_law_other", 8)]) (g := (gTup K 2 (gCons (gName 7) (gCons (gName 8) gNil)))) rfl sc_l_shows.nd rfl rfl (by rfl) (pi_listK (K := K) rfl (pv 1)) (by first | exact blkOk_by (N := N_l_shows) (sc := defScope s_l_shows) (by decide +kernel) | exact blkOk_by (N := N_l_shows) (sc := { kind := .function, names := [], isGenerator := false, isCoroutine := false }) (by decide +kernel)) (fun _ _ _ _ _ => (pg_tupK (K := K) (n := 2) rfl rfl (pgs_cons (pg_name (i := 7) sc_l_shows.nd rfl (Or.inl rfl)) (pgs_cons (pg_name (i := 8) sc_l_shows.nd rfl (Or.inl rfl)) pgs_nil)))) (fun _ _ _ _ _ => pts_one (pt_cmpR (inK (K := K) rfl) (pv 5) (pe_call G_l_uses (hr.mono (by first | decide | omega)) (by rfl) (T.g "_law_uses") (T.k "_law_uses") T.b_l_uses .nil pass0 (pa_cons (pv 8) pa_nil)) (by rfl))) (fun _ _ _ _ _ => (pv 7)))
        (pss_one (ps_if (pt_not (pt_val (pe_call G_l_like (hr.mono (by first | decide | omega)) (by rfl) (T.g "_law_like") (T.k "_law_like") T.b_l_like .nil pass0 (pa_cons (pe_lst (pa_cons (pe_subO (T.m "Library" "__getitem__").at_ (fnIn_of T.f_Library_getitem) (T.m "Library" "__getitem__").fn G_Library_getitem (hr.mono (by decide)) T.b_Library_getitem pass0 (pv 0) (pv 5) (fun _ _ => by with_unfolding_all rfl)) (pa_cons (pe_methF0 (K := K) (nms := WC) (spF := fun _ => sp_wtokens K) rfl (pe_meth (pv 0) (T.c "Library") (T.m "Library" "wish_of") G_Library_wish_of (hr.mono (by first | decide | omega)) T.b_Library_wish_of .nil pass0 (pa_cons (pv 5) pa_nil)) GFt (hr.mono (by first | decide | omega)) pass0) (pa_cons (pe_meth (pv 0) (T.c "Library") (T.m "Library" "users") G_Library_users (hr.mono (by first | decide | omega)) T.b_Library_users .nil pass0 (pa_cons (pv 5) pa_nil)) (pa_cons (pe_cmpR (op_inO (T.m "Library" "__contains__").at_ (T.m "Library" "__contains__").fn G_Library_contains (hr.mono (by decide)) T.b_Library_contains pass0) (pv 5) (pv 0) (by rfl)) pa_nil))))) (pa_cons (pe_lst (pa_cons (joinK (K := K) rfl pe_str (pe_call G_l_tokens (hr.mono (by first | decide | omega)) (by rfl) (T.g "_law_tokens") (T.k "_law_tokens") T.b_l_tokens .nil pass0 (pa_cons (pv 4) pa_nil))) (pa_cons (pe_call G_l_tokens (hr.mono (by first | decide | omega)) (by rfl) (T.g "_law_tokens") (T.k "_law_tokens") T.b_l_tokens .nil pass0 (pa_cons (pv 4) pa_nil)) (pa_cons (pv 6) (pa_cons pe_bl pa_nil))))) pa_nil))))) (pss_one (ps_ret pe_bl)) pss_nil))))
        (pss_one (ps_ret pe_bl))))), ?_⟩
    walk_at "rs"
    walk_at "rd"
    refine ⟨⟨_, sql (hS _ _ hm)⟩, fun D hD => ?_⟩
    refine lcg walk_list (fun i acc S => acc = ((mnames M).take i).map V.str) noZ noM hD hS rfl trivial (fun _ _ _ _ => trivial) (fun i H9 S9 _ _ g _ _ => sql (g.sub _ _ (g.mono _ _ hm))) ?_ ?_
    · rintro i x H2 H3 S2 acc hi g2 r _ e eS ⟨rfl, hx⟩
      obtain ⟨m, hm1, b', v, rfl, hb, hv⟩ := pair_at hp hx
      walk_at "rs"
      refine ⟨b', _, rfl, sqt (g2.sub _ _ (g2.mono _ _ hb)), rfl, ?_⟩
      walk_at "rd"
      have hn : (mnames M)[i]? = some m.1 := by
        unfold mnames
        rw [List.getElem?_map, hm1]
        rfl
      refine LcP.add hD (fun z => z) (fun _ _ _ _ => trivial) g2 e eS (Gm.rfl' g2.sub) (szL (by rw [r, List.length_map, List.length_take]; have := sm.len; omega)) ?_ trivial
      rw [r, take_snoc hn, List.map_append]
      rfl
    · rintro H1 S1' acc g1' r _ e eS
      rw [ul, List.take_of_length_le (by unfold mnames; rw [List.length_map]; exact Nat.le_refl _)] at r
      have g1 : Gm noM H S H1 (upd S1' D (.lst acc)) := g1'.freeze e hD eS
      have hk1 : (upd S1' D (HO.lst acc)) D = some (.lst ((mnames M).map V.str)) := by rw [upd_same, r]
      generalize upd S1' D (.lst acc) = S1 at g1 hk1
      clear e eS r g1'
      have L1 := hL.gr g1
      have o1 := o.gr g1
      walk_at "rd"
      refine ⟨a, dx, _, rfl, o1.ob, by rfl, ?_⟩
      refine ⟨al, a, _, b, M, Ps, Us, S1, rfl, L1, Nat.le_trans sm.len (by decide), g1.sub, fun H2 S2 p1 g2a hp1 => ?_⟩
      have g2 := g1.trans g2a
      have o2 := o1.gr g2a
      obtain ⟨kvs, hd, hpr⟩ := id o2.di
      have nSd : S2 d = none := o2.out d (by simp)
      refine ⟨d, _, hd, trivial, fun od => ?_⟩
      have nad : a ≠ d := by
        have := o2.nd
        simp only [List.nodup_cons, List.mem_cons] at this
        exact fun z => this.1 (Or.inl z)
      have obL : (upd H2 d (HO.frz od (HO.dK kvs))) a = some (.ins (He.ga K "Library") dx (fsL al d k p u b)) := by
        rw [upd_ne nad]
        exact o2.ob
      have hSL := lock_sub (o := HO.frz od (HO.dK kvs)) g2.sub nSd
      have hdL : (upd H2 d (HO.frz od (HO.dK kvs))) d = some (HO.frz od (HO.dK kvs)) := upd_same
      generalize eL : upd H2 d (HO.frz od (HO.dK kvs)) = HL at obL hSL hdL
      refine Lst.lc_open ?_
      dsimp only [iLib]
      walk_at "rs"
      refine ⟨_, rfl, a, dx, _, d, od, kvs, rfl, obL, rfl, hdL, fun D2 hD2 => ?_⟩
      have klen : kvs.length = M.length := hpr.length
      refine lcg walk_keys (fun i acc S => acc = ((mnames M).take i).map V.str) noZ noM hD2 hSL rfl trivial (fun _ _ _ _ => trivial) (fun i H9 S9 _ _ g _ _ => g.kept hdL fun z => z) ?_ ?_
      · rintro i x H3 H4 S3 acc hi g3 r _ e eS ⟨rfl, ky, v, hk, rfl⟩
        obtain ⟨m, hm1, rfl, hw⟩ := dp_key hpr hk
        walk_at "rs"
        walk_at "rd"
        have hn : (mnames M)[i]? = some m.1 := by
          unfold mnames
          rw [List.getElem?_map, hm1]
          rfl
        refine LcP.add hD2 (fun z => z) (fun _ _ _ _ => trivial) g3 e eS (Gm.rfl' g3.sub) (szL (by rw [r, List.length_map, List.length_take]; have := sm.len; omega)) ?_ trivial
        rw [r, take_snoc hn, List.map_append]
        rfl
      · rintro H3 S3 acc g3' r _ e eS
        rw [klen, List.take_of_length_le (by unfold mnames; rw [List.length_map]; exact Nat.le_refl _)] at r
        have hdl : H3 d = some (HO.frz od (HO.dK kvs)) := g3'.kept hdL fun z => z
        refine ⟨hdl, ?_⟩
        have g3a := g3'.freeze e hD2 eS
        rw [← eL] at g3a
        have g3b := g3a.unlock hd nSd
        have hk3 : (upd S3 D2 (HO.lst acc)) D2 = some (.lst ((mnames M).map V.str)) := by rw [upd_same, r]
        generalize upd S3 D2 (.lst acc) = S4 at g3b hk3
        generalize upd H3 d (.dK kvs) = H4 at g3b
        clear e eS r g3' g3a hdl obL hSL hdL eL
        have g4 := g2.trans g3b
        have o4 := o2.gr g3b
        have L4 : LibI K al S4 H4 a (fpL a d k p u ps us') b M Ps Us := ⟨dx, d, k, p, u, ps, us', rfl, o4⟩
        have hk4 := g3b.mono _ _ (g2a.mono _ _ hk1)
        have hp4 := g3b.mono _ _ hp1
        have z5 := (repr_sz M.length (List.mem_range.mpr (by have := sm.len; omega))).2.2.2
        refine ⟨_, rfl, a, dx, _, rfl, o4.ob, al, a, _, b, M, Ps, Us, S4, rfl, L4, _, rfl, ⟨by omega, by have := sm.len; omega⟩, ?_⟩
        refine ⟨_, rfl, a, dx, _, rfl, o4.ob, al, a, _, b, M, Ps, Us, S4, rfl, L4, sm.len, _, rfl, ?_⟩
        refine ⟨by walk_at "sz", fun q1 hq1 => ?_⟩
        generalize e5 : upd H4 q1 _ = H5
        have g5 := g4.l0 e5 hq1
        have hm4 := g4.mono _ _ hm
        have hm5 := g5.sub _ _ hm4
        refine ⟨_, rfl, _, rfl, _, rfl, ma, _, rfl, .inl (sql hm5), _, rfl, ma, _, rfl, .inl (sql hm5), _, rfl, ?_⟩
        rw [ul]
        refine ⟨z5.1, _, _, rfl, rfl, Nat.le_trans z5.2.1 (by decide), _, _, rfl, rfl, Nat.le_trans z5.2.2 (by decide), ?_⟩
        refine ⟨by walk_at "sz", fun q2 hq2 => ?_⟩
        generalize e6 : upd H5 q2 _ = H6
        have g6 := g5.l0 e6 hq2
        have old6 : ∀ {b o}, H4 b = some o → H6 b = some o := fun h => old_at e6 hq2 (old_at e5 hq1 h)
        refine ⟨.ref q1, .ref q2, H6, rfl, .inr ⟨q1, q2, _, _, rfl, rfl, Nat.le_of_ble_eq_true rfl, .inl ⟨old_at e6 hq2 (new_at e5), new_at e6⟩, ?_⟩, Same.refl _, fun H7 s7 => ?_⟩
        · have pst : Paired (Alike 0 H6) ((mnames M).map V.str) ((mnames M).map V.str) := al_strs _
          have nl : ((mnames M).map V.str).length ≤ 1000 := by
            unfold mnames
            rw [List.length_map, List.length_map]
            exact Nat.le_trans sm.len (by decide)
          have two : Alike 1 H6 (.ref D) (.ref D) := .inr ⟨D, D, _, _, rfl, rfl, nl, .inl ⟨old6 (g4.sub _ _ hk4), old6 (g4.sub _ _ hk4)⟩, pst⟩
          refine .cons ?_ (.cons ?_ (.cons (.inl (al_int _)) (.cons (.inl (al_str _)) .nil)))
          · exact .inr ⟨p1, D, _, _, rfl, rfl, nl, .inl ⟨old6 (g4.sub _ _ hp4), old6 (g4.sub _ _ hk4)⟩, pst⟩
          · exact .inr ⟨D2, D, _, _, rfl, rfl, nl, .inl ⟨old6 (g4.sub _ _ hk3), old6 (g4.sub _ _ hk4)⟩, pst⟩
        walk_at "rd"
        have g7 := g6.trans (Gr.ofSame g6.sub s7)
        clear hd nSd o4 L4 hk4 hp4 g6 g5 g4 s7 z5 hpr klen
        refine ⟨⟨_, sql (g7.sub _ _ (g7.mono _ _ hm))⟩, ?_⟩
        refine for_it walk_list (fun i σ H' => ∃ S' x3 x4 x5 x6 x7 x8, σ = [some (.ref a), some (.ref ma), some (.ref D), x3, x4, x5, x6, x7, x8] ∧ Gm noM H S H' S') ⟨S4, _, _, _, _, _, _, rfl, g7⟩ (fun i σ H' _ ⟨S', _, _, _, _, _, _, _, g⟩ => sql (g.sub _ _ (g.mono _ _ hm))) ?_ ?_
        · rintro i x σ H8 H9 hi ⟨S8, x3, x4, x5, x6, x7, x8, rfl, g8⟩ ⟨rfl, hx⟩
          obtain ⟨m, hm1, b', tv, rfl, hb, hv⟩ := pair_at hp hx
          have hmm : m ∈ M := List.mem_of_getElem? hm1
          obtain ⟨t1, t2, t3, t4, t5⟩ := sm.tr m hmm
          have td := dp m hmm
          walk_at "rs"
          refine ⟨b', _, rfl, sqt (g8.sub _ _ (g8.mono _ _ hb)), rfl, ?_⟩
          walk_at "rd"
          refine ⟨⟨_, sql (g8.sub _ _ (g8.mono _ _ hm))⟩, fun D3 hD3 => ?_⟩
          refine lcg walk_list (fun i acc S => acc = (((M.take i).filter fun e => decide (m.1 ∈ nms e.2)).map (·.1)).map V.str) noZ noM hD3 g8.sub rfl trivial (fun _ _ _ _ => trivial) (fun i H9 S9 _ _ g _ _ => sql (g.sub _ _ (g.mono _ _ (g8.mono _ _ hm)))) ?_ ?_
          · rintro i x H2 H3 S2 acc hi g2 r _ e eS ⟨rfl, hx⟩
            obtain ⟨m2, hm2, b2, v2, rfl, hb2, hv2⟩ := pair_at hp hx
            have hmm2 : m2 ∈ M := List.mem_of_getElem? hm2
            obtain ⟨u1, u2, u3, u4, u5⟩ := sm.tr m2 hmm2
            have ud := dp m2 hmm2
            walk_at "rs"
            refine ⟨b2, _, rfl, sqt (g2.sub _ _ (g2.mono _ _ (g8.mono _ _ hb2))), rfl, ?_⟩
            walk_at "rd"
            refine ⟨v2, m2.2, S2, rfl, hv2.mono (g8.mono.trans g2.mono), u3, u4, by omega, by omega, g2.sub, fun H4 S5 p4 g4 hp4 => ?_⟩
            refine rd_in (zs := nms m2.2) (.inl (sql (g4.sub _ _ hp4))) ?_
            walk_at "rd"
            have al : acc.length ≤ 12 := by
              rw [r, List.length_map, List.length_map]
              refine Nat.le_trans (List.length_filter_le _ _) ?_
              rw [List.length_take]
              have := sm.len
              omega
            by_cases c : m.1 ∈ nms m2.2
            · rw [if_pos (decide_eq_true c)]
              walk_at "rd"
              refine LcP.add hD3 (fun z => z) (fun _ _ _ _ => trivial) g2 e eS g4 (szL (by omega)) ?_ trivial
              rw [r, take_snoc hm2, List.filter_append, List.filter_cons, if_pos (decide_eq_true c), List.filter_nil, List.map_append, List.map_append]
              rfl
            · rw [if_neg (by rw [decide_eq_false c]; decide)]
              refine LcP.skip (fun z => z) g2 e eS g4 ?_ trivial
              rw [r, take_snoc hm2, List.filter_append, List.filter_cons, if_neg (by rw [decide_eq_false c]; decide), List.filter_nil, List.append_nil]
          · rintro H10 S10' acc g10' r _ e eS
            rw [ul, List.take_of_length_le (Nat.le_refl _)] at r
            have g10b := g10'.freeze e hD3 eS
            have g10 := g8.trans g10b
            have hu10 : (upd S10' D3 (HO.lst acc)) D3 = some (.lst ((usersM M m.1).map V.str)) := by
              rw [upd_same, r]
              rfl
            generalize upd S10' D3 (.lst acc) = S10 at g10 g10b hu10
            clear e eS r g10'
            have o10 := o.gr g10
            walk_at "rd"
            have L10 : LibI K al S10 H10 a (fpL a d k p u ps us') b M Ps Us := ⟨dx, d, k, p, u, ps, us', rfl, o10⟩
            refine ⟨a, dx, _, rfl, o10.ob, al, a, m.1, m.2, _, b, M, Ps, Us, S10, rfl, L10, hmm, sm, g10.sub, fun H11 s11 => ?_⟩
            have gs11 := Gr.ofSame g10.sub s11
            have g11 := g10.trans gs11
            have o11 := o10.gr gs11
            have L11 := L10.gr gs11
            refine ⟨_, rfl, a, dx, _, rfl, o11.ob, by rfl, _, rfl, al, a, m.1, m.2, _, b, M, Ps, Us, S10, rfl, L11, hmm, sm.nd, t1, t2, g11.sub, fun H12 S12 wv g12a hw => ?_⟩
            have g12 := g11.trans g12a
            have ht := hw.tok
            obtain ⟨wa, cn, wdx, wfs, wl, rfl, hcn, hwa, hl1, hl2, hno⟩ := id ht
            refine ⟨wa, cn, wdx, wfs, rfl, g12.sub _ _ hwa, hcn, hno "tokens" (by decide +kernel), _, _, S12, rfl, ht, by omega, g12.sub, fun H13 S13 p13 g13a hp13 => ?_⟩
            have g13 := g12.trans g13a
            have o13 := (o11.gr g12a).gr g13a
            have L13 := (L11.gr g12a).gr g13a
            have hin : m.1 ∈ mnames M := List.mem_map.mpr ⟨m, hmm, rfl⟩
            refine ⟨_, rfl, a, dx, _, rfl, o13.ob, by rfl, _, rfl, al, a, m.1, _, b, M, Ps, Us, S13, rfl, L13, hin, sm, g13.sub, fun H14 S14 p14 g14a hp14 => ?_⟩
            have g14 := g13.trans g14a
            have o14 := o13.gr g14a
            have L14 := L13.gr g14a
            refine ⟨_, rfl, _, rfl, a, dx, _, rfl, o14.ob, al, a, m.1, _, b, M, Ps, Us, S14, rfl, L14, t1, t2, g14.sub, fun H15 s15 => ⟨_, rfl, ?_⟩⟩
            have g15 := g14.trans (Gr.ofSame g14.sub s15)
            refine ⟨by walk_at "sz", fun q1 hq1 => ?_⟩
            rw [decide_eq_true hin]
            generalize e16 : upd H15 q1 _ = H16
            have g16 := g15.l0 e16 hq1
            have up14 := g8.mono.trans (g10b.mono.trans (g12a.mono.trans (g13a.mono.trans g14a.mono)))
            have hv14 := hv.mono up14
            refine ⟨⟨_, rfl⟩, ?_⟩
            refine ⟨_, rfl, tv, m.2, S14, rfl, hv14, t3, by omega, by omega, g16.sub, fun H17 S17 p17 g17a hp17 => ?_⟩
            have g17 := g16.trans g17a
            refine ⟨" ", p17, toks m.2, rfl, rfl, .inl (sql (g17.sub _ _ hp17)), txt_small t3 (by omega), ?_⟩
            refine ⟨_, rfl, tv, m.2, S17, rfl, hv14.mono g17a.mono, t3, by omega, by omega, g17.sub, fun H18 S18 p18 g18a hp18 => ?_⟩
            have g18 := g17.trans g18a
            refine ⟨_, rfl, by walk_at "sz", fun q2 hq2 => ?_⟩
            generalize e19 : upd H18 q2 _ = H19
            have g19 := g18.l0 e19 hq2
            have old19 : ∀ {b o}, S18 b = some o → H19 b = some o := fun h => g19.sub _ _ h
            have hq19 : H19 q1 = some (.lst [.str (txtOf m.2), .ref p13, .ref p14, .bl true]) := old_at e19 hq2 (g18a.same _ _ (g17a.same _ _ (new_at e16)))
            have up18 := g17a.mono.trans g18a.mono
            refine ⟨.ref q1, .ref q2, H19, rfl, .inr ⟨q1, q2, _, _, rfl, rfl, Nat.le_of_ble_eq_true rfl, .inl ⟨hq19, new_at e19⟩, ?_⟩, Same.refl _, fun H20 s20 => ?_⟩
            · have tl : ((toks m.2).map V.str).length ≤ 1000 := by rw [List.length_map]; omega
              have ul2 : ((usersM M m.1).map V.str).length ≤ 1000 := by
                unfold usersM
                rw [List.length_map, List.length_map]
                exact Nat.le_trans (List.length_filter_le _ _) (Nat.le_trans sm.len (by decide))
              refine .cons (.inl (al_str _)) (.cons ?_ (.cons ?_ (.cons (.inl (al_bl _)) .nil)))
              · exact .inr ⟨p13, p18, _, _, rfl, rfl, tl, .inl ⟨old19 (up18 _ _ (g14a.mono _ _ hp13)), old19 hp18⟩, al_strs _⟩
              · exact .inr ⟨p14, D3, _, _, rfl, rfl, ul2, .inl ⟨old19 (up18 _ _ hp14), old19 (up18 _ _ (g14a.mono _ _ (g13a.mono _ _ (g12a.mono _ _ hu10))))⟩, al_strs _⟩
            walk_at "rd"
            exact ⟨S18, _, _, _, _, _, _, rfl, g19.trans (Gr.ofSame g19.sub s20)⟩
        · rintro σ H8 ⟨S8, x3, x4, x5, x6, x7, x8, rfl, g8⟩
          exact kk _ _ g8
end
end Lst

/-! ## LPl -/
namespace Lst
open PySem PySem.Spec PyProof.Rows L2
/-! ### what the law draws stays right: plain -/
theorem good_mono {al : Str} {e e' : List Str} (h : ∀ x ∈ e, x ∈ e') : ∀ {t : Tr}, goodT al e t → goodT al e' t
  | .nm _, g => h _ g
  | .lf _ _, g => g
  | .bh _ _, g => ⟨g.1, good_mono h g.2⟩
  | .op _ _ _, g => ⟨good_mono h g.1, good_mono h g.2⟩
theorem good_nms {al : Str} {e : List Str} : ∀ {t : Tr}, goodT al e t → ∀ x ∈ nms t, x ∈ e
  | .nm n, g, x, hx => by rw [List.mem_singleton.mp hx]; exact g
  | .lf _ _, _, x, hx => nomatch hx
  | .bh _ _, g, x, hx => good_nms g.2 x hx
  | .op _ _ _, g, x, hx => (List.mem_append.mp hx).elim (good_nms g.1 x) (good_nms g.2 x)
theorem good_lets {al : Str} {e : List Str} : ∀ {t : Tr}, goodT al e t → ∀ c ∈ lets t, c ∈ sg al
  | .nm n, g, c, hc => nomatch hc
  | .lf _ ws, g, c, hc => by
    obtain ⟨w, hw, h⟩ := List.mem_flatMap.mp hc
    exact (g.2.2 w hw).2.2 c h
  | .bh w _, g, c, hc => (List.mem_append.mp hc).elim (good_lets g.2 c) (g.1.2.2 c)
  | .op _ _ _, g, c, hc => (List.mem_append.mp hc).elim (good_lets g.1 c) (good_lets g.2 c)
theorem good_drop {al : Str} {e : List Str} {n : Str} : ∀ {t : Tr}, goodT al e t → n ∉ nms t → goodT al (e.filter fun x => !decide (x = n)) t
  | .nm m, g, h => List.mem_filter.mpr ⟨g, by rw [decide_eq_false fun e => h (by rw [e]; exact List.mem_singleton.mpr rfl)]; rfl⟩
  | .lf _ _, g, _ => g
  | .bh _ _, g, h => ⟨g.1, good_drop g.2 h⟩
  | .op _ _ _, g, h => ⟨good_drop g.1 fun z => h (List.mem_append_left _ z), good_drop g.2 fun z => h (List.mem_append_right _ z)⟩
def fR (x y z : Str) : Str := if z = x then y else z
theorem good_ren {al : Str} {e : List Str} {x y : Str} : ∀ {t : Tr}, goodT al e t → goodT al (e.map (fR x y)) (ren x y t)
  | .nm m, g => List.mem_map.mpr ⟨m, g, rfl⟩
  | .lf _ _, g => g
  | .bh _ _, g => ⟨g.1, good_ren g.2⟩
  | .op _ _ _, g => ⟨good_ren g.1, good_ren g.2⟩
theorem ren_sz {x y : Str} : ∀ t : Tr, (toks (ren x y t)).length = (toks t).length ∧ depth (ren x y t) = depth t
  | .nm _ => ⟨rfl, rfl⟩
  | .lf _ _ => ⟨rfl, rfl⟩
  | .bh w t => by
    obtain ⟨h1, h2⟩ := ren_sz (x := x) (y := y) t
    refine ⟨?_, congrArg (· + 1) h2⟩
    show (toks (ren x y t) ++ [bhTok w]).length = (toks t ++ [bhTok w]).length
    rw [List.length_append, List.length_append, h1]
  | .op b l r => by
    obtain ⟨h1, h2⟩ := ren_sz (x := x) (y := y) l
    obtain ⟨h3, h4⟩ := ren_sz (x := x) (y := y) r
    refine ⟨?_, ?_⟩
    · show (toks (ren x y l) ++ toks (ren x y r) ++ [opS b]).length = (toks l ++ toks r ++ [opS b]).length
      simp only [List.length_append, h1, h3]
    · show max (depth (ren x y l)) (depth (ren x y r)) + 1 = max (depth l) (depth r) + 1
      rw [h2, h4]
section
variable {al : Str} {ns : List Str}
theorem mok_snoc {n : Str} {t : Tr} : ∀ {M : Mo} {e : List Str}, MOk al ns e M → n ∈ ns → n ∉ e → n ∉ mnames M → goodT al (e ++ mnames M) t → (toks t).length ≤ 7 → depth t ≤ 4 → MOk al ns e (M ++ [(n, t)])
  | [], e, _, h1, h2, _, h4, h5, h6 => ⟨h1, h2, ⟨by rw [show e ++ mnames [] = e from List.append_nil e] at h4; exact h4, h5, h6⟩, True.intro⟩
  | (x, u) :: r, e, h, h1, h2, h3, h4, h5, h6 => by
    obtain ⟨a, b, c, g⟩ := h
    have h3' := fun z => h3 (List.mem_cons_of_mem _ z)
    have hx : n ≠ x := fun z => h3 (by rw [z]; exact List.mem_cons_self ..)
    refine ⟨a, b, c, mok_snoc g h1 (fun z => (List.mem_append.mp z).elim h2 fun z => hx (List.mem_singleton.mp z)) h3' ?_ h5 h6⟩
    rw [List.append_assoc]
    exact h4
theorem mok_chg {n : Str} {t : Tr} : ∀ {M : Mo} {e : List Str}, MOk al ns e M → (n ∈ e ∨ goodT al (e ++ ahead M n) t) → (toks t).length ≤ 7 → depth t ≤ 4 → MOk al ns e (M.map fun m => (m.1, if m.1 = n then t else m.2))
  | [], e, _, _, _, _ => True.intro
  | (x, u) :: r, e, h, h1, h5, h6 => by
    obtain ⟨a, b, c, g⟩ := h
    by_cases q : x = n
    · subst q
      have hg : goodT al e t := by
        rcases h1 with z | z
        · exact absurd z b
        · have : ahead ((x, u) :: r) x = [] := by
            unfold ahead mnames
            rw [List.map_cons, List.takeWhile_cons, if_neg (by rw [decide_eq_true rfl]; decide)]
          rw [this, List.append_nil] at z
          exact z
      refine ⟨a, b, ?_, mok_chg g (.inl (List.mem_append_right _ (List.mem_singleton.mpr rfl))) h5 h6⟩
      show goodT al e (if x = x then t else u) ∧ (toks (if x = x then t else u)).length ≤ 7 ∧ depth (if x = x then t else u) ≤ 4
      rw [if_pos rfl]
      exact ⟨hg, h5, h6⟩
    · refine ⟨a, b, ?_, mok_chg g ?_ h5 h6⟩
      · show goodT al e (if x = n then t else u) ∧ (toks (if x = n then t else u)).length ≤ 7 ∧ depth (if x = n then t else u) ≤ 4
        rw [if_neg q]
        exact c
      · rcases h1 with z | z
        · exact .inl (List.mem_append_left _ z)
        · right
          have : ahead ((x, u) :: r) n = x :: ahead r n := by
            unfold ahead mnames
            rw [List.map_cons, List.takeWhile_cons, if_pos (by rw [decide_eq_false q]; rfl)]
          rw [this] at z
          rw [List.append_assoc]
          exact z
theorem mok_drop {n : Str} : ∀ {M : Mo} {e : List Str}, MOk al ns e M → (∀ m ∈ M, n ∉ nms m.2) → MOk al ns (e.filter fun x => !decide (x = n)) (M.filter fun m => !decide (m.1 = n))
  | [], e, _, _ => True.intro
  | (x, u) :: r, e, h, h1 => by
    obtain ⟨a, b, c, g⟩ := h
    have ih := mok_drop g fun m hm => h1 m (List.mem_cons_of_mem _ hm)
    rw [List.filter_append] at ih
    by_cases q : x = n
    · rw [List.filter_cons, if_neg (by rw [decide_eq_true q]; decide)]
      rw [List.filter_cons, if_neg (by rw [decide_eq_true q]; decide), List.filter_nil, List.append_nil] at ih
      exact ih
    · rw [List.filter_cons, if_pos (by rw [decide_eq_false q]; rfl)]
      rw [List.filter_cons, if_pos (by rw [decide_eq_false q]; rfl), List.filter_nil] at ih
      exact ⟨a, fun z => b (List.mem_filter.mp z).1, ⟨good_drop c.1 (h1 _ (List.mem_cons_self ..)), c.2⟩, ih⟩
theorem mok_ren {x y : Str} (hy : y ∈ ns) : ∀ {M : Mo} {e : List Str}, MOk al ns e M → y ∉ e → y ∉ mnames M → MOk al ns (e.map (fR x y)) (M.map fun m => (if m.1 = x then y else m.1, ren x y m.2))
  | [], e, _, _, _ => True.intro
  | (z, u) :: r, e, h, h1, h2 => by
    obtain ⟨a, b, c, g⟩ := h
    have yz : y ≠ z := fun q => h2 (by rw [q]; exact List.mem_cons_self ..)
    have ih := mok_ren (x := x) hy g (fun q => (List.mem_append.mp q).elim h1 fun q => yz (List.mem_singleton.mp q)) fun q => h2 (List.mem_cons_of_mem _ q)
    rw [List.map_append] at ih
    obtain ⟨s1, s2⟩ := ren_sz (x := x) (y := y) u
    refine ⟨?_, ?_, ⟨good_ren c.1, by rw [s1]; exact c.2.1, by rw [s2]; exact c.2.2⟩, ih⟩
    · show (if z = x then y else z) ∈ ns
      split
      · exact hy
      · exact a
    · intro q
      obtain ⟨v, hv, e1⟩ := List.mem_map.mp q
      have e1 : (if v = x then y else v) = if z = x then y else z := e1
      by_cases c1 : v = x
      · rw [if_pos c1] at e1
        by_cases c2 : z = x
        · exact b (by rw [c2, ← c1]; exact hv)
        · rw [if_neg c2] at e1
          exact yz e1
      · rw [if_neg c1] at e1
        by_cases c2 : z = x
        · rw [if_pos c2] at e1
          exact h1 (by rw [← e1]; exact hv)
        · rw [if_neg c2] at e1
          exact b (by rw [← e1]; exact hv)
theorem mok_step {M : Mo} {cm : Cmd} (h : MOk al ns [] M) (c : CmdOk al ns M cm) : MOk al ns [] (step M cm) := by
  cases cm with
  | put n t => exact mok_snoc h c.1 (fun z => nomatch z) c.2.1 c.2.2.1 c.2.2.2.1 c.2.2.2.2
  | chg n t => exact mok_chg h (.inr c.2.1) c.2.2.1 c.2.2.2
  | drp n =>
    refine mok_drop h fun m hm z => ?_
    have q : m.1 ∈ usersM M n := List.mem_map.mpr ⟨m, List.mem_filter.mpr ⟨hm, decide_eq_true z⟩, rfl⟩
    rw [c.2] at q
    cases q
  | rnm x y => exact mok_ren c.2.1 h (fun z => nomatch z) c.2.2
theorem mok_sm (hl : lowS al = true) (hn : NsOk ns) {M : Mo} (h : MOk al ns [] M) : MSm M ∧ ∀ m ∈ M, depth m.2 ≤ 4 := by
  have q := mok_all (e := []) hl hn.ok (fun _ z => nomatch z) h
  refine ⟨⟨(mok_nd h).1, Nat.le_trans (mok_len hl hn h) (by decide), fun m hm => ?_⟩, fun m hm => (q m hm).2.2.2.2⟩
  obtain ⟨a, b, c, d, e⟩ := q m hm
  exact ⟨hn.ok _ a, Nat.le_trans (hn.short _ a) (by decide), b, c, by omega⟩
theorem tr_ok (hl : lowS al = true) (hn : NsOk ns) {t : Tr} {e : List Str} (he : ∀ x ∈ e, x ∈ ns) (g : goodT al e t) (h1 : (toks t).length ≤ 7) (h2 : depth t ≤ 4) : TrL al t :=
  ⟨(good_ok hl (fun x hx => hn.ok x (he x hx)) t g).1, (good_ok hl (fun x hx => hn.ok x (he x hx)) t g).2, by omega, h2, good_lets g⟩
theorem mn_ns (hl : lowS al = true) (hn : NsOk ns) {M : Mo} (h : MOk al ns [] M) : ∀ x ∈ mnames M, x ∈ ns := fun x hx => by
  obtain ⟨m, hm, rfl⟩ := List.mem_map.mp hx
  exact (mok_all (e := []) hl hn.ok (fun _ z => nomatch z) h m hm).1
theorem cmd_ok (hl : lowS al = true) (hn : NsOk ns) {M : Mo} (h : MOk al ns [] M) {cm : Cmd} (c : CmdOk al ns M cm) : CmdL al M cm := by
  have mn := mn_ns hl hn h
  cases cm with
  | put n t => exact ⟨hn.ok n c.1, Nat.le_trans (hn.short n c.1) (by decide), c.2.1, by have := mok_len hl hn h; omega, tr_ok hl hn mn c.2.2.1 c.2.2.2.1 c.2.2.2.2, good_nms c.2.2.1⟩
  | chg n t => exact ⟨c.1, tr_ok hl hn (fun x hx => mn x ((List.takeWhile_sublist _).subset hx)) c.2.1 c.2.2.1 c.2.2.2, good_nms c.2.1⟩
  | drp n => exact c
  | rnm x y => exact ⟨c.1, hn.ok y c.2.1, c.2.2⟩
theorem cmd_t (hl : lowS al = true) (hn : NsOk ns) {M : Mo} (h : MOk al ns [] M) {cm : Cmd} (c : CmdOk al ns M cm) : cmT cm := by
  have mn := mn_ns hl hn h
  cases cm with
  | put n t => exact ⟨(good_ok hl (fun x hx => hn.ok x (mn x hx)) t c.2.2.1).1, c.2.2.2.2, c.2.2.2.1⟩
  | chg n t => exact ⟨(good_ok hl (fun x hx => hn.ok x (mn x ((List.takeWhile_sublist _).subset hx))) t c.2.1).1, c.2.2.2, c.2.2.1⟩
  | drp n => trivial
  | rnm x y => trivial
/-! ### the refused step -/
theorem sg_z : ∀ n : Str, sg (n ++ "z") = sg n ++ [122] := fun n => by
  show (n.cps ++ (Str.ofString "z").cps).toList = n.cps.toList ++ [122]
  rw [Array.toList_append]
  rfl
theorem nameZ (hn : NsOk ns) {n : Str} (h : n ∈ ns) : nameOk (n ++ "z") = true ∧ (n ++ "z").length ≤ 8 ∧ (n ++ "z" : Str) ∉ ns ∧ (n ++ "z" : Str) ≠ "zz" := by
  have l1 : (n ++ "z" : Str).length ≤ 8 := by
    rw [len_app]
    have := hn.short n h
    show n.length + 1 ≤ 8
    omega
  have z122 : 122 ∈ sg (n ++ "z") := by
    rw [sg_z]
    exact List.mem_append_right _ (List.mem_singleton.mpr rfl)
  refine ⟨?_, l1, fun q => hn.noz _ q z122, fun q => ?_⟩
  · unfold nameOk isWordB
    rw [decide_eq_true (by omega), Bool.true_and, Bool.and_eq_true]
    refine ⟨?_, ?_⟩
    · unfold lowS
      rw [sg_z, List.all_append, show (sg n).all (fun c => decide (c ∈ sg LET)) = true from nameOk_low (hn.ok n h)]
      decide +kernel
    · rw [decide_eq_false]
      · rfl
      · intro q
        have all : ∀ x ∈ (["", "both", "either"] : List Str), 122 ∉ sg x := by decide +kernel
        exact all _ q z122
  · have q2 : sg (n ++ "z") = [122, 122] := by
      rw [q]
      decide +kernel
    rw [sg_z] at q2
    have q3 : sg n = [122] := by
      have : sg n ++ [122] = [122] ++ [122] := q2
      exact List.append_cancel_right this
    exact hn.noz n h (by rw [q3]; exact List.mem_singleton.mpr rfl)
end
end Lst

/-! ## LSt -/
namespace Lst
open PySem PySem.Spec PyProof.Rows L2
section
variable {al : Str} {ns : List Str}
def ChOk (al : Str) (ns : List Str) : Mo → List Cmd → Prop
  | _, [] => True
  | M, c :: r => CmdOk al ns M c ∧ ChOk al ns (step M c) r
theorem ch_of (hl : lowS al = true) (hn : NsOk ns) : ∀ {cms : List Cmd} {M : Mo}, MOk al ns [] M → ChOk al ns M cms → ChainL al M cms ∧ MOk al ns [] (cms.foldl step M)
  | [], M, h, _ => ⟨True.intro, h⟩
  | c :: r, M, h, ⟨c1, c2⟩ => by
    obtain ⟨i1, i2⟩ := ch_of hl hn (mok_step h c1) c2
    exact ⟨⟨(mok_sm hl hn h).1, cmd_ok hl hn h c1, i1⟩, i2⟩
def badC (n al : Str) : Cmd := .put (n ++ "z") (.lf true [al])
theorem bad_vs (n al : Str) : cmdVs (badC n al) = [.str "put", .str (n ++ "z"), .str ("never:" ++ al)] := by
  have h1 : txtOf (.lf true [al]) = leafTok true [al] := rfl
  have h2 : leafTok true [al] = "never:" ++ al := by
    show ("never" ++ ":" : Str) ++ al = "never:" ++ al
    rw [show ("never" ++ ":" : Str) = "never:" by decide +kernel]
  show [V.str "put", V.str (n ++ "z"), V.str (txtOf (.lf true [al]))] = _
  rw [h1, h2]
theorem bad_ok (ha : AlOk al) (hn : NsOk ns) {M : Mo} (h : MOk al ns [] M) {n : Str} (hm : n ∈ ns) :
    ChainL al M [badC n al] ∧ MSm (step M (badC n al)) ∧ ("zz" : Str) ∉ mnames (step M (badC n al)) ∧ nameOk "zz" = true := by
  obtain ⟨z1, z2, z3, z4⟩ := nameZ hn hm
  have mn := mn_ns ha.low hn h
  have sm := (mok_sm ha.low hn h).1
  have ml := mok_len ha.low hn h
  have l1 := ha.lo
  have l2 := ha.hi
  have wok : wordOk al = true := word_ok ha.low ⟨l1, l2, fun c hc => hc⟩
  have s1 : smT (.lf true [al]) := ⟨(by show 1 ≤ 4; decide), fun x hx => by rw [List.mem_singleton.mp hx]; omega⟩
  have s2 : trOk (.lf true [al]) := ⟨List.cons_ne_nil _ _, (by show 1 ≤ 4; decide), fun x hx => by rw [List.mem_singleton.mp hx]; exact wok⟩
  have nin : (n ++ "z" : Str) ∉ mnames M := fun z => z3 (mn _ z)
  have st : step M (badC n al) = M ++ [(n ++ "z", .lf true [al])] := rfl
  have mst : mnames (step M (badC n al)) = mnames M ++ [n ++ "z"] := by
    rw [st]
    unfold mnames
    rw [List.map_append]
    rfl
  refine ⟨⟨sm, ⟨z1, by omega, nin, by omega, ⟨s1, s2, (by show 1 ≤ 20; decide), (by show 0 ≤ 4; decide), fun c hc => ?_⟩, fun x hx => nomatch hx⟩, True.intro⟩, ⟨?_, ?_, fun m hm => ?_⟩, ?_, by decide +kernel⟩
  · have hc : c ∈ ([al] : List Str).flatMap sg := hc
    rw [List.flatMap_singleton] at hc
    exact hc
  · rw [mst]
    exact List.nodup_append.mpr ⟨sm.nd, by simp, fun a ha b hb => by
      rw [List.mem_singleton.mp hb]
      exact fun e => nin (by rw [← e]; exact ha)⟩
  · rw [st, List.length_append]
    show M.length + 1 ≤ 12
    omega
  · rw [st] at hm
    rcases List.mem_append.mp hm with q | q
    · exact sm.tr m q
    · rw [List.mem_singleton.mp q]
      exact ⟨z1, (by show (n ++ "z" : Str).length ≤ _; omega), s1, s2, (by show 1 ≤ 20; decide)⟩
  · rw [mst]
    intro z
    rcases List.mem_append.mp z with q | q
    · exact hn.noz _ (mn _ q) (by decide +kernel)
    · exact z4 (List.mem_singleton.mp q).symm
end
/-! ### the law's state between two deeds -/
structure DS (K : PySem.W.Frag) (β P : Addr) (q : Str) (al : Str) (ns : List Str) (a : Addr) (fp : List Addr) (M : Mo) (Ps Us : List Mo) (mv nv : V) (pa ga : Addr) (S H : Hp) : Prop where
  sub : Same S H
  bag : BagAt S H β
  tab : LamX.Tabs [(P, q)] H
  lib : LibI K al S H a fp false M Ps Us
  nb : β ∉ fp
  mo : ModelAt S mv M
  nn : StrsAt S nv ns
  al_ : AlOk al
  ns_ : NsOk ns
  mok : MOk al ns [] M
  past : ∃ vs, S pa = some (.lst vs) ∧ Paired (ModelAt S) vs Ps
  gone : ∃ vs, S ga = some (.lst vs) ∧ Paired (ModelAt S) vs Us
  pok : ∀ m ∈ Ps, MOk al ns [] m
  gok : ∀ m ∈ Us, MOk al ns [] m
theorem tab_gm {ms : Addr → Prop} {S H S' H' : Hp} {P : Addr} {q : Str} (t : LamX.Tabs [(P, q)] H) (g : Gm ms H S H' S') (n : ∀ b, ms b → (∀ ps, H b ≠ some (.tbl ps)) ∧ ∀ c r, H b ≠ some (LamX.CodeO c r)) : LamX.Tabs [(P, q)] H' := by
  intro p hp
  obtain ⟨ps, h1, h2, h3⟩ := t p hp
  refine ⟨ps, g.kept h1 fun z => (n _ z).1 ps h1, h2, fun pos cv hc => ?_⟩
  obtain ⟨c, e1, e2⟩ := h3 pos cv hc
  exact ⟨c, e1, g.kept e2 fun z => (n _ z).2 c _ e2⟩
theorem bag_ms {S H : Hp} {β : Addr} (b : BagAt S H β) : ∀ x, one β x → (∀ ps, H x ≠ some (.tbl ps)) ∧ ∀ c r, H x ≠ some (LamX.CodeO c r) := by
  intro x hx
  obtain ⟨c, cells, i, big, seed, cnt, h, _⟩ := b.ex
  have hx : x = β := hx
  rw [hx, h]
  exact ⟨(fun ps z => by cases z), fun c r z => by unfold LamX.CodeO at z; cases z⟩
theorem LibI.kind {K : PySem.W.Frag} {al : Str} {S H : Hp} {a : Addr} {fp : List Addr} {b : Bool} {M : Mo} {Ps Us : List Mo} (t : LibI K al S H a fp b M Ps Us) : ∀ x, x ∈ fp → (∃ C dx fs, H x = some (.ins C dx fs)) ∨ (∃ kvs, H x = some (.dK kvs)) ∨ ∃ xs, H x = some (.lst xs) := by
  obtain ⟨dx, d, k, p, u, ps, us, rfl, o⟩ := t
  intro x hx
  simp only [List.mem_cons, List.mem_append] at hx
  have dct : ∀ y m, DctAt K S H y m → ∃ kvs, H y = some (.dK kvs) := fun y m ⟨kv, hy, _⟩ => ⟨kv, hy⟩
  rcases hx with e | e | e | e | e | e | e
  · rw [e]; exact .inl ⟨_, _, _, o.ob⟩
  · rw [e]; exact .inr (.inl (dct _ _ o.di))
  · rw [e]; exact .inr (.inl ⟨_, o.kp⟩)
  · rw [e]; exact .inr (.inr ⟨_, o.pa⟩)
  · rw [e]; exact .inr (.inr ⟨_, o.un⟩)
  · obtain ⟨m, hm⟩ := pair_mem o.ds x e
    exact .inr (.inl (dct _ _ hm))
  · obtain ⟨m, hm⟩ := pair_mem o.es x e
    exact .inr (.inl (dct _ _ hm))
theorem LibI.ms {K : PySem.W.Frag} {al : Str} {S H : Hp} {a : Addr} {fp : List Addr} {b : Bool} {M : Mo} {Ps Us : List Mo} (t : LibI K al S H a fp b M Ps Us) : ∀ x, x ∈ fp → (∀ ps, H x ≠ some (.tbl ps)) ∧ ∀ c r, H x ≠ some (LamX.CodeO c r) := by
  intro x hx
  rcases t.kind x hx with ⟨C, dx, fs, h⟩ | ⟨kvs, h⟩ | ⟨xs, h⟩ <;> (rw [h]; exact ⟨(fun ps z => by cases z), fun c r z => by unfold LamX.CodeO at z; cases z⟩)
theorem BagAt.gm {ms : Addr → Prop} {S H S' H' : Hp} {β : Addr} (b : BagAt S H β) (g : Gm ms H S H' S') (n : ¬ ms β) : BagAt S' H' β := by
  obtain ⟨c, cells, i, big, seed, cnt, h, hc, r⟩ := b.ex
  exact ⟨⟨c, cells, i, big, seed, cnt, g.kept h n, g.mono _ _ hc, r⟩, g.new _ b.out (live_of h)⟩
section
variable {K : PySem.W.Frag} {β P : Addr} {q : Str} {al : Str} {ns : List Str} {a : Addr} {fp : List Addr} {M : Mo} {Ps Us : List Mo} {mv nv : V} {pa ga : Addr} {S H S' H' : Hp}
theorem mods_mono {vs : List V} {Ms : List Mo} (h : Same S S') (p : Paired (ModelAt S) vs Ms) : Paired (ModelAt S') vs Ms := L2.Paired.mapP p fun _ _ z => z.mono h
/-- behind a draw -/
theorem DS.draw (d : DS K β P q al ns a fp M Ps Us mv nv pa ga S H) (g : Gm (one β) H S H' S') (b : BagAt S' H' β) : DS K β P q al ns a fp M Ps Us mv nv pa ga S' H' := by
  obtain ⟨v1, p1, p2⟩ := d.past
  obtain ⟨v2, g1, g2⟩ := d.gone
  exact ⟨g.sub, b, tab_gm d.tab g (bag_ms d.bag), d.lib.gm g fun x hx z => d.nb (by rw [← (show x = β from z)]; exact hx), d.nb, d.mo.mono g.mono, d.nn.mono g.mono, d.al_, d.ns_, d.mok, ⟨v1, g.mono _ _ p1, mods_mono g.mono p2⟩, ⟨v2, g.mono _ _ g1, mods_mono g.mono g2⟩, d.pok, d.gok⟩
/-- behind what writes nothing -/
theorem DS.gr (d : DS K β P q al ns a fp M Ps Us mv nv pa ga S H) (g : Gr H S H' S') : DS K β P q al ns a fp M Ps Us mv nv pa ga S' H' := d.draw g.m (d.bag.gr g)
/-- behind a step of the library -/
theorem DS.step_ {fp' : List Addr} {M' : Mo} {Ps' Us' : List Mo} (d : DS K β P q al ns a fp M Ps Us mv nv pa ga S H) (g : Gm (fun x => x ∈ fp) H S H' S') (l : LibI K al S' H' a fp' false M' Ps' Us') (m : ∀ x ∈ fp', x ∈ fp ∨ H x = none) {mv' : V} {pa' ga' : Addr} (h1 : ModelAt S' mv' M') (h2 : MOk al ns [] M')
    (h3 : ∃ vs, S' pa' = some (.lst vs) ∧ Paired (ModelAt S') vs Ps') (h4 : ∃ vs, S' ga' = some (.lst vs) ∧ Paired (ModelAt S') vs Us') (h5 : ∀ m ∈ Ps', MOk al ns [] m) (h6 : ∀ m ∈ Us', MOk al ns [] m) : DS K β P q al ns a fp' M' Ps' Us' mv' nv pa' ga' S' H' :=
  ⟨g.sub, d.bag.gm g d.nb, tab_gm d.tab g d.lib.ms, l, fun z => (m _ z).elim d.nb d.bag.live, h1, d.nn.mono g.mono, d.al_, d.ns_, h2, h3, h4, h5, h6⟩
end
/-! ### the making of a lambda writes its table alone -/
/-- S without tables -/
def noT (S : Hp) : Hp := fun b => match S b with
  | some (.tbl _) => none
  | x => x
theorem noT_of {S : Hp} {b : Addr} {o : HO} (h : S b = some o) (n : ∀ ps, o ≠ .tbl ps) : noT S b = some o := by
  unfold noT
  rw [h]
  cases o <;> first | rfl | exact absurd rfl (n _)
theorem noT_get {S : Hp} {b : Addr} {o : HO} (h : noT S b = some o) : S b = some o ∧ ∀ ps, o ≠ .tbl ps := by
  unfold noT at h
  cases q : S b with
  | none =>
    rw [q] at h
    cases h
  | some u =>
    rw [q] at h
    cases u <;> first | exact ⟨h, fun ps z => by rw [z] at h; cases h⟩ | cases h
theorem noT_none {S : Hp} {b : Addr} (h : S b = none) : noT S b = none := by
  unfold noT
  rw [h]
section
variable {K : PySem.W.Frag} {S : Hp}
theorem noT_lst {b : Addr} {xs : List V} (h : S b = some (.lst xs)) : noT S b = some (.lst xs) := noT_of h fun ps z => by cases z
theorem noT_tup {b : Addr} {xs : List V} (h : S b = some (.tup xs)) : noT S b = some (.tup xs) := noT_of h fun ps z => by cases z
theorem noT_ins {b C dx : Addr} {fs : List (Str × V)} (h : S b = some (.ins C dx fs)) : noT S b = some (.ins C dx fs) := noT_of h fun ps z => by cases z
theorem strs_n {v : V} {xs : List Str} (t : StrsAt S v xs) : StrsAt (noT S) v xs := by
  obtain ⟨a, e, h⟩ := t
  exact ⟨a, e, noT_lst h⟩
theorem tree_n : ∀ {t : Tr} {v : V}, TreeAt S v t → TreeAt (noT S) v t
  | .nm n, v, ⟨a, e, h1⟩ => ⟨a, e, noT_lst h1⟩
  | .lf b ws, v, ⟨a, l, e, h1, h2⟩ => ⟨a, l, e, noT_lst h1, noT_lst h2⟩
  | .bh w t, v, ⟨a, u, e, h1, h2⟩ => ⟨a, u, e, noT_lst h1, tree_n h2⟩
  | .op b l r, v, ⟨a, x, y, e, h1, h2, h3⟩ => ⟨a, x, y, e, noT_lst h1, tree_n h2, tree_n h3⟩
theorem model_n {v : V} {M : Mo} (t : ModelAt S v M) : ModelAt (noT S) v M := by
  obtain ⟨a, vs, e, h, p⟩ := t
  refine ⟨a, vs, e, noT_lst h, L2.Paired.mapP p fun _ _ z => ?_⟩
  obtain ⟨b, u, e, h1, h2⟩ := z
  exact ⟨b, u, e, noT_tup h1, tree_n h2⟩
theorem wish_n : ∀ {t : Tr} {v : V}, WishAt K S v t → WishAt K (noT S) v t
  | .nm n, v, ⟨a, dx, pt, l, e, h1, h2, h3⟩ => ⟨a, dx, pt, l, e, noT_ins h1, noT_tup h2, noT_lst h3⟩
  | .lf b ws, v, ⟨a, dx, wt, pt, l, e, h1, h2, h3, h4⟩ => ⟨a, dx, wt, pt, l, e, noT_ins h1, noT_tup h2, noT_tup h3, noT_lst h4⟩
  | .bh w t, v, ⟨a, dx, pt, l, u, e, h1, h2, h3, h4⟩ => ⟨a, dx, pt, l, u, e, noT_ins h1, noT_tup h2, noT_lst h3, wish_n h4⟩
  | .op b l r, v, ⟨a, dx, pt, l', u, u', e, h1, h2, h3, h4, h5⟩ => ⟨a, dx, pt, l', u, u', e, noT_ins h1, noT_tup h2, noT_lst h3, wish_n h4, wish_n h5⟩
theorem dct_n {H H' : Hp} (e : LamX.ExtN H H') {d : Addr} {M : Mo} (t : DctAt K S H d M) : DctAt K (noT S) H' d M := by
  obtain ⟨kvs, h1, h2⟩ := t
  exact ⟨kvs, e _ _ h1 (fun ps z => by cases z), L2.Paired.mapP h2 fun _ _ z => ⟨z.1, wish_n z.2⟩⟩
theorem lib_n {H H' : Hp} (e : LamX.ExtN H H') {al : Str} {a : Addr} {fp : List Addr} {b : Bool} {M : Mo} {Ps Us : List Mo} (t : LibI K al S H a fp b M Ps Us) : LibI K al (noT S) H' a fp b M Ps Us := by
  obtain ⟨dx, d, k, p, u, ps, us, rfl, o⟩ := t
  exact ⟨dx, d, k, p, u, ps, us, rfl, e _ _ o.ob (fun ps z => by cases z), dct_n e o.di, e _ _ o.kp (fun ps z => by cases z), e _ _ o.pa (fun ps z => by cases z), e _ _ o.un (fun ps z => by cases z),
    L2.Paired.mapP o.ds fun _ _ z => dct_n e z, L2.Paired.mapP o.es fun _ _ z => dct_n e z, o.nd, fun x hx => noT_none (o.out x hx)⟩
theorem bag_n {H H' : Hp} (e : LamX.ExtN H H') {β : Addr} (b : BagAt S H β) : BagAt (noT S) H' β := by
  obtain ⟨c, cells, i, big, seed, cnt, h, hc, r⟩ := b.ex
  exact ⟨⟨c, cells, i, big, seed, cnt, e _ _ h (fun ps z => by cases z), noT_lst hc, r⟩, noT_none b.out⟩
theorem DS.lam {β P : Addr} {q : Str} {al : Str} {ns : List Str} {a : Addr} {fp : List Addr} {M : Mo} {Ps Us : List Mo} {mv nv : V} {pa ga : Addr} {H H' : Hp} (d : DS K β P q al ns a fp M Ps Us mv nv pa ga S H) (e : LamX.ExtN H H') (t : LamX.Tabs [(P, q)] H') :
    DS K β P q al ns a fp M Ps Us mv nv pa ga (noT S) H' := by
  obtain ⟨v1, p1, p2⟩ := d.past
  obtain ⟨v2, g1, g2⟩ := d.gone
  exact ⟨fun b o h => e _ _ (d.sub _ _ (noT_get h).1) (noT_get h).2, bag_n e d.bag, t, lib_n e d.lib, d.nb, model_n d.mo, strs_n d.nn, d.al_, d.ns_, d.mok, ⟨v1, noT_lst p1, L2.Paired.mapP p2 fun _ _ z => model_n z⟩, ⟨v2, noT_lst g1, L2.Paired.mapP g2 fun _ _ z => model_n z⟩, d.pok, d.gok⟩
end
end Lst

/-! ## LLaw0 -/
namespace Lst
open PySem PySem.Spec PyProof.Rows L2
/-- what lets nothing out passes -/
theorem passF {X : Cx} {P : Program} {w : World} : Passes (L2.CX P w) X (fun _ _ _ => False) := fun _ _ _ _ _ _ _ h => by
  obtain ⟨_, _, _, _, _, _, _, _, _, _, _, _, z⟩ := h
  exact z.elim
section
variable {X : Cx} {CX : CXT} {k : Nat} {C f : Addr} {sp : Sp} {E : XK} {m : Str} {pos apos : Pos} {o : Expr} {ta : TE}
theorem pe_methR0 {pl : Sem Bool} (he : PE X o ta) (c : Cls X.K C) (hm : Meth X.K C m f) (F : FnR X.prog X.w X.K X.mg X.base CX k f sp) (hr : Room k X.A) (hx : Passes CX X E)
    (ht : eval (.Call (.Attribute o m apos) [] [] pos) X.env = (do
      let ov ← eval o X.env
      standAt apos.atName
      let (f, first) ← holding [ov] (getMethod ov m pl)
      callWith pos f first (backTo pos (starEach [] X.env)) (backToKw pos (keywordEach [] X.env))) := by rfl) :
    PE X (.Call (.Attribute o m apos) [] [] pos) (tMethR C m sp E ta tNil) := by
  refine ⟨fun pins s σ H Q I h => ?_⟩
  refine PySem.W.methodCall_KW (pl := pl) (thn (he.run pins s σ H _ I h) fun u s1 ⟨x, H1, I1, rx, a, dx, fs, ex, ea, l, q⟩ => ?_) ht
  subst ex
  obtain rfl : u = Value.ref a := rx
  refine getmeth_ok I1 ea c hm l ?_
  refine PySem.W.callWith_K0 (first := [.ref a]) I1.kIn hm.kp ?_
  exact wpAny_call (run_fnR (us := [.ref a]) (vs := [.ref a]) F hr hx I1 (.cons rfl .nil) q)
end
/-- Library(alphabet, limit = ..) -/
theorem kb_lib {K : PySem.W.Frag} {mg : Str → Option Value} (T : Txt K mg) : ∃ mv : List Value, KBn K (fdA K (He.fAd K d_Library_init.at_)) P_Library_init 2 ["limit"] (fun us ws => us ++ ws) (fun vs zs => vs ++ zs) := by
  obtain ⟨mv, h⟩ := T.f_Library_init.kbinds0 (ps := P_Library_init) 2 ["limit"] [] (fun us _ ws => us ++ ws) (List.cons_ne_nil _ _) (fun q hq => nomatch hq) (fun r _ rz => r.append rz) (fun D doc pm an cdv ct us mv ws h1 h2 h3 => by
    match us, mv, ws, h1, h2, h3 with
    | [_, _], [], [_], _, _, _ => rfl)
  exact ⟨mv, h⟩
/-- _law_try(lambda: body) -/
theorem pe_tryL {X : Cx} {K : PySem.W.Frag} {mg : Str → Option Value} {base : Heap} (hK : X.K = K) (hmg : X.mg = mg) (hbs : X.base = base) (T : Txt K mg) (T5 : Txt5 K) {x : Str} (hx : x ∈ (["UnknownName", "NothingLeft"] : List Str)) {k : Nat} (hr : Room (k + 3) X.A) {c P : Addr} {q : Str}
    (TB : LamX.TabB base mg c P) (hcode : X.env.code = .ref c) (hq : X.env.qual ++ "<lambda>" = q) (hg : Gl X "_law_try") {params : Arguments} {body : Expr} {scope : Scope} {p lpos pos : Pos} {t : XK → TE} (L : LamX.LamS X.env.scope scope) (hdef : defaultsOf params X.env = ([], []))
    (hbind : ∀ (q : Str) (cl : List (Str × Addr)) (pm cv ctv : Value), bindArgs (PySem.W.kla_fn "<lambda>" q params body scope cl pm cv ctv) ⟨[], []⟩ = pure [])
    (hbody : ∀ (A : Around) (outer : List Env) (s : Shared) (H : Hp) (E : XK) (f c' : Addr), Room (k + 1) (A.deeper (LamX.lamEnv X scope s.heap.objs.size f c')) → PE (LamX.lamCx X A outer s H E scope f c') body (t E)) :
    PE X (.Call (.Name "_law_try" p) [.Lambda params body scope lpos] [] pos) (LamX.tLam [(P, q)] (TTry K x) t) := by
  subst hK
  subst hmg
  subst hbs
  subst hq
  obtain ⟨oc, od', dV, kV, doc, pm, an, cdv, ct, osl, efd, lk, hcd, hD, _⟩ := (T.f_l_try).ex
  rw [efd] at lk
  have b := T.b_l_try
  rw [efd] at b
  exact LamX.pe_lamcall (k := k + 1) hg (T.g "_law_try") (T.k "_law_try") lk hcd b sc_l_try rfl (.inl rfl) (try_gives T T5 hx (hr.mono (by omega))) TB hcode (List.mem_singleton.mpr rfl) (fun p hp _ => by rw [List.mem_singleton.mp hp]) hr L hdef hbind hbody
end Lst

/-! ## LLaw1 -/
namespace Lst
open PySem PySem.Spec PyProof.Rows L2
/-! ### the law's own text by places -/
def forB : Stmt → List Stmt
  | .For _ _ b _ _ => b
  | _ => []
abbrev noS : Stmt := .Pass ⟨0, 0, 0, 0⟩
def bTurn : List Stmt := forB ((defBody s_law).getD 1 noS)
def bDeed : List Stmt := forB (bTurn.getD 2 noS)
def qL : Str := "law.<locals>.<lambda>"
abbrev lcx (P : Program) (w : World) (K : PySem.W.Frag) (mg : Str → Option Value) (base : Heap) (f : Addr) (cdv : Value) (A : Around) (outer : List Env) (s : Shared) (H : Hp) (E : XK) : Cx := (cxOf CX0 P w K mg base N_law "law" (defScope s_law) f cdv A outer s H E).nox
/-- the law's slots between two deeds -/
def LSl (sc bg : V) (al : Str) (nv mv : V) (a pa ga : Addr) (σ : L2.St) : Prop := ∃ x2 x9 x10 x11 x12 x13 x14 x15 : Option V, σ = [some sc, some bg, x2, some (.str al), some nv, some mv, some (.ref a), some (.ref pa), some (.ref ga), x9, x10, x11, x12, x13, x14, x15]
/-- .. and its heap -/
def LI (K : PySem.W.Frag) (Pt : Addr) (sc : V) (n : Nat) (σ : L2.St) (H : Hp) : Prop := ∃ (β a pa ga : Addr) (al : Str) (ns : List Str) (fp : List Addr) (M : Mo) (Ps Us : List Mo) (mv nv : V) (S : Hp), LSl sc (.ref β) al nv mv a pa ga σ ∧ DS K β Pt qL al ns a fp M Ps Us mv nv pa ga S H ∧ Ps.length + Us.length ≤ n
/-- told, as it should be -/
theorem like_told {H : Hp} {p : Addr} {xs : List Str} {Q : VK} {E : XK} (hl : xs.length ≤ 1000) (h : H p = some (.tup (xs.map V.str))) (k : ∀ H', Same H H' → Q (.bl true) H') : ∀ p2, H p2 = none → sp_like 2 ([V.ref p, V.ref p2] ++ []) (upd H p2 (.tup (xs.map V.str))) Q E := fun p2 hp2 =>
  ⟨.ref p, .ref p2, upd H p2 (.tup (xs.map V.str)), rfl, .inl (.inr ⟨p, p2, _, _, rfl, rfl, by rw [List.length_map]; exact hl, .inr ⟨by rw [upd_ne (ne_of_none h hp2)]; exact h, upd_same⟩, al_strs _⟩), Same.refl _, fun H' s => k H' fun b o hb => s _ _ (by rw [upd_ne (ne_of_none hb hp2)]; exact hb)⟩
theorem DS.same {K : PySem.W.Frag} {β P : Addr} {q : Str} {al : Str} {ns : List Str} {a : Addr} {fp : List Addr} {M : Mo} {Ps Us : List Mo} {mv nv : V} {pa ga : Addr} {S H H' : Hp} (d : DS K β P q al ns a fp M Ps Us mv nv pa ga S H) (s : Same H H') : DS K β P q al ns a fp M Ps Us mv nv pa ga S H' := d.gr (Gr.ofSame d.sub s)
section
variable {P : Program} {w : World} {K : PySem.W.Frag} {mg : Str → Option Value} {base : Heap} {f cA Pt : Addr} {A : Around} {outer : List Env} {s : Shared} {H0 : Hp} {E : XK}
theorem law_past (T : Txt K mg) (T5 : Txt5 K) (TB : LamX.TabB base mg cA Pt) (G_l_like : OkG P w K mg base CX0 4 "_law_like" P_l_like (sp_like 2)) (G_Library_undo : OkM P w K mg base (L2.CX P w) 4 "Library" "undo" P_Library_undo (sp_Lundo K))
    (hr : Room 16 (lcx P w K mg base f (.ref cA) A outer s H0 E).A) : ∃ t, PS (lcx P w K mg base f (.ref cA) A outer s H0 E) (bDeed.getD 2 noS) t ∧ ∀ D sc n σ H, n ≤ 100 → LI K Pt sc n σ H → (∀ σ H, LI K Pt sc n σ H → D.nx σ H) → t D σ H := by
  have hcode : (lcx P w K mg base f (.ref cA) A outer s H0 E).env.code = .ref cA := rfl
  refine ⟨_, (ps_if (PW.pt (pw_and (pt_cmpR (eqNilK (K := K) rfl hr.units) (pv 7) (pe_lst pa_nil) (nomark _)) (pw_and1 (pt_not (pt_val (pe_call G_l_like (hr.mono (by first | decide | omega)) (by rfl) (T.g "_law_like") (T.k "_law_like") T.b_l_like .nil pass0 (pa_cons (pe_tryL (by rfl) (by rfl) (by rfl) T T5 (x := "NothingLeft") (by decide +kernel) (k := 13) (hr.mono (by decide)) TB hcode (q := qL) (by rfl) (by rfl) (LamX.lamS_by (sc := defScope s_law) (by decide +kernel)) (by rfl) (fun _ _ _ _ _ => rfl) (fun A outer s H E f c hr2 => (pe_meth0 (pv 6) (T.c "Library") (T.m "Library" "undo") G_Library_undo (hr2.mono (by decide)) T.b_Library_undo .nil (passes_call (E := E) (takes_of rfl rfl rfl rfl) (fun _ _ _ _ h => h))))) (pa_cons (pe_tup (pa_cons pe_str pa_nil)) pa_nil)))))))) (pss_one (ps_ret pe_bl)) pss_nil), fun D sc n σ H hn hI k => ?_⟩
  obtain ⟨β, a, pa, ga, al, ns, fp, M, Ps, Us, mv, nv, S, ⟨x2, x9, x10, x11, x12, x13, x14, x15, rfl⟩, d, hl⟩ := hI
  walk_at "rs"
  walk_at "rd"
  obtain ⟨vs, hv, pv⟩ := d.past
  refine ⟨by walk_at "sz", fun p hp => ?_⟩
  generalize e1 : upd H p (HO.lst []) = H1
  have s1 : Same H H1 := fun b o h => old_at e1 hp h
  have d1 := d.same s1
  refine rd_nil (d1.sub _ _ hv) (new_at e1) ?_
  have again : ∀ {S' H'}, DS K β Pt qL al ns a fp M Ps Us mv nv pa ga S' H' → D.nx [some sc, some (V.ref β), x2, some (V.str al), some nv, some mv, some (V.ref a), some (V.ref pa), some (V.ref ga), x9, x10, x11, x12, x13, x14, x15] H' := fun d' =>
    k _ _ ⟨β, a, pa, ga, al, ns, fp, M, Ps, Us, mv, nv, _, ⟨x2, x9, x10, x11, x12, x13, x14, x15, rfl⟩, d', hl⟩
  cases pv with
  | cons h1 h2 =>
    refine ⟨_, rfl, ?_⟩
    rw [List.isEmpty_cons, if_neg Bool.false_ne_true]
    exact again d1
  | nil =>
    refine ⟨_, rfl, ?_⟩
    rw [if_pos (by decide)]
    refine ⟨d1.tab, fun H2 e2 t2 => ?_⟩
    have d2 := d1.lam e2 t2
    obtain ⟨dx, dd, kk, pp, uu, ps, us, rfl, o⟩ := id d2.lib
    refine ⟨_, rfl, a, dx, _, rfl, o.ob, by rfl, al, a, _, false, M, [], Us, _, rfl, d2.lib, by decide, by have : ([] : List Mo).length + Us.length ≤ n := hl; simp at this; omega, d2.sub, (fun Ts0 Mq e => by simp at e), fun _ H3 d3 s3 hd3 => ?_⟩
    refine ⟨rfl, d3, fN, "NothingLeft", rfl, hd3, rfl, (fun z => absurd z (by decide +kernel)), fun _ H4 p4 s4 hp4 => ?_⟩
    refine ⟨by walk_at "sz", like_told (xs := ["NothingLeft"]) (by decide) hp4 fun H5 s5 => ⟨_, rfl, ?_⟩⟩
    rw [if_neg (by decide)]
    exact again (((d2.same s3).same s4).same s5)
theorem law_gone (T : Txt K mg) (T5 : Txt5 K) (TB : LamX.TabB base mg cA Pt) (G_l_like : OkG P w K mg base CX0 4 "_law_like" P_l_like (sp_like 2)) (G_Library_redo : OkM P w K mg base (L2.CX P w) 4 "Library" "redo" P_Library_redo (sp_Lredo K))
    (hr : Room 16 (lcx P w K mg base f (.ref cA) A outer s H0 E).A) : ∃ t, PS (lcx P w K mg base f (.ref cA) A outer s H0 E) (bDeed.getD 3 noS) t ∧ ∀ D sc n σ H, n ≤ 100 → LI K Pt sc n σ H → (∀ σ H, LI K Pt sc n σ H → D.nx σ H) → t D σ H := by
  have hcode : (lcx P w K mg base f (.ref cA) A outer s H0 E).env.code = .ref cA := rfl
  refine ⟨_, (ps_if (PW.pt (pw_and (pt_cmpR (eqNilK (K := K) rfl hr.units) (pv 8) (pe_lst pa_nil) (nomark _)) (pw_and1 (pt_not (pt_val (pe_call G_l_like (hr.mono (by first | decide | omega)) (by rfl) (T.g "_law_like") (T.k "_law_like") T.b_l_like .nil pass0 (pa_cons (pe_tryL (by rfl) (by rfl) (by rfl) T T5 (x := "NothingLeft") (by decide +kernel) (k := 13) (hr.mono (by decide)) TB hcode (q := qL) (by rfl) (by rfl) (LamX.lamS_by (sc := defScope s_law) (by decide +kernel)) (by rfl) (fun _ _ _ _ _ => rfl) (fun A outer s H E f c hr2 => (pe_meth0 (pv 6) (T.c "Library") (T.m "Library" "redo") G_Library_redo (hr2.mono (by decide)) T.b_Library_redo .nil (passes_call (E := E) (takes_of rfl rfl rfl rfl) (fun _ _ _ _ h => h))))) (pa_cons (pe_tup (pa_cons pe_str pa_nil)) pa_nil)))))))) (pss_one (ps_ret pe_bl)) pss_nil), fun D sc n σ H hn hI k => ?_⟩
  obtain ⟨β, a, pa, ga, al, ns, fp, M, Ps, Us, mv, nv, S, ⟨x2, x9, x10, x11, x12, x13, x14, x15, rfl⟩, d, hl⟩ := hI
  walk_at "rs"
  walk_at "rd"
  obtain ⟨vs, hv, pv⟩ := d.gone
  refine ⟨by walk_at "sz", fun p hp => ?_⟩
  generalize e1 : upd H p (HO.lst []) = H1
  have s1 : Same H H1 := fun b o h => old_at e1 hp h
  have d1 := d.same s1
  refine rd_nil (d1.sub _ _ hv) (new_at e1) ?_
  have again : ∀ {S' H'}, DS K β Pt qL al ns a fp M Ps Us mv nv pa ga S' H' → D.nx [some sc, some (V.ref β), x2, some (V.str al), some nv, some mv, some (V.ref a), some (V.ref pa), some (V.ref ga), x9, x10, x11, x12, x13, x14, x15] H' := fun d' =>
    k _ _ ⟨β, a, pa, ga, al, ns, fp, M, Ps, Us, mv, nv, _, ⟨x2, x9, x10, x11, x12, x13, x14, x15, rfl⟩, d', hl⟩
  cases pv with
  | cons h1 h2 =>
    refine ⟨_, rfl, ?_⟩
    rw [List.isEmpty_cons, if_neg Bool.false_ne_true]
    exact again d1
  | nil =>
    refine ⟨_, rfl, ?_⟩
    rw [if_pos (by decide)]
    refine ⟨d1.tab, fun H2 e2 t2 => ?_⟩
    have d2 := d1.lam e2 t2
    obtain ⟨dx, dd, kk, pp, uu, ps, us, rfl, o⟩ := id d2.lib
    refine ⟨_, rfl, a, dx, _, rfl, o.ob, by rfl, al, a, _, false, M, Ps, [], _, rfl, d2.lib, by have : Ps.length + ([] : List Mo).length ≤ n := hl; simp at this; omega, by decide, d2.sub, (fun Ts0 Mq e => by simp at e), fun _ H3 d3 s3 hd3 => ?_⟩
    refine ⟨rfl, d3, fN, "NothingLeft", rfl, hd3, rfl, (fun z => absurd z (by decide +kernel)), fun _ H4 p4 s4 hp4 => ?_⟩
    refine ⟨by walk_at "sz", like_told (xs := ["NothingLeft"]) (by decide) hp4 fun H5 s5 => ⟨_, rfl, ?_⟩⟩
    rw [if_neg (by decide)]
    exact again (((d2.same s3).same s4).same s5)
end
end Lst

/-! ## LLaw2 -/
namespace Lst
open PySem PySem.Spec PyProof.Rows L2
section
variable {P : Program} {w : World} {K : PySem.W.Frag} {mg : Str → Option Value} {base : Heap} {f cA Pt : Addr} {A : Around} {outer : List Env} {s : Shared} {H0 : Hp} {E : XK}
/-- what the looks ask of the property -/
structure BusyP (K : PySem.W.Frag) : Prop where
  pb : PropOf K (He.ga K "Library") "busy" (He.ma K (He.ga K "Library") "busy") (busyA K)
  fb : FPb K
theorem BusyP.b {K : PySem.W.Frag} (B : BusyP K) : Binds K (fdA K (busyA K)) P_Library_busy [] := B.fb.bindsN fun _ _ _ _ _ _ us hl => match us, hl with
  | [_], _ => rfl
theorem law_last (T : Txt K mg) (B : BusyP K) (G_l_like : OkG P w K mg base CX0 4 "_law_like" P_l_like (sp_like 2)) (G_l_shows : OkG P w K mg base CX0 8 "_law_shows" P_l_shows (sp_shows K)) (G_Library_history : OkM P w K mg base CX0 1 "Library" "history" P_Library_history (sp_Lhist K))
    (G_busy : FnOk P w K mg base CX0 1 (busyA K) (fdA K (busyA K)) P_Library_busy (sp_Lbusy K))
    (hr : Room 16 (lcx P w K mg base f (.ref cA) A outer s H0 E).A) : ∃ t, PS (lcx P w K mg base f (.ref cA) A outer s H0 E) (bDeed.getD 4 noS) t ∧ ∀ D sc n σ H, n ≤ 100 → LI K Pt sc n σ H → (∀ σ H, LI K Pt sc n σ H → D.nx σ H) → t D σ H := by
  have PB := B.pb
  have bB := B.b
  refine ⟨_, (ps_if (PW.pt (pw_or (pt_not (pt_val (pe_call G_l_shows (hr.mono (by first | decide | omega)) (by rfl) (T.g "_law_shows") (T.k "_law_shows") T.b_l_shows .nil pass0 (pa_cons (pv 6) (pa_cons (pv 5) pa_nil))))) (pw_or1 (pt_not (pt_val (pe_call G_l_like (hr.mono (by first | decide | omega)) (by rfl) (T.g "_law_like") (T.k "_law_like") T.b_l_like .nil pass0 (pa_cons (pe_lst (pa_cons (pe_meth0 (pv 6) (T.c "Library") (T.m "Library" "history") G_Library_history (hr.mono (by first | decide | omega)) T.b_Library_history .nil pass0) (pa_cons (pe_prop (pv 6) (T.c "Library") PB G_busy (hr.mono (by decide)) bB .nil pass0 (by rfl)) pa_nil))) (pa_cons (pe_lst (pa_cons (pe_tup (pa_cons (pe_callB (lenK (K := K) rfl) (by rfl) T.f (by decide +kernel) (pa_cons (pv 7) pa_nil)) (pa_cons (pe_callB (lenK (K := K) rfl) (by rfl) T.f (by decide +kernel) (pa_cons (pv 8) pa_nil)) pa_nil))) (pa_cons pe_bl pa_nil))) pa_nil)))))))) (pss_one (ps_ret pe_bl)) pss_nil), fun D sc n σ H hn hI k => ?_⟩
  obtain ⟨β, a, pa, ga, al, ns, fp, M, Ps, Us, mv, nv, S, ⟨x2, x9, x10, x11, x12, x13, x14, x15, rfl⟩, d, hl⟩ := hI
  have again : ∀ {S' H'}, DS K β Pt qL al ns a fp M Ps Us mv nv pa ga S' H' → D.nx [some sc, some (V.ref β), x2, some (V.str al), some nv, some mv, some (V.ref a), some (V.ref pa), some (V.ref ga), x9, x10, x11, x12, x13, x14, x15] H' := fun d' =>
    k _ _ ⟨β, a, pa, ga, al, ns, fp, M, Ps, Us, mv, nv, _, ⟨x2, x9, x10, x11, x12, x13, x14, x15, rfl⟩, d', hl⟩
  obtain ⟨sm, dp⟩ := mok_sm d.al_.low d.ns_ d.mok
  walk_at "rs"
  walk_at "rd"
  refine ⟨al, a, mv, _, false, M, Ps, Us, S, rfl, d.lib, d.mo, sm, dp, d.sub, fun H1 S1 g1 => ⟨_, rfl, ?_⟩⟩
  rw [if_neg (by decide)]
  have d1 := d.gr g1
  obtain ⟨dx, dd, kk, pp, uu, ps, us, rfl, o⟩ := id d1.lib
  refine ⟨_, rfl, a, dx, _, rfl, o.ob, by rfl, al, a, _, false, M, Ps, Us, S1, rfl, d1.lib, d1.sub, fun H2 S2 p2 g2 hp2 => ?_⟩
  have d2 := d1.gr g2
  have o2 := o.gr g2
  refine ⟨_, rfl, a, dx, _, rfl, o2.ob, al, a, _, false, M, Ps, Us, S2, rfl, d2.lib, ?_⟩
  refine ⟨by walk_at "sz", fun q1 hq1 => ?_⟩
  generalize e3 : upd H2 q1 _ = H3
  have s3 : Same H2 H3 := fun b o h => old_at e3 hq1 h
  obtain ⟨v1, hv1, pv1⟩ := d2.past
  obtain ⟨v2, hv2, pv2⟩ := d2.gone
  refine ⟨_, rfl, pa, v1, rfl, .inl (sql (s3 _ _ (d2.sub _ _ hv1))), _, rfl, ga, v2, rfl, .inl (sql (s3 _ _ (d2.sub _ _ hv2))), ?_⟩
  rw [pv1.length, pv2.length]
  refine ⟨by walk_at "sz", fun q2 hq2 => ?_⟩
  generalize e4 : upd H3 q2 _ = H4
  have s4 : Same H3 H4 := fun b o h => old_at e4 hq2 h
  refine ⟨by walk_at "sz", fun q3 hq3 => ?_⟩
  generalize e5 : upd H4 q3 _ = H5
  have s5 : Same H4 H5 := fun b o h => old_at e5 hq3 h
  refine ⟨.ref q1, .ref q3, H5, rfl, .inr ⟨q1, q3, _, _, rfl, rfl, Nat.le_of_ble_eq_true rfl, .inl ⟨s5 _ _ (s4 _ _ (new_at e3)), new_at e5⟩, ?_⟩, Same.refl _, fun H6 s6 => ⟨_, rfl, ?_⟩⟩
  · refine .cons (.inr ⟨p2, q2, _, _, rfl, rfl, Nat.le_of_ble_eq_true rfl, .inr ⟨s5 _ _ (s4 _ _ (s3 _ _ (d2.sub _ _ hp2))), s5 _ _ (new_at e4)⟩, .cons (al_int _) (.cons (al_int _) .nil)⟩) (.cons (.inl (al_bl _)) .nil)
  rw [if_neg (by decide)]
  exact again ((((d2.same s3).same s4).same s5).same s6)
end
end Lst

/-! ## LLaw3 -/
namespace Lst
open PySem PySem.Spec PyProof.Rows L2
def ifE : Stmt → List Stmt
  | .If _ _ e _ => e
  | _ => []
def ifB : Stmt → List Stmt
  | .If _ b _ _ => b
  | _ => []
abbrev sE1 : Stmt := bDeed.getD 1 noS
abbrev sE2 : Stmt := (ifE sE1).getD 0 noS
abbrev sE3 : Stmt := (ifE sE2).getD 0 noS
abbrev sE4 : Stmt := (ifE sE3).getD 0 noS
/-- with the drawn way -/
def LIw (K : PySem.W.Frag) (Pt : Addr) (sc : V) (n : Nat) (way : Int) (σ : L2.St) (H : Hp) : Prop := ∃ (β a pa ga : Addr) (al : Str) (ns : List Str) (fp : List Addr) (M : Mo) (Ps Us : List Mo) (mv nv : V) (S : Hp) (x2 x9 x11 x12 x13 x14 x15 : Option V),
  σ = [some sc, some (.ref β), x2, some (.str al), some nv, some mv, some (.ref a), some (.ref pa), some (.ref ga), x9, some (.int way), x11, x12, x13, x14, x15] ∧ DS K β Pt qL al ns a fp M Ps Us mv nv pa ga S H ∧ Ps.length + Us.length ≤ n
theorem LIw.li {K : PySem.W.Frag} {Pt : Addr} {sc : V} {n m : Nat} {way : Int} {σ : L2.St} {H : Hp} (h : LIw K Pt sc n way σ H) (l : n ≤ m) : LI K Pt sc m σ H := by
  obtain ⟨β, a, pa, ga, al, ns, fp, M, Ps, Us, mv, nv, S, x2, x9, x11, x12, x13, x14, x15, rfl, d, hl⟩ := h
  exact ⟨β, a, pa, ga, al, ns, fp, M, Ps, Us, mv, nv, S, ⟨x2, x9, _, x11, x12, x13, x14, x15, rfl⟩, d, Nat.le_trans hl l⟩
section
variable {P : Program} {w : World} {K : PySem.W.Frag} {mg : Str → Option Value} {base : Heap} {f cA Pt : Addr} {A : Around} {outer : List Env} {s : Shared} {H0 : Hp} {E : XK}
/-- apply as a call of values -/
def sp_ap (K : PySem.W.Frag) : Sp := fun vs H Q E => ∃ ws rest, vs = ws ++ rest ∧ ws.length = 1 ∧ rest.length ≤ sizeLine ∧ ∀ p, H p = Option.none → sp_Lapply K (ws ++ [V.ref p]) (upd H p (.tup rest)) Q E
theorem law_e4 (T : Txt K mg) (T5 : Txt5 K) (TB : LamX.TabB base mg cA Pt) (G_l_like : OkG P w K mg base CX0 4 "_law_like" P_l_like (sp_like 2)) (G_Library_apply : FnR P w K mg base (L2.CX P w) 14 (He.ma K (He.ga K "Library") "apply") (sp_ap K))
    (hr : Room 16 (lcx P w K mg base f (.ref cA) A outer s H0 E).A) : ∃ t, PS (lcx P w K mg base f (.ref cA) A outer s H0 E) sE4 t ∧ ∀ D sc n way σ H, n ≤ 100 → LIw K Pt sc n way σ H → (∀ σ H, LI K Pt sc (n + 1) σ H → D.nx σ H) → t D σ H := by
  have hcode : (lcx P w K mg base f (.ref cA) A outer s H0 E).env.code = .ref cA := rfl
  refine ⟨_, (ps_if (pt_cmpR op_eq (pv 10) pe_int (nomark _)) (pss_cons (ps_set (i := 15) sc_law.nd rfl (Or.inl rfl) (pe_tryL (by rfl) (by rfl) (by rfl) T T5 (x := "UnknownName") (by decide +kernel) (k := 13) (hr.mono (by decide)) TB hcode (q := qL) (by rfl) (by rfl) (LamX.lamS_by (sc := defScope s_law) (by decide +kernel)) (by rfl) (fun _ _ _ _ _ => rfl) (fun A outer s H E f c hr2 => (pe_methR (pv 6) (T.c "Library") (T.m "Library" "apply") G_Library_apply (hr2.mono (by decide)) (passes_call (E := E) (takes_of rfl rfl rfl rfl) (fun _ _ _ _ h => h)) (pa_cons (pe_tup (pa_cons pe_str (pa_cons (pe_op op_add_str (pe_ix (ix_listK (K := K) rfl) (pv 4) pe_int (fun _ _ => rfl)) pe_str) (pa_cons (pe_op op_add_str pe_str (pv 3)) pa_nil)))) (pa_cons (pe_tup (pa_cons pe_str (pa_cons pe_str pa_nil))) pa_nil))))))
        (pss_one (ps_if (pt_not (pt_val (pe_call G_l_like (hr.mono (by first | decide | omega)) (by rfl) (T.g "_law_like") (T.k "_law_like") T.b_l_like .nil pass0 (pa_cons (pv 15) (pa_cons (pe_tup (pa_cons pe_str (pa_cons pe_str pa_nil))) pa_nil))))) (pss_one (ps_ret pe_bl)) pss_nil))) pss_nil), fun D sc n way σ H hn hI k => ?_⟩
  have hI0 := hI.li (Nat.le_succ n)
  obtain ⟨β, a, pa, ga, al, ns, fp, M, Ps, Us, mv, nv, S, x2, x9, x11, x12, x13, x14, x15, rfl, d, hl⟩ := hI
  walk_at "rs"
  walk_at "rd"
  by_cases hw : way = 4
  · rw [if_pos (decide_eq_true (by rw [hw]))]
    refine ⟨d.tab, fun H2 e2 t2 => ?_⟩
    have d2 := d.lam e2 t2
    obtain ⟨dx, dd, kk, pp, uu, ps, us, rfl, o⟩ := id d2.lib
    obtain ⟨na, rfl, hna⟩ := id d2.nn
    refine ⟨_, rfl, a, dx, _, rfl, o.ob, by rfl, ?_⟩
    walk_at "rs"
    obtain ⟨n0, nr, rfl⟩ : ∃ n0 nr, ns = n0 :: nr := by
      cases ns with
      | nil => exact absurd d.ns_.len (by decide)
      | cons x r => exact ⟨x, r, rfl⟩
    have nm : n0 ∈ n0 :: nr := List.mem_cons_self ..
    refine ⟨_, rfl, ?_⟩
    refine rd_ix (d2.sub _ _ hna) (at_0 ..) ?_
    obtain ⟨c1, c2, c3, c4⟩ := bad_ok d.al_ d.ns_ d.mok nm
    have ln := d.ns_.short n0 nm
    have la := d.al_.hi
    refine ⟨n0, "z", rfl, rfl, (by show n0.length + 1 ≤ sizeLine; exact szE (by omega)), _, rfl, "never:", al, rfl, rfl, (by show 6 + al.length ≤ sizeLine; exact szE (by omega)), by walk_at "sz", fun p1 hp1 => ?_⟩
    refine ⟨by walk_at "sz", fun p2 hp2 => ?_⟩
    generalize e3 : upd H2 p1 _ = H3 at hp2
    have s3 : Same H2 H3 := fun b o h => old_at e3 hp1 h
    generalize e4 : upd H3 p2 _ = H4
    have s4 : Same H3 H4 := fun b o h => old_at e4 hp2 h
    have d4 := (d2.same s3).same s4
    refine ⟨[.ref a], [.ref p1, .ref p2], rfl, rfl, by walk_at "sz", fun p5 hp5 => ?_⟩
    generalize e5 : upd H4 p5 _ = H5
    have s5 : Same H4 H5 := fun b o h => old_at e5 hp5 h
    have d5 := d4.same s5
    refine ⟨al, a, p5, [p1, p2], [badC n0 al, .drp "zz"], _, M, Ps, Us, _, rfl, d5.lib, new_at e5, .cons ?_ (.cons ?_ .nil), by omega, by omega, by omega, by have := mok_len d.al_.low d.ns_ d.mok; omega, d5.sub, .inr ⟨[badC n0 al], "zz", rfl, c1, c2, c3, c4, ?_⟩⟩
    · rw [bad_vs]
      exact s5 _ _ (s4 _ _ (new_at e3))
    · exact s5 _ _ (new_at e4)
    intro H6 S6 fp6 d6 g6 l6 m6 hd6
    have ds6 := d5.step_ g6 l6 m6 (d5.mo.mono g6.mono) d5.mok (d5.past.imp fun v z => ⟨g6.mono _ _ z.1, mods_mono g6.mono z.2⟩) (d5.gone.imp fun v z => ⟨g6.mono _ _ z.1, mods_mono g6.mono z.2⟩) d5.pok d5.gok
    refine ⟨rfl, d6, fU "zz", "UnknownName", rfl, hd6, rfl, (fun _ => ⟨.str "zz", rfl, fun H7 p7 s7 hp7 => ?_⟩), fun z => absurd rfl z⟩
    refine ⟨_, rfl, by walk_at "sz", like_told (xs := ["UnknownName", "zz"]) (by decide) hp7 fun H8 s8 => ⟨_, rfl, ?_⟩⟩
    rw [if_neg (by decide)]
    exact k _ _ ⟨β, a, pa, ga, al, _, fp6, M, Ps, Us, mv, _, _, ⟨x2, x9, _, x11, x12, x13, x14, _, rfl⟩, (ds6.same s7).same s8, Nat.le_succ_of_le hl⟩
  · rw [if_neg (by rw [decide_eq_false (fun z => hw (V.int.inj z))]; exact Bool.false_ne_true)]
    exact k _ _ hI0
end
end Lst

/-! ## LLaw4 -/
namespace Lst
open PySem PySem.Spec PyProof.Rows L2
section
variable {P : Program} {w : World} {K : PySem.W.Frag} {mg : Str → Option Value} {base : Heap} {f cA Pt : Addr} {A : Around} {outer : List Env} {s : Shared} {H0 : Hp} {E : XK}
/-- what a part of the chain is to do -/
abbrev ChainS (X : Cx) (K : PySem.W.Frag) (Pt : Addr) (st : Stmt) : Prop := ∃ t, PS X st t ∧ ∀ D sc n way σ H, n ≤ 100 → LIw K Pt sc n way σ H → (∀ σ H, LI K Pt sc (n + 1) σ H → D.nx σ H) → t D σ H
theorem law_e3 (T : Txt K mg) (G_Library_redo : OkM P w K mg base (L2.CX P w) 4 "Library" "redo" P_Library_redo (sp_Lredo K)) (hr : Room 16 (lcx P w K mg base f (.ref cA) A outer s H0 E).A)
    (h4 : ChainS (lcx P w K mg base f (.ref cA) A outer s H0 E) K Pt sE4) : ChainS (lcx P w K mg base f (.ref cA) A outer s H0 E) K Pt sE3 := by
  obtain ⟨t4, h4, k4⟩ := h4
  refine ⟨_, ps_if (PW.pt (pw_and (pt_cmpR op_eq (pv 10) pe_int (nomark _)) (pw_and1 (pt_cmpR (neNilK (K := K) rfl hr.units) (pv 8) (pe_lst pa_nil) (nomark _))))) (pss_cons (ps_if (pt_cmpR op_notN (pe_meth0 (pv 6) (T.c "Library") (T.m "Library" "redo") G_Library_redo (hr.mono (by decide)) T.b_Library_redo .nil passF) pe_non (nomark _)) (pss_one (ps_ret pe_bl)) pss_nil)
        (pss_one (ps_par3 (i := 7) (j := 5) (l := 8) (by rfl) sc_law.nd rfl rfl rfl (by decide) (by decide) (by decide) rfl rfl rfl (pa_cons (pe_op op_cat (pv 7) (pe_lst (pa_cons (pv 5) pa_nil))) (pa_cons (pe_ix (ix_listK (K := K) rfl) (pv 8) (pe_un un_neg pe_int) (fun _ _ => rfl)) (pa_cons (pe_slice (sl_listK (K := K) rfl) (pv 8) po_none (po_some (pe_un un_neg pe_int))) pa_nil))) (by rfl)))) (pss_one h4), fun D sc n way σ H hn hI k => ?_⟩
  have hI0 := hI
  obtain ⟨β, a, pa, ga, al, ns, fp, M, Ps, Us, mv, nv, S, x2, x9, x11, x12, x13, x14, x15, rfl, d, hl⟩ := hI
  walk_at "rs"
  walk_at "rd"
  by_cases hw : way = 3
  · rw [if_pos (decide_eq_true (by rw [hw]))]
    obtain ⟨gvs, hg, pg⟩ := d.gone
    obtain ⟨pvs, hp, pp⟩ := d.past
    refine ⟨_, rfl, by walk_at "sz", fun p hpn => ?_⟩
    generalize e1 : upd H p (HO.lst []) = H1
    have s1 : Same H H1 := fun b o h => old_at e1 hpn h
    have d1 := d.same s1
    refine rd_nil (d1.sub _ _ hg) (new_at e1) ?_
    rcases List.eq_nil_or_concat Us with c | ⟨U0, Mq, c⟩
    · subst c
      cases pg
      refine ⟨_, rfl, ?_⟩
      rw [if_neg (by decide)]
      exact k4 _ _ _ _ _ _ hn ⟨β, a, pa, ga, al, ns, fp, M, Ps, [], mv, nv, S, x2, x9, x11, x12, x13, x14, x15, rfl, d1, hl⟩ k
    · rw [List.concat_eq_append] at c
      subst c
      obtain ⟨g0, gm, rfl, pg0, hgm⟩ := pair_snoc pg
      have ne : (!(g0 ++ [gm]).isEmpty) = true := by cases g0 <;> rfl
      refine ⟨_, rfl, ?_⟩
      rw [if_pos ne]
      obtain ⟨dx, dd, kk, pq, uu, ps, us, rfl, o⟩ := id d1.lib
      rw [List.length_append, List.length_singleton] at hl
      refine ⟨_, rfl, a, dx, _, rfl, o.ob, by rfl, al, a, _, false, M, Ps, U0 ++ [Mq], S, rfl, d1.lib, by omega, by rw [List.length_append, List.length_singleton]; omega, d1.sub, fun Ts0 Mq' e H2 S2 fp2 g2 l2 m2 => ?_, fun z => by simp at z⟩
      obtain ⟨rfl, e2⟩ := List.append_inj' e rfl
      obtain rfl : Mq = Mq' := (List.cons.inj e2).1
      refine ⟨rfl, _, rfl, ?_⟩
      rw [if_neg (by decide)]
      dsimp only [L2.tPar3]
      walk_at "rs"
      refine ⟨_, rfl, _, rfl, by walk_at "sz", fun q1 hq1 => ?_⟩
      generalize e3 : upd H2 q1 _ = H3
      have gg3 : Gr H2 S2 H3 S2 := (Gm.rfl' g2.sub).l0 e3 hq1
      have hp2 := g2.mono _ _ hp
      have hg2 := g2.mono _ _ hg
      have lp := pp.length
      have lg := pg0.length
      refine ⟨pa, q1, pvs, [mv], rfl, rfl, gg3.sub _ _ hp2, new_at e3, szE (by rw [List.length_singleton]; omega), fun q2 hq2 => ?_⟩
      generalize e4 : upd H3 q2 _ = H4
      have gg4 := gg3.ld e4 hq2
      refine ⟨_, rfl, ?_⟩
      walk_at "rd"
      have hg4 := gg4.sub _ _ (gg4.mono _ _ hg2)
      refine rd_ix hg4 (at_l1 ..) ?_
      refine ⟨_, rfl, 1, rfl, _, rfl, ga, _, rfl, sql hg4, fun q3 hq3 => ?_⟩
      rw [cut_l1]
      generalize e5 : upd H4 q3 _ = H5
      have gg5 := gg4.ld e5 hq3
      have g5 := g2.trans gg5.m
      have hq2S : upd (upd S2 q2 (HO.lst (pvs ++ [mv]))) q3 (HO.lst g0) q2 = some (.lst (pvs ++ [mv])) := by
        rw [upd_ne (ne_of_none (new_at e4) hq3), upd_same]
      refine ⟨_, _, _, rfl, ?_⟩
      have up5 := g5.mono
      refine k _ _ ⟨β, a, q2, q3, al, ns, fp2, Mq, Ps ++ [M], U0, gm, nv, _, ⟨x2, x9, _, x11, x12, x13, x14, x15, rfl⟩, d1.step_ g5 (l2.gr gg5) m2 (hgm.mono up5) (d1.gok _ (List.mem_append_right _ (List.mem_singleton.mpr rfl))) ⟨_, hq2S, ?_⟩ ⟨_, upd_same, mods_mono up5 pg0⟩ ?_ (fun m hm => d1.gok m (List.mem_append_left _ hm)), by rw [List.length_append, List.length_singleton]; omega⟩
      · exact (mods_mono up5 pp).snoc (d1.mo.mono up5)
      · intro m hm
        rcases List.mem_append.mp hm with z | z
        · exact d1.pok m z
        · rw [List.mem_singleton.mp z]
          exact d1.mok
  · rw [if_neg (by rw [decide_eq_false (fun z => hw (V.int.inj z))]; exact Bool.false_ne_true)]
    walk_at "rd"
    exact k4 _ _ _ _ _ _ hn hI0 k
theorem law_e2 (T : Txt K mg) (G_Library_undo : OkM P w K mg base (L2.CX P w) 4 "Library" "undo" P_Library_undo (sp_Lundo K)) (hr : Room 16 (lcx P w K mg base f (.ref cA) A outer s H0 E).A)
    (h4 : ChainS (lcx P w K mg base f (.ref cA) A outer s H0 E) K Pt sE3) : ChainS (lcx P w K mg base f (.ref cA) A outer s H0 E) K Pt sE2 := by
  obtain ⟨t4, h4, k4⟩ := h4
  refine ⟨_, ps_if (PW.pt (pw_and (pt_cmpR op_eq (pv 10) pe_int (nomark _)) (pw_and1 (pt_cmpR (neNilK (K := K) rfl hr.units) (pv 7) (pe_lst pa_nil) (nomark _))))) (pss_cons (ps_if (pt_cmpR op_notN (pe_meth0 (pv 6) (T.c "Library") (T.m "Library" "undo") G_Library_undo (hr.mono (by decide)) T.b_Library_undo .nil passF) pe_non (nomark _)) (pss_one (ps_ret pe_bl)) pss_nil)
        (pss_one (ps_par3 (i := 8) (j := 5) (l := 7) (by rfl) sc_law.nd rfl rfl rfl (by decide) (by decide) (by decide) rfl rfl rfl (pa_cons (pe_op op_cat (pv 8) (pe_lst (pa_cons (pv 5) pa_nil))) (pa_cons (pe_ix (ix_listK (K := K) rfl) (pv 7) (pe_un un_neg pe_int) (fun _ _ => rfl)) (pa_cons (pe_slice (sl_listK (K := K) rfl) (pv 7) po_none (po_some (pe_un un_neg pe_int))) pa_nil))) (by rfl)))) (pss_one h4), fun D sc n way σ H hn hI k => ?_⟩
  have hI0 := hI
  obtain ⟨β, a, pa, ga, al, ns, fp, M, Ps, Us, mv, nv, S, x2, x9, x11, x12, x13, x14, x15, rfl, d, hl⟩ := hI
  walk_at "rs"
  walk_at "rd"
  by_cases hw : way = 2
  · rw [if_pos (decide_eq_true (by rw [hw]))]
    obtain ⟨gvs, hg, pg⟩ := d.past
    obtain ⟨pvs, hp, pp⟩ := d.gone
    refine ⟨_, rfl, by walk_at "sz", fun p hpn => ?_⟩
    generalize e1 : upd H p (HO.lst []) = H1
    have s1 : Same H H1 := fun b o h => old_at e1 hpn h
    have d1 := d.same s1
    refine rd_nil (d1.sub _ _ hg) (new_at e1) ?_
    rcases List.eq_nil_or_concat Ps with c | ⟨U0, Mq, c⟩
    · subst c
      cases pg
      refine ⟨_, rfl, ?_⟩
      rw [if_neg (by decide)]
      exact k4 _ _ _ _ _ _ hn ⟨β, a, pa, ga, al, ns, fp, M, [], Us, mv, nv, S, x2, x9, x11, x12, x13, x14, x15, rfl, d1, hl⟩ k
    · rw [List.concat_eq_append] at c
      subst c
      obtain ⟨g0, gm, rfl, pg0, hgm⟩ := pair_snoc pg
      have ne : (!(g0 ++ [gm]).isEmpty) = true := by cases g0 <;> rfl
      refine ⟨_, rfl, ?_⟩
      rw [if_pos ne]
      obtain ⟨dx, dd, kk, pq, uu, ps, us, rfl, o⟩ := id d1.lib
      rw [List.length_append, List.length_singleton] at hl
      refine ⟨_, rfl, a, dx, _, rfl, o.ob, by rfl, al, a, _, false, M, U0 ++ [Mq], Us, S, rfl, d1.lib, by rw [List.length_append, List.length_singleton]; omega, by omega, d1.sub, fun Ts0 Mq' e H2 S2 fp2 g2 l2 m2 => ?_, fun z => by simp at z⟩
      obtain ⟨rfl, e2⟩ := List.append_inj' e rfl
      obtain rfl : Mq = Mq' := (List.cons.inj e2).1
      refine ⟨rfl, _, rfl, ?_⟩
      rw [if_neg (by decide)]
      dsimp only [L2.tPar3]
      walk_at "rs"
      refine ⟨_, rfl, _, rfl, by walk_at "sz", fun q1 hq1 => ?_⟩
      generalize e3 : upd H2 q1 _ = H3
      have gg3 : Gr H2 S2 H3 S2 := (Gm.rfl' g2.sub).l0 e3 hq1
      have hp2 := g2.mono _ _ hp
      have hg2 := g2.mono _ _ hg
      have lp := pp.length
      have lg := pg0.length
      refine ⟨ga, q1, pvs, [mv], rfl, rfl, gg3.sub _ _ hp2, new_at e3, szE (by rw [List.length_singleton]; omega), fun q2 hq2 => ?_⟩
      generalize e4 : upd H3 q2 _ = H4
      have gg4 := gg3.ld e4 hq2
      refine ⟨_, rfl, ?_⟩
      walk_at "rd"
      have hg4 := gg4.sub _ _ (gg4.mono _ _ hg2)
      refine rd_ix hg4 (at_l1 ..) ?_
      refine ⟨_, rfl, 1, rfl, _, rfl, pa, _, rfl, sql hg4, fun q3 hq3 => ?_⟩
      rw [cut_l1]
      generalize e5 : upd H4 q3 _ = H5
      have gg5 := gg4.ld e5 hq3
      have g5 := g2.trans gg5.m
      have hq2S : upd (upd S2 q2 (HO.lst (pvs ++ [mv]))) q3 (HO.lst g0) q2 = some (.lst (pvs ++ [mv])) := by
        rw [upd_ne (ne_of_none (new_at e4) hq3), upd_same]
      refine ⟨_, _, _, rfl, ?_⟩
      have up5 := g5.mono
      refine k _ _ ⟨β, a, q3, q2, al, ns, fp2, Mq, U0, Us ++ [M], gm, nv, _, ⟨x2, x9, _, x11, x12, x13, x14, x15, rfl⟩, d1.step_ g5 (l2.gr gg5) m2 (hgm.mono up5) (d1.pok _ (List.mem_append_right _ (List.mem_singleton.mpr rfl))) ⟨_, upd_same, mods_mono up5 pg0⟩ ⟨_, hq2S, ?_⟩ (fun m hm => d1.pok m (List.mem_append_left _ hm)) ?_, by rw [List.length_append, List.length_singleton]; omega⟩
      · exact (mods_mono up5 pp).snoc (d1.mo.mono up5)
      · intro m hm
        rcases List.mem_append.mp hm with z | z
        · exact d1.gok m z
        · rw [List.mem_singleton.mp z]
          exact d1.mok
  · rw [if_neg (by rw [decide_eq_false (fun z => hw (V.int.inj z))]; exact Bool.false_ne_true)]
    walk_at "rd"
    exact k4 _ _ _ _ _ _ hn hI0 k
end
end Lst

/-! ## LLaw5 -/
namespace Lst
open PySem PySem.Spec PyProof.Rows L2
abbrev bDo : List Stmt := ifB sE1
/-- a command, or None -/
def OptC (S : Hp) (v : V) : Option Cmd → Prop
  | none => v = .non
  | some cm => CmdAt S v cm
theorem CmdAt.mono {S S' : Hp} (h : Same S S') {v : V} {cm : Cmd} (t : CmdAt S v cm) : CmdAt S' v cm := by
  cases cm with
  | put n t' =>
    obtain ⟨a, u, e, h1, h2⟩ := t
    exact ⟨a, u, e, h _ _ h1, h2.mono h⟩
  | chg n t' =>
    obtain ⟨a, u, e, h1, h2⟩ := t
    exact ⟨a, u, e, h _ _ h1, h2.mono h⟩
  | drp n =>
    obtain ⟨a, e, h1⟩ := t
    exact ⟨a, e, h _ _ h1⟩
  | rnm x y =>
    obtain ⟨a, e, h1⟩ := t
    exact ⟨a, e, h _ _ h1⟩
theorem OptC.mono {S S' : Hp} (h : Same S S') {v : V} {o : Option Cmd} (t : OptC S v o) : OptC S' v o := by
  cases o with
  | none => exact t
  | some cm => exact CmdAt.mono h t
theorem cmd_ref {S : Hp} {v : V} {cm : Cmd} (t : CmdAt S v cm) : ∃ r, v = .ref r := by
  cases cm with
  | put n t' => exact ⟨t.choose, t.choose_spec.choose_spec.1⟩
  | chg n t' => exact ⟨t.choose, t.choose_spec.choose_spec.1⟩
  | drp n => exact ⟨t.choose, t.choose_spec.1⟩
  | rnm x y => exact ⟨t.choose, t.choose_spec.1⟩
/-- behind the model's step, if there is one -/
def stepO (M : Mo) : Option Cmd → Mo
  | none => M
  | some cm => step M cm
/-- behind the first command -/
def LC0 (K : PySem.W.Frag) (Pt : Addr) (sc : V) (n : Nat) (σ : L2.St) (H : Hp) : Prop := ∃ (β a pa ga : Addr) (al : Str) (ns : List Str) (fp : List Addr) (M : Mo) (Ps Us : List Mo) (mv nv v1 : V) (o1 : Option Cmd) (S : Hp) (x2 x9 x10 x12 x13 x14 x15 : Option V),
  σ = [some sc, some (.ref β), x2, some (.str al), some nv, some mv, some (.ref a), some (.ref pa), some (.ref ga), x9, x10, some v1, x12, x13, x14, x15] ∧ DS K β Pt qL al ns a fp M Ps Us mv nv pa ga S H ∧ Ps.length + Us.length ≤ n ∧ OptC S v1 o1 ∧ ∀ cm, o1 = some cm → CmdOk al ns M cm
def LC1 (K : PySem.W.Frag) (Pt : Addr) (sc : V) (n : Nat) (σ : L2.St) (H : Hp) : Prop := ∃ (β a pa ga : Addr) (al : Str) (ns : List Str) (fp : List Addr) (M : Mo) (Ps Us : List Mo) (mv nv v1 v2 : V) (o1 o2 : Option Cmd) (S : Hp) (x2 x9 x10 x13 x14 x15 : Option V),
  σ = [some sc, some (.ref β), x2, some (.str al), some nv, some mv, some (.ref a), some (.ref pa), some (.ref ga), x9, x10, some v1, some v2, x13, x14, x15] ∧ DS K β Pt qL al ns a fp M Ps Us mv nv pa ga S H ∧ Ps.length + Us.length ≤ n ∧ OptC S v1 o1 ∧ (∀ cm, o1 = some cm → CmdOk al ns M cm) ∧ OptC S v2 o2 ∧ ∀ cm, o2 = some cm → CmdOk al ns (stepO M o1) cm
def LC2 (K : PySem.W.Frag) (Pt : Addr) (sc : V) (n : Nat) (σ : L2.St) (H : Hp) : Prop := ∃ (β a pa ga ca : Addr) (al : Str) (ns : List Str) (fp : List Addr) (M : Mo) (Ps Us : List Mo) (mv nv : V) (cvs : List V) (cms : List Cmd) (S : Hp) (x2 x9 x10 x11 x12 x14 x15 : Option V),
  σ = [some sc, some (.ref β), x2, some (.str al), some nv, some mv, some (.ref a), some (.ref pa), some (.ref ga), x9, x10, x11, x12, some (.ref ca), x14, x15] ∧ DS K β Pt qL al ns a fp M Ps Us mv nv pa ga S H ∧ Ps.length + Us.length ≤ n ∧ S ca = some (.lst cvs) ∧ Paired (CmdAt S) cvs cms ∧ ChOk al ns M cms ∧ cms.length ≤ 2
section
variable {P : Program} {w : World} {K : PySem.W.Frag} {mg : Str → Option Value} {base : Heap} {f cA Pt : Addr} {A : Around} {outer : List Env} {s : Shared} {H0 : Hp} {E : XK}
/-- a statement brings Pre to Post -/
abbrev StepS (X : Cx) (st : Stmt) (Pre Post : V → Nat → L2.St → Hp → Prop) : Prop := ∃ t, PS X st t ∧ ∀ (sc : V) (n : Nat) (D : Ends) (σ : L2.St) (H : Hp), n ≤ 100 → Pre sc n σ H → (∀ σ H, Post sc n σ H → D.nx σ H) → t D σ H
theorem law_d0 (T : Txt K mg) (G_l_command : OkG P w K mg base CX0 8 "_law_command" P_l_command sp_command) (hr : Room 16 (lcx P w K mg base f (.ref cA) A outer s H0 E).A) :
    StepS (lcx P w K mg base f (.ref cA) A outer s H0 E) (bDo.getD 0 noS) (fun sc n σ H => ∃ way, LIw K Pt sc n way σ H) (LC0 K Pt) := by
  refine ⟨_, (ps_set (i := 11) sc_law.nd rfl (Or.inl rfl) (pe_call G_l_command (hr.mono (by first | decide | omega)) (by rfl) (T.g "_law_command") (T.k "_law_command") T.b_l_command .nil pass0 (pa_cons (pv 1) (pa_cons (pv 3) (pa_cons (pv 5) (pa_cons (pv 4) pa_nil)))))), fun sc n D σ H hn hI k => ?_⟩
  obtain ⟨way, β, a, pa, ga, al, ns, fp, M, Ps, Us, mv, nv, S, x2, x9, x11, x12, x13, x14, x15, rfl, d, hl⟩ := hI
  walk_at "rs"
  walk_at "rd"
  refine ⟨β, al, mv, nv, M, ns, S, rfl, d.mo, d.nn, d.al_, d.ns_, d.mok, d.sub, d.bag, fun H1 S1 g1 b1 => ⟨?_, fun c cm hc hok => ?_⟩⟩
  · exact k _ _ ⟨β, a, pa, ga, al, ns, fp, M, Ps, Us, mv, nv, _, none, S1, x2, x9, _, x12, x13, x14, x15, rfl, d.draw g1 b1, hl, rfl, fun cm z => nomatch z⟩
  · exact k _ _ ⟨β, a, pa, ga, al, ns, fp, M, Ps, Us, mv, nv, _, some cm, S1, x2, x9, _, x12, x13, x14, x15, rfl, d.draw g1 b1, hl, hc, fun cm' z => by cases z; exact hok⟩
theorem law_d1 (T : Txt K mg) (G_l_command : OkG P w K mg base CX0 8 "_law_command" P_l_command sp_command) (G_l_done : OkG P w K mg base CX0 7 "_law_done" P_l_done sp_done) (hr : Room 16 (lcx P w K mg base f (.ref cA) A outer s H0 E).A) :
    StepS (lcx P w K mg base f (.ref cA) A outer s H0 E) (bDo.getD 1 noS) (LC0 K Pt) (LC1 K Pt) := by
  refine ⟨_, (ps_set (i := 12) sc_law.nd rfl (Or.inl rfl) (pe_call G_l_command (hr.mono (by first | decide | omega)) (by rfl) (T.g "_law_command") (T.k "_law_command") T.b_l_command .nil pass0 (pa_cons (pv 1) (pa_cons (pv 3) (pa_cons (pe_ifExp (pt_cmpR op_isN (pv 11) pe_non (nomark _)) (pv 5) (pe_call G_l_done (hr.mono (by first | decide | omega)) (by rfl) (T.g "_law_done") (T.k "_law_done") T.b_l_done .nil pass0 (pa_cons (pv 5) (pa_cons (pv 11) pa_nil)))) (pa_cons (pv 4) pa_nil)))))), fun sc n D σ H hn hI k => ?_⟩
  obtain ⟨β, a, pa, ga, al, ns, fp, M, Ps, Us, mv, nv, v1, o1, S, x2, x9, x10, x12, x13, x14, x15, rfl, d, hl, h1, h2⟩ := hI
  walk_at "rs"
  walk_at "rd"
  obtain ⟨sm, dp⟩ := mok_sm d.al_.low d.ns_ d.mok
  cases o1 with
  | none =>
    have h1 : v1 = .non := h1
    subst h1
    rw [if_pos (decide_eq_true rfl)]
    refine ⟨_, rfl, _, rfl, β, al, mv, nv, M, ns, S, rfl, d.mo, d.nn, d.al_, d.ns_, d.mok, d.sub, d.bag, fun H1 S1 g1 b1 => ⟨?_, fun c cm hc hok => ?_⟩⟩
    · exact k _ _ ⟨β, a, pa, ga, al, ns, fp, M, Ps, Us, mv, nv, _, _, none, none, S1, x2, x9, x10, x13, x14, x15, rfl, d.draw g1 b1, hl, rfl, h2, rfl, fun cm z => nomatch z⟩
    · exact k _ _ ⟨β, a, pa, ga, al, ns, fp, M, Ps, Us, mv, nv, _, _, none, some cm, S1, x2, x9, x10, x13, x14, x15, rfl, d.draw g1 b1, hl, rfl, h2, hc, fun cm' z => by cases z; exact hok⟩
  | some c1 =>
    have h1 : CmdAt S v1 c1 := h1
    obtain ⟨r1, rfl⟩ := cmd_ref h1
    rw [if_neg (by rw [decide_eq_false (fun z => by cases z)]; exact Bool.false_ne_true)]
    have mok1 := mok_step d.mok (h2 c1 rfl)
    refine ⟨_, rfl, _, rfl, mv, .ref r1, M, c1, S, rfl, d.mo, h1, Nat.le_trans sm.len (by decide), dp, d.sub, fun H1 S1 v g1 hm => ?_⟩
    have d1 := d.gr g1
    refine ⟨_, rfl, β, al, v, nv, step M c1, ns, S1, rfl, hm, d1.nn, d.al_, d.ns_, mok1, d1.sub, d1.bag, fun H2 S2 g2 b2 => ⟨?_, fun c cm hc hok => ?_⟩⟩
    · exact k _ _ ⟨β, a, pa, ga, al, ns, fp, M, Ps, Us, mv, nv, _, _, some c1, none, S2, x2, x9, x10, x13, x14, x15, rfl, d1.draw g2 b2, hl, CmdAt.mono (g1.mono.trans g2.mono) h1, h2, rfl, fun cm z => nomatch z⟩
    · exact k _ _ ⟨β, a, pa, ga, al, ns, fp, M, Ps, Us, mv, nv, _, _, some c1, some cm, S2, x2, x9, x10, x13, x14, x15, rfl, d1.draw g2 b2, hl, CmdAt.mono (g1.mono.trans g2.mono) h1, h2, hc, fun cm' z => by cases z; exact hok⟩
theorem law_d2 (T : Txt K mg) (hr : Room 16 (lcx P w K mg base f (.ref cA) A outer s H0 E).A) :
    StepS (lcx P w K mg base f (.ref cA) A outer s H0 E) (bDo.getD 2 noS) (LC1 K Pt) (LC2 K Pt) := by
  refine ⟨_, (ps_setLc (i := 13) (own := [("_law_one", 14)]) (g := (gName 14)) rfl sc_law.nd rfl rfl (by rfl) (pi_listK (K := K) rfl (pe_lst (pa_cons (pv 11) (pa_cons (pv 12) pa_nil)))) (by first | exact blkOk_by (N := N_law) (sc := defScope s_law) (by decide +kernel) | exact blkOk_by (N := N_law) (sc := { kind := .function, names := [], isGenerator := false, isCoroutine := false }) (by decide +kernel)) (fun _ _ _ _ _ => (pg_name (i := 14) sc_law.nd rfl (Or.inl rfl))) (fun _ _ _ _ _ => pts_one (pt_cmpR op_notN (pv 14) pe_non (nomark _))) (fun _ _ _ _ _ => (pv 14))), fun sc n D σ H hn hI k => ?_⟩
  obtain ⟨β, a, pa, ga, al, ns, fp, M, Ps, Us, mv, nv, v1, v2, o1, o2, S, x2, x9, x10, x13, x14, x15, rfl, d, hl, h1, h2, h3, h4⟩ := hI
  walk_at "rs"
  walk_at "rd"
  refine ⟨by walk_at "sz", fun p hp => ?_⟩
  generalize e1 : upd H p _ = H1
  have g1 : Gr H S H1 S := (Gm.rfl' d.sub).l0 e1 hp
  have d1 := d.gr g1
  have hl1 := new_at e1
  refine ⟨p, rfl, ⟨_, sql hl1⟩, fun D2 hD2 => ?_⟩
  refine lcg walk_list (fun i acc S => acc = ([v1, v2].take i).filter fun v => !decide (v = V.non)) noZ noM hD2 d1.sub rfl trivial (fun _ _ _ _ => trivial) (fun i H9 S9 _ _ g _ _ => sql (g.kept hl1 fun z => z)) ?_ ?_
  · rintro i x H2 H3 S2 acc hi g2 r _ e eS ⟨rfl, hx⟩
    walk_at "rs"
    walk_at "rd"
    have hl2 : acc.length ≤ 100 := by
      rw [r]
      refine Nat.le_trans (List.length_filter_le _ _) ?_
      rw [List.length_take]
      exact Nat.le_trans (Nat.min_le_right _ _) (by show 2 ≤ 100; decide)
    by_cases c : x = V.non
    · rw [if_neg (by rw [decide_eq_true c]; decide)]
      refine LcP.skip (fun z => z) g2 e eS (Gm.rfl' g2.sub) ?_ trivial
      rw [r, take_snoc hx, List.filter_append, List.filter_cons, if_neg (by rw [decide_eq_true c]; decide), List.filter_nil, List.append_nil]
    · rw [if_pos (by rw [decide_eq_false c]; rfl)]
      walk_at "rd"
      refine LcP.add hD2 (fun z => z) (fun _ _ _ _ => trivial) g2 e eS (Gm.rfl' g2.sub) (szL (by omega)) ?_ trivial
      rw [r, take_snoc hx, List.filter_append, List.filter_cons, if_pos (by rw [decide_eq_false c]; rfl), List.filter_nil]
  · rintro H2 S2' acc g2' r _ e eS
    have g2 := g2'.freeze e hD2 eS
    have r : acc = [v1, v2].filter fun v => !decide (v = V.non) := r
    have hc2 : (upd S2' D2 (HO.lst acc)) D2 = some (.lst acc) := upd_same
    generalize upd S2' D2 (.lst acc) = S2 at g2 hc2
    have d2 := d1.gr g2
    have key : ∃ cms, Paired (CmdAt S2) acc cms ∧ ChOk al ns M cms ∧ cms.length ≤ 2 := by
      rw [r]
      have nn : ∀ {v c}, CmdAt S v c → (!decide (v = V.non)) = true := fun h => by
        obtain ⟨q, rfl⟩ := cmd_ref h
        rw [decide_eq_false (fun z => by cases z)]
        rfl
      cases o1 with
      | none =>
        have h1 : v1 = .non := h1
        subst h1
        rw [List.filter_cons, if_neg (by decide)]
        cases o2 with
        | none =>
          have h3 : v2 = .non := h3
          subst h3
          exact ⟨[], .nil, True.intro, by decide⟩
        | some c2 =>
          rw [List.filter_cons, if_pos (nn h3)]
          exact ⟨[c2], .cons (CmdAt.mono g2.mono h3) .nil, ⟨h4 c2 rfl, True.intro⟩, by show 1 ≤ 2; decide⟩
      | some c1 =>
        rw [List.filter_cons, if_pos (nn h1)]
        cases o2 with
        | none =>
          have h3 : v2 = .non := h3
          subst h3
          exact ⟨[c1], .cons (CmdAt.mono g2.mono h1) .nil, ⟨h2 c1 rfl, True.intro⟩, by show 1 ≤ 2; decide⟩
        | some c2 =>
          rw [List.filter_cons, if_pos (nn h3)]
          exact ⟨[c1, c2], .cons (CmdAt.mono g2.mono h1) (.cons (CmdAt.mono g2.mono h3) .nil), ⟨h2 c1 rfl, h4 c2 rfl, True.intro⟩, by show 2 ≤ 2; decide⟩
    obtain ⟨cms, q1, q2, q3⟩ := key
    exact k _ _ ⟨β, a, pa, ga, D2, al, ns, fp, M, Ps, Us, mv, nv, acc, cms, S2, x2, x9, x10, _, _, x14, x15, rfl, d2, hl, hc2, q1, q2, q3⟩
end
end Lst

/-! ## LLaw6 -/
namespace Lst
open PySem PySem.Spec PyProof.Rows L2
/-- the library behind the step, the model (Mi) and the lists of the law not yet (or on the way) -/
structure DQ (K : PySem.W.Frag) (β P : Addr) (al : Str) (ns : List Str) (a : Addr) (fp : List Addr) (M Mi : Mo) (cms : List Cmd) (Ps : List Mo) (mv nv : V) (ca ta : Addr) (S H : Hp) : Prop where
  sub : Same S H
  bag : BagAt S H β
  tab : LamX.Tabs [(P, qL)] H
  lib : LibI K al S H a fp false (cms.foldl step M) (Ps ++ [M]) []
  nb : β ∉ fp
  mo : ModelAt S mv Mi
  nn : StrsAt S nv ns
  al_ : AlOk al
  ns_ : NsOk ns
  mok : MOk al ns [] M
  ch : ChOk al ns M cms
  len : cms.length ≤ 2
  pok : ∀ m ∈ Ps, MOk al ns [] m
  cmds : ∃ cvs, S ca = some (.lst cvs) ∧ Paired (CmdAt S) cvs cms
  told : S ta = some (.lst [.non, .non, .non])
theorem DQ.gr {K : PySem.W.Frag} {β P : Addr} {al : Str} {ns : List Str} {a : Addr} {fp : List Addr} {M Mi : Mo} {cms : List Cmd} {Ps : List Mo} {mv nv : V} {ca ta : Addr} {S H S' H' : Hp} (d : DQ K β P al ns a fp M Mi cms Ps mv nv ca ta S H) (g : Gr H S H' S') : DQ K β P al ns a fp M Mi cms Ps mv nv ca ta S' H' := by
  obtain ⟨cvs, h1, h2⟩ := d.cmds
  exact ⟨g.sub, d.bag.gr g, d.tab.ext g.same, d.lib.gr g, d.nb, d.mo.mono g.mono, d.nn.mono g.mono, d.al_, d.ns_, d.mok, d.ch, d.len, d.pok, ⟨cvs, g.mono _ _ h1, L2.Paired.mapP h2 fun _ _ z => CmdAt.mono g.mono z⟩, g.mono _ _ d.told⟩
/-- behind the call of apply -/
def LC3 (K : PySem.W.Frag) (Pt : Addr) (sc : V) (n : Nat) (σ : L2.St) (H : Hp) : Prop := ∃ (β a pa ga ca ta : Addr) (al : Str) (ns : List Str) (fp : List Addr) (M : Mo) (cms : List Cmd) (Ps : List Mo) (mv nv : V) (S : Hp) (x2 x9 x10 x11 x12 x14 : Option V),
  σ = [some sc, some (.ref β), x2, some (.str al), some nv, some mv, some (.ref a), some (.ref pa), some (.ref ga), x9, x10, x11, x12, some (.ref ca), x14, some (.ref ta)] ∧ DQ K β Pt al ns a fp M M cms Ps mv nv ca ta S H ∧ Ps.length ≤ n ∧ ∃ pvs, S pa = some (.lst pvs) ∧ Paired (ModelAt S) pvs Ps
/-- i commands of the model -/
def LC4 (K : PySem.W.Frag) (Pt : Addr) (sc : V) (n : Nat) (i : Nat) (ca : Addr) (cms : List Cmd) (M : Mo) (σ : L2.St) (H : Hp) : Prop := ∃ (β a pa ga ta : Addr) (al : Str) (ns : List Str) (fp : List Addr) (Ps : List Mo) (mv nv : V) (S : Hp) (x2 x9 x10 x11 x12 x14 : Option V),
  σ = [some sc, some (.ref β), x2, some (.str al), some nv, some mv, some (.ref a), some (.ref pa), some (.ref ga), x9, x10, x11, x12, some (.ref ca), x14, some (.ref ta)] ∧ DQ K β Pt al ns a fp M ((cms.take i).foldl step M) cms Ps mv nv ca ta S H ∧ Ps.length ≤ n ∧ (∃ pvs, S pa = some (.lst pvs) ∧ Paired (ModelAt S) pvs (Ps ++ [M])) ∧ S ga = some (.lst [])
section
variable {P : Program} {w : World} {K : PySem.W.Frag} {mg : Str → Option Value} {base : Heap} {f cA Pt : Addr} {A : Around} {outer : List Env} {s : Shared} {H0 : Hp} {E : XK}
theorem ch_t {al : Str} {ns : List Str} (hl : lowS al = true) (hn : NsOk ns) : ∀ {cms : List Cmd} {M : Mo}, MOk al ns [] M → ChOk al ns M cms → ∀ cm ∈ cms, cmT cm
  | [], _, _, _, cm, h => nomatch h
  | c :: r, M, h, ⟨c1, c2⟩, cm, hm => (List.mem_cons.mp hm).elim (fun e => by rw [e]; exact cmd_t hl hn h c1) fun z => ch_t hl hn (mok_step h c1) c2 cm z
/-- apply, told of its commands' texts -/
theorem ap_call {β : Addr} {q : Str} {al : Str} {ns : List Str} {a : Addr} {fp : List Addr} {M : Mo} {Ps Us : List Mo} {mv nv : V} {pa ga : Addr} {S H : Hp} (d : DS K β Pt q al ns a fp M Ps Us mv nv pa ga S H) {cs : List Addr} {cms : List Cmd} (hc : Paired (fun c cm => H c = some (.tup (cmdVs cm))) cs cms) (hch : ChOk al ns M cms) (hl : Ps.length + Us.length ≤ 100) (hcl : cms.length ≤ 2)
    {Q : VK} {E' : XK} (k : ∀ (H' S' : Hp) (fp' : List Addr), Gm (fun x => x ∈ fp) H S H' S' → LibI K al S' H' a fp' false (cms.foldl step M) (Ps ++ [M]) [] → (∀ x ∈ fp', x ∈ fp ∨ H x = none) → Q .non H') : sp_ap K (V.ref a :: cs.map V.ref) H Q E' := by
  have la := d.al_.hi
  refine ⟨[.ref a], cs.map V.ref, rfl, rfl, by rw [List.length_map, hc.length]; exact szE (by omega), fun p hp => ?_⟩
  generalize e1 : upd H p (HO.tup (cs.map V.ref)) = H1
  have g1 : Gr H S H1 S := (Gm.rfl' d.sub).l0 e1 hp
  refine ⟨al, a, p, cs, cms, fp, M, Ps, Us, S, rfl, d.lib.gr g1, new_at e1, L2.Paired.mapP hc fun _ _ z => g1.same _ _ z, by omega, by omega, by omega, by have := mok_len d.al_.low d.ns_ d.mok; omega, g1.sub, .inl ⟨(ch_of d.al_.low d.ns_ d.mok hch).1, fun H' S' fp' g l m => ?_⟩⟩
  exact k H' S' fp' (g1.m.trans g) l fun x hx => (m x hx).imp id g1.free
theorem law_d3 (T : Txt K mg) (G_l_as_text : OkG P w K mg base CX0 7 "_law_as_text" P_l_as_text sp_astext) (G_Library_apply : FnR P w K mg base (L2.CX P w) 14 (He.ma K (He.ga K "Library") "apply") (sp_ap K)) (hr : Room 16 (lcx P w K mg base f (.ref cA) A outer s H0 E).A) :
    StepS (lcx P w K mg base f (.ref cA) A outer s H0 E) (bDo.getD 3 noS) (LC2 K Pt) (LC3 K Pt) := by
  refine ⟨_, (ps_set (i := 15) sc_law.nd rfl (Or.inl rfl) (pe_lst (pa_cons (pe_ifExp (pt_cmpR op_eq (pe_callB (lenK (K := K) rfl) (by rfl) T.f (by decide +kernel) (pa_cons (pv 13) pa_nil)) pe_int (nomark _)) (pe_methR (pv 6) (T.c "Library") (T.m "Library" "apply") G_Library_apply (hr.mono (by decide)) passF (pa_cons (pe_call G_l_as_text (hr.mono (by decide)) (by rfl) (T.g "_law_as_text") (T.k "_law_as_text") T.b_l_as_text .nil pass0 (pa_cons (pe_ix (ix_listK (K := K) rfl) (pv 13) pe_int (fun _ _ => rfl)) pa_nil)) (pa_cons (pe_call G_l_as_text (hr.mono (by decide)) (by rfl) (T.g "_law_as_text") (T.k "_law_as_text") T.b_l_as_text .nil pass0 (pa_cons (pe_ix (ix_listK (K := K) rfl) (pv 13) pe_int (fun _ _ => rfl)) pa_nil)) pa_nil))) pe_non) (pa_cons (pe_ifExp (pt_cmpR op_eq (pe_callB (lenK (K := K) rfl) (by rfl) T.f (by decide +kernel) (pa_cons (pv 13) pa_nil)) pe_int (nomark _)) (pe_methR (pv 6) (T.c "Library") (T.m "Library" "apply") G_Library_apply (hr.mono (by decide)) passF (pa_cons (pe_call G_l_as_text (hr.mono (by decide)) (by rfl) (T.g "_law_as_text") (T.k "_law_as_text") T.b_l_as_text .nil pass0 (pa_cons (pe_ix (ix_listK (K := K) rfl) (pv 13) pe_int (fun _ _ => rfl)) pa_nil)) pa_nil)) pe_non) (pa_cons (pe_ifExp (pt_cmpR (eqNilK (K := K) rfl hr.units) (pv 13) (pe_lst pa_nil) (nomark _)) (pe_methR0 (pv 6) (T.c "Library") (T.m "Library" "apply") G_Library_apply (hr.mono (by decide)) passF) pe_non) pa_nil))))), fun sc n D σ H hn hI k => ?_⟩
  obtain ⟨β, a, pa, ga, ca, al, ns, fp, M, Ps, Us, mv, nv, cvs, cms, S, x2, x9, x10, x11, x12, x14, x15, rfl, d, hl, hc, hp, hch, hlen⟩ := hI
  have cl := hp.length
  walk_at "rs"
  walk_at "rd"
  refine ⟨ca, cvs, rfl, .inl (sql (d.sub _ _ hc)), rfl, ?_⟩
  obtain ⟨pvs, hpv, pp⟩ := d.past
  -- the list that is told
  have fin : ∀ (H' S' : Hp) (fp' : List Addr), Gm (fun x => x ∈ fp) H S H' S' → LibI K al S' H' a fp' false (cms.foldl step M) (Ps ++ [M]) [] → (∀ x ∈ fp', x ∈ fp ∨ H x = none) → [V.non, V.non, V.non].length ≤ sizeLine ∧ ∀ p, H' p = none →
      D.nx ([some sc, some (V.ref β), x2, some (V.str al), some nv, some mv, some (V.ref a), some (V.ref pa), some (V.ref ga), x9, x10, x11, x12, some (V.ref ca), x14, x15].set 15 (some (V.ref p))) (upd H' p (HO.lst [V.non, V.non, V.non])) := by
    intro H' S' fp' g l m
    refine ⟨by walk_at "sz", fun p hpn => ?_⟩
    generalize e1 : upd H' p _ = H1
    have g1 : Gr H' S' H1 _ := (Gm.rfl' g.sub).ld e1 hpn
    have g2 := g.trans g1.m
    have up := g2.mono
    refine k _ _ ⟨β, a, pa, ga, ca, p, al, ns, fp', M, cms, Ps, mv, nv, _, x2, x9, x10, x11, x12, x14, rfl, ⟨g2.sub, d.bag.gm g2 d.nb, tab_gm d.tab g2 d.lib.ms, l.gr g1, (fun z => (m _ z).elim d.nb d.bag.live), d.mo.mono up, d.nn.mono up, d.al_, d.ns_, d.mok, hch, hlen, d.pok, ⟨cvs, up _ _ hc, L2.Paired.mapP hp fun _ _ z => CmdAt.mono up z⟩, upd_same⟩, by omega, pvs, up _ _ hpv, mods_mono up pp⟩
  have s2 : ∀ (n m : Nat), n ≠ m → ¬ decide (V.int (n : Nat) = V.int (m : Nat)) = true := fun n m h => by
    rw [decide_eq_false (fun z => h (by have := V.int.inj z; omega))]
    exact Bool.false_ne_true
  have tcm : ∀ cm ∈ cms, cmT cm := ch_t d.al_.low d.ns_ d.mok hch
  match cms, cvs, hp with
  | [], _, .nil =>
    refine ⟨_, rfl, ?_⟩
    rw [if_neg (by exact s2 0 2 (by decide))]
    refine ⟨_, rfl, ca, [], rfl, .inl (sql (d.sub _ _ hc)), rfl, _, rfl, ?_⟩
    rw [if_neg (by exact s2 0 1 (by decide))]
    refine ⟨_, rfl, by walk_at "sz", fun p hpn => ?_⟩
    generalize e1 : upd H p _ = H1
    have g1 : Gr H S H1 S := (Gm.rfl' d.sub).l0 e1 hpn
    have d1 := d.gr g1
    obtain ⟨dx, dd, kk, pq, uu, ps, us, rfl, o⟩ := id d1.lib
    refine rd_nil (d1.sub _ _ hc) (new_at e1) ⟨_, rfl, ?_⟩
    rw [if_pos (by exact rfl)]
    refine ⟨_, rfl, a, dx, _, rfl, o.ob, by rfl, ?_⟩
    exact ap_call (cs := []) d1 .nil hch (by omega) (by decide) fun H' S' fp' g l m => fin H' S' fp' (g1.m.trans g) l fun x hx => (m x hx).imp id g1.free
  | [c1], [v1], .cons h1 .nil =>
    refine ⟨_, rfl, ?_⟩
    rw [if_neg (by exact s2 1 2 (by decide))]
    refine ⟨_, rfl, ca, [v1], rfl, .inl (sql (d.sub _ _ hc)), rfl, _, rfl, ?_⟩
    rw [if_pos (by exact rfl)]
    obtain ⟨dx, dd, kk, pq, uu, ps, us, rfl, o⟩ := id d.lib
    refine ⟨_, rfl, a, dx, _, rfl, o.ob, by rfl, ?_⟩
    walk_at "rs"
    refine ⟨_, rfl, rd_ix (d.sub _ _ hc) (at_0 ..) ?_⟩
    refine ⟨v1, c1, S, rfl, h1, tcm c1 (List.mem_cons_self ..), d.sub, fun H1 S1 p1 g1 hp1 => ?_⟩
    have d1 := d.gr g1
    refine ap_call (cs := [p1]) d1 (.cons (g1.sub _ _ hp1) .nil) hch (by omega) (by show 1 ≤ 2; decide) fun H' S' fp' g l m => ?_
    have gt := g1.m.trans g
    have mt : ∀ x ∈ fp', x ∈ fpL a dd kk pq uu ps us ∨ H x = none := fun x hx => (m x hx).imp id g1.free
    refine ⟨_, rfl, by walk_at "sz", fun p hpn => ?_⟩
    generalize e2 : upd H' p _ = H2
    have g2 : Gr H' S' H2 S' := (Gm.rfl' g.sub).l0 e2 hpn
    refine rd_nil (g2.sub _ _ (gt.mono _ _ hc)) (new_at e2) ⟨_, rfl, ?_⟩
    rw [if_neg (by exact Bool.false_ne_true)]
    exact fin H2 S' fp' (gt.trans g2.m) (l.gr g2) mt
  | [c1, c2], [v1, v2], .cons h1 (.cons h2 .nil) =>
    refine ⟨_, rfl, ?_⟩
    rw [if_pos (by exact rfl)]
    obtain ⟨dx, dd, kk, pq, uu, ps, us, rfl, o⟩ := id d.lib
    refine ⟨_, rfl, a, dx, _, rfl, o.ob, by rfl, ?_⟩
    walk_at "rs"
    refine ⟨_, rfl, rd_ix (d.sub _ _ hc) (at_0 ..) ?_⟩
    refine ⟨v1, c1, S, rfl, h1, tcm c1 (List.mem_cons_self ..), d.sub, fun H1 S1 p1 g1 hp1 => ?_⟩
    have d1 := d.gr g1
    refine ⟨_, rfl, rd_ix (d1.sub _ _ (g1.mono _ _ hc)) (by rfl) ?_⟩
    refine ⟨v2, c2, S1, rfl, CmdAt.mono g1.mono h2, tcm c2 (List.mem_cons_of_mem _ (List.mem_cons_self ..)), d1.sub, fun H2 S2 p2 g2 hp2 => ?_⟩
    have d2 := d1.gr g2
    have g12 := g1.trans g2
    refine ap_call (cs := [p1, p2]) d2 (.cons (g2.sub _ _ (g2.mono _ _ hp1)) (.cons (g2.sub _ _ hp2) .nil)) hch (by omega) (by show 2 ≤ 2; decide) fun H' S' fp' g l m => ?_
    have gt := g12.m.trans g
    have mt : ∀ x ∈ fp', x ∈ fpL a dd kk pq uu ps us ∨ H x = none := fun x hx => (m x hx).imp id g12.free
    refine ⟨_, rfl, ca, [v1, v2], rfl, .inl (sql (gt.sub _ _ (gt.mono _ _ hc))), rfl, _, rfl, ?_⟩
    rw [if_neg (by exact s2 2 1 (by decide))]
    refine ⟨_, rfl, by walk_at "sz", fun p hpn => ?_⟩
    generalize e3 : upd H' p _ = H3
    have g3 : Gr H' S' H3 S' := (Gm.rfl' g.sub).l0 e3 hpn
    refine rd_nil (g3.sub _ _ (gt.mono _ _ hc)) (new_at e3) ⟨_, rfl, ?_⟩
    rw [if_neg (by exact Bool.false_ne_true)]
    exact fin H3 S' fp' (gt.trans g3.m) (l.gr g3) mt
end
end Lst

/-! ## LLaw7 -/
namespace Lst
open PySem PySem.Spec PyProof.Rows L2
section
variable {P : Program} {w : World} {K : PySem.W.Frag} {mg : Str → Option Value} {base : Heap} {f cA Pt : Addr} {A : Around} {outer : List Env} {s : Shared} {H0 : Hp} {E : XK}
theorem law_d4 (T : Txt K mg) (hr : Room 16 (lcx P w K mg base f (.ref cA) A outer s H0 E).A) :
    StepS (lcx P w K mg base f (.ref cA) A outer s H0 E) (bDo.getD 4 noS) (LC3 K Pt) (fun sc n σ H => ∃ ca cms M, LC4 K Pt sc n 0 ca cms M σ H) := by
  refine ⟨_, (ps_par (i := 7) (j := 8) (by rfl) sc_law.nd rfl rfl (by decide) rfl rfl (pa_cons (pe_op op_cat (pv 7) (pe_lst (pa_cons (pv 5) pa_nil))) (pa_cons (pe_lst pa_nil) pa_nil)) (by rfl)), fun sc n D σ H hn hI k => ?_⟩
  obtain ⟨β, a, pa, ga, ca, ta, al, ns, fp, M, cms, Ps, mv, nv, S, x2, x9, x10, x11, x12, x14, rfl, d, hl, pvs, hpv, pp⟩ := hI
  walk_at "rs"
  walk_at "rd"
  refine ⟨by walk_at "sz", fun q1 hq1 => ?_⟩
  generalize e1 : upd H q1 _ = H1
  have g1 : Gr H S H1 S := (Gm.rfl' d.sub).l0 e1 hq1
  have lp := pp.length
  refine ⟨pa, q1, pvs, [mv], rfl, rfl, g1.sub _ _ hpv, new_at e1, szE (by rw [List.length_singleton]; omega), fun q2 hq2 => ?_⟩
  generalize e2 : upd H1 q2 _ = H2
  have g2 := g1.ld e2 hq2
  refine ⟨by walk_at "sz", fun q3 hq3 => ?_⟩
  generalize e3 : upd H2 q3 _ = H3
  have g3 := g2.ld e3 hq3
  have hq2S : upd (upd S q2 (HO.lst (pvs ++ [mv]))) q3 (HO.lst []) q2 = some (.lst (pvs ++ [mv])) := by
    rw [upd_ne (ne_of_none (new_at e2) hq3), upd_same]
  refine ⟨_, _, rfl, ?_⟩
  have d3 := d.gr g3
  exact k _ _ ⟨ca, cms, M, β, a, q2, q3, ta, al, ns, fp, Ps, mv, nv, _, x2, x9, x10, x11, x12, x14, rfl, d3, hl, ⟨_, hq2S, (mods_mono g3.mono pp).snoc d3.mo⟩, upd_same⟩
theorem mok_take {al : Str} {ns : List Str} : ∀ {cms : List Cmd} {M : Mo} {i : Nat}, MOk al ns [] M → ChOk al ns M cms → MOk al ns [] ((cms.take i).foldl step M)
  | _, M, 0, h, _ => h
  | [], M, i + 1, h, _ => h
  | c :: r, M, i + 1, h, ⟨c1, c2⟩ => mok_take (cms := r) (i := i) (mok_step h c1) c2
theorem law_d5 (T : Txt K mg) (G_l_done : OkG P w K mg base CX0 7 "_law_done" P_l_done sp_done) (hr : Room 16 (lcx P w K mg base f (.ref cA) A outer s H0 E).A) :
    StepS (lcx P w K mg base f (.ref cA) A outer s H0 E) (bDo.getD 5 noS) (fun sc n σ H => ∃ ca cms M, LC4 K Pt sc n 0 ca cms M σ H) (fun sc n σ H => ∃ ca cms M, LC4 K Pt sc n cms.length ca cms M σ H) := by
  refine ⟨_, (ps_for PassesOwn.never rfl (pi_listK (K := K) rfl (pv 13)) (pg_name (i := 14) sc_law.nd rfl (Or.inl rfl)) (pss_one (ps_set (i := 5) sc_law.nd rfl (Or.inl rfl) (pe_call G_l_done (hr.mono (by first | decide | omega)) (by rfl) (T.g "_law_done") (T.k "_law_done") T.b_l_done .nil pass0 (pa_cons (pv 5) (pa_cons (pv 14) pa_nil)))))), fun sc n D σ H hn hI k => ?_⟩
  obtain ⟨ca, cms, M, hI⟩ := hI
  have hI0 := hI
  obtain ⟨β, a, pa, ga, ta, al, ns, fp, Ps, mv, nv, S, x2, x9, x10, x11, x12, x14, rfl, d, hl, hpv, hgv⟩ := hI
  obtain ⟨cvs, hc, hp⟩ := d.cmds
  dsimp only [L2.tFor, L2.iList, L2.tVar]
  refine ⟨_, rfl, ca, rfl, ⟨_, sql (d.sub _ _ hc)⟩, ?_⟩
  have cl := hp.length
  refine for_it walk_list (fun i σ H' => ∃ S' mv' x14', σ = [some sc, some (.ref β), x2, some (.str al), some nv, some mv', some (.ref a), some (.ref pa), some (.ref ga), x9, x10, x11, x12, some (.ref ca), x14', some (.ref ta)] ∧ DQ K β Pt al ns a fp M ((cms.take i).foldl step M) cms Ps mv' nv ca ta S' H' ∧ Gr H S H' S') ⟨S, mv, x14, rfl, d, Gm.rfl' d.sub⟩ (fun i σ H' _ ⟨S', _, _, _, _, g⟩ => sql (g.sub _ _ (g.mono _ _ hc))) ?_ ?_
  · rintro i x σ H2 H3 hi ⟨S2, mv2, y14, rfl, d2, g2⟩ ⟨rfl, hx⟩
    obtain ⟨cm, hcm, hv⟩ := pair_at hp hx
    have mk := mok_take (i := i) d.mok d.ch
    obtain ⟨sm, dp⟩ := mok_sm d.al_.low d.ns_ mk
    walk_at "rs"
    walk_at "rd"
    refine ⟨mv2, x, _, cm, S2, rfl, d2.mo, CmdAt.mono g2.mono hv, Nat.le_trans sm.len (by decide), dp, d2.sub, fun H4 S4 v g4 hm => ?_⟩
    have d4 := d2.gr g4
    refine ⟨S4, v, _, rfl, ⟨d4.sub, d4.bag, d4.tab, d4.lib, d4.nb, ?_, d4.nn, d4.al_, d4.ns_, d4.mok, d4.ch, d4.len, d4.pok, d4.cmds, d4.told⟩, g2.trans g4⟩
    rw [take_snoc hcm, List.foldl_append]
    exact hm
  · rintro σ H2 ⟨S2, mv2, y14, rfl, d2, g2⟩
    rw [cl] at d2
    obtain ⟨pvs, hpv, pp⟩ := hpv
    exact k _ _ ⟨ca, cms, M, β, a, pa, ga, ta, al, ns, fp, Ps, mv2, nv, S2, x2, x9, x10, x11, x12, y14, rfl, d2, hl, ⟨pvs, g2.mono _ _ hpv, mods_mono g2.mono pp⟩, g2.mono _ _ hgv⟩
theorem law_d6 (T : Txt K mg) (hr : Room 16 (lcx P w K mg base f (.ref cA) A outer s H0 E).A) :
    StepS (lcx P w K mg base f (.ref cA) A outer s H0 E) (bDo.getD 6 noS) (fun sc n σ H => ∃ ca cms M, LC4 K Pt sc n cms.length ca cms M σ H) (fun sc n => LI K Pt sc (n + 1)) := by
  refine ⟨_, (ps_if (pt_cmpR (neDK (K := K) rfl hr.units) (pv 15) (pe_op op_rep (pe_lst (pa_cons pe_non pa_nil)) pe_int) (nomark _)) (pss_one (ps_ret pe_bl)) pss_nil), fun sc n D σ H hn hI k => ?_⟩
  obtain ⟨ca, cms, M, β, a, pa, ga, ta, al, ns, fp, Ps, mv, nv, S, x2, x9, x10, x11, x12, x14, rfl, d, hl, ⟨pvs, hpv, pp⟩, hgv⟩ := hI
  walk_at "rs"
  walk_at "rd"
  refine ⟨by walk_at "sz", fun q1 hq1 => ?_⟩
  generalize e1 : upd H q1 _ = H1
  have g1 : Gr H S H1 S := (Gm.rfl' d.sub).l0 e1 hq1
  refine ⟨q1, 3, [.non], rfl, rfl, new_at e1, by decide, by decide, by decide, fun q2 hq2 => ?_⟩
  generalize e2 : upd H1 q2 _ = H2
  have g2 : Gr H S H2 S := g1.l0 e2 hq2
  have three : ∀ {b}, H2 b = some (.lst [.non, .non, .non]) → Dp K H2 (.ref b) (.list [.none, .none, .none]) := fun h => .lst (sql h) (.cons .non (.cons .non (.cons .non .nil)))
  refine ⟨_, _, three (g2.sub _ _ d.told), three (new_at e2), by decide +kernel, by decide +kernel, _, rfl, ?_⟩
  rw [if_neg (by decide +kernel)]
  have d2 := d.gr g2
  have mk := (ch_of d.al_.low d.ns_ d.mok d.ch).2
  have hm := d2.mo
  rw [List.take_of_length_le (Nat.le_refl _)] at hm
  refine k _ _ ⟨β, a, pa, ga, al, ns, fp, _, Ps ++ [M], [], mv, nv, S, ⟨x2, x9, x10, x11, x12, _, x14, _, rfl⟩, ⟨d2.sub, d2.bag, d2.tab, d2.lib, d2.nb, hm, d2.nn, d2.al_, d2.ns_, mk, ⟨pvs, hpv, pp⟩, ⟨[], hgv, .nil⟩, ?_, fun m hm => nomatch hm⟩, ?_⟩
  · intro m hm
    rcases List.mem_append.mp hm with z | z
    · exact d.pok m z
    · rw [List.mem_singleton.mp z]
      exact d.mok
  · rw [List.length_append, List.length_singleton, List.length_nil]
    omega
end
end Lst

/-! ## LLaw8 -/
namespace Lst
open PySem PySem.Spec PyProof.Rows L2
section
variable {P : Program} {w : World} {K : PySem.W.Frag} {mg : Str → Option Value} {base : Heap} {f cA Pt : Addr} {A : Around} {outer : List Env} {s : Shared} {H0 : Hp} {E : XK}
theorem law_e1 (T : Txt K mg) (G_l_command : OkG P w K mg base CX0 8 "_law_command" P_l_command sp_command) (G_l_done : OkG P w K mg base CX0 7 "_law_done" P_l_done sp_done) (G_l_as_text : OkG P w K mg base CX0 7 "_law_as_text" P_l_as_text sp_astext)
    (G_Library_apply : FnR P w K mg base (L2.CX P w) 14 (He.ma K (He.ga K "Library") "apply") (sp_ap K)) (hr : Room 16 (lcx P w K mg base f (.ref cA) A outer s H0 E).A) (h2 : ChainS (lcx P w K mg base f (.ref cA) A outer s H0 E) K Pt sE2) :
    StepS (lcx P w K mg base f (.ref cA) A outer s H0 E) sE1 (fun sc n σ H => ∃ way, LIw K Pt sc n way σ H) (fun sc n => LI K Pt sc (n + 1)) := by
  obtain ⟨t2, h2, k2⟩ := h2
  obtain ⟨t0, a0, k0⟩ := law_d0 (base := base) (f := f) (cA := cA) (Pt := Pt) (outer := outer) (s := s) (H0 := H0) (E := E) T G_l_command hr
  obtain ⟨t1, a1, k1⟩ := law_d1 (base := base) (f := f) (cA := cA) (Pt := Pt) (outer := outer) (s := s) (H0 := H0) (E := E) T G_l_command G_l_done hr
  obtain ⟨t2', a2, k2'⟩ := law_d2 (P := P) (w := w) (base := base) (f := f) (cA := cA) (Pt := Pt) (outer := outer) (s := s) (H0 := H0) (E := E) T hr
  obtain ⟨t3, a3, k3⟩ := law_d3 (base := base) (f := f) (cA := cA) (Pt := Pt) (outer := outer) (s := s) (H0 := H0) (E := E) T G_l_as_text G_Library_apply hr
  obtain ⟨t4, a4, k4⟩ := law_d4 (P := P) (w := w) (base := base) (f := f) (cA := cA) (Pt := Pt) (outer := outer) (s := s) (H0 := H0) (E := E) T hr
  obtain ⟨t5, a5, k5⟩ := law_d5 (base := base) (f := f) (cA := cA) (Pt := Pt) (outer := outer) (s := s) (H0 := H0) (E := E) T G_l_done hr
  obtain ⟨t6, a6, k6⟩ := law_d6 (P := P) (w := w) (base := base) (f := f) (cA := cA) (Pt := Pt) (outer := outer) (s := s) (H0 := H0) (E := E) T hr
  refine ⟨_, ps_if (pt_cmpR op_lt (pv 10) pe_int (nomark _)) (pss_cons a0 (pss_cons a1 (pss_cons a2 (pss_cons a3 (pss_cons a4 (pss_cons a5 (pss_one a6))))))) (pss_one h2), fun sc n D σ H hn hI k => ?_⟩
  obtain ⟨way, hI⟩ := hI
  have hI0 := hI
  obtain ⟨β, a, pa, ga, al, ns, fp, M, Ps, Us, mv, nv, S, x2, x9, x11, x12, x13, x14, x15, rfl, d, hl⟩ := hI
  walk_at "rs"
  walk_at "rd"
  by_cases hw : way < 2
  · rw [if_pos (decide_eq_true hw)]
    exact k0 _ _ _ _ _ hn ⟨way, hI0⟩ fun σ1 H1 i1 => k1 _ _ _ _ _ hn i1 fun σ2 H2 i2 => k2' _ _ _ _ _ hn i2 fun σ3 H3 i3 => k3 _ _ _ _ _ hn i3 fun σ4 H4 i4 => k4 _ _ _ _ _ hn i4 fun σ5 H5 i5 => k5 _ _ _ _ _ hn i5 fun σ6 H6 i6 => k6 _ _ _ _ _ hn i6 k
  · rw [if_neg (by rw [decide_eq_false hw]; exact Bool.false_ne_true)]
    exact k2 _ _ _ _ _ _ hn hI0 k
theorem law_way (T : Txt K mg) (G_l_pull : OkG P w K mg base CX0 1 "_law_pull" P_l_pull sp_pull) (hr : Room 16 (lcx P w K mg base f (.ref cA) A outer s H0 E).A) :
    StepS (lcx P w K mg base f (.ref cA) A outer s H0 E) (bDeed.getD 0 noS) (LI K Pt) (fun sc n σ H => ∃ way, LIw K Pt sc n way σ H) := by
  refine ⟨_, (ps_set (i := 10) sc_law.nd rfl (Or.inl rfl) (pe_call G_l_pull (hr.mono (by first | decide | omega)) (by rfl) (T.g "_law_pull") (T.k "_law_pull") T.b_l_pull .nil pass0 (pa_cons (pv 1) (pa_cons pe_int pa_nil)))), fun sc n D σ H hn hI k => ?_⟩
  obtain ⟨β, a, pa, ga, al, ns, fp, M, Ps, Us, mv, nv, S, ⟨x2, x9, x10, x11, x12, x13, x14, x15, rfl⟩, d, hl⟩ := hI
  walk_at "rs"
  walk_at "rd"
  refine ⟨β, 5, S, rfl, by decide, by decide, d.sub, d.bag, fun H1 S1 g1 b1 way w0 w1 => ?_⟩
  exact k _ _ ⟨way, β, a, pa, ga, al, ns, fp, M, Ps, Us, mv, nv, S1, x2, x9, x11, x12, x13, x14, x15, rfl, d.draw g1 b1, hl⟩
end
end Lst

/-! ## LLaw9 -/
namespace Lst
open PySem PySem.Spec PyProof.Rows L2
/-- between two turns -/
def TI (Pt : Addr) (sc : V) (σ : L2.St) (H : Hp) : Prop := ∃ (β : Addr) (S : Hp) (x2 x3 x4 x5 x6 x7 x8 x9 x10 x11 x12 x13 x14 x15 : Option V), σ = [some sc, some (.ref β), x2, x3, x4, x5, x6, x7, x8, x9, x10, x11, x12, x13, x14, x15] ∧ Same S H ∧ BagAt S H β ∧ LamX.Tabs [(Pt, qL)] H
section
variable {P : Program} {w : World} {K : PySem.W.Frag} {mg : Str → Option Value} {base : Heap} {f cA Pt : Addr} {A : Around} {outer : List Env} {s : Shared} {H0 : Hp} {E : XK}
abbrev LookS (X : Cx) (K : PySem.W.Frag) (Pt : Addr) (st : Stmt) : Prop := ∃ t, PS X st t ∧ ∀ D sc n σ H, n ≤ 100 → LI K Pt sc n σ H → (∀ σ H, LI K Pt sc n σ H → D.nx σ H) → t D σ H
theorem law_deed {X : Cx} (h0 : StepS X (bDeed.getD 0 noS) (LI K Pt) (fun sc n σ H => ∃ way, LIw K Pt sc n way σ H)) (h1 : StepS X sE1 (fun sc n σ H => ∃ way, LIw K Pt sc n way σ H) (fun sc n => LI K Pt sc (n + 1))) (h2 : LookS X K Pt (bDeed.getD 2 noS)) (h3 : LookS X K Pt (bDeed.getD 3 noS)) (h4 : LookS X K Pt (bDeed.getD 4 noS)) :
    ∃ t, PSs X bDeed t ∧ ∀ D sc n σ H, n ≤ 50 → LI K Pt sc n σ H → (∀ σ H, LI K Pt sc (n + 1) σ H → D.nx σ H) → t D σ H := by
  obtain ⟨t0, a0, k0⟩ := h0
  obtain ⟨t1, a1, k1⟩ := h1
  obtain ⟨t2, a2, k2⟩ := h2
  obtain ⟨t3, a3, k3⟩ := h3
  obtain ⟨t4, a4, k4⟩ := h4
  refine ⟨_, show PSs X [bDeed.getD 0 noS, sE1, bDeed.getD 2 noS, bDeed.getD 3 noS, bDeed.getD 4 noS] _ from pss_cons a0 (pss_cons a1 (pss_cons a2 (pss_cons a3 (pss_one a4)))), fun D sc n σ H hn hI k => ?_⟩
  exact k0 _ _ _ _ _ (by omega) hI fun σ1 H1 i1 => k1 _ _ _ _ _ (by omega) i1 fun σ2 H2 i2 => k2 _ _ _ _ _ (by omega) i2 fun σ3 H3 i3 => k3 _ _ _ _ _ (by omega) i3 fun σ4 H4 i4 => k4 _ _ _ _ _ (by omega) i4 k
theorem law_turn (T : Txt K mg) (G_l_alphabet : OkG P w K mg base CX0 3 "_law_alphabet" P_l_alphabet sp_alphabet) (G_l_names : OkG P w K mg base CX0 3 "_law_names" P_l_names sp_lnames) (G_Library_init : OkM P w K mg base CX0 3 "Library" "__init__" P_Library_init (sp_Linit K))
    (hr : Room 16 (lcx P w K mg base f (.ref cA) A outer s H0 E).A) (hd : ∃ t, PSs (lcx P w K mg base f (.ref cA) A outer s H0 E) bDeed t ∧ ∀ D sc n σ H, n ≤ 50 → LI K Pt sc n σ H → (∀ σ H, LI K Pt sc (n + 1) σ H → D.nx σ H) → t D σ H) :
    ∃ t, PSs (lcx P w K mg base f (.ref cA) A outer s H0 E) bTurn t ∧ ∀ D sc σ H, TI Pt sc σ H → (∀ σ H, TI Pt sc σ H → D.nx σ H) → t D σ H := by
  obtain ⟨td, hd, kd⟩ := hd
  obtain ⟨mv, kbL⟩ := kb_lib T
  refine ⟨_, show PSs (lcx P w K mg base f (.ref cA) A outer s H0 E) [bTurn.getD 0 noS, bTurn.getD 1 noS, bTurn.getD 2 noS] _ from pss_cons (ps_asg (pe_tup (pa_cons (pe_call G_l_alphabet (hr.mono (by first | decide | omega)) (by rfl) (T.g "_law_alphabet") (T.k "_law_alphabet") T.b_l_alphabet .nil pass0 (pa_cons (pv 1) (pa_cons pe_int pa_nil))) (pa_cons (pe_call G_l_names (hr.mono (by first | decide | omega)) (by rfl) (T.g "_law_names") (T.k "_law_names") T.b_l_names .nil pass0 (pa_cons (pv 1) (pa_cons pe_int pa_nil))) pa_nil))) (pg_tupK (K := K) (n := 2) rfl rfl (pgs_cons (pg_name (i := 3) sc_law.nd rfl (Or.inr rfl)) (pgs_cons (pg_name (i := 4) sc_law.nd rfl (Or.inr rfl)) pgs_nil)))) (pss_cons (ps_asg (pe_tup (pa_cons (pe_lst pa_nil) (pa_cons (pe_makeK (T.mkr "Library") G_Library_init (hr.mono (by decide)) (by rfl) (T.g "Library") kbL pass0 (pa_cons (pv 3) pa_nil) (pk_cons pe_int pk_nil)) (pa_cons (pe_lst pa_nil) (pa_cons (pe_lst pa_nil) pa_nil))))) (pg_tupK (K := K) (n := 4) rfl rfl (pgs_cons (pg_name (i := 5) sc_law.nd rfl (Or.inl rfl)) (pgs_cons (pg_name (i := 6) sc_law.nd rfl (Or.inr rfl)) (pgs_cons (pg_name (i := 7) sc_law.nd rfl (Or.inl rfl)) (pgs_cons (pg_name (i := 8) sc_law.nd rfl (Or.inl rfl)) pgs_nil)))))) (pss_one (ps_for PassesOwn.never rfl (pi_range1 (by rfl) T.f (pa_cons pe_int pa_nil)) (pg_name (i := 9) sc_law.nd rfl (Or.inl rfl)) hd))), fun D sc σ H hI k => ?_⟩
  obtain ⟨β, S, x2, x3, x4, x5, x6, x7, x8, x9, x10, x11, x12, x13, x14, x15, rfl, hS, hB, hT⟩ := hI
  walk_at "rs"
  walk_at "rd"
  refine ⟨β, S, rfl, hS, hB, fun H1 S1 g1 b1 al aok => ?_⟩
  refine ⟨_, rfl, β, S1, rfl, g1.sub, b1, fun H2 S2 g2 b2 nv ns hn nok => ?_⟩
  have t1 := tab_gm hT g1 (bag_ms hB)
  have t2 := tab_gm t1 g2 (bag_ms b1)
  refine ⟨by walk_at "sz", fun p3 hp3 => ?_⟩
  generalize e3 : upd H2 p3 _ = H3
  have g3 : Gr H2 S2 H3 S2 := (Gm.rfl' g2.sub).l0 e3 hp3
  refine ⟨p3, _, rfl, sqt (new_at e3), rfl, _, _, rfl, _, _, rfl, rfl, ?_⟩
  refine ⟨by walk_at "sz", fun q1 hq1 => ?_⟩
  generalize e4 : upd H3 q1 _ = H4
  have g4 := g3.ld e4 hq1
  have hq1S : upd S2 q1 (HO.lst []) q1 = some (.lst []) := upd_same
  generalize upd S2 q1 (HO.lst []) = S4 at g4 hq1S
  have b4 := b2.gr g4
  have t4 := t2.ext g4.same
  refine ⟨_, rfl, rfl, rfl, fun x dx hx hdx nx => ?_⟩
  generalize e5 : upd H4 dx (HO.own x) = H5
  have g5 : Gr H4 S4 H5 S4 := (Gm.rfl' g4.sub).l0 e5 hdx
  have hx5 : H5 x = none := by rw [← e5, upd_ne nx.symm]; exact hx
  generalize e6 : upd H5 x _ = H6
  have g6 := g5.l0 e6 hx5
  have hx6 := new_at e6
  have nSx : S4 x = none := Same.free g4.sub hx
  refine ⟨al, x, dx, S4, rfl, hx6, nSx, aok, g6.sub, fun H7 S7 fp g7 l7 m7 => ⟨rfl, ?_⟩⟩
  have b6 := b4.gr g6
  have nbx : β ≠ x := fun z => b4.live (by rw [z]; exact hx)
  have b7 := b6.gm g7 fun z => nbx z
  have t6 := t4.ext g6.same
  have t7 := tab_gm t6 g7 fun b (hb : b = x) => by
    rw [hb, hx6]
    exact ⟨(fun ps z => by cases z), fun c r z => by unfold LamX.CodeO at z; cases z⟩
  have nbf : β ∉ fp := fun z => (m7 _ z).elim nbx b6.live
  refine ⟨by walk_at "sz", fun q2 hq2 => ?_⟩
  generalize e8 : upd H7 q2 _ = H8
  have g8 := (Gm.rfl' (ms := noM) g7.sub).ld e8 hq2
  have hq2S : upd S7 q2 (HO.lst []) q2 = some (.lst []) := upd_same
  generalize upd S7 q2 (HO.lst []) = S8 at g8 hq2S
  refine ⟨by walk_at "sz", fun q3 hq3 => ?_⟩
  generalize e9 : upd H8 q3 _ = H9
  have g9a := (Gm.rfl' (ms := noM) g8.sub).ld e9 hq3
  have hq3S : upd S8 q3 (HO.lst []) q3 = some (.lst []) := upd_same
  generalize upd S8 q3 (HO.lst []) = S9 at g9a hq3S
  have g9 := g8.trans g9a
  refine ⟨by walk_at "sz", fun p10 hp10 => ?_⟩
  generalize e10 : upd H9 p10 _ = H10
  have g10 := g9.l0 e10 hp10
  refine ⟨p10, _, rfl, sqt (new_at e10), rfl, _, _, rfl, _, _, rfl, _, _, rfl, _, _, rfl, rfl, ?_⟩
  have up4 : Same S2 S4 := g4.mono
  have up9 := g4.mono.trans (g6.mono.trans (g7.mono.trans g10.mono))
  have d10 : DS K β Pt qL al ns x fp [] [] [] (.ref q1) nv q2 q3 S9 H10 := ⟨g10.sub, b7.gr g10, t7.ext g10.same, l7.gr g10, nbf, ⟨q1, [], rfl, g10.mono _ _ (g7.mono _ _ (g6.mono _ _ hq1S)), .nil⟩, hn.mono up9, aok, nok, True.intro, ⟨[], g9a.mono _ _ hq2S, .nil⟩, ⟨[], hq3S, .nil⟩, (fun m h => nomatch h), fun m h => nomatch h⟩
  dsimp only [L2.tFor, L2.iRng1, L2.tCons, L2.tC, L2.tNil]
  refine ⟨16, rfl, by decide, by decide, ?_⟩
  refine for_it walk_range (fun i σ H => LI K Pt sc i σ H) ⟨β, x, q2, q3, al, ns, fp, [], [], [], .ref q1, nv, S9, ⟨x2, x9, x10, x11, x12, x13, x14, x15, rfl⟩, d10, by decide⟩ (fun _ _ _ _ _ => trivial) ?_ ?_
  · rintro i y σ Ha Hb hi ⟨β', a', pa', ga', al', ns', fp', M', Ps', Us', mv', nv', S', ⟨y2, y9, y10, y11, y12, y13, y14, y15, rfl⟩, d', hl'⟩ ⟨rfl, rfl⟩
    have hi : i < 16 := hi
    exact kd _ _ i _ _ (by omega) ⟨β', a', pa', ga', al', ns', fp', M', Ps', Us', mv', nv', S', ⟨y2, _, y10, y11, y12, y13, y14, y15, rfl⟩, d', hl'⟩ fun σ H h => h
  · rintro σ Ha ⟨β', a', pa', ga', al', ns', fp', M', Ps', Us', mv', nv', S', ⟨y2, y9, y10, y11, y12, y13, y14, y15, rfl⟩, d', hl'⟩
    exact k _ _ ⟨β', S', _, _, _, _, _, _, _, _, _, _, _, _, _, _, rfl, d'.sub, d'.bag, d'.tab⟩
/-- the whole law -/
def sp_law (K : PySem.W.Frag) (Pt : Addr) : Sp := fun vs H Q _ => ∃ (a : Addr) (ns : List Int), vs = [.ref a] ∧ ns.length ≤ 63 ∧ H Pt = some (.tbl #[]) ∧ SqL K H a (ns.map V.int) ∧ ∀ H', Q (.bl true) H'
theorem law_all (T : Txt K mg) (G_l_draws : OkG P w K mg base CX0 1 "_law_draws" P_l_draws (sp_draws K)) (hr : Room 16 (lcx P w K mg base f (.ref cA) A outer s H0 E).A)
    (ht : ∃ t, PSs (lcx P w K mg base f (.ref cA) A outer s H0 E) bTurn t ∧ ∀ D sc σ H, TI Pt sc σ H → (∀ σ H, TI Pt sc σ H → D.nx σ H) → t D σ H) :
    ∃ t, PSs (lcx P w K mg base f (.ref cA) A outer s H0 E) (defBody s_law) t ∧ ∀ (a : Addr) (ns : List Int) (H : Hp) (Q : VK), ns.length ≤ 63 → H Pt = some (.tbl #[]) → SqL K H a (ns.map V.int) → (∀ H', Q (.bl true) H') → t { nx := fun _ H' => Q .non H', rt := Q } (L2.start N_law [.ref a]) H := by
  obtain ⟨tt, ht, kt⟩ := ht
  refine ⟨_, show PSs (lcx P w K mg base f (.ref cA) A outer s H0 E) [(defBody s_law).getD 0 noS, (defBody s_law).getD 1 noS, (defBody s_law).getD 2 noS] _ from pss_cons (ps_set (i := 1) sc_law.nd rfl (Or.inl rfl) (pe_call G_l_draws (hr.mono (by first | decide | omega)) (by rfl) (T.g "_law_draws") (T.k "_law_draws") T.b_l_draws .nil pass0 (pa_cons (pv 0) pa_nil))) (pss_cons (ps_for PassesOwn.never rfl (pi_range1 (by rfl) T.f (pa_cons pe_int pa_nil)) (pg_name (i := 2) sc_law.nd rfl (Or.inl rfl)) ht) (pss_one (ps_ret pe_bl))), fun a ns H Q hl hP hs k => ?_⟩
  walk_at "rs"
  walk_at "rd"
  have t0 : LamX.Tabs [(Pt, qL)] H := fun p hp => by
    rw [List.mem_singleton.mp hp]
    exact LamX.TabS.nil hP
  refine ⟨a, ns, fun _ => none, rfl, hs, hl, (fun b o h => nomatch h), fun H1 S1 β g1 nβ b1 => ?_⟩
  dsimp only [L2.tFor, L2.iRng1, L2.tCons, L2.tC, L2.tNil]
  refine ⟨2, rfl, by decide, by decide, ?_⟩
  refine for_it (D := { nx := tRet (tC (V.bl true)) { nx := fun x H' => Q V.non H', rt := Q }, rt := Q }) walk_range (fun i σ H => TI Pt (.ref a) σ H) ⟨β, S1, none, none, none, none, none, none, none, none, none, none, none, none, none, none, rfl, g1.sub, b1, t0.ext g1.same⟩ (fun _ _ _ _ _ => trivial) ?_ ?_
  · rintro i y σ Ha Hb hi ⟨β', S', x2, x3, x4, x5, x6, x7, x8, x9, x10, x11, x12, x13, x14, x15, rfl, q1, q2, q3⟩ ⟨rfl, rfl⟩
    exact kt _ _ _ _ ⟨β', S', _, x3, x4, x5, x6, x7, x8, x9, x10, x11, x12, x13, x14, x15, rfl, q1, q2, q3⟩ fun σ H h => h
  · rintro σ Ha _
    exact k Ha
end
end Lst

/-! ## LWord -/
namespace Lst
open PySem PySem.Spec PyProof.Rows L2
theorem bot_all (l : List Nat) (p : Nat → Bool) : (l.map p).all id = l.all p := by
  induction l with
  | nil => rfl
  | cons a r ih =>
    rw [List.map_cons, List.all_cons, List.all_cons, ih]
    rfl
theorem map_bl (l : List Nat) (p : Nat → Bool) : (l.map fun c => V.bl (p c)) = (l.map p).map V.bl := by
  rw [List.map_map]
  rfl
section
variable {P : Program} {w : World} {K : PySem.W.Frag} {mg : Str → Option Value} {base : Heap}
theorem ok_is_word (T : Txt K mg) : OkG P w K mg base CX0 1 "is_word" P_is_word sp_is_word := by
  refine (T.f_is_word).ok sc_is_word (fun vs H Q E h => ?_) (fun cdv A outer s H vs Q E hr h => ?_)
  · obtain ⟨z, m, rfl, _⟩ := h
    rfl
  · obtain ⟨z, m, rfl, hz, k⟩ := h
    obtain ⟨tl, hL⟩ := T.vLETTERS
    refine ⟨_, PSs.nox (pss_one (ps_ret (pe_and (pe_callB call_isi (by rfl) T.f (by decide +kernel) (pa_cons (pv 0) (pa_cons (pe_bltn (v := .ty "str") (by rfl) T.f (by decide +kernel) rfl) pa_nil)))
      (pe_and (pe_cmpR op_le (pe_callB call_len_str (by rfl) T.f (by decide +kernel) (pa_cons (pv 0) pa_nil)) (pv 1) (nomark _))
      (pe_one (pe_callB (cr_all rfl) (by rfl) T.f (by decide +kernel) (pa_cons (pe_lc (own := [("letter", 2)]) (g := gName 2) (tt := tYes) rfl sc_is_word.nd (pi_str (pv 0)) (blkOk_by (N := N_is_word) (sc := defScope s_is_word) (by decide +kernel))
        (fun _ _ _ _ _ => pg_name (i := 2) sc_is_word.nd rfl (Or.inl rfl)) (fun _ _ _ _ _ => pts_nil) (fun _ _ _ _ _ => pe_cmpR op_in_sign (pv 2) (pe_glob (v := .str LET) (by rfl) hL ⟨_, rfl⟩) rfl)) pa_nil))))))), ?_⟩
    walk_at "rs"
    walk_at "rd"
    refine isi_str ?_
    walk_at "rd"
    refine ⟨szE hz, ?_⟩
    walk_at "rd"
    by_cases c : (z.length : Int) ≤ m
    · rw [if_pos (decide_eq_true c)]
      walk_at "rd"
      intro D hD
      refine lc_g walk_str (fun i acc S => acc = (((sg z).take i).map fun c => V.bl (decide (c ∈ sg LET)))) noZ noM hD (Same.refl H) rfl trivial (fun _ _ _ _ => trivial) (fun _ _ _ _ _ _ _ _ => trivial) ?_ ?_
      · rintro i x H2 H3 S acc hi g1 r _ e eS ⟨rfl, ch, hc, rfl⟩
        walk_at "rs"
        walk_at "rd"
        have hc2 : (sg z)[i]? = some ch := by rw [← hc]; exact Array.getElem?_toList
        have hl : acc.length < sizeLine := by
          rw [r, List.length_map, List.length_take]
          exact szL (Nat.le_trans (Nat.min_le_right ..) (by rw [sg_len]; exact hz))
        exact LcP.add hD (fun z => z) (fun _ _ _ _ => trivial) g1 e eS (Gm.rfl' g1.sub) hl (by rw [r]; exact (take_map hc2).symm) trivial
      · intro H2 S acc g1 r _ e eS
        have r2 : acc = ((sg z).map fun c => decide (c ∈ sg LET)).map V.bl := by
          rw [r, ← map_bl, List.take_of_length_le (show (sg z).length ≤ z.cps.size from Nat.le_of_eq (sg_len z))]
        refine ⟨D, _, rfl, .inl (.inl (by rw [e, r2])), ?_⟩
        have q : isWordB z m = ((sg z).map fun c => decide (c ∈ sg LET)).all id := by
          unfold isWordB lowS
          rw [bot_all, decide_eq_true c, Bool.true_and]
        rw [← q]
        exact k H2 (Gr.same g1)
    · have e : isWordB z m = false := by
        unfold isWordB
        rw [decide_eq_false c]
        rfl
      rw [if_neg (by rw [decide_eq_false c]; decide)]
      have kk := k H (Same.refl H)
      rw [e] at kk
      exact kk
def sc_nm : List V := [.str "", .str "both", .str "either"]
theorem ok_is_name (T : Txt K mg) (G : OkG P w K mg base CX0 1 "is_word" P_is_word sp_is_word) : OkG P w K mg base CX0 2 "is_name" P_is_name sp_is_name := by
  refine (T.f_is_name).ok sc_is_name (fun vs H Q E h => ?_) (fun cdv A outer s H vs Q E hr h => ?_)
  · obtain ⟨z, rfl, _⟩ := h
    rfl
  · obtain ⟨z, rfl, hz, k⟩ := h
    obtain ⟨ds, hd, hb⟩ := T.b_is_word2
    refine ⟨_, PSs.nox (pss_one (ps_ret (pe_and (pe_call G hr (by rfl) (T.g "is_word") (T.k "is_word") hb hd pass0 (pa_cons (pv 0) (pa_cons pe_int pa_nil)))
      (pe_one (pe_cmpR op_notIn_seq (pv 0) (pe_tup (pa_cons pe_str (pa_cons pe_str (pa_cons pe_str pa_nil)))) (by rfl)))))), ?_⟩
    walk_at "rs"
    walk_at "rd"
    refine ⟨hz, fun H1 s1 => ?_⟩
    walk_at "rd"
    cases c : isWordB z 8 with
    | false =>
      walk_at "rd"
      have e : nameOk z = false := by
        unfold nameOk
        rw [c]
        rfl
      rw [← e]
      exact k H1 s1
    | true =>
      walk_at "rd"
      refine ⟨by decide, fun p hp => ?_⟩
      refine ⟨p, _, rfl, .inr (sqt upd_same), rfl, rfl, ?_⟩
      have q : (if true = true then !inV (V.str z) [V.str "", V.str "both", V.str "either"] else inV (V.str z) [V.str "", V.str "both", V.str "either"]) = nameOk z := by
        unfold nameOk
        rw [c, if_pos rfl, Bool.true_and]
        exact congrArg not (inV_str z ["", "both", "either"])
      rw [q]
      exact k _ (upd0_ s1 hp)
end
end Lst

/-! ## LBag -/
namespace Lst
open PySem PySem.Spec PyProof.Rows L2
section
variable {P : Program} {w : World} {K : PySem.W.Frag} {mg : Str → Option Value} {base : Heap}
theorem ok_pull (T : Txt K mg) : OkG P w K mg base CX0 1 "_law_pull" P_l_pull sp_pull := by
  refine (T.f_l_pull).ok sc_l_pull (fun vs H Q E h => ?_) (fun cdv A outer s H vs Q E hr h => ?_)
  · obtain ⟨β, n, S, rfl, _⟩ := h
    rfl
  · obtain ⟨β, n, S, rfl, n0, n1, hS, hB, k⟩ := h
    refine ⟨_, PSs.nox (pss_cons (ps_asg (pe_op op_add (pe_ix (ix_listK (K := K) rfl) (pv 0) pe_int (fun _ _ => rfl)) pe_int) (pg_sub (pv 0) pe_int set_list))
        (C8.pss_cut (ps_if (PW.pt (pw_and (pt_cmpR op_eq (pe_ix (ix_listK (K := K) rfl) (pv 0) pe_int (fun _ _ => rfl)) pe_int (nomark _)) (pw_and1 (pt_cmpR op_lt (pe_ix (ix_listK (K := K) rfl) (pv 0) pe_int (fun _ _ => rfl)) (pe_callB (lenK (K := K) rfl) (by rfl) T.f (by decide +kernel) (pa_cons (pe_ix (ix_listK (K := K) rfl) (pv 0) pe_int (fun _ _ => rfl)) pa_nil)) (nomark _))))) (pss_cons (ps_asg (pe_tup (pa_cons (pe_ix (ix_listK (K := K) rfl) (pe_ix (ix_listK (K := K) rfl) (pv 0) pe_int (fun _ _ => rfl)) (pe_ix (ix_listK (K := K) rfl) (pv 0) pe_int (fun _ _ => rfl)) (fun _ _ => rfl)) (pa_cons (pe_op op_add (pe_ix (ix_listK (K := K) rfl) (pv 0) pe_int (fun _ _ => rfl)) pe_int) pa_nil))) (pg_tupK (K := K) (n := 2) rfl rfl (pgs_cons (pg_name (i := 2) sc_l_pull.nd rfl (Or.inl rfl)) (pgs_cons (pg_sub (pv 0) pe_int set_list) pgs_nil))))
        (C8.pss_cut (ps_if (pt_cmpR op_ge (pv 2) (pe_op op_pow pe_int pe_int) (nomark _)) (pss_one (ps_asg (pv 2) (pg_sub (pv 0) pe_int set_list))) pss_nil)
        (pss_one (ps_asg (pe_op op_mod (pe_callTy call_int1 (by rfl) T.f (by decide +kernel) (pa_cons (pe_op op_add (pe_op op_add (pe_op op_mul (pe_ix (ix_listK (K := K) rfl) (pv 0) pe_int (fun _ _ => rfl)) pe_int) (pe_op op_mul (pe_op op_mod (pe_callTy call_int1 (by rfl) T.f (by decide +kernel) (pa_cons (pv 2) pa_nil)) pe_int) pe_int)) pe_int) pa_nil)) pe_int) (pg_sub (pv 0) pe_int set_list))))) pss_nil)
        (pss_cons (ps_if (pt_cmpR op_gt (pe_ix (ix_listK (K := K) rfl) (pv 0) pe_int (fun _ _ => rfl)) pe_int (nomark _)) (pss_cons (ps_asg (pe_tup (pa_cons (pe_op op_mod (pe_callTy call_int1 (by rfl) T.f (by decide +kernel) (pa_cons (pe_ix (ix_listK (K := K) rfl) (pv 0) pe_int (fun _ _ => rfl)) pa_nil)) (pv 1)) (pa_cons (pe_op op_fdiv (pe_ix (ix_listK (K := K) rfl) (pv 0) pe_int (fun _ _ => rfl)) (pv 1)) pa_nil))) (pg_tupK (K := K) (n := 2) rfl rfl (pgs_cons (pg_name (i := 3) sc_l_pull.nd rfl (Or.inl rfl)) (pgs_cons (pg_sub (pv 0) pe_int set_list) pgs_nil))))
        (pss_one (ps_ret (pv 3)))) pss_nil)
        (pss_cons (ps_set (i := 4) sc_l_pull.nd rfl (Or.inl rfl) (pe_ix (ix_listK (K := K) rfl) (pv 0) pe_int (fun _ _ => rfl)))
        (pss_cons (ps_asg (pe_op op_mod (pe_callTy call_int1 (by rfl) T.f (by decide +kernel) (pa_cons (pe_op op_add (pe_op op_add (pe_op op_add (pe_op op_pow (pv 4) pe_int) (pe_op op_mul (pv 4) pe_int)) (pe_op op_mul (pe_ix (ix_listK (K := K) rfl) (pv 0) pe_int (fun _ _ => rfl)) pe_int)) pe_int) pa_nil)) pe_int) (pg_sub (pv 0) pe_int set_list))
        (pss_one (ps_ret (pe_op op_mod (pe_callTy call_int1 (by rfl) T.f (by decide +kernel) (pa_cons (pe_op op_add (pe_op op_fdiv (pe_ix (ix_listK (K := K) rfl) (pv 0) pe_int (fun _ _ => rfl)) pe_int) (pe_op op_mul (pe_op op_mod (pe_callTy call_int1 (by rfl) T.f (by decide +kernel) (pa_cons (pe_ix (ix_listK (K := K) rfl) (pv 0) pe_int (fun _ _ => rfl)) pa_nil)) pe_int) pe_int)) pa_nil)) (pv 1))))))))), ?_⟩
    walk_at "rs"
    obtain ⟨c, cells, i, big, seed, cnt, hb, hc, i0, i1, il, b0, s0, s1⟩ := hB.ex
    have oS := hB.out
    have g0 : Gm (one β) H S H S := Gm.rfl' hS
    have hcH : H c = some (.lst (cells.map V.int)) := hS _ _ hc
    have ncb : c ≠ β := fun z => by rw [z, oS] at hc; cases hc
    walk_at "rd"
    refine rd_ix hb rfl ?_
    walk_at "rd"
    refine ⟨β, _, _, 4, rfl, rfl, hb, rfl, ?_⟩
    generalize e1 : upd H β (HO.lst ([V.ref c, V.int i, V.int big, V.int seed, V.int cnt].set 4 (V.int (cnt + 1)))) = H1
    have g1 := g0.put e1.symm rfl oS
    have hb1 : H1 β = some (.lst [.ref c, .int i, .int big, .int seed, .int (cnt + 1)]) := at_put e1.symm
    clear e1
    refine ⟨fun σ H2 => ∃ (x : Option V) (i big seed cnt : Int), σ = [some (.ref β), some (.int n), x, none, none] ∧ Gm (one β) H S H2 S ∧ H2 β = some (.lst [.ref c, .int i, .int big, .int seed, .int cnt]) ∧ 0 ≤ i ∧ i ≤ cells.length ∧ 0 ≤ big ∧ 0 ≤ seed ∧ seed < 2147483549, ?_, ?_⟩
    · walk_at "rd"
      refine rd_ix hb1 rfl ?_
      walk_at "rd"
      by_cases cb : big = 0
      · subst cb
        rw [if_pos (decide_eq_true rfl)]
        walk_at "rd"
        refine rd_ix hb1 rfl ?_
        walk_at "rd"
        refine rd_ix hb1 rfl ?_
        walk_at "rd"
        refine ⟨_, _, rfl, .inl (sql (g1.sub _ _ hc)), ?_⟩
        walk_at "rd"
        by_cases ci : i < (cells.map V.int).length
        · rw [if_pos (decide_eq_true ci)]
          rw [List.length_map] at ci
          obtain ⟨cell, ec⟩ : ∃ cell, cells[i.toNat]? = some cell := ⟨_, List.getElem?_eq_getElem (by omega)⟩
          have ea : atI (cells.map V.int) i = some (.int cell) := by
            have q := atI_nat (xs := cells.map V.int) (j := i.toNat) (v := .int cell) (by rw [List.getElem?_map, ec]; rfl)
            rwa [Int.toNat_of_nonneg i0] at q
          walk_at "rd"
          refine rd_ix hb1 rfl ?_
          walk_at "rd"
          refine rd_ix hb1 rfl ?_
          refine rd_ix (g1.sub _ _ hc) ea ?_
          walk_at "rd"
          refine rd_ix hb1 rfl ?_
          walk_at "rd"
          refine ⟨by walk_at "sz", fun t ht => ?_⟩
          generalize e2 : upd H1 t (HO.tup [V.int cell, V.int (i + 1)]) = H2
          have g2 := g1.l0 e2 ht
          have hb2 := old_at e2 ht hb1
          have ht2 := new_at e2
          clear e2
          refine ⟨t, _, rfl, sqt ht2, rfl, ?_⟩
          walk_at "rd"
          refine ⟨β, _, _, 1, rfl, rfl, hb2, rfl, rfl, ?_⟩
          generalize e3 : upd H2 β (HO.lst ([V.ref c, V.int i, V.int 0, V.int seed, V.int (cnt + 1)].set 1 (V.int (i + 1)))) = H3
          have g3 := g2.put e3.symm rfl oS
          have hb3 : H3 β = some (.lst [.ref c, .int (i + 1), .int 0, .int seed, .int (cnt + 1)]) := at_put e3.symm
          clear e3
          refine ⟨fun σ H4 => ∃ (big : Int), σ = [some (.ref β), some (.int n), some (.int cell), none, none] ∧ Gm (one β) H S H4 S ∧ H4 β = some (.lst [.ref c, .int (i + 1), .int big, .int seed, .int (cnt + 1)]) ∧ 0 ≤ big, ?_, ?_⟩
          · walk_at "rd"
            refine ⟨⟨by decide, by decide, by decide⟩, ?_⟩
            walk_at "rd"
            rw [pw18]
            by_cases cc : (1000000000000000000 : Int) ≤ cell
            · rw [if_pos (decide_eq_true cc)]
              walk_at "rd"
              refine ⟨β, _, _, 2, rfl, rfl, hb3, rfl, ?_⟩
              generalize e4 : upd H3 β (HO.lst ([V.ref c, V.int (i + 1), V.int 0, V.int seed, V.int (cnt + 1)].set 2 (V.int cell))) = H4
              exact ⟨cell, rfl, g3.put e4.symm rfl oS, at_put e4.symm, by omega⟩
            · rw [if_neg (by rw [decide_eq_false cc]; decide)]
              exact ⟨0, rfl, g3, hb3, Int.le_refl 0⟩
          · rintro σ H4 ⟨big, rfl, g4, hb4, b4⟩
            walk_at "rd"
            refine rd_ix hb4 rfl ?_
            walk_at "rd"
            refine ⟨β, _, _, 3, rfl, rfl, hb4, rfl, ?_⟩
            generalize hx : (seed * 39217 + cell % 2147483353 * 41231 + 71) = x
            generalize e5 : upd H4 β (HO.lst ([V.ref c, V.int (i + 1), V.int big, V.int seed, V.int (cnt + 1)].set 3 (V.int (x % 2147483549)))) = H5
            exact ⟨some (.int cell), i + 1, big, x % 2147483549, cnt + 1, rfl, g4.put e5.symm rfl oS, at_put e5.symm, by omega, by omega, b4, Int.emod_nonneg _ (by decide), Int.emod_lt_of_pos _ (by decide)⟩
        · rw [if_neg (by rw [decide_eq_false ci]; decide)]
          exact ⟨none, i, 0, seed, cnt + 1, rfl, g1, hb1, i0, i1, Int.le_refl 0, s0, s1⟩
      · rw [if_neg (by rw [decide_eq_false (fun z => cb (V.int.inj z))]; decide)]
        walk_at "rd"
        exact ⟨none, i, big, seed, cnt + 1, rfl, g1, hb1, i0, i1, b0, s0, s1⟩
    · rintro σ H2 ⟨x, i, big, seed, cnt, rfl, g2, hb2, i0, i1, b0, s0, s1⟩
      have fin : ∀ (H3 : Hp) (big seed : Int), Gm (one β) H S H3 S → H3 β = some (.lst [.ref c, .int i, .int big, .int seed, .int cnt]) → 0 ≤ big → 0 ≤ seed → seed < 2147483549 → ∀ d : Int, 0 ≤ d → d < n → Q (.int d) H3 := fun H3 big seed g3 hb3 b3 s3 s4 d d0 d1 =>
        k H3 S g3 ⟨⟨c, cells, i, big, seed, cnt, hb3, hc, i0, i1, il, b3, s3, s4⟩, oS⟩ d d0 d1
      walk_at "rd"
      refine rd_ix hb2 rfl ?_
      walk_at "rd"
      by_cases cb : 0 < big
      · rw [if_pos (decide_eq_true cb)]
        walk_at "rd"
        refine rd_ix hb2 rfl ?_
        walk_at "rd"
        refine ⟨n0, ?_⟩
        walk_at "rd"
        refine rd_ix hb2 rfl ?_
        walk_at "rd"
        refine ⟨⟨n0, by omega⟩, by walk_at "sz", fun t ht => ?_⟩
        generalize e3 : upd H2 t (HO.tup [V.int (big % n), V.int (big / n)]) = H3
        have g3 := g2.l0 e3 ht
        have hb3 := old_at e3 ht hb2
        have ht3 := new_at e3
        clear e3
        refine ⟨t, _, rfl, sqt ht3, rfl, ?_⟩
        walk_at "rd"
        refine ⟨β, _, _, 2, rfl, rfl, hb3, rfl, rfl, ?_⟩
        generalize e4 : upd H3 β (HO.lst ([V.ref c, V.int i, V.int big, V.int seed, V.int cnt].set 2 (V.int (big / n)))) = H4
        have g4 := g3.put e4.symm rfl oS
        have hb4 : H4 β = some (.lst [.ref c, .int i, .int (big / n), .int seed, .int cnt]) := at_put e4.symm
        walk_at "rd"
        exact fin H4 _ _ g4 hb4 (Int.ediv_nonneg (by omega) (by omega)) s0 s1 _ (Int.emod_nonneg _ (by omega)) (Int.emod_lt_of_pos _ n0)
      · rw [if_neg (by rw [decide_eq_false cb]; decide)]
        walk_at "rd"
        refine rd_ix hb2 rfl ?_
        walk_at "rd"
        refine ⟨⟨by decide, by decide, by omega⟩, ?_⟩
        walk_at "rd"
        refine rd_ix hb2 rfl ?_
        walk_at "rd"
        refine ⟨β, _, _, 3, rfl, rfl, hb2, rfl, ?_⟩
        generalize hx : (seed ^ (3 : Int).toNat + seed * 36979 + cnt * 1299827 + 50021) = y
        generalize e3 : upd H2 β (HO.lst ([V.ref c, V.int i, V.int big, V.int seed, V.int cnt].set 3 (V.int (y % 2147483549)))) = H3
        have g3 := g2.put e3.symm rfl oS
        have hb3 : H3 β = some (.lst [.ref c, .int i, .int big, .int (y % 2147483549), .int cnt]) := at_put e3.symm
        walk_at "rd"
        refine rd_ix hb3 rfl ?_
        walk_at "rd"
        refine ⟨⟨by decide, by decide⟩, ?_⟩
        walk_at "rd"
        refine rd_ix hb3 rfl ?_
        walk_at "rd"
        refine ⟨n0, ?_⟩
        exact fin H3 _ _ g3 hb3 b0 (Int.emod_nonneg _ (by decide)) (Int.emod_lt_of_pos _ (by decide)) _ (Int.emod_nonneg _ (by omega)) (Int.emod_lt_of_pos _ n0)
end
end Lst

/-! ## LBag2 -/
namespace Lst
open PySem PySem.Spec PyProof.Rows L2
section
variable {P : Program} {w : World} {K : PySem.W.Frag} {mg : Str → Option Value} {base : Heap}
theorem ok_any (T : Txt K mg) (G_l_pull : OkG P w K mg base CX0 1 "_law_pull" P_l_pull sp_pull) : OkG P w K mg base CX0 2 "_law_any" P_l_any sp_any := by
  refine (T.f_l_any).ok sc_l_any (fun vs H Q E h => ?_) (fun cdv A outer s H vs Q E hr h => ?_)
  · obtain ⟨β, v, S, rfl, _⟩ := h
    rfl
  · obtain ⟨β, v, S, rfl, h⟩ := h
    refine ⟨_, PSs.nox (pss_one (ps_ret (pe_ix ix_seq (pv 1) (pe_call G_l_pull (hr.mono (by decide)) (by rfl) (T.g "_law_pull") (T.k "_law_pull") T.b_l_pull .nil pass0 (pa_cons (pv 0) (pa_cons (pe_callB call_len (by rfl) T.f (by decide +kernel) (pa_cons (pv 1) pa_nil)) pa_nil))) (fun _ _ => rfl)))), ?_⟩
    walk_at "rs"
    walk_at "rd"
    rcases h with ⟨r, xs, rfl, hr1, hx0, hx1, hS, hB, k⟩ | ⟨z, rfl, hz0, hz1, hS, hB, k⟩
    · refine ⟨_, xs.length, rfl, .inl ⟨xs, sql (hS _ _ hr1), rfl⟩, ?_⟩
      refine ⟨β, _, S, rfl, by omega, by omega, hS, hB, fun H1 S1 g1 b1 d d0 d1 => ?_⟩
      have e : d.toNat < xs.length := by omega
      have ea : atI xs d = some xs[d.toNat] := by
        have q := atI_nat (xs := xs) (j := d.toNat) (v := xs[d.toNat]) (List.getElem?_eq_getElem e)
        rwa [Int.toNat_of_nonneg d0] at q
      exact .inl (rd_ix (g1.sub _ _ (g1.mono _ _ hr1)) ea (k H1 S1 g1 b1 _ (List.getElem_mem e)))
    · refine ⟨_, z.length, rfl, ⟨szE (by omega), rfl⟩, ?_⟩
      refine ⟨β, _, S, rfl, by omega, by omega, hS, hB, fun H1 S1 g1 b1 d d0 d1 => ?_⟩
      have e : d.toNat < (sg z).length := by rw [sg_len]; omega
      have ea : atI (sg z) d = some (sg z)[d.toNat] := by
        have q := atI_nat (xs := sg z) (j := d.toNat) (v := (sg z)[d.toNat]) (List.getElem?_eq_getElem e)
        rwa [Int.toNat_of_nonneg d0] at q
      exact .inr (.inr ⟨z, d, _, rfl, rfl, szE (by omega), ea, k H1 S1 g1 b1 _ (List.getElem_mem e)⟩)
theorem ok_word (T : Txt K mg) (G_l_pull : OkG P w K mg base CX0 1 "_law_pull" P_l_pull sp_pull) (G_l_any : OkG P w K mg base CX0 2 "_law_any" P_l_any sp_any) : OkG P w K mg base CX0 3 "_law_word" P_l_word sp_word := by
  refine (T.f_l_word).ok sc_l_word (fun vs H Q E h => ?_) (fun cdv A outer s H vs Q E hr h => ?_)
  · obtain ⟨β, al, lo, hi, S, rfl, _⟩ := h
    rfl
  · obtain ⟨β, al, lo, hi, S, rfl, l0, l1, l2, a0, a1, hS, hB, k⟩ := h
    refine ⟨_, PSs.nox (pss_one (ps_ret (joinK (K := K) rfl pe_str (pe_lc (own := [("_law_k", 4)]) (g := (gName 4)) (tt := tYes) rfl sc_l_word.nd (pi_range1 (by rfl) T.f (pa_cons (pe_op op_add (pv 2) (pe_call G_l_pull (hr.mono (by first | decide | omega)) (by rfl) (T.g "_law_pull") (T.k "_law_pull") T.b_l_pull .nil pass0 (pa_cons (pv 0) (pa_cons (pe_op op_add (pe_op op_sub (pv 3) (pv 2)) pe_int) pa_nil)))) pa_nil)) (by first | exact blkOk_by (N := N_l_word) (sc := defScope s_l_word) (by decide +kernel) | exact blkOk_by (N := N_l_word) (sc := { kind := .function, names := [], isGenerator := false, isCoroutine := false }) (by decide +kernel)) (fun _ _ _ _ _ => (pg_name (i := 4) sc_l_word.nd rfl (Or.inl rfl))) (fun _ _ _ _ _ => pts_nil) (fun _ _ _ _ _ => (pe_call G_l_any (hr.mono (by first | decide | omega)) (by rfl) (T.g "_law_any") (T.k "_law_any") T.b_l_any .nil pass0 (pa_cons (pv 0) (pa_cons (pv 1) pa_nil)))))))), ?_⟩
    walk_at "rs"
    refine ⟨⟨_, rfl⟩, ?_⟩
    walk_at "rd"
    refine ⟨β, _, S, rfl, by omega, by omega, hS, hB, fun H1 S1 g1 b1 d d0 d1 => ?_⟩
    walk_at "rd"
    refine ⟨by omega, by omega, fun D hD => ?_⟩
    have nDβ : β ≠ D := fun z => b1.live (by rw [z]; exact hD)
    refine lc_g walk_range (fun i acc S => ∃ cs : List Nat, acc = (cs.map s1).map V.str ∧ cs.length = i ∧ ∀ c ∈ cs, c ∈ sg al) (fun S H => BagAt S H β) (one β) hD g1.sub ⟨[], rfl, rfl, fun _ z => nomatch z⟩ b1 (fun S H o z => z.updO nDβ) (fun _ _ _ _ _ _ _ _ => trivial) ?_ ?_
    · rintro i x H2 H3 S2 acc hi2 g2 ⟨cs, ea, el, ec⟩ b2 e eS ⟨rfl, rfl⟩
      walk_at "rs"
      walk_at "rd"
      refine ⟨β, _, S2, rfl, .inr ⟨al, rfl, a0, by omega, g2.sub, b2, fun H4 S4 g4 b4 c hc => ?_⟩⟩
      exact LcP.add hD (fun z => nDβ z.symm) (fun S H o z => z.updO nDβ) g2 e eS g4 (szL (by rw [ea, List.length_map, List.length_map, el]; omega)) ⟨cs ++ [c], by rw [ea, List.map_append, List.map_append]; rfl, by rw [List.length_append, el]; rfl, fun y hy => (List.mem_append.mp hy).elim (ec y) fun z => by rw [List.mem_singleton.mp z]; exact hc⟩ b4
    · rintro H2 S2 acc g2 ⟨cs, ea, el, ec⟩ b2 e eS
      have hle : (cs.length : Int) = lo + d := by rw [el]; omega
      refine ⟨"", D, cs.map s1, rfl, rfl, .inl (sql (by rw [e, ea])), by rw [sum_ones, List.length_map]; show cs.length + cs.length * 0 ≤ 16777216; omega, ?_⟩
      have ej : sg (Txt.join "" (cs.map s1)) = cs := join_ones cs
      have el2 : (Txt.join "" (cs.map s1)).length = cs.length := by rw [← sg_len, ej]
      exact k H2 S2 (g1.trans g2) b2 _ (by rw [el2]; omega) (by rw [el2]; omega) (by rw [ej]; exact ec)
theorem ok_words (T : Txt K mg) (G_l_pull : OkG P w K mg base CX0 1 "_law_pull" P_l_pull sp_pull) (G_l_word : OkG P w K mg base CX0 3 "_law_word" P_l_word sp_word) : OkG P w K mg base CX0 4 "_law_words" P_l_words sp_words := by
  refine (T.f_l_words).ok sc_l_words (fun vs H Q E h => ?_) (fun cdv A outer s H vs Q E hr h => ?_)
  · obtain ⟨β, al, S, rfl, _⟩ := h
    rfl
  · obtain ⟨β, al, S, rfl, a0, a1, hS, hB, k⟩ := h
    refine ⟨_, PSs.nox (pss_one (ps_ret (pe_lc (own := [("_law_k", 3)]) (g := (gName 3)) (tt := tYes) rfl sc_l_words.nd (pi_range1 (by rfl) T.f (pa_cons (pe_op op_add pe_int (pe_call G_l_pull (hr.mono (by first | decide | omega)) (by rfl) (T.g "_law_pull") (T.k "_law_pull") T.b_l_pull .nil pass0 (pa_cons (pv 0) (pa_cons pe_int pa_nil)))) pa_nil)) (by first | exact blkOk_by (N := N_l_words) (sc := defScope s_l_words) (by decide +kernel) | exact blkOk_by (N := N_l_words) (sc := { kind := .function, names := [], isGenerator := false, isCoroutine := false }) (by decide +kernel)) (fun _ _ _ _ _ => (pg_name (i := 3) sc_l_words.nd rfl (Or.inl rfl))) (fun _ _ _ _ _ => pts_nil) (fun _ _ _ _ _ => (pe_call G_l_word (hr.mono (by first | decide | omega)) (by rfl) (T.g "_law_word") (T.k "_law_word") T.b_l_word .nil pass0 (pa_cons (pv 0) (pa_cons (pv 1) (pa_cons pe_int (pa_cons (pv 2) pa_nil))))))))), ?_⟩
    walk_at "rs"
    walk_at "rd"
    refine ⟨β, _, S, rfl, by omega, by omega, hS, hB, fun H1 S1 g1 b1 d d0 d1 => ?_⟩
    walk_at "rd"
    refine ⟨by omega, by omega, fun D hD => ?_⟩
    have nDβ : β ≠ D := fun z => b1.live (by rw [z]; exact hD)
    refine lc_g walk_range (fun i acc S => ∃ ws : List Str, acc = ws.map V.str ∧ ws.length = i ∧ ∀ x ∈ ws, wordIn al x) (fun S H => BagAt S H β) (one β) hD g1.sub ⟨[], rfl, rfl, fun _ z => nomatch z⟩ b1 (fun S H o z => z.updO nDβ) (fun _ _ _ _ _ _ _ _ => trivial) ?_ ?_
    · rintro i x H2 H3 S2 acc hi2 g2 ⟨ws, ea, el, ec⟩ b2 e eS ⟨rfl, rfl⟩
      walk_at "rs"
      walk_at "rd"
      refine ⟨β, al, 1, 2, S2, rfl, by omega, by omega, by omega, a0, a1, g2.sub, b2, fun H4 S4 g4 b4 y y0 y1 y2 => ?_⟩
      exact LcP.add hD (fun z => nDβ z.symm) (fun S H o z => z.updO nDβ) g2 e eS g4 (szL (by rw [ea, List.length_map, el]; omega)) ⟨ws ++ [y], by rw [ea, List.map_append]; rfl, by rw [List.length_append, el]; rfl, fun u hy => (List.mem_append.mp hy).elim (ec u) fun z => by rw [List.mem_singleton.mp z]; exact ⟨by omega, by omega, y2⟩⟩ b4
    · rintro H2 S2 acc g2 ⟨ws, ea, el, ec⟩ b2 e eS
      have n1 : H1 D = none := hD
      have g3 := (g1.trans g2).freeze e (g1.free hD) eS
      refine k H2 _ g3 ?_ D ws (by rw [upd_same, ea]) (by omega) (by omega) ec
      obtain ⟨c, cells, i, big, seed, cnt, h, h2, r⟩ := id b2.ex
      exact ⟨⟨c, cells, i, big, seed, cnt, h, by rw [upd_ne (ne_of_none h2 eS)]; exact h2, r⟩, by rw [upd_ne nDβ]; exact b2.out⟩
end
end Lst

/-! ## LAll -/
namespace Lst
open PySem PySem.Spec PyProof.Rows L2
section
variable {P : Program} {w : World} {K : PySem.W.Frag} {mg : Str → Option Value} {base : Heap}
/-- the law's def keeps its promise -/
theorem ok_law (T : Txt K mg) (T2 : Txt2 K P mg) (T3 : Txt3 K) (T4 : Txt4 K w mg) (T5 : Txt5 K) (B : BusyP K) (TB : LamX.TabB base mg (He.cT K ("law", none)).1 (He.cT K ("law", none)).2) :
    FnOk P w K mg base CX0 17 (He.ga K "law") (fdA K (He.ga K "law")) ["_law_script"] (sp_law K (He.cT K ("law", none)).2) := by
  have is_word := ok_is_word (P := P) (w := w) (base := base) T
  have is_name := ok_is_name T is_word
  have pull := ok_pull (P := P) (w := w) (base := base) T
  have any := ok_any T pull
  have word := ok_word T pull any
  have words := ok_words T pull word
  have leaf := ok_leaf T pull any words
  have tree := ok_tree T pull any word leaf
  have mixed := ok_mixed T pull
  have alphabet := ok_alphabet T pull any
  have draws := ok_draws (P := P) (w := w) (base := base) T
  have lnames := ok_lnames T pull any mixed
  have tokens := ok_tokens (P := P) (w := w) (base := base) T 5
  have uses := ok_uses T 5 tokens
  have ren0 := ok_renamed0 (P := P) (w := w) (base := base) T
  have ren5 := ok_renamedS T 4 (ok_renamedS T 3 (ok_renamedS T 2 (ok_renamedS T 1 (ok_renamedS T 0 ren0))))
  have done := ok_done T ren5
  have astext := ok_astext T tokens
  have command := ok_command T pull any tree uses
  have wtok := ok_wtokens (P := P) (w := w) (base := base) T
  have wnam := ok_wnames T is_name
  have GFt : ∀ cn ∈ WC, ∃ f, Cls K (He.ga K cn) ∧ Meth K (He.ga K cn) "tokens" f ∧ FnR P w K mg base CX0 1 f (sp_wtokens K) := fun cn hcn => ⟨_, T.cW hcn, T2.tok cn hcn, Lst.FnOk.raw0 wtok T.b_Wish_tokens⟩
  have GFn : ∀ cn ∈ WC, ∃ f, Cls K (He.ga K cn) ∧ Meth K (He.ga K cn) "names" f ∧ FnR P w K mg base CX0 3 f (sp_wnames K) := fun cn hcn => ⟨_, T.cW hcn, T2.nam cn hcn, Lst.FnOk.raw0 wnam T.b_Wish_names⟩
  have GF := ok_needed (w := w) (base := base) T T2 5
  have winit := ok_Winit (P := P) (w := w) (base := base) T
  have both := ok_both (w := w) (base := base) T T2 winit
  have either := ok_either (w := w) (base := base) T T2 winit
  have named := ok_named (w := w) (base := base) T T2 winit is_name
  have behind := ok_behind (w := w) (base := base) T T2 winit is_word
  have GN := ok_wdinit (w := w) (base := base) T T2 true winit is_word
  have GB := ok_wdinit (w := w) (base := base) T T2 false winit is_word
  have wtoken := ok_wtok T T2 GN GB behind is_word
  have tread := ok_tread T T2 wtoken both either named is_name
  have read := ok_read T tread
  have lib_names := ok_Lnames (P := P) (w := w) (base := base) T
  have known := ok_Lknown T is_name
  have wish_of := ok_Lwish T known
  have users := ok_Lusers T GFn known
  have touched := ok_Ltouched T GFn known
  have checked := ok_Lchecked T read GF GFn
  have letgo := ok_Lletgo (P := P) (w := w) (base := base) T
  have moved := ok_Lmoved T is_name read GFt
  have missing := ok_Missing (P := P) (w := w) (base := base) T T3
  have unknown := ok_Unknown (P := P) (w := w) (base := base) T T3 (Lst.FnOk.raw0 missing T.b_Missing_init)
  have nothing := ok_Nothing (P := P) (w := w) (base := base) T T3 (Lst.FnOk.raw0 missing T.b_Missing_init)
  have knownX := ok_LknownX T T3 is_name (Lst.FnOk.raw0 unknown T.b_UnknownName_init)
  have undo := ok_Lundo (P := P) (w := w) (base := base) T T3 (Lst.FnOk.raw0 nothing T.b_NothingLeft_init)
  have redo := ok_Lredo (P := P) (w := w) (base := base) T T3 (Lst.FnOk.raw0 nothing T.b_NothingLeft_init)
  have ldone := ok_Ldone T is_name checked knownX touched users letgo moved
  have iscmd := ok_iscmd (P := P) (base := base) T T4
  have apply := ok_Lapply T iscmd ldone
  have hist := ok_Lhist (P := P) (w := w) (base := base) T
  have busy := ok_Lbusy (P := P) (w := w) (mg := mg) (base := base) T B.fb
  have len := ok_Llen (P := P) (w := w) (base := base) T
  have has := ok_Lhas T is_name
  have get := ok_Lget T is_name
  have repr := ok_Lrepr (P := P) (w := w) (base := base) T
  have isnum := ok_isnum (P := P) (w := w) (base := base) T
  have isalp := ok_isalp T is_word
  have linit := ok_Linit T isalp isnum
  have like := ok_like (P := P) (w := w) (base := base) T
  have shows := ok_shows T T5 like tokens uses GFt lib_names wish_of users len repr get has
  obtain ⟨oc, od, dV, kV, doc, pm, an, cdv, ct, osl, efd, lk, hcd, hD, _⟩ := (T.f_law).ex
  obtain rfl : dV = .none := hD.elim (fun z => z.2) fun z => absurd rfl z.1
  have efd' : fdA K (He.ga K "law") = _ := efd
  rw [efd']
  rw [efd] at lk
  obtain ⟨c, rfl⟩ := He.codeIn_ref hcd
  have ec : (He.cT K ("law", none)).1 = c := He.codeOf_eq lk rfl
  rw [ec] at TB
  refine fn_of lk hcd sc_law (fun vs H Q E h => ?_) (fun A outer s H vs Q E hr h => ?_)
  · obtain ⟨a, ns, rfl, _⟩ := h
    rfl
  · obtain ⟨a, ns, rfl, hl, hP, hs, k⟩ := h
    have p2 := law_past (P := P) (w := w) (base := base) (f := He.ga K "law") (cA := c) (Pt := (He.cT K ("law", none)).2) (A := A) (outer := outer) (s := s) (H0 := H) (E := E) T T5 TB like undo hr
    have p3 := law_gone (P := P) (w := w) (base := base) (f := He.ga K "law") (cA := c) (Pt := (He.cT K ("law", none)).2) (A := A) (outer := outer) (s := s) (H0 := H) (E := E) T T5 TB like redo hr
    have p4 := law_last (P := P) (w := w) (base := base) (f := He.ga K "law") (cA := c) (Pt := (He.cT K ("law", none)).2) (A := A) (outer := outer) (s := s) (H0 := H) (E := E) T B like shows hist busy hr
    have e4 := law_e4 (P := P) (w := w) (base := base) (f := He.ga K "law") (cA := c) (Pt := (He.cT K ("law", none)).2) (A := A) (outer := outer) (s := s) (H0 := H) (E := E) T T5 TB like apply hr
    have e3 := law_e3 (P := P) (w := w) (base := base) (f := He.ga K "law") (cA := c) (Pt := (He.cT K ("law", none)).2) (A := A) (outer := outer) (s := s) (H0 := H) (E := E) T redo hr e4
    have e2 := law_e2 (P := P) (w := w) (base := base) (f := He.ga K "law") (cA := c) (Pt := (He.cT K ("law", none)).2) (A := A) (outer := outer) (s := s) (H0 := H) (E := E) T undo hr e3
    have e1 := law_e1 (P := P) (w := w) (base := base) (f := He.ga K "law") (cA := c) (Pt := (He.cT K ("law", none)).2) (A := A) (outer := outer) (s := s) (H0 := H) (E := E) T command done astext apply hr e2
    have e0 := law_way (P := P) (w := w) (base := base) (f := He.ga K "law") (cA := c) (Pt := (He.cT K ("law", none)).2) (A := A) (outer := outer) (s := s) (H0 := H) (E := E) T pull hr
    have deed := law_deed e0 e1 p2 p3 p4
    have turn := law_turn (P := P) (w := w) (base := base) (f := He.ga K "law") (cA := c) (Pt := (He.cT K ("law", none)).2) (A := A) (outer := outer) (s := s) (H0 := H) (E := E) T alphabet lnames linit hr deed
    obtain ⟨t, ht, kt⟩ := law_all (P := P) (w := w) (base := base) (f := He.ga K "law") (cA := c) (Pt := (He.cT K ("law", none)).2) (A := A) (outer := outer) (s := s) (H0 := H) (E := E) T draws hr turn
    exact ⟨t, PSs.nox ht, kt a ns H Q hl hP hs k⟩
end
end Lst

/-! ## LFacts -/
namespace Lst
open PySem PySem.Spec PyProof.Rows L2
/-! ### from the Hook to the facts -/
section
variable {K : PySem.W.Frag} {w : World} {h : Heap} {mg : Str → Option Value}
theorem ex_at (c : exL K = true) (i : Nat) {b : Bool} (e : (exs K)[i]? = some b) : b = true := List.all_eq_true.mp c b (List.mem_of_getElem? e)
theorem methTo_ok {cn m D : Str} (c : methTo K cn m D = true) : Meth K (He.ga K cn) m (He.ma K (He.ga K D) m) := by
  obtain ⟨c1, c⟩ := He.ba c
  obtain ⟨c2, c3⟩ := He.ba c
  exact ⟨He.eqO_ok c1, c2, c3⟩
theorem mkTo_ok {cn D : Str} (c : mkTo K cn D = true) : Mk K (He.ga K cn) (He.ma K (He.ga K D) "__init__") := by
  obtain ⟨c1, c⟩ := He.ba c
  obtain ⟨c2, c⟩ := He.ba c
  obtain ⟨c3, c4⟩ := He.ba c
  exact ⟨c1, He.eqO_ok c2, c3, c4⟩
theorem supB_ok {C D f2 : Addr} {m : Str} (c : supB K C D m f2 = true) : SupM K C D m f2 := by
  obtain ⟨c1, c⟩ := He.ba c
  obtain ⟨c2, c⟩ := He.ba c
  obtain ⟨c3, c⟩ := He.ba c
  obtain ⟨c4, c⟩ := He.ba c
  obtain ⟨c5, c⟩ := He.ba c
  obtain ⟨c6, c7⟩ := He.ba c
  exact ⟨c1, c2, of_decide_eq_true c3, He.eqO_ok c4, of_decide_eq_true c5, c6, He.eqO_ok c7⟩
theorem noV_ok {v : Value} (c : noV v = true) : v = .none := by
  cases v with
  | none => rfl
  | _ => cases c
theorem fc_ok {q : He.DefD × Str} (e : fnC K q.1.at_ = fnCv q.1) (c : fnCok K q = true) : FC K q.1 q.2 := by
  obtain ⟨kp, c2⟩ := He.ba (show (PySem.W.keepIn K (.ref (He.fAd K q.1.at_)) && _) = true from c)
  unfold fnC at e
  cases z : K.lookup (He.fAd K q.1.at_) with
  | none =>
    rw [z] at c2
    cases c2
  | some o =>
    obtain ⟨oc, od, dt, osl⟩ := o
    rw [z] at c2 e
    cases dt with
    | func fd =>
      have hA := fdA_of z
      obtain ⟨n1, n2, n3, n4, n5, n6, n7, n8, n9, n10, n11, n12, n13, n14, n15⟩ := fd
      have e2 : (some (n1, n2, n3, n4, n5, n6, n7.map (·.1), n15) : FnC) = some (q.1.name, q.1.qual, q.1.params, FuncBody.stmts q.1.body, q.1.scope, mainGlobals, (["__class__"] : List Str), builtinsNs) := e
      simp only [Option.some.injEq, Prod.mk.injEq] at e2
      obtain ⟨h1, h2, h3, h4, h5, h6, h7, h8⟩ := e2
      subst h1 h2 h3 h4 h5 h6 h8
      obtain ⟨k1, k2⟩ := He.ba (show (PySem.W.codeIn K n13 q.1.qual && _) = true from c2)
      obtain ⟨k3, k4⟩ := He.ba k2
      have hn : n8 = .none := noV_ok k3
      subst hn
      cases n7 with
      | nil =>
        have z1 := congrArg List.length h7
        cases z1
      | cons y ys =>
        cases ys with
        | cons y2 ys2 =>
          have z1 := congrArg List.length h7
          cases z1
        | nil =>
          obtain ⟨y1, cc⟩ := y
          have hy : y1 = "__class__" := (List.cons.inj h7).1
          subst hy
          refine ⟨⟨oc, od, n9, n10, n11, n12, n13, n14, osl, cc, ?_, ?_, k1, k4⟩, kp⟩
          · exact hA
          · rw [hA]
            exact z
    | _ => cases c2
theorem fs_ok {P : Program} {q : He.DefD × Str} (F : FC K q.1 q.2) (c : rcB K P q.1 = true) (ht : (P.main.scope.names.lookup ("super" : Str)).isSome = false) : ∃ c, FunS K P q.1 (He.ga K q.2) (He.fAd K q.1.at_) c := by
  obtain ⟨oc, od, kV, doc, pm, an, cdv, ct, osl, cc, e1, e2, e3, e4⟩ := F.ex
  rw [e1] at e2
  unfold rcB at c
  rw [e2] at c
  obtain ⟨c0, hc0⟩ := He.codeIn_ref e3
  subst hc0
  have c2 : (match K.lookup c0 with
      | some ⟨_, _, .fields vs, _⟩ => (match (vs[2]? : Option Value) with
        | some (.str file _) => (P.main.file : Str) == file
        | _ => false)
      | _ => false) = true := c
  cases z : K.lookup c0 with
  | none =>
    rw [z] at c2
    cases c2
  | some o =>
    obtain ⟨ccl, cdd, dt, ccs⟩ := o
    rw [z] at c2
    cases dt with
    | fields vs =>
      have c3 : (match (vs[2]? : Option Value) with
        | some (.str file _) => (P.main.file : Str) == file
        | _ => false) = true := c2
      cases y : (vs[2]? : Option Value) with
      | none =>
        rw [y] at c3
        cases c3
      | some v =>
        rw [y] at c3
        cases v with
        | str file tf => exact ⟨c0, ⟨oc, od, kV, doc, pm, an, ct, osl, cc, e2, e3, e4⟩, ⟨ccl, cdd, vs, ccs, file, tf, z, y, c3⟩, ht⟩
        | _ => cases c3
    | _ => cases c2
theorem lexB_ok {C : Addr} (c : lexB K C = true) : LexC K C := by
  obtain ⟨c1, c⟩ := He.ba c
  obtain ⟨c2, c⟩ := He.ba c
  obtain ⟨c3, c⟩ := He.ba c
  obtain ⟨c4, c⟩ := He.ba c
  obtain ⟨c5, c6⟩ := He.ba c
  refine ⟨?_, c2, He.eqO_ok c3, of_decide_eq_true c4, of_decide_eq_true c5, c6⟩
  unfold lexInB at c1
  split at c1
  · rename_i t dd cd sl ho
    split at c1
    · rename_i C' bm k0 k1 k2 k3 n k5 hm hs
      obtain ⟨q1, q⟩ := He.ba c1
      obtain ⟨q2, q⟩ := He.ba q
      obtain ⟨q3, q⟩ := He.ba q
      obtain ⟨q4, q⟩ := He.ba q
      obtain ⟨q5, q6⟩ := He.ba q
      have r1 := of_decide_eq_true q1
      have r2 := of_decide_eq_true q2
      have r3 := of_decide_eq_true q3
      subst r1 r2 r3
      obtain ⟨nm, bs, mro, ns, qn, hd, sn, sub, ab, col, del⟩ := cd
      have hdel : del = false := by
        cases del with
        | false => rfl
        | true => cases q4
      have hhd : hd = true := q5
      have hm' : mro = .ref C' :: bm := hm
      subst hdel hhd hm'
      have hsl : sl = #[k0, k1, k2, k3, some (.builtin "LookupError.__new__"), k5] := by
        obtain ⟨l⟩ := sl
        simp only at hs
        rw [hs]
      subst hsl
      exact ⟨nm, qn, ns, bs, bm, sn, sub, ab, col, dd, k0, k1, k2, k3, k5, ho, q6⟩
    · cases c1
  · cases c1
theorem valB_ok {C : Value} {m : Str} {v : Value} (c : valB K C m v = true) : PySem.W.findCls K C (.type "type") m = some (.val v) := by
  unfold valB at c
  split at c
  · rename_i u e
    rw [e, of_decide_eq_true c]
  · cases c
theorem recB_ok {p g : Addr} (c : recB K p g = true) : ∃ rest, PySem.W.recIn K p "property" = some (.ref g :: rest) := by
  unfold recB at c
  split at c
  · rename_i g' rest e
    exact ⟨rest, by rw [e, of_decide_eq_true c]⟩
  · cases c
theorem busy_ok (e : fnWb K = d_Library_busy.val) (c : busyB K = true) : FPb K := by
  obtain ⟨kp, c2⟩ := He.ba (show (PySem.W.keepIn K (.ref (busyA K)) && _) = true from c)
  unfold fnWb at e
  cases z : K.lookup (busyA K) with
  | none =>
    rw [z] at c2
    cases c2
  | some o =>
    obtain ⟨oc, od, dt, osl⟩ := o
    rw [z] at c2 e
    cases dt with
    | func fd =>
      have hA := fdA_of z
      obtain ⟨n1, n2, n3, n4, n5, n6, n7, n8, n9, n10, n11, n12, n13, n14, n15⟩ := fd
      have e2 : (some (n1, n2, n3, n4, n5, n6, n7, n15) : He.FnW) = some (d_Library_busy.name, d_Library_busy.qual, d_Library_busy.params, FuncBody.stmts d_Library_busy.body, d_Library_busy.scope, mainGlobals, [], builtinsNs) := e
      simp only [Option.some.injEq, Prod.mk.injEq] at e2
      obtain ⟨h1, h2, h3, h4, h5, h6, h7, h8⟩ := e2
      subst h1 h2 h3 h4 h5 h6 h7 h8
      obtain ⟨k1, k2⟩ := He.ba (show (PySem.W.codeIn K n13 d_Library_busy.qual && _) = true from c2)
      obtain ⟨k3, k4⟩ := He.ba k2
      exact ⟨⟨oc, od, n8, n9, n10, n11, n12, n13, n14, osl, hA, by rw [hA]; exact z, k1, He.dflB_ok k3, He.kwdB_ok k4⟩, kp⟩
    | _ => cases c2
theorem relInt {i : Int} {u : Value} (h : RelV (.int i) u) : ∃ t, u = .int i t := h
theorem m1 : ("UnknownName" : Str) ∈ excNames := .head _
theorem m2 : ("NothingLeft" : Str) ∈ excNames := .tail _ (.head _)
theorem exN {x : Str} (hx : x ∈ (["UnknownName", "NothingLeft"] : List Str)) : x ∈ excNames := hx
variable (X : K.In h) (G : h.Ns mainGlobals mg) (c : SaysL w h K)
include c in
theorem SaysL.fac {f : He.Fa} (hf : f ∈ faL) : f.ok K = true := c.x.t.d.facts hf
include c in
theorem SaysL.ex (i : Nat) {b : Bool} (e : (exs K)[i]? = some b := by rfl) : b = true := ex_at c.x.more i e
theorem mem1 {a b : List He.Fa} {f : He.Fa} (h : f ∈ a) : f ∈ a ++ b := List.mem_append_left _ h
theorem mem2 {a b : List He.Fa} {f : He.Fa} (h : f ∈ b) : f ∈ a ++ b := List.mem_append_right _ h
include c in
theorem SaysL.e10 : (excNames.all fun x => lexB K (He.ga K x)) = true := c.ex 10
include c in
theorem SaysL.e11 : (excNames.all fun x => methTo K x "__init__" x && decide (PySem.W.typeIn K (.ref (He.ma K (He.ga K x) "__init__")) = some (.type "function"))) = true := c.ex 11
include c in
theorem SaysL.e12 : (excNames.all fun x => He.eqO (PySem.W.findIn K (.ref (He.ga K x)) "code") (some none) && He.eqO (PySem.W.findIn K (.ref (He.ga K x)) "name") (some none)) = true := c.ex 12
include X G c in
theorem SaysL.txt : Txt K mg where
  fn := fun i d hd => FD.of (c.x.t.d.def_ i hd)
  fc := fun i q hq => by
    have e2 : (fcs.map fun q => fnC K q.1.at_)[i]? = (fcs.map fun q => fnCv q.1)[i]? := by rw [c.fc]
    rw [List.getElem?_map, List.getElem?_map, hq] at e2
    exact fc_ok (Option.some.inj e2) (List.all_eq_true.mp (c.ex 0) q (List.mem_of_getElem? hq))
  glo := fun x hx => He.glo_ok X G (c.fac (mem1 (List.mem_map_of_mem hx)))
  kp := fun x hx => He.keep_ok (c.fac (mem2 (mem1 (List.mem_map_of_mem hx))))
  free := fun x hx => He.free_ok X G (c.fac (mem2 (mem2 (mem1 (List.mem_map_of_mem hx)))))
  cl := fun x hx => He.cls_ok (c.fac (mem2 (mem2 (mem2 (mem1 (List.mem_map_of_mem hx))))))
  no := fun p hp => He.noat_ok (c.fac (mem2 (mem2 (mem2 (mem2 (mem1 (List.mem_map.mpr ⟨p, hp, rfl⟩)))))))
  me := fun p hp => He.meth_ok (c.fac (mem2 (mem2 (mem2 (mem2 (mem2 (mem1 (List.mem_map.mpr ⟨p, hp, rfl⟩))))))))
  mkO := fun x hx => He.mkr_ok (c.fac (mem2 (mem2 (mem2 (mem2 (mem2 (mem2 (mem1 (List.mem_map_of_mem hx)))))))))
  vLETTERS := He.str_ok X G (c.fac (mem2 (mem2 (mem2 (mem2 (mem2 (mem2 (mem2 (.head _)))))))))
  vLet := He.int_ok X G (c.fac (mem2 (mem2 (mem2 (mem2 (mem2 (mem2 (mem2 (.tail _ (.head _))))))))))
  vTok := He.int_ok X G (c.fac (mem2 (mem2 (mem2 (mem2 (mem2 (mem2 (mem2 (.tail _ (.tail _ (.head _)))))))))))
  vWords := He.int_ok X G (c.fac (mem2 (mem2 (mem2 (mem2 (mem2 (mem2 (mem2 (.tail _ (.tail _ (.tail _ (.head _))))))))))))
  vLong := He.int_ok X G (c.fac (mem2 (mem2 (mem2 (mem2 (mem2 (mem2 (mem2 (.tail _ (.tail _ (.tail _ (.tail _ (.head _)))))))))))))
  vNames := He.int_ok X G (c.fac (mem2 (mem2 (mem2 (mem2 (mem2 (mem2 (mem2 (.tail _ (.tail _ (.tail _ (.tail _ (.tail _ (.head _))))))))))))))
include X G c in
theorem SaysL.txt2 : Txt2 K lawP mg where
  sup := (c.txt X G).f
  tok := fun cn h => methTo_ok (List.all_eq_true.mp (c.ex 1) cn h)
  nam := fun cn h => methTo_ok (List.all_eq_true.mp (c.ex 2) cn h)
  nee := fun cn h => methTo_ok (List.all_eq_true.mp (c.ex 3) cn h)
  mk2 := fun cn h => mkTo_ok (List.all_eq_true.mp (c.ex 4) cn h)
  fs := fun i q hq => fs_ok ((c.txt X G).fc i q hq) (List.all_eq_true.mp (c.ex 5) q (List.mem_of_getElem? hq)) (by decide +kernel)
  sm := fun cn h => supB_ok (List.all_eq_true.mp (c.ex 6) cn h)
  sn := supB_ok (c.ex 7)
  head := fun b => match b with
    | true => He.conB_ok (C := "Never") (c.ex 8)
    | false => He.conB_ok (C := "Blocks") (c.ex 9)
include c in
theorem SaysL.txt3 : Txt3 K where
  lexU := lexB_ok (List.all_eq_true.mp c.e10 "UnknownName" m1)
  lexN := lexB_ok (List.all_eq_true.mp c.e10 "NothingLeft" m2)
  iU := (methTo_ok (He.ba (List.all_eq_true.mp c.e11 "UnknownName" m1)).1).at_
  tU := of_decide_eq_true (He.ba (List.all_eq_true.mp c.e11 "UnknownName" m1)).2
  iN := (methTo_ok (He.ba (List.all_eq_true.mp c.e11 "NothingLeft" m2)).1).at_
  tN := of_decide_eq_true (He.ba (List.all_eq_true.mp c.e11 "NothingLeft" m2)).2
  noC := fun x hx => He.eqO_ok (He.ba (List.all_eq_true.mp c.e12 x hx)).1
  noN := He.eqO_ok (He.ba (List.all_eq_true.mp c.e12 "UnknownName" m1)).2
  vLE := valB_ok (c.ex 13)
  misR := ⟨(He.ba (c.ex 14)).1, He.eqO_ok (He.ba (c.ex 14)).2⟩
  misV := ⟨valB_ok (He.ba (c.ex 15)).1, rfl⟩
  misK := (He.ba (c.ex 15)).2
include X G c in
theorem SaysL.txt4 : Txt4 K w mg where
  vSIZES := He.glo_ok X G (c.fac (mem2 (mem2 (mem2 (mem2 (mem2 (mem2 (mem2 (.tail _ (.tail _ (.tail _ (.tail _ (.tail _ (.tail _ (.head _)))))))))))))))
  kd := c.x.t.tab 0
  at3 := fun x hx => by
    have hm : ((x, .int 3) : Str × He.Dv) ∈ ([("put", .int 3), ("change", .int 3), ("rename", .int 3), ("drop", .int 2)] : List (Str × He.Dv)) := by
      rcases List.mem_cons.mp hx with rfl | hx
      · exact .head _
      · rcases List.mem_cons.mp hx with rfl | hx
        · exact .tail _ (.head _)
        · rcases List.mem_cons.mp hx with rfl | hx
          · exact .tail _ (.tail _ (.head _))
          · cases hx
    obtain ⟨u, e, r⟩ := He.valsB_ok (c.ex 16) hm
    obtain ⟨t, rfl⟩ := relInt r
    exact ⟨t, e⟩
  at2 := by
    obtain ⟨u, e, r⟩ := He.valsB_ok (c.ex 16) (q := ("drop", .int 2)) (.tail _ (.tail _ (.tail _ (.head _))))
    obtain ⟨t, rfl⟩ := relInt r
    exact ⟨t, e⟩
include c in
theorem SaysL.txt5 : Txt5 K where
  xf := fun x hx => L2.xfB_ok (List.all_eq_true.mp (c.ex 17) x hx)
  noN := fun x hx => He.eqO_ok (He.ba (List.all_eq_true.mp c.e12 x hx)).2
  noC := fun x hx => He.eqO_ok (He.ba (List.all_eq_true.mp c.e12 x hx)).1
  ex := fun x hx => of_decide_eq_true (List.all_eq_true.mp (c.ex 18) x hx)
  seq := c.ex 19
include c in
theorem SaysL.busy : BusyP K where
  pb := by
    obtain ⟨c1, q⟩ := He.ba (show (He.eqO (PySem.W.findIn K (.ref (He.ga K "Library")) "busy") (some (some (.ref (He.ma K (He.ga K "Library") "busy")))) && _) = true from c.ex 20)
    obtain ⟨c2, q⟩ := He.ba q
    obtain ⟨c3, c4⟩ := He.ba q
    exact ⟨He.eqO_ok c1, He.eqO_ok c2, of_decide_eq_true c3, recB_ok c4⟩
  fb := busy_ok c.fb (c.ex 21)
end
end Lst

/-! ## LHead -/
namespace Lst
open PySem PySem.Spec PyProof.Rows L2
/-! the law at the head -/
theorem lawAt {w : World} {K : PySem.W.Frag} {h : Heap} {mg : Str → Option Value} {fa : Addr} (X : K.In h) (c : SaysL w h K) (G : h.Ns mainGlobals mg) (hfa : mg ("law" : Str) = some (.ref fa)) :
    LamX.LawAtS rwL w K CX0 17 63 "_law_script" mg fa h := by
  have T := c.txt X G
  have hg := T.g "law"
  rw [hfa] at hg
  cases hg
  have F : FD K d_law := T.f_law
  have hb := FunD.bindsA (ps := ["_law_script"]) F fun _ _ _ _ _ _ us hl => match us, hl with | [_], _ => rfl
  refine ⟨fdA K (He.ga K "law"), [He.cT K ("law", none)], sp_law K (He.cT K ("law", none)).2, fun p hp => ?_, fun p hp => ?_, fun p hp => ?_, fun s u => hb s [u] rfl, fun H a ns hl _ hT hS => ?_, fun base hK hN hTB => ?_⟩
  · rcases List.mem_singleton.mp hp with rfl
    exact c.x.empty _ (.head _)
  · rcases List.mem_singleton.mp hp with rfl
    exact c.x.out _ (.head _)
  · rcases List.mem_singleton.mp hp with rfl
    exact PySem.W.codeHd_of_K X (c.x.hd _ (.head _))
  · exact ⟨a, ns, rfl, hl, hT _ (.head _), hS, fun _ => rfl⟩
  · exact ok_law T (c.txt2 X G) c.txt3 (c.txt4 X G) c.txt5 c.busy (hTB _ (.head _))
end Lst
open PySem PySem.W PySem.Calls PyProof.Rows
theorem PySem.Challenge.cw_lastslip_k72_whole_steps_of_libraries_holds : PySem.Challenge.rw_lastslip_k72_whole_steps_of_libraries.Holds := by
  w_on; o_law
  refine HandSHeadRun.head_any (r := OpenLaw.row PySem.Challenge.rw_lastslip_k72_whole_steps_of_libraries) (q := view (OpenLaw.row PySem.Challenge.rw_lastslip_k72_whole_steps_of_libraries).prog [64]) (H := Lst.hookL) (ob := Lst.obL) (M := 20000) (loose := Lst.loose) (d := HandSHeadRun.topDef (OpenLaw.row PySem.Challenge.rw_lastslip_k72_whole_steps_of_libraries).prog 64) (kwd := []) Lst.obL_eq
    (by kernel_rfl) (fun s => by kernel_rfl) Lst.runL (by kernel_rfl) (by kernel_rfl) (by kernel_rfl) (by rfl) (by first | assumption | decide +kernel) (by decide +kernel) ⟨rfl, rfl, rfl, rfl, rfl, by decide +kernel⟩ ?hw ?hc
  case hw => w_witness2
  case hc =>
    refine LamX.walk_ofTsE (l := PySem.Challenge.rw_lastslip_k72_whole_steps_of_libraries) (n := 63) (k := 17) (x := "_law_script") (CX := fun _ => L2.CX0) rfl (by decide) (by kernel_rfl) ⟨rfl, by decide, by decide⟩ ?F (fun _ _ _ _ _ z => z)
    intro w mg fa h Y G hmg0
    obtain ⟨K, KX, c⟩ := Y
    have hmg : mg ("law" : PySem.Str) = some (.ref fa) := by
      have e : (HandSHeadRun.topDef (OpenLaw.row PySem.Challenge.rw_lastslip_k72_whole_steps_of_libraries).prog 64).name = ("law" : PySem.Str) := by kernel_rfl
      rw [← e]
      exact hmg0
    exact ⟨K, KX, Lst.lawAt KX c G hmg⟩
